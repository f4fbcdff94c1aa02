import PyProof.Rows.All
import Wide.All
import OpenK.AllK
import Wide.FinOn
import HandS.ForMost
import HandS.Exc
import HandS.TryOnly
import HandS.ExcOwn
import HandS.WordsExc
import HandS.IsInst
import HandS.Wide
import HandS.More
import HandS.SortInts
import HandS.Defaults
import HandS.CallSlots
import HandS.Flow
import HandS.Lambda
import HandS.EndTab
import HandS.TupAny
import HandS.TupMul
import HandS.Style
import HandS.Deep
import HandS.SetFor
import HandS.Iter
import HandS.NoneIn
import HandS.Remove
import HandS.Strs
import HandS.Head0
import HandS.Head1
import HandS.Head2
import HandS.HeadEnd
import HandS.HeadHook1
import HandS.HeadHook2
import PySem.Challenge.RW_couponbooks_k01_kinds_and_rows
import KE.KStateDown
import Lean
set_option Elab.async false
set_option linter.all false
set_option maxRecDepth 100000
set_option maxHeartbeats 0
/-! The data level: what an expression, a statement, a def is worth in plain data. -/
namespace Cb
open PySem PySem.Spec PyProof.Rows L2
/-! ### results -/
inductive R (α : Type) where
  | bad
  | ok (a : α)
  | err (x : Str)
namespace R
def bind {α β : Type} (m : R α) (f : α → R β) : R β := match m with
  | .bad => .bad
  | .ok a => f a
  | .err x => .err x
instance : Monad R where
  pure := R.ok
  bind := R.bind
@[simp] theorem ok_bind {α β : Type} (a : α) (f : α → R β) : (R.ok a >>= f) = f a := rfl
@[simp] theorem bad_bind {α β : Type} (f : α → R β) : ((R.bad : R α) >>= f) = R.bad := rfl
@[simp] theorem err_bind {α β : Type} (x : Str) (f : α → R β) : ((R.err x : R α) >>= f) = R.err x := rfl
@[simp] theorem pure_ok {α : Type} (a : α) : (pure a : R α) = R.ok a := rfl
end R
/-! ### heaps: all but the code objects' tables stays -/
def nT : HO → Bool
  | .tbl _ => false
  | _ => true
structure Sam (H H' : Hp) : Prop where
  keep : ∀ (b : Addr) (o : HO), H b = some o → nT o = true → H' b = some o
  tbls : ∀ (b : Addr) (ps : Array Value), H b = some (.tbl ps) → ∃ ps', H' b = some (.tbl ps')
theorem Sam.refl (H : Hp) : Sam H H := ⟨fun _ _ h _ => h, fun _ ps h => ⟨ps, h⟩⟩
theorem Sam.of {H H' : Hp} (e : ∀ b o, H b = some o → H' b = some o) : Sam H H' := ⟨fun b o h _ => e b o h, fun b ps h => ⟨ps, e b _ h⟩⟩
theorem Sam.trans {H H1 H2 : Hp} (a : Sam H H1) (b : Sam H1 H2) : Sam H H2 := ⟨fun c o h n => b.keep c o (a.keep c o h n) n, fun c ps h => by
  obtain ⟨ps1, h1⟩ := a.tbls c ps h
  exact b.tbls c ps1 h1⟩
theorem Sam.some {H H' : Hp} (e : Sam H H') {b : Addr} {o : HO} (h : H b = some o) : ∃ o', H' b = Option.some o' := by
  cases o with
  | tbl ps =>
    obtain ⟨ps', h'⟩ := e.tbls b ps h
    exact ⟨_, h'⟩
  | _ => exact ⟨_, e.keep b _ h rfl⟩
theorem Sam.free {H H' : Hp} (e : Sam H H') {l : Addr} (h : H' l = Option.none) : H l = Option.none := by
  cases q : H l with
  | none => rfl
  | some o =>
    obtain ⟨o', z⟩ := e.some q
    rw [z] at h
    cases h
theorem Sam.seq {K : PySem.W.Frag} {H H' : Hp} {a : Addr} {xs : List V} (e : Sam H H') (h : SqL K H a xs) : SqL K H' a xs := by
  rcases h with (h | ⟨o, h⟩) | h
  · exact .inl (.inl (e.keep _ _ h rfl))
  · exact .inl (.inr ⟨o, e.keep _ _ h rfl⟩)
  · exact .inr h
/-! ### data in the heap -/
def kD : Key → PyData
  | .inl i => .int i
  | .inr x => .str x
mutual
inductive Dq (K : PySem.W.Frag) (H : Hp) : V → PyData → Prop
  | non : Dq K H .non .none
  | bl (b : Bool) : Dq K H (.bl b) (.bool b)
  | int (i : Int) : Dq K H (.int i) (.int i)
  | str (x : Str) : Dq K H (.str x) (.str x)
  | lst {a : Addr} {xs : List V} {ds : List PyData} : SqL K H a xs → DqAll K H xs ds → Dq K H (.ref a) (.list ds)
  | tup {a : Addr} {xs : List V} {ds : List PyData} : SqT K H a xs → DqAll K H xs ds → Dq K H (.ref a) (.tuple ds)
  | dct {a : Addr} {kvs : List (Key × V)} {ds : List (PyData × PyData)} : H a = some (.dK kvs) → DqKV K H kvs ds → Dq K H (.ref a) (.dict ds)
inductive DqAll (K : PySem.W.Frag) (H : Hp) : List V → List PyData → Prop
  | nil : DqAll K H [] []
  | cons {v : V} {vs : List V} {d : PyData} {ds : List PyData} : Dq K H v d → DqAll K H vs ds → DqAll K H (v :: vs) (d :: ds)
inductive DqKV (K : PySem.W.Frag) (H : Hp) : List (Key × V) → List (PyData × PyData) → Prop
  | nil : DqKV K H [] []
  | cons {k : Key} {v : V} {kvs : List (Key × V)} {d : PyData} {ds : List (PyData × PyData)} : Dq K H v d → DqKV K H kvs ds → DqKV K H ((k, v) :: kvs) ((kD k, d) :: ds)
end
theorem sqT_mono {K : PySem.W.Frag} {H H' : Hp} {a : Addr} {xs : List V} (e : Sam H H') (h : SqT K H a xs) : SqT K H' a xs := by
  rcases h with (h | ⟨o, h⟩) | h
  · exact .inl (.inl (e.keep _ _ h rfl))
  · exact .inl (.inr ⟨o, e.keep _ _ h rfl⟩)
  · exact .inr h
mutual
theorem Dq.mono {K : PySem.W.Frag} {H H' : Hp} (e : Sam H H') : ∀ {v : V} {d : PyData}, Dq K H v d → Dq K H' v d
  | _, _, .non => .non
  | _, _, .bl b => .bl b
  | _, _, .int i => .int i
  | _, _, .str x => .str x
  | _, _, .lst h a => .lst (e.seq h) (DqAll.mono e a)
  | _, _, .tup h a => .tup (sqT_mono e h) (DqAll.mono e a)
  | _, _, .dct h a => .dct (e.keep _ _ h rfl) (DqKV.mono e a)
theorem DqAll.mono {K : PySem.W.Frag} {H H' : Hp} (e : Sam H H') : ∀ {vs : List V} {ds : List PyData}, DqAll K H vs ds → DqAll K H' vs ds
  | _, _, .nil => .nil
  | _, _, .cons h t => .cons (Dq.mono e h) (DqAll.mono e t)
theorem DqKV.mono {K : PySem.W.Frag} {H H' : Hp} (e : Sam H H') : ∀ {vs : List (Key × V)} {ds : List (PyData × PyData)}, DqKV K H vs ds → DqKV K H' vs ds
  | _, _, .nil => .nil
  | _, _, .cons h t => .cons (Dq.mono e h) (DqKV.mono e t)
end
theorem DqAll.length {K : PySem.W.Frag} {H : Hp} : ∀ {vs : List V} {ds : List PyData}, DqAll K H vs ds → vs.length = ds.length
  | _, _, .nil => rfl
  | _, _, .cons _ t => congrArg Nat.succ (DqAll.length t)
theorem DqAll.get {K : PySem.W.Frag} {H : Hp} : ∀ {vs : List V} {ds : List PyData} {i : Nat} {d : PyData}, DqAll K H vs ds → ds[i]? = some d → ∃ v, vs[i]? = some v ∧ Dq K H v d
  | _, _, _, _, .nil, e => by simp at e
  | _, _, 0, _, .cons h _, e => by
    simp at e
    subst e
    exact ⟨_, rfl, h⟩
  | _, _, i + 1, _, .cons _ t, e => by
    obtain ⟨v, h1, h2⟩ := DqAll.get (i := i) t (by simpa using e)
    exact ⟨v, by simpa using h1, h2⟩
theorem DqAll.at {K : PySem.W.Frag} {H : Hp} : ∀ {vs : List V} {ds : List PyData} {i : Nat} {v : V}, DqAll K H vs ds → vs[i]? = some v → ∃ d, ds[i]? = some d ∧ Dq K H v d
  | _, _, _, _, .nil, e => by simp at e
  | _, _, 0, _, .cons h _, e => by
    simp at e
    subst e
    exact ⟨_, rfl, h⟩
  | _, _, i + 1, _, .cons _ t, e => by
    obtain ⟨v, h1, h2⟩ := DqAll.at (i := i) t (by simpa using e)
    exact ⟨v, by simpa using h1, h2⟩
theorem DqAll.append {K : PySem.W.Frag} {H : Hp} : ∀ {vs ws : List V} {ds es : List PyData}, DqAll K H vs ds → DqAll K H ws es → DqAll K H (vs ++ ws) (ds ++ es)
  | _, _, _, _, .nil, h => h
  | _, _, _, _, .cons h t, k => .cons h (DqAll.append t k)
theorem DqAll.drop {K : PySem.W.Frag} {H : Hp} : ∀ {vs : List V} {ds : List PyData} (n : Nat), DqAll K H vs ds → DqAll K H (vs.drop n) (ds.drop n)
  | _, _, 0, h => h
  | _, _, _ + 1, .nil => .nil
  | _, _, n + 1, .cons _ t => DqAll.drop n t
theorem DqAll.take {K : PySem.W.Frag} {H : Hp} : ∀ {vs : List V} {ds : List PyData} (n : Nat), DqAll K H vs ds → DqAll K H (vs.take n) (ds.take n)
  | _, _, 0, _ => .nil
  | _, _, _ + 1, .nil => .nil
  | _, _, n + 1, .cons h t => .cons h (DqAll.take n t)
/-! ### a heap and its frozen part grow -/
structure Grow (T : List (Addr × Str)) (F H F' H' : Hp) : Prop where
  hh : Sam H H'
  tb : LamX.Tabs T H → LamX.Tabs T H'
  ff : Sam F F'
  fh : Sam F' H'
  nw : ∀ a, F a = none → H a ≠ none → F' a = none
section
variable {T : List (Addr × Str)} {F H F1 H1 F2 H2 : Hp} {p : Addr} {o : HO}
theorem upd_new (h : H p = none) : ∀ b x, H b = some x → upd H p o b = some x := fun b x e => by
  rw [upd_ne (ne_of_none e h)]
  exact e
theorem same_new (h : H p = none) : Sam H (upd H p o) := .of (upd_new h)
/-- an object that is no table and no code object changes: the tables stand -/
def flatO : HO → Bool
  | .tbl _ => false
  | .ext _ => false
  | _ => true
theorem tabs_mut {o1 : HO} (hp : H p = some o1) (hf : flatO o1 = true) (t : LamX.Tabs T H) : LamX.Tabs T (upd H p o) := fun q hq => by
  obtain ⟨ps, h1, h2, h3⟩ := t q hq
  have n1 : q.1 ≠ p := fun z => by
    rw [z, hp] at h1
    cases h1
    cases hf
  refine ⟨ps, by rw [upd_ne n1]; exact h1, h2, fun pos cv hc => ?_⟩
  obtain ⟨c, e1, e2⟩ := h3 pos cv hc
  have n2 : c ≠ p := fun z => by
    rw [z, hp] at e2
    cases e2
    cases hf
  exact ⟨c, e1, by rw [upd_ne n2]; exact e2⟩
theorem Grow.refl (e : Sam F H) : Grow T F H F H := ⟨.refl _, id, .refl _, e, fun _ h _ => h⟩
theorem Grow.trans (g : Grow T F H F1 H1) (k : Grow T F1 H1 F2 H2) : Grow T F H F2 H2 :=
  ⟨g.hh.trans k.hh, fun t => k.tb (g.tb t), g.ff.trans k.ff, k.fh, fun a h1 h2 => k.nw a (g.nw a h1 h2) fun e => h2 (g.hh.free e)⟩
theorem sam_updB (e : Sam F H) (h : H p = none) : Sam (upd F p o) (upd H p o) where
  keep := fun b x q n => by
    by_cases hb : b = p
    · subst hb
      rw [upd_same] at q
      rw [upd_same]
      exact q
    · rw [upd_ne hb] at q
      rw [upd_ne hb]
      exact e.keep b x q n
  tbls := fun b ps q => by
    by_cases hb : b = p
    · subst hb
      rw [upd_same] at q
      rw [upd_same]
      exact ⟨ps, q⟩
    · rw [upd_ne hb] at q
      rw [upd_ne hb]
      exact e.tbls b ps q
/-- a new object, frozen at once -/
theorem Grow.new (e : Sam F H) (h : H p = none) : Grow T F H (upd F p o) (upd H p o) where
  hh := same_new h
  tb := fun t => t.ext (upd_new h)
  ff := same_new (e.free h)
  fh := sam_updB e h
  nw := fun a h1 h2 => by
    rw [upd_ne (fun z => h2 (by rw [z]; exact h))]
    exact h1
/-- a new object of one's own -/
theorem Grow.own (e : Sam F H) (h : H p = none) : Grow T F H F (upd H p o) :=
  ⟨same_new h, fun t => t.ext (upd_new h), .refl _, e.trans (same_new h), fun _ h1 _ => h1⟩
/-- an owned object is frozen -/
theorem Grow.frz {F0 H0 : Hp} (g : Grow T F0 H0 F H) (h0 : H0 p = none) (hF : F p = none) (hp : H p = some o) (hn : nT o = true := by rfl) : Grow T F0 H0 (upd F p o) H where
  hh := g.hh
  tb := g.tb
  ff := g.ff.trans (same_new hF)
  fh := ⟨fun b x q n => by
    by_cases hb : b = p
    · subst hb
      rw [upd_same] at q
      rw [hp]
      exact q
    · rw [upd_ne hb] at q
      exact g.fh.keep b x q n, fun b ps q => by
    by_cases hb : b = p
    · subst hb
      rw [upd_same] at q
      cases q
      cases hn
    · rw [upd_ne hb] at q
      exact g.fh.tbls b ps q⟩
  nw := fun a h1 h2 => by
    rw [upd_ne (fun z => h2 (by rw [z]; exact h0))]
    exact g.nw a h1 h2
theorem sam_upd_none (e : Sam F H) (h : F p = none) : Sam F (upd H p o) :=
  ⟨fun b x q n => by
    rw [upd_ne (ne_of_none q h)]
    exact e.keep b x q n, fun b ps q => by
    rw [upd_ne (ne_of_none q h)]
    exact e.tbls b ps q⟩
/-- an owned object is changed -/
theorem Grow.mut {F0 H0 : Hp} {o1 : HO} (g : Grow T F0 H0 F H) (h0 : H0 p = none) (hF : F p = none) (hp : H p = some o1) (hf : flatO o1 = true) : Grow T F0 H0 F (upd H p o) where
  hh := sam_upd_none g.hh h0
  tb := fun t => tabs_mut hp hf (g.tb t)
  ff := g.ff
  fh := sam_upd_none g.fh hF
  nw := g.nw
end
/-! ### a frame's slots -/
inductive Sl where
  | no
  | im (d : PyData)
  | bw (d : PyData)
  | ow (d : PyData)
abbrev DS := List Sl
def Own (K : PySem.W.Frag) (F H : Hp) (p : Addr) : PyData → Prop
  | .list ds => ∃ vs, H p = some (.lst vs) ∧ DqAll K F vs ds
  | .dict kvs => ∃ l, H p = some (.dK l) ∧ DqKV K F l kvs
  | _ => False
theorem Own.there {K : PySem.W.Frag} {F H : Hp} {p : Addr} {d : PyData} (h : Own K F H p d) : ∃ o, H p = some o ∧ flatO o = true ∧ nT o = true := by
  cases d with
  | list ds => obtain ⟨vs, e, _⟩ := h; exact ⟨_, e, rfl, rfl⟩
  | dict ds => obtain ⟨vs, e, _⟩ := h; exact ⟨_, e, rfl, rfl⟩
  | _ => exact h.elim
theorem Own.mono {K : PySem.W.Frag} {F H F' H' : Hp} {p : Addr} {d : PyData} (h : Own K F H p d) (f : Sam F F') (e : ∀ o, H p = some o → nT o = true → H' p = some o) : Own K F' H' p d := by
  cases d with
  | list ds => obtain ⟨vs, q, a⟩ := h; exact ⟨vs, e _ q rfl, a.mono f⟩
  | dict ds => obtain ⟨vs, q, a⟩ := h; exact ⟨vs, e _ q rfl, a.mono f⟩
  | _ => exact h.elim
/-- read while it stands -/
theorem Own.dq {K : PySem.W.Frag} {F H : Hp} {p : Addr} {d : PyData} (h : Own K F H p d) (f : Sam F H) : Dq K H (.ref p) d := by
  cases d with
  | list ds => obtain ⟨vs, q, a⟩ := h; exact .lst (.of q) (a.mono f)
  | dict ds => obtain ⟨vs, q, a⟩ := h; exact .dct q (a.mono f)
  | _ => exact h.elim
/-- what one def's body runs in: the frozen part and the heap at its entry, where its errors' classes stand, what is wanted of an error -/
structure Bk where
  T : List (Addr × Str)
  F0 : Hp
  H0 : Hp
  cl : Str → Addr
  E : XK
def SlOk (K : PySem.W.Frag) (c : Bk) (F H : Hp) (v : Option (Option V)) : Sl → Prop
  | .no => True
  | .im d => ∃ x, v = some (some x) ∧ Dq K F x d
  | .bw d => ∃ x, v = some (some x) ∧ Dq K c.H0 x d
  | .ow d => ∃ p, v = some (some (.ref p)) ∧ c.H0 p = none ∧ F p = none ∧ Own K F H p d
structure Stt (K : PySem.W.Frag) (c : Bk) (F H : Hp) (σ : L2.St) (ds : DS) : Prop where
  gr : Grow c.T c.F0 c.H0 F H
  tb : LamX.Tabs c.T H
  len : σ.length = ds.length
  sl : ∀ (i : Nat) (s : Sl), ds[i]? = some s → SlOk K c F H σ[i]? s
  di : ∀ (i j : Nat) (p : Addr) (d e : PyData), i ≠ j → ds[i]? = some (.ow d) → ds[j]? = some (.ow e) → σ[i]? = some (some (.ref p)) → σ[j]? ≠ some (some (.ref p))
section
variable {K : PySem.W.Frag} {c : Bk} {F H F1 H1 : Hp} {σ : L2.St} {ds : DS}
theorem Stt.fh (e : Stt K c F H σ ds) : Sam F H := e.gr.fh
theorem Stt.grow (e : Stt K c F H σ ds) (g : Grow c.T F H F1 H1) : Stt K c F1 H1 σ ds where
  gr := e.gr.trans g
  tb := g.tb e.tb
  len := e.len
  sl := fun i s h => by
    have q := e.sl i s h
    cases s with
    | no => trivial
    | im d => obtain ⟨x, e1, e2⟩ := q; exact ⟨x, e1, e2.mono g.ff⟩
    | bw d => exact q
    | ow d =>
      obtain ⟨p, e1, e2, e3, e4⟩ := q
      obtain ⟨o, ho, _⟩ := e4.there
      exact ⟨p, e1, e2, g.nw p e3 (by rw [ho]; simp), e4.mono g.ff (fun o' h' n => g.hh.keep _ _ h' n)⟩
  di := e.di
theorem get_set {α : Type} {l : List α} {i j : Nat} {a : α} : (l.set i a)[j]? = if i = j ∧ i < l.length then some a else l[j]? := by
  rw [List.getElem?_set]
  by_cases h : i = j
  · subst h
    by_cases h2 : i < l.length
    · simp [h2]
    · simp [h2]
  · simp [h]
/-- a slot gets a frozen thing -/
theorem Stt.set {i : Nat} {v : V} {d : PyData} (e : Stt K c F H σ ds) (h : Dq K F v d) : Stt K c F H (σ.set i (some v)) (ds.set i (.im d)) where
  gr := e.gr
  tb := e.tb
  len := by rw [List.length_set, List.length_set]; exact e.len
  sl := fun j s q => by
    rw [get_set] at q
    rw [get_set]
    by_cases hij : i = j ∧ i < ds.length
    · rw [if_pos hij] at q
      cases q
      rw [if_pos (by rw [e.len]; exact hij)]
      exact ⟨v, rfl, h⟩
    · rw [if_neg hij] at q
      rw [if_neg (by rw [e.len]; exact hij)]
      exact e.sl j s q
  di := fun j k p d1 d2 hjk q1 q2 q3 => by
    rw [get_set] at q1 q2 q3
    rw [get_set]
    by_cases h1 : i = j ∧ i < ds.length
    · rw [if_pos h1] at q1
      cases q1
    · by_cases h2 : i = k ∧ i < ds.length
      · rw [if_pos h2] at q2
        cases q2
      · rw [if_neg h1] at q1
        rw [if_neg h2] at q2
        rw [if_neg (by rw [e.len]; exact h1)] at q3
        rw [if_neg (by rw [e.len]; exact h2)]
        exact e.di j k p d1 d2 hjk q1 q2 q3
/-- a slot is forgotten -/
theorem Stt.forget {i : Nat} {o : Option V} (e : Stt K c F H σ ds) : Stt K c F H (σ.set i o) (ds.set i .no) where
  gr := e.gr
  tb := e.tb
  len := by rw [List.length_set, List.length_set]; exact e.len
  sl := fun j s q => by
    rw [get_set] at q
    rw [get_set]
    by_cases hij : i = j ∧ i < ds.length
    · rw [if_pos hij] at q
      cases q
      trivial
    · rw [if_neg hij] at q
      rw [if_neg (by rw [e.len]; exact hij)]
      exact e.sl j s q
  di := fun j k p d1 d2 hjk q1 q2 q3 => by
    rw [get_set] at q1 q2 q3
    rw [get_set]
    by_cases h1 : i = j ∧ i < ds.length
    · rw [if_pos h1] at q1
      cases q1
    · by_cases h2 : i = k ∧ i < ds.length
      · rw [if_pos h2] at q2
        cases q2
      · rw [if_neg h1] at q1
        rw [if_neg h2] at q2
        rw [if_neg (by rw [e.len]; exact h1)] at q3
        rw [if_neg (by rw [e.len]; exact h2)]
        exact e.di j k p d1 d2 hjk q1 q2 q3
/-- a slot gets a new object of one's own: no other owned slot holds it -/
theorem Stt.setN {i : Nat} {p : Addr} {d : PyData} (e : Stt K c F H σ ds) (h0 : c.H0 p = none) (hF : F p = none) (ho : Own K F H p d)
    (hn : ∀ (j : Nat) (d' : PyData), ds[j]? = some (.ow d') → j ≠ i → σ[j]? ≠ some (some (.ref p))) : Stt K c F H (σ.set i (some (.ref p))) (ds.set i (.ow d)) where
  gr := e.gr
  tb := e.tb
  len := by rw [List.length_set, List.length_set]; exact e.len
  sl := fun j s q => by
    rw [get_set] at q
    rw [get_set]
    by_cases hij : i = j ∧ i < ds.length
    · rw [if_pos hij] at q
      cases q
      rw [if_pos (by rw [e.len]; exact hij)]
      exact ⟨p, rfl, h0, hF, ho⟩
    · rw [if_neg hij] at q
      rw [if_neg (by rw [e.len]; exact hij)]
      exact e.sl j s q
  di := fun j k p' d1 d2 hjk q1 q2 q3 => by
    rw [get_set] at q1 q2 q3
    rw [get_set]
    by_cases h1 : i = j ∧ i < ds.length
    · rw [if_pos (by rw [e.len]; exact h1)] at q3
      have ep : p = p' := by
        have z := Option.some.inj (Option.some.inj q3)
        exact V.ref.inj z
      subst ep
      by_cases h2 : i = k ∧ i < ds.length
      · exact absurd (h1.1.symm.trans h2.1) hjk
      · rw [if_neg h2] at q2
        rw [if_neg (by rw [e.len]; exact h2)]
        exact hn k d2 q2 (fun z => hjk (h1.1.symm.trans z.symm))
    · rw [if_neg h1] at q1
      rw [if_neg (by rw [e.len]; exact h1)] at q3
      by_cases h2 : i = k ∧ i < ds.length
      · rw [if_pos (by rw [e.len]; exact h2)]
        intro z
        have ep : p = p' := by
          have z := Option.some.inj (Option.some.inj z)
          exact V.ref.inj z
        subst ep
        exact hn j d1 q1 (fun z => hjk (z.trans h2.1)) q3
      · rw [if_neg h2] at q2
        rw [if_neg (by rw [e.len]; exact h2)]
        exact e.di j k p' d1 d2 hjk q1 q2 q3
/-- the object of an owned slot changes -/
theorem Stt.mut {i : Nat} {p : Addr} {d d' : PyData} {o : HO} (e : Stt K c F H σ ds) (hi : ds[i]? = some (.ow d)) (hp : σ[i]? = some (some (.ref p))) (ho : Own K F (upd H p o) p d') : Stt K c F (upd H p o) σ (ds.set i (.ow d')) := by
  obtain ⟨p', e1, e2, e3, e4⟩ := e.sl i _ hi
  have ep : p = p' := by
    rw [e1] at hp
    exact (V.ref.inj (Option.some.inj (Option.some.inj hp))).symm
  subst ep
  have hlt : i < ds.length := (List.getElem?_eq_some_iff.mp hi).1
  obtain ⟨o1, ho1, ho2, _⟩ := e4.there
  refine ⟨e.gr.mut e2 e3 ho1 ho2, tabs_mut ho1 ho2 e.tb, by rw [List.length_set]; exact e.len, fun j s q => ?_, fun j k p' d1 d2 hjk q1 q2 q3 => ?_⟩
  · rw [get_set] at q
    by_cases hij : i = j ∧ i < ds.length
    · rw [if_pos hij] at q
      cases q
      rw [← hij.1]
      exact ⟨p, e1, e2, e3, ho⟩
    · rw [if_neg hij] at q
      have r := e.sl j s q
      cases s with
      | no => trivial
      | im x => exact r
      | bw x => exact r
      | ow x =>
        obtain ⟨p2, r1, r2, r3, r4⟩ := r
        have ne : p2 ≠ p := fun z => by
          subst z
          exact e.di i j p2 d x (fun z => hij ⟨z, hlt⟩) hi q e1 r1
        exact ⟨p2, r1, r2, r3, r4.mono (.refl _) fun o' h' _ => by rw [upd_ne ne]; exact h'⟩
  · have f : ∀ {m : Nat} {z : PyData}, (ds.set i (.ow d'))[m]? = some (.ow z) → ∃ z', ds[m]? = some (.ow z') := fun {m z} q => by
      rw [get_set] at q
      by_cases hij : i = m ∧ i < ds.length
      · rw [← hij.1]
        exact ⟨d, hi⟩
      · rw [if_neg hij] at q
        exact ⟨z, q⟩
    obtain ⟨z1, w1⟩ := f q1
    obtain ⟨z2, w2⟩ := f q2
    exact e.di j k p' z1 z2 hjk w1 w2 q3
end
end Cb
namespace Cb
open PySem PySem.Spec PyProof.Rows L2
/-! ### readings by data -/
abbrev ES := DS → R PyData
def wErr (c : Bk) (x : Str) : Prop := ∀ H', Sam c.H0 H' → LamX.Tabs c.T H' → c.E (.ref (c.cl x)) none H'
def wP (K : PySem.W.Frag) (c : Bk) (F H : Hp) (Q : VK) : R PyData → Prop
  | .bad => False
  | .ok d => ∀ v F' H', Grow c.T F H F' H' → Dq K F' v d → Q v H'
  | .err x => wErr c x
def wT (K : PySem.W.Frag) (c : Bk) (F H : Hp) (Q : VK) : R PyData → Prop
  | .bad => False
  | .ok d => ∀ v F' H', Grow c.T F H F' H' → Dq K H' v d → Q v H'
  | .err x => wErr c x
def wN (K : PySem.W.Frag) (c : Bk) (F H : Hp) (Q : VK) : R PyData → Prop
  | .bad => False
  | .ok d => ∀ p F' H', Grow c.T F H F' H' → H p = none → F' p = none → Own K F' H' p d → Q (.ref p) H'
  | .err x => wErr c x
def wB (c : Bk) (F H : Hp) (Q : Bool → Hp → Prop) : R Bool → Prop
  | .bad => False
  | .ok b => ∀ F' H', Grow c.T F H F' H' → Q b H'
  | .err x => wErr c x
/-- a lasting thing; one that lasts until the next change; a new one of one's own; a test -/
def qP (K : PySem.W.Frag) (c : Bk) (f : ES) : TE := fun σ H Q => ∃ ds F, Stt K c F H σ ds ∧ wP K c F H Q (f ds)
def qT (K : PySem.W.Frag) (c : Bk) (f : ES) : TE := fun σ H Q => ∃ ds F, Stt K c F H σ ds ∧ wT K c F H Q (f ds)
def qN (K : PySem.W.Frag) (c : Bk) (f : ES) : TE := fun σ H Q => ∃ ds F, Stt K c F H σ ds ∧ wN K c F H Q (f ds)
def qB (K : PySem.W.Frag) (c : Bk) (f : DS → R Bool) : TT := fun σ H Q => ∃ ds F, Stt K c F H σ ds ∧ wB c F H Q (f ds)
section
variable {X : Cx} {e a b : Expr} {c : Bk} {f fa fb : ES} {pos : Pos}
theorem pe_imp {t t' : TE} (h : PE X e t) (i : ∀ σ H Q, t' σ H Q → t σ H Q) : PE X e t' := ⟨fun pins s σ H Q I q => h.run pins s σ H Q I (i σ H Q q)⟩
theorem pt_imp {t t' : TT} (h : PT X e t) (i : ∀ σ H Q, t' σ H Q → t σ H Q) : PT X e t' := ⟨fun pins s σ H Q I q => h.run pins s σ H Q I (i σ H Q q)⟩
theorem pw_imp {t t' : TT} (h : PW X e t) (i : ∀ σ H Q, t' σ H Q → t σ H Q) : PW X e t' := ⟨fun wh pins s σ H Q I q => h.run wh pins s σ H Q I (i σ H Q q)⟩
theorem pa_imp {es : List Expr} {t t' : TA} (h : PA X es t) (i : ∀ σ H Q, t' σ H Q → t σ H Q) : PA X es t' := ⟨fun p pins s σ H Q I q => h.run p pins s σ H Q I (i σ H Q q)⟩
theorem pi_imp {tg : Expr} {t t' : TI} (h : PI X tg e t) (i : ∀ σ H Q, t' σ H Q → t σ H Q) : PI X tg e t' := ⟨fun pins s σ H Q I q => h.run pins s σ H Q I (i σ H Q q)⟩
theorem ps_imp {st : Stmt} {t t' : TS} (h : PS X st t) (i : ∀ D σ H, t' D σ H → t D σ H) : PS X st t' := ⟨fun pins s σ H D I q => h.run pins s σ H D I (i D σ H q)⟩
theorem pss_imp {st : List Stmt} {t t' : TS} (h : PSs X st t) (i : ∀ D σ H, t' D σ H → t D σ H) : PSs X st t' := ⟨fun pins s σ H D I q => h.run pins s σ H D I (i D σ H q)⟩
theorem d_pt (h : PE X e (qP X.K c f)) : PE X e (qT X.K c f) := pe_imp h fun σ H Q ⟨ds, F, s, w⟩ => ⟨ds, F, s, by
  cases hf : f ds with
  | bad => rw [hf] at w; exact w
  | err x => rw [hf] at w; exact w
  | ok d =>
    rw [hf] at w
    exact fun v F' H' g q => w v F' H' g (q.mono g.fh)⟩
theorem d_np (h : PE X e (qN X.K c f)) : PE X e (qP X.K c f) := pe_imp h fun σ H Q ⟨ds, F, s, w⟩ => ⟨ds, F, s, by
  cases hf : f ds with
  | bad => rw [hf] at w; exact w
  | err x => rw [hf] at w; exact w
  | ok d =>
    rw [hf] at w
    intro p F' H' g hp hF ho
    cases d with
    | list xs =>
      obtain ⟨vs, e1, e2⟩ := ho
      exact w _ _ _ (g.frz hp hF e1) (.lst (.of upd_same) (e2.mono (same_new hF)))
    | dict xs =>
      obtain ⟨vs, e1, e2⟩ := ho
      exact w _ _ _ (g.frz hp hF e1) (.dct upd_same (e2.mono (same_new hF)))
    | _ => exact ho.elim⟩
theorem d_nt (h : PE X e (qN X.K c f)) : PE X e (qT X.K c f) := d_pt (d_np h)
/-! ### names, constants -/
def vP (i : Nat) : ES := fun ds => match ds[i]? with
  | some (.im d) => .ok d
  | _ => .bad
def vT (i : Nat) : ES := fun ds => match ds[i]? with
  | some (.im d) => .ok d
  | some (.bw d) => .ok d
  | some (.ow d) => .ok d
  | _ => .bad
def cS (d : PyData) : ES := fun _ => .ok d
theorem t_vP {K : PySem.W.Frag} {i : Nat} {σ : L2.St} {H : Hp} {Q : VK} (h : qP K c (vP i) σ H Q) : tVar i σ H Q := by
  obtain ⟨ds, F, s, w⟩ := h
  unfold vP at w
  cases hd : ds[i]? with
  | none => rw [hd] at w; exact w.elim
  | some x =>
    rw [hd] at w
    cases x with
    | im d =>
      obtain ⟨v, e1, e2⟩ := s.sl i _ hd
      exact ⟨v, e1, w v F H (.refl s.fh) e2⟩
    | _ => exact w.elim
theorem t_vT {K : PySem.W.Frag} {i : Nat} {σ : L2.St} {H : Hp} {Q : VK} (h : qT K c (vT i) σ H Q) : tVar i σ H Q := by
  obtain ⟨ds, F, s, w⟩ := h
  unfold vT at w
  cases hd : ds[i]? with
  | none => rw [hd] at w; exact w.elim
  | some x =>
    rw [hd] at w
    cases x with
    | im d =>
      obtain ⟨v, e1, e2⟩ := s.sl i _ hd
      exact ⟨v, e1, w v F H (.refl s.fh) (e2.mono s.fh)⟩
    | bw d =>
      obtain ⟨v, e1, e2⟩ := s.sl i _ hd
      exact ⟨v, e1, w v F H (.refl s.fh) (e2.mono s.gr.hh)⟩
    | ow d =>
      obtain ⟨p, e1, e2, e3, e4⟩ := s.sl i _ hd
      exact ⟨_, e1, w _ F H (.refl s.fh) (e4.dq s.fh)⟩
    | no => exact w.elim
theorem d_v (i : Nat) {x : Str} (hN : X.N[i]? = some x := by rfl) (hv : Vis X.env.scope x := by first | exact Or.inl rfl | exact Or.inr (Or.inl rfl) | exact Or.inr (Or.inr rfl)) (hd : (x == ("__debug__" : Str)) = false := by decide)
    (hcd : (x == ("__classdict__" : Str)) = false := by decide) : PE X (.Name x pos) (qP X.K c (vP i)) := pe_imp (pe_var hN hv hd hcd) fun _ _ _ h => t_vP h
theorem d_vt (i : Nat) {x : Str} (hN : X.N[i]? = some x := by rfl) (hv : Vis X.env.scope x := by first | exact Or.inl rfl | exact Or.inr (Or.inl rfl) | exact Or.inr (Or.inr rfl)) (hd : (x == ("__debug__" : Str)) = false := by decide)
    (hcd : (x == ("__classdict__" : Str)) = false := by decide) : PE X (.Name x pos) (qT X.K c (vT i)) := pe_imp (pe_var hN hv hd hcd) fun _ _ _ h => t_vT h
theorem t_c {K : PySem.W.Frag} {d : PyData} {v : V} (hs : ∀ F, Dq K F v d) {σ : L2.St} {H : Hp} {Q : VK} (h : qP K c (cS d) σ H Q) : tC v σ H Q := by
  obtain ⟨ds, F, s, w⟩ := h
  exact w v F H (.refl s.fh) (hs F)
theorem d_int {i j} : PE X (.Constant (.int i) j pos) (qP X.K c (cS (.int i))) := pe_imp pe_int fun _ _ _ h => t_c (fun _ => .int i) h
theorem d_str {x j} : PE X (.Constant (.str x) j pos) (qP X.K c (cS (.str x))) := pe_imp pe_str fun _ _ _ h => t_c (fun _ => .str x) h
theorem d_bl {x j} : PE X (.Constant (.bool x) j pos) (qP X.K c (cS (.bool x))) := pe_imp pe_bl fun _ _ _ h => t_c (fun _ => .bl x) h
theorem d_non {j} : PE X (.Constant .none j pos) (qP X.K c (cS .none)) := pe_imp pe_non fun _ _ _ h => t_c (fun _ => .non) h
/-- a module's constant -/
theorem d_gi {x : Str} {i : Int} {t : Tok} (hm : X.mg x = some (.int i t)) (hg : Gl X x := by rfl) (hd : (x == ("__debug__" : Str)) = false := by decide) : PE X (.Name x pos) (qP X.K c (cS (.int i))) :=
  pe_imp (pe_glob (v := .int i) hg hm ⟨t, rfl⟩ hd) fun _ _ _ h => t_c (fun _ => .int i) h
theorem d_gs {x : Str} {i : Str} {t : Tok} (hm : X.mg x = some (.str i t)) (hg : Gl X x := by rfl) (hd : (x == ("__debug__" : Str)) = false := by decide) : PE X (.Name x pos) (qP X.K c (cS (.str i))) :=
  pe_imp (pe_glob (v := .str i) hg hm ⟨t, rfl⟩ hd) fun _ _ _ h => t_c (fun _ => .str i) h
/-! ### operators whose answer is a number, a text, a truth -/
def op2 (g : PyData → PyData → R PyData) (fa fb : ES) : ES := fun ds => fa ds >>= fun x => fb ds >>= fun y => g x y
def op1 (g : PyData → R PyData) (fa : ES) : ES := fun ds => fa ds >>= g
/-- r answers as g does -/
def OpD (K : PySem.W.Frag) (r : R2) (g : PyData → PyData → R PyData) : Prop :=
  ∀ x y d e H, Dq K H x d → Dq K H y e → (∃ z v, g d e = .ok z ∧ (∀ F, Dq K F v z) ∧ ∀ Q : VK, Q v H → r x y H Q) ∨ g d e = .bad
theorem t_op2 {K : PySem.W.Frag} {r : R2} {g : PyData → PyData → R PyData} (hr : OpD K r g) {σ : L2.St} {H : Hp} {Q : VK} (h : qP K c (op2 g fa fb) σ H Q) : tOp r (qT K c fa) (qT K c fb) σ H Q := by
  obtain ⟨ds, F, s, w⟩ := h
  refine ⟨ds, F, s, ?_⟩
  unfold op2 at w
  cases ha : fa ds with
  | bad => rw [ha] at w; exact w
  | err x => rw [ha] at w; exact w
  | ok d =>
    rw [ha] at w
    intro v F1 H1 g1 q1
    refine ⟨ds, F1, s.grow g1, ?_⟩
    rw [R.ok_bind] at w
    cases hb : fb ds with
    | bad => rw [hb] at w; exact w
    | err x => rw [hb] at w; exact w
    | ok d2 =>
      rw [hb] at w
      intro v2 F2 H2 g2 q2
      rw [R.ok_bind] at w
      rcases hr v v2 d d2 H2 (q1.mono g2.hh) q2 with ⟨z, u, e1, s1, k⟩ | e1
      · rw [e1] at w
        exact k _ (w u F2 H2 (g1.trans g2) (s1 F2))
      · rw [e1] at w
        exact w.elim
theorem d_op {op : Operator} {r : R2} {g : PyData → PyData → R PyData} (ho : OpR X (binaryOp op) r) (hr : OpD X.K r g) (ha : PE X a (qT X.K c fa)) (hb : PE X b (qT X.K c fb)) : PE X (.BinOp a op b pos) (qP X.K c (op2 g fa fb)) :=
  pe_imp (pe_op ho ha hb) fun _ _ _ h => t_op2 hr h
theorem d_cmp {op : CmpOp} {r : R2} {g : PyData → PyData → R PyData} (ho : OpR X (compareOp op) r) (hr : OpD X.K r g) (ha : PE X a (qT X.K c fa)) (hb : PE X b (qT X.K c fb)) (hm : behindInMarks op b = false := by first | exact nomark _ | rfl) : PE X (.Compare a [op] [b] pos) (qP X.K c (op2 g fa fb)) :=
  pe_imp (pe_cmpR ho ha hb hm) fun _ _ _ h => t_op2 hr h
/-- a value that is a truth, as a test -/
def bO (d : PyData) : R Bool := match d with
  | .bool b => .ok b
  | _ => .bad
def bS (f : ES) : DS → R Bool := fun ds => f ds >>= bO
theorem t_bS {K : PySem.W.Frag} {σ : L2.St} {H : Hp} {Q : Bool → Hp → Prop} (h : qB K c (bS f) σ H Q) : qT K c f σ H (fun x H1 => ∃ k, x = .bl k ∧ Q k H1) := by
  obtain ⟨ds, F, s, w⟩ := h
  refine ⟨ds, F, s, ?_⟩
  unfold bS at w
  cases hf : f ds with
  | bad => rw [hf] at w; exact w
  | err x => rw [hf] at w; exact w
  | ok d =>
    rw [hf] at w
    intro v F1 H1 g1 q1
    cases d with
    | bool k =>
      cases q1
      exact ⟨k, rfl, w F1 H1 g1⟩
    | _ => exact w.elim
theorem d_cmpB {op : CmpOp} {r : R2} {g : PyData → PyData → R PyData} (ho : OpR X (compareOp op) r) (hr : OpD X.K r g) (ha : PE X a (qT X.K c fa)) (hb : PE X b (qT X.K c fb)) (hm : behindInMarks op b = false := by first | exact nomark _ | rfl) : PT X (.Compare a [op] [b] pos) (qB X.K c (bS (op2 g fa fb))) := by
  refine pt_imp (pt_cmpR ho ha hb hm) fun σ H Q h => ?_
  obtain ⟨ds, F, s, w⟩ := t_bS h
  refine t_op2 hr ⟨ds, F, s, ?_⟩
  cases hf : op2 g fa fb ds with
  | bad => rw [hf] at w; exact w
  | err x => rw [hf] at w; exact w
  | ok d =>
    rw [hf] at w
    exact fun v F1 H1 g1 q1 => w v F1 H1 g1 (q1.mono g1.fh)
theorem d_valB (h : PE X e (qT X.K c f)) (he : ∀ whole, isTrue e X.env whole = (do let v ← whole; standAt e.pos; holding [v] (truthy v)) := by intro _; rfl) : PT X e (qB X.K c (bS f)) :=
  pt_imp (pt_val h he) fun σ H Q q => t_bS q
/-! ### ints -/
def gI (p : Int → Int → R PyData) : PyData → PyData → R PyData
  | .int i, .int j => p i j
  | _, _ => .bad
theorem od_I0 {K : PySem.W.Frag} {g : Int → Int → V} {g' : Int → Int → PyData} (hg : ∀ i j F, Dq K F (g i j) (g' i j)) : OpD K (rI0 g) (gI fun i j => .ok (g' i j)) := fun x y d e H h1 h2 => by
  cases h1 with
  | int i =>
    cases h2 with
    | int j => exact .inl ⟨_, _, rfl, hg i j, fun Q q => ⟨i, j, rfl, rfl, q⟩⟩
    | _ => exact .inr rfl
  | _ => exact .inr rfl
theorem od_I {K : PySem.W.Frag} {C : Int → Int → Prop} {g : Int → Int → V} {g' : Int → Int → PyData} {ch : Int → Int → Bool} (hc : ∀ i j, ch i j = true → C i j) (hg : ∀ i j F, Dq K F (g i j) (g' i j)) :
    OpD K (rI C g) (gI fun i j => if ch i j = true then .ok (g' i j) else .bad) := fun x y d e H h1 h2 => by
  cases h1 with
  | int i =>
    cases h2 with
    | int j =>
      by_cases hh : ch i j = true
      · exact .inl ⟨_, _, (show (if ch i j = true then _ else _) = _ from if_pos hh), hg i j, fun Q q => ⟨i, j, rfl, rfl, hc i j hh, q⟩⟩
      · exact .inr (show (if ch i j = true then _ else _) = _ from if_neg hh)
    | _ => exact .inr rfl
  | _ => exact .inr rfl
def addI := gI fun i j => .ok (.int (i + j))
def subI := gI fun i j => .ok (.int (i - j))
def in64 (i : Int) : Bool := decide (-(2 ^ 64) < i) && decide (i < 2 ^ 64)
def mulI := gI fun i j => if (in64 i || in64 j) = true then .ok (.int (i * j)) else .bad
def divW (_ j : Int) : Bool := decide (0 < j) && decide (j.natAbs.log2 < 9000)
def divI := gI fun i j => if divW i j = true then .ok (.int (i / j)) else .bad
def modI := gI fun i j => if decide (0 < j) = true then .ok (.int (i % j)) else .bad
def powW (i j : Int) : Bool := decide (0 ≤ j) && decide (j ≤ 1000000) && decide (i.natAbs < 2 ^ 64)
def powI := gI fun i j => if powW i j = true then .ok (.int (i ^ j.toNat)) else .bad
def ltI := gI fun i j => .ok (.bool (decide (i < j)))
def leI := gI fun i j => .ok (.bool (decide (i ≤ j)))
def gtI := gI fun i j => .ok (.bool (decide (j < i)))
def geI := gI fun i j => .ok (.bool (decide (j ≤ i)))
theorem d_add (ha : PE X a (qT X.K c fa)) (hb : PE X b (qT X.K c fb)) : PE X (.BinOp a .Add b pos) (qP X.K c (op2 addI fa fb)) := d_op op_add (od_I0 fun i j _ => .int _) ha hb
theorem d_sub (ha : PE X a (qT X.K c fa)) (hb : PE X b (qT X.K c fb)) : PE X (.BinOp a .Sub b pos) (qP X.K c (op2 subI fa fb)) := d_op op_sub (od_I0 fun i j _ => .int _) ha hb
theorem d_mul (ha : PE X a (qT X.K c fa)) (hb : PE X b (qT X.K c fb)) : PE X (.BinOp a .Mult b pos) (qP X.K c (op2 mulI fa fb)) :=
  d_op op_mul (od_I (ch := fun i j => in64 i || in64 j) (fun i j h => by
    simp only [in64, Bool.or_eq_true, Bool.and_eq_true, decide_eq_true_eq] at h
    exact h) fun i j _ => .int _) ha hb
theorem d_div (ha : PE X a (qT X.K c fa)) (hb : PE X b (qT X.K c fb)) : PE X (.BinOp a .FloorDiv b pos) (qP X.K c (op2 divI fa fb)) :=
  d_op op_fdivW (od_I (ch := divW) (fun i j h => by
    simp only [divW, Bool.and_eq_true, decide_eq_true_eq] at h
    exact h) fun i j _ => .int _) ha hb
theorem d_mod (ha : PE X a (qT X.K c fa)) (hb : PE X b (qT X.K c fb)) : PE X (.BinOp a .Mod b pos) (qP X.K c (op2 modI fa fb)) :=
  d_op op_mod (od_I (ch := fun _ j => decide (0 < j)) (fun i j h => of_decide_eq_true h) fun i j _ => .int _) ha hb
theorem d_pow (ha : PE X a (qT X.K c fa)) (hb : PE X b (qT X.K c fb)) : PE X (.BinOp a .Pow b pos) (qP X.K c (op2 powI fa fb)) :=
  d_op op_pow (od_I (ch := powW) (fun i j h => by
    simp only [powW, Bool.and_eq_true, decide_eq_true_eq] at h
    exact ⟨h.1.1, h.1.2, h.2⟩) fun i j _ => .int _) ha hb
theorem od_lt {K : PySem.W.Frag} : OpD K (rI0 fun i j => .bl (decide (i < j))) ltI := od_I0 fun i j _ => .bl _
theorem od_le {K : PySem.W.Frag} : OpD K (rI0 fun i j => .bl (decide (i ≤ j))) leI := od_I0 fun i j _ => .bl _
theorem od_gt {K : PySem.W.Frag} : OpD K (rI0 fun i j => .bl (decide (j < i))) gtI := od_I0 fun i j _ => .bl _
theorem od_ge {K : PySem.W.Frag} : OpD K (rI0 fun i j => .bl (decide (j ≤ i))) geI := od_I0 fun i j _ => .bl _
end
end Cb
namespace Cb
open PySem PySem.Spec PyProof.Rows L2
section
variable {X : Cx} {e a b cc : Expr} {c : Bk} {f fa fb fc : ES} {pos : Pos}
/-! ### a chain of two comparisons of ints -/
def chI (g g' : PyData → PyData → R PyData) (fa fb fc : ES) : ES := fun ds => fa ds >>= fun x => fb ds >>= fun y => g x y >>= fun z => match z with
  | .bool true => fc ds >>= fun w => g' y w
  | .bool false => .ok (.bool false)
  | _ => .bad
theorem t_ch {K : PySem.W.Frag} {r r' : R2} {g g' : PyData → PyData → R PyData} (hr : OpD K r g) (hr' : OpD K r' g') {σ : L2.St} {H : Hp} {Q : VK} (h : qP K c (chI g g' fa fb fc) σ H Q) : tChain r r' (qT K c fa) (qT K c fb) (qT K c fc) σ H Q := by
  obtain ⟨ds, F, s, w⟩ := h
  refine ⟨ds, F, s, ?_⟩
  unfold chI at w
  cases ha : fa ds with
  | bad => rw [ha] at w; exact w
  | err x => rw [ha] at w; exact w
  | ok d =>
    rw [ha] at w
    intro v F1 H1 g1 q1
    refine ⟨ds, F1, s.grow g1, ?_⟩
    rw [R.ok_bind] at w
    cases hb : fb ds with
    | bad => rw [hb] at w; exact w
    | err x => rw [hb] at w; exact w
    | ok d2 =>
      rw [hb] at w
      intro v2 F2 H2 g2 q2
      rw [R.ok_bind] at w
      rcases hr v v2 d d2 H2 (q1.mono g2.hh) q2 with ⟨z, u, e1, s1, k⟩ | e1
      · rw [e1, R.ok_bind] at w
        cases z with
        | bool bb =>
          have eu : u = .bl bb := by
            have := s1 (fun _ => none)
            cases this
            rfl
          subst eu
          refine k _ ⟨bb, rfl, ?_⟩
          cases bb with
          | false =>
            rw [if_neg Bool.false_ne_true]
            exact w (.bl false) F2 H2 (g1.trans g2) (.bl false)
          | true =>
            rw [if_pos rfl]
            refine ⟨ds, F2, (s.grow g1).grow g2, ?_⟩
            cases hc : fc ds with
            | bad => simp only [hc, R.bad_bind] at w; exact w
            | err x => simp only [hc, R.err_bind] at w; exact w
            | ok d3 =>
              simp only [hc, R.ok_bind] at w
              intro v3 F3 H3 g3 q3
              rcases hr' v2 v3 d2 d3 H3 (q2.mono g3.hh) q3 with ⟨z, u, e1, s1, k⟩ | e1
              · rw [e1] at w
                exact k _ (w u F3 H3 ((g1.trans g2).trans g3) (s1 F3))
              · rw [e1] at w
                exact w.elim
        | _ => exact w.elim
      · rw [e1] at w
        exact w.elim
theorem d_ch {op op' : CmpOp} {r r' : R2} {g g' : PyData → PyData → R PyData} (ho : OpR X (compareOp op) r) (hr : OpD X.K r g) (ho' : OpR X (compareOp op') r') (hr' : OpD X.K r' g') (ha : PE X a (qT X.K c fa)) (hb : PE X b (qT X.K c fb)) (hc : PE X cc (qT X.K c fc))
    (hm : lastMarks [op, op'] [b, cc] = false := by with_unfolding_all rfl) : PE X (.Compare a [op, op'] [b, cc] pos) (qP X.K c (chI g g' fa fb fc)) :=
  pe_imp (pe_chain ho ho' ha hb hc hm) fun _ _ _ h => t_ch hr hr' h
theorem t_bP {K : PySem.W.Frag} {t : TE} (ht : ∀ σ H Q, qP K c f σ H Q → t σ H Q) {σ : L2.St} {H : Hp} {Q : Bool → Hp → Prop} (h : qB K c (bS f) σ H Q) : tTest t σ H Q := by
  obtain ⟨ds, F, s, w⟩ := t_bS h
  refine ht _ _ _ ⟨ds, F, s, ?_⟩
  cases hf : f ds with
  | bad => rw [hf] at w; exact w
  | err x => rw [hf] at w; exact w
  | ok d =>
    rw [hf] at w
    exact fun v F1 H1 g1 q1 => w v F1 H1 g1 (q1.mono g1.fh)
theorem d_chB {op op' : CmpOp} {r r' : R2} {g g' : PyData → PyData → R PyData} (ho : OpR X (compareOp op) r) (hr : OpD X.K r g) (ho' : OpR X (compareOp op') r') (hr' : OpD X.K r' g') (ha : PE X a (qT X.K c fa)) (hb : PE X b (qT X.K c fb)) (hc : PE X cc (qT X.K c fc))
    (hm : lastMarks [op, op'] [b, cc] = false := by with_unfolding_all rfl) : PT X (.Compare a [op, op'] [b, cc] pos) (qB X.K c (bS (chI g g' fa fb fc))) :=
  pt_imp (pt_chain ho ho' ha hb hc hm) fun _ _ _ h => t_bP (fun _ _ _ q => t_ch hr hr' q) h
/-! ### and, or, not -/
def andB (f g : DS → R Bool) : DS → R Bool := fun ds => f ds >>= fun x => if x = true then g ds else .ok false
def orB (f g : DS → R Bool) : DS → R Bool := fun ds => f ds >>= fun x => if x = true then .ok true else g ds
def notB (f : DS → R Bool) : DS → R Bool := fun ds => f ds >>= fun x => .ok (!x)
theorem t_andB {K : PySem.W.Frag} {f g : DS → R Bool} {σ : L2.St} {H : Hp} {Q : Bool → Hp → Prop} (h : qB K c (andB f g) σ H Q) : tAnd (qB K c f) (qB K c g) σ H Q := by
  obtain ⟨ds, F, s, w⟩ := h
  refine ⟨ds, F, s, ?_⟩
  unfold andB at w
  cases hf : f ds with
  | bad => rw [hf] at w; exact w
  | err x => rw [hf] at w; exact w
  | ok x =>
    rw [hf, R.ok_bind] at w
    intro F1 H1 g1
    cases x with
    | true =>
      rw [if_pos rfl] at w
      rw [if_pos rfl]
      refine ⟨ds, F1, s.grow g1, ?_⟩
      cases hg : g ds with
      | bad => rw [hg] at w; exact w
      | err x => rw [hg] at w; exact w
      | ok y => rw [hg] at w; exact fun F2 H2 g2 => w F2 H2 (g1.trans g2)
    | false =>
      rw [if_neg Bool.false_ne_true] at w
      rw [if_neg Bool.false_ne_true]
      exact w F1 H1 g1
theorem t_orB {K : PySem.W.Frag} {f g : DS → R Bool} {σ : L2.St} {H : Hp} {Q : Bool → Hp → Prop} (h : qB K c (orB f g) σ H Q) : tOr (qB K c f) (qB K c g) σ H Q := by
  obtain ⟨ds, F, s, w⟩ := h
  refine ⟨ds, F, s, ?_⟩
  unfold orB at w
  cases hf : f ds with
  | bad => rw [hf] at w; exact w
  | err x => rw [hf] at w; exact w
  | ok x =>
    rw [hf, R.ok_bind] at w
    intro F1 H1 g1
    cases x with
    | false =>
      rw [if_neg Bool.false_ne_true] at w
      rw [if_neg Bool.false_ne_true]
      refine ⟨ds, F1, s.grow g1, ?_⟩
      cases hg : g ds with
      | bad => rw [hg] at w; exact w
      | err x => rw [hg] at w; exact w
      | ok y => rw [hg] at w; exact fun F2 H2 g2 => w F2 H2 (g1.trans g2)
    | true =>
      rw [if_pos rfl] at w
      rw [if_pos rfl]
      exact w F1 H1 g1
theorem t_notB {K : PySem.W.Frag} {f : DS → R Bool} {σ : L2.St} {H : Hp} {Q : Bool → Hp → Prop} (h : qB K c (notB f) σ H Q) : tNot (qB K c f) σ H Q := by
  obtain ⟨ds, F, s, w⟩ := h
  refine ⟨ds, F, s, ?_⟩
  unfold notB at w
  cases hf : f ds with
  | bad => rw [hf] at w; exact w
  | err x => rw [hf] at w; exact w
  | ok x =>
    rw [hf, R.ok_bind] at w
    exact fun F1 H1 g1 => w F1 H1 g1
variable {rest : List Expr} {ft ft' : DS → R Bool}
theorem d_and1 (ha : PT X a (qB X.K c ft)) : PW X (.BoolOp .And [a] pos) (qB X.K c ft) := pw_and1 ha
theorem d_or1 (ha : PT X a (qB X.K c ft)) : PW X (.BoolOp .Or [a] pos) (qB X.K c ft) := pw_or1 ha
theorem d_and (ha : PT X a (qB X.K c ft)) (hb : PW X (.BoolOp .And (b :: rest) pos) (qB X.K c ft')) : PW X (.BoolOp .And (a :: b :: rest) pos) (qB X.K c (andB ft ft')) := pw_imp (pw_and ha hb) fun _ _ _ h => t_andB h
theorem d_or (ha : PT X a (qB X.K c ft)) (hb : PW X (.BoolOp .Or (b :: rest) pos) (qB X.K c ft')) : PW X (.BoolOp .Or (a :: b :: rest) pos) (qB X.K c (orB ft ft')) := pw_imp (pw_or ha hb) fun _ _ _ h => t_orB h
theorem d_not (ha : PT X a (qB X.K c ft)) : PT X (.UnaryOp .Not a pos) (qB X.K c (notB ft)) := pt_imp (pt_not ha) fun _ _ _ h => t_notB h
/-- as values, of truths -/
def vB (f : DS → R Bool) : ES := fun ds => f ds >>= fun x => .ok (.bool x)
def andV (f g : ES) : ES := fun ds => f ds >>= fun x => match x with
  | .bool true => g ds
  | .bool false => .ok (.bool false)
  | _ => .bad
def orV (f g : ES) : ES := fun ds => f ds >>= fun x => match x with
  | .bool true => .ok (.bool true)
  | .bool false => g ds
  | _ => .bad
def notV (f : ES) : ES := fun ds => f ds >>= fun x => match x with
  | .bool y => .ok (.bool (!y))
  | _ => .bad
theorem wP_grow {K : PySem.W.Frag} {F H F1 H1 : Hp} {Q : VK} {r : R PyData} (g : Grow c.T F H F1 H1) (w : wP K c F H Q r) : wP K c F1 H1 Q r := by
  cases r with
  | bad => exact w
  | err x => exact w
  | ok d => exact fun v F2 H2 g2 q => w v F2 H2 (g.trans g2) q
theorem wT_grow {K : PySem.W.Frag} {F H F1 H1 : Hp} {Q : VK} {r : R PyData} (g : Grow c.T F H F1 H1) (w : wT K c F H Q r) : wT K c F1 H1 Q r := by
  cases r with
  | bad => exact w
  | err x => exact w
  | ok d => exact fun v F2 H2 g2 q => w v F2 H2 (g.trans g2) q
theorem wB_grow {F H F1 H1 : Hp} {Q : Bool → Hp → Prop} {r : R Bool} (g : Grow c.T F H F1 H1) (w : wB c F H Q r) : wB c F1 H1 Q r := by
  cases r with
  | bad => exact w
  | err x => exact w
  | ok d => exact fun F2 H2 g2 => w F2 H2 (g.trans g2)
/-- a step: the first part's answer, then the rest -/
theorem wT_bind {K : PySem.W.Frag} {F H : Hp} {Q Q' : VK} {r : R PyData} {k : PyData → R PyData} (w : wP K c F H Q (r >>= k)) (h : ∀ d v F1 H1, Grow c.T F H F1 H1 → Dq K H1 v d → wP K c F1 H1 Q (k d) → Q' v H1) : wT K c F H Q' r := by
  cases r with
  | bad => exact w
  | err x => exact w
  | ok d => exact fun v F1 H1 g1 q1 => h d v F1 H1 g1 q1 (wP_grow g1 w)
theorem wP_bind {K : PySem.W.Frag} {F H : Hp} {Q Q' : VK} {r : R PyData} {k : PyData → R PyData} (w : wP K c F H Q (r >>= k)) (h : ∀ d v F1 H1, Grow c.T F H F1 H1 → Dq K F1 v d → wP K c F1 H1 Q (k d) → Q' v H1) : wP K c F H Q' r := by
  cases r with
  | bad => exact w
  | err x => exact w
  | ok d => exact fun v F1 H1 g1 q1 => h d v F1 H1 g1 q1 (wP_grow g1 w)
theorem wB_bind {K : PySem.W.Frag} {F H : Hp} {Q : VK} {Q' : Bool → Hp → Prop} {r : R Bool} {k : Bool → R PyData} (w : wP K c F H Q (r >>= k)) (h : ∀ d F1 H1, Grow c.T F H F1 H1 → wP K c F1 H1 Q (k d) → Q' d H1) : wB c F H Q' r := by
  cases r with
  | bad => exact w
  | err x => exact w
  | ok d => exact fun F1 H1 g1 => h d F1 H1 g1 (wP_grow g1 w)
theorem wB_bindT {K : PySem.W.Frag} {F H : Hp} {Q : VK} {Q' : Bool → Hp → Prop} {r : R Bool} {k : Bool → R PyData} (w : wT K c F H Q (r >>= k)) (h : ∀ d F1 H1, Grow c.T F H F1 H1 → wT K c F1 H1 Q (k d) → Q' d H1) : wB c F H Q' r := by
  cases r with
  | bad => exact w
  | err x => exact w
  | ok d => exact fun F1 H1 g1 => h d F1 H1 g1 (wT_grow g1 w)
theorem d_andV1 {op : BoolOp} (ha : PE X a (qP X.K c f)) : PE X (.BoolOp op [a] pos) (qP X.K c f) := pe_one ha
theorem d_andV (ha : PE X a (qT X.K c fa)) (hb : PE X (.BoolOp .And (b :: rest) pos) (qP X.K c fb)) : PE X (.BoolOp .And (a :: b :: rest) pos) (qP X.K c (andV fa fb)) := by
  refine pe_imp (pe_and ha hb) fun σ H Q h => ?_
  obtain ⟨ds, F, s, w⟩ := h
  refine ⟨ds, F, s, wT_bind w fun d v F1 H1 g1 q1 w1 => ?_⟩
  cases d with
  | bool x =>
    cases q1
    refine ⟨x, rfl, ?_⟩
    cases x with
    | true =>
      rw [if_pos rfl]
      exact ⟨ds, F1, s.grow g1, w1⟩
    | false =>
      rw [if_neg Bool.false_ne_true]
      exact w1 _ F1 H1 (.refl g1.fh) (.bl false)
  | _ => exact w1.elim
theorem d_orV (ha : PE X a (qT X.K c fa)) (hb : PE X (.BoolOp .Or (b :: rest) pos) (qP X.K c fb)) : PE X (.BoolOp .Or (a :: b :: rest) pos) (qP X.K c (orV fa fb)) := by
  refine pe_imp (pe_or ha hb) fun σ H Q h => ?_
  obtain ⟨ds, F, s, w⟩ := h
  refine ⟨ds, F, s, wT_bind w fun d v F1 H1 g1 q1 w1 => ?_⟩
  cases d with
  | bool x =>
    cases q1
    refine ⟨x, rfl, ?_⟩
    cases x with
    | false =>
      rw [if_neg Bool.false_ne_true]
      exact ⟨ds, F1, s.grow g1, w1⟩
    | true =>
      rw [if_pos rfl]
      exact w1 _ F1 H1 (.refl g1.fh) (.bl true)
  | _ => exact w1.elim
theorem d_notV (ha : PE X a (qT X.K c fa)) : PE X (.UnaryOp .Not a pos) (qP X.K c (notV fa)) := by
  refine pe_imp (pe_not ha) fun σ H Q h => ?_
  obtain ⟨ds, F, s, w⟩ := h
  refine ⟨ds, F, s, wT_bind w fun d v F1 H1 g1 q1 w1 => ?_⟩
  cases d with
  | bool x =>
    cases q1
    exact ⟨x, rfl, w1 _ F1 H1 (.refl g1.fh) (.bl _)⟩
  | _ => exact w1.elim
/-! ### a if t else b -/
def ifE (ft : DS → R Bool) (fa fb : ES) : ES := fun ds => ft ds >>= fun x => if x = true then fa ds else fb ds
theorem d_ifE (hc : PT X cc (qB X.K c ft)) (ha : PE X a (qP X.K c fa)) (hb : PE X b (qP X.K c fb)) : PE X (.IfExp cc a b pos) (qP X.K c (ifE ft fa fb)) := by
  refine pe_imp (pe_ifExp hc ha hb) fun σ H Q h => ?_
  obtain ⟨ds, F, s, w⟩ := h
  refine ⟨ds, F, s, wB_bind w fun d F1 H1 g1 w1 => ?_⟩
  cases d with
  | true =>
    rw [if_pos rfl] at w1 ⊢
    exact ⟨ds, F1, s.grow g1, w1⟩
  | false =>
    rw [if_neg Bool.false_ne_true] at w1 ⊢
    exact ⟨ds, F1, s.grow g1, w1⟩
/-! ### ==, !=, is None, is True -/
mutual
theorem dp_of {K : PySem.W.Frag} {H : Hp} : ∀ {v : V} {d : PyData}, Dq K H v d → d.canLay0 = true → Dp K H v d
  | _, _, .non, _ => .non
  | _, _, .bl b, _ => .bl b
  | _, _, .int i, _ => .int i
  | _, _, .str x, _ => .str x
  | _, _, .lst h a, z => .lst h (dpAll_of a (by simpa [PyData.canLay0] using z))
  | _, _, .tup h a, z => .tup h (dpAll_of a (by simpa [PyData.canLay0] using z))
  | _, _, .dct h a, z => by simp [PyData.canLay0] at z
theorem dpAll_of {K : PySem.W.Frag} {H : Hp} : ∀ {vs : List V} {ds : List PyData}, DqAll K H vs ds → PyData.canLayAll0 ds = true → DpAll K H vs ds
  | _, _, .nil, _ => .nil
  | _, d :: ds, .cons h t, z => by
    have z' : d.canLay0 = true ∧ PyData.canLayAll0 ds = true := by simpa [PyData.canLayAll0] using z
    exact .cons (dp_of h z'.1) (dpAll_of t z'.2)
end
def eqD (d e : PyData) : R PyData := if (SeqAt.shaped d && SeqAt.shaped e) = true then .ok (.bool (PyData.eqv d e)) else .bad
def neD (d e : PyData) : R PyData := if (SeqAt.shaped d && SeqAt.shaped e) = true then .ok (.bool (!PyData.eqv d e)) else .bad
theorem od_eq {K : PySem.W.Frag} : OpD K (rEqD K) eqD := fun x y d e H h1 h2 => by
  unfold eqD
  by_cases hs : (SeqAt.shaped d && SeqAt.shaped e) = true
  · rw [if_pos hs]
    obtain ⟨s1, s2⟩ := Bool.and_eq_true_iff.mp hs
    exact .inl ⟨_, _, rfl, fun _ => .bl _, fun Q q => ⟨d, e, dp_of h1 (SeqAt.canLay_of_shaped s1), dp_of h2 (SeqAt.canLay_of_shaped s2), s1, s2, q⟩⟩
  · rw [if_neg hs]
    exact .inr rfl
theorem od_ne {K : PySem.W.Frag} : OpD K (rNeD K) neD := fun x y d e H h1 h2 => by
  unfold neD
  by_cases hs : (SeqAt.shaped d && SeqAt.shaped e) = true
  · rw [if_pos hs]
    obtain ⟨s1, s2⟩ := Bool.and_eq_true_iff.mp hs
    exact .inl ⟨_, _, rfl, fun _ => .bl _, fun Q q => ⟨d, e, dp_of h1 (SeqAt.canLay_of_shaped s1), dp_of h2 (SeqAt.canLay_of_shaped s2), s1, s2, q⟩⟩
  · rw [if_neg hs]
    exact .inr rfl
/-! ### isinstance -/
def tyN : PyData → String
  | .none => "NoneType"
  | .bool _ => "bool"
  | .int _ => "int"
  | .str _ => "str"
  | .list _ => "list"
  | .tuple _ => "tuple"
  | .dict _ => "dict"
theorem tyX_of {K : PySem.W.Frag} {H : Hp} {v : V} {d : PyData} (h : Dq K H v d) : TyX K H v (.type (tyN d)) := by
  cases h with
  | non => exact .base .non
  | bl b => exact .base (.bl b)
  | int i => exact .base (.int i)
  | str x => exact .base (.str x)
  | lst hs _ =>
    rcases hs with (h | ⟨o, h⟩) | ⟨o, its, n, h1, h2, _⟩
    · exact .base (.lst h)
    · exact .base (.frz h)
    · exact .kList h1 h2
  | tup hs _ =>
    rcases hs with (h | ⟨o, h⟩) | ⟨o, its, n, h1, h2, _⟩
    · exact .base (.tup h)
    · exact .fTuple h
    · exact .kTuple h1 h2
  | dct h _ => exact .base (.dK h)
def isiD (T : String) (d : PyData) : R PyData := match kitB (tyN d) T with
  | some b => .ok (.bool b)
  | none => .bad
def isiS (T : String) (f : ES) : ES := fun ds => f ds >>= isiD T
theorem d_isi {x : Expr} {T : String} {n : Str} {p q : Pos} (hx : PE X x (qT X.K c f)) (hv : bootBuiltins n = some (.type T)) (hm : X.mg "isinstance" = none) (hmT : X.mg n = none) (hg : Gl X "isinstance" := by rfl) (hgT : Gl X n := by rfl)
    (hn : n ≠ "__name__" := by decide) (hd : (n == ("__debug__" : Str)) = false := by decide)
    (hs : starEach (x :: [.Name n q]) X.env = (false, eval x X.env) :: starEach [.Name n q] X.env := by rfl)
    (hs2 : starEach [.Name n q] X.env = (false, eval (.Name n q) X.env) :: starEach [] X.env := by rfl)
    (hpl : (backTo pos (starEach [.Name n q] X.env)).any (·.1) = false := by rfl) : PE X (.Call (.Name "isinstance" p) [x, .Name n q] [] pos) (qP X.K c (isiS T f)) := by
  refine pe_imp (pe_callB call_isi hg hm (by decide +kernel) (pa_cons hx (pa_cons (pe_bltn (v := .ty T) hgT hmT hv rfl hn hd) pa_nil hs2) hs) (by decide) (by decide) hs hpl) fun σ H Q h => ?_
  obtain ⟨ds, F, s, w⟩ := h
  refine ⟨ds, F, s, wT_bind w fun d v F1 H1 g1 q1 w1 => ?_⟩
  show rIsi X.K [v, .ty T] H1 Q
  unfold isiD at w1
  cases hk : kitB (tyN d) T with
  | none => rw [hk] at w1; exact w1.elim
  | some r =>
    rw [hk] at w1
    exact ⟨v, .ty T, _, _, r, rfl, .ty T, tyX_of q1, kit_ty hk, w1 _ F1 H1 (.refl g1.fh) (.bl r)⟩
end
end Cb
namespace Cb
open PySem PySem.Spec PyProof.Rows L2
/-! ### arguments: true is lent, false is given -/
def AOk (K : PySem.W.Frag) (F H : Hp) : List Bool → List V → List PyData → Prop
  | [], [], [] => True
  | true :: ms, v :: vs, d :: ds => Dq K H v d ∧ AOk K F H ms vs ds
  | false :: ms, v :: vs, d :: ds => Dq K F v d ∧ AOk K F H ms vs ds
  | _, _, _ => False
theorem AOk.mono {K : PySem.W.Frag} {F H F' H' : Hp} (f : Sam F F') (h : Sam H H') : ∀ {ms : List Bool} {vs : List V} {ds : List PyData}, AOk K F H ms vs ds → AOk K F' H' ms vs ds
  | [], [], [], _ => trivial
  | true :: _, _ :: _, _ :: _, ⟨a, b⟩ => ⟨a.mono h, AOk.mono f h b⟩
  | false :: _, _ :: _, _ :: _, ⟨a, b⟩ => ⟨a.mono f, AOk.mono f h b⟩
  | [], [], _ :: _, z => z.elim
  | [], _ :: _, _, z => z.elim
  | true :: _, [], _, z => z.elim
  | false :: _, [], _, z => z.elim
  | true :: _, _ :: _, [], z => z.elim
  | false :: _, _ :: _, [], z => z.elim
theorem AOk.all {K : PySem.W.Frag} {F H : Hp} : ∀ {ms : List Bool} {vs : List V} {ds : List PyData}, AOk K F H ms vs ds → ms.all (fun m => !m) = true → DqAll K F vs ds
  | [], [], [], _, _ => .nil
  | true :: _, _ :: _, _ :: _, _, z => by simp at z
  | false :: _, _ :: _, _ :: _, ⟨a, b⟩, z => .cons a (AOk.all b (by simpa using z))
  | [], [], _ :: _, z, _ => z.elim
  | [], _ :: _, _, z, _ => z.elim
  | true :: _, [], _, z, _ => z.elim
  | false :: _, [], _, z, _ => z.elim
  | true :: _, _ :: _, [], z, _ => z.elim
  | false :: _, _ :: _, [], z, _ => z.elim
theorem AOk.len {K : PySem.W.Frag} {F H : Hp} : ∀ {ms : List Bool} {vs : List V} {ds : List PyData}, AOk K F H ms vs ds → vs.length = ms.length ∧ ds.length = ms.length
  | [], [], [], _ => ⟨rfl, rfl⟩
  | true :: _, _ :: _, _ :: _, ⟨_, b⟩ => ⟨congrArg Nat.succ (AOk.len b).1, congrArg Nat.succ (AOk.len b).2⟩
  | false :: _, _ :: _, _ :: _, ⟨_, b⟩ => ⟨congrArg Nat.succ (AOk.len b).1, congrArg Nat.succ (AOk.len b).2⟩
  | [], [], _ :: _, z => z.elim
  | [], _ :: _, _, z => z.elim
  | true :: _, [], _, z => z.elim
  | false :: _, [], _, z => z.elim
  | true :: _, _ :: _, [], z => z.elim
  | false :: _, _ :: _, [], z => z.elim
def wA (K : PySem.W.Frag) (c : Bk) (ms : List Bool) (F H : Hp) (Q : List V → Hp → Prop) : R (List PyData) → Prop
  | .bad => False
  | .ok ds => ∀ vs F' H', Grow c.T F H F' H' → AOk K F' H' ms vs ds → Q vs H'
  | .err x => wErr c x
def qA (K : PySem.W.Frag) (c : Bk) (ms : List Bool) (f : DS → R (List PyData)) : TA := fun σ H Q => ∃ ds F, Stt K c F H σ ds ∧ wA K c ms F H Q (f ds)
def nilA : DS → R (List PyData) := fun _ => .ok []
def consA (f : ES) (g : DS → R (List PyData)) : DS → R (List PyData) := fun ds => f ds >>= fun d => g ds >>= fun r => .ok (d :: r)
section
variable {X : Cx} {e a b cc : Expr} {c : Bk} {f fa fb fc : ES} {pos : Pos} {es : List Expr} {ms : List Bool} {fr : DS → R (List PyData)}
theorem d_a0 : PA X [] (qA X.K c [] nilA) := pa_imp pa_nil fun σ H Q ⟨ds, F, s, w⟩ => w [] F H (.refl s.fh) trivial
theorem d_aP (h : PE X e (qP X.K c f)) (hr : PA X es (qA X.K c ms fr)) (hs : starEach (e :: es) X.env = (false, eval e X.env) :: starEach es X.env := by rfl) : PA X (e :: es) (qA X.K c (false :: ms) (consA f fr)) := by
  refine pa_imp (pa_cons h hr hs) fun σ H Q hq => ?_
  obtain ⟨ds, F, s, w⟩ := hq
  refine ⟨ds, F, s, ?_⟩
  unfold consA at w
  cases hf : f ds with
  | bad => rw [hf] at w; exact w
  | err x => rw [hf] at w; exact w
  | ok d =>
    rw [hf, R.ok_bind] at w
    intro v F1 H1 g1 q1
    refine ⟨ds, F1, s.grow g1, ?_⟩
    cases hg : fr ds with
    | bad => rw [hg] at w; exact w
    | err x => rw [hg] at w; exact w
    | ok r =>
      rw [hg, R.ok_bind] at w
      intro vs F2 H2 g2 q2
      exact w (v :: vs) F2 H2 (g1.trans g2) ⟨q1.mono g2.ff, q2⟩
theorem d_aT (h : PE X e (qT X.K c f)) (hr : PA X es (qA X.K c ms fr)) (hs : starEach (e :: es) X.env = (false, eval e X.env) :: starEach es X.env := by rfl) : PA X (e :: es) (qA X.K c (true :: ms) (consA f fr)) := by
  refine pa_imp (pa_cons h hr hs) fun σ H Q hq => ?_
  obtain ⟨ds, F, s, w⟩ := hq
  refine ⟨ds, F, s, ?_⟩
  unfold consA at w
  cases hf : f ds with
  | bad => rw [hf] at w; exact w
  | err x => rw [hf] at w; exact w
  | ok d =>
    rw [hf, R.ok_bind] at w
    intro v F1 H1 g1 q1
    refine ⟨ds, F1, s.grow g1, ?_⟩
    cases hg : fr ds with
    | bad => rw [hg] at w; exact w
    | err x => rw [hg] at w; exact w
    | ok r =>
      rw [hg, R.ok_bind] at w
      intro vs F2 H2 g2 q2
      exact w (v :: vs) F2 H2 (g1.trans g2) ⟨q1.mono g2.hh, q2⟩
/-! ### displays -/
def big : Nat := 1000000
theorem big_le {n : Nat} (h : n ≤ big) : n ≤ sizeLine := Nat.le_trans h (by decide)
theorem big_lt {n : Nat} (h : n ≤ big) : n < sizeLine := Nat.lt_of_le_of_lt h (by decide)
def tupS (fr : DS → R (List PyData)) : ES := fun ds => fr ds >>= fun r => if r.length ≤ big then .ok (.tuple r) else .bad
def lstS (fr : DS → R (List PyData)) : ES := fun ds => fr ds >>= fun r => if r.length ≤ big then .ok (.list r) else .bad
theorem d_tup {x1} (h : PA X es (qA X.K c ms fr)) (hm : ms.all (fun m => !m) = true := by rfl) : PE X (.Tuple es x1 pos) (qP X.K c (tupS fr)) := by
  refine pe_imp (pe_tup h) fun σ H Q hq => ?_
  obtain ⟨ds, F, s, w⟩ := hq
  refine ⟨ds, F, s, ?_⟩
  unfold tupS at w
  cases hf : fr ds with
  | bad => rw [hf] at w; exact w
  | err x => rw [hf] at w; exact w
  | ok r =>
    rw [hf, R.ok_bind] at w
    intro vs F1 H1 g1 q1
    by_cases hb : r.length ≤ big
    · rw [if_pos hb] at w
      have hl := q1.len
      refine ⟨by rw [hl.1, ← hl.2]; exact big_le hb, fun p hp => ?_⟩
      exact w (.ref p) (upd F1 p (.tup vs)) (upd H1 p (.tup vs)) (g1.trans (.new g1.fh hp)) (.tup (.of upd_same) ((q1.all hm).mono (same_new (g1.fh.free hp))))
    · rw [if_neg hb] at w
      exact w.elim
theorem d_lst (h : PA X es (qA X.K c ms fr)) (hm : ms.all (fun m => !m) = true := by rfl) : PE X (.List es pos) (qN X.K c (lstS fr)) := by
  refine pe_imp (pe_lst h) fun σ H Q hq => ?_
  obtain ⟨ds, F, s, w⟩ := hq
  refine ⟨ds, F, s, ?_⟩
  unfold lstS at w
  cases hf : fr ds with
  | bad => rw [hf] at w; exact w
  | err x => rw [hf] at w; exact w
  | ok r =>
    rw [hf, R.ok_bind] at w
    intro vs F1 H1 g1 q1
    by_cases hb : r.length ≤ big
    · rw [if_pos hb] at w
      have hl := q1.len
      refine ⟨by rw [hl.1, ← hl.2]; exact big_le hb, fun p hp => ?_⟩
      exact w p F1 (upd H1 p (.lst vs)) (g1.trans (.own g1.fh hp)) (g1.hh.free hp) (g1.fh.free hp) ⟨vs, upd_same, q1.all hm⟩
    · rw [if_neg hb] at w
      exact w.elim
/-! ### built-ins of one argument whose answer is plain -/
/-- r answers as g does -/
def CaD (K : PySem.W.Frag) (r : List V → Hp → VK → Prop) (g : PyData → R PyData) : Prop :=
  ∀ x d H, Dq K H x d → (∃ z v, g d = .ok z ∧ (∀ F, Dq K F v z) ∧ ∀ Q : VK, Q v H → r [x] H Q) ∨ g d = .bad
theorem t_ca {K : PySem.W.Frag} {r : List V → Hp → VK → Prop} {g : PyData → R PyData} (hr : CaD K r g) {σ : L2.St} {H : Hp} {Q : VK} (h : qP K c (op1 g f) σ H Q) : tCB r (tCons (qT K c f) tNil) σ H Q := by
  obtain ⟨ds, F, s, w⟩ := h
  refine ⟨ds, F, s, wT_bind w fun d v F1 H1 g1 q1 w1 => ?_⟩
  show r [v] H1 Q
  rcases hr v d H1 q1 with ⟨z, u, e1, s1, k⟩ | e1
  · rw [e1] at w1
    exact k _ (w1 u F1 H1 (.refl g1.fh) (s1 F1))
  · rw [e1] at w1
    exact w1.elim
theorem d_ca {id : String} {x : Str} {p : Pos} {r : List V → Hp → VK → Prop} {g : PyData → R PyData} (hc : CallR X (.builtin id) r) (hr : CaD X.K r g) (ha : PE X a (qT X.K c f)) (hm : X.mg x = none) (hv : bootBuiltins x = some (.builtin id)) (hg : Gl X x := by rfl)
    (hn : x ≠ "__name__" := by decide) (hdb : (x == ("__debug__" : Str)) = false := by decide) (hs : starEach [a] X.env = (false, eval a X.env) :: starEach [] X.env := by rfl) (hpl : (backTo pos (starEach [] X.env)).any (·.1) = false := by rfl) :
    PE X (.Call (.Name x p) [a] [] pos) (qP X.K c (op1 g f)) := pe_imp (pe_callB hc hg hm hv (pa_cons ha pa_nil hs) hn hdb hs hpl) fun _ _ _ h => t_ca hr h
theorem d_caT {id : String} {x : Str} {p : Pos} {r : List V → Hp → VK → Prop} {g : PyData → R PyData} (hc : CallR X (.type id) r) (hr : CaD X.K r g) (ha : PE X a (qT X.K c f)) (hm : X.mg x = none) (hv : bootBuiltins x = some (.type id)) (hg : Gl X x := by rfl)
    (hn : x ≠ "__name__" := by decide) (hdb : (x == ("__debug__" : Str)) = false := by decide) (hs : starEach [a] X.env = (false, eval a X.env) :: starEach [] X.env := by rfl) (hpl : (backTo pos (starEach [] X.env)).any (·.1) = false := by rfl) :
    PE X (.Call (.Name x p) [a] [] pos) (qP X.K c (op1 g f)) := pe_imp (pe_callTy hc hg hm hv (pa_cons ha pa_nil hs) hn hdb hs hpl) fun _ _ _ h => t_ca hr h
/-! len -/
def lenD : PyData → R PyData
  | .list xs => .ok (.int xs.length)
  | .tuple xs => .ok (.int xs.length)
  | .str x => if x.length ≤ big then .ok (.int x.length) else .bad
  | .dict kvs => .ok (.int kvs.length)
  | _ => .bad
theorem DqKV.length {K : PySem.W.Frag} {H : Hp} : ∀ {vs : List (Key × V)} {ds : List (PyData × PyData)}, DqKV K H vs ds → vs.length = ds.length
  | _, _, .nil => rfl
  | _, _, .cons _ t => congrArg Nat.succ (DqKV.length t)
theorem cd_len {K : PySem.W.Frag} : CaD K (fun xs H Q => (∃ x n, xs = [x] ∧ LenV K x H n ∧ Q (.int n) H) ∨ ∃ a kvs, xs = [V.ref a] ∧ H a = some (.dK kvs) ∧ Q (.int kvs.length) H) lenD := fun x d H h => by
  cases h with
  | str y =>
    by_cases hb : y.length ≤ big
    · simp only [lenD, if_pos hb]
      exact .inl ⟨_, _, rfl, fun _ => .int _, fun Q q => .inl ⟨_, _, rfl, ⟨big_le hb, rfl⟩, q⟩⟩
    · simp only [lenD, if_neg hb]
      exact .inr trivial
  | lst hs ha => exact .inl ⟨_, _, rfl, fun _ => .int _, fun Q q => .inl ⟨_, _, rfl, .inl ⟨_, hs, rfl⟩, by rw [ha.length]; exact q⟩⟩
  | tup hs ha => exact .inl ⟨_, _, rfl, fun _ => .int _, fun Q q => .inl ⟨_, _, rfl, .inr ⟨_, hs, rfl⟩, by rw [ha.length]; exact q⟩⟩
  | dct hs ha => exact .inl ⟨_, _, rfl, fun _ => .int _, fun Q q => .inr ⟨_, _, rfl, hs, by rw [ha.length]; exact q⟩⟩
  | _ => exact .inr rfl
theorem d_len {p : Pos} (ha : PE X a (qT X.K c f)) (hm : X.mg "len" = none) (hg : Gl X "len" := by rfl) (hs : starEach [a] X.env = (false, eval a X.env) :: starEach [] X.env := by rfl) (hpl : (backTo pos (starEach [] X.env)).any (·.1) = false := by rfl) :
    PE X (.Call (.Name "len" p) [a] [] pos) (qP X.K c (op1 lenD f)) := d_ca (call_len.or call_lenD) cd_len ha hm PySem.boot_len hg (by decide) (by decide) hs hpl
/-! sum, all, any of a list -/
def intsO : List PyData → Option (List Int)
  | [] => some []
  | .int i :: r => (intsO r).map (i :: ·)
  | _ => none
def blsO : List PyData → Option (List Bool)
  | [] => some []
  | .bool i :: r => (blsO r).map (i :: ·)
  | _ => none
theorem ints_of {K : PySem.W.Frag} {H : Hp} : ∀ {vs : List V} {ds : List PyData} {ns : List Int}, DqAll K H vs ds → intsO ds = some ns → vs = ns.map V.int
  | _, _, _, .nil, e => by
    cases e
    rfl
  | _, .int i :: r, ns, .cons h t, e => by
    unfold intsO at e
    cases h
    obtain ⟨m, e1, e2⟩ := Option.map_eq_some_iff.mp e
    subst e2
    rw [ints_of t e1]
    rfl
  | _, .none :: _, _, .cons _ _, e => by simp [intsO] at e
  | _, .bool _ :: _, _, .cons _ _, e => by simp [intsO] at e
  | _, .str _ :: _, _, .cons _ _, e => by simp [intsO] at e
  | _, .list _ :: _, _, .cons _ _, e => by simp [intsO] at e
  | _, .tuple _ :: _, _, .cons _ _, e => by simp [intsO] at e
  | _, .dict _ :: _, _, .cons _ _, e => by simp [intsO] at e
theorem bls_of {K : PySem.W.Frag} {H : Hp} : ∀ {vs : List V} {ds : List PyData} {ns : List Bool}, DqAll K H vs ds → blsO ds = some ns → vs = ns.map V.bl
  | _, _, _, .nil, e => by
    cases e
    rfl
  | _, .bool i :: r, ns, .cons h t, e => by
    unfold blsO at e
    cases h
    obtain ⟨m, e1, e2⟩ := Option.map_eq_some_iff.mp e
    subst e2
    rw [bls_of t e1]
    rfl
  | _, .none :: _, _, .cons _ _, e => by simp [blsO] at e
  | _, .int _ :: _, _, .cons _ _, e => by simp [blsO] at e
  | _, .str _ :: _, _, .cons _ _, e => by simp [blsO] at e
  | _, .list _ :: _, _, .cons _ _, e => by simp [blsO] at e
  | _, .tuple _ :: _, _, .cons _ _, e => by simp [blsO] at e
  | _, .dict _ :: _, _, .cons _ _, e => by simp [blsO] at e
def sumD : PyData → R PyData
  | .list xs => match intsO xs with
    | some ns => .ok (.int ns.sum)
    | none => .bad
  | _ => .bad
def allD : PyData → R PyData
  | .list xs => match blsO xs with
    | some ns => .ok (.bool (ns.all id))
    | none => .bad
  | _ => .bad
def anyD : PyData → R PyData
  | .list xs => match blsO xs with
    | some ns => .ok (.bool (ns.any id))
    | none => .bad
  | _ => .bad
theorem cd_sum {K : PySem.W.Frag} : CaD K (rSum K) sumD := fun x d H h => by
  cases h with
  | @lst _ _ ds hs ha =>
    cases e : intsO ds with
    | none =>
      simp only [sumD, e]
      exact .inr trivial
    | some ns =>
      have e1 := ints_of ha e
      subst e1
      simp only [sumD, e]
      exact .inl ⟨_, _, rfl, fun _ => .int _, fun Q q => ⟨_, ns, rfl, hs, q⟩⟩
  | _ => exact .inr rfl
theorem cd_all {K : PySem.W.Frag} : CaD K (rAll K) allD := fun x d H h => by
  cases h with
  | @lst _ _ ds hs ha =>
    cases e : blsO ds with
    | none =>
      simp only [allD, e]
      exact .inr trivial
    | some ns =>
      have e1 := bls_of ha e
      subst e1
      simp only [allD, e]
      exact .inl ⟨_, _, rfl, fun _ => .bl _, fun Q q => ⟨_, ns, rfl, hs, q⟩⟩
  | _ => exact .inr rfl
theorem cd_any {K : PySem.W.Frag} : CaD K (rAny K) anyD := fun x d H h => by
  cases h with
  | @lst _ _ ds hs ha =>
    cases e : blsO ds with
    | none =>
      simp only [anyD, e]
      exact .inr trivial
    | some ns =>
      have e1 := bls_of ha e
      subst e1
      simp only [anyD, e]
      exact .inl ⟨_, _, rfl, fun _ => .bl _, fun Q q => ⟨_, ns, rfl, hs, q⟩⟩
  | _ => exact .inr rfl
theorem d_sum {p : Pos} (hc : X.calm = true) (ha : PE X a (qT X.K c f)) (hm : X.mg "sum" = none) (hg : Gl X "sum" := by rfl) (hs : starEach [a] X.env = (false, eval a X.env) :: starEach [] X.env := by rfl) (hpl : (backTo pos (starEach [] X.env)).any (·.1) = false := by rfl) :
    PE X (.Call (.Name "sum" p) [a] [] pos) (qP X.K c (op1 sumD f)) := d_ca (cr_sum hc) cd_sum ha hm (by decide +kernel) hg (by decide) (by decide) hs hpl
theorem d_all {p : Pos} (hc : X.calm = true) (ha : PE X a (qT X.K c f)) (hm : X.mg "all" = none) (hg : Gl X "all" := by rfl) (hs : starEach [a] X.env = (false, eval a X.env) :: starEach [] X.env := by rfl) (hpl : (backTo pos (starEach [] X.env)).any (·.1) = false := by rfl) :
    PE X (.Call (.Name "all" p) [a] [] pos) (qP X.K c (op1 allD f)) := d_ca (cr_all hc) cd_all ha hm (by decide +kernel) hg (by decide) (by decide) hs hpl
theorem d_any {p : Pos} (hc : X.calm = true) (ha : PE X a (qT X.K c f)) (hm : X.mg "any" = none) (hg : Gl X "any" := by rfl) (hs : starEach [a] X.env = (false, eval a X.env) :: starEach [] X.env := by rfl) (hpl : (backTo pos (starEach [] X.env)).any (·.1) = false := by rfl) :
    PE X (.Call (.Name "any" p) [a] [] pos) (qP X.K c (op1 anyD f)) := d_ca (cr_any hc) cd_any ha hm (by decide +kernel) hg (by decide) (by decide) hs hpl
/-! int(x) of an int -/
def intD : PyData → R PyData
  | .int i => .ok (.int i)
  | _ => .bad
theorem cd_int {K : PySem.W.Frag} : CaD K (fun xs H Q => (∃ i, xs = [.int i] ∧ Q (.int i) H) ∨ ∃ k, xs = [.bl k] ∧ Q (.int (if k then 1 else 0)) H) intD := fun x d H h => by
  cases h with
  | int i => exact .inl ⟨_, _, rfl, fun _ => .int _, fun Q q => .inl ⟨_, rfl, q⟩⟩
  | _ => exact .inr rfl
theorem d_intOf {p : Pos} (ha : PE X a (qT X.K c f)) (hm : X.mg "int" = none) (hg : Gl X "int" := by rfl) (hs : starEach [a] X.env = (false, eval a X.env) :: starEach [] X.env := by rfl) (hpl : (backTo pos (starEach [] X.env)).any (·.1) = false := by rfl) :
    PE X (.Call (.Name "int" p) [a] [] pos) (qP X.K c (op1 intD f)) := d_caT call_int1 cd_int ha hm (by decide +kernel) hg (by decide) (by decide) hs hpl
/-! min, max of two ints -/
def minI := gI fun i j => .ok (.int (if j < i then j else i))
def maxI := gI fun i j => .ok (.int (if j > i then j else i))
theorem t_ca2 {K : PySem.W.Frag} {r : List V → Hp → VK → Prop} {g : PyData → PyData → R PyData} (hr : OpD K (fun x y H Q => r [x, y] H Q) g) {σ : L2.St} {H : Hp} {Q : VK} (h : qP K c (op2 g fa fb) σ H Q) : tCB r (tCons (qT K c fa) (tCons (qT K c fb) tNil)) σ H Q := t_op2 hr h
theorem d_min2 {p : Pos} (hc : X.calm = true) (ha : PE X a (qT X.K c fa)) (hb : PE X b (qT X.K c fb)) (hm : X.mg "min" = none) (hg : Gl X "min" := by rfl) (hs : starEach [a, b] X.env = (false, eval a X.env) :: starEach [b] X.env := by rfl) (hs2 : starEach [b] X.env = (false, eval b X.env) :: starEach [] X.env := by rfl) (hpl : (backTo pos (starEach [b] X.env)).any (·.1) = false := by rfl) :
    PE X (.Call (.Name "min" p) [a, b] [] pos) (qP X.K c (op2 minI fa fb)) :=
  pe_imp (pe_callB (call_min2 hc) hg hm (by decide +kernel) (pa_cons ha (pa_cons hb pa_nil hs2) hs) (by decide) (by decide) hs hpl) fun _ _ _ h => t_ca2 (fun x y d e H h1 h2 => by
    cases h1 with
    | int i =>
      cases h2 with
      | int j => exact .inl ⟨_, _, rfl, fun _ => .int _, fun Q q => ⟨i, j, rfl, q⟩⟩
      | _ => exact .inr rfl
    | _ => exact .inr rfl) h
theorem d_max2 {p : Pos} (hc : X.calm = true) (ha : PE X a (qT X.K c fa)) (hb : PE X b (qT X.K c fb)) (hm : X.mg "max" = none) (hg : Gl X "max" := by rfl) (hs : starEach [a, b] X.env = (false, eval a X.env) :: starEach [b] X.env := by rfl) (hs2 : starEach [b] X.env = (false, eval b X.env) :: starEach [] X.env := by rfl) (hpl : (backTo pos (starEach [b] X.env)).any (·.1) = false := by rfl) :
    PE X (.Call (.Name "max" p) [a, b] [] pos) (qP X.K c (op2 maxI fa fb)) :=
  pe_imp (pe_callB (call_max2 hc) hg hm (by decide +kernel) (pa_cons ha (pa_cons hb pa_nil hs2) hs) (by decide) (by decide) hs hpl) fun _ _ _ h => t_ca2 (fun x y d e H h1 h2 => by
    cases h1 with
    | int i =>
      cases h2 with
      | int j => exact .inl ⟨_, _, rfl, fun _ => .int _, fun Q q => ⟨i, j, rfl, q⟩⟩
      | _ => exact .inr rfl
    | _ => exact .inr rfl) h
/-! ### subscripts of lists, tuples, texts -/
def atR {α : Type} (xs : List α) (i : Int) (k : α → PyData) : R PyData := match atI xs i with
  | some d => .ok (k d)
  | none => .bad
def ixD : PyData → PyData → R PyData
  | .list xs, .int i => atR xs i id
  | .tuple xs, .int i => atR xs i id
  | .str x, .int i => if x.length ≤ big then atR x.cps.toList i fun c => .str ⟨#[c]⟩ else .bad
  | _, _ => .bad
theorem DqAll.atI {K : PySem.W.Frag} {H : Hp} {vs : List V} {ds : List PyData} (h : DqAll K H vs ds) {i : Int} {d : PyData} (e : atI ds i = some d) : ∃ v, L2.atI vs i = some v ∧ Dq K H v d := by
  unfold L2.atI at e ⊢
  rw [h.length]
  cases q : ixN ds.length i with
  | none => rw [q] at e; cases e
  | some j =>
    rw [q] at e
    obtain ⟨v, h1, h2⟩ := h.get (show ds[j]? = some d from e)
    exact ⟨v, h1, h2⟩
/-- the answer's place: in F if the container's is -/
theorem ix_run {K : PySem.W.Frag} {F H : Hp} {x y : V} {d e z : PyData} (f : Sam F H) (h1 : Dq K F x d) (h2 : Dq K H y e) (hz : ixD d e = .ok z) : ∃ v, Dq K F v z ∧ ∀ Q : VK, Q v H → rIx K x y H Q := by
  cases h2 with
  | int i =>
    cases h1 with
    | @lst _ _ ds hs ha =>
      unfold ixD atR at hz
      cases q : L2.atI ds i with
      | none => simp only [q] at hz; cases hz
      | some w =>
        simp only [q] at hz
        cases hz
        obtain ⟨v, e1, e2⟩ := ha.atI q
        exact ⟨v, e2, fun Q k => .inl ⟨_, _, i, v, rfl, rfl, f.seq hs, e1, k⟩⟩
    | @tup _ _ ds hs ha =>
      unfold ixD atR at hz
      cases q : L2.atI ds i with
      | none => simp only [q] at hz; cases hz
      | some w =>
        simp only [q] at hz
        cases hz
        obtain ⟨v, e1, e2⟩ := ha.atI q
        exact ⟨v, e2, fun Q k => .inr (.inl ⟨_, _, i, v, rfl, rfl, sqT_mono f hs, e1, k⟩)⟩
    | str t =>
      by_cases hb : t.length ≤ big
      · cases q : L2.atI t.cps.toList i with
        | none => simp only [ixD, atR, if_pos hb, q] at hz; cases hz
        | some w =>
          simp only [ixD, atR, if_pos hb, q] at hz
          cases hz
          exact ⟨_, .str _, fun Q k => .inr (.inr ⟨t, i, w, rfl, rfl, big_le hb, q, k⟩)⟩
      · simp only [ixD, if_neg hb] at hz
        cases hz
    | _ => cases hz
  | _ => cases d <;> cases hz
theorem ixD_noerr (d e : PyData) (x : Str) : ixD d e ≠ .err x := by
  intro h
  unfold ixD atR at h
  split at h
  · split at h <;> cases h
  · split at h <;> cases h
  · split at h
    · split at h <;> cases h
    · cases h
  · cases h
theorem d_ixP (ha : PE X a (qP X.K c fa)) (hb : PE X b (qT X.K c fb)) (hs : PlainIx b := by exact fun _ _ => rfl) : PE X (.Subscript a b pos) (qP X.K c (op2 ixD fa fb)) := by
  refine pe_imp (pe_ix ix_seq ha hb hs) fun σ H Q h => ?_
  obtain ⟨ds, F, s, w⟩ := h
  refine ⟨ds, F, s, wP_bind w fun d v F1 H1 g1 q1 w1 => ⟨ds, F1, s.grow g1, wT_bind w1 fun d2 v2 F2 H2 g2 q2 w2 => ?_⟩⟩
  cases hz : ixD d d2 with
  | bad => rw [hz] at w2; exact w2.elim
  | err x => exact absurd hz (ixD_noerr _ _ _)
  | ok z =>
    rw [hz] at w2
    obtain ⟨u, h1, h2⟩ := ix_run g2.fh (q1.mono g2.ff) q2 hz
    exact h2 _ (w2 u F2 H2 (.refl g2.fh) h1)
theorem wT_bindT {K : PySem.W.Frag} {F H : Hp} {Q Q' : VK} {r : R PyData} {k : PyData → R PyData} (w : wT K c F H Q (r >>= k)) (h : ∀ d v F1 H1, Grow c.T F H F1 H1 → Dq K H1 v d → wT K c F1 H1 Q (k d) → Q' v H1) : wT K c F H Q' r := by
  cases r with
  | bad => exact w
  | err x => exact w
  | ok d => exact fun v F1 H1 g1 q1 => h d v F1 H1 g1 q1 (wT_grow g1 w)
theorem d_ixT (ha : PE X a (qT X.K c fa)) (hb : PE X b (qT X.K c fb)) (hs : PlainIx b := by exact fun _ _ => rfl) : PE X (.Subscript a b pos) (qT X.K c (op2 ixD fa fb)) := by
  refine pe_imp (pe_ix ix_seq ha hb hs) fun σ H Q h => ?_
  obtain ⟨ds, F, s, w⟩ := h
  refine ⟨ds, F, s, wT_bindT w fun d v F1 H1 g1 q1 w1 => ⟨ds, F1, s.grow g1, wT_bindT w1 fun d2 v2 F2 H2 g2 q2 w2 => ?_⟩⟩
  cases hz : ixD d d2 with
  | bad => rw [hz] at w2; exact w2.elim
  | err x => exact absurd hz (ixD_noerr _ _ _)
  | ok z =>
    rw [hz] at w2
    obtain ⟨u, h1, h2⟩ := ix_run (.refl H2) (q1.mono g2.hh) q2 hz
    exact h2 _ (w2 u F2 H2 (.refl g2.fh) h1)
/-- plain things last -/
def plainD : PyData → Bool
  | .none => true
  | .bool _ => true
  | .int _ => true
  | .str _ => true
  | _ => false
def plS (f : ES) : ES := fun ds => f ds >>= fun d => if plainD d = true then .ok d else .bad
theorem d_tp (h : PE X e (qT X.K c f)) : PE X e (qP X.K c (plS f)) := pe_imp h fun σ H Q ⟨ds, F, s, w⟩ => ⟨ds, F, s, wT_bind w fun d v F1 H1 g1 q1 w1 => by
  by_cases hp : plainD d = true
  · rw [if_pos hp] at w1
    refine w1 v F1 H1 (.refl g1.fh) ?_
    cases q1 with
    | non => exact .non
    | bl b => exact .bl b
    | int i => exact .int i
    | str x => exact .str x
    | _ => cases hp
  · rw [if_neg hp] at w1
    exact w1.elim⟩
end
end Cb
namespace Cb
open PySem PySem.Spec PyProof.Rows L2
/-! ### dicts with int and text keys -/
def keyOf : PyData → Option Key
  | .int i => some (.inl i)
  | .str x => some (.inr x)
  | _ => none
theorem keyOf_kD (k : Key) : keyOf (kD k) = some k := by cases k <;> rfl
abbrev KVs := List (PyData × PyData)
def dlook (kvs : KVs) (k : Key) : Option PyData := (kvs.find? fun kv => decide (keyOf kv.1 = some k)).map (·.2)
def dput (kvs : KVs) (k : Key) (d : PyData) : KVs :=
  if (kvs.any fun kv => decide (keyOf kv.1 = some k)) = true then kvs.map (fun kv => if keyOf kv.1 = some k then (kv.1, d) else kv) else kvs ++ [(kD k, d)]
theorem DqKV.look {K : PySem.W.Frag} {H : Hp} (k : Key) : ∀ {l : List (Key × V)} {kvs : KVs}, DqKV K H l kvs → (valV l k = none ∧ dlook kvs k = none) ∨ ∃ v d, valV l k = some v ∧ dlook kvs k = some d ∧ Dq K H v d
  | _, _, .nil => .inl ⟨rfl, rfl⟩
  | (k', v') :: l, (_, d') :: kvs, .cons h t => by
    by_cases e : k' = k
    · subst e
      exact .inr ⟨v', d', valV_pos rfl, by simp [dlook, keyOf_kD], h⟩
    · have e1 : dlook ((kD k', d') :: kvs) k = dlook kvs k := by simp [dlook, List.find?_cons, keyOf_kD, e]
      rw [valV_neg e, e1]
      exact DqKV.look k t
theorem DqKV.any {K : PySem.W.Frag} {H : Hp} (k : Key) : ∀ {l : List (Key × V)} {kvs : KVs}, DqKV K H l kvs → (l.any fun kv => decide (kv.1 = k)) = kvs.any fun kv => decide (keyOf kv.1 = some k)
  | _, _, .nil => rfl
  | (k', v') :: l, (_, d') :: kvs, .cons h t => by
    rw [List.any_cons, List.any_cons, DqKV.any k t]
    show (decide (k' = k) || _) = (decide (keyOf (kD k') = some k) || _)
    rw [keyOf_kD]
    simp
theorem DqKV.map {K : PySem.W.Frag} {H : Hp} (k : Key) {v : V} {d : PyData} (q : Dq K H v d) : ∀ {l : List (Key × V)} {kvs : KVs}, DqKV K H l kvs → DqKV K H (l.map fun kv => if kv.1 = k then (kv.1, v) else kv) (kvs.map fun kv => if keyOf kv.1 = some k then (kv.1, d) else kv)
  | _, _, .nil => .nil
  | (k', v') :: l, (_, d') :: kvs, .cons h t => by
    rw [List.map_cons, List.map_cons]
    show DqKV K H ((if k' = k then (k', v) else (k', v')) :: _) ((if keyOf (kD k') = some k then (kD k', d) else (kD k', d')) :: _)
    rw [keyOf_kD]
    by_cases e : k' = k
    · rw [if_pos e, if_pos (by rw [e])]
      exact .cons q (DqKV.map k q t)
    · rw [if_neg e, if_neg (by intro z; exact e (Option.some.inj z))]
      exact .cons h (DqKV.map k q t)
theorem DqKV.snoc {K : PySem.W.Frag} {H : Hp} {k : Key} {v : V} {d : PyData} (q : Dq K H v d) : ∀ {l : List (Key × V)} {kvs : KVs}, DqKV K H l kvs → DqKV K H (l ++ [(k, v)]) (kvs ++ [(kD k, d)])
  | _, _, .nil => .cons q .nil
  | _, _, .cons h t => .cons h (DqKV.snoc q t)
theorem DqKV.put {K : PySem.W.Frag} {H : Hp} {k : Key} {v : V} {d : PyData} {l : List (Key × V)} {kvs : KVs} (h : DqKV K H l kvs) (q : Dq K H v d) : DqKV K H (putK l k v) (dput kvs k d) := by
  unfold putK dput
  rw [h.any k]
  by_cases e : (kvs.any fun kv => decide (keyOf kv.1 = some k)) = true
  · rw [if_pos e, if_pos e]
    exact h.map k q
  · rw [if_neg e, if_neg e]
    exact h.snoc q
theorem kV_of {K : PySem.W.Frag} {H : Hp} {v : V} {d : PyData} {k : Key} (h : Dq K H v d) (e : keyOf d = some k) : v = kV k := by
  cases h with
  | int i => cases e; rfl
  | str x => cases e; rfl
  | _ => cases e
section
variable {X : Cx} {e a b cc : Expr} {c : Bk} {f fa fb fc : ES} {pos : Pos}
def dgetD : PyData → PyData → R PyData
  | .dict kvs, y => match keyOf y with
    | some k => (match dlook kvs k with
      | some d => .ok d
      | none => .bad)
    | none => .bad
  | _, _ => .bad
theorem dget_run {K : PySem.W.Frag} {F H : Hp} {x y : V} {d e z : PyData} (f : Sam F H) (h1 : Dq K F x d) (h2 : Dq K H y e) (hz : dgetD d e = .ok z) : ∃ a v, x = .ref a ∧ DGet H a y (some v) ∧ Dq K F v z := by
  cases h1 with
  | @dct a l kvs hs ha =>
    cases hk : keyOf e with
    | none => simp only [dgetD, hk] at hz; cases hz
    | some k =>
      simp only [dgetD, hk] at hz
      rcases ha.look k with ⟨e1, e2⟩ | ⟨v, w, e1, e2, e3⟩
      · rw [e2] at hz
        cases hz
      · rw [e2] at hz
        cases hz
        have ey := kV_of h2 hk
        subst ey
        refine ⟨a, v, rfl, ?_, e3⟩
        rw [← e1]
        exact DGet.k (f.keep _ _ hs rfl)
  | _ => cases hz
theorem dgetD_noerr (d e : PyData) (x : Str) : dgetD d e ≠ .err x := by
  intro h
  unfold dgetD at h
  split at h
  · split at h
    · split at h <;> cases h
    · cases h
  · cases h
theorem d_dgP (hu : X.A.units + 1 < cLine) (ha : PE X a (qP X.K c fa)) (hb : PE X b (qT X.K c fb)) (hs : NoSl b := by exact fun _ _ => rfl) : PE X (.Subscript a b pos) (qP X.K c (op2 dgetD fa fb)) := by
  refine pe_imp (pe_dget hu ha hb hs) fun σ H Q h => ?_
  obtain ⟨ds, F, s, w⟩ := h
  refine ⟨ds, F, s, wP_bind w fun d v F1 H1 g1 q1 w1 => ⟨ds, F1, s.grow g1, wT_bind w1 fun d2 v2 F2 H2 g2 q2 w2 => ?_⟩⟩
  cases hz : dgetD d d2 with
  | bad => rw [hz] at w2; exact w2.elim
  | err x => exact absurd hz (dgetD_noerr _ _ _)
  | ok z =>
    rw [hz] at w2
    obtain ⟨p, u, h1, h2, h3⟩ := dget_run g2.fh (q1.mono g2.ff) q2 hz
    exact ⟨p, u, h1, h2, w2 u F2 H2 (.refl g2.fh) h3⟩
theorem d_dgT (hu : X.A.units + 1 < cLine) (ha : PE X a (qT X.K c fa)) (hb : PE X b (qT X.K c fb)) (hs : NoSl b := by exact fun _ _ => rfl) : PE X (.Subscript a b pos) (qT X.K c (op2 dgetD fa fb)) := by
  refine pe_imp (pe_dget hu ha hb hs) fun σ H Q h => ?_
  obtain ⟨ds, F, s, w⟩ := h
  refine ⟨ds, F, s, wT_bindT w fun d v F1 H1 g1 q1 w1 => ⟨ds, F1, s.grow g1, wT_bindT w1 fun d2 v2 F2 H2 g2 q2 w2 => ?_⟩⟩
  cases hz : dgetD d d2 with
  | bad => rw [hz] at w2; exact w2.elim
  | err x => exact absurd hz (dgetD_noerr _ _ _)
  | ok z =>
    rw [hz] at w2
    obtain ⟨p, u, h1, h2, h3⟩ := dget_run (.refl H2) (q1.mono g2.hh) q2 hz
    exact ⟨p, u, h1, h2, w2 u F2 H2 (.refl g2.fh) h3⟩
/-- d.get(k, x) -/
def dgxS (fa fb fc : ES) : ES := fun ds => fa ds >>= fun x => match x with
  | .dict kvs => fb ds >>= fun y => fc ds >>= fun z => (match keyOf y with
    | some k => .ok ((dlook kvs k).getD z)
    | none => .bad)
  | _ => .bad
theorem d_dgx {apos : Pos} (hu : X.A.units + 1 < cLine) (ha : PE X a (qT X.K c fa)) (hb : PE X b (qT X.K c fb)) (hc : PE X cc (qT X.K c fc)) (m : M2 X a "get" apos b cc pos := by exact ⟨rfl, rfl, rfl, rfl⟩) : PE X (.Call (.Attribute a "get" apos) [b, cc] [] pos) (qT X.K c (dgxS fa fb fc)) := by
  refine pe_imp (pe_dget2 hu ha hb hc m) fun σ H Q h => ?_
  obtain ⟨ds, F, s, w⟩ := h
  refine ⟨ds, F, s, wT_bindT w fun d v F1 H1 g1 q1 w1 => ?_⟩
  cases d with
  | dict kvs =>
    cases q1 with
    | @dct p l _ hs hl =>
      refine ⟨p, rfl, .inl ⟨l, .inl hs⟩, ds, F1, s.grow g1, wT_bindT w1 fun d2 v2 F2 H2 g2 q2 w2 => ⟨ds, F2, (s.grow g1).grow g2, wT_bindT w2 fun d3 v3 F3 H3 g3 q3 w3 => ?_⟩⟩
      cases hk : keyOf d2 with
      | none => simp only [hk] at w3; exact w3.elim
      | some k =>
        simp only [hk] at w3
        have ey := kV_of q2 hk
        subst ey
        have hs3 := g3.hh.keep _ _ (g2.hh.keep _ _ hs rfl) rfl
        refine ⟨valV l k, DGet.k hs3, ?_⟩
        rcases hl.look k with ⟨e1, e2⟩ | ⟨u, w, e1, e2, e3⟩
        · rw [e2] at w3
          rw [e1]
          exact w3 v3 F3 H3 (.refl g3.fh) q3
        · rw [e2] at w3
          rw [e1]
          exact w3 u F3 H3 (.refl g3.fh) ((e3.mono g2.hh).mono g3.hh)
  | _ => exact w1.elim
/-- k in d -/
def dinD (y x : PyData) : R PyData := match x with
  | .dict kvs => match keyOf y with
    | some k => .ok (.bool (dlook kvs k).isSome)
    | none => .bad
  | _ => .bad
def dninD (y x : PyData) : R PyData := match x with
  | .dict kvs => match keyOf y with
    | some k => .ok (.bool (!(dlook kvs k).isSome))
    | none => .bad
  | _ => .bad
theorem din_run {K : PySem.W.Frag} {H : Hp} {x y : V} {kvs : KVs} {e : PyData} {k : Key} (h1 : Dq K H x (.dict kvs)) (h2 : Dq K H y e) (hk : keyOf e = some k) : ∃ a o, x = .ref a ∧ DGet H a y o ∧ o.isSome = (dlook kvs k).isSome := by
  cases h1 with
  | @dct a l kvs hs ha =>
    have ey := kV_of h2 hk
    subst ey
    refine ⟨a, valV l k, rfl, DGet.k hs, ?_⟩
    rcases ha.look k with ⟨e1, e2⟩ | ⟨v, w, e1, e2, e3⟩
    · rw [e1, e2]; rfl
    · rw [e1, e2]; rfl
theorem t_din {K : PySem.W.Frag} {σ : L2.St} {H : Hp} {Q : VK} (h : qP K c (op2 dinD fa fb) σ H Q) : tDIn (qT K c fa) (qT K c fb) σ H Q := by
  obtain ⟨ds, F, s, w⟩ := h
  refine ⟨ds, F, s, wT_bind w fun d v F1 H1 g1 q1 w1 => ⟨ds, F1, s.grow g1, wT_bind w1 fun d2 v2 F2 H2 g2 q2 w2 => ?_⟩⟩
  cases d2 with
  | dict kvs =>
    cases hk : keyOf d with
    | none => simp only [dinD, hk] at w2; exact w2.elim
    | some k =>
      simp only [dinD, hk] at w2
      obtain ⟨p, o, e1, e2, e3⟩ := din_run q2 (q1.mono g2.hh) hk
      refine ⟨p, o, e1, e2, ?_⟩
      rw [e3]
      exact w2 _ F2 H2 (.refl g2.fh) (.bl _)
  | _ => exact w2.elim
theorem t_dnin {K : PySem.W.Frag} {σ : L2.St} {H : Hp} {Q : VK} (h : qP K c (op2 dninD fa fb) σ H Q) : tDNotIn (qT K c fa) (qT K c fb) σ H Q := by
  obtain ⟨ds, F, s, w⟩ := h
  refine ⟨ds, F, s, wT_bind w fun d v F1 H1 g1 q1 w1 => ⟨ds, F1, s.grow g1, wT_bind w1 fun d2 v2 F2 H2 g2 q2 w2 => ?_⟩⟩
  cases d2 with
  | dict kvs =>
    cases hk : keyOf d with
    | none => simp only [dninD, hk] at w2; exact w2.elim
    | some k =>
      simp only [dninD, hk] at w2
      obtain ⟨p, o, e1, e2, e3⟩ := din_run q2 (q1.mono g2.hh) hk
      refine ⟨p, o, e1, e2, ?_⟩
      rw [e3]
      exact w2 _ F2 H2 (.refl g2.fh) (.bl _)
  | _ => exact w2.elim
theorem d_din (hu : X.A.units + 1 < cLine) (ha : PE X a (qT X.K c fa)) (hb : PE X b (qT X.K c fb)) (hm : behindInMarks .In b = false := by rfl) : PE X (.Compare a [.In] [b] pos) (qP X.K c (op2 dinD fa fb)) := pe_imp (pe_cmp (pc_din hu ha hb) hm) fun _ _ _ h => t_din h
theorem d_dinB (hu : X.A.units + 1 < cLine) (ha : PE X a (qT X.K c fa)) (hb : PE X b (qT X.K c fb)) (hm : behindInMarks .In b = false := by rfl) : PT X (.Compare a [.In] [b] pos) (qB X.K c (bS (op2 dinD fa fb))) := pt_imp (pt_cmp (pc_din hu ha hb) hm) fun _ _ _ h => t_bP (fun _ _ _ q => t_din q) h
theorem d_dninB (hu : X.A.units + 1 < cLine) (ha : PE X a (qT X.K c fa)) (hb : PE X b (qT X.K c fb)) (hm : behindInMarks .NotIn b = false := by rfl) : PT X (.Compare a [.NotIn] [b] pos) (qB X.K c (bS (op2 dninD fa fb))) := pt_imp (pt_cmp (pc_dnotin hu ha hb) hm) fun _ _ _ h => t_bP (fun _ _ _ q => t_dnin q) h
/-- dict(pairs) -/
def pairsO : List PyData → Option (List (Key × PyData))
  | [] => some []
  | .tuple [k, d] :: r => match keyOf k, pairsO r with
    | some k, some ps => some ((k, d) :: ps)
    | _, _ => none
  | _ => none
def dmerge (kvs : KVs) (ps : List (Key × PyData)) : KVs := ps.foldl (fun acc p => dput acc p.1 p.2) kvs
def dictD : PyData → R PyData
  | .list xs => match pairsO xs with
    | some ps => .ok (.dict (dmerge [] ps))
    | none => .bad
  | _ => .bad
theorem pairs_run {K : PySem.W.Frag} {F H : Hp} (f : Sam F H) : ∀ {vs : List V} {xs : List PyData} {ps : List (Key × PyData)}, DqAll K F vs xs → pairsO xs = some ps → ∃ (as : List Addr) (kvs : List (Key × V)), vs = as.map V.ref ∧ Paired (fun p kv => SqT K H p [kV kv.1, kv.2]) as kvs ∧ Paired (fun (kv : Key × V) (p : Key × PyData) => kv.1 = p.1 ∧ Dq K F kv.2 p.2) kvs ps
  | _, _, _, .nil, e => by
    cases e
    exact ⟨[], [], rfl, .nil, .nil⟩
  | v :: vs, x :: xs, ps, .cons h t, e => by
    unfold pairsO at e
    split at e
    · rename_i z
      cases z
    · rename_i k d r heq
      cases heq
      cases hk : keyOf k with
      | none => simp only [hk] at e; cases e
      | some kk =>
        cases hp : pairsO xs with
        | none => simp only [hk, hp] at e; cases e
        | some ps' =>
          simp only [hk, hp] at e
          cases e
          obtain ⟨as, kvs, e1, e2, e3⟩ := pairs_run f t hp
          cases h with
          | tup hs ha =>
            cases ha with
            | cons h1 h2 =>
              cases h2 with
              | cons h3 h4 =>
                cases h4
                have ek := kV_of h1 hk
                subst ek
                refine ⟨_ :: as, (kk, _) :: kvs, ?_, .cons (sqT_mono f hs) e2, .cons ⟨rfl, h3⟩ e3⟩
                rw [e1]
                rfl
    · cases e
theorem merge_run {K : PySem.W.Frag} {F : Hp} : ∀ {l : List (Key × V)} {ps : List (Key × PyData)} {a : List (Key × V)} {b : KVs}, Paired (fun (kv : Key × V) (p : Key × PyData) => kv.1 = p.1 ∧ Dq K F kv.2 p.2) l ps → DqKV K F a b → DqKV K F (mergeK a l) (dmerge b ps)
  | _, _, _, _, .nil, h => h
  | _, _, _, _, .cons ⟨e, q⟩ t, h => by
    unfold mergeK dmerge
    rw [List.foldl_cons, List.foldl_cons, e]
    exact merge_run t (h.put q)
theorem d_dict {p : Pos} (hc : X.calm = true) (ha : PE X a (qP X.K c f)) (hm : X.mg "dict" = none) (hg : Gl X "dict" := by rfl) (hs : starEach [a] X.env = (false, eval a X.env) :: starEach [] X.env := by rfl) (hpl : (backTo pos (starEach [] X.env)).any (·.1) = false := by rfl) :
    PE X (.Call (.Name "dict" p) [a] [] pos) (qN X.K c (op1 dictD f)) := by
  refine pe_imp (pe_callTy (call_dictP hc) hg hm (by decide +kernel) (pa_cons ha pa_nil hs) (by decide) (by decide) hs hpl) fun σ H Q h => ?_
  obtain ⟨ds, F, s, w⟩ := h
  refine ⟨ds, F, s, ?_⟩
  unfold op1 at w
  cases hf : f ds with
  | bad => rw [hf] at w; exact w
  | err x => rw [hf] at w; exact w
  | ok d =>
    rw [hf, R.ok_bind] at w
    intro v F1 H1 g1 q1
    cases d with
    | list xs =>
      cases hp : pairsO xs with
      | none => simp only [dictD, hp] at w; exact w.elim
      | some ps =>
        simp only [dictD, hp] at w
        cases q1 with
        | lst hs ha =>
          obtain ⟨as, kvs, e1, e2, e3⟩ := pairs_run g1.fh ha hp
          subst e1
          refine ⟨_, as, kvs, rfl, g1.fh.seq hs, e2, fun p hp => ?_⟩
          exact w p F1 _ (g1.trans (.own g1.fh hp)) (g1.hh.free hp) (g1.fh.free hp) ⟨_, upd_same, merge_run e3 .nil⟩
    | _ => exact w.elim
/-- {} -/
theorem d_dnew : PE X (.Dict [] [] pos) (qN X.K c (cS (.dict []))) := by
  refine pe_imp pe_dnewK fun σ H Q h => ?_
  obtain ⟨ds, F, s, w⟩ := h
  intro p hp
  exact w p F _ (.own s.fh hp) hp (s.fh.free hp) ⟨[], upd_same, .nil⟩
/-! ### sorted -/
def insI (x : Int) : List Int → List Int
  | [] => [x]
  | y :: r => if x ≤ y then x :: y :: r else y :: insI x r
def sortI : List Int → List Int
  | [] => []
  | x :: r => insI x (sortI r)
theorem insI_perm (x : Int) : ∀ l : List Int, (insI x l).Perm (x :: l)
  | [] => .refl _
  | y :: r => by
    unfold insI
    split
    · exact .refl _
    · exact ((insI_perm x r).cons y).trans (.swap x y r)
theorem sortI_perm : ∀ l : List Int, (sortI l).Perm l
  | [] => .refl _
  | x :: r => (insI_perm x (sortI r)).trans ((sortI_perm r).cons x)
theorem insI_pw (x : Int) : ∀ {l : List Int}, l.Pairwise (· ≤ ·) → (insI x l).Pairwise (· ≤ ·)
  | [], _ => by simp [insI]
  | y :: r, h => by
    unfold insI
    rw [List.pairwise_cons] at h
    split
    · rename_i hxy
      rw [List.pairwise_cons]
      refine ⟨fun z hz => ?_, List.pairwise_cons.mpr h⟩
      rcases List.mem_cons.mp hz with e | hz
      · subst e; exact hxy
      · have := h.1 z hz; omega
    · rename_i hxy
      rw [List.pairwise_cons]
      refine ⟨fun z hz => ?_, insI_pw x h.2⟩
      rcases List.mem_cons.mp ((insI_perm x r).mem_iff.mp hz) with e | hz
      · subst e; omega
      · exact h.1 z hz
theorem sortI_pw : ∀ l : List Int, (sortI l).Pairwise (· ≤ ·)
  | [] => .nil
  | x :: r => insI_pw x (sortI_pw r)
theorem sortI_uniq {l m : List Int} (p : m.Perm l) (s : m.Pairwise (· ≤ ·)) : m = sortI l :=
  List.Perm.eq_of_pairwise (le := (· ≤ ·)) (fun a b _ _ h1 h2 => by omega) s (sortI_pw l) (p.trans (sortI_perm l).symm)
def sortD : PyData → R PyData
  | .list xs => match intsO xs with
    | some ns => .ok (.list ((sortI ns).map .int))
    | none => .bad
  | .dict kvs => match intsO (kvs.map (·.1)) with
    | some ns => if ns.length < 64 then .ok (.list ((sortI ns).map .int)) else .bad
    | none => .bad
  | _ => .bad
theorem dqInts {K : PySem.W.Frag} {H : Hp} : ∀ ns : List Int, DqAll K H (ns.map V.int) (ns.map PyData.int)
  | [] => .nil
  | n :: r => .cons (.int n) (dqInts r)
theorem keys_ints {K : PySem.W.Frag} {H : Hp} : ∀ {l : List (Key × V)} {kvs : KVs} {ns : List Int}, DqKV K H l kvs → intsO (kvs.map (·.1)) = some ns → l.map (·.1) = ns.map Sum.inl
  | _, _, _, .nil, e => by
    cases e
    rfl
  | (k, v) :: l, (_, d) :: kvs, ns, .cons h t, e => by
    rw [List.map_cons] at e
    cases k with
    | inl i =>
      have e : (intsO (kvs.map (·.1))).map (i :: ·) = some ns := e
      obtain ⟨m, e1, e2⟩ := Option.map_eq_some_iff.mp e
      subst e2
      rw [List.map_cons, keys_ints t e1]
      rfl
    | inr x => simp [kD, intsO] at e
theorem d_sorted {p : Pos} (hc : X.calm = true) (ha : PE X a (qT X.K c f)) (hm : X.mg "sorted" = none) (hg : Gl X "sorted" := by rfl) (hs : starEach [a] X.env = (false, eval a X.env) :: starEach [] X.env := by rfl) (hpl : (backTo pos (starEach [] X.env)).any (·.1) = false := by rfl) :
    PE X (.Call (.Name "sorted" p) [a] [] pos) (qN X.K c (op1 sortD f)) := by
  refine pe_imp (pe_callB (cr_sortedI.or (call_sortedDI hc)) hg hm (by decide +kernel) (pa_cons ha pa_nil hs) (by decide) (by decide) hs hpl) fun σ H Q h => ?_
  obtain ⟨ds, F, s, w⟩ := h
  refine ⟨ds, F, s, ?_⟩
  unfold op1 at w
  cases hf : f ds with
  | bad => rw [hf] at w; exact w
  | err x => rw [hf] at w; exact w
  | ok d =>
    rw [hf, R.ok_bind] at w
    intro v F1 H1 g1 q1
    cases d with
    | list xs =>
      cases hp : intsO xs with
      | none => simp only [sortD, hp] at w; exact w.elim
      | some ns =>
        simp only [sortD, hp] at w
        cases q1 with
        | lst hs ha =>
          have e1 := ints_of ha hp
          subst e1
          refine .inl ⟨_, ns, rfl, hs, fun ns' p p1 p2 hp => ?_⟩
          rw [sortI_uniq p1 p2]
          exact w p F1 _ (g1.trans (.own g1.fh hp)) (g1.hh.free hp) (g1.fh.free hp) ⟨_, upd_same, dqInts _⟩
    | dict kvs =>
      cases hp : intsO (kvs.map (·.1)) with
      | none => simp only [sortD, hp] at w; exact w.elim
      | some ns =>
        simp only [sortD, hp] at w
        by_cases h64 : ns.length < 64
        · rw [if_pos h64] at w
          cases q1 with
          | dct hs ha =>
            refine .inr ⟨_, _, ns, rfl, .inl hs, keys_ints ha hp, h64, fun ns' p p1 p2 hp => ?_⟩
            rw [sortI_uniq p1 p2]
            exact w p F1 _ (g1.trans (.own g1.fh hp)) (g1.hh.free hp) (g1.fh.free hp) ⟨_, upd_same, dqInts _⟩
        · rw [if_neg h64] at w
          exact w.elim
    | _ => exact w.elim
end
end Cb
namespace Cb
open PySem PySem.Spec PyProof.Rows L2
/-! ### what is walked -/
structure Wk (K : PySem.W.Frag) (J : It) (F1 : Hp) (items : List PyData) : Prop where
  go : ∀ (i : Nat) (F H : Hp) (d : PyData), Sam F1 F → Sam F H → items[i]? = some d → J.go i H ∧ ∀ x H', J.yld i H x H' → ∃ F', (∀ T, Grow T F H F' H') ∧ Dq K F' x d
  stop : ∀ (i : Nat) (F H : Hp), Sam F1 F → Sam F H → items.length ≤ i → J.stop i H
def wI (K : PySem.W.Frag) (c : Bk) (F H : Hp) (Rr : It → Hp → Prop) : R (List PyData) → Prop
  | .bad => False
  | .ok ds => ∀ J F' H', Grow c.T F H F' H' → Wk K J F' ds → Rr J H'
  | .err x => wErr c x
def qI (K : PySem.W.Frag) (c : Bk) (f : DS → R (List PyData)) : TI := fun σ H Rr => ∃ ds F, Stt K c F H σ ds ∧ wI K c F H Rr (f ds)
/-- what is walked while nothing is changed -/
structure WkT (K : PySem.W.Frag) (J : It) (F1 H1 : Hp) (items : List PyData) : Prop where
  go : ∀ (i : Nat) (F H : Hp) (d : PyData), Sam F1 F → Sam H1 H → Sam F H → items[i]? = some d → J.go i H ∧ ∀ x H', J.yld i H x H' → ∃ F', (∀ T, Grow T F H F' H') ∧ Dq K F' x d
  stop : ∀ (i : Nat) (F H : Hp), Sam F1 F → Sam H1 H → Sam F H → items.length ≤ i → J.stop i H
theorem Wk.t {K : PySem.W.Frag} {J : It} {F1 H1 : Hp} {items : List PyData} (h : Wk K J F1 items) : WkT K J F1 H1 items := ⟨fun i F H d f _ g e => h.go i F H d f g e, fun i F H f _ g e => h.stop i F H f g e⟩
def wJ (K : PySem.W.Frag) (c : Bk) (F H : Hp) (Rr : It → Hp → Prop) : R (List PyData) → Prop
  | .bad => False
  | .ok ds => ∀ J F' H', Grow c.T F H F' H' → WkT K J F' H' ds → Rr J H'
  | .err x => wErr c x
def qJ (K : PySem.W.Frag) (c : Bk) (f : DS → R (List PyData)) : TI := fun σ H Rr => ∃ ds F, Stt K c F H σ ds ∧ wJ K c F H Rr (f ds)
theorem wk_list {K : PySem.W.Frag} {F1 : Hp} {a : Addr} {vs : List V} {ds : List PyData} (hs : SqL K F1 a vs) (ha : DqAll K F1 vs ds) : Wk K (Itl K a) F1 ds where
  go := fun i F H d f1 f2 e => by
    obtain ⟨v, e1, e2⟩ := ha.get e
    refine ⟨⟨vs, v, (f1.trans f2).seq hs, e1⟩, fun x H' y => ?_⟩
    obtain ⟨rfl, y⟩ := y
    have := y vs ((f1.trans f2).seq hs)
    rw [e1] at this
    cases this
    exact ⟨F, fun _ => .refl f2, e2.mono f1⟩
  stop := fun i F H f1 f2 e => ⟨vs, (f1.trans f2).seq hs, by rw [ha.length]; exact e⟩
theorem wk_tup {K : PySem.W.Frag} {F1 : Hp} {a : Addr} {vs : List V} {ds : List PyData} (hs : SqT K F1 a vs) (ha : DqAll K F1 vs ds) : Wk K (Itt K a) F1 ds where
  go := fun i F H d f1 f2 e => by
    obtain ⟨v, e1, e2⟩ := ha.get e
    refine ⟨⟨vs, v, sqT_mono (f1.trans f2) hs, e1⟩, fun x H' y => ?_⟩
    obtain ⟨rfl, y⟩ := y
    have := y vs (sqT_mono (f1.trans f2) hs)
    rw [e1] at this
    cases this
    exact ⟨F, fun _ => .refl f2, e2.mono f1⟩
  stop := fun i F H f1 f2 e => ⟨vs, sqT_mono (f1.trans f2) hs, by rw [ha.length]; exact e⟩
def rangeD (lo : Int) (n : Nat) : List PyData := (List.range n).map fun i => .int (lo + (i : Nat))
theorem rangeD_len (lo : Int) (n : Nat) : (rangeD lo n).length = n := by simp [rangeD]
theorem rangeD_get {lo : Int} {n i : Nat} {d : PyData} (h : (rangeD lo n)[i]? = some d) : i < n ∧ d = .int (lo + (i : Nat)) := by
  unfold rangeD at h
  rw [List.getElem?_map] at h
  by_cases hi : i < n
  · rw [List.getElem?_range hi] at h
    cases h
    exact ⟨hi, rfl⟩
  · rw [List.getElem?_eq_none (by simpa using hi)] at h
    cases h
theorem wk_range {K : PySem.W.Frag} {F1 : Hp} {lo : Int} {n : Nat} : Wk K (Itr lo n) F1 (rangeD lo n) where
  go := fun i F H d f1 f2 e => by
    obtain ⟨hi, rfl⟩ := rangeD_get e
    refine ⟨hi, fun x H' y => ?_⟩
    obtain ⟨rfl, rfl⟩ := y
    exact ⟨F, fun _ => .refl f2, .int _⟩
  stop := fun i F H f1 f2 e => by
    rw [rangeD_len] at e
    exact e
def zipD : List PyData → List PyData → List PyData
  | x :: xs, y :: ys => .tuple [x, y] :: zipD xs ys
  | _, _ => []
theorem zipD_get : ∀ {xs ys : List PyData} {i : Nat} {d : PyData}, (zipD xs ys)[i]? = some d → ∃ x y, xs[i]? = some x ∧ ys[i]? = some y ∧ d = .tuple [x, y]
  | [], _, _, _, h => by simp [zipD] at h
  | _ :: _, [], _, _, h => by simp [zipD] at h
  | x :: xs, y :: ys, 0, d, h => by
    have h : some (PyData.tuple [x, y]) = some d := h
    cases h
    exact ⟨x, y, rfl, rfl, rfl⟩
  | x :: xs, y :: ys, i + 1, d, h => by
    have h : (zipD xs ys)[i]? = some d := h
    exact zipD_get (xs := xs) (ys := ys) (i := i) h
theorem zipD_len : ∀ {xs ys : List PyData} {i : Nat}, (zipD xs ys).length ≤ i → xs.length ≤ i ∨ ys.length ≤ i
  | [], _, _, _ => .inl (Nat.zero_le _)
  | _ :: _, [], _, _ => .inr (Nat.zero_le _)
  | x :: xs, y :: ys, 0, h => by simp [zipD] at h
  | x :: xs, y :: ys, i + 1, h => by
    have h : (zipD xs ys).length ≤ i := by simpa [zipD] using h
    rcases zipD_len h with z | z
    · exact .inl (by simpa using z)
    · exact .inr (by simpa using z)
theorem wk_zip {K : PySem.W.Frag} {F1 : Hp} {a b : Addr} {vs ws : List V} {ds es : List PyData} (hs : SqL K F1 a vs) (ha : DqAll K F1 vs ds) (hs' : SqL K F1 b ws) (ha' : DqAll K F1 ws es) : Wk K (Itz K a b) F1 (zipD ds es) where
  go := fun i F H d f1 f2 e => by
    obtain ⟨x, y, e1, e2, rfl⟩ := zipD_get e
    obtain ⟨v, k1, k2⟩ := ha.get e1
    obtain ⟨w, k3, k4⟩ := ha'.get e2
    refine ⟨⟨vs, ws, v, w, (f1.trans f2).seq hs, (f1.trans f2).seq hs', k1, k3⟩, fun x H' y => ?_⟩
    obtain ⟨T, x1, x2, rfl, nT, rfl, y1, y2⟩ := y
    have z1 := y1 vs ((f1.trans f2).seq hs)
    have z2 := y2 ws ((f1.trans f2).seq hs')
    rw [k1] at z1
    rw [k3] at z2
    cases z1
    cases z2
    have fT := f2.free nT
    exact ⟨upd F T (.tup [v, w]), fun _ => .new f2 nT, .tup (.of upd_same) (.cons ((k2.mono f1).mono (same_new fT)) (.cons ((k4.mono f1).mono (same_new fT)) .nil))⟩
  stop := fun i F H f1 f2 e => ⟨vs, ws, (f1.trans f2).seq hs, (f1.trans f2).seq hs', by
    rw [ha.length, ha'.length]
    exact zipD_len e⟩
def signsD (x : Str) : List PyData := x.cps.toList.map fun c => .str ⟨#[c]⟩
theorem wk_str {K : PySem.W.Frag} {F1 : Hp} {x : Str} : Wk K (Its x) F1 (signsD x) where
  go := fun i F H d f1 f2 e => by
    unfold signsD at e
    rw [List.getElem?_map] at e
    obtain ⟨c, e1, rfl⟩ := Option.map_eq_some_iff.mp e
    have e2 : x.cps[i]? = some c := by simpa using e1
    refine ⟨(Array.getElem?_eq_some_iff.mp e2).1, fun v H' y => ?_⟩
    obtain ⟨rfl, c', e3, rfl⟩ := y
    rw [e2] at e3
    cases e3
    exact ⟨F, fun _ => .refl f2, .str _⟩
  stop := fun i F H f1 f2 e => by
    have e : x.cps.size ≤ i := by simpa [signsD] using e
    exact e
section
variable {X : Cx} {e a b cc tg : Expr} {c : Bk} {f fa fb fc : ES} {pos : Pos}
def itL (f : ES) : DS → R (List PyData) := fun ds => f ds >>= fun d => match d with
  | .list xs => .ok xs
  | _ => .bad
def itT (f : ES) : DS → R (List PyData) := fun ds => f ds >>= fun d => match d with
  | .tuple xs => .ok xs
  | _ => .bad
def itS (f : ES) : DS → R (List PyData) := fun ds => f ds >>= fun d => match d with
  | .str x => .ok (signsD x)
  | _ => .bad
def in62 (i : Int) : Bool := decide (-(2 ^ 62) ≤ i) && decide (i < 2 ^ 62)
def itR1 (f : ES) : DS → R (List PyData) := fun ds => f ds >>= fun d => match d with
  | .int j => if in62 j = true then .ok (rangeD 0 j.toNat) else .bad
  | _ => .bad
def itR2 (f g : ES) : DS → R (List PyData) := fun ds => f ds >>= fun d => g ds >>= fun e => match d, e with
  | .int i, .int j => if (in62 i && in62 j) = true then .ok (rangeD i (j - i).toNat) else .bad
  | _, _ => .bad
def itZ (f g : ES) : DS → R (List PyData) := fun ds => f ds >>= fun d => g ds >>= fun e => match d, e with
  | .list xs, .list ys => .ok (zipD xs ys)
  | _, _ => .bad
theorem wP_bindI {K : PySem.W.Frag} {F H : Hp} {Rr : It → Hp → Prop} {Q' : VK} {r : R PyData} {k : PyData → R (List PyData)} (w : wI K c F H Rr (r >>= k)) (h : ∀ d v F1 H1, Grow c.T F H F1 H1 → Dq K F1 v d → wI K c F1 H1 Rr (k d) → Q' v H1) : wP K c F H Q' r := by
  cases r with
  | bad => exact w
  | err x => exact w
  | ok d =>
    refine fun v F1 H1 g1 q1 => h d v F1 H1 g1 q1 ?_
    have w : wI K c F H Rr (k d) := w
    cases hk : k d with
    | bad => rw [hk] at w; exact w
    | err x => rw [hk] at w; exact w
    | ok l => rw [hk] at w; exact fun J F2 H2 g2 q2 => w J F2 H2 (g1.trans g2) q2
theorem d_itL (h : PE X e (qP X.K c f)) : PI X tg e (qI X.K c (itL f)) := pi_imp (pi_list h) fun σ H Rr ⟨ds, F, s, w⟩ => ⟨ds, F, s, wP_bindI w fun d v F1 H1 g1 q1 w1 => by
  cases d with
  | list xs =>
    cases q1 with
    | lst hs ha => exact ⟨_, rfl, ⟨_, g1.fh.seq hs⟩, w1 _ F1 H1 (.refl g1.fh) (wk_list hs ha)⟩
  | _ => exact w1.elim⟩
theorem d_itT (h : PE X e (qP X.K c f)) : PI X tg e (qI X.K c (itT f)) := pi_imp (pi_tup h) fun σ H Rr ⟨ds, F, s, w⟩ => ⟨ds, F, s, wP_bindI w fun d v F1 H1 g1 q1 w1 => by
  cases d with
  | tuple xs =>
    cases q1 with
    | tup hs ha => exact ⟨_, rfl, ⟨_, sqT_mono g1.fh hs⟩, w1 _ F1 H1 (.refl g1.fh) (wk_tup hs ha)⟩
  | _ => exact w1.elim⟩
theorem d_itS (h : PE X e (qP X.K c f)) : PI X tg e (qI X.K c (itS f)) := pi_imp (pi_str h) fun σ H Rr ⟨ds, F, s, w⟩ => ⟨ds, F, s, wP_bindI w fun d v F1 H1 g1 q1 w1 => by
  cases d with
  | str x =>
    cases q1 with
    | str y => exact ⟨_, rfl, w1 _ F1 H1 (.refl g1.fh) wk_str⟩
  | _ => exact w1.elim⟩
theorem d_itR1 {p : Pos} (h : PE X a (qP X.K c f)) (hm : X.mg "range" = none) (hg : Gl X "range" := by rfl) (hs : starEach [a] X.env = [(false, eval a X.env)] := by rfl) : PI X tg (.Call (.Name "range" p) [a] [] pos) (qI X.K c (itR1 f)) := pi_imp (pi_range1 hg hm (pa_cons h pa_nil hs) hs) fun σ H Rr ⟨ds, F, s, w⟩ => ⟨ds, F, s, wP_bindI w fun d v F1 H1 g1 q1 w1 => by
  cases d with
  | int j =>
    cases q1 with
    | int j =>
      by_cases hj : in62 j = true
      · simp only [if_pos hj] at w1
        have hj' := hj
        simp only [in62, Bool.and_eq_true, decide_eq_true_eq] at hj'
        exact ⟨j, rfl, hj'.1, hj'.2, w1 _ F1 H1 (.refl g1.fh) wk_range⟩
      · simp only [if_neg hj] at w1
        exact w1.elim
  | _ => exact w1.elim⟩
theorem d_itR2 {p : Pos} (h : PE X a (qP X.K c fa)) (h2 : PE X b (qP X.K c fb)) (hm : X.mg "range" = none) (hg : Gl X "range" := by rfl) (hs : starEach [a, b] X.env = [(false, eval a X.env), (false, eval b X.env)] := by rfl) (hs2 : starEach [b] X.env = [(false, eval b X.env)] := by rfl) : PI X tg (.Call (.Name "range" p) [a, b] [] pos) (qI X.K c (itR2 fa fb)) :=
  pi_imp (pi_range2 hg hm (pa_cons h (pa_cons h2 pa_nil hs2) (by rw [hs, hs2])) hs hs2) fun σ H Rr ⟨ds, F, s, w⟩ => ⟨ds, F, s, wP_bindI w fun d v F1 H1 g1 q1 w1 => ⟨ds, F1, s.grow g1, wP_bindI w1 fun d2 v2 F2 H2 g2 q2 w2 => by
    cases d with
    | int i =>
      cases d2 with
      | int j =>
        cases q1
        cases q2
        by_cases hj : (in62 i && in62 j) = true
        · simp only [if_pos hj] at w2
          have hj' := hj
          simp only [in62, Bool.and_eq_true, decide_eq_true_eq] at hj'
          exact ⟨i, j, rfl, ⟨hj'.1.1, hj'.1.2, hj'.2.1, hj'.2.2⟩, w2 _ F2 H2 (.refl g2.fh) wk_range⟩
        · simp only [if_neg hj] at w2
          exact w2.elim
      | _ => exact w2.elim
    | _ => exact w2.elim⟩⟩
theorem d_itZ {p tpos : Pos} {elts : List Expr} {kk : Nat} (h : PE X a (qP X.K c fa)) (h2 : PE X b (qP X.K c fb)) (hm : X.mg "zip" = none) (hg : Gl X "zip" := by rfl) (hs : starEach [a, b] X.env = (false, eval a X.env) :: starEach [b] X.env := by rfl) (hs2 : starEach [b] X.env = (false, eval b X.env) :: starEach [] X.env := by rfl) (hpl : (backTo pos (starEach [b] X.env)).any (·.1) = false := by rfl) :
    PI X (.Tuple elts kk tpos) (.Call (.Name "zip" p) [a, b] [] pos) (qI X.K c (itZ fa fb)) :=
  pi_imp (pi_zip hg hm (pa_cons h (pa_cons h2 pa_nil hs2) hs) hs hpl) fun σ H Rr ⟨ds, F, s, w⟩ => ⟨ds, F, s, wP_bindI w fun d v F1 H1 g1 q1 w1 => ⟨ds, F1, s.grow g1, wP_bindI w1 fun d2 v2 F2 H2 g2 q2 w2 => by
    cases d with
    | list xs =>
      cases d2 with
      | list ys =>
        cases q1.mono g2.ff with
        | lst hs ha =>
          cases q2 with
          | lst hs' ha' => exact ⟨_, _, _, _, rfl, g2.fh.seq hs, g2.fh.seq hs', w2 _ F2 H2 (.refl g2.fh) (wk_zip hs ha hs' ha')⟩
      | _ => exact w2.elim
    | _ => exact w2.elim⟩⟩
/-! ### targets -/
inductive TgK where
  | nm (i : Nat)
  | pr (i j : Nat)
  | tr (i j k : Nat)
def tgT (K : PySem.W.Frag) : TgK → TG
  | .nm i => gName i
  | .pr i j => gTup K 2 (gCons (gName i) (gCons (gName j) gNil))
  | .tr i j k => gTup K 3 (gCons (gName i) (gCons (gName j) (gCons (gName k) gNil)))
def tgD : TgK → PyData → DS → R DS
  | .nm i, d, ds => .ok (ds.set i (.im d))
  | .pr i j, .tuple [x, y], ds => .ok ((ds.set i (.im x)).set j (.im y))
  | .tr i j k, .tuple [x, y, z], ds => .ok (((ds.set i (.im x)).set j (.im y)).set k (.im z))
  | _, _, _ => .bad
def tgIn : TgK → List Nat → Prop
  | .nm i, vs => i ∈ vs
  | .pr i j, vs => i ∈ vs ∧ j ∈ vs
  | .tr i j k, vs => i ∈ vs ∧ j ∈ vs ∧ k ∈ vs
theorem wipe_get (σ : L2.St) : ∀ (vs : List Nat) (j : Nat), (wipe σ vs)[j]? = if j ∈ vs then (if j < σ.length then some none else none) else σ[j]?
  | [], j => by simp [wipe]
  | v :: vs, j => by
    unfold wipe
    rw [get_set, wipe_get σ vs j, wipe_length]
    by_cases h : v = j
    · subst h
      by_cases hl : v < σ.length
      · simp [hl]
      · simp [hl]
    · by_cases hj : j ∈ vs
      · simp [h, hj]
      · have : ¬ j = v := fun z => h z.symm
        simp [h, hj, this]
theorem wipe_set {σ : L2.St} {i : Nat} {o : Option V} {vs : List Nat} (h : i ∈ vs) : wipe (σ.set i o) vs = wipe σ vs := by
  apply List.ext_getElem?
  intro j
  rw [wipe_get, wipe_get, List.length_set]
  by_cases hj : j ∈ vs
  · rw [if_pos hj, if_pos hj]
  · rw [if_neg hj, if_neg hj, get_set, if_neg]
    rintro ⟨rfl, _⟩
    exact hj h
theorem tg_run {K : PySem.W.Frag} {k : TgK} {F H : Hp} {σ : L2.St} {ds ds' : DS} {v : V} {d : PyData} (s : Stt K c F H σ ds) (q : Dq K F v d) (hd : tgD k d ds = .ok ds') : ∃ σ', (∀ Q : L2.St → Hp → Prop, Q σ' H → tgT K k v σ H Q) ∧ Stt K c F H σ' ds' ∧ ∀ vs, tgIn k vs → wipe σ' vs = wipe σ vs := by
  cases k with
  | nm i =>
    cases hd
    exact ⟨_, fun Q z => z, s.set q, fun vs h => wipe_set h⟩
  | pr i j =>
    unfold tgD at hd
    split at hd
    · rename_i heq; cases heq
    · rename_i heq
      cases heq
      cases hd
      cases q with
      | tup hs ha =>
        cases ha with
        | cons h1 h2 =>
          cases h2 with
          | cons h3 h4 =>
            cases h4
            exact ⟨_, fun Q z => ⟨_, _, rfl, sqT_mono s.fh hs, rfl, _, _, rfl, _, _, rfl, rfl, z⟩, (s.set h1).set h3, fun vs h => by rw [wipe_set h.2, wipe_set h.1]⟩
    · rename_i heq; cases heq
    · cases hd
  | tr i j k =>
    unfold tgD at hd
    split at hd
    · rename_i heq; cases heq
    · rename_i heq; cases heq
    · rename_i heq
      cases heq
      cases hd
      cases q with
      | tup hs ha =>
        cases ha with
        | cons h1 h2 =>
          cases h2 with
          | cons h3 h4 =>
            cases h4 with
            | cons h5 h6 =>
              cases h6
              exact ⟨_, fun Q z => ⟨_, _, rfl, sqT_mono s.fh hs, rfl, _, _, rfl, _, _, rfl, _, _, rfl, rfl, z⟩, ((s.set h1).set h3).set h5, fun vs h => by rw [wipe_set h.2.2, wipe_set h.2.1, wipe_set h.1]⟩
    · cases hd
theorem d_g1 {i : Nat} {x : Str} {K : PySem.W.Frag} (hN : X.N.Nodup) (hi : X.N[i]? = some x := by rfl) (hx : Loc X.env.scope x := by first | exact Or.inl rfl | exact Or.inr rfl) (hf : X.fn x = true ∨ X.env.scope.names.lookup x = some .local := by first | exact .inl rfl | exact .inr rfl | assumption) : PG X (.Name x pos) (tgT K (.nm i)) := pg_name hN hi hx hf
/-! ### list comprehensions -/
def wipeD (ds : DS) : List Nat → DS
  | [] => ds
  | v :: vs => (wipeD ds vs).set v .no
theorem Stt.wipe {K : PySem.W.Frag} {F H : Hp} {σ : L2.St} {ds : DS} (s : Stt K c F H σ ds) : ∀ vs : List Nat, Stt K c F H (L2.wipe σ vs) (wipeD ds vs)
  | [] => s
  | v :: vs => (Stt.wipe s vs).forget
def lcGo (k : TgK) (ft : DS → R Bool) (fe : ES) (ds : DS) : List PyData → R (List PyData)
  | [] => .ok []
  | x :: xs => match tgD k x ds with
    | .ok ds' => (match ft ds' with
      | .ok true => (match fe ds' with
        | .ok y => (match lcGo k ft fe ds xs with
          | .ok ys => .ok (y :: ys)
          | _ => .bad)
        | _ => .bad)
      | .ok false => lcGo k ft fe ds xs
      | _ => .bad)
    | _ => .bad
def lcS (fi : DS → R (List PyData)) (vs : List Nat) (k : TgK) (ft : DS → R Bool) (fe : ES) : ES := fun ds => fi ds >>= fun items => if items.length ≤ big then lcGo k ft fe (wipeD ds vs) items >>= fun ys => .ok (.list ys) else .bad
/-- within a block nothing is raised -/
abbrev Bk.calm (c : Bk) : Bk := { c with E := E0 }
theorem stt_calm {K : PySem.W.Frag} {F H : Hp} {σ : L2.St} {ds : DS} (s : Stt K c F H σ ds) : Stt K c.calm F H σ ds := ⟨s.gr, s.tb, s.len, fun i x h => by
  have q := s.sl i x h
  cases x <;> exact q, s.di⟩
theorem pts_imp {ifs : List Expr} {t t' : TT} (h : PTs X ifs t) (i : ∀ σ H Q, t' σ H Q → t σ H Q) : PTs X ifs t' := ⟨fun pins s σ H Q I q => h.run pins s σ H Q I (i σ H Q q)⟩
def yesB : DS → R Bool := fun _ => .ok true
theorem d_j {tg : Expr} {fi : DS → R (List PyData)} (h : PI X tg e (qI X.K c fi)) : PI X tg e (qJ X.K c fi) := pi_imp h fun σ H Rr ⟨ds, F, s, w⟩ => ⟨ds, F, s, by
  cases hf : fi ds with
  | bad => rw [hf] at w; exact w
  | err x => rw [hf] at w; exact w
  | ok items =>
    rw [hf] at w
    exact fun J F' H' g k => w J F' H' g k.t⟩
/-- a list of one's own, walked -/
def itO (i : Nat) : DS → R (List PyData) := fun ds => match ds[i]? with
  | some (.ow (.list xs)) => .ok xs
  | _ => .bad
theorem d_itO (i : Nat) {x : Str} {tg : Expr} (hN : X.N[i]? = some x := by rfl) (hv : Vis X.env.scope x := by first | exact Or.inl rfl | exact Or.inr (Or.inl rfl) | exact Or.inr (Or.inr rfl)) (hd : (x == ("__debug__" : Str)) = false := by decide) (hcd : (x == ("__classdict__" : Str)) = false := by decide) :
    PI X tg (.Name x pos) (qJ X.K c (itO i)) := pi_imp (pi_list (pe_var hN hv hd hcd)) fun σ H Rr ⟨ds, F, s, w⟩ => by
  unfold itO at w
  split at w
  · rename_i xs hi
    obtain ⟨p, e1, e2, e3, vs, e4, e5⟩ := s.sl i _ hi
    refine ⟨.ref p, e1, p, rfl, ⟨vs, .inl (.inl e4)⟩, w (Itl X.K p) F H (.refl s.fh) ⟨fun j F' H' d f1 h1 f2 e => ?_, fun j F' H' f1 h1 f2 e => ⟨vs, .inl (.inl (h1.keep _ _ e4 rfl)), by rw [e5.length]; exact e⟩⟩⟩
    obtain ⟨v, k1, k2⟩ := e5.get e
    have hs : SqL X.K H' p vs := .inl (.inl (h1.keep _ _ e4 rfl))
    refine ⟨⟨vs, v, hs, k1⟩, fun x H2 y => ?_⟩
    obtain ⟨rfl, y⟩ := y
    have := y vs hs
    rw [k1] at this
    cases this
    exact ⟨F', fun _ => .refl f2, k2.mono f1⟩
  · exact w.elim
theorem d_pts0 : PTs X [] (qB X.K c yesB) := pts_imp pts_nil fun σ H Q ⟨ds, F, s, w⟩ => w F H (.refl s.fh)
theorem d_pts1 {ft : DS → R Bool} (h : PT X a (qB X.K c ft)) : PTs X [a] (qB X.K c ft) := pts_one h
theorem t_lc {K : PySem.W.Frag} {fi : DS → R (List PyData)} {vs : List Nat} {k : TgK} {ft : DS → R Bool} {fe : ES} (hk : tgIn k vs) {σ : L2.St} {H : Hp} {Q : VK} (h : qN K c (lcS fi vs k ft fe) σ H Q) : tLc (qJ K c fi) (tgT K k) (qB K c.calm ft) (qP K c.calm fe) vs σ H Q := by
  obtain ⟨ds, F, s, w⟩ := h
  refine ⟨ds, F, s, ?_⟩
  unfold lcS at w
  cases hf : fi ds with
  | bad => rw [hf] at w; exact w
  | err x => rw [hf] at w; exact w
  | ok items =>
    rw [hf, R.ok_bind] at w
    by_cases hb : items.length ≤ big
    · rw [if_pos hb] at w
      cases hl : lcGo k ft fe (wipeD ds vs) items with
      | bad => rw [hl] at w; exact w.elim
      | err x =>
        exfalso
        have hne : ∀ (l : List PyData) (x : Str), lcGo k ft fe (wipeD ds vs) l ≠ .err x := by
          intro l
          induction l with
          | nil => intro x z; cases z
          | cons a r ih =>
            intro x z
            unfold lcGo at z
            repeat' split at z
            all_goals first | exact ih _ z | cases z
        exact hne _ _ hl
      | ok zs =>
        rw [hl, R.ok_bind] at w
        intro J F1 H1 g1 wk D hD
        have s1 : Stt K c F1 H1 σ ds := s.grow g1
        refine ⟨fun i m H' => m = items.length - i ∧ i ≤ items.length ∧ ∃ F' acc ys ws, Grow c.T F1 H1 F' H' ∧ F' D = none ∧ H' D = some (.lst acc) ∧ DqAll K F' acc ys ∧ acc.length ≤ i ∧ lcGo k ft fe (wipeD ds vs) (items.drop i) = .ok ws ∧ zs = ys ++ ws,
          ⟨items.length, by simp, Nat.zero_le _, F1, [], [], zs, .own g1.fh hD, g1.fh.free hD, upd_same, .nil, Nat.le_refl _, hl, rfl⟩, ?_⟩
        rintro i m H' ⟨rfl, hi, F', acc, ys, ws, g, hF, hH, ha, hla, hg, rfl⟩
        by_cases hlt : i < items.length
        · have ed : items.drop i = items[i] :: items.drop (i + 1) := List.drop_eq_getElem_cons hlt
          have ei : items[i]? = some items[i] := List.getElem?_eq_getElem hlt
          obtain ⟨go, yl⟩ := wk.go i F' H' _ g.ff g.hh g.fh ei
          rw [ed] at hg
          unfold lcGo at hg
          cases ht : tgD k items[i] (wipeD ds vs) with
          | bad => simp only [ht] at hg; cases hg
          | err x => simp only [ht] at hg; cases hg
          | ok ds' =>
            simp only [ht] at hg
            refine .inr ⟨go, fun H'' => ∃ F'' acc' ys' ws', Grow c.T F1 H1 F'' H'' ∧ F'' D = none ∧ H'' D = some (.lst acc') ∧ DqAll K F'' acc' ys' ∧ acc'.length ≤ i + 1 ∧ lcGo k ft fe (wipeD ds vs) (items.drop (i + 1)) = .ok ws' ∧ ys ++ ws = ys' ++ ws', fun H'' hN => ⟨items.length - (i + 1), by omega, rfl, hlt, hN⟩, fun x H2 y => ?_⟩
            obtain ⟨F2, gT, q2⟩ := yl x H2 y
            have g2 := gT c.T
            have s2 : Stt K c.calm F2 H2 (L2.wipe σ vs) (wipeD ds vs) := stt_calm ((s1.grow (g.trans g2)).wipe vs)
            have hF2 : F2 D = none := g2.nw D hF (by rw [hH]; simp)
            have hH2 : H2 D = some (.lst acc) := (g2.hh.keep _ _ hH rfl)
            obtain ⟨σ', k1, s3, k3⟩ := tg_run s2 q2 ht
            refine k1 _ ⟨?_, ds', F2, s3, ?_⟩
            · have z := k3 vs hk
              have z2 : L2.wipe (L2.wipe σ vs) vs = L2.wipe σ vs := by
                apply List.ext_getElem?
                intro j
                rw [wipe_get, wipe_get, wipe_length]
                by_cases hj : j ∈ vs <;> simp [hj]
              rw [z, z2]
            · cases hft : ft ds' with
              | bad => simp only [hft] at hg; cases hg
              | err x => simp only [hft] at hg; cases hg
              | ok bb =>
                intro F3 H3 g3
                cases bb with
                | false =>
                  simp only [hft] at hg
                  rw [if_neg Bool.false_ne_true]
                  exact ⟨F3, acc, ys, ws, (g.trans g2).trans g3, g3.nw D hF2 (by rw [hH2]; simp), (g3.hh.keep _ _ hH2 rfl), (ha.mono g2.ff).mono g3.ff, by omega, hg, rfl⟩
                | true =>
                  simp only [hft] at hg
                  rw [if_pos rfl]
                  refine ⟨ds', F3, s3.grow g3, ?_⟩
                  cases hfe : fe ds' with
                  | bad => simp only [hfe] at hg; cases hg
                  | err x => simp only [hfe] at hg; cases hg
                  | ok yy =>
                    simp only [hfe] at hg
                    intro v F4 H4 g4 q4
                    have hF3 : F3 D = none := g3.nw D hF2 (by rw [hH2]; simp)
                    have hH3 : H3 D = some (.lst acc) := (g3.hh.keep _ _ hH2 rfl)
                    have hF4 : F4 D = none := g4.nw D hF3 (by rw [hH3]; simp)
                    have hH4 : H4 D = some (.lst acc) := (g4.hh.keep _ _ hH3 rfl)
                    cases hr : lcGo k ft fe (wipeD ds vs) (items.drop (i + 1)) with
                    | bad => simp only [hr] at hg; cases hg
                    | err x => simp only [hr] at hg; cases hg
                    | ok ws' =>
                      simp only [hr] at hg
                      cases hg
                      refine ⟨acc, hH4, ?_, F4, acc ++ [v], ys ++ [yy], ws', Grow.mut (((g.trans g2).trans g3).trans g4) hD hF4 hH4 rfl, hF4, upd_same, (((ha.mono g2.ff).mono g3.ff).mono g4.ff).append (.cons q4 .nil), ?_, rfl, ?_⟩
                      · exact Nat.lt_of_lt_of_le (Nat.lt_of_le_of_lt hla hlt) (big_le hb)
                      · rw [List.length_append]
                        show acc.length + 1 ≤ i + 1
                        omega
                      · rw [List.append_assoc]
                        rfl
        · have e : i = items.length := by omega
          subst e
          rw [List.drop_length] at hg
          cases hg
          refine .inl ⟨wk.stop _ F' H' g.ff g.hh g.fh (Nat.le_refl _), ?_⟩
          rw [List.append_nil] at w
          exact w D F' H' (g1.trans g) (g1.hh.free hD) hF ⟨acc, hH, ha⟩
    · rw [if_neg hb] at w
      exact w.elim
theorem d_lc {elt iter : Expr} {ifs : List Expr} {scope : Scope} {own : List (Str × Nat)} {vs : List Nat} {fi : DS → R (List PyData)} {k : TgK} {ft : DS → R Bool} {fe : ES} (hc : X.calm = true) (hN : X.N.Nodup) (hi : PI X tg iter (qJ X.K c fi)) (ok : BlkOk X.N X.env.scope scope own)
    (hg : ∀ (s : Shared) (H : Hp) (C : Addr) (cl : List (Str × Addr)) (fp : List Addr), PG (X.blk s H scope (compEnvC scope cl C X.env) fp) tg (tgT X.K k)) (ht : ∀ (s : Shared) (H : Hp) (C : Addr) (cl : List (Str × Addr)) (fp : List Addr), PTs (X.blk s H scope (compEnvC scope cl C X.env) fp) ifs (qB X.K c.calm ft))
    (he : ∀ (s : Shared) (H : Hp) (C : Addr) (cl : List (Str × Addr)) (fp : List Addr), PE (X.blk s H scope (compEnvC scope cl C X.env) fp) elt (qP X.K c.calm fe)) (hk : tgIn k vs) (hvs : own.map (·.2) = vs := by rfl) (hs : ∀ x, foldedSetIterable iter X.env x = pure x := by intro _; rfl) :
    PE X (.ListComp elt [⟨tg, iter, ifs, 0⟩] scope pos) (qN X.K c (lcS fi vs k ft fe)) := by
  subst hvs
  exact pe_imp (pe_lc hc hN hi ok hg ht he hs) fun _ _ _ h => t_lc hk h
end
end Cb
namespace Cb
open PySem PySem.Spec PyProof.Rows L2
/-! ### statements -/
inductive Out where
  | bad
  | nx (ds : DS)
  | rt (d : PyData)
  | bk (ds : DS)
  | ct (ds : DS)
  | err (x : Str)
def wS (K : PySem.W.Frag) (c : Bk) (F : Hp) (D : Ends) : Out → Prop
  | .bad => False
  | .nx ds => ∀ σ F' H, Sam F F' → Stt K c F' H σ ds → D.nx σ H
  | .rt d => ∀ v F' H, Grow c.T c.F0 c.H0 F' H → Dq K F' v d → D.rt v H
  | .bk ds => ∀ σ F' H, Sam F F' → Stt K c F' H σ ds → D.bk σ H
  | .ct ds => ∀ σ F' H, Sam F F' → Stt K c F' H σ ds → D.ct σ H
  | .err x => wErr c x
def qS (K : PySem.W.Frag) (c : Bk) (g : DS → Out) : TS := fun D σ H => ∃ ds F, Stt K c F H σ ds ∧ wS K c F D (g ds)
theorem wS_mono {K : PySem.W.Frag} {c : Bk} {F F1 : Hp} {D : Ends} {o : Out} (f : Sam F F1) (w : wS K c F D o) : wS K c F1 D o := by
  cases o with
  | bad => exact w
  | nx ds => exact fun σ F' H f' s => w σ F' H (f.trans f') s
  | bk ds => exact fun σ F' H f' s => w σ F' H (f.trans f') s
  | ct ds => exact fun σ F' H f' s => w σ F' H (f.trans f') s
  | rt d => exact w
  | err x => exact w
def toO (r : R PyData) (k : PyData → Out) : Out := match r with
  | .bad => .bad
  | .ok d => k d
  | .err x => .err x
def toB (r : R Bool) (k : Bool → Out) : Out := match r with
  | .bad => .bad
  | .ok d => k d
  | .err x => .err x
section
variable {X : Cx} {e a b cc tg : Expr} {c : Bk} {f fa fb fc : ES} {pos : Pos} {st : Stmt} {rest : List Stmt} {g g1 g2 : DS → Out}
theorem wP_toO {K : PySem.W.Frag} {F H : Hp} {D : Ends} {Q' : VK} {r : R PyData} {k : PyData → Out} (w : wS K c F D (toO r k)) (h : ∀ d v F1 H1, Grow c.T F H F1 H1 → Dq K F1 v d → wS K c F1 D (k d) → Q' v H1) : wP K c F H Q' r := by
  cases r with
  | bad => exact w
  | err x => exact w
  | ok d => exact fun v F1 H1 g1 q1 => h d v F1 H1 g1 q1 (wS_mono g1.ff w)
theorem wT_toO {K : PySem.W.Frag} {F H : Hp} {D : Ends} {Q' : VK} {r : R PyData} {k : PyData → Out} (w : wS K c F D (toO r k)) (h : ∀ d v F1 H1, Grow c.T F H F1 H1 → Dq K H1 v d → wS K c F1 D (k d) → Q' v H1) : wT K c F H Q' r := by
  cases r with
  | bad => exact w
  | err x => exact w
  | ok d => exact fun v F1 H1 g1 q1 => h d v F1 H1 g1 q1 (wS_mono g1.ff w)
theorem wN_toO {K : PySem.W.Frag} {F H : Hp} {D : Ends} {Q' : VK} {r : R PyData} {k : PyData → Out} (w : wS K c F D (toO r k)) (h : ∀ d p F1 H1, Grow c.T F H F1 H1 → H p = none → F1 p = none → Own K F1 H1 p d → wS K c F1 D (k d) → Q' (.ref p) H1) : wN K c F H Q' r := by
  cases r with
  | bad => exact w
  | err x => exact w
  | ok d => exact fun v F1 H1 g1 q1 q2 q3 => h d v F1 H1 g1 q1 q2 q3 (wS_mono g1.ff w)
theorem wB_toB {K : PySem.W.Frag} {F H : Hp} {D : Ends} {Q' : Bool → Hp → Prop} {r : R Bool} {k : Bool → Out} (w : wS K c F D (toB r k)) (h : ∀ d F1 H1, Grow c.T F H F1 H1 → wS K c F1 D (k d) → Q' d H1) : wB c F H Q' r := by
  cases r with
  | bad => exact w
  | err x => exact w
  | ok d => exact fun F1 H1 g1 => h d F1 H1 g1 (wS_mono g1.ff w)
/-! blocks -/
def nxS : DS → Out := fun ds => .nx ds
def seqS (g1 g2 : DS → Out) : DS → Out := fun ds => match g1 ds with
  | .nx ds' => g2 ds'
  | o => o
theorem d_nil : PSs X [] (qS X.K c nxS) := pss_imp pss_nil fun D σ H ⟨ds, F, s, w⟩ => w σ F H (.refl F) s
theorem d_one (h : PS X st (qS X.K c g)) : PSs X [st] (qS X.K c g) := pss_one h
theorem d_cons (h1 : PS X st (qS X.K c g1)) (h2 : PSs X rest (qS X.K c g2)) : PSs X (st :: rest) (qS X.K c (seqS g1 g2)) := by
  refine pss_imp (pss_cons h1 h2) fun D σ H h => ?_
  obtain ⟨ds, F, s, w⟩ := h
  refine ⟨ds, F, s, ?_⟩
  unfold seqS at w
  cases hg : g1 ds with
  | bad => rw [hg] at w; exact w
  | nx ds' =>
    rw [hg] at w
    exact fun σ' F' H' f' s' => ⟨ds', F', s', wS_mono f' w⟩
  | rt d => rw [hg] at w; exact w
  | bk d => rw [hg] at w; exact w
  | ct d => rw [hg] at w; exact w
  | err x => rw [hg] at w; exact w
/-- a name's object is let go: from now on it lasts, and is changed no more -/
def frzS (i : Nat) (g : DS → Out) : DS → Out := fun ds => match ds[i]? with
  | some (.ow d) => g (ds.set i (.im d))
  | _ => .bad
theorem Stt.frz {K : PySem.W.Frag} {F H : Hp} {σ : L2.St} {ds : DS} {i : Nat} {d : PyData} (s : Stt K c F H σ ds) (hi : ds[i]? = some (.ow d)) : ∃ F', Sam F F' ∧ Stt K c F' H σ (ds.set i (.im d)) := by
  obtain ⟨p, e1, e2, e3, e4⟩ := s.sl i _ hi
  obtain ⟨o, ho, _, hn⟩ := e4.there
  have hlt : i < ds.length := (List.getElem?_eq_some_iff.mp hi).1
  refine ⟨upd F p o, same_new e3, s.gr.frz e2 e3 ho hn, s.tb, by rw [List.length_set]; exact s.len, fun j x q => ?_, fun j k p' d1 d2 hjk q1 q2 q3 => ?_⟩
  · rw [get_set] at q
    by_cases hij : i = j ∧ i < ds.length
    · rw [if_pos hij] at q
      cases q
      rw [← hij.1]
      refine ⟨_, e1, ?_⟩
      cases d with
      | list xs =>
        obtain ⟨vs, k1, k2⟩ := e4
        rw [ho] at k1
        cases k1
        exact .lst (.of upd_same) (k2.mono (same_new e3))
      | dict xs =>
        obtain ⟨vs, k1, k2⟩ := e4
        rw [ho] at k1
        cases k1
        exact .dct upd_same (k2.mono (same_new e3))
      | _ => exact e4.elim
    · rw [if_neg hij] at q
      have r := s.sl j x q
      cases x with
      | no => trivial
      | im z => obtain ⟨v, r1, r2⟩ := r; exact ⟨v, r1, r2.mono (same_new e3)⟩
      | bw z => exact r
      | ow z =>
        obtain ⟨p2, r1, r2, r3, r4⟩ := r
        have ne : p2 ≠ p := fun z' => by
          subst z'
          exact s.di i j p2 d z (fun z => hij ⟨z, hlt⟩) hi q e1 r1
        exact ⟨p2, r1, r2, by rw [upd_ne ne]; exact r3, r4.mono (same_new e3) fun _ h _ => h⟩
  · have fo : ∀ {m : Nat} {z : PyData}, (ds.set i (.im d))[m]? = some (.ow z) → ds[m]? = some (.ow z) := fun {m z} q => by
      rw [get_set] at q
      by_cases hij : i = m ∧ i < ds.length
      · rw [if_pos hij] at q
        cases q
      · rw [if_neg hij] at q
        exact q
    exact s.di j k p' d1 d2 hjk (fo q1) (fo q2) q3
theorem d_frz (i : Nat) (h : PSs X rest (qS X.K c g)) : PSs X rest (qS X.K c (frzS i g)) := pss_imp h fun D σ H ⟨ds, F, s, w⟩ => by
  unfold frzS at w
  cases hi : ds[i]? with
  | none => rw [hi] at w; exact w.elim
  | some x =>
    rw [hi] at w
    cases x with
    | ow d =>
      obtain ⟨F', f', s'⟩ := s.frz hi
      exact ⟨_, F', s', wS_mono f' w⟩
    | _ => exact w.elim
/-! x = e -/
def setS (i : Nat) (f : ES) : DS → Out := fun ds => toO (f ds) fun d => .nx (ds.set i (.im d))
def setN (i : Nat) (f : ES) : DS → Out := fun ds => toO (f ds) fun d => .nx (ds.set i (.ow d))
theorem Stt.setNew {K : PySem.W.Frag} {F H F1 H1 : Hp} {σ : L2.St} {ds : DS} {i : Nat} {p : Addr} {d : PyData} (s : Stt K c F H σ ds) (g : Grow c.T F H F1 H1) (hp : H p = none) (hF : F1 p = none) (ho : Own K F1 H1 p d) : Stt K c F1 H1 (σ.set i (some (.ref p))) (ds.set i (.ow d)) :=
  (s.grow g).setN (s.gr.hh.free hp) hF ho fun j d' hj _ z => by
    obtain ⟨p', e1, e2, e3, e4⟩ := s.sl j _ hj
    rw [e1] at z
    have e : p' = p := V.ref.inj (Option.some.inj (Option.some.inj z))
    subst e
    obtain ⟨o, ho, _⟩ := e4.there
    rw [hp] at ho
    cases ho
theorem d_set (i : Nat) {x : Str} {p' : Pos} (hN : X.N.Nodup) (he : PE X e (qP X.K c f)) (hi : X.N[i]? = some x := by rfl) (hx : Loc X.env.scope x := by first | exact Or.inl rfl | exact Or.inr rfl) (hs : swapsWith e (some (.Name x p')) pos.line X.env = pure false := by rfl) (hf : X.fn x = true ∨ X.env.scope.names.lookup x = some .local := by first | exact .inl rfl | exact .inr rfl | assumption) :
    PS X (.Assign [.Name x p'] e pos) (qS X.K c (setS i f)) := ps_imp (ps_set hN hi hx he hs hf) fun D σ H ⟨ds, F, s, w⟩ => ⟨ds, F, s, wP_toO w fun d v F1 H1 g1 q1 w1 => w1 _ F1 H1 (.refl F1) ((s.grow g1).set q1)⟩
theorem d_setN (i : Nat) {x : Str} {p' : Pos} (hN : X.N.Nodup) (he : PE X e (qN X.K c f)) (hi : X.N[i]? = some x := by rfl) (hx : Loc X.env.scope x := by first | exact Or.inl rfl | exact Or.inr rfl) (hs : swapsWith e (some (.Name x p')) pos.line X.env = pure false := by rfl) (hf : X.fn x = true ∨ X.env.scope.names.lookup x = some .local := by first | exact .inl rfl | exact .inr rfl | assumption) :
    PS X (.Assign [.Name x p'] e pos) (qS X.K c (setN i f)) := ps_imp (ps_set hN hi hx he hs hf) fun D σ H ⟨ds, F, s, w⟩ => ⟨ds, F, s, wN_toO w fun d p F1 H1 g1 q1 q2 q3 w1 => w1 _ F1 H1 (.refl F1) (s.setNew g1 q1 q2 q3)⟩
/-- x = [.. for ..] -/
theorem d_setLcN (i : Nat) {y : Str} {py : Pos} {elt iter : Expr} {ifs : List Expr} {scope : Scope} {own : List (Str × Nat)} {vs : List Nat} {spos : Pos} {fi : DS → R (List PyData)} {k : TgK} {ft : DS → R Bool} {fe : ES} (hc : X.calm = true) (hN : X.N.Nodup) (hi : PI X tg iter (qJ X.K c fi)) (ok : BlkOk X.N X.env.scope scope own)
    (hg : ∀ (s : Shared) (H : Hp) (C : Addr) (cl : List (Str × Addr)) (fp : List Addr), PG (X.blk s H scope (compEnvC scope cl C X.env) fp) tg (tgT X.K k)) (ht : ∀ (s : Shared) (H : Hp) (C : Addr) (cl : List (Str × Addr)) (fp : List Addr), PTs (X.blk s H scope (compEnvC scope cl C X.env) fp) ifs (qB X.K c.calm ft))
    (he : ∀ (s : Shared) (H : Hp) (C : Addr) (cl : List (Str × Addr)) (fp : List Addr), PE (X.blk s H scope (compEnvC scope cl C X.env) fp) elt (qP X.K c.calm fe)) (hk : tgIn k vs) (hvs : own.map (·.2) = vs := by rfl)
    (hy : X.N[i]? = some y := by rfl) (hyl : X.env.scope.names.lookup y = some .local := by rfl) (hsw : swapsWith (.ListComp elt [⟨tg, iter, ifs, 0⟩] scope pos) (some (.Name y py)) spos.line X.env = pure true := by exact sw_true rfl rfl rfl (by decide +kernel)) (hs : ∀ x, foldedSetIterable iter X.env x = pure x := by intro _; rfl) :
    PS X (.Assign [.Name y py] (.ListComp elt [⟨tg, iter, ifs, 0⟩] scope pos) spos) (qS X.K c (setN i (lcS fi vs k ft fe))) :=
  by
  subst hvs
  exact ps_imp (ps_setLc hc hN hy hyl hsw hi ok hg ht he hs) fun D σ H ⟨ds, F, s, w⟩ => t_lc hk ⟨ds, F, s, wN_toO w fun d p F1 H1 g1 q1 q2 q3 w1 => w1 _ F1 H1 (.refl F1) (s.setNew g1 q1 q2 q3)⟩
theorem d_setLc (i : Nat) {y : Str} {py : Pos} {elt iter : Expr} {ifs : List Expr} {scope : Scope} {own : List (Str × Nat)} {vs : List Nat} {spos : Pos} {fi : DS → R (List PyData)} {k : TgK} {ft : DS → R Bool} {fe : ES} (hc : X.calm = true) (hN : X.N.Nodup) (hi : PI X tg iter (qJ X.K c fi)) (ok : BlkOk X.N X.env.scope scope own)
    (hg : ∀ (s : Shared) (H : Hp) (C : Addr) (cl : List (Str × Addr)) (fp : List Addr), PG (X.blk s H scope (compEnvC scope cl C X.env) fp) tg (tgT X.K k)) (ht : ∀ (s : Shared) (H : Hp) (C : Addr) (cl : List (Str × Addr)) (fp : List Addr), PTs (X.blk s H scope (compEnvC scope cl C X.env) fp) ifs (qB X.K c.calm ft))
    (he : ∀ (s : Shared) (H : Hp) (C : Addr) (cl : List (Str × Addr)) (fp : List Addr), PE (X.blk s H scope (compEnvC scope cl C X.env) fp) elt (qP X.K c.calm fe)) (hk : tgIn k vs) (hvs : own.map (·.2) = vs := by rfl)
    (hy : X.N[i]? = some y := by rfl) (hyl : X.env.scope.names.lookup y = some .local := by rfl) (hsw : swapsWith (.ListComp elt [⟨tg, iter, ifs, 0⟩] scope pos) (some (.Name y py)) spos.line X.env = pure true := by exact sw_true rfl rfl rfl (by decide +kernel)) (hs : ∀ x, foldedSetIterable iter X.env x = pure x := by intro _; rfl) :
    PS X (.Assign [.Name y py] (.ListComp elt [⟨tg, iter, ifs, 0⟩] scope pos) spos) (qS X.K c (setS i (lcS fi vs k ft fe))) :=
  by
  subst hvs
  exact ps_imp (ps_setLc hc hN hy hyl hsw hi ok hg ht he hs) fun D σ H ⟨ds, F, s, w⟩ => t_lc hk ⟨ds, F, s, by
    unfold setS at w
    cases hf : lcS fi (own.map (·.2)) k ft fe ds with
    | bad => rw [hf] at w; exact w
    | err x => rw [hf] at w; exact w
    | ok d =>
      rw [hf] at w
      intro p F1 H1 g1 q1 q2 q3
      have w1 := wS_mono (K := X.K) (c := c) (D := D) g1.ff w
      cases d with
      | list xs =>
        obtain ⟨vs, k1, k2⟩ := q3
        have g3 := g1.frz q1 q2 k1
        exact w _ _ H1 g3.ff ((s.grow g3).set (.lst (.of upd_same) (k2.mono (same_new q2))))
      | dict xs =>
        obtain ⟨vs, k1, k2⟩ := q3
        have g3 := g1.frz q1 q2 k1
        exact w _ _ H1 g3.ff ((s.grow g3).set (.dct upd_same (k2.mono (same_new q2))))
      | _ => exact q3.elim⟩
/-! a, b = x, y -/
def parPP (i j : Nat) (f g : ES) : DS → Out := fun ds => toO (f ds) fun d => toO (g ds) fun e => .nx ((ds.set i (.im d)).set j (.im e))
def parNP (i j : Nat) (f g : ES) : DS → Out := fun ds => toO (f ds) fun d => toO (g ds) fun e => .nx ((ds.set i (.ow d)).set j (.im e))
def parPN (i j : Nat) (f g : ES) : DS → Out := fun ds => toO (f ds) fun d => toO (g ds) fun e => .nx ((ds.set i (.im d)).set j (.ow e))
def parNN (i j : Nat) (f g : ES) : DS → Out := fun ds => toO (f ds) fun d => toO (g ds) fun e => .nx ((ds.set i (.ow d)).set j (.ow e))
section
variable {i j : Nat} {x y : Str} {px py pt pt2 : Pos} {kt k2 : Nat}
theorem d_parPP (i j : Nat) (hc : X.calm = true) (hN : X.N.Nodup) (ha : PE X a (qP X.K c fa)) (hb : PE X b (qP X.K c fb)) (hij : i ≠ j := by decide) (hi : X.N[i]? = some x := by rfl) (hj : X.N[j]? = some y := by rfl)
    (hx : X.env.scope.names.lookup x = some .local := by rfl) (hy : X.env.scope.names.lookup y = some .local := by rfl)
    (hs1 : starEach [a, b] X.env = (false, eval a X.env) :: starEach [b] X.env := by rfl) (hs2 : starEach [b] X.env = (false, eval b X.env) :: starEach [] X.env := by rfl)
    (hw : swappedStores [.Tuple [.Name x px, .Name y py] kt pt] (.Tuple [a, b] k2 pt2) X.env = pure (some [x, y]) := by rfl)
    (hs : swapsWithSole [.Tuple [.Name x px, .Name y py] kt pt] (.Tuple [a, b] k2 pt2) pos.line X.env = pure false := by rfl) :
    PS X (.Assign [.Tuple [.Name x px, .Name y py] kt pt] (.Tuple [a, b] k2 pt2) pos) (qS X.K c (parPP i j fa fb)) :=
  ps_imp (ps_par hc hN hi hj hij hx hy (pa_cons ha (pa_cons hb pa_nil hs2) hs1) hw hs) fun D σ H ⟨ds, F, s, w⟩ => ⟨ds, F, s, wP_toO w fun d v F1 H1 g1 q1 w1 => ⟨ds, F1, s.grow g1, wP_toO w1 fun d2 v2 F2 H2 g2 q2 w2 =>
    ⟨v, v2, rfl, w2 _ F2 H2 (.refl F2) ((((s.grow g1).grow g2).set (q1.mono g2.ff)).set q2)⟩⟩⟩
theorem d_parNP (i j : Nat) (hc : X.calm = true) (hN : X.N.Nodup) (ha : PE X a (qN X.K c fa)) (hb : PE X b (qP X.K c fb)) (hij : i ≠ j := by decide) (hi : X.N[i]? = some x := by rfl) (hj : X.N[j]? = some y := by rfl)
    (hx : X.env.scope.names.lookup x = some .local := by rfl) (hy : X.env.scope.names.lookup y = some .local := by rfl)
    (hs1 : starEach [a, b] X.env = (false, eval a X.env) :: starEach [b] X.env := by rfl) (hs2 : starEach [b] X.env = (false, eval b X.env) :: starEach [] X.env := by rfl)
    (hw : swappedStores [.Tuple [.Name x px, .Name y py] kt pt] (.Tuple [a, b] k2 pt2) X.env = pure (some [x, y]) := by rfl)
    (hs : swapsWithSole [.Tuple [.Name x px, .Name y py] kt pt] (.Tuple [a, b] k2 pt2) pos.line X.env = pure false := by rfl) :
    PS X (.Assign [.Tuple [.Name x px, .Name y py] kt pt] (.Tuple [a, b] k2 pt2) pos) (qS X.K c (parNP i j fa fb)) :=
  ps_imp (ps_par hc hN hi hj hij hx hy (pa_cons ha (pa_cons hb pa_nil hs2) hs1) hw hs) fun D σ H ⟨ds, F, s, w⟩ => ⟨ds, F, s, wN_toO w fun d p F1 H1 g1 n1 n2 n3 w1 => ⟨ds, F1, s.grow g1, wP_toO w1 fun d2 v2 F2 H2 g2 q2 w2 =>
    ⟨_, v2, rfl, w2 _ F2 H2 (.refl F2) (((s.setNew g1 n1 n2 n3).grow g2).set q2)⟩⟩⟩
theorem d_parPN (i j : Nat) (hc : X.calm = true) (hN : X.N.Nodup) (ha : PE X a (qP X.K c fa)) (hb : PE X b (qN X.K c fb)) (hij : i ≠ j := by decide) (hi : X.N[i]? = some x := by rfl) (hj : X.N[j]? = some y := by rfl)
    (hx : X.env.scope.names.lookup x = some .local := by rfl) (hy : X.env.scope.names.lookup y = some .local := by rfl)
    (hs1 : starEach [a, b] X.env = (false, eval a X.env) :: starEach [b] X.env := by rfl) (hs2 : starEach [b] X.env = (false, eval b X.env) :: starEach [] X.env := by rfl)
    (hw : swappedStores [.Tuple [.Name x px, .Name y py] kt pt] (.Tuple [a, b] k2 pt2) X.env = pure (some [x, y]) := by rfl)
    (hs : swapsWithSole [.Tuple [.Name x px, .Name y py] kt pt] (.Tuple [a, b] k2 pt2) pos.line X.env = pure false := by rfl) :
    PS X (.Assign [.Tuple [.Name x px, .Name y py] kt pt] (.Tuple [a, b] k2 pt2) pos) (qS X.K c (parPN i j fa fb)) :=
  ps_imp (ps_par hc hN hi hj hij hx hy (pa_cons ha (pa_cons hb pa_nil hs2) hs1) hw hs) fun D σ H ⟨ds, F, s, w⟩ => ⟨ds, F, s, wP_toO w fun d v F1 H1 g1 q1 w1 => ⟨ds, F1, s.grow g1, wN_toO w1 fun d2 p F2 H2 g2 n1 n2 n3 w2 =>
    ⟨_, _, rfl, w2 _ F2 H2 (.refl F2) (((s.grow g1).set q1).setNew g2 n1 n2 n3)⟩⟩⟩
theorem d_parNN (i j : Nat) (hc : X.calm = true) (hN : X.N.Nodup) (ha : PE X a (qN X.K c fa)) (hb : PE X b (qN X.K c fb)) (hij : i ≠ j := by decide) (hi : X.N[i]? = some x := by rfl) (hj : X.N[j]? = some y := by rfl)
    (hx : X.env.scope.names.lookup x = some .local := by rfl) (hy : X.env.scope.names.lookup y = some .local := by rfl)
    (hs1 : starEach [a, b] X.env = (false, eval a X.env) :: starEach [b] X.env := by rfl) (hs2 : starEach [b] X.env = (false, eval b X.env) :: starEach [] X.env := by rfl)
    (hw : swappedStores [.Tuple [.Name x px, .Name y py] kt pt] (.Tuple [a, b] k2 pt2) X.env = pure (some [x, y]) := by rfl)
    (hs : swapsWithSole [.Tuple [.Name x px, .Name y py] kt pt] (.Tuple [a, b] k2 pt2) pos.line X.env = pure false := by rfl) :
    PS X (.Assign [.Tuple [.Name x px, .Name y py] kt pt] (.Tuple [a, b] k2 pt2) pos) (qS X.K c (parNN i j fa fb)) :=
  ps_imp (ps_par hc hN hi hj hij hx hy (pa_cons ha (pa_cons hb pa_nil hs2) hs1) hw hs) fun D σ H ⟨ds, F, s, w⟩ => ⟨ds, F, s, wN_toO w fun d p F1 H1 g1 n1 n2 n3 w1 => ⟨ds, F1, s.grow g1, wN_toO w1 fun d2 p2 F2 H2 g2 m1 m2 m3 w2 =>
    ⟨_, _, rfl, w2 _ F2 H2 (.refl F2) ((s.setNew g1 n1 n2 n3).setNew g2 m1 m2 m3)⟩⟩⟩
end
/-! if, return, e -/
def ifS (ft : DS → R Bool) (g1 g2 : DS → Out) : DS → Out := fun ds => toB (ft ds) fun x => if x = true then g1 ds else g2 ds
theorem d_if {ft : DS → R Bool} {bs os : List Stmt} (hc : PT X cc (qB X.K c ft)) (h1 : PSs X bs (qS X.K c g1)) (h2 : PSs X os (qS X.K c g2)) : PS X (.If cc bs os pos) (qS X.K c (ifS ft g1 g2)) :=
  ps_imp (ps_if hc h1 h2) fun D σ H ⟨ds, F, s, w⟩ => ⟨ds, F, s, wB_toB w fun d F1 H1 g1 w1 => by
    cases d with
    | true =>
      rw [if_pos rfl] at w1 ⊢
      exact ⟨ds, F1, s.grow g1, w1⟩
    | false =>
      rw [if_neg Bool.false_ne_true] at w1 ⊢
      exact ⟨ds, F1, s.grow g1, w1⟩⟩
def retS (f : ES) : DS → Out := fun ds => toO (f ds) .rt
theorem d_ret (he : PE X e (qP X.K c f)) : PS X (.Return (some e) pos) (qS X.K c (retS f)) := ps_imp (ps_ret he) fun D σ H ⟨ds, F, s, w⟩ => ⟨ds, F, s, wP_toO w fun d v F1 H1 g1 q1 w1 => w1 v F1 H1 (s.gr.trans g1) q1⟩
def exS (f : ES) : DS → Out := fun ds => toO (f ds) fun _ => .nx ds
theorem d_ex (he : PE X e (qT X.K c f)) (hs : swapsWith e none pos.line X.env = pure false := by rfl) : PS X (.Expr e pos) (qS X.K c (exS f)) := ps_imp (ps_expr he hs) fun D σ H ⟨ds, F, s, w⟩ => ⟨ds, F, s, wT_toO w fun d v F1 H1 g1 q1 w1 => w1 σ F1 H1 (.refl F1) (s.grow g1)⟩
theorem d_pass : PS X (.Pass pos) (qS X.K c nxS) := ps_imp ps_pass fun D σ H ⟨ds, F, s, w⟩ => w σ F H (.refl F) s
/-! x.append(e) -/
def appS (i : Nat) (f : ES) : DS → Out := fun ds => match ds[i]? with
  | some (.ow (.list xs)) => toO (f ds) fun d => if xs.length ≤ big then .nx (ds.set i (.ow (.list (xs ++ [d])))) else .bad
  | _ => .bad
theorem t_app {K : PySem.W.Frag} {i : Nat} {D : Ends} {σ : L2.St} {H : Hp} (h : qS K c (appS i f) D σ H) : tDrop (tBM K "list" rAppend (tVar i) (tCons (qP K c f) tNil)) D σ H := by
  obtain ⟨ds, F, s, w⟩ := h
  unfold appS at w
  split at w
  · rename_i xs hi
    obtain ⟨p, e1, e2, e3, vs, e4, e5⟩ := s.sl i _ hi
    refine ⟨.ref p, e1, .inl ⟨rfl, _, .inl (.inl e4)⟩, ds, F, s, wP_toO w fun d v F1 H1 g1 q1 w1 => ?_⟩
    by_cases hb : xs.length ≤ big
    · rw [if_pos hb] at w1
      refine ⟨p, vs, v, rfl, rfl, (g1.hh.keep _ _ e4 rfl), by rw [e5.length]; exact big_lt hb, w1 σ F1 _ (.refl F1) ((s.grow g1).mut hi e1 ⟨vs ++ [v], upd_same, (e5.mono g1.ff).append (.cons q1 .nil)⟩)⟩
    · rw [if_neg hb] at w1
      exact w1.elim
  · exact w.elim
theorem d_app (i : Nat) {x : Str} {p1 apos cpos : Pos} (he : PE X e (qP X.K c f)) (hN : X.N[i]? = some x := by rfl) (hv : Vis X.env.scope x := by first | exact Or.inl rfl | exact Or.inr (Or.inl rfl) | exact Or.inr (Or.inr rfl)) (hd : (x == ("__debug__" : Str)) = false := by decide) (hcd : (x == ("__classdict__" : Str)) = false := by decide)
    (hbase : attributeBase (.Name x p1) "append" X.env (eval (.Name x p1) X.env) = eval (.Name x p1) X.env := by rfl)
    (hfew : ((backTo cpos (starEach [e] X.env)).all (fun x => !x.1) && (backToKw cpos (keywordEach [] X.env)).all (fun x => x.1.isSome) && decide ([e].length + ([] : List Keyword).length + (if ([] : List Keyword).isEmpty then 0 else 1) < 30)) = true := by rfl)
    (hline : (apos.endLine == cpos.line) = true := by rfl) (hs1 : starEach [e] X.env = (false, eval e X.env) :: starEach [] X.env := by rfl) (hpl : (backTo cpos (starEach [] X.env)).any (·.1) = false := by rfl)
    (hs : swapsWith (.Call (.Attribute (.Name x p1) "append" apos) [e] [] cpos) none pos.line X.env = pure false := by rfl) : PS X (.Expr (.Call (.Attribute (.Name x p1) "append" apos) [e] [] cpos) pos) (qS X.K c (appS i f)) :=
  ps_imp (ps_expr (pe_bm PySem.F.plainAttrs_list PySem.F.slot_list_append PySem.F.type_list_append mt_append (pe_var hN hv hd hcd) (pa_cons he pa_nil hs1) hbase hfew hline hs1 hpl) hs) fun D σ H h => t_app h
/-! x.extend(e), e a new list -/
def extS (i : Nat) (f : ES) : DS → Out := fun ds => match ds[i]? with
  | some (.ow (.list xs)) => toO (f ds) fun d => match d with
    | .list ys => if xs.length + ys.length ≤ big then .nx (ds.set i (.ow (.list (xs ++ ys)))) else .bad
    | _ => .bad
  | _ => .bad
theorem t_ext {K : PySem.W.Frag} {i : Nat} {D : Ends} {σ : L2.St} {H : Hp} (h : qS K c (extS i f) D σ H) : tDrop (tBM K "list" rExtend (tVar i) (tCons (qN K c f) tNil)) D σ H := by
  obtain ⟨ds, F, s, w⟩ := h
  unfold extS at w
  split at w
  · rename_i xs hi
    obtain ⟨p, e1, e2, e3, vs, e4, e5⟩ := s.sl i _ hi
    refine ⟨.ref p, e1, .inl ⟨rfl, _, .inl (.inl e4)⟩, ds, F, s, wN_toO w fun d q F1 H1 g1 n1 n2 n3 w1 => ?_⟩
    cases d with
    | list ys =>
      obtain ⟨ws, k1, k2⟩ := n3
      by_cases hb : xs.length + ys.length ≤ big
      · simp only [if_pos hb] at w1
        refine ⟨p, q, vs, ws, rfl, rfl, (g1.hh.keep _ _ e4 rfl), k1, by rw [e5.length, k2.length]; exact big_le hb, w1 σ F1 _ (.refl F1) ((s.grow g1).mut hi e1 ⟨vs ++ ws, upd_same, (e5.mono g1.ff).append k2⟩)⟩
      · simp only [if_neg hb] at w1
        exact w1.elim
    | _ => exact w1.elim
  · exact w.elim
/-! d[k] = e -/
def dputS (i : Nat) (fk fv : ES) : DS → Out := fun ds => toO (fv ds) fun v => match ds[i]? with
  | some (.ow (.dict kvs)) => toO (fk ds) fun k => match keyOf k with
    | some kk => if kvs.length ≤ big then .nx (ds.set i (.ow (.dict (dput kvs kk v)))) else .bad
    | none => .bad
  | _ => .bad
theorem t_dput {K : PySem.W.Frag} {i : Nat} {D : Ends} {σ : L2.St} {H : Hp} (h : qS K c (dputS i fa fb) D σ H) : sDPut (tVar i) (qT K c fa) (qP K c fb) D σ H := by
  obtain ⟨ds, F, s, w⟩ := h
  refine ⟨ds, F, s, wP_toO w fun d v F1 H1 g1 q1 w1 => ?_⟩
  split at w1
  · rename_i kvs hi
    have s1 := s.grow g1
    obtain ⟨p, e1, e2, e3, l, e4, e5⟩ := s1.sl i _ hi
    refine ⟨.ref p, e1, ds, F1, s1, wT_toO w1 fun d2 v2 F2 H2 g2 q2 w2 => ?_⟩
    cases hk : keyOf d2 with
    | none => simp only [hk] at w2; exact w2.elim
    | some kk =>
      simp only [hk] at w2
      have ey := kV_of q2 hk
      subst ey
      by_cases hb : kvs.length ≤ big
      · rw [if_pos hb] at w2
        exact ⟨p, _, rfl, DPut.k ((g2.hh.keep _ _ e4 rfl)) (by rw [e5.length]; exact big_lt hb), w2 σ F2 _ (.refl F2) ((s1.grow g2).mut hi e1 ⟨_, upd_same, (e5.mono g2.ff).put (q1.mono g2.ff)⟩)⟩
      · rw [if_neg hb] at w2
        exact w2.elim
  · exact w1.elim
theorem d_dput (i : Nat) {x : Str} {p1 pos' : Pos} (hu : X.A.units + 1 < cLine) (hk : PE X a (qT X.K c fa)) (hv : PE X b (qP X.K c fb)) (hN : X.N[i]? = some x := by rfl) (hvis : Vis X.env.scope x := by first | exact Or.inl rfl | exact Or.inr (Or.inl rfl) | exact Or.inr (Or.inr rfl)) (hd : (x == ("__debug__" : Str)) = false := by decide) (hcd : (x == ("__classdict__" : Str)) = false := by decide)
    (hs : swapsWith b (some (.Subscript (.Name x p1) a pos')) pos.line X.env = pure false := by rfl) : PS X (.Assign [.Subscript (.Name x p1) a pos'] b pos) (qS X.K c (dputS i fa fb)) :=
  ps_imp (ps_dput hu (pe_var hN hvis hd hcd) hk hv hs) fun D σ H h => t_dput h
/-! for -/
def forGo (k : TgK) (b : DS → Out) : List PyData → DS → Out
  | [], ds => .nx ds
  | x :: xs, ds => match tgD k x ds with
    | .ok ds1 => (match b ds1 with
      | .nx ds2 => forGo k b xs ds2
      | .ct ds2 => forGo k b xs ds2
      | .bk ds2 => .nx ds2
      | o => o)
    | _ => .bad
def forS (fi : DS → R (List PyData)) (k : TgK) (b : DS → Out) : DS → Out := fun ds => match fi ds with
  | .bad => .bad
  | .err x => .err x
  | .ok items => forGo k b items ds
theorem t_for {K : PySem.W.Frag} {fi : DS → R (List PyData)} {k : TgK} {b : DS → Out} {D : Ends} {σ : L2.St} {H : Hp} (h : qS K c (forS fi k b) D σ H) : tFor (qI K c fi) (tgT K k) (qS K c b) D σ H := by
  obtain ⟨ds, F, s, w⟩ := h
  refine ⟨ds, F, s, ?_⟩
  unfold forS at w
  cases hf : fi ds with
  | bad => rw [hf] at w; exact w
  | err x => rw [hf] at w; exact w
  | ok items =>
    rw [hf] at w
    intro J F1 H1 g1 wk
    refine ⟨fun i m σ' H' => m = items.length - i ∧ i ≤ items.length ∧ ∃ ds' F', Stt K c F' H' σ' ds' ∧ Sam F1 F' ∧ wS K c F1 D (forGo k b (items.drop i) ds'), ⟨items.length, by simp, Nat.zero_le _, ds, F1, s.grow g1, .refl _, wS_mono g1.ff w⟩, ?_⟩
    rintro i m σ' H' ⟨rfl, hi, ds', F', s', f', w'⟩
    by_cases hlt : i < items.length
    · have ed : items.drop i = items[i] :: items.drop (i + 1) := List.drop_eq_getElem_cons hlt
      have ei : items[i]? = some items[i] := List.getElem?_eq_getElem hlt
      obtain ⟨go, yl⟩ := wk.go i F' H' _ f' s'.fh ei
      rw [ed] at w'
      unfold forGo at w'
      cases ht : tgD k items[i] ds' with
      | bad => simp only [ht] at w'; exact w'.elim
      | err x => simp only [ht] at w'; exact w'.elim
      | ok ds1 =>
        simp only [ht] at w'
        refine .inr ⟨go, fun σ2 H2 => ∃ ds2 F2, Stt K c F2 H2 σ2 ds2 ∧ Sam F1 F2 ∧ wS K c F1 D (forGo k b (items.drop (i + 1)) ds2), fun σ2 H2 ⟨ds2, F2, s2, f2, w2⟩ => ⟨items.length - (i + 1), by omega, rfl, hlt, ds2, F2, s2, f2, w2⟩, fun x H2 y => ?_⟩
        obtain ⟨F2, gT, q2⟩ := yl x H2 y
        have g2 := gT c.T
        obtain ⟨σ3, k1, s3, _⟩ := tg_run (s'.grow g2) q2 ht
        refine k1 _ ⟨ds1, F2, s3, ?_⟩
        have f2 : Sam F1 F2 := f'.trans g2.ff
        cases hb : b ds1 with
        | bad => simp only [hb] at w'; exact w'.elim
        | nx ds2 =>
          simp only [hb] at w'
          exact fun σ4 F4 H4 f4 s4 => ⟨ds2, F4, s4, f2.trans f4, w'⟩
        | ct ds2 =>
          simp only [hb] at w'
          exact fun σ4 F4 H4 f4 s4 => ⟨ds2, F4, s4, f2.trans f4, w'⟩
        | bk ds2 =>
          simp only [hb] at w'
          exact fun σ4 F4 H4 f4 s4 => w' σ4 F4 H4 (f2.trans f4) s4
        | rt d => simp only [hb] at w'; exact w'
        | err x => simp only [hb] at w'; exact w'
    · have e : i = items.length := by omega
      subst e
      rw [List.drop_length] at w'
      exact .inl ⟨wk.stop _ F' H' f' s'.fh (Nat.le_refl _), w' σ' F' H' f' s'⟩
theorem d_for {iter : Expr} {body : List Stmt} {fi : DS → R (List PyData)} {k : TgK} {gb : DS → Out} (hp : PassesOwn (model X.prog X.w) X.A X.env X.xe) (hc : X.calm = true) (hi : PI X tg iter (qI X.K c fi)) (hg : PG X tg (tgT X.K k)) (hb : PSs X body (qS X.K c gb)) (hs : ∀ x, foldedSetIterable iter X.env x = pure x := by intro _; rfl) :
    PS X (.For tg iter body [] pos) (qS X.K c (forS fi k gb)) := ps_imp (ps_for hp hc hi hg hb hs) fun D σ H h => t_for h
/-! while -/
def whGo (ft : DS → R Bool) (b : DS → Out) : Nat → DS → Out
  | 0, _ => .bad
  | n + 1, ds => toB (ft ds) fun x => if x = true then (match b ds with
      | .nx ds2 => whGo ft b n ds2
      | .ct ds2 => whGo ft b n ds2
      | .bk ds2 => .nx ds2
      | o => o) else .nx ds
theorem t_wh {K : PySem.W.Frag} {n : Nat} {ft : DS → R Bool} {b : DS → Out} {D : Ends} {σ : L2.St} {H : Hp} (h : qS K c (whGo ft b n) D σ H) : tWhile (qB K c ft) (qS K c b) D σ H := by
  obtain ⟨ds, F, s, w⟩ := h
  refine ⟨fun m σ' H' => ∃ ds' F', Stt K c F' H' σ' ds' ∧ wS K c F' D (whGo ft b m ds'), ⟨n, ds, F, s, w⟩, ?_⟩
  rintro m σ' H' ⟨ds', F', s', w'⟩
  cases m with
  | zero => exact w'.elim
  | succ m =>
    unfold whGo at w'
    refine ⟨ds', F', s', wB_toB w' fun d F1 H1 g1 w1 => ?_⟩
    cases d with
    | false =>
      rw [if_neg Bool.false_ne_true] at w1 ⊢
      exact w1 σ' F1 H1 (.refl _) (s'.grow g1)
    | true =>
      rw [if_pos rfl] at w1 ⊢
      refine ⟨fun σ2 H2 => ∃ ds2 F2, Stt K c F2 H2 σ2 ds2 ∧ wS K c F2 D (whGo ft b m ds2), fun σ2 H2 ⟨ds2, F2, s2, w2⟩ => ⟨m, Nat.lt_succ_self m, ds2, F2, s2, w2⟩, ds', F1, s'.grow g1, ?_⟩
      cases hb : b ds' with
      | bad => simp only [hb] at w1; exact w1.elim
      | nx ds2 =>
        simp only [hb] at w1
        exact fun σ4 F4 H4 f4 s4 => ⟨ds2, F4, s4, wS_mono f4 w1⟩
      | ct ds2 =>
        simp only [hb] at w1
        exact fun σ4 F4 H4 f4 s4 => ⟨ds2, F4, s4, wS_mono f4 w1⟩
      | bk ds2 =>
        simp only [hb] at w1
        exact fun σ4 F4 H4 f4 s4 => w1 σ4 F4 H4 f4 s4
      | rt d => simp only [hb] at w1; exact w1
      | err x => simp only [hb] at w1; exact w1
theorem d_wh (n : Nat) {body : List Stmt} {ft : DS → R Bool} {gb : DS → Out} (hp : PassesOwn (model X.prog X.w) X.A X.env X.xe) (hc : PT X cc (qB X.K c ft)) (hb : PSs X body (qS X.K c gb)) : PS X (.While cc body [] pos) (qS X.K c (whGo ft gb n)) := ps_imp (ps_while hp hc hb) fun D σ H h => t_wh h
/-! raise X('..') -/
def errS (x : Str) : DS → Out := fun _ => .err x
theorem d_raise {x m : Str} {j : Nat} {p p2 cpos : Pos} (hc : X.calm = true) (tk : Takes X (fun cls d _ H => c.E cls d H)) (q : PySem.W.excIn X.K (c.cl x) [.type "ValueError", .type "Exception", .type "BaseException", .type "object"] "ValueError.__new__" = true) (gC : X.mg x = some (.ref (c.cl x))) (kC : PySem.W.keepIn X.K (.ref (c.cl x)) = true)
    (h1 : PySem.W.subIn X.K (.ref (c.cl x)) (.type "BaseException") = some true) (h2 : PySem.W.typeIn X.K (.ref (c.cl x)) = some (.type "type")) (hg : Gl X x := by rfl) (hdb : (x == ("__debug__" : Str)) = false := by decide) :
    PS X (.Raise (some (.Call (.Name x p) [.Constant (.str m) j p2] [] cpos)) none pos) (qS X.K c (errS x)) :=
  ps_imp (ps_raise hc tk (pmk_own PySem.F.excBase_ValueError q gC kC (raises_own h1 h2) hg hdb)) fun D σ H ⟨ds, F, s, w⟩ => w H s.gr.hh s.tb
/-! ### defs -/
def spS (T : List (Addr × Str)) (K : PySem.W.Frag) (cl : Str → Addr) (ms : List Bool) (f : List PyData → R PyData) : Sp := fun vs H Q E => ∃ F ds, Sam F H ∧ LamX.Tabs T H ∧ AOk K F H ms vs ds ∧ match f ds with
  | .bad => False
  | .ok d => ∀ v F' H', Grow T F H F' H' → Dq K F' v d → Q v H'
  | .err x => ∀ H', Sam H H' → LamX.Tabs T H' → E (.ref (cl x)) none H'
def startS (n : Nat) : List Bool → List PyData → DS
  | true :: ms, d :: ds => .bw d :: startS (n - 1) ms ds
  | false :: ms, d :: ds => .im d :: startS (n - 1) ms ds
  | _, _ => List.replicate n .no
def bodyS (n : Nat) (ms : List Bool) (g : DS → Out) : List PyData → R PyData := fun args => match g (startS n ms args) with
  | .nx _ => .ok .none
  | .rt d => .ok d
  | .err x => .err x
  | _ => .bad
theorem start_get {K : PySem.W.Frag} {c : Bk} {F : Hp} : ∀ {ms : List Bool} {vs : List V} {ds : List PyData} {n : Nat}, AOk K F c.H0 ms vs ds → ms.length ≤ n → (vs.map some ++ List.replicate (n - vs.length) none : L2.St).length = (startS n ms ds).length ∧
    (∀ (i : Nat) (s : Sl), (startS n ms ds)[i]? = some s → SlOk K c F c.H0 (vs.map some ++ List.replicate (n - vs.length) none : L2.St)[i]? s) ∧ ∀ (i : Nat) (d : PyData), (startS n ms ds)[i]? ≠ some (.ow d)
  | [], [], [], n, _, _ => by
    refine ⟨by simp [startS], fun i s h => ?_, fun i d h => ?_⟩
    · have e : s ∈ List.replicate n Sl.no := List.mem_of_getElem? h
      rw [List.mem_replicate] at e
      rw [e.2]
      trivial
    · have e : Sl.ow d ∈ List.replicate n Sl.no := List.mem_of_getElem? h
      rw [List.mem_replicate] at e
      cases e.2
  | true :: ms, v :: vs, d :: ds, 0, _, h => by simp at h
  | false :: ms, v :: vs, d :: ds, 0, _, h => by simp at h
  | true :: ms, v :: vs, d :: ds, n + 1, ⟨a, b⟩, h => by
    obtain ⟨k1, k2, k3⟩ := start_get (n := n) b (by simpa using h)
    have e : n + 1 - (v :: vs).length = n - vs.length := by simp
    rw [e]
    refine ⟨by simpa [startS] using k1, fun i s q => ?_, fun i z q => ?_⟩
    · cases i with
      | zero =>
        cases q
        exact ⟨v, rfl, a⟩
      | succ i => exact k2 i s q
    · cases i with
      | zero => cases q
      | succ i => exact k3 i z q
  | false :: ms, v :: vs, d :: ds, n + 1, ⟨a, b⟩, h => by
    obtain ⟨k1, k2, k3⟩ := start_get (n := n) b (by simpa using h)
    have e : n + 1 - (v :: vs).length = n - vs.length := by simp
    rw [e]
    refine ⟨by simpa [startS] using k1, fun i s q => ?_, fun i z q => ?_⟩
    · cases i with
      | zero =>
        cases q
        exact ⟨v, rfl, a⟩
      | succ i => exact k2 i s q
    · cases i with
      | zero => cases q
      | succ i => exact k3 i z q
  | [], [], _ :: _, _, z, _ => z.elim
  | [], _ :: _, _, _, z, _ => z.elim
  | true :: _, [], _, _, z, _ => z.elim
  | false :: _, [], _, _, z, _ => z.elim
  | true :: _, _ :: _, [], _, z, _ => z.elim
  | false :: _, _ :: _, [], _, z, _ => z.elim
theorem stt_start {K : PySem.W.Frag} {c : Bk} {N : List Str} {ms : List Bool} {vs : List V} {ds : List PyData} (f : Sam c.F0 c.H0) (ft : LamX.Tabs c.T c.H0) (h : AOk K c.F0 c.H0 ms vs ds) (hl : ms.length ≤ N.length) : Stt K c c.F0 c.H0 (start N vs) (startS N.length ms ds) := by
  obtain ⟨k1, k2, k3⟩ := start_get h hl
  exact ⟨.refl f, ft, k1, k2, fun i j p d e _ q => absurd q (k3 i d)⟩
section
variable {P : Program} {w : World} {K : PySem.W.Frag} {mg : Str → Option Value} {base : Heap} {x qual : Str} {params : Arguments} {body : List Stmt} {scope : Scope} {dvs : List V} {kws : List (Str × V)} {fA : Addr} {fd : FuncData}
/-- a def keeps the promise that its body is worth -/
theorem fn_mk {T : List (Addr × Str)} {N ps : List Str} {k : Nat} {cl : Str → Addr} {ms : List Bool} {g : DS → Out} (F : FunD K x qual params body scope dvs kws fA fd) (S : FnScope N ps scope) (hm : ms.length = ps.length) (hl : ps.length ≤ N.length)
    (h : ∀ (cdv : Value) (A : Around) (outer : List PySem.Env) (s : Shared) (H : Hp) (E : XK) (F0 : Hp), Room k (A.deeper (envOfC qual scope s.heap.objs.size fA cdv)) →
      PSs (cxOf (L2.CX P w) P w K mg base N qual scope fA cdv A outer s H E) body (qS K ⟨T, F0, H, cl, E⟩ g)) : FnOk P w K mg base (L2.CX P w) (k + 1) fA fd ps (spS T K cl ms (bodyS N.length ms g)) := by
  refine F.ok S (fun vs H Q E hs => ?_) (fun cdv A outer s H vs Q E hr hs => ?_)
  · obtain ⟨F0, ds, _, _, ha, _⟩ := hs
    rw [ha.len.1, hm]
  · obtain ⟨F0, ds, hF, hT, ha, hw⟩ := hs
    refine ⟨_, h cdv A outer s H E F0 hr, startS N.length ms ds, F0, stt_start (c := ⟨T, F0, H, cl, E⟩) hF hT ha (by rw [hm]; exact hl), ?_⟩
    unfold bodyS at hw
    cases hg : g (startS N.length ms ds) with
    | bad => rw [hg] at hw; exact hw
    | nx ds' =>
      rw [hg] at hw
      exact fun σ F' H' f' s' => hw .non F' H' s'.gr .non
    | rt d => rw [hg] at hw; exact fun v F' H' g' q => hw v F' H' g' q
    | bk d => rw [hg] at hw; exact hw.elim
    | ct d => rw [hg] at hw; exact hw.elim
    | err z => rw [hg] at hw; exact hw
end
/-! ### calls -/
variable {k : Nat} {fA : Addr} {fd : FuncData} {ps : List Str} {x : Str} {p : Pos} {es : List Expr} {ms md : List Bool} {fr : DS → R (List PyData)} {fn : List PyData → R PyData} {dvs : List V} {dds : List PyData} {dvl : List Value}
def callS (fr : DS → R (List PyData)) (fn : List PyData → R PyData) (dds : List PyData) : ES := fun ds => fr ds >>= fun r => fn (r ++ dds)
theorem AOk.append {K : PySem.W.Frag} {F H : Hp} : ∀ {ms ms' : List Bool} {vs vs' : List V} {ds ds' : List PyData}, AOk K F H ms vs ds → AOk K F H ms' vs' ds' → AOk K F H (ms ++ ms') (vs ++ vs') (ds ++ ds')
  | [], _, [], _, [], _, _, h => h
  | true :: _, _, _ :: _, _, _ :: _, _, ⟨a, b⟩, h => ⟨a, AOk.append b h⟩
  | false :: _, _, _ :: _, _, _ :: _, _, ⟨a, b⟩, h => ⟨a, AOk.append b h⟩
  | [], _, [], _, _ :: _, _, z, _ => z.elim
  | [], _, _ :: _, _, _, _, z, _ => z.elim
  | true :: _, _, [], _, _, _, z, _ => z.elim
  | false :: _, _, [], _, _, _, z, _ => z.elim
  | true :: _, _, _ :: _, _, [], _, z, _ => z.elim
  | false :: _, _, _ :: _, _, [], _, z, _ => z.elim
theorem t_call {K : PySem.W.Frag} (hdd : ∀ F H, AOk K F H md dvs dds) {σ : L2.St} {H : Hp} {Q : VK} (h : qP K c (callS fr fn dds) σ H Q) : tCall (spS c.T K c.cl (ms ++ md) fn) dvs c.E (qA K c ms fr) σ H Q := by
  obtain ⟨ds, F, s, w⟩ := h
  refine ⟨ds, F, s, ?_⟩
  unfold callS at w
  cases hf : fr ds with
  | bad => rw [hf] at w; exact w
  | err x => rw [hf] at w; exact w
  | ok r =>
    rw [hf, R.ok_bind] at w
    intro vs F1 H1 g1 q1
    refine ⟨F1, r ++ dds, g1.fh, g1.tb s.tb, q1.append (hdd F1 H1), ?_⟩
    cases hn : fn (r ++ dds) with
    | bad => rw [hn] at w; exact w
    | ok d => rw [hn] at w; exact fun v F2 H2 g2 q2 => w v F2 H2 (g1.trans g2) q2
    | err z => rw [hn] at w; exact fun H2 f2 t2 => w H2 ((s.gr.hh.trans g1.hh).trans f2) t2
theorem d_call (F : FnOk X.prog X.w X.K X.mg X.base (L2.CX X.prog X.w) k fA fd ps (spS c.T X.K c.cl (ms ++ md) fn)) (hr : Room k X.A) (hm : X.mg x = some (.ref fA)) (hk : PySem.W.keepIn X.K (.ref fA) = true) (hb : Binds X.K fd ps dvl) (hd : Vals dvs dvl) (hdd : ∀ F H, AOk X.K F H md dvs dds) (hx : Passes (L2.CX X.prog X.w) X c.E)
    (ha : PA X (e :: es) (qA X.K c ms fr)) (hg : Gl X x := by rfl) (hdb : (x == ("__debug__" : Str)) = false := by decide) (he : starEach (e :: es) X.env = (false, eval e X.env) :: starEach es X.env := by rfl) (hpl : (backTo pos (starEach es X.env)).any (·.1) = false := by rfl) :
    PE X (.Call (.Name x p) (e :: es) [] pos) (qP X.K c (callS fr fn dds)) := pe_imp (pe_call F hr hg hm hk hb hd hx ha hdb he hpl) fun _ _ _ h => t_call hdd h
/-- the common one: all parameters given -/
theorem d_cl (F : FnOk X.prog X.w X.K X.mg X.base (L2.CX X.prog X.w) k fA fd ps (spS c.T X.K c.cl ms fn)) (hr : Room k X.A) (hm : X.mg x = some (.ref fA)) (hk : PySem.W.keepIn X.K (.ref fA) = true) (hb : Binds X.K fd ps []) (hx : Passes (L2.CX X.prog X.w) X c.E)
    (ha : PA X (e :: es) (qA X.K c ms fr)) (hg : Gl X x := by rfl) (hdb : (x == ("__debug__" : Str)) = false := by decide) (he : starEach (e :: es) X.env = (false, eval e X.env) :: starEach es X.env := by rfl) (hpl : (backTo pos (starEach es X.env)).any (·.1) = false := by rfl) :
    PE X (.Call (.Name x p) (e :: es) [] pos) (qP X.K c (callS fr fn [])) := by
  refine d_call (md := []) (dvs := []) ?_ hr hm hk hb .nil (fun _ _ => trivial) hx ha hg hdb he hpl
  rw [List.append_nil]
  exact F
/-- f(e, .., k = v, ..) -/
def callK (fr fk : DS → R (List PyData)) (fn : List PyData → R PyData) : ES := fun ds => fr ds >>= fun r => fk ds >>= fun q => fn (r ++ q)
theorem pk_imp {kws : List Keyword} {t t' : TA} (h : PK X kws t) (i : ∀ σ H Q, t' σ H Q → t σ H Q) : PK X kws t' := ⟨fun p pins s σ H Q I q => h.run p pins s σ H Q I (i σ H Q q)⟩
theorem d_k0 : PK X [] (qA X.K c [] nilA) := pk_imp pk_nil fun σ H Q ⟨ds, F, s, w⟩ => w [] F H (.refl s.fh) trivial
theorem d_kP {kws : List Keyword} {nm : Option Str} {kpos : Pos} (h : PE X e (qP X.K c f)) (hr : PK X kws (qA X.K c ms fr)) : PK X (⟨nm, e, kpos⟩ :: kws) (qA X.K c (false :: ms) (consA f fr)) := by
  refine pk_imp (pk_cons h hr) fun σ H Q hq => ?_
  obtain ⟨ds, F, s, w⟩ := hq
  refine ⟨ds, F, s, ?_⟩
  unfold consA at w
  cases hf : f ds with
  | bad => rw [hf] at w; exact w
  | err x => rw [hf] at w; exact w
  | ok d =>
    rw [hf, R.ok_bind] at w
    intro v F1 H1 g1 q1
    refine ⟨ds, F1, s.grow g1, ?_⟩
    cases hg : fr ds with
    | bad => rw [hg] at w; exact w
    | err x => rw [hg] at w; exact w
    | ok r =>
      rw [hg, R.ok_bind] at w
      intro vs F2 H2 g2 q2
      exact w (v :: vs) F2 H2 (g1.trans g2) ⟨q1.mono g2.ff, q2⟩
theorem d_clK {kws : List Keyword} {ks : List Str} {mk : List Bool} {fk : DS → R (List PyData)} (F : FnOk X.prog X.w X.K X.mg X.base (L2.CX X.prog X.w) k fA fd ps (spS c.T X.K c.cl (ms ++ mk) fn)) (hr : Room k X.A) (hm : X.mg x = some (.ref fA)) (hk : PySem.W.keepIn X.K (.ref fA) = true)
    (hb : KBn X.K fd ps ms.length ks (fun us ws => us ++ ws) (fun vs zs => vs ++ zs)) (hx : Passes (L2.CX X.prog X.w) X c.E) (ha : PA X (e :: es) (qA X.K c ms fr)) (hkw : PK X kws (qA X.K c mk fk)) (hmk : mk.length = ks.length := by rfl) (hg : Gl X x := by rfl)
    (hall : (backToKw pos (keywordEach kws X.env)).all (·.1.isSome) = true := by rfl) (hks : (backToKw pos (keywordEach kws X.env)).filterMap (·.1) = ks := by rfl)
    (hdb : (x == ("__debug__" : Str)) = false := by decide) (he : starEach (e :: es) X.env = (false, eval e X.env) :: starEach es X.env := by rfl)
    (hpl : ((backTo pos (starEach (e :: es) X.env)).any (·.1) || (backToKw pos (keywordEach kws X.env)).any (·.1.isNone)) = false := by rfl) :
    PE X (.Call (.Name x p) (e :: es) kws pos) (qP X.K c (callK fr fk fn)) := by
  refine pe_imp (pe_callN F hr hg hm hk hb hx ha hkw hall hks hdb he hpl) fun σ H Q h => ?_
  obtain ⟨ds, F, s, w⟩ := h
  refine ⟨ds, F, s, ?_⟩
  unfold callK at w
  cases hf : fr ds with
  | bad => rw [hf] at w; exact w
  | err x => rw [hf] at w; exact w
  | ok r =>
    rw [hf, R.ok_bind] at w
    intro vs F1 H1 g1 q1
    refine ⟨ds, F1, s.grow g1, ?_⟩
    cases hfk : fk ds with
    | bad => rw [hfk] at w; exact w
    | err x => rw [hfk] at w; exact w
    | ok r2 =>
      rw [hfk, R.ok_bind] at w
      intro vs2 F2 H2 g2 q2
      refine ⟨q1.len.1, q2.len.1.trans hmk, F2, r ++ r2, g2.fh, g2.tb (g1.tb s.tb), (q1.mono g2.ff g2.hh).append q2, ?_⟩
      cases hn : fn (r ++ r2) with
      | bad => rw [hn] at w; exact w
      | ok d => rw [hn] at w; exact fun v F3 H3 g3 q3 => w v F3 H3 ((g1.trans g2).trans g3) q3
      | err z => rw [hn] at w; exact fun H3 f3 t3 => w H3 (((s.gr.hh.trans g1.hh).trans g2.hh).trans f3) t3
/-! binding of defs with defaults -/
theorem binds_full {K : PySem.W.Frag} {qual : Str} {params : Arguments} {body : List Stmt} {scope : Scope} {dvs : List V} {kws : List (Str × V)} (F : FunD K x qual params body scope dvs kws fA fd) (hd : dvs ≠ [])
    (h : ∀ (T : Addr) (kV doc pm : Value) (an : Option Addr) (cdv ct : Value) (us its : List Value), us.length = ps.length → its.length = dvs.length →
      ∃ k, bindArgs (PySem.W.fnOf x qual params body scope (.ref T) kV doc pm an cdv ct) ⟨us, []⟩ = seqItems? (.ref T) >>= k ∧ k (some its.toArray) = pure (ps.zip us)) : Binds K fd ps [] := by
  obtain ⟨ds, hv, hb⟩ := F.binds1 (ps := ps) ps.length dvs.length hd (by omega) (fun T kV doc pm an cdv ct us its h1 h2 => by
    obtain ⟨k, e1, e2⟩ := h T kV doc pm an cdv ct us its h1 h2
    refine ⟨k, e1, ?_⟩
    rw [e2, List.drop_eq_nil_of_le (by omega), List.append_nil])
  rw [List.drop_eq_nil_of_le (Nat.le_refl _)] at hv
  cases hv
  exact hb
theorem kbn_of {K : PySem.W.Frag} {qual : Str} {params : Arguments} {body : List Stmt} {scope : Scope} {dvs : List V} {kws : List (Str × V)} (F : FunD K x qual params body scope dvs kws fA fd) (n : Nat) (ks : List Str) (hd : dvs ≠ [])
    (h : ∀ (T : Addr) (kV doc pm : Value) (an : Option Addr) (cdv ct : Value) (us its ws : List Value), us.length = n → its.length = dvs.length → ws.length = ks.length →
      ∃ k, bindArgs (PySem.W.fnOf x qual params body scope (.ref T) kV doc pm an cdv ct) ⟨us, ks.zip ws⟩ = seqItems? (.ref T) >>= k ∧ k (some its.toArray) = pure (ps.zip (us ++ ws))) : KBn K fd ps n ks (fun us ws => us ++ ws) (fun vs zs => vs ++ zs) := by
  obtain ⟨oc, od, dV, kV, doc, pm, an, cdv, ct, osl, rfl, lk, hcd, hD, hK⟩ := F.ex
  rcases hD with ⟨e, _⟩ | ⟨_, T, o, its, m, rfl, lT, oT, rT⟩
  · exact absurd e hd
  · refine ⟨fun s us ws X l1 l2 => ?_, fun r1 r2 => r1.append r2⟩
    obtain ⟨k, e1, e2⟩ := h T kV doc pm an cdv ct us its ws l1 rT.length.symm l2
    refine BindsTo.of_looks fun M => ?_
    rw [e1]
    exact looks_items X lT oT (.of_pure e2)
/-! further small rules -/
def negD : PyData → R PyData
  | .int i => .ok (.int (-i))
  | _ => .bad
theorem d_neg (ha : PE X a (qT X.K c fa)) : PE X (.UnaryOp .USub a pos) (qP X.K c (op1 negD fa)) := by
  refine pe_imp (pe_un un_neg ha) fun σ H Q h => ?_
  obtain ⟨ds, F, s, w⟩ := h
  refine ⟨ds, F, s, wT_bind w fun d v F1 H1 g1 q1 w1 => ?_⟩
  cases q1 with
  | int i => exact ⟨i, rfl, w1 _ F1 H1 (.refl g1.fh) (.int _)⟩
  | _ => exact w1.elim
/-- xs[a:b] of a list -/
def cutL {α : Type} (xs : List α) (lo hi : Option Int) : List α := (xs.drop (HT.sIx xs.length 0 lo)).take (HT.sIx xs.length xs.length hi - HT.sIx xs.length 0 lo)
def wO (c : Bk) (F H : Hp) (Q : Option Int → Hp → Prop) : R (Option Int) → Prop
  | .bad => False
  | .ok b => ∀ F' H', Grow c.T F H F' H' → Q b H'
  | .err x => wErr c x
def qO (K : PySem.W.Frag) (c : Bk) (f : DS → R (Option Int)) : TO := fun σ H Q => ∃ ds F, Stt K c F H σ ds ∧ wO c F H Q (f ds)
def noO : DS → R (Option Int) := fun _ => .ok none
def someO (f : ES) : DS → R (Option Int) := fun ds => f ds >>= fun d => match d with
  | .int i => .ok (some i)
  | _ => .bad
theorem po_imp {o : Option Expr} {t t' : TO} (h : PO X o t) (i : ∀ σ H Q, t' σ H Q → t σ H Q) : PO X o t' := ⟨fun pins s σ H Q I q => h.run pins s σ H Q I (i σ H Q q)⟩
theorem d_o0 : PO X none (qO X.K c noO) := po_imp po_none fun σ H Q ⟨ds, F, s, w⟩ => w F H (.refl s.fh)
theorem d_o1 (h : PE X e (qT X.K c f)) : PO X (some e) (qO X.K c (someO f)) := po_imp (po_some h) fun σ H Q ⟨ds, F, s, w⟩ => ⟨ds, F, s, by
  unfold someO at w
  cases hf : f ds with
  | bad => rw [hf] at w; exact w
  | err x => rw [hf] at w; exact w
  | ok d =>
    rw [hf, R.ok_bind] at w
    intro v F1 H1 g1 q1
    cases q1 with
    | int i => exact ⟨i, rfl, w F1 H1 g1⟩
    | _ => exact w.elim⟩
def slL (fa : ES) (lo hi : DS → R (Option Int)) : ES := fun ds => fa ds >>= fun d => lo ds >>= fun l => hi ds >>= fun h => match d with
  | .list xs => .ok (.list (cutL xs l h))
  | _ => .bad
theorem cut_dq {K : PySem.W.Frag} {F : Hp} {vs : List V} {ds : List PyData} (h : DqAll K F vs ds) (l u : Option Int) : DqAll K F (cutV vs l u) (cutL ds l u) := by
  unfold cutV cutL
  rw [h.length]
  exact (h.drop _).take _
theorem d_slL {lo hi : Option Expr} {fl fh : DS → R (Option Int)} {p2 : Pos} (ha : PE X a (qP X.K c fa)) (hl : PO X lo (qO X.K c fl)) (hh : PO X hi (qO X.K c fh)) : PE X (.Subscript a (.Slice lo hi none p2) pos) (qN X.K c (slL fa fl fh)) := by
  refine pe_imp (pe_slice sl_list ha hl hh) fun σ H Q h => ?_
  obtain ⟨ds, F, s, w⟩ := h
  refine ⟨ds, F, s, ?_⟩
  unfold slL at w
  cases hf : fa ds with
  | bad => rw [hf] at w; exact w
  | err x => rw [hf] at w; exact w
  | ok d =>
    rw [hf, R.ok_bind] at w
    intro v F1 H1 g1 q1
    refine ⟨ds, F1, s.grow g1, ?_⟩
    cases hfl : fl ds with
    | bad => rw [hfl] at w; exact w
    | err x => rw [hfl] at w; exact w
    | ok l =>
      rw [hfl, R.ok_bind] at w
      intro F2 H2 g2
      refine ⟨ds, F2, (s.grow g1).grow g2, ?_⟩
      cases hfh : fh ds with
      | bad => rw [hfh] at w; exact w
      | err x => rw [hfh] at w; exact w
      | ok u =>
        rw [hfh, R.ok_bind] at w
        intro F3 H3 g3
        cases d with
        | list xs =>
          have q3 := (q1.mono g2.ff).mono g3.ff
          cases q3 with
          | lst hs hd =>
            refine ⟨_, _, rfl, g3.fh.seq hs, fun p hp => ?_⟩
            exact w p F3 _ (((g1.trans g2).trans g3).trans (.own g3.fh hp)) (((g1.trans g2).trans g3).hh.free hp) (g3.fh.free hp) ⟨_, upd_same, cut_dq hd l u⟩
        | _ => exact w.elim
/-! the law's own end -/
theorem fn_calm {P : Program} {w : World} {K : PySem.W.Frag} {mg : Str → Option Value} {base : Heap} {sp : Sp} (F : FnOk P w K mg base (L2.CX P w) k fA fd ps sp) : FnOk P w K mg base CX0 k fA fd ps (fun vs H Q _ => sp vs H Q fun _ _ _ => False) :=
  ⟨fun vs H Q E h => F.len vs H Q _ h, fun A outer s H args us vs Q E hr he hb hv h => codeAny_mono (F.run A outer s H args us vs Q _ hr he hb hv h) fun r s' q => by
    cases r with
    | error e =>
      obtain ⟨_, _, _, _, _, _, _, _, _, _, _, _, z⟩ := q
      exact z.elim
    | ok fl => cases fl <;> exact q⟩
theorem law_sp {T : List (Addr × Str)} {K : PySem.W.Frag} {cl : Str → Addr} {V : List PyData → R PyData} {ns : List Int} {H : Hp} {aA : Addr} (main : V [.list (ns.map .int)] = .ok (.bool true)) (hT : LamX.Tabs T H) (h : SqL K H aA (ns.map L2.V.int)) :
    spS T K cl [false] V [.ref aA] H (fun v _ => v = .bl true) fun _ _ _ => False := by
  refine ⟨H, [.list (ns.map .int)], .refl H, hT, ⟨.lst h (dqInts ns), trivial⟩, ?_⟩
  rw [main]
  intro v F' H' g q
  cases q
  rfl
end
end Cb
namespace Cb
open PySem PySem.Spec PyProof.Rows L2
/-! ### more operators -/
/-- r makes a new list as g says -/
def OpN (K : PySem.W.Frag) (r : R2) (g : PyData → PyData → R PyData) : Prop :=
  ∀ x y d e F H, Sam F H → Dq K F x d → Dq K F y e → (∃ zs vs, g d e = .ok (.list zs) ∧ DqAll K F vs zs ∧ ∀ Q : VK, (∀ p, H p = none → Q (.ref p) (upd H p (.lst vs))) → r x y H Q) ∨ g d e = .bad
/-- r makes a lasting thing as g says -/
def OpP (K : PySem.W.Frag) (r : R2) (g : PyData → PyData → R PyData) : Prop :=
  ∀ x y d e F H, Sam F H → Dq K F x d → Dq K F y e → (∃ z, g d e = .ok z ∧ ∀ Q : VK, (∀ v F' H', (∀ T, Grow T F H F' H') → Dq K F' v z → Q v H') → r x y H Q) ∨ g d e = .bad
section
variable {X : Cx} {e a b : Expr} {c : Bk} {f fa fb : ES} {pos : Pos}
theorem t_opN {K : PySem.W.Frag} {r : R2} {g : PyData → PyData → R PyData} (hr : OpN K r g) {σ : L2.St} {H : Hp} {Q : VK} (h : qN K c (op2 g fa fb) σ H Q) : tOp r (qP K c fa) (qP K c fb) σ H Q := by
  obtain ⟨ds, F, s, w⟩ := h
  refine ⟨ds, F, s, ?_⟩
  unfold op2 at w
  cases ha : fa ds with
  | bad => rw [ha] at w; exact w
  | err x => rw [ha] at w; exact w
  | ok d =>
    rw [ha] at w
    intro v F1 H1 g1 q1
    refine ⟨ds, F1, s.grow g1, ?_⟩
    rw [R.ok_bind] at w
    cases hb : fb ds with
    | bad => rw [hb] at w; exact w
    | err x => rw [hb] at w; exact w
    | ok d2 =>
      rw [hb] at w
      intro v2 F2 H2 g2 q2
      rw [R.ok_bind] at w
      have g12 := g1.trans g2
      rcases hr v v2 d d2 F2 H2 g2.fh (q1.mono g2.ff) q2 with ⟨zs, vs, e1, s1, k⟩ | e1
      · rw [e1] at w
        refine k _ fun p hp => ?_
        exact w p F2 _ (g12.trans (.own g2.fh hp)) (g12.hh.free hp) (g2.fh.free hp) ⟨vs, upd_same, s1⟩
      · rw [e1] at w
        exact w.elim
theorem t_opP {K : PySem.W.Frag} {r : R2} {g : PyData → PyData → R PyData} (hr : OpP K r g) {σ : L2.St} {H : Hp} {Q : VK} (h : qP K c (op2 g fa fb) σ H Q) : tOp r (qP K c fa) (qP K c fb) σ H Q := by
  obtain ⟨ds, F, s, w⟩ := h
  refine ⟨ds, F, s, ?_⟩
  unfold op2 at w
  cases ha : fa ds with
  | bad => rw [ha] at w; exact w
  | err x => rw [ha] at w; exact w
  | ok d =>
    rw [ha] at w
    intro v F1 H1 g1 q1
    refine ⟨ds, F1, s.grow g1, ?_⟩
    rw [R.ok_bind] at w
    cases hb : fb ds with
    | bad => rw [hb] at w; exact w
    | err x => rw [hb] at w; exact w
    | ok d2 =>
      rw [hb] at w
      intro v2 F2 H2 g2 q2
      rw [R.ok_bind] at w
      rcases hr v v2 d d2 F2 H2 g2.fh (q1.mono g2.ff) q2 with ⟨z, e1, k⟩ | e1
      · rw [e1] at w
        exact k _ fun u F3 H3 g3 q3 => w u F3 H3 ((g1.trans g2).trans (g3 _)) q3
      · rw [e1] at w
        exact w.elim
/-! list + list -/
def rCatS (K : PySem.W.Frag) : R2 := fun x y H Q => ∃ l b xs zs, x = .ref l ∧ y = .ref b ∧ SqL K H l xs ∧ SqL K H b zs ∧ xs.length + zs.length ≤ sizeLine ∧ ∀ p, H p = none → Q (.ref p) (upd H p (.lst (xs ++ zs)))
theorem op_catS {X : Cx} : OpR X (binaryOp .Add) (rCatS X.K) := by
  intro pins s σ H x y v u Q I rx ry h
  obtain ⟨l, b, xs, zs, rfl, rfl, hH, hB, hz, q⟩ := h
  cases rx
  cases ry
  obtain ⟨its, r, pl, _⟩ := I.list hH
  obtain ⟨its2, r2, pl2, _⟩ := I.list hB
  obtain ⟨⟨cls, dd, data, sl⟩, ho, hc, n, hd⟩ := pl.isList
  obtain ⟨⟨cls2, dd2, data2, sl2⟩, ho2, hc2, n2, hd2⟩ := pl2.isList
  simp only at hc hd hc2 hd2
  subst hc hd hc2 hd2
  have l1 := r.length
  have l2 := r2.length
  refine concat_meets ⟨_, ho, rfl⟩ ⟨_, ho2, rfl⟩ noFill_list_add seq_list_add PySem.F.slot_list_add PySem.F.entry_list_add (PySem.F.args_list_add_2 _ _)
    (list_addW l b its.toArray its2.toArray n n2 dd dd2 sl sl2 (by rw [List.size_toArray, List.size_toArray]; omega)) ⟨ho, ho2, ?_⟩
  have ea : its.toArray ++ its2.toArray = (its ++ its2).toArray := by simp
  rw [ea]
  exact ⟨.ref _, _, I.lnew (t' := s.toks) (r.append r2) (by rw [List.length_append]; exact hz), rfl, q _ I.fresh⟩
def catD : PyData → PyData → R PyData
  | .list xs, .list ys => if xs.length + ys.length ≤ big then .ok (.list (xs ++ ys)) else .bad
  | _, _ => .bad
theorem on_cat {K : PySem.W.Frag} : OpN K (rCatS K) catD := fun x y d e F H f h1 h2 => by
  cases h1 with
  | @lst _ xs ds hs ha =>
    cases h2 with
    | @lst _ ys es hs2 ha2 =>
      by_cases hb : ds.length + es.length ≤ big
      · exact .inl ⟨_, _, if_pos hb, ha.append ha2, fun Q q => ⟨_, _, _, _, rfl, rfl, f.seq hs, f.seq hs2, by rw [ha.length, ha2.length]; exact big_le hb, q⟩⟩
      · exact .inr (if_neg hb)
    | _ => exact .inr rfl
  | _ => exact .inr rfl
theorem d_cat (ha : PE X a (qP X.K c fa)) (hb : PE X b (qP X.K c fb)) : PE X (.BinOp a .Add b pos) (qN X.K c (op2 catD fa fb)) := pe_imp (pe_op op_catS ha hb) fun _ _ _ h => t_opN on_cat h
/-! tuple + tuple -/
def catT : PyData → PyData → R PyData
  | .tuple xs, .tuple ys => if xs.length + ys.length ≤ big then .ok (.tuple (xs ++ ys)) else .bad
  | _, _ => .bad
theorem oP_catT {K : PySem.W.Frag} : OpP K (rCatA K) catT := fun x y d e F H f h1 h2 => by
  cases h1 with
  | @tup _ xs ds hs ha =>
    cases h2 with
    | @tup _ ys es hs2 ha2 =>
      by_cases hb : ds.length + es.length ≤ big
      · refine .inl ⟨_, if_pos hb, fun Q q => ⟨_, _, xs, ys, rfl, rfl, sqT_mono f hs, sqT_mono f hs2, by rw [ha.length, ha2.length]; exact big_le hb, fun z => ?_, fun z1 z2 => ?_, fun z1 z2 p hp => ?_⟩⟩
        · subst z
          cases ha
          exact q _ F H (fun _ => .refl f) (.tup hs2 ha2)
        · subst z2
          cases ha2
          rw [List.append_nil] at q
          exact q _ F H (fun _ => .refl f) (.tup hs ha)
        · exact q _ _ _ (fun _ => .new f hp) (.tup (.of upd_same) ((ha.append ha2).mono (same_new (f.free hp))))
      · exact .inr (if_neg hb)
    | _ => exact .inr rfl
  | _ => exact .inr rfl
theorem d_catT (ha : PE X a (qP X.K c fa)) (hb : PE X b (qP X.K c fb)) : PE X (.BinOp a .Add b pos) (qP X.K c (op2 catT fa fb)) := pe_imp (pe_op op_catA ha hb) fun _ _ _ h => t_opP oP_catT h
/-! tuple * int -/
def repT : PyData → PyData → R PyData
  | .tuple xs, .int k => if (decide (2 ≤ k) && decide (k ≤ 1000) && decide (0 < xs.length) && decide (xs.length ≤ 1000)) = true then .ok (.tuple (List.replicate k.toNat xs).flatten) else .bad
  | _, _ => .bad
theorem DqAll.rep {K : PySem.W.Frag} {F : Hp} {vs : List V} {ds : List PyData} (h : DqAll K F vs ds) : ∀ n : Nat, DqAll K F (List.replicate n vs).flatten (List.replicate n ds).flatten
  | 0 => .nil
  | n + 1 => by
    rw [List.replicate_succ, List.replicate_succ, List.flatten_cons, List.flatten_cons]
    exact h.append (h.rep n)
theorem oP_repT {K : PySem.W.Frag} : OpP K (rRepT K) repT := fun x y d e F H f h1 h2 => by
  cases h1 with
  | @tup _ xs ds hs ha =>
    cases h2 with
    | int k =>
      by_cases hb : (decide (2 ≤ k) && decide (k ≤ 1000) && decide (0 < ds.length) && decide (ds.length ≤ 1000)) = true
      · refine .inl ⟨_, if_pos hb, fun Q q => ?_⟩
        simp only [Bool.and_eq_true, decide_eq_true_eq] at hb
        have hl := ha.length
        refine ⟨_, k, xs, rfl, rfl, sqT_mono f hs, fun z => ?_, hb.1.1.1, hb.1.1.2, by omega, fun p hp => ?_⟩
        · subst z
          simp only [List.length_nil] at hl
          omega
        · exact q _ _ _ (fun _ => .new f hp) (.tup (.of upd_same) ((ha.rep k.toNat).mono (same_new (f.free hp))))
      · exact .inr (if_neg hb)
    | _ => exact .inr rfl
  | _ => exact .inr rfl
theorem d_repT (ha : PE X a (qP X.K c fa)) (hb : PE X b (qP X.K c fb)) : PE X (.BinOp a .Mult b pos) (qP X.K c (op2 repT fa fb)) := pe_imp (pe_op op_repT ha hb) fun _ _ _ h => t_opP oP_repT h
/-! a new list * int -/
def repD : PyData → PyData → R PyData
  | .list xs, .int k => if (decide (k ≤ 1000) && decide (xs.length ≤ 1000)) = true then .ok (.list (List.replicate k.toNat xs).flatten) else .bad
  | _, _ => .bad
def repN (x y : PyData) : R PyData := match y with
  | .int k => if decide (0 ≤ k) = true then repD x y else .bad
  | _ => .bad
theorem d_rep (ha : PE X a (qN X.K c fa)) (hb : PE X b (qT X.K c fb)) : PE X (.BinOp a .Mult b pos) (qN X.K c (op2 repN fa fb)) := by
  refine pe_imp (pe_op op_rep ha hb) fun σ H Q h => ?_
  obtain ⟨ds, F, s, w⟩ := h
  refine ⟨ds, F, s, ?_⟩
  unfold op2 repN at w
  cases hf : fa ds with
  | bad => rw [hf] at w; exact w
  | err x => rw [hf] at w; exact w
  | ok d =>
    rw [hf, R.ok_bind] at w
    intro p F1 H1 g1 n1 n2 n3
    refine ⟨ds, F1, s.grow g1, ?_⟩
    cases hg : fb ds with
    | bad => rw [hg] at w; exact w
    | err x => rw [hg] at w; exact w
    | ok d2 =>
      rw [hg, R.ok_bind] at w
      intro v2 F2 H2 g2 q2
      cases q2 with
      | int k =>
        by_cases hk0 : decide (0 ≤ k) = true
        · simp only [if_pos hk0] at w
          cases d with
          | list xs =>
            obtain ⟨vs, k1, k2⟩ := n3
            unfold repD at w
            by_cases hb : (decide (k ≤ 1000) && decide (xs.length ≤ 1000)) = true
            · simp only [if_pos hb] at w
              simp only [Bool.and_eq_true, decide_eq_true_eq] at hb hk0
              have hl := k2.length
              have hm : vs.length * k.toNat ≤ 1000 * 1000 := Nat.mul_le_mul (by omega) (by omega)
              have hz : vs.length * k.toNat ≤ sizeLine := Nat.le_trans hm (by decide)
              have g12 := g1.trans g2
              refine ⟨p, k, vs, rfl, rfl, g2.hh.keep _ _ k1 rfl, by omega, by omega, hz, fun p' hp' => ?_⟩
              exact w p' F2 _ (g12.trans (.own g2.fh hp')) (g12.hh.free hp') (g2.fh.free hp') ⟨_, upd_same, (k2.mono g2.ff).rep k.toNat⟩
            · simp only [if_neg hb] at w
              exact w.elim
          | _ => exact w.elim
        · simp only [if_neg hk0] at w
          exact w.elim
      | _ => exact w.elim
/-! text + text -/
def addT : PyData → PyData → R PyData
  | .str x, .str y => if x.length + y.length ≤ big then .ok (.str (x ++ y)) else .bad
  | _, _ => .bad
theorem d_addT (ha : PE X a (qT X.K c fa)) (hb : PE X b (qT X.K c fb)) : PE X (.BinOp a .Add b pos) (qP X.K c (op2 addT fa fb)) := d_op op_add_str (fun x y d e H h1 h2 => by
  cases h1 with
  | str i =>
    cases h2 with
    | str j =>
      by_cases hb : i.length + j.length ≤ big
      · exact .inl ⟨_, _, if_pos hb, fun _ => .str _, fun Q q => ⟨i, j, rfl, rfl, big_le hb, q⟩⟩
      · exact .inr (if_neg hb)
    | _ => exact .inr rfl
  | _ => exact .inr rfl) ha hb
/-! is True, is False, is None -/
def isB (k : Bool) : PyData → R PyData
  | .bool b => .ok (.bool (decide (b = k)))
  | _ => .bad
def isntB (k : Bool) : PyData → R PyData
  | .bool b => .ok (.bool (!decide (b = k)))
  | _ => .bad
def isD : PyData → PyData → R PyData
  | .bool b, .bool k => .ok (.bool (decide (b = k)))
  | .none, .none => .ok (.bool true)
  | .int _, .none => .ok (.bool false)
  | .str _, .none => .ok (.bool false)
  | .tuple _, .none => .ok (.bool false)
  | .list _, .none => .ok (.bool false)
  | _, _ => .bad
def isntD : PyData → PyData → R PyData
  | .bool b, .bool k => .ok (.bool (!decide (b = k)))
  | .none, .none => .ok (.bool false)
  | .int _, .none => .ok (.bool true)
  | .str _, .none => .ok (.bool true)
  | .tuple _, .none => .ok (.bool true)
  | .list _, .none => .ok (.bool true)
  | _, _ => .bad
theorem op_isS {X : Cx} : OpR X (compareOp .Is) (fun x y H Q => rIsB x y H Q ∨ (y = .non ∧ Q (.bl (decide (x = .non))) H)) := op_isBl.or op_isN
theorem op_isntS {X : Cx} : OpR X (compareOp .IsNot) (fun x y H Q => rNotB x y H Q ∨ (y = .non ∧ Q (.bl (!decide (x = .non))) H)) := op_notBl.or op_notN
theorem od_is {K : PySem.W.Frag} : OpD K (fun x y H Q => rIsB x y H Q ∨ (y = .non ∧ Q (.bl (decide (x = .non))) H)) isD := fun x y d e H h1 h2 => by
  cases h2 with
  | bl k =>
    cases h1 with
    | bl b => exact .inl ⟨_, _, rfl, fun _ => .bl _, fun Q q => .inl ⟨b, k, rfl, rfl, q⟩⟩
    | _ => exact .inr rfl
  | non =>
    cases h1 with
    | bl b => exact .inr rfl
    | dct _ _ => exact .inr rfl
    | _ => exact .inl ⟨_, _, rfl, fun _ => .bl _, fun Q q => .inr ⟨rfl, by simpa using q⟩⟩
  | _ => cases h1 <;> exact .inr rfl
theorem od_isnt {K : PySem.W.Frag} : OpD K (fun x y H Q => rNotB x y H Q ∨ (y = .non ∧ Q (.bl (!decide (x = .non))) H)) isntD := fun x y d e H h1 h2 => by
  cases h2 with
  | bl k =>
    cases h1 with
    | bl b => exact .inl ⟨_, _, rfl, fun _ => .bl _, fun Q q => .inl ⟨b, k, rfl, rfl, q⟩⟩
    | _ => exact .inr rfl
  | non =>
    cases h1 with
    | bl b => exact .inr rfl
    | dct _ _ => exact .inr rfl
    | _ => exact .inl ⟨_, _, rfl, fun _ => .bl _, fun Q q => .inr ⟨rfl, by simpa using q⟩⟩
  | _ => cases h1 <;> exact .inr rfl
/-! a sign in a text -/
def signO (x : Str) : Option Nat := match x.cps.toList with
  | [k] => some k
  | _ => none
def insD : PyData → PyData → R PyData
  | .str x, .str z => match signO x with
    | some k => .ok (.bool (decide (k ∈ z.cps.toList)))
    | none => .bad
  | _, _ => .bad
theorem sign_of {x : Str} {k : Nat} (h : signO x = some k) : x = ⟨#[k]⟩ := by
  unfold signO at h
  split at h
  · rename_i k' hk
    cases h
    cases x with
    | mk cps =>
      have : cps = #[k] := by
        apply Array.ext'
        exact hk
      rw [this]
  · cases h
theorem od_ins {K : PySem.W.Frag} : OpD K (fun x y H Q => ∃ (c : Nat) (z : Str), x = .str ⟨#[c]⟩ ∧ y = .str z ∧ Q (.bl (decide (c ∈ z.cps.toList))) H) insD := fun x y d e H h1 h2 => by
  cases h1 with
  | str i =>
    cases h2 with
    | str j =>
      cases hk : signO i with
      | none => exact .inr (by simp only [insD, hk])
      | some k => exact .inl ⟨_, _, (by simp only [insD, hk] <;> rfl), fun _ => .bl _, fun Q q => ⟨k, j, by rw [sign_of hk], rfl, q⟩⟩
    | _ => exact .inr rfl
  | _ => exact .inr rfl
/-! x in a list -/
def inlD (d e : PyData) : R PyData := match e with
  | .list ds => if (SeqAt.shaped d && SeqAt.shaped (.list ds)) = true then .ok (.bool (ds.any fun z => PyData.eqv z d)) else .bad
  | _ => .bad
def ninlD (d e : PyData) : R PyData := match e with
  | .list ds => if (SeqAt.shaped d && SeqAt.shaped (.list ds)) = true then .ok (.bool (!ds.any fun z => PyData.eqv z d)) else .bad
  | _ => .bad
theorem od_inl {K : PySem.W.Frag} : OpD K (rInD K) inlD := fun x y d e H h1 h2 => by
  cases e with
  | list ds =>
    unfold inlD
    by_cases hs : (SeqAt.shaped d && SeqAt.shaped (.list ds)) = true
    · simp only [if_pos hs]
      obtain ⟨s1, s2⟩ := Bool.and_eq_true_iff.mp hs
      exact .inl ⟨_, _, rfl, fun _ => .bl _, fun Q q => ⟨d, ds, dp_of h1 (SeqAt.canLay_of_shaped s1), dp_of h2 (SeqAt.canLay_of_shaped s2), s1, s2, q⟩⟩
    · simp only [if_neg hs]
      exact .inr trivial
  | _ => exact .inr rfl
theorem od_ninl {K : PySem.W.Frag} : OpD K (rNotInD K) ninlD := fun x y d e H h1 h2 => by
  cases e with
  | list ds =>
    unfold ninlD
    by_cases hs : (SeqAt.shaped d && SeqAt.shaped (.list ds)) = true
    · simp only [if_pos hs]
      obtain ⟨s1, s2⟩ := Bool.and_eq_true_iff.mp hs
      exact .inl ⟨_, _, rfl, fun _ => .bl _, fun Q q => ⟨d, ds, dp_of h1 (SeqAt.canLay_of_shaped s1), dp_of h2 (SeqAt.canLay_of_shaped s2), s1, s2, q⟩⟩
    · simp only [if_neg hs]
      exact .inr trivial
  | _ => exact .inr rfl
end
end Cb
namespace Cb
open PySem PySem.Spec PyProof.Rows L2
section
variable {X : Cx} {e a b cc : Expr} {c : Bk} {f fa fb fc : ES} {pos : Pos}
/-! ### min, max of a list of ints -/
def leastI : List Int → Option Int
  | [] => none
  | n :: r => some (r.foldl (fun m k => if k < m then k else m) n)
def mostI : List Int → Option Int
  | [] => none
  | n :: r => some (r.foldl (fun m k => if m < k then k else m) n)
theorem least_fold : ∀ (r : List Int) (n : Int), (r.foldl (fun m k => if k < m then k else m) n = n ∨ r.foldl (fun m k => if k < m then k else m) n ∈ r) ∧ r.foldl (fun m k => if k < m then k else m) n ≤ n ∧ ∀ y ∈ r, r.foldl (fun m k => if k < m then k else m) n ≤ y
  | [], n => ⟨.inl rfl, Int.le_refl _, by simp⟩
  | k :: r, n => by
    obtain ⟨h1, h2, h3⟩ := least_fold r (if k < n then k else n)
    rw [List.foldl_cons]
    by_cases hk : k < n
    · rw [if_pos hk] at h1 h2 h3
      rw [if_pos hk]
      refine ⟨.inr ?_, by omega, fun y hy => ?_⟩
      · rcases h1 with h1 | h1
        · rw [h1]; exact List.mem_cons_self
        · exact List.mem_cons_of_mem _ h1
      · rcases List.mem_cons.mp hy with rfl | hy
        · exact h2
        · exact h3 y hy
    · rw [if_neg hk] at h1 h2 h3
      rw [if_neg hk]
      refine ⟨?_, h2, fun y hy => ?_⟩
      · rcases h1 with h1 | h1
        · exact .inl h1
        · exact .inr (List.mem_cons_of_mem _ h1)
      · rcases List.mem_cons.mp hy with rfl | hy
        · omega
        · exact h3 y hy
theorem most_fold : ∀ (r : List Int) (n : Int), (r.foldl (fun m k => if m < k then k else m) n = n ∨ r.foldl (fun m k => if m < k then k else m) n ∈ r) ∧ n ≤ r.foldl (fun m k => if m < k then k else m) n ∧ ∀ y ∈ r, y ≤ r.foldl (fun m k => if m < k then k else m) n
  | [], n => ⟨.inl rfl, Int.le_refl _, by simp⟩
  | k :: r, n => by
    obtain ⟨h1, h2, h3⟩ := most_fold r (if n < k then k else n)
    rw [List.foldl_cons]
    by_cases hk : n < k
    · rw [if_pos hk] at h1 h2 h3
      rw [if_pos hk]
      refine ⟨.inr ?_, by omega, fun y hy => ?_⟩
      · rcases h1 with h1 | h1
        · rw [h1]; exact List.mem_cons_self
        · exact List.mem_cons_of_mem _ h1
      · rcases List.mem_cons.mp hy with rfl | hy
        · exact h2
        · exact h3 y hy
    · rw [if_neg hk] at h1 h2 h3
      rw [if_neg hk]
      refine ⟨?_, h2, fun y hy => ?_⟩
      · rcases h1 with h1 | h1
        · exact .inl h1
        · exact .inr (List.mem_cons_of_mem _ h1)
      · rcases List.mem_cons.mp hy with rfl | hy
        · omega
        · exact h3 y hy
theorem leastI_spec {ns : List Int} {m : Int} (h : leastI ns = some m) : m ∈ ns ∧ ∀ y ∈ ns, m ≤ y := by
  cases ns with
  | nil => cases h
  | cons n r =>
    cases h
    obtain ⟨h1, h2, h3⟩ := least_fold r n
    refine ⟨?_, fun y hy => ?_⟩
    · rcases h1 with h1 | h1
      · rw [h1]; exact List.mem_cons_self
      · exact List.mem_cons_of_mem _ h1
    · rcases List.mem_cons.mp hy with rfl | hy
      · exact h2
      · exact h3 y hy
theorem mostI_spec {ns : List Int} {m : Int} (h : mostI ns = some m) : m ∈ ns ∧ ∀ y ∈ ns, y ≤ m := by
  cases ns with
  | nil => cases h
  | cons n r =>
    cases h
    obtain ⟨h1, h2, h3⟩ := most_fold r n
    refine ⟨?_, fun y hy => ?_⟩
    · rcases h1 with h1 | h1
      · rw [h1]; exact List.mem_cons_self
      · exact List.mem_cons_of_mem _ h1
    · rcases List.mem_cons.mp hy with rfl | hy
      · exact h2
      · exact h3 y hy
def minL : PyData → R PyData
  | .list xs => match (intsO xs).bind leastI with
    | some m => .ok (.int m)
    | none => .bad
  | _ => .bad
def maxL : PyData → R PyData
  | .list xs => match (intsO xs).bind mostI with
    | some m => .ok (.int m)
    | none => .bad
  | _ => .bad
theorem cd_minL {K : PySem.W.Frag} : CaD K (fun vs H Q => ∃ (a : Addr) (ns : List Int) (m : Int), vs = [V.ref a] ∧ SqL K H a (ns.map V.int) ∧ m ∈ ns ∧ (∀ y ∈ ns, m ≤ y) ∧ Q (.int m) H) minL := fun x d H h => by
  cases h with
  | @lst _ _ ds hs ha =>
    cases e : intsO ds with
    | none => exact .inr (by simp only [minL, e, Option.bind_none])
    | some ns =>
      have e1 := ints_of ha e
      subst e1
      cases e2 : leastI ns with
      | none => exact .inr (by simp only [minL, e, Option.bind_some, e2])
      | some m =>
        have := leastI_spec e2
        exact .inl ⟨_, _, (by simp only [minL, e, Option.bind_some, e2] <;> rfl), fun _ => .int _, fun Q q => ⟨_, ns, m, rfl, hs, this.1, this.2, q⟩⟩
  | _ => exact .inr rfl
theorem cd_maxL {K : PySem.W.Frag} : CaD K (fun vs H Q => ∃ (a : Addr) (ns : List Int) (m : Int), vs = [V.ref a] ∧ SqL K H a (ns.map V.int) ∧ m ∈ ns ∧ (∀ y ∈ ns, y ≤ m) ∧ Q (.int m) H) maxL := fun x d H h => by
  cases h with
  | @lst _ _ ds hs ha =>
    cases e : intsO ds with
    | none => exact .inr (by simp only [maxL, e, Option.bind_none])
    | some ns =>
      have e1 := ints_of ha e
      subst e1
      cases e2 : mostI ns with
      | none => exact .inr (by simp only [maxL, e, Option.bind_some, e2])
      | some m =>
        have := mostI_spec e2
        exact .inl ⟨_, _, (by simp only [maxL, e, Option.bind_some, e2] <;> rfl), fun _ => .int _, fun Q q => ⟨_, ns, m, rfl, hs, this.1, this.2, q⟩⟩
  | _ => exact .inr rfl
theorem cr_imp {f : Value} {r r' : List V → Hp → VK → Prop} (h : CallR X f r) (i : ∀ vs H Q, r' vs H Q → r vs H Q) : CallR X f r' := fun pins s σ H xs us Q I rv q => h pins s σ H xs us Q I rv (i _ _ _ q)
theorem d_minL {p : Pos} (hc : X.calm = true) (ha : PE X a (qT X.K c f)) (hm : X.mg "min" = none) (hg : Gl X "min" := by rfl) (hs : starEach [a] X.env = (false, eval a X.env) :: starEach [] X.env := by rfl) (hpl : (backTo pos (starEach [] X.env)).any (·.1) = false := by rfl) :
    PE X (.Call (.Name "min" p) [a] [] pos) (qP X.K c (op1 minL f)) :=
  d_ca (cr_imp (cr_min hc) fun vs H Q ⟨a, ns, m, e1, e2, e3, e4, q⟩ => ⟨a, ns, e1, e2, List.length_pos_of_mem e3, fun m' h1 h2 => by
    have : m' = m := by
      have a1 := h2 m e3
      have a2 := e4 m' h1
      omega
    rw [this]
    exact q⟩) cd_minL ha hm (by decide +kernel) hg (by decide) (by decide) hs hpl
theorem d_maxL {p : Pos} (hc : X.calm = true) (ha : PE X a (qT X.K c f)) (hm : X.mg "max" = none) (hg : Gl X "max" := by rfl) (hs : starEach [a] X.env = (false, eval a X.env) :: starEach [] X.env := by rfl) (hpl : (backTo pos (starEach [] X.env)).any (·.1) = false := by rfl) :
    PE X (.Call (.Name "max" p) [a] [] pos) (qP X.K c (op1 maxL f)) :=
  d_ca (cr_imp (cr_max hc) fun vs H Q ⟨a, ns, m, e1, e2, e3, e4, q⟩ => ⟨a, ns, e1, e2, List.length_pos_of_mem e3, fun m' h1 h2 => by
    have : m' = m := by
      have a1 := h2 m e3
      have a2 := e4 m' h1
      omega
    rw [this]
    exact q⟩) cd_maxL ha hm (by decide +kernel) hg (by decide) (by decide) hs hpl
/-! ### list(x), tuple(x) -/
def listD : PyData → R PyData
  | .list xs => .ok (.list xs)
  | .tuple xs => .ok (.list xs)
  | _ => .bad
def tupD : PyData → R PyData
  | .list xs => .ok (.tuple xs)
  | .tuple xs => .ok (.tuple xs)
  | _ => .bad
theorem d_list {p : Pos} (ha : PE X a (qP X.K c f)) (hm : X.mg "list" = none) (hg : Gl X "list" := by rfl) (hs : starEach [a] X.env = (false, eval a X.env) :: starEach [] X.env := by rfl) (hpl : (backTo pos (starEach [] X.env)).any (·.1) = false := by rfl) :
    PE X (.Call (.Name "list" p) [a] [] pos) (qN X.K c (op1 listD f)) := by
  refine pe_imp (pe_callTy call_list_of hg hm (by decide +kernel) (pa_cons ha pa_nil hs) (by decide) (by decide) hs hpl) fun σ H Q h => ?_
  obtain ⟨ds, F, s, w⟩ := h
  refine ⟨ds, F, s, ?_⟩
  unfold op1 at w
  cases hf : f ds with
  | bad => rw [hf] at w; exact w
  | err x => rw [hf] at w; exact w
  | ok d =>
    rw [hf, R.ok_bind] at w
    intro v F1 H1 g1 q1
    cases q1 with
    | lst hs ha => exact ⟨_, _, rfl, .inl (g1.fh.seq hs), fun l hl => w l F1 _ (g1.trans (.own g1.fh hl)) (g1.hh.free hl) (g1.fh.free hl) ⟨_, upd_same, ha⟩⟩
    | tup hs ha => exact ⟨_, _, rfl, .inr (sqT_mono g1.fh hs), fun l hl => w l F1 _ (g1.trans (.own g1.fh hl)) (g1.hh.free hl) (g1.fh.free hl) ⟨_, upd_same, ha⟩⟩
    | _ => exact w.elim
theorem d_tupOf {p : Pos} (ha : PE X a (qP X.K c f)) (hm : X.mg "tuple" = none) (hg : Gl X "tuple" := by rfl) (hs : starEach [a] X.env = (false, eval a X.env) :: starEach [] X.env := by rfl) (hpl : (backTo pos (starEach [] X.env)).any (·.1) = false := by rfl) :
    PE X (.Call (.Name "tuple" p) [a] [] pos) (qP X.K c (op1 tupD f)) := by
  refine pe_imp (pe_callTy call_tuple_of hg hm (by decide +kernel) (pa_cons ha pa_nil hs) (by decide) (by decide) hs hpl) fun σ H Q h => ?_
  obtain ⟨ds, F, s, w⟩ := h
  refine ⟨ds, F, s, ?_⟩
  unfold op1 at w
  cases hf : f ds with
  | bad => rw [hf] at w; exact w
  | err x => rw [hf] at w; exact w
  | ok d =>
    rw [hf, R.ok_bind] at w
    intro v F1 H1 g1 q1
    cases q1 with
    | lst hs ha => exact ⟨_, _, rfl, .inl ⟨g1.fh.seq hs, fun l hl => w _ (upd F1 l (.tup _)) _ (g1.trans (.new g1.fh hl)) (.tup (.of upd_same) (ha.mono (same_new (g1.fh.free hl))))⟩⟩
    | tup hs ha => exact ⟨_, _, rfl, .inr ⟨sqT_mono g1.fh hs, w _ F1 H1 g1 (.tup hs ha)⟩⟩
    | _ => exact w.elim
/-! ### slices of tuples and texts -/
def slT (fa : ES) (lo hi : DS → R (Option Int)) : ES := fun ds => fa ds >>= fun d => lo ds >>= fun l => hi ds >>= fun h => match d with
  | .tuple xs => .ok (.tuple (cutL xs l h))
  | _ => .bad
theorem cut_whole {α : Type} (xs : List α) (lo hi : Option Int) (h : HT.sIx xs.length 0 lo = 0 ∧ HT.sIx xs.length xs.length hi = xs.length) : cutL xs lo hi = xs := by
  unfold cutL
  rw [h.1, h.2]
  simp
theorem d_slT {lo hi : Option Expr} {fl fh : DS → R (Option Int)} {p2 : Pos} (ha : PE X a (qP X.K c fa)) (hl : PO X lo (qO X.K c fl)) (hh : PO X hi (qO X.K c fh)) : PE X (.Subscript a (.Slice lo hi none p2) pos) (qP X.K c (slT fa fl fh)) := by
  refine pe_imp (pe_slice sl_tupA ha hl hh) fun σ H Q h => ?_
  obtain ⟨ds, F, s, w⟩ := h
  refine ⟨ds, F, s, ?_⟩
  unfold slT at w
  cases hf : fa ds with
  | bad => rw [hf] at w; exact w
  | err x => rw [hf] at w; exact w
  | ok d =>
    rw [hf, R.ok_bind] at w
    intro v F1 H1 g1 q1
    refine ⟨ds, F1, s.grow g1, ?_⟩
    cases hfl : fl ds with
    | bad => rw [hfl] at w; exact w
    | err x => rw [hfl] at w; exact w
    | ok l =>
      rw [hfl, R.ok_bind] at w
      intro F2 H2 g2
      refine ⟨ds, F2, (s.grow g1).grow g2, ?_⟩
      cases hfh : fh ds with
      | bad => rw [hfh] at w; exact w
      | err x => rw [hfh] at w; exact w
      | ok u =>
        rw [hfh, R.ok_bind] at w
        intro F3 H3 g3
        have g123 := (g1.trans g2).trans g3
        cases d with
        | tuple xs =>
          have q3 := (q1.mono g2.ff).mono g3.ff
          cases q3 with
          | @tup _ vs _ hs hd =>
            refine ⟨_, vs, rfl, sqT_mono g3.fh hs, fun hw => ?_, fun hw p hp => ?_⟩
            · rw [hd.length] at hw
              simp only [cut_whole xs l u hw] at w
              exact w _ F3 H3 g123 (.tup hs hd)
            · exact w _ (upd F3 p _) _ (g123.trans (.new g3.fh hp)) (.tup (.of upd_same) ((cut_dq hd l u).mono (same_new (g3.fh.free hp))))
        | _ => exact w.elim
/-! ### a, b, c = t : a tuple, a list is unpacked -/
def unpS (k : TgK) (f : ES) : DS → Out := fun ds => toO (f ds) fun d => match tgD k d ds with
  | .ok ds' => .nx ds'
  | _ => .bad
theorem d_unp {tg : Expr} {k : TgK} (he : PE X e (qP X.K c f)) (hg : PG X tg (tgT X.K k)) (hs : swapsWithSole [tg] e pos.line X.env = pure false := by rfl) (hw : swappedStores [tg] e X.env = pure none := by rfl)
    (h1 : (assignEach [tg] X.env).map (·.2) = [assign tg X.env] := by rfl) : PS X (.Assign [tg] e pos) (qS X.K c (unpS k f)) := by
  refine ps_imp (ps_asg he hg hs hw h1) fun D σ H ⟨ds, F, s, w⟩ => ⟨ds, F, s, wP_toO w fun d v F1 H1 g1 q1 w1 => ?_⟩
  cases ht : tgD k d ds with
  | bad => simp only [ht] at w1; exact w1.elim
  | err x => simp only [ht] at w1; exact w1.elim
  | ok ds' =>
    simp only [ht] at w1
    obtain ⟨σ', k1, s', _⟩ := tg_run (s.grow g1) q1 ht
    exact k1 _ (w1 σ' F1 H1 (.refl F1) s')
/-- a list of so many: three names -/
def unl3S (i j k : Nat) (f : ES) : DS → Out := fun ds => toO (f ds) fun d => match d with
  | .list [x, y, z] => .nx (((ds.set i (.im x)).set j (.im y)).set k (.im z))
  | _ => .bad
theorem d_unl3 {tg : Expr} {i j k : Nat} (he : PE X e (qP X.K c f)) (hg : PG X tg (gUnl X.K 3 (gCons (gName i) (gCons (gName j) (gCons (gName k) gNil))))) (hs : swapsWithSole [tg] e pos.line X.env = pure false := by rfl) (hw : swappedStores [tg] e X.env = pure none := by rfl)
    (h1 : (assignEach [tg] X.env).map (·.2) = [assign tg X.env] := by rfl) : PS X (.Assign [tg] e pos) (qS X.K c (unl3S i j k f)) := by
  refine ps_imp (ps_asg he hg hs hw h1) fun D σ H ⟨ds, F, s, w⟩ => ⟨ds, F, s, wP_toO w fun d v F1 H1 g1 q1 w1 => ?_⟩
  split at w1
  · cases q1 with
    | lst hs ha =>
      cases ha with
      | cons h1 t1 =>
        cases t1 with
        | cons h2 t2 =>
          cases t2 with
          | cons h3 t3 =>
            cases t3
            exact ⟨_, _, rfl, g1.fh.seq hs, rfl, _, _, rfl, _, _, rfl, _, _, rfl, rfl, w1 _ F1 H1 (.refl F1) ((((s.grow g1).set h1).set h2).set h3)⟩
  · exact w1.elim
/-! ### a, b, c = x, y, z -/
def par3 (i j l : Nat) (f g h : ES) : DS → Out := fun ds => toO (f ds) fun d => toO (g ds) fun e => toO (h ds) fun z => .nx (((ds.set i (.im d)).set j (.im e)).set l (.im z))
def par3N (i j l : Nat) (f g h : ES) : DS → Out := fun ds => toO (f ds) fun d => toO (g ds) fun e => toO (h ds) fun z => .nx (((ds.set i (.im d)).set j (.im e)).set l (.ow z))
def parN3 (i j l : Nat) (f g h : ES) : DS → Out := fun ds => toO (f ds) fun d => toO (g ds) fun e => toO (h ds) fun z => .nx (((ds.set i (.ow d)).set j (.im e)).set l (.im z))
section
variable {x y z : Str} {px py pz pt pt2 : Pos} {kt k2 : Nat}
theorem d_par3 (i j l : Nat) (hc : X.calm = true) (hN : X.N.Nodup) (ha : PE X a (qP X.K c fa)) (hb : PE X b (qP X.K c fb)) (hcc : PE X cc (qP X.K c fc)) (hij : i ≠ j := by decide) (hil : i ≠ l := by decide) (hjl : j ≠ l := by decide) (hi : X.N[i]? = some x := by rfl) (hj : X.N[j]? = some y := by rfl) (hl : X.N[l]? = some z := by rfl)
    (hx : X.env.scope.names.lookup x = some .local := by rfl) (hy : X.env.scope.names.lookup y = some .local := by rfl) (hz : X.env.scope.names.lookup z = some .local := by rfl)
    (hs1 : starEach [a, b, cc] X.env = (false, eval a X.env) :: starEach [b, cc] X.env := by rfl) (hs2 : starEach [b, cc] X.env = (false, eval b X.env) :: starEach [cc] X.env := by rfl) (hs3 : starEach [cc] X.env = (false, eval cc X.env) :: starEach [] X.env := by rfl)
    (hw : swappedStores [.Tuple [.Name x px, .Name y py, .Name z pz] kt pt] (.Tuple [a, b, cc] k2 pt2) X.env = pure (some [x, y, z]) := by rfl)
    (hs : swapsWithSole [.Tuple [.Name x px, .Name y py, .Name z pz] kt pt] (.Tuple [a, b, cc] k2 pt2) pos.line X.env = pure false := by rfl) :
    PS X (.Assign [.Tuple [.Name x px, .Name y py, .Name z pz] kt pt] (.Tuple [a, b, cc] k2 pt2) pos) (qS X.K c (par3 i j l fa fb fc)) :=
  ps_imp (ps_par3 hc hN hi hj hl hij hil hjl hx hy hz (pa_cons ha (pa_cons hb (pa_cons hcc pa_nil hs3) hs2) hs1) hw hs) fun D σ H ⟨ds, F, s, w⟩ => ⟨ds, F, s, wP_toO w fun d v F1 H1 g1 q1 w1 => ⟨ds, F1, s.grow g1, wP_toO w1 fun d2 v2 F2 H2 g2 q2 w2 => ⟨ds, F2, (s.grow g1).grow g2, wP_toO w2 fun d3 v3 F3 H3 g3 q3 w3 =>
    ⟨v, v2, v3, rfl, w3 _ F3 H3 (.refl F3) ((((((s.grow g1).grow g2).grow g3).set ((q1.mono g2.ff).mono g3.ff)).set (q2.mono g3.ff)).set q3)⟩⟩⟩⟩
theorem d_par3N (i j l : Nat) (hc : X.calm = true) (hN : X.N.Nodup) (ha : PE X a (qP X.K c fa)) (hb : PE X b (qP X.K c fb)) (hcc : PE X cc (qN X.K c fc)) (hij : i ≠ j := by decide) (hil : i ≠ l := by decide) (hjl : j ≠ l := by decide) (hi : X.N[i]? = some x := by rfl) (hj : X.N[j]? = some y := by rfl) (hl : X.N[l]? = some z := by rfl)
    (hx : X.env.scope.names.lookup x = some .local := by rfl) (hy : X.env.scope.names.lookup y = some .local := by rfl) (hz : X.env.scope.names.lookup z = some .local := by rfl)
    (hs1 : starEach [a, b, cc] X.env = (false, eval a X.env) :: starEach [b, cc] X.env := by rfl) (hs2 : starEach [b, cc] X.env = (false, eval b X.env) :: starEach [cc] X.env := by rfl) (hs3 : starEach [cc] X.env = (false, eval cc X.env) :: starEach [] X.env := by rfl)
    (hw : swappedStores [.Tuple [.Name x px, .Name y py, .Name z pz] kt pt] (.Tuple [a, b, cc] k2 pt2) X.env = pure (some [x, y, z]) := by rfl)
    (hs : swapsWithSole [.Tuple [.Name x px, .Name y py, .Name z pz] kt pt] (.Tuple [a, b, cc] k2 pt2) pos.line X.env = pure false := by rfl) :
    PS X (.Assign [.Tuple [.Name x px, .Name y py, .Name z pz] kt pt] (.Tuple [a, b, cc] k2 pt2) pos) (qS X.K c (par3N i j l fa fb fc)) :=
  ps_imp (ps_par3 hc hN hi hj hl hij hil hjl hx hy hz (pa_cons ha (pa_cons hb (pa_cons hcc pa_nil hs3) hs2) hs1) hw hs) fun D σ H ⟨ds, F, s, w⟩ => ⟨ds, F, s, wP_toO w fun d v F1 H1 g1 q1 w1 => ⟨ds, F1, s.grow g1, wP_toO w1 fun d2 v2 F2 H2 g2 q2 w2 => ⟨ds, F2, (s.grow g1).grow g2, wN_toO w2 fun d3 p F3 H3 g3 n1 n2 n3 w3 =>
    ⟨v, v2, _, rfl, w3 _ F3 H3 (.refl F3) (((((s.grow g1).grow g2).set (q1.mono g2.ff)).set q2).setNew g3 n1 n2 n3)⟩⟩⟩⟩
end
/-! ### x[i] = e, x a list of one's own -/
def lputS (i : Nat) (fk fv : ES) : DS → Out := fun ds => toO (fv ds) fun v => match ds[i]? with
  | some (.ow (.list xs)) => toO (fk ds) fun k => match k with
    | .int j => match ixN xs.length j with
      | some m => .nx (ds.set i (.ow (.list (xs.set m v))))
      | none => .bad
    | _ => .bad
  | _ => .bad
theorem DqAll.set {K : PySem.W.Frag} {H : Hp} {v : V} {d : PyData} (q : Dq K H v d) : ∀ {vs : List V} {ds : List PyData} (n : Nat), DqAll K H vs ds → DqAll K H (vs.set n v) (ds.set n d)
  | _, _, _, .nil => .nil
  | _, _, 0, .cons _ t => .cons q t
  | _, _, n + 1, .cons h t => .cons h (DqAll.set q n t)
theorem d_lput (i : Nat) {x : Str} {p1 pos' : Pos} (hk : PE X a (qT X.K c fa)) (hv : PE X b (qP X.K c fb)) (hN : X.N[i]? = some x := by rfl) (hvis : Vis X.env.scope x := by first | exact Or.inl rfl | exact Or.inr (Or.inl rfl) | exact Or.inr (Or.inr rfl)) (hd : (x == ("__debug__" : Str)) = false := by decide) (hcd : (x == ("__classdict__" : Str)) = false := by decide)
    (ha : ∀ v, assign (.Subscript (.Name x p1) a pos') X.env v = (do
      let ov ← holding [v] (eval (.Name x p1) X.env)
      let iv ← holding [v, ov] (eval a X.env)
      standAt pos'
      holding [v, ov, iv] (setItem ov iv v)
      release [v, ov, iv] []) := by intro _; rfl)
    (hs : swapsWithSole [.Subscript (.Name x p1) a pos'] b pos.line X.env = pure false := by rfl) (hw : swappedStores [.Subscript (.Name x p1) a pos'] b X.env = pure none := by rfl)
    (h1 : (assignEach [.Subscript (.Name x p1) a pos'] X.env).map (·.2) = [assign (.Subscript (.Name x p1) a pos') X.env] := by rfl) : PS X (.Assign [.Subscript (.Name x p1) a pos'] b pos) (qS X.K c (lputS i fa fb)) := by
  refine ps_imp (ps_asg hv (pg_sub (pe_var hN hvis hd hcd) hk set_list ha) hs hw h1) fun D σ H ⟨ds, F, s, w⟩ => ⟨ds, F, s, wP_toO w fun d v F1 H1 g1 q1 w1 => ?_⟩
  split at w1
  · rename_i xs hi
    have s1 := s.grow g1
    obtain ⟨p, e1, e2, e3, l, e4, e5⟩ := s1.sl i _ hi
    refine ⟨.ref p, e1, ds, F1, s1, wT_toO w1 fun d2 v2 F2 H2 g2 q2 w2 => ?_⟩
    cases q2 with
    | int j =>
      cases hm : ixN xs.length j with
      | none => simp only [hm] at w2; exact w2.elim
      | some m =>
        simp only [hm] at w2
        refine ⟨p, l, j, m, rfl, rfl, g2.hh.keep _ _ e4 rfl, by rw [e5.length]; exact hm, w2 σ F2 _ (.refl F2) ((s1.grow g2).mut hi e1 ⟨_, upd_same, (e5.mono g2.ff).set (q1.mono g2.ff) m⟩)⟩
    | _ => exact w2.elim
  · exact w1.elim
/-! ### x.extend(e) -/
theorem d_ext (i : Nat) {x : Str} {p1 apos cpos : Pos} (he : PE X e (qN X.K c f)) (hN : X.N[i]? = some x := by rfl) (hv : Vis X.env.scope x := by first | exact Or.inl rfl | exact Or.inr (Or.inl rfl) | exact Or.inr (Or.inr rfl)) (hd : (x == ("__debug__" : Str)) = false := by decide) (hcd : (x == ("__classdict__" : Str)) = false := by decide)
    (hbase : attributeBase (.Name x p1) "extend" X.env (eval (.Name x p1) X.env) = eval (.Name x p1) X.env := by rfl)
    (hfew : ((backTo cpos (starEach [e] X.env)).all (fun x => !x.1) && (backToKw cpos (keywordEach [] X.env)).all (fun x => x.1.isSome) && decide ([e].length + ([] : List Keyword).length + (if ([] : List Keyword).isEmpty then 0 else 1) < 30)) = true := by rfl)
    (hline : (apos.endLine == cpos.line) = true := by rfl) (hs1 : starEach [e] X.env = (false, eval e X.env) :: starEach [] X.env := by rfl) (hpl : (backTo cpos (starEach [] X.env)).any (·.1) = false := by rfl)
    (hs : swapsWith (.Call (.Attribute (.Name x p1) "extend" apos) [e] [] cpos) none pos.line X.env = pure false := by rfl) : PS X (.Expr (.Call (.Attribute (.Name x p1) "extend" apos) [e] [] cpos) pos) (qS X.K c (extS i f)) :=
  ps_imp (ps_expr (pe_bm PySem.F.plainAttrs_list PySem.F.slot_list_extend PySem.F.type_list_extend mt_extend (pe_var hN hv hd hcd) (pa_cons he pa_nil hs1) hbase hfew hline hs1 hpl) hs) fun D σ H h => t_ext h
/-! ### x.remove(e), x a list of ints of one's own that has it -/
def remS (i : Nat) (f : ES) : DS → Out := fun ds => match ds[i]? with
  | some (.ow (.list xs)) => toO (f ds) fun d => match d, intsO xs with
    | .int k, some ns => if k ∈ ns then .nx (ds.set i (.ow (.list ((ns.erase k).map .int)))) else .bad
    | _, _ => .bad
  | _ => .bad
theorem dq_ints {K : PySem.W.Frag} {H : Hp} : ∀ ns : List Int, DqAll K H (ns.map V.int) (ns.map .int)
  | [] => .nil
  | n :: r => .cons (.int n) (dq_ints r)
theorem d_rem (i : Nat) {x : Str} {p1 apos cpos : Pos} (hc : X.calm = true) (he : PE X e (qT X.K c f)) (hN : X.N[i]? = some x := by rfl) (hv : Vis X.env.scope x := by first | exact Or.inl rfl | exact Or.inr (Or.inl rfl) | exact Or.inr (Or.inr rfl)) (hd : (x == ("__debug__" : Str)) = false := by decide) (hcd : (x == ("__classdict__" : Str)) = false := by decide)
    (hbase : attributeBase (.Name x p1) "remove" X.env (eval (.Name x p1) X.env) = eval (.Name x p1) X.env := by rfl)
    (hfew : ((backTo cpos (starEach [e] X.env)).all (fun x => !x.1) && (backToKw cpos (keywordEach [] X.env)).all (fun x => x.1.isSome) && decide (([e] : List Expr).length + ([] : List Keyword).length + (if ([] : List Keyword).isEmpty then 0 else 1) < 30)) = true := by rfl)
    (hline : (apos.endLine == cpos.line) = true := by rfl) (hs1 : starEach [e] X.env = (false, eval e X.env) :: starEach [] X.env := by rfl) (hpl : (backTo cpos (starEach [] X.env)).any (·.1) = false := by rfl)
    (hs : swapsWith (.Call (.Attribute (.Name x p1) "remove" apos) [e] [] cpos) none pos.line X.env = pure false := by rfl) : PS X (.Expr (.Call (.Attribute (.Name x p1) "remove" apos) [e] [] cpos) pos) (qS X.K c (remS i f)) := by
  refine ps_imp (ps_expr (pe_remX hc LamX.takes0 (pe_var hN hv hd hcd) he hbase hfew hline hs1 hpl) hs) fun D σ H ⟨ds, F, s, w⟩ => ?_
  unfold remS at w
  split at w
  · rename_i xs hi
    obtain ⟨p, e1, e2, e3, vs, e4, e5⟩ := s.sl i _ hi
    refine ⟨.ref p, e1, .inl ⟨rfl, _, .inl (.inl e4)⟩, ds, F, s, wT_toO w fun d v F1 H1 g1 q1 w1 => ?_⟩
    cases q1 with
    | int k =>
      cases hn : intsO xs with
      | none => simp only [hn] at w1; exact w1.elim
      | some ns =>
        simp only [hn] at w1
        have ev := ints_of e5 hn
        subst ev
        by_cases hk : k ∈ ns
        · simp only [if_pos hk] at w1
          refine ⟨p, ns, k, rfl, rfl, g1.hh.keep _ _ e4 rfl, fun _ => w1 σ F1 _ (.refl F1) ((s.grow g1).mut hi e1 ⟨_, upd_same, dq_ints _⟩), fun z => absurd hk z⟩
        · simp only [if_neg hk] at w1
          exact w1.elim
    | _ => exact w1.elim
  · exact w.elim
/-! ### x.count(e), x.index(e) -/
def rCountD (K : PySem.W.Frag) : V → List V → Hp → VK → Prop := fun x xs H Q => ∃ (a : Addr) (y : V) (d : PyData) (ds : List PyData), x = V.ref a ∧ xs = [y] ∧ Dp K H (V.ref a) (.list ds) ∧ Dp K H y d ∧
  SeqAt.shaped (.list ds) = true ∧ SeqAt.shaped d = true ∧ Q (.int (ds.countP fun z => PyData.eqv z d : Nat)) H
theorem mt_countD {X : Cx} (hu : X.A.units + 65 < cLine) : MtR X "list.count" (rCountD X.K) := by
  intro pins s σ H x xs v us Q I rx rxs h
  obtain ⟨l, y, d, ds, rfl, rfl, hl, hy, sl, sd, q⟩ := h
  cases rx
  obtain ⟨uy, rfl, ry⟩ := rxs.one
  obtain ⟨bs, r1⟩ := Dp.reads I d y uy hy ry
  have hxs : PyData.canLayAll0 ds = true := SeqAt.canLay_of_shaped sl
  have hroom : X.A.units + 1 + min (PyData.depthAll ds) d.depth < cLine := room_in_shaped sd hu
  cases hl with
  | lst hs ha =>
    obtain ⟨its, rv, ⟨⟨cls, dd, data, sls⟩, n, ho, hc, hdn, hdt⟩, hlen⟩ := I.list hs
    simp only at hc hdt
    subst hc hdt
    obtain ⟨as, h4⟩ := Dp.readsAll I ds _ its ha rv
    have hmap : its.map (SeqAt.readOf s.heap) = ds := SeqAt.readsAll_map ds its as hxs h4
    refine call_meets PySem.F.slot_list_count ⟨_, ho, rfl⟩ PySem.F.entry_list_count (PySem.F.args_list_count_2 _ _)
      (SeqAt.list_countAt l its.toArray n dd sls uy (fun u => PyData.eqv (SeqAt.readOf s.heap u) d)) ⟨ho, SeqAt.items_eqAt (vs := its.toArray) (show ReadsAll s.heap its.toArray.toList ds as from h4) r1 hxs (SeqAt.canLay_of_shaped sd) hroom, ?_⟩
    have ec : its.toArray.toList.countP (fun u => PyData.eqv (SeqAt.readOf s.heap u) d) = ds.countP fun z => PyData.eqv z d := by
      rw [← hmap, List.countP_map]
      rfl
    exact ⟨.int (ds.countP fun z => PyData.eqv z d : Nat), H, I.tok _, ⟨s.toks, by rw [ec]⟩, q⟩
def countD (e d : PyData) : R PyData := match e with
  | .list ds => if (SeqAt.shaped d && SeqAt.shaped (.list ds)) = true then .ok (.int (ds.countP fun z => PyData.eqv z d : Nat)) else .bad
  | _ => .bad
def indexD (e d : PyData) : R PyData := match e with
  | .list ds => if (SeqAt.shaped d && SeqAt.shaped (.list ds) && decide (ds.findIdx (fun z => PyData.eqv z d) < ds.length)) = true then .ok (.int (ds.findIdx fun z => PyData.eqv z d : Nat)) else .bad
  | _ => .bad
/-- a list first -/
def opL (g : PyData → PyData → R PyData) (fa fb : ES) : ES := fun ds => fa ds >>= fun d => match d with
  | .list xs => fb ds >>= fun e => g (.list xs) e
  | _ => .bad
theorem t_bm1 {K : PySem.W.Frag} {r : V → List V → Hp → VK → Prop} {g : PyData → PyData → R PyData} (hr : OpD K (fun x y H Q => r x [y] H Q) g) {σ : L2.St} {H : Hp} {Q : VK} (h : qP K c (opL g fa fb) σ H Q) : tBM K "list" r (qT K c fa) (tCons (qT K c fb) tNil) σ H Q := by
  obtain ⟨ds, F, s, w⟩ := h
  refine ⟨ds, F, s, ?_⟩
  unfold opL at w
  cases ha : fa ds with
  | bad => rw [ha] at w; exact w
  | err x => rw [ha] at w; exact w
  | ok d =>
    rw [ha, R.ok_bind] at w
    intro v F1 H1 g1 q1
    cases d with
    | list xs =>
      refine ⟨?_, ds, F1, s.grow g1, ?_⟩
      · cases q1 with
        | lst hs ha => exact .inl ⟨rfl, _, hs⟩
      · cases hb : fb ds with
        | bad => simp only [hb] at w; exact w
        | err x => simp only [hb] at w; exact w
        | ok d2 =>
          simp only [hb, R.ok_bind] at w
          intro v2 F2 H2 g2 q2
          rcases hr v v2 _ d2 H2 (q1.mono g2.hh) q2 with ⟨z, u, e1, s1, k⟩ | e1
          · rw [e1] at w
            exact k _ (w u F2 H2 (g1.trans g2) (s1 F2))
          · rw [e1] at w
            exact w.elim
    | _ => exact w.elim
theorem d_count {apos cpos : Pos} (hu : X.A.units + 65 < cLine) (ha : PE X a (qT X.K c fa)) (hb : PE X b (qT X.K c fb)) (hbase : attributeBase a "count" X.env (eval a X.env) = eval a X.env := by rfl)
    (hfew : ((backTo cpos (starEach [b] X.env)).all (fun x => !x.1) && (backToKw cpos (keywordEach [] X.env)).all (fun x => x.1.isSome) && decide (([b] : List Expr).length + ([] : List Keyword).length + (if ([] : List Keyword).isEmpty then 0 else 1) < 30)) = true := by rfl)
    (hline : (apos.endLine == cpos.line) = true := by rfl) (hs1 : starEach [b] X.env = (false, eval b X.env) :: starEach [] X.env := by rfl) (hpl : (backTo cpos (starEach [] X.env)).any (·.1) = false := by rfl) :
    PE X (.Call (.Attribute a "count" apos) [b] [] cpos) (qP X.K c (opL countD fa fb)) :=
  pe_imp (pe_bm PySem.F.plainAttrs_list PySem.F.slot_list_count PySem.F.type_list_count (mt_countD hu) ha (pa_cons hb pa_nil hs1) hbase hfew hline hs1 hpl) fun σ H Q h => t_bm1 (fun x y d e H h1 h2 => by
    cases h1 with
    | @lst p vs ds hs hd =>
      by_cases hz : (SeqAt.shaped e && SeqAt.shaped (.list ds)) = true
      · obtain ⟨s1, s2⟩ := Bool.and_eq_true_iff.mp hz
        exact .inl ⟨_, _, if_pos hz, fun _ => .int _, fun Q q => ⟨p, y, e, ds, rfl, rfl, dp_of (.lst hs hd) (SeqAt.canLay_of_shaped s2), dp_of h2 (SeqAt.canLay_of_shaped s1), s2, s1, q⟩⟩
      · exact .inr (if_neg hz)
    | _ => exact .inr rfl) h
theorem d_index {apos cpos : Pos} (hu : X.A.units + 65 < cLine) (ha : PE X a (qT X.K c fa)) (hb : PE X b (qT X.K c fb)) (hbase : attributeBase a "index" X.env (eval a X.env) = eval a X.env := by rfl)
    (hfew : ((backTo cpos (starEach [b] X.env)).all (fun x => !x.1) && (backToKw cpos (keywordEach [] X.env)).all (fun x => x.1.isSome) && decide (([b] : List Expr).length + ([] : List Keyword).length + (if ([] : List Keyword).isEmpty then 0 else 1) < 30)) = true := by rfl)
    (hline : (apos.endLine == cpos.line) = true := by rfl) (hs1 : starEach [b] X.env = (false, eval b X.env) :: starEach [] X.env := by rfl) (hpl : (backTo cpos (starEach [] X.env)).any (·.1) = false := by rfl) :
    PE X (.Call (.Attribute a "index" apos) [b] [] cpos) (qP X.K c (opL indexD fa fb)) :=
  pe_imp (pe_bm PySem.F.plainAttrs_list PySem.F.slot_list_index PySem.F.type_list_index (mt_indexD hu) ha (pa_cons hb pa_nil hs1) hbase hfew hline hs1 hpl) fun σ H Q h => t_bm1 (fun x y d e H h1 h2 => by
    cases h1 with
    | @lst p vs ds hs hd =>
      by_cases hz : (SeqAt.shaped e && SeqAt.shaped (.list ds) && decide (ds.findIdx (fun z => PyData.eqv z e) < ds.length)) = true
      · have hz' := hz
        simp only [Bool.and_eq_true, decide_eq_true_eq] at hz'
        obtain ⟨⟨s1, s2⟩, hlt⟩ := hz'
        refine .inl ⟨_, _, if_pos hz, fun _ => .int _, fun Q q => ⟨p, y, e, ds, ds.findIdx (fun z => PyData.eqv z e), ds[ds.findIdx (fun z => PyData.eqv z e)], rfl, rfl, dp_of (.lst hs hd) (SeqAt.canLay_of_shaped s2), dp_of h2 (SeqAt.canLay_of_shaped s1), s2, s1, List.getElem?_eq_getElem hlt, List.findIdx_getElem (p := fun z => PyData.eqv z e), fun m z' hm hz' => ?_, q⟩⟩
        have h3 := List.not_of_lt_findIdx hm
        obtain ⟨hml, hme⟩ := List.getElem?_eq_some_iff.mp hz'
        rw [hme] at h3
        simpa using h3
      · exact .inr (if_neg hz)
    | _ => exact .inr rfl) h
/-! ### enumerate(x) -/
def enD (n : Nat) : List PyData → List PyData
  | [] => []
  | x :: xs => .tuple [.int n, x] :: enD (n + 1) xs
theorem enD_get : ∀ {xs : List PyData} {n i : Nat} {d : PyData}, (enD n xs)[i]? = some d → ∃ x, xs[i]? = some x ∧ d = .tuple [.int ((n + i : Nat) : Int), x]
  | [], _, _, _, h => by simp [enD] at h
  | x :: xs, n, 0, d, h => by
    have h : some (PyData.tuple [.int n, x]) = some d := h
    cases h
    exact ⟨x, rfl, rfl⟩
  | x :: xs, n, i + 1, d, h => by
    have h : (enD (n + 1) xs)[i]? = some d := h
    obtain ⟨y, e1, e2⟩ := enD_get h
    exact ⟨y, e1, by rw [e2, Nat.add_assoc, Nat.add_comm 1 i]⟩
theorem enD_len : ∀ {xs : List PyData} {n : Nat}, (enD n xs).length = xs.length
  | [], _ => rfl
  | x :: xs, n => by simp [enD, enD_len]
theorem wk_enum {K : PySem.W.Frag} {F1 : Hp} {a : Addr} {vs : List V} {ds : List PyData} (hs : SqL K F1 a vs) (ha : DqAll K F1 vs ds) : Wk K (Ite K a) F1 (enD 0 ds) where
  go := fun i F H d f1 f2 e => by
    obtain ⟨x, e1, rfl⟩ := enD_get e
    obtain ⟨v, k1, k2⟩ := ha.get e1
    refine ⟨⟨vs, v, (f1.trans f2).seq hs, k1⟩, fun x H' y => ?_⟩
    obtain ⟨T, x1, rfl, nT, rfl, y1⟩ := y
    have z1 := y1 vs ((f1.trans f2).seq hs)
    rw [k1] at z1
    cases z1
    have fT := f2.free nT
    refine ⟨upd F T (.tup [.int (i : Nat), v]), fun _ => .new f2 nT, .tup (.of upd_same) (.cons ?_ (.cons ((k2.mono f1).mono (same_new fT)) .nil))⟩
    rw [Nat.zero_add]
    exact .int _
  stop := fun i F H f1 f2 e => ⟨vs, (f1.trans f2).seq hs, by rw [ha.length, ← enD_len (n := 0)]; exact e⟩
def itE (f : ES) : DS → R (List PyData) := fun ds => f ds >>= fun d => match d with
  | .list xs => .ok (enD 0 xs)
  | _ => .bad
theorem d_itE {p tpos : Pos} {elts : List Expr} {kk : Nat} (h : PE X e (qP X.K c f)) (hm : X.mg "enumerate" = none) (hg : Gl X "enumerate" := by rfl) (hs : starEach [e] X.env = [(false, eval e X.env)] := by rfl) :
    PI X (.Tuple elts kk tpos) (.Call (.Name "enumerate" p) [e] [] pos) (qI X.K c (itE f)) := pi_imp (pi_enum hg hm (pa_cons h pa_nil hs) hs) fun σ H Rr ⟨ds, F, s, w⟩ => ⟨ds, F, s, wP_bindI w fun d v F1 H1 g1 q1 w1 => by
  cases d with
  | list xs =>
    cases q1 with
    | lst hs ha => exact ⟨_, _, rfl, g1.fh.seq hs, w1 _ F1 H1 (.refl g1.fh) (wk_enum hs ha)⟩
  | _ => exact w1.elim⟩
/-- an item of a list of one's own lasts; so do the items of its slices -/
def ixO (i : Nat) (fb : ES) : ES := fun ds => match ds[i]? with
  | some (.ow (.list xs)) => fb ds >>= fun k => ixD (.list xs) k
  | _ => .bad
theorem d_ixO (i : Nat) {x : Str} {p1 : Pos} (hb : PE X b (qT X.K c fb)) (hN : X.N[i]? = some x := by rfl) (hv : Vis X.env.scope x := by first | exact Or.inl rfl | exact Or.inr (Or.inl rfl) | exact Or.inr (Or.inr rfl)) (hd : (x == ("__debug__" : Str)) = false := by decide) (hcd : (x == ("__classdict__" : Str)) = false := by decide)
    (hs : PlainIx b := by exact fun _ _ => rfl) : PE X (.Subscript (.Name x p1) b pos) (qP X.K c (ixO i fb)) := by
  refine pe_imp (pe_ix ix_seq (pe_var hN hv hd hcd) hb hs) fun σ H Q h => ?_
  obtain ⟨ds, F, s, w⟩ := h
  unfold ixO at w
  split at w
  · rename_i xs hi
    obtain ⟨p, e1, e2, e3, vs, e4, e5⟩ := s.sl i _ hi
    refine ⟨.ref p, e1, ds, F, s, wT_bind w fun d2 v2 F2 H2 g2 q2 w2 => ?_⟩
    cases q2 with
    | int j =>
      cases hz : ixD (.list xs) (.int j) with
      | bad => rw [hz] at w2; exact w2.elim
      | err x => exact absurd hz (ixD_noerr _ _ _)
      | ok z =>
        rw [hz] at w2
        unfold ixD atR at hz
        cases q : L2.atI xs j with
        | none => simp only [q] at hz; cases hz
        | some y =>
          simp only [q] at hz
          cases hz
          obtain ⟨u, k1, k2⟩ := e5.atI q
          exact .inl ⟨_, vs, j, u, rfl, rfl, .inl (.inl (g2.hh.keep _ _ e4 rfl)), k1, w2 u F2 H2 (.refl g2.fh) (k2.mono g2.ff)⟩
    | _ => exact w2.elim
  · exact w.elim
def slO (i : Nat) (lo hi : DS → R (Option Int)) : ES := fun ds => match ds[i]? with
  | some (.ow (.list xs)) => lo ds >>= fun l => hi ds >>= fun h => .ok (.list (cutL xs l h))
  | _ => .bad
theorem d_slO (i : Nat) {x : Str} {p1 : Pos} {lo hi : Option Expr} {fl fh : DS → R (Option Int)} {p2 : Pos} (hl : PO X lo (qO X.K c fl)) (hh : PO X hi (qO X.K c fh)) (hN : X.N[i]? = some x := by rfl) (hv : Vis X.env.scope x := by first | exact Or.inl rfl | exact Or.inr (Or.inl rfl) | exact Or.inr (Or.inr rfl)) (hd : (x == ("__debug__" : Str)) = false := by decide) (hcd : (x == ("__classdict__" : Str)) = false := by decide) :
    PE X (.Subscript (.Name x p1) (.Slice lo hi none p2) pos) (qN X.K c (slO i fl fh)) := by
  refine pe_imp (pe_slice sl_list (pe_var hN hv hd hcd) hl hh) fun σ H Q h => ?_
  obtain ⟨ds, F, s, w⟩ := h
  unfold slO at w
  split at w
  · rename_i xs hi
    obtain ⟨p, e1, e2, e3, vs, e4, e5⟩ := s.sl i _ hi
    refine ⟨.ref p, e1, ds, F, s, ?_⟩
    cases hfl : fl ds with
    | bad => rw [hfl] at w; exact w
    | err x => rw [hfl] at w; exact w
    | ok l =>
      rw [hfl, R.ok_bind] at w
      intro F2 H2 g2
      refine ⟨ds, F2, s.grow g2, ?_⟩
      cases hfh : fh ds with
      | bad => rw [hfh] at w; exact w
      | err x => rw [hfh] at w; exact w
      | ok u =>
        rw [hfh, R.ok_bind] at w
        intro F3 H3 g3
        have g23 := g2.trans g3
        exact ⟨_, _, rfl, .inl (.inl (g23.hh.keep _ _ e4 rfl)), fun q hq => w q F3 _ (g23.trans (.own g3.fh hq)) (g23.hh.free hq) (g3.fh.free hq) ⟨_, upd_same, (cut_dq e5 l u).mono g23.ff⟩⟩
  · exact w.elim
theorem d_dnin (hu : X.A.units + 1 < cLine) (ha : PE X a (qT X.K c fa)) (hb : PE X b (qT X.K c fb)) (hm : behindInMarks .NotIn b = false := by rfl) : PE X (.Compare a [.NotIn] [b] pos) (qP X.K c (op2 dninD fa fb)) := pe_imp (pe_cmp (pc_dnotin hu ha hb) hm) fun _ _ _ h => t_dnin h
end
end Cb
namespace Cb
open PySem PySem.Spec PyProof.Rows L2
theorem hu65 {k : Nat} {A : Around} (r : Room k A) : A.units + 65 < cLine := by have := r.un; omega
/-! ### set(xs), xs a list -/
abbrev set0 (w : World) : Obj := { cls := .type "set", dict := none, data := .set #[] 0 (.fresh 0 0 (!w.params.followText "set-order")) }
section
variable {P : Program} {w : World} {A : Around} {E : Value → Shared → Prop} {u : Shared}
/-- what the filling of the new set must do -/
def Fills (P : Program) (w : World) (S : Addr) (xs : Array Value) (Z : Heap → Prop) : Prop :=
  ∀ (A1 : Around) (I : Addr) (fp wr : List Addr) (G : Array GenState → Array GenState → Prop) (St : Nat → Shared → Prop) (R : Result → Shared → Prop), WalksS P w A1.in1 I fp wr G xs.size (fun i v => xs[i]? = some v) St → S ∉ fp →
    ∀ s1 : Shared, St 0 s1 → s1.heap.get? S = some (set0 w) → (∀ s', Moved (S :: wr) G s1 s' → Z s'.heap → R (.ok (.ret .none)) s') → codeAny (model P w) A1 (.builtin "set.update.loop" ⟨[.ref S, .ref I], []⟩) R s1
theorem set_gen {l : Addr} {xs : Array Value} {Q : Value → Shared → Prop} {Z : Heap → Prop} (hh : A.handled = none) (hl : u.heap.IsList l xs) (fill : Fills P w u.heap.objs.size xs Z)
    (q : ∀ (h1 : Heap) (tk : Nat), Z h1 → (∀ b o, u.heap.get? b = some o → h1.get? b = some o) → Q (.ref u.heap.objs.size) { u with heap := h1, toks := tk }) : wpAny (model P w) A (call (.type "set") [.ref l]) Q E u := by
  obtain ⟨cM, tM, hM⟩ := PySem.F.called_set.mro
  have f1 := PySem.F.called_set.made; have f2 := PySem.F.called_set.sub; have f3 := PySem.F.called_set.notType
  have f4 := PySem.F.called_set.canCreate; have f5 := PySem.F.typeCall_set_1 (.ref l)
  refine wpAny_call (codeAny_of_tree (show wpAny _ _ (callAny (.type "set") _) _ _ _ from wpAny_pure ⟨Code.quiet_builtin _ (by decide +kernel), codeAny_builtin PySem.F.entry_type_call ?_⟩))
  rw [Around.under_plain (weight_type_call_type "set" [Value.ref l] []) rfl]
  repeat (any_goals (first | assumption | wp_step))
  refine codeAny_mono (code_set_led1 (Value.ref l) (E := E) (Q₁ := fun ob s1 => ob = .ref u.heap.objs.size ∧ s1 = { u with heap := u.heap.push (set0 w) }) ⟨rfl, rfl⟩) fun r1 s1 hr1 => ?_
  match r1, hr1 with
  | .error _, z => exact z
  | .ok .next, z => exact z.elim
  | .ok .brk, z => exact z.elim
  | .ok .cont, z => exact z.elim
  | .ok (.ret ob), z =>
    obtain ⟨rfl, rfl⟩ := z
    have gS : (u.heap.push (set0 w)).get? u.heap.objs.size = some (set0 w) := Heap.get?_push_size _ rfl
    have tS : Shared.TypeIs { u with heap := u.heap.push (set0 w) } (.ref u.heap.objs.size) "set" := ⟨_, gS, rfl⟩
    have f6 := PySem.F.called_set.init.lookup; have f7 := PySem.F.called_set.init.bind (.ref u.heap.objs.size)
    repeat (any_goals (first | assumption | wp_step))
    refine codeAny_mono (codeAny_call_builtin (R := wants (fun r s2 => r = .none ∧ ∃ h1 tk, s2 = { u with heap := h1, toks := tk } ∧ Z h1 ∧ ∀ b o, u.heap.get? b = some o → h1.get? b = some o) E) PySem.F.called_set.init.plain PySem.F.entry_set_init (check_set_init_1 tS ?_)) fun r2 s2 hr2 => ?_
    · obtain ⟨⟨oc, od, oD, osl⟩, hol, hoc, nl, hod⟩ := hl
      simp only at hoc hod
      subst hoc hod
      have hol1 : (u.heap.push (set0 w)).get? l = some { cls := .type "list", dict := od, data := .seq xs nl, slots := osl } := Heap.get?_push_of_some _ hol
      have g1 := PySem.F.sub_list_set; have g2 := PySem.F.sub_list_frozenset
      have g3 : (Value.type "list" == Value.type "dict") = false := by decide
      have isL : (u.heap.push (set0 w)).IsList l xs := ⟨_, hol1, rfl, nl, rfl⟩
      unfold Builtin.«set.__init__» noKeywords Builtin.Frozenset.updateFrom
      generalize ePI : pyIter = PI
      wp_walk
      subst ePI
      refine wpAny_pyIter_list isL (wpAny_bind (wpAny_runValue ?_))
      have ltl : l < u.heap.objs.size := Heap.lt_size hol
      have h3 : A.in1.in1.in1.handled = none := by simp [hh]
      have sz : (u.heap.push (set0 w)).objs.size = u.heap.objs.size + 1 := Heap.size_push ..
      have neI : l ≠ (u.heap.push (set0 w)).objs.size := by rw [sz]; exact Nat.ne_of_lt (Nat.lt_succ_of_lt ltl)
      have nf : u.heap.objs.size ∉ [(u.heap.push (set0 w)).objs.size, l] := by
        simp only [List.mem_cons, List.not_mem_nil, or_false, not_or, sz]
        exact ⟨Nat.ne_of_lt (Nat.lt_succ_self _), Nat.ne_of_gt ltl⟩
      refine fill _ _ _ _ _ _ _ ((Walks.list h3 _ l neI xs).toS) nf _ ⟨⟨_, Heap.get?_push_size _ rfl, rfl, rfl⟩, isL.push _⟩ (Heap.get?_push_of_some _ gS) fun s3 hm hZ => ?_
      obtain ⟨h1, gg, dr, tk, os⟩ := s3
      have e1 : gg = u.gens := hm.gens
      have e2 : dr = u.drawn := hm.drawn
      have e3 : os = u.os := hm.os
      subst e1; subst e2; subst e3
      show wpAny _ _ _ _ _ _
      refine wpAny_pure (show wpAny _ _ (ret Value.none) _ _ _ from wpAny_pure ⟨rfl, h1, tk, rfl, hZ, fun b o e => ?_⟩)
      have lb : b < u.heap.objs.size := Heap.lt_size e
      refine hm.heap b o ?_ (Heap.get?_push_of_some _ (Heap.get?_push_of_some _ e))
      simp only [List.mem_cons, List.not_mem_nil, or_false, not_or, sz]
      exact ⟨Nat.ne_of_lt lb, Nat.ne_of_lt (Nat.lt_succ_of_lt lb)⟩
    · match r2, hr2 with
      | .error _, z => exact z
      | .ok .next, z => exact z.elim
      | .ok .brk, z => exact z.elim
      | .ok .cont, z => exact z.elim
      | .ok (.ret r), z =>
        obtain ⟨rfl, h1, tk, rfl, hZ, hk⟩ := z
        repeat (any_goals (first | assumption | wp_step))
        exact q _ _ hZ hk
/-! ints -/
theorem fills_ints {S : Addr} {xs : Array Value} {ns : List Int} (hi : IntsAre xs.toList ns) (hb : ns.length + 1 < scanBound) : Fills P w S xs (fun h => ∃ c, c ≤ ns.length ∧ SetR w h S (fun j => decide (j ∈ ns)) c) := by
  intro A1 I fp wr G St R W hS s1 st hg hR
  have hn : xs.size = ns.length := by
    have z := IntsAre.length hi
    rwa [Array.length_toList] at z
  refine set_update_ints W S hS ns hn hb (fun i v hv => ?_) (xs.size - 0) 0 s1 rfl (Nat.zero_le _) st ⟨0, Nat.le_refl 0, setR_new_at hg⟩ fun s2 c hm hc z => hR s2 hm ⟨c, by omega, z⟩
  have li : i < ns.length := by rw [← hn]; exact (Array.getElem?_eq_some_iff.mp hv).1
  obtain ⟨t, e⟩ := IntsAre.int_at hi i v (by rw [Array.getElem?_toList]; exact hv)
  exact ⟨ns[i], t, List.getElem?_eq_getElem li, by rw [e, List.getD_eq_getElem?_getD, List.getElem?_eq_getElem li] <;> rfl⟩
/-! texts -/
/-- how many of the first i are unlike those ahead of them -/
def ndS (xs : List Str) : Nat → Nat
  | 0 => 0
  | i + 1 => if (xs.take i).any (· == xs.getD i Str.empty) = true then ndS xs i else ndS xs i + 1
theorem ndS_le (xs : List Str) : ∀ i, ndS xs i ≤ i
  | 0 => Nat.le_refl 0
  | i + 1 => by
    have := ndS_le xs i
    unfold ndS
    split <;> omega
theorem fills_strs {S : Addr} {xs : Array Value} {ts : List Str} (hi : StrsAre xs.toList ts) (hb : ts.length + 1 < scanBound) : Fills P w S xs (fun h => h.SetOf (PySem.strKind P w) S (fun k => ts.any (· == k)) (ndS ts ts.length)) := by
  intro A1 I fp wr G St R W hS s1 st hg hR
  have hn : ts.length = xs.size := by rw [← StrsAre.len_eq hi, Array.length_toList]
  have nw : S ∉ wr := fun z => hS (W.sub _ z)
  have sb : ∀ b ∈ wr, b ∈ S :: wr := fun b z => List.mem_cons_of_mem _ z
  have main : ∀ (k i : Nat) (s2 : Shared), xs.size - i = k → i ≤ xs.size → St i s2 → s2.heap.SetOf (PySem.strKind P w) S (fun k => (ts.take i).any (· == k)) (ndS ts i) →
      (∀ s3, Moved (S :: wr) G s2 s3 → s3.heap.SetOf (PySem.strKind P w) S (fun k => ts.any (· == k)) (ndS ts ts.length) → R (.ok (.ret .none)) s3) → codeAny (model P w) A1 (.builtin "set.update.loop" ⟨[.ref S, .ref I], []⟩) R s2 := by
    intro k
    induction k with
    | zero =>
      intro i s2 hk hle hst hset hfin
      have ei : i = xs.size := Nat.le_antisymm hle (Nat.le_of_sub_eq_zero hk)
      refine codeAny_builtin PyProof.Rows.F.entry_set_update_loop (by
        rw [Around.under_plainId PyProof.Rows.F.plain_set_update_loop _]
        refine show wpAny _ A1.in1 (pyNext (.ref I) >>= _) _ _ s2 from wpAny_bind (W.done s2 _ _ (by rw [← ei]; exact hst) fun s3 hm => show wpAny _ A1.in1 (ret Value.none) _ _ s3 from wpAny_pure (hfin s3 (hm.mono sb) ?_))
        obtain ⟨o, es, ep, tb, ho, rest⟩ := hset
        refine SetOf_congr ⟨o, es, ep, tb, hm.heap S _ nw ho, rest⟩ (fun k' => ?_) ?_
        · rw [ei, ← hn, List.take_length]
        · rw [ei, ← hn])
    | succ k ih =>
      intro i s2 hk hle hst hset hfin
      have li : i < xs.size := by omega
      refine codeAny_builtin PyProof.Rows.F.entry_set_update_loop (by
        rw [Around.under_plainId PyProof.Rows.F.plain_set_update_loop _]
        refine show wpAny _ A1.in1 (pyNext (.ref I) >>= _) _ _ s2 from wpAny_bind (W.item i s2 _ _ li hst fun v s3 hv hst3 hm => ?_)
        obtain ⟨tk, rfl⟩ := SS.strs_at hi i v (by rw [Array.getElem?_toList]; exact hv)
        have hs3 : s3.heap.SetOf (PySem.strKind P w) S (fun k => (ts.take i).any (· == k)) (ndS ts i) := by
          obtain ⟨o, es, ep, tb, ho, rest⟩ := hset
          exact ⟨o, es, ep, tb, hm.heap S _ nw ho, rest⟩
        refine show wpAny _ A1.in1 (holding [Value.str (ts.getD i Str.empty) tk] (setAdd S (.str (ts.getD i Str.empty) tk)) >>= _) _ _ s3 from wpAny_bind (wpAny_holding ?_)
        unfold setAdd
        have lei := ndS_le ts i
        refine wpAny_holding (wpAny_bind ((PySem.strKind P w).pyHash (k := ts.getD i Str.empty) (strKind_is _ _ _ _) (wpAny_setAddHashed_of (knd := PySem.strKind P w) (s := { s3 with toks := s3.toks + 1 }) (strKind_is _ _ _ _) rfl hs3 (by omega) fun h1 same hs4 => ?_)))
        have lt' : i < ts.length := by omega
        have hs5 : h1.SetOf (PySem.strKind P w) S (fun k => (ts.take (i + 1)).any (· == k)) (ndS ts (i + 1)) := by
          refine SetOf_congr hs4 (fun k' => ?_) (by rw [ndS])
          rw [List.take_add_one, List.any_append, List.getD_eq_getElem?_getD, List.getElem?_eq_getElem lt']
          simp only [Option.getD_some, Option.toList_some, List.any_cons, List.any_nil, Bool.or_false]
          congr 1
          by_cases e : k' = ts[i]
          · rw [decide_eq_true e, e, beq_self_eq_true]
          · rw [decide_eq_false e]
            exact (beq_eq_false_iff_ne.mpr (fun z => e z.symm)).symm
        refine wpAny_pure ⟨plainId_quiet PyProof.Rows.F.plain_set_update_loop _, ih (i + 1) _ (by omega) li (W.frame _ s3 _ _ hst3 (Nat.le_succ _) fun b hb o e => ?_) hs5 fun s4 hm4 hz => hfin s4 (Moved.trans W.gtrans ((hm.mono sb).then_heap (Nat.le_succ _) fun b o hb e => ?_) hm4) hz⟩
        · exact (same.2 b (fun z => hS (by rw [← z]; exact hb))).trans e
        · exact (same.2 b (fun z => hb (by rw [z]; exact List.mem_cons_self))).trans e)
  refine main (xs.size - 0) 0 s1 rfl (Nat.zero_le _) st ?_ hR
  exact SetOf_congr ((setObjOf_fresh (knd := PySem.strKind P w) (!w.params.followText "set-order")).setOf hg (by unfold scanBound; omega)) (fun _ => rfl) rfl
end
/-! ### sorted(set(xs)) of ints, len(set(xs)) of texts -/
def insU (x : Int) : List Int → List Int
  | [] => [x]
  | y :: r => if x < y then x :: y :: r else if x = y then y :: r else y :: insU x r
def setI : List Int → List Int
  | [] => []
  | n :: r => insU n (setI r)
theorem insU_mem {x k : Int} : ∀ {l : List Int}, k ∈ insU x l ↔ k = x ∨ k ∈ l
  | [] => by simp [insU]
  | y :: r => by
    unfold insU
    split
    · simp
    · split
      · rename_i e
        subst e
        simp
      · rw [List.mem_cons, insU_mem (l := r), List.mem_cons]
        constructor
        · rintro (h | h | h)
          · exact .inr (.inl h)
          · exact .inl h
          · exact .inr (.inr h)
        · rintro (h | h | h)
          · exact .inr (.inl h)
          · exact .inl h
          · exact .inr (.inr h)
theorem insU_up {x : Int} : ∀ {l : List Int}, l.Pairwise (· < ·) → (insU x l).Pairwise (· < ·)
  | [], _ => by simp [insU]
  | y :: r, h => by
    rw [List.pairwise_cons] at h
    unfold insU
    split
    · rename_i hx
      rw [List.pairwise_cons, List.pairwise_cons]
      refine ⟨fun k hk => ?_, h.1, h.2⟩
      rcases List.mem_cons.mp hk with rfl | hk
      · exact hx
      · have := h.1 k hk
        omega
    · split
      · rw [List.pairwise_cons]
        exact h
      · rw [List.pairwise_cons]
        refine ⟨fun k hk => ?_, insU_up h.2⟩
        rcases insU_mem.mp hk with rfl | hk
        · omega
        · exact h.1 k hk
theorem setI_up : ∀ ns : List Int, (setI ns).Pairwise (· < ·)
  | [] => .nil
  | n :: r => insU_up (setI_up r)
theorem setI_mem {k : Int} : ∀ {ns : List Int}, k ∈ setI ns ↔ k ∈ ns
  | [] => Iff.rfl
  | n :: r => by rw [setI, insU_mem, setI_mem (ns := r), List.mem_cons]
theorem up_unique : ∀ {a b : List Int}, a.Pairwise (· < ·) → b.Pairwise (· < ·) → (∀ k, k ∈ a ↔ k ∈ b) → a = b
  | [], [], _, _, _ => rfl
  | [], y :: r, _, _, h => absurd ((h y).mpr List.mem_cons_self) (by simp)
  | x :: r, [], _, _, h => absurd ((h x).mp List.mem_cons_self) (by simp)
  | x :: r, y :: q, ha, hb, h => by
    rw [List.pairwise_cons] at ha hb
    have e : x = y := by
      have h1 := (h x).mp List.mem_cons_self
      have h2 := (h y).mpr List.mem_cons_self
      rcases List.mem_cons.mp h1 with e | h1
      · exact e
      · rcases List.mem_cons.mp h2 with e | h2
        · exact e.symm
        · have a1 := ha.1 y h2
          have a2 := hb.1 x h1
          omega
    subst e
    rw [up_unique ha.2 hb.2 fun k => ⟨fun hk => ?_, fun hk => ?_⟩]
    · have := ha.1 k hk
      rcases List.mem_cons.mp ((h k).mp (List.mem_cons_of_mem _ hk)) with e | z
      · omega
      · exact z
    · have := hb.1 k hk
      rcases List.mem_cons.mp ((h k).mpr (List.mem_cons_of_mem _ hk)) with e | z
      · omega
      · exact z
section
variable {X : Cx} {e a b : Expr} {c : Bk} {f fa fb : ES} {pos : Pos}
def rSetI (K : PySem.W.Frag) (w : World) : List V → Hp → VK → Prop := fun vs H Q => ∃ (a : Addr) (ns : List Int), vs = [V.ref a] ∧ SqL K H a (ns.map V.int) ∧ ns.length ≤ 1000 ∧ ∀ p n, H p = none → n ≤ ns.length → Q (.ref p) (upd H p (SetO w p (fun j => decide (j ∈ ns)) n))
theorem cr_setI (hc : X.calm = true) : CallR X (.type "set") (rSetI X.K X.w) := by
  intro pins s σ H vs us Q I r h
  obtain ⟨a, ns, rfl, hs, hl, q⟩ := h
  rw [Vals.ref1 r]
  obtain ⟨its, rv, pl, _⟩ := I.list hs
  have hi : IntsAre its.toArray.toList ns := ints_of_vals rv
  refine set_gen (I.ok.hd hc) pl.isList (fills_ints hi (by unfold scanBound; omega)) fun h1 tk ⟨n, hn, z⟩ hk => ?_
  exact ⟨.ref _, upd H s.heap.objs.size (SetO X.w s.heap.objs.size (fun j => decide (j ∈ ns)) n), I.laid (t' := tk) hk (Nat.le_refl _) (setO_new z), rfl, q _ _ (I.hok.fresh (Nat.le_refl _)) hn⟩
def sortSetD : PyData → R PyData
  | .list xs => match intsO xs with
    | some ns => if ns.length < 64 then .ok (.list ((setI ns).map .int)) else .bad
    | none => .bad
  | _ => .bad
theorem d_sortSet {p p2 pos2 : Pos} (hc : X.calm = true) (ha : PE X a (qT X.K c f)) (hm : X.mg "sorted" = none) (hm2 : X.mg "set" = none) (hg : Gl X "sorted" := by rfl) (hg2 : Gl X "set" := by rfl)
    (hs : starEach [a] X.env = (false, eval a X.env) :: starEach [] X.env := by rfl) (hpl : (backTo pos2 (starEach [] X.env)).any (·.1) = false := by rfl)
    (hs2 : starEach [.Call (.Name "set" p2) [a] [] pos2] X.env = (false, eval (.Call (.Name "set" p2) [a] [] pos2) X.env) :: starEach [] X.env := by rfl) (hpl2 : (backTo pos (starEach [] X.env)).any (·.1) = false := by rfl) :
    PE X (.Call (.Name "sorted" p) [.Call (.Name "set" p2) [a] [] pos2] [] pos) (qN X.K c (op1 sortSetD f)) := by
  refine pe_imp (pe_callB (cr_sortedSet hc) hg hm (by decide +kernel) (pa_cons (pe_callTy (cr_setI hc) hg2 hm2 (by decide +kernel) (pa_cons ha pa_nil hs) (by decide) (by decide) hs hpl) pa_nil hs2) (by decide) (by decide) hs2 hpl2) fun σ H Q h => ?_
  obtain ⟨ds, F, s, w⟩ := h
  refine ⟨ds, F, s, ?_⟩
  unfold op1 at w
  cases hf : f ds with
  | bad => rw [hf] at w; exact w
  | err x => rw [hf] at w; exact w
  | ok d =>
    rw [hf, R.ok_bind] at w
    intro v F1 H1 g1 q1
    cases q1 with
    | @lst pa vs xs hs ha =>
      cases hn : intsO xs with
      | none => simp only [sortSetD, hn] at w; exact w.elim
      | some ns =>
        by_cases h64 : ns.length < 64
        · simp only [sortSetD, hn, if_pos h64] at w
          have ev := ints_of ha hn
          subst ev
          refine ⟨pa, ns, rfl, hs, by omega, fun p1 n hp1 hn1 => ?_⟩
          refine ⟨p1, _, n, rfl, upd_same, by omega, fun ms p3 hup hmem hlen hp3 => ?_⟩
          have em : ms = setI ns := up_unique hup (setI_up ns) fun k => by rw [hmem k, setI_mem, decide_eq_true_eq]
          subst em
          have G1 : Grow c.T F1 H1 F1 (upd H1 p1 (SetO X.w p1 (fun j => decide (j ∈ ns)) n)) := .own g1.fh hp1
          exact w p3 F1 _ ((g1.trans G1).trans (.own G1.fh hp3)) ((g1.trans G1).hh.free hp3) (G1.fh.free hp3) ⟨_, upd_same, dq_ints _⟩
        · simp only [sortSetD, hn, if_neg h64] at w
          exact w.elim
    | _ => exact w.elim
def strsO : List PyData → Option (List Str)
  | [] => some []
  | .str i :: r => (strsO r).map (i :: ·)
  | _ => none
theorem strs_of {K : PySem.W.Frag} {H : Hp} : ∀ {vs : List V} {ds : List PyData} {ns : List Str}, DqAll K H vs ds → strsO ds = some ns → vs = ns.map V.str
  | _, _, _, .nil, e => by
    cases e
    rfl
  | _, .str i :: r, ns, .cons h t, e => by
    unfold strsO at e
    cases h
    obtain ⟨m, e1, e2⟩ := Option.map_eq_some_iff.mp e
    subst e2
    rw [strs_of t e1]
    rfl
  | _, .none :: _, _, .cons _ _, e => by simp [strsO] at e
  | _, .bool _ :: _, _, .cons _ _, e => by simp [strsO] at e
  | _, .int _ :: _, _, .cons _ _, e => by simp [strsO] at e
  | _, .list _ :: _, _, .cons _ _, e => by simp [strsO] at e
  | _, .tuple _ :: _, _, .cons _ _, e => by simp [strsO] at e
  | _, .dict _ :: _, _, .cons _ _, e => by simp [strsO] at e
def tLenSetS (K : PySem.W.Frag) (ta : TE) : TE := fun σ H Q => ta σ H fun x H1 => ∃ l, ∃ ts : List Str, x = .ref l ∧ SqL K H1 l (ts.map V.str) ∧ ts.length ≤ 1000 ∧ Q (.int (ndS ts ts.length : Nat)) H1
theorem pe_lenSetS {ta : TE} {p p2 q pos : Pos} (hc : X.calm = true) (hg : Gl X "len") (hm : X.mg "len" = none) (hg2 : Gl X "set") (hm2 : X.mg "set" = none) (ha : PE X a ta)
    (na : starEach [a] X.env = (false, eval a X.env) :: starEach [] X.env := by rfl) : PE X (.Call (.Name "len" p) [.Call (.Name "set" p2) [a] [] q] [] pos) (tLenSetS X.K ta) := by
  refine ⟨fun pins s σ H Q I h => Call_ (ld_blt I hg hm boot_len (callWith_builtin1 (args_cons (Call_ (ld_blt I hg2 hm2 boot_set (callWith_type1 (args_cons (thn (ha.run pins s σ H _ I h) fun v s1 ⟨x, H1, I1, r1, q1⟩ => args_nil ?_) na) na rfl))) rfl) rfl rfl))⟩
  obtain ⟨l, ts, rfl, hs, hl, q1⟩ := q1
  cases r1
  obtain ⟨its, rv, pl, _⟩ := I1.list hs
  refine set_gen (I1.ok.hd hc) pl.isList (fills_strs (ts := ts) (by simpa using strsAre_of rv) (by unfold scanBound; omega)) fun h1 tk hS hk => args_nil ?_
  obtain ⟨o, es, ep, t, ho, hex, hd, _, _, _, hf, hn⟩ := hS
  have I2 : Inv X pins σ H1 { s1 with heap := h1, toks := tk } := I1.kept hk
  have le := ndS_le ts ts.length
  exact call_len_set ho hex hd hf (by rw [hn] <;> omega) ⟨.int (ndS ts ts.length : Nat), H1, I2.tok _, ⟨_, by rw [hn]⟩, q1⟩
def lenSetD : PyData → R PyData
  | .list xs => match strsO xs with
    | some ts => if ts.length ≤ 1000 then .ok (.int (ndS ts ts.length : Nat)) else .bad
    | none => .bad
  | _ => .bad
theorem d_lenSet {p p2 q : Pos} (hc : X.calm = true) (ha : PE X a (qT X.K c f)) (hm : X.mg "len" = none) (hm2 : X.mg "set" = none) (hg : Gl X "len" := by rfl) (hg2 : Gl X "set" := by rfl) (na : starEach [a] X.env = (false, eval a X.env) :: starEach [] X.env := by rfl) :
    PE X (.Call (.Name "len" p) [.Call (.Name "set" p2) [a] [] q] [] pos) (qP X.K c (op1 lenSetD f)) := by
  refine pe_imp (pe_lenSetS hc hg hm hg2 hm2 ha na) fun σ H Q h => ?_
  obtain ⟨ds, F, s, w⟩ := h
  refine ⟨ds, F, s, ?_⟩
  unfold op1 at w
  cases hf : f ds with
  | bad => rw [hf] at w; exact w
  | err x => rw [hf] at w; exact w
  | ok d =>
    rw [hf, R.ok_bind] at w
    intro v F1 H1 g1 q1
    cases q1 with
    | @lst pa vs xs hs ha =>
      cases hn : strsO xs with
      | none => simp only [lenSetD, hn] at w; exact w.elim
      | some ts =>
        by_cases hz : ts.length ≤ 1000
        · simp only [lenSetD, hn, if_pos hz] at w
          have ev := strs_of ha hn
          subst ev
          exact ⟨pa, ts, rfl, hs, hz, w _ F1 H1 g1 (.int _)⟩
        · simp only [lenSetD, hn, if_neg hz] at w
          exact w.elim
    | _ => exact w.elim
end
end Cb
namespace Cb
open PySem PySem.Spec PyProof.Rows L2
def g_is_number_1 : DS → Out := (retS (andV (isiS "int" (vP 0)) (andV (notV (isiS "bool" (vP 0))) (chI leI leI (vP 1) (vP 0) (vP 2)))))
def g_is_number : DS → Out := g_is_number_1
def V_is_number : List PyData → R PyData := bodyS 3 [false, false, false] g_is_number
def g_is_name_1 : DS → Out := (retS (andV (isiS "str" (vP 0)) (andV (chI leI leI (cS (.int 1)) (op1 lenD (vP 0)) (cS (.int 6))) (op1 allD (lcS (itS (vP 0)) [1] (.nm 1) yesB (op2 insD (vP 1) (cS (.str "abcdefghijklmnopqrstuvwxyz"))))))))
def g_is_name : DS → Out := g_is_name_1
def V_is_name : List PyData → R PyData := bodyS 2 [false] g_is_name
def g_is_kind_1t_1 : DS → Out := (retS (cS (.bool false)))
def g_is_kind_1 : DS → Out := (ifS (orB (notB (bS (isiS "tuple" (vP 0)))) (orB (bS (op2 neD (op1 lenD (vP 0)) (cS (.int 3)))) (notB (bS (callS (consA (op2 ixD (vP 0) (cS (.int 0))) nilA) V_is_name []))))) g_is_kind_1t_1 nxS)
def g_is_kind_2 : DS → Out := (retS (andV (callS (consA (op2 ixD (vP 0) (cS (.int 1))) (consA (cS (.int 1)) (consA (cS (.int 9)) nilA))) V_is_number []) (callS (consA (op2 ixD (vP 0) (cS (.int 2))) (consA (cS (.int 1)) (consA (cS (.int 4)) nilA))) V_is_number [])))
def g_is_kind : DS → Out := (seqS g_is_kind_1 g_is_kind_2)
def V_is_kind : List PyData → R PyData := bodyS 1 [false] g_is_kind
def g_are_kinds_1t_1 : DS → Out := (retS (cS (.bool false)))
def g_are_kinds_1 : DS → Out := (ifS (orB (notB (bS (isiS "tuple" (vP 0)))) (orB (notB (bS (chI leI leI (cS (.int 1)) (op1 lenD (vP 0)) (cS (.int 4))))) (notB (bS (op1 allD (lcS (itT (vP 0)) [1] (.nm 1) yesB (callS (consA (vP 1) nilA) V_is_kind []))))))) g_are_kinds_1t_1 nxS)
def g_are_kinds_2 : DS → Out := (retS (op2 eqD (op1 lenSetD (lcS (itT (vP 0)) [1] (.nm 1) yesB (op2 ixD (vP 1) (cS (.int 0))))) (op1 lenD (vP 0))))
def g_are_kinds : DS → Out := (seqS g_are_kinds_1 g_are_kinds_2)
def V_are_kinds : List PyData → R PyData := bodyS 2 [false] g_are_kinds
def g_is_row_1t_1 : DS → Out := (retS (cS (.bool false)))
def g_is_row_1 : DS → Out := (ifS (orB (notB (bS (isiS "tuple" (vP 0)))) (bS (op2 neD (op1 lenD (vP 0)) (cS (.int 2))))) g_is_row_1t_1 nxS)
def g_is_row_2 : DS → Out := (retS (andV (callS (consA (op2 ixD (vP 0) (cS (.int 0))) (consA (cS (.int 0)) (consA (op2 subI (cS (.int 100)) (cS (.int 1))) nilA))) V_is_number []) (callS (consA (op2 ixD (vP 0) (cS (.int 1))) (consA (cS (.int 1)) (consA (cS (.int 99)) nilA))) V_is_number [])))
def g_is_row : DS → Out := (seqS g_is_row_1 g_is_row_2)
def V_is_row : List PyData → R PyData := bodyS 1 [false] g_is_row
def g_are_rows_1t_1 : DS → Out := (retS (cS (.bool false)))
def g_are_rows_1 : DS → Out := (ifS (orB (notB (bS (isiS "list" (vP 0)))) (orB (bS (op2 gtI (op1 lenD (vP 0)) (cS (.int 12)))) (notB (bS (op1 allD (lcS (itL (vP 0)) [1] (.nm 1) yesB (callS (consA (vP 1) nilA) V_is_row []))))))) g_are_rows_1t_1 nxS)
def g_are_rows_2 : DS → Out := (retS (op1 allD (lcS (itZ (vP 0) (slL (vP 0) (someO (cS (.int 1))) noO)) [2, 3] (.pr 2 3) yesB (op2 ltI (op2 ixD (vP 2) (cS (.int 0))) (op2 ixD (vP 3) (cS (.int 0)))))))
def g_are_rows : DS → Out := (seqS g_are_rows_1 g_are_rows_2)
def V_are_rows : List PyData → R PyData := bodyS 4 [false] g_are_rows
def g__law_pick_1 : DS → Out := (setS 3 (ifE (bS (op2 neD (vP 0) (lstS nilA))) (op2 ixD (vP 0) (op2 modI (vP 1) (op1 lenD (vP 0)))) (cS (.int 0))))
def g__law_pick_2 : DS → Out := (parPP 4 5 (op2 divI (vP 3) (op2 powI (cS (.int 10)) (cS (.int 18)))) (op2 divI (vP 1) (op2 maxI (op1 lenD (vP 0)) (cS (.int 1)))))
def g__law_pick_3b_1 : DS → Out := (parPP 4 5 (op2 divI (vP 4) (cS (.int 840))) (op2 subI (vP 5) (cS (.int 1))))
def g__law_pick_3B : DS → Out := g__law_pick_3b_1
def g__law_pick_3 : DS → Out := (whGo (andB (bS (op2 gtI (vP 4) (cS (.int 0)))) (bS (op2 gtI (vP 5) (cS (.int 0))))) g__law_pick_3B 100000)
def g__law_pick_4t_1 : DS → Out := (retS (op2 modI (op2 modI (vP 4) (cS (.int 840))) (vP 2)))
def g__law_pick_4 : DS → Out := (ifS (bS (op2 gtI (vP 4) (cS (.int 0)))) g__law_pick_4t_1 nxS)
def g__law_pick_5 : DS → Out := (setS 6 (op2 modI (op2 mulI (op2 addI (op2 mulI (vP 3) (cS (.int 31))) (op2 mulI (cS (.int 6151)) (op2 addI (vP 1) (cS (.int 1))))) (cS (.int 40692))) (cS (.int 2147483399))))
def g__law_pick_6 : DS → Out := (retS (op2 modI (op2 modI (op2 addI (op2 mulI (vP 6) (vP 6)) (op2 divI (vP 6) (cS (.int 31)))) (cS (.int 2147483629))) (vP 2)))
def g__law_pick : DS → Out := (seqS g__law_pick_1 (seqS g__law_pick_2 (seqS g__law_pick_3 (seqS g__law_pick_4 (seqS g__law_pick_5 g__law_pick_6)))))
def V__law_pick : List PyData → R PyData := bodyS 7 [false, false, false] g__law_pick
def g__law_names_1 : DS → Out := (parPN 3 4 (cS (.str "abcdefghijklmnopqrstuvwxyz")) (lstS nilA))
def g__law_names_2b_1 : DS → Out := (setS 6 (cS (.str "")))
def g__law_names_2b_2b_1 : DS → Out := (setS 6 (op2 addT (vP 6) (op2 ixD (vP 3) (callS (consA (vP 0) (consA (op2 addI (op2 addI (op2 addI (vP 1) (op2 mulI (cS (.int 7)) (vP 5))) (vP 7)) (cS (.int 1))) (consA (cS (.int 26)) nilA))) V__law_pick []))))
def g__law_names_2b_2B : DS → Out := g__law_names_2b_2b_1
def g__law_names_2b_2 : DS → Out := (forS (itR1 (op2 ixD (lstS (consA (cS (.int 0)) (consA (cS (.int 0)) (consA (cS (.int 1)) (consA (cS (.int 2)) (consA (cS (.int 5)) nilA)))))) (callS (consA (vP 0) (consA (op2 addI (vP 1) (op2 mulI (cS (.int 7)) (vP 5))) (consA (cS (.int 5)) nilA))) V__law_pick []))) (.nm 7) g__law_names_2b_2B)
def g__law_names_2b_3 : DS → Out := (setS 8 (op2 ixD (vP 3) (op2 modI (op2 addI (callS (consA (vP 0) (consA (op2 addI (vP 1) (cS (.int 60))) (consA (cS (.int 26)) nilA))) V__law_pick []) (vP 5)) (cS (.int 26)))))
def g__law_names_2b_4 : DS → Out := (appS 4 (ifE (bS (op2 eqD (callS (consA (vP 0) (consA (op2 addI (vP 1) (cS (.int 61))) (consA (cS (.int 2)) nilA))) V__law_pick []) (cS (.int 0)))) (op2 addT (vP 6) (vP 8)) (op2 addT (vP 8) (vP 6))))
def g__law_names_2B : DS → Out := (seqS g__law_names_2b_1 (seqS g__law_names_2b_2 (seqS g__law_names_2b_3 g__law_names_2b_4)))
def g__law_names_2 : DS → Out := (forS (itR1 (vP 2)) (.nm 5) g__law_names_2B)
def g__law_names_3 : DS → Out := (retS (vP 4))
def g__law_names : DS → Out := (seqS g__law_names_1 (seqS g__law_names_2 (frzS 4 g__law_names_3)))
def V__law_names : List PyData → R PyData := bodyS 9 [false, false, false] g__law_names
def g__law_kinds_1 : DS → Out := (setS 2 (callS (consA (vP 0) (consA (vP 1) (consA (cS (.int 3)) nilA))) V__law_names []))
def g__law_kinds_2 : DS → Out := (setN 3 (lstS nilA))
def g__law_kinds_3b_1 : DS → Out := (appS 3 (tupS (consA (op2 ixD (vP 2) (vP 4)) (consA (op2 ixD (lstS (consA (cS (.int 1)) (consA (cS (.int 2)) (consA (cS (.int 3)) (consA (cS (.int 9)) nilA))))) (callS (consA (vP 0) (consA (op2 addI (op2 addI (vP 1) (cS (.int 71))) (vP 4)) (consA (cS (.int 4)) nilA))) V__law_pick [])) (consA (op2 addI (cS (.int 1)) (callS (consA (vP 0) (consA (op2 addI (op2 addI (vP 1) (cS (.int 75))) (vP 4)) (consA (cS (.int 4)) nilA))) V__law_pick [])) nilA)))))
def g__law_kinds_3B : DS → Out := g__law_kinds_3b_1
def g__law_kinds_3 : DS → Out := (forS (itR1 (op2 addI (cS (.int 1)) (callS (consA (vP 0) (consA (op2 addI (vP 1) (cS (.int 70))) (consA (cS (.int 3)) nilA))) V__law_pick []))) (.nm 4) g__law_kinds_3B)
def g__law_kinds_4 : DS → Out := (retS (op1 tupD (vP 3)))
def g__law_kinds : DS → Out := (seqS g__law_kinds_1 (seqS g__law_kinds_2 (seqS g__law_kinds_3 (frzS 3 g__law_kinds_4))))
def V__law_kinds : List PyData → R PyData := bodyS 5 [false, false] g__law_kinds
def g__law_rows_1 : DS → Out := (parNP 3 4 (lstS nilA) (callS (consA (vP 0) (consA (vP 1) (consA (cS (.int 4)) nilA))) V__law_pick []))
def g__law_rows_2b_1 : DS → Out := (appS 3 (tupS (consA (vP 4) (consA (op2 addI (cS (.int 1)) (callS (consA (vP 0) (consA (op2 addI (op2 addI (vP 1) (cS (.int 2))) (vP 5)) (consA (vP 2) nilA))) V__law_pick [])) nilA))))
def g__law_rows_2b_2 : DS → Out := (setS 4 (op2 addI (vP 4) (op2 ixD (lstS (consA (cS (.int 1)) (consA (cS (.int 1)) (consA (cS (.int 1)) (consA (cS (.int 2)) (consA (cS (.int 3)) (consA (cS (.int 6)) nilA))))))) (callS (consA (vP 0) (consA (op2 addI (op2 addI (vP 1) (cS (.int 10))) (vP 5)) (consA (cS (.int 6)) nilA))) V__law_pick []))))
def g__law_rows_2B : DS → Out := (seqS g__law_rows_2b_1 g__law_rows_2b_2)
def g__law_rows_2 : DS → Out := (forS (itR1 (callS (consA (vP 0) (consA (op2 addI (vP 1) (cS (.int 1))) (consA (cS (.int 8)) nilA))) V__law_pick [])) (.nm 5) g__law_rows_2B)
def g__law_rows_3 : DS → Out := (retS (vP 3))
def g__law_rows : DS → Out := (seqS g__law_rows_1 (seqS g__law_rows_2 (frzS 3 g__law_rows_3)))
def V__law_rows : List PyData → R PyData := bodyS 6 [false, false, false] g__law_rows
def g__law_bad_kinds_1 : DS → Out := (unpS (.tr 1 2 3) (op2 ixD (vP 0) (cS (.int 0))))
def g__law_bad_kinds_2 : DS → Out := (setS 4 (slT (vP 0) (someO (cS (.int 1))) noO))
def g__law_bad_kinds_3 : DS → Out := (setN 5 (lstS (consA (tupS nilA) (consA (op1 listD (vP 0)) (consA (cS .none) (consA (vP 1) (consA (cS (.int 3)) (consA (op2 ixD (vP 0) (cS (.int 0))) (consA (op2 catT (vP 0) (tupS (consA (op2 ixD (vP 0) (cS (.int 0))) nilA))) (consA (op2 repT (tupS (consA (tupS (consA (vP 1) (consA (vP 2) (consA (vP 3) nilA)))) nilA)) (cS (.int 2))) (consA (op2 catT (vP 0) (tupS (consA (cS .none) nilA))) nilA)))))))))))
def g__law_bad_kinds_4 : DS → Out := (extS 5 (lcS (itL (lstS (consA (cS (.str "")) (consA (cS (.str "A")) (consA (cS (.str "abcdefg")) (consA (cS .none) (consA (cS (.int 3)) (consA (lstS (consA (cS (.str "a")) nilA)) (consA (tupS (consA (cS (.str "a")) nilA)) (consA (cS (.str "a1")) (consA (cS (.str "a b")) nilA))))))))))) [6] (.nm 6) yesB (op2 catT (tupS (consA (tupS (consA (vP 6) (consA (vP 2) (consA (vP 3) nilA)))) nilA)) (vP 4))))
def g__law_bad_kinds_5 : DS → Out := (extS 5 (lcS (itL (lstS (consA (cS (.int 0)) (consA (cS (.int 10)) (consA (op1 negD (cS (.int 1))) (consA (cS (.bool true)) (consA (cS (.str "1")) (consA (cS .none) (consA (lstS (consA (cS (.int 1)) nilA)) nilA))))))))) [6] (.nm 6) yesB (op2 catT (tupS (consA (tupS (consA (vP 1) (consA (vP 6) (consA (vP 3) nilA)))) nilA)) (vP 4))))
def g__law_bad_kinds_6 : DS → Out := (extS 5 (lcS (itL (lstS (consA (cS (.int 0)) (consA (cS (.int 5)) (consA (op1 negD (cS (.int 1))) (consA (cS (.bool true)) (consA (cS (.str "1")) (consA (cS .none) (consA (tupS (consA (cS (.int 1)) nilA)) nilA))))))))) [6] (.nm 6) yesB (op2 catT (tupS (consA (tupS (consA (vP 1) (consA (vP 2) (consA (vP 6) nilA)))) nilA)) (vP 4))))
def g__law_bad_kinds_7 : DS → Out := (extS 5 (lstS (consA (op2 catT (tupS (consA (tupS (consA (vP 1) (consA (vP 2) nilA))) nilA)) (vP 4)) (consA (op2 catT (tupS (consA (tupS (consA (vP 1) (consA (vP 2) (consA (vP 3) (consA (cS (.int 1)) nilA))))) nilA)) (vP 4)) (consA (op2 catT (tupS (consA (lstS (consA (vP 1) (consA (vP 2) (consA (vP 3) nilA)))) nilA)) (vP 4)) nilA)))))
def g__law_bad_kinds_8 : DS → Out := (retS (op2 catD (vP 5) (lstS (consA (op1 tupD (lcS (itR1 (cS (.int 5))) [7] (.nm 7) yesB (tupS (consA (op2 ixD (cS (.str "abcdef")) (vP 7)) (consA (cS (.int 1)) (consA (cS (.int 1)) nilA)))))) nilA))))
def g__law_bad_kinds : DS → Out := (seqS g__law_bad_kinds_1 (seqS g__law_bad_kinds_2 (seqS g__law_bad_kinds_3 (seqS g__law_bad_kinds_4 (seqS g__law_bad_kinds_5 (seqS g__law_bad_kinds_6 (seqS g__law_bad_kinds_7 (frzS 5 g__law_bad_kinds_8))))))))
def V__law_bad_kinds : List PyData → R PyData := bodyS 8 [false] g__law_bad_kinds
def g__law_bad_rows_1 : DS → Out := (setN 1 (lstS (consA (op1 tupD (vP 0)) (consA (cS .none) (consA (cS (.str "")) (consA (cS (.int 3)) (consA (tupS (consA (cS (.int 1)) (consA (cS (.int 2)) nilA))) (consA (op2 catD (vP 0) (lstS (consA (tupS (consA (cS (.int 99)) (consA (cS (.int 1)) nilA))) (consA (tupS (consA (cS (.int 99)) (consA (cS (.int 1)) nilA))) nilA)))) (consA (lcS (itR1 (cS (.int 13))) [2] (.nm 2) yesB (tupS (consA (vP 2) (consA (cS (.int 1)) nilA)))) nilA)))))))))
def g__law_bad_rows_2 : DS → Out := (extS 1 (lcS (itL (lstS (consA (op1 negD (cS (.int 1))) (consA (cS (.int 100)) (consA (cS (.bool true)) (consA (cS .none) (consA (cS (.str "5")) (consA (lstS (consA (cS (.int 5)) nilA)) nilA)))))))) [3] (.nm 3) yesB (op2 catD (slL (vP 0) noO (someO (cS (.int 1)))) (lstS (consA (tupS (consA (vP 3) (consA (cS (.int 1)) nilA))) nilA)))))
def g__law_bad_rows_3 : DS → Out := (extS 1 (lcS (itL (lstS (consA (cS (.int 0)) (consA (cS (.int 100)) (consA (op1 negD (cS (.int 1))) (consA (cS (.bool true)) (consA (cS .none) (consA (cS (.str "5")) (consA (lstS (consA (cS (.int 5)) nilA)) nilA))))))))) [3] (.nm 3) yesB (lstS (consA (tupS (consA (cS (.int 99)) (consA (vP 3) nilA))) nilA))))
def g__law_bad_rows_4 : DS → Out := (retS (op2 catD (vP 1) (lstS (consA (lstS (consA (tupS (consA (cS (.int 5)) (consA (cS (.int 1)) nilA))) (consA (tupS (consA (cS (.int 4)) (consA (cS (.int 1)) nilA))) nilA))) (consA (lstS (consA (lstS (consA (cS (.int 5)) (consA (cS (.int 1)) nilA))) nilA)) (consA (lstS (consA (tupS (consA (cS (.int 5)) nilA)) nilA)) (consA (lstS (consA (tupS (consA (cS (.int 5)) (consA (cS (.int 1)) (consA (cS (.int 1)) nilA)))) nilA)) (consA (lstS (consA (cS .none) nilA)) nilA))))))))
def g__law_bad_rows : DS → Out := (seqS g__law_bad_rows_1 (seqS g__law_bad_rows_2 (seqS g__law_bad_rows_3 (frzS 1 g__law_bad_rows_4))))
def V__law_bad_rows : List PyData → R PyData := bodyS 4 [false] g__law_bad_rows
def g_law_1 : DS → Out := (parPP 1 2 (callS (consA (vP 0) (consA (cS (.int 0)) nilA)) V__law_kinds []) (callS (consA (vP 0) (consA (cS (.int 100)) (consA (cS (.int 99)) nilA))) V__law_rows []))
def g_law_2b_1t_1 : DS → Out := (retS (cS (.bool false)))
def g_law_2b_1 : DS → Out := (ifS (orB (bS (op2 isntD (callS (consA (vP 3) nilA) V_are_kinds []) (cS (.bool true)))) (bS (op2 isntD (callS (consA (vP 3) nilA) V_are_rows []) (cS (.bool false))))) g_law_2b_1t_1 nxS)
def g_law_2B : DS → Out := g_law_2b_1
def g_law_2 : DS → Out := (forS (itT (tupS (consA (vP 1) (consA (tupS (consA (tupS (consA (cS (.str "a")) (consA (cS (.int 1)) (consA (cS (.int 1)) nilA)))) nilA)) (consA (tupS (consA (tupS (consA (cS (.str "zzzzzz")) (consA (cS (.int 9)) (consA (cS (.int 4)) nilA)))) (consA (tupS (consA (cS (.str "b")) (consA (cS (.int 1)) (consA (cS (.int 4)) nilA)))) (consA (tupS (consA (cS (.str "c")) (consA (cS (.int 9)) (consA (cS (.int 1)) nilA)))) (consA (tupS (consA (cS (.str "d")) (consA (cS (.int 2)) (consA (cS (.int 2)) nilA)))) nilA))))) nilA))))) (.nm 3) g_law_2B)
def g_law_3b_1t_1 : DS → Out := (retS (cS (.bool false)))
def g_law_3b_1 : DS → Out := (ifS (orB (bS (op2 isntD (callS (consA (vP 3) nilA) V_are_rows []) (cS (.bool true)))) (bS (op2 isntD (callS (consA (vP 3) nilA) V_are_kinds []) (cS (.bool false))))) g_law_3b_1t_1 nxS)
def g_law_3B : DS → Out := g_law_3b_1
def g_law_3 : DS → Out := (forS (itT (tupS (consA (vP 2) (consA (lstS nilA) (consA (lstS (consA (tupS (consA (cS (.int 0)) (consA (cS (.int 1)) nilA))) (consA (tupS (consA (cS (.int 99)) (consA (cS (.int 99)) nilA))) nilA))) (consA (lcS (itR1 (cS (.int 12))) [4] (.nm 4) yesB (tupS (consA (vP 4) (consA (cS (.int 9)) nilA)))) nilA)))))) (.nm 3) g_law_3B)
def g_law_4b_1t_1 : DS → Out := (retS (cS (.bool false)))
def g_law_4b_1 : DS → Out := (ifS (bS (op2 isntD (callS (consA (vP 3) nilA) V_are_kinds []) (cS (.bool false)))) g_law_4b_1t_1 nxS)
def g_law_4B : DS → Out := g_law_4b_1
def g_law_4 : DS → Out := (forS (itL (callS (consA (vP 1) nilA) V__law_bad_kinds [])) (.nm 3) g_law_4B)
def g_law_5 : DS → Out := (retS (notV (op1 anyD (lcS (itL (callS (consA (slL (vP 2) noO (someO (cS (.int 1)))) nilA) V__law_bad_rows [])) [3] (.nm 3) yesB (op2 isntD (callS (consA (vP 3) nilA) V_are_rows []) (cS (.bool false)))))))
def g_law : DS → Out := (seqS g_law_1 (seqS g_law_2 (seqS g_law_3 (seqS g_law_4 g_law_5))))
def V_law : List PyData → R PyData := bodyS 5 [false] g_law
end Cb
namespace Cb
open PySem PySem.Spec PyProof.Rows L2
def topS (i : Nat) : Stmt := PySem.Challenge.pw_couponbooks_k01_kinds_and_rows.main.body.getD i (.Pass ⟨0, 0, 0, 0⟩)
abbrev s_is_number : Stmt := topS 9
abbrev s_is_name : Stmt := topS 10
abbrev s_is_kind : Stmt := topS 11
abbrev s_are_kinds : Stmt := topS 12
abbrev s_is_row : Stmt := topS 13
abbrev s_are_rows : Stmt := topS 14
abbrev s__law_pick : Stmt := topS 16
abbrev s__law_names : Stmt := topS 17
abbrev s__law_kinds : Stmt := topS 18
abbrev s__law_rows : Stmt := topS 19
abbrev s__law_bad_kinds : Stmt := topS 20
abbrev s__law_bad_rows : Stmt := topS 21
abbrev s_law : Stmt := topS 22
structure Tx (K : PySem.W.Frag) (mg : Str → Option Value) : Prop where
  f_is_number : ∃ fd, FunD K "is_number" "is_number" (defArgs s_is_number) (defBody s_is_number) (defScope s_is_number) [] [] (He.ga K "is_number") fd
  g_is_number : mg "is_number" = some (.ref (He.ga K "is_number"))
  f_is_name : ∃ fd, FunD K "is_name" "is_name" (defArgs s_is_name) (defBody s_is_name) (defScope s_is_name) [] [] (He.ga K "is_name") fd
  g_is_name : mg "is_name" = some (.ref (He.ga K "is_name"))
  f_is_kind : ∃ fd, FunD K "is_kind" "is_kind" (defArgs s_is_kind) (defBody s_is_kind) (defScope s_is_kind) [] [] (He.ga K "is_kind") fd
  g_is_kind : mg "is_kind" = some (.ref (He.ga K "is_kind"))
  f_are_kinds : ∃ fd, FunD K "are_kinds" "are_kinds" (defArgs s_are_kinds) (defBody s_are_kinds) (defScope s_are_kinds) [] [] (He.ga K "are_kinds") fd
  g_are_kinds : mg "are_kinds" = some (.ref (He.ga K "are_kinds"))
  f_is_row : ∃ fd, FunD K "is_row" "is_row" (defArgs s_is_row) (defBody s_is_row) (defScope s_is_row) [] [] (He.ga K "is_row") fd
  g_is_row : mg "is_row" = some (.ref (He.ga K "is_row"))
  f_are_rows : ∃ fd, FunD K "are_rows" "are_rows" (defArgs s_are_rows) (defBody s_are_rows) (defScope s_are_rows) [] [] (He.ga K "are_rows") fd
  g_are_rows : mg "are_rows" = some (.ref (He.ga K "are_rows"))
  f__law_pick : ∃ fd, FunD K "_law_pick" "_law_pick" (defArgs s__law_pick) (defBody s__law_pick) (defScope s__law_pick) [] [] (He.ga K "_law_pick") fd
  g__law_pick : mg "_law_pick" = some (.ref (He.ga K "_law_pick"))
  f__law_names : ∃ fd, FunD K "_law_names" "_law_names" (defArgs s__law_names) (defBody s__law_names) (defScope s__law_names) [] [] (He.ga K "_law_names") fd
  g__law_names : mg "_law_names" = some (.ref (He.ga K "_law_names"))
  f__law_kinds : ∃ fd, FunD K "_law_kinds" "_law_kinds" (defArgs s__law_kinds) (defBody s__law_kinds) (defScope s__law_kinds) [] [] (He.ga K "_law_kinds") fd
  g__law_kinds : mg "_law_kinds" = some (.ref (He.ga K "_law_kinds"))
  f__law_rows : ∃ fd, FunD K "_law_rows" "_law_rows" (defArgs s__law_rows) (defBody s__law_rows) (defScope s__law_rows) [] [] (He.ga K "_law_rows") fd
  g__law_rows : mg "_law_rows" = some (.ref (He.ga K "_law_rows"))
  f__law_bad_kinds : ∃ fd, FunD K "_law_bad_kinds" "_law_bad_kinds" (defArgs s__law_bad_kinds) (defBody s__law_bad_kinds) (defScope s__law_bad_kinds) [] [] (He.ga K "_law_bad_kinds") fd
  g__law_bad_kinds : mg "_law_bad_kinds" = some (.ref (He.ga K "_law_bad_kinds"))
  f__law_bad_rows : ∃ fd, FunD K "_law_bad_rows" "_law_bad_rows" (defArgs s__law_bad_rows) (defBody s__law_bad_rows) (defScope s__law_bad_rows) [] [] (He.ga K "_law_bad_rows") fd
  g__law_bad_rows : mg "_law_bad_rows" = some (.ref (He.ga K "_law_bad_rows"))
  f_law : ∃ fd, FunD K "law" "law" (defArgs s_law) (defBody s_law) (defScope s_law) [] [] (He.ga K "law") fd
  g_law : mg "law" = some (.ref (He.ga K "law"))
  b_all : mg "all" = none
  b_any : mg "any" = none
  b_bool : mg "bool" = none
  b_int : mg "int" = none
  b_isinstance : mg "isinstance" = none
  b_len : mg "len" = none
  b_list : mg "list" = none
  b_max : mg "max" = none
  b_range : mg "range" = none
  b_set : mg "set" = none
  b_str : mg "str" = none
  b_tuple : mg "tuple" = none
  b_zip : mg "zip" = none
  c_LONGEST_NAME : ∃ t, mg "LONGEST_NAME" = some (.int 6 t)
  c_LONGEST_SPAN : ∃ t, mg "LONGEST_SPAN" = some (.int 4 t)
  c_MOST_A_WEEK : ∃ t, mg "MOST_A_WEEK" = some (.int 9 t)
  c_MOST_IN_ROW : ∃ t, mg "MOST_IN_ROW" = some (.int 99 t)
  c_MOST_KINDS : ∃ t, mg "MOST_KINDS" = some (.int 4 t)
  c_MOST_ROWS : ∃ t, mg "MOST_ROWS" = some (.int 12 t)
  c_SMALL : ∃ t, mg "SMALL" = some (.str "abcdefghijklmnopqrstuvwxyz" t)
  c_WEEKS : ∃ t, mg "WEEKS" = some (.int 100 t)
section
variable {TL : List (Addr × Str)} {P : Program} {w : World} {K : PySem.W.Frag} {mg : Str → Option Value} {base : Heap}
abbrev N_is_number : List Str := ["thing", "least", "most"]
theorem sc_is_number : FnScope N_is_number ["thing", "least", "most"] (defScope s_is_number) := ⟨rfl, rfl, rfl, by decide +kernel, rfl, by decide +kernel, by decide +kernel⟩
theorem ok_is_number (T : Tx K mg) {fd : FuncData} (F : FunD K "is_number" "is_number" (defArgs s_is_number) (defBody s_is_number) (defScope s_is_number) [] [] (He.ga K "is_number") fd) : FnOk P w K mg base (L2.CX P w) 1 (He.ga K "is_number") fd ["thing", "least", "most"] (spS TL K (He.ga K) [false, false, false] V_is_number) := by
  refine fn_mk F sc_is_number rfl (by decide) fun cdv A outer s H E F0 hr => ?_
  have hu := hu_of hr
  exact (d_one (d_ret (d_andV (d_pt (d_isi (T := "int") (d_pt (d_v 0)) (by decide +kernel) T.b_isinstance T.b_int)) (d_andV (d_pt (d_notV (d_pt (d_isi (T := "bool") (d_pt (d_v 0)) (by decide +kernel) T.b_isinstance T.b_bool)))) (d_andV1 (d_ch op_le od_le op_le od_le (d_pt (d_v 1)) (d_pt (d_v 0)) (d_pt (d_v 2))))))))
abbrev N_is_name : List Str := ["thing", "sign"]
theorem sc_is_name : FnScope N_is_name ["thing"] (defScope s_is_name) := ⟨rfl, rfl, rfl, by decide +kernel, rfl, by decide +kernel, by decide +kernel⟩
theorem ok_is_name (T : Tx K mg) {fd : FuncData} (F : FunD K "is_name" "is_name" (defArgs s_is_name) (defBody s_is_name) (defScope s_is_name) [] [] (He.ga K "is_name") fd) : FnOk P w K mg base (L2.CX P w) 1 (He.ga K "is_name") fd ["thing"] (spS TL K (He.ga K) [false] V_is_name) := by
  obtain ⟨_, c_SMALL⟩ := T.c_SMALL
  obtain ⟨_, c_LONGEST_NAME⟩ := T.c_LONGEST_NAME
  refine fn_mk F sc_is_name rfl (by decide) fun cdv A outer s H E F0 hr => ?_
  have hu := hu_of hr
  exact (d_one (d_ret (d_andV (d_pt (d_isi (T := "str") (d_pt (d_v 0)) (by decide +kernel) T.b_isinstance T.b_str)) (d_andV (d_pt (d_ch op_le od_le op_le od_le (d_pt d_int) (d_pt (d_len (d_pt (d_v 0)) T.b_len)) (d_pt (d_gi c_LONGEST_NAME)))) (d_andV1 (d_all rfl (d_nt (d_lc rfl sc_is_name.nd (d_j (d_itS (d_v 0))) (blkOk_by (own := [("sign", 1)]) (N := N_is_name) (sc := defScope s_is_name) (by decide +kernel)) (fun _ _ _ _ _ => (d_g1 sc_is_name.nd)) (fun _ _ _ _ _ => d_pts0) (fun _ _ _ _ _ => (d_cmp op_in_sign od_ins (d_pt (d_v 1)) (d_pt (d_gs c_SMALL)))) List.mem_cons_self)) T.b_all))))))
abbrev N_is_kind : List Str := ["thing"]
theorem sc_is_kind : FnScope N_is_kind ["thing"] (defScope s_is_kind) := ⟨rfl, rfl, rfl, by decide +kernel, rfl, by decide +kernel, by decide +kernel⟩
theorem ok_is_kind (T : Tx K mg) {fd : FuncData} (F : FunD K "is_kind" "is_kind" (defArgs s_is_kind) (defBody s_is_kind) (defScope s_is_kind) [] [] (He.ga K "is_kind") fd) : FnOk P w K mg base (L2.CX P w) 2 (He.ga K "is_kind") fd ["thing"] (spS TL K (He.ga K) [false] V_is_kind) := by
  obtain ⟨fd_is_name, F_is_name⟩ := T.f_is_name
  have G_is_name := ok_is_name (P := P) (w := w) (base := base) (TL := TL) T F_is_name
  have b_is_name := F_is_name.bindsN (ps := ["thing"]) fun _ _ _ _ _ _ us hl => match us, hl with | [_], _ => rfl
  obtain ⟨fd_is_number, F_is_number⟩ := T.f_is_number
  have G_is_number := ok_is_number (P := P) (w := w) (base := base) (TL := TL) T F_is_number
  have b_is_number := F_is_number.bindsN (ps := ["thing", "least", "most"]) fun _ _ _ _ _ _ us hl => match us, hl with | [_, _, _], _ => rfl
  obtain ⟨_, c_LONGEST_SPAN⟩ := T.c_LONGEST_SPAN
  obtain ⟨_, c_MOST_A_WEEK⟩ := T.c_MOST_A_WEEK
  refine fn_mk F sc_is_kind rfl (by decide) fun cdv A outer s H E F0 hr => ?_
  have hu := hu_of hr
  exact (d_cons (d_if (PW.pt (d_or (d_not (d_valB (d_pt (d_isi (T := "tuple") (d_pt (d_v 0)) (by decide +kernel) T.b_isinstance T.b_tuple)))) (d_or (d_cmpB (op_neD hr.units) od_ne (d_pt (d_len (d_pt (d_v 0)) T.b_len)) (d_pt d_int)) (d_or1 (d_not (d_valB (d_pt (d_cl G_is_name (hr.mono (by decide)) T.g_is_name F_is_name.kp b_is_name (passes_call (takes_of rfl rfl rfl rfl) fun _ _ _ _ h => h) (d_aP (d_ixP (d_v 0) (d_pt d_int)) d_a0))))))))) (d_one (d_ret d_bl)) d_nil) (d_one (d_ret (d_andV (d_pt (d_cl G_is_number (hr.mono (by decide)) T.g_is_number F_is_number.kp b_is_number (passes_call (takes_of rfl rfl rfl rfl) fun _ _ _ _ h => h) (d_aP (d_ixP (d_v 0) (d_pt d_int)) (d_aP d_int (d_aP (d_gi c_MOST_A_WEEK) d_a0))))) (d_andV1 (d_cl G_is_number (hr.mono (by decide)) T.g_is_number F_is_number.kp b_is_number (passes_call (takes_of rfl rfl rfl rfl) fun _ _ _ _ h => h) (d_aP (d_ixP (d_v 0) (d_pt d_int)) (d_aP d_int (d_aP (d_gi c_LONGEST_SPAN) d_a0)))))))))
abbrev N_are_kinds : List Str := ["thing", "kind"]
theorem sc_are_kinds : FnScope N_are_kinds ["thing"] (defScope s_are_kinds) := ⟨rfl, rfl, rfl, by decide +kernel, rfl, by decide +kernel, by decide +kernel⟩
theorem ok_are_kinds (T : Tx K mg) {fd : FuncData} (F : FunD K "are_kinds" "are_kinds" (defArgs s_are_kinds) (defBody s_are_kinds) (defScope s_are_kinds) [] [] (He.ga K "are_kinds") fd) : FnOk P w K mg base (L2.CX P w) 3 (He.ga K "are_kinds") fd ["thing"] (spS TL K (He.ga K) [false] V_are_kinds) := by
  obtain ⟨fd_is_kind, F_is_kind⟩ := T.f_is_kind
  have G_is_kind := ok_is_kind (P := P) (w := w) (base := base) (TL := TL) T F_is_kind
  have b_is_kind := F_is_kind.bindsN (ps := ["thing"]) fun _ _ _ _ _ _ us hl => match us, hl with | [_], _ => rfl
  obtain ⟨_, c_MOST_KINDS⟩ := T.c_MOST_KINDS
  refine fn_mk F sc_are_kinds rfl (by decide) fun cdv A outer s H E F0 hr => ?_
  have hu := hu_of hr
  exact (d_cons (d_if (PW.pt (d_or (d_not (d_valB (d_pt (d_isi (T := "tuple") (d_pt (d_v 0)) (by decide +kernel) T.b_isinstance T.b_tuple)))) (d_or (d_not (d_chB op_le od_le op_le od_le (d_pt d_int) (d_pt (d_len (d_pt (d_v 0)) T.b_len)) (d_pt (d_gi c_MOST_KINDS)))) (d_or1 (d_not (d_valB (d_pt (d_all rfl (d_nt (d_lc rfl sc_are_kinds.nd (d_j (d_itT (d_v 0))) (blkOk_by (own := [("kind", 1)]) (N := N_are_kinds) (sc := defScope s_are_kinds) (by decide +kernel)) (fun _ _ _ _ _ => (d_g1 sc_are_kinds.nd)) (fun _ _ _ _ _ => d_pts0) (fun _ _ _ _ _ => (d_cl G_is_kind (hr.mono (by decide)) T.g_is_kind F_is_kind.kp b_is_kind passL (d_aP (d_v 1) d_a0))) List.mem_cons_self)) T.b_all)))))))) (d_one (d_ret d_bl)) d_nil) (d_one (d_ret (d_cmp (op_eqD hr.units) od_eq (d_pt (d_lenSet rfl (d_nt (d_lc rfl sc_are_kinds.nd (d_j (d_itT (d_v 0))) (blkOk_by (own := [("kind", 1)]) (N := N_are_kinds) (sc := defScope s_are_kinds) (by decide +kernel)) (fun _ _ _ _ _ => (d_g1 sc_are_kinds.nd)) (fun _ _ _ _ _ => d_pts0) (fun _ _ _ _ _ => (d_ixP (d_v 1) (d_pt d_int))) List.mem_cons_self)) T.b_len T.b_set)) (d_pt (d_len (d_pt (d_v 0)) T.b_len))))))
abbrev N_is_row : List Str := ["thing"]
theorem sc_is_row : FnScope N_is_row ["thing"] (defScope s_is_row) := ⟨rfl, rfl, rfl, by decide +kernel, rfl, by decide +kernel, by decide +kernel⟩
theorem ok_is_row (T : Tx K mg) {fd : FuncData} (F : FunD K "is_row" "is_row" (defArgs s_is_row) (defBody s_is_row) (defScope s_is_row) [] [] (He.ga K "is_row") fd) : FnOk P w K mg base (L2.CX P w) 2 (He.ga K "is_row") fd ["thing"] (spS TL K (He.ga K) [false] V_is_row) := by
  obtain ⟨fd_is_number, F_is_number⟩ := T.f_is_number
  have G_is_number := ok_is_number (P := P) (w := w) (base := base) (TL := TL) T F_is_number
  have b_is_number := F_is_number.bindsN (ps := ["thing", "least", "most"]) fun _ _ _ _ _ _ us hl => match us, hl with | [_, _, _], _ => rfl
  obtain ⟨_, c_MOST_IN_ROW⟩ := T.c_MOST_IN_ROW
  obtain ⟨_, c_WEEKS⟩ := T.c_WEEKS
  refine fn_mk F sc_is_row rfl (by decide) fun cdv A outer s H E F0 hr => ?_
  have hu := hu_of hr
  exact (d_cons (d_if (PW.pt (d_or (d_not (d_valB (d_pt (d_isi (T := "tuple") (d_pt (d_v 0)) (by decide +kernel) T.b_isinstance T.b_tuple)))) (d_or1 (d_cmpB (op_neD hr.units) od_ne (d_pt (d_len (d_pt (d_v 0)) T.b_len)) (d_pt d_int))))) (d_one (d_ret d_bl)) d_nil) (d_one (d_ret (d_andV (d_pt (d_cl G_is_number (hr.mono (by decide)) T.g_is_number F_is_number.kp b_is_number (passes_call (takes_of rfl rfl rfl rfl) fun _ _ _ _ h => h) (d_aP (d_ixP (d_v 0) (d_pt d_int)) (d_aP d_int (d_aP (d_sub (d_pt (d_gi c_WEEKS)) (d_pt d_int)) d_a0))))) (d_andV1 (d_cl G_is_number (hr.mono (by decide)) T.g_is_number F_is_number.kp b_is_number (passes_call (takes_of rfl rfl rfl rfl) fun _ _ _ _ h => h) (d_aP (d_ixP (d_v 0) (d_pt d_int)) (d_aP d_int (d_aP (d_gi c_MOST_IN_ROW) d_a0)))))))))
abbrev N_are_rows : List Str := ["thing", "row", "one", "other"]
theorem sc_are_rows : FnScope N_are_rows ["thing"] (defScope s_are_rows) := ⟨rfl, rfl, rfl, by decide +kernel, rfl, by decide +kernel, by decide +kernel⟩
theorem ok_are_rows (T : Tx K mg) {fd : FuncData} (F : FunD K "are_rows" "are_rows" (defArgs s_are_rows) (defBody s_are_rows) (defScope s_are_rows) [] [] (He.ga K "are_rows") fd) : FnOk P w K mg base (L2.CX P w) 3 (He.ga K "are_rows") fd ["thing"] (spS TL K (He.ga K) [false] V_are_rows) := by
  obtain ⟨fd_is_row, F_is_row⟩ := T.f_is_row
  have G_is_row := ok_is_row (P := P) (w := w) (base := base) (TL := TL) T F_is_row
  have b_is_row := F_is_row.bindsN (ps := ["thing"]) fun _ _ _ _ _ _ us hl => match us, hl with | [_], _ => rfl
  obtain ⟨_, c_MOST_ROWS⟩ := T.c_MOST_ROWS
  refine fn_mk F sc_are_rows rfl (by decide) fun cdv A outer s H E F0 hr => ?_
  have hu := hu_of hr
  exact (d_cons (d_if (PW.pt (d_or (d_not (d_valB (d_pt (d_isi (T := "list") (d_pt (d_v 0)) (by decide +kernel) T.b_isinstance T.b_list)))) (d_or (d_cmpB op_gt od_gt (d_pt (d_len (d_pt (d_v 0)) T.b_len)) (d_pt (d_gi c_MOST_ROWS))) (d_or1 (d_not (d_valB (d_pt (d_all rfl (d_nt (d_lc rfl sc_are_rows.nd (d_j (d_itL (d_v 0))) (blkOk_by (own := [("row", 1)]) (N := N_are_rows) (sc := defScope s_are_rows) (by decide +kernel)) (fun _ _ _ _ _ => (d_g1 sc_are_rows.nd)) (fun _ _ _ _ _ => d_pts0) (fun _ _ _ _ _ => (d_cl G_is_row (hr.mono (by decide)) T.g_is_row F_is_row.kp b_is_row passL (d_aP (d_v 1) d_a0))) List.mem_cons_self)) T.b_all)))))))) (d_one (d_ret d_bl)) d_nil) (d_one (d_ret (d_all rfl (d_nt (d_lc rfl sc_are_rows.nd (d_j (d_itZ (d_v 0) (d_np (d_slL (d_v 0) (d_o1 (d_pt d_int)) d_o0)) T.b_zip)) (blkOk_by (own := [("one", 2), ("other", 3)]) (N := N_are_rows) (sc := defScope s_are_rows) (by decide +kernel)) (fun _ _ _ _ _ => (pg_tup rfl (pgs_cons (pg_name (i := 2) sc_are_rows.nd rfl (by first | exact Or.inl rfl | exact Or.inr rfl)) (pgs_cons (pg_name (i := 3) sc_are_rows.nd rfl (by first | exact Or.inl rfl | exact Or.inr rfl)) pgs_nil)))) (fun _ _ _ _ _ => d_pts0) (fun _ _ _ _ _ => (d_cmp op_lt od_lt (d_pt (d_ixP (d_v 2) (d_pt d_int))) (d_pt (d_ixP (d_v 3) (d_pt d_int))))) ⟨by decide, by decide⟩)) T.b_all))))
abbrev N__law_pick : List Str := ["script", "k", "many", "cell", "rest", "turn", "drawn"]
theorem sc__law_pick : FnScope N__law_pick ["script", "k", "many"] (defScope s__law_pick) := ⟨rfl, rfl, rfl, by decide +kernel, rfl, by decide +kernel, by decide +kernel⟩
theorem ok__law_pick (T : Tx K mg) {fd : FuncData} (F : FunD K "_law_pick" "_law_pick" (defArgs s__law_pick) (defBody s__law_pick) (defScope s__law_pick) [] [] (He.ga K "_law_pick") fd) : FnOk P w K mg base (L2.CX P w) 1 (He.ga K "_law_pick") fd ["script", "k", "many"] (spS TL K (He.ga K) [false, false, false] V__law_pick) := by
  refine fn_mk F sc__law_pick rfl (by decide) fun cdv A outer s H E F0 hr => ?_
  have hu := hu_of hr
  exact (d_cons (d_set 3 sc__law_pick.nd (d_ifE (d_cmpB (op_neD hr.units) od_ne (d_pt (d_v 0)) (d_nt (d_lst d_a0))) (d_ixP (d_v 0) (d_pt (d_mod (d_pt (d_v 1)) (d_pt (d_len (d_pt (d_v 0)) T.b_len))))) d_int)) (d_cons (d_parPP 4 5 rfl sc__law_pick.nd (d_div (d_pt (d_v 3)) (d_pt (d_pow (d_pt d_int) (d_pt d_int)))) (d_div (d_pt (d_v 1)) (d_pt (d_max2 rfl (d_pt (d_len (d_pt (d_v 0)) T.b_len)) (d_pt d_int) T.b_max)))) (d_cons (d_wh 100000 (passes_of rfl) (PW.pt (d_and (d_cmpB op_gt od_gt (d_pt (d_v 4)) (d_pt d_int)) (d_and1 (d_cmpB op_gt od_gt (d_pt (d_v 5)) (d_pt d_int))))) (d_one (d_parPP 4 5 rfl sc__law_pick.nd (d_div (d_pt (d_v 4)) (d_pt d_int)) (d_sub (d_pt (d_v 5)) (d_pt d_int))))) (d_cons (d_if (d_cmpB op_gt od_gt (d_pt (d_v 4)) (d_pt d_int)) (d_one (d_ret (d_mod (d_pt (d_mod (d_pt (d_v 4)) (d_pt d_int))) (d_pt (d_v 2))))) d_nil) (d_cons (d_set 6 sc__law_pick.nd (d_mod (d_pt (d_mul (d_pt (d_add (d_pt (d_mul (d_pt (d_v 3)) (d_pt d_int))) (d_pt (d_mul (d_pt d_int) (d_pt (d_add (d_pt (d_v 1)) (d_pt d_int))))))) (d_pt d_int))) (d_pt d_int))) (d_one (d_ret (d_mod (d_pt (d_mod (d_pt (d_add (d_pt (d_mul (d_pt (d_v 6)) (d_pt (d_v 6)))) (d_pt (d_div (d_pt (d_v 6)) (d_pt d_int))))) (d_pt d_int))) (d_pt (d_v 2))))))))))
abbrev N__law_names : List Str := ["script", "at", "many", "letters", "made", "k", "rest", "j", "mark"]
theorem sc__law_names : FnScope N__law_names ["script", "at", "many"] (defScope s__law_names) := ⟨rfl, rfl, rfl, by decide +kernel, rfl, by decide +kernel, by decide +kernel⟩
theorem ok__law_names (T : Tx K mg) {fd : FuncData} (F : FunD K "_law_names" "_law_names" (defArgs s__law_names) (defBody s__law_names) (defScope s__law_names) [] [] (He.ga K "_law_names") fd) : FnOk P w K mg base (L2.CX P w) 2 (He.ga K "_law_names") fd ["script", "at", "many"] (spS TL K (He.ga K) [false, false, false] V__law_names) := by
  obtain ⟨fd__law_pick, F__law_pick⟩ := T.f__law_pick
  have G__law_pick := ok__law_pick (P := P) (w := w) (base := base) (TL := TL) T F__law_pick
  have b__law_pick := F__law_pick.bindsN (ps := ["script", "k", "many"]) fun _ _ _ _ _ _ us hl => match us, hl with | [_, _, _], _ => rfl
  refine fn_mk F sc__law_names rfl (by decide) fun cdv A outer s H E F0 hr => ?_
  have hu := hu_of hr
  exact (d_cons (d_parPN 3 4 rfl sc__law_names.nd d_str (d_lst d_a0)) (d_cons (d_for (passes_of rfl) rfl (d_itR1 (d_v 2) T.b_range) (d_g1 sc__law_names.nd) (d_cons (d_set 6 sc__law_names.nd d_str) (d_cons (d_for (passes_of rfl) rfl (d_itR1 (d_ixP (d_np (d_lst (d_aP d_int (d_aP d_int (d_aP d_int (d_aP d_int (d_aP d_int d_a0))))))) (d_pt (d_cl G__law_pick (hr.mono (by decide)) T.g__law_pick F__law_pick.kp b__law_pick (passes_call (takes_of rfl rfl rfl rfl) fun _ _ _ _ h => h) (d_aP (d_v 0) (d_aP (d_add (d_pt (d_v 1)) (d_pt (d_mul (d_pt d_int) (d_pt (d_v 5))))) (d_aP d_int d_a0)))))) T.b_range) (d_g1 sc__law_names.nd) (d_one (d_set 6 sc__law_names.nd (d_addT (d_pt (d_v 6)) (d_pt (d_ixP (d_v 3) (d_pt (d_cl G__law_pick (hr.mono (by decide)) T.g__law_pick F__law_pick.kp b__law_pick (passes_call (takes_of rfl rfl rfl rfl) fun _ _ _ _ h => h) (d_aP (d_v 0) (d_aP (d_add (d_pt (d_add (d_pt (d_add (d_pt (d_v 1)) (d_pt (d_mul (d_pt d_int) (d_pt (d_v 5)))))) (d_pt (d_v 7)))) (d_pt d_int)) (d_aP d_int d_a0))))))))))) (d_cons (d_set 8 sc__law_names.nd (d_ixP (d_v 3) (d_pt (d_mod (d_pt (d_add (d_pt (d_cl G__law_pick (hr.mono (by decide)) T.g__law_pick F__law_pick.kp b__law_pick (passes_call (takes_of rfl rfl rfl rfl) fun _ _ _ _ h => h) (d_aP (d_v 0) (d_aP (d_add (d_pt (d_v 1)) (d_pt d_int)) (d_aP d_int d_a0))))) (d_pt (d_v 5)))) (d_pt d_int))))) (d_one (d_app 4 (d_ifE (d_cmpB (op_eqD hr.units) od_eq (d_pt (d_cl G__law_pick (hr.mono (by decide)) T.g__law_pick F__law_pick.kp b__law_pick (passes_call (takes_of rfl rfl rfl rfl) fun _ _ _ _ h => h) (d_aP (d_v 0) (d_aP (d_add (d_pt (d_v 1)) (d_pt d_int)) (d_aP d_int d_a0))))) (d_pt d_int)) (d_addT (d_pt (d_v 6)) (d_pt (d_v 8))) (d_addT (d_pt (d_v 8)) (d_pt (d_v 6)))))))))) (d_frz 4 (d_one (d_ret (d_v 4))))))
abbrev N__law_kinds : List Str := ["script", "at", "names", "made", "k"]
theorem sc__law_kinds : FnScope N__law_kinds ["script", "at"] (defScope s__law_kinds) := ⟨rfl, rfl, rfl, by decide +kernel, rfl, by decide +kernel, by decide +kernel⟩
theorem ok__law_kinds (T : Tx K mg) {fd : FuncData} (F : FunD K "_law_kinds" "_law_kinds" (defArgs s__law_kinds) (defBody s__law_kinds) (defScope s__law_kinds) [] [] (He.ga K "_law_kinds") fd) : FnOk P w K mg base (L2.CX P w) 3 (He.ga K "_law_kinds") fd ["script", "at"] (spS TL K (He.ga K) [false, false] V__law_kinds) := by
  obtain ⟨fd__law_names, F__law_names⟩ := T.f__law_names
  have G__law_names := ok__law_names (P := P) (w := w) (base := base) (TL := TL) T F__law_names
  have b__law_names := F__law_names.bindsN (ps := ["script", "at", "many"]) fun _ _ _ _ _ _ us hl => match us, hl with | [_, _, _], _ => rfl
  obtain ⟨fd__law_pick, F__law_pick⟩ := T.f__law_pick
  have G__law_pick := ok__law_pick (P := P) (w := w) (base := base) (TL := TL) T F__law_pick
  have b__law_pick := F__law_pick.bindsN (ps := ["script", "k", "many"]) fun _ _ _ _ _ _ us hl => match us, hl with | [_, _, _], _ => rfl
  refine fn_mk F sc__law_kinds rfl (by decide) fun cdv A outer s H E F0 hr => ?_
  have hu := hu_of hr
  exact (d_cons (d_set 2 sc__law_kinds.nd (d_cl G__law_names (hr.mono (by decide)) T.g__law_names F__law_names.kp b__law_names (passes_call (takes_of rfl rfl rfl rfl) fun _ _ _ _ h => h) (d_aP (d_v 0) (d_aP (d_v 1) (d_aP d_int d_a0))))) (d_cons (d_setN 3 sc__law_kinds.nd (d_lst d_a0)) (d_cons (d_for (passes_of rfl) rfl (d_itR1 (d_add (d_pt d_int) (d_pt (d_cl G__law_pick (hr.mono (by decide)) T.g__law_pick F__law_pick.kp b__law_pick (passes_call (takes_of rfl rfl rfl rfl) fun _ _ _ _ h => h) (d_aP (d_v 0) (d_aP (d_add (d_pt (d_v 1)) (d_pt d_int)) (d_aP d_int d_a0)))))) T.b_range) (d_g1 sc__law_kinds.nd) (d_one (d_app 3 (d_tup (d_aP (d_ixP (d_v 2) (d_pt (d_v 4))) (d_aP (d_ixP (d_np (d_lst (d_aP d_int (d_aP d_int (d_aP d_int (d_aP d_int d_a0)))))) (d_pt (d_cl G__law_pick (hr.mono (by decide)) T.g__law_pick F__law_pick.kp b__law_pick (passes_call (takes_of rfl rfl rfl rfl) fun _ _ _ _ h => h) (d_aP (d_v 0) (d_aP (d_add (d_pt (d_add (d_pt (d_v 1)) (d_pt d_int))) (d_pt (d_v 4))) (d_aP d_int d_a0)))))) (d_aP (d_add (d_pt d_int) (d_pt (d_cl G__law_pick (hr.mono (by decide)) T.g__law_pick F__law_pick.kp b__law_pick (passes_call (takes_of rfl rfl rfl rfl) fun _ _ _ _ h => h) (d_aP (d_v 0) (d_aP (d_add (d_pt (d_add (d_pt (d_v 1)) (d_pt d_int))) (d_pt (d_v 4))) (d_aP d_int d_a0)))))) d_a0))))))) (d_frz 3 (d_one (d_ret (d_tupOf (d_v 3) T.b_tuple)))))))
abbrev N__law_rows : List Str := ["script", "at", "most", "made", "week", "k"]
theorem sc__law_rows : FnScope N__law_rows ["script", "at", "most"] (defScope s__law_rows) := ⟨rfl, rfl, rfl, by decide +kernel, rfl, by decide +kernel, by decide +kernel⟩
theorem ok__law_rows (T : Tx K mg) {fd : FuncData} (F : FunD K "_law_rows" "_law_rows" (defArgs s__law_rows) (defBody s__law_rows) (defScope s__law_rows) [] [] (He.ga K "_law_rows") fd) : FnOk P w K mg base (L2.CX P w) 2 (He.ga K "_law_rows") fd ["script", "at", "most"] (spS TL K (He.ga K) [false, false, false] V__law_rows) := by
  obtain ⟨fd__law_pick, F__law_pick⟩ := T.f__law_pick
  have G__law_pick := ok__law_pick (P := P) (w := w) (base := base) (TL := TL) T F__law_pick
  have b__law_pick := F__law_pick.bindsN (ps := ["script", "k", "many"]) fun _ _ _ _ _ _ us hl => match us, hl with | [_, _, _], _ => rfl
  refine fn_mk F sc__law_rows rfl (by decide) fun cdv A outer s H E F0 hr => ?_
  have hu := hu_of hr
  exact (d_cons (d_parNP 3 4 rfl sc__law_rows.nd (d_lst d_a0) (d_cl G__law_pick (hr.mono (by decide)) T.g__law_pick F__law_pick.kp b__law_pick (passes_call (takes_of rfl rfl rfl rfl) fun _ _ _ _ h => h) (d_aP (d_v 0) (d_aP (d_v 1) (d_aP d_int d_a0))))) (d_cons (d_for (passes_of rfl) rfl (d_itR1 (d_cl G__law_pick (hr.mono (by decide)) T.g__law_pick F__law_pick.kp b__law_pick (passes_call (takes_of rfl rfl rfl rfl) fun _ _ _ _ h => h) (d_aP (d_v 0) (d_aP (d_add (d_pt (d_v 1)) (d_pt d_int)) (d_aP d_int d_a0)))) T.b_range) (d_g1 sc__law_rows.nd) (d_cons (d_app 3 (d_tup (d_aP (d_v 4) (d_aP (d_add (d_pt d_int) (d_pt (d_cl G__law_pick (hr.mono (by decide)) T.g__law_pick F__law_pick.kp b__law_pick (passes_call (takes_of rfl rfl rfl rfl) fun _ _ _ _ h => h) (d_aP (d_v 0) (d_aP (d_add (d_pt (d_add (d_pt (d_v 1)) (d_pt d_int))) (d_pt (d_v 5))) (d_aP (d_v 2) d_a0)))))) d_a0)))) (d_one (d_set 4 sc__law_rows.nd (d_add (d_pt (d_v 4)) (d_pt (d_ixP (d_np (d_lst (d_aP d_int (d_aP d_int (d_aP d_int (d_aP d_int (d_aP d_int (d_aP d_int d_a0)))))))) (d_pt (d_cl G__law_pick (hr.mono (by decide)) T.g__law_pick F__law_pick.kp b__law_pick (passes_call (takes_of rfl rfl rfl rfl) fun _ _ _ _ h => h) (d_aP (d_v 0) (d_aP (d_add (d_pt (d_add (d_pt (d_v 1)) (d_pt d_int))) (d_pt (d_v 5))) (d_aP d_int d_a0)))))))))))) (d_frz 3 (d_one (d_ret (d_v 3))))))
abbrev N__law_bad_kinds : List Str := ["kinds", "name", "many", "span", "rest", "made", "one", "k"]
theorem sc__law_bad_kinds : FnScope N__law_bad_kinds ["kinds"] (defScope s__law_bad_kinds) := ⟨rfl, rfl, rfl, by decide +kernel, rfl, by decide +kernel, by decide +kernel⟩
theorem ok__law_bad_kinds (T : Tx K mg) {fd : FuncData} (F : FunD K "_law_bad_kinds" "_law_bad_kinds" (defArgs s__law_bad_kinds) (defBody s__law_bad_kinds) (defScope s__law_bad_kinds) [] [] (He.ga K "_law_bad_kinds") fd) : FnOk P w K mg base (L2.CX P w) 1 (He.ga K "_law_bad_kinds") fd ["kinds"] (spS TL K (He.ga K) [false] V__law_bad_kinds) := by
  refine fn_mk F sc__law_bad_kinds rfl (by decide) fun cdv A outer s H E F0 hr => ?_
  have hu := hu_of hr
  exact (d_cons (d_unp (d_ixP (d_v 0) (d_pt d_int)) (pg_tup rfl (pgs_cons (pg_name (i := 1) sc__law_bad_kinds.nd rfl (by first | exact Or.inl rfl | exact Or.inr rfl)) (pgs_cons (pg_name (i := 2) sc__law_bad_kinds.nd rfl (by first | exact Or.inl rfl | exact Or.inr rfl)) (pgs_cons (pg_name (i := 3) sc__law_bad_kinds.nd rfl (by first | exact Or.inl rfl | exact Or.inr rfl)) pgs_nil))))) (d_cons (d_set 4 sc__law_bad_kinds.nd (d_slT (d_v 0) (d_o1 (d_pt d_int)) d_o0)) (d_cons (d_setN 5 sc__law_bad_kinds.nd (d_lst (d_aP (d_tup d_a0) (d_aP (d_np (d_list (d_v 0) T.b_list)) (d_aP d_non (d_aP (d_v 1) (d_aP d_int (d_aP (d_ixP (d_v 0) (d_pt d_int)) (d_aP (d_catT (d_v 0) (d_tup (d_aP (d_ixP (d_v 0) (d_pt d_int)) d_a0))) (d_aP (d_repT (d_tup (d_aP (d_tup (d_aP (d_v 1) (d_aP (d_v 2) (d_aP (d_v 3) d_a0)))) d_a0)) d_int) (d_aP (d_catT (d_v 0) (d_tup (d_aP d_non d_a0))) d_a0))))))))))) (d_cons (d_ext 5 (d_lc rfl sc__law_bad_kinds.nd (d_j (d_itL (d_np (d_lst (d_aP d_str (d_aP d_str (d_aP d_str (d_aP d_non (d_aP d_int (d_aP (d_np (d_lst (d_aP d_str d_a0))) (d_aP (d_tup (d_aP d_str d_a0)) (d_aP d_str (d_aP d_str d_a0))))))))))))) (blkOk_by (own := [("one", 6)]) (N := N__law_bad_kinds) (sc := defScope s__law_bad_kinds) (by decide +kernel)) (fun _ _ _ _ _ => (d_g1 sc__law_bad_kinds.nd)) (fun _ _ _ _ _ => d_pts0) (fun _ _ _ _ _ => (d_catT (d_tup (d_aP (d_tup (d_aP (d_v 6) (d_aP (d_v 2) (d_aP (d_v 3) d_a0)))) d_a0)) (d_v 4))) List.mem_cons_self)) (d_cons (d_ext 5 (d_lc rfl sc__law_bad_kinds.nd (d_j (d_itL (d_np (d_lst (d_aP d_int (d_aP d_int (d_aP (d_neg (d_pt d_int)) (d_aP d_bl (d_aP d_str (d_aP d_non (d_aP (d_np (d_lst (d_aP d_int d_a0))) d_a0))))))))))) (blkOk_by (own := [("one", 6)]) (N := N__law_bad_kinds) (sc := defScope s__law_bad_kinds) (by decide +kernel)) (fun _ _ _ _ _ => (d_g1 sc__law_bad_kinds.nd)) (fun _ _ _ _ _ => d_pts0) (fun _ _ _ _ _ => (d_catT (d_tup (d_aP (d_tup (d_aP (d_v 1) (d_aP (d_v 6) (d_aP (d_v 3) d_a0)))) d_a0)) (d_v 4))) List.mem_cons_self)) (d_cons (d_ext 5 (d_lc rfl sc__law_bad_kinds.nd (d_j (d_itL (d_np (d_lst (d_aP d_int (d_aP d_int (d_aP (d_neg (d_pt d_int)) (d_aP d_bl (d_aP d_str (d_aP d_non (d_aP (d_tup (d_aP d_int d_a0)) d_a0))))))))))) (blkOk_by (own := [("one", 6)]) (N := N__law_bad_kinds) (sc := defScope s__law_bad_kinds) (by decide +kernel)) (fun _ _ _ _ _ => (d_g1 sc__law_bad_kinds.nd)) (fun _ _ _ _ _ => d_pts0) (fun _ _ _ _ _ => (d_catT (d_tup (d_aP (d_tup (d_aP (d_v 1) (d_aP (d_v 2) (d_aP (d_v 6) d_a0)))) d_a0)) (d_v 4))) List.mem_cons_self)) (d_cons (d_ext 5 (d_lst (d_aP (d_catT (d_tup (d_aP (d_tup (d_aP (d_v 1) (d_aP (d_v 2) d_a0))) d_a0)) (d_v 4)) (d_aP (d_catT (d_tup (d_aP (d_tup (d_aP (d_v 1) (d_aP (d_v 2) (d_aP (d_v 3) (d_aP d_int d_a0))))) d_a0)) (d_v 4)) (d_aP (d_catT (d_tup (d_aP (d_np (d_lst (d_aP (d_v 1) (d_aP (d_v 2) (d_aP (d_v 3) d_a0))))) d_a0)) (d_v 4)) d_a0))))) (d_frz 5 (d_one (d_ret (d_np (d_cat (d_v 5) (d_np (d_lst (d_aP (d_tupOf (d_np (d_lc rfl sc__law_bad_kinds.nd (d_j (d_itR1 d_int T.b_range)) (blkOk_by (own := [("k", 7)]) (N := N__law_bad_kinds) (sc := defScope s__law_bad_kinds) (by decide +kernel)) (fun _ _ _ _ _ => (d_g1 sc__law_bad_kinds.nd)) (fun _ _ _ _ _ => d_pts0) (fun _ _ _ _ _ => (d_tup (d_aP (d_ixP d_str (d_pt (d_v 7))) (d_aP d_int (d_aP d_int d_a0))))) List.mem_cons_self)) T.b_tuple) d_a0)))))))))))))))
abbrev N__law_bad_rows : List Str := ["rows", "made", "k", "one"]
theorem sc__law_bad_rows : FnScope N__law_bad_rows ["rows"] (defScope s__law_bad_rows) := ⟨rfl, rfl, rfl, by decide +kernel, rfl, by decide +kernel, by decide +kernel⟩
theorem ok__law_bad_rows (T : Tx K mg) {fd : FuncData} (F : FunD K "_law_bad_rows" "_law_bad_rows" (defArgs s__law_bad_rows) (defBody s__law_bad_rows) (defScope s__law_bad_rows) [] [] (He.ga K "_law_bad_rows") fd) : FnOk P w K mg base (L2.CX P w) 1 (He.ga K "_law_bad_rows") fd ["rows"] (spS TL K (He.ga K) [false] V__law_bad_rows) := by
  refine fn_mk F sc__law_bad_rows rfl (by decide) fun cdv A outer s H E F0 hr => ?_
  have hu := hu_of hr
  exact (d_cons (d_setN 1 sc__law_bad_rows.nd (d_lst (d_aP (d_tupOf (d_v 0) T.b_tuple) (d_aP d_non (d_aP d_str (d_aP d_int (d_aP (d_tup (d_aP d_int (d_aP d_int d_a0))) (d_aP (d_np (d_cat (d_v 0) (d_np (d_lst (d_aP (d_tup (d_aP d_int (d_aP d_int d_a0))) (d_aP (d_tup (d_aP d_int (d_aP d_int d_a0))) d_a0)))))) (d_aP (d_np (d_lc rfl sc__law_bad_rows.nd (d_j (d_itR1 d_int T.b_range)) (blkOk_by (own := [("k", 2)]) (N := N__law_bad_rows) (sc := defScope s__law_bad_rows) (by decide +kernel)) (fun _ _ _ _ _ => (d_g1 sc__law_bad_rows.nd)) (fun _ _ _ _ _ => d_pts0) (fun _ _ _ _ _ => (d_tup (d_aP (d_v 2) (d_aP d_int d_a0)))) List.mem_cons_self)) d_a0))))))))) (d_cons (d_ext 1 (d_lc rfl sc__law_bad_rows.nd (d_j (d_itL (d_np (d_lst (d_aP (d_neg (d_pt d_int)) (d_aP d_int (d_aP d_bl (d_aP d_non (d_aP d_str (d_aP (d_np (d_lst (d_aP d_int d_a0))) d_a0)))))))))) (blkOk_by (own := [("one", 3)]) (N := N__law_bad_rows) (sc := defScope s__law_bad_rows) (by decide +kernel)) (fun _ _ _ _ _ => (d_g1 sc__law_bad_rows.nd)) (fun _ _ _ _ _ => d_pts0) (fun _ _ _ _ _ => (d_np (d_cat (d_np (d_slL (d_v 0) d_o0 (d_o1 (d_pt d_int)))) (d_np (d_lst (d_aP (d_tup (d_aP (d_v 3) (d_aP d_int d_a0))) d_a0)))))) List.mem_cons_self)) (d_cons (d_ext 1 (d_lc rfl sc__law_bad_rows.nd (d_j (d_itL (d_np (d_lst (d_aP d_int (d_aP d_int (d_aP (d_neg (d_pt d_int)) (d_aP d_bl (d_aP d_non (d_aP d_str (d_aP (d_np (d_lst (d_aP d_int d_a0))) d_a0))))))))))) (blkOk_by (own := [("one", 3)]) (N := N__law_bad_rows) (sc := defScope s__law_bad_rows) (by decide +kernel)) (fun _ _ _ _ _ => (d_g1 sc__law_bad_rows.nd)) (fun _ _ _ _ _ => d_pts0) (fun _ _ _ _ _ => (d_np (d_lst (d_aP (d_tup (d_aP d_int (d_aP (d_v 3) d_a0))) d_a0)))) List.mem_cons_self)) (d_frz 1 (d_one (d_ret (d_np (d_cat (d_v 1) (d_np (d_lst (d_aP (d_np (d_lst (d_aP (d_tup (d_aP d_int (d_aP d_int d_a0))) (d_aP (d_tup (d_aP d_int (d_aP d_int d_a0))) d_a0)))) (d_aP (d_np (d_lst (d_aP (d_np (d_lst (d_aP d_int (d_aP d_int d_a0)))) d_a0))) (d_aP (d_np (d_lst (d_aP (d_tup (d_aP d_int d_a0)) d_a0))) (d_aP (d_np (d_lst (d_aP (d_tup (d_aP d_int (d_aP d_int (d_aP d_int d_a0)))) d_a0))) (d_aP (d_np (d_lst (d_aP d_non d_a0))) d_a0)))))))))))))))
abbrev N_law : List Str := ["script", "kinds", "rows", "thing", "k"]
theorem sc_law : FnScope N_law ["script"] (defScope s_law) := ⟨rfl, rfl, rfl, by decide +kernel, rfl, by decide +kernel, by decide +kernel⟩
theorem ok_law (T : Tx K mg) {fd : FuncData} (F : FunD K "law" "law" (defArgs s_law) (defBody s_law) (defScope s_law) [] [] (He.ga K "law") fd) : FnOk P w K mg base (L2.CX P w) 4 (He.ga K "law") fd ["script"] (spS TL K (He.ga K) [false] V_law) := by
  obtain ⟨fd__law_kinds, F__law_kinds⟩ := T.f__law_kinds
  have G__law_kinds := ok__law_kinds (P := P) (w := w) (base := base) (TL := TL) T F__law_kinds
  have b__law_kinds := F__law_kinds.bindsN (ps := ["script", "at"]) fun _ _ _ _ _ _ us hl => match us, hl with | [_, _], _ => rfl
  obtain ⟨fd__law_rows, F__law_rows⟩ := T.f__law_rows
  have G__law_rows := ok__law_rows (P := P) (w := w) (base := base) (TL := TL) T F__law_rows
  have b__law_rows := F__law_rows.bindsN (ps := ["script", "at", "most"]) fun _ _ _ _ _ _ us hl => match us, hl with | [_, _, _], _ => rfl
  obtain ⟨fd_are_rows, F_are_rows⟩ := T.f_are_rows
  have G_are_rows := ok_are_rows (P := P) (w := w) (base := base) (TL := TL) T F_are_rows
  have b_are_rows := F_are_rows.bindsN (ps := ["thing"]) fun _ _ _ _ _ _ us hl => match us, hl with | [_], _ => rfl
  obtain ⟨fd_are_kinds, F_are_kinds⟩ := T.f_are_kinds
  have G_are_kinds := ok_are_kinds (P := P) (w := w) (base := base) (TL := TL) T F_are_kinds
  have b_are_kinds := F_are_kinds.bindsN (ps := ["thing"]) fun _ _ _ _ _ _ us hl => match us, hl with | [_], _ => rfl
  obtain ⟨fd__law_bad_kinds, F__law_bad_kinds⟩ := T.f__law_bad_kinds
  have G__law_bad_kinds := ok__law_bad_kinds (P := P) (w := w) (base := base) (TL := TL) T F__law_bad_kinds
  have b__law_bad_kinds := F__law_bad_kinds.bindsN (ps := ["kinds"]) fun _ _ _ _ _ _ us hl => match us, hl with | [_], _ => rfl
  obtain ⟨fd__law_bad_rows, F__law_bad_rows⟩ := T.f__law_bad_rows
  have G__law_bad_rows := ok__law_bad_rows (P := P) (w := w) (base := base) (TL := TL) T F__law_bad_rows
  have b__law_bad_rows := F__law_bad_rows.bindsN (ps := ["rows"]) fun _ _ _ _ _ _ us hl => match us, hl with | [_], _ => rfl
  refine fn_mk F sc_law rfl (by decide) fun cdv A outer s H E F0 hr => ?_
  have hu := hu_of hr
  exact (d_cons (d_parPP 1 2 rfl sc_law.nd (d_cl G__law_kinds (hr.mono (by decide)) T.g__law_kinds F__law_kinds.kp b__law_kinds (passes_call (takes_of rfl rfl rfl rfl) fun _ _ _ _ h => h) (d_aP (d_v 0) (d_aP d_int d_a0))) (d_cl G__law_rows (hr.mono (by decide)) T.g__law_rows F__law_rows.kp b__law_rows (passes_call (takes_of rfl rfl rfl rfl) fun _ _ _ _ h => h) (d_aP (d_v 0) (d_aP d_int (d_aP d_int d_a0))))) (d_cons (d_for (passes_of rfl) rfl (d_itT (d_tup (d_aP (d_v 1) (d_aP (d_tup (d_aP (d_tup (d_aP d_str (d_aP d_int (d_aP d_int d_a0)))) d_a0)) (d_aP (d_tup (d_aP (d_tup (d_aP d_str (d_aP d_int (d_aP d_int d_a0)))) (d_aP (d_tup (d_aP d_str (d_aP d_int (d_aP d_int d_a0)))) (d_aP (d_tup (d_aP d_str (d_aP d_int (d_aP d_int d_a0)))) (d_aP (d_tup (d_aP d_str (d_aP d_int (d_aP d_int d_a0)))) d_a0))))) d_a0))))) (d_g1 sc_law.nd) (d_one (d_if (PW.pt (d_or (d_cmpB op_isntS od_isnt (d_pt (d_cl G_are_kinds (hr.mono (by decide)) T.g_are_kinds F_are_kinds.kp b_are_kinds (passes_call (takes_of rfl rfl rfl rfl) fun _ _ _ _ h => h) (d_aP (d_v 3) d_a0))) (d_pt d_bl)) (d_or1 (d_cmpB op_isntS od_isnt (d_pt (d_cl G_are_rows (hr.mono (by decide)) T.g_are_rows F_are_rows.kp b_are_rows (passes_call (takes_of rfl rfl rfl rfl) fun _ _ _ _ h => h) (d_aP (d_v 3) d_a0))) (d_pt d_bl))))) (d_one (d_ret d_bl)) d_nil))) (d_cons (d_for (passes_of rfl) rfl (d_itT (d_tup (d_aP (d_v 2) (d_aP (d_np (d_lst d_a0)) (d_aP (d_np (d_lst (d_aP (d_tup (d_aP d_int (d_aP d_int d_a0))) (d_aP (d_tup (d_aP d_int (d_aP d_int d_a0))) d_a0)))) (d_aP (d_np (d_lc rfl sc_law.nd (d_j (d_itR1 d_int T.b_range)) (blkOk_by (own := [("k", 4)]) (N := N_law) (sc := defScope s_law) (by decide +kernel)) (fun _ _ _ _ _ => (d_g1 sc_law.nd)) (fun _ _ _ _ _ => d_pts0) (fun _ _ _ _ _ => (d_tup (d_aP (d_v 4) (d_aP d_int d_a0)))) List.mem_cons_self)) d_a0)))))) (d_g1 sc_law.nd) (d_one (d_if (PW.pt (d_or (d_cmpB op_isntS od_isnt (d_pt (d_cl G_are_rows (hr.mono (by decide)) T.g_are_rows F_are_rows.kp b_are_rows (passes_call (takes_of rfl rfl rfl rfl) fun _ _ _ _ h => h) (d_aP (d_v 3) d_a0))) (d_pt d_bl)) (d_or1 (d_cmpB op_isntS od_isnt (d_pt (d_cl G_are_kinds (hr.mono (by decide)) T.g_are_kinds F_are_kinds.kp b_are_kinds (passes_call (takes_of rfl rfl rfl rfl) fun _ _ _ _ h => h) (d_aP (d_v 3) d_a0))) (d_pt d_bl))))) (d_one (d_ret d_bl)) d_nil))) (d_cons (d_for (passes_of rfl) rfl (d_itL (d_cl G__law_bad_kinds (hr.mono (by decide)) T.g__law_bad_kinds F__law_bad_kinds.kp b__law_bad_kinds (passes_call (takes_of rfl rfl rfl rfl) fun _ _ _ _ h => h) (d_aP (d_v 1) d_a0))) (d_g1 sc_law.nd) (d_one (d_if (d_cmpB op_isntS od_isnt (d_pt (d_cl G_are_kinds (hr.mono (by decide)) T.g_are_kinds F_are_kinds.kp b_are_kinds (passes_call (takes_of rfl rfl rfl rfl) fun _ _ _ _ h => h) (d_aP (d_v 3) d_a0))) (d_pt d_bl)) (d_one (d_ret d_bl)) d_nil))) (d_one (d_ret (d_notV (d_pt (d_any rfl (d_nt (d_lc rfl sc_law.nd (d_j (d_itL (d_cl G__law_bad_rows (hr.mono (by decide)) T.g__law_bad_rows F__law_bad_rows.kp b__law_bad_rows (passes_call (takes_of rfl rfl rfl rfl) fun _ _ _ _ h => h) (d_aP (d_np (d_slL (d_v 2) d_o0 (d_o1 (d_pt d_int)))) d_a0)))) (blkOk_by (own := [("thing", 3)]) (N := N_law) (sc := defScope s_law) (by decide +kernel)) (fun _ _ _ _ _ => (d_g1 sc_law.nd)) (fun _ _ _ _ _ => d_pts0) (fun _ _ _ _ _ => (d_cmp op_isntS od_isnt (d_pt (d_cl G_are_rows (hr.mono (by decide)) T.g_are_rows F_are_rows.kp b_are_rows passL (d_aP (d_v 3) d_a0))) (d_pt d_bl))) List.mem_cons_self)) T.b_any)))))))))
end
end Cb
namespace Cb
open PySem PySem.Spec PyProof.Rows L2
/-! ### plain laws, and evaluation -/
theorem seq_nx {g1 g2 : DS → Out} {ds ds' : DS} (h : g1 ds = .nx ds') : seqS g1 g2 ds = g2 ds' := by simp [seqS, h]
theorem seq_rt {g1 g2 : DS → Out} {ds : DS} {d : PyData} (h : g1 ds = .rt d) : seqS g1 g2 ds = .rt d := by simp [seqS, h]
theorem seq_err {g1 g2 : DS → Out} {ds : DS} {x : Str} (h : g1 ds = .err x) : seqS g1 g2 ds = .err x := by simp [seqS, h]
theorem canInts : ∀ ns : List Int, PyData.canLayAll0 (ns.map .int) = true
  | [] => rfl
  | n :: r => by
    have ih := canInts r
    simp [PyData.canLayAll0, PyData.canLay0, ih]
theorem depthInts : ∀ ns : List Int, PyData.depthAll (ns.map .int) ≤ 1
  | [] => by simp [PyData.depthAll]
  | n :: r => by
    have ih := depthInts r
    simp [PyData.depthAll, PyData.depth]
    omega
theorem shInts (ns : List Int) : SeqAt.shaped (.list (ns.map .int)) = true := by
  have h1 := canInts ns
  have h2 := depthInts ns
  unfold SeqAt.shaped
  simp [PyData.canLay0, PyData.depth, h1]
  omega
theorem eqvInts : ∀ a b : List Int, PyData.eqvAll (a.map .int) (b.map .int) = decide (a = b)
  | [], [] => rfl
  | [], _ :: _ => rfl
  | _ :: _, [] => rfl
  | x :: a, y :: b => by
    have ih := eqvInts a b
    simp [PyData.eqvAll, PyData.eqv, ih, Bool.beq_eq_decide_eq]
theorem dv840 (i : Int) : divW i 840 = true := by unfold divW; decide
theorem dv31 (i : Int) : divW i 31 = true := by unfold divW; decide
theorem dv18 (i : Int) : divW i 1000000000000000000 = true := by unfold divW; decide +kernel
theorem dvSmall (i : Int) {j : Int} (h0 : 0 < j) (h1 : j < 1000000) : divW i j = true := by
  unfold divW
  have : j.natAbs.log2 < 9000 := by
    have : j.natAbs.log2 < 20 := by
      rw [Nat.log2_lt (by omega)]
      omega
    omega
  simp [h0, this]
theorem atInts {ns : List Int} {i : Int} (h0 : 0 ≤ i) (h1 : i < ns.length) : atI (ns.map PyData.int) i = some (.int (ns.getD i.toNat 0)) := by
  have hj : i.toNat < ns.length := by omega
  have : (ns.map PyData.int)[i.toNat]? = some (.int (ns.getD i.toNat 0)) := by
    rw [List.getElem?_map, List.getElem?_eq_getElem hj]
    simp [List.getD, List.getElem?_eq_getElem hj]
  have h2 := atI_nat this
  rwa [Int.toNat_of_nonneg h0] at h2
end Cb
namespace Cb
open PySem PySem.Spec PyProof.Rows L2
theorem pick_wh (d0 d1 d2 d3 d6 : Sl) : ∀ (n : Nat) (rest turn : Int), turn.toNat < n → ∃ r' t', whGo (andB (bS (op2 gtI (vP 4) (cS (.int 0)))) (bS (op2 gtI (vP 5) (cS (.int 0))))) g__law_pick_3B n [d0, d1, d2, d3, .im (.int rest), .im (.int turn), d6] = .nx [d0, d1, d2, d3, .im (.int r'), .im (.int t'), d6]
  | 0, _, _, h => by omega
  | n + 1, rest, turn, h => by
    by_cases h1 : 0 < rest
    · by_cases h2 : 0 < turn
      · have ih := pick_wh d0 d1 d2 d3 d6 n (rest / 840) (turn - 1) (by omega)
        obtain ⟨r', t', e⟩ := ih
        refine ⟨r', t', ?_⟩
        rw [← e]
        conv => lhs; unfold whGo
        simp [andB, bS, bO, op2, gtI, gI, vP, cS, toB, g__law_pick_3B, g__law_pick_3b_1, parPP, toO, divI, subI, dv840, h1, h2]
      · refine ⟨rest, turn, ?_⟩
        unfold whGo
        simp [andB, bS, bO, op2, gtI, gI, vP, cS, toB, h1, h2]
    · refine ⟨rest, turn, ?_⟩
      unfold whGo
      simp [andB, bS, bO, op2, gtI, gI, vP, cS, toB, h1]
theorem pick_cell (ns : List Int) (k : Int) (d2 d3 d4 d5 d6 : Sl) : ∃ cell, g__law_pick_1 [.im (.list (ns.map .int)), .im (.int k), d2, d3, d4, d5, d6] = .nx [.im (.list (ns.map .int)), .im (.int k), d2, .im (.int cell), d4, d5, d6] := by
  have e0 : SeqAt.shaped (.list []) = true := by decide
  have e1 := eqvInts ns []
  simp only [List.map_nil] at e1
  by_cases h : ns = []
  · refine ⟨0, ?_⟩
    subst h
    simp [g__law_pick_1, setS, setN, parPP, parNP, parPN, parNN, toO, toB, ifS, retS, exS, appS, extS, dputS, frzS, nxS, vP, vT, cS, op1, op2, gI, addI, subI, mulI, divI, modI, powI, ltI, leI, gtI, geI, minI, maxI, bS, bO, andB, orB, notB, andV, orV, notV, chI, ifE, tupS, lstS, nilA, consA, callS, callK, isiS, lenD, intD, ixD, atR, dgetD, big, plS, plainD, neD, e0, PyData.eqv, PyData.eqvAll]
  · have hp : 0 < ns.length := List.length_pos_iff.mpr h
    have hm : 0 ≤ k % (ns.length : Int) := Int.emod_nonneg _ (by omega)
    have hl : k % (ns.length : Int) < ns.length := Int.emod_lt_of_pos _ (by omega)
    have ha := atInts hm hl
    refine ⟨ns.getD (k % (ns.length : Int)).toNat 0, ?_⟩
    simp [g__law_pick_1, setS, setN, parPP, parNP, parPN, parNN, toO, toB, ifS, retS, exS, appS, extS, dputS, frzS, nxS, vP, vT, cS, op1, op2, gI, addI, subI, mulI, divI, modI, powI, ltI, leI, gtI, geI, minI, maxI, bS, bO, andB, orB, notB, andV, orV, notV, chI, ifE, tupS, lstS, nilA, consA, callS, callK, isiS, lenD, intD, ixD, atR, dgetD, big, plS, plainD, neD, e0, PyData.eqv, e1, h, shInts, ha, hp]
theorem pick_ok (ns : List Int) (hl : ns.length ≤ 63) {k m : Int} (h0 : 0 ≤ k) (h1 : k < 90000) (hm : 0 < m) : ∃ p, 0 ≤ p ∧ p < m ∧ V__law_pick [.list (ns.map .int), .int k, .int m] = .ok (.int p) := by
  obtain ⟨cell, e1⟩ := pick_cell ns k (.im (.int m)) .no .no .no .no
  have hmx : 0 < (if (1 : Int) > ns.length then 1 else (ns.length : Int)) ∧ (if (1 : Int) > ns.length then 1 else (ns.length : Int)) < 1000000 := by
    split <;> omega
  have hk : (k / (if (1 : Int) > ns.length then 1 else (ns.length : Int))).toNat < 100000 := by
    have h2 : k / (if (1 : Int) > ns.length then 1 else (ns.length : Int)) ≤ k := Int.ediv_le_self _ h0
    omega
  obtain ⟨r', t', e3⟩ := pick_wh (.im (.list (ns.map .int))) (.im (.int k)) (.im (.int m)) (.im (.int cell)) .no 100000 (cell / 10 ^ 18) (k / (if (1 : Int) > ns.length then 1 else (ns.length : Int))) hk
  have hb : (powW 10 18) = true := by unfold powW; decide
  have e2 : g__law_pick_2 [.im (.list (ns.map .int)), .im (.int k), .im (.int m), .im (.int cell), .no, .no, .no] = .nx [.im (.list (ns.map .int)), .im (.int k), .im (.int m), .im (.int cell), .im (.int (cell / 10 ^ 18)), .im (.int (k / (if (1 : Int) > ns.length then 1 else (ns.length : Int)))), .no] := by
    have := dvSmall k hmx.1 hmx.2
    simp only [gt_iff_lt] at this
    simp [g__law_pick_2, setS, setN, parPP, parNP, parPN, parNN, toO, toB, ifS, retS, exS, appS, extS, dputS, frzS, nxS, vP, vT, cS, op1, op2, gI, addI, subI, mulI, divI, modI, powI, ltI, leI, gtI, geI, minI, maxI, bS, bO, andB, orB, notB, andV, orV, notV, chI, ifE, tupS, lstS, nilA, consA, callS, callK, isiS, lenD, intD, ixD, atR, dgetD, big, plS, plainD, hb, dv18, this]
  have e0 : V__law_pick [.list (ns.map .int), .int k, .int m] = bodyS 7 [false, false, false] g__law_pick [.list (ns.map .int), .int k, .int m] := rfl
  have es : startS 7 [false, false, false] [.list (ns.map .int), .int k, .int m] = [.im (.list (ns.map .int)), .im (.int k), .im (.int m), .no, .no, .no, .no] := rfl
  by_cases hr : 0 < r'
  · refine ⟨r' % 840 % m, Int.emod_nonneg _ (by omega), Int.emod_lt_of_pos _ hm, ?_⟩
    have e4 : g__law_pick_4 [.im (.list (ns.map .int)), .im (.int k), .im (.int m), .im (.int cell), .im (.int r'), .im (.int t'), .no] = .rt (.int (r' % 840 % m)) := by
      simp [g__law_pick_4, g__law_pick_4t_1, setS, setN, parPP, parNP, parPN, parNN, toO, toB, ifS, retS, exS, appS, extS, dputS, frzS, nxS, vP, vT, cS, op1, op2, gI, addI, subI, mulI, divI, modI, powI, ltI, leI, gtI, geI, minI, maxI, bS, bO, andB, orB, notB, andV, orV, notV, chI, ifE, tupS, lstS, nilA, consA, callS, callK, isiS, lenD, intD, ixD, atR, dgetD, big, plS, plainD, hr, hm]
    rw [e0, bodyS, es, g__law_pick, seq_nx e1, seq_nx e2, seq_nx (show g__law_pick_3 _ = _ from e3), seq_rt e4]
  · have e4 : g__law_pick_4 [.im (.list (ns.map .int)), .im (.int k), .im (.int m), .im (.int cell), .im (.int r'), .im (.int t'), .no] = .nx [.im (.list (ns.map .int)), .im (.int k), .im (.int m), .im (.int cell), .im (.int r'), .im (.int t'), .no] := by
      simp [g__law_pick_4, g__law_pick_4t_1, setS, setN, parPP, parNP, parPN, parNN, toO, toB, ifS, retS, exS, appS, extS, dputS, frzS, nxS, vP, vT, cS, op1, op2, gI, addI, subI, mulI, divI, modI, powI, ltI, leI, gtI, geI, minI, maxI, bS, bO, andB, orB, notB, andV, orV, notV, chI, ifE, tupS, lstS, nilA, consA, callS, callK, isiS, lenD, intD, ixD, atR, dgetD, big, plS, plainD, hr]
    have e5 : ∃ dr, 0 ≤ dr ∧ dr < 2147483399 ∧ g__law_pick_5 [.im (.list (ns.map .int)), .im (.int k), .im (.int m), .im (.int cell), .im (.int r'), .im (.int t'), .no] = .nx [.im (.list (ns.map .int)), .im (.int k), .im (.int m), .im (.int cell), .im (.int r'), .im (.int t'), .im (.int dr)] := by
      refine ⟨(cell * 31 + 6151 * (k + 1)) * 40692 % 2147483399, Int.emod_nonneg _ (by decide), Int.emod_lt_of_pos _ (by decide), ?_⟩
      · have i1 : in64 31 = true := by decide
        have i2 : in64 6151 = true := by decide
        have i3 : in64 40692 = true := by decide
        simp [g__law_pick_5, setS, setN, parPP, parNP, parPN, parNN, toO, toB, ifS, retS, exS, appS, extS, dputS, frzS, nxS, vP, vT, cS, op1, op2, gI, addI, subI, mulI, divI, modI, powI, ltI, leI, gtI, geI, minI, maxI, bS, bO, andB, orB, notB, andV, orV, notV, chI, ifE, tupS, lstS, nilA, consA, callS, callK, isiS, lenD, intD, ixD, atR, dgetD, big, plS, plainD, i1, i2, i3]
    obtain ⟨dr, hd0, hd1, e5⟩ := e5
    have e6 : g__law_pick_6 [.im (.list (ns.map .int)), .im (.int k), .im (.int m), .im (.int cell), .im (.int r'), .im (.int t'), .im (.int dr)] = .rt (.int ((dr * dr + dr / 31) % 2147483629 % m)) := by
      have i1 : in64 dr = true := by
        simp [in64]
        omega
      simp [g__law_pick_6, setS, setN, parPP, parNP, parPN, parNN, toO, toB, ifS, retS, exS, appS, extS, dputS, frzS, nxS, vP, vT, cS, op1, op2, gI, addI, subI, mulI, divI, modI, powI, ltI, leI, gtI, geI, minI, maxI, bS, bO, andB, orB, notB, andV, orV, notV, chI, ifE, tupS, lstS, nilA, consA, callS, callK, isiS, lenD, intD, ixD, atR, dgetD, big, plS, plainD, i1, dv31, hm]
    refine ⟨(dr * dr + dr / 31) % 2147483629 % m, Int.emod_nonneg _ (by omega), Int.emod_lt_of_pos _ hm, ?_⟩
    rw [e0, bodyS, es, g__law_pick, seq_nx e1, seq_nx e2, seq_nx (show g__law_pick_3 _ = _ from e3), seq_nx e4, seq_nx e5, e6]
end Cb
namespace Cb
open PySem PySem.Spec PyProof.Rows L2
/-! ### loops by an invariant -/
theorem forGo_ind {k : TgK} {b : DS → Out} {items : List PyData} (I : Nat → DS → Prop) (hs : ∀ (i : Nat) (ds : DS) (x : PyData), items[i]? = some x → I i ds → ∃ ds1, tgD k x ds = .ok ds1 ∧ ∃ ds2, b ds1 = .nx ds2 ∧ I (i + 1) ds2) :
    ∀ (n i : Nat) (ds : DS), n = items.length - i → i ≤ items.length → I i ds → ∃ ds', forGo k b (items.drop i) ds = .nx ds' ∧ I items.length ds'
  | 0, i, ds, hn, hi, h => by
    have e : i = items.length := by omega
    subst e
    exact ⟨ds, by simp [forGo], h⟩
  | n + 1, i, ds, hn, hi, h => by
    have hlt : i < items.length := by omega
    obtain ⟨ds1, e1, ds2, e2, h2⟩ := hs i ds _ (List.getElem?_eq_getElem hlt) h
    obtain ⟨ds', e3, h3⟩ := forGo_ind I hs n (i + 1) ds2 (by omega) hlt h2
    refine ⟨ds', ?_, h3⟩
    rw [List.drop_eq_getElem_cons hlt]
    simp [forGo, e1, e2, e3]
theorem for_inv {k : TgK} {b : DS → Out} {fi : DS → R (List PyData)} {items : List PyData} {ds : DS} (I : Nat → DS → Prop) (hi : fi ds = .ok items) (h0 : I 0 ds) (hs : ∀ (i : Nat) (ds : DS) (x : PyData), items[i]? = some x → I i ds → ∃ ds1, tgD k x ds = .ok ds1 ∧ ∃ ds2, b ds1 = .nx ds2 ∧ I (i + 1) ds2) :
    ∃ ds', forS fi k b ds = .nx ds' ∧ I items.length ds' := by
  obtain ⟨ds', e, h⟩ := forGo_ind I hs items.length 0 ds (by simp) (Nat.zero_le _) h0
  refine ⟨ds', ?_, h⟩
  simp only [forS, hi]
  simpa using e
theorem forGo_cons {k : TgK} {b : DS → Out} {x : PyData} {xs : List PyData} {ds ds1 ds2 : DS} (h1 : tgD k x ds = .ok ds1) (h2 : b ds1 = .nx ds2) : forGo k b (x :: xs) ds = forGo k b xs ds2 := by simp [forGo, h1, h2]
theorem lcGo_map {k : TgK} {ft : DS → R Bool} {fe : ES} {ds : DS} {h : PyData → PyData} : ∀ {items : List PyData}, (∀ x ∈ items, ∃ ds', tgD k x ds = .ok ds' ∧ ft ds' = .ok true ∧ fe ds' = .ok (h x)) → lcGo k ft fe ds items = .ok (items.map h)
  | [], _ => rfl
  | x :: r, H => by
    obtain ⟨ds', e1, e2, e3⟩ := H x List.mem_cons_self
    have ih := lcGo_map (items := r) fun y hy => H y (List.mem_cons_of_mem _ hy)
    simp [lcGo, e1, e2, e3, ih]
theorem lcGo_fm {α : Type} {k : TgK} {ft : DS → R Bool} {fe : ES} {ds : DS} (it : α → PyData) (p : α → Bool) (h : α → PyData) : ∀ {xs : List α}, (∀ x ∈ xs, ∃ ds', tgD k (it x) ds = .ok ds' ∧ ft ds' = .ok (p x) ∧ (p x = true → fe ds' = .ok (h x))) → lcGo k ft fe ds (xs.map it) = .ok ((xs.filter p).map h)
  | [], _ => rfl
  | x :: r, H => by
    obtain ⟨ds', e1, e2, e3⟩ := H x List.mem_cons_self
    have ih := lcGo_fm it p h (xs := r) fun y hy => H y (List.mem_cons_of_mem _ hy)
    cases hp : p x with
    | false => simp [lcGo, e1, e2, hp, ih]
    | true => simp [lcGo, e1, e2, hp, e3 hp, ih]
theorem range_at {lo : Int} {n i : Nat} {x : PyData} (h : (rangeD lo n)[i]? = some x) : i < n ∧ x = .int (lo + i) := rangeD_get h
/-! ### rows -/
def rowD (p : Int × Int) : PyData := .tuple [.int p.1, .int p.2]
def rowsD (rs : List (Int × Int)) : PyData := .list (rs.map rowD)
structure Rows (rs : List (Int × Int)) : Prop where
  up : rs.Pairwise fun a b => a.1 < b.1
  wk : ∀ p ∈ rs, 0 ≤ p.1 ∧ p.1 ≤ 99 ∧ 1 ≤ p.2 ∧ p.2 ≤ 99
  len : rs.length ≤ 12
theorem isiInt (d : PyData) : isiD "int" d = .ok (.bool (match d with | .int _ => true | .bool _ => true | _ => false)) := by cases d <;> rfl
theorem isiBool (d : PyData) : isiD "bool" d = .ok (.bool (match d with | .bool _ => true | _ => false)) := by cases d <;> rfl
theorem isiTup (d : PyData) : isiD "tuple" d = .ok (.bool (match d with | .tuple _ => true | _ => false)) := by cases d <;> rfl
theorem isiLst (d : PyData) : isiD "list" d = .ok (.bool (match d with | .list _ => true | _ => false)) := by cases d <;> rfl
theorem V_number (i a b : Int) : V_is_number [.int i, .int a, .int b] = .ok (.bool (decide (a ≤ i) && decide (i ≤ b))) := by
  by_cases h : a ≤ i
  · simp [V_is_number, bodyS, startS, g_is_number, g_is_number_1, setS, setN, parPP, parNP, parPN, parNN, toO, toB, ifS, retS, exS, appS, extS, dputS, frzS, nxS, vP, vT, cS, op1, op2, gI, addI, subI, mulI, divI, modI, powI, ltI, leI, gtI, geI, minI, maxI, bS, bO, andB, orB, notB, andV, orV, notV, chI, ifE, tupS, lstS, nilA, consA, callS, callK, isiS, lenD, intD, ixD, atR, dgetD, big, plS, plainD, isiInt, isiBool, h]
  · simp [V_is_number, bodyS, startS, g_is_number, g_is_number_1, setS, setN, parPP, parNP, parPN, parNN, toO, toB, ifS, retS, exS, appS, extS, dputS, frzS, nxS, vP, vT, cS, op1, op2, gI, addI, subI, mulI, divI, modI, powI, ltI, leI, gtI, geI, minI, maxI, bS, bO, andB, orB, notB, andV, orV, notV, chI, ifE, tupS, lstS, nilA, consA, callS, callK, isiS, lenD, intD, ixD, atR, dgetD, big, plS, plainD, isiInt, isiBool, h]
theorem sh_int (i : Int) : SeqAt.shaped (.int i) = true := by
  unfold SeqAt.shaped
  simp [PyData.canLay0, PyData.depth]
theorem at0 {α : Type} (x : α) (r : List α) : atI (x :: r) 0 = some x := atI_nat (j := 0) rfl
theorem at1 {α : Type} (x y : α) (r : List α) : atI (x :: y :: r) 1 = some y := atI_nat (j := 1) rfl
theorem at2 {α : Type} (x y z : α) (r : List α) : atI (x :: y :: z :: r) 2 = some z := atI_nat (j := 2) rfl
theorem V_row (p : Int × Int) : V_is_row [rowD p] = .ok (.bool ((decide (0 ≤ p.1) && decide (p.1 ≤ 99)) && (decide (1 ≤ p.2) && decide (p.2 ≤ 99)))) := by
  have e1 : g_is_row_1 [.im (rowD p)] = .nx [.im (rowD p)] := by
    simp [g_is_row_1, g_is_row_1t_1, setS, setN, parPP, parNP, parPN, parNN, toO, toB, ifS, retS, exS, appS, extS, dputS, frzS, nxS, vP, vT, cS, op1, op2, gI, addI, subI, mulI, divI, modI, powI, ltI, leI, gtI, geI, minI, maxI, bS, bO, andB, orB, notB, andV, orV, notV, chI, ifE, tupS, lstS, nilA, consA, callS, callK, isiS, lenD, intD, ixD, atR, dgetD, big, plS, plainD, isiTup, rowD, neD, sh_int, PyData.eqv]
  have e2 : g_is_row_2 [.im (rowD p)] = .rt (.bool ((decide (0 ≤ p.1) && decide (p.1 ≤ 99)) && (decide (1 ≤ p.2) && decide (p.2 ≤ 99)))) := by
    by_cases h : (decide (0 ≤ p.1) && decide (p.1 ≤ 99)) = true
    · simp [g_is_row_2, setS, setN, parPP, parNP, parPN, parNN, toO, toB, ifS, retS, exS, appS, extS, dputS, frzS, nxS, vP, vT, cS, op1, op2, gI, addI, subI, mulI, divI, modI, powI, ltI, leI, gtI, geI, minI, maxI, bS, bO, andB, orB, notB, andV, orV, notV, chI, ifE, tupS, lstS, nilA, consA, callS, callK, isiS, lenD, intD, ixD, atR, dgetD, big, plS, plainD, rowD, at0, at1, V_number, h]
    · simp only [Bool.not_eq_true] at h
      simp [g_is_row_2, setS, setN, parPP, parNP, parPN, parNN, toO, toB, ifS, retS, exS, appS, extS, dputS, frzS, nxS, vP, vT, cS, op1, op2, gI, addI, subI, mulI, divI, modI, powI, ltI, leI, gtI, geI, minI, maxI, bS, bO, andB, orB, notB, andV, orV, notV, chI, ifE, tupS, lstS, nilA, consA, callS, callK, isiS, lenD, intD, ixD, atR, dgetD, big, plS, plainD, rowD, at0, at1, V_number, h]
  show bodyS 1 [false] g_is_row [rowD p] = _
  rw [bodyS, g_is_row, show startS 1 [false] [rowD p] = [.im (rowD p)] from rfl, seq_nx e1, e2]
theorem blsO_map : ∀ bs : List Bool, blsO (bs.map .bool) = some bs
  | [] => rfl
  | b :: r => by
    have ih := blsO_map r
    simp [blsO, ih]
theorem zip_rows : ∀ (x : Int × Int) (rs : List (Int × Int)), zipD ((x :: rs).map rowD) (rs.map rowD) = (List.zip (x :: rs) rs).map fun q => .tuple [rowD q.1, rowD q.2]
  | x, [] => rfl
  | x, y :: r => by
    have ih := zip_rows y r
    simp only [List.map_cons, zipD, List.zip_cons_cons]
    simp only [List.map_cons] at ih
    rw [ih]
theorem cut1 {α : Type} (x : α) (r : List α) : cutL (x :: r) (some 1) none = r := by
  unfold cutL
  rw [show HT.sIx (x :: r).length 0 (some 1) = min 1 (x :: r).length from HT.sIx_nat _ 0 1, HT.sIx_none]
  have : min 1 (x :: r).length = 1 := by simp
  rw [this]
  simp
theorem zip_pw {α : Type} {Rr : α → α → Prop} : ∀ (x : α) (r : List α), (x :: r).Pairwise Rr → ∀ q ∈ List.zip (x :: r) r, Rr q.1 q.2
  | x, [], _, q, hq => by simp at hq
  | x, y :: r, h, q, hq => by
    rw [List.zip_cons_cons] at hq
    rw [List.pairwise_cons] at h
    rcases List.mem_cons.mp hq with e | hq
    · subst e
      exact h.1 y List.mem_cons_self
    · exact zip_pw y r h.2 q hq
theorem V_rows {rs : List (Int × Int)} (h : Rows rs) : V_are_rows [rowsD rs] = .ok (.bool true) := by
  have hl : (rs.map rowD).length ≤ 12 := by simpa using h.len
  have e0 : lcS (itL (vP 0)) [1] (.nm 1) yesB (callS (consA (vP 1) nilA) V_is_row []) [.im (rowsD rs), .no, .no, .no] = .ok (.list ((rs.map fun _ => true).map .bool)) := by
    have z : lcGo (.nm 1) yesB (callS (consA (vP 1) nilA) V_is_row []) (wipeD [.im (rowsD rs), .no, .no, .no] [1]) (rs.map rowD) = .ok ((rs.map rowD).map fun _ => .bool true) := by
      refine lcGo_map fun x hx => ?_
      obtain ⟨p, hp, rfl⟩ := List.mem_map.mp hx
      have := h.wk p hp
      refine ⟨_, rfl, rfl, ?_⟩
      simp [wipeD, setS, setN, parPP, parNP, parPN, parNN, toO, toB, ifS, retS, exS, appS, extS, dputS, frzS, nxS, vP, vT, cS, op1, op2, gI, addI, subI, mulI, divI, modI, powI, ltI, leI, gtI, geI, minI, maxI, bS, bO, andB, orB, notB, andV, orV, notV, chI, ifE, tupS, lstS, nilA, consA, callS, callK, isiS, lenD, intD, ixD, atR, dgetD, big, plS, plainD, V_row, this]
    have hl2 : rs.length ≤ 1000000 := by have := h.len; omega
    simp [lcS, itL, vP, rowsD, big, hl2]
    simp [rowsD] at z
    rw [z]
    simp
  have e1 : g_are_rows_1 [.im (rowsD rs), .no, .no, .no] = .nx [.im (rowsD rs), .no, .no, .no] := by
    have hl3 : ¬ (12 : Int) < rs.length := by have := h.len; omega
    simp only [g_are_rows_1, ifS, toB, orB, notB, bS, isiS, op1, op2, vP, cS, e0]
    have : blsO (List.map (PyData.bool ∘ fun x => true) rs) = some (rs.map fun _ => true) := by
      rw [← List.map_map]
      exact blsO_map _
    simp [isiLst, rowsD, allD, setS, setN, parPP, parNP, parPN, parNN, toO, toB, ifS, retS, exS, appS, extS, dputS, frzS, nxS, vP, vT, cS, op1, op2, gI, addI, subI, mulI, divI, modI, powI, ltI, leI, gtI, geI, minI, maxI, bS, bO, andB, orB, notB, andV, orV, notV, chI, ifE, tupS, lstS, nilA, consA, callS, callK, isiS, lenD, intD, ixD, atR, dgetD, big, plS, plainD, hl3, this]
  have e2 : ∃ bs : List Bool, bs.all id = true ∧ lcS (itZ (vP 0) (slL (vP 0) (someO (cS (.int 1))) noO)) [2, 3] (.pr 2 3) yesB (op2 ltI (op2 ixD (vP 2) (cS (.int 0))) (op2 ixD (vP 3) (cS (.int 0)))) [.im (rowsD rs), .no, .no, .no] = .ok (.list (bs.map .bool)) := by
    cases rs with
    | nil => exact ⟨[], rfl, rfl⟩
    | cons x r =>
      have z : lcGo (.pr 2 3) yesB (op2 ltI (op2 ixD (vP 2) (cS (.int 0))) (op2 ixD (vP 3) (cS (.int 0)))) (wipeD [.im (rowsD (x :: r)), .no, .no, .no] [2, 3]) ((List.zip (x :: r) r).map fun q => .tuple [rowD q.1, rowD q.2]) = .ok (((List.zip (x :: r) r).map fun q => PyData.tuple [rowD q.1, rowD q.2]).map fun _ => .bool true) := by
        refine lcGo_map fun y hy => ?_
        obtain ⟨q, hq, rfl⟩ := List.mem_map.mp hy
        refine ⟨_, rfl, rfl, ?_⟩
        have hlt : q.1.1 < q.2.1 := zip_pw x r h.up q hq
        simp [wipeD, setS, setN, parPP, parNP, parPN, parNN, toO, toB, ifS, retS, exS, appS, extS, dputS, frzS, nxS, vP, vT, cS, op1, op2, gI, addI, subI, mulI, divI, modI, powI, ltI, leI, gtI, geI, minI, maxI, bS, bO, andB, orB, notB, andV, orV, notV, chI, ifE, tupS, lstS, nilA, consA, callS, callK, isiS, lenD, intD, ixD, atR, dgetD, big, plS, plainD, rowD, at0, hlt]
      refine ⟨(List.zip (x :: r) r).map fun _ => true, by simp, ?_⟩
      have hz := zip_rows x r
      have hb : ((List.zip (x :: r) r).map fun q => PyData.tuple [rowD q.1, rowD q.2]).length ≤ big := by
        have := h.len
        simp only [List.length_cons] at this
        simp [big]
        omega
      have hi : itZ (vP 0) (slL (vP 0) (someO (cS (.int 1))) noO) [.im (rowsD (x :: r)), .no, .no, .no] = .ok ((List.zip (x :: r) r).map fun q => .tuple [rowD q.1, rowD q.2]) := by
        rw [← hz]
        simp [itZ, slL, someO, noO, vP, cS, rowsD, cut1]
      unfold lcS
      rw [hi, R.ok_bind, if_pos hb, z]
      simp
  obtain ⟨bs, hb, e2⟩ := e2
  have e3 : g_are_rows_2 [.im (rowsD rs), .no, .no, .no] = .rt (.bool true) := by
    simp only [g_are_rows_2, retS, toO, op1, e2, R.ok_bind, allD, blsO_map, hb]
  show bodyS 4 [false] g_are_rows [rowsD rs] = _
  rw [bodyS, g_are_rows, show startS 4 [false] [rowsD rs] = [.im (rowsD rs), .no, .no, .no] from rfl, seq_nx e1, e3]
end Cb
namespace Cb
open PySem PySem.Spec PyProof.Rows L2
/-! ### numbers, names, kinds, rows: of anything -/
def numB (d : PyData) (a b : Int) : Bool := match d with
  | .int i => decide (a ≤ i) && decide (i ≤ b)
  | _ => false
theorem V_num (d : PyData) (a b : Int) : V_is_number [d, .int a, .int b] = .ok (.bool (numB d a b)) := by
  cases d with
  | int i =>
    by_cases h : a ≤ i
    · simp [V_is_number, bodyS, startS, g_is_number, g_is_number_1, setS, setN, parPP, parNP, parPN, parNN, toO, toB, ifS, retS, exS, appS, extS, dputS, frzS, nxS, vP, vT, cS, op1, op2, gI, addI, subI, mulI, divI, modI, powI, ltI, leI, gtI, geI, minI, maxI, bS, bO, andB, orB, notB, andV, orV, notV, chI, ifE, tupS, lstS, nilA, consA, callS, callK, isiS, lenD, intD, ixD, atR, dgetD, big, plS, plainD, isiInt, isiBool, h, numB]
    · simp [V_is_number, bodyS, startS, g_is_number, g_is_number_1, setS, setN, parPP, parNP, parPN, parNN, toO, toB, ifS, retS, exS, appS, extS, dputS, frzS, nxS, vP, vT, cS, op1, op2, gI, addI, subI, mulI, divI, modI, powI, ltI, leI, gtI, geI, minI, maxI, bS, bO, andB, orB, notB, andV, orV, notV, chI, ifE, tupS, lstS, nilA, consA, callS, callK, isiS, lenD, intD, ixD, atR, dgetD, big, plS, plainD, isiInt, isiBool, h, numB]
  | _ => simp [V_is_number, bodyS, startS, g_is_number, g_is_number_1, setS, setN, parPP, parNP, parPN, parNN, toO, toB, ifS, retS, exS, appS, extS, dputS, frzS, nxS, vP, vT, cS, op1, op2, gI, addI, subI, mulI, divI, modI, powI, ltI, leI, gtI, geI, minI, maxI, bS, bO, andB, orB, notB, andV, orV, notV, chI, ifE, tupS, lstS, nilA, consA, callS, callK, isiS, lenD, intD, ixD, atR, dgetD, big, plS, plainD, isiInt, isiBool, numB]
abbrev abc : Str := "abcdefghijklmnopqrstuvwxyz"
theorem abc_cps : abc.cps.toList = List.range' 97 26 := by decide +kernel
theorem isiStr (d : PyData) : isiD "str" d = .ok (.bool (match d with | .str _ => true | _ => false)) := by cases d <;> rfl
def smallB (c : Nat) : Bool := decide (97 ≤ c) && decide (c < 123)
theorem mem_abc (c : Nat) : decide (c ∈ abc.cps.toList) = smallB c := by
  rw [abc_cps]
  unfold smallB
  by_cases h1 : 97 ≤ c
  · by_cases h2 : c < 123
    · simp [h1, h2, List.mem_range'_1]
    · simp [h1, h2, List.mem_range'_1]
  · simp [h1, List.mem_range'_1]
def nameB (d : PyData) : Bool := match d with
  | .str x => decide (1 ≤ x.length) && decide (x.length ≤ 6) && x.cps.toList.all smallB
  | _ => false
/-- no text in it is too long to be asked for its length -/
def okS (d : PyData) : Prop := ∀ x, d = .str x → x.length ≤ big
theorem V_name {d : PyData} (h : okS d) : V_is_name [d] = .ok (.bool (nameB d)) := by
  cases d with
  | str x =>
    have hl : x.length ≤ big := h x rfl
    have hl2 : x.length ≤ 1000000 := hl
    have hz : x.cps.size ≤ 1000000 := hl
    by_cases h1 : 1 ≤ (x.length : Int)
    · by_cases h2 : (x.length : Int) ≤ 6
      · have z := lcGo_fm (k := .nm 1) (ft := yesB) (fe := op2 insD (vP 1) (cS (.str abc))) (ds := wipeD [.im (.str x), .no] [1]) (fun c : Nat => PyData.str ⟨#[c]⟩) (fun _ => true) (fun c => .bool (smallB c)) (xs := x.cps.toList) (fun c hc => ⟨_, rfl, rfl, fun _ => by
          have this : decide (c ∈ abc.cps) = smallB c := by rw [← mem_abc c]; exact decide_eq_decide.mpr Array.mem_toList_iff.symm
          simp [wipeD, op2, vP, cS, insD, signO, this]⟩)
        rw [List.filter_eq_self.mpr (fun _ _ => rfl)] at z
        have el : lcS (itS (vP 0)) [1] (.nm 1) yesB (op2 insD (vP 1) (cS (.str abc))) [.im (.str x), .no] = .ok (.list ((x.cps.toList.map smallB).map .bool)) := by
          simp only [lcS, itS, vP, List.getElem?_cons_zero, R.ok_bind, signsD, List.length_map, Array.length_toList, big, if_pos hz]
          rw [z]
          simp
        have ea : op1 allD (lcS (itS (vP 0)) [1] (.nm 1) yesB (op2 insD (vP 1) (cS (.str abc)))) [.im (.str x), .no] = .ok (.bool (x.cps.toList.all smallB)) := by
          simp only [op1, el, R.ok_bind, allD, blsO_map]
          simp [Function.comp_def]
        have hb : nameB (.str x) = x.cps.toList.all smallB := by
          unfold nameB
          simp only []
          rw [decide_eq_true (show 1 ≤ x.length by omega), decide_eq_true (show x.length ≤ 6 by omega)]
          simp
        rw [hb]
        show bodyS 2 [false] g_is_name [.str x] = _
        simp only [bodyS, show startS 2 [false] [.str x] = [.im (.str x), .no] from rfl, g_is_name, g_is_name_1, retS, andV, ea]
        simp [setS, setN, parPP, parNP, parPN, parNN, toO, toB, ifS, retS, exS, appS, extS, dputS, frzS, nxS, vP, vT, cS, op1, op2, gI, addI, subI, mulI, divI, modI, powI, ltI, leI, gtI, geI, minI, maxI, bS, bO, andB, orB, notB, andV, orV, notV, chI, ifE, tupS, lstS, nilA, consA, callS, callK, isiS, lenD, intD, ixD, atR, dgetD, big, plS, plainD, isiStr, hl2, h1, h2]
      · have hb : nameB (.str x) = false := by
          unfold nameB
          simp only []
          rw [decide_eq_false (show ¬ x.length ≤ 6 by omega)]
          simp
        rw [hb]
        simp [V_is_name, bodyS, startS, g_is_name, g_is_name_1, setS, setN, parPP, parNP, parPN, parNN, toO, toB, ifS, retS, exS, appS, extS, dputS, frzS, nxS, vP, vT, cS, op1, op2, gI, addI, subI, mulI, divI, modI, powI, ltI, leI, gtI, geI, minI, maxI, bS, bO, andB, orB, notB, andV, orV, notV, chI, ifE, tupS, lstS, nilA, consA, callS, callK, isiS, lenD, intD, ixD, atR, dgetD, big, plS, plainD, isiStr, hl2, h1, h2]
    · have hb : nameB (.str x) = false := by
        unfold nameB
        simp only []
        rw [decide_eq_false (show ¬ 1 ≤ x.length by omega)]
        simp
      rw [hb]
      simp [V_is_name, bodyS, startS, g_is_name, g_is_name_1, setS, setN, parPP, parNP, parPN, parNN, toO, toB, ifS, retS, exS, appS, extS, dputS, frzS, nxS, vP, vT, cS, op1, op2, gI, addI, subI, mulI, divI, modI, powI, ltI, leI, gtI, geI, minI, maxI, bS, bO, andB, orB, notB, andV, orV, notV, chI, ifE, tupS, lstS, nilA, consA, callS, callK, isiS, lenD, intD, ixD, atR, dgetD, big, plS, plainD, isiStr, hl2, h1]
  | _ => simp [V_is_name, bodyS, startS, g_is_name, g_is_name_1, setS, setN, parPP, parNP, parPN, parNN, toO, toB, ifS, retS, exS, appS, extS, dputS, frzS, nxS, vP, vT, cS, op1, op2, gI, addI, subI, mulI, divI, modI, powI, ltI, leI, gtI, geI, minI, maxI, bS, bO, andB, orB, notB, andV, orV, notV, chI, ifE, tupS, lstS, nilA, consA, callS, callK, isiS, lenD, intD, ixD, atR, dgetD, big, plS, plainD, isiStr, nameB]
theorem eqD_int (a b : Int) : eqD (.int a) (.int b) = .ok (.bool (a == b)) := by simp [eqD, sh_int, PyData.eqv]
def kindB (d : PyData) : Bool := match d with
  | .tuple [a, b, c] => nameB a && (numB b 1 9 && numB c 1 4)
  | _ => false
def okK (d : PyData) : Prop := ∀ a b c, d = .tuple [a, b, c] → okS a
theorem V_kind {d : PyData} (h : okK d) : V_is_kind [d] = .ok (.bool (kindB d)) := by
  cases d with
  | tuple xs =>
    match xs, h with
    | [a, b, c], h =>
      have ha := h a b c rfl
      have e1 : g_is_kind_1 [.im (.tuple [a, b, c])] = if nameB a = true then .nx [.im (.tuple [a, b, c])] else .rt (.bool false) := by
        cases hn : nameB a <;> simp [g_is_kind_1, g_is_kind_1t_1, setS, setN, parPP, parNP, parPN, parNN, toO, toB, ifS, retS, exS, appS, extS, dputS, frzS, nxS, vP, vT, cS, op1, op2, gI, addI, subI, mulI, divI, modI, powI, ltI, leI, gtI, geI, minI, maxI, bS, bO, andB, orB, notB, andV, orV, notV, chI, ifE, tupS, lstS, nilA, consA, callS, callK, isiS, lenD, intD, ixD, atR, dgetD, big, plS, plainD, isiTup, neD, sh_int, PyData.eqv, at0, V_name ha, hn]
      have e2 : g_is_kind_2 [.im (.tuple [a, b, c])] = .rt (.bool (numB b 1 9 && numB c 1 4)) := by
        cases hn : numB b 1 9 <;> simp [g_is_kind_2, setS, setN, parPP, parNP, parPN, parNN, toO, toB, ifS, retS, exS, appS, extS, dputS, frzS, nxS, vP, vT, cS, op1, op2, gI, addI, subI, mulI, divI, modI, powI, ltI, leI, gtI, geI, minI, maxI, bS, bO, andB, orB, notB, andV, orV, notV, chI, ifE, tupS, lstS, nilA, consA, callS, callK, isiS, lenD, intD, ixD, atR, dgetD, big, plS, plainD, at1, at2, V_num, hn]
      show bodyS 1 [false] g_is_kind [.tuple [a, b, c]] = _
      rw [bodyS, g_is_kind, show startS 1 [false] [PyData.tuple [a, b, c]] = [.im (.tuple [a, b, c])] from rfl]
      cases hn : nameB a with
      | true =>
        rw [hn, if_pos rfl] at e1
        rw [seq_nx e1, e2]
        simp [kindB, hn]
      | false =>
        rw [hn, if_neg (by simp)] at e1
        rw [seq_rt e1]
        simp [kindB, hn]
    | [], _ => simp [V_is_kind, bodyS, startS, g_is_kind, g_is_kind_1, g_is_kind_1t_1, seqS, setS, setN, parPP, parNP, parPN, parNN, toO, toB, ifS, retS, exS, appS, extS, dputS, frzS, nxS, vP, vT, cS, op1, op2, gI, addI, subI, mulI, divI, modI, powI, ltI, leI, gtI, geI, minI, maxI, bS, bO, andB, orB, notB, andV, orV, notV, chI, ifE, tupS, lstS, nilA, consA, callS, callK, isiS, lenD, intD, ixD, atR, dgetD, big, plS, plainD, isiTup, neD, sh_int, PyData.eqv, kindB]
    | [_], _ => simp [V_is_kind, bodyS, startS, g_is_kind, g_is_kind_1, g_is_kind_1t_1, seqS, setS, setN, parPP, parNP, parPN, parNN, toO, toB, ifS, retS, exS, appS, extS, dputS, frzS, nxS, vP, vT, cS, op1, op2, gI, addI, subI, mulI, divI, modI, powI, ltI, leI, gtI, geI, minI, maxI, bS, bO, andB, orB, notB, andV, orV, notV, chI, ifE, tupS, lstS, nilA, consA, callS, callK, isiS, lenD, intD, ixD, atR, dgetD, big, plS, plainD, isiTup, neD, sh_int, PyData.eqv, kindB]
    | [_, _], _ => simp [V_is_kind, bodyS, startS, g_is_kind, g_is_kind_1, g_is_kind_1t_1, seqS, setS, setN, parPP, parNP, parPN, parNN, toO, toB, ifS, retS, exS, appS, extS, dputS, frzS, nxS, vP, vT, cS, op1, op2, gI, addI, subI, mulI, divI, modI, powI, ltI, leI, gtI, geI, minI, maxI, bS, bO, andB, orB, notB, andV, orV, notV, chI, ifE, tupS, lstS, nilA, consA, callS, callK, isiS, lenD, intD, ixD, atR, dgetD, big, plS, plainD, isiTup, neD, sh_int, PyData.eqv, kindB]
    | _ :: _ :: _ :: _ :: r, _ =>
      have : ¬ ((r.length : Int) + 1 + 1 + 1 + 1 = 3) := by omega
      simp [V_is_kind, bodyS, startS, g_is_kind, g_is_kind_1, g_is_kind_1t_1, seqS, setS, setN, parPP, parNP, parPN, parNN, toO, toB, ifS, retS, exS, appS, extS, dputS, frzS, nxS, vP, vT, cS, op1, op2, gI, addI, subI, mulI, divI, modI, powI, ltI, leI, gtI, geI, minI, maxI, bS, bO, andB, orB, notB, andV, orV, notV, chI, ifE, tupS, lstS, nilA, consA, callS, callK, isiS, lenD, intD, ixD, atR, dgetD, big, plS, plainD, isiTup, neD, sh_int, PyData.eqv, kindB, this]
  | _ => simp [V_is_kind, bodyS, startS, g_is_kind, g_is_kind_1, g_is_kind_1t_1, seqS, setS, setN, parPP, parNP, parPN, parNN, toO, toB, ifS, retS, exS, appS, extS, dputS, frzS, nxS, vP, vT, cS, op1, op2, gI, addI, subI, mulI, divI, modI, powI, ltI, leI, gtI, geI, minI, maxI, bS, bO, andB, orB, notB, andV, orV, notV, chI, ifE, tupS, lstS, nilA, consA, callS, callK, isiS, lenD, intD, ixD, atR, dgetD, big, plS, plainD, isiTup, kindB]
/-- the names of kinds -/
def nmK (d : PyData) : Str := match d with
  | .tuple (.str x :: _) => x
  | _ => Str.empty
def kindsB (d : PyData) : Bool := match d with
  | .tuple xs => decide (1 ≤ xs.length) && decide (xs.length ≤ 4) && xs.all kindB && decide (ndS (xs.map nmK) (xs.map nmK).length = xs.length)
  | _ => false
def okKs (d : PyData) : Prop := ∀ xs, d = .tuple xs → ∀ k ∈ xs, okK k
theorem strs_map : ∀ ns : List Str, strsO (ns.map .str) = some ns
  | [] => rfl
  | n :: r => by
    have ih := strs_map r
    simp [strsO, ih]
theorem V_kinds {d : PyData} (h : okKs d) : V_are_kinds [d] = .ok (.bool (kindsB d)) := by
  cases d with
  | tuple xs =>
    by_cases h1 : 1 ≤ (xs.length : Int)
    · by_cases h2 : (xs.length : Int) ≤ 4
      · have z := lcGo_fm (k := .nm 1) (ft := yesB) (fe := callS (consA (vP 1) nilA) V_is_kind []) (ds := wipeD [.im (.tuple xs), .no] [1]) id (fun _ => true) (fun d => .bool (kindB d)) (xs := xs) (fun d hd => ⟨_, rfl, rfl, fun _ => by
          simp [wipeD, setS, setN, parPP, parNP, parPN, parNN, toO, toB, ifS, retS, exS, appS, extS, dputS, frzS, nxS, vP, vT, cS, op1, op2, gI, addI, subI, mulI, divI, modI, powI, ltI, leI, gtI, geI, minI, maxI, bS, bO, andB, orB, notB, andV, orV, notV, chI, ifE, tupS, lstS, nilA, consA, callS, callK, isiS, lenD, intD, ixD, atR, dgetD, big, plS, plainD, V_kind (h xs rfl d hd)]⟩)
        rw [List.filter_eq_self.mpr (fun _ _ => rfl), List.map_id] at z
        have hb : xs.length ≤ big := by unfold big; omega
        have el : lcS (itT (vP 0)) [1] (.nm 1) yesB (callS (consA (vP 1) nilA) V_is_kind []) [.im (.tuple xs), .no] = .ok (.list ((xs.map kindB).map .bool)) := by
          simp only [lcS, itT, vP, List.getElem?_cons_zero, R.ok_bind, if_pos hb]
          rw [z]
          simp [Function.comp_def]
        have ea : op1 allD (lcS (itT (vP 0)) [1] (.nm 1) yesB (callS (consA (vP 1) nilA) V_is_kind [])) [.im (.tuple xs), .no] = .ok (.bool (xs.all kindB)) := by
          simp only [op1, el, R.ok_bind, allD, blsO_map]
          simp [Function.comp_def]
        have e1 : g_are_kinds_1 [.im (.tuple xs), .no] = if xs.all kindB = true then .nx [.im (.tuple xs), .no] else .rt (.bool false) := by
          simp only [g_are_kinds_1, ifS, orB, notB, bS, ea, R.ok_bind, bO]
          cases hk : xs.all kindB <;> simp [g_are_kinds_1t_1, setS, setN, parPP, parNP, parPN, parNN, toO, toB, ifS, retS, exS, appS, extS, dputS, frzS, nxS, vP, vT, cS, op1, op2, gI, addI, subI, mulI, divI, modI, powI, ltI, leI, gtI, geI, minI, maxI, bS, bO, andB, orB, notB, andV, orV, notV, chI, ifE, tupS, lstS, nilA, consA, callS, callK, isiS, lenD, intD, ixD, atR, dgetD, big, plS, plainD, isiTup, h1, h2]
        show bodyS 2 [false] g_are_kinds [.tuple xs] = _
        rw [bodyS, g_are_kinds, show startS 2 [false] [PyData.tuple xs] = [.im (.tuple xs), .no] from rfl]
        cases hk : xs.all kindB with
        | false =>
          rw [hk, if_neg (by simp)] at e1
          rw [seq_rt e1]
          simp [kindsB, hk]
        | true =>
          rw [hk, if_pos rfl] at e1
          rw [seq_nx e1]
          have z2 := lcGo_fm (k := .nm 1) (ft := yesB) (fe := op2 ixD (vP 1) (cS (.int 0))) (ds := wipeD [.im (.tuple xs), .no] [1]) id (fun _ => true) (fun d => .str (nmK d)) (xs := xs) (fun d hd => ⟨_, rfl, rfl, fun _ => by
            have hkd := List.all_eq_true.mp hk d hd
            unfold kindB at hkd
            split at hkd
            · rename_i a b c
              have hna : nameB a = true := by
                simp only [Bool.and_eq_true] at hkd
                exact hkd.1
              unfold nameB at hna
              split at hna
              · simp [wipeD, setS, setN, parPP, parNP, parPN, parNN, toO, toB, ifS, retS, exS, appS, extS, dputS, frzS, nxS, vP, vT, cS, op1, op2, gI, addI, subI, mulI, divI, modI, powI, ltI, leI, gtI, geI, minI, maxI, bS, bO, andB, orB, notB, andV, orV, notV, chI, ifE, tupS, lstS, nilA, consA, callS, callK, isiS, lenD, intD, ixD, atR, dgetD, big, plS, plainD, at0, nmK]
              · cases hna
            · cases hkd⟩)
          rw [List.filter_eq_self.mpr (fun _ _ => rfl), List.map_id] at z2
          have el2 : lcS (itT (vP 0)) [1] (.nm 1) yesB (op2 ixD (vP 1) (cS (.int 0))) [.im (.tuple xs), .no] = .ok (.list ((xs.map nmK).map .str)) := by
            simp only [lcS, itT, vP, List.getElem?_cons_zero, R.ok_bind, if_pos hb]
            rw [z2]
            simp [Function.comp_def]
          have hb2 : (xs.map nmK).length ≤ 1000 := by simp; omega
          have e2 : g_are_kinds_2 [.im (.tuple xs), .no] = .rt (.bool (decide (ndS (xs.map nmK) (xs.map nmK).length = xs.length))) := by
            simp only [g_are_kinds_2, retS, op2, op1, el2, R.ok_bind, lenSetD, strs_map, if_pos hb2]
            simp only [vP, List.getElem?_cons_zero, R.ok_bind, lenD, eqD_int, toO]
            congr 3
            by_cases hq : ndS (xs.map nmK) (xs.map nmK).length = xs.length
            · rw [hq]
              simp
            · have : ¬ ((ndS (xs.map nmK) (xs.map nmK).length : Int) = xs.length) := by omega
              rw [decide_eq_false hq]
              exact beq_eq_false_iff_ne.mpr this
          rw [e2]
          have q1 : 1 ≤ xs.length := by omega
          have q2 : xs.length ≤ 4 := by omega
          simp [kindsB, hk, q1, q2]
      · have q2 : ¬ xs.length ≤ 4 := by omega
        simp [V_are_kinds, bodyS, startS, g_are_kinds, g_are_kinds_1, g_are_kinds_1t_1, seqS, setS, setN, parPP, parNP, parPN, parNN, toO, toB, ifS, retS, exS, appS, extS, dputS, frzS, nxS, vP, vT, cS, op1, op2, gI, addI, subI, mulI, divI, modI, powI, ltI, leI, gtI, geI, minI, maxI, bS, bO, andB, orB, notB, andV, orV, notV, chI, ifE, tupS, lstS, nilA, consA, callS, callK, isiS, lenD, intD, ixD, atR, dgetD, big, plS, plainD, isiTup, h1, h2, kindsB, q2]
    · have q1 : ¬ 1 ≤ xs.length := by omega
      simp [V_are_kinds, bodyS, startS, g_are_kinds, g_are_kinds_1, g_are_kinds_1t_1, seqS, setS, setN, parPP, parNP, parPN, parNN, toO, toB, ifS, retS, exS, appS, extS, dputS, frzS, nxS, vP, vT, cS, op1, op2, gI, addI, subI, mulI, divI, modI, powI, ltI, leI, gtI, geI, minI, maxI, bS, bO, andB, orB, notB, andV, orV, notV, chI, ifE, tupS, lstS, nilA, consA, callS, callK, isiS, lenD, intD, ixD, atR, dgetD, big, plS, plainD, isiTup, h1, kindsB, q1]
  | _ => simp [V_are_kinds, bodyS, startS, g_are_kinds, g_are_kinds_1, g_are_kinds_1t_1, seqS, setS, setN, parPP, parNP, parPN, parNN, toO, toB, ifS, retS, exS, appS, extS, dputS, frzS, nxS, vP, vT, cS, op1, op2, gI, addI, subI, mulI, divI, modI, powI, ltI, leI, gtI, geI, minI, maxI, bS, bO, andB, orB, notB, andV, orV, notV, chI, ifE, tupS, lstS, nilA, consA, callS, callK, isiS, lenD, intD, ixD, atR, dgetD, big, plS, plainD, isiTup, kindsB]
end Cb
namespace Cb
open PySem PySem.Spec PyProof.Rows L2
def rowB (d : PyData) : Bool := match d with
  | .tuple [a, b] => numB a 0 99 && numB b 1 99
  | _ => false
theorem V_rowA (d : PyData) : V_is_row [d] = .ok (.bool (rowB d)) := by
  cases d with
  | tuple xs =>
    match xs with
    | [a, b] =>
      have e1 : g_is_row_1 [.im (.tuple [a, b])] = .nx [.im (.tuple [a, b])] := by
        simp [g_is_row_1, g_is_row_1t_1, setS, setN, parPP, parNP, parPN, parNN, toO, toB, ifS, retS, exS, appS, extS, dputS, frzS, nxS, vP, vT, cS, op1, op2, gI, addI, subI, mulI, divI, modI, powI, ltI, leI, gtI, geI, minI, maxI, bS, bO, andB, orB, notB, andV, orV, notV, chI, ifE, tupS, lstS, nilA, consA, callS, callK, isiS, lenD, intD, ixD, atR, dgetD, big, plS, plainD, isiTup, neD, sh_int, PyData.eqv]
      have e2 : g_is_row_2 [.im (.tuple [a, b])] = .rt (.bool (numB a 0 99 && numB b 1 99)) := by
        cases hn : numB a 0 99 <;> simp [g_is_row_2, setS, setN, parPP, parNP, parPN, parNN, toO, toB, ifS, retS, exS, appS, extS, dputS, frzS, nxS, vP, vT, cS, op1, op2, gI, addI, subI, mulI, divI, modI, powI, ltI, leI, gtI, geI, minI, maxI, bS, bO, andB, orB, notB, andV, orV, notV, chI, ifE, tupS, lstS, nilA, consA, callS, callK, isiS, lenD, intD, ixD, atR, dgetD, big, plS, plainD, at0, at1, V_num, hn]
      show bodyS 1 [false] g_is_row [.tuple [a, b]] = _
      rw [bodyS, g_is_row, show startS 1 [false] [PyData.tuple [a, b]] = [.im (.tuple [a, b])] from rfl, seq_nx e1, e2]
      rfl
    | [] => simp [V_is_row, bodyS, startS, g_is_row, g_is_row_1, g_is_row_1t_1, seqS, setS, setN, parPP, parNP, parPN, parNN, toO, toB, ifS, retS, exS, appS, extS, dputS, frzS, nxS, vP, vT, cS, op1, op2, gI, addI, subI, mulI, divI, modI, powI, ltI, leI, gtI, geI, minI, maxI, bS, bO, andB, orB, notB, andV, orV, notV, chI, ifE, tupS, lstS, nilA, consA, callS, callK, isiS, lenD, intD, ixD, atR, dgetD, big, plS, plainD, isiTup, neD, sh_int, PyData.eqv, rowB]
    | [_] => simp [V_is_row, bodyS, startS, g_is_row, g_is_row_1, g_is_row_1t_1, seqS, setS, setN, parPP, parNP, parPN, parNN, toO, toB, ifS, retS, exS, appS, extS, dputS, frzS, nxS, vP, vT, cS, op1, op2, gI, addI, subI, mulI, divI, modI, powI, ltI, leI, gtI, geI, minI, maxI, bS, bO, andB, orB, notB, andV, orV, notV, chI, ifE, tupS, lstS, nilA, consA, callS, callK, isiS, lenD, intD, ixD, atR, dgetD, big, plS, plainD, isiTup, neD, sh_int, PyData.eqv, rowB]
    | _ :: _ :: _ :: r =>
      have : ¬ ((r.length : Int) + 1 + 1 + 1 = 2) := by omega
      simp [V_is_row, bodyS, startS, g_is_row, g_is_row_1, g_is_row_1t_1, seqS, setS, setN, parPP, parNP, parPN, parNN, toO, toB, ifS, retS, exS, appS, extS, dputS, frzS, nxS, vP, vT, cS, op1, op2, gI, addI, subI, mulI, divI, modI, powI, ltI, leI, gtI, geI, minI, maxI, bS, bO, andB, orB, notB, andV, orV, notV, chI, ifE, tupS, lstS, nilA, consA, callS, callK, isiS, lenD, intD, ixD, atR, dgetD, big, plS, plainD, isiTup, neD, sh_int, PyData.eqv, rowB, this]
  | _ => simp [V_is_row, bodyS, startS, g_is_row, g_is_row_1, g_is_row_1t_1, seqS, setS, setN, parPP, parNP, parPN, parNN, toO, toB, ifS, retS, exS, appS, extS, dputS, frzS, nxS, vP, vT, cS, op1, op2, gI, addI, subI, mulI, divI, modI, powI, ltI, leI, gtI, geI, minI, maxI, bS, bO, andB, orB, notB, andV, orV, notV, chI, ifE, tupS, lstS, nilA, consA, callS, callK, isiS, lenD, intD, ixD, atR, dgetD, big, plS, plainD, isiTup, rowB]
def fstI (d : PyData) : Int := match d with
  | .tuple (.int i :: _) => i
  | _ => 0
def rowsB (d : PyData) : Bool := match d with
  | .list xs => decide (xs.length ≤ 12) && xs.all rowB && (xs.zip xs.tail).all fun q => decide (fstI q.1 < fstI q.2)
  | _ => false
theorem zipD_zip : ∀ xs ys : List PyData, zipD xs ys = (xs.zip ys).map fun q => .tuple [q.1, q.2]
  | [], _ => rfl
  | _ :: _, [] => rfl
  | x :: xs, y :: ys => by simp [zipD, zipD_zip xs ys]
theorem cut_tail (xs : List PyData) : cutL xs (some 1) none = xs.tail := by
  cases xs with
  | nil => rfl
  | cons x r => exact cut1 x r
theorem row_fst {d : PyData} (h : rowB d = true) : ∃ i r, d = .tuple (.int i :: r) := by
  unfold rowB at h
  split at h
  · rename_i a b
    simp only [Bool.and_eq_true] at h
    have h1 := h.1
    unfold numB at h1
    split at h1
    · exact ⟨_, _, rfl⟩
    · cases h1
  · cases h
theorem V_rowsA (d : PyData) : V_are_rows [d] = .ok (.bool (rowsB d)) := by
  cases d with
  | list xs =>
    by_cases h1 : 12 < (xs.length : Int)
    · have q : ¬ xs.length ≤ 12 := by omega
      simp [V_are_rows, bodyS, startS, g_are_rows, g_are_rows_1, g_are_rows_1t_1, seqS, setS, setN, parPP, parNP, parPN, parNN, toO, toB, ifS, retS, exS, appS, extS, dputS, frzS, nxS, vP, vT, cS, op1, op2, gI, addI, subI, mulI, divI, modI, powI, ltI, leI, gtI, geI, minI, maxI, bS, bO, andB, orB, notB, andV, orV, notV, chI, ifE, tupS, lstS, nilA, consA, callS, callK, isiS, lenD, intD, ixD, atR, dgetD, big, plS, plainD, isiLst, h1, rowsB, q]
    · have z := lcGo_fm (k := .nm 1) (ft := yesB) (fe := callS (consA (vP 1) nilA) V_is_row []) (ds := wipeD [.im (.list xs), .no, .no, .no] [1]) id (fun _ => true) (fun d => .bool (rowB d)) (xs := xs) (fun d hd => ⟨_, rfl, rfl, fun _ => by
        simp [wipeD, setS, setN, parPP, parNP, parPN, parNN, toO, toB, ifS, retS, exS, appS, extS, dputS, frzS, nxS, vP, vT, cS, op1, op2, gI, addI, subI, mulI, divI, modI, powI, ltI, leI, gtI, geI, minI, maxI, bS, bO, andB, orB, notB, andV, orV, notV, chI, ifE, tupS, lstS, nilA, consA, callS, callK, isiS, lenD, intD, ixD, atR, dgetD, big, plS, plainD, V_rowA]⟩)
      rw [List.filter_eq_self.mpr (fun _ _ => rfl), List.map_id] at z
      have hb : xs.length ≤ big := by unfold big; omega
      have el : lcS (itL (vP 0)) [1] (.nm 1) yesB (callS (consA (vP 1) nilA) V_is_row []) [.im (.list xs), .no, .no, .no] = .ok (.list ((xs.map rowB).map .bool)) := by
        simp only [lcS, itL, vP, List.getElem?_cons_zero, R.ok_bind, if_pos hb]
        rw [z]
        simp [Function.comp_def]
      have ea : op1 allD (lcS (itL (vP 0)) [1] (.nm 1) yesB (callS (consA (vP 1) nilA) V_is_row [])) [.im (.list xs), .no, .no, .no] = .ok (.bool (xs.all rowB)) := by
        simp only [op1, el, R.ok_bind, allD, blsO_map]
        simp [Function.comp_def]
      have e1 : g_are_rows_1 [.im (.list xs), .no, .no, .no] = if xs.all rowB = true then .nx [.im (.list xs), .no, .no, .no] else .rt (.bool false) := by
        simp only [g_are_rows_1, ifS, orB, notB, bS, ea, R.ok_bind, bO]
        cases hk : xs.all rowB <;> simp [g_are_rows_1t_1, setS, setN, parPP, parNP, parPN, parNN, toO, toB, ifS, retS, exS, appS, extS, dputS, frzS, nxS, vP, vT, cS, op1, op2, gI, addI, subI, mulI, divI, modI, powI, ltI, leI, gtI, geI, minI, maxI, bS, bO, andB, orB, notB, andV, orV, notV, chI, ifE, tupS, lstS, nilA, consA, callS, callK, isiS, lenD, intD, ixD, atR, dgetD, big, plS, plainD, isiLst, h1]
      have q : xs.length ≤ 12 := by omega
      show bodyS 4 [false] g_are_rows [.list xs] = _
      rw [bodyS, g_are_rows, show startS 4 [false] [PyData.list xs] = [.im (.list xs), .no, .no, .no] from rfl]
      cases hk : xs.all rowB with
      | false =>
        rw [hk, if_neg (by simp)] at e1
        rw [seq_rt e1]
        simp [rowsB, hk]
      | true =>
        rw [hk, if_pos rfl] at e1
        rw [seq_nx e1]
        have z2 := lcGo_fm (k := .pr 2 3) (ft := yesB) (fe := op2 ltI (op2 ixD (vP 2) (cS (.int 0))) (op2 ixD (vP 3) (cS (.int 0)))) (ds := wipeD [.im (.list xs), .no, .no, .no] [2, 3]) (fun q : PyData × PyData => PyData.tuple [q.1, q.2]) (fun _ => true) (fun q => .bool (decide (fstI q.1 < fstI q.2))) (xs := xs.zip xs.tail) (fun q hq => ⟨_, rfl, rfl, fun _ => by
          have m1 : q.1 ∈ xs := (List.of_mem_zip hq).1
          have m2 : q.2 ∈ xs := List.mem_of_mem_tail (List.of_mem_zip hq).2
          obtain ⟨i, r, e1⟩ := row_fst (List.all_eq_true.mp hk _ m1)
          obtain ⟨j, r2, e2⟩ := row_fst (List.all_eq_true.mp hk _ m2)
          simp [wipeD, setS, setN, parPP, parNP, parPN, parNN, toO, toB, ifS, retS, exS, appS, extS, dputS, frzS, nxS, vP, vT, cS, op1, op2, gI, addI, subI, mulI, divI, modI, powI, ltI, leI, gtI, geI, minI, maxI, bS, bO, andB, orB, notB, andV, orV, notV, chI, ifE, tupS, lstS, nilA, consA, callS, callK, isiS, lenD, intD, ixD, atR, dgetD, big, plS, plainD, e1, e2, at0, fstI]⟩)
        rw [List.filter_eq_self.mpr (fun _ _ => rfl)] at z2
        have hb2 : ((xs.zip xs.tail).map fun q => PyData.tuple [q.1, q.2]).length ≤ big := by
          unfold big
          simp
          omega
        have el2 : lcS (itZ (vP 0) (slL (vP 0) (someO (cS (.int 1))) noO)) [2, 3] (.pr 2 3) yesB (op2 ltI (op2 ixD (vP 2) (cS (.int 0))) (op2 ixD (vP 3) (cS (.int 0)))) [.im (.list xs), .no, .no, .no] = .ok (.list (((xs.zip xs.tail).map fun q => decide (fstI q.1 < fstI q.2)).map .bool)) := by
          simp only [lcS, itZ, slL, someO, noO, cS, vP, List.getElem?_cons_zero, R.ok_bind, cut_tail, zipD_zip, if_pos hb2]
          rw [z2]
          simp [Function.comp_def]
        have e2 : g_are_rows_2 [.im (.list xs), .no, .no, .no] = .rt (.bool ((xs.zip xs.tail).all fun q => decide (fstI q.1 < fstI q.2))) := by
          simp only [g_are_rows_2, retS, op1, el2, R.ok_bind, allD, blsO_map, toO]
          simp [Function.comp_def]
        rw [e2]
        simp [rowsB, hk, q]
  | _ => simp [V_are_rows, bodyS, startS, g_are_rows, g_are_rows_1, g_are_rows_1t_1, seqS, setS, setN, parPP, parNP, parPN, parNN, toO, toB, ifS, retS, exS, appS, extS, dputS, frzS, nxS, vP, vT, cS, op1, op2, gI, addI, subI, mulI, divI, modI, powI, ltI, leI, gtI, geI, minI, maxI, bS, bO, andB, orB, notB, andV, orV, notV, chI, ifE, tupS, lstS, nilA, consA, callS, callK, isiS, lenD, intD, ixD, atR, dgetD, big, plS, plainD, isiLst, rowsB]
end Cb
namespace Cb
open PySem PySem.Spec PyProof.Rows L2
/-! ### the law's names -/
def sL (l : List Nat) : Str := ⟨l.toArray⟩
theorem sL_app (a b : List Nat) : sL a ++ sL b = sL (a ++ b) := by
  show Str.append (sL a) (sL b) = _
  simp [Str.append, sL]
theorem sL_len (a : List Nat) : (sL a).length = a.length := by simp [Str.length, sL]
theorem abc_at {i : Int} (h0 : 0 ≤ i) (h1 : i < 26) : ixD (.str abc) (.int i) = .ok (.str (sL [97 + i.toNat])) := by
  have e : abc.cps.toList[i.toNat]? = some (97 + i.toNat) := by
    rw [abc_cps, List.getElem?_range' (by omega)]
    simp
  have e2 : atI abc.cps.toList i = some (97 + i.toNat) := by
    have := atI_nat e
    rwa [Int.toNat_of_nonneg h0] at this
  have hl : abc.length ≤ big := by decide +kernel
  simp only [ixD, if_pos hl, atR, e2]
  rfl
theorem add_sL {a b : List Nat} (h : a.length + b.length ≤ 1000) : addT (.str (sL a)) (.str (sL b)) = .ok (.str (sL (a ++ b))) := by
  have hl : (sL a).length + (sL b).length ≤ big := by
    rw [sL_len, sL_len]
    unfold big
    omega
  simp only [addT, if_pos hl, sL_app]
/-- names: up to six small letters, none like another -/
structure Names (n : Nat) (xs : List (List Nat)) : Prop where
  len : xs.length = n
  ok : ∀ x ∈ xs, 1 ≤ x.length ∧ x.length ≤ 6 ∧ ∀ c ∈ x, 97 ≤ c ∧ c < 123
  nd : xs.Nodup
theorem cnt_at {q : Int} (h0 : 0 ≤ q) (h1 : q < 5) : ∃ d : Nat, d ≤ 5 ∧ ixD (.list [.int 0, .int 0, .int 1, .int 2, .int 5]) (.int q) = .ok (.int d) := by
  have : q = 0 ∨ q = 1 ∨ q = 2 ∨ q = 3 ∨ q = 4 := by omega
  rcases this with rfl | rfl | rfl | rfl | rfl
  · exact ⟨0, by omega, rfl⟩
  · exact ⟨0, by omega, rfl⟩
  · exact ⟨1, by omega, rfl⟩
  · exact ⟨2, by omega, rfl⟩
  · exact ⟨5, by omega, rfl⟩
/-- what the k-th name is like: its mark, at the end or ahead -/
def Mk (b : Bool) (p : Nat) (k : Nat) (x : List Nat) : Prop := ∃ r : List Nat, r.length ≤ 5 ∧ (∀ c ∈ r, 97 ≤ c ∧ c < 123) ∧ x = if b = true then r ++ [97 + (p + k) % 26] else (97 + (p + k) % 26) :: r
theorem mk_ne {b : Bool} {p j k : Nat} {x y : List Nat} (hj : j < 26) (hk : k < 26) (hne : j ≠ k) (hx : Mk b p j x) (hy : Mk b p k y) : x ≠ y := by
  obtain ⟨r, _, _, rfl⟩ := hx
  obtain ⟨q, _, _, rfl⟩ := hy
  intro z
  cases b with
  | true =>
    simp only [if_true] at z
    have := (List.append_inj' z rfl).2
    simp at this
    omega
  | false =>
    simp at z
    omega
theorem in62_of {i : Int} (h0 : 0 ≤ i) (h1 : i ≤ 1000) : in62 i = true := by
  simp [in62]
  omega
theorem toNat_nat (n : Nat) : ((n : Nat) : Int).toNat = n := by omega
theorem itR1_nat {f : ES} {ds : DS} {n : Nat} (h : f ds = .ok (.int n)) (hb : n ≤ 1000) : itR1 f ds = .ok (rangeD 0 n) := by
  have e : in62 (n : Int) = true := in62_of (by omega) (by omega)
  have e2 := toNat_nat n
  generalize (n : Int) = m at h e e2
  unfold itR1
  rw [h, R.ok_bind]
  simp only [e, if_true, e2]
section
variable {A : Str} {ns : List Int} {a : Int} {n : Nat} {xs : List (List Nat)} {i : Nat}
theorem names_rest (hA : ∀ i : Int, 0 ≤ i → i < 26 → ixD (.str A) (.int i) = .ok (.str (sL [97 + i.toNat]))) (hl : ns.length ≤ 63) (h0 : 0 ≤ a) (h1 : a < 80000) (hi : i < 26) (M : PyData) (z w : Sl) :
    ∃ r v, r.length ≤ 5 ∧ (∀ c ∈ r, 97 ≤ c ∧ c < 123) ∧ g__law_names_2b_2 [.im (.list (ns.map .int)), .im (.int a), .im (.int n), .im (.str A), .ow M, .im (.int i), .im (.str (sL [])), z, w] = .nx [.im (.list (ns.map .int)), .im (.int a), .im (.int n), .im (.str A), .ow M, .im (.int i), .im (.str (sL r)), v, w] := by
  obtain ⟨q, q0, q1, eq⟩ := pick_ok ns hl (k := a + 7 * i) (m := 5) (by omega) (by omega) (by omega)
  obtain ⟨d, d1, ed⟩ := cnt_at q0 q1
  have i7 : in64 7 = true := by decide
  have hd62 : in62 (d : Int) = true := in62_of (by omega) (by omega)
  have l5 : lstS (consA (cS (.int 0)) (consA (cS (.int 0)) (consA (cS (.int 1)) (consA (cS (.int 2)) (consA (cS (.int 5)) nilA))))) [.im (.list (ns.map .int)), .im (.int a), .im (.int n), .im (.str A), .ow M, .im (.int i), .im (.str (sL [])), z, w] = .ok (.list [.int 0, .int 0, .int 1, .int 2, .int 5]) := by simp [lstS, consA, nilA, cS, big]
  have hit : itR1 (op2 ixD (lstS (consA (cS (.int 0)) (consA (cS (.int 0)) (consA (cS (.int 1)) (consA (cS (.int 2)) (consA (cS (.int 5)) nilA)))))) (callS (consA (vP 0) (consA (op2 addI (vP 1) (op2 mulI (cS (.int 7)) (vP 5))) (consA (cS (.int 5)) nilA))) V__law_pick [])) [.im (.list (ns.map .int)), .im (.int a), .im (.int n), .im (.str A), .ow M, .im (.int i), .im (.str (sL [])), z, w] = .ok (rangeD 0 d) := by
    refine itR1_nat ?_ (by omega)
    simp only [op2, l5, callS, consA, nilA, vP, cS, List.getElem?_cons_zero, List.getElem?_cons_succ, R.ok_bind, mulI, addI, gI, i7, Bool.true_or, if_true, List.append_nil, eq, ed]
  have a2 := for_inv (k := .nm 7) (b := g__law_names_2b_2B) (items := rangeD 0 d) (ds := [.im (.list (ns.map .int)), .im (.int a), .im (.int n), .im (.str A), .ow M, .im (.int i), .im (.str (sL [])), z, w])
    (fun j ds => ∃ r v, r.length = j ∧ (∀ c ∈ r, 97 ≤ c ∧ c < 123) ∧ ds = [.im (.list (ns.map .int)), .im (.int a), .im (.int n), .im (.str A), .ow M, .im (.int i), .im (.str (sL r)), v, w]) hit ⟨[], z, rfl, by simp, rfl⟩ (by
    rintro j ds x hx ⟨r, v, hr, hc, rfl⟩
    obtain ⟨hj, rfl⟩ := range_at hx
    obtain ⟨u, u0, u1, eu⟩ := pick_ok ns hl (k := a + 7 * i + j + 1) (m := 26) (by omega) (by omega) (by omega)
    refine ⟨_, rfl, ?_⟩
    simp only [List.set_cons_zero, List.set_cons_succ, Int.zero_add]
    have sd := add_sL (a := r) (b := [97 + u.toNat]) (by simp; omega)
    refine ⟨[.im (.list (ns.map .int)), .im (.int a), .im (.int n), .im (.str A), .ow M, .im (.int i), .im (.str (sL (r ++ [97 + u.toNat]))), .im (.int j), w], ?_, r ++ [97 + u.toNat], _, by simp [hr], fun c hcm => ?_, rfl⟩
    · simp only [g__law_names_2b_2B, g__law_names_2b_2b_1, setS, op2, vP, cS, callS, consA, nilA, List.getElem?_cons_zero, List.getElem?_cons_succ, R.ok_bind, mulI, addI, gI, i7, Bool.true_or, if_true, List.append_nil, eu, hA u u0 u1, sd, toO, List.set_cons_zero, List.set_cons_succ]
    · rcases List.mem_append.mp hcm with hcm | hcm
      · exact hc c hcm
      · simp only [List.mem_singleton] at hcm
        subst hcm
        omega)
  obtain ⟨_, a2, r, v, hr, hc, rfl⟩ := a2
  rw [rangeD_len] at hr
  exact ⟨r, v, by omega, hc, a2⟩
theorem names_step (hA : ∀ i : Int, 0 ≤ i → i < 26 → ixD (.str A) (.int i) = .ok (.str (sL [97 + i.toNat]))) (hl : ns.length ≤ 63) (h0 : 0 ≤ a) (h1 : a < 80000) (hi : i < 26) {p t : Int} (p0 : 0 ≤ p) (p1 : p < 26) (ep : V__law_pick [.list (ns.map .int), .int (a + 60), .int 26] = .ok (.int p)) (et : V__law_pick [.list (ns.map .int), .int (a + 61), .int 2] = .ok (.int t)) (hlen : xs.length = i) (y z w : Sl) :
    ∃ r y' z' w', r.length ≤ 5 ∧ (∀ c ∈ r, 97 ≤ c ∧ c < 123) ∧ g__law_names_2B [.im (.list (ns.map .int)), .im (.int a), .im (.int n), .im (.str A), .ow (.list (xs.map fun x => PyData.str (sL x))), .im (.int i), y, z, w] = .nx [.im (.list (ns.map .int)), .im (.int a), .im (.int n), .im (.str A), .ow (.list ((xs ++ [if decide (t = 0) = true then r ++ [97 + (p.toNat + i) % 26] else (97 + (p.toNat + i) % 26) :: r]).map fun x => PyData.str (sL x))), .im (.int i), y', z', w'] := by
  have a1 : g__law_names_2b_1 [.im (.list (ns.map .int)), .im (.int a), .im (.int n), .im (.str A), .ow (.list (xs.map fun x => PyData.str (sL x))), .im (.int i), y, z, w] = .nx [.im (.list (ns.map .int)), .im (.int a), .im (.int n), .im (.str A), .ow (.list (xs.map fun x => PyData.str (sL x))), .im (.int i), .im (.str (sL [])), z, w] := by
    have : (Str.ofString "" : Str) = sL [] := by decide +kernel
    simp only [g__law_names_2b_1, setS, cS, this, toO, List.set_cons_zero, List.set_cons_succ]
  obtain ⟨r, v, hr, hc, a2⟩ := names_rest (n := n) hA hl h0 h1 hi (.list (xs.map fun x => PyData.str (sL x))) z w
  have m0 : 0 ≤ (p + (i : Int)) % 26 := Int.emod_nonneg _ (by omega)
  have m1 : (p + (i : Int)) % 26 < 26 := Int.emod_lt_of_pos _ (by omega)
  have a3 : g__law_names_2b_3 [.im (.list (ns.map .int)), .im (.int a), .im (.int n), .im (.str A), .ow (.list (xs.map fun x => PyData.str (sL x))), .im (.int i), .im (.str (sL r)), v, w] = .nx [.im (.list (ns.map .int)), .im (.int a), .im (.int n), .im (.str A), .ow (.list (xs.map fun x => PyData.str (sL x))), .im (.int i), .im (.str (sL r)), v, .im (.str (sL [97 + ((p + (i : Int)) % 26).toNat]))] := by
    simp only [g__law_names_2b_3, setS, op2, vP, cS, callS, consA, nilA, List.getElem?_cons_zero, List.getElem?_cons_succ, R.ok_bind, addI, modI, gI, List.append_nil, ep, show decide ((0 : Int) < 26) = true from rfl, if_true, hA _ m0 m1, toO, List.set_cons_zero, List.set_cons_succ]
  have em : ((p + (i : Int)) % 26).toNat = (p.toNat + i) % 26 := by omega
  rw [em] at a3
  have hb : (xs.map fun x => PyData.str (sL x)).length ≤ big := by
    rw [List.length_map, hlen]
    exact Nat.le_trans (Nat.le_of_lt hi) (by decide)
  refine ⟨r, .im (.str (sL r)), v, .im (.str (sL [97 + (p.toNat + i) % 26])), hr, hc, ?_⟩
  have a4 : g__law_names_2b_4 [.im (.list (ns.map .int)), .im (.int a), .im (.int n), .im (.str A), .ow (.list (xs.map fun x => PyData.str (sL x))), .im (.int i), .im (.str (sL r)), v, .im (.str (sL [97 + (p.toNat + i) % 26]))] = .nx [.im (.list (ns.map .int)), .im (.int a), .im (.int n), .im (.str A), .ow (.list ((xs ++ [if decide (t = 0) = true then r ++ [97 + (p.toNat + i) % 26] else (97 + (p.toNat + i) % 26) :: r]).map fun x => PyData.str (sL x))), .im (.int i), .im (.str (sL r)), v, .im (.str (sL [97 + (p.toNat + i) % 26]))] := by
    have s1 := add_sL (a := r) (b := [97 + (p.toNat + i) % 26]) (by simp; omega)
    have s2 := add_sL (a := [97 + (p.toNat + i) % 26]) (b := r) (by simp; omega)
    rw [List.map_append, List.map_cons, List.map_nil]
    by_cases ht : t = 0
    · subst ht
      simp only [g__law_names_2b_4, appS, ifE, bS, op2, vP, cS, callS, consA, nilA, List.getElem?_cons_zero, List.getElem?_cons_succ, R.ok_bind, addI, gI, List.append_nil, et, eqD_int, bO, beq_self_eq_true, if_true, s1, toO, if_pos hb, List.set_cons_zero, List.set_cons_succ, decide_true]
    · have hq : (t == 0) = false := by simpa using ht
      simp only [g__law_names_2b_4, appS, ifE, bS, op2, vP, cS, callS, consA, nilA, List.getElem?_cons_zero, List.getElem?_cons_succ, R.ok_bind, addI, gI, List.append_nil, et, eqD_int, hq, bO, Bool.false_eq_true, if_false, s2, toO, if_pos hb, List.set_cons_zero, List.set_cons_succ, decide_eq_false ht]
      rfl
  rw [g__law_names_2B, seq_nx a1, seq_nx a2, seq_nx a3, a4]
theorem names_loop (hA : ∀ i : Int, 0 ≤ i → i < 26 → ixD (.str A) (.int i) = .ok (.str (sL [97 + i.toNat]))) (hl : ns.length ≤ 63) (h0 : 0 ≤ a) (h1 : a < 80000) (hn : n ≤ 26) {p t : Int} (p0 : 0 ≤ p) (p1 : p < 26) (ep : V__law_pick [.list (ns.map .int), .int (a + 60), .int 26] = .ok (.int p)) (et : V__law_pick [.list (ns.map .int), .int (a + 61), .int 2] = .ok (.int t)) :
    ∃ (xs : List (List Nat)) (x y z w : Sl), xs.length = n ∧ (∀ k x, xs[k]? = some x → Mk (decide (t = 0)) p.toNat k x) ∧ g__law_names_2 [.im (.list (ns.map .int)), .im (.int a), .im (.int n), .im (.str A), .ow (.list []), .no, .no, .no, .no] = .nx [.im (.list (ns.map .int)), .im (.int a), .im (.int n), .im (.str A), .ow (.list (xs.map fun x => PyData.str (sL x))), x, y, z, w] := by
  have i62 : in62 (n : Int) = true := in62_of (by omega) (by omega)
  have hit : itR1 (vP 2) [.im (.list (ns.map .int)), .im (.int a), .im (.int n), .im (.str A), .ow (.list []), .no, .no, .no, .no] = .ok (rangeD 0 n) := by
    exact itR1_nat (by simp only [vP, List.getElem?_cons_zero, List.getElem?_cons_succ]) (by omega)
  have e2 := for_inv (k := .nm 5) (b := g__law_names_2B) (items := rangeD 0 n) (ds := [.im (.list (ns.map .int)), .im (.int a), .im (.int n), .im (.str A), .ow (.list []), .no, .no, .no, .no])
    (fun i ds => ∃ xs x y z w, xs.length = i ∧ (∀ k x, xs[k]? = some x → Mk (decide (t = 0)) p.toNat k x) ∧ ds = [.im (.list (ns.map .int)), .im (.int a), .im (.int n), .im (.str A), .ow (.list (xs.map fun x => PyData.str (sL x))), x, y, z, w]) hit ⟨[], .no, .no, .no, .no, rfl, by simp, rfl⟩ (by
    rintro i ds x hx ⟨xs, x, y, z, w, hlen, hmk, rfl⟩
    obtain ⟨hi, rfl⟩ := range_at hx
    obtain ⟨r, y', z', w', hr, hc, e⟩ := names_step (n := n) (xs := xs) (i := i) hA hl h0 h1 (by omega) p0 p1 ep et hlen y z w
    refine ⟨_, rfl, ?_⟩
    simp only [List.set_cons_zero, List.set_cons_succ, Int.zero_add]
    refine ⟨_, e, xs ++ [if decide (t = 0) = true then r ++ [97 + (p.toNat + i) % 26] else (97 + (p.toNat + i) % 26) :: r], _, _, _, _, by simp [hlen], fun k x hk => ?_, rfl⟩
    by_cases hki : k < xs.length
    · rw [List.getElem?_append_left hki] at hk
      exact hmk k x hk
    · have : k = xs.length := by
        have := (List.getElem?_eq_some_iff.mp hk).1
        simp at this
        omega
      subst this
      rw [List.getElem?_append_right (Nat.le_refl _), Nat.sub_self, List.getElem?_cons_zero] at hk
      have hk := Option.some.inj hk
      rw [hlen]
      exact ⟨r, hr, hc, hk.symm⟩)
  obtain ⟨_, e2, xs, x, y, z, w, hlen, hmk, rfl⟩ := e2
  rw [rangeD_len] at hlen
  exact ⟨xs, x, y, z, w, hlen, hmk, e2⟩
end
theorem V_names (ns : List Int) (hl : ns.length ≤ 63) {a : Int} {n : Nat} (h0 : 0 ≤ a) (h1 : a < 80000) (hn : n ≤ 26) : ∃ xs, Names n xs ∧ V__law_names [.list (ns.map .int), .int a, .int n] = .ok (.list (xs.map fun x => .str (sL x))) := by
  obtain ⟨p, p0, p1, ep⟩ := pick_ok ns hl (k := a + 60) (m := 26) (by omega) (by omega) (by omega)
  obtain ⟨t, t0, t1, et⟩ := pick_ok ns hl (k := a + 61) (m := 2) (by omega) (by omega) (by omega)
  have e1 : g__law_names_1 [.im (.list (ns.map .int)), .im (.int a), .im (.int n), .no, .no, .no, .no, .no, .no] = .nx [.im (.list (ns.map .int)), .im (.int a), .im (.int n), .im (.str abc), .ow (.list []), .no, .no, .no, .no] := by
    simp only [g__law_names_1, parPN, cS, lstS, nilA, toO, R.ok_bind, List.length_nil, show (0 ≤ big) = True from eq_true (Nat.zero_le _), if_true, List.set_cons_zero, List.set_cons_succ]
  obtain ⟨xs, x, y, z, w, hlen, hmk, e2⟩ := names_loop (A := abc) (fun i u v => abc_at u v) hl h0 h1 hn p0 p1 ep et
  refine ⟨xs, ⟨hlen, fun x hx => ?_, ?_⟩, ?_⟩
  · obtain ⟨k, hk⟩ := List.getElem?_of_mem hx
    obtain ⟨r, h1, h2, rfl⟩ := hmk k x hk
    split
    · refine ⟨by simp, by simp; omega, fun c hc => ?_⟩
      rcases List.mem_append.mp hc with hc | hc
      · exact h2 c hc
      · simp only [List.mem_singleton] at hc
        subst hc
        omega
    · refine ⟨by simp, by simp; omega, fun c hc => ?_⟩
      rcases List.mem_cons.mp hc with rfl | hc
      · omega
      · exact h2 c hc
  · rw [List.nodup_iff_pairwise_ne, List.pairwise_iff_getElem]
    intro i j hi hj hij
    exact mk_ne (by omega) (by omega) (by omega) (hmk i _ (List.getElem?_eq_getElem hi)) (hmk j _ (List.getElem?_eq_getElem hj))
  · show bodyS 9 [false, false, false] g__law_names _ = _
    rw [bodyS, g__law_names, show startS 9 [false, false, false] [.list (ns.map .int), .int a, .int n] = [.im (.list (ns.map .int)), .im (.int a), .im (.int n), .no, .no, .no, .no, .no, .no] from rfl, seq_nx e1, seq_nx e2]
    simp only [frzS, List.getElem?_cons_zero, List.getElem?_cons_succ, List.set_cons_zero, List.set_cons_succ, g__law_names_3, retS, vP, toO]
end Cb
namespace Cb
open PySem PySem.Spec PyProof.Rows L2
/-- rows that rise, below a week; parts from 1 to most -/
def RowsB (most w : Int) (i : Nat) (rs : List (Int × Int)) : Prop := rs.Pairwise (fun a b => a.1 < b.1) ∧ (∀ p ∈ rs, 0 ≤ p.1 ∧ p.1 < w ∧ 1 ≤ p.2 ∧ p.2 ≤ most) ∧ rs.length ≤ i
theorem RowsB.put {most w : Int} {i : Nat} {rs : List (Int × Int)} (h : RowsB most w i rs) {m w' : Int} (h0 : 0 ≤ w) (h1 : 1 ≤ m) (h2 : m ≤ most) (h3 : w < w') : RowsB most w' (i + 1) (rs ++ [(w, m)]) := by
  refine ⟨?_, fun p hp => ?_, by have := h.2.2; simp; omega⟩
  · rw [List.pairwise_append]
    refine ⟨h.1, by simp, fun a ha b hb => ?_⟩
    have := h.2.1 a ha
    simp only [List.mem_singleton] at hb
    subst hb
    exact this.2.1
  · rcases List.mem_append.mp hp with hp | hp
    · have := h.2.1 p hp; omega
    · simp only [List.mem_singleton] at hp
      subst hp
      simp
      omega
/-- what the law's rows are: at most 7, weeks to 44, parts to most -/
structure LRows (most : Int) (rs : List (Int × Int)) : Prop where
  up : rs.Pairwise fun a b => a.1 < b.1
  wk : ∀ p ∈ rs, 0 ≤ p.1 ∧ p.1 ≤ 44 ∧ 1 ≤ p.2 ∧ p.2 ≤ most
  len : rs.length ≤ 7
theorem LRows.rows {most : Int} {rs : List (Int × Int)} (h : LRows most rs) (hm : most ≤ 99) : Rows rs := ⟨h.up, fun p hp => by have := h.wk p hp; omega, by have := h.len; omega⟩
theorem step_at {q : Int} (h0 : 0 ≤ q) (h1 : q < 6) : ∃ d, 1 ≤ d ∧ d ≤ 6 ∧ ixD (.list [.int 1, .int 1, .int 1, .int 2, .int 3, .int 6]) (.int q) = .ok (.int d) := by
  have : q = 0 ∨ q = 1 ∨ q = 2 ∨ q = 3 ∨ q = 4 ∨ q = 5 := by omega
  rcases this with rfl | rfl | rfl | rfl | rfl | rfl
  · exact ⟨1, by omega, by omega, rfl⟩
  · exact ⟨1, by omega, by omega, rfl⟩
  · exact ⟨1, by omega, by omega, rfl⟩
  · exact ⟨2, by omega, by omega, rfl⟩
  · exact ⟨3, by omega, by omega, rfl⟩
  · exact ⟨6, by omega, by omega, rfl⟩
theorem V_lrows (ns : List Int) (hl : ns.length ≤ 63) {a most : Int} (h0 : 0 ≤ a) (h1 : a < 80000) (hm : 0 < most) : ∃ rs, LRows most rs ∧ V__law_rows [.list (ns.map .int), .int a, .int most] = .ok (rowsD rs) := by
  obtain ⟨w0, w00, w01, ew⟩ := pick_ok ns hl (k := a) (m := 4) (by omega) (by omega) (by omega)
  obtain ⟨n, n0, n1, en⟩ := pick_ok ns hl (k := a + 1) (m := 8) (by omega) (by omega) (by omega)
  have e1 : g__law_rows_1 [.im (.list (ns.map .int)), .im (.int a), .im (.int most), .no, .no, .no] = .nx [.im (.list (ns.map .int)), .im (.int a), .im (.int most), .ow (rowsD []), .im (.int w0), .no] := by
    simp [g__law_rows_1, setS, setN, parPP, parNP, parPN, parNN, toO, toB, ifS, retS, exS, appS, extS, dputS, frzS, nxS, vP, vT, cS, op1, op2, gI, addI, subI, mulI, divI, modI, powI, ltI, leI, gtI, geI, minI, maxI, bS, bO, andB, orB, notB, andV, orV, notV, chI, ifE, tupS, lstS, nilA, consA, callS, callK, isiS, lenD, intD, ixD, atR, dgetD, big, plS, plainD, rowsD, ew]
  have i62 : in62 n = true := by simp [in62]; omega
  have e2 := for_inv (k := .nm 5) (b := g__law_rows_2B) (fi := itR1 (callS (consA (vP 0) (consA (op2 addI (vP 1) (cS (.int 1))) (consA (cS (.int 8)) nilA))) V__law_pick [])) (items := rangeD 0 n.toNat) (ds := [.im (.list (ns.map .int)), .im (.int a), .im (.int most), .ow (rowsD []), .im (.int w0), .no])
    (fun i ds => ∃ rs w x, RowsB most w i rs ∧ 0 ≤ w ∧ w ≤ 3 + 6 * i ∧ ds = [.im (.list (ns.map .int)), .im (.int a), .im (.int most), .ow (rowsD rs), .im (.int w), x]) (by simp [itR1, setS, setN, parPP, parNP, parPN, parNN, toO, toB, ifS, retS, exS, appS, extS, dputS, frzS, nxS, vP, vT, cS, op1, op2, gI, addI, subI, mulI, divI, modI, powI, ltI, leI, gtI, geI, minI, maxI, bS, bO, andB, orB, notB, andV, orV, notV, chI, ifE, tupS, lstS, nilA, consA, callS, callK, isiS, lenD, intD, ixD, atR, dgetD, big, plS, plainD, en, i62]) ⟨[], w0, .no, ⟨.nil, by simp, by simp⟩, w00, by omega, rfl⟩ (by
    rintro i ds x hx ⟨rs, w, z, hr, hw0, hw1, rfl⟩
    obtain ⟨hi, rfl⟩ := range_at hx
    obtain ⟨p, p0, p1, ep⟩ := pick_ok ns hl (k := a + 2 + i) (m := most) (by omega) (by omega) hm
    obtain ⟨q, q0, q1, eq⟩ := pick_ok ns hl (k := a + 10 + i) (m := 6) (by omega) (by omega) (by omega)
    obtain ⟨d, d0, d1, ed⟩ := step_at q0 q1
    have hb : rs.length ≤ 1000000 := by have := hr.2.2; omega
    refine ⟨_, rfl, ?_⟩
    simp only [List.set_cons_zero, List.set_cons_succ, Int.zero_add]
    refine ⟨[.im (.list (ns.map .int)), .im (.int a), .im (.int most), .ow (rowsD (rs ++ [(w, 1 + p)])), .im (.int (w + d)), .im (.int i)], ?_, _, _, _, hr.put (w' := w + d) hw0 (by omega) (by omega) (by omega), by omega, by omega, rfl⟩
    have a1 : g__law_rows_2b_1 [.im (.list (ns.map .int)), .im (.int a), .im (.int most), .ow (rowsD rs), .im (.int w), .im (.int i)] = .nx [.im (.list (ns.map .int)), .im (.int a), .im (.int most), .ow (rowsD (rs ++ [(w, 1 + p)])), .im (.int w), .im (.int i)] := by
      simp [g__law_rows_2b_1, setS, setN, parPP, parNP, parPN, parNN, toO, toB, ifS, retS, exS, appS, extS, dputS, frzS, nxS, vP, vT, cS, op1, op2, gI, addI, subI, mulI, divI, modI, powI, ltI, leI, gtI, geI, minI, maxI, bS, bO, andB, orB, notB, andV, orV, notV, chI, ifE, tupS, lstS, nilA, consA, callS, callK, isiS, lenD, intD, ixD, atR, dgetD, big, plS, plainD, ep, rowsD, hb, rowD]
    have a2 : g__law_rows_2b_2 [.im (.list (ns.map .int)), .im (.int a), .im (.int most), .ow (rowsD (rs ++ [(w, 1 + p)])), .im (.int w), .im (.int i)] = .nx [.im (.list (ns.map .int)), .im (.int a), .im (.int most), .ow (rowsD (rs ++ [(w, 1 + p)])), .im (.int (w + d)), .im (.int i)] := by
      have ed' := ed
      simp only [ixD] at ed'
      simp [g__law_rows_2b_2, setS, setN, parPP, parNP, parPN, parNN, toO, toB, ifS, retS, exS, appS, extS, dputS, frzS, nxS, vP, vT, cS, op1, op2, gI, addI, subI, mulI, divI, modI, powI, ltI, leI, gtI, geI, minI, maxI, bS, bO, andB, orB, notB, andV, orV, notV, chI, ifE, tupS, lstS, nilA, consA, callS, callK, isiS, lenD, intD, ixD, atR, dgetD, big, plS, plainD, eq] at ed' ⊢
      simp [ed']
    rw [g__law_rows_2B, seq_nx a1, a2])
  obtain ⟨ds', e2, rs, w, x, hr, hw0, hw1, rfl⟩ := e2
  rw [rangeD_len] at hr hw1
  refine ⟨rs, ⟨hr.1, fun p hp => ?_, ?_⟩, ?_⟩
  · have := hr.2.1 p hp
    have hz : (n.toNat : Int) ≤ 7 := by omega
    have hp2 : rs ≠ [] := fun z => by rw [z] at hp; simp at hp
    have hl1 : 1 ≤ rs.length := by
      cases rs with
      | nil => exact absurd rfl hp2
      | cons _ _ => simp
    refine ⟨this.1, ?_, this.2.2.1, this.2.2.2⟩
    omega
  · have := hr.2.2
    omega
  · show bodyS 6 [false, false, false] g__law_rows _ = _
    rw [bodyS, g__law_rows, show startS 6 [false, false, false] [.list (ns.map .int), .int a, .int most] = [.im (.list (ns.map .int)), .im (.int a), .im (.int most), .no, .no, .no] from rfl, seq_nx e1, seq_nx (show g__law_rows_2 _ = _ from e2)]
    simp [frzS, g__law_rows_3, setS, setN, parPP, parNP, parPN, parNN, toO, toB, ifS, retS, exS, appS, extS, dputS, frzS, nxS, vP, vT, cS, op1, op2, gI, addI, subI, mulI, divI, modI, powI, ltI, leI, gtI, geI, minI, maxI, bS, bO, andB, orB, notB, andV, orV, notV, chI, ifE, tupS, lstS, nilA, consA, callS, callK, isiS, lenD, intD, ixD, atR, dgetD, big, plS, plainD]
end Cb
namespace Cb
open PySem PySem.Spec PyProof.Rows L2
abbrev K3 := List Nat × Int × Int
def kindD (k : K3) : PyData := .tuple [.str (sL k.1), .int k.2.1, .int k.2.2]
structure Kinds (ks : List K3) : Prop where
  pos : 1 ≤ ks.length
  few : ks.length ≤ 3
  nm : ∀ k ∈ ks, 1 ≤ k.1.length ∧ k.1.length ≤ 6 ∧ ∀ c ∈ k.1, 97 ≤ c ∧ c < 123
  num : ∀ k ∈ ks, 1 ≤ k.2.1 ∧ k.2.1 ≤ 9 ∧ 1 ≤ k.2.2 ∧ k.2.2 ≤ 4
  nd : (ks.map (·.1)).Nodup
theorem many_at {q : Int} (h0 : 0 ≤ q) (h1 : q < 4) : ∃ d, 1 ≤ d ∧ d ≤ 9 ∧ ixD (.list [.int 1, .int 2, .int 3, .int 9]) (.int q) = .ok (.int d) := by
  have : q = 0 ∨ q = 1 ∨ q = 2 ∨ q = 3 := by omega
  rcases this with rfl | rfl | rfl | rfl
  · exact ⟨1, by omega, by omega, rfl⟩
  · exact ⟨2, by omega, by omega, rfl⟩
  · exact ⟨3, by omega, by omega, rfl⟩
  · exact ⟨9, by omega, by omega, rfl⟩
theorem names_at {xs : List (List Nat)} {i : Nat} {x : List Nat} (h : xs[i]? = some x) : ixD (.list (xs.map fun x => .str (sL x))) (.int i) = .ok (.str (sL x)) := by
  have : (xs.map fun x => PyData.str (sL x))[i]? = some (.str (sL x)) := by rw [List.getElem?_map, h]; rfl
  simp only [ixD, atR, atI_nat this, id]
theorem V_lkinds (ns : List Int) (hl : ns.length ≤ 63) {a : Int} (h0 : 0 ≤ a) (h1 : a < 80000) : ∃ ks, Kinds ks ∧ V__law_kinds [.list (ns.map .int), .int a] = .ok (.tuple (ks.map kindD)) := by
  obtain ⟨xs, hx, ex⟩ := V_names ns hl (a := a) (n := 3) h0 h1 (by omega)
  obtain ⟨n, n0, n1, en⟩ := pick_ok ns hl (k := a + 70) (m := 3) (by omega) (by omega) (by omega)
  have e1 : g__law_kinds_1 [.im (.list (ns.map .int)), .im (.int a), .no, .no, .no] = .nx [.im (.list (ns.map .int)), .im (.int a), .im (.list (xs.map fun x => .str (sL x))), .no, .no] := by
    have ex' : V__law_names [.list (ns.map .int), .int a, .int 3] = .ok (.list (xs.map fun x => .str (sL x))) := ex
    simp [g__law_kinds_1, setS, setN, parPP, parNP, parPN, parNN, toO, toB, ifS, retS, exS, appS, extS, dputS, frzS, nxS, vP, vT, cS, op1, op2, gI, addI, subI, mulI, divI, modI, powI, ltI, leI, gtI, geI, minI, maxI, bS, bO, andB, orB, notB, andV, orV, notV, chI, ifE, tupS, lstS, nilA, consA, callS, callK, isiS, lenD, intD, ixD, atR, dgetD, big, plS, plainD, ex']
  have e2 : g__law_kinds_2 [.im (.list (ns.map .int)), .im (.int a), .im (.list (xs.map fun x => .str (sL x))), .no, .no] = .nx [.im (.list (ns.map .int)), .im (.int a), .im (.list (xs.map fun x => .str (sL x))), .ow (.list []), .no] := by
    simp [g__law_kinds_2, setS, setN, parPP, parNP, parPN, parNN, toO, toB, ifS, retS, exS, appS, extS, dputS, frzS, nxS, vP, vT, cS, op1, op2, gI, addI, subI, mulI, divI, modI, powI, ltI, leI, gtI, geI, minI, maxI, bS, bO, andB, orB, notB, andV, orV, notV, chI, ifE, tupS, lstS, nilA, consA, callS, callK, isiS, lenD, intD, ixD, atR, dgetD, big, plS, plainD]
  have i62 : in62 (1 + n) = true := by simp [in62]; omega
  have e3 := for_inv (k := .nm 4) (b := g__law_kinds_3B) (fi := itR1 (op2 addI (cS (.int 1)) (callS (consA (vP 0) (consA (op2 addI (vP 1) (cS (.int 70))) (consA (cS (.int 3)) nilA))) V__law_pick []))) (items := rangeD 0 (1 + n).toNat) (ds := [.im (.list (ns.map .int)), .im (.int a), .im (.list (xs.map fun x => .str (sL x))), .ow (.list []), .no])
    (fun i ds => ∃ ks x, ks.map (·.1) = xs.take i ∧ (∀ k ∈ ks, 1 ≤ k.2.1 ∧ k.2.1 ≤ 9 ∧ 1 ≤ k.2.2 ∧ k.2.2 ≤ 4) ∧ ds = [.im (.list (ns.map .int)), .im (.int a), .im (.list (xs.map fun x => .str (sL x))), .ow (.list (ks.map kindD)), x]) (by simp [itR1, setS, setN, parPP, parNP, parPN, parNN, toO, toB, ifS, retS, exS, appS, extS, dputS, frzS, nxS, vP, vT, cS, op1, op2, gI, addI, subI, mulI, divI, modI, powI, ltI, leI, gtI, geI, minI, maxI, bS, bO, andB, orB, notB, andV, orV, notV, chI, ifE, tupS, lstS, nilA, consA, callS, callK, isiS, lenD, intD, ixD, atR, dgetD, big, plS, plainD, en, i62]) ⟨[], .no, by simp, by simp, rfl⟩ (by
    rintro i ds x hxx ⟨ks, x, hk, hnum, rfl⟩
    obtain ⟨hi, rfl⟩ := range_at hxx
    have hi3 : i < xs.length := by rw [hx.len]; omega
    obtain ⟨q, q0, q1, eq⟩ := pick_ok ns hl (k := a + 71 + i) (m := 4) (by omega) (by omega) (by omega)
    obtain ⟨u, u0, u1, eu⟩ := pick_ok ns hl (k := a + 75 + i) (m := 4) (by omega) (by omega) (by omega)
    obtain ⟨d, d0, d1, ed⟩ := many_at q0 q1
    have en := names_at (List.getElem?_eq_getElem hi3)
    have hb : (ks.map kindD).length ≤ big := by
      have : ks.length = (xs.take i).length := by rw [← hk, List.length_map]
      rw [List.length_map, this, List.length_take]
      unfold big
      omega
    refine ⟨_, rfl, ?_⟩
    simp only [List.set_cons_zero, List.set_cons_succ, Int.zero_add]
    refine ⟨[.im (.list (ns.map .int)), .im (.int a), .im (.list (xs.map fun x => .str (sL x))), .ow (.list ((ks ++ [(xs[i], d, 1 + u)]).map kindD)), .im (.int i)], ?_, ks ++ [(xs[i], d, 1 + u)], _, ?_, fun k hkm => ?_, rfl⟩
    · have l4 : lstS (consA (cS (.int 1)) (consA (cS (.int 2)) (consA (cS (.int 3)) (consA (cS (.int 9)) nilA)))) [.im (.list (ns.map .int)), .im (.int a), .im (.list (xs.map fun x => .str (sL x))), .ow (.list (ks.map kindD)), .im (.int i)] = .ok (.list [.int 1, .int 2, .int 3, .int 9]) := by simp [lstS, consA, nilA, cS, big]
      simp only [g__law_kinds_3B, g__law_kinds_3b_1, appS, tupS, op2, l4, vP, cS, callS, consA, nilA, List.getElem?_cons_zero, List.getElem?_cons_succ, R.ok_bind, addI, gI, List.append_nil, en, eq, ed, eu, toO, if_pos hb]
      simp [big, toO, kindD]
    · rw [List.map_append, hk, List.take_add_one, List.getElem?_eq_getElem hi3]
      simp
    · rcases List.mem_append.mp hkm with hkm | hkm
      · exact hnum k hkm
      · simp only [List.mem_singleton] at hkm
        subst hkm
        simp
        omega)
  obtain ⟨_, e3, ks, x, hk, hnum, rfl⟩ := e3
  rw [rangeD_len] at hk
  have hlen : ks.length = (1 + n).toNat := by
    have : ks.length = (xs.take (1 + n).toNat).length := by rw [← hk, List.length_map]
    rw [this, List.length_take, hx.len]
    omega
  refine ⟨ks, ⟨by omega, by omega, fun k hkm => ?_, hnum, ?_⟩, ?_⟩
  · have : k.1 ∈ xs.take (1 + n).toNat := by rw [← hk]; exact List.mem_map.mpr ⟨k, hkm, rfl⟩
    exact hx.ok _ (List.mem_of_mem_take this)
  · rw [hk]
    exact hx.nd.sublist (List.take_sublist _ _)
  · show bodyS 5 [false, false] g__law_kinds _ = _
    rw [bodyS, g__law_kinds, show startS 5 [false, false] [.list (ns.map .int), .int a] = [.im (.list (ns.map .int)), .im (.int a), .no, .no, .no] from rfl, seq_nx e1, seq_nx e2, seq_nx (show g__law_kinds_3 _ = _ from e3)]
    simp [frzS, g__law_kinds_4, setS, setN, parPP, parNP, parPN, parNN, toO, toB, ifS, retS, exS, appS, extS, dputS, frzS, nxS, vP, vT, cS, op1, op2, gI, addI, subI, mulI, divI, modI, powI, ltI, leI, gtI, geI, minI, maxI, bS, bO, andB, orB, notB, andV, orV, notV, chI, ifE, tupS, lstS, nilA, consA, callS, callK, isiS, lenD, intD, ixD, atR, dgetD, big, plS, plainD, tupD]
theorem name_sL {x : List Nat} (h : 1 ≤ x.length ∧ x.length ≤ 6 ∧ ∀ c ∈ x, 97 ≤ c ∧ c < 123) : nameB (.str (sL x)) = true := by
  unfold nameB
  simp only [sL_len]
  rw [decide_eq_true h.1, decide_eq_true h.2.1]
  simp [sL, smallB]
  exact h.2.2
theorem kind_ok {ks : List K3} (h : Kinds ks) {k : K3} (hk : k ∈ ks) : kindB (kindD k) = true := by
  have h1 := name_sL (h.nm k hk)
  have h2 := h.num k hk
  simp [kindB, kindD, h1, numB, h2]
theorem ndS_nodup {xs : List Str} (h : xs.Nodup) : ∀ i, i ≤ xs.length → ndS xs i = i
  | 0, _ => rfl
  | i + 1, hi => by
    rw [ndS, ndS_nodup h i (by omega), if_neg]
    intro z
    obtain ⟨y, hy, e⟩ := List.any_eq_true.mp z
    have hlt : i < xs.length := hi
    rw [List.getD_eq_getElem?_getD, List.getElem?_eq_getElem hlt, Option.getD_some, beq_iff_eq] at e
    subst e
    obtain ⟨j, hj⟩ := List.getElem?_of_mem hy
    have hjl := (List.getElem?_eq_some_iff.mp hj).1
    rw [List.length_take] at hjl
    rw [List.getElem?_take_of_lt (by omega)] at hj
    have := (List.getElem?_inj (by omega) h).mp (hj.trans (List.getElem?_eq_getElem hlt).symm)
    omega
theorem ndS_dup {xs : List Str} {x : Str} (h : x ∈ xs) : ndS (xs ++ [x]) (xs ++ [x]).length ≠ (xs ++ [x]).length := by
  have e : (xs ++ [x]).length = xs.length + 1 := by simp
  rw [e, ndS, if_pos]
  · have := ndS_le (xs ++ [x]) xs.length
    omega
  · rw [List.take_left' rfl, List.any_eq_true]
    exact ⟨x, h, by simp⟩
theorem nm_kind (ks : List K3) : (ks.map kindD).map nmK = ks.map fun k => sL k.1 := by
  rw [List.map_map]
  rfl
theorem sL_inj {a b : List Nat} (h : sL a = sL b) : a = b := by
  have := congrArg (fun s => s.cps.toList) h
  simpa [sL] using this
theorem kinds_ok {ks : List K3} (h : Kinds ks) : kindsB (.tuple (ks.map kindD)) = true := by
  have h1 := h.pos
  have h2 := h.few
  have hall : (ks.map kindD).all kindB = true := by
    rw [List.all_map, List.all_eq_true]
    exact fun k hk => kind_ok h hk
  have hnd : (ks.map fun k => sL k.1).Nodup := by
    have : (ks.map fun k => sL k.1) = (ks.map (·.1)).map sL := by rw [List.map_map]; rfl
    rw [this]
    exact List.Pairwise.map (R := (· ≠ ·)) _ (fun a b hab z => hab (sL_inj z)) h.nd
  have hns := ndS_nodup hnd (ks.map fun k => sL k.1).length (Nat.le_refl _)
  unfold kindsB
  simp only [List.length_map, hall, nm_kind]
  rw [List.length_map] at hns
  rw [hns, decide_eq_true h1, decide_eq_true (show ks.length ≤ 4 by omega)]
  simp
/-! texts short enough -/
def okSB (d : PyData) : Bool := match d with
  | .str x => decide (x.length ≤ 1000000)
  | _ => true
def okKB (d : PyData) : Bool := match d with
  | .tuple [a, _, _] => okSB a
  | _ => true
def okKsB (d : PyData) : Bool := match d with
  | .tuple xs => xs.all okKB
  | _ => true
theorem okKs_of {d : PyData} (h : okKsB d = true) : okKs d := by
  intro xs e k hk a b c ek x ex
  subst e ek ex
  have := List.all_eq_true.mp (show xs.all okKB = true from h) _ hk
  show x.length ≤ 1000000
  simpa [okKB, okSB] using this
theorem okK_kinds {ks : List K3} (h : Kinds ks) : (ks.map kindD).all okKB = true := by
  rw [List.all_map, List.all_eq_true]
  intro k hk
  have := h.nm k hk
  simp [okKB, okSB, kindD, sL_len]
  omega
end Cb
namespace Cb
open PySem PySem.Spec PyProof.Rows L2
def bkB1 (k : K3) (R : List PyData) : List PyData := [.tuple [], .list (kindD k :: R), .none, .str (sL k.1), .int 3, kindD k, .tuple (kindD k :: R ++ [kindD k]), .tuple [kindD k, kindD k], .tuple (kindD k :: R ++ [.none])]
def bkL4 : List PyData := [.str "", .str "A", .str "abcdefg", .none, .int 3, .list [.str "a"], .tuple [.str "a"], .str "a1", .str "a b"]
def bkL5 : List PyData := [.int 0, .int 10, .int (-1), .bool true, .str "1", .none, .list [.int 1]]
def bkL6 : List PyData := [.int 0, .int 5, .int (-1), .bool true, .str "1", .none, .tuple [.int 1]]
def bkF5 : List PyData := [PyData.tuple [.tuple [.str "a", .int 1, .int 1], .tuple [.str "b", .int 1, .int 1], .tuple [.str "c", .int 1, .int 1], .tuple [.str "d", .int 1, .int 1], .tuple [.str "e", .int 1, .int 1]]]
def badK (k : K3) (R : List PyData) : List PyData := ((((bkB1 k R ++ bkL4.map fun one => PyData.tuple (.tuple [one, .int k.2.1, .int k.2.2] :: R)) ++ bkL5.map fun one => PyData.tuple (.tuple [.str (sL k.1), one, .int k.2.2] :: R)) ++ bkL6.map fun one => PyData.tuple (.tuple [.str (sL k.1), .int k.2.1, one] :: R)) ++ [PyData.tuple (.tuple [.str (sL k.1), .int k.2.1] :: R), .tuple (.tuple [.str (sL k.1), .int k.2.1, .int k.2.2, .int 1] :: R), .tuple (.list [.str (sL k.1), .int k.2.1, .int k.2.2] :: R)]) ++ bkF5
theorem V_badK (k : K3) (R : List PyData) (hR : R.length ≤ 10) : V__law_bad_kinds [.tuple (kindD k :: R)] = .ok (.list (badK k R)) := by
  have b1 : 1 + R.length ≤ 1000000 := by omega
  have b2 : R.length + 1 ≤ 1000000 := by omega
  have b3 : R.length + 1 + 1 ≤ 1000000 := by omega
  have i4 : (97 : Nat) = 97 := rfl
  have e1 : g__law_bad_kinds_1 [.im (.tuple (kindD k :: R)), .no, .no, .no, .no, .no, .no, .no] = .nx [.im (.tuple (kindD k :: R)), .im (.str (sL k.1)), .im (.int k.2.1), .im (.int k.2.2), .no, .no, .no, .no] := by
    simp [g__law_bad_kinds_1, unpS, tgD, setS, setN, parPP, parNP, parPN, parNN, toO, toB, ifS, retS, exS, appS, extS, dputS, frzS, nxS, vP, vT, cS, op1, op2, gI, addI, subI, mulI, divI, modI, powI, ltI, leI, gtI, geI, minI, maxI, bS, bO, andB, orB, notB, andV, orV, notV, chI, ifE, tupS, lstS, nilA, consA, callS, callK, isiS, lenD, intD, ixD, atR, dgetD, big, plS, plainD, at0, kindD]
  have e2 : g__law_bad_kinds_2 [.im (.tuple (kindD k :: R)), .im (.str (sL k.1)), .im (.int k.2.1), .im (.int k.2.2), .no, .no, .no, .no] = .nx [.im (.tuple (kindD k :: R)), .im (.str (sL k.1)), .im (.int k.2.1), .im (.int k.2.2), .im (.tuple R), .no, .no, .no] := by
    simp [g__law_bad_kinds_2, slT, someO, noO, setS, setN, parPP, parNP, parPN, parNN, toO, toB, ifS, retS, exS, appS, extS, dputS, frzS, nxS, vP, vT, cS, op1, op2, gI, addI, subI, mulI, divI, modI, powI, ltI, leI, gtI, geI, minI, maxI, bS, bO, andB, orB, notB, andV, orV, notV, chI, ifE, tupS, lstS, nilA, consA, callS, callK, isiS, lenD, intD, ixD, atR, dgetD, big, plS, plainD, cut1]
  have e3 : g__law_bad_kinds_3 [.im (.tuple (kindD k :: R)), .im (.str (sL k.1)), .im (.int k.2.1), .im (.int k.2.2), .im (.tuple R), .no, .no, .no] = .nx [.im (.tuple (kindD k :: R)), .im (.str (sL k.1)), .im (.int k.2.1), .im (.int k.2.2), .im (.tuple R), .ow (.list (bkB1 k R)), .no, .no] := by
    simp [g__law_bad_kinds_3, setS, setN, parPP, parNP, parPN, parNN, toO, toB, ifS, retS, exS, appS, extS, dputS, frzS, nxS, vP, vT, cS, op1, op2, gI, addI, subI, mulI, divI, modI, powI, ltI, leI, gtI, geI, minI, maxI, bS, bO, andB, orB, notB, andV, orV, notV, chI, ifE, tupS, lstS, nilA, consA, callS, callK, isiS, lenD, intD, ixD, atR, dgetD, big, plS, plainD, listD, at0, catT, repT, b1, b2, b3, bkB1, kindD]
  have lB : (bkB1 k R).length = 9 := rfl
  have e4 : g__law_bad_kinds_4 [.im (.tuple (kindD k :: R)), .im (.str (sL k.1)), .im (.int k.2.1), .im (.int k.2.2), .im (.tuple R), .ow (.list (bkB1 k R)), .no, .no] = .nx [.im (.tuple (kindD k :: R)), .im (.str (sL k.1)), .im (.int k.2.1), .im (.int k.2.2), .im (.tuple R), .ow (.list (bkB1 k R ++ bkL4.map fun one => PyData.tuple (.tuple [one, .int k.2.1, .int k.2.2] :: R))), .no, .no] := by
    simp [g__law_bad_kinds_4, extS, lcS, itL, lcGo, tgD, yesB, wipeD, setS, setN, parPP, parNP, parPN, parNN, toO, toB, ifS, retS, exS, appS, extS, dputS, frzS, nxS, vP, vT, cS, op1, op2, gI, addI, subI, mulI, divI, modI, powI, ltI, leI, gtI, geI, minI, maxI, bS, bO, andB, orB, notB, andV, orV, notV, chI, ifE, tupS, lstS, nilA, consA, callS, callK, isiS, lenD, intD, ixD, atR, dgetD, big, plS, plainD, catT, b1, b2, lB, bkL4]
  have e5 : g__law_bad_kinds_5 [.im (.tuple (kindD k :: R)), .im (.str (sL k.1)), .im (.int k.2.1), .im (.int k.2.2), .im (.tuple R), .ow (.list (bkB1 k R ++ bkL4.map fun one => PyData.tuple (.tuple [one, .int k.2.1, .int k.2.2] :: R))), .no, .no] = .nx [.im (.tuple (kindD k :: R)), .im (.str (sL k.1)), .im (.int k.2.1), .im (.int k.2.2), .im (.tuple R), .ow (.list ((bkB1 k R ++ bkL4.map fun one => PyData.tuple (.tuple [one, .int k.2.1, .int k.2.2] :: R)) ++ bkL5.map fun one => PyData.tuple (.tuple [.str (sL k.1), one, .int k.2.2] :: R))), .no, .no] := by
    simp [g__law_bad_kinds_5, extS, lcS, itL, lcGo, tgD, yesB, wipeD, setS, setN, parPP, parNP, parPN, parNN, toO, toB, ifS, retS, exS, appS, extS, dputS, frzS, nxS, vP, vT, cS, op1, op2, gI, addI, subI, mulI, divI, modI, powI, ltI, leI, gtI, geI, minI, maxI, bS, bO, andB, orB, notB, andV, orV, notV, chI, ifE, tupS, lstS, nilA, consA, callS, callK, isiS, lenD, intD, ixD, atR, dgetD, big, plS, plainD, negD, catT, b1, b2, lB, bkL4, bkL5]
  have e6 : g__law_bad_kinds_6 [.im (.tuple (kindD k :: R)), .im (.str (sL k.1)), .im (.int k.2.1), .im (.int k.2.2), .im (.tuple R), .ow (.list ((bkB1 k R ++ bkL4.map fun one => PyData.tuple (.tuple [one, .int k.2.1, .int k.2.2] :: R)) ++ bkL5.map fun one => PyData.tuple (.tuple [.str (sL k.1), one, .int k.2.2] :: R))), .no, .no] = .nx [.im (.tuple (kindD k :: R)), .im (.str (sL k.1)), .im (.int k.2.1), .im (.int k.2.2), .im (.tuple R), .ow (.list (((bkB1 k R ++ bkL4.map fun one => PyData.tuple (.tuple [one, .int k.2.1, .int k.2.2] :: R)) ++ bkL5.map fun one => PyData.tuple (.tuple [.str (sL k.1), one, .int k.2.2] :: R)) ++ bkL6.map fun one => PyData.tuple (.tuple [.str (sL k.1), .int k.2.1, one] :: R))), .no, .no] := by
    simp [g__law_bad_kinds_6, extS, lcS, itL, lcGo, tgD, yesB, wipeD, setS, setN, parPP, parNP, parPN, parNN, toO, toB, ifS, retS, exS, appS, extS, dputS, frzS, nxS, vP, vT, cS, op1, op2, gI, addI, subI, mulI, divI, modI, powI, ltI, leI, gtI, geI, minI, maxI, bS, bO, andB, orB, notB, andV, orV, notV, chI, ifE, tupS, lstS, nilA, consA, callS, callK, isiS, lenD, intD, ixD, atR, dgetD, big, plS, plainD, negD, catT, b1, b2, lB, bkL4, bkL5, bkL6]
  have e7 : g__law_bad_kinds_7 [.im (.tuple (kindD k :: R)), .im (.str (sL k.1)), .im (.int k.2.1), .im (.int k.2.2), .im (.tuple R), .ow (.list (((bkB1 k R ++ bkL4.map fun one => PyData.tuple (.tuple [one, .int k.2.1, .int k.2.2] :: R)) ++ bkL5.map fun one => PyData.tuple (.tuple [.str (sL k.1), one, .int k.2.2] :: R)) ++ bkL6.map fun one => PyData.tuple (.tuple [.str (sL k.1), .int k.2.1, one] :: R))), .no, .no] = .nx [.im (.tuple (kindD k :: R)), .im (.str (sL k.1)), .im (.int k.2.1), .im (.int k.2.2), .im (.tuple R), .ow (.list ((((bkB1 k R ++ bkL4.map fun one => PyData.tuple (.tuple [one, .int k.2.1, .int k.2.2] :: R)) ++ bkL5.map fun one => PyData.tuple (.tuple [.str (sL k.1), one, .int k.2.2] :: R)) ++ bkL6.map fun one => PyData.tuple (.tuple [.str (sL k.1), .int k.2.1, one] :: R)) ++ [PyData.tuple (.tuple [.str (sL k.1), .int k.2.1] :: R), .tuple (.tuple [.str (sL k.1), .int k.2.1, .int k.2.2, .int 1] :: R), .tuple (.list [.str (sL k.1), .int k.2.1, .int k.2.2] :: R)])), .no, .no] := by
    simp [g__law_bad_kinds_7, extS, setS, setN, parPP, parNP, parPN, parNN, toO, toB, ifS, retS, exS, appS, extS, dputS, frzS, nxS, vP, vT, cS, op1, op2, gI, addI, subI, mulI, divI, modI, powI, ltI, leI, gtI, geI, minI, maxI, bS, bO, andB, orB, notB, andV, orV, notV, chI, ifE, tupS, lstS, nilA, consA, callS, callK, isiS, lenD, intD, ixD, atR, dgetD, big, plS, plainD, catT, b1, b2, lB, bkL4, bkL5, bkL6]
  show bodyS 8 [false] g__law_bad_kinds _ = _
  rw [bodyS, g__law_bad_kinds, show startS 8 [false] [.tuple (kindD k :: R)] = [.im (.tuple (kindD k :: R)), .no, .no, .no, .no, .no, .no, .no] from rfl, seq_nx e1, seq_nx e2, seq_nx e3, seq_nx e4, seq_nx e5, seq_nx e6, seq_nx e7]
  have hr5 : rangeD 0 5 = [.int 0, .int 1, .int 2, .int 3, .int 4] := rfl
  have hx : ∀ i : Int, ∀ y, ixD (.str "abcdef") (.int i) = .ok y → True := fun _ _ _ => trivial
  have x0 : ixD (.str "abcdef") (.int 0) = .ok (.str "a") := by rfl
  have x1 : ixD (.str "abcdef") (.int 1) = .ok (.str "b") := by rfl
  have x2 : ixD (.str "abcdef") (.int 2) = .ok (.str "c") := by rfl
  have x3 : ixD (.str "abcdef") (.int 3) = .ok (.str "d") := by rfl
  have x4 : ixD (.str "abcdef") (.int 4) = .ok (.str "e") := by rfl
  have l5 : lcS (itR1 (cS (.int 5))) [7] (.nm 7) yesB (tupS (consA (op2 ixD (cS (.str "abcdef")) (vP 7)) (consA (cS (.int 1)) (consA (cS (.int 1)) nilA)))) [.im (.tuple (kindD k :: R)), .im (.str (sL k.1)), .im (.int k.2.1), .im (.int k.2.2), .im (.tuple R), .im (.list ((((bkB1 k R ++ bkL4.map fun one => PyData.tuple (.tuple [one, .int k.2.1, .int k.2.2] :: R)) ++ bkL5.map fun one => PyData.tuple (.tuple [.str (sL k.1), one, .int k.2.2] :: R)) ++ bkL6.map fun one => PyData.tuple (.tuple [.str (sL k.1), .int k.2.1, one] :: R)) ++ [PyData.tuple (.tuple [.str (sL k.1), .int k.2.1] :: R), .tuple (.tuple [.str (sL k.1), .int k.2.1, .int k.2.2, .int 1] :: R), .tuple (.list [.str (sL k.1), .int k.2.1, .int k.2.2] :: R)])), .no, .no] = .ok (.list [.tuple [.str "a", .int 1, .int 1], .tuple [.str "b", .int 1, .int 1], .tuple [.str "c", .int 1, .int 1], .tuple [.str "d", .int 1, .int 1], .tuple [.str "e", .int 1, .int 1]]) := by
    simp [lcS, itR1, cS, in62, hr5, lcGo, tgD, yesB, wipeD, tupS, consA, nilA, op2, vP, x0, x1, x2, x3, x4, big]
  simp only [frzS, List.getElem?_cons_zero, List.getElem?_cons_succ, List.set_cons_zero, List.set_cons_succ, g__law_bad_kinds_8, retS, op2, op1, lstS, consA, nilA, l5, vP, Cb.R.ok_bind, tupD, catD]
  simp [toO, big, lB, bkL4, bkL5, bkL6, badK, bkF5]
end Cb
namespace Cb
open PySem PySem.Spec PyProof.Rows L2
def brA (rs : List (Int × Int)) : List PyData := [.tuple (rs.map rowD), .none, .str "", .int 3, .tuple [.int 1, .int 2], .list (rs.map rowD ++ [rowD (99, 1), rowD (99, 1)]), .list ((rangeD 0 13).map fun d => .tuple [d, .int 1])]
def brL2 : List PyData := [.int (-1), .int 100, .bool true, .none, .str "5", .list [.int 5]]
def brL3 : List PyData := [.int 0, .int 100, .int (-1), .bool true, .none, .str "5", .list [.int 5]]
def brE : List PyData := [.list [rowD (5, 1), rowD (4, 1)], .list [.list [.int 5, .int 1]], .list [.tuple [.int 5]], .list [.tuple [.int 5, .int 1, .int 1]], .list [.none]]
def badR (rs : List (Int × Int)) : List PyData := (brA rs ++ brL2.map (fun one => PyData.list (rs.map rowD ++ [.tuple [one, .int 1]]))) ++ brL3.map (fun one => PyData.list [.tuple [.int 99, one]]) ++ brE
theorem V_badR (rs : List (Int × Int)) (h : rs.length ≤ 1) : V__law_bad_rows [rowsD rs] = .ok (.list (badR rs)) := by
  have b1 : rs.length + 2 ≤ 1000000 := by omega
  have b2 : rs.length + 1 ≤ 1000000 := by omega
  have hc : cutL (rs.map rowD) none (some 1) = rs.map rowD := by
    match rs, h with
    | [], _ => rfl
    | [p], _ => rfl
  have l13 : lcS (itR1 (cS (.int 13))) [2] (.nm 2) yesB (tupS (consA (vP 2) (consA (cS (.int 1)) nilA))) [.im (rowsD rs), .no, .no, .no] = .ok (.list ((rangeD 0 13).map fun d => .tuple [d, .int 1])) := by
    have hr : rangeD 0 13 = [.int 0, .int 1, .int 2, .int 3, .int 4, .int 5, .int 6, .int 7, .int 8, .int 9, .int 10, .int 11, .int 12] := rfl
    simp [lcS, itR1, cS, in62, hr, lcGo, tgD, yesB, wipeD, tupS, consA, nilA, vP, big]
  have e1 : g__law_bad_rows_1 [.im (rowsD rs), .no, .no, .no] = .nx [.im (rowsD rs), .ow (.list (brA rs)), .no, .no] := by
    simp only [g__law_bad_rows_1, setN, lstS, consA, nilA, l13]
    simp [setS, setN, parPP, parNP, parPN, parNN, toO, toB, ifS, retS, exS, appS, extS, dputS, frzS, nxS, vP, vT, cS, op1, op2, gI, addI, subI, mulI, divI, modI, powI, ltI, leI, gtI, geI, minI, maxI, bS, bO, andB, orB, notB, andV, orV, notV, chI, ifE, tupS, lstS, nilA, consA, callS, callK, isiS, lenD, intD, ixD, atR, dgetD, big, plS, plainD, tupD, catD, rowsD, b1, brA, rowD]
  have lA : (brA rs).length = 7 := rfl
  have e2 : g__law_bad_rows_2 [.im (rowsD rs), .ow (.list (brA rs)), .no, .no] = .nx [.im (rowsD rs), .ow (.list (brA rs ++ brL2.map (fun one => PyData.list (rs.map rowD ++ [.tuple [one, .int 1]])))), .no, .no] := by
    simp [g__law_bad_rows_2, extS, lcS, itL, lcGo, tgD, yesB, wipeD, setS, setN, parPP, parNP, parPN, parNN, toO, toB, ifS, retS, exS, appS, extS, dputS, frzS, nxS, vP, vT, cS, op1, op2, gI, addI, subI, mulI, divI, modI, powI, ltI, leI, gtI, geI, minI, maxI, bS, bO, andB, orB, notB, andV, orV, notV, chI, ifE, tupS, lstS, nilA, consA, callS, callK, isiS, lenD, intD, ixD, atR, dgetD, big, plS, plainD, negD, slL, noO, someO, rowsD, hc, catD, b2, lA, brL2]
  have e3 : g__law_bad_rows_3 [.im (rowsD rs), .ow (.list (brA rs ++ brL2.map (fun one => PyData.list (rs.map rowD ++ [.tuple [one, .int 1]])))), .no, .no] = .nx [.im (rowsD rs), .ow (.list ((brA rs ++ brL2.map (fun one => PyData.list (rs.map rowD ++ [.tuple [one, .int 1]]))) ++ brL3.map (fun one => PyData.list [.tuple [.int 99, one]]))), .no, .no] := by
    simp [g__law_bad_rows_3, extS, lcS, itL, lcGo, tgD, yesB, wipeD, setS, setN, parPP, parNP, parPN, parNN, toO, toB, ifS, retS, exS, appS, extS, dputS, frzS, nxS, vP, vT, cS, op1, op2, gI, addI, subI, mulI, divI, modI, powI, ltI, leI, gtI, geI, minI, maxI, bS, bO, andB, orB, notB, andV, orV, notV, chI, ifE, tupS, lstS, nilA, consA, callS, callK, isiS, lenD, intD, ixD, atR, dgetD, big, plS, plainD, negD, lA, brL2, brL3]
  show bodyS 4 [false] g__law_bad_rows _ = _
  rw [bodyS, g__law_bad_rows, show startS 4 [false] [rowsD rs] = [.im (rowsD rs), .no, .no, .no] from rfl, seq_nx e1, seq_nx e2, seq_nx e3]
  simp [frzS, g__law_bad_rows_4, setS, setN, parPP, parNP, parPN, parNN, toO, toB, ifS, retS, exS, appS, extS, dputS, frzS, nxS, vP, vT, cS, op1, op2, gI, addI, subI, mulI, divI, modI, powI, ltI, leI, gtI, geI, minI, maxI, bS, bO, andB, orB, notB, andV, orV, notV, chI, ifE, tupS, lstS, nilA, consA, callS, callK, isiS, lenD, intD, ixD, atR, dgetD, big, plS, plainD, catD, lA, brL2, brL3, badR, brE, rowD]
theorem badK_all {ks : List K3} {k : K3} (h : Kinds (k :: ks)) : (badK k (ks.map kindD)).all (fun d => !kindsB d && okKsB d) = true := by
  have hk := kind_ok h (k := k) List.mem_cons_self
  have hk' := hk
  simp only [kindB, kindD, Bool.and_eq_true] at hk'
  have hok := okK_kinds h
  simp only [List.map_cons, List.all_cons, Bool.and_eq_true] at hok
  have hok1 : okSB (.str (sL k.1)) = true := by simpa [okKB, kindD] using hok.1
  have few := h.few
  simp only [List.length_cons] at few
  have nmR : (ks.map kindD).map nmK = ks.map fun k => sL k.1 := nm_kind ks
  have d1 : kindsB (.tuple (kindD k :: ks.map kindD ++ [kindD k])) = false := by
    unfold kindsB
    have e : ((kindD k :: ks.map kindD ++ [kindD k]).map nmK) = (sL k.1 :: ks.map fun k => sL k.1) ++ [sL k.1] := by
      rw [List.map_append, List.map_cons, nmR]
      rfl
    have := ndS_dup (xs := sL k.1 :: ks.map fun k => sL k.1) (x := sL k.1) List.mem_cons_self
    simp only [e]
    have q : decide (ndS ((sL k.1 :: ks.map fun k => sL k.1) ++ [sL k.1]) ((sL k.1 :: ks.map fun k => sL k.1) ++ [sL k.1]).length = (kindD k :: ks.map kindD ++ [kindD k]).length) = false := decide_eq_false (by simpa using this)
    rw [q]
    simp
  have d2 : kindsB (.tuple [kindD k, kindD k]) = false := by
    unfold kindsB
    have e : ([kindD k, kindD k].map nmK) = [sL k.1] ++ [sL k.1] := rfl
    have := ndS_dup (xs := [sL k.1]) (x := sL k.1) List.mem_cons_self
    simp only [e]
    have q : decide (ndS ([sL k.1] ++ [sL k.1]) ([sL k.1] ++ [sL k.1]).length = [kindD k, kindD k].length) = false := decide_eq_false (by simpa using this)
    rw [q]
    simp
  have d3 : kindsB (.tuple (kindD k :: ks.map kindD ++ [.none])) = false := by
    unfold kindsB
    simp [kindB]
  have bad : ∀ d, kindB d = false → kindsB (.tuple (d :: ks.map kindD)) = false := fun d hd => by
    unfold kindsB
    simp [hd]
  have okb : ∀ d, okKB d = true → okKsB (.tuple (d :: ks.map kindD)) = true := fun d hd => by
    unfold okKsB
    simp only [List.all_cons, hd, hok.2]
    rfl
  have t0 : ∀ a b : PyData, kindB (.tuple [.str "", a, b]) = false := fun a b => by simp [kindB, nameB, show (Str.ofString "" : Str).length = 0 from by decide +kernel]
  have t1 : ∀ a b : PyData, kindB (.tuple [.str "A", a, b]) = false := fun a b => by
    have : nameB (.str "A") = false := by decide +kernel
    simp [kindB, this]
  have t2 : ∀ a b : PyData, kindB (.tuple [.str "abcdefg", a, b]) = false := fun a b => by
    have : nameB (.str "abcdefg") = false := by decide +kernel
    simp [kindB, this]
  have t3 : ∀ a b : PyData, kindB (.tuple [.str "a1", a, b]) = false := fun a b => by
    have : nameB (.str "a1") = false := by decide +kernel
    simp [kindB, this]
  have t4 : ∀ a b : PyData, kindB (.tuple [.str "a b", a, b]) = false := fun a b => by
    have : nameB (.str "a b") = false := by decide +kernel
    simp [kindB, this]
  have o0 : ∀ a b : PyData, okKB (.tuple [.str "", a, b]) = true := fun a b => by show okSB (.str "") = true; decide +kernel
  have o1 : ∀ a b : PyData, okKB (.tuple [.str "A", a, b]) = true := fun a b => by show okSB (.str "A") = true; decide +kernel
  have o2 : ∀ a b : PyData, okKB (.tuple [.str "abcdefg", a, b]) = true := fun a b => by show okSB (.str "abcdefg") = true; decide +kernel
  have o3 : ∀ a b : PyData, okKB (.tuple [.str "a1", a, b]) = true := fun a b => by show okSB (.str "a1") = true; decide +kernel
  have o4 : ∀ a b : PyData, okKB (.tuple [.str "a b", a, b]) = true := fun a b => by show okSB (.str "a b") = true; decide +kernel
  have kd : kindsB (kindD k) = false := by simp [kindsB, kindD, kindB]
  have kdo : okKsB (kindD k) = true := by simp [okKsB, kindD, okKB]
  have f5 : bkF5.all (fun d => !kindsB d && okKsB d) = true := by decide +kernel
  have od1 : okKsB (.tuple (kindD k :: ks.map kindD ++ [kindD k])) = true := by
    unfold okKsB
    simp only [List.all_append, List.all_cons, List.all_nil, hok.1, hok.2]
    rfl
  have od2 : okKsB (.tuple [kindD k, kindD k]) = true := by
    unfold okKsB
    simp only [List.all_cons, List.all_nil, hok.1]
    rfl
  have od3 : okKsB (.tuple (kindD k :: ks.map kindD ++ [.none])) = true := by
    unfold okKsB
    simp only [List.all_append, List.all_cons, List.all_nil, hok.1, hok.2]
    rfl
  have n0 : ∀ a b c : PyData, nameB a = false → kindB (.tuple [a, b, c]) = false := fun a b c hn => by simp [kindB, hn]
  have n1 : ∀ one s : PyData, numB one 1 9 = false → kindB (.tuple [.str (sL k.1), one, s]) = false := fun one s hn => by simp [kindB, hn]
  have n2 : ∀ one s : PyData, numB one 1 4 = false → kindB (.tuple [.str (sL k.1), s, one]) = false := fun one s hn => by simp [kindB, hn]
  have oS : ∀ a b : PyData, okKB (.tuple [.str (sL k.1), a, b]) = true := fun a b => hok1
  have oN : ∀ a b c : PyData, okSB a = true → okKB (.tuple [a, b, c]) = true := fun a b c hn => hn
  have key : ∀ d, kindB d = false → okKB d = true → (!kindsB (.tuple (d :: ks.map kindD)) && okKsB (.tuple (d :: ks.map kindD))) = true := fun d h1 h2 => by rw [bad d h1, okb d h2]; rfl
  unfold badK
  simp only [List.all_append, f5, Bool.and_true, Bool.and_eq_true]
  refine ⟨⟨⟨⟨?_, ?_⟩, ?_⟩, ?_⟩, ?_⟩
  · simp only [bkB1, List.all_cons, List.all_nil, d1, d2, d3, od1, od2, od3, kd, kdo]
    rfl
  · simp only [bkL4, List.map_cons, List.map_nil, List.all_cons, List.all_nil, key _ (t0 _ _) (o0 _ _), key _ (t1 _ _) (o1 _ _), key _ (t2 _ _) (o2 _ _), key _ (t3 _ _) (o3 _ _), key _ (t4 _ _) (o4 _ _), key _ (n0 .none _ _ rfl) (oN .none _ _ rfl), key _ (n0 (.int 3) _ _ rfl) (oN (.int 3) _ _ rfl), key _ (n0 (.list [.str "a"]) _ _ rfl) (oN (.list [.str "a"]) _ _ rfl), key _ (n0 (.tuple [.str "a"]) _ _ rfl) (oN (.tuple [.str "a"]) _ _ rfl), Bool.and_true]
  · simp only [bkL5, List.map_cons, List.map_nil, List.all_cons, List.all_nil, key _ (n1 (.int 0) _ rfl) (oS _ _), key _ (n1 (.int 10) _ rfl) (oS _ _), key _ (n1 (.int (-1)) _ rfl) (oS _ _), key _ (n1 (.bool true) _ rfl) (oS _ _), key _ (n1 (.str "1") _ rfl) (oS _ _), key _ (n1 .none _ rfl) (oS _ _), key _ (n1 (.list [.int 1]) _ rfl) (oS _ _), Bool.and_true]
  · simp only [bkL6, List.map_cons, List.map_nil, List.all_cons, List.all_nil, key _ (n2 (.int 0) _ rfl) (oS _ _), key _ (n2 (.int 5) _ rfl) (oS _ _), key _ (n2 (.int (-1)) _ rfl) (oS _ _), key _ (n2 (.bool true) _ rfl) (oS _ _), key _ (n2 (.str "1") _ rfl) (oS _ _), key _ (n2 .none _ rfl) (oS _ _), key _ (n2 (.tuple [.int 1]) _ rfl) (oS _ _), Bool.and_true]
  · simp only [List.all_cons, List.all_nil, Bool.and_true]
    rw [key (.tuple [.str (sL k.1), .int k.2.1]) rfl rfl, key (.tuple [.str (sL k.1), .int k.2.1, .int k.2.2, .int 1]) rfl rfl, key (.list [.str (sL k.1), .int k.2.1, .int k.2.2]) rfl rfl]
    rfl
theorem badR_all {rs : List (Int × Int)} (h : rs.length ≤ 1) (hw : ∀ p ∈ rs, 0 ≤ p.1 ∧ p.1 ≤ 44 ∧ 1 ≤ p.2 ∧ p.2 ≤ 99) : (badR rs).all (fun d => !rowsB d) = true := by
  match rs, h, hw with
  | [], _, _ => decide +kernel
  | [(w, m)], _, hw =>
    have := hw (w, m) List.mem_cons_self
    have h13 : (rangeD 0 13) = [.int 0, .int 1, .int 2, .int 3, .int 4, .int 5, .int 6, .int 7, .int 8, .int 9, .int 10, .int 11, .int 12] := rfl
    simp [badR, brA, brL2, brL3, brE, rowsB, rowB, numB, rowD, fstI, h13]
    try omega
end Cb
namespace Cb
open PySem PySem.Spec PyProof.Rows L2
theorem for_all {k : Nat} {b : DS → Out} {fi : DS → R (List PyData)} {items : List PyData} {pre : DS} {post : DS} {x0 : Sl} (hk : pre.length = k) (hi : fi (pre ++ x0 :: post) = .ok items) (hs : ∀ x ∈ items, b (pre ++ .im x :: post) = .nx (pre ++ .im x :: post)) : ∃ x, forS fi (.nm k) b (pre ++ x0 :: post) = .nx (pre ++ x :: post) := by
  have := for_inv (k := .nm k) (b := b) (items := items) (ds := pre ++ x0 :: post) (fun _ ds => ∃ x, ds = pre ++ x :: post) hi ⟨_, rfl⟩ (by
    rintro i ds x hx ⟨y, rfl⟩
    refine ⟨_, rfl, pre ++ .im x :: post, ?_, _, rfl⟩
    have : (pre ++ y :: post).set k (.im x) = pre ++ .im x :: post := by
      subst hk
      simp
    rw [this]
    exact hs x (List.mem_of_getElem? hx))
  obtain ⟨_, e, x, rfl⟩ := this
  exact ⟨x, e⟩
theorem V_law_true (xs : List Int) (hl : xs.length ≤ 63) : V_law [.list (xs.map .int)] = .ok (.bool true) := by
  obtain ⟨ks, hk, ek⟩ := V_lkinds xs hl (a := 0) (by omega) (by omega)
  obtain ⟨rs, hr, er⟩ := V_lrows xs hl (a := 100) (most := 99) (by omega) (by omega) (by omega)
  have Rr := hr.rows (by omega)
  have s1 : g_law_1 [.im (.list (xs.map .int)), .no, .no, .no, .no] = .nx [.im (.list (xs.map .int)), .im (.tuple (ks.map kindD)), .im (rowsD rs), .no, .no] := by
    simp [g_law_1, setS, setN, parPP, parNP, parPN, parNN, toO, toB, ifS, retS, exS, appS, extS, dputS, frzS, nxS, vP, vT, cS, op1, op2, gI, addI, subI, mulI, divI, modI, powI, ltI, leI, gtI, geI, minI, maxI, bS, bO, andB, orB, notB, andV, orV, notV, chI, ifE, tupS, lstS, nilA, consA, callS, callK, isiS, lenD, intD, ixD, atR, dgetD, big, plS, plainD, ek, er]
  have vk : V_are_kinds [.tuple (ks.map kindD)] = .ok (.bool true) := by
    rw [V_kinds (okKs_of (show okKsB (.tuple (ks.map kindD)) = true from okK_kinds hk)), kinds_ok hk]
  have vkF : ∀ d, kindsB d = false → okKsB d = true → V_are_kinds [d] = .ok (.bool false) := fun d h1 h2 => by rw [V_kinds (okKs_of h2), h1]
  have k1 : V_are_kinds [.tuple [.tuple [.str "a", .int 1, .int 1]]] = .ok (.bool true) := by
    rw [V_kinds (okKs_of (by decide +kernel)), show kindsB (.tuple [.tuple [.str "a", .int 1, .int 1]]) = true from by decide +kernel]
  have k4 : V_are_kinds [.tuple [.tuple [.str "zzzzzz", .int 9, .int 4], .tuple [.str "b", .int 1, .int 4], .tuple [.str "c", .int 9, .int 1], .tuple [.str "d", .int 2, .int 2]]] = .ok (.bool true) := by
    rw [V_kinds (okKs_of (by decide +kernel)), show kindsB (.tuple [.tuple [.str "zzzzzz", .int 9, .int 4], .tuple [.str "b", .int 1, .int 4], .tuple [.str "c", .int 9, .int 1], .tuple [.str "d", .int 2, .int 2]]) = true from by decide +kernel]
  have rT : ∀ l, V_are_rows [.tuple l] = .ok (.bool false) := fun l => V_rowsA _
  have kL : ∀ l, V_are_kinds [.list l] = .ok (.bool false) := fun l => vkF _ rfl rfl
  obtain ⟨x3, s2⟩ := for_all (k := 3) (b := g_law_2B) (fi := itT (tupS (consA (vP 1) (consA (tupS (consA (tupS (consA (cS (.str "a")) (consA (cS (.int 1)) (consA (cS (.int 1)) nilA)))) nilA)) (consA (tupS (consA (tupS (consA (cS (.str "zzzzzz")) (consA (cS (.int 9)) (consA (cS (.int 4)) nilA)))) (consA (tupS (consA (cS (.str "b")) (consA (cS (.int 1)) (consA (cS (.int 4)) nilA)))) (consA (tupS (consA (cS (.str "c")) (consA (cS (.int 9)) (consA (cS (.int 1)) nilA)))) (consA (tupS (consA (cS (.str "d")) (consA (cS (.int 2)) (consA (cS (.int 2)) nilA)))) nilA))))) nilA))))) (items := [.tuple (ks.map kindD), .tuple [.tuple [.str "a", .int 1, .int 1]], .tuple [.tuple [.str "zzzzzz", .int 9, .int 4], .tuple [.str "b", .int 1, .int 4], .tuple [.str "c", .int 9, .int 1], .tuple [.str "d", .int 2, .int 2]]]) (pre := [.im (.list (xs.map .int)), .im (.tuple (ks.map kindD)), .im (rowsD rs)]) (post := [.no]) (x0 := .no) rfl (by simp [itT, setS, setN, parPP, parNP, parPN, parNN, toO, toB, ifS, retS, exS, appS, extS, dputS, frzS, nxS, vP, vT, cS, op1, op2, gI, addI, subI, mulI, divI, modI, powI, ltI, leI, gtI, geI, minI, maxI, bS, bO, andB, orB, notB, andV, orV, notV, chI, ifE, tupS, lstS, nilA, consA, callS, callK, isiS, lenD, intD, ixD, atR, dgetD, big, plS, plainD]) (fun x hx => by
    have hv : V_are_kinds [x] = .ok (.bool true) ∧ V_are_rows [x] = .ok (.bool false) := by
      simp only [List.mem_cons, List.not_mem_nil, or_false] at hx
      rcases hx with rfl | rfl | rfl
      · exact ⟨vk, rT _⟩
      · exact ⟨k1, rT _⟩
      · exact ⟨k4, rT _⟩
    simp [g_law_2B, g_law_2b_1, setS, setN, parPP, parNP, parPN, parNN, toO, toB, ifS, retS, exS, appS, extS, dputS, frzS, nxS, vP, vT, cS, op1, op2, gI, addI, subI, mulI, divI, modI, powI, ltI, leI, gtI, geI, minI, maxI, bS, bO, andB, orB, notB, andV, orV, notV, chI, ifE, tupS, lstS, nilA, consA, callS, callK, isiS, lenD, intD, ixD, atR, dgetD, big, plS, plainD, hv.1, hv.2, isntD])
  have r1 : V_are_rows [rowsD rs] = .ok (.bool true) := V_rows Rr
  have r0 : V_are_rows [.list []] = .ok (.bool true) := V_rowsA _
  have r2 : V_are_rows [.list [.tuple [.int 0, .int 1], .tuple [.int 99, .int 99]]] = .ok (.bool true) := by rw [V_rowsA]; rfl
  have r12 : V_are_rows [.list ((rangeD 0 12).map fun d => .tuple [d, .int 9])] = .ok (.bool true) := by rw [V_rowsA]; rfl
  have l12 : lcS (itR1 (cS (.int 12))) [4] (.nm 4) yesB (tupS (consA (vP 4) (consA (cS (.int 9)) nilA))) [.im (.list (xs.map .int)), .im (.tuple (ks.map kindD)), .im (rowsD rs), x3, .no] = .ok (.list ((rangeD 0 12).map fun d => .tuple [d, .int 9])) := by
    have hr : rangeD 0 12 = [.int 0, .int 1, .int 2, .int 3, .int 4, .int 5, .int 6, .int 7, .int 8, .int 9, .int 10, .int 11] := rfl
    simp [lcS, itR1, cS, in62, hr, lcGo, tgD, yesB, wipeD, tupS, consA, nilA, vP, big]
  obtain ⟨y3, s3⟩ := for_all (k := 3) (b := g_law_3B) (fi := itT (tupS (consA (vP 2) (consA (lstS nilA) (consA (lstS (consA (tupS (consA (cS (.int 0)) (consA (cS (.int 1)) nilA))) (consA (tupS (consA (cS (.int 99)) (consA (cS (.int 99)) nilA))) nilA))) (consA (lcS (itR1 (cS (.int 12))) [4] (.nm 4) yesB (tupS (consA (vP 4) (consA (cS (.int 9)) nilA)))) nilA)))))) (items := [rowsD rs, .list [], .list [.tuple [.int 0, .int 1], .tuple [.int 99, .int 99]], .list ((rangeD 0 12).map fun d => .tuple [d, .int 9])]) (pre := [.im (.list (xs.map .int)), .im (.tuple (ks.map kindD)), .im (rowsD rs)]) (post := [.no]) (x0 := x3) rfl (by
      simp only [itT, tupS, lstS, consA, nilA, vP, cS, List.cons_append, List.nil_append, List.getElem?_cons_zero, List.getElem?_cons_succ, R.ok_bind, l12]
      simp [big]) (fun x hx => by
    have hv : V_are_rows [x] = .ok (.bool true) ∧ V_are_kinds [x] = .ok (.bool false) := by
      simp only [List.mem_cons, List.not_mem_nil, or_false] at hx
      rcases hx with rfl | rfl | rfl | rfl
      · exact ⟨r1, kL _⟩
      · exact ⟨r0, kL _⟩
      · exact ⟨r2, kL _⟩
      · exact ⟨r12, kL _⟩
    simp [g_law_3B, g_law_3b_1, setS, setN, parPP, parNP, parPN, parNN, toO, toB, ifS, retS, exS, appS, extS, dputS, frzS, nxS, vP, vT, cS, op1, op2, gI, addI, subI, mulI, divI, modI, powI, ltI, leI, gtI, geI, minI, maxI, bS, bO, andB, orB, notB, andV, orV, notV, chI, ifE, tupS, lstS, nilA, consA, callS, callK, isiS, lenD, intD, ixD, atR, dgetD, big, plS, plainD, hv.1, hv.2, isntD])
  obtain ⟨k, ks', rfl⟩ : ∃ k ks', ks = k :: ks' := by
    cases ks with
    | nil => exact absurd hk.pos (by simp)
    | cons k r => exact ⟨k, r, rfl⟩
  have few := hk.few
  simp only [List.length_cons] at few
  have ba := badK_all hk
  obtain ⟨z3, s4⟩ := for_all (k := 3) (b := g_law_4B) (fi := itL (callS (consA (vP 1) nilA) V__law_bad_kinds [])) (items := badK k (ks'.map kindD)) (pre := [.im (.list (xs.map .int)), .im (.tuple ((k :: ks').map kindD)), .im (rowsD rs)]) (post := [.no]) (x0 := y3) rfl (by
      have := V_badK k (ks'.map kindD) (by simp; omega)
      simp only [itL, callS, consA, nilA, vP, List.cons_append, List.nil_append, List.getElem?_cons_zero, List.getElem?_cons_succ, R.ok_bind, List.append_nil, List.map_cons, this]) (fun x hx => by
    have h1 := List.all_eq_true.mp ba x hx
    simp only [Bool.and_eq_true, Bool.not_eq_true'] at h1
    have hv := vkF x h1.1 h1.2
    simp [g_law_4B, g_law_4b_1, setS, setN, parPP, parNP, parPN, parNN, toO, toB, ifS, retS, exS, appS, extS, dputS, frzS, nxS, vP, vT, cS, op1, op2, gI, addI, subI, mulI, divI, modI, powI, ltI, leI, gtI, geI, minI, maxI, bS, bO, andB, orB, notB, andV, orV, notV, chI, ifE, tupS, lstS, nilA, consA, callS, callK, isiS, lenD, intD, ixD, atR, dgetD, big, plS, plainD, hv, isntD])
  have hc1 : cutL (rs.map rowD) none (some 1) = (rs.take 1).map rowD := by
    match rs with
    | [] => rfl
    | [p] => rfl
    | p :: q :: r =>
      unfold cutL
      rw [HT.sIx_none]
      simp [HT.sIx, rowD]
  have s5 : g_law_5 [.im (.list (xs.map .int)), .im (.tuple ((k :: ks').map kindD)), .im (rowsD rs), z3, .no] = .rt (.bool true) := by
    have hb := V_badR (rs.take 1) (by simp; omega)
    have ha := badR_all (rs := rs.take 1) (by simp; omega) (fun p hp => by have := hr.wk p (List.mem_of_mem_take hp); omega)
    have z := lcGo_fm (k := .nm 3) (ft := yesB) (fe := op2 isntD (callS (consA (vP 3) nilA) V_are_rows []) (cS (.bool false))) (ds := wipeD [.im (.list (xs.map .int)), .im (.tuple ((k :: ks').map kindD)), .im (rowsD rs), z3, .no] [3]) id (fun _ => true) (fun _ => .bool false) (xs := badR (rs.take 1)) (fun d hd => ⟨_, rfl, rfl, fun _ => by
      have h1 := List.all_eq_true.mp ha d hd
      simp only [Bool.not_eq_true'] at h1
      have hv := V_rowsA d
      rw [h1] at hv
      simp [wipeD, setS, setN, parPP, parNP, parPN, parNN, toO, toB, ifS, retS, exS, appS, extS, dputS, frzS, nxS, vP, vT, cS, op1, op2, gI, addI, subI, mulI, divI, modI, powI, ltI, leI, gtI, geI, minI, maxI, bS, bO, andB, orB, notB, andV, orV, notV, chI, ifE, tupS, lstS, nilA, consA, callS, callK, isiS, lenD, intD, ixD, atR, dgetD, big, plS, plainD, hv, isntD]⟩)
    rw [List.filter_eq_self.mpr (fun _ _ => rfl), List.map_id] at z
    have el : lcS (itL (callS (consA (slL (vP 2) noO (someO (cS (.int 1)))) nilA) V__law_bad_rows [])) [3] (.nm 3) yesB (op2 isntD (callS (consA (vP 3) nilA) V_are_rows []) (cS (.bool false))) [.im (.list (xs.map .int)), .im (.tuple ((k :: ks').map kindD)), .im (rowsD rs), z3, .no] = .ok (.list (((badR (rs.take 1)).map fun _ => false).map .bool)) := by
      have hz : (badR (rs.take 1)).length ≤ big := by
        unfold badR brA brL2 brL3 brE big
        simp
      have hsl : slL (vP 2) noO (someO (cS (.int 1))) [.im (.list (xs.map .int)), .im (.tuple ((k :: ks').map kindD)), .im (rowsD rs), z3, .no] = .ok (rowsD (rs.take 1)) := by
        simp only [slL, vP, noO, someO, cS, List.getElem?_cons_zero, List.getElem?_cons_succ, R.ok_bind, rowsD, hc1]
      simp only [lcS, itL, callS, consA, nilA, hsl, R.ok_bind, List.append_nil, hb, if_pos hz]
      rw [z]
      simp
    simp only [g_law_5, retS, notV, op1, el, R.ok_bind, anyD, blsO_map]
    simp [toO]
  show bodyS 5 [false] g_law _ = _
  rw [bodyS, g_law, show startS 5 [false] [.list (xs.map .int)] = [.im (.list (xs.map .int)), .no, .no, .no, .no] from rfl, seq_nx s1, seq_nx (show g_law_2 [.im (.list (xs.map .int)), .im (.tuple ((k :: ks').map kindD)), .im (rowsD rs), .no, .no] = .nx [.im (.list (xs.map .int)), .im (.tuple ((k :: ks').map kindD)), .im (rowsD rs), x3, .no] from s2), seq_nx (show g_law_3 [.im (.list (xs.map .int)), .im (.tuple ((k :: ks').map kindD)), .im (rowsD rs), x3, .no] = .nx [.im (.list (xs.map .int)), .im (.tuple ((k :: ks').map kindD)), .im (rowsD rs), y3, .no] from s3), seq_nx (show g_law_4 [.im (.list (xs.map .int)), .im (.tuple ((k :: ks').map kindD)), .im (rowsD rs), y3, .no] = .nx [.im (.list (xs.map .int)), .im (.tuple ((k :: ks').map kindD)), .im (rowsD rs), z3, .no] from s4), s5]
end Cb
namespace Cb
open PySem PySem.Spec PyProof.Rows L2
def dn_is_number : He.DefD := ⟨("is_number", none), "is_number", "is_number", defArgs s_is_number, defBody s_is_number, defScope s_is_number, [], []⟩
def dn_is_name : He.DefD := ⟨("is_name", none), "is_name", "is_name", defArgs s_is_name, defBody s_is_name, defScope s_is_name, [], []⟩
def dn_is_kind : He.DefD := ⟨("is_kind", none), "is_kind", "is_kind", defArgs s_is_kind, defBody s_is_kind, defScope s_is_kind, [], []⟩
def dn_are_kinds : He.DefD := ⟨("are_kinds", none), "are_kinds", "are_kinds", defArgs s_are_kinds, defBody s_are_kinds, defScope s_are_kinds, [], []⟩
def dn_is_row : He.DefD := ⟨("is_row", none), "is_row", "is_row", defArgs s_is_row, defBody s_is_row, defScope s_is_row, [], []⟩
def dn_are_rows : He.DefD := ⟨("are_rows", none), "are_rows", "are_rows", defArgs s_are_rows, defBody s_are_rows, defScope s_are_rows, [], []⟩
def dn__law_pick : He.DefD := ⟨("_law_pick", none), "_law_pick", "_law_pick", defArgs s__law_pick, defBody s__law_pick, defScope s__law_pick, [], []⟩
def dn__law_names : He.DefD := ⟨("_law_names", none), "_law_names", "_law_names", defArgs s__law_names, defBody s__law_names, defScope s__law_names, [], []⟩
def dn__law_kinds : He.DefD := ⟨("_law_kinds", none), "_law_kinds", "_law_kinds", defArgs s__law_kinds, defBody s__law_kinds, defScope s__law_kinds, [], []⟩
def dn__law_rows : He.DefD := ⟨("_law_rows", none), "_law_rows", "_law_rows", defArgs s__law_rows, defBody s__law_rows, defScope s__law_rows, [], []⟩
def dn__law_bad_kinds : He.DefD := ⟨("_law_bad_kinds", none), "_law_bad_kinds", "_law_bad_kinds", defArgs s__law_bad_kinds, defBody s__law_bad_kinds, defScope s__law_bad_kinds, [], []⟩
def dn__law_bad_rows : He.DefD := ⟨("_law_bad_rows", none), "_law_bad_rows", "_law_bad_rows", defArgs s__law_bad_rows, defBody s__law_bad_rows, defScope s__law_bad_rows, [], []⟩
def dn_law : He.DefD := ⟨("law", none), "law", "law", defArgs s_law, defBody s_law, defScope s_law, [], []⟩
def fnL : List He.DefD := [dn_is_number, dn_is_name, dn_is_kind, dn_are_kinds, dn_is_row, dn_are_rows, dn__law_pick, dn__law_names, dn__law_kinds, dn__law_rows, dn__law_bad_kinds, dn__law_bad_rows, dn_law]
def faL : List He.Fa := [.glo "is_number", .glo "is_name", .glo "is_kind", .glo "are_kinds", .glo "is_row", .glo "are_rows", .glo "_law_pick", .glo "_law_names", .glo "_law_kinds", .glo "_law_rows", .glo "_law_bad_kinds", .glo "_law_bad_rows", .glo "law", .free "all", .free "any", .free "bool", .free "int", .free "isinstance", .free "len", .free "list", .free "max", .free "range", .free "set", .free "str", .free "tuple", .free "zip", .int "LONGEST_NAME" 6, .int "LONGEST_SPAN" 4, .int "MOST_A_WEEK" 9, .int "MOST_IN_ROW" 99, .int "MOST_KINDS" 4, .int "MOST_ROWS" 12, .str "SMALL" "abcdefghijklmnopqrstuvwxyz", .int "WEEKS" 100]
def nm0 : List PySem.Str := ["SMALL", "LONGEST_NAME", "MOST_KINDS", "MOST_A_WEEK", "LONGEST_SPAN", "WEEKS", "MOST_ROWS", "MOST_IN_ROW", "is_number", "is_name", "is_kind", "are_kinds", "is_row", "are_rows", "_law_pick", "_law_names", "_law_kinds", "_law_rows", "_law_bad_kinds", "_law_bad_rows"]
def nmL : List PySem.Str := nm0
abbrev Rw : PySem.W.OpenRow := PySem.W.OpenLaw.row PySem.Challenge.rw_couponbooks_k01_kinds_and_rows
abbrev hkL : PySem.W.Hook := He.hookD 4 faL fnL
def obL (s : PySem.W.SharedT) : He.AlD := He.obsDG 4 faL fnL (HandSHeadRun.getT s)
theorem obL_eq (s : PySem.W.SharedT) : obL s = hkL.obs s.abs := He.obsDG_eq (HandSHeadRun.getT_eq s)
theorem runL (w : World) : HandSHeadRun.RunEq Rw (PySem.W.view Rw.prog [22]) hkL obL 4000 nmL w := by
  intro os
  kernel_rfl
theorem txL {K : PySem.W.Frag} {h : Heap} {mg : Str → Option Value} (X : K.In h) (G : h.Ns mainGlobals mg) (c : He.SaysD faL fnL K) : Tx K mg where
  f_is_number := c.def_ 0 (d := dn_is_number) rfl
  g_is_number := He.glo_ok X G (c.fact 0 (f := .glo "is_number") rfl)
  f_is_name := c.def_ 1 (d := dn_is_name) rfl
  g_is_name := He.glo_ok X G (c.fact 1 (f := .glo "is_name") rfl)
  f_is_kind := c.def_ 2 (d := dn_is_kind) rfl
  g_is_kind := He.glo_ok X G (c.fact 2 (f := .glo "is_kind") rfl)
  f_are_kinds := c.def_ 3 (d := dn_are_kinds) rfl
  g_are_kinds := He.glo_ok X G (c.fact 3 (f := .glo "are_kinds") rfl)
  f_is_row := c.def_ 4 (d := dn_is_row) rfl
  g_is_row := He.glo_ok X G (c.fact 4 (f := .glo "is_row") rfl)
  f_are_rows := c.def_ 5 (d := dn_are_rows) rfl
  g_are_rows := He.glo_ok X G (c.fact 5 (f := .glo "are_rows") rfl)
  f__law_pick := c.def_ 6 (d := dn__law_pick) rfl
  g__law_pick := He.glo_ok X G (c.fact 6 (f := .glo "_law_pick") rfl)
  f__law_names := c.def_ 7 (d := dn__law_names) rfl
  g__law_names := He.glo_ok X G (c.fact 7 (f := .glo "_law_names") rfl)
  f__law_kinds := c.def_ 8 (d := dn__law_kinds) rfl
  g__law_kinds := He.glo_ok X G (c.fact 8 (f := .glo "_law_kinds") rfl)
  f__law_rows := c.def_ 9 (d := dn__law_rows) rfl
  g__law_rows := He.glo_ok X G (c.fact 9 (f := .glo "_law_rows") rfl)
  f__law_bad_kinds := c.def_ 10 (d := dn__law_bad_kinds) rfl
  g__law_bad_kinds := He.glo_ok X G (c.fact 10 (f := .glo "_law_bad_kinds") rfl)
  f__law_bad_rows := c.def_ 11 (d := dn__law_bad_rows) rfl
  g__law_bad_rows := He.glo_ok X G (c.fact 11 (f := .glo "_law_bad_rows") rfl)
  f_law := c.def_ 12 (d := dn_law) rfl
  g_law := He.glo_ok X G (c.fact 12 (f := .glo "law") rfl)
  b_all := He.free_ok X G (c.fact 13 (f := .free "all") rfl)
  b_any := He.free_ok X G (c.fact 14 (f := .free "any") rfl)
  b_bool := He.free_ok X G (c.fact 15 (f := .free "bool") rfl)
  b_int := He.free_ok X G (c.fact 16 (f := .free "int") rfl)
  b_isinstance := He.free_ok X G (c.fact 17 (f := .free "isinstance") rfl)
  b_len := He.free_ok X G (c.fact 18 (f := .free "len") rfl)
  b_list := He.free_ok X G (c.fact 19 (f := .free "list") rfl)
  b_max := He.free_ok X G (c.fact 20 (f := .free "max") rfl)
  b_range := He.free_ok X G (c.fact 21 (f := .free "range") rfl)
  b_set := He.free_ok X G (c.fact 22 (f := .free "set") rfl)
  b_str := He.free_ok X G (c.fact 23 (f := .free "str") rfl)
  b_tuple := He.free_ok X G (c.fact 24 (f := .free "tuple") rfl)
  b_zip := He.free_ok X G (c.fact 25 (f := .free "zip") rfl)
  c_LONGEST_NAME := He.int_ok X G (c.fact 26 (f := .int "LONGEST_NAME" 6) rfl)
  c_LONGEST_SPAN := He.int_ok X G (c.fact 27 (f := .int "LONGEST_SPAN" 4) rfl)
  c_MOST_A_WEEK := He.int_ok X G (c.fact 28 (f := .int "MOST_A_WEEK" 9) rfl)
  c_MOST_IN_ROW := He.int_ok X G (c.fact 29 (f := .int "MOST_IN_ROW" 99) rfl)
  c_MOST_KINDS := He.int_ok X G (c.fact 30 (f := .int "MOST_KINDS" 4) rfl)
  c_MOST_ROWS := He.int_ok X G (c.fact 31 (f := .int "MOST_ROWS" 12) rfl)
  c_SMALL := He.str_ok X G (c.fact 32 (f := .str "SMALL" "abcdefghijklmnopqrstuvwxyz") rfl)
  c_WEEKS := He.int_ok X G (c.fact 33 (f := .int "WEEKS" 100) rfl)
end Cb
open PySem PySem.W PySem.Calls PyProof.Rows
theorem Cb.end_of (main : ∀ ns : List Int, ns.length ≤ 63 → Cb.V_law [.list (ns.map .int)] = .ok (.bool true)) : PySem.Challenge.rw_couponbooks_k01_kinds_and_rows.Holds := by
  w_on; o_law
  refine HandSHeadRun.head_any (r := OpenLaw.row PySem.Challenge.rw_couponbooks_k01_kinds_and_rows) (q := view (OpenLaw.row PySem.Challenge.rw_couponbooks_k01_kinds_and_rows).prog [22]) (H := Cb.hkL) (ob := Cb.obL) (M := 4000) (loose := Cb.nmL) (d := HandSHeadRun.topDef (OpenLaw.row PySem.Challenge.rw_couponbooks_k01_kinds_and_rows).prog 22) (kwd := []) Cb.obL_eq
    (by kernel_rfl) (fun s => by kernel_rfl) Cb.runL (by kernel_rfl) (by kernel_rfl) (by kernel_rfl) (by rfl) (by first | assumption | decide +kernel) (by decide +kernel) ⟨rfl, rfl, rfl, rfl, rfl, by decide +kernel⟩ ?hw ?hc
  case hw => w_witness2
  case hc =>
    refine L2.walk_ofE (l := PySem.Challenge.rw_couponbooks_k01_kinds_and_rows) (n := 63) (k := 4) (x := "script") (CX := L2.CX0) rfl (by decide) (by kernel_rfl) ⟨rfl, by decide, by decide⟩ ?F (fun _ _ _ _ z => z)
    intro w mg fa h Y G hmg0
    obtain ⟨K, KX, c⟩ := Y
    have hmg : mg ("law" : PySem.Str) = some (.ref fa) := by
      have e : (HandSHeadRun.topDef (OpenLaw.row PySem.Challenge.rw_couponbooks_k01_kinds_and_rows).prog 22).name = ("law" : PySem.Str) := by kernel_rfl
      rw [← e]
      exact hmg0
    have T := Cb.txL KX G c
    obtain ⟨fd, F⟩ := T.f_law
    have e := hmg.symm.trans T.g_law
    cases e
    have b := L2.FunD.bindsA (ps := ["script"]) F fun _ _ _ _ _ _ us hl => match us, hl with | [_], _ => rfl
    refine ⟨K, fd, fun vs H Q _ => Cb.spS [] K (He.ga K) [false] Cb.V_law vs H Q fun _ _ _ => False, KX, fun s v => b s [v] rfl, fun H a ns hl _ hS => Cb.law_sp (main ns hl) (fun _ z => nomatch z) hS, fun base _ _ => Cb.fn_calm (Cb.ok_law (TL := []) (P := (PySem.Challenge.rw_couponbooks_k01_kinds_and_rows).prog) (w := w) (base := base) T F)⟩
theorem PySem.Challenge.cw_couponbooks_k01_kinds_and_rows_holds : PySem.Challenge.rw_couponbooks_k01_kinds_and_rows.Holds := by
  exact Cb.end_of Cb.V_law_true
