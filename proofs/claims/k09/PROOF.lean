import PyProof.Rows.All
import Wide.All
import OpenK.AllK
import Wide.FinOn
import HandS.ForMost
import HandS.Exc
import HandS.TryOnly
import HandS.ExcOwn
import HandS.WordsExc
import HandS.IsInst
import HandS.Wide
import HandS.More
import HandS.SortInts
import HandS.Defaults
import HandS.CallSlots
import HandS.Flow
import HandS.Head0
import HandS.Head1
import HandS.Head2
import HandS.HeadEnd
import HandS.HeadHook1
import HandS.HeadHook2
import PySem.Challenge.RW_couponbooks_k09_whole_oldest_first
import KE.KStateDown
import Lean
set_option Elab.async false
set_option linter.all false
set_option maxRecDepth 100000
set_option maxHeartbeats 0
/-! The data level: what an expression, a statement, a def is worth in plain data. -/
namespace Cb
open PySem PySem.Spec PyProof.Rows L2
/-! ### results -/
inductive R (α : Type) where
  | bad
  | ok (a : α)
  | err (x : Str)
namespace R
def bind {α β : Type} (m : R α) (f : α → R β) : R β := match m with
  | .bad => .bad
  | .ok a => f a
  | .err x => .err x
instance : Monad R where
  pure := R.ok
  bind := R.bind
@[simp] theorem ok_bind {α β : Type} (a : α) (f : α → R β) : (R.ok a >>= f) = f a := rfl
@[simp] theorem bad_bind {α β : Type} (f : α → R β) : ((R.bad : R α) >>= f) = R.bad := rfl
@[simp] theorem err_bind {α β : Type} (x : Str) (f : α → R β) : ((R.err x : R α) >>= f) = R.err x := rfl
@[simp] theorem pure_ok {α : Type} (a : α) : (pure a : R α) = R.ok a := rfl
end R
/-! ### data in the heap -/
def kD : Key → PyData
  | .inl i => .int i
  | .inr x => .str x
mutual
inductive Dq (K : PySem.W.Frag) (H : Hp) : V → PyData → Prop
  | non : Dq K H .non .none
  | bl (b : Bool) : Dq K H (.bl b) (.bool b)
  | int (i : Int) : Dq K H (.int i) (.int i)
  | str (x : Str) : Dq K H (.str x) (.str x)
  | lst {a : Addr} {xs : List V} {ds : List PyData} : SqL K H a xs → DqAll K H xs ds → Dq K H (.ref a) (.list ds)
  | tup {a : Addr} {xs : List V} {ds : List PyData} : SqT K H a xs → DqAll K H xs ds → Dq K H (.ref a) (.tuple ds)
  | dct {a : Addr} {kvs : List (Key × V)} {ds : List (PyData × PyData)} : H a = some (.dK kvs) → DqKV K H kvs ds → Dq K H (.ref a) (.dict ds)
inductive DqAll (K : PySem.W.Frag) (H : Hp) : List V → List PyData → Prop
  | nil : DqAll K H [] []
  | cons {v : V} {vs : List V} {d : PyData} {ds : List PyData} : Dq K H v d → DqAll K H vs ds → DqAll K H (v :: vs) (d :: ds)
inductive DqKV (K : PySem.W.Frag) (H : Hp) : List (Key × V) → List (PyData × PyData) → Prop
  | nil : DqKV K H [] []
  | cons {k : Key} {v : V} {kvs : List (Key × V)} {d : PyData} {ds : List (PyData × PyData)} : Dq K H v d → DqKV K H kvs ds → DqKV K H ((k, v) :: kvs) ((kD k, d) :: ds)
end
theorem sqT_mono {K : PySem.W.Frag} {H H' : Hp} {a : Addr} {xs : List V} (e : Same H H') (h : SqT K H a xs) : SqT K H' a xs := by
  rcases h with (h | ⟨o, h⟩) | h
  · exact .inl (.inl (e _ _ h))
  · exact .inl (.inr ⟨o, e _ _ h⟩)
  · exact .inr h
mutual
theorem Dq.mono {K : PySem.W.Frag} {H H' : Hp} (e : Same H H') : ∀ {v : V} {d : PyData}, Dq K H v d → Dq K H' v d
  | _, _, .non => .non
  | _, _, .bl b => .bl b
  | _, _, .int i => .int i
  | _, _, .str x => .str x
  | _, _, .lst h a => .lst (e.seq h) (DqAll.mono e a)
  | _, _, .tup h a => .tup (sqT_mono e h) (DqAll.mono e a)
  | _, _, .dct h a => .dct (e _ _ h) (DqKV.mono e a)
theorem DqAll.mono {K : PySem.W.Frag} {H H' : Hp} (e : Same H H') : ∀ {vs : List V} {ds : List PyData}, DqAll K H vs ds → DqAll K H' vs ds
  | _, _, .nil => .nil
  | _, _, .cons h t => .cons (Dq.mono e h) (DqAll.mono e t)
theorem DqKV.mono {K : PySem.W.Frag} {H H' : Hp} (e : Same H H') : ∀ {vs : List (Key × V)} {ds : List (PyData × PyData)}, DqKV K H vs ds → DqKV K H' vs ds
  | _, _, .nil => .nil
  | _, _, .cons h t => .cons (Dq.mono e h) (DqKV.mono e t)
end
theorem DqAll.length {K : PySem.W.Frag} {H : Hp} : ∀ {vs : List V} {ds : List PyData}, DqAll K H vs ds → vs.length = ds.length
  | _, _, .nil => rfl
  | _, _, .cons _ t => congrArg Nat.succ (DqAll.length t)
theorem DqAll.get {K : PySem.W.Frag} {H : Hp} : ∀ {vs : List V} {ds : List PyData} {i : Nat} {d : PyData}, DqAll K H vs ds → ds[i]? = some d → ∃ v, vs[i]? = some v ∧ Dq K H v d
  | _, _, _, _, .nil, e => by simp at e
  | _, _, 0, _, .cons h _, e => by
    simp at e
    subst e
    exact ⟨_, rfl, h⟩
  | _, _, i + 1, _, .cons _ t, e => by
    obtain ⟨v, h1, h2⟩ := DqAll.get (i := i) t (by simpa using e)
    exact ⟨v, by simpa using h1, h2⟩
theorem DqAll.at {K : PySem.W.Frag} {H : Hp} : ∀ {vs : List V} {ds : List PyData} {i : Nat} {v : V}, DqAll K H vs ds → vs[i]? = some v → ∃ d, ds[i]? = some d ∧ Dq K H v d
  | _, _, _, _, .nil, e => by simp at e
  | _, _, 0, _, .cons h _, e => by
    simp at e
    subst e
    exact ⟨_, rfl, h⟩
  | _, _, i + 1, _, .cons _ t, e => by
    obtain ⟨v, h1, h2⟩ := DqAll.at (i := i) t (by simpa using e)
    exact ⟨v, by simpa using h1, h2⟩
theorem DqAll.append {K : PySem.W.Frag} {H : Hp} : ∀ {vs ws : List V} {ds es : List PyData}, DqAll K H vs ds → DqAll K H ws es → DqAll K H (vs ++ ws) (ds ++ es)
  | _, _, _, _, .nil, h => h
  | _, _, _, _, .cons h t, k => .cons h (DqAll.append t k)
theorem DqAll.drop {K : PySem.W.Frag} {H : Hp} : ∀ {vs : List V} {ds : List PyData} (n : Nat), DqAll K H vs ds → DqAll K H (vs.drop n) (ds.drop n)
  | _, _, 0, h => h
  | _, _, _ + 1, .nil => .nil
  | _, _, n + 1, .cons _ t => DqAll.drop n t
theorem DqAll.take {K : PySem.W.Frag} {H : Hp} : ∀ {vs : List V} {ds : List PyData} (n : Nat), DqAll K H vs ds → DqAll K H (vs.take n) (ds.take n)
  | _, _, 0, _ => .nil
  | _, _, _ + 1, .nil => .nil
  | _, _, n + 1, .cons h t => .cons h (DqAll.take n t)
/-! ### a heap and its frozen part grow -/
structure Grow (F H F' H' : Hp) : Prop where
  hh : Same H H'
  ff : Same F F'
  fh : Same F' H'
  nw : ∀ a, F a = none → H a ≠ none → F' a = none
section
variable {F H F1 H1 F2 H2 : Hp} {p : Addr} {o : HO}
theorem same_new (h : H p = none) : Same H (upd H p o) := fun b x e => by
  rw [upd_ne (ne_of_none e h)]
  exact e
theorem Grow.refl (e : Same F H) : Grow F H F H := ⟨.refl _, .refl _, e, fun _ h _ => h⟩
theorem Grow.trans (g : Grow F H F1 H1) (k : Grow F1 H1 F2 H2) : Grow F H F2 H2 :=
  ⟨g.hh.trans k.hh, g.ff.trans k.ff, k.fh, fun a h1 h2 => k.nw a (g.nw a h1 h2) fun e => h2 (g.hh.free e)⟩
/-- a new object, frozen at once -/
theorem Grow.new (e : Same F H) (h : H p = none) : Grow F H (upd F p o) (upd H p o) where
  hh := same_new h
  ff := same_new (e.free h)
  fh := fun b x q => by
    by_cases hb : b = p
    · subst hb
      rw [upd_same] at q
      rw [upd_same]
      exact q
    · rw [upd_ne hb] at q
      rw [upd_ne hb]
      exact e b x q
  nw := fun a h1 h2 => by
    rw [upd_ne (fun z => h2 (by rw [z]; exact h))]
    exact h1
/-- a new object of one's own -/
theorem Grow.own (e : Same F H) (h : H p = none) : Grow F H F (upd H p o) :=
  ⟨same_new h, .refl _, e.trans (same_new h), fun _ h1 _ => h1⟩
/-- an owned object is frozen -/
theorem Grow.frz {F0 H0 : Hp} (g : Grow F0 H0 F H) (h0 : H0 p = none) (hF : F p = none) (hp : H p = some o) : Grow F0 H0 (upd F p o) H where
  hh := g.hh
  ff := g.ff.trans (same_new hF)
  fh := fun b x q => by
    by_cases hb : b = p
    · subst hb
      rw [upd_same] at q
      rw [hp]
      exact q
    · rw [upd_ne hb] at q
      exact g.fh b x q
  nw := fun a h1 h2 => by
    rw [upd_ne (fun z => h2 (by rw [z]; exact h0))]
    exact g.nw a h1 h2
/-- an owned object is changed -/
theorem Grow.mut {F0 H0 : Hp} (g : Grow F0 H0 F H) (h0 : H0 p = none) (hF : F p = none) : Grow F0 H0 F (upd H p o) where
  hh := fun b x q => by
    rw [upd_ne (ne_of_none q h0)]
    exact g.hh b x q
  ff := g.ff
  fh := fun b x q => by
    rw [upd_ne (ne_of_none q hF)]
    exact g.fh b x q
  nw := g.nw
end
/-! ### a frame's slots -/
inductive Sl where
  | no
  | im (d : PyData)
  | bw (d : PyData)
  | ow (d : PyData)
abbrev DS := List Sl
def Own (K : PySem.W.Frag) (F H : Hp) (p : Addr) : PyData → Prop
  | .list ds => ∃ vs, H p = some (.lst vs) ∧ DqAll K F vs ds
  | .dict kvs => ∃ l, H p = some (.dK l) ∧ DqKV K F l kvs
  | _ => False
theorem Own.there {K : PySem.W.Frag} {F H : Hp} {p : Addr} {d : PyData} (h : Own K F H p d) : ∃ o, H p = some o := by
  cases d with
  | list ds => obtain ⟨vs, e, _⟩ := h; exact ⟨_, e⟩
  | dict ds => obtain ⟨vs, e, _⟩ := h; exact ⟨_, e⟩
  | _ => exact h.elim
theorem Own.mono {K : PySem.W.Frag} {F H F' H' : Hp} {p : Addr} {d : PyData} (h : Own K F H p d) (f : Same F F') (e : ∀ o, H p = some o → H' p = some o) : Own K F' H' p d := by
  cases d with
  | list ds => obtain ⟨vs, q, a⟩ := h; exact ⟨vs, e _ q, a.mono f⟩
  | dict ds => obtain ⟨vs, q, a⟩ := h; exact ⟨vs, e _ q, a.mono f⟩
  | _ => exact h.elim
/-- read while it stands -/
theorem Own.dq {K : PySem.W.Frag} {F H : Hp} {p : Addr} {d : PyData} (h : Own K F H p d) (f : Same F H) : Dq K H (.ref p) d := by
  cases d with
  | list ds => obtain ⟨vs, q, a⟩ := h; exact .lst (.of q) (a.mono f)
  | dict ds => obtain ⟨vs, q, a⟩ := h; exact .dct q (a.mono f)
  | _ => exact h.elim
/-- what one def's body runs in: the frozen part and the heap at its entry, where its errors' classes stand, what is wanted of an error -/
structure Bk where
  F0 : Hp
  H0 : Hp
  cl : Str → Addr
  E : XK
def SlOk (K : PySem.W.Frag) (c : Bk) (F H : Hp) (v : Option (Option V)) : Sl → Prop
  | .no => True
  | .im d => ∃ x, v = some (some x) ∧ Dq K F x d
  | .bw d => ∃ x, v = some (some x) ∧ Dq K c.H0 x d
  | .ow d => ∃ p, v = some (some (.ref p)) ∧ c.H0 p = none ∧ F p = none ∧ Own K F H p d
structure Stt (K : PySem.W.Frag) (c : Bk) (F H : Hp) (σ : L2.St) (ds : DS) : Prop where
  gr : Grow c.F0 c.H0 F H
  len : σ.length = ds.length
  sl : ∀ (i : Nat) (s : Sl), ds[i]? = some s → SlOk K c F H σ[i]? s
  di : ∀ (i j : Nat) (p : Addr) (d e : PyData), i ≠ j → ds[i]? = some (.ow d) → ds[j]? = some (.ow e) → σ[i]? = some (some (.ref p)) → σ[j]? ≠ some (some (.ref p))
section
variable {K : PySem.W.Frag} {c : Bk} {F H F1 H1 : Hp} {σ : L2.St} {ds : DS}
theorem Stt.fh (e : Stt K c F H σ ds) : Same F H := e.gr.fh
theorem Stt.grow (e : Stt K c F H σ ds) (g : Grow F H F1 H1) : Stt K c F1 H1 σ ds where
  gr := e.gr.trans g
  len := e.len
  sl := fun i s h => by
    have q := e.sl i s h
    cases s with
    | no => trivial
    | im d => obtain ⟨x, e1, e2⟩ := q; exact ⟨x, e1, e2.mono g.ff⟩
    | bw d => exact q
    | ow d =>
      obtain ⟨p, e1, e2, e3, e4⟩ := q
      obtain ⟨o, ho⟩ := e4.there
      exact ⟨p, e1, e2, g.nw p e3 (by rw [ho]; simp), e4.mono g.ff (fun o' h' => g.hh _ _ h')⟩
  di := e.di
theorem get_set {α : Type} {l : List α} {i j : Nat} {a : α} : (l.set i a)[j]? = if i = j ∧ i < l.length then some a else l[j]? := by
  rw [List.getElem?_set]
  by_cases h : i = j
  · subst h
    by_cases h2 : i < l.length
    · simp [h2]
    · simp [h2]
  · simp [h]
/-- a slot gets a frozen thing -/
theorem Stt.set {i : Nat} {v : V} {d : PyData} (e : Stt K c F H σ ds) (h : Dq K F v d) : Stt K c F H (σ.set i (some v)) (ds.set i (.im d)) where
  gr := e.gr
  len := by rw [List.length_set, List.length_set]; exact e.len
  sl := fun j s q => by
    rw [get_set] at q
    rw [get_set]
    by_cases hij : i = j ∧ i < ds.length
    · rw [if_pos hij] at q
      cases q
      rw [if_pos (by rw [e.len]; exact hij)]
      exact ⟨v, rfl, h⟩
    · rw [if_neg hij] at q
      rw [if_neg (by rw [e.len]; exact hij)]
      exact e.sl j s q
  di := fun j k p d1 d2 hjk q1 q2 q3 => by
    rw [get_set] at q1 q2 q3
    rw [get_set]
    by_cases h1 : i = j ∧ i < ds.length
    · rw [if_pos h1] at q1
      cases q1
    · by_cases h2 : i = k ∧ i < ds.length
      · rw [if_pos h2] at q2
        cases q2
      · rw [if_neg h1] at q1
        rw [if_neg h2] at q2
        rw [if_neg (by rw [e.len]; exact h1)] at q3
        rw [if_neg (by rw [e.len]; exact h2)]
        exact e.di j k p d1 d2 hjk q1 q2 q3
/-- a slot is forgotten -/
theorem Stt.forget {i : Nat} {o : Option V} (e : Stt K c F H σ ds) : Stt K c F H (σ.set i o) (ds.set i .no) where
  gr := e.gr
  len := by rw [List.length_set, List.length_set]; exact e.len
  sl := fun j s q => by
    rw [get_set] at q
    rw [get_set]
    by_cases hij : i = j ∧ i < ds.length
    · rw [if_pos hij] at q
      cases q
      trivial
    · rw [if_neg hij] at q
      rw [if_neg (by rw [e.len]; exact hij)]
      exact e.sl j s q
  di := fun j k p d1 d2 hjk q1 q2 q3 => by
    rw [get_set] at q1 q2 q3
    rw [get_set]
    by_cases h1 : i = j ∧ i < ds.length
    · rw [if_pos h1] at q1
      cases q1
    · by_cases h2 : i = k ∧ i < ds.length
      · rw [if_pos h2] at q2
        cases q2
      · rw [if_neg h1] at q1
        rw [if_neg h2] at q2
        rw [if_neg (by rw [e.len]; exact h1)] at q3
        rw [if_neg (by rw [e.len]; exact h2)]
        exact e.di j k p d1 d2 hjk q1 q2 q3
/-- a slot gets a new object of one's own: no other owned slot holds it -/
theorem Stt.setN {i : Nat} {p : Addr} {d : PyData} (e : Stt K c F H σ ds) (h0 : c.H0 p = none) (hF : F p = none) (ho : Own K F H p d)
    (hn : ∀ (j : Nat) (d' : PyData), ds[j]? = some (.ow d') → j ≠ i → σ[j]? ≠ some (some (.ref p))) : Stt K c F H (σ.set i (some (.ref p))) (ds.set i (.ow d)) where
  gr := e.gr
  len := by rw [List.length_set, List.length_set]; exact e.len
  sl := fun j s q => by
    rw [get_set] at q
    rw [get_set]
    by_cases hij : i = j ∧ i < ds.length
    · rw [if_pos hij] at q
      cases q
      rw [if_pos (by rw [e.len]; exact hij)]
      exact ⟨p, rfl, h0, hF, ho⟩
    · rw [if_neg hij] at q
      rw [if_neg (by rw [e.len]; exact hij)]
      exact e.sl j s q
  di := fun j k p' d1 d2 hjk q1 q2 q3 => by
    rw [get_set] at q1 q2 q3
    rw [get_set]
    by_cases h1 : i = j ∧ i < ds.length
    · rw [if_pos (by rw [e.len]; exact h1)] at q3
      have ep : p = p' := by
        have z := Option.some.inj (Option.some.inj q3)
        exact V.ref.inj z
      subst ep
      by_cases h2 : i = k ∧ i < ds.length
      · exact absurd (h1.1.symm.trans h2.1) hjk
      · rw [if_neg h2] at q2
        rw [if_neg (by rw [e.len]; exact h2)]
        exact hn k d2 q2 (fun z => hjk (h1.1.symm.trans z.symm))
    · rw [if_neg h1] at q1
      rw [if_neg (by rw [e.len]; exact h1)] at q3
      by_cases h2 : i = k ∧ i < ds.length
      · rw [if_pos (by rw [e.len]; exact h2)]
        intro z
        have ep : p = p' := by
          have z := Option.some.inj (Option.some.inj z)
          exact V.ref.inj z
        subst ep
        exact hn j d1 q1 (fun z => hjk (z.trans h2.1)) q3
      · rw [if_neg h2] at q2
        rw [if_neg (by rw [e.len]; exact h2)]
        exact e.di j k p' d1 d2 hjk q1 q2 q3
/-- the object of an owned slot changes -/
theorem Stt.mut {i : Nat} {p : Addr} {d d' : PyData} {o : HO} (e : Stt K c F H σ ds) (hi : ds[i]? = some (.ow d)) (hp : σ[i]? = some (some (.ref p))) (ho : Own K F (upd H p o) p d') : Stt K c F (upd H p o) σ (ds.set i (.ow d')) := by
  obtain ⟨p', e1, e2, e3, e4⟩ := e.sl i _ hi
  have ep : p = p' := by
    rw [e1] at hp
    exact (V.ref.inj (Option.some.inj (Option.some.inj hp))).symm
  subst ep
  have hlt : i < ds.length := (List.getElem?_eq_some_iff.mp hi).1
  refine ⟨e.gr.mut e2 e3, by rw [List.length_set]; exact e.len, fun j s q => ?_, fun j k p' d1 d2 hjk q1 q2 q3 => ?_⟩
  · rw [get_set] at q
    by_cases hij : i = j ∧ i < ds.length
    · rw [if_pos hij] at q
      cases q
      rw [← hij.1]
      exact ⟨p, e1, e2, e3, ho⟩
    · rw [if_neg hij] at q
      have r := e.sl j s q
      cases s with
      | no => trivial
      | im x => exact r
      | bw x => exact r
      | ow x =>
        obtain ⟨p2, r1, r2, r3, r4⟩ := r
        have ne : p2 ≠ p := fun z => by
          subst z
          exact e.di i j p2 d x (fun z => hij ⟨z, hlt⟩) hi q e1 r1
        exact ⟨p2, r1, r2, r3, r4.mono (.refl _) fun o' h' => by rw [upd_ne ne]; exact h'⟩
  · have f : ∀ {m : Nat} {z : PyData}, (ds.set i (.ow d'))[m]? = some (.ow z) → ∃ z', ds[m]? = some (.ow z') := fun {m z} q => by
      rw [get_set] at q
      by_cases hij : i = m ∧ i < ds.length
      · rw [← hij.1]
        exact ⟨d, hi⟩
      · rw [if_neg hij] at q
        exact ⟨z, q⟩
    obtain ⟨z1, w1⟩ := f q1
    obtain ⟨z2, w2⟩ := f q2
    exact e.di j k p' z1 z2 hjk w1 w2 q3
end
end Cb
namespace Cb
open PySem PySem.Spec PyProof.Rows L2
/-! ### readings by data -/
abbrev ES := DS → R PyData
def wErr (c : Bk) (x : Str) : Prop := ∀ H', Same c.H0 H' → c.E (.ref (c.cl x)) none H'
def wP (K : PySem.W.Frag) (c : Bk) (F H : Hp) (Q : VK) : R PyData → Prop
  | .bad => False
  | .ok d => ∀ v F' H', Grow F H F' H' → Dq K F' v d → Q v H'
  | .err x => wErr c x
def wT (K : PySem.W.Frag) (c : Bk) (F H : Hp) (Q : VK) : R PyData → Prop
  | .bad => False
  | .ok d => ∀ v F' H', Grow F H F' H' → Dq K H' v d → Q v H'
  | .err x => wErr c x
def wN (K : PySem.W.Frag) (c : Bk) (F H : Hp) (Q : VK) : R PyData → Prop
  | .bad => False
  | .ok d => ∀ p F' H', Grow F H F' H' → H p = none → F' p = none → Own K F' H' p d → Q (.ref p) H'
  | .err x => wErr c x
def wB (c : Bk) (F H : Hp) (Q : Bool → Hp → Prop) : R Bool → Prop
  | .bad => False
  | .ok b => ∀ F' H', Grow F H F' H' → Q b H'
  | .err x => wErr c x
/-- a lasting thing; one that lasts until the next change; a new one of one's own; a test -/
def qP (K : PySem.W.Frag) (c : Bk) (f : ES) : TE := fun σ H Q => ∃ ds F, Stt K c F H σ ds ∧ wP K c F H Q (f ds)
def qT (K : PySem.W.Frag) (c : Bk) (f : ES) : TE := fun σ H Q => ∃ ds F, Stt K c F H σ ds ∧ wT K c F H Q (f ds)
def qN (K : PySem.W.Frag) (c : Bk) (f : ES) : TE := fun σ H Q => ∃ ds F, Stt K c F H σ ds ∧ wN K c F H Q (f ds)
def qB (K : PySem.W.Frag) (c : Bk) (f : DS → R Bool) : TT := fun σ H Q => ∃ ds F, Stt K c F H σ ds ∧ wB c F H Q (f ds)
section
variable {X : Cx} {e a b : Expr} {c : Bk} {f fa fb : ES} {pos : Pos}
theorem pe_imp {t t' : TE} (h : PE X e t) (i : ∀ σ H Q, t' σ H Q → t σ H Q) : PE X e t' := ⟨fun pins s σ H Q I q => h.run pins s σ H Q I (i σ H Q q)⟩
theorem pt_imp {t t' : TT} (h : PT X e t) (i : ∀ σ H Q, t' σ H Q → t σ H Q) : PT X e t' := ⟨fun pins s σ H Q I q => h.run pins s σ H Q I (i σ H Q q)⟩
theorem pw_imp {t t' : TT} (h : PW X e t) (i : ∀ σ H Q, t' σ H Q → t σ H Q) : PW X e t' := ⟨fun wh pins s σ H Q I q => h.run wh pins s σ H Q I (i σ H Q q)⟩
theorem pa_imp {es : List Expr} {t t' : TA} (h : PA X es t) (i : ∀ σ H Q, t' σ H Q → t σ H Q) : PA X es t' := ⟨fun p pins s σ H Q I q => h.run p pins s σ H Q I (i σ H Q q)⟩
theorem pi_imp {tg : Expr} {t t' : TI} (h : PI X tg e t) (i : ∀ σ H Q, t' σ H Q → t σ H Q) : PI X tg e t' := ⟨fun pins s σ H Q I q => h.run pins s σ H Q I (i σ H Q q)⟩
theorem ps_imp {st : Stmt} {t t' : TS} (h : PS X st t) (i : ∀ D σ H, t' D σ H → t D σ H) : PS X st t' := ⟨fun pins s σ H D I q => h.run pins s σ H D I (i D σ H q)⟩
theorem pss_imp {st : List Stmt} {t t' : TS} (h : PSs X st t) (i : ∀ D σ H, t' D σ H → t D σ H) : PSs X st t' := ⟨fun pins s σ H D I q => h.run pins s σ H D I (i D σ H q)⟩
theorem d_pt (h : PE X e (qP X.K c f)) : PE X e (qT X.K c f) := pe_imp h fun σ H Q ⟨ds, F, s, w⟩ => ⟨ds, F, s, by
  cases hf : f ds with
  | bad => rw [hf] at w; exact w
  | err x => rw [hf] at w; exact w
  | ok d =>
    rw [hf] at w
    exact fun v F' H' g q => w v F' H' g (q.mono g.fh)⟩
theorem d_np (h : PE X e (qN X.K c f)) : PE X e (qP X.K c f) := pe_imp h fun σ H Q ⟨ds, F, s, w⟩ => ⟨ds, F, s, by
  cases hf : f ds with
  | bad => rw [hf] at w; exact w
  | err x => rw [hf] at w; exact w
  | ok d =>
    rw [hf] at w
    intro p F' H' g hp hF ho
    cases d with
    | list xs =>
      obtain ⟨vs, e1, e2⟩ := ho
      exact w _ _ _ (g.frz hp hF e1) (.lst (.of upd_same) (e2.mono (same_new hF)))
    | dict xs =>
      obtain ⟨vs, e1, e2⟩ := ho
      exact w _ _ _ (g.frz hp hF e1) (.dct upd_same (e2.mono (same_new hF)))
    | _ => exact ho.elim⟩
theorem d_nt (h : PE X e (qN X.K c f)) : PE X e (qT X.K c f) := d_pt (d_np h)
/-! ### names, constants -/
def vP (i : Nat) : ES := fun ds => match ds[i]? with
  | some (.im d) => .ok d
  | _ => .bad
def vT (i : Nat) : ES := fun ds => match ds[i]? with
  | some (.im d) => .ok d
  | some (.bw d) => .ok d
  | some (.ow d) => .ok d
  | _ => .bad
def cS (d : PyData) : ES := fun _ => .ok d
theorem t_vP {K : PySem.W.Frag} {i : Nat} {σ : L2.St} {H : Hp} {Q : VK} (h : qP K c (vP i) σ H Q) : tVar i σ H Q := by
  obtain ⟨ds, F, s, w⟩ := h
  unfold vP at w
  cases hd : ds[i]? with
  | none => rw [hd] at w; exact w.elim
  | some x =>
    rw [hd] at w
    cases x with
    | im d =>
      obtain ⟨v, e1, e2⟩ := s.sl i _ hd
      exact ⟨v, e1, w v F H (.refl s.fh) e2⟩
    | _ => exact w.elim
theorem t_vT {K : PySem.W.Frag} {i : Nat} {σ : L2.St} {H : Hp} {Q : VK} (h : qT K c (vT i) σ H Q) : tVar i σ H Q := by
  obtain ⟨ds, F, s, w⟩ := h
  unfold vT at w
  cases hd : ds[i]? with
  | none => rw [hd] at w; exact w.elim
  | some x =>
    rw [hd] at w
    cases x with
    | im d =>
      obtain ⟨v, e1, e2⟩ := s.sl i _ hd
      exact ⟨v, e1, w v F H (.refl s.fh) (e2.mono s.fh)⟩
    | bw d =>
      obtain ⟨v, e1, e2⟩ := s.sl i _ hd
      exact ⟨v, e1, w v F H (.refl s.fh) (e2.mono s.gr.hh)⟩
    | ow d =>
      obtain ⟨p, e1, e2, e3, e4⟩ := s.sl i _ hd
      exact ⟨_, e1, w _ F H (.refl s.fh) (e4.dq s.fh)⟩
    | no => exact w.elim
theorem d_v (i : Nat) {x : Str} (hN : X.N[i]? = some x := by rfl) (hv : Vis X.env.scope x := by first | exact Or.inl rfl | exact Or.inr (Or.inl rfl) | exact Or.inr (Or.inr rfl)) (hd : (x == ("__debug__" : Str)) = false := by decide)
    (hcd : (x == ("__classdict__" : Str)) = false := by decide) : PE X (.Name x pos) (qP X.K c (vP i)) := pe_imp (pe_var hN hv hd hcd) fun _ _ _ h => t_vP h
theorem d_vt (i : Nat) {x : Str} (hN : X.N[i]? = some x := by rfl) (hv : Vis X.env.scope x := by first | exact Or.inl rfl | exact Or.inr (Or.inl rfl) | exact Or.inr (Or.inr rfl)) (hd : (x == ("__debug__" : Str)) = false := by decide)
    (hcd : (x == ("__classdict__" : Str)) = false := by decide) : PE X (.Name x pos) (qT X.K c (vT i)) := pe_imp (pe_var hN hv hd hcd) fun _ _ _ h => t_vT h
theorem t_c {K : PySem.W.Frag} {d : PyData} {v : V} (hs : ∀ F, Dq K F v d) {σ : L2.St} {H : Hp} {Q : VK} (h : qP K c (cS d) σ H Q) : tC v σ H Q := by
  obtain ⟨ds, F, s, w⟩ := h
  exact w v F H (.refl s.fh) (hs F)
theorem d_int {i j} : PE X (.Constant (.int i) j pos) (qP X.K c (cS (.int i))) := pe_imp pe_int fun _ _ _ h => t_c (fun _ => .int i) h
theorem d_str {x j} : PE X (.Constant (.str x) j pos) (qP X.K c (cS (.str x))) := pe_imp pe_str fun _ _ _ h => t_c (fun _ => .str x) h
theorem d_bl {x j} : PE X (.Constant (.bool x) j pos) (qP X.K c (cS (.bool x))) := pe_imp pe_bl fun _ _ _ h => t_c (fun _ => .bl x) h
theorem d_non {j} : PE X (.Constant .none j pos) (qP X.K c (cS .none)) := pe_imp pe_non fun _ _ _ h => t_c (fun _ => .non) h
/-- a module's constant -/
theorem d_gi {x : Str} {i : Int} {t : Tok} (hm : X.mg x = some (.int i t)) (hg : Gl X x := by rfl) (hd : (x == ("__debug__" : Str)) = false := by decide) : PE X (.Name x pos) (qP X.K c (cS (.int i))) :=
  pe_imp (pe_glob (v := .int i) hg hm ⟨t, rfl⟩ hd) fun _ _ _ h => t_c (fun _ => .int i) h
theorem d_gs {x : Str} {i : Str} {t : Tok} (hm : X.mg x = some (.str i t)) (hg : Gl X x := by rfl) (hd : (x == ("__debug__" : Str)) = false := by decide) : PE X (.Name x pos) (qP X.K c (cS (.str i))) :=
  pe_imp (pe_glob (v := .str i) hg hm ⟨t, rfl⟩ hd) fun _ _ _ h => t_c (fun _ => .str i) h
/-! ### operators whose answer is a number, a text, a truth -/
def op2 (g : PyData → PyData → R PyData) (fa fb : ES) : ES := fun ds => fa ds >>= fun x => fb ds >>= fun y => g x y
def op1 (g : PyData → R PyData) (fa : ES) : ES := fun ds => fa ds >>= g
/-- r answers as g does -/
def OpD (K : PySem.W.Frag) (r : R2) (g : PyData → PyData → R PyData) : Prop :=
  ∀ x y d e H, Dq K H x d → Dq K H y e → (∃ z v, g d e = .ok z ∧ (∀ F, Dq K F v z) ∧ ∀ Q : VK, Q v H → r x y H Q) ∨ g d e = .bad
theorem t_op2 {K : PySem.W.Frag} {r : R2} {g : PyData → PyData → R PyData} (hr : OpD K r g) {σ : L2.St} {H : Hp} {Q : VK} (h : qP K c (op2 g fa fb) σ H Q) : tOp r (qT K c fa) (qT K c fb) σ H Q := by
  obtain ⟨ds, F, s, w⟩ := h
  refine ⟨ds, F, s, ?_⟩
  unfold op2 at w
  cases ha : fa ds with
  | bad => rw [ha] at w; exact w
  | err x => rw [ha] at w; exact w
  | ok d =>
    rw [ha] at w
    intro v F1 H1 g1 q1
    refine ⟨ds, F1, s.grow g1, ?_⟩
    rw [R.ok_bind] at w
    cases hb : fb ds with
    | bad => rw [hb] at w; exact w
    | err x => rw [hb] at w; exact w
    | ok d2 =>
      rw [hb] at w
      intro v2 F2 H2 g2 q2
      rw [R.ok_bind] at w
      rcases hr v v2 d d2 H2 (q1.mono g2.hh) q2 with ⟨z, u, e1, s1, k⟩ | e1
      · rw [e1] at w
        exact k _ (w u F2 H2 (g1.trans g2) (s1 F2))
      · rw [e1] at w
        exact w.elim
theorem d_op {op : Operator} {r : R2} {g : PyData → PyData → R PyData} (ho : OpR X (binaryOp op) r) (hr : OpD X.K r g) (ha : PE X a (qT X.K c fa)) (hb : PE X b (qT X.K c fb)) : PE X (.BinOp a op b pos) (qP X.K c (op2 g fa fb)) :=
  pe_imp (pe_op ho ha hb) fun _ _ _ h => t_op2 hr h
theorem d_cmp {op : CmpOp} {r : R2} {g : PyData → PyData → R PyData} (ho : OpR X (compareOp op) r) (hr : OpD X.K r g) (ha : PE X a (qT X.K c fa)) (hb : PE X b (qT X.K c fb)) (hm : behindInMarks op b = false := by first | exact nomark _ | rfl) : PE X (.Compare a [op] [b] pos) (qP X.K c (op2 g fa fb)) :=
  pe_imp (pe_cmpR ho ha hb hm) fun _ _ _ h => t_op2 hr h
/-- a value that is a truth, as a test -/
def bO (d : PyData) : R Bool := match d with
  | .bool b => .ok b
  | _ => .bad
def bS (f : ES) : DS → R Bool := fun ds => f ds >>= bO
theorem t_bS {K : PySem.W.Frag} {σ : L2.St} {H : Hp} {Q : Bool → Hp → Prop} (h : qB K c (bS f) σ H Q) : qT K c f σ H (fun x H1 => ∃ k, x = .bl k ∧ Q k H1) := by
  obtain ⟨ds, F, s, w⟩ := h
  refine ⟨ds, F, s, ?_⟩
  unfold bS at w
  cases hf : f ds with
  | bad => rw [hf] at w; exact w
  | err x => rw [hf] at w; exact w
  | ok d =>
    rw [hf] at w
    intro v F1 H1 g1 q1
    cases d with
    | bool k =>
      cases q1
      exact ⟨k, rfl, w F1 H1 g1⟩
    | _ => exact w.elim
theorem d_cmpB {op : CmpOp} {r : R2} {g : PyData → PyData → R PyData} (ho : OpR X (compareOp op) r) (hr : OpD X.K r g) (ha : PE X a (qT X.K c fa)) (hb : PE X b (qT X.K c fb)) (hm : behindInMarks op b = false := by first | exact nomark _ | rfl) : PT X (.Compare a [op] [b] pos) (qB X.K c (bS (op2 g fa fb))) := by
  refine pt_imp (pt_cmpR ho ha hb hm) fun σ H Q h => ?_
  obtain ⟨ds, F, s, w⟩ := t_bS h
  refine t_op2 hr ⟨ds, F, s, ?_⟩
  cases hf : op2 g fa fb ds with
  | bad => rw [hf] at w; exact w
  | err x => rw [hf] at w; exact w
  | ok d =>
    rw [hf] at w
    exact fun v F1 H1 g1 q1 => w v F1 H1 g1 (q1.mono g1.fh)
theorem d_valB (h : PE X e (qT X.K c f)) (he : ∀ whole, isTrue e X.env whole = (do let v ← whole; standAt e.pos; holding [v] (truthy v)) := by intro _; rfl) : PT X e (qB X.K c (bS f)) :=
  pt_imp (pt_val h he) fun σ H Q q => t_bS q
/-! ### ints -/
def gI (p : Int → Int → R PyData) : PyData → PyData → R PyData
  | .int i, .int j => p i j
  | _, _ => .bad
theorem od_I0 {K : PySem.W.Frag} {g : Int → Int → V} {g' : Int → Int → PyData} (hg : ∀ i j F, Dq K F (g i j) (g' i j)) : OpD K (rI0 g) (gI fun i j => .ok (g' i j)) := fun x y d e H h1 h2 => by
  cases h1 with
  | int i =>
    cases h2 with
    | int j => exact .inl ⟨_, _, rfl, hg i j, fun Q q => ⟨i, j, rfl, rfl, q⟩⟩
    | _ => exact .inr rfl
  | _ => exact .inr rfl
theorem od_I {K : PySem.W.Frag} {C : Int → Int → Prop} {g : Int → Int → V} {g' : Int → Int → PyData} {ch : Int → Int → Bool} (hc : ∀ i j, ch i j = true → C i j) (hg : ∀ i j F, Dq K F (g i j) (g' i j)) :
    OpD K (rI C g) (gI fun i j => if ch i j = true then .ok (g' i j) else .bad) := fun x y d e H h1 h2 => by
  cases h1 with
  | int i =>
    cases h2 with
    | int j =>
      by_cases hh : ch i j = true
      · exact .inl ⟨_, _, (show (if ch i j = true then _ else _) = _ from if_pos hh), hg i j, fun Q q => ⟨i, j, rfl, rfl, hc i j hh, q⟩⟩
      · exact .inr (show (if ch i j = true then _ else _) = _ from if_neg hh)
    | _ => exact .inr rfl
  | _ => exact .inr rfl
def addI := gI fun i j => .ok (.int (i + j))
def subI := gI fun i j => .ok (.int (i - j))
def in64 (i : Int) : Bool := decide (-(2 ^ 64) < i) && decide (i < 2 ^ 64)
def mulI := gI fun i j => if (in64 i || in64 j) = true then .ok (.int (i * j)) else .bad
def divW (_ j : Int) : Bool := decide (0 < j) && decide (j.natAbs.log2 < 9000)
def divI := gI fun i j => if divW i j = true then .ok (.int (i / j)) else .bad
def modI := gI fun i j => if decide (0 < j) = true then .ok (.int (i % j)) else .bad
def powW (i j : Int) : Bool := decide (0 ≤ j) && decide (j ≤ 1000000) && decide (i.natAbs < 2 ^ 64)
def powI := gI fun i j => if powW i j = true then .ok (.int (i ^ j.toNat)) else .bad
def ltI := gI fun i j => .ok (.bool (decide (i < j)))
def leI := gI fun i j => .ok (.bool (decide (i ≤ j)))
def gtI := gI fun i j => .ok (.bool (decide (j < i)))
def geI := gI fun i j => .ok (.bool (decide (j ≤ i)))
theorem d_add (ha : PE X a (qT X.K c fa)) (hb : PE X b (qT X.K c fb)) : PE X (.BinOp a .Add b pos) (qP X.K c (op2 addI fa fb)) := d_op op_add (od_I0 fun i j _ => .int _) ha hb
theorem d_sub (ha : PE X a (qT X.K c fa)) (hb : PE X b (qT X.K c fb)) : PE X (.BinOp a .Sub b pos) (qP X.K c (op2 subI fa fb)) := d_op op_sub (od_I0 fun i j _ => .int _) ha hb
theorem d_mul (ha : PE X a (qT X.K c fa)) (hb : PE X b (qT X.K c fb)) : PE X (.BinOp a .Mult b pos) (qP X.K c (op2 mulI fa fb)) :=
  d_op op_mul (od_I (ch := fun i j => in64 i || in64 j) (fun i j h => by
    simp only [in64, Bool.or_eq_true, Bool.and_eq_true, decide_eq_true_eq] at h
    exact h) fun i j _ => .int _) ha hb
theorem d_div (ha : PE X a (qT X.K c fa)) (hb : PE X b (qT X.K c fb)) : PE X (.BinOp a .FloorDiv b pos) (qP X.K c (op2 divI fa fb)) :=
  d_op op_fdivW (od_I (ch := divW) (fun i j h => by
    simp only [divW, Bool.and_eq_true, decide_eq_true_eq] at h
    exact h) fun i j _ => .int _) ha hb
theorem d_mod (ha : PE X a (qT X.K c fa)) (hb : PE X b (qT X.K c fb)) : PE X (.BinOp a .Mod b pos) (qP X.K c (op2 modI fa fb)) :=
  d_op op_mod (od_I (ch := fun _ j => decide (0 < j)) (fun i j h => of_decide_eq_true h) fun i j _ => .int _) ha hb
theorem d_pow (ha : PE X a (qT X.K c fa)) (hb : PE X b (qT X.K c fb)) : PE X (.BinOp a .Pow b pos) (qP X.K c (op2 powI fa fb)) :=
  d_op op_pow (od_I (ch := powW) (fun i j h => by
    simp only [powW, Bool.and_eq_true, decide_eq_true_eq] at h
    exact ⟨h.1.1, h.1.2, h.2⟩) fun i j _ => .int _) ha hb
theorem od_lt {K : PySem.W.Frag} : OpD K (rI0 fun i j => .bl (decide (i < j))) ltI := od_I0 fun i j _ => .bl _
theorem od_le {K : PySem.W.Frag} : OpD K (rI0 fun i j => .bl (decide (i ≤ j))) leI := od_I0 fun i j _ => .bl _
theorem od_gt {K : PySem.W.Frag} : OpD K (rI0 fun i j => .bl (decide (j < i))) gtI := od_I0 fun i j _ => .bl _
theorem od_ge {K : PySem.W.Frag} : OpD K (rI0 fun i j => .bl (decide (j ≤ i))) geI := od_I0 fun i j _ => .bl _
end
end Cb
namespace Cb
open PySem PySem.Spec PyProof.Rows L2
section
variable {X : Cx} {e a b cc : Expr} {c : Bk} {f fa fb fc : ES} {pos : Pos}
/-! ### a chain of two comparisons of ints -/
def chI (g g' : PyData → PyData → R PyData) (fa fb fc : ES) : ES := fun ds => fa ds >>= fun x => fb ds >>= fun y => g x y >>= fun z => match z with
  | .bool true => fc ds >>= fun w => g' y w
  | .bool false => .ok (.bool false)
  | _ => .bad
theorem t_ch {K : PySem.W.Frag} {r r' : R2} {g g' : PyData → PyData → R PyData} (hr : OpD K r g) (hr' : OpD K r' g') {σ : L2.St} {H : Hp} {Q : VK} (h : qP K c (chI g g' fa fb fc) σ H Q) : tChain r r' (qT K c fa) (qT K c fb) (qT K c fc) σ H Q := by
  obtain ⟨ds, F, s, w⟩ := h
  refine ⟨ds, F, s, ?_⟩
  unfold chI at w
  cases ha : fa ds with
  | bad => rw [ha] at w; exact w
  | err x => rw [ha] at w; exact w
  | ok d =>
    rw [ha] at w
    intro v F1 H1 g1 q1
    refine ⟨ds, F1, s.grow g1, ?_⟩
    rw [R.ok_bind] at w
    cases hb : fb ds with
    | bad => rw [hb] at w; exact w
    | err x => rw [hb] at w; exact w
    | ok d2 =>
      rw [hb] at w
      intro v2 F2 H2 g2 q2
      rw [R.ok_bind] at w
      rcases hr v v2 d d2 H2 (q1.mono g2.hh) q2 with ⟨z, u, e1, s1, k⟩ | e1
      · rw [e1, R.ok_bind] at w
        cases z with
        | bool bb =>
          have eu : u = .bl bb := by
            have := s1 (fun _ => none)
            cases this
            rfl
          subst eu
          refine k _ ⟨bb, rfl, ?_⟩
          cases bb with
          | false =>
            rw [if_neg Bool.false_ne_true]
            exact w (.bl false) F2 H2 (g1.trans g2) (.bl false)
          | true =>
            rw [if_pos rfl]
            refine ⟨ds, F2, (s.grow g1).grow g2, ?_⟩
            cases hc : fc ds with
            | bad => simp only [hc, R.bad_bind] at w; exact w
            | err x => simp only [hc, R.err_bind] at w; exact w
            | ok d3 =>
              simp only [hc, R.ok_bind] at w
              intro v3 F3 H3 g3 q3
              rcases hr' v2 v3 d2 d3 H3 (q2.mono g3.hh) q3 with ⟨z, u, e1, s1, k⟩ | e1
              · rw [e1] at w
                exact k _ (w u F3 H3 ((g1.trans g2).trans g3) (s1 F3))
              · rw [e1] at w
                exact w.elim
        | _ => exact w.elim
      · rw [e1] at w
        exact w.elim
theorem d_ch {op op' : CmpOp} {r r' : R2} {g g' : PyData → PyData → R PyData} (ho : OpR X (compareOp op) r) (hr : OpD X.K r g) (ho' : OpR X (compareOp op') r') (hr' : OpD X.K r' g') (ha : PE X a (qT X.K c fa)) (hb : PE X b (qT X.K c fb)) (hc : PE X cc (qT X.K c fc))
    (hm : lastMarks [op, op'] [b, cc] = false := by with_unfolding_all rfl) : PE X (.Compare a [op, op'] [b, cc] pos) (qP X.K c (chI g g' fa fb fc)) :=
  pe_imp (pe_chain ho ho' ha hb hc hm) fun _ _ _ h => t_ch hr hr' h
theorem t_bP {K : PySem.W.Frag} {t : TE} (ht : ∀ σ H Q, qP K c f σ H Q → t σ H Q) {σ : L2.St} {H : Hp} {Q : Bool → Hp → Prop} (h : qB K c (bS f) σ H Q) : tTest t σ H Q := by
  obtain ⟨ds, F, s, w⟩ := t_bS h
  refine ht _ _ _ ⟨ds, F, s, ?_⟩
  cases hf : f ds with
  | bad => rw [hf] at w; exact w
  | err x => rw [hf] at w; exact w
  | ok d =>
    rw [hf] at w
    exact fun v F1 H1 g1 q1 => w v F1 H1 g1 (q1.mono g1.fh)
theorem d_chB {op op' : CmpOp} {r r' : R2} {g g' : PyData → PyData → R PyData} (ho : OpR X (compareOp op) r) (hr : OpD X.K r g) (ho' : OpR X (compareOp op') r') (hr' : OpD X.K r' g') (ha : PE X a (qT X.K c fa)) (hb : PE X b (qT X.K c fb)) (hc : PE X cc (qT X.K c fc))
    (hm : lastMarks [op, op'] [b, cc] = false := by with_unfolding_all rfl) : PT X (.Compare a [op, op'] [b, cc] pos) (qB X.K c (bS (chI g g' fa fb fc))) :=
  pt_imp (pt_chain ho ho' ha hb hc hm) fun _ _ _ h => t_bP (fun _ _ _ q => t_ch hr hr' q) h
/-! ### and, or, not -/
def andB (f g : DS → R Bool) : DS → R Bool := fun ds => f ds >>= fun x => if x = true then g ds else .ok false
def orB (f g : DS → R Bool) : DS → R Bool := fun ds => f ds >>= fun x => if x = true then .ok true else g ds
def notB (f : DS → R Bool) : DS → R Bool := fun ds => f ds >>= fun x => .ok (!x)
theorem t_andB {K : PySem.W.Frag} {f g : DS → R Bool} {σ : L2.St} {H : Hp} {Q : Bool → Hp → Prop} (h : qB K c (andB f g) σ H Q) : tAnd (qB K c f) (qB K c g) σ H Q := by
  obtain ⟨ds, F, s, w⟩ := h
  refine ⟨ds, F, s, ?_⟩
  unfold andB at w
  cases hf : f ds with
  | bad => rw [hf] at w; exact w
  | err x => rw [hf] at w; exact w
  | ok x =>
    rw [hf, R.ok_bind] at w
    intro F1 H1 g1
    cases x with
    | true =>
      rw [if_pos rfl] at w
      rw [if_pos rfl]
      refine ⟨ds, F1, s.grow g1, ?_⟩
      cases hg : g ds with
      | bad => rw [hg] at w; exact w
      | err x => rw [hg] at w; exact w
      | ok y => rw [hg] at w; exact fun F2 H2 g2 => w F2 H2 (g1.trans g2)
    | false =>
      rw [if_neg Bool.false_ne_true] at w
      rw [if_neg Bool.false_ne_true]
      exact w F1 H1 g1
theorem t_orB {K : PySem.W.Frag} {f g : DS → R Bool} {σ : L2.St} {H : Hp} {Q : Bool → Hp → Prop} (h : qB K c (orB f g) σ H Q) : tOr (qB K c f) (qB K c g) σ H Q := by
  obtain ⟨ds, F, s, w⟩ := h
  refine ⟨ds, F, s, ?_⟩
  unfold orB at w
  cases hf : f ds with
  | bad => rw [hf] at w; exact w
  | err x => rw [hf] at w; exact w
  | ok x =>
    rw [hf, R.ok_bind] at w
    intro F1 H1 g1
    cases x with
    | false =>
      rw [if_neg Bool.false_ne_true] at w
      rw [if_neg Bool.false_ne_true]
      refine ⟨ds, F1, s.grow g1, ?_⟩
      cases hg : g ds with
      | bad => rw [hg] at w; exact w
      | err x => rw [hg] at w; exact w
      | ok y => rw [hg] at w; exact fun F2 H2 g2 => w F2 H2 (g1.trans g2)
    | true =>
      rw [if_pos rfl] at w
      rw [if_pos rfl]
      exact w F1 H1 g1
theorem t_notB {K : PySem.W.Frag} {f : DS → R Bool} {σ : L2.St} {H : Hp} {Q : Bool → Hp → Prop} (h : qB K c (notB f) σ H Q) : tNot (qB K c f) σ H Q := by
  obtain ⟨ds, F, s, w⟩ := h
  refine ⟨ds, F, s, ?_⟩
  unfold notB at w
  cases hf : f ds with
  | bad => rw [hf] at w; exact w
  | err x => rw [hf] at w; exact w
  | ok x =>
    rw [hf, R.ok_bind] at w
    exact fun F1 H1 g1 => w F1 H1 g1
variable {rest : List Expr} {ft ft' : DS → R Bool}
theorem d_and1 (ha : PT X a (qB X.K c ft)) : PW X (.BoolOp .And [a] pos) (qB X.K c ft) := pw_and1 ha
theorem d_or1 (ha : PT X a (qB X.K c ft)) : PW X (.BoolOp .Or [a] pos) (qB X.K c ft) := pw_or1 ha
theorem d_and (ha : PT X a (qB X.K c ft)) (hb : PW X (.BoolOp .And (b :: rest) pos) (qB X.K c ft')) : PW X (.BoolOp .And (a :: b :: rest) pos) (qB X.K c (andB ft ft')) := pw_imp (pw_and ha hb) fun _ _ _ h => t_andB h
theorem d_or (ha : PT X a (qB X.K c ft)) (hb : PW X (.BoolOp .Or (b :: rest) pos) (qB X.K c ft')) : PW X (.BoolOp .Or (a :: b :: rest) pos) (qB X.K c (orB ft ft')) := pw_imp (pw_or ha hb) fun _ _ _ h => t_orB h
theorem d_not (ha : PT X a (qB X.K c ft)) : PT X (.UnaryOp .Not a pos) (qB X.K c (notB ft)) := pt_imp (pt_not ha) fun _ _ _ h => t_notB h
/-- as values, of truths -/
def vB (f : DS → R Bool) : ES := fun ds => f ds >>= fun x => .ok (.bool x)
def andV (f g : ES) : ES := fun ds => f ds >>= fun x => match x with
  | .bool true => g ds
  | .bool false => .ok (.bool false)
  | _ => .bad
def orV (f g : ES) : ES := fun ds => f ds >>= fun x => match x with
  | .bool true => .ok (.bool true)
  | .bool false => g ds
  | _ => .bad
def notV (f : ES) : ES := fun ds => f ds >>= fun x => match x with
  | .bool y => .ok (.bool (!y))
  | _ => .bad
theorem wP_grow {K : PySem.W.Frag} {F H F1 H1 : Hp} {Q : VK} {r : R PyData} (g : Grow F H F1 H1) (w : wP K c F H Q r) : wP K c F1 H1 Q r := by
  cases r with
  | bad => exact w
  | err x => exact w
  | ok d => exact fun v F2 H2 g2 q => w v F2 H2 (g.trans g2) q
theorem wT_grow {K : PySem.W.Frag} {F H F1 H1 : Hp} {Q : VK} {r : R PyData} (g : Grow F H F1 H1) (w : wT K c F H Q r) : wT K c F1 H1 Q r := by
  cases r with
  | bad => exact w
  | err x => exact w
  | ok d => exact fun v F2 H2 g2 q => w v F2 H2 (g.trans g2) q
theorem wB_grow {F H F1 H1 : Hp} {Q : Bool → Hp → Prop} {r : R Bool} (g : Grow F H F1 H1) (w : wB c F H Q r) : wB c F1 H1 Q r := by
  cases r with
  | bad => exact w
  | err x => exact w
  | ok d => exact fun F2 H2 g2 => w F2 H2 (g.trans g2)
/-- a step: the first part's answer, then the rest -/
theorem wT_bind {K : PySem.W.Frag} {F H : Hp} {Q Q' : VK} {r : R PyData} {k : PyData → R PyData} (w : wP K c F H Q (r >>= k)) (h : ∀ d v F1 H1, Grow F H F1 H1 → Dq K H1 v d → wP K c F1 H1 Q (k d) → Q' v H1) : wT K c F H Q' r := by
  cases r with
  | bad => exact w
  | err x => exact w
  | ok d => exact fun v F1 H1 g1 q1 => h d v F1 H1 g1 q1 (wP_grow g1 w)
theorem wP_bind {K : PySem.W.Frag} {F H : Hp} {Q Q' : VK} {r : R PyData} {k : PyData → R PyData} (w : wP K c F H Q (r >>= k)) (h : ∀ d v F1 H1, Grow F H F1 H1 → Dq K F1 v d → wP K c F1 H1 Q (k d) → Q' v H1) : wP K c F H Q' r := by
  cases r with
  | bad => exact w
  | err x => exact w
  | ok d => exact fun v F1 H1 g1 q1 => h d v F1 H1 g1 q1 (wP_grow g1 w)
theorem wB_bind {K : PySem.W.Frag} {F H : Hp} {Q : VK} {Q' : Bool → Hp → Prop} {r : R Bool} {k : Bool → R PyData} (w : wP K c F H Q (r >>= k)) (h : ∀ d F1 H1, Grow F H F1 H1 → wP K c F1 H1 Q (k d) → Q' d H1) : wB c F H Q' r := by
  cases r with
  | bad => exact w
  | err x => exact w
  | ok d => exact fun F1 H1 g1 => h d F1 H1 g1 (wP_grow g1 w)
theorem wB_bindT {K : PySem.W.Frag} {F H : Hp} {Q : VK} {Q' : Bool → Hp → Prop} {r : R Bool} {k : Bool → R PyData} (w : wT K c F H Q (r >>= k)) (h : ∀ d F1 H1, Grow F H F1 H1 → wT K c F1 H1 Q (k d) → Q' d H1) : wB c F H Q' r := by
  cases r with
  | bad => exact w
  | err x => exact w
  | ok d => exact fun F1 H1 g1 => h d F1 H1 g1 (wT_grow g1 w)
theorem d_andV1 {op : BoolOp} (ha : PE X a (qP X.K c f)) : PE X (.BoolOp op [a] pos) (qP X.K c f) := pe_one ha
theorem d_andV (ha : PE X a (qT X.K c fa)) (hb : PE X (.BoolOp .And (b :: rest) pos) (qP X.K c fb)) : PE X (.BoolOp .And (a :: b :: rest) pos) (qP X.K c (andV fa fb)) := by
  refine pe_imp (pe_and ha hb) fun σ H Q h => ?_
  obtain ⟨ds, F, s, w⟩ := h
  refine ⟨ds, F, s, wT_bind w fun d v F1 H1 g1 q1 w1 => ?_⟩
  cases d with
  | bool x =>
    cases q1
    refine ⟨x, rfl, ?_⟩
    cases x with
    | true =>
      rw [if_pos rfl]
      exact ⟨ds, F1, s.grow g1, w1⟩
    | false =>
      rw [if_neg Bool.false_ne_true]
      exact w1 _ F1 H1 (.refl g1.fh) (.bl false)
  | _ => exact w1.elim
theorem d_orV (ha : PE X a (qT X.K c fa)) (hb : PE X (.BoolOp .Or (b :: rest) pos) (qP X.K c fb)) : PE X (.BoolOp .Or (a :: b :: rest) pos) (qP X.K c (orV fa fb)) := by
  refine pe_imp (pe_or ha hb) fun σ H Q h => ?_
  obtain ⟨ds, F, s, w⟩ := h
  refine ⟨ds, F, s, wT_bind w fun d v F1 H1 g1 q1 w1 => ?_⟩
  cases d with
  | bool x =>
    cases q1
    refine ⟨x, rfl, ?_⟩
    cases x with
    | false =>
      rw [if_neg Bool.false_ne_true]
      exact ⟨ds, F1, s.grow g1, w1⟩
    | true =>
      rw [if_pos rfl]
      exact w1 _ F1 H1 (.refl g1.fh) (.bl true)
  | _ => exact w1.elim
theorem d_notV (ha : PE X a (qT X.K c fa)) : PE X (.UnaryOp .Not a pos) (qP X.K c (notV fa)) := by
  refine pe_imp (pe_not ha) fun σ H Q h => ?_
  obtain ⟨ds, F, s, w⟩ := h
  refine ⟨ds, F, s, wT_bind w fun d v F1 H1 g1 q1 w1 => ?_⟩
  cases d with
  | bool x =>
    cases q1
    exact ⟨x, rfl, w1 _ F1 H1 (.refl g1.fh) (.bl _)⟩
  | _ => exact w1.elim
/-! ### a if t else b -/
def ifE (ft : DS → R Bool) (fa fb : ES) : ES := fun ds => ft ds >>= fun x => if x = true then fa ds else fb ds
theorem d_ifE (hc : PT X cc (qB X.K c ft)) (ha : PE X a (qP X.K c fa)) (hb : PE X b (qP X.K c fb)) : PE X (.IfExp cc a b pos) (qP X.K c (ifE ft fa fb)) := by
  refine pe_imp (pe_ifExp hc ha hb) fun σ H Q h => ?_
  obtain ⟨ds, F, s, w⟩ := h
  refine ⟨ds, F, s, wB_bind w fun d F1 H1 g1 w1 => ?_⟩
  cases d with
  | true =>
    rw [if_pos rfl] at w1 ⊢
    exact ⟨ds, F1, s.grow g1, w1⟩
  | false =>
    rw [if_neg Bool.false_ne_true] at w1 ⊢
    exact ⟨ds, F1, s.grow g1, w1⟩
/-! ### ==, !=, is None, is True -/
mutual
theorem dp_of {K : PySem.W.Frag} {H : Hp} : ∀ {v : V} {d : PyData}, Dq K H v d → d.canLay0 = true → Dp K H v d
  | _, _, .non, _ => .non
  | _, _, .bl b, _ => .bl b
  | _, _, .int i, _ => .int i
  | _, _, .str x, _ => .str x
  | _, _, .lst h a, z => .lst h (dpAll_of a (by simpa [PyData.canLay0] using z))
  | _, _, .tup h a, z => .tup h (dpAll_of a (by simpa [PyData.canLay0] using z))
  | _, _, .dct h a, z => by simp [PyData.canLay0] at z
theorem dpAll_of {K : PySem.W.Frag} {H : Hp} : ∀ {vs : List V} {ds : List PyData}, DqAll K H vs ds → PyData.canLayAll0 ds = true → DpAll K H vs ds
  | _, _, .nil, _ => .nil
  | _, d :: ds, .cons h t, z => by
    have z' : d.canLay0 = true ∧ PyData.canLayAll0 ds = true := by simpa [PyData.canLayAll0] using z
    exact .cons (dp_of h z'.1) (dpAll_of t z'.2)
end
def eqD (d e : PyData) : R PyData := if (SeqAt.shaped d && SeqAt.shaped e) = true then .ok (.bool (PyData.eqv d e)) else .bad
def neD (d e : PyData) : R PyData := if (SeqAt.shaped d && SeqAt.shaped e) = true then .ok (.bool (!PyData.eqv d e)) else .bad
theorem od_eq {K : PySem.W.Frag} : OpD K (rEqD K) eqD := fun x y d e H h1 h2 => by
  unfold eqD
  by_cases hs : (SeqAt.shaped d && SeqAt.shaped e) = true
  · rw [if_pos hs]
    obtain ⟨s1, s2⟩ := Bool.and_eq_true_iff.mp hs
    exact .inl ⟨_, _, rfl, fun _ => .bl _, fun Q q => ⟨d, e, dp_of h1 (SeqAt.canLay_of_shaped s1), dp_of h2 (SeqAt.canLay_of_shaped s2), s1, s2, q⟩⟩
  · rw [if_neg hs]
    exact .inr rfl
theorem od_ne {K : PySem.W.Frag} : OpD K (rNeD K) neD := fun x y d e H h1 h2 => by
  unfold neD
  by_cases hs : (SeqAt.shaped d && SeqAt.shaped e) = true
  · rw [if_pos hs]
    obtain ⟨s1, s2⟩ := Bool.and_eq_true_iff.mp hs
    exact .inl ⟨_, _, rfl, fun _ => .bl _, fun Q q => ⟨d, e, dp_of h1 (SeqAt.canLay_of_shaped s1), dp_of h2 (SeqAt.canLay_of_shaped s2), s1, s2, q⟩⟩
  · rw [if_neg hs]
    exact .inr rfl
/-! ### isinstance -/
def tyN : PyData → String
  | .none => "NoneType"
  | .bool _ => "bool"
  | .int _ => "int"
  | .str _ => "str"
  | .list _ => "list"
  | .tuple _ => "tuple"
  | .dict _ => "dict"
theorem tyX_of {K : PySem.W.Frag} {H : Hp} {v : V} {d : PyData} (h : Dq K H v d) : TyX K H v (.type (tyN d)) := by
  cases h with
  | non => exact .base .non
  | bl b => exact .base (.bl b)
  | int i => exact .base (.int i)
  | str x => exact .base (.str x)
  | lst hs _ =>
    rcases hs with (h | ⟨o, h⟩) | ⟨o, its, n, h1, h2, _⟩
    · exact .base (.lst h)
    · exact .base (.frz h)
    · exact .kList h1 h2
  | tup hs _ =>
    rcases hs with (h | ⟨o, h⟩) | ⟨o, its, n, h1, h2, _⟩
    · exact .base (.tup h)
    · exact .fTuple h
    · exact .kTuple h1 h2
  | dct h _ => exact .base (.dK h)
def isiD (T : String) (d : PyData) : R PyData := match kitB (tyN d) T with
  | some b => .ok (.bool b)
  | none => .bad
def isiS (T : String) (f : ES) : ES := fun ds => f ds >>= isiD T
theorem d_isi {x : Expr} {T : String} {n : Str} {p q : Pos} (hx : PE X x (qT X.K c f)) (hv : bootBuiltins n = some (.type T)) (hm : X.mg "isinstance" = none) (hmT : X.mg n = none) (hg : Gl X "isinstance" := by rfl) (hgT : Gl X n := by rfl)
    (hn : n ≠ "__name__" := by decide) (hd : (n == ("__debug__" : Str)) = false := by decide)
    (hs : starEach (x :: [.Name n q]) X.env = (false, eval x X.env) :: starEach [.Name n q] X.env := by rfl)
    (hs2 : starEach [.Name n q] X.env = (false, eval (.Name n q) X.env) :: starEach [] X.env := by rfl)
    (hpl : (backTo pos (starEach [.Name n q] X.env)).any (·.1) = false := by rfl) : PE X (.Call (.Name "isinstance" p) [x, .Name n q] [] pos) (qP X.K c (isiS T f)) := by
  refine pe_imp (pe_callB call_isi hg hm (by decide +kernel) (pa_cons hx (pa_cons (pe_bltn (v := .ty T) hgT hmT hv rfl hn hd) pa_nil hs2) hs) (by decide) (by decide) hs hpl) fun σ H Q h => ?_
  obtain ⟨ds, F, s, w⟩ := h
  refine ⟨ds, F, s, wT_bind w fun d v F1 H1 g1 q1 w1 => ?_⟩
  show rIsi X.K [v, .ty T] H1 Q
  unfold isiD at w1
  cases hk : kitB (tyN d) T with
  | none => rw [hk] at w1; exact w1.elim
  | some r =>
    rw [hk] at w1
    exact ⟨v, .ty T, _, _, r, rfl, .ty T, tyX_of q1, kit_ty hk, w1 _ F1 H1 (.refl g1.fh) (.bl r)⟩
end
end Cb
namespace Cb
open PySem PySem.Spec PyProof.Rows L2
/-! ### arguments: true is lent, false is given -/
def AOk (K : PySem.W.Frag) (F H : Hp) : List Bool → List V → List PyData → Prop
  | [], [], [] => True
  | true :: ms, v :: vs, d :: ds => Dq K H v d ∧ AOk K F H ms vs ds
  | false :: ms, v :: vs, d :: ds => Dq K F v d ∧ AOk K F H ms vs ds
  | _, _, _ => False
theorem AOk.mono {K : PySem.W.Frag} {F H F' H' : Hp} (f : Same F F') (h : Same H H') : ∀ {ms : List Bool} {vs : List V} {ds : List PyData}, AOk K F H ms vs ds → AOk K F' H' ms vs ds
  | [], [], [], _ => trivial
  | true :: _, _ :: _, _ :: _, ⟨a, b⟩ => ⟨a.mono h, AOk.mono f h b⟩
  | false :: _, _ :: _, _ :: _, ⟨a, b⟩ => ⟨a.mono f, AOk.mono f h b⟩
  | [], [], _ :: _, z => z.elim
  | [], _ :: _, _, z => z.elim
  | true :: _, [], _, z => z.elim
  | false :: _, [], _, z => z.elim
  | true :: _, _ :: _, [], z => z.elim
  | false :: _, _ :: _, [], z => z.elim
theorem AOk.all {K : PySem.W.Frag} {F H : Hp} : ∀ {ms : List Bool} {vs : List V} {ds : List PyData}, AOk K F H ms vs ds → ms.all (fun m => !m) = true → DqAll K F vs ds
  | [], [], [], _, _ => .nil
  | true :: _, _ :: _, _ :: _, _, z => by simp at z
  | false :: _, _ :: _, _ :: _, ⟨a, b⟩, z => .cons a (AOk.all b (by simpa using z))
  | [], [], _ :: _, z, _ => z.elim
  | [], _ :: _, _, z, _ => z.elim
  | true :: _, [], _, z, _ => z.elim
  | false :: _, [], _, z, _ => z.elim
  | true :: _, _ :: _, [], z, _ => z.elim
  | false :: _, _ :: _, [], z, _ => z.elim
theorem AOk.len {K : PySem.W.Frag} {F H : Hp} : ∀ {ms : List Bool} {vs : List V} {ds : List PyData}, AOk K F H ms vs ds → vs.length = ms.length ∧ ds.length = ms.length
  | [], [], [], _ => ⟨rfl, rfl⟩
  | true :: _, _ :: _, _ :: _, ⟨_, b⟩ => ⟨congrArg Nat.succ (AOk.len b).1, congrArg Nat.succ (AOk.len b).2⟩
  | false :: _, _ :: _, _ :: _, ⟨_, b⟩ => ⟨congrArg Nat.succ (AOk.len b).1, congrArg Nat.succ (AOk.len b).2⟩
  | [], [], _ :: _, z => z.elim
  | [], _ :: _, _, z => z.elim
  | true :: _, [], _, z => z.elim
  | false :: _, [], _, z => z.elim
  | true :: _, _ :: _, [], z => z.elim
  | false :: _, _ :: _, [], z => z.elim
def wA (K : PySem.W.Frag) (c : Bk) (ms : List Bool) (F H : Hp) (Q : List V → Hp → Prop) : R (List PyData) → Prop
  | .bad => False
  | .ok ds => ∀ vs F' H', Grow F H F' H' → AOk K F' H' ms vs ds → Q vs H'
  | .err x => wErr c x
def qA (K : PySem.W.Frag) (c : Bk) (ms : List Bool) (f : DS → R (List PyData)) : TA := fun σ H Q => ∃ ds F, Stt K c F H σ ds ∧ wA K c ms F H Q (f ds)
def nilA : DS → R (List PyData) := fun _ => .ok []
def consA (f : ES) (g : DS → R (List PyData)) : DS → R (List PyData) := fun ds => f ds >>= fun d => g ds >>= fun r => .ok (d :: r)
section
variable {X : Cx} {e a b cc : Expr} {c : Bk} {f fa fb fc : ES} {pos : Pos} {es : List Expr} {ms : List Bool} {fr : DS → R (List PyData)}
theorem d_a0 : PA X [] (qA X.K c [] nilA) := pa_imp pa_nil fun σ H Q ⟨ds, F, s, w⟩ => w [] F H (.refl s.fh) trivial
theorem d_aP (h : PE X e (qP X.K c f)) (hr : PA X es (qA X.K c ms fr)) (hs : starEach (e :: es) X.env = (false, eval e X.env) :: starEach es X.env := by rfl) : PA X (e :: es) (qA X.K c (false :: ms) (consA f fr)) := by
  refine pa_imp (pa_cons h hr hs) fun σ H Q hq => ?_
  obtain ⟨ds, F, s, w⟩ := hq
  refine ⟨ds, F, s, ?_⟩
  unfold consA at w
  cases hf : f ds with
  | bad => rw [hf] at w; exact w
  | err x => rw [hf] at w; exact w
  | ok d =>
    rw [hf, R.ok_bind] at w
    intro v F1 H1 g1 q1
    refine ⟨ds, F1, s.grow g1, ?_⟩
    cases hg : fr ds with
    | bad => rw [hg] at w; exact w
    | err x => rw [hg] at w; exact w
    | ok r =>
      rw [hg, R.ok_bind] at w
      intro vs F2 H2 g2 q2
      exact w (v :: vs) F2 H2 (g1.trans g2) ⟨q1.mono g2.ff, q2⟩
theorem d_aT (h : PE X e (qT X.K c f)) (hr : PA X es (qA X.K c ms fr)) (hs : starEach (e :: es) X.env = (false, eval e X.env) :: starEach es X.env := by rfl) : PA X (e :: es) (qA X.K c (true :: ms) (consA f fr)) := by
  refine pa_imp (pa_cons h hr hs) fun σ H Q hq => ?_
  obtain ⟨ds, F, s, w⟩ := hq
  refine ⟨ds, F, s, ?_⟩
  unfold consA at w
  cases hf : f ds with
  | bad => rw [hf] at w; exact w
  | err x => rw [hf] at w; exact w
  | ok d =>
    rw [hf, R.ok_bind] at w
    intro v F1 H1 g1 q1
    refine ⟨ds, F1, s.grow g1, ?_⟩
    cases hg : fr ds with
    | bad => rw [hg] at w; exact w
    | err x => rw [hg] at w; exact w
    | ok r =>
      rw [hg, R.ok_bind] at w
      intro vs F2 H2 g2 q2
      exact w (v :: vs) F2 H2 (g1.trans g2) ⟨q1.mono g2.hh, q2⟩
/-! ### displays -/
def big : Nat := 1000000
theorem big_le {n : Nat} (h : n ≤ big) : n ≤ sizeLine := Nat.le_trans h (by decide)
theorem big_lt {n : Nat} (h : n ≤ big) : n < sizeLine := Nat.lt_of_le_of_lt h (by decide)
def tupS (fr : DS → R (List PyData)) : ES := fun ds => fr ds >>= fun r => if r.length ≤ big then .ok (.tuple r) else .bad
def lstS (fr : DS → R (List PyData)) : ES := fun ds => fr ds >>= fun r => if r.length ≤ big then .ok (.list r) else .bad
theorem d_tup {x1} (h : PA X es (qA X.K c ms fr)) (hm : ms.all (fun m => !m) = true := by rfl) : PE X (.Tuple es x1 pos) (qP X.K c (tupS fr)) := by
  refine pe_imp (pe_tup h) fun σ H Q hq => ?_
  obtain ⟨ds, F, s, w⟩ := hq
  refine ⟨ds, F, s, ?_⟩
  unfold tupS at w
  cases hf : fr ds with
  | bad => rw [hf] at w; exact w
  | err x => rw [hf] at w; exact w
  | ok r =>
    rw [hf, R.ok_bind] at w
    intro vs F1 H1 g1 q1
    by_cases hb : r.length ≤ big
    · rw [if_pos hb] at w
      have hl := q1.len
      refine ⟨by rw [hl.1, ← hl.2]; exact big_le hb, fun p hp => ?_⟩
      exact w (.ref p) (upd F1 p (.tup vs)) (upd H1 p (.tup vs)) (g1.trans (.new g1.fh hp)) (.tup (.of upd_same) ((q1.all hm).mono (same_new (g1.fh.free hp))))
    · rw [if_neg hb] at w
      exact w.elim
theorem d_lst (h : PA X es (qA X.K c ms fr)) (hm : ms.all (fun m => !m) = true := by rfl) : PE X (.List es pos) (qN X.K c (lstS fr)) := by
  refine pe_imp (pe_lst h) fun σ H Q hq => ?_
  obtain ⟨ds, F, s, w⟩ := hq
  refine ⟨ds, F, s, ?_⟩
  unfold lstS at w
  cases hf : fr ds with
  | bad => rw [hf] at w; exact w
  | err x => rw [hf] at w; exact w
  | ok r =>
    rw [hf, R.ok_bind] at w
    intro vs F1 H1 g1 q1
    by_cases hb : r.length ≤ big
    · rw [if_pos hb] at w
      have hl := q1.len
      refine ⟨by rw [hl.1, ← hl.2]; exact big_le hb, fun p hp => ?_⟩
      exact w p F1 (upd H1 p (.lst vs)) (g1.trans (.own g1.fh hp)) (g1.hh.free hp) (g1.fh.free hp) ⟨vs, upd_same, q1.all hm⟩
    · rw [if_neg hb] at w
      exact w.elim
/-! ### built-ins of one argument whose answer is plain -/
/-- r answers as g does -/
def CaD (K : PySem.W.Frag) (r : List V → Hp → VK → Prop) (g : PyData → R PyData) : Prop :=
  ∀ x d H, Dq K H x d → (∃ z v, g d = .ok z ∧ (∀ F, Dq K F v z) ∧ ∀ Q : VK, Q v H → r [x] H Q) ∨ g d = .bad
theorem t_ca {K : PySem.W.Frag} {r : List V → Hp → VK → Prop} {g : PyData → R PyData} (hr : CaD K r g) {σ : L2.St} {H : Hp} {Q : VK} (h : qP K c (op1 g f) σ H Q) : tCB r (tCons (qT K c f) tNil) σ H Q := by
  obtain ⟨ds, F, s, w⟩ := h
  refine ⟨ds, F, s, wT_bind w fun d v F1 H1 g1 q1 w1 => ?_⟩
  show r [v] H1 Q
  rcases hr v d H1 q1 with ⟨z, u, e1, s1, k⟩ | e1
  · rw [e1] at w1
    exact k _ (w1 u F1 H1 (.refl g1.fh) (s1 F1))
  · rw [e1] at w1
    exact w1.elim
theorem d_ca {id : String} {x : Str} {p : Pos} {r : List V → Hp → VK → Prop} {g : PyData → R PyData} (hc : CallR X (.builtin id) r) (hr : CaD X.K r g) (ha : PE X a (qT X.K c f)) (hm : X.mg x = none) (hv : bootBuiltins x = some (.builtin id)) (hg : Gl X x := by rfl)
    (hn : x ≠ "__name__" := by decide) (hdb : (x == ("__debug__" : Str)) = false := by decide) (hs : starEach [a] X.env = (false, eval a X.env) :: starEach [] X.env := by rfl) (hpl : (backTo pos (starEach [] X.env)).any (·.1) = false := by rfl) :
    PE X (.Call (.Name x p) [a] [] pos) (qP X.K c (op1 g f)) := pe_imp (pe_callB hc hg hm hv (pa_cons ha pa_nil hs) hn hdb hs hpl) fun _ _ _ h => t_ca hr h
theorem d_caT {id : String} {x : Str} {p : Pos} {r : List V → Hp → VK → Prop} {g : PyData → R PyData} (hc : CallR X (.type id) r) (hr : CaD X.K r g) (ha : PE X a (qT X.K c f)) (hm : X.mg x = none) (hv : bootBuiltins x = some (.type id)) (hg : Gl X x := by rfl)
    (hn : x ≠ "__name__" := by decide) (hdb : (x == ("__debug__" : Str)) = false := by decide) (hs : starEach [a] X.env = (false, eval a X.env) :: starEach [] X.env := by rfl) (hpl : (backTo pos (starEach [] X.env)).any (·.1) = false := by rfl) :
    PE X (.Call (.Name x p) [a] [] pos) (qP X.K c (op1 g f)) := pe_imp (pe_callTy hc hg hm hv (pa_cons ha pa_nil hs) hn hdb hs hpl) fun _ _ _ h => t_ca hr h
/-! len -/
def lenD : PyData → R PyData
  | .list xs => .ok (.int xs.length)
  | .tuple xs => .ok (.int xs.length)
  | .str x => if x.length ≤ big then .ok (.int x.length) else .bad
  | .dict kvs => .ok (.int kvs.length)
  | _ => .bad
theorem DqKV.length {K : PySem.W.Frag} {H : Hp} : ∀ {vs : List (Key × V)} {ds : List (PyData × PyData)}, DqKV K H vs ds → vs.length = ds.length
  | _, _, .nil => rfl
  | _, _, .cons _ t => congrArg Nat.succ (DqKV.length t)
theorem cd_len {K : PySem.W.Frag} : CaD K (fun xs H Q => (∃ x n, xs = [x] ∧ LenV K x H n ∧ Q (.int n) H) ∨ ∃ a kvs, xs = [V.ref a] ∧ H a = some (.dK kvs) ∧ Q (.int kvs.length) H) lenD := fun x d H h => by
  cases h with
  | str y =>
    by_cases hb : y.length ≤ big
    · simp only [lenD, if_pos hb]
      exact .inl ⟨_, _, rfl, fun _ => .int _, fun Q q => .inl ⟨_, _, rfl, ⟨big_le hb, rfl⟩, q⟩⟩
    · simp only [lenD, if_neg hb]
      exact .inr trivial
  | lst hs ha => exact .inl ⟨_, _, rfl, fun _ => .int _, fun Q q => .inl ⟨_, _, rfl, .inl ⟨_, hs, rfl⟩, by rw [ha.length]; exact q⟩⟩
  | tup hs ha => exact .inl ⟨_, _, rfl, fun _ => .int _, fun Q q => .inl ⟨_, _, rfl, .inr ⟨_, hs, rfl⟩, by rw [ha.length]; exact q⟩⟩
  | dct hs ha => exact .inl ⟨_, _, rfl, fun _ => .int _, fun Q q => .inr ⟨_, _, rfl, hs, by rw [ha.length]; exact q⟩⟩
  | _ => exact .inr rfl
theorem d_len {p : Pos} (ha : PE X a (qT X.K c f)) (hm : X.mg "len" = none) (hg : Gl X "len" := by rfl) (hs : starEach [a] X.env = (false, eval a X.env) :: starEach [] X.env := by rfl) (hpl : (backTo pos (starEach [] X.env)).any (·.1) = false := by rfl) :
    PE X (.Call (.Name "len" p) [a] [] pos) (qP X.K c (op1 lenD f)) := d_ca (call_len.or call_lenD) cd_len ha hm PySem.boot_len hg (by decide) (by decide) hs hpl
/-! sum, all, any of a list -/
def intsO : List PyData → Option (List Int)
  | [] => some []
  | .int i :: r => (intsO r).map (i :: ·)
  | _ => none
def blsO : List PyData → Option (List Bool)
  | [] => some []
  | .bool i :: r => (blsO r).map (i :: ·)
  | _ => none
theorem ints_of {K : PySem.W.Frag} {H : Hp} : ∀ {vs : List V} {ds : List PyData} {ns : List Int}, DqAll K H vs ds → intsO ds = some ns → vs = ns.map V.int
  | _, _, _, .nil, e => by
    cases e
    rfl
  | _, .int i :: r, ns, .cons h t, e => by
    unfold intsO at e
    cases h
    obtain ⟨m, e1, e2⟩ := Option.map_eq_some_iff.mp e
    subst e2
    rw [ints_of t e1]
    rfl
  | _, .none :: _, _, .cons _ _, e => by simp [intsO] at e
  | _, .bool _ :: _, _, .cons _ _, e => by simp [intsO] at e
  | _, .str _ :: _, _, .cons _ _, e => by simp [intsO] at e
  | _, .list _ :: _, _, .cons _ _, e => by simp [intsO] at e
  | _, .tuple _ :: _, _, .cons _ _, e => by simp [intsO] at e
  | _, .dict _ :: _, _, .cons _ _, e => by simp [intsO] at e
theorem bls_of {K : PySem.W.Frag} {H : Hp} : ∀ {vs : List V} {ds : List PyData} {ns : List Bool}, DqAll K H vs ds → blsO ds = some ns → vs = ns.map V.bl
  | _, _, _, .nil, e => by
    cases e
    rfl
  | _, .bool i :: r, ns, .cons h t, e => by
    unfold blsO at e
    cases h
    obtain ⟨m, e1, e2⟩ := Option.map_eq_some_iff.mp e
    subst e2
    rw [bls_of t e1]
    rfl
  | _, .none :: _, _, .cons _ _, e => by simp [blsO] at e
  | _, .int _ :: _, _, .cons _ _, e => by simp [blsO] at e
  | _, .str _ :: _, _, .cons _ _, e => by simp [blsO] at e
  | _, .list _ :: _, _, .cons _ _, e => by simp [blsO] at e
  | _, .tuple _ :: _, _, .cons _ _, e => by simp [blsO] at e
  | _, .dict _ :: _, _, .cons _ _, e => by simp [blsO] at e
def sumD : PyData → R PyData
  | .list xs => match intsO xs with
    | some ns => .ok (.int ns.sum)
    | none => .bad
  | _ => .bad
def allD : PyData → R PyData
  | .list xs => match blsO xs with
    | some ns => .ok (.bool (ns.all id))
    | none => .bad
  | _ => .bad
def anyD : PyData → R PyData
  | .list xs => match blsO xs with
    | some ns => .ok (.bool (ns.any id))
    | none => .bad
  | _ => .bad
theorem cd_sum {K : PySem.W.Frag} : CaD K (rSum K) sumD := fun x d H h => by
  cases h with
  | @lst _ _ ds hs ha =>
    cases e : intsO ds with
    | none =>
      simp only [sumD, e]
      exact .inr trivial
    | some ns =>
      have e1 := ints_of ha e
      subst e1
      simp only [sumD, e]
      exact .inl ⟨_, _, rfl, fun _ => .int _, fun Q q => ⟨_, ns, rfl, hs, q⟩⟩
  | _ => exact .inr rfl
theorem cd_all {K : PySem.W.Frag} : CaD K (rAll K) allD := fun x d H h => by
  cases h with
  | @lst _ _ ds hs ha =>
    cases e : blsO ds with
    | none =>
      simp only [allD, e]
      exact .inr trivial
    | some ns =>
      have e1 := bls_of ha e
      subst e1
      simp only [allD, e]
      exact .inl ⟨_, _, rfl, fun _ => .bl _, fun Q q => ⟨_, ns, rfl, hs, q⟩⟩
  | _ => exact .inr rfl
theorem cd_any {K : PySem.W.Frag} : CaD K (rAny K) anyD := fun x d H h => by
  cases h with
  | @lst _ _ ds hs ha =>
    cases e : blsO ds with
    | none =>
      simp only [anyD, e]
      exact .inr trivial
    | some ns =>
      have e1 := bls_of ha e
      subst e1
      simp only [anyD, e]
      exact .inl ⟨_, _, rfl, fun _ => .bl _, fun Q q => ⟨_, ns, rfl, hs, q⟩⟩
  | _ => exact .inr rfl
theorem d_sum {p : Pos} (hc : X.calm = true) (ha : PE X a (qT X.K c f)) (hm : X.mg "sum" = none) (hg : Gl X "sum" := by rfl) (hs : starEach [a] X.env = (false, eval a X.env) :: starEach [] X.env := by rfl) (hpl : (backTo pos (starEach [] X.env)).any (·.1) = false := by rfl) :
    PE X (.Call (.Name "sum" p) [a] [] pos) (qP X.K c (op1 sumD f)) := d_ca (cr_sum hc) cd_sum ha hm (by decide +kernel) hg (by decide) (by decide) hs hpl
theorem d_all {p : Pos} (hc : X.calm = true) (ha : PE X a (qT X.K c f)) (hm : X.mg "all" = none) (hg : Gl X "all" := by rfl) (hs : starEach [a] X.env = (false, eval a X.env) :: starEach [] X.env := by rfl) (hpl : (backTo pos (starEach [] X.env)).any (·.1) = false := by rfl) :
    PE X (.Call (.Name "all" p) [a] [] pos) (qP X.K c (op1 allD f)) := d_ca (cr_all hc) cd_all ha hm (by decide +kernel) hg (by decide) (by decide) hs hpl
theorem d_any {p : Pos} (hc : X.calm = true) (ha : PE X a (qT X.K c f)) (hm : X.mg "any" = none) (hg : Gl X "any" := by rfl) (hs : starEach [a] X.env = (false, eval a X.env) :: starEach [] X.env := by rfl) (hpl : (backTo pos (starEach [] X.env)).any (·.1) = false := by rfl) :
    PE X (.Call (.Name "any" p) [a] [] pos) (qP X.K c (op1 anyD f)) := d_ca (cr_any hc) cd_any ha hm (by decide +kernel) hg (by decide) (by decide) hs hpl
/-! int(x) of an int -/
def intD : PyData → R PyData
  | .int i => .ok (.int i)
  | _ => .bad
theorem cd_int {K : PySem.W.Frag} : CaD K (fun xs H Q => (∃ i, xs = [.int i] ∧ Q (.int i) H) ∨ ∃ k, xs = [.bl k] ∧ Q (.int (if k then 1 else 0)) H) intD := fun x d H h => by
  cases h with
  | int i => exact .inl ⟨_, _, rfl, fun _ => .int _, fun Q q => .inl ⟨_, rfl, q⟩⟩
  | _ => exact .inr rfl
theorem d_intOf {p : Pos} (ha : PE X a (qT X.K c f)) (hm : X.mg "int" = none) (hg : Gl X "int" := by rfl) (hs : starEach [a] X.env = (false, eval a X.env) :: starEach [] X.env := by rfl) (hpl : (backTo pos (starEach [] X.env)).any (·.1) = false := by rfl) :
    PE X (.Call (.Name "int" p) [a] [] pos) (qP X.K c (op1 intD f)) := d_caT call_int1 cd_int ha hm (by decide +kernel) hg (by decide) (by decide) hs hpl
/-! min, max of two ints -/
def minI := gI fun i j => .ok (.int (if j < i then j else i))
def maxI := gI fun i j => .ok (.int (if j > i then j else i))
theorem t_ca2 {K : PySem.W.Frag} {r : List V → Hp → VK → Prop} {g : PyData → PyData → R PyData} (hr : OpD K (fun x y H Q => r [x, y] H Q) g) {σ : L2.St} {H : Hp} {Q : VK} (h : qP K c (op2 g fa fb) σ H Q) : tCB r (tCons (qT K c fa) (tCons (qT K c fb) tNil)) σ H Q := t_op2 hr h
theorem d_min2 {p : Pos} (hc : X.calm = true) (ha : PE X a (qT X.K c fa)) (hb : PE X b (qT X.K c fb)) (hm : X.mg "min" = none) (hg : Gl X "min" := by rfl) (hs : starEach [a, b] X.env = (false, eval a X.env) :: starEach [b] X.env := by rfl) (hs2 : starEach [b] X.env = (false, eval b X.env) :: starEach [] X.env := by rfl) (hpl : (backTo pos (starEach [b] X.env)).any (·.1) = false := by rfl) :
    PE X (.Call (.Name "min" p) [a, b] [] pos) (qP X.K c (op2 minI fa fb)) :=
  pe_imp (pe_callB (call_min2 hc) hg hm (by decide +kernel) (pa_cons ha (pa_cons hb pa_nil hs2) hs) (by decide) (by decide) hs hpl) fun _ _ _ h => t_ca2 (fun x y d e H h1 h2 => by
    cases h1 with
    | int i =>
      cases h2 with
      | int j => exact .inl ⟨_, _, rfl, fun _ => .int _, fun Q q => ⟨i, j, rfl, q⟩⟩
      | _ => exact .inr rfl
    | _ => exact .inr rfl) h
theorem d_max2 {p : Pos} (hc : X.calm = true) (ha : PE X a (qT X.K c fa)) (hb : PE X b (qT X.K c fb)) (hm : X.mg "max" = none) (hg : Gl X "max" := by rfl) (hs : starEach [a, b] X.env = (false, eval a X.env) :: starEach [b] X.env := by rfl) (hs2 : starEach [b] X.env = (false, eval b X.env) :: starEach [] X.env := by rfl) (hpl : (backTo pos (starEach [b] X.env)).any (·.1) = false := by rfl) :
    PE X (.Call (.Name "max" p) [a, b] [] pos) (qP X.K c (op2 maxI fa fb)) :=
  pe_imp (pe_callB (call_max2 hc) hg hm (by decide +kernel) (pa_cons ha (pa_cons hb pa_nil hs2) hs) (by decide) (by decide) hs hpl) fun _ _ _ h => t_ca2 (fun x y d e H h1 h2 => by
    cases h1 with
    | int i =>
      cases h2 with
      | int j => exact .inl ⟨_, _, rfl, fun _ => .int _, fun Q q => ⟨i, j, rfl, q⟩⟩
      | _ => exact .inr rfl
    | _ => exact .inr rfl) h
/-! ### subscripts of lists, tuples, texts -/
def atR {α : Type} (xs : List α) (i : Int) (k : α → PyData) : R PyData := match atI xs i with
  | some d => .ok (k d)
  | none => .bad
def ixD : PyData → PyData → R PyData
  | .list xs, .int i => atR xs i id
  | .tuple xs, .int i => atR xs i id
  | .str x, .int i => if x.length ≤ big then atR x.cps.toList i fun c => .str ⟨#[c]⟩ else .bad
  | _, _ => .bad
theorem DqAll.atI {K : PySem.W.Frag} {H : Hp} {vs : List V} {ds : List PyData} (h : DqAll K H vs ds) {i : Int} {d : PyData} (e : atI ds i = some d) : ∃ v, L2.atI vs i = some v ∧ Dq K H v d := by
  unfold L2.atI at e ⊢
  rw [h.length]
  cases q : ixN ds.length i with
  | none => rw [q] at e; cases e
  | some j =>
    rw [q] at e
    obtain ⟨v, h1, h2⟩ := h.get (show ds[j]? = some d from e)
    exact ⟨v, h1, h2⟩
/-- the answer's place: in F if the container's is -/
theorem ix_run {K : PySem.W.Frag} {F H : Hp} {x y : V} {d e z : PyData} (f : Same F H) (h1 : Dq K F x d) (h2 : Dq K H y e) (hz : ixD d e = .ok z) : ∃ v, Dq K F v z ∧ ∀ Q : VK, Q v H → rIx K x y H Q := by
  cases h2 with
  | int i =>
    cases h1 with
    | @lst _ _ ds hs ha =>
      unfold ixD atR at hz
      cases q : L2.atI ds i with
      | none => simp only [q] at hz; cases hz
      | some w =>
        simp only [q] at hz
        cases hz
        obtain ⟨v, e1, e2⟩ := ha.atI q
        exact ⟨v, e2, fun Q k => .inl ⟨_, _, i, v, rfl, rfl, f.seq hs, e1, k⟩⟩
    | @tup _ _ ds hs ha =>
      unfold ixD atR at hz
      cases q : L2.atI ds i with
      | none => simp only [q] at hz; cases hz
      | some w =>
        simp only [q] at hz
        cases hz
        obtain ⟨v, e1, e2⟩ := ha.atI q
        exact ⟨v, e2, fun Q k => .inr (.inl ⟨_, _, i, v, rfl, rfl, sqT_mono f hs, e1, k⟩)⟩
    | str t =>
      by_cases hb : t.length ≤ big
      · cases q : L2.atI t.cps.toList i with
        | none => simp only [ixD, atR, if_pos hb, q] at hz; cases hz
        | some w =>
          simp only [ixD, atR, if_pos hb, q] at hz
          cases hz
          exact ⟨_, .str _, fun Q k => .inr (.inr ⟨t, i, w, rfl, rfl, big_le hb, q, k⟩)⟩
      · simp only [ixD, if_neg hb] at hz
        cases hz
    | _ => cases hz
  | _ => cases d <;> cases hz
theorem ixD_noerr (d e : PyData) (x : Str) : ixD d e ≠ .err x := by
  intro h
  unfold ixD atR at h
  split at h
  · split at h <;> cases h
  · split at h <;> cases h
  · split at h
    · split at h <;> cases h
    · cases h
  · cases h
theorem d_ixP (ha : PE X a (qP X.K c fa)) (hb : PE X b (qT X.K c fb)) (hs : PlainIx b := by exact fun _ _ => rfl) : PE X (.Subscript a b pos) (qP X.K c (op2 ixD fa fb)) := by
  refine pe_imp (pe_ix ix_seq ha hb hs) fun σ H Q h => ?_
  obtain ⟨ds, F, s, w⟩ := h
  refine ⟨ds, F, s, wP_bind w fun d v F1 H1 g1 q1 w1 => ⟨ds, F1, s.grow g1, wT_bind w1 fun d2 v2 F2 H2 g2 q2 w2 => ?_⟩⟩
  cases hz : ixD d d2 with
  | bad => rw [hz] at w2; exact w2.elim
  | err x => exact absurd hz (ixD_noerr _ _ _)
  | ok z =>
    rw [hz] at w2
    obtain ⟨u, h1, h2⟩ := ix_run g2.fh (q1.mono g2.ff) q2 hz
    exact h2 _ (w2 u F2 H2 (.refl g2.fh) h1)
theorem wT_bindT {K : PySem.W.Frag} {F H : Hp} {Q Q' : VK} {r : R PyData} {k : PyData → R PyData} (w : wT K c F H Q (r >>= k)) (h : ∀ d v F1 H1, Grow F H F1 H1 → Dq K H1 v d → wT K c F1 H1 Q (k d) → Q' v H1) : wT K c F H Q' r := by
  cases r with
  | bad => exact w
  | err x => exact w
  | ok d => exact fun v F1 H1 g1 q1 => h d v F1 H1 g1 q1 (wT_grow g1 w)
theorem d_ixT (ha : PE X a (qT X.K c fa)) (hb : PE X b (qT X.K c fb)) (hs : PlainIx b := by exact fun _ _ => rfl) : PE X (.Subscript a b pos) (qT X.K c (op2 ixD fa fb)) := by
  refine pe_imp (pe_ix ix_seq ha hb hs) fun σ H Q h => ?_
  obtain ⟨ds, F, s, w⟩ := h
  refine ⟨ds, F, s, wT_bindT w fun d v F1 H1 g1 q1 w1 => ⟨ds, F1, s.grow g1, wT_bindT w1 fun d2 v2 F2 H2 g2 q2 w2 => ?_⟩⟩
  cases hz : ixD d d2 with
  | bad => rw [hz] at w2; exact w2.elim
  | err x => exact absurd hz (ixD_noerr _ _ _)
  | ok z =>
    rw [hz] at w2
    obtain ⟨u, h1, h2⟩ := ix_run (.refl H2) (q1.mono g2.hh) q2 hz
    exact h2 _ (w2 u F2 H2 (.refl g2.fh) h1)
/-- plain things last -/
def plainD : PyData → Bool
  | .none => true
  | .bool _ => true
  | .int _ => true
  | .str _ => true
  | _ => false
def plS (f : ES) : ES := fun ds => f ds >>= fun d => if plainD d = true then .ok d else .bad
theorem d_tp (h : PE X e (qT X.K c f)) : PE X e (qP X.K c (plS f)) := pe_imp h fun σ H Q ⟨ds, F, s, w⟩ => ⟨ds, F, s, wT_bind w fun d v F1 H1 g1 q1 w1 => by
  by_cases hp : plainD d = true
  · rw [if_pos hp] at w1
    refine w1 v F1 H1 (.refl g1.fh) ?_
    cases q1 with
    | non => exact .non
    | bl b => exact .bl b
    | int i => exact .int i
    | str x => exact .str x
    | _ => cases hp
  · rw [if_neg hp] at w1
    exact w1.elim⟩
end
end Cb
namespace Cb
open PySem PySem.Spec PyProof.Rows L2
/-! ### dicts with int and text keys -/
def keyOf : PyData → Option Key
  | .int i => some (.inl i)
  | .str x => some (.inr x)
  | _ => none
theorem keyOf_kD (k : Key) : keyOf (kD k) = some k := by cases k <;> rfl
abbrev KVs := List (PyData × PyData)
def dlook (kvs : KVs) (k : Key) : Option PyData := (kvs.find? fun kv => decide (keyOf kv.1 = some k)).map (·.2)
def dput (kvs : KVs) (k : Key) (d : PyData) : KVs :=
  if (kvs.any fun kv => decide (keyOf kv.1 = some k)) = true then kvs.map (fun kv => if keyOf kv.1 = some k then (kv.1, d) else kv) else kvs ++ [(kD k, d)]
theorem DqKV.look {K : PySem.W.Frag} {H : Hp} (k : Key) : ∀ {l : List (Key × V)} {kvs : KVs}, DqKV K H l kvs → (valV l k = none ∧ dlook kvs k = none) ∨ ∃ v d, valV l k = some v ∧ dlook kvs k = some d ∧ Dq K H v d
  | _, _, .nil => .inl ⟨rfl, rfl⟩
  | (k', v') :: l, (_, d') :: kvs, .cons h t => by
    by_cases e : k' = k
    · subst e
      exact .inr ⟨v', d', valV_pos rfl, by simp [dlook, keyOf_kD], h⟩
    · have e1 : dlook ((kD k', d') :: kvs) k = dlook kvs k := by simp [dlook, List.find?_cons, keyOf_kD, e]
      rw [valV_neg e, e1]
      exact DqKV.look k t
theorem DqKV.any {K : PySem.W.Frag} {H : Hp} (k : Key) : ∀ {l : List (Key × V)} {kvs : KVs}, DqKV K H l kvs → (l.any fun kv => decide (kv.1 = k)) = kvs.any fun kv => decide (keyOf kv.1 = some k)
  | _, _, .nil => rfl
  | (k', v') :: l, (_, d') :: kvs, .cons h t => by
    rw [List.any_cons, List.any_cons, DqKV.any k t]
    show (decide (k' = k) || _) = (decide (keyOf (kD k') = some k) || _)
    rw [keyOf_kD]
    simp
theorem DqKV.map {K : PySem.W.Frag} {H : Hp} (k : Key) {v : V} {d : PyData} (q : Dq K H v d) : ∀ {l : List (Key × V)} {kvs : KVs}, DqKV K H l kvs → DqKV K H (l.map fun kv => if kv.1 = k then (kv.1, v) else kv) (kvs.map fun kv => if keyOf kv.1 = some k then (kv.1, d) else kv)
  | _, _, .nil => .nil
  | (k', v') :: l, (_, d') :: kvs, .cons h t => by
    rw [List.map_cons, List.map_cons]
    show DqKV K H ((if k' = k then (k', v) else (k', v')) :: _) ((if keyOf (kD k') = some k then (kD k', d) else (kD k', d')) :: _)
    rw [keyOf_kD]
    by_cases e : k' = k
    · rw [if_pos e, if_pos (by rw [e])]
      exact .cons q (DqKV.map k q t)
    · rw [if_neg e, if_neg (by intro z; exact e (Option.some.inj z))]
      exact .cons h (DqKV.map k q t)
theorem DqKV.snoc {K : PySem.W.Frag} {H : Hp} {k : Key} {v : V} {d : PyData} (q : Dq K H v d) : ∀ {l : List (Key × V)} {kvs : KVs}, DqKV K H l kvs → DqKV K H (l ++ [(k, v)]) (kvs ++ [(kD k, d)])
  | _, _, .nil => .cons q .nil
  | _, _, .cons h t => .cons h (DqKV.snoc q t)
theorem DqKV.put {K : PySem.W.Frag} {H : Hp} {k : Key} {v : V} {d : PyData} {l : List (Key × V)} {kvs : KVs} (h : DqKV K H l kvs) (q : Dq K H v d) : DqKV K H (putK l k v) (dput kvs k d) := by
  unfold putK dput
  rw [h.any k]
  by_cases e : (kvs.any fun kv => decide (keyOf kv.1 = some k)) = true
  · rw [if_pos e, if_pos e]
    exact h.map k q
  · rw [if_neg e, if_neg e]
    exact h.snoc q
theorem kV_of {K : PySem.W.Frag} {H : Hp} {v : V} {d : PyData} {k : Key} (h : Dq K H v d) (e : keyOf d = some k) : v = kV k := by
  cases h with
  | int i => cases e; rfl
  | str x => cases e; rfl
  | _ => cases e
section
variable {X : Cx} {e a b cc : Expr} {c : Bk} {f fa fb fc : ES} {pos : Pos}
def dgetD : PyData → PyData → R PyData
  | .dict kvs, y => match keyOf y with
    | some k => (match dlook kvs k with
      | some d => .ok d
      | none => .bad)
    | none => .bad
  | _, _ => .bad
theorem dget_run {K : PySem.W.Frag} {F H : Hp} {x y : V} {d e z : PyData} (f : Same F H) (h1 : Dq K F x d) (h2 : Dq K H y e) (hz : dgetD d e = .ok z) : ∃ a v, x = .ref a ∧ DGet H a y (some v) ∧ Dq K F v z := by
  cases h1 with
  | @dct a l kvs hs ha =>
    cases hk : keyOf e with
    | none => simp only [dgetD, hk] at hz; cases hz
    | some k =>
      simp only [dgetD, hk] at hz
      rcases ha.look k with ⟨e1, e2⟩ | ⟨v, w, e1, e2, e3⟩
      · rw [e2] at hz
        cases hz
      · rw [e2] at hz
        cases hz
        have ey := kV_of h2 hk
        subst ey
        refine ⟨a, v, rfl, ?_, e3⟩
        rw [← e1]
        exact DGet.k (f _ _ hs)
  | _ => cases hz
theorem dgetD_noerr (d e : PyData) (x : Str) : dgetD d e ≠ .err x := by
  intro h
  unfold dgetD at h
  split at h
  · split at h
    · split at h <;> cases h
    · cases h
  · cases h
theorem d_dgP (hu : X.A.units + 1 < cLine) (ha : PE X a (qP X.K c fa)) (hb : PE X b (qT X.K c fb)) (hs : NoSl b := by exact fun _ _ => rfl) : PE X (.Subscript a b pos) (qP X.K c (op2 dgetD fa fb)) := by
  refine pe_imp (pe_dget hu ha hb hs) fun σ H Q h => ?_
  obtain ⟨ds, F, s, w⟩ := h
  refine ⟨ds, F, s, wP_bind w fun d v F1 H1 g1 q1 w1 => ⟨ds, F1, s.grow g1, wT_bind w1 fun d2 v2 F2 H2 g2 q2 w2 => ?_⟩⟩
  cases hz : dgetD d d2 with
  | bad => rw [hz] at w2; exact w2.elim
  | err x => exact absurd hz (dgetD_noerr _ _ _)
  | ok z =>
    rw [hz] at w2
    obtain ⟨p, u, h1, h2, h3⟩ := dget_run g2.fh (q1.mono g2.ff) q2 hz
    exact ⟨p, u, h1, h2, w2 u F2 H2 (.refl g2.fh) h3⟩
theorem d_dgT (hu : X.A.units + 1 < cLine) (ha : PE X a (qT X.K c fa)) (hb : PE X b (qT X.K c fb)) (hs : NoSl b := by exact fun _ _ => rfl) : PE X (.Subscript a b pos) (qT X.K c (op2 dgetD fa fb)) := by
  refine pe_imp (pe_dget hu ha hb hs) fun σ H Q h => ?_
  obtain ⟨ds, F, s, w⟩ := h
  refine ⟨ds, F, s, wT_bindT w fun d v F1 H1 g1 q1 w1 => ⟨ds, F1, s.grow g1, wT_bindT w1 fun d2 v2 F2 H2 g2 q2 w2 => ?_⟩⟩
  cases hz : dgetD d d2 with
  | bad => rw [hz] at w2; exact w2.elim
  | err x => exact absurd hz (dgetD_noerr _ _ _)
  | ok z =>
    rw [hz] at w2
    obtain ⟨p, u, h1, h2, h3⟩ := dget_run (.refl H2) (q1.mono g2.hh) q2 hz
    exact ⟨p, u, h1, h2, w2 u F2 H2 (.refl g2.fh) h3⟩
/-- d.get(k, x) -/
def dgxS (fa fb fc : ES) : ES := fun ds => fa ds >>= fun x => match x with
  | .dict kvs => fb ds >>= fun y => fc ds >>= fun z => (match keyOf y with
    | some k => .ok ((dlook kvs k).getD z)
    | none => .bad)
  | _ => .bad
theorem d_dgx {apos : Pos} (hu : X.A.units + 1 < cLine) (ha : PE X a (qT X.K c fa)) (hb : PE X b (qT X.K c fb)) (hc : PE X cc (qT X.K c fc)) (m : M2 X a "get" apos b cc pos := by exact ⟨rfl, rfl, rfl, rfl⟩) : PE X (.Call (.Attribute a "get" apos) [b, cc] [] pos) (qT X.K c (dgxS fa fb fc)) := by
  refine pe_imp (pe_dget2 hu ha hb hc m) fun σ H Q h => ?_
  obtain ⟨ds, F, s, w⟩ := h
  refine ⟨ds, F, s, wT_bindT w fun d v F1 H1 g1 q1 w1 => ?_⟩
  cases d with
  | dict kvs =>
    cases q1 with
    | @dct p l _ hs hl =>
      refine ⟨p, rfl, .inl ⟨l, .inl hs⟩, ds, F1, s.grow g1, wT_bindT w1 fun d2 v2 F2 H2 g2 q2 w2 => ⟨ds, F2, (s.grow g1).grow g2, wT_bindT w2 fun d3 v3 F3 H3 g3 q3 w3 => ?_⟩⟩
      cases hk : keyOf d2 with
      | none => simp only [hk] at w3; exact w3.elim
      | some k =>
        simp only [hk] at w3
        have ey := kV_of q2 hk
        subst ey
        have hs3 := g3.hh _ _ (g2.hh _ _ hs)
        refine ⟨valV l k, DGet.k hs3, ?_⟩
        rcases hl.look k with ⟨e1, e2⟩ | ⟨u, w, e1, e2, e3⟩
        · rw [e2] at w3
          rw [e1]
          exact w3 v3 F3 H3 (.refl g3.fh) q3
        · rw [e2] at w3
          rw [e1]
          exact w3 u F3 H3 (.refl g3.fh) ((e3.mono g2.hh).mono g3.hh)
  | _ => exact w1.elim
/-- k in d -/
def dinD (y x : PyData) : R PyData := match x with
  | .dict kvs => match keyOf y with
    | some k => .ok (.bool (dlook kvs k).isSome)
    | none => .bad
  | _ => .bad
def dninD (y x : PyData) : R PyData := match x with
  | .dict kvs => match keyOf y with
    | some k => .ok (.bool (!(dlook kvs k).isSome))
    | none => .bad
  | _ => .bad
theorem din_run {K : PySem.W.Frag} {H : Hp} {x y : V} {kvs : KVs} {e : PyData} {k : Key} (h1 : Dq K H x (.dict kvs)) (h2 : Dq K H y e) (hk : keyOf e = some k) : ∃ a o, x = .ref a ∧ DGet H a y o ∧ o.isSome = (dlook kvs k).isSome := by
  cases h1 with
  | @dct a l kvs hs ha =>
    have ey := kV_of h2 hk
    subst ey
    refine ⟨a, valV l k, rfl, DGet.k hs, ?_⟩
    rcases ha.look k with ⟨e1, e2⟩ | ⟨v, w, e1, e2, e3⟩
    · rw [e1, e2]; rfl
    · rw [e1, e2]; rfl
theorem t_din {K : PySem.W.Frag} {σ : L2.St} {H : Hp} {Q : VK} (h : qP K c (op2 dinD fa fb) σ H Q) : tDIn (qT K c fa) (qT K c fb) σ H Q := by
  obtain ⟨ds, F, s, w⟩ := h
  refine ⟨ds, F, s, wT_bind w fun d v F1 H1 g1 q1 w1 => ⟨ds, F1, s.grow g1, wT_bind w1 fun d2 v2 F2 H2 g2 q2 w2 => ?_⟩⟩
  cases d2 with
  | dict kvs =>
    cases hk : keyOf d with
    | none => simp only [dinD, hk] at w2; exact w2.elim
    | some k =>
      simp only [dinD, hk] at w2
      obtain ⟨p, o, e1, e2, e3⟩ := din_run q2 (q1.mono g2.hh) hk
      refine ⟨p, o, e1, e2, ?_⟩
      rw [e3]
      exact w2 _ F2 H2 (.refl g2.fh) (.bl _)
  | _ => exact w2.elim
theorem t_dnin {K : PySem.W.Frag} {σ : L2.St} {H : Hp} {Q : VK} (h : qP K c (op2 dninD fa fb) σ H Q) : tDNotIn (qT K c fa) (qT K c fb) σ H Q := by
  obtain ⟨ds, F, s, w⟩ := h
  refine ⟨ds, F, s, wT_bind w fun d v F1 H1 g1 q1 w1 => ⟨ds, F1, s.grow g1, wT_bind w1 fun d2 v2 F2 H2 g2 q2 w2 => ?_⟩⟩
  cases d2 with
  | dict kvs =>
    cases hk : keyOf d with
    | none => simp only [dninD, hk] at w2; exact w2.elim
    | some k =>
      simp only [dninD, hk] at w2
      obtain ⟨p, o, e1, e2, e3⟩ := din_run q2 (q1.mono g2.hh) hk
      refine ⟨p, o, e1, e2, ?_⟩
      rw [e3]
      exact w2 _ F2 H2 (.refl g2.fh) (.bl _)
  | _ => exact w2.elim
theorem d_din (hu : X.A.units + 1 < cLine) (ha : PE X a (qT X.K c fa)) (hb : PE X b (qT X.K c fb)) (hm : behindInMarks .In b = false := by rfl) : PE X (.Compare a [.In] [b] pos) (qP X.K c (op2 dinD fa fb)) := pe_imp (pe_cmp (pc_din hu ha hb) hm) fun _ _ _ h => t_din h
theorem d_dinB (hu : X.A.units + 1 < cLine) (ha : PE X a (qT X.K c fa)) (hb : PE X b (qT X.K c fb)) (hm : behindInMarks .In b = false := by rfl) : PT X (.Compare a [.In] [b] pos) (qB X.K c (bS (op2 dinD fa fb))) := pt_imp (pt_cmp (pc_din hu ha hb) hm) fun _ _ _ h => t_bP (fun _ _ _ q => t_din q) h
theorem d_dninB (hu : X.A.units + 1 < cLine) (ha : PE X a (qT X.K c fa)) (hb : PE X b (qT X.K c fb)) (hm : behindInMarks .NotIn b = false := by rfl) : PT X (.Compare a [.NotIn] [b] pos) (qB X.K c (bS (op2 dninD fa fb))) := pt_imp (pt_cmp (pc_dnotin hu ha hb) hm) fun _ _ _ h => t_bP (fun _ _ _ q => t_dnin q) h
/-- dict(pairs) -/
def pairsO : List PyData → Option (List (Key × PyData))
  | [] => some []
  | .tuple [k, d] :: r => match keyOf k, pairsO r with
    | some k, some ps => some ((k, d) :: ps)
    | _, _ => none
  | _ => none
def dmerge (kvs : KVs) (ps : List (Key × PyData)) : KVs := ps.foldl (fun acc p => dput acc p.1 p.2) kvs
def dictD : PyData → R PyData
  | .list xs => match pairsO xs with
    | some ps => .ok (.dict (dmerge [] ps))
    | none => .bad
  | _ => .bad
theorem pairs_run {K : PySem.W.Frag} {F H : Hp} (f : Same F H) : ∀ {vs : List V} {xs : List PyData} {ps : List (Key × PyData)}, DqAll K F vs xs → pairsO xs = some ps → ∃ (as : List Addr) (kvs : List (Key × V)), vs = as.map V.ref ∧ Paired (fun p kv => SqT K H p [kV kv.1, kv.2]) as kvs ∧ Paired (fun (kv : Key × V) (p : Key × PyData) => kv.1 = p.1 ∧ Dq K F kv.2 p.2) kvs ps
  | _, _, _, .nil, e => by
    cases e
    exact ⟨[], [], rfl, .nil, .nil⟩
  | v :: vs, x :: xs, ps, .cons h t, e => by
    unfold pairsO at e
    split at e
    · rename_i z
      cases z
    · rename_i k d r heq
      cases heq
      cases hk : keyOf k with
      | none => simp only [hk] at e; cases e
      | some kk =>
        cases hp : pairsO xs with
        | none => simp only [hk, hp] at e; cases e
        | some ps' =>
          simp only [hk, hp] at e
          cases e
          obtain ⟨as, kvs, e1, e2, e3⟩ := pairs_run f t hp
          cases h with
          | tup hs ha =>
            cases ha with
            | cons h1 h2 =>
              cases h2 with
              | cons h3 h4 =>
                cases h4
                have ek := kV_of h1 hk
                subst ek
                refine ⟨_ :: as, (kk, _) :: kvs, ?_, .cons (sqT_mono f hs) e2, .cons ⟨rfl, h3⟩ e3⟩
                rw [e1]
                rfl
    · cases e
theorem merge_run {K : PySem.W.Frag} {F : Hp} : ∀ {l : List (Key × V)} {ps : List (Key × PyData)} {a : List (Key × V)} {b : KVs}, Paired (fun (kv : Key × V) (p : Key × PyData) => kv.1 = p.1 ∧ Dq K F kv.2 p.2) l ps → DqKV K F a b → DqKV K F (mergeK a l) (dmerge b ps)
  | _, _, _, _, .nil, h => h
  | _, _, _, _, .cons ⟨e, q⟩ t, h => by
    unfold mergeK dmerge
    rw [List.foldl_cons, List.foldl_cons, e]
    exact merge_run t (h.put q)
theorem d_dict {p : Pos} (hc : X.calm = true) (ha : PE X a (qP X.K c f)) (hm : X.mg "dict" = none) (hg : Gl X "dict" := by rfl) (hs : starEach [a] X.env = (false, eval a X.env) :: starEach [] X.env := by rfl) (hpl : (backTo pos (starEach [] X.env)).any (·.1) = false := by rfl) :
    PE X (.Call (.Name "dict" p) [a] [] pos) (qN X.K c (op1 dictD f)) := by
  refine pe_imp (pe_callTy (call_dictP hc) hg hm (by decide +kernel) (pa_cons ha pa_nil hs) (by decide) (by decide) hs hpl) fun σ H Q h => ?_
  obtain ⟨ds, F, s, w⟩ := h
  refine ⟨ds, F, s, ?_⟩
  unfold op1 at w
  cases hf : f ds with
  | bad => rw [hf] at w; exact w
  | err x => rw [hf] at w; exact w
  | ok d =>
    rw [hf, R.ok_bind] at w
    intro v F1 H1 g1 q1
    cases d with
    | list xs =>
      cases hp : pairsO xs with
      | none => simp only [dictD, hp] at w; exact w.elim
      | some ps =>
        simp only [dictD, hp] at w
        cases q1 with
        | lst hs ha =>
          obtain ⟨as, kvs, e1, e2, e3⟩ := pairs_run g1.fh ha hp
          subst e1
          refine ⟨_, as, kvs, rfl, g1.fh.seq hs, e2, fun p hp => ?_⟩
          exact w p F1 _ (g1.trans (.own g1.fh hp)) (g1.hh.free hp) (g1.fh.free hp) ⟨_, upd_same, merge_run e3 .nil⟩
    | _ => exact w.elim
/-- {} -/
theorem d_dnew : PE X (.Dict [] [] pos) (qN X.K c (cS (.dict []))) := by
  refine pe_imp pe_dnewK fun σ H Q h => ?_
  obtain ⟨ds, F, s, w⟩ := h
  intro p hp
  exact w p F _ (.own s.fh hp) hp (s.fh.free hp) ⟨[], upd_same, .nil⟩
/-! ### sorted -/
def insI (x : Int) : List Int → List Int
  | [] => [x]
  | y :: r => if x ≤ y then x :: y :: r else y :: insI x r
def sortI : List Int → List Int
  | [] => []
  | x :: r => insI x (sortI r)
theorem insI_perm (x : Int) : ∀ l : List Int, (insI x l).Perm (x :: l)
  | [] => .refl _
  | y :: r => by
    unfold insI
    split
    · exact .refl _
    · exact ((insI_perm x r).cons y).trans (.swap x y r)
theorem sortI_perm : ∀ l : List Int, (sortI l).Perm l
  | [] => .refl _
  | x :: r => (insI_perm x (sortI r)).trans ((sortI_perm r).cons x)
theorem insI_pw (x : Int) : ∀ {l : List Int}, l.Pairwise (· ≤ ·) → (insI x l).Pairwise (· ≤ ·)
  | [], _ => by simp [insI]
  | y :: r, h => by
    unfold insI
    rw [List.pairwise_cons] at h
    split
    · rename_i hxy
      rw [List.pairwise_cons]
      refine ⟨fun z hz => ?_, List.pairwise_cons.mpr h⟩
      rcases List.mem_cons.mp hz with e | hz
      · subst e; exact hxy
      · have := h.1 z hz; omega
    · rename_i hxy
      rw [List.pairwise_cons]
      refine ⟨fun z hz => ?_, insI_pw x h.2⟩
      rcases List.mem_cons.mp ((insI_perm x r).mem_iff.mp hz) with e | hz
      · subst e; omega
      · exact h.1 z hz
theorem sortI_pw : ∀ l : List Int, (sortI l).Pairwise (· ≤ ·)
  | [] => .nil
  | x :: r => insI_pw x (sortI_pw r)
theorem sortI_uniq {l m : List Int} (p : m.Perm l) (s : m.Pairwise (· ≤ ·)) : m = sortI l :=
  List.Perm.eq_of_pairwise (le := (· ≤ ·)) (fun a b _ _ h1 h2 => by omega) s (sortI_pw l) (p.trans (sortI_perm l).symm)
def sortD : PyData → R PyData
  | .list xs => match intsO xs with
    | some ns => .ok (.list ((sortI ns).map .int))
    | none => .bad
  | .dict kvs => match intsO (kvs.map (·.1)) with
    | some ns => if ns.length < 64 then .ok (.list ((sortI ns).map .int)) else .bad
    | none => .bad
  | _ => .bad
theorem dqInts {K : PySem.W.Frag} {H : Hp} : ∀ ns : List Int, DqAll K H (ns.map V.int) (ns.map PyData.int)
  | [] => .nil
  | n :: r => .cons (.int n) (dqInts r)
theorem keys_ints {K : PySem.W.Frag} {H : Hp} : ∀ {l : List (Key × V)} {kvs : KVs} {ns : List Int}, DqKV K H l kvs → intsO (kvs.map (·.1)) = some ns → l.map (·.1) = ns.map Sum.inl
  | _, _, _, .nil, e => by
    cases e
    rfl
  | (k, v) :: l, (_, d) :: kvs, ns, .cons h t, e => by
    rw [List.map_cons] at e
    cases k with
    | inl i =>
      have e : (intsO (kvs.map (·.1))).map (i :: ·) = some ns := e
      obtain ⟨m, e1, e2⟩ := Option.map_eq_some_iff.mp e
      subst e2
      rw [List.map_cons, keys_ints t e1]
      rfl
    | inr x => simp [kD, intsO] at e
theorem d_sorted {p : Pos} (hc : X.calm = true) (ha : PE X a (qT X.K c f)) (hm : X.mg "sorted" = none) (hg : Gl X "sorted" := by rfl) (hs : starEach [a] X.env = (false, eval a X.env) :: starEach [] X.env := by rfl) (hpl : (backTo pos (starEach [] X.env)).any (·.1) = false := by rfl) :
    PE X (.Call (.Name "sorted" p) [a] [] pos) (qN X.K c (op1 sortD f)) := by
  refine pe_imp (pe_callB (cr_sortedI.or (call_sortedDI hc)) hg hm (by decide +kernel) (pa_cons ha pa_nil hs) (by decide) (by decide) hs hpl) fun σ H Q h => ?_
  obtain ⟨ds, F, s, w⟩ := h
  refine ⟨ds, F, s, ?_⟩
  unfold op1 at w
  cases hf : f ds with
  | bad => rw [hf] at w; exact w
  | err x => rw [hf] at w; exact w
  | ok d =>
    rw [hf, R.ok_bind] at w
    intro v F1 H1 g1 q1
    cases d with
    | list xs =>
      cases hp : intsO xs with
      | none => simp only [sortD, hp] at w; exact w.elim
      | some ns =>
        simp only [sortD, hp] at w
        cases q1 with
        | lst hs ha =>
          have e1 := ints_of ha hp
          subst e1
          refine .inl ⟨_, ns, rfl, hs, fun ns' p p1 p2 hp => ?_⟩
          rw [sortI_uniq p1 p2]
          exact w p F1 _ (g1.trans (.own g1.fh hp)) (g1.hh.free hp) (g1.fh.free hp) ⟨_, upd_same, dqInts _⟩
    | dict kvs =>
      cases hp : intsO (kvs.map (·.1)) with
      | none => simp only [sortD, hp] at w; exact w.elim
      | some ns =>
        simp only [sortD, hp] at w
        by_cases h64 : ns.length < 64
        · rw [if_pos h64] at w
          cases q1 with
          | dct hs ha =>
            refine .inr ⟨_, _, ns, rfl, .inl hs, keys_ints ha hp, h64, fun ns' p p1 p2 hp => ?_⟩
            rw [sortI_uniq p1 p2]
            exact w p F1 _ (g1.trans (.own g1.fh hp)) (g1.hh.free hp) (g1.fh.free hp) ⟨_, upd_same, dqInts _⟩
        · rw [if_neg h64] at w
          exact w.elim
    | _ => exact w.elim
end
end Cb
namespace Cb
open PySem PySem.Spec PyProof.Rows L2
/-! ### what is walked -/
structure Wk (K : PySem.W.Frag) (J : It) (F1 : Hp) (items : List PyData) : Prop where
  go : ∀ (i : Nat) (F H : Hp) (d : PyData), Same F1 F → Same F H → items[i]? = some d → J.go i H ∧ ∀ x H', J.yld i H x H' → ∃ F', Grow F H F' H' ∧ Dq K F' x d
  stop : ∀ (i : Nat) (F H : Hp), Same F1 F → Same F H → items.length ≤ i → J.stop i H
def wI (K : PySem.W.Frag) (c : Bk) (F H : Hp) (Rr : It → Hp → Prop) : R (List PyData) → Prop
  | .bad => False
  | .ok ds => ∀ J F' H', Grow F H F' H' → Wk K J F' ds → Rr J H'
  | .err x => wErr c x
def qI (K : PySem.W.Frag) (c : Bk) (f : DS → R (List PyData)) : TI := fun σ H Rr => ∃ ds F, Stt K c F H σ ds ∧ wI K c F H Rr (f ds)
theorem wk_list {K : PySem.W.Frag} {F1 : Hp} {a : Addr} {vs : List V} {ds : List PyData} (hs : SqL K F1 a vs) (ha : DqAll K F1 vs ds) : Wk K (Itl K a) F1 ds where
  go := fun i F H d f1 f2 e => by
    obtain ⟨v, e1, e2⟩ := ha.get e
    refine ⟨⟨vs, v, (f1.trans f2).seq hs, e1⟩, fun x H' y => ?_⟩
    obtain ⟨rfl, y⟩ := y
    have := y vs ((f1.trans f2).seq hs)
    rw [e1] at this
    cases this
    exact ⟨F, .refl f2, e2.mono f1⟩
  stop := fun i F H f1 f2 e => ⟨vs, (f1.trans f2).seq hs, by rw [ha.length]; exact e⟩
theorem wk_tup {K : PySem.W.Frag} {F1 : Hp} {a : Addr} {vs : List V} {ds : List PyData} (hs : SqT K F1 a vs) (ha : DqAll K F1 vs ds) : Wk K (Itt K a) F1 ds where
  go := fun i F H d f1 f2 e => by
    obtain ⟨v, e1, e2⟩ := ha.get e
    refine ⟨⟨vs, v, sqT_mono (f1.trans f2) hs, e1⟩, fun x H' y => ?_⟩
    obtain ⟨rfl, y⟩ := y
    have := y vs (sqT_mono (f1.trans f2) hs)
    rw [e1] at this
    cases this
    exact ⟨F, .refl f2, e2.mono f1⟩
  stop := fun i F H f1 f2 e => ⟨vs, sqT_mono (f1.trans f2) hs, by rw [ha.length]; exact e⟩
def rangeD (lo : Int) (n : Nat) : List PyData := (List.range n).map fun i => .int (lo + (i : Nat))
theorem rangeD_len (lo : Int) (n : Nat) : (rangeD lo n).length = n := by simp [rangeD]
theorem rangeD_get {lo : Int} {n i : Nat} {d : PyData} (h : (rangeD lo n)[i]? = some d) : i < n ∧ d = .int (lo + (i : Nat)) := by
  unfold rangeD at h
  rw [List.getElem?_map] at h
  by_cases hi : i < n
  · rw [List.getElem?_range hi] at h
    cases h
    exact ⟨hi, rfl⟩
  · rw [List.getElem?_eq_none (by simpa using hi)] at h
    cases h
theorem wk_range {K : PySem.W.Frag} {F1 : Hp} {lo : Int} {n : Nat} : Wk K (Itr lo n) F1 (rangeD lo n) where
  go := fun i F H d f1 f2 e => by
    obtain ⟨hi, rfl⟩ := rangeD_get e
    refine ⟨hi, fun x H' y => ?_⟩
    obtain ⟨rfl, rfl⟩ := y
    exact ⟨F, .refl f2, .int _⟩
  stop := fun i F H f1 f2 e => by
    rw [rangeD_len] at e
    exact e
def zipD : List PyData → List PyData → List PyData
  | x :: xs, y :: ys => .tuple [x, y] :: zipD xs ys
  | _, _ => []
theorem zipD_get : ∀ {xs ys : List PyData} {i : Nat} {d : PyData}, (zipD xs ys)[i]? = some d → ∃ x y, xs[i]? = some x ∧ ys[i]? = some y ∧ d = .tuple [x, y]
  | [], _, _, _, h => by simp [zipD] at h
  | _ :: _, [], _, _, h => by simp [zipD] at h
  | x :: xs, y :: ys, 0, d, h => by
    have h : some (PyData.tuple [x, y]) = some d := h
    cases h
    exact ⟨x, y, rfl, rfl, rfl⟩
  | x :: xs, y :: ys, i + 1, d, h => by
    have h : (zipD xs ys)[i]? = some d := h
    exact zipD_get (xs := xs) (ys := ys) (i := i) h
theorem zipD_len : ∀ {xs ys : List PyData} {i : Nat}, (zipD xs ys).length ≤ i → xs.length ≤ i ∨ ys.length ≤ i
  | [], _, _, _ => .inl (Nat.zero_le _)
  | _ :: _, [], _, _ => .inr (Nat.zero_le _)
  | x :: xs, y :: ys, 0, h => by simp [zipD] at h
  | x :: xs, y :: ys, i + 1, h => by
    have h : (zipD xs ys).length ≤ i := by simpa [zipD] using h
    rcases zipD_len h with z | z
    · exact .inl (by simpa using z)
    · exact .inr (by simpa using z)
theorem wk_zip {K : PySem.W.Frag} {F1 : Hp} {a b : Addr} {vs ws : List V} {ds es : List PyData} (hs : SqL K F1 a vs) (ha : DqAll K F1 vs ds) (hs' : SqL K F1 b ws) (ha' : DqAll K F1 ws es) : Wk K (Itz K a b) F1 (zipD ds es) where
  go := fun i F H d f1 f2 e => by
    obtain ⟨x, y, e1, e2, rfl⟩ := zipD_get e
    obtain ⟨v, k1, k2⟩ := ha.get e1
    obtain ⟨w, k3, k4⟩ := ha'.get e2
    refine ⟨⟨vs, ws, v, w, (f1.trans f2).seq hs, (f1.trans f2).seq hs', k1, k3⟩, fun x H' y => ?_⟩
    obtain ⟨T, x1, x2, rfl, nT, rfl, y1, y2⟩ := y
    have z1 := y1 vs ((f1.trans f2).seq hs)
    have z2 := y2 ws ((f1.trans f2).seq hs')
    rw [k1] at z1
    rw [k3] at z2
    cases z1
    cases z2
    have fT := f2.free nT
    exact ⟨upd F T (.tup [v, w]), .new f2 nT, .tup (.of upd_same) (.cons ((k2.mono f1).mono (same_new fT)) (.cons ((k4.mono f1).mono (same_new fT)) .nil))⟩
  stop := fun i F H f1 f2 e => ⟨vs, ws, (f1.trans f2).seq hs, (f1.trans f2).seq hs', by
    rw [ha.length, ha'.length]
    exact zipD_len e⟩
def signsD (x : Str) : List PyData := x.cps.toList.map fun c => .str ⟨#[c]⟩
theorem wk_str {K : PySem.W.Frag} {F1 : Hp} {x : Str} : Wk K (Its x) F1 (signsD x) where
  go := fun i F H d f1 f2 e => by
    unfold signsD at e
    rw [List.getElem?_map] at e
    obtain ⟨c, e1, rfl⟩ := Option.map_eq_some_iff.mp e
    have e2 : x.cps[i]? = some c := by simpa using e1
    refine ⟨(Array.getElem?_eq_some_iff.mp e2).1, fun v H' y => ?_⟩
    obtain ⟨rfl, c', e3, rfl⟩ := y
    rw [e2] at e3
    cases e3
    exact ⟨F, .refl f2, .str _⟩
  stop := fun i F H f1 f2 e => by
    have e : x.cps.size ≤ i := by simpa [signsD] using e
    exact e
section
variable {X : Cx} {e a b cc tg : Expr} {c : Bk} {f fa fb fc : ES} {pos : Pos}
def itL (f : ES) : DS → R (List PyData) := fun ds => f ds >>= fun d => match d with
  | .list xs => .ok xs
  | _ => .bad
def itT (f : ES) : DS → R (List PyData) := fun ds => f ds >>= fun d => match d with
  | .tuple xs => .ok xs
  | _ => .bad
def itS (f : ES) : DS → R (List PyData) := fun ds => f ds >>= fun d => match d with
  | .str x => .ok (signsD x)
  | _ => .bad
def in62 (i : Int) : Bool := decide (-(2 ^ 62) ≤ i) && decide (i < 2 ^ 62)
def itR1 (f : ES) : DS → R (List PyData) := fun ds => f ds >>= fun d => match d with
  | .int j => if in62 j = true then .ok (rangeD 0 j.toNat) else .bad
  | _ => .bad
def itR2 (f g : ES) : DS → R (List PyData) := fun ds => f ds >>= fun d => g ds >>= fun e => match d, e with
  | .int i, .int j => if (in62 i && in62 j) = true then .ok (rangeD i (j - i).toNat) else .bad
  | _, _ => .bad
def itZ (f g : ES) : DS → R (List PyData) := fun ds => f ds >>= fun d => g ds >>= fun e => match d, e with
  | .list xs, .list ys => .ok (zipD xs ys)
  | _, _ => .bad
theorem wP_bindI {K : PySem.W.Frag} {F H : Hp} {Rr : It → Hp → Prop} {Q' : VK} {r : R PyData} {k : PyData → R (List PyData)} (w : wI K c F H Rr (r >>= k)) (h : ∀ d v F1 H1, Grow F H F1 H1 → Dq K F1 v d → wI K c F1 H1 Rr (k d) → Q' v H1) : wP K c F H Q' r := by
  cases r with
  | bad => exact w
  | err x => exact w
  | ok d =>
    refine fun v F1 H1 g1 q1 => h d v F1 H1 g1 q1 ?_
    have w : wI K c F H Rr (k d) := w
    cases hk : k d with
    | bad => rw [hk] at w; exact w
    | err x => rw [hk] at w; exact w
    | ok l => rw [hk] at w; exact fun J F2 H2 g2 q2 => w J F2 H2 (g1.trans g2) q2
theorem d_itL (h : PE X e (qP X.K c f)) : PI X tg e (qI X.K c (itL f)) := pi_imp (pi_list h) fun σ H Rr ⟨ds, F, s, w⟩ => ⟨ds, F, s, wP_bindI w fun d v F1 H1 g1 q1 w1 => by
  cases d with
  | list xs =>
    cases q1 with
    | lst hs ha => exact ⟨_, rfl, ⟨_, g1.fh.seq hs⟩, w1 _ F1 H1 (.refl g1.fh) (wk_list hs ha)⟩
  | _ => exact w1.elim⟩
theorem d_itT (h : PE X e (qP X.K c f)) : PI X tg e (qI X.K c (itT f)) := pi_imp (pi_tup h) fun σ H Rr ⟨ds, F, s, w⟩ => ⟨ds, F, s, wP_bindI w fun d v F1 H1 g1 q1 w1 => by
  cases d with
  | tuple xs =>
    cases q1 with
    | tup hs ha => exact ⟨_, rfl, ⟨_, sqT_mono g1.fh hs⟩, w1 _ F1 H1 (.refl g1.fh) (wk_tup hs ha)⟩
  | _ => exact w1.elim⟩
theorem d_itS (h : PE X e (qP X.K c f)) : PI X tg e (qI X.K c (itS f)) := pi_imp (pi_str h) fun σ H Rr ⟨ds, F, s, w⟩ => ⟨ds, F, s, wP_bindI w fun d v F1 H1 g1 q1 w1 => by
  cases d with
  | str x =>
    cases q1 with
    | str y => exact ⟨_, rfl, w1 _ F1 H1 (.refl g1.fh) wk_str⟩
  | _ => exact w1.elim⟩
theorem d_itR1 {p : Pos} (h : PE X a (qP X.K c f)) (hm : X.mg "range" = none) (hg : Gl X "range" := by rfl) (hs : starEach [a] X.env = [(false, eval a X.env)] := by rfl) : PI X tg (.Call (.Name "range" p) [a] [] pos) (qI X.K c (itR1 f)) := pi_imp (pi_range1 hg hm (pa_cons h pa_nil hs) hs) fun σ H Rr ⟨ds, F, s, w⟩ => ⟨ds, F, s, wP_bindI w fun d v F1 H1 g1 q1 w1 => by
  cases d with
  | int j =>
    cases q1 with
    | int j =>
      by_cases hj : in62 j = true
      · simp only [if_pos hj] at w1
        have hj' := hj
        simp only [in62, Bool.and_eq_true, decide_eq_true_eq] at hj'
        exact ⟨j, rfl, hj'.1, hj'.2, w1 _ F1 H1 (.refl g1.fh) wk_range⟩
      · simp only [if_neg hj] at w1
        exact w1.elim
  | _ => exact w1.elim⟩
theorem d_itR2 {p : Pos} (h : PE X a (qP X.K c fa)) (h2 : PE X b (qP X.K c fb)) (hm : X.mg "range" = none) (hg : Gl X "range" := by rfl) (hs : starEach [a, b] X.env = [(false, eval a X.env), (false, eval b X.env)] := by rfl) (hs2 : starEach [b] X.env = [(false, eval b X.env)] := by rfl) : PI X tg (.Call (.Name "range" p) [a, b] [] pos) (qI X.K c (itR2 fa fb)) :=
  pi_imp (pi_range2 hg hm (pa_cons h (pa_cons h2 pa_nil hs2) (by rw [hs, hs2])) hs hs2) fun σ H Rr ⟨ds, F, s, w⟩ => ⟨ds, F, s, wP_bindI w fun d v F1 H1 g1 q1 w1 => ⟨ds, F1, s.grow g1, wP_bindI w1 fun d2 v2 F2 H2 g2 q2 w2 => by
    cases d with
    | int i =>
      cases d2 with
      | int j =>
        cases q1
        cases q2
        by_cases hj : (in62 i && in62 j) = true
        · simp only [if_pos hj] at w2
          have hj' := hj
          simp only [in62, Bool.and_eq_true, decide_eq_true_eq] at hj'
          exact ⟨i, j, rfl, ⟨hj'.1.1, hj'.1.2, hj'.2.1, hj'.2.2⟩, w2 _ F2 H2 (.refl g2.fh) wk_range⟩
        · simp only [if_neg hj] at w2
          exact w2.elim
      | _ => exact w2.elim
    | _ => exact w2.elim⟩⟩
theorem d_itZ {p tpos : Pos} {elts : List Expr} {kk : Nat} (h : PE X a (qP X.K c fa)) (h2 : PE X b (qP X.K c fb)) (hm : X.mg "zip" = none) (hg : Gl X "zip" := by rfl) (hs : starEach [a, b] X.env = (false, eval a X.env) :: starEach [b] X.env := by rfl) (hs2 : starEach [b] X.env = (false, eval b X.env) :: starEach [] X.env := by rfl) (hpl : (backTo pos (starEach [b] X.env)).any (·.1) = false := by rfl) :
    PI X (.Tuple elts kk tpos) (.Call (.Name "zip" p) [a, b] [] pos) (qI X.K c (itZ fa fb)) :=
  pi_imp (pi_zip hg hm (pa_cons h (pa_cons h2 pa_nil hs2) hs) hs hpl) fun σ H Rr ⟨ds, F, s, w⟩ => ⟨ds, F, s, wP_bindI w fun d v F1 H1 g1 q1 w1 => ⟨ds, F1, s.grow g1, wP_bindI w1 fun d2 v2 F2 H2 g2 q2 w2 => by
    cases d with
    | list xs =>
      cases d2 with
      | list ys =>
        cases q1.mono g2.ff with
        | lst hs ha =>
          cases q2 with
          | lst hs' ha' => exact ⟨_, _, _, _, rfl, g2.fh.seq hs, g2.fh.seq hs', w2 _ F2 H2 (.refl g2.fh) (wk_zip hs ha hs' ha')⟩
      | _ => exact w2.elim
    | _ => exact w2.elim⟩⟩
/-! ### targets -/
inductive TgK where
  | nm (i : Nat)
  | pr (i j : Nat)
  | tr (i j k : Nat)
def tgT (K : PySem.W.Frag) : TgK → TG
  | .nm i => gName i
  | .pr i j => gTup K 2 (gCons (gName i) (gCons (gName j) gNil))
  | .tr i j k => gTup K 3 (gCons (gName i) (gCons (gName j) (gCons (gName k) gNil)))
def tgD : TgK → PyData → DS → R DS
  | .nm i, d, ds => .ok (ds.set i (.im d))
  | .pr i j, .tuple [x, y], ds => .ok ((ds.set i (.im x)).set j (.im y))
  | .tr i j k, .tuple [x, y, z], ds => .ok (((ds.set i (.im x)).set j (.im y)).set k (.im z))
  | _, _, _ => .bad
def tgIn : TgK → List Nat → Prop
  | .nm i, vs => i ∈ vs
  | .pr i j, vs => i ∈ vs ∧ j ∈ vs
  | .tr i j k, vs => i ∈ vs ∧ j ∈ vs ∧ k ∈ vs
theorem wipe_get (σ : L2.St) : ∀ (vs : List Nat) (j : Nat), (wipe σ vs)[j]? = if j ∈ vs then (if j < σ.length then some none else none) else σ[j]?
  | [], j => by simp [wipe]
  | v :: vs, j => by
    unfold wipe
    rw [get_set, wipe_get σ vs j, wipe_length]
    by_cases h : v = j
    · subst h
      by_cases hl : v < σ.length
      · simp [hl]
      · simp [hl]
    · by_cases hj : j ∈ vs
      · simp [h, hj]
      · have : ¬ j = v := fun z => h z.symm
        simp [h, hj, this]
theorem wipe_set {σ : L2.St} {i : Nat} {o : Option V} {vs : List Nat} (h : i ∈ vs) : wipe (σ.set i o) vs = wipe σ vs := by
  apply List.ext_getElem?
  intro j
  rw [wipe_get, wipe_get, List.length_set]
  by_cases hj : j ∈ vs
  · rw [if_pos hj, if_pos hj]
  · rw [if_neg hj, if_neg hj, get_set, if_neg]
    rintro ⟨rfl, _⟩
    exact hj h
theorem tg_run {K : PySem.W.Frag} {k : TgK} {F H : Hp} {σ : L2.St} {ds ds' : DS} {v : V} {d : PyData} (s : Stt K c F H σ ds) (q : Dq K F v d) (hd : tgD k d ds = .ok ds') : ∃ σ', (∀ Q : L2.St → Hp → Prop, Q σ' H → tgT K k v σ H Q) ∧ Stt K c F H σ' ds' ∧ ∀ vs, tgIn k vs → wipe σ' vs = wipe σ vs := by
  cases k with
  | nm i =>
    cases hd
    exact ⟨_, fun Q z => z, s.set q, fun vs h => wipe_set h⟩
  | pr i j =>
    unfold tgD at hd
    split at hd
    · rename_i heq; cases heq
    · rename_i heq
      cases heq
      cases hd
      cases q with
      | tup hs ha =>
        cases ha with
        | cons h1 h2 =>
          cases h2 with
          | cons h3 h4 =>
            cases h4
            exact ⟨_, fun Q z => ⟨_, _, rfl, sqT_mono s.fh hs, rfl, _, _, rfl, _, _, rfl, rfl, z⟩, (s.set h1).set h3, fun vs h => by rw [wipe_set h.2, wipe_set h.1]⟩
    · rename_i heq; cases heq
    · cases hd
  | tr i j k =>
    unfold tgD at hd
    split at hd
    · rename_i heq; cases heq
    · rename_i heq; cases heq
    · rename_i heq
      cases heq
      cases hd
      cases q with
      | tup hs ha =>
        cases ha with
        | cons h1 h2 =>
          cases h2 with
          | cons h3 h4 =>
            cases h4 with
            | cons h5 h6 =>
              cases h6
              exact ⟨_, fun Q z => ⟨_, _, rfl, sqT_mono s.fh hs, rfl, _, _, rfl, _, _, rfl, _, _, rfl, rfl, z⟩, ((s.set h1).set h3).set h5, fun vs h => by rw [wipe_set h.2.2, wipe_set h.2.1, wipe_set h.1]⟩
    · cases hd
theorem d_g1 {i : Nat} {x : Str} {K : PySem.W.Frag} (hN : X.N.Nodup) (hi : X.N[i]? = some x := by rfl) (hx : Loc X.env.scope x := by first | exact Or.inl rfl | exact Or.inr rfl) (hf : X.fn x = true ∨ X.env.scope.names.lookup x = some .local := by first | exact .inl rfl | exact .inr rfl | assumption) : PG X (.Name x pos) (tgT K (.nm i)) := pg_name hN hi hx hf
/-! ### list comprehensions -/
def wipeD (ds : DS) : List Nat → DS
  | [] => ds
  | v :: vs => (wipeD ds vs).set v .no
theorem Stt.wipe {K : PySem.W.Frag} {F H : Hp} {σ : L2.St} {ds : DS} (s : Stt K c F H σ ds) : ∀ vs : List Nat, Stt K c F H (L2.wipe σ vs) (wipeD ds vs)
  | [] => s
  | v :: vs => (Stt.wipe s vs).forget
def lcGo (k : TgK) (ft : DS → R Bool) (fe : ES) (ds : DS) : List PyData → R (List PyData)
  | [] => .ok []
  | x :: xs => match tgD k x ds with
    | .ok ds' => (match ft ds' with
      | .ok true => (match fe ds' with
        | .ok y => (match lcGo k ft fe ds xs with
          | .ok ys => .ok (y :: ys)
          | _ => .bad)
        | _ => .bad)
      | .ok false => lcGo k ft fe ds xs
      | _ => .bad)
    | _ => .bad
def lcS (fi : DS → R (List PyData)) (vs : List Nat) (k : TgK) (ft : DS → R Bool) (fe : ES) : ES := fun ds => fi ds >>= fun items => if items.length ≤ big then lcGo k ft fe (wipeD ds vs) items >>= fun ys => .ok (.list ys) else .bad
/-- within a block nothing is raised -/
abbrev Bk.calm (c : Bk) : Bk := { c with E := E0 }
theorem stt_calm {K : PySem.W.Frag} {F H : Hp} {σ : L2.St} {ds : DS} (s : Stt K c F H σ ds) : Stt K c.calm F H σ ds := ⟨s.gr, s.len, fun i x h => by
  have q := s.sl i x h
  cases x <;> exact q, s.di⟩
theorem pts_imp {ifs : List Expr} {t t' : TT} (h : PTs X ifs t) (i : ∀ σ H Q, t' σ H Q → t σ H Q) : PTs X ifs t' := ⟨fun pins s σ H Q I q => h.run pins s σ H Q I (i σ H Q q)⟩
def yesB : DS → R Bool := fun _ => .ok true
theorem d_pts0 : PTs X [] (qB X.K c yesB) := pts_imp pts_nil fun σ H Q ⟨ds, F, s, w⟩ => w F H (.refl s.fh)
theorem d_pts1 {ft : DS → R Bool} (h : PT X a (qB X.K c ft)) : PTs X [a] (qB X.K c ft) := pts_one h
theorem t_lc {K : PySem.W.Frag} {fi : DS → R (List PyData)} {vs : List Nat} {k : TgK} {ft : DS → R Bool} {fe : ES} (hk : tgIn k vs) {σ : L2.St} {H : Hp} {Q : VK} (h : qN K c (lcS fi vs k ft fe) σ H Q) : tLc (qI K c fi) (tgT K k) (qB K c.calm ft) (qP K c.calm fe) vs σ H Q := by
  obtain ⟨ds, F, s, w⟩ := h
  refine ⟨ds, F, s, ?_⟩
  unfold lcS at w
  cases hf : fi ds with
  | bad => rw [hf] at w; exact w
  | err x => rw [hf] at w; exact w
  | ok items =>
    rw [hf, R.ok_bind] at w
    by_cases hb : items.length ≤ big
    · rw [if_pos hb] at w
      cases hl : lcGo k ft fe (wipeD ds vs) items with
      | bad => rw [hl] at w; exact w.elim
      | err x =>
        exfalso
        have hne : ∀ (l : List PyData) (x : Str), lcGo k ft fe (wipeD ds vs) l ≠ .err x := by
          intro l
          induction l with
          | nil => intro x z; cases z
          | cons a r ih =>
            intro x z
            unfold lcGo at z
            repeat' split at z
            all_goals first | exact ih _ z | cases z
        exact hne _ _ hl
      | ok zs =>
        rw [hl, R.ok_bind] at w
        intro J F1 H1 g1 wk D hD
        have s1 : Stt K c F1 H1 σ ds := s.grow g1
        refine ⟨fun i m H' => m = items.length - i ∧ i ≤ items.length ∧ ∃ F' acc ys ws, Grow F1 H1 F' H' ∧ F' D = none ∧ H' D = some (.lst acc) ∧ DqAll K F' acc ys ∧ acc.length ≤ i ∧ lcGo k ft fe (wipeD ds vs) (items.drop i) = .ok ws ∧ zs = ys ++ ws,
          ⟨items.length, by simp, Nat.zero_le _, F1, [], [], zs, .own g1.fh hD, g1.fh.free hD, upd_same, .nil, Nat.le_refl _, hl, rfl⟩, ?_⟩
        rintro i m H' ⟨rfl, hi, F', acc, ys, ws, g, hF, hH, ha, hla, hg, rfl⟩
        by_cases hlt : i < items.length
        · have ed : items.drop i = items[i] :: items.drop (i + 1) := List.drop_eq_getElem_cons hlt
          have ei : items[i]? = some items[i] := List.getElem?_eq_getElem hlt
          obtain ⟨go, yl⟩ := wk.go i F' H' _ g.ff g.fh ei
          rw [ed] at hg
          unfold lcGo at hg
          cases ht : tgD k items[i] (wipeD ds vs) with
          | bad => simp only [ht] at hg; cases hg
          | err x => simp only [ht] at hg; cases hg
          | ok ds' =>
            simp only [ht] at hg
            refine .inr ⟨go, fun H'' => ∃ F'' acc' ys' ws', Grow F1 H1 F'' H'' ∧ F'' D = none ∧ H'' D = some (.lst acc') ∧ DqAll K F'' acc' ys' ∧ acc'.length ≤ i + 1 ∧ lcGo k ft fe (wipeD ds vs) (items.drop (i + 1)) = .ok ws' ∧ ys ++ ws = ys' ++ ws', fun H'' hN => ⟨items.length - (i + 1), by omega, rfl, hlt, hN⟩, fun x H2 y => ?_⟩
            obtain ⟨F2, g2, q2⟩ := yl x H2 y
            have s2 : Stt K c.calm F2 H2 (L2.wipe σ vs) (wipeD ds vs) := stt_calm ((s1.grow (g.trans g2)).wipe vs)
            have hF2 : F2 D = none := g2.nw D hF (by rw [hH]; simp)
            have hH2 : H2 D = some (.lst acc) := g2.hh _ _ hH
            obtain ⟨σ', k1, s3, k3⟩ := tg_run s2 q2 ht
            refine k1 _ ⟨?_, ds', F2, s3, ?_⟩
            · have z := k3 vs hk
              have z2 : L2.wipe (L2.wipe σ vs) vs = L2.wipe σ vs := by
                apply List.ext_getElem?
                intro j
                rw [wipe_get, wipe_get, wipe_length]
                by_cases hj : j ∈ vs <;> simp [hj]
              rw [z, z2]
            · cases hft : ft ds' with
              | bad => simp only [hft] at hg; cases hg
              | err x => simp only [hft] at hg; cases hg
              | ok bb =>
                intro F3 H3 g3
                cases bb with
                | false =>
                  simp only [hft] at hg
                  rw [if_neg Bool.false_ne_true]
                  exact ⟨F3, acc, ys, ws, (g.trans g2).trans g3, g3.nw D hF2 (by rw [hH2]; simp), g3.hh _ _ hH2, (ha.mono g2.ff).mono g3.ff, by omega, hg, rfl⟩
                | true =>
                  simp only [hft] at hg
                  rw [if_pos rfl]
                  refine ⟨ds', F3, s3.grow g3, ?_⟩
                  cases hfe : fe ds' with
                  | bad => simp only [hfe] at hg; cases hg
                  | err x => simp only [hfe] at hg; cases hg
                  | ok yy =>
                    simp only [hfe] at hg
                    intro v F4 H4 g4 q4
                    have hF3 : F3 D = none := g3.nw D hF2 (by rw [hH2]; simp)
                    have hH3 : H3 D = some (.lst acc) := g3.hh _ _ hH2
                    have hF4 : F4 D = none := g4.nw D hF3 (by rw [hH3]; simp)
                    have hH4 : H4 D = some (.lst acc) := g4.hh _ _ hH3
                    cases hr : lcGo k ft fe (wipeD ds vs) (items.drop (i + 1)) with
                    | bad => simp only [hr] at hg; cases hg
                    | err x => simp only [hr] at hg; cases hg
                    | ok ws' =>
                      simp only [hr] at hg
                      cases hg
                      refine ⟨acc, hH4, ?_, F4, acc ++ [v], ys ++ [yy], ws', Grow.mut (((g.trans g2).trans g3).trans g4) hD hF4, hF4, upd_same, (((ha.mono g2.ff).mono g3.ff).mono g4.ff).append (.cons q4 .nil), ?_, rfl, ?_⟩
                      · exact Nat.lt_of_lt_of_le (Nat.lt_of_le_of_lt hla hlt) (big_le hb)
                      · rw [List.length_append]
                        show acc.length + 1 ≤ i + 1
                        omega
                      · rw [List.append_assoc]
                        rfl
        · have e : i = items.length := by omega
          subst e
          rw [List.drop_length] at hg
          cases hg
          refine .inl ⟨wk.stop _ F' H' g.ff g.fh (Nat.le_refl _), ?_⟩
          rw [List.append_nil] at w
          exact w D F' H' (g1.trans g) (g1.hh.free hD) hF ⟨acc, hH, ha⟩
    · rw [if_neg hb] at w
      exact w.elim
theorem d_lc {elt iter : Expr} {ifs : List Expr} {scope : Scope} {own : List (Str × Nat)} {vs : List Nat} {fi : DS → R (List PyData)} {k : TgK} {ft : DS → R Bool} {fe : ES} (hc : X.calm = true) (hN : X.N.Nodup) (hi : PI X tg iter (qI X.K c fi)) (ok : BlkOk X.N X.env.scope scope own)
    (hg : ∀ (s : Shared) (H : Hp) (C : Addr) (cl : List (Str × Addr)) (fp : List Addr), PG (X.blk s H scope (compEnvC scope cl C X.env) fp) tg (tgT X.K k)) (ht : ∀ (s : Shared) (H : Hp) (C : Addr) (cl : List (Str × Addr)) (fp : List Addr), PTs (X.blk s H scope (compEnvC scope cl C X.env) fp) ifs (qB X.K c.calm ft))
    (he : ∀ (s : Shared) (H : Hp) (C : Addr) (cl : List (Str × Addr)) (fp : List Addr), PE (X.blk s H scope (compEnvC scope cl C X.env) fp) elt (qP X.K c.calm fe)) (hk : tgIn k vs) (hvs : own.map (·.2) = vs := by rfl) (hs : ∀ x, foldedSetIterable iter X.env x = pure x := by intro _; rfl) :
    PE X (.ListComp elt [⟨tg, iter, ifs, 0⟩] scope pos) (qN X.K c (lcS fi vs k ft fe)) := by
  subst hvs
  exact pe_imp (pe_lc hc hN hi ok hg ht he hs) fun _ _ _ h => t_lc hk h
end
end Cb
namespace Cb
open PySem PySem.Spec PyProof.Rows L2
/-! ### statements -/
inductive Out where
  | bad
  | nx (ds : DS)
  | rt (d : PyData)
  | bk (ds : DS)
  | ct (ds : DS)
  | err (x : Str)
def wS (K : PySem.W.Frag) (c : Bk) (F : Hp) (D : Ends) : Out → Prop
  | .bad => False
  | .nx ds => ∀ σ F' H, Same F F' → Stt K c F' H σ ds → D.nx σ H
  | .rt d => ∀ v F' H, Grow c.F0 c.H0 F' H → Dq K F' v d → D.rt v H
  | .bk ds => ∀ σ F' H, Same F F' → Stt K c F' H σ ds → D.bk σ H
  | .ct ds => ∀ σ F' H, Same F F' → Stt K c F' H σ ds → D.ct σ H
  | .err x => wErr c x
def qS (K : PySem.W.Frag) (c : Bk) (g : DS → Out) : TS := fun D σ H => ∃ ds F, Stt K c F H σ ds ∧ wS K c F D (g ds)
theorem wS_mono {K : PySem.W.Frag} {c : Bk} {F F1 : Hp} {D : Ends} {o : Out} (f : Same F F1) (w : wS K c F D o) : wS K c F1 D o := by
  cases o with
  | bad => exact w
  | nx ds => exact fun σ F' H f' s => w σ F' H (f.trans f') s
  | bk ds => exact fun σ F' H f' s => w σ F' H (f.trans f') s
  | ct ds => exact fun σ F' H f' s => w σ F' H (f.trans f') s
  | rt d => exact w
  | err x => exact w
def toO (r : R PyData) (k : PyData → Out) : Out := match r with
  | .bad => .bad
  | .ok d => k d
  | .err x => .err x
def toB (r : R Bool) (k : Bool → Out) : Out := match r with
  | .bad => .bad
  | .ok d => k d
  | .err x => .err x
section
variable {X : Cx} {e a b cc tg : Expr} {c : Bk} {f fa fb fc : ES} {pos : Pos} {st : Stmt} {rest : List Stmt} {g g1 g2 : DS → Out}
theorem wP_toO {K : PySem.W.Frag} {F H : Hp} {D : Ends} {Q' : VK} {r : R PyData} {k : PyData → Out} (w : wS K c F D (toO r k)) (h : ∀ d v F1 H1, Grow F H F1 H1 → Dq K F1 v d → wS K c F1 D (k d) → Q' v H1) : wP K c F H Q' r := by
  cases r with
  | bad => exact w
  | err x => exact w
  | ok d => exact fun v F1 H1 g1 q1 => h d v F1 H1 g1 q1 (wS_mono g1.ff w)
theorem wT_toO {K : PySem.W.Frag} {F H : Hp} {D : Ends} {Q' : VK} {r : R PyData} {k : PyData → Out} (w : wS K c F D (toO r k)) (h : ∀ d v F1 H1, Grow F H F1 H1 → Dq K H1 v d → wS K c F1 D (k d) → Q' v H1) : wT K c F H Q' r := by
  cases r with
  | bad => exact w
  | err x => exact w
  | ok d => exact fun v F1 H1 g1 q1 => h d v F1 H1 g1 q1 (wS_mono g1.ff w)
theorem wN_toO {K : PySem.W.Frag} {F H : Hp} {D : Ends} {Q' : VK} {r : R PyData} {k : PyData → Out} (w : wS K c F D (toO r k)) (h : ∀ d p F1 H1, Grow F H F1 H1 → H p = none → F1 p = none → Own K F1 H1 p d → wS K c F1 D (k d) → Q' (.ref p) H1) : wN K c F H Q' r := by
  cases r with
  | bad => exact w
  | err x => exact w
  | ok d => exact fun v F1 H1 g1 q1 q2 q3 => h d v F1 H1 g1 q1 q2 q3 (wS_mono g1.ff w)
theorem wB_toB {K : PySem.W.Frag} {F H : Hp} {D : Ends} {Q' : Bool → Hp → Prop} {r : R Bool} {k : Bool → Out} (w : wS K c F D (toB r k)) (h : ∀ d F1 H1, Grow F H F1 H1 → wS K c F1 D (k d) → Q' d H1) : wB c F H Q' r := by
  cases r with
  | bad => exact w
  | err x => exact w
  | ok d => exact fun F1 H1 g1 => h d F1 H1 g1 (wS_mono g1.ff w)
/-! blocks -/
def nxS : DS → Out := fun ds => .nx ds
def seqS (g1 g2 : DS → Out) : DS → Out := fun ds => match g1 ds with
  | .nx ds' => g2 ds'
  | o => o
theorem d_nil : PSs X [] (qS X.K c nxS) := pss_imp pss_nil fun D σ H ⟨ds, F, s, w⟩ => w σ F H (.refl F) s
theorem d_one (h : PS X st (qS X.K c g)) : PSs X [st] (qS X.K c g) := pss_one h
theorem d_cons (h1 : PS X st (qS X.K c g1)) (h2 : PSs X rest (qS X.K c g2)) : PSs X (st :: rest) (qS X.K c (seqS g1 g2)) := by
  refine pss_imp (pss_cons h1 h2) fun D σ H h => ?_
  obtain ⟨ds, F, s, w⟩ := h
  refine ⟨ds, F, s, ?_⟩
  unfold seqS at w
  cases hg : g1 ds with
  | bad => rw [hg] at w; exact w
  | nx ds' =>
    rw [hg] at w
    exact fun σ' F' H' f' s' => ⟨ds', F', s', wS_mono f' w⟩
  | rt d => rw [hg] at w; exact w
  | bk d => rw [hg] at w; exact w
  | ct d => rw [hg] at w; exact w
  | err x => rw [hg] at w; exact w
/-- a name's object is let go: from now on it lasts, and is changed no more -/
def frzS (i : Nat) (g : DS → Out) : DS → Out := fun ds => match ds[i]? with
  | some (.ow d) => g (ds.set i (.im d))
  | _ => .bad
theorem Stt.frz {K : PySem.W.Frag} {F H : Hp} {σ : L2.St} {ds : DS} {i : Nat} {d : PyData} (s : Stt K c F H σ ds) (hi : ds[i]? = some (.ow d)) : ∃ F', Same F F' ∧ Stt K c F' H σ (ds.set i (.im d)) := by
  obtain ⟨p, e1, e2, e3, e4⟩ := s.sl i _ hi
  obtain ⟨o, ho⟩ := e4.there
  have hlt : i < ds.length := (List.getElem?_eq_some_iff.mp hi).1
  refine ⟨upd F p o, same_new e3, s.gr.frz e2 e3 ho, by rw [List.length_set]; exact s.len, fun j x q => ?_, fun j k p' d1 d2 hjk q1 q2 q3 => ?_⟩
  · rw [get_set] at q
    by_cases hij : i = j ∧ i < ds.length
    · rw [if_pos hij] at q
      cases q
      rw [← hij.1]
      refine ⟨_, e1, ?_⟩
      cases d with
      | list xs =>
        obtain ⟨vs, k1, k2⟩ := e4
        rw [ho] at k1
        cases k1
        exact .lst (.of upd_same) (k2.mono (same_new e3))
      | dict xs =>
        obtain ⟨vs, k1, k2⟩ := e4
        rw [ho] at k1
        cases k1
        exact .dct upd_same (k2.mono (same_new e3))
      | _ => exact e4.elim
    · rw [if_neg hij] at q
      have r := s.sl j x q
      cases x with
      | no => trivial
      | im z => obtain ⟨v, r1, r2⟩ := r; exact ⟨v, r1, r2.mono (same_new e3)⟩
      | bw z => exact r
      | ow z =>
        obtain ⟨p2, r1, r2, r3, r4⟩ := r
        have ne : p2 ≠ p := fun z' => by
          subst z'
          exact s.di i j p2 d z (fun z => hij ⟨z, hlt⟩) hi q e1 r1
        exact ⟨p2, r1, r2, by rw [upd_ne ne]; exact r3, r4.mono (same_new e3) fun _ h => h⟩
  · have fo : ∀ {m : Nat} {z : PyData}, (ds.set i (.im d))[m]? = some (.ow z) → ds[m]? = some (.ow z) := fun {m z} q => by
      rw [get_set] at q
      by_cases hij : i = m ∧ i < ds.length
      · rw [if_pos hij] at q
        cases q
      · rw [if_neg hij] at q
        exact q
    exact s.di j k p' d1 d2 hjk (fo q1) (fo q2) q3
theorem d_frz (i : Nat) (h : PSs X rest (qS X.K c g)) : PSs X rest (qS X.K c (frzS i g)) := pss_imp h fun D σ H ⟨ds, F, s, w⟩ => by
  unfold frzS at w
  cases hi : ds[i]? with
  | none => rw [hi] at w; exact w.elim
  | some x =>
    rw [hi] at w
    cases x with
    | ow d =>
      obtain ⟨F', f', s'⟩ := s.frz hi
      exact ⟨_, F', s', wS_mono f' w⟩
    | _ => exact w.elim
/-! x = e -/
def setS (i : Nat) (f : ES) : DS → Out := fun ds => toO (f ds) fun d => .nx (ds.set i (.im d))
def setN (i : Nat) (f : ES) : DS → Out := fun ds => toO (f ds) fun d => .nx (ds.set i (.ow d))
theorem Stt.setNew {K : PySem.W.Frag} {F H F1 H1 : Hp} {σ : L2.St} {ds : DS} {i : Nat} {p : Addr} {d : PyData} (s : Stt K c F H σ ds) (g : Grow F H F1 H1) (hp : H p = none) (hF : F1 p = none) (ho : Own K F1 H1 p d) : Stt K c F1 H1 (σ.set i (some (.ref p))) (ds.set i (.ow d)) :=
  (s.grow g).setN (s.gr.hh.free hp) hF ho fun j d' hj _ z => by
    obtain ⟨p', e1, e2, e3, e4⟩ := s.sl j _ hj
    rw [e1] at z
    have e : p' = p := V.ref.inj (Option.some.inj (Option.some.inj z))
    subst e
    obtain ⟨o, ho⟩ := e4.there
    rw [hp] at ho
    cases ho
theorem d_set (i : Nat) {x : Str} {p' : Pos} (hN : X.N.Nodup) (he : PE X e (qP X.K c f)) (hi : X.N[i]? = some x := by rfl) (hx : Loc X.env.scope x := by first | exact Or.inl rfl | exact Or.inr rfl) (hs : swapsWith e (some (.Name x p')) pos.line X.env = pure false := by rfl) (hf : X.fn x = true ∨ X.env.scope.names.lookup x = some .local := by first | exact .inl rfl | exact .inr rfl | assumption) :
    PS X (.Assign [.Name x p'] e pos) (qS X.K c (setS i f)) := ps_imp (ps_set hN hi hx he hs hf) fun D σ H ⟨ds, F, s, w⟩ => ⟨ds, F, s, wP_toO w fun d v F1 H1 g1 q1 w1 => w1 _ F1 H1 (.refl F1) ((s.grow g1).set q1)⟩
theorem d_setN (i : Nat) {x : Str} {p' : Pos} (hN : X.N.Nodup) (he : PE X e (qN X.K c f)) (hi : X.N[i]? = some x := by rfl) (hx : Loc X.env.scope x := by first | exact Or.inl rfl | exact Or.inr rfl) (hs : swapsWith e (some (.Name x p')) pos.line X.env = pure false := by rfl) (hf : X.fn x = true ∨ X.env.scope.names.lookup x = some .local := by first | exact .inl rfl | exact .inr rfl | assumption) :
    PS X (.Assign [.Name x p'] e pos) (qS X.K c (setN i f)) := ps_imp (ps_set hN hi hx he hs hf) fun D σ H ⟨ds, F, s, w⟩ => ⟨ds, F, s, wN_toO w fun d p F1 H1 g1 q1 q2 q3 w1 => w1 _ F1 H1 (.refl F1) (s.setNew g1 q1 q2 q3)⟩
/-- x = [.. for ..] -/
theorem d_setLcN (i : Nat) {y : Str} {py : Pos} {elt iter : Expr} {ifs : List Expr} {scope : Scope} {own : List (Str × Nat)} {vs : List Nat} {spos : Pos} {fi : DS → R (List PyData)} {k : TgK} {ft : DS → R Bool} {fe : ES} (hc : X.calm = true) (hN : X.N.Nodup) (hi : PI X tg iter (qI X.K c fi)) (ok : BlkOk X.N X.env.scope scope own)
    (hg : ∀ (s : Shared) (H : Hp) (C : Addr) (cl : List (Str × Addr)) (fp : List Addr), PG (X.blk s H scope (compEnvC scope cl C X.env) fp) tg (tgT X.K k)) (ht : ∀ (s : Shared) (H : Hp) (C : Addr) (cl : List (Str × Addr)) (fp : List Addr), PTs (X.blk s H scope (compEnvC scope cl C X.env) fp) ifs (qB X.K c.calm ft))
    (he : ∀ (s : Shared) (H : Hp) (C : Addr) (cl : List (Str × Addr)) (fp : List Addr), PE (X.blk s H scope (compEnvC scope cl C X.env) fp) elt (qP X.K c.calm fe)) (hk : tgIn k vs) (hvs : own.map (·.2) = vs := by rfl)
    (hy : X.N[i]? = some y := by rfl) (hyl : X.env.scope.names.lookup y = some .local := by rfl) (hsw : swapsWith (.ListComp elt [⟨tg, iter, ifs, 0⟩] scope pos) (some (.Name y py)) spos.line X.env = pure true := by exact sw_true rfl rfl rfl (by decide +kernel)) (hs : ∀ x, foldedSetIterable iter X.env x = pure x := by intro _; rfl) :
    PS X (.Assign [.Name y py] (.ListComp elt [⟨tg, iter, ifs, 0⟩] scope pos) spos) (qS X.K c (setN i (lcS fi vs k ft fe))) :=
  by
  subst hvs
  exact ps_imp (ps_setLc hc hN hy hyl hsw hi ok hg ht he hs) fun D σ H ⟨ds, F, s, w⟩ => t_lc hk ⟨ds, F, s, wN_toO w fun d p F1 H1 g1 q1 q2 q3 w1 => w1 _ F1 H1 (.refl F1) (s.setNew g1 q1 q2 q3)⟩
theorem d_setLc (i : Nat) {y : Str} {py : Pos} {elt iter : Expr} {ifs : List Expr} {scope : Scope} {own : List (Str × Nat)} {vs : List Nat} {spos : Pos} {fi : DS → R (List PyData)} {k : TgK} {ft : DS → R Bool} {fe : ES} (hc : X.calm = true) (hN : X.N.Nodup) (hi : PI X tg iter (qI X.K c fi)) (ok : BlkOk X.N X.env.scope scope own)
    (hg : ∀ (s : Shared) (H : Hp) (C : Addr) (cl : List (Str × Addr)) (fp : List Addr), PG (X.blk s H scope (compEnvC scope cl C X.env) fp) tg (tgT X.K k)) (ht : ∀ (s : Shared) (H : Hp) (C : Addr) (cl : List (Str × Addr)) (fp : List Addr), PTs (X.blk s H scope (compEnvC scope cl C X.env) fp) ifs (qB X.K c.calm ft))
    (he : ∀ (s : Shared) (H : Hp) (C : Addr) (cl : List (Str × Addr)) (fp : List Addr), PE (X.blk s H scope (compEnvC scope cl C X.env) fp) elt (qP X.K c.calm fe)) (hk : tgIn k vs) (hvs : own.map (·.2) = vs := by rfl)
    (hy : X.N[i]? = some y := by rfl) (hyl : X.env.scope.names.lookup y = some .local := by rfl) (hsw : swapsWith (.ListComp elt [⟨tg, iter, ifs, 0⟩] scope pos) (some (.Name y py)) spos.line X.env = pure true := by exact sw_true rfl rfl rfl (by decide +kernel)) (hs : ∀ x, foldedSetIterable iter X.env x = pure x := by intro _; rfl) :
    PS X (.Assign [.Name y py] (.ListComp elt [⟨tg, iter, ifs, 0⟩] scope pos) spos) (qS X.K c (setS i (lcS fi vs k ft fe))) :=
  by
  subst hvs
  exact ps_imp (ps_setLc hc hN hy hyl hsw hi ok hg ht he hs) fun D σ H ⟨ds, F, s, w⟩ => t_lc hk ⟨ds, F, s, by
    unfold setS at w
    cases hf : lcS fi (own.map (·.2)) k ft fe ds with
    | bad => rw [hf] at w; exact w
    | err x => rw [hf] at w; exact w
    | ok d =>
      rw [hf] at w
      intro p F1 H1 g1 q1 q2 q3
      have w1 := wS_mono (K := X.K) (c := c) (D := D) g1.ff w
      cases d with
      | list xs =>
        obtain ⟨vs, k1, k2⟩ := q3
        have g3 := g1.frz q1 q2 k1
        exact w _ _ H1 g3.ff ((s.grow g3).set (.lst (.of upd_same) (k2.mono (same_new q2))))
      | dict xs =>
        obtain ⟨vs, k1, k2⟩ := q3
        have g3 := g1.frz q1 q2 k1
        exact w _ _ H1 g3.ff ((s.grow g3).set (.dct upd_same (k2.mono (same_new q2))))
      | _ => exact q3.elim⟩
/-! a, b = x, y -/
def parPP (i j : Nat) (f g : ES) : DS → Out := fun ds => toO (f ds) fun d => toO (g ds) fun e => .nx ((ds.set i (.im d)).set j (.im e))
def parNP (i j : Nat) (f g : ES) : DS → Out := fun ds => toO (f ds) fun d => toO (g ds) fun e => .nx ((ds.set i (.ow d)).set j (.im e))
def parPN (i j : Nat) (f g : ES) : DS → Out := fun ds => toO (f ds) fun d => toO (g ds) fun e => .nx ((ds.set i (.im d)).set j (.ow e))
def parNN (i j : Nat) (f g : ES) : DS → Out := fun ds => toO (f ds) fun d => toO (g ds) fun e => .nx ((ds.set i (.ow d)).set j (.ow e))
section
variable {i j : Nat} {x y : Str} {px py pt pt2 : Pos} {kt k2 : Nat}
theorem d_parPP (i j : Nat) (hc : X.calm = true) (hN : X.N.Nodup) (ha : PE X a (qP X.K c fa)) (hb : PE X b (qP X.K c fb)) (hij : i ≠ j := by decide) (hi : X.N[i]? = some x := by rfl) (hj : X.N[j]? = some y := by rfl)
    (hx : X.env.scope.names.lookup x = some .local := by rfl) (hy : X.env.scope.names.lookup y = some .local := by rfl)
    (hs1 : starEach [a, b] X.env = (false, eval a X.env) :: starEach [b] X.env := by rfl) (hs2 : starEach [b] X.env = (false, eval b X.env) :: starEach [] X.env := by rfl)
    (hw : swappedStores [.Tuple [.Name x px, .Name y py] kt pt] (.Tuple [a, b] k2 pt2) X.env = pure (some [x, y]) := by rfl)
    (hs : swapsWithSole [.Tuple [.Name x px, .Name y py] kt pt] (.Tuple [a, b] k2 pt2) pos.line X.env = pure false := by rfl) :
    PS X (.Assign [.Tuple [.Name x px, .Name y py] kt pt] (.Tuple [a, b] k2 pt2) pos) (qS X.K c (parPP i j fa fb)) :=
  ps_imp (ps_par hc hN hi hj hij hx hy (pa_cons ha (pa_cons hb pa_nil hs2) hs1) hw hs) fun D σ H ⟨ds, F, s, w⟩ => ⟨ds, F, s, wP_toO w fun d v F1 H1 g1 q1 w1 => ⟨ds, F1, s.grow g1, wP_toO w1 fun d2 v2 F2 H2 g2 q2 w2 =>
    ⟨v, v2, rfl, w2 _ F2 H2 (.refl F2) ((((s.grow g1).grow g2).set (q1.mono g2.ff)).set q2)⟩⟩⟩
theorem d_parNP (i j : Nat) (hc : X.calm = true) (hN : X.N.Nodup) (ha : PE X a (qN X.K c fa)) (hb : PE X b (qP X.K c fb)) (hij : i ≠ j := by decide) (hi : X.N[i]? = some x := by rfl) (hj : X.N[j]? = some y := by rfl)
    (hx : X.env.scope.names.lookup x = some .local := by rfl) (hy : X.env.scope.names.lookup y = some .local := by rfl)
    (hs1 : starEach [a, b] X.env = (false, eval a X.env) :: starEach [b] X.env := by rfl) (hs2 : starEach [b] X.env = (false, eval b X.env) :: starEach [] X.env := by rfl)
    (hw : swappedStores [.Tuple [.Name x px, .Name y py] kt pt] (.Tuple [a, b] k2 pt2) X.env = pure (some [x, y]) := by rfl)
    (hs : swapsWithSole [.Tuple [.Name x px, .Name y py] kt pt] (.Tuple [a, b] k2 pt2) pos.line X.env = pure false := by rfl) :
    PS X (.Assign [.Tuple [.Name x px, .Name y py] kt pt] (.Tuple [a, b] k2 pt2) pos) (qS X.K c (parNP i j fa fb)) :=
  ps_imp (ps_par hc hN hi hj hij hx hy (pa_cons ha (pa_cons hb pa_nil hs2) hs1) hw hs) fun D σ H ⟨ds, F, s, w⟩ => ⟨ds, F, s, wN_toO w fun d p F1 H1 g1 n1 n2 n3 w1 => ⟨ds, F1, s.grow g1, wP_toO w1 fun d2 v2 F2 H2 g2 q2 w2 =>
    ⟨_, v2, rfl, w2 _ F2 H2 (.refl F2) (((s.setNew g1 n1 n2 n3).grow g2).set q2)⟩⟩⟩
theorem d_parPN (i j : Nat) (hc : X.calm = true) (hN : X.N.Nodup) (ha : PE X a (qP X.K c fa)) (hb : PE X b (qN X.K c fb)) (hij : i ≠ j := by decide) (hi : X.N[i]? = some x := by rfl) (hj : X.N[j]? = some y := by rfl)
    (hx : X.env.scope.names.lookup x = some .local := by rfl) (hy : X.env.scope.names.lookup y = some .local := by rfl)
    (hs1 : starEach [a, b] X.env = (false, eval a X.env) :: starEach [b] X.env := by rfl) (hs2 : starEach [b] X.env = (false, eval b X.env) :: starEach [] X.env := by rfl)
    (hw : swappedStores [.Tuple [.Name x px, .Name y py] kt pt] (.Tuple [a, b] k2 pt2) X.env = pure (some [x, y]) := by rfl)
    (hs : swapsWithSole [.Tuple [.Name x px, .Name y py] kt pt] (.Tuple [a, b] k2 pt2) pos.line X.env = pure false := by rfl) :
    PS X (.Assign [.Tuple [.Name x px, .Name y py] kt pt] (.Tuple [a, b] k2 pt2) pos) (qS X.K c (parPN i j fa fb)) :=
  ps_imp (ps_par hc hN hi hj hij hx hy (pa_cons ha (pa_cons hb pa_nil hs2) hs1) hw hs) fun D σ H ⟨ds, F, s, w⟩ => ⟨ds, F, s, wP_toO w fun d v F1 H1 g1 q1 w1 => ⟨ds, F1, s.grow g1, wN_toO w1 fun d2 p F2 H2 g2 n1 n2 n3 w2 =>
    ⟨_, _, rfl, w2 _ F2 H2 (.refl F2) (((s.grow g1).set q1).setNew g2 n1 n2 n3)⟩⟩⟩
theorem d_parNN (i j : Nat) (hc : X.calm = true) (hN : X.N.Nodup) (ha : PE X a (qN X.K c fa)) (hb : PE X b (qN X.K c fb)) (hij : i ≠ j := by decide) (hi : X.N[i]? = some x := by rfl) (hj : X.N[j]? = some y := by rfl)
    (hx : X.env.scope.names.lookup x = some .local := by rfl) (hy : X.env.scope.names.lookup y = some .local := by rfl)
    (hs1 : starEach [a, b] X.env = (false, eval a X.env) :: starEach [b] X.env := by rfl) (hs2 : starEach [b] X.env = (false, eval b X.env) :: starEach [] X.env := by rfl)
    (hw : swappedStores [.Tuple [.Name x px, .Name y py] kt pt] (.Tuple [a, b] k2 pt2) X.env = pure (some [x, y]) := by rfl)
    (hs : swapsWithSole [.Tuple [.Name x px, .Name y py] kt pt] (.Tuple [a, b] k2 pt2) pos.line X.env = pure false := by rfl) :
    PS X (.Assign [.Tuple [.Name x px, .Name y py] kt pt] (.Tuple [a, b] k2 pt2) pos) (qS X.K c (parNN i j fa fb)) :=
  ps_imp (ps_par hc hN hi hj hij hx hy (pa_cons ha (pa_cons hb pa_nil hs2) hs1) hw hs) fun D σ H ⟨ds, F, s, w⟩ => ⟨ds, F, s, wN_toO w fun d p F1 H1 g1 n1 n2 n3 w1 => ⟨ds, F1, s.grow g1, wN_toO w1 fun d2 p2 F2 H2 g2 m1 m2 m3 w2 =>
    ⟨_, _, rfl, w2 _ F2 H2 (.refl F2) ((s.setNew g1 n1 n2 n3).setNew g2 m1 m2 m3)⟩⟩⟩
end
/-! if, return, e -/
def ifS (ft : DS → R Bool) (g1 g2 : DS → Out) : DS → Out := fun ds => toB (ft ds) fun x => if x = true then g1 ds else g2 ds
theorem d_if {ft : DS → R Bool} {bs os : List Stmt} (hc : PT X cc (qB X.K c ft)) (h1 : PSs X bs (qS X.K c g1)) (h2 : PSs X os (qS X.K c g2)) : PS X (.If cc bs os pos) (qS X.K c (ifS ft g1 g2)) :=
  ps_imp (ps_if hc h1 h2) fun D σ H ⟨ds, F, s, w⟩ => ⟨ds, F, s, wB_toB w fun d F1 H1 g1 w1 => by
    cases d with
    | true =>
      rw [if_pos rfl] at w1 ⊢
      exact ⟨ds, F1, s.grow g1, w1⟩
    | false =>
      rw [if_neg Bool.false_ne_true] at w1 ⊢
      exact ⟨ds, F1, s.grow g1, w1⟩⟩
def retS (f : ES) : DS → Out := fun ds => toO (f ds) .rt
theorem d_ret (he : PE X e (qP X.K c f)) : PS X (.Return (some e) pos) (qS X.K c (retS f)) := ps_imp (ps_ret he) fun D σ H ⟨ds, F, s, w⟩ => ⟨ds, F, s, wP_toO w fun d v F1 H1 g1 q1 w1 => w1 v F1 H1 (s.gr.trans g1) q1⟩
def exS (f : ES) : DS → Out := fun ds => toO (f ds) fun _ => .nx ds
theorem d_ex (he : PE X e (qT X.K c f)) (hs : swapsWith e none pos.line X.env = pure false := by rfl) : PS X (.Expr e pos) (qS X.K c (exS f)) := ps_imp (ps_expr he hs) fun D σ H ⟨ds, F, s, w⟩ => ⟨ds, F, s, wT_toO w fun d v F1 H1 g1 q1 w1 => w1 σ F1 H1 (.refl F1) (s.grow g1)⟩
theorem d_pass : PS X (.Pass pos) (qS X.K c nxS) := ps_imp ps_pass fun D σ H ⟨ds, F, s, w⟩ => w σ F H (.refl F) s
/-! x.append(e) -/
def appS (i : Nat) (f : ES) : DS → Out := fun ds => match ds[i]? with
  | some (.ow (.list xs)) => toO (f ds) fun d => if xs.length ≤ big then .nx (ds.set i (.ow (.list (xs ++ [d])))) else .bad
  | _ => .bad
theorem t_app {K : PySem.W.Frag} {i : Nat} {D : Ends} {σ : L2.St} {H : Hp} (h : qS K c (appS i f) D σ H) : tDrop (tBM K "list" rAppend (tVar i) (tCons (qP K c f) tNil)) D σ H := by
  obtain ⟨ds, F, s, w⟩ := h
  unfold appS at w
  split at w
  · rename_i xs hi
    obtain ⟨p, e1, e2, e3, vs, e4, e5⟩ := s.sl i _ hi
    refine ⟨.ref p, e1, .inl ⟨rfl, _, .inl (.inl e4)⟩, ds, F, s, wP_toO w fun d v F1 H1 g1 q1 w1 => ?_⟩
    by_cases hb : xs.length ≤ big
    · rw [if_pos hb] at w1
      refine ⟨p, vs, v, rfl, rfl, g1.hh _ _ e4, by rw [e5.length]; exact big_lt hb, w1 σ F1 _ (.refl F1) ((s.grow g1).mut hi e1 ⟨vs ++ [v], upd_same, (e5.mono g1.ff).append (.cons q1 .nil)⟩)⟩
    · rw [if_neg hb] at w1
      exact w1.elim
  · exact w.elim
theorem d_app (i : Nat) {x : Str} {p1 apos cpos : Pos} (he : PE X e (qP X.K c f)) (hN : X.N[i]? = some x := by rfl) (hv : Vis X.env.scope x := by first | exact Or.inl rfl | exact Or.inr (Or.inl rfl) | exact Or.inr (Or.inr rfl)) (hd : (x == ("__debug__" : Str)) = false := by decide) (hcd : (x == ("__classdict__" : Str)) = false := by decide)
    (hbase : attributeBase (.Name x p1) "append" X.env (eval (.Name x p1) X.env) = eval (.Name x p1) X.env := by rfl)
    (hfew : ((backTo cpos (starEach [e] X.env)).all (fun x => !x.1) && (backToKw cpos (keywordEach [] X.env)).all (fun x => x.1.isSome) && decide ([e].length + ([] : List Keyword).length + (if ([] : List Keyword).isEmpty then 0 else 1) < 30)) = true := by rfl)
    (hline : (apos.endLine == cpos.line) = true := by rfl) (hs1 : starEach [e] X.env = (false, eval e X.env) :: starEach [] X.env := by rfl) (hpl : (backTo cpos (starEach [] X.env)).any (·.1) = false := by rfl)
    (hs : swapsWith (.Call (.Attribute (.Name x p1) "append" apos) [e] [] cpos) none pos.line X.env = pure false := by rfl) : PS X (.Expr (.Call (.Attribute (.Name x p1) "append" apos) [e] [] cpos) pos) (qS X.K c (appS i f)) :=
  ps_imp (ps_expr (pe_bm PySem.F.plainAttrs_list PySem.F.slot_list_append PySem.F.type_list_append mt_append (pe_var hN hv hd hcd) (pa_cons he pa_nil hs1) hbase hfew hline hs1 hpl) hs) fun D σ H h => t_app h
/-! x.extend(e), e a new list -/
def extS (i : Nat) (f : ES) : DS → Out := fun ds => match ds[i]? with
  | some (.ow (.list xs)) => toO (f ds) fun d => match d with
    | .list ys => if xs.length + ys.length ≤ big then .nx (ds.set i (.ow (.list (xs ++ ys)))) else .bad
    | _ => .bad
  | _ => .bad
theorem t_ext {K : PySem.W.Frag} {i : Nat} {D : Ends} {σ : L2.St} {H : Hp} (h : qS K c (extS i f) D σ H) : tDrop (tBM K "list" rExtend (tVar i) (tCons (qN K c f) tNil)) D σ H := by
  obtain ⟨ds, F, s, w⟩ := h
  unfold extS at w
  split at w
  · rename_i xs hi
    obtain ⟨p, e1, e2, e3, vs, e4, e5⟩ := s.sl i _ hi
    refine ⟨.ref p, e1, .inl ⟨rfl, _, .inl (.inl e4)⟩, ds, F, s, wN_toO w fun d q F1 H1 g1 n1 n2 n3 w1 => ?_⟩
    cases d with
    | list ys =>
      obtain ⟨ws, k1, k2⟩ := n3
      by_cases hb : xs.length + ys.length ≤ big
      · simp only [if_pos hb] at w1
        refine ⟨p, q, vs, ws, rfl, rfl, g1.hh _ _ e4, k1, by rw [e5.length, k2.length]; exact big_le hb, w1 σ F1 _ (.refl F1) ((s.grow g1).mut hi e1 ⟨vs ++ ws, upd_same, (e5.mono g1.ff).append k2⟩)⟩
      · simp only [if_neg hb] at w1
        exact w1.elim
    | _ => exact w1.elim
  · exact w.elim
/-! d[k] = e -/
def dputS (i : Nat) (fk fv : ES) : DS → Out := fun ds => toO (fv ds) fun v => match ds[i]? with
  | some (.ow (.dict kvs)) => toO (fk ds) fun k => match keyOf k with
    | some kk => if kvs.length ≤ big then .nx (ds.set i (.ow (.dict (dput kvs kk v)))) else .bad
    | none => .bad
  | _ => .bad
theorem t_dput {K : PySem.W.Frag} {i : Nat} {D : Ends} {σ : L2.St} {H : Hp} (h : qS K c (dputS i fa fb) D σ H) : sDPut (tVar i) (qT K c fa) (qP K c fb) D σ H := by
  obtain ⟨ds, F, s, w⟩ := h
  refine ⟨ds, F, s, wP_toO w fun d v F1 H1 g1 q1 w1 => ?_⟩
  split at w1
  · rename_i kvs hi
    have s1 := s.grow g1
    obtain ⟨p, e1, e2, e3, l, e4, e5⟩ := s1.sl i _ hi
    refine ⟨.ref p, e1, ds, F1, s1, wT_toO w1 fun d2 v2 F2 H2 g2 q2 w2 => ?_⟩
    cases hk : keyOf d2 with
    | none => simp only [hk] at w2; exact w2.elim
    | some kk =>
      simp only [hk] at w2
      have ey := kV_of q2 hk
      subst ey
      by_cases hb : kvs.length ≤ big
      · rw [if_pos hb] at w2
        exact ⟨p, _, rfl, DPut.k (g2.hh _ _ e4) (by rw [e5.length]; exact big_lt hb), w2 σ F2 _ (.refl F2) ((s1.grow g2).mut hi e1 ⟨_, upd_same, (e5.mono g2.ff).put (q1.mono g2.ff)⟩)⟩
      · rw [if_neg hb] at w2
        exact w2.elim
  · exact w1.elim
theorem d_dput (i : Nat) {x : Str} {p1 pos' : Pos} (hu : X.A.units + 1 < cLine) (hk : PE X a (qT X.K c fa)) (hv : PE X b (qP X.K c fb)) (hN : X.N[i]? = some x := by rfl) (hvis : Vis X.env.scope x := by first | exact Or.inl rfl | exact Or.inr (Or.inl rfl) | exact Or.inr (Or.inr rfl)) (hd : (x == ("__debug__" : Str)) = false := by decide) (hcd : (x == ("__classdict__" : Str)) = false := by decide)
    (hs : swapsWith b (some (.Subscript (.Name x p1) a pos')) pos.line X.env = pure false := by rfl) : PS X (.Assign [.Subscript (.Name x p1) a pos'] b pos) (qS X.K c (dputS i fa fb)) :=
  ps_imp (ps_dput hu (pe_var hN hvis hd hcd) hk hv hs) fun D σ H h => t_dput h
/-! for -/
def forGo (k : TgK) (b : DS → Out) : List PyData → DS → Out
  | [], ds => .nx ds
  | x :: xs, ds => match tgD k x ds with
    | .ok ds1 => (match b ds1 with
      | .nx ds2 => forGo k b xs ds2
      | .ct ds2 => forGo k b xs ds2
      | .bk ds2 => .nx ds2
      | o => o)
    | _ => .bad
def forS (fi : DS → R (List PyData)) (k : TgK) (b : DS → Out) : DS → Out := fun ds => match fi ds with
  | .bad => .bad
  | .err x => .err x
  | .ok items => forGo k b items ds
theorem t_for {K : PySem.W.Frag} {fi : DS → R (List PyData)} {k : TgK} {b : DS → Out} {D : Ends} {σ : L2.St} {H : Hp} (h : qS K c (forS fi k b) D σ H) : tFor (qI K c fi) (tgT K k) (qS K c b) D σ H := by
  obtain ⟨ds, F, s, w⟩ := h
  refine ⟨ds, F, s, ?_⟩
  unfold forS at w
  cases hf : fi ds with
  | bad => rw [hf] at w; exact w
  | err x => rw [hf] at w; exact w
  | ok items =>
    rw [hf] at w
    intro J F1 H1 g1 wk
    refine ⟨fun i m σ' H' => m = items.length - i ∧ i ≤ items.length ∧ ∃ ds' F', Stt K c F' H' σ' ds' ∧ Same F1 F' ∧ wS K c F1 D (forGo k b (items.drop i) ds'), ⟨items.length, by simp, Nat.zero_le _, ds, F1, s.grow g1, .refl _, wS_mono g1.ff w⟩, ?_⟩
    rintro i m σ' H' ⟨rfl, hi, ds', F', s', f', w'⟩
    by_cases hlt : i < items.length
    · have ed : items.drop i = items[i] :: items.drop (i + 1) := List.drop_eq_getElem_cons hlt
      have ei : items[i]? = some items[i] := List.getElem?_eq_getElem hlt
      obtain ⟨go, yl⟩ := wk.go i F' H' _ f' s'.fh ei
      rw [ed] at w'
      unfold forGo at w'
      cases ht : tgD k items[i] ds' with
      | bad => simp only [ht] at w'; exact w'.elim
      | err x => simp only [ht] at w'; exact w'.elim
      | ok ds1 =>
        simp only [ht] at w'
        refine .inr ⟨go, fun σ2 H2 => ∃ ds2 F2, Stt K c F2 H2 σ2 ds2 ∧ Same F1 F2 ∧ wS K c F1 D (forGo k b (items.drop (i + 1)) ds2), fun σ2 H2 ⟨ds2, F2, s2, f2, w2⟩ => ⟨items.length - (i + 1), by omega, rfl, hlt, ds2, F2, s2, f2, w2⟩, fun x H2 y => ?_⟩
        obtain ⟨F2, g2, q2⟩ := yl x H2 y
        obtain ⟨σ3, k1, s3, _⟩ := tg_run (s'.grow g2) q2 ht
        refine k1 _ ⟨ds1, F2, s3, ?_⟩
        have f2 : Same F1 F2 := f'.trans g2.ff
        cases hb : b ds1 with
        | bad => simp only [hb] at w'; exact w'.elim
        | nx ds2 =>
          simp only [hb] at w'
          exact fun σ4 F4 H4 f4 s4 => ⟨ds2, F4, s4, f2.trans f4, w'⟩
        | ct ds2 =>
          simp only [hb] at w'
          exact fun σ4 F4 H4 f4 s4 => ⟨ds2, F4, s4, f2.trans f4, w'⟩
        | bk ds2 =>
          simp only [hb] at w'
          exact fun σ4 F4 H4 f4 s4 => w' σ4 F4 H4 (f2.trans f4) s4
        | rt d => simp only [hb] at w'; exact w'
        | err x => simp only [hb] at w'; exact w'
    · have e : i = items.length := by omega
      subst e
      rw [List.drop_length] at w'
      exact .inl ⟨wk.stop _ F' H' f' s'.fh (Nat.le_refl _), w' σ' F' H' f' s'⟩
theorem d_for {iter : Expr} {body : List Stmt} {fi : DS → R (List PyData)} {k : TgK} {gb : DS → Out} (hp : PassesOwn (model X.prog X.w) X.A X.env X.xe) (hc : X.calm = true) (hi : PI X tg iter (qI X.K c fi)) (hg : PG X tg (tgT X.K k)) (hb : PSs X body (qS X.K c gb)) (hs : ∀ x, foldedSetIterable iter X.env x = pure x := by intro _; rfl) :
    PS X (.For tg iter body [] pos) (qS X.K c (forS fi k gb)) := ps_imp (ps_for hp hc hi hg hb hs) fun D σ H h => t_for h
/-! while -/
def whGo (ft : DS → R Bool) (b : DS → Out) : Nat → DS → Out
  | 0, _ => .bad
  | n + 1, ds => toB (ft ds) fun x => if x = true then (match b ds with
      | .nx ds2 => whGo ft b n ds2
      | .ct ds2 => whGo ft b n ds2
      | .bk ds2 => .nx ds2
      | o => o) else .nx ds
theorem t_wh {K : PySem.W.Frag} {n : Nat} {ft : DS → R Bool} {b : DS → Out} {D : Ends} {σ : L2.St} {H : Hp} (h : qS K c (whGo ft b n) D σ H) : tWhile (qB K c ft) (qS K c b) D σ H := by
  obtain ⟨ds, F, s, w⟩ := h
  refine ⟨fun m σ' H' => ∃ ds' F', Stt K c F' H' σ' ds' ∧ wS K c F' D (whGo ft b m ds'), ⟨n, ds, F, s, w⟩, ?_⟩
  rintro m σ' H' ⟨ds', F', s', w'⟩
  cases m with
  | zero => exact w'.elim
  | succ m =>
    unfold whGo at w'
    refine ⟨ds', F', s', wB_toB w' fun d F1 H1 g1 w1 => ?_⟩
    cases d with
    | false =>
      rw [if_neg Bool.false_ne_true] at w1 ⊢
      exact w1 σ' F1 H1 (.refl _) (s'.grow g1)
    | true =>
      rw [if_pos rfl] at w1 ⊢
      refine ⟨fun σ2 H2 => ∃ ds2 F2, Stt K c F2 H2 σ2 ds2 ∧ wS K c F2 D (whGo ft b m ds2), fun σ2 H2 ⟨ds2, F2, s2, w2⟩ => ⟨m, Nat.lt_succ_self m, ds2, F2, s2, w2⟩, ds', F1, s'.grow g1, ?_⟩
      cases hb : b ds' with
      | bad => simp only [hb] at w1; exact w1.elim
      | nx ds2 =>
        simp only [hb] at w1
        exact fun σ4 F4 H4 f4 s4 => ⟨ds2, F4, s4, wS_mono f4 w1⟩
      | ct ds2 =>
        simp only [hb] at w1
        exact fun σ4 F4 H4 f4 s4 => ⟨ds2, F4, s4, wS_mono f4 w1⟩
      | bk ds2 =>
        simp only [hb] at w1
        exact fun σ4 F4 H4 f4 s4 => w1 σ4 F4 H4 f4 s4
      | rt d => simp only [hb] at w1; exact w1
      | err x => simp only [hb] at w1; exact w1
theorem d_wh (n : Nat) {body : List Stmt} {ft : DS → R Bool} {gb : DS → Out} (hp : PassesOwn (model X.prog X.w) X.A X.env X.xe) (hc : PT X cc (qB X.K c ft)) (hb : PSs X body (qS X.K c gb)) : PS X (.While cc body [] pos) (qS X.K c (whGo ft gb n)) := ps_imp (ps_while hp hc hb) fun D σ H h => t_wh h
/-! raise X('..') -/
def errS (x : Str) : DS → Out := fun _ => .err x
theorem d_raise {x m : Str} {j : Nat} {p p2 cpos : Pos} (hc : X.calm = true) (tk : Takes X (fun cls d _ H => c.E cls d H)) (q : PySem.W.excIn X.K (c.cl x) [.type "ValueError", .type "Exception", .type "BaseException", .type "object"] "ValueError.__new__" = true) (gC : X.mg x = some (.ref (c.cl x))) (kC : PySem.W.keepIn X.K (.ref (c.cl x)) = true)
    (h1 : PySem.W.subIn X.K (.ref (c.cl x)) (.type "BaseException") = some true) (h2 : PySem.W.typeIn X.K (.ref (c.cl x)) = some (.type "type")) (hg : Gl X x := by rfl) (hdb : (x == ("__debug__" : Str)) = false := by decide) :
    PS X (.Raise (some (.Call (.Name x p) [.Constant (.str m) j p2] [] cpos)) none pos) (qS X.K c (errS x)) :=
  ps_imp (ps_raise hc tk (pmk_own PySem.F.excBase_ValueError q gC kC (raises_own h1 h2) hg hdb)) fun D σ H ⟨ds, F, s, w⟩ => w H s.gr.hh
/-! ### defs -/
def spS (K : PySem.W.Frag) (cl : Str → Addr) (ms : List Bool) (f : List PyData → R PyData) : Sp := fun vs H Q E => ∃ F ds, Same F H ∧ AOk K F H ms vs ds ∧ match f ds with
  | .bad => False
  | .ok d => ∀ v F' H', Grow F H F' H' → Dq K F' v d → Q v H'
  | .err x => ∀ H', Same H H' → E (.ref (cl x)) none H'
def startS (n : Nat) : List Bool → List PyData → DS
  | true :: ms, d :: ds => .bw d :: startS (n - 1) ms ds
  | false :: ms, d :: ds => .im d :: startS (n - 1) ms ds
  | _, _ => List.replicate n .no
def bodyS (n : Nat) (ms : List Bool) (g : DS → Out) : List PyData → R PyData := fun args => match g (startS n ms args) with
  | .nx _ => .ok .none
  | .rt d => .ok d
  | .err x => .err x
  | _ => .bad
theorem start_get {K : PySem.W.Frag} {c : Bk} {F : Hp} : ∀ {ms : List Bool} {vs : List V} {ds : List PyData} {n : Nat}, AOk K F c.H0 ms vs ds → ms.length ≤ n → (vs.map some ++ List.replicate (n - vs.length) none : L2.St).length = (startS n ms ds).length ∧
    (∀ (i : Nat) (s : Sl), (startS n ms ds)[i]? = some s → SlOk K c F c.H0 (vs.map some ++ List.replicate (n - vs.length) none : L2.St)[i]? s) ∧ ∀ (i : Nat) (d : PyData), (startS n ms ds)[i]? ≠ some (.ow d)
  | [], [], [], n, _, _ => by
    refine ⟨by simp [startS], fun i s h => ?_, fun i d h => ?_⟩
    · have e : s ∈ List.replicate n Sl.no := List.mem_of_getElem? h
      rw [List.mem_replicate] at e
      rw [e.2]
      trivial
    · have e : Sl.ow d ∈ List.replicate n Sl.no := List.mem_of_getElem? h
      rw [List.mem_replicate] at e
      cases e.2
  | true :: ms, v :: vs, d :: ds, 0, _, h => by simp at h
  | false :: ms, v :: vs, d :: ds, 0, _, h => by simp at h
  | true :: ms, v :: vs, d :: ds, n + 1, ⟨a, b⟩, h => by
    obtain ⟨k1, k2, k3⟩ := start_get (n := n) b (by simpa using h)
    have e : n + 1 - (v :: vs).length = n - vs.length := by simp
    rw [e]
    refine ⟨by simpa [startS] using k1, fun i s q => ?_, fun i z q => ?_⟩
    · cases i with
      | zero =>
        cases q
        exact ⟨v, rfl, a⟩
      | succ i => exact k2 i s q
    · cases i with
      | zero => cases q
      | succ i => exact k3 i z q
  | false :: ms, v :: vs, d :: ds, n + 1, ⟨a, b⟩, h => by
    obtain ⟨k1, k2, k3⟩ := start_get (n := n) b (by simpa using h)
    have e : n + 1 - (v :: vs).length = n - vs.length := by simp
    rw [e]
    refine ⟨by simpa [startS] using k1, fun i s q => ?_, fun i z q => ?_⟩
    · cases i with
      | zero =>
        cases q
        exact ⟨v, rfl, a⟩
      | succ i => exact k2 i s q
    · cases i with
      | zero => cases q
      | succ i => exact k3 i z q
  | [], [], _ :: _, _, z, _ => z.elim
  | [], _ :: _, _, _, z, _ => z.elim
  | true :: _, [], _, _, z, _ => z.elim
  | false :: _, [], _, _, z, _ => z.elim
  | true :: _, _ :: _, [], _, z, _ => z.elim
  | false :: _, _ :: _, [], _, z, _ => z.elim
theorem stt_start {K : PySem.W.Frag} {c : Bk} {N : List Str} {ms : List Bool} {vs : List V} {ds : List PyData} (f : Same c.F0 c.H0) (h : AOk K c.F0 c.H0 ms vs ds) (hl : ms.length ≤ N.length) : Stt K c c.F0 c.H0 (start N vs) (startS N.length ms ds) := by
  obtain ⟨k1, k2, k3⟩ := start_get h hl
  exact ⟨.refl f, k1, k2, fun i j p d e _ q => absurd q (k3 i d)⟩
section
variable {P : Program} {w : World} {K : PySem.W.Frag} {mg : Str → Option Value} {base : Heap} {x qual : Str} {params : Arguments} {body : List Stmt} {scope : Scope} {dvs : List V} {kws : List (Str × V)} {fA : Addr} {fd : FuncData}
/-- a def keeps the promise that its body is worth -/
theorem fn_mk {N ps : List Str} {k : Nat} {cl : Str → Addr} {ms : List Bool} {g : DS → Out} (F : FunD K x qual params body scope dvs kws fA fd) (S : FnScope N ps scope) (hm : ms.length = ps.length) (hl : ps.length ≤ N.length)
    (h : ∀ (cdv : Value) (A : Around) (outer : List PySem.Env) (s : Shared) (H : Hp) (E : XK) (F0 : Hp), Room k (A.deeper (envOfC qual scope s.heap.objs.size fA cdv)) →
      PSs (cxOf (L2.CX P w) P w K mg base N qual scope fA cdv A outer s H E) body (qS K ⟨F0, H, cl, E⟩ g)) : FnOk P w K mg base (L2.CX P w) (k + 1) fA fd ps (spS K cl ms (bodyS N.length ms g)) := by
  refine F.ok S (fun vs H Q E hs => ?_) (fun cdv A outer s H vs Q E hr hs => ?_)
  · obtain ⟨F0, ds, _, ha, _⟩ := hs
    rw [ha.len.1, hm]
  · obtain ⟨F0, ds, hF, ha, hw⟩ := hs
    refine ⟨_, h cdv A outer s H E F0 hr, startS N.length ms ds, F0, stt_start (c := ⟨F0, H, cl, E⟩) hF ha (by rw [hm]; exact hl), ?_⟩
    unfold bodyS at hw
    cases hg : g (startS N.length ms ds) with
    | bad => rw [hg] at hw; exact hw
    | nx ds' =>
      rw [hg] at hw
      exact fun σ F' H' f' s' => hw .non F' H' s'.gr .non
    | rt d => rw [hg] at hw; exact fun v F' H' g' q => hw v F' H' g' q
    | bk d => rw [hg] at hw; exact hw.elim
    | ct d => rw [hg] at hw; exact hw.elim
    | err z => rw [hg] at hw; exact hw
end
/-! ### calls -/
variable {k : Nat} {fA : Addr} {fd : FuncData} {ps : List Str} {x : Str} {p : Pos} {es : List Expr} {ms md : List Bool} {fr : DS → R (List PyData)} {fn : List PyData → R PyData} {dvs : List V} {dds : List PyData} {dvl : List Value}
def callS (fr : DS → R (List PyData)) (fn : List PyData → R PyData) (dds : List PyData) : ES := fun ds => fr ds >>= fun r => fn (r ++ dds)
theorem AOk.append {K : PySem.W.Frag} {F H : Hp} : ∀ {ms ms' : List Bool} {vs vs' : List V} {ds ds' : List PyData}, AOk K F H ms vs ds → AOk K F H ms' vs' ds' → AOk K F H (ms ++ ms') (vs ++ vs') (ds ++ ds')
  | [], _, [], _, [], _, _, h => h
  | true :: _, _, _ :: _, _, _ :: _, _, ⟨a, b⟩, h => ⟨a, AOk.append b h⟩
  | false :: _, _, _ :: _, _, _ :: _, _, ⟨a, b⟩, h => ⟨a, AOk.append b h⟩
  | [], _, [], _, _ :: _, _, z, _ => z.elim
  | [], _, _ :: _, _, _, _, z, _ => z.elim
  | true :: _, _, [], _, _, _, z, _ => z.elim
  | false :: _, _, [], _, _, _, z, _ => z.elim
  | true :: _, _, _ :: _, _, [], _, z, _ => z.elim
  | false :: _, _, _ :: _, _, [], _, z, _ => z.elim
theorem t_call {K : PySem.W.Frag} (hdd : ∀ F H, AOk K F H md dvs dds) {σ : L2.St} {H : Hp} {Q : VK} (h : qP K c (callS fr fn dds) σ H Q) : tCall (spS K c.cl (ms ++ md) fn) dvs c.E (qA K c ms fr) σ H Q := by
  obtain ⟨ds, F, s, w⟩ := h
  refine ⟨ds, F, s, ?_⟩
  unfold callS at w
  cases hf : fr ds with
  | bad => rw [hf] at w; exact w
  | err x => rw [hf] at w; exact w
  | ok r =>
    rw [hf, R.ok_bind] at w
    intro vs F1 H1 g1 q1
    refine ⟨F1, r ++ dds, g1.fh, q1.append (hdd F1 H1), ?_⟩
    cases hn : fn (r ++ dds) with
    | bad => rw [hn] at w; exact w
    | ok d => rw [hn] at w; exact fun v F2 H2 g2 q2 => w v F2 H2 (g1.trans g2) q2
    | err z => rw [hn] at w; exact fun H2 f2 => w H2 ((s.gr.hh.trans g1.hh).trans f2)
theorem d_call (F : FnOk X.prog X.w X.K X.mg X.base (L2.CX X.prog X.w) k fA fd ps (spS X.K c.cl (ms ++ md) fn)) (hr : Room k X.A) (hm : X.mg x = some (.ref fA)) (hk : PySem.W.keepIn X.K (.ref fA) = true) (hb : Binds X.K fd ps dvl) (hd : Vals dvs dvl) (hdd : ∀ F H, AOk X.K F H md dvs dds) (hx : Passes (L2.CX X.prog X.w) X c.E)
    (ha : PA X (e :: es) (qA X.K c ms fr)) (hg : Gl X x := by rfl) (hdb : (x == ("__debug__" : Str)) = false := by decide) (he : starEach (e :: es) X.env = (false, eval e X.env) :: starEach es X.env := by rfl) (hpl : (backTo pos (starEach es X.env)).any (·.1) = false := by rfl) :
    PE X (.Call (.Name x p) (e :: es) [] pos) (qP X.K c (callS fr fn dds)) := pe_imp (pe_call F hr hg hm hk hb hd hx ha hdb he hpl) fun _ _ _ h => t_call hdd h
/-- the common one: all parameters given -/
theorem d_cl (F : FnOk X.prog X.w X.K X.mg X.base (L2.CX X.prog X.w) k fA fd ps (spS X.K c.cl ms fn)) (hr : Room k X.A) (hm : X.mg x = some (.ref fA)) (hk : PySem.W.keepIn X.K (.ref fA) = true) (hb : Binds X.K fd ps []) (hx : Passes (L2.CX X.prog X.w) X c.E)
    (ha : PA X (e :: es) (qA X.K c ms fr)) (hg : Gl X x := by rfl) (hdb : (x == ("__debug__" : Str)) = false := by decide) (he : starEach (e :: es) X.env = (false, eval e X.env) :: starEach es X.env := by rfl) (hpl : (backTo pos (starEach es X.env)).any (·.1) = false := by rfl) :
    PE X (.Call (.Name x p) (e :: es) [] pos) (qP X.K c (callS fr fn [])) := by
  refine d_call (md := []) (dvs := []) ?_ hr hm hk hb .nil (fun _ _ => trivial) hx ha hg hdb he hpl
  rw [List.append_nil]
  exact F
/-- f(e, .., k = v, ..) -/
def callK (fr fk : DS → R (List PyData)) (fn : List PyData → R PyData) : ES := fun ds => fr ds >>= fun r => fk ds >>= fun q => fn (r ++ q)
theorem pk_imp {kws : List Keyword} {t t' : TA} (h : PK X kws t) (i : ∀ σ H Q, t' σ H Q → t σ H Q) : PK X kws t' := ⟨fun p pins s σ H Q I q => h.run p pins s σ H Q I (i σ H Q q)⟩
theorem d_k0 : PK X [] (qA X.K c [] nilA) := pk_imp pk_nil fun σ H Q ⟨ds, F, s, w⟩ => w [] F H (.refl s.fh) trivial
theorem d_kP {kws : List Keyword} {nm : Option Str} {kpos : Pos} (h : PE X e (qP X.K c f)) (hr : PK X kws (qA X.K c ms fr)) : PK X (⟨nm, e, kpos⟩ :: kws) (qA X.K c (false :: ms) (consA f fr)) := by
  refine pk_imp (pk_cons h hr) fun σ H Q hq => ?_
  obtain ⟨ds, F, s, w⟩ := hq
  refine ⟨ds, F, s, ?_⟩
  unfold consA at w
  cases hf : f ds with
  | bad => rw [hf] at w; exact w
  | err x => rw [hf] at w; exact w
  | ok d =>
    rw [hf, R.ok_bind] at w
    intro v F1 H1 g1 q1
    refine ⟨ds, F1, s.grow g1, ?_⟩
    cases hg : fr ds with
    | bad => rw [hg] at w; exact w
    | err x => rw [hg] at w; exact w
    | ok r =>
      rw [hg, R.ok_bind] at w
      intro vs F2 H2 g2 q2
      exact w (v :: vs) F2 H2 (g1.trans g2) ⟨q1.mono g2.ff, q2⟩
theorem d_clK {kws : List Keyword} {ks : List Str} {mk : List Bool} {fk : DS → R (List PyData)} (F : FnOk X.prog X.w X.K X.mg X.base (L2.CX X.prog X.w) k fA fd ps (spS X.K c.cl (ms ++ mk) fn)) (hr : Room k X.A) (hm : X.mg x = some (.ref fA)) (hk : PySem.W.keepIn X.K (.ref fA) = true)
    (hb : KBn X.K fd ps ms.length ks (fun us ws => us ++ ws) (fun vs zs => vs ++ zs)) (hx : Passes (L2.CX X.prog X.w) X c.E) (ha : PA X (e :: es) (qA X.K c ms fr)) (hkw : PK X kws (qA X.K c mk fk)) (hmk : mk.length = ks.length := by rfl) (hg : Gl X x := by rfl)
    (hall : (backToKw pos (keywordEach kws X.env)).all (·.1.isSome) = true := by rfl) (hks : (backToKw pos (keywordEach kws X.env)).filterMap (·.1) = ks := by rfl)
    (hdb : (x == ("__debug__" : Str)) = false := by decide) (he : starEach (e :: es) X.env = (false, eval e X.env) :: starEach es X.env := by rfl)
    (hpl : ((backTo pos (starEach (e :: es) X.env)).any (·.1) || (backToKw pos (keywordEach kws X.env)).any (·.1.isNone)) = false := by rfl) :
    PE X (.Call (.Name x p) (e :: es) kws pos) (qP X.K c (callK fr fk fn)) := by
  refine pe_imp (pe_callN F hr hg hm hk hb hx ha hkw hall hks hdb he hpl) fun σ H Q h => ?_
  obtain ⟨ds, F, s, w⟩ := h
  refine ⟨ds, F, s, ?_⟩
  unfold callK at w
  cases hf : fr ds with
  | bad => rw [hf] at w; exact w
  | err x => rw [hf] at w; exact w
  | ok r =>
    rw [hf, R.ok_bind] at w
    intro vs F1 H1 g1 q1
    refine ⟨ds, F1, s.grow g1, ?_⟩
    cases hfk : fk ds with
    | bad => rw [hfk] at w; exact w
    | err x => rw [hfk] at w; exact w
    | ok r2 =>
      rw [hfk, R.ok_bind] at w
      intro vs2 F2 H2 g2 q2
      refine ⟨q1.len.1, q2.len.1.trans hmk, F2, r ++ r2, g2.fh, (q1.mono g2.ff g2.hh).append q2, ?_⟩
      cases hn : fn (r ++ r2) with
      | bad => rw [hn] at w; exact w
      | ok d => rw [hn] at w; exact fun v F3 H3 g3 q3 => w v F3 H3 ((g1.trans g2).trans g3) q3
      | err z => rw [hn] at w; exact fun H3 f3 => w H3 (((s.gr.hh.trans g1.hh).trans g2.hh).trans f3)
/-! binding of defs with defaults -/
theorem binds_full {K : PySem.W.Frag} {qual : Str} {params : Arguments} {body : List Stmt} {scope : Scope} {dvs : List V} {kws : List (Str × V)} (F : FunD K x qual params body scope dvs kws fA fd) (hd : dvs ≠ [])
    (h : ∀ (T : Addr) (kV doc pm : Value) (an : Option Addr) (cdv ct : Value) (us its : List Value), us.length = ps.length → its.length = dvs.length →
      ∃ k, bindArgs (PySem.W.fnOf x qual params body scope (.ref T) kV doc pm an cdv ct) ⟨us, []⟩ = seqItems? (.ref T) >>= k ∧ k (some its.toArray) = pure (ps.zip us)) : Binds K fd ps [] := by
  obtain ⟨ds, hv, hb⟩ := F.binds1 (ps := ps) ps.length dvs.length hd (by omega) (fun T kV doc pm an cdv ct us its h1 h2 => by
    obtain ⟨k, e1, e2⟩ := h T kV doc pm an cdv ct us its h1 h2
    refine ⟨k, e1, ?_⟩
    rw [e2, List.drop_eq_nil_of_le (by omega), List.append_nil])
  rw [List.drop_eq_nil_of_le (Nat.le_refl _)] at hv
  cases hv
  exact hb
theorem kbn_of {K : PySem.W.Frag} {qual : Str} {params : Arguments} {body : List Stmt} {scope : Scope} {dvs : List V} {kws : List (Str × V)} (F : FunD K x qual params body scope dvs kws fA fd) (n : Nat) (ks : List Str) (hd : dvs ≠ [])
    (h : ∀ (T : Addr) (kV doc pm : Value) (an : Option Addr) (cdv ct : Value) (us its ws : List Value), us.length = n → its.length = dvs.length → ws.length = ks.length →
      ∃ k, bindArgs (PySem.W.fnOf x qual params body scope (.ref T) kV doc pm an cdv ct) ⟨us, ks.zip ws⟩ = seqItems? (.ref T) >>= k ∧ k (some its.toArray) = pure (ps.zip (us ++ ws))) : KBn K fd ps n ks (fun us ws => us ++ ws) (fun vs zs => vs ++ zs) := by
  obtain ⟨oc, od, dV, kV, doc, pm, an, cdv, ct, osl, rfl, lk, hcd, hD, hK⟩ := F.ex
  rcases hD with ⟨e, _⟩ | ⟨_, T, o, its, m, rfl, lT, oT, rT⟩
  · exact absurd e hd
  · refine ⟨fun s us ws X l1 l2 => ?_, fun r1 r2 => r1.append r2⟩
    obtain ⟨k, e1, e2⟩ := h T kV doc pm an cdv ct us its ws l1 rT.length.symm l2
    refine BindsTo.of_looks fun M => ?_
    rw [e1]
    exact looks_items X lT oT (.of_pure e2)
/-! further small rules -/
def negD : PyData → R PyData
  | .int i => .ok (.int (-i))
  | _ => .bad
theorem d_neg (ha : PE X a (qT X.K c fa)) : PE X (.UnaryOp .USub a pos) (qP X.K c (op1 negD fa)) := by
  refine pe_imp (pe_un un_neg ha) fun σ H Q h => ?_
  obtain ⟨ds, F, s, w⟩ := h
  refine ⟨ds, F, s, wT_bind w fun d v F1 H1 g1 q1 w1 => ?_⟩
  cases q1 with
  | int i => exact ⟨i, rfl, w1 _ F1 H1 (.refl g1.fh) (.int _)⟩
  | _ => exact w1.elim
/-- xs[a:b] of a list -/
def cutL {α : Type} (xs : List α) (lo hi : Option Int) : List α := (xs.drop (HT.sIx xs.length 0 lo)).take (HT.sIx xs.length xs.length hi - HT.sIx xs.length 0 lo)
def wO (c : Bk) (F H : Hp) (Q : Option Int → Hp → Prop) : R (Option Int) → Prop
  | .bad => False
  | .ok b => ∀ F' H', Grow F H F' H' → Q b H'
  | .err x => wErr c x
def qO (K : PySem.W.Frag) (c : Bk) (f : DS → R (Option Int)) : TO := fun σ H Q => ∃ ds F, Stt K c F H σ ds ∧ wO c F H Q (f ds)
def noO : DS → R (Option Int) := fun _ => .ok none
def someO (f : ES) : DS → R (Option Int) := fun ds => f ds >>= fun d => match d with
  | .int i => .ok (some i)
  | _ => .bad
theorem po_imp {o : Option Expr} {t t' : TO} (h : PO X o t) (i : ∀ σ H Q, t' σ H Q → t σ H Q) : PO X o t' := ⟨fun pins s σ H Q I q => h.run pins s σ H Q I (i σ H Q q)⟩
theorem d_o0 : PO X none (qO X.K c noO) := po_imp po_none fun σ H Q ⟨ds, F, s, w⟩ => w F H (.refl s.fh)
theorem d_o1 (h : PE X e (qT X.K c f)) : PO X (some e) (qO X.K c (someO f)) := po_imp (po_some h) fun σ H Q ⟨ds, F, s, w⟩ => ⟨ds, F, s, by
  unfold someO at w
  cases hf : f ds with
  | bad => rw [hf] at w; exact w
  | err x => rw [hf] at w; exact w
  | ok d =>
    rw [hf, R.ok_bind] at w
    intro v F1 H1 g1 q1
    cases q1 with
    | int i => exact ⟨i, rfl, w F1 H1 g1⟩
    | _ => exact w.elim⟩
def slL (fa : ES) (lo hi : DS → R (Option Int)) : ES := fun ds => fa ds >>= fun d => lo ds >>= fun l => hi ds >>= fun h => match d with
  | .list xs => .ok (.list (cutL xs l h))
  | _ => .bad
theorem cut_dq {K : PySem.W.Frag} {F : Hp} {vs : List V} {ds : List PyData} (h : DqAll K F vs ds) (l u : Option Int) : DqAll K F (cutV vs l u) (cutL ds l u) := by
  unfold cutV cutL
  rw [h.length]
  exact (h.drop _).take _
theorem d_slL {lo hi : Option Expr} {fl fh : DS → R (Option Int)} {p2 : Pos} (ha : PE X a (qP X.K c fa)) (hl : PO X lo (qO X.K c fl)) (hh : PO X hi (qO X.K c fh)) : PE X (.Subscript a (.Slice lo hi none p2) pos) (qN X.K c (slL fa fl fh)) := by
  refine pe_imp (pe_slice sl_list ha hl hh) fun σ H Q h => ?_
  obtain ⟨ds, F, s, w⟩ := h
  refine ⟨ds, F, s, ?_⟩
  unfold slL at w
  cases hf : fa ds with
  | bad => rw [hf] at w; exact w
  | err x => rw [hf] at w; exact w
  | ok d =>
    rw [hf, R.ok_bind] at w
    intro v F1 H1 g1 q1
    refine ⟨ds, F1, s.grow g1, ?_⟩
    cases hfl : fl ds with
    | bad => rw [hfl] at w; exact w
    | err x => rw [hfl] at w; exact w
    | ok l =>
      rw [hfl, R.ok_bind] at w
      intro F2 H2 g2
      refine ⟨ds, F2, (s.grow g1).grow g2, ?_⟩
      cases hfh : fh ds with
      | bad => rw [hfh] at w; exact w
      | err x => rw [hfh] at w; exact w
      | ok u =>
        rw [hfh, R.ok_bind] at w
        intro F3 H3 g3
        cases d with
        | list xs =>
          have q3 := (q1.mono g2.ff).mono g3.ff
          cases q3 with
          | lst hs hd =>
            refine ⟨_, _, rfl, g3.fh.seq hs, fun p hp => ?_⟩
            exact w p F3 _ (((g1.trans g2).trans g3).trans (.own g3.fh hp)) (((g1.trans g2).trans g3).hh.free hp) (g3.fh.free hp) ⟨_, upd_same, cut_dq hd l u⟩
        | _ => exact w.elim
/-! the law's own end -/
theorem fn_calm {P : Program} {w : World} {K : PySem.W.Frag} {mg : Str → Option Value} {base : Heap} {sp : Sp} (F : FnOk P w K mg base (L2.CX P w) k fA fd ps sp) : FnOk P w K mg base CX0 k fA fd ps (fun vs H Q _ => sp vs H Q fun _ _ _ => False) :=
  ⟨fun vs H Q E h => F.len vs H Q _ h, fun A outer s H args us vs Q E hr he hb hv h => codeAny_mono (F.run A outer s H args us vs Q _ hr he hb hv h) fun r s' q => by
    cases r with
    | error e =>
      obtain ⟨_, _, _, _, _, _, _, _, _, _, _, _, z⟩ := q
      exact z.elim
    | ok fl => cases fl <;> exact q⟩
theorem law_sp {K : PySem.W.Frag} {cl : Str → Addr} {V : List PyData → R PyData} {ns : List Int} {H : Hp} {aA : Addr} (main : V [.list (ns.map .int)] = .ok (.bool true)) (h : SqL K H aA (ns.map L2.V.int)) :
    spS K cl [false] V [.ref aA] H (fun v _ => v = .bl true) fun _ _ _ => False := by
  refine ⟨H, [.list (ns.map .int)], .refl H, ⟨.lst h (dqInts ns), trivial⟩, ?_⟩
  rw [main]
  intro v F' H' g q
  cases q
  rfl
end
end Cb
namespace Cb
open PySem PySem.Spec PyProof.Rows L2
def g_is_number_1 : DS → Out := (retS (andV (isiS "int" (vP 0)) (andV (notV (isiS "bool" (vP 0))) (chI leI leI (vP 1) (vP 0) (vP 2)))))
def g_is_number : DS → Out := g_is_number_1
def V_is_number : List PyData → R PyData := bodyS 3 [false, false, false] g_is_number
def g_look_number_1t_1 : DS → Out := (errS "NoNumber")
def g_look_number_1 : DS → Out := (ifS (notB (bS (callS (consA (vP 0) (consA (vP 1) (consA (vP 2) nilA))) V_is_number []))) g_look_number_1t_1 nxS)
def g_look_number : DS → Out := g_look_number_1
def V_look_number : List PyData → R PyData := bodyS 3 [false, false, false] g_look_number
def g_is_row_1t_1 : DS → Out := (retS (cS (.bool false)))
def g_is_row_1 : DS → Out := (ifS (orB (notB (bS (isiS "tuple" (vP 0)))) (bS (op2 neD (op1 lenD (vP 0)) (cS (.int 2))))) g_is_row_1t_1 nxS)
def g_is_row_2 : DS → Out := (retS (andV (callS (consA (op2 ixD (vP 0) (cS (.int 0))) (consA (cS (.int 0)) (consA (op2 subI (cS (.int 100)) (cS (.int 1))) nilA))) V_is_number []) (callS (consA (op2 ixD (vP 0) (cS (.int 1))) (consA (cS (.int 1)) (consA (cS (.int 99)) nilA))) V_is_number [])))
def g_is_row : DS → Out := (seqS g_is_row_1 g_is_row_2)
def V_is_row : List PyData → R PyData := bodyS 1 [false] g_is_row
def g_are_rows_1t_1 : DS → Out := (retS (cS (.bool false)))
def g_are_rows_1 : DS → Out := (ifS (orB (notB (bS (isiS "list" (vP 0)))) (orB (bS (op2 gtI (op1 lenD (vP 0)) (cS (.int 12)))) (notB (bS (op1 allD (lcS (itL (vP 0)) [1] (.nm 1) yesB (callS (consA (vP 1) nilA) V_is_row []))))))) g_are_rows_1t_1 nxS)
def g_are_rows_2 : DS → Out := (retS (op1 allD (lcS (itZ (vP 0) (slL (vP 0) (someO (cS (.int 1))) noO)) [2, 3] (.pr 2 3) yesB (op2 ltI (op2 ixD (vP 2) (cS (.int 0))) (op2 ixD (vP 3) (cS (.int 0)))))))
def g_are_rows : DS → Out := (seqS g_are_rows_1 g_are_rows_2)
def V_are_rows : List PyData → R PyData := bodyS 4 [false] g_are_rows
def g_look_rows_1t_1 : DS → Out := (errS "NoRows")
def g_look_rows_1 : DS → Out := (ifS (notB (bS (callS (consA (vP 0) nilA) V_are_rows []))) g_look_rows_1t_1 nxS)
def g_look_rows : DS → Out := g_look_rows_1
def V_look_rows : List PyData → R PyData := bodyS 1 [false] g_look_rows
def g_is_good_in_1 : DS → Out := (retS (chI leI ltI (vP 0) (vP 1) (op2 addI (vP 0) (vP 2))))
def g_is_good_in : DS → Out := g_is_good_in_1
def V_is_good_in : List PyData → R PyData := bodyS 3 [false, false, false] g_is_good_in
def g_taken_1 : DS → Out := (parNP 4 5 (lstS nilA) (vP 2))
def g_taken_2b_1 : DS → Out := (setS 7 (op2 minI (op2 dgetD (vT 0) (vP 6)) (vP 5)))
def g_taken_2b_2t_1 : DS → Out := (appS 4 (tupS (consA (vP 6) (consA (vP 7) nilA))))
def g_taken_2b_2t_2 : DS → Out := (setS 5 (op2 subI (vP 5) (vP 7)))
def g_taken_2b_2 : DS → Out := (ifS (andB (bS (callS (consA (vP 6) (consA (vP 1) (consA (vP 3) nilA))) V_is_good_in [])) (bS (op2 gtI (vP 7) (cS (.int 0))))) (seqS g_taken_2b_2t_1 g_taken_2b_2t_2) nxS)
def g_taken_2B : DS → Out := (seqS g_taken_2b_1 g_taken_2b_2)
def g_taken_2 : DS → Out := (forS (itL (op1 sortD (vT 0))) (.nm 6) g_taken_2B)
def g_taken_3 : DS → Out := (retS (vP 4))
def g_taken : DS → Out := (seqS g_taken_1 (seqS g_taken_2 (frzS 4 g_taken_3)))
def V_taken : List PyData → R PyData := bodyS 8 [true, false, false, false] g_taken
def g_serve_1 : DS → Out := (parNN 3 4 (op1 dictD (vP 0)) (lstS nilA))
def g_serve_2b_1b_1 : DS → Out := (dputS 3 (vP 7) (op2 subI (op2 dgetD (vT 3) (vP 7)) (vP 8)))
def g_serve_2b_1b_2 : DS → Out := (appS 4 (tupS (consA (vP 5) (consA (vP 7) (consA (vP 8) nilA)))))
def g_serve_2b_1B : DS → Out := (seqS g_serve_2b_1b_1 g_serve_2b_1b_2)
def g_serve_2b_1 : DS → Out := (forS (itL (callS (consA (vT 3) (consA (vP 5) (consA (vP 6) (consA (vP 2) nilA)))) V_taken [])) (.pr 7 8) g_serve_2b_1B)
def g_serve_2B : DS → Out := g_serve_2b_1
def g_serve_2 : DS → Out := (forS (itL (vP 1)) (.pr 5 6) g_serve_2B)
def g_serve_3 : DS → Out := (retS (vP 4))
def g_serve : DS → Out := (seqS g_serve_1 (seqS g_serve_2 (frzS 4 g_serve_3)))
def V_serve : List PyData → R PyData := bodyS 9 [false, false, false] g_serve
def g_look_all_1 : DS → Out := (exS (callS (consA (vP 0) nilA) V_look_rows []))
def g_look_all_2 : DS → Out := (exS (callS (consA (vP 1) nilA) V_look_rows []))
def g_look_all_3 : DS → Out := (exS (callS (consA (vP 2) (consA (cS (.int 1)) (consA (cS (.int 4)) nilA))) V_look_number []))
def g_look_all : DS → Out := (seqS g_look_all_1 (seqS g_look_all_2 g_look_all_3))
def V_look_all : List PyData → R PyData := bodyS 3 [false, false, false] g_look_all
def g_served_1 : DS → Out := (exS (callS (consA (vP 0) (consA (vP 1) (consA (vP 2) nilA))) V_look_all []))
def g_served_2 : DS → Out := (retS (callS (consA (vP 0) (consA (vP 1) (consA (vP 2) nilA))) V_serve []))
def g_served : DS → Out := (seqS g_served_1 g_served_2)
def V_served : List PyData → R PyData := bodyS 3 [false, false, false] g_served
def g__law_pick_1 : DS → Out := (setS 3 (ifE (bS (op2 neD (vP 0) (lstS nilA))) (op2 ixD (vP 0) (op2 modI (op1 intD (vP 1)) (op1 lenD (vP 0)))) (cS (.int 0))))
def g__law_pick_2 : DS → Out := (parPP 4 5 (op2 divI (vP 3) (op2 powI (cS (.int 10)) (cS (.int 18)))) (op2 divI (vP 1) (op2 maxI (op1 lenD (vP 0)) (cS (.int 1)))))
def g__law_pick_3b_1 : DS → Out := (parPP 4 5 (op2 divI (vP 4) (cS (.int 840))) (op2 subI (vP 5) (cS (.int 1))))
def g__law_pick_3B : DS → Out := g__law_pick_3b_1
def g__law_pick_3 : DS → Out := (whGo (andB (bS (op2 gtI (vP 4) (cS (.int 0)))) (bS (op2 gtI (vP 5) (cS (.int 0))))) g__law_pick_3B 100000)
def g__law_pick_4t_1 : DS → Out := (retS (op2 modI (op1 intD (op2 modI (op1 intD (vP 4)) (cS (.int 840)))) (vP 2)))
def g__law_pick_4 : DS → Out := (ifS (bS (op2 gtI (vP 4) (cS (.int 0)))) g__law_pick_4t_1 nxS)
def g__law_pick_5 : DS → Out := (setS 6 (op2 modI (op1 intD (op2 mulI (op2 addI (op2 mulI (vP 3) (cS (.int 31))) (op2 mulI (cS (.int 6151)) (op2 addI (vP 1) (cS (.int 1))))) (cS (.int 40692)))) (cS (.int 2147483399))))
def g__law_pick_6 : DS → Out := (retS (op2 modI (op1 intD (op2 modI (op1 intD (op2 addI (op2 mulI (vP 6) (vP 6)) (op2 divI (vP 6) (cS (.int 31))))) (cS (.int 2147483629)))) (vP 2)))
def g__law_pick : DS → Out := (seqS g__law_pick_1 (seqS g__law_pick_2 (seqS g__law_pick_3 (seqS g__law_pick_4 (seqS g__law_pick_5 g__law_pick_6)))))
def V__law_pick : List PyData → R PyData := bodyS 7 [false, false, false] g__law_pick
def g__law_rows_1 : DS → Out := (setN 2 (lstS nilA))
def g__law_rows_2b_1t_1 : DS → Out := (appS 2 (tupS (consA (vP 3) (consA (op2 addI (cS (.int 1)) (callS (consA (vP 0) (consA (op2 addI (op2 addI (vP 1) (op2 mulI (cS (.int 2)) (vP 3))) (cS (.int 1))) (consA (cS (.int 5)) nilA))) V__law_pick [])) nilA))))
def g__law_rows_2b_1 : DS → Out := (ifS (bS (op2 gtI (callS (consA (vP 0) (consA (op2 addI (vP 1) (op2 mulI (cS (.int 2)) (vP 3))) (consA (cS (.int 3)) nilA))) V__law_pick []) (cS (.int 0)))) g__law_rows_2b_1t_1 nxS)
def g__law_rows_2B : DS → Out := g__law_rows_2b_1
def g__law_rows_2 : DS → Out := (forS (itR1 (cS (.int 6))) (.nm 3) g__law_rows_2B)
def g__law_rows_3 : DS → Out := (retS (vP 2))
def g__law_rows : DS → Out := (seqS g__law_rows_1 (seqS g__law_rows_2 (frzS 2 g__law_rows_3)))
def V__law_rows : List PyData → R PyData := bodyS 4 [false, false] g__law_rows
def g__law_taken_1 : DS → Out := (parNN 3 4 (op1 dictD (vP 0)) (lstS nilA))
def g__law_taken_2b_1 : DS → Out := (setS 7 (vP 6))
def g__law_taken_2b_2b_1 : DS → Out := (setS 9 (ifE (bS (chI leI ltI (vP 8) (vP 5) (op2 addI (vP 8) (vP 2)))) (op2 minI (vP 7) (op2 dgetD (vT 3) (vP 8))) (cS (.int 0))))
def g__law_taken_2b_2b_2t_1 : DS → Out := (appS 4 (tupS (consA (vP 5) (consA (vP 8) (consA (vP 9) nilA)))))
def g__law_taken_2b_2b_2t_2 : DS → Out := (dputS 3 (vP 8) (op2 subI (op2 dgetD (vT 3) (vP 8)) (vP 9)))
def g__law_taken_2b_2b_2t_3 : DS → Out := (setS 7 (op2 subI (vP 7) (vP 9)))
def g__law_taken_2b_2b_2 : DS → Out := (ifS (bS (op2 gtI (vP 9) (cS (.int 0)))) (seqS g__law_taken_2b_2b_2t_1 (seqS g__law_taken_2b_2b_2t_2 g__law_taken_2b_2b_2t_3)) nxS)
def g__law_taken_2b_2B : DS → Out := (seqS g__law_taken_2b_2b_1 g__law_taken_2b_2b_2)
def g__law_taken_2b_2 : DS → Out := (forS (itL (op1 sortD (vT 3))) (.nm 8) g__law_taken_2b_2B)
def g__law_taken_2B : DS → Out := (seqS g__law_taken_2b_1 g__law_taken_2b_2)
def g__law_taken_2 : DS → Out := (forS (itL (vP 1)) (.pr 5 6) g__law_taken_2B)
def g__law_taken_3 : DS → Out := (retS (vP 4))
def g__law_taken : DS → Out := (seqS g__law_taken_1 (seqS g__law_taken_2 (frzS 4 g__law_taken_3)))
def V__law_taken : List PyData → R PyData := bodyS 10 [false, false, false] g__law_taken
def g_law_1b_1 : DS → Out := (parPP 2 3 (callS (consA (vP 0) (consA (op2 mulI (cS (.int 30)) (vP 1)) nilA)) V__law_rows []) (callS (consA (vP 0) (consA (op2 addI (op2 mulI (cS (.int 30)) (vP 1)) (cS (.int 14))) nilA)) V__law_rows []))
def g_law_1b_2b_1t_1 : DS → Out := (retS (cS (.bool false)))
def g_law_1b_2b_1 : DS → Out := (ifS (bS (op2 neD (callK (consA (vP 2) (consA (vP 3) nilA)) (consA (vP 4) nilA) V_served) (callS (consA (vP 2) (consA (vP 3) (consA (vP 4) nilA))) V__law_taken []))) g_law_1b_2b_1t_1 nxS)
def g_law_1b_2B : DS → Out := g_law_1b_2b_1
def g_law_1b_2 : DS → Out := (forS (itR2 (cS (.int 1)) (cS (.int 5))) (.nm 4) g_law_1b_2B)
def g_law_1b_3t_1 : DS → Out := (retS (cS (.bool false)))
def g_law_1b_3 : DS → Out := (ifS (bS (op2 neD (callS (consA (vP 2) (consA (vP 3) nilA)) V_served [.int 1]) (callS (consA (vP 2) (consA (vP 3) (consA (cS (.int 1)) nilA))) V__law_taken []))) g_law_1b_3t_1 nxS)
def g_law_1B : DS → Out := (seqS g_law_1b_1 (seqS g_law_1b_2 g_law_1b_3))
def g_law_1 : DS → Out := (forS (itR1 (cS (.int 4))) (.nm 1) g_law_1B)
def g_law_2 : DS → Out := (setS 5 (lcS (itR2 (cS (.int 1)) (cS (.int 5))) [4] (.nm 4) yesB (callK (consA (lstS (consA (tupS (consA (cS (.int 0)) (consA (cS (.int 1)) nilA))) (consA (tupS (consA (cS (.int 1)) (consA (cS (.int 1)) nilA))) (consA (tupS (consA (cS (.int 2)) (consA (cS (.int 1)) nilA))) nilA)))) (consA (lstS (consA (tupS (consA (cS (.int 2)) (consA (cS (.int 2)) nilA))) nilA)) nilA)) (consA (vP 4) nilA) V_served)))
def g_law_3 : DS → Out := (retS (op2 eqD (vP 5) (lstS (consA (lstS (consA (tupS (consA (cS (.int 2)) (consA (cS (.int 2)) (consA (cS (.int 1)) nilA)))) nilA)) (consA (lstS (consA (tupS (consA (cS (.int 2)) (consA (cS (.int 1)) (consA (cS (.int 1)) nilA)))) (consA (tupS (consA (cS (.int 2)) (consA (cS (.int 2)) (consA (cS (.int 1)) nilA)))) nilA))) (consA (lstS (consA (tupS (consA (cS (.int 2)) (consA (cS (.int 0)) (consA (cS (.int 1)) nilA)))) (consA (tupS (consA (cS (.int 2)) (consA (cS (.int 1)) (consA (cS (.int 1)) nilA)))) nilA))) (consA (lstS (consA (tupS (consA (cS (.int 2)) (consA (cS (.int 0)) (consA (cS (.int 1)) nilA)))) (consA (tupS (consA (cS (.int 2)) (consA (cS (.int 1)) (consA (cS (.int 1)) nilA)))) nilA))) nilA)))))))
def g_law : DS → Out := (seqS g_law_1 (seqS g_law_2 g_law_3))
def V_law : List PyData → R PyData := bodyS 6 [false] g_law
end Cb
namespace Cb
open PySem PySem.Spec PyProof.Rows L2
def topS (i : Nat) : Stmt := PySem.Challenge.pw_couponbooks_k09_whole_oldest_first.main.body.getD i (.Pass ⟨0, 0, 0, 0⟩)
abbrev s_is_number : Stmt := topS 9
abbrev s_look_number : Stmt := topS 10
abbrev s_is_row : Stmt := topS 11
abbrev s_are_rows : Stmt := topS 12
abbrev s_look_rows : Stmt := topS 13
abbrev s_is_good_in : Stmt := topS 14
abbrev s_taken : Stmt := topS 16
abbrev s_serve : Stmt := topS 17
abbrev s_look_all : Stmt := topS 18
abbrev s_served : Stmt := topS 19
abbrev s__law_pick : Stmt := topS 21
abbrev s__law_rows : Stmt := topS 22
abbrev s__law_taken : Stmt := topS 23
abbrev s_law : Stmt := topS 24
structure Tx (K : PySem.W.Frag) (mg : Str → Option Value) : Prop where
  f_is_number : ∃ fd, FunD K "is_number" "is_number" (defArgs s_is_number) (defBody s_is_number) (defScope s_is_number) [] [] (He.ga K "is_number") fd
  g_is_number : mg "is_number" = some (.ref (He.ga K "is_number"))
  f_look_number : ∃ fd, FunD K "look_number" "look_number" (defArgs s_look_number) (defBody s_look_number) (defScope s_look_number) [] [] (He.ga K "look_number") fd
  g_look_number : mg "look_number" = some (.ref (He.ga K "look_number"))
  f_is_row : ∃ fd, FunD K "is_row" "is_row" (defArgs s_is_row) (defBody s_is_row) (defScope s_is_row) [] [] (He.ga K "is_row") fd
  g_is_row : mg "is_row" = some (.ref (He.ga K "is_row"))
  f_are_rows : ∃ fd, FunD K "are_rows" "are_rows" (defArgs s_are_rows) (defBody s_are_rows) (defScope s_are_rows) [] [] (He.ga K "are_rows") fd
  g_are_rows : mg "are_rows" = some (.ref (He.ga K "are_rows"))
  f_look_rows : ∃ fd, FunD K "look_rows" "look_rows" (defArgs s_look_rows) (defBody s_look_rows) (defScope s_look_rows) [] [] (He.ga K "look_rows") fd
  g_look_rows : mg "look_rows" = some (.ref (He.ga K "look_rows"))
  f_is_good_in : ∃ fd, FunD K "is_good_in" "is_good_in" (defArgs s_is_good_in) (defBody s_is_good_in) (defScope s_is_good_in) [] [] (He.ga K "is_good_in") fd
  g_is_good_in : mg "is_good_in" = some (.ref (He.ga K "is_good_in"))
  f_taken : ∃ fd, FunD K "taken" "taken" (defArgs s_taken) (defBody s_taken) (defScope s_taken) [] [] (He.ga K "taken") fd
  g_taken : mg "taken" = some (.ref (He.ga K "taken"))
  f_serve : ∃ fd, FunD K "serve" "serve" (defArgs s_serve) (defBody s_serve) (defScope s_serve) [] [] (He.ga K "serve") fd
  g_serve : mg "serve" = some (.ref (He.ga K "serve"))
  f_look_all : ∃ fd, FunD K "look_all" "look_all" (defArgs s_look_all) (defBody s_look_all) (defScope s_look_all) [] [] (He.ga K "look_all") fd
  g_look_all : mg "look_all" = some (.ref (He.ga K "look_all"))
  f_served : ∃ fd, FunD K "served" "served" (defArgs s_served) (defBody s_served) (defScope s_served) [.int 1] [] (He.ga K "served") fd
  g_served : mg "served" = some (.ref (He.ga K "served"))
  f__law_pick : ∃ fd, FunD K "_law_pick" "_law_pick" (defArgs s__law_pick) (defBody s__law_pick) (defScope s__law_pick) [] [] (He.ga K "_law_pick") fd
  g__law_pick : mg "_law_pick" = some (.ref (He.ga K "_law_pick"))
  f__law_rows : ∃ fd, FunD K "_law_rows" "_law_rows" (defArgs s__law_rows) (defBody s__law_rows) (defScope s__law_rows) [] [] (He.ga K "_law_rows") fd
  g__law_rows : mg "_law_rows" = some (.ref (He.ga K "_law_rows"))
  f__law_taken : ∃ fd, FunD K "_law_taken" "_law_taken" (defArgs s__law_taken) (defBody s__law_taken) (defScope s__law_taken) [] [] (He.ga K "_law_taken") fd
  g__law_taken : mg "_law_taken" = some (.ref (He.ga K "_law_taken"))
  f_law : ∃ fd, FunD K "law" "law" (defArgs s_law) (defBody s_law) (defScope s_law) [] [] (He.ga K "law") fd
  g_law : mg "law" = some (.ref (He.ga K "law"))
  b_all : mg "all" = none
  b_bool : mg "bool" = none
  b_dict : mg "dict" = none
  b_int : mg "int" = none
  b_isinstance : mg "isinstance" = none
  b_len : mg "len" = none
  b_list : mg "list" = none
  b_max : mg "max" = none
  b_min : mg "min" = none
  b_range : mg "range" = none
  b_sorted : mg "sorted" = none
  b_tuple : mg "tuple" = none
  b_zip : mg "zip" = none
  c_LONGEST_SPAN : ∃ t, mg "LONGEST_SPAN" = some (.int 4 t)
  c_MOST_IN_ROW : ∃ t, mg "MOST_IN_ROW" = some (.int 99 t)
  c_MOST_ROWS : ∃ t, mg "MOST_ROWS" = some (.int 12 t)
  c_WEEKS : ∃ t, mg "WEEKS" = some (.int 100 t)
  x_NoNumber : PySem.W.excIn K (He.ga K "NoNumber") [.type "ValueError", .type "Exception", .type "BaseException", .type "object"] "ValueError.__new__" = true ∧ PySem.W.keepIn K (.ref (He.ga K "NoNumber")) = true ∧ PySem.W.subIn K (.ref (He.ga K "NoNumber")) (.type "BaseException") = some true ∧ PySem.W.typeIn K (.ref (He.ga K "NoNumber")) = some (.type "type")
  g_NoNumber : mg "NoNumber" = some (.ref (He.ga K "NoNumber"))
  x_NoRows : PySem.W.excIn K (He.ga K "NoRows") [.type "ValueError", .type "Exception", .type "BaseException", .type "object"] "ValueError.__new__" = true ∧ PySem.W.keepIn K (.ref (He.ga K "NoRows")) = true ∧ PySem.W.subIn K (.ref (He.ga K "NoRows")) (.type "BaseException") = some true ∧ PySem.W.typeIn K (.ref (He.ga K "NoRows")) = some (.type "type")
  g_NoRows : mg "NoRows" = some (.ref (He.ga K "NoRows"))
section
variable {P : Program} {w : World} {K : PySem.W.Frag} {mg : Str → Option Value} {base : Heap}
theorem bnd_served {fd : FuncData} (F : FunD K "served" "served" (defArgs s_served) (defBody s_served) (defScope s_served) [.int 1] [] (He.ga K "served") fd) : Binds K fd ["coupons", "needs", "lifetime"] [] := binds_full F (by simp) fun T kV doc pm an cdv ct us its h1 h2 => match us, its, h1, h2 with | [_, _, _], [_], _, _ => ⟨_, rfl, rfl⟩
theorem bnd1_served {fd : FuncData} (F : FunD K "served" "served" (defArgs s_served) (defBody s_served) (defScope s_served) [.int 1] [] (He.ga K "served") fd) : ∃ ds, Vals [.int 1] ds ∧ Binds K fd ["coupons", "needs", "lifetime"] ds := F.binds1 (ps := ["coupons", "needs", "lifetime"]) 2 0 (by simp) (by decide) fun T kV doc pm an cdv ct us its h1 h2 => match us, its, h1, h2 with | [_, _], [_], _, _ => ⟨_, rfl, rfl⟩
theorem bnk_served {fd : FuncData} (F : FunD K "served" "served" (defArgs s_served) (defBody s_served) (defScope s_served) [.int 1] [] (He.ga K "served") fd) : KBn K fd ["coupons", "needs", "lifetime"] 2 ["lifetime"] (fun us ws => us ++ ws) (fun vs zs => vs ++ zs) := kbn_of F 2 ["lifetime"] (by simp) fun T kV doc pm an cdv ct us its ws h1 h2 h3 => match us, its, ws, h1, h2, h3 with | [_, _], [_], [_], _, _, _ => ⟨_, rfl, rfl⟩
abbrev N_is_number : List Str := ["thing", "least", "most"]
theorem sc_is_number : FnScope N_is_number ["thing", "least", "most"] (defScope s_is_number) := ⟨rfl, rfl, rfl, by decide +kernel, rfl, by decide +kernel, by decide +kernel⟩
theorem ok_is_number (T : Tx K mg) {fd : FuncData} (F : FunD K "is_number" "is_number" (defArgs s_is_number) (defBody s_is_number) (defScope s_is_number) [] [] (He.ga K "is_number") fd) : FnOk P w K mg base (L2.CX P w) 1 (He.ga K "is_number") fd ["thing", "least", "most"] (spS K (He.ga K) [false, false, false] V_is_number) := by
  refine fn_mk F sc_is_number rfl (by decide) fun cdv A outer s H E F0 hr => ?_
  have hu := hu_of hr
  exact (d_one (d_ret (d_andV (d_pt (d_isi (T := "int") (d_pt (d_v 0)) (by decide +kernel) T.b_isinstance T.b_int)) (d_andV (d_pt (d_notV (d_pt (d_isi (T := "bool") (d_pt (d_v 0)) (by decide +kernel) T.b_isinstance T.b_bool)))) (d_andV1 (d_ch op_le od_le op_le od_le (d_pt (d_v 1)) (d_pt (d_v 0)) (d_pt (d_v 2))))))))
abbrev N_look_number : List Str := ["thing", "least", "most"]
theorem sc_look_number : FnScope N_look_number ["thing", "least", "most"] (defScope s_look_number) := ⟨rfl, rfl, rfl, by decide +kernel, rfl, by decide +kernel, by decide +kernel⟩
theorem ok_look_number (T : Tx K mg) {fd : FuncData} (F : FunD K "look_number" "look_number" (defArgs s_look_number) (defBody s_look_number) (defScope s_look_number) [] [] (He.ga K "look_number") fd) : FnOk P w K mg base (L2.CX P w) 2 (He.ga K "look_number") fd ["thing", "least", "most"] (spS K (He.ga K) [false, false, false] V_look_number) := by
  obtain ⟨fd_is_number, F_is_number⟩ := T.f_is_number
  have G_is_number := ok_is_number (P := P) (w := w) (base := base) T F_is_number
  have b_is_number := F_is_number.bindsN (ps := ["thing", "least", "most"]) fun _ _ _ _ _ _ us hl => match us, hl with | [_, _, _], _ => rfl
  refine fn_mk F sc_look_number rfl (by decide) fun cdv A outer s H E F0 hr => ?_
  have hu := hu_of hr
  exact (d_one (d_if (d_not (d_valB (d_pt (d_cl G_is_number (hr.mono (by decide)) T.g_is_number F_is_number.kp b_is_number (passes_call (takes_of rfl rfl rfl rfl) fun _ _ _ _ h => h) (d_aP (d_v 0) (d_aP (d_v 1) (d_aP (d_v 2) d_a0))))))) (d_one (d_raise (x := "NoNumber") rfl (takes_of rfl rfl rfl rfl) T.x_NoNumber.1 T.g_NoNumber T.x_NoNumber.2.1 T.x_NoNumber.2.2.1 T.x_NoNumber.2.2.2)) d_nil))
abbrev N_is_row : List Str := ["thing"]
theorem sc_is_row : FnScope N_is_row ["thing"] (defScope s_is_row) := ⟨rfl, rfl, rfl, by decide +kernel, rfl, by decide +kernel, by decide +kernel⟩
theorem ok_is_row (T : Tx K mg) {fd : FuncData} (F : FunD K "is_row" "is_row" (defArgs s_is_row) (defBody s_is_row) (defScope s_is_row) [] [] (He.ga K "is_row") fd) : FnOk P w K mg base (L2.CX P w) 2 (He.ga K "is_row") fd ["thing"] (spS K (He.ga K) [false] V_is_row) := by
  obtain ⟨fd_is_number, F_is_number⟩ := T.f_is_number
  have G_is_number := ok_is_number (P := P) (w := w) (base := base) T F_is_number
  have b_is_number := F_is_number.bindsN (ps := ["thing", "least", "most"]) fun _ _ _ _ _ _ us hl => match us, hl with | [_, _, _], _ => rfl
  obtain ⟨_, c_MOST_IN_ROW⟩ := T.c_MOST_IN_ROW
  obtain ⟨_, c_WEEKS⟩ := T.c_WEEKS
  refine fn_mk F sc_is_row rfl (by decide) fun cdv A outer s H E F0 hr => ?_
  have hu := hu_of hr
  exact (d_cons (d_if (PW.pt (d_or (d_not (d_valB (d_pt (d_isi (T := "tuple") (d_pt (d_v 0)) (by decide +kernel) T.b_isinstance T.b_tuple)))) (d_or1 (d_cmpB (op_neD hr.units) od_ne (d_pt (d_len (d_pt (d_v 0)) T.b_len)) (d_pt d_int))))) (d_one (d_ret d_bl)) d_nil) (d_one (d_ret (d_andV (d_pt (d_cl G_is_number (hr.mono (by decide)) T.g_is_number F_is_number.kp b_is_number (passes_call (takes_of rfl rfl rfl rfl) fun _ _ _ _ h => h) (d_aP (d_ixP (d_v 0) (d_pt d_int)) (d_aP d_int (d_aP (d_sub (d_pt (d_gi c_WEEKS)) (d_pt d_int)) d_a0))))) (d_andV1 (d_cl G_is_number (hr.mono (by decide)) T.g_is_number F_is_number.kp b_is_number (passes_call (takes_of rfl rfl rfl rfl) fun _ _ _ _ h => h) (d_aP (d_ixP (d_v 0) (d_pt d_int)) (d_aP d_int (d_aP (d_gi c_MOST_IN_ROW) d_a0)))))))))
abbrev N_are_rows : List Str := ["thing", "row", "one", "other"]
theorem sc_are_rows : FnScope N_are_rows ["thing"] (defScope s_are_rows) := ⟨rfl, rfl, rfl, by decide +kernel, rfl, by decide +kernel, by decide +kernel⟩
theorem ok_are_rows (T : Tx K mg) {fd : FuncData} (F : FunD K "are_rows" "are_rows" (defArgs s_are_rows) (defBody s_are_rows) (defScope s_are_rows) [] [] (He.ga K "are_rows") fd) : FnOk P w K mg base (L2.CX P w) 3 (He.ga K "are_rows") fd ["thing"] (spS K (He.ga K) [false] V_are_rows) := by
  obtain ⟨fd_is_row, F_is_row⟩ := T.f_is_row
  have G_is_row := ok_is_row (P := P) (w := w) (base := base) T F_is_row
  have b_is_row := F_is_row.bindsN (ps := ["thing"]) fun _ _ _ _ _ _ us hl => match us, hl with | [_], _ => rfl
  obtain ⟨_, c_MOST_ROWS⟩ := T.c_MOST_ROWS
  refine fn_mk F sc_are_rows rfl (by decide) fun cdv A outer s H E F0 hr => ?_
  have hu := hu_of hr
  exact (d_cons (d_if (PW.pt (d_or (d_not (d_valB (d_pt (d_isi (T := "list") (d_pt (d_v 0)) (by decide +kernel) T.b_isinstance T.b_list)))) (d_or (d_cmpB op_gt od_gt (d_pt (d_len (d_pt (d_v 0)) T.b_len)) (d_pt (d_gi c_MOST_ROWS))) (d_or1 (d_not (d_valB (d_pt (d_all rfl (d_nt (d_lc rfl sc_are_rows.nd (d_itL (d_v 0)) (blkOk_by (own := [("row", 1)]) (N := N_are_rows) (sc := defScope s_are_rows) (by decide +kernel)) (fun _ _ _ _ _ => (d_g1 sc_are_rows.nd)) (fun _ _ _ _ _ => d_pts0) (fun _ _ _ _ _ => (d_cl G_is_row (hr.mono (by decide)) T.g_is_row F_is_row.kp b_is_row passL (d_aP (d_v 1) d_a0))) List.mem_cons_self)) T.b_all)))))))) (d_one (d_ret d_bl)) d_nil) (d_one (d_ret (d_all rfl (d_nt (d_lc rfl sc_are_rows.nd (d_itZ (d_v 0) (d_np (d_slL (d_v 0) (d_o1 (d_pt d_int)) d_o0)) T.b_zip) (blkOk_by (own := [("one", 2), ("other", 3)]) (N := N_are_rows) (sc := defScope s_are_rows) (by decide +kernel)) (fun _ _ _ _ _ => (pg_tup rfl (pgs_cons (pg_name (i := 2) sc_are_rows.nd rfl (by first | exact Or.inl rfl | exact Or.inr rfl)) (pgs_cons (pg_name (i := 3) sc_are_rows.nd rfl (by first | exact Or.inl rfl | exact Or.inr rfl)) pgs_nil)))) (fun _ _ _ _ _ => d_pts0) (fun _ _ _ _ _ => (d_cmp op_lt od_lt (d_pt (d_ixP (d_v 2) (d_pt d_int))) (d_pt (d_ixP (d_v 3) (d_pt d_int))))) ⟨by decide, by decide⟩)) T.b_all))))
abbrev N_look_rows : List Str := ["rows"]
theorem sc_look_rows : FnScope N_look_rows ["rows"] (defScope s_look_rows) := ⟨rfl, rfl, rfl, by decide +kernel, rfl, by decide +kernel, by decide +kernel⟩
theorem ok_look_rows (T : Tx K mg) {fd : FuncData} (F : FunD K "look_rows" "look_rows" (defArgs s_look_rows) (defBody s_look_rows) (defScope s_look_rows) [] [] (He.ga K "look_rows") fd) : FnOk P w K mg base (L2.CX P w) 4 (He.ga K "look_rows") fd ["rows"] (spS K (He.ga K) [false] V_look_rows) := by
  obtain ⟨fd_are_rows, F_are_rows⟩ := T.f_are_rows
  have G_are_rows := ok_are_rows (P := P) (w := w) (base := base) T F_are_rows
  have b_are_rows := F_are_rows.bindsN (ps := ["thing"]) fun _ _ _ _ _ _ us hl => match us, hl with | [_], _ => rfl
  refine fn_mk F sc_look_rows rfl (by decide) fun cdv A outer s H E F0 hr => ?_
  have hu := hu_of hr
  exact (d_one (d_if (d_not (d_valB (d_pt (d_cl G_are_rows (hr.mono (by decide)) T.g_are_rows F_are_rows.kp b_are_rows (passes_call (takes_of rfl rfl rfl rfl) fun _ _ _ _ h => h) (d_aP (d_v 0) d_a0))))) (d_one (d_raise (x := "NoRows") rfl (takes_of rfl rfl rfl rfl) T.x_NoRows.1 T.g_NoRows T.x_NoRows.2.1 T.x_NoRows.2.2.1 T.x_NoRows.2.2.2)) d_nil))
abbrev N_is_good_in : List Str := ["own", "week", "span"]
theorem sc_is_good_in : FnScope N_is_good_in ["own", "week", "span"] (defScope s_is_good_in) := ⟨rfl, rfl, rfl, by decide +kernel, rfl, by decide +kernel, by decide +kernel⟩
theorem ok_is_good_in (T : Tx K mg) {fd : FuncData} (F : FunD K "is_good_in" "is_good_in" (defArgs s_is_good_in) (defBody s_is_good_in) (defScope s_is_good_in) [] [] (He.ga K "is_good_in") fd) : FnOk P w K mg base (L2.CX P w) 1 (He.ga K "is_good_in") fd ["own", "week", "span"] (spS K (He.ga K) [false, false, false] V_is_good_in) := by
  refine fn_mk F sc_is_good_in rfl (by decide) fun cdv A outer s H E F0 hr => ?_
  have hu := hu_of hr
  exact (d_one (d_ret (d_ch op_le od_le op_lt od_lt (d_pt (d_v 0)) (d_pt (d_v 1)) (d_pt (d_add (d_pt (d_v 0)) (d_pt (d_v 2)))))))
abbrev N_taken : List Str := ["left", "week", "many", "span", "made", "need", "own", "part"]
theorem sc_taken : FnScope N_taken ["left", "week", "many", "span"] (defScope s_taken) := ⟨rfl, rfl, rfl, by decide +kernel, rfl, by decide +kernel, by decide +kernel⟩
theorem ok_taken (T : Tx K mg) {fd : FuncData} (F : FunD K "taken" "taken" (defArgs s_taken) (defBody s_taken) (defScope s_taken) [] [] (He.ga K "taken") fd) : FnOk P w K mg base (L2.CX P w) 2 (He.ga K "taken") fd ["left", "week", "many", "span"] (spS K (He.ga K) [true, false, false, false] V_taken) := by
  obtain ⟨fd_is_good_in, F_is_good_in⟩ := T.f_is_good_in
  have G_is_good_in := ok_is_good_in (P := P) (w := w) (base := base) T F_is_good_in
  have b_is_good_in := F_is_good_in.bindsN (ps := ["own", "week", "span"]) fun _ _ _ _ _ _ us hl => match us, hl with | [_, _, _], _ => rfl
  refine fn_mk F sc_taken rfl (by decide) fun cdv A outer s H E F0 hr => ?_
  have hu := hu_of hr
  exact (d_cons (d_parNP 4 5 rfl sc_taken.nd (d_lst d_a0) (d_v 2)) (d_cons (d_for (passes_of rfl) rfl (d_itL (d_np (d_sorted rfl (d_vt 0) T.b_sorted))) (d_g1 sc_taken.nd) (d_cons (d_set 7 sc_taken.nd (d_min2 rfl (d_dgT hu (d_vt 0) (d_pt (d_v 6))) (d_pt (d_v 5)) T.b_min)) (d_one (d_if (PW.pt (d_and (d_valB (d_pt (d_cl G_is_good_in (hr.mono (by decide)) T.g_is_good_in F_is_good_in.kp b_is_good_in (passes_call (takes_of rfl rfl rfl rfl) fun _ _ _ _ h => h) (d_aP (d_v 6) (d_aP (d_v 1) (d_aP (d_v 3) d_a0)))))) (d_and1 (d_cmpB op_gt od_gt (d_pt (d_v 7)) (d_pt d_int))))) (d_cons (d_app 4 (d_tup (d_aP (d_v 6) (d_aP (d_v 7) d_a0)))) (d_one (d_set 5 sc_taken.nd (d_sub (d_pt (d_v 5)) (d_pt (d_v 7)))))) d_nil)))) (d_frz 4 (d_one (d_ret (d_v 4))))))
abbrev N_serve : List Str := ["coupons", "needs", "span", "left", "made", "week", "many", "own", "part"]
theorem sc_serve : FnScope N_serve ["coupons", "needs", "span"] (defScope s_serve) := ⟨rfl, rfl, rfl, by decide +kernel, rfl, by decide +kernel, by decide +kernel⟩
theorem ok_serve (T : Tx K mg) {fd : FuncData} (F : FunD K "serve" "serve" (defArgs s_serve) (defBody s_serve) (defScope s_serve) [] [] (He.ga K "serve") fd) : FnOk P w K mg base (L2.CX P w) 3 (He.ga K "serve") fd ["coupons", "needs", "span"] (spS K (He.ga K) [false, false, false] V_serve) := by
  obtain ⟨fd_taken, F_taken⟩ := T.f_taken
  have G_taken := ok_taken (P := P) (w := w) (base := base) T F_taken
  have b_taken := F_taken.bindsN (ps := ["left", "week", "many", "span"]) fun _ _ _ _ _ _ us hl => match us, hl with | [_, _, _, _], _ => rfl
  refine fn_mk F sc_serve rfl (by decide) fun cdv A outer s H E F0 hr => ?_
  have hu := hu_of hr
  exact (d_cons (d_parNN 3 4 rfl sc_serve.nd (d_dict rfl (d_v 0) T.b_dict) (d_lst d_a0)) (d_cons (d_for (passes_of rfl) rfl (d_itL (d_v 1)) (pg_tup rfl (pgs_cons (pg_name (i := 5) sc_serve.nd rfl (by first | exact Or.inl rfl | exact Or.inr rfl)) (pgs_cons (pg_name (i := 6) sc_serve.nd rfl (by first | exact Or.inl rfl | exact Or.inr rfl)) pgs_nil))) (d_one (d_for (passes_of rfl) rfl (d_itL (d_cl G_taken (hr.mono (by decide)) T.g_taken F_taken.kp b_taken (passes_call (takes_of rfl rfl rfl rfl) fun _ _ _ _ h => h) (d_aT (d_vt 3) (d_aP (d_v 5) (d_aP (d_v 6) (d_aP (d_v 2) d_a0)))))) (pg_tup rfl (pgs_cons (pg_name (i := 7) sc_serve.nd rfl (by first | exact Or.inl rfl | exact Or.inr rfl)) (pgs_cons (pg_name (i := 8) sc_serve.nd rfl (by first | exact Or.inl rfl | exact Or.inr rfl)) pgs_nil))) (d_cons (d_dput 3 hu (d_pt (d_v 7)) (d_sub (d_dgT hu (d_vt 3) (d_pt (d_v 7))) (d_pt (d_v 8)))) (d_one (d_app 4 (d_tup (d_aP (d_v 5) (d_aP (d_v 7) (d_aP (d_v 8) d_a0)))))))))) (d_frz 4 (d_one (d_ret (d_v 4))))))
abbrev N_look_all : List Str := ["coupons", "needs", "span"]
theorem sc_look_all : FnScope N_look_all ["coupons", "needs", "span"] (defScope s_look_all) := ⟨rfl, rfl, rfl, by decide +kernel, rfl, by decide +kernel, by decide +kernel⟩
theorem ok_look_all (T : Tx K mg) {fd : FuncData} (F : FunD K "look_all" "look_all" (defArgs s_look_all) (defBody s_look_all) (defScope s_look_all) [] [] (He.ga K "look_all") fd) : FnOk P w K mg base (L2.CX P w) 5 (He.ga K "look_all") fd ["coupons", "needs", "span"] (spS K (He.ga K) [false, false, false] V_look_all) := by
  obtain ⟨fd_look_rows, F_look_rows⟩ := T.f_look_rows
  have G_look_rows := ok_look_rows (P := P) (w := w) (base := base) T F_look_rows
  have b_look_rows := F_look_rows.bindsN (ps := ["rows"]) fun _ _ _ _ _ _ us hl => match us, hl with | [_], _ => rfl
  obtain ⟨fd_look_number, F_look_number⟩ := T.f_look_number
  have G_look_number := ok_look_number (P := P) (w := w) (base := base) T F_look_number
  have b_look_number := F_look_number.bindsN (ps := ["thing", "least", "most"]) fun _ _ _ _ _ _ us hl => match us, hl with | [_, _, _], _ => rfl
  obtain ⟨_, c_LONGEST_SPAN⟩ := T.c_LONGEST_SPAN
  refine fn_mk F sc_look_all rfl (by decide) fun cdv A outer s H E F0 hr => ?_
  have hu := hu_of hr
  exact (d_cons (d_ex (d_pt (d_cl G_look_rows (hr.mono (by decide)) T.g_look_rows F_look_rows.kp b_look_rows (passes_call (takes_of rfl rfl rfl rfl) fun _ _ _ _ h => h) (d_aP (d_v 0) d_a0)))) (d_cons (d_ex (d_pt (d_cl G_look_rows (hr.mono (by decide)) T.g_look_rows F_look_rows.kp b_look_rows (passes_call (takes_of rfl rfl rfl rfl) fun _ _ _ _ h => h) (d_aP (d_v 1) d_a0)))) (d_one (d_ex (d_pt (d_cl G_look_number (hr.mono (by decide)) T.g_look_number F_look_number.kp b_look_number (passes_call (takes_of rfl rfl rfl rfl) fun _ _ _ _ h => h) (d_aP (d_v 2) (d_aP d_int (d_aP (d_gi c_LONGEST_SPAN) d_a0)))))))))
abbrev N_served : List Str := ["coupons", "needs", "lifetime"]
theorem sc_served : FnScope N_served ["coupons", "needs", "lifetime"] (defScope s_served) := ⟨rfl, rfl, rfl, by decide +kernel, rfl, by decide +kernel, by decide +kernel⟩
theorem ok_served (T : Tx K mg) {fd : FuncData} (F : FunD K "served" "served" (defArgs s_served) (defBody s_served) (defScope s_served) [.int 1] [] (He.ga K "served") fd) : FnOk P w K mg base (L2.CX P w) 6 (He.ga K "served") fd ["coupons", "needs", "lifetime"] (spS K (He.ga K) [false, false, false] V_served) := by
  obtain ⟨fd_look_all, F_look_all⟩ := T.f_look_all
  have G_look_all := ok_look_all (P := P) (w := w) (base := base) T F_look_all
  have b_look_all := F_look_all.bindsN (ps := ["coupons", "needs", "span"]) fun _ _ _ _ _ _ us hl => match us, hl with | [_, _, _], _ => rfl
  obtain ⟨fd_serve, F_serve⟩ := T.f_serve
  have G_serve := ok_serve (P := P) (w := w) (base := base) T F_serve
  have b_serve := F_serve.bindsN (ps := ["coupons", "needs", "span"]) fun _ _ _ _ _ _ us hl => match us, hl with | [_, _, _], _ => rfl
  refine fn_mk F sc_served rfl (by decide) fun cdv A outer s H E F0 hr => ?_
  have hu := hu_of hr
  exact (d_cons (d_ex (d_pt (d_cl G_look_all (hr.mono (by decide)) T.g_look_all F_look_all.kp b_look_all (passes_call (takes_of rfl rfl rfl rfl) fun _ _ _ _ h => h) (d_aP (d_v 0) (d_aP (d_v 1) (d_aP (d_v 2) d_a0)))))) (d_one (d_ret (d_cl G_serve (hr.mono (by decide)) T.g_serve F_serve.kp b_serve (passes_call (takes_of rfl rfl rfl rfl) fun _ _ _ _ h => h) (d_aP (d_v 0) (d_aP (d_v 1) (d_aP (d_v 2) d_a0)))))))
abbrev N__law_pick : List Str := ["script", "k", "many", "cell", "rest", "again", "drawn"]
theorem sc__law_pick : FnScope N__law_pick ["script", "k", "many"] (defScope s__law_pick) := ⟨rfl, rfl, rfl, by decide +kernel, rfl, by decide +kernel, by decide +kernel⟩
theorem ok__law_pick (T : Tx K mg) {fd : FuncData} (F : FunD K "_law_pick" "_law_pick" (defArgs s__law_pick) (defBody s__law_pick) (defScope s__law_pick) [] [] (He.ga K "_law_pick") fd) : FnOk P w K mg base (L2.CX P w) 1 (He.ga K "_law_pick") fd ["script", "k", "many"] (spS K (He.ga K) [false, false, false] V__law_pick) := by
  refine fn_mk F sc__law_pick rfl (by decide) fun cdv A outer s H E F0 hr => ?_
  have hu := hu_of hr
  exact (d_cons (d_set 3 sc__law_pick.nd (d_ifE (d_cmpB (op_neD hr.units) od_ne (d_pt (d_v 0)) (d_nt (d_lst d_a0))) (d_ixP (d_v 0) (d_pt (d_mod (d_pt (d_intOf (d_pt (d_v 1)) T.b_int)) (d_pt (d_len (d_pt (d_v 0)) T.b_len))))) d_int)) (d_cons (d_parPP 4 5 rfl sc__law_pick.nd (d_div (d_pt (d_v 3)) (d_pt (d_pow (d_pt d_int) (d_pt d_int)))) (d_div (d_pt (d_v 1)) (d_pt (d_max2 rfl (d_pt (d_len (d_pt (d_v 0)) T.b_len)) (d_pt d_int) T.b_max)))) (d_cons (d_wh 100000 (passes_of rfl) (PW.pt (d_and (d_cmpB op_gt od_gt (d_pt (d_v 4)) (d_pt d_int)) (d_and1 (d_cmpB op_gt od_gt (d_pt (d_v 5)) (d_pt d_int))))) (d_one (d_parPP 4 5 rfl sc__law_pick.nd (d_div (d_pt (d_v 4)) (d_pt d_int)) (d_sub (d_pt (d_v 5)) (d_pt d_int))))) (d_cons (d_if (d_cmpB op_gt od_gt (d_pt (d_v 4)) (d_pt d_int)) (d_one (d_ret (d_mod (d_pt (d_intOf (d_pt (d_mod (d_pt (d_intOf (d_pt (d_v 4)) T.b_int)) (d_pt d_int))) T.b_int)) (d_pt (d_v 2))))) d_nil) (d_cons (d_set 6 sc__law_pick.nd (d_mod (d_pt (d_intOf (d_pt (d_mul (d_pt (d_add (d_pt (d_mul (d_pt (d_v 3)) (d_pt d_int))) (d_pt (d_mul (d_pt d_int) (d_pt (d_add (d_pt (d_v 1)) (d_pt d_int))))))) (d_pt d_int))) T.b_int)) (d_pt d_int))) (d_one (d_ret (d_mod (d_pt (d_intOf (d_pt (d_mod (d_pt (d_intOf (d_pt (d_add (d_pt (d_mul (d_pt (d_v 6)) (d_pt (d_v 6)))) (d_pt (d_div (d_pt (d_v 6)) (d_pt d_int))))) T.b_int)) (d_pt d_int))) T.b_int)) (d_pt (d_v 2))))))))))
abbrev N__law_rows : List Str := ["script", "at", "found", "week"]
theorem sc__law_rows : FnScope N__law_rows ["script", "at"] (defScope s__law_rows) := ⟨rfl, rfl, rfl, by decide +kernel, rfl, by decide +kernel, by decide +kernel⟩
theorem ok__law_rows (T : Tx K mg) {fd : FuncData} (F : FunD K "_law_rows" "_law_rows" (defArgs s__law_rows) (defBody s__law_rows) (defScope s__law_rows) [] [] (He.ga K "_law_rows") fd) : FnOk P w K mg base (L2.CX P w) 2 (He.ga K "_law_rows") fd ["script", "at"] (spS K (He.ga K) [false, false] V__law_rows) := by
  obtain ⟨fd__law_pick, F__law_pick⟩ := T.f__law_pick
  have G__law_pick := ok__law_pick (P := P) (w := w) (base := base) T F__law_pick
  have b__law_pick := F__law_pick.bindsN (ps := ["script", "k", "many"]) fun _ _ _ _ _ _ us hl => match us, hl with | [_, _, _], _ => rfl
  refine fn_mk F sc__law_rows rfl (by decide) fun cdv A outer s H E F0 hr => ?_
  have hu := hu_of hr
  exact (d_cons (d_setN 2 sc__law_rows.nd (d_lst d_a0)) (d_cons (d_for (passes_of rfl) rfl (d_itR1 d_int T.b_range) (d_g1 sc__law_rows.nd) (d_one (d_if (d_cmpB op_gt od_gt (d_pt (d_cl G__law_pick (hr.mono (by decide)) T.g__law_pick F__law_pick.kp b__law_pick (passes_call (takes_of rfl rfl rfl rfl) fun _ _ _ _ h => h) (d_aP (d_v 0) (d_aP (d_add (d_pt (d_v 1)) (d_pt (d_mul (d_pt d_int) (d_pt (d_v 3))))) (d_aP d_int d_a0))))) (d_pt d_int)) (d_one (d_app 2 (d_tup (d_aP (d_v 3) (d_aP (d_add (d_pt d_int) (d_pt (d_cl G__law_pick (hr.mono (by decide)) T.g__law_pick F__law_pick.kp b__law_pick (passes_call (takes_of rfl rfl rfl rfl) fun _ _ _ _ h => h) (d_aP (d_v 0) (d_aP (d_add (d_pt (d_add (d_pt (d_v 1)) (d_pt (d_mul (d_pt d_int) (d_pt (d_v 3)))))) (d_pt d_int)) (d_aP d_int d_a0)))))) d_a0))))) d_nil))) (d_frz 2 (d_one (d_ret (d_v 2))))))
abbrev N__law_taken : List Str := ["coupons", "needs", "span", "left", "found", "week", "many", "open_now", "own", "much"]
theorem sc__law_taken : FnScope N__law_taken ["coupons", "needs", "span"] (defScope s__law_taken) := ⟨rfl, rfl, rfl, by decide +kernel, rfl, by decide +kernel, by decide +kernel⟩
theorem ok__law_taken (T : Tx K mg) {fd : FuncData} (F : FunD K "_law_taken" "_law_taken" (defArgs s__law_taken) (defBody s__law_taken) (defScope s__law_taken) [] [] (He.ga K "_law_taken") fd) : FnOk P w K mg base (L2.CX P w) 1 (He.ga K "_law_taken") fd ["coupons", "needs", "span"] (spS K (He.ga K) [false, false, false] V__law_taken) := by
  refine fn_mk F sc__law_taken rfl (by decide) fun cdv A outer s H E F0 hr => ?_
  have hu := hu_of hr
  exact (d_cons (d_parNN 3 4 rfl sc__law_taken.nd (d_dict rfl (d_v 0) T.b_dict) (d_lst d_a0)) (d_cons (d_for (passes_of rfl) rfl (d_itL (d_v 1)) (pg_tup rfl (pgs_cons (pg_name (i := 5) sc__law_taken.nd rfl (by first | exact Or.inl rfl | exact Or.inr rfl)) (pgs_cons (pg_name (i := 6) sc__law_taken.nd rfl (by first | exact Or.inl rfl | exact Or.inr rfl)) pgs_nil))) (d_cons (d_set 7 sc__law_taken.nd (d_v 6)) (d_one (d_for (passes_of rfl) rfl (d_itL (d_np (d_sorted rfl (d_vt 3) T.b_sorted))) (d_g1 sc__law_taken.nd) (d_cons (d_set 9 sc__law_taken.nd (d_ifE (d_chB op_le od_le op_lt od_lt (d_pt (d_v 8)) (d_pt (d_v 5)) (d_pt (d_add (d_pt (d_v 8)) (d_pt (d_v 2))))) (d_min2 rfl (d_pt (d_v 7)) (d_dgT hu (d_vt 3) (d_pt (d_v 8))) T.b_min) d_int)) (d_one (d_if (d_cmpB op_gt od_gt (d_pt (d_v 9)) (d_pt d_int)) (d_cons (d_app 4 (d_tup (d_aP (d_v 5) (d_aP (d_v 8) (d_aP (d_v 9) d_a0))))) (d_cons (d_dput 3 hu (d_pt (d_v 8)) (d_sub (d_dgT hu (d_vt 3) (d_pt (d_v 8))) (d_pt (d_v 9)))) (d_one (d_set 7 sc__law_taken.nd (d_sub (d_pt (d_v 7)) (d_pt (d_v 9))))))) d_nil))))))) (d_frz 4 (d_one (d_ret (d_v 4))))))
abbrev N_law : List Str := ["script", "i", "coupons", "needs", "span", "known"]
theorem sc_law : FnScope N_law ["script"] (defScope s_law) := ⟨rfl, rfl, rfl, by decide +kernel, rfl, by decide +kernel, by decide +kernel⟩
theorem ok_law (T : Tx K mg) {fd : FuncData} (F : FunD K "law" "law" (defArgs s_law) (defBody s_law) (defScope s_law) [] [] (He.ga K "law") fd) : FnOk P w K mg base (L2.CX P w) 7 (He.ga K "law") fd ["script"] (spS K (He.ga K) [false] V_law) := by
  obtain ⟨fd__law_rows, F__law_rows⟩ := T.f__law_rows
  have G__law_rows := ok__law_rows (P := P) (w := w) (base := base) T F__law_rows
  have b__law_rows := F__law_rows.bindsN (ps := ["script", "at"]) fun _ _ _ _ _ _ us hl => match us, hl with | [_, _], _ => rfl
  obtain ⟨fd_served, F_served⟩ := T.f_served
  have G_served := ok_served (P := P) (w := w) (base := base) T F_served
  have b_served := bnd_served F_served
  have bk_served := bnk_served F_served
  obtain ⟨dl_served, vd_served, bd_served⟩ := bnd1_served F_served
  obtain ⟨fd__law_taken, F__law_taken⟩ := T.f__law_taken
  have G__law_taken := ok__law_taken (P := P) (w := w) (base := base) T F__law_taken
  have b__law_taken := F__law_taken.bindsN (ps := ["coupons", "needs", "span"]) fun _ _ _ _ _ _ us hl => match us, hl with | [_, _, _], _ => rfl
  refine fn_mk F sc_law rfl (by decide) fun cdv A outer s H E F0 hr => ?_
  have hu := hu_of hr
  exact (d_cons (d_for (passes_of rfl) rfl (d_itR1 d_int T.b_range) (d_g1 sc_law.nd) (d_cons (d_parPP 2 3 rfl sc_law.nd (d_cl G__law_rows (hr.mono (by decide)) T.g__law_rows F__law_rows.kp b__law_rows (passes_call (takes_of rfl rfl rfl rfl) fun _ _ _ _ h => h) (d_aP (d_v 0) (d_aP (d_mul (d_pt d_int) (d_pt (d_v 1))) d_a0))) (d_cl G__law_rows (hr.mono (by decide)) T.g__law_rows F__law_rows.kp b__law_rows (passes_call (takes_of rfl rfl rfl rfl) fun _ _ _ _ h => h) (d_aP (d_v 0) (d_aP (d_add (d_pt (d_mul (d_pt d_int) (d_pt (d_v 1)))) (d_pt d_int)) d_a0)))) (d_cons (d_for (passes_of rfl) rfl (d_itR2 d_int d_int T.b_range) (d_g1 sc_law.nd) (d_one (d_if (d_cmpB (op_neD hr.units) od_ne (d_pt (d_clK (ms := [false, false]) (mk := [false]) G_served (hr.mono (by decide)) T.g_served F_served.kp bk_served (passes_call (takes_of rfl rfl rfl rfl) fun _ _ _ _ h => h) (d_aP (d_v 2) (d_aP (d_v 3) d_a0)) (d_kP (d_v 4) d_k0))) (d_pt (d_cl G__law_taken (hr.mono (by decide)) T.g__law_taken F__law_taken.kp b__law_taken (passes_call (takes_of rfl rfl rfl rfl) fun _ _ _ _ h => h) (d_aP (d_v 2) (d_aP (d_v 3) (d_aP (d_v 4) d_a0)))))) (d_one (d_ret d_bl)) d_nil))) (d_one (d_if (d_cmpB (op_neD hr.units) od_ne (d_pt (d_call (ms := [false, false]) (md := [false]) (dds := [.int 1]) G_served (hr.mono (by decide)) T.g_served F_served.kp bd_served vd_served (fun _ _ => ⟨.int 1, trivial⟩) (passes_call (takes_of rfl rfl rfl rfl) fun _ _ _ _ h => h) (d_aP (d_v 2) (d_aP (d_v 3) d_a0)))) (d_pt (d_cl G__law_taken (hr.mono (by decide)) T.g__law_taken F__law_taken.kp b__law_taken (passes_call (takes_of rfl rfl rfl rfl) fun _ _ _ _ h => h) (d_aP (d_v 2) (d_aP (d_v 3) (d_aP d_int d_a0)))))) (d_one (d_ret d_bl)) d_nil))))) (d_cons (d_setLc 5 rfl sc_law.nd (d_itR2 d_int d_int T.b_range) (blkOk_by (own := [("span", 4)]) (N := N_law) (sc := defScope s_law) (by decide +kernel)) (fun _ _ _ _ _ => (d_g1 sc_law.nd)) (fun _ _ _ _ _ => d_pts0) (fun _ _ _ _ _ => (d_clK (ms := [false, false]) (mk := [false]) G_served (hr.mono (by decide)) T.g_served F_served.kp bk_served passL (d_aP (d_np (d_lst (d_aP (d_tup (d_aP d_int (d_aP d_int d_a0))) (d_aP (d_tup (d_aP d_int (d_aP d_int d_a0))) (d_aP (d_tup (d_aP d_int (d_aP d_int d_a0))) d_a0))))) (d_aP (d_np (d_lst (d_aP (d_tup (d_aP d_int (d_aP d_int d_a0))) d_a0))) d_a0)) (d_kP (d_v 4) d_k0))) List.mem_cons_self) (d_one (d_ret (d_cmp (op_eqD hr.units) od_eq (d_pt (d_v 5)) (d_nt (d_lst (d_aP (d_np (d_lst (d_aP (d_tup (d_aP d_int (d_aP d_int (d_aP d_int d_a0)))) d_a0))) (d_aP (d_np (d_lst (d_aP (d_tup (d_aP d_int (d_aP d_int (d_aP d_int d_a0)))) (d_aP (d_tup (d_aP d_int (d_aP d_int (d_aP d_int d_a0)))) d_a0)))) (d_aP (d_np (d_lst (d_aP (d_tup (d_aP d_int (d_aP d_int (d_aP d_int d_a0)))) (d_aP (d_tup (d_aP d_int (d_aP d_int (d_aP d_int d_a0)))) d_a0)))) (d_aP (d_np (d_lst (d_aP (d_tup (d_aP d_int (d_aP d_int (d_aP d_int d_a0)))) (d_aP (d_tup (d_aP d_int (d_aP d_int (d_aP d_int d_a0)))) d_a0)))) d_a0)))))))))))
end
end Cb
namespace Cb
open PySem PySem.Spec PyProof.Rows L2
/-! ### plain laws, and evaluation -/
theorem seq_nx {g1 g2 : DS → Out} {ds ds' : DS} (h : g1 ds = .nx ds') : seqS g1 g2 ds = g2 ds' := by simp [seqS, h]
theorem seq_rt {g1 g2 : DS → Out} {ds : DS} {d : PyData} (h : g1 ds = .rt d) : seqS g1 g2 ds = .rt d := by simp [seqS, h]
theorem seq_err {g1 g2 : DS → Out} {ds : DS} {x : Str} (h : g1 ds = .err x) : seqS g1 g2 ds = .err x := by simp [seqS, h]
theorem canInts : ∀ ns : List Int, PyData.canLayAll0 (ns.map .int) = true
  | [] => rfl
  | n :: r => by
    have ih := canInts r
    simp [PyData.canLayAll0, PyData.canLay0, ih]
theorem depthInts : ∀ ns : List Int, PyData.depthAll (ns.map .int) ≤ 1
  | [] => by simp [PyData.depthAll]
  | n :: r => by
    have ih := depthInts r
    simp [PyData.depthAll, PyData.depth]
    omega
theorem shInts (ns : List Int) : SeqAt.shaped (.list (ns.map .int)) = true := by
  have h1 := canInts ns
  have h2 := depthInts ns
  unfold SeqAt.shaped
  simp [PyData.canLay0, PyData.depth, h1]
  omega
theorem eqvInts : ∀ a b : List Int, PyData.eqvAll (a.map .int) (b.map .int) = decide (a = b)
  | [], [] => rfl
  | [], _ :: _ => rfl
  | _ :: _, [] => rfl
  | x :: a, y :: b => by
    have ih := eqvInts a b
    simp [PyData.eqvAll, PyData.eqv, ih, Bool.beq_eq_decide_eq]
theorem dv840 (i : Int) : divW i 840 = true := by unfold divW; decide
theorem dv31 (i : Int) : divW i 31 = true := by unfold divW; decide
theorem dv18 (i : Int) : divW i 1000000000000000000 = true := by unfold divW; decide +kernel
theorem dvSmall (i : Int) {j : Int} (h0 : 0 < j) (h1 : j < 1000000) : divW i j = true := by
  unfold divW
  have : j.natAbs.log2 < 9000 := by
    have : j.natAbs.log2 < 20 := by
      rw [Nat.log2_lt (by omega)]
      omega
    omega
  simp [h0, this]
theorem atInts {ns : List Int} {i : Int} (h0 : 0 ≤ i) (h1 : i < ns.length) : atI (ns.map PyData.int) i = some (.int (ns.getD i.toNat 0)) := by
  have hj : i.toNat < ns.length := by omega
  have : (ns.map PyData.int)[i.toNat]? = some (.int (ns.getD i.toNat 0)) := by
    rw [List.getElem?_map, List.getElem?_eq_getElem hj]
    simp [List.getD, List.getElem?_eq_getElem hj]
  have h2 := atI_nat this
  rwa [Int.toNat_of_nonneg h0] at h2
end Cb
namespace Cb
open PySem PySem.Spec PyProof.Rows L2
theorem pick_wh (d0 d1 d2 d3 d6 : Sl) : ∀ (n : Nat) (rest turn : Int), turn.toNat < n → ∃ r' t', whGo (andB (bS (op2 gtI (vP 4) (cS (.int 0)))) (bS (op2 gtI (vP 5) (cS (.int 0))))) g__law_pick_3B n [d0, d1, d2, d3, .im (.int rest), .im (.int turn), d6] = .nx [d0, d1, d2, d3, .im (.int r'), .im (.int t'), d6]
  | 0, _, _, h => by omega
  | n + 1, rest, turn, h => by
    by_cases h1 : 0 < rest
    · by_cases h2 : 0 < turn
      · have ih := pick_wh d0 d1 d2 d3 d6 n (rest / 840) (turn - 1) (by omega)
        obtain ⟨r', t', e⟩ := ih
        refine ⟨r', t', ?_⟩
        rw [← e]
        conv => lhs; unfold whGo
        simp [andB, bS, bO, op2, gtI, gI, vP, cS, toB, g__law_pick_3B, g__law_pick_3b_1, parPP, toO, divI, subI, dv840, h1, h2]
      · refine ⟨rest, turn, ?_⟩
        unfold whGo
        simp [andB, bS, bO, op2, gtI, gI, vP, cS, toB, h1, h2]
    · refine ⟨rest, turn, ?_⟩
      unfold whGo
      simp [andB, bS, bO, op2, gtI, gI, vP, cS, toB, h1]
theorem pick_cell (ns : List Int) (k : Int) (d2 d3 d4 d5 d6 : Sl) : ∃ cell, g__law_pick_1 [.im (.list (ns.map .int)), .im (.int k), d2, d3, d4, d5, d6] = .nx [.im (.list (ns.map .int)), .im (.int k), d2, .im (.int cell), d4, d5, d6] := by
  have e0 : SeqAt.shaped (.list []) = true := by decide
  have e1 := eqvInts ns []
  simp only [List.map_nil] at e1
  by_cases h : ns = []
  · refine ⟨0, ?_⟩
    subst h
    simp [g__law_pick_1, setS, setN, parPP, parNP, parPN, parNN, toO, toB, ifS, retS, exS, appS, extS, dputS, frzS, nxS, vP, vT, cS, op1, op2, gI, addI, subI, mulI, divI, modI, powI, ltI, leI, gtI, geI, minI, maxI, bS, bO, andB, orB, notB, andV, orV, notV, chI, ifE, tupS, lstS, nilA, consA, callS, callK, isiS, lenD, intD, ixD, atR, dgetD, big, plS, plainD, neD, e0, PyData.eqv, PyData.eqvAll]
  · have hp : 0 < ns.length := List.length_pos_iff.mpr h
    have hm : 0 ≤ k % (ns.length : Int) := Int.emod_nonneg _ (by omega)
    have hl : k % (ns.length : Int) < ns.length := Int.emod_lt_of_pos _ (by omega)
    have ha := atInts hm hl
    refine ⟨ns.getD (k % (ns.length : Int)).toNat 0, ?_⟩
    simp [g__law_pick_1, setS, setN, parPP, parNP, parPN, parNN, toO, toB, ifS, retS, exS, appS, extS, dputS, frzS, nxS, vP, vT, cS, op1, op2, gI, addI, subI, mulI, divI, modI, powI, ltI, leI, gtI, geI, minI, maxI, bS, bO, andB, orB, notB, andV, orV, notV, chI, ifE, tupS, lstS, nilA, consA, callS, callK, isiS, lenD, intD, ixD, atR, dgetD, big, plS, plainD, neD, e0, PyData.eqv, e1, h, shInts, ha, hp]
theorem pick_ok (ns : List Int) (hl : ns.length ≤ 63) {k m : Int} (h0 : 0 ≤ k) (h1 : k < 90000) (hm : 0 < m) : ∃ p, 0 ≤ p ∧ p < m ∧ V__law_pick [.list (ns.map .int), .int k, .int m] = .ok (.int p) := by
  obtain ⟨cell, e1⟩ := pick_cell ns k (.im (.int m)) .no .no .no .no
  have hmx : 0 < (if (1 : Int) > ns.length then 1 else (ns.length : Int)) ∧ (if (1 : Int) > ns.length then 1 else (ns.length : Int)) < 1000000 := by
    split <;> omega
  have hk : (k / (if (1 : Int) > ns.length then 1 else (ns.length : Int))).toNat < 100000 := by
    have h2 : k / (if (1 : Int) > ns.length then 1 else (ns.length : Int)) ≤ k := Int.ediv_le_self _ h0
    omega
  obtain ⟨r', t', e3⟩ := pick_wh (.im (.list (ns.map .int))) (.im (.int k)) (.im (.int m)) (.im (.int cell)) .no 100000 (cell / 10 ^ 18) (k / (if (1 : Int) > ns.length then 1 else (ns.length : Int))) hk
  have hb : (powW 10 18) = true := by unfold powW; decide
  have e2 : g__law_pick_2 [.im (.list (ns.map .int)), .im (.int k), .im (.int m), .im (.int cell), .no, .no, .no] = .nx [.im (.list (ns.map .int)), .im (.int k), .im (.int m), .im (.int cell), .im (.int (cell / 10 ^ 18)), .im (.int (k / (if (1 : Int) > ns.length then 1 else (ns.length : Int)))), .no] := by
    have := dvSmall k hmx.1 hmx.2
    simp only [gt_iff_lt] at this
    simp [g__law_pick_2, setS, setN, parPP, parNP, parPN, parNN, toO, toB, ifS, retS, exS, appS, extS, dputS, frzS, nxS, vP, vT, cS, op1, op2, gI, addI, subI, mulI, divI, modI, powI, ltI, leI, gtI, geI, minI, maxI, bS, bO, andB, orB, notB, andV, orV, notV, chI, ifE, tupS, lstS, nilA, consA, callS, callK, isiS, lenD, intD, ixD, atR, dgetD, big, plS, plainD, hb, dv18, this]
  have e0 : V__law_pick [.list (ns.map .int), .int k, .int m] = bodyS 7 [false, false, false] g__law_pick [.list (ns.map .int), .int k, .int m] := rfl
  have es : startS 7 [false, false, false] [.list (ns.map .int), .int k, .int m] = [.im (.list (ns.map .int)), .im (.int k), .im (.int m), .no, .no, .no, .no] := rfl
  by_cases hr : 0 < r'
  · refine ⟨r' % 840 % m, Int.emod_nonneg _ (by omega), Int.emod_lt_of_pos _ hm, ?_⟩
    have e4 : g__law_pick_4 [.im (.list (ns.map .int)), .im (.int k), .im (.int m), .im (.int cell), .im (.int r'), .im (.int t'), .no] = .rt (.int (r' % 840 % m)) := by
      simp [g__law_pick_4, g__law_pick_4t_1, setS, setN, parPP, parNP, parPN, parNN, toO, toB, ifS, retS, exS, appS, extS, dputS, frzS, nxS, vP, vT, cS, op1, op2, gI, addI, subI, mulI, divI, modI, powI, ltI, leI, gtI, geI, minI, maxI, bS, bO, andB, orB, notB, andV, orV, notV, chI, ifE, tupS, lstS, nilA, consA, callS, callK, isiS, lenD, intD, ixD, atR, dgetD, big, plS, plainD, hr, hm]
    rw [e0, bodyS, es, g__law_pick, seq_nx e1, seq_nx e2, seq_nx (show g__law_pick_3 _ = _ from e3), seq_rt e4]
  · have e4 : g__law_pick_4 [.im (.list (ns.map .int)), .im (.int k), .im (.int m), .im (.int cell), .im (.int r'), .im (.int t'), .no] = .nx [.im (.list (ns.map .int)), .im (.int k), .im (.int m), .im (.int cell), .im (.int r'), .im (.int t'), .no] := by
      simp [g__law_pick_4, g__law_pick_4t_1, setS, setN, parPP, parNP, parPN, parNN, toO, toB, ifS, retS, exS, appS, extS, dputS, frzS, nxS, vP, vT, cS, op1, op2, gI, addI, subI, mulI, divI, modI, powI, ltI, leI, gtI, geI, minI, maxI, bS, bO, andB, orB, notB, andV, orV, notV, chI, ifE, tupS, lstS, nilA, consA, callS, callK, isiS, lenD, intD, ixD, atR, dgetD, big, plS, plainD, hr]
    have e5 : ∃ dr, 0 ≤ dr ∧ dr < 2147483399 ∧ g__law_pick_5 [.im (.list (ns.map .int)), .im (.int k), .im (.int m), .im (.int cell), .im (.int r'), .im (.int t'), .no] = .nx [.im (.list (ns.map .int)), .im (.int k), .im (.int m), .im (.int cell), .im (.int r'), .im (.int t'), .im (.int dr)] := by
      refine ⟨(cell * 31 + 6151 * (k + 1)) * 40692 % 2147483399, Int.emod_nonneg _ (by decide), Int.emod_lt_of_pos _ (by decide), ?_⟩
      · have i1 : in64 31 = true := by decide
        have i2 : in64 6151 = true := by decide
        have i3 : in64 40692 = true := by decide
        simp [g__law_pick_5, setS, setN, parPP, parNP, parPN, parNN, toO, toB, ifS, retS, exS, appS, extS, dputS, frzS, nxS, vP, vT, cS, op1, op2, gI, addI, subI, mulI, divI, modI, powI, ltI, leI, gtI, geI, minI, maxI, bS, bO, andB, orB, notB, andV, orV, notV, chI, ifE, tupS, lstS, nilA, consA, callS, callK, isiS, lenD, intD, ixD, atR, dgetD, big, plS, plainD, i1, i2, i3]
    obtain ⟨dr, hd0, hd1, e5⟩ := e5
    have e6 : g__law_pick_6 [.im (.list (ns.map .int)), .im (.int k), .im (.int m), .im (.int cell), .im (.int r'), .im (.int t'), .im (.int dr)] = .rt (.int ((dr * dr + dr / 31) % 2147483629 % m)) := by
      have i1 : in64 dr = true := by
        simp [in64]
        omega
      simp [g__law_pick_6, setS, setN, parPP, parNP, parPN, parNN, toO, toB, ifS, retS, exS, appS, extS, dputS, frzS, nxS, vP, vT, cS, op1, op2, gI, addI, subI, mulI, divI, modI, powI, ltI, leI, gtI, geI, minI, maxI, bS, bO, andB, orB, notB, andV, orV, notV, chI, ifE, tupS, lstS, nilA, consA, callS, callK, isiS, lenD, intD, ixD, atR, dgetD, big, plS, plainD, i1, dv31, hm]
    refine ⟨(dr * dr + dr / 31) % 2147483629 % m, Int.emod_nonneg _ (by omega), Int.emod_lt_of_pos _ hm, ?_⟩
    rw [e0, bodyS, es, g__law_pick, seq_nx e1, seq_nx e2, seq_nx (show g__law_pick_3 _ = _ from e3), seq_nx e4, seq_nx e5, e6]
end Cb
namespace Cb
open PySem PySem.Spec PyProof.Rows L2
/-! ### loops by an invariant -/
theorem forGo_ind {k : TgK} {b : DS → Out} {items : List PyData} (I : Nat → DS → Prop) (hs : ∀ (i : Nat) (ds : DS) (x : PyData), items[i]? = some x → I i ds → ∃ ds1, tgD k x ds = .ok ds1 ∧ ∃ ds2, b ds1 = .nx ds2 ∧ I (i + 1) ds2) :
    ∀ (n i : Nat) (ds : DS), n = items.length - i → i ≤ items.length → I i ds → ∃ ds', forGo k b (items.drop i) ds = .nx ds' ∧ I items.length ds'
  | 0, i, ds, hn, hi, h => by
    have e : i = items.length := by omega
    subst e
    exact ⟨ds, by simp [forGo], h⟩
  | n + 1, i, ds, hn, hi, h => by
    have hlt : i < items.length := by omega
    obtain ⟨ds1, e1, ds2, e2, h2⟩ := hs i ds _ (List.getElem?_eq_getElem hlt) h
    obtain ⟨ds', e3, h3⟩ := forGo_ind I hs n (i + 1) ds2 (by omega) hlt h2
    refine ⟨ds', ?_, h3⟩
    rw [List.drop_eq_getElem_cons hlt]
    simp [forGo, e1, e2, e3]
theorem for_inv {k : TgK} {b : DS → Out} {fi : DS → R (List PyData)} {items : List PyData} {ds : DS} (I : Nat → DS → Prop) (hi : fi ds = .ok items) (h0 : I 0 ds) (hs : ∀ (i : Nat) (ds : DS) (x : PyData), items[i]? = some x → I i ds → ∃ ds1, tgD k x ds = .ok ds1 ∧ ∃ ds2, b ds1 = .nx ds2 ∧ I (i + 1) ds2) :
    ∃ ds', forS fi k b ds = .nx ds' ∧ I items.length ds' := by
  obtain ⟨ds', e, h⟩ := forGo_ind I hs items.length 0 ds (by simp) (Nat.zero_le _) h0
  refine ⟨ds', ?_, h⟩
  simp only [forS, hi]
  simpa using e
theorem forGo_cons {k : TgK} {b : DS → Out} {x : PyData} {xs : List PyData} {ds ds1 ds2 : DS} (h1 : tgD k x ds = .ok ds1) (h2 : b ds1 = .nx ds2) : forGo k b (x :: xs) ds = forGo k b xs ds2 := by simp [forGo, h1, h2]
theorem lcGo_map {k : TgK} {ft : DS → R Bool} {fe : ES} {ds : DS} {h : PyData → PyData} : ∀ {items : List PyData}, (∀ x ∈ items, ∃ ds', tgD k x ds = .ok ds' ∧ ft ds' = .ok true ∧ fe ds' = .ok (h x)) → lcGo k ft fe ds items = .ok (items.map h)
  | [], _ => rfl
  | x :: r, H => by
    obtain ⟨ds', e1, e2, e3⟩ := H x List.mem_cons_self
    have ih := lcGo_map (items := r) fun y hy => H y (List.mem_cons_of_mem _ hy)
    simp [lcGo, e1, e2, e3, ih]
/-! ### rows -/
def rowD (p : Int × Int) : PyData := .tuple [.int p.1, .int p.2]
def rowsD (rs : List (Int × Int)) : PyData := .list (rs.map rowD)
structure Rows (rs : List (Int × Int)) : Prop where
  up : rs.Pairwise fun a b => a.1 < b.1
  wk : ∀ p ∈ rs, 0 ≤ p.1 ∧ p.1 ≤ 99 ∧ 1 ≤ p.2 ∧ p.2 ≤ 99
  len : rs.length ≤ 12
theorem isiInt (d : PyData) : isiD "int" d = .ok (.bool (match d with | .int _ => true | .bool _ => true | _ => false)) := by cases d <;> rfl
theorem isiBool (d : PyData) : isiD "bool" d = .ok (.bool (match d with | .bool _ => true | _ => false)) := by cases d <;> rfl
theorem isiTup (d : PyData) : isiD "tuple" d = .ok (.bool (match d with | .tuple _ => true | _ => false)) := by cases d <;> rfl
theorem isiLst (d : PyData) : isiD "list" d = .ok (.bool (match d with | .list _ => true | _ => false)) := by cases d <;> rfl
theorem V_number (i a b : Int) : V_is_number [.int i, .int a, .int b] = .ok (.bool (decide (a ≤ i) && decide (i ≤ b))) := by
  by_cases h : a ≤ i
  · simp [V_is_number, bodyS, startS, g_is_number, g_is_number_1, setS, setN, parPP, parNP, parPN, parNN, toO, toB, ifS, retS, exS, appS, extS, dputS, frzS, nxS, vP, vT, cS, op1, op2, gI, addI, subI, mulI, divI, modI, powI, ltI, leI, gtI, geI, minI, maxI, bS, bO, andB, orB, notB, andV, orV, notV, chI, ifE, tupS, lstS, nilA, consA, callS, callK, isiS, lenD, intD, ixD, atR, dgetD, big, plS, plainD, isiInt, isiBool, h]
  · simp [V_is_number, bodyS, startS, g_is_number, g_is_number_1, setS, setN, parPP, parNP, parPN, parNN, toO, toB, ifS, retS, exS, appS, extS, dputS, frzS, nxS, vP, vT, cS, op1, op2, gI, addI, subI, mulI, divI, modI, powI, ltI, leI, gtI, geI, minI, maxI, bS, bO, andB, orB, notB, andV, orV, notV, chI, ifE, tupS, lstS, nilA, consA, callS, callK, isiS, lenD, intD, ixD, atR, dgetD, big, plS, plainD, isiInt, isiBool, h]
theorem sh_int (i : Int) : SeqAt.shaped (.int i) = true := by
  unfold SeqAt.shaped
  simp [PyData.canLay0, PyData.depth]
theorem at0 {α : Type} (x : α) (r : List α) : atI (x :: r) 0 = some x := atI_nat (j := 0) rfl
theorem at1 {α : Type} (x y : α) (r : List α) : atI (x :: y :: r) 1 = some y := atI_nat (j := 1) rfl
theorem at2 {α : Type} (x y z : α) (r : List α) : atI (x :: y :: z :: r) 2 = some z := atI_nat (j := 2) rfl
theorem V_row (p : Int × Int) : V_is_row [rowD p] = .ok (.bool ((decide (0 ≤ p.1) && decide (p.1 ≤ 99)) && (decide (1 ≤ p.2) && decide (p.2 ≤ 99)))) := by
  have e1 : g_is_row_1 [.im (rowD p)] = .nx [.im (rowD p)] := by
    simp [g_is_row_1, g_is_row_1t_1, setS, setN, parPP, parNP, parPN, parNN, toO, toB, ifS, retS, exS, appS, extS, dputS, frzS, nxS, vP, vT, cS, op1, op2, gI, addI, subI, mulI, divI, modI, powI, ltI, leI, gtI, geI, minI, maxI, bS, bO, andB, orB, notB, andV, orV, notV, chI, ifE, tupS, lstS, nilA, consA, callS, callK, isiS, lenD, intD, ixD, atR, dgetD, big, plS, plainD, isiTup, rowD, neD, sh_int, PyData.eqv]
  have e2 : g_is_row_2 [.im (rowD p)] = .rt (.bool ((decide (0 ≤ p.1) && decide (p.1 ≤ 99)) && (decide (1 ≤ p.2) && decide (p.2 ≤ 99)))) := by
    by_cases h : (decide (0 ≤ p.1) && decide (p.1 ≤ 99)) = true
    · simp [g_is_row_2, setS, setN, parPP, parNP, parPN, parNN, toO, toB, ifS, retS, exS, appS, extS, dputS, frzS, nxS, vP, vT, cS, op1, op2, gI, addI, subI, mulI, divI, modI, powI, ltI, leI, gtI, geI, minI, maxI, bS, bO, andB, orB, notB, andV, orV, notV, chI, ifE, tupS, lstS, nilA, consA, callS, callK, isiS, lenD, intD, ixD, atR, dgetD, big, plS, plainD, rowD, at0, at1, V_number, h]
    · simp only [Bool.not_eq_true] at h
      simp [g_is_row_2, setS, setN, parPP, parNP, parPN, parNN, toO, toB, ifS, retS, exS, appS, extS, dputS, frzS, nxS, vP, vT, cS, op1, op2, gI, addI, subI, mulI, divI, modI, powI, ltI, leI, gtI, geI, minI, maxI, bS, bO, andB, orB, notB, andV, orV, notV, chI, ifE, tupS, lstS, nilA, consA, callS, callK, isiS, lenD, intD, ixD, atR, dgetD, big, plS, plainD, rowD, at0, at1, V_number, h]
  show bodyS 1 [false] g_is_row [rowD p] = _
  rw [bodyS, g_is_row, show startS 1 [false] [rowD p] = [.im (rowD p)] from rfl, seq_nx e1, e2]
theorem blsO_map : ∀ bs : List Bool, blsO (bs.map .bool) = some bs
  | [] => rfl
  | b :: r => by
    have ih := blsO_map r
    simp [blsO, ih]
theorem zip_rows : ∀ (x : Int × Int) (rs : List (Int × Int)), zipD ((x :: rs).map rowD) (rs.map rowD) = (List.zip (x :: rs) rs).map fun q => .tuple [rowD q.1, rowD q.2]
  | x, [] => rfl
  | x, y :: r => by
    have ih := zip_rows y r
    simp only [List.map_cons, zipD, List.zip_cons_cons]
    simp only [List.map_cons] at ih
    rw [ih]
theorem cut1 {α : Type} (x : α) (r : List α) : cutL (x :: r) (some 1) none = r := by
  unfold cutL
  rw [show HT.sIx (x :: r).length 0 (some 1) = min 1 (x :: r).length from HT.sIx_nat _ 0 1, HT.sIx_none]
  have : min 1 (x :: r).length = 1 := by simp
  rw [this]
  simp
theorem zip_pw {α : Type} {Rr : α → α → Prop} : ∀ (x : α) (r : List α), (x :: r).Pairwise Rr → ∀ q ∈ List.zip (x :: r) r, Rr q.1 q.2
  | x, [], _, q, hq => by simp at hq
  | x, y :: r, h, q, hq => by
    rw [List.zip_cons_cons] at hq
    rw [List.pairwise_cons] at h
    rcases List.mem_cons.mp hq with e | hq
    · subst e
      exact h.1 y List.mem_cons_self
    · exact zip_pw y r h.2 q hq
theorem V_rows {rs : List (Int × Int)} (h : Rows rs) : V_are_rows [rowsD rs] = .ok (.bool true) := by
  have hl : (rs.map rowD).length ≤ 12 := by simpa using h.len
  have e0 : lcS (itL (vP 0)) [1] (.nm 1) yesB (callS (consA (vP 1) nilA) V_is_row []) [.im (rowsD rs), .no, .no, .no] = .ok (.list ((rs.map fun _ => true).map .bool)) := by
    have z : lcGo (.nm 1) yesB (callS (consA (vP 1) nilA) V_is_row []) (wipeD [.im (rowsD rs), .no, .no, .no] [1]) (rs.map rowD) = .ok ((rs.map rowD).map fun _ => .bool true) := by
      refine lcGo_map fun x hx => ?_
      obtain ⟨p, hp, rfl⟩ := List.mem_map.mp hx
      have := h.wk p hp
      refine ⟨_, rfl, rfl, ?_⟩
      simp [wipeD, setS, setN, parPP, parNP, parPN, parNN, toO, toB, ifS, retS, exS, appS, extS, dputS, frzS, nxS, vP, vT, cS, op1, op2, gI, addI, subI, mulI, divI, modI, powI, ltI, leI, gtI, geI, minI, maxI, bS, bO, andB, orB, notB, andV, orV, notV, chI, ifE, tupS, lstS, nilA, consA, callS, callK, isiS, lenD, intD, ixD, atR, dgetD, big, plS, plainD, V_row, this]
    have hl2 : rs.length ≤ 1000000 := by have := h.len; omega
    simp [lcS, itL, vP, rowsD, big, hl2]
    simp [rowsD] at z
    rw [z]
    simp
  have e1 : g_are_rows_1 [.im (rowsD rs), .no, .no, .no] = .nx [.im (rowsD rs), .no, .no, .no] := by
    have hl3 : ¬ (12 : Int) < rs.length := by have := h.len; omega
    simp only [g_are_rows_1, ifS, toB, orB, notB, bS, isiS, op1, op2, vP, cS, e0]
    have : blsO (List.map (PyData.bool ∘ fun x => true) rs) = some (rs.map fun _ => true) := by
      rw [← List.map_map]
      exact blsO_map _
    simp [isiLst, rowsD, allD, setS, setN, parPP, parNP, parPN, parNN, toO, toB, ifS, retS, exS, appS, extS, dputS, frzS, nxS, vP, vT, cS, op1, op2, gI, addI, subI, mulI, divI, modI, powI, ltI, leI, gtI, geI, minI, maxI, bS, bO, andB, orB, notB, andV, orV, notV, chI, ifE, tupS, lstS, nilA, consA, callS, callK, isiS, lenD, intD, ixD, atR, dgetD, big, plS, plainD, hl3, this]
  have e2 : ∃ bs : List Bool, bs.all id = true ∧ lcS (itZ (vP 0) (slL (vP 0) (someO (cS (.int 1))) noO)) [2, 3] (.pr 2 3) yesB (op2 ltI (op2 ixD (vP 2) (cS (.int 0))) (op2 ixD (vP 3) (cS (.int 0)))) [.im (rowsD rs), .no, .no, .no] = .ok (.list (bs.map .bool)) := by
    cases rs with
    | nil => exact ⟨[], rfl, rfl⟩
    | cons x r =>
      have z : lcGo (.pr 2 3) yesB (op2 ltI (op2 ixD (vP 2) (cS (.int 0))) (op2 ixD (vP 3) (cS (.int 0)))) (wipeD [.im (rowsD (x :: r)), .no, .no, .no] [2, 3]) ((List.zip (x :: r) r).map fun q => .tuple [rowD q.1, rowD q.2]) = .ok (((List.zip (x :: r) r).map fun q => PyData.tuple [rowD q.1, rowD q.2]).map fun _ => .bool true) := by
        refine lcGo_map fun y hy => ?_
        obtain ⟨q, hq, rfl⟩ := List.mem_map.mp hy
        refine ⟨_, rfl, rfl, ?_⟩
        have hlt : q.1.1 < q.2.1 := zip_pw x r h.up q hq
        simp [wipeD, setS, setN, parPP, parNP, parPN, parNN, toO, toB, ifS, retS, exS, appS, extS, dputS, frzS, nxS, vP, vT, cS, op1, op2, gI, addI, subI, mulI, divI, modI, powI, ltI, leI, gtI, geI, minI, maxI, bS, bO, andB, orB, notB, andV, orV, notV, chI, ifE, tupS, lstS, nilA, consA, callS, callK, isiS, lenD, intD, ixD, atR, dgetD, big, plS, plainD, rowD, at0, hlt]
      refine ⟨(List.zip (x :: r) r).map fun _ => true, by simp, ?_⟩
      have hz := zip_rows x r
      have hb : ((List.zip (x :: r) r).map fun q => PyData.tuple [rowD q.1, rowD q.2]).length ≤ big := by
        have := h.len
        simp only [List.length_cons] at this
        simp [big]
        omega
      have hi : itZ (vP 0) (slL (vP 0) (someO (cS (.int 1))) noO) [.im (rowsD (x :: r)), .no, .no, .no] = .ok ((List.zip (x :: r) r).map fun q => .tuple [rowD q.1, rowD q.2]) := by
        rw [← hz]
        simp [itZ, slL, someO, noO, vP, cS, rowsD, cut1]
      unfold lcS
      rw [hi, R.ok_bind, if_pos hb, z]
      simp
  obtain ⟨bs, hb, e2⟩ := e2
  have e3 : g_are_rows_2 [.im (rowsD rs), .no, .no, .no] = .rt (.bool true) := by
    simp only [g_are_rows_2, retS, toO, op1, e2, R.ok_bind, allD, blsO_map, hb]
  show bodyS 4 [false] g_are_rows [rowsD rs] = _
  rw [bodyS, g_are_rows, show startS 4 [false] [rowsD rs] = [.im (rowsD rs), .no, .no, .no] from rfl, seq_nx e1, e3]
theorem V_look {rs : List (Int × Int)} (h : Rows rs) : V_look_rows [rowsD rs] = .ok .none := by
  simp [V_look_rows, bodyS, startS, g_look_rows, g_look_rows_1, setS, setN, parPP, parNP, parPN, parNN, toO, toB, ifS, retS, exS, appS, extS, dputS, frzS, nxS, vP, vT, cS, op1, op2, gI, addI, subI, mulI, divI, modI, powI, ltI, leI, gtI, geI, minI, maxI, bS, bO, andB, orB, notB, andV, orV, notV, chI, ifE, tupS, lstS, nilA, consA, callS, callK, isiS, lenD, intD, ixD, atR, dgetD, big, plS, plainD, V_rows h]
theorem V_lookn {i a b : Int} (h1 : a ≤ i) (h2 : i ≤ b) : V_look_number [.int i, .int a, .int b] = .ok .none := by
  simp [V_look_number, bodyS, startS, g_look_number, g_look_number_1, setS, setN, parPP, parNP, parPN, parNN, toO, toB, ifS, retS, exS, appS, extS, dputS, frzS, nxS, vP, vT, cS, op1, op2, gI, addI, subI, mulI, divI, modI, powI, ltI, leI, gtI, geI, minI, maxI, bS, bO, andB, orB, notB, andV, orV, notV, chI, ifE, tupS, lstS, nilA, consA, callS, callK, isiS, lenD, intD, ixD, atR, dgetD, big, plS, plainD, V_number, h1, h2]
theorem V_looka {cs ns : List (Int × Int)} {s : Int} (hc : Rows cs) (hn : Rows ns) (h1 : 1 ≤ s) (h2 : s ≤ 4) : V_look_all [rowsD cs, rowsD ns, .int s] = .ok .none := by
  have e1 : g_look_all_1 [.im (rowsD cs), .im (rowsD ns), .im (.int s)] = .nx [.im (rowsD cs), .im (rowsD ns), .im (.int s)] := by
    simp [g_look_all_1, setS, setN, parPP, parNP, parPN, parNN, toO, toB, ifS, retS, exS, appS, extS, dputS, frzS, nxS, vP, vT, cS, op1, op2, gI, addI, subI, mulI, divI, modI, powI, ltI, leI, gtI, geI, minI, maxI, bS, bO, andB, orB, notB, andV, orV, notV, chI, ifE, tupS, lstS, nilA, consA, callS, callK, isiS, lenD, intD, ixD, atR, dgetD, big, plS, plainD, V_look hc]
  have e2 : g_look_all_2 [.im (rowsD cs), .im (rowsD ns), .im (.int s)] = .nx [.im (rowsD cs), .im (rowsD ns), .im (.int s)] := by
    simp [g_look_all_2, setS, setN, parPP, parNP, parPN, parNN, toO, toB, ifS, retS, exS, appS, extS, dputS, frzS, nxS, vP, vT, cS, op1, op2, gI, addI, subI, mulI, divI, modI, powI, ltI, leI, gtI, geI, minI, maxI, bS, bO, andB, orB, notB, andV, orV, notV, chI, ifE, tupS, lstS, nilA, consA, callS, callK, isiS, lenD, intD, ixD, atR, dgetD, big, plS, plainD, V_look hn]
  have e3 : g_look_all_3 [.im (rowsD cs), .im (rowsD ns), .im (.int s)] = .nx [.im (rowsD cs), .im (rowsD ns), .im (.int s)] := by
    simp [g_look_all_3, setS, setN, parPP, parNP, parPN, parNN, toO, toB, ifS, retS, exS, appS, extS, dputS, frzS, nxS, vP, vT, cS, op1, op2, gI, addI, subI, mulI, divI, modI, powI, ltI, leI, gtI, geI, minI, maxI, bS, bO, andB, orB, notB, andV, orV, notV, chI, ifE, tupS, lstS, nilA, consA, callS, callK, isiS, lenD, intD, ixD, atR, dgetD, big, plS, plainD, V_lookn h1 h2]
  show bodyS 3 [false, false, false] g_look_all [rowsD cs, rowsD ns, .int s] = _
  rw [bodyS, g_look_all, show startS 3 [false, false, false] [rowsD cs, rowsD ns, .int s] = [.im (rowsD cs), .im (rowsD ns), .im (.int s)] from rfl, seq_nx e1, seq_nx e2, e3]
end Cb
namespace Cb
open PySem PySem.Spec PyProof.Rows L2
/-! ### dicts of ints -/
def kvD (p : Int × Int) : PyData × PyData := (.int p.1, .int p.2)
def dI (l : List (Int × Int)) : PyData := .dict (l.map kvD)
theorem keyOf_int (i : Int) : keyOf (.int i) = some (.inl i) := rfl
theorem map_no {o v : Int} : ∀ {l : List (Int × Int)}, o ∉ l.map (·.1) → (l.map kvD).map (fun kv => if keyOf kv.1 = some (.inl o) then (kv.1, PyData.int v) else kv) = l.map kvD
  | [], _ => rfl
  | p :: r, h => by
    have h1 : ¬ p.1 = o := fun e => h (by simp [e])
    have h2 : o ∉ r.map (·.1) := fun e => h (List.mem_cons_of_mem _ e)
    rw [List.map_cons, List.map_cons, map_no h2]
    have : ¬ keyOf (kvD p).1 = some (.inl o) := by
      intro z
      have z : some (Sum.inl p.1 : Key) = some (.inl o) := z
      injection z with z
      injection z with z
      exact h1 z
    rw [if_neg this]
theorem dput_mid {pre post : List (Int × Int)} {o a v : Int} (h1 : o ∉ pre.map (·.1)) (h2 : o ∉ post.map (·.1)) : dput ((pre ++ (o, a) :: post).map kvD) (.inl o) (.int v) = (pre ++ (o, v) :: post).map kvD := by
  unfold dput
  rw [if_pos (by simp [kvD, keyOf_int])]
  rw [List.map_append, List.map_append, List.map_append, List.map_cons, List.map_cons, List.map_cons, map_no h1, map_no h2]
  rw [if_pos (by rfl)]
  rfl
theorem dlook_no {o : Int} : ∀ {l : List (Int × Int)} {r : KVs}, o ∉ l.map (·.1) → dlook (l.map kvD ++ r) (.inl o) = dlook r (.inl o)
  | [], _, _ => rfl
  | p :: l, r, h => by
    have h1 : ¬ p.1 = o := fun e => h (by simp [e])
    have h2 : o ∉ l.map (·.1) := fun e => h (List.mem_cons_of_mem _ e)
    have ih := dlook_no (r := r) h2
    rw [← ih]
    have : ¬ keyOf (kvD p).1 = some (.inl o) := by
      intro z
      have z : some (Sum.inl p.1 : Key) = some (.inl o) := z
      injection z with z
      injection z with z
      exact h1 z
    simp [dlook, List.find?_cons, this]
theorem dlook_mid {pre post : List (Int × Int)} {o a : Int} (h1 : o ∉ pre.map (·.1)) : dlook ((pre ++ (o, a) :: post).map kvD) (.inl o) = some (.int a) := by
  rw [List.map_append, dlook_no h1]
  simp [dlook, kvD, keyOf_int]
theorem dput_new {l : List (Int × Int)} {o v : Int} (h : o ∉ l.map (·.1)) : dput (l.map kvD) (.inl o) (.int v) = (l ++ [(o, v)]).map kvD := by
  unfold dput
  rw [if_neg]
  · rw [List.map_append]
    rfl
  · simp only [List.any_eq_true, not_exists, not_and, decide_eq_true_eq]
    intro x hx z
    obtain ⟨p, hp, rfl⟩ := List.mem_map.mp hx
    have z : some (Sum.inl p.1 : Key) = some (.inl o) := z
    injection z with z
    injection z with z
    exact h (List.mem_map.mpr ⟨p, hp, z⟩)
theorem merge_new : ∀ (l acc : List (Int × Int)), ((acc ++ l).map (·.1)).Nodup → dmerge (acc.map kvD) (l.map fun p => (Sum.inl p.1, PyData.int p.2)) = (acc ++ l).map kvD
  | [], acc, _ => by simp [dmerge]
  | p :: r, acc, h => by
    have h1 : p.1 ∉ acc.map (·.1) := by
      rw [List.map_append, List.nodup_append] at h
      intro z
      exact h.2.2 _ z _ List.mem_cons_self rfl
    have ih := merge_new r (acc ++ [p]) (by simpa using h)
    unfold dmerge at ih ⊢
    rw [List.map_cons, List.foldl_cons, dput_new h1, ih]
    simp
theorem pairs_rows : ∀ rs : List (Int × Int), pairsO (rs.map rowD) = some (rs.map fun p => (Sum.inl p.1, PyData.int p.2))
  | [] => rfl
  | p :: r => by
    have ih := pairs_rows r
    simp only [List.map_cons, rowD, pairsO, keyOf_int] at ih ⊢
    rw [ih]
theorem dict_rows {rs : List (Int × Int)} (h : (rs.map (·.1)).Nodup) : dictD (rowsD rs) = .ok (dI rs) := by
  simp only [dictD, rowsD, pairs_rows]
  have := merge_new rs [] (by simpa using h)
  simp only [List.map_nil, List.nil_append] at this
  rw [this]
  rfl
theorem ints_keys : ∀ l : List (Int × Int), intsO ((l.map kvD).map (·.1)) = some (l.map (·.1))
  | [] => rfl
  | p :: r => by
    have ih := ints_keys r
    simp only [List.map_cons, kvD, intsO] at ih ⊢
    rw [ih]
    rfl
theorem sort_keys {l : List (Int × Int)} (h : (l.map (·.1)).Pairwise (· < ·)) (h2 : l.length < 64) : sortD (dI l) = .ok (.list ((l.map (·.1)).map .int)) := by
  have e : l.map (·.1) = sortI (l.map (·.1)) := sortI_uniq (.refl _) (h.imp fun h => by omega)
  simp only [sortD, dI, ints_keys]
  rw [← e]
  simp [h2]
/-! ### what is taken in a week: what is left, the rows -/
def mn (a n : Int) : Int := if n < a then n else a
def tkL (w s : Int) : List (Int × Int) → Int → List (Int × Int)
  | [], _ => []
  | (o, a) :: r, n => if (o ≤ w ∧ w < o + s) ∧ 0 < (mn a n) then (o, a - (mn a n)) :: tkL w s r (n - (mn a n)) else (o, a) :: tkL w s r n
def tkR (w s : Int) : List (Int × Int) → Int → List (Int × Int)
  | [], _ => []
  | (o, a) :: r, n => if (o ≤ w ∧ w < o + s) ∧ 0 < (mn a n) then (o, (mn a n)) :: tkR w s r (n - (mn a n)) else tkR w s r n
def tkN (w s : Int) : List (Int × Int) → Int → Int
  | [], n => n
  | (o, a) :: r, n => if (o ≤ w ∧ w < o + s) ∧ 0 < (mn a n) then tkN w s r (n - (mn a n)) else tkN w s r n
theorem tkL_keys (w s : Int) : ∀ (l : List (Int × Int)) (n : Int), (tkL w s l n).map (·.1) = l.map (·.1)
  | [], _ => rfl
  | (o, a) :: r, n => by
    unfold tkL
    split
    · simp [tkL_keys w s r]
    · simp [tkL_keys w s r]
theorem tkL_len (w s : Int) (l : List (Int × Int)) (n : Int) : (tkL w s l n).length = l.length := by
  have := congrArg List.length (tkL_keys w s l n)
  simpa using this
theorem tkR_len (w s : Int) : ∀ (l : List (Int × Int)) (n : Int), (tkR w s l n).length ≤ l.length
  | [], _ => Nat.le_refl _
  | (o, a) :: r, n => by
    unfold tkR
    split
    · simpa using tkR_len w s r _
    · have := tkR_len w s r n
      simp
      omega
theorem V_good (o w s : Int) : V_is_good_in [.int o, .int w, .int s] = .ok (.bool (decide (o ≤ w) && decide (w < o + s))) := by
  by_cases h : o ≤ w
  · simp [V_is_good_in, bodyS, startS, g_is_good_in, g_is_good_in_1, setS, setN, parPP, parNP, parPN, parNN, toO, toB, ifS, retS, exS, appS, extS, dputS, frzS, nxS, vP, vT, cS, op1, op2, gI, addI, subI, mulI, divI, modI, powI, ltI, leI, gtI, geI, minI, maxI, bS, bO, andB, orB, notB, andV, orV, notV, chI, ifE, tupS, lstS, nilA, consA, callS, callK, isiS, lenD, intD, ixD, atR, dgetD, big, plS, plainD, h]
  · simp [V_is_good_in, bodyS, startS, g_is_good_in, g_is_good_in_1, setS, setN, parPP, parNP, parPN, parNN, toO, toB, ifS, retS, exS, appS, extS, dputS, frzS, nxS, vP, vT, cS, op1, op2, gI, addI, subI, mulI, divI, modI, powI, ltI, leI, gtI, geI, minI, maxI, bS, bO, andB, orB, notB, andV, orV, notV, chI, ifE, tupS, lstS, nilA, consA, callS, callK, isiS, lenD, intD, ixD, atR, dgetD, big, plS, plainD, h]
theorem taken_go {l : List (Int × Int)} {w m s : Int} : ∀ (post pre : List (Int × Int)) (acc : List PyData) (n : Int) (x y : Sl), l = pre ++ post → (l.map (·.1)).Nodup → acc.length + post.length ≤ 1000 →
    ∃ x' y', forGo (.nm 6) g_taken_2B ((post.map (·.1)).map .int) [.bw (dI l), .im (.int w), .im (.int m), .im (.int s), .ow (.list acc), .im (.int n), x, y] = .nx [.bw (dI l), .im (.int w), .im (.int m), .im (.int s), .ow (.list (acc ++ (tkR w s post n).map rowD)), .im (.int (tkN w s post n)), x', y']
  | [], pre, acc, n, x, y, _, _, _ => ⟨x, y, by simp [forGo, tkR, tkN]⟩
  | (o, a) :: r, pre, acc, n, x, y, e, nd, hl => by
    have h1 : o ∉ pre.map (·.1) := by
      rw [e, List.map_append, List.nodup_append] at nd
      intro z
      exact nd.2.2 _ z _ List.mem_cons_self rfl
    have lk : dlook (l.map kvD) (.inl o) = some (.int a) := by rw [e]; exact dlook_mid h1
    have e1 : g_taken_2b_1 [.bw (dI l), .im (.int w), .im (.int m), .im (.int s), .ow (.list acc), .im (.int n), .im (.int o), y] = .nx [.bw (dI l), .im (.int w), .im (.int m), .im (.int s), .ow (.list acc), .im (.int n), .im (.int o), .im (.int (mn a n))] := by
      simp [g_taken_2b_1, setS, setN, parPP, parNP, parPN, parNN, toO, toB, ifS, retS, exS, appS, extS, dputS, frzS, nxS, vP, vT, cS, op1, op2, gI, addI, subI, mulI, divI, modI, powI, ltI, leI, gtI, geI, minI, maxI, bS, bO, andB, orB, notB, andV, orV, notV, chI, ifE, tupS, lstS, nilA, consA, callS, callK, isiS, lenD, intD, ixD, atR, dgetD, big, plS, plainD, dI, keyOf_int, lk, mn]
    have hl2 : acc.length ≤ 1000000 := by simp only [List.length_cons] at hl; omega
    by_cases hc : (o ≤ w ∧ w < o + s) ∧ 0 < (mn a n)
    · have e2 : g_taken_2b_2 [.bw (dI l), .im (.int w), .im (.int m), .im (.int s), .ow (.list acc), .im (.int n), .im (.int o), .im (.int (mn a n))] = .nx [.bw (dI l), .im (.int w), .im (.int m), .im (.int s), .ow (.list (acc ++ [rowD (o, mn a n)])), .im (.int (n - (mn a n))), .im (.int o), .im (.int (mn a n))] := by
        obtain ⟨⟨c1, c2⟩, c3⟩ := hc
        have c1' : decide (o ≤ w) = true := decide_eq_true c1
        have c2' : decide (w < o + s) = true := decide_eq_true c2
        have c3' : decide (0 < (mn a n)) = true := decide_eq_true c3
        simp only [g_taken_2b_2, ifS, andB, bS, callS, consA, nilA, vP, cS, op2, gtI, gI, R.ok_bind, List.getElem?_cons_zero, List.getElem?_cons_succ, List.append_nil, V_good, bO, c1', c2', c3', Bool.and_self, if_true, toB]
        simp [seqS, g_taken_2b_2t_1, g_taken_2b_2t_2, setS, setN, parPP, parNP, parPN, parNN, toO, toB, ifS, retS, exS, appS, extS, dputS, frzS, nxS, vP, vT, cS, op1, op2, gI, addI, subI, mulI, divI, modI, powI, ltI, leI, gtI, geI, minI, maxI, bS, bO, andB, orB, notB, andV, orV, notV, chI, ifE, tupS, lstS, nilA, consA, callS, callK, isiS, lenD, intD, ixD, atR, dgetD, big, plS, plainD, hl2, rowD]
      obtain ⟨x', y', ih⟩ := taken_go (m := m) r (pre ++ [(o, a)]) (acc ++ [rowD (o, mn a n)]) (n - (mn a n)) (.im (.int o)) (.im (.int (mn a n))) (by rw [e]; simp) nd (by simp only [List.length_cons] at hl; simp; omega)
      refine ⟨x', y', ?_⟩
      rw [List.map_cons, List.map_cons, forGo_cons (ds1 := [.bw (dI l), .im (.int w), .im (.int m), .im (.int s), .ow (.list acc), .im (.int n), .im (.int o), y]) rfl (show g_taken_2B _ = _ by rw [g_taken_2B, seq_nx e1, e2]), ih]
      simp only [tkR, tkN, if_pos hc, List.map_cons, List.append_assoc, List.singleton_append]
    · have e2 : g_taken_2b_2 [.bw (dI l), .im (.int w), .im (.int m), .im (.int s), .ow (.list acc), .im (.int n), .im (.int o), .im (.int (mn a n))] = .nx [.bw (dI l), .im (.int w), .im (.int m), .im (.int s), .ow (.list acc), .im (.int n), .im (.int o), .im (.int (mn a n))] := by
        by_cases c1 : (decide (o ≤ w) && decide (w < o + s)) = true
        · have c3 : ¬ 0 < (mn a n) := fun z => hc ⟨by simpa using c1, z⟩
          have c3' : decide (0 < (mn a n)) = false := decide_eq_false c3
          simp only [g_taken_2b_2, ifS, andB, bS, callS, consA, nilA, vP, cS, op2, gtI, gI, R.ok_bind, List.getElem?_cons_zero, List.getElem?_cons_succ, List.append_nil, V_good, bO, c1, c3', if_true, toB]
          simp [nxS]
        · have c1' : (decide (o ≤ w) && decide (w < o + s)) = false := by simpa using c1
          simp only [g_taken_2b_2, ifS, andB, bS, callS, consA, nilA, vP, cS, op2, gtI, gI, R.ok_bind, List.getElem?_cons_zero, List.getElem?_cons_succ, List.append_nil, V_good, bO, c1', toB]
          simp [nxS]
      obtain ⟨x', y', ih⟩ := taken_go (m := m) r (pre ++ [(o, a)]) acc n (.im (.int o)) (.im (.int (mn a n))) (by rw [e]; simp) nd (by simp only [List.length_cons] at hl; omega)
      refine ⟨x', y', ?_⟩
      rw [List.map_cons, List.map_cons, forGo_cons (ds1 := [.bw (dI l), .im (.int w), .im (.int m), .im (.int s), .ow (.list acc), .im (.int n), .im (.int o), y]) rfl (show g_taken_2B _ = _ by rw [g_taken_2B, seq_nx e1, e2]), ih]
      simp only [tkR, tkN, if_neg hc]
theorem V_tk {l : List (Int × Int)} (w m s : Int) (h : (l.map (·.1)).Pairwise (· < ·)) (h2 : l.length < 64) : V_taken [dI l, .int w, .int m, .int s] = .ok (.list ((tkR w s l m).map rowD)) := by
  have nd : (l.map (·.1)).Nodup := h.imp fun h => by omega
  obtain ⟨x', y', e⟩ := taken_go (l := l) (w := w) (m := m) (s := s) l [] [] m .no .no rfl nd (by simp; omega)
  have e1 : g_taken_1 [.bw (dI l), .im (.int w), .im (.int m), .im (.int s), .no, .no, .no, .no] = .nx [.bw (dI l), .im (.int w), .im (.int m), .im (.int s), .ow (.list []), .im (.int m), .no, .no] := by
    simp [g_taken_1, setS, setN, parPP, parNP, parPN, parNN, toO, toB, ifS, retS, exS, appS, extS, dputS, frzS, nxS, vP, vT, cS, op1, op2, gI, addI, subI, mulI, divI, modI, powI, ltI, leI, gtI, geI, minI, maxI, bS, bO, andB, orB, notB, andV, orV, notV, chI, ifE, tupS, lstS, nilA, consA, callS, callK, isiS, lenD, intD, ixD, atR, dgetD, big, plS, plainD]
  have e2 : g_taken_2 [.bw (dI l), .im (.int w), .im (.int m), .im (.int s), .ow (.list []), .im (.int m), .no, .no] = .nx [.bw (dI l), .im (.int w), .im (.int m), .im (.int s), .ow (.list ([] ++ (tkR w s l m).map rowD)), .im (.int (tkN w s l m)), x', y'] := by
    rw [← e]
    simp only [g_taken_2, forS, itL, op1, vT, List.getElem?_cons_zero, R.ok_bind, sort_keys h h2]
  show bodyS 8 [true, false, false, false] g_taken [dI l, .int w, .int m, .int s] = _
  rw [bodyS, g_taken, show startS 8 [true, false, false, false] [dI l, .int w, .int m, .int s] = [.bw (dI l), .im (.int w), .im (.int m), .im (.int s), .no, .no, .no, .no] from rfl, seq_nx e1, seq_nx e2]
  simp [frzS, g_taken_3, setS, setN, parPP, parNP, parPN, parNN, toO, toB, ifS, retS, exS, appS, extS, dputS, frzS, nxS, vP, vT, cS, op1, op2, gI, addI, subI, mulI, divI, modI, powI, ltI, leI, gtI, geI, minI, maxI, bS, bO, andB, orB, notB, andV, orV, notV, chI, ifE, tupS, lstS, nilA, consA, callS, callK, isiS, lenD, intD, ixD, atR, dgetD, big, plS, plainD]
end Cb
namespace Cb
open PySem PySem.Spec PyProof.Rows L2
def row3 (w : Int) (p : Int × Int) : PyData := .tuple [.int w, .int p.1, .int p.2]
/-- what is served: what is left, and the rows -/
def svL (s : Int) : List (Int × Int) → List (Int × Int) → List (Int × Int)
  | l, [] => l
  | l, (w, m) :: r => svL s (tkL w s l m) r
def svR (s : Int) : List (Int × Int) → List (Int × Int) → List (Int × Int × Int)
  | _, [] => []
  | l, (w, m) :: r => (tkR w s l m).map (fun p => (w, p)) ++ svR s (tkL w s l m) r
def row3D (t : Int × Int × Int) : PyData := row3 t.1 t.2
theorem svR_len (s : Int) : ∀ (ns l : List (Int × Int)), (svR s l ns).length ≤ l.length * ns.length
  | [], _ => Nat.zero_le _
  | (w, m) :: r, l => by
    have ih := svR_len s r (tkL w s l m)
    have h := tkR_len w s l m
    rw [tkL_len] at ih
    simp only [svR, List.length_append, List.length_map, List.length_cons, Nat.mul_succ]
    omega
theorem serve_in {d0 d1 : Sl} {w m s : Int} : ∀ (post pre : List (Int × Int)) (acc : List PyData) (n : Int) (x y : Sl), ((pre ++ post).map (·.1)).Nodup → acc.length + post.length ≤ 10000 → pre.length + post.length ≤ 1000 →
    ∃ x' y', forGo (.pr 7 8) g_serve_2b_1B ((tkR w s post n).map rowD) [d0, d1, .im (.int s), .ow (dI (pre ++ post)), .ow (.list acc), .im (.int w), .im (.int m), x, y] = .nx [d0, d1, .im (.int s), .ow (dI (pre ++ tkL w s post n)), .ow (.list (acc ++ (tkR w s post n).map (row3 w))), .im (.int w), .im (.int m), x', y']
  | [], pre, acc, n, x, y, _, _, _ => ⟨x, y, by simp [forGo, tkR, tkL]⟩
  | (o, a) :: r, pre, acc, n, x, y, nd, hl, hp => by
    have h1 : o ∉ pre.map (·.1) := by
      rw [List.map_append, List.nodup_append] at nd
      intro z
      exact nd.2.2 _ z _ List.mem_cons_self rfl
    have h2 : o ∉ r.map (·.1) := by
      rw [List.map_append, List.nodup_append] at nd
      have := nd.2.1
      rw [List.map_cons, List.nodup_cons] at this
      exact this.1
    by_cases hc : (o ≤ w ∧ w < o + s) ∧ 0 < mn a n
    · have lk := dlook_mid (post := r) (a := a) h1
      have pt := dput_mid (post := r) (a := a) (v := a - mn a n) h1 h2
      have hz : (pre ++ (o, a) :: r).length ≤ 1000000 := by simp only [List.length_append, List.length_cons] at hp ⊢; omega
      have hz2 : acc.length ≤ 1000000 := by simp only [List.length_cons] at hl; omega
      have e1 : g_serve_2b_1b_1 [d0, d1, .im (.int s), .ow (dI (pre ++ (o, a) :: r)), .ow (.list acc), .im (.int w), .im (.int m), .im (.int o), .im (.int (mn a n))] = .nx [d0, d1, .im (.int s), .ow (dI (pre ++ (o, a - mn a n) :: r)), .ow (.list acc), .im (.int w), .im (.int m), .im (.int o), .im (.int (mn a n))] := by
        simp only [g_serve_2b_1b_1, setS, setN, parPP, parNP, parPN, parNN, toO, toB, ifS, retS, exS, appS, extS, dputS, frzS, nxS, vP, vT, cS, op1, op2, gI, addI, subI, mulI, divI, modI, powI, ltI, leI, gtI, geI, minI, maxI, bS, bO, andB, orB, notB, andV, orV, notV, chI, ifE, tupS, lstS, nilA, consA, callS, callK, isiS, lenD, intD, ixD, atR, dgetD, big, plS, plainD, dI, List.getElem?_cons_zero, List.getElem?_cons_succ, R.ok_bind, keyOf_int, lk, pt, List.length_map, if_pos hz, List.set_cons_zero, List.set_cons_succ]
      have e2 : g_serve_2b_1b_2 [d0, d1, .im (.int s), .ow (dI (pre ++ (o, a - mn a n) :: r)), .ow (.list acc), .im (.int w), .im (.int m), .im (.int o), .im (.int (mn a n))] = .nx [d0, d1, .im (.int s), .ow (dI (pre ++ (o, a - mn a n) :: r)), .ow (.list (acc ++ [row3 w (o, mn a n)])), .im (.int w), .im (.int m), .im (.int o), .im (.int (mn a n))] := by
        simp [g_serve_2b_1b_2, setS, setN, parPP, parNP, parPN, parNN, toO, toB, ifS, retS, exS, appS, extS, dputS, frzS, nxS, vP, vT, cS, op1, op2, gI, addI, subI, mulI, divI, modI, powI, ltI, leI, gtI, geI, minI, maxI, bS, bO, andB, orB, notB, andV, orV, notV, chI, ifE, tupS, lstS, nilA, consA, callS, callK, isiS, lenD, intD, ixD, atR, dgetD, big, plS, plainD, hz2, row3]
      obtain ⟨x', y', ih⟩ := serve_in (d0 := d0) (d1 := d1) (w := w) (m := m) (s := s) r (pre ++ [(o, a - mn a n)]) (acc ++ [row3 w (o, mn a n)]) (n - mn a n) (.im (.int o)) (.im (.int (mn a n))) (by simpa using nd) (by simp only [List.length_cons] at hl; simp; omega) (by simp only [List.length_cons] at hp; simp; omega)
      refine ⟨x', y', ?_⟩
      simp only [List.append_assoc, List.singleton_append] at ih
      simp only [tkR, tkL, if_pos hc, List.map_cons]
      rw [forGo_cons (ds1 := [d0, d1, .im (.int s), .ow (dI (pre ++ (o, a) :: r)), .ow (.list acc), .im (.int w), .im (.int m), .im (.int o), .im (.int (mn a n))]) rfl (show g_serve_2b_1B _ = _ by rw [g_serve_2b_1B, seq_nx e1, e2]), ih]
    · obtain ⟨x', y', ih⟩ := serve_in (d0 := d0) (d1 := d1) (w := w) (m := m) (s := s) r (pre ++ [(o, a)]) acc n x y (by simpa using nd) (by simp only [List.length_cons] at hl; omega) (by simp only [List.length_cons] at hp; simp; omega)
      refine ⟨x', y', ?_⟩
      simp only [List.append_assoc, List.singleton_append] at ih
      simp only [tkR, tkL, if_neg hc]
      exact ih
theorem serve_go {d0 d1 : Sl} {s : Int} : ∀ (ns l : List (Int × Int)) (acc : List PyData) (z1 z2 x y : Sl), (l.map (·.1)).Pairwise (· < ·) → l.length < 64 → acc.length + l.length * ns.length ≤ 9000 →
    ∃ z1' z2' x' y', forGo (.pr 5 6) g_serve_2B (ns.map rowD) [d0, d1, .im (.int s), .ow (dI l), .ow (.list acc), z1, z2, x, y] = .nx [d0, d1, .im (.int s), .ow (dI (svL s l ns)), .ow (.list (acc ++ (svR s l ns).map row3D)), z1', z2', x', y']
  | [], l, acc, z1, z2, x, y, _, _, _ => ⟨z1, z2, x, y, by simp [forGo, svL, svR]⟩
  | (w, m) :: r, l, acc, z1, z2, x, y, hp, hl, ha => by
    have nd : (l.map (·.1)).Nodup := hp.imp fun h => by omega
    obtain ⟨x1, y1, e⟩ := serve_in (d0 := d0) (d1 := d1) (w := w) (m := m) (s := s) l [] acc m x y (by simpa using nd) (by simp only [List.length_cons, Nat.mul_succ] at ha; omega) (by simp; omega)
    have hr := tkR_len w s l m
    obtain ⟨a1, a2, a3, a4, ih⟩ := serve_go (d0 := d0) (d1 := d1) (s := s) r (tkL w s l m) (acc ++ (tkR w s l m).map (row3 w)) (.im (.int w)) (.im (.int m)) x1 y1 (by rw [tkL_keys]; exact hp) (by rw [tkL_len]; exact hl) (by
      rw [tkL_len, List.length_append, List.length_map]
      simp only [List.length_cons, Nat.mul_succ] at ha
      omega)
    refine ⟨a1, a2, a3, a4, ?_⟩
    have eb : g_serve_2B [d0, d1, .im (.int s), .ow (dI l), .ow (.list acc), .im (.int w), .im (.int m), x, y] = .nx [d0, d1, .im (.int s), .ow (dI (tkL w s l m)), .ow (.list (acc ++ (tkR w s l m).map (row3 w))), .im (.int w), .im (.int m), x1, y1] := by
      simp only [List.nil_append] at e
      rw [← e]
      simp only [g_serve_2B, g_serve_2b_1, forS, itL, callS, consA, nilA, vT, vP, List.getElem?_cons_zero, List.getElem?_cons_succ, R.ok_bind, List.append_nil, V_tk w m s hp hl]
    rw [List.map_cons, forGo_cons (ds1 := [d0, d1, .im (.int s), .ow (dI l), .ow (.list acc), .im (.int w), .im (.int m), x, y]) rfl eb, ih]
    simp only [svL, svR, List.map_append, List.map_map, List.append_assoc]
    rfl
theorem rows_pw {rs : List (Int × Int)} (h : Rows rs) : (rs.map (·.1)).Pairwise (· < ·) := by
  rw [List.pairwise_map]
  exact h.up
theorem rows_nd {rs : List (Int × Int)} (h : Rows rs) : (rs.map (·.1)).Nodup := (rows_pw h).imp fun h => by omega
/-- serve, whatever the rows of coupons are, if their weeks rise -/
theorem V_sv {cs ns : List (Int × Int)} (s : Int) (h1 : (cs.map (·.1)).Pairwise (· < ·)) (h2 : cs.length < 64) (h3 : ns.length ≤ 100) : V_serve [rowsD cs, rowsD ns, .int s] = .ok (.list ((svR s cs ns).map row3D)) := by
  have nd : (cs.map (·.1)).Nodup := h1.imp fun h => by omega
  have hb : cs.length * ns.length ≤ 63 * 100 := Nat.mul_le_mul (by omega) h3
  obtain ⟨a1, a2, a3, a4, e⟩ := serve_go (d0 := .im (rowsD cs)) (d1 := .im (rowsD ns)) (s := s) ns cs [] .no .no .no .no h1 h2 (by simp; omega)
  have e1 : g_serve_1 [.im (rowsD cs), .im (rowsD ns), .im (.int s), .no, .no, .no, .no, .no, .no] = .nx [.im (rowsD cs), .im (rowsD ns), .im (.int s), .ow (dI cs), .ow (.list []), .no, .no, .no, .no] := by
    simp [g_serve_1, setS, setN, parPP, parNP, parPN, parNN, toO, toB, ifS, retS, exS, appS, extS, dputS, frzS, nxS, vP, vT, cS, op1, op2, gI, addI, subI, mulI, divI, modI, powI, ltI, leI, gtI, geI, minI, maxI, bS, bO, andB, orB, notB, andV, orV, notV, chI, ifE, tupS, lstS, nilA, consA, callS, callK, isiS, lenD, intD, ixD, atR, dgetD, big, plS, plainD, dict_rows nd]
  have e2 : g_serve_2 [.im (rowsD cs), .im (rowsD ns), .im (.int s), .ow (dI cs), .ow (.list []), .no, .no, .no, .no] = .nx [.im (rowsD cs), .im (rowsD ns), .im (.int s), .ow (dI (svL s cs ns)), .ow (.list ([] ++ (svR s cs ns).map row3D)), a1, a2, a3, a4] := by
    rw [← e]
    simp [g_serve_2, forS, itL, vP, rowsD]
  show bodyS 9 [false, false, false] g_serve [rowsD cs, rowsD ns, .int s] = _
  rw [bodyS, g_serve, show startS 9 [false, false, false] [rowsD cs, rowsD ns, .int s] = [.im (rowsD cs), .im (rowsD ns), .im (.int s), .no, .no, .no, .no, .no, .no] from rfl, seq_nx e1, seq_nx e2]
  simp [frzS, g_serve_3, setS, setN, parPP, parNP, parPN, parNN, toO, toB, ifS, retS, exS, appS, extS, dputS, frzS, nxS, vP, vT, cS, op1, op2, gI, addI, subI, mulI, divI, modI, powI, ltI, leI, gtI, geI, minI, maxI, bS, bO, andB, orB, notB, andV, orV, notV, chI, ifE, tupS, lstS, nilA, consA, callS, callK, isiS, lenD, intD, ixD, atR, dgetD, big, plS, plainD]
theorem V_srv {cs ns : List (Int × Int)} {s : Int} (hc : Rows cs) (hn : Rows ns) (h1 : 1 ≤ s) (h2 : s ≤ 4) : V_served [rowsD cs, rowsD ns, .int s] = .ok (.list ((svR s cs ns).map row3D)) := by
  have l1 := hc.len
  have l2 := hn.len
  simp [V_served, bodyS, startS, g_served, g_served_1, g_served_2, seqS, setS, setN, parPP, parNP, parPN, parNN, toO, toB, ifS, retS, exS, appS, extS, dputS, frzS, nxS, vP, vT, cS, op1, op2, gI, addI, subI, mulI, divI, modI, powI, ltI, leI, gtI, geI, minI, maxI, bS, bO, andB, orB, notB, andV, orV, notV, chI, ifE, tupS, lstS, nilA, consA, callS, callK, isiS, lenD, intD, ixD, atR, dgetD, big, plS, plainD, V_looka hc hn h1 h2, V_sv s (rows_pw hc) (show cs.length < 64 by omega) (show ns.length ≤ 100 by omega)]
/-! rows of three, compared -/
theorem can3 : ∀ l : List (Int × Int × Int), PyData.canLayAll0 (l.map row3D) = true
  | [] => rfl
  | t :: r => by
    have ih := can3 r
    simp [PyData.canLayAll0, PyData.canLay0, row3D, row3, ih]
theorem dep3 : ∀ l : List (Int × Int × Int), PyData.depthAll (l.map row3D) ≤ 3
  | [] => by simp [PyData.depthAll]
  | t :: r => by
    have ih := dep3 r
    simp [PyData.depthAll, PyData.depth, row3D, row3]
    omega
theorem sh3 (l : List (Int × Int × Int)) : SeqAt.shaped (.list (l.map row3D)) = true := by
  have h1 := can3 l
  have h2 := dep3 l
  unfold SeqAt.shaped
  simp [PyData.canLay0, PyData.depth, h1]
  omega
theorem eqv_self {d : PyData} (h : SeqAt.shaped d = true) : PyData.eqv d d = true := SeqAt.eqv_refl d (SeqAt.canLay_of_shaped h)
end Cb
namespace Cb
open PySem PySem.Spec PyProof.Rows L2
def RowsTo (i : Nat) (rs : List (Int × Int)) : Prop := rs.Pairwise (fun a b => a.1 < b.1) ∧ (∀ p ∈ rs, 0 ≤ p.1 ∧ p.1 < i ∧ 1 ≤ p.2 ∧ p.2 ≤ 5) ∧ rs.length ≤ i
theorem RowsTo.up {i : Nat} {rs : List (Int × Int)} (h : RowsTo i rs) : RowsTo (i + 1) rs := ⟨h.1, fun p hp => by have := h.2.1 p hp; omega, by have := h.2.2; omega⟩
theorem RowsTo.put {i : Nat} {rs : List (Int × Int)} (h : RowsTo i rs) {m : Int} (h1 : 1 ≤ m) (h2 : m ≤ 5) : RowsTo (i + 1) (rs ++ [((i : Int), m)]) := by
  refine ⟨?_, fun p hp => ?_, by have := h.2.2; simp; omega⟩
  · rw [List.pairwise_append]
    refine ⟨h.1, by simp, fun a ha b hb => ?_⟩
    have := h.2.1 a ha
    simp only [List.mem_singleton] at hb
    subst hb
    exact this.2.1
  · rcases List.mem_append.mp hp with hp | hp
    · have := h.2.1 p hp; omega
    · simp only [List.mem_singleton] at hp
      subst hp
      simp
      omega
theorem RowsTo.rows {i : Nat} {rs : List (Int × Int)} (h : RowsTo i rs) (hi : i ≤ 12) : Rows rs := ⟨h.1, fun p hp => by have := h.2.1 p hp; omega, by have := h.2.2; omega⟩
theorem range_at {lo : Int} {n i : Nat} {x : PyData} (h : (rangeD lo n)[i]? = some x) : i < n ∧ x = .int (lo + i) := rangeD_get h
theorem V_lrows (ns : List Int) (hl : ns.length ≤ 63) {a : Int} (h0 : 0 ≤ a) (h1 : a < 80000) : ∃ rs, Rows rs ∧ V__law_rows [.list (ns.map .int), .int a] = .ok (rowsD rs) := by
  have e1 : g__law_rows_1 [.im (.list (ns.map .int)), .im (.int a), .no, .no] = .nx [.im (.list (ns.map .int)), .im (.int a), .ow (rowsD []), .no] := by
    simp [g__law_rows_1, setS, setN, parPP, parNP, parPN, parNN, toO, toB, ifS, retS, exS, appS, extS, dputS, frzS, nxS, vP, vT, cS, op1, op2, gI, addI, subI, mulI, divI, modI, powI, ltI, leI, gtI, geI, minI, maxI, bS, bO, andB, orB, notB, andV, orV, notV, chI, ifE, tupS, lstS, nilA, consA, callS, callK, isiS, lenD, intD, ixD, atR, dgetD, big, plS, plainD, rowsD]
  have e2 := for_inv (k := .nm 3) (b := g__law_rows_2B) (fi := itR1 (cS (.int 6))) (items := rangeD 0 6) (ds := [.im (.list (ns.map .int)), .im (.int a), .ow (rowsD []), .no]) (fun i ds => ∃ rs x, RowsTo i rs ∧ ds = [.im (.list (ns.map .int)), .im (.int a), .ow (rowsD rs), x]) (by simp [itR1, cS, in62]) ⟨[], .no, ⟨.nil, by simp, by simp⟩, rfl⟩ (by
    rintro i ds x hx ⟨rs, z, hr, rfl⟩
    obtain ⟨hi, rfl⟩ := range_at hx
    obtain ⟨p, p0, p1, ep⟩ := pick_ok ns hl (k := a + 2 * i) (m := 3) (by omega) (by omega) (by omega)
    obtain ⟨q, q0, q1, eq⟩ := pick_ok ns hl (k := a + 2 * i + 1) (m := 5) (by omega) (by omega) (by omega)
    have i2 : in64 2 = true := by decide
    have hb : rs.length ≤ 1000000 := by have := hr.2.2; omega
    refine ⟨_, rfl, ?_⟩
    simp only [List.set_cons_zero, List.set_cons_succ, Int.zero_add]
    by_cases hp : 0 < p
    · refine ⟨[.im (.list (ns.map .int)), .im (.int a), .ow (rowsD (rs ++ [((i : Int), 1 + q)])), .im (.int i)], ?_, _, _, hr.put (by omega) (by omega), rfl⟩
      simp [g__law_rows_2B, g__law_rows_2b_1, g__law_rows_2b_1t_1, setS, setN, parPP, parNP, parPN, parNN, toO, toB, ifS, retS, exS, appS, extS, dputS, frzS, nxS, vP, vT, cS, op1, op2, gI, addI, subI, mulI, divI, modI, powI, ltI, leI, gtI, geI, minI, maxI, bS, bO, andB, orB, notB, andV, orV, notV, chI, ifE, tupS, lstS, nilA, consA, callS, callK, isiS, lenD, intD, ixD, atR, dgetD, big, plS, plainD, i2, ep, eq, hp, rowsD, hb, rowD]
    · refine ⟨[.im (.list (ns.map .int)), .im (.int a), .ow (rowsD rs), .im (.int i)], ?_, _, _, hr.up, rfl⟩
      simp [g__law_rows_2B, g__law_rows_2b_1, setS, setN, parPP, parNP, parPN, parNN, toO, toB, ifS, retS, exS, appS, extS, dputS, frzS, nxS, vP, vT, cS, op1, op2, gI, addI, subI, mulI, divI, modI, powI, ltI, leI, gtI, geI, minI, maxI, bS, bO, andB, orB, notB, andV, orV, notV, chI, ifE, tupS, lstS, nilA, consA, callS, callK, isiS, lenD, intD, ixD, atR, dgetD, big, plS, plainD, i2, ep, hp])
  obtain ⟨ds', e2, rs, x, hr, rfl⟩ := e2
  rw [rangeD_len] at hr
  refine ⟨rs, hr.rows (by omega), ?_⟩
  show bodyS 4 [false, false] g__law_rows _ = _
  rw [bodyS, g__law_rows, show startS 4 [false, false] [.list (ns.map .int), .int a] = [.im (.list (ns.map .int)), .im (.int a), .no, .no] from rfl, seq_nx e1, seq_nx (show g__law_rows_2 _ = _ from e2)]
  simp [frzS, g__law_rows_3, setS, setN, parPP, parNP, parPN, parNN, toO, toB, ifS, retS, exS, appS, extS, dputS, frzS, nxS, vP, vT, cS, op1, op2, gI, addI, subI, mulI, divI, modI, powI, ltI, leI, gtI, geI, minI, maxI, bS, bO, andB, orB, notB, andV, orV, notV, chI, ifE, tupS, lstS, nilA, consA, callS, callK, isiS, lenD, intD, ixD, atR, dgetD, big, plS, plainD]
end Cb
namespace Cb
open PySem PySem.Spec PyProof.Rows L2
theorem mn_comm (a n : Int) : mn n a = mn a n := by
  unfold mn
  split <;> split <;> omega
theorem ltaken_in {d0 d1 : Sl} {w m s : Int} : ∀ (post pre : List (Int × Int)) (acc : List PyData) (n : Int) (x y : Sl), ((pre ++ post).map (·.1)).Nodup → acc.length + post.length ≤ 10000 → pre.length + post.length ≤ 1000 →
    ∃ x' y', forGo (.nm 8) g__law_taken_2b_2B ((post.map (·.1)).map .int) [d0, d1, .im (.int s), .ow (dI (pre ++ post)), .ow (.list acc), .im (.int w), .im (.int m), .im (.int n), x, y] = .nx [d0, d1, .im (.int s), .ow (dI (pre ++ tkL w s post n)), .ow (.list (acc ++ (tkR w s post n).map (row3 w))), .im (.int w), .im (.int m), .im (.int (tkN w s post n)), x', y']
  | [], pre, acc, n, x, y, _, _, _ => ⟨x, y, by simp [forGo, tkR, tkL, tkN]⟩
  | (o, a) :: r, pre, acc, n, x, y, nd, hl, hp => by
    have h1 : o ∉ pre.map (·.1) := by
      rw [List.map_append, List.nodup_append] at nd
      intro z
      exact nd.2.2 _ z _ List.mem_cons_self rfl
    have h2 : o ∉ r.map (·.1) := by
      rw [List.map_append, List.nodup_append] at nd
      have := nd.2.1
      rw [List.map_cons, List.nodup_cons] at this
      exact this.1
    have lk := dlook_mid (post := r) (a := a) h1
    have pt := dput_mid (post := r) (a := a) (v := a - mn a n) h1 h2
    have hz : (pre ++ (o, a) :: r).length ≤ 1000000 := by simp only [List.length_append, List.length_cons] at hp ⊢; omega
    have hz2 : acc.length ≤ 1000000 := by simp only [List.length_cons] at hl; omega
    by_cases hg : o ≤ w ∧ w < o + s
    · have e1 : g__law_taken_2b_2b_1 [d0, d1, .im (.int s), .ow (dI (pre ++ (o, a) :: r)), .ow (.list acc), .im (.int w), .im (.int m), .im (.int n), .im (.int o), y] = .nx [d0, d1, .im (.int s), .ow (dI (pre ++ (o, a) :: r)), .ow (.list acc), .im (.int w), .im (.int m), .im (.int n), .im (.int o), .im (.int (mn a n))] := by
        rw [← mn_comm]
        have c1' : decide (o ≤ w) = true := decide_eq_true hg.1
        have c2' : decide (w < o + s) = true := decide_eq_true hg.2
        simp only [g__law_taken_2b_2b_1, setS, setN, parPP, parNP, parPN, parNN, toO, toB, ifS, retS, exS, appS, extS, dputS, frzS, nxS, vP, vT, cS, op1, op2, gI, addI, subI, mulI, divI, modI, powI, ltI, leI, gtI, geI, minI, maxI, bS, bO, andB, orB, notB, andV, orV, notV, chI, ifE, tupS, lstS, nilA, consA, callS, callK, isiS, lenD, intD, ixD, atR, dgetD, big, plS, plainD, dI, List.getElem?_cons_zero, List.getElem?_cons_succ, R.ok_bind, keyOf_int, lk, List.set_cons_zero, List.set_cons_succ, c1', c2', if_true, mn]
      by_cases hc : 0 < mn a n
      · have hcc : (o ≤ w ∧ w < o + s) ∧ 0 < mn a n := ⟨hg, hc⟩
        have e2 : g__law_taken_2b_2b_2 [d0, d1, .im (.int s), .ow (dI (pre ++ (o, a) :: r)), .ow (.list acc), .im (.int w), .im (.int m), .im (.int n), .im (.int o), .im (.int (mn a n))] = .nx [d0, d1, .im (.int s), .ow (dI (pre ++ (o, a - mn a n) :: r)), .ow (.list (acc ++ [row3 w (o, mn a n)])), .im (.int w), .im (.int m), .im (.int (n - mn a n)), .im (.int o), .im (.int (mn a n))] := by
          have c3' : decide (0 < (mn a n)) = true := decide_eq_true hc
          have hz' : (List.map kvD (pre ++ (o, a) :: r)).length ≤ 1000000 := by rw [List.length_map]; exact hz
          simp only [g__law_taken_2b_2b_2, seqS, g__law_taken_2b_2b_2t_1, g__law_taken_2b_2b_2t_2, g__law_taken_2b_2b_2t_3, setS, setN, parPP, parNP, parPN, parNN, toO, toB, ifS, retS, exS, appS, extS, dputS, frzS, nxS, vP, vT, cS, op1, op2, gI, addI, subI, mulI, divI, modI, powI, ltI, leI, gtI, geI, minI, maxI, bS, bO, andB, orB, notB, andV, orV, notV, chI, ifE, tupS, lstS, nilA, consA, callS, callK, isiS, lenD, intD, ixD, atR, dgetD, big, plS, plainD, dI, List.getElem?_cons_zero, List.getElem?_cons_succ, R.ok_bind, keyOf_int, c3', if_true, hz2, List.set_cons_zero, List.set_cons_succ, List.length_cons, List.length_nil, Nat.reduceAdd, Nat.reduceLeDiff, lk, if_pos hz', pt, row3]
        obtain ⟨x', y', ih⟩ := ltaken_in (d0 := d0) (d1 := d1) (w := w) (m := m) (s := s) r (pre ++ [(o, a - mn a n)]) (acc ++ [row3 w (o, mn a n)]) (n - mn a n) (.im (.int o)) (.im (.int (mn a n))) (by simpa using nd) (by simp only [List.length_cons] at hl; simp; omega) (by simp only [List.length_cons] at hp; simp; omega)
        refine ⟨x', y', ?_⟩
        simp only [List.append_assoc, List.singleton_append] at ih
        simp only [tkR, tkL, tkN, if_pos hcc, List.map_cons]
        rw [forGo_cons (ds1 := [d0, d1, .im (.int s), .ow (dI (pre ++ (o, a) :: r)), .ow (.list acc), .im (.int w), .im (.int m), .im (.int n), .im (.int o), y]) rfl (show g__law_taken_2b_2B _ = _ by rw [g__law_taken_2b_2B, seq_nx e1, e2]), ih]
      · have hcc : ¬ ((o ≤ w ∧ w < o + s) ∧ 0 < mn a n) := fun z => hc z.2
        have e2 : g__law_taken_2b_2b_2 [d0, d1, .im (.int s), .ow (dI (pre ++ (o, a) :: r)), .ow (.list acc), .im (.int w), .im (.int m), .im (.int n), .im (.int o), .im (.int (mn a n))] = .nx [d0, d1, .im (.int s), .ow (dI (pre ++ (o, a) :: r)), .ow (.list acc), .im (.int w), .im (.int m), .im (.int n), .im (.int o), .im (.int (mn a n))] := by
          simp [g__law_taken_2b_2b_2, setS, setN, parPP, parNP, parPN, parNN, toO, toB, ifS, retS, exS, appS, extS, dputS, frzS, nxS, vP, vT, cS, op1, op2, gI, addI, subI, mulI, divI, modI, powI, ltI, leI, gtI, geI, minI, maxI, bS, bO, andB, orB, notB, andV, orV, notV, chI, ifE, tupS, lstS, nilA, consA, callS, callK, isiS, lenD, intD, ixD, atR, dgetD, big, plS, plainD, hc]
        obtain ⟨x', y', ih⟩ := ltaken_in (d0 := d0) (d1 := d1) (w := w) (m := m) (s := s) r (pre ++ [(o, a)]) acc n (.im (.int o)) (.im (.int (mn a n))) (by simpa using nd) (by simp only [List.length_cons] at hl; omega) (by simp only [List.length_cons] at hp; simp; omega)
        refine ⟨x', y', ?_⟩
        simp only [List.append_assoc, List.singleton_append] at ih
        simp only [tkR, tkL, tkN, if_neg hcc, List.map_cons]
        rw [forGo_cons (ds1 := [d0, d1, .im (.int s), .ow (dI (pre ++ (o, a) :: r)), .ow (.list acc), .im (.int w), .im (.int m), .im (.int n), .im (.int o), y]) rfl (show g__law_taken_2b_2B _ = _ by rw [g__law_taken_2b_2B, seq_nx e1, e2]), ih]
    · have hcc : ¬ ((o ≤ w ∧ w < o + s) ∧ 0 < mn a n) := fun z => hg z.1
      have e1 : g__law_taken_2b_2b_1 [d0, d1, .im (.int s), .ow (dI (pre ++ (o, a) :: r)), .ow (.list acc), .im (.int w), .im (.int m), .im (.int n), .im (.int o), y] = .nx [d0, d1, .im (.int s), .ow (dI (pre ++ (o, a) :: r)), .ow (.list acc), .im (.int w), .im (.int m), .im (.int n), .im (.int o), .im (.int 0)] := by
        by_cases c1 : o ≤ w
        · have c2 : ¬ w < o + s := fun z => hg ⟨c1, z⟩
          simp [g__law_taken_2b_2b_1, setS, setN, parPP, parNP, parPN, parNN, toO, toB, ifS, retS, exS, appS, extS, dputS, frzS, nxS, vP, vT, cS, op1, op2, gI, addI, subI, mulI, divI, modI, powI, ltI, leI, gtI, geI, minI, maxI, bS, bO, andB, orB, notB, andV, orV, notV, chI, ifE, tupS, lstS, nilA, consA, callS, callK, isiS, lenD, intD, ixD, atR, dgetD, big, plS, plainD, c1, c2]
        · simp [g__law_taken_2b_2b_1, setS, setN, parPP, parNP, parPN, parNN, toO, toB, ifS, retS, exS, appS, extS, dputS, frzS, nxS, vP, vT, cS, op1, op2, gI, addI, subI, mulI, divI, modI, powI, ltI, leI, gtI, geI, minI, maxI, bS, bO, andB, orB, notB, andV, orV, notV, chI, ifE, tupS, lstS, nilA, consA, callS, callK, isiS, lenD, intD, ixD, atR, dgetD, big, plS, plainD, c1]
      have e2 : g__law_taken_2b_2b_2 [d0, d1, .im (.int s), .ow (dI (pre ++ (o, a) :: r)), .ow (.list acc), .im (.int w), .im (.int m), .im (.int n), .im (.int o), .im (.int 0)] = .nx [d0, d1, .im (.int s), .ow (dI (pre ++ (o, a) :: r)), .ow (.list acc), .im (.int w), .im (.int m), .im (.int n), .im (.int o), .im (.int 0)] := by
        simp [g__law_taken_2b_2b_2, setS, setN, parPP, parNP, parPN, parNN, toO, toB, ifS, retS, exS, appS, extS, dputS, frzS, nxS, vP, vT, cS, op1, op2, gI, addI, subI, mulI, divI, modI, powI, ltI, leI, gtI, geI, minI, maxI, bS, bO, andB, orB, notB, andV, orV, notV, chI, ifE, tupS, lstS, nilA, consA, callS, callK, isiS, lenD, intD, ixD, atR, dgetD, big, plS, plainD]
      obtain ⟨x', y', ih⟩ := ltaken_in (d0 := d0) (d1 := d1) (w := w) (m := m) (s := s) r (pre ++ [(o, a)]) acc n (.im (.int o)) (.im (.int 0)) (by simpa using nd) (by simp only [List.length_cons] at hl; omega) (by simp only [List.length_cons] at hp; simp; omega)
      refine ⟨x', y', ?_⟩
      simp only [List.append_assoc, List.singleton_append] at ih
      simp only [tkR, tkL, tkN, if_neg hcc, List.map_cons]
      rw [forGo_cons (ds1 := [d0, d1, .im (.int s), .ow (dI (pre ++ (o, a) :: r)), .ow (.list acc), .im (.int w), .im (.int m), .im (.int n), .im (.int o), y]) rfl (show g__law_taken_2b_2B _ = _ by rw [g__law_taken_2b_2B, seq_nx e1, e2]), ih]
theorem ltaken_go {d0 d1 : Sl} {s : Int} : ∀ (ns l : List (Int × Int)) (acc : List PyData) (z1 z2 z3 x y : Sl), (l.map (·.1)).Pairwise (· < ·) → l.length < 64 → acc.length + l.length * ns.length ≤ 9000 →
    ∃ z1' z2' z3' x' y', forGo (.pr 5 6) g__law_taken_2B (ns.map rowD) [d0, d1, .im (.int s), .ow (dI l), .ow (.list acc), z1, z2, z3, x, y] = .nx [d0, d1, .im (.int s), .ow (dI (svL s l ns)), .ow (.list (acc ++ (svR s l ns).map row3D)), z1', z2', z3', x', y']
  | [], l, acc, z1, z2, z3, x, y, _, _, _ => ⟨z1, z2, z3, x, y, by simp [forGo, svL, svR]⟩
  | (w, m) :: r, l, acc, z1, z2, z3, x, y, hp, hl, ha => by
    have nd : (l.map (·.1)).Nodup := hp.imp fun h => by omega
    obtain ⟨x1, y1, e⟩ := ltaken_in (d0 := d0) (d1 := d1) (w := w) (m := m) (s := s) l [] acc m x y (by simpa using nd) (by simp only [List.length_cons, Nat.mul_succ] at ha; omega) (by simp; omega)
    have hr := tkR_len w s l m
    obtain ⟨a1, a2, a3, a4, a5, ih⟩ := ltaken_go (d0 := d0) (d1 := d1) (s := s) r (tkL w s l m) (acc ++ (tkR w s l m).map (row3 w)) (.im (.int w)) (.im (.int m)) (.im (.int (tkN w s l m))) x1 y1 (by rw [tkL_keys]; exact hp) (by rw [tkL_len]; exact hl) (by
      rw [tkL_len, List.length_append, List.length_map]
      simp only [List.length_cons, Nat.mul_succ] at ha
      omega)
    refine ⟨a1, a2, a3, a4, a5, ?_⟩
    have eb : g__law_taken_2B [d0, d1, .im (.int s), .ow (dI l), .ow (.list acc), .im (.int w), .im (.int m), z3, x, y] = .nx [d0, d1, .im (.int s), .ow (dI (tkL w s l m)), .ow (.list (acc ++ (tkR w s l m).map (row3 w))), .im (.int w), .im (.int m), .im (.int (tkN w s l m)), x1, y1] := by
      simp only [List.nil_append] at e
      rw [← e]
      have e1 : g__law_taken_2b_1 [d0, d1, .im (.int s), .ow (dI l), .ow (.list acc), .im (.int w), .im (.int m), z3, x, y] = .nx [d0, d1, .im (.int s), .ow (dI l), .ow (.list acc), .im (.int w), .im (.int m), .im (.int m), x, y] := by
        simp [g__law_taken_2b_1, setS, setN, parPP, parNP, parPN, parNN, toO, toB, ifS, retS, exS, appS, extS, dputS, frzS, nxS, vP, vT, cS, op1, op2, gI, addI, subI, mulI, divI, modI, powI, ltI, leI, gtI, geI, minI, maxI, bS, bO, andB, orB, notB, andV, orV, notV, chI, ifE, tupS, lstS, nilA, consA, callS, callK, isiS, lenD, intD, ixD, atR, dgetD, big, plS, plainD]
      rw [g__law_taken_2B, seq_nx e1]
      simp only [g__law_taken_2b_2, forS, itL, op1, vT, List.getElem?_cons_zero, List.getElem?_cons_succ, R.ok_bind, sort_keys hp hl]
    rw [List.map_cons, forGo_cons (ds1 := [d0, d1, .im (.int s), .ow (dI l), .ow (.list acc), .im (.int w), .im (.int m), z3, x, y]) rfl eb, ih]
    simp only [svL, svR, List.map_append, List.map_map, List.append_assoc]
    rfl
theorem V_ltaken {cs ns : List (Int × Int)} (s : Int) (h1 : (cs.map (·.1)).Pairwise (· < ·)) (h2 : cs.length < 64) (h3 : ns.length ≤ 100) : V__law_taken [rowsD cs, rowsD ns, .int s] = .ok (.list ((svR s cs ns).map row3D)) := by
  have nd : (cs.map (·.1)).Nodup := h1.imp fun h => by omega
  have hb : cs.length * ns.length ≤ 63 * 100 := Nat.mul_le_mul (by omega) h3
  obtain ⟨a1, a2, a3, a4, a5, e⟩ := ltaken_go (d0 := .im (rowsD cs)) (d1 := .im (rowsD ns)) (s := s) ns cs [] .no .no .no .no .no h1 h2 (by simp; omega)
  have e1 : g__law_taken_1 [.im (rowsD cs), .im (rowsD ns), .im (.int s), .no, .no, .no, .no, .no, .no, .no] = .nx [.im (rowsD cs), .im (rowsD ns), .im (.int s), .ow (dI cs), .ow (.list []), .no, .no, .no, .no, .no] := by
    simp [g__law_taken_1, setS, setN, parPP, parNP, parPN, parNN, toO, toB, ifS, retS, exS, appS, extS, dputS, frzS, nxS, vP, vT, cS, op1, op2, gI, addI, subI, mulI, divI, modI, powI, ltI, leI, gtI, geI, minI, maxI, bS, bO, andB, orB, notB, andV, orV, notV, chI, ifE, tupS, lstS, nilA, consA, callS, callK, isiS, lenD, intD, ixD, atR, dgetD, big, plS, plainD, dict_rows nd]
  have e2 : g__law_taken_2 [.im (rowsD cs), .im (rowsD ns), .im (.int s), .ow (dI cs), .ow (.list []), .no, .no, .no, .no, .no] = .nx [.im (rowsD cs), .im (rowsD ns), .im (.int s), .ow (dI (svL s cs ns)), .ow (.list ([] ++ (svR s cs ns).map row3D)), a1, a2, a3, a4, a5] := by
    rw [← e]
    simp [g__law_taken_2, forS, itL, vP, rowsD]
  show bodyS 10 [false, false, false] g__law_taken [rowsD cs, rowsD ns, .int s] = _
  rw [bodyS, g__law_taken, show startS 10 [false, false, false] [rowsD cs, rowsD ns, .int s] = [.im (rowsD cs), .im (rowsD ns), .im (.int s), .no, .no, .no, .no, .no, .no, .no] from rfl, seq_nx e1, seq_nx e2]
  simp [frzS, g__law_taken_3, setS, setN, parPP, parNP, parPN, parNN, toO, toB, ifS, retS, exS, appS, extS, dputS, frzS, nxS, vP, vT, cS, op1, op2, gI, addI, subI, mulI, divI, modI, powI, ltI, leI, gtI, geI, minI, maxI, bS, bO, andB, orB, notB, andV, orV, notV, chI, ifE, tupS, lstS, nilA, consA, callS, callK, isiS, lenD, intD, ixD, atR, dgetD, big, plS, plainD]
end Cb
namespace Cb
open PySem PySem.Spec PyProof.Rows L2
theorem V_law_true (ns : List Int) (hl : ns.length ≤ 63) : V_law [.list (ns.map .int)] = .ok (.bool true) := by
  have e1 := for_inv (k := .nm 1) (b := g_law_1B) (fi := itR1 (cS (.int 4))) (items := rangeD 0 4) (ds := [.im (.list (ns.map .int)), .no, .no, .no, .no, .no]) (fun i ds => ∃ a b c d, ds = [.im (.list (ns.map .int)), a, b, c, d, .no]) (by simp [itR1, cS, in62]) ⟨_, _, _, _, rfl⟩ (by
    rintro i ds x hx ⟨a, b, c, d, rfl⟩
    obtain ⟨hi, rfl⟩ := range_at hx
    obtain ⟨cs, hc, ec⟩ := V_lrows ns hl (a := 30 * i) (by omega) (by omega)
    obtain ⟨ds, hd, ed⟩ := V_lrows ns hl (a := 30 * i + 14) (by omega) (by omega)
    have i2 : in64 30 = true := by decide
    have lc := hc.len
    have ld := hd.len
    refine ⟨_, rfl, ?_⟩
    simp only [List.set_cons_zero, List.set_cons_succ, Int.zero_add]
    have e1 : g_law_1b_1 [.im (.list (ns.map .int)), .im (.int i), b, c, d, .no] = .nx [.im (.list (ns.map .int)), .im (.int i), .im (rowsD cs), .im (rowsD ds), d, .no] := by
      simp [g_law_1b_1, setS, setN, parPP, parNP, parPN, parNN, toO, toB, ifS, retS, exS, appS, extS, dputS, frzS, nxS, vP, vT, cS, op1, op2, gI, addI, subI, mulI, divI, modI, powI, ltI, leI, gtI, geI, minI, maxI, bS, bO, andB, orB, notB, andV, orV, notV, chI, ifE, tupS, lstS, nilA, consA, callS, callK, isiS, lenD, intD, ixD, atR, dgetD, big, plS, plainD, i2, ec, ed]
    have e2 := for_inv (k := .nm 4) (b := g_law_1b_2B) (fi := itR2 (cS (.int 1)) (cS (.int 5))) (items := rangeD 1 4) (ds := [.im (.list (ns.map .int)), .im (.int i), .im (rowsD cs), .im (rowsD ds), d, .no]) (fun _ z => ∃ y, z = [.im (.list (ns.map .int)), .im (.int i), .im (rowsD cs), .im (rowsD ds), y, .no]) (by simp [itR2, cS, in62]) ⟨_, rfl⟩ (by
      rintro j z x hx ⟨y, rfl⟩
      obtain ⟨hj, rfl⟩ := range_at hx
      refine ⟨_, rfl, ?_⟩
      simp only [List.set_cons_zero, List.set_cons_succ]
      refine ⟨_, ?_, .im (.int (1 + j)), rfl⟩
      have a1 := V_srv hc hd (s := 1 + j) (by omega) (by omega)
      have a2 := V_ltaken (1 + (j : Int)) (rows_pw hc) (show cs.length < 64 by omega) (show ds.length ≤ 100 by omega)
      simp [g_law_1b_2B, g_law_1b_2b_1, setS, setN, parPP, parNP, parPN, parNN, toO, toB, ifS, retS, exS, appS, extS, dputS, frzS, nxS, vP, vT, cS, op1, op2, gI, addI, subI, mulI, divI, modI, powI, ltI, leI, gtI, geI, minI, maxI, bS, bO, andB, orB, notB, andV, orV, notV, chI, ifE, tupS, lstS, nilA, consA, callS, callK, isiS, lenD, intD, ixD, atR, dgetD, big, plS, plainD, a1, a2, neD, sh3, eqv_self (sh3 _)])
    obtain ⟨_, e2, y, rfl⟩ := e2
    refine ⟨[.im (.list (ns.map .int)), .im (.int i), .im (rowsD cs), .im (rowsD ds), y, .no], ?_, _, _, _, _, rfl⟩
    have e3 : g_law_1b_3 [.im (.list (ns.map .int)), .im (.int i), .im (rowsD cs), .im (rowsD ds), y, .no] = .nx [.im (.list (ns.map .int)), .im (.int i), .im (rowsD cs), .im (rowsD ds), y, .no] := by
      have a1 := V_srv hc hd (s := 1) (by omega) (by omega)
      have a2 := V_ltaken 1 (rows_pw hc) (show cs.length < 64 by omega) (show ds.length ≤ 100 by omega)
      simp [g_law_1b_3, setS, setN, parPP, parNP, parPN, parNN, toO, toB, ifS, retS, exS, appS, extS, dputS, frzS, nxS, vP, vT, cS, op1, op2, gI, addI, subI, mulI, divI, modI, powI, ltI, leI, gtI, geI, minI, maxI, bS, bO, andB, orB, notB, andV, orV, notV, chI, ifE, tupS, lstS, nilA, consA, callS, callK, isiS, lenD, intD, ixD, atR, dgetD, big, plS, plainD, a1, a2, neD, sh3, eqv_self (sh3 _)]
    rw [g_law_1B, seq_nx e1, seq_nx (show g_law_1b_2 _ = _ from e2), e3])
  obtain ⟨_, e1, a, b, c, d, rfl⟩ := e1
  have kn : ∀ ds : DS, ∀ s : Int, 1 ≤ s → s ≤ 4 → V_served [rowsD [(0, 1), (1, 1), (2, 1)], rowsD [(2, 2)], .int s] = .ok (.list ((svR s [(0, 1), (1, 1), (2, 1)] [(2, 2)]).map row3D)) := fun _ s h1 h2 => V_srv ⟨by simp, by simp, by simp⟩ ⟨by simp, by simp, by simp⟩ h1 h2
  have e2 : g_law_2 [.im (.list (ns.map .int)), a, b, c, d, .no] = .nx [.im (.list (ns.map .int)), a, b, c, d, .im (.list ([1, 2, 3, 4].map fun s => .list ((svR s [(0, 1), (1, 1), (2, 1)] [(2, 2)]).map row3D)))] := by
    have hz : lcS (itR2 (cS (.int 1)) (cS (.int 5))) [4] (.nm 4) yesB (callK (consA (lstS (consA (tupS (consA (cS (.int 0)) (consA (cS (.int 1)) nilA))) (consA (tupS (consA (cS (.int 1)) (consA (cS (.int 1)) nilA))) (consA (tupS (consA (cS (.int 2)) (consA (cS (.int 1)) nilA))) nilA)))) (consA (lstS (consA (tupS (consA (cS (.int 2)) (consA (cS (.int 2)) nilA))) nilA)) nilA)) (consA (vP 4) nilA) V_served) [.im (.list (ns.map .int)), a, b, c, d, .no] = .ok (.list ([1, 2, 3, 4].map fun s => .list ((svR s [(0, 1), (1, 1), (2, 1)] [(2, 2)]).map row3D))) := by
      have k1 := kn [] 1 (by omega) (by omega)
      have k2 := kn [] 2 (by omega) (by omega)
      have k3 := kn [] 3 (by omega) (by omega)
      have k4 := kn [] 4 (by omega) (by omega)
      simp only [rowsD, List.map_cons, List.map_nil, rowD] at k1 k2 k3 k4
      have hr : rangeD 1 4 = [.int 1, .int 2, .int 3, .int 4] := by rfl
      simp [lcS, itR2, in62, hr, lcGo, tgD, yesB, wipeD, setS, setN, parPP, parNP, parPN, parNN, toO, toB, ifS, retS, exS, appS, extS, dputS, frzS, nxS, vP, vT, cS, op1, op2, gI, addI, subI, mulI, divI, modI, powI, ltI, leI, gtI, geI, minI, maxI, bS, bO, andB, orB, notB, andV, orV, notV, chI, ifE, tupS, lstS, nilA, consA, callS, callK, isiS, lenD, intD, ixD, atR, dgetD, big, plS, plainD, k1, k2, k3, k4]
    simp only [g_law_2, setS, hz, toO, List.set_cons_zero, List.set_cons_succ]
  have e3 : g_law_3 [.im (.list (ns.map .int)), a, b, c, d, .im (.list ([1, 2, 3, 4].map fun s => .list ((svR s [(0, 1), (1, 1), (2, 1)] [(2, 2)]).map row3D)))] = .rt (.bool true) := by
    have hv : ([1, 2, 3, 4].map fun s => PyData.list ((svR s [(0, 1), (1, 1), (2, 1)] [(2, 2)]).map row3D)) = [.list [.tuple [.int 2, .int 2, .int 1]], .list [.tuple [.int 2, .int 1, .int 1], .tuple [.int 2, .int 2, .int 1]], .list [.tuple [.int 2, .int 0, .int 1], .tuple [.int 2, .int 1, .int 1]], .list [.tuple [.int 2, .int 0, .int 1], .tuple [.int 2, .int 1, .int 1]]] := by rfl
    rw [hv]
    have hs : SeqAt.shaped (.list [.list [.tuple [.int 2, .int 2, .int 1]], .list [.tuple [.int 2, .int 1, .int 1], .tuple [.int 2, .int 2, .int 1]], .list [.tuple [.int 2, .int 0, .int 1], .tuple [.int 2, .int 1, .int 1]], .list [.tuple [.int 2, .int 0, .int 1], .tuple [.int 2, .int 1, .int 1]]]) = true := by decide +kernel
    simp [g_law_3, setS, setN, parPP, parNP, parPN, parNN, toO, toB, ifS, retS, exS, appS, extS, dputS, frzS, nxS, vP, vT, cS, op1, op2, gI, addI, subI, mulI, divI, modI, powI, ltI, leI, gtI, geI, minI, maxI, bS, bO, andB, orB, notB, andV, orV, notV, chI, ifE, tupS, lstS, nilA, consA, callS, callK, isiS, lenD, intD, ixD, atR, dgetD, big, plS, plainD, eqD, hs, eqv_self hs]
  show bodyS 6 [false] g_law _ = _
  rw [bodyS, g_law, show startS 6 [false] [.list (ns.map .int)] = [.im (.list (ns.map .int)), .no, .no, .no, .no, .no] from rfl, seq_nx (show g_law_1 _ = _ from e1), seq_nx e2, e3]
end Cb
namespace Cb
open PySem PySem.Spec PyProof.Rows L2
def dn_is_number : He.DefD := ⟨("is_number", none), "is_number", "is_number", defArgs s_is_number, defBody s_is_number, defScope s_is_number, [], []⟩
def dn_look_number : He.DefD := ⟨("look_number", none), "look_number", "look_number", defArgs s_look_number, defBody s_look_number, defScope s_look_number, [], []⟩
def dn_is_row : He.DefD := ⟨("is_row", none), "is_row", "is_row", defArgs s_is_row, defBody s_is_row, defScope s_is_row, [], []⟩
def dn_are_rows : He.DefD := ⟨("are_rows", none), "are_rows", "are_rows", defArgs s_are_rows, defBody s_are_rows, defScope s_are_rows, [], []⟩
def dn_look_rows : He.DefD := ⟨("look_rows", none), "look_rows", "look_rows", defArgs s_look_rows, defBody s_look_rows, defScope s_look_rows, [], []⟩
def dn_is_good_in : He.DefD := ⟨("is_good_in", none), "is_good_in", "is_good_in", defArgs s_is_good_in, defBody s_is_good_in, defScope s_is_good_in, [], []⟩
def dn_taken : He.DefD := ⟨("taken", none), "taken", "taken", defArgs s_taken, defBody s_taken, defScope s_taken, [], []⟩
def dn_serve : He.DefD := ⟨("serve", none), "serve", "serve", defArgs s_serve, defBody s_serve, defScope s_serve, [], []⟩
def dn_look_all : He.DefD := ⟨("look_all", none), "look_all", "look_all", defArgs s_look_all, defBody s_look_all, defScope s_look_all, [], []⟩
def dn_served : He.DefD := ⟨("served", none), "served", "served", defArgs s_served, defBody s_served, defScope s_served, [.int 1], []⟩
def dn__law_pick : He.DefD := ⟨("_law_pick", none), "_law_pick", "_law_pick", defArgs s__law_pick, defBody s__law_pick, defScope s__law_pick, [], []⟩
def dn__law_rows : He.DefD := ⟨("_law_rows", none), "_law_rows", "_law_rows", defArgs s__law_rows, defBody s__law_rows, defScope s__law_rows, [], []⟩
def dn__law_taken : He.DefD := ⟨("_law_taken", none), "_law_taken", "_law_taken", defArgs s__law_taken, defBody s__law_taken, defScope s__law_taken, [], []⟩
def dn_law : He.DefD := ⟨("law", none), "law", "law", defArgs s_law, defBody s_law, defScope s_law, [], []⟩
def fnL : List He.DefD := [dn_is_number, dn_look_number, dn_is_row, dn_are_rows, dn_look_rows, dn_is_good_in, dn_taken, dn_serve, dn_look_all, dn_served, dn__law_pick, dn__law_rows, dn__law_taken, dn_law]
def faL : List He.Fa := [.glo "is_number", .glo "look_number", .glo "is_row", .glo "are_rows", .glo "look_rows", .glo "is_good_in", .glo "taken", .glo "serve", .glo "look_all", .glo "served", .glo "_law_pick", .glo "_law_rows", .glo "_law_taken", .glo "law", .free "all", .free "bool", .free "dict", .free "int", .free "isinstance", .free "len", .free "list", .free "max", .free "min", .free "range", .free "sorted", .free "tuple", .free "zip", .int "LONGEST_SPAN" 4, .int "MOST_IN_ROW" 99, .int "MOST_ROWS" 12, .int "WEEKS" 100, .exc "NoNumber", .glo "NoNumber", .exc "NoRows", .glo "NoRows"]
def nm0 : List PySem.Str := ["CouponError", "NoRows", "NoNumber", "LONGEST_SPAN", "WEEKS", "MOST_ROWS", "MOST_IN_ROW", "is_number", "look_number", "is_row", "are_rows", "look_rows", "is_good_in", "taken", "serve", "look_all", "served", "_law_pick", "_law_rows", "_law_taken"]
def nmL : List PySem.Str := nm0
abbrev Rw : PySem.W.OpenRow := PySem.W.OpenLaw.row PySem.Challenge.rw_couponbooks_k09_whole_oldest_first
abbrev hkL : PySem.W.Hook := He.hookD 4 faL fnL
def obL (s : PySem.W.SharedT) : He.AlD := He.obsDG 4 faL fnL (HandSHeadRun.getT s)
theorem obL_eq (s : PySem.W.SharedT) : obL s = hkL.obs s.abs := He.obsDG_eq (HandSHeadRun.getT_eq s)
theorem runL (w : World) : HandSHeadRun.RunEq Rw (PySem.W.view Rw.prog [24]) hkL obL 4000 nmL w := by
  intro os
  kernel_rfl
theorem txL {K : PySem.W.Frag} {h : Heap} {mg : Str → Option Value} (X : K.In h) (G : h.Ns mainGlobals mg) (c : He.SaysD faL fnL K) : Tx K mg where
  f_is_number := c.def_ 0 (d := dn_is_number) rfl
  g_is_number := He.glo_ok X G (c.fact 0 (f := .glo "is_number") rfl)
  f_look_number := c.def_ 1 (d := dn_look_number) rfl
  g_look_number := He.glo_ok X G (c.fact 1 (f := .glo "look_number") rfl)
  f_is_row := c.def_ 2 (d := dn_is_row) rfl
  g_is_row := He.glo_ok X G (c.fact 2 (f := .glo "is_row") rfl)
  f_are_rows := c.def_ 3 (d := dn_are_rows) rfl
  g_are_rows := He.glo_ok X G (c.fact 3 (f := .glo "are_rows") rfl)
  f_look_rows := c.def_ 4 (d := dn_look_rows) rfl
  g_look_rows := He.glo_ok X G (c.fact 4 (f := .glo "look_rows") rfl)
  f_is_good_in := c.def_ 5 (d := dn_is_good_in) rfl
  g_is_good_in := He.glo_ok X G (c.fact 5 (f := .glo "is_good_in") rfl)
  f_taken := c.def_ 6 (d := dn_taken) rfl
  g_taken := He.glo_ok X G (c.fact 6 (f := .glo "taken") rfl)
  f_serve := c.def_ 7 (d := dn_serve) rfl
  g_serve := He.glo_ok X G (c.fact 7 (f := .glo "serve") rfl)
  f_look_all := c.def_ 8 (d := dn_look_all) rfl
  g_look_all := He.glo_ok X G (c.fact 8 (f := .glo "look_all") rfl)
  f_served := c.def_ 9 (d := dn_served) rfl
  g_served := He.glo_ok X G (c.fact 9 (f := .glo "served") rfl)
  f__law_pick := c.def_ 10 (d := dn__law_pick) rfl
  g__law_pick := He.glo_ok X G (c.fact 10 (f := .glo "_law_pick") rfl)
  f__law_rows := c.def_ 11 (d := dn__law_rows) rfl
  g__law_rows := He.glo_ok X G (c.fact 11 (f := .glo "_law_rows") rfl)
  f__law_taken := c.def_ 12 (d := dn__law_taken) rfl
  g__law_taken := He.glo_ok X G (c.fact 12 (f := .glo "_law_taken") rfl)
  f_law := c.def_ 13 (d := dn_law) rfl
  g_law := He.glo_ok X G (c.fact 13 (f := .glo "law") rfl)
  b_all := He.free_ok X G (c.fact 14 (f := .free "all") rfl)
  b_bool := He.free_ok X G (c.fact 15 (f := .free "bool") rfl)
  b_dict := He.free_ok X G (c.fact 16 (f := .free "dict") rfl)
  b_int := He.free_ok X G (c.fact 17 (f := .free "int") rfl)
  b_isinstance := He.free_ok X G (c.fact 18 (f := .free "isinstance") rfl)
  b_len := He.free_ok X G (c.fact 19 (f := .free "len") rfl)
  b_list := He.free_ok X G (c.fact 20 (f := .free "list") rfl)
  b_max := He.free_ok X G (c.fact 21 (f := .free "max") rfl)
  b_min := He.free_ok X G (c.fact 22 (f := .free "min") rfl)
  b_range := He.free_ok X G (c.fact 23 (f := .free "range") rfl)
  b_sorted := He.free_ok X G (c.fact 24 (f := .free "sorted") rfl)
  b_tuple := He.free_ok X G (c.fact 25 (f := .free "tuple") rfl)
  b_zip := He.free_ok X G (c.fact 26 (f := .free "zip") rfl)
  c_LONGEST_SPAN := He.int_ok X G (c.fact 27 (f := .int "LONGEST_SPAN" 4) rfl)
  c_MOST_IN_ROW := He.int_ok X G (c.fact 28 (f := .int "MOST_IN_ROW" 99) rfl)
  c_MOST_ROWS := He.int_ok X G (c.fact 29 (f := .int "MOST_ROWS" 12) rfl)
  c_WEEKS := He.int_ok X G (c.fact 30 (f := .int "WEEKS" 100) rfl)
  x_NoNumber := He.exc_ok (c.fact 31 (f := .exc "NoNumber") rfl)
  g_NoNumber := He.glo_ok X G (c.fact 32 (f := .glo "NoNumber") rfl)
  x_NoRows := He.exc_ok (c.fact 33 (f := .exc "NoRows") rfl)
  g_NoRows := He.glo_ok X G (c.fact 34 (f := .glo "NoRows") rfl)
end Cb
open PySem PySem.W PySem.Calls PyProof.Rows
theorem Cb.end_of (main : ∀ ns : List Int, ns.length ≤ 63 → Cb.V_law [.list (ns.map .int)] = .ok (.bool true)) : PySem.Challenge.rw_couponbooks_k09_whole_oldest_first.Holds := by
  w_on; o_law
  refine HandSHeadRun.head_any (r := OpenLaw.row PySem.Challenge.rw_couponbooks_k09_whole_oldest_first) (q := view (OpenLaw.row PySem.Challenge.rw_couponbooks_k09_whole_oldest_first).prog [24]) (H := Cb.hkL) (ob := Cb.obL) (M := 4000) (loose := Cb.nmL) (d := HandSHeadRun.topDef (OpenLaw.row PySem.Challenge.rw_couponbooks_k09_whole_oldest_first).prog 24) (kwd := []) Cb.obL_eq
    (by kernel_rfl) (fun s => by kernel_rfl) Cb.runL (by kernel_rfl) (by kernel_rfl) (by kernel_rfl) (by rfl) (by first | assumption | decide +kernel) (by decide +kernel) ⟨rfl, rfl, rfl, rfl, rfl, by decide +kernel⟩ ?hw ?hc
  case hw => w_witness2
  case hc =>
    refine L2.walk_ofE (l := PySem.Challenge.rw_couponbooks_k09_whole_oldest_first) (n := 63) (k := 7) (x := "script") (CX := L2.CX0) rfl (by decide) (by kernel_rfl) ⟨rfl, by decide, by decide⟩ ?F (fun _ _ _ _ z => z)
    intro w mg fa h Y G hmg0
    obtain ⟨K, KX, c⟩ := Y
    have hmg : mg ("law" : PySem.Str) = some (.ref fa) := by
      have e : (HandSHeadRun.topDef (OpenLaw.row PySem.Challenge.rw_couponbooks_k09_whole_oldest_first).prog 24).name = ("law" : PySem.Str) := by kernel_rfl
      rw [← e]
      exact hmg0
    have T := Cb.txL KX G c
    obtain ⟨fd, F⟩ := T.f_law
    have e := hmg.symm.trans T.g_law
    cases e
    have b := L2.FunD.bindsA (ps := ["script"]) F fun _ _ _ _ _ _ us hl => match us, hl with | [_], _ => rfl
    refine ⟨K, fd, fun vs H Q _ => Cb.spS K (He.ga K) [false] Cb.V_law vs H Q fun _ _ _ => False, KX, fun s v => b s [v] rfl, fun H a ns hl _ hS => Cb.law_sp (main ns hl) hS, fun base _ _ => Cb.fn_calm (Cb.ok_law (P := (PySem.Challenge.rw_couponbooks_k09_whole_oldest_first).prog) (w := w) (base := base) T F)⟩
theorem PySem.Challenge.cw_couponbooks_k09_whole_oldest_first_holds : PySem.Challenge.rw_couponbooks_k09_whole_oldest_first.Holds := by
  exact Cb.end_of Cb.V_law_true
