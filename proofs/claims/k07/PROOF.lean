import PyProof.Rows.All
import Wide.All
import OpenK.AllK
import Wide.FinOn
import HandS.ForMost
import HandS.Exc
import HandS.TryOnly
import HandS.ExcOwn
import HandS.WordsExc
import HandS.IsInst
import HandS.Wide
import HandS.More
import HandS.SortInts
import HandS.Defaults
import HandS.CallSlots
import HandS.Flow
import HandS.Lambda
import HandS.EndTab
import HandS.Head0
import HandS.Head1
import HandS.Head2
import HandS.HeadEnd
import HandS.HeadHook1
import HandS.HeadHook2
import HandS.TupAny
import HandS.TupMul
import HandS.Style
import HandS.Deep
import HandS.SetFor
import HandS.Iter
import HandS.NoneIn
import HandS.Remove
import HandS.Strs
import HandS.HotCalls
import HandS.HeadHook3
import HandS.HeadHook4
import HandS.HeadWalk
import HandS.ExcIs
import KE.KStateDown
import Lean
import PySem.Challenge.RW_couponbooks_k07_whole_none_serves_more
set_option Elab.async false
set_option linter.all false
set_option maxRecDepth 100000
set_option maxHeartbeats 0
/-! The data level: what an expression, a statement, a def is worth in plain data. -/
namespace Cb
open PySem PySem.Spec PyProof.Rows L2
/-! ### results -/
/-- an error: its class, its field -/
structure Xc where
  nm : Str
  fd : Option (Str × Int)
instance : Coe Str Xc := ⟨fun x => ⟨x, none⟩⟩
inductive R (α : Type) where
  | bad
  | ok (a : α)
  | err (x : Xc)
namespace R
def bind {α β : Type} (m : R α) (f : α → R β) : R β := match m with
  | .bad => .bad
  | .ok a => f a
  | .err x => .err x
instance : Monad R where
  pure := R.ok
  bind := R.bind
@[simp] theorem ok_bind {α β : Type} (a : α) (f : α → R β) : (R.ok a >>= f) = f a := rfl
@[simp] theorem bad_bind {α β : Type} (f : α → R β) : ((R.bad : R α) >>= f) = R.bad := rfl
@[simp] theorem err_bind {α β : Type} (x : Xc) (f : α → R β) : ((R.err x : R α) >>= f) = R.err x := rfl
@[simp] theorem pure_ok {α : Type} (a : α) : (pure a : R α) = R.ok a := rfl
end R
/-! ### heaps: all but the code objects' tables stays -/
def nT : HO → Bool
  | .tbl _ => false
  | _ => true
/-- what may change while it is one's own -/
def mt : HO → Bool
  | .lst _ => true
  | .dK _ => true
  | .dT _ => true
  | .ins _ _ _ => true
  | _ => false
theorem mt_nT {o : HO} (h : mt o = true) : nT o = true := by cases o <;> first | rfl | cases h
/-- no object (but a table) is known there -/
def Fr (H : Hp) (p : Addr) : Prop := ∀ o, H p = some o → nT o = false
theorem fr_none {H : Hp} {p : Addr} (h : H p = none) : Fr H p := fun o e => by rw [h] at e; cases e
theorem Fr.ne {H : Hp} {p b : Addr} {o : HO} (h : Fr H p) (e : H b = some o) (n : nT o = true) : b ≠ p := fun z => by
  rw [z] at e
  rw [h o e] at n
  cases n
structure Sam (H H' : Hp) : Prop where
  keep : ∀ (b : Addr) (o : HO), H b = some o → nT o = true → H' b = some o
theorem Sam.refl (H : Hp) : Sam H H := ⟨fun _ _ h _ => h⟩
theorem Sam.of {H H' : Hp} (e : ∀ b o, H b = some o → H' b = some o) : Sam H H' := ⟨fun b o h _ => e b o h⟩
theorem Sam.trans {H H1 H2 : Hp} (a : Sam H H1) (b : Sam H1 H2) : Sam H H2 := ⟨fun c o h n => b.keep c o (a.keep c o h n) n⟩
theorem Sam.fr {H H' : Hp} (e : Sam H H') {l : Addr} (h : Fr H' l) : Fr H l := fun o q => by
  cases n : nT o with
  | false => rfl
  | true => rw [h o (e.keep l o q n)] at n; cases n
theorem Sam.free {H H' : Hp} (e : Sam H H') {l : Addr} (h : H' l = Option.none) : Fr H l := e.fr (fr_none h)
theorem Sam.seq {K : PySem.W.Frag} {H H' : Hp} {a : Addr} {xs : List V} (e : Sam H H') (h : SqL K H a xs) : SqL K H' a xs := by
  rcases h with (h | ⟨o, h⟩) | h
  · exact .inl (.inl (e.keep _ _ h rfl))
  · exact .inl (.inr ⟨o, e.keep _ _ h rfl⟩)
  · exact .inr h
theorem Sam.rd {H H' : Hp} {a : Addr} {u : HO} (e : Sam H H') (h : Rd H a u) (n : nT u = true := by rfl) : Rd H' a u := by
  rcases h with h | ⟨o, h⟩
  · exact .inl (e.keep _ _ h n)
  · exact .inr ⟨o, e.keep _ _ h rfl⟩
/-! ### data in the heap -/
def kD : Key → PyData
  | .inl i => .int i
  | .inr x => .str x
/-- a dict with tuple keys; an object -/
abbrev tdict (kvs : List (PyData × PyData)) : PyData := .dict ((.none, .none) :: kvs)
abbrev odict (n : Str) (kvs : List (PyData × PyData)) : PyData := .dict ((.none, .str n) :: kvs)
mutual
inductive Dq (K : PySem.W.Frag) (H : Hp) : V → PyData → Prop
  | non : Dq K H .non .none
  | bl (b : Bool) : Dq K H (.bl b) (.bool b)
  | int (i : Int) : Dq K H (.int i) (.int i)
  | str (x : Str) : Dq K H (.str x) (.str x)
  | lst {a : Addr} {xs : List V} {ds : List PyData} : SqL K H a xs → DqAll K H xs ds → Dq K H (.ref a) (.list ds)
  | tup {a : Addr} {xs : List V} {ds : List PyData} : H a = some (.tup xs) → DqAll K H xs ds → Dq K H (.ref a) (.tuple ds)
  | dct {a : Addr} {kvs : List (Key × V)} {ds : List (PyData × PyData)} : Rd H a (.dK kvs) → DqKV K H kvs ds → Dq K H (.ref a) (.dict ds)
  | dcT {a : Addr} {kvs : List (List Key × V)} {ds : List (PyData × PyData)} : Rd H a (.dT kvs) → DqKT K H kvs ds → Dq K H (.ref a) (tdict ds)
  | obj {a dx : Addr} {n : Str} {fs : List (Str × V)} {ds : List (PyData × PyData)} : H a = some (.ins (He.ga K n) dx fs) → DqFs K H fs ds → Dq K H (.ref a) (odict n ds)
inductive DqAll (K : PySem.W.Frag) (H : Hp) : List V → List PyData → Prop
  | nil : DqAll K H [] []
  | cons {v : V} {vs : List V} {d : PyData} {ds : List PyData} : Dq K H v d → DqAll K H vs ds → DqAll K H (v :: vs) (d :: ds)
inductive DqKV (K : PySem.W.Frag) (H : Hp) : List (Key × V) → List (PyData × PyData) → Prop
  | nil : DqKV K H [] []
  | cons {k : Key} {v : V} {kvs : List (Key × V)} {d : PyData} {ds : List (PyData × PyData)} : Dq K H v d → DqKV K H kvs ds → DqKV K H ((k, v) :: kvs) ((kD k, d) :: ds)
inductive DqKT (K : PySem.W.Frag) (H : Hp) : List (List Key × V) → List (PyData × PyData) → Prop
  | nil : DqKT K H [] []
  | cons {k : List Key} {v : V} {kvs : List (List Key × V)} {d : PyData} {ds : List (PyData × PyData)} : Dq K H v d → DqKT K H kvs ds → DqKT K H ((k, v) :: kvs) ((.tuple (k.map kD), d) :: ds)
inductive DqFs (K : PySem.W.Frag) (H : Hp) : List (Str × V) → List (PyData × PyData) → Prop
  | nil : DqFs K H [] []
  | cons {k : Str} {v : V} {kvs : List (Str × V)} {d : PyData} {ds : List (PyData × PyData)} : Dq K H v d → DqFs K H kvs ds → DqFs K H ((k, v) :: kvs) ((.tuple [.str k], d) :: ds)
end
theorem sqT_mono {K : PySem.W.Frag} {H H' : Hp} {a : Addr} {xs : List V} (e : Sam H H') (h : H a = some (.tup xs)) : SqT K H' a xs := .of (e.keep _ _ h rfl)
mutual
theorem Dq.mono {K : PySem.W.Frag} {H H' : Hp} (e : Sam H H') : ∀ {v : V} {d : PyData}, Dq K H v d → Dq K H' v d
  | _, _, .non => .non
  | _, _, .bl b => .bl b
  | _, _, .int i => .int i
  | _, _, .str x => .str x
  | _, _, .lst h a => .lst (e.seq h) (DqAll.mono e a)
  | _, _, .tup h a => .tup (e.keep _ _ h rfl) (DqAll.mono e a)
  | _, _, .dct h a => .dct (e.rd h) (DqKV.mono e a)
  | _, _, .dcT h a => .dcT (e.rd h) (DqKT.mono e a)
  | _, _, .obj h a => .obj (e.keep _ _ h rfl) (DqFs.mono e a)
theorem DqAll.mono {K : PySem.W.Frag} {H H' : Hp} (e : Sam H H') : ∀ {vs : List V} {ds : List PyData}, DqAll K H vs ds → DqAll K H' vs ds
  | _, _, .nil => .nil
  | _, _, .cons h t => .cons (Dq.mono e h) (DqAll.mono e t)
theorem DqKV.mono {K : PySem.W.Frag} {H H' : Hp} (e : Sam H H') : ∀ {vs : List (Key × V)} {ds : List (PyData × PyData)}, DqKV K H vs ds → DqKV K H' vs ds
  | _, _, .nil => .nil
  | _, _, .cons h t => .cons (Dq.mono e h) (DqKV.mono e t)
theorem DqKT.mono {K : PySem.W.Frag} {H H' : Hp} (e : Sam H H') : ∀ {vs : List (List Key × V)} {ds : List (PyData × PyData)}, DqKT K H vs ds → DqKT K H' vs ds
  | _, _, .nil => .nil
  | _, _, .cons h t => .cons (Dq.mono e h) (DqKT.mono e t)
theorem DqFs.mono {K : PySem.W.Frag} {H H' : Hp} (e : Sam H H') : ∀ {vs : List (Str × V)} {ds : List (PyData × PyData)}, DqFs K H vs ds → DqFs K H' vs ds
  | _, _, .nil => .nil
  | _, _, .cons h t => .cons (Dq.mono e h) (DqFs.mono e t)
end
theorem DqAll.length {K : PySem.W.Frag} {H : Hp} : ∀ {vs : List V} {ds : List PyData}, DqAll K H vs ds → vs.length = ds.length
  | _, _, .nil => rfl
  | _, _, .cons _ t => congrArg Nat.succ (DqAll.length t)
theorem DqAll.get {K : PySem.W.Frag} {H : Hp} : ∀ {vs : List V} {ds : List PyData} {i : Nat} {d : PyData}, DqAll K H vs ds → ds[i]? = some d → ∃ v, vs[i]? = some v ∧ Dq K H v d
  | _, _, _, _, .nil, e => by simp at e
  | _, _, 0, _, .cons h _, e => by
    simp at e
    subst e
    exact ⟨_, rfl, h⟩
  | _, _, i + 1, _, .cons _ t, e => by
    obtain ⟨v, h1, h2⟩ := DqAll.get (i := i) t (by simpa using e)
    exact ⟨v, by simpa using h1, h2⟩
theorem DqAll.at {K : PySem.W.Frag} {H : Hp} : ∀ {vs : List V} {ds : List PyData} {i : Nat} {v : V}, DqAll K H vs ds → vs[i]? = some v → ∃ d, ds[i]? = some d ∧ Dq K H v d
  | _, _, _, _, .nil, e => by simp at e
  | _, _, 0, _, .cons h _, e => by
    simp at e
    subst e
    exact ⟨_, rfl, h⟩
  | _, _, i + 1, _, .cons _ t, e => by
    obtain ⟨v, h1, h2⟩ := DqAll.at (i := i) t (by simpa using e)
    exact ⟨v, by simpa using h1, h2⟩
theorem DqAll.append {K : PySem.W.Frag} {H : Hp} : ∀ {vs ws : List V} {ds es : List PyData}, DqAll K H vs ds → DqAll K H ws es → DqAll K H (vs ++ ws) (ds ++ es)
  | _, _, _, _, .nil, h => h
  | _, _, _, _, .cons h t, k => .cons h (DqAll.append t k)
theorem DqAll.drop {K : PySem.W.Frag} {H : Hp} : ∀ {vs : List V} {ds : List PyData} (n : Nat), DqAll K H vs ds → DqAll K H (vs.drop n) (ds.drop n)
  | _, _, 0, h => h
  | _, _, _ + 1, .nil => .nil
  | _, _, n + 1, .cons _ t => DqAll.drop n t
theorem DqAll.take {K : PySem.W.Frag} {H : Hp} : ∀ {vs : List V} {ds : List PyData} (n : Nat), DqAll K H vs ds → DqAll K H (vs.take n) (ds.take n)
  | _, _, 0, _ => .nil
  | _, _, _ + 1, .nil => .nil
  | _, _, n + 1, .cons h t => .cons h (DqAll.take n t)
/-! ### a heap and its frozen part grow -/
structure Grow (T : List (Addr × Str)) (F H F' H' : Hp) : Prop where
  hh : Sam H H'
  tb : LamX.Tabs T H → LamX.Tabs T H'
  ff : Sam F F'
  fh : Sam F' H'
  nw : ∀ a o, H a = some o → mt o = true → Fr F a → Fr F' a
section
variable {T : List (Addr × Str)} {F H F1 H1 F2 H2 : Hp} {p : Addr} {o : HO}
theorem upd_new (h : H p = none) : ∀ b x, H b = some x → upd H p o b = some x := fun b x e => by
  rw [upd_ne (ne_of_none e h)]
  exact e
theorem same_new (h : Fr H p) : Sam H (upd H p o) := ⟨fun b x e n => by
  rw [upd_ne (h.ne e n)]
  exact e⟩
theorem Fr.upd {q : Addr} (h : Fr H q) (n : q ≠ p) : Fr (upd H p o) q := fun x e => by
  rw [upd_ne n] at e
  exact h x e
/-- an object that is no table and no code object changes: the tables stand -/
def flatO : HO → Bool
  | .tbl _ => false
  | .ext _ => false
  | _ => true
theorem mt_flat {o : HO} (h : mt o = true) : flatO o = true := by cases o <;> first | rfl | cases h
theorem tabs_mut {o1 : HO} (hp : H p = some o1) (hf : flatO o1 = true) (t : LamX.Tabs T H) : LamX.Tabs T (upd H p o) := fun q hq => by
  obtain ⟨ps, h1, h2, h3⟩ := t q hq
  have n1 : q.1 ≠ p := fun z => by
    rw [z, hp] at h1
    cases h1
    cases hf
  refine ⟨ps, by rw [upd_ne n1]; exact h1, h2, fun pos cv hc => ?_⟩
  obtain ⟨c, e1, e2⟩ := h3 pos cv hc
  have n2 : c ≠ p := fun z => by
    rw [z, hp] at e2
    cases e2
    cases hf
  exact ⟨c, e1, by rw [upd_ne n2]; exact e2⟩
theorem Grow.refl (e : Sam F H) : Grow T F H F H := ⟨.refl _, id, .refl _, e, fun _ _ _ _ h => h⟩
theorem Grow.trans (g : Grow T F H F1 H1) (k : Grow T F1 H1 F2 H2) : Grow T F H F2 H2 :=
  ⟨g.hh.trans k.hh, fun t => k.tb (g.tb t), g.ff.trans k.ff, k.fh, fun a o h1 h2 h3 => k.nw a o (g.hh.keep a o h1 (mt_nT h2)) h2 (g.nw a o h1 h2 h3)⟩
theorem sam_updB (e : Sam F H) (h : H p = none) : Sam (upd F p o) (upd H p o) where
  keep := fun b x q n => by
    by_cases hb : b = p
    · subst hb
      rw [upd_same] at q
      rw [upd_same]
      exact q
    · rw [upd_ne hb] at q
      rw [upd_ne hb]
      exact e.keep b x q n
/-- a new object, frozen at once -/
theorem Grow.new (e : Sam F H) (h : H p = none) : Grow T F H (upd F p o) (upd H p o) where
  hh := same_new (fr_none h)
  tb := fun t => t.ext (upd_new h)
  ff := same_new (e.free h)
  fh := sam_updB e h
  nw := fun a x h1 _ h2 => h2.upd (ne_of_none h1 h)
/-- a new object of one's own -/
theorem Grow.own (e : Sam F H) (h : H p = none) : Grow T F H F (upd H p o) :=
  ⟨same_new (fr_none h), fun t => t.ext (upd_new h), .refl _, e.trans (same_new (fr_none h)), fun _ _ _ _ h1 => h1⟩
/-- an owned object is frozen -/
theorem Grow.frz {F0 H0 : Hp} (g : Grow T F0 H0 F H) (h0 : Fr H0 p) (hF : Fr F p) (hp : H p = some o) (hn : nT o = true := by rfl) : Grow T F0 H0 (upd F p o) H where
  hh := g.hh
  tb := g.tb
  ff := g.ff.trans (same_new hF)
  fh := ⟨fun b x q n => by
    by_cases hb : b = p
    · subst hb
      rw [upd_same] at q
      rw [hp]
      exact q
    · rw [upd_ne hb] at q
      exact g.fh.keep b x q n⟩
  nw := fun a x h1 h2 h3 => (g.nw a x h1 h2 h3).upd (h0.ne h1 (mt_nT h2))
theorem sam_upd_fr (e : Sam F H) (h : Fr F p) : Sam F (upd H p o) :=
  ⟨fun b x q n => by
    rw [upd_ne (h.ne q n)]
    exact e.keep b x q n⟩
/-- an owned object is changed -/
theorem Grow.mut {F0 H0 : Hp} {o1 : HO} (g : Grow T F0 H0 F H) (h0 : Fr H0 p) (hF : Fr F p) (hp : H p = some o1) (hf : flatO o1 = true) : Grow T F0 H0 F (upd H p o) where
  hh := sam_upd_fr g.hh h0
  tb := fun t => tabs_mut hp hf (g.tb t)
  ff := g.ff
  fh := sam_upd_fr g.fh hF
  nw := g.nw
/-- a tuple lasts anyway -/
theorem Grow.tup {xs : List V} (e : Sam F H) (hp : H p = some (.tup xs)) : Grow T F H (upd F p (.tup xs)) H where
  hh := .refl H
  tb := id
  ff := ⟨fun b x q n => by
    by_cases hb : b = p
    · subst hb
      have z := e.keep b x q n
      rw [hp] at z
      cases z
      exact upd_same
    · rw [upd_ne hb]
      exact q⟩
  fh := ⟨fun b x q n => by
    by_cases hb : b = p
    · subst hb
      rw [upd_same] at q
      cases q
      exact hp
    · rw [upd_ne hb] at q
      exact e.keep b x q n⟩
  nw := fun a x h1 h2 h3 => h3.upd (fun z => by
    rw [z, hp] at h1
    cases h1
    cases h2)
end
/-! ### trees of one's own -/
inductive Tr where
  /-- a lasting thing -/
  | fz (d : PyData)
  /-- a dict of ints and texts -/
  | dk (kvs : List (Key × Tr))
  /-- a dict of tuples of such -/
  | dt (kvs : List (List Key × PyData))
  | ls (xs : List PyData)
  | ob (n : Str) (fs : List (Str × Tr))
mutual
inductive TrOk (K : PySem.W.Frag) (F H : Hp) : V → Tr → List Addr → Prop
  | fz {v : V} {d : PyData} : Dq K F v d → TrOk K F H v (.fz d) []
  | dk {p : Addr} {l : List (Key × V)} {kvs : List (Key × Tr)} {fp : List Addr} : H p = some (.dK l) → l.map (·.1) = kvs.map (·.1) → TrAll K F H (l.map (·.2)) (kvs.map (·.2)) fp → TrOk K F H (.ref p) (.dk kvs) (p :: fp)
  | dt {p : Addr} {l : List (List Key × V)} {kvs : List (List Key × PyData)} : H p = some (.dT l) → l.map (·.1) = kvs.map (·.1) → DqAll K F (l.map (·.2)) (kvs.map (·.2)) → TrOk K F H (.ref p) (.dt kvs) [p]
  | ls {p : Addr} {vs : List V} {ds : List PyData} : H p = some (.lst vs) → DqAll K F vs ds → TrOk K F H (.ref p) (.ls ds) [p]
  | ob {p dx : Addr} {n : Str} {l : List (Str × V)} {fs : List (Str × Tr)} {fp : List Addr} : H p = some (.ins (He.ga K n) dx l) → l.map (·.1) = fs.map (·.1) → TrAll K F H (l.map (·.2)) (fs.map (·.2)) fp → TrOk K F H (.ref p) (.ob n fs) (p :: fp)
inductive TrAll (K : PySem.W.Frag) (F H : Hp) : List V → List Tr → List Addr → Prop
  | nil : TrAll K F H [] [] []
  | cons {v : V} {t : Tr} {fp : List Addr} {vs : List V} {ts : List Tr} {fq : List Addr} : TrOk K F H v t fp → TrAll K F H vs ts fq → TrAll K F H (v :: vs) (t :: ts) (fp ++ fq)
end
/-! what stands on the footprint stays: the tree stays -/
mutual
theorem TrOk.mono {K : PySem.W.Frag} {F H F' H' : Hp} (f : Sam F F') : ∀ {v : V} {t : Tr} {fp : List Addr}, TrOk K F H v t fp → (∀ b ∈ fp, ∀ o, H b = some o → mt o = true → H' b = some o) → TrOk K F' H' v t fp
  | _, _, _, .fz h, _ => .fz (h.mono f)
  | _, _, _, .dk h e a, k => .dk (k _ (by simp) _ h rfl) e (TrAll.mono f a fun b hb => k b (by simp [hb]))
  | _, _, _, .dt h e a, k => .dt (k _ (by simp) _ h rfl) e (a.mono f)
  | _, _, _, .ls h a, k => .ls (k _ (by simp) _ h rfl) (a.mono f)
  | _, _, _, .ob h e a, k => .ob (k _ (by simp) _ h rfl) e (TrAll.mono f a fun b hb => k b (by simp [hb]))
theorem TrAll.mono {K : PySem.W.Frag} {F H F' H' : Hp} (f : Sam F F') : ∀ {vs : List V} {ts : List Tr} {fp : List Addr}, TrAll K F H vs ts fp → (∀ b ∈ fp, ∀ o, H b = some o → mt o = true → H' b = some o) → TrAll K F' H' vs ts fp
  | _, _, _, .nil, _ => .nil
  | _, _, _, .cons h t, k => .cons (TrOk.mono f h fun b hb => k b (List.mem_append_left _ hb)) (TrAll.mono f t fun b hb => k b (List.mem_append_right _ hb))
end
mutual
theorem TrOk.mem {K : PySem.W.Frag} {F H : Hp} : ∀ {v : V} {t : Tr} {fp : List Addr}, TrOk K F H v t fp → ∀ b ∈ fp, ∃ o, H b = some o ∧ mt o = true
  | _, _, _, .fz _, b, hb => by cases hb
  | _, _, _, .dk h e a, b, hb => by
    rcases List.mem_cons.mp hb with z | z
    · rw [z]; exact ⟨_, h, rfl⟩
    · exact TrAll.mem a b z
  | _, _, _, .dt h e a, b, hb => by
    rw [List.mem_singleton.mp hb]
    exact ⟨_, h, rfl⟩
  | _, _, _, .ls h a, b, hb => by
    rw [List.mem_singleton.mp hb]
    exact ⟨_, h, rfl⟩
  | _, _, _, .ob h e a, b, hb => by
    rcases List.mem_cons.mp hb with z | z
    · rw [z]; exact ⟨_, h, rfl⟩
    · exact TrAll.mem a b z
theorem TrAll.mem {K : PySem.W.Frag} {F H : Hp} : ∀ {vs : List V} {ts : List Tr} {fp : List Addr}, TrAll K F H vs ts fp → ∀ b ∈ fp, ∃ o, H b = some o ∧ mt o = true
  | _, _, _, .nil, b, hb => by cases hb
  | _, _, _, .cons h t, b, hb => by
    rcases List.mem_append.mp hb with z | z
    · exact TrOk.mem h b z
    · exact TrAll.mem t b z
end
/-! ### a frame's slots -/
inductive Sl where
  | no
  | im (d : PyData)
  | bw (d : PyData)
  | ow (d : PyData)
  | tr (t : Tr)
  | rf (a : Addr)
abbrev DS := List Sl
def Own (K : PySem.W.Frag) (F H : Hp) (p : Addr) : PyData → Prop
  | .list ds => ∃ vs, H p = some (.lst vs) ∧ DqAll K F vs ds
  | .dict kvs => ∃ l, H p = some (.dK l) ∧ DqKV K F l kvs
  | _ => False
theorem Own.there {K : PySem.W.Frag} {F H : Hp} {p : Addr} {d : PyData} (h : Own K F H p d) : ∃ o, H p = some o ∧ mt o = true := by
  cases d with
  | list ds => obtain ⟨vs, e, _⟩ := h; exact ⟨_, e, rfl⟩
  | dict ds => obtain ⟨vs, e, _⟩ := h; exact ⟨_, e, rfl⟩
  | _ => exact h.elim
theorem Own.mono {K : PySem.W.Frag} {F H F' H' : Hp} {p : Addr} {d : PyData} (h : Own K F H p d) (f : Sam F F') (e : ∀ o, H p = some o → mt o = true → H' p = some o) : Own K F' H' p d := by
  cases d with
  | list ds => obtain ⟨vs, q, a⟩ := h; exact ⟨vs, e _ q rfl, a.mono f⟩
  | dict ds => obtain ⟨vs, q, a⟩ := h; exact ⟨vs, e _ q rfl, a.mono f⟩
  | _ => exact h.elim
/-- read while it stands -/
theorem Own.dq {K : PySem.W.Frag} {F H : Hp} {p : Addr} {d : PyData} (h : Own K F H p d) (f : Sam F H) : Dq K H (.ref p) d := by
  cases d with
  | list ds => obtain ⟨vs, q, a⟩ := h; exact .lst (.of q) (a.mono f)
  | dict ds => obtain ⟨vs, q, a⟩ := h; exact .dct (.of q) (a.mono f)
  | _ => exact h.elim
/-- what one def's body runs in: the frozen part and the heap at its entry (less what is lent to it), where its errors' classes stand, what is wanted of an error; where the lent trees stand -/
structure Bk where
  T : List (Addr × Str)
  F0 : Hp
  H0 : Hp
  cl : Str → Addr
  E : XK
  fx : List (Nat × V)
/-- the slot's value, its own addresses -/
def SlAt (K : PySem.W.Frag) (c : Bk) (F H : Hp) (v : Option (Option V)) (fp : List Addr) : Sl → Prop
  | .no => fp = []
  | .im d => fp = [] ∧ ∃ x, v = some (some x) ∧ Dq K F x d
  | .bw d => fp = [] ∧ ∃ x, v = some (some x) ∧ Dq K c.H0 x d
  | .ow d => ∃ p, fp = [p] ∧ v = some (some (.ref p)) ∧ Fr c.H0 p ∧ Fr F p ∧ Own K F H p d
  | .tr t => ∃ x, v = some (some x) ∧ TrOk K F H x t fp ∧ fp.Nodup ∧ ∀ b ∈ fp, Fr c.H0 b ∧ Fr F b
  | .rf a => fp = [] ∧ v = some (some (.ref a))
def SlOk (K : PySem.W.Frag) (c : Bk) (F H : Hp) (v : Option (Option V)) : Sl → Prop
  | .no => True
  | .im d => ∃ x, v = some (some x) ∧ Dq K F x d
  | .bw d => ∃ x, v = some (some x) ∧ Dq K c.H0 x d
  | .ow d => ∃ p, v = some (some (.ref p)) ∧ Fr c.H0 p ∧ Fr F p ∧ Own K F H p d
  | .tr t => ∃ x fp, v = some (some x) ∧ TrOk K F H x t fp ∧ fp.Nodup ∧ ∀ b ∈ fp, Fr c.H0 b ∧ Fr F b
  | .rf a => v = some (some (.ref a))
theorem SlAt.ok {K : PySem.W.Frag} {c : Bk} {F H : Hp} {v : Option (Option V)} {fp : List Addr} {s : Sl} (h : SlAt K c F H v fp s) : SlOk K c F H v s := by
  cases s with
  | no => trivial
  | im d => exact h.2
  | bw d => exact h.2
  | ow d => obtain ⟨p, _, h⟩ := h; exact ⟨p, h⟩
  | tr t => obtain ⟨x, h⟩ := h; exact ⟨x, fp, h⟩
  | rf a => exact h.2
theorem SlAt.mem {K : PySem.W.Frag} {c : Bk} {F H : Hp} {v : Option (Option V)} {fp : List Addr} {s : Sl} (h : SlAt K c F H v fp s) : ∀ b ∈ fp, Fr c.H0 b ∧ Fr F b ∧ ∃ o, H b = some o ∧ mt o = true := by
  intro b hb
  cases s with
  | no =>
    have h : fp = [] := h
    rw [h] at hb
    cases hb
  | im d => rw [h.1] at hb; cases hb
  | bw d => rw [h.1] at hb; cases hb
  | rf a => rw [h.1] at hb; cases hb
  | ow d =>
    obtain ⟨p, e, _, h1, h2, h3⟩ := h
    rw [e] at hb
    rw [List.mem_singleton.mp hb]
    exact ⟨h1, h2, h3.there⟩
  | tr t =>
    obtain ⟨x, _, h1, _, h2⟩ := h
    exact ⟨(h2 b hb).1, (h2 b hb).2, h1.mem b hb⟩
/-- the slot stays while its own addresses stay -/
theorem SlAt.stay {K : PySem.W.Frag} {c : Bk} {F H F' H' : Hp} {v : Option (Option V)} {fp : List Addr} {s : Sl} (h : SlAt K c F H v fp s) (f : Sam F F') (k : ∀ b ∈ fp, ∀ o, H b = some o → mt o = true → H' b = some o) (n : ∀ b ∈ fp, Fr F' b) : SlAt K c F' H' v fp s := by
  cases s with
  | no => exact h
  | im d => obtain ⟨e, x, e1, e2⟩ := h; exact ⟨e, x, e1, e2.mono f⟩
  | bw d => exact h
  | rf a => exact h
  | ow d =>
    obtain ⟨p, e, e1, e2, e3, e4⟩ := h
    have hp : p ∈ fp := by rw [e]; simp
    exact ⟨p, e, e1, e2, n p hp, e4.mono f (k p hp)⟩
  | tr t =>
    obtain ⟨x, e1, e2, e3, e4⟩ := h
    exact ⟨x, e1, e2.mono f k, e3, fun b hb => ⟨(e4 b hb).1, n b hb⟩⟩
structure Stt (K : PySem.W.Frag) (c : Bk) (F H : Hp) (σ : L2.St) (ds : DS) : Prop where
  gr : Grow c.T c.F0 c.H0 F H
  tb : LamX.Tabs c.T H
  len : σ.length = ds.length
  at_ : ∃ fp : Nat → List Addr, (∀ (i : Nat) (s : Sl), ds[i]? = some s → SlAt K c F H σ[i]? (fp i) s) ∧ ∀ i j, i ≠ j → i < ds.length → j < ds.length → ∀ b ∈ fp i, b ∉ fp j
  fx : ∀ p ∈ c.fx, ∀ t, ds[p.1]? = some (.tr t) → σ[p.1]? = some (some p.2)
section
variable {K : PySem.W.Frag} {c : Bk} {F H F1 H1 : Hp} {σ : L2.St} {ds : DS}
theorem lt_of_get {α : Type} {l : List α} {i : Nat} {a : α} (h : l[i]? = some a) : i < l.length := (List.getElem?_eq_some_iff.mp h).1
theorem Stt.sl (e : Stt K c F H σ ds) (i : Nat) (s : Sl) (h : ds[i]? = some s) : SlOk K c F H σ[i]? s := by
  obtain ⟨fp, a, _⟩ := e.at_
  exact (a i s h).ok
theorem Stt.fh (e : Stt K c F H σ ds) : Sam F H := e.gr.fh
theorem Stt.grow (e : Stt K c F H σ ds) (g : Grow c.T F H F1 H1) : Stt K c F1 H1 σ ds where
  gr := e.gr.trans g
  tb := g.tb e.tb
  len := e.len
  at_ := by
    obtain ⟨fp, a, d⟩ := e.at_
    refine ⟨fp, fun i s h => ?_, d⟩
    have q := a i s h
    exact q.stay g.ff (fun b _ o h' m => g.hh.keep b o h' (mt_nT m)) fun b hb => by
      obtain ⟨_, h2, o, h3, h4⟩ := q.mem b hb
      exact g.nw b o h3 h4 h2
  fx := e.fx
theorem get_set {α : Type} {l : List α} {i j : Nat} {a : α} : (l.set i a)[j]? = if i = j ∧ i < l.length then some a else l[j]? := by
  rw [List.getElem?_set]
  by_cases h : i = j
  · subst h
    by_cases h2 : i < l.length
    · simp [h2]
    · simp [h2]
  · simp [h]
/-- a slot gets another thing, with addresses of its own that no other slot has -/
theorem Stt.putF {i : Nat} {v : Option V} {s : Sl} {fq : List Addr} {fp : Nat → List Addr} (e : Stt K c F H σ ds) (a : ∀ (j : Nat) (s : Sl), ds[j]? = some s → SlAt K c F H σ[j]? (fp j) s) (d : ∀ j k, j ≠ k → j < ds.length → k < ds.length → ∀ b ∈ fp j, b ∉ fp k)
    (h : SlAt K c F H (some v) fq s) (hz : i < ds.length → ∀ j, j ≠ i → j < ds.length → ∀ b ∈ fp j, b ∉ fq) (hx : ∀ p ∈ c.fx, p.1 = i → ∀ t, s ≠ .tr t) : Stt K c F H (σ.set i v) (ds.set i s) where
  gr := e.gr
  tb := e.tb
  len := by rw [List.length_set, List.length_set]; exact e.len
  at_ := by
    by_cases hi : i < ds.length
    · refine ⟨fun j => if j = i then fq else fp j, fun j t q => ?_, fun j k hjk hj hk b hb => ?_⟩
      · rw [get_set] at q
        rw [get_set]
        by_cases hij : i = j ∧ i < ds.length
        · rw [if_pos hij] at q
          cases q
          rw [if_pos (by rw [e.len]; exact hij)]
          simp only [if_pos hij.1.symm]
          exact h
        · rw [if_neg hij] at q
          rw [if_neg (by rw [e.len]; exact hij)]
          simp only [if_neg (fun z : j = i => hij ⟨z.symm, hi⟩)]
          exact a j t q
      · rw [List.length_set] at hj hk
        have hz := hz hi
        by_cases h1 : j = i
        · simp only [if_pos h1] at hb
          have h2 : k ≠ i := fun z => hjk (h1.trans z.symm)
          simp only [if_neg h2]
          exact fun z => hz k h2 hk b z hb
        · simp only [if_neg h1] at hb
          by_cases h2 : k = i
          · simp only [if_pos h2]
            exact hz j h1 hj b hb
          · simp only [if_neg h2]
            exact d j k hjk hj hk b hb
    · rw [List.set_eq_of_length_le (by omega), List.set_eq_of_length_le (by rw [e.len]; omega)]
      exact ⟨fp, a, d⟩
  fx := fun p hp t q => by
    rw [get_set] at q
    rw [get_set]
    by_cases hij : i = p.1 ∧ i < ds.length
    · rw [if_pos hij] at q
      cases q
      exact absurd rfl (hx p hp hij.1.symm t)
    · rw [if_neg hij] at q
      rw [if_neg (by rw [e.len]; exact hij)]
      exact e.fx p hp t q
theorem Stt.put0 {i : Nat} {v : Option V} {s : Sl} (e : Stt K c F H σ ds) (h : SlAt K c F H (some v) [] s) (hs : ∀ t, s ≠ .tr t) : Stt K c F H (σ.set i v) (ds.set i s) := by
  obtain ⟨fp, a, d⟩ := e.at_
  exact e.putF a d h (fun _ _ _ _ _ _ z => by cases z) fun _ _ _ => hs
/-- the addresses of all slots, at a later state -/
theorem Stt.atG (e : Stt K c F H σ ds) (g : Grow c.T F H F1 H1) : ∃ fp : Nat → List Addr, (∀ (i : Nat) (s : Sl), ds[i]? = some s → SlAt K c F1 H1 σ[i]? (fp i) s) ∧ (∀ i j, i ≠ j → i < ds.length → j < ds.length → ∀ b ∈ fp i, b ∉ fp j) ∧ ∀ i, i < ds.length → ∀ b ∈ fp i, ¬ Fr H b := by
  obtain ⟨fp, a, d⟩ := e.at_
  refine ⟨fp, fun i s h => ?_, d, fun i hi b hb => ?_⟩
  · have q := a i s h
    exact q.stay g.ff (fun b _ o h' m => g.hh.keep b o h' (mt_nT m)) fun b hb => by
      obtain ⟨_, h2, o, h3, h4⟩ := q.mem b hb
      exact g.nw b o h3 h4 h2
  · obtain ⟨_, _, o, h3, h4⟩ := (a i _ (List.getElem?_eq_getElem hi)).mem b hb
    exact fun z => z.ne h3 (mt_nT h4) rfl
/-- a slot gets new objects of one's own -/
theorem Stt.putNew {i : Nat} {v : Option V} {s : Sl} {fq : List Addr} (e : Stt K c F H σ ds) (g : Grow c.T F H F1 H1) (h : SlAt K c F1 H1 (some v) fq s) (hn : ∀ b ∈ fq, Fr H b) (hx : ∀ p ∈ c.fx, p.1 = i → ∀ t, s ≠ .tr t) : Stt K c F1 H1 (σ.set i v) (ds.set i s) := by
  obtain ⟨fp, a, d, n⟩ := e.atG g
  exact (e.grow g).putF a d h (fun _ j _ hj b hb z => n j hj b hb (hn b z)) hx
/-- a slot gets a frozen thing -/
theorem Stt.set {i : Nat} {v : V} {d : PyData} (e : Stt K c F H σ ds) (h : Dq K F v d) : Stt K c F H (σ.set i (some v)) (ds.set i (.im d)) :=
  e.put0 ⟨rfl, v, rfl, h⟩ fun _ z => by cases z
/-- .. a thing that lasts as long as the def runs -/
theorem Stt.setB {i : Nat} {v : V} {d : PyData} (e : Stt K c F H σ ds) (h : Dq K c.H0 v d) : Stt K c F H (σ.set i (some v)) (ds.set i (.bw d)) :=
  e.put0 ⟨rfl, v, rfl, h⟩ fun _ z => by cases z
/-- a slot is forgotten -/
theorem Stt.forget {i : Nat} {o : Option V} (e : Stt K c F H σ ds) : Stt K c F H (σ.set i o) (ds.set i .no) :=
  e.put0 rfl fun _ z => by cases z
/-- what a slot knows is forgotten, its value stays -/
theorem Stt.drop {i : Nat} (e : Stt K c F H σ ds) : Stt K c F H σ (ds.set i .no) where
  gr := e.gr
  tb := e.tb
  len := by rw [List.length_set]; exact e.len
  at_ := by
    obtain ⟨fp, a, d⟩ := e.at_
    refine ⟨fun j => if j = i then [] else fp j, fun j t q => ?_, fun j k hjk hj hk b hb => ?_⟩
    · rw [get_set] at q
      by_cases hij : i = j ∧ i < ds.length
      · rw [if_pos hij] at q
        cases q
        simp only [if_pos hij.1.symm]
        rfl
      · rw [if_neg hij] at q
        simp only [if_neg (fun z : j = i => hij ⟨z.symm, by rw [← z]; exact lt_of_get q⟩)]
        exact a j t q
    · rw [List.length_set] at hj hk
      by_cases h1 : j = i
      · simp only [if_pos h1] at hb
        cases hb
      · simp only [if_neg h1] at hb
        by_cases h2 : k = i
        · simp only [if_pos h2]
          exact fun z => by cases z
        · simp only [if_neg h2]
          exact d j k hjk hj hk b hb
  fx := fun p hp t q => by
    rw [get_set] at q
    by_cases hij : i = p.1 ∧ i < ds.length
    · rw [if_pos hij] at q
      cases q
    · rw [if_neg hij] at q
      exact e.fx p hp t q
/-- the object of an owned slot changes -/
theorem Stt.mut {i : Nat} {p : Addr} {d d' : PyData} {o : HO} (e : Stt K c F H σ ds) (hi : ds[i]? = some (.ow d)) (hp : σ[i]? = some (some (.ref p))) (ho : Own K F (upd H p o) p d') : Stt K c F (upd H p o) σ (ds.set i (.ow d')) := by
  obtain ⟨fp, a, dj⟩ := e.at_
  have hlt := lt_of_get hi
  obtain ⟨p', e0, e1, e2, e3, e4⟩ := a i _ hi
  have ep : p = p' := by
    rw [e1] at hp
    exact (V.ref.inj (Option.some.inj (Option.some.inj hp))).symm
  subst ep
  obtain ⟨o1, ho1, ho2⟩ := e4.there
  refine ⟨e.gr.mut e2 e3 ho1 (mt_flat ho2), tabs_mut ho1 (mt_flat ho2) e.tb, by rw [List.length_set]; exact e.len, ⟨fp, fun j s q => ?_, fun j k hjk hj hk => ?_⟩, fun r hr t q => ?_⟩
  · rw [get_set] at q
    by_cases hij : i = j ∧ i < ds.length
    · rw [if_pos hij] at q
      cases q
      rw [← hij.1]
      exact ⟨p, e0, e1, e2, e3, ho⟩
    · rw [if_neg hij] at q
      have hji : j ≠ i := fun z => hij ⟨z.symm, hlt⟩
      have r := a j s q
      exact r.stay (.refl _) (fun b hb o' h' _ => by
        rw [upd_ne (fun z => dj j i hji (lt_of_get q) hlt b hb (by rw [e0, z]; simp))]
        exact h') fun b hb => (r.mem b hb).2.1
  · rw [List.length_set] at hj hk
    exact dj j k hjk hj hk
  · rw [get_set] at q
    by_cases hij : i = r.1 ∧ i < ds.length
    · rw [if_pos hij] at q
      cases q
    · rw [if_neg hij] at q
      exact e.fx r hr t q
end
end Cb
namespace Cb
open PySem PySem.Spec PyProof.Rows L2
/-! ### a tree as data -/
mutual
def Tr.data : Tr → PyData
  | .fz d => d
  | .dk kvs => .dict (Tr.dataK kvs)
  | .dt kvs => tdict (kvs.map fun kv => (.tuple (kv.1.map kD), kv.2))
  | .ls xs => .list xs
  | .ob n fs => odict n (Tr.dataF fs)
def Tr.dataK : List (Key × Tr) → List (PyData × PyData)
  | [] => []
  | (k, t) :: r => (kD k, Tr.data t) :: Tr.dataK r
def Tr.dataF : List (Str × Tr) → List (PyData × PyData)
  | [] => []
  | (k, t) :: r => (.tuple [.str k], Tr.data t) :: Tr.dataF r
end
theorem dqKT_of {K : PySem.W.Frag} {H : Hp} : ∀ {l : List (List Key × V)} {kvs : List (List Key × PyData)}, l.map (·.1) = kvs.map (·.1) → DqAll K H (l.map (·.2)) (kvs.map (·.2)) → DqKT K H l (kvs.map fun kv => (.tuple (kv.1.map kD), kv.2))
  | [], [], _, _ => .nil
  | (k, v) :: l, (k', d) :: kvs, e, .cons h t => by
    simp only [List.map_cons, List.cons.injEq] at e
    obtain ⟨e1, e2⟩ := e
    subst e1
    exact .cons h (dqKT_of e2 t)
  | [], _ :: _, e, _ => by simp at e
  | _ :: _, [], e, _ => by simp at e
mutual
theorem TrOk.dq {K : PySem.W.Frag} {F H : Hp} (f : Sam F H) : ∀ {v : V} {t : Tr} {fp : List Addr}, TrOk K F H v t fp → Dq K H v t.data
  | _, _, _, .fz h => by rw [Tr.data]; exact h.mono f
  | _, .dk kvs, _, .dk h e a => by rw [Tr.data]; exact .dct (.of h) (TrAll.dqK f e a)
  | _, _, _, .dt h e a => by rw [Tr.data]; exact .dcT (.of h) (dqKT_of e (a.mono f))
  | _, _, _, .ls h a => by rw [Tr.data]; exact .lst (.of h) (a.mono f)
  | _, _, _, .ob h e a => by rw [Tr.data]; exact .obj h (TrAll.dqF f e a)
theorem TrAll.dqK {K : PySem.W.Frag} {F H : Hp} (f : Sam F H) : ∀ {l : List (Key × V)} {kvs : List (Key × Tr)} {fp : List Addr}, l.map (·.1) = kvs.map (·.1) → TrAll K F H (l.map (·.2)) (kvs.map (·.2)) fp → DqKV K H l (Tr.dataK kvs)
  | [], [], _, _, _ => by rw [Tr.dataK]; exact .nil
  | (k, v) :: l, (k', t) :: kvs, _, e, .cons h r => by
    simp only [List.map_cons, List.cons.injEq] at e
    obtain ⟨e1, e2⟩ := e
    subst e1
    rw [Tr.dataK]
    exact .cons (TrOk.dq f h) (TrAll.dqK f e2 r)
  | [], _ :: _, _, e, _ => by simp at e
  | _ :: _, [], _, e, _ => by simp at e
theorem TrAll.dqF {K : PySem.W.Frag} {F H : Hp} (f : Sam F H) : ∀ {l : List (Str × V)} {kvs : List (Str × Tr)} {fp : List Addr}, l.map (·.1) = kvs.map (·.1) → TrAll K F H (l.map (·.2)) (kvs.map (·.2)) fp → DqFs K H l (Tr.dataF kvs)
  | [], [], _, _, _ => by rw [Tr.dataF]; exact .nil
  | (k, v) :: l, (k', t) :: kvs, _, e, .cons h r => by
    simp only [List.map_cons, List.cons.injEq] at e
    obtain ⟨e1, e2⟩ := e
    subst e1
    rw [Tr.dataF]
    exact .cons (TrOk.dq f h) (TrAll.dqF f e2 r)
  | [], _ :: _, _, e, _ => by simp at e
  | _ :: _, [], _, e, _ => by simp at e
end
/-! ### readings by data -/
abbrev ES := DS → R PyData
/-- the error's own dict -/
def ErOk (H : Hp) (x : Xc) (d : Option Addr) : Prop := match x.fd with
  | none => d = none
  | some (f, n) => ∃ a, d = some a ∧ H a = some (.xd [(f, .int n)])
def wErr (c : Bk) (x : Xc) : Prop := ∀ d H', Sam c.H0 H' → LamX.Tabs c.T H' → ErOk H' x d → c.E (.ref (c.cl x.nm)) d H'
def wP (K : PySem.W.Frag) (c : Bk) (F H : Hp) (Q : VK) : R PyData → Prop
  | .bad => False
  | .ok d => ∀ v F' H', Grow c.T F H F' H' → Dq K F' v d → Q v H'
  | .err x => wErr c x
def wT (K : PySem.W.Frag) (c : Bk) (F H : Hp) (Q : VK) : R PyData → Prop
  | .bad => False
  | .ok d => ∀ v F' H', Grow c.T F H F' H' → Dq K H' v d → Q v H'
  | .err x => wErr c x
def wN (K : PySem.W.Frag) (c : Bk) (F H : Hp) (Q : VK) : R PyData → Prop
  | .bad => False
  | .ok d => ∀ p F' H', Grow c.T F H F' H' → Fr H p → Fr F' p → Own K F' H' p d → Q (.ref p) H'
  | .err x => wErr c x
def wB (c : Bk) (F H : Hp) (Q : Bool → Hp → Prop) : R Bool → Prop
  | .bad => False
  | .ok b => ∀ F' H', Grow c.T F H F' H' → Q b H'
  | .err x => wErr c x
/-- a lasting thing; one that lasts until the next change; a new one of one's own; a test -/
def qP (K : PySem.W.Frag) (c : Bk) (f : ES) : TE := fun σ H Q => ∃ ds F, Stt K c F H σ ds ∧ wP K c F H Q (f ds)
def qT (K : PySem.W.Frag) (c : Bk) (f : ES) : TE := fun σ H Q => ∃ ds F, Stt K c F H σ ds ∧ wT K c F H Q (f ds)
def qN (K : PySem.W.Frag) (c : Bk) (f : ES) : TE := fun σ H Q => ∃ ds F, Stt K c F H σ ds ∧ wN K c F H Q (f ds)
def qB (K : PySem.W.Frag) (c : Bk) (f : DS → R Bool) : TT := fun σ H Q => ∃ ds F, Stt K c F H σ ds ∧ wB c F H Q (f ds)
section
variable {X : Cx} {e a b : Expr} {c : Bk} {f fa fb : ES} {pos : Pos}
theorem pe_imp {t t' : TE} (h : PE X e t) (i : ∀ σ H Q, t' σ H Q → t σ H Q) : PE X e t' := ⟨fun pins s σ H Q I q => h.run pins s σ H Q I (i σ H Q q)⟩
theorem pt_imp {t t' : TT} (h : PT X e t) (i : ∀ σ H Q, t' σ H Q → t σ H Q) : PT X e t' := ⟨fun pins s σ H Q I q => h.run pins s σ H Q I (i σ H Q q)⟩
theorem pw_imp {t t' : TT} (h : PW X e t) (i : ∀ σ H Q, t' σ H Q → t σ H Q) : PW X e t' := ⟨fun wh pins s σ H Q I q => h.run wh pins s σ H Q I (i σ H Q q)⟩
theorem pa_imp {es : List Expr} {t t' : TA} (h : PA X es t) (i : ∀ σ H Q, t' σ H Q → t σ H Q) : PA X es t' := ⟨fun p pins s σ H Q I q => h.run p pins s σ H Q I (i σ H Q q)⟩
theorem pi_imp {tg : Expr} {t t' : TI} (h : PI X tg e t) (i : ∀ σ H Q, t' σ H Q → t σ H Q) : PI X tg e t' := ⟨fun pins s σ H Q I q => h.run pins s σ H Q I (i σ H Q q)⟩
theorem ps_imp {st : Stmt} {t t' : TS} (h : PS X st t) (i : ∀ D σ H, t' D σ H → t D σ H) : PS X st t' := ⟨fun pins s σ H D I q => h.run pins s σ H D I (i D σ H q)⟩
theorem pss_imp {st : List Stmt} {t t' : TS} (h : PSs X st t) (i : ∀ D σ H, t' D σ H → t D σ H) : PSs X st t' := ⟨fun pins s σ H D I q => h.run pins s σ H D I (i D σ H q)⟩
theorem d_pt (h : PE X e (qP X.K c f)) : PE X e (qT X.K c f) := pe_imp h fun σ H Q ⟨ds, F, s, w⟩ => ⟨ds, F, s, by
  cases hf : f ds with
  | bad => rw [hf] at w; exact w
  | err x => rw [hf] at w; exact w
  | ok d =>
    rw [hf] at w
    exact fun v F' H' g q => w v F' H' g (q.mono g.fh)⟩
theorem d_np (h : PE X e (qN X.K c f)) : PE X e (qP X.K c f) := pe_imp h fun σ H Q ⟨ds, F, s, w⟩ => ⟨ds, F, s, by
  cases hf : f ds with
  | bad => rw [hf] at w; exact w
  | err x => rw [hf] at w; exact w
  | ok d =>
    rw [hf] at w
    intro p F' H' g hp hF ho
    cases d with
    | list xs =>
      obtain ⟨vs, e1, e2⟩ := ho
      exact w _ _ _ (g.frz hp hF e1) (.lst (.of upd_same) (e2.mono (same_new hF)))
    | dict xs =>
      obtain ⟨vs, e1, e2⟩ := ho
      exact w _ _ _ (g.frz hp hF e1) (.dct (.of upd_same) (e2.mono (same_new hF)))
    | _ => exact ho.elim⟩
theorem d_nt (h : PE X e (qN X.K c f)) : PE X e (qT X.K c f) := d_pt (d_np h)
/-! ### names, constants -/
def vP (i : Nat) : ES := fun ds => match ds[i]? with
  | some (.im d) => .ok d
  | _ => .bad
def vT (i : Nat) : ES := fun ds => match ds[i]? with
  | some (.im d) => .ok d
  | some (.bw d) => .ok d
  | some (.ow d) => .ok d
  | some (.tr t) => .ok t.data
  | _ => .bad
def cS (d : PyData) : ES := fun _ => .ok d
theorem t_vP {K : PySem.W.Frag} {i : Nat} {σ : L2.St} {H : Hp} {Q : VK} (h : qP K c (vP i) σ H Q) : tVar i σ H Q := by
  obtain ⟨ds, F, s, w⟩ := h
  unfold vP at w
  cases hd : ds[i]? with
  | none => rw [hd] at w; exact w.elim
  | some x =>
    rw [hd] at w
    cases x with
    | im d =>
      obtain ⟨v, e1, e2⟩ := s.sl i _ hd
      exact ⟨v, e1, w v F H (.refl s.fh) e2⟩
    | _ => exact w.elim
theorem t_vT {K : PySem.W.Frag} {i : Nat} {σ : L2.St} {H : Hp} {Q : VK} (h : qT K c (vT i) σ H Q) : tVar i σ H Q := by
  obtain ⟨ds, F, s, w⟩ := h
  unfold vT at w
  cases hd : ds[i]? with
  | none => rw [hd] at w; exact w.elim
  | some x =>
    rw [hd] at w
    cases x with
    | im d =>
      obtain ⟨v, e1, e2⟩ := s.sl i _ hd
      exact ⟨v, e1, w v F H (.refl s.fh) (e2.mono s.fh)⟩
    | bw d =>
      obtain ⟨v, e1, e2⟩ := s.sl i _ hd
      exact ⟨v, e1, w v F H (.refl s.fh) (e2.mono s.gr.hh)⟩
    | ow d =>
      obtain ⟨p, e1, e2, e3, e4⟩ := s.sl i _ hd
      exact ⟨_, e1, w _ F H (.refl s.fh) (e4.dq s.fh)⟩
    | tr t =>
      obtain ⟨x, fp, e1, e2, _⟩ := s.sl i _ hd
      exact ⟨_, e1, w _ F H (.refl s.fh) (e2.dq s.fh)⟩
    | rf a => exact w.elim
    | no => exact w.elim
theorem d_v (i : Nat) {x : Str} (hN : X.N[i]? = some x := by rfl) (hv : Vis X.env.scope x := by first | exact Or.inl rfl | exact Or.inr (Or.inl rfl) | exact Or.inr (Or.inr rfl)) (hd : (x == ("__debug__" : Str)) = false := by decide)
    (hcd : (x == ("__classdict__" : Str)) = false := by decide) : PE X (.Name x pos) (qP X.K c (vP i)) := pe_imp (pe_var hN hv hd hcd) fun _ _ _ h => t_vP h
theorem d_vt (i : Nat) {x : Str} (hN : X.N[i]? = some x := by rfl) (hv : Vis X.env.scope x := by first | exact Or.inl rfl | exact Or.inr (Or.inl rfl) | exact Or.inr (Or.inr rfl)) (hd : (x == ("__debug__" : Str)) = false := by decide)
    (hcd : (x == ("__classdict__" : Str)) = false := by decide) : PE X (.Name x pos) (qT X.K c (vT i)) := pe_imp (pe_var hN hv hd hcd) fun _ _ _ h => t_vT h
theorem t_c {K : PySem.W.Frag} {d : PyData} {v : V} (hs : ∀ F, Dq K F v d) {σ : L2.St} {H : Hp} {Q : VK} (h : qP K c (cS d) σ H Q) : tC v σ H Q := by
  obtain ⟨ds, F, s, w⟩ := h
  exact w v F H (.refl s.fh) (hs F)
theorem d_int {i j} : PE X (.Constant (.int i) j pos) (qP X.K c (cS (.int i))) := pe_imp pe_int fun _ _ _ h => t_c (fun _ => .int i) h
theorem d_str {x j} : PE X (.Constant (.str x) j pos) (qP X.K c (cS (.str x))) := pe_imp pe_str fun _ _ _ h => t_c (fun _ => .str x) h
theorem d_bl {x j} : PE X (.Constant (.bool x) j pos) (qP X.K c (cS (.bool x))) := pe_imp pe_bl fun _ _ _ h => t_c (fun _ => .bl x) h
theorem d_non {j} : PE X (.Constant .none j pos) (qP X.K c (cS .none)) := pe_imp pe_non fun _ _ _ h => t_c (fun _ => .non) h
/-- a module's constant -/
theorem d_gi {x : Str} {i : Int} {t : Tok} (hm : X.mg x = some (.int i t)) (hg : Gl X x := by rfl) (hd : (x == ("__debug__" : Str)) = false := by decide) : PE X (.Name x pos) (qP X.K c (cS (.int i))) :=
  pe_imp (pe_glob (v := .int i) hg hm ⟨t, rfl⟩ hd) fun _ _ _ h => t_c (fun _ => .int i) h
theorem d_gs {x : Str} {i : Str} {t : Tok} (hm : X.mg x = some (.str i t)) (hg : Gl X x := by rfl) (hd : (x == ("__debug__" : Str)) = false := by decide) : PE X (.Name x pos) (qP X.K c (cS (.str i))) :=
  pe_imp (pe_glob (v := .str i) hg hm ⟨t, rfl⟩ hd) fun _ _ _ h => t_c (fun _ => .str i) h
/-! ### operators whose answer is a number, a text, a truth -/
def op2 (g : PyData → PyData → R PyData) (fa fb : ES) : ES := fun ds => fa ds >>= fun x => fb ds >>= fun y => g x y
def op1 (g : PyData → R PyData) (fa : ES) : ES := fun ds => fa ds >>= g
/-- r answers as g does -/
def OpD (K : PySem.W.Frag) (r : R2) (g : PyData → PyData → R PyData) : Prop :=
  ∀ x y d e H, Dq K H x d → Dq K H y e → (∃ z v, g d e = .ok z ∧ (∀ F, Dq K F v z) ∧ ∀ Q : VK, Q v H → r x y H Q) ∨ g d e = .bad
theorem t_op2 {K : PySem.W.Frag} {r : R2} {g : PyData → PyData → R PyData} (hr : OpD K r g) {σ : L2.St} {H : Hp} {Q : VK} (h : qP K c (op2 g fa fb) σ H Q) : tOp r (qT K c fa) (qT K c fb) σ H Q := by
  obtain ⟨ds, F, s, w⟩ := h
  refine ⟨ds, F, s, ?_⟩
  unfold op2 at w
  cases ha : fa ds with
  | bad => rw [ha] at w; exact w
  | err x => rw [ha] at w; exact w
  | ok d =>
    rw [ha] at w
    intro v F1 H1 g1 q1
    refine ⟨ds, F1, s.grow g1, ?_⟩
    rw [R.ok_bind] at w
    cases hb : fb ds with
    | bad => rw [hb] at w; exact w
    | err x => rw [hb] at w; exact w
    | ok d2 =>
      rw [hb] at w
      intro v2 F2 H2 g2 q2
      rw [R.ok_bind] at w
      rcases hr v v2 d d2 H2 (q1.mono g2.hh) q2 with ⟨z, u, e1, s1, k⟩ | e1
      · rw [e1] at w
        exact k _ (w u F2 H2 (g1.trans g2) (s1 F2))
      · rw [e1] at w
        exact w.elim
theorem d_op {op : Operator} {r : R2} {g : PyData → PyData → R PyData} (ho : OpR X (binaryOp op) r) (hr : OpD X.K r g) (ha : PE X a (qT X.K c fa)) (hb : PE X b (qT X.K c fb)) : PE X (.BinOp a op b pos) (qP X.K c (op2 g fa fb)) :=
  pe_imp (pe_op ho ha hb) fun _ _ _ h => t_op2 hr h
theorem d_cmp {op : CmpOp} {r : R2} {g : PyData → PyData → R PyData} (ho : OpR X (compareOp op) r) (hr : OpD X.K r g) (ha : PE X a (qT X.K c fa)) (hb : PE X b (qT X.K c fb)) (hm : behindInMarks op b = false := by first | exact nomark _ | rfl) : PE X (.Compare a [op] [b] pos) (qP X.K c (op2 g fa fb)) :=
  pe_imp (pe_cmpR ho ha hb hm) fun _ _ _ h => t_op2 hr h
/-- a value that is a truth, as a test -/
def bO (d : PyData) : R Bool := match d with
  | .bool b => .ok b
  | _ => .bad
def bS (f : ES) : DS → R Bool := fun ds => f ds >>= bO
theorem t_bS {K : PySem.W.Frag} {σ : L2.St} {H : Hp} {Q : Bool → Hp → Prop} (h : qB K c (bS f) σ H Q) : qT K c f σ H (fun x H1 => ∃ k, x = .bl k ∧ Q k H1) := by
  obtain ⟨ds, F, s, w⟩ := h
  refine ⟨ds, F, s, ?_⟩
  unfold bS at w
  cases hf : f ds with
  | bad => rw [hf] at w; exact w
  | err x => rw [hf] at w; exact w
  | ok d =>
    rw [hf] at w
    intro v F1 H1 g1 q1
    cases d with
    | bool k =>
      cases q1
      exact ⟨k, rfl, w F1 H1 g1⟩
    | _ => exact w.elim
theorem d_cmpB {op : CmpOp} {r : R2} {g : PyData → PyData → R PyData} (ho : OpR X (compareOp op) r) (hr : OpD X.K r g) (ha : PE X a (qT X.K c fa)) (hb : PE X b (qT X.K c fb)) (hm : behindInMarks op b = false := by first | exact nomark _ | rfl) : PT X (.Compare a [op] [b] pos) (qB X.K c (bS (op2 g fa fb))) := by
  refine pt_imp (pt_cmpR ho ha hb hm) fun σ H Q h => ?_
  obtain ⟨ds, F, s, w⟩ := t_bS h
  refine t_op2 hr ⟨ds, F, s, ?_⟩
  cases hf : op2 g fa fb ds with
  | bad => rw [hf] at w; exact w
  | err x => rw [hf] at w; exact w
  | ok d =>
    rw [hf] at w
    exact fun v F1 H1 g1 q1 => w v F1 H1 g1 (q1.mono g1.fh)
theorem d_valB (h : PE X e (qT X.K c f)) (he : ∀ whole, isTrue e X.env whole = (do let v ← whole; standAt e.pos; holding [v] (truthy v)) := by intro _; rfl) : PT X e (qB X.K c (bS f)) :=
  pt_imp (pt_val h he) fun σ H Q q => t_bS q
/-! ### ints -/
def gI (p : Int → Int → R PyData) : PyData → PyData → R PyData
  | .int i, .int j => p i j
  | _, _ => .bad
theorem od_I0 {K : PySem.W.Frag} {g : Int → Int → V} {g' : Int → Int → PyData} (hg : ∀ i j F, Dq K F (g i j) (g' i j)) : OpD K (rI0 g) (gI fun i j => .ok (g' i j)) := fun x y d e H h1 h2 => by
  cases h1 with
  | int i =>
    cases h2 with
    | int j => exact .inl ⟨_, _, rfl, hg i j, fun Q q => ⟨i, j, rfl, rfl, q⟩⟩
    | _ => exact .inr rfl
  | _ => exact .inr rfl
theorem od_I {K : PySem.W.Frag} {C : Int → Int → Prop} {g : Int → Int → V} {g' : Int → Int → PyData} {ch : Int → Int → Bool} (hc : ∀ i j, ch i j = true → C i j) (hg : ∀ i j F, Dq K F (g i j) (g' i j)) :
    OpD K (rI C g) (gI fun i j => if ch i j = true then .ok (g' i j) else .bad) := fun x y d e H h1 h2 => by
  cases h1 with
  | int i =>
    cases h2 with
    | int j =>
      by_cases hh : ch i j = true
      · exact .inl ⟨_, _, (show (if ch i j = true then _ else _) = _ from if_pos hh), hg i j, fun Q q => ⟨i, j, rfl, rfl, hc i j hh, q⟩⟩
      · exact .inr (show (if ch i j = true then _ else _) = _ from if_neg hh)
    | _ => exact .inr rfl
  | _ => exact .inr rfl
def addI := gI fun i j => .ok (.int (i + j))
def subI := gI fun i j => .ok (.int (i - j))
def in64 (i : Int) : Bool := decide (-(2 ^ 64) < i) && decide (i < 2 ^ 64)
def mulI := gI fun i j => if (in64 i || in64 j) = true then .ok (.int (i * j)) else .bad
def divW (_ j : Int) : Bool := decide (0 < j) && decide (j.natAbs.log2 < 9000)
def divI := gI fun i j => if divW i j = true then .ok (.int (i / j)) else .bad
def modI := gI fun i j => if decide (0 < j) = true then .ok (.int (i % j)) else .bad
def powW (i j : Int) : Bool := decide (0 ≤ j) && decide (j ≤ 1000000) && decide (i.natAbs < 2 ^ 64)
def powI := gI fun i j => if powW i j = true then .ok (.int (i ^ j.toNat)) else .bad
def ltI := gI fun i j => .ok (.bool (decide (i < j)))
def leI := gI fun i j => .ok (.bool (decide (i ≤ j)))
def gtI := gI fun i j => .ok (.bool (decide (j < i)))
def geI := gI fun i j => .ok (.bool (decide (j ≤ i)))
theorem d_add (ha : PE X a (qT X.K c fa)) (hb : PE X b (qT X.K c fb)) : PE X (.BinOp a .Add b pos) (qP X.K c (op2 addI fa fb)) := d_op op_add (od_I0 fun i j _ => .int _) ha hb
theorem d_sub (ha : PE X a (qT X.K c fa)) (hb : PE X b (qT X.K c fb)) : PE X (.BinOp a .Sub b pos) (qP X.K c (op2 subI fa fb)) := d_op op_sub (od_I0 fun i j _ => .int _) ha hb
theorem d_mul (ha : PE X a (qT X.K c fa)) (hb : PE X b (qT X.K c fb)) : PE X (.BinOp a .Mult b pos) (qP X.K c (op2 mulI fa fb)) :=
  d_op op_mul (od_I (ch := fun i j => in64 i || in64 j) (fun i j h => by
    simp only [in64, Bool.or_eq_true, Bool.and_eq_true, decide_eq_true_eq] at h
    exact h) fun i j _ => .int _) ha hb
theorem d_div (ha : PE X a (qT X.K c fa)) (hb : PE X b (qT X.K c fb)) : PE X (.BinOp a .FloorDiv b pos) (qP X.K c (op2 divI fa fb)) :=
  d_op op_fdivW (od_I (ch := divW) (fun i j h => by
    simp only [divW, Bool.and_eq_true, decide_eq_true_eq] at h
    exact h) fun i j _ => .int _) ha hb
theorem d_mod (ha : PE X a (qT X.K c fa)) (hb : PE X b (qT X.K c fb)) : PE X (.BinOp a .Mod b pos) (qP X.K c (op2 modI fa fb)) :=
  d_op op_mod (od_I (ch := fun _ j => decide (0 < j)) (fun i j h => of_decide_eq_true h) fun i j _ => .int _) ha hb
theorem d_pow (ha : PE X a (qT X.K c fa)) (hb : PE X b (qT X.K c fb)) : PE X (.BinOp a .Pow b pos) (qP X.K c (op2 powI fa fb)) :=
  d_op op_pow (od_I (ch := powW) (fun i j h => by
    simp only [powW, Bool.and_eq_true, decide_eq_true_eq] at h
    exact ⟨h.1.1, h.1.2, h.2⟩) fun i j _ => .int _) ha hb
theorem od_lt {K : PySem.W.Frag} : OpD K (rI0 fun i j => .bl (decide (i < j))) ltI := od_I0 fun i j _ => .bl _
theorem od_le {K : PySem.W.Frag} : OpD K (rI0 fun i j => .bl (decide (i ≤ j))) leI := od_I0 fun i j _ => .bl _
theorem od_gt {K : PySem.W.Frag} : OpD K (rI0 fun i j => .bl (decide (j < i))) gtI := od_I0 fun i j _ => .bl _
theorem od_ge {K : PySem.W.Frag} : OpD K (rI0 fun i j => .bl (decide (j ≤ i))) geI := od_I0 fun i j _ => .bl _
end
end Cb
namespace Cb
open PySem PySem.Spec PyProof.Rows L2
section
variable {X : Cx} {e a b cc : Expr} {c : Bk} {f fa fb fc : ES} {pos : Pos}
/-! ### a chain of two comparisons of ints -/
def chI (g g' : PyData → PyData → R PyData) (fa fb fc : ES) : ES := fun ds => fa ds >>= fun x => fb ds >>= fun y => g x y >>= fun z => match z with
  | .bool true => fc ds >>= fun w => g' y w
  | .bool false => .ok (.bool false)
  | _ => .bad
theorem t_ch {K : PySem.W.Frag} {r r' : R2} {g g' : PyData → PyData → R PyData} (hr : OpD K r g) (hr' : OpD K r' g') {σ : L2.St} {H : Hp} {Q : VK} (h : qP K c (chI g g' fa fb fc) σ H Q) : tChain r r' (qT K c fa) (qT K c fb) (qT K c fc) σ H Q := by
  obtain ⟨ds, F, s, w⟩ := h
  refine ⟨ds, F, s, ?_⟩
  unfold chI at w
  cases ha : fa ds with
  | bad => rw [ha] at w; exact w
  | err x => rw [ha] at w; exact w
  | ok d =>
    rw [ha] at w
    intro v F1 H1 g1 q1
    refine ⟨ds, F1, s.grow g1, ?_⟩
    rw [R.ok_bind] at w
    cases hb : fb ds with
    | bad => rw [hb] at w; exact w
    | err x => rw [hb] at w; exact w
    | ok d2 =>
      rw [hb] at w
      intro v2 F2 H2 g2 q2
      rw [R.ok_bind] at w
      rcases hr v v2 d d2 H2 (q1.mono g2.hh) q2 with ⟨z, u, e1, s1, k⟩ | e1
      · rw [e1, R.ok_bind] at w
        cases z with
        | bool bb =>
          have eu : u = .bl bb := by
            have := s1 (fun _ => none)
            cases this
            rfl
          subst eu
          refine k _ ⟨bb, rfl, ?_⟩
          cases bb with
          | false =>
            rw [if_neg Bool.false_ne_true]
            exact w (.bl false) F2 H2 (g1.trans g2) (.bl false)
          | true =>
            rw [if_pos rfl]
            refine ⟨ds, F2, (s.grow g1).grow g2, ?_⟩
            cases hc : fc ds with
            | bad => simp only [hc, R.bad_bind] at w; exact w
            | err x => simp only [hc, R.err_bind] at w; exact w
            | ok d3 =>
              simp only [hc, R.ok_bind] at w
              intro v3 F3 H3 g3 q3
              rcases hr' v2 v3 d2 d3 H3 (q2.mono g3.hh) q3 with ⟨z, u, e1, s1, k⟩ | e1
              · rw [e1] at w
                exact k _ (w u F3 H3 ((g1.trans g2).trans g3) (s1 F3))
              · rw [e1] at w
                exact w.elim
        | _ => exact w.elim
      · rw [e1] at w
        exact w.elim
theorem d_ch {op op' : CmpOp} {r r' : R2} {g g' : PyData → PyData → R PyData} (ho : OpR X (compareOp op) r) (hr : OpD X.K r g) (ho' : OpR X (compareOp op') r') (hr' : OpD X.K r' g') (ha : PE X a (qT X.K c fa)) (hb : PE X b (qT X.K c fb)) (hc : PE X cc (qT X.K c fc))
    (hm : lastMarks [op, op'] [b, cc] = false := by with_unfolding_all rfl) : PE X (.Compare a [op, op'] [b, cc] pos) (qP X.K c (chI g g' fa fb fc)) :=
  pe_imp (pe_chain ho ho' ha hb hc hm) fun _ _ _ h => t_ch hr hr' h
theorem t_bP {K : PySem.W.Frag} {t : TE} (ht : ∀ σ H Q, qP K c f σ H Q → t σ H Q) {σ : L2.St} {H : Hp} {Q : Bool → Hp → Prop} (h : qB K c (bS f) σ H Q) : tTest t σ H Q := by
  obtain ⟨ds, F, s, w⟩ := t_bS h
  refine ht _ _ _ ⟨ds, F, s, ?_⟩
  cases hf : f ds with
  | bad => rw [hf] at w; exact w
  | err x => rw [hf] at w; exact w
  | ok d =>
    rw [hf] at w
    exact fun v F1 H1 g1 q1 => w v F1 H1 g1 (q1.mono g1.fh)
theorem d_chB {op op' : CmpOp} {r r' : R2} {g g' : PyData → PyData → R PyData} (ho : OpR X (compareOp op) r) (hr : OpD X.K r g) (ho' : OpR X (compareOp op') r') (hr' : OpD X.K r' g') (ha : PE X a (qT X.K c fa)) (hb : PE X b (qT X.K c fb)) (hc : PE X cc (qT X.K c fc))
    (hm : lastMarks [op, op'] [b, cc] = false := by with_unfolding_all rfl) : PT X (.Compare a [op, op'] [b, cc] pos) (qB X.K c (bS (chI g g' fa fb fc))) :=
  pt_imp (pt_chain ho ho' ha hb hc hm) fun _ _ _ h => t_bP (fun _ _ _ q => t_ch hr hr' q) h
/-! ### and, or, not -/
def andB (f g : DS → R Bool) : DS → R Bool := fun ds => f ds >>= fun x => if x = true then g ds else .ok false
def orB (f g : DS → R Bool) : DS → R Bool := fun ds => f ds >>= fun x => if x = true then .ok true else g ds
def notB (f : DS → R Bool) : DS → R Bool := fun ds => f ds >>= fun x => .ok (!x)
theorem t_andB {K : PySem.W.Frag} {f g : DS → R Bool} {σ : L2.St} {H : Hp} {Q : Bool → Hp → Prop} (h : qB K c (andB f g) σ H Q) : tAnd (qB K c f) (qB K c g) σ H Q := by
  obtain ⟨ds, F, s, w⟩ := h
  refine ⟨ds, F, s, ?_⟩
  unfold andB at w
  cases hf : f ds with
  | bad => rw [hf] at w; exact w
  | err x => rw [hf] at w; exact w
  | ok x =>
    rw [hf, R.ok_bind] at w
    intro F1 H1 g1
    cases x with
    | true =>
      rw [if_pos rfl] at w
      rw [if_pos rfl]
      refine ⟨ds, F1, s.grow g1, ?_⟩
      cases hg : g ds with
      | bad => rw [hg] at w; exact w
      | err x => rw [hg] at w; exact w
      | ok y => rw [hg] at w; exact fun F2 H2 g2 => w F2 H2 (g1.trans g2)
    | false =>
      rw [if_neg Bool.false_ne_true] at w
      rw [if_neg Bool.false_ne_true]
      exact w F1 H1 g1
theorem t_orB {K : PySem.W.Frag} {f g : DS → R Bool} {σ : L2.St} {H : Hp} {Q : Bool → Hp → Prop} (h : qB K c (orB f g) σ H Q) : tOr (qB K c f) (qB K c g) σ H Q := by
  obtain ⟨ds, F, s, w⟩ := h
  refine ⟨ds, F, s, ?_⟩
  unfold orB at w
  cases hf : f ds with
  | bad => rw [hf] at w; exact w
  | err x => rw [hf] at w; exact w
  | ok x =>
    rw [hf, R.ok_bind] at w
    intro F1 H1 g1
    cases x with
    | false =>
      rw [if_neg Bool.false_ne_true] at w
      rw [if_neg Bool.false_ne_true]
      refine ⟨ds, F1, s.grow g1, ?_⟩
      cases hg : g ds with
      | bad => rw [hg] at w; exact w
      | err x => rw [hg] at w; exact w
      | ok y => rw [hg] at w; exact fun F2 H2 g2 => w F2 H2 (g1.trans g2)
    | true =>
      rw [if_pos rfl] at w
      rw [if_pos rfl]
      exact w F1 H1 g1
theorem t_notB {K : PySem.W.Frag} {f : DS → R Bool} {σ : L2.St} {H : Hp} {Q : Bool → Hp → Prop} (h : qB K c (notB f) σ H Q) : tNot (qB K c f) σ H Q := by
  obtain ⟨ds, F, s, w⟩ := h
  refine ⟨ds, F, s, ?_⟩
  unfold notB at w
  cases hf : f ds with
  | bad => rw [hf] at w; exact w
  | err x => rw [hf] at w; exact w
  | ok x =>
    rw [hf, R.ok_bind] at w
    exact fun F1 H1 g1 => w F1 H1 g1
variable {rest : List Expr} {ft ft' : DS → R Bool}
theorem d_and1 (ha : PT X a (qB X.K c ft)) : PW X (.BoolOp .And [a] pos) (qB X.K c ft) := pw_and1 ha
theorem d_or1 (ha : PT X a (qB X.K c ft)) : PW X (.BoolOp .Or [a] pos) (qB X.K c ft) := pw_or1 ha
theorem d_and (ha : PT X a (qB X.K c ft)) (hb : PW X (.BoolOp .And (b :: rest) pos) (qB X.K c ft')) : PW X (.BoolOp .And (a :: b :: rest) pos) (qB X.K c (andB ft ft')) := pw_imp (pw_and ha hb) fun _ _ _ h => t_andB h
theorem d_or (ha : PT X a (qB X.K c ft)) (hb : PW X (.BoolOp .Or (b :: rest) pos) (qB X.K c ft')) : PW X (.BoolOp .Or (a :: b :: rest) pos) (qB X.K c (orB ft ft')) := pw_imp (pw_or ha hb) fun _ _ _ h => t_orB h
theorem d_not (ha : PT X a (qB X.K c ft)) : PT X (.UnaryOp .Not a pos) (qB X.K c (notB ft)) := pt_imp (pt_not ha) fun _ _ _ h => t_notB h
/-- as values, of truths -/
def vB (f : DS → R Bool) : ES := fun ds => f ds >>= fun x => .ok (.bool x)
def andV (f g : ES) : ES := fun ds => f ds >>= fun x => match x with
  | .bool true => g ds
  | .bool false => .ok (.bool false)
  | _ => .bad
def orV (f g : ES) : ES := fun ds => f ds >>= fun x => match x with
  | .bool true => .ok (.bool true)
  | .bool false => g ds
  | _ => .bad
def notV (f : ES) : ES := fun ds => f ds >>= fun x => match x with
  | .bool y => .ok (.bool (!y))
  | _ => .bad
theorem wP_grow {K : PySem.W.Frag} {F H F1 H1 : Hp} {Q : VK} {r : R PyData} (g : Grow c.T F H F1 H1) (w : wP K c F H Q r) : wP K c F1 H1 Q r := by
  cases r with
  | bad => exact w
  | err x => exact w
  | ok d => exact fun v F2 H2 g2 q => w v F2 H2 (g.trans g2) q
theorem wT_grow {K : PySem.W.Frag} {F H F1 H1 : Hp} {Q : VK} {r : R PyData} (g : Grow c.T F H F1 H1) (w : wT K c F H Q r) : wT K c F1 H1 Q r := by
  cases r with
  | bad => exact w
  | err x => exact w
  | ok d => exact fun v F2 H2 g2 q => w v F2 H2 (g.trans g2) q
theorem wB_grow {F H F1 H1 : Hp} {Q : Bool → Hp → Prop} {r : R Bool} (g : Grow c.T F H F1 H1) (w : wB c F H Q r) : wB c F1 H1 Q r := by
  cases r with
  | bad => exact w
  | err x => exact w
  | ok d => exact fun F2 H2 g2 => w F2 H2 (g.trans g2)
/-- a step: the first part's answer, then the rest -/
theorem wT_bind {K : PySem.W.Frag} {F H : Hp} {Q Q' : VK} {r : R PyData} {k : PyData → R PyData} (w : wP K c F H Q (r >>= k)) (h : ∀ d v F1 H1, Grow c.T F H F1 H1 → Dq K H1 v d → wP K c F1 H1 Q (k d) → Q' v H1) : wT K c F H Q' r := by
  cases r with
  | bad => exact w
  | err x => exact w
  | ok d => exact fun v F1 H1 g1 q1 => h d v F1 H1 g1 q1 (wP_grow g1 w)
theorem wP_bind {K : PySem.W.Frag} {F H : Hp} {Q Q' : VK} {r : R PyData} {k : PyData → R PyData} (w : wP K c F H Q (r >>= k)) (h : ∀ d v F1 H1, Grow c.T F H F1 H1 → Dq K F1 v d → wP K c F1 H1 Q (k d) → Q' v H1) : wP K c F H Q' r := by
  cases r with
  | bad => exact w
  | err x => exact w
  | ok d => exact fun v F1 H1 g1 q1 => h d v F1 H1 g1 q1 (wP_grow g1 w)
theorem wB_bind {K : PySem.W.Frag} {F H : Hp} {Q : VK} {Q' : Bool → Hp → Prop} {r : R Bool} {k : Bool → R PyData} (w : wP K c F H Q (r >>= k)) (h : ∀ d F1 H1, Grow c.T F H F1 H1 → wP K c F1 H1 Q (k d) → Q' d H1) : wB c F H Q' r := by
  cases r with
  | bad => exact w
  | err x => exact w
  | ok d => exact fun F1 H1 g1 => h d F1 H1 g1 (wP_grow g1 w)
theorem wB_bindT {K : PySem.W.Frag} {F H : Hp} {Q : VK} {Q' : Bool → Hp → Prop} {r : R Bool} {k : Bool → R PyData} (w : wT K c F H Q (r >>= k)) (h : ∀ d F1 H1, Grow c.T F H F1 H1 → wT K c F1 H1 Q (k d) → Q' d H1) : wB c F H Q' r := by
  cases r with
  | bad => exact w
  | err x => exact w
  | ok d => exact fun F1 H1 g1 => h d F1 H1 g1 (wT_grow g1 w)
theorem d_andV1 {op : BoolOp} (ha : PE X a (qP X.K c f)) : PE X (.BoolOp op [a] pos) (qP X.K c f) := pe_one ha
theorem d_andV (ha : PE X a (qT X.K c fa)) (hb : PE X (.BoolOp .And (b :: rest) pos) (qP X.K c fb)) : PE X (.BoolOp .And (a :: b :: rest) pos) (qP X.K c (andV fa fb)) := by
  refine pe_imp (pe_and ha hb) fun σ H Q h => ?_
  obtain ⟨ds, F, s, w⟩ := h
  refine ⟨ds, F, s, wT_bind w fun d v F1 H1 g1 q1 w1 => ?_⟩
  cases d with
  | bool x =>
    cases q1
    refine ⟨x, rfl, ?_⟩
    cases x with
    | true =>
      rw [if_pos rfl]
      exact ⟨ds, F1, s.grow g1, w1⟩
    | false =>
      rw [if_neg Bool.false_ne_true]
      exact w1 _ F1 H1 (.refl g1.fh) (.bl false)
  | _ => exact w1.elim
theorem d_orV (ha : PE X a (qT X.K c fa)) (hb : PE X (.BoolOp .Or (b :: rest) pos) (qP X.K c fb)) : PE X (.BoolOp .Or (a :: b :: rest) pos) (qP X.K c (orV fa fb)) := by
  refine pe_imp (pe_or ha hb) fun σ H Q h => ?_
  obtain ⟨ds, F, s, w⟩ := h
  refine ⟨ds, F, s, wT_bind w fun d v F1 H1 g1 q1 w1 => ?_⟩
  cases d with
  | bool x =>
    cases q1
    refine ⟨x, rfl, ?_⟩
    cases x with
    | false =>
      rw [if_neg Bool.false_ne_true]
      exact ⟨ds, F1, s.grow g1, w1⟩
    | true =>
      rw [if_pos rfl]
      exact w1 _ F1 H1 (.refl g1.fh) (.bl true)
  | _ => exact w1.elim
theorem d_notV (ha : PE X a (qT X.K c fa)) : PE X (.UnaryOp .Not a pos) (qP X.K c (notV fa)) := by
  refine pe_imp (pe_not ha) fun σ H Q h => ?_
  obtain ⟨ds, F, s, w⟩ := h
  refine ⟨ds, F, s, wT_bind w fun d v F1 H1 g1 q1 w1 => ?_⟩
  cases d with
  | bool x =>
    cases q1
    exact ⟨x, rfl, w1 _ F1 H1 (.refl g1.fh) (.bl _)⟩
  | _ => exact w1.elim
/-! ### a if t else b -/
def ifE (ft : DS → R Bool) (fa fb : ES) : ES := fun ds => ft ds >>= fun x => if x = true then fa ds else fb ds
theorem d_ifE (hc : PT X cc (qB X.K c ft)) (ha : PE X a (qP X.K c fa)) (hb : PE X b (qP X.K c fb)) : PE X (.IfExp cc a b pos) (qP X.K c (ifE ft fa fb)) := by
  refine pe_imp (pe_ifExp hc ha hb) fun σ H Q h => ?_
  obtain ⟨ds, F, s, w⟩ := h
  refine ⟨ds, F, s, wB_bind w fun d F1 H1 g1 w1 => ?_⟩
  cases d with
  | true =>
    rw [if_pos rfl] at w1 ⊢
    exact ⟨ds, F1, s.grow g1, w1⟩
  | false =>
    rw [if_neg Bool.false_ne_true] at w1 ⊢
    exact ⟨ds, F1, s.grow g1, w1⟩
/-! ### ==, !=, is None, is True -/
mutual
theorem dp_of {K : PySem.W.Frag} {H : Hp} : ∀ {v : V} {d : PyData}, Dq K H v d → d.canLay0 = true → Dp K H v d
  | _, _, .non, _ => .non
  | _, _, .bl b, _ => .bl b
  | _, _, .int i, _ => .int i
  | _, _, .str x, _ => .str x
  | _, _, .lst h a, z => .lst h (dpAll_of a (by simpa [PyData.canLay0] using z))
  | _, _, .tup h a, z => .tup (.of h) (dpAll_of a (by simpa [PyData.canLay0] using z))
  | _, _, .dct h a, z => by simp [PyData.canLay0] at z
  | _, _, .dcT h a, z => by simp [PyData.canLay0] at z
  | _, _, .obj h a, z => by simp [PyData.canLay0] at z
theorem dpAll_of {K : PySem.W.Frag} {H : Hp} : ∀ {vs : List V} {ds : List PyData}, DqAll K H vs ds → PyData.canLayAll0 ds = true → DpAll K H vs ds
  | _, _, .nil, _ => .nil
  | _, d :: ds, .cons h t, z => by
    have z' : d.canLay0 = true ∧ PyData.canLayAll0 ds = true := by simpa [PyData.canLayAll0] using z
    exact .cons (dp_of h z'.1) (dpAll_of t z'.2)
end
def eqD (d e : PyData) : R PyData := if (SeqAt.shaped d && SeqAt.shaped e) = true then .ok (.bool (PyData.eqv d e)) else .bad
def neD (d e : PyData) : R PyData := if (SeqAt.shaped d && SeqAt.shaped e) = true then .ok (.bool (!PyData.eqv d e)) else .bad
theorem od_eq {K : PySem.W.Frag} : OpD K (rEqD K) eqD := fun x y d e H h1 h2 => by
  unfold eqD
  by_cases hs : (SeqAt.shaped d && SeqAt.shaped e) = true
  · rw [if_pos hs]
    obtain ⟨s1, s2⟩ := Bool.and_eq_true_iff.mp hs
    exact .inl ⟨_, _, rfl, fun _ => .bl _, fun Q q => ⟨d, e, dp_of h1 (SeqAt.canLay_of_shaped s1), dp_of h2 (SeqAt.canLay_of_shaped s2), s1, s2, q⟩⟩
  · rw [if_neg hs]
    exact .inr rfl
theorem od_ne {K : PySem.W.Frag} : OpD K (rNeD K) neD := fun x y d e H h1 h2 => by
  unfold neD
  by_cases hs : (SeqAt.shaped d && SeqAt.shaped e) = true
  · rw [if_pos hs]
    obtain ⟨s1, s2⟩ := Bool.and_eq_true_iff.mp hs
    exact .inl ⟨_, _, rfl, fun _ => .bl _, fun Q q => ⟨d, e, dp_of h1 (SeqAt.canLay_of_shaped s1), dp_of h2 (SeqAt.canLay_of_shaped s2), s1, s2, q⟩⟩
  · rw [if_neg hs]
    exact .inr rfl
/-! ### isinstance -/
def tyN : PyData → String
  | .none => "NoneType"
  | .bool _ => "bool"
  | .int _ => "int"
  | .str _ => "str"
  | .list _ => "list"
  | .tuple _ => "tuple"
  | .dict _ => "dict"
/-- no dict with tuple keys, no object -/
def usualD : PyData → Bool
  | .dict ((.none, _) :: _) => false
  | _ => true
theorem tyX_of {K : PySem.W.Frag} {H : Hp} {v : V} {d : PyData} (h : Dq K H v d) (hu : usualD d = true) : TyX K H v (.type (tyN d)) := by
  cases h with
  | non => exact .base .non
  | bl b => exact .base (.bl b)
  | int i => exact .base (.int i)
  | str x => exact .base (.str x)
  | lst hs _ =>
    rcases hs with (h | ⟨o, h⟩) | ⟨o, its, n, h1, h2, _⟩
    · exact .base (.lst h)
    · exact .base (.frz h)
    · exact .kList h1 h2
  | tup hs _ =>
    exact .base (.tup hs)
  | dct h _ =>
    rcases h with h | ⟨o, h⟩
    · exact .base (.dK h)
    · exact .fDict h
  | dcT h _ => cases hu
  | obj h _ => cases hu
def isiD (T : String) (d : PyData) : R PyData := if usualD d = true then (match kitB (tyN d) T with
  | some b => .ok (.bool b)
  | none => .bad) else .bad
def isiS (T : String) (f : ES) : ES := fun ds => f ds >>= isiD T
theorem d_isi {x : Expr} {T : String} {n : Str} {p q : Pos} (hx : PE X x (qT X.K c f)) (hv : bootBuiltins n = some (.type T)) (hm : X.mg "isinstance" = none) (hmT : X.mg n = none) (hg : Gl X "isinstance" := by rfl) (hgT : Gl X n := by rfl)
    (hn : n ≠ "__name__" := by decide) (hd : (n == ("__debug__" : Str)) = false := by decide)
    (hs : starEach (x :: [.Name n q]) X.env = (false, eval x X.env) :: starEach [.Name n q] X.env := by rfl)
    (hs2 : starEach [.Name n q] X.env = (false, eval (.Name n q) X.env) :: starEach [] X.env := by rfl)
    (hpl : (backTo pos (starEach [.Name n q] X.env)).any (·.1) = false := by rfl) : PE X (.Call (.Name "isinstance" p) [x, .Name n q] [] pos) (qP X.K c (isiS T f)) := by
  refine pe_imp (pe_callB call_isi hg hm (by decide +kernel) (pa_cons hx (pa_cons (pe_bltn (v := .ty T) hgT hmT hv rfl hn hd) pa_nil hs2) hs) (by decide) (by decide) hs hpl) fun σ H Q h => ?_
  obtain ⟨ds, F, s, w⟩ := h
  refine ⟨ds, F, s, wT_bind w fun d v F1 H1 g1 q1 w1 => ?_⟩
  show rIsi X.K [v, .ty T] H1 Q
  unfold isiD at w1
  by_cases hu : usualD d = true
  · rw [if_pos hu] at w1
    cases hk : kitB (tyN d) T with
    | none => rw [hk] at w1; exact w1.elim
    | some r =>
      rw [hk] at w1
      exact ⟨v, .ty T, _, _, r, rfl, .ty T, tyX_of q1 hu, kit_ty hk, w1 _ F1 H1 (.refl g1.fh) (.bl r)⟩
  · rw [if_neg hu] at w1
    exact w1.elim
end
end Cb
namespace Cb
open PySem PySem.Spec PyProof.Rows L2
/-! ### arguments: true is lent, false is given -/
def AOk (K : PySem.W.Frag) (F H : Hp) : List Bool → List V → List PyData → Prop
  | [], [], [] => True
  | true :: ms, v :: vs, d :: ds => Dq K H v d ∧ AOk K F H ms vs ds
  | false :: ms, v :: vs, d :: ds => Dq K F v d ∧ AOk K F H ms vs ds
  | _, _, _ => False
theorem AOk.mono {K : PySem.W.Frag} {F H F' H' : Hp} (f : Sam F F') (h : Sam H H') : ∀ {ms : List Bool} {vs : List V} {ds : List PyData}, AOk K F H ms vs ds → AOk K F' H' ms vs ds
  | [], [], [], _ => trivial
  | true :: _, _ :: _, _ :: _, ⟨a, b⟩ => ⟨a.mono h, AOk.mono f h b⟩
  | false :: _, _ :: _, _ :: _, ⟨a, b⟩ => ⟨a.mono f, AOk.mono f h b⟩
  | [], [], _ :: _, z => z.elim
  | [], _ :: _, _, z => z.elim
  | true :: _, [], _, z => z.elim
  | false :: _, [], _, z => z.elim
  | true :: _, _ :: _, [], z => z.elim
  | false :: _, _ :: _, [], z => z.elim
theorem AOk.all {K : PySem.W.Frag} {F H : Hp} : ∀ {ms : List Bool} {vs : List V} {ds : List PyData}, AOk K F H ms vs ds → ms.all (fun m => !m) = true → DqAll K F vs ds
  | [], [], [], _, _ => .nil
  | true :: _, _ :: _, _ :: _, _, z => by simp at z
  | false :: _, _ :: _, _ :: _, ⟨a, b⟩, z => .cons a (AOk.all b (by simpa using z))
  | [], [], _ :: _, z, _ => z.elim
  | [], _ :: _, _, z, _ => z.elim
  | true :: _, [], _, z, _ => z.elim
  | false :: _, [], _, z, _ => z.elim
  | true :: _, _ :: _, [], z, _ => z.elim
  | false :: _, _ :: _, [], z, _ => z.elim
theorem AOk.len {K : PySem.W.Frag} {F H : Hp} : ∀ {ms : List Bool} {vs : List V} {ds : List PyData}, AOk K F H ms vs ds → vs.length = ms.length ∧ ds.length = ms.length
  | [], [], [], _ => ⟨rfl, rfl⟩
  | true :: _, _ :: _, _ :: _, ⟨_, b⟩ => ⟨congrArg Nat.succ (AOk.len b).1, congrArg Nat.succ (AOk.len b).2⟩
  | false :: _, _ :: _, _ :: _, ⟨_, b⟩ => ⟨congrArg Nat.succ (AOk.len b).1, congrArg Nat.succ (AOk.len b).2⟩
  | [], [], _ :: _, z => z.elim
  | [], _ :: _, _, z => z.elim
  | true :: _, [], _, z => z.elim
  | false :: _, [], _, z => z.elim
  | true :: _, _ :: _, [], z => z.elim
  | false :: _, _ :: _, [], z => z.elim
def wA (K : PySem.W.Frag) (c : Bk) (ms : List Bool) (F H : Hp) (Q : List V → Hp → Prop) : R (List PyData) → Prop
  | .bad => False
  | .ok ds => ∀ vs F' H', Grow c.T F H F' H' → AOk K F' H' ms vs ds → Q vs H'
  | .err x => wErr c x
def qA (K : PySem.W.Frag) (c : Bk) (ms : List Bool) (f : DS → R (List PyData)) : TA := fun σ H Q => ∃ ds F, Stt K c F H σ ds ∧ wA K c ms F H Q (f ds)
def nilA : DS → R (List PyData) := fun _ => .ok []
def consA (f : ES) (g : DS → R (List PyData)) : DS → R (List PyData) := fun ds => f ds >>= fun d => g ds >>= fun r => .ok (d :: r)
section
variable {X : Cx} {e a b cc : Expr} {c : Bk} {f fa fb fc : ES} {pos : Pos} {es : List Expr} {ms : List Bool} {fr : DS → R (List PyData)}
theorem d_a0 : PA X [] (qA X.K c [] nilA) := pa_imp pa_nil fun σ H Q ⟨ds, F, s, w⟩ => w [] F H (.refl s.fh) trivial
theorem d_aP (h : PE X e (qP X.K c f)) (hr : PA X es (qA X.K c ms fr)) (hs : starEach (e :: es) X.env = (false, eval e X.env) :: starEach es X.env := by rfl) : PA X (e :: es) (qA X.K c (false :: ms) (consA f fr)) := by
  refine pa_imp (pa_cons h hr hs) fun σ H Q hq => ?_
  obtain ⟨ds, F, s, w⟩ := hq
  refine ⟨ds, F, s, ?_⟩
  unfold consA at w
  cases hf : f ds with
  | bad => rw [hf] at w; exact w
  | err x => rw [hf] at w; exact w
  | ok d =>
    rw [hf, R.ok_bind] at w
    intro v F1 H1 g1 q1
    refine ⟨ds, F1, s.grow g1, ?_⟩
    cases hg : fr ds with
    | bad => rw [hg] at w; exact w
    | err x => rw [hg] at w; exact w
    | ok r =>
      rw [hg, R.ok_bind] at w
      intro vs F2 H2 g2 q2
      exact w (v :: vs) F2 H2 (g1.trans g2) ⟨q1.mono g2.ff, q2⟩
theorem d_aT (h : PE X e (qT X.K c f)) (hr : PA X es (qA X.K c ms fr)) (hs : starEach (e :: es) X.env = (false, eval e X.env) :: starEach es X.env := by rfl) : PA X (e :: es) (qA X.K c (true :: ms) (consA f fr)) := by
  refine pa_imp (pa_cons h hr hs) fun σ H Q hq => ?_
  obtain ⟨ds, F, s, w⟩ := hq
  refine ⟨ds, F, s, ?_⟩
  unfold consA at w
  cases hf : f ds with
  | bad => rw [hf] at w; exact w
  | err x => rw [hf] at w; exact w
  | ok d =>
    rw [hf, R.ok_bind] at w
    intro v F1 H1 g1 q1
    refine ⟨ds, F1, s.grow g1, ?_⟩
    cases hg : fr ds with
    | bad => rw [hg] at w; exact w
    | err x => rw [hg] at w; exact w
    | ok r =>
      rw [hg, R.ok_bind] at w
      intro vs F2 H2 g2 q2
      exact w (v :: vs) F2 H2 (g1.trans g2) ⟨q1.mono g2.hh, q2⟩
/-! ### displays -/
def big : Nat := 1000000
theorem big_le {n : Nat} (h : n ≤ big) : n ≤ sizeLine := Nat.le_trans h (by decide)
theorem big_lt {n : Nat} (h : n ≤ big) : n < sizeLine := Nat.lt_of_le_of_lt h (by decide)
def tupS (fr : DS → R (List PyData)) : ES := fun ds => fr ds >>= fun r => if r.length ≤ big then .ok (.tuple r) else .bad
def lstS (fr : DS → R (List PyData)) : ES := fun ds => fr ds >>= fun r => if r.length ≤ big then .ok (.list r) else .bad
theorem d_tup {x1} (h : PA X es (qA X.K c ms fr)) (hm : ms.all (fun m => !m) = true := by rfl) : PE X (.Tuple es x1 pos) (qP X.K c (tupS fr)) := by
  refine pe_imp (pe_tup h) fun σ H Q hq => ?_
  obtain ⟨ds, F, s, w⟩ := hq
  refine ⟨ds, F, s, ?_⟩
  unfold tupS at w
  cases hf : fr ds with
  | bad => rw [hf] at w; exact w
  | err x => rw [hf] at w; exact w
  | ok r =>
    rw [hf, R.ok_bind] at w
    intro vs F1 H1 g1 q1
    by_cases hb : r.length ≤ big
    · rw [if_pos hb] at w
      have hl := q1.len
      refine ⟨by rw [hl.1, ← hl.2]; exact big_le hb, fun p hp => ?_⟩
      exact w (.ref p) (upd F1 p (.tup vs)) (upd H1 p (.tup vs)) (g1.trans (.new g1.fh hp)) (.tup upd_same ((q1.all hm).mono (same_new (g1.fh.free hp))))
    · rw [if_neg hb] at w
      exact w.elim
theorem d_lst (h : PA X es (qA X.K c ms fr)) (hm : ms.all (fun m => !m) = true := by rfl) : PE X (.List es pos) (qN X.K c (lstS fr)) := by
  refine pe_imp (pe_lst h) fun σ H Q hq => ?_
  obtain ⟨ds, F, s, w⟩ := hq
  refine ⟨ds, F, s, ?_⟩
  unfold lstS at w
  cases hf : fr ds with
  | bad => rw [hf] at w; exact w
  | err x => rw [hf] at w; exact w
  | ok r =>
    rw [hf, R.ok_bind] at w
    intro vs F1 H1 g1 q1
    by_cases hb : r.length ≤ big
    · rw [if_pos hb] at w
      have hl := q1.len
      refine ⟨by rw [hl.1, ← hl.2]; exact big_le hb, fun p hp => ?_⟩
      exact w p F1 (upd H1 p (.lst vs)) (g1.trans (.own g1.fh hp)) (g1.hh.free hp) (g1.fh.free hp) ⟨vs, upd_same, q1.all hm⟩
    · rw [if_neg hb] at w
      exact w.elim
/-! ### built-ins of one argument whose answer is plain -/
/-- r answers as g does -/
def CaD (K : PySem.W.Frag) (r : List V → Hp → VK → Prop) (g : PyData → R PyData) : Prop :=
  ∀ x d H, Dq K H x d → (∃ z v, g d = .ok z ∧ (∀ F, Dq K F v z) ∧ ∀ Q : VK, Q v H → r [x] H Q) ∨ g d = .bad
theorem t_ca {K : PySem.W.Frag} {r : List V → Hp → VK → Prop} {g : PyData → R PyData} (hr : CaD K r g) {σ : L2.St} {H : Hp} {Q : VK} (h : qP K c (op1 g f) σ H Q) : tCB r (tCons (qT K c f) tNil) σ H Q := by
  obtain ⟨ds, F, s, w⟩ := h
  refine ⟨ds, F, s, wT_bind w fun d v F1 H1 g1 q1 w1 => ?_⟩
  show r [v] H1 Q
  rcases hr v d H1 q1 with ⟨z, u, e1, s1, k⟩ | e1
  · rw [e1] at w1
    exact k _ (w1 u F1 H1 (.refl g1.fh) (s1 F1))
  · rw [e1] at w1
    exact w1.elim
theorem d_ca {id : String} {x : Str} {p : Pos} {r : List V → Hp → VK → Prop} {g : PyData → R PyData} (hc : CallR X (.builtin id) r) (hr : CaD X.K r g) (ha : PE X a (qT X.K c f)) (hm : X.mg x = none) (hv : bootBuiltins x = some (.builtin id)) (hg : Gl X x := by rfl)
    (hn : x ≠ "__name__" := by decide) (hdb : (x == ("__debug__" : Str)) = false := by decide) (hs : starEach [a] X.env = (false, eval a X.env) :: starEach [] X.env := by rfl) (hpl : (backTo pos (starEach [] X.env)).any (·.1) = false := by rfl) :
    PE X (.Call (.Name x p) [a] [] pos) (qP X.K c (op1 g f)) := pe_imp (pe_callB hc hg hm hv (pa_cons ha pa_nil hs) hn hdb hs hpl) fun _ _ _ h => t_ca hr h
theorem d_caT {id : String} {x : Str} {p : Pos} {r : List V → Hp → VK → Prop} {g : PyData → R PyData} (hc : CallR X (.type id) r) (hr : CaD X.K r g) (ha : PE X a (qT X.K c f)) (hm : X.mg x = none) (hv : bootBuiltins x = some (.type id)) (hg : Gl X x := by rfl)
    (hn : x ≠ "__name__" := by decide) (hdb : (x == ("__debug__" : Str)) = false := by decide) (hs : starEach [a] X.env = (false, eval a X.env) :: starEach [] X.env := by rfl) (hpl : (backTo pos (starEach [] X.env)).any (·.1) = false := by rfl) :
    PE X (.Call (.Name x p) [a] [] pos) (qP X.K c (op1 g f)) := pe_imp (pe_callTy hc hg hm hv (pa_cons ha pa_nil hs) hn hdb hs hpl) fun _ _ _ h => t_ca hr h
/-! len -/
def lenD : PyData → R PyData
  | .list xs => .ok (.int xs.length)
  | .tuple xs => .ok (.int xs.length)
  | .str x => if x.length ≤ big then .ok (.int x.length) else .bad
  | .dict kvs => if usualD (.dict kvs) = true then .ok (.int kvs.length) else .bad
  | _ => .bad
theorem DqKV.length {K : PySem.W.Frag} {H : Hp} : ∀ {vs : List (Key × V)} {ds : List (PyData × PyData)}, DqKV K H vs ds → vs.length = ds.length
  | _, _, .nil => rfl
  | _, _, .cons _ t => congrArg Nat.succ (DqKV.length t)
/-- len of a dict, also of a locked one -/
theorem call_lenR {X : Cx} : CallR X (.builtin "len") (fun xs H Q => ∃ a kvs, xs = [V.ref a] ∧ Rd H a (.dK kvs) ∧ Q (.int kvs.length) H) := by
  intro pins s σ H xs us Q I r h
  obtain ⟨a, kvs, rfl, hr, q⟩ := h
  obtain ⟨u, rfl, ru⟩ := vals1 r
  cases ru
  exact L2.d_len I hr fun t s' I' => ⟨.int kvs.length, H, I', ⟨t, rfl⟩, q⟩
theorem DqKV.usual {K : PySem.W.Frag} {H : Hp} {l : List (Key × V)} {ds : List (PyData × PyData)} (h : DqKV K H l ds) : usualD (.dict ds) = true := by
  cases h with
  | nil => rfl
  | @cons k v l d ds h t => cases k <;> rfl
theorem cd_len {K : PySem.W.Frag} : CaD K (fun xs H Q => (∃ x n, xs = [x] ∧ LenV K x H n ∧ Q (.int n) H) ∨ ∃ a kvs, xs = [V.ref a] ∧ Rd H a (.dK kvs) ∧ Q (.int kvs.length) H) lenD := fun x d H h => by
  cases h with
  | str y =>
    by_cases hb : y.length ≤ big
    · simp only [lenD, if_pos hb]
      exact .inl ⟨_, _, rfl, fun _ => .int _, fun Q q => .inl ⟨_, _, rfl, ⟨big_le hb, rfl⟩, q⟩⟩
    · simp only [lenD, if_neg hb]
      exact .inr trivial
  | lst hs ha => exact .inl ⟨_, _, rfl, fun _ => .int _, fun Q q => .inl ⟨_, _, rfl, .inl ⟨_, hs, rfl⟩, by rw [ha.length]; exact q⟩⟩
  | tup hs ha => exact .inl ⟨_, _, rfl, fun _ => .int _, fun Q q => .inl ⟨_, _, rfl, .inr ⟨_, .of hs, rfl⟩, by rw [ha.length]; exact q⟩⟩
  | dct hs ha => exact .inl ⟨_, _, if_pos ha.usual, fun _ => .int _, fun Q q => .inr ⟨_, _, rfl, hs, by rw [ha.length]; exact q⟩⟩
  | _ => exact .inr rfl
theorem d_len {p : Pos} (ha : PE X a (qT X.K c f)) (hm : X.mg "len" = none) (hg : Gl X "len" := by rfl) (hs : starEach [a] X.env = (false, eval a X.env) :: starEach [] X.env := by rfl) (hpl : (backTo pos (starEach [] X.env)).any (·.1) = false := by rfl) :
    PE X (.Call (.Name "len" p) [a] [] pos) (qP X.K c (op1 lenD f)) := d_ca (call_len.or call_lenR) cd_len ha hm PySem.boot_len hg (by decide) (by decide) hs hpl
/-! sum, all, any of a list -/
def intsO : List PyData → Option (List Int)
  | [] => some []
  | .int i :: r => (intsO r).map (i :: ·)
  | _ => none
def blsO : List PyData → Option (List Bool)
  | [] => some []
  | .bool i :: r => (blsO r).map (i :: ·)
  | _ => none
theorem ints_of {K : PySem.W.Frag} {H : Hp} : ∀ {vs : List V} {ds : List PyData} {ns : List Int}, DqAll K H vs ds → intsO ds = some ns → vs = ns.map V.int
  | _, _, _, .nil, e => by
    cases e
    rfl
  | _, .int i :: r, ns, .cons h t, e => by
    unfold intsO at e
    cases h
    obtain ⟨m, e1, e2⟩ := Option.map_eq_some_iff.mp e
    subst e2
    rw [ints_of t e1]
    rfl
  | _, .none :: _, _, .cons _ _, e => by simp [intsO] at e
  | _, .bool _ :: _, _, .cons _ _, e => by simp [intsO] at e
  | _, .str _ :: _, _, .cons _ _, e => by simp [intsO] at e
  | _, .list _ :: _, _, .cons _ _, e => by simp [intsO] at e
  | _, .tuple _ :: _, _, .cons _ _, e => by simp [intsO] at e
  | _, .dict _ :: _, _, .cons _ _, e => by simp [intsO] at e
theorem bls_of {K : PySem.W.Frag} {H : Hp} : ∀ {vs : List V} {ds : List PyData} {ns : List Bool}, DqAll K H vs ds → blsO ds = some ns → vs = ns.map V.bl
  | _, _, _, .nil, e => by
    cases e
    rfl
  | _, .bool i :: r, ns, .cons h t, e => by
    unfold blsO at e
    cases h
    obtain ⟨m, e1, e2⟩ := Option.map_eq_some_iff.mp e
    subst e2
    rw [bls_of t e1]
    rfl
  | _, .none :: _, _, .cons _ _, e => by simp [blsO] at e
  | _, .int _ :: _, _, .cons _ _, e => by simp [blsO] at e
  | _, .str _ :: _, _, .cons _ _, e => by simp [blsO] at e
  | _, .list _ :: _, _, .cons _ _, e => by simp [blsO] at e
  | _, .tuple _ :: _, _, .cons _ _, e => by simp [blsO] at e
  | _, .dict _ :: _, _, .cons _ _, e => by simp [blsO] at e
def sumD : PyData → R PyData
  | .list xs => match intsO xs with
    | some ns => .ok (.int ns.sum)
    | none => .bad
  | _ => .bad
def allD : PyData → R PyData
  | .list xs => match blsO xs with
    | some ns => .ok (.bool (ns.all id))
    | none => .bad
  | _ => .bad
def anyD : PyData → R PyData
  | .list xs => match blsO xs with
    | some ns => .ok (.bool (ns.any id))
    | none => .bad
  | _ => .bad
theorem cd_sum {K : PySem.W.Frag} : CaD K (rSum K) sumD := fun x d H h => by
  cases h with
  | @lst _ _ ds hs ha =>
    cases e : intsO ds with
    | none =>
      simp only [sumD, e]
      exact .inr trivial
    | some ns =>
      have e1 := ints_of ha e
      subst e1
      simp only [sumD, e]
      exact .inl ⟨_, _, rfl, fun _ => .int _, fun Q q => ⟨_, ns, rfl, hs, q⟩⟩
  | _ => exact .inr rfl
theorem cd_all {K : PySem.W.Frag} : CaD K (rAll K) allD := fun x d H h => by
  cases h with
  | @lst _ _ ds hs ha =>
    cases e : blsO ds with
    | none =>
      simp only [allD, e]
      exact .inr trivial
    | some ns =>
      have e1 := bls_of ha e
      subst e1
      simp only [allD, e]
      exact .inl ⟨_, _, rfl, fun _ => .bl _, fun Q q => ⟨_, ns, rfl, hs, q⟩⟩
  | _ => exact .inr rfl
theorem cd_any {K : PySem.W.Frag} : CaD K (rAny K) anyD := fun x d H h => by
  cases h with
  | @lst _ _ ds hs ha =>
    cases e : blsO ds with
    | none =>
      simp only [anyD, e]
      exact .inr trivial
    | some ns =>
      have e1 := bls_of ha e
      subst e1
      simp only [anyD, e]
      exact .inl ⟨_, _, rfl, fun _ => .bl _, fun Q q => ⟨_, ns, rfl, hs, q⟩⟩
  | _ => exact .inr rfl
theorem d_sum {p : Pos} (hc : X.calm = true) (ha : PE X a (qT X.K c f)) (hm : X.mg "sum" = none) (hg : Gl X "sum" := by rfl) (hs : starEach [a] X.env = (false, eval a X.env) :: starEach [] X.env := by rfl) (hpl : (backTo pos (starEach [] X.env)).any (·.1) = false := by rfl) :
    PE X (.Call (.Name "sum" p) [a] [] pos) (qP X.K c (op1 sumD f)) := d_ca (cr_sum hc) cd_sum ha hm (by decide +kernel) hg (by decide) (by decide) hs hpl
theorem d_all {p : Pos} (hc : X.calm = true) (ha : PE X a (qT X.K c f)) (hm : X.mg "all" = none) (hg : Gl X "all" := by rfl) (hs : starEach [a] X.env = (false, eval a X.env) :: starEach [] X.env := by rfl) (hpl : (backTo pos (starEach [] X.env)).any (·.1) = false := by rfl) :
    PE X (.Call (.Name "all" p) [a] [] pos) (qP X.K c (op1 allD f)) := d_ca (cr_all hc) cd_all ha hm (by decide +kernel) hg (by decide) (by decide) hs hpl
theorem d_any {p : Pos} (hc : X.calm = true) (ha : PE X a (qT X.K c f)) (hm : X.mg "any" = none) (hg : Gl X "any" := by rfl) (hs : starEach [a] X.env = (false, eval a X.env) :: starEach [] X.env := by rfl) (hpl : (backTo pos (starEach [] X.env)).any (·.1) = false := by rfl) :
    PE X (.Call (.Name "any" p) [a] [] pos) (qP X.K c (op1 anyD f)) := d_ca (cr_any hc) cd_any ha hm (by decide +kernel) hg (by decide) (by decide) hs hpl
/-! int(x) of an int -/
def intD : PyData → R PyData
  | .int i => .ok (.int i)
  | _ => .bad
theorem cd_int {K : PySem.W.Frag} : CaD K (fun xs H Q => (∃ i, xs = [.int i] ∧ Q (.int i) H) ∨ ∃ k, xs = [.bl k] ∧ Q (.int (if k then 1 else 0)) H) intD := fun x d H h => by
  cases h with
  | int i => exact .inl ⟨_, _, rfl, fun _ => .int _, fun Q q => .inl ⟨_, rfl, q⟩⟩
  | _ => exact .inr rfl
theorem d_intOf {p : Pos} (ha : PE X a (qT X.K c f)) (hm : X.mg "int" = none) (hg : Gl X "int" := by rfl) (hs : starEach [a] X.env = (false, eval a X.env) :: starEach [] X.env := by rfl) (hpl : (backTo pos (starEach [] X.env)).any (·.1) = false := by rfl) :
    PE X (.Call (.Name "int" p) [a] [] pos) (qP X.K c (op1 intD f)) := d_caT call_int1 cd_int ha hm (by decide +kernel) hg (by decide) (by decide) hs hpl
/-! min, max of two ints -/
def minI := gI fun i j => .ok (.int (if j < i then j else i))
def maxI := gI fun i j => .ok (.int (if j > i then j else i))
theorem t_ca2 {K : PySem.W.Frag} {r : List V → Hp → VK → Prop} {g : PyData → PyData → R PyData} (hr : OpD K (fun x y H Q => r [x, y] H Q) g) {σ : L2.St} {H : Hp} {Q : VK} (h : qP K c (op2 g fa fb) σ H Q) : tCB r (tCons (qT K c fa) (tCons (qT K c fb) tNil)) σ H Q := t_op2 hr h
theorem d_min2 {p : Pos} (hc : X.calm = true) (ha : PE X a (qT X.K c fa)) (hb : PE X b (qT X.K c fb)) (hm : X.mg "min" = none) (hg : Gl X "min" := by rfl) (hs : starEach [a, b] X.env = (false, eval a X.env) :: starEach [b] X.env := by rfl) (hs2 : starEach [b] X.env = (false, eval b X.env) :: starEach [] X.env := by rfl) (hpl : (backTo pos (starEach [b] X.env)).any (·.1) = false := by rfl) :
    PE X (.Call (.Name "min" p) [a, b] [] pos) (qP X.K c (op2 minI fa fb)) :=
  pe_imp (pe_callB (call_min2 hc) hg hm (by decide +kernel) (pa_cons ha (pa_cons hb pa_nil hs2) hs) (by decide) (by decide) hs hpl) fun _ _ _ h => t_ca2 (fun x y d e H h1 h2 => by
    cases h1 with
    | int i =>
      cases h2 with
      | int j => exact .inl ⟨_, _, rfl, fun _ => .int _, fun Q q => ⟨i, j, rfl, q⟩⟩
      | _ => exact .inr rfl
    | _ => exact .inr rfl) h
theorem d_max2 {p : Pos} (hc : X.calm = true) (ha : PE X a (qT X.K c fa)) (hb : PE X b (qT X.K c fb)) (hm : X.mg "max" = none) (hg : Gl X "max" := by rfl) (hs : starEach [a, b] X.env = (false, eval a X.env) :: starEach [b] X.env := by rfl) (hs2 : starEach [b] X.env = (false, eval b X.env) :: starEach [] X.env := by rfl) (hpl : (backTo pos (starEach [b] X.env)).any (·.1) = false := by rfl) :
    PE X (.Call (.Name "max" p) [a, b] [] pos) (qP X.K c (op2 maxI fa fb)) :=
  pe_imp (pe_callB (call_max2 hc) hg hm (by decide +kernel) (pa_cons ha (pa_cons hb pa_nil hs2) hs) (by decide) (by decide) hs hpl) fun _ _ _ h => t_ca2 (fun x y d e H h1 h2 => by
    cases h1 with
    | int i =>
      cases h2 with
      | int j => exact .inl ⟨_, _, rfl, fun _ => .int _, fun Q q => ⟨i, j, rfl, q⟩⟩
      | _ => exact .inr rfl
    | _ => exact .inr rfl) h
/-! ### subscripts of lists, tuples, texts -/
def atR {α : Type} (xs : List α) (i : Int) (k : α → PyData) : R PyData := match atI xs i with
  | some d => .ok (k d)
  | none => .bad
def ixD : PyData → PyData → R PyData
  | .list xs, .int i => atR xs i id
  | .tuple xs, .int i => atR xs i id
  | .str x, .int i => if x.length ≤ big then atR x.cps.toList i fun c => .str ⟨#[c]⟩ else .bad
  | _, _ => .bad
theorem DqAll.atI {K : PySem.W.Frag} {H : Hp} {vs : List V} {ds : List PyData} (h : DqAll K H vs ds) {i : Int} {d : PyData} (e : atI ds i = some d) : ∃ v, L2.atI vs i = some v ∧ Dq K H v d := by
  unfold L2.atI at e ⊢
  rw [h.length]
  cases q : ixN ds.length i with
  | none => rw [q] at e; cases e
  | some j =>
    rw [q] at e
    obtain ⟨v, h1, h2⟩ := h.get (show ds[j]? = some d from e)
    exact ⟨v, h1, h2⟩
/-- the answer's place: in F if the container's is -/
theorem ix_run {K : PySem.W.Frag} {F H : Hp} {x y : V} {d e z : PyData} (f : Sam F H) (h1 : Dq K F x d) (h2 : Dq K H y e) (hz : ixD d e = .ok z) : ∃ v, Dq K F v z ∧ ∀ Q : VK, Q v H → rIx K x y H Q := by
  cases h2 with
  | int i =>
    cases h1 with
    | @lst _ _ ds hs ha =>
      unfold ixD atR at hz
      cases q : L2.atI ds i with
      | none => simp only [q] at hz; cases hz
      | some w =>
        simp only [q] at hz
        cases hz
        obtain ⟨v, e1, e2⟩ := ha.atI q
        exact ⟨v, e2, fun Q k => .inl ⟨_, _, i, v, rfl, rfl, f.seq hs, e1, k⟩⟩
    | @tup _ _ ds hs ha =>
      unfold ixD atR at hz
      cases q : L2.atI ds i with
      | none => simp only [q] at hz; cases hz
      | some w =>
        simp only [q] at hz
        cases hz
        obtain ⟨v, e1, e2⟩ := ha.atI q
        exact ⟨v, e2, fun Q k => .inr (.inl ⟨_, _, i, v, rfl, rfl, sqT_mono f hs, e1, k⟩)⟩
    | str t =>
      by_cases hb : t.length ≤ big
      · cases q : L2.atI t.cps.toList i with
        | none => simp only [ixD, atR, if_pos hb, q] at hz; cases hz
        | some w =>
          simp only [ixD, atR, if_pos hb, q] at hz
          cases hz
          exact ⟨_, .str _, fun Q k => .inr (.inr ⟨t, i, w, rfl, rfl, big_le hb, q, k⟩)⟩
      · simp only [ixD, if_neg hb] at hz
        cases hz
    | _ => cases hz
  | _ => cases d <;> cases hz
theorem ixD_noerr (d e : PyData) (x : Xc) : ixD d e ≠ .err x := by
  intro h
  unfold ixD atR at h
  split at h
  · split at h <;> cases h
  · split at h <;> cases h
  · split at h
    · split at h <;> cases h
    · cases h
  · cases h
theorem d_ixP (ha : PE X a (qP X.K c fa)) (hb : PE X b (qT X.K c fb)) (hs : PlainIx b := by exact fun _ _ => rfl) : PE X (.Subscript a b pos) (qP X.K c (op2 ixD fa fb)) := by
  refine pe_imp (pe_ix ix_seq ha hb hs) fun σ H Q h => ?_
  obtain ⟨ds, F, s, w⟩ := h
  refine ⟨ds, F, s, wP_bind w fun d v F1 H1 g1 q1 w1 => ⟨ds, F1, s.grow g1, wT_bind w1 fun d2 v2 F2 H2 g2 q2 w2 => ?_⟩⟩
  cases hz : ixD d d2 with
  | bad => rw [hz] at w2; exact w2.elim
  | err x => exact absurd hz (ixD_noerr _ _ _)
  | ok z =>
    rw [hz] at w2
    obtain ⟨u, h1, h2⟩ := ix_run g2.fh (q1.mono g2.ff) q2 hz
    exact h2 _ (w2 u F2 H2 (.refl g2.fh) h1)
theorem wT_bindT {K : PySem.W.Frag} {F H : Hp} {Q Q' : VK} {r : R PyData} {k : PyData → R PyData} (w : wT K c F H Q (r >>= k)) (h : ∀ d v F1 H1, Grow c.T F H F1 H1 → Dq K H1 v d → wT K c F1 H1 Q (k d) → Q' v H1) : wT K c F H Q' r := by
  cases r with
  | bad => exact w
  | err x => exact w
  | ok d => exact fun v F1 H1 g1 q1 => h d v F1 H1 g1 q1 (wT_grow g1 w)
theorem d_ixT (ha : PE X a (qT X.K c fa)) (hb : PE X b (qT X.K c fb)) (hs : PlainIx b := by exact fun _ _ => rfl) : PE X (.Subscript a b pos) (qT X.K c (op2 ixD fa fb)) := by
  refine pe_imp (pe_ix ix_seq ha hb hs) fun σ H Q h => ?_
  obtain ⟨ds, F, s, w⟩ := h
  refine ⟨ds, F, s, wT_bindT w fun d v F1 H1 g1 q1 w1 => ⟨ds, F1, s.grow g1, wT_bindT w1 fun d2 v2 F2 H2 g2 q2 w2 => ?_⟩⟩
  cases hz : ixD d d2 with
  | bad => rw [hz] at w2; exact w2.elim
  | err x => exact absurd hz (ixD_noerr _ _ _)
  | ok z =>
    rw [hz] at w2
    obtain ⟨u, h1, h2⟩ := ix_run (.refl H2) (q1.mono g2.hh) q2 hz
    exact h2 _ (w2 u F2 H2 (.refl g2.fh) h1)
/-- plain things last -/
def plainD : PyData → Bool
  | .none => true
  | .bool _ => true
  | .int _ => true
  | .str _ => true
  | _ => false
def plS (f : ES) : ES := fun ds => f ds >>= fun d => if plainD d = true then .ok d else .bad
theorem d_tp (h : PE X e (qT X.K c f)) : PE X e (qP X.K c (plS f)) := pe_imp h fun σ H Q ⟨ds, F, s, w⟩ => ⟨ds, F, s, wT_bind w fun d v F1 H1 g1 q1 w1 => by
  by_cases hp : plainD d = true
  · rw [if_pos hp] at w1
    refine w1 v F1 H1 (.refl g1.fh) ?_
    cases q1 with
    | non => exact .non
    | bl b => exact .bl b
    | int i => exact .int i
    | str x => exact .str x
    | _ => cases hp
  · rw [if_neg hp] at w1
    exact w1.elim⟩
end
end Cb
namespace Cb
open PySem PySem.Spec PyProof.Rows L2
/-! ### dicts with int and text keys -/
def keyOf : PyData → Option Key
  | .int i => some (.inl i)
  | .str x => some (.inr x)
  | _ => none
theorem keyOf_kD (k : Key) : keyOf (kD k) = some k := by cases k <;> rfl
abbrev KVs := List (PyData × PyData)
def dlook (kvs : KVs) (k : Key) : Option PyData := (kvs.find? fun kv => decide (keyOf kv.1 = some k)).map (·.2)
def dput (kvs : KVs) (k : Key) (d : PyData) : KVs :=
  if (kvs.any fun kv => decide (keyOf kv.1 = some k)) = true then kvs.map (fun kv => if keyOf kv.1 = some k then (kv.1, d) else kv) else kvs ++ [(kD k, d)]
theorem DqKV.look {K : PySem.W.Frag} {H : Hp} (k : Key) : ∀ {l : List (Key × V)} {kvs : KVs}, DqKV K H l kvs → (valV l k = none ∧ dlook kvs k = none) ∨ ∃ v d, valV l k = some v ∧ dlook kvs k = some d ∧ Dq K H v d
  | _, _, .nil => .inl ⟨rfl, rfl⟩
  | (k', v') :: l, (_, d') :: kvs, .cons h t => by
    by_cases e : k' = k
    · subst e
      exact .inr ⟨v', d', valV_pos rfl, by simp [dlook, keyOf_kD], h⟩
    · have e1 : dlook ((kD k', d') :: kvs) k = dlook kvs k := by simp [dlook, List.find?_cons, keyOf_kD, e]
      rw [valV_neg e, e1]
      exact DqKV.look k t
theorem DqKV.any {K : PySem.W.Frag} {H : Hp} (k : Key) : ∀ {l : List (Key × V)} {kvs : KVs}, DqKV K H l kvs → (l.any fun kv => decide (kv.1 = k)) = kvs.any fun kv => decide (keyOf kv.1 = some k)
  | _, _, .nil => rfl
  | (k', v') :: l, (_, d') :: kvs, .cons h t => by
    rw [List.any_cons, List.any_cons, DqKV.any k t]
    show (decide (k' = k) || _) = (decide (keyOf (kD k') = some k) || _)
    rw [keyOf_kD]
    simp
theorem DqKV.map {K : PySem.W.Frag} {H : Hp} (k : Key) {v : V} {d : PyData} (q : Dq K H v d) : ∀ {l : List (Key × V)} {kvs : KVs}, DqKV K H l kvs → DqKV K H (l.map fun kv => if kv.1 = k then (kv.1, v) else kv) (kvs.map fun kv => if keyOf kv.1 = some k then (kv.1, d) else kv)
  | _, _, .nil => .nil
  | (k', v') :: l, (_, d') :: kvs, .cons h t => by
    rw [List.map_cons, List.map_cons]
    show DqKV K H ((if k' = k then (k', v) else (k', v')) :: _) ((if keyOf (kD k') = some k then (kD k', d) else (kD k', d')) :: _)
    rw [keyOf_kD]
    by_cases e : k' = k
    · rw [if_pos e, if_pos (by rw [e])]
      exact .cons q (DqKV.map k q t)
    · rw [if_neg e, if_neg (by intro z; exact e (Option.some.inj z))]
      exact .cons h (DqKV.map k q t)
theorem DqKV.snoc {K : PySem.W.Frag} {H : Hp} {k : Key} {v : V} {d : PyData} (q : Dq K H v d) : ∀ {l : List (Key × V)} {kvs : KVs}, DqKV K H l kvs → DqKV K H (l ++ [(k, v)]) (kvs ++ [(kD k, d)])
  | _, _, .nil => .cons q .nil
  | _, _, .cons h t => .cons h (DqKV.snoc q t)
theorem DqKV.put {K : PySem.W.Frag} {H : Hp} {k : Key} {v : V} {d : PyData} {l : List (Key × V)} {kvs : KVs} (h : DqKV K H l kvs) (q : Dq K H v d) : DqKV K H (putK l k v) (dput kvs k d) := by
  unfold putK dput
  rw [h.any k]
  by_cases e : (kvs.any fun kv => decide (keyOf kv.1 = some k)) = true
  · rw [if_pos e, if_pos e]
    exact h.map k q
  · rw [if_neg e, if_neg e]
    exact h.snoc q
theorem kV_of {K : PySem.W.Frag} {H : Hp} {v : V} {d : PyData} {k : Key} (h : Dq K H v d) (e : keyOf d = some k) : v = kV k := by
  cases h with
  | int i => cases e; rfl
  | str x => cases e; rfl
  | _ => cases e
/-! tuples as keys -/
def keysO : List PyData → Option (List Key)
  | [] => some []
  | d :: r => match keyOf d, keysO r with
    | some k, some ks => some (k :: ks)
    | _, _ => none
def keyT : PyData → Option (List Key)
  | .tuple xs => keysO xs
  | _ => none
theorem keysO_kD : ∀ ks : List Key, keysO (ks.map kD) = some ks
  | [] => rfl
  | k :: r => by rw [List.map_cons, keysO, keyOf_kD, keysO_kD r]
theorem keyT_kD (ks : List Key) : keyT (.tuple (ks.map kD)) = some ks := keysO_kD ks
def dlookT (kvs : KVs) (k : List Key) : Option PyData := (kvs.find? fun kv => decide (keyT kv.1 = some k)).map (·.2)
def dputT (kvs : KVs) (k : List Key) (d : PyData) : KVs :=
  if (kvs.any fun kv => decide (keyT kv.1 = some k)) = true then kvs.map (fun kv => if keyT kv.1 = some k then (kv.1, d) else kv) else kvs ++ [(.tuple (k.map kD), d)]
theorem DqKT.look {K : PySem.W.Frag} {H : Hp} (k : List Key) : ∀ {l : List (List Key × V)} {kvs : KVs}, DqKT K H l kvs → (valV l k = none ∧ dlookT kvs k = none) ∨ ∃ v d, valV l k = some v ∧ dlookT kvs k = some d ∧ Dq K H v d
  | _, _, .nil => .inl ⟨rfl, rfl⟩
  | (k', v') :: l, (_, d') :: kvs, .cons h t => by
    by_cases e : k' = k
    · subst e
      exact .inr ⟨v', d', valV_pos rfl, by simp [dlookT, keyT_kD], h⟩
    · have e1 : dlookT ((.tuple (k'.map kD), d') :: kvs) k = dlookT kvs k := by simp [dlookT, List.find?_cons, keyT_kD, e]
      rw [valV_neg e, e1]
      exact DqKT.look k t
theorem DqKT.any {K : PySem.W.Frag} {H : Hp} (k : List Key) : ∀ {l : List (List Key × V)} {kvs : KVs}, DqKT K H l kvs → (l.any fun kv => decide (kv.1 = k)) = kvs.any fun kv => decide (keyT kv.1 = some k)
  | _, _, .nil => rfl
  | (k', v') :: l, (_, d') :: kvs, .cons h t => by
    rw [List.any_cons, List.any_cons, DqKT.any k t]
    show (decide (k' = k) || _) = (decide (keyT (.tuple (k'.map kD)) = some k) || _)
    rw [keyT_kD]
    simp
theorem DqKT.map {K : PySem.W.Frag} {H : Hp} (k : List Key) {v : V} {d : PyData} (q : Dq K H v d) : ∀ {l : List (List Key × V)} {kvs : KVs}, DqKT K H l kvs → DqKT K H (l.map fun kv => if kv.1 = k then (kv.1, v) else kv) (kvs.map fun kv => if keyT kv.1 = some k then (kv.1, d) else kv)
  | _, _, .nil => .nil
  | (k', v') :: l, (_, d') :: kvs, .cons h t => by
    rw [List.map_cons, List.map_cons]
    show DqKT K H ((if k' = k then (k', v) else (k', v')) :: _) ((if keyT (.tuple (k'.map kD)) = some k then (.tuple (k'.map kD), d) else (.tuple (k'.map kD), d')) :: _)
    rw [keyT_kD]
    by_cases e : k' = k
    · rw [if_pos e, if_pos (by rw [e])]
      exact .cons q (DqKT.map k q t)
    · rw [if_neg e, if_neg (by intro z; exact e (Option.some.inj z))]
      exact .cons h (DqKT.map k q t)
theorem DqKT.snoc {K : PySem.W.Frag} {H : Hp} {k : List Key} {v : V} {d : PyData} (q : Dq K H v d) : ∀ {l : List (List Key × V)} {kvs : KVs}, DqKT K H l kvs → DqKT K H (l ++ [(k, v)]) (kvs ++ [(.tuple (k.map kD), d)])
  | _, _, .nil => .cons q .nil
  | _, _, .cons h t => .cons h (DqKT.snoc q t)
theorem DqKT.put {K : PySem.W.Frag} {H : Hp} {k : List Key} {v : V} {d : PyData} {l : List (List Key × V)} {kvs : KVs} (h : DqKT K H l kvs) (q : Dq K H v d) : DqKT K H (putK l k v) (dputT kvs k d) := by
  unfold putK dputT
  rw [h.any k]
  by_cases e : (kvs.any fun kv => decide (keyT kv.1 = some k)) = true
  · rw [if_pos e, if_pos e]
    exact h.map k q
  · rw [if_neg e, if_neg e]
    exact h.snoc q
theorem keys_of {K : PySem.W.Frag} {H : Hp} : ∀ {vs : List V} {ds : List PyData} {ks : List Key}, DqAll K H vs ds → keysO ds = some ks → vs = ks.map kV
  | _, _, _, .nil, e => by
    cases e
    rfl
  | _, d :: ds, ks, .cons h t, e => by
    unfold keysO at e
    cases hk : keyOf d with
    | none => simp only [hk] at e; cases e
    | some k =>
      cases hr : keysO ds with
      | none => simp only [hk, hr] at e; cases e
      | some r =>
        simp only [hk, hr] at e
        cases e
        rw [kV_of h hk, keys_of t hr]
        rfl
theorem kT_of {K : PySem.W.Frag} {H : Hp} {v : V} {d : PyData} {k : List Key} (h : Dq K H v d) (e : keyT d = some k) : ∃ b, v = .ref b ∧ H b = some (.tup (k.map kV)) := by
  cases h with
  | tup hs ha =>
    rw [keys_of ha e] at hs
    exact ⟨_, rfl, hs⟩
  | _ => cases e
theorem key_nT {d : PyData} {k : Key} (h : keyOf d = some k) : keyT d = none := by cases d <;> first | rfl | cases h
/-- what a dict has by a key: none: no such dict, or no key -/
def dfind (kvs : KVs) (y : PyData) : Option (Option PyData) := match keyOf y with
  | some k => if usualD (.dict kvs) = true then some (dlook kvs k) else none
  | none => match keyT y with
    | some k => (match kvs with
      | (.none, .none) :: r => some (dlookT r k)
      | _ => none)
    | none => none
theorem find_run {K : PySem.W.Frag} {H : Hp} {x y : V} {kvs : KVs} {e : PyData} {o : Option PyData} (h1 : Dq K H x (.dict kvs)) (h2 : Dq K H y e) (hz : dfind kvs e = some o) : ∃ a u, x = .ref a ∧ DGet H a y u ∧ ((u = none ∧ o = none) ∨ ∃ v d, u = some v ∧ o = some d ∧ Dq K H v d) := by
  unfold dfind at hz
  cases hk : keyOf e with
  | some k =>
    simp only [hk] at hz
    cases h1 with
    | @dct a l kvs hs ha =>
      rw [if_pos ha.usual] at hz
      cases hz
      have ey := kV_of h2 hk
      subst ey
      refine ⟨a, valV l k, rfl, .inl ⟨_, k, hs, rfl, rfl⟩, ?_⟩
      rcases ha.look k with ⟨e1, e2⟩ | ⟨v, w, e1, e2, e3⟩
      · exact .inl ⟨e1, e2⟩
      · exact .inr ⟨v, w, e1, e2, e3⟩
    | dcT hs ha => simp [usualD] at hz
    | obj hs ha => simp [usualD] at hz
  | none =>
    cases hk2 : keyT e with
    | none => simp only [hk, hk2] at hz; cases hz
    | some k =>
      simp only [hk, hk2] at hz
      cases h1 with
      | @dct a l kvs hs ha =>
        exfalso
        have hu := ha.usual
        split at hz
        · cases hu
        · cases hz
      | @dcT a l kvs hs ha =>
        simp only at hz
        cases hz
        obtain ⟨b, e1, e2⟩ := kT_of h2 hk2
        refine ⟨a, valV l k, rfl, .inr ⟨l, k, b, hs, e1, e2, rfl⟩, ?_⟩
        rcases ha.look k with ⟨e1, e2⟩ | ⟨v, w, e1, e2, e3⟩
        · exact .inl ⟨e1, e2⟩
        · exact .inr ⟨v, w, e1, e2, e3⟩
      | obj hs ha => simp only at hz; cases hz
section
variable {X : Cx} {e a b cc : Expr} {c : Bk} {f fa fb fc : ES} {pos : Pos}
def dgetD : PyData → PyData → R PyData
  | .dict kvs, y => match dfind kvs y with
    | some (some d) => .ok d
    | _ => .bad
  | _, _ => .bad
theorem dget_run {K : PySem.W.Frag} {F H : Hp} {x y : V} {d e z : PyData} (f : Sam F H) (h1 : Dq K F x d) (h2 : Dq K H y e) (hz : dgetD d e = .ok z) : ∃ a v, x = .ref a ∧ DGet H a y (some v) ∧ Dq K F v z := by
  cases d with
  | dict kvs =>
    unfold dgetD at hz
    unfold dfind at hz
    cases hk : keyOf e with
    | some k =>
      simp only [hk] at hz
      cases h1 with
      | @dct a l kvs hs ha =>
        simp only [if_pos ha.usual] at hz
        have ey := kV_of h2 hk
        subst ey
        rcases ha.look k with ⟨e1, e2⟩ | ⟨v, w, e1, e2, e3⟩
        · rw [e2] at hz; cases hz
        · rw [e2] at hz
          cases hz
          exact ⟨a, v, rfl, .inl ⟨_, k, f.rd hs, rfl, e1.symm⟩, e3⟩
      | dcT hs ha => simp [usualD] at hz
      | obj hs ha => simp [usualD] at hz
    | none =>
      cases hk2 : keyT e with
      | none => simp only [hk, hk2] at hz; cases hz
      | some k =>
        simp only [hk, hk2] at hz
        cases h1 with
        | @dct a l kvs hs ha =>
          exfalso
          have hu := ha.usual
          split at hz
          · rename_i q
            split at q
            · cases hu
            · cases q
          · cases hz
        | @dcT a l kvs hs ha =>
          simp only at hz
          obtain ⟨b, e1, e2⟩ := kT_of h2 hk2
          rcases ha.look k with ⟨e3, e4⟩ | ⟨v, w, e3, e4, e5⟩
          · rw [e4] at hz; cases hz
          · rw [e4] at hz
            cases hz
            exact ⟨a, v, rfl, .inr ⟨l, k, b, f.rd hs, e1, e2, e3.symm⟩, e5⟩
        | obj hs ha => simp only at hz; cases hz
  | _ => cases hz
theorem dgetD_noerr (d e : PyData) (x : Xc) : dgetD d e ≠ .err x := by
  intro h
  unfold dgetD at h
  split at h
  · split at h <;> cases h
  · cases h
theorem d_dgP (hu : X.A.units + 1 < cLine) (ha : PE X a (qP X.K c fa)) (hb : PE X b (qT X.K c fb)) (hs : NoSl b := by exact fun _ _ => rfl) : PE X (.Subscript a b pos) (qP X.K c (op2 dgetD fa fb)) := by
  refine pe_imp (pe_dget hu ha hb hs) fun σ H Q h => ?_
  obtain ⟨ds, F, s, w⟩ := h
  refine ⟨ds, F, s, wP_bind w fun d v F1 H1 g1 q1 w1 => ⟨ds, F1, s.grow g1, wT_bind w1 fun d2 v2 F2 H2 g2 q2 w2 => ?_⟩⟩
  cases hz : dgetD d d2 with
  | bad => rw [hz] at w2; exact w2.elim
  | err x => exact absurd hz (dgetD_noerr _ _ _)
  | ok z =>
    rw [hz] at w2
    obtain ⟨p, u, h1, h2, h3⟩ := dget_run g2.fh (q1.mono g2.ff) q2 hz
    exact ⟨p, u, h1, h2, w2 u F2 H2 (.refl g2.fh) h3⟩
theorem d_dgT (hu : X.A.units + 1 < cLine) (ha : PE X a (qT X.K c fa)) (hb : PE X b (qT X.K c fb)) (hs : NoSl b := by exact fun _ _ => rfl) : PE X (.Subscript a b pos) (qT X.K c (op2 dgetD fa fb)) := by
  refine pe_imp (pe_dget hu ha hb hs) fun σ H Q h => ?_
  obtain ⟨ds, F, s, w⟩ := h
  refine ⟨ds, F, s, wT_bindT w fun d v F1 H1 g1 q1 w1 => ⟨ds, F1, s.grow g1, wT_bindT w1 fun d2 v2 F2 H2 g2 q2 w2 => ?_⟩⟩
  cases hz : dgetD d d2 with
  | bad => rw [hz] at w2; exact w2.elim
  | err x => exact absurd hz (dgetD_noerr _ _ _)
  | ok z =>
    rw [hz] at w2
    obtain ⟨p, u, h1, h2, h3⟩ := dget_run (.refl H2) (q1.mono g2.hh) q2 hz
    exact ⟨p, u, h1, h2, w2 u F2 H2 (.refl g2.fh) h3⟩
/-- an object -/
def objD : PyData → Bool
  | .dict ((.none, .str _) :: _) => true
  | _ => false
theorem isD_of {K : PySem.W.Frag} {H : Hp} {v : V} {kvs : KVs} (h : Dq K H v (.dict kvs)) (n : objD (.dict kvs) = false) : ∃ a, v = .ref a ∧ IsD H a := by
  cases h with
  | dct hs _ => exact ⟨_, rfl, .inl ⟨_, hs⟩⟩
  | dcT hs _ => exact ⟨_, rfl, .inr ⟨_, hs⟩⟩
  | obj hs _ => cases n
/-- d.get(k, x) -/
def dgxS (fa fb fc : ES) : ES := fun ds => fa ds >>= fun x => match x with
  | .dict kvs => if objD (.dict kvs) = false then fb ds >>= fun y => fc ds >>= fun z => (match dfind kvs y with
    | some o => .ok (o.getD z)
    | none => .bad) else .bad
  | _ => .bad
theorem d_dgx {apos : Pos} (hu : X.A.units + 1 < cLine) (ha : PE X a (qT X.K c fa)) (hb : PE X b (qT X.K c fb)) (hc : PE X cc (qT X.K c fc)) (m : M2 X a "get" apos b cc pos := by exact ⟨rfl, rfl, rfl, rfl⟩) : PE X (.Call (.Attribute a "get" apos) [b, cc] [] pos) (qT X.K c (dgxS fa fb fc)) := by
  refine pe_imp (pe_dget2 hu ha hb hc m) fun σ H Q h => ?_
  obtain ⟨ds, F, s, w⟩ := h
  refine ⟨ds, F, s, wT_bindT w fun d v F1 H1 g1 q1 w1 => ?_⟩
  cases d with
  | dict kvs =>
    by_cases ho : objD (.dict kvs) = false
    · simp only [if_pos ho] at w1
      obtain ⟨p, rfl, hp⟩ := isD_of q1 ho
      refine ⟨p, rfl, hp, ds, F1, s.grow g1, wT_bindT w1 fun d2 v2 F2 H2 g2 q2 w2 => ⟨ds, F2, (s.grow g1).grow g2, wT_bindT w2 fun d3 v3 F3 H3 g3 q3 w3 => ?_⟩⟩
      cases hk : dfind kvs d2 with
      | none => simp only [hk] at w3; exact w3.elim
      | some o =>
        simp only [hk] at w3
        obtain ⟨a', u, e1, e2, e3⟩ := find_run ((q1.mono g2.hh).mono g3.hh) (q2.mono g3.hh) hk
        cases e1
        refine ⟨u, e2, ?_⟩
        rcases e3 with ⟨rfl, rfl⟩ | ⟨x, y, rfl, rfl, e4⟩
        · exact w3 v3 F3 H3 (.refl g3.fh) q3
        · exact w3 x F3 H3 (.refl g3.fh) e4
    · simp only [if_neg ho] at w1
      exact w1.elim
  | _ => exact w1.elim
/-- k in d -/
def dinD (y x : PyData) : R PyData := match x with
  | .dict kvs => match dfind kvs y with
    | some o => .ok (.bool o.isSome)
    | none => .bad
  | _ => .bad
def dninD (y x : PyData) : R PyData := match x with
  | .dict kvs => match dfind kvs y with
    | some o => .ok (.bool (!o.isSome))
    | none => .bad
  | _ => .bad
theorem din_run {K : PySem.W.Frag} {H : Hp} {x y : V} {kvs : KVs} {e : PyData} {o : Option PyData} (h1 : Dq K H x (.dict kvs)) (h2 : Dq K H y e) (hz : dfind kvs e = some o) : ∃ a u, x = .ref a ∧ DGet H a y u ∧ u.isSome = o.isSome := by
  obtain ⟨a, u, e1, e2, e3⟩ := find_run h1 h2 hz
  refine ⟨a, u, e1, e2, ?_⟩
  rcases e3 with ⟨rfl, rfl⟩ | ⟨x, y, rfl, rfl, _⟩ <;> rfl
theorem t_din {K : PySem.W.Frag} {σ : L2.St} {H : Hp} {Q : VK} (h : qP K c (op2 dinD fa fb) σ H Q) : tDIn (qT K c fa) (qT K c fb) σ H Q := by
  obtain ⟨ds, F, s, w⟩ := h
  refine ⟨ds, F, s, wT_bind w fun d v F1 H1 g1 q1 w1 => ⟨ds, F1, s.grow g1, wT_bind w1 fun d2 v2 F2 H2 g2 q2 w2 => ?_⟩⟩
  cases d2 with
  | dict kvs =>
    cases hk : dfind kvs d with
    | none => simp only [dinD, hk] at w2; exact w2.elim
    | some o =>
      simp only [dinD, hk] at w2
      obtain ⟨p, u, e1, e2, e3⟩ := din_run q2 (q1.mono g2.hh) hk
      refine ⟨p, u, e1, e2, ?_⟩
      rw [e3]
      exact w2 _ F2 H2 (.refl g2.fh) (.bl _)
  | _ => exact w2.elim
theorem t_dnin {K : PySem.W.Frag} {σ : L2.St} {H : Hp} {Q : VK} (h : qP K c (op2 dninD fa fb) σ H Q) : tDNotIn (qT K c fa) (qT K c fb) σ H Q := by
  obtain ⟨ds, F, s, w⟩ := h
  refine ⟨ds, F, s, wT_bind w fun d v F1 H1 g1 q1 w1 => ⟨ds, F1, s.grow g1, wT_bind w1 fun d2 v2 F2 H2 g2 q2 w2 => ?_⟩⟩
  cases d2 with
  | dict kvs =>
    cases hk : dfind kvs d with
    | none => simp only [dninD, hk] at w2; exact w2.elim
    | some o =>
      simp only [dninD, hk] at w2
      obtain ⟨p, u, e1, e2, e3⟩ := din_run q2 (q1.mono g2.hh) hk
      refine ⟨p, u, e1, e2, ?_⟩
      rw [e3]
      exact w2 _ F2 H2 (.refl g2.fh) (.bl _)
  | _ => exact w2.elim
theorem d_din (hu : X.A.units + 1 < cLine) (ha : PE X a (qT X.K c fa)) (hb : PE X b (qT X.K c fb)) (hm : behindInMarks .In b = false := by rfl) : PE X (.Compare a [.In] [b] pos) (qP X.K c (op2 dinD fa fb)) := pe_imp (pe_cmp (pc_din hu ha hb) hm) fun _ _ _ h => t_din h
theorem d_dinB (hu : X.A.units + 1 < cLine) (ha : PE X a (qT X.K c fa)) (hb : PE X b (qT X.K c fb)) (hm : behindInMarks .In b = false := by rfl) : PT X (.Compare a [.In] [b] pos) (qB X.K c (bS (op2 dinD fa fb))) := pt_imp (pt_cmp (pc_din hu ha hb) hm) fun _ _ _ h => t_bP (fun _ _ _ q => t_din q) h
theorem d_dninB (hu : X.A.units + 1 < cLine) (ha : PE X a (qT X.K c fa)) (hb : PE X b (qT X.K c fb)) (hm : behindInMarks .NotIn b = false := by rfl) : PT X (.Compare a [.NotIn] [b] pos) (qB X.K c (bS (op2 dninD fa fb))) := pt_imp (pt_cmp (pc_dnotin hu ha hb) hm) fun _ _ _ h => t_bP (fun _ _ _ q => t_dnin q) h
/-- dict(pairs) -/
def pairsO : List PyData → Option (List (Key × PyData))
  | [] => some []
  | .tuple [k, d] :: r => match keyOf k, pairsO r with
    | some k, some ps => some ((k, d) :: ps)
    | _, _ => none
  | _ => none
def dmerge (kvs : KVs) (ps : List (Key × PyData)) : KVs := ps.foldl (fun acc p => dput acc p.1 p.2) kvs
def dictD : PyData → R PyData
  | .list xs => match pairsO xs with
    | some ps => .ok (.dict (dmerge [] ps))
    | none => .bad
  | _ => .bad
theorem pairs_run {K : PySem.W.Frag} {F H : Hp} (f : Sam F H) : ∀ {vs : List V} {xs : List PyData} {ps : List (Key × PyData)}, DqAll K F vs xs → pairsO xs = some ps → ∃ (as : List Addr) (kvs : List (Key × V)), vs = as.map V.ref ∧ Paired (fun p kv => SqT K H p [kV kv.1, kv.2]) as kvs ∧ Paired (fun (kv : Key × V) (p : Key × PyData) => kv.1 = p.1 ∧ Dq K F kv.2 p.2) kvs ps
  | _, _, _, .nil, e => by
    cases e
    exact ⟨[], [], rfl, .nil, .nil⟩
  | v :: vs, x :: xs, ps, .cons h t, e => by
    unfold pairsO at e
    split at e
    · rename_i z
      cases z
    · rename_i k d r heq
      cases heq
      cases hk : keyOf k with
      | none => simp only [hk] at e; cases e
      | some kk =>
        cases hp : pairsO xs with
        | none => simp only [hk, hp] at e; cases e
        | some ps' =>
          simp only [hk, hp] at e
          cases e
          obtain ⟨as, kvs, e1, e2, e3⟩ := pairs_run f t hp
          cases h with
          | tup hs ha =>
            cases ha with
            | cons h1 h2 =>
              cases h2 with
              | cons h3 h4 =>
                cases h4
                have ek := kV_of h1 hk
                subst ek
                refine ⟨_ :: as, (kk, _) :: kvs, ?_, .cons (sqT_mono f hs) e2, .cons ⟨rfl, h3⟩ e3⟩
                rw [e1]
                rfl
    · cases e
theorem merge_run {K : PySem.W.Frag} {F : Hp} : ∀ {l : List (Key × V)} {ps : List (Key × PyData)} {a : List (Key × V)} {b : KVs}, Paired (fun (kv : Key × V) (p : Key × PyData) => kv.1 = p.1 ∧ Dq K F kv.2 p.2) l ps → DqKV K F a b → DqKV K F (mergeK a l) (dmerge b ps)
  | _, _, _, _, .nil, h => h
  | _, _, _, _, .cons ⟨e, q⟩ t, h => by
    unfold mergeK dmerge
    rw [List.foldl_cons, List.foldl_cons, e]
    exact merge_run t (h.put q)
theorem d_dict {p : Pos} (hc : X.calm = true) (ha : PE X a (qP X.K c f)) (hm : X.mg "dict" = none) (hg : Gl X "dict" := by rfl) (hs : starEach [a] X.env = (false, eval a X.env) :: starEach [] X.env := by rfl) (hpl : (backTo pos (starEach [] X.env)).any (·.1) = false := by rfl) :
    PE X (.Call (.Name "dict" p) [a] [] pos) (qN X.K c (op1 dictD f)) := by
  refine pe_imp (pe_callTy (call_dictP hc) hg hm (by decide +kernel) (pa_cons ha pa_nil hs) (by decide) (by decide) hs hpl) fun σ H Q h => ?_
  obtain ⟨ds, F, s, w⟩ := h
  refine ⟨ds, F, s, ?_⟩
  unfold op1 at w
  cases hf : f ds with
  | bad => rw [hf] at w; exact w
  | err x => rw [hf] at w; exact w
  | ok d =>
    rw [hf, R.ok_bind] at w
    intro v F1 H1 g1 q1
    cases d with
    | list xs =>
      cases hp : pairsO xs with
      | none => simp only [dictD, hp] at w; exact w.elim
      | some ps =>
        simp only [dictD, hp] at w
        cases q1 with
        | lst hs ha =>
          obtain ⟨as, kvs, e1, e2, e3⟩ := pairs_run g1.fh ha hp
          subst e1
          refine ⟨_, as, kvs, rfl, g1.fh.seq hs, e2, fun p hp => ?_⟩
          exact w p F1 _ (g1.trans (.own g1.fh hp)) (g1.hh.free hp) (g1.fh.free hp) ⟨_, upd_same, merge_run e3 .nil⟩
    | _ => exact w.elim
/-- {} -/
theorem d_dnew : PE X (.Dict [] [] pos) (qN X.K c (cS (.dict []))) := by
  refine pe_imp pe_dnewK fun σ H Q h => ?_
  obtain ⟨ds, F, s, w⟩ := h
  intro p hp
  exact w p F _ (.own s.fh hp) (fr_none hp) (s.fh.free hp) ⟨[], upd_same, .nil⟩
/-! ### sorted -/
def insI (x : Int) : List Int → List Int
  | [] => [x]
  | y :: r => if x ≤ y then x :: y :: r else y :: insI x r
def sortI : List Int → List Int
  | [] => []
  | x :: r => insI x (sortI r)
theorem insI_perm (x : Int) : ∀ l : List Int, (insI x l).Perm (x :: l)
  | [] => .refl _
  | y :: r => by
    unfold insI
    split
    · exact .refl _
    · exact ((insI_perm x r).cons y).trans (.swap x y r)
theorem sortI_perm : ∀ l : List Int, (sortI l).Perm l
  | [] => .refl _
  | x :: r => (insI_perm x (sortI r)).trans ((sortI_perm r).cons x)
theorem insI_pw (x : Int) : ∀ {l : List Int}, l.Pairwise (· ≤ ·) → (insI x l).Pairwise (· ≤ ·)
  | [], _ => by simp [insI]
  | y :: r, h => by
    unfold insI
    rw [List.pairwise_cons] at h
    split
    · rename_i hxy
      rw [List.pairwise_cons]
      refine ⟨fun z hz => ?_, List.pairwise_cons.mpr h⟩
      rcases List.mem_cons.mp hz with e | hz
      · subst e; exact hxy
      · have := h.1 z hz; omega
    · rename_i hxy
      rw [List.pairwise_cons]
      refine ⟨fun z hz => ?_, insI_pw x h.2⟩
      rcases List.mem_cons.mp ((insI_perm x r).mem_iff.mp hz) with e | hz
      · subst e; omega
      · exact h.1 z hz
theorem sortI_pw : ∀ l : List Int, (sortI l).Pairwise (· ≤ ·)
  | [] => .nil
  | x :: r => insI_pw x (sortI_pw r)
theorem sortI_uniq {l m : List Int} (p : m.Perm l) (s : m.Pairwise (· ≤ ·)) : m = sortI l :=
  List.Perm.eq_of_pairwise (le := (· ≤ ·)) (fun a b _ _ h1 h2 => by omega) s (sortI_pw l) (p.trans (sortI_perm l).symm)
def sortD : PyData → R PyData
  | .list xs => match intsO xs with
    | some ns => .ok (.list ((sortI ns).map .int))
    | none => .bad
  | .dict kvs => match intsO (kvs.map (·.1)) with
    | some ns => if ns.length < 64 then .ok (.list ((sortI ns).map .int)) else .bad
    | none => .bad
  | _ => .bad
theorem dqInts {K : PySem.W.Frag} {H : Hp} : ∀ ns : List Int, DqAll K H (ns.map V.int) (ns.map PyData.int)
  | [] => .nil
  | n :: r => .cons (.int n) (dqInts r)
theorem keys_ints {K : PySem.W.Frag} {H : Hp} : ∀ {l : List (Key × V)} {kvs : KVs} {ns : List Int}, DqKV K H l kvs → intsO (kvs.map (·.1)) = some ns → l.map (·.1) = ns.map Sum.inl
  | _, _, _, .nil, e => by
    cases e
    rfl
  | (k, v) :: l, (_, d) :: kvs, ns, .cons h t, e => by
    rw [List.map_cons] at e
    cases k with
    | inl i =>
      have e : (intsO (kvs.map (·.1))).map (i :: ·) = some ns := e
      obtain ⟨m, e1, e2⟩ := Option.map_eq_some_iff.mp e
      subst e2
      rw [List.map_cons, keys_ints t e1]
      rfl
    | inr x => simp [kD, intsO] at e
theorem d_sorted {p : Pos} (hc : X.calm = true) (ha : PE X a (qT X.K c f)) (hm : X.mg "sorted" = none) (hg : Gl X "sorted" := by rfl) (hs : starEach [a] X.env = (false, eval a X.env) :: starEach [] X.env := by rfl) (hpl : (backTo pos (starEach [] X.env)).any (·.1) = false := by rfl) :
    PE X (.Call (.Name "sorted" p) [a] [] pos) (qN X.K c (op1 sortD f)) := by
  refine pe_imp (pe_callB (cr_sortedI.or (call_sortedDI hc)) hg hm (by decide +kernel) (pa_cons ha pa_nil hs) (by decide) (by decide) hs hpl) fun σ H Q h => ?_
  obtain ⟨ds, F, s, w⟩ := h
  refine ⟨ds, F, s, ?_⟩
  unfold op1 at w
  cases hf : f ds with
  | bad => rw [hf] at w; exact w
  | err x => rw [hf] at w; exact w
  | ok d =>
    rw [hf, R.ok_bind] at w
    intro v F1 H1 g1 q1
    cases d with
    | list xs =>
      cases hp : intsO xs with
      | none => simp only [sortD, hp] at w; exact w.elim
      | some ns =>
        simp only [sortD, hp] at w
        cases q1 with
        | lst hs ha =>
          have e1 := ints_of ha hp
          subst e1
          refine .inl ⟨_, ns, rfl, hs, fun ns' p p1 p2 hp => ?_⟩
          rw [sortI_uniq p1 p2]
          exact w p F1 _ (g1.trans (.own g1.fh hp)) (g1.hh.free hp) (g1.fh.free hp) ⟨_, upd_same, dqInts _⟩
    | dict kvs =>
      cases hp : intsO (kvs.map (·.1)) with
      | none => simp only [sortD, hp] at w; exact w.elim
      | some ns =>
        simp only [sortD, hp] at w
        by_cases h64 : ns.length < 64
        · rw [if_pos h64] at w
          cases q1 with
          | dct hs ha =>
            refine .inr ⟨_, _, ns, rfl, hs, keys_ints ha hp, h64, fun ns' p p1 p2 hp => ?_⟩
            rw [sortI_uniq p1 p2]
            exact w p F1 _ (g1.trans (.own g1.fh hp)) (g1.hh.free hp) (g1.fh.free hp) ⟨_, upd_same, dqInts _⟩
          | dcT hs ha => simp [intsO] at hp
          | obj hs ha => simp [intsO] at hp
        · rw [if_neg h64] at w
          exact w.elim
    | _ => exact w.elim
end
end Cb
namespace Cb
open PySem PySem.Spec PyProof.Rows L2
/-! ### what is walked -/
structure Wk (K : PySem.W.Frag) (J : It) (F1 : Hp) (items : List PyData) : Prop where
  go : ∀ (i : Nat) (F H : Hp) (d : PyData), Sam F1 F → Sam F H → items[i]? = some d → J.go i H ∧ ∀ x H', J.yld i H x H' → ∃ F', (∀ T, Grow T F H F' H') ∧ Dq K F' x d
  stop : ∀ (i : Nat) (F H : Hp), Sam F1 F → Sam F H → items.length ≤ i → J.stop i H
def wI (K : PySem.W.Frag) (c : Bk) (F H : Hp) (Rr : It → Hp → Prop) : R (List PyData) → Prop
  | .bad => False
  | .ok ds => ∀ J F' H', Grow c.T F H F' H' → Wk K J F' ds → Rr J H'
  | .err x => wErr c x
def qI (K : PySem.W.Frag) (c : Bk) (f : DS → R (List PyData)) : TI := fun σ H Rr => ∃ ds F, Stt K c F H σ ds ∧ wI K c F H Rr (f ds)
/-- what is walked while nothing is changed -/
structure WkT (K : PySem.W.Frag) (J : It) (F1 H1 : Hp) (items : List PyData) : Prop where
  go : ∀ (i : Nat) (F H : Hp) (d : PyData), Sam F1 F → Sam H1 H → Sam F H → items[i]? = some d → J.go i H ∧ ∀ x H', J.yld i H x H' → ∃ F', (∀ T, Grow T F H F' H') ∧ Dq K F' x d
  stop : ∀ (i : Nat) (F H : Hp), Sam F1 F → Sam H1 H → Sam F H → items.length ≤ i → J.stop i H
theorem Wk.t {K : PySem.W.Frag} {J : It} {F1 H1 : Hp} {items : List PyData} (h : Wk K J F1 items) : WkT K J F1 H1 items := ⟨fun i F H d f _ g e => h.go i F H d f g e, fun i F H f _ g e => h.stop i F H f g e⟩
def wJ (K : PySem.W.Frag) (c : Bk) (F H : Hp) (Rr : It → Hp → Prop) : R (List PyData) → Prop
  | .bad => False
  | .ok ds => ∀ J F' H', Grow c.T F H F' H' → WkT K J F' H' ds → Rr J H'
  | .err x => wErr c x
def qJ (K : PySem.W.Frag) (c : Bk) (f : DS → R (List PyData)) : TI := fun σ H Rr => ∃ ds F, Stt K c F H σ ds ∧ wJ K c F H Rr (f ds)
theorem wk_list {K : PySem.W.Frag} {F1 : Hp} {a : Addr} {vs : List V} {ds : List PyData} (hs : SqL K F1 a vs) (ha : DqAll K F1 vs ds) : Wk K (Itl K a) F1 ds where
  go := fun i F H d f1 f2 e => by
    obtain ⟨v, e1, e2⟩ := ha.get e
    refine ⟨⟨vs, v, (f1.trans f2).seq hs, e1⟩, fun x H' y => ?_⟩
    obtain ⟨rfl, y⟩ := y
    have := y vs ((f1.trans f2).seq hs)
    rw [e1] at this
    cases this
    exact ⟨F, fun _ => .refl f2, e2.mono f1⟩
  stop := fun i F H f1 f2 e => ⟨vs, (f1.trans f2).seq hs, by rw [ha.length]; exact e⟩
theorem wk_tup {K : PySem.W.Frag} {F1 : Hp} {a : Addr} {vs : List V} {ds : List PyData} (hs : F1 a = some (.tup vs)) (ha : DqAll K F1 vs ds) : Wk K (Itt K a) F1 ds where
  go := fun i F H d f1 f2 e => by
    obtain ⟨v, e1, e2⟩ := ha.get e
    refine ⟨⟨vs, v, sqT_mono (f1.trans f2) hs, e1⟩, fun x H' y => ?_⟩
    obtain ⟨rfl, y⟩ := y
    have := y vs (sqT_mono (f1.trans f2) hs)
    rw [e1] at this
    cases this
    exact ⟨F, fun _ => .refl f2, e2.mono f1⟩
  stop := fun i F H f1 f2 e => ⟨vs, sqT_mono (f1.trans f2) hs, by rw [ha.length]; exact e⟩
def rangeD (lo : Int) (n : Nat) : List PyData := (List.range n).map fun i => .int (lo + (i : Nat))
theorem rangeD_len (lo : Int) (n : Nat) : (rangeD lo n).length = n := by simp [rangeD]
theorem rangeD_get {lo : Int} {n i : Nat} {d : PyData} (h : (rangeD lo n)[i]? = some d) : i < n ∧ d = .int (lo + (i : Nat)) := by
  unfold rangeD at h
  rw [List.getElem?_map] at h
  by_cases hi : i < n
  · rw [List.getElem?_range hi] at h
    cases h
    exact ⟨hi, rfl⟩
  · rw [List.getElem?_eq_none (by simpa using hi)] at h
    cases h
theorem wk_range {K : PySem.W.Frag} {F1 : Hp} {lo : Int} {n : Nat} : Wk K (Itr lo n) F1 (rangeD lo n) where
  go := fun i F H d f1 f2 e => by
    obtain ⟨hi, rfl⟩ := rangeD_get e
    refine ⟨hi, fun x H' y => ?_⟩
    obtain ⟨rfl, rfl⟩ := y
    exact ⟨F, fun _ => .refl f2, .int _⟩
  stop := fun i F H f1 f2 e => by
    rw [rangeD_len] at e
    exact e
def zipD : List PyData → List PyData → List PyData
  | x :: xs, y :: ys => .tuple [x, y] :: zipD xs ys
  | _, _ => []
theorem zipD_get : ∀ {xs ys : List PyData} {i : Nat} {d : PyData}, (zipD xs ys)[i]? = some d → ∃ x y, xs[i]? = some x ∧ ys[i]? = some y ∧ d = .tuple [x, y]
  | [], _, _, _, h => by simp [zipD] at h
  | _ :: _, [], _, _, h => by simp [zipD] at h
  | x :: xs, y :: ys, 0, d, h => by
    have h : some (PyData.tuple [x, y]) = some d := h
    cases h
    exact ⟨x, y, rfl, rfl, rfl⟩
  | x :: xs, y :: ys, i + 1, d, h => by
    have h : (zipD xs ys)[i]? = some d := h
    exact zipD_get (xs := xs) (ys := ys) (i := i) h
theorem zipD_len : ∀ {xs ys : List PyData} {i : Nat}, (zipD xs ys).length ≤ i → xs.length ≤ i ∨ ys.length ≤ i
  | [], _, _, _ => .inl (Nat.zero_le _)
  | _ :: _, [], _, _ => .inr (Nat.zero_le _)
  | x :: xs, y :: ys, 0, h => by simp [zipD] at h
  | x :: xs, y :: ys, i + 1, h => by
    have h : (zipD xs ys).length ≤ i := by simpa [zipD] using h
    rcases zipD_len h with z | z
    · exact .inl (by simpa using z)
    · exact .inr (by simpa using z)
theorem wk_zip {K : PySem.W.Frag} {F1 : Hp} {a b : Addr} {vs ws : List V} {ds es : List PyData} (hs : SqL K F1 a vs) (ha : DqAll K F1 vs ds) (hs' : SqL K F1 b ws) (ha' : DqAll K F1 ws es) : Wk K (Itz K a b) F1 (zipD ds es) where
  go := fun i F H d f1 f2 e => by
    obtain ⟨x, y, e1, e2, rfl⟩ := zipD_get e
    obtain ⟨v, k1, k2⟩ := ha.get e1
    obtain ⟨w, k3, k4⟩ := ha'.get e2
    refine ⟨⟨vs, ws, v, w, (f1.trans f2).seq hs, (f1.trans f2).seq hs', k1, k3⟩, fun x H' y => ?_⟩
    obtain ⟨T, x1, x2, rfl, nT, rfl, y1, y2⟩ := y
    have z1 := y1 vs ((f1.trans f2).seq hs)
    have z2 := y2 ws ((f1.trans f2).seq hs')
    rw [k1] at z1
    rw [k3] at z2
    cases z1
    cases z2
    have fT := f2.free nT
    exact ⟨upd F T (.tup [v, w]), fun _ => .new f2 nT, .tup upd_same (.cons ((k2.mono f1).mono (same_new fT)) (.cons ((k4.mono f1).mono (same_new fT)) .nil))⟩
  stop := fun i F H f1 f2 e => ⟨vs, ws, (f1.trans f2).seq hs, (f1.trans f2).seq hs', by
    rw [ha.length, ha'.length]
    exact zipD_len e⟩
def signsD (x : Str) : List PyData := x.cps.toList.map fun c => .str ⟨#[c]⟩
theorem wk_str {K : PySem.W.Frag} {F1 : Hp} {x : Str} : Wk K (Its x) F1 (signsD x) where
  go := fun i F H d f1 f2 e => by
    unfold signsD at e
    rw [List.getElem?_map] at e
    obtain ⟨c, e1, rfl⟩ := Option.map_eq_some_iff.mp e
    have e2 : x.cps[i]? = some c := by simpa using e1
    refine ⟨(Array.getElem?_eq_some_iff.mp e2).1, fun v H' y => ?_⟩
    obtain ⟨rfl, c', e3, rfl⟩ := y
    rw [e2] at e3
    cases e3
    exact ⟨F, fun _ => .refl f2, .str _⟩
  stop := fun i F H f1 f2 e => by
    have e : x.cps.size ≤ i := by simpa [signsD] using e
    exact e
section
variable {X : Cx} {e a b cc tg : Expr} {c : Bk} {f fa fb fc : ES} {pos : Pos}
def itL (f : ES) : DS → R (List PyData) := fun ds => f ds >>= fun d => match d with
  | .list xs => .ok xs
  | _ => .bad
def itT (f : ES) : DS → R (List PyData) := fun ds => f ds >>= fun d => match d with
  | .tuple xs => .ok xs
  | _ => .bad
def itS (f : ES) : DS → R (List PyData) := fun ds => f ds >>= fun d => match d with
  | .str x => .ok (signsD x)
  | _ => .bad
def in62 (i : Int) : Bool := decide (-(2 ^ 62) ≤ i) && decide (i < 2 ^ 62)
def itR1 (f : ES) : DS → R (List PyData) := fun ds => f ds >>= fun d => match d with
  | .int j => if in62 j = true then .ok (rangeD 0 j.toNat) else .bad
  | _ => .bad
def itR2 (f g : ES) : DS → R (List PyData) := fun ds => f ds >>= fun d => g ds >>= fun e => match d, e with
  | .int i, .int j => if (in62 i && in62 j) = true then .ok (rangeD i (j - i).toNat) else .bad
  | _, _ => .bad
def itZ (f g : ES) : DS → R (List PyData) := fun ds => f ds >>= fun d => g ds >>= fun e => match d, e with
  | .list xs, .list ys => .ok (zipD xs ys)
  | _, _ => .bad
theorem wP_bindI {K : PySem.W.Frag} {F H : Hp} {Rr : It → Hp → Prop} {Q' : VK} {r : R PyData} {k : PyData → R (List PyData)} (w : wI K c F H Rr (r >>= k)) (h : ∀ d v F1 H1, Grow c.T F H F1 H1 → Dq K F1 v d → wI K c F1 H1 Rr (k d) → Q' v H1) : wP K c F H Q' r := by
  cases r with
  | bad => exact w
  | err x => exact w
  | ok d =>
    refine fun v F1 H1 g1 q1 => h d v F1 H1 g1 q1 ?_
    have w : wI K c F H Rr (k d) := w
    cases hk : k d with
    | bad => rw [hk] at w; exact w
    | err x => rw [hk] at w; exact w
    | ok l => rw [hk] at w; exact fun J F2 H2 g2 q2 => w J F2 H2 (g1.trans g2) q2
theorem d_itL (h : PE X e (qP X.K c f)) : PI X tg e (qI X.K c (itL f)) := pi_imp (pi_list h) fun σ H Rr ⟨ds, F, s, w⟩ => ⟨ds, F, s, wP_bindI w fun d v F1 H1 g1 q1 w1 => by
  cases d with
  | list xs =>
    cases q1 with
    | lst hs ha => exact ⟨_, rfl, ⟨_, g1.fh.seq hs⟩, w1 _ F1 H1 (.refl g1.fh) (wk_list hs ha)⟩
  | _ => exact w1.elim⟩
theorem d_itT (h : PE X e (qP X.K c f)) : PI X tg e (qI X.K c (itT f)) := pi_imp (pi_tup h) fun σ H Rr ⟨ds, F, s, w⟩ => ⟨ds, F, s, wP_bindI w fun d v F1 H1 g1 q1 w1 => by
  cases d with
  | tuple xs =>
    cases q1 with
    | tup hs ha => exact ⟨_, rfl, ⟨_, sqT_mono g1.fh hs⟩, w1 _ F1 H1 (.refl g1.fh) (wk_tup hs ha)⟩
  | _ => exact w1.elim⟩
theorem d_itS (h : PE X e (qP X.K c f)) : PI X tg e (qI X.K c (itS f)) := pi_imp (pi_str h) fun σ H Rr ⟨ds, F, s, w⟩ => ⟨ds, F, s, wP_bindI w fun d v F1 H1 g1 q1 w1 => by
  cases d with
  | str x =>
    cases q1 with
    | str y => exact ⟨_, rfl, w1 _ F1 H1 (.refl g1.fh) wk_str⟩
  | _ => exact w1.elim⟩
theorem d_itR1 {p : Pos} (h : PE X a (qP X.K c f)) (hm : X.mg "range" = none) (hg : Gl X "range" := by rfl) (hs : starEach [a] X.env = [(false, eval a X.env)] := by rfl) : PI X tg (.Call (.Name "range" p) [a] [] pos) (qI X.K c (itR1 f)) := pi_imp (pi_range1 hg hm (pa_cons h pa_nil hs) hs) fun σ H Rr ⟨ds, F, s, w⟩ => ⟨ds, F, s, wP_bindI w fun d v F1 H1 g1 q1 w1 => by
  cases d with
  | int j =>
    cases q1 with
    | int j =>
      by_cases hj : in62 j = true
      · simp only [if_pos hj] at w1
        have hj' := hj
        simp only [in62, Bool.and_eq_true, decide_eq_true_eq] at hj'
        exact ⟨j, rfl, hj'.1, hj'.2, w1 _ F1 H1 (.refl g1.fh) wk_range⟩
      · simp only [if_neg hj] at w1
        exact w1.elim
  | _ => exact w1.elim⟩
theorem d_itR2 {p : Pos} (h : PE X a (qP X.K c fa)) (h2 : PE X b (qP X.K c fb)) (hm : X.mg "range" = none) (hg : Gl X "range" := by rfl) (hs : starEach [a, b] X.env = [(false, eval a X.env), (false, eval b X.env)] := by rfl) (hs2 : starEach [b] X.env = [(false, eval b X.env)] := by rfl) : PI X tg (.Call (.Name "range" p) [a, b] [] pos) (qI X.K c (itR2 fa fb)) :=
  pi_imp (pi_range2 hg hm (pa_cons h (pa_cons h2 pa_nil hs2) (by rw [hs, hs2])) hs hs2) fun σ H Rr ⟨ds, F, s, w⟩ => ⟨ds, F, s, wP_bindI w fun d v F1 H1 g1 q1 w1 => ⟨ds, F1, s.grow g1, wP_bindI w1 fun d2 v2 F2 H2 g2 q2 w2 => by
    cases d with
    | int i =>
      cases d2 with
      | int j =>
        cases q1
        cases q2
        by_cases hj : (in62 i && in62 j) = true
        · simp only [if_pos hj] at w2
          have hj' := hj
          simp only [in62, Bool.and_eq_true, decide_eq_true_eq] at hj'
          exact ⟨i, j, rfl, ⟨hj'.1.1, hj'.1.2, hj'.2.1, hj'.2.2⟩, w2 _ F2 H2 (.refl g2.fh) wk_range⟩
        · simp only [if_neg hj] at w2
          exact w2.elim
      | _ => exact w2.elim
    | _ => exact w2.elim⟩⟩
theorem d_itZ {p tpos : Pos} {elts : List Expr} {kk : Nat} (h : PE X a (qP X.K c fa)) (h2 : PE X b (qP X.K c fb)) (hm : X.mg "zip" = none) (hg : Gl X "zip" := by rfl) (hs : starEach [a, b] X.env = (false, eval a X.env) :: starEach [b] X.env := by rfl) (hs2 : starEach [b] X.env = (false, eval b X.env) :: starEach [] X.env := by rfl) (hpl : (backTo pos (starEach [b] X.env)).any (·.1) = false := by rfl) :
    PI X (.Tuple elts kk tpos) (.Call (.Name "zip" p) [a, b] [] pos) (qI X.K c (itZ fa fb)) :=
  pi_imp (pi_zip hg hm (pa_cons h (pa_cons h2 pa_nil hs2) hs) hs hpl) fun σ H Rr ⟨ds, F, s, w⟩ => ⟨ds, F, s, wP_bindI w fun d v F1 H1 g1 q1 w1 => ⟨ds, F1, s.grow g1, wP_bindI w1 fun d2 v2 F2 H2 g2 q2 w2 => by
    cases d with
    | list xs =>
      cases d2 with
      | list ys =>
        cases q1.mono g2.ff with
        | lst hs ha =>
          cases q2 with
          | lst hs' ha' => exact ⟨_, _, _, _, rfl, g2.fh.seq hs, g2.fh.seq hs', w2 _ F2 H2 (.refl g2.fh) (wk_zip hs ha hs' ha')⟩
      | _ => exact w2.elim
    | _ => exact w2.elim⟩⟩
/-! ### targets -/
inductive TgK where
  | nm (i : Nat)
  | pr (i j : Nat)
  | tr (i j k : Nat)
def tgT (K : PySem.W.Frag) : TgK → TG
  | .nm i => gName i
  | .pr i j => gTup K 2 (gCons (gName i) (gCons (gName j) gNil))
  | .tr i j k => gTup K 3 (gCons (gName i) (gCons (gName j) (gCons (gName k) gNil)))
def tgD : TgK → PyData → DS → R DS
  | .nm i, d, ds => .ok (ds.set i (.im d))
  | .pr i j, .tuple [x, y], ds => .ok ((ds.set i (.im x)).set j (.im y))
  | .tr i j k, .tuple [x, y, z], ds => .ok (((ds.set i (.im x)).set j (.im y)).set k (.im z))
  | _, _, _ => .bad
def tgIn : TgK → List Nat → Prop
  | .nm i, vs => i ∈ vs
  | .pr i j, vs => i ∈ vs ∧ j ∈ vs
  | .tr i j k, vs => i ∈ vs ∧ j ∈ vs ∧ k ∈ vs
theorem wipe_get (σ : L2.St) : ∀ (vs : List Nat) (j : Nat), (wipe σ vs)[j]? = if j ∈ vs then (if j < σ.length then some none else none) else σ[j]?
  | [], j => by simp [wipe]
  | v :: vs, j => by
    unfold wipe
    rw [get_set, wipe_get σ vs j, wipe_length]
    by_cases h : v = j
    · subst h
      by_cases hl : v < σ.length
      · simp [hl]
      · simp [hl]
    · by_cases hj : j ∈ vs
      · simp [h, hj]
      · have : ¬ j = v := fun z => h z.symm
        simp [h, hj, this]
theorem wipe_set {σ : L2.St} {i : Nat} {o : Option V} {vs : List Nat} (h : i ∈ vs) : wipe (σ.set i o) vs = wipe σ vs := by
  apply List.ext_getElem?
  intro j
  rw [wipe_get, wipe_get, List.length_set]
  by_cases hj : j ∈ vs
  · rw [if_pos hj, if_pos hj]
  · rw [if_neg hj, if_neg hj, get_set, if_neg]
    rintro ⟨rfl, _⟩
    exact hj h
theorem tg_run {K : PySem.W.Frag} {k : TgK} {F H : Hp} {σ : L2.St} {ds ds' : DS} {v : V} {d : PyData} (s : Stt K c F H σ ds) (q : Dq K F v d) (hd : tgD k d ds = .ok ds') : ∃ σ', (∀ Q : L2.St → Hp → Prop, Q σ' H → tgT K k v σ H Q) ∧ Stt K c F H σ' ds' ∧ ∀ vs, tgIn k vs → wipe σ' vs = wipe σ vs := by
  cases k with
  | nm i =>
    cases hd
    exact ⟨_, fun Q z => z, s.set q, fun vs h => wipe_set h⟩
  | pr i j =>
    unfold tgD at hd
    split at hd
    · rename_i heq; cases heq
    · rename_i heq
      cases heq
      cases hd
      cases q with
      | tup hs ha =>
        cases ha with
        | cons h1 h2 =>
          cases h2 with
          | cons h3 h4 =>
            cases h4
            exact ⟨_, fun Q z => ⟨_, _, rfl, sqT_mono s.fh hs, rfl, _, _, rfl, _, _, rfl, rfl, z⟩, (s.set h1).set h3, fun vs h => by rw [wipe_set h.2, wipe_set h.1]⟩
    · rename_i heq; cases heq
    · cases hd
  | tr i j k =>
    unfold tgD at hd
    split at hd
    · rename_i heq; cases heq
    · rename_i heq; cases heq
    · rename_i heq
      cases heq
      cases hd
      cases q with
      | tup hs ha =>
        cases ha with
        | cons h1 h2 =>
          cases h2 with
          | cons h3 h4 =>
            cases h4 with
            | cons h5 h6 =>
              cases h6
              exact ⟨_, fun Q z => ⟨_, _, rfl, sqT_mono s.fh hs, rfl, _, _, rfl, _, _, rfl, _, _, rfl, rfl, z⟩, ((s.set h1).set h3).set h5, fun vs h => by rw [wipe_set h.2.2, wipe_set h.2.1, wipe_set h.1]⟩
    · cases hd
theorem d_g1 {i : Nat} {x : Str} {K : PySem.W.Frag} (hN : X.N.Nodup) (hi : X.N[i]? = some x := by rfl) (hx : Loc X.env.scope x := by first | exact Or.inl rfl | exact Or.inr rfl) (hf : X.fn x = true ∨ X.env.scope.names.lookup x = some .local := by first | exact .inl rfl | exact .inr rfl | assumption) : PG X (.Name x pos) (tgT K (.nm i)) := pg_name hN hi hx hf
/-! ### list comprehensions -/
def wipeD (ds : DS) : List Nat → DS
  | [] => ds
  | v :: vs => (wipeD ds vs).set v .no
theorem Stt.wipe {K : PySem.W.Frag} {F H : Hp} {σ : L2.St} {ds : DS} (s : Stt K c F H σ ds) : ∀ vs : List Nat, Stt K c F H (L2.wipe σ vs) (wipeD ds vs)
  | [] => s
  | v :: vs => (Stt.wipe s vs).forget
def lcGo (k : TgK) (ft : DS → R Bool) (fe : ES) (ds : DS) : List PyData → R (List PyData)
  | [] => .ok []
  | x :: xs => match tgD k x ds with
    | .ok ds' => (match ft ds' with
      | .ok true => (match fe ds' with
        | .ok y => (match lcGo k ft fe ds xs with
          | .ok ys => .ok (y :: ys)
          | _ => .bad)
        | _ => .bad)
      | .ok false => lcGo k ft fe ds xs
      | _ => .bad)
    | _ => .bad
def lcS (fi : DS → R (List PyData)) (vs : List Nat) (k : TgK) (ft : DS → R Bool) (fe : ES) : ES := fun ds => fi ds >>= fun items => if items.length ≤ big then lcGo k ft fe (wipeD ds vs) items >>= fun ys => .ok (.list ys) else .bad
/-- within a block nothing is raised -/
abbrev Bk.calm (c : Bk) : Bk := { c with E := E0 }
theorem stt_calm {K : PySem.W.Frag} {F H : Hp} {σ : L2.St} {ds : DS} (s : Stt K c F H σ ds) : Stt K c.calm F H σ ds := ⟨s.gr, s.tb, s.len, by
  obtain ⟨fp, a, d⟩ := s.at_
  refine ⟨fp, fun i x h => ?_, d⟩
  have q := a i x h
  cases x <;> exact q, s.fx⟩
theorem pts_imp {ifs : List Expr} {t t' : TT} (h : PTs X ifs t) (i : ∀ σ H Q, t' σ H Q → t σ H Q) : PTs X ifs t' := ⟨fun pins s σ H Q I q => h.run pins s σ H Q I (i σ H Q q)⟩
def yesB : DS → R Bool := fun _ => .ok true
theorem d_j {tg : Expr} {fi : DS → R (List PyData)} (h : PI X tg e (qI X.K c fi)) : PI X tg e (qJ X.K c fi) := pi_imp h fun σ H Rr ⟨ds, F, s, w⟩ => ⟨ds, F, s, by
  cases hf : fi ds with
  | bad => rw [hf] at w; exact w
  | err x => rw [hf] at w; exact w
  | ok items =>
    rw [hf] at w
    exact fun J F' H' g k => w J F' H' g k.t⟩
/-- a list of one's own, walked -/
def itO (i : Nat) : DS → R (List PyData) := fun ds => match ds[i]? with
  | some (.ow (.list xs)) => .ok xs
  | _ => .bad
theorem d_itO (i : Nat) {x : Str} {tg : Expr} (hN : X.N[i]? = some x := by rfl) (hv : Vis X.env.scope x := by first | exact Or.inl rfl | exact Or.inr (Or.inl rfl) | exact Or.inr (Or.inr rfl)) (hd : (x == ("__debug__" : Str)) = false := by decide) (hcd : (x == ("__classdict__" : Str)) = false := by decide) :
    PI X tg (.Name x pos) (qJ X.K c (itO i)) := pi_imp (pi_list (pe_var hN hv hd hcd)) fun σ H Rr ⟨ds, F, s, w⟩ => by
  unfold itO at w
  split at w
  · rename_i xs hi
    obtain ⟨p, e1, e2, e3, vs, e4, e5⟩ := s.sl i _ hi
    refine ⟨.ref p, e1, p, rfl, ⟨vs, .inl (.inl e4)⟩, w (Itl X.K p) F H (.refl s.fh) ⟨fun j F' H' d f1 h1 f2 e => ?_, fun j F' H' f1 h1 f2 e => ⟨vs, .inl (.inl (h1.keep _ _ e4 rfl)), by rw [e5.length]; exact e⟩⟩⟩
    obtain ⟨v, k1, k2⟩ := e5.get e
    have hs : SqL X.K H' p vs := .inl (.inl (h1.keep _ _ e4 rfl))
    refine ⟨⟨vs, v, hs, k1⟩, fun x H2 y => ?_⟩
    obtain ⟨rfl, y⟩ := y
    have := y vs hs
    rw [k1] at this
    cases this
    exact ⟨F', fun _ => .refl f2, k2.mono f1⟩
  · exact w.elim
theorem d_pts0 : PTs X [] (qB X.K c yesB) := pts_imp pts_nil fun σ H Q ⟨ds, F, s, w⟩ => w F H (.refl s.fh)
theorem d_pts1 {ft : DS → R Bool} (h : PT X a (qB X.K c ft)) : PTs X [a] (qB X.K c ft) := pts_one h
theorem t_lc {K : PySem.W.Frag} {fi : DS → R (List PyData)} {vs : List Nat} {k : TgK} {ft : DS → R Bool} {fe : ES} (hk : tgIn k vs) {σ : L2.St} {H : Hp} {Q : VK} (h : qN K c (lcS fi vs k ft fe) σ H Q) : tLc (qJ K c fi) (tgT K k) (qB K c.calm ft) (qP K c.calm fe) vs σ H Q := by
  obtain ⟨ds, F, s, w⟩ := h
  refine ⟨ds, F, s, ?_⟩
  unfold lcS at w
  cases hf : fi ds with
  | bad => rw [hf] at w; exact w
  | err x => rw [hf] at w; exact w
  | ok items =>
    rw [hf, R.ok_bind] at w
    by_cases hb : items.length ≤ big
    · rw [if_pos hb] at w
      cases hl : lcGo k ft fe (wipeD ds vs) items with
      | bad => rw [hl] at w; exact w.elim
      | err x =>
        exfalso
        have hne : ∀ (l : List PyData) (x : Xc), lcGo k ft fe (wipeD ds vs) l ≠ .err x := by
          intro l
          induction l with
          | nil => intro x z; cases z
          | cons a r ih =>
            intro x z
            unfold lcGo at z
            repeat' split at z
            all_goals first | exact ih _ z | cases z
        exact hne _ _ hl
      | ok zs =>
        rw [hl, R.ok_bind] at w
        intro J F1 H1 g1 wk D hD
        have s1 : Stt K c F1 H1 σ ds := s.grow g1
        refine ⟨fun i m H' => m = items.length - i ∧ i ≤ items.length ∧ ∃ F' acc ys ws, Grow c.T F1 H1 F' H' ∧ Fr F' D ∧ H' D = some (.lst acc) ∧ DqAll K F' acc ys ∧ acc.length ≤ i ∧ lcGo k ft fe (wipeD ds vs) (items.drop i) = .ok ws ∧ zs = ys ++ ws,
          ⟨items.length, by simp, Nat.zero_le _, F1, [], [], zs, .own g1.fh hD, g1.fh.free hD, upd_same, .nil, Nat.le_refl _, hl, rfl⟩, ?_⟩
        rintro i m H' ⟨rfl, hi, F', acc, ys, ws, g, hF, hH, ha, hla, hg, rfl⟩
        by_cases hlt : i < items.length
        · have ed : items.drop i = items[i] :: items.drop (i + 1) := List.drop_eq_getElem_cons hlt
          have ei : items[i]? = some items[i] := List.getElem?_eq_getElem hlt
          obtain ⟨go, yl⟩ := wk.go i F' H' _ g.ff g.hh g.fh ei
          rw [ed] at hg
          unfold lcGo at hg
          cases ht : tgD k items[i] (wipeD ds vs) with
          | bad => simp only [ht] at hg; cases hg
          | err x => simp only [ht] at hg; cases hg
          | ok ds' =>
            simp only [ht] at hg
            refine .inr ⟨go, fun H'' => ∃ F'' acc' ys' ws', Grow c.T F1 H1 F'' H'' ∧ Fr F'' D ∧ H'' D = some (.lst acc') ∧ DqAll K F'' acc' ys' ∧ acc'.length ≤ i + 1 ∧ lcGo k ft fe (wipeD ds vs) (items.drop (i + 1)) = .ok ws' ∧ ys ++ ws = ys' ++ ws', fun H'' hN => ⟨items.length - (i + 1), by omega, rfl, hlt, hN⟩, fun x H2 y => ?_⟩
            obtain ⟨F2, gT, q2⟩ := yl x H2 y
            have g2 := gT c.T
            have s2 : Stt K c.calm F2 H2 (L2.wipe σ vs) (wipeD ds vs) := stt_calm ((s1.grow (g.trans g2)).wipe vs)
            have hF2 : Fr F2 D := g2.nw D _ hH rfl hF
            have hH2 : H2 D = some (.lst acc) := (g2.hh.keep _ _ hH rfl)
            obtain ⟨σ', k1, s3, k3⟩ := tg_run s2 q2 ht
            refine k1 _ ⟨?_, ds', F2, s3, ?_⟩
            · have z := k3 vs hk
              have z2 : L2.wipe (L2.wipe σ vs) vs = L2.wipe σ vs := by
                apply List.ext_getElem?
                intro j
                rw [wipe_get, wipe_get, wipe_length]
                by_cases hj : j ∈ vs <;> simp [hj]
              rw [z, z2]
            · cases hft : ft ds' with
              | bad => simp only [hft] at hg; cases hg
              | err x => simp only [hft] at hg; cases hg
              | ok bb =>
                intro F3 H3 g3
                cases bb with
                | false =>
                  simp only [hft] at hg
                  rw [if_neg Bool.false_ne_true]
                  exact ⟨F3, acc, ys, ws, (g.trans g2).trans g3, g3.nw D _ hH2 rfl hF2, (g3.hh.keep _ _ hH2 rfl), (ha.mono g2.ff).mono g3.ff, by omega, hg, rfl⟩
                | true =>
                  simp only [hft] at hg
                  rw [if_pos rfl]
                  refine ⟨ds', F3, s3.grow g3, ?_⟩
                  cases hfe : fe ds' with
                  | bad => simp only [hfe] at hg; cases hg
                  | err x => simp only [hfe] at hg; cases hg
                  | ok yy =>
                    simp only [hfe] at hg
                    intro v F4 H4 g4 q4
                    have hF3 : Fr F3 D := g3.nw D _ hH2 rfl hF2
                    have hH3 : H3 D = some (.lst acc) := (g3.hh.keep _ _ hH2 rfl)
                    have hF4 : Fr F4 D := g4.nw D _ hH3 rfl hF3
                    have hH4 : H4 D = some (.lst acc) := (g4.hh.keep _ _ hH3 rfl)
                    cases hr : lcGo k ft fe (wipeD ds vs) (items.drop (i + 1)) with
                    | bad => simp only [hr] at hg; cases hg
                    | err x => simp only [hr] at hg; cases hg
                    | ok ws' =>
                      simp only [hr] at hg
                      cases hg
                      refine ⟨acc, hH4, ?_, F4, acc ++ [v], ys ++ [yy], ws', Grow.mut (((g.trans g2).trans g3).trans g4) (fr_none hD) hF4 hH4 rfl, hF4, upd_same, (((ha.mono g2.ff).mono g3.ff).mono g4.ff).append (.cons q4 .nil), ?_, rfl, ?_⟩
                      · exact Nat.lt_of_lt_of_le (Nat.lt_of_le_of_lt hla hlt) (big_le hb)
                      · rw [List.length_append]
                        show acc.length + 1 ≤ i + 1
                        omega
                      · rw [List.append_assoc]
                        rfl
        · have e : i = items.length := by omega
          subst e
          rw [List.drop_length] at hg
          cases hg
          refine .inl ⟨wk.stop _ F' H' g.ff g.hh g.fh (Nat.le_refl _), ?_⟩
          rw [List.append_nil] at w
          exact w D F' H' (g1.trans g) (g1.hh.free hD) hF ⟨acc, hH, ha⟩
    · rw [if_neg hb] at w
      exact w.elim
theorem d_lc {elt iter : Expr} {ifs : List Expr} {scope : Scope} {own : List (Str × Nat)} {vs : List Nat} {fi : DS → R (List PyData)} {k : TgK} {ft : DS → R Bool} {fe : ES} (hc : X.calm = true) (hN : X.N.Nodup) (hi : PI X tg iter (qJ X.K c fi)) (ok : BlkOk X.N X.env.scope scope own)
    (hg : ∀ (s : Shared) (H : Hp) (C : Addr) (cl : List (Str × Addr)) (fp : List Addr), PG (X.blk s H scope (compEnvC scope cl C X.env) fp) tg (tgT X.K k)) (ht : ∀ (s : Shared) (H : Hp) (C : Addr) (cl : List (Str × Addr)) (fp : List Addr), PTs (X.blk s H scope (compEnvC scope cl C X.env) fp) ifs (qB X.K c.calm ft))
    (he : ∀ (s : Shared) (H : Hp) (C : Addr) (cl : List (Str × Addr)) (fp : List Addr), PE (X.blk s H scope (compEnvC scope cl C X.env) fp) elt (qP X.K c.calm fe)) (hk : tgIn k vs) (hvs : own.map (·.2) = vs := by rfl) (hs : ∀ x, foldedSetIterable iter X.env x = pure x := by intro _; rfl) :
    PE X (.ListComp elt [⟨tg, iter, ifs, 0⟩] scope pos) (qN X.K c (lcS fi vs k ft fe)) := by
  subst hvs
  exact pe_imp (pe_lc hc hN hi ok hg ht he hs) fun _ _ _ h => t_lc hk h
end
end Cb
namespace Cb
open PySem PySem.Spec PyProof.Rows L2
/-! ### statements -/
inductive Out where
  | bad
  | nx (ds : DS)
  | rt (d : PyData)
  | bk (ds : DS)
  | ct (ds : DS)
  | err (x : Xc)
def wS (K : PySem.W.Frag) (c : Bk) (F : Hp) (D : Ends) : Out → Prop
  | .bad => False
  | .nx ds => ∀ σ F' H, Sam F F' → Stt K c F' H σ ds → D.nx σ H
  | .rt d => ∀ v F' H, Grow c.T c.F0 c.H0 F' H → Dq K F' v d → D.rt v H
  | .bk ds => ∀ σ F' H, Sam F F' → Stt K c F' H σ ds → D.bk σ H
  | .ct ds => ∀ σ F' H, Sam F F' → Stt K c F' H σ ds → D.ct σ H
  | .err x => wErr c x
def qS (K : PySem.W.Frag) (c : Bk) (g : DS → Out) : TS := fun D σ H => ∃ ds F, Stt K c F H σ ds ∧ wS K c F D (g ds)
theorem wS_mono {K : PySem.W.Frag} {c : Bk} {F F1 : Hp} {D : Ends} {o : Out} (f : Sam F F1) (w : wS K c F D o) : wS K c F1 D o := by
  cases o with
  | bad => exact w
  | nx ds => exact fun σ F' H f' s => w σ F' H (f.trans f') s
  | bk ds => exact fun σ F' H f' s => w σ F' H (f.trans f') s
  | ct ds => exact fun σ F' H f' s => w σ F' H (f.trans f') s
  | rt d => exact w
  | err x => exact w
def toO (r : R PyData) (k : PyData → Out) : Out := match r with
  | .bad => .bad
  | .ok d => k d
  | .err x => .err x
def toB (r : R Bool) (k : Bool → Out) : Out := match r with
  | .bad => .bad
  | .ok d => k d
  | .err x => .err x
section
variable {X : Cx} {e a b cc tg : Expr} {c : Bk} {f fa fb fc : ES} {pos : Pos} {st : Stmt} {rest : List Stmt} {g g1 g2 : DS → Out}
theorem wP_toO {K : PySem.W.Frag} {F H : Hp} {D : Ends} {Q' : VK} {r : R PyData} {k : PyData → Out} (w : wS K c F D (toO r k)) (h : ∀ d v F1 H1, Grow c.T F H F1 H1 → Dq K F1 v d → wS K c F1 D (k d) → Q' v H1) : wP K c F H Q' r := by
  cases r with
  | bad => exact w
  | err x => exact w
  | ok d => exact fun v F1 H1 g1 q1 => h d v F1 H1 g1 q1 (wS_mono g1.ff w)
theorem wT_toO {K : PySem.W.Frag} {F H : Hp} {D : Ends} {Q' : VK} {r : R PyData} {k : PyData → Out} (w : wS K c F D (toO r k)) (h : ∀ d v F1 H1, Grow c.T F H F1 H1 → Dq K H1 v d → wS K c F1 D (k d) → Q' v H1) : wT K c F H Q' r := by
  cases r with
  | bad => exact w
  | err x => exact w
  | ok d => exact fun v F1 H1 g1 q1 => h d v F1 H1 g1 q1 (wS_mono g1.ff w)
theorem wN_toO {K : PySem.W.Frag} {F H : Hp} {D : Ends} {Q' : VK} {r : R PyData} {k : PyData → Out} (w : wS K c F D (toO r k)) (h : ∀ d p F1 H1, Grow c.T F H F1 H1 → Fr H p → Fr F1 p → Own K F1 H1 p d → wS K c F1 D (k d) → Q' (.ref p) H1) : wN K c F H Q' r := by
  cases r with
  | bad => exact w
  | err x => exact w
  | ok d => exact fun v F1 H1 g1 q1 q2 q3 => h d v F1 H1 g1 q1 q2 q3 (wS_mono g1.ff w)
theorem wB_toB {K : PySem.W.Frag} {F H : Hp} {D : Ends} {Q' : Bool → Hp → Prop} {r : R Bool} {k : Bool → Out} (w : wS K c F D (toB r k)) (h : ∀ d F1 H1, Grow c.T F H F1 H1 → wS K c F1 D (k d) → Q' d H1) : wB c F H Q' r := by
  cases r with
  | bad => exact w
  | err x => exact w
  | ok d => exact fun F1 H1 g1 => h d F1 H1 g1 (wS_mono g1.ff w)
/-! blocks -/
def nxS : DS → Out := fun ds => .nx ds
def seqS (g1 g2 : DS → Out) : DS → Out := fun ds => match g1 ds with
  | .nx ds' => g2 ds'
  | o => o
theorem d_nil : PSs X [] (qS X.K c nxS) := pss_imp pss_nil fun D σ H ⟨ds, F, s, w⟩ => w σ F H (.refl F) s
theorem d_one (h : PS X st (qS X.K c g)) : PSs X [st] (qS X.K c g) := pss_one h
theorem d_cons (h1 : PS X st (qS X.K c g1)) (h2 : PSs X rest (qS X.K c g2)) : PSs X (st :: rest) (qS X.K c (seqS g1 g2)) := by
  refine pss_imp (pss_cons h1 h2) fun D σ H h => ?_
  obtain ⟨ds, F, s, w⟩ := h
  refine ⟨ds, F, s, ?_⟩
  unfold seqS at w
  cases hg : g1 ds with
  | bad => rw [hg] at w; exact w
  | nx ds' =>
    rw [hg] at w
    exact fun σ' F' H' f' s' => ⟨ds', F', s', wS_mono f' w⟩
  | rt d => rw [hg] at w; exact w
  | bk d => rw [hg] at w; exact w
  | ct d => rw [hg] at w; exact w
  | err x => rw [hg] at w; exact w
/-- a name's object is let go: from now on it lasts, and is changed no more -/
def frzS (i : Nat) (g : DS → Out) : DS → Out := fun ds => match ds[i]? with
  | some (.ow d) => g (ds.set i (.im d))
  | _ => .bad
theorem Stt.frz {K : PySem.W.Frag} {F H : Hp} {σ : L2.St} {ds : DS} {i : Nat} {d : PyData} (s : Stt K c F H σ ds) (hi : ds[i]? = some (.ow d)) : ∃ F', Sam F F' ∧ Stt K c F' H σ (ds.set i (.im d)) := by
  obtain ⟨fp, a, dj⟩ := s.at_
  obtain ⟨p, e0, e1, e2, e3, e4⟩ := a i _ hi
  obtain ⟨o, ho, hn⟩ := e4.there
  have hlt := lt_of_get hi
  have q : Dq K (upd F p o) (.ref p) d := by
    cases d with
    | list xs =>
      obtain ⟨vs, k1, k2⟩ := e4
      rw [ho] at k1
      cases k1
      exact .lst (.of upd_same) (k2.mono (same_new e3))
    | dict xs =>
      obtain ⟨vs, k1, k2⟩ := e4
      rw [ho] at k1
      cases k1
      exact .dct (.of upd_same) (k2.mono (same_new e3))
    | _ => exact e4.elim
  have st : ∀ (j : Nat) (x : Sl), j ≠ i → ds[j]? = some x → SlAt K c (upd F p o) H σ[j]? (fp j) x := fun j x hj h => by
    have r := a j x h
    refine r.stay (same_new e3) (fun b _ o h' _ => h') fun b hb => (r.mem b hb).2.1.upd fun z => ?_
    exact dj j i hj (lt_of_get h) hlt b hb (by rw [e0, z]; simp)
  have es : σ.set i (some (.ref p)) = σ := by
    apply List.ext_getElem?
    intro j
    rw [get_set]
    split
    · rename_i h
      rw [← h.1, e1]
    · rfl
  refine ⟨upd F p o, same_new e3, s.gr.frz e2 e3 ho (mt_nT hn), s.tb, by rw [List.length_set]; exact s.len, ⟨fun j => if j = i then [] else fp j, fun j x h => ?_, fun j k hjk hj hk b hb => ?_⟩, fun r hr t q => ?_⟩
  · rw [get_set] at h
    by_cases hij : i = j ∧ i < ds.length
    · rw [if_pos hij] at h
      cases h
      simp only [if_pos hij.1.symm]
      rw [← hij.1]
      exact ⟨rfl, _, e1, q⟩
    · rw [if_neg hij] at h
      have hj : j ≠ i := fun z => hij ⟨z.symm, hlt⟩
      simp only [if_neg hj]
      exact st j x hj h
  · rw [List.length_set] at hj hk
    by_cases h1 : j = i
    · simp only [if_pos h1] at hb
      cases hb
    · simp only [if_neg h1] at hb
      by_cases h2 : k = i
      · simp only [if_pos h2]
        exact fun z => by cases z
      · simp only [if_neg h2]
        exact dj j k hjk hj hk b hb
  · rw [get_set] at q
    by_cases hij : i = r.1 ∧ i < ds.length
    · rw [if_pos hij] at q
      cases q
    · rw [if_neg hij] at q
      exact s.fx r hr t q
theorem d_frz (i : Nat) (h : PSs X rest (qS X.K c g)) : PSs X rest (qS X.K c (frzS i g)) := pss_imp h fun D σ H ⟨ds, F, s, w⟩ => by
  unfold frzS at w
  cases hi : ds[i]? with
  | none => rw [hi] at w; exact w.elim
  | some x =>
    rw [hi] at w
    cases x with
    | ow d =>
      obtain ⟨F', f', s'⟩ := s.frz hi
      exact ⟨_, F', s', wS_mono f' w⟩
    | _ => exact w.elim
/-! x = e -/
def setS (i : Nat) (f : ES) : DS → Out := fun ds => toO (f ds) fun d => .nx (ds.set i (.im d))
def setN (i : Nat) (f : ES) : DS → Out := fun ds => toO (f ds) fun d => .nx (ds.set i (.ow d))
theorem Stt.setNew {K : PySem.W.Frag} {F H F1 H1 : Hp} {σ : L2.St} {ds : DS} {i : Nat} {p : Addr} {d : PyData} (s : Stt K c F H σ ds) (g : Grow c.T F H F1 H1) (hp : Fr H p) (hF : Fr F1 p) (ho : Own K F1 H1 p d) : Stt K c F1 H1 (σ.set i (some (.ref p))) (ds.set i (.ow d)) :=
  s.putNew g (fq := [p]) ⟨p, rfl, rfl, s.gr.hh.fr hp, hF, ho⟩ (fun b hb => by rw [List.mem_singleton.mp hb]; exact hp) fun _ _ _ _ z => by cases z
theorem d_set (i : Nat) {x : Str} {p' : Pos} (hN : X.N.Nodup) (he : PE X e (qP X.K c f)) (hi : X.N[i]? = some x := by rfl) (hx : Loc X.env.scope x := by first | exact Or.inl rfl | exact Or.inr rfl) (hs : swapsWith e (some (.Name x p')) pos.line X.env = pure false := by rfl) (hf : X.fn x = true ∨ X.env.scope.names.lookup x = some .local := by first | exact .inl rfl | exact .inr rfl | assumption) :
    PS X (.Assign [.Name x p'] e pos) (qS X.K c (setS i f)) := ps_imp (ps_set hN hi hx he hs hf) fun D σ H ⟨ds, F, s, w⟩ => ⟨ds, F, s, wP_toO w fun d v F1 H1 g1 q1 w1 => w1 _ F1 H1 (.refl F1) ((s.grow g1).set q1)⟩
theorem d_setN (i : Nat) {x : Str} {p' : Pos} (hN : X.N.Nodup) (he : PE X e (qN X.K c f)) (hi : X.N[i]? = some x := by rfl) (hx : Loc X.env.scope x := by first | exact Or.inl rfl | exact Or.inr rfl) (hs : swapsWith e (some (.Name x p')) pos.line X.env = pure false := by rfl) (hf : X.fn x = true ∨ X.env.scope.names.lookup x = some .local := by first | exact .inl rfl | exact .inr rfl | assumption) :
    PS X (.Assign [.Name x p'] e pos) (qS X.K c (setN i f)) := ps_imp (ps_set hN hi hx he hs hf) fun D σ H ⟨ds, F, s, w⟩ => ⟨ds, F, s, wN_toO w fun d p F1 H1 g1 q1 q2 q3 w1 => w1 _ F1 H1 (.refl F1) (s.setNew g1 q1 q2 q3)⟩
/-- x = [.. for ..] -/
theorem d_setLcN (i : Nat) {y : Str} {py : Pos} {elt iter : Expr} {ifs : List Expr} {scope : Scope} {own : List (Str × Nat)} {vs : List Nat} {spos : Pos} {fi : DS → R (List PyData)} {k : TgK} {ft : DS → R Bool} {fe : ES} (hc : X.calm = true) (hN : X.N.Nodup) (hi : PI X tg iter (qJ X.K c fi)) (ok : BlkOk X.N X.env.scope scope own)
    (hg : ∀ (s : Shared) (H : Hp) (C : Addr) (cl : List (Str × Addr)) (fp : List Addr), PG (X.blk s H scope (compEnvC scope cl C X.env) fp) tg (tgT X.K k)) (ht : ∀ (s : Shared) (H : Hp) (C : Addr) (cl : List (Str × Addr)) (fp : List Addr), PTs (X.blk s H scope (compEnvC scope cl C X.env) fp) ifs (qB X.K c.calm ft))
    (he : ∀ (s : Shared) (H : Hp) (C : Addr) (cl : List (Str × Addr)) (fp : List Addr), PE (X.blk s H scope (compEnvC scope cl C X.env) fp) elt (qP X.K c.calm fe)) (hk : tgIn k vs) (hvs : own.map (·.2) = vs := by rfl)
    (hy : X.N[i]? = some y := by rfl) (hyl : X.env.scope.names.lookup y = some .local := by rfl) (hsw : swapsWith (.ListComp elt [⟨tg, iter, ifs, 0⟩] scope pos) (some (.Name y py)) spos.line X.env = pure true := by exact sw_true rfl rfl rfl (by decide +kernel)) (hs : ∀ x, foldedSetIterable iter X.env x = pure x := by intro _; rfl) :
    PS X (.Assign [.Name y py] (.ListComp elt [⟨tg, iter, ifs, 0⟩] scope pos) spos) (qS X.K c (setN i (lcS fi vs k ft fe))) :=
  by
  subst hvs
  exact ps_imp (ps_setLc hc hN hy hyl hsw hi ok hg ht he hs) fun D σ H ⟨ds, F, s, w⟩ => t_lc hk ⟨ds, F, s, wN_toO w fun d p F1 H1 g1 q1 q2 q3 w1 => w1 _ F1 H1 (.refl F1) (s.setNew g1 q1 q2 q3)⟩
theorem d_setLc (i : Nat) {y : Str} {py : Pos} {elt iter : Expr} {ifs : List Expr} {scope : Scope} {own : List (Str × Nat)} {vs : List Nat} {spos : Pos} {fi : DS → R (List PyData)} {k : TgK} {ft : DS → R Bool} {fe : ES} (hc : X.calm = true) (hN : X.N.Nodup) (hi : PI X tg iter (qJ X.K c fi)) (ok : BlkOk X.N X.env.scope scope own)
    (hg : ∀ (s : Shared) (H : Hp) (C : Addr) (cl : List (Str × Addr)) (fp : List Addr), PG (X.blk s H scope (compEnvC scope cl C X.env) fp) tg (tgT X.K k)) (ht : ∀ (s : Shared) (H : Hp) (C : Addr) (cl : List (Str × Addr)) (fp : List Addr), PTs (X.blk s H scope (compEnvC scope cl C X.env) fp) ifs (qB X.K c.calm ft))
    (he : ∀ (s : Shared) (H : Hp) (C : Addr) (cl : List (Str × Addr)) (fp : List Addr), PE (X.blk s H scope (compEnvC scope cl C X.env) fp) elt (qP X.K c.calm fe)) (hk : tgIn k vs) (hvs : own.map (·.2) = vs := by rfl)
    (hy : X.N[i]? = some y := by rfl) (hyl : X.env.scope.names.lookup y = some .local := by rfl) (hsw : swapsWith (.ListComp elt [⟨tg, iter, ifs, 0⟩] scope pos) (some (.Name y py)) spos.line X.env = pure true := by exact sw_true rfl rfl rfl (by decide +kernel)) (hs : ∀ x, foldedSetIterable iter X.env x = pure x := by intro _; rfl) :
    PS X (.Assign [.Name y py] (.ListComp elt [⟨tg, iter, ifs, 0⟩] scope pos) spos) (qS X.K c (setS i (lcS fi vs k ft fe))) :=
  by
  subst hvs
  exact ps_imp (ps_setLc hc hN hy hyl hsw hi ok hg ht he hs) fun D σ H ⟨ds, F, s, w⟩ => t_lc hk ⟨ds, F, s, by
    unfold setS at w
    cases hf : lcS fi (own.map (·.2)) k ft fe ds with
    | bad => rw [hf] at w; exact w
    | err x => rw [hf] at w; exact w
    | ok d =>
      rw [hf] at w
      intro p F1 H1 g1 q1 q2 q3
      have w1 := wS_mono (K := X.K) (c := c) (D := D) g1.ff w
      cases d with
      | list xs =>
        obtain ⟨vs, k1, k2⟩ := q3
        have g3 := g1.frz q1 q2 k1
        exact w _ _ H1 g3.ff ((s.grow g3).set (.lst (.of upd_same) (k2.mono (same_new q2))))
      | dict xs =>
        obtain ⟨vs, k1, k2⟩ := q3
        have g3 := g1.frz q1 q2 k1
        exact w _ _ H1 g3.ff ((s.grow g3).set (.dct (.of upd_same) (k2.mono (same_new q2))))
      | _ => exact q3.elim⟩
/-! a, b = x, y -/
def parPP (i j : Nat) (f g : ES) : DS → Out := fun ds => toO (f ds) fun d => toO (g ds) fun e => .nx ((ds.set i (.im d)).set j (.im e))
def parNP (i j : Nat) (f g : ES) : DS → Out := fun ds => toO (f ds) fun d => toO (g ds) fun e => .nx ((ds.set i (.ow d)).set j (.im e))
def parPN (i j : Nat) (f g : ES) : DS → Out := fun ds => toO (f ds) fun d => toO (g ds) fun e => .nx ((ds.set i (.im d)).set j (.ow e))
def parNN (i j : Nat) (f g : ES) : DS → Out := fun ds => toO (f ds) fun d => toO (g ds) fun e => .nx ((ds.set i (.ow d)).set j (.ow e))
section
variable {i j : Nat} {x y : Str} {px py pt pt2 : Pos} {kt k2 : Nat}
theorem d_parPP (i j : Nat) (hc : X.calm = true) (hN : X.N.Nodup) (ha : PE X a (qP X.K c fa)) (hb : PE X b (qP X.K c fb)) (hij : i ≠ j := by decide) (hi : X.N[i]? = some x := by rfl) (hj : X.N[j]? = some y := by rfl)
    (hx : X.env.scope.names.lookup x = some .local := by rfl) (hy : X.env.scope.names.lookup y = some .local := by rfl)
    (hs1 : starEach [a, b] X.env = (false, eval a X.env) :: starEach [b] X.env := by rfl) (hs2 : starEach [b] X.env = (false, eval b X.env) :: starEach [] X.env := by rfl)
    (hw : swappedStores [.Tuple [.Name x px, .Name y py] kt pt] (.Tuple [a, b] k2 pt2) X.env = pure (some [x, y]) := by rfl)
    (hs : swapsWithSole [.Tuple [.Name x px, .Name y py] kt pt] (.Tuple [a, b] k2 pt2) pos.line X.env = pure false := by rfl) :
    PS X (.Assign [.Tuple [.Name x px, .Name y py] kt pt] (.Tuple [a, b] k2 pt2) pos) (qS X.K c (parPP i j fa fb)) :=
  ps_imp (ps_par hc hN hi hj hij hx hy (pa_cons ha (pa_cons hb pa_nil hs2) hs1) hw hs) fun D σ H ⟨ds, F, s, w⟩ => ⟨ds, F, s, wP_toO w fun d v F1 H1 g1 q1 w1 => ⟨ds, F1, s.grow g1, wP_toO w1 fun d2 v2 F2 H2 g2 q2 w2 =>
    ⟨v, v2, rfl, w2 _ F2 H2 (.refl F2) ((((s.grow g1).grow g2).set (q1.mono g2.ff)).set q2)⟩⟩⟩
theorem d_parNP (i j : Nat) (hc : X.calm = true) (hN : X.N.Nodup) (ha : PE X a (qN X.K c fa)) (hb : PE X b (qP X.K c fb)) (hij : i ≠ j := by decide) (hi : X.N[i]? = some x := by rfl) (hj : X.N[j]? = some y := by rfl)
    (hx : X.env.scope.names.lookup x = some .local := by rfl) (hy : X.env.scope.names.lookup y = some .local := by rfl)
    (hs1 : starEach [a, b] X.env = (false, eval a X.env) :: starEach [b] X.env := by rfl) (hs2 : starEach [b] X.env = (false, eval b X.env) :: starEach [] X.env := by rfl)
    (hw : swappedStores [.Tuple [.Name x px, .Name y py] kt pt] (.Tuple [a, b] k2 pt2) X.env = pure (some [x, y]) := by rfl)
    (hs : swapsWithSole [.Tuple [.Name x px, .Name y py] kt pt] (.Tuple [a, b] k2 pt2) pos.line X.env = pure false := by rfl) :
    PS X (.Assign [.Tuple [.Name x px, .Name y py] kt pt] (.Tuple [a, b] k2 pt2) pos) (qS X.K c (parNP i j fa fb)) :=
  ps_imp (ps_par hc hN hi hj hij hx hy (pa_cons ha (pa_cons hb pa_nil hs2) hs1) hw hs) fun D σ H ⟨ds, F, s, w⟩ => ⟨ds, F, s, wN_toO w fun d p F1 H1 g1 n1 n2 n3 w1 => ⟨ds, F1, s.grow g1, wP_toO w1 fun d2 v2 F2 H2 g2 q2 w2 =>
    ⟨_, v2, rfl, w2 _ F2 H2 (.refl F2) (((s.setNew g1 n1 n2 n3).grow g2).set q2)⟩⟩⟩
theorem d_parPN (i j : Nat) (hc : X.calm = true) (hN : X.N.Nodup) (ha : PE X a (qP X.K c fa)) (hb : PE X b (qN X.K c fb)) (hij : i ≠ j := by decide) (hi : X.N[i]? = some x := by rfl) (hj : X.N[j]? = some y := by rfl)
    (hx : X.env.scope.names.lookup x = some .local := by rfl) (hy : X.env.scope.names.lookup y = some .local := by rfl)
    (hs1 : starEach [a, b] X.env = (false, eval a X.env) :: starEach [b] X.env := by rfl) (hs2 : starEach [b] X.env = (false, eval b X.env) :: starEach [] X.env := by rfl)
    (hw : swappedStores [.Tuple [.Name x px, .Name y py] kt pt] (.Tuple [a, b] k2 pt2) X.env = pure (some [x, y]) := by rfl)
    (hs : swapsWithSole [.Tuple [.Name x px, .Name y py] kt pt] (.Tuple [a, b] k2 pt2) pos.line X.env = pure false := by rfl) :
    PS X (.Assign [.Tuple [.Name x px, .Name y py] kt pt] (.Tuple [a, b] k2 pt2) pos) (qS X.K c (parPN i j fa fb)) :=
  ps_imp (ps_par hc hN hi hj hij hx hy (pa_cons ha (pa_cons hb pa_nil hs2) hs1) hw hs) fun D σ H ⟨ds, F, s, w⟩ => ⟨ds, F, s, wP_toO w fun d v F1 H1 g1 q1 w1 => ⟨ds, F1, s.grow g1, wN_toO w1 fun d2 p F2 H2 g2 n1 n2 n3 w2 =>
    ⟨_, _, rfl, w2 _ F2 H2 (.refl F2) (((s.grow g1).set q1).setNew g2 n1 n2 n3)⟩⟩⟩
theorem d_parNN (i j : Nat) (hc : X.calm = true) (hN : X.N.Nodup) (ha : PE X a (qN X.K c fa)) (hb : PE X b (qN X.K c fb)) (hij : i ≠ j := by decide) (hi : X.N[i]? = some x := by rfl) (hj : X.N[j]? = some y := by rfl)
    (hx : X.env.scope.names.lookup x = some .local := by rfl) (hy : X.env.scope.names.lookup y = some .local := by rfl)
    (hs1 : starEach [a, b] X.env = (false, eval a X.env) :: starEach [b] X.env := by rfl) (hs2 : starEach [b] X.env = (false, eval b X.env) :: starEach [] X.env := by rfl)
    (hw : swappedStores [.Tuple [.Name x px, .Name y py] kt pt] (.Tuple [a, b] k2 pt2) X.env = pure (some [x, y]) := by rfl)
    (hs : swapsWithSole [.Tuple [.Name x px, .Name y py] kt pt] (.Tuple [a, b] k2 pt2) pos.line X.env = pure false := by rfl) :
    PS X (.Assign [.Tuple [.Name x px, .Name y py] kt pt] (.Tuple [a, b] k2 pt2) pos) (qS X.K c (parNN i j fa fb)) :=
  ps_imp (ps_par hc hN hi hj hij hx hy (pa_cons ha (pa_cons hb pa_nil hs2) hs1) hw hs) fun D σ H ⟨ds, F, s, w⟩ => ⟨ds, F, s, wN_toO w fun d p F1 H1 g1 n1 n2 n3 w1 => ⟨ds, F1, s.grow g1, wN_toO w1 fun d2 p2 F2 H2 g2 m1 m2 m3 w2 =>
    ⟨_, _, rfl, w2 _ F2 H2 (.refl F2) ((s.setNew g1 n1 n2 n3).setNew g2 m1 m2 m3)⟩⟩⟩
end
/-! if, return, e -/
def ifS (ft : DS → R Bool) (g1 g2 : DS → Out) : DS → Out := fun ds => toB (ft ds) fun x => if x = true then g1 ds else g2 ds
theorem d_if {ft : DS → R Bool} {bs os : List Stmt} (hc : PT X cc (qB X.K c ft)) (h1 : PSs X bs (qS X.K c g1)) (h2 : PSs X os (qS X.K c g2)) : PS X (.If cc bs os pos) (qS X.K c (ifS ft g1 g2)) :=
  ps_imp (ps_if hc h1 h2) fun D σ H ⟨ds, F, s, w⟩ => ⟨ds, F, s, wB_toB w fun d F1 H1 g1 w1 => by
    cases d with
    | true =>
      rw [if_pos rfl] at w1 ⊢
      exact ⟨ds, F1, s.grow g1, w1⟩
    | false =>
      rw [if_neg Bool.false_ne_true] at w1 ⊢
      exact ⟨ds, F1, s.grow g1, w1⟩⟩
def retS (f : ES) : DS → Out := fun ds => toO (f ds) .rt
theorem d_ret (he : PE X e (qP X.K c f)) : PS X (.Return (some e) pos) (qS X.K c (retS f)) := ps_imp (ps_ret he) fun D σ H ⟨ds, F, s, w⟩ => ⟨ds, F, s, wP_toO w fun d v F1 H1 g1 q1 w1 => w1 v F1 H1 (s.gr.trans g1) q1⟩
def exS (f : ES) : DS → Out := fun ds => toO (f ds) fun _ => .nx ds
theorem d_ex (he : PE X e (qT X.K c f)) (hs : swapsWith e none pos.line X.env = pure false := by rfl) : PS X (.Expr e pos) (qS X.K c (exS f)) := ps_imp (ps_expr he hs) fun D σ H ⟨ds, F, s, w⟩ => ⟨ds, F, s, wT_toO w fun d v F1 H1 g1 q1 w1 => w1 σ F1 H1 (.refl F1) (s.grow g1)⟩
theorem d_pass : PS X (.Pass pos) (qS X.K c nxS) := ps_imp ps_pass fun D σ H ⟨ds, F, s, w⟩ => w σ F H (.refl F) s
/-! x.append(e) -/
def appS (i : Nat) (f : ES) : DS → Out := fun ds => match ds[i]? with
  | some (.ow (.list xs)) => toO (f ds) fun d => if xs.length ≤ big then .nx (ds.set i (.ow (.list (xs ++ [d])))) else .bad
  | _ => .bad
theorem t_app {K : PySem.W.Frag} {i : Nat} {D : Ends} {σ : L2.St} {H : Hp} (h : qS K c (appS i f) D σ H) : tDrop (tBM K "list" rAppend (tVar i) (tCons (qP K c f) tNil)) D σ H := by
  obtain ⟨ds, F, s, w⟩ := h
  unfold appS at w
  split at w
  · rename_i xs hi
    obtain ⟨p, e1, e2, e3, vs, e4, e5⟩ := s.sl i _ hi
    refine ⟨.ref p, e1, .inl ⟨rfl, _, .inl (.inl e4)⟩, ds, F, s, wP_toO w fun d v F1 H1 g1 q1 w1 => ?_⟩
    by_cases hb : xs.length ≤ big
    · rw [if_pos hb] at w1
      refine ⟨p, vs, v, rfl, rfl, (g1.hh.keep _ _ e4 rfl), by rw [e5.length]; exact big_lt hb, w1 σ F1 _ (.refl F1) ((s.grow g1).mut hi e1 ⟨vs ++ [v], upd_same, (e5.mono g1.ff).append (.cons q1 .nil)⟩)⟩
    · rw [if_neg hb] at w1
      exact w1.elim
  · exact w.elim
theorem d_app (i : Nat) {x : Str} {p1 apos cpos : Pos} (he : PE X e (qP X.K c f)) (hN : X.N[i]? = some x := by rfl) (hv : Vis X.env.scope x := by first | exact Or.inl rfl | exact Or.inr (Or.inl rfl) | exact Or.inr (Or.inr rfl)) (hd : (x == ("__debug__" : Str)) = false := by decide) (hcd : (x == ("__classdict__" : Str)) = false := by decide)
    (hbase : attributeBase (.Name x p1) "append" X.env (eval (.Name x p1) X.env) = eval (.Name x p1) X.env := by rfl)
    (hfew : ((backTo cpos (starEach [e] X.env)).all (fun x => !x.1) && (backToKw cpos (keywordEach [] X.env)).all (fun x => x.1.isSome) && decide ([e].length + ([] : List Keyword).length + (if ([] : List Keyword).isEmpty then 0 else 1) < 30)) = true := by rfl)
    (hline : (apos.endLine == cpos.line) = true := by rfl) (hs1 : starEach [e] X.env = (false, eval e X.env) :: starEach [] X.env := by rfl) (hpl : (backTo cpos (starEach [] X.env)).any (·.1) = false := by rfl)
    (hs : swapsWith (.Call (.Attribute (.Name x p1) "append" apos) [e] [] cpos) none pos.line X.env = pure false := by rfl) : PS X (.Expr (.Call (.Attribute (.Name x p1) "append" apos) [e] [] cpos) pos) (qS X.K c (appS i f)) :=
  ps_imp (ps_expr (pe_bm PySem.F.plainAttrs_list PySem.F.slot_list_append PySem.F.type_list_append mt_append (pe_var hN hv hd hcd) (pa_cons he pa_nil hs1) hbase hfew hline hs1 hpl) hs) fun D σ H h => t_app h
/-! x.extend(e), e a new list -/
def extS (i : Nat) (f : ES) : DS → Out := fun ds => match ds[i]? with
  | some (.ow (.list xs)) => toO (f ds) fun d => match d with
    | .list ys => if xs.length + ys.length ≤ big then .nx (ds.set i (.ow (.list (xs ++ ys)))) else .bad
    | _ => .bad
  | _ => .bad
theorem t_ext {K : PySem.W.Frag} {i : Nat} {D : Ends} {σ : L2.St} {H : Hp} (h : qS K c (extS i f) D σ H) : tDrop (tBM K "list" rExtend (tVar i) (tCons (qN K c f) tNil)) D σ H := by
  obtain ⟨ds, F, s, w⟩ := h
  unfold extS at w
  split at w
  · rename_i xs hi
    obtain ⟨p, e1, e2, e3, vs, e4, e5⟩ := s.sl i _ hi
    refine ⟨.ref p, e1, .inl ⟨rfl, _, .inl (.inl e4)⟩, ds, F, s, wN_toO w fun d q F1 H1 g1 n1 n2 n3 w1 => ?_⟩
    cases d with
    | list ys =>
      obtain ⟨ws, k1, k2⟩ := n3
      by_cases hb : xs.length + ys.length ≤ big
      · simp only [if_pos hb] at w1
        refine ⟨p, q, vs, ws, rfl, rfl, (g1.hh.keep _ _ e4 rfl), k1, by rw [e5.length, k2.length]; exact big_le hb, w1 σ F1 _ (.refl F1) ((s.grow g1).mut hi e1 ⟨vs ++ ws, upd_same, (e5.mono g1.ff).append k2⟩)⟩
      · simp only [if_neg hb] at w1
        exact w1.elim
    | _ => exact w1.elim
  · exact w.elim
/-! d[k] = e -/
def dputS (i : Nat) (fk fv : ES) : DS → Out := fun ds => toO (fv ds) fun v => match ds[i]? with
  | some (.ow (.dict kvs)) => toO (fk ds) fun k => match keyOf k with
    | some kk => if kvs.length ≤ big then .nx (ds.set i (.ow (.dict (dput kvs kk v)))) else .bad
    | none => .bad
  | _ => .bad
theorem t_dput {K : PySem.W.Frag} {i : Nat} {D : Ends} {σ : L2.St} {H : Hp} (h : qS K c (dputS i fa fb) D σ H) : sDPut (tVar i) (qT K c fa) (qP K c fb) D σ H := by
  obtain ⟨ds, F, s, w⟩ := h
  refine ⟨ds, F, s, wP_toO w fun d v F1 H1 g1 q1 w1 => ?_⟩
  split at w1
  · rename_i kvs hi
    have s1 := s.grow g1
    obtain ⟨p, e1, e2, e3, l, e4, e5⟩ := s1.sl i _ hi
    refine ⟨.ref p, e1, ds, F1, s1, wT_toO w1 fun d2 v2 F2 H2 g2 q2 w2 => ?_⟩
    cases hk : keyOf d2 with
    | none => simp only [hk] at w2; exact w2.elim
    | some kk =>
      simp only [hk] at w2
      have ey := kV_of q2 hk
      subst ey
      by_cases hb : kvs.length ≤ big
      · rw [if_pos hb] at w2
        exact ⟨p, _, rfl, DPut.k ((g2.hh.keep _ _ e4 rfl)) (by rw [e5.length]; exact big_lt hb), w2 σ F2 _ (.refl F2) ((s1.grow g2).mut hi e1 ⟨_, upd_same, (e5.mono g2.ff).put (q1.mono g2.ff)⟩)⟩
      · rw [if_neg hb] at w2
        exact w2.elim
  · exact w1.elim
theorem d_dput (i : Nat) {x : Str} {p1 pos' : Pos} (hu : X.A.units + 1 < cLine) (hk : PE X a (qT X.K c fa)) (hv : PE X b (qP X.K c fb)) (hN : X.N[i]? = some x := by rfl) (hvis : Vis X.env.scope x := by first | exact Or.inl rfl | exact Or.inr (Or.inl rfl) | exact Or.inr (Or.inr rfl)) (hd : (x == ("__debug__" : Str)) = false := by decide) (hcd : (x == ("__classdict__" : Str)) = false := by decide)
    (hs : swapsWith b (some (.Subscript (.Name x p1) a pos')) pos.line X.env = pure false := by rfl) : PS X (.Assign [.Subscript (.Name x p1) a pos'] b pos) (qS X.K c (dputS i fa fb)) :=
  ps_imp (ps_dput hu (pe_var hN hvis hd hcd) hk hv hs) fun D σ H h => t_dput h
/-! for -/
def forGo (k : TgK) (b : DS → Out) : List PyData → DS → Out
  | [], ds => .nx ds
  | x :: xs, ds => match tgD k x ds with
    | .ok ds1 => (match b ds1 with
      | .nx ds2 => forGo k b xs ds2
      | .ct ds2 => forGo k b xs ds2
      | .bk ds2 => .nx ds2
      | o => o)
    | _ => .bad
def forS (fi : DS → R (List PyData)) (k : TgK) (b : DS → Out) : DS → Out := fun ds => match fi ds with
  | .bad => .bad
  | .err x => .err x
  | .ok items => forGo k b items ds
theorem t_for {K : PySem.W.Frag} {fi : DS → R (List PyData)} {k : TgK} {b : DS → Out} {D : Ends} {σ : L2.St} {H : Hp} (h : qS K c (forS fi k b) D σ H) : tFor (qI K c fi) (tgT K k) (qS K c b) D σ H := by
  obtain ⟨ds, F, s, w⟩ := h
  refine ⟨ds, F, s, ?_⟩
  unfold forS at w
  cases hf : fi ds with
  | bad => rw [hf] at w; exact w
  | err x => rw [hf] at w; exact w
  | ok items =>
    rw [hf] at w
    intro J F1 H1 g1 wk
    refine ⟨fun i m σ' H' => m = items.length - i ∧ i ≤ items.length ∧ ∃ ds' F', Stt K c F' H' σ' ds' ∧ Sam F1 F' ∧ wS K c F1 D (forGo k b (items.drop i) ds'), ⟨items.length, by simp, Nat.zero_le _, ds, F1, s.grow g1, .refl _, wS_mono g1.ff w⟩, ?_⟩
    rintro i m σ' H' ⟨rfl, hi, ds', F', s', f', w'⟩
    by_cases hlt : i < items.length
    · have ed : items.drop i = items[i] :: items.drop (i + 1) := List.drop_eq_getElem_cons hlt
      have ei : items[i]? = some items[i] := List.getElem?_eq_getElem hlt
      obtain ⟨go, yl⟩ := wk.go i F' H' _ f' s'.fh ei
      rw [ed] at w'
      unfold forGo at w'
      cases ht : tgD k items[i] ds' with
      | bad => simp only [ht] at w'; exact w'.elim
      | err x => simp only [ht] at w'; exact w'.elim
      | ok ds1 =>
        simp only [ht] at w'
        refine .inr ⟨go, fun σ2 H2 => ∃ ds2 F2, Stt K c F2 H2 σ2 ds2 ∧ Sam F1 F2 ∧ wS K c F1 D (forGo k b (items.drop (i + 1)) ds2), fun σ2 H2 ⟨ds2, F2, s2, f2, w2⟩ => ⟨items.length - (i + 1), by omega, rfl, hlt, ds2, F2, s2, f2, w2⟩, fun x H2 y => ?_⟩
        obtain ⟨F2, gT, q2⟩ := yl x H2 y
        have g2 := gT c.T
        obtain ⟨σ3, k1, s3, _⟩ := tg_run (s'.grow g2) q2 ht
        refine k1 _ ⟨ds1, F2, s3, ?_⟩
        have f2 : Sam F1 F2 := f'.trans g2.ff
        cases hb : b ds1 with
        | bad => simp only [hb] at w'; exact w'.elim
        | nx ds2 =>
          simp only [hb] at w'
          exact fun σ4 F4 H4 f4 s4 => ⟨ds2, F4, s4, f2.trans f4, w'⟩
        | ct ds2 =>
          simp only [hb] at w'
          exact fun σ4 F4 H4 f4 s4 => ⟨ds2, F4, s4, f2.trans f4, w'⟩
        | bk ds2 =>
          simp only [hb] at w'
          exact fun σ4 F4 H4 f4 s4 => w' σ4 F4 H4 (f2.trans f4) s4
        | rt d => simp only [hb] at w'; exact w'
        | err x => simp only [hb] at w'; exact w'
    · have e : i = items.length := by omega
      subst e
      rw [List.drop_length] at w'
      exact .inl ⟨wk.stop _ F' H' f' s'.fh (Nat.le_refl _), w' σ' F' H' f' s'⟩
theorem d_for {iter : Expr} {body : List Stmt} {fi : DS → R (List PyData)} {k : TgK} {gb : DS → Out} (hp : PassesOwn (model X.prog X.w) X.A X.env X.xe) (hc : X.calm = true) (hi : PI X tg iter (qI X.K c fi)) (hg : PG X tg (tgT X.K k)) (hb : PSs X body (qS X.K c gb)) (hs : ∀ x, foldedSetIterable iter X.env x = pure x := by intro _; rfl) :
    PS X (.For tg iter body [] pos) (qS X.K c (forS fi k gb)) := ps_imp (ps_for hp hc hi hg hb hs) fun D σ H h => t_for h
/-! while -/
def whGo (ft : DS → R Bool) (b : DS → Out) : Nat → DS → Out
  | 0, _ => .bad
  | n + 1, ds => toB (ft ds) fun x => if x = true then (match b ds with
      | .nx ds2 => whGo ft b n ds2
      | .ct ds2 => whGo ft b n ds2
      | .bk ds2 => .nx ds2
      | o => o) else .nx ds
theorem t_wh {K : PySem.W.Frag} {n : Nat} {ft : DS → R Bool} {b : DS → Out} {D : Ends} {σ : L2.St} {H : Hp} (h : qS K c (whGo ft b n) D σ H) : tWhile (qB K c ft) (qS K c b) D σ H := by
  obtain ⟨ds, F, s, w⟩ := h
  refine ⟨fun m σ' H' => ∃ ds' F', Stt K c F' H' σ' ds' ∧ wS K c F' D (whGo ft b m ds'), ⟨n, ds, F, s, w⟩, ?_⟩
  rintro m σ' H' ⟨ds', F', s', w'⟩
  cases m with
  | zero => exact w'.elim
  | succ m =>
    unfold whGo at w'
    refine ⟨ds', F', s', wB_toB w' fun d F1 H1 g1 w1 => ?_⟩
    cases d with
    | false =>
      rw [if_neg Bool.false_ne_true] at w1 ⊢
      exact w1 σ' F1 H1 (.refl _) (s'.grow g1)
    | true =>
      rw [if_pos rfl] at w1 ⊢
      refine ⟨fun σ2 H2 => ∃ ds2 F2, Stt K c F2 H2 σ2 ds2 ∧ wS K c F2 D (whGo ft b m ds2), fun σ2 H2 ⟨ds2, F2, s2, w2⟩ => ⟨m, Nat.lt_succ_self m, ds2, F2, s2, w2⟩, ds', F1, s'.grow g1, ?_⟩
      cases hb : b ds' with
      | bad => simp only [hb] at w1; exact w1.elim
      | nx ds2 =>
        simp only [hb] at w1
        exact fun σ4 F4 H4 f4 s4 => ⟨ds2, F4, s4, wS_mono f4 w1⟩
      | ct ds2 =>
        simp only [hb] at w1
        exact fun σ4 F4 H4 f4 s4 => ⟨ds2, F4, s4, wS_mono f4 w1⟩
      | bk ds2 =>
        simp only [hb] at w1
        exact fun σ4 F4 H4 f4 s4 => w1 σ4 F4 H4 f4 s4
      | rt d => simp only [hb] at w1; exact w1
      | err x => simp only [hb] at w1; exact w1
theorem d_wh (n : Nat) {body : List Stmt} {ft : DS → R Bool} {gb : DS → Out} (hp : PassesOwn (model X.prog X.w) X.A X.env X.xe) (hc : PT X cc (qB X.K c ft)) (hb : PSs X body (qS X.K c gb)) : PS X (.While cc body [] pos) (qS X.K c (whGo ft gb n)) := ps_imp (ps_while hp hc hb) fun D σ H h => t_wh h
/-! raise X('..') -/
def errS (x : Str) : DS → Out := fun _ => .err ⟨x, none⟩
theorem d_raise {x m : Str} {j : Nat} {p p2 cpos : Pos} (hc : X.calm = true) (tk : Takes X (fun cls d _ H => c.E cls d H)) (q : PySem.W.excIn X.K (c.cl x) [.type "ValueError", .type "Exception", .type "BaseException", .type "object"] "ValueError.__new__" = true) (gC : X.mg x = some (.ref (c.cl x))) (kC : PySem.W.keepIn X.K (.ref (c.cl x)) = true)
    (h1 : PySem.W.subIn X.K (.ref (c.cl x)) (.type "BaseException") = some true) (h2 : PySem.W.typeIn X.K (.ref (c.cl x)) = some (.type "type")) (hg : Gl X x := by rfl) (hdb : (x == ("__debug__" : Str)) = false := by decide) :
    PS X (.Raise (some (.Call (.Name x p) [.Constant (.str m) j p2] [] cpos)) none pos) (qS X.K c (errS x)) :=
  ps_imp (ps_raise hc tk (pmk_own PySem.F.excBase_ValueError q gC kC (raises_own h1 h2) hg hdb)) fun D σ H ⟨ds, F, s, w⟩ => w none H s.gr.hh s.tb rfl
/-! ### defs -/
def spS (T : List (Addr × Str)) (K : PySem.W.Frag) (cl : Str → Addr) (ms : List Bool) (f : List PyData → R PyData) : Sp := fun vs H Q E => ∃ F ds, Sam F H ∧ LamX.Tabs T H ∧ AOk K F H ms vs ds ∧ match f ds with
  | .bad => False
  | .ok d => ∀ v F' H', Grow T F H F' H' → Dq K F' v d → Q v H'
  | .err x => ∀ d H', Sam H H' → LamX.Tabs T H' → ErOk H' x d → E (.ref (cl x.nm)) d H'
def startS (n : Nat) : List Bool → List PyData → DS
  | true :: ms, d :: ds => .bw d :: startS (n - 1) ms ds
  | false :: ms, d :: ds => .im d :: startS (n - 1) ms ds
  | _, _ => List.replicate n .no
def bodyS (n : Nat) (ms : List Bool) (g : DS → Out) : List PyData → R PyData := fun args => match g (startS n ms args) with
  | .nx _ => .ok .none
  | .rt d => .ok d
  | .err x => .err x
  | _ => .bad
theorem start_get {K : PySem.W.Frag} {c : Bk} {F : Hp} : ∀ {ms : List Bool} {vs : List V} {ds : List PyData} {n : Nat}, AOk K F c.H0 ms vs ds → ms.length ≤ n → (vs.map some ++ List.replicate (n - vs.length) none : L2.St).length = (startS n ms ds).length ∧
    (∀ (i : Nat) (s : Sl), (startS n ms ds)[i]? = some s → SlAt K c F c.H0 (vs.map some ++ List.replicate (n - vs.length) none : L2.St)[i]? [] s)
  | [], [], [], n, _, _ => by
    refine ⟨by simp [startS], fun i s h => ?_⟩
    have e : s ∈ List.replicate n Sl.no := List.mem_of_getElem? h
    rw [List.mem_replicate] at e
    rw [e.2]
    rfl
  | true :: ms, v :: vs, d :: ds, 0, _, h => by simp at h
  | false :: ms, v :: vs, d :: ds, 0, _, h => by simp at h
  | true :: ms, v :: vs, d :: ds, n + 1, ⟨a, b⟩, h => by
    obtain ⟨k1, k2⟩ := start_get (n := n) b (by simpa using h)
    have e : n + 1 - (v :: vs).length = n - vs.length := by simp
    rw [e]
    refine ⟨by simpa [startS] using k1, fun i s q => ?_⟩
    cases i with
    | zero =>
      cases q
      exact ⟨rfl, v, rfl, a⟩
    | succ i => exact k2 i s q
  | false :: ms, v :: vs, d :: ds, n + 1, ⟨a, b⟩, h => by
    obtain ⟨k1, k2⟩ := start_get (n := n) b (by simpa using h)
    have e : n + 1 - (v :: vs).length = n - vs.length := by simp
    rw [e]
    refine ⟨by simpa [startS] using k1, fun i s q => ?_⟩
    cases i with
    | zero =>
      cases q
      exact ⟨rfl, v, rfl, a⟩
    | succ i => exact k2 i s q
  | [], [], _ :: _, _, z, _ => z.elim
  | [], _ :: _, _, _, z, _ => z.elim
  | true :: _, [], _, _, z, _ => z.elim
  | false :: _, [], _, _, z, _ => z.elim
  | true :: _, _ :: _, [], _, z, _ => z.elim
  | false :: _, _ :: _, [], _, z, _ => z.elim
theorem stt_start {K : PySem.W.Frag} {c : Bk} {N : List Str} {ms : List Bool} {vs : List V} {ds : List PyData} (f : Sam c.F0 c.H0) (ft : LamX.Tabs c.T c.H0) (h : AOk K c.F0 c.H0 ms vs ds) (hl : ms.length ≤ N.length) (hfx : c.fx = []) : Stt K c c.F0 c.H0 (start N vs) (startS N.length ms ds) := by
  obtain ⟨k1, k2⟩ := start_get h hl
  refine ⟨.refl f, ft, k1, ⟨fun _ => [], k2, fun _ _ _ _ _ _ z => by cases z⟩, fun r hr => ?_⟩
  rw [hfx] at hr
  cases hr
section
variable {P : Program} {w : World} {K : PySem.W.Frag} {mg : Str → Option Value} {base : Heap} {x qual : Str} {params : Arguments} {body : List Stmt} {scope : Scope} {dvs : List V} {kws : List (Str × V)} {fA : Addr} {fd : FuncData}
/-- a def keeps the promise that its body is worth -/
theorem fn_mk {T : List (Addr × Str)} {N ps : List Str} {k : Nat} {cl : Str → Addr} {ms : List Bool} {g : DS → Out} (F : FunD K x qual params body scope dvs kws fA fd) (S : FnScope N ps scope) (hm : ms.length = ps.length) (hl : ps.length ≤ N.length)
    (h : ∀ (cdv : Value) (A : Around) (outer : List PySem.Env) (s : Shared) (H : Hp) (E : XK) (F0 : Hp), Room k (A.deeper (envOfC qual scope s.heap.objs.size fA cdv)) →
      PSs (cxOf (L2.CX P w) P w K mg base N qual scope fA cdv A outer s H E) body (qS K ⟨T, F0, H, cl, E, []⟩ g)) : FnOk P w K mg base (L2.CX P w) (k + 1) fA fd ps (spS T K cl ms (bodyS N.length ms g)) := by
  refine F.ok S (fun vs H Q E hs => ?_) (fun cdv A outer s H vs Q E hr hs => ?_)
  · obtain ⟨F0, ds, _, _, ha, _⟩ := hs
    rw [ha.len.1, hm]
  · obtain ⟨F0, ds, hF, hT, ha, hw⟩ := hs
    refine ⟨_, h cdv A outer s H E F0 hr, startS N.length ms ds, F0, stt_start (c := ⟨T, F0, H, cl, E, []⟩) hF hT ha (by rw [hm]; exact hl) rfl, ?_⟩
    unfold bodyS at hw
    cases hg : g (startS N.length ms ds) with
    | bad => rw [hg] at hw; exact hw
    | nx ds' =>
      rw [hg] at hw
      exact fun σ F' H' f' s' => hw .non F' H' s'.gr .non
    | rt d => rw [hg] at hw; exact fun v F' H' g' q => hw v F' H' g' q
    | bk d => rw [hg] at hw; exact hw.elim
    | ct d => rw [hg] at hw; exact hw.elim
    | err z => rw [hg] at hw; exact hw
end
/-! ### calls -/
variable {k : Nat} {fA : Addr} {fd : FuncData} {ps : List Str} {x : Str} {p : Pos} {es : List Expr} {ms md : List Bool} {fr : DS → R (List PyData)} {fn : List PyData → R PyData} {dvs : List V} {dds : List PyData} {dvl : List Value}
def callS (fr : DS → R (List PyData)) (fn : List PyData → R PyData) (dds : List PyData) : ES := fun ds => fr ds >>= fun r => fn (r ++ dds)
theorem AOk.append {K : PySem.W.Frag} {F H : Hp} : ∀ {ms ms' : List Bool} {vs vs' : List V} {ds ds' : List PyData}, AOk K F H ms vs ds → AOk K F H ms' vs' ds' → AOk K F H (ms ++ ms') (vs ++ vs') (ds ++ ds')
  | [], _, [], _, [], _, _, h => h
  | true :: _, _, _ :: _, _, _ :: _, _, ⟨a, b⟩, h => ⟨a, AOk.append b h⟩
  | false :: _, _, _ :: _, _, _ :: _, _, ⟨a, b⟩, h => ⟨a, AOk.append b h⟩
  | [], _, [], _, _ :: _, _, z, _ => z.elim
  | [], _, _ :: _, _, _, _, z, _ => z.elim
  | true :: _, _, [], _, _, _, z, _ => z.elim
  | false :: _, _, [], _, _, _, z, _ => z.elim
  | true :: _, _, _ :: _, _, [], _, z, _ => z.elim
  | false :: _, _, _ :: _, _, [], _, z, _ => z.elim
theorem t_call {K : PySem.W.Frag} (hdd : ∀ F H, AOk K F H md dvs dds) {σ : L2.St} {H : Hp} {Q : VK} (h : qP K c (callS fr fn dds) σ H Q) : tCall (spS c.T K c.cl (ms ++ md) fn) dvs c.E (qA K c ms fr) σ H Q := by
  obtain ⟨ds, F, s, w⟩ := h
  refine ⟨ds, F, s, ?_⟩
  unfold callS at w
  cases hf : fr ds with
  | bad => rw [hf] at w; exact w
  | err x => rw [hf] at w; exact w
  | ok r =>
    rw [hf, R.ok_bind] at w
    intro vs F1 H1 g1 q1
    refine ⟨F1, r ++ dds, g1.fh, g1.tb s.tb, q1.append (hdd F1 H1), ?_⟩
    cases hn : fn (r ++ dds) with
    | bad => rw [hn] at w; exact w
    | ok d => rw [hn] at w; exact fun v F2 H2 g2 q2 => w v F2 H2 (g1.trans g2) q2
    | err z => rw [hn] at w; exact fun d2 H2 f2 t2 e2 => w d2 H2 ((s.gr.hh.trans g1.hh).trans f2) t2 e2
theorem d_call (F : FnOk X.prog X.w X.K X.mg X.base (L2.CX X.prog X.w) k fA fd ps (spS c.T X.K c.cl (ms ++ md) fn)) (hr : Room k X.A) (hm : X.mg x = some (.ref fA)) (hk : PySem.W.keepIn X.K (.ref fA) = true) (hb : Binds X.K fd ps dvl) (hd : Vals dvs dvl) (hdd : ∀ F H, AOk X.K F H md dvs dds) (hx : Passes (L2.CX X.prog X.w) X c.E)
    (ha : PA X (e :: es) (qA X.K c ms fr)) (hg : Gl X x := by rfl) (hdb : (x == ("__debug__" : Str)) = false := by decide) (he : starEach (e :: es) X.env = (false, eval e X.env) :: starEach es X.env := by rfl) (hpl : (backTo pos (starEach es X.env)).any (·.1) = false := by rfl) :
    PE X (.Call (.Name x p) (e :: es) [] pos) (qP X.K c (callS fr fn dds)) := pe_imp (pe_call F hr hg hm hk hb hd hx ha hdb he hpl) fun _ _ _ h => t_call hdd h
/-- the common one: all parameters given -/
theorem d_cl (F : FnOk X.prog X.w X.K X.mg X.base (L2.CX X.prog X.w) k fA fd ps (spS c.T X.K c.cl ms fn)) (hr : Room k X.A) (hm : X.mg x = some (.ref fA)) (hk : PySem.W.keepIn X.K (.ref fA) = true) (hb : Binds X.K fd ps []) (hx : Passes (L2.CX X.prog X.w) X c.E)
    (ha : PA X (e :: es) (qA X.K c ms fr)) (hg : Gl X x := by rfl) (hdb : (x == ("__debug__" : Str)) = false := by decide) (he : starEach (e :: es) X.env = (false, eval e X.env) :: starEach es X.env := by rfl) (hpl : (backTo pos (starEach es X.env)).any (·.1) = false := by rfl) :
    PE X (.Call (.Name x p) (e :: es) [] pos) (qP X.K c (callS fr fn [])) := by
  refine d_call (md := []) (dvs := []) ?_ hr hm hk hb .nil (fun _ _ => trivial) hx ha hg hdb he hpl
  rw [List.append_nil]
  exact F
/-- f(e, .., k = v, ..) -/
def callK (fr fk : DS → R (List PyData)) (fn : List PyData → R PyData) : ES := fun ds => fr ds >>= fun r => fk ds >>= fun q => fn (r ++ q)
theorem pk_imp {kws : List Keyword} {t t' : TA} (h : PK X kws t) (i : ∀ σ H Q, t' σ H Q → t σ H Q) : PK X kws t' := ⟨fun p pins s σ H Q I q => h.run p pins s σ H Q I (i σ H Q q)⟩
theorem d_k0 : PK X [] (qA X.K c [] nilA) := pk_imp pk_nil fun σ H Q ⟨ds, F, s, w⟩ => w [] F H (.refl s.fh) trivial
theorem d_kP {kws : List Keyword} {nm : Option Str} {kpos : Pos} (h : PE X e (qP X.K c f)) (hr : PK X kws (qA X.K c ms fr)) : PK X (⟨nm, e, kpos⟩ :: kws) (qA X.K c (false :: ms) (consA f fr)) := by
  refine pk_imp (pk_cons h hr) fun σ H Q hq => ?_
  obtain ⟨ds, F, s, w⟩ := hq
  refine ⟨ds, F, s, ?_⟩
  unfold consA at w
  cases hf : f ds with
  | bad => rw [hf] at w; exact w
  | err x => rw [hf] at w; exact w
  | ok d =>
    rw [hf, R.ok_bind] at w
    intro v F1 H1 g1 q1
    refine ⟨ds, F1, s.grow g1, ?_⟩
    cases hg : fr ds with
    | bad => rw [hg] at w; exact w
    | err x => rw [hg] at w; exact w
    | ok r =>
      rw [hg, R.ok_bind] at w
      intro vs F2 H2 g2 q2
      exact w (v :: vs) F2 H2 (g1.trans g2) ⟨q1.mono g2.ff, q2⟩
theorem d_clK {kws : List Keyword} {ks : List Str} {mk : List Bool} {fk : DS → R (List PyData)} (F : FnOk X.prog X.w X.K X.mg X.base (L2.CX X.prog X.w) k fA fd ps (spS c.T X.K c.cl (ms ++ mk) fn)) (hr : Room k X.A) (hm : X.mg x = some (.ref fA)) (hk : PySem.W.keepIn X.K (.ref fA) = true)
    (hb : KBn X.K fd ps ms.length ks (fun us ws => us ++ ws) (fun vs zs => vs ++ zs)) (hx : Passes (L2.CX X.prog X.w) X c.E) (ha : PA X (e :: es) (qA X.K c ms fr)) (hkw : PK X kws (qA X.K c mk fk)) (hmk : mk.length = ks.length := by rfl) (hg : Gl X x := by rfl)
    (hall : (backToKw pos (keywordEach kws X.env)).all (·.1.isSome) = true := by rfl) (hks : (backToKw pos (keywordEach kws X.env)).filterMap (·.1) = ks := by rfl)
    (hdb : (x == ("__debug__" : Str)) = false := by decide) (he : starEach (e :: es) X.env = (false, eval e X.env) :: starEach es X.env := by rfl)
    (hpl : ((backTo pos (starEach (e :: es) X.env)).any (·.1) || (backToKw pos (keywordEach kws X.env)).any (·.1.isNone)) = false := by rfl) :
    PE X (.Call (.Name x p) (e :: es) kws pos) (qP X.K c (callK fr fk fn)) := by
  refine pe_imp (pe_callN F hr hg hm hk hb hx ha hkw hall hks hdb he hpl) fun σ H Q h => ?_
  obtain ⟨ds, F, s, w⟩ := h
  refine ⟨ds, F, s, ?_⟩
  unfold callK at w
  cases hf : fr ds with
  | bad => rw [hf] at w; exact w
  | err x => rw [hf] at w; exact w
  | ok r =>
    rw [hf, R.ok_bind] at w
    intro vs F1 H1 g1 q1
    refine ⟨ds, F1, s.grow g1, ?_⟩
    cases hfk : fk ds with
    | bad => rw [hfk] at w; exact w
    | err x => rw [hfk] at w; exact w
    | ok r2 =>
      rw [hfk, R.ok_bind] at w
      intro vs2 F2 H2 g2 q2
      refine ⟨q1.len.1, q2.len.1.trans hmk, F2, r ++ r2, g2.fh, g2.tb (g1.tb s.tb), (q1.mono g2.ff g2.hh).append q2, ?_⟩
      cases hn : fn (r ++ r2) with
      | bad => rw [hn] at w; exact w
      | ok d => rw [hn] at w; exact fun v F3 H3 g3 q3 => w v F3 H3 ((g1.trans g2).trans g3) q3
      | err z => rw [hn] at w; exact fun d3 H3 f3 t3 e3 => w d3 H3 (((s.gr.hh.trans g1.hh).trans g2.hh).trans f3) t3 e3
/-! binding of defs with defaults -/
theorem binds_full {K : PySem.W.Frag} {qual : Str} {params : Arguments} {body : List Stmt} {scope : Scope} {dvs : List V} {kws : List (Str × V)} (F : FunD K x qual params body scope dvs kws fA fd) (hd : dvs ≠ [])
    (h : ∀ (T : Addr) (kV doc pm : Value) (an : Option Addr) (cdv ct : Value) (us its : List Value), us.length = ps.length → its.length = dvs.length →
      ∃ k, bindArgs (PySem.W.fnOf x qual params body scope (.ref T) kV doc pm an cdv ct) ⟨us, []⟩ = seqItems? (.ref T) >>= k ∧ k (some its.toArray) = pure (ps.zip us)) : Binds K fd ps [] := by
  obtain ⟨ds, hv, hb⟩ := F.binds1 (ps := ps) ps.length dvs.length hd (by omega) (fun T kV doc pm an cdv ct us its h1 h2 => by
    obtain ⟨k, e1, e2⟩ := h T kV doc pm an cdv ct us its h1 h2
    refine ⟨k, e1, ?_⟩
    rw [e2, List.drop_eq_nil_of_le (by omega), List.append_nil])
  rw [List.drop_eq_nil_of_le (Nat.le_refl _)] at hv
  cases hv
  exact hb
theorem kbn_of {K : PySem.W.Frag} {qual : Str} {params : Arguments} {body : List Stmt} {scope : Scope} {dvs : List V} {kws : List (Str × V)} (F : FunD K x qual params body scope dvs kws fA fd) (n : Nat) (ks : List Str) (hd : dvs ≠ [])
    (h : ∀ (T : Addr) (kV doc pm : Value) (an : Option Addr) (cdv ct : Value) (us its ws : List Value), us.length = n → its.length = dvs.length → ws.length = ks.length →
      ∃ k, bindArgs (PySem.W.fnOf x qual params body scope (.ref T) kV doc pm an cdv ct) ⟨us, ks.zip ws⟩ = seqItems? (.ref T) >>= k ∧ k (some its.toArray) = pure (ps.zip (us ++ ws))) : KBn K fd ps n ks (fun us ws => us ++ ws) (fun vs zs => vs ++ zs) := by
  obtain ⟨oc, od, dV, kV, doc, pm, an, cdv, ct, osl, rfl, lk, hcd, hD, hK⟩ := F.ex
  rcases hD with ⟨e, _⟩ | ⟨_, T, o, its, m, rfl, lT, oT, rT⟩
  · exact absurd e hd
  · refine ⟨fun s us ws X l1 l2 => ?_, fun r1 r2 => r1.append r2⟩
    obtain ⟨k, e1, e2⟩ := h T kV doc pm an cdv ct us its ws l1 rT.length.symm l2
    refine BindsTo.of_looks fun M => ?_
    rw [e1]
    exact looks_items X lT oT (.of_pure e2)
/-! further small rules -/
def negD : PyData → R PyData
  | .int i => .ok (.int (-i))
  | _ => .bad
theorem d_neg (ha : PE X a (qT X.K c fa)) : PE X (.UnaryOp .USub a pos) (qP X.K c (op1 negD fa)) := by
  refine pe_imp (pe_un un_neg ha) fun σ H Q h => ?_
  obtain ⟨ds, F, s, w⟩ := h
  refine ⟨ds, F, s, wT_bind w fun d v F1 H1 g1 q1 w1 => ?_⟩
  cases q1 with
  | int i => exact ⟨i, rfl, w1 _ F1 H1 (.refl g1.fh) (.int _)⟩
  | _ => exact w1.elim
/-- xs[a:b] of a list -/
def cutL {α : Type} (xs : List α) (lo hi : Option Int) : List α := (xs.drop (HT.sIx xs.length 0 lo)).take (HT.sIx xs.length xs.length hi - HT.sIx xs.length 0 lo)
def wO (c : Bk) (F H : Hp) (Q : Option Int → Hp → Prop) : R (Option Int) → Prop
  | .bad => False
  | .ok b => ∀ F' H', Grow c.T F H F' H' → Q b H'
  | .err x => wErr c x
def qO (K : PySem.W.Frag) (c : Bk) (f : DS → R (Option Int)) : TO := fun σ H Q => ∃ ds F, Stt K c F H σ ds ∧ wO c F H Q (f ds)
def noO : DS → R (Option Int) := fun _ => .ok none
def someO (f : ES) : DS → R (Option Int) := fun ds => f ds >>= fun d => match d with
  | .int i => .ok (some i)
  | _ => .bad
theorem po_imp {o : Option Expr} {t t' : TO} (h : PO X o t) (i : ∀ σ H Q, t' σ H Q → t σ H Q) : PO X o t' := ⟨fun pins s σ H Q I q => h.run pins s σ H Q I (i σ H Q q)⟩
theorem d_o0 : PO X none (qO X.K c noO) := po_imp po_none fun σ H Q ⟨ds, F, s, w⟩ => w F H (.refl s.fh)
theorem d_o1 (h : PE X e (qT X.K c f)) : PO X (some e) (qO X.K c (someO f)) := po_imp (po_some h) fun σ H Q ⟨ds, F, s, w⟩ => ⟨ds, F, s, by
  unfold someO at w
  cases hf : f ds with
  | bad => rw [hf] at w; exact w
  | err x => rw [hf] at w; exact w
  | ok d =>
    rw [hf, R.ok_bind] at w
    intro v F1 H1 g1 q1
    cases q1 with
    | int i => exact ⟨i, rfl, w F1 H1 g1⟩
    | _ => exact w.elim⟩
def slL (fa : ES) (lo hi : DS → R (Option Int)) : ES := fun ds => fa ds >>= fun d => lo ds >>= fun l => hi ds >>= fun h => match d with
  | .list xs => .ok (.list (cutL xs l h))
  | _ => .bad
theorem cut_dq {K : PySem.W.Frag} {F : Hp} {vs : List V} {ds : List PyData} (h : DqAll K F vs ds) (l u : Option Int) : DqAll K F (cutV vs l u) (cutL ds l u) := by
  unfold cutV cutL
  rw [h.length]
  exact (h.drop _).take _
theorem d_slL {lo hi : Option Expr} {fl fh : DS → R (Option Int)} {p2 : Pos} (ha : PE X a (qP X.K c fa)) (hl : PO X lo (qO X.K c fl)) (hh : PO X hi (qO X.K c fh)) : PE X (.Subscript a (.Slice lo hi none p2) pos) (qN X.K c (slL fa fl fh)) := by
  refine pe_imp (pe_slice sl_list ha hl hh) fun σ H Q h => ?_
  obtain ⟨ds, F, s, w⟩ := h
  refine ⟨ds, F, s, ?_⟩
  unfold slL at w
  cases hf : fa ds with
  | bad => rw [hf] at w; exact w
  | err x => rw [hf] at w; exact w
  | ok d =>
    rw [hf, R.ok_bind] at w
    intro v F1 H1 g1 q1
    refine ⟨ds, F1, s.grow g1, ?_⟩
    cases hfl : fl ds with
    | bad => rw [hfl] at w; exact w
    | err x => rw [hfl] at w; exact w
    | ok l =>
      rw [hfl, R.ok_bind] at w
      intro F2 H2 g2
      refine ⟨ds, F2, (s.grow g1).grow g2, ?_⟩
      cases hfh : fh ds with
      | bad => rw [hfh] at w; exact w
      | err x => rw [hfh] at w; exact w
      | ok u =>
        rw [hfh, R.ok_bind] at w
        intro F3 H3 g3
        cases d with
        | list xs =>
          have q3 := (q1.mono g2.ff).mono g3.ff
          cases q3 with
          | lst hs hd =>
            refine ⟨_, _, rfl, g3.fh.seq hs, fun p hp => ?_⟩
            exact w p F3 _ (((g1.trans g2).trans g3).trans (.own g3.fh hp)) (((g1.trans g2).trans g3).hh.free hp) (g3.fh.free hp) ⟨_, upd_same, cut_dq hd l u⟩
        | _ => exact w.elim
/-! the law's own end -/
theorem fn_calm {P : Program} {w : World} {K : PySem.W.Frag} {mg : Str → Option Value} {base : Heap} {sp : Sp} (F : FnOk P w K mg base (L2.CX P w) k fA fd ps sp) : FnOk P w K mg base CX0 k fA fd ps (fun vs H Q _ => sp vs H Q fun _ _ _ => False) :=
  ⟨fun vs H Q E h => F.len vs H Q _ h, fun A outer s H args us vs Q E hr he hb hv h => codeAny_mono (F.run A outer s H args us vs Q _ hr he hb hv h) fun r s' q => by
    cases r with
    | error e =>
      obtain ⟨_, _, _, _, _, _, _, _, _, _, _, _, z⟩ := q
      exact z.elim
    | ok fl => cases fl <;> exact q⟩
theorem law_sp {T : List (Addr × Str)} {K : PySem.W.Frag} {cl : Str → Addr} {V : List PyData → R PyData} {ns : List Int} {H : Hp} {aA : Addr} (main : V [.list (ns.map .int)] = .ok (.bool true)) (hT : LamX.Tabs T H) (h : SqL K H aA (ns.map L2.V.int)) :
    spS T K cl [false] V [.ref aA] H (fun v _ => v = .bl true) fun _ _ _ => False := by
  refine ⟨H, [.list (ns.map .int)], .refl H, hT, ⟨.lst h (dqInts ns), trivial⟩, ?_⟩
  rw [main]
  intro v F' H' g q
  cases q
  rfl
end
end Cb
namespace Cb
open PySem PySem.Spec PyProof.Rows L2
/-! ### more operators -/
/-- r makes a new list as g says -/
def OpN (K : PySem.W.Frag) (r : R2) (g : PyData → PyData → R PyData) : Prop :=
  ∀ x y d e F H, Sam F H → Dq K F x d → Dq K F y e → (∃ zs vs, g d e = .ok (.list zs) ∧ DqAll K F vs zs ∧ ∀ Q : VK, (∀ p, H p = none → Q (.ref p) (upd H p (.lst vs))) → r x y H Q) ∨ g d e = .bad
/-- r makes a lasting thing as g says -/
def OpP (K : PySem.W.Frag) (r : R2) (g : PyData → PyData → R PyData) : Prop :=
  ∀ x y d e F H, Sam F H → Dq K F x d → Dq K F y e → (∃ z, g d e = .ok z ∧ ∀ Q : VK, (∀ v F' H', (∀ T, Grow T F H F' H') → Dq K F' v z → Q v H') → r x y H Q) ∨ g d e = .bad
section
variable {X : Cx} {e a b : Expr} {c : Bk} {f fa fb : ES} {pos : Pos}
theorem t_opN {K : PySem.W.Frag} {r : R2} {g : PyData → PyData → R PyData} (hr : OpN K r g) {σ : L2.St} {H : Hp} {Q : VK} (h : qN K c (op2 g fa fb) σ H Q) : tOp r (qP K c fa) (qP K c fb) σ H Q := by
  obtain ⟨ds, F, s, w⟩ := h
  refine ⟨ds, F, s, ?_⟩
  unfold op2 at w
  cases ha : fa ds with
  | bad => rw [ha] at w; exact w
  | err x => rw [ha] at w; exact w
  | ok d =>
    rw [ha] at w
    intro v F1 H1 g1 q1
    refine ⟨ds, F1, s.grow g1, ?_⟩
    rw [R.ok_bind] at w
    cases hb : fb ds with
    | bad => rw [hb] at w; exact w
    | err x => rw [hb] at w; exact w
    | ok d2 =>
      rw [hb] at w
      intro v2 F2 H2 g2 q2
      rw [R.ok_bind] at w
      have g12 := g1.trans g2
      rcases hr v v2 d d2 F2 H2 g2.fh (q1.mono g2.ff) q2 with ⟨zs, vs, e1, s1, k⟩ | e1
      · rw [e1] at w
        refine k _ fun p hp => ?_
        exact w p F2 _ (g12.trans (.own g2.fh hp)) (g12.hh.free hp) (g2.fh.free hp) ⟨vs, upd_same, s1⟩
      · rw [e1] at w
        exact w.elim
theorem t_opP {K : PySem.W.Frag} {r : R2} {g : PyData → PyData → R PyData} (hr : OpP K r g) {σ : L2.St} {H : Hp} {Q : VK} (h : qP K c (op2 g fa fb) σ H Q) : tOp r (qP K c fa) (qP K c fb) σ H Q := by
  obtain ⟨ds, F, s, w⟩ := h
  refine ⟨ds, F, s, ?_⟩
  unfold op2 at w
  cases ha : fa ds with
  | bad => rw [ha] at w; exact w
  | err x => rw [ha] at w; exact w
  | ok d =>
    rw [ha] at w
    intro v F1 H1 g1 q1
    refine ⟨ds, F1, s.grow g1, ?_⟩
    rw [R.ok_bind] at w
    cases hb : fb ds with
    | bad => rw [hb] at w; exact w
    | err x => rw [hb] at w; exact w
    | ok d2 =>
      rw [hb] at w
      intro v2 F2 H2 g2 q2
      rw [R.ok_bind] at w
      rcases hr v v2 d d2 F2 H2 g2.fh (q1.mono g2.ff) q2 with ⟨z, e1, k⟩ | e1
      · rw [e1] at w
        exact k _ fun u F3 H3 g3 q3 => w u F3 H3 ((g1.trans g2).trans (g3 _)) q3
      · rw [e1] at w
        exact w.elim
/-! list + list -/
def rCatS (K : PySem.W.Frag) : R2 := fun x y H Q => ∃ l b xs zs, x = .ref l ∧ y = .ref b ∧ SqL K H l xs ∧ SqL K H b zs ∧ xs.length + zs.length ≤ sizeLine ∧ ∀ p, H p = none → Q (.ref p) (upd H p (.lst (xs ++ zs)))
theorem op_catS {X : Cx} : OpR X (binaryOp .Add) (rCatS X.K) := by
  intro pins s σ H x y v u Q I rx ry h
  obtain ⟨l, b, xs, zs, rfl, rfl, hH, hB, hz, q⟩ := h
  cases rx
  cases ry
  obtain ⟨its, r, pl, _⟩ := I.list hH
  obtain ⟨its2, r2, pl2, _⟩ := I.list hB
  obtain ⟨⟨cls, dd, data, sl⟩, ho, hc, n, hd⟩ := pl.isList
  obtain ⟨⟨cls2, dd2, data2, sl2⟩, ho2, hc2, n2, hd2⟩ := pl2.isList
  simp only at hc hd hc2 hd2
  subst hc hd hc2 hd2
  have l1 := r.length
  have l2 := r2.length
  refine concat_meets ⟨_, ho, rfl⟩ ⟨_, ho2, rfl⟩ noFill_list_add seq_list_add PySem.F.slot_list_add PySem.F.entry_list_add (PySem.F.args_list_add_2 _ _)
    (list_addW l b its.toArray its2.toArray n n2 dd dd2 sl sl2 (by rw [List.size_toArray, List.size_toArray]; omega)) ⟨ho, ho2, ?_⟩
  have ea : its.toArray ++ its2.toArray = (its ++ its2).toArray := by simp
  rw [ea]
  exact ⟨.ref _, _, I.lnew (t' := s.toks) (r.append r2) (by rw [List.length_append]; exact hz), rfl, q _ I.fresh⟩
def catD : PyData → PyData → R PyData
  | .list xs, .list ys => if xs.length + ys.length ≤ big then .ok (.list (xs ++ ys)) else .bad
  | _, _ => .bad
theorem on_cat {K : PySem.W.Frag} : OpN K (rCatS K) catD := fun x y d e F H f h1 h2 => by
  cases h1 with
  | @lst _ xs ds hs ha =>
    cases h2 with
    | @lst _ ys es hs2 ha2 =>
      by_cases hb : ds.length + es.length ≤ big
      · exact .inl ⟨_, _, if_pos hb, ha.append ha2, fun Q q => ⟨_, _, _, _, rfl, rfl, f.seq hs, f.seq hs2, by rw [ha.length, ha2.length]; exact big_le hb, q⟩⟩
      · exact .inr (if_neg hb)
    | _ => exact .inr rfl
  | _ => exact .inr rfl
theorem d_cat (ha : PE X a (qP X.K c fa)) (hb : PE X b (qP X.K c fb)) : PE X (.BinOp a .Add b pos) (qN X.K c (op2 catD fa fb)) := pe_imp (pe_op op_catS ha hb) fun _ _ _ h => t_opN on_cat h
/-! tuple + tuple -/
def catT : PyData → PyData → R PyData
  | .tuple xs, .tuple ys => if xs.length + ys.length ≤ big then .ok (.tuple (xs ++ ys)) else .bad
  | _, _ => .bad
theorem oP_catT {K : PySem.W.Frag} : OpP K (rCatA K) catT := fun x y d e F H f h1 h2 => by
  cases h1 with
  | @tup _ xs ds hs ha =>
    cases h2 with
    | @tup _ ys es hs2 ha2 =>
      by_cases hb : ds.length + es.length ≤ big
      · refine .inl ⟨_, if_pos hb, fun Q q => ⟨_, _, xs, ys, rfl, rfl, sqT_mono f hs, sqT_mono f hs2, by rw [ha.length, ha2.length]; exact big_le hb, fun z => ?_, fun z1 z2 => ?_, fun z1 z2 p hp => ?_⟩⟩
        · subst z
          cases ha
          exact q _ F H (fun _ => .refl f) (.tup hs2 ha2)
        · subst z2
          cases ha2
          rw [List.append_nil] at q
          exact q _ F H (fun _ => .refl f) (.tup hs ha)
        · exact q _ _ _ (fun _ => .new f hp) (.tup upd_same ((ha.append ha2).mono (same_new (f.free hp))))
      · exact .inr (if_neg hb)
    | _ => exact .inr rfl
  | _ => exact .inr rfl
theorem d_catT (ha : PE X a (qP X.K c fa)) (hb : PE X b (qP X.K c fb)) : PE X (.BinOp a .Add b pos) (qP X.K c (op2 catT fa fb)) := pe_imp (pe_op op_catA ha hb) fun _ _ _ h => t_opP oP_catT h
/-! tuple * int -/
def repT : PyData → PyData → R PyData
  | .tuple xs, .int k => if (decide (2 ≤ k) && decide (k ≤ 1000) && decide (0 < xs.length) && decide (xs.length ≤ 1000)) = true then .ok (.tuple (List.replicate k.toNat xs).flatten) else .bad
  | _, _ => .bad
theorem DqAll.rep {K : PySem.W.Frag} {F : Hp} {vs : List V} {ds : List PyData} (h : DqAll K F vs ds) : ∀ n : Nat, DqAll K F (List.replicate n vs).flatten (List.replicate n ds).flatten
  | 0 => .nil
  | n + 1 => by
    rw [List.replicate_succ, List.replicate_succ, List.flatten_cons, List.flatten_cons]
    exact h.append (h.rep n)
theorem oP_repT {K : PySem.W.Frag} : OpP K (rRepT K) repT := fun x y d e F H f h1 h2 => by
  cases h1 with
  | @tup _ xs ds hs ha =>
    cases h2 with
    | int k =>
      by_cases hb : (decide (2 ≤ k) && decide (k ≤ 1000) && decide (0 < ds.length) && decide (ds.length ≤ 1000)) = true
      · refine .inl ⟨_, if_pos hb, fun Q q => ?_⟩
        simp only [Bool.and_eq_true, decide_eq_true_eq] at hb
        have hl := ha.length
        refine ⟨_, k, xs, rfl, rfl, sqT_mono f hs, fun z => ?_, hb.1.1.1, hb.1.1.2, by omega, fun p hp => ?_⟩
        · subst z
          simp only [List.length_nil] at hl
          omega
        · exact q _ _ _ (fun _ => .new f hp) (.tup upd_same ((ha.rep k.toNat).mono (same_new (f.free hp))))
      · exact .inr (if_neg hb)
    | _ => exact .inr rfl
  | _ => exact .inr rfl
theorem d_repT (ha : PE X a (qP X.K c fa)) (hb : PE X b (qP X.K c fb)) : PE X (.BinOp a .Mult b pos) (qP X.K c (op2 repT fa fb)) := pe_imp (pe_op op_repT ha hb) fun _ _ _ h => t_opP oP_repT h
/-! a new list * int -/
def repD : PyData → PyData → R PyData
  | .list xs, .int k => if (decide (k ≤ 1000) && decide (xs.length ≤ 1000)) = true then .ok (.list (List.replicate k.toNat xs).flatten) else .bad
  | _, _ => .bad
def repN (x y : PyData) : R PyData := match y with
  | .int k => if decide (0 ≤ k) = true then repD x y else .bad
  | _ => .bad
theorem d_rep (ha : PE X a (qN X.K c fa)) (hb : PE X b (qT X.K c fb)) : PE X (.BinOp a .Mult b pos) (qN X.K c (op2 repN fa fb)) := by
  refine pe_imp (pe_op op_rep ha hb) fun σ H Q h => ?_
  obtain ⟨ds, F, s, w⟩ := h
  refine ⟨ds, F, s, ?_⟩
  unfold op2 repN at w
  cases hf : fa ds with
  | bad => rw [hf] at w; exact w
  | err x => rw [hf] at w; exact w
  | ok d =>
    rw [hf, R.ok_bind] at w
    intro p F1 H1 g1 n1 n2 n3
    refine ⟨ds, F1, s.grow g1, ?_⟩
    cases hg : fb ds with
    | bad => rw [hg] at w; exact w
    | err x => rw [hg] at w; exact w
    | ok d2 =>
      rw [hg, R.ok_bind] at w
      intro v2 F2 H2 g2 q2
      cases q2 with
      | int k =>
        by_cases hk0 : decide (0 ≤ k) = true
        · simp only [if_pos hk0] at w
          cases d with
          | list xs =>
            obtain ⟨vs, k1, k2⟩ := n3
            unfold repD at w
            by_cases hb : (decide (k ≤ 1000) && decide (xs.length ≤ 1000)) = true
            · simp only [if_pos hb] at w
              simp only [Bool.and_eq_true, decide_eq_true_eq] at hb hk0
              have hl := k2.length
              have hm : vs.length * k.toNat ≤ 1000 * 1000 := Nat.mul_le_mul (by omega) (by omega)
              have hz : vs.length * k.toNat ≤ sizeLine := Nat.le_trans hm (by decide)
              have g12 := g1.trans g2
              refine ⟨p, k, vs, rfl, rfl, g2.hh.keep _ _ k1 rfl, by omega, by omega, hz, fun p' hp' => ?_⟩
              exact w p' F2 _ (g12.trans (.own g2.fh hp')) (g12.hh.free hp') (g2.fh.free hp') ⟨_, upd_same, (k2.mono g2.ff).rep k.toNat⟩
            · simp only [if_neg hb] at w
              exact w.elim
          | _ => exact w.elim
        · simp only [if_neg hk0] at w
          exact w.elim
      | _ => exact w.elim
/-! text + text -/
def addT : PyData → PyData → R PyData
  | .str x, .str y => if x.length + y.length ≤ big then .ok (.str (x ++ y)) else .bad
  | _, _ => .bad
theorem d_addT (ha : PE X a (qT X.K c fa)) (hb : PE X b (qT X.K c fb)) : PE X (.BinOp a .Add b pos) (qP X.K c (op2 addT fa fb)) := d_op op_add_str (fun x y d e H h1 h2 => by
  cases h1 with
  | str i =>
    cases h2 with
    | str j =>
      by_cases hb : i.length + j.length ≤ big
      · exact .inl ⟨_, _, if_pos hb, fun _ => .str _, fun Q q => ⟨i, j, rfl, rfl, big_le hb, q⟩⟩
      · exact .inr (if_neg hb)
    | _ => exact .inr rfl
  | _ => exact .inr rfl) ha hb
/-! is True, is False, is None -/
def isB (k : Bool) : PyData → R PyData
  | .bool b => .ok (.bool (decide (b = k)))
  | _ => .bad
def isntB (k : Bool) : PyData → R PyData
  | .bool b => .ok (.bool (!decide (b = k)))
  | _ => .bad
def isD : PyData → PyData → R PyData
  | .bool b, .bool k => .ok (.bool (decide (b = k)))
  | .none, .none => .ok (.bool true)
  | .int _, .none => .ok (.bool false)
  | .str _, .none => .ok (.bool false)
  | .tuple _, .none => .ok (.bool false)
  | .list _, .none => .ok (.bool false)
  | _, _ => .bad
def isntD : PyData → PyData → R PyData
  | .bool b, .bool k => .ok (.bool (!decide (b = k)))
  | .none, .none => .ok (.bool false)
  | .int _, .none => .ok (.bool true)
  | .str _, .none => .ok (.bool true)
  | .tuple _, .none => .ok (.bool true)
  | .list _, .none => .ok (.bool true)
  | _, _ => .bad
theorem op_isS {X : Cx} : OpR X (compareOp .Is) (fun x y H Q => rIsB x y H Q ∨ (y = .non ∧ Q (.bl (decide (x = .non))) H)) := op_isBl.or op_isN
theorem op_isntS {X : Cx} : OpR X (compareOp .IsNot) (fun x y H Q => rNotB x y H Q ∨ (y = .non ∧ Q (.bl (!decide (x = .non))) H)) := op_notBl.or op_notN
theorem od_is {K : PySem.W.Frag} : OpD K (fun x y H Q => rIsB x y H Q ∨ (y = .non ∧ Q (.bl (decide (x = .non))) H)) isD := fun x y d e H h1 h2 => by
  cases h2 with
  | bl k =>
    cases h1 with
    | bl b => exact .inl ⟨_, _, rfl, fun _ => .bl _, fun Q q => .inl ⟨b, k, rfl, rfl, q⟩⟩
    | _ => exact .inr rfl
  | non =>
    cases h1 with
    | bl b => exact .inr rfl
    | dct _ _ => exact .inr rfl
    | dcT _ _ => exact .inr rfl
    | obj _ _ => exact .inr rfl
    | _ => exact .inl ⟨_, _, rfl, fun _ => .bl _, fun Q q => .inr ⟨rfl, by simpa using q⟩⟩
  | _ => cases h1 <;> exact .inr rfl
theorem od_isnt {K : PySem.W.Frag} : OpD K (fun x y H Q => rNotB x y H Q ∨ (y = .non ∧ Q (.bl (!decide (x = .non))) H)) isntD := fun x y d e H h1 h2 => by
  cases h2 with
  | bl k =>
    cases h1 with
    | bl b => exact .inl ⟨_, _, rfl, fun _ => .bl _, fun Q q => .inl ⟨b, k, rfl, rfl, q⟩⟩
    | _ => exact .inr rfl
  | non =>
    cases h1 with
    | bl b => exact .inr rfl
    | dct _ _ => exact .inr rfl
    | dcT _ _ => exact .inr rfl
    | obj _ _ => exact .inr rfl
    | _ => exact .inl ⟨_, _, rfl, fun _ => .bl _, fun Q q => .inr ⟨rfl, by simpa using q⟩⟩
  | _ => cases h1 <;> exact .inr rfl
/-! a sign in a text -/
def signO (x : Str) : Option Nat := match x.cps.toList with
  | [k] => some k
  | _ => none
def insD : PyData → PyData → R PyData
  | .str x, .str z => match signO x with
    | some k => .ok (.bool (decide (k ∈ z.cps.toList)))
    | none => .bad
  | _, _ => .bad
theorem sign_of {x : Str} {k : Nat} (h : signO x = some k) : x = ⟨#[k]⟩ := by
  unfold signO at h
  split at h
  · rename_i k' hk
    cases h
    cases x with
    | mk cps =>
      have : cps = #[k] := by
        apply Array.ext'
        exact hk
      rw [this]
  · cases h
theorem od_ins {K : PySem.W.Frag} : OpD K (fun x y H Q => ∃ (c : Nat) (z : Str), x = .str ⟨#[c]⟩ ∧ y = .str z ∧ Q (.bl (decide (c ∈ z.cps.toList))) H) insD := fun x y d e H h1 h2 => by
  cases h1 with
  | str i =>
    cases h2 with
    | str j =>
      cases hk : signO i with
      | none => exact .inr (by simp only [insD, hk])
      | some k => exact .inl ⟨_, _, (by simp only [insD, hk] <;> rfl), fun _ => .bl _, fun Q q => ⟨k, j, by rw [sign_of hk], rfl, q⟩⟩
    | _ => exact .inr rfl
  | _ => exact .inr rfl
/-! x in a list -/
def inlD (d e : PyData) : R PyData := match e with
  | .list ds => if (SeqAt.shaped d && SeqAt.shaped (.list ds)) = true then .ok (.bool (ds.any fun z => PyData.eqv z d)) else .bad
  | _ => .bad
def ninlD (d e : PyData) : R PyData := match e with
  | .list ds => if (SeqAt.shaped d && SeqAt.shaped (.list ds)) = true then .ok (.bool (!ds.any fun z => PyData.eqv z d)) else .bad
  | _ => .bad
theorem od_inl {K : PySem.W.Frag} : OpD K (rInD K) inlD := fun x y d e H h1 h2 => by
  cases e with
  | list ds =>
    unfold inlD
    by_cases hs : (SeqAt.shaped d && SeqAt.shaped (.list ds)) = true
    · simp only [if_pos hs]
      obtain ⟨s1, s2⟩ := Bool.and_eq_true_iff.mp hs
      exact .inl ⟨_, _, rfl, fun _ => .bl _, fun Q q => ⟨d, ds, dp_of h1 (SeqAt.canLay_of_shaped s1), dp_of h2 (SeqAt.canLay_of_shaped s2), s1, s2, q⟩⟩
    · simp only [if_neg hs]
      exact .inr trivial
  | _ => exact .inr rfl
theorem od_ninl {K : PySem.W.Frag} : OpD K (rNotInD K) ninlD := fun x y d e H h1 h2 => by
  cases e with
  | list ds =>
    unfold ninlD
    by_cases hs : (SeqAt.shaped d && SeqAt.shaped (.list ds)) = true
    · simp only [if_pos hs]
      obtain ⟨s1, s2⟩ := Bool.and_eq_true_iff.mp hs
      exact .inl ⟨_, _, rfl, fun _ => .bl _, fun Q q => ⟨d, ds, dp_of h1 (SeqAt.canLay_of_shaped s1), dp_of h2 (SeqAt.canLay_of_shaped s2), s1, s2, q⟩⟩
    · simp only [if_neg hs]
      exact .inr trivial
  | _ => exact .inr rfl
end
end Cb
namespace Cb
open PySem PySem.Spec PyProof.Rows L2
section
variable {X : Cx} {e a b cc : Expr} {c : Bk} {f fa fb fc : ES} {pos : Pos}
/-! ### min, max of a list of ints -/
def leastI : List Int → Option Int
  | [] => none
  | n :: r => some (r.foldl (fun m k => if k < m then k else m) n)
def mostI : List Int → Option Int
  | [] => none
  | n :: r => some (r.foldl (fun m k => if m < k then k else m) n)
theorem least_fold : ∀ (r : List Int) (n : Int), (r.foldl (fun m k => if k < m then k else m) n = n ∨ r.foldl (fun m k => if k < m then k else m) n ∈ r) ∧ r.foldl (fun m k => if k < m then k else m) n ≤ n ∧ ∀ y ∈ r, r.foldl (fun m k => if k < m then k else m) n ≤ y
  | [], n => ⟨.inl rfl, Int.le_refl _, by simp⟩
  | k :: r, n => by
    obtain ⟨h1, h2, h3⟩ := least_fold r (if k < n then k else n)
    rw [List.foldl_cons]
    by_cases hk : k < n
    · rw [if_pos hk] at h1 h2 h3
      rw [if_pos hk]
      refine ⟨.inr ?_, by omega, fun y hy => ?_⟩
      · rcases h1 with h1 | h1
        · rw [h1]; exact List.mem_cons_self
        · exact List.mem_cons_of_mem _ h1
      · rcases List.mem_cons.mp hy with rfl | hy
        · exact h2
        · exact h3 y hy
    · rw [if_neg hk] at h1 h2 h3
      rw [if_neg hk]
      refine ⟨?_, h2, fun y hy => ?_⟩
      · rcases h1 with h1 | h1
        · exact .inl h1
        · exact .inr (List.mem_cons_of_mem _ h1)
      · rcases List.mem_cons.mp hy with rfl | hy
        · omega
        · exact h3 y hy
theorem most_fold : ∀ (r : List Int) (n : Int), (r.foldl (fun m k => if m < k then k else m) n = n ∨ r.foldl (fun m k => if m < k then k else m) n ∈ r) ∧ n ≤ r.foldl (fun m k => if m < k then k else m) n ∧ ∀ y ∈ r, y ≤ r.foldl (fun m k => if m < k then k else m) n
  | [], n => ⟨.inl rfl, Int.le_refl _, by simp⟩
  | k :: r, n => by
    obtain ⟨h1, h2, h3⟩ := most_fold r (if n < k then k else n)
    rw [List.foldl_cons]
    by_cases hk : n < k
    · rw [if_pos hk] at h1 h2 h3
      rw [if_pos hk]
      refine ⟨.inr ?_, by omega, fun y hy => ?_⟩
      · rcases h1 with h1 | h1
        · rw [h1]; exact List.mem_cons_self
        · exact List.mem_cons_of_mem _ h1
      · rcases List.mem_cons.mp hy with rfl | hy
        · exact h2
        · exact h3 y hy
    · rw [if_neg hk] at h1 h2 h3
      rw [if_neg hk]
      refine ⟨?_, h2, fun y hy => ?_⟩
      · rcases h1 with h1 | h1
        · exact .inl h1
        · exact .inr (List.mem_cons_of_mem _ h1)
      · rcases List.mem_cons.mp hy with rfl | hy
        · omega
        · exact h3 y hy
theorem leastI_spec {ns : List Int} {m : Int} (h : leastI ns = some m) : m ∈ ns ∧ ∀ y ∈ ns, m ≤ y := by
  cases ns with
  | nil => cases h
  | cons n r =>
    cases h
    obtain ⟨h1, h2, h3⟩ := least_fold r n
    refine ⟨?_, fun y hy => ?_⟩
    · rcases h1 with h1 | h1
      · rw [h1]; exact List.mem_cons_self
      · exact List.mem_cons_of_mem _ h1
    · rcases List.mem_cons.mp hy with rfl | hy
      · exact h2
      · exact h3 y hy
theorem mostI_spec {ns : List Int} {m : Int} (h : mostI ns = some m) : m ∈ ns ∧ ∀ y ∈ ns, y ≤ m := by
  cases ns with
  | nil => cases h
  | cons n r =>
    cases h
    obtain ⟨h1, h2, h3⟩ := most_fold r n
    refine ⟨?_, fun y hy => ?_⟩
    · rcases h1 with h1 | h1
      · rw [h1]; exact List.mem_cons_self
      · exact List.mem_cons_of_mem _ h1
    · rcases List.mem_cons.mp hy with rfl | hy
      · exact h2
      · exact h3 y hy
def minL : PyData → R PyData
  | .list xs => match (intsO xs).bind leastI with
    | some m => .ok (.int m)
    | none => .bad
  | _ => .bad
def maxL : PyData → R PyData
  | .list xs => match (intsO xs).bind mostI with
    | some m => .ok (.int m)
    | none => .bad
  | _ => .bad
theorem cd_minL {K : PySem.W.Frag} : CaD K (fun vs H Q => ∃ (a : Addr) (ns : List Int) (m : Int), vs = [V.ref a] ∧ SqL K H a (ns.map V.int) ∧ m ∈ ns ∧ (∀ y ∈ ns, m ≤ y) ∧ Q (.int m) H) minL := fun x d H h => by
  cases h with
  | @lst _ _ ds hs ha =>
    cases e : intsO ds with
    | none => exact .inr (by simp only [minL, e, Option.bind_none])
    | some ns =>
      have e1 := ints_of ha e
      subst e1
      cases e2 : leastI ns with
      | none => exact .inr (by simp only [minL, e, Option.bind_some, e2])
      | some m =>
        have := leastI_spec e2
        exact .inl ⟨_, _, (by simp only [minL, e, Option.bind_some, e2] <;> rfl), fun _ => .int _, fun Q q => ⟨_, ns, m, rfl, hs, this.1, this.2, q⟩⟩
  | _ => exact .inr rfl
theorem cd_maxL {K : PySem.W.Frag} : CaD K (fun vs H Q => ∃ (a : Addr) (ns : List Int) (m : Int), vs = [V.ref a] ∧ SqL K H a (ns.map V.int) ∧ m ∈ ns ∧ (∀ y ∈ ns, y ≤ m) ∧ Q (.int m) H) maxL := fun x d H h => by
  cases h with
  | @lst _ _ ds hs ha =>
    cases e : intsO ds with
    | none => exact .inr (by simp only [maxL, e, Option.bind_none])
    | some ns =>
      have e1 := ints_of ha e
      subst e1
      cases e2 : mostI ns with
      | none => exact .inr (by simp only [maxL, e, Option.bind_some, e2])
      | some m =>
        have := mostI_spec e2
        exact .inl ⟨_, _, (by simp only [maxL, e, Option.bind_some, e2] <;> rfl), fun _ => .int _, fun Q q => ⟨_, ns, m, rfl, hs, this.1, this.2, q⟩⟩
  | _ => exact .inr rfl
theorem cr_imp {f : Value} {r r' : List V → Hp → VK → Prop} (h : CallR X f r) (i : ∀ vs H Q, r' vs H Q → r vs H Q) : CallR X f r' := fun pins s σ H xs us Q I rv q => h pins s σ H xs us Q I rv (i _ _ _ q)
theorem d_minL {p : Pos} (hc : X.calm = true) (ha : PE X a (qT X.K c f)) (hm : X.mg "min" = none) (hg : Gl X "min" := by rfl) (hs : starEach [a] X.env = (false, eval a X.env) :: starEach [] X.env := by rfl) (hpl : (backTo pos (starEach [] X.env)).any (·.1) = false := by rfl) :
    PE X (.Call (.Name "min" p) [a] [] pos) (qP X.K c (op1 minL f)) :=
  d_ca (cr_imp (cr_min hc) fun vs H Q ⟨a, ns, m, e1, e2, e3, e4, q⟩ => ⟨a, ns, e1, e2, List.length_pos_of_mem e3, fun m' h1 h2 => by
    have : m' = m := by
      have a1 := h2 m e3
      have a2 := e4 m' h1
      omega
    rw [this]
    exact q⟩) cd_minL ha hm (by decide +kernel) hg (by decide) (by decide) hs hpl
theorem d_maxL {p : Pos} (hc : X.calm = true) (ha : PE X a (qT X.K c f)) (hm : X.mg "max" = none) (hg : Gl X "max" := by rfl) (hs : starEach [a] X.env = (false, eval a X.env) :: starEach [] X.env := by rfl) (hpl : (backTo pos (starEach [] X.env)).any (·.1) = false := by rfl) :
    PE X (.Call (.Name "max" p) [a] [] pos) (qP X.K c (op1 maxL f)) :=
  d_ca (cr_imp (cr_max hc) fun vs H Q ⟨a, ns, m, e1, e2, e3, e4, q⟩ => ⟨a, ns, e1, e2, List.length_pos_of_mem e3, fun m' h1 h2 => by
    have : m' = m := by
      have a1 := h2 m e3
      have a2 := e4 m' h1
      omega
    rw [this]
    exact q⟩) cd_maxL ha hm (by decide +kernel) hg (by decide) (by decide) hs hpl
/-! ### list(x), tuple(x) -/
def listD : PyData → R PyData
  | .list xs => .ok (.list xs)
  | .tuple xs => .ok (.list xs)
  | _ => .bad
def tupD : PyData → R PyData
  | .list xs => .ok (.tuple xs)
  | .tuple xs => .ok (.tuple xs)
  | _ => .bad
theorem d_list {p : Pos} (ha : PE X a (qP X.K c f)) (hm : X.mg "list" = none) (hg : Gl X "list" := by rfl) (hs : starEach [a] X.env = (false, eval a X.env) :: starEach [] X.env := by rfl) (hpl : (backTo pos (starEach [] X.env)).any (·.1) = false := by rfl) :
    PE X (.Call (.Name "list" p) [a] [] pos) (qN X.K c (op1 listD f)) := by
  refine pe_imp (pe_callTy call_list_of hg hm (by decide +kernel) (pa_cons ha pa_nil hs) (by decide) (by decide) hs hpl) fun σ H Q h => ?_
  obtain ⟨ds, F, s, w⟩ := h
  refine ⟨ds, F, s, ?_⟩
  unfold op1 at w
  cases hf : f ds with
  | bad => rw [hf] at w; exact w
  | err x => rw [hf] at w; exact w
  | ok d =>
    rw [hf, R.ok_bind] at w
    intro v F1 H1 g1 q1
    cases q1 with
    | lst hs ha => exact ⟨_, _, rfl, .inl (g1.fh.seq hs), fun l hl => w l F1 _ (g1.trans (.own g1.fh hl)) (g1.hh.free hl) (g1.fh.free hl) ⟨_, upd_same, ha⟩⟩
    | tup hs ha => exact ⟨_, _, rfl, .inr (sqT_mono g1.fh hs), fun l hl => w l F1 _ (g1.trans (.own g1.fh hl)) (g1.hh.free hl) (g1.fh.free hl) ⟨_, upd_same, ha⟩⟩
    | _ => exact w.elim
theorem d_tupOf {p : Pos} (ha : PE X a (qP X.K c f)) (hm : X.mg "tuple" = none) (hg : Gl X "tuple" := by rfl) (hs : starEach [a] X.env = (false, eval a X.env) :: starEach [] X.env := by rfl) (hpl : (backTo pos (starEach [] X.env)).any (·.1) = false := by rfl) :
    PE X (.Call (.Name "tuple" p) [a] [] pos) (qP X.K c (op1 tupD f)) := by
  refine pe_imp (pe_callTy call_tuple_of hg hm (by decide +kernel) (pa_cons ha pa_nil hs) (by decide) (by decide) hs hpl) fun σ H Q h => ?_
  obtain ⟨ds, F, s, w⟩ := h
  refine ⟨ds, F, s, ?_⟩
  unfold op1 at w
  cases hf : f ds with
  | bad => rw [hf] at w; exact w
  | err x => rw [hf] at w; exact w
  | ok d =>
    rw [hf, R.ok_bind] at w
    intro v F1 H1 g1 q1
    cases q1 with
    | lst hs ha => exact ⟨_, _, rfl, .inl ⟨g1.fh.seq hs, fun l hl => w _ (upd F1 l (.tup _)) _ (g1.trans (.new g1.fh hl)) (.tup upd_same (ha.mono (same_new (g1.fh.free hl))))⟩⟩
    | tup hs ha => exact ⟨_, _, rfl, .inr ⟨sqT_mono g1.fh hs, w _ F1 H1 g1 (.tup hs ha)⟩⟩
    | _ => exact w.elim
/-! ### slices of tuples and texts -/
def slT (fa : ES) (lo hi : DS → R (Option Int)) : ES := fun ds => fa ds >>= fun d => lo ds >>= fun l => hi ds >>= fun h => match d with
  | .tuple xs => .ok (.tuple (cutL xs l h))
  | _ => .bad
theorem cut_whole {α : Type} (xs : List α) (lo hi : Option Int) (h : HT.sIx xs.length 0 lo = 0 ∧ HT.sIx xs.length xs.length hi = xs.length) : cutL xs lo hi = xs := by
  unfold cutL
  rw [h.1, h.2]
  simp
theorem d_slT {lo hi : Option Expr} {fl fh : DS → R (Option Int)} {p2 : Pos} (ha : PE X a (qP X.K c fa)) (hl : PO X lo (qO X.K c fl)) (hh : PO X hi (qO X.K c fh)) : PE X (.Subscript a (.Slice lo hi none p2) pos) (qP X.K c (slT fa fl fh)) := by
  refine pe_imp (pe_slice sl_tupA ha hl hh) fun σ H Q h => ?_
  obtain ⟨ds, F, s, w⟩ := h
  refine ⟨ds, F, s, ?_⟩
  unfold slT at w
  cases hf : fa ds with
  | bad => rw [hf] at w; exact w
  | err x => rw [hf] at w; exact w
  | ok d =>
    rw [hf, R.ok_bind] at w
    intro v F1 H1 g1 q1
    refine ⟨ds, F1, s.grow g1, ?_⟩
    cases hfl : fl ds with
    | bad => rw [hfl] at w; exact w
    | err x => rw [hfl] at w; exact w
    | ok l =>
      rw [hfl, R.ok_bind] at w
      intro F2 H2 g2
      refine ⟨ds, F2, (s.grow g1).grow g2, ?_⟩
      cases hfh : fh ds with
      | bad => rw [hfh] at w; exact w
      | err x => rw [hfh] at w; exact w
      | ok u =>
        rw [hfh, R.ok_bind] at w
        intro F3 H3 g3
        have g123 := (g1.trans g2).trans g3
        cases d with
        | tuple xs =>
          have q3 := (q1.mono g2.ff).mono g3.ff
          cases q3 with
          | @tup _ vs _ hs hd =>
            refine ⟨_, vs, rfl, sqT_mono g3.fh hs, fun hw => ?_, fun hw p hp => ?_⟩
            · rw [hd.length] at hw
              simp only [cut_whole xs l u hw] at w
              exact w _ F3 H3 g123 (.tup hs hd)
            · exact w _ (upd F3 p _) _ (g123.trans (.new g3.fh hp)) (.tup upd_same ((cut_dq hd l u).mono (same_new (g3.fh.free hp))))
        | _ => exact w.elim
/-! ### a, b, c = t : a tuple, a list is unpacked -/
def unpS (k : TgK) (f : ES) : DS → Out := fun ds => toO (f ds) fun d => match tgD k d ds with
  | .ok ds' => .nx ds'
  | _ => .bad
theorem d_unp {tg : Expr} {k : TgK} (he : PE X e (qP X.K c f)) (hg : PG X tg (tgT X.K k)) (hs : swapsWithSole [tg] e pos.line X.env = pure false := by rfl) (hw : swappedStores [tg] e X.env = pure none := by rfl)
    (h1 : (assignEach [tg] X.env).map (·.2) = [assign tg X.env] := by rfl) : PS X (.Assign [tg] e pos) (qS X.K c (unpS k f)) := by
  refine ps_imp (ps_asg he hg hs hw h1) fun D σ H ⟨ds, F, s, w⟩ => ⟨ds, F, s, wP_toO w fun d v F1 H1 g1 q1 w1 => ?_⟩
  cases ht : tgD k d ds with
  | bad => simp only [ht] at w1; exact w1.elim
  | err x => simp only [ht] at w1; exact w1.elim
  | ok ds' =>
    simp only [ht] at w1
    obtain ⟨σ', k1, s', _⟩ := tg_run (s.grow g1) q1 ht
    exact k1 _ (w1 σ' F1 H1 (.refl F1) s')
/-- a list of so many: three names -/
def unl3S (i j k : Nat) (f : ES) : DS → Out := fun ds => toO (f ds) fun d => match d with
  | .list [x, y, z] => .nx (((ds.set i (.im x)).set j (.im y)).set k (.im z))
  | _ => .bad
theorem d_unl3 {tg : Expr} {i j k : Nat} (he : PE X e (qP X.K c f)) (hg : PG X tg (gUnl X.K 3 (gCons (gName i) (gCons (gName j) (gCons (gName k) gNil))))) (hs : swapsWithSole [tg] e pos.line X.env = pure false := by rfl) (hw : swappedStores [tg] e X.env = pure none := by rfl)
    (h1 : (assignEach [tg] X.env).map (·.2) = [assign tg X.env] := by rfl) : PS X (.Assign [tg] e pos) (qS X.K c (unl3S i j k f)) := by
  refine ps_imp (ps_asg he hg hs hw h1) fun D σ H ⟨ds, F, s, w⟩ => ⟨ds, F, s, wP_toO w fun d v F1 H1 g1 q1 w1 => ?_⟩
  split at w1
  · cases q1 with
    | lst hs ha =>
      cases ha with
      | cons h1 t1 =>
        cases t1 with
        | cons h2 t2 =>
          cases t2 with
          | cons h3 t3 =>
            cases t3
            exact ⟨_, _, rfl, g1.fh.seq hs, rfl, _, _, rfl, _, _, rfl, _, _, rfl, rfl, w1 _ F1 H1 (.refl F1) ((((s.grow g1).set h1).set h2).set h3)⟩
  · exact w1.elim
/-! ### a, b, c = x, y, z -/
def par3 (i j l : Nat) (f g h : ES) : DS → Out := fun ds => toO (f ds) fun d => toO (g ds) fun e => toO (h ds) fun z => .nx (((ds.set i (.im d)).set j (.im e)).set l (.im z))
def par3N (i j l : Nat) (f g h : ES) : DS → Out := fun ds => toO (f ds) fun d => toO (g ds) fun e => toO (h ds) fun z => .nx (((ds.set i (.im d)).set j (.im e)).set l (.ow z))
def parN3 (i j l : Nat) (f g h : ES) : DS → Out := fun ds => toO (f ds) fun d => toO (g ds) fun e => toO (h ds) fun z => .nx (((ds.set i (.ow d)).set j (.im e)).set l (.im z))
section
variable {x y z : Str} {px py pz pt pt2 : Pos} {kt k2 : Nat}
theorem d_par3 (i j l : Nat) (hc : X.calm = true) (hN : X.N.Nodup) (ha : PE X a (qP X.K c fa)) (hb : PE X b (qP X.K c fb)) (hcc : PE X cc (qP X.K c fc)) (hij : i ≠ j := by decide) (hil : i ≠ l := by decide) (hjl : j ≠ l := by decide) (hi : X.N[i]? = some x := by rfl) (hj : X.N[j]? = some y := by rfl) (hl : X.N[l]? = some z := by rfl)
    (hx : X.env.scope.names.lookup x = some .local := by rfl) (hy : X.env.scope.names.lookup y = some .local := by rfl) (hz : X.env.scope.names.lookup z = some .local := by rfl)
    (hs1 : starEach [a, b, cc] X.env = (false, eval a X.env) :: starEach [b, cc] X.env := by rfl) (hs2 : starEach [b, cc] X.env = (false, eval b X.env) :: starEach [cc] X.env := by rfl) (hs3 : starEach [cc] X.env = (false, eval cc X.env) :: starEach [] X.env := by rfl)
    (hw : swappedStores [.Tuple [.Name x px, .Name y py, .Name z pz] kt pt] (.Tuple [a, b, cc] k2 pt2) X.env = pure (some [x, y, z]) := by rfl)
    (hs : swapsWithSole [.Tuple [.Name x px, .Name y py, .Name z pz] kt pt] (.Tuple [a, b, cc] k2 pt2) pos.line X.env = pure false := by rfl) :
    PS X (.Assign [.Tuple [.Name x px, .Name y py, .Name z pz] kt pt] (.Tuple [a, b, cc] k2 pt2) pos) (qS X.K c (par3 i j l fa fb fc)) :=
  ps_imp (ps_par3 hc hN hi hj hl hij hil hjl hx hy hz (pa_cons ha (pa_cons hb (pa_cons hcc pa_nil hs3) hs2) hs1) hw hs) fun D σ H ⟨ds, F, s, w⟩ => ⟨ds, F, s, wP_toO w fun d v F1 H1 g1 q1 w1 => ⟨ds, F1, s.grow g1, wP_toO w1 fun d2 v2 F2 H2 g2 q2 w2 => ⟨ds, F2, (s.grow g1).grow g2, wP_toO w2 fun d3 v3 F3 H3 g3 q3 w3 =>
    ⟨v, v2, v3, rfl, w3 _ F3 H3 (.refl F3) ((((((s.grow g1).grow g2).grow g3).set ((q1.mono g2.ff).mono g3.ff)).set (q2.mono g3.ff)).set q3)⟩⟩⟩⟩
theorem d_par3N (i j l : Nat) (hc : X.calm = true) (hN : X.N.Nodup) (ha : PE X a (qP X.K c fa)) (hb : PE X b (qP X.K c fb)) (hcc : PE X cc (qN X.K c fc)) (hij : i ≠ j := by decide) (hil : i ≠ l := by decide) (hjl : j ≠ l := by decide) (hi : X.N[i]? = some x := by rfl) (hj : X.N[j]? = some y := by rfl) (hl : X.N[l]? = some z := by rfl)
    (hx : X.env.scope.names.lookup x = some .local := by rfl) (hy : X.env.scope.names.lookup y = some .local := by rfl) (hz : X.env.scope.names.lookup z = some .local := by rfl)
    (hs1 : starEach [a, b, cc] X.env = (false, eval a X.env) :: starEach [b, cc] X.env := by rfl) (hs2 : starEach [b, cc] X.env = (false, eval b X.env) :: starEach [cc] X.env := by rfl) (hs3 : starEach [cc] X.env = (false, eval cc X.env) :: starEach [] X.env := by rfl)
    (hw : swappedStores [.Tuple [.Name x px, .Name y py, .Name z pz] kt pt] (.Tuple [a, b, cc] k2 pt2) X.env = pure (some [x, y, z]) := by rfl)
    (hs : swapsWithSole [.Tuple [.Name x px, .Name y py, .Name z pz] kt pt] (.Tuple [a, b, cc] k2 pt2) pos.line X.env = pure false := by rfl) :
    PS X (.Assign [.Tuple [.Name x px, .Name y py, .Name z pz] kt pt] (.Tuple [a, b, cc] k2 pt2) pos) (qS X.K c (par3N i j l fa fb fc)) :=
  ps_imp (ps_par3 hc hN hi hj hl hij hil hjl hx hy hz (pa_cons ha (pa_cons hb (pa_cons hcc pa_nil hs3) hs2) hs1) hw hs) fun D σ H ⟨ds, F, s, w⟩ => ⟨ds, F, s, wP_toO w fun d v F1 H1 g1 q1 w1 => ⟨ds, F1, s.grow g1, wP_toO w1 fun d2 v2 F2 H2 g2 q2 w2 => ⟨ds, F2, (s.grow g1).grow g2, wN_toO w2 fun d3 p F3 H3 g3 n1 n2 n3 w3 =>
    ⟨v, v2, _, rfl, w3 _ F3 H3 (.refl F3) (((((s.grow g1).grow g2).set (q1.mono g2.ff)).set q2).setNew g3 n1 n2 n3)⟩⟩⟩⟩
end
/-! ### x[i] = e, x a list of one's own -/
def lputS (i : Nat) (fk fv : ES) : DS → Out := fun ds => toO (fv ds) fun v => match ds[i]? with
  | some (.ow (.list xs)) => toO (fk ds) fun k => match k with
    | .int j => match ixN xs.length j with
      | some m => .nx (ds.set i (.ow (.list (xs.set m v))))
      | none => .bad
    | _ => .bad
  | _ => .bad
theorem DqAll.set {K : PySem.W.Frag} {H : Hp} {v : V} {d : PyData} (q : Dq K H v d) : ∀ {vs : List V} {ds : List PyData} (n : Nat), DqAll K H vs ds → DqAll K H (vs.set n v) (ds.set n d)
  | _, _, _, .nil => .nil
  | _, _, 0, .cons _ t => .cons q t
  | _, _, n + 1, .cons h t => .cons h (DqAll.set q n t)
theorem d_lput (i : Nat) {x : Str} {p1 pos' : Pos} (hk : PE X a (qT X.K c fa)) (hv : PE X b (qP X.K c fb)) (hN : X.N[i]? = some x := by rfl) (hvis : Vis X.env.scope x := by first | exact Or.inl rfl | exact Or.inr (Or.inl rfl) | exact Or.inr (Or.inr rfl)) (hd : (x == ("__debug__" : Str)) = false := by decide) (hcd : (x == ("__classdict__" : Str)) = false := by decide)
    (ha : ∀ v, assign (.Subscript (.Name x p1) a pos') X.env v = (do
      let ov ← holding [v] (eval (.Name x p1) X.env)
      let iv ← holding [v, ov] (eval a X.env)
      standAt pos'
      holding [v, ov, iv] (setItem ov iv v)
      release [v, ov, iv] []) := by intro _; rfl)
    (hs : swapsWithSole [.Subscript (.Name x p1) a pos'] b pos.line X.env = pure false := by rfl) (hw : swappedStores [.Subscript (.Name x p1) a pos'] b X.env = pure none := by rfl)
    (h1 : (assignEach [.Subscript (.Name x p1) a pos'] X.env).map (·.2) = [assign (.Subscript (.Name x p1) a pos') X.env] := by rfl) : PS X (.Assign [.Subscript (.Name x p1) a pos'] b pos) (qS X.K c (lputS i fa fb)) := by
  refine ps_imp (ps_asg hv (pg_sub (pe_var hN hvis hd hcd) hk set_list ha) hs hw h1) fun D σ H ⟨ds, F, s, w⟩ => ⟨ds, F, s, wP_toO w fun d v F1 H1 g1 q1 w1 => ?_⟩
  split at w1
  · rename_i xs hi
    have s1 := s.grow g1
    obtain ⟨p, e1, e2, e3, l, e4, e5⟩ := s1.sl i _ hi
    refine ⟨.ref p, e1, ds, F1, s1, wT_toO w1 fun d2 v2 F2 H2 g2 q2 w2 => ?_⟩
    cases q2 with
    | int j =>
      cases hm : ixN xs.length j with
      | none => simp only [hm] at w2; exact w2.elim
      | some m =>
        simp only [hm] at w2
        refine ⟨p, l, j, m, rfl, rfl, g2.hh.keep _ _ e4 rfl, by rw [e5.length]; exact hm, w2 σ F2 _ (.refl F2) ((s1.grow g2).mut hi e1 ⟨_, upd_same, (e5.mono g2.ff).set (q1.mono g2.ff) m⟩)⟩
    | _ => exact w2.elim
  · exact w1.elim
/-! ### x.extend(e) -/
theorem d_ext (i : Nat) {x : Str} {p1 apos cpos : Pos} (he : PE X e (qN X.K c f)) (hN : X.N[i]? = some x := by rfl) (hv : Vis X.env.scope x := by first | exact Or.inl rfl | exact Or.inr (Or.inl rfl) | exact Or.inr (Or.inr rfl)) (hd : (x == ("__debug__" : Str)) = false := by decide) (hcd : (x == ("__classdict__" : Str)) = false := by decide)
    (hbase : attributeBase (.Name x p1) "extend" X.env (eval (.Name x p1) X.env) = eval (.Name x p1) X.env := by rfl)
    (hfew : ((backTo cpos (starEach [e] X.env)).all (fun x => !x.1) && (backToKw cpos (keywordEach [] X.env)).all (fun x => x.1.isSome) && decide ([e].length + ([] : List Keyword).length + (if ([] : List Keyword).isEmpty then 0 else 1) < 30)) = true := by rfl)
    (hline : (apos.endLine == cpos.line) = true := by rfl) (hs1 : starEach [e] X.env = (false, eval e X.env) :: starEach [] X.env := by rfl) (hpl : (backTo cpos (starEach [] X.env)).any (·.1) = false := by rfl)
    (hs : swapsWith (.Call (.Attribute (.Name x p1) "extend" apos) [e] [] cpos) none pos.line X.env = pure false := by rfl) : PS X (.Expr (.Call (.Attribute (.Name x p1) "extend" apos) [e] [] cpos) pos) (qS X.K c (extS i f)) :=
  ps_imp (ps_expr (pe_bm PySem.F.plainAttrs_list PySem.F.slot_list_extend PySem.F.type_list_extend mt_extend (pe_var hN hv hd hcd) (pa_cons he pa_nil hs1) hbase hfew hline hs1 hpl) hs) fun D σ H h => t_ext h
/-! ### x.remove(e), x a list of ints of one's own that has it -/
def remS (i : Nat) (f : ES) : DS → Out := fun ds => match ds[i]? with
  | some (.ow (.list xs)) => toO (f ds) fun d => match d, intsO xs with
    | .int k, some ns => if k ∈ ns then .nx (ds.set i (.ow (.list ((ns.erase k).map .int)))) else .bad
    | _, _ => .bad
  | _ => .bad
theorem dq_ints {K : PySem.W.Frag} {H : Hp} : ∀ ns : List Int, DqAll K H (ns.map V.int) (ns.map .int)
  | [] => .nil
  | n :: r => .cons (.int n) (dq_ints r)
theorem d_rem (i : Nat) {x : Str} {p1 apos cpos : Pos} (hc : X.calm = true) (he : PE X e (qT X.K c f)) (hN : X.N[i]? = some x := by rfl) (hv : Vis X.env.scope x := by first | exact Or.inl rfl | exact Or.inr (Or.inl rfl) | exact Or.inr (Or.inr rfl)) (hd : (x == ("__debug__" : Str)) = false := by decide) (hcd : (x == ("__classdict__" : Str)) = false := by decide)
    (hbase : attributeBase (.Name x p1) "remove" X.env (eval (.Name x p1) X.env) = eval (.Name x p1) X.env := by rfl)
    (hfew : ((backTo cpos (starEach [e] X.env)).all (fun x => !x.1) && (backToKw cpos (keywordEach [] X.env)).all (fun x => x.1.isSome) && decide (([e] : List Expr).length + ([] : List Keyword).length + (if ([] : List Keyword).isEmpty then 0 else 1) < 30)) = true := by rfl)
    (hline : (apos.endLine == cpos.line) = true := by rfl) (hs1 : starEach [e] X.env = (false, eval e X.env) :: starEach [] X.env := by rfl) (hpl : (backTo cpos (starEach [] X.env)).any (·.1) = false := by rfl)
    (hs : swapsWith (.Call (.Attribute (.Name x p1) "remove" apos) [e] [] cpos) none pos.line X.env = pure false := by rfl) : PS X (.Expr (.Call (.Attribute (.Name x p1) "remove" apos) [e] [] cpos) pos) (qS X.K c (remS i f)) := by
  refine ps_imp (ps_expr (pe_remX hc LamX.takes0 (pe_var hN hv hd hcd) he hbase hfew hline hs1 hpl) hs) fun D σ H ⟨ds, F, s, w⟩ => ?_
  unfold remS at w
  split at w
  · rename_i xs hi
    obtain ⟨p, e1, e2, e3, vs, e4, e5⟩ := s.sl i _ hi
    refine ⟨.ref p, e1, .inl ⟨rfl, _, .inl (.inl e4)⟩, ds, F, s, wT_toO w fun d v F1 H1 g1 q1 w1 => ?_⟩
    cases q1 with
    | int k =>
      cases hn : intsO xs with
      | none => simp only [hn] at w1; exact w1.elim
      | some ns =>
        simp only [hn] at w1
        have ev := ints_of e5 hn
        subst ev
        by_cases hk : k ∈ ns
        · simp only [if_pos hk] at w1
          refine ⟨p, ns, k, rfl, rfl, g1.hh.keep _ _ e4 rfl, fun _ => w1 σ F1 _ (.refl F1) ((s.grow g1).mut hi e1 ⟨_, upd_same, dq_ints _⟩), fun z => absurd hk z⟩
        · simp only [if_neg hk] at w1
          exact w1.elim
    | _ => exact w1.elim
  · exact w.elim
/-! ### x.count(e), x.index(e) -/
def rCountD (K : PySem.W.Frag) : V → List V → Hp → VK → Prop := fun x xs H Q => ∃ (a : Addr) (y : V) (d : PyData) (ds : List PyData), x = V.ref a ∧ xs = [y] ∧ Dp K H (V.ref a) (.list ds) ∧ Dp K H y d ∧
  SeqAt.shaped (.list ds) = true ∧ SeqAt.shaped d = true ∧ Q (.int (ds.countP fun z => PyData.eqv z d : Nat)) H
theorem mt_countD {X : Cx} (hu : X.A.units + 65 < cLine) : MtR X "list.count" (rCountD X.K) := by
  intro pins s σ H x xs v us Q I rx rxs h
  obtain ⟨l, y, d, ds, rfl, rfl, hl, hy, sl, sd, q⟩ := h
  cases rx
  obtain ⟨uy, rfl, ry⟩ := rxs.one
  obtain ⟨bs, r1⟩ := Dp.reads I d y uy hy ry
  have hxs : PyData.canLayAll0 ds = true := SeqAt.canLay_of_shaped sl
  have hroom : X.A.units + 1 + min (PyData.depthAll ds) d.depth < cLine := room_in_shaped sd hu
  cases hl with
  | lst hs ha =>
    obtain ⟨its, rv, ⟨⟨cls, dd, data, sls⟩, n, ho, hc, hdn, hdt⟩, hlen⟩ := I.list hs
    simp only at hc hdt
    subst hc hdt
    obtain ⟨as, h4⟩ := Dp.readsAll I ds _ its ha rv
    have hmap : its.map (SeqAt.readOf s.heap) = ds := SeqAt.readsAll_map ds its as hxs h4
    refine call_meets PySem.F.slot_list_count ⟨_, ho, rfl⟩ PySem.F.entry_list_count (PySem.F.args_list_count_2 _ _)
      (SeqAt.list_countAt l its.toArray n dd sls uy (fun u => PyData.eqv (SeqAt.readOf s.heap u) d)) ⟨ho, SeqAt.items_eqAt (vs := its.toArray) (show ReadsAll s.heap its.toArray.toList ds as from h4) r1 hxs (SeqAt.canLay_of_shaped sd) hroom, ?_⟩
    have ec : its.toArray.toList.countP (fun u => PyData.eqv (SeqAt.readOf s.heap u) d) = ds.countP fun z => PyData.eqv z d := by
      rw [← hmap, List.countP_map]
      rfl
    exact ⟨.int (ds.countP fun z => PyData.eqv z d : Nat), H, I.tok _, ⟨s.toks, by rw [ec]⟩, q⟩
def countD (e d : PyData) : R PyData := match e with
  | .list ds => if (SeqAt.shaped d && SeqAt.shaped (.list ds)) = true then .ok (.int (ds.countP fun z => PyData.eqv z d : Nat)) else .bad
  | _ => .bad
def indexD (e d : PyData) : R PyData := match e with
  | .list ds => if (SeqAt.shaped d && SeqAt.shaped (.list ds) && decide (ds.findIdx (fun z => PyData.eqv z d) < ds.length)) = true then .ok (.int (ds.findIdx fun z => PyData.eqv z d : Nat)) else .bad
  | _ => .bad
/-- a list first -/
def opL (g : PyData → PyData → R PyData) (fa fb : ES) : ES := fun ds => fa ds >>= fun d => match d with
  | .list xs => fb ds >>= fun e => g (.list xs) e
  | _ => .bad
theorem t_bm1 {K : PySem.W.Frag} {r : V → List V → Hp → VK → Prop} {g : PyData → PyData → R PyData} (hr : OpD K (fun x y H Q => r x [y] H Q) g) {σ : L2.St} {H : Hp} {Q : VK} (h : qP K c (opL g fa fb) σ H Q) : tBM K "list" r (qT K c fa) (tCons (qT K c fb) tNil) σ H Q := by
  obtain ⟨ds, F, s, w⟩ := h
  refine ⟨ds, F, s, ?_⟩
  unfold opL at w
  cases ha : fa ds with
  | bad => rw [ha] at w; exact w
  | err x => rw [ha] at w; exact w
  | ok d =>
    rw [ha, R.ok_bind] at w
    intro v F1 H1 g1 q1
    cases d with
    | list xs =>
      refine ⟨?_, ds, F1, s.grow g1, ?_⟩
      · cases q1 with
        | lst hs ha => exact .inl ⟨rfl, _, hs⟩
      · cases hb : fb ds with
        | bad => simp only [hb] at w; exact w
        | err x => simp only [hb] at w; exact w
        | ok d2 =>
          simp only [hb, R.ok_bind] at w
          intro v2 F2 H2 g2 q2
          rcases hr v v2 _ d2 H2 (q1.mono g2.hh) q2 with ⟨z, u, e1, s1, k⟩ | e1
          · rw [e1] at w
            exact k _ (w u F2 H2 (g1.trans g2) (s1 F2))
          · rw [e1] at w
            exact w.elim
    | _ => exact w.elim
theorem d_count {apos cpos : Pos} (hu : X.A.units + 65 < cLine) (ha : PE X a (qT X.K c fa)) (hb : PE X b (qT X.K c fb)) (hbase : attributeBase a "count" X.env (eval a X.env) = eval a X.env := by rfl)
    (hfew : ((backTo cpos (starEach [b] X.env)).all (fun x => !x.1) && (backToKw cpos (keywordEach [] X.env)).all (fun x => x.1.isSome) && decide (([b] : List Expr).length + ([] : List Keyword).length + (if ([] : List Keyword).isEmpty then 0 else 1) < 30)) = true := by rfl)
    (hline : (apos.endLine == cpos.line) = true := by rfl) (hs1 : starEach [b] X.env = (false, eval b X.env) :: starEach [] X.env := by rfl) (hpl : (backTo cpos (starEach [] X.env)).any (·.1) = false := by rfl) :
    PE X (.Call (.Attribute a "count" apos) [b] [] cpos) (qP X.K c (opL countD fa fb)) :=
  pe_imp (pe_bm PySem.F.plainAttrs_list PySem.F.slot_list_count PySem.F.type_list_count (mt_countD hu) ha (pa_cons hb pa_nil hs1) hbase hfew hline hs1 hpl) fun σ H Q h => t_bm1 (fun x y d e H h1 h2 => by
    cases h1 with
    | @lst p vs ds hs hd =>
      by_cases hz : (SeqAt.shaped e && SeqAt.shaped (.list ds)) = true
      · obtain ⟨s1, s2⟩ := Bool.and_eq_true_iff.mp hz
        exact .inl ⟨_, _, if_pos hz, fun _ => .int _, fun Q q => ⟨p, y, e, ds, rfl, rfl, dp_of (.lst hs hd) (SeqAt.canLay_of_shaped s2), dp_of h2 (SeqAt.canLay_of_shaped s1), s2, s1, q⟩⟩
      · exact .inr (if_neg hz)
    | _ => exact .inr rfl) h
theorem d_index {apos cpos : Pos} (hu : X.A.units + 65 < cLine) (ha : PE X a (qT X.K c fa)) (hb : PE X b (qT X.K c fb)) (hbase : attributeBase a "index" X.env (eval a X.env) = eval a X.env := by rfl)
    (hfew : ((backTo cpos (starEach [b] X.env)).all (fun x => !x.1) && (backToKw cpos (keywordEach [] X.env)).all (fun x => x.1.isSome) && decide (([b] : List Expr).length + ([] : List Keyword).length + (if ([] : List Keyword).isEmpty then 0 else 1) < 30)) = true := by rfl)
    (hline : (apos.endLine == cpos.line) = true := by rfl) (hs1 : starEach [b] X.env = (false, eval b X.env) :: starEach [] X.env := by rfl) (hpl : (backTo cpos (starEach [] X.env)).any (·.1) = false := by rfl) :
    PE X (.Call (.Attribute a "index" apos) [b] [] cpos) (qP X.K c (opL indexD fa fb)) :=
  pe_imp (pe_bm PySem.F.plainAttrs_list PySem.F.slot_list_index PySem.F.type_list_index (mt_indexD hu) ha (pa_cons hb pa_nil hs1) hbase hfew hline hs1 hpl) fun σ H Q h => t_bm1 (fun x y d e H h1 h2 => by
    cases h1 with
    | @lst p vs ds hs hd =>
      by_cases hz : (SeqAt.shaped e && SeqAt.shaped (.list ds) && decide (ds.findIdx (fun z => PyData.eqv z e) < ds.length)) = true
      · have hz' := hz
        simp only [Bool.and_eq_true, decide_eq_true_eq] at hz'
        obtain ⟨⟨s1, s2⟩, hlt⟩ := hz'
        refine .inl ⟨_, _, if_pos hz, fun _ => .int _, fun Q q => ⟨p, y, e, ds, ds.findIdx (fun z => PyData.eqv z e), ds[ds.findIdx (fun z => PyData.eqv z e)], rfl, rfl, dp_of (.lst hs hd) (SeqAt.canLay_of_shaped s2), dp_of h2 (SeqAt.canLay_of_shaped s1), s2, s1, List.getElem?_eq_getElem hlt, List.findIdx_getElem (p := fun z => PyData.eqv z e), fun m z' hm hz' => ?_, q⟩⟩
        have h3 := List.not_of_lt_findIdx hm
        obtain ⟨hml, hme⟩ := List.getElem?_eq_some_iff.mp hz'
        rw [hme] at h3
        simpa using h3
      · exact .inr (if_neg hz)
    | _ => exact .inr rfl) h
/-! ### enumerate(x) -/
def enD (n : Nat) : List PyData → List PyData
  | [] => []
  | x :: xs => .tuple [.int n, x] :: enD (n + 1) xs
theorem enD_get : ∀ {xs : List PyData} {n i : Nat} {d : PyData}, (enD n xs)[i]? = some d → ∃ x, xs[i]? = some x ∧ d = .tuple [.int ((n + i : Nat) : Int), x]
  | [], _, _, _, h => by simp [enD] at h
  | x :: xs, n, 0, d, h => by
    have h : some (PyData.tuple [.int n, x]) = some d := h
    cases h
    exact ⟨x, rfl, rfl⟩
  | x :: xs, n, i + 1, d, h => by
    have h : (enD (n + 1) xs)[i]? = some d := h
    obtain ⟨y, e1, e2⟩ := enD_get h
    exact ⟨y, e1, by rw [e2, Nat.add_assoc, Nat.add_comm 1 i]⟩
theorem enD_len : ∀ {xs : List PyData} {n : Nat}, (enD n xs).length = xs.length
  | [], _ => rfl
  | x :: xs, n => by simp [enD, enD_len]
theorem wk_enum {K : PySem.W.Frag} {F1 : Hp} {a : Addr} {vs : List V} {ds : List PyData} (hs : SqL K F1 a vs) (ha : DqAll K F1 vs ds) : Wk K (Ite K a) F1 (enD 0 ds) where
  go := fun i F H d f1 f2 e => by
    obtain ⟨x, e1, rfl⟩ := enD_get e
    obtain ⟨v, k1, k2⟩ := ha.get e1
    refine ⟨⟨vs, v, (f1.trans f2).seq hs, k1⟩, fun x H' y => ?_⟩
    obtain ⟨T, x1, rfl, nT, rfl, y1⟩ := y
    have z1 := y1 vs ((f1.trans f2).seq hs)
    rw [k1] at z1
    cases z1
    have fT := f2.free nT
    refine ⟨upd F T (.tup [.int (i : Nat), v]), fun _ => .new f2 nT, .tup upd_same (.cons ?_ (.cons ((k2.mono f1).mono (same_new fT)) .nil))⟩
    rw [Nat.zero_add]
    exact .int _
  stop := fun i F H f1 f2 e => ⟨vs, (f1.trans f2).seq hs, by rw [ha.length, ← enD_len (n := 0)]; exact e⟩
def itE (f : ES) : DS → R (List PyData) := fun ds => f ds >>= fun d => match d with
  | .list xs => .ok (enD 0 xs)
  | _ => .bad
theorem d_itE {p tpos : Pos} {elts : List Expr} {kk : Nat} (h : PE X e (qP X.K c f)) (hm : X.mg "enumerate" = none) (hg : Gl X "enumerate" := by rfl) (hs : starEach [e] X.env = [(false, eval e X.env)] := by rfl) :
    PI X (.Tuple elts kk tpos) (.Call (.Name "enumerate" p) [e] [] pos) (qI X.K c (itE f)) := pi_imp (pi_enum hg hm (pa_cons h pa_nil hs) hs) fun σ H Rr ⟨ds, F, s, w⟩ => ⟨ds, F, s, wP_bindI w fun d v F1 H1 g1 q1 w1 => by
  cases d with
  | list xs =>
    cases q1 with
    | lst hs ha => exact ⟨_, _, rfl, g1.fh.seq hs, w1 _ F1 H1 (.refl g1.fh) (wk_enum hs ha)⟩
  | _ => exact w1.elim⟩
/-- an item of a list of one's own lasts; so do the items of its slices -/
def ixO (i : Nat) (fb : ES) : ES := fun ds => match ds[i]? with
  | some (.ow (.list xs)) => fb ds >>= fun k => ixD (.list xs) k
  | _ => .bad
theorem d_ixO (i : Nat) {x : Str} {p1 : Pos} (hb : PE X b (qT X.K c fb)) (hN : X.N[i]? = some x := by rfl) (hv : Vis X.env.scope x := by first | exact Or.inl rfl | exact Or.inr (Or.inl rfl) | exact Or.inr (Or.inr rfl)) (hd : (x == ("__debug__" : Str)) = false := by decide) (hcd : (x == ("__classdict__" : Str)) = false := by decide)
    (hs : PlainIx b := by exact fun _ _ => rfl) : PE X (.Subscript (.Name x p1) b pos) (qP X.K c (ixO i fb)) := by
  refine pe_imp (pe_ix ix_seq (pe_var hN hv hd hcd) hb hs) fun σ H Q h => ?_
  obtain ⟨ds, F, s, w⟩ := h
  unfold ixO at w
  split at w
  · rename_i xs hi
    obtain ⟨p, e1, e2, e3, vs, e4, e5⟩ := s.sl i _ hi
    refine ⟨.ref p, e1, ds, F, s, wT_bind w fun d2 v2 F2 H2 g2 q2 w2 => ?_⟩
    cases q2 with
    | int j =>
      cases hz : ixD (.list xs) (.int j) with
      | bad => rw [hz] at w2; exact w2.elim
      | err x => exact absurd hz (ixD_noerr _ _ _)
      | ok z =>
        rw [hz] at w2
        unfold ixD atR at hz
        cases q : L2.atI xs j with
        | none => simp only [q] at hz; cases hz
        | some y =>
          simp only [q] at hz
          cases hz
          obtain ⟨u, k1, k2⟩ := e5.atI q
          exact .inl ⟨_, vs, j, u, rfl, rfl, .inl (.inl (g2.hh.keep _ _ e4 rfl)), k1, w2 u F2 H2 (.refl g2.fh) (k2.mono g2.ff)⟩
    | _ => exact w2.elim
  · exact w.elim
def slO (i : Nat) (lo hi : DS → R (Option Int)) : ES := fun ds => match ds[i]? with
  | some (.ow (.list xs)) => lo ds >>= fun l => hi ds >>= fun h => .ok (.list (cutL xs l h))
  | _ => .bad
theorem d_slO (i : Nat) {x : Str} {p1 : Pos} {lo hi : Option Expr} {fl fh : DS → R (Option Int)} {p2 : Pos} (hl : PO X lo (qO X.K c fl)) (hh : PO X hi (qO X.K c fh)) (hN : X.N[i]? = some x := by rfl) (hv : Vis X.env.scope x := by first | exact Or.inl rfl | exact Or.inr (Or.inl rfl) | exact Or.inr (Or.inr rfl)) (hd : (x == ("__debug__" : Str)) = false := by decide) (hcd : (x == ("__classdict__" : Str)) = false := by decide) :
    PE X (.Subscript (.Name x p1) (.Slice lo hi none p2) pos) (qN X.K c (slO i fl fh)) := by
  refine pe_imp (pe_slice sl_list (pe_var hN hv hd hcd) hl hh) fun σ H Q h => ?_
  obtain ⟨ds, F, s, w⟩ := h
  unfold slO at w
  split at w
  · rename_i xs hi
    obtain ⟨p, e1, e2, e3, vs, e4, e5⟩ := s.sl i _ hi
    refine ⟨.ref p, e1, ds, F, s, ?_⟩
    cases hfl : fl ds with
    | bad => rw [hfl] at w; exact w
    | err x => rw [hfl] at w; exact w
    | ok l =>
      rw [hfl, R.ok_bind] at w
      intro F2 H2 g2
      refine ⟨ds, F2, s.grow g2, ?_⟩
      cases hfh : fh ds with
      | bad => rw [hfh] at w; exact w
      | err x => rw [hfh] at w; exact w
      | ok u =>
        rw [hfh, R.ok_bind] at w
        intro F3 H3 g3
        have g23 := g2.trans g3
        exact ⟨_, _, rfl, .inl (.inl (g23.hh.keep _ _ e4 rfl)), fun q hq => w q F3 _ (g23.trans (.own g3.fh hq)) (g23.hh.free hq) (g3.fh.free hq) ⟨_, upd_same, (cut_dq e5 l u).mono g23.ff⟩⟩
  · exact w.elim
theorem d_dnin (hu : X.A.units + 1 < cLine) (ha : PE X a (qT X.K c fa)) (hb : PE X b (qT X.K c fb)) (hm : behindInMarks .NotIn b = false := by rfl) : PE X (.Compare a [.NotIn] [b] pos) (qP X.K c (op2 dninD fa fb)) := pe_imp (pe_cmp (pc_dnotin hu ha hb) hm) fun _ _ _ h => t_dnin h
end
end Cb
namespace Cb
open PySem PySem.Spec PyProof.Rows L2
theorem hu65 {k : Nat} {A : Around} (r : Room k A) : A.units + 65 < cLine := by have := r.un; omega
/-! ### set(xs), xs a list -/
abbrev set0 (w : World) : Obj := { cls := .type "set", dict := none, data := .set #[] 0 (.fresh 0 0 (!w.params.followText "set-order")) }
section
variable {P : Program} {w : World} {A : Around} {E : Value → Shared → Prop} {u : Shared}
/-- what the filling of the new set must do -/
def Fills (P : Program) (w : World) (S : Addr) (xs : Array Value) (Z : Heap → Prop) : Prop :=
  ∀ (A1 : Around) (I : Addr) (fp wr : List Addr) (G : Array GenState → Array GenState → Prop) (St : Nat → Shared → Prop) (R : Result → Shared → Prop), WalksS P w A1.in1 I fp wr G xs.size (fun i v => xs[i]? = some v) St → S ∉ fp →
    ∀ s1 : Shared, St 0 s1 → s1.heap.get? S = some (set0 w) → (∀ s', Moved (S :: wr) G s1 s' → Z s'.heap → R (.ok (.ret .none)) s') → codeAny (model P w) A1 (.builtin "set.update.loop" ⟨[.ref S, .ref I], []⟩) R s1
theorem set_gen {l : Addr} {xs : Array Value} {Q : Value → Shared → Prop} {Z : Heap → Prop} (hh : A.handled = none) (hl : u.heap.IsList l xs) (fill : Fills P w u.heap.objs.size xs Z)
    (q : ∀ (h1 : Heap) (tk : Nat), Z h1 → (∀ b o, u.heap.get? b = some o → h1.get? b = some o) → Q (.ref u.heap.objs.size) { u with heap := h1, toks := tk }) : wpAny (model P w) A (call (.type "set") [.ref l]) Q E u := by
  obtain ⟨cM, tM, hM⟩ := PySem.F.called_set.mro
  have f1 := PySem.F.called_set.made; have f2 := PySem.F.called_set.sub; have f3 := PySem.F.called_set.notType
  have f4 := PySem.F.called_set.canCreate; have f5 := PySem.F.typeCall_set_1 (.ref l)
  refine wpAny_call (codeAny_of_tree (show wpAny _ _ (callAny (.type "set") _) _ _ _ from wpAny_pure ⟨Code.quiet_builtin _ (by decide +kernel), codeAny_builtin PySem.F.entry_type_call ?_⟩))
  rw [Around.under_plain (weight_type_call_type "set" [Value.ref l] []) rfl]
  repeat (any_goals (first | assumption | wp_step))
  refine codeAny_mono (code_set_led1 (Value.ref l) (E := E) (Q₁ := fun ob s1 => ob = .ref u.heap.objs.size ∧ s1 = { u with heap := u.heap.push (set0 w) }) ⟨rfl, rfl⟩) fun r1 s1 hr1 => ?_
  match r1, hr1 with
  | .error _, z => exact z
  | .ok .next, z => exact z.elim
  | .ok .brk, z => exact z.elim
  | .ok .cont, z => exact z.elim
  | .ok (.ret ob), z =>
    obtain ⟨rfl, rfl⟩ := z
    have gS : (u.heap.push (set0 w)).get? u.heap.objs.size = some (set0 w) := Heap.get?_push_size _ rfl
    have tS : Shared.TypeIs { u with heap := u.heap.push (set0 w) } (.ref u.heap.objs.size) "set" := ⟨_, gS, rfl⟩
    have f6 := PySem.F.called_set.init.lookup; have f7 := PySem.F.called_set.init.bind (.ref u.heap.objs.size)
    repeat (any_goals (first | assumption | wp_step))
    refine codeAny_mono (codeAny_call_builtin (R := wants (fun r s2 => r = .none ∧ ∃ h1 tk, s2 = { u with heap := h1, toks := tk } ∧ Z h1 ∧ ∀ b o, u.heap.get? b = some o → h1.get? b = some o) E) PySem.F.called_set.init.plain PySem.F.entry_set_init (check_set_init_1 tS ?_)) fun r2 s2 hr2 => ?_
    · obtain ⟨⟨oc, od, oD, osl⟩, hol, hoc, nl, hod⟩ := hl
      simp only at hoc hod
      subst hoc hod
      have hol1 : (u.heap.push (set0 w)).get? l = some { cls := .type "list", dict := od, data := .seq xs nl, slots := osl } := Heap.get?_push_of_some _ hol
      have g1 := PySem.F.sub_list_set; have g2 := PySem.F.sub_list_frozenset
      have g3 : (Value.type "list" == Value.type "dict") = false := by decide
      have isL : (u.heap.push (set0 w)).IsList l xs := ⟨_, hol1, rfl, nl, rfl⟩
      unfold Builtin.«set.__init__» noKeywords Builtin.Frozenset.updateFrom
      generalize ePI : pyIter = PI
      wp_walk
      subst ePI
      refine wpAny_pyIter_list isL (wpAny_bind (wpAny_runValue ?_))
      have ltl : l < u.heap.objs.size := Heap.lt_size hol
      have h3 : A.in1.in1.in1.handled = none := by simp [hh]
      have sz : (u.heap.push (set0 w)).objs.size = u.heap.objs.size + 1 := Heap.size_push ..
      have neI : l ≠ (u.heap.push (set0 w)).objs.size := by rw [sz]; exact Nat.ne_of_lt (Nat.lt_succ_of_lt ltl)
      have nf : u.heap.objs.size ∉ [(u.heap.push (set0 w)).objs.size, l] := by
        simp only [List.mem_cons, List.not_mem_nil, or_false, not_or, sz]
        exact ⟨Nat.ne_of_lt (Nat.lt_succ_self _), Nat.ne_of_gt ltl⟩
      refine fill _ _ _ _ _ _ _ ((Walks.list h3 _ l neI xs).toS) nf _ ⟨⟨_, Heap.get?_push_size _ rfl, rfl, rfl⟩, isL.push _⟩ (Heap.get?_push_of_some _ gS) fun s3 hm hZ => ?_
      obtain ⟨h1, gg, dr, tk, os⟩ := s3
      have e1 : gg = u.gens := hm.gens
      have e2 : dr = u.drawn := hm.drawn
      have e3 : os = u.os := hm.os
      subst e1; subst e2; subst e3
      show wpAny _ _ _ _ _ _
      refine wpAny_pure (show wpAny _ _ (ret Value.none) _ _ _ from wpAny_pure ⟨rfl, h1, tk, rfl, hZ, fun b o e => ?_⟩)
      have lb : b < u.heap.objs.size := Heap.lt_size e
      refine hm.heap b o ?_ (Heap.get?_push_of_some _ (Heap.get?_push_of_some _ e))
      simp only [List.mem_cons, List.not_mem_nil, or_false, not_or, sz]
      exact ⟨Nat.ne_of_lt lb, Nat.ne_of_lt (Nat.lt_succ_of_lt lb)⟩
    · match r2, hr2 with
      | .error _, z => exact z
      | .ok .next, z => exact z.elim
      | .ok .brk, z => exact z.elim
      | .ok .cont, z => exact z.elim
      | .ok (.ret r), z =>
        obtain ⟨rfl, h1, tk, rfl, hZ, hk⟩ := z
        repeat (any_goals (first | assumption | wp_step))
        exact q _ _ hZ hk
/-! ints -/
theorem fills_ints {S : Addr} {xs : Array Value} {ns : List Int} (hi : IntsAre xs.toList ns) (hb : ns.length + 1 < scanBound) : Fills P w S xs (fun h => ∃ c, c ≤ ns.length ∧ SetR w h S (fun j => decide (j ∈ ns)) c) := by
  intro A1 I fp wr G St R W hS s1 st hg hR
  have hn : xs.size = ns.length := by
    have z := IntsAre.length hi
    rwa [Array.length_toList] at z
  refine set_update_ints W S hS ns hn hb (fun i v hv => ?_) (xs.size - 0) 0 s1 rfl (Nat.zero_le _) st ⟨0, Nat.le_refl 0, setR_new_at hg⟩ fun s2 c hm hc z => hR s2 hm ⟨c, by omega, z⟩
  have li : i < ns.length := by rw [← hn]; exact (Array.getElem?_eq_some_iff.mp hv).1
  obtain ⟨t, e⟩ := IntsAre.int_at hi i v (by rw [Array.getElem?_toList]; exact hv)
  exact ⟨ns[i], t, List.getElem?_eq_getElem li, by rw [e, List.getD_eq_getElem?_getD, List.getElem?_eq_getElem li] <;> rfl⟩
/-! texts -/
/-- how many of the first i are unlike those ahead of them -/
def ndS (xs : List Str) : Nat → Nat
  | 0 => 0
  | i + 1 => if (xs.take i).any (· == xs.getD i Str.empty) = true then ndS xs i else ndS xs i + 1
theorem ndS_le (xs : List Str) : ∀ i, ndS xs i ≤ i
  | 0 => Nat.le_refl 0
  | i + 1 => by
    have := ndS_le xs i
    unfold ndS
    split <;> omega
theorem fills_strs {S : Addr} {xs : Array Value} {ts : List Str} (hi : StrsAre xs.toList ts) (hb : ts.length + 1 < scanBound) : Fills P w S xs (fun h => h.SetOf (PySem.strKind P w) S (fun k => ts.any (· == k)) (ndS ts ts.length)) := by
  intro A1 I fp wr G St R W hS s1 st hg hR
  have hn : ts.length = xs.size := by rw [← StrsAre.len_eq hi, Array.length_toList]
  have nw : S ∉ wr := fun z => hS (W.sub _ z)
  have sb : ∀ b ∈ wr, b ∈ S :: wr := fun b z => List.mem_cons_of_mem _ z
  have main : ∀ (k i : Nat) (s2 : Shared), xs.size - i = k → i ≤ xs.size → St i s2 → s2.heap.SetOf (PySem.strKind P w) S (fun k => (ts.take i).any (· == k)) (ndS ts i) →
      (∀ s3, Moved (S :: wr) G s2 s3 → s3.heap.SetOf (PySem.strKind P w) S (fun k => ts.any (· == k)) (ndS ts ts.length) → R (.ok (.ret .none)) s3) → codeAny (model P w) A1 (.builtin "set.update.loop" ⟨[.ref S, .ref I], []⟩) R s2 := by
    intro k
    induction k with
    | zero =>
      intro i s2 hk hle hst hset hfin
      have ei : i = xs.size := Nat.le_antisymm hle (Nat.le_of_sub_eq_zero hk)
      refine codeAny_builtin PyProof.Rows.F.entry_set_update_loop (by
        rw [Around.under_plainId PyProof.Rows.F.plain_set_update_loop _]
        refine show wpAny _ A1.in1 (pyNext (.ref I) >>= _) _ _ s2 from wpAny_bind (W.done s2 _ _ (by rw [← ei]; exact hst) fun s3 hm => show wpAny _ A1.in1 (ret Value.none) _ _ s3 from wpAny_pure (hfin s3 (hm.mono sb) ?_))
        obtain ⟨o, es, ep, tb, ho, rest⟩ := hset
        refine SetOf_congr ⟨o, es, ep, tb, hm.heap S _ nw ho, rest⟩ (fun k' => ?_) ?_
        · rw [ei, ← hn, List.take_length]
        · rw [ei, ← hn])
    | succ k ih =>
      intro i s2 hk hle hst hset hfin
      have li : i < xs.size := by omega
      refine codeAny_builtin PyProof.Rows.F.entry_set_update_loop (by
        rw [Around.under_plainId PyProof.Rows.F.plain_set_update_loop _]
        refine show wpAny _ A1.in1 (pyNext (.ref I) >>= _) _ _ s2 from wpAny_bind (W.item i s2 _ _ li hst fun v s3 hv hst3 hm => ?_)
        obtain ⟨tk, rfl⟩ := SS.strs_at hi i v (by rw [Array.getElem?_toList]; exact hv)
        have hs3 : s3.heap.SetOf (PySem.strKind P w) S (fun k => (ts.take i).any (· == k)) (ndS ts i) := by
          obtain ⟨o, es, ep, tb, ho, rest⟩ := hset
          exact ⟨o, es, ep, tb, hm.heap S _ nw ho, rest⟩
        refine show wpAny _ A1.in1 (holding [Value.str (ts.getD i Str.empty) tk] (setAdd S (.str (ts.getD i Str.empty) tk)) >>= _) _ _ s3 from wpAny_bind (wpAny_holding ?_)
        unfold setAdd
        have lei := ndS_le ts i
        refine wpAny_holding (wpAny_bind ((PySem.strKind P w).pyHash (k := ts.getD i Str.empty) (strKind_is _ _ _ _) (wpAny_setAddHashed_of (knd := PySem.strKind P w) (s := { s3 with toks := s3.toks + 1 }) (strKind_is _ _ _ _) rfl hs3 (by omega) fun h1 same hs4 => ?_)))
        have lt' : i < ts.length := by omega
        have hs5 : h1.SetOf (PySem.strKind P w) S (fun k => (ts.take (i + 1)).any (· == k)) (ndS ts (i + 1)) := by
          refine SetOf_congr hs4 (fun k' => ?_) (by rw [ndS])
          rw [List.take_add_one, List.any_append, List.getD_eq_getElem?_getD, List.getElem?_eq_getElem lt']
          simp only [Option.getD_some, Option.toList_some, List.any_cons, List.any_nil, Bool.or_false]
          congr 1
          by_cases e : k' = ts[i]
          · rw [decide_eq_true e, e, beq_self_eq_true]
          · rw [decide_eq_false e]
            exact (beq_eq_false_iff_ne.mpr (fun z => e z.symm)).symm
        refine wpAny_pure ⟨plainId_quiet PyProof.Rows.F.plain_set_update_loop _, ih (i + 1) _ (by omega) li (W.frame _ s3 _ _ hst3 (Nat.le_succ _) fun b hb o e => ?_) hs5 fun s4 hm4 hz => hfin s4 (Moved.trans W.gtrans ((hm.mono sb).then_heap (Nat.le_succ _) fun b o hb e => ?_) hm4) hz⟩
        · exact (same.2 b (fun z => hS (by rw [← z]; exact hb))).trans e
        · exact (same.2 b (fun z => hb (by rw [z]; exact List.mem_cons_self))).trans e)
  refine main (xs.size - 0) 0 s1 rfl (Nat.zero_le _) st ?_ hR
  exact SetOf_congr ((setObjOf_fresh (knd := PySem.strKind P w) (!w.params.followText "set-order")).setOf hg (by unfold scanBound; omega)) (fun _ => rfl) rfl
end
/-! ### sorted(set(xs)) of ints, len(set(xs)) of texts -/
def insU (x : Int) : List Int → List Int
  | [] => [x]
  | y :: r => if x < y then x :: y :: r else if x = y then y :: r else y :: insU x r
def setI : List Int → List Int
  | [] => []
  | n :: r => insU n (setI r)
theorem insU_mem {x k : Int} : ∀ {l : List Int}, k ∈ insU x l ↔ k = x ∨ k ∈ l
  | [] => by simp [insU]
  | y :: r => by
    unfold insU
    split
    · simp
    · split
      · rename_i e
        subst e
        simp
      · rw [List.mem_cons, insU_mem (l := r), List.mem_cons]
        constructor
        · rintro (h | h | h)
          · exact .inr (.inl h)
          · exact .inl h
          · exact .inr (.inr h)
        · rintro (h | h | h)
          · exact .inr (.inl h)
          · exact .inl h
          · exact .inr (.inr h)
theorem insU_up {x : Int} : ∀ {l : List Int}, l.Pairwise (· < ·) → (insU x l).Pairwise (· < ·)
  | [], _ => by simp [insU]
  | y :: r, h => by
    rw [List.pairwise_cons] at h
    unfold insU
    split
    · rename_i hx
      rw [List.pairwise_cons, List.pairwise_cons]
      refine ⟨fun k hk => ?_, h.1, h.2⟩
      rcases List.mem_cons.mp hk with rfl | hk
      · exact hx
      · have := h.1 k hk
        omega
    · split
      · rw [List.pairwise_cons]
        exact h
      · rw [List.pairwise_cons]
        refine ⟨fun k hk => ?_, insU_up h.2⟩
        rcases insU_mem.mp hk with rfl | hk
        · omega
        · exact h.1 k hk
theorem setI_up : ∀ ns : List Int, (setI ns).Pairwise (· < ·)
  | [] => .nil
  | n :: r => insU_up (setI_up r)
theorem setI_mem {k : Int} : ∀ {ns : List Int}, k ∈ setI ns ↔ k ∈ ns
  | [] => Iff.rfl
  | n :: r => by rw [setI, insU_mem, setI_mem (ns := r), List.mem_cons]
theorem up_unique : ∀ {a b : List Int}, a.Pairwise (· < ·) → b.Pairwise (· < ·) → (∀ k, k ∈ a ↔ k ∈ b) → a = b
  | [], [], _, _, _ => rfl
  | [], y :: r, _, _, h => absurd ((h y).mpr List.mem_cons_self) (by simp)
  | x :: r, [], _, _, h => absurd ((h x).mp List.mem_cons_self) (by simp)
  | x :: r, y :: q, ha, hb, h => by
    rw [List.pairwise_cons] at ha hb
    have e : x = y := by
      have h1 := (h x).mp List.mem_cons_self
      have h2 := (h y).mpr List.mem_cons_self
      rcases List.mem_cons.mp h1 with e | h1
      · exact e
      · rcases List.mem_cons.mp h2 with e | h2
        · exact e.symm
        · have a1 := ha.1 y h2
          have a2 := hb.1 x h1
          omega
    subst e
    rw [up_unique ha.2 hb.2 fun k => ⟨fun hk => ?_, fun hk => ?_⟩]
    · have := ha.1 k hk
      rcases List.mem_cons.mp ((h k).mp (List.mem_cons_of_mem _ hk)) with e | z
      · omega
      · exact z
    · have := hb.1 k hk
      rcases List.mem_cons.mp ((h k).mpr (List.mem_cons_of_mem _ hk)) with e | z
      · omega
      · exact z
section
variable {X : Cx} {e a b : Expr} {c : Bk} {f fa fb : ES} {pos : Pos}
def rSetI (K : PySem.W.Frag) (w : World) : List V → Hp → VK → Prop := fun vs H Q => ∃ (a : Addr) (ns : List Int), vs = [V.ref a] ∧ SqL K H a (ns.map V.int) ∧ ns.length ≤ 1000 ∧ ∀ p n, H p = none → n ≤ ns.length → Q (.ref p) (upd H p (SetO w p (fun j => decide (j ∈ ns)) n))
theorem cr_setI (hc : X.calm = true) : CallR X (.type "set") (rSetI X.K X.w) := by
  intro pins s σ H vs us Q I r h
  obtain ⟨a, ns, rfl, hs, hl, q⟩ := h
  rw [Vals.ref1 r]
  obtain ⟨its, rv, pl, _⟩ := I.list hs
  have hi : IntsAre its.toArray.toList ns := ints_of_vals rv
  refine set_gen (I.ok.hd hc) pl.isList (fills_ints hi (by unfold scanBound; omega)) fun h1 tk ⟨n, hn, z⟩ hk => ?_
  exact ⟨.ref _, upd H s.heap.objs.size (SetO X.w s.heap.objs.size (fun j => decide (j ∈ ns)) n), I.laid (t' := tk) hk (Nat.le_refl _) (setO_new z), rfl, q _ _ (I.hok.fresh (Nat.le_refl _)) hn⟩
def sortSetD : PyData → R PyData
  | .list xs => match intsO xs with
    | some ns => if ns.length < 64 then .ok (.list ((setI ns).map .int)) else .bad
    | none => .bad
  | _ => .bad
theorem d_sortSet {p p2 pos2 : Pos} (hc : X.calm = true) (ha : PE X a (qT X.K c f)) (hm : X.mg "sorted" = none) (hm2 : X.mg "set" = none) (hg : Gl X "sorted" := by rfl) (hg2 : Gl X "set" := by rfl)
    (hs : starEach [a] X.env = (false, eval a X.env) :: starEach [] X.env := by rfl) (hpl : (backTo pos2 (starEach [] X.env)).any (·.1) = false := by rfl)
    (hs2 : starEach [.Call (.Name "set" p2) [a] [] pos2] X.env = (false, eval (.Call (.Name "set" p2) [a] [] pos2) X.env) :: starEach [] X.env := by rfl) (hpl2 : (backTo pos (starEach [] X.env)).any (·.1) = false := by rfl) :
    PE X (.Call (.Name "sorted" p) [.Call (.Name "set" p2) [a] [] pos2] [] pos) (qN X.K c (op1 sortSetD f)) := by
  refine pe_imp (pe_callB (cr_sortedSet hc) hg hm (by decide +kernel) (pa_cons (pe_callTy (cr_setI hc) hg2 hm2 (by decide +kernel) (pa_cons ha pa_nil hs) (by decide) (by decide) hs hpl) pa_nil hs2) (by decide) (by decide) hs2 hpl2) fun σ H Q h => ?_
  obtain ⟨ds, F, s, w⟩ := h
  refine ⟨ds, F, s, ?_⟩
  unfold op1 at w
  cases hf : f ds with
  | bad => rw [hf] at w; exact w
  | err x => rw [hf] at w; exact w
  | ok d =>
    rw [hf, R.ok_bind] at w
    intro v F1 H1 g1 q1
    cases q1 with
    | @lst pa vs xs hs ha =>
      cases hn : intsO xs with
      | none => simp only [sortSetD, hn] at w; exact w.elim
      | some ns =>
        by_cases h64 : ns.length < 64
        · simp only [sortSetD, hn, if_pos h64] at w
          have ev := ints_of ha hn
          subst ev
          refine ⟨pa, ns, rfl, hs, by omega, fun p1 n hp1 hn1 => ?_⟩
          refine ⟨p1, _, n, rfl, upd_same, by omega, fun ms p3 hup hmem hlen hp3 => ?_⟩
          have em : ms = setI ns := up_unique hup (setI_up ns) fun k => by rw [hmem k, setI_mem, decide_eq_true_eq]
          subst em
          have G1 : Grow c.T F1 H1 F1 (upd H1 p1 (SetO X.w p1 (fun j => decide (j ∈ ns)) n)) := .own g1.fh hp1
          exact w p3 F1 _ ((g1.trans G1).trans (.own G1.fh hp3)) ((g1.trans G1).hh.free hp3) (G1.fh.free hp3) ⟨_, upd_same, dq_ints _⟩
        · simp only [sortSetD, hn, if_neg h64] at w
          exact w.elim
    | _ => exact w.elim
def strsO : List PyData → Option (List Str)
  | [] => some []
  | .str i :: r => (strsO r).map (i :: ·)
  | _ => none
theorem strs_of {K : PySem.W.Frag} {H : Hp} : ∀ {vs : List V} {ds : List PyData} {ns : List Str}, DqAll K H vs ds → strsO ds = some ns → vs = ns.map V.str
  | _, _, _, .nil, e => by
    cases e
    rfl
  | _, .str i :: r, ns, .cons h t, e => by
    unfold strsO at e
    cases h
    obtain ⟨m, e1, e2⟩ := Option.map_eq_some_iff.mp e
    subst e2
    rw [strs_of t e1]
    rfl
  | _, .none :: _, _, .cons _ _, e => by simp [strsO] at e
  | _, .bool _ :: _, _, .cons _ _, e => by simp [strsO] at e
  | _, .int _ :: _, _, .cons _ _, e => by simp [strsO] at e
  | _, .list _ :: _, _, .cons _ _, e => by simp [strsO] at e
  | _, .tuple _ :: _, _, .cons _ _, e => by simp [strsO] at e
  | _, .dict _ :: _, _, .cons _ _, e => by simp [strsO] at e
def tLenSetS (K : PySem.W.Frag) (ta : TE) : TE := fun σ H Q => ta σ H fun x H1 => ∃ l, ∃ ts : List Str, x = .ref l ∧ SqL K H1 l (ts.map V.str) ∧ ts.length ≤ 1000 ∧ Q (.int (ndS ts ts.length : Nat)) H1
theorem pe_lenSetS {ta : TE} {p p2 q pos : Pos} (hc : X.calm = true) (hg : Gl X "len") (hm : X.mg "len" = none) (hg2 : Gl X "set") (hm2 : X.mg "set" = none) (ha : PE X a ta)
    (na : starEach [a] X.env = (false, eval a X.env) :: starEach [] X.env := by rfl) : PE X (.Call (.Name "len" p) [.Call (.Name "set" p2) [a] [] q] [] pos) (tLenSetS X.K ta) := by
  refine ⟨fun pins s σ H Q I h => Call_ (ld_blt I hg hm boot_len (callWith_builtin1 (args_cons (Call_ (ld_blt I hg2 hm2 boot_set (callWith_type1 (args_cons (thn (ha.run pins s σ H _ I h) fun v s1 ⟨x, H1, I1, r1, q1⟩ => args_nil ?_) na) na rfl))) rfl) rfl rfl))⟩
  obtain ⟨l, ts, rfl, hs, hl, q1⟩ := q1
  cases r1
  obtain ⟨its, rv, pl, _⟩ := I1.list hs
  refine set_gen (I1.ok.hd hc) pl.isList (fills_strs (ts := ts) (by simpa using strsAre_of rv) (by unfold scanBound; omega)) fun h1 tk hS hk => args_nil ?_
  obtain ⟨o, es, ep, t, ho, hex, hd, _, _, _, hf, hn⟩ := hS
  have I2 : Inv X pins σ H1 { s1 with heap := h1, toks := tk } := I1.kept hk
  have le := ndS_le ts ts.length
  exact call_len_set ho hex hd hf (by rw [hn] <;> omega) ⟨.int (ndS ts ts.length : Nat), H1, I2.tok _, ⟨_, by rw [hn]⟩, q1⟩
def lenSetD : PyData → R PyData
  | .list xs => match strsO xs with
    | some ts => if ts.length ≤ 1000 then .ok (.int (ndS ts ts.length : Nat)) else .bad
    | none => .bad
  | _ => .bad
theorem d_lenSet {p p2 q : Pos} (hc : X.calm = true) (ha : PE X a (qT X.K c f)) (hm : X.mg "len" = none) (hm2 : X.mg "set" = none) (hg : Gl X "len" := by rfl) (hg2 : Gl X "set" := by rfl) (na : starEach [a] X.env = (false, eval a X.env) :: starEach [] X.env := by rfl) :
    PE X (.Call (.Name "len" p) [.Call (.Name "set" p2) [a] [] q] [] pos) (qP X.K c (op1 lenSetD f)) := by
  refine pe_imp (pe_lenSetS hc hg hm hg2 hm2 ha na) fun σ H Q h => ?_
  obtain ⟨ds, F, s, w⟩ := h
  refine ⟨ds, F, s, ?_⟩
  unfold op1 at w
  cases hf : f ds with
  | bad => rw [hf] at w; exact w
  | err x => rw [hf] at w; exact w
  | ok d =>
    rw [hf, R.ok_bind] at w
    intro v F1 H1 g1 q1
    cases q1 with
    | @lst pa vs xs hs ha =>
      cases hn : strsO xs with
      | none => simp only [lenSetD, hn] at w; exact w.elim
      | some ts =>
        by_cases hz : ts.length ≤ 1000
        · simp only [lenSetD, hn, if_pos hz] at w
          have ev := strs_of ha hn
          subst ev
          exact ⟨pa, ts, rfl, hs, hz, w _ F1 H1 g1 (.int _)⟩
        · simp only [lenSetD, hn, if_neg hz] at w
          exact w.elim
    | _ => exact w.elim
end
end Cb
namespace Cb
open PySem PySem.Spec PyProof.Rows L2
/-! ### a def called within an except suite, told of the error that is handled -/
section
variable {P : Program} {w : World} {K : PySem.W.Frag} {mg : Str → Option Value} {base : Heap}
theorem call_isP {X : Cx} {a D : Addr} {oe : Obj} (hp : (a, oe) ∈ X.pn) (C : ExcC X.K D) (hz : Zc (.ref D) none oe) (hf : ∃ vs, oe.data = .fields vs) : CallR X (.builtin "isinstance") (rIsE X.K D a) := by
  rintro pins s σ H xs us Q I r ⟨c, cv, b, rfl, hcv, e, q⟩
  obtain ⟨hget, _⟩ := I.pin (a, oe) (List.mem_append_left _ hp)
  have J : PySem.W.InstAt s.heap a oe D none := by
    obtain ⟨vs, hv⟩ := hf
    cases oe
    obtain ⟨h1, h2⟩ := hz
    cases h1; cases h2; cases hv
    exact ⟨hget, rfl, rfl, trivial⟩
  cases r with
  | cons rx rr =>
    cases rx
    cases rr with
    | cons rt rr =>
      cases rr
      rw [hcv _ rt]
      have kx := PySem.W.handS_kitx_exc (x := a) (ox := oe) C.hg C.hk C.hs C.hd C.ha C.hn C.ht C.hm
      exact PySem.W.kia_one kx I.kIn J e (fun z => nomatch z) fun tk => ⟨.bl b, H, I.kept (t' := tk) fun _ _ z => z, rfl, q⟩
/-- the def's run: p, the error that is handled, stands in its context -/
theorem run_ofP {CX : CXT} {k : Nat} {f : Addr} {x qual : Str} {params : Arguments} {body : List Stmt} {scope : Scope} {fd : FuncData} {N ps : List Str} {A : Around} {outer : List PySem.Env} {s : Shared} {H : Hp} {args : Args} {us : List Value} {vs : List V} {Q : VK} {E : XK} {p : Addr × Obj}
    (F : FunD K x qual params body scope [] [] f fd) (S : FnScope N ps scope) (hr : L2H.RoomH (k + 1) A) (hpin : L2H.PinOk outer H s p) (e0 : Env0 P w K mg base A outer s H) (hb : BindsTo s fd args (ps.zip us)) (r : Vals vs us) (hl : vs.length = ps.length)
    (hbody : ∀ cdv, L2H.RoomH k (A.deeper (envOfC qual scope s.heap.objs.size f cdv)) → ∃ t, PSs (L2H.cxH CX P w K mg base N qual scope f cdv A outer s H E p) body t ∧ t { nx := fun _ H' => Q .non H', rt := Q } (L2.start N vs) H) :
    codeAny (model P w) A (.call (.ref f) args) (CR CX outer P w H s Q E) s := by
  obtain ⟨oc, od, dV, kV, doc, pm, an, cdv, ct, osl, rfl, lk, hcd, _, _⟩ := F.ex
  have KX := e0.mod.kin.keeps fun b o e => (e0.bs b o e).1
  refine codeAny_call_function hr.depth (KX _ _ lk) rfl S.co S.gen rfl (PySem.W.codeRec_of KX hcd) (hb _ _ _ _ (wpAny_newFunctionEnv_cells S.kind (fun y hy => ?_) fun env he s1 x => ?_))
  · rcases S.par y.1 (List.of_mem_zip (a := y.1) (b := y.2) hy).1 with q | q
    · exact .inl q
    · exact .inr ⟨q, PySem.W.cellsFrom_some _ _ _ (.inl q)⟩
  · subst he
    obtain ⟨t, ht, hq⟩ := hbody cdv (hr.deeper _)
    refine ⟨(e0.mod.nolimit.keeps fun b o e => (e0.bs b o e).1).keeps x.toInCall.keep, codeAny_func (wpAny_mono (ht.run [] s1 (L2.start N vs) H _ (L2H.inv_startH S hpin e0 hl r x) hq) (fun fl s' hs => ?_) fun e s' hs => hs)⟩
    cases fl with
    | ret u =>
      obtain ⟨v, σ', H', J, rv, q⟩ := hs
      exact ⟨v, H', J.os, J.bare, J.base, J.hok, rv, q⟩
    | next =>
      obtain ⟨σ', H', J, q⟩ := hs
      exact ⟨.non, H', J.os, J.bare, J.base, J.hok, rfl, q⟩
    | brk => obtain ⟨_, _, _, q⟩ := hs; exact q.elim
    | cont => obtain ⟨_, _, _, q⟩ := hs; exact q.elim
end
/-! ### isinstance(e, C), e the error -/
def isES (i : Nat) (a : Addr) (b : Bool) : ES := fun ds => match ds[i]? with
  | some (.rf a') => if a' = a then .ok (.bool b) else .bad
  | _ => .bad
section
variable {X : Cx} {c : Bk} {pos : Pos}
theorem t_isE {K : PySem.W.Frag} {D a : Addr} {i : Nat} {b : Bool} {cv : V} {cu : Value} (hc : ∀ u, RelV cv u → u = cu) (hk : PySem.W.kitOne K (.ref D) cu = some b) {σ : L2.St} {H : Hp} {Q : VK} (h : qP K c (isES i a b) σ H Q) : tCB (rIsE K D a) (tCons (tVar i) (tCons (tC cv) tNil)) σ H Q := by
  obtain ⟨ds, F, s, w⟩ := h
  unfold isES at w
  split at w
  · rename_i a' hi
    by_cases e : a' = a
    · rw [if_pos e] at w
      subst e
      exact ⟨.ref a', s.sl i _ hi, cv, cu, b, rfl, hc, hk, w _ F H (.refl s.fh) (.bl b)⟩
    · rw [if_neg e] at w
      exact w.elim
  · exact w.elim
theorem d_isE (i : Nat) {a D : Addr} {oe : Obj} {b : Bool} {n x : Str} {C : Addr} {p q r : Pos} (hp : (a, oe) ∈ X.pn) (hC : ExcC X.K D) (hz : Zc (.ref D) none oe) (hf : ∃ vs, oe.data = .fields vs) (hm : X.mg "isinstance" = none) (hmC : X.mg n = some (.ref C)) (hk : PySem.W.kitOne X.K (.ref D) (.ref C) = some b)
    (hg : Gl X "isinstance" := by rfl) (hgn : Gl X n := by rfl) (hd : (n == ("__debug__" : Str)) = false := by decide)
    (hN : X.N[i]? = some x := by rfl) (hv : Vis X.env.scope x := by first | exact Or.inl rfl | exact Or.inr (Or.inl rfl) | exact Or.inr (Or.inr rfl)) (hdx : (x == ("__debug__" : Str)) = false := by decide) (hcd : (x == ("__classdict__" : Str)) = false := by decide)
    (hs : starEach (.Name x r :: [.Name n q]) X.env = (false, eval (.Name x r) X.env) :: starEach [.Name n q] X.env := by rfl)
    (hs2 : starEach [.Name n q] X.env = (false, eval (.Name n q) X.env) :: starEach [] X.env := by rfl)
    (hpl : (backTo pos (starEach [.Name n q] X.env)).any (·.1) = false := by rfl) : PE X (.Call (.Name "isinstance" p) [.Name x r, .Name n q] [] pos) (qP X.K c (isES i a b)) :=
  pe_imp (pe_callB (call_isP hp hC hz hf) hg hm (by decide +kernel) (pa_cons (pe_var hN hv hdx hcd) (pa_cons (pe_glob (v := .ref C) hgn hmC rfl hd) pa_nil hs2) hs) (by decide) (by decide) hs hpl) fun _ _ _ h => t_isE (cv := .ref C) (cu := .ref C) (fun u z => z) hk h
theorem d_isV (i : Nat) {a D : Addr} {oe : Obj} {x : Str} {n : Str} {T : String} {p q r : Pos} (hp : (a, oe) ∈ X.pn) (hC : ExcC X.K D) (hz : Zc (.ref D) none oe) (hf : ∃ vs, oe.data = .fields vs) (hm : X.mg "isinstance" = none) (hmC : X.mg n = none) (hvb : bootBuiltins n = some (.type T)) (hk : PySem.W.kitOne X.K (.ref D) (.type T) = some true)
    (hg : Gl X "isinstance" := by rfl) (hgn : Gl X n := by rfl) (hn : n ≠ "__name__" := by decide) (hd : (n == ("__debug__" : Str)) = false := by decide)
    (hN : X.N[i]? = some x := by rfl) (hv : Vis X.env.scope x := by first | exact Or.inl rfl | exact Or.inr (Or.inl rfl) | exact Or.inr (Or.inr rfl)) (hdx : (x == ("__debug__" : Str)) = false := by decide) (hcd : (x == ("__classdict__" : Str)) = false := by decide)
    (hs : starEach (.Name x r :: [.Name n q]) X.env = (false, eval (.Name x r) X.env) :: starEach [.Name n q] X.env := by rfl)
    (hs2 : starEach [.Name n q] X.env = (false, eval (.Name n q) X.env) :: starEach [] X.env := by rfl)
    (hpl : (backTo pos (starEach [.Name n q] X.env)).any (·.1) = false := by rfl) : PE X (.Call (.Name "isinstance" p) [.Name x r, .Name n q] [] pos) (qP X.K c (isES i a true)) :=
  pe_imp (pe_callB (call_isP hp hC hz hf) hg hm (by decide +kernel) (pa_cons (pe_var hN hv hdx hcd) (pa_cons (pe_bltn (v := .ty T) hgn hmC hvb rfl hn hd) pa_nil hs2) hs) (by decide) (by decide) hs hpl) fun _ _ _ h => t_isE (cv := .ty T) (cu := .type T) (fun u z => z) hk h
/-! ### the class of the error, told by a def of the law -/
/-- what the def tells of an error of the class x -/
def ClsTells (P : Program) (w : World) (K : PySem.W.Frag) (mg : Str → Option Value) (base : Heap) (T : List (Addr × Str)) (k : Nat) (f : Addr) (fd : FuncData) (x : Str) : Prop :=
  ∀ (A : Around) (outer : List PySem.Env) (s : Shared) (F H : Hp) (Q : VK) (oe : Obj) (a : Addr), L2H.RoomH k A → L2H.PinOk outer H s (a, oe) → Env0 P w K mg base A outer s H → Zc (.ref (He.ga K x)) none oe → (∃ vs, oe.data = .fields vs) → Sam F H → LamX.Tabs T H →
    (∀ F' H', Grow T F H F' H' → Q (.str x) H') → codeAny (model P w) A (.call (.ref f) ⟨[.ref a], []⟩) (CR C8.CX0 outer P w H s Q C8.E0) s
theorem cls_mk {P : Program} {w : World} {K : PySem.W.Frag} {mg : Str → Option Value} {base : Heap} {T : List (Addr × Str)} {k : Nat} {f : Addr} {fd : FuncData} {n qual y x : Str} {params : Arguments} {body : List Stmt} {scope : Scope} {N : List Str} {g : Addr → DS → Out}
    (F : FunD K n qual params body scope [] [] f fd) (S : FnScope N [y] scope) (hl : 1 ≤ N.length) (hb : ∀ (s : Shared) (us : List Value), us.length = [y].length → BindsTo s fd ⟨us, []⟩ ([y].zip us))
    (hbody : ∀ (cdv : Value) (A : Around) (outer : List PySem.Env) (s : Shared) (F H : Hp) (a : Addr) (oe : Obj), L2H.RoomH k (A.deeper (envOfC qual scope s.heap.objs.size f cdv)) → Zc (.ref (He.ga K x)) none oe → (∃ vs, oe.data = .fields vs) →
      PSs (L2H.cxH C8.CX0 P w K mg base N qual scope f cdv A outer s H C8.E0 (a, oe)) body (qS K ⟨T, F, H, He.ga K, C8.E0, []⟩ (g a))) (hg : ∀ a, g a (.rf a :: List.replicate (N.length - 1) .no) = .rt (.str x)) : ClsTells P w K mg base T (k + 1) f fd x := by
  intro A outer s F0 H Q oe a hr hpin e0 hz hf hS hT hQ
  refine run_ofP (vs := [.ref a]) (us := [.ref a]) F S hr hpin e0 ?_ (.cons rfl .nil) rfl fun cdv hr' => ⟨_, hbody cdv A outer s F0 H a oe hr' hz hf, .rf a :: List.replicate (N.length - 1) .no, F0, ⟨.refl hS, hT, ?_, ⟨fun _ => [], fun i t q => ?_, fun _ _ _ _ _ _ z => by cases z⟩, fun r hr => nomatch hr⟩, ?_⟩
  · exact hb s [.ref a] rfl
  · simp [L2.start]
  · cases i with
    | zero => cases q; exact ⟨rfl, rfl⟩
    | succ i =>
      have e : t ∈ List.replicate (N.length - 1) Sl.no := List.mem_of_getElem? q
      rw [List.mem_replicate] at e
      rw [e.2]
      rfl
  · rw [hg a]
    intro v F' H' gr q
    cases q
    exact hQ F' H' gr
theorem pe_cls {a : Addr} {oe : Obj} {T : List (Addr × Str)} {k i : Nat} {f : Addr} {fd : FuncData} {n x e : Str} {p q : Pos} (hp : (a, oe) ∈ X.pn) (hG : ClsTells X.prog X.w X.K X.mg X.base T k f fd x) (hr : L2H.RoomH k X.A) (hm : X.mg n = some (.ref f)) (hk : PySem.W.keepIn X.K (.ref f) = true)
    (hz : Zc (.ref (He.ga X.K x)) none oe) (hf : ∃ vs, oe.data = .fields vs) (hg : Gl X n := by rfl) (hdb : (n == ("__debug__" : Str)) = false := by decide)
    (hN : X.N[i]? = some e := by rfl) (hv : Vis X.env.scope e := by first | exact Or.inl rfl | exact Or.inr (Or.inl rfl) | exact Or.inr (Or.inr rfl)) (hdx : (e == ("__debug__" : Str)) = false := by decide) (hcd : (e == ("__classdict__" : Str)) = false := by decide)
    (hs : starEach [.Name e q] X.env = (false, eval (.Name e q) X.env) :: starEach [] X.env := by rfl) (hpl : (backTo pos (starEach [] X.env)).any (·.1) = false := by rfl) :
    PE X (.Call (.Name n p) [.Name e q] [] pos) (fun σ H Q => σ[i]? = some (some (.ref a)) ∧ ∃ F, Sam F H ∧ LamX.Tabs T H ∧ ∀ F' H', Grow T F H F' H' → Q (.str x) H') := by
  refine ⟨fun pins s σ H Q I h => ?_⟩
  obtain ⟨h1, F, h2, h3, h4⟩ := h
  refine wpAny_Call_Name_kw (ld_glob I hg hm ?_ hdb)
  have ha : PA X [.Name e q] (tCons (tVar i) tNil) := pa_cons (pe_var hN hv hdx hcd) pa_nil hs
  refine PySem.W.callWith_K (h₀ := X.base) I.ok.mod.kin hk (thn (ha.run pos pins s σ H (fun vs H1 => vs = [.ref a] ∧ H1 = H) I ⟨_, h1, rfl, rfl⟩) fun us s1 ⟨vs, H1, I1, r, q⟩ => ⟨I1.kIn, ?_⟩) hs hpl
  obtain ⟨rfl, rfl⟩ := q
  cases r with
  | cons rx rr =>
    cases rr
    cases rx
    have P1 := I1.pin (a, oe) (List.mem_append_left _ hp)
    have hpin : L2H.PinOk X.stack H1 s1 (a, oe) := ⟨P1.1, P1.2.1, fun hm => (List.mem_cons.mp (I1.stkSub a hm)).elim P1.2.2.1 P1.2.2.2.1, P1.2.2.2.2⟩
    refine wpAny_call (codeAny_mono (hG X.A X.stack s1 F H1 Q oe a hr hpin I1.env0 hz hf h2 h3 h4) fun r s' hq => ?_)
    cases r with
    | error z => exact (show False from hq).elim
    | ok fl =>
      cases fl with
      | ret u => exact I1.after hq
      | next => exact False.elim hq
      | brk => exact False.elim hq
      | cont => exact False.elim hq
/-- try: return a() / except C as e: return ('refused', cls(e)) -/
def TTc (K : PySem.W.Frag) (T : List (Addr × Str)) (L : List Str) : (XK → Hp → VK → Prop) → Hp → VK → Prop := fun tl H Q =>
  tl (fun cls d H' => d = none ∧ ∃ x, x ∈ L ∧ cls = .ref (He.ga K x) ∧ ∃ F', Sam F' H' ∧ LamX.Tabs T H' ∧ ∀ v F'' H'', Grow T F' H' F'' H'' → Dq K F'' v (.tuple [.str "refused", .str x]) → Q v H'') H Q
theorem pss_ex {ι : Type} {b : List Stmt} {t : ι → TS} (h : ∀ i, PSs X b (t i)) : PSs X b (fun D σ H => ∃ i, t i D σ H) := ⟨fun pins s σ H D I ⟨i, q⟩ => (h i).run pins s σ H D I q⟩
theorem pss_if {P : Prop} {b : List Stmt} {t : TS} (h : P → PSs X b t) : PSs X b (fun D σ H => P ∧ t D σ H) := ⟨fun pins s σ H D I ⟨p, q⟩ => (h p).run pins s σ H D I q⟩
theorem told_gives {T : List (Addr × Str)} {L : List Str} {Ng : List Str} {nT a e n cls q : Str} {sg : Scope} {g CS fC : Addr} {fdC : FuncData} {k j kx : Nat} {cdg : Value} {p1 p2 p3 p4 p5 p6 p7 p8 p9 p10 p11 p12 : Pos}
    (hsc : Ng = [a, n]) (hnd : Ng.Nodup) (hln : sg.names.lookup n = some .local) (hge : sg.names.lookup e = some .globalImplicit) (hgc : sg.names.lookup cls = some .globalImplicit) (hme : X.mg e = some (.ref CS)) (hde : (e == ("__debug__" : Str)) = false) (hdc : (cls == ("__debug__" : Str)) = false) (hdn : (n == ("__debug__" : Str)) = false) (hdn2 : (n == ("__classdict__" : Str)) = false)
    (hmc : X.mg cls = some (.ref fC)) (hkc : PySem.W.keepIn X.K (.ref fC) = true) (hr : ∀ s : Shared, L2H.RoomH k (X.A.deeper (envOfC nT sg s.heap.objs.size g cdg))) (hC : ∀ x ∈ L, ClsTells X.prog X.w X.K X.mg X.base T k fC fdC x) (hx : ∀ x ∈ L, PySem.W.exmOne X.K (.ref (He.ga X.K x)) (.ref CS) = some true) :
    LamX.GivesTo X Ng nT sg g cdg [.Try [.Return (some (.Call (.Name a p1) [] [] p2)) p3] [.ExceptHandler (some (.Name e p4)) (some n) [.Return (some (.Tuple [.Constant (.str "refused") j p5, .Call (.Name cls p6) [.Name n p7] [] p8] kx p9)) p10] p11] [] [] p12] a q (TTc X.K T L) := by
  subst hsc
  intro f c' s H Q tl act hc h
  have hgl : Gl (cxOf C8.CX0 X.prog X.w X.K X.mg X.base [a, n] nT sg g cdg X.A X.stack s H C8.E0).nox e := hge
  let ts : Addr → Value → Option Addr → TS := fun a' cl d D σ H' => ∃ x, (x ∈ L ∧ cl = .ref (He.ga X.K x) ∧ d = none) ∧ (∃ σ0 : L2.St, σ = σ0.set 1 (some (.ref a'))) ∧ ∃ F', Sam F' H' ∧ LamX.Tabs T H' ∧ ∀ v F'' H'', Grow T F' H' F'' H'' → Dq X.K F'' v (.tuple [.str "refused", .str x]) → D.rt v H''
  refine ⟨_, pss_one (ps_try_as (X := (cxOf C8.CX0 X.prog X.w X.K X.mg X.base [a, n] nT sg g cdg X.A X.stack s H C8.E0).nox) (c := .ref CS) (i := 1) (n := n) (ts := ts)
      (tb := fun W D σ H => ∃ Ech : XK, (∀ cls d σ' H', Ech cls d H' → W cls d σ' H') ∧ σ[0]? = some (some (.ref f)) ∧ H c' = some (LamX.CodeO c' q) ∧ tl Ech H D.rt)
      rfl rfl hnd rfl hln ⟨hgl, hde, .inl hme⟩ LamX.takes0 (fun W pn xe tk _ => ?_) (fun a' oe cl d pn hz hf => ?_)), ?_⟩
  · refine ⟨fun pins s' σ H' D I h' => ?_⟩
    obtain ⟨Ech, hW, h1, h2, h3⟩ := h'
    exact (pss_one (ps_ret (pos := p3) (act W pn xe Ech p1 p2 tk hW))).run pins s' σ H' D I ⟨h1, h2, h3⟩
  · refine pss_ex fun x => pss_if fun ⟨hx1, hx2, hx3⟩ => ?_
    subst hx2 hx3
    have pc := pe_cls (X := (cxOf C8.CX0 X.prog X.w X.K X.mg X.base [a, n] nT sg g cdg X.A X.stack s H C8.E0).nox.suite a' ((a', oe) :: pn)) (i := 1) (e := n) (n := cls) (p := p6) (q := p7) (pos := p8) List.mem_cons_self (hC x hx1) ⟨(hr s).dp, (hr s).un⟩ hmc hkc hz hf hgc hdc rfl (.inl hln) hdn hdn2
    refine ⟨fun pins s2 σ H' D I hq => (pss_one (ps_ret (pos := p10) (pe_tup (x1 := kx) (pos := p9) (pa_cons (pe_str (j := j) (pos := p5)) (pa_cons pc pa_nil))))).run pins s2 σ H' D I ?_⟩
    obtain ⟨⟨σ0, h1⟩, F', h2, h3, h4⟩ := hq
    have hl : σ.length = 2 := I.len
    refine ⟨by rw [h1] at hl ⊢; rw [List.length_set] at hl; rw [get_set, if_pos ⟨rfl, by omega⟩], F', h2, h3, fun F1 H1 g1 => ⟨(by decide : 2 ≤ sizeLine), fun p hp => ?_⟩⟩
    exact h4 _ _ _ (g1.trans (.new g1.fh hp)) (.tup upd_same (.cons (.str _) (.cons (.str _) .nil)))
  · refine ⟨fun cl d H' => d = none ∧ ∃ x, x ∈ L ∧ cl = .ref (He.ga X.K x) ∧ ∃ F', Sam F' H' ∧ LamX.Tabs T H' ∧ ∀ v F'' H'', Grow T F' H' F'' H'' → Dq X.K F'' v (.tuple [.str "refused", .str x]) → Q v H'', fun cl d σ' H' ⟨e1, x, e2, e3, F', e4, e5, e6⟩ => ?_, rfl, hc, h⟩
    subst e1 e3
    refine ⟨true, hx x e2, fun _ a' ha' => ⟨x, ⟨e2, rfl, rfl⟩, ⟨σ', rfl⟩, F', e4, e5, e6⟩, fun z => by cases z⟩
/-! ### x(lambda: body), x as above -/
/-- one's own things, lent -/
def lendD : Sl → Sl
  | .ow d => .bw d
  | .tr t => .bw t.data
  | s => s
theorem Stt.lend {K : PySem.W.Frag} {F H : Hp} {σ : L2.St} {ds : DS} (s : Stt K c F H σ ds) (E : XK) : Stt K ⟨c.T, F, H, c.cl, E, []⟩ F H σ (ds.map lendD) := by
  refine ⟨.refl s.fh, s.tb, by rw [List.length_map]; exact s.len, ⟨fun _ => [], fun i t h => ?_, fun _ _ _ _ _ _ z => by cases z⟩, fun r hr => nomatch hr⟩
  rw [List.getElem?_map] at h
  obtain ⟨u, h1, h2⟩ := Option.map_eq_some_iff.mp h
  subst h2
  have q := s.sl i u h1
  cases u with
  | no => rfl
  | im d => exact ⟨rfl, q⟩
  | bw d => obtain ⟨x, e1, e2⟩ := q; exact ⟨rfl, x, e1, e2.mono s.gr.hh⟩
  | ow d => obtain ⟨p, e1, _, _, e4⟩ := q; exact ⟨rfl, _, e1, e4.dq s.fh⟩
  | tr t => obtain ⟨x, fp, e1, e2, _⟩ := q; exact ⟨rfl, x, e1, e2.dq s.fh⟩
  | rf a => exact ⟨rfl, q⟩
def toldS (L : List Str) (f : ES) : ES := fun ds => match f (ds.map lendD) with
  | .ok d => .ok d
  | .err ⟨x, none⟩ => if x ∈ L then .ok (.tuple [.str "refused", .str x]) else .bad
  | _ => .bad
theorem extN_sam {H H' : Hp} (e : LamX.ExtN H H') : Sam H H' := ⟨fun b o h n => e b o h fun ps z => by
  rw [z] at n
  cases n⟩
theorem t_told {K : PySem.W.Frag} {L : List Str} {f : ES} (hcl : c.cl = He.ga K) {σ : L2.St} {H : Hp} {Q : VK} (h : qP K c (toldS L f) σ H Q) : LamX.tLam c.T (TTc K c.T L) (fun E σ H Q => ∃ F, qP K ⟨c.T, F, H, c.cl, E, []⟩ f σ H Q) σ H Q := by
  obtain ⟨ds, F, s, w⟩ := h
  refine ⟨s.tb, fun H1 e1 t1 => ?_⟩
  have g1 : Grow c.T F H F H1 := ⟨extN_sam e1, fun _ => t1, .refl _, s.fh.trans (extN_sam e1), fun _ _ _ _ z => z⟩
  refine ⟨F, ds.map lendD, F, (s.grow g1).lend _, ?_⟩
  unfold toldS at w
  cases hf : f (ds.map lendD) with
  | bad => rw [hf] at w; exact w
  | ok d =>
    rw [hf] at w
    exact fun v F2 H2 g2 q2 => w v F2 H2 (g1.trans g2) q2
  | err x =>
    rw [hf] at w
    obtain ⟨x, fd⟩ := x
    cases fd with
    | some z => exact w.elim
    | none =>
      simp only at w
      by_cases hx : x ∈ L
      · rw [if_pos hx] at w
        intro d H2 s2 t2 ed
        have g2 : Grow c.T F H1 F H2 := ⟨s2, fun _ => t2, .refl _, g1.fh.trans s2, fun _ _ _ _ z => z⟩
        refine ⟨ed, x, hx, by rw [hcl], F, g2.fh, t2, fun v F3 H3 g3 q3 => w v F3 H3 ((g1.trans g2).trans g3) q3⟩
      · rw [if_neg hx] at w
        exact w.elim
theorem d_told {L : List Str} {x a : Str} {g cc Pp : Addr} {k : Nat} {pg : Arguments} {bg : List Stmt} {sg : Scope} {fd : FuncData} {Ng : List Str} {params : Arguments} {body : Expr} {scope : Scope} {f : ES} {p lpos : Pos} (F : FunD X.K x x pg bg sg [] [] g fd) (hm : X.mg x = some (.ref g)) (hb : Binds X.K fd [a] [])
    (Sg : FnScope Ng [a] sg) (hNg : Ng[0]? = some a) (hva : Vis sg a) (hG : ∀ cdv, LamX.GivesTo X Ng x sg g cdv bg a (X.env.qual ++ "<lambda>") (TTc X.K c.T L)) (TB : LamX.TabB X.base X.mg cc Pp) (hcode : X.env.code = .ref cc) (hmT : (Pp, X.env.qual ++ "<lambda>") ∈ c.T) (hu : ∀ p ∈ c.T, p.1 = Pp → p.2 = X.env.qual ++ "<lambda>")
    (hr : Room (k + 2) X.A) (LS : LamX.LamS X.env.scope scope) (hcl : c.cl = He.ga X.K)
    (hbody : ∀ (A : Around) (outer : List PySem.Env) (s : Shared) (H : Hp) (E : XK) (f' c' : Addr) (F0 H0 : Hp), Room k (A.deeper (LamX.lamEnv X scope s.heap.objs.size f' c')) → PE (LamX.lamCx X A outer s H E scope f' c') body (qP X.K ⟨c.T, F0, H0, c.cl, E, []⟩ f))
    (hdef : defaultsOf params X.env = ([], []) := by rfl) (hbind : ∀ (q : Str) (cl : List (Str × Addr)) (pm cv ctv : Value), bindArgs (PySem.W.kla_fn "<lambda>" q params body scope cl pm cv ctv) ⟨[], []⟩ = pure [] := by intros; rfl) (hg : Gl X x := by rfl)
    (hdb : (x == ("__debug__" : Str)) = false := by decide) (hd : (a == ("__debug__" : Str)) = false := by decide) (hcd : (a == ("__classdict__" : Str)) = false := by decide) :
    PE X (.Call (.Name x p) [.Lambda params body scope lpos] [] pos) (qP X.K c (toldS L f)) := by
  obtain ⟨oc, od, dV, kV, doc, pm, an, cdv, ct, osl, rfl, lk, hcg, _, _⟩ := F.ex
  exact pe_imp (LamX.pe_lamcall hg hm F.kp lk hcg hb Sg hNg hva (hG cdv) TB hcode hmT hu hr LS hdef hbind (fun A outer s H E f' c' hr' => ⟨fun pins s2 σ H2 Q I ⟨F0, h⟩ => (hbody A outer s H E f' c' F0 H2 hr').run pins s2 σ H2 Q I h⟩) hdb hd hcd) fun _ _ _ h => t_told hcl h
end
/-! ### a def that makes lambdas: its code object is known -/
section
variable {P : Program} {w : World} {K : PySem.W.Frag} {mg : Str → Option Value} {base : Heap} {x qual : Str} {params : Arguments} {body : List Stmt} {scope : Scope} {dvs : List V} {kws : List (Str × V)} {fd : FuncData}
theorem fn_mkL {T : List (Addr × Str)} {N ps : List Str} {k : Nat} {cl : Str → Addr} {ms : List Bool} {g : DS → Out} (pa : He.Defn) {fA : Addr} (hA : fA = He.fAd K pa) (F : FunD K x qual params body scope dvs kws fA fd) (S : FnScope N ps scope) (hm : ms.length = ps.length) (hl : ps.length ≤ N.length)
    (h : ∀ (A : Around) (outer : List PySem.Env) (s : Shared) (H : Hp) (E : XK) (F0 : Hp), Room k (A.deeper (envOfC qual scope s.heap.objs.size fA (.ref (He.codeOf K pa)))) →
      PSs (cxOf (L2.CX P w) P w K mg base N qual scope fA (.ref (He.codeOf K pa)) A outer s H E) body (qS K ⟨T, F0, H, cl, E, []⟩ g)) : FnOk P w K mg base (L2.CX P w) (k + 1) fA fd ps (spS T K cl ms (bodyS N.length ms g)) := by
  subst hA
  obtain ⟨oc, od, dV, kV, doc, pm, an, cdv, ct, osl, rfl, lk, hcd, _, _⟩ := F.ex
  obtain ⟨c, rfl⟩ := He.codeIn_ref hcd
  have ec : He.codeOf K pa = c := He.codeOf_eq lk rfl
  rw [ec] at h
  refine fn_of lk hcd S (fun vs H Q E hs => ?_) (fun A outer s H vs Q E hr hs => ?_)
  · obtain ⟨F0, ds, _, _, ha, _⟩ := hs
    rw [ha.len.1, hm]
  · obtain ⟨F0, ds, hF, hT, ha, hw⟩ := hs
    refine ⟨_, h A outer s H E F0 hr, startS N.length ms ds, F0, stt_start (c := ⟨T, F0, H, cl, E, []⟩) hF hT ha (by rw [hm]; exact hl) rfl, ?_⟩
    unfold bodyS at hw
    cases hg : g (startS N.length ms ds) with
    | bad => rw [hg] at hw; exact hw
    | nx ds' =>
      rw [hg] at hw
      exact fun σ F' H' f' s' => hw .non F' H' s'.gr .non
    | rt d => rw [hg] at hw; exact fun v F' H' g' q => hw v F' H' g' q
    | bk d => rw [hg] at hw; exact hw.elim
    | ct d => rw [hg] at hw; exact hw.elim
    | err z => rw [hg] at hw; exact hw
end
/-! ### facts of the top, by one Bool -/
def excCB (K : PySem.W.Frag) (D : Addr) : Bool :=
  He.eqO (PySem.W.findIn K (.ref D) "__getattribute__") (some (some (.builtin "BaseException.__getattribute__"))) && (He.eqO (PySem.W.findIn K (.ref D) "__getattr__") (some none) && (decide (PySem.W.subIn K (.ref D) (.type "BaseException") = some true) && (PySem.W.hasDictIn K D && (He.eqO (PySem.W.findIn K (.ref D) "__class__") (some (some (.builtin "object.__class__"))) &&
  (He.eqO (PySem.W.specialIn K (.builtin "object.__class__") "__get__") (some (some (.builtin "getset_descriptor.__get__"))) && (decide (PySem.W.takesIn K (.builtin "object.__class__") = some true) && decide (PySem.W.mroIn K D (.type "object") = some true)))))))
theorem excCB_ok {K : PySem.W.Frag} {D : Addr} (h : excCB K D = true) : ExcC K D := by
  obtain ⟨h1, h⟩ := He.ba h
  obtain ⟨h2, h⟩ := He.ba h
  obtain ⟨h3, h⟩ := He.ba h
  obtain ⟨h4, h⟩ := He.ba h
  obtain ⟨h5, h⟩ := He.ba h
  obtain ⟨h6, h⟩ := He.ba h
  obtain ⟨h7, h8⟩ := He.ba h
  exact ⟨He.eqO_ok h1, He.eqO_ok h2, of_decide_eq_true h3, h4, He.eqO_ok h5, He.eqO_ok h6, of_decide_eq_true h7, of_decide_eq_true h8⟩
/-- the classes of L by the list cs, under CS and ValueError -/
def clsB (K : PySem.W.Frag) (L cs : List Str) (CS : Str) : Bool := L.all fun x => excCB K (He.ga K x) && ((cs.all fun y => decide (PySem.W.kitOne K (.ref (He.ga K x)) (.ref (He.ga K y)) = some (decide (x = y)))) &&
  (decide (PySem.W.kitOne K (.ref (He.ga K x)) (.type "ValueError") = some true) && decide (PySem.W.exmOne K (.ref (He.ga K x)) (.ref (He.ga K CS)) = some true)))
structure ClsF (K : PySem.W.Frag) (cs : List Str) (CS x : Str) : Prop where
  exc : ExcC K (He.ga K x)
  kit : ∀ y ∈ cs, PySem.W.kitOne K (.ref (He.ga K x)) (.ref (He.ga K y)) = some (decide (x = y))
  val : PySem.W.kitOne K (.ref (He.ga K x)) (.type "ValueError") = some true
  exm : PySem.W.exmOne K (.ref (He.ga K x)) (.ref (He.ga K CS)) = some true
theorem clsB_ok {K : PySem.W.Frag} {L cs : List Str} {CS : Str} (h : clsB K L cs CS = true) {x : Str} (hx : x ∈ L) : ClsF K cs CS x := by
  obtain ⟨h1, h2⟩ := He.ba (List.all_eq_true.mp h x hx)
  obtain ⟨h3, h4⟩ := He.ba h2
  obtain ⟨h5, h6⟩ := He.ba h4
  exact ⟨excCB_ok h1, fun y hy => of_decide_eq_true (List.all_eq_true.mp h3 y hy), of_decide_eq_true h5, of_decide_eq_true h6⟩
/-- the tables of the defs that make lambdas, by the lambdas' names -/
def tabL (K : PySem.W.Frag) (tf : List (Str × Str)) : List (Addr × Str) := tf.map fun p => ((He.cT K (p.1, none)).2, p.2)
def tabB (K : PySem.W.Frag) (tf : List (Str × Str)) : Bool := decide ((tf.map fun p => (He.cT K (p.1, none)).2).Nodup)
theorem tabL_uq {K : PySem.W.Frag} {tf : List (Str × Str)} (h : tabB K tf = true) {f q : Str} (hm : (f, q) ∈ tf) : ∀ p ∈ tabL K tf, p.1 = (He.cT K (f, none)).2 → p.2 = q := by
  intro p hp e
  have nd : (tf.map fun p => (He.cT K (p.1, none)).2).Nodup := of_decide_eq_true h
  obtain ⟨r, hr, rfl⟩ := List.mem_map.mp hp
  have key : ∀ {l : List (Str × Str)}, (l.map fun p => (He.cT K (p.1, none)).2).Nodup → ∀ a ∈ l, ∀ b ∈ l, (He.cT K (a.1, none)).2 = (He.cT K (b.1, none)).2 → a = b := by
    intro l
    induction l with
    | nil => intro _ a ha; cases ha
    | cons c l ih =>
      intro nd a ha b hb e
      rw [List.map_cons, List.nodup_cons] at nd
      rcases List.mem_cons.mp ha with za | za <;> rcases List.mem_cons.mp hb with zb | zb
      · rw [za, zb]
      · subst za
        exact absurd (List.mem_map.mpr ⟨b, zb, e.symm⟩) nd.1
      · subst zb
        exact absurd (List.mem_map.mpr ⟨a, za, e⟩) nd.1
      · exact ih nd.2 a za b zb e
  have := key nd r hr (f, q) hm e
  rw [this]
theorem tabL_mem {K : PySem.W.Frag} {tf : List (Str × Str)} {f q : Str} (hm : (f, q) ∈ tf) : ((He.cT K (f, none)).2, q) ∈ tabL K tf := List.mem_map.mpr ⟨(f, q), hm, rfl⟩
theorem tabs_start {K : PySem.W.Frag} {tf : List (Str × Str)} {H : Hp} (h : ∀ p ∈ tf.map fun p => He.cT K (p.1, none), H p.2 = some (.tbl #[])) : LamX.Tabs (tabL K tf) H := fun p hp => by
  obtain ⟨r, hr, rfl⟩ := List.mem_map.mp hp
  exact .nil (h _ (List.mem_map.mpr ⟨r, hr, rfl⟩))
theorem lt65H {k : Nat} {A : Around} (r : L2H.RoomH k A) : A.units + 65 < cLine := by have := r.un; omega
theorem lt64H {k : Nat} {A : Around} (r : L2H.RoomH k A) : A.units + 64 < cLine := by have := r.un; omega
theorem lt1H {k : Nat} {A : Around} (r : L2H.RoomH k A) : A.units + 1 < cLine := by have := r.un; omega
/-- a lambda's names -/
theorem lamS_by {sc scope : Scope} (h : (scope.kind = .function ∧ scope.isCoroutine = false ∧ scope.isGenerator = false) ∧ (∀ y ∈ scope.names, y.2 ≠ .local ∧ y.2 ≠ .cell) ∧ ∀ y ∈ scope.names, y.2 = .free → sc.names.lookup y.1 = some .cell ∨ sc.names.lookup y.1 = some .free) : LamX.LamS sc scope :=
  ⟨h.1.1, h.1.2.1, h.1.2.2, h.2.1, h.2.2⟩
end Cb
namespace Cb
open PySem PySem.Spec PyProof.Rows L2
def g_is_number_1 : DS → Out := (retS (andV (isiS "int" (vP 0)) (andV (notV (isiS "bool" (vP 0))) (chI leI leI (vP 1) (vP 0) (vP 2)))))
def g_is_number : DS → Out := g_is_number_1
def V_is_number : List PyData → R PyData := bodyS 3 [false, false, false] g_is_number
def g_look_number_1t_1 : DS → Out := (errS "NoNumber")
def g_look_number_1 : DS → Out := (ifS (notB (bS (callS (consA (vP 0) (consA (vP 1) (consA (vP 2) nilA))) V_is_number []))) g_look_number_1t_1 nxS)
def g_look_number : DS → Out := g_look_number_1
def V_look_number : List PyData → R PyData := bodyS 3 [false, false, false] g_look_number
def g_is_row_1t_1 : DS → Out := (retS (cS (.bool false)))
def g_is_row_1 : DS → Out := (ifS (orB (notB (bS (isiS "tuple" (vP 0)))) (bS (op2 neD (op1 lenD (vP 0)) (cS (.int 2))))) g_is_row_1t_1 nxS)
def g_is_row_2 : DS → Out := (retS (andV (callS (consA (op2 ixD (vP 0) (cS (.int 0))) (consA (cS (.int 0)) (consA (op2 subI (cS (.int 100)) (cS (.int 1))) nilA))) V_is_number []) (callS (consA (op2 ixD (vP 0) (cS (.int 1))) (consA (cS (.int 1)) (consA (cS (.int 99)) nilA))) V_is_number [])))
def g_is_row : DS → Out := (seqS g_is_row_1 g_is_row_2)
def V_is_row : List PyData → R PyData := bodyS 1 [false] g_is_row
def g_are_rows_1t_1 : DS → Out := (retS (cS (.bool false)))
def g_are_rows_1 : DS → Out := (ifS (orB (notB (bS (isiS "list" (vP 0)))) (orB (bS (op2 gtI (op1 lenD (vP 0)) (cS (.int 12)))) (notB (bS (op1 allD (lcS (itL (vP 0)) [1] (.nm 1) yesB (callS (consA (vP 1) nilA) V_is_row []))))))) g_are_rows_1t_1 nxS)
def g_are_rows_2 : DS → Out := (retS (op1 allD (lcS (itZ (vP 0) (slL (vP 0) (someO (cS (.int 1))) noO)) [2, 3] (.pr 2 3) yesB (op2 ltI (op2 ixD (vP 2) (cS (.int 0))) (op2 ixD (vP 3) (cS (.int 0)))))))
def g_are_rows : DS → Out := (seqS g_are_rows_1 g_are_rows_2)
def V_are_rows : List PyData → R PyData := bodyS 4 [false] g_are_rows
def g_look_rows_1t_1 : DS → Out := (errS "NoRows")
def g_look_rows_1 : DS → Out := (ifS (notB (bS (callS (consA (vP 0) nilA) V_are_rows []))) g_look_rows_1t_1 nxS)
def g_look_rows : DS → Out := g_look_rows_1
def V_look_rows : List PyData → R PyData := bodyS 1 [false] g_look_rows
def g_is_good_in_1 : DS → Out := (retS (chI leI ltI (vP 0) (vP 1) (op2 addI (vP 0) (vP 2))))
def g_is_good_in : DS → Out := g_is_good_in_1
def V_is_good_in : List PyData → R PyData := bodyS 3 [false, false, false] g_is_good_in
def g_taken_1 : DS → Out := (parNP 4 5 (lstS nilA) (vP 2))
def g_taken_2b_1 : DS → Out := (setS 7 (op2 minI (op2 dgetD (vT 0) (vP 6)) (vP 5)))
def g_taken_2b_2t_1 : DS → Out := (appS 4 (tupS (consA (vP 6) (consA (vP 7) nilA))))
def g_taken_2b_2t_2 : DS → Out := (setS 5 (op2 subI (vP 5) (vP 7)))
def g_taken_2b_2 : DS → Out := (ifS (andB (bS (callS (consA (vP 6) (consA (vP 1) (consA (vP 3) nilA))) V_is_good_in [])) (bS (op2 gtI (vP 7) (cS (.int 0))))) (seqS g_taken_2b_2t_1 g_taken_2b_2t_2) nxS)
def g_taken_2B : DS → Out := (seqS g_taken_2b_1 g_taken_2b_2)
def g_taken_2 : DS → Out := (forS (itL (op1 sortD (vT 0))) (.nm 6) g_taken_2B)
def g_taken_3 : DS → Out := (retS (vP 4))
def g_taken : DS → Out := (seqS g_taken_1 (seqS g_taken_2 (frzS 4 g_taken_3)))
def V_taken : List PyData → R PyData := bodyS 8 [true, false, false, false] g_taken
def g_serve_1 : DS → Out := (parNN 3 4 (op1 dictD (vP 0)) (lstS nilA))
def g_serve_2b_1b_1 : DS → Out := (dputS 3 (vP 7) (op2 subI (op2 dgetD (vT 3) (vP 7)) (vP 8)))
def g_serve_2b_1b_2 : DS → Out := (appS 4 (tupS (consA (vP 5) (consA (vP 7) (consA (vP 8) nilA)))))
def g_serve_2b_1B : DS → Out := (seqS g_serve_2b_1b_1 g_serve_2b_1b_2)
def g_serve_2b_1 : DS → Out := (forS (itL (callS (consA (vT 3) (consA (vP 5) (consA (vP 6) (consA (vP 2) nilA)))) V_taken [])) (.pr 7 8) g_serve_2b_1B)
def g_serve_2B : DS → Out := g_serve_2b_1
def g_serve_2 : DS → Out := (forS (itL (vP 1)) (.pr 5 6) g_serve_2B)
def g_serve_3 : DS → Out := (retS (vP 4))
def g_serve : DS → Out := (seqS g_serve_1 (seqS g_serve_2 (frzS 4 g_serve_3)))
def V_serve : List PyData → R PyData := bodyS 9 [false, false, false] g_serve
def g_look_all_1 : DS → Out := (exS (callS (consA (vP 0) nilA) V_look_rows []))
def g_look_all_2 : DS → Out := (exS (callS (consA (vP 1) nilA) V_look_rows []))
def g_look_all_3 : DS → Out := (exS (callS (consA (vP 2) (consA (cS (.int 1)) (consA (cS (.int 4)) nilA))) V_look_number []))
def g_look_all : DS → Out := (seqS g_look_all_1 (seqS g_look_all_2 g_look_all_3))
def V_look_all : List PyData → R PyData := bodyS 3 [false, false, false] g_look_all
def g_served_1 : DS → Out := (exS (callS (consA (vP 0) (consA (vP 1) (consA (vP 2) nilA))) V_look_all []))
def g_served_2 : DS → Out := (retS (callS (consA (vP 0) (consA (vP 1) (consA (vP 2) nilA))) V_serve []))
def g_served : DS → Out := (seqS g_served_1 g_served_2)
def V_served : List PyData → R PyData := bodyS 3 [false, false, false] g_served
def g_lacks_of_1 : DS → Out := (setN 2 (cS (.dict [])))
def g_lacks_of_2b_1 : DS → Out := (dputS 2 (vP 3) (op2 addI (dgxS (vT 2) (vP 3) (cS (.int 0))) (vP 5)))
def g_lacks_of_2B : DS → Out := g_lacks_of_2b_1
def g_lacks_of_2 : DS → Out := (forS (itL (vP 1)) (.tr 3 4 5) g_lacks_of_2B)
def g_lacks_of_3 : DS → Out := (retS (lcS (itL (vP 0)) [3, 6] (.pr 3 6) (bS (op2 gtI (vP 6) (dgxS (vT 2) (vP 3) (cS (.int 0))))) (tupS (consA (vP 3) (consA (op2 subI (vP 6) (dgxS (vT 2) (vP 3) (cS (.int 0)))) nilA)))))
def g_lacks_of : DS → Out := (seqS g_lacks_of_1 (seqS g_lacks_of_2 g_lacks_of_3))
def V_lacks_of : List PyData → R PyData := bodyS 7 [false, false] g_lacks_of
def g_lacking_1 : DS → Out := (exS (callS (consA (vP 0) (consA (vP 1) (consA (vP 2) nilA))) V_look_all []))
def g_lacking_2 : DS → Out := (retS (callS (consA (vP 1) (consA (callS (consA (vP 0) (consA (vP 1) (consA (vP 2) nilA))) V_serve []) nilA)) V_lacks_of []))
def g_lacking : DS → Out := (seqS g_lacking_1 g_lacking_2)
def V_lacking : List PyData → R PyData := bodyS 3 [false, false, false] g_lacking
def g_widened_1 : DS → Out := (unpS (.pr 4 5) (vP 2))
def g_widened_2 : DS → Out := (setS 6 (lcS (itL (vP 1)) [7, 8, 9] (.tr 7 8 9) (andB (bS (op2 leI (vP 8) (vP 5))) (bS (op2 gtI (op2 addI (vP 8) (vP 3)) (vP 4)))) (vP 7)))
def g_widened_3 : DS → Out := (retS (tupS (consA (op1 minL (op2 catD (vP 6) (lstS (consA (vP 4) nilA)))) (consA (op1 maxL (op2 catD (vP 6) (lstS (consA (vP 5) nilA)))) nilA))))
def g_widened : DS → Out := (seqS g_widened_1 (seqS g_widened_2 g_widened_3))
def V_widened : List PyData → R PyData := bodyS 10 [false, false, false, false] g_widened
def g_closed_1 : DS → Out := (setS 4 (tupS (consA (vP 2) (consA (vP 2) nilA))))
def g_closed_2 : DS → Out := (setS 5 (callS (consA (vP 0) (consA (vP 1) (consA (vP 4) (consA (vP 3) nilA)))) V_widened []))
def g_closed_3b_1 : DS → Out := (setS 4 (vP 5))
def g_closed_3b_2 : DS → Out := (setS 5 (callS (consA (vP 0) (consA (vP 1) (consA (vP 4) (consA (vP 3) nilA)))) V_widened []))
def g_closed_3B : DS → Out := (seqS g_closed_3b_1 g_closed_3b_2)
def g_closed_3 : DS → Out := (whGo (bS (op2 neD (vP 5) (vP 4))) g_closed_3B 100000)
def g_closed_4 : DS → Out := (retS (vP 4))
def g_closed : DS → Out := (seqS g_closed_1 (seqS g_closed_2 (seqS g_closed_3 g_closed_4)))
def V_closed : List PyData → R PyData := bodyS 6 [false, false, false, false] g_closed
def g_narrows_1 : DS → Out := (exS (callS (consA (vP 0) (consA (vP 1) (consA (vP 2) nilA))) V_look_all []))
def g_narrows_2 : DS → Out := (parPN 3 4 (callS (consA (vP 0) (consA (vP 1) (consA (vP 2) nilA))) V_serve []) (lstS nilA))
def g_narrows_3b_1 : DS → Out := (unpS (.pr 7 8) (callS (consA (vP 0) (consA (vP 3) (consA (vP 5) (consA (vP 2) nilA)))) V_closed []))
def g_narrows_3b_2b_1 : DS → Out := (parPP 7 8 (op2 minI (op2 ixD (ixO 4 (op1 negD (cS (.int 1)))) (cS (.int 0))) (vP 7)) (op2 maxI (op2 ixD (ixO 4 (op1 negD (cS (.int 1)))) (cS (.int 1))) (vP 8)))
def g_narrows_3b_2b_2 : DS → Out := (setN 4 (slO 4 noO (someO (op1 negD (cS (.int 1))))))
def g_narrows_3b_2B : DS → Out := (seqS g_narrows_3b_2b_1 g_narrows_3b_2b_2)
def g_narrows_3b_2 : DS → Out := (whGo (andB (bS (op2 neD (vT 4) (lstS nilA))) (bS (op2 geI (op2 ixD (ixO 4 (op1 negD (cS (.int 1)))) (cS (.int 1))) (vP 7)))) g_narrows_3b_2B 100000)
def g_narrows_3b_3 : DS → Out := (appS 4 (tupS (consA (vP 7) (consA (vP 8) nilA))))
def g_narrows_3B : DS → Out := (seqS g_narrows_3b_1 (seqS g_narrows_3b_2 g_narrows_3b_3))
def g_narrows_3 : DS → Out := (forS (itL (callS (consA (vP 1) (consA (vP 3) nilA)) V_lacks_of [])) (.pr 5 6) g_narrows_3B)
def g_narrows_4 : DS → Out := (retS (vP 4))
def g_narrows : DS → Out := (seqS g_narrows_1 (seqS g_narrows_2 (seqS g_narrows_3 (frzS 4 g_narrows_4))))
def V_narrows : List PyData → R PyData := bodyS 9 [false, false, false] g_narrows
def g__law_pick_1 : DS → Out := (setS 3 (ifE (bS (op2 neD (vP 0) (lstS nilA))) (op2 ixD (vP 0) (op2 modI (vP 1) (op1 lenD (vP 0)))) (cS (.int 0))))
def g__law_pick_2 : DS → Out := (parPP 4 5 (op2 divI (vP 3) (op2 powI (cS (.int 10)) (cS (.int 18)))) (op2 divI (vP 1) (op2 maxI (op1 lenD (vP 0)) (cS (.int 1)))))
def g__law_pick_3b_1 : DS → Out := (parPP 4 5 (op2 divI (vP 4) (cS (.int 840))) (op2 subI (vP 5) (cS (.int 1))))
def g__law_pick_3B : DS → Out := g__law_pick_3b_1
def g__law_pick_3 : DS → Out := (whGo (andB (bS (op2 gtI (vP 4) (cS (.int 0)))) (bS (op2 gtI (vP 5) (cS (.int 0))))) g__law_pick_3B 100000)
def g__law_pick_4t_1 : DS → Out := (retS (op2 modI (op2 modI (vP 4) (cS (.int 840))) (vP 2)))
def g__law_pick_4 : DS → Out := (ifS (bS (op2 gtI (vP 4) (cS (.int 0)))) g__law_pick_4t_1 nxS)
def g__law_pick_5 : DS → Out := (setS 6 (op2 modI (op2 mulI (op2 addI (op2 mulI (vP 3) (cS (.int 31))) (op2 mulI (cS (.int 6151)) (op2 addI (vP 1) (cS (.int 1))))) (cS (.int 40692))) (cS (.int 2147483399))))
def g__law_pick_6 : DS → Out := (retS (op2 modI (op2 modI (op2 addI (op2 mulI (vP 6) (vP 6)) (op2 divI (vP 6) (cS (.int 31)))) (cS (.int 2147483629))) (vP 2)))
def g__law_pick : DS → Out := (seqS g__law_pick_1 (seqS g__law_pick_2 (seqS g__law_pick_3 (seqS g__law_pick_4 (seqS g__law_pick_5 g__law_pick_6)))))
def V__law_pick : List PyData → R PyData := bodyS 7 [false, false, false] g__law_pick
def g__law_rows_1 : DS → Out := (parNP 3 4 (lstS nilA) (callS (consA (vP 0) (consA (vP 1) (consA (cS (.int 4)) nilA))) V__law_pick []))
def g__law_rows_2b_1 : DS → Out := (appS 3 (tupS (consA (vP 4) (consA (op2 addI (cS (.int 1)) (callS (consA (vP 0) (consA (op2 addI (op2 addI (vP 1) (cS (.int 2))) (vP 5)) (consA (vP 2) nilA))) V__law_pick [])) nilA))))
def g__law_rows_2b_2 : DS → Out := (setS 4 (op2 addI (vP 4) (op2 ixD (lstS (consA (cS (.int 1)) (consA (cS (.int 1)) (consA (cS (.int 1)) (consA (cS (.int 2)) (consA (cS (.int 3)) (consA (cS (.int 6)) nilA))))))) (callS (consA (vP 0) (consA (op2 addI (op2 addI (vP 1) (cS (.int 10))) (vP 5)) (consA (cS (.int 6)) nilA))) V__law_pick []))))
def g__law_rows_2B : DS → Out := (seqS g__law_rows_2b_1 g__law_rows_2b_2)
def g__law_rows_2 : DS → Out := (forS (itR1 (callS (consA (vP 0) (consA (op2 addI (vP 1) (cS (.int 1))) (consA (cS (.int 8)) nilA))) V__law_pick [])) (.nm 5) g__law_rows_2B)
def g__law_rows_3 : DS → Out := (retS (vP 3))
def g__law_rows : DS → Out := (seqS g__law_rows_1 (seqS g__law_rows_2 (frzS 3 g__law_rows_3)))
def V__law_rows : List PyData → R PyData := bodyS 6 [false, false, false] g__law_rows
def g__law_units_1 : DS → Out := (parNN 3 4 (lstS nilA) (lstS nilA))
def g__law_units_2b_1 : DS → Out := (extS 3 (op2 repN (lstS (consA (vP 5) nilA)) (vP 6)))
def g__law_units_2B : DS → Out := g__law_units_2b_1
def g__law_units_2 : DS → Out := (forS (itL (vP 0)) (.pr 5 6) g__law_units_2B)
def g__law_units_3b_1b_1 : DS → Out := (setS 9 (lcS (itO 3) [5] (.nm 5) (bS (chI leI ltI (vP 5) (vP 7) (op2 addI (vP 5) (vP 2)))) (vP 5)))
def g__law_units_3b_1b_2t_1 : DS → Out := (remS 3 (op2 ixD (vP 9) (cS (.int 0))))
def g__law_units_3b_1b_2t_2 : DS → Out := (appS 4 (tupS (consA (vP 7) (consA (op2 ixD (vP 9) (cS (.int 0))) nilA))))
def g__law_units_3b_1b_2 : DS → Out := (ifS (bS (op2 neD (vP 9) (lstS nilA))) (seqS g__law_units_3b_1b_2t_1 g__law_units_3b_1b_2t_2) nxS)
def g__law_units_3b_1B : DS → Out := (seqS g__law_units_3b_1b_1 g__law_units_3b_1b_2)
def g__law_units_3b_1 : DS → Out := (forS (itR1 (vP 6)) (.nm 8) g__law_units_3b_1B)
def g__law_units_3B : DS → Out := g__law_units_3b_1
def g__law_units_3 : DS → Out := (forS (itL (vP 1)) (.pr 7 6) g__law_units_3B)
def g__law_units_4 : DS → Out := (retS (tupS (consA (vP 4) (consA (vP 3) nilA))))
def g__law_units : DS → Out := (seqS g__law_units_1 (seqS g__law_units_2 (seqS g__law_units_3 (frzS 3 (frzS 4 g__law_units_4)))))
def V__law_units : List PyData → R PyData := bodyS 10 [false, false, false] g__law_units
def g__law_more_1 : DS → Out := (setN 4 (op1 listD (vP 2)))
def g__law_more_2b_1b_1t_1 : DS → Out := (appS 4 (vP 6))
def g__law_more_2b_1b_1 : DS → Out := (ifS (andB (bS (op2 ninlD (vP 6) (vT 4))) (bS (op1 anyD (lcS (itO 4) [8] (.nm 8) yesB (chI leI ltI (vP 7) (vP 8) (op2 addI (vP 7) (vP 3))))))) g__law_more_2b_1b_1t_1 nxS)
def g__law_more_2b_1B : DS → Out := g__law_more_2b_1b_1
def g__law_more_2b_1 : DS → Out := (forS (itL (vP 0)) (.pr 6 7) g__law_more_2b_1B)
def g__law_more_2B : DS → Out := g__law_more_2b_1
def g__law_more_2 : DS → Out := (forS (itR1 (op2 addI (op1 lenD (vP 0)) (cS (.int 1)))) (.nm 5) g__law_more_2B)
def g__law_more_3b_1t_1 : DS → Out := (retS (cS (.bool true)))
def g__law_more_3b_1 : DS → Out := (ifS (bS (op1 anyD (lcS (itL (vP 1)) [7] (.nm 7) yesB (chI leI ltI (vP 7) (vP 6) (op2 addI (vP 7) (vP 3)))))) g__law_more_3b_1t_1 nxS)
def g__law_more_3B : DS → Out := g__law_more_3b_1
def g__law_more_3 : DS → Out := (forS (itL (vP 4)) (.nm 6) g__law_more_3B)
def g__law_more_4 : DS → Out := (retS (cS (.bool false)))
def g__law_more : DS → Out := (seqS g__law_more_1 (seqS g__law_more_2 (frzS 4 (seqS g__law_more_3 g__law_more_4))))
def V__law_more : List PyData → R PyData := bodyS 9 [false, false, false, false] g__law_more
def g_law_1 : DS → Out := (par3 1 2 3 (slL (callS (consA (vP 0) (consA (cS (.int 0)) (consA (cS (.int 3)) nilA))) V__law_rows []) noO (someO (cS (.int 5)))) (slL (callS (consA (vP 0) (consA (cS (.int 30)) (consA (cS (.int 3)) nilA))) V__law_rows []) noO (someO (cS (.int 5)))) (op2 addI (cS (.int 1)) (callS (consA (vP 0) (consA (cS (.int 60)) (consA (cS (.int 4)) nilA))) V__law_pick [])))
def g_law_2 : DS → Out := (unpS (.pr 4 5) (callS (consA (vP 1) (consA (vP 2) (consA (vP 3) nilA))) V__law_units []))
def g_law_3 : DS → Out := (setS 6 (lcS (itL (callS (consA (vP 1) (consA (vP 2) (consA (vP 3) nilA))) V_lacking [])) [8, 7] (.pr 8 7) yesB (vP 8)))
def g_law_4t_1 : DS → Out := (retS (cS (.bool false)))
def g_law_4 : DS → Out := (ifS (orB (bS (callS (consA (vP 4) (consA (vP 5) (consA (vP 6) (consA (vP 3) nilA)))) V__law_more [])) (bS (op2 neD (op1 lenD (vP 4)) (op1 sumD (lcS (itL (callS (consA (vP 1) (consA (vP 2) (consA (vP 3) nilA))) V_served [])) [12] (.nm 12) yesB (op2 ixD (vP 12) (cS (.int 2)))))))) g_law_4t_1 nxS)
def g_law_5 : DS → Out := (setS 7 (op1 lenD (vP 4)))
def g_law_6 : DS → Out := (setS 8 (op2 addI (cS (.int 60)) (callS (consA (vP 0) (consA (cS (.int 61)) (consA (cS (.int 9)) nilA))) V__law_pick [])))
def g_law_7 : DS → Out := (setS 9 (op2 catD (vP 2) (lstS (consA (tupS (consA (vP 8) (consA (cS (.int 2)) nilA))) nilA))))
def g_law_8t_1 : DS → Out := (retS (cS (.bool false)))
def g_law_8 : DS → Out := (ifS (bS (op2 ltI (op1 sumD (lcS (itL (callS (consA (op2 catD (vP 1) (lstS (consA (tupS (consA (vP 8) (consA (cS (.int 1)) nilA))) nilA))) (consA (vP 9) (consA (vP 3) nilA))) V_served [])) [12] (.nm 12) yesB (op2 ixD (vP 12) (cS (.int 2))))) (op2 addI (vP 7) (cS (.int 1))))) g_law_8t_1 nxS)
def g_law_9t_1 : DS → Out := (retS (cS (.bool false)))
def g_law_9 : DS → Out := (ifS (bS (op2 ltI (op1 sumD (lcS (itL (callS (consA (vP 1) (consA (vP 9) (consA (vP 3) nilA))) V_served [])) [12] (.nm 12) yesB (op2 ixD (vP 12) (cS (.int 2))))) (vP 7))) g_law_9t_1 nxS)
def g_law_10 : DS → Out := (setS 10 (lstS (consA (lcS (itL (vP 1)) [13, 14] (.pr 13 14) yesB (tupS (consA (op2 addI (vP 13) (cS (.int 1))) (consA (vP 14) nilA)))) (consA (lcS (itL (vP 2)) [13, 14] (.pr 13 14) yesB (tupS (consA (op2 addI (vP 13) (cS (.int 1))) (consA (vP 14) nilA)))) nilA))))
def g_law_11 : DS → Out := (setS 11 (lcS (itL (callS (consA (vP 1) (consA (vP 2) (consA (vP 3) nilA))) V_served [])) [15, 13, 14] (.tr 15 13 14) yesB (tupS (consA (op2 addI (vP 15) (cS (.int 1))) (consA (op2 addI (vP 13) (cS (.int 1))) (consA (vP 14) nilA))))))
def g_law_12t_1 : DS → Out := (retS (cS (.bool false)))
def g_law_12 : DS → Out := (ifS (bS (op2 neD (callS (consA (op2 ixD (vP 10) (cS (.int 0))) (consA (op2 ixD (vP 10) (cS (.int 1))) (consA (vP 3) nilA))) V_served []) (vP 11))) g_law_12t_1 nxS)
def g_law_13t_1 : DS → Out := (retS (cS (.bool false)))
def g_law_13 : DS → Out := (ifS (andB (bS (op2 ltI (vP 3) (cS (.int 4)))) (bS (op2 ltI (op1 sumD (lcS (itL (callS (consA (vP 1) (consA (vP 2) (consA (op2 addI (vP 3) (cS (.int 1))) nilA))) V_served [])) [12] (.nm 12) yesB (op2 ixD (vP 12) (cS (.int 2))))) (vP 7)))) g_law_13t_1 nxS)
def g_law_14 : DS → Out := (retS (op2 eqD (callS (consA (op2 ixD (vP 10) (cS (.int 0))) (consA (op2 ixD (vP 10) (cS (.int 1))) (consA (vP 3) nilA))) V_narrows []) (lcS (itL (callS (consA (vP 1) (consA (vP 2) (consA (vP 3) nilA))) V_narrows [])) [15, 16] (.pr 15 16) yesB (tupS (consA (op2 addI (vP 15) (cS (.int 1))) (consA (op2 addI (vP 16) (cS (.int 1))) nilA))))))
def g_law : DS → Out := (seqS g_law_1 (seqS g_law_2 (seqS g_law_3 (seqS g_law_4 (seqS g_law_5 (seqS g_law_6 (seqS g_law_7 (seqS g_law_8 (seqS g_law_9 (seqS g_law_10 (seqS g_law_11 (seqS g_law_12 (seqS g_law_13 g_law_14)))))))))))))
def V_law : List PyData → R PyData := bodyS 17 [false] g_law
end Cb
namespace Cb
open PySem PySem.Spec PyProof.Rows L2
def topS (i : Nat) : Stmt := PySem.Challenge.pw_couponbooks_k07_whole_none_serves_more.main.body.getD i (.Pass ⟨0, 0, 0, 0⟩)
abbrev s_is_number : Stmt := topS 9
abbrev s_look_number : Stmt := topS 10
abbrev s_is_row : Stmt := topS 11
abbrev s_are_rows : Stmt := topS 12
abbrev s_look_rows : Stmt := topS 13
abbrev s_is_good_in : Stmt := topS 14
abbrev s_taken : Stmt := topS 16
abbrev s_serve : Stmt := topS 17
abbrev s_look_all : Stmt := topS 18
abbrev s_served : Stmt := topS 19
abbrev s_lacks_of : Stmt := topS 20
abbrev s_lacking : Stmt := topS 21
abbrev s_widened : Stmt := topS 23
abbrev s_closed : Stmt := topS 24
abbrev s_narrows : Stmt := topS 25
abbrev s__law_pick : Stmt := topS 27
abbrev s__law_rows : Stmt := topS 28
abbrev s__law_units : Stmt := topS 29
abbrev s__law_more : Stmt := topS 30
abbrev s_law : Stmt := topS 31
structure Tx (K : PySem.W.Frag) (mg : Str → Option Value) : Prop where
  f_is_number : ∃ fd, FunD K "is_number" "is_number" (defArgs s_is_number) (defBody s_is_number) (defScope s_is_number) [] [] (He.ga K "is_number") fd
  g_is_number : mg "is_number" = some (.ref (He.ga K "is_number"))
  f_look_number : ∃ fd, FunD K "look_number" "look_number" (defArgs s_look_number) (defBody s_look_number) (defScope s_look_number) [] [] (He.ga K "look_number") fd
  g_look_number : mg "look_number" = some (.ref (He.ga K "look_number"))
  f_is_row : ∃ fd, FunD K "is_row" "is_row" (defArgs s_is_row) (defBody s_is_row) (defScope s_is_row) [] [] (He.ga K "is_row") fd
  g_is_row : mg "is_row" = some (.ref (He.ga K "is_row"))
  f_are_rows : ∃ fd, FunD K "are_rows" "are_rows" (defArgs s_are_rows) (defBody s_are_rows) (defScope s_are_rows) [] [] (He.ga K "are_rows") fd
  g_are_rows : mg "are_rows" = some (.ref (He.ga K "are_rows"))
  f_look_rows : ∃ fd, FunD K "look_rows" "look_rows" (defArgs s_look_rows) (defBody s_look_rows) (defScope s_look_rows) [] [] (He.ga K "look_rows") fd
  g_look_rows : mg "look_rows" = some (.ref (He.ga K "look_rows"))
  f_is_good_in : ∃ fd, FunD K "is_good_in" "is_good_in" (defArgs s_is_good_in) (defBody s_is_good_in) (defScope s_is_good_in) [] [] (He.ga K "is_good_in") fd
  g_is_good_in : mg "is_good_in" = some (.ref (He.ga K "is_good_in"))
  f_taken : ∃ fd, FunD K "taken" "taken" (defArgs s_taken) (defBody s_taken) (defScope s_taken) [] [] (He.ga K "taken") fd
  g_taken : mg "taken" = some (.ref (He.ga K "taken"))
  f_serve : ∃ fd, FunD K "serve" "serve" (defArgs s_serve) (defBody s_serve) (defScope s_serve) [] [] (He.ga K "serve") fd
  g_serve : mg "serve" = some (.ref (He.ga K "serve"))
  f_look_all : ∃ fd, FunD K "look_all" "look_all" (defArgs s_look_all) (defBody s_look_all) (defScope s_look_all) [] [] (He.ga K "look_all") fd
  g_look_all : mg "look_all" = some (.ref (He.ga K "look_all"))
  f_served : ∃ fd, FunD K "served" "served" (defArgs s_served) (defBody s_served) (defScope s_served) [.int 1] [] (He.ga K "served") fd
  g_served : mg "served" = some (.ref (He.ga K "served"))
  f_lacks_of : ∃ fd, FunD K "lacks_of" "lacks_of" (defArgs s_lacks_of) (defBody s_lacks_of) (defScope s_lacks_of) [] [] (He.ga K "lacks_of") fd
  g_lacks_of : mg "lacks_of" = some (.ref (He.ga K "lacks_of"))
  f_lacking : ∃ fd, FunD K "lacking" "lacking" (defArgs s_lacking) (defBody s_lacking) (defScope s_lacking) [.int 1] [] (He.ga K "lacking") fd
  g_lacking : mg "lacking" = some (.ref (He.ga K "lacking"))
  f_widened : ∃ fd, FunD K "widened" "widened" (defArgs s_widened) (defBody s_widened) (defScope s_widened) [] [] (He.ga K "widened") fd
  g_widened : mg "widened" = some (.ref (He.ga K "widened"))
  f_closed : ∃ fd, FunD K "closed" "closed" (defArgs s_closed) (defBody s_closed) (defScope s_closed) [] [] (He.ga K "closed") fd
  g_closed : mg "closed" = some (.ref (He.ga K "closed"))
  f_narrows : ∃ fd, FunD K "narrows" "narrows" (defArgs s_narrows) (defBody s_narrows) (defScope s_narrows) [.int 1] [] (He.ga K "narrows") fd
  g_narrows : mg "narrows" = some (.ref (He.ga K "narrows"))
  f__law_pick : ∃ fd, FunD K "_law_pick" "_law_pick" (defArgs s__law_pick) (defBody s__law_pick) (defScope s__law_pick) [] [] (He.ga K "_law_pick") fd
  g__law_pick : mg "_law_pick" = some (.ref (He.ga K "_law_pick"))
  f__law_rows : ∃ fd, FunD K "_law_rows" "_law_rows" (defArgs s__law_rows) (defBody s__law_rows) (defScope s__law_rows) [] [] (He.ga K "_law_rows") fd
  g__law_rows : mg "_law_rows" = some (.ref (He.ga K "_law_rows"))
  f__law_units : ∃ fd, FunD K "_law_units" "_law_units" (defArgs s__law_units) (defBody s__law_units) (defScope s__law_units) [] [] (He.ga K "_law_units") fd
  g__law_units : mg "_law_units" = some (.ref (He.ga K "_law_units"))
  f__law_more : ∃ fd, FunD K "_law_more" "_law_more" (defArgs s__law_more) (defBody s__law_more) (defScope s__law_more) [] [] (He.ga K "_law_more") fd
  g__law_more : mg "_law_more" = some (.ref (He.ga K "_law_more"))
  f_law : ∃ fd, FunD K "law" "law" (defArgs s_law) (defBody s_law) (defScope s_law) [] [] (He.ga K "law") fd
  g_law : mg "law" = some (.ref (He.ga K "law"))
  b_all : mg "all" = none
  b_any : mg "any" = none
  b_bool : mg "bool" = none
  b_dict : mg "dict" = none
  b_int : mg "int" = none
  b_isinstance : mg "isinstance" = none
  b_len : mg "len" = none
  b_list : mg "list" = none
  b_max : mg "max" = none
  b_min : mg "min" = none
  b_range : mg "range" = none
  b_sorted : mg "sorted" = none
  b_sum : mg "sum" = none
  b_tuple : mg "tuple" = none
  b_zip : mg "zip" = none
  c_LONGEST_SPAN : ∃ t, mg "LONGEST_SPAN" = some (.int 4 t)
  c_MOST_IN_ROW : ∃ t, mg "MOST_IN_ROW" = some (.int 99 t)
  c_MOST_ROWS : ∃ t, mg "MOST_ROWS" = some (.int 12 t)
  c_WEEKS : ∃ t, mg "WEEKS" = some (.int 100 t)
  x_NoNumber : PySem.W.excIn K (He.ga K "NoNumber") [.type "ValueError", .type "Exception", .type "BaseException", .type "object"] "ValueError.__new__" = true ∧ PySem.W.keepIn K (.ref (He.ga K "NoNumber")) = true ∧ PySem.W.subIn K (.ref (He.ga K "NoNumber")) (.type "BaseException") = some true ∧ PySem.W.typeIn K (.ref (He.ga K "NoNumber")) = some (.type "type")
  g_NoNumber : mg "NoNumber" = some (.ref (He.ga K "NoNumber"))
  x_NoRows : PySem.W.excIn K (He.ga K "NoRows") [.type "ValueError", .type "Exception", .type "BaseException", .type "object"] "ValueError.__new__" = true ∧ PySem.W.keepIn K (.ref (He.ga K "NoRows")) = true ∧ PySem.W.subIn K (.ref (He.ga K "NoRows")) (.type "BaseException") = some true ∧ PySem.W.typeIn K (.ref (He.ga K "NoRows")) = some (.type "type")
  g_NoRows : mg "NoRows" = some (.ref (He.ga K "NoRows"))
section
variable {TL : List (Addr × Str)} {P : Program} {w : World} {K : PySem.W.Frag} {mg : Str → Option Value} {base : Heap}
theorem bnd_served {fd : FuncData} (F : FunD K "served" "served" (defArgs s_served) (defBody s_served) (defScope s_served) [.int 1] [] (He.ga K "served") fd) : Binds K fd ["coupons", "needs", "lifetime"] [] := binds_full F (by simp) fun T kV doc pm an cdv ct us its h1 h2 => match us, its, h1, h2 with | [_, _, _], [_], _, _ => ⟨_, rfl, rfl⟩
theorem bnd1_served {fd : FuncData} (F : FunD K "served" "served" (defArgs s_served) (defBody s_served) (defScope s_served) [.int 1] [] (He.ga K "served") fd) : ∃ ds, Vals [.int 1] ds ∧ Binds K fd ["coupons", "needs", "lifetime"] ds := F.binds1 (ps := ["coupons", "needs", "lifetime"]) 2 0 (by simp) (by decide) fun T kV doc pm an cdv ct us its h1 h2 => match us, its, h1, h2 with | [_, _], [_], _, _ => ⟨_, rfl, rfl⟩
theorem bnk_served {fd : FuncData} (F : FunD K "served" "served" (defArgs s_served) (defBody s_served) (defScope s_served) [.int 1] [] (He.ga K "served") fd) : KBn K fd ["coupons", "needs", "lifetime"] 2 ["lifetime"] (fun us ws => us ++ ws) (fun vs zs => vs ++ zs) := kbn_of F 2 ["lifetime"] (by simp) fun T kV doc pm an cdv ct us its ws h1 h2 h3 => match us, its, ws, h1, h2, h3 with | [_, _], [_], [_], _, _, _ => ⟨_, rfl, rfl⟩
theorem bnd_lacking {fd : FuncData} (F : FunD K "lacking" "lacking" (defArgs s_lacking) (defBody s_lacking) (defScope s_lacking) [.int 1] [] (He.ga K "lacking") fd) : Binds K fd ["coupons", "needs", "lifetime"] [] := binds_full F (by simp) fun T kV doc pm an cdv ct us its h1 h2 => match us, its, h1, h2 with | [_, _, _], [_], _, _ => ⟨_, rfl, rfl⟩
theorem bnd1_lacking {fd : FuncData} (F : FunD K "lacking" "lacking" (defArgs s_lacking) (defBody s_lacking) (defScope s_lacking) [.int 1] [] (He.ga K "lacking") fd) : ∃ ds, Vals [.int 1] ds ∧ Binds K fd ["coupons", "needs", "lifetime"] ds := F.binds1 (ps := ["coupons", "needs", "lifetime"]) 2 0 (by simp) (by decide) fun T kV doc pm an cdv ct us its h1 h2 => match us, its, h1, h2 with | [_, _], [_], _, _ => ⟨_, rfl, rfl⟩
theorem bnk_lacking {fd : FuncData} (F : FunD K "lacking" "lacking" (defArgs s_lacking) (defBody s_lacking) (defScope s_lacking) [.int 1] [] (He.ga K "lacking") fd) : KBn K fd ["coupons", "needs", "lifetime"] 2 ["lifetime"] (fun us ws => us ++ ws) (fun vs zs => vs ++ zs) := kbn_of F 2 ["lifetime"] (by simp) fun T kV doc pm an cdv ct us its ws h1 h2 h3 => match us, its, ws, h1, h2, h3 with | [_, _], [_], [_], _, _, _ => ⟨_, rfl, rfl⟩
theorem bnd_narrows {fd : FuncData} (F : FunD K "narrows" "narrows" (defArgs s_narrows) (defBody s_narrows) (defScope s_narrows) [.int 1] [] (He.ga K "narrows") fd) : Binds K fd ["coupons", "needs", "lifetime"] [] := binds_full F (by simp) fun T kV doc pm an cdv ct us its h1 h2 => match us, its, h1, h2 with | [_, _, _], [_], _, _ => ⟨_, rfl, rfl⟩
theorem bnd1_narrows {fd : FuncData} (F : FunD K "narrows" "narrows" (defArgs s_narrows) (defBody s_narrows) (defScope s_narrows) [.int 1] [] (He.ga K "narrows") fd) : ∃ ds, Vals [.int 1] ds ∧ Binds K fd ["coupons", "needs", "lifetime"] ds := F.binds1 (ps := ["coupons", "needs", "lifetime"]) 2 0 (by simp) (by decide) fun T kV doc pm an cdv ct us its h1 h2 => match us, its, h1, h2 with | [_, _], [_], _, _ => ⟨_, rfl, rfl⟩
theorem bnk_narrows {fd : FuncData} (F : FunD K "narrows" "narrows" (defArgs s_narrows) (defBody s_narrows) (defScope s_narrows) [.int 1] [] (He.ga K "narrows") fd) : KBn K fd ["coupons", "needs", "lifetime"] 2 ["lifetime"] (fun us ws => us ++ ws) (fun vs zs => vs ++ zs) := kbn_of F 2 ["lifetime"] (by simp) fun T kV doc pm an cdv ct us its ws h1 h2 h3 => match us, its, ws, h1, h2, h3 with | [_, _], [_], [_], _, _, _ => ⟨_, rfl, rfl⟩
abbrev N_is_number : List Str := ["thing", "least", "most"]
theorem sc_is_number : FnScope N_is_number ["thing", "least", "most"] (defScope s_is_number) := ⟨rfl, rfl, rfl, by decide +kernel, rfl, by decide +kernel, by decide +kernel⟩
theorem ok_is_number (T : Tx K mg) {fd : FuncData} (F : FunD K "is_number" "is_number" (defArgs s_is_number) (defBody s_is_number) (defScope s_is_number) [] [] (He.ga K "is_number") fd) : FnOk P w K mg base (L2.CX P w) 1 (He.ga K "is_number") fd ["thing", "least", "most"] (spS TL K (He.ga K) [false, false, false] V_is_number) := by
  refine fn_mk F sc_is_number rfl (by decide) fun cdv A outer s H E F0 hr => ?_
  have hu := hu_of hr
  have h64 := hr.units
  have h65 := hu65 hr
  exact (d_one (d_ret (d_andV (d_pt (d_isi (T := "int") (d_pt (d_v 0)) (by decide +kernel) T.b_isinstance T.b_int)) (d_andV (d_pt (d_notV (d_pt (d_isi (T := "bool") (d_pt (d_v 0)) (by decide +kernel) T.b_isinstance T.b_bool)))) (d_andV1 (d_ch op_le od_le op_le od_le (d_pt (d_v 1)) (d_pt (d_v 0)) (d_pt (d_v 2))))))))
abbrev N_look_number : List Str := ["thing", "least", "most"]
theorem sc_look_number : FnScope N_look_number ["thing", "least", "most"] (defScope s_look_number) := ⟨rfl, rfl, rfl, by decide +kernel, rfl, by decide +kernel, by decide +kernel⟩
theorem ok_look_number (T : Tx K mg) {fd : FuncData} (F : FunD K "look_number" "look_number" (defArgs s_look_number) (defBody s_look_number) (defScope s_look_number) [] [] (He.ga K "look_number") fd) : FnOk P w K mg base (L2.CX P w) 2 (He.ga K "look_number") fd ["thing", "least", "most"] (spS TL K (He.ga K) [false, false, false] V_look_number) := by
  obtain ⟨fd_is_number, F_is_number⟩ := T.f_is_number
  have G_is_number := ok_is_number (P := P) (w := w) (base := base) (TL := TL) T F_is_number
  have b_is_number := F_is_number.bindsN (ps := ["thing", "least", "most"]) fun _ _ _ _ _ _ us hl => match us, hl with | [_, _, _], _ => rfl
  refine fn_mk F sc_look_number rfl (by decide) fun cdv A outer s H E F0 hr => ?_
  have hu := hu_of hr
  have h64 := hr.units
  have h65 := hu65 hr
  exact (d_one (d_if (d_not (d_valB (d_pt (d_cl G_is_number (hr.mono (by decide)) T.g_is_number F_is_number.kp b_is_number (passes_call (takes_of rfl rfl rfl rfl) fun _ _ _ _ h => h) (d_aP (d_v 0) (d_aP (d_v 1) (d_aP (d_v 2) d_a0))))))) (d_one (d_raise (x := "NoNumber") rfl (takes_of rfl rfl rfl rfl) T.x_NoNumber.1 T.g_NoNumber T.x_NoNumber.2.1 T.x_NoNumber.2.2.1 T.x_NoNumber.2.2.2)) d_nil))
abbrev N_is_row : List Str := ["thing"]
theorem sc_is_row : FnScope N_is_row ["thing"] (defScope s_is_row) := ⟨rfl, rfl, rfl, by decide +kernel, rfl, by decide +kernel, by decide +kernel⟩
theorem ok_is_row (T : Tx K mg) {fd : FuncData} (F : FunD K "is_row" "is_row" (defArgs s_is_row) (defBody s_is_row) (defScope s_is_row) [] [] (He.ga K "is_row") fd) : FnOk P w K mg base (L2.CX P w) 2 (He.ga K "is_row") fd ["thing"] (spS TL K (He.ga K) [false] V_is_row) := by
  obtain ⟨fd_is_number, F_is_number⟩ := T.f_is_number
  have G_is_number := ok_is_number (P := P) (w := w) (base := base) (TL := TL) T F_is_number
  have b_is_number := F_is_number.bindsN (ps := ["thing", "least", "most"]) fun _ _ _ _ _ _ us hl => match us, hl with | [_, _, _], _ => rfl
  obtain ⟨_, c_MOST_IN_ROW⟩ := T.c_MOST_IN_ROW
  obtain ⟨_, c_WEEKS⟩ := T.c_WEEKS
  refine fn_mk F sc_is_row rfl (by decide) fun cdv A outer s H E F0 hr => ?_
  have hu := hu_of hr
  have h64 := hr.units
  have h65 := hu65 hr
  exact (d_cons (d_if (PW.pt (d_or (d_not (d_valB (d_pt (d_isi (T := "tuple") (d_pt (d_v 0)) (by decide +kernel) T.b_isinstance T.b_tuple)))) (d_or1 (d_cmpB (op_neD h64) od_ne (d_pt (d_len (d_pt (d_v 0)) T.b_len)) (d_pt d_int))))) (d_one (d_ret d_bl)) d_nil) (d_one (d_ret (d_andV (d_pt (d_cl G_is_number (hr.mono (by decide)) T.g_is_number F_is_number.kp b_is_number (passes_call (takes_of rfl rfl rfl rfl) fun _ _ _ _ h => h) (d_aP (d_ixP (d_v 0) (d_pt d_int)) (d_aP d_int (d_aP (d_sub (d_pt (d_gi c_WEEKS)) (d_pt d_int)) d_a0))))) (d_andV1 (d_cl G_is_number (hr.mono (by decide)) T.g_is_number F_is_number.kp b_is_number (passes_call (takes_of rfl rfl rfl rfl) fun _ _ _ _ h => h) (d_aP (d_ixP (d_v 0) (d_pt d_int)) (d_aP d_int (d_aP (d_gi c_MOST_IN_ROW) d_a0)))))))))
abbrev N_are_rows : List Str := ["thing", "row", "one", "other"]
theorem sc_are_rows : FnScope N_are_rows ["thing"] (defScope s_are_rows) := ⟨rfl, rfl, rfl, by decide +kernel, rfl, by decide +kernel, by decide +kernel⟩
theorem ok_are_rows (T : Tx K mg) {fd : FuncData} (F : FunD K "are_rows" "are_rows" (defArgs s_are_rows) (defBody s_are_rows) (defScope s_are_rows) [] [] (He.ga K "are_rows") fd) : FnOk P w K mg base (L2.CX P w) 3 (He.ga K "are_rows") fd ["thing"] (spS TL K (He.ga K) [false] V_are_rows) := by
  obtain ⟨fd_is_row, F_is_row⟩ := T.f_is_row
  have G_is_row := ok_is_row (P := P) (w := w) (base := base) (TL := TL) T F_is_row
  have b_is_row := F_is_row.bindsN (ps := ["thing"]) fun _ _ _ _ _ _ us hl => match us, hl with | [_], _ => rfl
  obtain ⟨_, c_MOST_ROWS⟩ := T.c_MOST_ROWS
  refine fn_mk F sc_are_rows rfl (by decide) fun cdv A outer s H E F0 hr => ?_
  have hu := hu_of hr
  have h64 := hr.units
  have h65 := hu65 hr
  exact (d_cons (d_if (PW.pt (d_or (d_not (d_valB (d_pt (d_isi (T := "list") (d_pt (d_v 0)) (by decide +kernel) T.b_isinstance T.b_list)))) (d_or (d_cmpB op_gt od_gt (d_pt (d_len (d_pt (d_v 0)) T.b_len)) (d_pt (d_gi c_MOST_ROWS))) (d_or1 (d_not (d_valB (d_pt (d_all rfl (d_nt (d_lc rfl sc_are_rows.nd (d_j (d_itL (d_v 0))) (blkOk_by (own := [("row", 1)]) (N := N_are_rows) (sc := defScope s_are_rows) (by decide +kernel)) (fun _ _ _ _ _ => (d_g1 sc_are_rows.nd)) (fun _ _ _ _ _ => d_pts0) (fun _ _ _ _ _ => (d_cl G_is_row (hr.mono (by decide)) T.g_is_row F_is_row.kp b_is_row passL (d_aP (d_v 1) d_a0))) List.mem_cons_self)) T.b_all)))))))) (d_one (d_ret d_bl)) d_nil) (d_one (d_ret (d_all rfl (d_nt (d_lc rfl sc_are_rows.nd (d_j (d_itZ (d_v 0) (d_np (d_slL (d_v 0) (d_o1 (d_pt d_int)) d_o0)) T.b_zip)) (blkOk_by (own := [("one", 2), ("other", 3)]) (N := N_are_rows) (sc := defScope s_are_rows) (by decide +kernel)) (fun _ _ _ _ _ => (pg_tup rfl (pgs_cons (pg_name (i := 2) sc_are_rows.nd rfl (by first | exact Or.inl rfl | exact Or.inr rfl)) (pgs_cons (pg_name (i := 3) sc_are_rows.nd rfl (by first | exact Or.inl rfl | exact Or.inr rfl)) pgs_nil)))) (fun _ _ _ _ _ => d_pts0) (fun _ _ _ _ _ => (d_cmp op_lt od_lt (d_pt (d_ixP (d_v 2) (d_pt d_int))) (d_pt (d_ixP (d_v 3) (d_pt d_int))))) ⟨by decide, by decide⟩)) T.b_all))))
abbrev N_look_rows : List Str := ["rows"]
theorem sc_look_rows : FnScope N_look_rows ["rows"] (defScope s_look_rows) := ⟨rfl, rfl, rfl, by decide +kernel, rfl, by decide +kernel, by decide +kernel⟩
theorem ok_look_rows (T : Tx K mg) {fd : FuncData} (F : FunD K "look_rows" "look_rows" (defArgs s_look_rows) (defBody s_look_rows) (defScope s_look_rows) [] [] (He.ga K "look_rows") fd) : FnOk P w K mg base (L2.CX P w) 4 (He.ga K "look_rows") fd ["rows"] (spS TL K (He.ga K) [false] V_look_rows) := by
  obtain ⟨fd_are_rows, F_are_rows⟩ := T.f_are_rows
  have G_are_rows := ok_are_rows (P := P) (w := w) (base := base) (TL := TL) T F_are_rows
  have b_are_rows := F_are_rows.bindsN (ps := ["thing"]) fun _ _ _ _ _ _ us hl => match us, hl with | [_], _ => rfl
  refine fn_mk F sc_look_rows rfl (by decide) fun cdv A outer s H E F0 hr => ?_
  have hu := hu_of hr
  have h64 := hr.units
  have h65 := hu65 hr
  exact (d_one (d_if (d_not (d_valB (d_pt (d_cl G_are_rows (hr.mono (by decide)) T.g_are_rows F_are_rows.kp b_are_rows (passes_call (takes_of rfl rfl rfl rfl) fun _ _ _ _ h => h) (d_aP (d_v 0) d_a0))))) (d_one (d_raise (x := "NoRows") rfl (takes_of rfl rfl rfl rfl) T.x_NoRows.1 T.g_NoRows T.x_NoRows.2.1 T.x_NoRows.2.2.1 T.x_NoRows.2.2.2)) d_nil))
abbrev N_is_good_in : List Str := ["own", "week", "span"]
theorem sc_is_good_in : FnScope N_is_good_in ["own", "week", "span"] (defScope s_is_good_in) := ⟨rfl, rfl, rfl, by decide +kernel, rfl, by decide +kernel, by decide +kernel⟩
theorem ok_is_good_in (T : Tx K mg) {fd : FuncData} (F : FunD K "is_good_in" "is_good_in" (defArgs s_is_good_in) (defBody s_is_good_in) (defScope s_is_good_in) [] [] (He.ga K "is_good_in") fd) : FnOk P w K mg base (L2.CX P w) 1 (He.ga K "is_good_in") fd ["own", "week", "span"] (spS TL K (He.ga K) [false, false, false] V_is_good_in) := by
  refine fn_mk F sc_is_good_in rfl (by decide) fun cdv A outer s H E F0 hr => ?_
  have hu := hu_of hr
  have h64 := hr.units
  have h65 := hu65 hr
  exact (d_one (d_ret (d_ch op_le od_le op_lt od_lt (d_pt (d_v 0)) (d_pt (d_v 1)) (d_pt (d_add (d_pt (d_v 0)) (d_pt (d_v 2)))))))
abbrev N_taken : List Str := ["left", "week", "many", "span", "made", "need", "own", "part"]
theorem sc_taken : FnScope N_taken ["left", "week", "many", "span"] (defScope s_taken) := ⟨rfl, rfl, rfl, by decide +kernel, rfl, by decide +kernel, by decide +kernel⟩
theorem ok_taken (T : Tx K mg) {fd : FuncData} (F : FunD K "taken" "taken" (defArgs s_taken) (defBody s_taken) (defScope s_taken) [] [] (He.ga K "taken") fd) : FnOk P w K mg base (L2.CX P w) 2 (He.ga K "taken") fd ["left", "week", "many", "span"] (spS TL K (He.ga K) [true, false, false, false] V_taken) := by
  obtain ⟨fd_is_good_in, F_is_good_in⟩ := T.f_is_good_in
  have G_is_good_in := ok_is_good_in (P := P) (w := w) (base := base) (TL := TL) T F_is_good_in
  have b_is_good_in := F_is_good_in.bindsN (ps := ["own", "week", "span"]) fun _ _ _ _ _ _ us hl => match us, hl with | [_, _, _], _ => rfl
  refine fn_mk F sc_taken rfl (by decide) fun cdv A outer s H E F0 hr => ?_
  have hu := hu_of hr
  have h64 := hr.units
  have h65 := hu65 hr
  exact (d_cons (d_parNP 4 5 rfl sc_taken.nd (d_lst d_a0) (d_v 2)) (d_cons (d_for (passes_of rfl) rfl (d_itL (d_np (d_sorted rfl (d_vt 0) T.b_sorted))) (d_g1 sc_taken.nd) (d_cons (d_set 7 sc_taken.nd (d_min2 rfl (d_dgT hu (d_vt 0) (d_pt (d_v 6))) (d_pt (d_v 5)) T.b_min)) (d_one (d_if (PW.pt (d_and (d_valB (d_pt (d_cl G_is_good_in (hr.mono (by decide)) T.g_is_good_in F_is_good_in.kp b_is_good_in (passes_call (takes_of rfl rfl rfl rfl) fun _ _ _ _ h => h) (d_aP (d_v 6) (d_aP (d_v 1) (d_aP (d_v 3) d_a0)))))) (d_and1 (d_cmpB op_gt od_gt (d_pt (d_v 7)) (d_pt d_int))))) (d_cons (d_app 4 (d_tup (d_aP (d_v 6) (d_aP (d_v 7) d_a0)))) (d_one (d_set 5 sc_taken.nd (d_sub (d_pt (d_v 5)) (d_pt (d_v 7)))))) d_nil)))) (d_frz 4 (d_one (d_ret (d_v 4))))))
abbrev N_serve : List Str := ["coupons", "needs", "span", "left", "made", "week", "many", "own", "part"]
theorem sc_serve : FnScope N_serve ["coupons", "needs", "span"] (defScope s_serve) := ⟨rfl, rfl, rfl, by decide +kernel, rfl, by decide +kernel, by decide +kernel⟩
theorem ok_serve (T : Tx K mg) {fd : FuncData} (F : FunD K "serve" "serve" (defArgs s_serve) (defBody s_serve) (defScope s_serve) [] [] (He.ga K "serve") fd) : FnOk P w K mg base (L2.CX P w) 3 (He.ga K "serve") fd ["coupons", "needs", "span"] (spS TL K (He.ga K) [false, false, false] V_serve) := by
  obtain ⟨fd_taken, F_taken⟩ := T.f_taken
  have G_taken := ok_taken (P := P) (w := w) (base := base) (TL := TL) T F_taken
  have b_taken := F_taken.bindsN (ps := ["left", "week", "many", "span"]) fun _ _ _ _ _ _ us hl => match us, hl with | [_, _, _, _], _ => rfl
  refine fn_mk F sc_serve rfl (by decide) fun cdv A outer s H E F0 hr => ?_
  have hu := hu_of hr
  have h64 := hr.units
  have h65 := hu65 hr
  exact (d_cons (d_parNN 3 4 rfl sc_serve.nd (d_dict rfl (d_v 0) T.b_dict) (d_lst d_a0)) (d_cons (d_for (passes_of rfl) rfl (d_itL (d_v 1)) (pg_tup rfl (pgs_cons (pg_name (i := 5) sc_serve.nd rfl (by first | exact Or.inl rfl | exact Or.inr rfl)) (pgs_cons (pg_name (i := 6) sc_serve.nd rfl (by first | exact Or.inl rfl | exact Or.inr rfl)) pgs_nil))) (d_one (d_for (passes_of rfl) rfl (d_itL (d_cl G_taken (hr.mono (by decide)) T.g_taken F_taken.kp b_taken (passes_call (takes_of rfl rfl rfl rfl) fun _ _ _ _ h => h) (d_aT (d_vt 3) (d_aP (d_v 5) (d_aP (d_v 6) (d_aP (d_v 2) d_a0)))))) (pg_tup rfl (pgs_cons (pg_name (i := 7) sc_serve.nd rfl (by first | exact Or.inl rfl | exact Or.inr rfl)) (pgs_cons (pg_name (i := 8) sc_serve.nd rfl (by first | exact Or.inl rfl | exact Or.inr rfl)) pgs_nil))) (d_cons (d_dput 3 hu (d_pt (d_v 7)) (d_sub (d_dgT hu (d_vt 3) (d_pt (d_v 7))) (d_pt (d_v 8)))) (d_one (d_app 4 (d_tup (d_aP (d_v 5) (d_aP (d_v 7) (d_aP (d_v 8) d_a0)))))))))) (d_frz 4 (d_one (d_ret (d_v 4))))))
abbrev N_look_all : List Str := ["coupons", "needs", "span"]
theorem sc_look_all : FnScope N_look_all ["coupons", "needs", "span"] (defScope s_look_all) := ⟨rfl, rfl, rfl, by decide +kernel, rfl, by decide +kernel, by decide +kernel⟩
theorem ok_look_all (T : Tx K mg) {fd : FuncData} (F : FunD K "look_all" "look_all" (defArgs s_look_all) (defBody s_look_all) (defScope s_look_all) [] [] (He.ga K "look_all") fd) : FnOk P w K mg base (L2.CX P w) 5 (He.ga K "look_all") fd ["coupons", "needs", "span"] (spS TL K (He.ga K) [false, false, false] V_look_all) := by
  obtain ⟨fd_look_rows, F_look_rows⟩ := T.f_look_rows
  have G_look_rows := ok_look_rows (P := P) (w := w) (base := base) (TL := TL) T F_look_rows
  have b_look_rows := F_look_rows.bindsN (ps := ["rows"]) fun _ _ _ _ _ _ us hl => match us, hl with | [_], _ => rfl
  obtain ⟨fd_look_number, F_look_number⟩ := T.f_look_number
  have G_look_number := ok_look_number (P := P) (w := w) (base := base) (TL := TL) T F_look_number
  have b_look_number := F_look_number.bindsN (ps := ["thing", "least", "most"]) fun _ _ _ _ _ _ us hl => match us, hl with | [_, _, _], _ => rfl
  obtain ⟨_, c_LONGEST_SPAN⟩ := T.c_LONGEST_SPAN
  refine fn_mk F sc_look_all rfl (by decide) fun cdv A outer s H E F0 hr => ?_
  have hu := hu_of hr
  have h64 := hr.units
  have h65 := hu65 hr
  exact (d_cons (d_ex (d_pt (d_cl G_look_rows (hr.mono (by decide)) T.g_look_rows F_look_rows.kp b_look_rows (passes_call (takes_of rfl rfl rfl rfl) fun _ _ _ _ h => h) (d_aP (d_v 0) d_a0)))) (d_cons (d_ex (d_pt (d_cl G_look_rows (hr.mono (by decide)) T.g_look_rows F_look_rows.kp b_look_rows (passes_call (takes_of rfl rfl rfl rfl) fun _ _ _ _ h => h) (d_aP (d_v 1) d_a0)))) (d_one (d_ex (d_pt (d_cl G_look_number (hr.mono (by decide)) T.g_look_number F_look_number.kp b_look_number (passes_call (takes_of rfl rfl rfl rfl) fun _ _ _ _ h => h) (d_aP (d_v 2) (d_aP d_int (d_aP (d_gi c_LONGEST_SPAN) d_a0)))))))))
abbrev N_served : List Str := ["coupons", "needs", "lifetime"]
theorem sc_served : FnScope N_served ["coupons", "needs", "lifetime"] (defScope s_served) := ⟨rfl, rfl, rfl, by decide +kernel, rfl, by decide +kernel, by decide +kernel⟩
theorem ok_served (T : Tx K mg) {fd : FuncData} (F : FunD K "served" "served" (defArgs s_served) (defBody s_served) (defScope s_served) [.int 1] [] (He.ga K "served") fd) : FnOk P w K mg base (L2.CX P w) 6 (He.ga K "served") fd ["coupons", "needs", "lifetime"] (spS TL K (He.ga K) [false, false, false] V_served) := by
  obtain ⟨fd_look_all, F_look_all⟩ := T.f_look_all
  have G_look_all := ok_look_all (P := P) (w := w) (base := base) (TL := TL) T F_look_all
  have b_look_all := F_look_all.bindsN (ps := ["coupons", "needs", "span"]) fun _ _ _ _ _ _ us hl => match us, hl with | [_, _, _], _ => rfl
  obtain ⟨fd_serve, F_serve⟩ := T.f_serve
  have G_serve := ok_serve (P := P) (w := w) (base := base) (TL := TL) T F_serve
  have b_serve := F_serve.bindsN (ps := ["coupons", "needs", "span"]) fun _ _ _ _ _ _ us hl => match us, hl with | [_, _, _], _ => rfl
  refine fn_mk F sc_served rfl (by decide) fun cdv A outer s H E F0 hr => ?_
  have hu := hu_of hr
  have h64 := hr.units
  have h65 := hu65 hr
  exact (d_cons (d_ex (d_pt (d_cl G_look_all (hr.mono (by decide)) T.g_look_all F_look_all.kp b_look_all (passes_call (takes_of rfl rfl rfl rfl) fun _ _ _ _ h => h) (d_aP (d_v 0) (d_aP (d_v 1) (d_aP (d_v 2) d_a0)))))) (d_one (d_ret (d_cl G_serve (hr.mono (by decide)) T.g_serve F_serve.kp b_serve (passes_call (takes_of rfl rfl rfl rfl) fun _ _ _ _ h => h) (d_aP (d_v 0) (d_aP (d_v 1) (d_aP (d_v 2) d_a0)))))))
abbrev N_lacks_of : List Str := ["needs", "rows", "got", "week", "own", "part", "many"]
theorem sc_lacks_of : FnScope N_lacks_of ["needs", "rows"] (defScope s_lacks_of) := ⟨rfl, rfl, rfl, by decide +kernel, rfl, by decide +kernel, by decide +kernel⟩
theorem ok_lacks_of (T : Tx K mg) {fd : FuncData} (F : FunD K "lacks_of" "lacks_of" (defArgs s_lacks_of) (defBody s_lacks_of) (defScope s_lacks_of) [] [] (He.ga K "lacks_of") fd) : FnOk P w K mg base (L2.CX P w) 1 (He.ga K "lacks_of") fd ["needs", "rows"] (spS TL K (He.ga K) [false, false] V_lacks_of) := by
  refine fn_mk F sc_lacks_of rfl (by decide) fun cdv A outer s H E F0 hr => ?_
  have hu := hu_of hr
  have h64 := hr.units
  have h65 := hu65 hr
  exact (d_cons (d_setN 2 sc_lacks_of.nd d_dnew) (d_cons (d_for (passes_of rfl) rfl (d_itL (d_v 1)) (pg_tup rfl (pgs_cons (pg_name (i := 3) sc_lacks_of.nd rfl (by first | exact Or.inl rfl | exact Or.inr rfl)) (pgs_cons (pg_name (i := 4) sc_lacks_of.nd rfl (by first | exact Or.inl rfl | exact Or.inr rfl)) (pgs_cons (pg_name (i := 5) sc_lacks_of.nd rfl (by first | exact Or.inl rfl | exact Or.inr rfl)) pgs_nil)))) (d_one (d_dput 2 hu (d_pt (d_v 3)) (d_add (d_dgx hu (d_vt 2) (d_pt (d_v 3)) (d_pt d_int)) (d_pt (d_v 5)))))) (d_one (d_ret (d_np (d_lc rfl sc_lacks_of.nd (d_j (d_itL (d_v 0))) (blkOk_by (own := [("week", 3), ("many", 6)]) (N := N_lacks_of) (sc := defScope s_lacks_of) (by decide +kernel)) (fun _ _ _ _ _ => (pg_tup rfl (pgs_cons (pg_name (i := 3) sc_lacks_of.nd rfl (by first | exact Or.inl rfl | exact Or.inr rfl)) (pgs_cons (pg_name (i := 6) sc_lacks_of.nd rfl (by first | exact Or.inl rfl | exact Or.inr rfl)) pgs_nil)))) (fun _ _ _ _ _ => (d_pts1 (d_cmpB op_gt od_gt (d_pt (d_v 6)) (d_dgx hu (d_vt 2) (d_pt (d_v 3)) (d_pt d_int))))) (fun _ _ _ _ _ => (d_tup (d_aP (d_v 3) (d_aP (d_sub (d_pt (d_v 6)) (d_dgx hu (d_vt 2) (d_pt (d_v 3)) (d_pt d_int))) d_a0)))) ⟨by decide, by decide⟩))))))
abbrev N_lacking : List Str := ["coupons", "needs", "lifetime"]
theorem sc_lacking : FnScope N_lacking ["coupons", "needs", "lifetime"] (defScope s_lacking) := ⟨rfl, rfl, rfl, by decide +kernel, rfl, by decide +kernel, by decide +kernel⟩
theorem ok_lacking (T : Tx K mg) {fd : FuncData} (F : FunD K "lacking" "lacking" (defArgs s_lacking) (defBody s_lacking) (defScope s_lacking) [.int 1] [] (He.ga K "lacking") fd) : FnOk P w K mg base (L2.CX P w) 6 (He.ga K "lacking") fd ["coupons", "needs", "lifetime"] (spS TL K (He.ga K) [false, false, false] V_lacking) := by
  obtain ⟨fd_look_all, F_look_all⟩ := T.f_look_all
  have G_look_all := ok_look_all (P := P) (w := w) (base := base) (TL := TL) T F_look_all
  have b_look_all := F_look_all.bindsN (ps := ["coupons", "needs", "span"]) fun _ _ _ _ _ _ us hl => match us, hl with | [_, _, _], _ => rfl
  obtain ⟨fd_lacks_of, F_lacks_of⟩ := T.f_lacks_of
  have G_lacks_of := ok_lacks_of (P := P) (w := w) (base := base) (TL := TL) T F_lacks_of
  have b_lacks_of := F_lacks_of.bindsN (ps := ["needs", "rows"]) fun _ _ _ _ _ _ us hl => match us, hl with | [_, _], _ => rfl
  obtain ⟨fd_serve, F_serve⟩ := T.f_serve
  have G_serve := ok_serve (P := P) (w := w) (base := base) (TL := TL) T F_serve
  have b_serve := F_serve.bindsN (ps := ["coupons", "needs", "span"]) fun _ _ _ _ _ _ us hl => match us, hl with | [_, _, _], _ => rfl
  refine fn_mk F sc_lacking rfl (by decide) fun cdv A outer s H E F0 hr => ?_
  have hu := hu_of hr
  have h64 := hr.units
  have h65 := hu65 hr
  exact (d_cons (d_ex (d_pt (d_cl G_look_all (hr.mono (by decide)) T.g_look_all F_look_all.kp b_look_all (passes_call (takes_of rfl rfl rfl rfl) fun _ _ _ _ h => h) (d_aP (d_v 0) (d_aP (d_v 1) (d_aP (d_v 2) d_a0)))))) (d_one (d_ret (d_cl G_lacks_of (hr.mono (by decide)) T.g_lacks_of F_lacks_of.kp b_lacks_of (passes_call (takes_of rfl rfl rfl rfl) fun _ _ _ _ h => h) (d_aP (d_v 1) (d_aP (d_cl G_serve (hr.mono (by decide)) T.g_serve F_serve.kp b_serve (passes_call (takes_of rfl rfl rfl rfl) fun _ _ _ _ h => h) (d_aP (d_v 0) (d_aP (d_v 1) (d_aP (d_v 2) d_a0)))) d_a0))))))
abbrev N_widened : List Str := ["coupons", "rows", "stretch", "span", "first", "last", "some", "week", "own", "part"]
theorem sc_widened : FnScope N_widened ["coupons", "rows", "stretch", "span"] (defScope s_widened) := ⟨rfl, rfl, rfl, by decide +kernel, rfl, by decide +kernel, by decide +kernel⟩
theorem ok_widened (T : Tx K mg) {fd : FuncData} (F : FunD K "widened" "widened" (defArgs s_widened) (defBody s_widened) (defScope s_widened) [] [] (He.ga K "widened") fd) : FnOk P w K mg base (L2.CX P w) 1 (He.ga K "widened") fd ["coupons", "rows", "stretch", "span"] (spS TL K (He.ga K) [false, false, false, false] V_widened) := by
  refine fn_mk F sc_widened rfl (by decide) fun cdv A outer s H E F0 hr => ?_
  have hu := hu_of hr
  have h64 := hr.units
  have h65 := hu65 hr
  exact (d_cons (d_unp (d_v 2) (pg_tup rfl (pgs_cons (pg_name (i := 4) sc_widened.nd rfl (by first | exact Or.inl rfl | exact Or.inr rfl)) (pgs_cons (pg_name (i := 5) sc_widened.nd rfl (by first | exact Or.inl rfl | exact Or.inr rfl)) pgs_nil)))) (d_cons (d_setLc 6 rfl sc_widened.nd (d_j (d_itL (d_v 1))) (blkOk_by (own := [("week", 7), ("own", 8), ("part", 9)]) (N := N_widened) (sc := defScope s_widened) (by decide +kernel)) (fun _ _ _ _ _ => (pg_tup rfl (pgs_cons (pg_name (i := 7) sc_widened.nd rfl (by first | exact Or.inl rfl | exact Or.inr rfl)) (pgs_cons (pg_name (i := 8) sc_widened.nd rfl (by first | exact Or.inl rfl | exact Or.inr rfl)) (pgs_cons (pg_name (i := 9) sc_widened.nd rfl (by first | exact Or.inl rfl | exact Or.inr rfl)) pgs_nil))))) (fun _ _ _ _ _ => (d_pts1 (PW.pt (d_and (d_cmpB op_le od_le (d_pt (d_v 8)) (d_pt (d_v 5))) (d_and1 (d_cmpB op_gt od_gt (d_pt (d_add (d_pt (d_v 8)) (d_pt (d_v 3)))) (d_pt (d_v 4)))))))) (fun _ _ _ _ _ => (d_v 7)) ⟨by decide, by decide, by decide⟩) (d_one (d_ret (d_tup (d_aP (d_minL rfl (d_nt (d_cat (d_v 6) (d_np (d_lst (d_aP (d_v 4) d_a0))))) T.b_min) (d_aP (d_maxL rfl (d_nt (d_cat (d_v 6) (d_np (d_lst (d_aP (d_v 5) d_a0))))) T.b_max) d_a0)))))))
abbrev N_closed : List Str := ["coupons", "rows", "week", "span", "stretch", "wider"]
theorem sc_closed : FnScope N_closed ["coupons", "rows", "week", "span"] (defScope s_closed) := ⟨rfl, rfl, rfl, by decide +kernel, rfl, by decide +kernel, by decide +kernel⟩
theorem ok_closed (T : Tx K mg) {fd : FuncData} (F : FunD K "closed" "closed" (defArgs s_closed) (defBody s_closed) (defScope s_closed) [] [] (He.ga K "closed") fd) : FnOk P w K mg base (L2.CX P w) 2 (He.ga K "closed") fd ["coupons", "rows", "week", "span"] (spS TL K (He.ga K) [false, false, false, false] V_closed) := by
  obtain ⟨fd_widened, F_widened⟩ := T.f_widened
  have G_widened := ok_widened (P := P) (w := w) (base := base) (TL := TL) T F_widened
  have b_widened := F_widened.bindsN (ps := ["coupons", "rows", "stretch", "span"]) fun _ _ _ _ _ _ us hl => match us, hl with | [_, _, _, _], _ => rfl
  refine fn_mk F sc_closed rfl (by decide) fun cdv A outer s H E F0 hr => ?_
  have hu := hu_of hr
  have h64 := hr.units
  have h65 := hu65 hr
  exact (d_cons (d_set 4 sc_closed.nd (d_tup (d_aP (d_v 2) (d_aP (d_v 2) d_a0)))) (d_cons (d_set 5 sc_closed.nd (d_cl G_widened (hr.mono (by decide)) T.g_widened F_widened.kp b_widened (passes_call (takes_of rfl rfl rfl rfl) fun _ _ _ _ h => h) (d_aP (d_v 0) (d_aP (d_v 1) (d_aP (d_v 4) (d_aP (d_v 3) d_a0)))))) (d_cons (d_wh 100000 (passes_of rfl) (d_cmpB (op_neD h64) od_ne (d_pt (d_v 5)) (d_pt (d_v 4))) (d_cons (d_set 4 sc_closed.nd (d_v 5)) (d_one (d_set 5 sc_closed.nd (d_cl G_widened (hr.mono (by decide)) T.g_widened F_widened.kp b_widened (passes_call (takes_of rfl rfl rfl rfl) fun _ _ _ _ h => h) (d_aP (d_v 0) (d_aP (d_v 1) (d_aP (d_v 4) (d_aP (d_v 3) d_a0))))))))) (d_one (d_ret (d_v 4))))))
abbrev N_narrows : List Str := ["coupons", "needs", "lifetime", "rows", "made", "week", "many", "first", "last"]
theorem sc_narrows : FnScope N_narrows ["coupons", "needs", "lifetime"] (defScope s_narrows) := ⟨rfl, rfl, rfl, by decide +kernel, rfl, by decide +kernel, by decide +kernel⟩
theorem ok_narrows (T : Tx K mg) {fd : FuncData} (F : FunD K "narrows" "narrows" (defArgs s_narrows) (defBody s_narrows) (defScope s_narrows) [.int 1] [] (He.ga K "narrows") fd) : FnOk P w K mg base (L2.CX P w) 6 (He.ga K "narrows") fd ["coupons", "needs", "lifetime"] (spS TL K (He.ga K) [false, false, false] V_narrows) := by
  obtain ⟨fd_look_all, F_look_all⟩ := T.f_look_all
  have G_look_all := ok_look_all (P := P) (w := w) (base := base) (TL := TL) T F_look_all
  have b_look_all := F_look_all.bindsN (ps := ["coupons", "needs", "span"]) fun _ _ _ _ _ _ us hl => match us, hl with | [_, _, _], _ => rfl
  obtain ⟨fd_serve, F_serve⟩ := T.f_serve
  have G_serve := ok_serve (P := P) (w := w) (base := base) (TL := TL) T F_serve
  have b_serve := F_serve.bindsN (ps := ["coupons", "needs", "span"]) fun _ _ _ _ _ _ us hl => match us, hl with | [_, _, _], _ => rfl
  obtain ⟨fd_lacks_of, F_lacks_of⟩ := T.f_lacks_of
  have G_lacks_of := ok_lacks_of (P := P) (w := w) (base := base) (TL := TL) T F_lacks_of
  have b_lacks_of := F_lacks_of.bindsN (ps := ["needs", "rows"]) fun _ _ _ _ _ _ us hl => match us, hl with | [_, _], _ => rfl
  obtain ⟨fd_closed, F_closed⟩ := T.f_closed
  have G_closed := ok_closed (P := P) (w := w) (base := base) (TL := TL) T F_closed
  have b_closed := F_closed.bindsN (ps := ["coupons", "rows", "week", "span"]) fun _ _ _ _ _ _ us hl => match us, hl with | [_, _, _, _], _ => rfl
  refine fn_mk F sc_narrows rfl (by decide) fun cdv A outer s H E F0 hr => ?_
  have hu := hu_of hr
  have h64 := hr.units
  have h65 := hu65 hr
  exact (d_cons (d_ex (d_pt (d_cl G_look_all (hr.mono (by decide)) T.g_look_all F_look_all.kp b_look_all (passes_call (takes_of rfl rfl rfl rfl) fun _ _ _ _ h => h) (d_aP (d_v 0) (d_aP (d_v 1) (d_aP (d_v 2) d_a0)))))) (d_cons (d_parPN 3 4 rfl sc_narrows.nd (d_cl G_serve (hr.mono (by decide)) T.g_serve F_serve.kp b_serve (passes_call (takes_of rfl rfl rfl rfl) fun _ _ _ _ h => h) (d_aP (d_v 0) (d_aP (d_v 1) (d_aP (d_v 2) d_a0)))) (d_lst d_a0)) (d_cons (d_for (passes_of rfl) rfl (d_itL (d_cl G_lacks_of (hr.mono (by decide)) T.g_lacks_of F_lacks_of.kp b_lacks_of (passes_call (takes_of rfl rfl rfl rfl) fun _ _ _ _ h => h) (d_aP (d_v 1) (d_aP (d_v 3) d_a0)))) (pg_tup rfl (pgs_cons (pg_name (i := 5) sc_narrows.nd rfl (by first | exact Or.inl rfl | exact Or.inr rfl)) (pgs_cons (pg_name (i := 6) sc_narrows.nd rfl (by first | exact Or.inl rfl | exact Or.inr rfl)) pgs_nil))) (d_cons (d_unp (d_cl G_closed (hr.mono (by decide)) T.g_closed F_closed.kp b_closed (passes_call (takes_of rfl rfl rfl rfl) fun _ _ _ _ h => h) (d_aP (d_v 0) (d_aP (d_v 3) (d_aP (d_v 5) (d_aP (d_v 2) d_a0))))) (pg_tup rfl (pgs_cons (pg_name (i := 7) sc_narrows.nd rfl (by first | exact Or.inl rfl | exact Or.inr rfl)) (pgs_cons (pg_name (i := 8) sc_narrows.nd rfl (by first | exact Or.inl rfl | exact Or.inr rfl)) pgs_nil)))) (d_cons (d_wh 100000 (passes_of rfl) (PW.pt (d_and (d_cmpB (op_neD h64) od_ne (d_vt 4) (d_nt (d_lst d_a0))) (d_and1 (d_cmpB op_ge od_ge (d_pt (d_ixP (d_ixO 4 (d_pt (d_neg (d_pt d_int)))) (d_pt d_int))) (d_pt (d_v 7)))))) (d_cons (d_parPP 7 8 rfl sc_narrows.nd (d_min2 rfl (d_pt (d_ixP (d_ixO 4 (d_pt (d_neg (d_pt d_int)))) (d_pt d_int))) (d_pt (d_v 7)) T.b_min) (d_max2 rfl (d_pt (d_ixP (d_ixO 4 (d_pt (d_neg (d_pt d_int)))) (d_pt d_int))) (d_pt (d_v 8)) T.b_max)) (d_one (d_setN 4 sc_narrows.nd (d_slO 4 d_o0 (d_o1 (d_pt (d_neg (d_pt d_int))))))))) (d_one (d_app 4 (d_tup (d_aP (d_v 7) (d_aP (d_v 8) d_a0)))))))) (d_frz 4 (d_one (d_ret (d_v 4)))))))
abbrev N__law_pick : List Str := ["script", "k", "many", "cell", "rest", "turn", "drawn"]
theorem sc__law_pick : FnScope N__law_pick ["script", "k", "many"] (defScope s__law_pick) := ⟨rfl, rfl, rfl, by decide +kernel, rfl, by decide +kernel, by decide +kernel⟩
theorem ok__law_pick (T : Tx K mg) {fd : FuncData} (F : FunD K "_law_pick" "_law_pick" (defArgs s__law_pick) (defBody s__law_pick) (defScope s__law_pick) [] [] (He.ga K "_law_pick") fd) : FnOk P w K mg base (L2.CX P w) 1 (He.ga K "_law_pick") fd ["script", "k", "many"] (spS TL K (He.ga K) [false, false, false] V__law_pick) := by
  refine fn_mk F sc__law_pick rfl (by decide) fun cdv A outer s H E F0 hr => ?_
  have hu := hu_of hr
  have h64 := hr.units
  have h65 := hu65 hr
  exact (d_cons (d_set 3 sc__law_pick.nd (d_ifE (d_cmpB (op_neD h64) od_ne (d_pt (d_v 0)) (d_nt (d_lst d_a0))) (d_ixP (d_v 0) (d_pt (d_mod (d_pt (d_v 1)) (d_pt (d_len (d_pt (d_v 0)) T.b_len))))) d_int)) (d_cons (d_parPP 4 5 rfl sc__law_pick.nd (d_div (d_pt (d_v 3)) (d_pt (d_pow (d_pt d_int) (d_pt d_int)))) (d_div (d_pt (d_v 1)) (d_pt (d_max2 rfl (d_pt (d_len (d_pt (d_v 0)) T.b_len)) (d_pt d_int) T.b_max)))) (d_cons (d_wh 100000 (passes_of rfl) (PW.pt (d_and (d_cmpB op_gt od_gt (d_pt (d_v 4)) (d_pt d_int)) (d_and1 (d_cmpB op_gt od_gt (d_pt (d_v 5)) (d_pt d_int))))) (d_one (d_parPP 4 5 rfl sc__law_pick.nd (d_div (d_pt (d_v 4)) (d_pt d_int)) (d_sub (d_pt (d_v 5)) (d_pt d_int))))) (d_cons (d_if (d_cmpB op_gt od_gt (d_pt (d_v 4)) (d_pt d_int)) (d_one (d_ret (d_mod (d_pt (d_mod (d_pt (d_v 4)) (d_pt d_int))) (d_pt (d_v 2))))) d_nil) (d_cons (d_set 6 sc__law_pick.nd (d_mod (d_pt (d_mul (d_pt (d_add (d_pt (d_mul (d_pt (d_v 3)) (d_pt d_int))) (d_pt (d_mul (d_pt d_int) (d_pt (d_add (d_pt (d_v 1)) (d_pt d_int))))))) (d_pt d_int))) (d_pt d_int))) (d_one (d_ret (d_mod (d_pt (d_mod (d_pt (d_add (d_pt (d_mul (d_pt (d_v 6)) (d_pt (d_v 6)))) (d_pt (d_div (d_pt (d_v 6)) (d_pt d_int))))) (d_pt d_int))) (d_pt (d_v 2))))))))))
abbrev N__law_rows : List Str := ["script", "at", "most", "made", "week", "k"]
theorem sc__law_rows : FnScope N__law_rows ["script", "at", "most"] (defScope s__law_rows) := ⟨rfl, rfl, rfl, by decide +kernel, rfl, by decide +kernel, by decide +kernel⟩
theorem ok__law_rows (T : Tx K mg) {fd : FuncData} (F : FunD K "_law_rows" "_law_rows" (defArgs s__law_rows) (defBody s__law_rows) (defScope s__law_rows) [] [] (He.ga K "_law_rows") fd) : FnOk P w K mg base (L2.CX P w) 2 (He.ga K "_law_rows") fd ["script", "at", "most"] (spS TL K (He.ga K) [false, false, false] V__law_rows) := by
  obtain ⟨fd__law_pick, F__law_pick⟩ := T.f__law_pick
  have G__law_pick := ok__law_pick (P := P) (w := w) (base := base) (TL := TL) T F__law_pick
  have b__law_pick := F__law_pick.bindsN (ps := ["script", "k", "many"]) fun _ _ _ _ _ _ us hl => match us, hl with | [_, _, _], _ => rfl
  refine fn_mk F sc__law_rows rfl (by decide) fun cdv A outer s H E F0 hr => ?_
  have hu := hu_of hr
  have h64 := hr.units
  have h65 := hu65 hr
  exact (d_cons (d_parNP 3 4 rfl sc__law_rows.nd (d_lst d_a0) (d_cl G__law_pick (hr.mono (by decide)) T.g__law_pick F__law_pick.kp b__law_pick (passes_call (takes_of rfl rfl rfl rfl) fun _ _ _ _ h => h) (d_aP (d_v 0) (d_aP (d_v 1) (d_aP d_int d_a0))))) (d_cons (d_for (passes_of rfl) rfl (d_itR1 (d_cl G__law_pick (hr.mono (by decide)) T.g__law_pick F__law_pick.kp b__law_pick (passes_call (takes_of rfl rfl rfl rfl) fun _ _ _ _ h => h) (d_aP (d_v 0) (d_aP (d_add (d_pt (d_v 1)) (d_pt d_int)) (d_aP d_int d_a0)))) T.b_range) (d_g1 sc__law_rows.nd) (d_cons (d_app 3 (d_tup (d_aP (d_v 4) (d_aP (d_add (d_pt d_int) (d_pt (d_cl G__law_pick (hr.mono (by decide)) T.g__law_pick F__law_pick.kp b__law_pick (passes_call (takes_of rfl rfl rfl rfl) fun _ _ _ _ h => h) (d_aP (d_v 0) (d_aP (d_add (d_pt (d_add (d_pt (d_v 1)) (d_pt d_int))) (d_pt (d_v 5))) (d_aP (d_v 2) d_a0)))))) d_a0)))) (d_one (d_set 4 sc__law_rows.nd (d_add (d_pt (d_v 4)) (d_pt (d_ixP (d_np (d_lst (d_aP d_int (d_aP d_int (d_aP d_int (d_aP d_int (d_aP d_int (d_aP d_int d_a0)))))))) (d_pt (d_cl G__law_pick (hr.mono (by decide)) T.g__law_pick F__law_pick.kp b__law_pick (passes_call (takes_of rfl rfl rfl rfl) fun _ _ _ _ h => h) (d_aP (d_v 0) (d_aP (d_add (d_pt (d_add (d_pt (d_v 1)) (d_pt d_int))) (d_pt (d_v 5))) (d_aP d_int d_a0)))))))))))) (d_frz 3 (d_one (d_ret (d_v 3))))))
abbrev N__law_units : List Str := ["coupons", "needs", "long", "left", "made", "own", "many", "week", "k", "some"]
theorem sc__law_units : FnScope N__law_units ["coupons", "needs", "long"] (defScope s__law_units) := ⟨rfl, rfl, rfl, by decide +kernel, rfl, by decide +kernel, by decide +kernel⟩
theorem ok__law_units (T : Tx K mg) {fd : FuncData} (F : FunD K "_law_units" "_law_units" (defArgs s__law_units) (defBody s__law_units) (defScope s__law_units) [] [] (He.ga K "_law_units") fd) : FnOk P w K mg base (L2.CX P w) 1 (He.ga K "_law_units") fd ["coupons", "needs", "long"] (spS TL K (He.ga K) [false, false, false] V__law_units) := by
  refine fn_mk F sc__law_units rfl (by decide) fun cdv A outer s H E F0 hr => ?_
  have hu := hu_of hr
  have h64 := hr.units
  have h65 := hu65 hr
  exact (d_cons (d_parNN 3 4 rfl sc__law_units.nd (d_lst d_a0) (d_lst d_a0)) (d_cons (d_for (passes_of rfl) rfl (d_itL (d_v 0)) (pg_tup rfl (pgs_cons (pg_name (i := 5) sc__law_units.nd rfl (by first | exact Or.inl rfl | exact Or.inr rfl)) (pgs_cons (pg_name (i := 6) sc__law_units.nd rfl (by first | exact Or.inl rfl | exact Or.inr rfl)) pgs_nil))) (d_one (d_ext 3 (d_rep (d_lst (d_aP (d_v 5) d_a0)) (d_pt (d_v 6)))))) (d_cons (d_for (passes_of rfl) rfl (d_itL (d_v 1)) (pg_tup rfl (pgs_cons (pg_name (i := 7) sc__law_units.nd rfl (by first | exact Or.inl rfl | exact Or.inr rfl)) (pgs_cons (pg_name (i := 6) sc__law_units.nd rfl (by first | exact Or.inl rfl | exact Or.inr rfl)) pgs_nil))) (d_one (d_for (passes_of rfl) rfl (d_itR1 (d_v 6) T.b_range) (d_g1 sc__law_units.nd) (d_cons (d_setLc 9 rfl sc__law_units.nd (d_itO 3) (blkOk_by (own := [("own", 5)]) (N := N__law_units) (sc := defScope s__law_units) (by decide +kernel)) (fun _ _ _ _ _ => (d_g1 sc__law_units.nd)) (fun _ _ _ _ _ => (d_pts1 (d_chB op_le od_le op_lt od_lt (d_pt (d_v 5)) (d_pt (d_v 7)) (d_pt (d_add (d_pt (d_v 5)) (d_pt (d_v 2))))))) (fun _ _ _ _ _ => (d_v 5)) List.mem_cons_self) (d_one (d_if (d_cmpB (op_neD h64) od_ne (d_pt (d_v 9)) (d_nt (d_lst d_a0))) (d_cons (d_rem 3 rfl (d_pt (d_ixP (d_v 9) (d_pt d_int)))) (d_one (d_app 4 (d_tup (d_aP (d_v 7) (d_aP (d_ixP (d_v 9) (d_pt d_int)) d_a0)))))) d_nil)))))) (d_frz 3 (d_frz 4 (d_one (d_ret (d_tup (d_aP (d_v 4) (d_aP (d_v 3) d_a0))))))))))
abbrev N__law_more : List Str := ["pairs", "left", "wants", "span", "met", "turn", "week", "own", "one"]
theorem sc__law_more : FnScope N__law_more ["pairs", "left", "wants", "span"] (defScope s__law_more) := ⟨rfl, rfl, rfl, by decide +kernel, rfl, by decide +kernel, by decide +kernel⟩
theorem ok__law_more (T : Tx K mg) {fd : FuncData} (F : FunD K "_law_more" "_law_more" (defArgs s__law_more) (defBody s__law_more) (defScope s__law_more) [] [] (He.ga K "_law_more") fd) : FnOk P w K mg base (L2.CX P w) 1 (He.ga K "_law_more") fd ["pairs", "left", "wants", "span"] (spS TL K (He.ga K) [false, false, false, false] V__law_more) := by
  refine fn_mk F sc__law_more rfl (by decide) fun cdv A outer s H E F0 hr => ?_
  have hu := hu_of hr
  have h64 := hr.units
  have h65 := hu65 hr
  exact (d_cons (d_setN 4 sc__law_more.nd (d_list (d_v 2) T.b_list)) (d_cons (d_for (passes_of rfl) rfl (d_itR1 (d_add (d_pt (d_len (d_pt (d_v 0)) T.b_len)) (d_pt d_int)) T.b_range) (d_g1 sc__law_more.nd) (d_one (d_for (passes_of rfl) rfl (d_itL (d_v 0)) (pg_tup rfl (pgs_cons (pg_name (i := 6) sc__law_more.nd rfl (by first | exact Or.inl rfl | exact Or.inr rfl)) (pgs_cons (pg_name (i := 7) sc__law_more.nd rfl (by first | exact Or.inl rfl | exact Or.inr rfl)) pgs_nil))) (d_one (d_if (PW.pt (d_and (d_cmpB (op_notInD h65) od_ninl (d_pt (d_v 6)) (d_vt 4)) (d_and1 (d_valB (d_pt (d_any rfl (d_nt (d_lc rfl sc__law_more.nd (d_itO 4) (blkOk_by (own := [("one", 8)]) (N := N__law_more) (sc := defScope s__law_more) (by decide +kernel)) (fun _ _ _ _ _ => (d_g1 sc__law_more.nd)) (fun _ _ _ _ _ => d_pts0) (fun _ _ _ _ _ => (d_ch op_le od_le op_lt od_lt (d_pt (d_v 7)) (d_pt (d_v 8)) (d_pt (d_add (d_pt (d_v 7)) (d_pt (d_v 3)))))) List.mem_cons_self)) T.b_any)))))) (d_one (d_app 4 (d_v 6))) d_nil))))) (d_frz 4 (d_cons (d_for (passes_of rfl) rfl (d_itL (d_v 4)) (d_g1 sc__law_more.nd) (d_one (d_if (d_valB (d_pt (d_any rfl (d_nt (d_lc rfl sc__law_more.nd (d_j (d_itL (d_v 1))) (blkOk_by (own := [("own", 7)]) (N := N__law_more) (sc := defScope s__law_more) (by decide +kernel)) (fun _ _ _ _ _ => (d_g1 sc__law_more.nd)) (fun _ _ _ _ _ => d_pts0) (fun _ _ _ _ _ => (d_ch op_le od_le op_lt od_lt (d_pt (d_v 7)) (d_pt (d_v 6)) (d_pt (d_add (d_pt (d_v 7)) (d_pt (d_v 3)))))) List.mem_cons_self)) T.b_any))) (d_one (d_ret d_bl)) d_nil))) (d_one (d_ret d_bl))))))
abbrev N_law : List Str := ["script", "coupons", "needs", "span", "made", "left", "wants", "many", "week", "more", "later", "due", "row", "own", "part", "one", "other"]
theorem sc_law : FnScope N_law ["script"] (defScope s_law) := ⟨rfl, rfl, rfl, by decide +kernel, rfl, by decide +kernel, by decide +kernel⟩
theorem ok_law (T : Tx K mg) {fd : FuncData} (F : FunD K "law" "law" (defArgs s_law) (defBody s_law) (defScope s_law) [] [] (He.ga K "law") fd) : FnOk P w K mg base (L2.CX P w) 7 (He.ga K "law") fd ["script"] (spS TL K (He.ga K) [false] V_law) := by
  obtain ⟨fd__law_rows, F__law_rows⟩ := T.f__law_rows
  have G__law_rows := ok__law_rows (P := P) (w := w) (base := base) (TL := TL) T F__law_rows
  have b__law_rows := F__law_rows.bindsN (ps := ["script", "at", "most"]) fun _ _ _ _ _ _ us hl => match us, hl with | [_, _, _], _ => rfl
  obtain ⟨fd__law_pick, F__law_pick⟩ := T.f__law_pick
  have G__law_pick := ok__law_pick (P := P) (w := w) (base := base) (TL := TL) T F__law_pick
  have b__law_pick := F__law_pick.bindsN (ps := ["script", "k", "many"]) fun _ _ _ _ _ _ us hl => match us, hl with | [_, _, _], _ => rfl
  obtain ⟨fd__law_units, F__law_units⟩ := T.f__law_units
  have G__law_units := ok__law_units (P := P) (w := w) (base := base) (TL := TL) T F__law_units
  have b__law_units := F__law_units.bindsN (ps := ["coupons", "needs", "long"]) fun _ _ _ _ _ _ us hl => match us, hl with | [_, _, _], _ => rfl
  obtain ⟨fd_lacking, F_lacking⟩ := T.f_lacking
  have G_lacking := ok_lacking (P := P) (w := w) (base := base) (TL := TL) T F_lacking
  have b_lacking := bnd_lacking F_lacking
  have bk_lacking := bnk_lacking F_lacking
  obtain ⟨dl_lacking, vd_lacking, bd_lacking⟩ := bnd1_lacking F_lacking
  obtain ⟨fd_served, F_served⟩ := T.f_served
  have G_served := ok_served (P := P) (w := w) (base := base) (TL := TL) T F_served
  have b_served := bnd_served F_served
  have bk_served := bnk_served F_served
  obtain ⟨dl_served, vd_served, bd_served⟩ := bnd1_served F_served
  obtain ⟨fd__law_more, F__law_more⟩ := T.f__law_more
  have G__law_more := ok__law_more (P := P) (w := w) (base := base) (TL := TL) T F__law_more
  have b__law_more := F__law_more.bindsN (ps := ["pairs", "left", "wants", "span"]) fun _ _ _ _ _ _ us hl => match us, hl with | [_, _, _, _], _ => rfl
  obtain ⟨fd_narrows, F_narrows⟩ := T.f_narrows
  have G_narrows := ok_narrows (P := P) (w := w) (base := base) (TL := TL) T F_narrows
  have b_narrows := bnd_narrows F_narrows
  have bk_narrows := bnk_narrows F_narrows
  obtain ⟨dl_narrows, vd_narrows, bd_narrows⟩ := bnd1_narrows F_narrows
  refine fn_mk F sc_law rfl (by decide) fun cdv A outer s H E F0 hr => ?_
  have hu := hu_of hr
  have h64 := hr.units
  have h65 := hu65 hr
  exact (d_cons (d_par3 1 2 3 rfl sc_law.nd (d_np (d_slL (d_cl G__law_rows (hr.mono (by decide)) T.g__law_rows F__law_rows.kp b__law_rows (passes_call (takes_of rfl rfl rfl rfl) fun _ _ _ _ h => h) (d_aP (d_v 0) (d_aP d_int (d_aP d_int d_a0)))) d_o0 (d_o1 (d_pt d_int)))) (d_np (d_slL (d_cl G__law_rows (hr.mono (by decide)) T.g__law_rows F__law_rows.kp b__law_rows (passes_call (takes_of rfl rfl rfl rfl) fun _ _ _ _ h => h) (d_aP (d_v 0) (d_aP d_int (d_aP d_int d_a0)))) d_o0 (d_o1 (d_pt d_int)))) (d_add (d_pt d_int) (d_pt (d_cl G__law_pick (hr.mono (by decide)) T.g__law_pick F__law_pick.kp b__law_pick (passes_call (takes_of rfl rfl rfl rfl) fun _ _ _ _ h => h) (d_aP (d_v 0) (d_aP d_int (d_aP d_int d_a0))))))) (d_cons (d_unp (d_cl G__law_units (hr.mono (by decide)) T.g__law_units F__law_units.kp b__law_units (passes_call (takes_of rfl rfl rfl rfl) fun _ _ _ _ h => h) (d_aP (d_v 1) (d_aP (d_v 2) (d_aP (d_v 3) d_a0)))) (pg_tup rfl (pgs_cons (pg_name (i := 4) sc_law.nd rfl (by first | exact Or.inl rfl | exact Or.inr rfl)) (pgs_cons (pg_name (i := 5) sc_law.nd rfl (by first | exact Or.inl rfl | exact Or.inr rfl)) pgs_nil)))) (d_cons (d_setLc 6 rfl sc_law.nd (d_j (d_itL (d_cl G_lacking (hr.mono (by decide)) T.g_lacking F_lacking.kp b_lacking (passes_call (takes_of rfl rfl rfl rfl) fun _ _ _ _ h => h) (d_aP (d_v 1) (d_aP (d_v 2) (d_aP (d_v 3) d_a0)))))) (blkOk_by (own := [("week", 8), ("many", 7)]) (N := N_law) (sc := defScope s_law) (by decide +kernel)) (fun _ _ _ _ _ => (pg_tup rfl (pgs_cons (pg_name (i := 8) sc_law.nd rfl (by first | exact Or.inl rfl | exact Or.inr rfl)) (pgs_cons (pg_name (i := 7) sc_law.nd rfl (by first | exact Or.inl rfl | exact Or.inr rfl)) pgs_nil)))) (fun _ _ _ _ _ => d_pts0) (fun _ _ _ _ _ => (d_v 8)) ⟨by decide, by decide⟩) (d_cons (d_if (PW.pt (d_or (d_valB (d_pt (d_cl G__law_more (hr.mono (by decide)) T.g__law_more F__law_more.kp b__law_more (passes_call (takes_of rfl rfl rfl rfl) fun _ _ _ _ h => h) (d_aP (d_v 4) (d_aP (d_v 5) (d_aP (d_v 6) (d_aP (d_v 3) d_a0))))))) (d_or1 (d_cmpB (op_neD h64) od_ne (d_pt (d_len (d_pt (d_v 4)) T.b_len)) (d_pt (d_sum rfl (d_nt (d_lc rfl sc_law.nd (d_j (d_itL (d_cl G_served (hr.mono (by decide)) T.g_served F_served.kp b_served (passes_call (takes_of rfl rfl rfl rfl) fun _ _ _ _ h => h) (d_aP (d_v 1) (d_aP (d_v 2) (d_aP (d_v 3) d_a0)))))) (blkOk_by (own := [("row", 12)]) (N := N_law) (sc := defScope s_law) (by decide +kernel)) (fun _ _ _ _ _ => (d_g1 sc_law.nd)) (fun _ _ _ _ _ => d_pts0) (fun _ _ _ _ _ => (d_ixP (d_v 12) (d_pt d_int))) List.mem_cons_self)) T.b_sum)))))) (d_one (d_ret d_bl)) d_nil) (d_cons (d_set 7 sc_law.nd (d_len (d_pt (d_v 4)) T.b_len)) (d_cons (d_set 8 sc_law.nd (d_add (d_pt d_int) (d_pt (d_cl G__law_pick (hr.mono (by decide)) T.g__law_pick F__law_pick.kp b__law_pick (passes_call (takes_of rfl rfl rfl rfl) fun _ _ _ _ h => h) (d_aP (d_v 0) (d_aP d_int (d_aP d_int d_a0))))))) (d_cons (d_set 9 sc_law.nd (d_np (d_cat (d_v 2) (d_np (d_lst (d_aP (d_tup (d_aP (d_v 8) (d_aP d_int d_a0))) d_a0)))))) (d_cons (d_if (d_cmpB op_lt od_lt (d_pt (d_sum rfl (d_nt (d_lc rfl sc_law.nd (d_j (d_itL (d_cl G_served (hr.mono (by decide)) T.g_served F_served.kp b_served (passes_call (takes_of rfl rfl rfl rfl) fun _ _ _ _ h => h) (d_aP (d_np (d_cat (d_v 1) (d_np (d_lst (d_aP (d_tup (d_aP (d_v 8) (d_aP d_int d_a0))) d_a0))))) (d_aP (d_v 9) (d_aP (d_v 3) d_a0)))))) (blkOk_by (own := [("row", 12)]) (N := N_law) (sc := defScope s_law) (by decide +kernel)) (fun _ _ _ _ _ => (d_g1 sc_law.nd)) (fun _ _ _ _ _ => d_pts0) (fun _ _ _ _ _ => (d_ixP (d_v 12) (d_pt d_int))) List.mem_cons_self)) T.b_sum)) (d_pt (d_add (d_pt (d_v 7)) (d_pt d_int)))) (d_one (d_ret d_bl)) d_nil) (d_cons (d_if (d_cmpB op_lt od_lt (d_pt (d_sum rfl (d_nt (d_lc rfl sc_law.nd (d_j (d_itL (d_cl G_served (hr.mono (by decide)) T.g_served F_served.kp b_served (passes_call (takes_of rfl rfl rfl rfl) fun _ _ _ _ h => h) (d_aP (d_v 1) (d_aP (d_v 9) (d_aP (d_v 3) d_a0)))))) (blkOk_by (own := [("row", 12)]) (N := N_law) (sc := defScope s_law) (by decide +kernel)) (fun _ _ _ _ _ => (d_g1 sc_law.nd)) (fun _ _ _ _ _ => d_pts0) (fun _ _ _ _ _ => (d_ixP (d_v 12) (d_pt d_int))) List.mem_cons_self)) T.b_sum)) (d_pt (d_v 7))) (d_one (d_ret d_bl)) d_nil) (d_cons (d_set 10 sc_law.nd (d_np (d_lst (d_aP (d_np (d_lc rfl sc_law.nd (d_j (d_itL (d_v 1))) (blkOk_by (own := [("own", 13), ("part", 14)]) (N := N_law) (sc := defScope s_law) (by decide +kernel)) (fun _ _ _ _ _ => (pg_tup rfl (pgs_cons (pg_name (i := 13) sc_law.nd rfl (by first | exact Or.inl rfl | exact Or.inr rfl)) (pgs_cons (pg_name (i := 14) sc_law.nd rfl (by first | exact Or.inl rfl | exact Or.inr rfl)) pgs_nil)))) (fun _ _ _ _ _ => d_pts0) (fun _ _ _ _ _ => (d_tup (d_aP (d_add (d_pt (d_v 13)) (d_pt d_int)) (d_aP (d_v 14) d_a0)))) ⟨by decide, by decide⟩)) (d_aP (d_np (d_lc rfl sc_law.nd (d_j (d_itL (d_v 2))) (blkOk_by (own := [("own", 13), ("part", 14)]) (N := N_law) (sc := defScope s_law) (by decide +kernel)) (fun _ _ _ _ _ => (pg_tup rfl (pgs_cons (pg_name (i := 13) sc_law.nd rfl (by first | exact Or.inl rfl | exact Or.inr rfl)) (pgs_cons (pg_name (i := 14) sc_law.nd rfl (by first | exact Or.inl rfl | exact Or.inr rfl)) pgs_nil)))) (fun _ _ _ _ _ => d_pts0) (fun _ _ _ _ _ => (d_tup (d_aP (d_add (d_pt (d_v 13)) (d_pt d_int)) (d_aP (d_v 14) d_a0)))) ⟨by decide, by decide⟩)) d_a0))))) (d_cons (d_setLc 11 rfl sc_law.nd (d_j (d_itL (d_cl G_served (hr.mono (by decide)) T.g_served F_served.kp b_served (passes_call (takes_of rfl rfl rfl rfl) fun _ _ _ _ h => h) (d_aP (d_v 1) (d_aP (d_v 2) (d_aP (d_v 3) d_a0)))))) (blkOk_by (own := [("one", 15), ("own", 13), ("part", 14)]) (N := N_law) (sc := defScope s_law) (by decide +kernel)) (fun _ _ _ _ _ => (pg_tup rfl (pgs_cons (pg_name (i := 15) sc_law.nd rfl (by first | exact Or.inl rfl | exact Or.inr rfl)) (pgs_cons (pg_name (i := 13) sc_law.nd rfl (by first | exact Or.inl rfl | exact Or.inr rfl)) (pgs_cons (pg_name (i := 14) sc_law.nd rfl (by first | exact Or.inl rfl | exact Or.inr rfl)) pgs_nil))))) (fun _ _ _ _ _ => d_pts0) (fun _ _ _ _ _ => (d_tup (d_aP (d_add (d_pt (d_v 15)) (d_pt d_int)) (d_aP (d_add (d_pt (d_v 13)) (d_pt d_int)) (d_aP (d_v 14) d_a0))))) ⟨by decide, by decide, by decide⟩) (d_cons (d_if (d_cmpB (op_neD h64) od_ne (d_pt (d_cl G_served (hr.mono (by decide)) T.g_served F_served.kp b_served (passes_call (takes_of rfl rfl rfl rfl) fun _ _ _ _ h => h) (d_aP (d_ixP (d_v 10) (d_pt d_int)) (d_aP (d_ixP (d_v 10) (d_pt d_int)) (d_aP (d_v 3) d_a0))))) (d_pt (d_v 11))) (d_one (d_ret d_bl)) d_nil) (d_cons (d_if (PW.pt (d_and (d_cmpB op_lt od_lt (d_pt (d_v 3)) (d_pt d_int)) (d_and1 (d_cmpB op_lt od_lt (d_pt (d_sum rfl (d_nt (d_lc rfl sc_law.nd (d_j (d_itL (d_cl G_served (hr.mono (by decide)) T.g_served F_served.kp b_served (passes_call (takes_of rfl rfl rfl rfl) fun _ _ _ _ h => h) (d_aP (d_v 1) (d_aP (d_v 2) (d_aP (d_add (d_pt (d_v 3)) (d_pt d_int)) d_a0)))))) (blkOk_by (own := [("row", 12)]) (N := N_law) (sc := defScope s_law) (by decide +kernel)) (fun _ _ _ _ _ => (d_g1 sc_law.nd)) (fun _ _ _ _ _ => d_pts0) (fun _ _ _ _ _ => (d_ixP (d_v 12) (d_pt d_int))) List.mem_cons_self)) T.b_sum)) (d_pt (d_v 7)))))) (d_one (d_ret d_bl)) d_nil) (d_one (d_ret (d_cmp (op_eqD h64) od_eq (d_pt (d_cl G_narrows (hr.mono (by decide)) T.g_narrows F_narrows.kp b_narrows (passes_call (takes_of rfl rfl rfl rfl) fun _ _ _ _ h => h) (d_aP (d_ixP (d_v 10) (d_pt d_int)) (d_aP (d_ixP (d_v 10) (d_pt d_int)) (d_aP (d_v 3) d_a0))))) (d_nt (d_lc rfl sc_law.nd (d_j (d_itL (d_cl G_narrows (hr.mono (by decide)) T.g_narrows F_narrows.kp b_narrows (passes_call (takes_of rfl rfl rfl rfl) fun _ _ _ _ h => h) (d_aP (d_v 1) (d_aP (d_v 2) (d_aP (d_v 3) d_a0)))))) (blkOk_by (own := [("one", 15), ("other", 16)]) (N := N_law) (sc := defScope s_law) (by decide +kernel)) (fun _ _ _ _ _ => (pg_tup rfl (pgs_cons (pg_name (i := 15) sc_law.nd rfl (by first | exact Or.inl rfl | exact Or.inr rfl)) (pgs_cons (pg_name (i := 16) sc_law.nd rfl (by first | exact Or.inl rfl | exact Or.inr rfl)) pgs_nil)))) (fun _ _ _ _ _ => d_pts0) (fun _ _ _ _ _ => (d_tup (d_aP (d_add (d_pt (d_v 15)) (d_pt d_int)) (d_aP (d_add (d_pt (d_v 16)) (d_pt d_int)) d_a0)))) ⟨by decide, by decide⟩))))))))))))))))))
end
end Cb
namespace Cb
open PySem PySem.Spec PyProof.Rows L2
/-! ### plain laws, and evaluation -/
theorem seq_nx {g1 g2 : DS → Out} {ds ds' : DS} (h : g1 ds = .nx ds') : seqS g1 g2 ds = g2 ds' := by simp [seqS, h]
theorem seq_rt {g1 g2 : DS → Out} {ds : DS} {d : PyData} (h : g1 ds = .rt d) : seqS g1 g2 ds = .rt d := by simp [seqS, h]
theorem seq_err {g1 g2 : DS → Out} {ds : DS} {x : Xc} (h : g1 ds = .err x) : seqS g1 g2 ds = .err x := by simp [seqS, h]
theorem canInts : ∀ ns : List Int, PyData.canLayAll0 (ns.map .int) = true
  | [] => rfl
  | n :: r => by
    have ih := canInts r
    simp [PyData.canLayAll0, PyData.canLay0, ih]
theorem depthInts : ∀ ns : List Int, PyData.depthAll (ns.map .int) ≤ 1
  | [] => by simp [PyData.depthAll]
  | n :: r => by
    have ih := depthInts r
    simp [PyData.depthAll, PyData.depth]
    omega
theorem shInts (ns : List Int) : SeqAt.shaped (.list (ns.map .int)) = true := by
  have h1 := canInts ns
  have h2 := depthInts ns
  unfold SeqAt.shaped
  simp [PyData.canLay0, PyData.depth, h1]
  omega
theorem eqvInts : ∀ a b : List Int, PyData.eqvAll (a.map .int) (b.map .int) = decide (a = b)
  | [], [] => rfl
  | [], _ :: _ => rfl
  | _ :: _, [] => rfl
  | x :: a, y :: b => by
    have ih := eqvInts a b
    simp [PyData.eqvAll, PyData.eqv, ih, Bool.beq_eq_decide_eq]
theorem dv840 (i : Int) : divW i 840 = true := by unfold divW; decide
theorem dv31 (i : Int) : divW i 31 = true := by unfold divW; decide
theorem dv18 (i : Int) : divW i 1000000000000000000 = true := by unfold divW; decide +kernel
theorem dvSmall (i : Int) {j : Int} (h0 : 0 < j) (h1 : j < 1000000) : divW i j = true := by
  unfold divW
  have : j.natAbs.log2 < 9000 := by
    have : j.natAbs.log2 < 20 := by
      rw [Nat.log2_lt (by omega)]
      omega
    omega
  simp [h0, this]
theorem atInts {ns : List Int} {i : Int} (h0 : 0 ≤ i) (h1 : i < ns.length) : atI (ns.map PyData.int) i = some (.int (ns.getD i.toNat 0)) := by
  have hj : i.toNat < ns.length := by omega
  have : (ns.map PyData.int)[i.toNat]? = some (.int (ns.getD i.toNat 0)) := by
    rw [List.getElem?_map, List.getElem?_eq_getElem hj]
    simp [List.getD, List.getElem?_eq_getElem hj]
  have h2 := atI_nat this
  rwa [Int.toNat_of_nonneg h0] at h2
end Cb
namespace Cb
open PySem PySem.Spec PyProof.Rows L2
theorem pick_wh (d0 d1 d2 d3 d6 : Sl) : ∀ (n : Nat) (rest turn : Int), turn.toNat < n → ∃ r' t', whGo (andB (bS (op2 gtI (vP 4) (cS (.int 0)))) (bS (op2 gtI (vP 5) (cS (.int 0))))) g__law_pick_3B n [d0, d1, d2, d3, .im (.int rest), .im (.int turn), d6] = .nx [d0, d1, d2, d3, .im (.int r'), .im (.int t'), d6]
  | 0, _, _, h => by omega
  | n + 1, rest, turn, h => by
    by_cases h1 : 0 < rest
    · by_cases h2 : 0 < turn
      · have ih := pick_wh d0 d1 d2 d3 d6 n (rest / 840) (turn - 1) (by omega)
        obtain ⟨r', t', e⟩ := ih
        refine ⟨r', t', ?_⟩
        rw [← e]
        conv => lhs; unfold whGo
        simp [andB, bS, bO, op2, gtI, gI, vP, cS, toB, g__law_pick_3B, g__law_pick_3b_1, parPP, toO, divI, subI, dv840, h1, h2]
      · refine ⟨rest, turn, ?_⟩
        unfold whGo
        simp [andB, bS, bO, op2, gtI, gI, vP, cS, toB, h1, h2]
    · refine ⟨rest, turn, ?_⟩
      unfold whGo
      simp [andB, bS, bO, op2, gtI, gI, vP, cS, toB, h1]
theorem pick_cell (ns : List Int) (k : Int) (d2 d3 d4 d5 d6 : Sl) : ∃ cell, g__law_pick_1 [.im (.list (ns.map .int)), .im (.int k), d2, d3, d4, d5, d6] = .nx [.im (.list (ns.map .int)), .im (.int k), d2, .im (.int cell), d4, d5, d6] := by
  have e0 : SeqAt.shaped (.list []) = true := by decide
  have e1 := eqvInts ns []
  simp only [List.map_nil] at e1
  by_cases h : ns = []
  · refine ⟨0, ?_⟩
    subst h
    simp [g__law_pick_1, setS, setN, parPP, parNP, parPN, parNN, toO, toB, ifS, retS, exS, appS, extS, dputS, frzS, nxS, vP, vT, cS, op1, op2, gI, addI, subI, mulI, divI, modI, powI, ltI, leI, gtI, geI, minI, maxI, bS, bO, andB, orB, notB, andV, orV, notV, chI, ifE, tupS, lstS, nilA, consA, callS, callK, isiS, lenD, intD, ixD, atR, dgetD, big, plS, plainD, neD, e0, PyData.eqv, PyData.eqvAll]
  · have hp : 0 < ns.length := List.length_pos_iff.mpr h
    have hm : 0 ≤ k % (ns.length : Int) := Int.emod_nonneg _ (by omega)
    have hl : k % (ns.length : Int) < ns.length := Int.emod_lt_of_pos _ (by omega)
    have ha := atInts hm hl
    refine ⟨ns.getD (k % (ns.length : Int)).toNat 0, ?_⟩
    simp [g__law_pick_1, setS, setN, parPP, parNP, parPN, parNN, toO, toB, ifS, retS, exS, appS, extS, dputS, frzS, nxS, vP, vT, cS, op1, op2, gI, addI, subI, mulI, divI, modI, powI, ltI, leI, gtI, geI, minI, maxI, bS, bO, andB, orB, notB, andV, orV, notV, chI, ifE, tupS, lstS, nilA, consA, callS, callK, isiS, lenD, intD, ixD, atR, dgetD, big, plS, plainD, neD, e0, PyData.eqv, e1, h, shInts, ha, hp]
theorem pick_ok (ns : List Int) (hl : ns.length ≤ 63) {k m : Int} (h0 : 0 ≤ k) (h1 : k < 90000) (hm : 0 < m) : ∃ p, 0 ≤ p ∧ p < m ∧ V__law_pick [.list (ns.map .int), .int k, .int m] = .ok (.int p) := by
  obtain ⟨cell, e1⟩ := pick_cell ns k (.im (.int m)) .no .no .no .no
  have hmx : 0 < (if (1 : Int) > ns.length then 1 else (ns.length : Int)) ∧ (if (1 : Int) > ns.length then 1 else (ns.length : Int)) < 1000000 := by
    split <;> omega
  have hk : (k / (if (1 : Int) > ns.length then 1 else (ns.length : Int))).toNat < 100000 := by
    have h2 : k / (if (1 : Int) > ns.length then 1 else (ns.length : Int)) ≤ k := Int.ediv_le_self _ h0
    omega
  obtain ⟨r', t', e3⟩ := pick_wh (.im (.list (ns.map .int))) (.im (.int k)) (.im (.int m)) (.im (.int cell)) .no 100000 (cell / 10 ^ 18) (k / (if (1 : Int) > ns.length then 1 else (ns.length : Int))) hk
  have hb : (powW 10 18) = true := by unfold powW; decide
  have e2 : g__law_pick_2 [.im (.list (ns.map .int)), .im (.int k), .im (.int m), .im (.int cell), .no, .no, .no] = .nx [.im (.list (ns.map .int)), .im (.int k), .im (.int m), .im (.int cell), .im (.int (cell / 10 ^ 18)), .im (.int (k / (if (1 : Int) > ns.length then 1 else (ns.length : Int)))), .no] := by
    have := dvSmall k hmx.1 hmx.2
    simp only [gt_iff_lt] at this
    simp [g__law_pick_2, setS, setN, parPP, parNP, parPN, parNN, toO, toB, ifS, retS, exS, appS, extS, dputS, frzS, nxS, vP, vT, cS, op1, op2, gI, addI, subI, mulI, divI, modI, powI, ltI, leI, gtI, geI, minI, maxI, bS, bO, andB, orB, notB, andV, orV, notV, chI, ifE, tupS, lstS, nilA, consA, callS, callK, isiS, lenD, intD, ixD, atR, dgetD, big, plS, plainD, hb, dv18, this]
  have e0 : V__law_pick [.list (ns.map .int), .int k, .int m] = bodyS 7 [false, false, false] g__law_pick [.list (ns.map .int), .int k, .int m] := rfl
  have es : startS 7 [false, false, false] [.list (ns.map .int), .int k, .int m] = [.im (.list (ns.map .int)), .im (.int k), .im (.int m), .no, .no, .no, .no] := rfl
  by_cases hr : 0 < r'
  · refine ⟨r' % 840 % m, Int.emod_nonneg _ (by omega), Int.emod_lt_of_pos _ hm, ?_⟩
    have e4 : g__law_pick_4 [.im (.list (ns.map .int)), .im (.int k), .im (.int m), .im (.int cell), .im (.int r'), .im (.int t'), .no] = .rt (.int (r' % 840 % m)) := by
      simp [g__law_pick_4, g__law_pick_4t_1, setS, setN, parPP, parNP, parPN, parNN, toO, toB, ifS, retS, exS, appS, extS, dputS, frzS, nxS, vP, vT, cS, op1, op2, gI, addI, subI, mulI, divI, modI, powI, ltI, leI, gtI, geI, minI, maxI, bS, bO, andB, orB, notB, andV, orV, notV, chI, ifE, tupS, lstS, nilA, consA, callS, callK, isiS, lenD, intD, ixD, atR, dgetD, big, plS, plainD, hr, hm]
    rw [e0, bodyS, es, g__law_pick, seq_nx e1, seq_nx e2, seq_nx (show g__law_pick_3 _ = _ from e3), seq_rt e4]
  · have e4 : g__law_pick_4 [.im (.list (ns.map .int)), .im (.int k), .im (.int m), .im (.int cell), .im (.int r'), .im (.int t'), .no] = .nx [.im (.list (ns.map .int)), .im (.int k), .im (.int m), .im (.int cell), .im (.int r'), .im (.int t'), .no] := by
      simp [g__law_pick_4, g__law_pick_4t_1, setS, setN, parPP, parNP, parPN, parNN, toO, toB, ifS, retS, exS, appS, extS, dputS, frzS, nxS, vP, vT, cS, op1, op2, gI, addI, subI, mulI, divI, modI, powI, ltI, leI, gtI, geI, minI, maxI, bS, bO, andB, orB, notB, andV, orV, notV, chI, ifE, tupS, lstS, nilA, consA, callS, callK, isiS, lenD, intD, ixD, atR, dgetD, big, plS, plainD, hr]
    have e5 : ∃ dr, 0 ≤ dr ∧ dr < 2147483399 ∧ g__law_pick_5 [.im (.list (ns.map .int)), .im (.int k), .im (.int m), .im (.int cell), .im (.int r'), .im (.int t'), .no] = .nx [.im (.list (ns.map .int)), .im (.int k), .im (.int m), .im (.int cell), .im (.int r'), .im (.int t'), .im (.int dr)] := by
      refine ⟨(cell * 31 + 6151 * (k + 1)) * 40692 % 2147483399, Int.emod_nonneg _ (by decide), Int.emod_lt_of_pos _ (by decide), ?_⟩
      · have i1 : in64 31 = true := by decide
        have i2 : in64 6151 = true := by decide
        have i3 : in64 40692 = true := by decide
        simp [g__law_pick_5, setS, setN, parPP, parNP, parPN, parNN, toO, toB, ifS, retS, exS, appS, extS, dputS, frzS, nxS, vP, vT, cS, op1, op2, gI, addI, subI, mulI, divI, modI, powI, ltI, leI, gtI, geI, minI, maxI, bS, bO, andB, orB, notB, andV, orV, notV, chI, ifE, tupS, lstS, nilA, consA, callS, callK, isiS, lenD, intD, ixD, atR, dgetD, big, plS, plainD, i1, i2, i3]
    obtain ⟨dr, hd0, hd1, e5⟩ := e5
    have e6 : g__law_pick_6 [.im (.list (ns.map .int)), .im (.int k), .im (.int m), .im (.int cell), .im (.int r'), .im (.int t'), .im (.int dr)] = .rt (.int ((dr * dr + dr / 31) % 2147483629 % m)) := by
      have i1 : in64 dr = true := by
        simp [in64]
        omega
      simp [g__law_pick_6, setS, setN, parPP, parNP, parPN, parNN, toO, toB, ifS, retS, exS, appS, extS, dputS, frzS, nxS, vP, vT, cS, op1, op2, gI, addI, subI, mulI, divI, modI, powI, ltI, leI, gtI, geI, minI, maxI, bS, bO, andB, orB, notB, andV, orV, notV, chI, ifE, tupS, lstS, nilA, consA, callS, callK, isiS, lenD, intD, ixD, atR, dgetD, big, plS, plainD, i1, dv31, hm]
    refine ⟨(dr * dr + dr / 31) % 2147483629 % m, Int.emod_nonneg _ (by omega), Int.emod_lt_of_pos _ hm, ?_⟩
    rw [e0, bodyS, es, g__law_pick, seq_nx e1, seq_nx e2, seq_nx (show g__law_pick_3 _ = _ from e3), seq_nx e4, seq_nx e5, e6]
end Cb
namespace Cb
open PySem PySem.Spec PyProof.Rows L2
/-! ### loops by an invariant -/
theorem forGo_ind {k : TgK} {b : DS → Out} {items : List PyData} (I : Nat → DS → Prop) (hs : ∀ (i : Nat) (ds : DS) (x : PyData), items[i]? = some x → I i ds → ∃ ds1, tgD k x ds = .ok ds1 ∧ ∃ ds2, b ds1 = .nx ds2 ∧ I (i + 1) ds2) :
    ∀ (n i : Nat) (ds : DS), n = items.length - i → i ≤ items.length → I i ds → ∃ ds', forGo k b (items.drop i) ds = .nx ds' ∧ I items.length ds'
  | 0, i, ds, hn, hi, h => by
    have e : i = items.length := by omega
    subst e
    exact ⟨ds, by simp [forGo], h⟩
  | n + 1, i, ds, hn, hi, h => by
    have hlt : i < items.length := by omega
    obtain ⟨ds1, e1, ds2, e2, h2⟩ := hs i ds _ (List.getElem?_eq_getElem hlt) h
    obtain ⟨ds', e3, h3⟩ := forGo_ind I hs n (i + 1) ds2 (by omega) hlt h2
    refine ⟨ds', ?_, h3⟩
    rw [List.drop_eq_getElem_cons hlt]
    simp [forGo, e1, e2, e3]
theorem for_inv {k : TgK} {b : DS → Out} {fi : DS → R (List PyData)} {items : List PyData} {ds : DS} (I : Nat → DS → Prop) (hi : fi ds = .ok items) (h0 : I 0 ds) (hs : ∀ (i : Nat) (ds : DS) (x : PyData), items[i]? = some x → I i ds → ∃ ds1, tgD k x ds = .ok ds1 ∧ ∃ ds2, b ds1 = .nx ds2 ∧ I (i + 1) ds2) :
    ∃ ds', forS fi k b ds = .nx ds' ∧ I items.length ds' := by
  obtain ⟨ds', e, h⟩ := forGo_ind I hs items.length 0 ds (by simp) (Nat.zero_le _) h0
  refine ⟨ds', ?_, h⟩
  simp only [forS, hi]
  simpa using e
theorem forGo_cons {k : TgK} {b : DS → Out} {x : PyData} {xs : List PyData} {ds ds1 ds2 : DS} (h1 : tgD k x ds = .ok ds1) (h2 : b ds1 = .nx ds2) : forGo k b (x :: xs) ds = forGo k b xs ds2 := by simp [forGo, h1, h2]
theorem lcGo_map {k : TgK} {ft : DS → R Bool} {fe : ES} {ds : DS} {h : PyData → PyData} : ∀ {items : List PyData}, (∀ x ∈ items, ∃ ds', tgD k x ds = .ok ds' ∧ ft ds' = .ok true ∧ fe ds' = .ok (h x)) → lcGo k ft fe ds items = .ok (items.map h)
  | [], _ => rfl
  | x :: r, H => by
    obtain ⟨ds', e1, e2, e3⟩ := H x List.mem_cons_self
    have ih := lcGo_map (items := r) fun y hy => H y (List.mem_cons_of_mem _ hy)
    simp [lcGo, e1, e2, e3, ih]
theorem lcGo_fm {α : Type} {k : TgK} {ft : DS → R Bool} {fe : ES} {ds : DS} (it : α → PyData) (p : α → Bool) (h : α → PyData) : ∀ {xs : List α}, (∀ x ∈ xs, ∃ ds', tgD k (it x) ds = .ok ds' ∧ ft ds' = .ok (p x) ∧ (p x = true → fe ds' = .ok (h x))) → lcGo k ft fe ds (xs.map it) = .ok ((xs.filter p).map h)
  | [], _ => rfl
  | x :: r, H => by
    obtain ⟨ds', e1, e2, e3⟩ := H x List.mem_cons_self
    have ih := lcGo_fm it p h (xs := r) fun y hy => H y (List.mem_cons_of_mem _ hy)
    cases hp : p x with
    | false => simp [lcGo, e1, e2, hp, ih]
    | true => simp [lcGo, e1, e2, hp, e3 hp, ih]
theorem range_at {lo : Int} {n i : Nat} {x : PyData} (h : (rangeD lo n)[i]? = some x) : i < n ∧ x = .int (lo + i) := rangeD_get h
/-! ### rows -/
def rowD (p : Int × Int) : PyData := .tuple [.int p.1, .int p.2]
def rowsD (rs : List (Int × Int)) : PyData := .list (rs.map rowD)
structure Rows (rs : List (Int × Int)) : Prop where
  up : rs.Pairwise fun a b => a.1 < b.1
  wk : ∀ p ∈ rs, 0 ≤ p.1 ∧ p.1 ≤ 99 ∧ 1 ≤ p.2 ∧ p.2 ≤ 99
  len : rs.length ≤ 12
@[simp] theorem us_non : usualD .none = true := rfl
@[simp] theorem us_bl (b : Bool) : usualD (.bool b) = true := rfl
@[simp] theorem us_int (i : Int) : usualD (.int i) = true := rfl
@[simp] theorem us_str (x : Str) : usualD (.str x) = true := rfl
@[simp] theorem us_lst (x : List PyData) : usualD (.list x) = true := rfl
@[simp] theorem us_tup (x : List PyData) : usualD (.tuple x) = true := rfl
theorem us_lay {d : PyData} (h : d.canLay0 = true) : usualD d = true := by cases d <;> first | rfl | simp [PyData.canLay0] at h
theorem isiK (T : String) (d : PyData) (h : usualD d = true) : isiD T d = (match kitB (tyN d) T with
  | some b => .ok (.bool b)
  | none => .bad) := if_pos h
theorem isiInt (d : PyData) : isiD "int" d = if usualD d = true then .ok (.bool (match d with | .int _ => true | .bool _ => true | _ => false)) else .bad := by unfold isiD; cases h : usualD d <;> simp <;> cases d <;> rfl
theorem isiBool (d : PyData) : isiD "bool" d = if usualD d = true then .ok (.bool (match d with | .bool _ => true | _ => false)) else .bad := by unfold isiD; cases h : usualD d <;> simp <;> cases d <;> rfl
theorem isiTup (d : PyData) : isiD "tuple" d = if usualD d = true then .ok (.bool (match d with | .tuple _ => true | _ => false)) else .bad := by unfold isiD; cases h : usualD d <;> simp <;> cases d <;> rfl
theorem isiLst (d : PyData) : isiD "list" d = if usualD d = true then .ok (.bool (match d with | .list _ => true | _ => false)) else .bad := by unfold isiD; cases h : usualD d <;> simp <;> cases d <;> rfl
theorem V_number (i a b : Int) : V_is_number [.int i, .int a, .int b] = .ok (.bool (decide (a ≤ i) && decide (i ≤ b))) := by
  by_cases h : a ≤ i
  · simp [V_is_number, bodyS, startS, g_is_number, g_is_number_1, setS, setN, parPP, parNP, parPN, parNN, toO, toB, ifS, retS, exS, appS, extS, dputS, frzS, nxS, vP, vT, cS, op1, op2, gI, addI, subI, mulI, divI, modI, powI, ltI, leI, gtI, geI, minI, maxI, bS, bO, andB, orB, notB, andV, orV, notV, chI, ifE, tupS, lstS, nilA, consA, callS, callK, isiS, lenD, intD, ixD, atR, dgetD, big, plS, plainD, isiInt, isiBool, h]
  · simp [V_is_number, bodyS, startS, g_is_number, g_is_number_1, setS, setN, parPP, parNP, parPN, parNN, toO, toB, ifS, retS, exS, appS, extS, dputS, frzS, nxS, vP, vT, cS, op1, op2, gI, addI, subI, mulI, divI, modI, powI, ltI, leI, gtI, geI, minI, maxI, bS, bO, andB, orB, notB, andV, orV, notV, chI, ifE, tupS, lstS, nilA, consA, callS, callK, isiS, lenD, intD, ixD, atR, dgetD, big, plS, plainD, isiInt, isiBool, h]
theorem sh_int (i : Int) : SeqAt.shaped (.int i) = true := by
  unfold SeqAt.shaped
  simp [PyData.canLay0, PyData.depth]
theorem at0 {α : Type} (x : α) (r : List α) : atI (x :: r) 0 = some x := atI_nat (j := 0) rfl
theorem at1 {α : Type} (x y : α) (r : List α) : atI (x :: y :: r) 1 = some y := atI_nat (j := 1) rfl
theorem at2 {α : Type} (x y z : α) (r : List α) : atI (x :: y :: z :: r) 2 = some z := atI_nat (j := 2) rfl
theorem V_row (p : Int × Int) : V_is_row [rowD p] = .ok (.bool ((decide (0 ≤ p.1) && decide (p.1 ≤ 99)) && (decide (1 ≤ p.2) && decide (p.2 ≤ 99)))) := by
  have e1 : g_is_row_1 [.im (rowD p)] = .nx [.im (rowD p)] := by
    simp [g_is_row_1, g_is_row_1t_1, setS, setN, parPP, parNP, parPN, parNN, toO, toB, ifS, retS, exS, appS, extS, dputS, frzS, nxS, vP, vT, cS, op1, op2, gI, addI, subI, mulI, divI, modI, powI, ltI, leI, gtI, geI, minI, maxI, bS, bO, andB, orB, notB, andV, orV, notV, chI, ifE, tupS, lstS, nilA, consA, callS, callK, isiS, lenD, intD, ixD, atR, dgetD, big, plS, plainD, isiTup, rowD, neD, sh_int, PyData.eqv]
  have e2 : g_is_row_2 [.im (rowD p)] = .rt (.bool ((decide (0 ≤ p.1) && decide (p.1 ≤ 99)) && (decide (1 ≤ p.2) && decide (p.2 ≤ 99)))) := by
    by_cases h : (decide (0 ≤ p.1) && decide (p.1 ≤ 99)) = true
    · simp [g_is_row_2, setS, setN, parPP, parNP, parPN, parNN, toO, toB, ifS, retS, exS, appS, extS, dputS, frzS, nxS, vP, vT, cS, op1, op2, gI, addI, subI, mulI, divI, modI, powI, ltI, leI, gtI, geI, minI, maxI, bS, bO, andB, orB, notB, andV, orV, notV, chI, ifE, tupS, lstS, nilA, consA, callS, callK, isiS, lenD, intD, ixD, atR, dgetD, big, plS, plainD, rowD, at0, at1, V_number, h]
    · simp only [Bool.not_eq_true] at h
      simp [g_is_row_2, setS, setN, parPP, parNP, parPN, parNN, toO, toB, ifS, retS, exS, appS, extS, dputS, frzS, nxS, vP, vT, cS, op1, op2, gI, addI, subI, mulI, divI, modI, powI, ltI, leI, gtI, geI, minI, maxI, bS, bO, andB, orB, notB, andV, orV, notV, chI, ifE, tupS, lstS, nilA, consA, callS, callK, isiS, lenD, intD, ixD, atR, dgetD, big, plS, plainD, rowD, at0, at1, V_number, h]
  show bodyS 1 [false] g_is_row [rowD p] = _
  rw [bodyS, g_is_row, show startS 1 [false] [rowD p] = [.im (rowD p)] from rfl, seq_nx e1, e2]
theorem blsO_map : ∀ bs : List Bool, blsO (bs.map .bool) = some bs
  | [] => rfl
  | b :: r => by
    have ih := blsO_map r
    simp [blsO, ih]
theorem zip_rows : ∀ (x : Int × Int) (rs : List (Int × Int)), zipD ((x :: rs).map rowD) (rs.map rowD) = (List.zip (x :: rs) rs).map fun q => .tuple [rowD q.1, rowD q.2]
  | x, [] => rfl
  | x, y :: r => by
    have ih := zip_rows y r
    simp only [List.map_cons, zipD, List.zip_cons_cons]
    simp only [List.map_cons] at ih
    rw [ih]
theorem cut1 {α : Type} (x : α) (r : List α) : cutL (x :: r) (some 1) none = r := by
  unfold cutL
  rw [show HT.sIx (x :: r).length 0 (some 1) = min 1 (x :: r).length from HT.sIx_nat _ 0 1, HT.sIx_none]
  have : min 1 (x :: r).length = 1 := by simp
  rw [this]
  simp
theorem zip_pw {α : Type} {Rr : α → α → Prop} : ∀ (x : α) (r : List α), (x :: r).Pairwise Rr → ∀ q ∈ List.zip (x :: r) r, Rr q.1 q.2
  | x, [], _, q, hq => by simp at hq
  | x, y :: r, h, q, hq => by
    rw [List.zip_cons_cons] at hq
    rw [List.pairwise_cons] at h
    rcases List.mem_cons.mp hq with e | hq
    · subst e
      exact h.1 y List.mem_cons_self
    · exact zip_pw y r h.2 q hq
theorem V_rows {rs : List (Int × Int)} (h : Rows rs) : V_are_rows [rowsD rs] = .ok (.bool true) := by
  have hl : (rs.map rowD).length ≤ 12 := by simpa using h.len
  have e0 : lcS (itL (vP 0)) [1] (.nm 1) yesB (callS (consA (vP 1) nilA) V_is_row []) [.im (rowsD rs), .no, .no, .no] = .ok (.list ((rs.map fun _ => true).map .bool)) := by
    have z : lcGo (.nm 1) yesB (callS (consA (vP 1) nilA) V_is_row []) (wipeD [.im (rowsD rs), .no, .no, .no] [1]) (rs.map rowD) = .ok ((rs.map rowD).map fun _ => .bool true) := by
      refine lcGo_map fun x hx => ?_
      obtain ⟨p, hp, rfl⟩ := List.mem_map.mp hx
      have := h.wk p hp
      refine ⟨_, rfl, rfl, ?_⟩
      simp [wipeD, setS, setN, parPP, parNP, parPN, parNN, toO, toB, ifS, retS, exS, appS, extS, dputS, frzS, nxS, vP, vT, cS, op1, op2, gI, addI, subI, mulI, divI, modI, powI, ltI, leI, gtI, geI, minI, maxI, bS, bO, andB, orB, notB, andV, orV, notV, chI, ifE, tupS, lstS, nilA, consA, callS, callK, isiS, lenD, intD, ixD, atR, dgetD, big, plS, plainD, V_row, this]
    have hl2 : rs.length ≤ 1000000 := by have := h.len; omega
    simp [lcS, itL, vP, rowsD, big, hl2]
    simp [rowsD] at z
    rw [z]
    simp
  have e1 : g_are_rows_1 [.im (rowsD rs), .no, .no, .no] = .nx [.im (rowsD rs), .no, .no, .no] := by
    have hl3 : ¬ (12 : Int) < rs.length := by have := h.len; omega
    simp only [g_are_rows_1, ifS, toB, orB, notB, bS, isiS, op1, op2, vP, cS, e0]
    have : blsO (List.map (PyData.bool ∘ fun x => true) rs) = some (rs.map fun _ => true) := by
      rw [← List.map_map]
      exact blsO_map _
    simp [isiLst, rowsD, allD, setS, setN, parPP, parNP, parPN, parNN, toO, toB, ifS, retS, exS, appS, extS, dputS, frzS, nxS, vP, vT, cS, op1, op2, gI, addI, subI, mulI, divI, modI, powI, ltI, leI, gtI, geI, minI, maxI, bS, bO, andB, orB, notB, andV, orV, notV, chI, ifE, tupS, lstS, nilA, consA, callS, callK, isiS, lenD, intD, ixD, atR, dgetD, big, plS, plainD, hl3, this]
  have e2 : ∃ bs : List Bool, bs.all id = true ∧ lcS (itZ (vP 0) (slL (vP 0) (someO (cS (.int 1))) noO)) [2, 3] (.pr 2 3) yesB (op2 ltI (op2 ixD (vP 2) (cS (.int 0))) (op2 ixD (vP 3) (cS (.int 0)))) [.im (rowsD rs), .no, .no, .no] = .ok (.list (bs.map .bool)) := by
    cases rs with
    | nil => exact ⟨[], rfl, rfl⟩
    | cons x r =>
      have z : lcGo (.pr 2 3) yesB (op2 ltI (op2 ixD (vP 2) (cS (.int 0))) (op2 ixD (vP 3) (cS (.int 0)))) (wipeD [.im (rowsD (x :: r)), .no, .no, .no] [2, 3]) ((List.zip (x :: r) r).map fun q => .tuple [rowD q.1, rowD q.2]) = .ok (((List.zip (x :: r) r).map fun q => PyData.tuple [rowD q.1, rowD q.2]).map fun _ => .bool true) := by
        refine lcGo_map fun y hy => ?_
        obtain ⟨q, hq, rfl⟩ := List.mem_map.mp hy
        refine ⟨_, rfl, rfl, ?_⟩
        have hlt : q.1.1 < q.2.1 := zip_pw x r h.up q hq
        simp [wipeD, setS, setN, parPP, parNP, parPN, parNN, toO, toB, ifS, retS, exS, appS, extS, dputS, frzS, nxS, vP, vT, cS, op1, op2, gI, addI, subI, mulI, divI, modI, powI, ltI, leI, gtI, geI, minI, maxI, bS, bO, andB, orB, notB, andV, orV, notV, chI, ifE, tupS, lstS, nilA, consA, callS, callK, isiS, lenD, intD, ixD, atR, dgetD, big, plS, plainD, rowD, at0, hlt]
      refine ⟨(List.zip (x :: r) r).map fun _ => true, by simp, ?_⟩
      have hz := zip_rows x r
      have hb : ((List.zip (x :: r) r).map fun q => PyData.tuple [rowD q.1, rowD q.2]).length ≤ big := by
        have := h.len
        simp only [List.length_cons] at this
        simp [big]
        omega
      have hi : itZ (vP 0) (slL (vP 0) (someO (cS (.int 1))) noO) [.im (rowsD (x :: r)), .no, .no, .no] = .ok ((List.zip (x :: r) r).map fun q => .tuple [rowD q.1, rowD q.2]) := by
        rw [← hz]
        simp [itZ, slL, someO, noO, vP, cS, rowsD, cut1]
      unfold lcS
      rw [hi, R.ok_bind, if_pos hb, z]
      simp
  obtain ⟨bs, hb, e2⟩ := e2
  have e3 : g_are_rows_2 [.im (rowsD rs), .no, .no, .no] = .rt (.bool true) := by
    simp only [g_are_rows_2, retS, toO, op1, e2, R.ok_bind, allD, blsO_map, hb]
  show bodyS 4 [false] g_are_rows [rowsD rs] = _
  rw [bodyS, g_are_rows, show startS 4 [false] [rowsD rs] = [.im (rowsD rs), .no, .no, .no] from rfl, seq_nx e1, e3]
end Cb
namespace Cb
open PySem PySem.Spec PyProof.Rows L2
theorem V_look {rs : List (Int × Int)} (h : Rows rs) : V_look_rows [rowsD rs] = .ok .none := by
  simp [V_look_rows, bodyS, startS, g_look_rows, g_look_rows_1, setS, setN, parPP, parNP, parPN, parNN, toO, toB, ifS, retS, exS, appS, extS, dputS, frzS, nxS, vP, vT, cS, op1, op2, gI, addI, subI, mulI, divI, modI, powI, ltI, leI, gtI, geI, minI, maxI, bS, bO, andB, orB, notB, andV, orV, notV, chI, ifE, tupS, lstS, nilA, consA, callS, callK, isiS, lenD, intD, ixD, atR, dgetD, big, plS, plainD, V_rows h]
theorem V_lookn {i a b : Int} (h1 : a ≤ i) (h2 : i ≤ b) : V_look_number [.int i, .int a, .int b] = .ok .none := by
  simp [V_look_number, bodyS, startS, g_look_number, g_look_number_1, setS, setN, parPP, parNP, parPN, parNN, toO, toB, ifS, retS, exS, appS, extS, dputS, frzS, nxS, vP, vT, cS, op1, op2, gI, addI, subI, mulI, divI, modI, powI, ltI, leI, gtI, geI, minI, maxI, bS, bO, andB, orB, notB, andV, orV, notV, chI, ifE, tupS, lstS, nilA, consA, callS, callK, isiS, lenD, intD, ixD, atR, dgetD, big, plS, plainD, V_number, h1, h2]
theorem V_looka {cs ns : List (Int × Int)} {s : Int} (hc : Rows cs) (hn : Rows ns) (h1 : 1 ≤ s) (h2 : s ≤ 4) : V_look_all [rowsD cs, rowsD ns, .int s] = .ok .none := by
  have e1 : g_look_all_1 [.im (rowsD cs), .im (rowsD ns), .im (.int s)] = .nx [.im (rowsD cs), .im (rowsD ns), .im (.int s)] := by
    simp [g_look_all_1, setS, setN, parPP, parNP, parPN, parNN, toO, toB, ifS, retS, exS, appS, extS, dputS, frzS, nxS, vP, vT, cS, op1, op2, gI, addI, subI, mulI, divI, modI, powI, ltI, leI, gtI, geI, minI, maxI, bS, bO, andB, orB, notB, andV, orV, notV, chI, ifE, tupS, lstS, nilA, consA, callS, callK, isiS, lenD, intD, ixD, atR, dgetD, big, plS, plainD, V_look hc]
  have e2 : g_look_all_2 [.im (rowsD cs), .im (rowsD ns), .im (.int s)] = .nx [.im (rowsD cs), .im (rowsD ns), .im (.int s)] := by
    simp [g_look_all_2, setS, setN, parPP, parNP, parPN, parNN, toO, toB, ifS, retS, exS, appS, extS, dputS, frzS, nxS, vP, vT, cS, op1, op2, gI, addI, subI, mulI, divI, modI, powI, ltI, leI, gtI, geI, minI, maxI, bS, bO, andB, orB, notB, andV, orV, notV, chI, ifE, tupS, lstS, nilA, consA, callS, callK, isiS, lenD, intD, ixD, atR, dgetD, big, plS, plainD, V_look hn]
  have e3 : g_look_all_3 [.im (rowsD cs), .im (rowsD ns), .im (.int s)] = .nx [.im (rowsD cs), .im (rowsD ns), .im (.int s)] := by
    simp [g_look_all_3, setS, setN, parPP, parNP, parPN, parNN, toO, toB, ifS, retS, exS, appS, extS, dputS, frzS, nxS, vP, vT, cS, op1, op2, gI, addI, subI, mulI, divI, modI, powI, ltI, leI, gtI, geI, minI, maxI, bS, bO, andB, orB, notB, andV, orV, notV, chI, ifE, tupS, lstS, nilA, consA, callS, callK, isiS, lenD, intD, ixD, atR, dgetD, big, plS, plainD, V_lookn h1 h2]
  show bodyS 3 [false, false, false] g_look_all [rowsD cs, rowsD ns, .int s] = _
  rw [bodyS, g_look_all, show startS 3 [false, false, false] [rowsD cs, rowsD ns, .int s] = [.im (rowsD cs), .im (rowsD ns), .im (.int s)] from rfl, seq_nx e1, seq_nx e2, e3]
end Cb
namespace Cb
open PySem PySem.Spec PyProof.Rows L2
/-! ### dicts of ints -/
def kvD (p : Int × Int) : PyData × PyData := (.int p.1, .int p.2)
def dI (l : List (Int × Int)) : PyData := .dict (l.map kvD)
theorem keyOf_int (i : Int) : keyOf (.int i) = some (.inl i) := rfl
theorem us_dI (l : List (Int × Int)) : usualD (.dict (l.map kvD)) = true := by cases l <;> rfl
theorem ob_dI (l : List (Int × Int)) : objD (.dict (l.map kvD)) = false := by cases l <;> rfl
@[simp] theorem find_int (l : List (Int × Int)) (o : Int) : dfind (l.map kvD) (.int o) = some (dlook (l.map kvD) (.inl o)) := by
  unfold dfind
  simp only [keyOf_int, us_dI, if_true]
theorem map_no {o v : Int} : ∀ {l : List (Int × Int)}, o ∉ l.map (·.1) → (l.map kvD).map (fun kv => if keyOf kv.1 = some (.inl o) then (kv.1, PyData.int v) else kv) = l.map kvD
  | [], _ => rfl
  | p :: r, h => by
    have h1 : ¬ p.1 = o := fun e => h (by simp [e])
    have h2 : o ∉ r.map (·.1) := fun e => h (List.mem_cons_of_mem _ e)
    rw [List.map_cons, List.map_cons, map_no h2]
    have : ¬ keyOf (kvD p).1 = some (.inl o) := by
      intro z
      have z : some (Sum.inl p.1 : Key) = some (.inl o) := z
      injection z with z
      injection z with z
      exact h1 z
    rw [if_neg this]
theorem dput_mid {pre post : List (Int × Int)} {o a v : Int} (h1 : o ∉ pre.map (·.1)) (h2 : o ∉ post.map (·.1)) : dput ((pre ++ (o, a) :: post).map kvD) (.inl o) (.int v) = (pre ++ (o, v) :: post).map kvD := by
  unfold dput
  rw [if_pos (by simp [kvD, keyOf_int])]
  rw [List.map_append, List.map_append, List.map_append, List.map_cons, List.map_cons, List.map_cons, map_no h1, map_no h2]
  rw [if_pos (by rfl)]
  rfl
theorem dlook_no {o : Int} : ∀ {l : List (Int × Int)} {r : KVs}, o ∉ l.map (·.1) → dlook (l.map kvD ++ r) (.inl o) = dlook r (.inl o)
  | [], _, _ => rfl
  | p :: l, r, h => by
    have h1 : ¬ p.1 = o := fun e => h (by simp [e])
    have h2 : o ∉ l.map (·.1) := fun e => h (List.mem_cons_of_mem _ e)
    have ih := dlook_no (r := r) h2
    rw [← ih]
    have : ¬ keyOf (kvD p).1 = some (.inl o) := by
      intro z
      have z : some (Sum.inl p.1 : Key) = some (.inl o) := z
      injection z with z
      injection z with z
      exact h1 z
    simp [dlook, List.find?_cons, this]
theorem dlook_mid {pre post : List (Int × Int)} {o a : Int} (h1 : o ∉ pre.map (·.1)) : dlook ((pre ++ (o, a) :: post).map kvD) (.inl o) = some (.int a) := by
  rw [List.map_append, dlook_no h1]
  simp [dlook, kvD, keyOf_int]
theorem dput_new {l : List (Int × Int)} {o v : Int} (h : o ∉ l.map (·.1)) : dput (l.map kvD) (.inl o) (.int v) = (l ++ [(o, v)]).map kvD := by
  unfold dput
  rw [if_neg]
  · rw [List.map_append]
    rfl
  · simp only [List.any_eq_true, not_exists, not_and, decide_eq_true_eq]
    intro x hx z
    obtain ⟨p, hp, rfl⟩ := List.mem_map.mp hx
    have z : some (Sum.inl p.1 : Key) = some (.inl o) := z
    injection z with z
    injection z with z
    exact h (List.mem_map.mpr ⟨p, hp, z⟩)
theorem merge_new : ∀ (l acc : List (Int × Int)), ((acc ++ l).map (·.1)).Nodup → dmerge (acc.map kvD) (l.map fun p => (Sum.inl p.1, PyData.int p.2)) = (acc ++ l).map kvD
  | [], acc, _ => by simp [dmerge]
  | p :: r, acc, h => by
    have h1 : p.1 ∉ acc.map (·.1) := by
      rw [List.map_append, List.nodup_append] at h
      intro z
      exact h.2.2 _ z _ List.mem_cons_self rfl
    have ih := merge_new r (acc ++ [p]) (by simpa using h)
    unfold dmerge at ih ⊢
    rw [List.map_cons, List.foldl_cons, dput_new h1, ih]
    simp
theorem pairs_rows : ∀ rs : List (Int × Int), pairsO (rs.map rowD) = some (rs.map fun p => (Sum.inl p.1, PyData.int p.2))
  | [] => rfl
  | p :: r => by
    have ih := pairs_rows r
    simp only [List.map_cons, rowD, pairsO, keyOf_int] at ih ⊢
    rw [ih]
theorem dict_rows {rs : List (Int × Int)} (h : (rs.map (·.1)).Nodup) : dictD (rowsD rs) = .ok (dI rs) := by
  simp only [dictD, rowsD, pairs_rows]
  have := merge_new rs [] (by simpa using h)
  simp only [List.map_nil, List.nil_append] at this
  rw [this]
  rfl
theorem ints_keys : ∀ l : List (Int × Int), intsO ((l.map kvD).map (·.1)) = some (l.map (·.1))
  | [] => rfl
  | p :: r => by
    have ih := ints_keys r
    simp only [List.map_cons, kvD, intsO] at ih ⊢
    rw [ih]
    rfl
theorem sort_keys {l : List (Int × Int)} (h : (l.map (·.1)).Pairwise (· < ·)) (h2 : l.length < 64) : sortD (dI l) = .ok (.list ((l.map (·.1)).map .int)) := by
  have e : l.map (·.1) = sortI (l.map (·.1)) := sortI_uniq (.refl _) (h.imp fun h => by omega)
  simp only [sortD, dI, ints_keys]
  rw [← e]
  simp [h2]
/-! ### what is taken in a week: what is left, the rows -/
def mn (a n : Int) : Int := if n < a then n else a
def tkL (w s : Int) : List (Int × Int) → Int → List (Int × Int)
  | [], _ => []
  | (o, a) :: r, n => if (o ≤ w ∧ w < o + s) ∧ 0 < (mn a n) then (o, a - (mn a n)) :: tkL w s r (n - (mn a n)) else (o, a) :: tkL w s r n
def tkR (w s : Int) : List (Int × Int) → Int → List (Int × Int)
  | [], _ => []
  | (o, a) :: r, n => if (o ≤ w ∧ w < o + s) ∧ 0 < (mn a n) then (o, (mn a n)) :: tkR w s r (n - (mn a n)) else tkR w s r n
def tkN (w s : Int) : List (Int × Int) → Int → Int
  | [], n => n
  | (o, a) :: r, n => if (o ≤ w ∧ w < o + s) ∧ 0 < (mn a n) then tkN w s r (n - (mn a n)) else tkN w s r n
theorem tkL_keys (w s : Int) : ∀ (l : List (Int × Int)) (n : Int), (tkL w s l n).map (·.1) = l.map (·.1)
  | [], _ => rfl
  | (o, a) :: r, n => by
    unfold tkL
    split
    · simp [tkL_keys w s r]
    · simp [tkL_keys w s r]
theorem tkL_len (w s : Int) (l : List (Int × Int)) (n : Int) : (tkL w s l n).length = l.length := by
  have := congrArg List.length (tkL_keys w s l n)
  simpa using this
theorem tkR_len (w s : Int) : ∀ (l : List (Int × Int)) (n : Int), (tkR w s l n).length ≤ l.length
  | [], _ => Nat.le_refl _
  | (o, a) :: r, n => by
    unfold tkR
    split
    · simpa using tkR_len w s r _
    · have := tkR_len w s r n
      simp
      omega
theorem V_good (o w s : Int) : V_is_good_in [.int o, .int w, .int s] = .ok (.bool (decide (o ≤ w) && decide (w < o + s))) := by
  by_cases h : o ≤ w
  · simp [V_is_good_in, bodyS, startS, g_is_good_in, g_is_good_in_1, setS, setN, parPP, parNP, parPN, parNN, toO, toB, ifS, retS, exS, appS, extS, dputS, frzS, nxS, vP, vT, cS, op1, op2, gI, addI, subI, mulI, divI, modI, powI, ltI, leI, gtI, geI, minI, maxI, bS, bO, andB, orB, notB, andV, orV, notV, chI, ifE, tupS, lstS, nilA, consA, callS, callK, isiS, lenD, intD, ixD, atR, dgetD, big, plS, plainD, h]
  · simp [V_is_good_in, bodyS, startS, g_is_good_in, g_is_good_in_1, setS, setN, parPP, parNP, parPN, parNN, toO, toB, ifS, retS, exS, appS, extS, dputS, frzS, nxS, vP, vT, cS, op1, op2, gI, addI, subI, mulI, divI, modI, powI, ltI, leI, gtI, geI, minI, maxI, bS, bO, andB, orB, notB, andV, orV, notV, chI, ifE, tupS, lstS, nilA, consA, callS, callK, isiS, lenD, intD, ixD, atR, dgetD, big, plS, plainD, h]
theorem taken_go {l : List (Int × Int)} {w m s : Int} : ∀ (post pre : List (Int × Int)) (acc : List PyData) (n : Int) (x y : Sl), l = pre ++ post → (l.map (·.1)).Nodup → acc.length + post.length ≤ 1000 →
    ∃ x' y', forGo (.nm 6) g_taken_2B ((post.map (·.1)).map .int) [.bw (dI l), .im (.int w), .im (.int m), .im (.int s), .ow (.list acc), .im (.int n), x, y] = .nx [.bw (dI l), .im (.int w), .im (.int m), .im (.int s), .ow (.list (acc ++ (tkR w s post n).map rowD)), .im (.int (tkN w s post n)), x', y']
  | [], pre, acc, n, x, y, _, _, _ => ⟨x, y, by simp [forGo, tkR, tkN]⟩
  | (o, a) :: r, pre, acc, n, x, y, e, nd, hl => by
    have h1 : o ∉ pre.map (·.1) := by
      rw [e, List.map_append, List.nodup_append] at nd
      intro z
      exact nd.2.2 _ z _ List.mem_cons_self rfl
    have lk : dlook (l.map kvD) (.inl o) = some (.int a) := by rw [e]; exact dlook_mid h1
    have e1 : g_taken_2b_1 [.bw (dI l), .im (.int w), .im (.int m), .im (.int s), .ow (.list acc), .im (.int n), .im (.int o), y] = .nx [.bw (dI l), .im (.int w), .im (.int m), .im (.int s), .ow (.list acc), .im (.int n), .im (.int o), .im (.int (mn a n))] := by
      simp [g_taken_2b_1, setS, setN, parPP, parNP, parPN, parNN, toO, toB, ifS, retS, exS, appS, extS, dputS, frzS, nxS, vP, vT, cS, op1, op2, gI, addI, subI, mulI, divI, modI, powI, ltI, leI, gtI, geI, minI, maxI, bS, bO, andB, orB, notB, andV, orV, notV, chI, ifE, tupS, lstS, nilA, consA, callS, callK, isiS, lenD, intD, ixD, atR, dgetD, big, plS, plainD, dI, keyOf_int, lk, mn]
    have hl2 : acc.length ≤ 1000000 := by simp only [List.length_cons] at hl; omega
    by_cases hc : (o ≤ w ∧ w < o + s) ∧ 0 < (mn a n)
    · have e2 : g_taken_2b_2 [.bw (dI l), .im (.int w), .im (.int m), .im (.int s), .ow (.list acc), .im (.int n), .im (.int o), .im (.int (mn a n))] = .nx [.bw (dI l), .im (.int w), .im (.int m), .im (.int s), .ow (.list (acc ++ [rowD (o, mn a n)])), .im (.int (n - (mn a n))), .im (.int o), .im (.int (mn a n))] := by
        obtain ⟨⟨c1, c2⟩, c3⟩ := hc
        have c1' : decide (o ≤ w) = true := decide_eq_true c1
        have c2' : decide (w < o + s) = true := decide_eq_true c2
        have c3' : decide (0 < (mn a n)) = true := decide_eq_true c3
        simp only [g_taken_2b_2, ifS, andB, bS, callS, consA, nilA, vP, cS, op2, gtI, gI, R.ok_bind, List.getElem?_cons_zero, List.getElem?_cons_succ, List.append_nil, V_good, bO, c1', c2', c3', Bool.and_self, if_true, toB]
        simp [seqS, g_taken_2b_2t_1, g_taken_2b_2t_2, setS, setN, parPP, parNP, parPN, parNN, toO, toB, ifS, retS, exS, appS, extS, dputS, frzS, nxS, vP, vT, cS, op1, op2, gI, addI, subI, mulI, divI, modI, powI, ltI, leI, gtI, geI, minI, maxI, bS, bO, andB, orB, notB, andV, orV, notV, chI, ifE, tupS, lstS, nilA, consA, callS, callK, isiS, lenD, intD, ixD, atR, dgetD, big, plS, plainD, hl2, rowD]
      obtain ⟨x', y', ih⟩ := taken_go (m := m) r (pre ++ [(o, a)]) (acc ++ [rowD (o, mn a n)]) (n - (mn a n)) (.im (.int o)) (.im (.int (mn a n))) (by rw [e]; simp) nd (by simp only [List.length_cons] at hl; simp; omega)
      refine ⟨x', y', ?_⟩
      rw [List.map_cons, List.map_cons, forGo_cons (ds1 := [.bw (dI l), .im (.int w), .im (.int m), .im (.int s), .ow (.list acc), .im (.int n), .im (.int o), y]) rfl (show g_taken_2B _ = _ by rw [g_taken_2B, seq_nx e1, e2]), ih]
      simp only [tkR, tkN, if_pos hc, List.map_cons, List.append_assoc, List.singleton_append]
    · have e2 : g_taken_2b_2 [.bw (dI l), .im (.int w), .im (.int m), .im (.int s), .ow (.list acc), .im (.int n), .im (.int o), .im (.int (mn a n))] = .nx [.bw (dI l), .im (.int w), .im (.int m), .im (.int s), .ow (.list acc), .im (.int n), .im (.int o), .im (.int (mn a n))] := by
        by_cases c1 : (decide (o ≤ w) && decide (w < o + s)) = true
        · have c3 : ¬ 0 < (mn a n) := fun z => hc ⟨by simpa using c1, z⟩
          have c3' : decide (0 < (mn a n)) = false := decide_eq_false c3
          simp only [g_taken_2b_2, ifS, andB, bS, callS, consA, nilA, vP, cS, op2, gtI, gI, R.ok_bind, List.getElem?_cons_zero, List.getElem?_cons_succ, List.append_nil, V_good, bO, c1, c3', if_true, toB]
          simp [nxS]
        · have c1' : (decide (o ≤ w) && decide (w < o + s)) = false := by simpa using c1
          simp only [g_taken_2b_2, ifS, andB, bS, callS, consA, nilA, vP, cS, op2, gtI, gI, R.ok_bind, List.getElem?_cons_zero, List.getElem?_cons_succ, List.append_nil, V_good, bO, c1', toB]
          simp [nxS]
      obtain ⟨x', y', ih⟩ := taken_go (m := m) r (pre ++ [(o, a)]) acc n (.im (.int o)) (.im (.int (mn a n))) (by rw [e]; simp) nd (by simp only [List.length_cons] at hl; omega)
      refine ⟨x', y', ?_⟩
      rw [List.map_cons, List.map_cons, forGo_cons (ds1 := [.bw (dI l), .im (.int w), .im (.int m), .im (.int s), .ow (.list acc), .im (.int n), .im (.int o), y]) rfl (show g_taken_2B _ = _ by rw [g_taken_2B, seq_nx e1, e2]), ih]
      simp only [tkR, tkN, if_neg hc]
theorem V_tk {l : List (Int × Int)} (w m s : Int) (h : (l.map (·.1)).Pairwise (· < ·)) (h2 : l.length < 64) : V_taken [dI l, .int w, .int m, .int s] = .ok (.list ((tkR w s l m).map rowD)) := by
  have nd : (l.map (·.1)).Nodup := h.imp fun h => by omega
  obtain ⟨x', y', e⟩ := taken_go (l := l) (w := w) (m := m) (s := s) l [] [] m .no .no rfl nd (by simp; omega)
  have e1 : g_taken_1 [.bw (dI l), .im (.int w), .im (.int m), .im (.int s), .no, .no, .no, .no] = .nx [.bw (dI l), .im (.int w), .im (.int m), .im (.int s), .ow (.list []), .im (.int m), .no, .no] := by
    simp [g_taken_1, setS, setN, parPP, parNP, parPN, parNN, toO, toB, ifS, retS, exS, appS, extS, dputS, frzS, nxS, vP, vT, cS, op1, op2, gI, addI, subI, mulI, divI, modI, powI, ltI, leI, gtI, geI, minI, maxI, bS, bO, andB, orB, notB, andV, orV, notV, chI, ifE, tupS, lstS, nilA, consA, callS, callK, isiS, lenD, intD, ixD, atR, dgetD, big, plS, plainD]
  have e2 : g_taken_2 [.bw (dI l), .im (.int w), .im (.int m), .im (.int s), .ow (.list []), .im (.int m), .no, .no] = .nx [.bw (dI l), .im (.int w), .im (.int m), .im (.int s), .ow (.list ([] ++ (tkR w s l m).map rowD)), .im (.int (tkN w s l m)), x', y'] := by
    rw [← e]
    simp only [g_taken_2, forS, itL, op1, vT, List.getElem?_cons_zero, R.ok_bind, sort_keys h h2]
  show bodyS 8 [true, false, false, false] g_taken [dI l, .int w, .int m, .int s] = _
  rw [bodyS, g_taken, show startS 8 [true, false, false, false] [dI l, .int w, .int m, .int s] = [.bw (dI l), .im (.int w), .im (.int m), .im (.int s), .no, .no, .no, .no] from rfl, seq_nx e1, seq_nx e2]
  simp [frzS, g_taken_3, setS, setN, parPP, parNP, parPN, parNN, toO, toB, ifS, retS, exS, appS, extS, dputS, frzS, nxS, vP, vT, cS, op1, op2, gI, addI, subI, mulI, divI, modI, powI, ltI, leI, gtI, geI, minI, maxI, bS, bO, andB, orB, notB, andV, orV, notV, chI, ifE, tupS, lstS, nilA, consA, callS, callK, isiS, lenD, intD, ixD, atR, dgetD, big, plS, plainD]
end Cb
namespace Cb
open PySem PySem.Spec PyProof.Rows L2
def row3 (w : Int) (p : Int × Int) : PyData := .tuple [.int w, .int p.1, .int p.2]
/-- what is served: what is left, and the rows -/
def svL (s : Int) : List (Int × Int) → List (Int × Int) → List (Int × Int)
  | l, [] => l
  | l, (w, m) :: r => svL s (tkL w s l m) r
def svR (s : Int) : List (Int × Int) → List (Int × Int) → List (Int × Int × Int)
  | _, [] => []
  | l, (w, m) :: r => (tkR w s l m).map (fun p => (w, p)) ++ svR s (tkL w s l m) r
def row3D (t : Int × Int × Int) : PyData := row3 t.1 t.2
theorem svR_len (s : Int) : ∀ (ns l : List (Int × Int)), (svR s l ns).length ≤ l.length * ns.length
  | [], _ => Nat.zero_le _
  | (w, m) :: r, l => by
    have ih := svR_len s r (tkL w s l m)
    have h := tkR_len w s l m
    rw [tkL_len] at ih
    simp only [svR, List.length_append, List.length_map, List.length_cons, Nat.mul_succ]
    omega
theorem serve_in {d0 d1 : Sl} {w m s : Int} : ∀ (post pre : List (Int × Int)) (acc : List PyData) (n : Int) (x y : Sl), ((pre ++ post).map (·.1)).Nodup → acc.length + post.length ≤ 10000 → pre.length + post.length ≤ 1000 →
    ∃ x' y', forGo (.pr 7 8) g_serve_2b_1B ((tkR w s post n).map rowD) [d0, d1, .im (.int s), .ow (dI (pre ++ post)), .ow (.list acc), .im (.int w), .im (.int m), x, y] = .nx [d0, d1, .im (.int s), .ow (dI (pre ++ tkL w s post n)), .ow (.list (acc ++ (tkR w s post n).map (row3 w))), .im (.int w), .im (.int m), x', y']
  | [], pre, acc, n, x, y, _, _, _ => ⟨x, y, by simp [forGo, tkR, tkL]⟩
  | (o, a) :: r, pre, acc, n, x, y, nd, hl, hp => by
    have h1 : o ∉ pre.map (·.1) := by
      rw [List.map_append, List.nodup_append] at nd
      intro z
      exact nd.2.2 _ z _ List.mem_cons_self rfl
    have h2 : o ∉ r.map (·.1) := by
      rw [List.map_append, List.nodup_append] at nd
      have := nd.2.1
      rw [List.map_cons, List.nodup_cons] at this
      exact this.1
    by_cases hc : (o ≤ w ∧ w < o + s) ∧ 0 < mn a n
    · have lk := dlook_mid (post := r) (a := a) h1
      have pt := dput_mid (post := r) (a := a) (v := a - mn a n) h1 h2
      have hz : (pre ++ (o, a) :: r).length ≤ 1000000 := by simp only [List.length_append, List.length_cons] at hp ⊢; omega
      have hz2 : acc.length ≤ 1000000 := by simp only [List.length_cons] at hl; omega
      have e1 : g_serve_2b_1b_1 [d0, d1, .im (.int s), .ow (dI (pre ++ (o, a) :: r)), .ow (.list acc), .im (.int w), .im (.int m), .im (.int o), .im (.int (mn a n))] = .nx [d0, d1, .im (.int s), .ow (dI (pre ++ (o, a - mn a n) :: r)), .ow (.list acc), .im (.int w), .im (.int m), .im (.int o), .im (.int (mn a n))] := by
        simp only [g_serve_2b_1b_1, setS, setN, parPP, parNP, parPN, parNN, toO, toB, ifS, retS, exS, appS, extS, dputS, frzS, nxS, vP, vT, cS, op1, op2, gI, addI, subI, mulI, divI, modI, powI, ltI, leI, gtI, geI, minI, maxI, bS, bO, andB, orB, notB, andV, orV, notV, chI, ifE, tupS, lstS, nilA, consA, callS, callK, isiS, lenD, intD, ixD, atR, dgetD, big, plS, plainD, dI, List.getElem?_cons_zero, List.getElem?_cons_succ, R.ok_bind, find_int, keyOf_int, lk, pt, List.length_map, if_pos hz, List.set_cons_zero, List.set_cons_succ]
      have e2 : g_serve_2b_1b_2 [d0, d1, .im (.int s), .ow (dI (pre ++ (o, a - mn a n) :: r)), .ow (.list acc), .im (.int w), .im (.int m), .im (.int o), .im (.int (mn a n))] = .nx [d0, d1, .im (.int s), .ow (dI (pre ++ (o, a - mn a n) :: r)), .ow (.list (acc ++ [row3 w (o, mn a n)])), .im (.int w), .im (.int m), .im (.int o), .im (.int (mn a n))] := by
        simp [g_serve_2b_1b_2, setS, setN, parPP, parNP, parPN, parNN, toO, toB, ifS, retS, exS, appS, extS, dputS, frzS, nxS, vP, vT, cS, op1, op2, gI, addI, subI, mulI, divI, modI, powI, ltI, leI, gtI, geI, minI, maxI, bS, bO, andB, orB, notB, andV, orV, notV, chI, ifE, tupS, lstS, nilA, consA, callS, callK, isiS, lenD, intD, ixD, atR, dgetD, big, plS, plainD, hz2, row3]
      obtain ⟨x', y', ih⟩ := serve_in (d0 := d0) (d1 := d1) (w := w) (m := m) (s := s) r (pre ++ [(o, a - mn a n)]) (acc ++ [row3 w (o, mn a n)]) (n - mn a n) (.im (.int o)) (.im (.int (mn a n))) (by simpa using nd) (by simp only [List.length_cons] at hl; simp; omega) (by simp only [List.length_cons] at hp; simp; omega)
      refine ⟨x', y', ?_⟩
      simp only [List.append_assoc, List.singleton_append] at ih
      simp only [tkR, tkL, if_pos hc, List.map_cons]
      rw [forGo_cons (ds1 := [d0, d1, .im (.int s), .ow (dI (pre ++ (o, a) :: r)), .ow (.list acc), .im (.int w), .im (.int m), .im (.int o), .im (.int (mn a n))]) rfl (show g_serve_2b_1B _ = _ by rw [g_serve_2b_1B, seq_nx e1, e2]), ih]
    · obtain ⟨x', y', ih⟩ := serve_in (d0 := d0) (d1 := d1) (w := w) (m := m) (s := s) r (pre ++ [(o, a)]) acc n x y (by simpa using nd) (by simp only [List.length_cons] at hl; omega) (by simp only [List.length_cons] at hp; simp; omega)
      refine ⟨x', y', ?_⟩
      simp only [List.append_assoc, List.singleton_append] at ih
      simp only [tkR, tkL, if_neg hc]
      exact ih
theorem serve_go {d0 d1 : Sl} {s : Int} : ∀ (ns l : List (Int × Int)) (acc : List PyData) (z1 z2 x y : Sl), (l.map (·.1)).Pairwise (· < ·) → l.length < 64 → acc.length + l.length * ns.length ≤ 9000 →
    ∃ z1' z2' x' y', forGo (.pr 5 6) g_serve_2B (ns.map rowD) [d0, d1, .im (.int s), .ow (dI l), .ow (.list acc), z1, z2, x, y] = .nx [d0, d1, .im (.int s), .ow (dI (svL s l ns)), .ow (.list (acc ++ (svR s l ns).map row3D)), z1', z2', x', y']
  | [], l, acc, z1, z2, x, y, _, _, _ => ⟨z1, z2, x, y, by simp [forGo, svL, svR]⟩
  | (w, m) :: r, l, acc, z1, z2, x, y, hp, hl, ha => by
    have nd : (l.map (·.1)).Nodup := hp.imp fun h => by omega
    obtain ⟨x1, y1, e⟩ := serve_in (d0 := d0) (d1 := d1) (w := w) (m := m) (s := s) l [] acc m x y (by simpa using nd) (by simp only [List.length_cons, Nat.mul_succ] at ha; omega) (by simp; omega)
    have hr := tkR_len w s l m
    obtain ⟨a1, a2, a3, a4, ih⟩ := serve_go (d0 := d0) (d1 := d1) (s := s) r (tkL w s l m) (acc ++ (tkR w s l m).map (row3 w)) (.im (.int w)) (.im (.int m)) x1 y1 (by rw [tkL_keys]; exact hp) (by rw [tkL_len]; exact hl) (by
      rw [tkL_len, List.length_append, List.length_map]
      simp only [List.length_cons, Nat.mul_succ] at ha
      omega)
    refine ⟨a1, a2, a3, a4, ?_⟩
    have eb : g_serve_2B [d0, d1, .im (.int s), .ow (dI l), .ow (.list acc), .im (.int w), .im (.int m), x, y] = .nx [d0, d1, .im (.int s), .ow (dI (tkL w s l m)), .ow (.list (acc ++ (tkR w s l m).map (row3 w))), .im (.int w), .im (.int m), x1, y1] := by
      simp only [List.nil_append] at e
      rw [← e]
      simp only [g_serve_2B, g_serve_2b_1, forS, itL, callS, consA, nilA, vT, vP, List.getElem?_cons_zero, List.getElem?_cons_succ, R.ok_bind, List.append_nil, V_tk w m s hp hl]
    rw [List.map_cons, forGo_cons (ds1 := [d0, d1, .im (.int s), .ow (dI l), .ow (.list acc), .im (.int w), .im (.int m), x, y]) rfl eb, ih]
    simp only [svL, svR, List.map_append, List.map_map, List.append_assoc]
    rfl
theorem rows_pw {rs : List (Int × Int)} (h : Rows rs) : (rs.map (·.1)).Pairwise (· < ·) := by
  rw [List.pairwise_map]
  exact h.up
theorem rows_nd {rs : List (Int × Int)} (h : Rows rs) : (rs.map (·.1)).Nodup := (rows_pw h).imp fun h => by omega
/-- serve, whatever the rows of coupons are, if their weeks rise -/
theorem V_sv {cs ns : List (Int × Int)} (s : Int) (h1 : (cs.map (·.1)).Pairwise (· < ·)) (h2 : cs.length < 64) (h3 : ns.length ≤ 100) : V_serve [rowsD cs, rowsD ns, .int s] = .ok (.list ((svR s cs ns).map row3D)) := by
  have nd : (cs.map (·.1)).Nodup := h1.imp fun h => by omega
  have hb : cs.length * ns.length ≤ 63 * 100 := Nat.mul_le_mul (by omega) h3
  obtain ⟨a1, a2, a3, a4, e⟩ := serve_go (d0 := .im (rowsD cs)) (d1 := .im (rowsD ns)) (s := s) ns cs [] .no .no .no .no h1 h2 (by simp; omega)
  have e1 : g_serve_1 [.im (rowsD cs), .im (rowsD ns), .im (.int s), .no, .no, .no, .no, .no, .no] = .nx [.im (rowsD cs), .im (rowsD ns), .im (.int s), .ow (dI cs), .ow (.list []), .no, .no, .no, .no] := by
    simp [g_serve_1, setS, setN, parPP, parNP, parPN, parNN, toO, toB, ifS, retS, exS, appS, extS, dputS, frzS, nxS, vP, vT, cS, op1, op2, gI, addI, subI, mulI, divI, modI, powI, ltI, leI, gtI, geI, minI, maxI, bS, bO, andB, orB, notB, andV, orV, notV, chI, ifE, tupS, lstS, nilA, consA, callS, callK, isiS, lenD, intD, ixD, atR, dgetD, big, plS, plainD, dict_rows nd]
  have e2 : g_serve_2 [.im (rowsD cs), .im (rowsD ns), .im (.int s), .ow (dI cs), .ow (.list []), .no, .no, .no, .no] = .nx [.im (rowsD cs), .im (rowsD ns), .im (.int s), .ow (dI (svL s cs ns)), .ow (.list ([] ++ (svR s cs ns).map row3D)), a1, a2, a3, a4] := by
    rw [← e]
    simp [g_serve_2, forS, itL, vP, rowsD]
  show bodyS 9 [false, false, false] g_serve [rowsD cs, rowsD ns, .int s] = _
  rw [bodyS, g_serve, show startS 9 [false, false, false] [rowsD cs, rowsD ns, .int s] = [.im (rowsD cs), .im (rowsD ns), .im (.int s), .no, .no, .no, .no, .no, .no] from rfl, seq_nx e1, seq_nx e2]
  simp [frzS, g_serve_3, setS, setN, parPP, parNP, parPN, parNN, toO, toB, ifS, retS, exS, appS, extS, dputS, frzS, nxS, vP, vT, cS, op1, op2, gI, addI, subI, mulI, divI, modI, powI, ltI, leI, gtI, geI, minI, maxI, bS, bO, andB, orB, notB, andV, orV, notV, chI, ifE, tupS, lstS, nilA, consA, callS, callK, isiS, lenD, intD, ixD, atR, dgetD, big, plS, plainD]
theorem V_srv {cs ns : List (Int × Int)} {s : Int} (hc : Rows cs) (hn : Rows ns) (h1 : 1 ≤ s) (h2 : s ≤ 4) : V_served [rowsD cs, rowsD ns, .int s] = .ok (.list ((svR s cs ns).map row3D)) := by
  have l1 := hc.len
  have l2 := hn.len
  simp [V_served, bodyS, startS, g_served, g_served_1, g_served_2, seqS, setS, setN, parPP, parNP, parPN, parNN, toO, toB, ifS, retS, exS, appS, extS, dputS, frzS, nxS, vP, vT, cS, op1, op2, gI, addI, subI, mulI, divI, modI, powI, ltI, leI, gtI, geI, minI, maxI, bS, bO, andB, orB, notB, andV, orV, notV, chI, ifE, tupS, lstS, nilA, consA, callS, callK, isiS, lenD, intD, ixD, atR, dgetD, big, plS, plainD, V_looka hc hn h1 h2, V_sv s (rows_pw hc) (show cs.length < 64 by omega) (show ns.length ≤ 100 by omega)]
/-! rows of three, compared -/
theorem can3 : ∀ l : List (Int × Int × Int), PyData.canLayAll0 (l.map row3D) = true
  | [] => rfl
  | t :: r => by
    have ih := can3 r
    simp [PyData.canLayAll0, PyData.canLay0, row3D, row3, ih]
theorem dep3 : ∀ l : List (Int × Int × Int), PyData.depthAll (l.map row3D) ≤ 3
  | [] => by simp [PyData.depthAll]
  | t :: r => by
    have ih := dep3 r
    simp [PyData.depthAll, PyData.depth, row3D, row3]
    omega
theorem sh3 (l : List (Int × Int × Int)) : SeqAt.shaped (.list (l.map row3D)) = true := by
  have h1 := can3 l
  have h2 := dep3 l
  unfold SeqAt.shaped
  simp [PyData.canLay0, PyData.depth, h1]
  omega
theorem eqv_self {d : PyData} (h : SeqAt.shaped d = true) : PyData.eqv d d = true := SeqAt.eqv_refl d (SeqAt.canLay_of_shaped h)
end Cb
namespace Cb
open PySem PySem.Spec PyProof.Rows L2
/-- rows that rise, below a week; parts from 1 to most -/
def RowsB (most w : Int) (i : Nat) (rs : List (Int × Int)) : Prop := rs.Pairwise (fun a b => a.1 < b.1) ∧ (∀ p ∈ rs, 0 ≤ p.1 ∧ p.1 < w ∧ 1 ≤ p.2 ∧ p.2 ≤ most) ∧ rs.length ≤ i
theorem RowsB.put {most w : Int} {i : Nat} {rs : List (Int × Int)} (h : RowsB most w i rs) {m w' : Int} (h0 : 0 ≤ w) (h1 : 1 ≤ m) (h2 : m ≤ most) (h3 : w < w') : RowsB most w' (i + 1) (rs ++ [(w, m)]) := by
  refine ⟨?_, fun p hp => ?_, by have := h.2.2; simp; omega⟩
  · rw [List.pairwise_append]
    refine ⟨h.1, by simp, fun a ha b hb => ?_⟩
    have := h.2.1 a ha
    simp only [List.mem_singleton] at hb
    subst hb
    exact this.2.1
  · rcases List.mem_append.mp hp with hp | hp
    · have := h.2.1 p hp; omega
    · simp only [List.mem_singleton] at hp
      subst hp
      simp
      omega
/-- what the law's rows are: at most 7, weeks to 44, parts to most -/
structure LRows (most : Int) (rs : List (Int × Int)) : Prop where
  up : rs.Pairwise fun a b => a.1 < b.1
  wk : ∀ p ∈ rs, 0 ≤ p.1 ∧ p.1 ≤ 44 ∧ 1 ≤ p.2 ∧ p.2 ≤ most
  len : rs.length ≤ 7
theorem LRows.rows {most : Int} {rs : List (Int × Int)} (h : LRows most rs) (hm : most ≤ 99) : Rows rs := ⟨h.up, fun p hp => by have := h.wk p hp; omega, by have := h.len; omega⟩
theorem step_at {q : Int} (h0 : 0 ≤ q) (h1 : q < 6) : ∃ d, 1 ≤ d ∧ d ≤ 6 ∧ ixD (.list [.int 1, .int 1, .int 1, .int 2, .int 3, .int 6]) (.int q) = .ok (.int d) := by
  have : q = 0 ∨ q = 1 ∨ q = 2 ∨ q = 3 ∨ q = 4 ∨ q = 5 := by omega
  rcases this with rfl | rfl | rfl | rfl | rfl | rfl
  · exact ⟨1, by omega, by omega, rfl⟩
  · exact ⟨1, by omega, by omega, rfl⟩
  · exact ⟨1, by omega, by omega, rfl⟩
  · exact ⟨2, by omega, by omega, rfl⟩
  · exact ⟨3, by omega, by omega, rfl⟩
  · exact ⟨6, by omega, by omega, rfl⟩
theorem V_lrows (ns : List Int) (hl : ns.length ≤ 63) {a most : Int} (h0 : 0 ≤ a) (h1 : a < 80000) (hm : 0 < most) : ∃ rs, LRows most rs ∧ V__law_rows [.list (ns.map .int), .int a, .int most] = .ok (rowsD rs) := by
  obtain ⟨w0, w00, w01, ew⟩ := pick_ok ns hl (k := a) (m := 4) (by omega) (by omega) (by omega)
  obtain ⟨n, n0, n1, en⟩ := pick_ok ns hl (k := a + 1) (m := 8) (by omega) (by omega) (by omega)
  have e1 : g__law_rows_1 [.im (.list (ns.map .int)), .im (.int a), .im (.int most), .no, .no, .no] = .nx [.im (.list (ns.map .int)), .im (.int a), .im (.int most), .ow (rowsD []), .im (.int w0), .no] := by
    simp [g__law_rows_1, setS, setN, parPP, parNP, parPN, parNN, toO, toB, ifS, retS, exS, appS, extS, dputS, frzS, nxS, vP, vT, cS, op1, op2, gI, addI, subI, mulI, divI, modI, powI, ltI, leI, gtI, geI, minI, maxI, bS, bO, andB, orB, notB, andV, orV, notV, chI, ifE, tupS, lstS, nilA, consA, callS, callK, isiS, lenD, intD, ixD, atR, dgetD, big, plS, plainD, rowsD, ew]
  have i62 : in62 n = true := by simp [in62]; omega
  have e2 := for_inv (k := .nm 5) (b := g__law_rows_2B) (fi := itR1 (callS (consA (vP 0) (consA (op2 addI (vP 1) (cS (.int 1))) (consA (cS (.int 8)) nilA))) V__law_pick [])) (items := rangeD 0 n.toNat) (ds := [.im (.list (ns.map .int)), .im (.int a), .im (.int most), .ow (rowsD []), .im (.int w0), .no])
    (fun i ds => ∃ rs w x, RowsB most w i rs ∧ 0 ≤ w ∧ w ≤ 3 + 6 * i ∧ ds = [.im (.list (ns.map .int)), .im (.int a), .im (.int most), .ow (rowsD rs), .im (.int w), x]) (by simp [itR1, setS, setN, parPP, parNP, parPN, parNN, toO, toB, ifS, retS, exS, appS, extS, dputS, frzS, nxS, vP, vT, cS, op1, op2, gI, addI, subI, mulI, divI, modI, powI, ltI, leI, gtI, geI, minI, maxI, bS, bO, andB, orB, notB, andV, orV, notV, chI, ifE, tupS, lstS, nilA, consA, callS, callK, isiS, lenD, intD, ixD, atR, dgetD, big, plS, plainD, en, i62]) ⟨[], w0, .no, ⟨.nil, by simp, by simp⟩, w00, by omega, rfl⟩ (by
    rintro i ds x hx ⟨rs, w, z, hr, hw0, hw1, rfl⟩
    obtain ⟨hi, rfl⟩ := range_at hx
    obtain ⟨p, p0, p1, ep⟩ := pick_ok ns hl (k := a + 2 + i) (m := most) (by omega) (by omega) hm
    obtain ⟨q, q0, q1, eq⟩ := pick_ok ns hl (k := a + 10 + i) (m := 6) (by omega) (by omega) (by omega)
    obtain ⟨d, d0, d1, ed⟩ := step_at q0 q1
    have hb : rs.length ≤ 1000000 := by have := hr.2.2; omega
    refine ⟨_, rfl, ?_⟩
    simp only [List.set_cons_zero, List.set_cons_succ, Int.zero_add]
    refine ⟨[.im (.list (ns.map .int)), .im (.int a), .im (.int most), .ow (rowsD (rs ++ [(w, 1 + p)])), .im (.int (w + d)), .im (.int i)], ?_, _, _, _, hr.put (w' := w + d) hw0 (by omega) (by omega) (by omega), by omega, by omega, rfl⟩
    have a1 : g__law_rows_2b_1 [.im (.list (ns.map .int)), .im (.int a), .im (.int most), .ow (rowsD rs), .im (.int w), .im (.int i)] = .nx [.im (.list (ns.map .int)), .im (.int a), .im (.int most), .ow (rowsD (rs ++ [(w, 1 + p)])), .im (.int w), .im (.int i)] := by
      simp [g__law_rows_2b_1, setS, setN, parPP, parNP, parPN, parNN, toO, toB, ifS, retS, exS, appS, extS, dputS, frzS, nxS, vP, vT, cS, op1, op2, gI, addI, subI, mulI, divI, modI, powI, ltI, leI, gtI, geI, minI, maxI, bS, bO, andB, orB, notB, andV, orV, notV, chI, ifE, tupS, lstS, nilA, consA, callS, callK, isiS, lenD, intD, ixD, atR, dgetD, big, plS, plainD, ep, rowsD, hb, rowD]
    have a2 : g__law_rows_2b_2 [.im (.list (ns.map .int)), .im (.int a), .im (.int most), .ow (rowsD (rs ++ [(w, 1 + p)])), .im (.int w), .im (.int i)] = .nx [.im (.list (ns.map .int)), .im (.int a), .im (.int most), .ow (rowsD (rs ++ [(w, 1 + p)])), .im (.int (w + d)), .im (.int i)] := by
      have ed' := ed
      simp only [ixD] at ed'
      simp [g__law_rows_2b_2, setS, setN, parPP, parNP, parPN, parNN, toO, toB, ifS, retS, exS, appS, extS, dputS, frzS, nxS, vP, vT, cS, op1, op2, gI, addI, subI, mulI, divI, modI, powI, ltI, leI, gtI, geI, minI, maxI, bS, bO, andB, orB, notB, andV, orV, notV, chI, ifE, tupS, lstS, nilA, consA, callS, callK, isiS, lenD, intD, ixD, atR, dgetD, big, plS, plainD, eq] at ed' ⊢
      simp [ed']
    rw [g__law_rows_2B, seq_nx a1, a2])
  obtain ⟨ds', e2, rs, w, x, hr, hw0, hw1, rfl⟩ := e2
  rw [rangeD_len] at hr hw1
  refine ⟨rs, ⟨hr.1, fun p hp => ?_, ?_⟩, ?_⟩
  · have := hr.2.1 p hp
    have hz : (n.toNat : Int) ≤ 7 := by omega
    have hp2 : rs ≠ [] := fun z => by rw [z] at hp; simp at hp
    have hl1 : 1 ≤ rs.length := by
      cases rs with
      | nil => exact absurd rfl hp2
      | cons _ _ => simp
    refine ⟨this.1, ?_, this.2.2.1, this.2.2.2⟩
    omega
  · have := hr.2.2
    omega
  · show bodyS 6 [false, false, false] g__law_rows _ = _
    rw [bodyS, g__law_rows, show startS 6 [false, false, false] [.list (ns.map .int), .int a, .int most] = [.im (.list (ns.map .int)), .im (.int a), .im (.int most), .no, .no, .no] from rfl, seq_nx e1, seq_nx (show g__law_rows_2 _ = _ from e2)]
    simp [frzS, g__law_rows_3, setS, setN, parPP, parNP, parPN, parNN, toO, toB, ifS, retS, exS, appS, extS, dputS, frzS, nxS, vP, vT, cS, op1, op2, gI, addI, subI, mulI, divI, modI, powI, ltI, leI, gtI, geI, minI, maxI, bS, bO, andB, orB, notB, andV, orV, notV, chI, ifE, tupS, lstS, nilA, consA, callS, callK, isiS, lenD, intD, ixD, atR, dgetD, big, plS, plainD]
end Cb
namespace Cb
open PySem PySem.Spec PyProof.Rows L2
/-! ### coupons one by one -/
def gd (w s o : Int) : Bool := decide (o ≤ w) && decide (w < o + s)
theorem gd_iff {w s o : Int} : gd w s o = true ↔ o ≤ w ∧ w < o + s := by simp [gd]
def un : List (Int × Int) → List Int
  | [] => []
  | (o, a) :: r => List.replicate a.toNat o ++ un r
def u1 (w s : Int) (U : List Int) : List Int × List Int := match U.filter (gd w s) with
  | [] => (U, [])
  | o :: _ => (U.erase o, [o])
def uI (w s : Int) : Nat → List Int → List Int × List Int
  | 0, U => (U, [])
  | n + 1, U => ((uI w s n (u1 w s U).1).1, (u1 w s U).2 ++ (uI w s n (u1 w s U).1).2)
theorem uI_succ (w s : Int) : ∀ (n : Nat) (U : List Int), uI w s (n + 1) U = ((u1 w s (uI w s n U).1).1, (uI w s n U).2 ++ (u1 w s (uI w s n U).1).2)
  | 0, U => by simp [uI]
  | n + 1, U => by
    have ih := uI_succ w s n (u1 w s U).1
    rw [uI, ih]
    simp [uI]
theorem u1_skip {w s : Int} {P U : List Int} (h : ∀ x ∈ P, gd w s x = false) : u1 w s (P ++ U) = (P ++ (u1 w s U).1, (u1 w s U).2) := by
  have e : (P ++ U).filter (gd w s) = U.filter (gd w s) := by
    rw [List.filter_append, List.filter_eq_nil_iff.mpr (fun x hx => by rw [h x hx]; simp), List.nil_append]
  unfold u1
  rw [e]
  cases hf : U.filter (gd w s) with
  | nil => rfl
  | cons o r =>
    have ho : gd w s o = true := (List.mem_filter.mp (by rw [hf]; exact List.mem_cons_self)).2
    have hn : o ∉ P := fun z => by
      have := h o z
      rw [ho] at this
      cases this
    simp only [List.erase_append_right _ hn]
theorem uI_skip {w s : Int} {P : List Int} (h : ∀ x ∈ P, gd w s x = false) : ∀ (n : Nat) (U : List Int), uI w s n (P ++ U) = (P ++ (uI w s n U).1, (uI w s n U).2)
  | 0, U => rfl
  | n + 1, U => by rw [uI, u1_skip h, uI_skip h n, uI]
theorem uI_head {w s o : Int} (h : gd w s o = true) (n : Nat) (U : List Int) : uI w s (n + 1) (o :: U) = ((uI w s n U).1, o :: (uI w s n U).2) := by
  have e : u1 w s (o :: U) = (U, [o]) := by
    unfold u1
    rw [List.filter_cons_of_pos h]
    simp
  rw [uI, e]
  rfl
theorem uI_rep {w s o : Int} (h : gd w s o = true) : ∀ (a n : Nat) (U : List Int), uI w s n (List.replicate a o ++ U) = if n ≤ a then (List.replicate (a - n) o ++ U, List.replicate n o) else ((uI w s (n - a) U).1, List.replicate a o ++ (uI w s (n - a) U).2)
  | 0, 0, U => by simp [uI]
  | 0, n + 1, U => by simp
  | a + 1, 0, U => by simp [uI]
  | a + 1, n + 1, U => by
    rw [List.replicate_succ, List.cons_append, uI_head h, uI_rep h a n U]
    by_cases hn : n ≤ a
    · rw [if_pos hn, if_pos (by omega)]
      simp [List.replicate_succ]
    · rw [if_neg hn, if_neg (by omega)]
      simp
theorem uI_nil (w s : Int) : ∀ n : Nat, uI w s n [] = ([], [])
  | 0 => rfl
  | n + 1 => by
    have e : u1 w s [] = ([], []) := rfl
    rw [uI, e, uI_nil w s n]
    rfl
theorem mn0 (a : Int) : ¬ 0 < mn a 0 := by
  unfold mn
  split <;> omega
theorem tkL0 (w s : Int) : ∀ l, tkL w s l 0 = l
  | [] => rfl
  | (o, a) :: r => by
    rw [tkL, if_neg (fun z => mn0 a z.2), tkL0 w s r]
theorem tkR0 (w s : Int) : ∀ l, tkR w s l 0 = []
  | [] => rfl
  | (o, a) :: r => by
    rw [tkR, if_neg (fun z => mn0 a z.2), tkR0 w s r]
theorem uI_tk (w s : Int) : ∀ (l : List (Int × Int)) (m : Int), 0 ≤ m → (∀ p ∈ l, 0 ≤ p.2) → uI w s m.toNat (un l) = (un (tkL w s l m), un (tkR w s l m))
  | [], m, _, _ => uI_nil w s _
  | (o, a) :: r, m, hm, ha => by
    have ha0 : 0 ≤ a := ha (o, a) List.mem_cons_self
    have har : ∀ p ∈ r, 0 ≤ p.2 := fun p hp => ha p (List.mem_cons_of_mem _ hp)
    have ih := fun m hm => uI_tk w s r m hm har
    show uI w s m.toNat (List.replicate a.toNat o ++ un r) = _
    by_cases hg : gd w s o = true
    · rw [uI_rep hg]
      by_cases hc : 0 < mn a m
      · have hcc : (o ≤ w ∧ w < o + s) ∧ 0 < mn a m := ⟨gd_iff.mp hg, hc⟩
        rw [tkL, tkR, if_pos hcc, if_pos hcc]
        by_cases hlt : m < a
        · have e : mn a m = m := by unfold mn; rw [if_pos hlt]
          rw [if_pos (by omega), e, Int.sub_self, tkL0, tkR0, un, un, un]
          have e2 : (a - m).toNat = a.toNat - m.toNat := by omega
          rw [e2, List.append_nil]
        · have e : mn a m = a := by unfold mn; rw [if_neg hlt]
          rw [e]
          by_cases hle : m.toNat ≤ a.toNat
          · have : m = a := by omega
            subst this
            rw [if_pos hle, Int.sub_self, tkL0, tkR0, un, un, un]
            simp
          · have e3 : m.toNat - a.toNat = (m - a).toNat := by omega
            rw [if_neg hle, e3, ih (m - a) (by omega), un, un]
            simp
      · have hcc : ¬ ((o ≤ w ∧ w < o + s) ∧ 0 < mn a m) := fun z => hc z.2
        rw [tkL, tkR, if_neg hcc, if_neg hcc, un]
        have hz : m = 0 ∨ a = 0 := by
          unfold mn at hc
          split at hc <;> omega
        rcases hz with rfl | rfl
        · rw [if_pos (by simp), tkL0, tkR0, un]
          simp
        · have h2 := ih m hm
          by_cases hle : m.toNat ≤ (0 : Int).toNat
          · have : m = 0 := by
              simp at hle
              omega
            subst this
            rw [if_pos hle, tkL0, tkR0, un]
            simp
          · rw [if_neg hle]
            simp only [Int.toNat_zero, Nat.sub_zero, List.replicate_zero, List.nil_append]
            rw [h2]
    · have hg0 : gd w s o = false := by simpa using hg
      have hcc : ¬ ((o ≤ w ∧ w < o + s) ∧ 0 < mn a m) := fun z => hg (gd_iff.mpr z.1)
      rw [tkL, tkR, if_neg hcc, if_neg hcc, uI_skip (fun x hx => by rw [(List.mem_replicate.mp hx).2]; exact hg0), ih m hm, un]
theorem tkL_pos (w s : Int) : ∀ (l : List (Int × Int)) (m : Int), (∀ p ∈ l, 0 ≤ p.2) → ∀ p ∈ tkL w s l m, 0 ≤ p.2
  | [], _, _, p, hp => by simp [tkL] at hp
  | (o, a) :: r, m, ha, p, hp => by
    have ha0 : 0 ≤ a := ha (o, a) List.mem_cons_self
    have har : ∀ p ∈ r, 0 ≤ p.2 := fun p hp => ha p (List.mem_cons_of_mem _ hp)
    rw [tkL] at hp
    split at hp
    · rcases List.mem_cons.mp hp with rfl | hp
      · show 0 ≤ a - mn a m
        unfold mn
        split <;> omega
      · exact tkL_pos w s r _ har p hp
    · rcases List.mem_cons.mp hp with rfl | hp
      · exact ha0
      · exact tkL_pos w s r _ har p hp
/-- all needs -/
def uA (s : Int) : List (Int × Int) → List Int → List Int × List (Int × Int)
  | [], U => (U, [])
  | (w, m) :: r, U => ((uA s r (uI w s m.toNat U).1).1, (uI w s m.toNat U).2.map (fun o => (w, o)) ++ (uA s r (uI w s m.toNat U).1).2)
def flat (R : List (Int × Int × Int)) : List (Int × Int) := R.flatMap fun t => List.replicate t.2.2.toNat (t.1, t.2.1)
theorem un_flat (w : Int) : ∀ R : List (Int × Int), (un R).map (fun o => (w, o)) = flat (R.map fun p => (w, p))
  | [] => rfl
  | (o, k) :: r => by
    have ih := un_flat w r
    rw [un, List.map_append, List.map_replicate, ih]
    simp [flat]
theorem uA_sv (s : Int) : ∀ (ns l : List (Int × Int)), (∀ p ∈ ns, 0 ≤ p.2) → (∀ p ∈ l, 0 ≤ p.2) → uA s ns (un l) = (un (svL s l ns), flat (svR s l ns))
  | [], l, _, _ => rfl
  | (w, m) :: r, l, hn, hl => by
    have hm : 0 ≤ m := hn (w, m) List.mem_cons_self
    have ih := uA_sv s r (tkL w s l m) (fun p hp => hn p (List.mem_cons_of_mem _ hp)) (tkL_pos w s l m hl)
    rw [uA, uI_tk w s l m hm hl, ih, svL, svR, un_flat]
    simp [flat]
/-! the rows of what is served differ -/
theorem tkR_up (w s : Int) : ∀ (l : List (Int × Int)) (m : Int), (l.map (·.1)).Pairwise (· < ·) → ((tkR w s l m).map (·.1)).Pairwise (· < ·) ∧ ∀ p ∈ tkR w s l m, p.1 ∈ l.map (·.1) ∧ 1 ≤ p.2
  | [], _, _ => ⟨.nil, by simp [tkR]⟩
  | (o, a) :: r, m, h => by
    rw [List.map_cons, List.pairwise_cons] at h
    rw [tkR]
    split
    · rename_i hc
      obtain ⟨h1, h2⟩ := tkR_up w s r (m - mn a m) h.2
      refine ⟨?_, fun p hp => ?_⟩
      · rw [List.map_cons, List.pairwise_cons]
        refine ⟨fun x hx => ?_, h1⟩
        obtain ⟨p, hp, rfl⟩ := List.mem_map.mp hx
        exact h.1 _ (h2 p hp).1
      · rcases List.mem_cons.mp hp with rfl | hp
        · exact ⟨by simp, by have := hc.2; show 1 ≤ mn a m; omega⟩
        · exact ⟨List.mem_cons_of_mem _ (h2 p hp).1, (h2 p hp).2⟩
    · obtain ⟨h1, h2⟩ := tkR_up w s r m h.2
      exact ⟨h1, fun p hp => ⟨List.mem_cons_of_mem _ (h2 p hp).1, (h2 p hp).2⟩⟩
theorem svR_nd (s : Int) : ∀ (ns l : List (Int × Int)), (ns.map (·.1)).Pairwise (· < ·) → (l.map (·.1)).Pairwise (· < ·) → ((svR s l ns).map fun t => (t.1, t.2.1)).Nodup ∧ ∀ t ∈ svR s l ns, t.1 ∈ ns.map (·.1) ∧ 1 ≤ t.2.2
  | [], _, _, _ => ⟨.nil, by simp [svR]⟩
  | (w, m) :: r, l, hn, hl => by
    rw [List.map_cons, List.pairwise_cons] at hn
    obtain ⟨a1, a2⟩ := tkR_up w s l m hl
    obtain ⟨b1, b2⟩ := svR_nd s r (tkL w s l m) hn.2 (by rw [tkL_keys]; exact hl)
    rw [svR]
    refine ⟨?_, fun t ht => ?_⟩
    · rw [List.map_append, List.nodup_append]
      refine ⟨?_, b1, fun x hx y hy => ?_⟩
      · rw [List.map_map]
        have e : (tkR w s l m).map ((fun t : Int × Int × Int => (t.1, t.2.1)) ∘ fun p => (w, p)) = ((tkR w s l m).map (·.1)).map fun o => (w, o) := by
          rw [List.map_map]
          rfl
        rw [e]
        refine List.Pairwise.map (R := (· < ·)) _ (fun x y h z => ?_) a1
        have := congrArg Prod.snd z
        simp at this
        omega
      · rw [List.map_map] at hx
        obtain ⟨p, _, rfl⟩ := List.mem_map.mp hx
        obtain ⟨t, ht, rfl⟩ := List.mem_map.mp hy
        intro z
        have e : w = t.1 := congrArg Prod.fst z
        have := hn.1 _ (b2 t ht).1
        omega
    · rcases List.mem_append.mp ht with ht | ht
      · obtain ⟨p, hp, rfl⟩ := List.mem_map.mp ht
        exact ⟨by simp, (a2 p hp).2⟩
      · exact ⟨List.mem_cons_of_mem _ (b2 t ht).1, (b2 t ht).2⟩
theorem svL_keys (s : Int) : ∀ (ns l : List (Int × Int)), (svL s l ns).map (·.1) = l.map (·.1)
  | [], _ => rfl
  | (w, m) :: r, l => by rw [svL, svL_keys s r, tkL_keys]
theorem svL_pos (s : Int) : ∀ (ns l : List (Int × Int)), (∀ p ∈ l, 0 ≤ p.2) → ∀ p ∈ svL s l ns, 0 ≤ p.2
  | [], _, h => h
  | (w, m) :: r, l, h => svL_pos s r _ (tkL_pos w s l m h)
/-! what a week got -/
def gotW (R : List (Int × Int × Int)) (w : Int) : Int := ((R.filter fun t => decide (t.1 = w)).map (·.2.2)).sum
theorem gotW_cons (t : Int × Int × Int) (R : List (Int × Int × Int)) (w : Int) : gotW (t :: R) w = (if t.1 = w then t.2.2 else 0) + gotW R w := by
  unfold gotW
  by_cases h : t.1 = w
  · simp [h]
  · simp [h]
theorem count_flat : ∀ (R : List (Int × Int × Int)), (∀ t ∈ R, 0 ≤ t.2.2) → ∀ w, (((flat R).map (·.1)).count w : Int) = gotW R w
  | [], _, w => rfl
  | t :: r, h, w => by
    have ih := count_flat r (fun t ht => h t (List.mem_cons_of_mem _ ht)) w
    have h0 := h t List.mem_cons_self
    rw [gotW_cons, ← ih]
    have e : flat (t :: r) = List.replicate t.2.2.toNat (t.1, t.2.1) ++ flat r := by simp [flat]
    rw [e, List.map_append, List.count_append, List.map_replicate]
    by_cases hw : t.1 = w
    · rw [if_pos hw, hw]
      rw [List.count_replicate_self]
      omega
    · rw [if_neg hw, List.count_replicate]
      simp [hw]
theorem count_un : ∀ (l : List (Int × Int)), (l.map (·.1)).Nodup → (∀ p ∈ l, 0 ≤ p.2) → ∀ p ∈ l, ((un l).count p.1 : Int) = p.2
  | [], _, _, p, hp => by simp at hp
  | (o, a) :: r, hn, h, p, hp => by
    rw [List.map_cons, List.nodup_cons] at hn
    have h0 : 0 ≤ a := h (o, a) List.mem_cons_self
    have hr : ∀ p ∈ r, 0 ≤ p.2 := fun p hp => h p (List.mem_cons_of_mem _ hp)
    have un_mem : ∀ (l : List (Int × Int)) (x : Int), x ∈ un l → x ∈ l.map (·.1) := by
      intro l
      induction l with
      | nil => intro x hx; simp [un] at hx
      | cons q l ih =>
        intro x hx
        rw [un] at hx
        rcases List.mem_append.mp hx with hx | hx
        · rw [(List.mem_replicate.mp hx).2]
          simp
        · exact List.mem_cons_of_mem _ (ih x hx)
    rw [un, List.count_append]
    rcases List.mem_cons.mp hp with rfl | hp
    · rw [List.count_replicate_self, List.count_eq_zero.mpr (fun z => hn.1 (un_mem r _ z))]
      simp
      omega
    · have ih := count_un r hn.2 hr p hp
      have ne : ¬ o = p.1 := fun z => hn.1 (by rw [z]; exact List.mem_map.mpr ⟨p, hp, rfl⟩)
      rw [List.count_replicate]
      simp [ne]
      exact ih
theorem mem_un : ∀ (l : List (Int × Int)), (∀ p ∈ l, 0 ≤ p.2) → ∀ x, x ∈ un l ↔ x ∈ ((l.filter fun p => decide (0 < p.2)).map (·.1))
  | [], _, x => by simp [un]
  | (o, a) :: r, h, x => by
    have h0 : 0 ≤ a := h (o, a) List.mem_cons_self
    have ih := mem_un r (fun p hp => h p (List.mem_cons_of_mem _ hp)) x
    rw [un, List.mem_append, ih, List.mem_replicate]
    by_cases ha : 0 < a
    · rw [List.filter_cons_of_pos (by simpa using ha), List.map_cons, List.mem_cons]
      constructor
      · rintro (⟨_, e⟩ | e)
        · exact .inl e
        · exact .inr e
      · rintro (e | e)
        · exact .inl ⟨by omega, e⟩
        · exact .inr e
    · rw [List.filter_cons_of_neg (by simpa using ha)]
      constructor
      · rintro (⟨z, _⟩ | e)
        · exact absurd (by omega) z
        · exact e
      · exact .inr
theorem setI_un {l : List (Int × Int)} (hk : (l.map (·.1)).Pairwise (· < ·)) (h : ∀ p ∈ l, 0 ≤ p.2) : setI (un l) = (l.filter fun p => decide (0 < p.2)).map (·.1) := by
  refine up_unique (setI_up _) ?_ fun k => by rw [setI_mem, mem_un l h]
  rw [List.pairwise_map] at hk ⊢
  exact hk.filter _
theorem un_len : ∀ (l : List (Int × Int)) (b : Nat), (∀ p ∈ l, p.2 ≤ b) → (un l).length ≤ l.length * b
  | [], _, _ => Nat.zero_le _
  | (o, a) :: r, b, h => by
    have h0 : a ≤ b := h (o, a) List.mem_cons_self
    have ih := un_len r b fun p hp => h p (List.mem_cons_of_mem _ hp)
    rw [un, List.length_append, List.length_replicate, List.length_cons, Nat.add_mul, Nat.one_mul]
    omega
end Cb
namespace Cb
open PySem PySem.Spec PyProof.Rows L2
/-! ### the law's own units -/
theorem ints_map : ∀ ns : List Int, intsO (ns.map .int) = some ns
  | [] => rfl
  | n :: r => by
    have ih := ints_map r
    simp [intsO, ih]
theorem rep1 (o : Int) : ∀ k : Nat, (List.replicate k [PyData.int o]).flatten = (List.replicate k o).map .int
  | 0 => rfl
  | k + 1 => by rw [List.replicate_succ, List.flatten_cons, rep1 o k]; simp [List.replicate_succ]
theorem un_app : ∀ a b : List (Int × Int), un (a ++ b) = un a ++ un b
  | [], _ => rfl
  | (o, k) :: r, b => by rw [List.cons_append, un, un, un_app r b, List.append_assoc]
section
variable {d0 d1 : Sl} {s : Int}
/-- the first loop: all units -/
theorem units_first : ∀ (post pre : List (Int × Int)) (x y : Sl) (t7 t8 t9 : Sl), (∀ p ∈ pre ++ post, 0 ≤ p.2 ∧ p.2 ≤ 100) → (pre ++ post).length ≤ 20 →
    ∃ x' y', forGo (.pr 5 6) g__law_units_2B (post.map rowD) [d0, d1, .im (.int s), .ow (.list ((un pre).map .int)), .ow (.list []), x, y, t7, t8, t9] = .nx [d0, d1, .im (.int s), .ow (.list ((un (pre ++ post)).map .int)), .ow (.list []), x', y', t7, t8, t9]
  | [], pre, x, y, t7, t8, t9, _, _ => ⟨x, y, by simp [forGo]⟩
  | (o, a) :: r, pre, x, y, t7, t8, t9, h, hl => by
    have ha := h (o, a) (by simp)
    have hu : (un pre).length ≤ pre.length * 100 := un_len pre 100 fun p hp => (h p (by simp [hp])).2
    have hlen : pre.length ≤ 20 := by simp at hl; omega
    have hz : (un pre).length + a.toNat ≤ 1000000 := by omega
    have e1 : g__law_units_2B [d0, d1, .im (.int s), .ow (.list ((un pre).map .int)), .ow (.list []), .im (.int o), .im (.int a), t7, t8, t9] = .nx [d0, d1, .im (.int s), .ow (.list ((un (pre ++ [(o, a)])).map .int)), .ow (.list []), .im (.int o), .im (.int a), t7, t8, t9] := by
      have c1 : 0 ≤ a := ha.1
      have c2 : a ≤ 1000 := by have := ha.2; omega
      simp [g__law_units_2B, g__law_units_2b_1, setS, setN, parPP, parNP, parPN, parNN, toO, toB, ifS, retS, exS, appS, extS, dputS, frzS, nxS, vP, vT, cS, op1, op2, gI, addI, subI, mulI, divI, modI, powI, ltI, leI, gtI, geI, minI, maxI, bS, bO, andB, orB, notB, andV, orV, notV, chI, ifE, tupS, lstS, nilA, consA, callS, callK, isiS, lenD, intD, ixD, atR, dgetD, big, plS, plainD, repN, repD, c1, c2, rep1, hz, un_app, un]
    obtain ⟨x', y', ih⟩ := units_first r (pre ++ [(o, a)]) (.im (.int o)) (.im (.int a)) t7 t8 t9 (by simpa using h) (by simpa using hl)
    refine ⟨x', y', ?_⟩
    rw [List.map_cons, forGo_cons (ds1 := [d0, d1, .im (.int s), .ow (.list ((un pre).map .int)), .ow (.list []), .im (.int o), .im (.int a), t7, t8, t9]) rfl e1, ih]
    simp
theorem units_step {w m : Int} {U : List Int} {acc : List PyData} {t5 t8 t9 : Sl} (hU : U.length ≤ 3000) (ha : acc.length ≤ 9000) :
    ∃ t9', g__law_units_3b_1B [d0, d1, .im (.int s), .ow (.list (U.map .int)), .ow (.list acc), t5, .im (.int m), .im (.int w), t8, t9] = .nx [d0, d1, .im (.int s), .ow (.list ((u1 w s U).1.map .int)), .ow (.list (acc ++ (u1 w s U).2.map fun o => rowD (w, o))), t5, .im (.int m), .im (.int w), t8, t9'] := by
  have e0 : lcS (itO 3) [5] (.nm 5) (bS (chI leI ltI (vP 5) (vP 7) (op2 addI (vP 5) (vP 2)))) (vP 5) [d0, d1, .im (.int s), .ow (.list (U.map .int)), .ow (.list acc), t5, .im (.int m), .im (.int w), t8, t9] = .ok (.list ((U.filter (gd w s)).map .int)) := by
    have z := lcGo_fm (k := .nm 5) (ft := bS (chI leI ltI (vP 5) (vP 7) (op2 addI (vP 5) (vP 2)))) (fe := vP 5) (ds := wipeD [d0, d1, .im (.int s), .ow (.list (U.map .int)), .ow (.list acc), t5, .im (.int m), .im (.int w), t8, t9] [5]) PyData.int (gd w s) PyData.int (xs := U) (fun x hx => ⟨_, rfl, by
      by_cases h1 : x ≤ w
      · simp [wipeD, setS, setN, parPP, parNP, parPN, parNN, toO, toB, ifS, retS, exS, appS, extS, dputS, frzS, nxS, vP, vT, cS, op1, op2, gI, addI, subI, mulI, divI, modI, powI, ltI, leI, gtI, geI, minI, maxI, bS, bO, andB, orB, notB, andV, orV, notV, chI, ifE, tupS, lstS, nilA, consA, callS, callK, isiS, lenD, intD, ixD, atR, dgetD, big, plS, plainD, gd, h1]
      · simp [wipeD, setS, setN, parPP, parNP, parPN, parNN, toO, toB, ifS, retS, exS, appS, extS, dputS, frzS, nxS, vP, vT, cS, op1, op2, gI, addI, subI, mulI, divI, modI, powI, ltI, leI, gtI, geI, minI, maxI, bS, bO, andB, orB, notB, andV, orV, notV, chI, ifE, tupS, lstS, nilA, consA, callS, callK, isiS, lenD, intD, ixD, atR, dgetD, big, plS, plainD, gd, h1], fun _ => by simp [wipeD, setS, setN, parPP, parNP, parPN, parNN, toO, toB, ifS, retS, exS, appS, extS, dputS, frzS, nxS, vP, vT, cS, op1, op2, gI, addI, subI, mulI, divI, modI, powI, ltI, leI, gtI, geI, minI, maxI, bS, bO, andB, orB, notB, andV, orV, notV, chI, ifE, tupS, lstS, nilA, consA, callS, callK, isiS, lenD, intD, ixD, atR, dgetD, big, plS, plainD]⟩)
    have hb : U.length ≤ 1000000 := by omega
    simp [lcS, itO, big, hb]
    rw [z]
    simp
  have e1 : g__law_units_3b_1b_1 [d0, d1, .im (.int s), .ow (.list (U.map .int)), .ow (.list acc), t5, .im (.int m), .im (.int w), t8, t9] = .nx [d0, d1, .im (.int s), .ow (.list (U.map .int)), .ow (.list acc), t5, .im (.int m), .im (.int w), t8, .im (.list ((U.filter (gd w s)).map .int))] := by
    simp only [g__law_units_3b_1b_1, setS, e0, toO, List.set_cons_zero, List.set_cons_succ]
  have s0 : SeqAt.shaped (.list []) = true := by decide
  refine ⟨.im (.list ((U.filter (gd w s)).map .int)), ?_⟩
  rw [g__law_units_3b_1B, seq_nx e1]
  unfold u1
  have hsh := shInts (U.filter (gd w s))
  have heq := eqvInts (U.filter (gd w s)) []
  cases hf : U.filter (gd w s) with
  | nil =>
    simp [g__law_units_3b_1b_2, setS, setN, parPP, parNP, parPN, parNN, toO, toB, ifS, retS, exS, appS, extS, dputS, frzS, nxS, vP, vT, cS, op1, op2, gI, addI, subI, mulI, divI, modI, powI, ltI, leI, gtI, geI, minI, maxI, bS, bO, andB, orB, notB, andV, orV, notV, chI, ifE, tupS, lstS, nilA, consA, callS, callK, isiS, lenD, intD, ixD, atR, dgetD, big, plS, plainD, neD, s0, PyData.eqv, PyData.eqvAll]
  | cons o r =>
    rw [hf] at hsh heq
    have ho : o ∈ U := (List.mem_filter.mp (by rw [hf]; exact List.mem_cons_self)).1
    have hb : acc.length ≤ 1000000 := by omega
    simp only [List.map_cons, List.map_nil] at hsh heq
    simp [g__law_units_3b_1b_2, g__law_units_3b_1b_2t_1, g__law_units_3b_1b_2t_2, seqS, setS, setN, parPP, parNP, parPN, parNN, toO, toB, ifS, retS, exS, appS, extS, dputS, frzS, nxS, vP, vT, cS, op1, op2, gI, addI, subI, mulI, divI, modI, powI, ltI, leI, gtI, geI, minI, maxI, bS, bO, andB, orB, notB, andV, orV, notV, chI, ifE, tupS, lstS, nilA, consA, callS, callK, isiS, lenD, intD, ixD, atR, dgetD, big, plS, plainD, neD, s0, hsh, PyData.eqv, heq, at0, remS, ints_map, ho, hb, rowD]
theorem u1_len (w s : Int) (U : List Int) : (u1 w s U).1.length ≤ U.length ∧ (u1 w s U).2.length ≤ 1 := by
  unfold u1
  split
  · exact ⟨Nat.le_refl _, by simp⟩
  · exact ⟨List.length_erase_le, by simp⟩
theorem uI_len (w s : Int) : ∀ (n : Nat) (U : List Int), (uI w s n U).1.length ≤ U.length ∧ (uI w s n U).2.length ≤ n
  | 0, U => ⟨Nat.le_refl _, Nat.le_refl _⟩
  | n + 1, U => by
    have h1 := u1_len w s U
    have h2 := uI_len w s n (u1 w s U).1
    rw [uI]
    simp only [List.length_append]
    omega
theorem units_week {w m : Int} {U : List Int} {acc : List PyData} {t5 t8 t9 : Sl} (hm : 0 ≤ m) (hm2 : m ≤ 100) (hU : U.length ≤ 3000) (ha : acc.length ≤ 8000) :
    ∃ t8' t9', g__law_units_3B [d0, d1, .im (.int s), .ow (.list (U.map .int)), .ow (.list acc), t5, .im (.int m), .im (.int w), t8, t9] = .nx [d0, d1, .im (.int s), .ow (.list ((uI w s m.toNat U).1.map .int)), .ow (.list (acc ++ (uI w s m.toNat U).2.map fun o => rowD (w, o))), t5, .im (.int m), .im (.int w), t8', t9'] := by
  have i62 : in62 m = true := by simp [in62]; omega
  have e := for_inv (k := .nm 8) (b := g__law_units_3b_1B) (fi := itR1 (vP 6)) (items := rangeD 0 m.toNat) (ds := [d0, d1, .im (.int s), .ow (.list (U.map .int)), .ow (.list acc), t5, .im (.int m), .im (.int w), t8, t9])
    (fun i ds => ∃ x y, ds = [d0, d1, .im (.int s), .ow (.list ((uI w s i U).1.map .int)), .ow (.list (acc ++ (uI w s i U).2.map fun o => rowD (w, o))), t5, .im (.int m), .im (.int w), x, y]) (by simp [itR1, vP, i62]) ⟨t8, t9, by simp [uI]⟩ (by
    rintro i ds x hx ⟨a, b, rfl⟩
    obtain ⟨hi, rfl⟩ := range_at hx
    refine ⟨_, rfl, ?_⟩
    simp only [List.set_cons_zero, List.set_cons_succ, Int.zero_add]
    have hl := uI_len w s i U
    obtain ⟨t9', e⟩ := units_step (d0 := d0) (d1 := d1) (s := s) (w := w) (m := m) (U := (uI w s i U).1) (acc := acc ++ (uI w s i U).2.map fun o => rowD (w, o)) (t5 := t5) (t8 := .im (.int i)) (t9 := b) (by omega) (by simp; omega)
    refine ⟨_, e, .im (.int i), t9', ?_⟩
    rw [uI_succ]
    simp)
  obtain ⟨ds', e, x, y, rfl⟩ := e
  rw [rangeD_len] at e
  exact ⟨x, y, e⟩
theorem units_all : ∀ (ns : List (Int × Int)) (U : List Int) (acc : List PyData) (t5 t6 t7 t8 t9 : Sl), (∀ p ∈ ns, 0 ≤ p.2 ∧ p.2 ≤ 100) → U.length ≤ 3000 → acc.length + 100 * ns.length ≤ 8000 →
    ∃ a6 a7 a8 a9, forGo (.pr 7 6) g__law_units_3B (ns.map rowD) [d0, d1, .im (.int s), .ow (.list (U.map .int)), .ow (.list acc), t5, t6, t7, t8, t9] = .nx [d0, d1, .im (.int s), .ow (.list ((uA s ns U).1.map .int)), .ow (.list (acc ++ (uA s ns U).2.map rowD)), t5, a6, a7, a8, a9]
  | [], U, acc, t5, t6, t7, t8, t9, _, _, _ => ⟨t6, t7, t8, t9, by simp [forGo, uA]⟩
  | (w, m) :: r, U, acc, t5, t6, t7, t8, t9, h, hU, ha => by
    have hm := h (w, m) List.mem_cons_self
    simp only [List.length_cons] at ha
    obtain ⟨x, y, e⟩ := units_week (d0 := d0) (d1 := d1) (s := s) (w := w) (m := m) (U := U) (acc := acc) (t5 := t5) (t8 := t8) (t9 := t9) hm.1 hm.2 hU (by omega)
    have hl := uI_len w s m.toNat U
    obtain ⟨a6, a7, a8, a9, ih⟩ := units_all r (uI w s m.toNat U).1 (acc ++ (uI w s m.toNat U).2.map fun o => rowD (w, o)) t5 (.im (.int m)) (.im (.int w)) x y (fun p hp => h p (List.mem_cons_of_mem _ hp)) (by omega) (by
      have : m.toNat ≤ 100 := by have := hm.2; omega
      simp
      omega)
    refine ⟨a6, a7, a8, a9, ?_⟩
    rw [List.map_cons, forGo_cons (ds1 := [d0, d1, .im (.int s), .ow (.list (U.map .int)), .ow (.list acc), t5, .im (.int m), .im (.int w), t8, t9]) rfl e, ih, uA]
    simp [Function.comp_def]
end
theorem V_units {cs ns : List (Int × Int)} (s : Int) (hc : ∀ p ∈ cs, 0 ≤ p.2 ∧ p.2 ≤ 100) (hn : ∀ p ∈ ns, 0 ≤ p.2 ∧ p.2 ≤ 100) (lc : cs.length ≤ 20) (ln : ns.length ≤ 20) :
    V__law_units [rowsD cs, rowsD ns, .int s] = .ok (.tuple [rowsD (flat (svR s cs ns)), .list ((un (svL s cs ns)).map .int)]) := by
  have e1 : g__law_units_1 [.im (rowsD cs), .im (rowsD ns), .im (.int s), .no, .no, .no, .no, .no, .no, .no] = .nx [.im (rowsD cs), .im (rowsD ns), .im (.int s), .ow (.list []), .ow (.list []), .no, .no, .no, .no, .no] := by
    simp [g__law_units_1, setS, setN, parPP, parNP, parPN, parNN, toO, toB, ifS, retS, exS, appS, extS, dputS, frzS, nxS, vP, vT, cS, op1, op2, gI, addI, subI, mulI, divI, modI, powI, ltI, leI, gtI, geI, minI, maxI, bS, bO, andB, orB, notB, andV, orV, notV, chI, ifE, tupS, lstS, nilA, consA, callS, callK, isiS, lenD, intD, ixD, atR, dgetD, big, plS, plainD]
  obtain ⟨x, y, e2⟩ := units_first (d0 := .im (rowsD cs)) (d1 := .im (rowsD ns)) (s := s) cs [] .no .no .no .no .no (by simpa using hc) (by simpa using lc)
  have hu : (un cs).length ≤ cs.length * 100 := un_len cs 100 fun p hp => (hc p hp).2
  obtain ⟨a6, a7, a8, a9, e3⟩ := units_all (d0 := .im (rowsD cs)) (d1 := .im (rowsD ns)) (s := s) ns (un cs) [] x y .no .no .no hn (by omega) (by simp; omega)
  have e2' : g__law_units_2 [.im (rowsD cs), .im (rowsD ns), .im (.int s), .ow (.list []), .ow (.list []), .no, .no, .no, .no, .no] = .nx [.im (rowsD cs), .im (rowsD ns), .im (.int s), .ow (.list ((un cs).map .int)), .ow (.list []), x, y, .no, .no, .no] := by
    simpa [g__law_units_2, forS, itL, vP, rowsD, un] using e2
  have e3' : g__law_units_3 [.im (rowsD cs), .im (rowsD ns), .im (.int s), .ow (.list ((un cs).map .int)), .ow (.list []), x, y, .no, .no, .no] = .nx [.im (rowsD cs), .im (rowsD ns), .im (.int s), .ow (.list ((uA s ns (un cs)).1.map .int)), .ow (.list ((uA s ns (un cs)).2.map rowD)), x, a6, a7, a8, a9] := by
    simpa [g__law_units_3, forS, itL, vP, rowsD] using e3
  have ea := uA_sv s ns cs (fun p hp => (hn p hp).1) (fun p hp => (hc p hp).1)
  rw [ea] at e3'
  show bodyS 10 [false, false, false] g__law_units _ = _
  rw [bodyS, g__law_units, show startS 10 [false, false, false] [rowsD cs, rowsD ns, .int s] = [.im (rowsD cs), .im (rowsD ns), .im (.int s), .no, .no, .no, .no, .no, .no, .no] from rfl, seq_nx e1, seq_nx e2', seq_nx e3']
  simp [frzS, g__law_units_4, setS, setN, parPP, parNP, parPN, parNN, toO, toB, ifS, retS, exS, appS, extS, dputS, frzS, nxS, vP, vT, cS, op1, op2, gI, addI, subI, mulI, divI, modI, powI, ltI, leI, gtI, geI, minI, maxI, bS, bO, andB, orB, notB, andV, orV, notV, chI, ifE, tupS, lstS, nilA, consA, callS, callK, isiS, lenD, intD, ixD, atR, dgetD, big, plS, plainD, rowsD]
end Cb
namespace Cb
open PySem PySem.Spec PyProof.Rows L2
/-! ### what lacks, what lapses -/
def lkI (l : List (Int × Int)) (w : Int) : Option Int := (l.find? fun p => decide (p.1 = w)).map (·.2)
theorem look_lk : ∀ (l : List (Int × Int)) (w : Int), dlook (l.map kvD) (.inl w) = (lkI l w).map .int
  | [], w => rfl
  | p :: r, w => by
    have ih := look_lk r w
    unfold dlook lkI at ih ⊢
    by_cases h : p.1 = w
    · simp [kvD, keyOf_int, h]
    · have : ¬ (Sum.inl p.1 : Key) = .inl w := fun z => h (by injection z)
      rw [List.map_cons, List.find?_cons_of_neg (by simp [kvD, keyOf_int, this]), List.find?_cons_of_neg (by simp [h])]
      exact ih
theorem put_lk : ∀ (l : List (Int × Int)) (w v : Int), ∃ l', dput (l.map kvD) (.inl w) (.int v) = l'.map kvD ∧ (∀ x, lkI l' x = if x = w then some v else lkI l x) ∧ l'.length ≤ l.length + 1 := by
  intro l w v
  by_cases h : w ∈ l.map (·.1)
  · refine ⟨l.map fun p => if p.1 = w then (p.1, v) else p, ?_, fun x => ?_, by simp⟩
    · unfold dput
      rw [if_pos (by
        obtain ⟨p, hp, rfl⟩ := List.mem_map.mp h
        exact List.any_eq_true.mpr ⟨kvD p, List.mem_map.mpr ⟨p, hp, rfl⟩, by simp [kvD, keyOf_int]⟩)]
      rw [List.map_map, List.map_map]
      refine List.map_congr_left fun p _ => ?_
      by_cases e : p.1 = w
      · simp [kvD, keyOf_int, e]
      · have : ¬ (Sum.inl p.1 : Key) = .inl w := fun z => e (by injection z)
        simp [kvD, keyOf_int, e, this]
    · have key : ∀ l : List (Int × Int), w ∈ l.map (·.1) ∨ x ≠ w → lkI (l.map fun p => if p.1 = w then (p.1, v) else p) x = if x = w then some v else lkI l x := by
        intro l
        induction l with
        | nil =>
          intro z
          rcases z with z | z
          · simp at z
          · simp [lkI, z]
        | cons p r ih =>
          intro z
          unfold lkI at ih ⊢
          rw [List.map_cons]
          by_cases e : p.1 = w
          · rw [if_pos e]
            by_cases ex : x = w
            · rw [if_pos ex, List.find?_cons_of_pos (by simp [e, ex])]
              rfl
            · have ih := ih (.inr ex)
              rw [if_neg ex] at ih ⊢
              rw [List.find?_cons_of_neg (by simp [e]; exact fun z => ex z.symm), List.find?_cons_of_neg (by simp [e]; exact fun z => ex z.symm)]
              exact ih
          · rw [if_neg e]
            by_cases ex : p.1 = x
            · have : ¬ x = w := fun z => e (ex.trans z)
              rw [if_neg this, List.find?_cons_of_pos (by simp [ex]), List.find?_cons_of_pos (by simp [ex])]
            · have z' : w ∈ r.map (·.1) ∨ x ≠ w := by
                rcases z with z | z
                · rw [List.map_cons] at z
                  rcases List.mem_cons.mp z with z | z
                  · exact absurd z.symm e
                  · exact .inl z
                · exact .inr z
              rw [List.find?_cons_of_neg (by simp [ex]), List.find?_cons_of_neg (by simp [ex])]
              exact ih z'
      exact key l (.inl h)
  · refine ⟨l ++ [(w, v)], dput_new h, fun x => ?_, by simp⟩
    unfold lkI
    rw [List.find?_append]
    by_cases ex : x = w
    · subst ex
      rw [if_pos rfl, List.find?_eq_none.mpr (fun p hp => by simp; exact fun z => h (by rw [← z]; exact List.mem_map.mpr ⟨p, hp, rfl⟩))]
      simp
    · rw [if_neg ex]
      cases l.find? (fun p => decide (p.1 = x)) with
      | some q => simp
      | none =>
        simp
        exact fun z => absurd z.symm ex
/-- what is missing of each need -/
def lkR (ns : List (Int × Int)) (R : List (Int × Int × Int)) : List (Int × Int) := (ns.filter fun p => decide (gotW R p.1 < p.2)).map fun p => (p.1, p.2 - gotW R p.1)
theorem dgx_run {l : List (Int × Int)} {f g : ES} {ds : DS} {w : Int} (i : Nat) (h1 : vT i ds = .ok (dI l)) (h2 : f ds = .ok (.int w)) : dgxS (vT i) f (cS (.int 0)) ds = .ok (.int ((lkI l w).getD 0)) := by
  unfold dgxS
  rw [h1, R.ok_bind, dI]
  simp only [h2, R.ok_bind, ob_dI, if_true, find_int, look_lk, cS]
  cases lkI l w <;> rfl
theorem lacks_go {d0 d1 : Sl} : ∀ (post pre : List (Int × Int × Int)) (l : List (Int × Int)) (x y z t6 : Sl), (∀ w, (lkI l w).getD 0 = gotW pre w) → l.length + post.length ≤ 10000 →
    ∃ l' x' y' z', (∀ w, (lkI l' w).getD 0 = gotW (pre ++ post) w) ∧ forGo (.tr 3 4 5) g_lacks_of_2B (post.map row3D) [d0, d1, .ow (dI l), x, y, z, t6] = .nx [d0, d1, .ow (dI l'), x', y', z', t6]
  | [], pre, l, x, y, z, t6, h, _ => ⟨l, x, y, z, by simpa using h, by simp [forGo]⟩
  | (w, o, k) :: r, pre, l, x, y, z, t6, h, hl => by
    simp only [List.length_cons] at hl
    obtain ⟨l', e1, e2, e3⟩ := put_lk l w ((lkI l w).getD 0 + k)
    have hb : l.length ≤ 1000000 := by omega
    have e : g_lacks_of_2B [d0, d1, .ow (dI l), .im (.int w), .im (.int o), .im (.int k), t6] = .nx [d0, d1, .ow (dI l'), .im (.int w), .im (.int o), .im (.int k), t6] := by
      have dg := dgx_run (l := l) (f := vP 3) (g := vP 3) (ds := [d0, d1, .ow (dI l), .im (.int w), .im (.int o), .im (.int k), t6]) (w := w) 2 (by simp [vT]) (by simp [vP])
      simp only [dI] at dg
      simp only [g_lacks_of_2B, g_lacks_of_2b_1, dputS, op2, dg, R.ok_bind, vP, List.getElem?_cons_zero, List.getElem?_cons_succ, addI, gI, toO, dI, keyOf_int, e1, List.length_map, big, if_pos hb, List.set_cons_zero, List.set_cons_succ]
    obtain ⟨l2, x', y', z', k1, k2⟩ := lacks_go (d0 := d0) (d1 := d1) r (pre ++ [(w, o, k)]) l' (.im (.int w)) (.im (.int o)) (.im (.int k)) t6 (fun v => by
      rw [e2]
      have hg : gotW (pre ++ [(w, o, k)]) v = gotW pre v + if w = v then k else 0 := by
        unfold gotW
        rw [List.filter_append, List.map_append, List.sum_append]
        by_cases e : w = v
        · simp [e]
        · simp [e]
      rw [hg, ← h v]
      by_cases e : v = w
      · subst e
        simp
      · have : ¬ w = v := fun z => e z.symm
        simp [e, this]) (by omega)
    refine ⟨l2, x', y', z', by simpa using k1, ?_⟩
    rw [List.map_cons, forGo_cons (ds1 := [d0, d1, .ow (dI l), .im (.int w), .im (.int o), .im (.int k), t6]) rfl e, k2]
theorem V_lacks (ns : List (Int × Int)) (Rs : List (Int × Int × Int)) (hl : Rs.length ≤ 9000) (hn : ns.length ≤ 1000) : V_lacks_of [rowsD ns, .list (Rs.map row3D)] = .ok (rowsD (lkR ns Rs)) := by
  have e1 : g_lacks_of_1 [.im (rowsD ns), .im (.list (Rs.map row3D)), .no, .no, .no, .no, .no] = .nx [.im (rowsD ns), .im (.list (Rs.map row3D)), .ow (dI []), .no, .no, .no, .no] := by
    simp [g_lacks_of_1, setS, setN, parPP, parNP, parPN, parNN, toO, toB, ifS, retS, exS, appS, extS, dputS, frzS, nxS, vP, vT, cS, op1, op2, gI, addI, subI, mulI, divI, modI, powI, ltI, leI, gtI, geI, minI, maxI, bS, bO, andB, orB, notB, andV, orV, notV, chI, ifE, tupS, lstS, nilA, consA, callS, callK, isiS, lenD, intD, ixD, atR, dgetD, big, plS, plainD, dI]
  obtain ⟨l, x, y, z, hg, e⟩ := lacks_go (d0 := .im (rowsD ns)) (d1 := .im (.list (Rs.map row3D))) Rs [] [] .no .no .no .no (fun w => rfl) (by simp; omega)
  have e2 : g_lacks_of_2 [.im (rowsD ns), .im (.list (Rs.map row3D)), .ow (dI []), .no, .no, .no, .no] = .nx [.im (rowsD ns), .im (.list (Rs.map row3D)), .ow (dI l), x, y, z, .no] := by
    rw [← e]
    simp [g_lacks_of_2, forS, itL, vP]
  have e3 : g_lacks_of_3 [.im (rowsD ns), .im (.list (Rs.map row3D)), .ow (dI l), x, y, z, .no] = .rt (rowsD (lkR ns Rs)) := by
    have q := lcGo_fm (k := .pr 3 6) (ft := bS (op2 gtI (vP 6) (dgxS (vT 2) (vP 3) (cS (.int 0))))) (fe := tupS (consA (vP 3) (consA (op2 subI (vP 6) (dgxS (vT 2) (vP 3) (cS (.int 0)))) nilA))) (ds := wipeD [.im (rowsD ns), .im (.list (Rs.map row3D)), .ow (dI l), x, y, z, .no] [3, 6]) rowD (fun p => decide (gotW Rs p.1 < p.2)) (fun p => rowD (p.1, p.2 - gotW Rs p.1)) (xs := ns) (fun p hp => ⟨_, rfl, by
        have dg := dgx_run (l := l) (f := vP 3) (g := vP 3) (ds := [.im (rowsD ns), .im (.list (Rs.map row3D)), .ow (dI l), .im (.int p.1), y, z, .im (.int p.2)]) (w := p.1) 2 (by simp [vT]) (by simp [vP])
        have hg := hg p.1
        simp only [List.nil_append] at hg
        rw [hg] at dg
        simp [wipeD, bS, op2, vP, dg, gtI, gI, bO], fun _ => by
        have dg := dgx_run (l := l) (f := vP 3) (g := vP 3) (ds := [.im (rowsD ns), .im (.list (Rs.map row3D)), .ow (dI l), .im (.int p.1), y, z, .im (.int p.2)]) (w := p.1) 2 (by simp [vT]) (by simp [vP])
        have hg := hg p.1
        simp only [List.nil_append] at hg
        rw [hg] at dg
        simp [wipeD, tupS, consA, nilA, op2, vP, dg, subI, gI, rowD, big]⟩)
    have hb : ns.length ≤ 1000000 := by omega
    simp only [g_lacks_of_3, retS, lcS, itL, vP, rowsD, List.getElem?_cons_zero, R.ok_bind, List.length_map, big, if_pos hb]
    simp only [rowsD] at q
    rw [q]
    simp [toO, lkR, Function.comp_def]
  show bodyS 7 [false, false] g_lacks_of _ = _
  rw [bodyS, g_lacks_of, show startS 7 [false, false] [rowsD ns, .list (Rs.map row3D)] = [.im (rowsD ns), .im (.list (Rs.map row3D)), .no, .no, .no, .no, .no] from rfl, seq_nx e1, seq_nx e2, e3]
theorem V_lacking_ok {cs ns : List (Int × Int)} {s : Int} (hc : Rows cs) (hn : Rows ns) (h1 : 1 ≤ s) (h2 : s ≤ 4) : V_lacking [rowsD cs, rowsD ns, .int s] = .ok (rowsD (lkR ns (svR s cs ns))) := by
  have l1 := hc.len
  have l2 := hn.len
  have l3 := svR_len s ns cs
  have l4 : cs.length * ns.length ≤ 12 * 12 := Nat.mul_le_mul l1 l2
  simp [V_lacking, bodyS, startS, g_lacking, g_lacking_1, g_lacking_2, seqS, setS, setN, parPP, parNP, parPN, parNN, toO, toB, ifS, retS, exS, appS, extS, dputS, frzS, nxS, vP, vT, cS, op1, op2, gI, addI, subI, mulI, divI, modI, powI, ltI, leI, gtI, geI, minI, maxI, bS, bO, andB, orB, notB, andV, orV, notV, chI, ifE, tupS, lstS, nilA, consA, callS, callK, isiS, lenD, intD, ixD, atR, dgetD, big, plS, plainD, V_looka hc hn h1 h2, V_sv s (rows_pw hc) (show cs.length < 64 by omega) (show ns.length ≤ 100 by omega), V_lacks ns (svR s cs ns) (by omega) (by omega)]
end Cb
namespace Cb
open PySem PySem.Spec PyProof.Rows L2
/-! ### how much is taken, left, lacking: sums -/
def sC (p : Int → Bool) : List (Int × Int) → Int
  | [] => 0
  | (o, a) :: r => (if p o then a else 0) + sC p r
def sR (p : Int → Int → Bool) : List (Int × Int × Int) → Int
  | [] => 0
  | (w, o, k) :: r => (if p w o then k else 0) + sR p r
theorem sC_app (p : Int → Bool) : ∀ a b, sC p (a ++ b) = sC p a + sC p b
  | [], b => by simp [sC]
  | (o, a) :: r, b => by
    have := sC_app p r b
    simp only [List.cons_append, sC, this]
    omega
theorem sR_app (p : Int → Int → Bool) : ∀ a b, sR p (a ++ b) = sR p a + sR p b
  | [], b => by simp [sR]
  | (w, o, a) :: r, b => by
    have := sR_app p r b
    simp only [List.cons_append, sR, this]
    omega
theorem sR_map (p : Int → Int → Bool) (w : Int) : ∀ l : List (Int × Int), sR p (l.map fun x => (w, x)) = sC (p w) l
  | [] => rfl
  | (o, a) :: r => by
    have := sR_map p w r
    simp only [List.map_cons, sR, sC, this]
theorem sR_congr {p q : Int → Int → Bool} : ∀ {R : List (Int × Int × Int)}, (∀ t ∈ R, p t.1 t.2.1 = q t.1 t.2.1) → sR p R = sR q R
  | [], _ => rfl
  | (w, o, k) :: r, h => by
    have ih := sR_congr (R := r) fun t ht => h t (List.mem_cons_of_mem _ ht)
    have h0 : p w o = q w o := h (w, o, k) List.mem_cons_self
    simp only [sR, ih, h0]
theorem sC_zero {p : Int → Bool} : ∀ {l : List (Int × Int)}, (∀ x ∈ l, p x.1 = true → x.2 = 0) → sC p l = 0
  | [], _ => rfl
  | (o, a) :: r, h => by
    have ih := sC_zero (l := r) fun t ht => h t (List.mem_cons_of_mem _ ht)
    simp only [sC, ih]
    split
    · rename_i hp
      have : a = 0 := h (o, a) List.mem_cons_self hp
      omega
    · rfl
theorem sC_nn {p : Int → Bool} : ∀ {l : List (Int × Int)}, (∀ x ∈ l, 0 ≤ x.2) → 0 ≤ sC p l
  | [], _ => by simp [sC]
  | (o, a) :: r, h => by
    have ih := sC_nn (p := p) (l := r) fun t ht => h t (List.mem_cons_of_mem _ ht)
    have h0 : 0 ≤ a := h (o, a) List.mem_cons_self
    simp only [sC]
    split <;> omega
theorem sC_le {p q : Int → Bool} : ∀ {l : List (Int × Int)}, (∀ x ∈ l, 0 ≤ x.2) → (∀ x ∈ l, p x.1 = true → q x.1 = true) → sC p l ≤ sC q l
  | [], _, _ => by simp [sC]
  | (o, a) :: r, h, hp => by
    have ih := sC_le (p := p) (q := q) (l := r) (fun t ht => h t (List.mem_cons_of_mem _ ht)) fun t ht => hp t (List.mem_cons_of_mem _ ht)
    have h0 : 0 ≤ a := h (o, a) List.mem_cons_self
    have h1 : p o = true → q o = true := hp (o, a) List.mem_cons_self
    simp only [sC]
    cases e : p o with
    | false =>
      simp only [Bool.false_eq_true, if_false]
      split <;> omega
    | true =>
      rw [h1 e]
      simp only [if_true]
      omega
theorem sR_le {p q : Int → Int → Bool} : ∀ {l : List (Int × Int × Int)}, (∀ x ∈ l, 0 ≤ x.2.2) → (∀ x ∈ l, p x.1 x.2.1 = true → q x.1 x.2.1 = true) → sR p l ≤ sR q l
  | [], _, _ => by simp [sR]
  | (w, o, a) :: r, h, hp => by
    have ih := sR_le (p := p) (q := q) (l := r) (fun t ht => h t (List.mem_cons_of_mem _ ht)) fun t ht => hp t (List.mem_cons_of_mem _ ht)
    have h0 : 0 ≤ a := h (w, o, a) List.mem_cons_self
    have h1 : p w o = true → q w o = true := hp (w, o, a) List.mem_cons_self
    simp only [sR]
    cases e : p w o with
    | false =>
      simp only [Bool.false_eq_true, if_false]
      split <;> omega
    | true =>
      rw [h1 e]
      simp only [if_true]
      omega
theorem sC_pos {p : Int → Bool} : ∀ {l : List (Int × Int)}, (∀ x ∈ l, 0 ≤ x.2) → ∀ x ∈ l, p x.1 = true → x.2 ≤ sC p l
  | [], _, x, hx, _ => by simp at hx
  | (o, a) :: r, h, x, hx, hp => by
    have h0 : 0 ≤ a := h (o, a) List.mem_cons_self
    have hr : ∀ x ∈ r, 0 ≤ x.2 := fun t ht => h t (List.mem_cons_of_mem _ ht)
    have nn := sC_nn (p := p) hr
    simp only [sC]
    rcases List.mem_cons.mp hx with rfl | hx
    · have hp : p o = true := hp
      rw [if_pos hp]
      show a ≤ _
      omega
    · have := sC_pos hr x hx hp
      split <;> omega
theorem sC_split (p : Int → Bool) : ∀ l : List (Int × Int), sC (fun _ => true) l = sC p l + sC (fun o => !p o) l
  | [] => rfl
  | (o, a) :: r => by
    have := sC_split p r
    simp only [sC, this]
    by_cases h : p o = true
    · simp [h]; omega
    · simp [h]; omega
theorem sR_split (p : Int → Int → Bool) : ∀ l : List (Int × Int × Int), sR (fun _ _ => true) l = sR p l + sR (fun w o => !p w o) l
  | [] => rfl
  | (w, o, a) :: r => by
    have := sR_split p r
    simp only [sR, this]
    by_cases h : p w o = true
    · simp [h]; omega
    · simp [h]; omega
theorem sR_ex {p : Int → Int → Bool} : ∀ {R : List (Int × Int × Int)}, 0 < sR p R → ∃ t ∈ R, p t.1 t.2.1 = true
  | [], h => by simp [sR] at h
  | (w, o, k) :: r, h => by
    simp only [sR] at h
    by_cases e : p w o = true
    · exact ⟨_, List.mem_cons_self, e⟩
    · rw [if_neg e] at h
      obtain ⟨t, ht, hp⟩ := sR_ex (p := p) (R := r) (by omega)
      exact ⟨t, List.mem_cons_of_mem _ ht, hp⟩
/-! ### one week -/
theorem tk_bal (p : Int → Bool) (w s : Int) : ∀ (l : List (Int × Int)) (m : Int), sC p l = sC p (tkL w s l m) + sC p (tkR w s l m)
  | [], m => rfl
  | (o, a) :: r, m => by
    rw [tkL, tkR]
    split
    · have := tk_bal p w s r (m - mn a m)
      simp only [sC, this]
      split <;> omega
    · have := tk_bal p w s r m
      simp only [sC, this]
      omega
theorem mn_le (a n : Int) : mn a n ≤ a ∧ mn a n ≤ n := by
  unfold mn
  split <;> omega
theorem tk_need (w s : Int) : ∀ (l : List (Int × Int)) (m : Int), 0 ≤ m → sC (fun _ => true) (tkR w s l m) = m - tkN w s l m ∧ 0 ≤ tkN w s l m
  | [], m, h => by simp [tkR, tkN, sC, h]
  | (o, a) :: r, m, h => by
    have h1 := mn_le a m
    rw [tkR, tkN]
    split
    · obtain ⟨e1, e2⟩ := tk_need w s r (m - mn a m) (by omega)
      simp only [sC, e1, if_true]
      exact ⟨by omega, e2⟩
    · obtain ⟨e1, e2⟩ := tk_need w s r m h
      exact ⟨e1, e2⟩
theorem tk_good (w s : Int) : ∀ (l : List (Int × Int)) (m : Int), ∀ p ∈ tkR w s l m, gd w s p.1 = true ∧ 1 ≤ p.2 ∧ ∃ a, (p.1, a) ∈ l ∧ 0 < a
  | [], m, p, hp => by simp [tkR] at hp
  | (o, a) :: r, m, p, hp => by
    rw [tkR] at hp
    split at hp
    · rename_i hc
      rcases List.mem_cons.mp hp with rfl | hp
      · have := mn_le a m
        exact ⟨gd_iff.mpr hc.1, by have := hc.2; show 1 ≤ mn a m; omega, a, List.mem_cons_self, by have := hc.2; omega⟩
      · obtain ⟨h1, h2, b, h3, h4⟩ := tk_good w s r _ p hp
        exact ⟨h1, h2, b, List.mem_cons_of_mem _ h3, h4⟩
    · obtain ⟨h1, h2, b, h3, h4⟩ := tk_good w s r _ p hp
      exact ⟨h1, h2, b, List.mem_cons_of_mem _ h3, h4⟩
theorem tkL_sub (w s : Int) : ∀ (l : List (Int × Int)) (m : Int), ∀ p ∈ tkL w s l m, ∃ a, (p.1, a) ∈ l ∧ p.2 ≤ a
  | [], m, p, hp => by simp [tkL] at hp
  | (o, a) :: r, m, p, hp => by
    rw [tkL] at hp
    split at hp
    · rename_i hc
      rcases List.mem_cons.mp hp with rfl | hp
      · exact ⟨a, List.mem_cons_self, by have := hc.2; show a - mn a m ≤ a; omega⟩
      · obtain ⟨b, h3, h4⟩ := tkL_sub w s r _ p hp
        exact ⟨b, List.mem_cons_of_mem _ h3, h4⟩
    · rcases List.mem_cons.mp hp with rfl | hp
      · exact ⟨a, List.mem_cons_self, Int.le_refl _⟩
      · obtain ⟨b, h3, h4⟩ := tkL_sub w s r _ p hp
        exact ⟨b, List.mem_cons_of_mem _ h3, h4⟩
theorem tkN_le0 (w s : Int) : ∀ (l : List (Int × Int)) (m : Int), m ≤ 0 → tkR w s l m = [] ∧ tkN w s l m = m
  | [], m, _ => ⟨rfl, rfl⟩
  | (o, a) :: r, m, h => by
    have := mn_le a m
    rw [tkR, tkN, if_neg (fun z => by have := z.2; omega), if_neg (fun z => by have := z.2; omega)]
    exact tkN_le0 w s r m h
/-- where something lacks, nothing that is good is left -/
theorem tk_f1 (w s : Int) : ∀ (l : List (Int × Int)) (m : Int), 0 < tkN w s l m → ∀ p ∈ tkL w s l m, gd w s p.1 = true → p.2 ≤ 0
  | [], m, _, p, hp, _ => by simp [tkL] at hp
  | (o, a) :: r, m, h, p, hp, hg => by
    rw [tkN] at h
    rw [tkL] at hp
    by_cases hc : (o ≤ w ∧ w < o + s) ∧ 0 < mn a m
    · rw [if_pos hc] at h hp
      rcases List.mem_cons.mp hp with rfl | hp
      · show a - mn a m ≤ 0
        have : 0 < m - mn a m := by
          apply Classical.byContradiction
          intro z
          have := (tkN_le0 w s r (m - mn a m) (by omega)).2
          omega
        unfold mn at this ⊢
        split <;> rename_i q
        · rw [if_pos q] at this; omega
        · omega
      · exact tk_f1 w s r _ h p hp hg
    · rw [if_neg hc] at h hp
      rcases List.mem_cons.mp hp with rfl | hp
      · show a ≤ 0
        have hg := gd_iff.mp hg
        have hm : 0 < m := by
          apply Classical.byContradiction
          intro z
          have := (tkN_le0 w s r m (by omega)).2
          omega
        have : ¬ 0 < mn a m := fun z => hc ⟨hg, z⟩
        unfold mn at this
        split at this <;> omega
      · exact tk_f1 w s r _ h p hp hg
/-- what is taken is no younger than what is left -/
theorem tk_f2 (w s : Int) : ∀ (l : List (Int × Int)) (m : Int), (l.map (·.1)).Pairwise (· < ·) → ∀ p ∈ tkR w s l m, ∀ q ∈ tkL w s l m, 0 < q.2 → gd w s q.1 = true → p.1 ≤ q.1
  | [], m, _, p, hp, _, _, _, _ => by simp [tkR] at hp
  | (o, a) :: r, m, hl, p, hp, q, hq, h0, hg => by
    rw [List.map_cons, List.pairwise_cons] at hl
    rw [tkR] at hp
    rw [tkL] at hq
    have keyL : ∀ m, ∀ q ∈ tkL w s r m, o < q.1 := fun m q hq => by
      obtain ⟨b, h3, h4⟩ := tkL_sub w s r _ q hq
      exact hl.1 _ (List.mem_map.mpr ⟨_, h3, rfl⟩)
    by_cases hc : (o ≤ w ∧ w < o + s) ∧ 0 < mn a m
    · rw [if_pos hc] at hp hq
      rcases List.mem_cons.mp hp with rfl | hp
      · rcases List.mem_cons.mp hq with rfl | hq
        · exact Int.le_refl _
        · have := keyL _ q hq
          show o ≤ q.1
          omega
      · rcases List.mem_cons.mp hq with rfl | hq
        · exfalso
          have h0 : 0 < a - mn a m := h0
          have : m - mn a m ≤ 0 := by
            unfold mn at h0 ⊢
            split <;> rename_i z
            · omega
            · rw [if_neg z] at h0; omega
          rw [(tkN_le0 w s r _ this).1] at hp
          simp at hp
        · exact tk_f2 w s r _ hl.2 p hp q hq h0 hg
    · rw [if_neg hc] at hp hq
      rcases List.mem_cons.mp hq with rfl | hq
      · exfalso
        have hg := gd_iff.mp hg
        have h0 : 0 < a := h0
        have : ¬ 0 < mn a m := fun z => hc ⟨hg, z⟩
        have : m ≤ 0 := by
          unfold mn at this
          split at this <;> omega
        rw [(tkN_le0 w s r _ this).1] at hp
        simp at hp
      · exact tk_f2 w s r _ hl.2 p hp q hq h0 hg
/-! ### all weeks -/
theorem sv_bal (p : Int → Bool) (s : Int) : ∀ (ns l : List (Int × Int)), sC p l = sC p (svL s l ns) + sR (fun _ o => p o) (svR s l ns)
  | [], l => by simp [svL, svR, sR]
  | (w, m) :: r, l => by
    have ih := sv_bal p s r (tkL w s l m)
    have e := tk_bal p w s l m
    have e2 : sR (fun _ o => p o) ((tkR w s l m).map fun x => (w, x)) = sC p (tkR w s l m) := sR_map _ w _
    rw [svL, svR, sR_app, e2, e, ih]
    omega
theorem svL_sub (s : Int) : ∀ (ns l : List (Int × Int)), ∀ p ∈ svL s l ns, ∃ a, (p.1, a) ∈ l ∧ p.2 ≤ a
  | [], l, p, hp => ⟨p.2, hp, Int.le_refl _⟩
  | (w, m) :: r, l, p, hp => by
    obtain ⟨a, h1, h2⟩ := svL_sub s r _ p hp
    obtain ⟨b, h3, h4⟩ := tkL_sub w s l m _ h1
    exact ⟨b, h3, by have h4 : a ≤ b := h4; omega⟩
theorem sv_good (s : Int) : ∀ (ns l : List (Int × Int)), ∀ t ∈ svR s l ns, gd t.1 s t.2.1 = true ∧ 1 ≤ t.2.2 ∧ t.1 ∈ ns.map (·.1) ∧ ∃ a, (t.2.1, a) ∈ l ∧ 0 < a
  | [], l, t, ht => by simp [svR] at ht
  | (w, m) :: r, l, t, ht => by
    rw [svR] at ht
    rcases List.mem_append.mp ht with ht | ht
    · obtain ⟨p, hp, rfl⟩ := List.mem_map.mp ht
      obtain ⟨h1, h2, h3⟩ := tk_good w s l m p hp
      exact ⟨h1, h2, by simp, h3⟩
    · obtain ⟨h1, h2, h3, a, h4, h5⟩ := sv_good s r _ t ht
      obtain ⟨b, h6, h7⟩ := tkL_sub w s l m _ h4
      exact ⟨h1, h2, List.mem_cons_of_mem _ h3, b, h6, by have h7 : a ≤ b := h7; omega⟩
/-- what lacks, week by week -/
def lk2 (s : Int) : List (Int × Int) → List (Int × Int) → List (Int × Int)
  | _, [] => []
  | l, (w, m) :: r => if 0 < tkN w s l m then (w, tkN w s l m) :: lk2 s (tkL w s l m) r else lk2 s (tkL w s l m) r
theorem lk2_keys (s : Int) : ∀ (ns l : List (Int × Int)), ∀ p ∈ lk2 s l ns, p.1 ∈ ns.map (·.1) ∧ 0 < p.2
  | [], l, p, hp => by simp [lk2] at hp
  | (w, m) :: r, l, p, hp => by
    rw [lk2] at hp
    split at hp
    · rename_i h
      rcases List.mem_cons.mp hp with rfl | hp
      · exact ⟨by simp, h⟩
      · exact ⟨List.mem_cons_of_mem _ (lk2_keys s r _ p hp).1, (lk2_keys s r _ p hp).2⟩
    · exact ⟨List.mem_cons_of_mem _ (lk2_keys s r _ p hp).1, (lk2_keys s r _ p hp).2⟩
theorem lk2_up (s : Int) : ∀ (ns l : List (Int × Int)), (ns.map (·.1)).Pairwise (· < ·) → ((lk2 s l ns).map (·.1)).Pairwise (· < ·)
  | [], l, _ => .nil
  | (w, m) :: r, l, h => by
    rw [List.map_cons, List.pairwise_cons] at h
    have ih := lk2_up s r (tkL w s l m) h.2
    rw [lk2]
    split
    · rw [List.map_cons, List.pairwise_cons]
      refine ⟨fun x hx => ?_, ih⟩
      obtain ⟨p, hp, rfl⟩ := List.mem_map.mp hx
      exact h.1 _ (lk2_keys s r _ p hp).1
    · exact ih
theorem sv_need (q : Int → Bool) (s : Int) : ∀ (ns l : List (Int × Int)), (∀ p ∈ ns, 0 ≤ p.2) → sC q ns = sR (fun w _ => q w) (svR s l ns) + sC q (lk2 s l ns)
  | [], l, _ => rfl
  | (w, m) :: r, l, h => by
    have ih := sv_need q s r (tkL w s l m) fun p hp => h p (List.mem_cons_of_mem _ hp)
    obtain ⟨e1, e2⟩ := tk_need w s l m (h (w, m) List.mem_cons_self)
    have e3 : sC (fun _ => q w) (tkR w s l m) = if q w then m - tkN w s l m else 0 := by
      cases hq : q w with
      | true => simpa using e1
      | false => exact sC_zero fun _ _ z => by cases z
    rw [svR, lk2, sR_app, sR_map, e3]
    simp only [sC, ih]
    split
    · split
      · rename_i hq _
        simp only [sC, hq, if_true]
        omega
      · omega
    · rename_i hq
      split
      · simp only [sC, if_neg hq]
        omega
      · omega
theorem gotW_app (a b : List (Int × Int × Int)) (w : Int) : gotW (a ++ b) w = gotW a w + gotW b w := by
  unfold gotW
  rw [List.filter_append, List.map_append, List.sum_append]
theorem gotW_sC (w : Int) : ∀ l : List (Int × Int), gotW (l.map fun x => (w, x)) w = sC (fun _ => true) l
  | [] => rfl
  | p :: r => by
    have := gotW_sC w r
    rw [List.map_cons, gotW_cons, this]
    simp [sC]
theorem gotW_no {R : List (Int × Int × Int)} {w : Int} (h : ∀ t ∈ R, t.1 ≠ w) : gotW R w = 0 := by
  unfold gotW
  rw [List.filter_eq_nil_iff.mpr (fun t ht => by simpa using h t ht)]
  rfl
theorem lkR_lk2 (s : Int) : ∀ (ns l : List (Int × Int)), (ns.map (·.1)).Pairwise (· < ·) → (∀ p ∈ ns, 0 ≤ p.2) → lkR ns (svR s l ns) = lk2 s l ns
  | [], l, _, _ => rfl
  | (w, m) :: r, l, h, h0 => by
    rw [List.map_cons, List.pairwise_cons] at h
    have ih := lkR_lk2 s r (tkL w s l m) h.2 fun p hp => h0 p (List.mem_cons_of_mem _ hp)
    obtain ⟨e1, e2⟩ := tk_need w s l m (h0 (w, m) List.mem_cons_self)
    have g1 : gotW (svR s l ((w, m) :: r)) w = m - tkN w s l m := by
      rw [svR, gotW_app, gotW_sC, e1, gotW_no fun t ht z => ?_]
      · omega
      · have := h.1 _ ((sv_good s r _ t ht).2.2.1)
        omega
    have g2 : ∀ p ∈ r, gotW (svR s l ((w, m) :: r)) p.1 = gotW (svR s (tkL w s l m) r) p.1 := fun p hp => by
      rw [svR, gotW_app, gotW_no fun t ht z => ?_]
      · omega
      · obtain ⟨x, hx, rfl⟩ := List.mem_map.mp ht
        have := h.1 _ (List.mem_map.mpr ⟨p, hp, rfl⟩)
        have z : w = p.1 := z
        omega
    have e : lkR r (svR s l ((w, m) :: r)) = lkR r (svR s (tkL w s l m) r) := by
      unfold lkR
      rw [List.filter_congr fun p hp => by rw [g2 p hp]]
      exact List.map_congr_left fun p hp => by rw [g2 p (List.mem_filter.mp hp).1]
    rw [lk2, ← ih, ← e]
    unfold lkR
    rw [List.filter_cons]
    have : decide (gotW (svR s l ((w, m) :: r)) w < m) = decide (0 < tkN w s l m) := by
      rw [g1]
      by_cases z : 0 < tkN w s l m
      · rw [decide_eq_true z, decide_eq_true (by omega)]
      · rw [decide_eq_false z, decide_eq_false (by omega)]
    simp only [this, decide_eq_true_eq]
    split
    · rw [List.map_cons, g1]
      have : m - (m - tkN w s l m) = tkN w s l m := by omega
      rw [this]
    · rfl
theorem sv_f1 (s : Int) : ∀ (ns l : List (Int × Int)), (ns.map (·.1)).Pairwise (· < ·) → ∀ p ∈ lk2 s l ns, (∀ c ∈ svL s l ns, gd p.1 s c.1 = true → c.2 ≤ 0) ∧ ∀ t ∈ svR s l ns, p.1 < t.1 → gd p.1 s t.2.1 = false
  | [], l, _, p, hp => by simp [lk2] at hp
  | (w, m) :: r, l, h, p, hp => by
    rw [List.map_cons, List.pairwise_cons] at h
    have rest : ∀ p ∈ lk2 s (tkL w s l m) r, (∀ c ∈ svL s l ((w, m) :: r), gd p.1 s c.1 = true → c.2 ≤ 0) ∧ ∀ t ∈ svR s l ((w, m) :: r), p.1 < t.1 → gd p.1 s t.2.1 = false := fun p hp => by
      obtain ⟨i1, i2⟩ := sv_f1 s r _ h.2 p hp
      refine ⟨i1, fun t ht hlt => ?_⟩
      rw [svR] at ht
      rcases List.mem_append.mp ht with ht | ht
      · obtain ⟨x, hx, rfl⟩ := List.mem_map.mp ht
        have := h.1 _ (lk2_keys s r _ p hp).1
        have hlt : p.1 < w := hlt
        omega
      · exact i2 t ht hlt
    rw [lk2] at hp
    split at hp
    · rename_i hN
      rcases List.mem_cons.mp hp with rfl | hp
      · have f1 := tk_f1 w s l m hN
        refine ⟨fun c hc hg => ?_, fun t ht hlt => ?_⟩
        · obtain ⟨a, h1, h2⟩ := svL_sub s r _ c hc
          have := f1 _ h1 hg
          have this : a ≤ 0 := this
          omega
        · rw [svR] at ht
          rcases List.mem_append.mp ht with ht | ht
          · obtain ⟨x, hx, rfl⟩ := List.mem_map.mp ht
            have hlt : w < w := hlt
            omega
          · obtain ⟨_, _, _, a, h4, h5⟩ := sv_good s r _ t ht
            cases hg : gd w s t.2.1 with
            | false => rfl
            | true =>
              have := f1 _ h4 hg
              have this : a ≤ 0 := this
              omega
      · exact rest p hp
    · exact rest p hp
theorem sv_f2 (s : Int) : ∀ (ns l : List (Int × Int)), (l.map (·.1)).Pairwise (· < ·) → ∀ t ∈ svR s l ns, ∀ c ∈ svL s l ns, 0 < c.2 → gd t.1 s c.1 = true → t.2.1 ≤ c.1
  | [], l, _, t, ht, _, _, _, _ => by simp [svR] at ht
  | (w, m) :: r, l, h, t, ht, c, hc, h0, hg => by
    rw [svR] at ht
    rcases List.mem_append.mp ht with ht | ht
    · obtain ⟨x, hx, rfl⟩ := List.mem_map.mp ht
      obtain ⟨a, h1, h2⟩ := svL_sub s r _ c hc
      exact tk_f2 w s l m h x hx (c.1, a) h1 (by show 0 < a; omega) hg
    · exact sv_f2 s r _ (by rw [tkL_keys]; exact h) t ht c hc h0 hg
end Cb
namespace Cb
open PySem PySem.Spec PyProof.Rows L2
/-! ### stretches that nothing widens -/
abbrev Rw := Int × Int × Int
def tch (s f w o : Int) : Bool := decide (o ≤ w) && decide (f < o + s)
theorem tch_iff {s f w o : Int} : tch s f w o = true ↔ o ≤ w ∧ f < o + s := by simp [tch]
def lst (xs : List Int) (f : Int) : Int := xs.foldl (fun m k => if k < m then k else m) f
theorem lst_le (xs : List Int) (f : Int) : lst xs f ≤ f ∧ (∀ y ∈ xs, lst xs f ≤ y) ∧ (lst xs f = f ∨ lst xs f ∈ xs) := by
  obtain ⟨h1, h2, h3⟩ := least_fold xs f
  exact ⟨h2, h3, h1⟩
def wdF (R : List Rw) (s w f : Int) : Int := lst ((R.filter fun t => tch s f w t.2.1).map (·.1)) f
def rn1 (s w : Int) (g : Int) (t : Rw) : Int := if tch s g w t.2.1 = true then (if t.1 < g then t.1 else g) else g
def rnF (R : List Rw) (s w f : Int) : Int := R.foldl (rn1 s w) f
def Cl (R : List Rw) (s w f : Int) : Prop := ∀ t ∈ R, t.2.1 ≤ w → f < t.2.1 + s → f ≤ t.1
/-- a step towards the stretch -/
structure Stp1 (R : List Rw) (s w : Int) (h : Int → Int) : Prop where
  le : ∀ f, h f ≤ f
  at_ : ∀ f, h f = f ∨ h f ∈ R.map (·.1)
  fix : ∀ f, h f = f → Cl R s w f
  ge : ∀ g f, Cl R s w g → g ≤ f → g ≤ h f
theorem wd_stp (R : List Rw) (s w : Int) : Stp1 R s w (wdF R s w) := by
  refine ⟨fun f => (lst_le _ f).1, fun f => ?_, fun f e t ht h1 h2 => ?_, fun g f hg hgf => ?_⟩
  · rcases (lst_le ((R.filter fun t => tch s f w t.2.1).map (·.1)) f).2.2 with h | h
    · exact .inl h
    · obtain ⟨t, ht, e⟩ := List.mem_map.mp h
      exact .inr (List.mem_map.mpr ⟨t, (List.mem_filter.mp ht).1, e⟩)
  · have := (lst_le ((R.filter fun t => tch s f w t.2.1).map (·.1)) f).2.1 t.1 (List.mem_map.mpr ⟨t, List.mem_filter.mpr ⟨ht, tch_iff.mpr ⟨h1, h2⟩⟩, rfl⟩)
    have e : lst ((R.filter fun t => tch s f w t.2.1).map (·.1)) f = f := e
    omega
  · rcases (lst_le ((R.filter fun t => tch s f w t.2.1).map (·.1)) f).2.2 with h | h
    · have h : wdF R s w f = f := h
      omega
    · obtain ⟨t, ht, e⟩ := List.mem_map.mp h
      have hm := List.mem_filter.mp ht
      have ht2 := tch_iff.mp hm.2
      have := hg t hm.1 ht2.1 (by omega)
      have e : t.1 = wdF R s w f := e
      omega
theorem rn_stp (R : List Rw) (s w : Int) : Stp1 R s w (rnF R s w) := by
  have le1 : ∀ g t, rn1 s w g t ≤ g := fun g t => by
    unfold rn1
    split
    · split <;> omega
    · omega
  have le : ∀ (R : List Rw) f, rnF R s w f ≤ f := by
    intro R
    induction R with
    | nil => intro f; exact Int.le_refl _
    | cons t r ih =>
      intro f
      have := ih (rn1 s w f t)
      have := le1 f t
      show rnF r s w (rn1 s w f t) ≤ f
      omega
  refine ⟨le R, ?_, ?_, ?_⟩
  · induction R with
    | nil => intro f; exact .inl rfl
    | cons t r ih =>
      intro f
      show rnF r s w (rn1 s w f t) = f ∨ rnF r s w (rn1 s w f t) ∈ _
      rcases ih (rn1 s w f t) with h | h
      · rw [h]
        unfold rn1
        split
        · split
          · exact .inr (by simp)
          · exact .inl rfl
        · exact .inl rfl
      · exact .inr (List.mem_cons_of_mem _ h)
  · induction R with
    | nil => intro f _ t ht; simp at ht
    | cons t r ih =>
      intro f e
      have e : rnF r s w (rn1 s w f t) = f := e
      have h1 := le r (rn1 s w f t)
      have h2 := le1 f t
      have e2 : rn1 s w f t = f := by omega
      rw [e2] at e
      have ih := ih f e
      intro x hx hx1 hx2
      rcases List.mem_cons.mp hx with rfl | hx
      · unfold rn1 at e2
        rw [if_pos (tch_iff.mpr ⟨hx1, hx2⟩)] at e2
        split at e2 <;> omega
      · exact ih x hx hx1 hx2
  · induction R with
    | nil => intro g f _ h; exact h
    | cons t r ih =>
      intro g f hg h
      refine ih g (rn1 s w f t) (fun x hx => hg x (List.mem_cons_of_mem _ hx)) ?_
      unfold rn1
      split
      · rename_i ht
        have ht := tch_iff.mp ht
        have := hg t List.mem_cons_self ht.1 (by omega)
        split <;> omega
      · exact h
def itF (h : Int → Int) : Nat → Int → Int
  | 0, f => f
  | n + 1, f => itF h n (h f)
theorem it_fix {h : Int → Int} {f : Int} (e : h f = f) : ∀ n, itF h n f = f
  | 0 => rfl
  | n + 1 => by rw [itF, e, it_fix e n]
theorem it_le {R : List Rw} {s w : Int} {h : Int → Int} (H : Stp1 R s w h) : ∀ n f, itF h n f ≤ f
  | 0, f => Int.le_refl _
  | n + 1, f => by
    have := it_le H n (h f)
    have := H.le f
    rw [itF]
    omega
theorem it_ge {R : List Rw} {s w : Int} {h : Int → Int} (H : Stp1 R s w h) {g : Int} (hg : Cl R s w g) : ∀ n f, g ≤ f → g ≤ itF h n f
  | 0, f, e => e
  | n + 1, f, e => it_ge H hg n (h f) (H.ge g f hg e)
def mu (ws : List Int) (f : Int) : Nat := ws.countP fun x => decide (x < f)
theorem mu_lt {ws : List Int} : ∀ {a b : Int}, a < b → a ∈ ws → mu ws a < mu ws b := by
  intro a b h m
  unfold mu
  induction ws with
  | nil => simp at m
  | cons x r ih =>
    rw [List.countP_cons, List.countP_cons]
    have mono : r.countP (fun x => decide (x < a)) ≤ r.countP fun x => decide (x < b) := List.countP_mono_left fun x _ hx => by simp at hx ⊢; omega
    rcases List.mem_cons.mp m with rfl | m
    · simp [h]
      omega
    · have ih := ih m
      by_cases h1 : x < a
      · have h2 : x < b := by omega
        simp [h1, h2]
        exact ih
      · simp [h1]
        omega
theorem it_end {R : List Rw} {s w : Int} {h : Int → Int} (H : Stp1 R s w h) {ws : List Int} (hw : ∀ x ∈ R.map (·.1), x ∈ ws) : ∀ n f, mu ws f ≤ n → h (itF h n f) = itF h n f
  | 0, f, e => by
    rcases H.at_ f with h1 | h1
    · exact h1
    · have h2 := H.le f
      apply Classical.byContradiction
      intro z
      have z : ¬ h f = f := z
      have := mu_lt (b := f) (by omega) (hw _ h1)
      omega
  | n + 1, f, e => by
    rw [itF]
    by_cases hf : h f = f
    · rw [hf, it_fix hf, hf]
    · rcases H.at_ f with h1 | h1
      · exact absurd h1 hf
      · have h2 := H.le f
        have := mu_lt (b := f) (by omega) (hw _ h1)
        exact it_end H hw n (h f) (by omega)
/-- where the stretch round w begins -/
def clW (R : List Rw) (s w : Int) : Int := itF (wdF R s w) 20 w
theorem mu_len (ws : List Int) (f : Int) : mu ws f ≤ ws.length := List.countP_le_length
section
variable {R : List Rw} {s w : Int} {ws : List Int} (hw : ∀ x ∈ R.map (·.1), x ∈ ws) (hl : ws.length ≤ 20)
theorem cl_le : clW R s w ≤ w := it_le (wd_stp R s w) 20 w
include hw hl
theorem cl_fix : wdF R s w (clW R s w) = clW R s w := it_end (wd_stp R s w) hw 20 w (Nat.le_trans (mu_len ws w) hl)
theorem cl_cl : Cl R s w (clW R s w) := (wd_stp R s w).fix _ (cl_fix hw hl)
theorem cl_it (n : Nat) (hn : mu ws w ≤ n) : itF (wdF R s w) n w = clW R s w := by
  have h1 := cl_cl (w := w) (s := s) hw hl
  have h2 := (wd_stp R s w).fix _ (it_end (wd_stp R s w) hw n w hn)
  have a := it_ge (wd_stp R s w) h1 n w cl_le
  have b := it_ge (wd_stp R s w) h2 20 w (it_le (wd_stp R s w) n w)
  have b : itF (wdF R s w) n w ≤ clW R s w := b
  omega
theorem rn_it (n : Nat) (hn : 20 ≤ n) : itF (rnF R s w) n w = clW R s w := by
  have h1 := cl_cl (w := w) (s := s) hw hl
  have h2 := (rn_stp R s w).fix _ (it_end (rn_stp R s w) hw n w (by have := mu_len ws w; omega))
  have a := it_ge (rn_stp R s w) h1 n w cl_le
  have b := it_ge (wd_stp R s w) h2 20 w (it_le (rn_stp R s w) n w)
  have b : itF (rnF R s w) n w ≤ clW R s w := b
  omega
end
/-! ### stretches of a serving: no row leads out, nothing is left -/
structure Gd (R : List Rw) (L : List (Int × Int)) (s : Int) (p : Int × Int) : Prop where
  ord : p.1 ≤ p.2
  cl : ∀ t ∈ R, t.2.1 ≤ p.2 → p.1 < t.2.1 + s → p.1 ≤ t.1 ∧ t.1 ≤ p.2
  nl : ∀ c ∈ L, c.1 ≤ p.2 → p.1 < c.1 + s → c.2 ≤ 0
theorem Gd.join {R : List Rw} {L : List (Int × Int)} {s : Int} {p q : Int × Int} (hp : Gd R L s p) (hq : Gd R L s q) (s0 : 0 ≤ s) (h1 : p.2 < q.2) (h2 : q.1 ≤ p.2) : Gd R L s (if p.1 < q.1 then p.1 else q.1, q.2) := by
  have o1 := hp.ord
  have o2 := hq.ord
  split
  · rename_i hlt
    refine ⟨by show p.1 ≤ q.2; omega, fun t ht a b => ?_, fun c hc a b => ?_⟩
    · have a : t.2.1 ≤ q.2 := a
      have b : p.1 < t.2.1 + s := b
      show p.1 ≤ t.1 ∧ t.1 ≤ q.2
      by_cases z : q.1 < t.2.1 + s
      · have := hq.cl t ht a z
        omega
      · by_cases y : t.2.1 ≤ p.2
        · have := hp.cl t ht y b
          omega
        · omega
    · have a : c.1 ≤ q.2 := a
      have b : p.1 < c.1 + s := b
      by_cases z : q.1 < c.1 + s
      · exact hq.nl c hc a z
      · by_cases y : c.1 ≤ p.2
        · exact hp.nl c hc y b
        · omega
  · exact ⟨hq.ord, hq.cl, hq.nl⟩
theorem gd_round {s : Int} {ns l : List (Int × Int)} (hn : (ns.map (·.1)).Pairwise (· < ·)) (hc : (l.map (·.1)).Pairwise (· < ·)) (h20 : ns.length ≤ 20) {p : Int × Int} (hp : p ∈ lk2 s l ns) :
    Gd (svR s l ns) (svL s l ns) s (clW (svR s l ns) s p.1, p.1) ∧ ∀ t ∈ svR s l ns, t.2.1 ≤ p.1 → t.1 ≤ p.1 := by
  obtain ⟨f1, f1'⟩ := sv_f1 s ns l hn p hp
  have f2 := sv_f2 s ns l hc
  have good := sv_good s ns l
  have hw : ∀ x ∈ (svR s l ns).map (·.1), x ∈ ns.map (·.1) := fun x hx => by
    obtain ⟨t, ht, rfl⟩ := List.mem_map.mp hx
    exact (good t ht).2.2.1
  have up : ∀ t ∈ svR s l ns, t.2.1 ≤ p.1 → t.1 ≤ p.1 := fun t ht h => by
    apply Classical.byContradiction
    intro z
    have g1 := gd_iff.mp (good t ht).1
    have := f1' t ht (by omega)
    rw [gd_iff.mpr ⟨h, by omega⟩] at this
    cases this
  have hcl := cl_cl (R := svR s l ns) (s := s) (w := p.1) hw (by simpa using h20)
  have nl : ∀ n f, f ≤ p.1 → (∀ c ∈ svL s l ns, c.1 ≤ p.1 → f < c.1 + s → c.2 ≤ 0) → ∀ c ∈ svL s l ns, c.1 ≤ p.1 → itF (wdF (svR s l ns) s p.1) n f < c.1 + s → c.2 ≤ 0 := by
    intro n
    induction n with
    | zero => intro f _ h; exact h
    | succ n ih =>
      intro f hf h
      refine ih _ (by have := (wd_stp (svR s l ns) s p.1).le f; omega) fun c hc h1 h2 => ?_
      by_cases z : f < c.1 + s
      · exact h c hc h1 z
      · rcases (lst_le (((svR s l ns).filter fun t => tch s f p.1 t.2.1).map (·.1)) f).2.2 with e | e
        · have e : wdF (svR s l ns) s p.1 f = f := e
          omega
        · obtain ⟨t, ht, e⟩ := List.mem_map.mp e
          have e : t.1 = wdF (svR s l ns) s p.1 f := e
          have hm := List.mem_filter.mp ht
          have ht2 := tch_iff.mp hm.2
          have g1 := gd_iff.mp (good t hm.1).1
          apply Classical.byContradiction
          intro y
          have := f2 t hm.1 c hc (by omega) (gd_iff.mpr ⟨by omega, by omega⟩)
          omega
  refine ⟨⟨cl_le, fun t ht a b => ⟨hcl t ht a b, up t ht a⟩, fun c hc a b => ?_⟩, up⟩
  exact nl 20 p.1 (Int.le_refl _) (fun c hc a b => f1 c hc (gd_iff.mpr ⟨a, b⟩)) c hc a b
/-- what is needed in such a stretch, less what is good there, lacks there -/
theorem gd_sum {s : Int} {ns l : List (Int × Int)} (h0 : ∀ p ∈ ns, 0 ≤ p.2) (h1 : ∀ p ∈ l, 0 ≤ p.2) {p : Int × Int} (g : Gd (svR s l ns) (svL s l ns) s p) :
    sC (fun w => decide (p.1 ≤ w) && decide (w ≤ p.2)) ns - sC (tch s p.1 p.2) l = sC (fun w => decide (p.1 ≤ w) && decide (w ≤ p.2)) (lk2 s l ns) := by
  have a := sv_bal (tch s p.1 p.2) s ns l
  have b := sv_need (fun w => decide (p.1 ≤ w) && decide (w ≤ p.2)) s ns l h0
  have z : sC (tch s p.1 p.2) (svL s l ns) = 0 := sC_zero fun c hc ht => by
    have ht := tch_iff.mp ht
    have := g.nl c hc ht.1 ht.2
    have := svL_pos s ns l h1 c hc
    omega
  have e : sR (fun w _ => decide (p.1 ≤ w) && decide (w ≤ p.2)) (svR s l ns) = sR (fun _ o => tch s p.1 p.2 o) (svR s l ns) := sR_congr fun t ht => by
    have g1 := gd_iff.mp (sv_good s ns l t ht).1
    apply Bool.eq_iff_iff.mpr
    rw [tch_iff]
    simp only [Bool.and_eq_true, decide_eq_true_eq]
    constructor
    · intro h
      omega
    · intro h
      exact g.cl t ht h.1 h.2
  have e' : sR (fun _ o => tch s p.1 p.2 o) (svR s l ns) = sR (fun _ o => tch s p.1 p.2 o) (svR s l ns) := rfl
  omega
/-! ### stretches that meet are joined -/
def mrg : List (Int × Int) → Int × Int → List (Int × Int)
  | [], p => [p]
  | (f1, l1) :: r, (f, l) => if f ≤ l1 then mrg r (if f1 < f then f1 else f, if l1 < l then l else l1) else (f, l) :: (f1, l1) :: r
theorem mrg_ok {G : Int × Int → Prop} (hj : ∀ p q : Int × Int, G p → G q → p.2 < q.2 → q.1 ≤ p.2 → G (if p.1 < q.1 then p.1 else q.1, q.2)) : ∀ (acc : List (Int × Int)) (p : Int × Int), (∀ q ∈ acc, G q) → G p → acc.Pairwise (fun a b => b.2 < a.1) → (∀ q ∈ acc, q.1 ≤ q.2) → (∀ q ∈ acc, q.2 < p.2) →
    (∀ q ∈ mrg acc p, G q) ∧ (mrg acc p).Pairwise (fun a b => b.2 < a.1) ∧ (∀ q ∈ mrg acc p, q.2 ≤ p.2) ∧ (∀ q ∈ acc, ∃ q' ∈ mrg acc p, q'.1 ≤ q.1 ∧ q.2 ≤ q'.2) ∧ ∃ q' ∈ mrg acc p, q'.1 ≤ p.1 ∧ p.2 ≤ q'.2
  | [], p, _, hp, _, _, _ => by
    refine ⟨?_, ?_, ?_, ?_, p, by simp [mrg], Int.le_refl _, Int.le_refl _⟩
    · intro q hq
      simp [mrg] at hq
      subst hq
      exact hp
    · simp [mrg]
    · intro q hq
      simp [mrg] at hq
      subst hq
      exact Int.le_refl _
    · intro q hq
      simp at hq
  | (f1, l1) :: r, (f, l), ha, hp, hs, ho, hlt => by
    have hl1 : l1 < l := hlt (f1, l1) List.mem_cons_self
    rw [List.pairwise_cons] at hs
    have har : ∀ q ∈ r, G q := fun q hq => ha q (List.mem_cons_of_mem _ hq)
    have hor : ∀ q ∈ r, q.1 ≤ q.2 := fun q hq => ho q (List.mem_cons_of_mem _ hq)
    have hfl : f1 ≤ l1 := ho (f1, l1) List.mem_cons_self
    rw [mrg]
    by_cases hf : f ≤ l1
    · rw [if_pos hf, if_pos hl1]
      obtain ⟨k1, k2, k3, k4, k5⟩ := mrg_ok hj r (if f1 < f then f1 else f, l) har (hj (f1, l1) (f, l) (ha _ List.mem_cons_self) hp hl1 hf) hs.2 hor fun q hq => hlt q (List.mem_cons_of_mem _ hq)
      obtain ⟨x, x1, x2, x3⟩ := k5
      have x2 : x.1 ≤ if f1 < f then f1 else f := x2
      have x3 : l ≤ x.2 := x3
      refine ⟨k1, k2, k3, fun q hq => ?_, x, x1, ?_, x3⟩
      · rcases List.mem_cons.mp hq with rfl | hq
        · refine ⟨x, x1, ?_, ?_⟩
          · show x.1 ≤ f1
            split at x2 <;> omega
          · show l1 ≤ x.2
            omega
        · exact k4 q hq
      · show x.1 ≤ f
        split at x2 <;> omega
    · rw [if_neg hf]
      refine ⟨fun q hq => ?_, ?_, fun q hq => ?_, fun q hq => ⟨q, List.mem_cons_of_mem _ hq, Int.le_refl _, Int.le_refl _⟩, (f, l), List.mem_cons_self, Int.le_refl _, Int.le_refl _⟩
      · rcases List.mem_cons.mp hq with rfl | hq
        · exact hp
        · exact ha q hq
      · rw [List.pairwise_cons]
        refine ⟨fun q hq => ?_, List.pairwise_cons.mpr hs⟩
        rcases List.mem_cons.mp hq with rfl | hq
        · show l1 < f
          omega
        · have := hs.1 q hq
          show q.2 < f
          have this : q.2 < f1 := this
          omega
      · rcases List.mem_cons.mp hq with rfl | hq
        · exact Int.le_refl _
        · have := hlt q hq
          have this : q.2 < l := this
          show q.2 ≤ l
          omega
end Cb
namespace Cb
open PySem PySem.Spec PyProof.Rows L2
theorem intsO_map : ∀ ns : List Int, intsO (ns.map .int) = some ns
  | [] => rfl
  | n :: r => by
    have ih := intsO_map r
    simp [intsO, ih]
theorem ixN_lst (n : Nat) : ixN (n + 1) (-1) = some n := by
  unfold ixN
  simp
  omega
theorem atI_lst {α : Type} (B : List α) (x : α) : atI (B ++ [x]) (-1) = some x := by
  unfold L2.atI
  rw [List.length_append]
  show ((ixN (B.length + 1) (-1)).bind fun j => (B ++ [x])[j]?) = some x
  rw [ixN_lst]
  simp
theorem cut_lst {α : Type} (B : List α) (x : α) : cutL (B ++ [x]) none (some (-1)) = B := by
  unfold cutL HT.sIx
  simp
  have : (-1 + ((B.length : Int) + 1)).toNat = B.length := by omega
  rw [this]
  simp
theorem row_sh (p : Int × Int) : SeqAt.shaped (rowD p) = true := by
  unfold SeqAt.shaped
  simp [rowD, PyData.canLay0, PyData.canLayAll0, PyData.depth, PyData.depthAll]
theorem row_eqv (p q : Int × Int) : PyData.eqv (rowD p) (rowD q) = decide (p = q) := by
  obtain ⟨a, b⟩ := p
  obtain ⟨c, d⟩ := q
  simp [rowD, PyData.eqv, PyData.eqvAll, Prod.mk.injEq, Bool.beq_eq_decide_eq]
theorem rows_can : ∀ l : List (Int × Int), PyData.canLayAll0 (l.map rowD) = true
  | [] => rfl
  | t :: r => by
    have ih := rows_can r
    simp [PyData.canLayAll0, PyData.canLay0, rowD, ih]
theorem rows_dep : ∀ l : List (Int × Int), PyData.depthAll (l.map rowD) ≤ 3
  | [] => by simp [PyData.depthAll]
  | t :: r => by
    have ih := rows_dep r
    simp [PyData.depthAll, PyData.depth, rowD]
    omega
theorem rows_sh (l : List (Int × Int)) : SeqAt.shaped (rowsD l) = true := by
  have h1 := rows_can l
  have h2 := rows_dep l
  unfold SeqAt.shaped rowsD
  simp [PyData.canLay0, PyData.depth, h1]
  omega
theorem rows_eqv0 : ∀ l : List (Int × Int), PyData.eqv (rowsD l) (.list []) = decide (l = [])
  | [] => rfl
  | _ :: _ => rfl
theorem least_app (xs : List Int) (f : Int) : leastI (xs ++ [f]) = some (lst xs f) := by
  obtain ⟨a1, a2, a3⟩ := lst_le xs f
  cases xs with
  | nil => rfl
  | cons n r =>
    show some (lst (r ++ [f]) n) = _
    obtain ⟨b1, b2, b3⟩ := lst_le (r ++ [f]) n
    have h1 : lst (r ++ [f]) n ≤ lst (n :: r) f := by
      rcases a3 with e | e
      · have := b2 f (by simp)
        omega
      · rcases List.mem_cons.mp e with e | e
        · omega
        · exact b2 _ (by simp [e])
    have h2 : lst (n :: r) f ≤ lst (r ++ [f]) n := by
      rcases b3 with e | e
      · have := a2 n (by simp)
        omega
      · rcases List.mem_append.mp e with e | e
        · exact a2 _ (List.mem_cons_of_mem _ e)
        · simp at e
          omega
    rw [show lst (r ++ [f]) n = lst (n :: r) f by omega]
theorem most_end : ∀ (xs : List Int) (n l : Int), (∀ x ∈ xs, x ≤ l) → n ≤ l → (xs ++ [l]).foldl (fun m k => if m < k then k else m) n = l
  | [], n, l, _, h => by
    simp
    omega
  | x :: r, n, l, hx, h => by
    rw [List.cons_append, List.foldl_cons]
    refine most_end r _ l (fun y hy => hx y (List.mem_cons_of_mem _ hy)) ?_
    have := hx x List.mem_cons_self
    split <;> omega
theorem most_app {xs : List Int} {l : Int} (h : ∀ x ∈ xs, x ≤ l) : mostI (xs ++ [l]) = some l := by
  cases xs with
  | nil => rfl
  | cons n r =>
    show some ((r ++ [l]).foldl _ n) = _
    rw [most_end r n l (fun y hy => h y (List.mem_cons_of_mem _ hy)) (h n List.mem_cons_self)]
/-! ### widened, closed, narrows -/
theorem V_wid {cs : List (Int × Int)} {R : List Rw} {s f l : Int} (up : ∀ t ∈ R, t.2.1 ≤ l → t.1 ≤ l) (hR : R.length ≤ 9000) :
    V_widened [rowsD cs, .list (R.map row3D), rowD (f, l), .int s] = .ok (rowD (wdF R s l f, l)) := by
  have e1 : g_widened_1 [.im (rowsD cs), .im (.list (R.map row3D)), .im (rowD (f, l)), .im (.int s), .no, .no, .no, .no, .no, .no] = .nx [.im (rowsD cs), .im (.list (R.map row3D)), .im (rowD (f, l)), .im (.int s), .im (.int f), .im (.int l), .no, .no, .no, .no] := by
    simp [g_widened_1, unpS, tgD, rowD, setS, setN, parPP, parNP, parPN, parNN, toO, toB, ifS, retS, exS, appS, extS, dputS, frzS, nxS, vP, vT, cS, op1, op2, gI, addI, subI, mulI, divI, modI, powI, ltI, leI, gtI, geI, minI, maxI, bS, bO, andB, orB, notB, andV, orV, notV, chI, ifE, tupS, lstS, nilA, consA, callS, callK, isiS, lenD, intD, ixD, atR, dgetD, big, plS, plainD]
  have q := lcGo_fm (k := .tr 7 8 9) (ft := andB (bS (op2 leI (vP 8) (vP 5))) (bS (op2 gtI (op2 addI (vP 8) (vP 3)) (vP 4)))) (fe := vP 7) (ds := wipeD [.im (rowsD cs), .im (.list (R.map row3D)), .im (rowD (f, l)), .im (.int s), .im (.int f), .im (.int l), .no, .no, .no, .no] [7, 8, 9]) row3D (fun t => tch s f l t.2.1) (fun t => .int t.1) (xs := R) (fun t ht => ⟨_, rfl, by
      by_cases h : t.2.1 ≤ l
      · simp [wipeD, setS, setN, parPP, parNP, parPN, parNN, toO, toB, ifS, retS, exS, appS, extS, dputS, frzS, nxS, vP, vT, cS, op1, op2, gI, addI, subI, mulI, divI, modI, powI, ltI, leI, gtI, geI, minI, maxI, bS, bO, andB, orB, notB, andV, orV, notV, chI, ifE, tupS, lstS, nilA, consA, callS, callK, isiS, lenD, intD, ixD, atR, dgetD, big, plS, plainD, tch, h]
      · simp [wipeD, setS, setN, parPP, parNP, parPN, parNN, toO, toB, ifS, retS, exS, appS, extS, dputS, frzS, nxS, vP, vT, cS, op1, op2, gI, addI, subI, mulI, divI, modI, powI, ltI, leI, gtI, geI, minI, maxI, bS, bO, andB, orB, notB, andV, orV, notV, chI, ifE, tupS, lstS, nilA, consA, callS, callK, isiS, lenD, intD, ixD, atR, dgetD, big, plS, plainD, tch, h], fun _ => by simp [wipeD, setS, setN, parPP, parNP, parPN, parNN, toO, toB, ifS, retS, exS, appS, extS, dputS, frzS, nxS, vP, vT, cS, op1, op2, gI, addI, subI, mulI, divI, modI, powI, ltI, leI, gtI, geI, minI, maxI, bS, bO, andB, orB, notB, andV, orV, notV, chI, ifE, tupS, lstS, nilA, consA, callS, callK, isiS, lenD, intD, ixD, atR, dgetD, big, plS, plainD]⟩)
  have hb : R.length ≤ 1000000 := by omega
  have e2 : g_widened_2 [.im (rowsD cs), .im (.list (R.map row3D)), .im (rowD (f, l)), .im (.int s), .im (.int f), .im (.int l), .no, .no, .no, .no] = .nx [.im (rowsD cs), .im (.list (R.map row3D)), .im (rowD (f, l)), .im (.int s), .im (.int f), .im (.int l), .im (.list (((R.filter fun t => tch s f l t.2.1).map (·.1)).map .int)), .no, .no, .no] := by
    simp only [g_widened_2, setS, lcS, itL, vP, List.getElem?_cons_zero, List.getElem?_cons_succ, Cb.R.ok_bind, List.length_map, big, if_pos hb]
    rw [q]
    simp [toO, Function.comp_def]
  have hf : (R.filter fun t => tch s f l t.2.1).length + 1 ≤ 1000000 := by
    have := List.length_filter_le (fun t : Rw => tch s f l t.2.1) R
    omega
  have m1 := least_app ((R.filter fun t => tch s f l t.2.1).map (·.1)) f
  have m2 := most_app (xs := (R.filter fun t => tch s f l t.2.1).map (·.1)) (l := l) fun x hx => by
    obtain ⟨t, ht, rfl⟩ := List.mem_map.mp hx
    have hm := List.mem_filter.mp ht
    exact up t hm.1 (tch_iff.mp hm.2).1
  have i1 := intsO_map ((R.filter fun t => tch s f l t.2.1).map (·.1) ++ [f])
  have i2 := intsO_map ((R.filter fun t => tch s f l t.2.1).map (·.1) ++ [l])
  rw [List.map_append] at i1 i2
  simp only [List.map_cons, List.map_nil] at i1 i2
  have e3 : g_widened_3 [.im (rowsD cs), .im (.list (R.map row3D)), .im (rowD (f, l)), .im (.int s), .im (.int f), .im (.int l), .im (.list (((R.filter fun t => tch s f l t.2.1).map (·.1)).map .int)), .no, .no, .no] = .rt (rowD (wdF R s l f, l)) := by
    have k1 : minL (.list (((R.filter fun t => tch s f l t.2.1).map (·.1)).map .int ++ [.int f])) = .ok (.int (wdF R s l f)) := by
      simp only [minL, i1, Option.bind_some, m1]
      rfl
    have k2 : maxL (.list (((R.filter fun t => tch s f l t.2.1).map (·.1)).map .int ++ [.int l])) = .ok (.int l) := by
      simp only [maxL, i2, Option.bind_some, m2]
    have hA : (((R.filter fun t => tch s f l t.2.1).map (·.1)).map PyData.int).length + 1 ≤ 1000000 := by simpa using hf
    generalize ((R.filter fun t => tch s f l t.2.1).map (·.1)).map PyData.int = A at k1 k2 hA
    simp [g_widened_3, setS, setN, parPP, parNP, parPN, parNN, toO, toB, ifS, retS, exS, appS, extS, dputS, frzS, nxS, vP, vT, cS, op1, op2, gI, addI, subI, mulI, divI, modI, powI, ltI, leI, gtI, geI, minI, maxI, bS, bO, andB, orB, notB, andV, orV, notV, chI, ifE, tupS, lstS, nilA, consA, callS, callK, isiS, lenD, intD, ixD, atR, dgetD, big, plS, plainD, catD, hA, k1, k2, rowD]
  show bodyS 10 [false, false, false, false] g_widened _ = _
  rw [bodyS, g_widened, show startS 10 [false, false, false, false] [rowsD cs, .list (R.map row3D), rowD (f, l), .int s] = [.im (rowsD cs), .im (.list (R.map row3D)), .im (rowD (f, l)), .im (.int s), .no, .no, .no, .no, .no, .no] from rfl, seq_nx e1, seq_nx e2, e3]
theorem clo_wh {cs : List (Int × Int)} {R : List Rw} {s l : Int} {ws : List Int} {d2 : Sl} (up : ∀ t ∈ R, t.2.1 ≤ l → t.1 ≤ l) (hR : R.length ≤ 9000) (hw : ∀ x ∈ R.map (·.1), x ∈ ws) : ∀ (n m : Nat) (f : Int), mu ws f ≤ n → n < m →
    whGo (bS (op2 neD (vP 5) (vP 4))) g_closed_3B m [.im (rowsD cs), .im (.list (R.map row3D)), d2, .im (.int s), .im (rowD (f, l)), .im (rowD (wdF R s l f, l))] = .nx [.im (rowsD cs), .im (.list (R.map row3D)), d2, .im (.int s), .im (rowD (itF (wdF R s l) n f, l)), .im (rowD (itF (wdF R s l) n f, l))]
  | n, 0, f, _, h => by omega
  | n, m + 1, f, hm, h => by
    have ft : bS (op2 neD (vP 5) (vP 4)) [.im (rowsD cs), .im (.list (R.map row3D)), d2, .im (.int s), .im (rowD (f, l)), .im (rowD (wdF R s l f, l))] = .ok (!decide (wdF R s l f = f)) := by
      simp only [bS, op2, vP, List.getElem?_cons_zero, List.getElem?_cons_succ, Cb.R.ok_bind, neD, row_sh, row_eqv, Bool.and_self, if_true, bO, Prod.mk.injEq, and_true]
    by_cases e : wdF R s l f = f
    · rw [decide_eq_true e] at ft
      unfold whGo
      rw [ft, it_fix e]
      simp [toB, e]
    · rw [decide_eq_false e] at ft
      rcases (wd_stp R s l).at_ f with h1 | h1
      · exact absurd h1 e
      · have h2 := (wd_stp R s l).le f
        have hlt := mu_lt (b := f) (by omega) (hw _ h1)
        obtain ⟨k, rfl⟩ : ∃ k, n = k + 1 := ⟨n - 1, by omega⟩
        have eb : g_closed_3B [.im (rowsD cs), .im (.list (R.map row3D)), d2, .im (.int s), .im (rowD (f, l)), .im (rowD (wdF R s l f, l))] = .nx [.im (rowsD cs), .im (.list (R.map row3D)), d2, .im (.int s), .im (rowD (wdF R s l f, l)), .im (rowD (wdF R s l (wdF R s l f), l))] := by
          have b1 : g_closed_3b_1 [.im (rowsD cs), .im (.list (R.map row3D)), d2, .im (.int s), .im (rowD (f, l)), .im (rowD (wdF R s l f, l))] = .nx [.im (rowsD cs), .im (.list (R.map row3D)), d2, .im (.int s), .im (rowD (wdF R s l f, l)), .im (rowD (wdF R s l f, l))] := by
            simp [g_closed_3b_1, setS, setN, parPP, parNP, parPN, parNN, toO, toB, ifS, retS, exS, appS, extS, dputS, frzS, nxS, vP, vT, cS, op1, op2, gI, addI, subI, mulI, divI, modI, powI, ltI, leI, gtI, geI, minI, maxI, bS, bO, andB, orB, notB, andV, orV, notV, chI, ifE, tupS, lstS, nilA, consA, callS, callK, isiS, lenD, intD, ixD, atR, dgetD, big, plS, plainD]
          rw [g_closed_3B, seq_nx b1]
          simp [g_closed_3b_2, setS, setN, parPP, parNP, parPN, parNN, toO, toB, ifS, retS, exS, appS, extS, dputS, frzS, nxS, vP, vT, cS, op1, op2, gI, addI, subI, mulI, divI, modI, powI, ltI, leI, gtI, geI, minI, maxI, bS, bO, andB, orB, notB, andV, orV, notV, chI, ifE, tupS, lstS, nilA, consA, callS, callK, isiS, lenD, intD, ixD, atR, dgetD, big, plS, plainD, V_wid (cs := cs) (s := s) (f := wdF R s l f) up hR]
        have ih := clo_wh (cs := cs) (s := s) (d2 := d2) up hR hw k m (wdF R s l f) (by omega) (by omega)
        conv => lhs; unfold whGo
        rw [ft]
        simp only [toB, Bool.not_false, if_true, eb]
        rw [ih, itF]
theorem V_clo {cs : List (Int × Int)} {R : List Rw} {s l : Int} {ws : List Int} (up : ∀ t ∈ R, t.2.1 ≤ l → t.1 ≤ l) (hR : R.length ≤ 9000) (hw : ∀ x ∈ R.map (·.1), x ∈ ws) (hl : ws.length ≤ 20) :
    V_closed [rowsD cs, .list (R.map row3D), .int l, .int s] = .ok (rowD (clW R s l, l)) := by
  have e1 : g_closed_1 [.im (rowsD cs), .im (.list (R.map row3D)), .im (.int l), .im (.int s), .no, .no] = .nx [.im (rowsD cs), .im (.list (R.map row3D)), .im (.int l), .im (.int s), .im (rowD (l, l)), .no] := by
    simp [g_closed_1, setS, setN, parPP, parNP, parPN, parNN, toO, toB, ifS, retS, exS, appS, extS, dputS, frzS, nxS, vP, vT, cS, op1, op2, gI, addI, subI, mulI, divI, modI, powI, ltI, leI, gtI, geI, minI, maxI, bS, bO, andB, orB, notB, andV, orV, notV, chI, ifE, tupS, lstS, nilA, consA, callS, callK, isiS, lenD, intD, ixD, atR, dgetD, big, plS, plainD, rowD]
  have e2 : g_closed_2 [.im (rowsD cs), .im (.list (R.map row3D)), .im (.int l), .im (.int s), .im (rowD (l, l)), .no] = .nx [.im (rowsD cs), .im (.list (R.map row3D)), .im (.int l), .im (.int s), .im (rowD (l, l)), .im (rowD (wdF R s l l, l))] := by
    simp [g_closed_2, setS, setN, parPP, parNP, parPN, parNN, toO, toB, ifS, retS, exS, appS, extS, dputS, frzS, nxS, vP, vT, cS, op1, op2, gI, addI, subI, mulI, divI, modI, powI, ltI, leI, gtI, geI, minI, maxI, bS, bO, andB, orB, notB, andV, orV, notV, chI, ifE, tupS, lstS, nilA, consA, callS, callK, isiS, lenD, intD, ixD, atR, dgetD, big, plS, plainD, V_wid (cs := cs) (s := s) (f := l) up hR]
  have e3 := clo_wh (cs := cs) (s := s) (d2 := .im (.int l)) up hR hw 20 100000 l (Nat.le_trans (mu_len ws l) hl) (by omega)
  show bodyS 6 [false, false, false, false] g_closed _ = _
  rw [bodyS, g_closed, show startS 6 [false, false, false, false] [rowsD cs, .list (R.map row3D), .int l, .int s] = [.im (rowsD cs), .im (.list (R.map row3D)), .im (.int l), .im (.int s), .no, .no] from rfl, seq_nx e1, seq_nx e2, seq_nx (show g_closed_3 _ = _ from e3)]
  simp [g_closed_4, setS, setN, parPP, parNP, parPN, parNN, toO, toB, ifS, retS, exS, appS, extS, dputS, frzS, nxS, vP, vT, cS, op1, op2, gI, addI, subI, mulI, divI, modI, powI, ltI, leI, gtI, geI, minI, maxI, bS, bO, andB, orB, notB, andV, orV, notV, chI, ifE, tupS, lstS, nilA, consA, callS, callK, isiS, lenD, intD, ixD, atR, dgetD, big, plS, plainD]
  rfl
theorem mrg_ne : ∀ (acc : List (Int × Int)) (p : Int × Int), ∃ q r, mrg acc p = q :: r ∧ r.length ≤ acc.length
  | [], p => ⟨p, [], rfl, Nat.le_refl _⟩
  | (f1, l1) :: r, (f, l) => by
    rw [mrg]
    split
    · obtain ⟨q, r', h1, h2⟩ := mrg_ne r (if f1 < f then f1 else f, if l1 < l then l else l1)
      exact ⟨q, r', h1, by simp; omega⟩
    · exact ⟨_, _, rfl, Nat.le_refl _⟩
theorem nar_wh {d0 d1 d2 d3 d5 d6 : Sl} : ∀ (acc : List (Int × Int)) (f l : Int) (m : Nat), acc.length < m → ∀ q r, mrg acc (f, l) = q :: r →
    whGo (andB (bS (op2 neD (vT 4) (lstS nilA))) (bS (op2 geI (op2 ixD (ixO 4 (op1 negD (cS (.int 1)))) (cS (.int 1))) (vP 7)))) g_narrows_3b_2B m [d0, d1, d2, d3, .ow (rowsD acc.reverse), d5, d6, .im (.int f), .im (.int l)] = .nx [d0, d1, d2, d3, .ow (rowsD r.reverse), d5, d6, .im (.int q.1), .im (.int q.2)]
  | _, f, l, 0, h, _, _, _ => by omega
  | [], f, l, m + 1, h, q, r, e => by
    simp only [mrg, List.cons.injEq] at e
    obtain ⟨rfl, rfl⟩ := e
    have s0 : SeqAt.shaped (.list []) = true := by decide
    unfold whGo
    simp [setS, setN, parPP, parNP, parPN, parNN, toO, toB, ifS, retS, exS, appS, extS, dputS, frzS, nxS, vP, vT, cS, op1, op2, gI, addI, subI, mulI, divI, modI, powI, ltI, leI, gtI, geI, minI, maxI, bS, bO, andB, orB, notB, andV, orV, notV, chI, ifE, tupS, lstS, nilA, consA, callS, callK, isiS, lenD, intD, ixD, atR, dgetD, big, plS, plainD, neD, rowsD, s0, PyData.eqv, PyData.eqvAll]
  | (f1, l1) :: a, f, l, m + 1, h, q, r, e => by
    have s0 : SeqAt.shaped (.list []) = true := by decide
    have hsh := rows_sh (a.reverse ++ [(f1, l1)])
    have hne : PyData.eqv (rowsD (a.reverse ++ [(f1, l1)])) (.list []) = false := by
      rw [rows_eqv0]
      simp
    have hat := atI_lst (a.reverse.map rowD) (rowD (f1, l1))
    have hc := cut_lst (a.reverse.map rowD) (rowD (f1, l1))
    have hrev : rowsD ((f1, l1) :: a).reverse = .list (a.reverse.map rowD ++ [rowD (f1, l1)]) := by
      simp only [rowsD, List.reverse_cons, List.map_append, List.map_cons, List.map_nil]
    have hrv2 : rowsD a.reverse = .list (a.reverse.map rowD) := rfl
    simp only [rowsD, List.map_append, List.map_cons, List.map_nil] at hsh hne
    rw [hrev]
    have ih := fun f l hh => nar_wh (d0 := d0) (d1 := d1) (d2 := d2) (d3 := d3) (d5 := d5) (d6 := d6) a f l m (by simp at h; omega) q r hh
    rw [hrv2] at ih
    have hfin : rowsD ((f1, l1) :: a).reverse = .list (a.reverse.map rowD ++ [rowD (f1, l1)]) := hrev
    generalize a.reverse.map rowD = B at hat hc hsh hne ih hfin
    have hat2 : ixD (.list (B ++ [rowD (f1, l1)])) (.int (-1)) = .ok (rowD (f1, l1)) := by
      simp only [ixD, atR, hat]
      rfl
    have ft : andB (bS (op2 neD (vT 4) (lstS nilA))) (bS (op2 geI (op2 ixD (ixO 4 (op1 negD (cS (.int 1)))) (cS (.int 1))) (vP 7))) [d0, d1, d2, d3, .ow (.list (B ++ [rowD (f1, l1)])), d5, d6, .im (.int f), .im (.int l)] = .ok (decide (f ≤ l1)) := by
      have t1 : bS (op2 neD (vT 4) (lstS nilA)) [d0, d1, d2, d3, .ow (.list (B ++ [rowD (f1, l1)])), d5, d6, .im (.int f), .im (.int l)] = .ok true := by
        simp [bS, op2, vT, lstS, nilA, neD, s0, hsh, hne, bO, big]
      have t2 : ixO 4 (op1 negD (cS (.int 1))) [d0, d1, d2, d3, .ow (.list (B ++ [rowD (f1, l1)])), d5, d6, .im (.int f), .im (.int l)] = .ok (rowD (f1, l1)) := by
        rw [← hat2]
        rfl
      simp only [andB, t1, Cb.R.ok_bind, if_true]
      simp only [bS, op2, t2, Cb.R.ok_bind]
      simp [cS, rowD, at1, geI, gI, vP, bO, ixD, atR]
    rw [mrg] at e
    by_cases hf : f ≤ l1
    · rw [if_pos hf] at e
      rw [decide_eq_true hf] at ft
      have eb : g_narrows_3b_2B [d0, d1, d2, d3, .ow (.list (B ++ [rowD (f1, l1)])), d5, d6, .im (.int f), .im (.int l)] = .nx [d0, d1, d2, d3, .ow (.list B), d5, d6, .im (.int (if f1 < f then f1 else f)), .im (.int (if l1 < l then l else l1))] := by
        have hmin : (if f < f1 then f else f1) = if f1 < f then f1 else f := by split <;> split <;> omega
        have t2 : ixO 4 (op1 negD (cS (.int 1))) [d0, d1, d2, d3, .ow (.list (B ++ [rowD (f1, l1)])), d5, d6, .im (.int f), .im (.int l)] = .ok (rowD (f1, l1)) := by
          rw [← hat2]
          rfl
        have b1 : g_narrows_3b_2b_1 [d0, d1, d2, d3, .ow (.list (B ++ [rowD (f1, l1)])), d5, d6, .im (.int f), .im (.int l)] = .nx [d0, d1, d2, d3, .ow (.list (B ++ [rowD (f1, l1)])), d5, d6, .im (.int (if f1 < f then f1 else f)), .im (.int (if l1 < l then l else l1))] := by
          simp only [g_narrows_3b_2b_1, parPP, op2, t2, Cb.R.ok_bind]
          simp [cS, rowD, at0, at1, minI, maxI, gI, vP, ixD, atR, toO, hmin]
        rw [g_narrows_3b_2B, seq_nx b1]
        simp [g_narrows_3b_2b_2, setN, slO, noO, someO, op1, cS, negD, hc, toO]
      conv => lhs; unfold whGo
      rw [ft]
      simp only [toB, if_true, eb]
      exact ih _ _ e
    · rw [if_neg hf] at e
      rw [decide_eq_false hf] at ft
      simp only [List.cons.injEq] at e
      obtain ⟨rfl, rfl⟩ := e
      unfold whGo
      rw [ft, hfin]
      simp [toB]
/-- the stretches: joined one by one, the last one first -/
def nwA (R : List Rw) (s : Int) : List (Int × Int) → List (Int × Int) → List (Int × Int)
  | acc, [] => acc
  | acc, p :: r => nwA R s (mrg acc (clW R s p.1, p.1)) r
def nwR (s : Int) (cs ns : List (Int × Int)) : List (Int × Int) := (nwA (svR s cs ns) s [] (lk2 s cs ns)).reverse
theorem mrg_len (acc : List (Int × Int)) (p : Int × Int) : (mrg acc p).length ≤ acc.length + 1 := by
  obtain ⟨q, r, e, h⟩ := mrg_ne acc p
  rw [e]
  simp
  omega
theorem nar_go {cs : List (Int × Int)} {R : List Rw} {s : Int} {ws : List Int} {d1 : Sl} (hR : R.length ≤ 9000) (hw : ∀ x ∈ R.map (·.1), x ∈ ws) (hl : ws.length ≤ 20) : ∀ (lk acc : List (Int × Int)) (a b x y : Sl), (∀ p ∈ lk, ∀ t ∈ R, t.2.1 ≤ p.1 → t.1 ≤ p.1) → acc.length + lk.length ≤ 1000 →
    ∃ a' b' x' y', forGo (.pr 5 6) g_narrows_3B (lk.map rowD) [.im (rowsD cs), d1, .im (.int s), .im (.list (R.map row3D)), .ow (rowsD acc.reverse), a, b, x, y] = .nx [.im (rowsD cs), d1, .im (.int s), .im (.list (R.map row3D)), .ow (rowsD (nwA R s acc lk).reverse), a', b', x', y']
  | [], acc, a, b, x, y, _, _ => ⟨a, b, x, y, by simp [forGo, nwA]⟩
  | p :: r, acc, a, b, x, y, up, hn => by
    simp only [List.length_cons] at hn
    obtain ⟨q, r', e, hr'⟩ := mrg_ne acc (clW R s p.1, p.1)
    have ml := mrg_len acc (clW R s p.1, p.1)
    obtain ⟨a', b', x', y', ih⟩ := nar_go (cs := cs) (R := R) (s := s) (d1 := d1) hR hw hl r (mrg acc (clW R s p.1, p.1)) (.im (.int p.1)) (.im (.int p.2)) (.im (.int q.1)) (.im (.int q.2)) (fun z hz => up z (List.mem_cons_of_mem _ hz)) (by omega)
    refine ⟨a', b', x', y', ?_⟩
    have b1 : g_narrows_3b_1 [.im (rowsD cs), d1, .im (.int s), .im (.list (R.map row3D)), .ow (rowsD acc.reverse), .im (.int p.1), .im (.int p.2), x, y] = .nx [.im (rowsD cs), d1, .im (.int s), .im (.list (R.map row3D)), .ow (rowsD acc.reverse), .im (.int p.1), .im (.int p.2), .im (.int (clW R s p.1)), .im (.int p.1)] := by
      simp [g_narrows_3b_1, unpS, tgD, setS, setN, parPP, parNP, parPN, parNN, toO, toB, ifS, retS, exS, appS, extS, dputS, frzS, nxS, vP, vT, cS, op1, op2, gI, addI, subI, mulI, divI, modI, powI, ltI, leI, gtI, geI, minI, maxI, bS, bO, andB, orB, notB, andV, orV, notV, chI, ifE, tupS, lstS, nilA, consA, callS, callK, isiS, lenD, intD, ixD, atR, dgetD, big, plS, plainD, V_clo (cs := cs) (s := s) (up p List.mem_cons_self) hR hw hl, rowD]
    have b2 : g_narrows_3b_2 [.im (rowsD cs), d1, .im (.int s), .im (.list (R.map row3D)), .ow (rowsD acc.reverse), .im (.int p.1), .im (.int p.2), .im (.int (clW R s p.1)), .im (.int p.1)] = .nx [.im (rowsD cs), d1, .im (.int s), .im (.list (R.map row3D)), .ow (rowsD r'.reverse), .im (.int p.1), .im (.int p.2), .im (.int q.1), .im (.int q.2)] := nar_wh acc _ _ 100000 (by omega) q r' e
    have hb : r'.length ≤ 1000000 := by omega
    have b3 : g_narrows_3b_3 [.im (rowsD cs), d1, .im (.int s), .im (.list (R.map row3D)), .ow (rowsD r'.reverse), .im (.int p.1), .im (.int p.2), .im (.int q.1), .im (.int q.2)] = .nx [.im (rowsD cs), d1, .im (.int s), .im (.list (R.map row3D)), .ow (rowsD (q :: r').reverse), .im (.int p.1), .im (.int p.2), .im (.int q.1), .im (.int q.2)] := by
      simp [g_narrows_3b_3, setS, setN, parPP, parNP, parPN, parNN, toO, toB, ifS, retS, exS, appS, extS, dputS, frzS, nxS, vP, vT, cS, op1, op2, gI, addI, subI, mulI, divI, modI, powI, ltI, leI, gtI, geI, minI, maxI, bS, bO, andB, orB, notB, andV, orV, notV, chI, ifE, tupS, lstS, nilA, consA, callS, callK, isiS, lenD, intD, ixD, atR, dgetD, big, plS, plainD, rowsD, hb, rowD]
    rw [List.map_cons, forGo_cons (ds1 := [.im (rowsD cs), d1, .im (.int s), .im (.list (R.map row3D)), .ow (rowsD acc.reverse), .im (.int p.1), .im (.int p.2), x, y]) rfl (show g_narrows_3B _ = _ by rw [g_narrows_3B, seq_nx b1, seq_nx b2, b3]), ← e, ih, nwA]
theorem lk2_len (s : Int) : ∀ (ns l : List (Int × Int)), (lk2 s l ns).length ≤ ns.length
  | [], _ => Nat.le_refl _
  | (w, m) :: r, l => by
    have := lk2_len s r (tkL w s l m)
    rw [lk2]
    split <;> simp <;> omega
theorem V_nar {cs ns : List (Int × Int)} {s : Int} (hc : Rows cs) (hn : Rows ns) (h1 : 1 ≤ s) (h2 : s ≤ 4) : V_narrows [rowsD cs, rowsD ns, .int s] = .ok (rowsD (nwR s cs ns)) := by
  have l1 := hc.len
  have l2 := hn.len
  have l3 := svR_len s ns cs
  have l4 : cs.length * ns.length ≤ 12 * 12 := Nat.mul_le_mul l1 l2
  have n0 : ∀ p ∈ ns, 0 ≤ p.2 := fun p hp => by have := hn.wk p hp; omega
  have lk := lkR_lk2 s ns cs (rows_pw hn) n0
  have hw : ∀ x ∈ (svR s cs ns).map (·.1), x ∈ ns.map (·.1) := fun x hx => by
    obtain ⟨t, ht, rfl⟩ := List.mem_map.mp hx
    exact (sv_good s ns cs t ht).2.2.1
  have l5 := lk2_len s ns cs
  have e1 : g_narrows_1 [.im (rowsD cs), .im (rowsD ns), .im (.int s), .no, .no, .no, .no, .no, .no] = .nx [.im (rowsD cs), .im (rowsD ns), .im (.int s), .no, .no, .no, .no, .no, .no] := by
    simp [g_narrows_1, setS, setN, parPP, parNP, parPN, parNN, toO, toB, ifS, retS, exS, appS, extS, dputS, frzS, nxS, vP, vT, cS, op1, op2, gI, addI, subI, mulI, divI, modI, powI, ltI, leI, gtI, geI, minI, maxI, bS, bO, andB, orB, notB, andV, orV, notV, chI, ifE, tupS, lstS, nilA, consA, callS, callK, isiS, lenD, intD, ixD, atR, dgetD, big, plS, plainD, V_looka hc hn h1 h2]
  have e2 : g_narrows_2 [.im (rowsD cs), .im (rowsD ns), .im (.int s), .no, .no, .no, .no, .no, .no] = .nx [.im (rowsD cs), .im (rowsD ns), .im (.int s), .im (.list ((svR s cs ns).map row3D)), .ow (.list []), .no, .no, .no, .no] := by
    simp [g_narrows_2, setS, setN, parPP, parNP, parPN, parNN, toO, toB, ifS, retS, exS, appS, extS, dputS, frzS, nxS, vP, vT, cS, op1, op2, gI, addI, subI, mulI, divI, modI, powI, ltI, leI, gtI, geI, minI, maxI, bS, bO, andB, orB, notB, andV, orV, notV, chI, ifE, tupS, lstS, nilA, consA, callS, callK, isiS, lenD, intD, ixD, atR, dgetD, big, plS, plainD, V_sv s (rows_pw hc) (show cs.length < 64 by omega) (show ns.length ≤ 100 by omega)]
  obtain ⟨a, b, x, y, e⟩ := nar_go (cs := cs) (R := svR s cs ns) (s := s) (ws := ns.map (·.1)) (d1 := .im (rowsD ns)) (by omega) hw (by simp; omega) (lk2 s cs ns) [] .no .no .no .no (fun p hp => (gd_round (rows_pw hn) (rows_pw hc) (by omega) hp).2) (by simp; omega)
  have e3 : g_narrows_3 [.im (rowsD cs), .im (rowsD ns), .im (.int s), .im (.list ((svR s cs ns).map row3D)), .ow (.list []), .no, .no, .no, .no] = .nx [.im (rowsD cs), .im (rowsD ns), .im (.int s), .im (.list ((svR s cs ns).map row3D)), .ow (rowsD (nwR s cs ns)), a, b, x, y] := by
    rw [nwR, ← e]
    have vl := V_lacks ns (svR s cs ns) (by omega) (by omega)
    rw [lk] at vl
    simp only [g_narrows_3, forS, itL, callS, consA, nilA, vP, List.getElem?_cons_zero, List.getElem?_cons_succ, R.ok_bind, List.append_nil, vl]
    rfl
  show bodyS 9 [false, false, false] g_narrows _ = _
  rw [bodyS, g_narrows, show startS 9 [false, false, false] [rowsD cs, rowsD ns, .int s] = [.im (rowsD cs), .im (rowsD ns), .im (.int s), .no, .no, .no, .no, .no, .no] from rfl, seq_nx e1, seq_nx e2, seq_nx e3]
  simp [frzS, g_narrows_4, setS, setN, parPP, parNP, parPN, parNN, toO, toB, ifS, retS, exS, appS, extS, dputS, frzS, nxS, vP, vT, cS, op1, op2, gI, addI, subI, mulI, divI, modI, powI, ltI, leI, gtI, geI, minI, maxI, bS, bO, andB, orB, notB, andV, orV, notV, chI, ifE, tupS, lstS, nilA, consA, callS, callK, isiS, lenD, intD, ixD, atR, dgetD, big, plS, plainD]
end Cb
namespace Cb
open PySem PySem.Spec PyProof.Rows L2
/-- a stretch that is told -/
structure Tld (R : List Rw) (L : List (Int × Int)) (s : Int) (W : List Int) (p : Int × Int) : Prop where
  gd : Gd R L s p
  lo : ∃ w ∈ W, clW R s w = p.1 ∧ w ≤ p.2
  hi : p.2 ∈ W ∧ p.1 ≤ clW R s p.2
theorem Tld.join {R : List Rw} {L : List (Int × Int)} {s : Int} {W : List Int} (s0 : 0 ≤ s) (p q : Int × Int) (hp : Tld R L s W p) (hq : Tld R L s W q) (h1 : p.2 < q.2) (h2 : q.1 ≤ p.2) : Tld R L s W (if p.1 < q.1 then p.1 else q.1, q.2) := by
  refine ⟨hp.gd.join hq.gd s0 h1 h2, ?_, hq.hi.1, ?_⟩
  · split
    · obtain ⟨w, a, b, c⟩ := hp.lo
      exact ⟨w, a, b, by show w ≤ q.2; omega⟩
    · exact hq.lo
  · show (if p.1 < q.1 then p.1 else q.1) ≤ clW R s q.2
    have := hq.hi.2
    split <;> omega
theorem nwA_ok {R : List Rw} {L : List (Int × Int)} {s : Int} {W : List Int} (s0 : 0 ≤ s) : ∀ (lk acc : List (Int × Int)), (lk.map (·.1)).Pairwise (· < ·) → (∀ p ∈ lk, p.1 ∈ W ∧ Gd R L s (clW R s p.1, p.1)) → (∀ q ∈ acc, Tld R L s W q) → acc.Pairwise (fun a b => b.2 < a.1) → (∀ q ∈ acc, ∀ p ∈ lk, q.2 < p.1) →
    (∀ q ∈ nwA R s acc lk, Tld R L s W q) ∧ (nwA R s acc lk).Pairwise (fun a b => b.2 < a.1) ∧ (∀ q ∈ acc, ∃ q' ∈ nwA R s acc lk, q'.1 ≤ q.1 ∧ q.2 ≤ q'.2) ∧ ∀ p ∈ lk, ∃ q' ∈ nwA R s acc lk, q'.1 ≤ clW R s p.1 ∧ p.1 ≤ q'.2
  | [], acc, _, _, h1, h2, _ => ⟨h1, h2, fun q hq => ⟨q, hq, Int.le_refl _, Int.le_refl _⟩, by simp⟩
  | p :: r, acc, up, hl, h1, h2, h3 => by
    rw [List.map_cons, List.pairwise_cons] at up
    have hp := hl p List.mem_cons_self
    have tp : Tld R L s W (clW R s p.1, p.1) := ⟨hp.2, ⟨p.1, hp.1, rfl, Int.le_refl _⟩, hp.1, Int.le_refl _⟩
    obtain ⟨k1, k2, k3, k4, k5⟩ := mrg_ok (Tld.join s0) acc (clW R s p.1, p.1) h1 tp h2 (fun q hq => (h1 q hq).gd.ord) fun q hq => h3 q hq p List.mem_cons_self
    obtain ⟨i1, i2, i3, i4⟩ := nwA_ok (L := L) (W := W) s0 r (mrg acc (clW R s p.1, p.1)) up.2 (fun q hq => hl q (List.mem_cons_of_mem _ hq)) k1 k2 fun q hq z hz => by
      have a := k3 q hq
      have b := up.1 _ (List.mem_map.mpr ⟨z, hz, rfl⟩)
      have a : q.2 ≤ p.1 := a
      omega
    rw [nwA]
    refine ⟨i1, i2, fun q hq => ?_, fun q hq => ?_⟩
    · obtain ⟨x, x1, x2, x3⟩ := k4 q hq
      obtain ⟨y, y1, y2, y3⟩ := i3 x x1
      exact ⟨y, y1, by omega, by omega⟩
    · rcases List.mem_cons.mp hq with rfl | hq
      · obtain ⟨x, x1, x2, x3⟩ := k5
        obtain ⟨y, y1, y2, y3⟩ := i3 x x1
        have x2 : x.1 ≤ clW R s q.1 := x2
        have x3 : q.1 ≤ x.2 := x3
        exact ⟨y, y1, by omega, by omega⟩
      · exact i4 q hq
/-- all that is told of what is told -/
structure NwOk (s : Int) (cs ns told : List (Int × Int)) : Prop where
  good : ∀ q ∈ told, Tld (svR s cs ns) (svL s cs ns) s ((lk2 s cs ns).map (·.1)) q
  up : told.Pairwise fun a b => a.2 < b.1
  cov : ∀ p ∈ lk2 s cs ns, ∃ q ∈ told, q.1 ≤ clW (svR s cs ns) s p.1 ∧ p.1 ≤ q.2
theorem nw_ok {s : Int} {cs ns : List (Int × Int)} (s0 : 0 ≤ s) (hc : (cs.map (·.1)).Pairwise (· < ·)) (hn : (ns.map (·.1)).Pairwise (· < ·)) (h20 : ns.length ≤ 20) : NwOk s cs ns (nwR s cs ns) := by
  obtain ⟨i1, i2, _, i4⟩ := nwA_ok (R := svR s cs ns) (L := svL s cs ns) (W := (lk2 s cs ns).map (·.1)) s0 (lk2 s cs ns) [] (lk2_up s ns cs hn) (fun p hp => ⟨List.mem_map.mpr ⟨p, hp, rfl⟩, (gd_round hn hc h20 hp).1⟩) (by simp) .nil (by simp)
  refine ⟨fun q hq => i1 q (List.mem_reverse.mp hq), ?_, fun p hp => ?_⟩
  · unfold nwR
    rw [List.pairwise_reverse]
    exact i2
  · obtain ⟨q, h1, h2⟩ := i4 p hp
    exact ⟨q, List.mem_reverse.mpr h1, h2⟩
theorem nw_nil {s : Int} {cs ns told : List (Int × Int)} (h : NwOk s cs ns told) : told = [] ↔ lk2 s cs ns = [] := by
  constructor
  · intro e
    cases hl : lk2 s cs ns with
    | nil => rfl
    | cons p r =>
      obtain ⟨q, h1, _⟩ := h.cov p (by rw [hl]; exact List.mem_cons_self)
      rw [e] at h1
      simp at h1
  · intro e
    cases ht : told with
    | nil => rfl
    | cons q r =>
      have := (h.good q (by rw [ht]; exact List.mem_cons_self)).hi.1
      rw [e] at this
      simp at this
/-- no coupon is good in two of them -/
theorem nw_apart {s : Int} {cs ns told : List (Int × Int)} (h : NwOk s cs ns told) (c0 : ∀ p ∈ cs, 1 ≤ p.2) {p q c : Int × Int} (hp : p ∈ told) (hq : q ∈ told) (hpq : p.2 < q.1) (hc : c ∈ cs) (t1 : tch s p.1 p.2 c.1 = true) (t2 : tch s q.1 q.2 c.1 = true) : False := by
  have t1 := tch_iff.mp t1
  have t2 := tch_iff.mp t2
  have b := sv_bal (fun o => decide (o = c.1)) s ns cs
  have c1 := c0 c hc
  have ps : c.2 ≤ sC (fun o => decide (o = c.1)) cs := sC_pos (fun x hx => by have := c0 x hx; omega) c hc (by simp)
  have z : sC (fun o => decide (o = c.1)) (svL s cs ns) = 0 := sC_zero fun x hx e => by
    have e : x.1 = c.1 := by simpa using e
    have := (h.good p hp).gd.nl x hx (by omega) (by omega)
    have := svL_pos s ns cs (fun x hx => by have := c0 x hx; omega) x hx
    omega
  obtain ⟨t, ht, e⟩ := sR_ex (p := fun _ o => decide (o = c.1)) (R := svR s cs ns) (by omega)
  have e : t.2.1 = c.1 := by simpa using e
  have a1 := (h.good p hp).gd.cl t ht (by omega) (by omega)
  have a2 := (h.good q hq).gd.cl t ht (by omega) (by omega)
  omega
end Cb
namespace Cb
open PySem PySem.Spec PyProof.Rows L2
/-! ### what is served is the most -/
def inS (told : List (Int × Int)) (w : Int) : Bool := told.any fun p => decide (p.1 ≤ w) && decide (w ≤ p.2)
def tcS (s : Int) (told : List (Int × Int)) (o : Int) : Bool := told.any fun p => tch s p.1 p.2 o
theorem inS_iff {told : List (Int × Int)} {w : Int} : inS told w = true ↔ ∃ p ∈ told, p.1 ≤ w ∧ w ≤ p.2 := by
  unfold inS
  rw [List.any_eq_true]
  simp only [Bool.and_eq_true, decide_eq_true_eq]
theorem tcS_iff {s : Int} {told : List (Int × Int)} {o : Int} : tcS s told o = true ↔ ∃ p ∈ told, o ≤ p.2 ∧ p.1 < o + s := by
  unfold tcS
  rw [List.any_eq_true]
  simp only [tch_iff]
theorem sv_most {s s' : Int} (hs : s ≤ s') {cs ns : List (Int × Int)} (told : List (Int × Int)) (c0 : ∀ p ∈ cs, 0 ≤ p.2) (n0 : ∀ p ∈ ns, 0 ≤ p.2) :
    sR (fun _ _ => true) (svR s cs ns) ≤ sC (fun w => !inS told w) ns + sC (tcS s' told) cs := by
  have h1 := sR_split (fun w _ => inS told w) (svR s cs ns)
  have h2 := sv_need (fun w => !inS told w) s ns cs n0
  have h3 : 0 ≤ sC (fun w => !inS told w) (lk2 s cs ns) := sC_nn fun x hx => by have := (lk2_keys s ns cs x hx).2; omega
  have h4 : sR (fun w _ => inS told w) (svR s cs ns) ≤ sR (fun _ o => tcS s' told o) (svR s cs ns) := sR_le (fun x hx => by have := (sv_good s ns cs x hx).2.1; omega) fun x hx hi => by
    obtain ⟨p, hp, a, b⟩ := inS_iff.mp hi
    have g := gd_iff.mp (sv_good s ns cs x hx).1
    exact tcS_iff.mpr ⟨p, hp, by omega, by omega⟩
  have h5 := sv_bal (tcS s' told) s ns cs
  have h6 : 0 ≤ sC (tcS s' told) (svL s cs ns) := sC_nn (svL_pos s ns cs c0)
  omega
theorem sv_eq {s : Int} {cs ns told : List (Int × Int)} (N : NwOk s cs ns told) (c0 : ∀ p ∈ cs, 0 ≤ p.2) (n0 : ∀ p ∈ ns, 0 ≤ p.2) :
    sR (fun _ _ => true) (svR s cs ns) = sC (fun w => !inS told w) ns + sC (tcS s told) cs := by
  have h1 := sR_split (fun w _ => inS told w) (svR s cs ns)
  have h2 := sv_need (fun w => !inS told w) s ns cs n0
  have h3 : sC (fun w => !inS told w) (lk2 s cs ns) = 0 := sC_zero fun x hx hi => by
    obtain ⟨q, hq, a, b⟩ := N.cov x hx
    have := cl_le (R := svR s cs ns) (s := s) (w := x.1)
    have : inS told x.1 = true := inS_iff.mpr ⟨q, hq, by omega, b⟩
    rw [this] at hi
    cases hi
  have h4 : sR (fun w _ => inS told w) (svR s cs ns) = sR (fun _ o => tcS s told o) (svR s cs ns) := sR_congr fun x hx => by
    have g := gd_iff.mp (sv_good s ns cs x hx).1
    rw [Bool.eq_iff_iff, inS_iff, tcS_iff]
    constructor
    · rintro ⟨p, hp, a, b⟩
      exact ⟨p, hp, by omega, by omega⟩
    · rintro ⟨p, hp, a, b⟩
      exact ⟨p, hp, (N.good p hp).gd.cl x hx a b⟩
  have h5 := sv_bal (tcS s told) s ns cs
  have h6 : sC (tcS s told) (svL s cs ns) = 0 := sC_zero fun x hx hi => by
    obtain ⟨p, hp, a, b⟩ := tcS_iff.mp hi
    have := (N.good p hp).gd.nl x hx a b
    have := svL_pos s ns cs c0 x hx
    omega
  omega
/-- a longer span serves no fewer -/
theorem sv_longer {s : Int} (s0 : 0 ≤ s) {cs ns : List (Int × Int)} (hc : Rows cs) (hn : Rows ns) : sR (fun _ _ => true) (svR s cs ns) ≤ sR (fun _ _ => true) (svR (s + 1) cs ns) := by
  have c0 : ∀ p ∈ cs, 0 ≤ p.2 := fun p hp => by have := (hc.wk p hp).2.2.1; omega
  have n0 : ∀ p ∈ ns, 0 ≤ p.2 := fun p hp => by have := (hn.wk p hp).2.2.1; omega
  have N := nw_ok (s := s + 1) (by omega) (rows_pw hc) (rows_pw hn) (by have := hn.len; omega)
  rw [sv_eq N c0 n0]
  exact sv_most (by omega) _ c0 n0
/-! ### how many -/
theorem flat_len : ∀ R : List Rw, (∀ t ∈ R, 0 ≤ t.2.2) → ((flat R).length : Int) = sR (fun _ _ => true) R
  | [], _ => rfl
  | (w, o, k) :: r, h => by
    have ih := flat_len r fun t ht => h t (List.mem_cons_of_mem _ ht)
    have hk := h (w, o, k) List.mem_cons_self
    unfold flat at ih ⊢
    rw [List.flatMap_cons, List.length_append, sR, List.length_replicate, if_pos rfl]
    have hk : 0 ≤ k := hk
    show ((k.toNat + _ : Nat) : Int) = _
    omega
theorem sum_sR : ∀ R : List Rw, (R.map (·.2.2)).sum = sR (fun _ _ => true) R
  | [] => rfl
  | (w, o, k) :: r => by
    rw [List.map_cons, List.sum_cons, sum_sR r, sR]
    simp
/-! ### one need more, one coupon more, later than all others -/
theorem tk_late {w s wk a : Int} (h : w < wk) : ∀ (l : List (Int × Int)) (m : Int), tkL w s (l ++ [(wk, a)]) m = tkL w s l m ++ [(wk, a)] ∧ tkR w s (l ++ [(wk, a)]) m = tkR w s l m
  | [], m => by
    have : ¬ wk ≤ w := by omega
    simp [tkL, tkR, this]
  | (o, b) :: r, m => by
    have i1 := tk_late (s := s) (a := a) h r (m - mn b m)
    have i2 := tk_late (s := s) (a := a) h r m
    simp only [List.cons_append, tkL, tkR]
    split <;> simp [i1, i2]
theorem sv_late {s wk a : Int} : ∀ (ns l : List (Int × Int)), (∀ p ∈ ns, p.1 < wk) → svL s (l ++ [(wk, a)]) ns = svL s l ns ++ [(wk, a)] ∧ svR s (l ++ [(wk, a)]) ns = svR s l ns
  | [], l, _ => ⟨rfl, rfl⟩
  | (w, m) :: r, l, h => by
    have t := tk_late (s := s) (a := a) (h (w, m) List.mem_cons_self) l m
    have ih := sv_late (s := s) (wk := wk) (a := a) r (tkL w s l m) fun p hp => h p (List.mem_cons_of_mem _ hp)
    simp only [svL, svR, t.1, t.2]
    exact ⟨ih.1, by rw [ih.2]⟩
theorem svR_snoc {s w m : Int} : ∀ (ns l : List (Int × Int)), svR s l (ns ++ [(w, m)]) = svR s l ns ++ (tkR w s (svL s l ns) m).map fun p => (w, p)
  | [], l => by simp [svR, svL]
  | (w', m') :: r, l => by
    simp only [List.cons_append, svR, svL, svR_snoc r, List.append_assoc]
theorem tk_old {w s m : Int} : ∀ (l : List (Int × Int)), (∀ p ∈ l, p.1 + s ≤ w) → tkR w s l m = []
  | [], _ => rfl
  | (o, b) :: r, h => by
    have h1 := h (o, b) List.mem_cons_self
    have : ¬ w < o + s := by simp at h1; omega
    simp only [tkR, this, and_false, false_and, if_false]
    exact tk_old r fun p hp => h p (List.mem_cons_of_mem _ hp)
theorem tk_oldS {w s m : Int} (m0 : 1 ≤ m) (s0 : 1 ≤ s) : ∀ (l : List (Int × Int)), (∀ p ∈ l, p.1 + s ≤ w) → tkR w s (l ++ [(w, 1)]) m = [(w, 1)]
  | [], _ => by
    have h1 : w < w + s := by omega
    have h2 : mn 1 m = 1 := by unfold mn; split <;> omega
    simp [tkR, h1, h2]
  | (o, b) :: r, h => by
    have h1 := h (o, b) List.mem_cons_self
    have : ¬ w < o + s := by simp at h1; omega
    simp only [List.cons_append, tkR, this, and_false, false_and, if_false]
    exact tk_oldS m0 s0 r fun p hp => h p (List.mem_cons_of_mem _ hp)
end Cb
namespace Cb
open PySem PySem.Spec PyProof.Rows L2
/-! ### a week later -/
def lat1 (p : Int × Int) : Int × Int := (p.1 + 1, p.2)
def lat2 (p : Int × Int) : Int × Int := (p.1 + 1, p.2 + 1)
def lat3 (t : Rw) : Rw := (t.1 + 1, t.2.1 + 1, t.2.2)
theorem tk_sh (w s : Int) : ∀ (l : List (Int × Int)) (n : Int), tkL (w + 1) s (l.map lat1) n = (tkL w s l n).map lat1 ∧ tkR (w + 1) s (l.map lat1) n = (tkR w s l n).map lat1 ∧ tkN (w + 1) s (l.map lat1) n = tkN w s l n
  | [], n => ⟨rfl, rfl, rfl⟩
  | (o, a) :: r, n => by
    have i1 := tk_sh w s r (n - mn a n)
    have i2 := tk_sh w s r n
    have e : (o + 1 ≤ w + 1 ∧ w + 1 < o + 1 + s) ↔ (o ≤ w ∧ w < o + s) := by omega
    simp only [List.map_cons, lat1, tkL, tkR, tkN, e]
    split
    · simp only [List.map_cons, lat1]
      exact ⟨by rw [← i1.1], by rw [← i1.2.1], i1.2.2⟩
    · simp only [List.map_cons, lat1]
      exact ⟨by rw [← i2.1], i2.2.1, i2.2.2⟩
theorem sv_sh (s : Int) : ∀ (ns l : List (Int × Int)), svL s (l.map lat1) (ns.map lat1) = (svL s l ns).map lat1 ∧ svR s (l.map lat1) (ns.map lat1) = (svR s l ns).map lat3 ∧ lk2 s (l.map lat1) (ns.map lat1) = (lk2 s l ns).map lat1
  | [], l => ⟨rfl, rfl, rfl⟩
  | (w, m) :: r, l => by
    have t := tk_sh w s l m
    have ih := sv_sh s r (tkL w s l m)
    simp only [List.map_cons]
    rw [show lat1 (w, m) = (w + 1, m) from rfl]
    simp only [svL, svR, lk2, t.1, t.2.1, t.2.2, ih.1, ih.2.1, ih.2.2]
    refine ⟨trivial, ?_, ?_⟩
    · rw [List.map_append, List.map_map, List.map_map]
      rfl
    · split
      · rfl
      · rfl
theorem lst_sh : ∀ (xs : List Int) (f : Int), lst (xs.map (· + 1)) (f + 1) = lst xs f + 1
  | [], f => rfl
  | x :: r, f => by
    have e : (if x + 1 < f + 1 then x + 1 else f + 1) = (if x < f then x else f) + 1 := by split <;> split <;> omega
    have ih := lst_sh r (if x < f then x else f)
    unfold lst at ih ⊢
    rw [List.map_cons, List.foldl_cons, List.foldl_cons, e, ih]
theorem wd_sh (R : List Rw) (s w f : Int) : wdF (R.map lat3) s (w + 1) (f + 1) = wdF R s w f + 1 := by
  have : ∀ R : List Rw, ((R.map lat3).filter fun t => tch s (f + 1) (w + 1) t.2.1).map (·.1) = ((R.filter fun t => tch s f w t.2.1).map (·.1)).map (· + 1) := by
    intro R
    induction R with
    | nil => rfl
    | cons t r ih =>
      have e : tch s (f + 1) (w + 1) (lat3 t).2.1 = tch s f w t.2.1 := by
        rw [Bool.eq_iff_iff, tch_iff, tch_iff]
        simp only [lat3]
        omega
      rw [List.map_cons, List.filter_cons, List.filter_cons, e]
      split
      · rw [List.map_cons, List.map_cons, List.map_cons, ih]
        rfl
      · exact ih
  unfold wdF
  rw [this, lst_sh]
theorem it_sh {h h' : Int → Int} (e : ∀ f, h' (f + 1) = h f + 1) : ∀ n f, itF h' n (f + 1) = itF h n f + 1
  | 0, f => rfl
  | n + 1, f => by rw [itF, itF, e, it_sh e n]
theorem cl_sh (R : List Rw) (s w : Int) : clW (R.map lat3) s (w + 1) = clW R s w + 1 := it_sh (wd_sh R s w) 20 w
theorem mrg_sh : ∀ (acc : List (Int × Int)) (p : Int × Int), mrg (acc.map lat2) (lat2 p) = (mrg acc p).map lat2
  | [], p => rfl
  | (f1, l1) :: r, (f, l) => by
    have e1 : (if f1 + 1 < f + 1 then f1 + 1 else f + 1) = (if f1 < f then f1 else f) + 1 := by split <;> split <;> omega
    have e2 : (if l1 + 1 < l + 1 then l + 1 else l1 + 1) = (if l1 < l then l else l1) + 1 := by split <;> split <;> omega
    have e3 : (f + 1 ≤ l1 + 1) ↔ f ≤ l1 := by omega
    have ih := mrg_sh r (if f1 < f then f1 else f, if l1 < l then l else l1)
    rw [List.map_cons, show lat2 (f1, l1) = (f1 + 1, l1 + 1) from rfl, show lat2 (f, l) = (f + 1, l + 1) from rfl, mrg, mrg]
    simp only [e1, e2, e3]
    split
    · exact ih
    · rfl
theorem nwA_sh (R : List Rw) (s : Int) : ∀ (lk acc : List (Int × Int)), nwA (R.map lat3) s (acc.map lat2) (lk.map lat1) = (nwA R s acc lk).map lat2
  | [], acc => rfl
  | p :: r, acc => by
    have ih := nwA_sh R s r (mrg acc (clW R s p.1, p.1))
    rw [List.map_cons, nwA, nwA, show (lat1 p).1 = p.1 + 1 from rfl, cl_sh, show (clW R s p.1 + 1, p.1 + 1) = lat2 (clW R s p.1, p.1) from rfl, mrg_sh, ih]
theorem nw_sh (s : Int) (cs ns : List (Int × Int)) : nwR s (cs.map lat1) (ns.map lat1) = (nwR s cs ns).map lat2 := by
  have t := sv_sh s ns cs
  unfold nwR
  rw [t.2.1, t.2.2, show ([] : List (Int × Int)) = [].map lat2 from rfl, nwA_sh, List.map_reverse]
  rfl
theorem rows_sh1 {most : Int} {rs : List (Int × Int)} (h : LRows most rs) (hm : most ≤ 99) : Rows (rs.map lat1) where
  up := List.pairwise_map.mpr (h.up.imp fun {a b} hab => by simp only [lat1]; omega)
  wk := fun p hp => by
    obtain ⟨q, hq, rfl⟩ := List.mem_map.mp hp
    have := h.wk q hq
    simp only [lat1]
    omega
  len := by have := h.len; simp; omega
end Cb
namespace Cb
open PySem PySem.Spec PyProof.Rows L2
/-! ### no row of exchanges leads to one need more -/
theorem anyB7 : ∀ bs : List Bool, anyD (.list (bs.map .bool)) = .ok (.bool (bs.any id)) := fun bs => by simp only [anyD, blsO_map]
section
variable {P : List (Int × Int)} {L W : List Int} {s : Int} {I : Int → Prop}
abbrev st9 (P : List (Int × Int)) (L W : List Int) (s : Int) (m : Sl) (a5 a6 a7 a8 : Sl) : DS := [.im (rowsD P), .im (.list (L.map .int)), .im (.list (W.map .int)), .im (.int s), m, a5, a6, a7, a8]
theorem itR1_gen {f : ES} {ds : DS} {m : Int} {n : Nat} (h : f ds = .ok (.int m)) (h0 : 0 ≤ m) (h1 : m ≤ 100000) (e2 : m.toNat = n) : itR1 f ds = .ok (rangeD 0 n) := by
  have e : in62 m = true := by
    unfold in62
    rw [Bool.and_eq_true, decide_eq_true_eq, decide_eq_true_eq]
    constructor <;> omega
  unfold itR1
  rw [h, R.ok_bind]
  simp only [e, if_true, e2]
theorem more_any {met : List Int} {w o : Int} {a5 a8 : Sl} (hm : met.length ≤ 100000) :
    bS (op1 anyD (lcS (itO 4) [8] (.nm 8) yesB (chI leI ltI (vP 7) (vP 8) (op2 addI (vP 7) (vP 3))))) (st9 P L W s (.ow (.list (met.map .int))) a5 (.im (.int w)) (.im (.int o)) a8) = .ok (met.any fun x => gd x s o) := by
  have z := lcGo_fm (k := .nm 8) (ft := yesB) (fe := chI leI ltI (vP 7) (vP 8) (op2 addI (vP 7) (vP 3))) (ds := wipeD (st9 P L W s (.ow (.list (met.map .int))) a5 (.im (.int w)) (.im (.int o)) a8) [8]) PyData.int (fun _ => true) (fun x => PyData.bool (gd x s o)) (xs := met) (fun x hx => ⟨_, rfl, rfl, fun _ => by
    by_cases h1 : o ≤ x
    · simp [wipeD, setS, setN, parPP, parNP, parPN, parNN, toO, toB, ifS, retS, exS, appS, extS, dputS, frzS, nxS, vP, vT, cS, op1, op2, gI, addI, subI, mulI, divI, modI, powI, ltI, leI, gtI, geI, minI, maxI, bS, bO, andB, orB, notB, andV, orV, notV, chI, ifE, tupS, lstS, nilA, consA, callS, callK, isiS, lenD, intD, ixD, atR, dgetD, big, plS, plainD, gd, h1]
    · simp [wipeD, setS, setN, parPP, parNP, parPN, parNN, toO, toB, ifS, retS, exS, appS, extS, dputS, frzS, nxS, vP, vT, cS, op1, op2, gI, addI, subI, mulI, divI, modI, powI, ltI, leI, gtI, geI, minI, maxI, bS, bO, andB, orB, notB, andV, orV, notV, chI, ifE, tupS, lstS, nilA, consA, callS, callK, isiS, lenD, intD, ixD, atR, dgetD, big, plS, plainD, gd, h1]⟩)
  rw [List.filter_eq_self.mpr (fun _ _ => rfl)] at z
  have hb : met.length ≤ 1000000 := by omega
  have e := anyB7 (met.map fun x => gd x s o)
  rw [List.map_map] at e
  have e : anyD (.list (met.map fun x => PyData.bool (gd x s o))) = .ok (.bool ((met.map fun x => gd x s o).any id)) := e
  have hi : itO 4 (st9 P L W s (.ow (.list (met.map .int))) a5 (.im (.int w)) (.im (.int o)) a8) = .ok (met.map .int) := rfl
  unfold bS op1 lcS
  rw [hi, R.ok_bind, List.length_map, if_pos (by simpa [big] using hb), z, R.ok_bind, R.ok_bind, e]
  simp [bO, List.any_map, Function.comp_def]
theorem more_in (hI : ∀ p ∈ P, ∀ x, I x → gd x s p.2 = true → I p.1) : ∀ (post : List (Int × Int)) (met : List Int) (a5 a6 a7 a8 : Sl), (∀ p ∈ post, p ∈ P) → (∀ x ∈ met, I x) → met.length + post.length ≤ 90000 →
    ∃ (met' : List Int) (a6' a7' a8' : Sl), (∀ x ∈ met', I x) ∧ met'.length ≤ met.length + post.length ∧ forGo (.pr 6 7) g__law_more_2b_1B (post.map rowD) (st9 P L W s (.ow (.list (met.map .int))) a5 a6 a7 a8) = .nx (st9 P L W s (.ow (.list (met'.map .int))) a5 a6' a7' a8')
  | [], met, a5, a6, a7, a8, _, h, _ => ⟨met, a6, a7, a8, h, by simp, rfl⟩
  | (w, o) :: r, met, a5, a6, a7, a8, hp, h, hl => by
    have hlr : met.length + r.length + 1 ≤ 90000 := by simp at hl; omega
    have key : ∃ (met1 : List Int), (∀ x ∈ met1, I x) ∧ met1.length ≤ met.length + 1 ∧ g__law_more_2b_1B (st9 P L W s (.ow (.list (met.map .int))) a5 (.im (.int w)) (.im (.int o)) a8) = .nx (st9 P L W s (.ow (.list (met1.map .int))) a5 (.im (.int w)) (.im (.int o)) a8) := by
      have an := more_any (P := P) (L := L) (W := W) (s := s) (met := met) (w := w) (o := o) (a5 := a5) (a8 := a8) (by omega)
      have ni : ∃ b, bS (op2 ninlD (vP 6) (vT 4)) (st9 P L W s (.ow (.list (met.map .int))) a5 (.im (.int w)) (.im (.int o)) a8) = .ok b := by
        refine ⟨!(met.map PyData.int).any fun z => PyData.eqv z (.int w), ?_⟩
        simp [bS, op2, vP, vT, ninlD, shInts, sh_int, bO]
      obtain ⟨b, ni⟩ := ni
      have hb : met.length ≤ 1000000 := by omega
      cases b with
      | false =>
        refine ⟨met, h, by omega, ?_⟩
        simp [g__law_more_2b_1B, g__law_more_2b_1b_1, ifS, andB, ni, toB, nxS]
      | true =>
        cases ha : met.any fun x => gd x s o with
        | false =>
          refine ⟨met, h, by omega, ?_⟩
          simp [g__law_more_2b_1B, g__law_more_2b_1b_1, ifS, andB, ni, an, ha, toB, nxS]
        | true =>
          obtain ⟨x, hx, g⟩ := List.any_eq_true.mp ha
          refine ⟨met ++ [w], ?_, by simp, ?_⟩
          · intro y hy
            rcases List.mem_append.mp hy with hy | hy
            · exact h y hy
            · rw [List.mem_singleton.mp hy]
              exact hI (w, o) (hp _ List.mem_cons_self) x (h x hx) g
          · simp [g__law_more_2b_1B, g__law_more_2b_1b_1, ifS, andB, ni, an, ha, toB, g__law_more_2b_1b_1t_1, appS, vP, toO, hb, big]
    obtain ⟨met1, h1, l1, e1⟩ := key
    obtain ⟨met', a6', a7', a8', h2, l2, e2⟩ := more_in hI r met1 a5 (.im (.int w)) (.im (.int o)) a8 (fun p hq => hp p (List.mem_cons_of_mem _ hq)) h1 (by omega)
    refine ⟨met', a6', a7', a8', h2, by simp; omega, ?_⟩
    rw [List.map_cons, forGo_cons (ds1 := st9 P L W s (.ow (.list (met.map .int))) a5 (.im (.int w)) (.im (.int o)) a8) rfl e1, e2]
theorem V_more (hI : ∀ p ∈ P, ∀ x, I x → gd x s p.2 = true → I p.1) (h0 : ∀ x ∈ W, I x) (hL : ∀ x, I x → ∀ o ∈ L, gd x s o = false) (lP : P.length ≤ 200) (lW : W.length ≤ 200) (lL : L.length ≤ 100000) : V__law_more [rowsD P, .list (L.map .int), .list (W.map .int), .int s] = .ok (.bool false) := by
  have s1 : g__law_more_1 (st9 P L W s .no .no .no .no .no) = .nx (st9 P L W s (.ow (.list (W.map .int))) .no .no .no .no) := rfl
  obtain ⟨ds2, s2, met, b5, b6, b7, b8, hm, lm, rfl⟩ := for_inv (k := .nm 5) (b := g__law_more_2B) (fi := itR1 (op2 addI (op1 lenD (vP 0)) (cS (.int 1)))) (items := rangeD 0 (P.length + 1)) (ds := st9 P L W s (.ow (.list (W.map .int))) .no .no .no .no)
    (fun i ds => ∃ (met : List Int) (a5 a6 a7 a8 : Sl), (∀ x ∈ met, I x) ∧ met.length ≤ W.length + i * P.length ∧ ds = st9 P L W s (.ow (.list (met.map .int))) a5 a6 a7 a8) (itR1_gen (m := (P.length : Int) + 1) (by simp [op2, op1, vP, cS, lenD, addI, gI, rowsD]) (by omega) (by omega) (by omega)) ⟨W, .no, .no, .no, .no, h0, by simp, rfl⟩ (by
      rintro i ds x hx ⟨met, a5, a6, a7, a8, hm, lm, rfl⟩
      obtain ⟨hi, rfl⟩ := range_at hx
      refine ⟨_, rfl, ?_⟩
      have hmul : i * P.length ≤ 201 * 200 := Nat.mul_le_mul (by omega) lP
      obtain ⟨met', a6', a7', a8', h2, l2, e2⟩ := more_in (L := L) (W := W) hI P met (.im (.int (0 + (i : Nat)))) a6 a7 a8 (fun _ h => h) hm (by omega)
      refine ⟨_, e2, met', _, a6', a7', a8', h2, ?_, rfl⟩
      rw [Nat.add_mul]
      omega)
  have hr : (rangeD 0 (P.length + 1)).length = P.length + 1 := rangeD_len _ _
  rw [hr] at lm
  have hmul : (P.length + 1) * P.length ≤ 201 * 200 := Nat.mul_le_mul (by omega) lP
  have s3 : ∀ (post : List Int) (a6 a7 : Sl), (∀ x ∈ post, I x) → ∃ a6' a7', forGo (.nm 6) g__law_more_3B (post.map .int) (st9 P L W s (.im (.list (met.map .int))) b5 a6 a7 b8) = .nx (st9 P L W s (.im (.list (met.map .int))) b5 a6' a7' b8) := by
    intro post
    induction post with
    | nil => intro a6 a7 _; exact ⟨a6, a7, rfl⟩
    | cons w r ih =>
      intro a6 a7 h
      have z := lcGo_fm (k := .nm 7) (ft := yesB) (fe := chI leI ltI (vP 7) (vP 6) (op2 addI (vP 7) (vP 3))) (ds := wipeD (st9 P L W s (.im (.list (met.map .int))) b5 (.im (.int w)) a7 b8) [7]) PyData.int (fun _ => true) (fun o => PyData.bool (gd w s o)) (xs := L) (fun o ho => ⟨_, rfl, rfl, fun _ => by
        by_cases h1 : o ≤ w
        · simp [wipeD, setS, setN, parPP, parNP, parPN, parNN, toO, toB, ifS, retS, exS, appS, extS, dputS, frzS, nxS, vP, vT, cS, op1, op2, gI, addI, subI, mulI, divI, modI, powI, ltI, leI, gtI, geI, minI, maxI, bS, bO, andB, orB, notB, andV, orV, notV, chI, ifE, tupS, lstS, nilA, consA, callS, callK, isiS, lenD, intD, ixD, atR, dgetD, big, plS, plainD, gd, h1]
        · simp [wipeD, setS, setN, parPP, parNP, parPN, parNN, toO, toB, ifS, retS, exS, appS, extS, dputS, frzS, nxS, vP, vT, cS, op1, op2, gI, addI, subI, mulI, divI, modI, powI, ltI, leI, gtI, geI, minI, maxI, bS, bO, andB, orB, notB, andV, orV, notV, chI, ifE, tupS, lstS, nilA, consA, callS, callK, isiS, lenD, intD, ixD, atR, dgetD, big, plS, plainD, gd, h1]⟩)
      rw [List.filter_eq_self.mpr (fun _ _ => rfl)] at z
      have e := anyB7 (L.map fun o => gd w s o)
      rw [List.map_map] at e
      have e : anyD (.list (L.map fun o => PyData.bool (gd w s o))) = .ok (.bool ((L.map fun o => gd w s o).any id)) := e
      have hn : ((L.map fun o => gd w s o).any id) = false := by
        rw [List.any_eq_false]
        intro b hb
        obtain ⟨o, ho, rfl⟩ := List.mem_map.mp hb
        simp [hL w (h w List.mem_cons_self) o ho]
      rw [hn] at e
      have hi : itL (vP 1) (st9 P L W s (.im (.list (met.map .int))) b5 (.im (.int w)) a7 b8) = .ok (L.map .int) := rfl
      have t : bS (op1 anyD (lcS (itL (vP 1)) [7] (.nm 7) yesB (chI leI ltI (vP 7) (vP 6) (op2 addI (vP 7) (vP 3))))) (st9 P L W s (.im (.list (met.map .int))) b5 (.im (.int w)) a7 b8) = .ok false := by
        unfold bS op1 lcS
        rw [hi, R.ok_bind, List.length_map, if_pos (by simp [big]; omega), z, R.ok_bind, R.ok_bind, e]
        rfl
      have e1 : g__law_more_3B (st9 P L W s (.im (.list (met.map .int))) b5 (.im (.int w)) a7 b8) = .nx (st9 P L W s (.im (.list (met.map .int))) b5 (.im (.int w)) a7 b8) := by
        simp [g__law_more_3B, g__law_more_3b_1, ifS, t, toB, nxS]
      obtain ⟨c6, c7, e2⟩ := ih (.im (.int w)) a7 fun x hx => h x (List.mem_cons_of_mem _ hx)
      refine ⟨c6, c7, ?_⟩
      rw [List.map_cons, forGo_cons (ds1 := st9 P L W s (.im (.list (met.map .int))) b5 (.im (.int w)) a7 b8) rfl e1, e2]
  obtain ⟨c6, c7, e3⟩ := s3 met b6 b7 hm
  have s3' : g__law_more_3 (st9 P L W s (.im (.list (met.map .int))) b5 b6 b7 b8) = .nx (st9 P L W s (.im (.list (met.map .int))) b5 c6 c7 b8) := by
    rw [← e3]
    rfl
  show bodyS 9 _ g__law_more _ = _
  rw [bodyS, g__law_more, show startS 9 [false, false, false, false] [rowsD P, .list (L.map .int), .list (W.map .int), .int s] = st9 P L W s .no .no .no .no .no from rfl, seq_nx s1, seq_nx (show g__law_more_2 _ = _ from s2)]
  have f : frzS 4 (seqS g__law_more_3 g__law_more_4) (st9 P L W s (.ow (.list (met.map .int))) b5 b6 b7 b8) = seqS g__law_more_3 g__law_more_4 (st9 P L W s (.im (.list (met.map .int))) b5 b6 b7 b8) := rfl
  rw [f, seq_nx s3']
  rfl
end
end Cb
namespace Cb
open PySem PySem.Spec PyProof.Rows L2
theorem cut_take {α : Type} (xs : List α) (k : Nat) : cutL xs none (some ((k : Int))) = xs.take k := by
  unfold cutL
  rw [HT.sIx_none, HT.sIx_nat, List.drop_zero, Nat.sub_zero]
  rcases Nat.le_total k xs.length with h | h
  · rw [Nat.min_eq_left h]
  · rw [Nat.min_eq_right h, List.take_of_length_le h, List.take_of_length_le (Nat.le_refl _)]
theorem LRows.take {most : Int} {rs : List (Int × Int)} (h : LRows most rs) (k : Nat) : LRows most (rs.take k) where
  up := h.up.sublist (List.take_sublist k rs)
  wk := fun p hp => h.wk p (List.mem_of_mem_take hp)
  len := by have := h.len; rw [List.length_take]; omega
theorem LRows.more {most wk m : Int} {rs : List (Int × Int)} (h : LRows most rs) (hm : most ≤ 99) (h1 : 60 ≤ wk) (h2 : wk < 69) (m1 : 1 ≤ m) (m2 : m ≤ 99) : Rows (rs ++ [(wk, m)]) where
  up := List.pairwise_append.mpr ⟨h.up, List.pairwise_singleton _ _, fun a ha b hb => by
    rw [List.mem_singleton.mp hb]
    have := (h.wk a ha).2.1
    show a.1 < wk
    omega⟩
  wk := fun p hp => by
    rcases List.mem_append.mp hp with hp | hp
    · have := h.wk p hp
      omega
    · rw [List.mem_singleton.mp hp]
      show 0 ≤ wk ∧ wk ≤ 99 ∧ 1 ≤ m ∧ m ≤ 99
      omega
  len := by have := h.len; simp; omega
theorem ints_sum (ns : List Int) : sumD (.list (ns.map .int)) = .ok (.int ns.sum) := by simp only [sumD, intsO_map]
/-- sum([row[2] for row in ..]) -/
theorem sum_row {fe : ES} {ds : DS} {Rs : List Rw} (h : fe ds = .ok (.list (Rs.map row3D))) (hl : Rs.length ≤ 9000) (hd : 12 < ds.length) :
    op1 sumD (lcS (itL fe) [12] (.nm 12) yesB (op2 ixD (vP 12) (cS (.int 2)))) ds = .ok (.int (sR (fun _ _ => true) Rs)) := by
  have z := lcGo_fm (k := .nm 12) (ft := yesB) (fe := op2 ixD (vP 12) (cS (.int 2))) (ds := wipeD ds [12]) row3D (fun _ => true) (fun t => .int t.2.2) (xs := Rs) (fun t ht => ⟨_, rfl, rfl, fun _ => by
    have hg : ((wipeD ds [12]).set 12 (.im (row3D t)))[12]? = some (.im (row3D t)) := by
      rw [List.getElem?_set_self (by simpa [wipeD] using hd)]
    simp only [op2, vP, hg, cS, R.ok_bind]
    rfl⟩)
  rw [List.filter_eq_self.mpr (fun _ _ => rfl)] at z
  have e := ints_sum (Rs.map fun t => t.2.2)
  rw [List.map_map, sum_sR] at e
  have hb : Rs.length ≤ 1000000 := by omega
  unfold op1 lcS itL
  rw [h]
  simp only [R.ok_bind, List.length_map, big, if_pos hb]
  rw [z, R.ok_bind]
  exact e
theorem eq_rows3 (Rs : List Rw) : neD (.list (Rs.map row3D)) (.list (Rs.map row3D)) = .ok (.bool false) := by
  unfold neD
  rw [sh3, eqv_self (sh3 Rs)]
  rfl
theorem eq_rows2 (l : List (Int × Int)) : eqD (rowsD l) (rowsD l) = .ok (.bool true) := by
  unfold eqD
  rw [rows_sh, eqv_self (rows_sh l)]
  rfl
theorem lt_int (i j : Int) : ltI (.int i) (.int j) = .ok (.bool (decide (i < j))) := rfl
theorem ne_int7 (i j : Int) : neD (.int i) (.int j) = .ok (.bool (!decide (i = j))) := by
  unfold neD
  rw [sh_int, sh_int]
  show (R.ok (PyData.bool (!(i == j))) : R PyData) = _
  rfl
theorem cat_one {l : List (Int × Int)} {w m : Int} (h : l.length ≤ 1000) : catD (rowsD l) (.list [.tuple [.int w, .int m]]) = .ok (rowsD (l ++ [(w, m)])) := by
  show (if (l.map rowD).length + [PyData.tuple [.int w, .int m]].length ≤ big then R.ok (PyData.list (l.map rowD ++ [.tuple [.int w, .int m]])) else R.bad) = _
  unfold rowsD
  rw [if_pos (show (l.map rowD).length + [PyData.tuple [.int w, .int m]].length ≤ big by simp only [List.length_map, List.length_singleton, big]; omega), List.map_append]
  rfl
theorem one_tup {f g : ES} {ds : DS} {x y : PyData} (hf : f ds = .ok x) (hg : g ds = .ok y) : lstS (consA (tupS (consA f (consA g nilA))) nilA) ds = .ok (.list [.tuple [x, y]]) := by
  simp only [lstS, consA, tupS, nilA, hf, hg, R.ok_bind]
  rfl
theorem if_or_ff {A B : DS → R Bool} {g1 g2 : DS → Out} {ds : DS} (hA : A ds = .ok false) (hB : B ds = .ok false) : ifS (orB A B) g1 g2 ds = g2 ds := by
  unfold ifS orB
  rw [hA, R.ok_bind, if_neg (by simp), hB]
  rfl
theorem bS_ff {f : ES} {ds : DS} {b : Bool} (h : f ds = .ok (.bool b)) : bS f ds = .ok b := by
  unfold bS
  rw [h]
  rfl
theorem law7_4 {D : DS} {M : Int} (h1 : (callS (consA (vP 4) (consA (vP 5) (consA (vP 6) (consA (vP 3) nilA)))) V__law_more []) D = .ok (.bool false)) (h2 : op1 lenD (vP 4) D = .ok (.int M)) (h3 : (op1 sumD (lcS (itL (callS (consA (vP 1) (consA (vP 2) (consA (vP 3) nilA))) V_served [])) [12] (.nm 12) yesB (op2 ixD (vP 12) (cS (.int 2))))) D = .ok (.int M)) : g_law_4 D = .nx D := by
  have t2 : bS (op2 neD (op1 lenD (vP 4)) (op1 sumD (lcS (itL (callS (consA (vP 1) (consA (vP 2) (consA (vP 3) nilA))) V_served [])) [12] (.nm 12) yesB (op2 ixD (vP 12) (cS (.int 2)))))) D = .ok false := by
    unfold bS
    rw [op2, h2, R.ok_bind, h3, R.ok_bind, ne_int7, decide_eq_true rfl]
    rfl
  exact if_or_ff (bS_ff h1) t2
theorem call4 {f g h k : ES} {V : List PyData → R PyData} {ds : DS} {a b c d r : PyData} (hf : f ds = .ok a) (hg : g ds = .ok b) (hh : h ds = .ok c) (hk : k ds = .ok d) (hv : V [a, b, c, d] = .ok r) : callS (consA f (consA g (consA h (consA k nilA)))) V [] ds = .ok r := by
  simp only [callS, consA, nilA, hf, hg, hh, hk, R.ok_bind, List.append_nil, hv]
theorem V_law_true (xs : List Int) (hl : xs.length ≤ 63) : V_law [.list (xs.map .int)] = .ok (.bool true) := by
  obtain ⟨cs0, hc0, ec⟩ := V_lrows xs hl (a := 0) (most := 3) (by omega) (by omega) (by omega)
  obtain ⟨ns0, hn0, en⟩ := V_lrows xs hl (a := 30) (most := 3) (by omega) (by omega) (by omega)
  obtain ⟨q, q0, q1, eq⟩ := pick_ok xs hl (k := 60) (m := 4) (by omega) (by omega) (by omega)
  obtain ⟨u, u0, u1, eu⟩ := pick_ok xs hl (k := 61) (m := 9) (by omega) (by omega) (by omega)
  have hc := hc0.take 5
  have hn := hn0.take 5
  have tc : cutL (cs0.map rowD) none (some 5) = (cs0.take 5).map rowD := by rw [show (5 : Int) = ((5 : Nat) : Int) from rfl, cut_take, List.map_take]
  have tn : cutL (ns0.map rowD) none (some 5) = (ns0.take 5).map rowD := by rw [show (5 : Int) = ((5 : Nat) : Int) from rfl, cut_take, List.map_take]
  generalize cs0.take 5 = cs at hc tc
  generalize ns0.take 5 = ns at hn tn
  have Rc := hc.rows (by omega)
  have Rn := hn.rows (by omega)
  have lc := hc.len
  have ln := hn.len
  have hs1 : 1 ≤ 1 + q := by omega
  have hs2 : 1 + q ≤ 4 := by omega
  generalize hS : (1 + q : Int) = s at hs1 hs2
  have hw1 : 60 ≤ 60 + u := by omega
  have hw2 : 60 + u < 69 := by omega
  generalize hW : (60 + u : Int) = wk at hw1 hw2
  have upc := rows_pw Rc
  have upn := rows_pw Rn
  have c0 : ∀ p ∈ cs, 0 ≤ p.2 := fun p hp => by have := (Rc.wk p hp).2.2.1; omega
  have n0 : ∀ p ∈ ns, 0 ≤ p.2 := fun p hp => by have := (Rn.wk p hp).2.2.1; omega
  have lk := lkR_lk2 s ns cs upn n0
  have N := nw_ok (s := s) (by omega) upc upn (by omega)
  have vl := V_lacking_ok Rc Rn hs1 hs2
  rw [lk] at vl
  have vn := V_nar Rc Rn hs1 hs2
  have vs := V_srv Rc Rn hs1 hs2
  have vu := V_units (cs := cs) (ns := ns) s (fun p hp => ⟨c0 p hp, by have := (hc.wk p hp).2.2.2; omega⟩) (fun p hp => ⟨n0 p hp, by have := (hn.wk p hp).2.2.2; omega⟩) (by omega) (by omega)
  have l5 := lk2_len s ns cs
  have rl := svR_len s ns cs
  have rl2 : (svR s cs ns).length ≤ 49 := Nat.le_trans rl (Nat.mul_le_mul lc ln)
  have r0 : ∀ t ∈ svR s cs ns, 0 ≤ t.2.2 := fun t ht => by have := (sv_good s ns cs t ht).2.1; omega
  have fl := flat_len (svR s cs ns) r0
  have cap : sR (fun _ _ => true) (svR s cs ns) ≤ 21 := by
    have := sv_need (fun _ => true) s ns cs n0
    have h2 : 0 ≤ sC (fun _ => true) (lk2 s cs ns) := sC_nn fun x hx => by have := (lk2_keys s ns cs x hx).2; omega
    have h3 : ∀ l : List (Int × Int), (∀ p ∈ l, p.2 ≤ 3) → sC (fun _ => true) l ≤ 3 * l.length := by
      intro l
      induction l with
      | nil => intro _; simp [sC]
      | cons p r ih =>
        intro h
        have i := ih fun p hp => h p (List.mem_cons_of_mem _ hp)
        have := h p List.mem_cons_self
        simp only [sC, if_true, List.length_cons]
        omega
    have h4 := h3 ns fun p hp => (hn.wk p hp).2.2.2
    omega
  -- no more
  have ul : (un (svL s cs ns)).length ≤ 100000 := by
    have e := congrArg List.length (svL_keys s ns cs)
    simp only [List.length_map] at e
    have := un_len (svL s cs ns) 3 fun p hp => by
      obtain ⟨a, ha, hb⟩ := svL_sub s ns cs p hp
      have := (hc.wk _ ha).2.2.2
      simp at this
      omega
    omega
  have vm := V_more (P := flat (svR s cs ns)) (L := un (svL s cs ns)) (W := (lk2 s cs ns).map (·.1)) (s := s) (I := fun x => ∃ p ∈ nwR s cs ns, p.1 ≤ x ∧ x ≤ p.2)
    (by
      rintro p hp x ⟨z, hz, z1, z2⟩ g
      unfold flat at hp
      obtain ⟨t, ht, hr⟩ := List.mem_flatMap.mp hp
      have hr := (List.mem_replicate.mp hr).2
      subst hr
      have g := gd_iff.mp g
      exact ⟨z, hz, (N.good z hz).gd.cl t ht (by have := g.1; simp at this; omega) (by have := g.2; simp at this; omega)⟩)
    (by
      intro x hx
      obtain ⟨p, hp, rfl⟩ := List.mem_map.mp hx
      obtain ⟨z, hz, z1, z2⟩ := N.cov p hp
      have := cl_le (R := svR s cs ns) (s := s) (w := p.1)
      exact ⟨z, hz, by omega, z2⟩)
    (by
      rintro x ⟨z, hz, z1, z2⟩ o ho
      obtain ⟨c, hc', rfl⟩ := List.mem_map.mp ((mem_un _ (svL_pos s ns cs c0) o).mp ho)
      obtain ⟨hc', pos⟩ := List.mem_filter.mp hc'
      have pos := of_decide_eq_true pos
      cases hg : gd x s c.1 with
      | false => rfl
      | true =>
        have g := gd_iff.mp hg
        have := (N.good z hz).gd.nl c hc' (by omega) (by omega)
        omega)
    (by omega) (by simp; omega) ul
  -- more needs, more coupons
  have Rm := hn.more (m := 2) (by omega) hw1 hw2 (by omega) (by omega)
  have Rd := hc.more (m := 1) (by omega) hw1 hw2 (by omega) (by omega)
  have v1 := V_srv Rd Rm hs1 hs2
  have v2 := V_srv Rc Rm hs1 hs2
  have nlt : ∀ p ∈ ns, p.1 < wk := fun p hp => by have := (hn.wk p hp).2.1; omega
  have old : ∀ p ∈ svL s cs ns, p.1 + s ≤ wk := fun p hp => by
    obtain ⟨a, ha, hb⟩ := svL_sub s ns cs p hp
    have := (hc.wk _ ha).2.1
    simp at this
    omega
  have e1 : svR s (cs ++ [(wk, 1)]) (ns ++ [(wk, 2)]) = svR s cs ns ++ [(wk, wk, 1)] := by
    rw [svR_snoc, (sv_late ns cs nlt).1, (sv_late ns cs nlt).2, tk_oldS (by omega) hs1 _ old]
    rfl
  have e2 : svR s cs (ns ++ [(wk, 2)]) = svR s cs ns := by
    rw [svR_snoc, tk_old _ old, List.map_nil, List.append_nil]
  rw [e1] at v1
  rw [e2] at v2
  have m1 : sR (fun _ _ => true) (svR s cs ns ++ [(wk, wk, 1)]) = sR (fun _ _ => true) (svR s cs ns) + 1 := by
    rw [sR_app]
    rfl
  -- later
  have Lc := rows_sh1 hc (by omega)
  have Ln := rows_sh1 hn (by omega)
  have v3 := V_srv Lc Ln hs1 hs2
  rw [(sv_sh s ns cs).2.1] at v3
  have v4 := V_nar Lc Ln hs1 hs2
  rw [nw_sh] at v4
  have v5 : s < 4 → V_served [rowsD cs, rowsD ns, .int (s + 1)] = .ok (.list ((svR (s + 1) cs ns).map row3D)) := fun h => V_srv Rc Rn (by omega) (by omega)
  have lg := sv_longer (s := s) (by omega) Rc Rn
  have rl5 : (svR (s + 1) cs ns).length ≤ 49 := Nat.le_trans (svR_len (s + 1) ns cs) (Nat.mul_le_mul lc ln)
  generalize hM : sR (fun _ _ => true) (svR s cs ns) = M at fl cap m1 lg
  have nwl : (nwR s cs ns).length ≤ 1000 := by
    have : ∀ (R : List Rw) (lk acc : List (Int × Int)), (nwA R s acc lk).length ≤ acc.length + lk.length := by
      intro R lk
      induction lk with
      | nil => intro acc; simp [nwA]
      | cons p r ih =>
        intro acc
        have := ih (mrg acc (clW R s p.1, p.1))
        have := mrg_len acc (clW R s p.1, p.1)
        rw [nwA]
        simp
        omega
    have := this (svR s cs ns) (lk2 s cs ns) []
    unfold nwR
    simp at this ⊢
    omega
  generalize hT : nwR s cs ns = told at vn v4 nwl
  have s1 : g_law_1 [.im (.list (xs.map .int)), .no, .no, .no, .no, .no, .no, .no, .no, .no, .no, .no, .no, .no, .no, .no, .no] = .nx [.im (.list (xs.map .int)), .im (rowsD cs), .im (rowsD ns), .im (.int s), .no, .no, .no, .no, .no, .no, .no, .no, .no, .no, .no, .no, .no] := by
    simp [g_law_1, par3, slL, noO, someO, setS, setN, parPP, parNP, parPN, parNN, toO, toB, ifS, retS, exS, appS, extS, dputS, frzS, nxS, vP, vT, cS, op1, op2, gI, addI, subI, mulI, divI, modI, powI, ltI, leI, gtI, geI, minI, maxI, bS, bO, andB, orB, notB, andV, orV, notV, chI, ifE, tupS, lstS, nilA, consA, callS, callK, isiS, lenD, intD, ixD, atR, dgetD, big, plS, plainD, ec, en, eq, hS, rowsD, tc, tn]
  have s2 : g_law_2 [.im (.list (xs.map .int)), .im (rowsD cs), .im (rowsD ns), .im (.int s), .no, .no, .no, .no, .no, .no, .no, .no, .no, .no, .no, .no, .no] = .nx [.im (.list (xs.map .int)), .im (rowsD cs), .im (rowsD ns), .im (.int s), .im (rowsD (flat (svR s cs ns))), .im (.list ((un (svL s cs ns)).map .int)), .no, .no, .no, .no, .no, .no, .no, .no, .no, .no, .no] := by
    simp [g_law_2, unpS, tgD, setS, setN, parPP, parNP, parPN, parNN, toO, toB, ifS, retS, exS, appS, extS, dputS, frzS, nxS, vP, vT, cS, op1, op2, gI, addI, subI, mulI, divI, modI, powI, ltI, leI, gtI, geI, minI, maxI, bS, bO, andB, orB, notB, andV, orV, notV, chI, ifE, tupS, lstS, nilA, consA, callS, callK, isiS, lenD, intD, ixD, atR, dgetD, big, plS, plainD, vu]
  have s3 : g_law_3 [.im (.list (xs.map .int)), .im (rowsD cs), .im (rowsD ns), .im (.int s), .im (rowsD (flat (svR s cs ns))), .im (.list ((un (svL s cs ns)).map .int)), .no, .no, .no, .no, .no, .no, .no, .no, .no, .no, .no] = .nx [.im (.list (xs.map .int)), .im (rowsD cs), .im (rowsD ns), .im (.int s), .im (rowsD (flat (svR s cs ns))), .im (.list ((un (svL s cs ns)).map .int)), .im (.list (((lk2 s cs ns).map (·.1)).map .int)), .no, .no, .no, .no, .no, .no, .no, .no, .no, .no] := by
    have z := lcGo_fm (k := .pr 8 7) (ft := yesB) (fe := vP 8) (ds := wipeD [.im (.list (xs.map .int)), .im (rowsD cs), .im (rowsD ns), .im (.int s), .im (rowsD (flat (svR s cs ns))), .im (.list ((un (svL s cs ns)).map .int)), .no, .no, .no, .no, .no, .no, .no, .no, .no, .no, .no] [8, 7]) rowD (fun _ => true) (fun q => .int q.1) (xs := lk2 s cs ns) (fun p hp => ⟨_, rfl, rfl, fun _ => rfl⟩)
    rw [List.filter_eq_self.mpr (fun _ _ => rfl)] at z
    have hb : (lk2 s cs ns).length ≤ 1000000 := by omega
    have hi : itL (callS (consA (vP 1) (consA (vP 2) (consA (vP 3) nilA))) V_lacking []) [.im (.list (xs.map .int)), .im (rowsD cs), .im (rowsD ns), .im (.int s), .im (rowsD (flat (svR s cs ns))), .im (.list ((un (svL s cs ns)).map .int)), .no, .no, .no, .no, .no, .no, .no, .no, .no, .no, .no] = .ok ((lk2 s cs ns).map rowD) := by
      have : callS (consA (vP 1) (consA (vP 2) (consA (vP 3) nilA))) V_lacking [] [.im (.list (xs.map .int)), .im (rowsD cs), .im (rowsD ns), .im (.int s), .im (rowsD (flat (svR s cs ns))), .im (.list ((un (svL s cs ns)).map .int)), .no, .no, .no, .no, .no, .no, .no, .no, .no, .no, .no] = .ok (rowsD (lk2 s cs ns)) := by
        simp only [callS, consA, nilA, vP, List.getElem?_cons_zero, List.getElem?_cons_succ, R.ok_bind, List.append_nil, vl]
      unfold itL
      rw [this]
      rfl
    simp only [g_law_3, setS, lcS, hi, R.ok_bind, List.length_map, big, if_pos hb, z]
    simp [toO, Function.comp_def]
  generalize hds : [Sl.im (.list (xs.map .int)), .im (rowsD cs), .im (rowsD ns), .im (.int s), .im (rowsD (flat (svR s cs ns))), .im (.list ((un (svL s cs ns)).map .int)), .im (.list (((lk2 s cs ns).map (·.1)).map .int)), .no, .no, .no, .no, .no, .no, .no, .no, .no, .no] = D3 at s3
  have s4 : g_law_4 D3 = .nx D3 := by
    have a := sum_row (fe := callS (consA (vP 1) (consA (vP 2) (consA (vP 3) nilA))) V_served []) (ds := D3) (Rs := svR s cs ns) (by rw [← hds]; simp [setS, setN, parPP, parNP, parPN, parNN, toO, toB, ifS, retS, exS, appS, extS, dputS, frzS, nxS, vP, vT, cS, op1, op2, gI, addI, subI, mulI, divI, modI, powI, ltI, leI, gtI, geI, minI, maxI, bS, bO, andB, orB, notB, andV, orV, notV, chI, ifE, tupS, lstS, nilA, consA, callS, callK, isiS, lenD, intD, ixD, atR, dgetD, big, plS, plainD, vs]) (by omega) (by rw [← hds]; simp)
    have b : callS (consA (vP 4) (consA (vP 5) (consA (vP 6) (consA (vP 3) nilA)))) V__law_more [] D3 = .ok (.bool false) := by
      have e4 : vP 4 D3 = .ok (rowsD (flat (svR s cs ns))) := by rw [← hds]; rfl
      have e5 : vP 5 D3 = .ok (.list ((un (svL s cs ns)).map .int)) := by rw [← hds]; rfl
      have e6 : vP 6 D3 = .ok (.list (((lk2 s cs ns).map (·.1)).map .int)) := by rw [← hds]; rfl
      have e3 : vP 3 D3 = .ok (.int s) := by rw [← hds]; rfl
      exact call4 e4 e5 e6 e3 vm
    have c : op1 lenD (vP 4) D3 = .ok (.int M) := by
      rw [← hds, ← fl]
      simp [op1, vP, lenD, rowsD]
    rw [hM] at a
    exact law7_4 b c a
  have s5 : g_law_5 D3 = .nx (D3.set 7 (.im (.int M))) := by
    have c : op1 lenD (vP 4) D3 = .ok (.int M) := by
      rw [← hds, ← fl]
      simp [op1, vP, lenD, rowsD]
    unfold g_law_5 setS
    rw [c]
    rfl
  have s6 : g_law_6 (D3.set 7 (.im (.int M))) = .nx ((D3.set 7 (.im (.int M))).set 8 (.im (.int wk))) := by
    rw [← hds]
    simp [g_law_6, setS, setN, parPP, parNP, parPN, parNN, toO, toB, ifS, retS, exS, appS, extS, dputS, frzS, nxS, vP, vT, cS, op1, op2, gI, addI, subI, mulI, divI, modI, powI, ltI, leI, gtI, geI, minI, maxI, bS, bO, andB, orB, notB, andV, orV, notV, chI, ifE, tupS, lstS, nilA, consA, callS, callK, isiS, lenD, intD, ixD, atR, dgetD, big, plS, plainD, eu, hW]
  have s7 : g_law_7 ((D3.set 7 (.im (.int M))).set 8 (.im (.int wk))) = .nx (((D3.set 7 (.im (.int M))).set 8 (.im (.int wk))).set 9 (.im (rowsD (ns ++ [(wk, 2)])))) := by
    have a : vP 2 ((D3.set 7 (.im (.int M))).set 8 (.im (.int wk))) = .ok (rowsD ns) := by rw [← hds]; rfl
    have b := one_tup (f := vP 8) (g := cS (.int 2)) (ds := (D3.set 7 (.im (.int M))).set 8 (.im (.int wk))) (x := .int wk) (y := .int 2) (by rw [← hds]; rfl) rfl
    unfold g_law_7 setS
    rw [op2, a, R.ok_bind, b, R.ok_bind, cat_one (by omega)]
    rfl
  have hd8 : ((D3.set 7 (.im (.int M))).set 8 (.im (.int wk))).set 9 (.im (rowsD (ns ++ [(wk, 2)]))) = [Sl.im (.list (xs.map .int)), .im (rowsD cs), .im (rowsD ns), .im (.int s), .im (rowsD (flat (svR s cs ns))), .im (.list ((un (svL s cs ns)).map .int)), .im (.list (((lk2 s cs ns).map (·.1)).map .int)), .im (.int M), .im (.int wk), .im (rowsD (ns ++ [(wk, 2)])), .no, .no, .no, .no, .no, .no, .no] := by
    rw [← hds]
    rfl
  rw [hd8] at s7
  generalize hd9 : [Sl.im (.list (xs.map .int)), .im (rowsD cs), .im (rowsD ns), .im (.int s), .im (rowsD (flat (svR s cs ns))), .im (.list ((un (svL s cs ns)).map .int)), .im (.list (((lk2 s cs ns).map (·.1)).map .int)), .im (.int M), .im (.int wk), .im (rowsD (ns ++ [(wk, 2)])), .no, .no, .no, .no, .no, .no, .no] = D7 at s7
  have v7 : vP 7 D7 = .ok (.int M) := by rw [← hd9]; rfl
  have s8 : g_law_8 D7 = .nx D7 := by
    have a := sum_row (fe := callS (consA (op2 catD (vP 1) (lstS (consA (tupS (consA (vP 8) (consA (cS (.int 1)) nilA))) nilA))) (consA (vP 9) (consA (vP 3) nilA))) V_served []) (ds := D7) (Rs := svR s cs ns ++ [(wk, wk, 1)]) (by
      have a : vP 1 D7 = .ok (rowsD cs) := by rw [← hd9]; rfl
      have b := one_tup (f := vP 8) (g := cS (.int 1)) (ds := D7) (x := .int wk) (y := .int 1) (by rw [← hd9]; rfl) rfl
      have a9 : vP 9 D7 = .ok (rowsD (ns ++ [(wk, 2)])) := by rw [← hd9]; rfl
      have a3 : vP 3 D7 = .ok (.int s) := by rw [← hd9]; rfl
      have cc : op2 catD (vP 1) (lstS (consA (tupS (consA (vP 8) (consA (cS (.int 1)) nilA))) nilA)) D7 = .ok (rowsD (cs ++ [(wk, 1)])) := by
        rw [op2, a, R.ok_bind, b, R.ok_bind, cat_one (by omega)]
      simp only [callS, consA, nilA, a9, a3, R.ok_bind, List.append_nil] at cc ⊢
      rw [cc, R.ok_bind, R.ok_bind, v1]) (by simp; omega) (by rw [← hd9]; simp)
    unfold g_law_8 ifS
    rw [show bS (op2 ltI (op1 sumD (lcS (itL (callS (consA (op2 catD (vP 1) (lstS (consA (tupS (consA (vP 8) (consA (cS (.int 1)) nilA))) nilA))) (consA (vP 9) (consA (vP 3) nilA))) V_served [])) [12] (.nm 12) yesB (op2 ixD (vP 12) (cS (.int 2))))) (op2 addI (vP 7) (cS (.int 1)))) D7 = .ok false by
      unfold bS
      rw [op2, a, R.ok_bind, op2, v7, m1]
      simp [cS, addI, gI, lt_int, bO]]
    rfl
  have s9 : g_law_9 D7 = .nx D7 := by
    have a := sum_row (fe := callS (consA (vP 1) (consA (vP 9) (consA (vP 3) nilA))) V_served []) (ds := D7) (Rs := svR s cs ns) (by rw [← hd9]; simp [setS, setN, parPP, parNP, parPN, parNN, toO, toB, ifS, retS, exS, appS, extS, dputS, frzS, nxS, vP, vT, cS, op1, op2, gI, addI, subI, mulI, divI, modI, powI, ltI, leI, gtI, geI, minI, maxI, bS, bO, andB, orB, notB, andV, orV, notV, chI, ifE, tupS, lstS, nilA, consA, callS, callK, isiS, lenD, intD, ixD, atR, dgetD, big, plS, plainD, v2]) (by omega) (by rw [← hd9]; simp)
    unfold g_law_9 ifS
    rw [show bS (op2 ltI (op1 sumD (lcS (itL (callS (consA (vP 1) (consA (vP 9) (consA (vP 3) nilA))) V_served [])) [12] (.nm 12) yesB (op2 ixD (vP 12) (cS (.int 2))))) (vP 7)) D7 = .ok false by
      unfold bS
      rw [op2, a, R.ok_bind, v7, R.ok_bind, hM, lt_int]
      simp [bO]]
    rfl
  have lat : ∀ (l : List (Int × Int)) (ds : DS) (fe : ES), fe ds = .ok (rowsD l) → l.length ≤ 1000 → 14 < ds.length → lcS (itL fe) [13, 14] (.pr 13 14) yesB (tupS (consA (op2 addI (vP 13) (cS (.int 1))) (consA (vP 14) nilA))) ds = .ok (rowsD (l.map lat1)) := by
    intro l ds fe h hl hd
    have z := lcGo_fm (k := .pr 13 14) (ft := yesB) (fe := tupS (consA (op2 addI (vP 13) (cS (.int 1))) (consA (vP 14) nilA))) (ds := wipeD ds [13, 14]) rowD (fun _ => true) (fun t => rowD (lat1 t)) (xs := l) (fun t ht => ⟨_, rfl, rfl, fun _ => by
      have hg : (((wipeD ds [13, 14]).set 13 (.im (.int t.1))).set 14 (.im (.int t.2)))[13]? = some (.im (.int t.1)) := by
        rw [List.getElem?_set_ne (by omega), List.getElem?_set_self (by simp [wipeD]; omega)]
      have hg2 : (((wipeD ds [13, 14]).set 13 (.im (.int t.1))).set 14 (.im (.int t.2)))[14]? = some (.im (.int t.2)) := by
        rw [List.getElem?_set_self (by simp [wipeD]; omega)]
      simp [tupS, consA, nilA, op2, vP, hg, hg2, cS, addI, gI, big, rowD, lat1]⟩)
    rw [List.filter_eq_self.mpr (fun _ _ => rfl)] at z
    have hb : l.length ≤ 1000000 := by omega
    unfold lcS itL
    rw [h]
    simp only [rowsD, R.ok_bind, List.length_map, big, if_pos hb]
    rw [z, R.ok_bind, List.map_map]
    rfl
  have s10 : g_law_10 D7 = .nx (D7.set 10 (.im (.list [rowsD (cs.map lat1), rowsD (ns.map lat1)]))) := by
    have a := lat cs D7 (vP 1) (by rw [← hd9]; rfl) (by omega) (by rw [← hd9]; simp)
    have b := lat ns D7 (vP 2) (by rw [← hd9]; rfl) (by omega) (by rw [← hd9]; simp)
    have e : ∀ A B : ES, A D7 = .ok (rowsD (cs.map lat1)) → B D7 = .ok (rowsD (ns.map lat1)) → setS 10 (lstS (consA A (consA B nilA))) D7 = .nx (D7.set 10 (.im (.list [rowsD (cs.map lat1), rowsD (ns.map lat1)]))) := fun A B hA hB => by
      simp only [setS, lstS, consA, nilA, hA, hB, R.ok_bind]
      rfl
    exact e _ _ a b
  have hd11 : D7.set 10 (.im (.list [rowsD (cs.map lat1), rowsD (ns.map lat1)])) = [Sl.im (.list (xs.map .int)), .im (rowsD cs), .im (rowsD ns), .im (.int s), .im (rowsD (flat (svR s cs ns))), .im (.list ((un (svL s cs ns)).map .int)), .im (.list (((lk2 s cs ns).map (·.1)).map .int)), .im (.int M), .im (.int wk), .im (rowsD (ns ++ [(wk, 2)])), .im (.list [rowsD (cs.map lat1), rowsD (ns.map lat1)]), .no, .no, .no, .no, .no, .no] := by
    rw [← hd9]
    rfl
  rw [hd11] at s10
  have s11 : g_law_11 [Sl.im (.list (xs.map .int)), .im (rowsD cs), .im (rowsD ns), .im (.int s), .im (rowsD (flat (svR s cs ns))), .im (.list ((un (svL s cs ns)).map .int)), .im (.list (((lk2 s cs ns).map (·.1)).map .int)), .im (.int M), .im (.int wk), .im (rowsD (ns ++ [(wk, 2)])), .im (.list [rowsD (cs.map lat1), rowsD (ns.map lat1)]), .no, .no, .no, .no, .no, .no] = .nx [Sl.im (.list (xs.map .int)), .im (rowsD cs), .im (rowsD ns), .im (.int s), .im (rowsD (flat (svR s cs ns))), .im (.list ((un (svL s cs ns)).map .int)), .im (.list (((lk2 s cs ns).map (·.1)).map .int)), .im (.int M), .im (.int wk), .im (rowsD (ns ++ [(wk, 2)])), .im (.list [rowsD (cs.map lat1), rowsD (ns.map lat1)]), .im (.list (((svR s cs ns).map lat3).map row3D)), .no, .no, .no, .no, .no] := by
    have z := lcGo_fm (k := .tr 15 13 14) (ft := yesB) (fe := tupS (consA (op2 addI (vP 15) (cS (.int 1))) (consA (op2 addI (vP 13) (cS (.int 1))) (consA (vP 14) nilA)))) (ds := wipeD [Sl.im (.list (xs.map .int)), .im (rowsD cs), .im (rowsD ns), .im (.int s), .im (rowsD (flat (svR s cs ns))), .im (.list ((un (svL s cs ns)).map .int)), .im (.list (((lk2 s cs ns).map (·.1)).map .int)), .im (.int M), .im (.int wk), .im (rowsD (ns ++ [(wk, 2)])), .im (.list [rowsD (cs.map lat1), rowsD (ns.map lat1)]), .no, .no, .no, .no, .no, .no] [15, 13, 14]) row3D (fun _ => true) (fun t => row3D (lat3 t)) (xs := svR s cs ns) (fun t ht => ⟨_, rfl, rfl, fun _ => by
      simp [wipeD, tupS, consA, nilA, op2, vP, cS, addI, gI, big, row3D, row3, lat3]⟩)
    rw [List.filter_eq_self.mpr (fun _ _ => rfl)] at z
    have hb : (svR s cs ns).length ≤ 1000000 := by omega
    have hi : itL (callS (consA (vP 1) (consA (vP 2) (consA (vP 3) nilA))) V_served []) [Sl.im (.list (xs.map .int)), .im (rowsD cs), .im (rowsD ns), .im (.int s), .im (rowsD (flat (svR s cs ns))), .im (.list ((un (svL s cs ns)).map .int)), .im (.list (((lk2 s cs ns).map (·.1)).map .int)), .im (.int M), .im (.int wk), .im (rowsD (ns ++ [(wk, 2)])), .im (.list [rowsD (cs.map lat1), rowsD (ns.map lat1)]), .no, .no, .no, .no, .no, .no] = .ok ((svR s cs ns).map row3D) := by
      simp [itL, setS, setN, parPP, parNP, parPN, parNN, toO, toB, ifS, retS, exS, appS, extS, dputS, frzS, nxS, vP, vT, cS, op1, op2, gI, addI, subI, mulI, divI, modI, powI, ltI, leI, gtI, geI, minI, maxI, bS, bO, andB, orB, notB, andV, orV, notV, chI, ifE, tupS, lstS, nilA, consA, callS, callK, isiS, lenD, intD, ixD, atR, dgetD, big, plS, plainD, vs]
    simp only [g_law_11, setS, lcS, hi, R.ok_bind, List.length_map, big, if_pos hb, z]
    simp [toO, Function.comp_def]
  generalize hd12 : [Sl.im (.list (xs.map .int)), .im (rowsD cs), .im (rowsD ns), .im (.int s), .im (rowsD (flat (svR s cs ns))), .im (.list ((un (svL s cs ns)).map .int)), .im (.list (((lk2 s cs ns).map (·.1)).map .int)), .im (.int M), .im (.int wk), .im (rowsD (ns ++ [(wk, 2)])), .im (.list [rowsD (cs.map lat1), rowsD (ns.map lat1)]), .im (.list (((svR s cs ns).map lat3).map row3D)), .no, .no, .no, .no, .no] = D11 at s11
  have i0 : op2 ixD (vP 10) (cS (.int 0)) D11 = .ok (rowsD (cs.map lat1)) := by rw [← hd12]; rfl
  have i1 : op2 ixD (vP 10) (cS (.int 1)) D11 = .ok (rowsD (ns.map lat1)) := by rw [← hd12]; rfl
  have i3 : vP 3 D11 = .ok (.int s) := by rw [← hd12]; rfl
  have s12 : g_law_12 D11 = .nx D11 := by
    have a : bS (op2 neD (callS (consA (op2 ixD (vP 10) (cS (.int 0))) (consA (op2 ixD (vP 10) (cS (.int 1))) (consA (vP 3) nilA))) V_served []) (vP 11)) D11 = .ok false := by
      have b : callS (consA (op2 ixD (vP 10) (cS (.int 0))) (consA (op2 ixD (vP 10) (cS (.int 1))) (consA (vP 3) nilA))) V_served [] D11 = .ok (.list (((svR s cs ns).map lat3).map row3D)) := by
        simp only [callS, consA, nilA, i0, i1, i3, R.ok_bind, List.append_nil, v3]
      have c : vP 11 D11 = .ok (.list (((svR s cs ns).map lat3).map row3D)) := by rw [← hd12]; rfl
      unfold bS
      rw [op2, b, R.ok_bind, c, R.ok_bind, eq_rows3]
      rfl
    unfold g_law_12 ifS
    rw [a]
    rfl
  have s13 : g_law_13 D11 = .nx D11 := by
    unfold g_law_13 ifS andB
    have a : bS (op2 ltI (vP 3) (cS (.int 4))) D11 = .ok (decide (s < 4)) := by
      unfold bS
      rw [op2, i3]
      rfl
    rw [a, R.ok_bind]
    by_cases h4 : s < 4
    · have b := sum_row (fe := callS (consA (vP 1) (consA (vP 2) (consA (op2 addI (vP 3) (cS (.int 1))) nilA))) V_served []) (ds := D11) (Rs := svR (s + 1) cs ns) (by rw [← hd12]; simp [setS, setN, parPP, parNP, parPN, parNN, toO, toB, ifS, retS, exS, appS, extS, dputS, frzS, nxS, vP, vT, cS, op1, op2, gI, addI, subI, mulI, divI, modI, powI, ltI, leI, gtI, geI, minI, maxI, bS, bO, andB, orB, notB, andV, orV, notV, chI, ifE, tupS, lstS, nilA, consA, callS, callK, isiS, lenD, intD, ixD, atR, dgetD, big, plS, plainD, v5 h4]) (by omega) (by rw [← hd12]; simp)
      rw [if_pos (by simpa using h4)]
      rw [show bS (op2 ltI (op1 sumD (lcS (itL (callS (consA (vP 1) (consA (vP 2) (consA (op2 addI (vP 3) (cS (.int 1))) nilA))) V_served [])) [12] (.nm 12) yesB (op2 ixD (vP 12) (cS (.int 2))))) (vP 7)) D11 = .ok false by
        have v7 : vP 7 D11 = .ok (.int M) := by rw [← hd12]; rfl
        have : ¬ sR (fun _ _ => true) (svR (s + 1) cs ns) < M := by omega
        unfold bS
        rw [op2, b, R.ok_bind, v7, R.ok_bind, lt_int]
        simp [bO, this]]
      rfl
    · rw [if_neg (by simpa using h4)]
      rfl
  have s14 : g_law_14 D11 = .rt (.bool true) := by
    have b : callS (consA (op2 ixD (vP 10) (cS (.int 0))) (consA (op2 ixD (vP 10) (cS (.int 1))) (consA (vP 3) nilA))) V_narrows [] D11 = .ok (rowsD (told.map lat2)) := by
      simp only [callS, consA, nilA, i0, i1, i3, R.ok_bind, List.append_nil, v4]
    have z := lcGo_fm (k := .pr 15 16) (ft := yesB) (fe := tupS (consA (op2 addI (vP 15) (cS (.int 1))) (consA (op2 addI (vP 16) (cS (.int 1))) nilA))) (ds := wipeD D11 [15, 16]) rowD (fun _ => true) (fun t => rowD (lat2 t)) (xs := told) (fun t ht => ⟨_, rfl, rfl, fun _ => by
      rw [← hd12]
      simp [wipeD, tupS, consA, nilA, op2, vP, cS, addI, gI, big, rowD, lat2]⟩)
    rw [List.filter_eq_self.mpr (fun _ _ => rfl)] at z
    have hb : told.length ≤ 1000000 := by omega
    have hi : itL (callS (consA (vP 1) (consA (vP 2) (consA (vP 3) nilA))) V_narrows []) D11 = .ok (told.map rowD) := by
      have : callS (consA (vP 1) (consA (vP 2) (consA (vP 3) nilA))) V_narrows [] D11 = .ok (rowsD told) := by
        rw [← hd12]
        simp only [callS, consA, nilA, vP, List.getElem?_cons_zero, List.getElem?_cons_succ, R.ok_bind, List.append_nil, vn]
      unfold itL
      rw [this]
      rfl
    have c : lcS (itL (callS (consA (vP 1) (consA (vP 2) (consA (vP 3) nilA))) V_narrows [])) [15, 16] (.pr 15 16) yesB (tupS (consA (op2 addI (vP 15) (cS (.int 1))) (consA (op2 addI (vP 16) (cS (.int 1))) nilA))) D11 = .ok (rowsD (told.map lat2)) := by
      unfold lcS
      rw [hi, R.ok_bind, List.length_map, if_pos (by simpa [big] using hb), z, R.ok_bind, rowsD, List.map_map]
      rfl
    unfold g_law_14 retS
    rw [op2, b, R.ok_bind, c, R.ok_bind, eq_rows2]
    rfl
  show bodyS 17 [false] g_law _ = _
  rw [bodyS, g_law, show startS 17 [false] [.list (xs.map .int)] = [.im (.list (xs.map .int)), .no, .no, .no, .no, .no, .no, .no, .no, .no, .no, .no, .no, .no, .no, .no, .no] from rfl, seq_nx s1, seq_nx s2, seq_nx s3, seq_nx s4, seq_nx s5, seq_nx s6, seq_nx s7, seq_nx s8, seq_nx s9, seq_nx s10, seq_nx s11, seq_nx s12, seq_nx s13, s14]
end Cb
namespace Cb
open PySem PySem.Spec PyProof.Rows L2
def dn_is_number : He.DefD := ⟨("is_number", none), "is_number", "is_number", defArgs s_is_number, defBody s_is_number, defScope s_is_number, [], []⟩
def dn_look_number : He.DefD := ⟨("look_number", none), "look_number", "look_number", defArgs s_look_number, defBody s_look_number, defScope s_look_number, [], []⟩
def dn_is_row : He.DefD := ⟨("is_row", none), "is_row", "is_row", defArgs s_is_row, defBody s_is_row, defScope s_is_row, [], []⟩
def dn_are_rows : He.DefD := ⟨("are_rows", none), "are_rows", "are_rows", defArgs s_are_rows, defBody s_are_rows, defScope s_are_rows, [], []⟩
def dn_look_rows : He.DefD := ⟨("look_rows", none), "look_rows", "look_rows", defArgs s_look_rows, defBody s_look_rows, defScope s_look_rows, [], []⟩
def dn_is_good_in : He.DefD := ⟨("is_good_in", none), "is_good_in", "is_good_in", defArgs s_is_good_in, defBody s_is_good_in, defScope s_is_good_in, [], []⟩
def dn_taken : He.DefD := ⟨("taken", none), "taken", "taken", defArgs s_taken, defBody s_taken, defScope s_taken, [], []⟩
def dn_serve : He.DefD := ⟨("serve", none), "serve", "serve", defArgs s_serve, defBody s_serve, defScope s_serve, [], []⟩
def dn_look_all : He.DefD := ⟨("look_all", none), "look_all", "look_all", defArgs s_look_all, defBody s_look_all, defScope s_look_all, [], []⟩
def dn_served : He.DefD := ⟨("served", none), "served", "served", defArgs s_served, defBody s_served, defScope s_served, [.int 1], []⟩
def dn_lacks_of : He.DefD := ⟨("lacks_of", none), "lacks_of", "lacks_of", defArgs s_lacks_of, defBody s_lacks_of, defScope s_lacks_of, [], []⟩
def dn_lacking : He.DefD := ⟨("lacking", none), "lacking", "lacking", defArgs s_lacking, defBody s_lacking, defScope s_lacking, [.int 1], []⟩
def dn_widened : He.DefD := ⟨("widened", none), "widened", "widened", defArgs s_widened, defBody s_widened, defScope s_widened, [], []⟩
def dn_closed : He.DefD := ⟨("closed", none), "closed", "closed", defArgs s_closed, defBody s_closed, defScope s_closed, [], []⟩
def dn_narrows : He.DefD := ⟨("narrows", none), "narrows", "narrows", defArgs s_narrows, defBody s_narrows, defScope s_narrows, [.int 1], []⟩
def dn__law_pick : He.DefD := ⟨("_law_pick", none), "_law_pick", "_law_pick", defArgs s__law_pick, defBody s__law_pick, defScope s__law_pick, [], []⟩
def dn__law_rows : He.DefD := ⟨("_law_rows", none), "_law_rows", "_law_rows", defArgs s__law_rows, defBody s__law_rows, defScope s__law_rows, [], []⟩
def dn__law_units : He.DefD := ⟨("_law_units", none), "_law_units", "_law_units", defArgs s__law_units, defBody s__law_units, defScope s__law_units, [], []⟩
def dn__law_more : He.DefD := ⟨("_law_more", none), "_law_more", "_law_more", defArgs s__law_more, defBody s__law_more, defScope s__law_more, [], []⟩
def dn_law : He.DefD := ⟨("law", none), "law", "law", defArgs s_law, defBody s_law, defScope s_law, [], []⟩
def fnL : List He.DefD := [dn_is_number, dn_look_number, dn_is_row, dn_are_rows, dn_look_rows, dn_is_good_in, dn_taken, dn_serve, dn_look_all, dn_served, dn_lacks_of, dn_lacking, dn_widened, dn_closed, dn_narrows, dn__law_pick, dn__law_rows, dn__law_units, dn__law_more, dn_law]
def faL : List He.Fa := [.glo "is_number", .glo "look_number", .glo "is_row", .glo "are_rows", .glo "look_rows", .glo "is_good_in", .glo "taken", .glo "serve", .glo "look_all", .glo "served", .glo "lacks_of", .glo "lacking", .glo "widened", .glo "closed", .glo "narrows", .glo "_law_pick", .glo "_law_rows", .glo "_law_units", .glo "_law_more", .glo "law", .free "all", .free "any", .free "bool", .free "dict", .free "int", .free "isinstance", .free "len", .free "list", .free "max", .free "min", .free "range", .free "sorted", .free "sum", .free "tuple", .free "zip", .int "LONGEST_SPAN" 4, .int "MOST_IN_ROW" 99, .int "MOST_ROWS" 12, .int "WEEKS" 100, .exc "NoNumber", .glo "NoNumber", .exc "NoRows", .glo "NoRows"]
def nm0 : List PySem.Str := ["CouponError", "NoRows", "NoNumber", "LONGEST_SPAN", "WEEKS", "MOST_ROWS", "MOST_IN_ROW", "is_number", "look_number", "is_row", "are_rows", "look_rows", "is_good_in", "taken", "serve", "look_all", "served", "lacks_of", "lacking", "widened", "closed", "narrows", "_law_pick", "_law_rows", "_law_units", "_law_more"]
def nmL : List PySem.Str := nm0
abbrev RowL : PySem.W.OpenRow := PySem.W.OpenLaw.row PySem.Challenge.rw_couponbooks_k07_whole_none_serves_more
abbrev hkL : PySem.W.Hook := He.hookD 4 faL fnL
def obL (s : PySem.W.SharedT) : He.AlD := He.obsDG 4 faL fnL (HandSHeadRun.getT s)
theorem obL_eq (s : PySem.W.SharedT) : obL s = hkL.obs s.abs := He.obsDG_eq (HandSHeadRun.getT_eq s)
theorem runL (w : World) : HandSHeadRun.RunEq RowL (PySem.W.view RowL.prog [31]) hkL obL 4000 nmL w := by
  intro os
  kernel_rfl
theorem txL {K : PySem.W.Frag} {h : Heap} {mg : Str → Option Value} (X : K.In h) (G : h.Ns mainGlobals mg) (c : He.SaysD faL fnL K) : Tx K mg where
  f_is_number := c.def_ 0 (d := dn_is_number) rfl
  g_is_number := He.glo_ok X G (c.fact 0 (f := .glo "is_number") rfl)
  f_look_number := c.def_ 1 (d := dn_look_number) rfl
  g_look_number := He.glo_ok X G (c.fact 1 (f := .glo "look_number") rfl)
  f_is_row := c.def_ 2 (d := dn_is_row) rfl
  g_is_row := He.glo_ok X G (c.fact 2 (f := .glo "is_row") rfl)
  f_are_rows := c.def_ 3 (d := dn_are_rows) rfl
  g_are_rows := He.glo_ok X G (c.fact 3 (f := .glo "are_rows") rfl)
  f_look_rows := c.def_ 4 (d := dn_look_rows) rfl
  g_look_rows := He.glo_ok X G (c.fact 4 (f := .glo "look_rows") rfl)
  f_is_good_in := c.def_ 5 (d := dn_is_good_in) rfl
  g_is_good_in := He.glo_ok X G (c.fact 5 (f := .glo "is_good_in") rfl)
  f_taken := c.def_ 6 (d := dn_taken) rfl
  g_taken := He.glo_ok X G (c.fact 6 (f := .glo "taken") rfl)
  f_serve := c.def_ 7 (d := dn_serve) rfl
  g_serve := He.glo_ok X G (c.fact 7 (f := .glo "serve") rfl)
  f_look_all := c.def_ 8 (d := dn_look_all) rfl
  g_look_all := He.glo_ok X G (c.fact 8 (f := .glo "look_all") rfl)
  f_served := c.def_ 9 (d := dn_served) rfl
  g_served := He.glo_ok X G (c.fact 9 (f := .glo "served") rfl)
  f_lacks_of := c.def_ 10 (d := dn_lacks_of) rfl
  g_lacks_of := He.glo_ok X G (c.fact 10 (f := .glo "lacks_of") rfl)
  f_lacking := c.def_ 11 (d := dn_lacking) rfl
  g_lacking := He.glo_ok X G (c.fact 11 (f := .glo "lacking") rfl)
  f_widened := c.def_ 12 (d := dn_widened) rfl
  g_widened := He.glo_ok X G (c.fact 12 (f := .glo "widened") rfl)
  f_closed := c.def_ 13 (d := dn_closed) rfl
  g_closed := He.glo_ok X G (c.fact 13 (f := .glo "closed") rfl)
  f_narrows := c.def_ 14 (d := dn_narrows) rfl
  g_narrows := He.glo_ok X G (c.fact 14 (f := .glo "narrows") rfl)
  f__law_pick := c.def_ 15 (d := dn__law_pick) rfl
  g__law_pick := He.glo_ok X G (c.fact 15 (f := .glo "_law_pick") rfl)
  f__law_rows := c.def_ 16 (d := dn__law_rows) rfl
  g__law_rows := He.glo_ok X G (c.fact 16 (f := .glo "_law_rows") rfl)
  f__law_units := c.def_ 17 (d := dn__law_units) rfl
  g__law_units := He.glo_ok X G (c.fact 17 (f := .glo "_law_units") rfl)
  f__law_more := c.def_ 18 (d := dn__law_more) rfl
  g__law_more := He.glo_ok X G (c.fact 18 (f := .glo "_law_more") rfl)
  f_law := c.def_ 19 (d := dn_law) rfl
  g_law := He.glo_ok X G (c.fact 19 (f := .glo "law") rfl)
  b_all := He.free_ok X G (c.fact 20 (f := .free "all") rfl)
  b_any := He.free_ok X G (c.fact 21 (f := .free "any") rfl)
  b_bool := He.free_ok X G (c.fact 22 (f := .free "bool") rfl)
  b_dict := He.free_ok X G (c.fact 23 (f := .free "dict") rfl)
  b_int := He.free_ok X G (c.fact 24 (f := .free "int") rfl)
  b_isinstance := He.free_ok X G (c.fact 25 (f := .free "isinstance") rfl)
  b_len := He.free_ok X G (c.fact 26 (f := .free "len") rfl)
  b_list := He.free_ok X G (c.fact 27 (f := .free "list") rfl)
  b_max := He.free_ok X G (c.fact 28 (f := .free "max") rfl)
  b_min := He.free_ok X G (c.fact 29 (f := .free "min") rfl)
  b_range := He.free_ok X G (c.fact 30 (f := .free "range") rfl)
  b_sorted := He.free_ok X G (c.fact 31 (f := .free "sorted") rfl)
  b_sum := He.free_ok X G (c.fact 32 (f := .free "sum") rfl)
  b_tuple := He.free_ok X G (c.fact 33 (f := .free "tuple") rfl)
  b_zip := He.free_ok X G (c.fact 34 (f := .free "zip") rfl)
  c_LONGEST_SPAN := He.int_ok X G (c.fact 35 (f := .int "LONGEST_SPAN" 4) rfl)
  c_MOST_IN_ROW := He.int_ok X G (c.fact 36 (f := .int "MOST_IN_ROW" 99) rfl)
  c_MOST_ROWS := He.int_ok X G (c.fact 37 (f := .int "MOST_ROWS" 12) rfl)
  c_WEEKS := He.int_ok X G (c.fact 38 (f := .int "WEEKS" 100) rfl)
  x_NoNumber := He.exc_ok (c.fact 39 (f := .exc "NoNumber") rfl)
  g_NoNumber := He.glo_ok X G (c.fact 40 (f := .glo "NoNumber") rfl)
  x_NoRows := He.exc_ok (c.fact 41 (f := .exc "NoRows") rfl)
  g_NoRows := He.glo_ok X G (c.fact 42 (f := .glo "NoRows") rfl)
end Cb
open PySem PySem.W PySem.Calls PyProof.Rows
theorem Cb.end_of (main : ∀ ns : List Int, ns.length ≤ 63 → Cb.V_law [.list (ns.map .int)] = .ok (.bool true)) : PySem.Challenge.rw_couponbooks_k07_whole_none_serves_more.Holds := by
  w_on; o_law
  refine HandSHeadRun.head_any (r := OpenLaw.row PySem.Challenge.rw_couponbooks_k07_whole_none_serves_more) (q := view (OpenLaw.row PySem.Challenge.rw_couponbooks_k07_whole_none_serves_more).prog [31]) (H := Cb.hkL) (ob := Cb.obL) (M := 4000) (loose := Cb.nmL) (d := HandSHeadRun.topDef (OpenLaw.row PySem.Challenge.rw_couponbooks_k07_whole_none_serves_more).prog 31) (kwd := []) Cb.obL_eq
    (by kernel_rfl) (fun s => by kernel_rfl) Cb.runL (by kernel_rfl) (by kernel_rfl) (by kernel_rfl) (by rfl) (by first | assumption | decide +kernel) (by decide +kernel) ⟨rfl, rfl, rfl, rfl, rfl, by decide +kernel⟩ ?hw ?hc
  case hw => w_witness2
  case hc =>
    refine L2.walk_ofE (l := PySem.Challenge.rw_couponbooks_k07_whole_none_serves_more) (n := 63) (k := 7) (x := "script") (CX := L2.CX0) rfl (by decide) (by kernel_rfl) ⟨rfl, by decide, by decide⟩ ?F (fun _ _ _ _ z => z)
    intro w mg fa h Y G hmg0
    obtain ⟨K, KX, c⟩ := Y
    have hmg : mg ("law" : PySem.Str) = some (.ref fa) := by
      have e : (HandSHeadRun.topDef (OpenLaw.row PySem.Challenge.rw_couponbooks_k07_whole_none_serves_more).prog 31).name = ("law" : PySem.Str) := by kernel_rfl
      rw [← e]
      exact hmg0
    have T := Cb.txL KX G c
    obtain ⟨fd, F⟩ := T.f_law
    have e := hmg.symm.trans T.g_law
    cases e
    have b := L2.FunD.bindsA (ps := ["script"]) F fun _ _ _ _ _ _ us hl => match us, hl with | [_], _ => rfl
    refine ⟨K, fd, fun vs H Q _ => Cb.spS [] K (He.ga K) [false] Cb.V_law vs H Q fun _ _ _ => False, KX, fun s v => b s [v] rfl, fun H a ns hl _ hS => Cb.law_sp (main ns hl) (fun _ z => nomatch z) hS, fun base _ _ => Cb.fn_calm (Cb.ok_law (TL := []) (P := (PySem.Challenge.rw_couponbooks_k07_whole_none_serves_more).prog) (w := w) (base := base) T F)⟩
theorem PySem.Challenge.cw_couponbooks_k07_whole_none_serves_more_holds : PySem.Challenge.rw_couponbooks_k07_whole_none_serves_more.Holds := by
  exact Cb.end_of Cb.V_law_true
