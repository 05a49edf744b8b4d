import PyProof.Rows.All
import Wide.All
import OpenK.AllK
import Wide.FinOn
import HandS.Base
import HandS.Call
import HandS.List
import HandS.Comp
import HandS.Ends
import HandS.Dict
import HandS.Iter
import HandS.Text
import HandS.More
import HandS.Words
import HandS.WordsList
import HandS.WordsDict
import HandS.Walk
import HandS.IsInst
import HandS.Wide
import HandS.Lambda
import HandS.Conv
import HandS.Zip
import HandS.Defaults
import HandS.SortKw
import KE.SortKeyHeap
import HandS.Head0
import HandS.Head1
import HandS.Head2
import HandS.HeadEnd
import HandS.HeadHook4
import HandS.HeadWalk
import HandS.EndTab
import PySem.Challenge.RW_choosehall_k13_whole_more_seats
set_option Elab.async false
set_option maxRecDepth 100000
set_option maxHeartbeats 4000000
set_option linter.all false
/-! Choosehall, the ground: values as plain data, two heaps (what is frozen, what is there), slots of a frame by their data. -/
namespace CH
open PySem L2

theorem nd_by {N : List Str} (h : decide N.Nodup = true) : N.Nodup := of_decide_eq_true h
/-- a house, as plain data -/
structure Hs where
  seats : Int
  kept : Int
  kind : Int
  opened : Bool
  pts : List (Option Int)
  kinds : List Int
  row : List Int
  deriving DecidableEq

/-- plain data: what a value is worth -/
inductive D where
  | non
  | bl (b : Bool)
  | int (i : Int)
  | str (x : Str)
  | lst (l : List D)
  | tup (l : List D)
  | scr (l : List Int)
  | hs (h : Hs)
  | adr (a : Addr)

def D.oi : Option Int → D
  | none => .non
  | some i => .int i
def vOi : Option Int → V
  | none => .non
  | some i => .int i

/-- what the whole walk leans on: the written part, the class House, the tables of code objects -/
structure Gb where
  K : PySem.W.Frag
  C : Addr
  T : List (Addr × Str)

def NT (o : HO) : Prop := ∀ ps, o ≠ .tbl ps
def Sub (F H : Hp) : Prop := ∀ b o, F b = some o → H b = some o
def Fro (F : Hp) : Prop := ∀ b o, F b = some o → NT o
theorem Sub.refl (F : Hp) : Sub F F := fun _ _ h => h
theorem Sub.trans {F G H : Hp} (a : Sub F G) (b : Sub G H) : Sub F H := fun c o h => b c o (a c o h)
theorem Sub.free {F H : Hp} (a : Sub F H) {b : Addr} (h : H b = none) : F b = none := by
  cases e : F b with
  | none => rfl
  | some o =>
    rw [a b o e] at h
    cases h
theorem nt_lst {xs : List V} : NT (.lst xs) := fun _ z => by cases z
theorem nt_tup {xs : List V} : NT (.tup xs) := fun _ z => by cases z
theorem nt_dK {k : List (Key × V)} : NT (.dK k) := fun _ z => by cases z
theorem nt_ins {C d : Addr} {k : List (Str × V)} : NT (.ins C d k) := fun _ z => by cases z
theorem nt_own {C : Addr} : NT (.own C) := fun _ z => by cases z

/-- an instance of House has these attributes, stored in this order -/
def flds (h : Hs) (p q r : Addr) : List (Str × V) :=
  putF "row" (.ref r) (putF "kinds" (.ref q) (putF "points" (.ref p) (putF "opened" (.bl h.opened) (putF "kind" (.int h.kind) (putF "kept" (.int h.kept) (putF "seats" (.int h.seats) []))))))

def HsAt (g : Gb) (F : Hp) (h : Hs) (a : Addr) : Prop := ∃ dx p q r, F a = some (.ins g.C dx (flds h p q r)) ∧
  F p = some (.lst (h.pts.map vOi)) ∧ F q = some (.lst (h.kinds.map V.int)) ∧ F r = some (.lst (h.row.map V.int))

mutual
inductive Rep (g : Gb) (F : Hp) : D → V → Prop where
  | non : Rep g F .non .non
  | bl (b : Bool) : Rep g F (.bl b) (.bl b)
  | int (i : Int) : Rep g F (.int i) (.int i)
  | str (x : Str) : Rep g F (.str x) (.str x)
  | lst {a : Addr} {xs : List V} {ds : List D} : F a = some (.lst xs) → RepL g F ds xs → Rep g F (.lst ds) (.ref a)
  | tup {a : Addr} {xs : List V} {ds : List D} : F a = some (.tup xs) → RepL g F ds xs → Rep g F (.tup ds) (.ref a)
  | scr {a : Addr} {l : List Int} : SqL g.K F a (l.map V.int) → Rep g F (.scr l) (.ref a)
  | hs {a : Addr} {h : Hs} : HsAt g F h a → Rep g F (.hs h) (.ref a)
  | adr (a : Addr) : Rep g F (.adr a) (.ref a)
inductive RepL (g : Gb) (F : Hp) : List D → List V → Prop where
  | nil : RepL g F [] []
  | cons {d : D} {ds : List D} {v : V} {vs : List V} : Rep g F d v → RepL g F ds vs → RepL g F (d :: ds) (v :: vs)
end

section
variable {g : Gb} {F F' H H' : Hp}
theorem HsAt.mono (e : Sub F F') {h : Hs} {a : Addr} : HsAt g F h a → HsAt g F' h a := fun ⟨dx, p, q, r, h1, h2, h3, h4⟩ => ⟨dx, p, q, r, e _ _ h1, e _ _ h2, e _ _ h3, e _ _ h4⟩
theorem sql_mono {K : PySem.W.Frag} (e : Sub F F') {a : Addr} {xs : List V} (h : SqL K F a xs) : SqL K F' a xs := by
  rcases h with (h | ⟨o, h⟩) | h
  · exact .inl (.inl (e _ _ h))
  · exact .inl (.inr ⟨o, e _ _ h⟩)
  · exact .inr h
mutual
theorem Rep.mono (e : Sub F F') : ∀ (d : D) (v : V), Rep g F d v → Rep g F' d v
  | _, _, .non => .non
  | _, _, .bl b => .bl b
  | _, _, .int i => .int i
  | _, _, .str x => .str x
  | _, _, .lst h k => .lst (e _ _ h) (RepL.mono e _ _ k)
  | _, _, .tup h k => .tup (e _ _ h) (RepL.mono e _ _ k)
  | _, _, .scr h => .scr (sql_mono e h)
  | _, _, .hs h => .hs (h.mono e)
  | _, _, .adr a => .adr a
theorem RepL.mono (e : Sub F F') : ∀ (ds : List D) (xs : List V), RepL g F ds xs → RepL g F' ds xs
  | _, _, .nil => .nil
  | _, _, .cons h k => .cons (Rep.mono e _ _ h) (RepL.mono e _ _ k)
end
theorem repL_cons {d : D} {ds : List D} {v : V} {vs : List V} (h : Rep g F d v) (t : RepL g F ds vs) : RepL g F (d :: ds) (v :: vs) := .cons h t
theorem repL_nil : RepL g F [] [] := .nil
theorem RepL.len : ∀ {ds : List D} {xs : List V}, RepL g F ds xs → xs.length = ds.length
  | _, _, .nil => rfl
  | _, _, .cons _ k => by rw [List.length_cons, List.length_cons, RepL.len k]
theorem RepL.get : ∀ {ds : List D} {xs : List V} {i : Nat} {v : V}, RepL g F ds xs → xs[i]? = some v → ∃ d, ds[i]? = some d ∧ Rep g F d v
  | _, _, i, v, .nil, e => by cases e
  | _, _, 0, v, .cons (d := d) (v := w) h k, e => by
    have e' : w = v := Option.some.inj e
    subst e'
    exact ⟨d, rfl, h⟩
  | _, _, i + 1, v, .cons h k, e => RepL.get (i := i) k e
theorem RepL.at_ : ∀ {ds : List D} {xs : List V} {i : Nat} {d : D}, RepL g F ds xs → ds[i]? = some d → ∃ v, xs[i]? = some v ∧ Rep g F d v
  | _, _, i, d, .nil, e => by cases e
  | _, _, 0, d, .cons (d := d') (v := w) h k, e => by
    have e' : d' = d := Option.some.inj e
    subst e'
    exact ⟨w, rfl, h⟩
  | _, _, i + 1, d, .cons h k, e => RepL.at_ (i := i) k e
theorem RepL.app : ∀ {ds es : List D} {xs ys : List V}, RepL g F ds xs → RepL g F es ys → RepL g F (ds ++ es) (xs ++ ys)
  | _, _, _, _, .nil, k => k
  | _, _, _, _, .cons h t, k => .cons h (RepL.app t k)
theorem RepL.take : ∀ {ds : List D} {xs : List V} (n : Nat), RepL g F ds xs → RepL g F (ds.take n) (xs.take n)
  | _, _, 0, _ => .nil
  | _, _, _ + 1, .nil => .nil
  | _, _, n + 1, .cons h t => .cons h (RepL.take n t)
theorem RepL.drop : ∀ {ds : List D} {xs : List V} (n : Nat), RepL g F ds xs → RepL g F (ds.drop n) (xs.drop n)
  | _, _, 0, h => h
  | _, _, _ + 1, .nil => .nil
  | _, _, n + 1, .cons h t => RepL.drop n t
theorem RepL.set : ∀ {ds : List D} {xs : List V} {d : D} {v : V} (i : Nat), RepL g F ds xs → Rep g F d v → RepL g F (ds.set i d) (xs.set i v)
  | _, _, _, _, _, .nil, _ => .nil
  | _, _, _, _, 0, .cons h t, k => .cons k t
  | _, _, _, _, i + 1, .cons h t, k => .cons h (RepL.set i t k)
theorem RepL.rev : ∀ {ds : List D} {xs : List V}, RepL g F ds xs → RepL g F ds.reverse xs.reverse
  | _, _, .nil => .nil
  | _, _, .cons h t => by
    rw [List.reverse_cons, List.reverse_cons]
    exact RepL.app (RepL.rev t) (.cons h .nil)
theorem RepL.erase : ∀ {ds : List D} {xs : List V} (i : Nat), RepL g F ds xs → RepL g F (ds.eraseIdx i) (xs.eraseIdx i)
  | _, _, _, .nil => .nil
  | _, _, 0, .cons h t => t
  | _, _, i + 1, .cons h t => .cons h (RepL.erase i t)
theorem RepL.rep {ds : List D} {xs : List V} (h : RepL g F ds xs) : ∀ k : Nat, RepL g F (List.replicate k ds).flatten (List.replicate k xs).flatten
  | 0 => .nil
  | k + 1 => by
    rw [List.replicate_succ, List.replicate_succ, List.flatten_cons, List.flatten_cons]
    exact RepL.app h (RepL.rep h k)
/-- of one kind -/
theorem repL_map {α : Type} (f : α → D) (k : α → V) (h : ∀ a, Rep g F (f a) (k a)) : ∀ l : List α, RepL g F (l.map f) (l.map k)
  | [] => .nil
  | a :: l => .cons (h a) (repL_map f k h l)
theorem repL_inv {d : D} {ds : List D} {xs : List V} (h : RepL g F (d :: ds) xs) : ∃ v vs, xs = v :: vs ∧ Rep g F d v ∧ RepL g F ds vs := by
  cases h with
  | cons h t => exact ⟨_, _, rfl, h, t⟩
theorem repL_inv0 {xs : List V} (h : RepL g F [] xs) : xs = [] := by
  cases h
  rfl
theorem repL_of {α : Type} (f : α → D) (k : α → V) (h : ∀ a v, Rep g F (f a) v → v = k a) : ∀ {l : List α} {xs : List V}, RepL g F (l.map f) xs → xs = l.map k
  | [], xs, e => repL_inv0 e
  | a :: l, xs, e => by
    obtain ⟨v, vs, h1, h2, h3⟩ := repL_inv e
    rw [h1, h a v h2, repL_of f k h h3] <;> rfl
theorem rep_int (i : Int) : Rep g F (.int i) (.int i) := .int i
theorem rep_bl (i : Bool) : Rep g F (.bl i) (.bl i) := .bl i
theorem rep_str (i : Str) : Rep g F (.str i) (.str i) := .str i
theorem rep_non : Rep g F .non .non := .non
theorem rep_oi (i : Option Int) : Rep g F (D.oi i) (vOi i) := by
  cases i with
  | none => exact .non
  | some i => exact .int i
theorem of_int {i : Int} {v : V} (h : Rep g F (.int i) v) : v = .int i := by cases h; rfl
theorem of_bl {i : Bool} {v : V} (h : Rep g F (.bl i) v) : v = .bl i := by cases h; rfl
theorem of_str {i : Str} {v : V} (h : Rep g F (.str i) v) : v = .str i := by cases h; rfl
theorem of_non {v : V} (h : Rep g F .non v) : v = .non := by cases h; rfl
theorem of_oi {i : Option Int} {v : V} (h : Rep g F (D.oi i) v) : v = vOi i := by
  cases i with
  | none => exact of_non h
  | some i => exact of_int h
theorem of_lst {ds : List D} {v : V} (h : Rep g F (.lst ds) v) : ∃ a xs, v = .ref a ∧ F a = some (.lst xs) ∧ RepL g F ds xs := by
  cases h with
  | lst h k => exact ⟨_, _, rfl, h, k⟩
theorem of_tup {ds : List D} {v : V} (h : Rep g F (.tup ds) v) : ∃ a xs, v = .ref a ∧ F a = some (.tup xs) ∧ RepL g F ds xs := by
  cases h with
  | tup h k => exact ⟨_, _, rfl, h, k⟩
theorem of_hs {x : Hs} {v : V} (h : Rep g F (.hs x) v) : ∃ a, v = .ref a ∧ HsAt g F x a := by
  cases h with
  | hs h => exact ⟨_, rfl, h⟩
theorem of_scr {x : List Int} {v : V} (h : Rep g F (.scr x) v) : ∃ a, v = .ref a ∧ SqL g.K F a (x.map V.int) := by
  cases h with
  | scr h => exact ⟨_, rfl, h⟩
theorem rep_lst {ds : List D} {a : Addr} {xs : List V} (h : F a = some (.lst xs)) (k : RepL g F ds xs) : Rep g F (.lst ds) (.ref a) := .lst h k
theorem rep_tup {ds : List D} {a : Addr} {xs : List V} (h : F a = some (.tup xs)) (k : RepL g F ds xs) : Rep g F (.tup ds) (.ref a) := .tup h k
end

/-! ### how the two heaps go on -/
structure Fit (g : Gb) (F H : Hp) : Prop where
  low : Sub F H
  nt : Fro F
  tab : LamX.Tabs g.T H
/-- from the frozen F within H to F' within H': nothing that was there has changed (but the tables), what is frozen anew is new -/
structure Up (g : Gb) (F H F' H' : Hp) : Prop where
  ext : LamX.ExtN H H'
  sub : Sub F F'
  grow : ∀ b o, H b = some o → NT o → F b = none → F' b = none
  fit : Fit g F' H'
theorem Up.refl {g : Gb} {F H : Hp} (h : Fit g F H) : Up g F H F H := ⟨LamX.ExtN.refl H, Sub.refl F, fun _ _ _ _ h => h, h⟩
theorem Up.trans {g : Gb} {F H F1 H1 F2 H2 : Hp} (a : Up g F H F1 H1) (b : Up g F1 H1 F2 H2) : Up g F H F2 H2 :=
  ⟨a.ext.trans b.ext, a.sub.trans b.sub, fun c o h n f => b.grow c o (a.ext c o h n) n (a.grow c o h n f), b.fit⟩
/-- nothing but a table may have stood there -/
def Fresh (H : Hp) (l : Addr) : Prop := ∀ o, H l = some o → ¬ NT o
theorem Fresh.of {H : Hp} {l : Addr} (h : H l = none) : Fresh H l := fun o e => by
  rw [h] at e
  cases e
theorem Fresh.back {H H1 : Hp} {l : Addr} (e : LamX.ExtN H H1) (h : Fresh H1 l) : Fresh H l := fun o q n => h o (e l o q n) n
theorem Fresh.low {g : Gb} {F H : Hp} {l : Addr} (f : Fit g F H) (h : Fresh H l) : F l = none := by
  cases e : F l with
  | none => rfl
  | some o => exact absurd (f.nt l o e) (h o (f.low l o e))
theorem Fresh.ne {H : Hp} {l a : Addr} {o : HO} (h : Fresh H l) (e : H a = some o) (n : NT o) : a ≠ l := fun z => by
  rw [z] at e
  exact h o e n
theorem tabs_ext {T : List (Addr × Str)} {H H' : Hp} (t : LamX.Tabs T H) (e : Sub H H') : LamX.Tabs T H' := t.ext e
/-- one object more, not frozen -/
theorem up_new {g : Gb} {F H : Hp} (f : Fit g F H) {p : Addr} {o : HO} (hp : H p = none) : Up g F H F (upd H p o) := by
  have s : Sub H (upd H p o) := fun b u e => by
    rw [upd_ne (ne_of_none e hp)]
    exact e
  exact ⟨LamX.ExtN.of s, Sub.refl F, fun _ _ _ _ h => h, ⟨f.low.trans s, f.nt, f.tab.ext s⟩⟩
/-- one object more, frozen -/
theorem up_newF {g : Gb} {F H : Hp} (f : Fit g F H) {p : Addr} {o : HO} (hp : H p = none) (n : NT o) : Up g F H (upd F p o) (upd H p o) := by
  have fp : F p = none := f.low.free hp
  have s : Sub H (upd H p o) := fun b u e => by
    rw [upd_ne (ne_of_none e hp)]
    exact e
  refine ⟨LamX.ExtN.of s, fun b u e => ?_, fun b u e _ h => ?_, ⟨fun b u e => ?_, fun b u e => ?_, f.tab.ext s⟩⟩
  · rw [upd_ne (ne_of_none e fp)]
    exact e
  · rw [upd_ne (ne_of_none e hp)]
    exact h
  · by_cases hb : b = p
    · subst hb
      rw [upd_same] at e ⊢
      exact e
    · rw [upd_ne hb] at e ⊢
      exact f.low b u e
  · by_cases hb : b = p
    · subst hb
      rw [upd_same] at e
      cases e
      exact n
    · rw [upd_ne hb] at e
      exact f.nt b u e
/-- what stands in H, and was not frozen, is frozen from now on -/
theorem fit_frz {g : Gb} {F H : Hp} (f : Fit g F H) {p : Addr} {o : HO} (hp : H p = some o) (n : NT o) : Fit g (upd F p o) H := by
  refine ⟨fun b u e => ?_, fun b u e => ?_, f.tab⟩
  · by_cases hb : b = p
    · subst hb
      rw [upd_same] at e
      rw [hp]
      exact e
    · rw [upd_ne hb] at e
      exact f.low b u e
  · by_cases hb : b = p
    · subst hb
      rw [upd_same] at e
      cases e
      exact n
    · rw [upd_ne hb] at e
      exact f.nt b u e
theorem sub_upd {F : Hp} {p : Addr} {o : HO} (h : F p = none) : Sub F (upd F p o) := fun b u e => by
  rw [upd_ne (ne_of_none e h)]
  exact e

/-! ### slots -/
/-- what a slot of the frame holds: nothing known; a frozen value; a list that is the frame's own; a dict that is its own -/
inductive Sl where
  | un
  | v (d : D)
  | m (ds : List D)
  | dc (kvs : List (Int × V))
  | nw (d : D)
  | pr (pre : List D) (ds : List D)

def Sl.owned : Sl → Bool
  | .m _ => true
  | .dc _ => true
  | .pr _ _ => true
  | _ => false

def dkv (kvs : List (Int × V)) : List (Key × V) := kvs.map fun p => (Sum.inl p.1, p.2)

def SlotOk (g : Gb) (F H : Hp) (a : Addr) : Sl → Option V → Prop
  | .un, _ => True
  | .v d, o => ∃ v, o = some v ∧ Rep g F d v
  | .m ds, o => o = some (.ref a) ∧ F a = none ∧ ∃ xs, H a = some (.lst xs) ∧ RepL g F ds xs
  | .dc kvs, o => o = some (.ref a) ∧ F a = none ∧ H a = some (.dK (dkv kvs))
  | .nw d, o => ∃ v, o = some v ∧ Rep g F d v
  | .pr pre ds, o => ∃ p vs, o = some (.ref p) ∧ F p = some (.lst (vs ++ [.ref a])) ∧ RepL g F pre vs ∧ F a = none ∧ ∃ xs, H a = some (.lst xs) ∧ RepL g F ds xs

structure Ok (g : Gb) (G : List Sl) (F H : Hp) (σ : St) (ow : Nat → Addr) : Prop where
  fit : Fit g F H
  len : σ.length = G.length
  at_ : ∀ i s, G[i]? = some s → ∃ o, σ[i]? = some o ∧ SlotOk g F H (ow i) s o
  inj : ∀ i j s t, G[i]? = some s → G[j]? = some t → s.owned = true → t.owned = true → ow i = ow j → i = j

section
variable {g : Gb} {G : List Sl} {F F' H H' : Hp} {σ : St} {ow : Nat → Addr}
theorem SlotOk.own {a : Addr} {s : Sl} {o : Option V} (h : SlotOk g F H a s o) (w : s.owned = true) : F a = none ∧ ∃ u, H a = some u ∧ NT u := by
  cases s with
  | un => cases w
  | v d => cases w
  | m ds =>
    obtain ⟨_, h2, xs, h3, _⟩ := h
    exact ⟨h2, _, h3, nt_lst⟩
  | dc kvs =>
    obtain ⟨_, h2, h3⟩ := h
    exact ⟨h2, _, h3, nt_dK⟩
  | nw d => cases w
  | pr pre ds =>
    obtain ⟨p, vs, _, _, _, h2, xs, h3, _⟩ := h
    exact ⟨h2, _, h3, nt_lst⟩
theorem SlotOk.up {a : Addr} {s : Sl} {o : Option V} (u : Up g F H F' H') (h : SlotOk g F H a s o) : SlotOk g F' H' a s o := by
  cases s with
  | un => exact True.intro
  | v d =>
    obtain ⟨v, h1, h2⟩ := h
    exact ⟨v, h1, Rep.mono u.sub _ _ h2⟩
  | m ds =>
    obtain ⟨h1, h2, xs, h3, h4⟩ := h
    exact ⟨h1, u.grow _ _ h3 nt_lst h2, xs, u.ext _ _ h3 nt_lst, RepL.mono u.sub _ _ h4⟩
  | dc kvs =>
    obtain ⟨h1, h2, h3⟩ := h
    exact ⟨h1, u.grow _ _ h3 nt_dK h2, u.ext _ _ h3 nt_dK⟩
  | nw d =>
    obtain ⟨v, h1, h2⟩ := h
    exact ⟨v, h1, Rep.mono u.sub _ _ h2⟩
  | pr pre ds =>
    obtain ⟨p, vs, h1, h2, h3, h4, xs, h5, h6⟩ := h
    exact ⟨p, vs, h1, u.sub _ _ h2, RepL.mono u.sub _ _ h3, u.grow _ _ h5 nt_lst h4, xs, u.ext _ _ h5 nt_lst, RepL.mono u.sub _ _ h6⟩
theorem Ok.up (k : Ok g G F H σ ow) (u : Up g F H F' H') : Ok g G F' H' σ ow :=
  ⟨u.fit, k.len, fun i s e => by
    obtain ⟨o, h1, h2⟩ := k.at_ i s e
    exact ⟨o, h1, h2.up u⟩, k.inj⟩
/-- an address that is fresh at H is no slot's own -/
theorem Ok.apart (k : Ok g G F H σ ow) {l : Addr} (f : Fresh H l) {i : Nat} {s : Sl} (e : G[i]? = some s) (w : s.owned = true) : ow i ≠ l := by
  obtain ⟨o, _, h2⟩ := k.at_ i s e
  obtain ⟨_, u, h3, n⟩ := h2.own w
  exact f.ne h3 n
end

open Classical in
/-- of what is frozen: what has come since H, and the tuples -/
noncomputable def newp (H F : Hp) : Hp := fun b => if Fresh H b ∨ ∃ xs, F b = some (.tup xs) then F b else none
theorem newp_sub {H F : Hp} : Sub (newp H F) F := fun b o e => by
  unfold newp at e
  split at e
  · exact e
  · cases e
theorem newp_tup {H F : Hp} (b : Addr) (xs : List V) (e : F b = some (.tup xs)) : newp H F b = some (.tup xs) := by
  unfold newp
  rw [if_pos (Or.inr ⟨xs, e⟩)]
  exact e
theorem newp_back {H H1 F : Hp} (e : LamX.ExtN H H1) : Sub (newp H1 F) (newp H F) := fun b o q => by
  have q1 := newp_sub b o q
  unfold newp at q ⊢
  split at q
  · rename_i z
    rcases z with z | z
    · rw [if_pos (Or.inl (Fresh.back e z))]
      exact q
    · rw [if_pos (Or.inr z)]
      exact q
  · cases q
/-- a value that comes: what it is worth, and where it lies -/
def RtOk (g : Gb) (F H H' : Hp) : Sl → V → Prop
  | .un, _ => True
  | .v d, v => Rep g F d v
  | .m ds, v => ∃ l xs, v = .ref l ∧ Fresh H l ∧ H' l = some (.lst xs) ∧ F l = none ∧ RepL g F ds xs
  | .dc kvs, v => ∃ l, v = .ref l ∧ Fresh H l ∧ H' l = some (.dK (dkv kvs)) ∧ F l = none
  | .nw d, v => Rep g (newp H F) d v
  | .pr pre ds, v => ∃ p vs a xs, v = .ref p ∧ F p = some (.lst (vs ++ [.ref a])) ∧ RepL g F pre vs ∧ Fresh H a ∧ H' a = some (.lst xs) ∧ F a = none ∧ RepL g F ds xs
theorem RtOk.back {g : Gb} {F H H1 H' : Hp} {r : Sl} {v : V} (e : LamX.ExtN H H1) (h : RtOk g F H1 H' r v) : RtOk g F H H' r v := by
  cases r with
  | un => exact True.intro
  | v d => exact h
  | m ds =>
    obtain ⟨l, xs, h1, h2, h3⟩ := h
    exact ⟨l, xs, h1, h2.back e, h3⟩
  | dc kvs =>
    obtain ⟨l, h1, h2, h3⟩ := h
    exact ⟨l, h1, h2.back e, h3⟩
  | nw d => exact Rep.mono (newp_back e) _ _ h
  | pr pre ds =>
    obtain ⟨p, vs, a, xs, h1, h2, h3, h4, h5⟩ := h
    exact ⟨p, vs, a, xs, h1, h2, h3, h4.back e, h5⟩
end CH

/-! Choosehall, the judgements: what an expression is worth, from the data of the frame's slots. -/
namespace CH
open PySem L2

def WE (X : Cx) (e : Expr) : TE := fun σ H Q => ∀ pins s, Inv X pins σ H s → wpAny (model X.prog X.w) X.A (eval e X.env) (EP X pins σ Q) X.xe s
def WT (X : Cx) (e : Expr) : TT := fun σ H Q => ∀ pins s, Inv X pins σ H s → wpAny (model X.prog X.w) X.A (isTrue e X.env (eval e X.env)) (TP X pins σ Q) X.xe s
def WA (X : Cx) (es : List Expr) : TA := fun σ H Q => ∀ pos pins s, Inv X pins σ H s → wpAny (model X.prog X.w) X.A (spliced (backTo pos (starEach es X.env))) (AP X pins σ Q) X.xe s
def WO (X : Cx) (e : Option Expr) : TO := match e with
  | none => tNoPart
  | some e => tPart (WE X e)
theorem pe_we {X : Cx} {e : Expr} : PE X e (WE X e) := ⟨fun pins s _ _ _ I h => h pins s I⟩
theorem pt_wt {X : Cx} {e : Expr} : PT X e (WT X e) := ⟨fun pins s _ _ _ I h => h pins s I⟩
theorem pa_wa {X : Cx} {es : List Expr} : PA X es (WA X es) := ⟨fun pos pins s _ _ _ I h => h pos pins s I⟩
theorem po_wo {X : Cx} {e : Option Expr} : PO X e (WO X e) := by
  cases e with
  | none => exact po_none
  | some e => exact po_some pe_we
theorem we_of {X : Cx} {e : Expr} {t : TE} (h : PE X e t) {σ : St} {H : Hp} {Q : VK} (q : t σ H Q) : WE X e σ H Q := fun pins s I => h.run pins s σ H Q I q
theorem wt_of {X : Cx} {e : Expr} {t : TT} (h : PT X e t) {σ : St} {H : Hp} {Q : Bool → Hp → Prop} (q : t σ H Q) : WT X e σ H Q := fun pins s I => h.run pins s σ H Q I q
theorem wa_of {X : Cx} {es : List Expr} {t : TA} (h : PA X es t) {σ : St} {H : Hp} {Q : List V → Hp → Prop} (q : t σ H Q) : WA X es σ H Q := fun pos pins s I => h.run pos pins s σ H Q I q

/-- with the slots' data G, e gives r -/
def Ev (g : Gb) (X : Cx) (G : List Sl) (e : Expr) (r : Sl) : Prop := ∀ F H σ ow, Ok g G F H σ ow → ∀ Q : VK, (∀ v F' H', Up g F H F' H' → RtOk g F' H H' r v → Q v H') → WE X e σ H Q
def EvT (g : Gb) (X : Cx) (G : List Sl) (e : Expr) (b : Bool) : Prop := ∀ F H σ ow, Ok g G F H σ ow → ∀ Q : Bool → Hp → Prop, (∀ F' H', Up g F H F' H' → Q b H') → WT X e σ H Q
def EvA (g : Gb) (X : Cx) (G : List Sl) (es : List Expr) (ds : List D) : Prop := ∀ F H σ ow, Ok g G F H σ ow → ∀ Q : List V → Hp → Prop, (∀ vs F' H', Up g F H F' H' → RepL g F' ds vs → Q vs H') → WA X es σ H Q
def EvO (g : Gb) (X : Cx) (G : List Sl) (e : Option Expr) (o : Option Int) : Prop := ∀ F H σ ow, Ok g G F H σ ow → ∀ Q : Option Int → Hp → Prop, (∀ F' H', Up g F H F' H' → Q o H') → WO X e σ H Q
abbrev EvD (g : Gb) (X : Cx) (G : List Sl) (e : Expr) (d : D) : Prop := Ev g X G e (.v d)

section
variable {g : Gb} {X : Cx} {G : List Sl} {a b c e : Expr} {es : List Expr} {pos p apos : Pos}
theorem Ev.is {r r' : Sl} (h : Ev g X G e r) (q : r = r') : Ev g X G e r' := q ▸ h
theorem EvT.is {r r' : Bool} (h : EvT g X G e r) (q : r = r') : EvT g X G e r' := q ▸ h
/-- a new list, frozen at once -/
theorem Ev.fz {ds : List D} (h : Ev g X G e (.m ds)) : EvD g X G e (.lst ds) := by
  intro F H σ ow k Q q
  refine h F H σ ow k Q fun v F1 H1 u r => ?_
  obtain ⟨l, xs, rfl, hf, h1, h2, h3⟩ := r
  refine q _ (upd F1 l (.lst xs)) H1 ⟨u.ext, u.sub.trans (sub_upd h2), fun b o e n f => ?_, fit_frz u.fit h1 nt_lst⟩ (rep_lst upd_same (RepL.mono (sub_upd h2) _ _ h3))
  rw [upd_ne (hf.ne e n)]
  exact u.grow b o e n f

theorem ev_var (i : Nat) {x : Str} {d : D} (hG : G[i]? = some (.v d) := by rfl) (hN : X.N[i]? = some x := by rfl) (hv : Vis X.env.scope x := by first | exact Or.inl rfl | exact Or.inr (Or.inl rfl) | exact Or.inr (Or.inr rfl))
    (hd : (x == ("__debug__" : Str)) = false := by decide) (hcd : (x == ("__classdict__" : Str)) = false := by decide) : EvD g X G (.Name x pos) d := by
  intro F H σ ow k Q q
  obtain ⟨o, h1, v, h2, h3⟩ := k.at_ i _ hG
  refine we_of (pe_var hN hv hd hcd) ⟨v, by rw [h1, h2], q v F H (Up.refl k.fit) h3⟩
theorem ev_glob {x : Str} {d : D} {v : V} {u : Value} (hg : Gl X x) (hm : X.mg x = some u) (r : RelV v u) (hd : ∀ F, Rep g F d v) (hdb : (x == ("__debug__" : Str)) = false := by decide) : EvD g X G (.Name x pos) d := by
  intro F H σ ow k Q q
  exact we_of (pe_glob hg hm r hdb) (q v F H (Up.refl k.fit) (hd F))
theorem ev_int {i : Int} {j} : EvD g X G (.Constant (.int i) j pos) (.int i) := fun F H σ ow k Q q => we_of pe_int (q _ F H (Up.refl k.fit) (rep_int i))
theorem ev_true {j} : EvD g X G (.Constant (.bool true) j pos) (.bl true) := fun F H σ ow k Q q => we_of pe_bl (q _ F H (Up.refl k.fit) (rep_bl _))
theorem ev_false {j} : EvD g X G (.Constant (.bool false) j pos) (.bl false) := fun F H σ ow k Q q => we_of pe_bl (q _ F H (Up.refl k.fit) (rep_bl _))
theorem ev_non {j} : EvD g X G (.Constant .none j pos) .non := fun F H σ ow k Q q => we_of pe_non (q _ F H (Up.refl k.fit) rep_non)
theorem ev_str {x : Str} {j} : EvD g X G (.Constant (.str x) j pos) (.str x) := fun F H σ ow k Q q => we_of pe_str (q _ F H (Up.refl k.fit) (rep_str x))

/-! ### operators -/
def BinOk (g : Gb) (X : Cx) (op : Operator) (d1 d2 : D) (r : Sl) : Prop := ∃ rr : R2, OpR X (binaryOp op) rr ∧ ∀ F H v1 v2, Fit g F H → Rep g F d1 v1 → Rep g F d2 v2 → ∀ Q : VK, (∀ v F' H', Up g F H F' H' → RtOk g F' H H' r v → Q v H') → rr v1 v2 H Q
theorem ev_bin {op : Operator} {d1 d2 : D} {r : Sl} (ha : EvD g X G a d1) (hb : EvD g X G b d2) (h : BinOk g X op d1 d2 r) : Ev g X G (.BinOp a op b pos) r := by
  intro F H σ ow k Q q
  obtain ⟨rr, ho, hr⟩ := h
  refine we_of (pe_op ho pe_we pe_we) ?_
  refine ha F H σ ow k _ fun v1 F1 H1 u1 r1 => ?_
  refine hb F1 H1 σ ow (k.up u1) _ fun v2 F2 H2 u2 r2 => ?_
  exact hr F2 H2 v1 v2 u2.fit (Rep.mono u2.sub _ _ r1) r2 Q fun v F3 H3 u3 r3 => q v F3 H3 ((u1.trans u2).trans u3) (r3.back (u1.trans u2).ext)
theorem ev_neg {i : Int} (ha : EvD g X G a (.int i)) : EvD g X G (.UnaryOp .USub a pos) (.int (-i)) := by
  intro F H σ ow k Q q
  refine we_of (pe_un un_neg pe_we) ?_
  refine ha F H σ ow k _ fun v1 F1 H1 u1 r1 => ?_
  exact ⟨i, of_int r1, q _ F1 H1 u1 (rep_int _)⟩
theorem bin_int {op : Operator} {f : Int → Int → Int} {C : Int → Int → Prop} {i j : Int} (ho : OpR X (binaryOp op) (rI C fun i j => .int (f i j))) (hc : C i j) : BinOk g X op (.int i) (.int j) (.v (.int (f i j))) :=
  ⟨_, ho, fun F H v1 v2 hf h1 h2 Q q => ⟨i, j, of_int h1, of_int h2, hc, q _ F H (Up.refl hf) (rep_int _)⟩⟩
theorem bin_int0 {op : Operator} {f : Int → Int → Int} {i j : Int} (ho : OpR X (binaryOp op) (rI0 fun i j => .int (f i j))) : BinOk g X op (.int i) (.int j) (.v (.int (f i j))) :=
  ⟨_, ho, fun F H v1 v2 hf h1 h2 Q q => ⟨i, j, of_int h1, of_int h2, q _ F H (Up.refl hf) (rep_int _)⟩⟩
theorem bin_add {i j : Int} : BinOk g X .Add (.int i) (.int j) (.v (.int (i + j))) := bin_int0 op_add
theorem bin_sub {i j : Int} : BinOk g X .Sub (.int i) (.int j) (.v (.int (i - j))) := bin_int0 op_sub
theorem bin_mod {i j : Int} (h : 0 < j) : BinOk g X .Mod (.int i) (.int j) (.v (.int (i % j))) := bin_int op_mod h
theorem bin_div {i j : Int} (h : 0 < j ∧ j < 1073741824) : BinOk g X .FloorDiv (.int i) (.int j) (.v (.int (i / j))) := bin_int op_fdiv h
theorem bin_mul {i j : Int} (h : (-(2 ^ 64) < i ∧ i < 2 ^ 64) ∨ (-(2 ^ 64) < j ∧ j < 2 ^ 64)) : BinOk g X .Mult (.int i) (.int j) (.v (.int (i * j))) := bin_int op_mul h
theorem bin_adds {x y : Str} (h : x.length + y.length ≤ sizeLine) : BinOk g X .Add (.str x) (.str y) (.v (.str (x ++ y))) :=
  ⟨_, op_add_str, fun F H v1 v2 hf h1 h2 Q q => ⟨x, y, of_str h1, of_str h2, h, q _ F H (Up.refl hf) (rep_str _)⟩⟩
/-- a new list, by its rule -/
theorem rt_new {F H : Hp} {ds : List D} {xs : List V} (hf : Fit g F H) (h : RepL g F ds xs) {Q : VK} (q : ∀ v F' H', Up g F H F' H' → RtOk g F' H H' (.m ds) v → Q v H') {p : Addr} (hp : H p = none) : Q (.ref p) (upd H p (.lst xs)) :=
  q _ F _ (up_new hf hp) ⟨p, xs, rfl, Fresh.of hp, upd_same, hf.low.free hp, h⟩
theorem rt_newT {F H : Hp} {ds : List D} {xs : List V} (hf : Fit g F H) (h : RepL g F ds xs) {Q : VK} (q : ∀ v F' H', Up g F H F' H' → RtOk g F' H H' (.v (.tup ds)) v → Q v H') {p : Addr} (hp : H p = none) : Q (.ref p) (upd H p (.tup xs)) :=
  q _ (upd F p (.tup xs)) _ (up_newF hf hp nt_tup) (rep_tup upd_same (RepL.mono (sub_upd (hf.low.free hp)) _ _ h))
theorem bin_cat {ds es : List D} (h : ds.length + es.length ≤ 100000) : BinOk g X .Add (.lst ds) (.lst es) (.m (ds ++ es)) :=
  ⟨_, op_cat, fun F H v1 v2 hf h1 h2 Q q => by
    obtain ⟨l, xs, e1, f1, r1⟩ := of_lst h1
    obtain ⟨m, ys, e2, f2, r2⟩ := of_lst h2
    refine ⟨l, m, xs, ys, e1, e2, hf.low _ _ f1, hf.low _ _ f2, ?_, fun p hp => rt_new hf (r1.app r2) q hp⟩
    rw [r1.len, r2.len]
    exact Nat.le_trans h (by decide)⟩
theorem bin_rep {ds : List D} {k : Int} (h : k ≤ 100000 ∧ -100000 ≤ k) (hl : ds.length * k.toNat ≤ 100000) : BinOk g X .Mult (.lst ds) (.int k) (.m (List.replicate k.toNat ds).flatten) :=
  ⟨_, op_rep, fun F H v1 v2 hf h1 h2 Q q => by
    obtain ⟨l, xs, e1, f1, r1⟩ := of_lst h1
    refine ⟨l, k, xs, e1, of_int h2, hf.low _ _ f1, by omega, by omega, ?_, fun p hp => rt_new hf (r1.rep _) q hp⟩
    rw [r1.len]
    exact Nat.le_trans hl (by decide)⟩
theorem bin_catT {ds es : List D} (h0 : ds ≠ []) (h1 : es ≠ []) (h : ds.length + es.length ≤ 100000) : BinOk g X .Add (.tup ds) (.tup es) (.v (.tup (ds ++ es))) :=
  ⟨_, op_catT, fun F H v1 v2 hf h3 h2 Q q => by
    obtain ⟨l, xs, e1, f1, r1⟩ := of_tup h3
    obtain ⟨m, ys, e2, f2, r2⟩ := of_tup h2
    refine ⟨l, m, xs, ys, e1, e2, SqT.of (hf.low _ _ f1), SqT.of (hf.low _ _ f2), fun z => h0 ?_, ?_, fun z => absurd ?_ h1, fun _ p hp => rt_newT hf (r1.app r2) q hp⟩
    · have := r1.len
      rw [z] at this
      exact List.length_eq_zero_iff.mp this.symm
    · rw [r1.len, r2.len]
      exact Nat.le_trans h (by decide)
    · have := r2.len
      rw [z] at this
      exact List.length_eq_zero_iff.mp this.symm⟩

/-! ### comparisons -/
def CmpOk (g : Gb) (X : Cx) (op : CmpOp) (d1 d2 : D) (c : Bool) : Prop := ∃ rr : R2, OpR X (compareOp op) rr ∧ ∀ F H v1 v2, Fit g F H → Rep g F d1 v1 → Rep g F d2 v2 → ∀ Q : VK, Q (.bl c) H → rr v1 v2 H Q
theorem ev_cmp {op : CmpOp} {d1 d2 : D} {r : Bool} (ha : EvD g X G a d1) (hb : EvD g X G b d2) (h : CmpOk g X op d1 d2 r) (hm : behindInMarks op b = false := by first | exact nomark _ | rfl) : EvD g X G (.Compare a [op] [b] pos) (.bl r) := by
  intro F H σ ow k Q q
  obtain ⟨rr, ho, hr⟩ := h
  refine we_of (pe_cmpR ho pe_we pe_we hm) ?_
  refine ha F H σ ow k _ fun v1 F1 H1 u1 r1 => ?_
  refine hb F1 H1 σ ow (k.up u1) _ fun v2 F2 H2 u2 r2 => ?_
  exact hr F2 H2 v1 v2 u2.fit (Rep.mono u2.sub _ _ r1) r2 Q (q _ F2 H2 (u1.trans u2) (rep_bl r))
theorem et_cmp {op : CmpOp} {d1 d2 : D} {r : Bool} (ha : EvD g X G a d1) (hb : EvD g X G b d2) (h : CmpOk g X op d1 d2 r) (hm : behindInMarks op b = false := by first | exact nomark _ | rfl) : EvT g X G (.Compare a [op] [b] pos) r := by
  intro F H σ ow k Q q
  obtain ⟨rr, ho, hr⟩ := h
  refine wt_of (pt_cmpR ho pe_we pe_we hm) ?_
  refine ha F H σ ow k _ fun v1 F1 H1 u1 r1 => ?_
  refine hb F1 H1 σ ow (k.up u1) _ fun v2 F2 H2 u2 r2 => ?_
  exact hr F2 H2 v1 v2 u2.fit (Rep.mono u2.sub _ _ r1) r2 _ ⟨r, rfl, q F2 H2 (u1.trans u2)⟩
theorem cmp_lt {i j : Int} : CmpOk g X .Lt (.int i) (.int j) (decide (i < j)) := ⟨_, op_lt, fun F H v1 v2 hf h1 h2 Q q => ⟨i, j, of_int h1, of_int h2, q⟩⟩
theorem cmp_le {i j : Int} : CmpOk g X .LtE (.int i) (.int j) (decide (i ≤ j)) := ⟨_, op_le, fun F H v1 v2 hf h1 h2 Q q => ⟨i, j, of_int h1, of_int h2, q⟩⟩
theorem cmp_gt {i j : Int} : CmpOk g X .Gt (.int i) (.int j) (decide (j < i)) := ⟨_, op_gt, fun F H v1 v2 hf h1 h2 Q q => ⟨i, j, of_int h1, of_int h2, q⟩⟩
theorem cmp_ge {i j : Int} : CmpOk g X .GtE (.int i) (.int j) (decide (j ≤ i)) := ⟨_, op_ge, fun F H v1 v2 hf h1 h2 Q q => ⟨i, j, of_int h1, of_int h2, q⟩⟩
def D.isN : D → Bool
  | .non => true
  | _ => false
theorem isN_rep {F : Hp} {d : D} {v : V} (h : Rep g F d v) : decide (v = .non) = d.isN := by
  cases d with
  | non => rw [of_non h] <;> rfl
  | bl b => rw [of_bl h] <;> rfl
  | int b => rw [of_int h] <;> rfl
  | str b => rw [of_str h] <;> rfl
  | lst b =>
    obtain ⟨a, xs, e, _⟩ := of_lst h
    rw [e] <;> rfl
  | tup b =>
    obtain ⟨a, xs, e, _⟩ := of_tup h
    rw [e] <;> rfl
  | scr b =>
    obtain ⟨a, e, _⟩ := of_scr h
    rw [e] <;> rfl
  | hs b =>
    obtain ⟨a, e, _⟩ := of_hs h
    rw [e] <;> rfl
  | adr a =>
    cases h
    rfl
theorem cmp_is {d : D} : CmpOk g X .Is d .non d.isN := ⟨_, op_isN, fun F H v1 v2 hf h1 h2 Q q => ⟨of_non h2, by rw [isN_rep h1]; exact q⟩⟩
theorem cmp_isnot {d : D} : CmpOk g X .IsNot d .non (!d.isN) := ⟨_, op_notN, fun F H v1 v2 hf h1 h2 Q q => ⟨of_non h2, by rw [isN_rep h1]; exact q⟩⟩

/-! data that is compared at any depth -/
mutual
def toPy : D → PyData
  | .non => .none
  | .bl b => .bool b
  | .int i => .int i
  | .str x => .str x
  | .lst l => .list (toPyL l)
  | .tup l => .tuple (toPyL l)
  | .scr _ => .none
  | .hs _ => .none
  | .adr _ => .none
def toPyL : List D → List PyData
  | [] => []
  | d :: l => toPy d :: toPyL l
end
mutual
def D.pl : D → Bool
  | .lst l => plL l
  | .tup l => plL l
  | .scr _ => false
  | .hs _ => false
  | .adr _ => false
  | _ => true
def plL : List D → Bool
  | [] => true
  | d :: l => d.pl && plL l
end
mutual
theorem dp_of {F H : Hp} (hf : Sub F H) : ∀ (d : D) (v : V), d.pl = true → Rep g F d v → Dp g.K H v (toPy d)
  | .non, v, _, h => by rw [of_non h]; exact .non
  | .bl b, v, _, h => by rw [of_bl h]; exact .bl b
  | .int i, v, _, h => by rw [of_int h]; exact .int i
  | .str x, v, _, h => by rw [of_str h]; exact .str x
  | .lst l, v, p, h => by
    obtain ⟨a, xs, e, h1, h2⟩ := of_lst h
    rw [e]
    exact .lst (SqL.of (hf _ _ h1)) (dp_ofL hf l xs p h2)
  | .tup l, v, p, h => by
    obtain ⟨a, xs, e, h1, h2⟩ := of_tup h
    rw [e]
    exact .tup (SqT.of (hf _ _ h1)) (dp_ofL hf l xs p h2)
  | .scr _, _, p, _ => by cases p
  | .hs _, _, p, _ => by cases p
  | .adr _, _, p, _ => by cases p
theorem dp_ofL {F H : Hp} (hf : Sub F H) : ∀ (ds : List D) (vs : List V), plL ds = true → RepL g F ds vs → DpAll g.K H vs (toPyL ds)
  | [], vs, _, h => by
    rw [repL_inv0 h]
    exact .nil
  | d :: ds, vs, p, h => by
    obtain ⟨v, ws, e, h1, h2⟩ := repL_inv h
    rw [e]
    have p' : (d.pl && plL ds) = true := p
    rw [Bool.and_eq_true] at p'
    exact .cons (dp_of hf d v p'.1 h1) (dp_ofL hf ds ws p'.2 h2)
end
def D.eqv (d e : D) : Bool := PyData.eqv (toPy d) (toPy e)
/-- two data that may be held against each other -/
def D.cmpable (d : D) : Prop := d.pl = true ∧ SeqAt.shaped (toPy d) = true
theorem cmp_eq {d e : D} (hK : X.K = g.K) (hu : X.A.units + 64 < cLine) (h1 : d.cmpable) (h2 : e.cmpable) : CmpOk g X .Eq d e (d.eqv e) :=
  ⟨_, op_eqD hu, fun F H v1 v2 hf r1 r2 Q q => ⟨toPy d, toPy e, by rw [hK]; exact dp_of hf.low d v1 h1.1 r1, by rw [hK]; exact dp_of hf.low e v2 h2.1 r2, h1.2, h2.2, q⟩⟩
theorem cmp_ne {d e : D} (hK : X.K = g.K) (hu : X.A.units + 64 < cLine) (h1 : d.cmpable) (h2 : e.cmpable) : CmpOk g X .NotEq d e (!d.eqv e) :=
  ⟨_, op_neD hu, fun F H v1 v2 hf r1 r2 Q q => ⟨toPy d, toPy e, by rw [hK]; exact dp_of hf.low d v1 h1.1 r1, by rw [hK]; exact dp_of hf.low e v2 h2.1 r2, h1.2, h2.2, q⟩⟩
/-- flat data: in, not in, index -/
def D.fl : D → Option V
  | .non => some .non
  | .bl b => some (.bl b)
  | .int i => some (.int i)
  | .str x => some (.str x)
  | _ => none
theorem fl_rep {F : Hp} {d : D} {v w : V} (h : d.fl = some w) (r : Rep g F d v) : v = w ∧ flatV v = true := by
  cases d with
  | non => cases h; rw [of_non r]; exact ⟨rfl, rfl⟩
  | bl b => cases h; rw [of_bl r]; exact ⟨rfl, rfl⟩
  | int b => cases h; rw [of_int r]; exact ⟨rfl, rfl⟩
  | str b => cases h; rw [of_str r]; exact ⟨rfl, rfl⟩
  | _ => cases h
theorem flL_rep {F : Hp} : ∀ {ds : List D} {ws vs : List V}, ds.map D.fl = ws.map some → RepL g F ds vs → vs = ws ∧ vs.all flatV = true
  | [], ws, vs, h, r => by
    have r := repL_inv0 r
    cases ws with
    | nil => exact ⟨r, by rw [r]; rfl⟩
    | cons _ _ => cases h
  | d :: ds, ws, vs, h, r => by
    obtain ⟨v, us, e, r1, r2⟩ := repL_inv r
    cases ws with
    | nil => cases h
    | cons w ws =>
      rw [List.map_cons, List.map_cons, List.cons.injEq] at h
      obtain ⟨e1, f1⟩ := fl_rep h.1 r1
      obtain ⟨e2, f2⟩ := flL_rep h.2 r2
      rw [e, e1, e2]
      refine ⟨rfl, ?_⟩
      rw [List.all_cons, ← e1, f1, ← e2, f2] <;> rfl
theorem cmp_in {d : D} {ds : List D} {w : V} {ws : List V} (hK : X.K = g.K) (h1 : d.fl = some w) (h2 : ds.map D.fl = ws.map some) : CmpOk g X .In d (.lst ds) (inV w ws) :=
  ⟨_, op_in_seq, fun F H v1 v2 hf r1 r2 Q q => by
    obtain ⟨a, xs, e, f, r⟩ := of_lst r2
    obtain ⟨e1, f1⟩ := fl_rep h1 r1
    obtain ⟨e2, f2⟩ := flL_rep h2 r
    refine ⟨a, xs, e, Or.inl (SqL.of (hf.low _ _ f)), f1, f2, ?_⟩
    rw [e1, e2]
    exact q⟩
theorem cmp_notin {d : D} {ds : List D} {w : V} {ws : List V} (hK : X.K = g.K) (h1 : d.fl = some w) (h2 : ds.map D.fl = ws.map some) : CmpOk g X .NotIn d (.lst ds) (!inV w ws) :=
  ⟨_, op_notIn_seq, fun F H v1 v2 hf r1 r2 Q q => by
    obtain ⟨a, xs, e, f, r⟩ := of_lst r2
    obtain ⟨e1, f1⟩ := fl_rep h1 r1
    obtain ⟨e2, f2⟩ := flL_rep h2 r
    refine ⟨a, xs, e, Or.inl (SqL.of (hf.low _ _ f)), f1, f2, ?_⟩
    rw [e1, e2]
    exact q⟩

/-! ### and, or, not; tests -/
theorem et_val {r : Bool} (h : EvD g X G e (.bl r)) (he : ∀ whole, isTrue e X.env whole = (do let v ← whole; standAt e.pos; holding [v] (truthy v)) := by intro _; rfl) : EvT g X G e r := by
  intro F H σ ow k Q q
  refine wt_of (pt_val pe_we he) ?_
  exact h F H σ ow k _ fun v F1 H1 u r1 => ⟨r, of_bl r1, q F1 H1 u⟩
def D.truth : D → Bool
  | .non => false
  | .bl b => b
  | .int i => i != 0
  | .str x => (x.length : Int) != 0
  | .lst l => !l.isEmpty
  | .tup l => !l.isEmpty
  | .scr l => !l.isEmpty
  | .hs _ => true
  | .adr _ => true
def D.trOk : D → Prop
  | .str x => x.length ≤ 100000
  | .hs _ => False
  | .adr _ => False
  | _ => True
theorem tru_rep {F H : Hp} {d : D} {v : V} (hf : Sub F H) (h : Rep g F d v) (t : d.trOk) : TruV g.K v H d.truth := by
  cases d with
  | non => rw [of_non h]; exact rfl
  | bl b => rw [of_bl h]; exact rfl
  | int b => rw [of_int h]; exact rfl
  | str b => rw [of_str h]; exact ⟨Nat.le_trans t (by decide), rfl⟩
  | lst b =>
    obtain ⟨a, xs, e, h1, h2⟩ := of_lst h
    rw [e]
    refine Or.inl ⟨xs, SqL.of (hf _ _ h1), ?_⟩
    have := h2.len
    show (!b.isEmpty) = (!xs.isEmpty)
    cases b <;> cases xs <;> first | rfl | cases this
  | tup b =>
    obtain ⟨a, xs, e, h1, h2⟩ := of_tup h
    rw [e]
    refine Or.inr (Or.inl ⟨xs, SqT.of (hf _ _ h1), ?_⟩)
    have := h2.len
    show (!b.isEmpty) = (!xs.isEmpty)
    cases b <;> cases xs <;> first | rfl | cases this
  | scr b =>
    obtain ⟨a, e, h1⟩ := of_scr h
    rw [e]
    refine Or.inl ⟨_, sql_mono hf h1, ?_⟩
    show (!b.isEmpty) = (!(b.map V.int).isEmpty)
    cases b <;> rfl
  | hs b => exact t.elim
  | adr b => exact t.elim
theorem et_truth {d : D} (hK : X.K = g.K) (h : EvD g X G e d) (t : d.trOk) (he : ∀ whole, isTrue e X.env whole = (do let v ← whole; standAt e.pos; holding [v] (truthy v)) := by intro _; rfl) : EvT g X G e d.truth := by
  intro F H σ ow k Q q
  refine wt_of (pt_truth pe_we he) ?_
  exact h F H σ ow k _ fun v F1 H1 u r1 => ⟨d.truth, by rw [hK]; exact tru_rep u.fit.low r1 t, q F1 H1 u⟩
theorem et_not {r : Bool} (h : EvT g X G a r) : EvT g X G (.UnaryOp .Not a pos) (!r) := by
  intro F H σ ow k Q q
  refine wt_of (pt_not pt_wt) ?_
  exact h F H σ ow k _ fun F1 H1 u => q F1 H1 u
theorem et_and {r r' : Bool} (h : EvT g X G a r) (h' : r = true → EvT g X G b r') : EvT g X G (.BoolOp .And [a, b] pos) (r && r') := by
  intro F H σ ow k Q q
  refine wt_of (PW.pt (pw_and pt_wt (pw_and1 pt_wt))) ?_
  refine h F H σ ow k _ fun F1 H1 u => ?_
  cases r with
  | true => exact h' rfl F1 H1 σ ow (k.up u) _ fun F2 H2 u2 => q F2 H2 (u.trans u2)
  | false => exact q F1 H1 u
theorem et_or {r r' : Bool} (h : EvT g X G a r) (h' : r = false → EvT g X G b r') : EvT g X G (.BoolOp .Or [a, b] pos) (r || r') := by
  intro F H σ ow k Q q
  refine wt_of (PW.pt (pw_or pt_wt (pw_or1 pt_wt))) ?_
  refine h F H σ ow k _ fun F1 H1 u => ?_
  cases r with
  | true => exact q F1 H1 u
  | false => exact h' rfl F1 H1 σ ow (k.up u) _ fun F2 H2 u2 => q F2 H2 (u.trans u2)
theorem et_or3 {r r' r'' : Bool} (h : EvT g X G a r) (h' : r = false → EvT g X G b r') (h'' : r = false → r' = false → EvT g X G c r'') : EvT g X G (.BoolOp .Or [a, b, c] pos) (r || (r' || r'')) := by
  intro F H σ ow k Q q
  refine wt_of (PW.pt (pw_or pt_wt (pw_or pt_wt (pw_or1 pt_wt)))) ?_
  refine h F H σ ow k _ fun F1 H1 u => ?_
  cases r with
  | true => exact q F1 H1 u
  | false =>
    refine h' rfl F1 H1 σ ow (k.up u) _ fun F2 H2 u2 => ?_
    cases r' with
    | true => exact q F2 H2 (u.trans u2)
    | false => exact h'' rfl rfl F2 H2 σ ow ((k.up u).up u2) _ fun F3 H3 u3 => q F3 H3 ((u.trans u2).trans u3)
theorem et_or4 {d : Expr} {r r' r'' r3 : Bool} (h : EvT g X G a r) (h' : r = false → EvT g X G b r') (h'' : r = false → r' = false → EvT g X G c r'') (h3 : r = false → r' = false → r'' = false → EvT g X G d r3) :
    EvT g X G (.BoolOp .Or [a, b, c, d] pos) (r || (r' || (r'' || r3))) := by
  intro F H σ ow k Q q
  refine wt_of (PW.pt (pw_or pt_wt (pw_or pt_wt (pw_or pt_wt (pw_or1 pt_wt))))) ?_
  refine h F H σ ow k _ fun F1 H1 u => ?_
  cases r with
  | true => exact q F1 H1 u
  | false =>
    refine h' rfl F1 H1 σ ow (k.up u) _ fun F2 H2 u2 => ?_
    cases r' with
    | true => exact q F2 H2 (u.trans u2)
    | false =>
      refine h'' rfl rfl F2 H2 σ ow ((k.up u).up u2) _ fun F3 H3 u3 => ?_
      cases r'' with
      | true => exact q F3 H3 ((u.trans u2).trans u3)
      | false => exact h3 rfl rfl rfl F3 H3 σ ow (((k.up u).up u2).up u3) _ fun F4 H4 u4 => q F4 H4 (((u.trans u2).trans u3).trans u4)
/-- as values -/
theorem ev_and {r r' : Bool} (h : EvD g X G a (.bl r)) (h' : r = true → EvD g X G b (.bl r')) : EvD g X G (.BoolOp .And [a, b] pos) (.bl (r && r')) := by
  intro F H σ ow k Q q
  refine we_of (pe_and pe_we (pe_one pe_we)) ?_
  refine h F H σ ow k _ fun v F1 H1 u r1 => ⟨r, of_bl r1, ?_⟩
  cases r with
  | true => exact h' rfl F1 H1 σ ow (k.up u) _ fun v F2 H2 u2 r2 => q v F2 H2 (u.trans u2) r2
  | false => exact q _ F1 H1 u (rep_bl false)
theorem ev_or {r r' : Bool} (h : EvD g X G a (.bl r)) (h' : r = false → EvD g X G b (.bl r')) : EvD g X G (.BoolOp .Or [a, b] pos) (.bl (r || r')) := by
  intro F H σ ow k Q q
  refine we_of (pe_or pe_we (pe_one pe_we)) ?_
  refine h F H σ ow k _ fun v F1 H1 u r1 => ⟨r, of_bl r1, ?_⟩
  cases r with
  | true => exact q _ F1 H1 u (rep_bl true)
  | false => exact h' rfl F1 H1 σ ow (k.up u) _ fun v F2 H2 u2 r2 => q v F2 H2 (u.trans u2) r2
theorem ev_not {r : Bool} (h : EvD g X G a (.bl r)) : EvD g X G (.UnaryOp .Not a pos) (.bl (!r)) := by
  intro F H σ ow k Q q
  refine we_of (pe_not pe_we) ?_
  exact h F H σ ow k _ fun v F1 H1 u r1 => ⟨r, of_bl r1, q _ F1 H1 u (rep_bl _)⟩

/-! ### arguments, displays -/
theorem ea_nil : EvA g X G [] [] := fun F H σ ow k Q q => wa_of pa_nil (q [] F H (Up.refl k.fit) repL_nil)
theorem ea_cons {d : D} {ds : List D} (h : EvD g X G e d) (t : EvA g X G es ds) (hs : starEach (e :: es) X.env = (false, eval e X.env) :: starEach es X.env := by rfl) : EvA g X G (e :: es) (d :: ds) := by
  intro F H σ ow k Q q
  refine wa_of (pa_cons pe_we pa_wa hs) ?_
  refine h F H σ ow k _ fun v F1 H1 u r1 => ?_
  exact t F1 H1 σ ow (k.up u) _ fun vs F2 H2 u2 r2 => q _ F2 H2 (u.trans u2) (repL_cons (Rep.mono u2.sub _ _ r1) r2)
theorem ev_lst {ds : List D} (h : EvA g X G es ds) (hl : ds.length ≤ 100000) : Ev g X G (.List es pos) (.m ds) := by
  intro F H σ ow k Q q
  refine we_of (pe_lst pa_wa) ?_
  refine h F H σ ow k _ fun vs F1 H1 u r1 => ⟨?_, fun p hp => ?_⟩
  · rw [r1.len]
    exact Nat.le_trans hl (by decide)
  · exact rt_new u.fit r1 (fun v F2 H2 u2 r2 => q v F2 H2 (u.trans u2) (r2.back u.ext)) hp
theorem ev_tup {ds : List D} {j} (h : EvA g X G es ds) (hl : ds.length ≤ 100000) : EvD g X G (.Tuple es j pos) (.tup ds) := by
  intro F H σ ow k Q q
  refine we_of (pe_tup pa_wa) ?_
  refine h F H σ ow k _ fun vs F1 H1 u r1 => ⟨?_, fun p hp => ?_⟩
  · rw [r1.len]
    exact Nat.le_trans hl (by decide)
  · exact rt_newT u.fit r1 (fun v F2 H2 u2 r2 => q v F2 H2 (u.trans u2) r2) hp

/-! ### subscripts, slices -/
def D.at_ : D → Int → Option D
  | .lst l, i => atI l i
  | .tup l, i => atI l i
  | .scr l, i => (atI l i).map D.int
  | .str x, i => (atI x.cps.toList i).map fun c => D.str ⟨#[c]⟩
  | _, _ => none
def D.ixOk : D → Prop
  | .str x => x.length ≤ 100000
  | _ => True
theorem atI_len {α β : Type} {xs : List α} {ys : List β} (h : xs.length = ys.length) (i : Int) : ixN xs.length i = ixN ys.length i := by rw [h]
theorem RepL.ati {F : Hp} {ds : List D} {xs : List V} {i : Int} {d : D} (h : RepL g F ds xs) (e : atI ds i = some d) : ∃ v, atI xs i = some v ∧ Rep g F d v := by
  unfold atI at e ⊢
  rw [h.len]
  cases q : ixN ds.length i with
  | none =>
    rw [q] at e
    cases e
  | some j =>
    rw [q] at e
    exact h.at_ e
theorem ev_ix {d1 d : D} {i : Int} (hK : X.K = g.K) (ha : EvD g X G a d1) (hb : EvD g X G b (.int i)) (h : d1.at_ i = some d) (hx : d1.ixOk := by trivial) (hs : PlainIx b := by intro _ _; rfl) : EvD g X G (.Subscript a b pos) d := by
  intro F H σ ow k Q q
  refine we_of (pe_ix ix_seq pe_we pe_we hs) ?_
  refine ha F H σ ow k _ fun v1 F1 H1 u1 r1 => ?_
  refine hb F1 H1 σ ow (k.up u1) _ fun v2 F2 H2 u2 r2 => ?_
  rw [hK, of_int r2]
  have r1' := Rep.mono u2.sub _ _ r1
  cases d1 with
  | lst l =>
    obtain ⟨p, xs, e, h1, h2⟩ := of_lst r1'
    obtain ⟨v, e3, e4⟩ := h2.ati h
    rw [e]
    exact Or.inl ⟨p, xs, i, v, rfl, rfl, SqL.of (u2.fit.low _ _ h1), e3, q v F2 H2 (u1.trans u2) e4⟩
  | tup l =>
    obtain ⟨p, xs, e, h1, h2⟩ := of_tup r1'
    obtain ⟨v, e3, e4⟩ := h2.ati h
    rw [e]
    exact Or.inr (Or.inl ⟨p, xs, i, v, rfl, rfl, SqT.of (u2.fit.low _ _ h1), e3, q v F2 H2 (u1.trans u2) e4⟩)
  | scr l =>
    obtain ⟨p, e, h1⟩ := of_scr r1'
    have h' : (atI l i).map D.int = some d := h
    cases q0 : atI l i with
    | none =>
      rw [q0] at h'
      cases h'
    | some n =>
      rw [q0] at h'
      have e5 : D.int n = d := Option.some.inj h'
      rw [e]
      refine Or.inl ⟨p, _, i, V.int n, rfl, rfl, sql_mono u2.fit.low h1, ?_, q _ F2 H2 (u1.trans u2) (by rw [← e5]; exact rep_int n)⟩
      unfold atI at q0 ⊢
      rw [List.length_map]
      cases q1 : ixN l.length i with
      | none =>
        rw [q1] at q0
        cases q0
      | some j =>
        rw [q1] at q0
        have q2 : l[j]? = some n := q0
        show (l.map V.int)[j]? = some (V.int n)
        rw [List.getElem?_map, q2] <;> rfl
  | str x =>
    have h' : (atI x.cps.toList i).map (fun c => D.str ⟨#[c]⟩) = some d := h
    cases q0 : atI x.cps.toList i with
    | none =>
      rw [q0] at h'
      cases h'
    | some n =>
      rw [q0] at h'
      have e5 : D.str ⟨#[n]⟩ = d := Option.some.inj h'
      rw [of_str r1']
      exact Or.inr (Or.inr ⟨x, i, n, rfl, rfl, Nat.le_trans hx (by decide), q0, q _ F2 H2 (u1.trans u2) (by rw [← e5]; exact rep_str _)⟩)
  | _ => cases h
theorem eo_none : EvO g X G none none := fun F H σ ow k Q q => q F H (Up.refl k.fit)
theorem eo_some {i : Int} (h : EvD g X G e (.int i)) : EvO g X G (some e) (some i) := by
  intro F H σ ow k Q q
  exact h F H σ ow k _ fun v F1 H1 u r1 => ⟨i, of_int r1, q F1 H1 u⟩
def cutD (xs : List D) (lo hi : Option Int) : List D := (xs.drop (HT.sIx xs.length 0 lo)).take (HT.sIx xs.length xs.length hi - HT.sIx xs.length 0 lo)
theorem RepL.cut {F : Hp} {ds : List D} {xs : List V} (h : RepL g F ds xs) (lo hi : Option Int) : RepL g F (cutD ds lo hi) (cutV xs lo hi) := by
  unfold cutD cutV
  rw [h.len]
  exact (h.drop _).take _
theorem ev_sl {ds : List D} {lo hi : Option Expr} {l h : Option Int} {p2 : Pos} (hK : X.K = g.K) (ha : EvD g X G a (.lst ds)) (hl : EvO g X G lo l) (hh : EvO g X G hi h) : Ev g X G (.Subscript a (.Slice lo hi none p2) pos) (.m (cutD ds l h)) := by
  intro F H σ ow k Q q
  refine we_of (pe_slice sl_list pe_we po_wo po_wo) ?_
  refine ha F H σ ow k _ fun v1 F1 H1 u1 r1 => ?_
  refine hl F1 H1 σ ow (k.up u1) _ fun F2 H2 u2 => ?_
  refine hh F2 H2 σ ow ((k.up u1).up u2) _ fun F3 H3 u3 => ?_
  obtain ⟨p, xs, e, h1, h2⟩ := of_lst (Rep.mono (u2.trans u3).sub _ _ r1)
  rw [hK]
  refine ⟨p, xs, e, SqL.of (u3.fit.low _ _ h1), fun m hm => ?_⟩
  exact rt_new u3.fit (h2.cut l h) (fun v F4 H4 u4 r4 => q v F4 H4 (((u1.trans u2).trans u3).trans u4) (r4.back ((u1.trans u2).trans u3).ext)) hm
theorem ev_slT {ds : List D} {lo hi : Option Expr} {l h : Option Int} {p2 : Pos} (hK : X.K = g.K) (ha : EvD g X G a (.tup ds)) (hl : EvO g X G lo l) (hh : EvO g X G hi h) (hw : ¬ (HT.sIx ds.length 0 l = 0 ∧ HT.sIx ds.length ds.length h = ds.length)) :
    EvD g X G (.Subscript a (.Slice lo hi none p2) pos) (.tup (cutD ds l h)) := by
  intro F H σ ow k Q q
  refine we_of (pe_slice sl_tup pe_we po_wo po_wo) ?_
  refine ha F H σ ow k _ fun v1 F1 H1 u1 r1 => ?_
  refine hl F1 H1 σ ow (k.up u1) _ fun F2 H2 u2 => ?_
  refine hh F2 H2 σ ow ((k.up u1).up u2) _ fun F3 H3 u3 => ?_
  obtain ⟨p, xs, e, h1, h2⟩ := of_tup (Rep.mono (u2.trans u3).sub _ _ r1)
  rw [hK]
  refine ⟨p, xs, e, SqT.of (u3.fit.low _ _ h1), by rw [h2.len]; exact hw, fun m hm => ?_⟩
  exact rt_newT u3.fit (h2.cut l h) (fun v F4 H4 u4 r4 => q v F4 H4 (((u1.trans u2).trans u3).trans u4) r4) hm
end
end CH

/-! Choosehall: calls, of built-ins and of the text's own defs. -/
namespace CH
open PySem L2

/-- the built-ins' names that the text leaves as they are -/
structure Free (mg : Str → Option Value) : Prop where
  len : mg "len" = none
  range : mg "range" = none
  list : mg "list" = none
  sorted : mg "sorted" = none
  isinstance : mg "isinstance" = none
  str : mg "str" = none
  int : mg "int" = none
  min : mg "min" = none
  max : mg "max" = none
  set : mg "set" = none
  tuple : mg "tuple" = none
  bool : mg "bool" = none

section
variable {g : Gb} {X : Cx} {G : List Sl} {a b c e o : Expr} {es : List Expr} {pos p apos p2 pos2 : Pos} {x : Str}
theorem ev_b1 {id : String} {rr : List V → Hp → VK → Prop} {d : D} {r : Sl} (hc : CallR X (.builtin id) rr) (hg : Gl X x) (hm : X.mg x = none) (hv : bootBuiltins x = some (.builtin id)) (h : EvD g X G e d)
    (hr : ∀ F H v, Fit g F H → Rep g F d v → ∀ Q : VK, (∀ v F' H', Up g F H F' H' → RtOk g F' H H' r v → Q v H') → rr [v] H Q) (hn : x ≠ "__name__" := by decide) (hdb : (x == ("__debug__" : Str)) = false := by decide)
    (he : starEach [e] X.env = (false, eval e X.env) :: starEach [] X.env := by rfl) : Ev g X G (.Call (.Name x p) [e] [] pos) r := by
  intro F H σ ow k Q q
  refine we_of (pe_callB hc hg hm hv (pa_cons pe_we pa_nil he) hn hdb he rfl) ?_
  refine h F H σ ow k _ fun v F1 H1 u r1 => ?_
  exact hr F1 H1 v u.fit r1 Q fun v F2 H2 u2 r2 => q v F2 H2 (u.trans u2) (r2.back u.ext)
theorem ev_t1 {T : String} {rr : List V → Hp → VK → Prop} {d : D} {r : Sl} (hc : CallR X (.type T) rr) (hg : Gl X x) (hm : X.mg x = none) (hv : bootBuiltins x = some (.type T)) (h : EvD g X G e d)
    (hr : ∀ F H v, Fit g F H → Rep g F d v → ∀ Q : VK, (∀ v F' H', Up g F H F' H' → RtOk g F' H H' r v → Q v H') → rr [v] H Q) (hn : x ≠ "__name__" := by decide) (hdb : (x == ("__debug__" : Str)) = false := by decide)
    (he : starEach [e] X.env = (false, eval e X.env) :: starEach [] X.env := by rfl) : Ev g X G (.Call (.Name x p) [e] [] pos) r := by
  intro F H σ ow k Q q
  refine we_of (pe_callTy hc hg hm hv (pa_cons pe_we pa_nil he) hn hdb he rfl) ?_
  refine h F H σ ow k _ fun v F1 H1 u r1 => ?_
  exact hr F1 H1 v u.fit r1 Q fun v F2 H2 u2 r2 => q v F2 H2 (u.trans u2) (r2.back u.ext)
theorem ev_b2 {id : String} {rr : List V → Hp → VK → Prop} {d1 d2 : D} {r : Sl} (hc : CallR X (.builtin id) rr) (hg : Gl X x) (hm : X.mg x = none) (hv : bootBuiltins x = some (.builtin id)) (h1 : EvD g X G a d1) (h2 : EvD g X G b d2)
    (hr : ∀ F H v w, Fit g F H → Rep g F d1 v → Rep g F d2 w → ∀ Q : VK, (∀ v F' H', Up g F H F' H' → RtOk g F' H H' r v → Q v H') → rr [v, w] H Q) (hn : x ≠ "__name__" := by decide) (hdb : (x == ("__debug__" : Str)) = false := by decide)
    (he : starEach [a, b] X.env = (false, eval a X.env) :: starEach [b] X.env := by rfl) (he2 : starEach [b] X.env = (false, eval b X.env) :: starEach [] X.env := by rfl) (hpl : (backTo pos (starEach [b] X.env)).any (·.1) = false := by rfl) : Ev g X G (.Call (.Name x p) [a, b] [] pos) r := by
  intro F H σ ow k Q q
  refine we_of (pe_callB hc hg hm hv (pa_cons pe_we (pa_cons pe_we pa_nil he2) he) hn hdb he hpl) ?_
  refine h1 F H σ ow k _ fun v F1 H1 u r1 => ?_
  refine h2 F1 H1 σ ow (k.up u) _ fun w F2 H2 u2 r2 => ?_
  exact hr F2 H2 v w u2.fit (Rep.mono u2.sub _ _ r1) r2 Q fun v F3 H3 u3 r3 => q v F3 H3 ((u.trans u2).trans u3) (r3.back (u.trans u2).ext)

def D.len : D → Option Nat
  | .lst l => some l.length
  | .tup l => some l.length
  | .scr l => some l.length
  | .str x => some x.length
  | _ => none
theorem ev_len {d : D} {n : Nat} (hK : X.K = g.K) (fr : Free X.mg) (h : EvD g X G e d) (hl : d.len = some n) (hx : d.ixOk := by trivial) (hg : Gl X "len" := by rfl) (he : starEach [e] X.env = (false, eval e X.env) :: starEach [] X.env := by rfl) :
    EvD g X G (.Call (.Name "len" p) [e] [] pos) (.int n) := by
  refine ev_b1 call_len hg fr.len PySem.boot_len h (fun F H v hf r Q q => ?_) (he := he)
  refine ⟨v, n, rfl, ?_, q _ F H (Up.refl hf) (rep_int _)⟩
  rw [hK]
  cases d with
  | lst l =>
    obtain ⟨m, xs, e1, h1, h2⟩ := of_lst r
    rw [e1]
    exact Or.inl ⟨xs, SqL.of (hf.low _ _ h1), by rw [h2.len]; exact (Option.some.inj hl).symm⟩
  | tup l =>
    obtain ⟨m, xs, e1, h1, h2⟩ := of_tup r
    rw [e1]
    exact Or.inr ⟨xs, SqT.of (hf.low _ _ h1), by rw [h2.len]; exact (Option.some.inj hl).symm⟩
  | scr l =>
    obtain ⟨m, e1, h1⟩ := of_scr r
    rw [e1]
    exact Or.inl ⟨_, sql_mono hf.low h1, by rw [List.length_map]; exact (Option.some.inj hl).symm⟩
  | str l =>
    rw [of_str r]
    exact ⟨Nat.le_trans hx (by decide), (Option.some.inj hl).symm⟩
  | _ => cases hl
theorem ev_str_int {i : Int} (fr : Free X.mg) (h : EvD g X G e (.int i)) (hi : i.natAbs.log2 < 1920) (hg : Gl X "str" := by rfl) (he : starEach [e] X.env = (false, eval e X.env) :: starEach [] X.env := by rfl) :
    EvD g X G (.Call (.Name "str" p) [e] [] pos) (.str (toString i)) :=
  ev_t1 call_str_int hg fr.str (by decide +kernel) h (fun F H v hf r Q q => ⟨i, by rw [of_int r], hi, q _ F H (Up.refl hf) (rep_str _)⟩) (he := he)
theorem ev_int_bl {i : Bool} (fr : Free X.mg) (h : EvD g X G e (.bl i)) (hg : Gl X "int" := by rfl) (he : starEach [e] X.env = (false, eval e X.env) :: starEach [] X.env := by rfl) :
    EvD g X G (.Call (.Name "int" p) [e] [] pos) (.int (if i = true then 1 else 0)) :=
  ev_t1 call_int1 hg fr.int (by decide +kernel) h (fun F H v hf r Q q => Or.inr ⟨i, by rw [of_bl r], q _ F H (Up.refl hf) (rep_int _)⟩) (he := he)
theorem ev_int_str {i : Int} {z : Str} (fr : Free X.mg) (h : EvD g X G e (.str z)) (hz : PySem.intText? z = some i) (hl : z.length ≤ 640) (hg : Gl X "int" := by rfl) (he : starEach [e] X.env = (false, eval e X.env) :: starEach [] X.env := by rfl) :
    EvD g X G (.Call (.Name "int" p) [e] [] pos) (.int i) :=
  ev_t1 call_int_str hg fr.int (by decide +kernel) h (fun F H v hf r Q q => ⟨z, i, by rw [of_str r], hz, hl, q _ F H (Up.refl hf) (rep_int _)⟩) (he := he)
theorem ev_list {ds : List D} (hK : X.K = g.K) (fr : Free X.mg) (h : EvD g X G e (.lst ds)) (hg : Gl X "list" := by rfl) (he : starEach [e] X.env = (false, eval e X.env) :: starEach [] X.env := by rfl) :
    Ev g X G (.Call (.Name "list" p) [e] [] pos) (.m ds) :=
  ev_t1 call_list_of hg fr.list (by decide +kernel) h (fun F H v hf r Q q => by
    obtain ⟨m, xs, e1, h1, h2⟩ := of_lst r
    refine ⟨m, xs, by rw [e1], Or.inl (SqL.of (hf.low _ _ h1)), fun l hl => rt_new hf h2 q hl⟩) (he := he)
theorem ev_listT {ds : List D} (hK : X.K = g.K) (fr : Free X.mg) (h : EvD g X G e (.tup ds)) (hg : Gl X "list" := by rfl) (he : starEach [e] X.env = (false, eval e X.env) :: starEach [] X.env := by rfl) :
    Ev g X G (.Call (.Name "list" p) [e] [] pos) (.m ds) :=
  ev_t1 call_list_of hg fr.list (by decide +kernel) h (fun F H v hf r Q q => by
    obtain ⟨m, xs, e1, h1, h2⟩ := of_tup r
    refine ⟨m, xs, by rw [e1], Or.inr (SqT.of (hf.low _ _ h1)), fun l hl => rt_new hf h2 q hl⟩) (he := he)
theorem repL_ints {F : Hp} (l : List Int) : RepL g F (l.map D.int) (l.map V.int) := repL_map D.int V.int rep_int l
theorem ints_of {F : Hp} {l : List Int} {xs : List V} (h : RepL g F (l.map D.int) xs) : xs = l.map V.int := repL_of D.int V.int (fun _ _ => of_int) h
theorem sorted_is {l m : List Int} (hp : m.Perm l) (hs : m.Pairwise (· ≤ ·)) : m = l.mergeSort (fun a b => decide (a ≤ b)) := by
  refine PySem.W.ksm_same (hp.trans (List.mergeSort_perm _ _).symm) hs ?_
  have h := List.pairwise_mergeSort (le := fun a b : Int => decide (a ≤ b)) (fun a b c h1 h2 => by simp at *; omega) (fun a b => by simp; omega) l
  exact h.imp fun h => by simpa using h
theorem ev_sorted {l : List Int} (hK : X.K = g.K) (fr : Free X.mg) (h : EvD g X G e (.lst (l.map D.int))) (hl : l.length < 64) (hg : Gl X "sorted" := by rfl) (he : starEach [e] X.env = (false, eval e X.env) :: starEach [] X.env := by rfl) :
    Ev g X G (.Call (.Name "sorted" p) [e] [] pos) (.m ((l.mergeSort fun a b => decide (a ≤ b)).map D.int)) :=
  ev_b1 cr_sorted hg fr.sorted (by decide +kernel) h (fun F H v hf r Q q => by
    obtain ⟨m, xs, e1, h1, h2⟩ := of_lst r
    have e2 := ints_of h2
    subst e2
    refine ⟨m, l, by rw [e1], SqL.of (hf.low _ _ h1), hl, fun ns' p hp hs hn => ?_⟩
    rw [sorted_is hp hs]
    exact rt_new hf (repL_ints _) q hn) (he := he)
theorem ev_max2 {i j : Int} (hc : X.calm = true) (fr : Free X.mg) (h1 : EvD g X G a (.int i)) (h2 : EvD g X G b (.int j)) (hg : Gl X "max" := by rfl) (he : starEach [a, b] X.env = (false, eval a X.env) :: starEach [b] X.env := by rfl)
    (he2 : starEach [b] X.env = (false, eval b X.env) :: starEach [] X.env := by rfl) (hpl : (backTo pos (starEach [b] X.env)).any (·.1) = false := by rfl) : EvD g X G (.Call (.Name "max" p) [a, b] [] pos) (.int (if j > i then j else i)) :=
  ev_b2 (call_max2 hc) hg fr.max (by decide +kernel) h1 h2 (fun F H v w hf r1 r2 Q q => ⟨i, j, by rw [of_int r1, of_int r2], q _ F H (Up.refl hf) (rep_int _)⟩) (he := he) (he2 := he2) (hpl := hpl)
theorem ev_min2 {i j : Int} (hc : X.calm = true) (fr : Free X.mg) (h1 : EvD g X G a (.int i)) (h2 : EvD g X G b (.int j)) (hg : Gl X "min" := by rfl) (he : starEach [a, b] X.env = (false, eval a X.env) :: starEach [b] X.env := by rfl)
    (he2 : starEach [b] X.env = (false, eval b X.env) :: starEach [] X.env := by rfl) (hpl : (backTo pos (starEach [b] X.env)).any (·.1) = false := by rfl) : EvD g X G (.Call (.Name "min" p) [a, b] [] pos) (.int (if j < i then j else i)) :=
  ev_b2 (call_min2 hc) hg fr.min (by decide +kernel) h1 h2 (fun F H v w hf r1 r2 Q q => ⟨i, j, by rw [of_int r1, of_int r2], q _ F H (Up.refl hf) (rep_int _)⟩) (he := he) (he2 := he2) (hpl := hpl)
theorem ev_minL {l : List Int} {m : Int} (hK : X.K = g.K) (hc : X.calm = true) (fr : Free X.mg) (h : EvD g X G e (.lst (l.map D.int))) (h1 : m ∈ l) (h2 : ∀ y ∈ l, m ≤ y) (hg : Gl X "min" := by rfl) (he : starEach [e] X.env = (false, eval e X.env) :: starEach [] X.env := by rfl) :
    EvD g X G (.Call (.Name "min" p) [e] [] pos) (.int m) :=
  ev_b1 (cr_min hc) hg fr.min (by decide +kernel) h (fun F H v hf r Q q => by
    obtain ⟨t, xs, e1, h3, h4⟩ := of_lst r
    have e2 := ints_of h4
    subst e2
    refine ⟨t, l, by rw [e1], SqL.of (hf.low _ _ h3), List.length_pos_of_mem h1, fun m' k1 k2 => ?_⟩
    have e3 : m' = m := Int.le_antisymm (k2 m h1) (h2 m' k1)
    rw [e3]
    exact q _ F H (Up.refl hf) (rep_int _)) (he := he)
/-- the ints a .. b - 1 -/
def rg (a b : Int) : List Int := (List.range (b - a).toNat).map fun i => a + (i : Nat)
theorem ev_listRg {n : Int} (hc : X.calm = true) (fr : Free X.mg) (h : EvD g X G e (.int n)) (hn : 0 ≤ n ∧ n ≤ 100000) (hg : Gl X "list" := by rfl) (hg2 : Gl X "range" := by rfl) (he : starEach [e] X.env = (false, eval e X.env) :: starEach [] X.env := by rfl)
    (na : starEach [(.Call (.Name "range" p2) [e] [] pos2)] X.env = (false, eval (.Call (.Name "range" p2) [e] [] pos2) X.env) :: starEach [] X.env := by rfl) :
    Ev g X G (.Call (.Name "list" p) [.Call (.Name "range" p2) [e] [] pos2] [] pos) (.m ((rg 0 n).map D.int)) := by
  intro F H σ ow k Q q
  refine we_of (pe_listRg hc hg fr.list (prg_1 hg2 fr.range pe_we he) na) ?_
  refine h F H σ ow k _ fun v F1 H1 u r1 => ⟨n, of_int r1, ⟨by omega, by omega, by omega, by omega, by omega⟩, fun m hm => ?_⟩
  have e : rgV 0 n = (rg 0 n).map V.int := by
    unfold rgV rg
    rw [List.map_map]
    rfl
  rw [e]
  exact rt_new u.fit (repL_ints _) (fun v F2 H2 u2 r2 => q v F2 H2 (u.trans u2) (r2.back u.ext)) hm
theorem ev_lenSet {l : List Int} (hK : X.K = g.K) (hc : X.calm = true) (fr : Free X.mg) (h : EvD g X G e (.lst (l.map D.int))) (hn : l.Nodup) (hl : l.length ≤ 4000) (hg : Gl X "len" := by rfl) (hg2 : Gl X "set" := by rfl) (he : starEach [e] X.env = (false, eval e X.env) :: starEach [] X.env := by rfl) :
    EvD g X G (.Call (.Name "len" p) [.Call (.Name "set" p2) [e] [] pos2] [] pos) (.int l.length) := by
  intro F H σ ow k Q q
  refine we_of (RZ.pe_lenSetI hg fr.len hg2 fr.set pe_we hc he) ?_
  refine h F H σ ow k _ fun v F1 H1 u r1 => ?_
  obtain ⟨t, xs, e1, h3, h4⟩ := of_lst r1
  have e2 := ints_of h4
  subst e2
  exact ⟨t, l, e1, by rw [hK]; exact SqL.of (u.fit.low _ _ h3), hn, hl, q _ F1 H1 u (rep_int _)⟩

/-! ### isinstance -/
def D.ty : D → Option String
  | .non => some "NoneType"
  | .bl _ => some "bool"
  | .int _ => some "int"
  | .str _ => some "str"
  | .lst _ => some "list"
  | .tup _ => some "tuple"
  | _ => none
theorem tyx_rep {F H : Hp} {d : D} {v : V} {t : String} (hf : Sub F H) (r : Rep g F d v) (h : d.ty = some t) : TyX g.K H v (.type t) := by
  cases d with
  | non => cases h; rw [of_non r]; exact .base .non
  | bl _ => cases h; rw [of_bl r]; exact .base (.bl _)
  | int _ => cases h; rw [of_int r]; exact .base (.int _)
  | str _ => cases h; rw [of_str r]; exact .base (.str _)
  | lst _ =>
    cases h
    obtain ⟨a, xs, e, h1, _⟩ := of_lst r
    rw [e]
    exact .base (.lst (hf _ _ h1))
  | tup _ =>
    cases h
    obtain ⟨a, xs, e, h1, _⟩ := of_tup r
    rw [e]
    exact .base (.tup (hf _ _ h1))
  | _ => cases h
theorem ev_isi {d : D} {t T : String} {r : Bool} {y : Str} {py : Pos} (hK : X.K = g.K) (fr : Free X.mg) (h : EvD g X G e d) (hd : d.ty = some t) (hT : bootBuiltins y = some (.type T)) (hk : kitB t T = some r) (hm : X.mg y = none) (hgy : Gl X y := by rfl) (hg : Gl X "isinstance" := by rfl)
    (hy : y ≠ "__name__" := by decide) (hydb : (y == ("__debug__" : Str)) = false := by decide)
    (he : starEach [e, .Name y py] X.env = (false, eval e X.env) :: starEach [.Name y py] X.env := by rfl) (he2 : starEach [.Name y py] X.env = (false, eval (.Name y py) X.env) :: starEach [] X.env := by rfl) (hpl : (backTo pos (starEach [.Name y py] X.env)).any (·.1) = false := by rfl) :
    EvD g X G (.Call (.Name "isinstance" p) [e, .Name y py] [] pos) (.bl r) := by
  intro F H σ ow k Q q
  refine we_of (pe_callB call_isi hg fr.isinstance (by decide +kernel) (pa_cons pe_we (pa_cons (pe_bltn (v := .ty T) hgy hm hT rfl hy hydb) pa_nil he2) he) (he := he) (hpl := hpl)) ?_
  refine h F H σ ow k _ fun v F1 H1 u r1 => ?_
  exact ⟨v, .ty T, .type t, .type T, r, rfl, .ty T, by rw [hK]; exact tyx_rep u.fit.low r1 hd, kit_ty hk, q _ F1 H1 u (rep_bl r)⟩

/-! ### the text's own defs -/
/-- what a def promises: R tells, of the arguments' data, what comes -/
def Prom (g : Gb) (R : List D → Sl → Prop) : Sp := fun vs H Q _ => ∃ ds r F, R ds r ∧ RepL g F ds vs ∧ Fit g F H ∧ ∀ v F' H', Up g F H F' H' → RtOk g F' H H' r v → Q v H'
/-- a def of the module, known by its name -/
def Cal (P : Program) (w : World) (g : Gb) (mg : Str → Option Value) (base : Heap) (x : Str) (k : Nat) (R : List D → Sl → Prop) : Prop :=
  ∃ (f : Addr) (fd : FuncData) (ps : List Str), FnOk P w g.K mg base CX0 k f fd ps (Prom g R) ∧ mg x = some (.ref f) ∧ PySem.W.keepIn g.K (.ref f) = true ∧ Binds g.K fd ps []
/-- a method of House -/
def MCal (P : Program) (w : World) (g : Gb) (mg : Str → Option Value) (base : Heap) (m : Str) (k : Nat) (R : List D → Sl → Prop) : Prop :=
  ∃ (f : Addr) (fd : FuncData) (ps : List Str), FnOk P w g.K mg base CX0 k f fd ps (Prom g R) ∧ Meth g.K g.C m f ∧ Binds g.K fd ps []
/-- a def that raises nothing, called -/
theorem ev_call {k : Nat} {R : List D → Sl → Prop} {ds : List D} {r : Sl} (hK : X.K = g.K) (C : Cal X.prog X.w g X.mg X.base x k R) (hr : Room k X.A) (ha : EvA g X G (e :: es) ds) (hR : R ds r) (hg : Gl X x := by rfl) (hdb : (x == ("__debug__" : Str)) = false := by decide)
    (he : starEach (e :: es) X.env = (false, eval e X.env) :: starEach es X.env := by rfl) (hpl : (backTo pos (starEach es X.env)).any (·.1) = false := by rfl) : Ev g X G (.Call (.Name x p) (e :: es) [] pos) r := by
  obtain ⟨f, fd, ps, F0, hm, hk, hb⟩ := C
  intro F H σ ow k Q q
  refine we_of (pe_call (X := X) (by rw [hK]; exact F0) hr hg hm (by rw [hK]; exact hk) (by rw [hK]; exact hb) .nil pass0 pa_wa hdb he hpl) ?_
  refine ha F H σ ow k _ fun vs F1 H1 u r1 => ?_
  rw [List.append_nil]
  exact ⟨ds, r, F1, hR, r1, u.fit, fun v F2 H2 u2 r2 => q v F2 H2 (u.trans u2) (r2.back u.ext)⟩

/-! ### House: attributes, methods -/
def FldIs (f : Str) (h : Hs) (d : D) : Prop := ∀ (g : Gb) (F : Hp) (p q r : Addr), F p = some (.lst (h.pts.map vOi)) → F q = some (.lst (h.kinds.map V.int)) → F r = some (.lst (h.row.map V.int)) → ∃ v, (flds h p q r).lookup f = some v ∧ Rep g F d v
theorem ev_fld {f : Str} {h : Hs} {d : D} (hK : X.K = g.K) (c : Cls g.K g.C) (n : NoAttr g.K g.C f) (hf : FldIs f h d) (ho : EvD g X G o (.hs h)) (hb : attributeBase o f X.env (eval o X.env) = eval o X.env := by rfl) : EvD g X G (.Attribute o f pos) d := by
  intro F H σ ow k Q q
  refine we_of (pe_fld pe_we hb) ?_
  refine ho F H σ ow k _ fun v F1 H1 u r1 => ?_
  obtain ⟨a, e, dx, p, q', r, h1, h2, h3, h4⟩ := of_hs r1
  obtain ⟨v', l, r2⟩ := hf g F1 p q' r h2 h3 h4
  exact ⟨a, g.C, dx, _, v', e, u.fit.low _ _ h1, by rw [hK]; exact c, by rw [hK]; exact n, l, q v' F1 H1 u r2⟩
theorem ev_meth {m : Str} {k : Nat} {h : Hs} {R : List D → Sl → Prop} {ds : List D} {r : Sl} {pl : Sem Bool} (hK : X.K = g.K) (c : Cls g.K g.C) (C : MCal X.prog X.w g X.mg X.base m k R) (hl : ∀ p q r, (flds h p q r).lookup m = none) (hr : Room k X.A) (ho : EvD g X G o (.hs h)) (ha : EvA g X G (e :: es) ds) (hR : R (.hs h :: ds) r)
    (hst : starEach (e :: es) X.env = (false, eval e X.env) :: starEach es X.env := by rfl) (hpl : (backTo pos (starEach es X.env)).any (·.1) = false := by rfl)
    (ht : eval (.Call (.Attribute o m apos) (e :: es) [] pos) X.env = (do
      let ov ← eval o X.env
      standAt apos.atName
      let (f, first) ← holding [ov] (getMethod ov m pl)
      callWith pos f first (backTo pos (starEach (e :: es) X.env)) (backToKw pos (keywordEach [] X.env))) := by rfl) : Ev g X G (.Call (.Attribute o m apos) (e :: es) [] pos) r := by
  obtain ⟨f, fd, ps, F0, hm, hb⟩ := C
  intro F H σ ow k Q q
  refine we_of (pe_meth (X := X) (C := g.C) pe_we (by rw [hK]; exact c) (by rw [hK]; exact hm) (by rw [hK]; exact F0) hr (by rw [hK]; exact hb) .nil pass0 pa_wa hst hpl ht) ?_
  refine ho F H σ ow k _ fun v F1 H1 u r1 => ?_
  obtain ⟨a, e0, dx, p, q', r', h1, h2, h3, h4⟩ := of_hs r1
  refine ⟨a, dx, _, e0, u.fit.low _ _ h1, hl p q' r', ?_⟩
  refine ha F1 H1 σ ow (k.up u) _ fun vs F2 H2 u2 r2 => ?_
  rw [List.append_nil]
  exact ⟨_, r, F2, hR, repL_cons (Rep.mono u2.sub _ _ r1) r2, u2.fit, fun v F3 H3 u3 r3 => q v F3 H3 ((u.trans u2).trans u3) (r3.back (u.trans u2).ext)⟩
end
end CH

/-! Choosehall: statements, loops, comprehensions, from the data of the frame's slots. -/
namespace CH
open PySem L2

/-- what is wanted behind a statement, told of the slots' data -/
structure KE where
  nx : List Sl → Prop
  rt : Sl → Prop
  bk : List Sl → Prop := fun _ => False
  ct : List Sl → Prop := fun _ => False

/-- since the def's entry (frozen B.1, all B.2) nothing that was there has changed; the slots' own objects are younger -/
structure Bk (g : Gb) (B : Hp × Hp) (G : List Sl) (F H : Hp) (ow : Nat → Addr) : Prop where
  up : Up g B.1 B.2 F H
  fresh : ∀ i s, G[i]? = some s → s.owned = true → Fresh B.2 (ow i)

def nxP (g : Gb) (B : Hp × Hp) (F1 : Hp) (K : List Sl → Prop) (σ : St) (H : Hp) : Prop := ∃ G F ow, K G ∧ Ok g G F H σ ow ∧ Bk g B G F H ow ∧ Sub F1 F
def rtP (g : Gb) (B : Hp × Hp) (K : Sl → Prop) (v : V) (H : Hp) : Prop := ∃ r F, K r ∧ Up g B.1 B.2 F H ∧ RtOk g F B.2 H r v
def ends (g : Gb) (B : Hp × Hp) (F1 : Hp) (k : KE) : Ends := { nx := nxP g B F1 k.nx, rt := rtP g B k.rt, bk := nxP g B F1 k.bk, ct := nxP g B F1 k.ct }

def WS (X : Cx) (st : Stmt) : TS := fun D σ H => ∀ pins s, Inv X pins σ H s → wpAny (model X.prog X.w) X.A (exec st X.env) (SP X pins D) X.xe s
def WSs (X : Cx) (st : List Stmt) : TS := fun D σ H => ∀ pins s, Inv X pins σ H s → wpAny (model X.prog X.w) X.A (execs st X.env) (SP X pins D) X.xe s
theorem ps_ws {X : Cx} {st : Stmt} : PS X st (WS X st) := ⟨fun pins s _ _ _ I h => h pins s I⟩
theorem pss_wss {X : Cx} {st : List Stmt} : PSs X st (WSs X st) := ⟨fun pins s _ _ _ I h => h pins s I⟩
theorem ws_of {X : Cx} {st : Stmt} {t : TS} (h : PS X st t) {D : Ends} {σ : St} {H : Hp} (q : t D σ H) : WS X st D σ H := fun pins s I => h.run pins s σ H D I q
theorem wss_of {X : Cx} {st : List Stmt} {t : TS} (h : PSs X st t) {D : Ends} {σ : St} {H : Hp} (q : t D σ H) : WSs X st D σ H := fun pins s I => h.run pins s σ H D I q
theorem SP.mono {X : Cx} {pins : List (Addr × Obj)} {D D' : Ends} (hn : ∀ σ H, D.nx σ H → D'.nx σ H) (hr : ∀ v H, D.rt v H → D'.rt v H) (hb : ∀ σ H, D.bk σ H → D'.bk σ H) (hc : ∀ σ H, D.ct σ H → D'.ct σ H) {f : Flow} {s : Shared} (h : SP X pins D f s) : SP X pins D' f s := by
  cases f with
  | next =>
    obtain ⟨σ, H, I, q⟩ := h
    exact ⟨σ, H, I, hn σ H q⟩
  | brk =>
    obtain ⟨σ, H, I, q⟩ := h
    exact ⟨σ, H, I, hb σ H q⟩
  | cont =>
    obtain ⟨σ, H, I, q⟩ := h
    exact ⟨σ, H, I, hc σ H q⟩
  | ret u =>
    obtain ⟨v, σ, H, I, r, q⟩ := h
    exact ⟨v, σ, H, I, r, hr v H q⟩
theorem WS.imp {X : Cx} {st : Stmt} {D D' : Ends} {σ : St} {H : Hp} (h : WS X st D σ H) (hn : ∀ σ H, D.nx σ H → D'.nx σ H) (hr : ∀ v H, D.rt v H → D'.rt v H) (hb : ∀ σ H, D.bk σ H → D'.bk σ H) (hc : ∀ σ H, D.ct σ H → D'.ct σ H) : WS X st D' σ H :=
  fun pins s I => thn (h pins s I) fun _ _ q => SP.mono hn hr hb hc q
theorem WSs.imp {X : Cx} {st : List Stmt} {D D' : Ends} {σ : St} {H : Hp} (h : WSs X st D σ H) (hn : ∀ σ H, D.nx σ H → D'.nx σ H) (hr : ∀ v H, D.rt v H → D'.rt v H) (hb : ∀ σ H, D.bk σ H → D'.bk σ H) (hc : ∀ σ H, D.ct σ H → D'.ct σ H) : WSs X st D' σ H :=
  fun pins s I => thn (h pins s I) fun _ _ q => SP.mono hn hr hb hc q

/-- a statement; a block -/
def S1 (g : Gb) (X : Cx) (G : List Sl) (st : Stmt) (k : KE) : Prop := ∀ B F H σ ow, Ok g G F H σ ow → Bk g B G F H ow → ∀ F1, Sub F1 F → WS X st (ends g B F1 k) σ H
def Ss (g : Gb) (X : Cx) (G : List Sl) (st : List Stmt) (k : KE) : Prop := ∀ B F H σ ow, Ok g G F H σ ow → Bk g B G F H ow → ∀ F1, Sub F1 F → WSs X st (ends g B F1 k) σ H

section
variable {g : Gb} {G : List Sl} {F F' H H' : Hp} {σ : St} {ow : Nat → Addr} {B : Hp × Hp}
theorem Bk.go (b : Bk g B G F H ow) (u : Up g F H F' H') : Bk g B G F' H' ow := ⟨b.up.trans u, b.fresh⟩
/-- a slot is stored anew -/
theorem Ok.set (k : Ok g G F H σ ow) {i : Nat} {a : Addr} {s : Sl} {o : Option V} (hs : SlotOk g F H a s o) (ha : s.owned = true → ∀ j t, j ≠ i → G[j]? = some t → t.owned = true → ow j ≠ a) : Ok g (G.set i s) F H (σ.set i o) (fun j => if j = i then a else ow j) := by
  have get : ∀ j t, (G.set i s)[j]? = some t → (j = i ∧ t = s) ∨ (j ≠ i ∧ G[j]? = some t) := fun j t e => by
    by_cases hj : j = i
    · subst hj
      have hl : j < G.length := by
        have := (List.getElem?_eq_some_iff.mp e).1
        rw [List.length_set] at this
        exact this
      rw [List.getElem?_set_self hl] at e
      exact Or.inl ⟨rfl, (Option.some.inj e).symm⟩
    · rw [List.getElem?_set_ne (Ne.symm hj)] at e
      exact Or.inr ⟨hj, e⟩
  refine ⟨k.fit, by rw [List.length_set, List.length_set, k.len], fun j t e => ?_, fun j l t t' e e' w w' q => ?_⟩
  · rcases get j t e with ⟨e1, e2⟩ | ⟨e1, e2⟩
    · subst e1
      subst e2
      have hl : j < σ.length := by
        have := (List.getElem?_eq_some_iff.mp e).1
        rw [List.length_set] at this
        rw [k.len]
        exact this
      exact ⟨o, List.getElem?_set_self hl, by rw [if_pos rfl]; exact hs⟩
    · obtain ⟨o', h1, h2⟩ := k.at_ j t e2
      exact ⟨o', by rw [List.getElem?_set_ne (Ne.symm e1)]; exact h1, by rw [if_neg e1]; exact h2⟩
  · rcases get j t e with ⟨e1, e2⟩ | ⟨e1, e2⟩
    · rcases get l t' e' with ⟨f1, f2⟩ | ⟨f1, f2⟩
      · rw [e1, f1]
      · have q' : (if j = i then a else ow j) = (if l = i then a else ow l) := q
        rw [if_pos e1, if_neg f1] at q'
        rw [e2] at w
        exact absurd q'.symm (ha w l t' f1 f2 w')
    · rcases get l t' e' with ⟨f1, f2⟩ | ⟨f1, f2⟩
      · have q' : (if j = i then a else ow j) = (if l = i then a else ow l) := q
        rw [if_neg e1, if_pos f1] at q'
        rw [f2] at w'
        exact absurd q' (ha w' j t e1 e2 w)
      · have q' : (if j = i then a else ow j) = (if l = i then a else ow l) := q
        rw [if_neg e1, if_neg f1] at q'
        exact k.inj j l t t' e2 f2 w w' q'
theorem get_set {i j : Nat} {s t : Sl} (e : (G.set i s)[j]? = some t) : (j = i ∧ t = s) ∨ (j ≠ i ∧ G[j]? = some t) := by
  by_cases hj : j = i
  · subst hj
    have hl : j < G.length := by
      have := (List.getElem?_eq_some_iff.mp e).1
      rw [List.length_set] at this
      exact this
    rw [List.getElem?_set_self hl] at e
    exact Or.inl ⟨rfl, (Option.some.inj e).symm⟩
  · rw [List.getElem?_set_ne (Ne.symm hj)] at e
    exact Or.inr ⟨hj, e⟩
theorem Bk.set (b : Bk g B G F H ow) {i : Nat} {a : Addr} {s : Sl} (ha : s.owned = true → Fresh B.2 a) : Bk g B (G.set i s) F H (fun j => if j = i then a else ow j) := by
  refine ⟨b.up, fun j t e w => ?_⟩
  rcases get_set e with ⟨e1, e2⟩ | ⟨e1, e2⟩
  · rw [e2] at w
    show Fresh B.2 (if j = i then a else ow j)
    rw [if_pos e1]
    exact ha w
  · show Fresh B.2 (if j = i then a else ow j)
    rw [if_neg e1]
    exact b.fresh j t e2 w
/-- a value that has come is stored in a slot -/
theorem store {i : Nat} {r : Sl} {v : V} (k : Ok g G F H σ ow) (b : Bk g B G F H ow) (u : Up g F H F' H') (h : RtOk g F' H H' r v) (hr : r ≠ .un := by intro z; cases z) :
    ∃ ow', Ok g (G.set i r) F' H' (σ.set i (some v)) ow' ∧ Bk g B (G.set i r) F' H' ow' := by
  have k1 := k.up u
  have b1 := b.go u
  cases r with
  | un => exact absurd rfl hr
  | v d => exact ⟨_, k1.set (a := 0) (s := .v d) ⟨v, rfl, h⟩ (fun z => by cases z), b1.set (fun z => by cases z)⟩
  | m ds =>
    obtain ⟨l, xs, e, hf, h1, h2, h3⟩ := h
    exact ⟨_, k1.set (a := l) (s := .m ds) ⟨by rw [e], h2, xs, h1, h3⟩ (fun _ j t _ e2 w => k.apart hf e2 w), b1.set (fun _ => hf.back b.up.ext)⟩
  | dc kvs =>
    obtain ⟨l, e, hf, h1, h2⟩ := h
    exact ⟨_, k1.set (a := l) (s := .dc kvs) ⟨by rw [e], h2, h1⟩ (fun _ j t _ e2 w => k.apart hf e2 w), b1.set (fun _ => hf.back b.up.ext)⟩
  | nw d => exact ⟨_, k1.set (a := 0) (s := .nw d) ⟨v, rfl, Rep.mono newp_sub _ _ h⟩ (fun z => by cases z), b1.set (fun z => by cases z)⟩
  | pr pre ds =>
    obtain ⟨p, vs, l, xs, e, h4, h5, hf, h1, h2, h3⟩ := h
    exact ⟨_, k1.set (a := l) (s := .pr pre ds) ⟨p, vs, by rw [e], h4, h5, h2, xs, h1, h3⟩ (fun _ j t _ e2 w => k.apart hf e2 w), b1.set (fun _ => hf.back b.up.ext)⟩
end

section
variable {g : Gb} {X : Cx} {G : List Sl} {a c e o : Expr} {st : Stmt} {sts body els : List Stmt} {pos p apos : Pos} {x : Str} {k : KE} {r : Sl}
theorem ss_nil (h : k.nx G) : Ss g X G [] k := fun B F H σ ow ok bk F1 s1 => wss_of pss_nil ⟨G, F, ow, h, ok, bk, s1⟩
theorem ss_cons (h : S1 g X G st { k with nx := fun G' => Ss g X G' sts k }) : Ss g X G (st :: sts) k := fun B F H σ ow ok bk F1 s1 => by
  refine wss_of (pss_cons ps_ws pss_wss) ?_
  have q0 := h B F H σ ow ok bk F1 s1
  refine WS.imp q0 (fun σ H q => ?_) (fun _ _ q => q) (fun _ _ q => q) (fun _ _ q => q)
  obtain ⟨G', F', ow', hk, ok', bk', s'⟩ := q
  exact hk B F' H σ ow' ok' bk' F1 s'
theorem ss_one (h : S1 g X G st k) : Ss g X G [st] k := fun B F H σ ow ok bk F1 s1 => wss_of (pss_one ps_ws) (h B F H σ ow ok bk F1 s1)
theorem s_pass (h : k.nx G) : S1 g X G (.Pass pos) k := fun B F H σ ow ok bk F1 s1 => ws_of ps_pass ⟨G, F, ow, h, ok, bk, s1⟩
theorem s_ret (h : Ev g X G e r) (q : k.rt r) : S1 g X G (.Return (some e) pos) k := fun B F H σ ow ok bk F1 s1 => by
  refine ws_of (ps_ret pe_we) ?_
  refine h F H σ ow ok _ fun v F2 H2 u r2 => ?_
  exact ⟨r, F2, q, bk.up.trans u, r2.back bk.up.ext⟩
/-- return x, x a list of the def's own -/
theorem s_retOwn (i : Nat) {ds : List D} (q : k.rt (.m ds)) (hG : G[i]? = some (.m ds) := by rfl) (hN : X.N[i]? = some x := by rfl) (hv : Vis X.env.scope x := by first | exact Or.inl rfl | exact Or.inr (Or.inl rfl) | exact Or.inr (Or.inr rfl))
    (hd : (x == ("__debug__" : Str)) = false := by decide) (hcd : (x == ("__classdict__" : Str)) = false := by decide) : S1 g X G (.Return (some (.Name x p)) pos) k := fun B F H σ ow ok bk F1 s1 => by
  refine ws_of (ps_ret (pe_var hN hv hd hcd)) ?_
  obtain ⟨o, h1, h2, h3, xs, h4, h5⟩ := ok.at_ i _ hG
  exact ⟨.ref (ow i), by rw [h1, h2], .m ds, F, q, bk.up, ow i, xs, rfl, bk.fresh i _ hG rfl, h4, h3, h5⟩
theorem s_retN (q : k.rt (.v .non)) : S1 g X G (.Return none pos) k := fun B F H σ ow ok bk F1 s1 => ws_of ps_retN ⟨.v .non, F, q, bk.up, rep_non⟩
theorem s_if {b : Bool} (h : EvT g X G c b) (h1 : b = true → Ss g X G body k) (h2 : b = false → Ss g X G els k) : S1 g X G (.If c body els pos) k := fun B F H σ ow ok bk F1 s1 => by
  refine ws_of (ps_if pt_wt pss_wss pss_wss) ?_
  refine h F H σ ow ok _ fun F2 H2 u => ?_
  cases b with
  | true => exact iteT (h1 rfl B F2 H2 σ ow (ok.up u) (bk.go u) F1 (s1.trans u.sub))
  | false => exact iteF (h2 rfl B F2 H2 σ ow (ok.up u) (bk.go u) F1 (s1.trans u.sub))
theorem s_expr (h : Ev g X G e r) (q : k.nx G) (hs : swapsWith e none pos.line X.env = pure false := by rfl) : S1 g X G (.Expr e pos) k := fun B F H σ ow ok bk F1 s1 => by
  refine ws_of (ps_expr pe_we hs) ?_
  exact h F H σ ow ok _ fun v F2 H2 u _ => ⟨G, F2, ow, q, ok.up u, bk.go u, s1.trans u.sub⟩
theorem s_asg (i : Nat) (h : Ev g X G e r) (q : k.nx (G.set i r)) (hr : r ≠ .un := by intro z; cases z) (hN : X.N.Nodup := by exact nd_by (by kernel_rfl)) (hi : X.N[i]? = some x := by rfl) (hx : Loc X.env.scope x := by first | exact Or.inl rfl | exact Or.inr rfl) (hs : swapsWith e (some (.Name x p)) pos.line X.env = pure false := by rfl)
    (hf : X.fn x = true ∨ X.env.scope.names.lookup x = some .local := by first | exact .inl rfl | exact .inr rfl) : S1 g X G (.Assign [.Name x p] e pos) k := fun B F H σ ow ok bk F1 s1 => by
  refine ws_of (ps_set hN hi hx pe_we hs hf) ?_
  refine h F H σ ow ok _ fun v F2 H2 u r2 => ?_
  obtain ⟨ow', k1, b1⟩ := store (i := i) ok bk u r2 hr
  exact ⟨_, F2, ow', q, k1, b1, s1.trans u.sub⟩
/-- a list of the frame's own is frozen -/
theorem ss_frz (i : Nat) {ds : List D} (hG : G[i]? = some (.m ds)) (h : Ss g X (G.set i (.v (.lst ds))) sts k) : Ss g X G sts k := fun B F H σ ow ok bk F1 s1 => by
  obtain ⟨o, h1, h2, h3, xs, h4, h5⟩ := ok.at_ i _ hG
  have hf := bk.fresh i _ hG rfl
  have sb : Sub F (upd F (ow i) (.lst xs)) := sub_upd h3
  have fit := fit_frz ok.fit h4 (nt_lst (xs := xs))
  have up : Up g B.1 B.2 (upd F (ow i) (.lst xs)) H := ⟨bk.up.ext, bk.up.sub.trans sb, fun b u e n f => by
    rw [upd_ne (hf.ne e n)]
    exact bk.up.grow b u e n f, fit⟩
  have hl : i < G.length := (List.getElem?_eq_some_iff.mp hG).1
  have k1 : Ok g (G.set i (.v (.lst ds))) (upd F (ow i) (.lst xs)) H (σ.set i o) (fun j => if j = i then 0 else ow j) := by
    refine ⟨fit, by rw [List.length_set, List.length_set, ok.len], fun j t e => ?_, fun j l t t' e e' w w' q => ?_⟩
    · rcases get_set e with ⟨e1, e2⟩ | ⟨e1, e2⟩
      · rw [e1, e2]
        exact ⟨o, List.getElem?_set_self (by rw [ok.len]; exact hl), .ref (ow i), h2, rep_lst upd_same (RepL.mono sb _ _ h5)⟩
      · obtain ⟨o', f1, f2⟩ := ok.at_ j t e2
        refine ⟨o', by rw [List.getElem?_set_ne (Ne.symm e1)]; exact f1, ?_⟩
        rw [if_neg e1]
        have apart : t.owned = true → ow j ≠ ow i := fun w q => e1 (ok.inj j i t _ e2 hG w rfl q)
        cases t with
        | un => exact True.intro
        | v d =>
          obtain ⟨v, z1, z2⟩ := f2
          exact ⟨v, z1, Rep.mono sb _ _ z2⟩
        | m es =>
          obtain ⟨z1, z2, ys, z3, z4⟩ := f2
          exact ⟨z1, by rw [upd_ne (apart rfl)]; exact z2, ys, z3, RepL.mono sb _ _ z4⟩
        | dc kvs =>
          obtain ⟨z1, z2, z3⟩ := f2
          exact ⟨z1, by rw [upd_ne (apart rfl)]; exact z2, z3⟩
        | nw d =>
          obtain ⟨v, z1, z2⟩ := f2
          exact ⟨v, z1, Rep.mono sb _ _ z2⟩
        | pr pre es =>
          obtain ⟨p, vs, z1, z5, z6, z2, ys, z3, z4⟩ := f2
          exact ⟨p, vs, z1, sb _ _ z5, RepL.mono sb _ _ z6, by rw [upd_ne (apart rfl)]; exact z2, ys, z3, RepL.mono sb _ _ z4⟩
    · rcases get_set e with ⟨e1, e2⟩ | ⟨e1, e2⟩
      · rw [e2] at w
        cases w
      · rcases get_set e' with ⟨f1, f2⟩ | ⟨f1, f2⟩
        · rw [f2] at w'
          cases w'
        · have q' : (if j = i then 0 else ow j) = (if l = i then 0 else ow l) := q
          rw [if_neg e1, if_neg f1] at q'
          exact ok.inj j l t t' e2 f2 w w' q'
  have b1 : Bk g B (G.set i (.v (.lst ds))) (upd F (ow i) (.lst xs)) H (fun j => if j = i then 0 else ow j) := by
    refine ⟨up, fun j t e w => ?_⟩
    rcases get_set e with ⟨e1, e2⟩ | ⟨e1, e2⟩
    · rw [e2] at w
      cases w
    · show Fresh B.2 (if j = i then 0 else ow j)
      rw [if_neg e1]
      exact bk.fresh j t e2 w
  have es : σ.set i o = σ := by
    apply List.ext_getElem?
    intro n
    by_cases hn : n = i
    · rw [hn, List.getElem?_set_self (by rw [ok.len]; exact hl)]
      exact h1.symm
    · rw [List.getElem?_set_ne (Ne.symm hn)]
  rw [es] at k1
  exact h B _ H σ _ k1 b1 F1 (s1.trans sb)

/-! ### what a loop walks -/
def Src (g : Gb) (J : It) (items : List D) (F : Hp) : Prop := ∀ F2 H2, Sub F F2 → Sub F2 H2 → (∀ i, i < items.length → J.go i H2) ∧ J.stop items.length H2 ∧ ∀ i v H3, i < items.length → J.yld i H2 v H3 → H3 = H2 ∧ ∃ d, items[i]? = some d ∧ Rep g F2 d v
def WI (X : Cx) (tg iter : Expr) : TI := fun σ H R => ∀ pins s, Inv X pins σ H s → wpAny (model X.prog X.w) X.A (eval iter X.env) (fun v s1 => wpAny (model X.prog X.w) X.A (pyIter v) (PIE X pins σ tg R) X.xe s1) X.xe s
theorem pi_wi {X : Cx} {tg iter : Expr} : PI X tg iter (WI X tg iter) := ⟨fun pins s _ _ _ I h => h pins s I⟩
theorem wi_of {X : Cx} {tg iter : Expr} {t : TI} (h : PI X tg iter t) {σ : St} {H : Hp} {R : It → Hp → Prop} (q : t σ H R) : WI X tg iter σ H R := fun pins s I => h.run pins s σ H R I q
def EvI (g : Gb) (X : Cx) (G : List Sl) (tg iter : Expr) (items : List D) : Prop := ∀ F H σ ow, Ok g G F H σ ow → ∀ R : It → Hp → Prop, (∀ J F' H', Up g F H F' H' → Src g J items F' → R J H') → WI X tg iter σ H R
theorem ei_list {tg : Expr} {ds : List D} (hK : X.K = g.K) (h : EvD g X G e (.lst ds)) : EvI g X G tg e ds := by
  intro F H σ ow ok R q
  refine wi_of (pi_list pe_we) ?_
  refine h F H σ ow ok _ fun v F1 H1 u r => ?_
  obtain ⟨a, xs, e1, h1, h2⟩ := of_lst r
  rw [hK]
  refine ⟨a, e1, ⟨xs, SqL.of (u.fit.low _ _ h1)⟩, q _ F1 H1 u fun F2 H2 s1 s2 => ?_⟩
  have hq : SqL g.K H2 a xs := SqL.of (s2 _ _ (s1 _ _ h1))
  refine ⟨fun i hi => ?_, ⟨xs, hq, by rw [h2.len]; exact Nat.le_refl _⟩, fun i v H3 hi y => ?_⟩
  · have hi' : i < xs.length := by rw [h2.len]; exact hi
    exact ⟨xs, xs[i], hq, by simp [hi']⟩
  · obtain ⟨y1, y2⟩ := y
    obtain ⟨d, d1, d2⟩ := h2.get (y2 xs hq)
    exact ⟨y1, d, d1, Rep.mono s1 _ _ d2⟩
theorem rg_len (a b : Int) : (rg a b).length = (b - a).toNat := by
  unfold rg
  rw [List.length_map, List.length_range]
theorem rg_at {a b : Int} {i : Nat} (h : i < (b - a).toNat) : (rg a b)[i]? = some (a + i) := by
  unfold rg
  rw [List.getElem?_map, List.getElem?_range h] <;> rfl
theorem src_rg (a b : Int) (n : Nat) (hn : n = (b - a).toNat) (F : Hp) : Src g (Itr a n) ((rg a b).map D.int) F := fun F2 H2 s1 s2 => by
  have hl : ((rg a b).map D.int).length = n := by rw [List.length_map, rg_len, hn]
  rw [hl]
  refine ⟨fun i hi => hi, Nat.le_refl _, fun i v H3 hi y => ⟨y.1, .int (a + i), ?_, by rw [y.2]; exact rep_int _⟩⟩
  rw [List.getElem?_map, rg_at (by omega)] <;> rfl
theorem ei_range {tg : Expr} {n : Int} (fr : Free X.mg) (h : EvD g X G e (.int n)) (hn : -100000 ≤ n ∧ n ≤ 100000) (hg : Gl X "range" := by rfl) (he : starEach [e] X.env = (false, eval e X.env) :: starEach [] X.env := by rfl) : EvI g X G tg (.Call (.Name "range" p) [e] [] pos) ((rg 0 n).map D.int) := by
  intro F H σ ow ok R q
  refine wi_of (pi_range1 hg fr.range (pa_cons pe_we pa_nil he) (hs := he)) ?_
  refine h F H σ ow ok _ fun v F1 H1 u r => ⟨n, by rw [of_int r], by omega, by omega, q _ F1 H1 u (src_rg 0 n _ (by omega) F1)⟩
theorem ei_range2 {tg b : Expr} {m n : Int} (fr : Free X.mg) (h0 : EvD g X G a (.int m)) (h : EvD g X G b (.int n)) (hm : -100000 ≤ m ∧ m ≤ 100000) (hn : -100000 ≤ n ∧ n ≤ 100000) (hg : Gl X "range" := by rfl) (he : starEach [a, b] X.env = [(false, eval a X.env), (false, eval b X.env)] := by rfl) (he2 : starEach [b] X.env = [(false, eval b X.env)] := by rfl) :
    EvI g X G tg (.Call (.Name "range" p) [a, b] [] pos) ((rg m n).map D.int) := by
  intro F H σ ow ok R q
  refine wi_of (pi_range2 hg fr.range (pa_cons pe_we (pa_cons pe_we pa_nil he2) (by rw [he, he2])) (hs := he) (hs2 := he2)) ?_
  refine h0 F H σ ow ok _ fun v F1 H1 u r => ?_
  refine h F1 H1 σ ow (ok.up u) _ fun w F2 H2 u2 r2 => ⟨m, n, by rw [of_int r, of_int r2], ⟨by omega, by omega, by omega, by omega⟩, q _ F2 H2 (u.trans u2) (src_rg m n _ rfl F2)⟩
theorem ei_str {tg : Expr} {z : Str} (h : EvD g X G e (.str z)) : EvI g X G tg e (z.cps.toList.map fun c => D.str ⟨#[c]⟩) := by
  intro F H σ ow ok R q
  refine wi_of (pi_str pe_we) ?_
  refine h F H σ ow ok _ fun v F1 H1 u r => ⟨z, of_str r, q _ F1 H1 u fun F2 H2 s1 s2 => ?_⟩
  have hl : (z.cps.toList.map fun c => D.str ⟨#[c]⟩).length = z.cps.size := by rw [List.length_map, Array.length_toList]
  rw [hl]
  refine ⟨fun i hi => hi, Nat.le_refl _, fun i v H3 hi y => ?_⟩
  obtain ⟨y1, c, y2, y3⟩ := y
  exact ⟨y1, .str ⟨#[c]⟩, by rw [List.getElem?_map, Array.getElem?_toList, y2] <;> rfl, by rw [y3]; exact rep_str _⟩

/-! ### loops -/
theorem s_for (j : Nat) {items : List D} {iter : Expr} (hi : EvI g X G (.Name x p) iter items) (I : Nat → List Sl → Prop) (h0 : I 0 G)
    (hs : ∀ i d G', items[i]? = some d → I i G' → Ss g X (G'.set j (.v d)) body { nx := I (i + 1), ct := I (i + 1), bk := k.nx, rt := k.rt }) (hd : ∀ G', I items.length G' → k.nx G')
    (hN : X.N.Nodup := by exact nd_by (by kernel_rfl)) (hj : X.N[j]? = some x := by rfl) (hx : Loc X.env.scope x := by first | exact Or.inl rfl | exact Or.inr rfl) (hc : X.calm = true := by rfl)
    (hf : X.fn x = true ∨ X.env.scope.names.lookup x = some .local := by first | exact .inl rfl | exact .inr rfl) (hp : PassesOwn (model X.prog X.w) X.A X.env X.xe := by exact PassesOwn.never)
    (hfo : ∀ x, foldedSetIterable iter X.env x = pure x := by intro _; rfl) : S1 g X G (.For (.Name x p) iter body [] pos) k := fun B F H σ ow ok bk F1 s1 => by
  refine ws_of (ps_for hp hc pi_wi (pg_name hN hj hx hf) pss_wss hfo) ?_
  refine hi F H σ ow ok _ fun J F2 H2 u src => ?_
  refine ⟨fun i m σ' H' => m = items.length - i ∧ i ≤ items.length ∧ nxP g B F2 (I i) σ' H', ⟨_, rfl, Nat.zero_le _, G, F2, ow, h0, ok.up u, bk.go u, Sub.refl F2⟩, ?_⟩
  rintro i m σ' H' ⟨rfl, hle, G', F', ow', hI, ok', bk', s'⟩
  obtain ⟨h1, h2, h3⟩ := src F' H' s' ok'.fit.low
  by_cases hlt : i < items.length
  · refine Or.inr ⟨h1 i hlt, nxP g B F2 (I (i + 1)), fun σ3 H3 q => ⟨items.length - (i + 1), by omega, rfl, hlt, q⟩, fun v H3 y => ?_⟩
    obtain ⟨e3, d, d1, d2⟩ := h3 i v H3 hlt y
    subst e3
    have ok2 := ok'.set (i := j) (a := 0) (s := .v d) (o := some v) ⟨v, rfl, d2⟩ (fun z => by cases z)
    have bk2 := bk'.set (i := j) (a := 0) (s := .v d) (fun z => by cases z)
    have q0 := hs i d G' d1 hI B F' H3 _ _ ok2 bk2 F2 s'
    refine WSs.imp q0 (fun _ _ q => q) (fun _ _ q => q) (fun σ4 H4 q => ?_) (fun _ _ q => q)
    obtain ⟨G4, F4, ow4, q1, q2, q3, q4⟩ := q
    exact ⟨G4, F4, ow4, q1, q2, q3, (s1.trans u.sub).trans q4⟩
  · have e : i = items.length := by omega
    subst e
    exact Or.inl ⟨h2, G', F', ow', hd G' hI, ok', bk', (s1.trans u.sub).trans s'⟩
theorem s_while (I : Nat → List Sl → Prop) (m0 : Nat) (h0 : I m0 G) (hs : ∀ m G', I m G' → ∃ b, EvT g X G' c b ∧ (b = true → Ss g X G' body { nx := fun G2 => ∃ m', m' < m ∧ I m' G2, ct := fun G2 => ∃ m', m' < m ∧ I m' G2, bk := k.nx, rt := k.rt }) ∧ (b = false → k.nx G'))
    (hp : PassesOwn (model X.prog X.w) X.A X.env X.xe := by exact PassesOwn.never) : S1 g X G (.While c body [] pos) k := fun B F H σ ow ok bk F1 s1 => by
  refine ws_of (ps_while hp pt_wt pss_wss) ?_
  refine ⟨fun m σ' H' => nxP g B F1 (I m) σ' H', ⟨m0, G, F, ow, h0, ok, bk, s1⟩, ?_⟩
  rintro m σ' H' ⟨G', F', ow', hI, ok', bk', s'⟩
  obtain ⟨b, hb, h1, h2⟩ := hs m G' hI
  refine hb F' H' σ' ow' ok' _ fun F2 H2 u => ?_
  cases b with
  | true =>
    refine iteT ⟨fun σ3 H3 => ∃ m', m' < m ∧ nxP g B F1 (I m') σ3 H3, fun σ3 H3 q => q, ?_⟩
    have q0 := h1 rfl B F2 H2 σ' ow' (ok'.up u) (bk'.go u) F1 (s'.trans u.sub)
    refine WSs.imp q0 (fun σ3 H3 q => ?_) (fun _ _ q => q) (fun _ _ q => q) (fun σ3 H3 q => ?_)
    · obtain ⟨G3, F3, ow3, ⟨m', hm, q1⟩, q2, q3, q4⟩ := q
      exact ⟨m', hm, G3, F3, ow3, q1, q2, q3, q4⟩
    · obtain ⟨G3, F3, ow3, ⟨m', hm, q1⟩, q2, q3, q4⟩ := q
      exact ⟨m', hm, G3, F3, ow3, q1, q2, q3, q4⟩
  | false => exact iteF ⟨G', F2, ow', h2 rfl, ok'.up u, bk'.go u, s'.trans u.sub⟩
end
end CH

/-! Choosehall: comprehensions; a frame's own lists read as if frozen; stores; defs by their bodies. -/
namespace CH
open PySem L2

/-! ### what is written while it is the frame's own -/
theorem tabs_mut {T : List (Addr × Str)} {H : Hp} {D : Addr} {u o : HO} (t : LamX.Tabs T H) (h : H D = some u) (n : NT u) (n2 : ∀ φ, u ≠ .ext φ) : LamX.Tabs T (upd H D o) := fun p hp => by
  obtain ⟨ps, h1, h2, h3⟩ := t p hp
  have e1 : p.1 ≠ D := fun z => by
    rw [z, h] at h1
    exact n ps (Option.some.inj h1)
  refine ⟨ps, by rw [upd_ne e1]; exact h1, h2, fun pos cv hc => ?_⟩
  obtain ⟨c, e2, e3⟩ := h3 pos cv hc
  have e4 : c ≠ D := fun z => by
    rw [z, h] at e3
    exact n2 _ (Option.some.inj e3)
  exact ⟨c, e2, by rw [upd_ne e4]; exact e3⟩
theorem fit_mut {g : Gb} {F H : Hp} {D : Addr} {u o : HO} (f : Fit g F H) (hf : F D = none) (h : H D = some u) (n : NT u) (n2 : ∀ φ, u ≠ .ext φ) : Fit g F (upd H D o) :=
  ⟨fun b v e => by rw [upd_ne (ne_of_none e hf)]; exact f.low b v e, f.nt, tabs_mut f.tab h n n2⟩
theorem ne_ext_lst {xs : List V} : ∀ φ, HO.lst xs ≠ .ext φ := fun _ z => by cases z
theorem ne_ext_dK {xs : List (Key × V)} : ∀ φ, HO.dK xs ≠ .ext φ := fun _ z => by cases z
theorem ne_ext_frz {o : Obj} {u : HO} : ∀ φ, HO.frz o u ≠ .ext φ := fun _ z => by cases z
theorem nt_frz {o : Obj} {u : HO} : NT (.frz o u) := fun _ z => by cases z

/-! ### comprehensions -/
def WEb (X : Cx) (scope : Scope) (e : Expr) : TE := fun σ H Q => ∀ (s : Shared) (H0 : Hp) (C : Addr) (cl : List (Str × Addr)) (fp : List Addr), WE (X.blk s H0 scope (compEnvC scope cl C X.env) fp) e σ H Q
def WTb (X : Cx) (scope : Scope) (e : Expr) : TT := fun σ H Q => ∀ (s : Shared) (H0 : Hp) (C : Addr) (cl : List (Str × Addr)) (fp : List Addr), WT (X.blk s H0 scope (compEnvC scope cl C X.env) fp) e σ H Q
/-- e in the comprehension's block, whatever its frame -/
def EvB (g : Gb) (X : Cx) (scope : Scope) (G : List Sl) (e : Expr) (d : D) : Prop := ∀ (s : Shared) (H0 : Hp) (C : Addr) (cl : List (Str × Addr)) (fp : List Addr), EvD g (X.blk s H0 scope (compEnvC scope cl C X.env) fp) G e d
def EvTB (g : Gb) (X : Cx) (scope : Scope) (G : List Sl) (e : Expr) (b : Bool) : Prop := ∀ (s : Shared) (H0 : Hp) (C : Addr) (cl : List (Str × Addr)) (fp : List Addr), EvT g (X.blk s H0 scope (compEnvC scope cl C X.env) fp) G e b
theorem take_snoc {α : Type} {l : List α} {i : Nat} {a : α} (h : l[i]? = some a) : l.take (i + 1) = l.take i ++ [a] := by
  rw [List.take_add_one, h]
  rfl
section
variable {g : Gb} {X : Cx} {G : List Sl} {a c e elt iter : Expr} {pos p spos py : Pos} {x y : Str} {k : KE} {scope : Scope}
theorem filt_snoc {α : Type} {l : List α} {i : Nat} {a : α} {q : α → Bool} (h : l[i]? = some a) : (l.take (i + 1)).filter q = (l.take i).filter q ++ (if q a = true then [a] else []) := by
  rw [take_snoc h, List.filter_append]
  by_cases hq : q a = true
  · rw [if_pos hq, List.filter_cons, if_pos hq] <;> rfl
  · rw [if_neg hq, List.filter_cons, if_neg hq] <;> rfl
/-- the reading of a comprehension whose target is one name -/
theorem lc_run {α : Type} (j : Nat) {tt : TT} {te : TE} {enc : α → D} {l : List α} (q : α → Bool) (f : α → D) {tg : Expr} (hi : EvI g X G tg iter (l.map enc)) (hl : l.length ≤ 90000)
    (ht : ∀ a ∈ l, ∀ F H σ ow, Ok g (G.set j (.v (enc a))) F H σ ow → ∀ Q : Bool → Hp → Prop, (∀ F' H', Up g F H F' H' → Q (q a) H') → tt σ H Q)
    (he : ∀ a ∈ l, q a = true → ∀ F H σ ow, Ok g (G.set j (.v (enc a))) F H σ ow → ∀ Q : VK, (∀ v F' H', Up g F H F' H' → RtOk g F' H H' (.v (f a)) v → Q v H') → te σ H Q) :
    ∀ F H σ ow, Ok g G F H σ ow → ∀ Q : VK, (∀ v F' H', Up g F H F' H' → RtOk g F' H H' (.m ((l.filter q).map f)) v → Q v H') → tLc (WI X tg iter) (gName j) tt te [j] σ H Q := by
  intro F H σ ow ok Q qq
  refine hi F H σ ow ok _ fun J F1 H1 u src D hD => ?_
  have okL := ok.up u
  refine ⟨fun i m H' => m = l.length - i ∧ i ≤ l.length ∧ ∃ F' acc, H' D = some (.lst acc) ∧ F' D = none ∧ RepL g F' (((l.take i).filter q).map f) acc ∧ Up g F1 H1 F' H',
    ⟨_, rfl, Nat.zero_le _, F1, [], upd_same, u.fit.low.free hD, repL_nil, up_new u.fit hD⟩, ?_⟩
  rintro i m H' ⟨rfl, hle, F', acc, h1, h2, h3, u1⟩
  obtain ⟨s1, s2, s3⟩ := src F' H' u1.sub u1.fit.low
  rw [List.length_map] at s1 s2 s3
  by_cases hlt : i < l.length
  · refine Or.inr ⟨s1 i hlt, _, fun H2 z => ⟨l.length - (i + 1), by omega, z⟩, fun v H3 y => ?_⟩
    obtain ⟨e3, d, d1, d2⟩ := s3 i v H3 hlt y
    subst e3
    obtain ⟨a, ha, hd⟩ : ∃ a, l[i]? = some a ∧ enc a = d := by
      rw [List.getElem?_map] at d1
      cases z : l[i]? with
      | none =>
        rw [z] at d1
        cases d1
      | some a =>
        rw [z] at d1
        exact ⟨a, rfl, Option.some.inj d1⟩
    have hm : a ∈ l := List.mem_of_getElem? ha
    have ok1 := (okL.up u1).set (i := j) (a := 0) (s := .v (enc a)) (o := some v) ⟨v, rfl, by rw [hd]; exact d2⟩ (fun z => by cases z)
    have es : (wipe σ [j]).set j (some v) = σ.set j (some v) := by
      show (σ.set j none).set j (some v) = _
      rw [List.set_set]
    have ew : wipe ((wipe σ [j]).set j (some v)) [j] = wipe σ [j] := by
      rw [es]
      show (σ.set j (some v)).set j none = σ.set j none
      rw [List.set_set]
    refine ⟨ew, ?_⟩
    rw [es]
    refine ht a hm F' H3 _ _ ok1 _ fun F2 H2 u2 => ?_
    have k2 : H2 D = some (.lst acc) := u2.ext _ _ h1 nt_lst
    have f2 : F2 D = none := u2.grow _ _ h1 nt_lst h2
    cases hq : q a with
    | true =>
      refine iteT ?_
      refine he a hm hq F2 H2 _ _ (ok1.up u2) _ fun w F4 H4 u4 r4 => ?_
      have k4 : H4 D = some (.lst acc) := u4.ext _ _ k2 nt_lst
      have f4 : F4 D = none := u4.grow _ _ k2 nt_lst f2
      have hacc : acc.length ≤ 90000 := by
        rw [h3.len, List.length_map]
        exact Nat.le_trans (List.length_filter_le _ _) (Nat.le_trans (by rw [List.length_take]; omega) hl)
      refine ⟨acc, k4, Nat.lt_of_le_of_lt hacc (by decide), rfl, hlt, F4, acc ++ [w], upd_same, f4, ?_, ?_⟩
      · rw [filt_snoc ha, if_pos hq, List.map_append]
        exact (RepL.mono (u2.trans u4).sub _ _ h3).app (repL_cons r4 repL_nil)
      · have u5 := (u1.trans u2).trans u4
        exact ⟨fun b o z n => by rw [upd_ne (ne_of_none z hD)]; exact u5.ext b o z n, u5.sub, u5.grow, fit_mut u5.fit f4 k4 nt_lst ne_ext_lst⟩
    | false =>
      refine iteF ⟨rfl, hlt, F2, acc, k2, f2, ?_, u1.trans u2⟩
      rw [filt_snoc ha, if_neg (by rw [hq]; decide), List.append_nil]
      exact RepL.mono u2.sub _ _ h3
  · have e : i = l.length := by omega
    subst e
    refine Or.inl ⟨s2, qq _ F' H' (u.trans u1) ⟨D, acc, rfl, (Fresh.of hD).back u.ext, h1, h2, ?_⟩⟩
    rw [List.take_length] at h3
    exact h3
theorem run_web {scope : Scope} {G : List Sl} {e : Expr} {d : D} (h : EvB g X scope G e d) : ∀ F H σ ow, Ok g G F H σ ow → ∀ Q : VK, (∀ v F' H', Up g F H F' H' → RtOk g F' H H' (.v d) v → Q v H') → WEb X scope e σ H Q := fun F H σ ow ok Q q s H0 C cl fp => h s H0 C cl fp F H σ ow ok Q q
theorem run_wtb {scope : Scope} {G : List Sl} {e : Expr} {d : Bool} (h : EvTB g X scope G e d) : ∀ F H σ ow, Ok g G F H σ ow → ∀ Q : Bool → Hp → Prop, (∀ F' H', Up g F H F' H' → Q d H') → WTb X scope e σ H Q := fun F H σ ow ok Q q s H0 C cl fp => h s H0 C cl fp F H σ ow ok Q q
/-- the target of the block -/
def BlkT (X : Cx) (scope : Scope) (x : Str) : Prop := Loc (relS scope X.env.scope) x ∧ ((scope.names.lookup x == some .cell) = true ∨ (relS scope X.env.scope).names.lookup x = some .local)
theorem pg_blk (j : Nat) (hN : X.N.Nodup) (hj : X.N[j]? = some x) (hx : BlkT X scope x) (s : Shared) (H : Hp) (C : Addr) (cl : List (Str × Addr)) (fp : List Addr) : PG (X.blk s H scope (compEnvC scope cl C X.env) fp) (.Name x p) (gName j) :=
  pg_name (X := X.blk s H scope (compEnvC scope cl C X.env) fp) hN hj hx.1 hx.2
/-- [elt for x in iter if c] -/
theorem ev_lcIf {α : Type} (j : Nat) {enc : α → D} {l : List α} (q : α → Bool) (f : α → D) (hi : EvI g X G (.Name x p) iter (l.map enc)) (hl : l.length ≤ 90000)
    (ht : ∀ a ∈ l, EvTB g X scope (G.set j (.v (enc a))) c (q a)) (he : ∀ a ∈ l, q a = true → EvB g X scope (G.set j (.v (enc a))) elt (f a))
    (hN : X.N.Nodup := by exact nd_by (by kernel_rfl)) (hj : X.N[j]? = some x := by rfl) (hb : blkC X.N X.env.scope scope [(x, j)] = true := by kernel_rfl) (hx : BlkT X scope x := by first | exact ⟨Or.inl rfl, Or.inr rfl⟩ | exact ⟨Or.inr rfl, Or.inl rfl⟩) (hc : X.calm = true := by rfl)
    (hfo : ∀ x, foldedSetIterable iter X.env x = pure x := by intro _; rfl) : Ev g X G (.ListComp elt [⟨.Name x p, iter, [c], 0⟩] scope pos) (.m ((l.filter q).map f)) := by
  intro F H σ ow ok Q qq
  refine we_of (pe_lc (own := [(x, j)]) (g := gName j) (tt := WTb X scope c) (te := WEb X scope elt) hc hN pi_wi (blkOk_by hb) (pg_blk j hN hj hx) (fun s H C cl fp => pts_one ⟨fun pins s' σ H Q I h => h _ _ _ _ _ pins s' I⟩) (fun s H C cl fp => ⟨fun pins s' σ H Q I h => h _ _ _ _ _ pins s' I⟩) hfo) ?_
  exact lc_run j q f hi hl (fun a ha => run_wtb (ht a ha)) (fun a ha hq => run_web (he a ha hq)) F H σ ow ok Q qq
theorem filter_true {α : Type} : ∀ l : List α, l.filter (fun _ => true) = l
  | [] => rfl
  | a :: l => by rw [List.filter_cons, if_pos rfl, filter_true l]
/-- [elt for x in iter] -/
theorem ev_lc {α : Type} (j : Nat) {enc : α → D} {l : List α} (f : α → D) (hi : EvI g X G (.Name x p) iter (l.map enc)) (hl : l.length ≤ 90000) (he : ∀ a ∈ l, EvB g X scope (G.set j (.v (enc a))) elt (f a))
    (hN : X.N.Nodup := by exact nd_by (by kernel_rfl)) (hj : X.N[j]? = some x := by rfl) (hb : blkC X.N X.env.scope scope [(x, j)] = true := by kernel_rfl) (hx : BlkT X scope x := by first | exact ⟨Or.inl rfl, Or.inr rfl⟩ | exact ⟨Or.inr rfl, Or.inl rfl⟩) (hc : X.calm = true := by rfl)
    (hfo : ∀ x, foldedSetIterable iter X.env x = pure x := by intro _; rfl) : Ev g X G (.ListComp elt [⟨.Name x p, iter, [], 0⟩] scope pos) (.m (l.map f)) := by
  intro F H σ ow ok Q qq
  refine we_of (pe_lc (own := [(x, j)]) (g := gName j) (tt := tYes) (te := WEb X scope elt) hc hN pi_wi (blkOk_by hb) (pg_blk j hN hj hx) (fun s H C cl fp => pts_nil) (fun s H C cl fp => ⟨fun pins s' σ H Q I h => h _ _ _ _ _ pins s' I⟩) hfo) ?_
  refine lc_run j (fun _ => true) f hi hl (fun a ha F H σ ow ok Q q => q F H (Up.refl ok.fit)) (fun a ha _ => run_web (he a ha)) F H σ ow ok Q ?_
  rw [filter_true]
  exact qq
/-- y = [elt for x in iter if c] -/
theorem s_lcIf {α : Type} (i j : Nat) {enc : α → D} {l : List α} (q : α → Bool) (f : α → D) (hi : EvI g X G (.Name x p) iter (l.map enc)) (hl : l.length ≤ 90000)
    (ht : ∀ a ∈ l, EvTB g X scope (G.set j (.v (enc a))) c (q a)) (he : ∀ a ∈ l, q a = true → EvB g X scope (G.set j (.v (enc a))) elt (f a)) (hk : k.nx (G.set i (.m ((l.filter q).map f))))
    (hsw : swapsWith (.ListComp elt [⟨.Name x p, iter, [c], 0⟩] scope pos) (some (.Name y py)) spos.line X.env = pure true := by exact sw_true rfl rfl rfl (by kernel_rfl))
    (hN : X.N.Nodup := by exact nd_by (by kernel_rfl)) (hy : X.N[i]? = some y := by rfl) (hyl : X.env.scope.names.lookup y = some .local := by rfl) (hj : X.N[j]? = some x := by rfl) (hb : blkC X.N X.env.scope scope [(x, j)] = true := by kernel_rfl) (hx : BlkT X scope x := by first | exact ⟨Or.inl rfl, Or.inr rfl⟩ | exact ⟨Or.inr rfl, Or.inl rfl⟩) (hc : X.calm = true := by rfl)
    (hfo : ∀ x, foldedSetIterable iter X.env x = pure x := by intro _; rfl) : S1 g X G (.Assign [.Name y py] (.ListComp elt [⟨.Name x p, iter, [c], 0⟩] scope pos) spos) k := fun B F H σ ow ok bk F1 s1 => by
  refine ws_of (ps_setLc (i := i) (own := [(x, j)]) (g := gName j) (tt := WTb X scope c) (te := WEb X scope elt) hc hN hy hyl hsw pi_wi (blkOk_by hb) (pg_blk j hN hj hx) (fun s H C cl fp => pts_one ⟨fun pins s' σ H Q I h => h _ _ _ _ _ pins s' I⟩) (fun s H C cl fp => ⟨fun pins s' σ H Q I h => h _ _ _ _ _ pins s' I⟩) hfo) ?_
  refine lc_run j q f hi hl (fun a ha => run_wtb (ht a ha)) (fun a ha hq => run_web (he a ha hq)) F H σ ow ok _ fun v F2 H2 u r => ?_
  obtain ⟨ow', k1, b1⟩ := store (i := i) ok bk u r
  exact ⟨_, F2, ow', hk, k1, b1, s1.trans u.sub⟩
/-- y = [elt for x in iter] -/
theorem s_lc {α : Type} (i j : Nat) {enc : α → D} {l : List α} (f : α → D) (hi : EvI g X G (.Name x p) iter (l.map enc)) (hl : l.length ≤ 90000) (he : ∀ a ∈ l, EvB g X scope (G.set j (.v (enc a))) elt (f a)) (hk : k.nx (G.set i (.m (l.map f))))
    (hsw : swapsWith (.ListComp elt [⟨.Name x p, iter, [], 0⟩] scope pos) (some (.Name y py)) spos.line X.env = pure true := by exact sw_true rfl rfl rfl (by kernel_rfl))
    (hN : X.N.Nodup := by exact nd_by (by kernel_rfl)) (hy : X.N[i]? = some y := by rfl) (hyl : X.env.scope.names.lookup y = some .local := by rfl) (hj : X.N[j]? = some x := by rfl) (hb : blkC X.N X.env.scope scope [(x, j)] = true := by kernel_rfl) (hx : BlkT X scope x := by first | exact ⟨Or.inl rfl, Or.inr rfl⟩ | exact ⟨Or.inr rfl, Or.inl rfl⟩) (hc : X.calm = true := by rfl)
    (hfo : ∀ x, foldedSetIterable iter X.env x = pure x := by intro _; rfl) : S1 g X G (.Assign [.Name y py] (.ListComp elt [⟨.Name x p, iter, [], 0⟩] scope pos) spos) k := fun B F H σ ow ok bk F1 s1 => by
  refine ws_of (ps_setLc (i := i) (own := [(x, j)]) (g := gName j) (tt := tYes) (te := WEb X scope elt) hc hN hy hyl hsw pi_wi (blkOk_by hb) (pg_blk j hN hj hx) (fun s H C cl fp => pts_nil) (fun s H C cl fp => ⟨fun pins s' σ H Q I h => h _ _ _ _ _ pins s' I⟩) hfo) ?_
  refine lc_run j (fun _ => true) f hi hl (fun a ha F H σ ow ok Q q => q F H (Up.refl ok.fit)) (fun a ha _ => run_web (he a ha)) F H σ ow ok _ fun v F2 H2 u r => ?_
  rw [filter_true] at r
  obtain ⟨ow', k1, b1⟩ := store (i := i) ok bk u r
  exact ⟨_, F2, ow', hk, k1, b1, s1.trans u.sub⟩
end

/-! ### lists of the frame's own, read as if frozen -/
def bor1 : Sl → Sl
  | .m ds => .v (.lst ds)
  | .nw d => .v d
  | .pr pre ds => .v (.lst (pre ++ [.lst ds]))
  | s => s
def bor (G : List Sl) : List Sl := G.map bor1
mutual
def D.noL : D → Bool
  | .lst _ => false
  | .scr _ => false
  | .hs _ => false
  | .tup l => noLL l
  | _ => true
def noLL : List D → Bool
  | [] => true
  | d :: l => d.noL && noLL l
end
def Sl.noL : Sl → Bool
  | .v d => d.noL
  | .m ds => noLL ds
  | .pr _ _ => false
  | _ => true
section
variable {g : Gb} {F : Hp}
mutual
theorem rep_noL {F' : Hp} (h : ∀ b xs, F b = some (.tup xs) → F' b = some (.tup xs)) : ∀ (d : D) (v : V), d.noL = true → Rep g F d v → Rep g F' d v
  | _, _, _, .non => .non
  | _, _, _, .bl b => .bl b
  | _, _, _, .int i => .int i
  | _, _, _, .str x => .str x
  | _, _, _, .adr x => .adr x
  | .lst _, _, n, _ => by cases n
  | .tup l, _, n, .tup e k => .tup (h _ _ e) (repL_noL h l _ n k)
  | .scr _, _, n, _ => by cases n
  | .hs _, _, n, _ => by cases n
theorem repL_noL {F' : Hp} (h : ∀ b xs, F b = some (.tup xs) → F' b = some (.tup xs)) : ∀ (ds : List D) (vs : List V), noLL ds = true → RepL g F ds vs → RepL g F' ds vs
  | _, _, _, .nil => .nil
  | d :: ds, _, n, .cons e k => by
    have n' : (d.noL && noLL ds) = true := n
    rw [Bool.and_eq_true] at n'
    exact .cons (rep_noL h _ _ n'.1 e) (repL_noL h _ _ n'.2 k)
end
end
/-- the addresses that the slots' own lists have -/
def Lent (G : List Sl) (ow : Nat → Addr) (b : Addr) : Prop := ∃ i, ((∃ ds, G[i]? = some (.m ds)) ∨ ∃ pre ds, G[i]? = some (.pr pre ds)) ∧ ow i = b
open Classical in
noncomputable def lendF (G : List Sl) (ow : Nat → Addr) (F H : Hp) : Hp := fun b => if Lent G ow b then H b else F b
open Classical in
noncomputable def backF (G : List Sl) (ow : Nat → Addr) (F : Hp) : Hp := fun b => if Lent G ow b then none else F b
section
variable {g : Gb} {X : Cx} {G : List Sl} {e : Expr} {es : List Expr} {F H : Hp} {σ : St} {ow : Nat → Addr}
theorem lent_at (k : Ok g G F H σ ow) {b : Addr} (h : Lent G ow b) : F b = none ∧ ∃ xs, H b = some (.lst xs) := by
  obtain ⟨i, ⟨ds, e⟩ | ⟨pre, ds, e⟩, rfl⟩ := h
  · obtain ⟨o, _, h2, h3, xs, h4, _⟩ := k.at_ i _ e
    exact ⟨h3, xs, h4⟩
  · obtain ⟨o, _, p, vs, _, _, _, h3, xs, h4, _⟩ := k.at_ i _ e
    exact ⟨h3, xs, h4⟩
theorem lend_sub (k : Ok g G F H σ ow) : Sub F (lendF G ow F H) := fun b o e => by
  unfold lendF
  rw [if_neg fun z => ?_]
  · exact e
  · rw [(lent_at k z).1] at e
    cases e
theorem lend_fit (k : Ok g G F H σ ow) : Fit g (lendF G ow F H) H := by
  refine ⟨fun b o e => ?_, fun b o e => ?_, k.fit.tab⟩
  · unfold lendF at e
    by_cases hb : Lent G ow b
    · rw [if_pos hb] at e
      exact e
    · rw [if_neg hb] at e
      exact k.fit.low b o e
  · unfold lendF at e
    by_cases hb : Lent G ow b
    · rw [if_pos hb] at e
      obtain ⟨_, xs, h⟩ := lent_at k hb
      rw [h] at e
      cases e
      exact nt_lst
    · rw [if_neg hb] at e
      exact k.fit.nt b o e
theorem lend_ok (k : Ok g G F H σ ow) : Ok g (bor G) (lendF G ow F H) H σ ow := by
  have back : ∀ i s, (bor G)[i]? = some s → ∃ t, G[i]? = some t ∧ bor1 t = s := fun i s e => by
    unfold bor at e
    rw [List.getElem?_map] at e
    cases q : G[i]? with
    | none =>
      rw [q] at e
      cases e
    | some t =>
      rw [q] at e
      exact ⟨t, q, Option.some.inj e⟩
  refine ⟨lend_fit k, by unfold bor; rw [List.length_map]; exact k.len, fun i s e => ?_, fun i j s t e e' w w' q => ?_⟩
  · obtain ⟨t, h1, h2⟩ := back i s e
    obtain ⟨o, h3, h4⟩ := k.at_ i t h1
    refine ⟨o, h3, ?_⟩
    subst h2
    cases t with
    | un => exact True.intro
    | v d =>
      obtain ⟨v, z1, z2⟩ := h4
      exact ⟨v, z1, Rep.mono (lend_sub k) _ _ z2⟩
    | m ds =>
      obtain ⟨z1, z2, xs, z3, z4⟩ := h4
      refine ⟨_, z1, rep_lst (xs := xs) ?_ (RepL.mono (lend_sub k) _ _ z4)⟩
      unfold lendF
      rw [if_pos ⟨i, Or.inl ⟨ds, h1⟩, rfl⟩]
      exact z3
    | dc kvs =>
      obtain ⟨z1, z2, z3⟩ := h4
      refine ⟨z1, ?_, z3⟩
      unfold lendF
      rw [if_neg fun z => ?_]
      · exact z2
      · obtain ⟨i', ⟨ds, e1⟩ | ⟨pre, ds, e1⟩, e2⟩ := z
        · have e3 := k.inj i' i _ _ e1 h1 rfl rfl e2
          rw [e3, h1] at e1
          cases e1
        · have e3 := k.inj i' i _ _ e1 h1 rfl rfl e2
          rw [e3, h1] at e1
          cases e1
    | nw d =>
      obtain ⟨v, z1, z2⟩ := h4
      exact ⟨v, z1, Rep.mono (lend_sub k) _ _ z2⟩
    | pr pre ds =>
      obtain ⟨p, vs, z1, z5, z6, z2, xs, z3, z4⟩ := h4
      refine ⟨_, z1, rep_lst (lend_sub k _ _ z5) ((RepL.mono (lend_sub k) _ _ z6).app (repL_cons (rep_lst (xs := xs) ?_ (RepL.mono (lend_sub k) _ _ z4)) repL_nil))⟩
      unfold lendF
      rw [if_pos ⟨i, Or.inr ⟨pre, ds, h1⟩, rfl⟩]
      exact z3
  · obtain ⟨s', h1, h2⟩ := back i s e
    obtain ⟨t', h3, h4⟩ := back j t e'
    refine k.inj i j s' t' h1 h3 ?_ ?_ q
    · subst h2
      cases s' with
      | m _ => cases w
      | nw _ => cases w
      | pr _ _ => cases w
      | _ => exact w
    · subst h4
      cases t' with
      | m _ => cases w'
      | nw _ => cases w'
      | pr _ _ => cases w'
      | _ => exact w'
theorem lend_up (k : Ok g G F H σ ow) {F' H' : Hp} (u : Up g (lendF G ow F H) H F' H') : Up g F H (backF G ow F') H' ∧ ∀ b xs, F' b = some (.tup xs) → backF G ow F' b = some (.tup xs) := by
  have hs : ∀ b, Lent G ow b → ∃ xs, F' b = some (.lst xs) := fun b hb => by
    obtain ⟨_, xs, h⟩ := lent_at k hb
    refine ⟨xs, u.sub b _ ?_⟩
    unfold lendF
    rw [if_pos hb]
    exact h
  refine ⟨⟨u.ext, fun b o e => ?_, fun b o e n f => ?_, ⟨fun b o e => ?_, fun b o e => ?_, u.fit.tab⟩⟩, fun b xs e => ?_⟩
  · unfold backF
    rw [if_neg fun z => ?_]
    · exact u.sub b o (lend_sub k b o e)
    · rw [(lent_at k z).1] at e
      cases e
  · unfold backF
    by_cases hb : Lent G ow b
    · rw [if_pos hb]
    · rw [if_neg hb]
      refine u.grow b o e n ?_
      unfold lendF
      rw [if_neg hb]
      exact f
  · unfold backF at e
    by_cases hb : Lent G ow b
    · rw [if_pos hb] at e
      cases e
    · rw [if_neg hb] at e
      exact u.fit.low b o e
  · unfold backF at e
    by_cases hb : Lent G ow b
    · rw [if_pos hb] at e
      cases e
    · rw [if_neg hb] at e
      exact u.fit.nt b o e
  · unfold backF
    rw [if_neg fun z => ?_]
    · exact e
    · obtain ⟨ys, h⟩ := hs b z
      rw [h] at e
      cases e
theorem Ev.bor {r : Sl} (h : Ev g X (bor G) e r) (n : r.noL = true := by rfl) : Ev g X G e r := by
  intro F H σ ow k Q q
  refine h _ H σ ow (lend_ok k) Q fun v F1 H1 u r1 => ?_
  obtain ⟨u1, ht⟩ := lend_up k u
  refine q v _ H1 u1 ?_
  cases r with
  | un => exact True.intro
  | v d => exact rep_noL ht _ _ n r1
  | m ds =>
    obtain ⟨l, xs, e1, e2, e3, e4, e5⟩ := r1
    refine ⟨l, xs, e1, e2, e3, ?_, repL_noL ht _ _ n e5⟩
    unfold backF
    split
    · rfl
    · exact e4
  | dc kvs =>
    obtain ⟨l, e1, e2, e3, e4⟩ := r1
    refine ⟨l, e1, e2, e3, ?_⟩
    unfold backF
    split
    · rfl
    · exact e4
  | nw d =>
    refine Rep.mono (fun b o e => ?_) _ _ r1
    have e1 := newp_sub b o e
    by_cases z : Lent G ow b
    · obtain ⟨_, xs, hz⟩ := lent_at k z
      have hz1 : F1 b = some (.lst xs) := u.sub b _ (by unfold lendF; rw [if_pos z]; exact hz)
      unfold newp at e
      rw [if_neg fun w => ?_] at e
      · cases e
      · rcases w with w | ⟨ys, w⟩
        · exact w _ hz nt_lst
        · rw [hz1] at w
          cases w
    · have e2 : backF G ow F1 b = F1 b := by
        unfold backF
        rw [if_neg z]
      unfold newp at e ⊢
      rw [e2]
      exact e
  | pr pre ds => cases n
theorem EvT.bor {r : Bool} (h : EvT g X (bor G) e r) : EvT g X G e r := by
  intro F H σ ow k Q q
  refine h _ H σ ow (lend_ok k) Q fun F1 H1 u => ?_
  exact q _ H1 (lend_up k u).1
end
end CH

/-! Choosehall: what changes a list or a dict of the frame's own; a def by its body. -/
namespace CH
open PySem L2

section
variable {g : Gb} {G : List Sl} {F F' H H' : Hp} {σ : St} {ow : Nat → Addr} {B : Hp × Hp}
theorem Ok.mutG (k : Ok g G F H σ ow) {i : Nat} {s t : Sl} {u o : HO} (e : G[i]? = some s) (w : s.owned = true) (hu : H (ow i) = some u) (n : NT u) (n2 : ∀ φ, u ≠ .ext φ)
    (ht : ∀ v, SlotOk g F H (ow i) s v → SlotOk g F (upd H (ow i) o) (ow i) t v) (wt : t.owned = true) : Ok g (G.set i t) F (upd H (ow i) o) σ ow := by
  obtain ⟨v, h1, h2⟩ := k.at_ i s e
  have hf := (h2.own w).1
  refine ⟨fit_mut k.fit hf hu n n2, by rw [List.length_set]; exact k.len, fun j r q => ?_, fun j l r r' q q' x x' z => ?_⟩
  · rcases get_set q with ⟨e1, e2⟩ | ⟨e1, e2⟩
    · rw [e1, e2]
      exact ⟨v, h1, ht v h2⟩
    · obtain ⟨v', f1, f2⟩ := k.at_ j r e2
      refine ⟨v', f1, ?_⟩
      have ap : r.owned = true → ow j ≠ ow i := fun x z => e1 (k.inj j i r s e2 e x w z)
      cases r with
      | un => exact True.intro
      | v d => exact f2
      | m ds =>
        obtain ⟨z1, z2, xs, z3, z4⟩ := f2
        exact ⟨z1, z2, xs, by rw [upd_ne (ap rfl)]; exact z3, z4⟩
      | dc kvs =>
        obtain ⟨z1, z2, z3⟩ := f2
        exact ⟨z1, z2, by rw [upd_ne (ap rfl)]; exact z3⟩
      | nw d => exact f2
      | pr pre ds =>
        obtain ⟨p, vs, z1, z5, z6, z2, xs, z3, z4⟩ := f2
        exact ⟨p, vs, z1, z5, z6, z2, xs, by rw [upd_ne (ap rfl)]; exact z3, z4⟩
  · rcases get_set q with ⟨e1, e2⟩ | ⟨e1, e2⟩
    · rcases get_set q' with ⟨f1, f2⟩ | ⟨f1, f2⟩
      · rw [e1, f1]
      · rw [e1] at z
        rw [e1]
        exact k.inj i l s r' e f2 w x' z
    · rcases get_set q' with ⟨f1, f2⟩ | ⟨f1, f2⟩
      · rw [f1] at z
        rw [f1]
        exact k.inj j i r s e2 e x w z
      · exact k.inj j l r r' e2 f2 x x' z
theorem Bk.mutG (b : Bk g B G F H ow) (k : Ok g G F H σ ow) {i : Nat} {s t : Sl} {u o : HO} (e : G[i]? = some s) (w : s.owned = true) (hu : H (ow i) = some u) (n : NT u) (n2 : ∀ φ, u ≠ .ext φ) (wt : t.owned = true) : Bk g B (G.set i t) F (upd H (ow i) o) ow := by
  obtain ⟨v, h1, h2⟩ := k.at_ i s e
  have hf := (h2.own w).1
  have fr := b.fresh i s e w
  refine ⟨⟨fun c q h m => ?_, b.up.sub, b.up.grow, fit_mut b.up.fit hf hu n n2⟩, fun j r q x => ?_⟩
  · rw [upd_ne (fr.ne h m)]
    exact b.up.ext c q h m
  · rcases get_set q with ⟨e1, e2⟩ | ⟨e1, e2⟩
    · rw [e1]
      exact fr
    · exact b.fresh j r e2 x
/-- the list of slot i holds other data -/
theorem mut_lst (k : Ok g G F H σ ow) (b : Bk g B G F H ow) {i : Nat} {ds es : List D} {xs ys : List V} (e : G[i]? = some (.m ds)) (hu : H (ow i) = some (.lst xs)) (r : RepL g F es ys) : Ok g (G.set i (.m es)) F (upd H (ow i) (.lst ys)) σ ow ∧ Bk g B (G.set i (.m es)) F (upd H (ow i) (.lst ys)) ow :=
  ⟨k.mutG e rfl hu nt_lst ne_ext_lst (fun v h => ⟨h.1, h.2.1, ys, upd_same, r⟩) rfl, b.mutG k e rfl hu nt_lst ne_ext_lst rfl⟩
theorem mut_dct (k : Ok g G F H σ ow) (b : Bk g B G F H ow) {i : Nat} {ds es : List (Int × V)} (e : G[i]? = some (.dc ds)) (hu : H (ow i) = some (.dK (dkv ds))) : Ok g (G.set i (.dc es)) F (upd H (ow i) (.dK (dkv es))) σ ow ∧ Bk g B (G.set i (.dc es)) F (upd H (ow i) (.dK (dkv es))) ow :=
  ⟨k.mutG e rfl hu nt_dK ne_ext_dK (fun v h => ⟨h.1, h.2.1, upd_same⟩) rfl, b.mutG k e rfl hu nt_dK ne_ext_dK rfl⟩
/-- the slot's own list, where it lies -/
theorem Ok.own (k : Ok g G F H σ ow) {i : Nat} {ds : List D} (e : G[i]? = some (.m ds)) : σ[i]? = some (some (.ref (ow i))) ∧ F (ow i) = none ∧ ∃ xs, H (ow i) = some (.lst xs) ∧ RepL g F ds xs := by
  obtain ⟨o, h1, h2, h3, h4⟩ := k.at_ i _ e
  exact ⟨by rw [h1, h2], h3, h4⟩
theorem Ok.ownD (k : Ok g G F H σ ow) {i : Nat} {ds : List (Int × V)} (e : G[i]? = some (.dc ds)) : σ[i]? = some (some (.ref (ow i))) ∧ F (ow i) = none ∧ H (ow i) = some (.dK (dkv ds)) := by
  obtain ⟨o, h1, h2, h3, h4⟩ := k.at_ i _ e
  exact ⟨by rw [h1, h2], h3, h4⟩
end

/-- a method's call with one argument or more, written on one line -/
structure MC (X : Cx) (o : Expr) (m : Str) (apos : Pos) (e : Expr) (es : List Expr) (cpos : Pos) : Prop where
  base : attributeBase o m X.env (eval o X.env) = eval o X.env
  few : ((backTo cpos (starEach (e :: es) X.env)).all (fun x => !x.1) && (backToKw cpos (keywordEach [] X.env)).all (fun x => x.1.isSome)
      && decide ((e :: es).length + ([] : List Keyword).length + (if ([] : List Keyword).isEmpty then 0 else 1) < 30)) = true
  line : (apos.endLine == cpos.line) = true
  star : starEach (e :: es) X.env = (false, eval e X.env) :: starEach es X.env
  plain : (backTo cpos (starEach es X.env)).any (·.1) = false
/-- a name of the def, in its slot -/
structure NmV (X : Cx) (i : Nat) (x : Str) : Prop where
  ix : X.N[i]? = some x
  vis : Vis X.env.scope x
  d1 : (x == ("__debug__" : Str)) = false
  d2 : (x == ("__classdict__" : Str)) = false
section
variable {g : Gb} {X : Cx} {G : List Sl} {a c e e1 e2 o : Expr} {es : List Expr} {pos p p2 p3 apos apos2 cpos cpos2 : Pos} {x y : Str} {k : KE} {ds : List D}
theorem pe_nm {i : Nat} (h : NmV X i x) : PE X (.Name x p) (tVar i) := pe_var h.ix h.vis h.d1 h.d2
theorem ty_lst {K : PySem.W.Frag} {H : Hp} {a : Addr} {xs : List V} (h : H a = some (.lst xs)) : tyV K "list" (.ref a) H := .inl ⟨rfl, _, .inl (.inl h)⟩
/-- x.append(e) -/
theorem s_append (i : Nat) {d : D} (hd : EvD g X G e d) (q : k.nx (G.set i (.m (ds ++ [d])))) (hl : ds.length ≤ 90000) (hG : G[i]? = some (.m ds) := by rfl) (hn : NmV X i x := by first | exact ⟨rfl, Or.inl rfl, rfl, rfl⟩ | exact ⟨rfl, Or.inr (Or.inl rfl), rfl, rfl⟩)
    (mc : MC X (.Name x p) "append" apos e [] cpos := by exact ⟨rfl, rfl, rfl, rfl, rfl⟩) (hs : swapsWith (.Call (.Attribute (.Name x p) "append" apos) [e] [] cpos) none pos.line X.env = pure false := by rfl) :
    S1 g X G (.Expr (.Call (.Attribute (.Name x p) "append" apos) [e] [] cpos) pos) k := fun B F H σ ow ok bk F1 s1 => by
  refine ws_of (ps_expr (pe_bm PySem.F.plainAttrs_list PySem.F.slot_list_append PySem.F.type_list_append mt_append (pe_nm hn) (pa_cons pe_we pa_nil mc.star) mc.base mc.few mc.line mc.star mc.plain) hs) ?_
  obtain ⟨h1, h2, xs, h3, h4⟩ := ok.own hG
  refine ⟨_, h1, ty_lst h3, ?_⟩
  refine hd F H σ ow ok _ fun v F2 H2 u r => ?_
  have h5 := u.ext _ _ h3 nt_lst
  obtain ⟨k1, b1⟩ := mut_lst (ok.up u) (bk.go u) hG h5 ((RepL.mono u.sub _ _ h4).app (repL_cons r repL_nil))
  refine ⟨ow i, xs, v, rfl, rfl, h5, Nat.lt_of_le_of_lt ?_ (by decide : 90000 < sizeLine), _, F2, ow, q, k1, b1, s1.trans u.sub⟩
  rw [h4.len]
  exact hl
/-- x.append(y.pop(e)) -/
theorem s_appPop (i j : Nat) {es : List D} {n m : Nat} {d : D} (he : EvD g X G e (.int n)) (hm : es[n]? = some d) (q : k.nx ((G.set j (.m (es.eraseIdx n))).set i (.m (ds ++ [d])))) (hij : i ≠ j) (hl : ds.length ≤ 90000) (hl2 : es.length ≤ 90000) (hG : G[i]? = some (.m ds) := by rfl) (hG2 : G[j]? = some (.m es) := by rfl)
    (hn : NmV X i x := by first | exact ⟨rfl, Or.inl rfl, rfl, rfl⟩ | exact ⟨rfl, Or.inr (Or.inl rfl), rfl, rfl⟩) (hn2 : NmV X j y := by first | exact ⟨rfl, Or.inl rfl, rfl, rfl⟩ | exact ⟨rfl, Or.inr (Or.inl rfl), rfl, rfl⟩)
    (mc : MC X (.Name x p) "append" apos (.Call (.Attribute (.Name y p2) "pop" apos2) [e] [] cpos2) [] cpos := by exact ⟨rfl, rfl, rfl, rfl, rfl⟩) (mc2 : MC X (.Name y p2) "pop" apos2 e [] cpos2 := by exact ⟨rfl, rfl, rfl, rfl, rfl⟩)
    (hs : swapsWith (.Call (.Attribute (.Name x p) "append" apos) [.Call (.Attribute (.Name y p2) "pop" apos2) [e] [] cpos2] [] cpos) none pos.line X.env = pure false := by rfl) :
    S1 g X G (.Expr (.Call (.Attribute (.Name x p) "append" apos) [.Call (.Attribute (.Name y p2) "pop" apos2) [e] [] cpos2] [] cpos) pos) k := fun B F H σ ow ok bk F1 s1 => by
  refine ws_of (ps_expr (pe_bm PySem.F.plainAttrs_list PySem.F.slot_list_append PySem.F.type_list_append mt_append (pe_nm hn) (pa_cons (pe_bm PySem.F.plainAttrs_list PySem.F.slot_list_pop PySem.F.type_list_pop mt_popAt (pe_nm hn2) (pa_cons pe_we pa_nil mc2.star) mc2.base mc2.few mc2.line mc2.star mc2.plain) pa_nil mc.star) mc.base mc.few mc.line mc.star mc.plain) hs) ?_
  obtain ⟨h1, h2, xs, h3, h4⟩ := ok.own hG
  obtain ⟨f1, f2, ys, f3, f4⟩ := ok.own hG2
  refine ⟨_, h1, ty_lst h3, _, f1, ty_lst f3, ?_⟩
  refine he F H σ ow ok _ fun v F2 H2 u r => ?_
  have ok2 := ok.up u
  have bk2 := bk.go u
  have g3 := u.ext _ _ f3 nt_lst
  have g4 := RepL.mono u.sub _ _ f4
  obtain ⟨w, w1, w2⟩ := g4.at_ hm
  have hn3 : n < es.length := (List.getElem?_eq_some_iff.mp hm).1
  obtain ⟨k1, b1⟩ := mut_lst ok2 bk2 hG2 g3 (g4.erase n)
  have hG' : (G.set j (.m (es.eraseIdx n)))[i]? = some (.m ds) := by rw [List.getElem?_set_ne (Ne.symm hij)]; exact hG
  obtain ⟨z1, z2, zs, z3, z4⟩ := k1.own hG'
  refine ⟨ow j, ys, n, n, w, rfl, by rw [of_int r], g3, by omega, by omega, ?_, w1, ?_⟩
  · have e := (ixN_seq (n := ys.length) (i := (n : Int)) (j := n) (by unfold ixN; rw [if_pos (by omega), if_pos (by rw [g4.len]; omega)]; simp)).1
    exact e
  · obtain ⟨k3, b3⟩ := mut_lst k1 b1 hG' z3 (z4.app (repL_cons w2 repL_nil))
    exact ⟨ow i, zs, w, rfl, rfl, z3, Nat.lt_of_le_of_lt (by rw [z4.len]; exact hl) (by decide : 90000 < sizeLine), _, F2, ow, q, k3, b3, s1.trans u.sub⟩
/-- x.insert(e1, e2) -/
theorem s_insert (i : Nat) {n : Int} {d : D} (h1 : EvD g X G e1 (.int n)) (h2 : EvD g X G e2 d) (hn0 : 0 ≤ n ∧ n ≤ 100000) (q : k.nx (G.set i (.m (ds.take n.toNat ++ [d] ++ ds.drop n.toNat)))) (hl : ds.length ≤ 90000) (hG : G[i]? = some (.m ds) := by rfl)
    (hn : NmV X i x := by first | exact ⟨rfl, Or.inl rfl, rfl, rfl⟩ | exact ⟨rfl, Or.inr (Or.inl rfl), rfl, rfl⟩)
    (mc : MC X (.Name x p) "insert" apos e1 [e2] cpos := by exact ⟨rfl, rfl, rfl, rfl, rfl⟩) (mc2 : starEach [e2] X.env = (false, eval e2 X.env) :: starEach [] X.env := by rfl) (hs : swapsWith (.Call (.Attribute (.Name x p) "insert" apos) [e1, e2] [] cpos) none pos.line X.env = pure false := by rfl) :
    S1 g X G (.Expr (.Call (.Attribute (.Name x p) "insert" apos) [e1, e2] [] cpos) pos) k := fun B F H σ ow ok bk F1 s1 => by
  refine ws_of (ps_expr (pe_bm PySem.F.plainAttrs_list PySem.F.slot_list_insert PySem.F.type_list_insert mt_insert (pe_nm hn) (pa_cons pe_we (pa_cons pe_we pa_nil mc2) mc.star) mc.base mc.few mc.line mc.star mc.plain) hs) ?_
  obtain ⟨f1, f2, xs, f3, f4⟩ := ok.own hG
  refine ⟨_, f1, ty_lst f3, ?_⟩
  refine h1 F H σ ow ok _ fun v F2 H2 u r => ?_
  refine h2 F2 H2 σ ow (ok.up u) _ fun w F3 H3 u2 r2 => ?_
  have u3 := u.trans u2
  have h5 := u3.ext _ _ f3 nt_lst
  have h6 := RepL.mono u3.sub _ _ f4
  obtain ⟨k1, b1⟩ := mut_lst (ok.up u3) (bk.go u3) hG h5 (((h6.take n.toNat).app (repL_cons r2 repL_nil)).app (h6.drop n.toNat))
  refine ⟨ow i, xs, n, w, rfl, by rw [of_int r], h5, Nat.lt_of_le_of_lt (by rw [f4.len]; exact hl) (by decide : 90000 < sizeLine), by omega, by omega, _, F3, ow, q, k1, b1, s1.trans u3.sub⟩
/-- x.reverse(), x.clear() -/
theorem s_reverse (i : Nat) (q : k.nx (G.set i (.m ds.reverse))) (hG : G[i]? = some (.m ds) := by rfl) (hn : NmV X i x := by first | exact ⟨rfl, Or.inl rfl, rfl, rfl⟩ | exact ⟨rfl, Or.inr (Or.inl rfl), rfl, rfl⟩)
    (hb : attributeBase (.Name x p) "reverse" X.env (eval (.Name x p) X.env) = eval (.Name x p) X.env := by rfl) (hline : (apos.endLine == cpos.line) = true := by rfl) (hs : swapsWith (.Call (.Attribute (.Name x p) "reverse" apos) [] [] cpos) none pos.line X.env = pure false := by rfl) :
    S1 g X G (.Expr (.Call (.Attribute (.Name x p) "reverse" apos) [] [] cpos) pos) k := fun B F H σ ow ok bk F1 s1 => by
  refine ws_of (ps_expr (pe_bm0 PySem.F.plainAttrs_list PySem.F.slot_list_reverse PySem.F.type_list_reverse mt_reverse (pe_nm hn) hb hline) hs) ?_
  obtain ⟨h1, h2, xs, h3, h4⟩ := ok.own hG
  obtain ⟨k1, b1⟩ := mut_lst ok bk hG h3 h4.rev
  exact ⟨_, h1, ty_lst h3, ow i, xs, rfl, rfl, h3, _, F, ow, q, k1, b1, s1⟩
theorem s_clear (i : Nat) (q : k.nx (G.set i (.m []))) (hG : G[i]? = some (.m ds) := by rfl) (hn : NmV X i x := by first | exact ⟨rfl, Or.inl rfl, rfl, rfl⟩ | exact ⟨rfl, Or.inr (Or.inl rfl), rfl, rfl⟩)
    (hb : attributeBase (.Name x p) "clear" X.env (eval (.Name x p) X.env) = eval (.Name x p) X.env := by rfl) (hline : (apos.endLine == cpos.line) = true := by rfl) (hs : swapsWith (.Call (.Attribute (.Name x p) "clear" apos) [] [] cpos) none pos.line X.env = pure false := by rfl) :
    S1 g X G (.Expr (.Call (.Attribute (.Name x p) "clear" apos) [] [] cpos) pos) k := fun B F H σ ow ok bk F1 s1 => by
  refine ws_of (ps_expr (pe_bm0 PySem.F.plainAttrs_list PySem.F.slot_list_clear PySem.F.type_list_clear mt_clear (pe_nm hn) hb hline) hs) ?_
  obtain ⟨h1, h2, xs, h3, h4⟩ := ok.own hG
  obtain ⟨k1, b1⟩ := mut_lst ok bk hG h3 repL_nil
  exact ⟨_, h1, ty_lst h3, ow i, xs, rfl, rfl, h3, _, F, ow, q, k1, b1, s1⟩
/-- f(..).clear(): a list that has just come -/
theorem s_clearNew (h : Ev g X G o (.m ds)) (q : k.nx G) (hb : attributeBase o "clear" X.env (eval o X.env) = eval o X.env := by rfl) (hline : (apos.endLine == cpos.line) = true := by rfl) (hs : swapsWith (.Call (.Attribute o "clear" apos) [] [] cpos) none pos.line X.env = pure false := by rfl) :
    S1 g X G (.Expr (.Call (.Attribute o "clear" apos) [] [] cpos) pos) k := fun B F H σ ow ok bk F1 s1 => by
  refine ws_of (ps_expr (pe_bm0 PySem.F.plainAttrs_list PySem.F.slot_list_clear PySem.F.type_list_clear mt_clear pe_we hb hline) hs) ?_
  refine h F H σ ow ok _ fun v F2 H2 u r => ?_
  obtain ⟨l, xs, rfl, hf, h1, h2, h3⟩ := r
  have u2 : Up g F H F2 (upd H2 l (.lst [])) := ⟨fun b o e n => by
    rw [upd_ne (hf.ne e n)]
    exact u.ext b o e n, u.sub, u.grow, fit_mut u.fit h2 h1 nt_lst ne_ext_lst⟩
  exact ⟨ty_lst h1, l, xs, rfl, rfl, h1, G, F2, ow, q, ok.up u2, bk.go u2, s1.trans u.sub⟩
/-- x[e1] = e, x a list of the frame's own -/
theorem s_setIx (i : Nat) {n : Nat} {d : D} (he : EvD g X G e d) (h1 : EvD g X G e1 (.int n)) (hn0 : n < ds.length) (q : k.nx (G.set i (.m (ds.set n d)))) (hG : G[i]? = some (.m ds) := by rfl)
    (hn : NmV X i x := by first | exact ⟨rfl, Or.inl rfl, rfl, rfl⟩ | exact ⟨rfl, Or.inr (Or.inl rfl), rfl, rfl⟩)
    (ha : ∀ v, assign (.Subscript (.Name x p) e1 p2) X.env v = (do
      let ov ← holding [v] (eval (.Name x p) X.env)
      let iv ← holding [v, ov] (eval e1 X.env)
      standAt p2
      holding [v, ov, iv] (setItem ov iv v)
      release [v, ov, iv] []) := by intro _; rfl)
    (hs : swapsWithSole [.Subscript (.Name x p) e1 p2] e pos.line X.env = pure false := by rfl) (hw : swappedStores [.Subscript (.Name x p) e1 p2] e X.env = pure none := by rfl) (h3 : (assignEach [.Subscript (.Name x p) e1 p2] X.env).map (·.2) = [assign (.Subscript (.Name x p) e1 p2) X.env] := by rfl) :
    S1 g X G (.Assign [.Subscript (.Name x p) e1 p2] e pos) k := fun B F H σ ow ok bk F1 s1 => by
  refine ws_of (ps_asg pe_we (pg_sub (pe_nm hn) pe_we set_list ha) hs hw h3) ?_
  refine he F H σ ow ok _ fun v F2 H2 u r => ?_
  obtain ⟨f1, f2, xs, f3, f4⟩ := (ok.up u).own hG
  refine ⟨_, f1, ?_⟩
  refine h1 F2 H2 σ ow (ok.up u) _ fun w F3 H3 u2 r2 => ?_
  have u3 := u.trans u2
  have h5 := u2.ext _ _ f3 nt_lst
  have h6 := RepL.mono u2.sub _ _ f4
  obtain ⟨k1, b1⟩ := mut_lst (ok.up u3) (bk.go u3) hG h5 (h6.set n (Rep.mono u2.sub _ _ r))
  refine ⟨ow i, xs, n, n, rfl, of_int r2, h5, ?_, _, F3, ow, q, k1, b1, s1.trans u3.sub⟩
  unfold ixN
  rw [if_pos (by omega), if_pos (by rw [h6.len]; omega)]
  simp

/-! ### dicts of the frame's own: keys ints -/
theorem ev_dnew : Ev g X G (.Dict [] [] pos) (.dc []) := fun F H σ ow k Q q => we_of pe_dnewK fun l hl => q _ F _ (up_new k.fit hl) ⟨l, rfl, Fresh.of hl, upd_same, k.fit.low.free hl⟩
theorem put_dkv : ∀ (kvs : List (Int × V)) (n : Int) (v : V), putK (dkv kvs) (Sum.inl n : Key) v = dkv (if kvs.any (fun p => decide (p.1 = n)) = true then kvs.map (fun p => if p.1 = n then (n, v) else p) else kvs ++ [(n, v)]) := by
  intro kvs n v
  have hany : ((dkv kvs).any fun kv => decide (kv.1 = (Sum.inl n : Key))) = kvs.any (fun p => decide (p.1 = n)) := by
    unfold dkv
    rw [List.any_map]
    congr 1
    funext p
    show decide ((Sum.inl p.1 : Key) = Sum.inl n) = decide (p.1 = n)
    by_cases h : p.1 = n
    · rw [decide_eq_true h, decide_eq_true (congrArg Sum.inl h)]
    · rw [decide_eq_false h, decide_eq_false fun z => h (Sum.inl.inj z)]
  unfold putK
  rw [hany]
  split
  · unfold dkv
    rw [List.map_map, List.map_map]
    congr 1
    funext p
    show (if (Sum.inl p.1 : Key) = Sum.inl n then ((Sum.inl p.1 : Key), v) else (Sum.inl p.1, p.2)) = ((Sum.inl (if p.1 = n then (n, v) else p).1 : Key), (if p.1 = n then (n, v) else p).2)
    by_cases h : p.1 = n
    · rw [if_pos (congrArg Sum.inl h), if_pos h, h]
    · rw [if_neg fun z => h (Sum.inl.inj z), if_neg h]
  · unfold dkv
    rw [List.map_append] <;> rfl
/-- d[e1] = e, the key a new one -/
theorem s_dput (i : Nat) {kvs : List (Int × V)} {n : Int} {d : D} {w : V} (hu : X.A.units + 1 < cLine) (he : EvD g X G e d) (hw : d.fl = some w) (h1 : EvD g X G e1 (.int n)) (hn0 : ∀ p ∈ kvs, p.1 ≠ n) (hl : kvs.length ≤ 90000) (q : k.nx (G.set i (.dc (kvs ++ [(n, w)])))) (hG : G[i]? = some (.dc kvs) := by rfl)
    (hn : NmV X i x := by first | exact ⟨rfl, Or.inl rfl, rfl, rfl⟩ | exact ⟨rfl, Or.inr (Or.inl rfl), rfl, rfl⟩) (hs : swapsWith e (some (.Subscript (.Name x p) e1 p2)) pos.line X.env = pure false := by rfl) : S1 g X G (.Assign [.Subscript (.Name x p) e1 p2] e pos) k := fun B F H σ ow ok bk F1 s1 => by
  refine ws_of (ps_dput hu (pe_nm hn) pe_we pe_we hs) ?_
  refine he F H σ ow ok _ fun v F2 H2 u r => ?_
  obtain ⟨f1, f2, f3⟩ := (ok.up u).ownD hG
  refine ⟨_, f1, ?_⟩
  refine h1 F2 H2 σ ow (ok.up u) _ fun y F3 H3 u2 r2 => ?_
  have u3 := u.trans u2
  have h5 := u2.ext _ _ f3 nt_dK
  have e3 : (kvs.any fun p => decide (p.1 = n)) = false := by
    cases z : (kvs.any fun p => decide (p.1 = n)) with
    | false => rfl
    | true =>
      obtain ⟨p, hp, hz⟩ := List.any_eq_true.mp z
      exact absurd (of_decide_eq_true hz) (hn0 p hp)
  have ev : v = w := (fl_rep hw r).1
  obtain ⟨k1, b1⟩ := mut_dct (es := kvs ++ [(n, w)]) (ok.up u3) (bk.go u3) hG h5
  refine ⟨ow i, upd H3 (ow i) (.dK (dkv (kvs ++ [(n, w)]))), rfl, ?_, _, F3, ow, q, k1, b1, s1.trans u3.sub⟩
  have e4 := put_dkv kvs n w
  rw [e3] at e4
  rw [of_int r2, ev]
  have e5 := DPut.k (k := (Sum.inl n : Key)) (v := w) h5 (by unfold dkv; rw [List.length_map]; exact Nat.lt_of_le_of_lt hl (by decide))
  rw [e4] at e5
  exact e5
theorem val_dkv (kvs : List (Int × V)) (n : Int) : valV (dkv kvs) (Sum.inl n : Key) = (kvs.find? fun p => decide (p.1 = n)).map (·.2) := by
  induction kvs with
  | nil => rfl
  | cons p r ih =>
    show valV (((Sum.inl p.1 : Key), p.2) :: dkv r) (Sum.inl n) = _
    by_cases h : p.1 = n
    · rw [valV_pos (congrArg Sum.inl h), List.find?_cons, decide_eq_true h] <;> rfl
    · rw [valV_neg (fun z => h (Sum.inl.inj z)), ih, List.find?_cons, decide_eq_false h]
theorem isSome_dkv (kvs : List (Int × V)) (n : Int) : (valV (dkv kvs) (Sum.inl n : Key)).isSome = kvs.any fun p => decide (p.1 = n) := by
  induction kvs with
  | nil => rfl
  | cons p r ih =>
    show (valV (((Sum.inl p.1 : Key), p.2) :: dkv r) (Sum.inl n)).isSome = _
    by_cases h : p.1 = n
    · rw [valV_pos (congrArg Sum.inl h), List.any_cons, decide_eq_true h] <;> rfl
    · rw [valV_neg (fun z => h (Sum.inl.inj z)), ih, List.any_cons, decide_eq_false h, Bool.false_or]
def flD : V → Option D
  | .non => some .non
  | .bl b => some (.bl b)
  | .int i => some (.int i)
  | .str x => some (.str x)
  | _ => none
theorem rep_fl {F : Hp} {v : V} {d : D} (h : flD v = some d) : Rep g F d v := by
  cases v with
  | non => cases h; exact .non
  | bl b => cases h; exact .bl b
  | int b => cases h; exact .int b
  | str b => cases h; exact .str b
  | _ => cases h
/-- e1 in d, e1 not in d, d[e1], d a dict of the frame's own -/
theorem et_dnotin (i : Nat) {kvs : List (Int × V)} {n : Int} (hu : X.A.units + 1 < cLine) (h1 : EvD g X G e1 (.int n)) (hG : G[i]? = some (.dc kvs) := by rfl) (hn : NmV X i x := by first | exact ⟨rfl, Or.inl rfl, rfl, rfl⟩ | exact ⟨rfl, Or.inr (Or.inl rfl), rfl, rfl⟩) (hm : behindInMarks .NotIn (.Name x p) = false := by rfl) :
    EvT g X G (.Compare e1 [.NotIn] [.Name x p] pos) (!(kvs.any fun p => decide (p.1 = n))) := by
  intro F H σ ow ok Q q
  refine wt_of (pt_cmp (pc_dnotin hu pe_we (pe_nm hn)) hm) ?_
  refine h1 F H σ ow ok _ fun v F2 H2 u r => ?_
  obtain ⟨f1, f2, f3⟩ := (ok.up u).ownD hG
  refine ⟨_, f1, ow i, valV (dkv kvs) (Sum.inl n), rfl, by rw [of_int r]; exact DGet.k (k := Sum.inl n) f3, _, rfl, ?_⟩
  rw [isSome_dkv]
  exact q F2 H2 u
theorem et_dict (i : Nat) {kvs : List (Int × V)} (hG : G[i]? = some (.dc kvs) := by rfl) (hn : NmV X i x := by first | exact ⟨rfl, Or.inl rfl, rfl, rfl⟩ | exact ⟨rfl, Or.inr (Or.inl rfl), rfl, rfl⟩)
    (he : ∀ whole, isTrue (.Name x p) X.env whole = (do let v ← whole; standAt (Expr.Name x p).pos; holding [v] (truthy v)) := by intro _; rfl) : EvT g X G (.Name x p) (!kvs.isEmpty) := by
  intro F H σ ow ok Q q
  refine wt_of (pt_truth (pe_nm hn) he) ?_
  obtain ⟨f1, f2, f3⟩ := ok.ownD hG
  refine ⟨_, f1, !kvs.isEmpty, Or.inr (Or.inr ⟨_, f3, ?_⟩), q F H (Up.refl ok.fit)⟩
  unfold dkv
  cases kvs <;> rfl
/-- sorted(d): the keys -/
theorem ev_sortedD (i : Nat) {kvs : List (Int × V)} (fr : Free X.mg) (hc : X.calm = true) (hl : kvs.length < 64) (hG : G[i]? = some (.dc kvs) := by rfl) (hn : NmV X i x := by first | exact ⟨rfl, Or.inl rfl, rfl, rfl⟩ | exact ⟨rfl, Or.inr (Or.inl rfl), rfl, rfl⟩) (hg : Gl X "sorted" := by rfl)
    (he : starEach [.Name x p] X.env = (false, eval (.Name x p) X.env) :: starEach [] X.env := by rfl) : Ev g X G (.Call (.Name "sorted" p2) [.Name x p] [] pos) (.m (((kvs.map (·.1)).mergeSort fun a b => decide (a ≤ b)).map D.int)) := by
  intro F H σ ow ok Q q
  refine we_of (pe_callB (call_sortedDI hc) hg fr.sorted (by decide +kernel) (pa_cons (pe_nm hn) pa_nil he) (he := he) (hpl := rfl)) ?_
  obtain ⟨f1, f2, f3⟩ := ok.ownD hG
  refine ⟨_, f1, ow i, dkv kvs, kvs.map (·.1), rfl, .inl f3, ?_, by rw [List.length_map]; exact hl, fun ys l hp hs hl => ?_⟩
  · unfold dkv
    rw [List.map_map, List.map_map] <;> rfl
  · rw [sorted_is hp hs]
    exact rt_new ok.fit (repL_ints _) q hl
end

/-! ### a def by its body -/
def G0 (N : List Str) (ds : List D) : List Sl := ds.map Sl.v ++ List.replicate (N.length - ds.length) Sl.un
def kRet (r : Sl) : KE := { nx := fun _ => r = .v .non, rt := fun s => s = r }
theorem ok_start {g : Gb} {N : List Str} {ds : List D} {F H : Hp} {vs : List V} (hr : RepL g F ds vs) (f : Fit g F H) : Ok g (G0 N ds) F H (L2.start N vs) (fun _ => 0) := by
  have hown : ∀ (i : Nat) (s : Sl), (G0 N ds)[i]? = some s → s.owned = false := fun i s e => by
    have hm : s ∈ G0 N ds := List.mem_of_getElem? e
    unfold G0 at hm
    rcases List.mem_append.mp hm with h | h
    · obtain ⟨d, _, rfl⟩ := List.mem_map.mp h
      rfl
    · rw [List.eq_of_mem_replicate h]
      rfl
  refine ⟨f, ?_, fun i s e => ?_, fun i j s t e _ w _ _ => ?_⟩
  · unfold L2.start G0
    rw [List.length_append, List.length_append, List.length_map, List.length_map, List.length_replicate, List.length_replicate, hr.len]
  · unfold L2.start
    unfold G0 at e
    by_cases hi : i < ds.length
    · rw [List.getElem?_append_left (by rw [List.length_map]; exact hi), List.getElem?_map] at e
      cases z : ds[i]? with
      | none =>
        rw [z] at e
        cases e
      | some d =>
        rw [z] at e
        obtain ⟨v, h1, h2⟩ := hr.at_ z
        have e' : Sl.v d = s := Option.some.inj e
        subst e'
        refine ⟨some v, ?_, v, rfl, h2⟩
        rw [List.getElem?_append_left (by rw [List.length_map, hr.len]; exact hi), List.getElem?_map, h1] <;> rfl
    · rw [List.getElem?_append_right (by rw [List.length_map]; omega)] at e
      have hm := List.eq_of_mem_replicate (List.mem_of_getElem? e)
      subst hm
      have hlt : i < (vs.map some ++ List.replicate (N.length - vs.length) (none : Option V)).length := by
        have h9 := (List.getElem?_eq_some_iff.mp e).1
        rw [List.length_replicate, List.length_map] at h9
        rw [List.length_append, List.length_map, List.length_replicate, hr.len]
        omega
      exact ⟨_, List.getElem?_eq_getElem hlt, True.intro⟩
  · rw [hown i s e] at w
    cases w
theorem run_body {g : Gb} {X : Cx} {N : List Str} {ds : List D} {body : List Stmt} {r : Sl} (h : Ss g X (G0 N ds) body (kRet r)) {F H : Hp} {vs : List V} {Q : VK} (hr : RepL g F ds vs) (f : Fit g F H) (q : ∀ v F' H', Up g F H F' H' → RtOk g F' H H' r v → Q v H') :
    WSs X body { nx := fun _ H' => Q .non H', rt := Q } (L2.start N vs) H := by
  have q0 := h (F, H) F H (L2.start N vs) _ (ok_start hr f) ⟨Up.refl f, fun i s e w => ?_⟩ F (Sub.refl F)
  · refine WSs.imp q0 (fun σ H2 z => ?_) (fun v H2 z => ?_) (fun σ H2 z => ?_) (fun σ H2 z => ?_)
    · obtain ⟨G, F2, ow, e, ok, bk, _⟩ := z
      have e' : r = .v .non := e
      subst e'
      exact q _ F2 H2 bk.up rep_non
    · obtain ⟨s, F2, e, u, r2⟩ := z
      have e' : s = r := e
      subst e'
      exact q v F2 H2 u r2
    · obtain ⟨_, _, _, z, _⟩ := z
      exact z.elim
    · obtain ⟨_, _, _, z, _⟩ := z
      exact z.elim
  · have hm : s ∈ G0 N ds := List.mem_of_getElem? e
    unfold G0 at hm
    rcases List.mem_append.mp hm with h | h
    · obtain ⟨d, _, rfl⟩ := List.mem_map.mp h
      cases w
    · rw [List.eq_of_mem_replicate h] at w
      cases w
abbrev FnP (K : PySem.W.Frag) (x qual : Str) (st : Stmt) (f : Addr) (fd : FuncData) : Prop := FunD K x qual (defArgs st) (defBody st) (defScope st) [] [] f fd
section
variable {P : Program} {w : World} {g : Gb} {mg : Str → Option Value} {base : Heap} {x qual : Str} {st : Stmt} {f : Addr} {fd : FuncData} {N ps : List Str} {k : Nat} {R : List D → Sl → Prop}
theorem fn_by (F : FnP g.K x qual st f fd) (S : FnScope N ps (defScope st)) (hlen : ∀ ds r, R ds r → ds.length = ps.length)
    (hb : ∀ ds r (cdv : Value) (A : Around) (outer : List Env) (s : Shared) (H : Hp) (E : XK), R ds r → Room k (A.deeper (PyProof.Rows.envOfC qual (defScope st) s.heap.objs.size f cdv)) →
      Ss g (cxOf CX0 P w g.K mg base N qual (defScope st) f cdv A outer s H E).nox (G0 N ds) (defBody st) (kRet r)) : FnOk P w g.K mg base CX0 (k + 1) f fd ps (Prom g R) := by
  refine F.ok S (fun vs H Q E h => ?_) (fun cdv A outer s H vs Q E hr h => ?_)
  · obtain ⟨ds, r, F, hR, r1, _⟩ := h
    rw [r1.len]
    exact hlen ds r hR
  · obtain ⟨ds, r, F, hR, r1, f1, q⟩ := h
    exact ⟨_, PSs.nox (pss_wss (X := (cxOf CX0 P w g.K mg base N qual (defScope st) f cdv A outer s H E).nox)), run_body (hb ds r cdv A outer s H E hR hr) r1 f1 q⟩
/-- a def of the module, by its body -/
theorem cal_by (F : FnP g.K x x st f fd) (S : FnScope N ps (defScope st)) (hm : mg x = some (.ref f)) (hbi : ∀ (kV doc pm : Value) (an : Option Addr) (cdv ct : Value) (us : List Value), us.length = ps.length → bindArgs (PySem.W.fnOf x x (defArgs st) (defBody st) (defScope st) .none kV doc pm an cdv ct) ⟨us, []⟩ = pure (ps.zip us))
    (hlen : ∀ ds r, R ds r → ds.length = ps.length)
    (hb : ∀ ds r (cdv : Value) (A : Around) (outer : List Env) (s : Shared) (H : Hp) (E : XK), R ds r → Room k (A.deeper (PyProof.Rows.envOfC x (defScope st) s.heap.objs.size f cdv)) →
      Ss g (cxOf CX0 P w g.K mg base N x (defScope st) f cdv A outer s H E).nox (G0 N ds) (defBody st) (kRet r)) : Cal P w g mg base x (k + 1) R :=
  ⟨f, fd, ps, fn_by F S hlen hb, hm, F.kp, F.bindsN hbi⟩
/-- a method of House, by its body -/
theorem mcal_by (F : FnP g.K x qual st f fd) (S : FnScope N ps (defScope st)) (hm : Meth g.K g.C x f) (hbi : ∀ (kV doc pm : Value) (an : Option Addr) (cdv ct : Value) (us : List Value), us.length = ps.length → bindArgs (PySem.W.fnOf x qual (defArgs st) (defBody st) (defScope st) .none kV doc pm an cdv ct) ⟨us, []⟩ = pure (ps.zip us))
    (hlen : ∀ ds r, R ds r → ds.length = ps.length)
    (hb : ∀ ds r (cdv : Value) (A : Around) (outer : List Env) (s : Shared) (H : Hp) (E : XK), R ds r → Room k (A.deeper (PyProof.Rows.envOfC qual (defScope st) s.heap.objs.size f cdv)) →
      Ss g (cxOf CX0 P w g.K mg base N qual (defScope st) f cdv A outer s H E).nox (G0 N ds) (defBody st) (kRet r)) : MCal P w g mg base x (k + 1) R :=
  ⟨f, fd, ps, fn_by F S hlen hb, hm, F.bindsN hbi⟩
theorem Cal.mono {j : Nat} (C : Cal P w g mg base x j R) (h : j ≤ k) : Cal P w g mg base x k R := by
  obtain ⟨f, fd, ps, a, b⟩ := C
  exact ⟨f, fd, ps, a.mono h, b⟩
theorem Cal.imp {R' : List D → Sl → Prop} (C : Cal P w g mg base x k R) (h : ∀ ds r, R' ds r → R ds r) : Cal P w g mg base x k R' := by
  obtain ⟨f, fd, ps, a, b⟩ := C
  exact ⟨f, fd, ps, a.imp fun vs H Q E ⟨ds, r, F, h1, h2⟩ => ⟨ds, r, F, h ds r h1, h2⟩, b⟩
end
end CH

/-! Choosehall: sorted(able, key=lambda comer: -self.points[comer]). -/
namespace CH
open PySem L2

abbrev lamBody (p1 p2 p3 p4 p5 : Pos) : Expr := .UnaryOp .USub (.Subscript (.Attribute (.Name "self" p1) "points" p2) (.Name "comer" p3) p4) p5
abbrev lamScope : Scope := { kind := .function, names := [("comer", .local), ("self", .free)], isGenerator := false, isCoroutine := false, more := [] }
abbrev lamArgs (q : Pos) : Arguments := { posonlyargs := [], args := [{ arg := "comer", annotation := none, pos := q }], vararg := none, kwonlyargs := [], kw_defaults := [], kwarg := none, defaults := [] }

theorem lam_nc : ∀ y ∈ lamScope.names, y.2 ≠ NameKind.cell := by decide +kernel
section
variable {X : Cx} {pins : List (Addr × Obj)} {σ : St} {H : Hp} {s : Shared}
/-- the key, asked of one comer -/
theorem lam_key (I : Inv X pins σ H s) {qual : Str} {pm ctv : Value} {C f c' cs a dx p : Addr} {fs : List (Str × V)} {zs : List V} {p1 p2 p3 p4 p5 q : Pos}
    (hf : s.heap.get? f = some (PySem.W.kla_obj "<lambda>" qual (lamArgs q) (lamBody p1 p2 p3 p4 p5) lamScope (cloFrom X.env.cells lamScope.names []) pm c' ctv)) (hco : H c' = some (LamX.CodeO c' qual))
    (hclo : (cloFrom X.env.cells lamScope.names []).lookup ("self" : Str) = some cs) (hcell : s.heap.IsCell cs (some (.ref a))) (ha : H a = some (.ins C dx fs)) (hc : Cls X.K C) (hn : NoAttr X.K C "points") (hp : fs.lookup ("points" : Str) = some (.ref p)) (hz : H p = some (.lst zs))
    {n : Nat} {x : Int} {t : Tok} (hx : zs[n]? = some (.int x)) {A : Around} (hA : A.depth < recursionLimit) {h : Heap} {tk : Nat} (k : ∀ b o, s.heap.get? b = some o → h.get? b = some o) :
    wpAny (model X.prog X.w) A (call (.ref f) [.int n t]) (PySem.W.KeyPure (.int (-x)) { s with heap := h, toks := tk }) (fun _ _ => False) { s with heap := h, toks := tk } := by
  obtain ⟨⟨oc, vs, tq, hoc, hdc, hvc⟩, _, _⟩ := I.hok c' _ hco
  obtain ⟨mA, O, ro, _, _, _⟩ := ins_get I.hok ha
  obtain ⟨u, hu, ru⟩ := RelO.some_of (v := V.ref p) (o := mA "points") (by rw [← hp]; exact ro "points")
  have ru' : u = Value.ref p := ru
  subst ru'
  obtain ⟨hlen, its, nn, rv, hpo⟩ := I.hok p _ hz
  obtain ⟨wv, hw1, hw2⟩ := rv.get hx
  obtain ⟨tx, rfl⟩ := hw2
  have hlt : n < zs.length := (List.getElem?_eq_some_iff.mp hx).1
  have hl63 := line63
  refine wpAny_call ?_
  refine PySem.W.kla_callFunE hA (k _ _ hf) rfl rfl rfl rfl ⟨c', oc, vs, tq, rfl, k _ _ hoc, hdc, hvc⟩ ?_
  have hbind : bindArgs (PySem.W.kla_fn "<lambda>" qual (lamArgs q) (lamBody p1 p2 p3 p4 p5) lamScope (cloFrom X.env.cells lamScope.names []) pm (.ref c') ctv) ⟨[.int n t], []⟩ = pure [(("comer" : Str), Value.int n t)] := rfl
  rw [hbind]
  refine wpAny_pure (wpAny_newFunctionEnv (fun y hy => ?_) (fun y hy => ?_) (fun h₁ hns hsb => ⟨(I.nolimit.keeps k).fresh _ hsb, ?_⟩) rfl)
  · exact lam_nc y hy
  · have e := List.mem_singleton.mp hy
    rw [e]
    rfl
  · show codeAny _ _ (.expr (lamBody p1 p2 p3 p4 p5) (PySem.W.envX qual lamScope h.objs.size f (.ref c') (cloFrom X.env.cells lamScope.names []))) _ _
    have k1 : ∀ b o, h.get? b = some o → h₁.get? b = some o := fun b o e => hsb.extBut b o (Nat.ne_of_lt (Heap.lt_size e)) (Heap.get?_push_of_some _ e)
    have k2 : ∀ b o, s.heap.get? b = some o → h₁.get? b = some o := fun b o e => k1 b o (k b o e)
    have KX : X.K.In h₁ := fun b o e => k2 b o (I.kIn b o e)
    have O1 : ObjM h₁ a dx C mA := ⟨k2 _ _ O.obj, O.ns.at fun o e => k2 _ _ e, O.ne⟩
    have hcell1 : h₁.IsCell cs (some (.ref a)) := by
      obtain ⟨o, ho, hd⟩ := hcell
      exact ⟨o, k2 _ _ ho, hd⟩
    refine PySem.W.kla_codeExpr ?_
    refine PyProof.Rows.UnaryOp_ (PyProof.Rows.Subscript_ (attr_of (by rfl) (wpAny_Name (wpAny_loadName_free (by rfl) (by rfl) hclo hcell1 ?_))))
    refine get_map (s := { s with heap := h₁, toks := tk + 1 }) KX O1 (hc.get _) hc.hd hn hu rfl ?_
    refine wpAny_Name (wpAny_loadName_local (by rfl) (by rfl) hns (v := .int n t) (by rfl) ?_)
    refine PyProof.Rows.item_listR (x := .int x tx) (items := its.toArray) (show PlainL h₁ p its.toArray from ⟨_, nn, k2 _ _ hpo, rfl, rfl, rfl⟩).isList (by omega) (by omega) (by simpa using hw1) ?_ (by with_unfolding_all rfl)
    refine PyProof.Rows.neg_int ?_
    exact ⟨h₁, _, rfl, k1, .int _ _⟩
end
/-- the points of a comer that has some -/
def ptOf (h : Hs) (x : Int) : Int := (h.pts.getD x.toNat none).getD 0
def byKey (h : Hs) (a b : Int) : Bool := decide (-ptOf h a ≤ -ptOf h b)
theorem each_ints : ∀ {l : List Int} {us : List Value}, Vals (l.map V.int) us → PySem.W.EachIs (fun v x => ∃ t, v = Value.int x t) us l
  | [], _, .nil => .nil
  | _ :: _, _, .cons r t => .cons r (each_ints t)
theorem vals_each : ∀ {us : List Value} {l : List Int}, PySem.W.EachIs (fun v x => ∃ t, v = Value.int x t) us l → Vals (l.map V.int) us
  | _, _, .nil => .nil
  | _, _, .cons r t => .cons r (vals_each t)
theorem lk_row {h : Hs} {p q r : Addr} : (flds h p q r).lookup ("row" : Str) = some (.ref r) := by
  unfold flds
  rw [lookup_putF, if_pos rfl]
theorem lk_kinds {h : Hs} {p q r : Addr} : (flds h p q r).lookup ("kinds" : Str) = some (.ref q) := by
  unfold flds
  rw [lookup_putF, if_neg (by decide +kernel), lookup_putF, if_pos rfl]
theorem lk_points {h : Hs} {p q r : Addr} : (flds h p q r).lookup ("points" : Str) = some (.ref p) := by
  unfold flds
  rw [lookup_putF, if_neg (by decide +kernel), lookup_putF, if_neg (by decide +kernel), lookup_putF, if_pos rfl]
theorem lk_opened {h : Hs} {p q r : Addr} : (flds h p q r).lookup ("opened" : Str) = some (.bl h.opened) := by
  unfold flds
  rw [lookup_putF, if_neg (by decide +kernel), lookup_putF, if_neg (by decide +kernel), lookup_putF, if_neg (by decide +kernel), lookup_putF, if_pos rfl]
theorem lk_kind {h : Hs} {p q r : Addr} : (flds h p q r).lookup ("kind" : Str) = some (.int h.kind) := by
  unfold flds
  rw [lookup_putF, if_neg (by decide +kernel), lookup_putF, if_neg (by decide +kernel), lookup_putF, if_neg (by decide +kernel), lookup_putF, if_neg (by decide +kernel), lookup_putF, if_pos rfl]
theorem lk_kept {h : Hs} {p q r : Addr} : (flds h p q r).lookup ("kept" : Str) = some (.int h.kept) := by
  unfold flds
  rw [lookup_putF, if_neg (by decide +kernel), lookup_putF, if_neg (by decide +kernel), lookup_putF, if_neg (by decide +kernel), lookup_putF, if_neg (by decide +kernel), lookup_putF, if_neg (by decide +kernel), lookup_putF, if_pos rfl]
theorem lk_seats {h : Hs} {p q r : Addr} : (flds h p q r).lookup ("seats" : Str) = some (.int h.seats) := by
  unfold flds
  rw [lookup_putF, if_neg (by decide +kernel), lookup_putF, if_neg (by decide +kernel), lookup_putF, if_neg (by decide +kernel), lookup_putF, if_neg (by decide +kernel), lookup_putF, if_neg (by decide +kernel), lookup_putF, if_neg (by decide +kernel), lookup_putF, if_pos rfl]
theorem lk_no {h : Hs} {p q r : Addr} {m : Str} (h1 : m ≠ "row") (h2 : m ≠ "kinds") (h3 : m ≠ "points") (h4 : m ≠ "opened") (h5 : m ≠ "kind") (h6 : m ≠ "kept") (h7 : m ≠ "seats") : (flds h p q r).lookup m = none := by
  unfold flds
  rw [lookup_putF, if_neg h1, lookup_putF, if_neg h2, lookup_putF, if_neg h3, lookup_putF, if_neg h4, lookup_putF, if_neg h5, lookup_putF, if_neg h6, lookup_putF, if_neg h7] <;> rfl
section
variable {g : Gb} {X : Cx} {G : List Sl} {e : Expr} {pos p kpos lpos p1 p2 p3 p4 p5 q0 : Pos}
theorem ev_sortedLam {h : Hs} {l : List Int} {c P : Addr} (hK : X.K = g.K) (fr : Free X.mg) (cl : Cls g.K g.C) (na : NoAttr g.K g.C "points") (TB : LamX.TabB X.base X.mg c P) (hcode : X.env.code = .ref c) (hT : g.T = [(P, X.env.qual ++ "<lambda>")]) (hr : Room 2 X.A)
    (hG : G[0]? = some (.v (.hs h))) (hs : X.N[0]? = some ("self" : Str)) (hcl : X.env.scope.names.lookup ("self" : Str) = some .cell) (he : EvD g X G e (.lst (l.map D.int))) (hl : l.length ≤ 90000) (hp : ∀ x ∈ l, ∃ (n : Nat) (z : Int), x = (n : Int) ∧ h.pts[n]? = some (some z)) (hg : Gl X "sorted" := by rfl)
    (hst : starEach [e] X.env = (false, eval e X.env) :: starEach [] X.env := by rfl) (hst2 : backTo pos (starEach [e] X.env) = (false, eval e X.env) :: backTo pos (starEach [] X.env) := by rfl) (hpl : (backTo pos (starEach [e] X.env)).any (·.1) = false := by rfl) :
    Ev g X G (.Call (.Name "sorted" p) [e] [⟨some "key", .Lambda (lamArgs q0) (lamBody p1 p2 p3 p4 p5) lamScope lpos, kpos⟩] pos) (.m ((l.mergeSort (byKey h)).map D.int)) := by
  intro F H σ ow ok Q q pins s I
  refine wpAny_Call_Name_kw (ld_blt (u := .builtin "sorted") I hg fr.sorted (by decide +kernel) ?_ (by decide) (by decide))
  refine PyProof.Rows.callWith_kw (thn ((pa_cons (X := X) pe_we pa_nil hst).run pos pins s σ H (fun vs H1 => ∃ v F1, vs = [v] ∧ Up g F H F1 H1 ∧ Rep g F1 (.lst (l.map D.int)) v) I (he F H σ ow ok _ fun v F1 H1 u r => ⟨v, F1, rfl, u, r⟩)) fun us s1 hq => ?_) hst2 hpl (by rfl) (by rfl)
  obtain ⟨vs, H1, I1, rv, v, F1, e1, u, r⟩ := hq
  obtain ⟨a1, xs, e2, f1, r1⟩ := of_lst r
  have e3 := ints_of r1
  subst e1 e2 e3
  have e4 := Vals.ref1 rv
  subst e4
  have ok1 := ok.up u
  obtain ⟨o, g1, v0, g2, g3⟩ := ok1.at_ 0 _ hG
  obtain ⟨a, g4, dx, pp, qq, rr, g5, g6, g7, g8⟩ := of_hs g3
  subst g2 g4
  obtain ⟨m, hn, hlk⟩ := id I1.loc
  obtain ⟨uu, hru, hlook⟩ := hlk 0 "self" (.ref a) hs g1 (Or.inr (Or.inl hcl))
  have hru' : uu = Value.ref a := hru
  subst hru'
  obtain ⟨cs, hcs⟩ : ∃ cs, X.env.cells.lookup ("self" : Str) = some cs := by
    rcases hlook with ⟨k1, _⟩ | ⟨_, cs, k1, _⟩
    · have k1' : X.env.scope.names.lookup ("self" : Str) = some .local := k1
      rw [hcl] at k1'
      cases k1'
    · exact ⟨cs, k1⟩
  show wpAny _ _ (evalAll ((do let v ← eval (.Lambda (lamArgs q0) (lamBody p1 p2 p3 p4 p5) lamScope lpos) X.env; standAt pos; pure v) :: [])) _ _ s1
  refine wpAny_evalAll_cons (wpAny_bind (LamX.lam_make2 (T := g.T) I1 TB hcode (by rw [hT]; exact List.mem_singleton.mpr rfl) (fun z hz _ => by rw [hT] at hz; rw [List.mem_singleton.mp hz]) u.fit.tab rfl (fun y hy hf => ?_) fun f c' pm ctv H2 s2 I2 eN T2 hf hfn hfr hco => wpAny_bind (wpAny_standAt (wpAny_pure (wpAny_evalAll_nil ?_)))))
  · rcases List.mem_cons.mp hy with z | z
    · rw [z] at hf
      cases hf
    · have z' := List.mem_singleton.mp z
      rw [z']
      exact ⟨cs, hcs⟩
  · show wpAny _ _ (call (.builtin "sorted") [.ref a1] [(Str.ofString "key", .ref f)]) _ _ s2
    have up2 : Up g F1 H1 F1 H2 := ⟨eN, Sub.refl F1, fun _ _ _ _ z => z, ⟨fun b o z => eN b o (u.fit.low b o z) (u.fit.nt b o z), u.fit.nt, T2⟩⟩
    obtain ⟨m2, hn2, hlk2⟩ := id I2.loc
    obtain ⟨uu2, hru2, hlook2⟩ := hlk2 0 "self" (.ref a) hs g1 (Or.inr (Or.inl hcl))
    have hru2' : uu2 = Value.ref a := hru2
    subst hru2'
    have hcell : s2.heap.IsCell cs (some (.ref a)) := by
      rcases hlook2 with ⟨k1, _⟩ | ⟨_, cs2, k1, k2⟩
      · have k1' : X.env.scope.names.lookup ("self" : Str) = some .local := k1
        rw [hcl] at k1'
        cases k1'
      · rw [hcs] at k1
        cases k1
        exact k2
    have low2 := up2.fit.low
    obtain ⟨its, rits, pl, hz⟩ := I2.list (SqL.of (low2 _ _ f1))
    have hA : X.A.in1.in1.depth < recursionLimit := (Room.in1 (Room.in1 hr)).depth
    refine PySem.W.sorted_key_data (β := Int) (b := false) (R := fun v x => ∃ t, v = Value.int x t) (fun x => .int (-ptOf h x)) pl.isList (each_ints rits) (PySem.W.AllAlike.of fun _ _ => by rfl) (PySem.W.Sortable.others fun _ => ⟨nofun, fun _ => nofun⟩) (by rw [List.length_map] at hz; exact hz)
      (fun x _ => ?_) (PyProof.Rows.ksk_s1 _ _) (fun _ => PyProof.Rows.ksk_l1 _ _) (fun _ => PyProof.Rows.ksk_t1 _ _) (fun v x hR hx h0 tk k0 => ?_) fun out cc h' tk k0 fresh hD hlen each => ?_
    · have := hr.units
      show X.A.units + 2 + 0 < cLine
      omega
    · obtain ⟨t, rfl⟩ := hR
      obtain ⟨n, z, e5, e6⟩ := hp x hx
      subst e5
      have e7 : ptOf h (n : Int) = z := by
        unfold ptOf
        rw [Int.toNat_natCast, List.getD_eq_getElem?_getD, e6] <;> rfl
      show wpAny _ _ _ (PySem.W.KeyPure (.int (-ptOf h (n : Int))) _) _ _
      rw [e7]
      have hclo : (cloFrom X.env.cells lamScope.names []).lookup ("self" : Str) = some cs := by
        show ([(("self" : Str), (X.env.cells.lookup ("self" : Str)).getD 0)] : List (Str × Addr)).lookup ("self" : Str) = some cs
        rw [hcs]
        rfl
      exact lam_key I2 hf hco hclo hcell (low2 _ _ g5) (by rw [hK]; exact cl) (by rw [hK]; exact na) lk_points (low2 _ _ g6) (by rw [List.getElem?_map, e6]; rfl) hA k0
    · have e8 : l.mergeSort (PySem.W.dataLe false fun x => .int (-ptOf h x)) = l.mergeSort (byKey h) := by
        rw [PySem.W.dataLe_int (fun x => -ptOf h x)]
        rfl
      rw [e8] at each
      have rv2 := vals_each each
      have hl2 : ((l.mergeSort (byKey h)).map V.int).length ≤ sizeLine := by
        rw [List.length_map, List.length_mergeSort]
        exact Nat.le_trans hl (by decide)
      have hfree := I2.hok.fresh (Nat.le_succ s2.heap.objs.size)
      refine ⟨.ref (s2.heap.objs.size + 1), upd H2 (s2.heap.objs.size + 1) (.lst ((l.mergeSort (byKey h)).map V.int)), I2.laid (t' := tk) k0 (Nat.le_succ _) ⟨hl2, out, cc, rv2, hD⟩, rfl, ?_⟩
      exact rt_new up2.fit (repL_ints _) (fun v F3 H3 u3 r3 => q v F3 H3 ((u.trans up2).trans u3) (r3.back (u.trans up2).ext)) hfree
end
end CH

/-! Choosehall: a House made; its attributes; a comprehension over a dict of the frame's own. -/
namespace CH
open PySem L2

open Classical in
/-- what House.__init__ promises -/
def spInit (g : Gb) : Sp := fun vs H Q _ => ∃ (p dx : Addr) (h : Hs) (a b c : Addr) (F : Hp), vs = [.ref p, .int h.seats, .int h.kept, .int h.kind, .bl h.opened, .ref a, .ref b, .ref c] ∧ H p = some (.ins g.C dx []) ∧
  F a = some (.lst (h.pts.map vOi)) ∧ F b = some (.lst (h.kinds.map V.int)) ∧ F c = some (.lst (h.row.map V.int)) ∧ Fit g F H ∧ F p = none ∧
  ∀ F' H', (∀ z o, H z = some o → z ≠ p → H' z = some o) → Sub F F' → Fit g F' H' → (∀ z o, H z = some o → z ≠ p → F z = none → F' z = none) → HsAt g (fun b => if H b = none ∨ b = p then F' b else none) h p → Q .non H'
def HCal (P : Program) (w : World) (g : Gb) (mg : Str → Option Value) (base : Heap) (k : Nat) : Prop :=
  ∃ (f : Addr) (fd : FuncData) (ps : List Str), FnOk P w g.K mg base CX0 k f fd ps (spInit g) ∧ Mk g.K g.C f ∧ Binds g.K fd ps [] ∧ mg "House" = some (.ref g.C)
theorem newHs_sub {H F' : Hp} {p : Addr} [∀ b, Decidable (H b = none ∨ b = p)] : Sub (fun b => if H b = none ∨ b = p then F' b else none) F' := fun b o e => by
  have e2 : (if H b = none ∨ b = p then F' b else none) = some o := e
  by_cases h : H b = none ∨ b = p
  · rw [if_pos h] at e2
    exact e2
  · rw [if_neg h] at e2
    cases e2
theorem ois_of {g : Gb} {F : Hp} {l : List (Option Int)} {xs : List V} (h : RepL g F (l.map D.oi) xs) : xs = l.map vOi := repL_of D.oi vOi (fun _ _ => of_oi) h
theorem repL_ois {g : Gb} {F : Hp} (l : List (Option Int)) : RepL g F (l.map D.oi) (l.map vOi) := repL_map D.oi vOi rep_oi l
def hsArgs (h : Hs) : List D := [.int h.seats, .int h.kept, .int h.kind, .bl h.opened, .lst (h.pts.map D.oi), .lst (h.kinds.map D.int), .lst (h.row.map D.int)]
section
variable {g : Gb} {X : Cx} {G : List Sl} {e o : Expr} {es : List Expr} {pos p apos : Pos} {k : Nat}
theorem ev_make {h : Hs} (hK : X.K = g.K) (C : HCal X.prog X.w g X.mg X.base k) (hr : Room (k + 1) X.A) (ha : EvA g X G (e :: es) (hsArgs h)) (hg : Gl X "House" := by rfl)
    (he : starEach (e :: es) X.env = (false, eval e X.env) :: starEach es X.env := by rfl) (hpl : (backTo pos (starEach es X.env)).any (·.1) = false := by rfl) : EvD g X G (.Call (.Name "House" p) (e :: es) [] pos) (.hs h) := by
  obtain ⟨f, fd, ps, F0, M, hb, hm⟩ := C
  intro F H σ ow ok Q q
  refine we_of (pe_make (X := X) (C := g.C) (by rw [hK]; exact M) (by rw [hK]; exact F0) hr hg hm (by rw [hK]; exact hb) .nil pass0 pa_wa (by decide) he hpl) ?_
  refine ha F H σ ow ok _ fun vs F1 H1 u r => ?_
  intro x dx hx hdx hne
  rw [List.append_nil]
  have r' : RepL g F1 [.int h.seats, .int h.kept, .int h.kind, .bl h.opened, .lst (h.pts.map D.oi), .lst (h.kinds.map D.int), .lst (h.row.map D.int)] vs := r
  obtain ⟨v1, w1, rfl, a1, r1⟩ := repL_inv r'
  obtain ⟨v2, w2, rfl, a2, r2⟩ := repL_inv r1
  obtain ⟨v3, w3, rfl, a3, r3⟩ := repL_inv r2
  obtain ⟨v4, w4, rfl, a4, r4⟩ := repL_inv r3
  obtain ⟨v5, w5, rfl, a5, r5⟩ := repL_inv r4
  obtain ⟨v6, w6, rfl, a6, r6⟩ := repL_inv r5
  obtain ⟨v7, w7, rfl, a7, r7⟩ := repL_inv r6
  have e7 := repL_inv0 r7
  subst e7
  obtain ⟨q5, x5, rfl, f5, s5⟩ := of_lst a5
  obtain ⟨q6, x6, rfl, f6, s6⟩ := of_lst a6
  obtain ⟨q7, x7, rfl, f7, s7⟩ := of_lst a7
  rw [of_int a1, of_int a2, of_int a3, of_bl a4]
  rw [ois_of s5] at f5
  rw [ints_of s6] at f6
  rw [ints_of s7] at f7
  have hold : ∀ z o, H1 z = some o → (upd (upd H1 dx (.own x)) x (.ins g.C dx [])) z = some o := fun z o e => by
    rw [upd_ne (ne_of_none e hx), upd_ne (ne_of_none e hdx)]
    exact e
  refine ⟨x, dx, h, q5, q6, q7, F1, rfl, upd_same, f5, f6, f7, ⟨fun z o e => hold z o (u.fit.low z o e), u.fit.nt, u.fit.tab.ext fun z o e => hold z o e⟩, u.fit.low.free hx, fun F2 H2 k1 k2 k3 k4 k5 => ⟨rfl, ?_⟩⟩
  refine q _ F2 H2 (u.trans ⟨fun z o e _ => k1 z o (hold z o e) (ne_of_none e hx), k2, fun z o e n f => k4 z o (hold z o e) (ne_of_none e hx) f, k3⟩) (.hs (k5.mono newHs_sub))

/-! ### attributes -/
theorem fld_seats (h : Hs) : FldIs "seats" h (.int h.seats) := fun _ _ _ _ _ _ _ _ => ⟨_, lk_seats, rep_int _⟩
theorem fld_kept (h : Hs) : FldIs "kept" h (.int h.kept) := fun _ _ _ _ _ _ _ _ => ⟨_, lk_kept, rep_int _⟩
theorem fld_kind (h : Hs) : FldIs "kind" h (.int h.kind) := fun _ _ _ _ _ _ _ _ => ⟨_, lk_kind, rep_int _⟩
theorem fld_opened (h : Hs) : FldIs "opened" h (.bl h.opened) := fun _ _ _ _ _ _ _ _ => ⟨_, lk_opened, rep_bl _⟩
theorem fld_points (h : Hs) : FldIs "points" h (.lst (h.pts.map D.oi)) := fun _ _ _ _ _ h1 _ _ => ⟨_, lk_points, rep_lst h1 (repL_ois _)⟩
theorem fld_kinds (h : Hs) : FldIs "kinds" h (.lst (h.kinds.map D.int)) := fun _ _ _ _ _ _ h1 _ => ⟨_, lk_kinds, rep_lst h1 (repL_ints _)⟩
theorem fld_row (h : Hs) : FldIs "row" h (.lst (h.row.map D.int)) := fun _ _ _ _ _ _ _ h1 => ⟨_, lk_row, rep_lst h1 (repL_ints _)⟩
end

/-! ### dicts of the frame's own, read -/
section
variable {g : Gb} {X : Cx} {G : List Sl} {e1 : Expr} {pos p p2 p3 p4 p5 p6 p7 p8 : Pos} {x y z : Str} {scope : Scope}
/-- d[e1] -/
theorem ev_dget (i : Nat) {kvs : List (Int × V)} {n : Int} {w : V} {d : D} (hu : X.A.units + 1 < cLine) (h1 : EvD g X G e1 (.int n)) (hv : (kvs.find? fun p => decide (p.1 = n)).map (·.2) = some w) (hd : flD w = some d) (hG : G[i]? = some (.dc kvs) := by rfl) (hn : NmV X i x := by first | exact ⟨rfl, Or.inl rfl, rfl, rfl⟩ | exact ⟨rfl, Or.inr (Or.inl rfl), rfl, rfl⟩)
    (hs : NoSl e1 := by intro _ _; rfl) : EvD g X G (.Subscript (.Name x p) e1 pos) d := by
  intro F H σ ow ok Q q
  refine we_of (pe_dget hu (pe_nm hn) pe_we hs) ?_
  obtain ⟨f1, f2, f3⟩ := ok.ownD hG
  refine ⟨_, f1, ?_⟩
  refine h1 F H σ ow ok _ fun v F2 H2 u r => ?_
  obtain ⟨g1, g2, g3⟩ := (ok.up u).ownD hG
  refine ⟨ow i, w, rfl, ?_, q _ F2 H2 u (rep_fl hd)⟩
  have e := DGet.k (k := (Sum.inl n : Key)) g3
  rw [val_dkv, hv] at e
  rw [of_int r]
  exact e
theorem find_nd {pr : Int × Int} : ∀ {kvs : List (Int × Int)}, (kvs.map (·.1)).Nodup → pr ∈ kvs → (((kvs.map fun p => (p.1, V.int p.2)).find? fun q => decide (q.1 = pr.1)).map (·.2)) = some (V.int pr.2)
  | [], _, hm => by cases hm
  | a :: r, hnd, hm => by
    obtain ⟨n1, n2⟩ := List.nodup_cons.mp (show (a.1 :: r.map (·.1)).Nodup from hnd)
    rw [List.map_cons, List.find?_cons]
    by_cases h : a.1 = pr.1
    · rcases List.mem_cons.mp hm with w | w
      · rw [w]
        simp
      · exact absurd (List.mem_map.mpr ⟨pr, w, h.symm⟩) n1
    · rcases List.mem_cons.mp hm with w | w
      · exact absurd (by rw [w]) h
      · have e : decide ((a.1, V.int a.2).1 = pr.1) = false := decide_eq_false h
        rw [e]
        exact find_nd n2 w
/-- [x for x in d if d[x] == z], d a dict of the frame's own with ints -/
theorem ev_lcD (i j l : Nat) {kvs : List (Int × Int)} {m : Int} (hu : X.A.units + 1 < cLine) (hnd : (kvs.map (·.1)).Nodup) (hl : kvs.length ≤ 90000)
    (hG : G[i]? = some (.dc (kvs.map fun p => (p.1, V.int p.2)))) (hZ : G[l]? = some (.v (.int m))) (hij : i ≠ j) (hlj : l ≠ j) (hjl : j < G.length)
    (hn : NmV X i y) (hb : blkC X.N X.env.scope scope [(x, j)] = true := by kernel_rfl)
    (hny : ∀ (s : Shared) (H0 : Hp) (C : Addr) (cl : List (Str × Addr)) (fp : List Addr), NmV (X.blk s H0 scope (compEnvC scope cl C X.env) fp) i y) (hnz : ∀ (s : Shared) (H0 : Hp) (C : Addr) (cl : List (Str × Addr)) (fp : List Addr), NmV (X.blk s H0 scope (compEnvC scope cl C X.env) fp) l z)
    (hnx : ∀ (s : Shared) (H0 : Hp) (C : Addr) (cl : List (Str × Addr)) (fp : List Addr), NmV (X.blk s H0 scope (compEnvC scope cl C X.env) fp) j x)
    (hN : X.N.Nodup := by exact nd_by (by kernel_rfl)) (hj : X.N[j]? = some x := by rfl) (hx : BlkT X scope x := by first | exact ⟨Or.inl rfl, Or.inr rfl⟩ | exact ⟨Or.inr rfl, Or.inl rfl⟩) (hc : X.calm = true := by rfl)
    (hfo : ∀ v, foldedSetIterable (.Name y p2) X.env v = pure v := by intro _; rfl) :
    Ev g X G (.ListComp (.Name x p) [⟨.Name x p3, .Name y p2, [.Compare (.Subscript (.Name y p4) (.Name x p5) p6) [.Eq] [.Name z p7] p8], 0⟩] scope pos) (.m (((kvs.filter fun p => decide (p.2 = m)).map (·.1)).map D.int)) := by
  intro F H σ ow ok Q q
  obtain ⟨f1, f2, f3⟩ := ok.ownD hG
  refine we_of (pe_lock (pe_lc (own := [(x, j)]) (g := gName j) (tt := tTest (tOp rEq (tDGet (tVar i) (tVar j)) (tVar l))) (te := tVar j) hc hN (pi_keys (pe_nm hn)) (blkOk_by hb) (pg_blk j hN hj hx)
    (fun s H C cl fp => pts_one (pt_cmpR op_eq (pe_dget (X := X.blk s H scope (compEnvC scope cl C X.env) fp) hu (pe_nm (hny s H C cl fp)) (pe_nm (hnx s H C cl fp)) (fun _ _ => rfl)) (pe_nm (hnz s H C cl fp)) (nomark _))) (fun s H C cl fp => pe_nm (hnx s H C cl fp)) hfo)) ?_
  refine ⟨ow i, _, f3, True.intro, fun od => ?_⟩
  refine ⟨_, f1, ow i, od, rfl, Or.inl ⟨_, upd_same, fun D hD => ?_⟩⟩
  have hDi : ow i ≠ D := fun w => by
    rw [← w, upd_same] at hD
    cases hD
  have hD0 : H D = none := by
    rw [upd_ne (Ne.symm hDi)] at hD
    exact hD
  have hlen : (dkv (kvs.map fun p => (p.1, V.int p.2))).length = kvs.length := by
    unfold dkv
    rw [List.length_map, List.length_map]
  have hkey : ∀ n : Nat, (dkv (kvs.map fun p => (p.1, V.int p.2)))[n]? = (kvs[n]?).map fun p => ((Sum.inl p.1 : Key), V.int p.2) := fun n => by
    unfold dkv
    rw [List.getElem?_map, List.getElem?_map, Option.map_map] <;> rfl
  obtain ⟨oz, z1, vz, z2, z3⟩ := ok.at_ l _ hZ
  have z4 := of_int z3
  refine lc_it (walk_keys (d := ow i) (o := od) (kvs := dkv (kvs.map fun p => (p.1, V.int p.2)))) (fun n H' => H' = upd (upd H (ow i) (.frz od (.dK (dkv (kvs.map fun p => (p.1, V.int p.2)))))) D (.lst ((((kvs.take n).filter fun p => decide (p.2 = m)).map (·.1)).map V.int))) rfl (fun n H' _ e => by rw [e, upd_ne hDi, upd_same]) (fun n v H' H3 hn e y0 => ?_) (fun H' e => ?_)
  · obtain ⟨e3, kk, vv, k1, k2⟩ := y0
    subst e3
    rw [hkey n] at k1
    obtain ⟨pr, hp⟩ : ∃ pr, kvs[n]? = some pr := by
      cases w : kvs[n]? with
      | none =>
        rw [w] at k1
        cases k1
      | some pr => exact ⟨pr, rfl⟩
    rw [hp] at k1
    have k3 := Option.some.inj k1
    have k4 : (Sum.inl pr.1 : Key) = kk := congrArg Prod.fst k3
    subst k4
    have k5 : v = V.int pr.1 := k2
    have hjs : j < σ.length := by rw [ok.len]; exact hjl
    have ew : ((wipe σ [j]).set j (some v)) = σ.set j (some v) := by
      show (σ.set j none).set j (some v) = _
      rw [List.set_set]
    have hHi : H3 (ow i) = some (.frz od (.dK (dkv (kvs.map fun p => (p.1, V.int p.2))))) := by
      rw [e, upd_ne hDi, upd_same]
    refine ⟨?_, ?_⟩
    · show ((wipe σ [j]).set j (some v)).set j none = (σ.set j none)
      rw [ew, List.set_set]
    · show tTest _ ((wipe σ [j]).set j (some v)) _ _
      rw [ew]
      have hval := find_nd hnd (List.mem_of_getElem? hp)
      refine ⟨V.ref (ow i), ?_, V.int pr.1, ?_, ow i, V.int pr.2, rfl, Or.inl ⟨_, Sum.inl pr.1, Or.inr ⟨od, hHi⟩, rfl, ?_⟩, V.int m, ?_, rfl, decide (pr.2 = m), ?_, ?_⟩
      · rw [List.getElem?_set_ne (Ne.symm hij)]
        exact f1
      · rw [List.getElem?_set_self hjs, k5]
      · rw [val_dkv, hval]
      · rw [List.getElem?_set_ne (Ne.symm hlj), z1, z2, z4]
      · congr 1
        by_cases h : pr.2 = m
        · rw [decide_eq_true h, h, decide_eq_true rfl]
        · rw [decide_eq_false h, decide_eq_false fun w => h (by injection w)]
      · have hs := filt_snoc (q := fun p : Int × Int => decide (p.2 = m)) hp
        by_cases h : pr.2 = m
        · rw [decide_eq_true h]
          refine iteT ⟨v, List.getElem?_set_self (by rw [show (wipe σ (List.map (fun x => x.snd) [(x, j)])) = σ.set j none from rfl, List.length_set]; exact hjs), _, (by rw [e]; exact upd_same), ?_, ?_⟩
          · rw [List.length_map, List.length_map]
            refine Nat.lt_of_le_of_lt (Nat.le_trans (List.length_filter_le _ _) (Nat.le_trans (by rw [List.length_take]; exact Nat.min_le_right _ _) hl)) (by decide)
          · rw [e, upd_upd, hs, if_pos (by exact decide_eq_true h), List.map_append, List.map_append, k5] <;> rfl
        · rw [decide_eq_false h]
          refine iteF ?_
          rw [e, hs, if_neg (by rw [decide_eq_false h]; decide), List.append_nil]
  · rw [hlen, List.take_length] at e
    subst e
    refine ⟨by rw [upd_ne hDi, upd_same], ?_⟩
    have e5 : upd (upd (upd H (ow i) (.frz od (.dK (dkv (kvs.map fun p => (p.1, V.int p.2)))))) D (.lst ((((kvs.filter fun p => decide (p.2 = m)).map (·.1)).map V.int)))) (ow i) (.dK (dkv (kvs.map fun p => (p.1, V.int p.2)))) = upd H D (.lst ((((kvs.filter fun p => decide (p.2 = m)).map (·.1)).map V.int))) := by
      funext b
      by_cases hb : b = ow i
      · subst hb
        rw [upd_same, upd_ne hDi, f3]
      · rw [upd_ne hb]
        by_cases hb2 : b = D
        · subst hb2
          rw [upd_same, upd_same]
        · rw [upd_ne hb2, upd_ne hb2, upd_ne hb]
    rw [e5]
    exact rt_new ok.fit (repL_ints _) q hD0
end
end CH

/-! Choosehall: a loop over a list of the frame's own; a House made of such. -/
namespace CH
open PySem L2
section
variable {g : Gb} {X : Cx} {G : List Sl} {F H : Hp} {σ : St} {ow : Nat → Addr} {e o : Expr} {es : List Expr} {pos p p2 : Pos} {x y : Str} {body : List Stmt} {k : KE}
theorem s_forOwn (i j : Nat) {ds : List D} (I : Addr → Nat → List Sl → Prop) (h0 : ∀ a, I a 0 (G.set i (.v (.adr a)))) (hij : i ≠ j)
    (hs : ∀ a n d G', ds[n]? = some d → I a n G' → G'[i]? = some (.v (.adr a)) → Ss g X (G'.set j (.v d)) body { nx := fun G2 => I a (n + 1) G2 ∧ G2[i]? = some (.v (.adr a)), ct := fun G2 => I a (n + 1) G2 ∧ G2[i]? = some (.v (.adr a)), bk := fun G2 => G2[i]? = some (.v (.adr a)) ∧ k.nx (G2.set i (.m ds)), rt := k.rt })
    (hd : ∀ a G', I a ds.length G' → G'[i]? = some (.v (.adr a)) → k.nx (G'.set i (.m ds))) (hG : G[i]? = some (.m ds) := by rfl)
    (hn : NmV X i y := by first | exact ⟨rfl, Or.inl rfl, rfl, rfl⟩ | exact ⟨rfl, Or.inr (Or.inl rfl), rfl, rfl⟩)
    (hN : X.N.Nodup := by exact nd_by (by kernel_rfl)) (hj : X.N[j]? = some x := by rfl) (hx : Loc X.env.scope x := by first | exact Or.inl rfl | exact Or.inr rfl) (hc : X.calm = true := by rfl)
    (hf : X.fn x = true ∨ X.env.scope.names.lookup x = some .local := by first | exact .inl rfl | exact .inr rfl) (hp : PassesOwn (model X.prog X.w) X.A X.env X.xe := by exact PassesOwn.never)
    (hfo : ∀ x, foldedSetIterable (.Name y p2) X.env x = pure x := by intro _; rfl) : S1 g X G (.For (.Name x p) (.Name y p2) body [] pos) k := fun B F H σ ow ok bk F1 s1 => by
  obtain ⟨o1, fn, xs, hx1, hr1⟩ := ok.own hG
  have fra : Fresh B.2 (ow i) := bk.fresh i _ hG rfl
  have back : LamX.ExtN B.2 (upd B.2 (ow i) (.lst xs)) := fun b u e n => by
    rw [upd_ne fun z => fra u (by rw [← z]; exact e) n]
    exact e
  have frz : ∀ {l : Addr}, Fresh (upd B.2 (ow i) (.lst xs)) l → l ≠ ow i ∧ Fresh B.2 l := fun {l} f => ⟨fun z => f (.lst xs) (by rw [z]; exact upd_same) nt_lst, f.back back⟩
  have nB : B.1 (ow i) = none := by
    cases q : B.1 (ow i) with
    | none => rfl
    | some u =>
      have := bk.up.sub _ _ q
      rw [fn] at this
      cases this
  have upF : ∀ {F' H' : Hp}, Up g B.1 (upd B.2 (ow i) (.lst xs)) F' H' → Up g B.1 B.2 F' H' := fun {F' H'} u => by
    refine ⟨fun b o e n => u.ext b o (back b o e n) n, u.sub, fun b o e n f => u.grow b o (back b o e n) n f, u.fit⟩
  have bk0 : Bk g (B.1, upd B.2 (ow i) (.lst xs)) (G.set i (.v (.adr (ow i)))) F H (fun j => if j = i then 0 else ow j) := by
    refine ⟨⟨fun b o e n => ?_, bk.up.sub, fun b o e n f => ?_, bk.up.fit⟩, fun j' t e w => ?_⟩
    · have e' : (upd B.2 (ow i) (.lst xs)) b = some o := e
      by_cases hb : b = ow i
      · rw [hb, upd_same] at e'
        cases e'
        rw [hb]
        exact hx1
      · rw [upd_ne hb] at e'
        exact bk.up.ext b o e' n
    · have e' : (upd B.2 (ow i) (.lst xs)) b = some o := e
      by_cases hb : b = ow i
      · rw [hb]
        exact fn
      · rw [upd_ne hb] at e'
        exact bk.up.grow b o e' n f
    · rcases get_set e with ⟨rfl, rfl⟩ | ⟨n, e1⟩
      · cases w
      · show Fresh (upd B.2 (ow i) (.lst xs)) (if j' = i then 0 else ow j')
        rw [if_neg n]
        have f1 := bk.fresh j' t e1 w
        intro o eo
        have ne : ow j' ≠ ow i := fun z => n (ok.inj j' i _ _ e1 hG w rfl z)
        rw [upd_ne ne] at eo
        exact f1 o eo
  have ok0 : Ok g (G.set i (.v (.adr (ow i)))) F H σ (fun j => if j = i then 0 else ow j) := by
    have z := ok.set (i := i) (a := 0) (s := .v (.adr (ow i))) (o := some (.ref (ow i))) ⟨_, rfl, .adr _⟩ (fun w => by cases w)
    have es : σ.set i (some (.ref (ow i))) = σ := by
      refine List.ext_getElem? fun n => ?_
      by_cases hn : n = i
      · subst hn
        rw [o1, List.getElem?_set_self (List.getElem?_eq_some_iff.mp o1).1]
      · rw [List.getElem?_set_ne (Ne.symm hn)]
    rw [es] at z
    exact z
  -- owned again
  have reown : ∀ {G' : List Sl} {F' H' : Hp} {σ' : St} {ow' : Nat → Addr} {K : List Sl → Prop}, G'[i]? = some (.v (.adr (ow i))) → K (G'.set i (.m ds)) → Ok g G' F' H' σ' ow' → Bk g (B.1, upd B.2 (ow i) (.lst xs)) G' F' H' ow' → Sub F F' → nxP g B F1 K σ' H' := fun {G' F' H' σ' ow' K} e hk ok' bk' sf => by
    obtain ⟨ov, q1, v, q2, q3⟩ := ok'.at_ i _ e
    cases q3
    subst q2
    have hH : H' (ow i) = some (.lst xs) := bk'.up.ext _ _ upd_same nt_lst
    have hF : F' (ow i) = none := bk'.up.grow _ _ upd_same nt_lst nB
    have z := ok'.set (i := i) (a := ow i) (s := .m ds) (o := some (.ref (ow i))) ⟨rfl, hF, xs, hH, RepL.mono sf _ _ hr1⟩ (fun _ j' t n e1 w z => (frz (bk'.fresh j' t e1 w)).1 z)
    have es : σ'.set i (some (.ref (ow i))) = σ' := by
      refine List.ext_getElem? fun n => ?_
      by_cases hn : n = i
      · subst hn
        rw [q1, List.getElem?_set_self (List.getElem?_eq_some_iff.mp q1).1]
      · rw [List.getElem?_set_ne (Ne.symm hn)]
    rw [es] at z
    refine ⟨_, F', _, hk, z, ⟨upF bk'.up, fun j' t e1 w => ?_⟩, s1.trans sf⟩
    rcases get_set e1 with ⟨rfl, rfl⟩ | ⟨n, e2⟩
    · show Fresh B.2 (if j' = j' then _ else _)
      rw [if_pos rfl]
      exact fra
    · show Fresh B.2 (if j' = i then _ else _)
      rw [if_neg n]
      exact (frz (bk'.fresh j' t e2 w)).2
  have hsq : ∀ {H' : Hp}, H' (ow i) = some (.lst xs) → SqL X.K H' (ow i) xs := fun h => SqL.of h
  refine ws_of (ps_for hp hc (pi_list (pe_nm hn)) (pg_name hN hj hx hf) pss_wss hfo) ?_
  refine ⟨_, o1, ow i, rfl, ⟨xs, SqL.of hx1⟩, ?_⟩
  refine ⟨fun n m σ' H' => m = ds.length - n ∧ n ≤ ds.length ∧ nxP g (B.1, upd B.2 (ow i) (.lst xs)) F (fun G' => I (ow i) n G' ∧ G'[i]? = some (.v (.adr (ow i)))) σ' H', ⟨_, rfl, Nat.zero_le _, _, F, _, ⟨h0 (ow i), by rw [List.getElem?_set_self (List.getElem?_eq_some_iff.mp hG).1]⟩, ok0, bk0, Sub.refl F⟩, ?_⟩
  rintro n m σ' H' ⟨rfl, hle, G', F', ow', hI, ok', bk', s'⟩
  have hH : H' (ow i) = some (.lst xs) := bk'.up.ext _ _ upd_same nt_lst
  by_cases hlt : n < ds.length
  · have hlt' : n < xs.length := by rw [hr1.len]; exact hlt
    refine Or.inr ⟨⟨xs, xs[n], hsq hH, by simp [hlt']⟩, nxP g (B.1, upd B.2 (ow i) (.lst xs)) F (fun G' => I (ow i) (n + 1) G' ∧ G'[i]? = some (.v (.adr (ow i)))), fun σ3 H3 q => ⟨ds.length - (n + 1), by omega, rfl, hlt, q⟩, fun v H3 yy => ?_⟩
    obtain ⟨y1, y2⟩ := yy
    subst y1
    obtain ⟨d, d1, d2⟩ := hr1.get (y2 xs (hsq hH))
    have ok2 := ok'.set (i := j) (a := 0) (s := .v d) (o := some v) ⟨v, rfl, Rep.mono s' _ _ d2⟩ (fun z => by cases z)
    have bk2 := bk'.set (i := j) (a := 0) (s := .v d) (fun z => by cases z)
    have q0 := hs (ow i) n d G' d1 hI.1 hI.2 (B.1, upd B.2 (ow i) (.lst xs)) F' H3 _ _ ok2 bk2 F s'
    refine WSs.imp q0 (fun _ _ q => q) (fun v H4 q => ?_) (fun σ4 H4 q => ?_) (fun _ _ q => q)
    · obtain ⟨r, F4, q1, q2, q3⟩ := q
      exact ⟨r, F4, q1, upF q2, q3.back back⟩
    · obtain ⟨G4, F4, ow4, q1, q2, q3, q4⟩ := q
      exact reown q1.1 q1.2 q2 q3 q4
  · have e : n = ds.length := by omega
    subst e
    refine Or.inl ⟨⟨xs, hsq hH, by rw [hr1.len]; exact Nat.le_refl _⟩, ?_⟩
    exact reown hI.2 (hd (ow i) G' hI.1 hI.2) ok' bk' s'

theorem Ss.to {J : List Sl → Prop} {sts : List Stmt} (h : Ss g X G sts { k with nx := J }) (hj : ∀ G', J G' → k.nx G') : Ss g X G sts k := fun B F H σ ow ok bk F1 s1 =>
  WSs.imp (h B F H σ ow ok bk F1 s1) (fun _ _ ⟨G', F', ow', a, b⟩ => ⟨G', F', ow', hj G' a, b⟩) (fun _ _ q => q) (fun _ _ q => q) (fun _ _ q => q)
/-- if, its two ways joined -/
theorem s_ifJ {b : Bool} {c : Expr} {body els : List Stmt} (J : List Sl → Prop) (h : EvT g X G c b) (h1 : b = true → Ss g X G body { k with nx := J }) (h2 : b = false → Ss g X G els { k with nx := J }) (hj : ∀ G', J G' → k.nx G') : S1 g X G (.If c body els pos) k :=
  s_if h (fun hb => (h1 hb).to hj) (fun hb => (h2 hb).to hj)
/-- House(..), some of the arguments lists of the frame's own -/
theorem ev_makeB {h : Hs} {k : Nat} (hK : X.K = g.K) (C : HCal X.prog X.w g X.mg X.base k) (hr : Room (k + 1) X.A) (ha : EvA g X (bor G) (e :: es) (hsArgs h)) (hg : Gl X "House" := by rfl)
    (he : starEach (e :: es) X.env = (false, eval e X.env) :: starEach es X.env := by rfl) (hpl : (backTo pos (starEach es X.env)).any (·.1) = false := by rfl) : EvD g X G (.Call (.Name "House" p) (e :: es) [] pos) (.hs h) := by
  obtain ⟨f, fd, ps, F0, M, hb, hm⟩ := C
  intro F H σ ow ok Q q
  refine we_of (pe_make (X := X) (C := g.C) (by rw [hK]; exact M) (by rw [hK]; exact F0) hr hg hm (by rw [hK]; exact hb) .nil pass0 pa_wa (by decide) he hpl) ?_
  refine ha _ H σ ow (lend_ok ok) _ fun vs F1 H1 u r => ?_
  intro x dx hx hdx hne
  rw [List.append_nil]
  have r' : RepL g F1 [.int h.seats, .int h.kept, .int h.kind, .bl h.opened, .lst (h.pts.map D.oi), .lst (h.kinds.map D.int), .lst (h.row.map D.int)] vs := r
  obtain ⟨v1, w1, rfl, a1, r1⟩ := repL_inv r'
  obtain ⟨v2, w2, rfl, a2, r2⟩ := repL_inv r1
  obtain ⟨v3, w3, rfl, a3, r3⟩ := repL_inv r2
  obtain ⟨v4, w4, rfl, a4, r4⟩ := repL_inv r3
  obtain ⟨v5, w5, rfl, a5, r5⟩ := repL_inv r4
  obtain ⟨v6, w6, rfl, a6, r6⟩ := repL_inv r5
  obtain ⟨v7, w7, rfl, a7, r7⟩ := repL_inv r6
  have e7 := repL_inv0 r7
  subst e7
  obtain ⟨q5, x5, rfl, f5, s5⟩ := of_lst a5
  obtain ⟨q6, x6, rfl, f6, s6⟩ := of_lst a6
  obtain ⟨q7, x7, rfl, f7, s7⟩ := of_lst a7
  rw [of_int a1, of_int a2, of_int a3, of_bl a4]
  rw [ois_of s5] at f5
  rw [ints_of s6] at f6
  rw [ints_of s7] at f7
  have hold : ∀ z o, H1 z = some o → (upd (upd H1 dx (.own x)) x (.ins g.C dx [])) z = some o := fun z o e => by
    rw [upd_ne (ne_of_none e hx), upd_ne (ne_of_none e hdx)]
    exact e
  refine ⟨x, dx, h, q5, q6, q7, F1, rfl, upd_same, f5, f6, f7, ⟨fun z o e => hold z o (u.fit.low z o e), u.fit.nt, u.fit.tab.ext fun z o e => hold z o e⟩, u.fit.low.free hx, fun F2 H2 k1 k2 k3 k4 k5 => ⟨rfl, ?_⟩⟩
  have up2 : Up g (lendF G ow F H) H F2 H2 := u.trans ⟨fun z o e _ => k1 z o (hold z o e) (ne_of_none e hx), k2, fun z o e n f => k4 z o (hold z o e) (ne_of_none e hx) f, k3⟩
  obtain ⟨up3, _⟩ := lend_up ok up2
  refine q _ _ H2 up3 (.hs (k5.mono fun b o e => ?_))
  have k6 := newHs_sub b o e
  unfold backF
  rw [if_neg fun z => ?_]
  · exact k6
  · obtain ⟨_, ys, hz⟩ := lent_at ok z
    have hz1 : H1 b = some (.lst ys) := u.ext b _ hz nt_lst
    have e2 : (if (upd (upd H1 dx (.own x)) x (.ins g.C dx [])) b = none ∨ b = x then F2 b else none) = some o := e
    rw [if_neg fun w => ?_] at e2
    · cases e2
    · rcases w with w | w
      · rw [hold b _ hz1] at w
        cases w
      · rw [w, hx] at hz1
        cases hz1
end
end CH

/-! Choosehall: the world drawn from a script, as plain data. -/
namespace CH
open PySem L2

def cellAt (s : List Int) (k : Int) : Int := s.getD k.toNat 0
structure RowSt where
  c : Int
  l : List Int
  r : List Int
def rowStep (many : Int) (k : Nat) (x : RowSt) : RowSt :=
  let n := (x.c % (x.l.length : Int)).toNat
  ⟨x.c / max 2 (many - (k : Int)), x.l.eraseIdx n, x.r ++ [x.l.getD n 0]⟩
def rowSt (cell many : Int) : Nat → RowSt
  | 0 => ⟨cell, rg 0 many, []⟩
  | k + 1 => rowStep many k (rowSt cell many k)
def rowBy (cell many : Int) : List Int := (rowSt cell many many.toNat).r
theorem rg_length (a b : Int) : (rg a b).length = (b - a).toNat := rg_len a b
theorem rowSt_len (cell many : Int) : ∀ k : Nat, k ≤ many.toNat → (rowSt cell many k).l.length = many.toNat - k ∧ (rowSt cell many k).r.length = k
  | 0, _ => ⟨by show (rg 0 many).length = _; rw [rg_len]; omega, rfl⟩
  | k + 1, h => by
    obtain ⟨h1, h2⟩ := rowSt_len cell many k (by omega)
    have h3 : 0 ≤ (rowSt cell many k).c % ((rowSt cell many k).l.length : Int) ∧ (rowSt cell many k).c % ((rowSt cell many k).l.length : Int) < ((rowSt cell many k).l.length : Int) := ⟨Int.emod_nonneg _ (by omega), Int.emod_lt_of_pos _ (by omega)⟩
    refine ⟨?_, ?_⟩
    · show ((rowSt cell many k).l.eraseIdx ((rowSt cell many k).c % ((rowSt cell many k).l.length : Int)).toNat).length = _
      rw [List.length_eraseIdx, if_pos (by omega), h1]
      omega
    · show ((rowSt cell many k).r ++ [_]).length = _
      rw [List.length_append, h2] <;> rfl
theorem perm_erase : ∀ {l : List Int} {n : Nat}, n < l.length → (l.getD n 0 :: l.eraseIdx n).Perm l
  | [], _, h => absurd h (Nat.not_lt_zero _)
  | a :: l, 0, _ => .refl _
  | a :: l, n + 1, h => (List.Perm.swap a (l.getD n 0) (l.eraseIdx n)).trans (List.Perm.cons a (perm_erase (Nat.lt_of_succ_lt_succ h)))
theorem rowSt_perm (cell many : Int) : ∀ k : Nat, k ≤ many.toNat → ((rowSt cell many k).r ++ (rowSt cell many k).l).Perm (rg 0 many)
  | 0, _ => .refl _
  | k + 1, h => by
    obtain ⟨h1, h2⟩ := rowSt_len cell many k (by omega)
    have h3 : 0 ≤ (rowSt cell many k).c % ((rowSt cell many k).l.length : Int) ∧ (rowSt cell many k).c % ((rowSt cell many k).l.length : Int) < ((rowSt cell many k).l.length : Int) := ⟨Int.emod_nonneg _ (by omega), Int.emod_lt_of_pos _ (by omega)⟩
    refine List.Perm.trans ?_ (rowSt_perm cell many k (by omega))
    show (((rowSt cell many k).r ++ [(rowSt cell many k).l.getD _ 0]) ++ (rowSt cell many k).l.eraseIdx _).Perm _
    rw [List.append_assoc]
    exact List.Perm.append_left _ (perm_erase (by omega))
theorem rowBy_perm (cell many : Int) : (rowBy cell many).Perm (rg 0 many) := by
  have h := rowSt_perm cell many many.toNat (Nat.le_refl _)
  obtain ⟨h1, _⟩ := rowSt_len cell many many.toNat (Nat.le_refl _)
  rw [Nat.sub_self] at h1
  rw [List.eq_nil_of_length_eq_zero h1, List.append_nil] at h
  exact h
theorem rowBy_len (cell many : Int) : (rowBy cell many).length = many.toNat := (rowSt_len cell many many.toNat (Nat.le_refl _)).2
theorem mem_rg {a b x : Int} : x ∈ rg a b ↔ a ≤ x ∧ x < b := by
  unfold rg
  rw [List.mem_map]
  constructor
  · rintro ⟨i, hi, rfl⟩
    have := List.mem_range.mp hi
    omega
  · rintro ⟨h1, h2⟩
    exact ⟨(x - a).toNat, List.mem_range.mpr (by omega), by omega⟩
theorem rg_nodup (a b : Int) : (rg a b).Nodup := by
  unfold rg
  exact List.Pairwise.map _ (fun x y h e => h (by omega)) List.nodup_range
theorem rowBy_mem {cell many x : Int} : x ∈ rowBy cell many ↔ 0 ≤ x ∧ x < many := by rw [(rowBy_perm cell many).mem_iff, mem_rg]
theorem rowBy_nodup (cell many : Int) : (rowBy cell many).Nodup := (rowBy_perm cell many).nodup_iff.mpr (rg_nodup _ _)

def b2i (b : Bool) : Int := if b = true then 1 else 0
def wishesBy (cell houses : Int) : List Int := (rowBy (cell / 16) houses).take (houses - cell % (houses + 1) * b2i (decide (cell / 8 % 2 = 1))).toNat
def pointsBy (cell k : Int) : Option Int :=
  let some_ := (cell / (1 + k * k) + 7919 * k) * (k + 3) * 48271 % 1000003
  let some2 := if cell % 3 = 0 then some_ % 3 else some_
  if (cell / 3 * (k + 2) + 5 * k) % 11 < 2 then none else some (some2 % 1000001)
def kindBy (cell : Int) : Int := cell % 2 + 2 * b2i (decide (cell / 4 % 5 = 1))
def wMany (s : List Int) (top : Int) : Int := 1 + cellAt s 0 % top
def wHouses (s : List Int) : Int := 1 + cellAt s 0 / 5 % 3
def wWish (s : List Int) (top : Int) : List (List Int) := (rg 0 (wMany s top)).map fun k => wishesBy (cellAt s (1 + k)) (wHouses s)
def wKinds (s : List Int) (top : Int) : List Int := (rg 0 (wMany s top)).map fun k => kindBy (cellAt s (6 + k))
def wHs (s : List Int) (top h : Int) : Hs :=
  let cell := cellAt s (11 + 3 * h)
  { seats := cell % 4, kept := cell / 4 % (cell % 4 + 1), kind := kindBy (cell / 16), opened := decide (cell / 32 % 2 = 0), pts := (rg 0 (wMany s top)).map (pointsBy (cellAt s (12 + 3 * h))), kinds := wKinds s top, row := rowBy (cellAt s (13 + 3 * h)) (wMany s top) }
def wRows (s : List Int) (top : Int) : List Hs := (rg 0 (wHouses s)).map (wHs s top)
def rowD (h : Hs) : D := .tup (hsArgs h)
def intsD (l : List Int) : D := .lst (l.map D.int)

/-! ### the house's choosing, as plain data -/
def ptAt (h : Hs) (k : Int) : Option Int := h.pts.getD k.toNat none
def kindAt (h : Hs) (k : Int) : Int := h.kinds.getD k.toNat 0
def ableB (h : Hs) (cs : List Int) (k : Int) : Bool := decide (k ∈ cs) && (ptAt h k).isSome
def rankedM (h : Hs) (cs : List Int) : List Int := (h.row.filter (ableB h cs)).mergeSort (byKey h)
/-- the walk through the ranked ones: inside, others -/
def chStep (h : Hs) (x : List Int × List Int) (k : Int) : List Int × List Int :=
  if kindAt h k = h.kind ∧ (x.1.length : Int) < h.kept then (x.1 ++ [k], x.2) else (x.1, x.2 ++ [k])
def chFree (h : Hs) (n : Nat) : Int := if h.opened = true then h.seats - (n : Int) else h.seats - h.kept
def leB (a b : Int) : Bool := decide (a ≤ b)
def chosenM (h : Hs) (cs : List Int) : List Int :=
  let x := (rankedM h cs).foldl (chStep h) ([], [])
  (x.1 ++ x.2.take (chFree h x.1.length).toNat).mergeSort leB
/-- a house of sound form: comers 0 .. n-1 -/
structure HsOk (h : Hs) (n : Nat) : Prop where
  pts : h.pts.length = n
  kinds : h.kinds.length = n
  row : h.row.Perm (rg 0 n)
  small : n ≤ 24
  kept0 : 0 ≤ h.kept
  kept : h.kept ≤ h.seats
theorem HsOk.mem {h : Hs} {n : Nat} (o : HsOk h n) {k : Int} : k ∈ h.row ↔ 0 ≤ k ∧ k < n := by rw [o.row.mem_iff, mem_rg]
theorem HsOk.nodup {h : Hs} {n : Nat} (o : HsOk h n) : h.row.Nodup := o.row.nodup_iff.mpr (rg_nodup _ _)
theorem HsOk.len {h : Hs} {n : Nat} (o : HsOk h n) : h.row.length = n := by rw [o.row.length_eq, rg_len]; omega
theorem wMany_pos (s : List Int) {top : Int} (h : 0 < top) : 1 ≤ wMany s top ∧ wMany s top ≤ top := by
  have h1 : 0 ≤ cellAt s 0 % top ∧ cellAt s 0 % top < top := ⟨Int.emod_nonneg _ (by omega), Int.emod_lt_of_pos _ h⟩
  unfold wMany
  omega
theorem wHouses_pos (s : List Int) : 1 ≤ wHouses s ∧ wHouses s ≤ 3 := by
  unfold wHouses
  omega
theorem wHs_ok (s : List Int) (top h : Int) (h0 : 0 < top) (h1 : top ≤ 24) : HsOk (wHs s top h) (wMany s top).toNat := by
  obtain ⟨h2, h3⟩ := wMany_pos s h0
  have h4 : 0 ≤ cellAt s (11 + 3 * h) % 4 ∧ cellAt s (11 + 3 * h) % 4 < 4 := ⟨Int.emod_nonneg _ (by omega), Int.emod_lt_of_pos _ (by omega)⟩
  have h5 : 0 ≤ cellAt s (11 + 3 * h) / 4 % (cellAt s (11 + 3 * h) % 4 + 1) ∧ cellAt s (11 + 3 * h) / 4 % (cellAt s (11 + 3 * h) % 4 + 1) < cellAt s (11 + 3 * h) % 4 + 1 := ⟨Int.emod_nonneg _ (by omega), Int.emod_lt_of_pos _ (by omega)⟩
  refine ⟨?_, ?_, ?_, by omega, h5.1, by show cellAt s (11 + 3 * h) / 4 % (cellAt s (11 + 3 * h) % 4 + 1) ≤ cellAt s (11 + 3 * h) % 4; omega⟩
  · show ((rg 0 (wMany s top)).map _).length = _
    rw [List.length_map, rg_len]
    omega
  · show ((rg 0 (wMany s top)).map _).length = _
    rw [List.length_map, rg_len]
    omega
  · have e : ((wMany s top).toNat : Int) = wMany s top := by omega
    rw [e]
    exact rowBy_perm _ _
theorem ptOf_at (h : Hs) (k : Int) : ptOf h k = (ptAt h k).getD 0 := rfl
theorem take_cut {l : List D} {n : Int} (h : 0 ≤ n) : cutD l none (some n) = l.take n.toNat := by
  obtain ⟨m, rfl⟩ := Int.eq_ofNat_of_zero_le h
  unfold cutD
  rw [HT.sIx_none, show (HT.sIx l.length l.length (some ((m : Nat) : Int))) = min m l.length from HT.sIx_nat _ _ m, List.drop_zero, Nat.sub_zero, Int.toNat_natCast]
  rw [← List.take_eq_take_min]
theorem at_nat {l : List D} {k : Int} {d : D} (h0 : 0 ≤ k) (h : l[k.toNat]? = some d) : (D.lst l).at_ k = some d := by
  show atI l k = some d
  unfold atI
  have h2 := (List.getElem?_eq_some_iff.mp h).1
  have e : ixN l.length k = some k.toNat := by
    unfold ixN
    rw [if_pos h0, if_pos (by omega)]
  rw [e]
  exact h
end CH

namespace CH
open PySem L2
def top (i : Nat) : Stmt := PySem.Challenge.pw_choosehall_k13_whole_more_seats.main.body.getD i (.Pass ⟨0, 0, 0, 0⟩)
def inC (st : Stmt) (i : Nat) : Stmt := match st with
  | .ClassDef _ _ _ b _ _ _ _ _ _ _ => b.getD i (.Pass ⟨0, 0, 0, 0⟩)
  | _ => .Pass ⟨0, 0, 0, 0⟩
abbrev s_held : Stmt := top 1
abbrev s_rather : Stmt := top 2
abbrev s_both_rather : Stmt := top 3
abbrev s_waiting : Stmt := top 5
abbrev s_moved : Stmt := top 7
abbrev s_gone : Stmt := top 8
abbrev s_more : Stmt := top 9
abbrev s_asked : Stmt := top 11
abbrev s_granted : Stmt := top 12
abbrev s_House___init__ : Stmt := inC (top 14) 0
abbrev s_House_ranked : Stmt := inC (top 14) 1
abbrev s_House_chosen : Stmt := inC (top 14) 2
abbrev s_House_with_more : Stmt := inC (top 14) 3
abbrev s__law_cell_at : Stmt := top 16
abbrev s__law_whole : Stmt := top 17
abbrev s__law_row_by : Stmt := top 18
abbrev s__law_wishes_by : Stmt := top 19
abbrev s__law_points_by : Stmt := top 20
abbrev s__law_kind_by : Stmt := top 21
abbrev s__law_world : Stmt := top 22
abbrev s__law_houses : Stmt := top 23
abbrev s__law_ranked : Stmt := top 24
abbrev s__law_chosen : Stmt := top 25
abbrev s__law_held : Stmt := top 26
abbrev s__law_rather : Stmt := top 27
abbrev s__law_pairs : Stmt := top 28
abbrev s__law_fair : Stmt := top 29
abbrev s__law_places_alike : Stmt := top 30
abbrev s__law_walked : Stmt := top 31
abbrev s__law_year : Stmt := top 32
abbrev s__law_none_worse : Stmt := top 33
abbrev s_law : Stmt := top 34
end CH

/-! Choosehall: data held against data. -/
namespace CH
open PySem L2
def D.cm (k : Nat) (d : D) : Prop := d.pl = true ∧ PyData.canLay0 (toPy d) = true ∧ PyData.depth (toPy d) ≤ k
theorem cmL {k : Nat} : ∀ {ds : List D}, (∀ d ∈ ds, d.cm k) → plL ds = true ∧ PyData.canLayAll0 (toPyL ds) = true ∧ PyData.depthAll (toPyL ds) ≤ k
  | [], _ => ⟨rfl, rfl, Nat.zero_le _⟩
  | d :: ds, h => by
    obtain ⟨a1, a2, a3⟩ := h d List.mem_cons_self
    obtain ⟨b1, b2, b3⟩ := cmL (ds := ds) fun x hx => h x (List.mem_cons_of_mem _ hx)
    refine ⟨?_, ?_, ?_⟩
    · show (d.pl && plL ds) = true
      rw [a1, b1] <;> rfl
    · show (PyData.canLayAll0 (toPy d :: toPyL ds)) = true
      simp only [PyData.canLayAll0, a2, b2, Bool.and_self]
    · show PyData.depthAll (toPy d :: toPyL ds) ≤ k
      simp only [PyData.depthAll]
      omega
theorem cm_lst {k : Nat} {ds : List D} (h : ∀ d ∈ ds, d.cm k) : (D.lst ds).cm (k + 1) := by
  obtain ⟨b1, b2, b3⟩ := cmL h
  refine ⟨b1, ?_, ?_⟩
  · show PyData.canLay0 (.list (toPyL ds)) = true
    simp only [PyData.canLay0, b2]
  · show PyData.depth (.list (toPyL ds)) ≤ _
    simp only [PyData.depth]
    omega
theorem cm_tup {k : Nat} {ds : List D} (h : ∀ d ∈ ds, d.cm k) : (D.tup ds).cm (k + 1) := by
  obtain ⟨b1, b2, b3⟩ := cmL h
  refine ⟨b1, ?_, ?_⟩
  · show PyData.canLay0 (.tuple (toPyL ds)) = true
    simp only [PyData.canLay0, b2]
  · show PyData.depth (.tuple (toPyL ds)) ≤ _
    simp only [PyData.depth]
    omega
theorem cm_int (i : Int) : (D.int i).cm 1 := ⟨rfl, rfl, Nat.zero_le 1⟩
theorem cm_non : D.non.cm 1 := ⟨rfl, rfl, by decide⟩
theorem cm_bl (b : Bool) : (D.bl b).cm 1 := ⟨rfl, rfl, Nat.zero_le 1⟩
theorem cm_oi (o : Option Int) : (D.oi o).cm 1 := by
  cases o with
  | none => exact cm_non
  | some i => exact cm_int i
theorem D.cm.le {j k : Nat} {d : D} (h : d.cm j) (e : j ≤ k) : d.cm k := ⟨h.1, h.2.1, Nat.le_trans h.2.2 e⟩
theorem D.cm.ok {k : Nat} {d : D} (h : d.cm k) (e : k ≤ 64 := by decide) : d.cmpable := by
  refine ⟨h.1, ?_⟩
  unfold SeqAt.shaped
  rw [h.2.1, decide_eq_true (Nat.le_trans h.2.2 e)] <;> rfl
theorem cm_map {α : Type} {k : Nat} {enc : α → D} {l : List α} (h : ∀ a ∈ l, (enc a).cm k) : (D.lst (l.map enc)).cm (k + 1) := cm_lst fun d hd => by
  obtain ⟨a, ha, rfl⟩ := List.mem_map.mp hd
  exact h a ha
theorem cm_ints (l : List Int) : (intsD l).cm 2 := cm_map fun a _ => cm_int a
theorem cm_ois (l : List (Option Int)) : (D.lst (l.map D.oi)).cm 2 := cm_map fun a _ => cm_oi a
theorem cm_intss (l : List (List Int)) : (D.lst (l.map intsD)).cm 3 := cm_map fun a _ => cm_ints a
/-- lists alike, if their items are -/
theorem eqv_map {α : Type} [DecidableEq α] {enc : α → D} (he : ∀ a b, (enc a).eqv (enc b) = decide (a = b)) : ∀ (l m : List α), (D.lst (l.map enc)).eqv (.lst (m.map enc)) = decide (l = m)
  | [], [] => rfl
  | [], b :: m => rfl
  | a :: l, [] => rfl
  | a :: l, b :: m => by
    have ih := eqv_map he l m
    have e : (D.lst ((a :: l).map enc)).eqv (.lst ((b :: m).map enc)) = ((enc a).eqv (enc b) && (D.lst (l.map enc)).eqv (.lst (m.map enc))) := rfl
    rw [e, ih, he]
    by_cases h : a = b
    · by_cases h2 : l = m
      · rw [decide_eq_true h, decide_eq_true h2, h, h2, decide_eq_true rfl] <;> rfl
      · rw [decide_eq_false h2, Bool.and_false]
        exact (decide_eq_false fun z => h2 (List.cons.inj z).2).symm
    · rw [decide_eq_false h, Bool.false_and]
      exact (decide_eq_false fun z => h (List.cons.inj z).1).symm
theorem eqv_i (i j : Int) : (D.int i).eqv (.int j) = decide (i = j) := rfl
theorem eqv_oi (i j : Option Int) : (D.oi i).eqv (D.oi j) = decide (i = j) := by
  cases i with
  | none => cases j <;> rfl
  | some i =>
    cases j with
    | none => rfl
    | some j =>
      have e : (D.oi (some i)).eqv (D.oi (some j)) = decide (i = j) := rfl
      rw [e]
      exact decide_eq_decide.mpr ⟨fun h => by rw [h], fun h => Option.some.inj h⟩
theorem eqv_ints (l m : List Int) : (intsD l).eqv (intsD m) = decide (l = m) := eqv_map eqv_i l m
theorem eqv_ois (l m : List (Option Int)) : (D.lst (l.map D.oi)).eqv (.lst (m.map D.oi)) = decide (l = m) := eqv_map eqv_oi l m
theorem eqv_intss (l m : List (List Int)) : (D.lst (l.map intsD)).eqv (.lst (m.map intsD)) = decide (l = m) := eqv_map eqv_ints l m
end CH

/-! Choosehall: the mathematics of a house's choosing. -/
namespace CH
open PySem L2
/-! ### pairs that stand in order -/
theorem pair_nd {a b : Int} : ∀ {l : List Int}, l.Nodup → [a, b].Sublist l → [b, a].Sublist l → False
  | [], _, h, _ => by cases h
  | x :: l, nd, h1, h2 => by
    obtain ⟨n1, n2⟩ := List.nodup_cons.mp nd
    cases h1 with
    | cons _ h1 =>
      cases h2 with
      | cons _ h2 => exact pair_nd n2 h1 h2
      | cons_cons _ h2 => exact n1 (h1.subset (by simp))
    | cons_cons _ h1 =>
      cases h2 with
      | cons _ h2 => exact n1 (h2.subset (by simp))
      | cons_cons _ h2 => exact n1 (h1.subset (by simp))
theorem pair_or {a b : Int} (ne : a ≠ b) : ∀ {l : List Int}, a ∈ l → b ∈ l → [a, b].Sublist l ∨ [b, a].Sublist l
  | [], h, _ => by cases h
  | x :: l, h1, h2 => by
    rcases List.mem_cons.mp h1 with e1 | e1
    · rcases List.mem_cons.mp h2 with e2 | e2
      · exact absurd (e1.trans e2.symm) ne
      · subst e1
        exact Or.inl (List.Sublist.cons_cons _ (List.singleton_sublist.mpr e2))
    · rcases List.mem_cons.mp h2 with e2 | e2
      · subst e2
        exact Or.inr (List.Sublist.cons_cons _ (List.singleton_sublist.mpr e1))
      · rcases pair_or ne e1 e2 with z | z
        · exact Or.inl (z.cons _)
        · exact Or.inr (z.cons _)
theorem byKey_trans (h : Hs) (a b c : Int) : byKey h a b = true → byKey h b c = true → byKey h a c = true := by
  unfold byKey
  intro h1 h2
  have := of_decide_eq_true h1
  have := of_decide_eq_true h2
  exact decide_eq_true (by omega)
theorem byKey_total (h : Hs) (a b : Int) : (byKey h a b || byKey h b a) = true := by
  unfold byKey
  rcases Int.le_total (-ptOf h a) (-ptOf h b) with e | e
  · rw [decide_eq_true e, Bool.true_or]
  · rw [decide_eq_true e, Bool.or_true]
/-- a stands ahead of b in the house's rank -/
def bef (h : Hs) (a b : Int) : Prop := byKey h a b = true ∧ (byKey h b a = true → [a, b].Sublist h.row)
theorem bef_anti {h : Hs} (nd : h.row.Nodup) {a b : Int} (h1 : bef h a b) (h2 : bef h b a) : a = b :=
  (pair_nd nd (h1.2 h2.1) (h2.2 h1.1)).elim
theorem ranked_nodup {h : Hs} (nd : h.row.Nodup) (cs : List Int) : (rankedM h cs).Nodup := by
  unfold rankedM
  exact (List.mergeSort_perm _ _).nodup_iff.mpr (nd.filter _)
theorem ranked_bef {h : Hs} (nd : h.row.Nodup) (cs : List Int) : (rankedM h cs).Pairwise (bef h) := by
  rw [List.pairwise_iff_forall_sublist]
  intro a b hab
  have nM := ranked_nodup nd cs
  have pw := List.pairwise_mergeSort (le := byKey h) (byKey_trans h) (byKey_total h) (h.row.filter (ableB h cs))
  have k1 : byKey h a b = true := List.pairwise_iff_forall_sublist.mp pw hab
  refine ⟨k1, fun k2 => ?_⟩
  have ne : a ≠ b := by
    have := nM.sublist hab
    intro e
    rw [e] at this
    exact (List.nodup_cons.mp this).1 (List.mem_singleton.mpr rfl)
  have ma : a ∈ h.row.filter (ableB h cs) := (List.mergeSort_perm _ _).mem_iff.mp (hab.subset (by simp))
  have mb : b ∈ h.row.filter (ableB h cs) := (List.mergeSort_perm _ _).mem_iff.mp (hab.subset (by simp))
  rcases pair_or ne ma mb with z | z
  · exact z.trans List.filter_sublist
  · exact (pair_nd nM hab (List.pair_sublist_mergeSort (byKey_trans h) (byKey_total h) k2 z)).elim
/-- the rank of all that a house can take -/
def rankL (h : Hs) : List Int := rankedM h h.row
theorem mem_rankedM {h : Hs} {cs : List Int} {k : Int} : k ∈ rankedM h cs ↔ k ∈ h.row ∧ k ∈ cs ∧ (ptAt h k).isSome = true := by
  unfold rankedM
  rw [(List.mergeSort_perm _ _).mem_iff, List.mem_filter]
  unfold ableB
  rw [Bool.and_eq_true, decide_eq_true_eq]
/-- a list that ranks is the rank -/
theorem rank_uniq {h : Hs} (nd : h.row.Nodup) {l m : List Int} (nl : l.Nodup) (nm : m.Nodup) (pl : l.Pairwise (bef h)) (pm : m.Pairwise (bef h)) (e : ∀ k, k ∈ l ↔ k ∈ m) : l = m :=
  List.Perm.eq_of_pairwise (fun a b _ _ h1 h2 => bef_anti nd h1 h2) pl pm ((List.perm_ext_iff_of_nodup nl nm).mpr e)
theorem ranked_eq {h : Hs} (nd : h.row.Nodup) (cs : List Int) : rankedM h cs = (rankL h).filter (fun k => decide (k ∈ cs)) := by
  refine rank_uniq nd (ranked_nodup nd cs) ((ranked_nodup nd _).filter _) (ranked_bef nd cs) ((ranked_bef nd h.row).sublist List.filter_sublist) fun k => ?_
  rw [mem_rankedM, List.mem_filter, rankL, mem_rankedM, decide_eq_true_eq]
  exact ⟨fun ⟨a, b, c⟩ => ⟨⟨a, a, c⟩, b⟩, fun ⟨⟨a, _, c⟩, b⟩ => ⟨a, b, c⟩⟩
theorem ranked_sub {h : Hs} (nd : h.row.Nodup) {S T : List Int} (e : ∀ k ∈ S, k ∈ T) : (rankedM h S).Sublist (rankedM h T) := by
  have e1 : rankedM h S = (rankedM h T).filter (fun k => decide (k ∈ S)) := by
    refine rank_uniq nd (ranked_nodup nd S) ((ranked_nodup nd _).filter _) (ranked_bef nd S) ((ranked_bef nd T).sublist List.filter_sublist) fun k => ?_
    rw [mem_rankedM, List.mem_filter, mem_rankedM, decide_eq_true_eq]
    exact ⟨fun ⟨a, b, c⟩ => ⟨⟨a, e k b, c⟩, b⟩, fun ⟨⟨a, _, c⟩, b⟩ => ⟨a, b, c⟩⟩
  rw [e1]
  exact List.filter_sublist
theorem ableB_congr {h : Hs} {S T : List Int} (e : ∀ k, k ∈ S ↔ k ∈ T) : ableB h S = ableB h T := by
  funext k
  unfold ableB
  rw [decide_eq_decide.mpr (e k)]
theorem ranked_congr {h : Hs} {S T : List Int} (e : ∀ k, k ∈ S ↔ k ∈ T) : rankedM h S = rankedM h T := by
  unfold rankedM
  rw [ableB_congr e]

/-! ### kept seats counted down -/
def split (p : Int → Bool) : Nat → List Int → List Int × List Int
  | _, [] => ([], [])
  | c, k :: l => if p k = true ∧ 0 < c then (k :: (split p (c - 1) l).1, (split p (c - 1) l).2) else ((split p c l).1, k :: (split p c l).2)
theorem split_pos {p : Int → Bool} {c : Nat} {k : Int} {l : List Int} (h : p k = true ∧ 0 < c) : split p c (k :: l) = (k :: (split p (c - 1) l).1, (split p (c - 1) l).2) := if_pos h
theorem split_neg {p : Int → Bool} {c : Nat} {k : Int} {l : List Int} (h : ¬ (p k = true ∧ 0 < c)) : split p c (k :: l) = ((split p c l).1, k :: (split p c l).2) := if_neg h
theorem split_mem {p : Int → Bool} {x : Int} : ∀ (l : List Int) (c : Nat), x ∈ l ↔ x ∈ (split p c l).1 ∨ x ∈ (split p c l).2
  | [], c => by
    show x ∈ [] ↔ x ∈ [] ∨ x ∈ []
    simp
  | k :: l, c => by
    by_cases h : p k = true ∧ 0 < c
    · rw [split_pos h, List.mem_cons, List.mem_cons, split_mem l (c - 1), or_assoc]
    · have ih := split_mem (p := p) (x := x) l c
      rw [split_neg h, List.mem_cons, List.mem_cons, ih]
      exact ⟨fun z => by rcases z with z | z | z
                         · exact Or.inr (Or.inl z)
                         · exact Or.inl z
                         · exact Or.inr (Or.inr z), fun z => by rcases z with z | z | z
                                                                · exact Or.inr (Or.inl z)
                                                                · exact Or.inl z
                                                                · exact Or.inr (Or.inr z)⟩
theorem split_perm {p : Int → Bool} : ∀ (l : List Int) (c : Nat), ((split p c l).1 ++ (split p c l).2).Perm l
  | [], c => .refl _
  | k :: l, c => by
    by_cases h : p k = true ∧ 0 < c
    · rw [split_pos h]
      exact (split_perm l (c - 1)).cons k
    · rw [split_neg h]
      exact List.perm_middle.trans ((split_perm l c).cons k)
theorem split_len {p : Int → Bool} : ∀ (l : List Int) (c : Nat), (split p c l).1.length = min c (l.countP p)
  | [], c => by rw [List.countP_nil, Nat.min_zero] <;> rfl
  | k :: l, c => by
    by_cases h : p k = true ∧ 0 < c
    · rw [split_pos h, List.length_cons, split_len l (c - 1), List.countP_cons_of_pos h.1]
      omega
    · rw [split_neg h, split_len l c]
      by_cases hp : p k = true
      · rw [List.countP_cons_of_pos hp]
        have : c = 0 := by
          by_cases z : c = 0
          · exact z
          · exact absurd ⟨hp, by omega⟩ h
        omega
      · rw [List.countP_cons_of_neg hp]
/-- whom the walk picks: those inside, and the first f others -/
def Pick (p : Int → Bool) (c f : Nat) (l : List Int) (k : Int) : Prop := k ∈ (split p c l).1 ∨ k ∈ (split p c l).2.take f
theorem Pick.mem {p : Int → Bool} {c f : Nat} {l : List Int} {k : Int} (h : Pick p c f l k) : k ∈ l := by
  rcases h with h | h
  · exact (split_mem l c).mpr (Or.inl h)
  · exact (split_mem l c).mpr (Or.inr (List.mem_of_mem_take h))
theorem take_cons_mem {f : Nat} {a k : Int} {l : List Int} (h : k ∈ (a :: l).take f) : 0 < f ∧ (k = a ∨ k ∈ l.take (f - 1)) := by
  cases f with
  | zero => cases h
  | succ f =>
    rw [List.take_succ_cons] at h
    exact ⟨Nat.succ_pos f, List.mem_cons.mp h⟩
theorem mem_take_cons {f : Nat} {a k : Int} {l : List Int} (hf : 0 < f) (h : k = a ∨ k ∈ l.take (f - 1)) : k ∈ (a :: l).take f := by
  cases f with
  | zero => exact absurd hf (Nat.lt_irrefl 0)
  | succ f =>
    rw [List.take_succ_cons]
    exact List.mem_cons.mpr h
theorem mem_take_le {f g : Nat} {k : Int} {l : List Int} (hf : f ≤ g) (h : k ∈ l.take f) : k ∈ l.take g := by
  have e : (l.take g).take f = l.take f := by rw [List.take_take, Nat.min_eq_left hf]
  rw [← e] at h
  exact List.mem_of_mem_take h
theorem Pick.le {p : Int → Bool} {c f g : Nat} {l : List Int} {k : Int} (hf : f ≤ g) (h : Pick p c f l k) : Pick p c g l k := by
  rcases h with h | h
  · exact Or.inl h
  · exact Or.inr (mem_take_le hf h)
/-- fewer to choose from: whoever is picked still is -/
theorem pick_sub {p : Int → Bool} {S T : List Int} (hst : S.Sublist T) : T.Nodup → ∀ {c c' f f' : Nat}, c ≤ c' → f ≤ f' → ∀ {k : Int}, k ∈ S → Pick p c f T k → Pick p c' f' S k := by
  induction hst with
  | slnil => intro _ c c' f f' _ _ k hk _; cases hk
  | cons a hst ih =>
    intro nd c c' f f' hc hf k hk h
    obtain ⟨n1, n2⟩ := List.nodup_cons.mp nd
    have ne : k ≠ a := fun e => n1 (by rw [← e]; exact hst.subset hk)
    by_cases hp : p a = true ∧ 0 < c
    · refine ih n2 (c := c - 1) (f := f) (by omega) hf hk ?_
      unfold Pick at h
      rw [split_pos hp] at h
      rcases h with h | h
      · rcases List.mem_cons.mp h with e | e
        · exact absurd e ne
        · exact Or.inl e
      · exact Or.inr h
    · refine ih n2 (c := c) (f := f) hc hf hk ?_
      unfold Pick at h
      rw [split_neg hp] at h
      rcases h with h | h
      · exact Or.inl h
      · obtain ⟨h1, h2⟩ := take_cons_mem h
        rcases h2 with e | e
        · exact absurd e ne
        · exact Or.inr (mem_take_le (Nat.sub_le f 1) e)
  | cons_cons a hst ih =>
    rename_i l1 l2
    intro nd c c' f f' hc hf k hk h
    obtain ⟨n1, n2⟩ := List.nodup_cons.mp nd
    unfold Pick at h
    by_cases hp : p a = true ∧ 0 < c
    · have hp' : p a = true ∧ 0 < c' := ⟨hp.1, by omega⟩
      unfold Pick
      rw [split_pos hp'] 
      rw [split_pos hp] at h
      by_cases ka : k = a
      · exact Or.inl (by rw [ka]; exact List.mem_cons_self)
      · have hk' : k ∈ l1 := (List.mem_cons.mp hk).resolve_left ka
        have h' : Pick p (c - 1) f l2 k := by
          rcases h with h | h
          · exact Or.inl ((List.mem_cons.mp h).resolve_left ka)
          · exact Or.inr h
        rcases ih n2 (c' := c' - 1) (f' := f') (by omega) hf hk' h' with z | z
        · exact Or.inl (List.mem_cons_of_mem _ z)
        · exact Or.inr z
    · rw [split_neg hp] at h
      by_cases hp' : p a = true ∧ 0 < c'
      · unfold Pick
        rw [split_pos hp']
        by_cases ka : k = a
        · exact Or.inl (by rw [ka]; exact List.mem_cons_self)
        · have hk' : k ∈ l1 := (List.mem_cons.mp hk).resolve_left ka
          have hc0 : c = 0 := by
            by_cases z : c = 0
            · exact z
            · exact absurd ⟨hp'.1, by omega⟩ hp
          have h' : Pick p c f l2 k := by
            rcases h with h | h
            · exact Or.inl h
            · obtain ⟨_, h2⟩ := take_cons_mem h
              exact Or.inr (mem_take_le (Nat.sub_le f 1) (h2.resolve_left ka))
          rcases ih n2 (c' := c' - 1) (f' := f') (by omega) hf hk' h' with z | z
          · exact Or.inl (List.mem_cons_of_mem _ z)
          · exact Or.inr z
      · unfold Pick
        rw [split_neg hp']
        by_cases ka : k = a
        · rcases h with h | h
          · have : a ∈ l2 := (split_mem (p := p) _ c).mpr (Or.inl (by rw [← ka]; exact h))
            exact absurd this n1
          · obtain ⟨h1, _⟩ := take_cons_mem h
            exact Or.inr (mem_take_cons (by omega) (Or.inl ka))
        · have hk' : k ∈ l1 := (List.mem_cons.mp hk).resolve_left ka
          rcases h with h | h
          · rcases ih n2 (c := c) (f := 0) (c' := c') (f' := f' - 1) hc (Nat.zero_le _) hk' (Or.inl h) with z | z
            · exact Or.inl z
            · by_cases hf0 : 0 < f'
              · exact Or.inr (mem_take_cons hf0 (Or.inr z))
              · have : f' - 1 = 0 := by omega
                rw [this] at z
                cases z
          · obtain ⟨h1, h2⟩ := take_cons_mem h
            have h3 := h2.resolve_left ka
            rcases ih n2 (c := c) (f := f - 1) (c' := c') (f' := f' - 1) hc (by omega) hk' (Or.inr h3) with z | z
            · exact Or.inl z
            · exact Or.inr (mem_take_cons (by omega) (Or.inr z))

/-! ### the walk of the program is that split -/
def kindB (h : Hs) (k : Int) : Bool := decide (kindAt h k = h.kind)
theorem fold_split (h : Hs) : ∀ (l : List Int) (x : List Int × List Int) (c : Nat), ((x.1.length : Int) + c = h.kept) → l.foldl (chStep h) x = (x.1 ++ (split (kindB h) c l).1, x.2 ++ (split (kindB h) c l).2)
  | [], x, c, _ => by
    show x = (x.1 ++ [], x.2 ++ [])
    rw [List.append_nil, List.append_nil]
  | k :: l, x, c, e => by
    rw [List.foldl_cons]
    by_cases hp : kindB h k = true ∧ 0 < c
    · have h1 : kindAt h k = h.kind ∧ (x.1.length : Int) < h.kept := ⟨of_decide_eq_true hp.1, by omega⟩
      have e1 : chStep h x k = (x.1 ++ [k], x.2) := by
        unfold chStep
        exact if_pos h1
      rw [e1, fold_split h l _ (c - 1) (by show ((x.1 ++ [k]).length : Int) + _ = _; rw [List.length_append, List.length_singleton]; omega), split_pos hp]
      show ((x.1 ++ [k]) ++ _, _) = _
      rw [List.append_assoc] <;> rfl
    · have h1 : ¬ (kindAt h k = h.kind ∧ (x.1.length : Int) < h.kept) := fun z => hp ⟨decide_eq_true z.1, by omega⟩
      have e1 : chStep h x k = (x.1, x.2 ++ [k]) := by
        unfold chStep
        exact if_neg h1
      rw [e1, fold_split h l (x.1, x.2 ++ [k]) c e, split_neg hp]
      show (_, (x.2 ++ [k]) ++ _) = _
      rw [List.append_assoc] <;> rfl
def insideM (h : Hs) (cs : List Int) : List Int := (split (kindB h) h.kept.toNat (rankedM h cs)).1
def othersM (h : Hs) (cs : List Int) : List Int := (split (kindB h) h.kept.toNat (rankedM h cs)).2
def freeM (h : Hs) (cs : List Int) : Nat := (chFree h (insideM h cs).length).toNat
theorem chosen_eq {h : Hs} (h0 : 0 ≤ h.kept) (cs : List Int) : chosenM h cs = (insideM h cs ++ (othersM h cs).take (freeM h cs)).mergeSort leB := by
  unfold chosenM
  rw [fold_split h _ ([], []) h.kept.toNat (by show (0 : Int) + _ = _; omega)] <;> rfl
theorem mem_chosen {h : Hs} (h0 : 0 ≤ h.kept) {cs : List Int} {k : Int} : k ∈ chosenM h cs ↔ Pick (kindB h) h.kept.toNat (freeM h cs) (rankedM h cs) k := by
  rw [chosen_eq h0, (List.mergeSort_perm _ _).mem_iff, List.mem_append]
  exact Iff.rfl
theorem leB_trans (a b c : Int) : leB a b = true → leB b c = true → leB a c = true := by
  unfold leB
  intro h1 h2
  have := of_decide_eq_true h1
  have := of_decide_eq_true h2
  exact decide_eq_true (by omega)
theorem leB_total (a b : Int) : (leB a b || leB b a) = true := by
  unfold leB
  rcases Int.le_total a b with e | e
  · rw [decide_eq_true e, Bool.true_or]
  · rw [decide_eq_true e, Bool.or_true]
theorem chosen_nodup {h : Hs} {n : Nat} (o : HsOk h n) (cs : List Int) : (chosenM h cs).Nodup := by
  rw [chosen_eq o.kept0]
  refine (List.mergeSort_perm _ _).nodup_iff.mpr ?_
  have h1 : (insideM h cs ++ othersM h cs).Nodup := (split_perm _ _).nodup_iff.mpr (ranked_nodup o.nodup cs)
  exact h1.sublist (List.Sublist.append_left (List.take_sublist _ _) _)
theorem sort_uniq {l m : List Int} (hl : l.Pairwise (fun a b => leB a b = true)) (hm : m.Pairwise (fun a b => leB a b = true)) (p : l.Perm m) : l = m :=
  List.Perm.eq_of_pairwise (fun a b _ _ h1 h2 => by
    have := of_decide_eq_true h1
    have := of_decide_eq_true h2
    omega) hl hm p
theorem sorted_le (l : List Int) : (l.mergeSort leB).Pairwise (fun a b => leB a b = true) := List.pairwise_mergeSort leB_trans leB_total l
theorem chosen_sorted (h : Hs) (cs : List Int) : (chosenM h cs).Pairwise (fun a b => leB a b = true) := sorted_le _
theorem chosen_ext {h : Hs} {n : Nat} (o : HsOk h n) {S : List Int} {l : List Int} (hl : l.Pairwise (fun a b => leB a b = true)) (nl : l.Nodup) (e : ∀ k, k ∈ chosenM h S ↔ k ∈ l) : chosenM h S = l :=
  sort_uniq (chosen_sorted h S) hl ((List.perm_ext_iff_of_nodup (chosen_nodup o S) nl).mpr e)
theorem chosen_in {h : Hs} {n : Nat} (o : HsOk h n) {cs : List Int} {k : Int} (e : k ∈ chosenM h cs) : k ∈ h.row ∧ k ∈ cs ∧ (ptAt h k).isSome = true := mem_rankedM.mp ((mem_chosen o.kept0).mp e).mem
theorem chosen_congr {h : Hs} {S T : List Int} (e : ∀ k, k ∈ S ↔ k ∈ T) : chosenM h S = chosenM h T := by
  unfold chosenM
  rw [ranked_congr e]
theorem in_len {h : Hs} (cs : List Int) : (insideM h cs).length = min h.kept.toNat ((rankedM h cs).countP (kindB h)) := split_len _ _
theorem io_len {h : Hs} (cs : List Int) : (insideM h cs).length + (othersM h cs).length = (rankedM h cs).length := by
  rw [← List.length_append]
  exact (split_perm _ _).length_eq
theorem chosen_len {h : Hs} (h0 : 0 ≤ h.kept) (cs : List Int) : (chosenM h cs).length = (insideM h cs).length + min (freeM h cs) (othersM h cs).length := by
  rw [chosen_eq h0, (List.mergeSort_perm _ _).length_eq, List.length_append, List.length_take]
/-- whoever is chosen out of more is chosen out of fewer -/
theorem ch_subst {h : Hs} {n : Nat} (o : HsOk h n) {S T : List Int} (e : ∀ k ∈ S, k ∈ T) {k : Int} (hk : k ∈ S) (hT : k ∈ chosenM h T) : k ∈ chosenM h S := by
  rw [mem_chosen o.kept0] at hT ⊢
  have sub := ranked_sub o.nodup e
  have hin := mem_rankedM.mp hT.mem
  refine pick_sub sub (ranked_nodup o.nodup T) (Nat.le_refl _) ?_ (mem_rankedM.mpr ⟨hin.1, hk, hin.2.2⟩) hT
  have hc : (rankedM h S).countP (kindB h) ≤ (rankedM h T).countP (kindB h) := sub.countP_le
  have l1 := in_len (h := h) S
  have l2 := in_len (h := h) T
  unfold freeM chFree
  split
  · omega
  · exact Nat.le_refl _
theorem ch_max {h : Hs} {n : Nat} (o : HsOk h n) (S : List Int) : ((chosenM h S).length : Int) ≤ h.seats := by
  have l0 := chosen_len o.kept0 S
  have l1 := in_len (h := h) S
  have := o.kept
  have := o.kept0
  unfold freeM chFree at l0
  split at l0 <;> omega
/-- out of more no fewer are chosen -/
theorem ch_lad {h : Hs} {n : Nat} (o : HsOk h n) {S T : List Int} (e : ∀ k ∈ S, k ∈ T) : (chosenM h S).length ≤ (chosenM h T).length := by
  have sub := ranked_sub (h := h) o.nodup e
  have hc : (rankedM h S).countP (kindB h) ≤ (rankedM h T).countP (kindB h) := sub.countP_le
  have hl := sub.length_le
  have a0 := chosen_len o.kept0 S
  have a1 := in_len (h := h) S
  have a2 := io_len (h := h) S
  have b0 := chosen_len o.kept0 T
  have b1 := in_len (h := h) T
  have b2 := io_len (h := h) T
  have := o.kept
  have := o.kept0
  unfold freeM chFree at a0 b0
  split at a0 <;> rename_i z
  · rw [if_pos z] at b0
    omega
  · rw [if_neg z] at b0
    omega
theorem sub_len : ∀ {l m : List Int}, l.Nodup → (∀ k ∈ l, k ∈ m) → l.length ≤ m.length
  | [], m, _, _ => Nat.zero_le _
  | a :: l, m, nd, h => by
    obtain ⟨n1, n2⟩ := List.nodup_cons.mp nd
    have ha : a ∈ m := h a List.mem_cons_self
    have h2 := sub_len (l := l) (m := m.erase a) n2 fun k hk => (List.mem_erase_of_ne (fun e => n1 (by rw [← e]; exact hk))).mpr (h k (List.mem_cons_of_mem _ hk))
    rw [List.length_erase_of_mem ha] at h2
    have := List.length_pos_of_mem ha
    rw [List.length_cons]
    omega
theorem sub_eq {l m : List Int} (nl : l.Nodup) (nm : m.Nodup) (h : ∀ k ∈ l, k ∈ m) (hl : m.length ≤ l.length) : ∀ k ∈ m, k ∈ l := by
  intro k hk
  by_cases z : k ∈ l
  · exact z
  · have h2 := sub_len (l := k :: l) (m := m) (List.nodup_cons.mpr ⟨z, nl⟩) fun x hx => by
      rcases List.mem_cons.mp hx with e | e
      · rw [e]
        exact hk
      · exact h x e
    rw [List.length_cons] at h2
    omega
/-- out of those chosen and some others the same are chosen -/
theorem ch_irc {h : Hs} {n : Nat} (o : HsOk h n) {S T : List Int} (e : ∀ k ∈ S, k ∈ T) (c : ∀ k ∈ chosenM h T, k ∈ S) : chosenM h S = chosenM h T := by
  have h1 : ∀ k ∈ chosenM h T, k ∈ chosenM h S := fun k hk => ch_subst o e (c k hk) hk
  have h2 := sub_eq (chosen_nodup o T) (chosen_nodup o S) h1 (ch_lad o e)
  exact sort_uniq (chosen_sorted h S) (chosen_sorted h T) ((List.perm_ext_iff_of_nodup (chosen_nodup o S) (chosen_nodup o T)).mpr fun k => ⟨h2 k, h1 k⟩)
end CH

/-! Choosehall: what the law's small helpers promise. -/
namespace CH
open PySem L2

section
variable {P : Program} {w : World} {g : Gb} {mg : Str → Option Value} {base : Heap} {f : Addr} {fd : FuncData}

def RCell : List D → Sl → Prop := fun ds r => ∃ (s : List Int) (k : Int), ds = [.scr s, .int k] ∧ 0 ≤ k ∧ r = .v (.int (cellAt s k))
theorem c_cell (F : FnP g.K "_law_cell_at" "_law_cell_at" s__law_cell_at f fd) (hm : mg "_law_cell_at" = some (.ref f)) (fr : Free mg) : Cal P w g mg base "_law_cell_at" 1 RCell := by
  refine cal_by (N := ["script", "k"]) (ps := ["script", "k"]) F ⟨rfl, rfl, rfl, by decide +kernel, rfl, by decide +kernel, by decide +kernel⟩ hm (fun _ _ _ _ _ _ us hl => match us, hl with | [_, _], _ => rfl) ?_ ?_
  · rintro ds r ⟨s, k, rfl, _, _⟩
    rfl
  · rintro ds r cdv A outer s0 H E ⟨s, k, rfl, h0, rfl⟩ hr
    refine ss_cons (s_if (et_cmp (ev_var 1) (ev_len rfl fr (ev_var 0) rfl) cmp_lt) (fun h => ss_one (s_ret (ev_ix (d := .int (cellAt s k)) rfl (ev_var 0) (ev_var 1) ?_) rfl)) (fun h => ss_nil (ss_one (s_ret ev_int ?_))))
    · have h1 := of_decide_eq_true h
      show (atI s k).map D.int = _
      unfold atI ixN
      rw [if_pos h0, if_pos h1]
      show (s[k.toNat]?).map D.int = _
      unfold cellAt
      rw [List.getD_eq_getElem?_getD]
      rw [List.getElem?_eq_getElem (by omega)] <;> rfl
    · have h1 := of_decide_eq_false h
      show Sl.v (.int 0) = .v (.int (cellAt s k))
      unfold cellAt
      rw [List.getD_eq_getElem?_getD, List.getElem?_eq_none (by omega)] <;> rfl

def RKind : List D → Sl → Prop := fun ds r => ∃ (c : Int), ds = [.int c] ∧ r = .v (.int (kindBy c))
theorem c_kind (F : FnP g.K "_law_kind_by" "_law_kind_by" s__law_kind_by f fd) (hm : mg "_law_kind_by" = some (.ref f)) (fr : Free mg) : Cal P w g mg base "_law_kind_by" 1 RKind := by
  refine cal_by (N := ["cell"]) (ps := ["cell"]) F ⟨rfl, rfl, rfl, by decide +kernel, rfl, by decide +kernel, by decide +kernel⟩ hm (fun _ _ _ _ _ _ us hl => match us, hl with | [_], _ => rfl) ?_ ?_
  · rintro ds r ⟨c, rfl, _⟩
    rfl
  · rintro ds r cdv A outer s0 H E ⟨c, rfl, rfl⟩ hr
    have cm : ∀ i j : Int, (D.int i).eqv (.int j) = decide (i = j) := fun i j => rfl
    refine ss_one (s_ret (Ev.is (ev_bin (ev_bin (ev_var 0) ev_int (bin_mod (by decide))) (ev_bin ev_int (ev_int_bl fr (ev_cmp (ev_bin (ev_bin (ev_var 0) ev_int (bin_div (by decide))) ev_int (bin_mod (by decide))) ev_int (cmp_eq rfl hr.units ⟨rfl, rfl⟩ ⟨rfl, rfl⟩))) (bin_mul (Or.inl (by decide)))) bin_add) (r' := .v (.int (kindBy c))) ?_) rfl)
    rfl

def RPts : List D → Sl → Prop := fun ds r => ∃ (c k : Int), ds = [.int c, .int k] ∧ 0 ≤ k ∧ k < 1000 ∧ r = .v (D.oi (pointsBy c k))
theorem c_pts (F : FnP g.K "_law_points_by" "_law_points_by" s__law_points_by f fd) (hm : mg "_law_points_by" = some (.ref f)) (fr : Free mg) : Cal P w g mg base "_law_points_by" 1 RPts := by
  refine cal_by (N := ["cell", "comer", "some"]) (ps := ["cell", "comer"]) F ⟨rfl, rfl, rfl, by decide +kernel, rfl, by decide +kernel, by decide +kernel⟩ hm (fun _ _ _ _ _ _ us hl => match us, hl with | [_, _], _ => rfl) ?_ ?_
  · rintro ds r ⟨c, k, rfl, _⟩
    rfl
  · rintro ds r cdv A outer s0 H E ⟨c, k, rfl, h0, h1, rfl⟩ hr
    have hk : 0 < 1 + k * k ∧ 1 + k * k < 1073741824 := by
      have h2 : 0 ≤ k * k := Int.mul_nonneg h0 h0
      have h3 : k * k ≤ 1000 * 1000 := Int.mul_le_mul (by omega) (by omega) h0 (by omega)
      omega
    have hu : ∀ z : Int, (0 ≤ z ∧ z < 2000) → (-(2 ^ 64) < z ∧ z < 2 ^ 64) := fun z h => by omega
    refine ss_cons (s_asg 2 (ev_bin (ev_bin (ev_bin (ev_bin (ev_bin (ev_var 0) (ev_bin ev_int (ev_bin (ev_var 1) (ev_var 1) (bin_mul (Or.inl (hu k (by omega))))) bin_add) (bin_div hk)) (ev_bin ev_int (ev_var 1) (bin_mul (Or.inr (hu k (by omega))))) bin_add) (ev_bin (ev_var 1) ev_int bin_add) (bin_mul (Or.inr (hu (k + 3) (by omega))))) ev_int (bin_mul (Or.inr (by decide)))) ev_int (bin_mod (by decide))) ?_)
    refine ss_cons (s_if (et_cmp (ev_bin (ev_var 0) ev_int (bin_mod (by decide))) ev_int (cmp_eq rfl hr.units ⟨rfl, rfl⟩ ⟨rfl, rfl⟩)) (fun h => ss_one (s_asg 2 (ev_bin (ev_var 2) ev_int (bin_mod (by decide))) ?_)) (fun h => ss_nil ?_))
    · refine ss_cons (s_if (et_cmp (ev_bin (ev_bin (ev_bin (ev_bin (ev_var 0) ev_int (bin_div (by decide))) (ev_bin (ev_var 1) ev_int bin_add) (bin_mul (Or.inr (hu (k + 2) (by omega))))) (ev_bin ev_int (ev_var 1) (bin_mul (Or.inl (by decide)))) bin_add) ev_int (bin_mod (by decide))) ev_int cmp_lt) (fun h2 => ss_one (s_ret ev_non ?_)) (fun h2 => ss_nil (ss_one (s_ret (ev_bin (ev_var 2) ev_int (bin_mod (by decide))) ?_))))
      · have e : c % 3 = 0 := of_decide_eq_true h
        have e2 := of_decide_eq_true h2
        show Sl.v .non = .v (D.oi (pointsBy c k))
        unfold pointsBy
        simp only [if_pos e, if_pos e2]
        rfl
      · have e : c % 3 = 0 := of_decide_eq_true h
        have e2 := of_decide_eq_false h2
        show Sl.v (.int _) = .v (D.oi (pointsBy c k))
        unfold pointsBy
        simp only [if_pos e, if_neg e2]
        rfl
    · refine ss_cons (s_if (et_cmp (ev_bin (ev_bin (ev_bin (ev_bin (ev_var 0) ev_int (bin_div (by decide))) (ev_bin (ev_var 1) ev_int bin_add) (bin_mul (Or.inr (hu (k + 2) (by omega))))) (ev_bin ev_int (ev_var 1) (bin_mul (Or.inl (by decide)))) bin_add) ev_int (bin_mod (by decide))) ev_int cmp_lt) (fun h2 => ss_one (s_ret ev_non ?_)) (fun h2 => ss_nil (ss_one (s_ret (ev_bin (ev_var 2) ev_int (bin_mod (by decide))) ?_))))
      · have e : ¬ c % 3 = 0 := of_decide_eq_false h
        have e2 := of_decide_eq_true h2
        show Sl.v .non = .v (D.oi (pointsBy c k))
        unfold pointsBy
        simp only [if_neg e, if_pos e2]
        rfl
      · have e : ¬ c % 3 = 0 := of_decide_eq_false h
        have e2 := of_decide_eq_false h2
        show Sl.v (.int _) = .v (D.oi (pointsBy c k))
        unfold pointsBy
        simp only [if_neg e, if_neg e2]
        rfl

theorem map_erase {α β : Type} (f : α → β) : ∀ (l : List α) (n : Nat), (l.eraseIdx n).map f = (l.map f).eraseIdx n
  | [], _ => rfl
  | _ :: _, 0 => rfl
  | a :: l, n + 1 => congrArg (f a :: ·) (map_erase f l n)
def RRow : List D → Sl → Prop := fun ds r => ∃ (c m : Int), ds = [.int c, .int m] ∧ 0 ≤ m ∧ m ≤ 100 ∧ r = .m ((rowBy c m).map D.int)
theorem c_row (F : FnP g.K "_law_row_by" "_law_row_by" s__law_row_by f fd) (hm : mg "_law_row_by" = some (.ref f)) (fr : Free mg) : Cal P w g mg base "_law_row_by" 1 RRow := by
  refine cal_by (N := ["cell", "many", "left", "row", "k"]) (ps := ["cell", "many"]) F ⟨rfl, rfl, rfl, by decide +kernel, rfl, by decide +kernel, by decide +kernel⟩ hm (fun _ _ _ _ _ _ us hl => match us, hl with | [_, _], _ => rfl) ?_ ?_
  · rintro ds r ⟨c, k, rfl, _⟩
    rfl
  · rintro ds r cdv A outer s0 H E ⟨c, m, rfl, h0, h1, rfl⟩ hr
    refine ss_cons (s_asg 2 (ev_listRg rfl fr (ev_var 1) ⟨h0, by omega⟩) ?_)
    refine ss_cons (s_asg 3 (ev_lst ea_nil (by decide)) ?_)
    have hlen : ((rg 0 m).map D.int).length = m.toNat := by rw [List.length_map, rg_len]; omega
    refine ss_cons (s_for 4 (ei_range fr (ev_var 1) ⟨by omega, by omega⟩) (fun k G => ∃ z : Sl, k ≤ m.toNat ∧ G = [.v (.int (rowSt c m k).c), .v (.int m), .m ((rowSt c m k).l.map D.int), .m ((rowSt c m k).r.map D.int), z]) ⟨.un, Nat.zero_le _, rfl⟩ (fun k d G hd hI => ?_) (fun G hI => ?_))
    · obtain ⟨z, hle, rfl⟩ := hI
      have hkm : k < m.toNat := by rw [← hlen]; exact (List.getElem?_eq_some_iff.mp hd).1
      have hd2 : d = .int (k : Int) := by
        rw [List.getElem?_map, rg_at (by omega)] at hd
        have := Option.some.inj hd
        rw [← this]
        show D.int (0 + (k : Int)) = _
        rw [Int.zero_add]
      subst hd2
      obtain ⟨l1, l2⟩ := rowSt_len c m k (by omega)
      have h3 : 0 ≤ (rowSt c m k).c % ((rowSt c m k).l.length : Int) ∧ (rowSt c m k).c % ((rowSt c m k).l.length : Int) < ((rowSt c m k).l.length : Int) := ⟨Int.emod_nonneg _ (by omega), Int.emod_lt_of_pos _ (by omega)⟩
      refine ss_cons (s_appPop 3 2 (ds := (rowSt c m k).r.map D.int) (es := (rowSt c m k).l.map D.int) (m := (rowSt c m k).l.length) (n := ((rowSt c m k).c % ((rowSt c m k).l.length : Int)).toNat) (d := .int ((rowSt c m k).l.getD ((rowSt c m k).c % ((rowSt c m k).l.length : Int)).toNat 0)) (Ev.is (ev_bin (ev_var 0) (Ev.bor (ev_len rfl fr (ev_var 2) rfl)) (bin_mod (by rw [List.length_map]; omega))) (by rw [List.length_map]; exact congrArg (fun z => Sl.v (.int z)) (by omega))) ?_ ?_ (by decide) (by rw [List.length_map]; omega) (by rw [List.length_map]; omega))
      · rw [List.getElem?_map, List.getD_eq_getElem?_getD, List.getElem?_eq_getElem (by omega)] <;> rfl
      · refine ss_one (s_asg 0 (ev_bin (ev_var 0) (ev_max2 rfl fr ev_int (ev_bin (ev_var 1) (ev_var 4) bin_sub)) (bin_div ?_)) ?_)
        · omega
        · refine ⟨.v (.int (k : Int)), by omega, ?_⟩
          have hmax : max 2 (m - (k : Int)) = if m - (k : Int) > 2 then m - (k : Int) else 2 := by
            rw [Int.max_def]
            split <;> split <;> omega
          have e1 : (rowSt c m (k + 1)).c = (rowSt c m k).c / (if m - (k : Int) > 2 then m - (k : Int) else 2) := by rw [← hmax] <;> rfl
          have e2 : ((rowSt c m (k + 1)).l.map D.int) = ((rowSt c m k).l.map D.int).eraseIdx ((rowSt c m k).c % ((rowSt c m k).l.length : Int)).toNat := map_erase _ _ _
          have e3 : ((rowSt c m (k + 1)).r.map D.int) = (rowSt c m k).r.map D.int ++ [D.int ((rowSt c m k).l.getD ((rowSt c m k).c % ((rowSt c m k).l.length : Int)).toNat 0)] := by
            show ((rowSt c m k).r ++ [_]).map D.int = _
            rw [List.map_append] <;> rfl
          rw [e1, e2, e3]
          rfl
    · obtain ⟨z, hle, rfl⟩ := hI
      refine ss_one (s_retOwn 3 ?_)
      rw [hlen]
      rfl
end
end CH

/-! Choosehall: a House made. -/
namespace CH
open PySem L2
/-- what is known of the class -/
structure ClsF (g : Gb) : Prop where
  c : Cls g.K g.C
  seats : NoAttr g.K g.C "seats"
  kept : NoAttr g.K g.C "kept"
  kind : NoAttr g.K g.C "kind"
  opened : NoAttr g.K g.C "opened"
  points : NoAttr g.K g.C "points"
  kinds : NoAttr g.K g.C "kinds"
  row : NoAttr g.K g.C "row"
section
variable {P : Program} {w : World} {g : Gb} {mg : Str → Option Value} {base : Heap} {f : Addr} {fd : FuncData}
theorem pl_ {x : Str} {v : V} {n : Nat} : ∀ {l : List (Str × V)}, l.length ≤ n → (putF x v l).length ≤ n + 1
  | [], _ => Nat.succ_le_succ (Nat.zero_le _)
  | (y, u) :: r, h => by
    unfold putF
    split
    · exact Nat.le_succ_of_le h
    · cases n with
      | zero => cases h
      | succ n => exact Nat.succ_le_succ (pl_ (Nat.le_of_succ_le_succ h))
theorem low_upd {F H : Hp} {p : Addr} {o : HO} (h : Sub F H) (n : F p = none) : Sub F (upd H p o) := fun b u e => by
  by_cases hb : b = p
  · rw [hb, n] at e
    cases e
  · rw [upd_ne hb]
    exact h b u e
theorem ok_init (F0 : FnP g.K "__init__" "House.__init__" s_House___init__ f fd) (cf : ClsF g) (fr : Free mg) : FnOk P w g.K mg base CX0 1 f fd ["self", "seats", "kept", "kind", "opened", "points", "kinds", "row"] (spInit g) := by
  have S : FnScope ["self", "seats", "kept", "kind", "opened", "points", "kinds", "row"] ["self", "seats", "kept", "kind", "opened", "points", "kinds", "row"] (defScope s_House___init__) := ⟨rfl, rfl, rfl, by decide +kernel, rfl, by decide +kernel, by decide +kernel⟩
  refine F0.ok S (fun vs H Q E h => ?_) (fun cdv A outer s H vs Q E hr h => ⟨_, PSs.nox (pss_cons (ps_fld (pe_var (i := 0) rfl (Or.inl rfl)) (pe_var (i := 1) rfl (Or.inl rfl)) rfl)
    (pss_cons (ps_fld (pe_var (i := 0) rfl (Or.inl rfl)) (pe_var (i := 2) rfl (Or.inl rfl)) rfl)
    (pss_cons (ps_fld (pe_var (i := 0) rfl (Or.inl rfl)) (pe_var (i := 3) rfl (Or.inl rfl)) rfl)
    (pss_cons (ps_fld (pe_var (i := 0) rfl (Or.inl rfl)) (pe_var (i := 4) rfl (Or.inl rfl)) rfl)
    (pss_cons (ps_fld (pe_var (i := 0) rfl (Or.inl rfl)) (pe_callTy call_list_of rfl fr.list (by decide +kernel) (pa_cons (pe_var (i := 5) rfl (Or.inl rfl)) pa_nil)) rfl)
    (pss_cons (ps_fld (pe_var (i := 0) rfl (Or.inl rfl)) (pe_callTy call_list_of rfl fr.list (by decide +kernel) (pa_cons (pe_var (i := 6) rfl (Or.inl rfl)) pa_nil)) rfl)
    (pss_one (ps_fld (pe_var (i := 0) rfl (Or.inl rfl)) (pe_callTy call_list_of rfl fr.list (by decide +kernel) (pa_cons (pe_var (i := 7) rfl (Or.inl rfl)) pa_nil)) rfl)))))))), ?_⟩)
  · obtain ⟨p, dx, h, a, b, c, F, rfl, _⟩ := h
    rfl
  · obtain ⟨p, dx, h, a, b, c, F, rfl, hp, ha, hb, hc, fit, fp, q⟩ := h
    refine ⟨_, rfl, _, rfl, p, g.C, dx, _, rfl, hp, cf.c, cf.seats, by decide, ?_⟩
    refine ⟨_, rfl, _, rfl, p, g.C, dx, _, rfl, upd_same, cf.c, cf.kept, Nat.lt_of_le_of_lt (pl_ (Nat.le_refl 0)) (by decide), ?_⟩
    refine ⟨_, rfl, _, rfl, p, g.C, dx, _, rfl, upd_same, cf.c, cf.kind, Nat.lt_of_le_of_lt (pl_ (pl_ (Nat.le_refl 0))) (by decide), ?_⟩
    refine ⟨_, rfl, _, rfl, p, g.C, dx, _, rfl, upd_same, cf.c, cf.opened, Nat.lt_of_le_of_lt (pl_ (pl_ (pl_ (Nat.le_refl 0)))) (by decide), ?_⟩
    rw [upd_upd, upd_upd, upd_upd]
    have nap : ∀ {z : Addr} {o : HO}, F z = some o → z ≠ p := fun {z o} e w => by
      rw [w, fp] at e
      cases e
    have low0 : ∀ {o : HO}, Sub F (upd H p o) := fun {o} => low_upd fit.low fp
    refine ⟨_, rfl, a, _, rfl, Or.inl (SqL.of (low0 a _ ha)), fun l1 hl1 => ?_⟩
    have n1 : l1 ≠ p := fun w => by
      rw [w, upd_same] at hl1
      cases hl1
    refine ⟨_, rfl, p, g.C, dx, _, rfl, (by rw [upd_ne (Ne.symm n1)]; exact upd_same), cf.c, cf.points, Nat.lt_of_le_of_lt (pl_ (pl_ (pl_ (pl_ (Nat.le_refl 0))))) (by decide), ?_⟩
    have hl1' : H l1 = none := by
      rw [upd_ne n1] at hl1
      exact hl1
    have c1 : ∀ {o o' u : HO}, upd (upd (upd H p o) l1 u) p o' = upd (upd H l1 u) p o' := fun {o o' u} => by
      funext z
      by_cases e1 : z = p
      · rw [e1, upd_same, upd_same]
      · rw [upd_ne e1, upd_ne e1]
        by_cases e2 : z = l1
        · rw [e2, upd_same, upd_same]
        · rw [upd_ne e2, upd_ne e2, upd_ne e1]
    rw [c1]
    have lowG : ∀ {H1 : Hp} {z : Addr} {o u v : HO}, (∀ b o, F b = some o → H1 b = some o) → F z = some o → (upd H1 p v) z = some o := fun {H1 z o u v} k e => by
      rw [upd_ne (nap e)]
      exact k z o e
    have k1 : ∀ b o, F b = some o → (upd H l1 (.lst (h.pts.map vOi))) b = some o := low_upd fit.low (fit.low.free hl1')
    refine ⟨_, rfl, b, _, rfl, Or.inl (SqL.of (lowG (u := .tbl #[]) k1 hb)), fun l2 hl2 => ?_⟩
    have n2 : l2 ≠ p := fun w => by
      rw [w, upd_same] at hl2
      cases hl2
    refine ⟨_, rfl, p, g.C, dx, _, rfl, (by rw [upd_ne (Ne.symm n2)]; exact upd_same), cf.c, cf.kinds, Nat.lt_of_le_of_lt (pl_ (pl_ (pl_ (pl_ (pl_ (Nat.le_refl 0)))))) (by decide), ?_⟩
    have hl2' : (upd H l1 (.lst (h.pts.map vOi))) l2 = none := by
      rw [upd_ne n2] at hl2
      exact hl2
    have c2 : ∀ {o o' u : HO} {H1 : Hp} {l : Addr}, l ≠ p → upd (upd (upd H1 p o) l u) p o' = upd (upd H1 l u) p o' := fun {o o' u H1 l} nl => by
      funext z
      by_cases e1 : z = p
      · rw [e1, upd_same, upd_same]
      · rw [upd_ne e1, upd_ne e1]
        by_cases e2 : z = l
        · rw [e2, upd_same, upd_same]
        · rw [upd_ne e2, upd_ne e2, upd_ne e1]
    rw [c2 n2]
    have nF2 : F l2 = none := Sub.free k1 hl2'
    have k2 : ∀ b o, F b = some o → (upd (upd H l1 (.lst (h.pts.map vOi))) l2 (.lst (h.kinds.map V.int))) b = some o := low_upd k1 nF2
    refine ⟨_, rfl, c, _, rfl, Or.inl (SqL.of (lowG (u := .tbl #[]) k2 hc)), fun l3 hl3 => ?_⟩
    have n3 : l3 ≠ p := fun w => by
      rw [w, upd_same] at hl3
      cases hl3
    refine ⟨_, rfl, p, g.C, dx, _, rfl, (by rw [upd_ne (Ne.symm n3)]; exact upd_same), cf.c, cf.row, Nat.lt_of_le_of_lt (pl_ (pl_ (pl_ (pl_ (pl_ (pl_ (Nat.le_refl 0))))))) (by decide), ?_⟩
    have hl3' : (upd (upd H l1 (.lst (h.pts.map vOi))) l2 (.lst (h.kinds.map V.int))) l3 = none := by
      rw [upd_ne n3] at hl3
      exact hl3
    rw [c2 n3]
    have l12 : l2 ≠ l1 := fun w => by
      rw [w, upd_same] at hl2'
      cases hl2'
    have l13 : l3 ≠ l1 := fun w => by
      rw [w, upd_ne (Ne.symm l12), upd_same] at hl3'
      cases hl3'
    have l23 : l3 ≠ l2 := fun w => by
      rw [w, upd_same] at hl3'
      cases hl3'
    have h2 : H l2 = none := by
      rw [upd_ne l12] at hl2'
      exact hl2'
    have h3 : H l3 = none := by
      rw [upd_ne l23, upd_ne l13] at hl3'
      exact hl3'
    show Q .non _
    refine q (upd (upd (upd (upd F l1 (.lst (h.pts.map vOi))) l2 (.lst (h.kinds.map V.int))) l3 (.lst (h.row.map V.int))) p (.ins g.C dx (flds h l1 l2 l3))) _ (fun z o e nz => ?_) (fun z o e => ?_) ?_ (fun z o e nz fz => ?_) ?_
    · have m1 : z ≠ l1 := fun w => by
        rw [w, hl1'] at e
        cases e
      have m2 : z ≠ l2 := fun w => by
        rw [w, h2] at e
        cases e
      have m3 : z ≠ l3 := fun w => by
        rw [w, h3] at e
        cases e
      rw [upd_ne nz, upd_ne m3, upd_ne m2, upd_ne m1]
      exact e
    · have eH := fit.low _ _ e
      have m1 : z ≠ l1 := fun w => by
        rw [w, hl1'] at eH
        cases eH
      have m2 : z ≠ l2 := fun w => by
        rw [w, h2] at eH
        cases eH
      have m3 : z ≠ l3 := fun w => by
        rw [w, h3] at eH
        cases eH
      rw [upd_ne (nap e), upd_ne m3, upd_ne m2, upd_ne m1]
      exact e
    · refine ⟨fun z o e => ?_, fun z o e => ?_, ?_⟩
      · by_cases e1 : z = p
        · rw [e1, upd_same] at e ⊢
          exact e
        · rw [upd_ne e1] at e ⊢
          by_cases e2 : z = l3
          · rw [e2, upd_same] at e ⊢
            exact e
          · rw [upd_ne e2] at e ⊢
            by_cases e3 : z = l2
            · rw [e3, upd_same] at e ⊢
              exact e
            · rw [upd_ne e3] at e ⊢
              by_cases e4 : z = l1
              · rw [e4, upd_same] at e ⊢
                exact e
              · rw [upd_ne e4] at e ⊢
                exact fit.low _ _ e
      · by_cases e1 : z = p
        · rw [e1, upd_same] at e
          cases e
          exact nt_ins
        · rw [upd_ne e1] at e
          by_cases e2 : z = l3
          · rw [e2, upd_same] at e
            cases e
            exact nt_lst
          · rw [upd_ne e2] at e
            by_cases e3 : z = l2
            · rw [e3, upd_same] at e
              cases e
              exact nt_lst
            · rw [upd_ne e3] at e
              by_cases e4 : z = l1
              · rw [e4, upd_same] at e
                cases e
                exact nt_lst
              · rw [upd_ne e4] at e
                exact fit.nt _ _ e
      · have t1 := fit.tab
        have s1 : Sub H (upd H l1 (.lst (h.pts.map vOi))) := sub_upd hl1'
        have s2 : Sub (upd H l1 (.lst (h.pts.map vOi))) (upd (upd H l1 (.lst (h.pts.map vOi))) l2 (.lst (h.kinds.map V.int))) := sub_upd hl2'
        have s3 : Sub (upd (upd H l1 (.lst (h.pts.map vOi))) l2 (.lst (h.kinds.map V.int))) (upd (upd (upd H l1 (.lst (h.pts.map vOi))) l2 (.lst (h.kinds.map V.int))) l3 (.lst (h.row.map V.int))) := sub_upd hl3'
        exact tabs_mut (tabs_ext (tabs_ext (tabs_ext t1 s1) s2) s3) (s3 _ _ (s2 _ _ (s1 _ _ hp))) nt_ins (fun _ z => by cases z)
    · have m1 : z ≠ l1 := fun w => by
        rw [w, hl1'] at e
        cases e
      have m2 : z ≠ l2 := fun w => by
        rw [w, h2] at e
        cases e
      have m3 : z ≠ l3 := fun w => by
        rw [w, h3] at e
        cases e
      rw [upd_ne nz, upd_ne m3, upd_ne m2, upd_ne m1]
      exact fz
    · refine ⟨dx, l1, l2, l3, (if_pos (Or.inr rfl)).trans upd_same, (if_pos (Or.inl hl1')).trans ?_, (if_pos (Or.inl h2)).trans ?_, (if_pos (Or.inl h3)).trans ?_⟩
      · rw [upd_ne n1, upd_ne (Ne.symm l13), upd_ne (Ne.symm l12), upd_same]
      · rw [upd_ne n2, upd_ne (Ne.symm l23), upd_same]
      · rw [upd_ne n3, upd_same]
theorem c_house (F0 : FnP g.K "__init__" "House.__init__" s_House___init__ f fd) (cf : ClsF g) (fr : Free mg) (M : Mk g.K g.C f) (hm : mg "House" = some (.ref g.C)) : HCal P w g mg base 1 :=
  ⟨f, fd, _, ok_init F0 cf fr, M, F0.bindsN (fun _ _ _ _ _ _ us hl => match us, hl with | [_, _, _, _, _, _, _, _], _ => rfl), hm⟩
end
end CH

/-! Choosehall: ranked, chosen. -/
namespace CH
open PySem L2
theorem inV_ints (k : Int) (cs : List Int) : inV (.int k) (cs.map V.int) = decide (k ∈ cs) := by
  unfold inV
  induction cs with
  | nil => rfl
  | cons a r ih =>
    rw [List.map_cons, List.any_cons, ih]
    have e : eqV (.int a) (.int k) = decide (a = k) := rfl
    rw [e]
    by_cases h : a = k
    · rw [decide_eq_true h, h, Bool.true_or]
      exact (decide_eq_true List.mem_cons_self).symm
    · rw [decide_eq_false h, Bool.false_or]
      refine decide_eq_decide.mpr ⟨fun z => List.mem_cons_of_mem _ z, fun z => ?_⟩
      rcases List.mem_cons.mp z with e | e
      · exact absurd e.symm h
      · exact e
theorem fl_ints (cs : List Int) : (cs.map D.int).map D.fl = (cs.map V.int).map some := by
  rw [List.map_map, List.map_map] <;> rfl
theorem isN_oi (o : Option Int) : (D.oi o).isN = o.isNone := by cases o <;> rfl
theorem pts_at {h : Hs} {n : Nat} (o : HsOk h n) {k : Int} (h0 : 0 ≤ k) (h1 : k < n) : (D.lst (h.pts.map D.oi)).at_ k = some (D.oi (ptAt h k)) := by
  refine at_nat h0 ?_
  unfold ptAt
  rw [List.getElem?_map, List.getD_eq_getElem?_getD, List.getElem?_eq_getElem (by rw [o.pts]; omega)] <;> rfl
theorem kinds_at {h : Hs} {n : Nat} (o : HsOk h n) {k : Int} (h0 : 0 ≤ k) (h1 : k < n) : (D.lst (h.kinds.map D.int)).at_ k = some (D.int (kindAt h k)) := by
  refine at_nat h0 ?_
  unfold kindAt
  rw [List.getElem?_map, List.getD_eq_getElem?_getD, List.getElem?_eq_getElem (by rw [o.kinds]; omega)] <;> rfl
theorem mem_ranked {h : Hs} {cs : List Int} {k : Int} : k ∈ rankedM h cs ↔ k ∈ h.row ∧ k ∈ cs ∧ (ptAt h k).isSome = true := by
  unfold rankedM
  rw [List.mem_mergeSort, List.mem_filter]
  unfold ableB
  rw [Bool.and_eq_true, decide_eq_true_eq]
theorem ranked_len {h : Hs} {n : Nat} (o : HsOk h n) (cs : List Int) : (rankedM h cs).length ≤ n := by
  unfold rankedM
  rw [List.length_mergeSort]
  exact Nat.le_trans (List.length_filter_le _ _) (by rw [o.len]; exact Nat.le_refl _)
section
variable {P : Program} {w : World} {g : Gb} {mg : Str → Option Value} {base : Heap} {f : Addr} {fd : FuncData}
/-- a method of House, by its body; its code object told -/
theorem mcal_byC {x qual : Str} {st : Stmt} {N ps : List Str} {k : Nat} {R : List D → Sl → Prop} {c : Addr} (F : FnP g.K x qual st f fd) (hco : fd.code = .ref c) (S : FnScope N ps (defScope st)) (hm : Meth g.K g.C x f) (hbi : ∀ (kV doc pm : Value) (an : Option Addr) (cdv ct : Value) (us : List Value), us.length = ps.length → bindArgs (PySem.W.fnOf x qual (defArgs st) (defBody st) (defScope st) .none kV doc pm an cdv ct) ⟨us, []⟩ = pure (ps.zip us))
    (hlen : ∀ ds r, R ds r → ds.length = ps.length)
    (hb : ∀ ds r (A : Around) (outer : List Env) (s : Shared) (H : Hp) (E : XK), R ds r → Room k (A.deeper (PyProof.Rows.envOfC qual (defScope st) s.heap.objs.size f (.ref c))) →
      Ss g (cxOf CX0 P w g.K mg base N qual (defScope st) f (.ref c) A outer s H E).nox (G0 N ds) (defBody st) (kRet r)) : MCal P w g mg base x (k + 1) R := by
  refine ⟨f, fd, ps, ?_, hm, F.bindsN hbi⟩
  obtain ⟨oc, od, dV, kV, doc, pm, an, cdv, ct, osl, rfl, lk, hcd, _, _⟩ := F.ex
  have e : cdv = .ref c := hco
  subst e
  refine fn_of lk hcd S (fun vs H Q E h => ?_) fun A outer s H vs Q E hr h => ?_
  · obtain ⟨ds, r, F, hR, r1, _⟩ := h
    rw [r1.len]
    exact hlen ds r hR
  · obtain ⟨ds, r, F, hR, r1, f1, q⟩ := h
    exact ⟨_, PSs.nox (pss_wss (X := (cxOf CX0 P w g.K mg base N qual (defScope st) f (.ref c) A outer s H E).nox)), run_body (hb ds r A outer s H E hR hr) r1 f1 q⟩

def RRanked : List D → Sl → Prop := fun ds r => ∃ (h : Hs) (n : Nat) (cs : List Int), HsOk h n ∧ ds = [.hs h, intsD cs] ∧ r = .m ((rankedM h cs).map D.int)
theorem c_ranked {c T : Addr} (F : FnP g.K "ranked" "House.ranked" s_House_ranked f fd) (hco : fd.code = .ref c) (hm : Meth g.K g.C "ranked" f) (cf : ClsF g) (fr : Free mg) (TB : LamX.TabB base mg c T) (hT : g.T = [(T, ("House.ranked" : Str) ++ ".<locals>." ++ "<lambda>")]) : MCal P w g mg base "ranked" 3 RRanked := by
  refine mcal_byC (N := ["self", "comers", "able", "comer"]) (ps := ["self", "comers"]) F hco ⟨rfl, rfl, rfl, by decide +kernel, rfl, by decide +kernel, by decide +kernel⟩ hm (fun _ _ _ _ _ _ us hl => match us, hl with | [_, _], _ => rfl) ?_ ?_
  · rintro ds r ⟨h, n, cs, _, rfl, _⟩
    rfl
  · rintro ds r A outer s0 H E ⟨h, n, cs, o, rfl, rfl⟩ hr
    refine ss_cons (s_lcIf 2 3 (enc := D.int) (l := h.row) (ableB h cs) D.int (ei_list rfl (ev_fld rfl cf.c cf.row (fld_row h) (ev_var 0))) (by rw [o.len]; have := o.small; omega) (fun k hk s1 H1 C cl fp => ?_) (fun k hk _ s1 H1 C cl fp => ev_var 3) ?_)
    · obtain ⟨h0, h1⟩ := o.mem.mp hk
      refine EvT.is (et_and (et_cmp (ev_var 3) (ev_var 1) (cmp_in rfl (w := .int k) (ws := cs.map V.int) rfl (fl_ints cs))) (fun _ => et_cmp (ev_ix rfl (ev_fld rfl cf.c cf.points (fld_points h) (ev_var 0)) (ev_var 3) (pts_at o h0 h1)) ev_non cmp_isnot)) ?_
      rw [inV_ints, isN_oi]
      unfold ableB
      cases ptAt h k <;> rfl
    · refine ss_frz 2 rfl (ss_one (s_ret (ev_sortedLam (h := h) (l := h.row.filter (ableB h cs)) rfl fr cf.c cf.points TB rfl hT hr rfl rfl rfl (ev_var 2) ?_ ?_) rfl))
      · exact Nat.le_trans (List.length_filter_le _ _) (by rw [o.len]; have := o.small; omega)
      · intro x hx
        obtain ⟨h1, h2⟩ := List.mem_filter.mp hx
        obtain ⟨h3, h4⟩ := o.mem.mp h1
        unfold ableB at h2
        rw [Bool.and_eq_true] at h2
        obtain ⟨z, hz⟩ := Option.isSome_iff_exists.mp h2.2
        refine ⟨x.toNat, z, by omega, ?_⟩
        unfold ptAt at hz
        rw [List.getD_eq_getElem?_getD] at hz
        cases q : h.pts[x.toNat]? with
        | none =>
          rw [q] at hz
          cases hz
        | some y =>
          rw [q] at hz
          exact congrArg some hz

def RChosen : List D → Sl → Prop := fun ds r => ∃ (h : Hs) (n : Nat) (cs : List Int), HsOk h n ∧ ds = [.hs h, intsD cs] ∧ r = .m ((chosenM h cs).map D.int)
theorem take_succ_of {α : Type} {l : List α} {i : Nat} {a : α} (h : l[i]? = some a) : l.take (i + 1) = l.take i ++ [a] := take_snoc h
def chAt (h : Hs) (cs : List Int) (i : Nat) : List Int × List Int := ((rankedM h cs).take i).foldl (chStep h) ([], [])
theorem chAt_succ {h : Hs} {cs : List Int} {i : Nat} {k : Int} (e : (rankedM h cs)[i]? = some k) : chAt h cs (i + 1) = chStep h (chAt h cs i) k := by
  unfold chAt
  rw [take_snoc e, List.foldl_append] <;> rfl
theorem chStep_len (h : Hs) (x : List Int × List Int) (k : Int) : (chStep h x k).1.length + (chStep h x k).2.length = x.1.length + x.2.length + 1 := by
  unfold chStep
  split
  · show (x.1 ++ [k]).length + x.2.length = _
    rw [List.length_append, List.length_singleton]
    omega
  · show x.1.length + (x.2 ++ [k]).length = _
    rw [List.length_append, List.length_singleton]
    omega
theorem chFold_len (h : Hs) : ∀ (l : List Int) (x : List Int × List Int), (l.foldl (chStep h) x).1.length + (l.foldl (chStep h) x).2.length = x.1.length + x.2.length + l.length
  | [], _ => rfl
  | k :: l, x => by
    rw [List.foldl_cons, chFold_len h l, chStep_len, List.length_cons]
    omega
theorem chFold_in (h : Hs) (h0 : 0 ≤ h.kept) : ∀ (l : List Int) (x : List Int × List Int), (x.1.length : Int) ≤ h.kept → ((l.foldl (chStep h) x).1.length : Int) ≤ h.kept
  | [], _, e => e
  | k :: l, x, e => by
    rw [List.foldl_cons]
    refine chFold_in h h0 l _ ?_
    unfold chStep
    split
    · rename_i z
      show ((x.1 ++ [k]).length : Int) ≤ _
      rw [List.length_append, List.length_singleton]
      omega
    · exact e
theorem chAt_le {h : Hs} {n : Nat} (o : HsOk h n) (cs : List Int) (i : Nat) : (chAt h cs i).1.length ≤ n ∧ (chAt h cs i).2.length ≤ n ∧ ((chAt h cs i).1.length : Int) ≤ h.kept := by
  have h1 := chFold_len h ((rankedM h cs).take i) ([], [])
  have h2 := ranked_len o cs
  have h3 : ((rankedM h cs).take i).length ≤ n := by rw [List.length_take]; omega
  have e0 : (([], []) : List Int × List Int).1.length + (([], []) : List Int × List Int).2.length = 0 := rfl
  unfold chAt
  refine ⟨by omega, by omega, chFold_in h o.kept0 _ _ o.kept0⟩
theorem c_chosen (F : FnP g.K "chosen" "House.chosen" s_House_chosen f fd) (hm : Meth g.K g.C "chosen" f) (cf : ClsF g) (fr : Free mg) (CR : MCal P w g mg base "ranked" 3 RRanked) : MCal P w g mg base "chosen" 4 RChosen := by
  refine mcal_by (N := ["self", "comers", "inside", "others", "comer", "free"]) (ps := ["self", "comers"]) F ⟨rfl, rfl, rfl, by decide +kernel, rfl, by decide +kernel, by decide +kernel⟩ hm (fun _ _ _ _ _ _ us hl => match us, hl with | [_, _], _ => rfl) ?_ ?_
  · rintro ds r ⟨h, n, cs, _, rfl, _⟩
    rfl
  · rintro ds r cdv A outer s0 H E ⟨h, n, cs, o, rfl, rfl⟩ hr
    have sm := o.small
    refine ss_cons (s_asg 2 (ev_lst ea_nil (by decide)) (ss_cons (s_asg 3 (ev_lst ea_nil (by decide)) ?_)))
    refine ss_cons (s_for 4 (items := (rankedM h cs).map D.int) (ei_list rfl (Ev.fz (ev_meth rfl cf.c CR (fun p q r => lk_no (by decide) (by decide) (by decide) (by decide) (by decide) (by decide) (by decide)) hr (ev_var 0) (ea_cons (ev_var 1) ea_nil) ⟨h, n, cs, o, rfl, rfl⟩)))
      (fun i G => ∃ z : Sl, G = [.v (.hs h), .v (intsD cs), .m ((chAt h cs i).1.map D.int), .m ((chAt h cs i).2.map D.int), z, .un]) ⟨.un, rfl⟩ (fun i d G hd hI => ?_) (fun G hI => ?_))
    · obtain ⟨z, rfl⟩ := hI
      rw [List.getElem?_map] at hd
      obtain ⟨k, hk, rfl⟩ := Option.map_eq_some_iff.mp hd
      have hin := mem_ranked.mp (List.mem_of_getElem? hk)
      obtain ⟨h0, h1⟩ := o.mem.mp hin.1
      obtain ⟨l1, l2, l3⟩ := chAt_le o cs i
      have es := chAt_succ hk
      refine ss_one (s_if (b := decide (kindAt h k = h.kind ∧ ((chAt h cs i).1.length : Int) < h.kept)) (EvT.is (et_and (et_cmp (ev_ix rfl (ev_fld rfl cf.c cf.kinds (fld_kinds h) (ev_var 0)) (ev_var 4) (kinds_at o h0 h1)) (ev_fld rfl cf.c cf.kind (fld_kind h) (ev_var 0)) (cmp_eq rfl hr.units ⟨rfl, rfl⟩ ⟨rfl, rfl⟩)) (fun _ => EvT.bor (et_cmp (ev_len rfl fr (ev_var 2) rfl) (ev_fld rfl cf.c cf.kept (fld_kept h) (ev_var 0)) cmp_lt))) ?_) (fun hb => ?_) (fun hb => ?_))
      · rw [List.length_map]
        show (decide (kindAt h k = h.kind) && decide (((chAt h cs i).1.length : Int) < h.kept)) = _
        rw [Bool.decide_and]
      · have hb' := of_decide_eq_true hb
        refine ss_one (s_append 2 (ds := (chAt h cs i).1.map D.int) (ev_var 4) ⟨.v (.int k), ?_⟩ (by rw [List.length_map]; omega))
        rw [es]
        unfold chStep
        rw [if_pos hb', List.map_append] <;> rfl
      · have hb' := of_decide_eq_false hb
        refine ss_one (s_append 3 (ds := (chAt h cs i).2.map D.int) (ev_var 4) ⟨.v (.int k), ?_⟩ (by rw [List.length_map]; omega))
        rw [es]
        unfold chStep
        rw [if_neg hb', List.map_append] <;> rfl
    · obtain ⟨z, rfl⟩ := hI
      rw [List.length_map]
      have full : chAt h cs (rankedM h cs).length = (rankedM h cs).foldl (chStep h) ([], []) := by
        unfold chAt
        rw [List.take_length]
      obtain ⟨l1, l2, l3⟩ := chAt_le o cs (rankedM h cs).length
      rw [full] at l1 l2 l3 ⊢
      have hk := o.kept
      have hk0 := o.kept0
      have fin : ∀ G : List Sl, G = [.v (.hs h), .v (intsD cs), .m (((rankedM h cs).foldl (chStep h) ([], [])).1.map D.int), .m (((rankedM h cs).foldl (chStep h) ([], [])).2.map D.int), z, .v (.int (chFree h ((rankedM h cs).foldl (chStep h) ([], [])).1.length))] → ∀ (a b c : Pos) (p1 p2 p3 p4 p5 p6 : Pos), Ss g (cxOf CX0 P w g.K mg base ["self", "comers", "inside", "others", "comer", "free"] "House.chosen" (defScope s_House_chosen) f cdv A outer s0 H E).nox G [.Return (some (.Call (.Name "sorted" p1) [.BinOp (.Name "inside" p2) .Add (.Subscript (.Name "others" p3) (.Slice none (some (.Name "free" p4)) none p5) p6) a] [] b)) c] (kRet (.m ((chosenM h cs).map D.int))) := fun G hG a b c p1 p2 p3 p4 p5 p6 => by
        subst hG
        have hf : 0 ≤ chFree h ((rankedM h cs).foldl (chStep h) ([], [])).1.length := by
          unfold chFree
          split <;> omega
        refine ss_frz 2 rfl (ss_frz 3 rfl (ss_one (s_ret (Ev.is (ev_sorted (l := ((rankedM h cs).foldl (chStep h) ([], [])).1 ++ ((rankedM h cs).foldl (chStep h) ([], [])).2.take (chFree h ((rankedM h cs).foldl (chStep h) ([], [])).1.length).toNat) rfl fr (Ev.is (Ev.fz (ev_bin (ev_var 2) (Ev.fz (ev_sl rfl (ev_var 3) eo_none (eo_some (ev_var 5)))) (bin_cat ?_))) ?_) ?_) rfl) rfl)))
        · rw [take_cut hf, List.length_take, List.length_map, List.length_map]
          omega
        · rw [take_cut hf, ← List.map_take, ← List.map_append]
        · rw [List.length_append, List.length_take]
          omega
      refine ss_cons (s_asg 5 (ev_bin (ev_fld rfl cf.c cf.seats (fld_seats h) (ev_var 0)) (ev_fld rfl cf.c cf.kept (fld_kept h) (ev_var 0)) bin_sub) (ss_cons (s_if (et_val (ev_fld rfl cf.c cf.opened (fld_opened h) (ev_var 0))) (fun hb => ss_one (s_asg 5 (ev_bin (ev_fld rfl cf.c cf.seats (fld_seats h) (ev_var 0)) (Ev.bor (ev_len rfl fr (ev_var 2) rfl)) bin_sub) (fin _ ?_ _ _ _ _ _ _ _ _ _))) (fun hb => ss_nil (fin _ ?_ _ _ _ _ _ _ _ _ _)))))
      · unfold chFree
        rw [if_pos hb, List.length_map] <;> rfl
      · unfold chFree
        rw [if_neg (by rw [hb]; decide)] <;> rfl
end
end CH

/-! Choosehall: the world and its houses. -/
namespace CH
open PySem L2
section
variable {P : Program} {w : World} {g : Gb} {mg : Str → Option Value} {base : Heap} {f : Addr} {fd : FuncData}
def RWish : List D → Sl → Prop := fun ds r => ∃ (c m : Int), ds = [.int c, .int m] ∧ 0 ≤ m ∧ m ≤ 100 ∧ r = .m ((wishesBy c m).map D.int)
theorem eqv_int (i j : Int) : (D.int i).eqv (.int j) = decide (i = j) := rfl
theorem c_wish (F : FnP g.K "_law_wishes_by" "_law_wishes_by" s__law_wishes_by f fd) (hm : mg "_law_wishes_by" = some (.ref f)) (fr : Free mg) (CR : Cal P w g mg base "_law_row_by" 1 RRow) : Cal P w g mg base "_law_wishes_by" 2 RWish := by
  refine cal_by (N := ["cell", "houses", "row"]) (ps := ["cell", "houses"]) F ⟨rfl, rfl, rfl, by decide +kernel, rfl, by decide +kernel, by decide +kernel⟩ hm (fun _ _ _ _ _ _ us hl => match us, hl with | [_, _], _ => rfl) ?_ ?_
  · rintro ds r ⟨c, k, rfl, _⟩
    rfl
  · rintro ds r cdv A outer s0 H E ⟨c, m, rfl, h0, h1, rfl⟩ hr
    have hc : 0 ≤ c % (m + 1) ∧ c % (m + 1) < m + 1 := ⟨Int.emod_nonneg _ (by omega), Int.emod_lt_of_pos _ (by omega)⟩
    have hb : b2i (decide (c / 8 % 2 = 1)) = 0 ∨ b2i (decide (c / 8 % 2 = 1)) = 1 := by
      unfold b2i
      split
      · exact Or.inr rfl
      · exact Or.inl rfl
    have hb2 : 0 ≤ m - c % (m + 1) * b2i (decide (c / 8 % 2 = 1)) := by
      rcases hb with e | e <;> rw [e] <;> omega
    refine ss_cons (s_asg 2 (ev_call rfl CR hr (ea_cons (ev_bin (ev_var 0) ev_int (bin_div (by decide))) (ea_cons (ev_var 1) ea_nil)) ⟨_, _, rfl, h0, h1, rfl⟩) ?_)
    refine ss_frz 2 rfl (ss_one (s_ret (Ev.is (ev_sl rfl (ev_var 2) eo_none (eo_some (ev_bin (ev_var 1) (ev_bin (ev_bin (ev_var 0) (ev_bin (ev_var 1) ev_int bin_add) (bin_mod (by omega))) (ev_int_bl fr (ev_cmp (ev_bin (ev_bin (ev_var 0) ev_int (bin_div (by decide))) ev_int (bin_mod (by decide))) ev_int (cmp_eq rfl hr.units ⟨rfl, rfl⟩ ⟨rfl, rfl⟩))) (bin_mul (Or.inl (by omega)))) bin_sub))) (r' := .m ((wishesBy c m).map D.int)) ?_) rfl))
    have e := take_cut (l := (rowBy (c / 16) m).map D.int) hb2
    rw [← List.map_take] at e
    exact congrArg Sl.m e

def RWorld : List D → Sl → Prop := fun ds r => ∃ (s : List Int) (top : Int), ds = [.scr s, .int top] ∧ 0 < top ∧ top ≤ 24 ∧ r = .v (.tup [.lst ((wWish s top).map intsD), .lst ((wRows s top).map rowD)])
theorem map_cong {α β : Type} {f g : α → β} {l : List α} (h : ∀ a ∈ l, f a = g a) : l.map f = l.map g := List.map_congr_left h
theorem c_world (F : FnP g.K "_law_world" "_law_world" s__law_world f fd) (hm : mg "_law_world" = some (.ref f)) (fr : Free mg) (CC : Cal P w g mg base "_law_cell_at" 1 RCell) (CK : Cal P w g mg base "_law_kind_by" 1 RKind) (CP : Cal P w g mg base "_law_points_by" 1 RPts) (CR : Cal P w g mg base "_law_row_by" 1 RRow) (CW : Cal P w g mg base "_law_wishes_by" 2 RWish) : Cal P w g mg base "_law_world" 3 RWorld := by
  refine cal_by (N := ["script", "top", "many", "houses", "wishes", "kinds", "rows", "h", "cell", "seats", "kept", "kind", "points", "tie", "k"]) (ps := ["script", "top"]) F ⟨rfl, rfl, rfl, by decide +kernel, rfl, by decide +kernel, by decide +kernel⟩ hm (fun _ _ _ _ _ _ us hl => match us, hl with | [_, _], _ => rfl) ?_ ?_
  · rintro ds r ⟨c, k, rfl, _⟩
    rfl
  · rintro ds r cdv A outer s0 H E ⟨s, top, rfl, h0, h1, rfl⟩ hr
    obtain ⟨m1, m2⟩ := wMany_pos s h0
    obtain ⟨n1, n2⟩ := wHouses_pos s
    have hr1 := hr.mono (j := 1) (by decide)
    refine ss_cons (s_asg 2 (r := .v (.int (wMany s top))) (ev_bin ev_int (ev_bin (ev_call rfl CC hr1 (ea_cons (ev_var 0) (ea_cons ev_int ea_nil)) ⟨_, _, rfl, by decide, rfl⟩) (ev_var 1) (bin_mod h0)) bin_add) ?_)
    refine ss_cons (s_asg 3 (r := .v (.int (wHouses s))) (ev_bin ev_int (ev_bin (ev_bin (ev_call rfl CC hr1 (ea_cons (ev_var 0) (ea_cons ev_int ea_nil)) ⟨_, _, rfl, by decide, rfl⟩) ev_int (bin_div (by decide))) ev_int (bin_mod (by decide))) bin_add) ?_)
    have rl : (rg 0 (wMany s top)).length ≤ 90000 := by rw [rg_len]; omega
    refine ss_cons (s_lc 4 14 (enc := D.int) (l := rg 0 (wMany s top)) (fun k => intsD (wishesBy (cellAt s (1 + k)) (wHouses s))) (ei_range fr (ev_var 2) ⟨by omega, by omega⟩) rl (fun k hk s1 H1 C cl fp => ?_) ?_)
    · have hk' := mem_rg.mp hk
      exact Ev.fz (ev_call rfl CW hr (ea_cons (ev_call rfl CC hr1 (ea_cons (ev_var 0) (ea_cons (ev_bin ev_int (ev_var 14) bin_add) ea_nil)) ⟨_, _, rfl, by omega, rfl⟩) (ea_cons (ev_var 3) ea_nil)) ⟨_, _, rfl, by omega, by omega, rfl⟩)
    refine ss_frz 4 rfl (ss_cons (s_lc 5 14 (enc := D.int) (l := rg 0 (wMany s top)) (fun k => D.int (kindBy (cellAt s (6 + k)))) (ei_range fr (ev_var 2) ⟨by omega, by omega⟩) rl (fun k hk s1 H1 C cl fp => ?_) ?_))
    · have hk' := mem_rg.mp hk
      exact ev_call rfl CK hr1 (ea_cons (ev_call rfl CC hr1 (ea_cons (ev_var 0) (ea_cons (ev_bin ev_int (ev_var 14) bin_add) ea_nil)) ⟨_, _, rfl, by omega, rfl⟩) ea_nil) ⟨_, rfl, rfl⟩
    refine ss_frz 5 rfl (ss_cons (s_asg 6 (ev_lst ea_nil (by decide)) ?_))
    have ek : ((rg 0 (wMany s top)).map fun k => D.int (kindBy (cellAt s (6 + k)))) = (wKinds s top).map D.int := by
      unfold wKinds
      rw [List.map_map] <;> rfl
    have ew : ((rg 0 (wMany s top)).map fun k => intsD (wishesBy (cellAt s (1 + k)) (wHouses s))) = (wWish s top).map intsD := by
      unfold wWish
      rw [List.map_map] <;> rfl
    rw [ek, ew]
    have hlen : (wRows s top).length = (wHouses s).toNat := by
      unfold wRows
      rw [List.length_map, rg_len]
      omega
    refine ss_cons (s_for 7 (items := (rg 0 (wHouses s)).map D.int) (ei_range fr (ev_var 3) ⟨by omega, by omega⟩) (fun i G => ∃ z1 z2 z3 z4 z5 z6 z7 : Sl, G = [.v (.scr s), .v (.int top), .v (.int (wMany s top)), .v (.int (wHouses s)), .v (.lst ((wWish s top).map intsD)), .v (.lst ((wKinds s top).map D.int)), .m (((wRows s top).take i).map rowD), z1, z2, z3, z4, z5, z6, z7, .un]) ⟨_, _, _, _, _, _, _, rfl⟩ (fun i d G hd hI => ?_) (fun G hI => ?_))
    · obtain ⟨z1, z2, z3, z4, z5, z6, z7, rfl⟩ := hI
      rw [List.getElem?_map] at hd
      obtain ⟨h, hh, rfl⟩ := Option.map_eq_some_iff.mp hd
      have hi := mem_rg.mp (List.mem_of_getElem? hh)
      have hrow : (wRows s top)[i]? = some (wHs s top h) := by
        unfold wRows
        rw [List.getElem?_map, hh] <;> rfl
      have hrow2 : ((wRows s top).take (i + 1)).map rowD = ((wRows s top).take i).map rowD ++ [rowD (wHs s top h)] := by rw [take_snoc hrow, List.map_append] <;> rfl
      have h4 : 0 ≤ cellAt s (11 + 3 * h) % 4 := Int.emod_nonneg _ (by decide)
      refine ss_cons (s_asg 8 (ev_call rfl CC hr1 (ea_cons (ev_var 0) (ea_cons (ev_bin ev_int (ev_bin ev_int (ev_var 7) (bin_mul (Or.inl (by decide)))) bin_add) ea_nil)) ⟨_, _, rfl, by omega, rfl⟩) ?_)
      refine ss_cons (s_asg 9 (ev_bin (ev_var 8) ev_int (bin_mod (by decide))) ?_)
      refine ss_cons (s_asg 10 (ev_bin (ev_bin (ev_var 8) ev_int (bin_div (by decide))) (ev_bin (ev_var 9) ev_int bin_add) (bin_mod (by omega))) ?_)
      refine ss_cons (s_asg 11 (ev_call rfl CK hr1 (ea_cons (ev_bin (ev_var 8) ev_int (bin_div (by decide))) ea_nil) ⟨_, rfl, rfl⟩) ?_)
      refine ss_cons (s_lc 12 14 (enc := D.int) (l := rg 0 (wMany s top)) (fun k => D.oi (pointsBy (cellAt s (12 + 3 * h)) k)) (ei_range fr (ev_var 2) ⟨by omega, by omega⟩) rl (fun k hk s1 H1 C cl fp => ?_) ?_)
      · have hk' := mem_rg.mp hk
        exact ev_call rfl CP hr1 (ea_cons (ev_call rfl CC hr1 (ea_cons (ev_var 0) (ea_cons (ev_bin ev_int (ev_bin ev_int (ev_var 7) (bin_mul (Or.inl (by decide)))) bin_add) ea_nil)) ⟨_, _, rfl, by omega, rfl⟩) (ea_cons (ev_var 14) ea_nil)) ⟨_, _, rfl, by omega, by omega, rfl⟩
      refine ss_frz 12 rfl (ss_cons (s_asg 13 (ev_call rfl CR hr1 (ea_cons (ev_call rfl CC hr1 (ea_cons (ev_var 0) (ea_cons (ev_bin ev_int (ev_bin ev_int (ev_var 7) (bin_mul (Or.inl (by decide)))) bin_add) ea_nil)) ⟨_, _, rfl, by omega, rfl⟩) (ea_cons (ev_var 2) ea_nil)) ⟨_, _, rfl, by omega, by omega, rfl⟩) ?_))
      refine ss_frz 13 rfl (ss_one (s_append 6 (ds := ((wRows s top).take i).map rowD) (d := rowD (wHs s top h)) (Ev.is (ev_tup (ea_cons (ev_var 9) (ea_cons (ev_var 10) (ea_cons (ev_var 11) (ea_cons (ev_cmp (ev_bin (ev_bin (ev_var 8) ev_int (bin_div (by decide))) ev_int (bin_mod (by decide))) ev_int (cmp_eq rfl hr.units ⟨rfl, rfl⟩ ⟨rfl, rfl⟩)) (ea_cons (ev_var 12) (ea_cons (ev_var 5) (ea_cons (ev_var 13) ea_nil))))))) (by show (7 : Nat) ≤ 100000; decide)) ?_) ⟨_, _, _, _, _, _, _, by rw [hrow2] <;> rfl⟩ ?_))
      · show Sl.v (.tup _) = .v (.tup (hsArgs (wHs s top h)))
        have ep : ((rg 0 (wMany s top)).map fun k => D.oi (pointsBy (cellAt s (12 + 3 * h)) k)) = (wHs s top h).pts.map D.oi := by
          show _ = ((rg 0 (wMany s top)).map (pointsBy (cellAt s (12 + 3 * h)))).map D.oi
          rw [List.map_map] <;> rfl
        rw [ep]
        rfl
      · rw [List.length_map, List.length_take]
        omega
    · obtain ⟨z1, z2, z3, z4, z5, z6, z7, rfl⟩ := hI
      rw [show ((rg 0 (wHouses s)).map D.int).length = (wRows s top).length by rw [hlen, List.length_map, rg_len]; omega, List.take_length]
      refine ss_frz 6 rfl (ss_one (s_ret (ev_tup (ea_cons (ev_var 4) (ea_cons (ev_var 6) ea_nil)) (by show (2 : Nat) ≤ 100000; decide)) rfl))

def RHouses : List D → Sl → Prop := fun ds r => ∃ (hs : List Hs), ds = [.lst (hs.map rowD)] ∧ hs.length ≤ 100 ∧ r = .m (hs.map D.hs)
theorem c_houses (F : FnP g.K "_law_houses" "_law_houses" s__law_houses f fd) (hm : mg "_law_houses" = some (.ref f)) (fr : Free mg) (CH : HCal P w g mg base 1) : Cal P w g mg base "_law_houses" 3 RHouses := by
  refine cal_by (N := ["rows", "row"]) (ps := ["rows"]) F ⟨rfl, rfl, rfl, by decide +kernel, rfl, by decide +kernel, by decide +kernel⟩ hm (fun _ _ _ _ _ _ us hl => match us, hl with | [_], _ => rfl) ?_ ?_
  · rintro ds r ⟨hs, rfl, _⟩
    rfl
  · rintro ds r cdv A outer s0 H E ⟨hs, rfl, hl, rfl⟩ hr
    refine ss_one (s_ret (ev_lc 1 (enc := rowD) (l := hs) D.hs (ei_list rfl (ev_var 0)) (by omega) (fun h hh s1 H1 C cl fp => ?_)) rfl)
    exact ev_make (h := h) rfl CH hr (ea_cons (ev_ix rfl (ev_var 1) ev_int rfl) (ea_cons (ev_ix rfl (ev_var 1) ev_int rfl) (ea_cons (ev_ix rfl (ev_var 1) ev_int rfl) (ea_cons (ev_ix rfl (ev_var 1) ev_int rfl) (ea_cons (Ev.fz (ev_list rfl fr (ev_ix rfl (ev_var 1) ev_int rfl))) (ea_cons (Ev.fz (ev_list rfl fr (ev_ix rfl (ev_var 1) ev_int rfl))) (ea_cons (Ev.fz (ev_list rfl fr (ev_ix rfl (ev_var 1) ev_int rfl))) ea_nil)))))))
end
end CH

/-! Choosehall: the law's own rank and choice. -/
namespace CH
open PySem L2
theorem take_pair {x k : Int} {l : List Int} {i : Nat} (h : x ∈ l.take i) (e : l[i]? = some k) : [x, k].Sublist l := by
  have hi := (List.getElem?_eq_some_iff.mp e).1
  have e1 : l.take i ++ k :: l.drop (i + 1) = l := by
    have e2 := (List.getElem?_eq_some_iff.mp e).2
    rw [← e2, List.getElem_cons_drop hi, List.take_append_drop]
  rw [← e1]
  exact List.Sublist.append (l₁ := [x]) (List.singleton_sublist.mpr h) (List.Sublist.cons_cons k (List.nil_sublist _))
theorem bef_ins {h : Hs} {out : List Int} {k : Int} {m : Nat} (pw : out.Pairwise (bef h)) (hm : m ≤ out.length) (hhi : ∀ j x, m ≤ j → out[j]? = some x → ptOf h x < ptOf h k) (hlo : ∀ x, 0 < m → out[m - 1]? = some x → ¬ ptOf h x < ptOf h k)
    (hk : ∀ x ∈ out, [x, k].Sublist h.row) : (out.take m ++ [k] ++ out.drop m).Pairwise (bef h) := by
  have hlow : ∀ x ∈ out.take m, bef h x k := fun x hx => by
    obtain ⟨i, hi, e⟩ := List.getElem_of_mem hx
    have hi2 : i < m := by
      rw [List.length_take] at hi
      omega
    have hx0 : out[i]? = some x := by
      rw [List.getElem_take] at e
      rw [← e]
      exact List.getElem?_eq_getElem (by omega)
    have hlast : out[m - 1]? = some out[m - 1] := List.getElem?_eq_getElem (by omega)
    have h1 := hlo _ (by omega) hlast
    have h2 : ptOf h out[m - 1] ≤ ptOf h x := by
      by_cases z : i = m - 1
      · subst z
        rw [hx0] at hlast
        rw [Option.some.inj hlast]
        exact Int.le_refl _
      · have h3 := List.pairwise_iff_getElem.mp pw i (m - 1) (by omega) (by omega) (by omega)
        have h4 : out[i] = x := Option.some.inj ((List.getElem?_eq_getElem (by omega)).symm.trans hx0)
        rw [h4] at h3
        have := of_decide_eq_true h3.1
        omega
    refine ⟨decide_eq_true (by omega), fun _ => hk x (List.mem_of_mem_take hx)⟩
  have hhigh : ∀ x ∈ out.drop m, bef h k x := fun x hx => by
    obtain ⟨i, hi, e⟩ := List.getElem_of_mem hx
    rw [List.getElem_drop] at e
    rw [List.length_drop] at hi
    have hx0 : out[m + i]? = some x := by
      rw [← e]
      exact List.getElem?_eq_getElem (by omega)
    have h1 := hhi (m + i) x (by omega) hx0
    refine ⟨decide_eq_true (by omega), fun z => ?_⟩
    have := of_decide_eq_true z
    omega
  rw [List.append_assoc, List.pairwise_append]
  refine ⟨pw.sublist (List.take_sublist _ _), List.pairwise_cons.mpr ⟨hhigh, pw.sublist (List.drop_sublist _ _)⟩, fun a ha b hb => ?_⟩
  rcases List.mem_cons.mp hb with e | e
  · rw [e]
    exact hlow a ha
  · have hs : [a, b].Sublist out := by
      have this : [a, b].Sublist (out.take m ++ out.drop m) := List.Sublist.append (List.singleton_sublist.mpr ha) (List.singleton_sublist.mpr e)
      rw [List.take_append_drop] at this
      exact this
    exact List.pairwise_iff_forall_sublist.mp pw hs
theorem oi_some {h : Hs} {k : Int} (e : (ptAt h k).isSome = true) : D.oi (ptAt h k) = D.int (ptOf h k) := by
  rw [ptOf_at]
  obtain ⟨z, hz⟩ := Option.isSome_iff_exists.mp e
  rw [hz] <;> rfl
section
variable {P : Program} {w : World} {g : Gb} {mg : Str → Option Value} {base : Heap} {f : Addr} {fd : FuncData}
def RWhole : List D → Sl → Prop := fun ds r => ∃ i : Int, ds = [.int i] ∧ r = .v (.bl true)
theorem c_whole (F : FnP g.K "_law_whole" "_law_whole" s__law_whole f fd) (hm : mg "_law_whole" = some (.ref f)) (fr : Free mg) : Cal P w g mg base "_law_whole" 1 RWhole := by
  refine cal_by (N := ["found"]) (ps := ["found"]) F ⟨rfl, rfl, rfl, by decide +kernel, rfl, by decide +kernel, by decide +kernel⟩ hm (fun _ _ _ _ _ _ us hl => match us, hl with | [_], _ => rfl) ?_ ?_
  · rintro ds r ⟨i, rfl, _⟩
    rfl
  · rintro ds r cdv A outer s0 H E ⟨i, rfl, rfl⟩ hr
    exact ss_one (s_ret (ev_and (ev_isi (T := "int") (r := true) rfl fr (ev_var 0) rfl (by decide +kernel) (by decide +kernel) fr.int) (fun _ => ev_not (ev_isi (T := "bool") (r := false) rfl fr (ev_var 0) rfl (by decide +kernel) (by decide +kernel) fr.bool))) rfl)

def RLRanked : List D → Sl → Prop := fun ds r => ∃ (h : Hs) (n : Nat) (cs : List Int), HsOk h n ∧ ds = [rowD h, intsD cs] ∧ r = .m ((rankedM h cs).map D.int)
theorem at_row {h : Hs} : (rowD h).at_ 6 = some (.lst (h.row.map D.int)) := rfl
theorem at_pts {h : Hs} : (rowD h).at_ 4 = some (.lst (h.pts.map D.oi)) := rfl
theorem at_kinds {h : Hs} : (rowD h).at_ 5 = some (.lst (h.kinds.map D.int)) := rfl
theorem at_kind {h : Hs} : (rowD h).at_ 2 = some (.int h.kind) := rfl
theorem at_kept {h : Hs} : (rowD h).at_ 1 = some (.int h.kept) := rfl
theorem at_seats {h : Hs} : (rowD h).at_ 0 = some (.int h.seats) := rfl
theorem at_opened {h : Hs} : (rowD h).at_ 3 = some (.bl h.opened) := rfl
theorem ints_at {l : List Int} {i : Int} {x : Int} (h0 : 0 ≤ i) (e : l[i.toNat]? = some x) : (D.lst (l.map D.int)).at_ i = some (.int x) := at_nat h0 (by rw [List.getElem?_map, e] <;> rfl)
theorem c_lranked (F : FnP g.K "_law_ranked" "_law_ranked" s__law_ranked f fd) (hm : mg "_law_ranked" = some (.ref f)) (fr : Free mg) : Cal P w g mg base "_law_ranked" 1 RLRanked := by
  refine cal_by (N := ["row", "comers", "able", "out", "k", "at"]) (ps := ["row", "comers"]) F ⟨rfl, rfl, rfl, by decide +kernel, rfl, by decide +kernel, by decide +kernel⟩ hm (fun _ _ _ _ _ _ us hl => match us, hl with | [_, _], _ => rfl) ?_ ?_
  · rintro ds r ⟨h, n, cs, _, rfl, _⟩
    rfl
  · rintro ds r cdv A outer s0 H E ⟨h, n, cs, o, rfl, rfl⟩ hr
    have sm := o.small
    refine ss_cons (s_lcIf 2 4 (enc := D.int) (l := h.row) (ableB h cs) D.int (ei_list rfl (ev_ix rfl (ev_var 0) ev_int at_row)) (by rw [o.len]; omega) (fun k hk s1 H1 C cl fp => ?_) (fun k hk _ s1 H1 C cl fp => ev_var 4) ?_)
    · obtain ⟨h0, h1⟩ := o.mem.mp hk
      refine EvT.is (et_and (et_cmp (ev_var 4) (ev_var 1) (cmp_in rfl (w := .int k) (ws := cs.map V.int) rfl (fl_ints cs))) (fun _ => et_cmp (ev_ix rfl (ev_ix rfl (ev_var 0) ev_int at_pts) (ev_var 4) (pts_at o h0 h1)) ev_non cmp_isnot)) ?_
      rw [inV_ints, isN_oi]
      unfold ableB
      cases ptAt h k <;> rfl
    have fin : ∀ x ∈ h.row.filter (ableB h cs), (0 ≤ x ∧ x < n) ∧ (ptAt h x).isSome = true := fun x hx => by
      obtain ⟨h1, h2⟩ := List.mem_filter.mp hx
      unfold ableB at h2
      rw [Bool.and_eq_true] at h2
      exact ⟨o.mem.mp h1, h2.2⟩
    have fnd : (h.row.filter (ableB h cs)).Nodup := o.nodup.filter _
    have flen : (h.row.filter (ableB h cs)).length ≤ n := Nat.le_trans (List.length_filter_le _ _) (by rw [o.len]; exact Nat.le_refl _)
    refine ss_frz 2 rfl (ss_cons (s_asg 3 (ev_lst ea_nil (by decide)) (ss_cons (s_for 4 (items := (h.row.filter (ableB h cs)).map D.int) (ei_list rfl (ev_var 2)) (fun i G => ∃ (out : List Int) (z4 z5 : Sl), out.Nodup ∧ (∀ x, x ∈ out ↔ x ∈ (h.row.filter (ableB h cs)).take i) ∧ out.Pairwise (bef h) ∧ G = [.v (rowD h), .v (intsD cs), .v (.lst ((h.row.filter (ableB h cs)).map D.int)), .m (out.map D.int), z4, z5]) ⟨[], _, _, List.nodup_nil, fun x => Iff.rfl, List.Pairwise.nil, rfl⟩ (fun i d G hd hI => ?_) (fun G hI => ?_)))))
    · obtain ⟨out, z4, z5, nd, mem, pw, rfl⟩ := hI
      rw [List.getElem?_map] at hd
      obtain ⟨k, hk, rfl⟩ := Option.map_eq_some_iff.mp hd
      have hkF := List.mem_of_getElem? hk
      obtain ⟨⟨k0, k1⟩, kS⟩ := fin k hkF
      have outF : ∀ x ∈ out, (0 ≤ x ∧ x < n) ∧ (ptAt h x).isSome = true := fun x hx => fin x (List.mem_of_mem_take ((mem x).mp hx))
      have olen : out.length ≤ n := Nat.le_trans (sub_len nd fun x hx => List.mem_of_mem_take ((mem x).mp hx)) flen
      have hpair : ∀ x ∈ out, [x, k].Sublist h.row := fun x hx => (take_pair ((mem x).mp hx) hk).trans List.filter_sublist
      have knot : k ∉ out := fun z => by
        have := take_pair ((mem k).mp z) hk
        have := fnd.sublist this
        exact (List.nodup_cons.mp this).1 (List.mem_singleton.mpr rfl)
      refine ss_cons (s_asg 5 (Ev.bor (ev_len rfl fr (ev_var 3) rfl)) (ss_cons (s_while (fun m G => m ≤ out.length ∧ (∀ j x, m ≤ j → out[j]? = some x → ptOf h x < ptOf h k) ∧ G = [.v (rowD h), .v (intsD cs), .v (.lst ((h.row.filter (ableB h cs)).map D.int)), .m (out.map D.int), .v (.int k), .v (.int (m : Int))]) out.length ⟨Nat.le_refl _, fun j x hj hx => ?_, ?_⟩ (fun m G hW => ?_))))
      · have := (List.getElem?_eq_some_iff.mp hx).1
        omega
      · rw [List.length_map] <;> rfl
      · obtain ⟨hm1, hm2, rfl⟩ := hW
        by_cases hc : 0 < m
        · have hx1 : out[m - 1]? = some out[m - 1] := List.getElem?_eq_getElem (by omega)
          obtain ⟨⟨x0, x1⟩, xS⟩ := outF _ (List.mem_of_getElem? hx1)
          have e1 : (D.lst (out.map D.int)).at_ ((m : Int) - 1) = some (.int out[m - 1]) := ints_at (by omega) (by rw [show ((m : Int) - 1).toNat = m - 1 by omega]; exact hx1)
          have e2 : (D.lst (h.pts.map D.oi)).at_ out[m - 1] = some (.int (ptOf h out[m - 1])) := by rw [pts_at o x0 x1, oi_some xS]
          have e3 : (D.lst (h.pts.map D.oi)).at_ k = some (.int (ptOf h k)) := by rw [pts_at o k0 k1, oi_some kS]
          refine ⟨decide (ptOf h out[m - 1] < ptOf h k), EvT.is (et_and (et_cmp (ev_var 5) ev_int cmp_gt) (fun _ => EvT.bor (et_cmp (ev_ix rfl (ev_ix rfl (ev_var 0) ev_int at_pts) (ev_ix rfl (ev_var 3) (ev_bin (ev_var 5) ev_int bin_sub) e1) e2) (ev_ix rfl (ev_ix rfl (ev_var 0) ev_int at_pts) (ev_var 4) e3) cmp_lt))) ?_, fun hb => ?_, fun hb => ?_⟩
          · rw [decide_eq_true (p := (0 : Int) < (m : Int)) (by omega), Bool.true_and]
          · have hb' := of_decide_eq_true hb
            refine ss_one (s_asg 5 (ev_bin (ev_var 5) ev_int bin_sub) ⟨m - 1, by omega, by omega, fun j x hj hx => ?_, ?_⟩)
            · by_cases z : m ≤ j
              · exact hm2 j x z hx
              · have : j = m - 1 := by omega
                rw [this] at hx
                rw [hx1] at hx
                rw [← Option.some.inj hx]
                exact hb'
            · show _ = [_, _, _, _, _, Sl.v (.int ((m - 1 : Nat) : Int))]
              rw [show ((m - 1 : Nat) : Int) = (m : Int) - 1 by omega] <;> rfl
          · have hb' := of_decide_eq_false hb
            refine ss_one (s_insert 3 (ds := out.map D.int) (n := (m : Int)) (d := .int k) (ev_var 5) (ev_var 4) ⟨by omega, by omega⟩ ⟨out.take m ++ [k] ++ out.drop m, .v (.int k), .v (.int (m : Int)), ?_, fun x => ?_, bef_ins pw hm1 hm2 (fun x _ hx => ?_) hpair, ?_⟩ (by rw [List.length_map]; omega))
            · have e : (out.take m ++ [k] ++ out.drop m).Perm (k :: out) := by
                rw [List.append_assoc]
                refine List.perm_middle.trans (List.Perm.cons k ?_)
                show (out.take m ++ out.drop m).Perm out
                rw [List.take_append_drop]
              exact e.nodup_iff.mpr (List.nodup_cons.mpr ⟨knot, nd⟩)
            · rw [take_snoc hk, List.mem_append, List.mem_append, List.mem_append, List.mem_singleton, ← mem x]
              constructor
              · rintro ((z | z) | z)
                · exact Or.inl (List.mem_of_mem_take z)
                · exact Or.inr z
                · exact Or.inl (List.mem_of_mem_drop z)
              · rintro (z | z)
                · rw [← List.take_append_drop m out, List.mem_append] at z
                  rcases z with z | z
                  · exact Or.inl (Or.inl z)
                  · exact Or.inr z
                · exact Or.inl (Or.inr z)
            · rw [hx1] at hx
              rw [← Option.some.inj hx]
              exact hb'
            · rw [List.map_append, List.map_append, List.map_take, List.map_drop, Int.toNat_natCast] <;> rfl
        · have hm0 : m = 0 := by omega
          subst hm0
          refine ⟨false, EvT.is (et_and (r' := false) (et_cmp (ev_var 5) ev_int cmp_gt) (fun z => ?_)) ?_, fun hb => (by cases hb), fun _ => ?_⟩
          · have := of_decide_eq_true z
            exact absurd this (by decide)
          · rfl
          · refine ss_one (s_insert 3 (ds := out.map D.int) (n := ((0 : Nat) : Int)) (d := .int k) (ev_var 5) (ev_var 4) ⟨by omega, by omega⟩ ⟨k :: out, .v (.int k), .v (.int ((0 : Nat) : Int)), List.nodup_cons.mpr ⟨knot, nd⟩, fun x => ?_, ?_, ?_⟩ (by rw [List.length_map]; omega))
            · rw [take_snoc hk, List.mem_append, List.mem_singleton, List.mem_cons, ← mem x]
              exact ⟨fun z => z.symm, fun z => z.symm⟩
            · have := bef_ins pw hm1 hm2 (fun x z _ => absurd z (by omega)) hpair
              rw [List.take_zero, List.drop_zero] at this
              exact this
            · rfl
    · obtain ⟨out, z4, z5, nd, mem, pw, rfl⟩ := hI
      have e : out = rankedM h cs := by
        refine rank_uniq o.nodup nd (ranked_nodup o.nodup cs) pw (ranked_bef o.nodup cs) fun x => ?_
        rw [mem x, List.length_map, List.take_length]
        unfold rankedM
        rw [(List.mergeSort_perm _ _).mem_iff]
      rw [e]
      exact ss_one (s_retOwn 3 rfl)
end
end CH

/-! Choosehall: the law's own choice. -/
namespace CH
open PySem L2
theorem chStep_mono {h : Hs} {x : List Int × List Int} {k a : Int} : (a ∈ x.1 → a ∈ (chStep h x k).1) ∧ (a ∈ x.2 → a ∈ (chStep h x k).2) := by
  unfold chStep
  split
  · exact ⟨fun z => List.mem_append_left _ z, id⟩
  · exact ⟨id, fun z => List.mem_append_left _ z⟩
theorem chFold_mono {h : Hs} {a : Int} : ∀ (l : List Int) (x : List Int × List Int), (a ∈ x.1 → a ∈ (l.foldl (chStep h) x).1) ∧ (a ∈ x.2 → a ∈ (l.foldl (chStep h) x).2)
  | [], x => ⟨id, id⟩
  | k :: l, x => by
    rw [List.foldl_cons]
    have h1 := chFold_mono (h := h) (a := a) l (chStep h x k)
    have h2 := chStep_mono (h := h) (x := x) (k := k) (a := a)
    exact ⟨fun z => h1.1 (h2.1 z), fun z => h1.2 (h2.2 z)⟩
theorem chAt_all {h : Hs} {cs : List Int} {i : Nat} {a : Int} : (a ∈ (chAt h cs i).1 → a ∈ ((rankedM h cs).foldl (chStep h) ([], [])).1) ∧ (a ∈ (chAt h cs i).2 → a ∈ ((rankedM h cs).foldl (chStep h) ([], [])).2) := by
  have e : (rankedM h cs).foldl (chStep h) ([], []) = ((rankedM h cs).drop i).foldl (chStep h) (chAt h cs i) := by
    unfold chAt
    rw [← List.foldl_append, List.take_append_drop]
  rw [e]
  exact chFold_mono _ _
theorem chAt_mem {h : Hs} (h0 : 0 ≤ h.kept) {cs : List Int} {i : Nat} {a : Int} : a ∈ (rankedM h cs).take i ↔ a ∈ (chAt h cs i).1 ∨ a ∈ (chAt h cs i).2 := by
  unfold chAt
  rw [fold_split h _ ([], []) h.kept.toNat (by show (0 : Int) + _ = _; omega)]
  exact split_mem _ _
theorem chAll_nd {h : Hs} {n : Nat} (o : HsOk h n) (cs : List Int) : (((rankedM h cs).foldl (chStep h) ([], [])).1 ++ ((rankedM h cs).foldl (chStep h) ([], [])).2).Nodup := by
  rw [fold_split h _ ([], []) h.kept.toNat (by have := o.kept0; show (0 : Int) + _ = _; omega)]
  exact (split_perm _ _).nodup_iff.mpr (ranked_nodup o.nodup cs)
def keysV (l : List Int) : List (Int × V) := l.map fun x => (x, V.bl true)
theorem keysV_any (l : List Int) (k : Int) : ((keysV l).any fun p => decide (p.1 = k)) = decide (k ∈ l) := by
  unfold keysV
  induction l with
  | nil => rfl
  | cons a r ih =>
    rw [List.map_cons, List.any_cons, ih]
    by_cases h : a = k
    · rw [decide_eq_true h, Bool.true_or]
      exact (decide_eq_true (by rw [h]; exact List.mem_cons_self)).symm
    · rw [decide_eq_false h, Bool.false_or]
      refine decide_eq_decide.mpr ⟨fun z => List.mem_cons_of_mem _ z, fun z => ?_⟩
      rcases List.mem_cons.mp z with e | e
      · exact absurd e.symm h
      · exact e
theorem keysV_ne {l : List Int} {k : Int} (h : k ∉ l) : ∀ p ∈ keysV l, p.1 ≠ k := fun p hp e => by
  unfold keysV at hp
  obtain ⟨x, hx, rfl⟩ := List.mem_map.mp hp
  exact h (by rw [← e]; exact hx)
theorem keysV_snoc (l : List Int) (k : Int) : keysV l ++ [(k, V.bl true)] = keysV (l ++ [k]) := by
  unfold keysV
  rw [List.map_append] <;> rfl
theorem keysV_keys (l : List Int) : (keysV l).map (·.1) = l := by
  unfold keysV
  rw [List.map_map]
  exact List.map_id l
section
variable {P : Program} {w : World} {g : Gb} {mg : Str → Option Value} {base : Heap} {f : Addr} {fd : FuncData}
def RLChosen : List D → Sl → Prop := fun ds r => ∃ (h : Hs) (n : Nat) (cs : List Int), HsOk h n ∧ ds = [rowD h, intsD cs] ∧ r = .m ((chosenM h cs).map D.int)
theorem c_lchosen (F : FnP g.K "_law_chosen" "_law_chosen" s__law_chosen f fd) (hm : mg "_law_chosen" = some (.ref f)) (fr : Free mg) (CR : Cal P w g mg base "_law_ranked" 1 RLRanked) : Cal P w g mg base "_law_chosen" 2 RLChosen := by
  refine cal_by (N := ["row", "comers", "taken", "inside", "k", "free"]) (ps := ["row", "comers"]) F ⟨rfl, rfl, rfl, by decide +kernel, rfl, by decide +kernel, by decide +kernel⟩ hm (fun _ _ _ _ _ _ us hl => match us, hl with | [_, _], _ => rfl) ?_ ?_
  · rintro ds r ⟨h, n, cs, _, rfl, _⟩
    rfl
  · rintro ds r cdv A outer s0 H E ⟨h, n, cs, o, rfl, rfl⟩ hr
    have sm := o.small
    have hk := o.kept
    have hk0 := o.kept0
    have hu : A.units + 3 + 64 < cLine := hr.units
    have nR := ranked_nodup o.nodup cs
    have lR := ranked_len o cs
    have nA := chAll_nd o cs
    have full : chAt h cs (rankedM h cs).length = (rankedM h cs).foldl (chStep h) ([], []) := by
      unfold chAt
      rw [List.take_length]
    generalize hall : (rankedM h cs).foldl (chStep h) ([], []) = all at nA full
    have notin : ∀ {i : Nat} {k : Int}, (rankedM h cs)[i]? = some k → k ∉ (rankedM h cs).take i := fun {i k} e z => by
      have := nR.sublist (take_pair z e)
      exact (List.nodup_cons.mp this).1 (List.mem_singleton.mpr rfl)
    refine ss_cons (s_asg 2 ev_dnew (ss_cons (s_asg 3 ev_int ?_)))
    refine ss_cons (s_for 4 (items := (rankedM h cs).map D.int) (ei_list rfl (Ev.fz (ev_call rfl CR hr (ea_cons (ev_var 0) (ea_cons (ev_var 1) ea_nil)) ⟨h, n, cs, o, rfl, rfl⟩)))
      (fun i G => ∃ z : Sl, G = [.v (rowD h), .v (intsD cs), .dc (keysV (chAt h cs i).1), .v (.int ((chAt h cs i).1.length : Int)), z, .un]) ⟨.un, rfl⟩ (fun i d G hd hI => ?_) (fun G hI => ?_))
    · obtain ⟨z, rfl⟩ := hI
      rw [List.getElem?_map] at hd
      obtain ⟨k, hkk, rfl⟩ := Option.map_eq_some_iff.mp hd
      have hin := mem_ranked.mp (List.mem_of_getElem? hkk)
      obtain ⟨h0, h1⟩ := o.mem.mp hin.1
      obtain ⟨l1, l2, l3⟩ := chAt_le o cs i
      have es := chAt_succ hkk
      refine ss_one (s_if (b := decide (kindAt h k = h.kind ∧ ((chAt h cs i).1.length : Int) < h.kept)) (EvT.is (et_and (et_cmp (ev_ix rfl (ev_ix rfl (ev_var 0) ev_int at_kinds) (ev_var 4) (kinds_at o h0 h1)) (ev_ix rfl (ev_var 0) ev_int at_kind) (cmp_eq rfl hr.units ⟨rfl, rfl⟩ ⟨rfl, rfl⟩)) (fun _ => et_cmp (ev_var 3) (ev_ix rfl (ev_var 0) ev_int at_kept) cmp_lt)) ?_) (fun hb => ?_) (fun hb => ?_))
      · show (decide (kindAt h k = h.kind) && decide (((chAt h cs i).1.length : Int) < h.kept)) = _
        rw [Bool.decide_and]
      · have hb' := of_decide_eq_true hb
        have hnk : k ∉ (chAt h cs i).1 := fun z => notin hkk ((chAt_mem hk0).mpr (Or.inl z))
        have e1 : (chAt h cs (i + 1)).1 = (chAt h cs i).1 ++ [k] := by
          rw [es]
          unfold chStep
          rw [if_pos hb']
        refine ss_cons (s_dput 2 (w := V.bl true) (by show A.units + 3 + 1 < cLine; omega) ev_true rfl (ev_var 4) (keysV_ne hnk) (by unfold keysV; rw [List.length_map]; omega) (ss_one (s_asg 3 (ev_bin (ev_var 3) ev_int bin_add) ⟨.v (.int k), ?_⟩)))
        rw [e1, ← keysV_snoc, List.length_append]
        rfl
      · have hb' := of_decide_eq_false hb
        have e1 : (chAt h cs (i + 1)).1 = (chAt h cs i).1 := by
          rw [es]
          unfold chStep
          rw [if_neg hb']
        refine ss_nil ⟨.v (.int k), ?_⟩
        rw [e1]
        rfl
    · obtain ⟨z, rfl⟩ := hI
      rw [List.length_map, full]
      obtain ⟨l1, l2, l3⟩ := chAt_le o cs (rankedM h cs).length
      rw [full] at l1 l2 l3
      have hF0 : 0 ≤ chFree h all.1.length := by
        unfold chFree
        split <;> omega
      have ech : chosenM h cs = (all.1 ++ all.2.take (chFree h all.1.length).toNat).mergeSort leB := by
        unfold chosenM
        rw [hall]
      obtain ⟨fr0, hfr⟩ : ∃ m : Nat, chFree h all.1.length = (m : Int) := ⟨_, (Int.toNat_of_nonneg hF0).symm⟩
      refine ss_cons (s_asg 5 (ev_bin (ev_ix rfl (ev_var 0) ev_int at_seats) (ev_ix rfl (ev_var 0) ev_int at_kept) bin_sub) (ss_cons (s_ifJ (fun G => G = [.v (rowD h), .v (intsD cs), .dc (keysV all.1), .v (.int (all.1.length : Int)), z, .v (.int (fr0 : Int))]) (et_val (ev_ix rfl (ev_var 0) ev_int at_opened)) (fun hb => ss_one (s_asg 5 (ev_bin (ev_ix rfl (ev_var 0) ev_int at_seats) (ev_var 3) bin_sub) ?_)) (fun hb => ss_nil ?_) (fun G hG => ?_))))
      · rw [← hfr]
        unfold chFree
        rw [if_pos hb] <;> rfl
      · rw [← hfr]
        unfold chFree
        rw [if_neg (by rw [hb]; decide)] <;> rfl
      subst hG
      refine ss_cons (s_for 4 (items := (rankedM h cs).map D.int) (ei_list rfl (Ev.fz (ev_call rfl CR hr (ea_cons (ev_var 0) (ea_cons (ev_var 1) ea_nil)) ⟨h, n, cs, o, rfl, rfl⟩)))
        (fun i G => ∃ z : Sl, G = [.v (rowD h), .v (intsD cs), .dc (keysV (all.1 ++ (chAt h cs i).2.take fr0)), .v (.int (all.1.length : Int)), z, .v (.int ((fr0 - (chAt h cs i).2.length : Nat) : Int))]) ⟨z, ?_⟩ (fun i d G hd hI => ?_) (fun G hI => ?_))
      · show _ = [_, _, Sl.dc (keysV (all.1 ++ ([] : List Int).take fr0)), _, _, _]
        rw [List.take_nil, List.append_nil]
        rfl
      · obtain ⟨z, rfl⟩ := hI
        rw [List.getElem?_map] at hd
        obtain ⟨k, hkk, rfl⟩ := Option.map_eq_some_iff.mp hd
        obtain ⟨m1, m2, m3⟩ := chAt_le o cs i
        have es := chAt_succ hkk
        have hno : k ∉ (chAt h cs i).2 := fun z => notin hkk ((chAt_mem hk0).mpr (Or.inr z))
        have ekey : decide (k ∈ all.1 ++ (chAt h cs i).2.take fr0) = decide (k ∈ all.1) := decide_eq_decide.mpr (by
          rw [List.mem_append]
          exact ⟨fun z => z.elim id fun z => absurd (List.mem_of_mem_take z) hno, Or.inl⟩)
        refine ss_one (s_if (b := !decide (k ∈ all.1) && decide (0 < ((fr0 - (chAt h cs i).2.length : Nat) : Int))) (EvT.is (et_and (et_dnotin 2 (by show A.units + 3 + 1 < cLine; omega) (ev_var 4)) (fun _ => et_cmp (ev_var 5) ev_int cmp_gt)) ?_) (fun hb => ?_) (fun hb => ?_))
        · rw [keysV_any, ekey]
        · rw [Bool.and_eq_true] at hb
          have hb1 : k ∉ all.1 := of_decide_eq_false (by
            have := hb.1
            cases q : decide (k ∈ all.1) with
            | false => rfl
            | true =>
              rw [q] at this
              cases this)
          have hb2 := of_decide_eq_true hb.2
          have hst : ¬ (kindAt h k = h.kind ∧ ((chAt h cs i).1.length : Int) < h.kept) := fun zz => hb1 (by
            have : k ∈ (chAt h cs (i + 1)).1 := by
              rw [es]
              unfold chStep
              rw [if_pos zz]
              exact List.mem_append_right _ (List.mem_singleton.mpr rfl)
            have := chAt_all.1 this
            rw [hall] at this
            exact this)
          have e2 : (chAt h cs (i + 1)).2 = (chAt h cs i).2 ++ [k] := by
            rw [es]
            unfold chStep
            rw [if_neg hst]
          have hlen : (chAt h cs i).2.length < fr0 := by omega
          have hnk : k ∉ all.1 ++ (chAt h cs i).2.take fr0 := fun zz => by
            have := decide_eq_true zz
            rw [ekey, decide_eq_true_eq] at this
            exact hb1 this
          refine ss_cons (s_dput 2 (w := V.bl true) (by show A.units + 3 + 1 < cLine; omega) ev_true rfl (ev_var 4) (keysV_ne hnk) (by unfold keysV; rw [List.length_map, List.length_append, List.length_take]; omega) (ss_one (s_asg 5 (ev_bin (ev_var 5) ev_int bin_sub) ⟨.v (.int k), ?_⟩)))
          rw [keysV_snoc, e2, List.take_of_length_le (l := (chAt h cs i).2) (by omega), List.take_of_length_le (by rw [List.length_append, List.length_singleton]; omega), List.append_assoc, List.length_append, List.length_singleton]
          rw [show (((fr0 - ((chAt h cs i).2.length + 1) : Nat)) : Int) = ((fr0 - (chAt h cs i).2.length : Nat) : Int) - 1 by omega]
          rfl
        · refine ss_nil ⟨.v (.int k), ?_⟩
          have key : (chAt h cs (i + 1)).2.take fr0 = (chAt h cs i).2.take fr0 ∧ fr0 - (chAt h cs (i + 1)).2.length = fr0 - (chAt h cs i).2.length := by
            by_cases zz : kindAt h k = h.kind ∧ ((chAt h cs i).1.length : Int) < h.kept
            · have e2 : (chAt h cs (i + 1)).2 = (chAt h cs i).2 := by
                rw [es]
                unfold chStep
                rw [if_pos zz]
              rw [e2]
              exact ⟨rfl, rfl⟩
            · have e2 : (chAt h cs (i + 1)).2 = (chAt h cs i).2 ++ [k] := by
                rw [es]
                unfold chStep
                rw [if_neg zz]
              have hk2 : k ∈ all.2 := by
                have : k ∈ (chAt h cs (i + 1)).2 := by
                  rw [e2]
                  exact List.mem_append_right _ (List.mem_singleton.mpr rfl)
                have := chAt_all.2 this
                rw [hall] at this
                exact this
              have hk1 : k ∉ all.1 := fun q => (List.nodup_append.mp nA).2.2 k q k hk2 rfl
              rw [decide_eq_false hk1] at hb
              have hb2 : decide (0 < ((fr0 - (chAt h cs i).2.length : Nat) : Int)) = false := hb
              have hb3 := of_decide_eq_false hb2
              have hle : fr0 ≤ (chAt h cs i).2.length := by omega
              rw [e2, List.take_append_of_le_length hle, List.length_append]
              exact ⟨rfl, by omega⟩
          rw [key.1, key.2]
          rfl
      · obtain ⟨z, rfl⟩ := hI
        rw [List.length_map, full, ech, hfr, Int.toNat_natCast]
        refine ss_one (s_ret (Ev.is (ev_sortedD 2 (kvs := keysV (all.1 ++ all.2.take fr0)) fr rfl (by unfold keysV; rw [List.length_map, List.length_append, List.length_take]; omega)) (r' := .m (((all.1 ++ all.2.take fr0).mergeSort leB).map D.int)) ?_) rfl)
        rw [keysV_keys] <;> rfl
end
end CH

/-! Choosehall: what a law promises; small things. -/
namespace CH
open PySem L2
def RLaw : List D → Sl → Prop := fun ds r => ∃ (s : List Int), ds = [.scr s] ∧ r = .v (.bl true)
theorem at0 {d : D} {l : List D} : (D.lst (d :: l)).at_ 0 = some d := at_nat (by decide) rfl
theorem rg_cons {n : Int} (h : 0 < n) : rg 0 n = 0 :: rg 1 n := by
  unfold rg
  have e : (n - 0).toNat = (n - 1).toNat + 1 := by omega
  rw [e, List.range_succ_eq_map, List.map_cons, List.map_map]
  congr 1
  refine List.map_congr_left fun i _ => ?_
  show (0 : Int) + ((i + 1 : Nat) : Int) = 1 + (i : Int)
  omega
theorem wRows_cons (s : List Int) (top : Int) : ∃ t, wRows s top = wHs s top 0 :: t := by
  obtain ⟨h1, h2⟩ := wHouses_pos s
  unfold wRows
  rw [rg_cons (by omega)]
  exact ⟨_, rfl⟩
theorem eqv_self (l : List Int) : (intsD l).eqv (intsD l) = true := by rw [eqv_ints, decide_eq_true rfl]
theorem no_chosen {h : Hs} (p q r : Addr) : (flds h p q r).lookup ("chosen" : Str) = none := lk_no (by decide) (by decide) (by decide) (by decide) (by decide) (by decide) (by decide)
theorem no_ranked {h : Hs} (p q r : Addr) : (flds h p q r).lookup ("ranked" : Str) = none := lk_no (by decide) (by decide) (by decide) (by decide) (by decide) (by decide) (by decide)
theorem no_more {h : Hs} (p q r : Addr) : (flds h p q r).lookup ("with_more" : Str) = none := lk_no (by decide) (by decide) (by decide) (by decide) (by decide) (by decide) (by decide)
end CH

/-! Choosehall: places, who holds whom, who would rather. -/
namespace CH
open PySem L2
def placeAt (ps : List (Option Int)) (k : Int) : Option Int := ps.getD k.toNat none
def wishAt (ws : List (List Int)) (k : Int) : List Int := ws.getD k.toNat []
def hs0 : Hs := ⟨0, 0, 0, false, [], [], []⟩
def houseAt (hs : List Hs) (h : Int) : Hs := hs.getD h.toNat hs0
def heldM (ps : List (Option Int)) (h : Int) : List Int := (rg 0 ps.length).filter fun k => decide (placeAt ps k = some h)
/-- the houses of a row ahead of a place -/
def aheadM : List Int → Option Int → List Int
  | [], _ => []
  | h :: r, p => if some h = p then [] else h :: aheadM r p
def ratherM (ws : List (List Int)) (ps : List (Option Int)) (k : Int) : List Int := aheadM (wishAt ws k) (placeAt ps k)
def wantB (hs : List Hs) (ps : List (Option Int)) (k h : Int) : Bool := decide (k ∈ chosenM (houseAt hs h) (heldM ps h ++ [k]))
def pairsOf (ws : List (List Int)) (hs : List Hs) (ps : List (Option Int)) (k : Int) : List (Int × Int) := ((ratherM ws ps k).filter (wantB hs ps k)).map fun h => (k, h)
def pairsM (ws : List (List Int)) (hs : List Hs) (ps : List (Option Int)) : List (Int × Int) := (rg 0 ps.length).flatMap (pairsOf ws hs ps)
/-- a sound world: n comers, the wishes' houses are there, each once -/
structure WOk (ws : List (List Int)) (hs : List Hs) (n : Nat) : Prop where
  len : ws.length = n
  small : n ≤ 24
  few : hs.length ≤ 8
  house : ∀ h ∈ hs, HsOk h n
  wish : ∀ r ∈ ws, r.Nodup ∧ ∀ x ∈ r, 0 ≤ x ∧ x < hs.length
theorem aheadM_mem {h : Int} : ∀ {r : List Int} {p : Option Int}, h ∈ aheadM r p → h ∈ r ∧ some h ≠ p
  | [], _, z => by cases z
  | a :: r, p, z => by
    unfold aheadM at z
    by_cases e : some a = p
    · rw [if_pos e] at z
      cases z
    · rw [if_neg e] at z
      rcases List.mem_cons.mp z with w | w
      · rw [w]
        exact ⟨List.mem_cons_self, e⟩
      · have := aheadM_mem w
        exact ⟨List.mem_cons_of_mem _ this.1, this.2⟩
theorem aheadM_all : ∀ {r : List Int} {p : Option Int}, (∀ h ∈ r, some h ≠ p) → aheadM r p = r
  | [], _, _ => rfl
  | a :: r, p, z => by
    unfold aheadM
    rw [if_neg (z a List.mem_cons_self), aheadM_all fun h hh => z h (List.mem_cons_of_mem _ hh)]
theorem aheadM_take : ∀ {r : List Int} {x : Int} {j : Nat}, r[j]? = some x → (∀ m, m < j → r[m]? ≠ some x) → aheadM r (some x) = r.take j
  | [], _, _, h, _ => by cases h
  | a :: r, x, 0, h, _ => by
    have e : a = x := Option.some.inj h
    unfold aheadM
    rw [if_pos (by rw [e])] <;> rfl
  | a :: r, x, j + 1, h, hn => by
    have e : ¬ some a = some x := fun z => hn 0 (Nat.succ_pos _) z
    unfold aheadM
    rw [if_neg e, List.take_succ_cons, aheadM_take (r := r) (j := j) h fun m hm => hn (m + 1) (Nat.succ_lt_succ hm)]
theorem aheadM_sub : ∀ (r : List Int) (p : Option Int), (aheadM r p).Sublist r
  | [], _ => .slnil
  | a :: r, p => by
    unfold aheadM
    split
    · exact List.nil_sublist _
    · exact (aheadM_sub r p).cons_cons a
theorem idx_ex : ∀ {r : List Int} {x : Int}, x ∈ r → ∃ j : Nat, r[j]? = some x ∧ ∀ m, m < j → r[m]? ≠ some x
  | [], _, h => by cases h
  | a :: r, x, h => by
    by_cases e : a = x
    · exact ⟨0, congrArg some e, fun m hm => absurd hm (Nat.not_lt_zero m)⟩
    · obtain ⟨j, h1, h2⟩ := idx_ex ((List.mem_cons.mp h).resolve_left (Ne.symm e))
      refine ⟨j + 1, h1, fun m hm => ?_⟩
      cases m with
      | zero => exact fun z => e (Option.some.inj z)
      | succ m => exact h2 m (Nat.lt_of_succ_lt_succ hm)
theorem getD_mem {α : Type} {l : List α} {k : Int} {d : α} (h0 : 0 ≤ k) (h1 : k < l.length) : l.getD k.toNat d ∈ l := by
  rw [List.getD_eq_getElem?_getD, List.getElem?_eq_getElem (by omega)]
  exact List.getElem_mem _
section
variable {ws : List (List Int)} {hs : List Hs} {n : Nat}
theorem WOk.hOk (o : WOk ws hs n) {h : Int} (h0 : 0 ≤ h) (h1 : h < hs.length) : HsOk (houseAt hs h) n := o.house _ (getD_mem h0 h1)
theorem WOk.wOk (o : WOk ws hs n) {k : Int} (h0 : 0 ≤ k) (h1 : k < n) : (wishAt ws k).Nodup ∧ ∀ x ∈ wishAt ws k, 0 ≤ x ∧ x < hs.length := o.wish _ (getD_mem h0 (by rw [o.len]; exact h1))
theorem mem_held {ps : List (Option Int)} {h k : Int} : k ∈ heldM ps h ↔ (0 ≤ k ∧ k < ps.length) ∧ placeAt ps k = some h := by
  unfold heldM
  rw [List.mem_filter, mem_rg, decide_eq_true_eq]
theorem held_len (ps : List (Option Int)) (h : Int) : (heldM ps h).length ≤ ps.length := Nat.le_trans (List.length_filter_le _ _) (by rw [rg_len]; omega)
theorem nodup_len {l : List Int} {m : Nat} (nd : l.Nodup) (h : ∀ x ∈ l, 0 ≤ x ∧ x < m) : l.length ≤ m := by
  have := sub_len nd (m := rg 0 m) fun x hx => mem_rg.mpr (h x hx)
  rw [rg_len] at this
  omega
theorem WOk.wLen (o : WOk ws hs n) {k : Int} (h0 : 0 ≤ k) (h1 : k < n) : (wishAt ws k).length ≤ 8 := Nat.le_trans (nodup_len (o.wOk h0 h1).1 (o.wOk h0 h1).2) o.few
end
theorem wish_ok (s : List Int) (top : Int) (h0 : 0 < top) (h1 : top ≤ 24) : WOk (wWish s top) (wRows s top) (wMany s top).toNat := by
  obtain ⟨m1, m2⟩ := wMany_pos s h0
  obtain ⟨n1, n2⟩ := wHouses_pos s
  have hl : (wRows s top).length = (wHouses s).toNat := by
    unfold wRows
    rw [List.length_map, rg_len]
    omega
  refine ⟨?_, by omega, by omega, fun h hh => ?_, fun r hr => ?_⟩
  · unfold wWish
    rw [List.length_map, rg_len]
    omega
  · unfold wRows at hh
    obtain ⟨k, _, rfl⟩ := List.mem_map.mp hh
    exact wHs_ok s top k h0 h1
  · unfold wWish at hr
    obtain ⟨k, _, rfl⟩ := List.mem_map.mp hr
    unfold wishesBy
    refine ⟨(rowBy_nodup _ _).sublist (List.take_sublist _ _), fun x hx => ?_⟩
    have := rowBy_mem.mp (List.mem_of_mem_take hx)
    omega
end CH

/-! Choosehall: longer and, or. -/
namespace CH
open PySem L2
section
variable {g : Gb} {X : Cx} {G : List Sl} {a b c d : Expr} {rest : List Expr} {pos : Pos}
theorem ev_andN {r r' : Bool} (h : EvD g X G a (.bl r)) (h' : r = true → EvD g X G (.BoolOp .And (b :: rest) pos) (.bl r')) : EvD g X G (.BoolOp .And (a :: b :: rest) pos) (.bl (r && r')) := by
  intro F H σ ow k Q q
  refine we_of (pe_and pe_we pe_we) ?_
  refine h F H σ ow k _ fun v F1 H1 u r1 => ⟨r, of_bl r1, ?_⟩
  cases r with
  | true => exact h' rfl F1 H1 σ ow (k.up u) _ fun v F2 H2 u2 r2 => q v F2 H2 (u.trans u2) r2
  | false => exact q _ F1 H1 u (rep_bl false)
theorem ev_orN {r r' : Bool} (h : EvD g X G a (.bl r)) (h' : r = false → EvD g X G (.BoolOp .Or (b :: rest) pos) (.bl r')) : EvD g X G (.BoolOp .Or (a :: b :: rest) pos) (.bl (r || r')) := by
  intro F H σ ow k Q q
  refine we_of (pe_or pe_we pe_we) ?_
  refine h F H σ ow k _ fun v F1 H1 u r1 => ⟨r, of_bl r1, ?_⟩
  cases r with
  | true => exact q _ F1 H1 u (rep_bl true)
  | false => exact h' rfl F1 H1 σ ow (k.up u) _ fun v F2 H2 u2 r2 => q v F2 H2 (u.trans u2) r2
theorem et_and3 {r r' r'' : Bool} (h : EvT g X G a r) (h' : r = true → EvT g X G b r') (h'' : r = true → r' = true → EvT g X G c r'') : EvT g X G (.BoolOp .And [a, b, c] pos) (r && (r' && r'')) := by
  intro F H σ ow k Q q
  refine wt_of (PW.pt (pw_and pt_wt (pw_and pt_wt (pw_and1 pt_wt)))) ?_
  refine h F H σ ow k _ fun F1 H1 u => ?_
  cases r with
  | false => exact q F1 H1 u
  | true =>
    refine h' rfl F1 H1 σ ow (k.up u) _ fun F2 H2 u2 => ?_
    cases r' with
    | false => exact q F2 H2 (u.trans u2)
    | true => exact h'' rfl rfl F2 H2 σ ow ((k.up u).up u2) _ fun F3 H3 u3 => q F3 H3 ((u.trans u2).trans u3)
end
theorem drop_cut {l : List D} {n : Int} (h : 0 ≤ n) : cutD l (some n) none = l.drop n.toNat := by
  obtain ⟨m, rfl⟩ := Int.eq_ofNat_of_zero_le h
  unfold cutD
  rw [HT.sIx_none, show (HT.sIx l.length 0 (some ((m : Nat) : Int))) = min m l.length from HT.sIx_nat _ _ m, Int.toNat_natCast]
  by_cases hm : m ≤ l.length
  · rw [Nat.min_eq_left hm, List.take_of_length_le (by rw [List.length_drop]; exact Nat.le_refl _)]
  · rw [Nat.min_eq_right (by omega), Nat.sub_self, List.take_zero, List.drop_eq_nil_of_le (by omega)]
end CH

/-! Choosehall: row.index(x). -/
namespace CH
open PySem L2
section
variable {g : Gb} {X : Cx} {G : List Sl} {o e : Expr} {pos apos cpos : Pos}
theorem ev_index {l : List Int} {x : Int} {j : Nat} (hK : X.K = g.K) (h1 : EvD g X G o (.lst (l.map D.int))) (h2 : EvD g X G e (.int x)) (hj : l[j]? = some x) (hn : ∀ m, m < j → l[m]? ≠ some x)
    (mc : MC X o "index" apos e [] cpos := by exact ⟨rfl, rfl, rfl, rfl, rfl⟩) : EvD g X G (.Call (.Attribute o "index" apos) [e] [] cpos) (.int (j : Int)) := by
  intro F H σ ow ok Q q
  refine we_of (pe_bm PySem.F.plainAttrs_list PySem.F.slot_list_index PySem.F.type_list_index mt_index pe_we (pa_cons pe_we pa_nil mc.star) mc.base mc.few mc.line mc.star mc.plain) ?_
  refine h1 F H σ ow ok _ fun v F1 H1 u r => ?_
  obtain ⟨a, xs, rfl, f1, r1⟩ := of_lst r
  have e3 := ints_of r1
  subst e3
  refine ⟨ty_lst (u.fit.low _ _ f1), ?_⟩
  refine h2 F1 H1 σ ow (ok.up u) _ fun v2 F2 H2 u2 r2 => ?_
  have e4 := of_int r2
  subst e4
  refine ⟨a, l.map V.int, .int x, j, .int x, rfl, rfl, ?_, rfl, ?_, by rw [List.getElem?_map, hj] <;> rfl, decide_eq_true rfl, fun m z hm hz => ?_, q _ F2 H2 (u.trans u2) (rep_int _)⟩
  · rw [hK]
    exact SqL.of (u2.ext _ _ (u.fit.low _ _ f1) nt_lst)
  · rw [List.all_map]
    exact List.all_eq_true.mpr fun _ _ => rfl
  · rw [List.getElem?_map] at hz
    obtain ⟨y, hy, rfl⟩ := Option.map_eq_some_iff.mp hz
    exact decide_eq_false fun w => hn m hm (by rw [hy, w])
end
theorem inV_oi (p : Option Int) (l : List Int) : inV (vOi p) (l.map V.int) = l.any fun x => decide (some x = p) := by
  unfold inV
  rw [List.any_map]
  congr 1
  funext x
  cases p with
  | none => rfl
  | some y =>
    show eqV (.int x) (.int y) = decide (some x = some y)
    have e : eqV (.int x) (.int y) = decide (x = y) := rfl
    rw [e]
    exact decide_eq_decide.mpr ⟨fun h => congrArg some h, Option.some.inj⟩
theorem fl_oi (p : Option Int) : (D.oi p).fl = some (vOi p) := by cases p <;> rfl
end CH

/-! Choosehall: y = [x for x in d if d[x] == z] on one line; a dict told. -/
namespace CH
open PySem L2
section
variable {g : Gb} {X : Cx} {G : List Sl} {e1 : Expr} {pos spos p p2 p3 p4 p5 p6 p7 p8 py : Pos} {x y z u : Str} {scope : Scope} {k : KE}
theorem s_retOwnD (i : Nat) {kvs : List (Int × V)} (q : k.rt (.dc kvs)) (hG : G[i]? = some (.dc kvs) := by rfl) (hN : X.N[i]? = some x := by rfl) (hv : Vis X.env.scope x := by first | exact Or.inl rfl | exact Or.inr (Or.inl rfl) | exact Or.inr (Or.inr rfl))
    (hd : (x == ("__debug__" : Str)) = false := by decide) (hcd : (x == ("__classdict__" : Str)) = false := by decide) : S1 g X G (.Return (some (.Name x p)) pos) k := fun B F H σ ow ok bk F1 s1 => by
  refine ws_of (ps_ret (pe_var hN hv hd hcd)) ?_
  obtain ⟨o, h1, h2, h3, h4⟩ := ok.at_ i _ hG
  exact ⟨.ref (ow i), by rw [h1, h2], .dc kvs, F, q, bk.up, ow i, rfl, bk.fresh i _ hG rfl, h4, h3⟩
theorem noLL_ints : ∀ l : List Int, noLL (l.map D.int) = true
  | [] => rfl
  | _ :: l => noLL_ints l
theorem noLL_ois : ∀ l : List (Option Int), noLL (l.map D.oi) = true
  | [] => rfl
  | none :: l => noLL_ois l
  | some _ :: l => noLL_ois l
/-- [x for x in d if d[x] == z], d a dict of the frame's own with ints -/
theorem s_lcD (i j l t : Nat) {kvs : List (Int × Int)} {m : Int} (hu : X.A.units + 1 < cLine) (hnd : (kvs.map (·.1)).Nodup) (hl : kvs.length ≤ 90000)
    (hG : G[i]? = some (.dc (kvs.map fun p => (p.1, V.int p.2)))) (hZ : G[l]? = some (.v (.int m))) (hij : i ≠ j) (hlj : l ≠ j) (hjl : j < G.length)
    (hn : NmV X i y) (hb : blkC X.N X.env.scope scope [(x, j)] = true := by kernel_rfl)
    (hny : ∀ (s : Shared) (H0 : Hp) (C : Addr) (cl : List (Str × Addr)) (fp : List Addr), NmV (X.blk s H0 scope (compEnvC scope cl C X.env) fp) i y) (hnz : ∀ (s : Shared) (H0 : Hp) (C : Addr) (cl : List (Str × Addr)) (fp : List Addr), NmV (X.blk s H0 scope (compEnvC scope cl C X.env) fp) l z)
    (hnx : ∀ (s : Shared) (H0 : Hp) (C : Addr) (cl : List (Str × Addr)) (fp : List Addr), NmV (X.blk s H0 scope (compEnvC scope cl C X.env) fp) j x)
    (hN : X.N.Nodup := by exact nd_by (by kernel_rfl)) (hj : X.N[j]? = some x := by rfl) (hx : BlkT X scope x := by first | exact ⟨Or.inl rfl, Or.inr rfl⟩ | exact ⟨Or.inr rfl, Or.inl rfl⟩) (hc : X.calm = true := by rfl)
    (hfo : ∀ v, foldedSetIterable (.Name y p2) X.env v = pure v := by intro _; rfl)
    (hk : k.nx (G.set t (.m (((kvs.filter fun p => decide (p.2 = m)).map (·.1)).map D.int))))
    (hsw : swapsWith (.ListComp (.Name x p) [⟨.Name x p3, .Name y p2, [.Compare (.Subscript (.Name y p4) (.Name x p5) p6) [.Eq] [.Name z p7] p8], 0⟩] scope pos) (some (.Name u py)) spos.line X.env = pure true := by exact sw_true rfl rfl rfl (by kernel_rfl))
    (ht : X.N[t]? = some u := by rfl) (hul : X.env.scope.names.lookup u = some .local := by rfl) :
    S1 g X G (.Assign [.Name u py] (.ListComp (.Name x p) [⟨.Name x p3, .Name y p2, [.Compare (.Subscript (.Name y p4) (.Name x p5) p6) [.Eq] [.Name z p7] p8], 0⟩] scope pos) spos) k := fun B F H σ ow ok bk F1 sF1 => by
  obtain ⟨f1, f2, f3⟩ := ok.ownD hG
  refine ws_of (ps_lock (ps_setLc (i := t) (own := [(x, j)]) (g := gName j) (tt := tTest (tOp rEq (tDGet (tVar i) (tVar j)) (tVar l))) (te := tVar j) hc hN ht hul hsw (pi_keys (pe_nm hn)) (blkOk_by hb) (pg_blk j hN hj hx)
    (fun s H C cl fp => pts_one (pt_cmpR op_eq (pe_dget (X := X.blk s H scope (compEnvC scope cl C X.env) fp) hu (pe_nm (hny s H C cl fp)) (pe_nm (hnx s H C cl fp)) (fun _ _ => rfl)) (pe_nm (hnz s H C cl fp)) (nomark _))) (fun s H C cl fp => pe_nm (hnx s H C cl fp)) hfo)) ?_
  refine ⟨ow i, _, f3, True.intro, fun od => ?_⟩
  refine ⟨_, f1, ow i, od, rfl, Or.inl ⟨_, upd_same, fun D hD => ?_⟩⟩
  have hDi : ow i ≠ D := fun w => by
    rw [← w, upd_same] at hD
    cases hD
  have hD0 : H D = none := by
    rw [upd_ne (Ne.symm hDi)] at hD
    exact hD
  have hlen : (dkv (kvs.map fun p => (p.1, V.int p.2))).length = kvs.length := by
    unfold dkv
    rw [List.length_map, List.length_map]
  have hkey : ∀ n : Nat, (dkv (kvs.map fun p => (p.1, V.int p.2)))[n]? = (kvs[n]?).map fun p => ((Sum.inl p.1 : Key), V.int p.2) := fun n => by
    unfold dkv
    rw [List.getElem?_map, List.getElem?_map, Option.map_map] <;> rfl
  obtain ⟨oz, z1, vz, z2, z3⟩ := ok.at_ l _ hZ
  have z4 := of_int z3
  refine lc_it (walk_keys (d := ow i) (o := od) (kvs := dkv (kvs.map fun p => (p.1, V.int p.2)))) (fun n H' => H' = upd (upd H (ow i) (.frz od (.dK (dkv (kvs.map fun p => (p.1, V.int p.2)))))) D (.lst ((((kvs.take n).filter fun p => decide (p.2 = m)).map (·.1)).map V.int))) rfl (fun n H' _ e => by rw [e, upd_ne hDi, upd_same]) (fun n v H' H3 hn e y0 => ?_) (fun H' e => ?_)
  · obtain ⟨e3, kk, vv, k1, k2⟩ := y0
    subst e3
    rw [hkey n] at k1
    obtain ⟨pr, hp⟩ : ∃ pr, kvs[n]? = some pr := by
      cases w : kvs[n]? with
      | none =>
        rw [w] at k1
        cases k1
      | some pr => exact ⟨pr, rfl⟩
    rw [hp] at k1
    have k3 := Option.some.inj k1
    have k4 : (Sum.inl pr.1 : Key) = kk := congrArg Prod.fst k3
    subst k4
    have k5 : v = V.int pr.1 := k2
    have hjs : j < σ.length := by rw [ok.len]; exact hjl
    have ew : ((wipe σ [j]).set j (some v)) = σ.set j (some v) := by
      show (σ.set j none).set j (some v) = _
      rw [List.set_set]
    have hHi : H3 (ow i) = some (.frz od (.dK (dkv (kvs.map fun p => (p.1, V.int p.2))))) := by
      rw [e, upd_ne hDi, upd_same]
    refine ⟨?_, ?_⟩
    · show ((wipe σ [j]).set j (some v)).set j none = (σ.set j none)
      rw [ew, List.set_set]
    · show tTest _ ((wipe σ [j]).set j (some v)) _ _
      rw [ew]
      have hval := find_nd hnd (List.mem_of_getElem? hp)
      refine ⟨V.ref (ow i), ?_, V.int pr.1, ?_, ow i, V.int pr.2, rfl, Or.inl ⟨_, Sum.inl pr.1, Or.inr ⟨od, hHi⟩, rfl, ?_⟩, V.int m, ?_, rfl, decide (pr.2 = m), ?_, ?_⟩
      · rw [List.getElem?_set_ne (Ne.symm hij)]
        exact f1
      · rw [List.getElem?_set_self hjs, k5]
      · rw [val_dkv, hval]
      · rw [List.getElem?_set_ne (Ne.symm hlj), z1, z2, z4]
      · congr 1
        by_cases h : pr.2 = m
        · rw [decide_eq_true h, h, decide_eq_true rfl]
        · rw [decide_eq_false h, decide_eq_false fun w => h (by injection w)]
      · have hs := filt_snoc (q := fun p : Int × Int => decide (p.2 = m)) hp
        by_cases h : pr.2 = m
        · rw [decide_eq_true h]
          refine iteT ⟨v, List.getElem?_set_self (by rw [show (wipe σ (List.map (fun x => x.snd) [(x, j)])) = σ.set j none from rfl, List.length_set]; exact hjs), _, (by rw [e]; exact upd_same), ?_, ?_⟩
          · rw [List.length_map, List.length_map]
            refine Nat.lt_of_le_of_lt (Nat.le_trans (List.length_filter_le _ _) (Nat.le_trans (by rw [List.length_take]; exact Nat.min_le_right _ _) hl)) (by decide)
          · rw [e, upd_upd, hs, if_pos (by exact decide_eq_true h), List.map_append, List.map_append, k5] <;> rfl
        · rw [decide_eq_false h]
          refine iteF ?_
          rw [e, hs, if_neg (by rw [decide_eq_false h]; decide), List.append_nil]
  · rw [hlen, List.take_length] at e
    subst e
    refine ⟨by rw [upd_ne hDi, upd_same], ?_⟩
    have e5 : upd (upd (upd H (ow i) (.frz od (.dK (dkv (kvs.map fun p => (p.1, V.int p.2)))))) D (.lst ((((kvs.filter fun p => decide (p.2 = m)).map (·.1)).map V.int)))) (ow i) (.dK (dkv (kvs.map fun p => (p.1, V.int p.2)))) = upd H D (.lst ((((kvs.filter fun p => decide (p.2 = m)).map (·.1)).map V.int))) := by
      funext b
      by_cases hb : b = ow i
      · subst hb
        rw [upd_same, upd_ne hDi, f3]
      · rw [upd_ne hb]
        by_cases hb2 : b = D
        · subst hb2
          rw [upd_same, upd_same]
        · rw [upd_ne hb2, upd_ne hb2, upd_ne hb]
    rw [e5]
    refine rt_new ok.fit (repL_ints (((kvs.filter fun p => decide (p.2 = m)).map (·.1)))) (Q := fun v H2 => gName t v σ H2 (ends g B F1 k).nx) (fun v F2 H2 u r => ?_) hD0
    obtain ⟨ow', k1, b1⟩ := store (i := t) ok bk u r
    exact ⟨_, F2, ow', hk, k1, b1, sF1.trans u.sub⟩
end
end CH

/-! Choosehall: values that are newly made; a list whose last item is a list of the frame's own. -/
namespace CH
open PySem L2
section
variable {g : Gb} {X : Cx} {G : List Sl} {a b c e o : Expr} {es : List Expr} {pos spos p p2 p3 py apos cpos : Pos} {x y : Str} {k : KE}
theorem Ev.nw {d : D} (h : Ev g X G e (.nw d)) : EvD g X G e d := by
  intro F H σ ow ok Q q
  refine h F H σ ow ok Q fun v F1 H1 u r => ?_
  exact q v F1 H1 u (Rep.mono newp_sub _ _ r)
/-- return (x, y), both lists of the frame's own -/
theorem s_retPair (i j : Nat) {ds es : List D} {jx} (q : k.rt (.nw (.tup [.lst ds, .lst es]))) (nd : noLL ds = true) (ne : noLL es = true) (hG : G[i]? = some (.m ds) := by rfl) (hG2 : G[j]? = some (.m es) := by rfl)
    (hn : NmV X i x := by first | exact ⟨rfl, Or.inl rfl, rfl, rfl⟩ | exact ⟨rfl, Or.inr (Or.inl rfl), rfl, rfl⟩) (hn2 : NmV X j y := by first | exact ⟨rfl, Or.inl rfl, rfl, rfl⟩ | exact ⟨rfl, Or.inr (Or.inl rfl), rfl, rfl⟩)
    (hs : starEach [.Name x p, .Name y p2] X.env = (false, eval (.Name x p) X.env) :: starEach [.Name y p2] X.env := by rfl) (hs2 : starEach [.Name y p2] X.env = (false, eval (.Name y p2) X.env) :: starEach [] X.env := by rfl) :
    S1 g X G (.Return (some (.Tuple [.Name x p, .Name y p2] jx pos)) spos) k := fun B F H σ ow ok bk F1 s1 => by
  obtain ⟨f1, f2, xs, f3, f4⟩ := ok.own hG
  obtain ⟨g1, g2, ys, g3, g4⟩ := ok.own hG2
  have fr1 := bk.fresh i _ hG rfl
  have fr2 := bk.fresh j _ hG2 rfl
  refine ws_of (ps_ret (pe_tup (pa_cons (pe_nm hn) (pa_cons (pe_nm hn2) pa_nil hs2) hs))) ?_
  refine ⟨_, f1, _, g1, by show (2 : Nat) ≤ sizeLine; decide, fun t ht => ?_⟩
  have fit1 := fit_frz ok.fit f3 nt_lst
  have g3' : ∀ o, H (ow j) = some o → NT o := fun o e => by
    rw [g3] at e
    cases e
    exact nt_lst
  have fit2 := fit_frz fit1 g3 nt_lst
  have t1 : ow i ≠ t := ne_of_none f3 ht
  have t2 : ow j ≠ t := ne_of_none g3 ht
  have sub1 : Sub F (upd F (ow i) (.lst xs)) := sub_upd f2
  have sub2 : Sub (upd F (ow i) (.lst xs)) (upd (upd F (ow i) (.lst xs)) (ow j) (.lst ys)) := fun z o e => by
    by_cases w : z = ow j
    · rw [w] at e ⊢
      rw [upd_same]
      have := fit1.low _ _ e
      rw [g3] at this
      exact this
    · rw [upd_ne w]
      exact e
  have up2 : Up g B.1 B.2 (upd (upd F (ow i) (.lst xs)) (ow j) (.lst ys)) H := ⟨bk.up.ext, (bk.up.sub.trans sub1).trans sub2, fun z o e n f => by
    rw [upd_ne (fr2.ne e n), upd_ne (fr1.ne e n)]
    exact bk.up.grow z o e n f, fit2⟩
  have up3 := up_newF fit2 (p := t) (o := .tup [.ref (ow i), .ref (ow j)]) ht nt_tup
  have upA := up2.trans up3
  refine ⟨.nw (.tup [.lst ds, .lst es]), _, q, upA, ?_⟩
  have hi : upd (upd (upd F (ow i) (.lst xs)) (ow j) (.lst ys)) t (.tup [.ref (ow i), .ref (ow j)]) (ow i) = some (.lst xs) := up3.sub _ _ (sub2 _ _ upd_same)
  have hj : upd (upd (upd F (ow i) (.lst xs)) (ow j) (.lst ys)) t (.tup [.ref (ow i), .ref (ow j)]) (ow j) = some (.lst ys) := up3.sub _ _ upd_same
  have np : ∀ {z : Addr} {o : HO}, Fresh B.2 z → upd (upd (upd F (ow i) (.lst xs)) (ow j) (.lst ys)) t (.tup [.ref (ow i), .ref (ow j)]) z = some o → newp B.2 (upd (upd (upd F (ow i) (.lst xs)) (ow j) (.lst ys)) t (.tup [.ref (ow i), .ref (ow j)])) z = some o := fun {z o} f e => by
    unfold newp
    rw [if_pos (Or.inl f)]
    exact e
  have tp : ∀ (z : Addr) (zs : List V), F z = some (.tup zs) → newp B.2 (upd (upd (upd F (ow i) (.lst xs)) (ow j) (.lst ys)) t (.tup [.ref (ow i), .ref (ow j)])) z = some (.tup zs) := fun z zs e => newp_tup _ _ (up3.sub _ _ (sub2 _ _ (sub1 _ _ e)))
  exact rep_tup (newp_tup _ _ upd_same) (repL_cons (rep_lst (np fr1 hi) (repL_noL tp _ _ nd f4)) (repL_cons (rep_lst (np fr2 hj) (repL_noL tp _ _ ne g4)) repL_nil))
/-- [a, b], the last one a list that has just come -/
theorem ev_lstPr {d : D} {ds : List D} (h1 : EvD g X G a d) (h2 : Ev g X G b (.m ds)) (hs : starEach [a, b] X.env = (false, eval a X.env) :: starEach [b] X.env := by rfl) (hs2 : starEach [b] X.env = (false, eval b X.env) :: starEach [] X.env := by rfl) :
    Ev g X G (.List [a, b] pos) (.pr [d] ds) := by
  intro F H σ ow ok Q q
  refine we_of (pe_lst (pa_cons pe_we (pa_cons pe_we pa_nil hs2) hs)) ?_
  refine h1 F H σ ow ok _ fun v F1 H1 u r => ?_
  refine h2 F1 H1 σ ow (ok.up u) _ fun v2 F2 H2 u2 r2 => ?_
  obtain ⟨l, xs, rfl, hf, e1, e2, e3⟩ := r2
  refine ⟨by show (2 : Nat) ≤ sizeLine; decide, fun t ht => ?_⟩
  have up3 := up_newF u2.fit (p := t) (o := .lst [v, .ref l]) ht nt_lst
  have tl : l ≠ t := ne_of_none e1 ht
  refine q (.ref t) _ _ ((u.trans u2).trans up3) ⟨t, [v], l, xs, rfl, upd_same, repL_cons (Rep.mono (u2.sub.trans up3.sub) _ _ r) repL_nil, hf.back u.ext, ?_, ?_, RepL.mono up3.sub _ _ e3⟩
  · rw [upd_ne tl]
    exact e1
  · rw [upd_ne tl]
    exact e2
theorem ev_lstPr3 {d d2 : D} {ds : List D} (h1 : EvD g X G a d) (h0 : EvD g X G c d2) (h2 : Ev g X G b (.m ds)) (hs : starEach [a, c, b] X.env = (false, eval a X.env) :: starEach [c, b] X.env := by rfl) (hs1 : starEach [c, b] X.env = (false, eval c X.env) :: starEach [b] X.env := by rfl) (hs2 : starEach [b] X.env = (false, eval b X.env) :: starEach [] X.env := by rfl) :
    Ev g X G (.List [a, c, b] pos) (.pr [d, d2] ds) := by
  intro F H σ ow ok Q q
  refine we_of (pe_lst (pa_cons pe_we (pa_cons pe_we (pa_cons pe_we pa_nil hs2) hs1) hs)) ?_
  refine h1 F H σ ow ok _ fun v F1 H1 u r => ?_
  refine h0 F1 H1 σ ow (ok.up u) _ fun v0 F0 H0 u0 r0 => ?_
  refine h2 F0 H0 σ ow ((ok.up u).up u0) _ fun v2 F2 H2 u2 r2 => ?_
  obtain ⟨l, xs, rfl, hf, e1, e2, e3⟩ := r2
  refine ⟨by show (3 : Nat) ≤ sizeLine; decide, fun t ht => ?_⟩
  have up3 := up_newF u2.fit (p := t) (o := .lst [v, v0, .ref l]) ht nt_lst
  have tl : l ≠ t := ne_of_none e1 ht
  refine q (.ref t) _ _ (((u.trans u0).trans u2).trans up3) ⟨t, [v, v0], l, xs, rfl, upd_same, repL_cons (Rep.mono ((u0.sub.trans u2.sub).trans up3.sub) _ _ r) (repL_cons (Rep.mono (u2.sub.trans up3.sub) _ _ r0) repL_nil), hf.back (u.trans u0).ext, ?_, ?_, RepL.mono up3.sub _ _ e3⟩
  · rw [upd_ne tl]
    exact e1
  · rw [upd_ne tl]
    exact e2
/-- x[n].clear(), n the last place -/
theorem s_clearPr (i : Nat) {pre ds : List D} {n : Int} (hK : X.K = g.K) (h1 : EvD g X G e (.int n)) (hn0 : n = (pre.length : Int)) (q : k.nx (G.set i (.pr pre []))) (hG : G[i]? = some (.pr pre ds) := by rfl)
    (hn : NmV X i x := by first | exact ⟨rfl, Or.inl rfl, rfl, rfl⟩ | exact ⟨rfl, Or.inr (Or.inl rfl), rfl, rfl⟩) (hi : PlainIx e := by intro _ _; rfl)
    (hb : attributeBase (.Subscript (.Name x p) e p2) "clear" X.env (eval (.Subscript (.Name x p) e p2) X.env) = eval (.Subscript (.Name x p) e p2) X.env := by rfl) (hline : (apos.endLine == cpos.line) = true := by rfl) (hs : swapsWith (.Call (.Attribute (.Subscript (.Name x p) e p2) "clear" apos) [] [] cpos) none pos.line X.env = pure false := by rfl) :
    S1 g X G (.Expr (.Call (.Attribute (.Subscript (.Name x p) e p2) "clear" apos) [] [] cpos) pos) k := fun B F H σ ow ok bk F1 s1 => by
  refine ws_of (ps_expr (pe_bm0 PySem.F.plainAttrs_list PySem.F.slot_list_clear PySem.F.type_list_clear mt_clear (pe_ix ix_seq (pe_nm hn) pe_we hi) hb hline) hs) ?_
  obtain ⟨o, w1, p', vs, w2, w3, w4, w5, xs, w6, w7⟩ := ok.at_ i _ hG
  refine ⟨_, by rw [w1, w2], ?_⟩
  refine h1 F H σ ow ok _ fun v2 F2 H2 u r2 => ?_
  have w3' := u.fit.low _ _ (u.sub _ _ w3)
  have w6' := u.ext _ _ w6 nt_lst
  have w8 := w4.len
  rw [hK, of_int r2]
  refine Or.inl ⟨p', vs ++ [.ref (ow i)], n, .ref (ow i), rfl, rfl, SqL.of w3', ?_, ?_⟩
  · unfold atI ixN
    rw [hn0, if_pos (by omega), if_pos (by rw [List.length_append, List.length_singleton, w8]; omega)]
    show (vs ++ [V.ref (ow i)])[((pre.length : Nat) : Int).toNat]? = _
    rw [Int.toNat_natCast, ← w8, List.getElem?_append_right (Nat.le_refl _), Nat.sub_self] <;> rfl
  · have ok2 := ok.up u
    have bk2 := bk.go u
    have k1 := ok2.mutG (t := .pr pre []) (o := .lst []) hG rfl w6' nt_lst ne_ext_lst (fun v h => by
      obtain ⟨q1, ws, a1, a2, a3, a4, ys, a5, a6⟩ := h
      exact ⟨q1, ws, a1, a2, a3, a4, [], upd_same, repL_nil⟩) rfl
    have b1 := bk2.mutG ok2 (t := .pr pre []) (o := .lst []) hG rfl w6' nt_lst ne_ext_lst rfl
    exact ⟨ty_lst w6', ow i, xs, rfl, rfl, w6', _, F2, ow, q, k1, b1, s1.trans u.sub⟩
end
end CH

/-! Choosehall: x[n], x a list of the frame's own that holds lists. -/
namespace CH
open PySem L2
section
variable {g : Gb} {X : Cx} {G : List Sl} {e : Expr} {pos p : Pos} {x : Str}
theorem ev_ixOwn (i : Nat) {ds : List D} {n : Int} {d : D} (hK : X.K = g.K) (h1 : EvD g X G e (.int n)) (h : (D.lst ds).at_ n = some d) (hG : G[i]? = some (.m ds) := by rfl)
    (hn : NmV X i x := by first | exact ⟨rfl, Or.inl rfl, rfl, rfl⟩ | exact ⟨rfl, Or.inr (Or.inl rfl), rfl, rfl⟩) (hi : PlainIx e := by intro _ _; rfl) : EvD g X G (.Subscript (.Name x p) e pos) d := by
  intro F H σ ow ok Q q
  refine we_of (pe_ix ix_seq (pe_nm hn) pe_we hi) ?_
  obtain ⟨f1, f2, xs, f3, f4⟩ := ok.own hG
  refine ⟨_, f1, ?_⟩
  refine h1 F H σ ow ok _ fun v2 F2 H2 u r2 => ?_
  have f3' := u.ext _ _ f3 nt_lst
  have f4' := RepL.mono u.sub _ _ f4
  obtain ⟨v, e3, e4⟩ := f4'.ati h
  rw [hK, of_int r2]
  exact Or.inl ⟨ow i, xs, n, v, rfl, rfl, SqL.of f3', e3, q v F2 H2 u e4⟩
end
end CH

/-! Choosehall: wishes, places, houses as data. -/
namespace CH
open PySem L2
def intssD (ws : List (List Int)) : D := .lst (ws.map intsD)
def oisD (ps : List (Option Int)) : D := .lst (ps.map D.oi)
def hssD (hs : List Hs) : D := .lst (hs.map D.hs)
def rowsD (hs : List Hs) : D := .lst (hs.map rowD)
def pairD (p : Int × Int) : D := .tup [.int p.1, .int p.2]
def pairsD (l : List (Int × Int)) : D := .lst (l.map pairD)
theorem at_map {α : Type} {enc : α → D} {l : List α} {i : Int} {a : α} (h0 : 0 ≤ i) (e : l[i.toNat]? = some a) : (D.lst (l.map enc)).at_ i = some (enc a) := at_nat h0 (by rw [List.getElem?_map, e] <;> rfl)
theorem getD_at {α : Type} {l : List α} {k : Int} {d : α} (h0 : 0 ≤ k) (h1 : k < l.length) : l[k.toNat]? = some (l.getD k.toNat d) := by
  rw [List.getD_eq_getElem?_getD, List.getElem?_eq_getElem (by omega)] <;> rfl
theorem at_place {ps : List (Option Int)} {k : Int} (h0 : 0 ≤ k) (h1 : k < ps.length) : (oisD ps).at_ k = some (D.oi (placeAt ps k)) := at_map h0 (getD_at h0 h1)
theorem at_wish {ws : List (List Int)} {k : Int} (h0 : 0 ≤ k) (h1 : k < ws.length) : (intssD ws).at_ k = some (intsD (wishAt ws k)) := at_map h0 (getD_at h0 h1)
theorem at_hs {hs : List Hs} {k : Int} (h0 : 0 ≤ k) (h1 : k < hs.length) : (hssD hs).at_ k = some (.hs (houseAt hs k)) := at_map h0 (getD_at h0 h1)
theorem at_rows {hs : List Hs} {k : Int} (h0 : 0 ≤ k) (h1 : k < hs.length) : (rowsD hs).at_ k = some (rowD (houseAt hs k)) := at_map h0 (getD_at h0 h1)
theorem len_ois (ps : List (Option Int)) : (oisD ps).len = some ps.length := by
  show some (ps.map D.oi).length = _
  rw [List.length_map]
theorem len_intss (ps : List (List Int)) : (intssD ps).len = some ps.length := by
  show some (ps.map intsD).length = _
  rw [List.length_map]
theorem len_hss (ps : List Hs) : (hssD ps).len = some ps.length := by
  show some (ps.map D.hs).length = _
  rw [List.length_map]
theorem len_rows (ps : List Hs) : (rowsD ps).len = some ps.length := by
  show some (ps.map rowD).length = _
  rw [List.length_map]
theorem len_ints (ps : List Int) : (intsD ps).len = some ps.length := by
  show some (ps.map D.int).length = _
  rw [List.length_map]
theorem len_pairs (ps : List (Int × Int)) : (pairsD ps).len = some ps.length := by
  show some (ps.map pairD).length = _
  rw [List.length_map]
theorem eqv_oi_int (p : Option Int) (i : Int) : (D.oi p).eqv (.int i) = decide (p = some i) := eqv_oi p (some i)
theorem eqv_int_oi (i : Int) (p : Option Int) : (D.int i).eqv (D.oi p) = decide (some i = p) := eqv_oi (some i) p
def RHeld : List D → Sl → Prop := fun ds r => ∃ (ps : List (Option Int)) (h : Int), ds = [oisD ps, .int h] ∧ ps.length ≤ 100 ∧ r = .m ((heldM ps h).map D.int)
def RRather : List D → Sl → Prop := fun ds r => ∃ (ws : List (List Int)) (ps : List (Option Int)) (k : Int), ds = [intssD ws, oisD ps, .int k] ∧ 0 ≤ k ∧ k < ws.length ∧ k < ps.length ∧ (wishAt ws k).length ≤ 100 ∧ r = .m ((ratherM ws ps k).map D.int)
theorem ahead_step : ∀ (r : List Int) (p : Option Int) (i : Nat), (∀ m x, m < i → r[m]? = some x → some x ≠ p) → i ≤ r.length → aheadM r p = r.take i ++ aheadM (r.drop i) p
  | r, p, 0, _, _ => by rw [List.take_zero, List.drop_zero] <;> rfl
  | [], p, i + 1, _, h => by cases h
  | a :: r, p, i + 1, hn, h => by
    have e := hn 0 a (Nat.succ_pos _) rfl
    have ih := ahead_step r p i (fun m x hm hx => hn (m + 1) x (Nat.succ_lt_succ hm) hx) (Nat.le_of_succ_le_succ h)
    rw [List.take_succ_cons, List.drop_succ_cons]
    show (if some a = p then [] else a :: aheadM r p) = _
    rw [if_neg e, ih] <;> rfl
end CH

/-! Choosehall: held. -/
namespace CH
open PySem L2
section
variable {P : Program} {w : World} {g : Gb} {mg : Str → Option Value} {base : Heap} {f : Addr} {fd : FuncData}
theorem c_held (F : FnP g.K "held" "held" s_held f fd) (hm : mg "held" = some (.ref f)) (fr : Free mg) : Cal P w g mg base "held" 1 RHeld := by
  refine cal_by (N := ["places", "house", "comer"]) (ps := ["places", "house"]) F ⟨rfl, rfl, rfl, by decide +kernel, rfl, by decide +kernel, by decide +kernel⟩ hm (fun _ _ _ _ _ _ us hl => match us, hl with | [_, _], _ => rfl) ?_ ?_
  · rintro ds r ⟨ps, h, rfl, _⟩
    rfl
  · rintro ds r cdv A outer s0 H E ⟨ps, h, rfl, hl, rfl⟩ hr
    refine ss_one (s_ret (ev_lcIf 2 (enc := D.int) (l := rg 0 ps.length) (fun k => decide (placeAt ps k = some h)) D.int (ei_range fr (ev_len rfl fr (ev_var 0) (len_ois ps)) ⟨by omega, by omega⟩) (by rw [rg_len]; omega) (fun k hk s1 H1 C cl fp => ?_) (fun k hk _ s1 H1 C cl fp => ev_var 2)) rfl)
    have hk' := mem_rg.mp hk
    exact EvT.is (et_cmp (ev_ix rfl (ev_var 0) (ev_var 2) (at_place hk'.1 hk'.2)) (ev_var 1) (cmp_eq rfl hr.units (cm_oi _).ok (cm_int _).ok)) (eqv_oi_int _ _)
end
end CH

/-! Choosehall: the law's held. -/
namespace CH
open PySem L2
section
variable {P : Program} {w : World} {g : Gb} {mg : Str → Option Value} {base : Heap} {f : Addr} {fd : FuncData}
theorem c_lheld (F : FnP g.K "_law_held" "_law_held" s__law_held f fd) (hm : mg "_law_held" = some (.ref f)) (fr : Free mg) : Cal P w g mg base "_law_held" 1 RHeld := by
  refine cal_by (N := ["places", "house", "k"]) (ps := ["places", "house"]) F ⟨rfl, rfl, rfl, by decide +kernel, rfl, by decide +kernel, by decide +kernel⟩ hm (fun _ _ _ _ _ _ us hl => match us, hl with | [_, _], _ => rfl) ?_ ?_
  · rintro ds r ⟨ps, h, rfl, _⟩
    rfl
  · rintro ds r cdv A outer s0 H E ⟨ps, h, rfl, hl, rfl⟩ hr
    refine ss_one (s_ret (ev_lcIf 2 (enc := D.int) (l := rg 0 ps.length) (fun k => decide (placeAt ps k = some h)) D.int (ei_range fr (ev_len rfl fr (ev_var 0) (len_ois ps)) ⟨by omega, by omega⟩) (by rw [rg_len]; omega) (fun k hk s1 H1 C cl fp => ?_) (fun k hk _ s1 H1 C cl fp => ev_var 2)) rfl)
    have hk' := mem_rg.mp hk
    exact EvT.is (et_cmp (ev_ix rfl (ev_var 0) (ev_var 2) (at_place hk'.1 hk'.2)) (ev_var 1) (cmp_eq rfl hr.units (cm_oi _).ok (cm_int _).ok)) (eqv_oi_int _ _)

end
end CH

/-! Choosehall: rather. -/
namespace CH
open PySem L2
section
variable {P : Program} {w : World} {g : Gb} {mg : Str → Option Value} {base : Heap} {f : Addr} {fd : FuncData}
theorem c_rather (F : FnP g.K "rather" "rather" s_rather f fd) (hm : mg "rather" = some (.ref f)) (fr : Free mg) : Cal P w g mg base "rather" 1 RRather := by
  refine cal_by (N := ["wishes", "places", "comer", "row"]) (ps := ["wishes", "places", "comer"]) F ⟨rfl, rfl, rfl, by decide +kernel, rfl, by decide +kernel, by decide +kernel⟩ hm (fun _ _ _ _ _ _ us hl => match us, hl with | [_, _, _], _ => rfl) ?_ ?_
  · rintro ds r ⟨ws, ps, k, rfl, _⟩
    rfl
  · rintro ds r cdv A outer s0 H E ⟨ws, ps, k, rfl, h0, h1, h2, hl, rfl⟩ hr
    refine ss_cons (s_asg 3 (ev_ix rfl (ev_var 0) (ev_var 2) (at_wish h0 h1)) ?_)
    refine ss_cons (s_if (b := (wishAt ws k).any fun x => decide (some x = placeAt ps k)) (EvT.is (et_cmp (ev_ix rfl (ev_var 1) (ev_var 2) (at_place h0 h2)) (ev_var 3) (cmp_in rfl (fl_oi _) (fl_ints _))) (inV_oi _ _)) (fun hb => ?_) (fun hb => ss_nil (ss_one (s_ret (ev_list rfl fr (ev_var 3)) ?_))))
    · obtain ⟨x, hx, e⟩ := List.any_eq_true.mp hb
      have e' := of_decide_eq_true e
      obtain ⟨j, j1, j2⟩ := idx_ex hx
      have ep : D.oi (placeAt ps k) = .int x := by rw [← e'] <;> rfl
      refine ss_one (s_ret (ev_sl rfl (ev_var 3) eo_none (eo_some (ev_index rfl (ev_var 3) (Ev.is (ev_ix rfl (ev_var 1) (ev_var 2) (at_place h0 h2)) (congrArg Sl.v ep)) j1 j2))) ?_)
      show Sl.m _ = Sl.m _
      rw [take_cut (by omega), Int.toNat_natCast, ← List.map_take]
      unfold ratherM
      rw [← e', aheadM_take j1 j2]
    · show Sl.m _ = Sl.m _
      unfold ratherM
      rw [aheadM_all fun h hh z => ?_]
      have := List.any_eq_false.mp hb h hh
      exact this (decide_eq_true z)
end
end CH

/-! Choosehall: the law's rather. -/
namespace CH
open PySem L2
section
variable {P : Program} {w : World} {g : Gb} {mg : Str → Option Value} {base : Heap} {f : Addr} {fd : FuncData}
theorem c_lrather (F : FnP g.K "_law_rather" "_law_rather" s__law_rather f fd) (hm : mg "_law_rather" = some (.ref f)) (fr : Free mg) : Cal P w g mg base "_law_rather" 1 RRather := by
  refine cal_by (N := ["wishes", "places", "k", "row", "house"]) (ps := ["wishes", "places", "k"]) F ⟨rfl, rfl, rfl, by decide +kernel, rfl, by decide +kernel, by decide +kernel⟩ hm (fun _ _ _ _ _ _ us hl => match us, hl with | [_, _, _], _ => rfl) ?_ ?_
  · rintro ds r ⟨ws, ps, k, rfl, _⟩
    rfl
  · rintro ds r cdv A outer s0 H E ⟨ws, ps, k, rfl, h0, h1, h2, hl, rfl⟩ hr
    refine ss_cons (s_asg 3 (ev_lst ea_nil (by decide)) (ss_cons (s_for 4 (items := (wishAt ws k).map D.int) (ei_list rfl (ev_ix rfl (ev_var 0) (ev_var 2) (at_wish h0 h1))) (fun i G => ∃ z : Sl, (∀ m x, m < i → (wishAt ws k)[m]? = some x → some x ≠ placeAt ps k) ∧ G = [.v (intssD ws), .v (oisD ps), .v (.int k), .m (((wishAt ws k).take i).map D.int), z]) ⟨_, fun m x hm _ => absurd hm (Nat.not_lt_zero m), rfl⟩ (fun i d G hd hI => ?_) (fun G hI => ?_))))
    · obtain ⟨z, hno, rfl⟩ := hI
      rw [List.getElem?_map] at hd
      obtain ⟨h, hh, rfl⟩ := Option.map_eq_some_iff.mp hd
      have hi := (List.getElem?_eq_some_iff.mp hh).1
      refine ss_cons (s_if (b := decide (some h = placeAt ps k)) (EvT.is (et_cmp (ev_var 4) (ev_ix rfl (ev_var 1) (ev_var 2) (at_place h0 h2)) (cmp_eq rfl hr.units (cm_int _).ok (cm_oi _).ok)) (eqv_int_oi _ _)) (fun hb => ?_) (fun hb => ?_))
      · have e := of_decide_eq_true hb
        refine ss_one (s_retOwn 3 ?_)
        show Sl.m _ = Sl.m _
        unfold ratherM
        rw [ahead_step _ _ i hno (by omega)]
        have e2 : (wishAt ws k).drop i = h :: (wishAt ws k).drop (i + 1) := by
          rw [← (List.getElem?_eq_some_iff.mp hh).2, List.getElem_cons_drop hi]
        rw [e2]
        show _ = Sl.m ((_ ++ (if some h = placeAt ps k then [] else _)).map D.int)
        rw [if_pos e, List.append_nil]
      · have e := of_decide_eq_false hb
        refine ss_nil (ss_one (s_append 3 (ds := ((wishAt ws k).take i).map D.int) (ev_var 4) ⟨.v (.int h), fun m x hm hx => ?_, ?_⟩ (by rw [List.length_map, List.length_take]; omega)))
        · by_cases hmi : m < i
          · exact hno m x hmi hx
          · have : m = i := by omega
            rw [this, hh] at hx
            rw [← Option.some.inj hx]
            exact e
        · rw [take_snoc hh, List.map_append] <;> rfl
    · obtain ⟨z, hno, rfl⟩ := hI
      refine ss_one (s_retOwn 3 ?_)
      show Sl.m _ = Sl.m _
      rw [List.length_map, List.take_length]
      unfold ratherM
      rw [aheadM_all fun h hh e => ?_]
      obtain ⟨m, hm, hx⟩ := List.getElem_of_mem hh
      exact hno m h (by rw [List.length_map]; exact hm) (by rw [← hx]; exact List.getElem?_eq_getElem hm) e
end
end CH

/-! Choosehall: how many pairs. -/
namespace CH
open PySem L2
theorem pairs_few {ws : List (List Int)} {hs : List Hs} {ps : List (Option Int)} {n : Nat} (o : WOk ws hs n) (hn : ps.length ≤ n) {l : List Int} (hl : l.Sublist (rg 0 ps.length)) : (l.flatMap (pairsOf ws hs ps)).length ≤ 192 := by
  have h1 : ∀ l : List Int, (∀ k ∈ l, 0 ≤ k ∧ k < n) → (l.flatMap (pairsOf ws hs ps)).length ≤ 8 * l.length := fun l => by
    induction l with
    | nil => intro _; exact Nat.le_refl _
    | cons k r ih =>
      intro h
      rw [List.flatMap_cons, List.length_append, List.length_cons]
      have h2 := ih fun x hx => h x (List.mem_cons_of_mem _ hx)
      obtain ⟨k0, k1⟩ := h k List.mem_cons_self
      have h3 : (pairsOf ws hs ps k).length ≤ 8 := by
        unfold pairsOf
        rw [List.length_map]
        exact Nat.le_trans (List.length_filter_le _ _) (Nat.le_trans (aheadM_sub _ _).length_le (o.wLen k0 k1))
      omega
  have h4 := h1 l fun k hk => by
    have := mem_rg.mp (hl.subset hk)
    omega
  have h5 := hl.length_le
  rw [rg_len] at h5
  have := o.small
  omega
def RBoth : List D → Sl → Prop := fun ds r => ∃ (ws : List (List Int)) (hs : List Hs) (ps : List (Option Int)) (n : Nat), WOk ws hs n ∧ ps.length = n ∧ ds = [intssD ws, hssD hs, oisD ps] ∧ r = .m ((pairsM ws hs ps).map pairD)
def RLPairs : List D → Sl → Prop := fun ds r => ∃ (ws : List (List Int)) (hs : List Hs) (ps : List (Option Int)) (n : Nat), WOk ws hs n ∧ ps.length = n ∧ ds = [intssD ws, rowsD hs, oisD ps] ∧ r = .m ((pairsM ws hs ps).map pairD)
end CH

/-! Choosehall: the pairs that would both rather. -/
namespace CH
open PySem L2
section
variable {P : Program} {w : World} {g : Gb} {mg : Str → Option Value} {base : Heap} {f : Addr} {fd : FuncData}
theorem c_both (F : FnP g.K "both_rather" "both_rather" s_both_rather f fd) (hm : mg "both_rather" = some (.ref f)) (fr : Free mg) (cf : ClsF g) (CHe : Cal P w g mg base "held" 1 RHeld) (CRa : Cal P w g mg base "rather" 1 RRather) (CCh : MCal P w g mg base "chosen" 4 RChosen) : Cal P w g mg base "both_rather" 5 RBoth := by
  refine cal_by (N := ["wishes", "houses", "places", "pairs", "comer", "house"]) (ps := ["wishes", "houses", "places"]) F ⟨rfl, rfl, rfl, by decide +kernel, rfl, by decide +kernel, by decide +kernel⟩ hm (fun _ _ _ _ _ _ us hl => match us, hl with | [_, _, _], _ => rfl) ?_ ?_
  · rintro ds r ⟨ws, hs, ps, n, _, _, rfl, _⟩
    rfl
  · rintro ds r cdv A outer s0 H E ⟨ws, hs, ps, n, o, hpn, rfl, rfl⟩ hr
    have sm := o.small
    have hr1 := hr.mono (j := 1) (by decide)
    refine ss_cons (s_asg 3 (ev_lst ea_nil (by decide)) (ss_cons (s_for 4 (items := (rg 0 ps.length).map D.int) (ei_range fr (ev_len rfl fr (ev_var 2) (len_ois ps)) ⟨by omega, by omega⟩) (fun i G => ∃ z4 z5 : Sl, G = [.v (intssD ws), .v (hssD hs), .v (oisD ps), .m ((((rg 0 ps.length).take i).flatMap (pairsOf ws hs ps)).map pairD), z4, z5]) ⟨_, _, rfl⟩ (fun i d G hd hI => ?_) (fun G hI => ?_))))
    · obtain ⟨z4, z5, rfl⟩ := hI
      rw [List.getElem?_map] at hd
      obtain ⟨k, hk, rfl⟩ := Option.map_eq_some_iff.mp hd
      obtain ⟨k0, k1⟩ := mem_rg.mp (List.mem_of_getElem? hk)
      have wl := o.wLen k0 (by omega)
      have kw : k < ws.length := by rw [o.len]; omega
      have hb1 := pairs_few o (ps := ps) (by omega) (List.take_sublist i (rg 0 ps.length))
      have hst : ∀ j : Nat, ((((rg 0 ps.length).take i).flatMap (pairsOf ws hs ps)).map pairD ++ ((((ratherM ws ps k).take j).filter (wantB hs ps k)).map fun h => pairD (k, h))).length ≤ 90000 := fun j => by
        rw [List.length_append, List.length_map, List.length_map]
        have h1 := List.length_filter_le (wantB hs ps k) ((ratherM ws ps k).take j)
        have h2 : ((ratherM ws ps k).take j).length ≤ (ratherM ws ps k).length := by rw [List.length_take]; omega
        have h3 := (aheadM_sub (wishAt ws k) (placeAt ps k)).length_le
        have h4 : (ratherM ws ps k).length ≤ (wishAt ws k).length := h3
        omega
      refine ss_one (s_for 5 (items := (ratherM ws ps k).map D.int) (ei_list rfl (Ev.fz (ev_call rfl CRa hr1 (ea_cons (ev_var 0) (ea_cons (ev_var 2) (ea_cons (ev_var 4) ea_nil))) ⟨ws, ps, k, rfl, k0, kw, k1, by omega, rfl⟩))) (fun j G => ∃ z5 : Sl, G = [.v (intssD ws), .v (hssD hs), .v (oisD ps), .m ((((rg 0 ps.length).take i).flatMap (pairsOf ws hs ps)).map pairD ++ ((((ratherM ws ps k).take j).filter (wantB hs ps k)).map fun h => pairD (k, h))), .v (.int k), z5]) ⟨z5, ?_⟩ (fun j d G hd hI => ?_) (fun G hI => ?_))
      · rw [List.take_zero]
        show _ = [_, _, _, Sl.m (_ ++ []), _, _]
        rw [List.append_nil] <;> rfl
      · obtain ⟨z5, rfl⟩ := hI
        rw [List.getElem?_map] at hd
        obtain ⟨h, hh, rfl⟩ := Option.map_eq_some_iff.mp hd
        obtain ⟨hw, _⟩ := aheadM_mem (List.mem_of_getElem? hh)
        obtain ⟨h0, h1⟩ := (o.wOk k0 (by omega)).2 h hw
        have ho := o.hOk h0 h1
        have hlen := held_len ps h
        have ecat : (heldM ps h).map D.int ++ [D.int k] = (heldM ps h ++ [k]).map D.int := by rw [List.map_append] <;> rfl
        refine ss_one (s_if (b := wantB hs ps k h) (EvT.is (et_cmp (ev_var 4) (Ev.fz (ev_meth rfl cf.c CCh no_chosen hr (ev_ix rfl (ev_var 1) (ev_var 5) (at_hs h0 h1)) (ea_cons (Ev.is (Ev.fz (ev_bin (Ev.fz (ev_call rfl CHe hr1 (ea_cons (ev_var 2) (ea_cons (ev_var 5) ea_nil)) ⟨ps, h, rfl, by omega, rfl⟩)) (Ev.fz (ev_lst (ea_cons (ev_var 4) ea_nil) (by show (1 : Nat) ≤ 100000; decide))) (bin_cat (by show ((heldM ps h).map D.int).length + 1 ≤ 100000; rw [List.length_map]; omega)))) (congrArg (fun l => Sl.v (.lst l)) ecat)) ea_nil) ⟨houseAt hs h, n, heldM ps h ++ [k], ho, rfl, rfl⟩)) (cmp_in rfl (w := .int k) (ws := (chosenM (houseAt hs h) (heldM ps h ++ [k])).map V.int) rfl (fl_ints _))) (inV_ints _ _)) (fun hb => ?_) (fun hb => ?_))
        · refine ss_one (s_append 3 (ds := (((rg 0 ps.length).take i).flatMap (pairsOf ws hs ps)).map pairD ++ ((((ratherM ws ps k).take j).filter (wantB hs ps k)).map fun h => pairD (k, h))) (ev_tup (ea_cons (ev_var 4) (ea_cons (ev_var 5) ea_nil)) (by show (2 : Nat) ≤ 100000; decide)) ⟨.v (.int h), ?_⟩ (hst j))
          rw [filt_snoc hh, if_pos hb, List.map_append, ← List.append_assoc] <;> rfl
        · refine ss_nil ⟨.v (.int h), ?_⟩
          rw [filt_snoc hh, if_neg (by rw [hb]; decide), List.append_nil] <;> rfl
      · obtain ⟨z5, rfl⟩ := hI
        refine ⟨.v (.int k), z5, ?_⟩
        have e1 : (((rg 0 ps.length).take (i + 1)).flatMap (pairsOf ws hs ps)).map pairD = (((rg 0 ps.length).take i).flatMap (pairsOf ws hs ps)).map pairD ++ (((ratherM ws ps k).filter (wantB hs ps k)).map fun h => pairD (k, h)) := by
          rw [take_snoc hk, List.flatMap_append, List.map_append, List.flatMap_singleton]
          unfold pairsOf
          rw [List.map_map] <;> rfl
        rw [e1, List.length_map, List.take_length]
    · obtain ⟨z4, z5, rfl⟩ := hI
      refine ss_one (s_retOwn 3 ?_)
      show Sl.m _ = Sl.m _
      rw [List.length_map, List.take_length] <;> rfl
end
end CH

/-! Choosehall: the law's own pairs. -/
namespace CH
open PySem L2
section
variable {P : Program} {w : World} {g : Gb} {mg : Str → Option Value} {base : Heap} {f : Addr} {fd : FuncData}
theorem c_lpairs (F : FnP g.K "_law_pairs" "_law_pairs" s__law_pairs f fd) (hm : mg "_law_pairs" = some (.ref f)) (fr : Free mg) (CHe : Cal P w g mg base "_law_held" 1 RHeld) (CRa : Cal P w g mg base "_law_rather" 1 RRather) (CLC : Cal P w g mg base "_law_chosen" 2 RLChosen) : Cal P w g mg base "_law_pairs" 3 RLPairs := by
  refine cal_by (N := ["wishes", "rows", "places", "pairs", "k", "house"]) (ps := ["wishes", "rows", "places"]) F ⟨rfl, rfl, rfl, by decide +kernel, rfl, by decide +kernel, by decide +kernel⟩ hm (fun _ _ _ _ _ _ us hl => match us, hl with | [_, _, _], _ => rfl) ?_ ?_
  · rintro ds r ⟨ws, hs, ps, n, _, _, rfl, _⟩
    rfl
  · rintro ds r cdv A outer s0 H E ⟨ws, hs, ps, n, o, hpn, rfl, rfl⟩ hr
    have sm := o.small
    have hr1 := hr.mono (j := 1) (by decide)
    refine ss_cons (s_asg 3 (ev_lst ea_nil (by decide)) (ss_cons (s_for 4 (items := (rg 0 ps.length).map D.int) (ei_range fr (ev_len rfl fr (ev_var 2) (len_ois ps)) ⟨by omega, by omega⟩) (fun i G => ∃ z4 z5 : Sl, G = [.v (intssD ws), .v (rowsD hs), .v (oisD ps), .m ((((rg 0 ps.length).take i).flatMap (pairsOf ws hs ps)).map pairD), z4, z5]) ⟨_, _, rfl⟩ (fun i d G hd hI => ?_) (fun G hI => ?_))))
    · obtain ⟨z4, z5, rfl⟩ := hI
      rw [List.getElem?_map] at hd
      obtain ⟨k, hk, rfl⟩ := Option.map_eq_some_iff.mp hd
      obtain ⟨k0, k1⟩ := mem_rg.mp (List.mem_of_getElem? hk)
      have wl := o.wLen k0 (by omega)
      have kw : k < ws.length := by rw [o.len]; omega
      have hb1 := pairs_few o (ps := ps) (by omega) (List.take_sublist i (rg 0 ps.length))
      have hst : ∀ j : Nat, ((((rg 0 ps.length).take i).flatMap (pairsOf ws hs ps)).map pairD ++ ((((ratherM ws ps k).take j).filter (wantB hs ps k)).map fun h => pairD (k, h))).length ≤ 90000 := fun j => by
        rw [List.length_append, List.length_map, List.length_map]
        have h1 := List.length_filter_le (wantB hs ps k) ((ratherM ws ps k).take j)
        have h2 : ((ratherM ws ps k).take j).length ≤ (ratherM ws ps k).length := by rw [List.length_take]; omega
        have h3 := (aheadM_sub (wishAt ws k) (placeAt ps k)).length_le
        have h4 : (ratherM ws ps k).length ≤ (wishAt ws k).length := h3
        omega
      refine ss_one (s_for 5 (items := (ratherM ws ps k).map D.int) (ei_list rfl (Ev.fz (ev_call rfl CRa hr1 (ea_cons (ev_var 0) (ea_cons (ev_var 2) (ea_cons (ev_var 4) ea_nil))) ⟨ws, ps, k, rfl, k0, kw, k1, by omega, rfl⟩))) (fun j G => ∃ z5 : Sl, G = [.v (intssD ws), .v (rowsD hs), .v (oisD ps), .m ((((rg 0 ps.length).take i).flatMap (pairsOf ws hs ps)).map pairD ++ ((((ratherM ws ps k).take j).filter (wantB hs ps k)).map fun h => pairD (k, h))), .v (.int k), z5]) ⟨z5, ?_⟩ (fun j d G hd hI => ?_) (fun G hI => ?_))
      · rw [List.take_zero]
        show _ = [_, _, _, Sl.m (_ ++ []), _, _]
        rw [List.append_nil] <;> rfl
      · obtain ⟨z5, rfl⟩ := hI
        rw [List.getElem?_map] at hd
        obtain ⟨h, hh, rfl⟩ := Option.map_eq_some_iff.mp hd
        obtain ⟨hw, _⟩ := aheadM_mem (List.mem_of_getElem? hh)
        obtain ⟨h0, h1⟩ := (o.wOk k0 (by omega)).2 h hw
        have ho := o.hOk h0 h1
        have hlen := held_len ps h
        have ecat : (heldM ps h).map D.int ++ [D.int k] = (heldM ps h ++ [k]).map D.int := by rw [List.map_append] <;> rfl
        refine ss_one (s_if (b := wantB hs ps k h) (EvT.is (et_cmp (ev_var 4) (Ev.fz (ev_call rfl CLC hr (ea_cons (ev_ix rfl (ev_var 1) (ev_var 5) (at_rows h0 h1)) (ea_cons (Ev.is (Ev.fz (ev_bin (Ev.fz (ev_call rfl CHe hr1 (ea_cons (ev_var 2) (ea_cons (ev_var 5) ea_nil)) ⟨ps, h, rfl, by omega, rfl⟩)) (Ev.fz (ev_lst (ea_cons (ev_var 4) ea_nil) (by show (1 : Nat) ≤ 100000; decide))) (bin_cat (by show ((heldM ps h).map D.int).length + 1 ≤ 100000; rw [List.length_map]; omega)))) (congrArg (fun l => Sl.v (.lst l)) ecat)) ea_nil)) ⟨houseAt hs h, n, heldM ps h ++ [k], ho, rfl, rfl⟩)) (cmp_in rfl (w := .int k) (ws := (chosenM (houseAt hs h) (heldM ps h ++ [k])).map V.int) rfl (fl_ints _))) (inV_ints _ _)) (fun hb => ?_) (fun hb => ?_))
        · refine ss_one (s_append 3 (ds := (((rg 0 ps.length).take i).flatMap (pairsOf ws hs ps)).map pairD ++ ((((ratherM ws ps k).take j).filter (wantB hs ps k)).map fun h => pairD (k, h))) (ev_tup (ea_cons (ev_var 4) (ea_cons (ev_var 5) ea_nil)) (by show (2 : Nat) ≤ 100000; decide)) ⟨.v (.int h), ?_⟩ (hst j))
          rw [filt_snoc hh, if_pos hb, List.map_append, ← List.append_assoc] <;> rfl
        · refine ss_nil ⟨.v (.int h), ?_⟩
          rw [filt_snoc hh, if_neg (by rw [hb]; decide), List.append_nil] <;> rfl
      · obtain ⟨z5, rfl⟩ := hI
        refine ⟨.v (.int k), z5, ?_⟩
        have e1 : (((rg 0 ps.length).take (i + 1)).flatMap (pairsOf ws hs ps)).map pairD = (((rg 0 ps.length).take i).flatMap (pairsOf ws hs ps)).map pairD ++ (((ratherM ws ps k).filter (wantB hs ps k)).map fun h => pairD (k, h)) := by
          rw [take_snoc hk, List.flatMap_append, List.map_append, List.flatMap_singleton]
          unfold pairsOf
          rw [List.map_map] <;> rfl
        rw [e1, List.length_map, List.take_length]
    · obtain ⟨z4, z5, rfl⟩ := hI
      refine ss_one (s_retOwn 3 ?_)
      show Sl.m _ = Sl.m _
      rw [List.length_map, List.take_length] <;> rfl
end
end CH

/-! Choosehall: what fair means; pairs as data. -/
namespace CH
open PySem L2
theorem eqv_pair (p q : Int × Int) : (pairD p).eqv (pairD q) = decide (p = q) := by
  have e : (pairD p).eqv (pairD q) = (decide (p.1 = q.1) && (decide (p.2 = q.2) && true)) := rfl
  obtain ⟨a, b⟩ := p
  obtain ⟨c, d⟩ := q
  rw [e, Bool.and_true, ← Bool.decide_and]
  exact decide_eq_decide.mpr ⟨fun h => Prod.ext h.1 h.2, fun h => ⟨congrArg Prod.fst h, congrArg Prod.snd h⟩⟩
theorem eqv_pairs (l m : List (Int × Int)) : (pairsD l).eqv (pairsD m) = decide (l = m) := eqv_map eqv_pair l m
theorem cm_pair (p : Int × Int) : (pairD p).cm 2 := cm_tup fun d hd => by
  rcases List.mem_cons.mp hd with e | e
  · rw [e]
    exact cm_int _
  · rw [List.mem_singleton.mp e]
    exact cm_int _
theorem cm_pairs (l : List (Int × Int)) : (pairsD l).cm 3 := cm_map fun a _ => cm_pair a
def badPlace (ws : List (List Int)) (ps : List (Option Int)) (k : Int) : Bool := !(placeAt ps k).isNone && !((wishAt ws k).any fun x => decide (some x = placeAt ps k))
def badHouse (hs : List Hs) (ps : List (Option Int)) (h : Int) : Bool := !decide (chosenM (houseAt hs h) (heldM ps h) = heldM ps h)
def fairM (ws : List (List Int)) (hs : List Hs) (ps : List (Option Int)) : Bool := !(rg 0 ps.length).any (badPlace ws ps) && (!(rg 0 hs.length).any (badHouse hs ps) && decide (pairsM ws hs ps = []))
def RFair : List D → Sl → Prop := fun ds r => ∃ (ws : List (List Int)) (hs : List Hs) (ps : List (Option Int)) (n : Nat), WOk ws hs n ∧ ps.length = n ∧ ds = [intssD ws, hssD hs, oisD ps] ∧ r = .v (.bl (fairM ws hs ps))
def RLFair : List D → Sl → Prop := fun ds r => ∃ (ws : List (List Int)) (hs : List Hs) (ps : List (Option Int)) (n : Nat), WOk ws hs n ∧ ps.length = n ∧ ds = [intssD ws, rowsD hs, oisD ps] ∧ r = .v (.bl (fairM ws hs ps))
end CH

/-! Choosehall: fair. -/
namespace CH
open PySem L2
section
variable {P : Program} {w : World} {g : Gb} {mg : Str → Option Value} {base : Heap} {f : Addr} {fd : FuncData}
theorem c_lfair (F : FnP g.K "_law_fair" "_law_fair" s__law_fair f fd) (hm : mg "_law_fair" = some (.ref f)) (fr : Free mg) (CHe : Cal P w g mg base "_law_held" 1 RHeld) (CLC : Cal P w g mg base "_law_chosen" 2 RLChosen) (CB : Cal P w g mg base "_law_pairs" 3 RLPairs) : Cal P w g mg base "_law_fair" 4 RLFair := by
  refine cal_by (N := ["wishes", "rows", "places", "k", "house"]) (ps := ["wishes", "rows", "places"]) F ⟨rfl, rfl, rfl, by decide +kernel, rfl, by decide +kernel, by decide +kernel⟩ hm (fun _ _ _ _ _ _ us hl => match us, hl with | [_, _, _], _ => rfl) ?_ ?_
  · rintro ds r ⟨ws, hs, ps, n, _, _, rfl, _⟩
    rfl
  · rintro ds r cdv A outer s0 H E ⟨ws, hs, ps, n, o, hpn, rfl, rfl⟩ hr
    have sm := o.small
    have wl := o.len
    have hf := o.few
    have hr1 := hr.mono (j := 1) (by decide)
    refine ss_cons (s_for 3 (items := (rg 0 ps.length).map D.int) (ei_range fr (ev_len rfl fr (ev_var 2) (len_ois ps)) ⟨by omega, by omega⟩) (fun i G => ∃ z3 z4 : Sl, ((rg 0 ps.length).take i).any (badPlace ws ps) = false ∧ G = [.v (intssD ws), .v (rowsD hs), .v (oisD ps), z3, z4]) ⟨_, _, by rw [List.take_zero] <;> rfl, rfl⟩ (fun i d G hd hI => ?_) (fun G hI => ?_))
    · obtain ⟨z3, z4, hno, rfl⟩ := hI
      rw [List.getElem?_map] at hd
      obtain ⟨k, hk, rfl⟩ := Option.map_eq_some_iff.mp hd
      obtain ⟨k0, k1⟩ := mem_rg.mp (List.mem_of_getElem? hk)
      refine ss_one (s_if (b := badPlace ws ps k) (EvT.is (et_and (et_cmp (ev_ix rfl (ev_var 2) (ev_var 3) (at_place k0 k1)) ev_non cmp_isnot) (fun _ => et_cmp (ev_ix rfl (ev_var 2) (ev_var 3) (at_place k0 k1)) (ev_ix rfl (ev_var 0) (ev_var 3) (at_wish k0 (by omega))) (cmp_notin rfl (fl_oi _) (fl_ints _)))) ?_) (fun hb => ss_one (s_ret ev_false ?_)) (fun hb => ss_nil ⟨_, _, ?_, rfl⟩))
      · rw [inV_oi, isN_oi] <;> rfl
      · show Sl.v (.bl false) = .v (.bl (fairM ws hs ps))
        unfold fairM
        rw [List.any_eq_true.mpr ⟨k, List.mem_of_getElem? hk, hb⟩] <;> rfl
      · rw [take_snoc hk, List.any_append, hno, Bool.false_or, List.any_cons, hb] <;> rfl
    obtain ⟨z3, z4, hno, rfl⟩ := hI
    rw [List.length_map, List.take_length] at hno
    refine ss_cons (s_for 4 (items := (rg 0 hs.length).map D.int) (ei_range fr (ev_len rfl fr (ev_var 1) (len_rows hs)) ⟨by omega, by omega⟩) (fun i G => ∃ z3 z4 : Sl, ((rg 0 hs.length).take i).any (badHouse hs ps) = false ∧ G = [.v (intssD ws), .v (rowsD hs), .v (oisD ps), z3, z4]) ⟨_, _, by rw [List.take_zero] <;> rfl, rfl⟩ (fun i d G hd hI => ?_) (fun G hI => ?_))
    · obtain ⟨z3, z4, hno2, rfl⟩ := hI
      rw [List.getElem?_map] at hd
      obtain ⟨h, hh, rfl⟩ := Option.map_eq_some_iff.mp hd
      obtain ⟨h0, h1⟩ := mem_rg.mp (List.mem_of_getElem? hh)
      have ho := o.hOk h0 h1
      refine ss_one (s_if (b := badHouse hs ps h) (EvT.is (et_cmp (Ev.fz (ev_call rfl CLC (hr.mono (by decide)) (ea_cons (ev_ix rfl (ev_var 1) (ev_var 4) (at_rows h0 h1)) (ea_cons (Ev.fz (ev_call rfl CHe hr1 (ea_cons (ev_var 2) (ea_cons (ev_var 4) ea_nil)) ⟨ps, h, rfl, by omega, rfl⟩)) ea_nil)) ⟨houseAt hs h, n, heldM ps h, ho, rfl, rfl⟩)) (Ev.fz (ev_call rfl CHe hr1 (ea_cons (ev_var 2) (ea_cons (ev_var 4) ea_nil)) ⟨ps, h, rfl, by omega, rfl⟩)) (cmp_ne rfl hr.units (cm_ints _).ok (cm_ints _).ok)) ?_) (fun hb => ss_one (s_ret ev_false ?_)) (fun hb => ss_nil ⟨_, _, ?_, rfl⟩))
      · show (!(intsD (chosenM (houseAt hs h) (heldM ps h))).eqv (intsD (heldM ps h))) = _
        rw [eqv_ints] <;> rfl
      · show Sl.v (.bl false) = .v (.bl (fairM ws hs ps))
        unfold fairM
        rw [List.any_eq_true.mpr ⟨h, List.mem_of_getElem? hh, hb⟩, hno] <;> rfl
      · rw [take_snoc hh, List.any_append, hno2, Bool.false_or, List.any_cons, hb] <;> rfl
    obtain ⟨z3, z4, hno2, rfl⟩ := hI
    rw [List.length_map, List.take_length] at hno2
    refine ss_one (s_ret (Ev.is (ev_cmp (Ev.fz (ev_call rfl CB hr (ea_cons (ev_var 0) (ea_cons (ev_var 1) (ea_cons (ev_var 2) ea_nil))) ⟨ws, hs, ps, n, o, hpn, rfl, rfl⟩)) (Ev.fz (ev_lst ea_nil (by decide))) (cmp_eq rfl hr.units (cm_pairs _).ok (cm_pairs []).ok)) (r' := .v (.bl (fairM ws hs ps))) ?_) rfl)
    show Sl.v (.bl ((pairsD (pairsM ws hs ps)).eqv (pairsD []))) = _
    rw [eqv_pairs]
    unfold fairM
    rw [hno, hno2] <;> rfl
end
end CH

/-! Choosehall: rounds of asking, as plain data. -/
namespace CH
open PySem L2
structure St where
  ps : List (Option Int)
  rf : List Int
def rfAt (rf : List Int) (k : Int) : Int := rf.getD k.toNat 0
def askB (ws : List (List Int)) (s : St) (k : Int) : Bool := (placeAt s.ps k).isNone && decide (rfAt s.rf k < (wishAt ws k).length)
def askOf (ws : List (List Int)) (s : St) (k : Int) : Int := (wishAt ws k).getD (rfAt s.rf k).toNat 0
def asksM (ws : List (List Int)) (s : St) : List (Int × Int) := ((rg 0 ws.length).filter (askB ws s)).map fun k => (k, askOf ws s k)
def comStep (h : Int) (taken : List Int) (s : St) (c : Int) : St :=
  if c ∈ taken then ⟨s.ps.set c.toNat (some h), s.rf⟩ else ⟨s.ps.set c.toNat none, s.rf.set c.toNat (rfAt s.rf c + 1)⟩
def comersOf (asks : List (Int × Int)) (h : Int) : List Int := (asks.filter fun p => decide (p.2 = h)).map (·.1)
def allHere (asks : List (Int × Int)) (s : St) (h : Int) : List Int := heldM s.ps h ++ comersOf asks h
def houseStep (hs : List Hs) (asks : List (Int × Int)) (s : St) (h : Int) : St := (allHere asks s h).foldl (comStep h (chosenM (houseAt hs h) (allHere asks s h))) s
def roundM (ws : List (List Int)) (hs : List Hs) (s : St) : St := (rg 0 hs.length).foldl (houseStep hs (asksM ws s)) s
def runM (ws : List (List Int)) (hs : List Hs) : Nat → St → St
  | 0, s => s
  | f + 1, s => if (asksM ws s).isEmpty = true then s else runM ws hs f (roundM ws hs s)
def start (n : Nat) : St := ⟨List.replicate n none, List.replicate n 0⟩
def termOf (ws : List (List Int)) (s : St) (k : Int) : Nat := 2 * ((wishAt ws k).length - (rfAt s.rf k).toNat) + (if placeAt s.ps k = none then 1 else 0)
def meas (ws : List (List Int)) (s : St) : Nat := ((rg 0 ws.length).map (termOf ws s)).sum
def grantedSt (ws : List (List Int)) (hs : List Hs) : St := runM ws hs (meas ws (start ws.length)) (start ws.length)
def grantedM (ws : List (List Int)) (hs : List Hs) : List (Option Int) := (grantedSt ws hs).ps

/-! ### lengths -/
structure LenOk (n : Nat) (s : St) : Prop where
  ps : s.ps.length = n
  rf : s.rf.length = n
theorem comStep_len {n : Nat} {h : Int} {t : List Int} {s : St} {c : Int} (o : LenOk n s) : LenOk n (comStep h t s c) := by
  unfold comStep
  split
  · exact ⟨by show (s.ps.set _ _).length = n; rw [List.length_set]; exact o.ps, o.rf⟩
  · exact ⟨by show (s.ps.set _ _).length = n; rw [List.length_set]; exact o.ps, by show (s.rf.set _ _).length = n; rw [List.length_set]; exact o.rf⟩
theorem comFold_len {n : Nat} {h : Int} {t : List Int} : ∀ (l : List Int) {s : St}, LenOk n s → LenOk n (l.foldl (comStep h t) s)
  | [], _, o => o
  | _ :: l, _, o => comFold_len l (comStep_len o)
theorem houseStep_len {n : Nat} {hs : List Hs} {asks : List (Int × Int)} {s : St} {h : Int} (o : LenOk n s) : LenOk n (houseStep hs asks s h) := comFold_len _ o
theorem houseFold_len {n : Nat} {hs : List Hs} {asks : List (Int × Int)} : ∀ (l : List Int) {s : St}, LenOk n s → LenOk n (l.foldl (houseStep hs asks) s)
  | [], _, o => o
  | _ :: l, _, o => houseFold_len l (houseStep_len o)
theorem round_len {n : Nat} {ws : List (List Int)} {hs : List Hs} {s : St} (o : LenOk n s) : LenOk n (roundM ws hs s) := houseFold_len _ o
theorem start_len (n : Nat) : LenOk n (start n) := ⟨List.length_replicate, List.length_replicate⟩

/-! ### one step read at a comer -/
theorem getD_set_at {α : Type} {l : List α} {i j : Nat} {a d : α} (h : i < l.length) : (l.set i a).getD j d = if i = j then a else l.getD j d := by
  rw [List.getD_eq_getElem?_getD, List.getD_eq_getElem?_getD, List.getElem?_set]
  by_cases e : i = j
  · rw [if_pos e, if_pos e, if_pos h] <;> rfl
  · rw [if_neg e, if_neg e]
theorem toNat_ne {c k : Int} (h0 : 0 ≤ c) (k0 : 0 ≤ k) (e : c ≠ k) : c.toNat ≠ k.toNat := by omega
/-- a list of comers, each once, walked: those taken go in, the others are refused -/
theorem comFold_at {n : Nat} {h : Int} {t : List Int} : ∀ (l : List Int) {s : St}, LenOk n s → l.Nodup → (∀ c ∈ l, 0 ≤ c ∧ c < n) → ∀ k : Int, 0 ≤ k →
    placeAt (l.foldl (comStep h t) s).ps k = (if k ∈ l then (if k ∈ t then some h else none) else placeAt s.ps k) ∧ rfAt (l.foldl (comStep h t) s).rf k = (if k ∈ l ∧ k ∉ t then rfAt s.rf k + 1 else rfAt s.rf k)
  | [], s, _, _, _, k, _ => by
    refine ⟨?_, ?_⟩
    · rw [if_neg (by simp)] <;> rfl
    · rw [if_neg (by simp)] <;> rfl
  | c :: l, s, o, nd, hr, k, k0 => by
    obtain ⟨n1, n2⟩ := List.nodup_cons.mp nd
    obtain ⟨c0, c1⟩ := hr c List.mem_cons_self
    obtain ⟨a1, a2⟩ := comFold_at (h := h) (t := t) l (comStep_len (h := h) (t := t) (c := c) o) n2 (fun x hx => hr x (List.mem_cons_of_mem _ hx)) k k0
    rw [List.foldl_cons, a1, a2]
    have hp : placeAt (comStep h t s c).ps k = if c = k then (if c ∈ t then some h else none) else placeAt s.ps k := by
      unfold comStep placeAt
      by_cases ct : c ∈ t
      · rw [if_pos ct]
        show (s.ps.set c.toNat (some h)).getD k.toNat none = _
        rw [getD_set_at (by rw [o.ps]; omega), if_pos ct]
        by_cases e : c = k
        · rw [if_pos e, if_pos (by rw [e])]
        · rw [if_neg e, if_neg (toNat_ne c0 k0 e)]
      · rw [if_neg ct]
        show (s.ps.set c.toNat none).getD k.toNat none = _
        rw [getD_set_at (by rw [o.ps]; omega), if_neg ct]
        by_cases e : c = k
        · rw [if_pos e, if_pos (by rw [e])]
        · rw [if_neg e, if_neg (toNat_ne c0 k0 e)]
    have hq : rfAt (comStep h t s c).rf k = if c = k ∧ c ∉ t then rfAt s.rf k + 1 else rfAt s.rf k := by
      unfold comStep
      by_cases ct : c ∈ t
      · rw [if_pos ct, if_neg (fun z => z.2 ct)]
      · rw [if_neg ct]
        show (s.rf.set c.toNat (rfAt s.rf c + 1)).getD k.toNat 0 = _
        rw [getD_set_at (by rw [o.rf]; omega)]
        by_cases e : c = k
        · rw [if_pos (by rw [e]), if_pos ⟨e, ct⟩, e]
        · rw [if_neg (toNat_ne c0 k0 e), if_neg fun z => e z.1] <;> rfl
    rw [hp, hq]
    by_cases e : c = k
    · subst e
      by_cases ct : c ∈ t
      · simp [n1, ct]
      · simp [n1, ct]
    · have e2 : ¬ k = c := fun z => e z.symm
      by_cases kl : k ∈ l
      · by_cases kt : k ∈ t
        · simp [e, e2, kl, kt]
        · simp [e, e2, kl, kt]
      · simp [e, e2, kl]

/-! ### the round -/
/-- the house that a comer is at in this round: held, or asked -/
def curOf (ws : List (List Int)) (s : St) (k : Int) : Option Int := (wishAt ws k)[(rfAt s.rf k).toNat]?
/-- everyone asked their wishes one by one, and each house has chosen out of all that asked it -/
structure Inv (ws : List (List Int)) (hs : List Hs) (n : Nat) (s : St) : Prop where
  len : LenOk n s
  r0 : ∀ k : Int, 0 ≤ k → k < n → 0 ≤ rfAt s.rf k ∧ rfAt s.rf k ≤ (wishAt ws k).length
  at_ : ∀ k : Int, 0 ≤ k → k < n → placeAt s.ps k = none ∨ placeAt s.ps k = curOf ws s k
  chose : ∀ h : Int, 0 ≤ h → h < hs.length → ∀ A : List Int, (∀ k, k ∈ A ↔ (0 ≤ k ∧ k < n) ∧ (h ∈ (wishAt ws k).take (rfAt s.rf k).toNat ∨ placeAt s.ps k = some h)) → ∀ k, k ∈ chosenM (houseAt hs h) A ↔ (0 ≤ k ∧ k < n) ∧ placeAt s.ps k = some h
section
variable {ws : List (List Int)} {hs : List Hs} {n : Nat} {s : St}
theorem mem_asks {p : Int × Int} : p ∈ asksM ws s ↔ ((0 ≤ p.1 ∧ p.1 < ws.length) ∧ askB ws s p.1 = true) ∧ p.2 = askOf ws s p.1 := by
  unfold asksM
  rw [List.mem_map]
  constructor
  · rintro ⟨k, hk, rfl⟩
    rw [List.mem_filter, mem_rg] at hk
    exact ⟨hk, rfl⟩
  · rintro ⟨h1, h2⟩
    exact ⟨p.1, by rw [List.mem_filter, mem_rg]; exact h1, by rw [← h2]⟩
theorem asks_nodup : ((asksM ws s).map (·.1)).Nodup := by
  unfold asksM
  rw [List.map_map]
  show (((rg 0 ws.length).filter (askB ws s)).map fun k => k).Nodup
  rw [List.map_id']
  exact (rg_nodup _ _).filter _
theorem mem_comers {h k : Int} : k ∈ comersOf (asksM ws s) h ↔ ((0 ≤ k ∧ k < ws.length) ∧ askB ws s k = true) ∧ askOf ws s k = h := by
  unfold comersOf
  rw [List.mem_map]
  constructor
  · rintro ⟨p, hp, rfl⟩
    rw [List.mem_filter, decide_eq_true_eq, mem_asks] at hp
    exact ⟨hp.1.1, by rw [← hp.1.2]; exact hp.2⟩
  · rintro ⟨h1, h2⟩
    exact ⟨(k, h), by rw [List.mem_filter, mem_asks]; exact ⟨⟨h1, h2.symm⟩, decide_eq_true rfl⟩, rfl⟩
theorem comers_nodup (h : Int) : (comersOf (asksM ws s) h).Nodup := by
  unfold comersOf
  exact (asks_nodup (ws := ws) (s := s)).sublist (List.filter_sublist.map _)
end
end CH

/-! Choosehall: what a round does; the places given are fair. -/
namespace CH
open PySem L2
def xOf (ws : List (List Int)) (s : St) (n : Nat) (h : Int) : List Int := (rg 0 n).filter fun k => decide (curOf ws s k = some h)
def tk (ws : List (List Int)) (hs : List Hs) (s : St) (n : Nat) (h : Int) : List Int := chosenM (houseAt hs h) (xOf ws s n h)
theorem mem_x {ws : List (List Int)} {s : St} {n : Nat} {h k : Int} : k ∈ xOf ws s n h ↔ (0 ≤ k ∧ k < n) ∧ curOf ws s k = some h := by
  unfold xOf
  rw [List.mem_filter, mem_rg, decide_eq_true_eq]
section
variable {ws : List (List Int)} {hs : List Hs} {n : Nat} {s : St}
theorem cur_wish {k h : Int} (e : curOf ws s k = some h) : h ∈ wishAt ws k := List.mem_of_getElem? e
theorem ask_is {k : Int} (r : 0 ≤ rfAt s.rf k) (e : askB ws s k = true) : placeAt s.ps k = none ∧ curOf ws s k = some (askOf ws s k) := by
  unfold askB at e
  rw [Bool.and_eq_true] at e
  have h1 := of_decide_eq_true e.2
  refine ⟨Option.isNone_iff_eq_none.mp e.1, ?_⟩
  unfold curOf askOf
  rw [List.getD_eq_getElem?_getD, List.getElem?_eq_getElem (by omega)] <;> rfl
theorem is_ask {k h : Int} (r : 0 ≤ rfAt s.rf k) (p : placeAt s.ps k = none) (e : curOf ws s k = some h) : askB ws s k = true ∧ askOf ws s k = h := by
  have hl := (List.getElem?_eq_some_iff.mp e).1
  unfold askB askOf
  refine ⟨?_, ?_⟩
  · rw [p, decide_eq_true (p := rfAt s.rf k < ((wishAt ws k).length : Int)) (by omega)] <;> rfl
  · rw [List.getD_eq_getElem?_getD]
    unfold curOf at e
    rw [e] <;> rfl
theorem round_at (o : WOk ws hs n) (I : Inv ws hs n s) : ∀ j : Nat, j ≤ hs.length → LenOk n (((rg 0 hs.length).take j).foldl (houseStep hs (asksM ws s)) s) ∧ ∀ k : Int, 0 ≤ k → k < n →
    (∀ h : Int, curOf ws s k = some h → h < j → (k ∈ tk ws hs s n h → placeAt (((rg 0 hs.length).take j).foldl (houseStep hs (asksM ws s)) s).ps k = some h ∧ rfAt (((rg 0 hs.length).take j).foldl (houseStep hs (asksM ws s)) s).rf k = rfAt s.rf k) ∧
      (k ∉ tk ws hs s n h → placeAt (((rg 0 hs.length).take j).foldl (houseStep hs (asksM ws s)) s).ps k = none ∧ rfAt (((rg 0 hs.length).take j).foldl (houseStep hs (asksM ws s)) s).rf k = rfAt s.rf k + 1)) ∧
    ((∀ h : Int, curOf ws s k = some h → ¬ h < j) → placeAt (((rg 0 hs.length).take j).foldl (houseStep hs (asksM ws s)) s).ps k = placeAt s.ps k ∧ rfAt (((rg 0 hs.length).take j).foldl (houseStep hs (asksM ws s)) s).rf k = rfAt s.rf k) := by
  intro j
  induction j with
  | zero =>
    intro _
    refine ⟨I.len, fun k k0 k1 => ⟨fun h e hj => ?_, fun _ => ⟨rfl, rfl⟩⟩⟩
    have := ((o.wOk k0 k1).2 h (cur_wish e)).1
    omega
  | succ j ih =>
    intro hj
    obtain ⟨L, ihk⟩ := ih (by omega)
    have hjat : (rg 0 (hs.length : Int))[j]? = some (j : Int) := by
      rw [rg_at (by omega)]
      congr 1
      omega
    rw [take_snoc hjat, List.foldl_append]
    generalize ((rg 0 hs.length).take j).foldl (houseStep hs (asksM ws s)) s = s' at L ihk
    simp only [List.foldl_cons, List.foldl_nil]
    have hheld : ∀ k : Int, k ∈ heldM s'.ps j ↔ (0 ≤ k ∧ k < n) ∧ placeAt s.ps k = some (j : Int) := fun k => by
      rw [mem_held, L.ps]
      constructor
      · rintro ⟨⟨k0, k1⟩, e⟩
        refine ⟨⟨k0, k1⟩, ?_⟩
        obtain ⟨a, b⟩ := ihk k k0 k1
        by_cases z : ∀ h : Int, curOf ws s k = some h → ¬ h < j
        · rw [← (b z).1]
          exact e
        · obtain ⟨h, z⟩ := Classical.not_forall.mp z
          obtain ⟨z1, z2⟩ := Classical.not_imp.mp z
          have z3 := Classical.not_not.mp z2
          by_cases t : k ∈ tk ws hs s n h
          · have := ((a h z1 z3).1 t).1
            rw [e] at this
            have := Option.some.inj this
            omega
          · have := ((a h z1 z3).2 t).1
            rw [e] at this
            cases this
      · rintro ⟨⟨k0, k1⟩, e⟩
        refine ⟨⟨k0, k1⟩, ?_⟩
        obtain ⟨a, b⟩ := ihk k k0 k1
        have hc : curOf ws s k = some (j : Int) := by
          rcases I.at_ k k0 k1 with z | z
          · rw [e] at z
            cases z
          · rw [← z]
            exact e
        rw [(b fun h z w => by rw [hc] at z; have := Option.some.inj z; omega).1]
        exact e
    have hall : ∀ k : Int, k ∈ allHere (asksM ws s) s' j ↔ k ∈ xOf ws s n j := fun k => by
      unfold allHere
      rw [List.mem_append, hheld, mem_comers, mem_x, o.len]
      constructor
      · rintro (⟨h1, e⟩ | ⟨⟨h1, e1⟩, e2⟩)
        · refine ⟨h1, ?_⟩
          rcases I.at_ k h1.1 h1.2 with z | z
          · rw [e] at z
            cases z
          · rw [← z]
            exact e
        · refine ⟨h1, ?_⟩
          rw [(ask_is (I.r0 k h1.1 h1.2).1 e1).2, e2]
      · rintro ⟨h1, e⟩
        rcases I.at_ k h1.1 h1.2 with z | z
        · obtain ⟨y1, y2⟩ := is_ask (I.r0 k h1.1 h1.2).1 z e
          exact Or.inr ⟨⟨h1, y1⟩, y2⟩
        · exact Or.inl ⟨h1, by rw [z]; exact e⟩
    have hnd : (allHere (asksM ws s) s' j).Nodup := by
      unfold allHere
      refine List.nodup_append.mpr ⟨(rg_nodup _ _).filter _, comers_nodup _, fun a ha b hb e => ?_⟩
      subst e
      have h1 := (hheld a).mp ha
      have h2 := mem_comers.mp hb
      have h3 := (ask_is (I.r0 a h1.1.1 h1.1.2).1 h2.1.2).1
      rw [h1.2] at h3
      cases h3
    have hch : chosenM (houseAt hs j) (allHere (asksM ws s) s' j) = tk ws hs s n j := chosen_congr hall
    have hrange : ∀ c ∈ allHere (asksM ws s) s' j, 0 ≤ c ∧ c < n := fun c hc => (mem_x.mp ((hall c).mp hc)).1
    refine ⟨houseStep_len L, fun k k0 k1 => ?_⟩
    have st := comFold_at (h := (j : Int)) (t := tk ws hs s n j) _ L hnd hrange k k0
    have est : houseStep hs (asksM ws s) s' j = (allHere (asksM ws s) s' j).foldl (comStep j (tk ws hs s n j)) s' := by
      unfold houseStep
      rw [hch]
    rw [est]
    obtain ⟨a, b⟩ := ihk k k0 k1
    by_cases hx : k ∈ allHere (asksM ws s) s' j
    · have hc := (mem_x.mp ((hall k).mp hx)).2
      have hb := b fun h z w => by
        rw [hc] at z
        have := Option.some.inj z
        omega
      rw [if_pos hx] at st
      refine ⟨fun h e hj => ?_, fun z => absurd (show (j : Int) < (j + 1 : Nat) by omega) (z j hc)⟩
      rw [hc] at e
      have e' := Option.some.inj e
      subst e'
      refine ⟨fun t => ⟨?_, ?_⟩, fun t => ⟨?_, ?_⟩⟩
      · rw [st.1, if_pos t]
      · rw [st.2, if_neg (fun z => z.2 t), hb.2]
      · rw [st.1, if_neg t]
      · rw [st.2, if_pos ⟨hx, t⟩, hb.2]
    · rw [if_neg hx, if_neg (fun z => hx z.1)] at st
      have hcn : curOf ws s k ≠ some (j : Int) := fun z => hx ((hall k).mpr (mem_x.mpr ⟨⟨k0, k1⟩, z⟩))
      rw [st.1, st.2]
      refine ⟨fun h e hj => a h e ?_, fun z => b fun h e w => z h e (by omega)⟩
      have : h ≠ j := fun w => hcn (by rw [e, w])
      omega
/-- a round: whoever is at a house is taken or refused -/
theorem round_is (o : WOk ws hs n) (I : Inv ws hs n s) : LenOk n (roundM ws hs s) ∧ ∀ k : Int, 0 ≤ k → k < n →
    (∀ h : Int, curOf ws s k = some h → (k ∈ tk ws hs s n h → placeAt (roundM ws hs s).ps k = some h ∧ rfAt (roundM ws hs s).rf k = rfAt s.rf k) ∧ (k ∉ tk ws hs s n h → placeAt (roundM ws hs s).ps k = none ∧ rfAt (roundM ws hs s).rf k = rfAt s.rf k + 1)) ∧
    (curOf ws s k = none → placeAt (roundM ws hs s).ps k = none ∧ rfAt (roundM ws hs s).rf k = rfAt s.rf k) := by
  have h := round_at o I hs.length (Nat.le_refl _)
  have e : (rg 0 (hs.length : Int)).take hs.length = rg 0 (hs.length : Int) := List.take_of_length_le (by rw [rg_len]; omega)
  rw [e] at h
  refine ⟨h.1, fun k k0 k1 => ?_⟩
  obtain ⟨a, b⟩ := h.2 k k0 k1
  refine ⟨fun h e => a h e ((o.wOk k0 k1).2 h (cur_wish e)).2, fun e => ?_⟩
  have := b fun h z => by
    rw [e] at z
    cases z
  refine ⟨this.1.trans ?_, this.2⟩
  rcases I.at_ k k0 k1 with z | z
  · exact z
  · rw [z]
    exact e
theorem round_inv (o : WOk ws hs n) (I : Inv ws hs n s) : Inv ws hs n (roundM ws hs s) := by
  obtain ⟨L, R⟩ := round_is o I
  refine ⟨L, fun k k0 k1 => ?_, fun k k0 k1 => ?_, fun h h0 h1 A hA k => ?_⟩
  · obtain ⟨a, b⟩ := R k k0 k1
    obtain ⟨r0, r1⟩ := I.r0 k k0 k1
    cases e : curOf ws s k with
    | none =>
      rw [(b e).2]
      exact ⟨r0, r1⟩
    | some h =>
      have hl := (List.getElem?_eq_some_iff.mp e).1
      by_cases t : k ∈ tk ws hs s n h
      · rw [((a h e).1 t).2]
        exact ⟨r0, r1⟩
      · rw [((a h e).2 t).2]
        omega
  · obtain ⟨a, b⟩ := R k k0 k1
    cases e : curOf ws s k with
    | none => exact Or.inl (b e).1
    | some h =>
      by_cases t : k ∈ tk ws hs s n h
      · refine Or.inr ?_
        rw [((a h e).1 t).1]
        unfold curOf
        rw [((a h e).1 t).2]
        exact e.symm
      · exact Or.inl ((a h e).2 t).1
  · have ho := o.hOk h0 h1
    -- the old list
    have hA0 : ∀ k, k ∈ ((rg 0 (n : Int)).filter fun k => decide (h ∈ (wishAt ws k).take (rfAt s.rf k).toNat ∨ placeAt s.ps k = some h)) ↔ (0 ≤ k ∧ k < n) ∧ (h ∈ (wishAt ws k).take (rfAt s.rf k).toNat ∨ placeAt s.ps k = some h) := fun k => by
      rw [List.mem_filter, mem_rg, decide_eq_true_eq]
    have C0 := I.chose h h0 h1 _ hA0
    generalize ((rg 0 (n : Int)).filter fun k => decide (h ∈ (wishAt ws k).take (rfAt s.rf k).toNat ∨ placeAt s.ps k = some h)) = A0 at hA0 C0
    have curP : ∀ k : Int, (0 ≤ k ∧ k < n) → placeAt s.ps k = some h → curOf ws s k = some h := fun k hk e => by
      rcases I.at_ k hk.1 hk.2 with z | z
      · rw [e] at z
        cases z
      · rw [← z]
        exact e
    have un : ∀ k, k ∈ A ↔ k ∈ A0 ∨ k ∈ xOf ws s n h := fun k => by
      rw [hA, hA0, mem_x]
      constructor
      · rintro ⟨hk, z⟩
        obtain ⟨a, b⟩ := R k hk.1 hk.2
        obtain ⟨r0, r1⟩ := I.r0 k hk.1 hk.2
        cases e : curOf ws s k with
        | none =>
          rw [(b e).1, (b e).2] at z
          rcases z with z | z
          · exact Or.inl ⟨hk, Or.inl z⟩
          · cases z
        | some g =>
          by_cases t : k ∈ tk ws hs s n g
          · rw [((a g e).1 t).1, ((a g e).1 t).2] at z
            rcases z with z | z
            · exact Or.inl ⟨hk, Or.inl z⟩
            · exact Or.inr ⟨hk, z⟩
          · rw [((a g e).2 t).1, ((a g e).2 t).2] at z
            rcases z with z | z
            · have e2 : (rfAt s.rf k + 1).toNat = (rfAt s.rf k).toNat + 1 := by omega
              rw [e2, take_snoc e, List.mem_append, List.mem_singleton] at z
              rcases z with z | z
              · exact Or.inl ⟨hk, Or.inl z⟩
              · exact Or.inr ⟨hk, by rw [z]⟩
            · cases z
      · rintro (⟨hk, z⟩ | ⟨hk, z⟩)
        · refine ⟨hk, ?_⟩
          obtain ⟨a, b⟩ := R k hk.1 hk.2
          obtain ⟨r0, r1⟩ := I.r0 k hk.1 hk.2
          rcases z with z | z
          · refine Or.inl ?_
            cases e : curOf ws s k with
            | none =>
              rw [(b e).2]
              exact z
            | some g =>
              by_cases t : k ∈ tk ws hs s n g
              · rw [((a g e).1 t).2]
                exact z
              · rw [((a g e).2 t).2]
                have e2 : (rfAt s.rf k + 1).toNat = (rfAt s.rf k).toNat + 1 := by omega
                rw [e2, take_snoc e]
                exact List.mem_append_left _ z
          · have e := curP k hk z
            by_cases t : k ∈ tk ws hs s n h
            · exact Or.inr ((a h e).1 t).1
            · refine Or.inl ?_
              rw [((a h e).2 t).2]
              have e2 : (rfAt s.rf k + 1).toNat = (rfAt s.rf k).toNat + 1 := by omega
              rw [e2, take_snoc e]
              exact List.mem_append_right _ (List.mem_singleton.mpr rfl)
        · refine ⟨hk, ?_⟩
          obtain ⟨a, b⟩ := R k hk.1 hk.2
          obtain ⟨r0, r1⟩ := I.r0 k hk.1 hk.2
          by_cases t : k ∈ tk ws hs s n h
          · exact Or.inr ((a h z).1 t).1
          · refine Or.inl ?_
            rw [((a h z).2 t).2]
            have e2 : (rfAt s.rf k + 1).toNat = (rfAt s.rf k).toNat + 1 := by omega
            rw [e2, take_snoc z]
            exact List.mem_append_right _ (List.mem_singleton.mpr rfl)
    have irc : chosenM (houseAt hs h) (xOf ws s n h) = chosenM (houseAt hs h) A := ch_irc ho (fun k hk => (un k).mpr (Or.inr hk)) fun k hk => by
      rcases (un k).mp (chosen_in ho hk).2.1 with z | z
      · have z2 := (C0 k).mp (ch_subst ho (fun x hx => (un x).mpr (Or.inl hx)) z hk)
        exact mem_x.mpr ⟨z2.1, curP k z2.1 z2.2⟩
      · exact z
    rw [← irc]
    show k ∈ tk ws hs s n h ↔ _
    constructor
    · intro t
      have hx := mem_x.mp (chosen_in ho t).2.1
      exact ⟨hx.1, (((R k hx.1.1 hx.1.2).1 h hx.2).1 t).1⟩
    · rintro ⟨hk, e⟩
      obtain ⟨a, b⟩ := R k hk.1 hk.2
      cases ec : curOf ws s k with
      | none =>
        rw [(b ec).1] at e
        cases e
      | some g =>
        by_cases t : k ∈ tk ws hs s n g
        · rw [((a g ec).1 t).1] at e
          rw [← Option.some.inj e]
          exact t
        · rw [((a g ec).2 t).1] at e
          cases e
end
end CH

/-! Choosehall: the rounds end; the places given are fair. -/
namespace CH
open PySem L2
theorem sum_le {l : List Int} {f g : Int → Nat} (h : ∀ x ∈ l, f x ≤ g x) : (l.map f).sum ≤ (l.map g).sum := by
  induction l with
  | nil => exact Nat.le_refl _
  | cons a r ih =>
    rw [List.map_cons, List.map_cons, List.sum_cons, List.sum_cons]
    have h1 := h a List.mem_cons_self
    have h2 := ih fun x hx => h x (List.mem_cons_of_mem _ hx)
    omega
theorem sum_lt {l : List Int} {f g : Int → Nat} (h : ∀ x ∈ l, f x ≤ g x) {a : Int} (ha : a ∈ l) (hlt : f a < g a) : (l.map f).sum < (l.map g).sum := by
  induction l with
  | nil => cases ha
  | cons b r ih =>
    rw [List.map_cons, List.map_cons, List.sum_cons, List.sum_cons]
    have h1 := h b List.mem_cons_self
    have h3 : ∀ x ∈ r, f x ≤ g x := fun x hx => h x (List.mem_cons_of_mem _ hx)
    rcases List.mem_cons.mp ha with e | e
    · subst e
      have := sum_le h3
      omega
    · have := ih h3 e
      omega
section
variable {ws : List (List Int)} {hs : List Hs} {n : Nat} {s : St}
theorem meas_lt (o : WOk ws hs n) (I : Inv ws hs n s) (ne : asksM ws s ≠ []) : meas ws (roundM ws hs s) < meas ws s := by
  obtain ⟨L, R⟩ := round_is o I
  have hle : ∀ k ∈ rg 0 (ws.length : Int), termOf ws (roundM ws hs s) k ≤ termOf ws s k := fun k hk => by
    obtain ⟨k0, k1⟩ := mem_rg.mp hk
    rw [o.len] at k1
    obtain ⟨a, b⟩ := R k k0 k1
    obtain ⟨r0, r1⟩ := I.r0 k k0 k1
    unfold termOf
    cases e : curOf ws s k with
    | none =>
      rw [(b e).1, (b e).2]
      have : placeAt s.ps k = none := by
        rcases I.at_ k k0 k1 with z | z
        · exact z
        · rw [z]
          exact e
      rw [this]
      exact Nat.le_refl _
    | some h =>
      have hl := (List.getElem?_eq_some_iff.mp e).1
      by_cases t : k ∈ tk ws hs s n h
      · rw [((a h e).1 t).1, ((a h e).1 t).2, if_neg (by simp)]
        omega
      · rw [((a h e).2 t).1, ((a h e).2 t).2, if_pos rfl]
        split <;> omega
  obtain ⟨p, hp⟩ := List.exists_mem_of_ne_nil _ ne
  have hq := mem_asks.mp hp
  have hk := mem_rg.mpr hq.1.1
  refine sum_lt hle hk ?_
  obtain ⟨k0, k1⟩ := hq.1.1
  rw [o.len] at k1
  obtain ⟨a, b⟩ := R p.1 k0 k1
  obtain ⟨r0, r1⟩ := I.r0 p.1 k0 k1
  obtain ⟨q1, q2⟩ := ask_is r0 hq.1.2
  have hl := (List.getElem?_eq_some_iff.mp q2).1
  unfold termOf
  rw [q1, if_pos rfl]
  by_cases t : p.1 ∈ tk ws hs s n (askOf ws s p.1)
  · rw [((a _ q2).1 t).1, ((a _ q2).1 t).2, if_neg (by simp)]
    omega
  · rw [((a _ q2).2 t).1, ((a _ q2).2 t).2, if_pos rfl]
    omega
theorem run_inv (o : WOk ws hs n) : ∀ (f : Nat) (s : St), Inv ws hs n s → meas ws s ≤ f → Inv ws hs n (runM ws hs f s) ∧ asksM ws (runM ws hs f s) = []
  | 0, s, I, h => by
    refine ⟨I, ?_⟩
    by_cases z : asksM ws s = []
    · exact z
    · have := meas_lt o I z
      omega
  | f + 1, s, I, h => by
    unfold runM
    by_cases z : asksM ws s = []
    · rw [if_pos (by rw [z] <;> rfl)]
      exact ⟨I, z⟩
    · rw [if_neg (fun w => z (List.isEmpty_iff.mp w))]
      have := meas_lt o I z
      exact run_inv o f _ (round_inv o I) (by omega)
theorem repl_getD {α : Type} {a : α} {m i : Nat} {d : α} (h : a = d) : (List.replicate m a).getD i d = d := by
  rw [List.getD_eq_getElem?_getD]
  cases e : (List.replicate m a)[i]? with
  | none => rfl
  | some b =>
    have := List.eq_of_mem_replicate (List.mem_of_getElem? e)
    rw [this, h] <;> rfl
theorem start_inv (o : WOk ws hs n) : Inv ws hs n (start n) := by
  have hr : ∀ k : Int, rfAt (start n).rf k = 0 := fun k => repl_getD rfl
  have hp : ∀ k : Int, placeAt (start n).ps k = none := fun k => repl_getD rfl
  refine ⟨start_len n, fun k _ _ => by rw [hr]; exact ⟨Int.le_refl _, by omega⟩, fun k _ _ => Or.inl (hp k), fun h h0 h1 A hA k => ?_⟩
  have ho := o.hOk h0 h1
  constructor
  · intro z
    have := ((hA k).mp (chosen_in ho z).2.1).2
    rw [hr, hp] at this
    rcases this with w | w
    · cases w
    · cases w
  · rintro ⟨_, z⟩
    rw [hp] at z
    cases z
/-- what is known of the rounds' end -/
theorem granted_inv (o : WOk ws hs n) : Inv ws hs n (grantedSt ws hs) ∧ asksM ws (grantedSt ws hs) = [] := by
  unfold grantedSt
  rw [o.len]
  exact run_inv o _ _ (start_inv o) (Nat.le_refl _)
theorem granted_len (o : WOk ws hs n) : (grantedM ws hs).length = n := (granted_inv o).1.len.ps
/-- each comer is at its place, all ahead of it have refused; or all have refused -/
theorem ended (o : WOk ws hs n) (I : Inv ws hs n s) (e : asksM ws s = []) {k : Int} (k0 : 0 ≤ k) (k1 : k < n) : placeAt s.ps k = curOf ws s k := by
  rcases I.at_ k k0 k1 with z | z
  · cases c : curOf ws s k with
    | none => exact z
    | some h =>
      obtain ⟨y1, y2⟩ := is_ask (I.r0 k k0 k1).1 z c
      have : (k, h) ∈ asksM ws s := mem_asks.mpr ⟨⟨⟨k0, by rw [o.len]; exact k1⟩, y1⟩, y2.symm⟩
      rw [e] at this
      cases this
  · exact z
/-- the houses ahead of the place are those that refused -/
theorem ahead_take {k : Int} (I : Inv ws hs n s) (o : WOk ws hs n) (k0 : 0 ≤ k) (k1 : k < n) (e : placeAt s.ps k = curOf ws s k) : ratherM ws s.ps k = (wishAt ws k).take (rfAt s.rf k).toNat := by
  obtain ⟨r0, r1⟩ := I.r0 k k0 k1
  unfold ratherM
  have nd := (o.wOk k0 k1).1
  cases c : curOf ws s k with
  | none =>
    rw [e, c]
    have hl : (wishAt ws k).length ≤ (rfAt s.rf k).toNat := List.getElem?_eq_none_iff.mp c
    rw [List.take_of_length_le hl]
    exact aheadM_all fun h _ z => by cases z
  | some h =>
    rw [e, c]
    refine aheadM_take c fun m hm z => ?_
    obtain ⟨hl, e1⟩ := List.getElem?_eq_some_iff.mp c
    obtain ⟨hl2, e2⟩ := List.getElem?_eq_some_iff.mp z
    exact List.pairwise_iff_getElem.mp nd m (rfAt s.rf k).toNat hl2 hl hm (e2.trans e1.symm)
theorem placeAt_len {ps : List (Option Int)} {k h : Int} (k0 : 0 ≤ k) (e : placeAt ps k = some h) : k < ps.length := by
  by_cases z : k < ps.length
  · exact z
  · unfold placeAt at e
    rw [List.getD_eq_getElem?_getD, List.getElem?_eq_none (by omega)] at e
    cases e
/-- fair, told of comers and houses -/
theorem fair_iff (o : WOk ws hs n) {ps : List (Option Int)} (hl : ps.length = n) : fairM ws hs ps = true ↔
    (∀ k : Int, 0 ≤ k → k < n → ∀ h, placeAt ps k = some h → h ∈ wishAt ws k) ∧ (∀ h : Int, 0 ≤ h → h < hs.length → chosenM (houseAt hs h) (heldM ps h) = heldM ps h) ∧
    (∀ k h : Int, 0 ≤ k → k < n → h ∈ ratherM ws ps k → k ∉ chosenM (houseAt hs h) (heldM ps h ++ [k])) := by
  unfold fairM
  rw [Bool.and_eq_true, Bool.and_eq_true, decide_eq_true_eq, Bool.not_eq_true', Bool.not_eq_true', List.any_eq_false, List.any_eq_false]
  constructor
  · rintro ⟨a, b, c⟩
    refine ⟨fun k k0 k1 h e => ?_, fun h h0 h1 => ?_, fun k h k0 k1 hh z => ?_⟩
    · have := a k (mem_rg.mpr ⟨k0, by rw [hl]; exact k1⟩)
      unfold badPlace at this
      rw [e] at this
      by_cases w : h ∈ wishAt ws k
      · exact w
      · refine absurd ?_ this
        rw [Bool.and_eq_true]
        refine ⟨rfl, ?_⟩
        rw [Bool.not_eq_true', List.any_eq_false]
        intro x hx z
        have := of_decide_eq_true z
        exact w (by rw [← Option.some.inj this]; exact hx)
    · have := b h (mem_rg.mpr ⟨h0, h1⟩)
      unfold badHouse at this
      by_cases w : chosenM (houseAt hs h) (heldM ps h) = heldM ps h
      · exact w
      · exact absurd (by rw [decide_eq_false w] <;> rfl) this
    · have : (k, h) ∈ pairsM ws hs ps := by
        unfold pairsM
        refine List.mem_flatMap.mpr ⟨k, mem_rg.mpr ⟨k0, by rw [hl]; exact k1⟩, ?_⟩
        unfold pairsOf
        exact List.mem_map.mpr ⟨h, List.mem_filter.mpr ⟨hh, decide_eq_true z⟩, rfl⟩
      rw [c] at this
      cases this
  · rintro ⟨a, b, c⟩
    refine ⟨fun k hk z => ?_, fun h hh z => ?_, ?_⟩
    · obtain ⟨k0, k1⟩ := mem_rg.mp hk
      rw [hl] at k1
      unfold badPlace at z
      rw [Bool.and_eq_true, Bool.not_eq_true', Bool.not_eq_true'] at z
      cases e : placeAt ps k with
      | none =>
        rw [e] at z
        cases z.1
      | some h =>
        have h1 := a k k0 k1 h e
        have h2 := List.any_eq_false.mp z.2 h h1
        rw [e] at h2
        exact h2 (decide_eq_true rfl)
    · obtain ⟨h0, h1⟩ := mem_rg.mp hh
      unfold badHouse at z
      rw [decide_eq_true (b h h0 h1)] at z
      cases z
    · refine List.eq_nil_iff_forall_not_mem.mpr fun p hp => ?_
      unfold pairsM at hp
      obtain ⟨k, hk, hp⟩ := List.mem_flatMap.mp hp
      obtain ⟨k0, k1⟩ := mem_rg.mp hk
      unfold pairsOf at hp
      obtain ⟨h, hh, rfl⟩ := List.mem_map.mp hp
      obtain ⟨h1, h2⟩ := List.mem_filter.mp hh
      exact c k h k0 (by rw [← hl]; exact k1) h1 (of_decide_eq_true h2)
theorem held_sorted (ps : List (Option Int)) (h : Int) : (heldM ps h).Pairwise (fun a b => leB a b = true) := by
  unfold heldM
  refine List.Pairwise.filter _ ?_
  unfold rg
  rw [List.pairwise_map]
  refine List.pairwise_lt_range.imp fun {a b} hab => decide_eq_true (by omega)
theorem held_nodup (ps : List (Option Int)) (h : Int) : (heldM ps h).Nodup := (rg_nodup _ _).filter _
/-- what the houses hold at the rounds' end is chosen out of all that asked -/
theorem end_fair (o : WOk ws hs n) (I : Inv ws hs n s) (e : asksM ws s = []) : fairM ws hs s.ps = true := by
  have hl := I.len.ps
  refine (fair_iff o hl).mpr ⟨fun k k0 k1 h z => ?_, fun h h0 h1 => ?_, fun k h k0 k1 hh z => ?_⟩
  · rw [ended o I e k0 k1] at z
    exact cur_wish z
  · have ho := o.hOk h0 h1
    have hA : ∀ k, k ∈ ((rg 0 (n : Int)).filter fun k => decide (h ∈ (wishAt ws k).take (rfAt s.rf k).toNat ∨ placeAt s.ps k = some h)) ↔ (0 ≤ k ∧ k < n) ∧ (h ∈ (wishAt ws k).take (rfAt s.rf k).toNat ∨ placeAt s.ps k = some h) := fun k => by
      rw [List.mem_filter, mem_rg, decide_eq_true_eq]
    have C := I.chose h h0 h1 _ hA
    generalize ((rg 0 (n : Int)).filter fun k => decide (h ∈ (wishAt ws k).take (rfAt s.rf k).toNat ∨ placeAt s.ps k = some h)) = A at hA C
    have e1 : chosenM (houseAt hs h) (heldM s.ps h) = chosenM (houseAt hs h) A := ch_irc ho (fun k hk => by
      have := mem_held.mp hk
      rw [hl] at this
      exact (hA k).mpr ⟨this.1, Or.inr this.2⟩) fun k hk => mem_held.mpr (by rw [hl]; exact (C k).mp hk)
    rw [e1]
    exact chosen_ext ho (held_sorted _ _) (held_nodup _ _) fun k => by rw [C k, mem_held, hl]
  · have hw := aheadM_mem hh
    obtain ⟨h0, h1⟩ := (o.wOk k0 k1).2 h hw.1
    have ho := o.hOk h0 h1
    rw [ahead_take I o k0 k1 (ended o I e k0 k1)] at hh
    have hA : ∀ k, k ∈ ((rg 0 (n : Int)).filter fun k => decide (h ∈ (wishAt ws k).take (rfAt s.rf k).toNat ∨ placeAt s.ps k = some h)) ↔ (0 ≤ k ∧ k < n) ∧ (h ∈ (wishAt ws k).take (rfAt s.rf k).toNat ∨ placeAt s.ps k = some h) := fun k => by
      rw [List.mem_filter, mem_rg, decide_eq_true_eq]
    have C := I.chose h h0 h1 _ hA
    generalize ((rg 0 (n : Int)).filter fun k => decide (h ∈ (wishAt ws k).take (rfAt s.rf k).toNat ∨ placeAt s.ps k = some h)) = A at hA C
    have e1 : chosenM (houseAt hs h) (heldM s.ps h ++ [k]) = chosenM (houseAt hs h) A := ch_irc ho (fun x hx => by
      rcases List.mem_append.mp hx with w | w
      · have := mem_held.mp w
        rw [hl] at this
        exact (hA x).mpr ⟨this.1, Or.inr this.2⟩
      · rw [List.mem_singleton.mp w]
        exact (hA k).mpr ⟨⟨k0, k1⟩, Or.inl hh⟩) fun x hx => List.mem_append_left _ (mem_held.mpr (by rw [hl]; exact (C x).mp hx))
    rw [e1] at z
    exact hw.2 ((C k).mp z).2.symm
theorem granted_fair (o : WOk ws hs n) : fairM ws hs (grantedM ws hs) = true := by
  obtain ⟨I, e⟩ := granted_inv o
  exact end_fair o I e
end
end CH

/-! Choosehall: the places given are the best fair ones; the same comers have places, each house holds as many. -/
namespace CH
open PySem L2
section
variable {ws : List (List Int)} {hs : List Hs} {n : Nat} {s : St} {mu : List (Option Int)}
/-- what fair says, in parts -/
structure FairOk (ws : List (List Int)) (hs : List Hs) (n : Nat) (mu : List (Option Int)) : Prop where
  len : mu.length = n
  wish : ∀ k : Int, 0 ≤ k → k < n → ∀ h, placeAt mu k = some h → h ∈ wishAt ws k
  hold : ∀ h : Int, 0 ≤ h → h < hs.length → chosenM (houseAt hs h) (heldM mu h) = heldM mu h
  no : ∀ k h : Int, 0 ≤ k → k < n → h ∈ ratherM ws mu k → k ∉ chosenM (houseAt hs h) (heldM mu h ++ [k])
theorem fair_ok (o : WOk ws hs n) (hl : mu.length = n) (h : fairM ws hs mu = true) : FairOk ws hs n mu := by
  obtain ⟨a, b, c⟩ := (fair_iff o hl).mp h
  exact ⟨hl, a, b, c⟩
/-- no one is refused by the house that mu gives it -/
def NoRej (ws : List (List Int)) (n : Nat) (s : St) (mu : List (Option Int)) : Prop := ∀ k h : Int, 0 ≤ k → k < n → placeAt mu k = some h → h ∉ (wishAt ws k).take (rfAt s.rf k).toNat
theorem ahead_of : ∀ {r : List Int} {p : Option Int} {i : Nat} {h : Int}, r[i]? = some h → (∀ x ∈ r.take (i + 1), some x ≠ p) → h ∈ aheadM r p
  | [], _, _, _, e, _ => by cases e
  | a :: r, p, 0, h, e, hn => by
    have e' : a = h := Option.some.inj e
    unfold aheadM
    rw [if_neg (hn a (by simp)), e']
    exact List.mem_cons_self
  | a :: r, p, i + 1, h, e, hn => by
    unfold aheadM
    rw [if_neg (hn a (by simp))]
    exact List.mem_cons_of_mem _ (ahead_of (r := r) (i := i) e fun x hx => hn x (by rw [List.take_succ_cons]; exact List.mem_cons_of_mem _ hx))
/-- whoever is among those that would rather, or held, is not chosen beside what mu holds -/
theorem key (o : WOk ws hs n) (f : FairOk ws hs n mu) {h : Int} (h0 : 0 ≤ h) (h1 : h < hs.length) {X : List Int} (hX : ∀ k ∈ X, (0 ≤ k ∧ k < n) ∧ (placeAt mu k = some h ∨ h ∈ ratherM ws mu k)) : chosenM (houseAt hs h) (X ++ heldM mu h) = heldM mu h := by
  have ho := o.hOk h0 h1
  have sub : ∀ k ∈ chosenM (houseAt hs h) (X ++ heldM mu h), k ∈ heldM mu h := fun k hk => by
    rcases List.mem_append.mp (chosen_in ho hk).2.1 with z | z
    · obtain ⟨h2, h3⟩ := hX k z
      rcases h3 with e | e
      · exact mem_held.mpr ⟨by rw [f.len]; exact h2, e⟩
      · refine absurd (ch_subst ho (S := heldM mu h ++ [k]) (T := X ++ heldM mu h) (fun x hx => ?_) (List.mem_append_right _ (List.mem_singleton.mpr rfl)) hk) (f.no k h h2.1 h2.2 e)
        rcases List.mem_append.mp hx with y | y
        · exact List.mem_append_right _ y
        · rw [List.mem_singleton.mp y]
          exact List.mem_append_left _ z
    · exact z
  rw [← ch_irc ho (S := heldM mu h) (T := X ++ heldM mu h) (fun k hk => List.mem_append_right _ hk) sub]
  exact f.hold h h0 h1
theorem at_rather {k h : Int} (nr : NoRej ws n s mu) (k0 : 0 ≤ k) (k1 : k < n) (e : curOf ws s k = some h) : placeAt mu k = some h ∨ h ∈ ratherM ws mu k := by
  by_cases z : placeAt mu k = some h
  · exact Or.inl z
  · refine Or.inr (ahead_of e fun x hx w => ?_)
    rw [take_snoc e, List.mem_append, List.mem_singleton] at hx
    rcases hx with y | y
    · exact nr k x k0 k1 w.symm y
    · exact z (by rw [← w, y])
theorem round_norej (o : WOk ws hs n) (f : FairOk ws hs n mu) (I : Inv ws hs n s) (nr : NoRej ws n s mu) : NoRej ws n (roundM ws hs s) mu := by
  obtain ⟨L, R⟩ := round_is o I
  intro k h k0 k1 e hin
  obtain ⟨a, b⟩ := R k k0 k1
  obtain ⟨r0, r1⟩ := I.r0 k k0 k1
  cases ec : curOf ws s k with
  | none =>
    rw [(b ec).2] at hin
    exact nr k h k0 k1 e hin
  | some g =>
    by_cases t : k ∈ tk ws hs s n g
    · rw [((a g ec).1 t).2] at hin
      exact nr k h k0 k1 e hin
    · rw [((a g ec).2 t).2] at hin
      have e2 : (rfAt s.rf k + 1).toNat = (rfAt s.rf k).toNat + 1 := by omega
      rw [e2, take_snoc ec, List.mem_append, List.mem_singleton] at hin
      rcases hin with z | z
      · exact nr k h k0 k1 e z
      · subst z
        obtain ⟨h0, h1⟩ := (o.wOk k0 k1).2 h (cur_wish ec)
        have ho := o.hOk h0 h1
        have kk := key o f h0 h1 (X := xOf ws s n h) fun x hx => by
          obtain ⟨y1, y2⟩ := mem_x.mp hx
          exact ⟨y1, at_rather nr y1.1 y1.2 y2⟩
        have hm : k ∈ chosenM (houseAt hs h) (xOf ws s n h ++ heldM mu h) := by
          rw [kk]
          exact mem_held.mpr ⟨⟨k0, by rw [f.len]; exact k1⟩, e⟩
        exact t (ch_subst ho (fun x hx => List.mem_append_left _ hx) (mem_x.mpr ⟨⟨k0, k1⟩, ec⟩) hm)
theorem run_norej (o : WOk ws hs n) (f : FairOk ws hs n mu) : ∀ (m : Nat) (s : St), Inv ws hs n s → NoRej ws n s mu → NoRej ws n (runM ws hs m s) mu
  | 0, _, _, h => h
  | m + 1, s, I, h => by
    unfold runM
    split
    · exact h
    · exact run_norej o f m _ (round_inv o I) (round_norej o f I h)
theorem granted_norej (o : WOk ws hs n) (f : FairOk ws hs n mu) : NoRej ws n (grantedSt ws hs) mu := by
  unfold grantedSt
  rw [o.len]
  refine run_norej o f _ _ (start_inv o) fun k h _ _ _ z => ?_
  have hr : rfAt (start n).rf k = 0 := repl_getD rfl
  rw [hr] at z
  cases z
/-- no fair place is better than the place given -/
theorem best_no_better (o : WOk ws hs n) (f : FairOk ws hs n mu) {k h : Int} (k0 : 0 ≤ k) (k1 : k < n) (e : placeAt mu k = some h) : h ∉ ratherM ws (grantedM ws hs) k := by
  obtain ⟨I, ea⟩ := granted_inv o
  rw [show grantedM ws hs = (grantedSt ws hs).ps from rfl, ahead_take I o k0 k1 (ended o I ea k0 k1)]
  exact granted_norej o f k h k0 k1 e
/-- whoever has a fair place is given one -/
theorem best_has (o : WOk ws hs n) (f : FairOk ws hs n mu) {k h : Int} (k0 : 0 ≤ k) (k1 : k < n) (e : placeAt mu k = some h) : placeAt (grantedM ws hs) k ≠ none := by
  obtain ⟨I, ea⟩ := granted_inv o
  intro z
  have z2 : curOf ws (grantedSt ws hs) k = none := by
    rw [← ended o I ea k0 k1]
    exact z
  have hl : (wishAt ws k).length ≤ (rfAt (grantedSt ws hs).rf k).toNat := List.getElem?_eq_none_iff.mp z2
  refine granted_norej o f k h k0 k1 e ?_
  rw [List.take_of_length_le hl]
  exact f.wish k k0 k1 h e
/-- no house holds more by the places given -/
theorem best_fewer (o : WOk ws hs n) (f : FairOk ws hs n mu) {h : Int} (h0 : 0 ≤ h) (h1 : h < hs.length) : (heldM (grantedM ws hs) h).length ≤ (heldM mu h).length := by
  obtain ⟨I, ea⟩ := granted_inv o
  have nr := granted_norej o f
  have ho := o.hOk h0 h1
  show (heldM (grantedSt ws hs).ps h).length ≤ _
  generalize grantedSt ws hs = s at I ea nr
  have hA : ∀ k, k ∈ ((rg 0 (n : Int)).filter fun k => decide (h ∈ (wishAt ws k).take (rfAt s.rf k).toNat ∨ placeAt s.ps k = some h)) ↔ (0 ≤ k ∧ k < n) ∧ (h ∈ (wishAt ws k).take (rfAt s.rf k).toNat ∨ placeAt s.ps k = some h) := fun k => by
    rw [List.mem_filter, mem_rg, decide_eq_true_eq]
  have C := I.chose h h0 h1 _ hA
  generalize ((rg 0 (n : Int)).filter fun k => decide (h ∈ (wishAt ws k).take (rfAt s.rf k).toNat ∨ placeAt s.ps k = some h)) = A at hA C
  have kk := key o f h0 h1 (X := A) fun k hk => by
    obtain ⟨y1, y2⟩ := (hA k).mp hk
    refine ⟨y1, ?_⟩
    rcases y2 with z | z
    · obtain ⟨i, hi, e⟩ := List.getElem_of_mem z
      rw [List.length_take] at hi
      rw [List.getElem_take] at e
      have e1 : (wishAt ws k)[i]? = some h := by
        rw [← e]
        exact List.getElem?_eq_getElem (by omega)
      refine Or.inr (ahead_of e1 fun x hx w => nr k x y1.1 y1.2 w.symm ?_)
      have : (wishAt ws k).take (i + 1) = ((wishAt ws k).take (rfAt s.rf k).toNat).take (i + 1) := by rw [List.take_take, Nat.min_eq_left (by omega)]
      rw [this] at hx
      exact List.mem_of_mem_take hx
    · refine at_rather nr y1.1 y1.2 ?_
      rw [← ended o I ea y1.1 y1.2]
      exact z
  have e1 : (heldM s.ps h).length = (chosenM (houseAt hs h) A).length := ((List.perm_ext_iff_of_nodup (held_nodup _ _) (chosen_nodup ho _)).mpr fun k => by rw [C k, mem_held, I.len.ps]).length_eq
  have e2 : (heldM mu h).length = (chosenM (houseAt hs h) (A ++ heldM mu h)).length := by rw [kk]
  rw [e1, e2]
  exact ch_lad ho fun k hk => List.mem_append_left _ hk

/-! ### counting -/
theorem sum_add (f g : Int → Nat) : ∀ l : List Int, (l.map fun h => f h + g h).sum = (l.map f).sum + (l.map g).sum
  | [] => rfl
  | a :: l => by
    rw [List.map_cons, List.map_cons, List.map_cons, List.sum_cons, List.sum_cons, List.sum_cons, sum_add f g l]
    omega
theorem sum_one (x : Int) : ∀ l : List Int, l.Nodup → (l.map fun h => if x = h then 1 else 0).sum = if x ∈ l then 1 else 0
  | [], _ => by simp
  | a :: l, nd => by
    obtain ⟨n1, n2⟩ := List.nodup_cons.mp nd
    rw [List.map_cons, List.sum_cons, sum_one x l n2]
    by_cases e : x = a
    · subst e
      simp [n1]
    · simp [e]
theorem sum_zero (l : List Int) : (l.map fun _ => 0).sum = 0 := by
  induction l with
  | nil => rfl
  | cons a r ih =>
    rw [List.map_cons, List.sum_cons, ih]
/-- those placed, counted by houses -/
theorem count_by (p : Int → Option Int) (H : List Int) (nd : H.Nodup) : ∀ l : List Int, (∀ k ∈ l, ∀ h, p k = some h → h ∈ H) → (H.map fun h => (l.filter fun k => decide (p k = some h)).length).sum = (l.filter fun k => (p k).isSome).length
  | [], _ => by
    show (H.map fun _ => 0).sum = 0
    exact sum_zero H
  | k :: l, hp => by
    have ih := count_by p H nd l fun x hx => hp x (List.mem_cons_of_mem _ hx)
    have e : (fun h => ((k :: l).filter fun k => decide (p k = some h)).length) = fun h => (if p k = some h then 1 else 0) + (l.filter fun k => decide (p k = some h)).length := by
      funext h
      by_cases z : p k = some h
      · rw [List.filter_cons, decide_eq_true z, if_pos rfl, if_pos z, List.length_cons]
        omega
      · rw [List.filter_cons, decide_eq_false z, if_neg (by decide), if_neg z]
        omega
    rw [e, sum_add, ih]
    cases c : p k with
    | none =>
      rw [List.filter_cons, c]
      have : (H.map fun h => if (none : Option Int) = some h then 1 else 0).sum = 0 := by
        have e2 : (fun h : Int => if (none : Option Int) = some h then 1 else 0) = fun _ => 0 := by
          funext h
          exact if_neg (by simp)
        rw [e2]
        exact sum_zero H
      rw [this]
      simp
    | some x =>
      rw [List.filter_cons, c]
      have : (H.map fun h => if some x = some h then 1 else 0).sum = 1 := by
        have e2 : (fun h : Int => if some x = some h then 1 else 0) = fun h => if x = h then 1 else 0 := by
          funext h
          by_cases z : x = h
          · rw [if_pos z, if_pos (by rw [z])]
          · rw [if_neg z, if_neg fun w => z (Option.some.inj w)]
        rw [e2, sum_one x H nd, if_pos (hp k List.mem_cons_self x c)]
      rw [this]
      simp
      omega
theorem sum_eq_all {f g : Int → Nat} : ∀ {l : List Int}, (∀ x ∈ l, f x ≤ g x) → (l.map g).sum ≤ (l.map f).sum → ∀ x ∈ l, f x = g x
  | [], _, _, x, hx => by cases hx
  | a :: l, h, hs, x, hx => by
    rw [List.map_cons, List.map_cons, List.sum_cons, List.sum_cons] at hs
    have h1 := h a List.mem_cons_self
    have h2 := sum_le (l := l) fun x hx => h x (List.mem_cons_of_mem _ hx)
    rcases List.mem_cons.mp hx with e | e
    · rw [e]
      omega
    · exact sum_eq_all (l := l) (fun x hx => h x (List.mem_cons_of_mem _ hx)) (by omega) x e
theorem placed_count (o : WOk ws hs n) (hl : mu.length = n) (hw : ∀ k : Int, 0 ≤ k → k < n → ∀ h, placeAt mu k = some h → h ∈ wishAt ws k) : ((rg 0 (hs.length : Int)).map fun h => (heldM mu h).length).sum = ((rg 0 (n : Int)).filter fun k => (placeAt mu k).isSome).length := by
  have := count_by (placeAt mu) (rg 0 (hs.length : Int)) (rg_nodup _ _) (rg 0 (n : Int)) fun k hk h e => by
    obtain ⟨k0, k1⟩ := mem_rg.mp hk
    exact mem_rg.mpr ((o.wOk k0 k1).2 h (hw k k0 k1 h e))
  rw [← this]
  unfold heldM
  rw [hl]
/-- the same comers have places, each house holds as many -/
theorem rural (o : WOk ws hs n) (f : FairOk ws hs n mu) : (∀ h : Int, 0 ≤ h → h < hs.length → (heldM (grantedM ws hs) h).length = (heldM mu h).length) ∧ (∀ k : Int, 0 ≤ k → k < n → (placeAt mu k = none ↔ placeAt (grantedM ws hs) k = none)) := by
  have gl := granted_len o
  have gf := fair_ok o gl (granted_fair o)
  have c1 := placed_count o gl gf.wish
  have c2 := placed_count o f.len f.wish
  have sub : ∀ k ∈ ((rg 0 (n : Int)).filter fun k => (placeAt mu k).isSome), k ∈ ((rg 0 (n : Int)).filter fun k => (placeAt (grantedM ws hs) k).isSome) := fun k hk => by
    rw [List.mem_filter] at hk ⊢
    obtain ⟨k0, k1⟩ := mem_rg.mp hk.1
    obtain ⟨h, e⟩ := Option.isSome_iff_exists.mp hk.2
    exact ⟨hk.1, Option.isSome_iff_ne_none.mpr (best_has o f k0 k1 e)⟩
  have nd1 : ((rg 0 (n : Int)).filter fun k => (placeAt mu k).isSome).Nodup := (rg_nodup _ _).filter _
  have nd2 : ((rg 0 (n : Int)).filter fun k => (placeAt (grantedM ws hs) k).isSome).Nodup := (rg_nodup _ _).filter _
  have le1 := sub_len nd1 sub
  have each : ∀ h ∈ rg 0 (hs.length : Int), (heldM (grantedM ws hs) h).length ≤ (heldM mu h).length := fun h hh => by
    obtain ⟨h0, h1⟩ := mem_rg.mp hh
    exact best_fewer o f h0 h1
  have le2 := sum_le each
  have eqs := sum_eq_all each (by omega)
  refine ⟨fun h h0 h1 => eqs h (mem_rg.mpr ⟨h0, h1⟩), fun k k0 k1 => ⟨fun z => ?_, fun z => ?_⟩⟩
  · have back := sub_eq nd1 nd2 sub (by omega) k
    cases c : placeAt (grantedM ws hs) k with
    | none => rfl
    | some h =>
      have := back (List.mem_filter.mpr ⟨mem_rg.mpr ⟨k0, k1⟩, by rw [c] <;> rfl⟩)
      have := (List.mem_filter.mp this).2
      rw [z] at this
      cases this
  · cases c : placeAt mu k with
    | none => rfl
    | some h => exact absurd z (best_has o f k0 k1 c)
end
end CH

/-! Choosehall: who asks in a round. -/
namespace CH
open PySem L2
def asksV (l : List (Int × Int)) : List (Int × V) := l.map fun p => (p.1, V.int p.2)
section
variable {P : Program} {w : World} {g : Gb} {mg : Str → Option Value} {base : Heap} {f : Addr} {fd : FuncData}
def RAsk : List D → Sl → Prop := fun ds r => ∃ (ws : List (List Int)) (s : St), ds = [intssD ws, oisD s.ps, intsD s.rf] ∧ LenOk ws.length s ∧ ws.length ≤ 100 ∧ (∀ k : Int, 0 ≤ k → k < ws.length → 0 ≤ rfAt s.rf k) ∧ r = .dc (asksV (asksM ws s))
theorem at_rf {rf : List Int} {k : Int} (h0 : 0 ≤ k) (h1 : k < rf.length) : (intsD rf).at_ k = some (.int (rfAt rf k)) := at_map h0 (getD_at h0 h1)
theorem c_ask (F : FnP g.K "asked" "asked" s_asked f fd) (hm : mg "asked" = some (.ref f)) (fr : Free mg) : Cal P w g mg base "asked" 1 RAsk := by
  refine cal_by (N := ["wishes", "places", "refused", "asks", "comer"]) (ps := ["wishes", "places", "refused"]) F ⟨rfl, rfl, rfl, by decide +kernel, rfl, by decide +kernel, by decide +kernel⟩ hm (fun _ _ _ _ _ _ us hl => match us, hl with | [_, _, _], _ => rfl) ?_ ?_
  · rintro ds r ⟨ws, s, rfl, _⟩
    rfl
  · rintro ds r cdv A outer s0 H E ⟨ws, s, rfl, L, hw, hr0, rfl⟩ hr
    have hu : A.units + 3 + 64 < cLine := hr.units
    have lp := L.ps
    have lr := L.rf
    refine ss_cons (s_asg 3 ev_dnew (ss_cons (s_for 4 (items := (rg 0 ws.length).map D.int) (ei_range fr (ev_len rfl fr (ev_var 0) (len_intss ws)) ⟨by omega, by omega⟩) (fun i G => ∃ z : Sl, G = [.v (intssD ws), .v (oisD s.ps), .v (intsD s.rf), .dc (asksV ((((rg 0 ws.length).take i).filter (askB ws s)).map fun k => (k, askOf ws s k))), z]) ⟨_, by rw [List.take_zero] <;> rfl⟩ (fun i d G hd hI => ?_) (fun G hI => ?_))))
    · obtain ⟨z, rfl⟩ := hI
      rw [List.getElem?_map] at hd
      obtain ⟨k, hk, rfl⟩ := Option.map_eq_some_iff.mp hd
      obtain ⟨k0, k1⟩ := mem_rg.mp (List.mem_of_getElem? hk)
      have r0 := hr0 k k0 k1
      refine ss_one (s_if (b := askB ws s k) (EvT.is (et_and (et_cmp (ev_ix rfl (ev_var 1) (ev_var 4) (at_place k0 (by omega))) ev_non cmp_is) (fun _ => et_cmp (ev_ix rfl (ev_var 2) (ev_var 4) (at_rf k0 (by omega))) (ev_len rfl fr (ev_ix rfl (ev_var 0) (ev_var 4) (at_wish k0 k1)) (len_ints _)) cmp_lt)) (by rw [isN_oi] <;> rfl)) (fun hb => ?_) (fun hb => ss_nil ⟨.v (.int k), ?_⟩))
      · have hlt : rfAt s.rf k < (wishAt ws k).length := by
          unfold askB at hb
          rw [Bool.and_eq_true] at hb
          exact of_decide_eq_true hb.2
        have nk : k ∉ (rg 0 (ws.length : Int)).take i := fun z => by
          have h1 : (rg 0 (ws.length : Int))[i]? = some k := hk
          obtain ⟨m, hm, e⟩ := List.getElem_of_mem z
          rw [List.length_take] at hm
          rw [List.getElem_take] at e
          obtain ⟨hi, e2⟩ := List.getElem?_eq_some_iff.mp h1
          exact List.pairwise_iff_getElem.mp (rg_nodup 0 (ws.length : Int)) m i (by omega) hi (by omega) (e.trans e2.symm)
        refine ss_one (s_dput 3 (kvs := asksV ((((rg 0 ws.length).take i).filter (askB ws s)).map fun k => (k, askOf ws s k))) (w := V.int (askOf ws s k)) (by show A.units + 3 + 1 < cLine; omega) (ev_ix rfl (ev_ix rfl (ev_var 0) (ev_var 4) (at_wish k0 k1)) (ev_ix rfl (ev_var 2) (ev_var 4) (at_rf k0 (by omega))) (at_map (enc := D.int) r0 (getD_at r0 hlt))) rfl (ev_var 4) (fun p hp e => ?_) ?_ ⟨.v (.int k), ?_⟩)
        · unfold asksV at hp
          obtain ⟨q, hq, rfl⟩ := List.mem_map.mp hp
          obtain ⟨x, hx, rfl⟩ := List.mem_map.mp hq
          exact nk (by rw [← e]; exact (List.mem_filter.mp hx).1)
        · unfold asksV
          rw [List.length_map, List.length_map]
          have h1 := List.length_filter_le (askB ws s) ((rg 0 (ws.length : Int)).take i)
          have h2 : ((rg 0 (ws.length : Int)).take i).length ≤ (rg 0 (ws.length : Int)).length := by rw [List.length_take]; omega
          rw [rg_len] at h2
          omega
        · rw [filt_snoc hk, if_pos hb]
          unfold asksV
          rw [List.map_append, List.map_append] <;> rfl
      · rw [filt_snoc hk, if_neg (by rw [hb]; decide), List.append_nil] <;> rfl
    · obtain ⟨z, rfl⟩ := hI
      rw [List.length_map, List.take_length]
      exact ss_one (s_retOwnD 3 rfl)
end
end CH

/-! Choosehall: the places given. -/
namespace CH
open PySem L2
theorem flat_one {α : Type} (a : α) : ∀ n : Nat, (List.replicate n [a]).flatten = List.replicate n a
  | 0 => rfl
  | n + 1 => by rw [List.replicate_succ, List.flatten_cons, flat_one a n, List.replicate_succ] <;> rfl
theorem comers_eq (l : List (Int × Int)) (h : Int) : ((l.filter fun p => decide (p.2 = h)).map (·.1)) = comersOf l h := rfl
section
variable {P : Program} {w : World} {g : Gb} {mg : Str → Option Value} {base : Heap} {f : Addr} {fd : FuncData}
def RGranted : List D → Sl → Prop := fun ds r => ∃ (ws : List (List Int)) (hs : List Hs) (n : Nat), WOk ws hs n ∧ ds = [intssD ws, hssD hs] ∧ r = .m ((grantedM ws hs).map D.oi)
theorem c_granted (F : FnP g.K "granted" "granted" s_granted f fd) (hm : mg "granted" = some (.ref f)) (fr : Free mg) (cf : ClsF g) (CHe : Cal P w g mg base "held" 1 RHeld) (CA : Cal P w g mg base "asked" 1 RAsk) (CCh : MCal P w g mg base "chosen" 4 RChosen) : Cal P w g mg base "granted" 5 RGranted := by
  refine cal_by (N := ["wishes", "houses", "places", "refused", "asks", "house", "comers", "all_here", "taken", "comer"]) (ps := ["wishes", "houses"]) F ⟨rfl, rfl, rfl, by decide +kernel, rfl, by decide +kernel, by decide +kernel⟩ hm (fun _ _ _ _ _ _ us hl => match us, hl with | [_, _], _ => rfl) ?_ ?_
  · rintro ds r ⟨ws, hs, n, _, rfl, _⟩
    rfl
  · rintro ds r cdv A outer s0 H E ⟨ws, hs, n, o, rfl, rfl⟩ hr
    have hu : A.units + 3 + 64 < cLine := hr.units
    have hr1 := hr.mono (j := 1) (by decide)
    have sm := o.small
    have hf := o.few
    have wl := o.len
    have e2 : (List.replicate (ws.length : Int).toNat [D.non]).flatten = (start ws.length).ps.map D.oi := by
      rw [Int.toNat_natCast, flat_one]
      show _ = (List.replicate ws.length none).map D.oi
      rw [List.map_replicate] <;> rfl
    have e3 : (List.replicate (ws.length : Int).toNat [D.int 0]).flatten = (start ws.length).rf.map D.int := by
      rw [Int.toNat_natCast, flat_one]
      show _ = (List.replicate ws.length 0).map D.int
      rw [List.map_replicate] <;> rfl
    refine ss_cons (s_asg 2 (Ev.is (ev_bin (Ev.fz (ev_lst (ea_cons ev_non ea_nil) (by show (1 : Nat) ≤ 100000; decide))) (ev_len rfl fr (ev_var 0) (len_intss ws)) (bin_rep (by omega) (by show 1 * _ ≤ 100000; omega))) (congrArg Sl.m e2)) ?_)
    refine ss_cons (s_asg 3 (Ev.is (ev_bin (Ev.fz (ev_lst (ea_cons ev_int ea_nil) (by show (1 : Nat) ≤ 100000; decide))) (ev_len rfl fr (ev_var 0) (len_intss ws)) (bin_rep (by omega) (by show 1 * _ ≤ 100000; omega))) (congrArg Sl.m e3)) ?_)
    refine ss_one (s_while (fun m G => ∃ (s : St) (z4 z5 z6 z7 z8 z9 : Sl), Inv ws hs n s ∧ meas ws s ≤ m ∧ runM ws hs m s = grantedSt ws hs ∧ G = [.v (intssD ws), .v (hssD hs), .m (s.ps.map D.oi), .m (s.rf.map D.int), z4, z5, z6, z7, z8, z9]) (meas ws (start ws.length)) ⟨start ws.length, _, _, _, _, _, _, by rw [wl]; exact start_inv o, Nat.le_refl _, rfl, rfl⟩ (fun m G hI => ?_))
    obtain ⟨s, z4, z5, z6, z7, z8, z9, I, hm1, hrun, rfl⟩ := hI
    have L := I.len
    refine ⟨true, et_val ev_true, fun _ => ?_, fun hb => by cases hb⟩
    refine ss_cons (s_asg 4 (Ev.bor (ev_call rfl CA hr1 (ea_cons (ev_var 0) (ea_cons (ev_var 2) (ea_cons (ev_var 3) ea_nil))) ⟨ws, s, rfl, by rw [wl]; exact L, by omega, fun k k0 k1 => (I.r0 k k0 (by omega)).1, rfl⟩)) ?_)
    refine ss_cons (s_if (et_not (et_dict 4)) (fun hb => ?_) (fun hb => ss_nil ?_))
    · have he : asksM ws s = [] := by
        have : (asksV (asksM ws s)).isEmpty = true := by
          cases q : (asksV (asksM ws s)).isEmpty with
          | true => rfl
          | false =>
            rw [q] at hb
            cases hb
        unfold asksV at this
        exact List.map_eq_nil_iff.mp (List.isEmpty_iff.mp this)
      refine ss_one (s_retOwn 2 ?_)
      show Sl.m _ = Sl.m ((grantedSt ws hs).ps.map D.oi)
      rw [← hrun]
      cases m with
      | zero => rfl
      | succ m =>
        unfold runM
        rw [if_pos (by rw [he] <;> rfl)]
    have hne : asksM ws s ≠ [] := fun z => by
      rw [z] at hb
      cases hb
    have hlt := meas_lt o I hne
    obtain ⟨m', rfl⟩ : ∃ m', m = m' + 1 := ⟨m - 1, by omega⟩
    have hrun' : runM ws hs m' (roundM ws hs s) = grantedSt ws hs := by
      rw [← hrun]
      show _ = (if (asksM ws s).isEmpty = true then s else runM ws hs m' (roundM ws hs s))
      rw [if_neg (fun z => hne (List.isEmpty_iff.mp z))]
    have nodupA := asks_nodup (ws := ws) (s := s)
    have lenA : (asksM ws s).length ≤ n := by
      unfold asksM
      rw [List.length_map]
      have := List.length_filter_le (askB ws s) (rg 0 (ws.length : Int))
      rw [rg_len] at this
      omega
    have rangeA : ∀ p ∈ asksM ws s, 0 ≤ p.1 ∧ p.1 < n := fun p hp => by
      have := (mem_asks.mp hp).1.1
      rw [wl] at this
      exact this
    have I2 := round_inv o I
    generalize hasks : asksM ws s = asks at nodupA lenA rangeA
    have hround : roundM ws hs s = (rg 0 hs.length).foldl (houseStep hs asks) s := by rw [← hasks] <;> rfl
    refine ss_one (s_for 5 (items := (rg 0 hs.length).map D.int) (ei_range fr (ev_len rfl fr (ev_var 1) (len_hss hs)) ⟨by omega, by omega⟩) (fun i G => ∃ z5 z6 z7 z8 z9 : Sl, G = [.v (intssD ws), .v (hssD hs), .m ((((rg 0 hs.length).take i).foldl (houseStep hs asks) s).ps.map D.oi), .m ((((rg 0 hs.length).take i).foldl (houseStep hs asks) s).rf.map D.int), .dc (asksV asks), z5, z6, z7, z8, z9]) ⟨_, _, _, _, _, rfl⟩ (fun i d G hd hI => ?_) (fun G hI => ?_))
    · obtain ⟨z5, z6, z7, z8, z9, rfl⟩ := hI
      rw [List.getElem?_map] at hd
      obtain ⟨h, hh, rfl⟩ := Option.map_eq_some_iff.mp hd
      obtain ⟨h0, h1⟩ := mem_rg.mp (List.mem_of_getElem? hh)
      have ho := o.hOk h0 h1
      have L1 : LenOk n (((rg 0 hs.length).take i).foldl (houseStep hs asks) s) := houseFold_len _ L
      have enext : ((rg 0 (hs.length : Int)).take (i + 1)).foldl (houseStep hs asks) s = houseStep hs asks (((rg 0 hs.length).take i).foldl (houseStep hs asks) s) h := by rw [take_snoc hh, List.foldl_append] <;> rfl
      rw [enext]
      generalize ((rg 0 (hs.length : Int)).take i).foldl (houseStep hs asks) s = s1 at L1
      refine ss_cons (s_lcD 4 9 5 6 (kvs := asks) (m := h) (by show A.units + 3 + 1 < cLine; omega) nodupA (by omega) rfl rfl (by decide) (by decide) (by show 9 < 10; decide) (by first | exact ⟨rfl, Or.inl rfl, rfl, rfl⟩ | exact ⟨rfl, Or.inr (Or.inl rfl), rfl, rfl⟩) (hny := fun _ _ _ _ _ => by first | exact ⟨rfl, Or.inl rfl, rfl, rfl⟩ | exact ⟨rfl, Or.inr (Or.inl rfl), rfl, rfl⟩ | exact ⟨rfl, Or.inr (Or.inr rfl), rfl, rfl⟩) (hnz := fun _ _ _ _ _ => by first | exact ⟨rfl, Or.inl rfl, rfl, rfl⟩ | exact ⟨rfl, Or.inr (Or.inl rfl), rfl, rfl⟩ | exact ⟨rfl, Or.inr (Or.inr rfl), rfl, rfl⟩) (hnx := fun _ _ _ _ _ => by first | exact ⟨rfl, Or.inl rfl, rfl, rfl⟩ | exact ⟨rfl, Or.inr (Or.inl rfl), rfl, rfl⟩ | exact ⟨rfl, Or.inr (Or.inr rfl), rfl, rfl⟩) (hk := ?_))
      rw [comers_eq]
      have hlc : (comersOf asks h).length ≤ n := by
        unfold comersOf
        rw [List.length_map]
        exact Nat.le_trans (List.length_filter_le _ _) lenA
      have hlh := held_len s1.ps h
      have lp := L1.ps
      have ecat : (heldM s1.ps h).map D.int ++ (comersOf asks h).map D.int = (allHere asks s1 h).map D.int := by rw [← List.map_append] <;> rfl
      refine ss_frz 6 rfl (ss_cons (s_asg 7 (Ev.is (ev_bin (Ev.fz (Ev.bor (ev_call rfl CHe hr1 (ea_cons (ev_var 2) (ea_cons (ev_var 5) ea_nil)) ⟨s1.ps, h, rfl, by omega, rfl⟩) (noLL_ints _))) (ev_var 6) (bin_cat (by rw [List.length_map, List.length_map]; omega))) (congrArg Sl.m ecat)) (ss_frz 7 rfl ?_)))
      refine ss_cons (s_asg 8 (ev_meth rfl cf.c CCh no_chosen hr (ev_ix rfl (ev_var 1) (ev_var 5) (at_hs h0 h1)) (ea_cons (ev_var 7) ea_nil) ⟨houseAt hs h, n, allHere asks s1 h, ho, rfl, rfl⟩) (ss_frz 8 rfl ?_))
      have hrng : ∀ c ∈ allHere asks s1 h, 0 ≤ c ∧ c < n := fun c hc => by
        unfold allHere at hc
        rcases List.mem_append.mp hc with z | z
        · have := (mem_held.mp z).1
          rw [lp] at this
          exact this
        · unfold comersOf at z
          obtain ⟨p, hp, rfl⟩ := List.mem_map.mp z
          exact rangeA p (List.mem_filter.mp hp).1
      show Ss g _ [_, _, _, _, _, Sl.v (.int h), _, Sl.v (intsD (allHere asks s1 h)), Sl.v (intsD (chosenM (houseAt hs h) (allHere asks s1 h))), _] _ _
      have estep : houseStep hs asks s1 h = (allHere asks s1 h).foldl (comStep h (chosenM (houseAt hs h) (allHere asks s1 h))) s1 := rfl
      rw [estep]
      generalize allHere asks s1 h = all at hrng
      generalize chosenM (houseAt hs h) all = t
      refine ss_one (s_for 9 (items := all.map D.int) (ei_list rfl (ev_var 7)) (fun j G => ∃ z9 : Sl, G = [.v (intssD ws), .v (hssD hs), .m (((all.take j).foldl (comStep h t) s1).ps.map D.oi), .m (((all.take j).foldl (comStep h t) s1).rf.map D.int), .dc (asksV asks), .v (.int h), .v (intsD (comersOf asks h)), .v (intsD all), .v (intsD t), z9]) ⟨z9, rfl⟩ (fun j d G hd hI => ?_) (fun G hI => ?_))
      · obtain ⟨z9, rfl⟩ := hI
        rw [List.getElem?_map] at hd
        obtain ⟨c, hc, rfl⟩ := Option.map_eq_some_iff.mp hd
        obtain ⟨c0, c1⟩ := hrng c (List.mem_of_getElem? hc)
        have L2 : LenOk n ((all.take j).foldl (comStep h t) s1) := comFold_len _ L1
        have enext2 : (all.take (j + 1)).foldl (comStep h t) s1 = comStep h t ((all.take j).foldl (comStep h t) s1) c := by rw [take_snoc hc, List.foldl_append] <;> rfl
        rw [enext2]
        generalize (all.take j).foldl (comStep h t) s1 = s2 at L2
        have ec : Sl.v (D.int c) = Sl.v (D.int ((c.toNat : Nat) : Int)) := by rw [show ((c.toNat : Nat) : Int) = c by omega]
        refine ss_one (s_if (EvT.is (et_cmp (ev_var 9) (ev_var 8) (cmp_in rfl (w := .int c) (ws := t.map V.int) rfl (fl_ints t))) (inV_ints c t)) (fun hb => ?_) (fun hb => ?_))
        · have hb' := of_decide_eq_true hb
          have e5 : comStep h t s2 c = ⟨s2.ps.set c.toNat (some h), s2.rf⟩ := if_pos hb'
          rw [e5]
          refine ss_one (s_setIx 2 (ds := s2.ps.map D.oi) (n := c.toNat) (ev_var 5) (Ev.is (ev_var 9) ec) (by rw [List.length_map, L2.ps]; omega) ⟨.v (.int c), ?_⟩)
          rw [List.map_set] <;> rfl
        · have hb' := of_decide_eq_false hb
          have e5 : comStep h t s2 c = ⟨s2.ps.set c.toNat none, s2.rf.set c.toNat (rfAt s2.rf c + 1)⟩ := if_neg hb'
          rw [e5]
          refine ss_cons (s_setIx 2 (ds := s2.ps.map D.oi) (n := c.toNat) (d := .non) ev_non (Ev.is (ev_var 9) ec) (by rw [List.length_map, L2.ps]; omega) ?_)
          refine ss_one (s_setIx 3 (ds := s2.rf.map D.int) (n := c.toNat) (d := .int (rfAt s2.rf c + 1)) (Ev.bor (ev_bin (ev_ix rfl (ev_var 3) (ev_var 9) (at_rf c0 (by rw [L2.rf]; exact c1))) ev_int bin_add)) (Ev.is (ev_var 9) ec) (by rw [List.length_map, L2.rf]; omega) ⟨.v (.int c), ?_⟩)
          rw [List.map_set, List.map_set] <;> rfl
      · obtain ⟨z9, rfl⟩ := hI
        exact ⟨.v (.int h), .v (intsD (comersOf asks h)), .v (intsD all), .v (intsD t), z9, by rw [List.length_map, List.take_length]⟩
    · obtain ⟨z5, z6, z7, z8, z9, rfl⟩ := hI
      refine ⟨m', Nat.lt_succ_self m', roundM ws hs s, .dc (asksV asks), z5, z6, z7, z8, z9, I2, by omega, hrun', ?_⟩
      rw [hround]
      have e : (rg 0 (hs.length : Int)).take ((rg 0 (hs.length : Int)).map D.int).length = rg 0 (hs.length : Int) := by rw [List.length_map, List.take_length]
      rw [e] <;> rfl
end
end CH

/-! Choosehall: comers and houses under other numbers. -/
namespace CH
open PySem L2
def rho (n : Nat) (k : Int) : Int := (n : Int) - 1 - k
def renH (n : Nat) (h : Hs) : Hs := { h with pts := (rg 0 (n : Int)).map fun k => ptAt h (rho n k), kinds := (rg 0 (n : Int)).map fun k => kindAt h (rho n k), row := h.row.map (rho n) }
theorem rho_rho (n : Nat) (k : Int) : rho n (rho n k) = k := by
  unfold rho
  omega
theorem rho_inj {n : Nat} {a b : Int} (e : rho n a = rho n b) : a = b := by
  unfold rho at e
  omega
theorem rho_in {n : Nat} {k : Int} (h : 0 ≤ k ∧ k < n) : 0 ≤ rho n k ∧ rho n k < n := by
  unfold rho
  omega
theorem getD_rg {α : Type} {f : Int → α} {m : Nat} {k : Int} {d : α} (k0 : 0 ≤ k) (k1 : k < m) : ((rg 0 (m : Int)).map f).getD k.toNat d = f k := by
  rw [List.getD_eq_getElem?_getD, List.getElem?_map, rg_at (by omega)]
  show f (0 + (k.toNat : Int)) = _
  congr 1
  omega
section
variable {h : Hs} {n : Nat}
theorem ren_pt {k : Int} (hk : 0 ≤ k ∧ k < n) : ptAt (renH n h) k = ptAt h (rho n k) := getD_rg (f := fun k => ptAt h (rho n k)) hk.1 hk.2
theorem ren_kind {k : Int} (hk : 0 ≤ k ∧ k < n) : kindAt (renH n h) k = kindAt h (rho n k) := getD_rg (f := fun k => kindAt h (rho n k)) hk.1 hk.2
theorem ren_ok (o : HsOk h n) : HsOk (renH n h) n := by
  refine ⟨?_, ?_, ?_, o.small, o.kept0, o.kept⟩
  · show ((rg 0 (n : Int)).map _).length = n
    rw [List.length_map, rg_len]
    omega
  · show ((rg 0 (n : Int)).map _).length = n
    rw [List.length_map, rg_len]
    omega
  · have nd : (h.row.map (rho n)).Nodup := List.Pairwise.map _ (fun a b ne e => ne (rho_inj e)) o.nodup
    refine (List.perm_ext_iff_of_nodup nd (rg_nodup _ _)).mpr fun k => ?_
    rw [mem_rg, List.mem_map]
    constructor
    · rintro ⟨a, ha, rfl⟩
      exact rho_in (o.mem.mp ha)
    · intro hk
      exact ⟨rho n k, o.mem.mpr (rho_in hk), rho_rho n k⟩
theorem ren_bef (o : HsOk h n) {a b : Int} (ha : 0 ≤ a ∧ a < n) (hb : 0 ≤ b ∧ b < n) (e : bef h a b) : bef (renH n h) (rho n a) (rho n b) := by
  have pa : ptOf (renH n h) (rho n a) = ptOf h a := by rw [ptOf_at, ptOf_at, ren_pt (rho_in ha), rho_rho]
  have pb : ptOf (renH n h) (rho n b) = ptOf h b := by rw [ptOf_at, ptOf_at, ren_pt (rho_in hb), rho_rho]
  unfold bef byKey at *
  rw [pa, pb]
  exact ⟨e.1, fun z => (e.2 z).map (rho n)⟩
theorem ren_ranked (o : HsOk h n) (S : List Int) (hS : ∀ k ∈ S, 0 ≤ k ∧ k < n) : rankedM (renH n h) (S.map (rho n)) = (rankedM h S).map (rho n) := by
  have rin : ∀ k ∈ rankedM h S, 0 ≤ k ∧ k < n := fun k hk => o.mem.mp (mem_rankedM.mp hk).1
  refine rank_uniq (ren_ok o).nodup (ranked_nodup (ren_ok o).nodup _) (List.Pairwise.map _ (fun a b ne e => ne (rho_inj e)) (ranked_nodup o.nodup S)) (ranked_bef (ren_ok o).nodup _) ?_ fun k => ?_
  · rw [List.pairwise_map]
    refine List.Pairwise.imp_of_mem (fun {a b} ha hb e => ren_bef o (rin a ha) (rin b hb) e) (ranked_bef o.nodup S)
  · rw [mem_rankedM, List.mem_map, List.mem_map]
    constructor
    · rintro ⟨h1, ⟨a, ha, rfl⟩, h3⟩
      refine ⟨a, mem_rankedM.mpr ⟨o.mem.mpr (hS a ha), ha, ?_⟩, rfl⟩
      rw [ren_pt (rho_in (hS a ha)), rho_rho] at h3
      exact h3
    · rintro ⟨a, ha, rfl⟩
      obtain ⟨h1, h2, h3⟩ := mem_rankedM.mp ha
      refine ⟨(ren_ok o).mem.mpr (rho_in (o.mem.mp h1)), ⟨a, h2, rfl⟩, ?_⟩
      rw [ren_pt (rho_in (o.mem.mp h1)), rho_rho]
      exact h3
theorem ren_split {p q : Int → Bool} {f : Int → Int} : ∀ (l : List Int) (c : Nat), (∀ k ∈ l, q (f k) = p k) → split q c (l.map f) = ((split p c l).1.map f, (split p c l).2.map f)
  | [], c, _ => rfl
  | k :: l, c, e => by
    have e1 := e k List.mem_cons_self
    have e2 : ∀ x ∈ l, q (f x) = p x := fun x hx => e x (List.mem_cons_of_mem _ hx)
    rw [List.map_cons]
    by_cases z : p k = true ∧ 0 < c
    · rw [split_pos z, split_pos (p := q) ⟨by rw [e1]; exact z.1, z.2⟩, ren_split l (c - 1) e2] <;> rfl
    · rw [split_neg z, split_neg (p := q) (fun w => z ⟨by rw [← e1]; exact w.1, w.2⟩), ren_split l c e2] <;> rfl
theorem ren_chosen (o : HsOk h n) (S : List Int) (hS : ∀ k ∈ S, 0 ≤ k ∧ k < n) {k : Int} : rho n k ∈ chosenM (renH n h) (S.map (rho n)) ↔ k ∈ chosenM h S := by
  have rin : ∀ k ∈ rankedM h S, 0 ≤ k ∧ k < n := fun k hk => o.mem.mp (mem_rankedM.mp hk).1
  have sp : split (kindB (renH n h)) (renH n h).kept.toNat (rankedM (renH n h) (S.map (rho n))) = (((split (kindB h) h.kept.toNat (rankedM h S)).1).map (rho n), ((split (kindB h) h.kept.toNat (rankedM h S)).2).map (rho n)) := by
    rw [ren_ranked o S hS]
    refine ren_split _ _ fun k hk => ?_
    unfold kindB
    rw [ren_kind (rho_in (rin k hk)), rho_rho] <;> rfl
  have fr : freeM (renH n h) (S.map (rho n)) = freeM h S := by
    unfold freeM insideM
    rw [sp, List.length_map] <;> rfl
  rw [mem_chosen (ren_ok o).kept0, mem_chosen o.kept0, fr]
  unfold Pick
  rw [sp, ← List.map_take]
  have inj : ∀ l : List Int, rho n k ∈ l.map (rho n) ↔ k ∈ l := fun l => by
    rw [List.mem_map]
    exact ⟨fun ⟨a, ha, e⟩ => by rw [← rho_inj e]; exact ha, fun hk => ⟨k, hk, rfl⟩⟩
  show rho n k ∈ ((split (kindB h) h.kept.toNat (rankedM h S)).1).map (rho n) ∨ rho n k ∈ (((split (kindB h) h.kept.toNat (rankedM h S)).2).take (freeM h S)).map (rho n) ↔ _
  rw [inj, inj]
end
end CH

/-! Choosehall: the same places under other numbers. -/
namespace CH
open PySem L2
/-- the world, comers and houses called by other numbers -/
def renW (ws : List (List Int)) (n H : Nat) : List (List Int) := (rg 0 (n : Int)).map fun k => (wishAt ws (rho n k)).map (rho H)
def renHs (hs : List Hs) (n : Nat) : List Hs := (rg 0 (hs.length : Int)).map fun h => renH n (houseAt hs (rho hs.length h))
def renP (ps : List (Option Int)) (n H : Nat) : List (Option Int) := (rg 0 (n : Int)).map fun k => (placeAt ps (rho n k)).map (rho H)
section
variable {ws : List (List Int)} {hs : List Hs} {n : Nat}
theorem renHs_len : (renHs hs n).length = hs.length := by
  unfold renHs
  rw [List.length_map, rg_len]
  omega
theorem renP_len {ps : List (Option Int)} {H : Nat} : (renP ps n H).length = n := by
  unfold renP
  rw [List.length_map, rg_len]
  omega
theorem renW_at {H : Nat} {k : Int} (hk : 0 ≤ k ∧ k < n) : wishAt (renW ws n H) k = (wishAt ws (rho n k)).map (rho H) := getD_rg (f := fun k => (wishAt ws (rho n k)).map (rho H)) hk.1 hk.2
theorem renP_at {ps : List (Option Int)} {H : Nat} {k : Int} (hk : 0 ≤ k ∧ k < n) : placeAt (renP ps n H) k = (placeAt ps (rho n k)).map (rho H) := getD_rg (f := fun k => (placeAt ps (rho n k)).map (rho H)) hk.1 hk.2
theorem renHs_at {h : Int} (hh : 0 ≤ h ∧ h < hs.length) : houseAt (renHs hs n) h = renH n (houseAt hs (rho hs.length h)) := getD_rg (f := fun h => renH n (houseAt hs (rho hs.length h))) hh.1 hh.2
theorem ren_wok (o : WOk ws hs n) : WOk (renW ws n hs.length) (renHs hs n) n := by
  refine ⟨?_, o.small, by rw [renHs_len]; exact o.few, fun h hh => ?_, fun r hr => ?_⟩
  · unfold renW
    rw [List.length_map, rg_len]
    omega
  · unfold renHs at hh
    obtain ⟨x, hx, rfl⟩ := List.mem_map.mp hh
    have := rho_in (mem_rg.mp hx)
    exact ren_ok (o.hOk this.1 this.2)
  · unfold renW at hr
    obtain ⟨k, hk, rfl⟩ := List.mem_map.mp hr
    have := rho_in (mem_rg.mp hk)
    obtain ⟨a, b⟩ := o.wOk this.1 this.2
    refine ⟨List.Pairwise.map _ (fun a b ne e => ne (rho_inj e)) a, fun x hx => ?_⟩
    obtain ⟨y, hy, rfl⟩ := List.mem_map.mp hx
    rw [renHs_len]
    exact rho_in (b y hy)
theorem ren_held {ps : List (Option Int)} (hl : ps.length = n) {H : Nat} {h : Int} {k : Int} : k ∈ heldM (renP ps n H) (rho H h) ↔ ∃ a ∈ heldM ps h, k = rho n a := by
  rw [mem_held, renP_len]
  constructor
  · rintro ⟨hk, e⟩
    rw [renP_at hk] at e
    obtain ⟨x, hx, e2⟩ := Option.map_eq_some_iff.mp e
    refine ⟨rho n k, mem_held.mpr ⟨by rw [hl]; exact rho_in hk, ?_⟩, (rho_rho n k).symm⟩
    rw [hx, rho_inj e2]
  · rintro ⟨a, ha, rfl⟩
    obtain ⟨h1, h2⟩ := mem_held.mp ha
    rw [hl] at h1
    refine ⟨rho_in h1, ?_⟩
    rw [renP_at (rho_in h1), rho_rho, h2] <;> rfl
theorem ahead_map {f : Int → Int} (inj : ∀ a b, f a = f b → a = b) : ∀ (r : List Int) (p : Option Int), aheadM (r.map f) (p.map f) = (aheadM r p).map f
  | [], _ => rfl
  | a :: r, p => by
    rw [List.map_cons]
    unfold aheadM
    by_cases z : some a = p
    · rw [if_pos z, if_pos (by rw [← z] <;> rfl)] <;> rfl
    · rw [if_neg z, if_neg ?_, ahead_map inj r p] <;> try rfl
      intro w
      cases p with
      | none => cases w
      | some b => exact z (by rw [inj a b (Option.some.inj w)])
theorem ren_rather {ps : List (Option Int)} {H : Nat} {k : Int} (hk : 0 ≤ k ∧ k < n) : ratherM (renW ws n H) (renP ps n H) k = (ratherM ws ps (rho n k)).map (rho H) := by
  unfold ratherM
  rw [renW_at hk, renP_at hk]
  exact ahead_map (fun _ _ e => rho_inj e) _ _
theorem ren_fair (o : WOk ws hs n) {mu : List (Option Int)} (f : FairOk ws hs n mu) : FairOk (renW ws n hs.length) (renHs hs n) n (renP mu n hs.length) := by
  have o2 := ren_wok o
  have hrange : ∀ h x, x ∈ heldM mu h → 0 ≤ x ∧ x < n := fun h x hx => by
    have := (mem_held.mp hx).1
    rw [f.len] at this
    exact this
  refine ⟨renP_len, fun k k0 k1 h e => ?_, fun h h0 h1 => ?_, fun k h k0 k1 hh z => ?_⟩
  · rw [renP_at ⟨k0, k1⟩] at e
    obtain ⟨x, hx, rfl⟩ := Option.map_eq_some_iff.mp e
    have hr := rho_in (n := n) ⟨k0, k1⟩
    rw [renW_at ⟨k0, k1⟩]
    exact List.mem_map.mpr ⟨x, f.wish _ hr.1 hr.2 x hx, rfl⟩
  · have h1' : h < hs.length := by rw [← renHs_len (n := n)]; exact h1
    have hr := rho_in (n := hs.length) ⟨h0, h1'⟩
    have eh : h = rho hs.length (rho hs.length h) := (rho_rho _ _).symm
    have ho := o.hOk hr.1 hr.2
    have hh := o2.hOk h0 h1
    refine chosen_ext hh (held_sorted _ _) (held_nodup _ _) fun k => ?_
    have key : ∀ x, x ∈ heldM (renP mu n hs.length) h ↔ x ∈ (heldM mu (rho hs.length h)).map (rho n) := fun x => by
      have := ren_held (n := n) f.len (H := hs.length) (h := rho hs.length h) (k := x)
      rw [rho_rho] at this
      rw [this, List.mem_map]
      exact ⟨fun ⟨a, ha, e⟩ => ⟨a, ha, e.symm⟩, fun ⟨a, ha, e⟩ => ⟨a, ha, e.symm⟩⟩
    rw [chosen_congr key, renHs_at ⟨h0, h1'⟩, key k, List.mem_map]
    constructor
    · intro hk
      have hk2 := (chosen_in (ren_ok ho) hk).2.1
      obtain ⟨a, ha, rfl⟩ := List.mem_map.mp hk2
      exact ⟨a, ha, rfl⟩
    · rintro ⟨a, ha, rfl⟩
      rw [ren_chosen ho _ (hrange _), f.hold _ hr.1 hr.2]
      exact ha
  · rw [ren_rather ⟨k0, k1⟩] at hh
    obtain ⟨g, hg, rfl⟩ := List.mem_map.mp hh
    have hr := rho_in (n := n) ⟨k0, k1⟩
    have hgr := (o.wOk hr.1 hr.2).2 g (aheadM_mem hg).1
    have hgr2 := rho_in (n := hs.length) hgr
    have ho := o.hOk hgr.1 hgr.2
    refine f.no _ g hr.1 hr.2 hg ?_
    have key : ∀ x, x ∈ heldM (renP mu n hs.length) (rho hs.length g) ++ [k] ↔ x ∈ (heldM mu g ++ [rho n k]).map (rho n) := fun x => by
      rw [List.mem_append, ren_held f.len, List.mem_map, List.mem_singleton]
      constructor
      · rintro (⟨a, ha, rfl⟩ | rfl)
        · exact ⟨a, List.mem_append_left _ ha, rfl⟩
        · exact ⟨rho n x, List.mem_append_right _ (List.mem_singleton.mpr rfl), rho_rho n x⟩
      · rintro ⟨a, ha, rfl⟩
        rcases List.mem_append.mp ha with w | w
        · exact Or.inl ⟨a, w, rfl⟩
        · rw [List.mem_singleton.mp w]
          exact Or.inr (rho_rho n k)
    rw [chosen_congr key, renHs_at hgr2, rho_rho] at z
    have := (ren_chosen ho (heldM mu g ++ [rho n k]) (fun x hx => by
      rcases List.mem_append.mp hx with w | w
      · exact hrange _ x w
      · rw [List.mem_singleton.mp w]
        exact hr) (k := rho n k)).mp (by rw [rho_rho]; exact z)
    exact this
end
end CH

/-! Choosehall: the places given do not hang on the numbers. -/
namespace CH
open PySem L2
theorem pl_ext {a b : List (Option Int)} (hl : a.length = b.length) (e : ∀ k : Int, 0 ≤ k → k < a.length → placeAt a k = placeAt b k) : a = b := by
  refine List.ext_getElem hl fun i h1 h2 => ?_
  have := e (i : Int) (by omega) (by omega)
  unfold placeAt at this
  rw [Int.toNat_natCast, List.getD_eq_getElem?_getD, List.getD_eq_getElem?_getD, List.getElem?_eq_getElem h1, List.getElem?_eq_getElem h2] at this
  exact this
/-- of two places of one row, neither ahead of the other -/
theorem ahead_or : ∀ {r : List Int} {a b : Int}, a ∈ r → b ∈ r → a ∉ aheadM r (some b) → b ∉ aheadM r (some a) → a = b
  | [], _, _, h, _, _, _ => by cases h
  | x :: r, a, b, ha, hb, h1, h2 => by
    unfold aheadM at h1 h2
    by_cases xa : x = a
    · by_cases xb : x = b
      · rw [← xa, ← xb]
      · rw [if_neg (fun z => xb (Option.some.inj z))] at h1
        exact absurd (by rw [xa]; exact List.mem_cons_self) h1
    · by_cases xb : x = b
      · rw [if_neg (fun z => xa (Option.some.inj z))] at h2
        exact absurd (by rw [xb]; exact List.mem_cons_self) h2
      · rw [if_neg (fun z => xb (Option.some.inj z))] at h1
        rw [if_neg (fun z => xa (Option.some.inj z))] at h2
        exact ahead_or ((List.mem_cons.mp ha).resolve_left (Ne.symm xa)) ((List.mem_cons.mp hb).resolve_left (Ne.symm xb)) (fun z => h1 (List.mem_cons_of_mem _ z)) fun z => h2 (List.mem_cons_of_mem _ z)
section
variable {ws : List (List Int)} {hs : List Hs} {n : Nat}
/-- two fair rows, each as good as the other to each comer, are one -/
theorem best_uniq (o : WOk ws hs n) {mu nu : List (Option Int)} (f : FairOk ws hs n mu) (g : FairOk ws hs n nu) (h1 : ∀ k : Int, 0 ≤ k → k < n → ∀ h, placeAt mu k = some h → h ∉ ratherM ws nu k) (h2 : ∀ k : Int, 0 ≤ k → k < n → ∀ h, placeAt nu k = some h → h ∉ ratherM ws mu k) : mu = nu := by
  refine pl_ext (by rw [f.len, g.len]) fun k k0 k1 => ?_
  rw [f.len] at k1
  have a1 := h1 k k0 k1
  have a2 := h2 k k0 k1
  unfold ratherM at a1 a2
  cases c1 : placeAt mu k with
  | none =>
    cases c2 : placeAt nu k with
    | none => rfl
    | some b =>
      have := a2 b c2
      rw [c1, aheadM_all fun _ _ z => by cases z] at this
      exact absurd (g.wish k k0 k1 b c2) this
  | some a =>
    cases c2 : placeAt nu k with
    | none =>
      have := a1 a c1
      rw [c2, aheadM_all fun _ _ z => by cases z] at this
      exact absurd (f.wish k k0 k1 a c1) this
    | some b =>
      have b1 := a1 a c1
      have b2 := a2 b c2
      rw [c2] at b1
      rw [c1] at b2
      rw [ahead_or (f.wish k k0 k1 a c1) (g.wish k k0 k1 b c2) b1 b2]
theorem renP_renP {ps : List (Option Int)} (hl : ps.length = n) {H : Nat} : renP (renP ps n H) n H = ps := by
  refine pl_ext (by rw [renP_len, hl]) fun k k0 k1 => ?_
  rw [renP_len] at k1
  have hr := rho_in (n := n) ⟨k0, k1⟩
  rw [renP_at ⟨k0, k1⟩, renP_at hr, rho_rho, Option.map_map]
  cases placeAt ps k with
  | none => rfl
  | some x => exact congrArg some (rho_rho H x)
theorem ext_getD {α : Type} {a b : List α} {d : α} (hl : a.length = b.length) (e : ∀ k : Int, 0 ≤ k → k < a.length → a.getD k.toNat d = b.getD k.toNat d) : a = b := by
  refine List.ext_getElem hl fun i h1 h2 => ?_
  have := e (i : Int) (by omega) (by omega)
  rw [Int.toNat_natCast, List.getD_eq_getElem?_getD, List.getD_eq_getElem?_getD, List.getElem?_eq_getElem h1, List.getElem?_eq_getElem h2] at this
  exact this
theorem renH_renH {h : Hs} (o : HsOk h n) : renH n (renH n h) = h := by
  have o1 := ren_ok o
  have o2 := ren_ok o1
  have e1 : (renH n (renH n h)).pts = h.pts := ext_getD (d := none) (by rw [o2.pts, o.pts]) fun k k0 k1 => by
    rw [o2.pts] at k1
    show ptAt (renH n (renH n h)) k = ptAt h k
    rw [ren_pt ⟨k0, k1⟩, ren_pt (rho_in ⟨k0, k1⟩), rho_rho]
  have e2 : (renH n (renH n h)).kinds = h.kinds := ext_getD (d := 0) (by rw [o2.kinds, o.kinds]) fun k k0 k1 => by
    rw [o2.kinds] at k1
    show kindAt (renH n (renH n h)) k = kindAt h k
    rw [ren_kind ⟨k0, k1⟩, ren_kind (rho_in ⟨k0, k1⟩), rho_rho]
  have e3 : (renH n (renH n h)).row = h.row := by
    show (h.row.map (rho n)).map (rho n) = h.row
    rw [List.map_map]
    exact (List.map_congr_left fun x _ => rho_rho n x).trans (List.map_id' _)
  obtain ⟨a, b, c, d, pts, kinds, row⟩ := h
  show Hs.mk a b c d (renH n (renH n ⟨a, b, c, d, pts, kinds, row⟩)).pts (renH n (renH n ⟨a, b, c, d, pts, kinds, row⟩)).kinds (renH n (renH n ⟨a, b, c, d, pts, kinds, row⟩)).row = _
  rw [e1, e2, e3]
theorem renHs_renHs (o : WOk ws hs n) : renHs (renHs hs n) n = hs := by
  refine ext_getD (d := hs0) (by rw [renHs_len, renHs_len]) fun k k0 k1 => ?_
  rw [renHs_len] at k1
  show houseAt (renHs (renHs hs n) n) k = houseAt hs k
  have hr : 0 ≤ k ∧ k < hs.length := ⟨k0, by rw [← renHs_len (n := n)]; exact k1⟩
  rw [renHs_at ⟨k0, k1⟩, renHs_len, renHs_at (rho_in hr), rho_rho, renH_renH (o.hOk hr.1 hr.2)]
/-- the places given under the other numbers are those given, called by the other numbers -/
theorem granted_ren (o : WOk ws hs n) : grantedM (renW ws n hs.length) (renHs hs n) = renP (grantedM ws hs) n hs.length := by
  have o2 := ren_wok o
  have gl := granted_len o
  have gl2 := granted_len o2
  have f := fair_ok o gl (granted_fair o)
  have f2 := fair_ok o2 gl2 (granted_fair o2)
  have r1 := ren_fair o f
  -- back: the places given there, called by the first numbers, are fair here
  have back : FairOk ws hs n (renP (grantedM (renW ws n hs.length) (renHs hs n)) n hs.length) := by
    have hH : (renHs hs n).length = hs.length := renHs_len
    have r2 := ren_fair o2 f2
    rw [hH] at r2
    have ew : renW (renW ws n hs.length) n hs.length = ws := by
      refine List.ext_getElem (by unfold renW; rw [List.length_map, rg_len, o.len]; omega) fun i h1 h2 => ?_
      have hi : 0 ≤ (i : Int) ∧ (i : Int) < n := ⟨by omega, by rw [← o.len]; omega⟩
      have e1 : wishAt (renW (renW ws n hs.length) n hs.length) (i : Int) = wishAt ws (i : Int) := by
        rw [renW_at hi, renW_at (rho_in hi), rho_rho, List.map_map]
        exact (List.map_congr_left fun x _ => rho_rho hs.length x).trans (List.map_id' _)
      unfold wishAt at e1
      rw [Int.toNat_natCast, List.getD_eq_getElem?_getD, List.getD_eq_getElem?_getD, List.getElem?_eq_getElem h1, List.getElem?_eq_getElem h2] at e1
      exact e1
    rw [ew] at r2
    rw [renHs_renHs o] at r2
    exact r2
  have s1 : ∀ k : Int, 0 ≤ k → k < n → ∀ h, placeAt (renP (grantedM ws hs) n hs.length) k = some h → h ∉ ratherM (renW ws n hs.length) (grantedM (renW ws n hs.length) (renHs hs n)) k := fun k k0 k1 h e => best_no_better o2 r1 k0 k1 e
  have s2 : ∀ k : Int, 0 ≤ k → k < n → ∀ h, placeAt (grantedM (renW ws n hs.length) (renHs hs n)) k = some h → h ∉ ratherM (renW ws n hs.length) (renP (grantedM ws hs) n hs.length) k := fun k k0 k1 h e hin => by
    rw [ren_rather ⟨k0, k1⟩] at hin
    obtain ⟨x, hx, rfl⟩ := List.mem_map.mp hin
    have hr := rho_in (n := n) ⟨k0, k1⟩
    have e2 : placeAt (renP (grantedM (renW ws n hs.length) (renHs hs n)) n hs.length) (rho n k) = some x := by
      rw [renP_at hr, rho_rho, e]
      exact congrArg some (rho_rho _ x)
    exact best_no_better o back hr.1 hr.2 e2 hx
  exact best_uniq o2 f2 r1 s2 s1
end
end CH

/-! Choosehall: a row drawn out of a smaller one. -/
namespace CH
open PySem L2
def largeTie (h : Hs) (n N : Int) : List Int := ((rg 0 N).filter fun k => decide (k % n ∈ h.row.take 2)) ++ ((rg 0 N).filter fun k => decide (k % n ∈ h.row.drop 2))
theorem tie_perm {h : Hs} {n : Nat} (o : HsOk h n) (h0 : 0 < n) {N : Int} : (largeTie h n N).Perm (rg 0 N) := by
  have e : ((rg 0 N).filter fun k => decide (k % (n : Int) ∈ h.row.drop 2)) = (rg 0 N).filter fun k => !decide (k % (n : Int) ∈ h.row.take 2) := by
    refine List.filter_congr fun k hk => ?_
    have hm : k % (n : Int) ∈ h.row := o.mem.mpr ⟨Int.emod_nonneg _ (by omega), Int.emod_lt_of_pos _ (by omega)⟩
    have nd := o.nodup
    rw [← List.take_append_drop 2 h.row] at hm nd
    have hd := (List.nodup_append.mp nd).2.2
    rcases List.mem_append.mp hm with z | z
    · rw [decide_eq_true z]
      exact decide_eq_false fun w => hd _ z _ w rfl
    · rw [decide_eq_true z, decide_eq_false fun w => hd _ w _ z rfl] <;> rfl
  unfold largeTie
  rw [e]
  exact List.filter_append_perm _ _
end CH

/-! Choosehall: places held against what is due. -/
namespace CH
open PySem L2
section
variable {P : Program} {w : World} {g : Gb} {mg : Str → Option Value} {base : Heap} {f : Addr} {fd : FuncData}
def RPlAlike : List D → Sl → Prop := fun ds r => ∃ ps : List (Option Int), ds = [oisD ps, oisD ps] ∧ ps.length ≤ 100 ∧ r = .v (.bl true)
theorem c_plalike (F : FnP g.K "_law_places_alike" "_law_places_alike" s__law_places_alike f fd) (hm : mg "_law_places_alike" = some (.ref f)) (fr : Free mg) (CO : Cal P w g mg base "_law_whole" 1 RWhole) : Cal P w g mg base "_law_places_alike" 2 RPlAlike := by
  refine cal_by (N := ["found", "due", "k"]) (ps := ["found", "due"]) F ⟨rfl, rfl, rfl, by decide +kernel, rfl, by decide +kernel, by decide +kernel⟩ hm (fun _ _ _ _ _ _ us hl => match us, hl with | [_, _], _ => rfl) ?_ ?_
  · rintro ds r ⟨l, rfl, _⟩
    rfl
  · rintro ds r cdv A outer s0 H E ⟨ps, rfl, hl, rfl⟩ hr
    refine ss_cons (s_if (b := false) (EvT.is (et_or (et_not (et_val (ev_isi (T := "list") (r := true) rfl fr (ev_var 0) rfl (by decide +kernel) (by decide +kernel) fr.list))) (fun _ => et_cmp (ev_len rfl fr (ev_var 0) (len_ois ps)) (ev_len rfl fr (ev_var 1) (len_ois ps)) (cmp_ne rfl hr.units ⟨rfl, rfl⟩ ⟨rfl, rfl⟩))) ?_) (fun hb => by cases hb) (fun _ => ss_nil ?_))
    · rw [eqv_i, decide_eq_true rfl] <;> rfl
    refine ss_cons (s_for 2 (items := (rg 0 ps.length).map D.int) (ei_range fr (ev_len rfl fr (ev_var 1) (len_ois ps)) ⟨by omega, by omega⟩) (fun i G => ∃ z : Sl, G = [.v (oisD ps), .v (oisD ps), z]) ⟨_, rfl⟩ (fun i d G hd hI => ?_) (fun G hI => ?_))
    · obtain ⟨z, rfl⟩ := hI
      rw [List.getElem?_map] at hd
      obtain ⟨k, hk, rfl⟩ := Option.map_eq_some_iff.mp hd
      obtain ⟨k0, k1⟩ := mem_rg.mp (List.mem_of_getElem? hk)
      have ep := at_place k0 k1
      generalize placeAt ps k = p at ep
      refine ss_cons (s_if (b := false) (EvT.is (et_and (r' := false) (et_cmp (ev_ix rfl (ev_var 0) (ev_var 2) ep) ev_non cmp_isnot) (fun z => ?_)) (by rw [Bool.and_false])) (fun hb => by cases hb) (fun _ => ss_nil ?_))
      · cases p with
        | none => cases z
        | some x => exact EvT.is (et_not (et_val (ev_call rfl CO hr (ea_cons (ev_ix rfl (ev_var 0) (ev_var 2) ep) ea_nil) ⟨x, rfl, rfl⟩))) rfl
      · refine ss_one (s_if (b := false) (EvT.is (et_cmp (ev_ix rfl (ev_var 0) (ev_var 2) ep) (ev_ix rfl (ev_var 1) (ev_var 2) ep) (cmp_ne rfl hr.units (cm_oi p).ok (cm_oi p).ok)) ?_) (fun hb => by cases hb) (fun _ => ss_nil ⟨_, rfl⟩))
        rw [eqv_oi, decide_eq_true rfl] <;> rfl
    · obtain ⟨z, rfl⟩ := hI
      exact ss_one (s_ret ev_true rfl)
end
end CH

/-! Choosehall: places moved by steps. -/
namespace CH
open PySem L2
def waitM (ws : List (List Int)) (ps : List (Option Int)) (h : Int) : List Int := (rg 0 ps.length).filter fun k => decide (h ∈ ratherM ws ps k)
def minI : List Int → Int
  | [] => 0
  | [a] => a
  | a :: b :: l => if a ≤ minI (b :: l) then a else minI (b :: l)
theorem minI_is : ∀ {l : List Int}, l ≠ [] → minI l ∈ l ∧ ∀ y ∈ l, minI l ≤ y
  | [], h => absurd rfl h
  | [a], _ => ⟨List.mem_singleton.mpr rfl, fun y hy => by rw [List.mem_singleton.mp hy]; exact Int.le_refl _⟩
  | a :: b :: l, _ => by
    obtain ⟨h1, h2⟩ := minI_is (l := b :: l) (fun z => by cases z)
    by_cases e : a ≤ minI (b :: l)
    · have e1 : minI (a :: b :: l) = a := if_pos e
      rw [e1]
      refine ⟨List.mem_cons_self, fun y hy => ?_⟩
      rcases List.mem_cons.mp hy with z | z
      · omega
      · have := h2 y z
        omega
    · have e1 : minI (a :: b :: l) = minI (b :: l) := if_neg e
      rw [e1]
      refine ⟨List.mem_cons_of_mem _ h1, fun y hy => ?_⟩
      rcases List.mem_cons.mp hy with z | z
      · omega
      · exact h2 y z
def mvH (ws : List (List Int)) (hs : List Hs) (ps : List (Option Int)) : Int := minI ((pairsM ws hs ps).map (·.2))
def mvRow (ws : List (List Int)) (hs : List Hs) (ps : List (Option Int)) : List Int := rankedM (houseAt hs (mvH ws hs ps)) (waitM ws ps (mvH ws hs ps))
def mvTaken (ws : List (List Int)) (hs : List Hs) (ps : List (Option Int)) : List Int := chosenM (houseAt hs (mvH ws hs ps)) (heldM ps (mvH ws hs ps) ++ mvRow ws hs ps)
def mvFirst (ws : List (List Int)) (hs : List Hs) (ps : List (Option Int)) : List Int := (mvRow ws hs ps).filter fun k => decide (k ∈ mvTaken ws hs ps)
def mvC (ws : List (List Int)) (hs : List Hs) (ps : List (Option Int)) : Int := (mvFirst ws hs ps).getD 0 0
def mvNext (ws : List (List Int)) (hs : List Hs) (ps : List (Option Int)) : List (Option Int) := ps.set (mvC ws hs ps).toNat (some (mvH ws hs ps))
/-- what holds all along -/
structure Mv (ws : List (List Int)) (hs : List Hs) (n : Nat) (ps : List (Option Int)) : Prop where
  len : ps.length = n
  wish : ∀ k : Int, 0 ≤ k → k < n → ∀ h, placeAt ps k = some h → h ∈ wishAt ws k
  hold : ∀ h : Int, 0 ≤ h → h < hs.length → ∀ k ∈ heldM ps h, k ∈ chosenM (houseAt hs h) (heldM ps h ++ waitM ws ps h)
section
variable {ws : List (List Int)} {hs : List Hs} {n : Nat} {ps mu : List (Option Int)}
theorem mem_wait {h k : Int} : k ∈ waitM ws ps h ↔ (0 ≤ k ∧ k < ps.length) ∧ h ∈ ratherM ws ps k := by
  unfold waitM
  rw [List.mem_filter, mem_rg, decide_eq_true_eq]
theorem mem_pairs {p : Int × Int} : p ∈ pairsM ws hs ps ↔ (0 ≤ p.1 ∧ p.1 < ps.length) ∧ p.2 ∈ ratherM ws ps p.1 ∧ p.1 ∈ chosenM (houseAt hs p.2) (heldM ps p.2 ++ [p.1]) := by
  unfold pairsM
  rw [List.mem_flatMap]
  constructor
  · rintro ⟨k, hk, hp⟩
    unfold pairsOf at hp
    obtain ⟨h, hh, rfl⟩ := List.mem_map.mp hp
    obtain ⟨h1, h2⟩ := List.mem_filter.mp hh
    exact ⟨mem_rg.mp hk, h1, of_decide_eq_true h2⟩
  · rintro ⟨h1, h2, h3⟩
    refine ⟨p.1, mem_rg.mpr h1, ?_⟩
    unfold pairsOf
    exact List.mem_map.mpr ⟨p.2, List.mem_filter.mpr ⟨h2, decide_eq_true h3⟩, rfl⟩
theorem place_set {c : Int} {p : Option Int} (c0 : 0 ≤ c) (c1 : c < ps.length) {k : Int} (k0 : 0 ≤ k) : placeAt (ps.set c.toNat p) k = if k = c then p else placeAt ps k := by
  unfold placeAt
  rw [getD_set_at (by omega)]
  by_cases e : k = c
  · rw [if_pos e, if_pos (by rw [e])]
  · rw [if_neg e, if_neg (toNat_ne c0 k0 (Ne.symm e))]
/-- a house nearer the front leaves fewer ahead -/
theorem ahead_sub2 {h : Int} : ∀ {r : List Int} {p : Option Int}, h ∈ aheadM r p → ∀ x ∈ aheadM r (some h), x ∈ aheadM r p
  | [], _, z => by cases z
  | a :: r, p, z => by
    unfold aheadM at z
    by_cases e : some a = p
    · rw [if_pos e] at z
      cases z
    · rw [if_neg e] at z
      intro x hx
      unfold aheadM at hx ⊢
      rw [if_neg e]
      by_cases e2 : some a = some h
      · rw [if_pos e2] at hx
        cases hx
      · rw [if_neg e2] at hx
        have z2 := (List.mem_cons.mp z).resolve_left fun w => e2 (by rw [w])
        rcases List.mem_cons.mp hx with w | w
        · rw [w]
          exact List.mem_cons_self
        · exact List.mem_cons_of_mem _ (ahead_sub2 z2 x w)
theorem ahead_lt2 {h : Int} : ∀ {r : List Int} {p : Option Int}, h ∈ aheadM r p → (aheadM r (some h)).length < (aheadM r p).length
  | [], _, z => by cases z
  | a :: r, p, z => by
    unfold aheadM at z
    by_cases e : some a = p
    · rw [if_pos e] at z
      cases z
    · rw [if_neg e] at z
      unfold aheadM
      rw [if_neg e]
      by_cases e2 : some a = some h
      · rw [if_pos e2]
        exact Nat.succ_pos _
      · rw [if_neg e2]
        have z2 := (List.mem_cons.mp z).resolve_left fun w => e2 (by rw [w])
        exact Nat.succ_lt_succ (ahead_lt2 z2)
/-- whether those that wait are ranked first makes no difference -/
theorem chosen_row {h : Hs} (A W : List Int) : chosenM h (A ++ rankedM h W) = chosenM h (A ++ W) := by
  have e0 : h.row.filter (ableB h (A ++ rankedM h W)) = h.row.filter (ableB h (A ++ W)) := List.filter_congr fun k hk => by
    show (decide (k ∈ A ++ rankedM h W) && (ptAt h k).isSome) = (decide (k ∈ A ++ W) && (ptAt h k).isSome)
    cases c : (ptAt h k).isSome with
    | false => rw [Bool.and_false, Bool.and_false]
    | true =>
      rw [Bool.and_true, Bool.and_true]
      refine decide_eq_decide.mpr ?_
      rw [List.mem_append, List.mem_append, mem_rankedM]
      exact ⟨fun z => z.elim Or.inl fun z => Or.inr z.2.1, fun z => z.elim Or.inl fun z => Or.inr ⟨hk, z, c⟩⟩
  have e : rankedM h (A ++ rankedM h W) = rankedM h (A ++ W) := congrArg (fun l => l.mergeSort (byKey h)) e0
  unfold chosenM
  rw [e]
/-- of a pair a step can be made -/
theorem mv_main (o : WOk ws hs n) (M : Mv ws hs n ps) (ne : pairsM ws hs ps ≠ []) : (0 ≤ mvH ws hs ps ∧ mvH ws hs ps < hs.length) ∧ mvFirst ws hs ps ≠ [] ∧ (0 ≤ mvC ws hs ps ∧ mvC ws hs ps < n) ∧ mvH ws hs ps ∈ ratherM ws ps (mvC ws hs ps) ∧
    mvC ws hs ps ∈ chosenM (houseAt hs (mvH ws hs ps)) (heldM ps (mvH ws hs ps) ++ waitM ws ps (mvH ws hs ps)) := by
  obtain ⟨i1, i2⟩ := minI_is (l := (pairsM ws hs ps).map (·.2)) (fun z => ne (List.map_eq_nil_iff.mp z))
  obtain ⟨p, hp, ep⟩ := List.mem_map.mp i1
  have ep' : p.2 = mvH ws hs ps := ep
  obtain ⟨p1, p2, p3⟩ := mem_pairs.mp hp
  rw [ep'] at p2 p3
  rw [M.len] at p1
  have hr := (o.wOk p1.1 p1.2).2 _ (aheadM_mem p2).1
  have ho := o.hOk hr.1 hr.2
  have hT : mvTaken ws hs ps = chosenM (houseAt hs (mvH ws hs ps)) (heldM ps (mvH ws hs ps) ++ waitM ws ps (mvH ws hs ps)) := chosen_row _ _
  have hne : mvFirst ws hs ps ≠ [] := fun z => by
    have none : ∀ x ∈ mvRow ws hs ps, x ∉ mvTaken ws hs ps := fun x hx w => by
      have : x ∈ mvFirst ws hs ps := List.mem_filter.mpr ⟨hx, decide_eq_true w⟩
      rw [z] at this
      cases this
    have hc := chosen_in ho p3
    have pw : p.1 ∈ waitM ws ps (mvH ws hs ps) := mem_wait.mpr ⟨by rw [M.len]; exact p1, p2⟩
    have e := ch_irc ho (S := heldM ps (mvH ws hs ps) ++ [p.1]) (T := heldM ps (mvH ws hs ps) ++ waitM ws ps (mvH ws hs ps)) (fun k hk => by
      rcases List.mem_append.mp hk with w | w
      · exact List.mem_append_left _ w
      · rw [List.mem_singleton.mp w]
        exact List.mem_append_right _ pw) (fun k hk => by
      have hin := chosen_in ho hk
      rcases List.mem_append.mp hin.2.1 with w | w
      · exact List.mem_append_left _ w
      · exact absurd (by rw [hT]; exact hk) (none k (mem_rankedM.mpr ⟨hin.1, w, hin.2.2⟩)))
    rw [e] at p3
    exact none p.1 (mem_rankedM.mpr ⟨hc.1, pw, hc.2.2⟩) (by rw [hT]; exact p3)
  have hc : mvC ws hs ps ∈ mvFirst ws hs ps := by
    unfold mvC
    cases q : mvFirst ws hs ps with
    | nil => exact absurd q hne
    | cons a l => exact List.mem_cons_self
  obtain ⟨c1, c2⟩ := List.mem_filter.mp hc
  have c3 := mem_wait.mp (mem_rankedM.mp c1).2.1
  rw [M.len] at c3
  refine ⟨hr, hne, c3.1, c3.2, ?_⟩
  rw [← hT]
  exact of_decide_eq_true c2
def mvMeas (ws : List (List Int)) (ps : List (Option Int)) : Nat := ((rg 0 ps.length).map fun k => (ratherM ws ps k).length).sum
theorem mv_next (o : WOk ws hs n) (M : Mv ws hs n ps) (ne : pairsM ws hs ps ≠ []) : Mv ws hs n (mvNext ws hs ps) ∧ mvMeas ws (mvNext ws hs ps) < mvMeas ws ps := by
  obtain ⟨hr, hne, c0, hin, hch⟩ := mv_main o M ne
  have pl : ∀ k : Int, 0 ≤ k → placeAt (mvNext ws hs ps) k = if k = mvC ws hs ps then some (mvH ws hs ps) else placeAt ps k := fun k k0 => place_set c0.1 (by rw [M.len]; exact c0.2) k0
  have ln : (mvNext ws hs ps).length = n := by
    unfold mvNext
    rw [List.length_set, M.len]
  generalize mvNext ws hs ps = qs at pl ln
  generalize mvH ws hs ps = H at *
  generalize mvC ws hs ps = c at *
  have ra : ∀ k : Int, 0 ≤ k → k ≠ c → ratherM ws qs k = ratherM ws ps k := fun k k0 e => by
    unfold ratherM
    rw [pl k k0, if_neg e]
  have rc : ratherM ws qs c = aheadM (wishAt ws c) (some H) := by
    unfold ratherM
    rw [pl c c0.1, if_pos rfl]
  have sub : ∀ h k : Int, (k ∈ heldM qs h ++ waitM ws qs h) → (k ∈ heldM ps h ++ waitM ws ps h) := fun h k hk => by
    rcases List.mem_append.mp hk with w | w
    · obtain ⟨w1, w2⟩ := mem_held.mp w
      rw [ln] at w1
      rw [pl k w1.1] at w2
      by_cases e : k = c
      · rw [if_pos e] at w2
        refine List.mem_append_right _ (mem_wait.mpr ⟨by rw [M.len]; exact w1, ?_⟩)
        rw [e, ← Option.some.inj w2]
        exact hin
      · rw [if_neg e] at w2
        exact List.mem_append_left _ (mem_held.mpr ⟨by rw [M.len]; exact w1, w2⟩)
    · obtain ⟨w1, w2⟩ := mem_wait.mp w
      rw [ln] at w1
      refine List.mem_append_right _ (mem_wait.mpr ⟨by rw [M.len]; exact w1, ?_⟩)
      by_cases e : k = c
      · rw [e, rc] at w2
        rw [e]
        exact ahead_sub2 hin h w2
      · rw [ra k w1.1 e] at w2
        exact w2
  refine ⟨⟨ln, fun k k0 k1 h e => ?_, fun h h0 h1 k hk => ?_⟩, ?_⟩
  · rw [pl k k0] at e
    by_cases z : k = c
    · rw [if_pos z] at e
      rw [z, ← Option.some.inj e]
      exact (aheadM_mem hin).1
    · rw [if_neg z] at e
      exact M.wish k k0 k1 h e
  · refine ch_subst (o.hOk h0 h1) (sub h) (List.mem_append_left _ hk) ?_
    obtain ⟨w1, w2⟩ := mem_held.mp hk
    rw [ln] at w1
    rw [pl k w1.1] at w2
    by_cases z : k = c
    · rw [if_pos z] at w2
      have w2' := Option.some.inj w2
      subst w2'
      rw [z]
      exact hch
    · rw [if_neg z] at w2
      exact M.hold h h0 h1 k (mem_held.mpr ⟨by rw [M.len]; exact w1, w2⟩)
  · unfold mvMeas
    rw [ln, M.len]
    refine sum_lt (fun k hk => ?_) (mem_rg.mpr c0) ?_
    · by_cases z : k = c
      · rw [z, rc]
        exact Nat.le_of_lt (ahead_lt2 hin)
      · rw [ra k (mem_rg.mp hk).1 z]
        exact Nat.le_refl _
    · rw [rc]
      exact ahead_lt2 hin
/-- at the end the places are fair -/
theorem mv_end (o : WOk ws hs n) (M : Mv ws hs n ps) (e : pairsM ws hs ps = []) : fairM ws hs ps = true := by
  refine (fair_iff o M.len).mpr ⟨M.wish, fun h h0 h1 => ?_, fun k h k0 k1 hh z => ?_⟩
  · have ho := o.hOk h0 h1
    refine chosen_ext ho (held_sorted _ _) (held_nodup _ _) fun k => ⟨fun z => (chosen_in ho z).2.1, fun z => ?_⟩
    exact ch_subst ho (fun x hx => List.mem_append_left _ hx) z (M.hold h h0 h1 k z)
  · have : (k, h) ∈ pairsM ws hs ps := mem_pairs.mpr ⟨by rw [M.len]; exact ⟨k0, k1⟩, hh, z⟩
    rw [e] at this
    cases this
theorem fair_mv (o : WOk ws hs n) (f : FairOk ws hs n mu) : Mv ws hs n mu := by
  refine ⟨f.len, f.wish, fun h h0 h1 k hk => ?_⟩
  have e := key o f h0 h1 (X := waitM ws mu h) fun x hx => by
    have := mem_wait.mp hx
    rw [f.len] at this
    exact ⟨this.1, Or.inr this.2⟩
  have e2 : chosenM (houseAt hs h) (heldM mu h ++ waitM ws mu h) = chosenM (houseAt hs h) (waitM ws mu h ++ heldM mu h) := chosen_congr fun x => by
    rw [List.mem_append, List.mem_append]
    exact Or.comm
  rw [e2, e]
  exact hk
/-- none worse -/
def Btr (ws : List (List Int)) (ps qs : List (Option Int)) (k : Int) : Prop := placeAt qs k = placeAt ps k ∨ ∃ h, placeAt qs k = some h ∧ h ∈ ratherM ws ps k
theorem btr_next (o : WOk ws hs n) {p0 : List (Option Int)} (M : Mv ws hs n ps) (ne : pairsM ws hs ps ≠ []) {k : Int} (k0 : 0 ≤ k) (b : Btr ws p0 ps k) : Btr ws p0 (mvNext ws hs ps) k := by
  obtain ⟨hr, hne, c0, hin, hch⟩ := mv_main o M ne
  have pl : placeAt (mvNext ws hs ps) k = if k = mvC ws hs ps then some (mvH ws hs ps) else placeAt ps k := place_set c0.1 (by rw [M.len]; exact c0.2) k0
  unfold Btr
  rw [pl]
  by_cases e : k = mvC ws hs ps
  · rw [if_pos e]
    rw [← e] at hin
    refine Or.inr ⟨_, rfl, ?_⟩
    rcases b with w | ⟨h, w1, w2⟩
    · unfold ratherM at hin ⊢
      rw [w] at hin
      exact hin
    · unfold ratherM at hin w2 ⊢
      rw [w1] at hin
      exact ahead_sub2 w2 _ hin
  · rw [if_neg e]
    exact b
/-! ### the run -/
def mvIt (ws : List (List Int)) (hs : List Hs) (ps : List (Option Int)) : Nat → List (Option Int)
  | 0 => ps
  | i + 1 => mvNext ws hs (mvIt ws hs ps i)
def mvStep (ws : List (List Int)) (hs : List Hs) (ps : List (Option Int)) : Int × Option Int × Int := (mvC ws hs ps, placeAt ps (mvC ws hs ps), mvH ws hs ps)
/-- how many steps are made -/
def mvLen (ws : List (List Int)) (hs : List Hs) : Nat → List (Option Int) → Nat
  | 0, _ => 0
  | f + 1, ps => if pairsM ws hs ps = [] then 0 else mvLen ws hs f (mvNext ws hs ps) + 1
def mvN (ws : List (List Int)) (hs : List Hs) (ps : List (Option Int)) : Nat := mvLen ws hs (mvMeas ws ps) ps
def movedM (ws : List (List Int)) (hs : List Hs) (ps : List (Option Int)) : List (Option Int) := mvIt ws hs ps (mvN ws hs ps)
def stepsM (ws : List (List Int)) (hs : List Hs) (ps : List (Option Int)) : List (Int × Option Int × Int) := (List.range (mvN ws hs ps)).map fun i => mvStep ws hs (mvIt ws hs ps i)
theorem mvIt_shift (ws : List (List Int)) (hs : List Hs) (ps : List (Option Int)) : ∀ i : Nat, mvIt ws hs ps (i + 1) = mvIt ws hs (mvNext ws hs ps) i
  | 0 => rfl
  | i + 1 => by
    show mvNext ws hs (mvIt ws hs ps (i + 1)) = mvNext ws hs (mvIt ws hs (mvNext ws hs ps) i)
    rw [mvIt_shift ws hs ps i]
theorem mvLen_is (o : WOk ws hs n) : ∀ (f : Nat) (ps : List (Option Int)), Mv ws hs n ps → mvMeas ws ps ≤ f → (∀ i, i < mvLen ws hs f ps → Mv ws hs n (mvIt ws hs ps i) ∧ pairsM ws hs (mvIt ws hs ps i) ≠ []) ∧ Mv ws hs n (mvIt ws hs ps (mvLen ws hs f ps)) ∧ pairsM ws hs (mvIt ws hs ps (mvLen ws hs f ps)) = [] ∧ mvLen ws hs f ps ≤ f
  | 0, ps, M, hm => by
    refine ⟨fun i hi => absurd hi (Nat.not_lt_zero i), M, ?_, Nat.le_refl _⟩
    by_cases z : pairsM ws hs ps = []
    · exact z
    · exact absurd (mv_next o M z).2 (by omega)
  | f + 1, ps, M, hm => by
    by_cases z : pairsM ws hs ps = []
    · have e : mvLen ws hs (f + 1) ps = 0 := if_pos z
      rw [e]
      exact ⟨fun i hi => absurd hi (Nat.not_lt_zero i), M, z, Nat.zero_le _⟩
    · have e : mvLen ws hs (f + 1) ps = mvLen ws hs f (mvNext ws hs ps) + 1 := if_neg z
      rw [e]
      obtain ⟨M2, lt⟩ := mv_next o M z
      obtain ⟨a, b, c, d⟩ := mvLen_is o f (mvNext ws hs ps) M2 (by omega)
      refine ⟨fun i hi => ?_, ?_, ?_, Nat.succ_le_succ d⟩
      · cases i with
        | zero => exact ⟨M, z⟩
        | succ i =>
          rw [mvIt_shift]
          exact a i (by omega)
      · rw [mvIt_shift]
        exact b
      · rw [mvIt_shift]
        exact c
theorem moved_is (o : WOk ws hs n) (M : Mv ws hs n ps) : (∀ i, i < mvN ws hs ps → Mv ws hs n (mvIt ws hs ps i) ∧ pairsM ws hs (mvIt ws hs ps i) ≠ []) ∧ Mv ws hs n (movedM ws hs ps) ∧ pairsM ws hs (movedM ws hs ps) = [] ∧ mvN ws hs ps ≤ mvMeas ws ps := mvLen_is o _ ps M (Nat.le_refl _)
theorem moved_fair (o : WOk ws hs n) (M : Mv ws hs n ps) : fairM ws hs (movedM ws hs ps) = true := by
  obtain ⟨a, b, c, d⟩ := moved_is o M
  exact mv_end o b c
theorem moved_len (o : WOk ws hs n) (M : Mv ws hs n ps) : (movedM ws hs ps).length = n := (moved_is o M).2.1.len
theorem it_btr (o : WOk ws hs n) (M : Mv ws hs n ps) {k : Int} (k0 : 0 ≤ k) : ∀ i : Nat, i ≤ mvN ws hs ps → Btr ws ps (mvIt ws hs ps i) k
  | 0, _ => Or.inl rfl
  | i + 1, hi => by
    obtain ⟨a, _⟩ := moved_is o M
    obtain ⟨M2, ne⟩ := a i (by omega)
    exact btr_next o M2 ne k0 (it_btr o M k0 i (by omega))
theorem moved_btr (o : WOk ws hs n) (M : Mv ws hs n ps) {k : Int} (k0 : 0 ≤ k) : Btr ws ps (movedM ws hs ps) k := it_btr o M k0 _ (Nat.le_refl _)
theorem meas_small (o : WOk ws hs n) (hl : ps.length = n) : mvMeas ws ps ≤ 192 := by
  have h1 : mvMeas ws ps ≤ ((rg 0 ps.length).map fun _ => 8).sum := sum_le fun k hk => by
    obtain ⟨k0, k1⟩ := mem_rg.mp hk
    exact Nat.le_trans (aheadM_sub _ _).length_le (o.wLen k0 (by omega))
  have h2 : ∀ l : List Int, (l.map fun _ => 8).sum = 8 * l.length := fun l => by
    induction l with
    | nil => rfl
    | cons a l ih =>
      rw [List.map_cons, List.sum_cons, ih, List.length_cons]
      omega
  rw [h2, rg_len] at h1
  have := o.small
  omega
end
/-! ### a going; more seats -/
def goneW (ws : List (List Int)) (c : Int) : List (List Int) := ws.set c.toNat []
def goneP (ps : List (Option Int)) (c : Int) : List (Option Int) := ps.set c.toNat none
section
variable {ws : List (List Int)} {hs : List Hs} {n : Nat} {ps mu : List (Option Int)}
theorem wish_set {c : Int} {r : List Int} (c0 : 0 ≤ c) (c1 : c < ws.length) {k : Int} (k0 : 0 ≤ k) : wishAt (ws.set c.toNat r) k = if k = c then r else wishAt ws k := by
  unfold wishAt
  rw [getD_set_at (by omega)]
  by_cases e : k = c
  · rw [if_pos e, if_pos (by rw [e])]
  · rw [if_neg e, if_neg (toNat_ne c0 k0 (Ne.symm e))]
theorem gone_ok (o : WOk ws hs n) (c : Int) : WOk (goneW ws c) hs n := by
  refine ⟨by unfold goneW; rw [List.length_set]; exact o.len, o.small, o.few, o.house, fun r hr => ?_⟩
  rcases List.mem_or_eq_of_mem_set hr with z | z
  · exact o.wish r z
  · rw [z]
    exact ⟨List.nodup_nil, fun x hx => by cases hx⟩
theorem gone_mv (o : WOk ws hs n) (M : Mv ws hs n mu) {c : Int} (c0 : 0 ≤ c) (c1 : c < n) : Mv (goneW ws c) hs n (goneP mu c) := by
  have wl := o.len
  have ml := M.len
  have pl : ∀ k : Int, 0 ≤ k → placeAt (goneP mu c) k = if k = c then none else placeAt mu k := fun k k0 => place_set c0 (by omega) k0
  have wi : ∀ k : Int, 0 ≤ k → wishAt (goneW ws c) k = if k = c then [] else wishAt ws k := fun k k0 => wish_set c0 (by omega) k0
  have ln : (goneP mu c).length = n := by
    unfold goneP
    rw [List.length_set, ml]
  refine ⟨ln, fun k k0 k1 h e => ?_, fun h h0 h1 k hk => ?_⟩
  · rw [pl k k0] at e
    rw [wi k k0]
    by_cases z : k = c
    · rw [if_pos z] at e
      cases e
    · rw [if_neg z] at e ⊢
      exact M.wish k k0 k1 h e
  · refine ch_subst (o.hOk h0 h1) (T := heldM mu h ++ waitM ws mu h) (fun x hx => ?_) (List.mem_append_left _ hk) ?_
    · rcases List.mem_append.mp hx with w | w
      · obtain ⟨w1, w2⟩ := mem_held.mp w
        rw [ln] at w1
        rw [pl x w1.1] at w2
        by_cases z : x = c
        · rw [if_pos z] at w2
          cases w2
        · rw [if_neg z] at w2
          exact List.mem_append_left _ (mem_held.mpr ⟨by rw [ml]; exact w1, w2⟩)
      · obtain ⟨w1, w2⟩ := mem_wait.mp w
        rw [ln] at w1
        unfold ratherM at w2
        rw [wi x w1.1, pl x w1.1] at w2
        by_cases z : x = c
        · rw [if_pos z] at w2
          cases w2
        · rw [if_neg z, if_neg z] at w2
          exact List.mem_append_right _ (mem_wait.mpr ⟨by rw [ml]; exact w1, w2⟩)
    · obtain ⟨w1, w2⟩ := mem_held.mp hk
      rw [ln] at w1
      rw [pl k w1.1] at w2
      by_cases z : k = c
      · rw [if_pos z] at w2
        cases w2
      · rw [if_neg z] at w2
        exact M.hold h h0 h1 k (mem_held.mpr ⟨by rw [ml]; exact w1, w2⟩)
end
end CH

/-! Choosehall: more seats. -/
namespace CH
open PySem L2
def moreM (h : Hs) (m : Int) : Hs := { h with seats := h.seats + m }
theorem more_ok {h : Hs} {n : Nat} {m : Int} (o : HsOk h n) (h0 : 0 ≤ m) : HsOk (moreM h m) n := ⟨o.pts, o.kinds, o.row, o.small, o.kept0, by have := o.kept; show h.kept ≤ h.seats + m; omega⟩
theorem more_sub {h : Hs} {n : Nat} {m : Int} (o : HsOk h n) (h0 : 0 ≤ m) {S : List Int} {k : Int} (e : k ∈ chosenM h S) : k ∈ chosenM (moreM h m) S := by
  rw [mem_chosen o.kept0] at e
  rw [mem_chosen (more_ok o h0).kept0]
  have e2 : Pick (kindB h) h.kept.toNat (freeM (moreM h m) S) (rankedM h S) k := e.le (by
    show (chFree h (insideM h S).length).toNat ≤ (chFree (moreM h m) (insideM h S).length).toNat
    unfold chFree
    show (if h.opened = true then h.seats - _ else h.seats - h.kept).toNat ≤ (if h.opened = true then h.seats + m - _ else h.seats + m - h.kept).toNat
    split <;> omega)
  exact e2
def moreHs (hs : List Hs) (h m : Int) : List Hs := hs.set h.toNat (moreM (houseAt hs h) m)
section
variable {ws : List (List Int)} {hs : List Hs} {n : Nat} {ps : List (Option Int)} {h m : Int}
theorem moreHs_len : (moreHs hs h m).length = hs.length := by
  unfold moreHs
  rw [List.length_set]
theorem moreHs_at (h0 : 0 ≤ h) (h1 : h < hs.length) {x : Int} (x0 : 0 ≤ x) : houseAt (moreHs hs h m) x = if x = h then moreM (houseAt hs h) m else houseAt hs x := by
  unfold houseAt moreHs
  rw [getD_set_at (by omega)]
  by_cases e : x = h
  · rw [if_pos e, if_pos (by rw [e])] <;> rfl
  · rw [if_neg e, if_neg (toNat_ne h0 x0 (Ne.symm e))]
theorem more_wok (o : WOk ws hs n) (h0 : 0 ≤ h) (h1 : h < hs.length) (m0 : 0 ≤ m) : WOk ws (moreHs hs h m) n := by
  refine ⟨o.len, o.small, by rw [moreHs_len]; exact o.few, fun x hx => ?_, fun r hr => by rw [moreHs_len]; exact o.wish r hr⟩
  rcases List.mem_or_eq_of_mem_set hx with z | z
  · exact o.house x z
  · rw [z]
    exact more_ok (o.hOk h0 h1) m0
theorem more_mv (o : WOk ws hs n) (M : Mv ws hs n ps) (h0 : 0 ≤ h) (h1 : h < hs.length) (m0 : 0 ≤ m) : Mv ws (moreHs hs h m) n ps := by
  refine ⟨M.len, M.wish, fun x x0 x1 k hk => ?_⟩
  rw [moreHs_len] at x1
  have e := M.hold x x0 x1 k hk
  rw [moreHs_at h0 h1 x0]
  by_cases z : x = h
  · rw [if_pos z, ← z]
    exact more_sub (o.hOk x0 x1) m0 e
  · rw [if_neg z]
    exact e
end
end CH

/-! Choosehall: waiting rows. -/
namespace CH
open PySem L2
section
variable {P : Program} {w : World} {g : Gb} {mg : Str → Option Value} {base : Heap} {f : Addr} {fd : FuncData}
def RWait : List D → Sl → Prop := fun ds r => ∃ (ws : List (List Int)) (hs : List Hs) (ps : List (Option Int)) (n : Nat) (h : Int), WOk ws hs n ∧ ps.length = n ∧ 0 ≤ h ∧ h < hs.length ∧ ds = [intssD ws, hssD hs, oisD ps, .int h] ∧ r = .m ((rankedM (houseAt hs h) (waitM ws ps h)).map D.int)
theorem c_wait (F : FnP g.K "waiting" "waiting" s_waiting f fd) (hm : mg "waiting" = some (.ref f)) (fr : Free mg) (cf : ClsF g) (CRa : Cal P w g mg base "rather" 1 RRather) (CRk : MCal P w g mg base "ranked" 3 RRanked) : Cal P w g mg base "waiting" 4 RWait := by
  refine cal_by (N := ["wishes", "houses", "places", "house", "comers", "comer"]) (ps := ["wishes", "houses", "places", "house"]) F ⟨rfl, rfl, rfl, by decide +kernel, rfl, by decide +kernel, by decide +kernel⟩ hm (fun _ _ _ _ _ _ us hl => match us, hl with | [_, _, _, _], _ => rfl) ?_ ?_
  · rintro ds r ⟨ws, hs, ps, n, h, _, _, _, _, rfl, _⟩
    rfl
  · rintro ds r cdv A outer s0 H E ⟨ws, hs, ps, n, h, o, hl, h0, h1, rfl, rfl⟩ hr
    have hr1 := hr.mono (j := 1) (by decide)
    have sm := o.small
    have wl := o.len
    refine ss_cons (s_lcIf 4 5 (enc := D.int) (l := rg 0 ps.length) (fun k => decide (h ∈ ratherM ws ps k)) D.int (ei_range fr (ev_len rfl fr (ev_var 2) (len_ois ps)) ⟨by omega, by omega⟩) (by rw [rg_len]; omega) (fun k hk s1 H1 C cl fp => ?_) (fun k hk _ s1 H1 C cl fp => ev_var 5) ?_)
    · obtain ⟨k0, k1⟩ := mem_rg.mp hk
      have := o.wLen k0 (by omega)
      exact EvT.is (et_cmp (ev_var 3) (Ev.fz (ev_call rfl CRa hr1 (ea_cons (ev_var 0) (ea_cons (ev_var 2) (ea_cons (ev_var 5) ea_nil))) ⟨ws, ps, k, rfl, k0, by omega, k1, by omega, rfl⟩)) (cmp_in rfl (w := .int h) (ws := (ratherM ws ps k).map V.int) rfl (fl_ints _))) (inV_ints _ _)
    · exact ss_frz 4 rfl (ss_one (s_ret (ev_meth rfl cf.c CRk no_ranked hr (ev_ix rfl (ev_var 1) (ev_var 3) (at_hs h0 h1)) (ea_cons (ev_var 4) ea_nil) ⟨houseAt hs h, n, waitM ws ps h, o.hOk h0 h1, rfl, rfl⟩) rfl))
end
end CH

/-! Choosehall: moved. -/
namespace CH
open PySem L2
def stepD (t : Int × Option Int × Int) : D := .tup [.int t.1, D.oi t.2.1, .int t.2.2]
def stepsD (l : List (Int × Option Int × Int)) : D := .lst (l.map stepD)
theorem oisD_len0 {l : List (Int × Int)} : (pairsD l).truth = !l.isEmpty := by cases l <;> rfl
theorem noLL_pairs : ∀ l : List (Int × Int), noLL (l.map pairD) = true
  | [] => rfl
  | _ :: l => noLL_pairs l
theorem noL_step (t : Int × Option Int × Int) : (stepD t).noL = true := by
  obtain ⟨a, b, c⟩ := t
  cases b <;> rfl
theorem noLL_steps : ∀ l : List (Int × Option Int × Int), noLL (l.map stepD) = true
  | [] => rfl
  | t :: l => by
    show ((stepD t).noL && noLL (l.map stepD)) = true
    rw [noL_step, noLL_steps l] <;> rfl
section
variable {P : Program} {w : World} {g : Gb} {mg : Str → Option Value} {base : Heap} {f : Addr} {fd : FuncData}
def RMoved : List D → Sl → Prop := fun ds r => ∃ (ws : List (List Int)) (hs : List Hs) (ps : List (Option Int)) (n : Nat), WOk ws hs n ∧ Mv ws hs n ps ∧ ds = [intssD ws, hssD hs, oisD ps] ∧ r = .nw (.tup [oisD (movedM ws hs ps), stepsD (stepsM ws hs ps)])
theorem c_moved (F : FnP g.K "moved" "moved" s_moved f fd) (hm : mg "moved" = some (.ref f)) (fr : Free mg) (cf : ClsF g) (CB : Cal P w g mg base "both_rather" 5 RBoth) (CHe : Cal P w g mg base "held" 1 RHeld) (CW : Cal P w g mg base "waiting" 4 RWait) (CCh : MCal P w g mg base "chosen" 4 RChosen) : Cal P w g mg base "moved" 6 RMoved := by
  refine cal_by (N := ["wishes", "houses", "places", "now", "steps", "pairs", "house", "here", "row", "taken", "comer", "pair", "one"]) (ps := ["wishes", "houses", "places"]) F ⟨rfl, rfl, rfl, by decide +kernel, rfl, by decide +kernel, by decide +kernel⟩ hm (fun _ _ _ _ _ _ us hl => match us, hl with | [_, _, _], _ => rfl) ?_ ?_
  · rintro ds r ⟨ws, hs, ps, n, _, _, rfl, _⟩
    rfl
  · rintro ds r cdv A outer s0 H E ⟨ws, hs, ps, n, o, M0, rfl, rfl⟩ hr
    have hr1 := hr.mono (j := 1) (by decide)
    have hr4 := hr.mono (j := 4) (by decide)
    have sm := o.small
    have hf := o.few
    have wl := o.len
    obtain ⟨q1, q2, q3, q4⟩ := moved_is o M0
    have q5 := meas_small o M0.len
    refine ss_cons (s_asg 3 (ev_list rfl fr (ev_var 2)) ?_)
    refine ss_cons (s_asg 4 (ev_lst ea_nil (by decide)) ?_)
    refine ss_one (s_while (fun m G => ∃ (i : Nat) (z5 z6 z7 z8 z9 z10 : Sl), i ≤ mvN ws hs ps ∧ m = mvN ws hs ps - i ∧ G = [.v (intssD ws), .v (hssD hs), .v (oisD ps), .m ((mvIt ws hs ps i).map D.oi), .m (((List.range i).map fun j => mvStep ws hs (mvIt ws hs ps j)).map stepD), z5, z6, z7, z8, z9, z10, .un, .un]) (mvN ws hs ps) ⟨0, _, _, _, _, _, _, Nat.zero_le _, rfl, rfl⟩ (fun m G hI => ?_))
    obtain ⟨i, z5, z6, z7, z8, z9, z10, hi, rfl, rfl⟩ := hI
    refine ⟨true, et_val ev_true, fun _ => ?_, fun hb => by cases hb⟩
    have M : Mv ws hs n (mvIt ws hs ps i) := by
      by_cases z : i < mvN ws hs ps
      · exact (q1 i z).1
      · rw [show i = mvN ws hs ps by omega]
        exact q2
    have ne : pairsM ws hs (mvIt ws hs ps i) ≠ [] → i < mvN ws hs ps := fun z => by
      by_cases y : i < mvN ws hs ps
      · exact y
      · refine absurd ?_ z
        rw [show i = mvN ws hs ps by omega]
        exact q3
    have en : pairsM ws hs (mvIt ws hs ps i) = [] → i = mvN ws hs ps := fun z => by
      by_cases y : i < mvN ws hs ps
      · exact absurd z (q1 i y).2
      · omega
    have enx : mvIt ws hs ps (i + 1) = mvNext ws hs (mvIt ws hs ps i) := rfl
    have esn : ((List.range (i + 1)).map fun j => mvStep ws hs (mvIt ws hs ps j)).map stepD = ((List.range i).map fun j => mvStep ws hs (mvIt ws hs ps j)).map stepD ++ [stepD (mvStep ws hs (mvIt ws hs ps i))] := by
      rw [List.range_succ, List.map_append, List.map_append] <;> rfl
    have efin : i = mvN ws hs ps → Sl.nw (.tup [oisD (mvIt ws hs ps i), .lst (((List.range i).map fun j => mvStep ws hs (mvIt ws hs ps j)).map stepD)]) = .nw (.tup [oisD (movedM ws hs ps), stepsD (stepsM ws hs ps)]) := fun z => by
      rw [z] <;> rfl
    have hll : ((((List.range i).map fun j => mvStep ws hs (mvIt ws hs ps j)).map stepD)).length ≤ 90000 := by
      rw [List.length_map, List.length_map, List.length_range]
      omega
    have hnl := noLL_steps ((List.range i).map fun j => mvStep ws hs (mvIt ws hs ps j))
    generalize ((List.range i).map fun j => mvStep ws hs (mvIt ws hs ps j)).map stepD = sd at esn efin hll hnl
    generalize mvIt ws hs ps i = now at M ne en enx esn efin
    have ml := M.len
    refine ss_cons (s_asg 5 (Ev.fz (Ev.bor (ev_call rfl CB hr (ea_cons (ev_var 0) (ea_cons (ev_var 1) (ea_cons (ev_var 3) ea_nil))) ⟨ws, hs, now, n, o, ml, rfl, rfl⟩) (noLL_pairs _))) ?_)
    refine ss_cons (s_if (b := (pairsM ws hs now).isEmpty) (EvT.is (et_not (et_truth (d := pairsD (pairsM ws hs now)) rfl (ev_var 5) True.intro)) (by rw [oisD_len0, Bool.not_not])) (fun hb => ?_) (fun hb => ss_nil ?_))
    · have e0 := en (List.isEmpty_iff.mp hb)
      exact ss_one (s_retPair 3 4 (efin e0) (noLL_ois _) hnl)
    have hne : pairsM ws hs now ≠ [] := fun z => by
      rw [z] at hb
      cases hb
    have hlt := ne hne
    obtain ⟨⟨H0, H1⟩, fne, ⟨c0, c1⟩, hin, hch⟩ := mv_main o M hne
    have pl9 : (pairsM ws hs now).length ≤ 192 := pairs_few o (ps := now) (by omega) (List.Sublist.refl _)
    obtain ⟨i1, i2⟩ := minI_is (l := (pairsM ws hs now).map (·.2)) (fun z => hne (List.map_eq_nil_iff.mp z))
    have estep : mvStep ws hs now = (mvC ws hs now, placeAt now (mvC ws hs now), mvH ws hs now) := rfl
    have enow : mvNext ws hs now = now.set (mvC ws hs now).toNat (some (mvH ws hs now)) := rfl
    have hT : mvTaken ws hs now = chosenM (houseAt hs (mvH ws hs now)) (heldM now (mvH ws hs now) ++ mvRow ws hs now) := rfl
    have hF : mvFirst ws hs now = (mvRow ws hs now).filter fun k => decide (k ∈ mvTaken ws hs now) := rfl
    have hR : mvRow ws hs now = rankedM (houseAt hs (mvH ws hs now)) (waitM ws now (mvH ws hs now)) := rfl
    have hCd : mvC ws hs now = (mvFirst ws hs now).getD 0 0 := rfl
    refine ss_cons (s_asg 6 (r := .v (.int (mvH ws hs now))) (ev_minL rfl rfl fr (Ev.is (Ev.fz (ev_lc 11 (enc := pairD) (l := pairsM ws hs now) (fun p => D.int p.2) (ei_list rfl (ev_var 5)) (by omega) (fun p hp s1 H1 C cl fp => ev_ix (d1 := pairD p) rfl (ev_var 11) ev_int rfl))) (congrArg (fun l => Sl.v (.lst l)) (show (pairsM ws hs now).map (fun p => D.int p.2) = ((pairsM ws hs now).map (·.2)).map D.int by rw [List.map_map] <;> rfl))) i1 i2) ?_)
    have ho := o.hOk H0 H1
    generalize mvH ws hs now = hh at *
    refine ss_cons (s_asg 7 (Ev.bor (ev_call rfl CHe hr1 (ea_cons (ev_var 3) (ea_cons (ev_var 6) ea_nil)) ⟨now, hh, rfl, by omega, rfl⟩) (noLL_ints _)) (ss_frz 7 rfl ?_))
    refine ss_cons (s_asg 8 (Ev.bor (ev_call rfl CW hr4 (ea_cons (ev_var 0) (ea_cons (ev_var 1) (ea_cons (ev_var 3) (ea_cons (ev_var 6) ea_nil)))) ⟨ws, hs, now, n, hh, o, ml, H0, H1, rfl, rfl⟩) (noLL_ints _)) (ss_frz 8 rfl ?_))
    rw [← hR]
    have rl24 : (mvRow ws hs now).length ≤ 24 := by
      rw [hR]
      have h1 := sub_len (ranked_nodup ho.nodup (waitM ws now hh)) fun k hk => (mem_rankedM.mp hk).1
      rw [ho.len] at h1
      omega
    have hl24 := held_len now hh
    refine ss_cons (s_asg 9 (ev_meth rfl cf.c CCh no_chosen hr4 (ev_ix rfl (ev_var 1) (ev_var 6) (at_hs H0 H1)) (ea_cons (Ev.is (Ev.fz (ev_bin (ev_var 7) (ev_var 8) (bin_cat (by rw [List.length_map, List.length_map]; omega)))) (congrArg (fun l => Sl.v (.lst l)) (show (heldM now hh).map D.int ++ (mvRow ws hs now).map D.int = (heldM now hh ++ mvRow ws hs now).map D.int by rw [List.map_append]))) ea_nil) ⟨houseAt hs hh, n, heldM now hh ++ mvRow ws hs now, ho, rfl, rfl⟩) (ss_frz 9 rfl ?_))
    rw [← hT]
    have e0 : (intsD (mvFirst ws hs now)).at_ 0 = some (.int (mvC ws hs now)) := by
      rw [hCd]
      exact at_map (enc := D.int) (Int.le_refl 0) (getD_at (Int.le_refl 0) (by
        have := List.length_pos_iff.mpr fne
        omega))
    refine ss_cons (s_asg 10 (ev_ix rfl (Ev.is (Ev.fz (ev_lcIf 12 (enc := D.int) (l := mvRow ws hs now) (fun k => decide (k ∈ mvTaken ws hs now)) D.int (ei_list rfl (ev_var 8)) (by omega) (fun k hk s1 H1 C cl fp => EvT.is (et_cmp (ev_var 12) (ev_var 9) (cmp_in rfl (w := .int k) (ws := (mvTaken ws hs now).map V.int) rfl (fl_ints _))) (inV_ints _ _)) (fun k hk _ s1 H1 C cl fp => ev_var 12))) (congrArg (fun l => Sl.v (intsD l)) hF.symm)) ev_int e0) ?_)
    have ec : Sl.v (D.int (mvC ws hs now)) = Sl.v (D.int (((mvC ws hs now).toNat : Nat) : Int)) := by rw [show (((mvC ws hs now).toNat : Nat) : Int) = mvC ws hs now by omega]
    have ap := at_place (ps := now) c0 (by omega)
    generalize mvC ws hs now = c at *
    refine ss_cons (s_append 4 (ds := sd) (d := stepD (c, placeAt now c, hh)) (Ev.bor (ev_tup (ea_cons (ev_var 10) (ea_cons (ev_ix rfl (ev_var 3) (ev_var 10) ap) (ea_cons (ev_var 6) ea_nil))) (by show (3 : Nat) ≤ 100000; decide)) (noL_step _)) ?_ hll)
    refine ss_one (s_setIx 3 (ds := now.map D.oi) (n := c.toNat) (ev_var 6) (Ev.is (ev_var 10) ec) (by rw [List.length_map]; omega) ⟨mvN ws hs ps - (i + 1), by omega, i + 1, _, _, _, _, _, _, by omega, rfl, by rw [esn, enx, enow, estep, List.map_set] <;> rfl⟩)
end
end CH

/-! Choosehall: a going. -/
namespace CH
open PySem L2
section
variable {P : Program} {w : World} {g : Gb} {mg : Str → Option Value} {base : Heap} {f : Addr} {fd : FuncData}
def RGone : List D → Sl → Prop := fun ds r => ∃ (ws : List (List Int)) (hs : List Hs) (ps : List (Option Int)) (n : Nat) (c : Int), WOk ws hs n ∧ Mv ws hs n ps ∧ 0 ≤ c ∧ c < n ∧ ds = [intssD ws, hssD hs, oisD ps, .int c] ∧
  r = .nw (.tup [oisD (movedM (goneW ws c) hs (goneP ps c)), stepsD (stepsM (goneW ws c) hs (goneP ps c))])
theorem c_gone (F : FnP g.K "gone" "gone" s_gone f fd) (hm : mg "gone" = some (.ref f)) (fr : Free mg) (CM : Cal P w g mg base "moved" 6 RMoved) : Cal P w g mg base "gone" 7 RGone := by
  refine cal_by (N := ["wishes", "houses", "places", "comer", "left", "now", "row"]) (ps := ["wishes", "houses", "places", "comer"]) F ⟨rfl, rfl, rfl, by decide +kernel, rfl, by decide +kernel, by decide +kernel⟩ hm (fun _ _ _ _ _ _ us hl => match us, hl with | [_, _, _, _], _ => rfl) ?_ ?_
  · rintro ds r ⟨ws, hs, ps, n, c, _, _, _, _, rfl, _⟩
    rfl
  · rintro ds r cdv A outer s0 H E ⟨ws, hs, ps, n, c, o, M, c0, c1, rfl, rfl⟩ hr
    have sm := o.small
    have wl := o.len
    have ml := M.len
    have ec : Sl.v (D.int c) = Sl.v (D.int ((c.toNat : Nat) : Int)) := by rw [show ((c.toNat : Nat) : Int) = c by omega]
    refine ss_cons (s_lc 4 6 (enc := intsD) (l := ws) intsD (ei_list rfl (ev_var 0)) (by omega) (fun r hr' s1 H1 C cl fp => Ev.fz (ev_list rfl fr (ev_var 6))) ?_)
    refine ss_cons (s_setIx 4 (ds := ws.map intsD) (n := c.toNat) (d := intsD []) (Ev.fz (ev_lst ea_nil (by decide))) (Ev.is (ev_var 3) ec) (by rw [List.length_map]; omega) ?_)
    refine ss_cons (s_asg 5 (ev_list rfl fr (ev_var 2)) ?_)
    refine ss_cons (s_setIx 5 (ds := ps.map D.oi) (n := c.toNat) (d := .non) ev_non (Ev.is (ev_var 3) ec) (by rw [List.length_map]; omega) ?_)
    have e4 : (ws.map intsD).set c.toNat (intsD []) = (goneW ws c).map intsD := by
      unfold goneW
      rw [List.map_set]
    have e5 : (ps.map D.oi).set c.toNat D.non = (goneP ps c).map D.oi := by
      unfold goneP
      rw [List.map_set] <;> rfl
    rw [e4, e5]
    refine ss_frz 4 rfl (ss_frz 5 rfl (ss_one (s_ret (ev_call rfl CM hr (ea_cons (ev_var 4) (ea_cons (ev_var 1) (ea_cons (ev_var 5) ea_nil))) ⟨goneW ws c, hs, goneP ps c, n, gone_ok o c, gone_mv o M c0 c1, rfl, rfl⟩) rfl)))
end
end CH

/-! Choosehall: the law's own walk along the steps. -/
namespace CH
open PySem L2
section
variable {P : Program} {w : World} {g : Gb} {mg : Str → Option Value} {base : Heap} {f : Addr} {fd : FuncData}
def RWalked : List D → Sl → Prop := fun ds r => ∃ (ws : List (List Int)) (hs : List Hs) (ps : List (Option Int)) (n : Nat), WOk ws hs n ∧ Mv ws hs n ps ∧ ds = [intssD ws, rowsD hs, oisD ps, stepsD (stepsM ws hs ps)] ∧ r = .m ((movedM ws hs ps).map D.oi)
theorem step_at2 (t : Int × Option Int × Int) : (stepD t).at_ 2 = some (.int t.2.2) := rfl
theorem step_at0 (t : Int × Option Int × Int) : (stepD t).at_ 0 = some (.int t.1) := rfl
theorem step_at1 (t : Int × Option Int × Int) : (stepD t).at_ 1 = some (D.oi t.2.1) := rfl
theorem c_walked (F : FnP g.K "_law_walked" "_law_walked" s__law_walked f fd) (hm : mg "_law_walked" = some (.ref f)) (fr : Free mg) (CP : Cal P w g mg base "_law_pairs" 3 RLPairs) (CHe : Cal P w g mg base "_law_held" 1 RHeld) (CRa : Cal P w g mg base "_law_rather" 1 RRather) (CLR : Cal P w g mg base "_law_ranked" 1 RLRanked) (CLC : Cal P w g mg base "_law_chosen" 2 RLChosen) : Cal P w g mg base "_law_walked" 4 RWalked := by
  refine cal_by (N := ["wishes", "rows", "places", "steps", "now", "step", "pairs", "here", "want", "taken", "first", "pair", "k"]) (ps := ["wishes", "rows", "places", "steps"]) F ⟨rfl, rfl, rfl, by decide +kernel, rfl, by decide +kernel, by decide +kernel⟩ hm (fun _ _ _ _ _ _ us hl => match us, hl with | [_, _, _, _], _ => rfl) ?_ ?_
  · rintro ds r ⟨ws, hs, ps, n, _, _, rfl, _⟩
    rfl
  · rintro ds r cdv A outer s0 H E ⟨ws, hs, ps, n, o, M0, rfl, rfl⟩ hr
    have hr1 := hr.mono (j := 1) (by decide)
    have hr2 := hr.mono (j := 2) (by decide)
    have sm := o.small
    have hf := o.few
    have wl := o.len
    obtain ⟨q1, q2, q3, q4⟩ := moved_is o M0
    refine ss_cons (s_asg 4 (ev_list rfl fr (ev_var 2)) ?_)
    have hsl : ((stepsM ws hs ps).map stepD).length = mvN ws hs ps := by
      unfold stepsM
      rw [List.length_map, List.length_map, List.length_range]
    refine ss_cons (s_for 5 (items := (stepsM ws hs ps).map stepD) (ei_list rfl (ev_var 3)) (fun i G => ∃ z5 z6 z7 z8 z9 z10 : Sl, G = [.v (intssD ws), .v (rowsD hs), .v (oisD ps), .v (stepsD (stepsM ws hs ps)), .m ((mvIt ws hs ps i).map D.oi), z5, z6, z7, z8, z9, z10, .un, .un]) ⟨_, _, _, _, _, _, rfl⟩ (fun i d G hd hI => ?_) (fun G hI => ?_))
    · obtain ⟨z5, z6, z7, z8, z9, z10, rfl⟩ := hI
      have hi : i < mvN ws hs ps := by rw [← hsl]; exact (List.getElem?_eq_some_iff.mp hd).1
      obtain ⟨M, hne⟩ := q1 i hi
      have ed : d = stepD (mvStep ws hs (mvIt ws hs ps i)) := by
        unfold stepsM at hd
        rw [List.map_map, List.getElem?_map, List.getElem?_range hi] at hd
        exact (Option.some.inj hd).symm
      subst ed
      have enx : mvIt ws hs ps (i + 1) = mvNext ws hs (mvIt ws hs ps i) := rfl
      rw [enx]
      generalize mvIt ws hs ps i = now at M hne
      have ml := M.len
      obtain ⟨⟨H0, H1⟩, fne, ⟨c0, c1⟩, hin, hch⟩ := mv_main o M hne
      have pl9 : (pairsM ws hs now).length ≤ 192 := pairs_few o (ps := now) (by omega) (List.Sublist.refl _)
      obtain ⟨i1, i2⟩ := minI_is (l := (pairsM ws hs now).map (·.2)) (fun z => hne (List.map_eq_nil_iff.mp z))
      have e2 := step_at2 (mvStep ws hs now)
      have e1 := step_at1 (mvStep ws hs now)
      have e0 := step_at0 (mvStep ws hs now)
      have eH : (mvStep ws hs now).2.2 = mvH ws hs now := rfl
      have eC : (mvStep ws hs now).1 = mvC ws hs now := rfl
      have eP : (mvStep ws hs now).2.1 = placeAt now (mvC ws hs now) := rfl
      rw [eH] at e2
      rw [eP] at e1
      rw [eC] at e0
      have esl : (stepD (mvStep ws hs now)).len = some 3 := rfl
      have est : (stepD (mvStep ws hs now)).ty = some "tuple" := rfl
      have enow : mvNext ws hs now = now.set (mvC ws hs now).toNat (some (mvH ws hs now)) := rfl
      have hT : mvTaken ws hs now = chosenM (houseAt hs (mvH ws hs now)) (heldM now (mvH ws hs now) ++ waitM ws now (mvH ws hs now)) := chosen_row _ _
      have hF : mvFirst ws hs now = (mvRow ws hs now).filter fun k => decide (k ∈ mvTaken ws hs now) := rfl
      have hR : mvRow ws hs now = rankedM (houseAt hs (mvH ws hs now)) (waitM ws now (mvH ws hs now)) := rfl
      have hCd : mvC ws hs now = (mvFirst ws hs now).getD 0 0 := rfl
      have hm2 : mvH ws hs now = minI ((pairsM ws hs now).map (·.2)) := rfl
      generalize mvStep ws hs now = stp at e2 e1 e0 esl est
      refine ss_cons (s_if (b := false) (EvT.is (et_or (et_not (et_val (ev_isi (T := "tuple") (t := "tuple") (d := stepD stp) (r := true) rfl fr (ev_var 5) est (by decide +kernel) (by decide +kernel) fr.tuple))) (fun _ => et_cmp (ev_len rfl fr (ev_var 5) esl) ev_int (cmp_ne rfl hr.units ⟨rfl, rfl⟩ ⟨rfl, rfl⟩))) rfl) (fun hb => by cases hb) (fun _ => ss_nil ?_))
      refine ss_cons (s_asg 6 (Ev.fz (Ev.bor (ev_call rfl CP hr (ea_cons (ev_var 0) (ea_cons (ev_var 1) (ea_cons (ev_var 4) ea_nil))) ⟨ws, hs, now, n, o, ml, rfl, rfl⟩) (noLL_pairs _))) ?_)
      refine ss_cons (s_if (b := false) (EvT.is (et_or (r := false) (EvT.is (et_cmp (d1 := pairsD (pairsM ws hs now)) (d2 := pairsD []) (ev_var 6) (Ev.fz (ev_lst ea_nil (by decide))) (cmp_eq rfl hr.units (cm_pairs _).ok (cm_pairs []).ok)) (by rw [eqv_pairs]; exact decide_eq_false hne)) (fun _ => et_cmp (d1 := .int (mvH ws hs now)) (d2 := .int (mvH ws hs now)) (ev_ix rfl (ev_var 5) ev_int e2) (ev_minL rfl rfl fr (Ev.is (Ev.fz (ev_lc 11 (enc := pairD) (l := pairsM ws hs now) (fun p => D.int p.2) (ei_list rfl (ev_var 6)) (by omega) (fun p hp s1 H1 C cl fp => ev_ix (d1 := pairD p) rfl (ev_var 11) ev_int rfl))) (congrArg (fun l => Sl.v (.lst l)) (show (pairsM ws hs now).map (fun p => D.int p.2) = ((pairsM ws hs now).map (·.2)).map D.int by rw [List.map_map] <;> rfl))) i1 i2) (cmp_ne rfl hr.units (cm_int _).ok (cm_int _).ok))) (by rw [eqv_i, decide_eq_true rfl] <;> rfl)) (fun hb => by cases hb) (fun _ => ss_nil ?_))
      have ho := o.hOk H0 H1
      generalize mvH ws hs now = hh at *
      refine ss_cons (s_asg 7 (Ev.bor (ev_call rfl CHe hr1 (ea_cons (ev_var 4) (ea_cons (ev_ix rfl (ev_var 5) ev_int e2) ea_nil)) ⟨now, hh, rfl, by omega, rfl⟩) (noLL_ints _)) (ss_frz 7 rfl ?_))
      refine ss_cons (s_lcIf 8 12 (enc := D.int) (l := rg 0 now.length) (fun k => decide (hh ∈ ratherM ws now k)) D.int (ei_range fr (Ev.bor (ev_len rfl fr (ev_var 4) (len_ois now))) ⟨by omega, by omega⟩) (by rw [rg_len]; omega) (fun k hk s1 H1 C cl fp => ?_) (fun k hk _ s1 H1 C cl fp => ev_var 12) (ss_frz 8 rfl ?_))
      · obtain ⟨k0, k1⟩ := mem_rg.mp hk
        have := o.wLen k0 (by omega)
        exact EvT.is (EvT.bor (et_cmp (ev_ix rfl (ev_var 5) ev_int e2) (Ev.fz (ev_call rfl CRa hr1 (ea_cons (ev_var 0) (ea_cons (ev_var 4) (ea_cons (ev_var 12) ea_nil))) ⟨ws, now, k, rfl, k0, by omega, k1, by omega, rfl⟩)) (cmp_in rfl (w := .int hh) (ws := (ratherM ws now k).map V.int) rfl (fl_ints _)))) (inV_ints _ _)
      have hl24 := held_len now hh
      have wl24 : (waitM ws now hh).length ≤ now.length := Nat.le_trans (List.length_filter_le _ _) (by rw [rg_len]; omega)
      show Ss g _ [_, _, _, _, _, _, _, .v (intsD (heldM now hh)), .v (intsD (waitM ws now hh)), _, _, _, _] _ _
      refine ss_cons (s_asg 9 (ev_call rfl CLC hr2 (ea_cons (ev_ix rfl (ev_var 1) (ev_ix rfl (ev_var 5) ev_int e2) (at_rows H0 H1)) (ea_cons (Ev.is (Ev.fz (ev_bin (ev_var 7) (ev_var 8) (bin_cat (by rw [List.length_map, List.length_map]; omega)))) (congrArg (fun l => Sl.v (.lst l)) (show (heldM now hh).map D.int ++ (waitM ws now hh).map D.int = (heldM now hh ++ waitM ws now hh).map D.int by rw [List.map_append]))) ea_nil)) ⟨houseAt hs hh, n, heldM now hh ++ waitM ws now hh, ho, rfl, rfl⟩) (ss_frz 9 rfl ?_))
      rw [← hT]
      have rl24 : (mvRow ws hs now).length ≤ 24 := by
        rw [hR]
        have h1 := sub_len (ranked_nodup ho.nodup (waitM ws now hh)) fun k hk => (mem_rankedM.mp hk).1
        rw [ho.len] at h1
        omega
      refine ss_cons (s_lcIf 10 12 (enc := D.int) (l := mvRow ws hs now) (fun k => decide (k ∈ mvTaken ws hs now)) D.int (ei_list rfl (Ev.is (Ev.fz (ev_call rfl CLR hr1 (ea_cons (ev_ix rfl (ev_var 1) (ev_ix rfl (ev_var 5) ev_int e2) (at_rows H0 H1)) (ea_cons (ev_var 8) ea_nil)) ⟨houseAt hs hh, n, waitM ws now hh, ho, rfl, rfl⟩)) (congrArg (fun l => Sl.v (intsD l)) hR.symm))) (by omega) (fun k hk s1 H1 C cl fp => EvT.is (et_cmp (ev_var 12) (ev_var 9) (cmp_in rfl (w := .int k) (ws := (mvTaken ws hs now).map V.int) rfl (fl_ints _))) (inV_ints _ _)) (fun k hk _ s1 H1 C cl fp => ev_var 12) (ss_frz 10 rfl ?_))
      rw [← hF]
      have ef0 : (intsD (mvFirst ws hs now)).at_ 0 = some (.int (mvC ws hs now)) := by
        rw [hCd]
        exact at_map (enc := D.int) (Int.le_refl 0) (getD_at (Int.le_refl 0) (by
          have := List.length_pos_iff.mpr fne
          omega))
      have ec : Sl.v (D.int (mvC ws hs now)) = Sl.v (D.int (((mvC ws hs now).toNat : Nat) : Int)) := by rw [show (((mvC ws hs now).toNat : Nat) : Int) = mvC ws hs now by omega]
      have ap := at_place (ps := now) c0 (by omega)
      generalize mvC ws hs now = c at *
      refine ss_cons (s_if (b := false) (EvT.is (et_or3 (r := false) (r' := false) (EvT.is (et_cmp (d1 := intsD (mvFirst ws hs now)) (d2 := intsD []) (ev_var 10) (Ev.fz (ev_lst ea_nil (by decide))) (cmp_eq rfl hr.units (cm_ints _).ok (cm_ints []).ok)) (by rw [eqv_ints]; exact decide_eq_false fne)) (fun _ => EvT.is (et_cmp (d1 := .int c) (d2 := .int c) (ev_ix rfl (ev_var 5) ev_int e0) (ev_ix rfl (ev_var 10) ev_int ef0) (cmp_ne rfl hr.units (cm_int _).ok (cm_int _).ok)) (by rw [eqv_i, decide_eq_true rfl] <;> rfl)) (fun _ _ => EvT.bor (et_cmp (ev_ix rfl (ev_var 5) ev_int e1) (ev_ix rfl (ev_var 4) (ev_ix rfl (ev_var 5) ev_int e0) ap) (cmp_ne rfl hr.units (cm_oi _).ok (cm_oi _).ok)))) (by rw [eqv_oi, decide_eq_true rfl] <;> rfl)) (fun hb => by cases hb) (fun _ => ss_nil ?_))
      refine ss_one (s_setIx 4 (ds := now.map D.oi) (n := c.toNat) (ev_ix rfl (ev_var 5) ev_int e2) (Ev.is (ev_ix rfl (ev_var 5) ev_int e0) ec) (by rw [List.length_map]; omega) ⟨_, _, _, _, _, _, by rw [enow, List.map_set] <;> rfl⟩)
    · obtain ⟨z5, z6, z7, z8, z9, z10, rfl⟩ := hI
      rw [hsl]
      exact ss_one (s_retOwn 4 rfl)
def RLYear : List D → Sl → Prop := fun ds r => ∃ (ws : List (List Int)) (hs : List Hs) (ps : List (Option Int)) (n : Nat), WOk ws hs n ∧ Mv ws hs n ps ∧ ds = [.tup [oisD (movedM ws hs ps), stepsD (stepsM ws hs ps)], intssD ws, rowsD hs, oisD ps] ∧ r = .v (.bl true)
theorem c_lyear (F : FnP g.K "_law_year" "_law_year" s__law_year f fd) (hm : mg "_law_year" = some (.ref f)) (fr : Free mg) (CWa : Cal P w g mg base "_law_walked" 4 RWalked) (CPA : Cal P w g mg base "_law_places_alike" 2 RPlAlike) (CF : Cal P w g mg base "_law_fair" 4 RLFair) : Cal P w g mg base "_law_year" 5 RLYear := by
  refine cal_by (N := ["found", "wishes", "rows", "places", "now"]) (ps := ["found", "wishes", "rows", "places"]) F ⟨rfl, rfl, rfl, by decide +kernel, rfl, by decide +kernel, by decide +kernel⟩ hm (fun _ _ _ _ _ _ us hl => match us, hl with | [_, _, _, _], _ => rfl) ?_ ?_
  · rintro ds r ⟨ws, hs, ps, n, _, _, rfl, _⟩
    rfl
  · rintro ds r cdv A outer s0 H E ⟨ws, hs, ps, n, o, M, rfl, rfl⟩ hr
    have hr2 := hr.mono (j := 2) (by decide)
    have sm := o.small
    have mf := moved_fair o M
    have mlen := moved_len o M
    have e0 : (D.tup [oisD (movedM ws hs ps), stepsD (stepsM ws hs ps)]).at_ 0 = some (oisD (movedM ws hs ps)) := rfl
    have e1 : (D.tup [oisD (movedM ws hs ps), stepsD (stepsM ws hs ps)]).at_ 1 = some (stepsD (stepsM ws hs ps)) := rfl
    refine ss_cons (s_if (b := false) (EvT.is (et_or3 (et_not (et_val (ev_isi (T := "tuple") (t := "tuple") (r := true) rfl fr (ev_var 0) rfl (by decide +kernel) (by decide +kernel) fr.tuple))) (fun _ => et_cmp (ev_len rfl fr (ev_var 0) rfl) ev_int (cmp_ne rfl hr.units ⟨rfl, rfl⟩ ⟨rfl, rfl⟩)) (fun _ _ => et_not (et_val (ev_isi (T := "list") (t := "list") (r := true) rfl fr (ev_ix rfl (ev_var 0) ev_int e1) rfl (by decide +kernel) (by decide +kernel) fr.list)))) rfl) (fun hb => by cases hb) (fun _ => ss_nil ?_))
    refine ss_cons (s_asg 4 (ev_call rfl CWa hr (ea_cons (ev_var 1) (ea_cons (ev_var 2) (ea_cons (ev_var 3) (ea_cons (ev_ix rfl (ev_var 0) ev_int e1) ea_nil)))) ⟨ws, hs, ps, n, o, M, rfl, rfl⟩) (ss_frz 4 rfl ?_))
    refine ss_cons (s_if (b := false) (EvT.is (et_or (et_cmp (ev_var 4) ev_non cmp_is) (fun _ => et_not (et_val (ev_call rfl CPA hr2 (ea_cons (ev_ix rfl (ev_var 0) ev_int e0) (ea_cons (ev_var 4) ea_nil)) ⟨movedM ws hs ps, rfl, by omega, rfl⟩)))) rfl) (fun hb => by cases hb) (fun _ => ss_nil ?_))
    exact ss_one (s_ret (Ev.is (ev_call rfl CF hr (ea_cons (ev_var 1) (ea_cons (ev_var 2) (ea_cons (ev_var 4) ea_nil))) ⟨ws, hs, movedM ws hs ps, n, o, mlen, rfl, rfl⟩) (by rw [mf])) rfl)
def RNoW : List D → Sl → Prop := fun ds r => ∃ (ws : List (List Int)) (ps qs : List (Option Int)) (n : Nat) (p : Option Int), ws.length = n ∧ ps.length = n ∧ qs.length = n ∧ n ≤ 100 ∧ (∀ k : Int, 0 ≤ k → k < n → (wishAt ws k).length ≤ 100) ∧ (∀ k : Int, 0 ≤ k → k < n → some k ≠ p → Btr ws ps qs k) ∧ ds = [intssD ws, oisD ps, oisD qs, D.oi p] ∧ r = .v (.bl true)
theorem c_noworse (F : FnP g.K "_law_none_worse" "_law_none_worse" s__law_none_worse f fd) (hm : mg "_law_none_worse" = some (.ref f)) (fr : Free mg) (CRa : Cal P w g mg base "_law_rather" 1 RRather) : Cal P w g mg base "_law_none_worse" 2 RNoW := by
  refine cal_by (N := ["wishes", "ahead", "now", "apart", "k"]) (ps := ["wishes", "ahead", "now", "apart"]) F ⟨rfl, rfl, rfl, by decide +kernel, rfl, by decide +kernel, by decide +kernel⟩ hm (fun _ _ _ _ _ _ us hl => match us, hl with | [_, _, _, _], _ => rfl) ?_ ?_
  · rintro ds r ⟨ws, ps, qs, n, p, _, _, _, _, _, _, rfl, _⟩
    rfl
  · rintro ds r cdv A outer s0 H E ⟨ws, ps, qs, n, p, l1, l2, l3, n100, hw, hbt, rfl, rfl⟩ hr
    refine ss_cons (s_for 4 (items := (rg 0 qs.length).map D.int) (ei_range fr (ev_len rfl fr (ev_var 2) (len_ois qs)) ⟨by omega, by omega⟩) (fun i G => ∃ z4 : Sl, G = [.v (intssD ws), .v (oisD ps), .v (oisD qs), .v (D.oi p), z4]) ⟨_, rfl⟩ (fun i d G hd hI => ?_) (fun G hI => ?_))
    · obtain ⟨z4, rfl⟩ := hI
      rw [List.getElem?_map] at hd
      obtain ⟨k, hk, rfl⟩ := Option.map_eq_some_iff.mp hd
      obtain ⟨k0, k1⟩ := mem_rg.mp (List.mem_of_getElem? hk)
      have b := hbt k k0 (by omega)
      have ap := at_place (ps := ps) k0 (by omega)
      have aq := at_place (ps := qs) k0 k1
      refine ss_one (s_if (b := !decide (some k = p) && !decide (placeAt qs k = placeAt ps k)) (EvT.is (et_and (et_cmp (ev_var 4) (ev_var 3) (cmp_ne rfl hr.units (cm_int _).ok (cm_oi _).ok)) (fun _ => et_cmp (ev_ix rfl (ev_var 2) (ev_var 4) aq) (ev_ix rfl (ev_var 1) (ev_var 4) ap) (cmp_ne rfl hr.units (cm_oi _).ok (cm_oi _).ok))) (by rw [eqv_int_oi, eqv_oi])) (fun hb => ?_) (fun hb => ss_nil ⟨_, rfl⟩))
      rw [Bool.and_eq_true] at hb
      have b1 : some k ≠ p := fun z => by
        have := hb.1
        rw [decide_eq_true z] at this
        cases this
      have b2 : placeAt qs k ≠ placeAt ps k := fun z => by
        have := hb.2
        rw [decide_eq_true z] at this
        cases this
      obtain ⟨h, e1, e2⟩ := (b b1).resolve_left b2
      rw [e1] at aq
      refine ss_one (s_if (b := false) (EvT.is (et_or (et_cmp (ev_ix rfl (ev_var 2) (ev_var 4) aq) ev_non cmp_is) (fun _ => et_cmp (ev_ix (d := .int h) rfl (ev_var 2) (ev_var 4) aq) (Ev.fz (ev_call rfl CRa hr (ea_cons (ev_var 0) (ea_cons (ev_var 1) (ea_cons (ev_var 4) ea_nil))) ⟨ws, ps, k, rfl, k0, by omega, by omega, hw k k0 (by omega), rfl⟩)) (cmp_notin rfl (w := .int h) (ws := (ratherM ws ps k).map V.int) rfl (fl_ints _)))) ?_) (fun hb => by cases hb) (fun _ => ss_nil ⟨_, rfl⟩))
      show (false || !inV (.int h) ((ratherM ws ps k).map V.int)) = false
      rw [inV_ints, decide_eq_true e2] <;> rfl
    · obtain ⟨z4, rfl⟩ := hI
      exact ss_one (s_ret ev_true rfl)
end
end CH

/-! Choosehall: more seats. -/
namespace CH
open PySem L2
theorem no_more2 {h : Hs} (p q r : Addr) : (flds h p q r).lookup ("with_more" : Str) = none := lk_no (by decide) (by decide) (by decide) (by decide) (by decide) (by decide) (by decide)
section
variable {P : Program} {w : World} {g : Gb} {mg : Str → Option Value} {base : Heap} {f : Addr} {fd : FuncData}
def RMore : List D → Sl → Prop := fun ds r => ∃ (h : Hs) (m : Int), ds = [.hs h, .int m] ∧ r = .v (.hs (moreM h m))
theorem c_more (F : FnP g.K "with_more" "House.with_more" s_House_with_more f fd) (hm : Meth g.K g.C "with_more" f) (cf : ClsF g) (fr : Free mg) (CI : HCal P w g mg base 1) : MCal P w g mg base "with_more" 3 RMore := by
  refine mcal_by (N := ["self", "many"]) (ps := ["self", "many"]) F ⟨rfl, rfl, rfl, by decide +kernel, rfl, by decide +kernel, by decide +kernel⟩ hm (fun _ _ _ _ _ _ us hl => match us, hl with | [_, _], _ => rfl) ?_ ?_
  · rintro ds r ⟨h, m, rfl, _⟩
    rfl
  · rintro ds r cdv A outer s0 H E ⟨h, m, rfl, rfl⟩ hr
    exact ss_one (s_ret (ev_make (h := moreM h m) rfl CI hr (ea_cons (ev_bin (ev_fld rfl cf.c cf.seats (fld_seats h) (ev_var 0)) (ev_var 1) bin_add) (ea_cons (ev_fld rfl cf.c cf.kept (fld_kept h) (ev_var 0)) (ea_cons (ev_fld rfl cf.c cf.kind (fld_kind h) (ev_var 0)) (ea_cons (ev_fld rfl cf.c cf.opened (fld_opened h) (ev_var 0)) (ea_cons (ev_fld rfl cf.c cf.points (fld_points h) (ev_var 0)) (ea_cons (ev_fld rfl cf.c cf.kinds (fld_kinds h) (ev_var 0)) (ea_cons (ev_fld rfl cf.c cf.row (fld_row h) (ev_var 0)) ea_nil)))))))) rfl)
def RMoreH : List D → Sl → Prop := fun ds r => ∃ (ws : List (List Int)) (hs : List Hs) (ps : List (Option Int)) (n : Nat) (h m : Int), WOk ws hs n ∧ Mv ws hs n ps ∧ 0 ≤ h ∧ h < hs.length ∧ 0 ≤ m ∧ ds = [intssD ws, hssD hs, oisD ps, .int h, .int m] ∧
  r = .nw (.tup [oisD (movedM ws (moreHs hs h m) ps), stepsD (stepsM ws (moreHs hs h m) ps)])
theorem c_moreH (F : FnP g.K "more" "more" s_more f fd) (hm : mg "more" = some (.ref f)) (fr : Free mg) (cf : ClsF g) (CMo : MCal P w g mg base "with_more" 3 RMore) (CM : Cal P w g mg base "moved" 6 RMoved) : Cal P w g mg base "more" 7 RMoreH := by
  refine cal_by (N := ["wishes", "houses", "places", "house", "many", "grown"]) (ps := ["wishes", "houses", "places", "house", "many"]) F ⟨rfl, rfl, rfl, by decide +kernel, rfl, by decide +kernel, by decide +kernel⟩ hm (fun _ _ _ _ _ _ us hl => match us, hl with | [_, _, _, _, _], _ => rfl) ?_ ?_
  · rintro ds r ⟨ws, hs, ps, n, h, m, _, _, _, _, _, rfl, _⟩
    rfl
  · rintro ds r cdv A outer s0 H E ⟨ws, hs, ps, n, h, m, o, M, h0, h1, m0, rfl, rfl⟩ hr
    have hr3 := hr.mono (j := 3) (by decide)
    have eh : Sl.v (D.int h) = Sl.v (D.int ((h.toNat : Nat) : Int)) := by rw [show ((h.toNat : Nat) : Int) = h by omega]
    refine ss_cons (s_asg 5 (ev_list rfl fr (ev_var 1)) ?_)
    refine ss_cons (s_setIx 5 (ds := hs.map D.hs) (n := h.toNat) (d := .hs (moreM (houseAt hs h) m)) (ev_meth rfl cf.c CMo no_more2 hr3 (ev_ix rfl (ev_var 1) (ev_var 3) (at_hs h0 h1)) (ea_cons (ev_var 4) ea_nil) ⟨houseAt hs h, m, rfl, rfl⟩) (Ev.is (ev_var 3) eh) (by rw [List.length_map]; omega) ?_)
    have e : (hs.map D.hs).set h.toNat (D.hs (moreM (houseAt hs h) m)) = (moreHs hs h m).map D.hs := by
      unfold moreHs
      rw [List.map_set]
    rw [e]
    exact ss_frz 5 rfl (ss_one (s_ret (ev_call rfl CM hr (ea_cons (ev_var 0) (ea_cons (ev_var 5) (ea_cons (ev_var 2) ea_nil))) ⟨ws, moreHs hs h m, ps, n, more_wok o h0 h1 m0, more_mv o M h0 h1 m0, rfl, rfl⟩) rfl))
end
end CH

/-! Choosehall: law k13. -/
namespace CH
open PySem L2
theorem len1_rows (s : List Int) (top : Int) : (wRows s top).length = (wHouses s).toNat := by
  have := wHouses_pos s
  unfold wRows
  rw [List.length_map, rg_len]
  omega
theorem ar_kept {h : Hs} : (rowD h).at_ 1 = some (.int h.kept) := rfl
theorem ar_seats {h : Hs} : (rowD h).at_ 0 = some (.int h.seats) := rfl
section
variable {P : Program} {w : World} {g : Gb} {mg : Str → Option Value} {base : Heap} {f : Addr} {fd : FuncData}
theorem c_law13 (F : FnP g.K "law" "law" s_law f fd) (fr : Free mg) (cf : ClsF g) (CC : Cal P w g mg base "_law_cell_at" 1 RCell) (CW : Cal P w g mg base "_law_world" 3 RWorld) (CS : Cal P w g mg base "_law_houses" 3 RHouses) (CG : Cal P w g mg base "granted" 5 RGranted) (CGn : Cal P w g mg base "gone" 7 RGone) (CMH : Cal P w g mg base "more" 7 RMoreH) (CY : Cal P w g mg base "_law_year" 5 RLYear) (CN : Cal P w g mg base "_law_none_worse" 2 RNoW) : FnOk P w g.K mg base CX0 8 f fd ["script"] (Prom g RLaw) := by
  refine fn_by (N := ["script", "world", "wishes", "houses", "places", "comer", "house", "many", "handed", "found", "k", "rows", "row"]) (ps := ["script"]) F ⟨rfl, rfl, rfl, by decide +kernel, rfl, by decide +kernel, by decide +kernel⟩ ?_ ?_
  · rintro ds r ⟨c, rfl, _⟩
    rfl
  · rintro ds r cdv A outer s0 H E ⟨s, rfl, rfl⟩ hr
    obtain ⟨m1, m2⟩ := wMany_pos s (top := 5) (by decide)
    obtain ⟨n1, n2⟩ := wHouses_pos s
    have hr1 := hr.mono (j := 1) (by decide)
    have hr2 := hr.mono (j := 2) (by decide)
    have hr3 := hr.mono (j := 3) (by decide)
    have hr5 := hr.mono (j := 5) (by decide)
    have o := wish_ok s 5 (by decide) (by decide)
    have hl := len1_rows s 5
    refine ss_cons (s_asg 1 (ev_call rfl CW hr3 (ea_cons (ev_var 0) (ea_cons ev_int ea_nil)) ⟨s, 5, rfl, by decide, by decide, rfl⟩) ?_)
    have hn : (wMany s 5).toNat ≤ 5 := by omega
    have hn0 : 0 < (wMany s 5).toNat := by omega
    have hH3 : (wRows s 5).length ≤ 3 := by omega
    have hH0 : 0 < (wRows s 5).length := by omega
    show Ss g _ [.v (.scr s), .v (.tup [intssD (wWish s 5), rowsD (wRows s 5)]), .un, .un, .un, .un, .un, .un, .un, .un, .un, .un, .un] _ _
    generalize (wMany s 5).toNat = n at o hn hn0
    generalize wWish s 5 = ws at o
    generalize wRows s 5 = hs at o hH3 hH0
    have wl := o.len
    have gl := granted_len o
    have M := fair_mv o (fair_ok o gl (granted_fair o))
    have e0 : (D.tup [intssD ws, rowsD hs]).at_ 0 = some (intssD ws) := rfl
    have e1 : (D.tup [intssD ws, rowsD hs]).at_ 1 = some (rowsD hs) := rfl
    refine ss_cons (s_lc 2 12 (enc := intsD) (l := ws) intsD (ei_list rfl (ev_ix rfl (ev_var 1) ev_int e0)) (by omega) (fun r hr' s1 H1 C cl fp => Ev.fz (ev_list rfl fr (ev_var 12))) ?_)
    refine ss_cons (s_asg 3 (ev_call rfl CS hr3 (ea_cons (ev_ix rfl (ev_var 1) ev_int e1) ea_nil) ⟨hs, rfl, by omega, rfl⟩) (ss_frz 3 rfl ?_))
    refine ss_cons (s_asg 4 (Ev.bor (ev_call rfl CG hr5 (ea_cons (Ev.fz (ev_lc 12 (enc := intsD) (l := ws) intsD (ei_list rfl (ev_var 2)) (by omega) (fun r hr' s1 H1 C cl fp => Ev.fz (ev_list rfl fr (ev_var 12))))) (ea_cons (ev_var 3) ea_nil)) ⟨ws, hs, n, o, rfl, rfl⟩) (noLL_ois _)) (ss_frz 4 rfl ?_))
    show Ss g _ [_, _, .m (ws.map intsD), .v (hssD hs), .v (oisD (grantedM ws hs)), _, _, _, _, _, _, _, _] _ _
    generalize grantedM ws hs = ps at gl M
    have hc : ∀ x : Int, 0 ≤ x % (ps.length : Int) ∧ x % (ps.length : Int) < n := fun x => by
      have h1 := Int.emod_nonneg x (show (ps.length : Int) ≠ 0 by omega)
      have h2 := Int.emod_lt_of_pos x (show 0 < (ps.length : Int) by omega)
      omega
    refine ss_cons (s_ifJ (b := decide (cellAt s 22 % 2 = 1)) (fun G => ∃ (ws' : List (List Int)) (ps' : List (Option Int)) (z5 : Sl), WOk ws' hs n ∧ Mv ws' hs n ps' ∧ G = [.v (.scr s), .v (.tup [intssD ws, rowsD hs]), .m (ws'.map intsD), .v (hssD hs), .v (oisD ps'), z5, .un, .un, .un, .un, .un, .un, .un]) (et_cmp (ev_bin (ev_call rfl CC hr1 (ea_cons (ev_var 0) (ea_cons ev_int ea_nil)) ⟨s, 22, rfl, by decide, rfl⟩) ev_int (bin_mod (by decide))) ev_int (cmp_eq rfl hr.units ⟨rfl, rfl⟩ ⟨rfl, rfl⟩)) (fun hb => ?_) (fun hb => ss_nil ⟨ws, ps, _, o, M, rfl⟩) (fun G hI => ?_))
    · refine ss_cons (s_asg 5 (ev_bin (ev_call rfl CC hr1 (ea_cons (ev_var 0) (ea_cons ev_int ea_nil)) ⟨s, 23, rfl, by decide, rfl⟩) (ev_len rfl fr (ev_var 4) (len_ois ps)) (bin_mod (by omega))) ?_)
      obtain ⟨c0, c1⟩ := hc (cellAt s 23)
      generalize cellAt s 23 % (ps.length : Int) = c at c0 c1
      have go := gone_ok o c
      have gm := gone_mv o M c0 c1
      have M2 := (moved_is go gm).2.1
      have f0 : (D.tup [oisD (movedM (goneW ws c) hs (goneP ps c)), stepsD (stepsM (goneW ws c) hs (goneP ps c))]).at_ 0 = some (oisD (movedM (goneW ws c) hs (goneP ps c))) := rfl
      have ec : Sl.v (D.int c) = Sl.v (D.int ((c.toNat : Nat) : Int)) := by rw [show ((c.toNat : Nat) : Int) = c by omega]
      refine ss_cons (s_asg 4 (ev_list rfl fr (ev_ix rfl (Ev.nw (Ev.bor (ev_call rfl CGn hr (ea_cons (Ev.fz (ev_lc 12 (enc := intsD) (l := ws) intsD (ei_list rfl (ev_var 2)) (by omega) (fun r hr' s1 H1 C cl fp => Ev.fz (ev_list rfl fr (ev_var 12))))) (ea_cons (ev_var 3) (ea_cons (ev_var 4) (ea_cons (ev_var 5) ea_nil)))) ⟨ws, hs, ps, n, c, o, M, c0, c1, rfl, rfl⟩))) ev_int f0)) (ss_frz 4 rfl ?_))
      refine ss_one (s_setIx 2 (ds := ws.map intsD) (n := c.toNat) (d := intsD []) (Ev.fz (ev_lst ea_nil (by decide))) (Ev.is (ev_var 5) ec) (by rw [List.length_map]; omega) ⟨goneW ws c, movedM (goneW ws c) hs (goneP ps c), .v (.int c), go, M2, ?_⟩)
      have e4 : (ws.map intsD).set c.toNat (intsD []) = (goneW ws c).map intsD := by
        unfold goneW
        rw [List.map_set]
      rw [e4] <;> rfl
    obtain ⟨ws', ps', z5, o', M', rfl⟩ := hI
    have wl' := o'.len
    have ml' := M'.len
    refine ss_frz 2 rfl (ss_cons (s_asg 6 (ev_bin (ev_call rfl CC hr1 (ea_cons (ev_var 0) (ea_cons ev_int ea_nil)) ⟨s, 20, rfl, by decide, rfl⟩) (ev_len rfl fr (ev_var 3) (len_hss hs)) (bin_mod (by omega))) ?_))
    have hh0 := Int.emod_nonneg (cellAt s 20) (show (hs.length : Int) ≠ 0 by omega)
    have hh1 := Int.emod_lt_of_pos (cellAt s 20) (show 0 < (hs.length : Int) by omega)
    generalize cellAt s 20 % (hs.length : Int) = h at hh0 hh1
    refine ss_cons (s_asg 7 (ev_bin (ev_call rfl CC hr1 (ea_cons (ev_var 0) (ea_cons ev_int ea_nil)) ⟨s, 21, rfl, by decide, rfl⟩) ev_int (bin_mod (by decide))) ?_)
    have m0 : 0 ≤ cellAt s 21 % 5 := by omega
    generalize cellAt s 21 % 5 = m at m0
    have h0 : (D.lst ([intssD ws', hssD hs] ++ [.lst (ps'.map D.oi)])).at_ 0 = some (intssD ws') := rfl
    have h1 : (D.lst ([intssD ws', hssD hs] ++ [.lst (ps'.map D.oi)])).at_ 1 = some (hssD hs) := rfl
    have h2 : (D.lst ([intssD ws', hssD hs] ++ [.lst (ps'.map D.oi)])).at_ 2 = some (oisD ps') := rfl
    show Ss g _ [_, _, .v (intssD ws'), _, _, _, _, _, _, _, _, _, _] _ _
    refine ss_cons (s_asg 8 (ev_lstPr3 (Ev.fz (ev_lc 12 (enc := intsD) (l := ws') intsD (ei_list rfl (ev_var 2)) (by omega) (fun r hr' s1 H1 C cl fp => Ev.fz (ev_list rfl fr (ev_var 12))))) (Ev.fz (ev_list rfl fr (ev_var 3))) (ev_list rfl fr (ev_var 4))) ?_)
    have om := more_wok o' hh0 hh1 m0
    have Mm := more_mv o' M' hh0 hh1 m0
    refine ss_cons (s_asg 9 (Ev.nw (Ev.bor (ev_call rfl CMH hr (ea_cons (ev_ix rfl (ev_var 8) ev_int h0) (ea_cons (ev_ix rfl (ev_var 8) ev_int h1) (ea_cons (ev_ix rfl (ev_var 8) ev_int h2) (ea_cons (ev_var 6) (ea_cons (ev_var 7) ea_nil))))) ⟨ws', hs, ps', n, h, m, o', M', hh0, hh1, m0, rfl, rfl⟩))) ?_)
    refine ss_cons (s_if (b := false) (EvT.is (EvT.bor (et_or3 (et_cmp (d1 := intssD ws') (d2 := intssD ws') (ev_ix rfl (ev_var 8) ev_int h0) (ev_var 2) (cmp_ne rfl hr.units (cm_intss _).ok (cm_intss _).ok)) (fun _ => et_cmp (d1 := oisD ps') (d2 := oisD ps') (ev_ix rfl (ev_var 8) ev_int h2) (ev_var 4) (cmp_ne rfl hr.units (cm_ois _).ok (cm_ois _).ok)) (fun _ _ => et_cmp (ev_len rfl fr (ev_ix rfl (ev_var 8) ev_int h1) (len_hss hs)) (ev_len rfl fr (ev_var 3) (len_hss hs)) (cmp_ne rfl hr.units ⟨rfl, rfl⟩ ⟨rfl, rfl⟩)))) ?_) (fun hb => by cases hb) (fun _ => ss_nil ?_))
    · show (!(D.lst (ws'.map intsD)).eqv (.lst (ws'.map intsD)) || (!(D.lst (ps'.map D.oi)).eqv (.lst (ps'.map D.oi)) || !(D.int _).eqv (.int _))) = false
      rw [eqv_intss, eqv_ois, eqv_i, decide_eq_true rfl, decide_eq_true rfl, decide_eq_true rfl] <;> rfl
    refine ss_cons (s_for 10 (items := (rg 0 hs.length).map D.int) (ei_range fr (ev_len rfl fr (ev_var 3) (len_hss hs)) ⟨by omega, by omega⟩) (fun i G => ∃ z10 : Sl, G = [.v (.scr s), .v (.tup [intssD ws, rowsD hs]), .v (intssD ws'), .v (hssD hs), .v (oisD ps'), z5, .v (.int h), .v (.int m), .pr [intssD ws', hssD hs] (ps'.map D.oi), .v (.tup [oisD (movedM ws' (moreHs hs h m) ps'), stepsD (stepsM ws' (moreHs hs h m) ps')]), z10, .un, .un]) ⟨_, rfl⟩ (fun i d G hd hI => ?_) (fun G hI => ?_))
    · obtain ⟨z10, rfl⟩ := hI
      rw [List.getElem?_map] at hd
      obtain ⟨k, hk, rfl⟩ := Option.map_eq_some_iff.mp hd
      obtain ⟨k0, k1⟩ := mem_rg.mp (List.mem_of_getElem? hk)
      refine ss_one (s_if (b := false) (EvT.is (EvT.bor (et_cmp (ev_fld rfl cf.c cf.seats (fld_seats (houseAt hs k)) (ev_ix rfl (ev_ix rfl (ev_var 8) ev_int h1) (ev_var 10) (at_hs k0 k1))) (ev_ix rfl (ev_ix rfl (ev_ix rfl (ev_var 1) ev_int e1) (ev_var 10) (at_rows k0 k1)) ev_int ar_seats) (cmp_ne rfl hr.units (cm_int _).ok (cm_int _).ok))) (by rw [eqv_i, decide_eq_true rfl] <;> rfl)) (fun hb => by cases hb) (fun _ => ss_nil ⟨_, rfl⟩))
    obtain ⟨z10, rfl⟩ := hI
    refine ss_cons (s_clearPr 8 (n := 2) rfl ev_int rfl ?_)
    refine ss_cons (s_asg 11 (ev_list rfl fr (ev_ix rfl (ev_var 1) ev_int e1)) ?_)
    have eh : Sl.v (D.int h) = Sl.v (D.int ((h.toNat : Nat) : Int)) := by rw [show ((h.toNat : Nat) : Int) = h by omega]
    have ar := at_rows (hs := hs) hh0 hh1
    have x0 := ar_seats (h := houseAt hs h)
    have x1 := ar_kept (h := houseAt hs h)
    refine ss_cons (s_setIx 11 (ds := hs.map rowD) (n := h.toNat) (d := rowD (moreM (houseAt hs h) m)) (Ev.is (ev_bin (ev_tup (ea_cons (ev_bin (ev_ix rfl (ev_ixOwn 11 rfl (ev_var 6) ar) ev_int x0) (ev_var 7) bin_add) (ea_cons (ev_ix rfl (ev_ixOwn 11 rfl (ev_var 6) ar) ev_int x1) ea_nil)) (by show (2 : Nat) ≤ 100000; decide)) (ev_slT (ds := hsArgs (houseAt hs h)) rfl (ev_ixOwn 11 rfl (ev_var 6) ar) (eo_some ev_int) eo_none (fun w => absurd (show HT.sIx 7 0 (some 2) = 0 from w.1) (by decide))) (bin_catT (by intro z; cases z) (by intro z; cases z) (by show 2 + 5 ≤ 100000; decide))) rfl) (Ev.is (ev_var 6) eh) (by rw [List.length_map]; omega) ?_)
    have e : (hs.map rowD).set h.toNat (rowD (moreM (houseAt hs h) m)) = (moreHs hs h m).map rowD := by
      unfold moreHs
      rw [List.map_set]
    rw [e]
    refine ss_frz 11 rfl (ss_cons (s_if (b := false) (EvT.is (et_not (et_val (ev_call rfl CY hr5 (ea_cons (ev_var 9) (ea_cons (ev_var 2) (ea_cons (ev_var 11) (ea_cons (ev_var 4) ea_nil)))) ⟨ws', moreHs hs h m, ps', n, om, Mm, rfl, rfl⟩))) rfl) (fun hb => by cases hb) (fun _ => ss_nil ?_)))
    have f0 : (D.tup [oisD (movedM ws' (moreHs hs h m) ps'), stepsD (stepsM ws' (moreHs hs h m) ps')]).at_ 0 = some (oisD (movedM ws' (moreHs hs h m) ps')) := rfl
    exact ss_one (s_ret (ev_call rfl CN hr2 (ea_cons (ev_var 2) (ea_cons (ev_var 4) (ea_cons (ev_ix rfl (ev_var 9) ev_int f0) (ea_cons ev_non ea_nil)))) ⟨ws', ps', movedM ws' (moreHs hs h m) ps', n, none, wl', ml', moved_len om Mm, by omega, fun k k0 k1 => Nat.le_trans (o'.wLen k0 k1) (by decide), fun k k0 k1 _ => moved_btr om Mm k0, rfl, rfl⟩) rfl)
end
end CH

namespace CH
open PySem PySem.Spec PyProof.Rows L2
/-! ### the head -/
def d_held : He.DefD := ⟨("held", none), "held", "held", defArgs s_held, defBody s_held, defScope s_held, [], []⟩
def d_rather : He.DefD := ⟨("rather", none), "rather", "rather", defArgs s_rather, defBody s_rather, defScope s_rather, [], []⟩
def d_both_rather : He.DefD := ⟨("both_rather", none), "both_rather", "both_rather", defArgs s_both_rather, defBody s_both_rather, defScope s_both_rather, [], []⟩
def d_waiting : He.DefD := ⟨("waiting", none), "waiting", "waiting", defArgs s_waiting, defBody s_waiting, defScope s_waiting, [], []⟩
def d_moved : He.DefD := ⟨("moved", none), "moved", "moved", defArgs s_moved, defBody s_moved, defScope s_moved, [], []⟩
def d_gone : He.DefD := ⟨("gone", none), "gone", "gone", defArgs s_gone, defBody s_gone, defScope s_gone, [], []⟩
def d_more : He.DefD := ⟨("more", none), "more", "more", defArgs s_more, defBody s_more, defScope s_more, [], []⟩
def d_asked : He.DefD := ⟨("asked", none), "asked", "asked", defArgs s_asked, defBody s_asked, defScope s_asked, [], []⟩
def d_granted : He.DefD := ⟨("granted", none), "granted", "granted", defArgs s_granted, defBody s_granted, defScope s_granted, [], []⟩
def d__law_cell_at : He.DefD := ⟨("_law_cell_at", none), "_law_cell_at", "_law_cell_at", defArgs s__law_cell_at, defBody s__law_cell_at, defScope s__law_cell_at, [], []⟩
def d__law_whole : He.DefD := ⟨("_law_whole", none), "_law_whole", "_law_whole", defArgs s__law_whole, defBody s__law_whole, defScope s__law_whole, [], []⟩
def d__law_row_by : He.DefD := ⟨("_law_row_by", none), "_law_row_by", "_law_row_by", defArgs s__law_row_by, defBody s__law_row_by, defScope s__law_row_by, [], []⟩
def d__law_wishes_by : He.DefD := ⟨("_law_wishes_by", none), "_law_wishes_by", "_law_wishes_by", defArgs s__law_wishes_by, defBody s__law_wishes_by, defScope s__law_wishes_by, [], []⟩
def d__law_points_by : He.DefD := ⟨("_law_points_by", none), "_law_points_by", "_law_points_by", defArgs s__law_points_by, defBody s__law_points_by, defScope s__law_points_by, [], []⟩
def d__law_kind_by : He.DefD := ⟨("_law_kind_by", none), "_law_kind_by", "_law_kind_by", defArgs s__law_kind_by, defBody s__law_kind_by, defScope s__law_kind_by, [], []⟩
def d__law_world : He.DefD := ⟨("_law_world", none), "_law_world", "_law_world", defArgs s__law_world, defBody s__law_world, defScope s__law_world, [], []⟩
def d__law_houses : He.DefD := ⟨("_law_houses", none), "_law_houses", "_law_houses", defArgs s__law_houses, defBody s__law_houses, defScope s__law_houses, [], []⟩
def d__law_ranked : He.DefD := ⟨("_law_ranked", none), "_law_ranked", "_law_ranked", defArgs s__law_ranked, defBody s__law_ranked, defScope s__law_ranked, [], []⟩
def d__law_chosen : He.DefD := ⟨("_law_chosen", none), "_law_chosen", "_law_chosen", defArgs s__law_chosen, defBody s__law_chosen, defScope s__law_chosen, [], []⟩
def d__law_held : He.DefD := ⟨("_law_held", none), "_law_held", "_law_held", defArgs s__law_held, defBody s__law_held, defScope s__law_held, [], []⟩
def d__law_rather : He.DefD := ⟨("_law_rather", none), "_law_rather", "_law_rather", defArgs s__law_rather, defBody s__law_rather, defScope s__law_rather, [], []⟩
def d__law_pairs : He.DefD := ⟨("_law_pairs", none), "_law_pairs", "_law_pairs", defArgs s__law_pairs, defBody s__law_pairs, defScope s__law_pairs, [], []⟩
def d__law_fair : He.DefD := ⟨("_law_fair", none), "_law_fair", "_law_fair", defArgs s__law_fair, defBody s__law_fair, defScope s__law_fair, [], []⟩
def d__law_places_alike : He.DefD := ⟨("_law_places_alike", none), "_law_places_alike", "_law_places_alike", defArgs s__law_places_alike, defBody s__law_places_alike, defScope s__law_places_alike, [], []⟩
def d__law_walked : He.DefD := ⟨("_law_walked", none), "_law_walked", "_law_walked", defArgs s__law_walked, defBody s__law_walked, defScope s__law_walked, [], []⟩
def d__law_year : He.DefD := ⟨("_law_year", none), "_law_year", "_law_year", defArgs s__law_year, defBody s__law_year, defScope s__law_year, [], []⟩
def d__law_none_worse : He.DefD := ⟨("_law_none_worse", none), "_law_none_worse", "_law_none_worse", defArgs s__law_none_worse, defBody s__law_none_worse, defScope s__law_none_worse, [], []⟩
def d_law : He.DefD := ⟨("law", none), "law", "law", defArgs s_law, defBody s_law, defScope s_law, [], []⟩
def d_House___init__ : He.DefD := ⟨("House", some "__init__"), "__init__", "House.__init__", defArgs s_House___init__, defBody s_House___init__, defScope s_House___init__, [], []⟩
def d_House_ranked : He.DefD := ⟨("House", some "ranked"), "ranked", "House.ranked", defArgs s_House_ranked, defBody s_House_ranked, defScope s_House_ranked, [], []⟩
def d_House_chosen : He.DefD := ⟨("House", some "chosen"), "chosen", "House.chosen", defArgs s_House_chosen, defBody s_House_chosen, defScope s_House_chosen, [], []⟩
def d_House_with_more : He.DefD := ⟨("House", some "with_more"), "with_more", "House.with_more", defArgs s_House_with_more, defBody s_House_with_more, defScope s_House_with_more, [], []⟩
def dfs : List He.DefD := [d_held, d_rather, d_both_rather, d_waiting, d_moved, d_gone, d_more, d_asked, d_granted, d__law_cell_at, d__law_whole, d__law_row_by, d__law_wishes_by, d__law_points_by, d__law_kind_by, d__law_world, d__law_houses, d__law_ranked, d__law_chosen, d__law_held, d__law_rather, d__law_pairs, d__law_fair, d__law_places_alike, d__law_walked, d__law_year, d__law_none_worse, d_law, d_House___init__, d_House_ranked, d_House_chosen, d_House_with_more]
def fas : List He.Fa := [.glo "held", .glo "rather", .glo "both_rather", .glo "waiting", .glo "moved", .glo "gone", .glo "more", .glo "asked", .glo "granted", .glo "_law_cell_at", .glo "_law_whole", .glo "_law_row_by", .glo "_law_wishes_by", .glo "_law_points_by", .glo "_law_kind_by", .glo "_law_world", .glo "_law_houses", .glo "_law_ranked", .glo "_law_chosen", .glo "_law_held", .glo "_law_rather", .glo "_law_pairs", .glo "_law_fair", .glo "_law_places_alike", .glo "_law_walked", .glo "_law_year", .glo "_law_none_worse", .glo "law", .free "len", .free "range", .free "list", .free "sorted", .free "isinstance", .free "str", .free "int", .free "min", .free "max", .free "set", .free "tuple", .free "bool", .glo "House", .cls "House", .mkr "House", .noat "House" "seats", .noat "House" "kept", .noat "House" "kind", .noat "House" "opened", .noat "House" "points", .noat "House" "kinds", .noat "House" "row", .meth "House" "ranked", .meth "House" "chosen", .meth "House" "with_more"]
def tfs : List He.Defn := [("House", some "ranked")]
def exs : PySem.W.Frag → Bool := fun _ => true
abbrev Rw : PySem.W.OpenRow := PySem.W.OpenLaw.row PySem.Challenge.rw_choosehall_k13_whole_more_seats
abbrev hk : PySem.W.Hook := He.hookX 7 fas dfs [] tfs exs
def ob (s : PySem.W.SharedT) : He.AlX := He.obsX 7 fas dfs [] tfs exs (HandSHeadRun.getT s)
theorem ob_eq (s : PySem.W.SharedT) : ob s = hk.obs s.abs := He.obsX_eq (HandSHeadRun.getT_eq s)
def lawI : Nat := 34
theorem run (w : World) : HandSHeadRun.RunEq Rw (PySem.W.view Rw.prog [34]) hk ob 2000 ["held", "rather", "both_rather", "waiting", "moved", "gone", "more", "asked", "granted", "House", "_law_cell_at", "_law_whole", "_law_row_by", "_law_wishes_by", "_law_points_by", "_law_kind_by", "_law_world", "_law_houses", "_law_ranked", "_law_chosen", "_law_held", "_law_rather", "_law_pairs", "_law_fair", "_law_places_alike", "_law_walked", "_law_year", "_law_none_worse"] w := by
  intro os
  kernel_rfl
structure Say (g : Gb) (mg : Str → Option Value) : Prop where
  fr : Free mg
  g_held : mg "held" = some (.ref (He.ga g.K "held"))
  g_rather : mg "rather" = some (.ref (He.ga g.K "rather"))
  g_both_rather : mg "both_rather" = some (.ref (He.ga g.K "both_rather"))
  g_waiting : mg "waiting" = some (.ref (He.ga g.K "waiting"))
  g_moved : mg "moved" = some (.ref (He.ga g.K "moved"))
  g_gone : mg "gone" = some (.ref (He.ga g.K "gone"))
  g_more : mg "more" = some (.ref (He.ga g.K "more"))
  g_asked : mg "asked" = some (.ref (He.ga g.K "asked"))
  g_granted : mg "granted" = some (.ref (He.ga g.K "granted"))
  g__law_cell_at : mg "_law_cell_at" = some (.ref (He.ga g.K "_law_cell_at"))
  g__law_whole : mg "_law_whole" = some (.ref (He.ga g.K "_law_whole"))
  g__law_row_by : mg "_law_row_by" = some (.ref (He.ga g.K "_law_row_by"))
  g__law_wishes_by : mg "_law_wishes_by" = some (.ref (He.ga g.K "_law_wishes_by"))
  g__law_points_by : mg "_law_points_by" = some (.ref (He.ga g.K "_law_points_by"))
  g__law_kind_by : mg "_law_kind_by" = some (.ref (He.ga g.K "_law_kind_by"))
  g__law_world : mg "_law_world" = some (.ref (He.ga g.K "_law_world"))
  g__law_houses : mg "_law_houses" = some (.ref (He.ga g.K "_law_houses"))
  g__law_ranked : mg "_law_ranked" = some (.ref (He.ga g.K "_law_ranked"))
  g__law_chosen : mg "_law_chosen" = some (.ref (He.ga g.K "_law_chosen"))
  g__law_held : mg "_law_held" = some (.ref (He.ga g.K "_law_held"))
  g__law_rather : mg "_law_rather" = some (.ref (He.ga g.K "_law_rather"))
  g__law_pairs : mg "_law_pairs" = some (.ref (He.ga g.K "_law_pairs"))
  g__law_fair : mg "_law_fair" = some (.ref (He.ga g.K "_law_fair"))
  g__law_places_alike : mg "_law_places_alike" = some (.ref (He.ga g.K "_law_places_alike"))
  g__law_walked : mg "_law_walked" = some (.ref (He.ga g.K "_law_walked"))
  g__law_year : mg "_law_year" = some (.ref (He.ga g.K "_law_year"))
  g__law_none_worse : mg "_law_none_worse" = some (.ref (He.ga g.K "_law_none_worse"))
  g_law : mg "law" = some (.ref (He.ga g.K "law"))
  f_held : ∃ fd, FnP g.K "held" "held" s_held (He.ga g.K "held") fd
  f_rather : ∃ fd, FnP g.K "rather" "rather" s_rather (He.ga g.K "rather") fd
  f_both_rather : ∃ fd, FnP g.K "both_rather" "both_rather" s_both_rather (He.ga g.K "both_rather") fd
  f_waiting : ∃ fd, FnP g.K "waiting" "waiting" s_waiting (He.ga g.K "waiting") fd
  f_moved : ∃ fd, FnP g.K "moved" "moved" s_moved (He.ga g.K "moved") fd
  f_gone : ∃ fd, FnP g.K "gone" "gone" s_gone (He.ga g.K "gone") fd
  f_more : ∃ fd, FnP g.K "more" "more" s_more (He.ga g.K "more") fd
  f_asked : ∃ fd, FnP g.K "asked" "asked" s_asked (He.ga g.K "asked") fd
  f_granted : ∃ fd, FnP g.K "granted" "granted" s_granted (He.ga g.K "granted") fd
  f__law_cell_at : ∃ fd, FnP g.K "_law_cell_at" "_law_cell_at" s__law_cell_at (He.ga g.K "_law_cell_at") fd
  f__law_whole : ∃ fd, FnP g.K "_law_whole" "_law_whole" s__law_whole (He.ga g.K "_law_whole") fd
  f__law_row_by : ∃ fd, FnP g.K "_law_row_by" "_law_row_by" s__law_row_by (He.ga g.K "_law_row_by") fd
  f__law_wishes_by : ∃ fd, FnP g.K "_law_wishes_by" "_law_wishes_by" s__law_wishes_by (He.ga g.K "_law_wishes_by") fd
  f__law_points_by : ∃ fd, FnP g.K "_law_points_by" "_law_points_by" s__law_points_by (He.ga g.K "_law_points_by") fd
  f__law_kind_by : ∃ fd, FnP g.K "_law_kind_by" "_law_kind_by" s__law_kind_by (He.ga g.K "_law_kind_by") fd
  f__law_world : ∃ fd, FnP g.K "_law_world" "_law_world" s__law_world (He.ga g.K "_law_world") fd
  f__law_houses : ∃ fd, FnP g.K "_law_houses" "_law_houses" s__law_houses (He.ga g.K "_law_houses") fd
  f__law_ranked : ∃ fd, FnP g.K "_law_ranked" "_law_ranked" s__law_ranked (He.ga g.K "_law_ranked") fd
  f__law_chosen : ∃ fd, FnP g.K "_law_chosen" "_law_chosen" s__law_chosen (He.ga g.K "_law_chosen") fd
  f__law_held : ∃ fd, FnP g.K "_law_held" "_law_held" s__law_held (He.ga g.K "_law_held") fd
  f__law_rather : ∃ fd, FnP g.K "_law_rather" "_law_rather" s__law_rather (He.ga g.K "_law_rather") fd
  f__law_pairs : ∃ fd, FnP g.K "_law_pairs" "_law_pairs" s__law_pairs (He.ga g.K "_law_pairs") fd
  f__law_fair : ∃ fd, FnP g.K "_law_fair" "_law_fair" s__law_fair (He.ga g.K "_law_fair") fd
  f__law_places_alike : ∃ fd, FnP g.K "_law_places_alike" "_law_places_alike" s__law_places_alike (He.ga g.K "_law_places_alike") fd
  f__law_walked : ∃ fd, FnP g.K "_law_walked" "_law_walked" s__law_walked (He.ga g.K "_law_walked") fd
  f__law_year : ∃ fd, FnP g.K "_law_year" "_law_year" s__law_year (He.ga g.K "_law_year") fd
  f__law_none_worse : ∃ fd, FnP g.K "_law_none_worse" "_law_none_worse" s__law_none_worse (He.ga g.K "_law_none_worse") fd
  f_law : ∃ fd, FnP g.K "law" "law" s_law (He.ga g.K "law") fd
  g_House : mg "House" = some (.ref g.C)
  cf : ClsF g
  mkH : Mk g.K g.C (He.ma g.K g.C "__init__")
  f_House___init__ : ∃ fd, FnP g.K "__init__" "House.__init__" s_House___init__ (He.ma g.K g.C "__init__") fd
  f_House_ranked : ∃ fd, FnP g.K "ranked" "House.ranked" s_House_ranked (He.ma g.K g.C "ranked") fd ∧ fd.code = .ref (He.cT g.K ("House", some "ranked")).1
  m_ranked : Meth g.K g.C "ranked" (He.ma g.K g.C "ranked")
  f_House_chosen : ∃ fd, FnP g.K "chosen" "House.chosen" s_House_chosen (He.ma g.K g.C "chosen") fd
  m_chosen : Meth g.K g.C "chosen" (He.ma g.K g.C "chosen")
  f_House_with_more : ∃ fd, FnP g.K "with_more" "House.with_more" s_House_with_more (He.ma g.K g.C "with_more") fd
  m_with_more : Meth g.K g.C "with_more" (He.ma g.K g.C "with_more")
abbrev gOf (K : PySem.W.Frag) : Gb := ⟨K, He.ga K "House", [((He.cT K ("House", some "ranked")).2, ("House.ranked" : Str) ++ ".<locals>." ++ "<lambda>")]⟩
theorem say {w : World} {K : PySem.W.Frag} {h : Heap} {mg : Str → Option Value} (X : K.In h) (G : h.Ns mainGlobals mg) (c : He.SaysX fas dfs [] tfs exs w h K) : Say (gOf K) mg := by
  have D := c.t.d
  refine ⟨⟨He.free_ok X G (D.fact 28 (f := .free "len") rfl), He.free_ok X G (D.fact 29 (f := .free "range") rfl), He.free_ok X G (D.fact 30 (f := .free "list") rfl), He.free_ok X G (D.fact 31 (f := .free "sorted") rfl), He.free_ok X G (D.fact 32 (f := .free "isinstance") rfl), He.free_ok X G (D.fact 33 (f := .free "str") rfl), He.free_ok X G (D.fact 34 (f := .free "int") rfl), He.free_ok X G (D.fact 35 (f := .free "min") rfl), He.free_ok X G (D.fact 36 (f := .free "max") rfl), He.free_ok X G (D.fact 37 (f := .free "set") rfl), He.free_ok X G (D.fact 38 (f := .free "tuple") rfl), He.free_ok X G (D.fact 39 (f := .free "bool") rfl)⟩, He.glo_ok X G (D.fact 0 (f := .glo "held") rfl), He.glo_ok X G (D.fact 1 (f := .glo "rather") rfl), He.glo_ok X G (D.fact 2 (f := .glo "both_rather") rfl), He.glo_ok X G (D.fact 3 (f := .glo "waiting") rfl), He.glo_ok X G (D.fact 4 (f := .glo "moved") rfl), He.glo_ok X G (D.fact 5 (f := .glo "gone") rfl), He.glo_ok X G (D.fact 6 (f := .glo "more") rfl), He.glo_ok X G (D.fact 7 (f := .glo "asked") rfl), He.glo_ok X G (D.fact 8 (f := .glo "granted") rfl), He.glo_ok X G (D.fact 9 (f := .glo "_law_cell_at") rfl), He.glo_ok X G (D.fact 10 (f := .glo "_law_whole") rfl), He.glo_ok X G (D.fact 11 (f := .glo "_law_row_by") rfl), He.glo_ok X G (D.fact 12 (f := .glo "_law_wishes_by") rfl), He.glo_ok X G (D.fact 13 (f := .glo "_law_points_by") rfl), He.glo_ok X G (D.fact 14 (f := .glo "_law_kind_by") rfl), He.glo_ok X G (D.fact 15 (f := .glo "_law_world") rfl), He.glo_ok X G (D.fact 16 (f := .glo "_law_houses") rfl), He.glo_ok X G (D.fact 17 (f := .glo "_law_ranked") rfl), He.glo_ok X G (D.fact 18 (f := .glo "_law_chosen") rfl), He.glo_ok X G (D.fact 19 (f := .glo "_law_held") rfl), He.glo_ok X G (D.fact 20 (f := .glo "_law_rather") rfl), He.glo_ok X G (D.fact 21 (f := .glo "_law_pairs") rfl), He.glo_ok X G (D.fact 22 (f := .glo "_law_fair") rfl), He.glo_ok X G (D.fact 23 (f := .glo "_law_places_alike") rfl), He.glo_ok X G (D.fact 24 (f := .glo "_law_walked") rfl), He.glo_ok X G (D.fact 25 (f := .glo "_law_year") rfl), He.glo_ok X G (D.fact 26 (f := .glo "_law_none_worse") rfl), He.glo_ok X G (D.fact 27 (f := .glo "law") rfl), D.def_ 0 (d := d_held) rfl, D.def_ 1 (d := d_rather) rfl, D.def_ 2 (d := d_both_rather) rfl, D.def_ 3 (d := d_waiting) rfl, D.def_ 4 (d := d_moved) rfl, D.def_ 5 (d := d_gone) rfl, D.def_ 6 (d := d_more) rfl, D.def_ 7 (d := d_asked) rfl, D.def_ 8 (d := d_granted) rfl, D.def_ 9 (d := d__law_cell_at) rfl, D.def_ 10 (d := d__law_whole) rfl, D.def_ 11 (d := d__law_row_by) rfl, D.def_ 12 (d := d__law_wishes_by) rfl, D.def_ 13 (d := d__law_points_by) rfl, D.def_ 14 (d := d__law_kind_by) rfl, D.def_ 15 (d := d__law_world) rfl, D.def_ 16 (d := d__law_houses) rfl, D.def_ 17 (d := d__law_ranked) rfl, D.def_ 18 (d := d__law_chosen) rfl, D.def_ 19 (d := d__law_held) rfl, D.def_ 20 (d := d__law_rather) rfl, D.def_ 21 (d := d__law_pairs) rfl, D.def_ 22 (d := d__law_fair) rfl, D.def_ 23 (d := d__law_places_alike) rfl, D.def_ 24 (d := d__law_walked) rfl, D.def_ 25 (d := d__law_year) rfl, D.def_ 26 (d := d__law_none_worse) rfl, D.def_ 27 (d := d_law) rfl, He.glo_ok X G (D.fact 40 (f := .glo "House") rfl), ⟨He.cls_ok (D.fact 41 (f := .cls "House") rfl), He.noat_ok (D.fact 43 (f := .noat "House" "seats") rfl), He.noat_ok (D.fact 44 (f := .noat "House" "kept") rfl), He.noat_ok (D.fact 45 (f := .noat "House" "kind") rfl), He.noat_ok (D.fact 46 (f := .noat "House" "opened") rfl), He.noat_ok (D.fact 47 (f := .noat "House" "points") rfl), He.noat_ok (D.fact 48 (f := .noat "House" "kinds") rfl), He.noat_ok (D.fact 49 (f := .noat "House" "row") rfl)⟩, He.mkr_ok (D.fact 42 (f := .mkr "House") rfl), D.def_ 28 (d := d_House___init__) rfl, ?rk, He.meth_ok (D.fact 50 (f := .meth "House" "ranked") rfl), D.def_ 30 (d := d_House_chosen) rfl, He.meth_ok (D.fact 51 (f := .meth "House" "chosen") rfl), D.def_ 31 (d := d_House_with_more) rfl, He.meth_ok (D.fact 52 (f := .meth "House" "with_more") rfl)⟩
  case rk =>
    obtain ⟨fd, F⟩ := D.def_ 29 (d := d_House_ranked) rfl
    refine ⟨fd, F, ?_⟩
    obtain ⟨oc, od, dV, kV, doc, pm, an, cdv, ct, osl, e, lk, hcd, _, _⟩ := F.ex
    obtain ⟨c1, e1⟩ := He.codeIn_ref hcd
    have e2 : fd.code = .ref c1 := by rw [e, ← e1] <;> rfl
    rw [e2]
    exact congrArg Value.ref (He.codeOf_eq (p := ("House", some "ranked")) lk e2).symm
end CH

/-! Choosehall: the law's promise at a script. -/
namespace CH
open PySem PySem.Spec PyProof.Rows L2
theorem tabs_of {T : List (Addr × Str)} {H : Hp} (hT : ∀ p ∈ T, H p.1 = some (.tbl #[])) : LamX.Tabs T H := fun p hp => by
  refine ⟨#[], hT p hp, ?_, fun pos cv e => ?_⟩
  · first | exact .nil | trivial | (intro _ h; cases h)
  · cases e
theorem prom_scr {K : PySem.W.Frag} {C : Addr} {T : List (Addr × Str)} {H : Hp} {a : Addr} {ns : List Int} (hT : ∀ p ∈ T, H p.1 = some (.tbl #[])) (hS : SqL K H a (ns.map V.int)) : Prom ⟨K, C, T⟩ RLaw [.ref a] H (fun v _ => v = .bl true) (fun _ _ _ => False) := by
  have fin : ∀ F : Hp, Sub F H → Fro F → SqL K F a (ns.map V.int) → Prom ⟨K, C, T⟩ RLaw [.ref a] H (fun v _ => v = .bl true) (fun _ _ _ => False) := fun F s f q =>
    ⟨[.scr ns], .v (.bl true), F, ⟨ns, rfl, rfl⟩, repL_cons (.scr q) repL_nil, ⟨s, f, tabs_of hT⟩, fun v F' H' u r => of_bl r⟩
  rcases hS with (h | ⟨ob, h⟩) | h
  · refine fin (fun b => if b = a then some (.lst (ns.map V.int)) else none) (fun b o e => ?_) (fun b o e => ?_) (.inl (.inl (if_pos rfl)))
    · have e : (if b = a then some _ else none) = some o := e
      by_cases hb : b = a
      · rw [if_pos hb] at e
        rw [hb, h, e]
      · rw [if_neg hb] at e
        cases e
    · have e : (if b = a then some _ else none) = some o := e
      by_cases hb : b = a
      · rw [if_pos hb] at e
        cases e
        exact nt_lst
      · rw [if_neg hb] at e
        cases e
  · refine fin (fun b => if b = a then some (.frz ob (.lst (ns.map V.int))) else none) (fun b o e => ?_) (fun b o e => ?_) (.inl (.inr ⟨ob, if_pos rfl⟩))
    · have e : (if b = a then some _ else none) = some o := e
      by_cases hb : b = a
      · rw [if_pos hb] at e
        rw [hb, h, e]
      · rw [if_neg hb] at e
        cases e
    · have e : (if b = a then some _ else none) = some o := e
      by_cases hb : b = a
      · rw [if_pos hb] at e
        cases e
        exact nt_frz
      · rw [if_neg hb] at e
        cases e
  · exact fin (fun _ => none) (fun _ _ e => by cases e) (fun _ _ e => by cases e) (.inr h)
end CH

namespace CH
open PySem PySem.Spec PyProof.Rows L2
abbrev lawK : Nat := 8
theorem facts {P : Program} {w : World} {K : PySem.W.Frag} {h : Heap} {mg : Str → Option Value} {fa : Addr} (X : K.In h) (G : h.Ns mainGlobals mg) (hfa : mg ("law" : Str) = some (.ref fa)) (c : He.SaysX fas dfs [] tfs exs w h K) :
    ∃ fd : FuncData, (∀ (s : Shared) (v : Value), BindsTo s fd ⟨[v], []⟩ [("script", v)]) ∧ ∀ base : Heap, (LamX.TabB base mg (He.cT K ("House", some "ranked")).1 (He.cT K ("House", some "ranked")).2) → FnOk P w K mg base CX0 lawK fa fd ["script"] (Prom (gOf K) RLaw) := by
  have S := say X G c
  have e := hfa.symm.trans S.g_law
  cases e
  obtain ⟨fd, F⟩ := S.f_law
  have b := FunD.bindsA (ps := ["script"]) F fun _ _ _ _ _ _ us hl => match us, hl with | [_], _ => rfl
  refine ⟨fd, fun s v => b s [v] rfl, fun base TB => ?_⟩
  obtain ⟨_, F1⟩ := S.f__law_cell_at
  obtain ⟨_, F2⟩ := S.f__law_row_by
  obtain ⟨_, F3⟩ := S.f__law_wishes_by
  obtain ⟨_, F4⟩ := S.f__law_points_by
  obtain ⟨_, F5⟩ := S.f__law_kind_by
  obtain ⟨_, F6⟩ := S.f__law_world
  obtain ⟨_, F7⟩ := S.f__law_houses
  obtain ⟨_, F8⟩ := S.f_House___init__
  obtain ⟨_, F9, hc⟩ := S.f_House_ranked
  obtain ⟨_, F10⟩ := S.f_House_chosen
  have CC : Cal P w (gOf K) mg base "_law_cell_at" 1 RCell := c_cell F1 S.g__law_cell_at S.fr
  have CR : Cal P w (gOf K) mg base "_law_row_by" 1 RRow := c_row F2 S.g__law_row_by S.fr
  have CWi := c_wish (P := P) (w := w) (base := base) F3 S.g__law_wishes_by S.fr CR
  have CP : Cal P w (gOf K) mg base "_law_points_by" 1 RPts := c_pts F4 S.g__law_points_by S.fr
  have CK : Cal P w (gOf K) mg base "_law_kind_by" 1 RKind := c_kind F5 S.g__law_kind_by S.fr
  have CW := c_world F6 S.g__law_world S.fr CC CK CP CR CWi
  have CI : HCal P w (gOf K) mg base 1 := c_house F8 S.cf S.fr S.mkH S.g_House
  have CH := c_houses F7 S.g__law_houses S.fr CI
  have CRk : MCal P w (gOf K) mg base "ranked" 3 RRanked := c_ranked F9 hc S.m_ranked S.cf S.fr TB rfl
  have CCh := c_chosen F10 S.m_chosen S.cf S.fr CRk
  obtain ⟨_, GCO⟩ := S.f__law_whole
  have CO : Cal P w (gOf K) mg base "_law_whole" 1 RWhole := c_whole GCO S.g__law_whole S.fr
  obtain ⟨_, GCLR⟩ := S.f__law_ranked
  have CLR : Cal P w (gOf K) mg base "_law_ranked" 1 RLRanked := c_lranked GCLR S.g__law_ranked S.fr
  obtain ⟨_, GCLC⟩ := S.f__law_chosen
  have CLC : Cal P w (gOf K) mg base "_law_chosen" 2 RLChosen := c_lchosen GCLC S.g__law_chosen S.fr CLR
  obtain ⟨_, GCHe⟩ := S.f_held
  have CHe : Cal P w (gOf K) mg base "held" 1 RHeld := c_held GCHe S.g_held S.fr
  obtain ⟨_, GCLH⟩ := S.f__law_held
  have CLH : Cal P w (gOf K) mg base "_law_held" 1 RHeld := c_lheld GCLH S.g__law_held S.fr
  obtain ⟨_, GCRa⟩ := S.f_rather
  have CRa : Cal P w (gOf K) mg base "rather" 1 RRather := c_rather GCRa S.g_rather S.fr
  obtain ⟨_, GCLRa⟩ := S.f__law_rather
  have CLRa : Cal P w (gOf K) mg base "_law_rather" 1 RRather := c_lrather GCLRa S.g__law_rather S.fr
  obtain ⟨_, GCB⟩ := S.f_both_rather
  have CB : Cal P w (gOf K) mg base "both_rather" 5 RBoth := c_both GCB S.g_both_rather S.fr S.cf CHe CRa CCh
  obtain ⟨_, GCLP⟩ := S.f__law_pairs
  have CLP : Cal P w (gOf K) mg base "_law_pairs" 3 RLPairs := c_lpairs GCLP S.g__law_pairs S.fr CLH CLRa CLC
  obtain ⟨_, GCLF⟩ := S.f__law_fair
  have CLF : Cal P w (gOf K) mg base "_law_fair" 4 RLFair := c_lfair GCLF S.g__law_fair S.fr CLH CLC CLP
  obtain ⟨_, GCAs⟩ := S.f_asked
  have CAs : Cal P w (gOf K) mg base "asked" 1 RAsk := c_ask GCAs S.g_asked S.fr
  obtain ⟨_, GCG⟩ := S.f_granted
  have CG : Cal P w (gOf K) mg base "granted" 5 RGranted := c_granted GCG S.g_granted S.fr S.cf CHe CAs CCh
  obtain ⟨_, GCWt⟩ := S.f_waiting
  have CWt : Cal P w (gOf K) mg base "waiting" 4 RWait := c_wait GCWt S.g_waiting S.fr S.cf CRa CRk
  obtain ⟨_, GCM⟩ := S.f_moved
  have CM : Cal P w (gOf K) mg base "moved" 6 RMoved := c_moved GCM S.g_moved S.fr S.cf CB CHe CWt CCh
  obtain ⟨_, GCGn⟩ := S.f_gone
  have CGn : Cal P w (gOf K) mg base "gone" 7 RGone := c_gone GCGn S.g_gone S.fr CM
  obtain ⟨_, GCPA⟩ := S.f__law_places_alike
  have CPA : Cal P w (gOf K) mg base "_law_places_alike" 2 RPlAlike := c_plalike GCPA S.g__law_places_alike S.fr CO
  obtain ⟨_, GCWa⟩ := S.f__law_walked
  have CWa : Cal P w (gOf K) mg base "_law_walked" 4 RWalked := c_walked GCWa S.g__law_walked S.fr CLP CLH CLRa CLR CLC
  obtain ⟨_, GCLY⟩ := S.f__law_year
  have CLY : Cal P w (gOf K) mg base "_law_year" 5 RLYear := c_lyear GCLY S.g__law_year S.fr CWa CPA CLF
  obtain ⟨_, GCNW⟩ := S.f__law_none_worse
  have CNW : Cal P w (gOf K) mg base "_law_none_worse" 2 RNoW := c_noworse GCNW S.g__law_none_worse S.fr CLRa
  obtain ⟨_, GCMo⟩ := S.f_House_with_more
  have CMo : MCal P w (gOf K) mg base "with_more" 3 RMore := c_more GCMo S.m_with_more S.cf S.fr CI
  obtain ⟨_, GCMH⟩ := S.f_more
  have CMH : Cal P w (gOf K) mg base "more" 7 RMoreH := c_moreH GCMH S.g_more S.fr S.cf CMo CM
  exact c_law13 F S.fr S.cf CC CW CH CG CGn CMH CLY CNW
end CH

open PySem PySem.W PySem.Calls PyProof.Rows
theorem PySem.Challenge.cw_choosehall_k13_whole_more_seats_holds : PySem.Challenge.rw_choosehall_k13_whole_more_seats.Holds := by
  w_on; o_law
  refine HandSHeadRun.head_any (r := OpenLaw.row PySem.Challenge.rw_choosehall_k13_whole_more_seats) (q := view (OpenLaw.row PySem.Challenge.rw_choosehall_k13_whole_more_seats).prog [CH.lawI]) (H := CH.hk) (ob := CH.ob) (M := 2000) (loose := ["held", "rather", "both_rather", "waiting", "moved", "gone", "more", "asked", "granted", "House", "_law_cell_at", "_law_whole", "_law_row_by", "_law_wishes_by", "_law_points_by", "_law_kind_by", "_law_world", "_law_houses", "_law_ranked", "_law_chosen", "_law_held", "_law_rather", "_law_pairs", "_law_fair", "_law_places_alike", "_law_walked", "_law_year", "_law_none_worse"]) (d := HandSHeadRun.topDef (OpenLaw.row PySem.Challenge.rw_choosehall_k13_whole_more_seats).prog CH.lawI) (kwd := []) CH.ob_eq
    (by kernel_rfl) (fun s => by kernel_rfl) CH.run (by kernel_rfl) (by kernel_rfl) (by kernel_rfl) (by rfl) (by first | assumption | decide +kernel) (by decide +kernel) ⟨rfl, rfl, rfl, rfl, rfl, by decide +kernel⟩ ?hw ?hc
  case hw => w_witness2
  case hc =>
    refine LamX.walk_ofTsE (l := PySem.Challenge.rw_choosehall_k13_whole_more_seats) (n := 63) (k := CH.lawK) (x := "script") (CX := fun _ => L2.CX0) rfl (by decide) (by kernel_rfl) ⟨rfl, by decide, by decide⟩ ?F (fun _ _ _ _ _ z => z)
    intro w mg fa h Y G hmg0
    obtain ⟨K, KX, c⟩ := Y
    have hmg : mg ("law" : PySem.Str) = some (.ref fa) := by
      have e : (HandSHeadRun.topDef (OpenLaw.row PySem.Challenge.rw_choosehall_k13_whole_more_seats).prog CH.lawI).name = ("law" : PySem.Str) := by kernel_rfl
      rw [← e]
      exact hmg0
    obtain ⟨fd, hb, hF⟩ := CH.facts (P := (PySem.Challenge.rw_choosehall_k13_whole_more_seats).prog) (w := w) KX G hmg c
    have one : ∀ p ∈ [He.cT K ("House", some "ranked")], p = He.cT K ("House", some "ranked") := fun p hp => List.mem_singleton.mp hp
    have mem : (("House", some "ranked") : He.Defn) ∈ CH.tfs := List.mem_singleton.mpr rfl
    refine ⟨K, KX, fd, [He.cT K ("House", some "ranked")], CH.Prom (CH.gOf K) CH.RLaw, fun p hp => ?_, fun p hp => ?_, fun p hp => ?_, hb, fun H a ns hl _ hT hS => ?_, fun base hK hN TB => hF base (TB _ (List.mem_singleton.mpr rfl))⟩
    · rw [one p hp]
      exact c.empty _ mem
    · rw [one p hp]
      exact c.out _ mem
    · rw [one p hp]
      exact PySem.W.codeHd_of_K KX (c.hd _ mem)
    · exact CH.prom_scr (fun p hp => by rw [List.mem_singleton.mp hp]; exact hT _ (List.mem_singleton.mpr rfl)) hS
