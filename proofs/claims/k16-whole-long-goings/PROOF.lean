import PyProof.Rows.All
import Wide.All
import OpenK.AllK
import Wide.FinOn
import HandS.Base
import HandS.Call
import HandS.List
import HandS.Comp
import HandS.Ends
import HandS.Dict
import HandS.Iter
import HandS.Text
import HandS.More
import HandS.Words
import HandS.WordsList
import HandS.WordsDict
import HandS.Walk
import HandS.IsInst
import HandS.Wide
import HandS.Lambda
import HandS.Conv
import HandS.Zip
import HandS.Defaults
import HandS.SortKw
import KE.SortKeyHeap
import HandS.Head0
import HandS.Head1
import HandS.Head2
import HandS.HeadEnd
import HandS.HeadHook4
import HandS.HeadWalk
import HandS.EndTab
import PySem.Challenge.RW_choosehall_k16_whole_long_goings
set_option Elab.async false
set_option maxRecDepth 100000
set_option maxHeartbeats 4000000
set_option linter.all false
/-! Choosehall, the ground: values as plain data, two heaps (what is frozen, what is there), slots of a frame by their data. -/
namespace CH
open PySem L2

theorem nd_by {N : List Str} (h : decide N.Nodup = true) : N.Nodup := of_decide_eq_true h
/-- a house, as plain data -/
structure Hs where
  seats : Int
  kept : Int
  kind : Int
  opened : Bool
  pts : List (Option Int)
  kinds : List Int
  row : List Int
  deriving DecidableEq

/-- plain data: what a value is worth -/
inductive D where
  | non
  | bl (b : Bool)
  | int (i : Int)
  | str (x : Str)
  | lst (l : List D)
  | tup (l : List D)
  | scr (l : List Int)
  | hs (h : Hs)
  | adr (a : Addr)

def D.oi : Option Int → D
  | none => .non
  | some i => .int i
def vOi : Option Int → V
  | none => .non
  | some i => .int i

/-- what the whole walk leans on: the written part, the class House, the tables of code objects -/
structure Gb where
  K : PySem.W.Frag
  C : Addr
  T : List (Addr × Str)

def NT (o : HO) : Prop := ∀ ps, o ≠ .tbl ps
def Sub (F H : Hp) : Prop := ∀ b o, F b = some o → H b = some o
def Fro (F : Hp) : Prop := ∀ b o, F b = some o → NT o
theorem Sub.refl (F : Hp) : Sub F F := fun _ _ h => h
theorem Sub.trans {F G H : Hp} (a : Sub F G) (b : Sub G H) : Sub F H := fun c o h => b c o (a c o h)
theorem Sub.free {F H : Hp} (a : Sub F H) {b : Addr} (h : H b = none) : F b = none := by
  cases e : F b with
  | none => rfl
  | some o =>
    rw [a b o e] at h
    cases h
theorem nt_lst {xs : List V} : NT (.lst xs) := fun _ z => by cases z
theorem nt_tup {xs : List V} : NT (.tup xs) := fun _ z => by cases z
theorem nt_dK {k : List (Key × V)} : NT (.dK k) := fun _ z => by cases z
theorem nt_ins {C d : Addr} {k : List (Str × V)} : NT (.ins C d k) := fun _ z => by cases z
theorem nt_own {C : Addr} : NT (.own C) := fun _ z => by cases z

/-- an instance of House has these attributes, stored in this order -/
def flds (h : Hs) (p q r : Addr) : List (Str × V) :=
  putF "row" (.ref r) (putF "kinds" (.ref q) (putF "points" (.ref p) (putF "opened" (.bl h.opened) (putF "kind" (.int h.kind) (putF "kept" (.int h.kept) (putF "seats" (.int h.seats) []))))))

def HsAt (g : Gb) (F : Hp) (h : Hs) (a : Addr) : Prop := ∃ dx p q r, F a = some (.ins g.C dx (flds h p q r)) ∧
  F p = some (.lst (h.pts.map vOi)) ∧ F q = some (.lst (h.kinds.map V.int)) ∧ F r = some (.lst (h.row.map V.int))

mutual
inductive Rep (g : Gb) (F : Hp) : D → V → Prop where
  | non : Rep g F .non .non
  | bl (b : Bool) : Rep g F (.bl b) (.bl b)
  | int (i : Int) : Rep g F (.int i) (.int i)
  | str (x : Str) : Rep g F (.str x) (.str x)
  | lst {a : Addr} {xs : List V} {ds : List D} : F a = some (.lst xs) → RepL g F ds xs → Rep g F (.lst ds) (.ref a)
  | tup {a : Addr} {xs : List V} {ds : List D} : F a = some (.tup xs) → RepL g F ds xs → Rep g F (.tup ds) (.ref a)
  | scr {a : Addr} {l : List Int} : SqL g.K F a (l.map V.int) → Rep g F (.scr l) (.ref a)
  | hs {a : Addr} {h : Hs} : HsAt g F h a → Rep g F (.hs h) (.ref a)
  | adr (a : Addr) : Rep g F (.adr a) (.ref a)
inductive RepL (g : Gb) (F : Hp) : List D → List V → Prop where
  | nil : RepL g F [] []
  | cons {d : D} {ds : List D} {v : V} {vs : List V} : Rep g F d v → RepL g F ds vs → RepL g F (d :: ds) (v :: vs)
end

section
variable {g : Gb} {F F' H H' : Hp}
theorem HsAt.mono (e : Sub F F') {h : Hs} {a : Addr} : HsAt g F h a → HsAt g F' h a := fun ⟨dx, p, q, r, h1, h2, h3, h4⟩ => ⟨dx, p, q, r, e _ _ h1, e _ _ h2, e _ _ h3, e _ _ h4⟩
theorem sql_mono {K : PySem.W.Frag} (e : Sub F F') {a : Addr} {xs : List V} (h : SqL K F a xs) : SqL K F' a xs := by
  rcases h with (h | ⟨o, h⟩) | h
  · exact .inl (.inl (e _ _ h))
  · exact .inl (.inr ⟨o, e _ _ h⟩)
  · exact .inr h
mutual
theorem Rep.mono (e : Sub F F') : ∀ (d : D) (v : V), Rep g F d v → Rep g F' d v
  | _, _, .non => .non
  | _, _, .bl b => .bl b
  | _, _, .int i => .int i
  | _, _, .str x => .str x
  | _, _, .lst h k => .lst (e _ _ h) (RepL.mono e _ _ k)
  | _, _, .tup h k => .tup (e _ _ h) (RepL.mono e _ _ k)
  | _, _, .scr h => .scr (sql_mono e h)
  | _, _, .hs h => .hs (h.mono e)
  | _, _, .adr a => .adr a
theorem RepL.mono (e : Sub F F') : ∀ (ds : List D) (xs : List V), RepL g F ds xs → RepL g F' ds xs
  | _, _, .nil => .nil
  | _, _, .cons h k => .cons (Rep.mono e _ _ h) (RepL.mono e _ _ k)
end
theorem repL_cons {d : D} {ds : List D} {v : V} {vs : List V} (h : Rep g F d v) (t : RepL g F ds vs) : RepL g F (d :: ds) (v :: vs) := .cons h t
theorem repL_nil : RepL g F [] [] := .nil
theorem RepL.len : ∀ {ds : List D} {xs : List V}, RepL g F ds xs → xs.length = ds.length
  | _, _, .nil => rfl
  | _, _, .cons _ k => by rw [List.length_cons, List.length_cons, RepL.len k]
theorem RepL.get : ∀ {ds : List D} {xs : List V} {i : Nat} {v : V}, RepL g F ds xs → xs[i]? = some v → ∃ d, ds[i]? = some d ∧ Rep g F d v
  | _, _, i, v, .nil, e => by cases e
  | _, _, 0, v, .cons (d := d) (v := w) h k, e => by
    have e' : w = v := Option.some.inj e
    subst e'
    exact ⟨d, rfl, h⟩
  | _, _, i + 1, v, .cons h k, e => RepL.get (i := i) k e
theorem RepL.at_ : ∀ {ds : List D} {xs : List V} {i : Nat} {d : D}, RepL g F ds xs → ds[i]? = some d → ∃ v, xs[i]? = some v ∧ Rep g F d v
  | _, _, i, d, .nil, e => by cases e
  | _, _, 0, d, .cons (d := d') (v := w) h k, e => by
    have e' : d' = d := Option.some.inj e
    subst e'
    exact ⟨w, rfl, h⟩
  | _, _, i + 1, d, .cons h k, e => RepL.at_ (i := i) k e
theorem RepL.app : ∀ {ds es : List D} {xs ys : List V}, RepL g F ds xs → RepL g F es ys → RepL g F (ds ++ es) (xs ++ ys)
  | _, _, _, _, .nil, k => k
  | _, _, _, _, .cons h t, k => .cons h (RepL.app t k)
theorem RepL.take : ∀ {ds : List D} {xs : List V} (n : Nat), RepL g F ds xs → RepL g F (ds.take n) (xs.take n)
  | _, _, 0, _ => .nil
  | _, _, _ + 1, .nil => .nil
  | _, _, n + 1, .cons h t => .cons h (RepL.take n t)
theorem RepL.drop : ∀ {ds : List D} {xs : List V} (n : Nat), RepL g F ds xs → RepL g F (ds.drop n) (xs.drop n)
  | _, _, 0, h => h
  | _, _, _ + 1, .nil => .nil
  | _, _, n + 1, .cons h t => RepL.drop n t
theorem RepL.set : ∀ {ds : List D} {xs : List V} {d : D} {v : V} (i : Nat), RepL g F ds xs → Rep g F d v → RepL g F (ds.set i d) (xs.set i v)
  | _, _, _, _, _, .nil, _ => .nil
  | _, _, _, _, 0, .cons h t, k => .cons k t
  | _, _, _, _, i + 1, .cons h t, k => .cons h (RepL.set i t k)
theorem RepL.rev : ∀ {ds : List D} {xs : List V}, RepL g F ds xs → RepL g F ds.reverse xs.reverse
  | _, _, .nil => .nil
  | _, _, .cons h t => by
    rw [List.reverse_cons, List.reverse_cons]
    exact RepL.app (RepL.rev t) (.cons h .nil)
theorem RepL.erase : ∀ {ds : List D} {xs : List V} (i : Nat), RepL g F ds xs → RepL g F (ds.eraseIdx i) (xs.eraseIdx i)
  | _, _, _, .nil => .nil
  | _, _, 0, .cons h t => t
  | _, _, i + 1, .cons h t => .cons h (RepL.erase i t)
theorem RepL.rep {ds : List D} {xs : List V} (h : RepL g F ds xs) : ∀ k : Nat, RepL g F (List.replicate k ds).flatten (List.replicate k xs).flatten
  | 0 => .nil
  | k + 1 => by
    rw [List.replicate_succ, List.replicate_succ, List.flatten_cons, List.flatten_cons]
    exact RepL.app h (RepL.rep h k)
/-- of one kind -/
theorem repL_map {α : Type} (f : α → D) (k : α → V) (h : ∀ a, Rep g F (f a) (k a)) : ∀ l : List α, RepL g F (l.map f) (l.map k)
  | [] => .nil
  | a :: l => .cons (h a) (repL_map f k h l)
theorem repL_inv {d : D} {ds : List D} {xs : List V} (h : RepL g F (d :: ds) xs) : ∃ v vs, xs = v :: vs ∧ Rep g F d v ∧ RepL g F ds vs := by
  cases h with
  | cons h t => exact ⟨_, _, rfl, h, t⟩
theorem repL_inv0 {xs : List V} (h : RepL g F [] xs) : xs = [] := by
  cases h
  rfl
theorem repL_of {α : Type} (f : α → D) (k : α → V) (h : ∀ a v, Rep g F (f a) v → v = k a) : ∀ {l : List α} {xs : List V}, RepL g F (l.map f) xs → xs = l.map k
  | [], xs, e => repL_inv0 e
  | a :: l, xs, e => by
    obtain ⟨v, vs, h1, h2, h3⟩ := repL_inv e
    rw [h1, h a v h2, repL_of f k h h3] <;> rfl
theorem rep_int (i : Int) : Rep g F (.int i) (.int i) := .int i
theorem rep_bl (i : Bool) : Rep g F (.bl i) (.bl i) := .bl i
theorem rep_str (i : Str) : Rep g F (.str i) (.str i) := .str i
theorem rep_non : Rep g F .non .non := .non
theorem rep_oi (i : Option Int) : Rep g F (D.oi i) (vOi i) := by
  cases i with
  | none => exact .non
  | some i => exact .int i
theorem of_int {i : Int} {v : V} (h : Rep g F (.int i) v) : v = .int i := by cases h; rfl
theorem of_bl {i : Bool} {v : V} (h : Rep g F (.bl i) v) : v = .bl i := by cases h; rfl
theorem of_str {i : Str} {v : V} (h : Rep g F (.str i) v) : v = .str i := by cases h; rfl
theorem of_non {v : V} (h : Rep g F .non v) : v = .non := by cases h; rfl
theorem of_oi {i : Option Int} {v : V} (h : Rep g F (D.oi i) v) : v = vOi i := by
  cases i with
  | none => exact of_non h
  | some i => exact of_int h
theorem of_lst {ds : List D} {v : V} (h : Rep g F (.lst ds) v) : ∃ a xs, v = .ref a ∧ F a = some (.lst xs) ∧ RepL g F ds xs := by
  cases h with
  | lst h k => exact ⟨_, _, rfl, h, k⟩
theorem of_tup {ds : List D} {v : V} (h : Rep g F (.tup ds) v) : ∃ a xs, v = .ref a ∧ F a = some (.tup xs) ∧ RepL g F ds xs := by
  cases h with
  | tup h k => exact ⟨_, _, rfl, h, k⟩
theorem of_hs {x : Hs} {v : V} (h : Rep g F (.hs x) v) : ∃ a, v = .ref a ∧ HsAt g F x a := by
  cases h with
  | hs h => exact ⟨_, rfl, h⟩
theorem of_scr {x : List Int} {v : V} (h : Rep g F (.scr x) v) : ∃ a, v = .ref a ∧ SqL g.K F a (x.map V.int) := by
  cases h with
  | scr h => exact ⟨_, rfl, h⟩
theorem rep_lst {ds : List D} {a : Addr} {xs : List V} (h : F a = some (.lst xs)) (k : RepL g F ds xs) : Rep g F (.lst ds) (.ref a) := .lst h k
theorem rep_tup {ds : List D} {a : Addr} {xs : List V} (h : F a = some (.tup xs)) (k : RepL g F ds xs) : Rep g F (.tup ds) (.ref a) := .tup h k
end

/-! ### how the two heaps go on -/
structure Fit (g : Gb) (F H : Hp) : Prop where
  low : Sub F H
  nt : Fro F
  tab : LamX.Tabs g.T H
/-- from the frozen F within H to F' within H': nothing that was there has changed (but the tables), what is frozen anew is new -/
structure Up (g : Gb) (F H F' H' : Hp) : Prop where
  ext : LamX.ExtN H H'
  sub : Sub F F'
  grow : ∀ b o, H b = some o → NT o → F b = none → F' b = none
  fit : Fit g F' H'
theorem Up.refl {g : Gb} {F H : Hp} (h : Fit g F H) : Up g F H F H := ⟨LamX.ExtN.refl H, Sub.refl F, fun _ _ _ _ h => h, h⟩
theorem Up.trans {g : Gb} {F H F1 H1 F2 H2 : Hp} (a : Up g F H F1 H1) (b : Up g F1 H1 F2 H2) : Up g F H F2 H2 :=
  ⟨a.ext.trans b.ext, a.sub.trans b.sub, fun c o h n f => b.grow c o (a.ext c o h n) n (a.grow c o h n f), b.fit⟩
/-- nothing but a table may have stood there -/
def Fresh (H : Hp) (l : Addr) : Prop := ∀ o, H l = some o → ¬ NT o
theorem Fresh.of {H : Hp} {l : Addr} (h : H l = none) : Fresh H l := fun o e => by
  rw [h] at e
  cases e
theorem Fresh.back {H H1 : Hp} {l : Addr} (e : LamX.ExtN H H1) (h : Fresh H1 l) : Fresh H l := fun o q n => h o (e l o q n) n
theorem Fresh.low {g : Gb} {F H : Hp} {l : Addr} (f : Fit g F H) (h : Fresh H l) : F l = none := by
  cases e : F l with
  | none => rfl
  | some o => exact absurd (f.nt l o e) (h o (f.low l o e))
theorem Fresh.ne {H : Hp} {l a : Addr} {o : HO} (h : Fresh H l) (e : H a = some o) (n : NT o) : a ≠ l := fun z => by
  rw [z] at e
  exact h o e n
theorem tabs_ext {T : List (Addr × Str)} {H H' : Hp} (t : LamX.Tabs T H) (e : Sub H H') : LamX.Tabs T H' := t.ext e
/-- one object more, not frozen -/
theorem up_new {g : Gb} {F H : Hp} (f : Fit g F H) {p : Addr} {o : HO} (hp : H p = none) : Up g F H F (upd H p o) := by
  have s : Sub H (upd H p o) := fun b u e => by
    rw [upd_ne (ne_of_none e hp)]
    exact e
  exact ⟨LamX.ExtN.of s, Sub.refl F, fun _ _ _ _ h => h, ⟨f.low.trans s, f.nt, f.tab.ext s⟩⟩
/-- one object more, frozen -/
theorem up_newF {g : Gb} {F H : Hp} (f : Fit g F H) {p : Addr} {o : HO} (hp : H p = none) (n : NT o) : Up g F H (upd F p o) (upd H p o) := by
  have fp : F p = none := f.low.free hp
  have s : Sub H (upd H p o) := fun b u e => by
    rw [upd_ne (ne_of_none e hp)]
    exact e
  refine ⟨LamX.ExtN.of s, fun b u e => ?_, fun b u e _ h => ?_, ⟨fun b u e => ?_, fun b u e => ?_, f.tab.ext s⟩⟩
  · rw [upd_ne (ne_of_none e fp)]
    exact e
  · rw [upd_ne (ne_of_none e hp)]
    exact h
  · by_cases hb : b = p
    · subst hb
      rw [upd_same] at e ⊢
      exact e
    · rw [upd_ne hb] at e ⊢
      exact f.low b u e
  · by_cases hb : b = p
    · subst hb
      rw [upd_same] at e
      cases e
      exact n
    · rw [upd_ne hb] at e
      exact f.nt b u e
/-- what stands in H, and was not frozen, is frozen from now on -/
theorem fit_frz {g : Gb} {F H : Hp} (f : Fit g F H) {p : Addr} {o : HO} (hp : H p = some o) (n : NT o) : Fit g (upd F p o) H := by
  refine ⟨fun b u e => ?_, fun b u e => ?_, f.tab⟩
  · by_cases hb : b = p
    · subst hb
      rw [upd_same] at e
      rw [hp]
      exact e
    · rw [upd_ne hb] at e
      exact f.low b u e
  · by_cases hb : b = p
    · subst hb
      rw [upd_same] at e
      cases e
      exact n
    · rw [upd_ne hb] at e
      exact f.nt b u e
theorem sub_upd {F : Hp} {p : Addr} {o : HO} (h : F p = none) : Sub F (upd F p o) := fun b u e => by
  rw [upd_ne (ne_of_none e h)]
  exact e

/-! ### slots -/
/-- what a slot of the frame holds: nothing known; a frozen value; a list that is the frame's own; a dict that is its own -/
inductive Sl where
  | un
  | v (d : D)
  | m (ds : List D)
  | dc (kvs : List (Int × V))
  | nw (d : D)
  | pr (pre : List D) (ds : List D)

def Sl.owned : Sl → Bool
  | .m _ => true
  | .dc _ => true
  | .pr _ _ => true
  | _ => false

def dkv (kvs : List (Int × V)) : List (Key × V) := kvs.map fun p => (Sum.inl p.1, p.2)

def SlotOk (g : Gb) (F H : Hp) (a : Addr) : Sl → Option V → Prop
  | .un, _ => True
  | .v d, o => ∃ v, o = some v ∧ Rep g F d v
  | .m ds, o => o = some (.ref a) ∧ F a = none ∧ ∃ xs, H a = some (.lst xs) ∧ RepL g F ds xs
  | .dc kvs, o => o = some (.ref a) ∧ F a = none ∧ H a = some (.dK (dkv kvs))
  | .nw d, o => ∃ v, o = some v ∧ Rep g F d v
  | .pr pre ds, o => ∃ p vs, o = some (.ref p) ∧ F p = some (.lst (vs ++ [.ref a])) ∧ RepL g F pre vs ∧ F a = none ∧ ∃ xs, H a = some (.lst xs) ∧ RepL g F ds xs

structure Ok (g : Gb) (G : List Sl) (F H : Hp) (σ : St) (ow : Nat → Addr) : Prop where
  fit : Fit g F H
  len : σ.length = G.length
  at_ : ∀ i s, G[i]? = some s → ∃ o, σ[i]? = some o ∧ SlotOk g F H (ow i) s o
  inj : ∀ i j s t, G[i]? = some s → G[j]? = some t → s.owned = true → t.owned = true → ow i = ow j → i = j

section
variable {g : Gb} {G : List Sl} {F F' H H' : Hp} {σ : St} {ow : Nat → Addr}
theorem SlotOk.own {a : Addr} {s : Sl} {o : Option V} (h : SlotOk g F H a s o) (w : s.owned = true) : F a = none ∧ ∃ u, H a = some u ∧ NT u := by
  cases s with
  | un => cases w
  | v d => cases w
  | m ds =>
    obtain ⟨_, h2, xs, h3, _⟩ := h
    exact ⟨h2, _, h3, nt_lst⟩
  | dc kvs =>
    obtain ⟨_, h2, h3⟩ := h
    exact ⟨h2, _, h3, nt_dK⟩
  | nw d => cases w
  | pr pre ds =>
    obtain ⟨p, vs, _, _, _, h2, xs, h3, _⟩ := h
    exact ⟨h2, _, h3, nt_lst⟩
theorem SlotOk.up {a : Addr} {s : Sl} {o : Option V} (u : Up g F H F' H') (h : SlotOk g F H a s o) : SlotOk g F' H' a s o := by
  cases s with
  | un => exact True.intro
  | v d =>
    obtain ⟨v, h1, h2⟩ := h
    exact ⟨v, h1, Rep.mono u.sub _ _ h2⟩
  | m ds =>
    obtain ⟨h1, h2, xs, h3, h4⟩ := h
    exact ⟨h1, u.grow _ _ h3 nt_lst h2, xs, u.ext _ _ h3 nt_lst, RepL.mono u.sub _ _ h4⟩
  | dc kvs =>
    obtain ⟨h1, h2, h3⟩ := h
    exact ⟨h1, u.grow _ _ h3 nt_dK h2, u.ext _ _ h3 nt_dK⟩
  | nw d =>
    obtain ⟨v, h1, h2⟩ := h
    exact ⟨v, h1, Rep.mono u.sub _ _ h2⟩
  | pr pre ds =>
    obtain ⟨p, vs, h1, h2, h3, h4, xs, h5, h6⟩ := h
    exact ⟨p, vs, h1, u.sub _ _ h2, RepL.mono u.sub _ _ h3, u.grow _ _ h5 nt_lst h4, xs, u.ext _ _ h5 nt_lst, RepL.mono u.sub _ _ h6⟩
theorem Ok.up (k : Ok g G F H σ ow) (u : Up g F H F' H') : Ok g G F' H' σ ow :=
  ⟨u.fit, k.len, fun i s e => by
    obtain ⟨o, h1, h2⟩ := k.at_ i s e
    exact ⟨o, h1, h2.up u⟩, k.inj⟩
/-- an address that is fresh at H is no slot's own -/
theorem Ok.apart (k : Ok g G F H σ ow) {l : Addr} (f : Fresh H l) {i : Nat} {s : Sl} (e : G[i]? = some s) (w : s.owned = true) : ow i ≠ l := by
  obtain ⟨o, _, h2⟩ := k.at_ i s e
  obtain ⟨_, u, h3, n⟩ := h2.own w
  exact f.ne h3 n
end

open Classical in
/-- of what is frozen: what has come since H, and the tuples -/
noncomputable def newp (H F : Hp) : Hp := fun b => if Fresh H b ∨ ∃ xs, F b = some (.tup xs) then F b else none
theorem newp_sub {H F : Hp} : Sub (newp H F) F := fun b o e => by
  unfold newp at e
  split at e
  · exact e
  · cases e
theorem newp_tup {H F : Hp} (b : Addr) (xs : List V) (e : F b = some (.tup xs)) : newp H F b = some (.tup xs) := by
  unfold newp
  rw [if_pos (Or.inr ⟨xs, e⟩)]
  exact e
theorem newp_back {H H1 F : Hp} (e : LamX.ExtN H H1) : Sub (newp H1 F) (newp H F) := fun b o q => by
  have q1 := newp_sub b o q
  unfold newp at q ⊢
  split at q
  · rename_i z
    rcases z with z | z
    · rw [if_pos (Or.inl (Fresh.back e z))]
      exact q
    · rw [if_pos (Or.inr z)]
      exact q
  · cases q
/-- a value that comes: what it is worth, and where it lies -/
def RtOk (g : Gb) (F H H' : Hp) : Sl → V → Prop
  | .un, _ => True
  | .v d, v => Rep g F d v
  | .m ds, v => ∃ l xs, v = .ref l ∧ Fresh H l ∧ H' l = some (.lst xs) ∧ F l = none ∧ RepL g F ds xs
  | .dc kvs, v => ∃ l, v = .ref l ∧ Fresh H l ∧ H' l = some (.dK (dkv kvs)) ∧ F l = none
  | .nw d, v => Rep g (newp H F) d v
  | .pr pre ds, v => ∃ p vs a xs, v = .ref p ∧ F p = some (.lst (vs ++ [.ref a])) ∧ RepL g F pre vs ∧ Fresh H a ∧ H' a = some (.lst xs) ∧ F a = none ∧ RepL g F ds xs
theorem RtOk.back {g : Gb} {F H H1 H' : Hp} {r : Sl} {v : V} (e : LamX.ExtN H H1) (h : RtOk g F H1 H' r v) : RtOk g F H H' r v := by
  cases r with
  | un => exact True.intro
  | v d => exact h
  | m ds =>
    obtain ⟨l, xs, h1, h2, h3⟩ := h
    exact ⟨l, xs, h1, h2.back e, h3⟩
  | dc kvs =>
    obtain ⟨l, h1, h2, h3⟩ := h
    exact ⟨l, h1, h2.back e, h3⟩
  | nw d => exact Rep.mono (newp_back e) _ _ h
  | pr pre ds =>
    obtain ⟨p, vs, a, xs, h1, h2, h3, h4, h5⟩ := h
    exact ⟨p, vs, a, xs, h1, h2, h3, h4.back e, h5⟩
end CH

/-! Choosehall, the judgements: what an expression is worth, from the data of the frame's slots. -/
namespace CH
open PySem L2

def WE (X : Cx) (e : Expr) : TE := fun σ H Q => ∀ pins s, Inv X pins σ H s → wpAny (model X.prog X.w) X.A (eval e X.env) (EP X pins σ Q) X.xe s
def WT (X : Cx) (e : Expr) : TT := fun σ H Q => ∀ pins s, Inv X pins σ H s → wpAny (model X.prog X.w) X.A (isTrue e X.env (eval e X.env)) (TP X pins σ Q) X.xe s
def WA (X : Cx) (es : List Expr) : TA := fun σ H Q => ∀ pos pins s, Inv X pins σ H s → wpAny (model X.prog X.w) X.A (spliced (backTo pos (starEach es X.env))) (AP X pins σ Q) X.xe s
def WO (X : Cx) (e : Option Expr) : TO := match e with
  | none => tNoPart
  | some e => tPart (WE X e)
theorem pe_we {X : Cx} {e : Expr} : PE X e (WE X e) := ⟨fun pins s _ _ _ I h => h pins s I⟩
theorem pt_wt {X : Cx} {e : Expr} : PT X e (WT X e) := ⟨fun pins s _ _ _ I h => h pins s I⟩
theorem pa_wa {X : Cx} {es : List Expr} : PA X es (WA X es) := ⟨fun pos pins s _ _ _ I h => h pos pins s I⟩
theorem po_wo {X : Cx} {e : Option Expr} : PO X e (WO X e) := by
  cases e with
  | none => exact po_none
  | some e => exact po_some pe_we
theorem we_of {X : Cx} {e : Expr} {t : TE} (h : PE X e t) {σ : St} {H : Hp} {Q : VK} (q : t σ H Q) : WE X e σ H Q := fun pins s I => h.run pins s σ H Q I q
theorem wt_of {X : Cx} {e : Expr} {t : TT} (h : PT X e t) {σ : St} {H : Hp} {Q : Bool → Hp → Prop} (q : t σ H Q) : WT X e σ H Q := fun pins s I => h.run pins s σ H Q I q
theorem wa_of {X : Cx} {es : List Expr} {t : TA} (h : PA X es t) {σ : St} {H : Hp} {Q : List V → Hp → Prop} (q : t σ H Q) : WA X es σ H Q := fun pos pins s I => h.run pos pins s σ H Q I q

/-- with the slots' data G, e gives r -/
def Ev (g : Gb) (X : Cx) (G : List Sl) (e : Expr) (r : Sl) : Prop := ∀ F H σ ow, Ok g G F H σ ow → ∀ Q : VK, (∀ v F' H', Up g F H F' H' → RtOk g F' H H' r v → Q v H') → WE X e σ H Q
def EvT (g : Gb) (X : Cx) (G : List Sl) (e : Expr) (b : Bool) : Prop := ∀ F H σ ow, Ok g G F H σ ow → ∀ Q : Bool → Hp → Prop, (∀ F' H', Up g F H F' H' → Q b H') → WT X e σ H Q
def EvA (g : Gb) (X : Cx) (G : List Sl) (es : List Expr) (ds : List D) : Prop := ∀ F H σ ow, Ok g G F H σ ow → ∀ Q : List V → Hp → Prop, (∀ vs F' H', Up g F H F' H' → RepL g F' ds vs → Q vs H') → WA X es σ H Q
def EvO (g : Gb) (X : Cx) (G : List Sl) (e : Option Expr) (o : Option Int) : Prop := ∀ F H σ ow, Ok g G F H σ ow → ∀ Q : Option Int → Hp → Prop, (∀ F' H', Up g F H F' H' → Q o H') → WO X e σ H Q
abbrev EvD (g : Gb) (X : Cx) (G : List Sl) (e : Expr) (d : D) : Prop := Ev g X G e (.v d)

section
variable {g : Gb} {X : Cx} {G : List Sl} {a b c e : Expr} {es : List Expr} {pos p apos : Pos}
theorem Ev.is {r r' : Sl} (h : Ev g X G e r) (q : r = r') : Ev g X G e r' := q ▸ h
theorem EvT.is {r r' : Bool} (h : EvT g X G e r) (q : r = r') : EvT g X G e r' := q ▸ h
/-- a new list, frozen at once -/
theorem Ev.fz {ds : List D} (h : Ev g X G e (.m ds)) : EvD g X G e (.lst ds) := by
  intro F H σ ow k Q q
  refine h F H σ ow k Q fun v F1 H1 u r => ?_
  obtain ⟨l, xs, rfl, hf, h1, h2, h3⟩ := r
  refine q _ (upd F1 l (.lst xs)) H1 ⟨u.ext, u.sub.trans (sub_upd h2), fun b o e n f => ?_, fit_frz u.fit h1 nt_lst⟩ (rep_lst upd_same (RepL.mono (sub_upd h2) _ _ h3))
  rw [upd_ne (hf.ne e n)]
  exact u.grow b o e n f

theorem ev_var (i : Nat) {x : Str} {d : D} (hG : G[i]? = some (.v d) := by rfl) (hN : X.N[i]? = some x := by rfl) (hv : Vis X.env.scope x := by first | exact Or.inl rfl | exact Or.inr (Or.inl rfl) | exact Or.inr (Or.inr rfl))
    (hd : (x == ("__debug__" : Str)) = false := by decide) (hcd : (x == ("__classdict__" : Str)) = false := by decide) : EvD g X G (.Name x pos) d := by
  intro F H σ ow k Q q
  obtain ⟨o, h1, v, h2, h3⟩ := k.at_ i _ hG
  refine we_of (pe_var hN hv hd hcd) ⟨v, by rw [h1, h2], q v F H (Up.refl k.fit) h3⟩
theorem ev_glob {x : Str} {d : D} {v : V} {u : Value} (hg : Gl X x) (hm : X.mg x = some u) (r : RelV v u) (hd : ∀ F, Rep g F d v) (hdb : (x == ("__debug__" : Str)) = false := by decide) : EvD g X G (.Name x pos) d := by
  intro F H σ ow k Q q
  exact we_of (pe_glob hg hm r hdb) (q v F H (Up.refl k.fit) (hd F))
theorem ev_int {i : Int} {j} : EvD g X G (.Constant (.int i) j pos) (.int i) := fun F H σ ow k Q q => we_of pe_int (q _ F H (Up.refl k.fit) (rep_int i))
theorem ev_true {j} : EvD g X G (.Constant (.bool true) j pos) (.bl true) := fun F H σ ow k Q q => we_of pe_bl (q _ F H (Up.refl k.fit) (rep_bl _))
theorem ev_false {j} : EvD g X G (.Constant (.bool false) j pos) (.bl false) := fun F H σ ow k Q q => we_of pe_bl (q _ F H (Up.refl k.fit) (rep_bl _))
theorem ev_non {j} : EvD g X G (.Constant .none j pos) .non := fun F H σ ow k Q q => we_of pe_non (q _ F H (Up.refl k.fit) rep_non)
theorem ev_str {x : Str} {j} : EvD g X G (.Constant (.str x) j pos) (.str x) := fun F H σ ow k Q q => we_of pe_str (q _ F H (Up.refl k.fit) (rep_str x))

/-! ### operators -/
def BinOk (g : Gb) (X : Cx) (op : Operator) (d1 d2 : D) (r : Sl) : Prop := ∃ rr : R2, OpR X (binaryOp op) rr ∧ ∀ F H v1 v2, Fit g F H → Rep g F d1 v1 → Rep g F d2 v2 → ∀ Q : VK, (∀ v F' H', Up g F H F' H' → RtOk g F' H H' r v → Q v H') → rr v1 v2 H Q
theorem ev_bin {op : Operator} {d1 d2 : D} {r : Sl} (ha : EvD g X G a d1) (hb : EvD g X G b d2) (h : BinOk g X op d1 d2 r) : Ev g X G (.BinOp a op b pos) r := by
  intro F H σ ow k Q q
  obtain ⟨rr, ho, hr⟩ := h
  refine we_of (pe_op ho pe_we pe_we) ?_
  refine ha F H σ ow k _ fun v1 F1 H1 u1 r1 => ?_
  refine hb F1 H1 σ ow (k.up u1) _ fun v2 F2 H2 u2 r2 => ?_
  exact hr F2 H2 v1 v2 u2.fit (Rep.mono u2.sub _ _ r1) r2 Q fun v F3 H3 u3 r3 => q v F3 H3 ((u1.trans u2).trans u3) (r3.back (u1.trans u2).ext)
theorem ev_neg {i : Int} (ha : EvD g X G a (.int i)) : EvD g X G (.UnaryOp .USub a pos) (.int (-i)) := by
  intro F H σ ow k Q q
  refine we_of (pe_un un_neg pe_we) ?_
  refine ha F H σ ow k _ fun v1 F1 H1 u1 r1 => ?_
  exact ⟨i, of_int r1, q _ F1 H1 u1 (rep_int _)⟩
theorem bin_int {op : Operator} {f : Int → Int → Int} {C : Int → Int → Prop} {i j : Int} (ho : OpR X (binaryOp op) (rI C fun i j => .int (f i j))) (hc : C i j) : BinOk g X op (.int i) (.int j) (.v (.int (f i j))) :=
  ⟨_, ho, fun F H v1 v2 hf h1 h2 Q q => ⟨i, j, of_int h1, of_int h2, hc, q _ F H (Up.refl hf) (rep_int _)⟩⟩
theorem bin_int0 {op : Operator} {f : Int → Int → Int} {i j : Int} (ho : OpR X (binaryOp op) (rI0 fun i j => .int (f i j))) : BinOk g X op (.int i) (.int j) (.v (.int (f i j))) :=
  ⟨_, ho, fun F H v1 v2 hf h1 h2 Q q => ⟨i, j, of_int h1, of_int h2, q _ F H (Up.refl hf) (rep_int _)⟩⟩
theorem bin_add {i j : Int} : BinOk g X .Add (.int i) (.int j) (.v (.int (i + j))) := bin_int0 op_add
theorem bin_sub {i j : Int} : BinOk g X .Sub (.int i) (.int j) (.v (.int (i - j))) := bin_int0 op_sub
theorem bin_mod {i j : Int} (h : 0 < j) : BinOk g X .Mod (.int i) (.int j) (.v (.int (i % j))) := bin_int op_mod h
theorem bin_div {i j : Int} (h : 0 < j ∧ j < 1073741824) : BinOk g X .FloorDiv (.int i) (.int j) (.v (.int (i / j))) := bin_int op_fdiv h
theorem bin_mul {i j : Int} (h : (-(2 ^ 64) < i ∧ i < 2 ^ 64) ∨ (-(2 ^ 64) < j ∧ j < 2 ^ 64)) : BinOk g X .Mult (.int i) (.int j) (.v (.int (i * j))) := bin_int op_mul h
theorem bin_adds {x y : Str} (h : x.length + y.length ≤ sizeLine) : BinOk g X .Add (.str x) (.str y) (.v (.str (x ++ y))) :=
  ⟨_, op_add_str, fun F H v1 v2 hf h1 h2 Q q => ⟨x, y, of_str h1, of_str h2, h, q _ F H (Up.refl hf) (rep_str _)⟩⟩
/-- a new list, by its rule -/
theorem rt_new {F H : Hp} {ds : List D} {xs : List V} (hf : Fit g F H) (h : RepL g F ds xs) {Q : VK} (q : ∀ v F' H', Up g F H F' H' → RtOk g F' H H' (.m ds) v → Q v H') {p : Addr} (hp : H p = none) : Q (.ref p) (upd H p (.lst xs)) :=
  q _ F _ (up_new hf hp) ⟨p, xs, rfl, Fresh.of hp, upd_same, hf.low.free hp, h⟩
theorem rt_newT {F H : Hp} {ds : List D} {xs : List V} (hf : Fit g F H) (h : RepL g F ds xs) {Q : VK} (q : ∀ v F' H', Up g F H F' H' → RtOk g F' H H' (.v (.tup ds)) v → Q v H') {p : Addr} (hp : H p = none) : Q (.ref p) (upd H p (.tup xs)) :=
  q _ (upd F p (.tup xs)) _ (up_newF hf hp nt_tup) (rep_tup upd_same (RepL.mono (sub_upd (hf.low.free hp)) _ _ h))
theorem bin_cat {ds es : List D} (h : ds.length + es.length ≤ 100000) : BinOk g X .Add (.lst ds) (.lst es) (.m (ds ++ es)) :=
  ⟨_, op_cat, fun F H v1 v2 hf h1 h2 Q q => by
    obtain ⟨l, xs, e1, f1, r1⟩ := of_lst h1
    obtain ⟨m, ys, e2, f2, r2⟩ := of_lst h2
    refine ⟨l, m, xs, ys, e1, e2, hf.low _ _ f1, hf.low _ _ f2, ?_, fun p hp => rt_new hf (r1.app r2) q hp⟩
    rw [r1.len, r2.len]
    exact Nat.le_trans h (by decide)⟩
theorem bin_rep {ds : List D} {k : Int} (h : k ≤ 100000 ∧ -100000 ≤ k) (hl : ds.length * k.toNat ≤ 100000) : BinOk g X .Mult (.lst ds) (.int k) (.m (List.replicate k.toNat ds).flatten) :=
  ⟨_, op_rep, fun F H v1 v2 hf h1 h2 Q q => by
    obtain ⟨l, xs, e1, f1, r1⟩ := of_lst h1
    refine ⟨l, k, xs, e1, of_int h2, hf.low _ _ f1, by omega, by omega, ?_, fun p hp => rt_new hf (r1.rep _) q hp⟩
    rw [r1.len]
    exact Nat.le_trans hl (by decide)⟩
theorem bin_catT {ds es : List D} (h0 : ds ≠ []) (h1 : es ≠ []) (h : ds.length + es.length ≤ 100000) : BinOk g X .Add (.tup ds) (.tup es) (.v (.tup (ds ++ es))) :=
  ⟨_, op_catT, fun F H v1 v2 hf h3 h2 Q q => by
    obtain ⟨l, xs, e1, f1, r1⟩ := of_tup h3
    obtain ⟨m, ys, e2, f2, r2⟩ := of_tup h2
    refine ⟨l, m, xs, ys, e1, e2, SqT.of (hf.low _ _ f1), SqT.of (hf.low _ _ f2), fun z => h0 ?_, ?_, fun z => absurd ?_ h1, fun _ p hp => rt_newT hf (r1.app r2) q hp⟩
    · have := r1.len
      rw [z] at this
      exact List.length_eq_zero_iff.mp this.symm
    · rw [r1.len, r2.len]
      exact Nat.le_trans h (by decide)
    · have := r2.len
      rw [z] at this
      exact List.length_eq_zero_iff.mp this.symm⟩

/-! ### comparisons -/
def CmpOk (g : Gb) (X : Cx) (op : CmpOp) (d1 d2 : D) (c : Bool) : Prop := ∃ rr : R2, OpR X (compareOp op) rr ∧ ∀ F H v1 v2, Fit g F H → Rep g F d1 v1 → Rep g F d2 v2 → ∀ Q : VK, Q (.bl c) H → rr v1 v2 H Q
theorem ev_cmp {op : CmpOp} {d1 d2 : D} {r : Bool} (ha : EvD g X G a d1) (hb : EvD g X G b d2) (h : CmpOk g X op d1 d2 r) (hm : behindInMarks op b = false := by first | exact nomark _ | rfl) : EvD g X G (.Compare a [op] [b] pos) (.bl r) := by
  intro F H σ ow k Q q
  obtain ⟨rr, ho, hr⟩ := h
  refine we_of (pe_cmpR ho pe_we pe_we hm) ?_
  refine ha F H σ ow k _ fun v1 F1 H1 u1 r1 => ?_
  refine hb F1 H1 σ ow (k.up u1) _ fun v2 F2 H2 u2 r2 => ?_
  exact hr F2 H2 v1 v2 u2.fit (Rep.mono u2.sub _ _ r1) r2 Q (q _ F2 H2 (u1.trans u2) (rep_bl r))
theorem et_cmp {op : CmpOp} {d1 d2 : D} {r : Bool} (ha : EvD g X G a d1) (hb : EvD g X G b d2) (h : CmpOk g X op d1 d2 r) (hm : behindInMarks op b = false := by first | exact nomark _ | rfl) : EvT g X G (.Compare a [op] [b] pos) r := by
  intro F H σ ow k Q q
  obtain ⟨rr, ho, hr⟩ := h
  refine wt_of (pt_cmpR ho pe_we pe_we hm) ?_
  refine ha F H σ ow k _ fun v1 F1 H1 u1 r1 => ?_
  refine hb F1 H1 σ ow (k.up u1) _ fun v2 F2 H2 u2 r2 => ?_
  exact hr F2 H2 v1 v2 u2.fit (Rep.mono u2.sub _ _ r1) r2 _ ⟨r, rfl, q F2 H2 (u1.trans u2)⟩
theorem cmp_lt {i j : Int} : CmpOk g X .Lt (.int i) (.int j) (decide (i < j)) := ⟨_, op_lt, fun F H v1 v2 hf h1 h2 Q q => ⟨i, j, of_int h1, of_int h2, q⟩⟩
theorem cmp_le {i j : Int} : CmpOk g X .LtE (.int i) (.int j) (decide (i ≤ j)) := ⟨_, op_le, fun F H v1 v2 hf h1 h2 Q q => ⟨i, j, of_int h1, of_int h2, q⟩⟩
theorem cmp_gt {i j : Int} : CmpOk g X .Gt (.int i) (.int j) (decide (j < i)) := ⟨_, op_gt, fun F H v1 v2 hf h1 h2 Q q => ⟨i, j, of_int h1, of_int h2, q⟩⟩
theorem cmp_ge {i j : Int} : CmpOk g X .GtE (.int i) (.int j) (decide (j ≤ i)) := ⟨_, op_ge, fun F H v1 v2 hf h1 h2 Q q => ⟨i, j, of_int h1, of_int h2, q⟩⟩
def D.isN : D → Bool
  | .non => true
  | _ => false
theorem isN_rep {F : Hp} {d : D} {v : V} (h : Rep g F d v) : decide (v = .non) = d.isN := by
  cases d with
  | non => rw [of_non h] <;> rfl
  | bl b => rw [of_bl h] <;> rfl
  | int b => rw [of_int h] <;> rfl
  | str b => rw [of_str h] <;> rfl
  | lst b =>
    obtain ⟨a, xs, e, _⟩ := of_lst h
    rw [e] <;> rfl
  | tup b =>
    obtain ⟨a, xs, e, _⟩ := of_tup h
    rw [e] <;> rfl
  | scr b =>
    obtain ⟨a, e, _⟩ := of_scr h
    rw [e] <;> rfl
  | hs b =>
    obtain ⟨a, e, _⟩ := of_hs h
    rw [e] <;> rfl
  | adr a =>
    cases h
    rfl
theorem cmp_is {d : D} : CmpOk g X .Is d .non d.isN := ⟨_, op_isN, fun F H v1 v2 hf h1 h2 Q q => ⟨of_non h2, by rw [isN_rep h1]; exact q⟩⟩
theorem cmp_isnot {d : D} : CmpOk g X .IsNot d .non (!d.isN) := ⟨_, op_notN, fun F H v1 v2 hf h1 h2 Q q => ⟨of_non h2, by rw [isN_rep h1]; exact q⟩⟩

/-! data that is compared at any depth -/
mutual
def toPy : D → PyData
  | .non => .none
  | .bl b => .bool b
  | .int i => .int i
  | .str x => .str x
  | .lst l => .list (toPyL l)
  | .tup l => .tuple (toPyL l)
  | .scr _ => .none
  | .hs _ => .none
  | .adr _ => .none
def toPyL : List D → List PyData
  | [] => []
  | d :: l => toPy d :: toPyL l
end
mutual
def D.pl : D → Bool
  | .lst l => plL l
  | .tup l => plL l
  | .scr _ => false
  | .hs _ => false
  | .adr _ => false
  | _ => true
def plL : List D → Bool
  | [] => true
  | d :: l => d.pl && plL l
end
mutual
theorem dp_of {F H : Hp} (hf : Sub F H) : ∀ (d : D) (v : V), d.pl = true → Rep g F d v → Dp g.K H v (toPy d)
  | .non, v, _, h => by rw [of_non h]; exact .non
  | .bl b, v, _, h => by rw [of_bl h]; exact .bl b
  | .int i, v, _, h => by rw [of_int h]; exact .int i
  | .str x, v, _, h => by rw [of_str h]; exact .str x
  | .lst l, v, p, h => by
    obtain ⟨a, xs, e, h1, h2⟩ := of_lst h
    rw [e]
    exact .lst (SqL.of (hf _ _ h1)) (dp_ofL hf l xs p h2)
  | .tup l, v, p, h => by
    obtain ⟨a, xs, e, h1, h2⟩ := of_tup h
    rw [e]
    exact .tup (SqT.of (hf _ _ h1)) (dp_ofL hf l xs p h2)
  | .scr _, _, p, _ => by cases p
  | .hs _, _, p, _ => by cases p
  | .adr _, _, p, _ => by cases p
theorem dp_ofL {F H : Hp} (hf : Sub F H) : ∀ (ds : List D) (vs : List V), plL ds = true → RepL g F ds vs → DpAll g.K H vs (toPyL ds)
  | [], vs, _, h => by
    rw [repL_inv0 h]
    exact .nil
  | d :: ds, vs, p, h => by
    obtain ⟨v, ws, e, h1, h2⟩ := repL_inv h
    rw [e]
    have p' : (d.pl && plL ds) = true := p
    rw [Bool.and_eq_true] at p'
    exact .cons (dp_of hf d v p'.1 h1) (dp_ofL hf ds ws p'.2 h2)
end
def D.eqv (d e : D) : Bool := PyData.eqv (toPy d) (toPy e)
/-- two data that may be held against each other -/
def D.cmpable (d : D) : Prop := d.pl = true ∧ SeqAt.shaped (toPy d) = true
theorem cmp_eq {d e : D} (hK : X.K = g.K) (hu : X.A.units + 64 < cLine) (h1 : d.cmpable) (h2 : e.cmpable) : CmpOk g X .Eq d e (d.eqv e) :=
  ⟨_, op_eqD hu, fun F H v1 v2 hf r1 r2 Q q => ⟨toPy d, toPy e, by rw [hK]; exact dp_of hf.low d v1 h1.1 r1, by rw [hK]; exact dp_of hf.low e v2 h2.1 r2, h1.2, h2.2, q⟩⟩
theorem cmp_ne {d e : D} (hK : X.K = g.K) (hu : X.A.units + 64 < cLine) (h1 : d.cmpable) (h2 : e.cmpable) : CmpOk g X .NotEq d e (!d.eqv e) :=
  ⟨_, op_neD hu, fun F H v1 v2 hf r1 r2 Q q => ⟨toPy d, toPy e, by rw [hK]; exact dp_of hf.low d v1 h1.1 r1, by rw [hK]; exact dp_of hf.low e v2 h2.1 r2, h1.2, h2.2, q⟩⟩
/-- flat data: in, not in, index -/
def D.fl : D → Option V
  | .non => some .non
  | .bl b => some (.bl b)
  | .int i => some (.int i)
  | .str x => some (.str x)
  | _ => none
theorem fl_rep {F : Hp} {d : D} {v w : V} (h : d.fl = some w) (r : Rep g F d v) : v = w ∧ flatV v = true := by
  cases d with
  | non => cases h; rw [of_non r]; exact ⟨rfl, rfl⟩
  | bl b => cases h; rw [of_bl r]; exact ⟨rfl, rfl⟩
  | int b => cases h; rw [of_int r]; exact ⟨rfl, rfl⟩
  | str b => cases h; rw [of_str r]; exact ⟨rfl, rfl⟩
  | _ => cases h
theorem flL_rep {F : Hp} : ∀ {ds : List D} {ws vs : List V}, ds.map D.fl = ws.map some → RepL g F ds vs → vs = ws ∧ vs.all flatV = true
  | [], ws, vs, h, r => by
    have r := repL_inv0 r
    cases ws with
    | nil => exact ⟨r, by rw [r]; rfl⟩
    | cons _ _ => cases h
  | d :: ds, ws, vs, h, r => by
    obtain ⟨v, us, e, r1, r2⟩ := repL_inv r
    cases ws with
    | nil => cases h
    | cons w ws =>
      rw [List.map_cons, List.map_cons, List.cons.injEq] at h
      obtain ⟨e1, f1⟩ := fl_rep h.1 r1
      obtain ⟨e2, f2⟩ := flL_rep h.2 r2
      rw [e, e1, e2]
      refine ⟨rfl, ?_⟩
      rw [List.all_cons, ← e1, f1, ← e2, f2] <;> rfl
theorem cmp_in {d : D} {ds : List D} {w : V} {ws : List V} (hK : X.K = g.K) (h1 : d.fl = some w) (h2 : ds.map D.fl = ws.map some) : CmpOk g X .In d (.lst ds) (inV w ws) :=
  ⟨_, op_in_seq, fun F H v1 v2 hf r1 r2 Q q => by
    obtain ⟨a, xs, e, f, r⟩ := of_lst r2
    obtain ⟨e1, f1⟩ := fl_rep h1 r1
    obtain ⟨e2, f2⟩ := flL_rep h2 r
    refine ⟨a, xs, e, Or.inl (SqL.of (hf.low _ _ f)), f1, f2, ?_⟩
    rw [e1, e2]
    exact q⟩
theorem cmp_notin {d : D} {ds : List D} {w : V} {ws : List V} (hK : X.K = g.K) (h1 : d.fl = some w) (h2 : ds.map D.fl = ws.map some) : CmpOk g X .NotIn d (.lst ds) (!inV w ws) :=
  ⟨_, op_notIn_seq, fun F H v1 v2 hf r1 r2 Q q => by
    obtain ⟨a, xs, e, f, r⟩ := of_lst r2
    obtain ⟨e1, f1⟩ := fl_rep h1 r1
    obtain ⟨e2, f2⟩ := flL_rep h2 r
    refine ⟨a, xs, e, Or.inl (SqL.of (hf.low _ _ f)), f1, f2, ?_⟩
    rw [e1, e2]
    exact q⟩

/-! ### and, or, not; tests -/
theorem et_val {r : Bool} (h : EvD g X G e (.bl r)) (he : ∀ whole, isTrue e X.env whole = (do let v ← whole; standAt e.pos; holding [v] (truthy v)) := by intro _; rfl) : EvT g X G e r := by
  intro F H σ ow k Q q
  refine wt_of (pt_val pe_we he) ?_
  exact h F H σ ow k _ fun v F1 H1 u r1 => ⟨r, of_bl r1, q F1 H1 u⟩
def D.truth : D → Bool
  | .non => false
  | .bl b => b
  | .int i => i != 0
  | .str x => (x.length : Int) != 0
  | .lst l => !l.isEmpty
  | .tup l => !l.isEmpty
  | .scr l => !l.isEmpty
  | .hs _ => true
  | .adr _ => true
def D.trOk : D → Prop
  | .str x => x.length ≤ 100000
  | .hs _ => False
  | .adr _ => False
  | _ => True
theorem tru_rep {F H : Hp} {d : D} {v : V} (hf : Sub F H) (h : Rep g F d v) (t : d.trOk) : TruV g.K v H d.truth := by
  cases d with
  | non => rw [of_non h]; exact rfl
  | bl b => rw [of_bl h]; exact rfl
  | int b => rw [of_int h]; exact rfl
  | str b => rw [of_str h]; exact ⟨Nat.le_trans t (by decide), rfl⟩
  | lst b =>
    obtain ⟨a, xs, e, h1, h2⟩ := of_lst h
    rw [e]
    refine Or.inl ⟨xs, SqL.of (hf _ _ h1), ?_⟩
    have := h2.len
    show (!b.isEmpty) = (!xs.isEmpty)
    cases b <;> cases xs <;> first | rfl | cases this
  | tup b =>
    obtain ⟨a, xs, e, h1, h2⟩ := of_tup h
    rw [e]
    refine Or.inr (Or.inl ⟨xs, SqT.of (hf _ _ h1), ?_⟩)
    have := h2.len
    show (!b.isEmpty) = (!xs.isEmpty)
    cases b <;> cases xs <;> first | rfl | cases this
  | scr b =>
    obtain ⟨a, e, h1⟩ := of_scr h
    rw [e]
    refine Or.inl ⟨_, sql_mono hf h1, ?_⟩
    show (!b.isEmpty) = (!(b.map V.int).isEmpty)
    cases b <;> rfl
  | hs b => exact t.elim
  | adr b => exact t.elim
theorem et_truth {d : D} (hK : X.K = g.K) (h : EvD g X G e d) (t : d.trOk) (he : ∀ whole, isTrue e X.env whole = (do let v ← whole; standAt e.pos; holding [v] (truthy v)) := by intro _; rfl) : EvT g X G e d.truth := by
  intro F H σ ow k Q q
  refine wt_of (pt_truth pe_we he) ?_
  exact h F H σ ow k _ fun v F1 H1 u r1 => ⟨d.truth, by rw [hK]; exact tru_rep u.fit.low r1 t, q F1 H1 u⟩
theorem et_not {r : Bool} (h : EvT g X G a r) : EvT g X G (.UnaryOp .Not a pos) (!r) := by
  intro F H σ ow k Q q
  refine wt_of (pt_not pt_wt) ?_
  exact h F H σ ow k _ fun F1 H1 u => q F1 H1 u
theorem et_and {r r' : Bool} (h : EvT g X G a r) (h' : r = true → EvT g X G b r') : EvT g X G (.BoolOp .And [a, b] pos) (r && r') := by
  intro F H σ ow k Q q
  refine wt_of (PW.pt (pw_and pt_wt (pw_and1 pt_wt))) ?_
  refine h F H σ ow k _ fun F1 H1 u => ?_
  cases r with
  | true => exact h' rfl F1 H1 σ ow (k.up u) _ fun F2 H2 u2 => q F2 H2 (u.trans u2)
  | false => exact q F1 H1 u
theorem et_or {r r' : Bool} (h : EvT g X G a r) (h' : r = false → EvT g X G b r') : EvT g X G (.BoolOp .Or [a, b] pos) (r || r') := by
  intro F H σ ow k Q q
  refine wt_of (PW.pt (pw_or pt_wt (pw_or1 pt_wt))) ?_
  refine h F H σ ow k _ fun F1 H1 u => ?_
  cases r with
  | true => exact q F1 H1 u
  | false => exact h' rfl F1 H1 σ ow (k.up u) _ fun F2 H2 u2 => q F2 H2 (u.trans u2)
theorem et_or3 {r r' r'' : Bool} (h : EvT g X G a r) (h' : r = false → EvT g X G b r') (h'' : r = false → r' = false → EvT g X G c r'') : EvT g X G (.BoolOp .Or [a, b, c] pos) (r || (r' || r'')) := by
  intro F H σ ow k Q q
  refine wt_of (PW.pt (pw_or pt_wt (pw_or pt_wt (pw_or1 pt_wt)))) ?_
  refine h F H σ ow k _ fun F1 H1 u => ?_
  cases r with
  | true => exact q F1 H1 u
  | false =>
    refine h' rfl F1 H1 σ ow (k.up u) _ fun F2 H2 u2 => ?_
    cases r' with
    | true => exact q F2 H2 (u.trans u2)
    | false => exact h'' rfl rfl F2 H2 σ ow ((k.up u).up u2) _ fun F3 H3 u3 => q F3 H3 ((u.trans u2).trans u3)
theorem et_or4 {d : Expr} {r r' r'' r3 : Bool} (h : EvT g X G a r) (h' : r = false → EvT g X G b r') (h'' : r = false → r' = false → EvT g X G c r'') (h3 : r = false → r' = false → r'' = false → EvT g X G d r3) :
    EvT g X G (.BoolOp .Or [a, b, c, d] pos) (r || (r' || (r'' || r3))) := by
  intro F H σ ow k Q q
  refine wt_of (PW.pt (pw_or pt_wt (pw_or pt_wt (pw_or pt_wt (pw_or1 pt_wt))))) ?_
  refine h F H σ ow k _ fun F1 H1 u => ?_
  cases r with
  | true => exact q F1 H1 u
  | false =>
    refine h' rfl F1 H1 σ ow (k.up u) _ fun F2 H2 u2 => ?_
    cases r' with
    | true => exact q F2 H2 (u.trans u2)
    | false =>
      refine h'' rfl rfl F2 H2 σ ow ((k.up u).up u2) _ fun F3 H3 u3 => ?_
      cases r'' with
      | true => exact q F3 H3 ((u.trans u2).trans u3)
      | false => exact h3 rfl rfl rfl F3 H3 σ ow (((k.up u).up u2).up u3) _ fun F4 H4 u4 => q F4 H4 (((u.trans u2).trans u3).trans u4)
/-- as values -/
theorem ev_and {r r' : Bool} (h : EvD g X G a (.bl r)) (h' : r = true → EvD g X G b (.bl r')) : EvD g X G (.BoolOp .And [a, b] pos) (.bl (r && r')) := by
  intro F H σ ow k Q q
  refine we_of (pe_and pe_we (pe_one pe_we)) ?_
  refine h F H σ ow k _ fun v F1 H1 u r1 => ⟨r, of_bl r1, ?_⟩
  cases r with
  | true => exact h' rfl F1 H1 σ ow (k.up u) _ fun v F2 H2 u2 r2 => q v F2 H2 (u.trans u2) r2
  | false => exact q _ F1 H1 u (rep_bl false)
theorem ev_or {r r' : Bool} (h : EvD g X G a (.bl r)) (h' : r = false → EvD g X G b (.bl r')) : EvD g X G (.BoolOp .Or [a, b] pos) (.bl (r || r')) := by
  intro F H σ ow k Q q
  refine we_of (pe_or pe_we (pe_one pe_we)) ?_
  refine h F H σ ow k _ fun v F1 H1 u r1 => ⟨r, of_bl r1, ?_⟩
  cases r with
  | true => exact q _ F1 H1 u (rep_bl true)
  | false => exact h' rfl F1 H1 σ ow (k.up u) _ fun v F2 H2 u2 r2 => q v F2 H2 (u.trans u2) r2
theorem ev_not {r : Bool} (h : EvD g X G a (.bl r)) : EvD g X G (.UnaryOp .Not a pos) (.bl (!r)) := by
  intro F H σ ow k Q q
  refine we_of (pe_not pe_we) ?_
  exact h F H σ ow k _ fun v F1 H1 u r1 => ⟨r, of_bl r1, q _ F1 H1 u (rep_bl _)⟩

/-! ### arguments, displays -/
theorem ea_nil : EvA g X G [] [] := fun F H σ ow k Q q => wa_of pa_nil (q [] F H (Up.refl k.fit) repL_nil)
theorem ea_cons {d : D} {ds : List D} (h : EvD g X G e d) (t : EvA g X G es ds) (hs : starEach (e :: es) X.env = (false, eval e X.env) :: starEach es X.env := by rfl) : EvA g X G (e :: es) (d :: ds) := by
  intro F H σ ow k Q q
  refine wa_of (pa_cons pe_we pa_wa hs) ?_
  refine h F H σ ow k _ fun v F1 H1 u r1 => ?_
  exact t F1 H1 σ ow (k.up u) _ fun vs F2 H2 u2 r2 => q _ F2 H2 (u.trans u2) (repL_cons (Rep.mono u2.sub _ _ r1) r2)
theorem ev_lst {ds : List D} (h : EvA g X G es ds) (hl : ds.length ≤ 100000) : Ev g X G (.List es pos) (.m ds) := by
  intro F H σ ow k Q q
  refine we_of (pe_lst pa_wa) ?_
  refine h F H σ ow k _ fun vs F1 H1 u r1 => ⟨?_, fun p hp => ?_⟩
  · rw [r1.len]
    exact Nat.le_trans hl (by decide)
  · exact rt_new u.fit r1 (fun v F2 H2 u2 r2 => q v F2 H2 (u.trans u2) (r2.back u.ext)) hp
theorem ev_tup {ds : List D} {j} (h : EvA g X G es ds) (hl : ds.length ≤ 100000) : EvD g X G (.Tuple es j pos) (.tup ds) := by
  intro F H σ ow k Q q
  refine we_of (pe_tup pa_wa) ?_
  refine h F H σ ow k _ fun vs F1 H1 u r1 => ⟨?_, fun p hp => ?_⟩
  · rw [r1.len]
    exact Nat.le_trans hl (by decide)
  · exact rt_newT u.fit r1 (fun v F2 H2 u2 r2 => q v F2 H2 (u.trans u2) r2) hp

/-! ### subscripts, slices -/
def D.at_ : D → Int → Option D
  | .lst l, i => atI l i
  | .tup l, i => atI l i
  | .scr l, i => (atI l i).map D.int
  | .str x, i => (atI x.cps.toList i).map fun c => D.str ⟨#[c]⟩
  | _, _ => none
def D.ixOk : D → Prop
  | .str x => x.length ≤ 100000
  | _ => True
theorem atI_len {α β : Type} {xs : List α} {ys : List β} (h : xs.length = ys.length) (i : Int) : ixN xs.length i = ixN ys.length i := by rw [h]
theorem RepL.ati {F : Hp} {ds : List D} {xs : List V} {i : Int} {d : D} (h : RepL g F ds xs) (e : atI ds i = some d) : ∃ v, atI xs i = some v ∧ Rep g F d v := by
  unfold atI at e ⊢
  rw [h.len]
  cases q : ixN ds.length i with
  | none =>
    rw [q] at e
    cases e
  | some j =>
    rw [q] at e
    exact h.at_ e
theorem ev_ix {d1 d : D} {i : Int} (hK : X.K = g.K) (ha : EvD g X G a d1) (hb : EvD g X G b (.int i)) (h : d1.at_ i = some d) (hx : d1.ixOk := by trivial) (hs : PlainIx b := by intro _ _; rfl) : EvD g X G (.Subscript a b pos) d := by
  intro F H σ ow k Q q
  refine we_of (pe_ix ix_seq pe_we pe_we hs) ?_
  refine ha F H σ ow k _ fun v1 F1 H1 u1 r1 => ?_
  refine hb F1 H1 σ ow (k.up u1) _ fun v2 F2 H2 u2 r2 => ?_
  rw [hK, of_int r2]
  have r1' := Rep.mono u2.sub _ _ r1
  cases d1 with
  | lst l =>
    obtain ⟨p, xs, e, h1, h2⟩ := of_lst r1'
    obtain ⟨v, e3, e4⟩ := h2.ati h
    rw [e]
    exact Or.inl ⟨p, xs, i, v, rfl, rfl, SqL.of (u2.fit.low _ _ h1), e3, q v F2 H2 (u1.trans u2) e4⟩
  | tup l =>
    obtain ⟨p, xs, e, h1, h2⟩ := of_tup r1'
    obtain ⟨v, e3, e4⟩ := h2.ati h
    rw [e]
    exact Or.inr (Or.inl ⟨p, xs, i, v, rfl, rfl, SqT.of (u2.fit.low _ _ h1), e3, q v F2 H2 (u1.trans u2) e4⟩)
  | scr l =>
    obtain ⟨p, e, h1⟩ := of_scr r1'
    have h' : (atI l i).map D.int = some d := h
    cases q0 : atI l i with
    | none =>
      rw [q0] at h'
      cases h'
    | some n =>
      rw [q0] at h'
      have e5 : D.int n = d := Option.some.inj h'
      rw [e]
      refine Or.inl ⟨p, _, i, V.int n, rfl, rfl, sql_mono u2.fit.low h1, ?_, q _ F2 H2 (u1.trans u2) (by rw [← e5]; exact rep_int n)⟩
      unfold atI at q0 ⊢
      rw [List.length_map]
      cases q1 : ixN l.length i with
      | none =>
        rw [q1] at q0
        cases q0
      | some j =>
        rw [q1] at q0
        have q2 : l[j]? = some n := q0
        show (l.map V.int)[j]? = some (V.int n)
        rw [List.getElem?_map, q2] <;> rfl
  | str x =>
    have h' : (atI x.cps.toList i).map (fun c => D.str ⟨#[c]⟩) = some d := h
    cases q0 : atI x.cps.toList i with
    | none =>
      rw [q0] at h'
      cases h'
    | some n =>
      rw [q0] at h'
      have e5 : D.str ⟨#[n]⟩ = d := Option.some.inj h'
      rw [of_str r1']
      exact Or.inr (Or.inr ⟨x, i, n, rfl, rfl, Nat.le_trans hx (by decide), q0, q _ F2 H2 (u1.trans u2) (by rw [← e5]; exact rep_str _)⟩)
  | _ => cases h
theorem eo_none : EvO g X G none none := fun F H σ ow k Q q => q F H (Up.refl k.fit)
theorem eo_some {i : Int} (h : EvD g X G e (.int i)) : EvO g X G (some e) (some i) := by
  intro F H σ ow k Q q
  exact h F H σ ow k _ fun v F1 H1 u r1 => ⟨i, of_int r1, q F1 H1 u⟩
def cutD (xs : List D) (lo hi : Option Int) : List D := (xs.drop (HT.sIx xs.length 0 lo)).take (HT.sIx xs.length xs.length hi - HT.sIx xs.length 0 lo)
theorem RepL.cut {F : Hp} {ds : List D} {xs : List V} (h : RepL g F ds xs) (lo hi : Option Int) : RepL g F (cutD ds lo hi) (cutV xs lo hi) := by
  unfold cutD cutV
  rw [h.len]
  exact (h.drop _).take _
theorem ev_sl {ds : List D} {lo hi : Option Expr} {l h : Option Int} {p2 : Pos} (hK : X.K = g.K) (ha : EvD g X G a (.lst ds)) (hl : EvO g X G lo l) (hh : EvO g X G hi h) : Ev g X G (.Subscript a (.Slice lo hi none p2) pos) (.m (cutD ds l h)) := by
  intro F H σ ow k Q q
  refine we_of (pe_slice sl_list pe_we po_wo po_wo) ?_
  refine ha F H σ ow k _ fun v1 F1 H1 u1 r1 => ?_
  refine hl F1 H1 σ ow (k.up u1) _ fun F2 H2 u2 => ?_
  refine hh F2 H2 σ ow ((k.up u1).up u2) _ fun F3 H3 u3 => ?_
  obtain ⟨p, xs, e, h1, h2⟩ := of_lst (Rep.mono (u2.trans u3).sub _ _ r1)
  rw [hK]
  refine ⟨p, xs, e, SqL.of (u3.fit.low _ _ h1), fun m hm => ?_⟩
  exact rt_new u3.fit (h2.cut l h) (fun v F4 H4 u4 r4 => q v F4 H4 (((u1.trans u2).trans u3).trans u4) (r4.back ((u1.trans u2).trans u3).ext)) hm
theorem ev_slT {ds : List D} {lo hi : Option Expr} {l h : Option Int} {p2 : Pos} (hK : X.K = g.K) (ha : EvD g X G a (.tup ds)) (hl : EvO g X G lo l) (hh : EvO g X G hi h) (hw : ¬ (HT.sIx ds.length 0 l = 0 ∧ HT.sIx ds.length ds.length h = ds.length)) :
    EvD g X G (.Subscript a (.Slice lo hi none p2) pos) (.tup (cutD ds l h)) := by
  intro F H σ ow k Q q
  refine we_of (pe_slice sl_tup pe_we po_wo po_wo) ?_
  refine ha F H σ ow k _ fun v1 F1 H1 u1 r1 => ?_
  refine hl F1 H1 σ ow (k.up u1) _ fun F2 H2 u2 => ?_
  refine hh F2 H2 σ ow ((k.up u1).up u2) _ fun F3 H3 u3 => ?_
  obtain ⟨p, xs, e, h1, h2⟩ := of_tup (Rep.mono (u2.trans u3).sub _ _ r1)
  rw [hK]
  refine ⟨p, xs, e, SqT.of (u3.fit.low _ _ h1), by rw [h2.len]; exact hw, fun m hm => ?_⟩
  exact rt_newT u3.fit (h2.cut l h) (fun v F4 H4 u4 r4 => q v F4 H4 (((u1.trans u2).trans u3).trans u4) r4) hm
end
end CH

/-! Choosehall: calls, of built-ins and of the text's own defs. -/
namespace CH
open PySem L2

/-- the built-ins' names that the text leaves as they are -/
structure Free (mg : Str → Option Value) : Prop where
  len : mg "len" = none
  range : mg "range" = none
  list : mg "list" = none
  sorted : mg "sorted" = none
  isinstance : mg "isinstance" = none
  str : mg "str" = none
  int : mg "int" = none
  min : mg "min" = none
  max : mg "max" = none
  set : mg "set" = none
  tuple : mg "tuple" = none
  bool : mg "bool" = none

section
variable {g : Gb} {X : Cx} {G : List Sl} {a b c e o : Expr} {es : List Expr} {pos p apos p2 pos2 : Pos} {x : Str}
theorem ev_b1 {id : String} {rr : List V → Hp → VK → Prop} {d : D} {r : Sl} (hc : CallR X (.builtin id) rr) (hg : Gl X x) (hm : X.mg x = none) (hv : bootBuiltins x = some (.builtin id)) (h : EvD g X G e d)
    (hr : ∀ F H v, Fit g F H → Rep g F d v → ∀ Q : VK, (∀ v F' H', Up g F H F' H' → RtOk g F' H H' r v → Q v H') → rr [v] H Q) (hn : x ≠ "__name__" := by decide) (hdb : (x == ("__debug__" : Str)) = false := by decide)
    (he : starEach [e] X.env = (false, eval e X.env) :: starEach [] X.env := by rfl) : Ev g X G (.Call (.Name x p) [e] [] pos) r := by
  intro F H σ ow k Q q
  refine we_of (pe_callB hc hg hm hv (pa_cons pe_we pa_nil he) hn hdb he rfl) ?_
  refine h F H σ ow k _ fun v F1 H1 u r1 => ?_
  exact hr F1 H1 v u.fit r1 Q fun v F2 H2 u2 r2 => q v F2 H2 (u.trans u2) (r2.back u.ext)
theorem ev_t1 {T : String} {rr : List V → Hp → VK → Prop} {d : D} {r : Sl} (hc : CallR X (.type T) rr) (hg : Gl X x) (hm : X.mg x = none) (hv : bootBuiltins x = some (.type T)) (h : EvD g X G e d)
    (hr : ∀ F H v, Fit g F H → Rep g F d v → ∀ Q : VK, (∀ v F' H', Up g F H F' H' → RtOk g F' H H' r v → Q v H') → rr [v] H Q) (hn : x ≠ "__name__" := by decide) (hdb : (x == ("__debug__" : Str)) = false := by decide)
    (he : starEach [e] X.env = (false, eval e X.env) :: starEach [] X.env := by rfl) : Ev g X G (.Call (.Name x p) [e] [] pos) r := by
  intro F H σ ow k Q q
  refine we_of (pe_callTy hc hg hm hv (pa_cons pe_we pa_nil he) hn hdb he rfl) ?_
  refine h F H σ ow k _ fun v F1 H1 u r1 => ?_
  exact hr F1 H1 v u.fit r1 Q fun v F2 H2 u2 r2 => q v F2 H2 (u.trans u2) (r2.back u.ext)
theorem ev_b2 {id : String} {rr : List V → Hp → VK → Prop} {d1 d2 : D} {r : Sl} (hc : CallR X (.builtin id) rr) (hg : Gl X x) (hm : X.mg x = none) (hv : bootBuiltins x = some (.builtin id)) (h1 : EvD g X G a d1) (h2 : EvD g X G b d2)
    (hr : ∀ F H v w, Fit g F H → Rep g F d1 v → Rep g F d2 w → ∀ Q : VK, (∀ v F' H', Up g F H F' H' → RtOk g F' H H' r v → Q v H') → rr [v, w] H Q) (hn : x ≠ "__name__" := by decide) (hdb : (x == ("__debug__" : Str)) = false := by decide)
    (he : starEach [a, b] X.env = (false, eval a X.env) :: starEach [b] X.env := by rfl) (he2 : starEach [b] X.env = (false, eval b X.env) :: starEach [] X.env := by rfl) (hpl : (backTo pos (starEach [b] X.env)).any (·.1) = false := by rfl) : Ev g X G (.Call (.Name x p) [a, b] [] pos) r := by
  intro F H σ ow k Q q
  refine we_of (pe_callB hc hg hm hv (pa_cons pe_we (pa_cons pe_we pa_nil he2) he) hn hdb he hpl) ?_
  refine h1 F H σ ow k _ fun v F1 H1 u r1 => ?_
  refine h2 F1 H1 σ ow (k.up u) _ fun w F2 H2 u2 r2 => ?_
  exact hr F2 H2 v w u2.fit (Rep.mono u2.sub _ _ r1) r2 Q fun v F3 H3 u3 r3 => q v F3 H3 ((u.trans u2).trans u3) (r3.back (u.trans u2).ext)

def D.len : D → Option Nat
  | .lst l => some l.length
  | .tup l => some l.length
  | .scr l => some l.length
  | .str x => some x.length
  | _ => none
theorem ev_len {d : D} {n : Nat} (hK : X.K = g.K) (fr : Free X.mg) (h : EvD g X G e d) (hl : d.len = some n) (hx : d.ixOk := by trivial) (hg : Gl X "len" := by rfl) (he : starEach [e] X.env = (false, eval e X.env) :: starEach [] X.env := by rfl) :
    EvD g X G (.Call (.Name "len" p) [e] [] pos) (.int n) := by
  refine ev_b1 call_len hg fr.len PySem.boot_len h (fun F H v hf r Q q => ?_) (he := he)
  refine ⟨v, n, rfl, ?_, q _ F H (Up.refl hf) (rep_int _)⟩
  rw [hK]
  cases d with
  | lst l =>
    obtain ⟨m, xs, e1, h1, h2⟩ := of_lst r
    rw [e1]
    exact Or.inl ⟨xs, SqL.of (hf.low _ _ h1), by rw [h2.len]; exact (Option.some.inj hl).symm⟩
  | tup l =>
    obtain ⟨m, xs, e1, h1, h2⟩ := of_tup r
    rw [e1]
    exact Or.inr ⟨xs, SqT.of (hf.low _ _ h1), by rw [h2.len]; exact (Option.some.inj hl).symm⟩
  | scr l =>
    obtain ⟨m, e1, h1⟩ := of_scr r
    rw [e1]
    exact Or.inl ⟨_, sql_mono hf.low h1, by rw [List.length_map]; exact (Option.some.inj hl).symm⟩
  | str l =>
    rw [of_str r]
    exact ⟨Nat.le_trans hx (by decide), (Option.some.inj hl).symm⟩
  | _ => cases hl
theorem ev_str_int {i : Int} (fr : Free X.mg) (h : EvD g X G e (.int i)) (hi : i.natAbs.log2 < 1920) (hg : Gl X "str" := by rfl) (he : starEach [e] X.env = (false, eval e X.env) :: starEach [] X.env := by rfl) :
    EvD g X G (.Call (.Name "str" p) [e] [] pos) (.str (toString i)) :=
  ev_t1 call_str_int hg fr.str (by decide +kernel) h (fun F H v hf r Q q => ⟨i, by rw [of_int r], hi, q _ F H (Up.refl hf) (rep_str _)⟩) (he := he)
theorem ev_int_bl {i : Bool} (fr : Free X.mg) (h : EvD g X G e (.bl i)) (hg : Gl X "int" := by rfl) (he : starEach [e] X.env = (false, eval e X.env) :: starEach [] X.env := by rfl) :
    EvD g X G (.Call (.Name "int" p) [e] [] pos) (.int (if i = true then 1 else 0)) :=
  ev_t1 call_int1 hg fr.int (by decide +kernel) h (fun F H v hf r Q q => Or.inr ⟨i, by rw [of_bl r], q _ F H (Up.refl hf) (rep_int _)⟩) (he := he)
theorem ev_int_str {i : Int} {z : Str} (fr : Free X.mg) (h : EvD g X G e (.str z)) (hz : PySem.intText? z = some i) (hl : z.length ≤ 640) (hg : Gl X "int" := by rfl) (he : starEach [e] X.env = (false, eval e X.env) :: starEach [] X.env := by rfl) :
    EvD g X G (.Call (.Name "int" p) [e] [] pos) (.int i) :=
  ev_t1 call_int_str hg fr.int (by decide +kernel) h (fun F H v hf r Q q => ⟨z, i, by rw [of_str r], hz, hl, q _ F H (Up.refl hf) (rep_int _)⟩) (he := he)
theorem ev_list {ds : List D} (hK : X.K = g.K) (fr : Free X.mg) (h : EvD g X G e (.lst ds)) (hg : Gl X "list" := by rfl) (he : starEach [e] X.env = (false, eval e X.env) :: starEach [] X.env := by rfl) :
    Ev g X G (.Call (.Name "list" p) [e] [] pos) (.m ds) :=
  ev_t1 call_list_of hg fr.list (by decide +kernel) h (fun F H v hf r Q q => by
    obtain ⟨m, xs, e1, h1, h2⟩ := of_lst r
    refine ⟨m, xs, by rw [e1], Or.inl (SqL.of (hf.low _ _ h1)), fun l hl => rt_new hf h2 q hl⟩) (he := he)
theorem ev_listT {ds : List D} (hK : X.K = g.K) (fr : Free X.mg) (h : EvD g X G e (.tup ds)) (hg : Gl X "list" := by rfl) (he : starEach [e] X.env = (false, eval e X.env) :: starEach [] X.env := by rfl) :
    Ev g X G (.Call (.Name "list" p) [e] [] pos) (.m ds) :=
  ev_t1 call_list_of hg fr.list (by decide +kernel) h (fun F H v hf r Q q => by
    obtain ⟨m, xs, e1, h1, h2⟩ := of_tup r
    refine ⟨m, xs, by rw [e1], Or.inr (SqT.of (hf.low _ _ h1)), fun l hl => rt_new hf h2 q hl⟩) (he := he)
theorem repL_ints {F : Hp} (l : List Int) : RepL g F (l.map D.int) (l.map V.int) := repL_map D.int V.int rep_int l
theorem ints_of {F : Hp} {l : List Int} {xs : List V} (h : RepL g F (l.map D.int) xs) : xs = l.map V.int := repL_of D.int V.int (fun _ _ => of_int) h
theorem sorted_is {l m : List Int} (hp : m.Perm l) (hs : m.Pairwise (· ≤ ·)) : m = l.mergeSort (fun a b => decide (a ≤ b)) := by
  refine PySem.W.ksm_same (hp.trans (List.mergeSort_perm _ _).symm) hs ?_
  have h := List.pairwise_mergeSort (le := fun a b : Int => decide (a ≤ b)) (fun a b c h1 h2 => by simp at *; omega) (fun a b => by simp; omega) l
  exact h.imp fun h => by simpa using h
theorem ev_sorted {l : List Int} (hK : X.K = g.K) (fr : Free X.mg) (h : EvD g X G e (.lst (l.map D.int))) (hl : l.length < 64) (hg : Gl X "sorted" := by rfl) (he : starEach [e] X.env = (false, eval e X.env) :: starEach [] X.env := by rfl) :
    Ev g X G (.Call (.Name "sorted" p) [e] [] pos) (.m ((l.mergeSort fun a b => decide (a ≤ b)).map D.int)) :=
  ev_b1 cr_sorted hg fr.sorted (by decide +kernel) h (fun F H v hf r Q q => by
    obtain ⟨m, xs, e1, h1, h2⟩ := of_lst r
    have e2 := ints_of h2
    subst e2
    refine ⟨m, l, by rw [e1], SqL.of (hf.low _ _ h1), hl, fun ns' p hp hs hn => ?_⟩
    rw [sorted_is hp hs]
    exact rt_new hf (repL_ints _) q hn) (he := he)
theorem ev_max2 {i j : Int} (hc : X.calm = true) (fr : Free X.mg) (h1 : EvD g X G a (.int i)) (h2 : EvD g X G b (.int j)) (hg : Gl X "max" := by rfl) (he : starEach [a, b] X.env = (false, eval a X.env) :: starEach [b] X.env := by rfl)
    (he2 : starEach [b] X.env = (false, eval b X.env) :: starEach [] X.env := by rfl) (hpl : (backTo pos (starEach [b] X.env)).any (·.1) = false := by rfl) : EvD g X G (.Call (.Name "max" p) [a, b] [] pos) (.int (if j > i then j else i)) :=
  ev_b2 (call_max2 hc) hg fr.max (by decide +kernel) h1 h2 (fun F H v w hf r1 r2 Q q => ⟨i, j, by rw [of_int r1, of_int r2], q _ F H (Up.refl hf) (rep_int _)⟩) (he := he) (he2 := he2) (hpl := hpl)
theorem ev_min2 {i j : Int} (hc : X.calm = true) (fr : Free X.mg) (h1 : EvD g X G a (.int i)) (h2 : EvD g X G b (.int j)) (hg : Gl X "min" := by rfl) (he : starEach [a, b] X.env = (false, eval a X.env) :: starEach [b] X.env := by rfl)
    (he2 : starEach [b] X.env = (false, eval b X.env) :: starEach [] X.env := by rfl) (hpl : (backTo pos (starEach [b] X.env)).any (·.1) = false := by rfl) : EvD g X G (.Call (.Name "min" p) [a, b] [] pos) (.int (if j < i then j else i)) :=
  ev_b2 (call_min2 hc) hg fr.min (by decide +kernel) h1 h2 (fun F H v w hf r1 r2 Q q => ⟨i, j, by rw [of_int r1, of_int r2], q _ F H (Up.refl hf) (rep_int _)⟩) (he := he) (he2 := he2) (hpl := hpl)
theorem ev_minL {l : List Int} {m : Int} (hK : X.K = g.K) (hc : X.calm = true) (fr : Free X.mg) (h : EvD g X G e (.lst (l.map D.int))) (h1 : m ∈ l) (h2 : ∀ y ∈ l, m ≤ y) (hg : Gl X "min" := by rfl) (he : starEach [e] X.env = (false, eval e X.env) :: starEach [] X.env := by rfl) :
    EvD g X G (.Call (.Name "min" p) [e] [] pos) (.int m) :=
  ev_b1 (cr_min hc) hg fr.min (by decide +kernel) h (fun F H v hf r Q q => by
    obtain ⟨t, xs, e1, h3, h4⟩ := of_lst r
    have e2 := ints_of h4
    subst e2
    refine ⟨t, l, by rw [e1], SqL.of (hf.low _ _ h3), List.length_pos_of_mem h1, fun m' k1 k2 => ?_⟩
    have e3 : m' = m := Int.le_antisymm (k2 m h1) (h2 m' k1)
    rw [e3]
    exact q _ F H (Up.refl hf) (rep_int _)) (he := he)
/-- the ints a .. b - 1 -/
def rg (a b : Int) : List Int := (List.range (b - a).toNat).map fun i => a + (i : Nat)
theorem ev_listRg {n : Int} (hc : X.calm = true) (fr : Free X.mg) (h : EvD g X G e (.int n)) (hn : 0 ≤ n ∧ n ≤ 100000) (hg : Gl X "list" := by rfl) (hg2 : Gl X "range" := by rfl) (he : starEach [e] X.env = (false, eval e X.env) :: starEach [] X.env := by rfl)
    (na : starEach [(.Call (.Name "range" p2) [e] [] pos2)] X.env = (false, eval (.Call (.Name "range" p2) [e] [] pos2) X.env) :: starEach [] X.env := by rfl) :
    Ev g X G (.Call (.Name "list" p) [.Call (.Name "range" p2) [e] [] pos2] [] pos) (.m ((rg 0 n).map D.int)) := by
  intro F H σ ow k Q q
  refine we_of (pe_listRg hc hg fr.list (prg_1 hg2 fr.range pe_we he) na) ?_
  refine h F H σ ow k _ fun v F1 H1 u r1 => ⟨n, of_int r1, ⟨by omega, by omega, by omega, by omega, by omega⟩, fun m hm => ?_⟩
  have e : rgV 0 n = (rg 0 n).map V.int := by
    unfold rgV rg
    rw [List.map_map]
    rfl
  rw [e]
  exact rt_new u.fit (repL_ints _) (fun v F2 H2 u2 r2 => q v F2 H2 (u.trans u2) (r2.back u.ext)) hm
theorem ev_lenSet {l : List Int} (hK : X.K = g.K) (hc : X.calm = true) (fr : Free X.mg) (h : EvD g X G e (.lst (l.map D.int))) (hn : l.Nodup) (hl : l.length ≤ 4000) (hg : Gl X "len" := by rfl) (hg2 : Gl X "set" := by rfl) (he : starEach [e] X.env = (false, eval e X.env) :: starEach [] X.env := by rfl) :
    EvD g X G (.Call (.Name "len" p) [.Call (.Name "set" p2) [e] [] pos2] [] pos) (.int l.length) := by
  intro F H σ ow k Q q
  refine we_of (RZ.pe_lenSetI hg fr.len hg2 fr.set pe_we hc he) ?_
  refine h F H σ ow k _ fun v F1 H1 u r1 => ?_
  obtain ⟨t, xs, e1, h3, h4⟩ := of_lst r1
  have e2 := ints_of h4
  subst e2
  exact ⟨t, l, e1, by rw [hK]; exact SqL.of (u.fit.low _ _ h3), hn, hl, q _ F1 H1 u (rep_int _)⟩

/-! ### isinstance -/
def D.ty : D → Option String
  | .non => some "NoneType"
  | .bl _ => some "bool"
  | .int _ => some "int"
  | .str _ => some "str"
  | .lst _ => some "list"
  | .tup _ => some "tuple"
  | _ => none
theorem tyx_rep {F H : Hp} {d : D} {v : V} {t : String} (hf : Sub F H) (r : Rep g F d v) (h : d.ty = some t) : TyX g.K H v (.type t) := by
  cases d with
  | non => cases h; rw [of_non r]; exact .base .non
  | bl _ => cases h; rw [of_bl r]; exact .base (.bl _)
  | int _ => cases h; rw [of_int r]; exact .base (.int _)
  | str _ => cases h; rw [of_str r]; exact .base (.str _)
  | lst _ =>
    cases h
    obtain ⟨a, xs, e, h1, _⟩ := of_lst r
    rw [e]
    exact .base (.lst (hf _ _ h1))
  | tup _ =>
    cases h
    obtain ⟨a, xs, e, h1, _⟩ := of_tup r
    rw [e]
    exact .base (.tup (hf _ _ h1))
  | _ => cases h
theorem ev_isi {d : D} {t T : String} {r : Bool} {y : Str} {py : Pos} (hK : X.K = g.K) (fr : Free X.mg) (h : EvD g X G e d) (hd : d.ty = some t) (hT : bootBuiltins y = some (.type T)) (hk : kitB t T = some r) (hm : X.mg y = none) (hgy : Gl X y := by rfl) (hg : Gl X "isinstance" := by rfl)
    (hy : y ≠ "__name__" := by decide) (hydb : (y == ("__debug__" : Str)) = false := by decide)
    (he : starEach [e, .Name y py] X.env = (false, eval e X.env) :: starEach [.Name y py] X.env := by rfl) (he2 : starEach [.Name y py] X.env = (false, eval (.Name y py) X.env) :: starEach [] X.env := by rfl) (hpl : (backTo pos (starEach [.Name y py] X.env)).any (·.1) = false := by rfl) :
    EvD g X G (.Call (.Name "isinstance" p) [e, .Name y py] [] pos) (.bl r) := by
  intro F H σ ow k Q q
  refine we_of (pe_callB call_isi hg fr.isinstance (by decide +kernel) (pa_cons pe_we (pa_cons (pe_bltn (v := .ty T) hgy hm hT rfl hy hydb) pa_nil he2) he) (he := he) (hpl := hpl)) ?_
  refine h F H σ ow k _ fun v F1 H1 u r1 => ?_
  exact ⟨v, .ty T, .type t, .type T, r, rfl, .ty T, by rw [hK]; exact tyx_rep u.fit.low r1 hd, kit_ty hk, q _ F1 H1 u (rep_bl r)⟩

/-! ### the text's own defs -/
/-- what a def promises: R tells, of the arguments' data, what comes -/
def Prom (g : Gb) (R : List D → Sl → Prop) : Sp := fun vs H Q _ => ∃ ds r F, R ds r ∧ RepL g F ds vs ∧ Fit g F H ∧ ∀ v F' H', Up g F H F' H' → RtOk g F' H H' r v → Q v H'
/-- a def of the module, known by its name -/
def Cal (P : Program) (w : World) (g : Gb) (mg : Str → Option Value) (base : Heap) (x : Str) (k : Nat) (R : List D → Sl → Prop) : Prop :=
  ∃ (f : Addr) (fd : FuncData) (ps : List Str), FnOk P w g.K mg base CX0 k f fd ps (Prom g R) ∧ mg x = some (.ref f) ∧ PySem.W.keepIn g.K (.ref f) = true ∧ Binds g.K fd ps []
/-- a method of House -/
def MCal (P : Program) (w : World) (g : Gb) (mg : Str → Option Value) (base : Heap) (m : Str) (k : Nat) (R : List D → Sl → Prop) : Prop :=
  ∃ (f : Addr) (fd : FuncData) (ps : List Str), FnOk P w g.K mg base CX0 k f fd ps (Prom g R) ∧ Meth g.K g.C m f ∧ Binds g.K fd ps []
/-- a def that raises nothing, called -/
theorem ev_call {k : Nat} {R : List D → Sl → Prop} {ds : List D} {r : Sl} (hK : X.K = g.K) (C : Cal X.prog X.w g X.mg X.base x k R) (hr : Room k X.A) (ha : EvA g X G (e :: es) ds) (hR : R ds r) (hg : Gl X x := by rfl) (hdb : (x == ("__debug__" : Str)) = false := by decide)
    (he : starEach (e :: es) X.env = (false, eval e X.env) :: starEach es X.env := by rfl) (hpl : (backTo pos (starEach es X.env)).any (·.1) = false := by rfl) : Ev g X G (.Call (.Name x p) (e :: es) [] pos) r := by
  obtain ⟨f, fd, ps, F0, hm, hk, hb⟩ := C
  intro F H σ ow k Q q
  refine we_of (pe_call (X := X) (by rw [hK]; exact F0) hr hg hm (by rw [hK]; exact hk) (by rw [hK]; exact hb) .nil pass0 pa_wa hdb he hpl) ?_
  refine ha F H σ ow k _ fun vs F1 H1 u r1 => ?_
  rw [List.append_nil]
  exact ⟨ds, r, F1, hR, r1, u.fit, fun v F2 H2 u2 r2 => q v F2 H2 (u.trans u2) (r2.back u.ext)⟩

/-! ### House: attributes, methods -/
def FldIs (f : Str) (h : Hs) (d : D) : Prop := ∀ (g : Gb) (F : Hp) (p q r : Addr), F p = some (.lst (h.pts.map vOi)) → F q = some (.lst (h.kinds.map V.int)) → F r = some (.lst (h.row.map V.int)) → ∃ v, (flds h p q r).lookup f = some v ∧ Rep g F d v
theorem ev_fld {f : Str} {h : Hs} {d : D} (hK : X.K = g.K) (c : Cls g.K g.C) (n : NoAttr g.K g.C f) (hf : FldIs f h d) (ho : EvD g X G o (.hs h)) (hb : attributeBase o f X.env (eval o X.env) = eval o X.env := by rfl) : EvD g X G (.Attribute o f pos) d := by
  intro F H σ ow k Q q
  refine we_of (pe_fld pe_we hb) ?_
  refine ho F H σ ow k _ fun v F1 H1 u r1 => ?_
  obtain ⟨a, e, dx, p, q', r, h1, h2, h3, h4⟩ := of_hs r1
  obtain ⟨v', l, r2⟩ := hf g F1 p q' r h2 h3 h4
  exact ⟨a, g.C, dx, _, v', e, u.fit.low _ _ h1, by rw [hK]; exact c, by rw [hK]; exact n, l, q v' F1 H1 u r2⟩
theorem ev_meth {m : Str} {k : Nat} {h : Hs} {R : List D → Sl → Prop} {ds : List D} {r : Sl} {pl : Sem Bool} (hK : X.K = g.K) (c : Cls g.K g.C) (C : MCal X.prog X.w g X.mg X.base m k R) (hl : ∀ p q r, (flds h p q r).lookup m = none) (hr : Room k X.A) (ho : EvD g X G o (.hs h)) (ha : EvA g X G (e :: es) ds) (hR : R (.hs h :: ds) r)
    (hst : starEach (e :: es) X.env = (false, eval e X.env) :: starEach es X.env := by rfl) (hpl : (backTo pos (starEach es X.env)).any (·.1) = false := by rfl)
    (ht : eval (.Call (.Attribute o m apos) (e :: es) [] pos) X.env = (do
      let ov ← eval o X.env
      standAt apos.atName
      let (f, first) ← holding [ov] (getMethod ov m pl)
      callWith pos f first (backTo pos (starEach (e :: es) X.env)) (backToKw pos (keywordEach [] X.env))) := by rfl) : Ev g X G (.Call (.Attribute o m apos) (e :: es) [] pos) r := by
  obtain ⟨f, fd, ps, F0, hm, hb⟩ := C
  intro F H σ ow k Q q
  refine we_of (pe_meth (X := X) (C := g.C) pe_we (by rw [hK]; exact c) (by rw [hK]; exact hm) (by rw [hK]; exact F0) hr (by rw [hK]; exact hb) .nil pass0 pa_wa hst hpl ht) ?_
  refine ho F H σ ow k _ fun v F1 H1 u r1 => ?_
  obtain ⟨a, e0, dx, p, q', r', h1, h2, h3, h4⟩ := of_hs r1
  refine ⟨a, dx, _, e0, u.fit.low _ _ h1, hl p q' r', ?_⟩
  refine ha F1 H1 σ ow (k.up u) _ fun vs F2 H2 u2 r2 => ?_
  rw [List.append_nil]
  exact ⟨_, r, F2, hR, repL_cons (Rep.mono u2.sub _ _ r1) r2, u2.fit, fun v F3 H3 u3 r3 => q v F3 H3 ((u.trans u2).trans u3) (r3.back (u.trans u2).ext)⟩
end
end CH

/-! Choosehall: statements, loops, comprehensions, from the data of the frame's slots. -/
namespace CH
open PySem L2

/-- what is wanted behind a statement, told of the slots' data -/
structure KE where
  nx : List Sl → Prop
  rt : Sl → Prop
  bk : List Sl → Prop := fun _ => False
  ct : List Sl → Prop := fun _ => False

/-- since the def's entry (frozen B.1, all B.2) nothing that was there has changed; the slots' own objects are younger -/
structure Bk (g : Gb) (B : Hp × Hp) (G : List Sl) (F H : Hp) (ow : Nat → Addr) : Prop where
  up : Up g B.1 B.2 F H
  fresh : ∀ i s, G[i]? = some s → s.owned = true → Fresh B.2 (ow i)

def nxP (g : Gb) (B : Hp × Hp) (F1 : Hp) (K : List Sl → Prop) (σ : St) (H : Hp) : Prop := ∃ G F ow, K G ∧ Ok g G F H σ ow ∧ Bk g B G F H ow ∧ Sub F1 F
def rtP (g : Gb) (B : Hp × Hp) (K : Sl → Prop) (v : V) (H : Hp) : Prop := ∃ r F, K r ∧ Up g B.1 B.2 F H ∧ RtOk g F B.2 H r v
def ends (g : Gb) (B : Hp × Hp) (F1 : Hp) (k : KE) : Ends := { nx := nxP g B F1 k.nx, rt := rtP g B k.rt, bk := nxP g B F1 k.bk, ct := nxP g B F1 k.ct }

def WS (X : Cx) (st : Stmt) : TS := fun D σ H => ∀ pins s, Inv X pins σ H s → wpAny (model X.prog X.w) X.A (exec st X.env) (SP X pins D) X.xe s
def WSs (X : Cx) (st : List Stmt) : TS := fun D σ H => ∀ pins s, Inv X pins σ H s → wpAny (model X.prog X.w) X.A (execs st X.env) (SP X pins D) X.xe s
theorem ps_ws {X : Cx} {st : Stmt} : PS X st (WS X st) := ⟨fun pins s _ _ _ I h => h pins s I⟩
theorem pss_wss {X : Cx} {st : List Stmt} : PSs X st (WSs X st) := ⟨fun pins s _ _ _ I h => h pins s I⟩
theorem ws_of {X : Cx} {st : Stmt} {t : TS} (h : PS X st t) {D : Ends} {σ : St} {H : Hp} (q : t D σ H) : WS X st D σ H := fun pins s I => h.run pins s σ H D I q
theorem wss_of {X : Cx} {st : List Stmt} {t : TS} (h : PSs X st t) {D : Ends} {σ : St} {H : Hp} (q : t D σ H) : WSs X st D σ H := fun pins s I => h.run pins s σ H D I q
theorem SP.mono {X : Cx} {pins : List (Addr × Obj)} {D D' : Ends} (hn : ∀ σ H, D.nx σ H → D'.nx σ H) (hr : ∀ v H, D.rt v H → D'.rt v H) (hb : ∀ σ H, D.bk σ H → D'.bk σ H) (hc : ∀ σ H, D.ct σ H → D'.ct σ H) {f : Flow} {s : Shared} (h : SP X pins D f s) : SP X pins D' f s := by
  cases f with
  | next =>
    obtain ⟨σ, H, I, q⟩ := h
    exact ⟨σ, H, I, hn σ H q⟩
  | brk =>
    obtain ⟨σ, H, I, q⟩ := h
    exact ⟨σ, H, I, hb σ H q⟩
  | cont =>
    obtain ⟨σ, H, I, q⟩ := h
    exact ⟨σ, H, I, hc σ H q⟩
  | ret u =>
    obtain ⟨v, σ, H, I, r, q⟩ := h
    exact ⟨v, σ, H, I, r, hr v H q⟩
theorem WS.imp {X : Cx} {st : Stmt} {D D' : Ends} {σ : St} {H : Hp} (h : WS X st D σ H) (hn : ∀ σ H, D.nx σ H → D'.nx σ H) (hr : ∀ v H, D.rt v H → D'.rt v H) (hb : ∀ σ H, D.bk σ H → D'.bk σ H) (hc : ∀ σ H, D.ct σ H → D'.ct σ H) : WS X st D' σ H :=
  fun pins s I => thn (h pins s I) fun _ _ q => SP.mono hn hr hb hc q
theorem WSs.imp {X : Cx} {st : List Stmt} {D D' : Ends} {σ : St} {H : Hp} (h : WSs X st D σ H) (hn : ∀ σ H, D.nx σ H → D'.nx σ H) (hr : ∀ v H, D.rt v H → D'.rt v H) (hb : ∀ σ H, D.bk σ H → D'.bk σ H) (hc : ∀ σ H, D.ct σ H → D'.ct σ H) : WSs X st D' σ H :=
  fun pins s I => thn (h pins s I) fun _ _ q => SP.mono hn hr hb hc q

/-- a statement; a block -/
def S1 (g : Gb) (X : Cx) (G : List Sl) (st : Stmt) (k : KE) : Prop := ∀ B F H σ ow, Ok g G F H σ ow → Bk g B G F H ow → ∀ F1, Sub F1 F → WS X st (ends g B F1 k) σ H
def Ss (g : Gb) (X : Cx) (G : List Sl) (st : List Stmt) (k : KE) : Prop := ∀ B F H σ ow, Ok g G F H σ ow → Bk g B G F H ow → ∀ F1, Sub F1 F → WSs X st (ends g B F1 k) σ H

section
variable {g : Gb} {G : List Sl} {F F' H H' : Hp} {σ : St} {ow : Nat → Addr} {B : Hp × Hp}
theorem Bk.go (b : Bk g B G F H ow) (u : Up g F H F' H') : Bk g B G F' H' ow := ⟨b.up.trans u, b.fresh⟩
/-- a slot is stored anew -/
theorem Ok.set (k : Ok g G F H σ ow) {i : Nat} {a : Addr} {s : Sl} {o : Option V} (hs : SlotOk g F H a s o) (ha : s.owned = true → ∀ j t, j ≠ i → G[j]? = some t → t.owned = true → ow j ≠ a) : Ok g (G.set i s) F H (σ.set i o) (fun j => if j = i then a else ow j) := by
  have get : ∀ j t, (G.set i s)[j]? = some t → (j = i ∧ t = s) ∨ (j ≠ i ∧ G[j]? = some t) := fun j t e => by
    by_cases hj : j = i
    · subst hj
      have hl : j < G.length := by
        have := (List.getElem?_eq_some_iff.mp e).1
        rw [List.length_set] at this
        exact this
      rw [List.getElem?_set_self hl] at e
      exact Or.inl ⟨rfl, (Option.some.inj e).symm⟩
    · rw [List.getElem?_set_ne (Ne.symm hj)] at e
      exact Or.inr ⟨hj, e⟩
  refine ⟨k.fit, by rw [List.length_set, List.length_set, k.len], fun j t e => ?_, fun j l t t' e e' w w' q => ?_⟩
  · rcases get j t e with ⟨e1, e2⟩ | ⟨e1, e2⟩
    · subst e1
      subst e2
      have hl : j < σ.length := by
        have := (List.getElem?_eq_some_iff.mp e).1
        rw [List.length_set] at this
        rw [k.len]
        exact this
      exact ⟨o, List.getElem?_set_self hl, by rw [if_pos rfl]; exact hs⟩
    · obtain ⟨o', h1, h2⟩ := k.at_ j t e2
      exact ⟨o', by rw [List.getElem?_set_ne (Ne.symm e1)]; exact h1, by rw [if_neg e1]; exact h2⟩
  · rcases get j t e with ⟨e1, e2⟩ | ⟨e1, e2⟩
    · rcases get l t' e' with ⟨f1, f2⟩ | ⟨f1, f2⟩
      · rw [e1, f1]
      · have q' : (if j = i then a else ow j) = (if l = i then a else ow l) := q
        rw [if_pos e1, if_neg f1] at q'
        rw [e2] at w
        exact absurd q'.symm (ha w l t' f1 f2 w')
    · rcases get l t' e' with ⟨f1, f2⟩ | ⟨f1, f2⟩
      · have q' : (if j = i then a else ow j) = (if l = i then a else ow l) := q
        rw [if_neg e1, if_pos f1] at q'
        rw [f2] at w'
        exact absurd q' (ha w' j t e1 e2 w)
      · have q' : (if j = i then a else ow j) = (if l = i then a else ow l) := q
        rw [if_neg e1, if_neg f1] at q'
        exact k.inj j l t t' e2 f2 w w' q'
theorem get_set {i j : Nat} {s t : Sl} (e : (G.set i s)[j]? = some t) : (j = i ∧ t = s) ∨ (j ≠ i ∧ G[j]? = some t) := by
  by_cases hj : j = i
  · subst hj
    have hl : j < G.length := by
      have := (List.getElem?_eq_some_iff.mp e).1
      rw [List.length_set] at this
      exact this
    rw [List.getElem?_set_self hl] at e
    exact Or.inl ⟨rfl, (Option.some.inj e).symm⟩
  · rw [List.getElem?_set_ne (Ne.symm hj)] at e
    exact Or.inr ⟨hj, e⟩
theorem Bk.set (b : Bk g B G F H ow) {i : Nat} {a : Addr} {s : Sl} (ha : s.owned = true → Fresh B.2 a) : Bk g B (G.set i s) F H (fun j => if j = i then a else ow j) := by
  refine ⟨b.up, fun j t e w => ?_⟩
  rcases get_set e with ⟨e1, e2⟩ | ⟨e1, e2⟩
  · rw [e2] at w
    show Fresh B.2 (if j = i then a else ow j)
    rw [if_pos e1]
    exact ha w
  · show Fresh B.2 (if j = i then a else ow j)
    rw [if_neg e1]
    exact b.fresh j t e2 w
/-- a value that has come is stored in a slot -/
theorem store {i : Nat} {r : Sl} {v : V} (k : Ok g G F H σ ow) (b : Bk g B G F H ow) (u : Up g F H F' H') (h : RtOk g F' H H' r v) (hr : r ≠ .un := by intro z; cases z) :
    ∃ ow', Ok g (G.set i r) F' H' (σ.set i (some v)) ow' ∧ Bk g B (G.set i r) F' H' ow' := by
  have k1 := k.up u
  have b1 := b.go u
  cases r with
  | un => exact absurd rfl hr
  | v d => exact ⟨_, k1.set (a := 0) (s := .v d) ⟨v, rfl, h⟩ (fun z => by cases z), b1.set (fun z => by cases z)⟩
  | m ds =>
    obtain ⟨l, xs, e, hf, h1, h2, h3⟩ := h
    exact ⟨_, k1.set (a := l) (s := .m ds) ⟨by rw [e], h2, xs, h1, h3⟩ (fun _ j t _ e2 w => k.apart hf e2 w), b1.set (fun _ => hf.back b.up.ext)⟩
  | dc kvs =>
    obtain ⟨l, e, hf, h1, h2⟩ := h
    exact ⟨_, k1.set (a := l) (s := .dc kvs) ⟨by rw [e], h2, h1⟩ (fun _ j t _ e2 w => k.apart hf e2 w), b1.set (fun _ => hf.back b.up.ext)⟩
  | nw d => exact ⟨_, k1.set (a := 0) (s := .nw d) ⟨v, rfl, Rep.mono newp_sub _ _ h⟩ (fun z => by cases z), b1.set (fun z => by cases z)⟩
  | pr pre ds =>
    obtain ⟨p, vs, l, xs, e, h4, h5, hf, h1, h2, h3⟩ := h
    exact ⟨_, k1.set (a := l) (s := .pr pre ds) ⟨p, vs, by rw [e], h4, h5, h2, xs, h1, h3⟩ (fun _ j t _ e2 w => k.apart hf e2 w), b1.set (fun _ => hf.back b.up.ext)⟩
end

section
variable {g : Gb} {X : Cx} {G : List Sl} {a c e o : Expr} {st : Stmt} {sts body els : List Stmt} {pos p apos : Pos} {x : Str} {k : KE} {r : Sl}
theorem ss_nil (h : k.nx G) : Ss g X G [] k := fun B F H σ ow ok bk F1 s1 => wss_of pss_nil ⟨G, F, ow, h, ok, bk, s1⟩
theorem ss_cons (h : S1 g X G st { k with nx := fun G' => Ss g X G' sts k }) : Ss g X G (st :: sts) k := fun B F H σ ow ok bk F1 s1 => by
  refine wss_of (pss_cons ps_ws pss_wss) ?_
  have q0 := h B F H σ ow ok bk F1 s1
  refine WS.imp q0 (fun σ H q => ?_) (fun _ _ q => q) (fun _ _ q => q) (fun _ _ q => q)
  obtain ⟨G', F', ow', hk, ok', bk', s'⟩ := q
  exact hk B F' H σ ow' ok' bk' F1 s'
theorem ss_one (h : S1 g X G st k) : Ss g X G [st] k := fun B F H σ ow ok bk F1 s1 => wss_of (pss_one ps_ws) (h B F H σ ow ok bk F1 s1)
theorem s_pass (h : k.nx G) : S1 g X G (.Pass pos) k := fun B F H σ ow ok bk F1 s1 => ws_of ps_pass ⟨G, F, ow, h, ok, bk, s1⟩
theorem s_ret (h : Ev g X G e r) (q : k.rt r) : S1 g X G (.Return (some e) pos) k := fun B F H σ ow ok bk F1 s1 => by
  refine ws_of (ps_ret pe_we) ?_
  refine h F H σ ow ok _ fun v F2 H2 u r2 => ?_
  exact ⟨r, F2, q, bk.up.trans u, r2.back bk.up.ext⟩
/-- return x, x a list of the def's own -/
theorem s_retOwn (i : Nat) {ds : List D} (q : k.rt (.m ds)) (hG : G[i]? = some (.m ds) := by rfl) (hN : X.N[i]? = some x := by rfl) (hv : Vis X.env.scope x := by first | exact Or.inl rfl | exact Or.inr (Or.inl rfl) | exact Or.inr (Or.inr rfl))
    (hd : (x == ("__debug__" : Str)) = false := by decide) (hcd : (x == ("__classdict__" : Str)) = false := by decide) : S1 g X G (.Return (some (.Name x p)) pos) k := fun B F H σ ow ok bk F1 s1 => by
  refine ws_of (ps_ret (pe_var hN hv hd hcd)) ?_
  obtain ⟨o, h1, h2, h3, xs, h4, h5⟩ := ok.at_ i _ hG
  exact ⟨.ref (ow i), by rw [h1, h2], .m ds, F, q, bk.up, ow i, xs, rfl, bk.fresh i _ hG rfl, h4, h3, h5⟩
theorem s_retN (q : k.rt (.v .non)) : S1 g X G (.Return none pos) k := fun B F H σ ow ok bk F1 s1 => ws_of ps_retN ⟨.v .non, F, q, bk.up, rep_non⟩
theorem s_if {b : Bool} (h : EvT g X G c b) (h1 : b = true → Ss g X G body k) (h2 : b = false → Ss g X G els k) : S1 g X G (.If c body els pos) k := fun B F H σ ow ok bk F1 s1 => by
  refine ws_of (ps_if pt_wt pss_wss pss_wss) ?_
  refine h F H σ ow ok _ fun F2 H2 u => ?_
  cases b with
  | true => exact iteT (h1 rfl B F2 H2 σ ow (ok.up u) (bk.go u) F1 (s1.trans u.sub))
  | false => exact iteF (h2 rfl B F2 H2 σ ow (ok.up u) (bk.go u) F1 (s1.trans u.sub))
theorem s_expr (h : Ev g X G e r) (q : k.nx G) (hs : swapsWith e none pos.line X.env = pure false := by rfl) : S1 g X G (.Expr e pos) k := fun B F H σ ow ok bk F1 s1 => by
  refine ws_of (ps_expr pe_we hs) ?_
  exact h F H σ ow ok _ fun v F2 H2 u _ => ⟨G, F2, ow, q, ok.up u, bk.go u, s1.trans u.sub⟩
theorem s_asg (i : Nat) (h : Ev g X G e r) (q : k.nx (G.set i r)) (hr : r ≠ .un := by intro z; cases z) (hN : X.N.Nodup := by exact nd_by (by kernel_rfl)) (hi : X.N[i]? = some x := by rfl) (hx : Loc X.env.scope x := by first | exact Or.inl rfl | exact Or.inr rfl) (hs : swapsWith e (some (.Name x p)) pos.line X.env = pure false := by rfl)
    (hf : X.fn x = true ∨ X.env.scope.names.lookup x = some .local := by first | exact .inl rfl | exact .inr rfl) : S1 g X G (.Assign [.Name x p] e pos) k := fun B F H σ ow ok bk F1 s1 => by
  refine ws_of (ps_set hN hi hx pe_we hs hf) ?_
  refine h F H σ ow ok _ fun v F2 H2 u r2 => ?_
  obtain ⟨ow', k1, b1⟩ := store (i := i) ok bk u r2 hr
  exact ⟨_, F2, ow', q, k1, b1, s1.trans u.sub⟩
/-- a list of the frame's own is frozen -/
theorem ss_frz (i : Nat) {ds : List D} (hG : G[i]? = some (.m ds)) (h : Ss g X (G.set i (.v (.lst ds))) sts k) : Ss g X G sts k := fun B F H σ ow ok bk F1 s1 => by
  obtain ⟨o, h1, h2, h3, xs, h4, h5⟩ := ok.at_ i _ hG
  have hf := bk.fresh i _ hG rfl
  have sb : Sub F (upd F (ow i) (.lst xs)) := sub_upd h3
  have fit := fit_frz ok.fit h4 (nt_lst (xs := xs))
  have up : Up g B.1 B.2 (upd F (ow i) (.lst xs)) H := ⟨bk.up.ext, bk.up.sub.trans sb, fun b u e n f => by
    rw [upd_ne (hf.ne e n)]
    exact bk.up.grow b u e n f, fit⟩
  have hl : i < G.length := (List.getElem?_eq_some_iff.mp hG).1
  have k1 : Ok g (G.set i (.v (.lst ds))) (upd F (ow i) (.lst xs)) H (σ.set i o) (fun j => if j = i then 0 else ow j) := by
    refine ⟨fit, by rw [List.length_set, List.length_set, ok.len], fun j t e => ?_, fun j l t t' e e' w w' q => ?_⟩
    · rcases get_set e with ⟨e1, e2⟩ | ⟨e1, e2⟩
      · rw [e1, e2]
        exact ⟨o, List.getElem?_set_self (by rw [ok.len]; exact hl), .ref (ow i), h2, rep_lst upd_same (RepL.mono sb _ _ h5)⟩
      · obtain ⟨o', f1, f2⟩ := ok.at_ j t e2
        refine ⟨o', by rw [List.getElem?_set_ne (Ne.symm e1)]; exact f1, ?_⟩
        rw [if_neg e1]
        have apart : t.owned = true → ow j ≠ ow i := fun w q => e1 (ok.inj j i t _ e2 hG w rfl q)
        cases t with
        | un => exact True.intro
        | v d =>
          obtain ⟨v, z1, z2⟩ := f2
          exact ⟨v, z1, Rep.mono sb _ _ z2⟩
        | m es =>
          obtain ⟨z1, z2, ys, z3, z4⟩ := f2
          exact ⟨z1, by rw [upd_ne (apart rfl)]; exact z2, ys, z3, RepL.mono sb _ _ z4⟩
        | dc kvs =>
          obtain ⟨z1, z2, z3⟩ := f2
          exact ⟨z1, by rw [upd_ne (apart rfl)]; exact z2, z3⟩
        | nw d =>
          obtain ⟨v, z1, z2⟩ := f2
          exact ⟨v, z1, Rep.mono sb _ _ z2⟩
        | pr pre es =>
          obtain ⟨p, vs, z1, z5, z6, z2, ys, z3, z4⟩ := f2
          exact ⟨p, vs, z1, sb _ _ z5, RepL.mono sb _ _ z6, by rw [upd_ne (apart rfl)]; exact z2, ys, z3, RepL.mono sb _ _ z4⟩
    · rcases get_set e with ⟨e1, e2⟩ | ⟨e1, e2⟩
      · rw [e2] at w
        cases w
      · rcases get_set e' with ⟨f1, f2⟩ | ⟨f1, f2⟩
        · rw [f2] at w'
          cases w'
        · have q' : (if j = i then 0 else ow j) = (if l = i then 0 else ow l) := q
          rw [if_neg e1, if_neg f1] at q'
          exact ok.inj j l t t' e2 f2 w w' q'
  have b1 : Bk g B (G.set i (.v (.lst ds))) (upd F (ow i) (.lst xs)) H (fun j => if j = i then 0 else ow j) := by
    refine ⟨up, fun j t e w => ?_⟩
    rcases get_set e with ⟨e1, e2⟩ | ⟨e1, e2⟩
    · rw [e2] at w
      cases w
    · show Fresh B.2 (if j = i then 0 else ow j)
      rw [if_neg e1]
      exact bk.fresh j t e2 w
  have es : σ.set i o = σ := by
    apply List.ext_getElem?
    intro n
    by_cases hn : n = i
    · rw [hn, List.getElem?_set_self (by rw [ok.len]; exact hl)]
      exact h1.symm
    · rw [List.getElem?_set_ne (Ne.symm hn)]
  rw [es] at k1
  exact h B _ H σ _ k1 b1 F1 (s1.trans sb)

/-! ### what a loop walks -/
def Src (g : Gb) (J : It) (items : List D) (F : Hp) : Prop := ∀ F2 H2, Sub F F2 → Sub F2 H2 → (∀ i, i < items.length → J.go i H2) ∧ J.stop items.length H2 ∧ ∀ i v H3, i < items.length → J.yld i H2 v H3 → H3 = H2 ∧ ∃ d, items[i]? = some d ∧ Rep g F2 d v
def WI (X : Cx) (tg iter : Expr) : TI := fun σ H R => ∀ pins s, Inv X pins σ H s → wpAny (model X.prog X.w) X.A (eval iter X.env) (fun v s1 => wpAny (model X.prog X.w) X.A (pyIter v) (PIE X pins σ tg R) X.xe s1) X.xe s
theorem pi_wi {X : Cx} {tg iter : Expr} : PI X tg iter (WI X tg iter) := ⟨fun pins s _ _ _ I h => h pins s I⟩
theorem wi_of {X : Cx} {tg iter : Expr} {t : TI} (h : PI X tg iter t) {σ : St} {H : Hp} {R : It → Hp → Prop} (q : t σ H R) : WI X tg iter σ H R := fun pins s I => h.run pins s σ H R I q
def EvI (g : Gb) (X : Cx) (G : List Sl) (tg iter : Expr) (items : List D) : Prop := ∀ F H σ ow, Ok g G F H σ ow → ∀ R : It → Hp → Prop, (∀ J F' H', Up g F H F' H' → Src g J items F' → R J H') → WI X tg iter σ H R
theorem ei_list {tg : Expr} {ds : List D} (hK : X.K = g.K) (h : EvD g X G e (.lst ds)) : EvI g X G tg e ds := by
  intro F H σ ow ok R q
  refine wi_of (pi_list pe_we) ?_
  refine h F H σ ow ok _ fun v F1 H1 u r => ?_
  obtain ⟨a, xs, e1, h1, h2⟩ := of_lst r
  rw [hK]
  refine ⟨a, e1, ⟨xs, SqL.of (u.fit.low _ _ h1)⟩, q _ F1 H1 u fun F2 H2 s1 s2 => ?_⟩
  have hq : SqL g.K H2 a xs := SqL.of (s2 _ _ (s1 _ _ h1))
  refine ⟨fun i hi => ?_, ⟨xs, hq, by rw [h2.len]; exact Nat.le_refl _⟩, fun i v H3 hi y => ?_⟩
  · have hi' : i < xs.length := by rw [h2.len]; exact hi
    exact ⟨xs, xs[i], hq, by simp [hi']⟩
  · obtain ⟨y1, y2⟩ := y
    obtain ⟨d, d1, d2⟩ := h2.get (y2 xs hq)
    exact ⟨y1, d, d1, Rep.mono s1 _ _ d2⟩
theorem rg_len (a b : Int) : (rg a b).length = (b - a).toNat := by
  unfold rg
  rw [List.length_map, List.length_range]
theorem rg_at {a b : Int} {i : Nat} (h : i < (b - a).toNat) : (rg a b)[i]? = some (a + i) := by
  unfold rg
  rw [List.getElem?_map, List.getElem?_range h] <;> rfl
theorem src_rg (a b : Int) (n : Nat) (hn : n = (b - a).toNat) (F : Hp) : Src g (Itr a n) ((rg a b).map D.int) F := fun F2 H2 s1 s2 => by
  have hl : ((rg a b).map D.int).length = n := by rw [List.length_map, rg_len, hn]
  rw [hl]
  refine ⟨fun i hi => hi, Nat.le_refl _, fun i v H3 hi y => ⟨y.1, .int (a + i), ?_, by rw [y.2]; exact rep_int _⟩⟩
  rw [List.getElem?_map, rg_at (by omega)] <;> rfl
theorem ei_range {tg : Expr} {n : Int} (fr : Free X.mg) (h : EvD g X G e (.int n)) (hn : -100000 ≤ n ∧ n ≤ 100000) (hg : Gl X "range" := by rfl) (he : starEach [e] X.env = (false, eval e X.env) :: starEach [] X.env := by rfl) : EvI g X G tg (.Call (.Name "range" p) [e] [] pos) ((rg 0 n).map D.int) := by
  intro F H σ ow ok R q
  refine wi_of (pi_range1 hg fr.range (pa_cons pe_we pa_nil he) (hs := he)) ?_
  refine h F H σ ow ok _ fun v F1 H1 u r => ⟨n, by rw [of_int r], by omega, by omega, q _ F1 H1 u (src_rg 0 n _ (by omega) F1)⟩
theorem ei_range2 {tg b : Expr} {m n : Int} (fr : Free X.mg) (h0 : EvD g X G a (.int m)) (h : EvD g X G b (.int n)) (hm : -100000 ≤ m ∧ m ≤ 100000) (hn : -100000 ≤ n ∧ n ≤ 100000) (hg : Gl X "range" := by rfl) (he : starEach [a, b] X.env = [(false, eval a X.env), (false, eval b X.env)] := by rfl) (he2 : starEach [b] X.env = [(false, eval b X.env)] := by rfl) :
    EvI g X G tg (.Call (.Name "range" p) [a, b] [] pos) ((rg m n).map D.int) := by
  intro F H σ ow ok R q
  refine wi_of (pi_range2 hg fr.range (pa_cons pe_we (pa_cons pe_we pa_nil he2) (by rw [he, he2])) (hs := he) (hs2 := he2)) ?_
  refine h0 F H σ ow ok _ fun v F1 H1 u r => ?_
  refine h F1 H1 σ ow (ok.up u) _ fun w F2 H2 u2 r2 => ⟨m, n, by rw [of_int r, of_int r2], ⟨by omega, by omega, by omega, by omega⟩, q _ F2 H2 (u.trans u2) (src_rg m n _ rfl F2)⟩
theorem ei_str {tg : Expr} {z : Str} (h : EvD g X G e (.str z)) : EvI g X G tg e (z.cps.toList.map fun c => D.str ⟨#[c]⟩) := by
  intro F H σ ow ok R q
  refine wi_of (pi_str pe_we) ?_
  refine h F H σ ow ok _ fun v F1 H1 u r => ⟨z, of_str r, q _ F1 H1 u fun F2 H2 s1 s2 => ?_⟩
  have hl : (z.cps.toList.map fun c => D.str ⟨#[c]⟩).length = z.cps.size := by rw [List.length_map, Array.length_toList]
  rw [hl]
  refine ⟨fun i hi => hi, Nat.le_refl _, fun i v H3 hi y => ?_⟩
  obtain ⟨y1, c, y2, y3⟩ := y
  exact ⟨y1, .str ⟨#[c]⟩, by rw [List.getElem?_map, Array.getElem?_toList, y2] <;> rfl, by rw [y3]; exact rep_str _⟩

/-! ### loops -/
theorem s_for (j : Nat) {items : List D} {iter : Expr} (hi : EvI g X G (.Name x p) iter items) (I : Nat → List Sl → Prop) (h0 : I 0 G)
    (hs : ∀ i d G', items[i]? = some d → I i G' → Ss g X (G'.set j (.v d)) body { nx := I (i + 1), ct := I (i + 1), bk := k.nx, rt := k.rt }) (hd : ∀ G', I items.length G' → k.nx G')
    (hN : X.N.Nodup := by exact nd_by (by kernel_rfl)) (hj : X.N[j]? = some x := by rfl) (hx : Loc X.env.scope x := by first | exact Or.inl rfl | exact Or.inr rfl) (hc : X.calm = true := by rfl)
    (hf : X.fn x = true ∨ X.env.scope.names.lookup x = some .local := by first | exact .inl rfl | exact .inr rfl) (hp : PassesOwn (model X.prog X.w) X.A X.env X.xe := by exact PassesOwn.never)
    (hfo : ∀ x, foldedSetIterable iter X.env x = pure x := by intro _; rfl) : S1 g X G (.For (.Name x p) iter body [] pos) k := fun B F H σ ow ok bk F1 s1 => by
  refine ws_of (ps_for hp hc pi_wi (pg_name hN hj hx hf) pss_wss hfo) ?_
  refine hi F H σ ow ok _ fun J F2 H2 u src => ?_
  refine ⟨fun i m σ' H' => m = items.length - i ∧ i ≤ items.length ∧ nxP g B F2 (I i) σ' H', ⟨_, rfl, Nat.zero_le _, G, F2, ow, h0, ok.up u, bk.go u, Sub.refl F2⟩, ?_⟩
  rintro i m σ' H' ⟨rfl, hle, G', F', ow', hI, ok', bk', s'⟩
  obtain ⟨h1, h2, h3⟩ := src F' H' s' ok'.fit.low
  by_cases hlt : i < items.length
  · refine Or.inr ⟨h1 i hlt, nxP g B F2 (I (i + 1)), fun σ3 H3 q => ⟨items.length - (i + 1), by omega, rfl, hlt, q⟩, fun v H3 y => ?_⟩
    obtain ⟨e3, d, d1, d2⟩ := h3 i v H3 hlt y
    subst e3
    have ok2 := ok'.set (i := j) (a := 0) (s := .v d) (o := some v) ⟨v, rfl, d2⟩ (fun z => by cases z)
    have bk2 := bk'.set (i := j) (a := 0) (s := .v d) (fun z => by cases z)
    have q0 := hs i d G' d1 hI B F' H3 _ _ ok2 bk2 F2 s'
    refine WSs.imp q0 (fun _ _ q => q) (fun _ _ q => q) (fun σ4 H4 q => ?_) (fun _ _ q => q)
    obtain ⟨G4, F4, ow4, q1, q2, q3, q4⟩ := q
    exact ⟨G4, F4, ow4, q1, q2, q3, (s1.trans u.sub).trans q4⟩
  · have e : i = items.length := by omega
    subst e
    exact Or.inl ⟨h2, G', F', ow', hd G' hI, ok', bk', (s1.trans u.sub).trans s'⟩
theorem s_while (I : Nat → List Sl → Prop) (m0 : Nat) (h0 : I m0 G) (hs : ∀ m G', I m G' → ∃ b, EvT g X G' c b ∧ (b = true → Ss g X G' body { nx := fun G2 => ∃ m', m' < m ∧ I m' G2, ct := fun G2 => ∃ m', m' < m ∧ I m' G2, bk := k.nx, rt := k.rt }) ∧ (b = false → k.nx G'))
    (hp : PassesOwn (model X.prog X.w) X.A X.env X.xe := by exact PassesOwn.never) : S1 g X G (.While c body [] pos) k := fun B F H σ ow ok bk F1 s1 => by
  refine ws_of (ps_while hp pt_wt pss_wss) ?_
  refine ⟨fun m σ' H' => nxP g B F1 (I m) σ' H', ⟨m0, G, F, ow, h0, ok, bk, s1⟩, ?_⟩
  rintro m σ' H' ⟨G', F', ow', hI, ok', bk', s'⟩
  obtain ⟨b, hb, h1, h2⟩ := hs m G' hI
  refine hb F' H' σ' ow' ok' _ fun F2 H2 u => ?_
  cases b with
  | true =>
    refine iteT ⟨fun σ3 H3 => ∃ m', m' < m ∧ nxP g B F1 (I m') σ3 H3, fun σ3 H3 q => q, ?_⟩
    have q0 := h1 rfl B F2 H2 σ' ow' (ok'.up u) (bk'.go u) F1 (s'.trans u.sub)
    refine WSs.imp q0 (fun σ3 H3 q => ?_) (fun _ _ q => q) (fun _ _ q => q) (fun σ3 H3 q => ?_)
    · obtain ⟨G3, F3, ow3, ⟨m', hm, q1⟩, q2, q3, q4⟩ := q
      exact ⟨m', hm, G3, F3, ow3, q1, q2, q3, q4⟩
    · obtain ⟨G3, F3, ow3, ⟨m', hm, q1⟩, q2, q3, q4⟩ := q
      exact ⟨m', hm, G3, F3, ow3, q1, q2, q3, q4⟩
  | false => exact iteF ⟨G', F2, ow', h2 rfl, ok'.up u, bk'.go u, s'.trans u.sub⟩
end
end CH

/-! Choosehall: comprehensions; a frame's own lists read as if frozen; stores; defs by their bodies. -/
namespace CH
open PySem L2

/-! ### what is written while it is the frame's own -/
theorem tabs_mut {T : List (Addr × Str)} {H : Hp} {D : Addr} {u o : HO} (t : LamX.Tabs T H) (h : H D = some u) (n : NT u) (n2 : ∀ φ, u ≠ .ext φ) : LamX.Tabs T (upd H D o) := fun p hp => by
  obtain ⟨ps, h1, h2, h3⟩ := t p hp
  have e1 : p.1 ≠ D := fun z => by
    rw [z, h] at h1
    exact n ps (Option.some.inj h1)
  refine ⟨ps, by rw [upd_ne e1]; exact h1, h2, fun pos cv hc => ?_⟩
  obtain ⟨c, e2, e3⟩ := h3 pos cv hc
  have e4 : c ≠ D := fun z => by
    rw [z, h] at e3
    exact n2 _ (Option.some.inj e3)
  exact ⟨c, e2, by rw [upd_ne e4]; exact e3⟩
theorem fit_mut {g : Gb} {F H : Hp} {D : Addr} {u o : HO} (f : Fit g F H) (hf : F D = none) (h : H D = some u) (n : NT u) (n2 : ∀ φ, u ≠ .ext φ) : Fit g F (upd H D o) :=
  ⟨fun b v e => by rw [upd_ne (ne_of_none e hf)]; exact f.low b v e, f.nt, tabs_mut f.tab h n n2⟩
theorem ne_ext_lst {xs : List V} : ∀ φ, HO.lst xs ≠ .ext φ := fun _ z => by cases z
theorem ne_ext_dK {xs : List (Key × V)} : ∀ φ, HO.dK xs ≠ .ext φ := fun _ z => by cases z
theorem ne_ext_frz {o : Obj} {u : HO} : ∀ φ, HO.frz o u ≠ .ext φ := fun _ z => by cases z
theorem nt_frz {o : Obj} {u : HO} : NT (.frz o u) := fun _ z => by cases z

/-! ### comprehensions -/
def WEb (X : Cx) (scope : Scope) (e : Expr) : TE := fun σ H Q => ∀ (s : Shared) (H0 : Hp) (C : Addr) (cl : List (Str × Addr)) (fp : List Addr), WE (X.blk s H0 scope (compEnvC scope cl C X.env) fp) e σ H Q
def WTb (X : Cx) (scope : Scope) (e : Expr) : TT := fun σ H Q => ∀ (s : Shared) (H0 : Hp) (C : Addr) (cl : List (Str × Addr)) (fp : List Addr), WT (X.blk s H0 scope (compEnvC scope cl C X.env) fp) e σ H Q
/-- e in the comprehension's block, whatever its frame -/
def EvB (g : Gb) (X : Cx) (scope : Scope) (G : List Sl) (e : Expr) (d : D) : Prop := ∀ (s : Shared) (H0 : Hp) (C : Addr) (cl : List (Str × Addr)) (fp : List Addr), EvD g (X.blk s H0 scope (compEnvC scope cl C X.env) fp) G e d
def EvTB (g : Gb) (X : Cx) (scope : Scope) (G : List Sl) (e : Expr) (b : Bool) : Prop := ∀ (s : Shared) (H0 : Hp) (C : Addr) (cl : List (Str × Addr)) (fp : List Addr), EvT g (X.blk s H0 scope (compEnvC scope cl C X.env) fp) G e b
theorem take_snoc {α : Type} {l : List α} {i : Nat} {a : α} (h : l[i]? = some a) : l.take (i + 1) = l.take i ++ [a] := by
  rw [List.take_add_one, h]
  rfl
section
variable {g : Gb} {X : Cx} {G : List Sl} {a c e elt iter : Expr} {pos p spos py : Pos} {x y : Str} {k : KE} {scope : Scope}
theorem filt_snoc {α : Type} {l : List α} {i : Nat} {a : α} {q : α → Bool} (h : l[i]? = some a) : (l.take (i + 1)).filter q = (l.take i).filter q ++ (if q a = true then [a] else []) := by
  rw [take_snoc h, List.filter_append]
  by_cases hq : q a = true
  · rw [if_pos hq, List.filter_cons, if_pos hq] <;> rfl
  · rw [if_neg hq, List.filter_cons, if_neg hq] <;> rfl
/-- the reading of a comprehension whose target is one name -/
theorem lc_run {α : Type} (j : Nat) {tt : TT} {te : TE} {enc : α → D} {l : List α} (q : α → Bool) (f : α → D) {tg : Expr} (hi : EvI g X G tg iter (l.map enc)) (hl : l.length ≤ 90000)
    (ht : ∀ a ∈ l, ∀ F H σ ow, Ok g (G.set j (.v (enc a))) F H σ ow → ∀ Q : Bool → Hp → Prop, (∀ F' H', Up g F H F' H' → Q (q a) H') → tt σ H Q)
    (he : ∀ a ∈ l, q a = true → ∀ F H σ ow, Ok g (G.set j (.v (enc a))) F H σ ow → ∀ Q : VK, (∀ v F' H', Up g F H F' H' → RtOk g F' H H' (.v (f a)) v → Q v H') → te σ H Q) :
    ∀ F H σ ow, Ok g G F H σ ow → ∀ Q : VK, (∀ v F' H', Up g F H F' H' → RtOk g F' H H' (.m ((l.filter q).map f)) v → Q v H') → tLc (WI X tg iter) (gName j) tt te [j] σ H Q := by
  intro F H σ ow ok Q qq
  refine hi F H σ ow ok _ fun J F1 H1 u src D hD => ?_
  have okL := ok.up u
  refine ⟨fun i m H' => m = l.length - i ∧ i ≤ l.length ∧ ∃ F' acc, H' D = some (.lst acc) ∧ F' D = none ∧ RepL g F' (((l.take i).filter q).map f) acc ∧ Up g F1 H1 F' H',
    ⟨_, rfl, Nat.zero_le _, F1, [], upd_same, u.fit.low.free hD, repL_nil, up_new u.fit hD⟩, ?_⟩
  rintro i m H' ⟨rfl, hle, F', acc, h1, h2, h3, u1⟩
  obtain ⟨s1, s2, s3⟩ := src F' H' u1.sub u1.fit.low
  rw [List.length_map] at s1 s2 s3
  by_cases hlt : i < l.length
  · refine Or.inr ⟨s1 i hlt, _, fun H2 z => ⟨l.length - (i + 1), by omega, z⟩, fun v H3 y => ?_⟩
    obtain ⟨e3, d, d1, d2⟩ := s3 i v H3 hlt y
    subst e3
    obtain ⟨a, ha, hd⟩ : ∃ a, l[i]? = some a ∧ enc a = d := by
      rw [List.getElem?_map] at d1
      cases z : l[i]? with
      | none =>
        rw [z] at d1
        cases d1
      | some a =>
        rw [z] at d1
        exact ⟨a, rfl, Option.some.inj d1⟩
    have hm : a ∈ l := List.mem_of_getElem? ha
    have ok1 := (okL.up u1).set (i := j) (a := 0) (s := .v (enc a)) (o := some v) ⟨v, rfl, by rw [hd]; exact d2⟩ (fun z => by cases z)
    have es : (wipe σ [j]).set j (some v) = σ.set j (some v) := by
      show (σ.set j none).set j (some v) = _
      rw [List.set_set]
    have ew : wipe ((wipe σ [j]).set j (some v)) [j] = wipe σ [j] := by
      rw [es]
      show (σ.set j (some v)).set j none = σ.set j none
      rw [List.set_set]
    refine ⟨ew, ?_⟩
    rw [es]
    refine ht a hm F' H3 _ _ ok1 _ fun F2 H2 u2 => ?_
    have k2 : H2 D = some (.lst acc) := u2.ext _ _ h1 nt_lst
    have f2 : F2 D = none := u2.grow _ _ h1 nt_lst h2
    cases hq : q a with
    | true =>
      refine iteT ?_
      refine he a hm hq F2 H2 _ _ (ok1.up u2) _ fun w F4 H4 u4 r4 => ?_
      have k4 : H4 D = some (.lst acc) := u4.ext _ _ k2 nt_lst
      have f4 : F4 D = none := u4.grow _ _ k2 nt_lst f2
      have hacc : acc.length ≤ 90000 := by
        rw [h3.len, List.length_map]
        exact Nat.le_trans (List.length_filter_le _ _) (Nat.le_trans (by rw [List.length_take]; omega) hl)
      refine ⟨acc, k4, Nat.lt_of_le_of_lt hacc (by decide), rfl, hlt, F4, acc ++ [w], upd_same, f4, ?_, ?_⟩
      · rw [filt_snoc ha, if_pos hq, List.map_append]
        exact (RepL.mono (u2.trans u4).sub _ _ h3).app (repL_cons r4 repL_nil)
      · have u5 := (u1.trans u2).trans u4
        exact ⟨fun b o z n => by rw [upd_ne (ne_of_none z hD)]; exact u5.ext b o z n, u5.sub, u5.grow, fit_mut u5.fit f4 k4 nt_lst ne_ext_lst⟩
    | false =>
      refine iteF ⟨rfl, hlt, F2, acc, k2, f2, ?_, u1.trans u2⟩
      rw [filt_snoc ha, if_neg (by rw [hq]; decide), List.append_nil]
      exact RepL.mono u2.sub _ _ h3
  · have e : i = l.length := by omega
    subst e
    refine Or.inl ⟨s2, qq _ F' H' (u.trans u1) ⟨D, acc, rfl, (Fresh.of hD).back u.ext, h1, h2, ?_⟩⟩
    rw [List.take_length] at h3
    exact h3
theorem run_web {scope : Scope} {G : List Sl} {e : Expr} {d : D} (h : EvB g X scope G e d) : ∀ F H σ ow, Ok g G F H σ ow → ∀ Q : VK, (∀ v F' H', Up g F H F' H' → RtOk g F' H H' (.v d) v → Q v H') → WEb X scope e σ H Q := fun F H σ ow ok Q q s H0 C cl fp => h s H0 C cl fp F H σ ow ok Q q
theorem run_wtb {scope : Scope} {G : List Sl} {e : Expr} {d : Bool} (h : EvTB g X scope G e d) : ∀ F H σ ow, Ok g G F H σ ow → ∀ Q : Bool → Hp → Prop, (∀ F' H', Up g F H F' H' → Q d H') → WTb X scope e σ H Q := fun F H σ ow ok Q q s H0 C cl fp => h s H0 C cl fp F H σ ow ok Q q
/-- the target of the block -/
def BlkT (X : Cx) (scope : Scope) (x : Str) : Prop := Loc (relS scope X.env.scope) x ∧ ((scope.names.lookup x == some .cell) = true ∨ (relS scope X.env.scope).names.lookup x = some .local)
theorem pg_blk (j : Nat) (hN : X.N.Nodup) (hj : X.N[j]? = some x) (hx : BlkT X scope x) (s : Shared) (H : Hp) (C : Addr) (cl : List (Str × Addr)) (fp : List Addr) : PG (X.blk s H scope (compEnvC scope cl C X.env) fp) (.Name x p) (gName j) :=
  pg_name (X := X.blk s H scope (compEnvC scope cl C X.env) fp) hN hj hx.1 hx.2
/-- [elt for x in iter if c] -/
theorem ev_lcIf {α : Type} (j : Nat) {enc : α → D} {l : List α} (q : α → Bool) (f : α → D) (hi : EvI g X G (.Name x p) iter (l.map enc)) (hl : l.length ≤ 90000)
    (ht : ∀ a ∈ l, EvTB g X scope (G.set j (.v (enc a))) c (q a)) (he : ∀ a ∈ l, q a = true → EvB g X scope (G.set j (.v (enc a))) elt (f a))
    (hN : X.N.Nodup := by exact nd_by (by kernel_rfl)) (hj : X.N[j]? = some x := by rfl) (hb : blkC X.N X.env.scope scope [(x, j)] = true := by kernel_rfl) (hx : BlkT X scope x := by first | exact ⟨Or.inl rfl, Or.inr rfl⟩ | exact ⟨Or.inr rfl, Or.inl rfl⟩) (hc : X.calm = true := by rfl)
    (hfo : ∀ x, foldedSetIterable iter X.env x = pure x := by intro _; rfl) : Ev g X G (.ListComp elt [⟨.Name x p, iter, [c], 0⟩] scope pos) (.m ((l.filter q).map f)) := by
  intro F H σ ow ok Q qq
  refine we_of (pe_lc (own := [(x, j)]) (g := gName j) (tt := WTb X scope c) (te := WEb X scope elt) hc hN pi_wi (blkOk_by hb) (pg_blk j hN hj hx) (fun s H C cl fp => pts_one ⟨fun pins s' σ H Q I h => h _ _ _ _ _ pins s' I⟩) (fun s H C cl fp => ⟨fun pins s' σ H Q I h => h _ _ _ _ _ pins s' I⟩) hfo) ?_
  exact lc_run j q f hi hl (fun a ha => run_wtb (ht a ha)) (fun a ha hq => run_web (he a ha hq)) F H σ ow ok Q qq
theorem filter_true {α : Type} : ∀ l : List α, l.filter (fun _ => true) = l
  | [] => rfl
  | a :: l => by rw [List.filter_cons, if_pos rfl, filter_true l]
/-- [elt for x in iter] -/
theorem ev_lc {α : Type} (j : Nat) {enc : α → D} {l : List α} (f : α → D) (hi : EvI g X G (.Name x p) iter (l.map enc)) (hl : l.length ≤ 90000) (he : ∀ a ∈ l, EvB g X scope (G.set j (.v (enc a))) elt (f a))
    (hN : X.N.Nodup := by exact nd_by (by kernel_rfl)) (hj : X.N[j]? = some x := by rfl) (hb : blkC X.N X.env.scope scope [(x, j)] = true := by kernel_rfl) (hx : BlkT X scope x := by first | exact ⟨Or.inl rfl, Or.inr rfl⟩ | exact ⟨Or.inr rfl, Or.inl rfl⟩) (hc : X.calm = true := by rfl)
    (hfo : ∀ x, foldedSetIterable iter X.env x = pure x := by intro _; rfl) : Ev g X G (.ListComp elt [⟨.Name x p, iter, [], 0⟩] scope pos) (.m (l.map f)) := by
  intro F H σ ow ok Q qq
  refine we_of (pe_lc (own := [(x, j)]) (g := gName j) (tt := tYes) (te := WEb X scope elt) hc hN pi_wi (blkOk_by hb) (pg_blk j hN hj hx) (fun s H C cl fp => pts_nil) (fun s H C cl fp => ⟨fun pins s' σ H Q I h => h _ _ _ _ _ pins s' I⟩) hfo) ?_
  refine lc_run j (fun _ => true) f hi hl (fun a ha F H σ ow ok Q q => q F H (Up.refl ok.fit)) (fun a ha _ => run_web (he a ha)) F H σ ow ok Q ?_
  rw [filter_true]
  exact qq
/-- y = [elt for x in iter if c] -/
theorem s_lcIf {α : Type} (i j : Nat) {enc : α → D} {l : List α} (q : α → Bool) (f : α → D) (hi : EvI g X G (.Name x p) iter (l.map enc)) (hl : l.length ≤ 90000)
    (ht : ∀ a ∈ l, EvTB g X scope (G.set j (.v (enc a))) c (q a)) (he : ∀ a ∈ l, q a = true → EvB g X scope (G.set j (.v (enc a))) elt (f a)) (hk : k.nx (G.set i (.m ((l.filter q).map f))))
    (hsw : swapsWith (.ListComp elt [⟨.Name x p, iter, [c], 0⟩] scope pos) (some (.Name y py)) spos.line X.env = pure true := by exact sw_true rfl rfl rfl (by kernel_rfl))
    (hN : X.N.Nodup := by exact nd_by (by kernel_rfl)) (hy : X.N[i]? = some y := by rfl) (hyl : X.env.scope.names.lookup y = some .local := by rfl) (hj : X.N[j]? = some x := by rfl) (hb : blkC X.N X.env.scope scope [(x, j)] = true := by kernel_rfl) (hx : BlkT X scope x := by first | exact ⟨Or.inl rfl, Or.inr rfl⟩ | exact ⟨Or.inr rfl, Or.inl rfl⟩) (hc : X.calm = true := by rfl)
    (hfo : ∀ x, foldedSetIterable iter X.env x = pure x := by intro _; rfl) : S1 g X G (.Assign [.Name y py] (.ListComp elt [⟨.Name x p, iter, [c], 0⟩] scope pos) spos) k := fun B F H σ ow ok bk F1 s1 => by
  refine ws_of (ps_setLc (i := i) (own := [(x, j)]) (g := gName j) (tt := WTb X scope c) (te := WEb X scope elt) hc hN hy hyl hsw pi_wi (blkOk_by hb) (pg_blk j hN hj hx) (fun s H C cl fp => pts_one ⟨fun pins s' σ H Q I h => h _ _ _ _ _ pins s' I⟩) (fun s H C cl fp => ⟨fun pins s' σ H Q I h => h _ _ _ _ _ pins s' I⟩) hfo) ?_
  refine lc_run j q f hi hl (fun a ha => run_wtb (ht a ha)) (fun a ha hq => run_web (he a ha hq)) F H σ ow ok _ fun v F2 H2 u r => ?_
  obtain ⟨ow', k1, b1⟩ := store (i := i) ok bk u r
  exact ⟨_, F2, ow', hk, k1, b1, s1.trans u.sub⟩
/-- y = [elt for x in iter] -/
theorem s_lc {α : Type} (i j : Nat) {enc : α → D} {l : List α} (f : α → D) (hi : EvI g X G (.Name x p) iter (l.map enc)) (hl : l.length ≤ 90000) (he : ∀ a ∈ l, EvB g X scope (G.set j (.v (enc a))) elt (f a)) (hk : k.nx (G.set i (.m (l.map f))))
    (hsw : swapsWith (.ListComp elt [⟨.Name x p, iter, [], 0⟩] scope pos) (some (.Name y py)) spos.line X.env = pure true := by exact sw_true rfl rfl rfl (by kernel_rfl))
    (hN : X.N.Nodup := by exact nd_by (by kernel_rfl)) (hy : X.N[i]? = some y := by rfl) (hyl : X.env.scope.names.lookup y = some .local := by rfl) (hj : X.N[j]? = some x := by rfl) (hb : blkC X.N X.env.scope scope [(x, j)] = true := by kernel_rfl) (hx : BlkT X scope x := by first | exact ⟨Or.inl rfl, Or.inr rfl⟩ | exact ⟨Or.inr rfl, Or.inl rfl⟩) (hc : X.calm = true := by rfl)
    (hfo : ∀ x, foldedSetIterable iter X.env x = pure x := by intro _; rfl) : S1 g X G (.Assign [.Name y py] (.ListComp elt [⟨.Name x p, iter, [], 0⟩] scope pos) spos) k := fun B F H σ ow ok bk F1 s1 => by
  refine ws_of (ps_setLc (i := i) (own := [(x, j)]) (g := gName j) (tt := tYes) (te := WEb X scope elt) hc hN hy hyl hsw pi_wi (blkOk_by hb) (pg_blk j hN hj hx) (fun s H C cl fp => pts_nil) (fun s H C cl fp => ⟨fun pins s' σ H Q I h => h _ _ _ _ _ pins s' I⟩) hfo) ?_
  refine lc_run j (fun _ => true) f hi hl (fun a ha F H σ ow ok Q q => q F H (Up.refl ok.fit)) (fun a ha _ => run_web (he a ha)) F H σ ow ok _ fun v F2 H2 u r => ?_
  rw [filter_true] at r
  obtain ⟨ow', k1, b1⟩ := store (i := i) ok bk u r
  exact ⟨_, F2, ow', hk, k1, b1, s1.trans u.sub⟩
end

/-! ### lists of the frame's own, read as if frozen -/
def bor1 : Sl → Sl
  | .m ds => .v (.lst ds)
  | .nw d => .v d
  | .pr pre ds => .v (.lst (pre ++ [.lst ds]))
  | s => s
def bor (G : List Sl) : List Sl := G.map bor1
mutual
def D.noL : D → Bool
  | .lst _ => false
  | .scr _ => false
  | .hs _ => false
  | .tup l => noLL l
  | _ => true
def noLL : List D → Bool
  | [] => true
  | d :: l => d.noL && noLL l
end
def Sl.noL : Sl → Bool
  | .v d => d.noL
  | .m ds => noLL ds
  | .pr _ _ => false
  | _ => true
section
variable {g : Gb} {F : Hp}
mutual
theorem rep_noL {F' : Hp} (h : ∀ b xs, F b = some (.tup xs) → F' b = some (.tup xs)) : ∀ (d : D) (v : V), d.noL = true → Rep g F d v → Rep g F' d v
  | _, _, _, .non => .non
  | _, _, _, .bl b => .bl b
  | _, _, _, .int i => .int i
  | _, _, _, .str x => .str x
  | _, _, _, .adr x => .adr x
  | .lst _, _, n, _ => by cases n
  | .tup l, _, n, .tup e k => .tup (h _ _ e) (repL_noL h l _ n k)
  | .scr _, _, n, _ => by cases n
  | .hs _, _, n, _ => by cases n
theorem repL_noL {F' : Hp} (h : ∀ b xs, F b = some (.tup xs) → F' b = some (.tup xs)) : ∀ (ds : List D) (vs : List V), noLL ds = true → RepL g F ds vs → RepL g F' ds vs
  | _, _, _, .nil => .nil
  | d :: ds, _, n, .cons e k => by
    have n' : (d.noL && noLL ds) = true := n
    rw [Bool.and_eq_true] at n'
    exact .cons (rep_noL h _ _ n'.1 e) (repL_noL h _ _ n'.2 k)
end
end
/-- the addresses that the slots' own lists have -/
def Lent (G : List Sl) (ow : Nat → Addr) (b : Addr) : Prop := ∃ i, ((∃ ds, G[i]? = some (.m ds)) ∨ ∃ pre ds, G[i]? = some (.pr pre ds)) ∧ ow i = b
open Classical in
noncomputable def lendF (G : List Sl) (ow : Nat → Addr) (F H : Hp) : Hp := fun b => if Lent G ow b then H b else F b
open Classical in
noncomputable def backF (G : List Sl) (ow : Nat → Addr) (F : Hp) : Hp := fun b => if Lent G ow b then none else F b
section
variable {g : Gb} {X : Cx} {G : List Sl} {e : Expr} {es : List Expr} {F H : Hp} {σ : St} {ow : Nat → Addr}
theorem lent_at (k : Ok g G F H σ ow) {b : Addr} (h : Lent G ow b) : F b = none ∧ ∃ xs, H b = some (.lst xs) := by
  obtain ⟨i, ⟨ds, e⟩ | ⟨pre, ds, e⟩, rfl⟩ := h
  · obtain ⟨o, _, h2, h3, xs, h4, _⟩ := k.at_ i _ e
    exact ⟨h3, xs, h4⟩
  · obtain ⟨o, _, p, vs, _, _, _, h3, xs, h4, _⟩ := k.at_ i _ e
    exact ⟨h3, xs, h4⟩
theorem lend_sub (k : Ok g G F H σ ow) : Sub F (lendF G ow F H) := fun b o e => by
  unfold lendF
  rw [if_neg fun z => ?_]
  · exact e
  · rw [(lent_at k z).1] at e
    cases e
theorem lend_fit (k : Ok g G F H σ ow) : Fit g (lendF G ow F H) H := by
  refine ⟨fun b o e => ?_, fun b o e => ?_, k.fit.tab⟩
  · unfold lendF at e
    by_cases hb : Lent G ow b
    · rw [if_pos hb] at e
      exact e
    · rw [if_neg hb] at e
      exact k.fit.low b o e
  · unfold lendF at e
    by_cases hb : Lent G ow b
    · rw [if_pos hb] at e
      obtain ⟨_, xs, h⟩ := lent_at k hb
      rw [h] at e
      cases e
      exact nt_lst
    · rw [if_neg hb] at e
      exact k.fit.nt b o e
theorem lend_ok (k : Ok g G F H σ ow) : Ok g (bor G) (lendF G ow F H) H σ ow := by
  have back : ∀ i s, (bor G)[i]? = some s → ∃ t, G[i]? = some t ∧ bor1 t = s := fun i s e => by
    unfold bor at e
    rw [List.getElem?_map] at e
    cases q : G[i]? with
    | none =>
      rw [q] at e
      cases e
    | some t =>
      rw [q] at e
      exact ⟨t, q, Option.some.inj e⟩
  refine ⟨lend_fit k, by unfold bor; rw [List.length_map]; exact k.len, fun i s e => ?_, fun i j s t e e' w w' q => ?_⟩
  · obtain ⟨t, h1, h2⟩ := back i s e
    obtain ⟨o, h3, h4⟩ := k.at_ i t h1
    refine ⟨o, h3, ?_⟩
    subst h2
    cases t with
    | un => exact True.intro
    | v d =>
      obtain ⟨v, z1, z2⟩ := h4
      exact ⟨v, z1, Rep.mono (lend_sub k) _ _ z2⟩
    | m ds =>
      obtain ⟨z1, z2, xs, z3, z4⟩ := h4
      refine ⟨_, z1, rep_lst (xs := xs) ?_ (RepL.mono (lend_sub k) _ _ z4)⟩
      unfold lendF
      rw [if_pos ⟨i, Or.inl ⟨ds, h1⟩, rfl⟩]
      exact z3
    | dc kvs =>
      obtain ⟨z1, z2, z3⟩ := h4
      refine ⟨z1, ?_, z3⟩
      unfold lendF
      rw [if_neg fun z => ?_]
      · exact z2
      · obtain ⟨i', ⟨ds, e1⟩ | ⟨pre, ds, e1⟩, e2⟩ := z
        · have e3 := k.inj i' i _ _ e1 h1 rfl rfl e2
          rw [e3, h1] at e1
          cases e1
        · have e3 := k.inj i' i _ _ e1 h1 rfl rfl e2
          rw [e3, h1] at e1
          cases e1
    | nw d =>
      obtain ⟨v, z1, z2⟩ := h4
      exact ⟨v, z1, Rep.mono (lend_sub k) _ _ z2⟩
    | pr pre ds =>
      obtain ⟨p, vs, z1, z5, z6, z2, xs, z3, z4⟩ := h4
      refine ⟨_, z1, rep_lst (lend_sub k _ _ z5) ((RepL.mono (lend_sub k) _ _ z6).app (repL_cons (rep_lst (xs := xs) ?_ (RepL.mono (lend_sub k) _ _ z4)) repL_nil))⟩
      unfold lendF
      rw [if_pos ⟨i, Or.inr ⟨pre, ds, h1⟩, rfl⟩]
      exact z3
  · obtain ⟨s', h1, h2⟩ := back i s e
    obtain ⟨t', h3, h4⟩ := back j t e'
    refine k.inj i j s' t' h1 h3 ?_ ?_ q
    · subst h2
      cases s' with
      | m _ => cases w
      | nw _ => cases w
      | pr _ _ => cases w
      | _ => exact w
    · subst h4
      cases t' with
      | m _ => cases w'
      | nw _ => cases w'
      | pr _ _ => cases w'
      | _ => exact w'
theorem lend_up (k : Ok g G F H σ ow) {F' H' : Hp} (u : Up g (lendF G ow F H) H F' H') : Up g F H (backF G ow F') H' ∧ ∀ b xs, F' b = some (.tup xs) → backF G ow F' b = some (.tup xs) := by
  have hs : ∀ b, Lent G ow b → ∃ xs, F' b = some (.lst xs) := fun b hb => by
    obtain ⟨_, xs, h⟩ := lent_at k hb
    refine ⟨xs, u.sub b _ ?_⟩
    unfold lendF
    rw [if_pos hb]
    exact h
  refine ⟨⟨u.ext, fun b o e => ?_, fun b o e n f => ?_, ⟨fun b o e => ?_, fun b o e => ?_, u.fit.tab⟩⟩, fun b xs e => ?_⟩
  · unfold backF
    rw [if_neg fun z => ?_]
    · exact u.sub b o (lend_sub k b o e)
    · rw [(lent_at k z).1] at e
      cases e
  · unfold backF
    by_cases hb : Lent G ow b
    · rw [if_pos hb]
    · rw [if_neg hb]
      refine u.grow b o e n ?_
      unfold lendF
      rw [if_neg hb]
      exact f
  · unfold backF at e
    by_cases hb : Lent G ow b
    · rw [if_pos hb] at e
      cases e
    · rw [if_neg hb] at e
      exact u.fit.low b o e
  · unfold backF at e
    by_cases hb : Lent G ow b
    · rw [if_pos hb] at e
      cases e
    · rw [if_neg hb] at e
      exact u.fit.nt b o e
  · unfold backF
    rw [if_neg fun z => ?_]
    · exact e
    · obtain ⟨ys, h⟩ := hs b z
      rw [h] at e
      cases e
theorem Ev.bor {r : Sl} (h : Ev g X (bor G) e r) (n : r.noL = true := by rfl) : Ev g X G e r := by
  intro F H σ ow k Q q
  refine h _ H σ ow (lend_ok k) Q fun v F1 H1 u r1 => ?_
  obtain ⟨u1, ht⟩ := lend_up k u
  refine q v _ H1 u1 ?_
  cases r with
  | un => exact True.intro
  | v d => exact rep_noL ht _ _ n r1
  | m ds =>
    obtain ⟨l, xs, e1, e2, e3, e4, e5⟩ := r1
    refine ⟨l, xs, e1, e2, e3, ?_, repL_noL ht _ _ n e5⟩
    unfold backF
    split
    · rfl
    · exact e4
  | dc kvs =>
    obtain ⟨l, e1, e2, e3, e4⟩ := r1
    refine ⟨l, e1, e2, e3, ?_⟩
    unfold backF
    split
    · rfl
    · exact e4
  | nw d =>
    refine Rep.mono (fun b o e => ?_) _ _ r1
    have e1 := newp_sub b o e
    by_cases z : Lent G ow b
    · obtain ⟨_, xs, hz⟩ := lent_at k z
      have hz1 : F1 b = some (.lst xs) := u.sub b _ (by unfold lendF; rw [if_pos z]; exact hz)
      unfold newp at e
      rw [if_neg fun w => ?_] at e
      · cases e
      · rcases w with w | ⟨ys, w⟩
        · exact w _ hz nt_lst
        · rw [hz1] at w
          cases w
    · have e2 : backF G ow F1 b = F1 b := by
        unfold backF
        rw [if_neg z]
      unfold newp at e ⊢
      rw [e2]
      exact e
  | pr pre ds => cases n
theorem EvT.bor {r : Bool} (h : EvT g X (bor G) e r) : EvT g X G e r := by
  intro F H σ ow k Q q
  refine h _ H σ ow (lend_ok k) Q fun F1 H1 u => ?_
  exact q _ H1 (lend_up k u).1
end
end CH

/-! Choosehall: what changes a list or a dict of the frame's own; a def by its body. -/
namespace CH
open PySem L2

section
variable {g : Gb} {G : List Sl} {F F' H H' : Hp} {σ : St} {ow : Nat → Addr} {B : Hp × Hp}
theorem Ok.mutG (k : Ok g G F H σ ow) {i : Nat} {s t : Sl} {u o : HO} (e : G[i]? = some s) (w : s.owned = true) (hu : H (ow i) = some u) (n : NT u) (n2 : ∀ φ, u ≠ .ext φ)
    (ht : ∀ v, SlotOk g F H (ow i) s v → SlotOk g F (upd H (ow i) o) (ow i) t v) (wt : t.owned = true) : Ok g (G.set i t) F (upd H (ow i) o) σ ow := by
  obtain ⟨v, h1, h2⟩ := k.at_ i s e
  have hf := (h2.own w).1
  refine ⟨fit_mut k.fit hf hu n n2, by rw [List.length_set]; exact k.len, fun j r q => ?_, fun j l r r' q q' x x' z => ?_⟩
  · rcases get_set q with ⟨e1, e2⟩ | ⟨e1, e2⟩
    · rw [e1, e2]
      exact ⟨v, h1, ht v h2⟩
    · obtain ⟨v', f1, f2⟩ := k.at_ j r e2
      refine ⟨v', f1, ?_⟩
      have ap : r.owned = true → ow j ≠ ow i := fun x z => e1 (k.inj j i r s e2 e x w z)
      cases r with
      | un => exact True.intro
      | v d => exact f2
      | m ds =>
        obtain ⟨z1, z2, xs, z3, z4⟩ := f2
        exact ⟨z1, z2, xs, by rw [upd_ne (ap rfl)]; exact z3, z4⟩
      | dc kvs =>
        obtain ⟨z1, z2, z3⟩ := f2
        exact ⟨z1, z2, by rw [upd_ne (ap rfl)]; exact z3⟩
      | nw d => exact f2
      | pr pre ds =>
        obtain ⟨p, vs, z1, z5, z6, z2, xs, z3, z4⟩ := f2
        exact ⟨p, vs, z1, z5, z6, z2, xs, by rw [upd_ne (ap rfl)]; exact z3, z4⟩
  · rcases get_set q with ⟨e1, e2⟩ | ⟨e1, e2⟩
    · rcases get_set q' with ⟨f1, f2⟩ | ⟨f1, f2⟩
      · rw [e1, f1]
      · rw [e1] at z
        rw [e1]
        exact k.inj i l s r' e f2 w x' z
    · rcases get_set q' with ⟨f1, f2⟩ | ⟨f1, f2⟩
      · rw [f1] at z
        rw [f1]
        exact k.inj j i r s e2 e x w z
      · exact k.inj j l r r' e2 f2 x x' z
theorem Bk.mutG (b : Bk g B G F H ow) (k : Ok g G F H σ ow) {i : Nat} {s t : Sl} {u o : HO} (e : G[i]? = some s) (w : s.owned = true) (hu : H (ow i) = some u) (n : NT u) (n2 : ∀ φ, u ≠ .ext φ) (wt : t.owned = true) : Bk g B (G.set i t) F (upd H (ow i) o) ow := by
  obtain ⟨v, h1, h2⟩ := k.at_ i s e
  have hf := (h2.own w).1
  have fr := b.fresh i s e w
  refine ⟨⟨fun c q h m => ?_, b.up.sub, b.up.grow, fit_mut b.up.fit hf hu n n2⟩, fun j r q x => ?_⟩
  · rw [upd_ne (fr.ne h m)]
    exact b.up.ext c q h m
  · rcases get_set q with ⟨e1, e2⟩ | ⟨e1, e2⟩
    · rw [e1]
      exact fr
    · exact b.fresh j r e2 x
/-- the list of slot i holds other data -/
theorem mut_lst (k : Ok g G F H σ ow) (b : Bk g B G F H ow) {i : Nat} {ds es : List D} {xs ys : List V} (e : G[i]? = some (.m ds)) (hu : H (ow i) = some (.lst xs)) (r : RepL g F es ys) : Ok g (G.set i (.m es)) F (upd H (ow i) (.lst ys)) σ ow ∧ Bk g B (G.set i (.m es)) F (upd H (ow i) (.lst ys)) ow :=
  ⟨k.mutG e rfl hu nt_lst ne_ext_lst (fun v h => ⟨h.1, h.2.1, ys, upd_same, r⟩) rfl, b.mutG k e rfl hu nt_lst ne_ext_lst rfl⟩
theorem mut_dct (k : Ok g G F H σ ow) (b : Bk g B G F H ow) {i : Nat} {ds es : List (Int × V)} (e : G[i]? = some (.dc ds)) (hu : H (ow i) = some (.dK (dkv ds))) : Ok g (G.set i (.dc es)) F (upd H (ow i) (.dK (dkv es))) σ ow ∧ Bk g B (G.set i (.dc es)) F (upd H (ow i) (.dK (dkv es))) ow :=
  ⟨k.mutG e rfl hu nt_dK ne_ext_dK (fun v h => ⟨h.1, h.2.1, upd_same⟩) rfl, b.mutG k e rfl hu nt_dK ne_ext_dK rfl⟩
/-- the slot's own list, where it lies -/
theorem Ok.own (k : Ok g G F H σ ow) {i : Nat} {ds : List D} (e : G[i]? = some (.m ds)) : σ[i]? = some (some (.ref (ow i))) ∧ F (ow i) = none ∧ ∃ xs, H (ow i) = some (.lst xs) ∧ RepL g F ds xs := by
  obtain ⟨o, h1, h2, h3, h4⟩ := k.at_ i _ e
  exact ⟨by rw [h1, h2], h3, h4⟩
theorem Ok.ownD (k : Ok g G F H σ ow) {i : Nat} {ds : List (Int × V)} (e : G[i]? = some (.dc ds)) : σ[i]? = some (some (.ref (ow i))) ∧ F (ow i) = none ∧ H (ow i) = some (.dK (dkv ds)) := by
  obtain ⟨o, h1, h2, h3, h4⟩ := k.at_ i _ e
  exact ⟨by rw [h1, h2], h3, h4⟩
end

/-- a method's call with one argument or more, written on one line -/
structure MC (X : Cx) (o : Expr) (m : Str) (apos : Pos) (e : Expr) (es : List Expr) (cpos : Pos) : Prop where
  base : attributeBase o m X.env (eval o X.env) = eval o X.env
  few : ((backTo cpos (starEach (e :: es) X.env)).all (fun x => !x.1) && (backToKw cpos (keywordEach [] X.env)).all (fun x => x.1.isSome)
      && decide ((e :: es).length + ([] : List Keyword).length + (if ([] : List Keyword).isEmpty then 0 else 1) < 30)) = true
  line : (apos.endLine == cpos.line) = true
  star : starEach (e :: es) X.env = (false, eval e X.env) :: starEach es X.env
  plain : (backTo cpos (starEach es X.env)).any (·.1) = false
/-- a name of the def, in its slot -/
structure NmV (X : Cx) (i : Nat) (x : Str) : Prop where
  ix : X.N[i]? = some x
  vis : Vis X.env.scope x
  d1 : (x == ("__debug__" : Str)) = false
  d2 : (x == ("__classdict__" : Str)) = false
section
variable {g : Gb} {X : Cx} {G : List Sl} {a c e e1 e2 o : Expr} {es : List Expr} {pos p p2 p3 apos apos2 cpos cpos2 : Pos} {x y : Str} {k : KE} {ds : List D}
theorem pe_nm {i : Nat} (h : NmV X i x) : PE X (.Name x p) (tVar i) := pe_var h.ix h.vis h.d1 h.d2
theorem ty_lst {K : PySem.W.Frag} {H : Hp} {a : Addr} {xs : List V} (h : H a = some (.lst xs)) : tyV K "list" (.ref a) H := .inl ⟨rfl, _, .inl (.inl h)⟩
/-- x.append(e) -/
theorem s_append (i : Nat) {d : D} (hd : EvD g X G e d) (q : k.nx (G.set i (.m (ds ++ [d])))) (hl : ds.length ≤ 90000) (hG : G[i]? = some (.m ds) := by rfl) (hn : NmV X i x := by first | exact ⟨rfl, Or.inl rfl, rfl, rfl⟩ | exact ⟨rfl, Or.inr (Or.inl rfl), rfl, rfl⟩)
    (mc : MC X (.Name x p) "append" apos e [] cpos := by exact ⟨rfl, rfl, rfl, rfl, rfl⟩) (hs : swapsWith (.Call (.Attribute (.Name x p) "append" apos) [e] [] cpos) none pos.line X.env = pure false := by rfl) :
    S1 g X G (.Expr (.Call (.Attribute (.Name x p) "append" apos) [e] [] cpos) pos) k := fun B F H σ ow ok bk F1 s1 => by
  refine ws_of (ps_expr (pe_bm PySem.F.plainAttrs_list PySem.F.slot_list_append PySem.F.type_list_append mt_append (pe_nm hn) (pa_cons pe_we pa_nil mc.star) mc.base mc.few mc.line mc.star mc.plain) hs) ?_
  obtain ⟨h1, h2, xs, h3, h4⟩ := ok.own hG
  refine ⟨_, h1, ty_lst h3, ?_⟩
  refine hd F H σ ow ok _ fun v F2 H2 u r => ?_
  have h5 := u.ext _ _ h3 nt_lst
  obtain ⟨k1, b1⟩ := mut_lst (ok.up u) (bk.go u) hG h5 ((RepL.mono u.sub _ _ h4).app (repL_cons r repL_nil))
  refine ⟨ow i, xs, v, rfl, rfl, h5, Nat.lt_of_le_of_lt ?_ (by decide : 90000 < sizeLine), _, F2, ow, q, k1, b1, s1.trans u.sub⟩
  rw [h4.len]
  exact hl
/-- x.append(y.pop(e)) -/
theorem s_appPop (i j : Nat) {es : List D} {n m : Nat} {d : D} (he : EvD g X G e (.int n)) (hm : es[n]? = some d) (q : k.nx ((G.set j (.m (es.eraseIdx n))).set i (.m (ds ++ [d])))) (hij : i ≠ j) (hl : ds.length ≤ 90000) (hl2 : es.length ≤ 90000) (hG : G[i]? = some (.m ds) := by rfl) (hG2 : G[j]? = some (.m es) := by rfl)
    (hn : NmV X i x := by first | exact ⟨rfl, Or.inl rfl, rfl, rfl⟩ | exact ⟨rfl, Or.inr (Or.inl rfl), rfl, rfl⟩) (hn2 : NmV X j y := by first | exact ⟨rfl, Or.inl rfl, rfl, rfl⟩ | exact ⟨rfl, Or.inr (Or.inl rfl), rfl, rfl⟩)
    (mc : MC X (.Name x p) "append" apos (.Call (.Attribute (.Name y p2) "pop" apos2) [e] [] cpos2) [] cpos := by exact ⟨rfl, rfl, rfl, rfl, rfl⟩) (mc2 : MC X (.Name y p2) "pop" apos2 e [] cpos2 := by exact ⟨rfl, rfl, rfl, rfl, rfl⟩)
    (hs : swapsWith (.Call (.Attribute (.Name x p) "append" apos) [.Call (.Attribute (.Name y p2) "pop" apos2) [e] [] cpos2] [] cpos) none pos.line X.env = pure false := by rfl) :
    S1 g X G (.Expr (.Call (.Attribute (.Name x p) "append" apos) [.Call (.Attribute (.Name y p2) "pop" apos2) [e] [] cpos2] [] cpos) pos) k := fun B F H σ ow ok bk F1 s1 => by
  refine ws_of (ps_expr (pe_bm PySem.F.plainAttrs_list PySem.F.slot_list_append PySem.F.type_list_append mt_append (pe_nm hn) (pa_cons (pe_bm PySem.F.plainAttrs_list PySem.F.slot_list_pop PySem.F.type_list_pop mt_popAt (pe_nm hn2) (pa_cons pe_we pa_nil mc2.star) mc2.base mc2.few mc2.line mc2.star mc2.plain) pa_nil mc.star) mc.base mc.few mc.line mc.star mc.plain) hs) ?_
  obtain ⟨h1, h2, xs, h3, h4⟩ := ok.own hG
  obtain ⟨f1, f2, ys, f3, f4⟩ := ok.own hG2
  refine ⟨_, h1, ty_lst h3, _, f1, ty_lst f3, ?_⟩
  refine he F H σ ow ok _ fun v F2 H2 u r => ?_
  have ok2 := ok.up u
  have bk2 := bk.go u
  have g3 := u.ext _ _ f3 nt_lst
  have g4 := RepL.mono u.sub _ _ f4
  obtain ⟨w, w1, w2⟩ := g4.at_ hm
  have hn3 : n < es.length := (List.getElem?_eq_some_iff.mp hm).1
  obtain ⟨k1, b1⟩ := mut_lst ok2 bk2 hG2 g3 (g4.erase n)
  have hG' : (G.set j (.m (es.eraseIdx n)))[i]? = some (.m ds) := by rw [List.getElem?_set_ne (Ne.symm hij)]; exact hG
  obtain ⟨z1, z2, zs, z3, z4⟩ := k1.own hG'
  refine ⟨ow j, ys, n, n, w, rfl, by rw [of_int r], g3, by omega, by omega, ?_, w1, ?_⟩
  · have e := (ixN_seq (n := ys.length) (i := (n : Int)) (j := n) (by unfold ixN; rw [if_pos (by omega), if_pos (by rw [g4.len]; omega)]; simp)).1
    exact e
  · obtain ⟨k3, b3⟩ := mut_lst k1 b1 hG' z3 (z4.app (repL_cons w2 repL_nil))
    exact ⟨ow i, zs, w, rfl, rfl, z3, Nat.lt_of_le_of_lt (by rw [z4.len]; exact hl) (by decide : 90000 < sizeLine), _, F2, ow, q, k3, b3, s1.trans u.sub⟩
/-- x.insert(e1, e2) -/
theorem s_insert (i : Nat) {n : Int} {d : D} (h1 : EvD g X G e1 (.int n)) (h2 : EvD g X G e2 d) (hn0 : 0 ≤ n ∧ n ≤ 100000) (q : k.nx (G.set i (.m (ds.take n.toNat ++ [d] ++ ds.drop n.toNat)))) (hl : ds.length ≤ 90000) (hG : G[i]? = some (.m ds) := by rfl)
    (hn : NmV X i x := by first | exact ⟨rfl, Or.inl rfl, rfl, rfl⟩ | exact ⟨rfl, Or.inr (Or.inl rfl), rfl, rfl⟩)
    (mc : MC X (.Name x p) "insert" apos e1 [e2] cpos := by exact ⟨rfl, rfl, rfl, rfl, rfl⟩) (mc2 : starEach [e2] X.env = (false, eval e2 X.env) :: starEach [] X.env := by rfl) (hs : swapsWith (.Call (.Attribute (.Name x p) "insert" apos) [e1, e2] [] cpos) none pos.line X.env = pure false := by rfl) :
    S1 g X G (.Expr (.Call (.Attribute (.Name x p) "insert" apos) [e1, e2] [] cpos) pos) k := fun B F H σ ow ok bk F1 s1 => by
  refine ws_of (ps_expr (pe_bm PySem.F.plainAttrs_list PySem.F.slot_list_insert PySem.F.type_list_insert mt_insert (pe_nm hn) (pa_cons pe_we (pa_cons pe_we pa_nil mc2) mc.star) mc.base mc.few mc.line mc.star mc.plain) hs) ?_
  obtain ⟨f1, f2, xs, f3, f4⟩ := ok.own hG
  refine ⟨_, f1, ty_lst f3, ?_⟩
  refine h1 F H σ ow ok _ fun v F2 H2 u r => ?_
  refine h2 F2 H2 σ ow (ok.up u) _ fun w F3 H3 u2 r2 => ?_
  have u3 := u.trans u2
  have h5 := u3.ext _ _ f3 nt_lst
  have h6 := RepL.mono u3.sub _ _ f4
  obtain ⟨k1, b1⟩ := mut_lst (ok.up u3) (bk.go u3) hG h5 (((h6.take n.toNat).app (repL_cons r2 repL_nil)).app (h6.drop n.toNat))
  refine ⟨ow i, xs, n, w, rfl, by rw [of_int r], h5, Nat.lt_of_le_of_lt (by rw [f4.len]; exact hl) (by decide : 90000 < sizeLine), by omega, by omega, _, F3, ow, q, k1, b1, s1.trans u3.sub⟩
/-- x.reverse(), x.clear() -/
theorem s_reverse (i : Nat) (q : k.nx (G.set i (.m ds.reverse))) (hG : G[i]? = some (.m ds) := by rfl) (hn : NmV X i x := by first | exact ⟨rfl, Or.inl rfl, rfl, rfl⟩ | exact ⟨rfl, Or.inr (Or.inl rfl), rfl, rfl⟩)
    (hb : attributeBase (.Name x p) "reverse" X.env (eval (.Name x p) X.env) = eval (.Name x p) X.env := by rfl) (hline : (apos.endLine == cpos.line) = true := by rfl) (hs : swapsWith (.Call (.Attribute (.Name x p) "reverse" apos) [] [] cpos) none pos.line X.env = pure false := by rfl) :
    S1 g X G (.Expr (.Call (.Attribute (.Name x p) "reverse" apos) [] [] cpos) pos) k := fun B F H σ ow ok bk F1 s1 => by
  refine ws_of (ps_expr (pe_bm0 PySem.F.plainAttrs_list PySem.F.slot_list_reverse PySem.F.type_list_reverse mt_reverse (pe_nm hn) hb hline) hs) ?_
  obtain ⟨h1, h2, xs, h3, h4⟩ := ok.own hG
  obtain ⟨k1, b1⟩ := mut_lst ok bk hG h3 h4.rev
  exact ⟨_, h1, ty_lst h3, ow i, xs, rfl, rfl, h3, _, F, ow, q, k1, b1, s1⟩
theorem s_clear (i : Nat) (q : k.nx (G.set i (.m []))) (hG : G[i]? = some (.m ds) := by rfl) (hn : NmV X i x := by first | exact ⟨rfl, Or.inl rfl, rfl, rfl⟩ | exact ⟨rfl, Or.inr (Or.inl rfl), rfl, rfl⟩)
    (hb : attributeBase (.Name x p) "clear" X.env (eval (.Name x p) X.env) = eval (.Name x p) X.env := by rfl) (hline : (apos.endLine == cpos.line) = true := by rfl) (hs : swapsWith (.Call (.Attribute (.Name x p) "clear" apos) [] [] cpos) none pos.line X.env = pure false := by rfl) :
    S1 g X G (.Expr (.Call (.Attribute (.Name x p) "clear" apos) [] [] cpos) pos) k := fun B F H σ ow ok bk F1 s1 => by
  refine ws_of (ps_expr (pe_bm0 PySem.F.plainAttrs_list PySem.F.slot_list_clear PySem.F.type_list_clear mt_clear (pe_nm hn) hb hline) hs) ?_
  obtain ⟨h1, h2, xs, h3, h4⟩ := ok.own hG
  obtain ⟨k1, b1⟩ := mut_lst ok bk hG h3 repL_nil
  exact ⟨_, h1, ty_lst h3, ow i, xs, rfl, rfl, h3, _, F, ow, q, k1, b1, s1⟩
/-- f(..).clear(): a list that has just come -/
theorem s_clearNew (h : Ev g X G o (.m ds)) (q : k.nx G) (hb : attributeBase o "clear" X.env (eval o X.env) = eval o X.env := by rfl) (hline : (apos.endLine == cpos.line) = true := by rfl) (hs : swapsWith (.Call (.Attribute o "clear" apos) [] [] cpos) none pos.line X.env = pure false := by rfl) :
    S1 g X G (.Expr (.Call (.Attribute o "clear" apos) [] [] cpos) pos) k := fun B F H σ ow ok bk F1 s1 => by
  refine ws_of (ps_expr (pe_bm0 PySem.F.plainAttrs_list PySem.F.slot_list_clear PySem.F.type_list_clear mt_clear pe_we hb hline) hs) ?_
  refine h F H σ ow ok _ fun v F2 H2 u r => ?_
  obtain ⟨l, xs, rfl, hf, h1, h2, h3⟩ := r
  have u2 : Up g F H F2 (upd H2 l (.lst [])) := ⟨fun b o e n => by
    rw [upd_ne (hf.ne e n)]
    exact u.ext b o e n, u.sub, u.grow, fit_mut u.fit h2 h1 nt_lst ne_ext_lst⟩
  exact ⟨ty_lst h1, l, xs, rfl, rfl, h1, G, F2, ow, q, ok.up u2, bk.go u2, s1.trans u.sub⟩
/-- x[e1] = e, x a list of the frame's own -/
theorem s_setIx (i : Nat) {n : Nat} {d : D} (he : EvD g X G e d) (h1 : EvD g X G e1 (.int n)) (hn0 : n < ds.length) (q : k.nx (G.set i (.m (ds.set n d)))) (hG : G[i]? = some (.m ds) := by rfl)
    (hn : NmV X i x := by first | exact ⟨rfl, Or.inl rfl, rfl, rfl⟩ | exact ⟨rfl, Or.inr (Or.inl rfl), rfl, rfl⟩)
    (ha : ∀ v, assign (.Subscript (.Name x p) e1 p2) X.env v = (do
      let ov ← holding [v] (eval (.Name x p) X.env)
      let iv ← holding [v, ov] (eval e1 X.env)
      standAt p2
      holding [v, ov, iv] (setItem ov iv v)
      release [v, ov, iv] []) := by intro _; rfl)
    (hs : swapsWithSole [.Subscript (.Name x p) e1 p2] e pos.line X.env = pure false := by rfl) (hw : swappedStores [.Subscript (.Name x p) e1 p2] e X.env = pure none := by rfl) (h3 : (assignEach [.Subscript (.Name x p) e1 p2] X.env).map (·.2) = [assign (.Subscript (.Name x p) e1 p2) X.env] := by rfl) :
    S1 g X G (.Assign [.Subscript (.Name x p) e1 p2] e pos) k := fun B F H σ ow ok bk F1 s1 => by
  refine ws_of (ps_asg pe_we (pg_sub (pe_nm hn) pe_we set_list ha) hs hw h3) ?_
  refine he F H σ ow ok _ fun v F2 H2 u r => ?_
  obtain ⟨f1, f2, xs, f3, f4⟩ := (ok.up u).own hG
  refine ⟨_, f1, ?_⟩
  refine h1 F2 H2 σ ow (ok.up u) _ fun w F3 H3 u2 r2 => ?_
  have u3 := u.trans u2
  have h5 := u2.ext _ _ f3 nt_lst
  have h6 := RepL.mono u2.sub _ _ f4
  obtain ⟨k1, b1⟩ := mut_lst (ok.up u3) (bk.go u3) hG h5 (h6.set n (Rep.mono u2.sub _ _ r))
  refine ⟨ow i, xs, n, n, rfl, of_int r2, h5, ?_, _, F3, ow, q, k1, b1, s1.trans u3.sub⟩
  unfold ixN
  rw [if_pos (by omega), if_pos (by rw [h6.len]; omega)]
  simp

/-! ### dicts of the frame's own: keys ints -/
theorem ev_dnew : Ev g X G (.Dict [] [] pos) (.dc []) := fun F H σ ow k Q q => we_of pe_dnewK fun l hl => q _ F _ (up_new k.fit hl) ⟨l, rfl, Fresh.of hl, upd_same, k.fit.low.free hl⟩
theorem put_dkv : ∀ (kvs : List (Int × V)) (n : Int) (v : V), putK (dkv kvs) (Sum.inl n : Key) v = dkv (if kvs.any (fun p => decide (p.1 = n)) = true then kvs.map (fun p => if p.1 = n then (n, v) else p) else kvs ++ [(n, v)]) := by
  intro kvs n v
  have hany : ((dkv kvs).any fun kv => decide (kv.1 = (Sum.inl n : Key))) = kvs.any (fun p => decide (p.1 = n)) := by
    unfold dkv
    rw [List.any_map]
    congr 1
    funext p
    show decide ((Sum.inl p.1 : Key) = Sum.inl n) = decide (p.1 = n)
    by_cases h : p.1 = n
    · rw [decide_eq_true h, decide_eq_true (congrArg Sum.inl h)]
    · rw [decide_eq_false h, decide_eq_false fun z => h (Sum.inl.inj z)]
  unfold putK
  rw [hany]
  split
  · unfold dkv
    rw [List.map_map, List.map_map]
    congr 1
    funext p
    show (if (Sum.inl p.1 : Key) = Sum.inl n then ((Sum.inl p.1 : Key), v) else (Sum.inl p.1, p.2)) = ((Sum.inl (if p.1 = n then (n, v) else p).1 : Key), (if p.1 = n then (n, v) else p).2)
    by_cases h : p.1 = n
    · rw [if_pos (congrArg Sum.inl h), if_pos h, h]
    · rw [if_neg fun z => h (Sum.inl.inj z), if_neg h]
  · unfold dkv
    rw [List.map_append] <;> rfl
/-- d[e1] = e, the key a new one -/
theorem s_dput (i : Nat) {kvs : List (Int × V)} {n : Int} {d : D} {w : V} (hu : X.A.units + 1 < cLine) (he : EvD g X G e d) (hw : d.fl = some w) (h1 : EvD g X G e1 (.int n)) (hn0 : ∀ p ∈ kvs, p.1 ≠ n) (hl : kvs.length ≤ 90000) (q : k.nx (G.set i (.dc (kvs ++ [(n, w)])))) (hG : G[i]? = some (.dc kvs) := by rfl)
    (hn : NmV X i x := by first | exact ⟨rfl, Or.inl rfl, rfl, rfl⟩ | exact ⟨rfl, Or.inr (Or.inl rfl), rfl, rfl⟩) (hs : swapsWith e (some (.Subscript (.Name x p) e1 p2)) pos.line X.env = pure false := by rfl) : S1 g X G (.Assign [.Subscript (.Name x p) e1 p2] e pos) k := fun B F H σ ow ok bk F1 s1 => by
  refine ws_of (ps_dput hu (pe_nm hn) pe_we pe_we hs) ?_
  refine he F H σ ow ok _ fun v F2 H2 u r => ?_
  obtain ⟨f1, f2, f3⟩ := (ok.up u).ownD hG
  refine ⟨_, f1, ?_⟩
  refine h1 F2 H2 σ ow (ok.up u) _ fun y F3 H3 u2 r2 => ?_
  have u3 := u.trans u2
  have h5 := u2.ext _ _ f3 nt_dK
  have e3 : (kvs.any fun p => decide (p.1 = n)) = false := by
    cases z : (kvs.any fun p => decide (p.1 = n)) with
    | false => rfl
    | true =>
      obtain ⟨p, hp, hz⟩ := List.any_eq_true.mp z
      exact absurd (of_decide_eq_true hz) (hn0 p hp)
  have ev : v = w := (fl_rep hw r).1
  obtain ⟨k1, b1⟩ := mut_dct (es := kvs ++ [(n, w)]) (ok.up u3) (bk.go u3) hG h5
  refine ⟨ow i, upd H3 (ow i) (.dK (dkv (kvs ++ [(n, w)]))), rfl, ?_, _, F3, ow, q, k1, b1, s1.trans u3.sub⟩
  have e4 := put_dkv kvs n w
  rw [e3] at e4
  rw [of_int r2, ev]
  have e5 := DPut.k (k := (Sum.inl n : Key)) (v := w) h5 (by unfold dkv; rw [List.length_map]; exact Nat.lt_of_le_of_lt hl (by decide))
  rw [e4] at e5
  exact e5
theorem val_dkv (kvs : List (Int × V)) (n : Int) : valV (dkv kvs) (Sum.inl n : Key) = (kvs.find? fun p => decide (p.1 = n)).map (·.2) := by
  induction kvs with
  | nil => rfl
  | cons p r ih =>
    show valV (((Sum.inl p.1 : Key), p.2) :: dkv r) (Sum.inl n) = _
    by_cases h : p.1 = n
    · rw [valV_pos (congrArg Sum.inl h), List.find?_cons, decide_eq_true h] <;> rfl
    · rw [valV_neg (fun z => h (Sum.inl.inj z)), ih, List.find?_cons, decide_eq_false h]
theorem isSome_dkv (kvs : List (Int × V)) (n : Int) : (valV (dkv kvs) (Sum.inl n : Key)).isSome = kvs.any fun p => decide (p.1 = n) := by
  induction kvs with
  | nil => rfl
  | cons p r ih =>
    show (valV (((Sum.inl p.1 : Key), p.2) :: dkv r) (Sum.inl n)).isSome = _
    by_cases h : p.1 = n
    · rw [valV_pos (congrArg Sum.inl h), List.any_cons, decide_eq_true h] <;> rfl
    · rw [valV_neg (fun z => h (Sum.inl.inj z)), ih, List.any_cons, decide_eq_false h, Bool.false_or]
def flD : V → Option D
  | .non => some .non
  | .bl b => some (.bl b)
  | .int i => some (.int i)
  | .str x => some (.str x)
  | _ => none
theorem rep_fl {F : Hp} {v : V} {d : D} (h : flD v = some d) : Rep g F d v := by
  cases v with
  | non => cases h; exact .non
  | bl b => cases h; exact .bl b
  | int b => cases h; exact .int b
  | str b => cases h; exact .str b
  | _ => cases h
/-- e1 in d, e1 not in d, d[e1], d a dict of the frame's own -/
theorem et_dnotin (i : Nat) {kvs : List (Int × V)} {n : Int} (hu : X.A.units + 1 < cLine) (h1 : EvD g X G e1 (.int n)) (hG : G[i]? = some (.dc kvs) := by rfl) (hn : NmV X i x := by first | exact ⟨rfl, Or.inl rfl, rfl, rfl⟩ | exact ⟨rfl, Or.inr (Or.inl rfl), rfl, rfl⟩) (hm : behindInMarks .NotIn (.Name x p) = false := by rfl) :
    EvT g X G (.Compare e1 [.NotIn] [.Name x p] pos) (!(kvs.any fun p => decide (p.1 = n))) := by
  intro F H σ ow ok Q q
  refine wt_of (pt_cmp (pc_dnotin hu pe_we (pe_nm hn)) hm) ?_
  refine h1 F H σ ow ok _ fun v F2 H2 u r => ?_
  obtain ⟨f1, f2, f3⟩ := (ok.up u).ownD hG
  refine ⟨_, f1, ow i, valV (dkv kvs) (Sum.inl n), rfl, by rw [of_int r]; exact DGet.k (k := Sum.inl n) f3, _, rfl, ?_⟩
  rw [isSome_dkv]
  exact q F2 H2 u
theorem et_dict (i : Nat) {kvs : List (Int × V)} (hG : G[i]? = some (.dc kvs) := by rfl) (hn : NmV X i x := by first | exact ⟨rfl, Or.inl rfl, rfl, rfl⟩ | exact ⟨rfl, Or.inr (Or.inl rfl), rfl, rfl⟩)
    (he : ∀ whole, isTrue (.Name x p) X.env whole = (do let v ← whole; standAt (Expr.Name x p).pos; holding [v] (truthy v)) := by intro _; rfl) : EvT g X G (.Name x p) (!kvs.isEmpty) := by
  intro F H σ ow ok Q q
  refine wt_of (pt_truth (pe_nm hn) he) ?_
  obtain ⟨f1, f2, f3⟩ := ok.ownD hG
  refine ⟨_, f1, !kvs.isEmpty, Or.inr (Or.inr ⟨_, f3, ?_⟩), q F H (Up.refl ok.fit)⟩
  unfold dkv
  cases kvs <;> rfl
/-- sorted(d): the keys -/
theorem ev_sortedD (i : Nat) {kvs : List (Int × V)} (fr : Free X.mg) (hc : X.calm = true) (hl : kvs.length < 64) (hG : G[i]? = some (.dc kvs) := by rfl) (hn : NmV X i x := by first | exact ⟨rfl, Or.inl rfl, rfl, rfl⟩ | exact ⟨rfl, Or.inr (Or.inl rfl), rfl, rfl⟩) (hg : Gl X "sorted" := by rfl)
    (he : starEach [.Name x p] X.env = (false, eval (.Name x p) X.env) :: starEach [] X.env := by rfl) : Ev g X G (.Call (.Name "sorted" p2) [.Name x p] [] pos) (.m (((kvs.map (·.1)).mergeSort fun a b => decide (a ≤ b)).map D.int)) := by
  intro F H σ ow ok Q q
  refine we_of (pe_callB (call_sortedDI hc) hg fr.sorted (by decide +kernel) (pa_cons (pe_nm hn) pa_nil he) (he := he) (hpl := rfl)) ?_
  obtain ⟨f1, f2, f3⟩ := ok.ownD hG
  refine ⟨_, f1, ow i, dkv kvs, kvs.map (·.1), rfl, .inl f3, ?_, by rw [List.length_map]; exact hl, fun ys l hp hs hl => ?_⟩
  · unfold dkv
    rw [List.map_map, List.map_map] <;> rfl
  · rw [sorted_is hp hs]
    exact rt_new ok.fit (repL_ints _) q hl
end

/-! ### a def by its body -/
def G0 (N : List Str) (ds : List D) : List Sl := ds.map Sl.v ++ List.replicate (N.length - ds.length) Sl.un
def kRet (r : Sl) : KE := { nx := fun _ => r = .v .non, rt := fun s => s = r }
theorem ok_start {g : Gb} {N : List Str} {ds : List D} {F H : Hp} {vs : List V} (hr : RepL g F ds vs) (f : Fit g F H) : Ok g (G0 N ds) F H (L2.start N vs) (fun _ => 0) := by
  have hown : ∀ (i : Nat) (s : Sl), (G0 N ds)[i]? = some s → s.owned = false := fun i s e => by
    have hm : s ∈ G0 N ds := List.mem_of_getElem? e
    unfold G0 at hm
    rcases List.mem_append.mp hm with h | h
    · obtain ⟨d, _, rfl⟩ := List.mem_map.mp h
      rfl
    · rw [List.eq_of_mem_replicate h]
      rfl
  refine ⟨f, ?_, fun i s e => ?_, fun i j s t e _ w _ _ => ?_⟩
  · unfold L2.start G0
    rw [List.length_append, List.length_append, List.length_map, List.length_map, List.length_replicate, List.length_replicate, hr.len]
  · unfold L2.start
    unfold G0 at e
    by_cases hi : i < ds.length
    · rw [List.getElem?_append_left (by rw [List.length_map]; exact hi), List.getElem?_map] at e
      cases z : ds[i]? with
      | none =>
        rw [z] at e
        cases e
      | some d =>
        rw [z] at e
        obtain ⟨v, h1, h2⟩ := hr.at_ z
        have e' : Sl.v d = s := Option.some.inj e
        subst e'
        refine ⟨some v, ?_, v, rfl, h2⟩
        rw [List.getElem?_append_left (by rw [List.length_map, hr.len]; exact hi), List.getElem?_map, h1] <;> rfl
    · rw [List.getElem?_append_right (by rw [List.length_map]; omega)] at e
      have hm := List.eq_of_mem_replicate (List.mem_of_getElem? e)
      subst hm
      have hlt : i < (vs.map some ++ List.replicate (N.length - vs.length) (none : Option V)).length := by
        have h9 := (List.getElem?_eq_some_iff.mp e).1
        rw [List.length_replicate, List.length_map] at h9
        rw [List.length_append, List.length_map, List.length_replicate, hr.len]
        omega
      exact ⟨_, List.getElem?_eq_getElem hlt, True.intro⟩
  · rw [hown i s e] at w
    cases w
theorem run_body {g : Gb} {X : Cx} {N : List Str} {ds : List D} {body : List Stmt} {r : Sl} (h : Ss g X (G0 N ds) body (kRet r)) {F H : Hp} {vs : List V} {Q : VK} (hr : RepL g F ds vs) (f : Fit g F H) (q : ∀ v F' H', Up g F H F' H' → RtOk g F' H H' r v → Q v H') :
    WSs X body { nx := fun _ H' => Q .non H', rt := Q } (L2.start N vs) H := by
  have q0 := h (F, H) F H (L2.start N vs) _ (ok_start hr f) ⟨Up.refl f, fun i s e w => ?_⟩ F (Sub.refl F)
  · refine WSs.imp q0 (fun σ H2 z => ?_) (fun v H2 z => ?_) (fun σ H2 z => ?_) (fun σ H2 z => ?_)
    · obtain ⟨G, F2, ow, e, ok, bk, _⟩ := z
      have e' : r = .v .non := e
      subst e'
      exact q _ F2 H2 bk.up rep_non
    · obtain ⟨s, F2, e, u, r2⟩ := z
      have e' : s = r := e
      subst e'
      exact q v F2 H2 u r2
    · obtain ⟨_, _, _, z, _⟩ := z
      exact z.elim
    · obtain ⟨_, _, _, z, _⟩ := z
      exact z.elim
  · have hm : s ∈ G0 N ds := List.mem_of_getElem? e
    unfold G0 at hm
    rcases List.mem_append.mp hm with h | h
    · obtain ⟨d, _, rfl⟩ := List.mem_map.mp h
      cases w
    · rw [List.eq_of_mem_replicate h] at w
      cases w
abbrev FnP (K : PySem.W.Frag) (x qual : Str) (st : Stmt) (f : Addr) (fd : FuncData) : Prop := FunD K x qual (defArgs st) (defBody st) (defScope st) [] [] f fd
section
variable {P : Program} {w : World} {g : Gb} {mg : Str → Option Value} {base : Heap} {x qual : Str} {st : Stmt} {f : Addr} {fd : FuncData} {N ps : List Str} {k : Nat} {R : List D → Sl → Prop}
theorem fn_by (F : FnP g.K x qual st f fd) (S : FnScope N ps (defScope st)) (hlen : ∀ ds r, R ds r → ds.length = ps.length)
    (hb : ∀ ds r (cdv : Value) (A : Around) (outer : List Env) (s : Shared) (H : Hp) (E : XK), R ds r → Room k (A.deeper (PyProof.Rows.envOfC qual (defScope st) s.heap.objs.size f cdv)) →
      Ss g (cxOf CX0 P w g.K mg base N qual (defScope st) f cdv A outer s H E).nox (G0 N ds) (defBody st) (kRet r)) : FnOk P w g.K mg base CX0 (k + 1) f fd ps (Prom g R) := by
  refine F.ok S (fun vs H Q E h => ?_) (fun cdv A outer s H vs Q E hr h => ?_)
  · obtain ⟨ds, r, F, hR, r1, _⟩ := h
    rw [r1.len]
    exact hlen ds r hR
  · obtain ⟨ds, r, F, hR, r1, f1, q⟩ := h
    exact ⟨_, PSs.nox (pss_wss (X := (cxOf CX0 P w g.K mg base N qual (defScope st) f cdv A outer s H E).nox)), run_body (hb ds r cdv A outer s H E hR hr) r1 f1 q⟩
/-- a def of the module, by its body -/
theorem cal_by (F : FnP g.K x x st f fd) (S : FnScope N ps (defScope st)) (hm : mg x = some (.ref f)) (hbi : ∀ (kV doc pm : Value) (an : Option Addr) (cdv ct : Value) (us : List Value), us.length = ps.length → bindArgs (PySem.W.fnOf x x (defArgs st) (defBody st) (defScope st) .none kV doc pm an cdv ct) ⟨us, []⟩ = pure (ps.zip us))
    (hlen : ∀ ds r, R ds r → ds.length = ps.length)
    (hb : ∀ ds r (cdv : Value) (A : Around) (outer : List Env) (s : Shared) (H : Hp) (E : XK), R ds r → Room k (A.deeper (PyProof.Rows.envOfC x (defScope st) s.heap.objs.size f cdv)) →
      Ss g (cxOf CX0 P w g.K mg base N x (defScope st) f cdv A outer s H E).nox (G0 N ds) (defBody st) (kRet r)) : Cal P w g mg base x (k + 1) R :=
  ⟨f, fd, ps, fn_by F S hlen hb, hm, F.kp, F.bindsN hbi⟩
/-- a method of House, by its body -/
theorem mcal_by (F : FnP g.K x qual st f fd) (S : FnScope N ps (defScope st)) (hm : Meth g.K g.C x f) (hbi : ∀ (kV doc pm : Value) (an : Option Addr) (cdv ct : Value) (us : List Value), us.length = ps.length → bindArgs (PySem.W.fnOf x qual (defArgs st) (defBody st) (defScope st) .none kV doc pm an cdv ct) ⟨us, []⟩ = pure (ps.zip us))
    (hlen : ∀ ds r, R ds r → ds.length = ps.length)
    (hb : ∀ ds r (cdv : Value) (A : Around) (outer : List Env) (s : Shared) (H : Hp) (E : XK), R ds r → Room k (A.deeper (PyProof.Rows.envOfC qual (defScope st) s.heap.objs.size f cdv)) →
      Ss g (cxOf CX0 P w g.K mg base N qual (defScope st) f cdv A outer s H E).nox (G0 N ds) (defBody st) (kRet r)) : MCal P w g mg base x (k + 1) R :=
  ⟨f, fd, ps, fn_by F S hlen hb, hm, F.bindsN hbi⟩
theorem Cal.mono {j : Nat} (C : Cal P w g mg base x j R) (h : j ≤ k) : Cal P w g mg base x k R := by
  obtain ⟨f, fd, ps, a, b⟩ := C
  exact ⟨f, fd, ps, a.mono h, b⟩
theorem Cal.imp {R' : List D → Sl → Prop} (C : Cal P w g mg base x k R) (h : ∀ ds r, R' ds r → R ds r) : Cal P w g mg base x k R' := by
  obtain ⟨f, fd, ps, a, b⟩ := C
  exact ⟨f, fd, ps, a.imp fun vs H Q E ⟨ds, r, F, h1, h2⟩ => ⟨ds, r, F, h ds r h1, h2⟩, b⟩
end
end CH

/-! Choosehall: sorted(able, key=lambda comer: -self.points[comer]). -/
namespace CH
open PySem L2

abbrev lamBody (p1 p2 p3 p4 p5 : Pos) : Expr := .UnaryOp .USub (.Subscript (.Attribute (.Name "self" p1) "points" p2) (.Name "comer" p3) p4) p5
abbrev lamScope : Scope := { kind := .function, names := [("comer", .local), ("self", .free)], isGenerator := false, isCoroutine := false, more := [] }
abbrev lamArgs (q : Pos) : Arguments := { posonlyargs := [], args := [{ arg := "comer", annotation := none, pos := q }], vararg := none, kwonlyargs := [], kw_defaults := [], kwarg := none, defaults := [] }

theorem lam_nc : ∀ y ∈ lamScope.names, y.2 ≠ NameKind.cell := by decide +kernel
section
variable {X : Cx} {pins : List (Addr × Obj)} {σ : St} {H : Hp} {s : Shared}
/-- the key, asked of one comer -/
theorem lam_key (I : Inv X pins σ H s) {qual : Str} {pm ctv : Value} {C f c' cs a dx p : Addr} {fs : List (Str × V)} {zs : List V} {p1 p2 p3 p4 p5 q : Pos}
    (hf : s.heap.get? f = some (PySem.W.kla_obj "<lambda>" qual (lamArgs q) (lamBody p1 p2 p3 p4 p5) lamScope (cloFrom X.env.cells lamScope.names []) pm c' ctv)) (hco : H c' = some (LamX.CodeO c' qual))
    (hclo : (cloFrom X.env.cells lamScope.names []).lookup ("self" : Str) = some cs) (hcell : s.heap.IsCell cs (some (.ref a))) (ha : H a = some (.ins C dx fs)) (hc : Cls X.K C) (hn : NoAttr X.K C "points") (hp : fs.lookup ("points" : Str) = some (.ref p)) (hz : H p = some (.lst zs))
    {n : Nat} {x : Int} {t : Tok} (hx : zs[n]? = some (.int x)) {A : Around} (hA : A.depth < recursionLimit) {h : Heap} {tk : Nat} (k : ∀ b o, s.heap.get? b = some o → h.get? b = some o) :
    wpAny (model X.prog X.w) A (call (.ref f) [.int n t]) (PySem.W.KeyPure (.int (-x)) { s with heap := h, toks := tk }) (fun _ _ => False) { s with heap := h, toks := tk } := by
  obtain ⟨⟨oc, vs, tq, hoc, hdc, hvc⟩, _, _⟩ := I.hok c' _ hco
  obtain ⟨mA, O, ro, _, _, _⟩ := ins_get I.hok ha
  obtain ⟨u, hu, ru⟩ := RelO.some_of (v := V.ref p) (o := mA "points") (by rw [← hp]; exact ro "points")
  have ru' : u = Value.ref p := ru
  subst ru'
  obtain ⟨hlen, its, nn, rv, hpo⟩ := I.hok p _ hz
  obtain ⟨wv, hw1, hw2⟩ := rv.get hx
  obtain ⟨tx, rfl⟩ := hw2
  have hlt : n < zs.length := (List.getElem?_eq_some_iff.mp hx).1
  have hl63 := line63
  refine wpAny_call ?_
  refine PySem.W.kla_callFunE hA (k _ _ hf) rfl rfl rfl rfl ⟨c', oc, vs, tq, rfl, k _ _ hoc, hdc, hvc⟩ ?_
  have hbind : bindArgs (PySem.W.kla_fn "<lambda>" qual (lamArgs q) (lamBody p1 p2 p3 p4 p5) lamScope (cloFrom X.env.cells lamScope.names []) pm (.ref c') ctv) ⟨[.int n t], []⟩ = pure [(("comer" : Str), Value.int n t)] := rfl
  rw [hbind]
  refine wpAny_pure (wpAny_newFunctionEnv (fun y hy => ?_) (fun y hy => ?_) (fun h₁ hns hsb => ⟨(I.nolimit.keeps k).fresh _ hsb, ?_⟩) rfl)
  · exact lam_nc y hy
  · have e := List.mem_singleton.mp hy
    rw [e]
    rfl
  · show codeAny _ _ (.expr (lamBody p1 p2 p3 p4 p5) (PySem.W.envX qual lamScope h.objs.size f (.ref c') (cloFrom X.env.cells lamScope.names []))) _ _
    have k1 : ∀ b o, h.get? b = some o → h₁.get? b = some o := fun b o e => hsb.extBut b o (Nat.ne_of_lt (Heap.lt_size e)) (Heap.get?_push_of_some _ e)
    have k2 : ∀ b o, s.heap.get? b = some o → h₁.get? b = some o := fun b o e => k1 b o (k b o e)
    have KX : X.K.In h₁ := fun b o e => k2 b o (I.kIn b o e)
    have O1 : ObjM h₁ a dx C mA := ⟨k2 _ _ O.obj, O.ns.at fun o e => k2 _ _ e, O.ne⟩
    have hcell1 : h₁.IsCell cs (some (.ref a)) := by
      obtain ⟨o, ho, hd⟩ := hcell
      exact ⟨o, k2 _ _ ho, hd⟩
    refine PySem.W.kla_codeExpr ?_
    refine PyProof.Rows.UnaryOp_ (PyProof.Rows.Subscript_ (attr_of (by rfl) (wpAny_Name (wpAny_loadName_free (by rfl) (by rfl) hclo hcell1 ?_))))
    refine get_map (s := { s with heap := h₁, toks := tk + 1 }) KX O1 (hc.get _) hc.hd hn hu rfl ?_
    refine wpAny_Name (wpAny_loadName_local (by rfl) (by rfl) hns (v := .int n t) (by rfl) ?_)
    refine PyProof.Rows.item_listR (x := .int x tx) (items := its.toArray) (show PlainL h₁ p its.toArray from ⟨_, nn, k2 _ _ hpo, rfl, rfl, rfl⟩).isList (by omega) (by omega) (by simpa using hw1) ?_ (by with_unfolding_all rfl)
    refine PyProof.Rows.neg_int ?_
    exact ⟨h₁, _, rfl, k1, .int _ _⟩
end
/-- the points of a comer that has some -/
def ptOf (h : Hs) (x : Int) : Int := (h.pts.getD x.toNat none).getD 0
def byKey (h : Hs) (a b : Int) : Bool := decide (-ptOf h a ≤ -ptOf h b)
theorem each_ints : ∀ {l : List Int} {us : List Value}, Vals (l.map V.int) us → PySem.W.EachIs (fun v x => ∃ t, v = Value.int x t) us l
  | [], _, .nil => .nil
  | _ :: _, _, .cons r t => .cons r (each_ints t)
theorem vals_each : ∀ {us : List Value} {l : List Int}, PySem.W.EachIs (fun v x => ∃ t, v = Value.int x t) us l → Vals (l.map V.int) us
  | _, _, .nil => .nil
  | _, _, .cons r t => .cons r (vals_each t)
theorem lk_row {h : Hs} {p q r : Addr} : (flds h p q r).lookup ("row" : Str) = some (.ref r) := by
  unfold flds
  rw [lookup_putF, if_pos rfl]
theorem lk_kinds {h : Hs} {p q r : Addr} : (flds h p q r).lookup ("kinds" : Str) = some (.ref q) := by
  unfold flds
  rw [lookup_putF, if_neg (by decide +kernel), lookup_putF, if_pos rfl]
theorem lk_points {h : Hs} {p q r : Addr} : (flds h p q r).lookup ("points" : Str) = some (.ref p) := by
  unfold flds
  rw [lookup_putF, if_neg (by decide +kernel), lookup_putF, if_neg (by decide +kernel), lookup_putF, if_pos rfl]
theorem lk_opened {h : Hs} {p q r : Addr} : (flds h p q r).lookup ("opened" : Str) = some (.bl h.opened) := by
  unfold flds
  rw [lookup_putF, if_neg (by decide +kernel), lookup_putF, if_neg (by decide +kernel), lookup_putF, if_neg (by decide +kernel), lookup_putF, if_pos rfl]
theorem lk_kind {h : Hs} {p q r : Addr} : (flds h p q r).lookup ("kind" : Str) = some (.int h.kind) := by
  unfold flds
  rw [lookup_putF, if_neg (by decide +kernel), lookup_putF, if_neg (by decide +kernel), lookup_putF, if_neg (by decide +kernel), lookup_putF, if_neg (by decide +kernel), lookup_putF, if_pos rfl]
theorem lk_kept {h : Hs} {p q r : Addr} : (flds h p q r).lookup ("kept" : Str) = some (.int h.kept) := by
  unfold flds
  rw [lookup_putF, if_neg (by decide +kernel), lookup_putF, if_neg (by decide +kernel), lookup_putF, if_neg (by decide +kernel), lookup_putF, if_neg (by decide +kernel), lookup_putF, if_neg (by decide +kernel), lookup_putF, if_pos rfl]
theorem lk_seats {h : Hs} {p q r : Addr} : (flds h p q r).lookup ("seats" : Str) = some (.int h.seats) := by
  unfold flds
  rw [lookup_putF, if_neg (by decide +kernel), lookup_putF, if_neg (by decide +kernel), lookup_putF, if_neg (by decide +kernel), lookup_putF, if_neg (by decide +kernel), lookup_putF, if_neg (by decide +kernel), lookup_putF, if_neg (by decide +kernel), lookup_putF, if_pos rfl]
theorem lk_no {h : Hs} {p q r : Addr} {m : Str} (h1 : m ≠ "row") (h2 : m ≠ "kinds") (h3 : m ≠ "points") (h4 : m ≠ "opened") (h5 : m ≠ "kind") (h6 : m ≠ "kept") (h7 : m ≠ "seats") : (flds h p q r).lookup m = none := by
  unfold flds
  rw [lookup_putF, if_neg h1, lookup_putF, if_neg h2, lookup_putF, if_neg h3, lookup_putF, if_neg h4, lookup_putF, if_neg h5, lookup_putF, if_neg h6, lookup_putF, if_neg h7] <;> rfl
section
variable {g : Gb} {X : Cx} {G : List Sl} {e : Expr} {pos p kpos lpos p1 p2 p3 p4 p5 q0 : Pos}
theorem ev_sortedLam {h : Hs} {l : List Int} {c P : Addr} (hK : X.K = g.K) (fr : Free X.mg) (cl : Cls g.K g.C) (na : NoAttr g.K g.C "points") (TB : LamX.TabB X.base X.mg c P) (hcode : X.env.code = .ref c) (hT : g.T = [(P, X.env.qual ++ "<lambda>")]) (hr : Room 2 X.A)
    (hG : G[0]? = some (.v (.hs h))) (hs : X.N[0]? = some ("self" : Str)) (hcl : X.env.scope.names.lookup ("self" : Str) = some .cell) (he : EvD g X G e (.lst (l.map D.int))) (hl : l.length ≤ 90000) (hp : ∀ x ∈ l, ∃ (n : Nat) (z : Int), x = (n : Int) ∧ h.pts[n]? = some (some z)) (hg : Gl X "sorted" := by rfl)
    (hst : starEach [e] X.env = (false, eval e X.env) :: starEach [] X.env := by rfl) (hst2 : backTo pos (starEach [e] X.env) = (false, eval e X.env) :: backTo pos (starEach [] X.env) := by rfl) (hpl : (backTo pos (starEach [e] X.env)).any (·.1) = false := by rfl) :
    Ev g X G (.Call (.Name "sorted" p) [e] [⟨some "key", .Lambda (lamArgs q0) (lamBody p1 p2 p3 p4 p5) lamScope lpos, kpos⟩] pos) (.m ((l.mergeSort (byKey h)).map D.int)) := by
  intro F H σ ow ok Q q pins s I
  refine wpAny_Call_Name_kw (ld_blt (u := .builtin "sorted") I hg fr.sorted (by decide +kernel) ?_ (by decide) (by decide))
  refine PyProof.Rows.callWith_kw (thn ((pa_cons (X := X) pe_we pa_nil hst).run pos pins s σ H (fun vs H1 => ∃ v F1, vs = [v] ∧ Up g F H F1 H1 ∧ Rep g F1 (.lst (l.map D.int)) v) I (he F H σ ow ok _ fun v F1 H1 u r => ⟨v, F1, rfl, u, r⟩)) fun us s1 hq => ?_) hst2 hpl (by rfl) (by rfl)
  obtain ⟨vs, H1, I1, rv, v, F1, e1, u, r⟩ := hq
  obtain ⟨a1, xs, e2, f1, r1⟩ := of_lst r
  have e3 := ints_of r1
  subst e1 e2 e3
  have e4 := Vals.ref1 rv
  subst e4
  have ok1 := ok.up u
  obtain ⟨o, g1, v0, g2, g3⟩ := ok1.at_ 0 _ hG
  obtain ⟨a, g4, dx, pp, qq, rr, g5, g6, g7, g8⟩ := of_hs g3
  subst g2 g4
  obtain ⟨m, hn, hlk⟩ := id I1.loc
  obtain ⟨uu, hru, hlook⟩ := hlk 0 "self" (.ref a) hs g1 (Or.inr (Or.inl hcl))
  have hru' : uu = Value.ref a := hru
  subst hru'
  obtain ⟨cs, hcs⟩ : ∃ cs, X.env.cells.lookup ("self" : Str) = some cs := by
    rcases hlook with ⟨k1, _⟩ | ⟨_, cs, k1, _⟩
    · have k1' : X.env.scope.names.lookup ("self" : Str) = some .local := k1
      rw [hcl] at k1'
      cases k1'
    · exact ⟨cs, k1⟩
  show wpAny _ _ (evalAll ((do let v ← eval (.Lambda (lamArgs q0) (lamBody p1 p2 p3 p4 p5) lamScope lpos) X.env; standAt pos; pure v) :: [])) _ _ s1
  refine wpAny_evalAll_cons (wpAny_bind (LamX.lam_make2 (T := g.T) I1 TB hcode (by rw [hT]; exact List.mem_singleton.mpr rfl) (fun z hz _ => by rw [hT] at hz; rw [List.mem_singleton.mp hz]) u.fit.tab rfl (fun y hy hf => ?_) fun f c' pm ctv H2 s2 I2 eN T2 hf hfn hfr hco => wpAny_bind (wpAny_standAt (wpAny_pure (wpAny_evalAll_nil ?_)))))
  · rcases List.mem_cons.mp hy with z | z
    · rw [z] at hf
      cases hf
    · have z' := List.mem_singleton.mp z
      rw [z']
      exact ⟨cs, hcs⟩
  · show wpAny _ _ (call (.builtin "sorted") [.ref a1] [(Str.ofString "key", .ref f)]) _ _ s2
    have up2 : Up g F1 H1 F1 H2 := ⟨eN, Sub.refl F1, fun _ _ _ _ z => z, ⟨fun b o z => eN b o (u.fit.low b o z) (u.fit.nt b o z), u.fit.nt, T2⟩⟩
    obtain ⟨m2, hn2, hlk2⟩ := id I2.loc
    obtain ⟨uu2, hru2, hlook2⟩ := hlk2 0 "self" (.ref a) hs g1 (Or.inr (Or.inl hcl))
    have hru2' : uu2 = Value.ref a := hru2
    subst hru2'
    have hcell : s2.heap.IsCell cs (some (.ref a)) := by
      rcases hlook2 with ⟨k1, _⟩ | ⟨_, cs2, k1, k2⟩
      · have k1' : X.env.scope.names.lookup ("self" : Str) = some .local := k1
        rw [hcl] at k1'
        cases k1'
      · rw [hcs] at k1
        cases k1
        exact k2
    have low2 := up2.fit.low
    obtain ⟨its, rits, pl, hz⟩ := I2.list (SqL.of (low2 _ _ f1))
    have hA : X.A.in1.in1.depth < recursionLimit := (Room.in1 (Room.in1 hr)).depth
    refine PySem.W.sorted_key_data (β := Int) (b := false) (R := fun v x => ∃ t, v = Value.int x t) (fun x => .int (-ptOf h x)) pl.isList (each_ints rits) (PySem.W.AllAlike.of fun _ _ => by rfl) (PySem.W.Sortable.others fun _ => ⟨nofun, fun _ => nofun⟩) (by rw [List.length_map] at hz; exact hz)
      (fun x _ => ?_) (PyProof.Rows.ksk_s1 _ _) (fun _ => PyProof.Rows.ksk_l1 _ _) (fun _ => PyProof.Rows.ksk_t1 _ _) (fun v x hR hx h0 tk k0 => ?_) fun out cc h' tk k0 fresh hD hlen each => ?_
    · have := hr.units
      show X.A.units + 2 + 0 < cLine
      omega
    · obtain ⟨t, rfl⟩ := hR
      obtain ⟨n, z, e5, e6⟩ := hp x hx
      subst e5
      have e7 : ptOf h (n : Int) = z := by
        unfold ptOf
        rw [Int.toNat_natCast, List.getD_eq_getElem?_getD, e6] <;> rfl
      show wpAny _ _ _ (PySem.W.KeyPure (.int (-ptOf h (n : Int))) _) _ _
      rw [e7]
      have hclo : (cloFrom X.env.cells lamScope.names []).lookup ("self" : Str) = some cs := by
        show ([(("self" : Str), (X.env.cells.lookup ("self" : Str)).getD 0)] : List (Str × Addr)).lookup ("self" : Str) = some cs
        rw [hcs]
        rfl
      exact lam_key I2 hf hco hclo hcell (low2 _ _ g5) (by rw [hK]; exact cl) (by rw [hK]; exact na) lk_points (low2 _ _ g6) (by rw [List.getElem?_map, e6]; rfl) hA k0
    · have e8 : l.mergeSort (PySem.W.dataLe false fun x => .int (-ptOf h x)) = l.mergeSort (byKey h) := by
        rw [PySem.W.dataLe_int (fun x => -ptOf h x)]
        rfl
      rw [e8] at each
      have rv2 := vals_each each
      have hl2 : ((l.mergeSort (byKey h)).map V.int).length ≤ sizeLine := by
        rw [List.length_map, List.length_mergeSort]
        exact Nat.le_trans hl (by decide)
      have hfree := I2.hok.fresh (Nat.le_succ s2.heap.objs.size)
      refine ⟨.ref (s2.heap.objs.size + 1), upd H2 (s2.heap.objs.size + 1) (.lst ((l.mergeSort (byKey h)).map V.int)), I2.laid (t' := tk) k0 (Nat.le_succ _) ⟨hl2, out, cc, rv2, hD⟩, rfl, ?_⟩
      exact rt_new up2.fit (repL_ints _) (fun v F3 H3 u3 r3 => q v F3 H3 ((u.trans up2).trans u3) (r3.back (u.trans up2).ext)) hfree
end
end CH

/-! Choosehall: a House made; its attributes; a comprehension over a dict of the frame's own. -/
namespace CH
open PySem L2

open Classical in
/-- what House.__init__ promises -/
def spInit (g : Gb) : Sp := fun vs H Q _ => ∃ (p dx : Addr) (h : Hs) (a b c : Addr) (F : Hp), vs = [.ref p, .int h.seats, .int h.kept, .int h.kind, .bl h.opened, .ref a, .ref b, .ref c] ∧ H p = some (.ins g.C dx []) ∧
  F a = some (.lst (h.pts.map vOi)) ∧ F b = some (.lst (h.kinds.map V.int)) ∧ F c = some (.lst (h.row.map V.int)) ∧ Fit g F H ∧ F p = none ∧
  ∀ F' H', (∀ z o, H z = some o → z ≠ p → H' z = some o) → Sub F F' → Fit g F' H' → (∀ z o, H z = some o → z ≠ p → F z = none → F' z = none) → HsAt g (fun b => if H b = none ∨ b = p then F' b else none) h p → Q .non H'
def HCal (P : Program) (w : World) (g : Gb) (mg : Str → Option Value) (base : Heap) (k : Nat) : Prop :=
  ∃ (f : Addr) (fd : FuncData) (ps : List Str), FnOk P w g.K mg base CX0 k f fd ps (spInit g) ∧ Mk g.K g.C f ∧ Binds g.K fd ps [] ∧ mg "House" = some (.ref g.C)
theorem newHs_sub {H F' : Hp} {p : Addr} [∀ b, Decidable (H b = none ∨ b = p)] : Sub (fun b => if H b = none ∨ b = p then F' b else none) F' := fun b o e => by
  have e2 : (if H b = none ∨ b = p then F' b else none) = some o := e
  by_cases h : H b = none ∨ b = p
  · rw [if_pos h] at e2
    exact e2
  · rw [if_neg h] at e2
    cases e2
theorem ois_of {g : Gb} {F : Hp} {l : List (Option Int)} {xs : List V} (h : RepL g F (l.map D.oi) xs) : xs = l.map vOi := repL_of D.oi vOi (fun _ _ => of_oi) h
theorem repL_ois {g : Gb} {F : Hp} (l : List (Option Int)) : RepL g F (l.map D.oi) (l.map vOi) := repL_map D.oi vOi rep_oi l
def hsArgs (h : Hs) : List D := [.int h.seats, .int h.kept, .int h.kind, .bl h.opened, .lst (h.pts.map D.oi), .lst (h.kinds.map D.int), .lst (h.row.map D.int)]
section
variable {g : Gb} {X : Cx} {G : List Sl} {e o : Expr} {es : List Expr} {pos p apos : Pos} {k : Nat}
theorem ev_make {h : Hs} (hK : X.K = g.K) (C : HCal X.prog X.w g X.mg X.base k) (hr : Room (k + 1) X.A) (ha : EvA g X G (e :: es) (hsArgs h)) (hg : Gl X "House" := by rfl)
    (he : starEach (e :: es) X.env = (false, eval e X.env) :: starEach es X.env := by rfl) (hpl : (backTo pos (starEach es X.env)).any (·.1) = false := by rfl) : EvD g X G (.Call (.Name "House" p) (e :: es) [] pos) (.hs h) := by
  obtain ⟨f, fd, ps, F0, M, hb, hm⟩ := C
  intro F H σ ow ok Q q
  refine we_of (pe_make (X := X) (C := g.C) (by rw [hK]; exact M) (by rw [hK]; exact F0) hr hg hm (by rw [hK]; exact hb) .nil pass0 pa_wa (by decide) he hpl) ?_
  refine ha F H σ ow ok _ fun vs F1 H1 u r => ?_
  intro x dx hx hdx hne
  rw [List.append_nil]
  have r' : RepL g F1 [.int h.seats, .int h.kept, .int h.kind, .bl h.opened, .lst (h.pts.map D.oi), .lst (h.kinds.map D.int), .lst (h.row.map D.int)] vs := r
  obtain ⟨v1, w1, rfl, a1, r1⟩ := repL_inv r'
  obtain ⟨v2, w2, rfl, a2, r2⟩ := repL_inv r1
  obtain ⟨v3, w3, rfl, a3, r3⟩ := repL_inv r2
  obtain ⟨v4, w4, rfl, a4, r4⟩ := repL_inv r3
  obtain ⟨v5, w5, rfl, a5, r5⟩ := repL_inv r4
  obtain ⟨v6, w6, rfl, a6, r6⟩ := repL_inv r5
  obtain ⟨v7, w7, rfl, a7, r7⟩ := repL_inv r6
  have e7 := repL_inv0 r7
  subst e7
  obtain ⟨q5, x5, rfl, f5, s5⟩ := of_lst a5
  obtain ⟨q6, x6, rfl, f6, s6⟩ := of_lst a6
  obtain ⟨q7, x7, rfl, f7, s7⟩ := of_lst a7
  rw [of_int a1, of_int a2, of_int a3, of_bl a4]
  rw [ois_of s5] at f5
  rw [ints_of s6] at f6
  rw [ints_of s7] at f7
  have hold : ∀ z o, H1 z = some o → (upd (upd H1 dx (.own x)) x (.ins g.C dx [])) z = some o := fun z o e => by
    rw [upd_ne (ne_of_none e hx), upd_ne (ne_of_none e hdx)]
    exact e
  refine ⟨x, dx, h, q5, q6, q7, F1, rfl, upd_same, f5, f6, f7, ⟨fun z o e => hold z o (u.fit.low z o e), u.fit.nt, u.fit.tab.ext fun z o e => hold z o e⟩, u.fit.low.free hx, fun F2 H2 k1 k2 k3 k4 k5 => ⟨rfl, ?_⟩⟩
  refine q _ F2 H2 (u.trans ⟨fun z o e _ => k1 z o (hold z o e) (ne_of_none e hx), k2, fun z o e n f => k4 z o (hold z o e) (ne_of_none e hx) f, k3⟩) (.hs (k5.mono newHs_sub))

/-! ### attributes -/
theorem fld_seats (h : Hs) : FldIs "seats" h (.int h.seats) := fun _ _ _ _ _ _ _ _ => ⟨_, lk_seats, rep_int _⟩
theorem fld_kept (h : Hs) : FldIs "kept" h (.int h.kept) := fun _ _ _ _ _ _ _ _ => ⟨_, lk_kept, rep_int _⟩
theorem fld_kind (h : Hs) : FldIs "kind" h (.int h.kind) := fun _ _ _ _ _ _ _ _ => ⟨_, lk_kind, rep_int _⟩
theorem fld_opened (h : Hs) : FldIs "opened" h (.bl h.opened) := fun _ _ _ _ _ _ _ _ => ⟨_, lk_opened, rep_bl _⟩
theorem fld_points (h : Hs) : FldIs "points" h (.lst (h.pts.map D.oi)) := fun _ _ _ _ _ h1 _ _ => ⟨_, lk_points, rep_lst h1 (repL_ois _)⟩
theorem fld_kinds (h : Hs) : FldIs "kinds" h (.lst (h.kinds.map D.int)) := fun _ _ _ _ _ _ h1 _ => ⟨_, lk_kinds, rep_lst h1 (repL_ints _)⟩
theorem fld_row (h : Hs) : FldIs "row" h (.lst (h.row.map D.int)) := fun _ _ _ _ _ _ _ h1 => ⟨_, lk_row, rep_lst h1 (repL_ints _)⟩
end

/-! ### dicts of the frame's own, read -/
section
variable {g : Gb} {X : Cx} {G : List Sl} {e1 : Expr} {pos p p2 p3 p4 p5 p6 p7 p8 : Pos} {x y z : Str} {scope : Scope}
/-- d[e1] -/
theorem ev_dget (i : Nat) {kvs : List (Int × V)} {n : Int} {w : V} {d : D} (hu : X.A.units + 1 < cLine) (h1 : EvD g X G e1 (.int n)) (hv : (kvs.find? fun p => decide (p.1 = n)).map (·.2) = some w) (hd : flD w = some d) (hG : G[i]? = some (.dc kvs) := by rfl) (hn : NmV X i x := by first | exact ⟨rfl, Or.inl rfl, rfl, rfl⟩ | exact ⟨rfl, Or.inr (Or.inl rfl), rfl, rfl⟩)
    (hs : NoSl e1 := by intro _ _; rfl) : EvD g X G (.Subscript (.Name x p) e1 pos) d := by
  intro F H σ ow ok Q q
  refine we_of (pe_dget hu (pe_nm hn) pe_we hs) ?_
  obtain ⟨f1, f2, f3⟩ := ok.ownD hG
  refine ⟨_, f1, ?_⟩
  refine h1 F H σ ow ok _ fun v F2 H2 u r => ?_
  obtain ⟨g1, g2, g3⟩ := (ok.up u).ownD hG
  refine ⟨ow i, w, rfl, ?_, q _ F2 H2 u (rep_fl hd)⟩
  have e := DGet.k (k := (Sum.inl n : Key)) g3
  rw [val_dkv, hv] at e
  rw [of_int r]
  exact e
theorem find_nd {pr : Int × Int} : ∀ {kvs : List (Int × Int)}, (kvs.map (·.1)).Nodup → pr ∈ kvs → (((kvs.map fun p => (p.1, V.int p.2)).find? fun q => decide (q.1 = pr.1)).map (·.2)) = some (V.int pr.2)
  | [], _, hm => by cases hm
  | a :: r, hnd, hm => by
    obtain ⟨n1, n2⟩ := List.nodup_cons.mp (show (a.1 :: r.map (·.1)).Nodup from hnd)
    rw [List.map_cons, List.find?_cons]
    by_cases h : a.1 = pr.1
    · rcases List.mem_cons.mp hm with w | w
      · rw [w]
        simp
      · exact absurd (List.mem_map.mpr ⟨pr, w, h.symm⟩) n1
    · rcases List.mem_cons.mp hm with w | w
      · exact absurd (by rw [w]) h
      · have e : decide ((a.1, V.int a.2).1 = pr.1) = false := decide_eq_false h
        rw [e]
        exact find_nd n2 w
/-- [x for x in d if d[x] == z], d a dict of the frame's own with ints -/
theorem ev_lcD (i j l : Nat) {kvs : List (Int × Int)} {m : Int} (hu : X.A.units + 1 < cLine) (hnd : (kvs.map (·.1)).Nodup) (hl : kvs.length ≤ 90000)
    (hG : G[i]? = some (.dc (kvs.map fun p => (p.1, V.int p.2)))) (hZ : G[l]? = some (.v (.int m))) (hij : i ≠ j) (hlj : l ≠ j) (hjl : j < G.length)
    (hn : NmV X i y) (hb : blkC X.N X.env.scope scope [(x, j)] = true := by kernel_rfl)
    (hny : ∀ (s : Shared) (H0 : Hp) (C : Addr) (cl : List (Str × Addr)) (fp : List Addr), NmV (X.blk s H0 scope (compEnvC scope cl C X.env) fp) i y) (hnz : ∀ (s : Shared) (H0 : Hp) (C : Addr) (cl : List (Str × Addr)) (fp : List Addr), NmV (X.blk s H0 scope (compEnvC scope cl C X.env) fp) l z)
    (hnx : ∀ (s : Shared) (H0 : Hp) (C : Addr) (cl : List (Str × Addr)) (fp : List Addr), NmV (X.blk s H0 scope (compEnvC scope cl C X.env) fp) j x)
    (hN : X.N.Nodup := by exact nd_by (by kernel_rfl)) (hj : X.N[j]? = some x := by rfl) (hx : BlkT X scope x := by first | exact ⟨Or.inl rfl, Or.inr rfl⟩ | exact ⟨Or.inr rfl, Or.inl rfl⟩) (hc : X.calm = true := by rfl)
    (hfo : ∀ v, foldedSetIterable (.Name y p2) X.env v = pure v := by intro _; rfl) :
    Ev g X G (.ListComp (.Name x p) [⟨.Name x p3, .Name y p2, [.Compare (.Subscript (.Name y p4) (.Name x p5) p6) [.Eq] [.Name z p7] p8], 0⟩] scope pos) (.m (((kvs.filter fun p => decide (p.2 = m)).map (·.1)).map D.int)) := by
  intro F H σ ow ok Q q
  obtain ⟨f1, f2, f3⟩ := ok.ownD hG
  refine we_of (pe_lock (pe_lc (own := [(x, j)]) (g := gName j) (tt := tTest (tOp rEq (tDGet (tVar i) (tVar j)) (tVar l))) (te := tVar j) hc hN (pi_keys (pe_nm hn)) (blkOk_by hb) (pg_blk j hN hj hx)
    (fun s H C cl fp => pts_one (pt_cmpR op_eq (pe_dget (X := X.blk s H scope (compEnvC scope cl C X.env) fp) hu (pe_nm (hny s H C cl fp)) (pe_nm (hnx s H C cl fp)) (fun _ _ => rfl)) (pe_nm (hnz s H C cl fp)) (nomark _))) (fun s H C cl fp => pe_nm (hnx s H C cl fp)) hfo)) ?_
  refine ⟨ow i, _, f3, True.intro, fun od => ?_⟩
  refine ⟨_, f1, ow i, od, rfl, Or.inl ⟨_, upd_same, fun D hD => ?_⟩⟩
  have hDi : ow i ≠ D := fun w => by
    rw [← w, upd_same] at hD
    cases hD
  have hD0 : H D = none := by
    rw [upd_ne (Ne.symm hDi)] at hD
    exact hD
  have hlen : (dkv (kvs.map fun p => (p.1, V.int p.2))).length = kvs.length := by
    unfold dkv
    rw [List.length_map, List.length_map]
  have hkey : ∀ n : Nat, (dkv (kvs.map fun p => (p.1, V.int p.2)))[n]? = (kvs[n]?).map fun p => ((Sum.inl p.1 : Key), V.int p.2) := fun n => by
    unfold dkv
    rw [List.getElem?_map, List.getElem?_map, Option.map_map] <;> rfl
  obtain ⟨oz, z1, vz, z2, z3⟩ := ok.at_ l _ hZ
  have z4 := of_int z3
  refine lc_it (walk_keys (d := ow i) (o := od) (kvs := dkv (kvs.map fun p => (p.1, V.int p.2)))) (fun n H' => H' = upd (upd H (ow i) (.frz od (.dK (dkv (kvs.map fun p => (p.1, V.int p.2)))))) D (.lst ((((kvs.take n).filter fun p => decide (p.2 = m)).map (·.1)).map V.int))) rfl (fun n H' _ e => by rw [e, upd_ne hDi, upd_same]) (fun n v H' H3 hn e y0 => ?_) (fun H' e => ?_)
  · obtain ⟨e3, kk, vv, k1, k2⟩ := y0
    subst e3
    rw [hkey n] at k1
    obtain ⟨pr, hp⟩ : ∃ pr, kvs[n]? = some pr := by
      cases w : kvs[n]? with
      | none =>
        rw [w] at k1
        cases k1
      | some pr => exact ⟨pr, rfl⟩
    rw [hp] at k1
    have k3 := Option.some.inj k1
    have k4 : (Sum.inl pr.1 : Key) = kk := congrArg Prod.fst k3
    subst k4
    have k5 : v = V.int pr.1 := k2
    have hjs : j < σ.length := by rw [ok.len]; exact hjl
    have ew : ((wipe σ [j]).set j (some v)) = σ.set j (some v) := by
      show (σ.set j none).set j (some v) = _
      rw [List.set_set]
    have hHi : H3 (ow i) = some (.frz od (.dK (dkv (kvs.map fun p => (p.1, V.int p.2))))) := by
      rw [e, upd_ne hDi, upd_same]
    refine ⟨?_, ?_⟩
    · show ((wipe σ [j]).set j (some v)).set j none = (σ.set j none)
      rw [ew, List.set_set]
    · show tTest _ ((wipe σ [j]).set j (some v)) _ _
      rw [ew]
      have hval := find_nd hnd (List.mem_of_getElem? hp)
      refine ⟨V.ref (ow i), ?_, V.int pr.1, ?_, ow i, V.int pr.2, rfl, Or.inl ⟨_, Sum.inl pr.1, Or.inr ⟨od, hHi⟩, rfl, ?_⟩, V.int m, ?_, rfl, decide (pr.2 = m), ?_, ?_⟩
      · rw [List.getElem?_set_ne (Ne.symm hij)]
        exact f1
      · rw [List.getElem?_set_self hjs, k5]
      · rw [val_dkv, hval]
      · rw [List.getElem?_set_ne (Ne.symm hlj), z1, z2, z4]
      · congr 1
        by_cases h : pr.2 = m
        · rw [decide_eq_true h, h, decide_eq_true rfl]
        · rw [decide_eq_false h, decide_eq_false fun w => h (by injection w)]
      · have hs := filt_snoc (q := fun p : Int × Int => decide (p.2 = m)) hp
        by_cases h : pr.2 = m
        · rw [decide_eq_true h]
          refine iteT ⟨v, List.getElem?_set_self (by rw [show (wipe σ (List.map (fun x => x.snd) [(x, j)])) = σ.set j none from rfl, List.length_set]; exact hjs), _, (by rw [e]; exact upd_same), ?_, ?_⟩
          · rw [List.length_map, List.length_map]
            refine Nat.lt_of_le_of_lt (Nat.le_trans (List.length_filter_le _ _) (Nat.le_trans (by rw [List.length_take]; exact Nat.min_le_right _ _) hl)) (by decide)
          · rw [e, upd_upd, hs, if_pos (by exact decide_eq_true h), List.map_append, List.map_append, k5] <;> rfl
        · rw [decide_eq_false h]
          refine iteF ?_
          rw [e, hs, if_neg (by rw [decide_eq_false h]; decide), List.append_nil]
  · rw [hlen, List.take_length] at e
    subst e
    refine ⟨by rw [upd_ne hDi, upd_same], ?_⟩
    have e5 : upd (upd (upd H (ow i) (.frz od (.dK (dkv (kvs.map fun p => (p.1, V.int p.2)))))) D (.lst ((((kvs.filter fun p => decide (p.2 = m)).map (·.1)).map V.int)))) (ow i) (.dK (dkv (kvs.map fun p => (p.1, V.int p.2)))) = upd H D (.lst ((((kvs.filter fun p => decide (p.2 = m)).map (·.1)).map V.int))) := by
      funext b
      by_cases hb : b = ow i
      · subst hb
        rw [upd_same, upd_ne hDi, f3]
      · rw [upd_ne hb]
        by_cases hb2 : b = D
        · subst hb2
          rw [upd_same, upd_same]
        · rw [upd_ne hb2, upd_ne hb2, upd_ne hb]
    rw [e5]
    exact rt_new ok.fit (repL_ints _) q hD0
end
end CH

/-! Choosehall: a loop over a list of the frame's own; a House made of such. -/
namespace CH
open PySem L2
section
variable {g : Gb} {X : Cx} {G : List Sl} {F H : Hp} {σ : St} {ow : Nat → Addr} {e o : Expr} {es : List Expr} {pos p p2 : Pos} {x y : Str} {body : List Stmt} {k : KE}
theorem s_forOwn (i j : Nat) {ds : List D} (I : Addr → Nat → List Sl → Prop) (h0 : ∀ a, I a 0 (G.set i (.v (.adr a)))) (hij : i ≠ j)
    (hs : ∀ a n d G', ds[n]? = some d → I a n G' → G'[i]? = some (.v (.adr a)) → Ss g X (G'.set j (.v d)) body { nx := fun G2 => I a (n + 1) G2 ∧ G2[i]? = some (.v (.adr a)), ct := fun G2 => I a (n + 1) G2 ∧ G2[i]? = some (.v (.adr a)), bk := fun G2 => G2[i]? = some (.v (.adr a)) ∧ k.nx (G2.set i (.m ds)), rt := k.rt })
    (hd : ∀ a G', I a ds.length G' → G'[i]? = some (.v (.adr a)) → k.nx (G'.set i (.m ds))) (hG : G[i]? = some (.m ds) := by rfl)
    (hn : NmV X i y := by first | exact ⟨rfl, Or.inl rfl, rfl, rfl⟩ | exact ⟨rfl, Or.inr (Or.inl rfl), rfl, rfl⟩)
    (hN : X.N.Nodup := by exact nd_by (by kernel_rfl)) (hj : X.N[j]? = some x := by rfl) (hx : Loc X.env.scope x := by first | exact Or.inl rfl | exact Or.inr rfl) (hc : X.calm = true := by rfl)
    (hf : X.fn x = true ∨ X.env.scope.names.lookup x = some .local := by first | exact .inl rfl | exact .inr rfl) (hp : PassesOwn (model X.prog X.w) X.A X.env X.xe := by exact PassesOwn.never)
    (hfo : ∀ x, foldedSetIterable (.Name y p2) X.env x = pure x := by intro _; rfl) : S1 g X G (.For (.Name x p) (.Name y p2) body [] pos) k := fun B F H σ ow ok bk F1 s1 => by
  obtain ⟨o1, fn, xs, hx1, hr1⟩ := ok.own hG
  have fra : Fresh B.2 (ow i) := bk.fresh i _ hG rfl
  have back : LamX.ExtN B.2 (upd B.2 (ow i) (.lst xs)) := fun b u e n => by
    rw [upd_ne fun z => fra u (by rw [← z]; exact e) n]
    exact e
  have frz : ∀ {l : Addr}, Fresh (upd B.2 (ow i) (.lst xs)) l → l ≠ ow i ∧ Fresh B.2 l := fun {l} f => ⟨fun z => f (.lst xs) (by rw [z]; exact upd_same) nt_lst, f.back back⟩
  have nB : B.1 (ow i) = none := by
    cases q : B.1 (ow i) with
    | none => rfl
    | some u =>
      have := bk.up.sub _ _ q
      rw [fn] at this
      cases this
  have upF : ∀ {F' H' : Hp}, Up g B.1 (upd B.2 (ow i) (.lst xs)) F' H' → Up g B.1 B.2 F' H' := fun {F' H'} u => by
    refine ⟨fun b o e n => u.ext b o (back b o e n) n, u.sub, fun b o e n f => u.grow b o (back b o e n) n f, u.fit⟩
  have bk0 : Bk g (B.1, upd B.2 (ow i) (.lst xs)) (G.set i (.v (.adr (ow i)))) F H (fun j => if j = i then 0 else ow j) := by
    refine ⟨⟨fun b o e n => ?_, bk.up.sub, fun b o e n f => ?_, bk.up.fit⟩, fun j' t e w => ?_⟩
    · have e' : (upd B.2 (ow i) (.lst xs)) b = some o := e
      by_cases hb : b = ow i
      · rw [hb, upd_same] at e'
        cases e'
        rw [hb]
        exact hx1
      · rw [upd_ne hb] at e'
        exact bk.up.ext b o e' n
    · have e' : (upd B.2 (ow i) (.lst xs)) b = some o := e
      by_cases hb : b = ow i
      · rw [hb]
        exact fn
      · rw [upd_ne hb] at e'
        exact bk.up.grow b o e' n f
    · rcases get_set e with ⟨rfl, rfl⟩ | ⟨n, e1⟩
      · cases w
      · show Fresh (upd B.2 (ow i) (.lst xs)) (if j' = i then 0 else ow j')
        rw [if_neg n]
        have f1 := bk.fresh j' t e1 w
        intro o eo
        have ne : ow j' ≠ ow i := fun z => n (ok.inj j' i _ _ e1 hG w rfl z)
        rw [upd_ne ne] at eo
        exact f1 o eo
  have ok0 : Ok g (G.set i (.v (.adr (ow i)))) F H σ (fun j => if j = i then 0 else ow j) := by
    have z := ok.set (i := i) (a := 0) (s := .v (.adr (ow i))) (o := some (.ref (ow i))) ⟨_, rfl, .adr _⟩ (fun w => by cases w)
    have es : σ.set i (some (.ref (ow i))) = σ := by
      refine List.ext_getElem? fun n => ?_
      by_cases hn : n = i
      · subst hn
        rw [o1, List.getElem?_set_self (List.getElem?_eq_some_iff.mp o1).1]
      · rw [List.getElem?_set_ne (Ne.symm hn)]
    rw [es] at z
    exact z
  -- owned again
  have reown : ∀ {G' : List Sl} {F' H' : Hp} {σ' : St} {ow' : Nat → Addr} {K : List Sl → Prop}, G'[i]? = some (.v (.adr (ow i))) → K (G'.set i (.m ds)) → Ok g G' F' H' σ' ow' → Bk g (B.1, upd B.2 (ow i) (.lst xs)) G' F' H' ow' → Sub F F' → nxP g B F1 K σ' H' := fun {G' F' H' σ' ow' K} e hk ok' bk' sf => by
    obtain ⟨ov, q1, v, q2, q3⟩ := ok'.at_ i _ e
    cases q3
    subst q2
    have hH : H' (ow i) = some (.lst xs) := bk'.up.ext _ _ upd_same nt_lst
    have hF : F' (ow i) = none := bk'.up.grow _ _ upd_same nt_lst nB
    have z := ok'.set (i := i) (a := ow i) (s := .m ds) (o := some (.ref (ow i))) ⟨rfl, hF, xs, hH, RepL.mono sf _ _ hr1⟩ (fun _ j' t n e1 w z => (frz (bk'.fresh j' t e1 w)).1 z)
    have es : σ'.set i (some (.ref (ow i))) = σ' := by
      refine List.ext_getElem? fun n => ?_
      by_cases hn : n = i
      · subst hn
        rw [q1, List.getElem?_set_self (List.getElem?_eq_some_iff.mp q1).1]
      · rw [List.getElem?_set_ne (Ne.symm hn)]
    rw [es] at z
    refine ⟨_, F', _, hk, z, ⟨upF bk'.up, fun j' t e1 w => ?_⟩, s1.trans sf⟩
    rcases get_set e1 with ⟨rfl, rfl⟩ | ⟨n, e2⟩
    · show Fresh B.2 (if j' = j' then _ else _)
      rw [if_pos rfl]
      exact fra
    · show Fresh B.2 (if j' = i then _ else _)
      rw [if_neg n]
      exact (frz (bk'.fresh j' t e2 w)).2
  have hsq : ∀ {H' : Hp}, H' (ow i) = some (.lst xs) → SqL X.K H' (ow i) xs := fun h => SqL.of h
  refine ws_of (ps_for hp hc (pi_list (pe_nm hn)) (pg_name hN hj hx hf) pss_wss hfo) ?_
  refine ⟨_, o1, ow i, rfl, ⟨xs, SqL.of hx1⟩, ?_⟩
  refine ⟨fun n m σ' H' => m = ds.length - n ∧ n ≤ ds.length ∧ nxP g (B.1, upd B.2 (ow i) (.lst xs)) F (fun G' => I (ow i) n G' ∧ G'[i]? = some (.v (.adr (ow i)))) σ' H', ⟨_, rfl, Nat.zero_le _, _, F, _, ⟨h0 (ow i), by rw [List.getElem?_set_self (List.getElem?_eq_some_iff.mp hG).1]⟩, ok0, bk0, Sub.refl F⟩, ?_⟩
  rintro n m σ' H' ⟨rfl, hle, G', F', ow', hI, ok', bk', s'⟩
  have hH : H' (ow i) = some (.lst xs) := bk'.up.ext _ _ upd_same nt_lst
  by_cases hlt : n < ds.length
  · have hlt' : n < xs.length := by rw [hr1.len]; exact hlt
    refine Or.inr ⟨⟨xs, xs[n], hsq hH, by simp [hlt']⟩, nxP g (B.1, upd B.2 (ow i) (.lst xs)) F (fun G' => I (ow i) (n + 1) G' ∧ G'[i]? = some (.v (.adr (ow i)))), fun σ3 H3 q => ⟨ds.length - (n + 1), by omega, rfl, hlt, q⟩, fun v H3 yy => ?_⟩
    obtain ⟨y1, y2⟩ := yy
    subst y1
    obtain ⟨d, d1, d2⟩ := hr1.get (y2 xs (hsq hH))
    have ok2 := ok'.set (i := j) (a := 0) (s := .v d) (o := some v) ⟨v, rfl, Rep.mono s' _ _ d2⟩ (fun z => by cases z)
    have bk2 := bk'.set (i := j) (a := 0) (s := .v d) (fun z => by cases z)
    have q0 := hs (ow i) n d G' d1 hI.1 hI.2 (B.1, upd B.2 (ow i) (.lst xs)) F' H3 _ _ ok2 bk2 F s'
    refine WSs.imp q0 (fun _ _ q => q) (fun v H4 q => ?_) (fun σ4 H4 q => ?_) (fun _ _ q => q)
    · obtain ⟨r, F4, q1, q2, q3⟩ := q
      exact ⟨r, F4, q1, upF q2, q3.back back⟩
    · obtain ⟨G4, F4, ow4, q1, q2, q3, q4⟩ := q
      exact reown q1.1 q1.2 q2 q3 q4
  · have e : n = ds.length := by omega
    subst e
    refine Or.inl ⟨⟨xs, hsq hH, by rw [hr1.len]; exact Nat.le_refl _⟩, ?_⟩
    exact reown hI.2 (hd (ow i) G' hI.1 hI.2) ok' bk' s'

theorem Ss.to {J : List Sl → Prop} {sts : List Stmt} (h : Ss g X G sts { k with nx := J }) (hj : ∀ G', J G' → k.nx G') : Ss g X G sts k := fun B F H σ ow ok bk F1 s1 =>
  WSs.imp (h B F H σ ow ok bk F1 s1) (fun _ _ ⟨G', F', ow', a, b⟩ => ⟨G', F', ow', hj G' a, b⟩) (fun _ _ q => q) (fun _ _ q => q) (fun _ _ q => q)
/-- if, its two ways joined -/
theorem s_ifJ {b : Bool} {c : Expr} {body els : List Stmt} (J : List Sl → Prop) (h : EvT g X G c b) (h1 : b = true → Ss g X G body { k with nx := J }) (h2 : b = false → Ss g X G els { k with nx := J }) (hj : ∀ G', J G' → k.nx G') : S1 g X G (.If c body els pos) k :=
  s_if h (fun hb => (h1 hb).to hj) (fun hb => (h2 hb).to hj)
/-- House(..), some of the arguments lists of the frame's own -/
theorem ev_makeB {h : Hs} {k : Nat} (hK : X.K = g.K) (C : HCal X.prog X.w g X.mg X.base k) (hr : Room (k + 1) X.A) (ha : EvA g X (bor G) (e :: es) (hsArgs h)) (hg : Gl X "House" := by rfl)
    (he : starEach (e :: es) X.env = (false, eval e X.env) :: starEach es X.env := by rfl) (hpl : (backTo pos (starEach es X.env)).any (·.1) = false := by rfl) : EvD g X G (.Call (.Name "House" p) (e :: es) [] pos) (.hs h) := by
  obtain ⟨f, fd, ps, F0, M, hb, hm⟩ := C
  intro F H σ ow ok Q q
  refine we_of (pe_make (X := X) (C := g.C) (by rw [hK]; exact M) (by rw [hK]; exact F0) hr hg hm (by rw [hK]; exact hb) .nil pass0 pa_wa (by decide) he hpl) ?_
  refine ha _ H σ ow (lend_ok ok) _ fun vs F1 H1 u r => ?_
  intro x dx hx hdx hne
  rw [List.append_nil]
  have r' : RepL g F1 [.int h.seats, .int h.kept, .int h.kind, .bl h.opened, .lst (h.pts.map D.oi), .lst (h.kinds.map D.int), .lst (h.row.map D.int)] vs := r
  obtain ⟨v1, w1, rfl, a1, r1⟩ := repL_inv r'
  obtain ⟨v2, w2, rfl, a2, r2⟩ := repL_inv r1
  obtain ⟨v3, w3, rfl, a3, r3⟩ := repL_inv r2
  obtain ⟨v4, w4, rfl, a4, r4⟩ := repL_inv r3
  obtain ⟨v5, w5, rfl, a5, r5⟩ := repL_inv r4
  obtain ⟨v6, w6, rfl, a6, r6⟩ := repL_inv r5
  obtain ⟨v7, w7, rfl, a7, r7⟩ := repL_inv r6
  have e7 := repL_inv0 r7
  subst e7
  obtain ⟨q5, x5, rfl, f5, s5⟩ := of_lst a5
  obtain ⟨q6, x6, rfl, f6, s6⟩ := of_lst a6
  obtain ⟨q7, x7, rfl, f7, s7⟩ := of_lst a7
  rw [of_int a1, of_int a2, of_int a3, of_bl a4]
  rw [ois_of s5] at f5
  rw [ints_of s6] at f6
  rw [ints_of s7] at f7
  have hold : ∀ z o, H1 z = some o → (upd (upd H1 dx (.own x)) x (.ins g.C dx [])) z = some o := fun z o e => by
    rw [upd_ne (ne_of_none e hx), upd_ne (ne_of_none e hdx)]
    exact e
  refine ⟨x, dx, h, q5, q6, q7, F1, rfl, upd_same, f5, f6, f7, ⟨fun z o e => hold z o (u.fit.low z o e), u.fit.nt, u.fit.tab.ext fun z o e => hold z o e⟩, u.fit.low.free hx, fun F2 H2 k1 k2 k3 k4 k5 => ⟨rfl, ?_⟩⟩
  have up2 : Up g (lendF G ow F H) H F2 H2 := u.trans ⟨fun z o e _ => k1 z o (hold z o e) (ne_of_none e hx), k2, fun z o e n f => k4 z o (hold z o e) (ne_of_none e hx) f, k3⟩
  obtain ⟨up3, _⟩ := lend_up ok up2
  refine q _ _ H2 up3 (.hs (k5.mono fun b o e => ?_))
  have k6 := newHs_sub b o e
  unfold backF
  rw [if_neg fun z => ?_]
  · exact k6
  · obtain ⟨_, ys, hz⟩ := lent_at ok z
    have hz1 : H1 b = some (.lst ys) := u.ext b _ hz nt_lst
    have e2 : (if (upd (upd H1 dx (.own x)) x (.ins g.C dx [])) b = none ∨ b = x then F2 b else none) = some o := e
    rw [if_neg fun w => ?_] at e2
    · cases e2
    · rcases w with w | w
      · rw [hold b _ hz1] at w
        cases w
      · rw [w, hx] at hz1
        cases hz1
end
end CH

/-! Choosehall: the world drawn from a script, as plain data. -/
namespace CH
open PySem L2

def cellAt (s : List Int) (k : Int) : Int := s.getD k.toNat 0
structure RowSt where
  c : Int
  l : List Int
  r : List Int
def rowStep (many : Int) (k : Nat) (x : RowSt) : RowSt :=
  let n := (x.c % (x.l.length : Int)).toNat
  ⟨x.c / max 2 (many - (k : Int)), x.l.eraseIdx n, x.r ++ [x.l.getD n 0]⟩
def rowSt (cell many : Int) : Nat → RowSt
  | 0 => ⟨cell, rg 0 many, []⟩
  | k + 1 => rowStep many k (rowSt cell many k)
def rowBy (cell many : Int) : List Int := (rowSt cell many many.toNat).r
theorem rg_length (a b : Int) : (rg a b).length = (b - a).toNat := rg_len a b
theorem rowSt_len (cell many : Int) : ∀ k : Nat, k ≤ many.toNat → (rowSt cell many k).l.length = many.toNat - k ∧ (rowSt cell many k).r.length = k
  | 0, _ => ⟨by show (rg 0 many).length = _; rw [rg_len]; omega, rfl⟩
  | k + 1, h => by
    obtain ⟨h1, h2⟩ := rowSt_len cell many k (by omega)
    have h3 : 0 ≤ (rowSt cell many k).c % ((rowSt cell many k).l.length : Int) ∧ (rowSt cell many k).c % ((rowSt cell many k).l.length : Int) < ((rowSt cell many k).l.length : Int) := ⟨Int.emod_nonneg _ (by omega), Int.emod_lt_of_pos _ (by omega)⟩
    refine ⟨?_, ?_⟩
    · show ((rowSt cell many k).l.eraseIdx ((rowSt cell many k).c % ((rowSt cell many k).l.length : Int)).toNat).length = _
      rw [List.length_eraseIdx, if_pos (by omega), h1]
      omega
    · show ((rowSt cell many k).r ++ [_]).length = _
      rw [List.length_append, h2] <;> rfl
theorem perm_erase : ∀ {l : List Int} {n : Nat}, n < l.length → (l.getD n 0 :: l.eraseIdx n).Perm l
  | [], _, h => absurd h (Nat.not_lt_zero _)
  | a :: l, 0, _ => .refl _
  | a :: l, n + 1, h => (List.Perm.swap a (l.getD n 0) (l.eraseIdx n)).trans (List.Perm.cons a (perm_erase (Nat.lt_of_succ_lt_succ h)))
theorem rowSt_perm (cell many : Int) : ∀ k : Nat, k ≤ many.toNat → ((rowSt cell many k).r ++ (rowSt cell many k).l).Perm (rg 0 many)
  | 0, _ => .refl _
  | k + 1, h => by
    obtain ⟨h1, h2⟩ := rowSt_len cell many k (by omega)
    have h3 : 0 ≤ (rowSt cell many k).c % ((rowSt cell many k).l.length : Int) ∧ (rowSt cell many k).c % ((rowSt cell many k).l.length : Int) < ((rowSt cell many k).l.length : Int) := ⟨Int.emod_nonneg _ (by omega), Int.emod_lt_of_pos _ (by omega)⟩
    refine List.Perm.trans ?_ (rowSt_perm cell many k (by omega))
    show (((rowSt cell many k).r ++ [(rowSt cell many k).l.getD _ 0]) ++ (rowSt cell many k).l.eraseIdx _).Perm _
    rw [List.append_assoc]
    exact List.Perm.append_left _ (perm_erase (by omega))
theorem rowBy_perm (cell many : Int) : (rowBy cell many).Perm (rg 0 many) := by
  have h := rowSt_perm cell many many.toNat (Nat.le_refl _)
  obtain ⟨h1, _⟩ := rowSt_len cell many many.toNat (Nat.le_refl _)
  rw [Nat.sub_self] at h1
  rw [List.eq_nil_of_length_eq_zero h1, List.append_nil] at h
  exact h
theorem rowBy_len (cell many : Int) : (rowBy cell many).length = many.toNat := (rowSt_len cell many many.toNat (Nat.le_refl _)).2
theorem mem_rg {a b x : Int} : x ∈ rg a b ↔ a ≤ x ∧ x < b := by
  unfold rg
  rw [List.mem_map]
  constructor
  · rintro ⟨i, hi, rfl⟩
    have := List.mem_range.mp hi
    omega
  · rintro ⟨h1, h2⟩
    exact ⟨(x - a).toNat, List.mem_range.mpr (by omega), by omega⟩
theorem rg_nodup (a b : Int) : (rg a b).Nodup := by
  unfold rg
  exact List.Pairwise.map _ (fun x y h e => h (by omega)) List.nodup_range
theorem rowBy_mem {cell many x : Int} : x ∈ rowBy cell many ↔ 0 ≤ x ∧ x < many := by rw [(rowBy_perm cell many).mem_iff, mem_rg]
theorem rowBy_nodup (cell many : Int) : (rowBy cell many).Nodup := (rowBy_perm cell many).nodup_iff.mpr (rg_nodup _ _)

def b2i (b : Bool) : Int := if b = true then 1 else 0
def wishesBy (cell houses : Int) : List Int := (rowBy (cell / 16) houses).take (houses - cell % (houses + 1) * b2i (decide (cell / 8 % 2 = 1))).toNat
def pointsBy (cell k : Int) : Option Int :=
  let some_ := (cell / (1 + k * k) + 7919 * k) * (k + 3) * 48271 % 1000003
  let some2 := if cell % 3 = 0 then some_ % 3 else some_
  if (cell / 3 * (k + 2) + 5 * k) % 11 < 2 then none else some (some2 % 1000001)
def kindBy (cell : Int) : Int := cell % 2 + 2 * b2i (decide (cell / 4 % 5 = 1))
def wMany (s : List Int) (top : Int) : Int := 1 + cellAt s 0 % top
def wHouses (s : List Int) : Int := 1 + cellAt s 0 / 5 % 3
def wWish (s : List Int) (top : Int) : List (List Int) := (rg 0 (wMany s top)).map fun k => wishesBy (cellAt s (1 + k)) (wHouses s)
def wKinds (s : List Int) (top : Int) : List Int := (rg 0 (wMany s top)).map fun k => kindBy (cellAt s (6 + k))
def wHs (s : List Int) (top h : Int) : Hs :=
  let cell := cellAt s (11 + 3 * h)
  { seats := cell % 4, kept := cell / 4 % (cell % 4 + 1), kind := kindBy (cell / 16), opened := decide (cell / 32 % 2 = 0), pts := (rg 0 (wMany s top)).map (pointsBy (cellAt s (12 + 3 * h))), kinds := wKinds s top, row := rowBy (cellAt s (13 + 3 * h)) (wMany s top) }
def wRows (s : List Int) (top : Int) : List Hs := (rg 0 (wHouses s)).map (wHs s top)
def rowD (h : Hs) : D := .tup (hsArgs h)
def intsD (l : List Int) : D := .lst (l.map D.int)

/-! ### the house's choosing, as plain data -/
def ptAt (h : Hs) (k : Int) : Option Int := h.pts.getD k.toNat none
def kindAt (h : Hs) (k : Int) : Int := h.kinds.getD k.toNat 0
def ableB (h : Hs) (cs : List Int) (k : Int) : Bool := decide (k ∈ cs) && (ptAt h k).isSome
def rankedM (h : Hs) (cs : List Int) : List Int := (h.row.filter (ableB h cs)).mergeSort (byKey h)
/-- the walk through the ranked ones: inside, others -/
def chStep (h : Hs) (x : List Int × List Int) (k : Int) : List Int × List Int :=
  if kindAt h k = h.kind ∧ (x.1.length : Int) < h.kept then (x.1 ++ [k], x.2) else (x.1, x.2 ++ [k])
def chFree (h : Hs) (n : Nat) : Int := if h.opened = true then h.seats - (n : Int) else h.seats - h.kept
def leB (a b : Int) : Bool := decide (a ≤ b)
def chosenM (h : Hs) (cs : List Int) : List Int :=
  let x := (rankedM h cs).foldl (chStep h) ([], [])
  (x.1 ++ x.2.take (chFree h x.1.length).toNat).mergeSort leB
/-- a house of sound form: comers 0 .. n-1 -/
structure HsOk (h : Hs) (n : Nat) : Prop where
  pts : h.pts.length = n
  kinds : h.kinds.length = n
  row : h.row.Perm (rg 0 n)
  small : n ≤ 24
  kept0 : 0 ≤ h.kept
  kept : h.kept ≤ h.seats
theorem HsOk.mem {h : Hs} {n : Nat} (o : HsOk h n) {k : Int} : k ∈ h.row ↔ 0 ≤ k ∧ k < n := by rw [o.row.mem_iff, mem_rg]
theorem HsOk.nodup {h : Hs} {n : Nat} (o : HsOk h n) : h.row.Nodup := o.row.nodup_iff.mpr (rg_nodup _ _)
theorem HsOk.len {h : Hs} {n : Nat} (o : HsOk h n) : h.row.length = n := by rw [o.row.length_eq, rg_len]; omega
theorem wMany_pos (s : List Int) {top : Int} (h : 0 < top) : 1 ≤ wMany s top ∧ wMany s top ≤ top := by
  have h1 : 0 ≤ cellAt s 0 % top ∧ cellAt s 0 % top < top := ⟨Int.emod_nonneg _ (by omega), Int.emod_lt_of_pos _ h⟩
  unfold wMany
  omega
theorem wHouses_pos (s : List Int) : 1 ≤ wHouses s ∧ wHouses s ≤ 3 := by
  unfold wHouses
  omega
theorem wHs_ok (s : List Int) (top h : Int) (h0 : 0 < top) (h1 : top ≤ 24) : HsOk (wHs s top h) (wMany s top).toNat := by
  obtain ⟨h2, h3⟩ := wMany_pos s h0
  have h4 : 0 ≤ cellAt s (11 + 3 * h) % 4 ∧ cellAt s (11 + 3 * h) % 4 < 4 := ⟨Int.emod_nonneg _ (by omega), Int.emod_lt_of_pos _ (by omega)⟩
  have h5 : 0 ≤ cellAt s (11 + 3 * h) / 4 % (cellAt s (11 + 3 * h) % 4 + 1) ∧ cellAt s (11 + 3 * h) / 4 % (cellAt s (11 + 3 * h) % 4 + 1) < cellAt s (11 + 3 * h) % 4 + 1 := ⟨Int.emod_nonneg _ (by omega), Int.emod_lt_of_pos _ (by omega)⟩
  refine ⟨?_, ?_, ?_, by omega, h5.1, by show cellAt s (11 + 3 * h) / 4 % (cellAt s (11 + 3 * h) % 4 + 1) ≤ cellAt s (11 + 3 * h) % 4; omega⟩
  · show ((rg 0 (wMany s top)).map _).length = _
    rw [List.length_map, rg_len]
    omega
  · show ((rg 0 (wMany s top)).map _).length = _
    rw [List.length_map, rg_len]
    omega
  · have e : ((wMany s top).toNat : Int) = wMany s top := by omega
    rw [e]
    exact rowBy_perm _ _
theorem ptOf_at (h : Hs) (k : Int) : ptOf h k = (ptAt h k).getD 0 := rfl
theorem take_cut {l : List D} {n : Int} (h : 0 ≤ n) : cutD l none (some n) = l.take n.toNat := by
  obtain ⟨m, rfl⟩ := Int.eq_ofNat_of_zero_le h
  unfold cutD
  rw [HT.sIx_none, show (HT.sIx l.length l.length (some ((m : Nat) : Int))) = min m l.length from HT.sIx_nat _ _ m, List.drop_zero, Nat.sub_zero, Int.toNat_natCast]
  rw [← List.take_eq_take_min]
theorem at_nat {l : List D} {k : Int} {d : D} (h0 : 0 ≤ k) (h : l[k.toNat]? = some d) : (D.lst l).at_ k = some d := by
  show atI l k = some d
  unfold atI
  have h2 := (List.getElem?_eq_some_iff.mp h).1
  have e : ixN l.length k = some k.toNat := by
    unfold ixN
    rw [if_pos h0, if_pos (by omega)]
  rw [e]
  exact h
end CH

namespace CH
open PySem L2
def top (i : Nat) : Stmt := PySem.Challenge.pw_choosehall_k16_whole_long_goings.main.body.getD i (.Pass ⟨0, 0, 0, 0⟩)
def inC (st : Stmt) (i : Nat) : Stmt := match st with
  | .ClassDef _ _ _ b _ _ _ _ _ _ _ => b.getD i (.Pass ⟨0, 0, 0, 0⟩)
  | _ => .Pass ⟨0, 0, 0, 0⟩
abbrev s_held : Stmt := top 1
abbrev s_rather : Stmt := top 2
abbrev s_both_rather : Stmt := top 3
abbrev s_waiting : Stmt := top 5
abbrev s_moved : Stmt := top 7
abbrev s_gone : Stmt := top 8
abbrev s_more : Stmt := top 9
abbrev s_asked : Stmt := top 11
abbrev s_granted : Stmt := top 12
abbrev s_House___init__ : Stmt := inC (top 14) 0
abbrev s_House_ranked : Stmt := inC (top 14) 1
abbrev s_House_chosen : Stmt := inC (top 14) 2
abbrev s_House_with_more : Stmt := inC (top 14) 3
abbrev s__law_cell_at : Stmt := top 16
abbrev s__law_whole : Stmt := top 17
abbrev s__law_row_by : Stmt := top 18
abbrev s__law_wishes : Stmt := top 19
abbrev s__law_houses : Stmt := top 20
abbrev s__law_steps : Stmt := top 21
abbrev s_law : Stmt := top 22
end CH

/-! Choosehall: data held against data. -/
namespace CH
open PySem L2
def D.cm (k : Nat) (d : D) : Prop := d.pl = true ∧ PyData.canLay0 (toPy d) = true ∧ PyData.depth (toPy d) ≤ k
theorem cmL {k : Nat} : ∀ {ds : List D}, (∀ d ∈ ds, d.cm k) → plL ds = true ∧ PyData.canLayAll0 (toPyL ds) = true ∧ PyData.depthAll (toPyL ds) ≤ k
  | [], _ => ⟨rfl, rfl, Nat.zero_le _⟩
  | d :: ds, h => by
    obtain ⟨a1, a2, a3⟩ := h d List.mem_cons_self
    obtain ⟨b1, b2, b3⟩ := cmL (ds := ds) fun x hx => h x (List.mem_cons_of_mem _ hx)
    refine ⟨?_, ?_, ?_⟩
    · show (d.pl && plL ds) = true
      rw [a1, b1] <;> rfl
    · show (PyData.canLayAll0 (toPy d :: toPyL ds)) = true
      simp only [PyData.canLayAll0, a2, b2, Bool.and_self]
    · show PyData.depthAll (toPy d :: toPyL ds) ≤ k
      simp only [PyData.depthAll]
      omega
theorem cm_lst {k : Nat} {ds : List D} (h : ∀ d ∈ ds, d.cm k) : (D.lst ds).cm (k + 1) := by
  obtain ⟨b1, b2, b3⟩ := cmL h
  refine ⟨b1, ?_, ?_⟩
  · show PyData.canLay0 (.list (toPyL ds)) = true
    simp only [PyData.canLay0, b2]
  · show PyData.depth (.list (toPyL ds)) ≤ _
    simp only [PyData.depth]
    omega
theorem cm_tup {k : Nat} {ds : List D} (h : ∀ d ∈ ds, d.cm k) : (D.tup ds).cm (k + 1) := by
  obtain ⟨b1, b2, b3⟩ := cmL h
  refine ⟨b1, ?_, ?_⟩
  · show PyData.canLay0 (.tuple (toPyL ds)) = true
    simp only [PyData.canLay0, b2]
  · show PyData.depth (.tuple (toPyL ds)) ≤ _
    simp only [PyData.depth]
    omega
theorem cm_int (i : Int) : (D.int i).cm 1 := ⟨rfl, rfl, Nat.zero_le 1⟩
theorem cm_non : D.non.cm 1 := ⟨rfl, rfl, by decide⟩
theorem cm_bl (b : Bool) : (D.bl b).cm 1 := ⟨rfl, rfl, Nat.zero_le 1⟩
theorem cm_oi (o : Option Int) : (D.oi o).cm 1 := by
  cases o with
  | none => exact cm_non
  | some i => exact cm_int i
theorem D.cm.le {j k : Nat} {d : D} (h : d.cm j) (e : j ≤ k) : d.cm k := ⟨h.1, h.2.1, Nat.le_trans h.2.2 e⟩
theorem D.cm.ok {k : Nat} {d : D} (h : d.cm k) (e : k ≤ 64 := by decide) : d.cmpable := by
  refine ⟨h.1, ?_⟩
  unfold SeqAt.shaped
  rw [h.2.1, decide_eq_true (Nat.le_trans h.2.2 e)] <;> rfl
theorem cm_map {α : Type} {k : Nat} {enc : α → D} {l : List α} (h : ∀ a ∈ l, (enc a).cm k) : (D.lst (l.map enc)).cm (k + 1) := cm_lst fun d hd => by
  obtain ⟨a, ha, rfl⟩ := List.mem_map.mp hd
  exact h a ha
theorem cm_ints (l : List Int) : (intsD l).cm 2 := cm_map fun a _ => cm_int a
theorem cm_ois (l : List (Option Int)) : (D.lst (l.map D.oi)).cm 2 := cm_map fun a _ => cm_oi a
theorem cm_intss (l : List (List Int)) : (D.lst (l.map intsD)).cm 3 := cm_map fun a _ => cm_ints a
/-- lists alike, if their items are -/
theorem eqv_map {α : Type} [DecidableEq α] {enc : α → D} (he : ∀ a b, (enc a).eqv (enc b) = decide (a = b)) : ∀ (l m : List α), (D.lst (l.map enc)).eqv (.lst (m.map enc)) = decide (l = m)
  | [], [] => rfl
  | [], b :: m => rfl
  | a :: l, [] => rfl
  | a :: l, b :: m => by
    have ih := eqv_map he l m
    have e : (D.lst ((a :: l).map enc)).eqv (.lst ((b :: m).map enc)) = ((enc a).eqv (enc b) && (D.lst (l.map enc)).eqv (.lst (m.map enc))) := rfl
    rw [e, ih, he]
    by_cases h : a = b
    · by_cases h2 : l = m
      · rw [decide_eq_true h, decide_eq_true h2, h, h2, decide_eq_true rfl] <;> rfl
      · rw [decide_eq_false h2, Bool.and_false]
        exact (decide_eq_false fun z => h2 (List.cons.inj z).2).symm
    · rw [decide_eq_false h, Bool.false_and]
      exact (decide_eq_false fun z => h (List.cons.inj z).1).symm
theorem eqv_i (i j : Int) : (D.int i).eqv (.int j) = decide (i = j) := rfl
theorem eqv_oi (i j : Option Int) : (D.oi i).eqv (D.oi j) = decide (i = j) := by
  cases i with
  | none => cases j <;> rfl
  | some i =>
    cases j with
    | none => rfl
    | some j =>
      have e : (D.oi (some i)).eqv (D.oi (some j)) = decide (i = j) := rfl
      rw [e]
      exact decide_eq_decide.mpr ⟨fun h => by rw [h], fun h => Option.some.inj h⟩
theorem eqv_ints (l m : List Int) : (intsD l).eqv (intsD m) = decide (l = m) := eqv_map eqv_i l m
theorem eqv_ois (l m : List (Option Int)) : (D.lst (l.map D.oi)).eqv (.lst (m.map D.oi)) = decide (l = m) := eqv_map eqv_oi l m
theorem eqv_intss (l m : List (List Int)) : (D.lst (l.map intsD)).eqv (.lst (m.map intsD)) = decide (l = m) := eqv_map eqv_ints l m
end CH

/-! Choosehall: the mathematics of a house's choosing. -/
namespace CH
open PySem L2
/-! ### pairs that stand in order -/
theorem pair_nd {a b : Int} : ∀ {l : List Int}, l.Nodup → [a, b].Sublist l → [b, a].Sublist l → False
  | [], _, h, _ => by cases h
  | x :: l, nd, h1, h2 => by
    obtain ⟨n1, n2⟩ := List.nodup_cons.mp nd
    cases h1 with
    | cons _ h1 =>
      cases h2 with
      | cons _ h2 => exact pair_nd n2 h1 h2
      | cons_cons _ h2 => exact n1 (h1.subset (by simp))
    | cons_cons _ h1 =>
      cases h2 with
      | cons _ h2 => exact n1 (h2.subset (by simp))
      | cons_cons _ h2 => exact n1 (h1.subset (by simp))
theorem pair_or {a b : Int} (ne : a ≠ b) : ∀ {l : List Int}, a ∈ l → b ∈ l → [a, b].Sublist l ∨ [b, a].Sublist l
  | [], h, _ => by cases h
  | x :: l, h1, h2 => by
    rcases List.mem_cons.mp h1 with e1 | e1
    · rcases List.mem_cons.mp h2 with e2 | e2
      · exact absurd (e1.trans e2.symm) ne
      · subst e1
        exact Or.inl (List.Sublist.cons_cons _ (List.singleton_sublist.mpr e2))
    · rcases List.mem_cons.mp h2 with e2 | e2
      · subst e2
        exact Or.inr (List.Sublist.cons_cons _ (List.singleton_sublist.mpr e1))
      · rcases pair_or ne e1 e2 with z | z
        · exact Or.inl (z.cons _)
        · exact Or.inr (z.cons _)
theorem byKey_trans (h : Hs) (a b c : Int) : byKey h a b = true → byKey h b c = true → byKey h a c = true := by
  unfold byKey
  intro h1 h2
  have := of_decide_eq_true h1
  have := of_decide_eq_true h2
  exact decide_eq_true (by omega)
theorem byKey_total (h : Hs) (a b : Int) : (byKey h a b || byKey h b a) = true := by
  unfold byKey
  rcases Int.le_total (-ptOf h a) (-ptOf h b) with e | e
  · rw [decide_eq_true e, Bool.true_or]
  · rw [decide_eq_true e, Bool.or_true]
/-- a stands ahead of b in the house's rank -/
def bef (h : Hs) (a b : Int) : Prop := byKey h a b = true ∧ (byKey h b a = true → [a, b].Sublist h.row)
theorem bef_anti {h : Hs} (nd : h.row.Nodup) {a b : Int} (h1 : bef h a b) (h2 : bef h b a) : a = b :=
  (pair_nd nd (h1.2 h2.1) (h2.2 h1.1)).elim
theorem ranked_nodup {h : Hs} (nd : h.row.Nodup) (cs : List Int) : (rankedM h cs).Nodup := by
  unfold rankedM
  exact (List.mergeSort_perm _ _).nodup_iff.mpr (nd.filter _)
theorem ranked_bef {h : Hs} (nd : h.row.Nodup) (cs : List Int) : (rankedM h cs).Pairwise (bef h) := by
  rw [List.pairwise_iff_forall_sublist]
  intro a b hab
  have nM := ranked_nodup nd cs
  have pw := List.pairwise_mergeSort (le := byKey h) (byKey_trans h) (byKey_total h) (h.row.filter (ableB h cs))
  have k1 : byKey h a b = true := List.pairwise_iff_forall_sublist.mp pw hab
  refine ⟨k1, fun k2 => ?_⟩
  have ne : a ≠ b := by
    have := nM.sublist hab
    intro e
    rw [e] at this
    exact (List.nodup_cons.mp this).1 (List.mem_singleton.mpr rfl)
  have ma : a ∈ h.row.filter (ableB h cs) := (List.mergeSort_perm _ _).mem_iff.mp (hab.subset (by simp))
  have mb : b ∈ h.row.filter (ableB h cs) := (List.mergeSort_perm _ _).mem_iff.mp (hab.subset (by simp))
  rcases pair_or ne ma mb with z | z
  · exact z.trans List.filter_sublist
  · exact (pair_nd nM hab (List.pair_sublist_mergeSort (byKey_trans h) (byKey_total h) k2 z)).elim
/-- the rank of all that a house can take -/
def rankL (h : Hs) : List Int := rankedM h h.row
theorem mem_rankedM {h : Hs} {cs : List Int} {k : Int} : k ∈ rankedM h cs ↔ k ∈ h.row ∧ k ∈ cs ∧ (ptAt h k).isSome = true := by
  unfold rankedM
  rw [(List.mergeSort_perm _ _).mem_iff, List.mem_filter]
  unfold ableB
  rw [Bool.and_eq_true, decide_eq_true_eq]
/-- a list that ranks is the rank -/
theorem rank_uniq {h : Hs} (nd : h.row.Nodup) {l m : List Int} (nl : l.Nodup) (nm : m.Nodup) (pl : l.Pairwise (bef h)) (pm : m.Pairwise (bef h)) (e : ∀ k, k ∈ l ↔ k ∈ m) : l = m :=
  List.Perm.eq_of_pairwise (fun a b _ _ h1 h2 => bef_anti nd h1 h2) pl pm ((List.perm_ext_iff_of_nodup nl nm).mpr e)
theorem ranked_eq {h : Hs} (nd : h.row.Nodup) (cs : List Int) : rankedM h cs = (rankL h).filter (fun k => decide (k ∈ cs)) := by
  refine rank_uniq nd (ranked_nodup nd cs) ((ranked_nodup nd _).filter _) (ranked_bef nd cs) ((ranked_bef nd h.row).sublist List.filter_sublist) fun k => ?_
  rw [mem_rankedM, List.mem_filter, rankL, mem_rankedM, decide_eq_true_eq]
  exact ⟨fun ⟨a, b, c⟩ => ⟨⟨a, a, c⟩, b⟩, fun ⟨⟨a, _, c⟩, b⟩ => ⟨a, b, c⟩⟩
theorem ranked_sub {h : Hs} (nd : h.row.Nodup) {S T : List Int} (e : ∀ k ∈ S, k ∈ T) : (rankedM h S).Sublist (rankedM h T) := by
  have e1 : rankedM h S = (rankedM h T).filter (fun k => decide (k ∈ S)) := by
    refine rank_uniq nd (ranked_nodup nd S) ((ranked_nodup nd _).filter _) (ranked_bef nd S) ((ranked_bef nd T).sublist List.filter_sublist) fun k => ?_
    rw [mem_rankedM, List.mem_filter, mem_rankedM, decide_eq_true_eq]
    exact ⟨fun ⟨a, b, c⟩ => ⟨⟨a, e k b, c⟩, b⟩, fun ⟨⟨a, _, c⟩, b⟩ => ⟨a, b, c⟩⟩
  rw [e1]
  exact List.filter_sublist
theorem ableB_congr {h : Hs} {S T : List Int} (e : ∀ k, k ∈ S ↔ k ∈ T) : ableB h S = ableB h T := by
  funext k
  unfold ableB
  rw [decide_eq_decide.mpr (e k)]
theorem ranked_congr {h : Hs} {S T : List Int} (e : ∀ k, k ∈ S ↔ k ∈ T) : rankedM h S = rankedM h T := by
  unfold rankedM
  rw [ableB_congr e]

/-! ### kept seats counted down -/
def split (p : Int → Bool) : Nat → List Int → List Int × List Int
  | _, [] => ([], [])
  | c, k :: l => if p k = true ∧ 0 < c then (k :: (split p (c - 1) l).1, (split p (c - 1) l).2) else ((split p c l).1, k :: (split p c l).2)
theorem split_pos {p : Int → Bool} {c : Nat} {k : Int} {l : List Int} (h : p k = true ∧ 0 < c) : split p c (k :: l) = (k :: (split p (c - 1) l).1, (split p (c - 1) l).2) := if_pos h
theorem split_neg {p : Int → Bool} {c : Nat} {k : Int} {l : List Int} (h : ¬ (p k = true ∧ 0 < c)) : split p c (k :: l) = ((split p c l).1, k :: (split p c l).2) := if_neg h
theorem split_mem {p : Int → Bool} {x : Int} : ∀ (l : List Int) (c : Nat), x ∈ l ↔ x ∈ (split p c l).1 ∨ x ∈ (split p c l).2
  | [], c => by
    show x ∈ [] ↔ x ∈ [] ∨ x ∈ []
    simp
  | k :: l, c => by
    by_cases h : p k = true ∧ 0 < c
    · rw [split_pos h, List.mem_cons, List.mem_cons, split_mem l (c - 1), or_assoc]
    · have ih := split_mem (p := p) (x := x) l c
      rw [split_neg h, List.mem_cons, List.mem_cons, ih]
      exact ⟨fun z => by rcases z with z | z | z
                         · exact Or.inr (Or.inl z)
                         · exact Or.inl z
                         · exact Or.inr (Or.inr z), fun z => by rcases z with z | z | z
                                                                · exact Or.inr (Or.inl z)
                                                                · exact Or.inl z
                                                                · exact Or.inr (Or.inr z)⟩
theorem split_perm {p : Int → Bool} : ∀ (l : List Int) (c : Nat), ((split p c l).1 ++ (split p c l).2).Perm l
  | [], c => .refl _
  | k :: l, c => by
    by_cases h : p k = true ∧ 0 < c
    · rw [split_pos h]
      exact (split_perm l (c - 1)).cons k
    · rw [split_neg h]
      exact List.perm_middle.trans ((split_perm l c).cons k)
theorem split_len {p : Int → Bool} : ∀ (l : List Int) (c : Nat), (split p c l).1.length = min c (l.countP p)
  | [], c => by rw [List.countP_nil, Nat.min_zero] <;> rfl
  | k :: l, c => by
    by_cases h : p k = true ∧ 0 < c
    · rw [split_pos h, List.length_cons, split_len l (c - 1), List.countP_cons_of_pos h.1]
      omega
    · rw [split_neg h, split_len l c]
      by_cases hp : p k = true
      · rw [List.countP_cons_of_pos hp]
        have : c = 0 := by
          by_cases z : c = 0
          · exact z
          · exact absurd ⟨hp, by omega⟩ h
        omega
      · rw [List.countP_cons_of_neg hp]
/-- whom the walk picks: those inside, and the first f others -/
def Pick (p : Int → Bool) (c f : Nat) (l : List Int) (k : Int) : Prop := k ∈ (split p c l).1 ∨ k ∈ (split p c l).2.take f
theorem Pick.mem {p : Int → Bool} {c f : Nat} {l : List Int} {k : Int} (h : Pick p c f l k) : k ∈ l := by
  rcases h with h | h
  · exact (split_mem l c).mpr (Or.inl h)
  · exact (split_mem l c).mpr (Or.inr (List.mem_of_mem_take h))
theorem take_cons_mem {f : Nat} {a k : Int} {l : List Int} (h : k ∈ (a :: l).take f) : 0 < f ∧ (k = a ∨ k ∈ l.take (f - 1)) := by
  cases f with
  | zero => cases h
  | succ f =>
    rw [List.take_succ_cons] at h
    exact ⟨Nat.succ_pos f, List.mem_cons.mp h⟩
theorem mem_take_cons {f : Nat} {a k : Int} {l : List Int} (hf : 0 < f) (h : k = a ∨ k ∈ l.take (f - 1)) : k ∈ (a :: l).take f := by
  cases f with
  | zero => exact absurd hf (Nat.lt_irrefl 0)
  | succ f =>
    rw [List.take_succ_cons]
    exact List.mem_cons.mpr h
theorem mem_take_le {f g : Nat} {k : Int} {l : List Int} (hf : f ≤ g) (h : k ∈ l.take f) : k ∈ l.take g := by
  have e : (l.take g).take f = l.take f := by rw [List.take_take, Nat.min_eq_left hf]
  rw [← e] at h
  exact List.mem_of_mem_take h
theorem Pick.le {p : Int → Bool} {c f g : Nat} {l : List Int} {k : Int} (hf : f ≤ g) (h : Pick p c f l k) : Pick p c g l k := by
  rcases h with h | h
  · exact Or.inl h
  · exact Or.inr (mem_take_le hf h)
/-- fewer to choose from: whoever is picked still is -/
theorem pick_sub {p : Int → Bool} {S T : List Int} (hst : S.Sublist T) : T.Nodup → ∀ {c c' f f' : Nat}, c ≤ c' → f ≤ f' → ∀ {k : Int}, k ∈ S → Pick p c f T k → Pick p c' f' S k := by
  induction hst with
  | slnil => intro _ c c' f f' _ _ k hk _; cases hk
  | cons a hst ih =>
    intro nd c c' f f' hc hf k hk h
    obtain ⟨n1, n2⟩ := List.nodup_cons.mp nd
    have ne : k ≠ a := fun e => n1 (by rw [← e]; exact hst.subset hk)
    by_cases hp : p a = true ∧ 0 < c
    · refine ih n2 (c := c - 1) (f := f) (by omega) hf hk ?_
      unfold Pick at h
      rw [split_pos hp] at h
      rcases h with h | h
      · rcases List.mem_cons.mp h with e | e
        · exact absurd e ne
        · exact Or.inl e
      · exact Or.inr h
    · refine ih n2 (c := c) (f := f) hc hf hk ?_
      unfold Pick at h
      rw [split_neg hp] at h
      rcases h with h | h
      · exact Or.inl h
      · obtain ⟨h1, h2⟩ := take_cons_mem h
        rcases h2 with e | e
        · exact absurd e ne
        · exact Or.inr (mem_take_le (Nat.sub_le f 1) e)
  | cons_cons a hst ih =>
    rename_i l1 l2
    intro nd c c' f f' hc hf k hk h
    obtain ⟨n1, n2⟩ := List.nodup_cons.mp nd
    unfold Pick at h
    by_cases hp : p a = true ∧ 0 < c
    · have hp' : p a = true ∧ 0 < c' := ⟨hp.1, by omega⟩
      unfold Pick
      rw [split_pos hp'] 
      rw [split_pos hp] at h
      by_cases ka : k = a
      · exact Or.inl (by rw [ka]; exact List.mem_cons_self)
      · have hk' : k ∈ l1 := (List.mem_cons.mp hk).resolve_left ka
        have h' : Pick p (c - 1) f l2 k := by
          rcases h with h | h
          · exact Or.inl ((List.mem_cons.mp h).resolve_left ka)
          · exact Or.inr h
        rcases ih n2 (c' := c' - 1) (f' := f') (by omega) hf hk' h' with z | z
        · exact Or.inl (List.mem_cons_of_mem _ z)
        · exact Or.inr z
    · rw [split_neg hp] at h
      by_cases hp' : p a = true ∧ 0 < c'
      · unfold Pick
        rw [split_pos hp']
        by_cases ka : k = a
        · exact Or.inl (by rw [ka]; exact List.mem_cons_self)
        · have hk' : k ∈ l1 := (List.mem_cons.mp hk).resolve_left ka
          have hc0 : c = 0 := by
            by_cases z : c = 0
            · exact z
            · exact absurd ⟨hp'.1, by omega⟩ hp
          have h' : Pick p c f l2 k := by
            rcases h with h | h
            · exact Or.inl h
            · obtain ⟨_, h2⟩ := take_cons_mem h
              exact Or.inr (mem_take_le (Nat.sub_le f 1) (h2.resolve_left ka))
          rcases ih n2 (c' := c' - 1) (f' := f') (by omega) hf hk' h' with z | z
          · exact Or.inl (List.mem_cons_of_mem _ z)
          · exact Or.inr z
      · unfold Pick
        rw [split_neg hp']
        by_cases ka : k = a
        · rcases h with h | h
          · have : a ∈ l2 := (split_mem (p := p) _ c).mpr (Or.inl (by rw [← ka]; exact h))
            exact absurd this n1
          · obtain ⟨h1, _⟩ := take_cons_mem h
            exact Or.inr (mem_take_cons (by omega) (Or.inl ka))
        · have hk' : k ∈ l1 := (List.mem_cons.mp hk).resolve_left ka
          rcases h with h | h
          · rcases ih n2 (c := c) (f := 0) (c' := c') (f' := f' - 1) hc (Nat.zero_le _) hk' (Or.inl h) with z | z
            · exact Or.inl z
            · by_cases hf0 : 0 < f'
              · exact Or.inr (mem_take_cons hf0 (Or.inr z))
              · have : f' - 1 = 0 := by omega
                rw [this] at z
                cases z
          · obtain ⟨h1, h2⟩ := take_cons_mem h
            have h3 := h2.resolve_left ka
            rcases ih n2 (c := c) (f := f - 1) (c' := c') (f' := f' - 1) hc (by omega) hk' (Or.inr h3) with z | z
            · exact Or.inl z
            · exact Or.inr (mem_take_cons (by omega) (Or.inr z))

/-! ### the walk of the program is that split -/
def kindB (h : Hs) (k : Int) : Bool := decide (kindAt h k = h.kind)
theorem fold_split (h : Hs) : ∀ (l : List Int) (x : List Int × List Int) (c : Nat), ((x.1.length : Int) + c = h.kept) → l.foldl (chStep h) x = (x.1 ++ (split (kindB h) c l).1, x.2 ++ (split (kindB h) c l).2)
  | [], x, c, _ => by
    show x = (x.1 ++ [], x.2 ++ [])
    rw [List.append_nil, List.append_nil]
  | k :: l, x, c, e => by
    rw [List.foldl_cons]
    by_cases hp : kindB h k = true ∧ 0 < c
    · have h1 : kindAt h k = h.kind ∧ (x.1.length : Int) < h.kept := ⟨of_decide_eq_true hp.1, by omega⟩
      have e1 : chStep h x k = (x.1 ++ [k], x.2) := by
        unfold chStep
        exact if_pos h1
      rw [e1, fold_split h l _ (c - 1) (by show ((x.1 ++ [k]).length : Int) + _ = _; rw [List.length_append, List.length_singleton]; omega), split_pos hp]
      show ((x.1 ++ [k]) ++ _, _) = _
      rw [List.append_assoc] <;> rfl
    · have h1 : ¬ (kindAt h k = h.kind ∧ (x.1.length : Int) < h.kept) := fun z => hp ⟨decide_eq_true z.1, by omega⟩
      have e1 : chStep h x k = (x.1, x.2 ++ [k]) := by
        unfold chStep
        exact if_neg h1
      rw [e1, fold_split h l (x.1, x.2 ++ [k]) c e, split_neg hp]
      show (_, (x.2 ++ [k]) ++ _) = _
      rw [List.append_assoc] <;> rfl
def insideM (h : Hs) (cs : List Int) : List Int := (split (kindB h) h.kept.toNat (rankedM h cs)).1
def othersM (h : Hs) (cs : List Int) : List Int := (split (kindB h) h.kept.toNat (rankedM h cs)).2
def freeM (h : Hs) (cs : List Int) : Nat := (chFree h (insideM h cs).length).toNat
theorem chosen_eq {h : Hs} (h0 : 0 ≤ h.kept) (cs : List Int) : chosenM h cs = (insideM h cs ++ (othersM h cs).take (freeM h cs)).mergeSort leB := by
  unfold chosenM
  rw [fold_split h _ ([], []) h.kept.toNat (by show (0 : Int) + _ = _; omega)] <;> rfl
theorem mem_chosen {h : Hs} (h0 : 0 ≤ h.kept) {cs : List Int} {k : Int} : k ∈ chosenM h cs ↔ Pick (kindB h) h.kept.toNat (freeM h cs) (rankedM h cs) k := by
  rw [chosen_eq h0, (List.mergeSort_perm _ _).mem_iff, List.mem_append]
  exact Iff.rfl
theorem leB_trans (a b c : Int) : leB a b = true → leB b c = true → leB a c = true := by
  unfold leB
  intro h1 h2
  have := of_decide_eq_true h1
  have := of_decide_eq_true h2
  exact decide_eq_true (by omega)
theorem leB_total (a b : Int) : (leB a b || leB b a) = true := by
  unfold leB
  rcases Int.le_total a b with e | e
  · rw [decide_eq_true e, Bool.true_or]
  · rw [decide_eq_true e, Bool.or_true]
theorem chosen_nodup {h : Hs} {n : Nat} (o : HsOk h n) (cs : List Int) : (chosenM h cs).Nodup := by
  rw [chosen_eq o.kept0]
  refine (List.mergeSort_perm _ _).nodup_iff.mpr ?_
  have h1 : (insideM h cs ++ othersM h cs).Nodup := (split_perm _ _).nodup_iff.mpr (ranked_nodup o.nodup cs)
  exact h1.sublist (List.Sublist.append_left (List.take_sublist _ _) _)
theorem sort_uniq {l m : List Int} (hl : l.Pairwise (fun a b => leB a b = true)) (hm : m.Pairwise (fun a b => leB a b = true)) (p : l.Perm m) : l = m :=
  List.Perm.eq_of_pairwise (fun a b _ _ h1 h2 => by
    have := of_decide_eq_true h1
    have := of_decide_eq_true h2
    omega) hl hm p
theorem sorted_le (l : List Int) : (l.mergeSort leB).Pairwise (fun a b => leB a b = true) := List.pairwise_mergeSort leB_trans leB_total l
theorem chosen_sorted (h : Hs) (cs : List Int) : (chosenM h cs).Pairwise (fun a b => leB a b = true) := sorted_le _
theorem chosen_ext {h : Hs} {n : Nat} (o : HsOk h n) {S : List Int} {l : List Int} (hl : l.Pairwise (fun a b => leB a b = true)) (nl : l.Nodup) (e : ∀ k, k ∈ chosenM h S ↔ k ∈ l) : chosenM h S = l :=
  sort_uniq (chosen_sorted h S) hl ((List.perm_ext_iff_of_nodup (chosen_nodup o S) nl).mpr e)
theorem chosen_in {h : Hs} {n : Nat} (o : HsOk h n) {cs : List Int} {k : Int} (e : k ∈ chosenM h cs) : k ∈ h.row ∧ k ∈ cs ∧ (ptAt h k).isSome = true := mem_rankedM.mp ((mem_chosen o.kept0).mp e).mem
theorem chosen_congr {h : Hs} {S T : List Int} (e : ∀ k, k ∈ S ↔ k ∈ T) : chosenM h S = chosenM h T := by
  unfold chosenM
  rw [ranked_congr e]
theorem in_len {h : Hs} (cs : List Int) : (insideM h cs).length = min h.kept.toNat ((rankedM h cs).countP (kindB h)) := split_len _ _
theorem io_len {h : Hs} (cs : List Int) : (insideM h cs).length + (othersM h cs).length = (rankedM h cs).length := by
  rw [← List.length_append]
  exact (split_perm _ _).length_eq
theorem chosen_len {h : Hs} (h0 : 0 ≤ h.kept) (cs : List Int) : (chosenM h cs).length = (insideM h cs).length + min (freeM h cs) (othersM h cs).length := by
  rw [chosen_eq h0, (List.mergeSort_perm _ _).length_eq, List.length_append, List.length_take]
/-- whoever is chosen out of more is chosen out of fewer -/
theorem ch_subst {h : Hs} {n : Nat} (o : HsOk h n) {S T : List Int} (e : ∀ k ∈ S, k ∈ T) {k : Int} (hk : k ∈ S) (hT : k ∈ chosenM h T) : k ∈ chosenM h S := by
  rw [mem_chosen o.kept0] at hT ⊢
  have sub := ranked_sub o.nodup e
  have hin := mem_rankedM.mp hT.mem
  refine pick_sub sub (ranked_nodup o.nodup T) (Nat.le_refl _) ?_ (mem_rankedM.mpr ⟨hin.1, hk, hin.2.2⟩) hT
  have hc : (rankedM h S).countP (kindB h) ≤ (rankedM h T).countP (kindB h) := sub.countP_le
  have l1 := in_len (h := h) S
  have l2 := in_len (h := h) T
  unfold freeM chFree
  split
  · omega
  · exact Nat.le_refl _
theorem ch_max {h : Hs} {n : Nat} (o : HsOk h n) (S : List Int) : ((chosenM h S).length : Int) ≤ h.seats := by
  have l0 := chosen_len o.kept0 S
  have l1 := in_len (h := h) S
  have := o.kept
  have := o.kept0
  unfold freeM chFree at l0
  split at l0 <;> omega
/-- out of more no fewer are chosen -/
theorem ch_lad {h : Hs} {n : Nat} (o : HsOk h n) {S T : List Int} (e : ∀ k ∈ S, k ∈ T) : (chosenM h S).length ≤ (chosenM h T).length := by
  have sub := ranked_sub (h := h) o.nodup e
  have hc : (rankedM h S).countP (kindB h) ≤ (rankedM h T).countP (kindB h) := sub.countP_le
  have hl := sub.length_le
  have a0 := chosen_len o.kept0 S
  have a1 := in_len (h := h) S
  have a2 := io_len (h := h) S
  have b0 := chosen_len o.kept0 T
  have b1 := in_len (h := h) T
  have b2 := io_len (h := h) T
  have := o.kept
  have := o.kept0
  unfold freeM chFree at a0 b0
  split at a0 <;> rename_i z
  · rw [if_pos z] at b0
    omega
  · rw [if_neg z] at b0
    omega
theorem sub_len : ∀ {l m : List Int}, l.Nodup → (∀ k ∈ l, k ∈ m) → l.length ≤ m.length
  | [], m, _, _ => Nat.zero_le _
  | a :: l, m, nd, h => by
    obtain ⟨n1, n2⟩ := List.nodup_cons.mp nd
    have ha : a ∈ m := h a List.mem_cons_self
    have h2 := sub_len (l := l) (m := m.erase a) n2 fun k hk => (List.mem_erase_of_ne (fun e => n1 (by rw [← e]; exact hk))).mpr (h k (List.mem_cons_of_mem _ hk))
    rw [List.length_erase_of_mem ha] at h2
    have := List.length_pos_of_mem ha
    rw [List.length_cons]
    omega
theorem sub_eq {l m : List Int} (nl : l.Nodup) (nm : m.Nodup) (h : ∀ k ∈ l, k ∈ m) (hl : m.length ≤ l.length) : ∀ k ∈ m, k ∈ l := by
  intro k hk
  by_cases z : k ∈ l
  · exact z
  · have h2 := sub_len (l := k :: l) (m := m) (List.nodup_cons.mpr ⟨z, nl⟩) fun x hx => by
      rcases List.mem_cons.mp hx with e | e
      · rw [e]
        exact hk
      · exact h x e
    rw [List.length_cons] at h2
    omega
/-- out of those chosen and some others the same are chosen -/
theorem ch_irc {h : Hs} {n : Nat} (o : HsOk h n) {S T : List Int} (e : ∀ k ∈ S, k ∈ T) (c : ∀ k ∈ chosenM h T, k ∈ S) : chosenM h S = chosenM h T := by
  have h1 : ∀ k ∈ chosenM h T, k ∈ chosenM h S := fun k hk => ch_subst o e (c k hk) hk
  have h2 := sub_eq (chosen_nodup o T) (chosen_nodup o S) h1 (ch_lad o e)
  exact sort_uniq (chosen_sorted h S) (chosen_sorted h T) ((List.perm_ext_iff_of_nodup (chosen_nodup o S) (chosen_nodup o T)).mpr fun k => ⟨h2 k, h1 k⟩)
end CH

/-! Choosehall: what the law's small helpers promise. -/
namespace CH
open PySem L2

section
variable {P : Program} {w : World} {g : Gb} {mg : Str → Option Value} {base : Heap} {f : Addr} {fd : FuncData}

def RCell : List D → Sl → Prop := fun ds r => ∃ (s : List Int) (k : Int), ds = [.scr s, .int k] ∧ 0 ≤ k ∧ r = .v (.int (cellAt s k))
theorem c_cell (F : FnP g.K "_law_cell_at" "_law_cell_at" s__law_cell_at f fd) (hm : mg "_law_cell_at" = some (.ref f)) (fr : Free mg) : Cal P w g mg base "_law_cell_at" 1 RCell := by
  refine cal_by (N := ["script", "k"]) (ps := ["script", "k"]) F ⟨rfl, rfl, rfl, by decide +kernel, rfl, by decide +kernel, by decide +kernel⟩ hm (fun _ _ _ _ _ _ us hl => match us, hl with | [_, _], _ => rfl) ?_ ?_
  · rintro ds r ⟨s, k, rfl, _, _⟩
    rfl
  · rintro ds r cdv A outer s0 H E ⟨s, k, rfl, h0, rfl⟩ hr
    refine ss_cons (s_if (et_cmp (ev_var 1) (ev_len rfl fr (ev_var 0) rfl) cmp_lt) (fun h => ss_one (s_ret (ev_ix (d := .int (cellAt s k)) rfl (ev_var 0) (ev_var 1) ?_) rfl)) (fun h => ss_nil (ss_one (s_ret ev_int ?_))))
    · have h1 := of_decide_eq_true h
      show (atI s k).map D.int = _
      unfold atI ixN
      rw [if_pos h0, if_pos h1]
      show (s[k.toNat]?).map D.int = _
      unfold cellAt
      rw [List.getD_eq_getElem?_getD]
      rw [List.getElem?_eq_getElem (by omega)] <;> rfl
    · have h1 := of_decide_eq_false h
      show Sl.v (.int 0) = .v (.int (cellAt s k))
      unfold cellAt
      rw [List.getD_eq_getElem?_getD, List.getElem?_eq_none (by omega)] <;> rfl

end
end CH

/-! Choosehall: what the law's small helpers promise. -/
namespace CH
open PySem L2

section
variable {P : Program} {w : World} {g : Gb} {mg : Str → Option Value} {base : Heap} {f : Addr} {fd : FuncData}

theorem map_erase {α β : Type} (f : α → β) : ∀ (l : List α) (n : Nat), (l.eraseIdx n).map f = (l.map f).eraseIdx n
  | [], _ => rfl
  | _ :: _, 0 => rfl
  | a :: l, n + 1 => congrArg (f a :: ·) (map_erase f l n)
def RRow : List D → Sl → Prop := fun ds r => ∃ (c m : Int), ds = [.int c, .int m] ∧ 0 ≤ m ∧ m ≤ 100 ∧ r = .m ((rowBy c m).map D.int)
theorem c_row (F : FnP g.K "_law_row_by" "_law_row_by" s__law_row_by f fd) (hm : mg "_law_row_by" = some (.ref f)) (fr : Free mg) : Cal P w g mg base "_law_row_by" 1 RRow := by
  refine cal_by (N := ["cell", "many", "left", "row", "k"]) (ps := ["cell", "many"]) F ⟨rfl, rfl, rfl, by decide +kernel, rfl, by decide +kernel, by decide +kernel⟩ hm (fun _ _ _ _ _ _ us hl => match us, hl with | [_, _], _ => rfl) ?_ ?_
  · rintro ds r ⟨c, k, rfl, _⟩
    rfl
  · rintro ds r cdv A outer s0 H E ⟨c, m, rfl, h0, h1, rfl⟩ hr
    refine ss_cons (s_asg 2 (ev_listRg rfl fr (ev_var 1) ⟨h0, by omega⟩) ?_)
    refine ss_cons (s_asg 3 (ev_lst ea_nil (by decide)) ?_)
    have hlen : ((rg 0 m).map D.int).length = m.toNat := by rw [List.length_map, rg_len]; omega
    refine ss_cons (s_for 4 (ei_range fr (ev_var 1) ⟨by omega, by omega⟩) (fun k G => ∃ z : Sl, k ≤ m.toNat ∧ G = [.v (.int (rowSt c m k).c), .v (.int m), .m ((rowSt c m k).l.map D.int), .m ((rowSt c m k).r.map D.int), z]) ⟨.un, Nat.zero_le _, rfl⟩ (fun k d G hd hI => ?_) (fun G hI => ?_))
    · obtain ⟨z, hle, rfl⟩ := hI
      have hkm : k < m.toNat := by rw [← hlen]; exact (List.getElem?_eq_some_iff.mp hd).1
      have hd2 : d = .int (k : Int) := by
        rw [List.getElem?_map, rg_at (by omega)] at hd
        have := Option.some.inj hd
        rw [← this]
        show D.int (0 + (k : Int)) = _
        rw [Int.zero_add]
      subst hd2
      obtain ⟨l1, l2⟩ := rowSt_len c m k (by omega)
      have h3 : 0 ≤ (rowSt c m k).c % ((rowSt c m k).l.length : Int) ∧ (rowSt c m k).c % ((rowSt c m k).l.length : Int) < ((rowSt c m k).l.length : Int) := ⟨Int.emod_nonneg _ (by omega), Int.emod_lt_of_pos _ (by omega)⟩
      refine ss_cons (s_appPop 3 2 (ds := (rowSt c m k).r.map D.int) (es := (rowSt c m k).l.map D.int) (m := (rowSt c m k).l.length) (n := ((rowSt c m k).c % ((rowSt c m k).l.length : Int)).toNat) (d := .int ((rowSt c m k).l.getD ((rowSt c m k).c % ((rowSt c m k).l.length : Int)).toNat 0)) (Ev.is (ev_bin (ev_var 0) (Ev.bor (ev_len rfl fr (ev_var 2) rfl)) (bin_mod (by rw [List.length_map]; omega))) (by rw [List.length_map]; exact congrArg (fun z => Sl.v (.int z)) (by omega))) ?_ ?_ (by decide) (by rw [List.length_map]; omega) (by rw [List.length_map]; omega))
      · rw [List.getElem?_map, List.getD_eq_getElem?_getD, List.getElem?_eq_getElem (by omega)] <;> rfl
      · refine ss_one (s_asg 0 (ev_bin (ev_var 0) (ev_max2 rfl fr ev_int (ev_bin (ev_var 1) (ev_var 4) bin_sub)) (bin_div ?_)) ?_)
        · omega
        · refine ⟨.v (.int (k : Int)), by omega, ?_⟩
          have hmax : max 2 (m - (k : Int)) = if m - (k : Int) > 2 then m - (k : Int) else 2 := by
            rw [Int.max_def]
            split <;> split <;> omega
          have e1 : (rowSt c m (k + 1)).c = (rowSt c m k).c / (if m - (k : Int) > 2 then m - (k : Int) else 2) := by rw [← hmax] <;> rfl
          have e2 : ((rowSt c m (k + 1)).l.map D.int) = ((rowSt c m k).l.map D.int).eraseIdx ((rowSt c m k).c % ((rowSt c m k).l.length : Int)).toNat := map_erase _ _ _
          have e3 : ((rowSt c m (k + 1)).r.map D.int) = (rowSt c m k).r.map D.int ++ [D.int ((rowSt c m k).l.getD ((rowSt c m k).c % ((rowSt c m k).l.length : Int)).toNat 0)] := by
            show ((rowSt c m k).r ++ [_]).map D.int = _
            rw [List.map_append] <;> rfl
          rw [e1, e2, e3]
          rfl
    · obtain ⟨z, hle, rfl⟩ := hI
      refine ss_one (s_retOwn 3 ?_)
      rw [hlen]
      rfl
end
end CH

/-! Choosehall: a House made. -/
namespace CH
open PySem L2
/-- what is known of the class -/
structure ClsF (g : Gb) : Prop where
  c : Cls g.K g.C
  seats : NoAttr g.K g.C "seats"
  kept : NoAttr g.K g.C "kept"
  kind : NoAttr g.K g.C "kind"
  opened : NoAttr g.K g.C "opened"
  points : NoAttr g.K g.C "points"
  kinds : NoAttr g.K g.C "kinds"
  row : NoAttr g.K g.C "row"
section
variable {P : Program} {w : World} {g : Gb} {mg : Str → Option Value} {base : Heap} {f : Addr} {fd : FuncData}
theorem pl_ {x : Str} {v : V} {n : Nat} : ∀ {l : List (Str × V)}, l.length ≤ n → (putF x v l).length ≤ n + 1
  | [], _ => Nat.succ_le_succ (Nat.zero_le _)
  | (y, u) :: r, h => by
    unfold putF
    split
    · exact Nat.le_succ_of_le h
    · cases n with
      | zero => cases h
      | succ n => exact Nat.succ_le_succ (pl_ (Nat.le_of_succ_le_succ h))
theorem low_upd {F H : Hp} {p : Addr} {o : HO} (h : Sub F H) (n : F p = none) : Sub F (upd H p o) := fun b u e => by
  by_cases hb : b = p
  · rw [hb, n] at e
    cases e
  · rw [upd_ne hb]
    exact h b u e
theorem ok_init (F0 : FnP g.K "__init__" "House.__init__" s_House___init__ f fd) (cf : ClsF g) (fr : Free mg) : FnOk P w g.K mg base CX0 1 f fd ["self", "seats", "kept", "kind", "opened", "points", "kinds", "row"] (spInit g) := by
  have S : FnScope ["self", "seats", "kept", "kind", "opened", "points", "kinds", "row"] ["self", "seats", "kept", "kind", "opened", "points", "kinds", "row"] (defScope s_House___init__) := ⟨rfl, rfl, rfl, by decide +kernel, rfl, by decide +kernel, by decide +kernel⟩
  refine F0.ok S (fun vs H Q E h => ?_) (fun cdv A outer s H vs Q E hr h => ⟨_, PSs.nox (pss_cons (ps_fld (pe_var (i := 0) rfl (Or.inl rfl)) (pe_var (i := 1) rfl (Or.inl rfl)) rfl)
    (pss_cons (ps_fld (pe_var (i := 0) rfl (Or.inl rfl)) (pe_var (i := 2) rfl (Or.inl rfl)) rfl)
    (pss_cons (ps_fld (pe_var (i := 0) rfl (Or.inl rfl)) (pe_var (i := 3) rfl (Or.inl rfl)) rfl)
    (pss_cons (ps_fld (pe_var (i := 0) rfl (Or.inl rfl)) (pe_var (i := 4) rfl (Or.inl rfl)) rfl)
    (pss_cons (ps_fld (pe_var (i := 0) rfl (Or.inl rfl)) (pe_callTy call_list_of rfl fr.list (by decide +kernel) (pa_cons (pe_var (i := 5) rfl (Or.inl rfl)) pa_nil)) rfl)
    (pss_cons (ps_fld (pe_var (i := 0) rfl (Or.inl rfl)) (pe_callTy call_list_of rfl fr.list (by decide +kernel) (pa_cons (pe_var (i := 6) rfl (Or.inl rfl)) pa_nil)) rfl)
    (pss_one (ps_fld (pe_var (i := 0) rfl (Or.inl rfl)) (pe_callTy call_list_of rfl fr.list (by decide +kernel) (pa_cons (pe_var (i := 7) rfl (Or.inl rfl)) pa_nil)) rfl)))))))), ?_⟩)
  · obtain ⟨p, dx, h, a, b, c, F, rfl, _⟩ := h
    rfl
  · obtain ⟨p, dx, h, a, b, c, F, rfl, hp, ha, hb, hc, fit, fp, q⟩ := h
    refine ⟨_, rfl, _, rfl, p, g.C, dx, _, rfl, hp, cf.c, cf.seats, by decide, ?_⟩
    refine ⟨_, rfl, _, rfl, p, g.C, dx, _, rfl, upd_same, cf.c, cf.kept, Nat.lt_of_le_of_lt (pl_ (Nat.le_refl 0)) (by decide), ?_⟩
    refine ⟨_, rfl, _, rfl, p, g.C, dx, _, rfl, upd_same, cf.c, cf.kind, Nat.lt_of_le_of_lt (pl_ (pl_ (Nat.le_refl 0))) (by decide), ?_⟩
    refine ⟨_, rfl, _, rfl, p, g.C, dx, _, rfl, upd_same, cf.c, cf.opened, Nat.lt_of_le_of_lt (pl_ (pl_ (pl_ (Nat.le_refl 0)))) (by decide), ?_⟩
    rw [upd_upd, upd_upd, upd_upd]
    have nap : ∀ {z : Addr} {o : HO}, F z = some o → z ≠ p := fun {z o} e w => by
      rw [w, fp] at e
      cases e
    have low0 : ∀ {o : HO}, Sub F (upd H p o) := fun {o} => low_upd fit.low fp
    refine ⟨_, rfl, a, _, rfl, Or.inl (SqL.of (low0 a _ ha)), fun l1 hl1 => ?_⟩
    have n1 : l1 ≠ p := fun w => by
      rw [w, upd_same] at hl1
      cases hl1
    refine ⟨_, rfl, p, g.C, dx, _, rfl, (by rw [upd_ne (Ne.symm n1)]; exact upd_same), cf.c, cf.points, Nat.lt_of_le_of_lt (pl_ (pl_ (pl_ (pl_ (Nat.le_refl 0))))) (by decide), ?_⟩
    have hl1' : H l1 = none := by
      rw [upd_ne n1] at hl1
      exact hl1
    have c1 : ∀ {o o' u : HO}, upd (upd (upd H p o) l1 u) p o' = upd (upd H l1 u) p o' := fun {o o' u} => by
      funext z
      by_cases e1 : z = p
      · rw [e1, upd_same, upd_same]
      · rw [upd_ne e1, upd_ne e1]
        by_cases e2 : z = l1
        · rw [e2, upd_same, upd_same]
        · rw [upd_ne e2, upd_ne e2, upd_ne e1]
    rw [c1]
    have lowG : ∀ {H1 : Hp} {z : Addr} {o u v : HO}, (∀ b o, F b = some o → H1 b = some o) → F z = some o → (upd H1 p v) z = some o := fun {H1 z o u v} k e => by
      rw [upd_ne (nap e)]
      exact k z o e
    have k1 : ∀ b o, F b = some o → (upd H l1 (.lst (h.pts.map vOi))) b = some o := low_upd fit.low (fit.low.free hl1')
    refine ⟨_, rfl, b, _, rfl, Or.inl (SqL.of (lowG (u := .tbl #[]) k1 hb)), fun l2 hl2 => ?_⟩
    have n2 : l2 ≠ p := fun w => by
      rw [w, upd_same] at hl2
      cases hl2
    refine ⟨_, rfl, p, g.C, dx, _, rfl, (by rw [upd_ne (Ne.symm n2)]; exact upd_same), cf.c, cf.kinds, Nat.lt_of_le_of_lt (pl_ (pl_ (pl_ (pl_ (pl_ (Nat.le_refl 0)))))) (by decide), ?_⟩
    have hl2' : (upd H l1 (.lst (h.pts.map vOi))) l2 = none := by
      rw [upd_ne n2] at hl2
      exact hl2
    have c2 : ∀ {o o' u : HO} {H1 : Hp} {l : Addr}, l ≠ p → upd (upd (upd H1 p o) l u) p o' = upd (upd H1 l u) p o' := fun {o o' u H1 l} nl => by
      funext z
      by_cases e1 : z = p
      · rw [e1, upd_same, upd_same]
      · rw [upd_ne e1, upd_ne e1]
        by_cases e2 : z = l
        · rw [e2, upd_same, upd_same]
        · rw [upd_ne e2, upd_ne e2, upd_ne e1]
    rw [c2 n2]
    have nF2 : F l2 = none := Sub.free k1 hl2'
    have k2 : ∀ b o, F b = some o → (upd (upd H l1 (.lst (h.pts.map vOi))) l2 (.lst (h.kinds.map V.int))) b = some o := low_upd k1 nF2
    refine ⟨_, rfl, c, _, rfl, Or.inl (SqL.of (lowG (u := .tbl #[]) k2 hc)), fun l3 hl3 => ?_⟩
    have n3 : l3 ≠ p := fun w => by
      rw [w, upd_same] at hl3
      cases hl3
    refine ⟨_, rfl, p, g.C, dx, _, rfl, (by rw [upd_ne (Ne.symm n3)]; exact upd_same), cf.c, cf.row, Nat.lt_of_le_of_lt (pl_ (pl_ (pl_ (pl_ (pl_ (pl_ (Nat.le_refl 0))))))) (by decide), ?_⟩
    have hl3' : (upd (upd H l1 (.lst (h.pts.map vOi))) l2 (.lst (h.kinds.map V.int))) l3 = none := by
      rw [upd_ne n3] at hl3
      exact hl3
    rw [c2 n3]
    have l12 : l2 ≠ l1 := fun w => by
      rw [w, upd_same] at hl2'
      cases hl2'
    have l13 : l3 ≠ l1 := fun w => by
      rw [w, upd_ne (Ne.symm l12), upd_same] at hl3'
      cases hl3'
    have l23 : l3 ≠ l2 := fun w => by
      rw [w, upd_same] at hl3'
      cases hl3'
    have h2 : H l2 = none := by
      rw [upd_ne l12] at hl2'
      exact hl2'
    have h3 : H l3 = none := by
      rw [upd_ne l23, upd_ne l13] at hl3'
      exact hl3'
    show Q .non _
    refine q (upd (upd (upd (upd F l1 (.lst (h.pts.map vOi))) l2 (.lst (h.kinds.map V.int))) l3 (.lst (h.row.map V.int))) p (.ins g.C dx (flds h l1 l2 l3))) _ (fun z o e nz => ?_) (fun z o e => ?_) ?_ (fun z o e nz fz => ?_) ?_
    · have m1 : z ≠ l1 := fun w => by
        rw [w, hl1'] at e
        cases e
      have m2 : z ≠ l2 := fun w => by
        rw [w, h2] at e
        cases e
      have m3 : z ≠ l3 := fun w => by
        rw [w, h3] at e
        cases e
      rw [upd_ne nz, upd_ne m3, upd_ne m2, upd_ne m1]
      exact e
    · have eH := fit.low _ _ e
      have m1 : z ≠ l1 := fun w => by
        rw [w, hl1'] at eH
        cases eH
      have m2 : z ≠ l2 := fun w => by
        rw [w, h2] at eH
        cases eH
      have m3 : z ≠ l3 := fun w => by
        rw [w, h3] at eH
        cases eH
      rw [upd_ne (nap e), upd_ne m3, upd_ne m2, upd_ne m1]
      exact e
    · refine ⟨fun z o e => ?_, fun z o e => ?_, ?_⟩
      · by_cases e1 : z = p
        · rw [e1, upd_same] at e ⊢
          exact e
        · rw [upd_ne e1] at e ⊢
          by_cases e2 : z = l3
          · rw [e2, upd_same] at e ⊢
            exact e
          · rw [upd_ne e2] at e ⊢
            by_cases e3 : z = l2
            · rw [e3, upd_same] at e ⊢
              exact e
            · rw [upd_ne e3] at e ⊢
              by_cases e4 : z = l1
              · rw [e4, upd_same] at e ⊢
                exact e
              · rw [upd_ne e4] at e ⊢
                exact fit.low _ _ e
      · by_cases e1 : z = p
        · rw [e1, upd_same] at e
          cases e
          exact nt_ins
        · rw [upd_ne e1] at e
          by_cases e2 : z = l3
          · rw [e2, upd_same] at e
            cases e
            exact nt_lst
          · rw [upd_ne e2] at e
            by_cases e3 : z = l2
            · rw [e3, upd_same] at e
              cases e
              exact nt_lst
            · rw [upd_ne e3] at e
              by_cases e4 : z = l1
              · rw [e4, upd_same] at e
                cases e
                exact nt_lst
              · rw [upd_ne e4] at e
                exact fit.nt _ _ e
      · have t1 := fit.tab
        have s1 : Sub H (upd H l1 (.lst (h.pts.map vOi))) := sub_upd hl1'
        have s2 : Sub (upd H l1 (.lst (h.pts.map vOi))) (upd (upd H l1 (.lst (h.pts.map vOi))) l2 (.lst (h.kinds.map V.int))) := sub_upd hl2'
        have s3 : Sub (upd (upd H l1 (.lst (h.pts.map vOi))) l2 (.lst (h.kinds.map V.int))) (upd (upd (upd H l1 (.lst (h.pts.map vOi))) l2 (.lst (h.kinds.map V.int))) l3 (.lst (h.row.map V.int))) := sub_upd hl3'
        exact tabs_mut (tabs_ext (tabs_ext (tabs_ext t1 s1) s2) s3) (s3 _ _ (s2 _ _ (s1 _ _ hp))) nt_ins (fun _ z => by cases z)
    · have m1 : z ≠ l1 := fun w => by
        rw [w, hl1'] at e
        cases e
      have m2 : z ≠ l2 := fun w => by
        rw [w, h2] at e
        cases e
      have m3 : z ≠ l3 := fun w => by
        rw [w, h3] at e
        cases e
      rw [upd_ne nz, upd_ne m3, upd_ne m2, upd_ne m1]
      exact fz
    · refine ⟨dx, l1, l2, l3, (if_pos (Or.inr rfl)).trans upd_same, (if_pos (Or.inl hl1')).trans ?_, (if_pos (Or.inl h2)).trans ?_, (if_pos (Or.inl h3)).trans ?_⟩
      · rw [upd_ne n1, upd_ne (Ne.symm l13), upd_ne (Ne.symm l12), upd_same]
      · rw [upd_ne n2, upd_ne (Ne.symm l23), upd_same]
      · rw [upd_ne n3, upd_same]
theorem c_house (F0 : FnP g.K "__init__" "House.__init__" s_House___init__ f fd) (cf : ClsF g) (fr : Free mg) (M : Mk g.K g.C f) (hm : mg "House" = some (.ref g.C)) : HCal P w g mg base 1 :=
  ⟨f, fd, _, ok_init F0 cf fr, M, F0.bindsN (fun _ _ _ _ _ _ us hl => match us, hl with | [_, _, _, _, _, _, _, _], _ => rfl), hm⟩
end
end CH

/-! Choosehall: ranked, chosen. -/
namespace CH
open PySem L2
theorem inV_ints (k : Int) (cs : List Int) : inV (.int k) (cs.map V.int) = decide (k ∈ cs) := by
  unfold inV
  induction cs with
  | nil => rfl
  | cons a r ih =>
    rw [List.map_cons, List.any_cons, ih]
    have e : eqV (.int a) (.int k) = decide (a = k) := rfl
    rw [e]
    by_cases h : a = k
    · rw [decide_eq_true h, h, Bool.true_or]
      exact (decide_eq_true List.mem_cons_self).symm
    · rw [decide_eq_false h, Bool.false_or]
      refine decide_eq_decide.mpr ⟨fun z => List.mem_cons_of_mem _ z, fun z => ?_⟩
      rcases List.mem_cons.mp z with e | e
      · exact absurd e.symm h
      · exact e
theorem fl_ints (cs : List Int) : (cs.map D.int).map D.fl = (cs.map V.int).map some := by
  rw [List.map_map, List.map_map] <;> rfl
theorem isN_oi (o : Option Int) : (D.oi o).isN = o.isNone := by cases o <;> rfl
theorem pts_at {h : Hs} {n : Nat} (o : HsOk h n) {k : Int} (h0 : 0 ≤ k) (h1 : k < n) : (D.lst (h.pts.map D.oi)).at_ k = some (D.oi (ptAt h k)) := by
  refine at_nat h0 ?_
  unfold ptAt
  rw [List.getElem?_map, List.getD_eq_getElem?_getD, List.getElem?_eq_getElem (by rw [o.pts]; omega)] <;> rfl
theorem kinds_at {h : Hs} {n : Nat} (o : HsOk h n) {k : Int} (h0 : 0 ≤ k) (h1 : k < n) : (D.lst (h.kinds.map D.int)).at_ k = some (D.int (kindAt h k)) := by
  refine at_nat h0 ?_
  unfold kindAt
  rw [List.getElem?_map, List.getD_eq_getElem?_getD, List.getElem?_eq_getElem (by rw [o.kinds]; omega)] <;> rfl
theorem mem_ranked {h : Hs} {cs : List Int} {k : Int} : k ∈ rankedM h cs ↔ k ∈ h.row ∧ k ∈ cs ∧ (ptAt h k).isSome = true := by
  unfold rankedM
  rw [List.mem_mergeSort, List.mem_filter]
  unfold ableB
  rw [Bool.and_eq_true, decide_eq_true_eq]
theorem ranked_len {h : Hs} {n : Nat} (o : HsOk h n) (cs : List Int) : (rankedM h cs).length ≤ n := by
  unfold rankedM
  rw [List.length_mergeSort]
  exact Nat.le_trans (List.length_filter_le _ _) (by rw [o.len]; exact Nat.le_refl _)
section
variable {P : Program} {w : World} {g : Gb} {mg : Str → Option Value} {base : Heap} {f : Addr} {fd : FuncData}
/-- a method of House, by its body; its code object told -/
theorem mcal_byC {x qual : Str} {st : Stmt} {N ps : List Str} {k : Nat} {R : List D → Sl → Prop} {c : Addr} (F : FnP g.K x qual st f fd) (hco : fd.code = .ref c) (S : FnScope N ps (defScope st)) (hm : Meth g.K g.C x f) (hbi : ∀ (kV doc pm : Value) (an : Option Addr) (cdv ct : Value) (us : List Value), us.length = ps.length → bindArgs (PySem.W.fnOf x qual (defArgs st) (defBody st) (defScope st) .none kV doc pm an cdv ct) ⟨us, []⟩ = pure (ps.zip us))
    (hlen : ∀ ds r, R ds r → ds.length = ps.length)
    (hb : ∀ ds r (A : Around) (outer : List Env) (s : Shared) (H : Hp) (E : XK), R ds r → Room k (A.deeper (PyProof.Rows.envOfC qual (defScope st) s.heap.objs.size f (.ref c))) →
      Ss g (cxOf CX0 P w g.K mg base N qual (defScope st) f (.ref c) A outer s H E).nox (G0 N ds) (defBody st) (kRet r)) : MCal P w g mg base x (k + 1) R := by
  refine ⟨f, fd, ps, ?_, hm, F.bindsN hbi⟩
  obtain ⟨oc, od, dV, kV, doc, pm, an, cdv, ct, osl, rfl, lk, hcd, _, _⟩ := F.ex
  have e : cdv = .ref c := hco
  subst e
  refine fn_of lk hcd S (fun vs H Q E h => ?_) fun A outer s H vs Q E hr h => ?_
  · obtain ⟨ds, r, F, hR, r1, _⟩ := h
    rw [r1.len]
    exact hlen ds r hR
  · obtain ⟨ds, r, F, hR, r1, f1, q⟩ := h
    exact ⟨_, PSs.nox (pss_wss (X := (cxOf CX0 P w g.K mg base N qual (defScope st) f (.ref c) A outer s H E).nox)), run_body (hb ds r A outer s H E hR hr) r1 f1 q⟩

def RRanked : List D → Sl → Prop := fun ds r => ∃ (h : Hs) (n : Nat) (cs : List Int), HsOk h n ∧ ds = [.hs h, intsD cs] ∧ r = .m ((rankedM h cs).map D.int)
theorem c_ranked {c T : Addr} (F : FnP g.K "ranked" "House.ranked" s_House_ranked f fd) (hco : fd.code = .ref c) (hm : Meth g.K g.C "ranked" f) (cf : ClsF g) (fr : Free mg) (TB : LamX.TabB base mg c T) (hT : g.T = [(T, ("House.ranked" : Str) ++ ".<locals>." ++ "<lambda>")]) : MCal P w g mg base "ranked" 3 RRanked := by
  refine mcal_byC (N := ["self", "comers", "able", "comer"]) (ps := ["self", "comers"]) F hco ⟨rfl, rfl, rfl, by decide +kernel, rfl, by decide +kernel, by decide +kernel⟩ hm (fun _ _ _ _ _ _ us hl => match us, hl with | [_, _], _ => rfl) ?_ ?_
  · rintro ds r ⟨h, n, cs, _, rfl, _⟩
    rfl
  · rintro ds r A outer s0 H E ⟨h, n, cs, o, rfl, rfl⟩ hr
    refine ss_cons (s_lcIf 2 3 (enc := D.int) (l := h.row) (ableB h cs) D.int (ei_list rfl (ev_fld rfl cf.c cf.row (fld_row h) (ev_var 0))) (by rw [o.len]; have := o.small; omega) (fun k hk s1 H1 C cl fp => ?_) (fun k hk _ s1 H1 C cl fp => ev_var 3) ?_)
    · obtain ⟨h0, h1⟩ := o.mem.mp hk
      refine EvT.is (et_and (et_cmp (ev_var 3) (ev_var 1) (cmp_in rfl (w := .int k) (ws := cs.map V.int) rfl (fl_ints cs))) (fun _ => et_cmp (ev_ix rfl (ev_fld rfl cf.c cf.points (fld_points h) (ev_var 0)) (ev_var 3) (pts_at o h0 h1)) ev_non cmp_isnot)) ?_
      rw [inV_ints, isN_oi]
      unfold ableB
      cases ptAt h k <;> rfl
    · refine ss_frz 2 rfl (ss_one (s_ret (ev_sortedLam (h := h) (l := h.row.filter (ableB h cs)) rfl fr cf.c cf.points TB rfl hT hr rfl rfl rfl (ev_var 2) ?_ ?_) rfl))
      · exact Nat.le_trans (List.length_filter_le _ _) (by rw [o.len]; have := o.small; omega)
      · intro x hx
        obtain ⟨h1, h2⟩ := List.mem_filter.mp hx
        obtain ⟨h3, h4⟩ := o.mem.mp h1
        unfold ableB at h2
        rw [Bool.and_eq_true] at h2
        obtain ⟨z, hz⟩ := Option.isSome_iff_exists.mp h2.2
        refine ⟨x.toNat, z, by omega, ?_⟩
        unfold ptAt at hz
        rw [List.getD_eq_getElem?_getD] at hz
        cases q : h.pts[x.toNat]? with
        | none =>
          rw [q] at hz
          cases hz
        | some y =>
          rw [q] at hz
          exact congrArg some hz

def RChosen : List D → Sl → Prop := fun ds r => ∃ (h : Hs) (n : Nat) (cs : List Int), HsOk h n ∧ ds = [.hs h, intsD cs] ∧ r = .m ((chosenM h cs).map D.int)
theorem take_succ_of {α : Type} {l : List α} {i : Nat} {a : α} (h : l[i]? = some a) : l.take (i + 1) = l.take i ++ [a] := take_snoc h
def chAt (h : Hs) (cs : List Int) (i : Nat) : List Int × List Int := ((rankedM h cs).take i).foldl (chStep h) ([], [])
theorem chAt_succ {h : Hs} {cs : List Int} {i : Nat} {k : Int} (e : (rankedM h cs)[i]? = some k) : chAt h cs (i + 1) = chStep h (chAt h cs i) k := by
  unfold chAt
  rw [take_snoc e, List.foldl_append] <;> rfl
theorem chStep_len (h : Hs) (x : List Int × List Int) (k : Int) : (chStep h x k).1.length + (chStep h x k).2.length = x.1.length + x.2.length + 1 := by
  unfold chStep
  split
  · show (x.1 ++ [k]).length + x.2.length = _
    rw [List.length_append, List.length_singleton]
    omega
  · show x.1.length + (x.2 ++ [k]).length = _
    rw [List.length_append, List.length_singleton]
    omega
theorem chFold_len (h : Hs) : ∀ (l : List Int) (x : List Int × List Int), (l.foldl (chStep h) x).1.length + (l.foldl (chStep h) x).2.length = x.1.length + x.2.length + l.length
  | [], _ => rfl
  | k :: l, x => by
    rw [List.foldl_cons, chFold_len h l, chStep_len, List.length_cons]
    omega
theorem chFold_in (h : Hs) (h0 : 0 ≤ h.kept) : ∀ (l : List Int) (x : List Int × List Int), (x.1.length : Int) ≤ h.kept → ((l.foldl (chStep h) x).1.length : Int) ≤ h.kept
  | [], _, e => e
  | k :: l, x, e => by
    rw [List.foldl_cons]
    refine chFold_in h h0 l _ ?_
    unfold chStep
    split
    · rename_i z
      show ((x.1 ++ [k]).length : Int) ≤ _
      rw [List.length_append, List.length_singleton]
      omega
    · exact e
theorem chAt_le {h : Hs} {n : Nat} (o : HsOk h n) (cs : List Int) (i : Nat) : (chAt h cs i).1.length ≤ n ∧ (chAt h cs i).2.length ≤ n ∧ ((chAt h cs i).1.length : Int) ≤ h.kept := by
  have h1 := chFold_len h ((rankedM h cs).take i) ([], [])
  have h2 := ranked_len o cs
  have h3 : ((rankedM h cs).take i).length ≤ n := by rw [List.length_take]; omega
  have e0 : (([], []) : List Int × List Int).1.length + (([], []) : List Int × List Int).2.length = 0 := rfl
  unfold chAt
  refine ⟨by omega, by omega, chFold_in h o.kept0 _ _ o.kept0⟩
theorem c_chosen (F : FnP g.K "chosen" "House.chosen" s_House_chosen f fd) (hm : Meth g.K g.C "chosen" f) (cf : ClsF g) (fr : Free mg) (CR : MCal P w g mg base "ranked" 3 RRanked) : MCal P w g mg base "chosen" 4 RChosen := by
  refine mcal_by (N := ["self", "comers", "inside", "others", "comer", "free"]) (ps := ["self", "comers"]) F ⟨rfl, rfl, rfl, by decide +kernel, rfl, by decide +kernel, by decide +kernel⟩ hm (fun _ _ _ _ _ _ us hl => match us, hl with | [_, _], _ => rfl) ?_ ?_
  · rintro ds r ⟨h, n, cs, _, rfl, _⟩
    rfl
  · rintro ds r cdv A outer s0 H E ⟨h, n, cs, o, rfl, rfl⟩ hr
    have sm := o.small
    refine ss_cons (s_asg 2 (ev_lst ea_nil (by decide)) (ss_cons (s_asg 3 (ev_lst ea_nil (by decide)) ?_)))
    refine ss_cons (s_for 4 (items := (rankedM h cs).map D.int) (ei_list rfl (Ev.fz (ev_meth rfl cf.c CR (fun p q r => lk_no (by decide) (by decide) (by decide) (by decide) (by decide) (by decide) (by decide)) hr (ev_var 0) (ea_cons (ev_var 1) ea_nil) ⟨h, n, cs, o, rfl, rfl⟩)))
      (fun i G => ∃ z : Sl, G = [.v (.hs h), .v (intsD cs), .m ((chAt h cs i).1.map D.int), .m ((chAt h cs i).2.map D.int), z, .un]) ⟨.un, rfl⟩ (fun i d G hd hI => ?_) (fun G hI => ?_))
    · obtain ⟨z, rfl⟩ := hI
      rw [List.getElem?_map] at hd
      obtain ⟨k, hk, rfl⟩ := Option.map_eq_some_iff.mp hd
      have hin := mem_ranked.mp (List.mem_of_getElem? hk)
      obtain ⟨h0, h1⟩ := o.mem.mp hin.1
      obtain ⟨l1, l2, l3⟩ := chAt_le o cs i
      have es := chAt_succ hk
      refine ss_one (s_if (b := decide (kindAt h k = h.kind ∧ ((chAt h cs i).1.length : Int) < h.kept)) (EvT.is (et_and (et_cmp (ev_ix rfl (ev_fld rfl cf.c cf.kinds (fld_kinds h) (ev_var 0)) (ev_var 4) (kinds_at o h0 h1)) (ev_fld rfl cf.c cf.kind (fld_kind h) (ev_var 0)) (cmp_eq rfl hr.units ⟨rfl, rfl⟩ ⟨rfl, rfl⟩)) (fun _ => EvT.bor (et_cmp (ev_len rfl fr (ev_var 2) rfl) (ev_fld rfl cf.c cf.kept (fld_kept h) (ev_var 0)) cmp_lt))) ?_) (fun hb => ?_) (fun hb => ?_))
      · rw [List.length_map]
        show (decide (kindAt h k = h.kind) && decide (((chAt h cs i).1.length : Int) < h.kept)) = _
        rw [Bool.decide_and]
      · have hb' := of_decide_eq_true hb
        refine ss_one (s_append 2 (ds := (chAt h cs i).1.map D.int) (ev_var 4) ⟨.v (.int k), ?_⟩ (by rw [List.length_map]; omega))
        rw [es]
        unfold chStep
        rw [if_pos hb', List.map_append] <;> rfl
      · have hb' := of_decide_eq_false hb
        refine ss_one (s_append 3 (ds := (chAt h cs i).2.map D.int) (ev_var 4) ⟨.v (.int k), ?_⟩ (by rw [List.length_map]; omega))
        rw [es]
        unfold chStep
        rw [if_neg hb', List.map_append] <;> rfl
    · obtain ⟨z, rfl⟩ := hI
      rw [List.length_map]
      have full : chAt h cs (rankedM h cs).length = (rankedM h cs).foldl (chStep h) ([], []) := by
        unfold chAt
        rw [List.take_length]
      obtain ⟨l1, l2, l3⟩ := chAt_le o cs (rankedM h cs).length
      rw [full] at l1 l2 l3 ⊢
      have hk := o.kept
      have hk0 := o.kept0
      have fin : ∀ G : List Sl, G = [.v (.hs h), .v (intsD cs), .m (((rankedM h cs).foldl (chStep h) ([], [])).1.map D.int), .m (((rankedM h cs).foldl (chStep h) ([], [])).2.map D.int), z, .v (.int (chFree h ((rankedM h cs).foldl (chStep h) ([], [])).1.length))] → ∀ (a b c : Pos) (p1 p2 p3 p4 p5 p6 : Pos), Ss g (cxOf CX0 P w g.K mg base ["self", "comers", "inside", "others", "comer", "free"] "House.chosen" (defScope s_House_chosen) f cdv A outer s0 H E).nox G [.Return (some (.Call (.Name "sorted" p1) [.BinOp (.Name "inside" p2) .Add (.Subscript (.Name "others" p3) (.Slice none (some (.Name "free" p4)) none p5) p6) a] [] b)) c] (kRet (.m ((chosenM h cs).map D.int))) := fun G hG a b c p1 p2 p3 p4 p5 p6 => by
        subst hG
        have hf : 0 ≤ chFree h ((rankedM h cs).foldl (chStep h) ([], [])).1.length := by
          unfold chFree
          split <;> omega
        refine ss_frz 2 rfl (ss_frz 3 rfl (ss_one (s_ret (Ev.is (ev_sorted (l := ((rankedM h cs).foldl (chStep h) ([], [])).1 ++ ((rankedM h cs).foldl (chStep h) ([], [])).2.take (chFree h ((rankedM h cs).foldl (chStep h) ([], [])).1.length).toNat) rfl fr (Ev.is (Ev.fz (ev_bin (ev_var 2) (Ev.fz (ev_sl rfl (ev_var 3) eo_none (eo_some (ev_var 5)))) (bin_cat ?_))) ?_) ?_) rfl) rfl)))
        · rw [take_cut hf, List.length_take, List.length_map, List.length_map]
          omega
        · rw [take_cut hf, ← List.map_take, ← List.map_append]
        · rw [List.length_append, List.length_take]
          omega
      refine ss_cons (s_asg 5 (ev_bin (ev_fld rfl cf.c cf.seats (fld_seats h) (ev_var 0)) (ev_fld rfl cf.c cf.kept (fld_kept h) (ev_var 0)) bin_sub) (ss_cons (s_if (et_val (ev_fld rfl cf.c cf.opened (fld_opened h) (ev_var 0))) (fun hb => ss_one (s_asg 5 (ev_bin (ev_fld rfl cf.c cf.seats (fld_seats h) (ev_var 0)) (Ev.bor (ev_len rfl fr (ev_var 2) rfl)) bin_sub) (fin _ ?_ _ _ _ _ _ _ _ _ _))) (fun hb => ss_nil (fin _ ?_ _ _ _ _ _ _ _ _ _)))))
      · unfold chFree
        rw [if_pos hb, List.length_map] <;> rfl
      · unfold chFree
        rw [if_neg (by rw [hb]; decide)] <;> rfl
end
end CH

/-! Choosehall: what a law promises; small things. -/
namespace CH
open PySem L2
def RLaw : List D → Sl → Prop := fun ds r => ∃ (s : List Int), ds = [.scr s] ∧ r = .v (.bl true)
theorem at0 {d : D} {l : List D} : (D.lst (d :: l)).at_ 0 = some d := at_nat (by decide) rfl
theorem rg_cons {n : Int} (h : 0 < n) : rg 0 n = 0 :: rg 1 n := by
  unfold rg
  have e : (n - 0).toNat = (n - 1).toNat + 1 := by omega
  rw [e, List.range_succ_eq_map, List.map_cons, List.map_map]
  congr 1
  refine List.map_congr_left fun i _ => ?_
  show (0 : Int) + ((i + 1 : Nat) : Int) = 1 + (i : Int)
  omega
theorem wRows_cons (s : List Int) (top : Int) : ∃ t, wRows s top = wHs s top 0 :: t := by
  obtain ⟨h1, h2⟩ := wHouses_pos s
  unfold wRows
  rw [rg_cons (by omega)]
  exact ⟨_, rfl⟩
theorem eqv_self (l : List Int) : (intsD l).eqv (intsD l) = true := by rw [eqv_ints, decide_eq_true rfl]
theorem no_chosen {h : Hs} (p q r : Addr) : (flds h p q r).lookup ("chosen" : Str) = none := lk_no (by decide) (by decide) (by decide) (by decide) (by decide) (by decide) (by decide)
theorem no_ranked {h : Hs} (p q r : Addr) : (flds h p q r).lookup ("ranked" : Str) = none := lk_no (by decide) (by decide) (by decide) (by decide) (by decide) (by decide) (by decide)
theorem no_more {h : Hs} (p q r : Addr) : (flds h p q r).lookup ("with_more" : Str) = none := lk_no (by decide) (by decide) (by decide) (by decide) (by decide) (by decide) (by decide)
end CH

/-! Choosehall: places, who holds whom, who would rather. -/
namespace CH
open PySem L2
def placeAt (ps : List (Option Int)) (k : Int) : Option Int := ps.getD k.toNat none
def wishAt (ws : List (List Int)) (k : Int) : List Int := ws.getD k.toNat []
def hs0 : Hs := ⟨0, 0, 0, false, [], [], []⟩
def houseAt (hs : List Hs) (h : Int) : Hs := hs.getD h.toNat hs0
def heldM (ps : List (Option Int)) (h : Int) : List Int := (rg 0 ps.length).filter fun k => decide (placeAt ps k = some h)
/-- the houses of a row ahead of a place -/
def aheadM : List Int → Option Int → List Int
  | [], _ => []
  | h :: r, p => if some h = p then [] else h :: aheadM r p
def ratherM (ws : List (List Int)) (ps : List (Option Int)) (k : Int) : List Int := aheadM (wishAt ws k) (placeAt ps k)
def wantB (hs : List Hs) (ps : List (Option Int)) (k h : Int) : Bool := decide (k ∈ chosenM (houseAt hs h) (heldM ps h ++ [k]))
def pairsOf (ws : List (List Int)) (hs : List Hs) (ps : List (Option Int)) (k : Int) : List (Int × Int) := ((ratherM ws ps k).filter (wantB hs ps k)).map fun h => (k, h)
def pairsM (ws : List (List Int)) (hs : List Hs) (ps : List (Option Int)) : List (Int × Int) := (rg 0 ps.length).flatMap (pairsOf ws hs ps)
/-- a sound world: n comers, the wishes' houses are there, each once -/
structure WOk (ws : List (List Int)) (hs : List Hs) (n : Nat) : Prop where
  len : ws.length = n
  small : n ≤ 24
  few : hs.length ≤ 8
  house : ∀ h ∈ hs, HsOk h n
  wish : ∀ r ∈ ws, r.Nodup ∧ ∀ x ∈ r, 0 ≤ x ∧ x < hs.length
theorem aheadM_mem {h : Int} : ∀ {r : List Int} {p : Option Int}, h ∈ aheadM r p → h ∈ r ∧ some h ≠ p
  | [], _, z => by cases z
  | a :: r, p, z => by
    unfold aheadM at z
    by_cases e : some a = p
    · rw [if_pos e] at z
      cases z
    · rw [if_neg e] at z
      rcases List.mem_cons.mp z with w | w
      · rw [w]
        exact ⟨List.mem_cons_self, e⟩
      · have := aheadM_mem w
        exact ⟨List.mem_cons_of_mem _ this.1, this.2⟩
theorem aheadM_all : ∀ {r : List Int} {p : Option Int}, (∀ h ∈ r, some h ≠ p) → aheadM r p = r
  | [], _, _ => rfl
  | a :: r, p, z => by
    unfold aheadM
    rw [if_neg (z a List.mem_cons_self), aheadM_all fun h hh => z h (List.mem_cons_of_mem _ hh)]
theorem aheadM_take : ∀ {r : List Int} {x : Int} {j : Nat}, r[j]? = some x → (∀ m, m < j → r[m]? ≠ some x) → aheadM r (some x) = r.take j
  | [], _, _, h, _ => by cases h
  | a :: r, x, 0, h, _ => by
    have e : a = x := Option.some.inj h
    unfold aheadM
    rw [if_pos (by rw [e])] <;> rfl
  | a :: r, x, j + 1, h, hn => by
    have e : ¬ some a = some x := fun z => hn 0 (Nat.succ_pos _) z
    unfold aheadM
    rw [if_neg e, List.take_succ_cons, aheadM_take (r := r) (j := j) h fun m hm => hn (m + 1) (Nat.succ_lt_succ hm)]
theorem aheadM_sub : ∀ (r : List Int) (p : Option Int), (aheadM r p).Sublist r
  | [], _ => .slnil
  | a :: r, p => by
    unfold aheadM
    split
    · exact List.nil_sublist _
    · exact (aheadM_sub r p).cons_cons a
theorem idx_ex : ∀ {r : List Int} {x : Int}, x ∈ r → ∃ j : Nat, r[j]? = some x ∧ ∀ m, m < j → r[m]? ≠ some x
  | [], _, h => by cases h
  | a :: r, x, h => by
    by_cases e : a = x
    · exact ⟨0, congrArg some e, fun m hm => absurd hm (Nat.not_lt_zero m)⟩
    · obtain ⟨j, h1, h2⟩ := idx_ex ((List.mem_cons.mp h).resolve_left (Ne.symm e))
      refine ⟨j + 1, h1, fun m hm => ?_⟩
      cases m with
      | zero => exact fun z => e (Option.some.inj z)
      | succ m => exact h2 m (Nat.lt_of_succ_lt_succ hm)
theorem getD_mem {α : Type} {l : List α} {k : Int} {d : α} (h0 : 0 ≤ k) (h1 : k < l.length) : l.getD k.toNat d ∈ l := by
  rw [List.getD_eq_getElem?_getD, List.getElem?_eq_getElem (by omega)]
  exact List.getElem_mem _
section
variable {ws : List (List Int)} {hs : List Hs} {n : Nat}
theorem WOk.hOk (o : WOk ws hs n) {h : Int} (h0 : 0 ≤ h) (h1 : h < hs.length) : HsOk (houseAt hs h) n := o.house _ (getD_mem h0 h1)
theorem WOk.wOk (o : WOk ws hs n) {k : Int} (h0 : 0 ≤ k) (h1 : k < n) : (wishAt ws k).Nodup ∧ ∀ x ∈ wishAt ws k, 0 ≤ x ∧ x < hs.length := o.wish _ (getD_mem h0 (by rw [o.len]; exact h1))
theorem mem_held {ps : List (Option Int)} {h k : Int} : k ∈ heldM ps h ↔ (0 ≤ k ∧ k < ps.length) ∧ placeAt ps k = some h := by
  unfold heldM
  rw [List.mem_filter, mem_rg, decide_eq_true_eq]
theorem held_len (ps : List (Option Int)) (h : Int) : (heldM ps h).length ≤ ps.length := Nat.le_trans (List.length_filter_le _ _) (by rw [rg_len]; omega)
theorem nodup_len {l : List Int} {m : Nat} (nd : l.Nodup) (h : ∀ x ∈ l, 0 ≤ x ∧ x < m) : l.length ≤ m := by
  have := sub_len nd (m := rg 0 m) fun x hx => mem_rg.mpr (h x hx)
  rw [rg_len] at this
  omega
theorem WOk.wLen (o : WOk ws hs n) {k : Int} (h0 : 0 ≤ k) (h1 : k < n) : (wishAt ws k).length ≤ 8 := Nat.le_trans (nodup_len (o.wOk h0 h1).1 (o.wOk h0 h1).2) o.few
end
theorem wish_ok (s : List Int) (top : Int) (h0 : 0 < top) (h1 : top ≤ 24) : WOk (wWish s top) (wRows s top) (wMany s top).toNat := by
  obtain ⟨m1, m2⟩ := wMany_pos s h0
  obtain ⟨n1, n2⟩ := wHouses_pos s
  have hl : (wRows s top).length = (wHouses s).toNat := by
    unfold wRows
    rw [List.length_map, rg_len]
    omega
  refine ⟨?_, by omega, by omega, fun h hh => ?_, fun r hr => ?_⟩
  · unfold wWish
    rw [List.length_map, rg_len]
    omega
  · unfold wRows at hh
    obtain ⟨k, _, rfl⟩ := List.mem_map.mp hh
    exact wHs_ok s top k h0 h1
  · unfold wWish at hr
    obtain ⟨k, _, rfl⟩ := List.mem_map.mp hr
    unfold wishesBy
    refine ⟨(rowBy_nodup _ _).sublist (List.take_sublist _ _), fun x hx => ?_⟩
    have := rowBy_mem.mp (List.mem_of_mem_take hx)
    omega
end CH

/-! Choosehall: longer and, or. -/
namespace CH
open PySem L2
section
variable {g : Gb} {X : Cx} {G : List Sl} {a b c d : Expr} {rest : List Expr} {pos : Pos}
theorem ev_andN {r r' : Bool} (h : EvD g X G a (.bl r)) (h' : r = true → EvD g X G (.BoolOp .And (b :: rest) pos) (.bl r')) : EvD g X G (.BoolOp .And (a :: b :: rest) pos) (.bl (r && r')) := by
  intro F H σ ow k Q q
  refine we_of (pe_and pe_we pe_we) ?_
  refine h F H σ ow k _ fun v F1 H1 u r1 => ⟨r, of_bl r1, ?_⟩
  cases r with
  | true => exact h' rfl F1 H1 σ ow (k.up u) _ fun v F2 H2 u2 r2 => q v F2 H2 (u.trans u2) r2
  | false => exact q _ F1 H1 u (rep_bl false)
theorem ev_orN {r r' : Bool} (h : EvD g X G a (.bl r)) (h' : r = false → EvD g X G (.BoolOp .Or (b :: rest) pos) (.bl r')) : EvD g X G (.BoolOp .Or (a :: b :: rest) pos) (.bl (r || r')) := by
  intro F H σ ow k Q q
  refine we_of (pe_or pe_we pe_we) ?_
  refine h F H σ ow k _ fun v F1 H1 u r1 => ⟨r, of_bl r1, ?_⟩
  cases r with
  | true => exact q _ F1 H1 u (rep_bl true)
  | false => exact h' rfl F1 H1 σ ow (k.up u) _ fun v F2 H2 u2 r2 => q v F2 H2 (u.trans u2) r2
theorem et_and3 {r r' r'' : Bool} (h : EvT g X G a r) (h' : r = true → EvT g X G b r') (h'' : r = true → r' = true → EvT g X G c r'') : EvT g X G (.BoolOp .And [a, b, c] pos) (r && (r' && r'')) := by
  intro F H σ ow k Q q
  refine wt_of (PW.pt (pw_and pt_wt (pw_and pt_wt (pw_and1 pt_wt)))) ?_
  refine h F H σ ow k _ fun F1 H1 u => ?_
  cases r with
  | false => exact q F1 H1 u
  | true =>
    refine h' rfl F1 H1 σ ow (k.up u) _ fun F2 H2 u2 => ?_
    cases r' with
    | false => exact q F2 H2 (u.trans u2)
    | true => exact h'' rfl rfl F2 H2 σ ow ((k.up u).up u2) _ fun F3 H3 u3 => q F3 H3 ((u.trans u2).trans u3)
end
theorem drop_cut {l : List D} {n : Int} (h : 0 ≤ n) : cutD l (some n) none = l.drop n.toNat := by
  obtain ⟨m, rfl⟩ := Int.eq_ofNat_of_zero_le h
  unfold cutD
  rw [HT.sIx_none, show (HT.sIx l.length 0 (some ((m : Nat) : Int))) = min m l.length from HT.sIx_nat _ _ m, Int.toNat_natCast]
  by_cases hm : m ≤ l.length
  · rw [Nat.min_eq_left hm, List.take_of_length_le (by rw [List.length_drop]; exact Nat.le_refl _)]
  · rw [Nat.min_eq_right (by omega), Nat.sub_self, List.take_zero, List.drop_eq_nil_of_le (by omega)]
end CH

/-! Choosehall: row.index(x). -/
namespace CH
open PySem L2
section
variable {g : Gb} {X : Cx} {G : List Sl} {o e : Expr} {pos apos cpos : Pos}
theorem ev_index {l : List Int} {x : Int} {j : Nat} (hK : X.K = g.K) (h1 : EvD g X G o (.lst (l.map D.int))) (h2 : EvD g X G e (.int x)) (hj : l[j]? = some x) (hn : ∀ m, m < j → l[m]? ≠ some x)
    (mc : MC X o "index" apos e [] cpos := by exact ⟨rfl, rfl, rfl, rfl, rfl⟩) : EvD g X G (.Call (.Attribute o "index" apos) [e] [] cpos) (.int (j : Int)) := by
  intro F H σ ow ok Q q
  refine we_of (pe_bm PySem.F.plainAttrs_list PySem.F.slot_list_index PySem.F.type_list_index mt_index pe_we (pa_cons pe_we pa_nil mc.star) mc.base mc.few mc.line mc.star mc.plain) ?_
  refine h1 F H σ ow ok _ fun v F1 H1 u r => ?_
  obtain ⟨a, xs, rfl, f1, r1⟩ := of_lst r
  have e3 := ints_of r1
  subst e3
  refine ⟨ty_lst (u.fit.low _ _ f1), ?_⟩
  refine h2 F1 H1 σ ow (ok.up u) _ fun v2 F2 H2 u2 r2 => ?_
  have e4 := of_int r2
  subst e4
  refine ⟨a, l.map V.int, .int x, j, .int x, rfl, rfl, ?_, rfl, ?_, by rw [List.getElem?_map, hj] <;> rfl, decide_eq_true rfl, fun m z hm hz => ?_, q _ F2 H2 (u.trans u2) (rep_int _)⟩
  · rw [hK]
    exact SqL.of (u2.ext _ _ (u.fit.low _ _ f1) nt_lst)
  · rw [List.all_map]
    exact List.all_eq_true.mpr fun _ _ => rfl
  · rw [List.getElem?_map] at hz
    obtain ⟨y, hy, rfl⟩ := Option.map_eq_some_iff.mp hz
    exact decide_eq_false fun w => hn m hm (by rw [hy, w])
end
theorem inV_oi (p : Option Int) (l : List Int) : inV (vOi p) (l.map V.int) = l.any fun x => decide (some x = p) := by
  unfold inV
  rw [List.any_map]
  congr 1
  funext x
  cases p with
  | none => rfl
  | some y =>
    show eqV (.int x) (.int y) = decide (some x = some y)
    have e : eqV (.int x) (.int y) = decide (x = y) := rfl
    rw [e]
    exact decide_eq_decide.mpr ⟨fun h => congrArg some h, Option.some.inj⟩
theorem fl_oi (p : Option Int) : (D.oi p).fl = some (vOi p) := by cases p <;> rfl
end CH

/-! Choosehall: y = [x for x in d if d[x] == z] on one line; a dict told. -/
namespace CH
open PySem L2
section
variable {g : Gb} {X : Cx} {G : List Sl} {e1 : Expr} {pos spos p p2 p3 p4 p5 p6 p7 p8 py : Pos} {x y z u : Str} {scope : Scope} {k : KE}
theorem s_retOwnD (i : Nat) {kvs : List (Int × V)} (q : k.rt (.dc kvs)) (hG : G[i]? = some (.dc kvs) := by rfl) (hN : X.N[i]? = some x := by rfl) (hv : Vis X.env.scope x := by first | exact Or.inl rfl | exact Or.inr (Or.inl rfl) | exact Or.inr (Or.inr rfl))
    (hd : (x == ("__debug__" : Str)) = false := by decide) (hcd : (x == ("__classdict__" : Str)) = false := by decide) : S1 g X G (.Return (some (.Name x p)) pos) k := fun B F H σ ow ok bk F1 s1 => by
  refine ws_of (ps_ret (pe_var hN hv hd hcd)) ?_
  obtain ⟨o, h1, h2, h3, h4⟩ := ok.at_ i _ hG
  exact ⟨.ref (ow i), by rw [h1, h2], .dc kvs, F, q, bk.up, ow i, rfl, bk.fresh i _ hG rfl, h4, h3⟩
theorem noLL_ints : ∀ l : List Int, noLL (l.map D.int) = true
  | [] => rfl
  | _ :: l => noLL_ints l
theorem noLL_ois : ∀ l : List (Option Int), noLL (l.map D.oi) = true
  | [] => rfl
  | none :: l => noLL_ois l
  | some _ :: l => noLL_ois l
/-- [x for x in d if d[x] == z], d a dict of the frame's own with ints -/
theorem s_lcD (i j l t : Nat) {kvs : List (Int × Int)} {m : Int} (hu : X.A.units + 1 < cLine) (hnd : (kvs.map (·.1)).Nodup) (hl : kvs.length ≤ 90000)
    (hG : G[i]? = some (.dc (kvs.map fun p => (p.1, V.int p.2)))) (hZ : G[l]? = some (.v (.int m))) (hij : i ≠ j) (hlj : l ≠ j) (hjl : j < G.length)
    (hn : NmV X i y) (hb : blkC X.N X.env.scope scope [(x, j)] = true := by kernel_rfl)
    (hny : ∀ (s : Shared) (H0 : Hp) (C : Addr) (cl : List (Str × Addr)) (fp : List Addr), NmV (X.blk s H0 scope (compEnvC scope cl C X.env) fp) i y) (hnz : ∀ (s : Shared) (H0 : Hp) (C : Addr) (cl : List (Str × Addr)) (fp : List Addr), NmV (X.blk s H0 scope (compEnvC scope cl C X.env) fp) l z)
    (hnx : ∀ (s : Shared) (H0 : Hp) (C : Addr) (cl : List (Str × Addr)) (fp : List Addr), NmV (X.blk s H0 scope (compEnvC scope cl C X.env) fp) j x)
    (hN : X.N.Nodup := by exact nd_by (by kernel_rfl)) (hj : X.N[j]? = some x := by rfl) (hx : BlkT X scope x := by first | exact ⟨Or.inl rfl, Or.inr rfl⟩ | exact ⟨Or.inr rfl, Or.inl rfl⟩) (hc : X.calm = true := by rfl)
    (hfo : ∀ v, foldedSetIterable (.Name y p2) X.env v = pure v := by intro _; rfl)
    (hk : k.nx (G.set t (.m (((kvs.filter fun p => decide (p.2 = m)).map (·.1)).map D.int))))
    (hsw : swapsWith (.ListComp (.Name x p) [⟨.Name x p3, .Name y p2, [.Compare (.Subscript (.Name y p4) (.Name x p5) p6) [.Eq] [.Name z p7] p8], 0⟩] scope pos) (some (.Name u py)) spos.line X.env = pure true := by exact sw_true rfl rfl rfl (by kernel_rfl))
    (ht : X.N[t]? = some u := by rfl) (hul : X.env.scope.names.lookup u = some .local := by rfl) :
    S1 g X G (.Assign [.Name u py] (.ListComp (.Name x p) [⟨.Name x p3, .Name y p2, [.Compare (.Subscript (.Name y p4) (.Name x p5) p6) [.Eq] [.Name z p7] p8], 0⟩] scope pos) spos) k := fun B F H σ ow ok bk F1 sF1 => by
  obtain ⟨f1, f2, f3⟩ := ok.ownD hG
  refine ws_of (ps_lock (ps_setLc (i := t) (own := [(x, j)]) (g := gName j) (tt := tTest (tOp rEq (tDGet (tVar i) (tVar j)) (tVar l))) (te := tVar j) hc hN ht hul hsw (pi_keys (pe_nm hn)) (blkOk_by hb) (pg_blk j hN hj hx)
    (fun s H C cl fp => pts_one (pt_cmpR op_eq (pe_dget (X := X.blk s H scope (compEnvC scope cl C X.env) fp) hu (pe_nm (hny s H C cl fp)) (pe_nm (hnx s H C cl fp)) (fun _ _ => rfl)) (pe_nm (hnz s H C cl fp)) (nomark _))) (fun s H C cl fp => pe_nm (hnx s H C cl fp)) hfo)) ?_
  refine ⟨ow i, _, f3, True.intro, fun od => ?_⟩
  refine ⟨_, f1, ow i, od, rfl, Or.inl ⟨_, upd_same, fun D hD => ?_⟩⟩
  have hDi : ow i ≠ D := fun w => by
    rw [← w, upd_same] at hD
    cases hD
  have hD0 : H D = none := by
    rw [upd_ne (Ne.symm hDi)] at hD
    exact hD
  have hlen : (dkv (kvs.map fun p => (p.1, V.int p.2))).length = kvs.length := by
    unfold dkv
    rw [List.length_map, List.length_map]
  have hkey : ∀ n : Nat, (dkv (kvs.map fun p => (p.1, V.int p.2)))[n]? = (kvs[n]?).map fun p => ((Sum.inl p.1 : Key), V.int p.2) := fun n => by
    unfold dkv
    rw [List.getElem?_map, List.getElem?_map, Option.map_map] <;> rfl
  obtain ⟨oz, z1, vz, z2, z3⟩ := ok.at_ l _ hZ
  have z4 := of_int z3
  refine lc_it (walk_keys (d := ow i) (o := od) (kvs := dkv (kvs.map fun p => (p.1, V.int p.2)))) (fun n H' => H' = upd (upd H (ow i) (.frz od (.dK (dkv (kvs.map fun p => (p.1, V.int p.2)))))) D (.lst ((((kvs.take n).filter fun p => decide (p.2 = m)).map (·.1)).map V.int))) rfl (fun n H' _ e => by rw [e, upd_ne hDi, upd_same]) (fun n v H' H3 hn e y0 => ?_) (fun H' e => ?_)
  · obtain ⟨e3, kk, vv, k1, k2⟩ := y0
    subst e3
    rw [hkey n] at k1
    obtain ⟨pr, hp⟩ : ∃ pr, kvs[n]? = some pr := by
      cases w : kvs[n]? with
      | none =>
        rw [w] at k1
        cases k1
      | some pr => exact ⟨pr, rfl⟩
    rw [hp] at k1
    have k3 := Option.some.inj k1
    have k4 : (Sum.inl pr.1 : Key) = kk := congrArg Prod.fst k3
    subst k4
    have k5 : v = V.int pr.1 := k2
    have hjs : j < σ.length := by rw [ok.len]; exact hjl
    have ew : ((wipe σ [j]).set j (some v)) = σ.set j (some v) := by
      show (σ.set j none).set j (some v) = _
      rw [List.set_set]
    have hHi : H3 (ow i) = some (.frz od (.dK (dkv (kvs.map fun p => (p.1, V.int p.2))))) := by
      rw [e, upd_ne hDi, upd_same]
    refine ⟨?_, ?_⟩
    · show ((wipe σ [j]).set j (some v)).set j none = (σ.set j none)
      rw [ew, List.set_set]
    · show tTest _ ((wipe σ [j]).set j (some v)) _ _
      rw [ew]
      have hval := find_nd hnd (List.mem_of_getElem? hp)
      refine ⟨V.ref (ow i), ?_, V.int pr.1, ?_, ow i, V.int pr.2, rfl, Or.inl ⟨_, Sum.inl pr.1, Or.inr ⟨od, hHi⟩, rfl, ?_⟩, V.int m, ?_, rfl, decide (pr.2 = m), ?_, ?_⟩
      · rw [List.getElem?_set_ne (Ne.symm hij)]
        exact f1
      · rw [List.getElem?_set_self hjs, k5]
      · rw [val_dkv, hval]
      · rw [List.getElem?_set_ne (Ne.symm hlj), z1, z2, z4]
      · congr 1
        by_cases h : pr.2 = m
        · rw [decide_eq_true h, h, decide_eq_true rfl]
        · rw [decide_eq_false h, decide_eq_false fun w => h (by injection w)]
      · have hs := filt_snoc (q := fun p : Int × Int => decide (p.2 = m)) hp
        by_cases h : pr.2 = m
        · rw [decide_eq_true h]
          refine iteT ⟨v, List.getElem?_set_self (by rw [show (wipe σ (List.map (fun x => x.snd) [(x, j)])) = σ.set j none from rfl, List.length_set]; exact hjs), _, (by rw [e]; exact upd_same), ?_, ?_⟩
          · rw [List.length_map, List.length_map]
            refine Nat.lt_of_le_of_lt (Nat.le_trans (List.length_filter_le _ _) (Nat.le_trans (by rw [List.length_take]; exact Nat.min_le_right _ _) hl)) (by decide)
          · rw [e, upd_upd, hs, if_pos (by exact decide_eq_true h), List.map_append, List.map_append, k5] <;> rfl
        · rw [decide_eq_false h]
          refine iteF ?_
          rw [e, hs, if_neg (by rw [decide_eq_false h]; decide), List.append_nil]
  · rw [hlen, List.take_length] at e
    subst e
    refine ⟨by rw [upd_ne hDi, upd_same], ?_⟩
    have e5 : upd (upd (upd H (ow i) (.frz od (.dK (dkv (kvs.map fun p => (p.1, V.int p.2)))))) D (.lst ((((kvs.filter fun p => decide (p.2 = m)).map (·.1)).map V.int)))) (ow i) (.dK (dkv (kvs.map fun p => (p.1, V.int p.2)))) = upd H D (.lst ((((kvs.filter fun p => decide (p.2 = m)).map (·.1)).map V.int))) := by
      funext b
      by_cases hb : b = ow i
      · subst hb
        rw [upd_same, upd_ne hDi, f3]
      · rw [upd_ne hb]
        by_cases hb2 : b = D
        · subst hb2
          rw [upd_same, upd_same]
        · rw [upd_ne hb2, upd_ne hb2, upd_ne hb]
    rw [e5]
    refine rt_new ok.fit (repL_ints (((kvs.filter fun p => decide (p.2 = m)).map (·.1)))) (Q := fun v H2 => gName t v σ H2 (ends g B F1 k).nx) (fun v F2 H2 u r => ?_) hD0
    obtain ⟨ow', k1, b1⟩ := store (i := t) ok bk u r
    exact ⟨_, F2, ow', hk, k1, b1, sF1.trans u.sub⟩
end
end CH

/-! Choosehall: values that are newly made; a list whose last item is a list of the frame's own. -/
namespace CH
open PySem L2
section
variable {g : Gb} {X : Cx} {G : List Sl} {a b c e o : Expr} {es : List Expr} {pos spos p p2 p3 py apos cpos : Pos} {x y : Str} {k : KE}
theorem Ev.nw {d : D} (h : Ev g X G e (.nw d)) : EvD g X G e d := by
  intro F H σ ow ok Q q
  refine h F H σ ow ok Q fun v F1 H1 u r => ?_
  exact q v F1 H1 u (Rep.mono newp_sub _ _ r)
/-- return (x, y), both lists of the frame's own -/
theorem s_retPair (i j : Nat) {ds es : List D} {jx} (q : k.rt (.nw (.tup [.lst ds, .lst es]))) (nd : noLL ds = true) (ne : noLL es = true) (hG : G[i]? = some (.m ds) := by rfl) (hG2 : G[j]? = some (.m es) := by rfl)
    (hn : NmV X i x := by first | exact ⟨rfl, Or.inl rfl, rfl, rfl⟩ | exact ⟨rfl, Or.inr (Or.inl rfl), rfl, rfl⟩) (hn2 : NmV X j y := by first | exact ⟨rfl, Or.inl rfl, rfl, rfl⟩ | exact ⟨rfl, Or.inr (Or.inl rfl), rfl, rfl⟩)
    (hs : starEach [.Name x p, .Name y p2] X.env = (false, eval (.Name x p) X.env) :: starEach [.Name y p2] X.env := by rfl) (hs2 : starEach [.Name y p2] X.env = (false, eval (.Name y p2) X.env) :: starEach [] X.env := by rfl) :
    S1 g X G (.Return (some (.Tuple [.Name x p, .Name y p2] jx pos)) spos) k := fun B F H σ ow ok bk F1 s1 => by
  obtain ⟨f1, f2, xs, f3, f4⟩ := ok.own hG
  obtain ⟨g1, g2, ys, g3, g4⟩ := ok.own hG2
  have fr1 := bk.fresh i _ hG rfl
  have fr2 := bk.fresh j _ hG2 rfl
  refine ws_of (ps_ret (pe_tup (pa_cons (pe_nm hn) (pa_cons (pe_nm hn2) pa_nil hs2) hs))) ?_
  refine ⟨_, f1, _, g1, by show (2 : Nat) ≤ sizeLine; decide, fun t ht => ?_⟩
  have fit1 := fit_frz ok.fit f3 nt_lst
  have g3' : ∀ o, H (ow j) = some o → NT o := fun o e => by
    rw [g3] at e
    cases e
    exact nt_lst
  have fit2 := fit_frz fit1 g3 nt_lst
  have t1 : ow i ≠ t := ne_of_none f3 ht
  have t2 : ow j ≠ t := ne_of_none g3 ht
  have sub1 : Sub F (upd F (ow i) (.lst xs)) := sub_upd f2
  have sub2 : Sub (upd F (ow i) (.lst xs)) (upd (upd F (ow i) (.lst xs)) (ow j) (.lst ys)) := fun z o e => by
    by_cases w : z = ow j
    · rw [w] at e ⊢
      rw [upd_same]
      have := fit1.low _ _ e
      rw [g3] at this
      exact this
    · rw [upd_ne w]
      exact e
  have up2 : Up g B.1 B.2 (upd (upd F (ow i) (.lst xs)) (ow j) (.lst ys)) H := ⟨bk.up.ext, (bk.up.sub.trans sub1).trans sub2, fun z o e n f => by
    rw [upd_ne (fr2.ne e n), upd_ne (fr1.ne e n)]
    exact bk.up.grow z o e n f, fit2⟩
  have up3 := up_newF fit2 (p := t) (o := .tup [.ref (ow i), .ref (ow j)]) ht nt_tup
  have upA := up2.trans up3
  refine ⟨.nw (.tup [.lst ds, .lst es]), _, q, upA, ?_⟩
  have hi : upd (upd (upd F (ow i) (.lst xs)) (ow j) (.lst ys)) t (.tup [.ref (ow i), .ref (ow j)]) (ow i) = some (.lst xs) := up3.sub _ _ (sub2 _ _ upd_same)
  have hj : upd (upd (upd F (ow i) (.lst xs)) (ow j) (.lst ys)) t (.tup [.ref (ow i), .ref (ow j)]) (ow j) = some (.lst ys) := up3.sub _ _ upd_same
  have np : ∀ {z : Addr} {o : HO}, Fresh B.2 z → upd (upd (upd F (ow i) (.lst xs)) (ow j) (.lst ys)) t (.tup [.ref (ow i), .ref (ow j)]) z = some o → newp B.2 (upd (upd (upd F (ow i) (.lst xs)) (ow j) (.lst ys)) t (.tup [.ref (ow i), .ref (ow j)])) z = some o := fun {z o} f e => by
    unfold newp
    rw [if_pos (Or.inl f)]
    exact e
  have tp : ∀ (z : Addr) (zs : List V), F z = some (.tup zs) → newp B.2 (upd (upd (upd F (ow i) (.lst xs)) (ow j) (.lst ys)) t (.tup [.ref (ow i), .ref (ow j)])) z = some (.tup zs) := fun z zs e => newp_tup _ _ (up3.sub _ _ (sub2 _ _ (sub1 _ _ e)))
  exact rep_tup (newp_tup _ _ upd_same) (repL_cons (rep_lst (np fr1 hi) (repL_noL tp _ _ nd f4)) (repL_cons (rep_lst (np fr2 hj) (repL_noL tp _ _ ne g4)) repL_nil))
/-- [a, b], the last one a list that has just come -/
theorem ev_lstPr {d : D} {ds : List D} (h1 : EvD g X G a d) (h2 : Ev g X G b (.m ds)) (hs : starEach [a, b] X.env = (false, eval a X.env) :: starEach [b] X.env := by rfl) (hs2 : starEach [b] X.env = (false, eval b X.env) :: starEach [] X.env := by rfl) :
    Ev g X G (.List [a, b] pos) (.pr [d] ds) := by
  intro F H σ ow ok Q q
  refine we_of (pe_lst (pa_cons pe_we (pa_cons pe_we pa_nil hs2) hs)) ?_
  refine h1 F H σ ow ok _ fun v F1 H1 u r => ?_
  refine h2 F1 H1 σ ow (ok.up u) _ fun v2 F2 H2 u2 r2 => ?_
  obtain ⟨l, xs, rfl, hf, e1, e2, e3⟩ := r2
  refine ⟨by show (2 : Nat) ≤ sizeLine; decide, fun t ht => ?_⟩
  have up3 := up_newF u2.fit (p := t) (o := .lst [v, .ref l]) ht nt_lst
  have tl : l ≠ t := ne_of_none e1 ht
  refine q (.ref t) _ _ ((u.trans u2).trans up3) ⟨t, [v], l, xs, rfl, upd_same, repL_cons (Rep.mono (u2.sub.trans up3.sub) _ _ r) repL_nil, hf.back u.ext, ?_, ?_, RepL.mono up3.sub _ _ e3⟩
  · rw [upd_ne tl]
    exact e1
  · rw [upd_ne tl]
    exact e2
theorem ev_lstPr3 {d d2 : D} {ds : List D} (h1 : EvD g X G a d) (h0 : EvD g X G c d2) (h2 : Ev g X G b (.m ds)) (hs : starEach [a, c, b] X.env = (false, eval a X.env) :: starEach [c, b] X.env := by rfl) (hs1 : starEach [c, b] X.env = (false, eval c X.env) :: starEach [b] X.env := by rfl) (hs2 : starEach [b] X.env = (false, eval b X.env) :: starEach [] X.env := by rfl) :
    Ev g X G (.List [a, c, b] pos) (.pr [d, d2] ds) := by
  intro F H σ ow ok Q q
  refine we_of (pe_lst (pa_cons pe_we (pa_cons pe_we (pa_cons pe_we pa_nil hs2) hs1) hs)) ?_
  refine h1 F H σ ow ok _ fun v F1 H1 u r => ?_
  refine h0 F1 H1 σ ow (ok.up u) _ fun v0 F0 H0 u0 r0 => ?_
  refine h2 F0 H0 σ ow ((ok.up u).up u0) _ fun v2 F2 H2 u2 r2 => ?_
  obtain ⟨l, xs, rfl, hf, e1, e2, e3⟩ := r2
  refine ⟨by show (3 : Nat) ≤ sizeLine; decide, fun t ht => ?_⟩
  have up3 := up_newF u2.fit (p := t) (o := .lst [v, v0, .ref l]) ht nt_lst
  have tl : l ≠ t := ne_of_none e1 ht
  refine q (.ref t) _ _ (((u.trans u0).trans u2).trans up3) ⟨t, [v, v0], l, xs, rfl, upd_same, repL_cons (Rep.mono ((u0.sub.trans u2.sub).trans up3.sub) _ _ r) (repL_cons (Rep.mono (u2.sub.trans up3.sub) _ _ r0) repL_nil), hf.back (u.trans u0).ext, ?_, ?_, RepL.mono up3.sub _ _ e3⟩
  · rw [upd_ne tl]
    exact e1
  · rw [upd_ne tl]
    exact e2
/-- x[n].clear(), n the last place -/
theorem s_clearPr (i : Nat) {pre ds : List D} {n : Int} (hK : X.K = g.K) (h1 : EvD g X G e (.int n)) (hn0 : n = (pre.length : Int)) (q : k.nx (G.set i (.pr pre []))) (hG : G[i]? = some (.pr pre ds) := by rfl)
    (hn : NmV X i x := by first | exact ⟨rfl, Or.inl rfl, rfl, rfl⟩ | exact ⟨rfl, Or.inr (Or.inl rfl), rfl, rfl⟩) (hi : PlainIx e := by intro _ _; rfl)
    (hb : attributeBase (.Subscript (.Name x p) e p2) "clear" X.env (eval (.Subscript (.Name x p) e p2) X.env) = eval (.Subscript (.Name x p) e p2) X.env := by rfl) (hline : (apos.endLine == cpos.line) = true := by rfl) (hs : swapsWith (.Call (.Attribute (.Subscript (.Name x p) e p2) "clear" apos) [] [] cpos) none pos.line X.env = pure false := by rfl) :
    S1 g X G (.Expr (.Call (.Attribute (.Subscript (.Name x p) e p2) "clear" apos) [] [] cpos) pos) k := fun B F H σ ow ok bk F1 s1 => by
  refine ws_of (ps_expr (pe_bm0 PySem.F.plainAttrs_list PySem.F.slot_list_clear PySem.F.type_list_clear mt_clear (pe_ix ix_seq (pe_nm hn) pe_we hi) hb hline) hs) ?_
  obtain ⟨o, w1, p', vs, w2, w3, w4, w5, xs, w6, w7⟩ := ok.at_ i _ hG
  refine ⟨_, by rw [w1, w2], ?_⟩
  refine h1 F H σ ow ok _ fun v2 F2 H2 u r2 => ?_
  have w3' := u.fit.low _ _ (u.sub _ _ w3)
  have w6' := u.ext _ _ w6 nt_lst
  have w8 := w4.len
  rw [hK, of_int r2]
  refine Or.inl ⟨p', vs ++ [.ref (ow i)], n, .ref (ow i), rfl, rfl, SqL.of w3', ?_, ?_⟩
  · unfold atI ixN
    rw [hn0, if_pos (by omega), if_pos (by rw [List.length_append, List.length_singleton, w8]; omega)]
    show (vs ++ [V.ref (ow i)])[((pre.length : Nat) : Int).toNat]? = _
    rw [Int.toNat_natCast, ← w8, List.getElem?_append_right (Nat.le_refl _), Nat.sub_self] <;> rfl
  · have ok2 := ok.up u
    have bk2 := bk.go u
    have k1 := ok2.mutG (t := .pr pre []) (o := .lst []) hG rfl w6' nt_lst ne_ext_lst (fun v h => by
      obtain ⟨q1, ws, a1, a2, a3, a4, ys, a5, a6⟩ := h
      exact ⟨q1, ws, a1, a2, a3, a4, [], upd_same, repL_nil⟩) rfl
    have b1 := bk2.mutG ok2 (t := .pr pre []) (o := .lst []) hG rfl w6' nt_lst ne_ext_lst rfl
    exact ⟨ty_lst w6', ow i, xs, rfl, rfl, w6', _, F2, ow, q, k1, b1, s1.trans u.sub⟩
end
end CH

/-! Choosehall: x[n], x a list of the frame's own that holds lists. -/
namespace CH
open PySem L2
section
variable {g : Gb} {X : Cx} {G : List Sl} {e : Expr} {pos p : Pos} {x : Str}
theorem ev_ixOwn (i : Nat) {ds : List D} {n : Int} {d : D} (hK : X.K = g.K) (h1 : EvD g X G e (.int n)) (h : (D.lst ds).at_ n = some d) (hG : G[i]? = some (.m ds) := by rfl)
    (hn : NmV X i x := by first | exact ⟨rfl, Or.inl rfl, rfl, rfl⟩ | exact ⟨rfl, Or.inr (Or.inl rfl), rfl, rfl⟩) (hi : PlainIx e := by intro _ _; rfl) : EvD g X G (.Subscript (.Name x p) e pos) d := by
  intro F H σ ow ok Q q
  refine we_of (pe_ix ix_seq (pe_nm hn) pe_we hi) ?_
  obtain ⟨f1, f2, xs, f3, f4⟩ := ok.own hG
  refine ⟨_, f1, ?_⟩
  refine h1 F H σ ow ok _ fun v2 F2 H2 u r2 => ?_
  have f3' := u.ext _ _ f3 nt_lst
  have f4' := RepL.mono u.sub _ _ f4
  obtain ⟨v, e3, e4⟩ := f4'.ati h
  rw [hK, of_int r2]
  exact Or.inl ⟨ow i, xs, n, v, rfl, rfl, SqL.of f3', e3, q v F2 H2 u e4⟩
end
end CH

/-! Choosehall: wishes, places, houses as data. -/
namespace CH
open PySem L2
def intssD (ws : List (List Int)) : D := .lst (ws.map intsD)
def oisD (ps : List (Option Int)) : D := .lst (ps.map D.oi)
def hssD (hs : List Hs) : D := .lst (hs.map D.hs)
def rowsD (hs : List Hs) : D := .lst (hs.map rowD)
def pairD (p : Int × Int) : D := .tup [.int p.1, .int p.2]
def pairsD (l : List (Int × Int)) : D := .lst (l.map pairD)
theorem at_map {α : Type} {enc : α → D} {l : List α} {i : Int} {a : α} (h0 : 0 ≤ i) (e : l[i.toNat]? = some a) : (D.lst (l.map enc)).at_ i = some (enc a) := at_nat h0 (by rw [List.getElem?_map, e] <;> rfl)
theorem getD_at {α : Type} {l : List α} {k : Int} {d : α} (h0 : 0 ≤ k) (h1 : k < l.length) : l[k.toNat]? = some (l.getD k.toNat d) := by
  rw [List.getD_eq_getElem?_getD, List.getElem?_eq_getElem (by omega)] <;> rfl
theorem at_place {ps : List (Option Int)} {k : Int} (h0 : 0 ≤ k) (h1 : k < ps.length) : (oisD ps).at_ k = some (D.oi (placeAt ps k)) := at_map h0 (getD_at h0 h1)
theorem at_wish {ws : List (List Int)} {k : Int} (h0 : 0 ≤ k) (h1 : k < ws.length) : (intssD ws).at_ k = some (intsD (wishAt ws k)) := at_map h0 (getD_at h0 h1)
theorem at_hs {hs : List Hs} {k : Int} (h0 : 0 ≤ k) (h1 : k < hs.length) : (hssD hs).at_ k = some (.hs (houseAt hs k)) := at_map h0 (getD_at h0 h1)
theorem at_rows {hs : List Hs} {k : Int} (h0 : 0 ≤ k) (h1 : k < hs.length) : (rowsD hs).at_ k = some (rowD (houseAt hs k)) := at_map h0 (getD_at h0 h1)
theorem len_ois (ps : List (Option Int)) : (oisD ps).len = some ps.length := by
  show some (ps.map D.oi).length = _
  rw [List.length_map]
theorem len_intss (ps : List (List Int)) : (intssD ps).len = some ps.length := by
  show some (ps.map intsD).length = _
  rw [List.length_map]
theorem len_hss (ps : List Hs) : (hssD ps).len = some ps.length := by
  show some (ps.map D.hs).length = _
  rw [List.length_map]
theorem len_rows (ps : List Hs) : (rowsD ps).len = some ps.length := by
  show some (ps.map rowD).length = _
  rw [List.length_map]
theorem len_ints (ps : List Int) : (intsD ps).len = some ps.length := by
  show some (ps.map D.int).length = _
  rw [List.length_map]
theorem len_pairs (ps : List (Int × Int)) : (pairsD ps).len = some ps.length := by
  show some (ps.map pairD).length = _
  rw [List.length_map]
theorem eqv_oi_int (p : Option Int) (i : Int) : (D.oi p).eqv (.int i) = decide (p = some i) := eqv_oi p (some i)
theorem eqv_int_oi (i : Int) (p : Option Int) : (D.int i).eqv (D.oi p) = decide (some i = p) := eqv_oi (some i) p
def RHeld : List D → Sl → Prop := fun ds r => ∃ (ps : List (Option Int)) (h : Int), ds = [oisD ps, .int h] ∧ ps.length ≤ 100 ∧ r = .m ((heldM ps h).map D.int)
def RRather : List D → Sl → Prop := fun ds r => ∃ (ws : List (List Int)) (ps : List (Option Int)) (k : Int), ds = [intssD ws, oisD ps, .int k] ∧ 0 ≤ k ∧ k < ws.length ∧ k < ps.length ∧ (wishAt ws k).length ≤ 100 ∧ r = .m ((ratherM ws ps k).map D.int)
theorem ahead_step : ∀ (r : List Int) (p : Option Int) (i : Nat), (∀ m x, m < i → r[m]? = some x → some x ≠ p) → i ≤ r.length → aheadM r p = r.take i ++ aheadM (r.drop i) p
  | r, p, 0, _, _ => by rw [List.take_zero, List.drop_zero] <;> rfl
  | [], p, i + 1, _, h => by cases h
  | a :: r, p, i + 1, hn, h => by
    have e := hn 0 a (Nat.succ_pos _) rfl
    have ih := ahead_step r p i (fun m x hm hx => hn (m + 1) x (Nat.succ_lt_succ hm) hx) (Nat.le_of_succ_le_succ h)
    rw [List.take_succ_cons, List.drop_succ_cons]
    show (if some a = p then [] else a :: aheadM r p) = _
    rw [if_neg e, ih] <;> rfl
end CH

/-! Choosehall: held. -/
namespace CH
open PySem L2
section
variable {P : Program} {w : World} {g : Gb} {mg : Str → Option Value} {base : Heap} {f : Addr} {fd : FuncData}
theorem c_held (F : FnP g.K "held" "held" s_held f fd) (hm : mg "held" = some (.ref f)) (fr : Free mg) : Cal P w g mg base "held" 1 RHeld := by
  refine cal_by (N := ["places", "house", "comer"]) (ps := ["places", "house"]) F ⟨rfl, rfl, rfl, by decide +kernel, rfl, by decide +kernel, by decide +kernel⟩ hm (fun _ _ _ _ _ _ us hl => match us, hl with | [_, _], _ => rfl) ?_ ?_
  · rintro ds r ⟨ps, h, rfl, _⟩
    rfl
  · rintro ds r cdv A outer s0 H E ⟨ps, h, rfl, hl, rfl⟩ hr
    refine ss_one (s_ret (ev_lcIf 2 (enc := D.int) (l := rg 0 ps.length) (fun k => decide (placeAt ps k = some h)) D.int (ei_range fr (ev_len rfl fr (ev_var 0) (len_ois ps)) ⟨by omega, by omega⟩) (by rw [rg_len]; omega) (fun k hk s1 H1 C cl fp => ?_) (fun k hk _ s1 H1 C cl fp => ev_var 2)) rfl)
    have hk' := mem_rg.mp hk
    exact EvT.is (et_cmp (ev_ix rfl (ev_var 0) (ev_var 2) (at_place hk'.1 hk'.2)) (ev_var 1) (cmp_eq rfl hr.units (cm_oi _).ok (cm_int _).ok)) (eqv_oi_int _ _)
end
end CH

/-! Choosehall: rather. -/
namespace CH
open PySem L2
section
variable {P : Program} {w : World} {g : Gb} {mg : Str → Option Value} {base : Heap} {f : Addr} {fd : FuncData}
theorem c_rather (F : FnP g.K "rather" "rather" s_rather f fd) (hm : mg "rather" = some (.ref f)) (fr : Free mg) : Cal P w g mg base "rather" 1 RRather := by
  refine cal_by (N := ["wishes", "places", "comer", "row"]) (ps := ["wishes", "places", "comer"]) F ⟨rfl, rfl, rfl, by decide +kernel, rfl, by decide +kernel, by decide +kernel⟩ hm (fun _ _ _ _ _ _ us hl => match us, hl with | [_, _, _], _ => rfl) ?_ ?_
  · rintro ds r ⟨ws, ps, k, rfl, _⟩
    rfl
  · rintro ds r cdv A outer s0 H E ⟨ws, ps, k, rfl, h0, h1, h2, hl, rfl⟩ hr
    refine ss_cons (s_asg 3 (ev_ix rfl (ev_var 0) (ev_var 2) (at_wish h0 h1)) ?_)
    refine ss_cons (s_if (b := (wishAt ws k).any fun x => decide (some x = placeAt ps k)) (EvT.is (et_cmp (ev_ix rfl (ev_var 1) (ev_var 2) (at_place h0 h2)) (ev_var 3) (cmp_in rfl (fl_oi _) (fl_ints _))) (inV_oi _ _)) (fun hb => ?_) (fun hb => ss_nil (ss_one (s_ret (ev_list rfl fr (ev_var 3)) ?_))))
    · obtain ⟨x, hx, e⟩ := List.any_eq_true.mp hb
      have e' := of_decide_eq_true e
      obtain ⟨j, j1, j2⟩ := idx_ex hx
      have ep : D.oi (placeAt ps k) = .int x := by rw [← e'] <;> rfl
      refine ss_one (s_ret (ev_sl rfl (ev_var 3) eo_none (eo_some (ev_index rfl (ev_var 3) (Ev.is (ev_ix rfl (ev_var 1) (ev_var 2) (at_place h0 h2)) (congrArg Sl.v ep)) j1 j2))) ?_)
      show Sl.m _ = Sl.m _
      rw [take_cut (by omega), Int.toNat_natCast, ← List.map_take]
      unfold ratherM
      rw [← e', aheadM_take j1 j2]
    · show Sl.m _ = Sl.m _
      unfold ratherM
      rw [aheadM_all fun h hh z => ?_]
      have := List.any_eq_false.mp hb h hh
      exact this (decide_eq_true z)
end
end CH

/-! Choosehall: how many pairs. -/
namespace CH
open PySem L2
theorem pairs_few {ws : List (List Int)} {hs : List Hs} {ps : List (Option Int)} {n : Nat} (o : WOk ws hs n) (hn : ps.length ≤ n) {l : List Int} (hl : l.Sublist (rg 0 ps.length)) : (l.flatMap (pairsOf ws hs ps)).length ≤ 192 := by
  have h1 : ∀ l : List Int, (∀ k ∈ l, 0 ≤ k ∧ k < n) → (l.flatMap (pairsOf ws hs ps)).length ≤ 8 * l.length := fun l => by
    induction l with
    | nil => intro _; exact Nat.le_refl _
    | cons k r ih =>
      intro h
      rw [List.flatMap_cons, List.length_append, List.length_cons]
      have h2 := ih fun x hx => h x (List.mem_cons_of_mem _ hx)
      obtain ⟨k0, k1⟩ := h k List.mem_cons_self
      have h3 : (pairsOf ws hs ps k).length ≤ 8 := by
        unfold pairsOf
        rw [List.length_map]
        exact Nat.le_trans (List.length_filter_le _ _) (Nat.le_trans (aheadM_sub _ _).length_le (o.wLen k0 k1))
      omega
  have h4 := h1 l fun k hk => by
    have := mem_rg.mp (hl.subset hk)
    omega
  have h5 := hl.length_le
  rw [rg_len] at h5
  have := o.small
  omega
def RBoth : List D → Sl → Prop := fun ds r => ∃ (ws : List (List Int)) (hs : List Hs) (ps : List (Option Int)) (n : Nat), WOk ws hs n ∧ ps.length = n ∧ ds = [intssD ws, hssD hs, oisD ps] ∧ r = .m ((pairsM ws hs ps).map pairD)
def RLPairs : List D → Sl → Prop := fun ds r => ∃ (ws : List (List Int)) (hs : List Hs) (ps : List (Option Int)) (n : Nat), WOk ws hs n ∧ ps.length = n ∧ ds = [intssD ws, rowsD hs, oisD ps] ∧ r = .m ((pairsM ws hs ps).map pairD)
end CH

/-! Choosehall: the pairs that would both rather. -/
namespace CH
open PySem L2
section
variable {P : Program} {w : World} {g : Gb} {mg : Str → Option Value} {base : Heap} {f : Addr} {fd : FuncData}
theorem c_both (F : FnP g.K "both_rather" "both_rather" s_both_rather f fd) (hm : mg "both_rather" = some (.ref f)) (fr : Free mg) (cf : ClsF g) (CHe : Cal P w g mg base "held" 1 RHeld) (CRa : Cal P w g mg base "rather" 1 RRather) (CCh : MCal P w g mg base "chosen" 4 RChosen) : Cal P w g mg base "both_rather" 5 RBoth := by
  refine cal_by (N := ["wishes", "houses", "places", "pairs", "comer", "house"]) (ps := ["wishes", "houses", "places"]) F ⟨rfl, rfl, rfl, by decide +kernel, rfl, by decide +kernel, by decide +kernel⟩ hm (fun _ _ _ _ _ _ us hl => match us, hl with | [_, _, _], _ => rfl) ?_ ?_
  · rintro ds r ⟨ws, hs, ps, n, _, _, rfl, _⟩
    rfl
  · rintro ds r cdv A outer s0 H E ⟨ws, hs, ps, n, o, hpn, rfl, rfl⟩ hr
    have sm := o.small
    have hr1 := hr.mono (j := 1) (by decide)
    refine ss_cons (s_asg 3 (ev_lst ea_nil (by decide)) (ss_cons (s_for 4 (items := (rg 0 ps.length).map D.int) (ei_range fr (ev_len rfl fr (ev_var 2) (len_ois ps)) ⟨by omega, by omega⟩) (fun i G => ∃ z4 z5 : Sl, G = [.v (intssD ws), .v (hssD hs), .v (oisD ps), .m ((((rg 0 ps.length).take i).flatMap (pairsOf ws hs ps)).map pairD), z4, z5]) ⟨_, _, rfl⟩ (fun i d G hd hI => ?_) (fun G hI => ?_))))
    · obtain ⟨z4, z5, rfl⟩ := hI
      rw [List.getElem?_map] at hd
      obtain ⟨k, hk, rfl⟩ := Option.map_eq_some_iff.mp hd
      obtain ⟨k0, k1⟩ := mem_rg.mp (List.mem_of_getElem? hk)
      have wl := o.wLen k0 (by omega)
      have kw : k < ws.length := by rw [o.len]; omega
      have hb1 := pairs_few o (ps := ps) (by omega) (List.take_sublist i (rg 0 ps.length))
      have hst : ∀ j : Nat, ((((rg 0 ps.length).take i).flatMap (pairsOf ws hs ps)).map pairD ++ ((((ratherM ws ps k).take j).filter (wantB hs ps k)).map fun h => pairD (k, h))).length ≤ 90000 := fun j => by
        rw [List.length_append, List.length_map, List.length_map]
        have h1 := List.length_filter_le (wantB hs ps k) ((ratherM ws ps k).take j)
        have h2 : ((ratherM ws ps k).take j).length ≤ (ratherM ws ps k).length := by rw [List.length_take]; omega
        have h3 := (aheadM_sub (wishAt ws k) (placeAt ps k)).length_le
        have h4 : (ratherM ws ps k).length ≤ (wishAt ws k).length := h3
        omega
      refine ss_one (s_for 5 (items := (ratherM ws ps k).map D.int) (ei_list rfl (Ev.fz (ev_call rfl CRa hr1 (ea_cons (ev_var 0) (ea_cons (ev_var 2) (ea_cons (ev_var 4) ea_nil))) ⟨ws, ps, k, rfl, k0, kw, k1, by omega, rfl⟩))) (fun j G => ∃ z5 : Sl, G = [.v (intssD ws), .v (hssD hs), .v (oisD ps), .m ((((rg 0 ps.length).take i).flatMap (pairsOf ws hs ps)).map pairD ++ ((((ratherM ws ps k).take j).filter (wantB hs ps k)).map fun h => pairD (k, h))), .v (.int k), z5]) ⟨z5, ?_⟩ (fun j d G hd hI => ?_) (fun G hI => ?_))
      · rw [List.take_zero]
        show _ = [_, _, _, Sl.m (_ ++ []), _, _]
        rw [List.append_nil] <;> rfl
      · obtain ⟨z5, rfl⟩ := hI
        rw [List.getElem?_map] at hd
        obtain ⟨h, hh, rfl⟩ := Option.map_eq_some_iff.mp hd
        obtain ⟨hw, _⟩ := aheadM_mem (List.mem_of_getElem? hh)
        obtain ⟨h0, h1⟩ := (o.wOk k0 (by omega)).2 h hw
        have ho := o.hOk h0 h1
        have hlen := held_len ps h
        have ecat : (heldM ps h).map D.int ++ [D.int k] = (heldM ps h ++ [k]).map D.int := by rw [List.map_append] <;> rfl
        refine ss_one (s_if (b := wantB hs ps k h) (EvT.is (et_cmp (ev_var 4) (Ev.fz (ev_meth rfl cf.c CCh no_chosen hr (ev_ix rfl (ev_var 1) (ev_var 5) (at_hs h0 h1)) (ea_cons (Ev.is (Ev.fz (ev_bin (Ev.fz (ev_call rfl CHe hr1 (ea_cons (ev_var 2) (ea_cons (ev_var 5) ea_nil)) ⟨ps, h, rfl, by omega, rfl⟩)) (Ev.fz (ev_lst (ea_cons (ev_var 4) ea_nil) (by show (1 : Nat) ≤ 100000; decide))) (bin_cat (by show ((heldM ps h).map D.int).length + 1 ≤ 100000; rw [List.length_map]; omega)))) (congrArg (fun l => Sl.v (.lst l)) ecat)) ea_nil) ⟨houseAt hs h, n, heldM ps h ++ [k], ho, rfl, rfl⟩)) (cmp_in rfl (w := .int k) (ws := (chosenM (houseAt hs h) (heldM ps h ++ [k])).map V.int) rfl (fl_ints _))) (inV_ints _ _)) (fun hb => ?_) (fun hb => ?_))
        · refine ss_one (s_append 3 (ds := (((rg 0 ps.length).take i).flatMap (pairsOf ws hs ps)).map pairD ++ ((((ratherM ws ps k).take j).filter (wantB hs ps k)).map fun h => pairD (k, h))) (ev_tup (ea_cons (ev_var 4) (ea_cons (ev_var 5) ea_nil)) (by show (2 : Nat) ≤ 100000; decide)) ⟨.v (.int h), ?_⟩ (hst j))
          rw [filt_snoc hh, if_pos hb, List.map_append, ← List.append_assoc] <;> rfl
        · refine ss_nil ⟨.v (.int h), ?_⟩
          rw [filt_snoc hh, if_neg (by rw [hb]; decide), List.append_nil] <;> rfl
      · obtain ⟨z5, rfl⟩ := hI
        refine ⟨.v (.int k), z5, ?_⟩
        have e1 : (((rg 0 ps.length).take (i + 1)).flatMap (pairsOf ws hs ps)).map pairD = (((rg 0 ps.length).take i).flatMap (pairsOf ws hs ps)).map pairD ++ (((ratherM ws ps k).filter (wantB hs ps k)).map fun h => pairD (k, h)) := by
          rw [take_snoc hk, List.flatMap_append, List.map_append, List.flatMap_singleton]
          unfold pairsOf
          rw [List.map_map] <;> rfl
        rw [e1, List.length_map, List.take_length]
    · obtain ⟨z4, z5, rfl⟩ := hI
      refine ss_one (s_retOwn 3 ?_)
      show Sl.m _ = Sl.m _
      rw [List.length_map, List.take_length] <;> rfl
end
end CH

/-! Choosehall: what fair means; pairs as data. -/
namespace CH
open PySem L2
theorem eqv_pair (p q : Int × Int) : (pairD p).eqv (pairD q) = decide (p = q) := by
  have e : (pairD p).eqv (pairD q) = (decide (p.1 = q.1) && (decide (p.2 = q.2) && true)) := rfl
  obtain ⟨a, b⟩ := p
  obtain ⟨c, d⟩ := q
  rw [e, Bool.and_true, ← Bool.decide_and]
  exact decide_eq_decide.mpr ⟨fun h => Prod.ext h.1 h.2, fun h => ⟨congrArg Prod.fst h, congrArg Prod.snd h⟩⟩
theorem eqv_pairs (l m : List (Int × Int)) : (pairsD l).eqv (pairsD m) = decide (l = m) := eqv_map eqv_pair l m
theorem cm_pair (p : Int × Int) : (pairD p).cm 2 := cm_tup fun d hd => by
  rcases List.mem_cons.mp hd with e | e
  · rw [e]
    exact cm_int _
  · rw [List.mem_singleton.mp e]
    exact cm_int _
theorem cm_pairs (l : List (Int × Int)) : (pairsD l).cm 3 := cm_map fun a _ => cm_pair a
def badPlace (ws : List (List Int)) (ps : List (Option Int)) (k : Int) : Bool := !(placeAt ps k).isNone && !((wishAt ws k).any fun x => decide (some x = placeAt ps k))
def badHouse (hs : List Hs) (ps : List (Option Int)) (h : Int) : Bool := !decide (chosenM (houseAt hs h) (heldM ps h) = heldM ps h)
def fairM (ws : List (List Int)) (hs : List Hs) (ps : List (Option Int)) : Bool := !(rg 0 ps.length).any (badPlace ws ps) && (!(rg 0 hs.length).any (badHouse hs ps) && decide (pairsM ws hs ps = []))
def RFair : List D → Sl → Prop := fun ds r => ∃ (ws : List (List Int)) (hs : List Hs) (ps : List (Option Int)) (n : Nat), WOk ws hs n ∧ ps.length = n ∧ ds = [intssD ws, hssD hs, oisD ps] ∧ r = .v (.bl (fairM ws hs ps))
def RLFair : List D → Sl → Prop := fun ds r => ∃ (ws : List (List Int)) (hs : List Hs) (ps : List (Option Int)) (n : Nat), WOk ws hs n ∧ ps.length = n ∧ ds = [intssD ws, rowsD hs, oisD ps] ∧ r = .v (.bl (fairM ws hs ps))
end CH

/-! Choosehall: rounds of asking, as plain data. -/
namespace CH
open PySem L2
structure St where
  ps : List (Option Int)
  rf : List Int
def rfAt (rf : List Int) (k : Int) : Int := rf.getD k.toNat 0
def askB (ws : List (List Int)) (s : St) (k : Int) : Bool := (placeAt s.ps k).isNone && decide (rfAt s.rf k < (wishAt ws k).length)
def askOf (ws : List (List Int)) (s : St) (k : Int) : Int := (wishAt ws k).getD (rfAt s.rf k).toNat 0
def asksM (ws : List (List Int)) (s : St) : List (Int × Int) := ((rg 0 ws.length).filter (askB ws s)).map fun k => (k, askOf ws s k)
def comStep (h : Int) (taken : List Int) (s : St) (c : Int) : St :=
  if c ∈ taken then ⟨s.ps.set c.toNat (some h), s.rf⟩ else ⟨s.ps.set c.toNat none, s.rf.set c.toNat (rfAt s.rf c + 1)⟩
def comersOf (asks : List (Int × Int)) (h : Int) : List Int := (asks.filter fun p => decide (p.2 = h)).map (·.1)
def allHere (asks : List (Int × Int)) (s : St) (h : Int) : List Int := heldM s.ps h ++ comersOf asks h
def houseStep (hs : List Hs) (asks : List (Int × Int)) (s : St) (h : Int) : St := (allHere asks s h).foldl (comStep h (chosenM (houseAt hs h) (allHere asks s h))) s
def roundM (ws : List (List Int)) (hs : List Hs) (s : St) : St := (rg 0 hs.length).foldl (houseStep hs (asksM ws s)) s
def runM (ws : List (List Int)) (hs : List Hs) : Nat → St → St
  | 0, s => s
  | f + 1, s => if (asksM ws s).isEmpty = true then s else runM ws hs f (roundM ws hs s)
def start (n : Nat) : St := ⟨List.replicate n none, List.replicate n 0⟩
def termOf (ws : List (List Int)) (s : St) (k : Int) : Nat := 2 * ((wishAt ws k).length - (rfAt s.rf k).toNat) + (if placeAt s.ps k = none then 1 else 0)
def meas (ws : List (List Int)) (s : St) : Nat := ((rg 0 ws.length).map (termOf ws s)).sum
def grantedSt (ws : List (List Int)) (hs : List Hs) : St := runM ws hs (meas ws (start ws.length)) (start ws.length)
def grantedM (ws : List (List Int)) (hs : List Hs) : List (Option Int) := (grantedSt ws hs).ps

/-! ### lengths -/
structure LenOk (n : Nat) (s : St) : Prop where
  ps : s.ps.length = n
  rf : s.rf.length = n
theorem comStep_len {n : Nat} {h : Int} {t : List Int} {s : St} {c : Int} (o : LenOk n s) : LenOk n (comStep h t s c) := by
  unfold comStep
  split
  · exact ⟨by show (s.ps.set _ _).length = n; rw [List.length_set]; exact o.ps, o.rf⟩
  · exact ⟨by show (s.ps.set _ _).length = n; rw [List.length_set]; exact o.ps, by show (s.rf.set _ _).length = n; rw [List.length_set]; exact o.rf⟩
theorem comFold_len {n : Nat} {h : Int} {t : List Int} : ∀ (l : List Int) {s : St}, LenOk n s → LenOk n (l.foldl (comStep h t) s)
  | [], _, o => o
  | _ :: l, _, o => comFold_len l (comStep_len o)
theorem houseStep_len {n : Nat} {hs : List Hs} {asks : List (Int × Int)} {s : St} {h : Int} (o : LenOk n s) : LenOk n (houseStep hs asks s h) := comFold_len _ o
theorem houseFold_len {n : Nat} {hs : List Hs} {asks : List (Int × Int)} : ∀ (l : List Int) {s : St}, LenOk n s → LenOk n (l.foldl (houseStep hs asks) s)
  | [], _, o => o
  | _ :: l, _, o => houseFold_len l (houseStep_len o)
theorem round_len {n : Nat} {ws : List (List Int)} {hs : List Hs} {s : St} (o : LenOk n s) : LenOk n (roundM ws hs s) := houseFold_len _ o
theorem start_len (n : Nat) : LenOk n (start n) := ⟨List.length_replicate, List.length_replicate⟩

/-! ### one step read at a comer -/
theorem getD_set_at {α : Type} {l : List α} {i j : Nat} {a d : α} (h : i < l.length) : (l.set i a).getD j d = if i = j then a else l.getD j d := by
  rw [List.getD_eq_getElem?_getD, List.getD_eq_getElem?_getD, List.getElem?_set]
  by_cases e : i = j
  · rw [if_pos e, if_pos e, if_pos h] <;> rfl
  · rw [if_neg e, if_neg e]
theorem toNat_ne {c k : Int} (h0 : 0 ≤ c) (k0 : 0 ≤ k) (e : c ≠ k) : c.toNat ≠ k.toNat := by omega
/-- a list of comers, each once, walked: those taken go in, the others are refused -/
theorem comFold_at {n : Nat} {h : Int} {t : List Int} : ∀ (l : List Int) {s : St}, LenOk n s → l.Nodup → (∀ c ∈ l, 0 ≤ c ∧ c < n) → ∀ k : Int, 0 ≤ k →
    placeAt (l.foldl (comStep h t) s).ps k = (if k ∈ l then (if k ∈ t then some h else none) else placeAt s.ps k) ∧ rfAt (l.foldl (comStep h t) s).rf k = (if k ∈ l ∧ k ∉ t then rfAt s.rf k + 1 else rfAt s.rf k)
  | [], s, _, _, _, k, _ => by
    refine ⟨?_, ?_⟩
    · rw [if_neg (by simp)] <;> rfl
    · rw [if_neg (by simp)] <;> rfl
  | c :: l, s, o, nd, hr, k, k0 => by
    obtain ⟨n1, n2⟩ := List.nodup_cons.mp nd
    obtain ⟨c0, c1⟩ := hr c List.mem_cons_self
    obtain ⟨a1, a2⟩ := comFold_at (h := h) (t := t) l (comStep_len (h := h) (t := t) (c := c) o) n2 (fun x hx => hr x (List.mem_cons_of_mem _ hx)) k k0
    rw [List.foldl_cons, a1, a2]
    have hp : placeAt (comStep h t s c).ps k = if c = k then (if c ∈ t then some h else none) else placeAt s.ps k := by
      unfold comStep placeAt
      by_cases ct : c ∈ t
      · rw [if_pos ct]
        show (s.ps.set c.toNat (some h)).getD k.toNat none = _
        rw [getD_set_at (by rw [o.ps]; omega), if_pos ct]
        by_cases e : c = k
        · rw [if_pos e, if_pos (by rw [e])]
        · rw [if_neg e, if_neg (toNat_ne c0 k0 e)]
      · rw [if_neg ct]
        show (s.ps.set c.toNat none).getD k.toNat none = _
        rw [getD_set_at (by rw [o.ps]; omega), if_neg ct]
        by_cases e : c = k
        · rw [if_pos e, if_pos (by rw [e])]
        · rw [if_neg e, if_neg (toNat_ne c0 k0 e)]
    have hq : rfAt (comStep h t s c).rf k = if c = k ∧ c ∉ t then rfAt s.rf k + 1 else rfAt s.rf k := by
      unfold comStep
      by_cases ct : c ∈ t
      · rw [if_pos ct, if_neg (fun z => z.2 ct)]
      · rw [if_neg ct]
        show (s.rf.set c.toNat (rfAt s.rf c + 1)).getD k.toNat 0 = _
        rw [getD_set_at (by rw [o.rf]; omega)]
        by_cases e : c = k
        · rw [if_pos (by rw [e]), if_pos ⟨e, ct⟩, e]
        · rw [if_neg (toNat_ne c0 k0 e), if_neg fun z => e z.1] <;> rfl
    rw [hp, hq]
    by_cases e : c = k
    · subst e
      by_cases ct : c ∈ t
      · simp [n1, ct]
      · simp [n1, ct]
    · have e2 : ¬ k = c := fun z => e z.symm
      by_cases kl : k ∈ l
      · by_cases kt : k ∈ t
        · simp [e, e2, kl, kt]
        · simp [e, e2, kl, kt]
      · simp [e, e2, kl]

/-! ### the round -/
/-- the house that a comer is at in this round: held, or asked -/
def curOf (ws : List (List Int)) (s : St) (k : Int) : Option Int := (wishAt ws k)[(rfAt s.rf k).toNat]?
/-- everyone asked their wishes one by one, and each house has chosen out of all that asked it -/
structure Inv (ws : List (List Int)) (hs : List Hs) (n : Nat) (s : St) : Prop where
  len : LenOk n s
  r0 : ∀ k : Int, 0 ≤ k → k < n → 0 ≤ rfAt s.rf k ∧ rfAt s.rf k ≤ (wishAt ws k).length
  at_ : ∀ k : Int, 0 ≤ k → k < n → placeAt s.ps k = none ∨ placeAt s.ps k = curOf ws s k
  chose : ∀ h : Int, 0 ≤ h → h < hs.length → ∀ A : List Int, (∀ k, k ∈ A ↔ (0 ≤ k ∧ k < n) ∧ (h ∈ (wishAt ws k).take (rfAt s.rf k).toNat ∨ placeAt s.ps k = some h)) → ∀ k, k ∈ chosenM (houseAt hs h) A ↔ (0 ≤ k ∧ k < n) ∧ placeAt s.ps k = some h
section
variable {ws : List (List Int)} {hs : List Hs} {n : Nat} {s : St}
theorem mem_asks {p : Int × Int} : p ∈ asksM ws s ↔ ((0 ≤ p.1 ∧ p.1 < ws.length) ∧ askB ws s p.1 = true) ∧ p.2 = askOf ws s p.1 := by
  unfold asksM
  rw [List.mem_map]
  constructor
  · rintro ⟨k, hk, rfl⟩
    rw [List.mem_filter, mem_rg] at hk
    exact ⟨hk, rfl⟩
  · rintro ⟨h1, h2⟩
    exact ⟨p.1, by rw [List.mem_filter, mem_rg]; exact h1, by rw [← h2]⟩
theorem asks_nodup : ((asksM ws s).map (·.1)).Nodup := by
  unfold asksM
  rw [List.map_map]
  show (((rg 0 ws.length).filter (askB ws s)).map fun k => k).Nodup
  rw [List.map_id']
  exact (rg_nodup _ _).filter _
theorem mem_comers {h k : Int} : k ∈ comersOf (asksM ws s) h ↔ ((0 ≤ k ∧ k < ws.length) ∧ askB ws s k = true) ∧ askOf ws s k = h := by
  unfold comersOf
  rw [List.mem_map]
  constructor
  · rintro ⟨p, hp, rfl⟩
    rw [List.mem_filter, decide_eq_true_eq, mem_asks] at hp
    exact ⟨hp.1.1, by rw [← hp.1.2]; exact hp.2⟩
  · rintro ⟨h1, h2⟩
    exact ⟨(k, h), by rw [List.mem_filter, mem_asks]; exact ⟨⟨h1, h2.symm⟩, decide_eq_true rfl⟩, rfl⟩
theorem comers_nodup (h : Int) : (comersOf (asksM ws s) h).Nodup := by
  unfold comersOf
  exact (asks_nodup (ws := ws) (s := s)).sublist (List.filter_sublist.map _)
end
end CH

/-! Choosehall: what a round does; the places given are fair. -/
namespace CH
open PySem L2
def xOf (ws : List (List Int)) (s : St) (n : Nat) (h : Int) : List Int := (rg 0 n).filter fun k => decide (curOf ws s k = some h)
def tk (ws : List (List Int)) (hs : List Hs) (s : St) (n : Nat) (h : Int) : List Int := chosenM (houseAt hs h) (xOf ws s n h)
theorem mem_x {ws : List (List Int)} {s : St} {n : Nat} {h k : Int} : k ∈ xOf ws s n h ↔ (0 ≤ k ∧ k < n) ∧ curOf ws s k = some h := by
  unfold xOf
  rw [List.mem_filter, mem_rg, decide_eq_true_eq]
section
variable {ws : List (List Int)} {hs : List Hs} {n : Nat} {s : St}
theorem cur_wish {k h : Int} (e : curOf ws s k = some h) : h ∈ wishAt ws k := List.mem_of_getElem? e
theorem ask_is {k : Int} (r : 0 ≤ rfAt s.rf k) (e : askB ws s k = true) : placeAt s.ps k = none ∧ curOf ws s k = some (askOf ws s k) := by
  unfold askB at e
  rw [Bool.and_eq_true] at e
  have h1 := of_decide_eq_true e.2
  refine ⟨Option.isNone_iff_eq_none.mp e.1, ?_⟩
  unfold curOf askOf
  rw [List.getD_eq_getElem?_getD, List.getElem?_eq_getElem (by omega)] <;> rfl
theorem is_ask {k h : Int} (r : 0 ≤ rfAt s.rf k) (p : placeAt s.ps k = none) (e : curOf ws s k = some h) : askB ws s k = true ∧ askOf ws s k = h := by
  have hl := (List.getElem?_eq_some_iff.mp e).1
  unfold askB askOf
  refine ⟨?_, ?_⟩
  · rw [p, decide_eq_true (p := rfAt s.rf k < ((wishAt ws k).length : Int)) (by omega)] <;> rfl
  · rw [List.getD_eq_getElem?_getD]
    unfold curOf at e
    rw [e] <;> rfl
theorem round_at (o : WOk ws hs n) (I : Inv ws hs n s) : ∀ j : Nat, j ≤ hs.length → LenOk n (((rg 0 hs.length).take j).foldl (houseStep hs (asksM ws s)) s) ∧ ∀ k : Int, 0 ≤ k → k < n →
    (∀ h : Int, curOf ws s k = some h → h < j → (k ∈ tk ws hs s n h → placeAt (((rg 0 hs.length).take j).foldl (houseStep hs (asksM ws s)) s).ps k = some h ∧ rfAt (((rg 0 hs.length).take j).foldl (houseStep hs (asksM ws s)) s).rf k = rfAt s.rf k) ∧
      (k ∉ tk ws hs s n h → placeAt (((rg 0 hs.length).take j).foldl (houseStep hs (asksM ws s)) s).ps k = none ∧ rfAt (((rg 0 hs.length).take j).foldl (houseStep hs (asksM ws s)) s).rf k = rfAt s.rf k + 1)) ∧
    ((∀ h : Int, curOf ws s k = some h → ¬ h < j) → placeAt (((rg 0 hs.length).take j).foldl (houseStep hs (asksM ws s)) s).ps k = placeAt s.ps k ∧ rfAt (((rg 0 hs.length).take j).foldl (houseStep hs (asksM ws s)) s).rf k = rfAt s.rf k) := by
  intro j
  induction j with
  | zero =>
    intro _
    refine ⟨I.len, fun k k0 k1 => ⟨fun h e hj => ?_, fun _ => ⟨rfl, rfl⟩⟩⟩
    have := ((o.wOk k0 k1).2 h (cur_wish e)).1
    omega
  | succ j ih =>
    intro hj
    obtain ⟨L, ihk⟩ := ih (by omega)
    have hjat : (rg 0 (hs.length : Int))[j]? = some (j : Int) := by
      rw [rg_at (by omega)]
      congr 1
      omega
    rw [take_snoc hjat, List.foldl_append]
    generalize ((rg 0 hs.length).take j).foldl (houseStep hs (asksM ws s)) s = s' at L ihk
    simp only [List.foldl_cons, List.foldl_nil]
    have hheld : ∀ k : Int, k ∈ heldM s'.ps j ↔ (0 ≤ k ∧ k < n) ∧ placeAt s.ps k = some (j : Int) := fun k => by
      rw [mem_held, L.ps]
      constructor
      · rintro ⟨⟨k0, k1⟩, e⟩
        refine ⟨⟨k0, k1⟩, ?_⟩
        obtain ⟨a, b⟩ := ihk k k0 k1
        by_cases z : ∀ h : Int, curOf ws s k = some h → ¬ h < j
        · rw [← (b z).1]
          exact e
        · obtain ⟨h, z⟩ := Classical.not_forall.mp z
          obtain ⟨z1, z2⟩ := Classical.not_imp.mp z
          have z3 := Classical.not_not.mp z2
          by_cases t : k ∈ tk ws hs s n h
          · have := ((a h z1 z3).1 t).1
            rw [e] at this
            have := Option.some.inj this
            omega
          · have := ((a h z1 z3).2 t).1
            rw [e] at this
            cases this
      · rintro ⟨⟨k0, k1⟩, e⟩
        refine ⟨⟨k0, k1⟩, ?_⟩
        obtain ⟨a, b⟩ := ihk k k0 k1
        have hc : curOf ws s k = some (j : Int) := by
          rcases I.at_ k k0 k1 with z | z
          · rw [e] at z
            cases z
          · rw [← z]
            exact e
        rw [(b fun h z w => by rw [hc] at z; have := Option.some.inj z; omega).1]
        exact e
    have hall : ∀ k : Int, k ∈ allHere (asksM ws s) s' j ↔ k ∈ xOf ws s n j := fun k => by
      unfold allHere
      rw [List.mem_append, hheld, mem_comers, mem_x, o.len]
      constructor
      · rintro (⟨h1, e⟩ | ⟨⟨h1, e1⟩, e2⟩)
        · refine ⟨h1, ?_⟩
          rcases I.at_ k h1.1 h1.2 with z | z
          · rw [e] at z
            cases z
          · rw [← z]
            exact e
        · refine ⟨h1, ?_⟩
          rw [(ask_is (I.r0 k h1.1 h1.2).1 e1).2, e2]
      · rintro ⟨h1, e⟩
        rcases I.at_ k h1.1 h1.2 with z | z
        · obtain ⟨y1, y2⟩ := is_ask (I.r0 k h1.1 h1.2).1 z e
          exact Or.inr ⟨⟨h1, y1⟩, y2⟩
        · exact Or.inl ⟨h1, by rw [z]; exact e⟩
    have hnd : (allHere (asksM ws s) s' j).Nodup := by
      unfold allHere
      refine List.nodup_append.mpr ⟨(rg_nodup _ _).filter _, comers_nodup _, fun a ha b hb e => ?_⟩
      subst e
      have h1 := (hheld a).mp ha
      have h2 := mem_comers.mp hb
      have h3 := (ask_is (I.r0 a h1.1.1 h1.1.2).1 h2.1.2).1
      rw [h1.2] at h3
      cases h3
    have hch : chosenM (houseAt hs j) (allHere (asksM ws s) s' j) = tk ws hs s n j := chosen_congr hall
    have hrange : ∀ c ∈ allHere (asksM ws s) s' j, 0 ≤ c ∧ c < n := fun c hc => (mem_x.mp ((hall c).mp hc)).1
    refine ⟨houseStep_len L, fun k k0 k1 => ?_⟩
    have st := comFold_at (h := (j : Int)) (t := tk ws hs s n j) _ L hnd hrange k k0
    have est : houseStep hs (asksM ws s) s' j = (allHere (asksM ws s) s' j).foldl (comStep j (tk ws hs s n j)) s' := by
      unfold houseStep
      rw [hch]
    rw [est]
    obtain ⟨a, b⟩ := ihk k k0 k1
    by_cases hx : k ∈ allHere (asksM ws s) s' j
    · have hc := (mem_x.mp ((hall k).mp hx)).2
      have hb := b fun h z w => by
        rw [hc] at z
        have := Option.some.inj z
        omega
      rw [if_pos hx] at st
      refine ⟨fun h e hj => ?_, fun z => absurd (show (j : Int) < (j + 1 : Nat) by omega) (z j hc)⟩
      rw [hc] at e
      have e' := Option.some.inj e
      subst e'
      refine ⟨fun t => ⟨?_, ?_⟩, fun t => ⟨?_, ?_⟩⟩
      · rw [st.1, if_pos t]
      · rw [st.2, if_neg (fun z => z.2 t), hb.2]
      · rw [st.1, if_neg t]
      · rw [st.2, if_pos ⟨hx, t⟩, hb.2]
    · rw [if_neg hx, if_neg (fun z => hx z.1)] at st
      have hcn : curOf ws s k ≠ some (j : Int) := fun z => hx ((hall k).mpr (mem_x.mpr ⟨⟨k0, k1⟩, z⟩))
      rw [st.1, st.2]
      refine ⟨fun h e hj => a h e ?_, fun z => b fun h e w => z h e (by omega)⟩
      have : h ≠ j := fun w => hcn (by rw [e, w])
      omega
/-- a round: whoever is at a house is taken or refused -/
theorem round_is (o : WOk ws hs n) (I : Inv ws hs n s) : LenOk n (roundM ws hs s) ∧ ∀ k : Int, 0 ≤ k → k < n →
    (∀ h : Int, curOf ws s k = some h → (k ∈ tk ws hs s n h → placeAt (roundM ws hs s).ps k = some h ∧ rfAt (roundM ws hs s).rf k = rfAt s.rf k) ∧ (k ∉ tk ws hs s n h → placeAt (roundM ws hs s).ps k = none ∧ rfAt (roundM ws hs s).rf k = rfAt s.rf k + 1)) ∧
    (curOf ws s k = none → placeAt (roundM ws hs s).ps k = none ∧ rfAt (roundM ws hs s).rf k = rfAt s.rf k) := by
  have h := round_at o I hs.length (Nat.le_refl _)
  have e : (rg 0 (hs.length : Int)).take hs.length = rg 0 (hs.length : Int) := List.take_of_length_le (by rw [rg_len]; omega)
  rw [e] at h
  refine ⟨h.1, fun k k0 k1 => ?_⟩
  obtain ⟨a, b⟩ := h.2 k k0 k1
  refine ⟨fun h e => a h e ((o.wOk k0 k1).2 h (cur_wish e)).2, fun e => ?_⟩
  have := b fun h z => by
    rw [e] at z
    cases z
  refine ⟨this.1.trans ?_, this.2⟩
  rcases I.at_ k k0 k1 with z | z
  · exact z
  · rw [z]
    exact e
theorem round_inv (o : WOk ws hs n) (I : Inv ws hs n s) : Inv ws hs n (roundM ws hs s) := by
  obtain ⟨L, R⟩ := round_is o I
  refine ⟨L, fun k k0 k1 => ?_, fun k k0 k1 => ?_, fun h h0 h1 A hA k => ?_⟩
  · obtain ⟨a, b⟩ := R k k0 k1
    obtain ⟨r0, r1⟩ := I.r0 k k0 k1
    cases e : curOf ws s k with
    | none =>
      rw [(b e).2]
      exact ⟨r0, r1⟩
    | some h =>
      have hl := (List.getElem?_eq_some_iff.mp e).1
      by_cases t : k ∈ tk ws hs s n h
      · rw [((a h e).1 t).2]
        exact ⟨r0, r1⟩
      · rw [((a h e).2 t).2]
        omega
  · obtain ⟨a, b⟩ := R k k0 k1
    cases e : curOf ws s k with
    | none => exact Or.inl (b e).1
    | some h =>
      by_cases t : k ∈ tk ws hs s n h
      · refine Or.inr ?_
        rw [((a h e).1 t).1]
        unfold curOf
        rw [((a h e).1 t).2]
        exact e.symm
      · exact Or.inl ((a h e).2 t).1
  · have ho := o.hOk h0 h1
    -- the old list
    have hA0 : ∀ k, k ∈ ((rg 0 (n : Int)).filter fun k => decide (h ∈ (wishAt ws k).take (rfAt s.rf k).toNat ∨ placeAt s.ps k = some h)) ↔ (0 ≤ k ∧ k < n) ∧ (h ∈ (wishAt ws k).take (rfAt s.rf k).toNat ∨ placeAt s.ps k = some h) := fun k => by
      rw [List.mem_filter, mem_rg, decide_eq_true_eq]
    have C0 := I.chose h h0 h1 _ hA0
    generalize ((rg 0 (n : Int)).filter fun k => decide (h ∈ (wishAt ws k).take (rfAt s.rf k).toNat ∨ placeAt s.ps k = some h)) = A0 at hA0 C0
    have curP : ∀ k : Int, (0 ≤ k ∧ k < n) → placeAt s.ps k = some h → curOf ws s k = some h := fun k hk e => by
      rcases I.at_ k hk.1 hk.2 with z | z
      · rw [e] at z
        cases z
      · rw [← z]
        exact e
    have un : ∀ k, k ∈ A ↔ k ∈ A0 ∨ k ∈ xOf ws s n h := fun k => by
      rw [hA, hA0, mem_x]
      constructor
      · rintro ⟨hk, z⟩
        obtain ⟨a, b⟩ := R k hk.1 hk.2
        obtain ⟨r0, r1⟩ := I.r0 k hk.1 hk.2
        cases e : curOf ws s k with
        | none =>
          rw [(b e).1, (b e).2] at z
          rcases z with z | z
          · exact Or.inl ⟨hk, Or.inl z⟩
          · cases z
        | some g =>
          by_cases t : k ∈ tk ws hs s n g
          · rw [((a g e).1 t).1, ((a g e).1 t).2] at z
            rcases z with z | z
            · exact Or.inl ⟨hk, Or.inl z⟩
            · exact Or.inr ⟨hk, z⟩
          · rw [((a g e).2 t).1, ((a g e).2 t).2] at z
            rcases z with z | z
            · have e2 : (rfAt s.rf k + 1).toNat = (rfAt s.rf k).toNat + 1 := by omega
              rw [e2, take_snoc e, List.mem_append, List.mem_singleton] at z
              rcases z with z | z
              · exact Or.inl ⟨hk, Or.inl z⟩
              · exact Or.inr ⟨hk, by rw [z]⟩
            · cases z
      · rintro (⟨hk, z⟩ | ⟨hk, z⟩)
        · refine ⟨hk, ?_⟩
          obtain ⟨a, b⟩ := R k hk.1 hk.2
          obtain ⟨r0, r1⟩ := I.r0 k hk.1 hk.2
          rcases z with z | z
          · refine Or.inl ?_
            cases e : curOf ws s k with
            | none =>
              rw [(b e).2]
              exact z
            | some g =>
              by_cases t : k ∈ tk ws hs s n g
              · rw [((a g e).1 t).2]
                exact z
              · rw [((a g e).2 t).2]
                have e2 : (rfAt s.rf k + 1).toNat = (rfAt s.rf k).toNat + 1 := by omega
                rw [e2, take_snoc e]
                exact List.mem_append_left _ z
          · have e := curP k hk z
            by_cases t : k ∈ tk ws hs s n h
            · exact Or.inr ((a h e).1 t).1
            · refine Or.inl ?_
              rw [((a h e).2 t).2]
              have e2 : (rfAt s.rf k + 1).toNat = (rfAt s.rf k).toNat + 1 := by omega
              rw [e2, take_snoc e]
              exact List.mem_append_right _ (List.mem_singleton.mpr rfl)
        · refine ⟨hk, ?_⟩
          obtain ⟨a, b⟩ := R k hk.1 hk.2
          obtain ⟨r0, r1⟩ := I.r0 k hk.1 hk.2
          by_cases t : k ∈ tk ws hs s n h
          · exact Or.inr ((a h z).1 t).1
          · refine Or.inl ?_
            rw [((a h z).2 t).2]
            have e2 : (rfAt s.rf k + 1).toNat = (rfAt s.rf k).toNat + 1 := by omega
            rw [e2, take_snoc z]
            exact List.mem_append_right _ (List.mem_singleton.mpr rfl)
    have irc : chosenM (houseAt hs h) (xOf ws s n h) = chosenM (houseAt hs h) A := ch_irc ho (fun k hk => (un k).mpr (Or.inr hk)) fun k hk => by
      rcases (un k).mp (chosen_in ho hk).2.1 with z | z
      · have z2 := (C0 k).mp (ch_subst ho (fun x hx => (un x).mpr (Or.inl hx)) z hk)
        exact mem_x.mpr ⟨z2.1, curP k z2.1 z2.2⟩
      · exact z
    rw [← irc]
    show k ∈ tk ws hs s n h ↔ _
    constructor
    · intro t
      have hx := mem_x.mp (chosen_in ho t).2.1
      exact ⟨hx.1, (((R k hx.1.1 hx.1.2).1 h hx.2).1 t).1⟩
    · rintro ⟨hk, e⟩
      obtain ⟨a, b⟩ := R k hk.1 hk.2
      cases ec : curOf ws s k with
      | none =>
        rw [(b ec).1] at e
        cases e
      | some g =>
        by_cases t : k ∈ tk ws hs s n g
        · rw [((a g ec).1 t).1] at e
          rw [← Option.some.inj e]
          exact t
        · rw [((a g ec).2 t).1] at e
          cases e
end
end CH

/-! Choosehall: the rounds end; the places given are fair. -/
namespace CH
open PySem L2
theorem sum_le {l : List Int} {f g : Int → Nat} (h : ∀ x ∈ l, f x ≤ g x) : (l.map f).sum ≤ (l.map g).sum := by
  induction l with
  | nil => exact Nat.le_refl _
  | cons a r ih =>
    rw [List.map_cons, List.map_cons, List.sum_cons, List.sum_cons]
    have h1 := h a List.mem_cons_self
    have h2 := ih fun x hx => h x (List.mem_cons_of_mem _ hx)
    omega
theorem sum_lt {l : List Int} {f g : Int → Nat} (h : ∀ x ∈ l, f x ≤ g x) {a : Int} (ha : a ∈ l) (hlt : f a < g a) : (l.map f).sum < (l.map g).sum := by
  induction l with
  | nil => cases ha
  | cons b r ih =>
    rw [List.map_cons, List.map_cons, List.sum_cons, List.sum_cons]
    have h1 := h b List.mem_cons_self
    have h3 : ∀ x ∈ r, f x ≤ g x := fun x hx => h x (List.mem_cons_of_mem _ hx)
    rcases List.mem_cons.mp ha with e | e
    · subst e
      have := sum_le h3
      omega
    · have := ih h3 e
      omega
section
variable {ws : List (List Int)} {hs : List Hs} {n : Nat} {s : St}
theorem meas_lt (o : WOk ws hs n) (I : Inv ws hs n s) (ne : asksM ws s ≠ []) : meas ws (roundM ws hs s) < meas ws s := by
  obtain ⟨L, R⟩ := round_is o I
  have hle : ∀ k ∈ rg 0 (ws.length : Int), termOf ws (roundM ws hs s) k ≤ termOf ws s k := fun k hk => by
    obtain ⟨k0, k1⟩ := mem_rg.mp hk
    rw [o.len] at k1
    obtain ⟨a, b⟩ := R k k0 k1
    obtain ⟨r0, r1⟩ := I.r0 k k0 k1
    unfold termOf
    cases e : curOf ws s k with
    | none =>
      rw [(b e).1, (b e).2]
      have : placeAt s.ps k = none := by
        rcases I.at_ k k0 k1 with z | z
        · exact z
        · rw [z]
          exact e
      rw [this]
      exact Nat.le_refl _
    | some h =>
      have hl := (List.getElem?_eq_some_iff.mp e).1
      by_cases t : k ∈ tk ws hs s n h
      · rw [((a h e).1 t).1, ((a h e).1 t).2, if_neg (by simp)]
        omega
      · rw [((a h e).2 t).1, ((a h e).2 t).2, if_pos rfl]
        split <;> omega
  obtain ⟨p, hp⟩ := List.exists_mem_of_ne_nil _ ne
  have hq := mem_asks.mp hp
  have hk := mem_rg.mpr hq.1.1
  refine sum_lt hle hk ?_
  obtain ⟨k0, k1⟩ := hq.1.1
  rw [o.len] at k1
  obtain ⟨a, b⟩ := R p.1 k0 k1
  obtain ⟨r0, r1⟩ := I.r0 p.1 k0 k1
  obtain ⟨q1, q2⟩ := ask_is r0 hq.1.2
  have hl := (List.getElem?_eq_some_iff.mp q2).1
  unfold termOf
  rw [q1, if_pos rfl]
  by_cases t : p.1 ∈ tk ws hs s n (askOf ws s p.1)
  · rw [((a _ q2).1 t).1, ((a _ q2).1 t).2, if_neg (by simp)]
    omega
  · rw [((a _ q2).2 t).1, ((a _ q2).2 t).2, if_pos rfl]
    omega
theorem run_inv (o : WOk ws hs n) : ∀ (f : Nat) (s : St), Inv ws hs n s → meas ws s ≤ f → Inv ws hs n (runM ws hs f s) ∧ asksM ws (runM ws hs f s) = []
  | 0, s, I, h => by
    refine ⟨I, ?_⟩
    by_cases z : asksM ws s = []
    · exact z
    · have := meas_lt o I z
      omega
  | f + 1, s, I, h => by
    unfold runM
    by_cases z : asksM ws s = []
    · rw [if_pos (by rw [z] <;> rfl)]
      exact ⟨I, z⟩
    · rw [if_neg (fun w => z (List.isEmpty_iff.mp w))]
      have := meas_lt o I z
      exact run_inv o f _ (round_inv o I) (by omega)
theorem repl_getD {α : Type} {a : α} {m i : Nat} {d : α} (h : a = d) : (List.replicate m a).getD i d = d := by
  rw [List.getD_eq_getElem?_getD]
  cases e : (List.replicate m a)[i]? with
  | none => rfl
  | some b =>
    have := List.eq_of_mem_replicate (List.mem_of_getElem? e)
    rw [this, h] <;> rfl
theorem start_inv (o : WOk ws hs n) : Inv ws hs n (start n) := by
  have hr : ∀ k : Int, rfAt (start n).rf k = 0 := fun k => repl_getD rfl
  have hp : ∀ k : Int, placeAt (start n).ps k = none := fun k => repl_getD rfl
  refine ⟨start_len n, fun k _ _ => by rw [hr]; exact ⟨Int.le_refl _, by omega⟩, fun k _ _ => Or.inl (hp k), fun h h0 h1 A hA k => ?_⟩
  have ho := o.hOk h0 h1
  constructor
  · intro z
    have := ((hA k).mp (chosen_in ho z).2.1).2
    rw [hr, hp] at this
    rcases this with w | w
    · cases w
    · cases w
  · rintro ⟨_, z⟩
    rw [hp] at z
    cases z
/-- what is known of the rounds' end -/
theorem granted_inv (o : WOk ws hs n) : Inv ws hs n (grantedSt ws hs) ∧ asksM ws (grantedSt ws hs) = [] := by
  unfold grantedSt
  rw [o.len]
  exact run_inv o _ _ (start_inv o) (Nat.le_refl _)
theorem granted_len (o : WOk ws hs n) : (grantedM ws hs).length = n := (granted_inv o).1.len.ps
/-- each comer is at its place, all ahead of it have refused; or all have refused -/
theorem ended (o : WOk ws hs n) (I : Inv ws hs n s) (e : asksM ws s = []) {k : Int} (k0 : 0 ≤ k) (k1 : k < n) : placeAt s.ps k = curOf ws s k := by
  rcases I.at_ k k0 k1 with z | z
  · cases c : curOf ws s k with
    | none => exact z
    | some h =>
      obtain ⟨y1, y2⟩ := is_ask (I.r0 k k0 k1).1 z c
      have : (k, h) ∈ asksM ws s := mem_asks.mpr ⟨⟨⟨k0, by rw [o.len]; exact k1⟩, y1⟩, y2.symm⟩
      rw [e] at this
      cases this
  · exact z
/-- the houses ahead of the place are those that refused -/
theorem ahead_take {k : Int} (I : Inv ws hs n s) (o : WOk ws hs n) (k0 : 0 ≤ k) (k1 : k < n) (e : placeAt s.ps k = curOf ws s k) : ratherM ws s.ps k = (wishAt ws k).take (rfAt s.rf k).toNat := by
  obtain ⟨r0, r1⟩ := I.r0 k k0 k1
  unfold ratherM
  have nd := (o.wOk k0 k1).1
  cases c : curOf ws s k with
  | none =>
    rw [e, c]
    have hl : (wishAt ws k).length ≤ (rfAt s.rf k).toNat := List.getElem?_eq_none_iff.mp c
    rw [List.take_of_length_le hl]
    exact aheadM_all fun h _ z => by cases z
  | some h =>
    rw [e, c]
    refine aheadM_take c fun m hm z => ?_
    obtain ⟨hl, e1⟩ := List.getElem?_eq_some_iff.mp c
    obtain ⟨hl2, e2⟩ := List.getElem?_eq_some_iff.mp z
    exact List.pairwise_iff_getElem.mp nd m (rfAt s.rf k).toNat hl2 hl hm (e2.trans e1.symm)
theorem placeAt_len {ps : List (Option Int)} {k h : Int} (k0 : 0 ≤ k) (e : placeAt ps k = some h) : k < ps.length := by
  by_cases z : k < ps.length
  · exact z
  · unfold placeAt at e
    rw [List.getD_eq_getElem?_getD, List.getElem?_eq_none (by omega)] at e
    cases e
/-- fair, told of comers and houses -/
theorem fair_iff (o : WOk ws hs n) {ps : List (Option Int)} (hl : ps.length = n) : fairM ws hs ps = true ↔
    (∀ k : Int, 0 ≤ k → k < n → ∀ h, placeAt ps k = some h → h ∈ wishAt ws k) ∧ (∀ h : Int, 0 ≤ h → h < hs.length → chosenM (houseAt hs h) (heldM ps h) = heldM ps h) ∧
    (∀ k h : Int, 0 ≤ k → k < n → h ∈ ratherM ws ps k → k ∉ chosenM (houseAt hs h) (heldM ps h ++ [k])) := by
  unfold fairM
  rw [Bool.and_eq_true, Bool.and_eq_true, decide_eq_true_eq, Bool.not_eq_true', Bool.not_eq_true', List.any_eq_false, List.any_eq_false]
  constructor
  · rintro ⟨a, b, c⟩
    refine ⟨fun k k0 k1 h e => ?_, fun h h0 h1 => ?_, fun k h k0 k1 hh z => ?_⟩
    · have := a k (mem_rg.mpr ⟨k0, by rw [hl]; exact k1⟩)
      unfold badPlace at this
      rw [e] at this
      by_cases w : h ∈ wishAt ws k
      · exact w
      · refine absurd ?_ this
        rw [Bool.and_eq_true]
        refine ⟨rfl, ?_⟩
        rw [Bool.not_eq_true', List.any_eq_false]
        intro x hx z
        have := of_decide_eq_true z
        exact w (by rw [← Option.some.inj this]; exact hx)
    · have := b h (mem_rg.mpr ⟨h0, h1⟩)
      unfold badHouse at this
      by_cases w : chosenM (houseAt hs h) (heldM ps h) = heldM ps h
      · exact w
      · exact absurd (by rw [decide_eq_false w] <;> rfl) this
    · have : (k, h) ∈ pairsM ws hs ps := by
        unfold pairsM
        refine List.mem_flatMap.mpr ⟨k, mem_rg.mpr ⟨k0, by rw [hl]; exact k1⟩, ?_⟩
        unfold pairsOf
        exact List.mem_map.mpr ⟨h, List.mem_filter.mpr ⟨hh, decide_eq_true z⟩, rfl⟩
      rw [c] at this
      cases this
  · rintro ⟨a, b, c⟩
    refine ⟨fun k hk z => ?_, fun h hh z => ?_, ?_⟩
    · obtain ⟨k0, k1⟩ := mem_rg.mp hk
      rw [hl] at k1
      unfold badPlace at z
      rw [Bool.and_eq_true, Bool.not_eq_true', Bool.not_eq_true'] at z
      cases e : placeAt ps k with
      | none =>
        rw [e] at z
        cases z.1
      | some h =>
        have h1 := a k k0 k1 h e
        have h2 := List.any_eq_false.mp z.2 h h1
        rw [e] at h2
        exact h2 (decide_eq_true rfl)
    · obtain ⟨h0, h1⟩ := mem_rg.mp hh
      unfold badHouse at z
      rw [decide_eq_true (b h h0 h1)] at z
      cases z
    · refine List.eq_nil_iff_forall_not_mem.mpr fun p hp => ?_
      unfold pairsM at hp
      obtain ⟨k, hk, hp⟩ := List.mem_flatMap.mp hp
      obtain ⟨k0, k1⟩ := mem_rg.mp hk
      unfold pairsOf at hp
      obtain ⟨h, hh, rfl⟩ := List.mem_map.mp hp
      obtain ⟨h1, h2⟩ := List.mem_filter.mp hh
      exact c k h k0 (by rw [← hl]; exact k1) h1 (of_decide_eq_true h2)
theorem held_sorted (ps : List (Option Int)) (h : Int) : (heldM ps h).Pairwise (fun a b => leB a b = true) := by
  unfold heldM
  refine List.Pairwise.filter _ ?_
  unfold rg
  rw [List.pairwise_map]
  refine List.pairwise_lt_range.imp fun {a b} hab => decide_eq_true (by omega)
theorem held_nodup (ps : List (Option Int)) (h : Int) : (heldM ps h).Nodup := (rg_nodup _ _).filter _
/-- what the houses hold at the rounds' end is chosen out of all that asked -/
theorem end_fair (o : WOk ws hs n) (I : Inv ws hs n s) (e : asksM ws s = []) : fairM ws hs s.ps = true := by
  have hl := I.len.ps
  refine (fair_iff o hl).mpr ⟨fun k k0 k1 h z => ?_, fun h h0 h1 => ?_, fun k h k0 k1 hh z => ?_⟩
  · rw [ended o I e k0 k1] at z
    exact cur_wish z
  · have ho := o.hOk h0 h1
    have hA : ∀ k, k ∈ ((rg 0 (n : Int)).filter fun k => decide (h ∈ (wishAt ws k).take (rfAt s.rf k).toNat ∨ placeAt s.ps k = some h)) ↔ (0 ≤ k ∧ k < n) ∧ (h ∈ (wishAt ws k).take (rfAt s.rf k).toNat ∨ placeAt s.ps k = some h) := fun k => by
      rw [List.mem_filter, mem_rg, decide_eq_true_eq]
    have C := I.chose h h0 h1 _ hA
    generalize ((rg 0 (n : Int)).filter fun k => decide (h ∈ (wishAt ws k).take (rfAt s.rf k).toNat ∨ placeAt s.ps k = some h)) = A at hA C
    have e1 : chosenM (houseAt hs h) (heldM s.ps h) = chosenM (houseAt hs h) A := ch_irc ho (fun k hk => by
      have := mem_held.mp hk
      rw [hl] at this
      exact (hA k).mpr ⟨this.1, Or.inr this.2⟩) fun k hk => mem_held.mpr (by rw [hl]; exact (C k).mp hk)
    rw [e1]
    exact chosen_ext ho (held_sorted _ _) (held_nodup _ _) fun k => by rw [C k, mem_held, hl]
  · have hw := aheadM_mem hh
    obtain ⟨h0, h1⟩ := (o.wOk k0 k1).2 h hw.1
    have ho := o.hOk h0 h1
    rw [ahead_take I o k0 k1 (ended o I e k0 k1)] at hh
    have hA : ∀ k, k ∈ ((rg 0 (n : Int)).filter fun k => decide (h ∈ (wishAt ws k).take (rfAt s.rf k).toNat ∨ placeAt s.ps k = some h)) ↔ (0 ≤ k ∧ k < n) ∧ (h ∈ (wishAt ws k).take (rfAt s.rf k).toNat ∨ placeAt s.ps k = some h) := fun k => by
      rw [List.mem_filter, mem_rg, decide_eq_true_eq]
    have C := I.chose h h0 h1 _ hA
    generalize ((rg 0 (n : Int)).filter fun k => decide (h ∈ (wishAt ws k).take (rfAt s.rf k).toNat ∨ placeAt s.ps k = some h)) = A at hA C
    have e1 : chosenM (houseAt hs h) (heldM s.ps h ++ [k]) = chosenM (houseAt hs h) A := ch_irc ho (fun x hx => by
      rcases List.mem_append.mp hx with w | w
      · have := mem_held.mp w
        rw [hl] at this
        exact (hA x).mpr ⟨this.1, Or.inr this.2⟩
      · rw [List.mem_singleton.mp w]
        exact (hA k).mpr ⟨⟨k0, k1⟩, Or.inl hh⟩) fun x hx => List.mem_append_left _ (mem_held.mpr (by rw [hl]; exact (C x).mp hx))
    rw [e1] at z
    exact hw.2 ((C k).mp z).2.symm
theorem granted_fair (o : WOk ws hs n) : fairM ws hs (grantedM ws hs) = true := by
  obtain ⟨I, e⟩ := granted_inv o
  exact end_fair o I e
end
end CH

/-! Choosehall: the places given are the best fair ones; the same comers have places, each house holds as many. -/
namespace CH
open PySem L2
section
variable {ws : List (List Int)} {hs : List Hs} {n : Nat} {s : St} {mu : List (Option Int)}
/-- what fair says, in parts -/
structure FairOk (ws : List (List Int)) (hs : List Hs) (n : Nat) (mu : List (Option Int)) : Prop where
  len : mu.length = n
  wish : ∀ k : Int, 0 ≤ k → k < n → ∀ h, placeAt mu k = some h → h ∈ wishAt ws k
  hold : ∀ h : Int, 0 ≤ h → h < hs.length → chosenM (houseAt hs h) (heldM mu h) = heldM mu h
  no : ∀ k h : Int, 0 ≤ k → k < n → h ∈ ratherM ws mu k → k ∉ chosenM (houseAt hs h) (heldM mu h ++ [k])
theorem fair_ok (o : WOk ws hs n) (hl : mu.length = n) (h : fairM ws hs mu = true) : FairOk ws hs n mu := by
  obtain ⟨a, b, c⟩ := (fair_iff o hl).mp h
  exact ⟨hl, a, b, c⟩
/-- no one is refused by the house that mu gives it -/
def NoRej (ws : List (List Int)) (n : Nat) (s : St) (mu : List (Option Int)) : Prop := ∀ k h : Int, 0 ≤ k → k < n → placeAt mu k = some h → h ∉ (wishAt ws k).take (rfAt s.rf k).toNat
theorem ahead_of : ∀ {r : List Int} {p : Option Int} {i : Nat} {h : Int}, r[i]? = some h → (∀ x ∈ r.take (i + 1), some x ≠ p) → h ∈ aheadM r p
  | [], _, _, _, e, _ => by cases e
  | a :: r, p, 0, h, e, hn => by
    have e' : a = h := Option.some.inj e
    unfold aheadM
    rw [if_neg (hn a (by simp)), e']
    exact List.mem_cons_self
  | a :: r, p, i + 1, h, e, hn => by
    unfold aheadM
    rw [if_neg (hn a (by simp))]
    exact List.mem_cons_of_mem _ (ahead_of (r := r) (i := i) e fun x hx => hn x (by rw [List.take_succ_cons]; exact List.mem_cons_of_mem _ hx))
/-- whoever is among those that would rather, or held, is not chosen beside what mu holds -/
theorem key (o : WOk ws hs n) (f : FairOk ws hs n mu) {h : Int} (h0 : 0 ≤ h) (h1 : h < hs.length) {X : List Int} (hX : ∀ k ∈ X, (0 ≤ k ∧ k < n) ∧ (placeAt mu k = some h ∨ h ∈ ratherM ws mu k)) : chosenM (houseAt hs h) (X ++ heldM mu h) = heldM mu h := by
  have ho := o.hOk h0 h1
  have sub : ∀ k ∈ chosenM (houseAt hs h) (X ++ heldM mu h), k ∈ heldM mu h := fun k hk => by
    rcases List.mem_append.mp (chosen_in ho hk).2.1 with z | z
    · obtain ⟨h2, h3⟩ := hX k z
      rcases h3 with e | e
      · exact mem_held.mpr ⟨by rw [f.len]; exact h2, e⟩
      · refine absurd (ch_subst ho (S := heldM mu h ++ [k]) (T := X ++ heldM mu h) (fun x hx => ?_) (List.mem_append_right _ (List.mem_singleton.mpr rfl)) hk) (f.no k h h2.1 h2.2 e)
        rcases List.mem_append.mp hx with y | y
        · exact List.mem_append_right _ y
        · rw [List.mem_singleton.mp y]
          exact List.mem_append_left _ z
    · exact z
  rw [← ch_irc ho (S := heldM mu h) (T := X ++ heldM mu h) (fun k hk => List.mem_append_right _ hk) sub]
  exact f.hold h h0 h1
theorem at_rather {k h : Int} (nr : NoRej ws n s mu) (k0 : 0 ≤ k) (k1 : k < n) (e : curOf ws s k = some h) : placeAt mu k = some h ∨ h ∈ ratherM ws mu k := by
  by_cases z : placeAt mu k = some h
  · exact Or.inl z
  · refine Or.inr (ahead_of e fun x hx w => ?_)
    rw [take_snoc e, List.mem_append, List.mem_singleton] at hx
    rcases hx with y | y
    · exact nr k x k0 k1 w.symm y
    · exact z (by rw [← w, y])
theorem round_norej (o : WOk ws hs n) (f : FairOk ws hs n mu) (I : Inv ws hs n s) (nr : NoRej ws n s mu) : NoRej ws n (roundM ws hs s) mu := by
  obtain ⟨L, R⟩ := round_is o I
  intro k h k0 k1 e hin
  obtain ⟨a, b⟩ := R k k0 k1
  obtain ⟨r0, r1⟩ := I.r0 k k0 k1
  cases ec : curOf ws s k with
  | none =>
    rw [(b ec).2] at hin
    exact nr k h k0 k1 e hin
  | some g =>
    by_cases t : k ∈ tk ws hs s n g
    · rw [((a g ec).1 t).2] at hin
      exact nr k h k0 k1 e hin
    · rw [((a g ec).2 t).2] at hin
      have e2 : (rfAt s.rf k + 1).toNat = (rfAt s.rf k).toNat + 1 := by omega
      rw [e2, take_snoc ec, List.mem_append, List.mem_singleton] at hin
      rcases hin with z | z
      · exact nr k h k0 k1 e z
      · subst z
        obtain ⟨h0, h1⟩ := (o.wOk k0 k1).2 h (cur_wish ec)
        have ho := o.hOk h0 h1
        have kk := key o f h0 h1 (X := xOf ws s n h) fun x hx => by
          obtain ⟨y1, y2⟩ := mem_x.mp hx
          exact ⟨y1, at_rather nr y1.1 y1.2 y2⟩
        have hm : k ∈ chosenM (houseAt hs h) (xOf ws s n h ++ heldM mu h) := by
          rw [kk]
          exact mem_held.mpr ⟨⟨k0, by rw [f.len]; exact k1⟩, e⟩
        exact t (ch_subst ho (fun x hx => List.mem_append_left _ hx) (mem_x.mpr ⟨⟨k0, k1⟩, ec⟩) hm)
theorem run_norej (o : WOk ws hs n) (f : FairOk ws hs n mu) : ∀ (m : Nat) (s : St), Inv ws hs n s → NoRej ws n s mu → NoRej ws n (runM ws hs m s) mu
  | 0, _, _, h => h
  | m + 1, s, I, h => by
    unfold runM
    split
    · exact h
    · exact run_norej o f m _ (round_inv o I) (round_norej o f I h)
theorem granted_norej (o : WOk ws hs n) (f : FairOk ws hs n mu) : NoRej ws n (grantedSt ws hs) mu := by
  unfold grantedSt
  rw [o.len]
  refine run_norej o f _ _ (start_inv o) fun k h _ _ _ z => ?_
  have hr : rfAt (start n).rf k = 0 := repl_getD rfl
  rw [hr] at z
  cases z
/-- no fair place is better than the place given -/
theorem best_no_better (o : WOk ws hs n) (f : FairOk ws hs n mu) {k h : Int} (k0 : 0 ≤ k) (k1 : k < n) (e : placeAt mu k = some h) : h ∉ ratherM ws (grantedM ws hs) k := by
  obtain ⟨I, ea⟩ := granted_inv o
  rw [show grantedM ws hs = (grantedSt ws hs).ps from rfl, ahead_take I o k0 k1 (ended o I ea k0 k1)]
  exact granted_norej o f k h k0 k1 e
/-- whoever has a fair place is given one -/
theorem best_has (o : WOk ws hs n) (f : FairOk ws hs n mu) {k h : Int} (k0 : 0 ≤ k) (k1 : k < n) (e : placeAt mu k = some h) : placeAt (grantedM ws hs) k ≠ none := by
  obtain ⟨I, ea⟩ := granted_inv o
  intro z
  have z2 : curOf ws (grantedSt ws hs) k = none := by
    rw [← ended o I ea k0 k1]
    exact z
  have hl : (wishAt ws k).length ≤ (rfAt (grantedSt ws hs).rf k).toNat := List.getElem?_eq_none_iff.mp z2
  refine granted_norej o f k h k0 k1 e ?_
  rw [List.take_of_length_le hl]
  exact f.wish k k0 k1 h e
/-- no house holds more by the places given -/
theorem best_fewer (o : WOk ws hs n) (f : FairOk ws hs n mu) {h : Int} (h0 : 0 ≤ h) (h1 : h < hs.length) : (heldM (grantedM ws hs) h).length ≤ (heldM mu h).length := by
  obtain ⟨I, ea⟩ := granted_inv o
  have nr := granted_norej o f
  have ho := o.hOk h0 h1
  show (heldM (grantedSt ws hs).ps h).length ≤ _
  generalize grantedSt ws hs = s at I ea nr
  have hA : ∀ k, k ∈ ((rg 0 (n : Int)).filter fun k => decide (h ∈ (wishAt ws k).take (rfAt s.rf k).toNat ∨ placeAt s.ps k = some h)) ↔ (0 ≤ k ∧ k < n) ∧ (h ∈ (wishAt ws k).take (rfAt s.rf k).toNat ∨ placeAt s.ps k = some h) := fun k => by
    rw [List.mem_filter, mem_rg, decide_eq_true_eq]
  have C := I.chose h h0 h1 _ hA
  generalize ((rg 0 (n : Int)).filter fun k => decide (h ∈ (wishAt ws k).take (rfAt s.rf k).toNat ∨ placeAt s.ps k = some h)) = A at hA C
  have kk := key o f h0 h1 (X := A) fun k hk => by
    obtain ⟨y1, y2⟩ := (hA k).mp hk
    refine ⟨y1, ?_⟩
    rcases y2 with z | z
    · obtain ⟨i, hi, e⟩ := List.getElem_of_mem z
      rw [List.length_take] at hi
      rw [List.getElem_take] at e
      have e1 : (wishAt ws k)[i]? = some h := by
        rw [← e]
        exact List.getElem?_eq_getElem (by omega)
      refine Or.inr (ahead_of e1 fun x hx w => nr k x y1.1 y1.2 w.symm ?_)
      have : (wishAt ws k).take (i + 1) = ((wishAt ws k).take (rfAt s.rf k).toNat).take (i + 1) := by rw [List.take_take, Nat.min_eq_left (by omega)]
      rw [this] at hx
      exact List.mem_of_mem_take hx
    · refine at_rather nr y1.1 y1.2 ?_
      rw [← ended o I ea y1.1 y1.2]
      exact z
  have e1 : (heldM s.ps h).length = (chosenM (houseAt hs h) A).length := ((List.perm_ext_iff_of_nodup (held_nodup _ _) (chosen_nodup ho _)).mpr fun k => by rw [C k, mem_held, I.len.ps]).length_eq
  have e2 : (heldM mu h).length = (chosenM (houseAt hs h) (A ++ heldM mu h)).length := by rw [kk]
  rw [e1, e2]
  exact ch_lad ho fun k hk => List.mem_append_left _ hk

/-! ### counting -/
theorem sum_add (f g : Int → Nat) : ∀ l : List Int, (l.map fun h => f h + g h).sum = (l.map f).sum + (l.map g).sum
  | [] => rfl
  | a :: l => by
    rw [List.map_cons, List.map_cons, List.map_cons, List.sum_cons, List.sum_cons, List.sum_cons, sum_add f g l]
    omega
theorem sum_one (x : Int) : ∀ l : List Int, l.Nodup → (l.map fun h => if x = h then 1 else 0).sum = if x ∈ l then 1 else 0
  | [], _ => by simp
  | a :: l, nd => by
    obtain ⟨n1, n2⟩ := List.nodup_cons.mp nd
    rw [List.map_cons, List.sum_cons, sum_one x l n2]
    by_cases e : x = a
    · subst e
      simp [n1]
    · simp [e]
theorem sum_zero (l : List Int) : (l.map fun _ => 0).sum = 0 := by
  induction l with
  | nil => rfl
  | cons a r ih =>
    rw [List.map_cons, List.sum_cons, ih]
/-- those placed, counted by houses -/
theorem count_by (p : Int → Option Int) (H : List Int) (nd : H.Nodup) : ∀ l : List Int, (∀ k ∈ l, ∀ h, p k = some h → h ∈ H) → (H.map fun h => (l.filter fun k => decide (p k = some h)).length).sum = (l.filter fun k => (p k).isSome).length
  | [], _ => by
    show (H.map fun _ => 0).sum = 0
    exact sum_zero H
  | k :: l, hp => by
    have ih := count_by p H nd l fun x hx => hp x (List.mem_cons_of_mem _ hx)
    have e : (fun h => ((k :: l).filter fun k => decide (p k = some h)).length) = fun h => (if p k = some h then 1 else 0) + (l.filter fun k => decide (p k = some h)).length := by
      funext h
      by_cases z : p k = some h
      · rw [List.filter_cons, decide_eq_true z, if_pos rfl, if_pos z, List.length_cons]
        omega
      · rw [List.filter_cons, decide_eq_false z, if_neg (by decide), if_neg z]
        omega
    rw [e, sum_add, ih]
    cases c : p k with
    | none =>
      rw [List.filter_cons, c]
      have : (H.map fun h => if (none : Option Int) = some h then 1 else 0).sum = 0 := by
        have e2 : (fun h : Int => if (none : Option Int) = some h then 1 else 0) = fun _ => 0 := by
          funext h
          exact if_neg (by simp)
        rw [e2]
        exact sum_zero H
      rw [this]
      simp
    | some x =>
      rw [List.filter_cons, c]
      have : (H.map fun h => if some x = some h then 1 else 0).sum = 1 := by
        have e2 : (fun h : Int => if some x = some h then 1 else 0) = fun h => if x = h then 1 else 0 := by
          funext h
          by_cases z : x = h
          · rw [if_pos z, if_pos (by rw [z])]
          · rw [if_neg z, if_neg fun w => z (Option.some.inj w)]
        rw [e2, sum_one x H nd, if_pos (hp k List.mem_cons_self x c)]
      rw [this]
      simp
      omega
theorem sum_eq_all {f g : Int → Nat} : ∀ {l : List Int}, (∀ x ∈ l, f x ≤ g x) → (l.map g).sum ≤ (l.map f).sum → ∀ x ∈ l, f x = g x
  | [], _, _, x, hx => by cases hx
  | a :: l, h, hs, x, hx => by
    rw [List.map_cons, List.map_cons, List.sum_cons, List.sum_cons] at hs
    have h1 := h a List.mem_cons_self
    have h2 := sum_le (l := l) fun x hx => h x (List.mem_cons_of_mem _ hx)
    rcases List.mem_cons.mp hx with e | e
    · rw [e]
      omega
    · exact sum_eq_all (l := l) (fun x hx => h x (List.mem_cons_of_mem _ hx)) (by omega) x e
theorem placed_count (o : WOk ws hs n) (hl : mu.length = n) (hw : ∀ k : Int, 0 ≤ k → k < n → ∀ h, placeAt mu k = some h → h ∈ wishAt ws k) : ((rg 0 (hs.length : Int)).map fun h => (heldM mu h).length).sum = ((rg 0 (n : Int)).filter fun k => (placeAt mu k).isSome).length := by
  have := count_by (placeAt mu) (rg 0 (hs.length : Int)) (rg_nodup _ _) (rg 0 (n : Int)) fun k hk h e => by
    obtain ⟨k0, k1⟩ := mem_rg.mp hk
    exact mem_rg.mpr ((o.wOk k0 k1).2 h (hw k k0 k1 h e))
  rw [← this]
  unfold heldM
  rw [hl]
/-- the same comers have places, each house holds as many -/
theorem rural (o : WOk ws hs n) (f : FairOk ws hs n mu) : (∀ h : Int, 0 ≤ h → h < hs.length → (heldM (grantedM ws hs) h).length = (heldM mu h).length) ∧ (∀ k : Int, 0 ≤ k → k < n → (placeAt mu k = none ↔ placeAt (grantedM ws hs) k = none)) := by
  have gl := granted_len o
  have gf := fair_ok o gl (granted_fair o)
  have c1 := placed_count o gl gf.wish
  have c2 := placed_count o f.len f.wish
  have sub : ∀ k ∈ ((rg 0 (n : Int)).filter fun k => (placeAt mu k).isSome), k ∈ ((rg 0 (n : Int)).filter fun k => (placeAt (grantedM ws hs) k).isSome) := fun k hk => by
    rw [List.mem_filter] at hk ⊢
    obtain ⟨k0, k1⟩ := mem_rg.mp hk.1
    obtain ⟨h, e⟩ := Option.isSome_iff_exists.mp hk.2
    exact ⟨hk.1, Option.isSome_iff_ne_none.mpr (best_has o f k0 k1 e)⟩
  have nd1 : ((rg 0 (n : Int)).filter fun k => (placeAt mu k).isSome).Nodup := (rg_nodup _ _).filter _
  have nd2 : ((rg 0 (n : Int)).filter fun k => (placeAt (grantedM ws hs) k).isSome).Nodup := (rg_nodup _ _).filter _
  have le1 := sub_len nd1 sub
  have each : ∀ h ∈ rg 0 (hs.length : Int), (heldM (grantedM ws hs) h).length ≤ (heldM mu h).length := fun h hh => by
    obtain ⟨h0, h1⟩ := mem_rg.mp hh
    exact best_fewer o f h0 h1
  have le2 := sum_le each
  have eqs := sum_eq_all each (by omega)
  refine ⟨fun h h0 h1 => eqs h (mem_rg.mpr ⟨h0, h1⟩), fun k k0 k1 => ⟨fun z => ?_, fun z => ?_⟩⟩
  · have back := sub_eq nd1 nd2 sub (by omega) k
    cases c : placeAt (grantedM ws hs) k with
    | none => rfl
    | some h =>
      have := back (List.mem_filter.mpr ⟨mem_rg.mpr ⟨k0, k1⟩, by rw [c] <;> rfl⟩)
      have := (List.mem_filter.mp this).2
      rw [z] at this
      cases this
  · cases c : placeAt mu k with
    | none => rfl
    | some h => exact absurd z (best_has o f k0 k1 c)
end
end CH

/-! Choosehall: who asks in a round. -/
namespace CH
open PySem L2
def asksV (l : List (Int × Int)) : List (Int × V) := l.map fun p => (p.1, V.int p.2)
section
variable {P : Program} {w : World} {g : Gb} {mg : Str → Option Value} {base : Heap} {f : Addr} {fd : FuncData}
def RAsk : List D → Sl → Prop := fun ds r => ∃ (ws : List (List Int)) (s : St), ds = [intssD ws, oisD s.ps, intsD s.rf] ∧ LenOk ws.length s ∧ ws.length ≤ 100 ∧ (∀ k : Int, 0 ≤ k → k < ws.length → 0 ≤ rfAt s.rf k) ∧ r = .dc (asksV (asksM ws s))
theorem at_rf {rf : List Int} {k : Int} (h0 : 0 ≤ k) (h1 : k < rf.length) : (intsD rf).at_ k = some (.int (rfAt rf k)) := at_map h0 (getD_at h0 h1)
theorem c_ask (F : FnP g.K "asked" "asked" s_asked f fd) (hm : mg "asked" = some (.ref f)) (fr : Free mg) : Cal P w g mg base "asked" 1 RAsk := by
  refine cal_by (N := ["wishes", "places", "refused", "asks", "comer"]) (ps := ["wishes", "places", "refused"]) F ⟨rfl, rfl, rfl, by decide +kernel, rfl, by decide +kernel, by decide +kernel⟩ hm (fun _ _ _ _ _ _ us hl => match us, hl with | [_, _, _], _ => rfl) ?_ ?_
  · rintro ds r ⟨ws, s, rfl, _⟩
    rfl
  · rintro ds r cdv A outer s0 H E ⟨ws, s, rfl, L, hw, hr0, rfl⟩ hr
    have hu : A.units + 3 + 64 < cLine := hr.units
    have lp := L.ps
    have lr := L.rf
    refine ss_cons (s_asg 3 ev_dnew (ss_cons (s_for 4 (items := (rg 0 ws.length).map D.int) (ei_range fr (ev_len rfl fr (ev_var 0) (len_intss ws)) ⟨by omega, by omega⟩) (fun i G => ∃ z : Sl, G = [.v (intssD ws), .v (oisD s.ps), .v (intsD s.rf), .dc (asksV ((((rg 0 ws.length).take i).filter (askB ws s)).map fun k => (k, askOf ws s k))), z]) ⟨_, by rw [List.take_zero] <;> rfl⟩ (fun i d G hd hI => ?_) (fun G hI => ?_))))
    · obtain ⟨z, rfl⟩ := hI
      rw [List.getElem?_map] at hd
      obtain ⟨k, hk, rfl⟩ := Option.map_eq_some_iff.mp hd
      obtain ⟨k0, k1⟩ := mem_rg.mp (List.mem_of_getElem? hk)
      have r0 := hr0 k k0 k1
      refine ss_one (s_if (b := askB ws s k) (EvT.is (et_and (et_cmp (ev_ix rfl (ev_var 1) (ev_var 4) (at_place k0 (by omega))) ev_non cmp_is) (fun _ => et_cmp (ev_ix rfl (ev_var 2) (ev_var 4) (at_rf k0 (by omega))) (ev_len rfl fr (ev_ix rfl (ev_var 0) (ev_var 4) (at_wish k0 k1)) (len_ints _)) cmp_lt)) (by rw [isN_oi] <;> rfl)) (fun hb => ?_) (fun hb => ss_nil ⟨.v (.int k), ?_⟩))
      · have hlt : rfAt s.rf k < (wishAt ws k).length := by
          unfold askB at hb
          rw [Bool.and_eq_true] at hb
          exact of_decide_eq_true hb.2
        have nk : k ∉ (rg 0 (ws.length : Int)).take i := fun z => by
          have h1 : (rg 0 (ws.length : Int))[i]? = some k := hk
          obtain ⟨m, hm, e⟩ := List.getElem_of_mem z
          rw [List.length_take] at hm
          rw [List.getElem_take] at e
          obtain ⟨hi, e2⟩ := List.getElem?_eq_some_iff.mp h1
          exact List.pairwise_iff_getElem.mp (rg_nodup 0 (ws.length : Int)) m i (by omega) hi (by omega) (e.trans e2.symm)
        refine ss_one (s_dput 3 (kvs := asksV ((((rg 0 ws.length).take i).filter (askB ws s)).map fun k => (k, askOf ws s k))) (w := V.int (askOf ws s k)) (by show A.units + 3 + 1 < cLine; omega) (ev_ix rfl (ev_ix rfl (ev_var 0) (ev_var 4) (at_wish k0 k1)) (ev_ix rfl (ev_var 2) (ev_var 4) (at_rf k0 (by omega))) (at_map (enc := D.int) r0 (getD_at r0 hlt))) rfl (ev_var 4) (fun p hp e => ?_) ?_ ⟨.v (.int k), ?_⟩)
        · unfold asksV at hp
          obtain ⟨q, hq, rfl⟩ := List.mem_map.mp hp
          obtain ⟨x, hx, rfl⟩ := List.mem_map.mp hq
          exact nk (by rw [← e]; exact (List.mem_filter.mp hx).1)
        · unfold asksV
          rw [List.length_map, List.length_map]
          have h1 := List.length_filter_le (askB ws s) ((rg 0 (ws.length : Int)).take i)
          have h2 : ((rg 0 (ws.length : Int)).take i).length ≤ (rg 0 (ws.length : Int)).length := by rw [List.length_take]; omega
          rw [rg_len] at h2
          omega
        · rw [filt_snoc hk, if_pos hb]
          unfold asksV
          rw [List.map_append, List.map_append] <;> rfl
      · rw [filt_snoc hk, if_neg (by rw [hb]; decide), List.append_nil] <;> rfl
    · obtain ⟨z, rfl⟩ := hI
      rw [List.length_map, List.take_length]
      exact ss_one (s_retOwnD 3 rfl)
end
end CH

/-! Choosehall: the places given. -/
namespace CH
open PySem L2
theorem flat_one {α : Type} (a : α) : ∀ n : Nat, (List.replicate n [a]).flatten = List.replicate n a
  | 0 => rfl
  | n + 1 => by rw [List.replicate_succ, List.flatten_cons, flat_one a n, List.replicate_succ] <;> rfl
theorem comers_eq (l : List (Int × Int)) (h : Int) : ((l.filter fun p => decide (p.2 = h)).map (·.1)) = comersOf l h := rfl
section
variable {P : Program} {w : World} {g : Gb} {mg : Str → Option Value} {base : Heap} {f : Addr} {fd : FuncData}
def RGranted : List D → Sl → Prop := fun ds r => ∃ (ws : List (List Int)) (hs : List Hs) (n : Nat), WOk ws hs n ∧ ds = [intssD ws, hssD hs] ∧ r = .m ((grantedM ws hs).map D.oi)
theorem c_granted (F : FnP g.K "granted" "granted" s_granted f fd) (hm : mg "granted" = some (.ref f)) (fr : Free mg) (cf : ClsF g) (CHe : Cal P w g mg base "held" 1 RHeld) (CA : Cal P w g mg base "asked" 1 RAsk) (CCh : MCal P w g mg base "chosen" 4 RChosen) : Cal P w g mg base "granted" 5 RGranted := by
  refine cal_by (N := ["wishes", "houses", "places", "refused", "asks", "house", "comers", "all_here", "taken", "comer"]) (ps := ["wishes", "houses"]) F ⟨rfl, rfl, rfl, by decide +kernel, rfl, by decide +kernel, by decide +kernel⟩ hm (fun _ _ _ _ _ _ us hl => match us, hl with | [_, _], _ => rfl) ?_ ?_
  · rintro ds r ⟨ws, hs, n, _, rfl, _⟩
    rfl
  · rintro ds r cdv A outer s0 H E ⟨ws, hs, n, o, rfl, rfl⟩ hr
    have hu : A.units + 3 + 64 < cLine := hr.units
    have hr1 := hr.mono (j := 1) (by decide)
    have sm := o.small
    have hf := o.few
    have wl := o.len
    have e2 : (List.replicate (ws.length : Int).toNat [D.non]).flatten = (start ws.length).ps.map D.oi := by
      rw [Int.toNat_natCast, flat_one]
      show _ = (List.replicate ws.length none).map D.oi
      rw [List.map_replicate] <;> rfl
    have e3 : (List.replicate (ws.length : Int).toNat [D.int 0]).flatten = (start ws.length).rf.map D.int := by
      rw [Int.toNat_natCast, flat_one]
      show _ = (List.replicate ws.length 0).map D.int
      rw [List.map_replicate] <;> rfl
    refine ss_cons (s_asg 2 (Ev.is (ev_bin (Ev.fz (ev_lst (ea_cons ev_non ea_nil) (by show (1 : Nat) ≤ 100000; decide))) (ev_len rfl fr (ev_var 0) (len_intss ws)) (bin_rep (by omega) (by show 1 * _ ≤ 100000; omega))) (congrArg Sl.m e2)) ?_)
    refine ss_cons (s_asg 3 (Ev.is (ev_bin (Ev.fz (ev_lst (ea_cons ev_int ea_nil) (by show (1 : Nat) ≤ 100000; decide))) (ev_len rfl fr (ev_var 0) (len_intss ws)) (bin_rep (by omega) (by show 1 * _ ≤ 100000; omega))) (congrArg Sl.m e3)) ?_)
    refine ss_one (s_while (fun m G => ∃ (s : St) (z4 z5 z6 z7 z8 z9 : Sl), Inv ws hs n s ∧ meas ws s ≤ m ∧ runM ws hs m s = grantedSt ws hs ∧ G = [.v (intssD ws), .v (hssD hs), .m (s.ps.map D.oi), .m (s.rf.map D.int), z4, z5, z6, z7, z8, z9]) (meas ws (start ws.length)) ⟨start ws.length, _, _, _, _, _, _, by rw [wl]; exact start_inv o, Nat.le_refl _, rfl, rfl⟩ (fun m G hI => ?_))
    obtain ⟨s, z4, z5, z6, z7, z8, z9, I, hm1, hrun, rfl⟩ := hI
    have L := I.len
    refine ⟨true, et_val ev_true, fun _ => ?_, fun hb => by cases hb⟩
    refine ss_cons (s_asg 4 (Ev.bor (ev_call rfl CA hr1 (ea_cons (ev_var 0) (ea_cons (ev_var 2) (ea_cons (ev_var 3) ea_nil))) ⟨ws, s, rfl, by rw [wl]; exact L, by omega, fun k k0 k1 => (I.r0 k k0 (by omega)).1, rfl⟩)) ?_)
    refine ss_cons (s_if (et_not (et_dict 4)) (fun hb => ?_) (fun hb => ss_nil ?_))
    · have he : asksM ws s = [] := by
        have : (asksV (asksM ws s)).isEmpty = true := by
          cases q : (asksV (asksM ws s)).isEmpty with
          | true => rfl
          | false =>
            rw [q] at hb
            cases hb
        unfold asksV at this
        exact List.map_eq_nil_iff.mp (List.isEmpty_iff.mp this)
      refine ss_one (s_retOwn 2 ?_)
      show Sl.m _ = Sl.m ((grantedSt ws hs).ps.map D.oi)
      rw [← hrun]
      cases m with
      | zero => rfl
      | succ m =>
        unfold runM
        rw [if_pos (by rw [he] <;> rfl)]
    have hne : asksM ws s ≠ [] := fun z => by
      rw [z] at hb
      cases hb
    have hlt := meas_lt o I hne
    obtain ⟨m', rfl⟩ : ∃ m', m = m' + 1 := ⟨m - 1, by omega⟩
    have hrun' : runM ws hs m' (roundM ws hs s) = grantedSt ws hs := by
      rw [← hrun]
      show _ = (if (asksM ws s).isEmpty = true then s else runM ws hs m' (roundM ws hs s))
      rw [if_neg (fun z => hne (List.isEmpty_iff.mp z))]
    have nodupA := asks_nodup (ws := ws) (s := s)
    have lenA : (asksM ws s).length ≤ n := by
      unfold asksM
      rw [List.length_map]
      have := List.length_filter_le (askB ws s) (rg 0 (ws.length : Int))
      rw [rg_len] at this
      omega
    have rangeA : ∀ p ∈ asksM ws s, 0 ≤ p.1 ∧ p.1 < n := fun p hp => by
      have := (mem_asks.mp hp).1.1
      rw [wl] at this
      exact this
    have I2 := round_inv o I
    generalize hasks : asksM ws s = asks at nodupA lenA rangeA
    have hround : roundM ws hs s = (rg 0 hs.length).foldl (houseStep hs asks) s := by rw [← hasks] <;> rfl
    refine ss_one (s_for 5 (items := (rg 0 hs.length).map D.int) (ei_range fr (ev_len rfl fr (ev_var 1) (len_hss hs)) ⟨by omega, by omega⟩) (fun i G => ∃ z5 z6 z7 z8 z9 : Sl, G = [.v (intssD ws), .v (hssD hs), .m ((((rg 0 hs.length).take i).foldl (houseStep hs asks) s).ps.map D.oi), .m ((((rg 0 hs.length).take i).foldl (houseStep hs asks) s).rf.map D.int), .dc (asksV asks), z5, z6, z7, z8, z9]) ⟨_, _, _, _, _, rfl⟩ (fun i d G hd hI => ?_) (fun G hI => ?_))
    · obtain ⟨z5, z6, z7, z8, z9, rfl⟩ := hI
      rw [List.getElem?_map] at hd
      obtain ⟨h, hh, rfl⟩ := Option.map_eq_some_iff.mp hd
      obtain ⟨h0, h1⟩ := mem_rg.mp (List.mem_of_getElem? hh)
      have ho := o.hOk h0 h1
      have L1 : LenOk n (((rg 0 hs.length).take i).foldl (houseStep hs asks) s) := houseFold_len _ L
      have enext : ((rg 0 (hs.length : Int)).take (i + 1)).foldl (houseStep hs asks) s = houseStep hs asks (((rg 0 hs.length).take i).foldl (houseStep hs asks) s) h := by rw [take_snoc hh, List.foldl_append] <;> rfl
      rw [enext]
      generalize ((rg 0 (hs.length : Int)).take i).foldl (houseStep hs asks) s = s1 at L1
      refine ss_cons (s_lcD 4 9 5 6 (kvs := asks) (m := h) (by show A.units + 3 + 1 < cLine; omega) nodupA (by omega) rfl rfl (by decide) (by decide) (by show 9 < 10; decide) (by first | exact ⟨rfl, Or.inl rfl, rfl, rfl⟩ | exact ⟨rfl, Or.inr (Or.inl rfl), rfl, rfl⟩) (hny := fun _ _ _ _ _ => by first | exact ⟨rfl, Or.inl rfl, rfl, rfl⟩ | exact ⟨rfl, Or.inr (Or.inl rfl), rfl, rfl⟩ | exact ⟨rfl, Or.inr (Or.inr rfl), rfl, rfl⟩) (hnz := fun _ _ _ _ _ => by first | exact ⟨rfl, Or.inl rfl, rfl, rfl⟩ | exact ⟨rfl, Or.inr (Or.inl rfl), rfl, rfl⟩ | exact ⟨rfl, Or.inr (Or.inr rfl), rfl, rfl⟩) (hnx := fun _ _ _ _ _ => by first | exact ⟨rfl, Or.inl rfl, rfl, rfl⟩ | exact ⟨rfl, Or.inr (Or.inl rfl), rfl, rfl⟩ | exact ⟨rfl, Or.inr (Or.inr rfl), rfl, rfl⟩) (hk := ?_))
      rw [comers_eq]
      have hlc : (comersOf asks h).length ≤ n := by
        unfold comersOf
        rw [List.length_map]
        exact Nat.le_trans (List.length_filter_le _ _) lenA
      have hlh := held_len s1.ps h
      have lp := L1.ps
      have ecat : (heldM s1.ps h).map D.int ++ (comersOf asks h).map D.int = (allHere asks s1 h).map D.int := by rw [← List.map_append] <;> rfl
      refine ss_frz 6 rfl (ss_cons (s_asg 7 (Ev.is (ev_bin (Ev.fz (Ev.bor (ev_call rfl CHe hr1 (ea_cons (ev_var 2) (ea_cons (ev_var 5) ea_nil)) ⟨s1.ps, h, rfl, by omega, rfl⟩) (noLL_ints _))) (ev_var 6) (bin_cat (by rw [List.length_map, List.length_map]; omega))) (congrArg Sl.m ecat)) (ss_frz 7 rfl ?_)))
      refine ss_cons (s_asg 8 (ev_meth rfl cf.c CCh no_chosen hr (ev_ix rfl (ev_var 1) (ev_var 5) (at_hs h0 h1)) (ea_cons (ev_var 7) ea_nil) ⟨houseAt hs h, n, allHere asks s1 h, ho, rfl, rfl⟩) (ss_frz 8 rfl ?_))
      have hrng : ∀ c ∈ allHere asks s1 h, 0 ≤ c ∧ c < n := fun c hc => by
        unfold allHere at hc
        rcases List.mem_append.mp hc with z | z
        · have := (mem_held.mp z).1
          rw [lp] at this
          exact this
        · unfold comersOf at z
          obtain ⟨p, hp, rfl⟩ := List.mem_map.mp z
          exact rangeA p (List.mem_filter.mp hp).1
      show Ss g _ [_, _, _, _, _, Sl.v (.int h), _, Sl.v (intsD (allHere asks s1 h)), Sl.v (intsD (chosenM (houseAt hs h) (allHere asks s1 h))), _] _ _
      have estep : houseStep hs asks s1 h = (allHere asks s1 h).foldl (comStep h (chosenM (houseAt hs h) (allHere asks s1 h))) s1 := rfl
      rw [estep]
      generalize allHere asks s1 h = all at hrng
      generalize chosenM (houseAt hs h) all = t
      refine ss_one (s_for 9 (items := all.map D.int) (ei_list rfl (ev_var 7)) (fun j G => ∃ z9 : Sl, G = [.v (intssD ws), .v (hssD hs), .m (((all.take j).foldl (comStep h t) s1).ps.map D.oi), .m (((all.take j).foldl (comStep h t) s1).rf.map D.int), .dc (asksV asks), .v (.int h), .v (intsD (comersOf asks h)), .v (intsD all), .v (intsD t), z9]) ⟨z9, rfl⟩ (fun j d G hd hI => ?_) (fun G hI => ?_))
      · obtain ⟨z9, rfl⟩ := hI
        rw [List.getElem?_map] at hd
        obtain ⟨c, hc, rfl⟩ := Option.map_eq_some_iff.mp hd
        obtain ⟨c0, c1⟩ := hrng c (List.mem_of_getElem? hc)
        have L2 : LenOk n ((all.take j).foldl (comStep h t) s1) := comFold_len _ L1
        have enext2 : (all.take (j + 1)).foldl (comStep h t) s1 = comStep h t ((all.take j).foldl (comStep h t) s1) c := by rw [take_snoc hc, List.foldl_append] <;> rfl
        rw [enext2]
        generalize (all.take j).foldl (comStep h t) s1 = s2 at L2
        have ec : Sl.v (D.int c) = Sl.v (D.int ((c.toNat : Nat) : Int)) := by rw [show ((c.toNat : Nat) : Int) = c by omega]
        refine ss_one (s_if (EvT.is (et_cmp (ev_var 9) (ev_var 8) (cmp_in rfl (w := .int c) (ws := t.map V.int) rfl (fl_ints t))) (inV_ints c t)) (fun hb => ?_) (fun hb => ?_))
        · have hb' := of_decide_eq_true hb
          have e5 : comStep h t s2 c = ⟨s2.ps.set c.toNat (some h), s2.rf⟩ := if_pos hb'
          rw [e5]
          refine ss_one (s_setIx 2 (ds := s2.ps.map D.oi) (n := c.toNat) (ev_var 5) (Ev.is (ev_var 9) ec) (by rw [List.length_map, L2.ps]; omega) ⟨.v (.int c), ?_⟩)
          rw [List.map_set] <;> rfl
        · have hb' := of_decide_eq_false hb
          have e5 : comStep h t s2 c = ⟨s2.ps.set c.toNat none, s2.rf.set c.toNat (rfAt s2.rf c + 1)⟩ := if_neg hb'
          rw [e5]
          refine ss_cons (s_setIx 2 (ds := s2.ps.map D.oi) (n := c.toNat) (d := .non) ev_non (Ev.is (ev_var 9) ec) (by rw [List.length_map, L2.ps]; omega) ?_)
          refine ss_one (s_setIx 3 (ds := s2.rf.map D.int) (n := c.toNat) (d := .int (rfAt s2.rf c + 1)) (Ev.bor (ev_bin (ev_ix rfl (ev_var 3) (ev_var 9) (at_rf c0 (by rw [L2.rf]; exact c1))) ev_int bin_add)) (Ev.is (ev_var 9) ec) (by rw [List.length_map, L2.rf]; omega) ⟨.v (.int c), ?_⟩)
          rw [List.map_set, List.map_set] <;> rfl
      · obtain ⟨z9, rfl⟩ := hI
        exact ⟨.v (.int h), .v (intsD (comersOf asks h)), .v (intsD all), .v (intsD t), z9, by rw [List.length_map, List.take_length]⟩
    · obtain ⟨z5, z6, z7, z8, z9, rfl⟩ := hI
      refine ⟨m', Nat.lt_succ_self m', roundM ws hs s, .dc (asksV asks), z5, z6, z7, z8, z9, I2, by omega, hrun', ?_⟩
      rw [hround]
      have e : (rg 0 (hs.length : Int)).take ((rg 0 (hs.length : Int)).map D.int).length = rg 0 (hs.length : Int) := by rw [List.length_map, List.take_length]
      rw [e] <;> rfl
end
end CH

/-! Choosehall: comers and houses under other numbers. -/
namespace CH
open PySem L2
def rho (n : Nat) (k : Int) : Int := (n : Int) - 1 - k
def renH (n : Nat) (h : Hs) : Hs := { h with pts := (rg 0 (n : Int)).map fun k => ptAt h (rho n k), kinds := (rg 0 (n : Int)).map fun k => kindAt h (rho n k), row := h.row.map (rho n) }
theorem rho_rho (n : Nat) (k : Int) : rho n (rho n k) = k := by
  unfold rho
  omega
theorem rho_inj {n : Nat} {a b : Int} (e : rho n a = rho n b) : a = b := by
  unfold rho at e
  omega
theorem rho_in {n : Nat} {k : Int} (h : 0 ≤ k ∧ k < n) : 0 ≤ rho n k ∧ rho n k < n := by
  unfold rho
  omega
theorem getD_rg {α : Type} {f : Int → α} {m : Nat} {k : Int} {d : α} (k0 : 0 ≤ k) (k1 : k < m) : ((rg 0 (m : Int)).map f).getD k.toNat d = f k := by
  rw [List.getD_eq_getElem?_getD, List.getElem?_map, rg_at (by omega)]
  show f (0 + (k.toNat : Int)) = _
  congr 1
  omega
section
variable {h : Hs} {n : Nat}
theorem ren_pt {k : Int} (hk : 0 ≤ k ∧ k < n) : ptAt (renH n h) k = ptAt h (rho n k) := getD_rg (f := fun k => ptAt h (rho n k)) hk.1 hk.2
theorem ren_kind {k : Int} (hk : 0 ≤ k ∧ k < n) : kindAt (renH n h) k = kindAt h (rho n k) := getD_rg (f := fun k => kindAt h (rho n k)) hk.1 hk.2
theorem ren_ok (o : HsOk h n) : HsOk (renH n h) n := by
  refine ⟨?_, ?_, ?_, o.small, o.kept0, o.kept⟩
  · show ((rg 0 (n : Int)).map _).length = n
    rw [List.length_map, rg_len]
    omega
  · show ((rg 0 (n : Int)).map _).length = n
    rw [List.length_map, rg_len]
    omega
  · have nd : (h.row.map (rho n)).Nodup := List.Pairwise.map _ (fun a b ne e => ne (rho_inj e)) o.nodup
    refine (List.perm_ext_iff_of_nodup nd (rg_nodup _ _)).mpr fun k => ?_
    rw [mem_rg, List.mem_map]
    constructor
    · rintro ⟨a, ha, rfl⟩
      exact rho_in (o.mem.mp ha)
    · intro hk
      exact ⟨rho n k, o.mem.mpr (rho_in hk), rho_rho n k⟩
theorem ren_bef (o : HsOk h n) {a b : Int} (ha : 0 ≤ a ∧ a < n) (hb : 0 ≤ b ∧ b < n) (e : bef h a b) : bef (renH n h) (rho n a) (rho n b) := by
  have pa : ptOf (renH n h) (rho n a) = ptOf h a := by rw [ptOf_at, ptOf_at, ren_pt (rho_in ha), rho_rho]
  have pb : ptOf (renH n h) (rho n b) = ptOf h b := by rw [ptOf_at, ptOf_at, ren_pt (rho_in hb), rho_rho]
  unfold bef byKey at *
  rw [pa, pb]
  exact ⟨e.1, fun z => (e.2 z).map (rho n)⟩
theorem ren_ranked (o : HsOk h n) (S : List Int) (hS : ∀ k ∈ S, 0 ≤ k ∧ k < n) : rankedM (renH n h) (S.map (rho n)) = (rankedM h S).map (rho n) := by
  have rin : ∀ k ∈ rankedM h S, 0 ≤ k ∧ k < n := fun k hk => o.mem.mp (mem_rankedM.mp hk).1
  refine rank_uniq (ren_ok o).nodup (ranked_nodup (ren_ok o).nodup _) (List.Pairwise.map _ (fun a b ne e => ne (rho_inj e)) (ranked_nodup o.nodup S)) (ranked_bef (ren_ok o).nodup _) ?_ fun k => ?_
  · rw [List.pairwise_map]
    refine List.Pairwise.imp_of_mem (fun {a b} ha hb e => ren_bef o (rin a ha) (rin b hb) e) (ranked_bef o.nodup S)
  · rw [mem_rankedM, List.mem_map, List.mem_map]
    constructor
    · rintro ⟨h1, ⟨a, ha, rfl⟩, h3⟩
      refine ⟨a, mem_rankedM.mpr ⟨o.mem.mpr (hS a ha), ha, ?_⟩, rfl⟩
      rw [ren_pt (rho_in (hS a ha)), rho_rho] at h3
      exact h3
    · rintro ⟨a, ha, rfl⟩
      obtain ⟨h1, h2, h3⟩ := mem_rankedM.mp ha
      refine ⟨(ren_ok o).mem.mpr (rho_in (o.mem.mp h1)), ⟨a, h2, rfl⟩, ?_⟩
      rw [ren_pt (rho_in (o.mem.mp h1)), rho_rho]
      exact h3
theorem ren_split {p q : Int → Bool} {f : Int → Int} : ∀ (l : List Int) (c : Nat), (∀ k ∈ l, q (f k) = p k) → split q c (l.map f) = ((split p c l).1.map f, (split p c l).2.map f)
  | [], c, _ => rfl
  | k :: l, c, e => by
    have e1 := e k List.mem_cons_self
    have e2 : ∀ x ∈ l, q (f x) = p x := fun x hx => e x (List.mem_cons_of_mem _ hx)
    rw [List.map_cons]
    by_cases z : p k = true ∧ 0 < c
    · rw [split_pos z, split_pos (p := q) ⟨by rw [e1]; exact z.1, z.2⟩, ren_split l (c - 1) e2] <;> rfl
    · rw [split_neg z, split_neg (p := q) (fun w => z ⟨by rw [← e1]; exact w.1, w.2⟩), ren_split l c e2] <;> rfl
theorem ren_chosen (o : HsOk h n) (S : List Int) (hS : ∀ k ∈ S, 0 ≤ k ∧ k < n) {k : Int} : rho n k ∈ chosenM (renH n h) (S.map (rho n)) ↔ k ∈ chosenM h S := by
  have rin : ∀ k ∈ rankedM h S, 0 ≤ k ∧ k < n := fun k hk => o.mem.mp (mem_rankedM.mp hk).1
  have sp : split (kindB (renH n h)) (renH n h).kept.toNat (rankedM (renH n h) (S.map (rho n))) = (((split (kindB h) h.kept.toNat (rankedM h S)).1).map (rho n), ((split (kindB h) h.kept.toNat (rankedM h S)).2).map (rho n)) := by
    rw [ren_ranked o S hS]
    refine ren_split _ _ fun k hk => ?_
    unfold kindB
    rw [ren_kind (rho_in (rin k hk)), rho_rho] <;> rfl
  have fr : freeM (renH n h) (S.map (rho n)) = freeM h S := by
    unfold freeM insideM
    rw [sp, List.length_map] <;> rfl
  rw [mem_chosen (ren_ok o).kept0, mem_chosen o.kept0, fr]
  unfold Pick
  rw [sp, ← List.map_take]
  have inj : ∀ l : List Int, rho n k ∈ l.map (rho n) ↔ k ∈ l := fun l => by
    rw [List.mem_map]
    exact ⟨fun ⟨a, ha, e⟩ => by rw [← rho_inj e]; exact ha, fun hk => ⟨k, hk, rfl⟩⟩
  show rho n k ∈ ((split (kindB h) h.kept.toNat (rankedM h S)).1).map (rho n) ∨ rho n k ∈ (((split (kindB h) h.kept.toNat (rankedM h S)).2).take (freeM h S)).map (rho n) ↔ _
  rw [inj, inj]
end
end CH

/-! Choosehall: the same places under other numbers. -/
namespace CH
open PySem L2
/-- the world, comers and houses called by other numbers -/
def renW (ws : List (List Int)) (n H : Nat) : List (List Int) := (rg 0 (n : Int)).map fun k => (wishAt ws (rho n k)).map (rho H)
def renHs (hs : List Hs) (n : Nat) : List Hs := (rg 0 (hs.length : Int)).map fun h => renH n (houseAt hs (rho hs.length h))
def renP (ps : List (Option Int)) (n H : Nat) : List (Option Int) := (rg 0 (n : Int)).map fun k => (placeAt ps (rho n k)).map (rho H)
section
variable {ws : List (List Int)} {hs : List Hs} {n : Nat}
theorem renHs_len : (renHs hs n).length = hs.length := by
  unfold renHs
  rw [List.length_map, rg_len]
  omega
theorem renP_len {ps : List (Option Int)} {H : Nat} : (renP ps n H).length = n := by
  unfold renP
  rw [List.length_map, rg_len]
  omega
theorem renW_at {H : Nat} {k : Int} (hk : 0 ≤ k ∧ k < n) : wishAt (renW ws n H) k = (wishAt ws (rho n k)).map (rho H) := getD_rg (f := fun k => (wishAt ws (rho n k)).map (rho H)) hk.1 hk.2
theorem renP_at {ps : List (Option Int)} {H : Nat} {k : Int} (hk : 0 ≤ k ∧ k < n) : placeAt (renP ps n H) k = (placeAt ps (rho n k)).map (rho H) := getD_rg (f := fun k => (placeAt ps (rho n k)).map (rho H)) hk.1 hk.2
theorem renHs_at {h : Int} (hh : 0 ≤ h ∧ h < hs.length) : houseAt (renHs hs n) h = renH n (houseAt hs (rho hs.length h)) := getD_rg (f := fun h => renH n (houseAt hs (rho hs.length h))) hh.1 hh.2
theorem ren_wok (o : WOk ws hs n) : WOk (renW ws n hs.length) (renHs hs n) n := by
  refine ⟨?_, o.small, by rw [renHs_len]; exact o.few, fun h hh => ?_, fun r hr => ?_⟩
  · unfold renW
    rw [List.length_map, rg_len]
    omega
  · unfold renHs at hh
    obtain ⟨x, hx, rfl⟩ := List.mem_map.mp hh
    have := rho_in (mem_rg.mp hx)
    exact ren_ok (o.hOk this.1 this.2)
  · unfold renW at hr
    obtain ⟨k, hk, rfl⟩ := List.mem_map.mp hr
    have := rho_in (mem_rg.mp hk)
    obtain ⟨a, b⟩ := o.wOk this.1 this.2
    refine ⟨List.Pairwise.map _ (fun a b ne e => ne (rho_inj e)) a, fun x hx => ?_⟩
    obtain ⟨y, hy, rfl⟩ := List.mem_map.mp hx
    rw [renHs_len]
    exact rho_in (b y hy)
theorem ren_held {ps : List (Option Int)} (hl : ps.length = n) {H : Nat} {h : Int} {k : Int} : k ∈ heldM (renP ps n H) (rho H h) ↔ ∃ a ∈ heldM ps h, k = rho n a := by
  rw [mem_held, renP_len]
  constructor
  · rintro ⟨hk, e⟩
    rw [renP_at hk] at e
    obtain ⟨x, hx, e2⟩ := Option.map_eq_some_iff.mp e
    refine ⟨rho n k, mem_held.mpr ⟨by rw [hl]; exact rho_in hk, ?_⟩, (rho_rho n k).symm⟩
    rw [hx, rho_inj e2]
  · rintro ⟨a, ha, rfl⟩
    obtain ⟨h1, h2⟩ := mem_held.mp ha
    rw [hl] at h1
    refine ⟨rho_in h1, ?_⟩
    rw [renP_at (rho_in h1), rho_rho, h2] <;> rfl
theorem ahead_map {f : Int → Int} (inj : ∀ a b, f a = f b → a = b) : ∀ (r : List Int) (p : Option Int), aheadM (r.map f) (p.map f) = (aheadM r p).map f
  | [], _ => rfl
  | a :: r, p => by
    rw [List.map_cons]
    unfold aheadM
    by_cases z : some a = p
    · rw [if_pos z, if_pos (by rw [← z] <;> rfl)] <;> rfl
    · rw [if_neg z, if_neg ?_, ahead_map inj r p] <;> try rfl
      intro w
      cases p with
      | none => cases w
      | some b => exact z (by rw [inj a b (Option.some.inj w)])
theorem ren_rather {ps : List (Option Int)} {H : Nat} {k : Int} (hk : 0 ≤ k ∧ k < n) : ratherM (renW ws n H) (renP ps n H) k = (ratherM ws ps (rho n k)).map (rho H) := by
  unfold ratherM
  rw [renW_at hk, renP_at hk]
  exact ahead_map (fun _ _ e => rho_inj e) _ _
theorem ren_fair (o : WOk ws hs n) {mu : List (Option Int)} (f : FairOk ws hs n mu) : FairOk (renW ws n hs.length) (renHs hs n) n (renP mu n hs.length) := by
  have o2 := ren_wok o
  have hrange : ∀ h x, x ∈ heldM mu h → 0 ≤ x ∧ x < n := fun h x hx => by
    have := (mem_held.mp hx).1
    rw [f.len] at this
    exact this
  refine ⟨renP_len, fun k k0 k1 h e => ?_, fun h h0 h1 => ?_, fun k h k0 k1 hh z => ?_⟩
  · rw [renP_at ⟨k0, k1⟩] at e
    obtain ⟨x, hx, rfl⟩ := Option.map_eq_some_iff.mp e
    have hr := rho_in (n := n) ⟨k0, k1⟩
    rw [renW_at ⟨k0, k1⟩]
    exact List.mem_map.mpr ⟨x, f.wish _ hr.1 hr.2 x hx, rfl⟩
  · have h1' : h < hs.length := by rw [← renHs_len (n := n)]; exact h1
    have hr := rho_in (n := hs.length) ⟨h0, h1'⟩
    have eh : h = rho hs.length (rho hs.length h) := (rho_rho _ _).symm
    have ho := o.hOk hr.1 hr.2
    have hh := o2.hOk h0 h1
    refine chosen_ext hh (held_sorted _ _) (held_nodup _ _) fun k => ?_
    have key : ∀ x, x ∈ heldM (renP mu n hs.length) h ↔ x ∈ (heldM mu (rho hs.length h)).map (rho n) := fun x => by
      have := ren_held (n := n) f.len (H := hs.length) (h := rho hs.length h) (k := x)
      rw [rho_rho] at this
      rw [this, List.mem_map]
      exact ⟨fun ⟨a, ha, e⟩ => ⟨a, ha, e.symm⟩, fun ⟨a, ha, e⟩ => ⟨a, ha, e.symm⟩⟩
    rw [chosen_congr key, renHs_at ⟨h0, h1'⟩, key k, List.mem_map]
    constructor
    · intro hk
      have hk2 := (chosen_in (ren_ok ho) hk).2.1
      obtain ⟨a, ha, rfl⟩ := List.mem_map.mp hk2
      exact ⟨a, ha, rfl⟩
    · rintro ⟨a, ha, rfl⟩
      rw [ren_chosen ho _ (hrange _), f.hold _ hr.1 hr.2]
      exact ha
  · rw [ren_rather ⟨k0, k1⟩] at hh
    obtain ⟨g, hg, rfl⟩ := List.mem_map.mp hh
    have hr := rho_in (n := n) ⟨k0, k1⟩
    have hgr := (o.wOk hr.1 hr.2).2 g (aheadM_mem hg).1
    have hgr2 := rho_in (n := hs.length) hgr
    have ho := o.hOk hgr.1 hgr.2
    refine f.no _ g hr.1 hr.2 hg ?_
    have key : ∀ x, x ∈ heldM (renP mu n hs.length) (rho hs.length g) ++ [k] ↔ x ∈ (heldM mu g ++ [rho n k]).map (rho n) := fun x => by
      rw [List.mem_append, ren_held f.len, List.mem_map, List.mem_singleton]
      constructor
      · rintro (⟨a, ha, rfl⟩ | rfl)
        · exact ⟨a, List.mem_append_left _ ha, rfl⟩
        · exact ⟨rho n x, List.mem_append_right _ (List.mem_singleton.mpr rfl), rho_rho n x⟩
      · rintro ⟨a, ha, rfl⟩
        rcases List.mem_append.mp ha with w | w
        · exact Or.inl ⟨a, w, rfl⟩
        · rw [List.mem_singleton.mp w]
          exact Or.inr (rho_rho n k)
    rw [chosen_congr key, renHs_at hgr2, rho_rho] at z
    have := (ren_chosen ho (heldM mu g ++ [rho n k]) (fun x hx => by
      rcases List.mem_append.mp hx with w | w
      · exact hrange _ x w
      · rw [List.mem_singleton.mp w]
        exact hr) (k := rho n k)).mp (by rw [rho_rho]; exact z)
    exact this
end
end CH

/-! Choosehall: the places given do not hang on the numbers. -/
namespace CH
open PySem L2
theorem pl_ext {a b : List (Option Int)} (hl : a.length = b.length) (e : ∀ k : Int, 0 ≤ k → k < a.length → placeAt a k = placeAt b k) : a = b := by
  refine List.ext_getElem hl fun i h1 h2 => ?_
  have := e (i : Int) (by omega) (by omega)
  unfold placeAt at this
  rw [Int.toNat_natCast, List.getD_eq_getElem?_getD, List.getD_eq_getElem?_getD, List.getElem?_eq_getElem h1, List.getElem?_eq_getElem h2] at this
  exact this
/-- of two places of one row, neither ahead of the other -/
theorem ahead_or : ∀ {r : List Int} {a b : Int}, a ∈ r → b ∈ r → a ∉ aheadM r (some b) → b ∉ aheadM r (some a) → a = b
  | [], _, _, h, _, _, _ => by cases h
  | x :: r, a, b, ha, hb, h1, h2 => by
    unfold aheadM at h1 h2
    by_cases xa : x = a
    · by_cases xb : x = b
      · rw [← xa, ← xb]
      · rw [if_neg (fun z => xb (Option.some.inj z))] at h1
        exact absurd (by rw [xa]; exact List.mem_cons_self) h1
    · by_cases xb : x = b
      · rw [if_neg (fun z => xa (Option.some.inj z))] at h2
        exact absurd (by rw [xb]; exact List.mem_cons_self) h2
      · rw [if_neg (fun z => xb (Option.some.inj z))] at h1
        rw [if_neg (fun z => xa (Option.some.inj z))] at h2
        exact ahead_or ((List.mem_cons.mp ha).resolve_left (Ne.symm xa)) ((List.mem_cons.mp hb).resolve_left (Ne.symm xb)) (fun z => h1 (List.mem_cons_of_mem _ z)) fun z => h2 (List.mem_cons_of_mem _ z)
section
variable {ws : List (List Int)} {hs : List Hs} {n : Nat}
/-- two fair rows, each as good as the other to each comer, are one -/
theorem best_uniq (o : WOk ws hs n) {mu nu : List (Option Int)} (f : FairOk ws hs n mu) (g : FairOk ws hs n nu) (h1 : ∀ k : Int, 0 ≤ k → k < n → ∀ h, placeAt mu k = some h → h ∉ ratherM ws nu k) (h2 : ∀ k : Int, 0 ≤ k → k < n → ∀ h, placeAt nu k = some h → h ∉ ratherM ws mu k) : mu = nu := by
  refine pl_ext (by rw [f.len, g.len]) fun k k0 k1 => ?_
  rw [f.len] at k1
  have a1 := h1 k k0 k1
  have a2 := h2 k k0 k1
  unfold ratherM at a1 a2
  cases c1 : placeAt mu k with
  | none =>
    cases c2 : placeAt nu k with
    | none => rfl
    | some b =>
      have := a2 b c2
      rw [c1, aheadM_all fun _ _ z => by cases z] at this
      exact absurd (g.wish k k0 k1 b c2) this
  | some a =>
    cases c2 : placeAt nu k with
    | none =>
      have := a1 a c1
      rw [c2, aheadM_all fun _ _ z => by cases z] at this
      exact absurd (f.wish k k0 k1 a c1) this
    | some b =>
      have b1 := a1 a c1
      have b2 := a2 b c2
      rw [c2] at b1
      rw [c1] at b2
      rw [ahead_or (f.wish k k0 k1 a c1) (g.wish k k0 k1 b c2) b1 b2]
theorem renP_renP {ps : List (Option Int)} (hl : ps.length = n) {H : Nat} : renP (renP ps n H) n H = ps := by
  refine pl_ext (by rw [renP_len, hl]) fun k k0 k1 => ?_
  rw [renP_len] at k1
  have hr := rho_in (n := n) ⟨k0, k1⟩
  rw [renP_at ⟨k0, k1⟩, renP_at hr, rho_rho, Option.map_map]
  cases placeAt ps k with
  | none => rfl
  | some x => exact congrArg some (rho_rho H x)
theorem ext_getD {α : Type} {a b : List α} {d : α} (hl : a.length = b.length) (e : ∀ k : Int, 0 ≤ k → k < a.length → a.getD k.toNat d = b.getD k.toNat d) : a = b := by
  refine List.ext_getElem hl fun i h1 h2 => ?_
  have := e (i : Int) (by omega) (by omega)
  rw [Int.toNat_natCast, List.getD_eq_getElem?_getD, List.getD_eq_getElem?_getD, List.getElem?_eq_getElem h1, List.getElem?_eq_getElem h2] at this
  exact this
theorem renH_renH {h : Hs} (o : HsOk h n) : renH n (renH n h) = h := by
  have o1 := ren_ok o
  have o2 := ren_ok o1
  have e1 : (renH n (renH n h)).pts = h.pts := ext_getD (d := none) (by rw [o2.pts, o.pts]) fun k k0 k1 => by
    rw [o2.pts] at k1
    show ptAt (renH n (renH n h)) k = ptAt h k
    rw [ren_pt ⟨k0, k1⟩, ren_pt (rho_in ⟨k0, k1⟩), rho_rho]
  have e2 : (renH n (renH n h)).kinds = h.kinds := ext_getD (d := 0) (by rw [o2.kinds, o.kinds]) fun k k0 k1 => by
    rw [o2.kinds] at k1
    show kindAt (renH n (renH n h)) k = kindAt h k
    rw [ren_kind ⟨k0, k1⟩, ren_kind (rho_in ⟨k0, k1⟩), rho_rho]
  have e3 : (renH n (renH n h)).row = h.row := by
    show (h.row.map (rho n)).map (rho n) = h.row
    rw [List.map_map]
    exact (List.map_congr_left fun x _ => rho_rho n x).trans (List.map_id' _)
  obtain ⟨a, b, c, d, pts, kinds, row⟩ := h
  show Hs.mk a b c d (renH n (renH n ⟨a, b, c, d, pts, kinds, row⟩)).pts (renH n (renH n ⟨a, b, c, d, pts, kinds, row⟩)).kinds (renH n (renH n ⟨a, b, c, d, pts, kinds, row⟩)).row = _
  rw [e1, e2, e3]
theorem renHs_renHs (o : WOk ws hs n) : renHs (renHs hs n) n = hs := by
  refine ext_getD (d := hs0) (by rw [renHs_len, renHs_len]) fun k k0 k1 => ?_
  rw [renHs_len] at k1
  show houseAt (renHs (renHs hs n) n) k = houseAt hs k
  have hr : 0 ≤ k ∧ k < hs.length := ⟨k0, by rw [← renHs_len (n := n)]; exact k1⟩
  rw [renHs_at ⟨k0, k1⟩, renHs_len, renHs_at (rho_in hr), rho_rho, renH_renH (o.hOk hr.1 hr.2)]
/-- the places given under the other numbers are those given, called by the other numbers -/
theorem granted_ren (o : WOk ws hs n) : grantedM (renW ws n hs.length) (renHs hs n) = renP (grantedM ws hs) n hs.length := by
  have o2 := ren_wok o
  have gl := granted_len o
  have gl2 := granted_len o2
  have f := fair_ok o gl (granted_fair o)
  have f2 := fair_ok o2 gl2 (granted_fair o2)
  have r1 := ren_fair o f
  -- back: the places given there, called by the first numbers, are fair here
  have back : FairOk ws hs n (renP (grantedM (renW ws n hs.length) (renHs hs n)) n hs.length) := by
    have hH : (renHs hs n).length = hs.length := renHs_len
    have r2 := ren_fair o2 f2
    rw [hH] at r2
    have ew : renW (renW ws n hs.length) n hs.length = ws := by
      refine List.ext_getElem (by unfold renW; rw [List.length_map, rg_len, o.len]; omega) fun i h1 h2 => ?_
      have hi : 0 ≤ (i : Int) ∧ (i : Int) < n := ⟨by omega, by rw [← o.len]; omega⟩
      have e1 : wishAt (renW (renW ws n hs.length) n hs.length) (i : Int) = wishAt ws (i : Int) := by
        rw [renW_at hi, renW_at (rho_in hi), rho_rho, List.map_map]
        exact (List.map_congr_left fun x _ => rho_rho hs.length x).trans (List.map_id' _)
      unfold wishAt at e1
      rw [Int.toNat_natCast, List.getD_eq_getElem?_getD, List.getD_eq_getElem?_getD, List.getElem?_eq_getElem h1, List.getElem?_eq_getElem h2] at e1
      exact e1
    rw [ew] at r2
    rw [renHs_renHs o] at r2
    exact r2
  have s1 : ∀ k : Int, 0 ≤ k → k < n → ∀ h, placeAt (renP (grantedM ws hs) n hs.length) k = some h → h ∉ ratherM (renW ws n hs.length) (grantedM (renW ws n hs.length) (renHs hs n)) k := fun k k0 k1 h e => best_no_better o2 r1 k0 k1 e
  have s2 : ∀ k : Int, 0 ≤ k → k < n → ∀ h, placeAt (grantedM (renW ws n hs.length) (renHs hs n)) k = some h → h ∉ ratherM (renW ws n hs.length) (renP (grantedM ws hs) n hs.length) k := fun k k0 k1 h e hin => by
    rw [ren_rather ⟨k0, k1⟩] at hin
    obtain ⟨x, hx, rfl⟩ := List.mem_map.mp hin
    have hr := rho_in (n := n) ⟨k0, k1⟩
    have e2 : placeAt (renP (grantedM (renW ws n hs.length) (renHs hs n)) n hs.length) (rho n k) = some x := by
      rw [renP_at hr, rho_rho, e]
      exact congrArg some (rho_rho _ x)
    exact best_no_better o back hr.1 hr.2 e2 hx
  exact best_uniq o2 f2 r1 s2 s1
end
end CH

/-! Choosehall: houses with one rank, none kept: one by one. -/
namespace CH
open PySem L2
/-- a house of none kept that ranks all comers as they stand in rank -/
structure Plain (h : Hs) (n : Nat) (rank : List Int) : Prop where
  ok : HsOk h n
  kept : h.kept = 0
  pts : ∀ k : Int, 0 ≤ k → k < n → (ptAt h k).isSome = true
  perm : rank.Perm (rg 0 (n : Int))
  ord : rank.Pairwise (CH.bef h)
section
variable {h : Hs} {n : Nat} {rank : List Int}
theorem plain_ranked (p : Plain h n rank) (S : List Int) : rankedM h S = rank.filter fun k => decide (k ∈ S) := by
  have nr : rank.Nodup := p.perm.nodup_iff.mpr (rg_nodup _ _)
  refine rank_uniq p.ok.nodup (ranked_nodup p.ok.nodup S) (nr.filter _) (ranked_bef p.ok.nodup S) (p.ord.filter _) fun k => ?_
  rw [mem_rankedM, List.mem_filter, decide_eq_true_eq, p.perm.mem_iff, mem_rg, p.ok.mem]
  exact ⟨fun ⟨a, b, _⟩ => ⟨a, b⟩, fun ⟨a, b⟩ => ⟨a, b, p.pts k a.1 a.2⟩⟩
theorem split_zero {q : Int → Bool} : ∀ l : List Int, split q 0 l = ([], l)
  | [] => rfl
  | k :: l => by rw [split_neg (fun z => absurd z.2 (Nat.lt_irrefl 0)), split_zero l]
theorem plain_chosen (p : Plain h n rank) (S : List Int) {k : Int} : k ∈ chosenM h S ↔ k ∈ (rank.filter fun k => decide (k ∈ S)).take h.seats.toNat := by
  have hk0 : h.kept.toNat = 0 := by rw [p.kept] <;> rfl
  have hin : insideM h S = [] := by
    unfold insideM
    rw [hk0, split_zero]
  have hfr : freeM h S = h.seats.toNat := by
    unfold freeM chFree
    rw [hin, p.kept]
    split <;> simp
  rw [mem_chosen p.ok.kept0, hfr]
  unfold Pick
  rw [hk0, split_zero, plain_ranked p]
  exact ⟨fun z => z.elim (fun z => by cases z) id, Or.inr⟩
end
end CH

/-! Choosehall: a place in a rank. -/
namespace CH
open PySem L2
theorem take_pair2 {x k : Int} {l : List Int} {i : Nat} (h : x ∈ l.take i) (e : l[i]? = some k) : [x, k].Sublist l := by
  have hi := (List.getElem?_eq_some_iff.mp e).1
  have e1 : l.take i ++ k :: l.drop (i + 1) = l := by
    have e2 := (List.getElem?_eq_some_iff.mp e).2
    rw [← e2, List.getElem_cons_drop hi, List.take_append_drop]
  rw [← e1]
  exact List.Sublist.append (l₁ := [x]) (List.singleton_sublist.mpr h) (List.Sublist.cons_cons k (List.nil_sublist _))
theorem take_filter_mem {l : List Int} (nd : l.Nodup) {i : Nat} {k : Int} (e : l[i]? = some k) {q : Int → Bool} (s : Nat) : k ∈ (l.filter q).take s ↔ q k = true ∧ ((l.take i).filter q).length < s := by
  have hi := (List.getElem?_eq_some_iff.mp e).1
  have el : l = l.take i ++ k :: l.drop (i + 1) := by
    have e2 := (List.getElem?_eq_some_iff.mp e).2
    rw [← e2, List.getElem_cons_drop hi, List.take_append_drop]
  have nA : k ∉ l.take i := fun z => by
    have nd' := nd
    rw [el] at nd'
    exact (List.nodup_append.mp nd').2.2 k z k List.mem_cons_self rfl
  have nB : k ∉ l.drop (i + 1) := fun z => by
    have nd' := nd
    rw [el] at nd'
    exact (List.nodup_cons.mp (List.nodup_append.mp nd').2.1).1 z
  have ef : l.filter q = (l.take i).filter q ++ (k :: l.drop (i + 1)).filter q := by
    rw [← List.filter_append, ← el]
  rw [ef]
  by_cases hq : q k = true
  · rw [List.filter_cons, if_pos hq, List.take_append, List.mem_append]
    constructor
    · rintro (z | z)
      · exact absurd (List.mem_filter.mp (List.mem_of_mem_take z)).1 nA
      · refine ⟨hq, ?_⟩
        by_cases w : ((l.take i).filter q).length < s
        · exact w
        · rw [show s - ((l.take i).filter q).length = 0 by omega] at z
          cases z
    · rintro ⟨_, w⟩
      refine Or.inr ?_
      obtain ⟨m, hm⟩ : ∃ m, s - ((l.take i).filter q).length = m + 1 := ⟨s - ((l.take i).filter q).length - 1, by omega⟩
      rw [hm, List.take_succ_cons]
      exact List.mem_cons_self
  · constructor
    · intro z
      rcases List.mem_append.mp (List.mem_of_mem_take z) with w | w
      · exact absurd (List.mem_filter.mp w).1 nA
      · exact absurd (List.mem_filter.mp w).2 hq
    · exact fun z => absurd z.1 hq
end CH

/-! Choosehall: the comers one by one, the first ranked one ahead. -/
namespace CH
open PySem L2
structure DSt where
  due : List (Option Int)
  left : List Int
def dueIn (k : Int) (s : DSt) (h : Int) : DSt := if placeAt s.due k = none ∧ 0 < rfAt s.left h then ⟨s.due.set k.toNat (some h), s.left.set h.toNat (rfAt s.left h - 1)⟩ else s
def dueOut (ws : List (List Int)) (s : DSt) (k : Int) : DSt := (wishAt ws k).foldl (dueIn k) s
def dueM (ws : List (List Int)) (seats rank : List Int) (n : Nat) : DSt := rank.foldl (dueOut ws) ⟨List.replicate n none, seats⟩
/-- how many of a list have their place at h -/
def cntAt (mu : List (Option Int)) (h : Int) (l : List Int) : Nat := (l.filter fun x => decide (placeAt mu x = some h)).length
section
variable {ws : List (List Int)} {hs : List Hs} {n : Nat} {rank : List Int} {mu : List (Option Int)}
/-- at a fair place there was a seat left; at those ahead there was none -/
theorem seat_left (o : WOk ws hs n) (pl : ∀ h : Int, 0 ≤ h → h < hs.length → Plain (houseAt hs h) n rank) (pr : rank.Perm (rg 0 (n : Int))) (f : FairOk ws hs n mu) {i : Nat} {k : Int} (e : rank[i]? = some k) (k0 : 0 ≤ k) (k1 : k < n) :
    (∀ h, placeAt mu k = some h → (cntAt mu h (rank.take i) : Int) < (houseAt hs h).seats) ∧ (∀ h, h ∈ ratherM ws mu k → (houseAt hs h).seats ≤ (cntAt mu h (rank.take i) : Int)) := by
  have nr : rank.Nodup := pr.nodup_iff.mpr (rg_nodup _ _)
  have inR : ∀ x : Int, x ∈ rank.take i → (0 ≤ x ∧ x < n) ∧ x ≠ k := fun x hx => by
    refine ⟨mem_rg.mp (pr.mem_iff.mp (List.mem_of_mem_take hx)), fun z => ?_⟩
    have := nr.sublist (take_pair2 (x := x) hx e)
    rw [z] at this
    exact (List.nodup_cons.mp this).1 (List.mem_singleton.mpr rfl)
  have held_iff : ∀ x : Int, x ∈ rank.take i → ∀ h, (x ∈ heldM mu h ↔ placeAt mu x = some h) := fun x hx h => by
    rw [mem_held, f.len]
    exact ⟨fun z => z.2, fun z => ⟨(inR x hx).1, z⟩⟩
  refine ⟨fun h z => ?_, fun h hin => ?_⟩
  · obtain ⟨h0, h1⟩ := (o.wOk k0 k1).2 h (f.wish k k0 k1 h z)
    have p := pl h h0 h1
    have hk : k ∈ heldM mu h := mem_held.mpr ⟨by rw [f.len]; exact ⟨k0, k1⟩, z⟩
    rw [← f.hold h h0 h1, plain_chosen p, take_filter_mem nr e] at hk
    have ec : ((rank.take i).filter fun x => decide (x ∈ heldM mu h)) = (rank.take i).filter fun x => decide (placeAt mu x = some h) := List.filter_congr fun x hx => decide_eq_decide.mpr (held_iff x hx h)
    rw [ec] at hk
    unfold cntAt
    omega
  · obtain ⟨h0, h1⟩ := (o.wOk k0 k1).2 h (aheadM_mem hin).1
    have p := pl h h0 h1
    have hk := f.no k h k0 k1 hin
    rw [plain_chosen p, take_filter_mem nr e] at hk
    have ec : ((rank.take i).filter fun x => decide (x ∈ heldM mu h ++ [k])) = (rank.take i).filter fun x => decide (placeAt mu x = some h) := List.filter_congr fun x hx => decide_eq_decide.mpr (by
      rw [List.mem_append, List.mem_singleton, held_iff x hx h]
      exact ⟨fun z => z.elim id fun z => absurd z (inR x hx).2, Or.inl⟩)
    rw [ec] at hk
    have : ¬ ((rank.take i).filter fun x => decide (placeAt mu x = some h)).length < (houseAt hs h).seats.toNat := fun z => hk ⟨decide_eq_true (List.mem_append_right _ (List.mem_singleton.mpr rfl)), z⟩
    unfold cntAt
    omega
end
end CH

/-! Choosehall: one by one comes what is given. -/
namespace CH
open PySem L2
structure DLen (n H : Nat) (s : DSt) : Prop where
  due : s.due.length = n
  left : s.left.length = H
section
variable {ws : List (List Int)} {hs : List Hs} {n : Nat} {rank seats : List Int} {mu : List (Option Int)}
theorem dueIn_len {H : Nat} {k h : Int} {s : DSt} (o : DLen n H s) : DLen n H (dueIn k s h) := by
  unfold dueIn
  split
  · exact ⟨by show (s.due.set _ _).length = n; rw [List.length_set]; exact o.due, by show (s.left.set _ _).length = H; rw [List.length_set]; exact o.left⟩
  · exact o
/-- once placed, nothing more changes -/
theorem dueIn_done {k : Int} {s : DSt} (h : placeAt s.due k ≠ none) : ∀ l : List Int, l.foldl (dueIn k) s = s
  | [] => rfl
  | a :: l => by
    rw [List.foldl_cons, show dueIn k s a = s from if_neg fun z => h z.1, dueIn_done h l]
/-- a row walked: the first house with a seat left -/
theorem dueRow {H : Nat} {k : Int} (k0 : 0 ≤ k) (k1 : k < n) : ∀ (l : List Int) {s : DSt} (p : Option Int), DLen n H s → placeAt s.due k = none → (∀ h ∈ l, 0 ≤ h ∧ h < H) → (∀ h, p = some h → h ∈ l ∧ 0 < rfAt s.left h) → (∀ h ∈ aheadM l p, ¬ 0 < rfAt s.left h) →
    l.foldl (dueIn k) s = (match p with | none => s | some h => ⟨s.due.set k.toNat (some h), s.left.set h.toNat (rfAt s.left h - 1)⟩)
  | [], s, p, _, _, _, hp, _ => by
    cases p with
    | none => rfl
    | some h => cases (hp h rfl).1
  | a :: l, s, p, o, hn, hr, hp, ha => by
    rw [List.foldl_cons]
    by_cases z : some a = p
    · subst z
      have h2 := (hp a rfl).2
      have e1 : dueIn k s a = ⟨s.due.set k.toNat (some a), s.left.set a.toNat (rfAt s.left a - 1)⟩ := if_pos ⟨hn, h2⟩
      rw [e1]
      refine dueIn_done ?_ l
      show placeAt (s.due.set k.toNat (some a)) k ≠ none
      unfold placeAt
      rw [getD_set_at (by rw [o.due]; omega), if_pos rfl]
      exact fun w => by cases w
    · have ea : aheadM (a :: l) p = a :: aheadM l p := if_neg z
      rw [ea] at ha
      have e1 : dueIn k s a = s := if_neg fun w => ha a List.mem_cons_self w.2
      rw [e1]
      exact dueRow k0 k1 l p o hn (fun h hh => hr h (List.mem_cons_of_mem _ hh)) (fun h e => ⟨((List.mem_cons.mp (hp h e).1).resolve_left fun w => z (by rw [e, w])), (hp h e).2⟩) fun h hh => ha h (List.mem_cons_of_mem _ hh)
end
end CH

/-! Choosehall: one by one comes what is given (the invariant). -/
namespace CH
open PySem L2
theorem cnt_snoc (mu : List (Option Int)) (h k : Int) (l : List Int) : cntAt mu h (l ++ [k]) = cntAt mu h l + (if placeAt mu k = some h then 1 else 0) := by
  unfold cntAt
  rw [List.filter_append, List.length_append, List.filter_cons]
  by_cases e : placeAt mu k = some h
  · rw [if_pos (decide_eq_true e), if_pos e] <;> rfl
  · rw [if_neg (by rw [decide_eq_false e]; decide), if_neg e] <;> rfl
section
variable {ws : List (List Int)} {hs : List Hs} {n : Nat} {rank seats : List Int} {mu : List (Option Int)}
structure DInv (hs : List Hs) (n : Nat) (mu : List (Option Int)) (done : List Int) (s : DSt) : Prop where
  len : DLen n hs.length s
  at_ : ∀ k : Int, 0 ≤ k → k < n → placeAt s.due k = if k ∈ done then placeAt mu k else none
  left : ∀ h : Int, 0 ≤ h → h < hs.length → rfAt s.left h = (houseAt hs h).seats - (cntAt mu h done : Int)
theorem due_step (o : WOk ws hs n) (f : FairOk ws hs n mu) {done : List Int} {s : DSt} {k : Int} (k0 : 0 ≤ k) (k1 : k < n) (nk : k ∉ done) (D : DInv hs n mu done s)
    (sl1 : ∀ h, placeAt mu k = some h → (cntAt mu h done : Int) < (houseAt hs h).seats) (sl2 : ∀ h, h ∈ ratherM ws mu k → (houseAt hs h).seats ≤ (cntAt mu h done : Int)) : DInv hs n mu (done ++ [k]) (dueOut ws s k) := by
  have dn : placeAt s.due k = none := by rw [D.at_ k k0 k1, if_neg nk]
  have R := dueRow (n := n) (H := hs.length) k0 k1 (wishAt ws k) (placeAt mu k) D.len dn (fun h hh => (o.wOk k0 k1).2 h hh) (fun h z => ⟨f.wish k k0 k1 h z, by
    have hr := (o.wOk k0 k1).2 h (f.wish k k0 k1 h z)
    rw [D.left h hr.1 hr.2]
    have := sl1 h z
    omega⟩) (fun h hh => by
    have hr := (o.wOk k0 k1).2 h (aheadM_mem hh).1
    rw [D.left h hr.1 hr.2]
    have := sl2 h hh
    omega)
  have e2 : dueOut ws s k = _ := R
  rw [e2]
  cases c : placeAt mu k with
  | none =>
    refine ⟨D.len, fun x x0 x1 => ?_, fun h h0 h1 => ?_⟩
    · show placeAt s.due x = _
      rw [D.at_ x x0 x1]
      by_cases e : x = k
      · rw [e, if_neg nk, if_pos (List.mem_append_right _ (List.mem_singleton.mpr rfl)), c]
      · by_cases w : x ∈ done
        · rw [if_pos w, if_pos (List.mem_append_left _ w)]
        · rw [if_neg w, if_neg fun z => (List.mem_append.mp z).elim w fun z => e (List.mem_singleton.mp z)]
    · show rfAt s.left h = _
      rw [D.left h h0 h1, cnt_snoc, c, if_neg (fun z => by cases z)] <;> rfl
  | some a =>
    have ar := (o.wOk k0 k1).2 a (f.wish k k0 k1 a c)
    refine ⟨⟨by show (s.due.set _ _).length = n; rw [List.length_set]; exact D.len.due, by show (s.left.set _ _).length = hs.length; rw [List.length_set]; exact D.len.left⟩, fun x x0 x1 => ?_, fun h h0 h1 => ?_⟩
    · show (s.due.set k.toNat (some a)).getD x.toNat none = _
      rw [getD_set_at (by rw [D.len.due]; omega)]
      by_cases e : x = k
      · rw [e, if_pos rfl, if_pos (List.mem_append_right _ (List.mem_singleton.mpr rfl)), c]
      · rw [if_neg (toNat_ne k0 x0 (Ne.symm e))]
        have := D.at_ x x0 x1
        unfold placeAt at this
        rw [this]
        by_cases w : x ∈ done
        · rw [if_pos w, if_pos (List.mem_append_left _ w)] <;> rfl
        · rw [if_neg w, if_neg fun z => (List.mem_append.mp z).elim w fun z => e (List.mem_singleton.mp z)]
    · show (s.left.set a.toNat (rfAt s.left a - 1)).getD h.toNat 0 = _
      rw [getD_set_at (by rw [D.len.left]; omega), cnt_snoc, c]
      by_cases e : a = h
      · rw [if_pos (by rw [e]), if_pos (by rw [e]), e, D.left h h0 h1]
        omega
      · rw [if_neg (toNat_ne ar.1 h0 e), if_neg fun z => e (Option.some.inj z)]
        have := D.left h h0 h1
        unfold rfAt at this
        rw [this] <;> rfl
theorem due_inv (o : WOk ws hs n) (pl : ∀ h : Int, 0 ≤ h → h < hs.length → Plain (houseAt hs h) n rank) (pr : rank.Perm (rg 0 (n : Int))) (f : FairOk ws hs n mu) (hl : seats.length = hs.length) (he : ∀ h : Int, 0 ≤ h → h < hs.length → rfAt seats h = (houseAt hs h).seats) :
    ∀ i : Nat, i ≤ rank.length → DInv hs n mu (rank.take i) ((rank.take i).foldl (dueOut ws) ⟨List.replicate n none, seats⟩)
  | 0, _ => by
    rw [List.take_zero]
    refine ⟨⟨List.length_replicate, hl⟩, fun k _ _ => ?_, fun h h0 h1 => ?_⟩
    · rw [if_neg (by simp)]
      exact repl_getD rfl
    · show rfAt seats h = _
      rw [he h h0 h1]
      show _ = _ - ((0 : Nat) : Int)
      omega
  | i + 1, hi => by
    have D := due_inv o pl pr f hl he i (by omega)
    obtain ⟨k, e⟩ : ∃ k, rank[i]? = some k := ⟨rank[i], List.getElem?_eq_getElem (by omega)⟩
    obtain ⟨k0, k1⟩ := mem_rg.mp (pr.mem_iff.mp (List.mem_of_getElem? e))
    have nr : rank.Nodup := pr.nodup_iff.mpr (rg_nodup _ _)
    have nk : k ∉ rank.take i := fun hx => by
      have := nr.sublist (take_pair2 (x := k) hx e)
      exact (List.nodup_cons.mp this).1 (List.mem_singleton.mpr rfl)
    obtain ⟨sl1, sl2⟩ := seat_left o pl pr f e k0 k1
    rw [take_snoc e, List.foldl_append]
    exact due_step o f k0 k1 nk D sl1 sl2
theorem due_is (o : WOk ws hs n) (pl : ∀ h : Int, 0 ≤ h → h < hs.length → Plain (houseAt hs h) n rank) (pr : rank.Perm (rg 0 (n : Int))) (hl : seats.length = hs.length) (he : ∀ h : Int, 0 ≤ h → h < hs.length → rfAt seats h = (houseAt hs h).seats) :
    (dueM ws seats rank n).due = grantedM ws hs := by
  have f := fair_ok o (granted_len o) (granted_fair o)
  have D := due_inv o pl pr f hl he rank.length (Nat.le_refl _)
  rw [List.take_length] at D
  have e : dueM ws seats rank n = rank.foldl (dueOut ws) ⟨List.replicate n none, seats⟩ := rfl
  rw [e]
  refine pl_ext (by rw [D.len.due, granted_len o]) fun k k0 k1 => ?_
  rw [D.len.due] at k1
  rw [D.at_ k k0 k1, if_pos (pr.mem_iff.mpr (mem_rg.mpr ⟨k0, k1⟩))]
end
end CH

/-! Choosehall: law k15's world. -/
namespace CH
open PySem L2
def idxI : List Int → Int → Nat
  | [], _ => 0
  | a :: r, x => if a = x then 0 else idxI r x + 1
theorem idxI_at : ∀ {r : List Int} {x : Int}, x ∈ r → r[idxI r x]? = some x ∧ ∀ m, m < idxI r x → r[m]? ≠ some x
  | [], _, h => by cases h
  | a :: r, x, h => by
    by_cases e : a = x
    · have e1 : idxI (a :: r) x = 0 := if_pos e
      rw [e1]
      exact ⟨congrArg some e, fun m hm => absurd hm (Nat.not_lt_zero m)⟩
    · have e1 : idxI (a :: r) x = idxI r x + 1 := if_neg e
      rw [e1]
      obtain ⟨h1, h2⟩ := idxI_at ((List.mem_cons.mp h).resolve_left (Ne.symm e))
      refine ⟨h1, fun m hm => ?_⟩
      cases m with
      | zero => exact fun z => e (Option.some.inj z)
      | succ m => exact h2 m (Nat.lt_of_succ_lt_succ hm)
theorem idxI_lt : ∀ {r : List Int} {a b : Int}, r.Nodup → [a, b].Sublist r → idxI r a < idxI r b
  | [], _, _, _, h => by cases h
  | x :: r, a, b, nd, h => by
    obtain ⟨n1, n2⟩ := List.nodup_cons.mp nd
    have key : ∀ y, y ∈ r → idxI (x :: r) y = idxI r y + 1 := fun y hy => if_neg fun z => n1 (by rw [z]; exact hy)
    cases h with
    | cons _ h =>
      rw [key a (h.subset (by simp)), key b (h.subset (by simp))]
      exact Nat.succ_lt_succ (idxI_lt n2 h)
    | cons_cons _ h =>
      rw [key b (h.subset (by simp)), show idxI (x :: r) x = 0 from if_pos rfl]
      exact Nat.succ_pos _
def rkOf (many cell : Int) : List Int := (rg 0 many).map fun k => (k * (1 + 2 * (cell % 3)) + cell / 3) % many
def rankBy (many cell : Int) : List Int := if (rkOf many cell).mergeSort leB = rg 0 many then rkOf many cell else rg 0 many
theorem rankBy_perm (many cell : Int) : (rankBy many cell).Perm (rg 0 many) := by
  unfold rankBy
  split
  · rename_i h
    exact (List.mergeSort_perm _ leB).symm.trans (by rw [h])
  · exact .refl _
/-- law k15's numbers -/
def mMany (s : List Int) : Int := 1 + cellAt s 0 % 24
def mHouses (s : List Int) : Int := 1 + cellAt s 1 % 8
def mRank (s : List Int) : List Int := rankBy (mMany s) (cellAt s 3)
def mPts (s : List Int) : List Int := (rg 0 (mMany s)).map fun k => 1000 - cellAt s 4 % 3 * (idxI (mRank s) k : Int)
def mSeat (s : List Int) (h : Int) : Int := (cellAt s 2 / 5 + 3 * h) % 5
def mSeats (s : List Int) : List Int := (rg 0 (mHouses s)).map (mSeat s)
def mRow (s : List Int) (k : Int) : List Int := ((rg 0 (mHouses s)).map fun h => (cellAt s (5 + k) + h) % mHouses s).take (mHouses s - cellAt s 2 % 3 * (k % 2) % mHouses s).toNat
def mWish (s : List Int) : List (List Int) := (rg 0 (mMany s)).map (mRow s)
def mHs (s : List Int) (h : Int) : Hs := { seats := mSeat s h, kept := 0, kind := 0, opened := decide (cellAt s 2 % 2 = 0), pts := (mPts s).map some, kinds := List.replicate (mMany s).toNat 0, row := mRank s }
def mHall (s : List Int) : List Hs := (rg 0 (mHouses s)).map (mHs s)
theorem mMany_in (s : List Int) : 1 ≤ mMany s ∧ mMany s ≤ 24 := by
  unfold mMany
  omega
theorem mHouses_in (s : List Int) : 1 ≤ mHouses s ∧ mHouses s ≤ 8 := by
  unfold mHouses
  omega
theorem mSeat_in (s : List Int) (h : Int) : 0 ≤ mSeat s h ∧ mSeat s h ≤ 4 := by
  unfold mSeat
  omega
theorem rot_nodup {c H : Int} (h0 : 0 < H) : ((rg 0 H).map fun h => (c + h) % H).Nodup := by
  refine List.pairwise_map.mpr ((rg_nodup 0 H).imp_of_mem fun {a b} ha hb ne e => ne ?_)
  obtain ⟨a0, a1⟩ := mem_rg.mp ha
  obtain ⟨b0, b1⟩ := mem_rg.mp hb
  have e1 := Int.emod_emod_of_dvd (c + a - (c + b)) (Int.dvd_refl H)
  have e2 : (c + a - (c + b)) % H = 0 := Int.emod_eq_emod_iff_emod_sub_eq_zero.mp e
  have e3 : (a - b) % H = 0 := by
    have : c + a - (c + b) = a - b := by omega
    rw [this] at e2
    exact e2
  obtain ⟨q, hq⟩ := Int.dvd_of_emod_eq_zero e3
  have q0 : q = 0 := by
    rcases Int.lt_trichotomy q 0 with z | z | z
    · have : H * q ≤ H * (-1) := Int.mul_le_mul_of_nonneg_left (by omega) (by omega)
      omega
    · exact z
    · have : H * 1 ≤ H * q := Int.mul_le_mul_of_nonneg_left (by omega) (by omega)
      omega
  rw [q0, Int.mul_zero] at hq
  omega
theorem mRank_perm (s : List Int) : (mRank s).Perm (rg 0 ((mMany s).toNat : Int)) := by
  have := mMany_in s
  rw [show ((mMany s).toNat : Int) = mMany s by omega]
  exact rankBy_perm _ _
theorem mHs_ok (s : List Int) (h : Int) : HsOk (mHs s h) (mMany s).toNat := by
  have m := mMany_in s
  refine ⟨?_, List.length_replicate, mRank_perm s, by omega, Int.le_refl 0, (mSeat_in s h).1⟩
  show ((mPts s).map some).length = _
  unfold mPts
  rw [List.length_map, List.length_map, rg_len]
  omega
theorem mHall_at (s : List Int) {h : Int} (h0 : 0 ≤ h) (h1 : h < mHouses s) : houseAt (mHall s) h = mHs s h := by
  have := mHouses_in s
  obtain ⟨m, hm⟩ : ∃ m : Nat, mHouses s = m := ⟨(mHouses s).toNat, by omega⟩
  unfold houseAt mHall
  rw [hm]
  exact getD_rg h0 (by omega)
theorem mHall_len (s : List Int) : (mHall s).length = (mHouses s).toNat := by
  unfold mHall
  rw [List.length_map, rg_len]
  omega
theorem m_ok (s : List Int) : WOk (mWish s) (mHall s) (mMany s).toNat := by
  have m := mMany_in s
  have hh := mHouses_in s
  refine ⟨?_, by omega, by rw [mHall_len]; omega, fun h hm => ?_, fun r hr => ?_⟩
  · unfold mWish
    rw [List.length_map, rg_len]
    omega
  · unfold mHall at hm
    obtain ⟨k, _, rfl⟩ := List.mem_map.mp hm
    exact mHs_ok s k
  · unfold mWish at hr
    obtain ⟨k, _, rfl⟩ := List.mem_map.mp hr
    unfold mRow
    refine ⟨(rot_nodup (by omega)).sublist (List.take_sublist _ _), fun x hx => ?_⟩
    obtain ⟨a, _, rfl⟩ := List.mem_map.mp (List.mem_of_mem_take hx)
    rw [mHall_len]
    have e1 := Int.emod_nonneg (cellAt s (5 + k) + a) (show mHouses s ≠ 0 by omega)
    have e2 := Int.emod_lt_of_pos (cellAt s (5 + k) + a) (show 0 < mHouses s by omega)
    omega
theorem mPt_at (s : List Int) (h : Int) {k : Int} (k0 : 0 ≤ k) (k1 : k < mMany s) : ptAt (mHs s h) k = some (1000 - cellAt s 4 % 3 * (idxI (mRank s) k : Int)) := by
  obtain ⟨m, hm⟩ : ∃ m : Nat, mMany s = m := ⟨(mMany s).toNat, by omega⟩
  show ((mPts s).map some).getD k.toNat none = _
  unfold mPts
  rw [List.map_map, hm]
  exact getD_rg (f := fun k => some (1000 - cellAt s 4 % 3 * (idxI (mRank s) k : Int))) k0 (by omega)
theorem m_plain (s : List Int) {h : Int} (h0 : 0 ≤ h) (h1 : h < mHouses s) : Plain (mHs s h) (mMany s).toNat (mRank s) := by
  have m := mMany_in s
  have pr := mRank_perm s
  have nr : (mRank s).Nodup := pr.nodup_iff.mpr (rg_nodup _ _)
  refine ⟨mHs_ok s h, rfl, fun k k0 k1 => by rw [mPt_at s h k0 (by omega)]; rfl, pr, ?_⟩
  rw [List.pairwise_iff_forall_sublist]
  intro a b hab
  have ra := mem_rg.mp (pr.mem_iff.mp (hab.subset (by simp : a ∈ [a, b])))
  have rb := mem_rg.mp (pr.mem_iff.mp (hab.subset (by simp : b ∈ [a, b])))
  refine ⟨?_, fun _ => hab⟩
  have lt := idxI_lt nr hab
  unfold byKey
  rw [ptOf_at, ptOf_at, mPt_at s h ra.1 (by omega), mPt_at s h rb.1 (by omega)]
  refine decide_eq_true ?_
  show -(1000 - cellAt s 4 % 3 * (idxI (mRank s) a : Int)) ≤ -(1000 - cellAt s 4 % 3 * (idxI (mRank s) b : Int))
  have e : cellAt s 4 % 3 * (idxI (mRank s) a : Int) ≤ cellAt s 4 % 3 * (idxI (mRank s) b : Int) := Int.mul_le_mul_of_nonneg_left (by omega) (by omega)
  omega
theorem mSeats_at (s : List Int) {h : Int} (h0 : 0 ≤ h) (h1 : h < mHouses s) : rfAt (mSeats s) h = mSeat s h := by
  obtain ⟨m, hm⟩ : ∃ m : Nat, mHouses s = m := ⟨(mHouses s).toNat, by omega⟩
  unfold rfAt mSeats
  rw [hm]
  exact getD_rg h0 (by omega)
theorem m_due (s : List Int) : (dueM (mWish s) (mSeats s) (mRank s) (mMany s).toNat).due = grantedM (mWish s) (mHall s) := by
  have hh := mHouses_in s
  have hl := mHall_len s
  refine due_is (m_ok s) (fun h h0 h1 => ?_) (mRank_perm s) ?_ (fun h h0 h1 => ?_)
  · rw [mHall_at s h0 (by omega)]
    exact m_plain s h0 (by omega)
  · rw [hl]
    unfold mSeats
    rw [List.length_map, rg_len]
    omega
  · rw [mHall_at s h0 (by omega), mSeats_at s h0 (by omega)] <;> rfl
end CH

/-! Choosehall: places moved by steps. -/
namespace CH
open PySem L2
def waitM (ws : List (List Int)) (ps : List (Option Int)) (h : Int) : List Int := (rg 0 ps.length).filter fun k => decide (h ∈ ratherM ws ps k)
def minI : List Int → Int
  | [] => 0
  | [a] => a
  | a :: b :: l => if a ≤ minI (b :: l) then a else minI (b :: l)
theorem minI_is : ∀ {l : List Int}, l ≠ [] → minI l ∈ l ∧ ∀ y ∈ l, minI l ≤ y
  | [], h => absurd rfl h
  | [a], _ => ⟨List.mem_singleton.mpr rfl, fun y hy => by rw [List.mem_singleton.mp hy]; exact Int.le_refl _⟩
  | a :: b :: l, _ => by
    obtain ⟨h1, h2⟩ := minI_is (l := b :: l) (fun z => by cases z)
    by_cases e : a ≤ minI (b :: l)
    · have e1 : minI (a :: b :: l) = a := if_pos e
      rw [e1]
      refine ⟨List.mem_cons_self, fun y hy => ?_⟩
      rcases List.mem_cons.mp hy with z | z
      · omega
      · have := h2 y z
        omega
    · have e1 : minI (a :: b :: l) = minI (b :: l) := if_neg e
      rw [e1]
      refine ⟨List.mem_cons_of_mem _ h1, fun y hy => ?_⟩
      rcases List.mem_cons.mp hy with z | z
      · omega
      · exact h2 y z
def mvH (ws : List (List Int)) (hs : List Hs) (ps : List (Option Int)) : Int := minI ((pairsM ws hs ps).map (·.2))
def mvRow (ws : List (List Int)) (hs : List Hs) (ps : List (Option Int)) : List Int := rankedM (houseAt hs (mvH ws hs ps)) (waitM ws ps (mvH ws hs ps))
def mvTaken (ws : List (List Int)) (hs : List Hs) (ps : List (Option Int)) : List Int := chosenM (houseAt hs (mvH ws hs ps)) (heldM ps (mvH ws hs ps) ++ mvRow ws hs ps)
def mvFirst (ws : List (List Int)) (hs : List Hs) (ps : List (Option Int)) : List Int := (mvRow ws hs ps).filter fun k => decide (k ∈ mvTaken ws hs ps)
def mvC (ws : List (List Int)) (hs : List Hs) (ps : List (Option Int)) : Int := (mvFirst ws hs ps).getD 0 0
def mvNext (ws : List (List Int)) (hs : List Hs) (ps : List (Option Int)) : List (Option Int) := ps.set (mvC ws hs ps).toNat (some (mvH ws hs ps))
/-- what holds all along -/
structure Mv (ws : List (List Int)) (hs : List Hs) (n : Nat) (ps : List (Option Int)) : Prop where
  len : ps.length = n
  wish : ∀ k : Int, 0 ≤ k → k < n → ∀ h, placeAt ps k = some h → h ∈ wishAt ws k
  hold : ∀ h : Int, 0 ≤ h → h < hs.length → ∀ k ∈ heldM ps h, k ∈ chosenM (houseAt hs h) (heldM ps h ++ waitM ws ps h)
section
variable {ws : List (List Int)} {hs : List Hs} {n : Nat} {ps mu : List (Option Int)}
theorem mem_wait {h k : Int} : k ∈ waitM ws ps h ↔ (0 ≤ k ∧ k < ps.length) ∧ h ∈ ratherM ws ps k := by
  unfold waitM
  rw [List.mem_filter, mem_rg, decide_eq_true_eq]
theorem mem_pairs {p : Int × Int} : p ∈ pairsM ws hs ps ↔ (0 ≤ p.1 ∧ p.1 < ps.length) ∧ p.2 ∈ ratherM ws ps p.1 ∧ p.1 ∈ chosenM (houseAt hs p.2) (heldM ps p.2 ++ [p.1]) := by
  unfold pairsM
  rw [List.mem_flatMap]
  constructor
  · rintro ⟨k, hk, hp⟩
    unfold pairsOf at hp
    obtain ⟨h, hh, rfl⟩ := List.mem_map.mp hp
    obtain ⟨h1, h2⟩ := List.mem_filter.mp hh
    exact ⟨mem_rg.mp hk, h1, of_decide_eq_true h2⟩
  · rintro ⟨h1, h2, h3⟩
    refine ⟨p.1, mem_rg.mpr h1, ?_⟩
    unfold pairsOf
    exact List.mem_map.mpr ⟨p.2, List.mem_filter.mpr ⟨h2, decide_eq_true h3⟩, rfl⟩
theorem place_set {c : Int} {p : Option Int} (c0 : 0 ≤ c) (c1 : c < ps.length) {k : Int} (k0 : 0 ≤ k) : placeAt (ps.set c.toNat p) k = if k = c then p else placeAt ps k := by
  unfold placeAt
  rw [getD_set_at (by omega)]
  by_cases e : k = c
  · rw [if_pos e, if_pos (by rw [e])]
  · rw [if_neg e, if_neg (toNat_ne c0 k0 (Ne.symm e))]
/-- a house nearer the front leaves fewer ahead -/
theorem ahead_sub2 {h : Int} : ∀ {r : List Int} {p : Option Int}, h ∈ aheadM r p → ∀ x ∈ aheadM r (some h), x ∈ aheadM r p
  | [], _, z => by cases z
  | a :: r, p, z => by
    unfold aheadM at z
    by_cases e : some a = p
    · rw [if_pos e] at z
      cases z
    · rw [if_neg e] at z
      intro x hx
      unfold aheadM at hx ⊢
      rw [if_neg e]
      by_cases e2 : some a = some h
      · rw [if_pos e2] at hx
        cases hx
      · rw [if_neg e2] at hx
        have z2 := (List.mem_cons.mp z).resolve_left fun w => e2 (by rw [w])
        rcases List.mem_cons.mp hx with w | w
        · rw [w]
          exact List.mem_cons_self
        · exact List.mem_cons_of_mem _ (ahead_sub2 z2 x w)
theorem ahead_lt2 {h : Int} : ∀ {r : List Int} {p : Option Int}, h ∈ aheadM r p → (aheadM r (some h)).length < (aheadM r p).length
  | [], _, z => by cases z
  | a :: r, p, z => by
    unfold aheadM at z
    by_cases e : some a = p
    · rw [if_pos e] at z
      cases z
    · rw [if_neg e] at z
      unfold aheadM
      rw [if_neg e]
      by_cases e2 : some a = some h
      · rw [if_pos e2]
        exact Nat.succ_pos _
      · rw [if_neg e2]
        have z2 := (List.mem_cons.mp z).resolve_left fun w => e2 (by rw [w])
        exact Nat.succ_lt_succ (ahead_lt2 z2)
/-- whether those that wait are ranked first makes no difference -/
theorem chosen_row {h : Hs} (A W : List Int) : chosenM h (A ++ rankedM h W) = chosenM h (A ++ W) := by
  have e0 : h.row.filter (ableB h (A ++ rankedM h W)) = h.row.filter (ableB h (A ++ W)) := List.filter_congr fun k hk => by
    show (decide (k ∈ A ++ rankedM h W) && (ptAt h k).isSome) = (decide (k ∈ A ++ W) && (ptAt h k).isSome)
    cases c : (ptAt h k).isSome with
    | false => rw [Bool.and_false, Bool.and_false]
    | true =>
      rw [Bool.and_true, Bool.and_true]
      refine decide_eq_decide.mpr ?_
      rw [List.mem_append, List.mem_append, mem_rankedM]
      exact ⟨fun z => z.elim Or.inl fun z => Or.inr z.2.1, fun z => z.elim Or.inl fun z => Or.inr ⟨hk, z, c⟩⟩
  have e : rankedM h (A ++ rankedM h W) = rankedM h (A ++ W) := congrArg (fun l => l.mergeSort (byKey h)) e0
  unfold chosenM
  rw [e]
/-- of a pair a step can be made -/
theorem mv_main (o : WOk ws hs n) (M : Mv ws hs n ps) (ne : pairsM ws hs ps ≠ []) : (0 ≤ mvH ws hs ps ∧ mvH ws hs ps < hs.length) ∧ mvFirst ws hs ps ≠ [] ∧ (0 ≤ mvC ws hs ps ∧ mvC ws hs ps < n) ∧ mvH ws hs ps ∈ ratherM ws ps (mvC ws hs ps) ∧
    mvC ws hs ps ∈ chosenM (houseAt hs (mvH ws hs ps)) (heldM ps (mvH ws hs ps) ++ waitM ws ps (mvH ws hs ps)) := by
  obtain ⟨i1, i2⟩ := minI_is (l := (pairsM ws hs ps).map (·.2)) (fun z => ne (List.map_eq_nil_iff.mp z))
  obtain ⟨p, hp, ep⟩ := List.mem_map.mp i1
  have ep' : p.2 = mvH ws hs ps := ep
  obtain ⟨p1, p2, p3⟩ := mem_pairs.mp hp
  rw [ep'] at p2 p3
  rw [M.len] at p1
  have hr := (o.wOk p1.1 p1.2).2 _ (aheadM_mem p2).1
  have ho := o.hOk hr.1 hr.2
  have hT : mvTaken ws hs ps = chosenM (houseAt hs (mvH ws hs ps)) (heldM ps (mvH ws hs ps) ++ waitM ws ps (mvH ws hs ps)) := chosen_row _ _
  have hne : mvFirst ws hs ps ≠ [] := fun z => by
    have none : ∀ x ∈ mvRow ws hs ps, x ∉ mvTaken ws hs ps := fun x hx w => by
      have : x ∈ mvFirst ws hs ps := List.mem_filter.mpr ⟨hx, decide_eq_true w⟩
      rw [z] at this
      cases this
    have hc := chosen_in ho p3
    have pw : p.1 ∈ waitM ws ps (mvH ws hs ps) := mem_wait.mpr ⟨by rw [M.len]; exact p1, p2⟩
    have e := ch_irc ho (S := heldM ps (mvH ws hs ps) ++ [p.1]) (T := heldM ps (mvH ws hs ps) ++ waitM ws ps (mvH ws hs ps)) (fun k hk => by
      rcases List.mem_append.mp hk with w | w
      · exact List.mem_append_left _ w
      · rw [List.mem_singleton.mp w]
        exact List.mem_append_right _ pw) (fun k hk => by
      have hin := chosen_in ho hk
      rcases List.mem_append.mp hin.2.1 with w | w
      · exact List.mem_append_left _ w
      · exact absurd (by rw [hT]; exact hk) (none k (mem_rankedM.mpr ⟨hin.1, w, hin.2.2⟩)))
    rw [e] at p3
    exact none p.1 (mem_rankedM.mpr ⟨hc.1, pw, hc.2.2⟩) (by rw [hT]; exact p3)
  have hc : mvC ws hs ps ∈ mvFirst ws hs ps := by
    unfold mvC
    cases q : mvFirst ws hs ps with
    | nil => exact absurd q hne
    | cons a l => exact List.mem_cons_self
  obtain ⟨c1, c2⟩ := List.mem_filter.mp hc
  have c3 := mem_wait.mp (mem_rankedM.mp c1).2.1
  rw [M.len] at c3
  refine ⟨hr, hne, c3.1, c3.2, ?_⟩
  rw [← hT]
  exact of_decide_eq_true c2
def mvMeas (ws : List (List Int)) (ps : List (Option Int)) : Nat := ((rg 0 ps.length).map fun k => (ratherM ws ps k).length).sum
theorem mv_next (o : WOk ws hs n) (M : Mv ws hs n ps) (ne : pairsM ws hs ps ≠ []) : Mv ws hs n (mvNext ws hs ps) ∧ mvMeas ws (mvNext ws hs ps) < mvMeas ws ps := by
  obtain ⟨hr, hne, c0, hin, hch⟩ := mv_main o M ne
  have pl : ∀ k : Int, 0 ≤ k → placeAt (mvNext ws hs ps) k = if k = mvC ws hs ps then some (mvH ws hs ps) else placeAt ps k := fun k k0 => place_set c0.1 (by rw [M.len]; exact c0.2) k0
  have ln : (mvNext ws hs ps).length = n := by
    unfold mvNext
    rw [List.length_set, M.len]
  generalize mvNext ws hs ps = qs at pl ln
  generalize mvH ws hs ps = H at *
  generalize mvC ws hs ps = c at *
  have ra : ∀ k : Int, 0 ≤ k → k ≠ c → ratherM ws qs k = ratherM ws ps k := fun k k0 e => by
    unfold ratherM
    rw [pl k k0, if_neg e]
  have rc : ratherM ws qs c = aheadM (wishAt ws c) (some H) := by
    unfold ratherM
    rw [pl c c0.1, if_pos rfl]
  have sub : ∀ h k : Int, (k ∈ heldM qs h ++ waitM ws qs h) → (k ∈ heldM ps h ++ waitM ws ps h) := fun h k hk => by
    rcases List.mem_append.mp hk with w | w
    · obtain ⟨w1, w2⟩ := mem_held.mp w
      rw [ln] at w1
      rw [pl k w1.1] at w2
      by_cases e : k = c
      · rw [if_pos e] at w2
        refine List.mem_append_right _ (mem_wait.mpr ⟨by rw [M.len]; exact w1, ?_⟩)
        rw [e, ← Option.some.inj w2]
        exact hin
      · rw [if_neg e] at w2
        exact List.mem_append_left _ (mem_held.mpr ⟨by rw [M.len]; exact w1, w2⟩)
    · obtain ⟨w1, w2⟩ := mem_wait.mp w
      rw [ln] at w1
      refine List.mem_append_right _ (mem_wait.mpr ⟨by rw [M.len]; exact w1, ?_⟩)
      by_cases e : k = c
      · rw [e, rc] at w2
        rw [e]
        exact ahead_sub2 hin h w2
      · rw [ra k w1.1 e] at w2
        exact w2
  refine ⟨⟨ln, fun k k0 k1 h e => ?_, fun h h0 h1 k hk => ?_⟩, ?_⟩
  · rw [pl k k0] at e
    by_cases z : k = c
    · rw [if_pos z] at e
      rw [z, ← Option.some.inj e]
      exact (aheadM_mem hin).1
    · rw [if_neg z] at e
      exact M.wish k k0 k1 h e
  · refine ch_subst (o.hOk h0 h1) (sub h) (List.mem_append_left _ hk) ?_
    obtain ⟨w1, w2⟩ := mem_held.mp hk
    rw [ln] at w1
    rw [pl k w1.1] at w2
    by_cases z : k = c
    · rw [if_pos z] at w2
      have w2' := Option.some.inj w2
      subst w2'
      rw [z]
      exact hch
    · rw [if_neg z] at w2
      exact M.hold h h0 h1 k (mem_held.mpr ⟨by rw [M.len]; exact w1, w2⟩)
  · unfold mvMeas
    rw [ln, M.len]
    refine sum_lt (fun k hk => ?_) (mem_rg.mpr c0) ?_
    · by_cases z : k = c
      · rw [z, rc]
        exact Nat.le_of_lt (ahead_lt2 hin)
      · rw [ra k (mem_rg.mp hk).1 z]
        exact Nat.le_refl _
    · rw [rc]
      exact ahead_lt2 hin
/-- at the end the places are fair -/
theorem mv_end (o : WOk ws hs n) (M : Mv ws hs n ps) (e : pairsM ws hs ps = []) : fairM ws hs ps = true := by
  refine (fair_iff o M.len).mpr ⟨M.wish, fun h h0 h1 => ?_, fun k h k0 k1 hh z => ?_⟩
  · have ho := o.hOk h0 h1
    refine chosen_ext ho (held_sorted _ _) (held_nodup _ _) fun k => ⟨fun z => (chosen_in ho z).2.1, fun z => ?_⟩
    exact ch_subst ho (fun x hx => List.mem_append_left _ hx) z (M.hold h h0 h1 k z)
  · have : (k, h) ∈ pairsM ws hs ps := mem_pairs.mpr ⟨by rw [M.len]; exact ⟨k0, k1⟩, hh, z⟩
    rw [e] at this
    cases this
theorem fair_mv (o : WOk ws hs n) (f : FairOk ws hs n mu) : Mv ws hs n mu := by
  refine ⟨f.len, f.wish, fun h h0 h1 k hk => ?_⟩
  have e := key o f h0 h1 (X := waitM ws mu h) fun x hx => by
    have := mem_wait.mp hx
    rw [f.len] at this
    exact ⟨this.1, Or.inr this.2⟩
  have e2 : chosenM (houseAt hs h) (heldM mu h ++ waitM ws mu h) = chosenM (houseAt hs h) (waitM ws mu h ++ heldM mu h) := chosen_congr fun x => by
    rw [List.mem_append, List.mem_append]
    exact Or.comm
  rw [e2, e]
  exact hk
/-- none worse -/
def Btr (ws : List (List Int)) (ps qs : List (Option Int)) (k : Int) : Prop := placeAt qs k = placeAt ps k ∨ ∃ h, placeAt qs k = some h ∧ h ∈ ratherM ws ps k
theorem btr_next (o : WOk ws hs n) {p0 : List (Option Int)} (M : Mv ws hs n ps) (ne : pairsM ws hs ps ≠ []) {k : Int} (k0 : 0 ≤ k) (b : Btr ws p0 ps k) : Btr ws p0 (mvNext ws hs ps) k := by
  obtain ⟨hr, hne, c0, hin, hch⟩ := mv_main o M ne
  have pl : placeAt (mvNext ws hs ps) k = if k = mvC ws hs ps then some (mvH ws hs ps) else placeAt ps k := place_set c0.1 (by rw [M.len]; exact c0.2) k0
  unfold Btr
  rw [pl]
  by_cases e : k = mvC ws hs ps
  · rw [if_pos e]
    rw [← e] at hin
    refine Or.inr ⟨_, rfl, ?_⟩
    rcases b with w | ⟨h, w1, w2⟩
    · unfold ratherM at hin ⊢
      rw [w] at hin
      exact hin
    · unfold ratherM at hin w2 ⊢
      rw [w1] at hin
      exact ahead_sub2 w2 _ hin
  · rw [if_neg e]
    exact b
/-! ### the run -/
def mvIt (ws : List (List Int)) (hs : List Hs) (ps : List (Option Int)) : Nat → List (Option Int)
  | 0 => ps
  | i + 1 => mvNext ws hs (mvIt ws hs ps i)
def mvStep (ws : List (List Int)) (hs : List Hs) (ps : List (Option Int)) : Int × Option Int × Int := (mvC ws hs ps, placeAt ps (mvC ws hs ps), mvH ws hs ps)
/-- how many steps are made -/
def mvLen (ws : List (List Int)) (hs : List Hs) : Nat → List (Option Int) → Nat
  | 0, _ => 0
  | f + 1, ps => if pairsM ws hs ps = [] then 0 else mvLen ws hs f (mvNext ws hs ps) + 1
def mvN (ws : List (List Int)) (hs : List Hs) (ps : List (Option Int)) : Nat := mvLen ws hs (mvMeas ws ps) ps
def movedM (ws : List (List Int)) (hs : List Hs) (ps : List (Option Int)) : List (Option Int) := mvIt ws hs ps (mvN ws hs ps)
def stepsM (ws : List (List Int)) (hs : List Hs) (ps : List (Option Int)) : List (Int × Option Int × Int) := (List.range (mvN ws hs ps)).map fun i => mvStep ws hs (mvIt ws hs ps i)
theorem mvIt_shift (ws : List (List Int)) (hs : List Hs) (ps : List (Option Int)) : ∀ i : Nat, mvIt ws hs ps (i + 1) = mvIt ws hs (mvNext ws hs ps) i
  | 0 => rfl
  | i + 1 => by
    show mvNext ws hs (mvIt ws hs ps (i + 1)) = mvNext ws hs (mvIt ws hs (mvNext ws hs ps) i)
    rw [mvIt_shift ws hs ps i]
theorem mvLen_is (o : WOk ws hs n) : ∀ (f : Nat) (ps : List (Option Int)), Mv ws hs n ps → mvMeas ws ps ≤ f → (∀ i, i < mvLen ws hs f ps → Mv ws hs n (mvIt ws hs ps i) ∧ pairsM ws hs (mvIt ws hs ps i) ≠ []) ∧ Mv ws hs n (mvIt ws hs ps (mvLen ws hs f ps)) ∧ pairsM ws hs (mvIt ws hs ps (mvLen ws hs f ps)) = [] ∧ mvLen ws hs f ps ≤ f
  | 0, ps, M, hm => by
    refine ⟨fun i hi => absurd hi (Nat.not_lt_zero i), M, ?_, Nat.le_refl _⟩
    by_cases z : pairsM ws hs ps = []
    · exact z
    · exact absurd (mv_next o M z).2 (by omega)
  | f + 1, ps, M, hm => by
    by_cases z : pairsM ws hs ps = []
    · have e : mvLen ws hs (f + 1) ps = 0 := if_pos z
      rw [e]
      exact ⟨fun i hi => absurd hi (Nat.not_lt_zero i), M, z, Nat.zero_le _⟩
    · have e : mvLen ws hs (f + 1) ps = mvLen ws hs f (mvNext ws hs ps) + 1 := if_neg z
      rw [e]
      obtain ⟨M2, lt⟩ := mv_next o M z
      obtain ⟨a, b, c, d⟩ := mvLen_is o f (mvNext ws hs ps) M2 (by omega)
      refine ⟨fun i hi => ?_, ?_, ?_, Nat.succ_le_succ d⟩
      · cases i with
        | zero => exact ⟨M, z⟩
        | succ i =>
          rw [mvIt_shift]
          exact a i (by omega)
      · rw [mvIt_shift]
        exact b
      · rw [mvIt_shift]
        exact c
theorem moved_is (o : WOk ws hs n) (M : Mv ws hs n ps) : (∀ i, i < mvN ws hs ps → Mv ws hs n (mvIt ws hs ps i) ∧ pairsM ws hs (mvIt ws hs ps i) ≠ []) ∧ Mv ws hs n (movedM ws hs ps) ∧ pairsM ws hs (movedM ws hs ps) = [] ∧ mvN ws hs ps ≤ mvMeas ws ps := mvLen_is o _ ps M (Nat.le_refl _)
theorem moved_fair (o : WOk ws hs n) (M : Mv ws hs n ps) : fairM ws hs (movedM ws hs ps) = true := by
  obtain ⟨a, b, c, d⟩ := moved_is o M
  exact mv_end o b c
theorem moved_len (o : WOk ws hs n) (M : Mv ws hs n ps) : (movedM ws hs ps).length = n := (moved_is o M).2.1.len
theorem it_btr (o : WOk ws hs n) (M : Mv ws hs n ps) {k : Int} (k0 : 0 ≤ k) : ∀ i : Nat, i ≤ mvN ws hs ps → Btr ws ps (mvIt ws hs ps i) k
  | 0, _ => Or.inl rfl
  | i + 1, hi => by
    obtain ⟨a, _⟩ := moved_is o M
    obtain ⟨M2, ne⟩ := a i (by omega)
    exact btr_next o M2 ne k0 (it_btr o M k0 i (by omega))
theorem moved_btr (o : WOk ws hs n) (M : Mv ws hs n ps) {k : Int} (k0 : 0 ≤ k) : Btr ws ps (movedM ws hs ps) k := it_btr o M k0 _ (Nat.le_refl _)
theorem meas_small (o : WOk ws hs n) (hl : ps.length = n) : mvMeas ws ps ≤ 192 := by
  have h1 : mvMeas ws ps ≤ ((rg 0 ps.length).map fun _ => 8).sum := sum_le fun k hk => by
    obtain ⟨k0, k1⟩ := mem_rg.mp hk
    exact Nat.le_trans (aheadM_sub _ _).length_le (o.wLen k0 (by omega))
  have h2 : ∀ l : List Int, (l.map fun _ => 8).sum = 8 * l.length := fun l => by
    induction l with
    | nil => rfl
    | cons a l ih =>
      rw [List.map_cons, List.sum_cons, ih, List.length_cons]
      omega
  rw [h2, rg_len] at h1
  have := o.small
  omega
end
/-! ### a going; more seats -/
def goneW (ws : List (List Int)) (c : Int) : List (List Int) := ws.set c.toNat []
def goneP (ps : List (Option Int)) (c : Int) : List (Option Int) := ps.set c.toNat none
section
variable {ws : List (List Int)} {hs : List Hs} {n : Nat} {ps mu : List (Option Int)}
theorem wish_set {c : Int} {r : List Int} (c0 : 0 ≤ c) (c1 : c < ws.length) {k : Int} (k0 : 0 ≤ k) : wishAt (ws.set c.toNat r) k = if k = c then r else wishAt ws k := by
  unfold wishAt
  rw [getD_set_at (by omega)]
  by_cases e : k = c
  · rw [if_pos e, if_pos (by rw [e])]
  · rw [if_neg e, if_neg (toNat_ne c0 k0 (Ne.symm e))]
theorem gone_ok (o : WOk ws hs n) (c : Int) : WOk (goneW ws c) hs n := by
  refine ⟨by unfold goneW; rw [List.length_set]; exact o.len, o.small, o.few, o.house, fun r hr => ?_⟩
  rcases List.mem_or_eq_of_mem_set hr with z | z
  · exact o.wish r z
  · rw [z]
    exact ⟨List.nodup_nil, fun x hx => by cases hx⟩
theorem gone_mv (o : WOk ws hs n) (M : Mv ws hs n mu) {c : Int} (c0 : 0 ≤ c) (c1 : c < n) : Mv (goneW ws c) hs n (goneP mu c) := by
  have wl := o.len
  have ml := M.len
  have pl : ∀ k : Int, 0 ≤ k → placeAt (goneP mu c) k = if k = c then none else placeAt mu k := fun k k0 => place_set c0 (by omega) k0
  have wi : ∀ k : Int, 0 ≤ k → wishAt (goneW ws c) k = if k = c then [] else wishAt ws k := fun k k0 => wish_set c0 (by omega) k0
  have ln : (goneP mu c).length = n := by
    unfold goneP
    rw [List.length_set, ml]
  refine ⟨ln, fun k k0 k1 h e => ?_, fun h h0 h1 k hk => ?_⟩
  · rw [pl k k0] at e
    rw [wi k k0]
    by_cases z : k = c
    · rw [if_pos z] at e
      cases e
    · rw [if_neg z] at e ⊢
      exact M.wish k k0 k1 h e
  · refine ch_subst (o.hOk h0 h1) (T := heldM mu h ++ waitM ws mu h) (fun x hx => ?_) (List.mem_append_left _ hk) ?_
    · rcases List.mem_append.mp hx with w | w
      · obtain ⟨w1, w2⟩ := mem_held.mp w
        rw [ln] at w1
        rw [pl x w1.1] at w2
        by_cases z : x = c
        · rw [if_pos z] at w2
          cases w2
        · rw [if_neg z] at w2
          exact List.mem_append_left _ (mem_held.mpr ⟨by rw [ml]; exact w1, w2⟩)
      · obtain ⟨w1, w2⟩ := mem_wait.mp w
        rw [ln] at w1
        unfold ratherM at w2
        rw [wi x w1.1, pl x w1.1] at w2
        by_cases z : x = c
        · rw [if_pos z] at w2
          cases w2
        · rw [if_neg z, if_neg z] at w2
          exact List.mem_append_right _ (mem_wait.mpr ⟨by rw [ml]; exact w1, w2⟩)
    · obtain ⟨w1, w2⟩ := mem_held.mp hk
      rw [ln] at w1
      rw [pl k w1.1] at w2
      by_cases z : k = c
      · rw [if_pos z] at w2
        cases w2
      · rw [if_neg z] at w2
        exact M.hold h h0 h1 k (mem_held.mpr ⟨by rw [ml]; exact w1, w2⟩)
end
end CH

/-! Choosehall: more seats. -/
namespace CH
open PySem L2
def moreM (h : Hs) (m : Int) : Hs := { h with seats := h.seats + m }
theorem more_ok {h : Hs} {n : Nat} {m : Int} (o : HsOk h n) (h0 : 0 ≤ m) : HsOk (moreM h m) n := ⟨o.pts, o.kinds, o.row, o.small, o.kept0, by have := o.kept; show h.kept ≤ h.seats + m; omega⟩
theorem more_sub {h : Hs} {n : Nat} {m : Int} (o : HsOk h n) (h0 : 0 ≤ m) {S : List Int} {k : Int} (e : k ∈ chosenM h S) : k ∈ chosenM (moreM h m) S := by
  rw [mem_chosen o.kept0] at e
  rw [mem_chosen (more_ok o h0).kept0]
  have e2 : Pick (kindB h) h.kept.toNat (freeM (moreM h m) S) (rankedM h S) k := e.le (by
    show (chFree h (insideM h S).length).toNat ≤ (chFree (moreM h m) (insideM h S).length).toNat
    unfold chFree
    show (if h.opened = true then h.seats - _ else h.seats - h.kept).toNat ≤ (if h.opened = true then h.seats + m - _ else h.seats + m - h.kept).toNat
    split <;> omega)
  exact e2
def moreHs (hs : List Hs) (h m : Int) : List Hs := hs.set h.toNat (moreM (houseAt hs h) m)
section
variable {ws : List (List Int)} {hs : List Hs} {n : Nat} {ps : List (Option Int)} {h m : Int}
theorem moreHs_len : (moreHs hs h m).length = hs.length := by
  unfold moreHs
  rw [List.length_set]
theorem moreHs_at (h0 : 0 ≤ h) (h1 : h < hs.length) {x : Int} (x0 : 0 ≤ x) : houseAt (moreHs hs h m) x = if x = h then moreM (houseAt hs h) m else houseAt hs x := by
  unfold houseAt moreHs
  rw [getD_set_at (by omega)]
  by_cases e : x = h
  · rw [if_pos e, if_pos (by rw [e])] <;> rfl
  · rw [if_neg e, if_neg (toNat_ne h0 x0 (Ne.symm e))]
theorem more_wok (o : WOk ws hs n) (h0 : 0 ≤ h) (h1 : h < hs.length) (m0 : 0 ≤ m) : WOk ws (moreHs hs h m) n := by
  refine ⟨o.len, o.small, by rw [moreHs_len]; exact o.few, fun x hx => ?_, fun r hr => by rw [moreHs_len]; exact o.wish r hr⟩
  rcases List.mem_or_eq_of_mem_set hx with z | z
  · exact o.house x z
  · rw [z]
    exact more_ok (o.hOk h0 h1) m0
theorem more_mv (o : WOk ws hs n) (M : Mv ws hs n ps) (h0 : 0 ≤ h) (h1 : h < hs.length) (m0 : 0 ≤ m) : Mv ws (moreHs hs h m) n ps := by
  refine ⟨M.len, M.wish, fun x x0 x1 k hk => ?_⟩
  rw [moreHs_len] at x1
  have e := M.hold x x0 x1 k hk
  rw [moreHs_at h0 h1 x0]
  by_cases z : x = h
  · rw [if_pos z, ← z]
    exact more_sub (o.hOk x0 x1) m0 e
  · rw [if_neg z]
    exact e
end
end CH

/-! Choosehall: a chain of comers and houses. -/
namespace CH
open PySem L2
/-- a list told along a row of people: at people[k] stands f k -/
def tab {α : Type} (N : Nat) (people : List Int) (f : Nat → α) : List α := (rg 0 (N : Int)).map fun x => f (idxI people x)
def pat (people : List Int) (k : Nat) : Int := people.getD k 0
theorem idx_of {l : List Int} (nd : l.Nodup) {k : Nat} {x : Int} (e : l[k]? = some x) : idxI l x = k := by
  obtain ⟨h1, h2⟩ := idxI_at (List.mem_of_getElem? e)
  rcases Nat.lt_trichotomy (idxI l x) k with z | z | z
  · obtain ⟨a1, a2⟩ := List.getElem?_eq_some_iff.mp h1
    obtain ⟨b1, b2⟩ := List.getElem?_eq_some_iff.mp e
    exact absurd (a2.trans b2.symm) (List.pairwise_iff_getElem.mp nd _ _ a1 b1 z)
  · exact z
  · exact absurd e (h2 k z)
theorem pat_at {l : List Int} {k : Nat} (h : k < l.length) : l[k]? = some (pat l k) := by
  unfold pat
  rw [List.getD_eq_getElem?_getD, List.getElem?_eq_getElem h] <;> rfl
theorem pat_inj {l : List Int} (nd : l.Nodup) {i j : Nat} (hi : i < l.length) (hj : j < l.length) (e : pat l i = pat l j) : i = j := by
  rw [← idx_of nd (pat_at hi), ← idx_of nd (pat_at hj), e]
section
variable {N : Nat} {people : List Int} {α : Type}
structure Row (N : Nat) (people : List Int) : Prop where
  perm : people.Perm (rg 0 (N : Int))
theorem Row.nd (R : Row N people) : people.Nodup := R.perm.nodup_iff.mpr (rg_nodup _ _)
theorem Row.len (R : Row N people) : people.length = N := by
  rw [R.perm.length_eq, rg_len]
  omega
theorem Row.in_ (R : Row N people) {k : Nat} (h : k < N) : 0 ≤ pat people k ∧ pat people k < N := mem_rg.mp (R.perm.mem_iff.mp (List.mem_of_getElem? (pat_at (by rw [R.len]; exact h))))
theorem Row.idx (R : Row N people) {k : Nat} (h : k < N) : idxI people (pat people k) = k := idx_of R.nd (pat_at (by rw [R.len]; exact h))
theorem Row.pat_idx (R : Row N people) {x : Int} (x0 : 0 ≤ x) (x1 : x < N) : pat people (idxI people x) = x ∧ idxI people x < N := by
  obtain ⟨h1, _⟩ := idxI_at (R.perm.mem_iff.mpr (mem_rg.mpr ⟨x0, x1⟩))
  have h2 := (List.getElem?_eq_some_iff.mp h1).1
  rw [R.len] at h2
  refine ⟨?_, h2⟩
  have := pat_at (l := people) (k := idxI people x) (by rw [R.len]; exact h2)
  rw [h1] at this
  exact (Option.some.inj this).symm
theorem tab_len {f : Nat → α} : (tab N people f).length = N := by
  unfold tab
  rw [List.length_map, rg_len]
  omega
theorem tab_get {f : Nat → α} {x : Int} {d : α} (x0 : 0 ≤ x) (x1 : x < N) : (tab N people f).getD x.toNat d = f (idxI people x) := getD_rg (f := fun x => f (idxI people x)) x0 x1
theorem tab_at (R : Row N people) {f : Nat → α} {k : Nat} {d : α} (h : k < N) : (tab N people f).getD (pat people k).toNat d = f k := by
  obtain ⟨a, b⟩ := R.in_ h
  rw [tab_get a b, R.idx h]
theorem tab_set (R : Row N people) {f : Nat → α} {k : Nat} {v : α} (h : k < N) : (tab N people f).set (pat people k).toNat v = tab N people (fun j => if j = k then v else f j) := by
  obtain ⟨a, b⟩ := R.in_ h
  refine ext_getD (d := v) (by rw [List.length_set, tab_len, tab_len]) fun x x0 x1 => ?_
  rw [List.length_set, tab_len] at x1
  rw [getD_set_at (by rw [tab_len]; omega), tab_get x0 x1, tab_get x0 x1]
  by_cases e : pat people k = x
  · rw [if_pos (by rw [e]), ← e, R.idx h, if_pos rfl]
  · rw [if_neg (toNat_ne a x0 e), if_neg fun z => e ?_]
    rw [← z]
    exact (R.pat_idx x0 x1).1
theorem tab_congr {f g : Nat → α} (R : Row N people) (h : ∀ k, k < N → f k = g k) : tab N people f = tab N people g := by
  unfold tab
  refine List.map_congr_left fun x hx => ?_
  obtain ⟨a, b⟩ := mem_rg.mp hx
  exact h _ (R.pat_idx a b).2
theorem tab_mem {f : Nat → α} {a : α} (R : Row N people) : a ∈ tab N people f → ∃ k, k < N ∧ a = f k := by
  intro h
  unfold tab at h
  obtain ⟨x, hx, rfl⟩ := List.mem_map.mp h
  obtain ⟨x0, x1⟩ := mem_rg.mp hx
  exact ⟨_, (R.pat_idx x0 x1).2, rfl⟩
end
/-! ### the chain -/
def cW (m : Nat) (halls : List Int) (w0 : List Int) (j : Nat) : List Int := if j = 0 then w0 else if j < m then [pat halls (j - 1), pat halls j] else [pat halls (j - 1)]
def cP (m : Nat) (halls : List Int) (z : Option Int) (i j : Nat) : Option Int := if j = 0 then z else if j ≤ i then some (pat halls (j - 1)) else if j < m then some (pat halls j) else none
theorem nd1 (a : Int) : [a].Nodup := List.nodup_cons.mpr ⟨(fun h => by cases h), List.nodup_nil⟩
section
variable {m : Nat} {halls w0 : List Int} {z : Option Int} {i j : Nat}
theorem cW_0 : cW m halls w0 0 = w0 := rfl
theorem cW_mid (h0 : j ≠ 0) (h : j < m) : cW m halls w0 j = [pat halls (j - 1), pat halls j] := by
  unfold cW
  rw [if_neg h0, if_pos h]
theorem cW_last (h0 : j ≠ 0) (h : ¬ j < m) : cW m halls w0 j = [pat halls (j - 1)] := by
  unfold cW
  rw [if_neg h0, if_neg h]
theorem cP_0 : cP m halls z i 0 = z := rfl
theorem cP_le (h0 : j ≠ 0) (h : j ≤ i) : cP m halls z i j = some (pat halls (j - 1)) := by
  unfold cP
  rw [if_neg h0, if_pos h]
theorem cP_mid (h0 : j ≠ 0) (h : i < j) (hm : j < m) : cP m halls z i j = some (pat halls j) := by
  unfold cP
  rw [if_neg h0, if_neg (by omega), if_pos hm]
theorem cP_last (h0 : j ≠ 0) (h : i < j) (hm : ¬ j < m) : cP m halls z i j = none := by
  unfold cP
  rw [if_neg h0, if_neg (by omega), if_neg hm]
end
structure Chn (m : Nat) (people halls : List Int) (hs : List Hs) (w0 : List Int) (z : Option Int) : Prop where
  m1 : 1 ≤ m
  m8 : m ≤ 8
  pp : Row (m + 1) people
  ph : Row m halls
  hl : hs.length = m
  pl : ∀ h : Int, 0 ≤ h → h < m → Plain (houseAt hs h) (m + 1) people
  one : ∀ j, 1 ≤ j → j < m → (houseAt hs (pat halls j)).seats = 1
  wz : (w0 = [] ∧ z = none) ∨ (w0 = [pat halls 0] ∧ z = some (pat halls 0))
section
variable {m : Nat} {people halls : List Int} {hs : List Hs} {w0 : List Int} {z : Option Int}
theorem hinj (R : Row m halls) {i j : Nat} (hi : i < m) (hj : j < m) (e : pat halls i = pat halls j) : i = j := pat_inj R.nd (by rw [R.len]; exact hi) (by rw [R.len]; exact hj) e
theorem Chn.wok (c : Chn m people halls hs w0 z) : WOk (tab (m + 1) people (cW m halls w0)) hs (m + 1) := by
  have := c.m8
  refine ⟨tab_len, by omega, by rw [c.hl]; omega, fun h hm => ?_, fun r hr => ?_⟩
  · obtain ⟨i, hi, e⟩ := List.getElem_of_mem hm
    have e2 : houseAt hs (i : Int) = h := by
      unfold houseAt
      rw [Int.toNat_natCast, List.getD_eq_getElem?_getD, List.getElem?_eq_getElem hi, e] <;> rfl
    rw [← e2]
    exact (c.pl i (by omega) (by rw [← c.hl]; omega)).ok
  · obtain ⟨k, hk, rfl⟩ := tab_mem c.pp hr
    rw [c.hl]
    unfold cW
    have m1 := c.m1
    by_cases k0 : k = 0
    · rw [if_pos k0]
      rcases c.wz with ⟨e, _⟩ | ⟨e, _⟩
      · rw [e]
        exact ⟨List.nodup_nil, fun x hx => by cases hx⟩
      · rw [e]
        exact ⟨nd1 _, fun x hx => by rw [List.mem_singleton.mp hx]; exact c.ph.in_ (by omega)⟩
    · rw [if_neg k0]
      by_cases km : k < m
      · rw [if_pos km]
        refine ⟨?_, fun x hx => ?_⟩
        · rw [List.nodup_cons]
          refine ⟨fun w => ?_, nd1 _⟩
          have := hinj c.ph (by omega) km (List.mem_singleton.mp w)
          omega
        · rcases List.mem_cons.mp hx with w | w
          · rw [w]
            exact c.ph.in_ (by omega)
          · rw [List.mem_singleton.mp w]
            exact c.ph.in_ km
      · rw [if_neg km]
        exact ⟨nd1 _, fun x hx => by rw [List.mem_singleton.mp hx]; exact c.ph.in_ (by omega)⟩
theorem chn_place (c : Chn m people halls hs w0 z) {i j : Nat} (hj : j < m + 1) : placeAt (tab (m + 1) people (cP m halls z i)) (pat people j) = cP m halls z i j := tab_at c.pp hj
theorem chn_wish (c : Chn m people halls hs w0 z) {j : Nat} (hj : j < m + 1) : wishAt (tab (m + 1) people (cW m halls w0)) (pat people j) = cW m halls w0 j := tab_at c.pp hj
/-- whom each would rather have -/
theorem chn_rather (c : Chn m people halls hs w0 z) {i j : Nat} (hj : j < m + 1) : ratherM (tab (m + 1) people (cW m halls w0)) (tab (m + 1) people (cP m halls z i)) (pat people j) = if i < j then [pat halls (j - 1)] else [] := by
  unfold ratherM
  rw [chn_place c hj, chn_wish c hj]
  by_cases j0 : j = 0
  · rw [j0, cW_0, cP_0, if_neg (Nat.not_lt_zero i)]
    rcases c.wz with ⟨e1, e2⟩ | ⟨e1, e2⟩
    · rw [e1, e2] <;> rfl
    · rw [e1, e2]
      exact if_pos rfl
  · by_cases ji : j ≤ i
    · rw [cP_le j0 ji, if_neg (by omega)]
      by_cases jm : j < m
      · rw [cW_mid j0 jm]
        exact if_pos rfl
      · rw [cW_last j0 jm]
        exact if_pos rfl
    · rw [if_pos (show i < j by omega)]
      by_cases jm : j < m
      · rw [cW_mid j0 jm, cP_mid j0 (by omega) jm]
        have ne : ¬ some (pat halls (j - 1)) = some (pat halls j) := fun w => by
          have := hinj c.ph (by omega) jm (Option.some.inj w)
          omega
        show (if some (pat halls (j - 1)) = some (pat halls j) then [] else pat halls (j - 1) :: (if some (pat halls j) = some (pat halls j) then [] else _)) = _
        rw [if_neg ne, if_pos rfl]
      · rw [cW_last j0 jm, cP_last j0 (by omega) jm]
        rfl
theorem chn_held (c : Chn m people halls hs w0 z) {i j : Nat} (hj : j < m + 1) {h : Int} : pat people j ∈ heldM (tab (m + 1) people (cP m halls z i)) h ↔ cP m halls z i j = some h := by
  rw [mem_held, tab_len, chn_place c hj]
  exact ⟨fun w => w.2, fun w => ⟨c.pp.in_ hj, w⟩⟩
/-- whoever stands behind another one in the house's only seat is not chosen -/
theorem chn_not (c : Chn m people halls hs w0 z) {i j : Nat} (j1 : 1 ≤ j) (hj : j < m + 1) (hp : cP m halls z i (j - 1) = some (pat halls (j - 1))) (hs1 : (houseAt hs (pat halls (j - 1))).seats = 1) :
    pat people j ∉ chosenM (houseAt hs (pat halls (j - 1))) (heldM (tab (m + 1) people (cP m halls z i)) (pat halls (j - 1)) ++ [pat people j]) := by
  obtain ⟨h0, h1⟩ := c.ph.in_ (k := j - 1) (by omega)
  have p := c.pl _ h0 h1
  rw [plain_chosen p, take_filter_mem c.pp.nd (pat_at (by rw [c.pp.len]; exact hj)), hs1]
  rintro ⟨_, w⟩
  have hm : pat people (j - 1) ∈ (people.take j).filter fun k => decide (k ∈ heldM (tab (m + 1) people (cP m halls z i)) (pat halls (j - 1)) ++ [pat people j]) := by
    refine List.mem_filter.mpr ⟨?_, decide_eq_true (List.mem_append_left _ ((chn_held c (by omega)).mpr hp))⟩
    refine List.mem_of_getElem? (i := j - 1) ?_
    rw [List.getElem?_take_of_lt (by omega)]
    exact pat_at (by rw [c.pp.len]; omega)
  have := List.length_pos_of_mem hm
  have e1 : (1 : Int).toNat = 1 := rfl
  omega
/-- the first one behind goes in where there is room -/
theorem chn_yes (c : Chn m people halls hs w0 z) {i : Nat} (hi : i < m) (room : (z = none → 1 ≤ (houseAt hs (pat halls 0)).seats) ∧ (z ≠ none → 2 ≤ (houseAt hs (pat halls 0)).seats)) :
    pat people (i + 1) ∈ chosenM (houseAt hs (pat halls i)) (heldM (tab (m + 1) people (cP m halls z i)) (pat halls i) ++ [pat people (i + 1)]) := by
  obtain ⟨h0, h1⟩ := c.ph.in_ hi
  have p := c.pl _ h0 h1
  rw [plain_chosen p, take_filter_mem c.pp.nd (pat_at (by rw [c.pp.len]; omega))]
  refine ⟨decide_eq_true (List.mem_append_right _ (List.mem_singleton.mpr rfl)), ?_⟩
  have key : ∀ x ∈ (people.take (i + 1)).filter fun k => decide (k ∈ heldM (tab (m + 1) people (cP m halls z i)) (pat halls i) ++ [pat people (i + 1)]), ∃ j, j ≤ i ∧ x = pat people j ∧ cP m halls z i j = some (pat halls i) := fun x hx => by
    obtain ⟨a, b⟩ := List.mem_filter.mp hx
    obtain ⟨j, hj, e⟩ := List.getElem_of_mem a
    rw [List.length_take] at hj
    rw [List.getElem_take] at e
    have e1 : x = pat people j := by
      have := pat_at (l := people) (k := j) (by omega)
      rw [List.getElem?_eq_getElem (by omega), e] at this
      exact Option.some.inj this
    refine ⟨j, by omega, e1, ?_⟩
    rcases List.mem_append.mp (of_decide_eq_true b) with w | w
    · rw [e1] at w
      exact (chn_held c (by omega)).mp w
    · have w' := List.mem_singleton.mp w
      rw [e1] at w'
      have := pat_inj c.pp.nd (by rw [c.pp.len]; omega) (by rw [c.pp.len]; omega) w'
      omega
  have only : ∀ j, j ≤ i → cP m halls z i j = some (pat halls i) → j = 0 ∧ i = 0 ∧ z ≠ none := fun j hj e => by
    unfold cP at e
    by_cases j0 : j = 0
    · rw [if_pos j0] at e
      rcases c.wz with ⟨_, e2⟩ | ⟨_, e2⟩
      · rw [e2] at e
        cases e
      · refine ⟨j0, ?_, fun w => by rw [w] at e; cases e⟩
        rw [e2] at e
        have m1 := c.m1
        exact (hinj c.ph (by omega) hi (Option.some.inj e)).symm
    · rw [if_neg j0, if_pos hj] at e
      have := hinj c.ph (by omega) hi (Option.some.inj e)
      omega
  by_cases hz : i = 0 ∧ z ≠ none
  · obtain ⟨i0, zn⟩ := hz
    subst i0
    have l1 : ((people.take (0 + 1)).filter fun k => decide (k ∈ heldM (tab (m + 1) people (cP m halls z 0)) (pat halls 0) ++ [pat people (0 + 1)])).length ≤ (people.take (0 + 1)).length := List.length_filter_le _ _
    rw [List.length_take] at l1
    have := room.2 zn
    omega
  · have l0 : ((people.take (i + 1)).filter fun k => decide (k ∈ heldM (tab (m + 1) people (cP m halls z i)) (pat halls i) ++ [pat people (i + 1)])) = [] := by
      refine List.eq_nil_iff_forall_not_mem.mpr fun x hx => ?_
      obtain ⟨j, hj, _, e⟩ := key x hx
      obtain ⟨_, a, b⟩ := only j hj e
      exact hz ⟨a, b⟩
    rw [l0]
    show 0 < (houseAt hs (pat halls i)).seats.toNat
    by_cases i0 : i = 0
    · have zn : z = none := by
        cases q : z with
        | none => rfl
        | some y => exact absurd ⟨i0, by rw [q]; intro w; cases w⟩ hz
      have := room.1 zn
      rw [i0]
      omega
    · rw [c.one i (by omega) hi]
      exact Nat.one_pos
/-- the pairs: one only -/
theorem chn_pairs (c : Chn m people halls hs w0 z) {i : Nat} (hi : i ≤ m) {p : Int × Int} (hp : p ∈ pairsM (tab (m + 1) people (cW m halls w0)) hs (tab (m + 1) people (cP m halls z i))) : i < m ∧ p = (pat people (i + 1), pat halls i) := by
  obtain ⟨p1, p2, p3⟩ := mem_pairs.mp hp
  rw [tab_len] at p1
  obtain ⟨e1, e2⟩ := c.pp.pat_idx p1.1 p1.2
  rw [← e1] at p2 p3
  generalize idxI people p.1 = j at e1 e2 p2 p3
  rw [chn_rather c e2] at p2
  by_cases ij : i < j
  · rw [if_pos ij] at p2
    have p2' := List.mem_singleton.mp p2
    rw [p2'] at p3
    by_cases z1 : j = i + 1
    · subst z1
      refine ⟨by omega, Prod.ext e1.symm ?_⟩
      rw [p2'] <;> rfl
    · refine absurd p3 (chn_not c (by omega) e2 ?_ (c.one (j - 1) (by omega) (by omega)))
      unfold cP
      rw [if_neg (by omega), if_neg (by omega), if_pos (by omega)]
  · rw [if_neg ij] at p2
    cases p2
/-- one step -/
theorem chn_step (c : Chn m people halls hs w0 z) {i : Nat} (hi : i < m) (room : (z = none → 1 ≤ (houseAt hs (pat halls 0)).seats) ∧ (z ≠ none → 2 ≤ (houseAt hs (pat halls 0)).seats)) (M : Mv (tab (m + 1) people (cW m halls w0)) hs (m + 1) (tab (m + 1) people (cP m halls z i))) :
    pairsM (tab (m + 1) people (cW m halls w0)) hs (tab (m + 1) people (cP m halls z i)) ≠ [] ∧ mvNext (tab (m + 1) people (cW m halls w0)) hs (tab (m + 1) people (cP m halls z i)) = tab (m + 1) people (cP m halls z (i + 1)) ∧
    mvStep (tab (m + 1) people (cW m halls w0)) hs (tab (m + 1) people (cP m halls z i)) = (pat people (i + 1), (if i + 1 < m then some (pat halls (i + 1)) else none), pat halls i) := by
  have ne : pairsM (tab (m + 1) people (cW m halls w0)) hs (tab (m + 1) people (cP m halls z i)) ≠ [] := fun w => by
    have : (pat people (i + 1), pat halls i) ∈ pairsM (tab (m + 1) people (cW m halls w0)) hs (tab (m + 1) people (cP m halls z i)) := mem_pairs.mpr ⟨by rw [tab_len]; exact c.pp.in_ (by omega), by
      show pat halls i ∈ ratherM _ _ (pat people (i + 1))
      rw [chn_rather c (by omega), if_pos (by omega)]
      exact List.mem_singleton.mpr rfl, chn_yes c hi room⟩
    rw [w] at this
    cases this
  have eH : mvH (tab (m + 1) people (cW m halls w0)) hs (tab (m + 1) people (cP m halls z i)) = pat halls i := by
    obtain ⟨i1, _⟩ := minI_is (l := (pairsM (tab (m + 1) people (cW m halls w0)) hs (tab (m + 1) people (cP m halls z i))).map (·.2)) (fun w => ne (List.map_eq_nil_iff.mp w))
    obtain ⟨p, hp, ep⟩ := List.mem_map.mp i1
    have e2 := (chn_pairs c (by omega) hp).2
    have ep' : p.2 = mvH (tab (m + 1) people (cW m halls w0)) hs (tab (m + 1) people (cP m halls z i)) := ep
    rw [← ep', e2]
  obtain ⟨_, _, c0, hin, _⟩ := mv_main c.wok M ne
  have eC : mvC (tab (m + 1) people (cW m halls w0)) hs (tab (m + 1) people (cP m halls z i)) = pat people (i + 1) := by
    rw [eH] at hin
    obtain ⟨e1, e2⟩ := c.pp.pat_idx c0.1 c0.2
    rw [← e1] at hin
    rw [chn_rather c e2] at hin
    by_cases ij : i < idxI people (mvC (tab (m + 1) people (cW m halls w0)) hs (tab (m + 1) people (cP m halls z i)))
    · rw [if_pos ij] at hin
      have := hinj c.ph hi (by omega) (List.mem_singleton.mp hin)
      rw [← e1]
      congr 1
      omega
    · rw [if_neg ij] at hin
      cases hin
  refine ⟨ne, ?_, ?_⟩
  · unfold mvNext
    rw [eC, eH, tab_set c.pp (by omega)]
    refine tab_congr c.pp fun j hj => ?_
    by_cases e : j = i + 1
    · rw [if_pos e, cP_le (by omega) (by omega), e] <;> rfl
    · rw [if_neg e]
      by_cases j0 : j = 0
      · rw [j0, cP_0, cP_0]
      · by_cases ji : j ≤ i
        · rw [cP_le j0 ji, cP_le j0 (by omega)]
        · by_cases jm : j < m
          · rw [cP_mid j0 (by omega) jm, cP_mid j0 (by omega) jm]
          · rw [cP_last j0 (by omega) jm, cP_last j0 (by omega) jm]
  · unfold mvStep
    rw [eC, eH, chn_place c (by omega)]
    unfold cP
    rw [if_neg (by omega), if_neg (by omega)]
/-- all the steps -/
theorem chn_moved (c : Chn m people halls hs w0 z) (room : (z = none → 1 ≤ (houseAt hs (pat halls 0)).seats) ∧ (z ≠ none → 2 ≤ (houseAt hs (pat halls 0)).seats)) (M : Mv (tab (m + 1) people (cW m halls w0)) hs (m + 1) (tab (m + 1) people (cP m halls z 0))) :
    movedM (tab (m + 1) people (cW m halls w0)) hs (tab (m + 1) people (cP m halls z 0)) = tab (m + 1) people (cP m halls z m) ∧
    stepsM (tab (m + 1) people (cW m halls w0)) hs (tab (m + 1) people (cP m halls z 0)) = (List.range m).map fun i => (pat people (i + 1), (if i + 1 < m then some (pat halls (i + 1)) else none), pat halls i) := by
  have o := c.wok
  obtain ⟨q1, q2, q3, _⟩ := moved_is o M
  have all : ∀ i, i ≤ m → mvIt (tab (m + 1) people (cW m halls w0)) hs (tab (m + 1) people (cP m halls z 0)) i = tab (m + 1) people (cP m halls z i) ∧ Mv (tab (m + 1) people (cW m halls w0)) hs (m + 1) (tab (m + 1) people (cP m halls z i)) := by
    intro i
    induction i with
    | zero => exact fun _ => ⟨rfl, M⟩
    | succ i ih =>
      intro hi
      obtain ⟨a, b⟩ := ih (by omega)
      obtain ⟨s1, s2, _⟩ := chn_step c (by omega) room b
      have e : mvIt (tab (m + 1) people (cW m halls w0)) hs (tab (m + 1) people (cP m halls z 0)) (i + 1) = tab (m + 1) people (cP m halls z (i + 1)) := by
        show mvNext _ _ (mvIt _ _ _ i) = _
        rw [a, s2]
      refine ⟨e, ?_⟩
      rw [← s2]
      exact (mv_next o b s1).1
  have eN : mvN (tab (m + 1) people (cW m halls w0)) hs (tab (m + 1) people (cP m halls z 0)) = m := by
    rcases Nat.lt_trichotomy (mvN (tab (m + 1) people (cW m halls w0)) hs (tab (m + 1) people (cP m halls z 0))) m with w | w | w
    · obtain ⟨a, b⟩ := all _ (Nat.le_of_lt w)
      have q3' : pairsM _ hs (mvIt (tab (m + 1) people (cW m halls w0)) hs (tab (m + 1) people (cP m halls z 0)) (mvN (tab (m + 1) people (cW m halls w0)) hs (tab (m + 1) people (cP m halls z 0)))) = [] := q3
      rw [a] at q3'
      exact absurd q3' (chn_step c w room b).1
    · exact w
    · obtain ⟨a, b⟩ := all m (Nat.le_refl _)
      obtain ⟨_, r⟩ := q1 m w
      rw [a] at r
      refine absurd (List.eq_nil_iff_forall_not_mem.mpr fun p hp => ?_) r
      exact absurd (chn_pairs c (Nat.le_refl _) hp).1 (Nat.lt_irrefl _)
  refine ⟨?_, ?_⟩
  · unfold movedM
    rw [eN]
    exact (all m (Nat.le_refl _)).1
  · unfold stepsM
    rw [eN]
    refine List.map_congr_left fun i hi => ?_
    have hi' := List.mem_range.mp hi
    obtain ⟨a, b⟩ := all i (Nat.le_of_lt hi')
    rw [a]
    exact (chn_step c hi' room b).2.2
/-- at first: fair -/
theorem chn_fair (c : Chn m people halls hs [pat halls 0] (some (pat halls 0))) (all1 : ∀ j, j < m → (houseAt hs (pat halls j)).seats = 1) : FairOk (tab (m + 1) people (cW m halls [pat halls 0])) hs (m + 1) (tab (m + 1) people (cP m halls (some (pat halls 0)) 0)) := by
  have m1 := c.m1
  have at0 : ∀ j h, cP m halls (some (pat halls 0)) 0 j = some h → j < m ∧ h = pat halls j := fun j h e => by
    unfold cP at e
    by_cases j0 : j = 0
    · rw [if_pos j0] at e
      rw [j0]
      exact ⟨by omega, (Option.some.inj e).symm⟩
    · rw [if_neg j0, if_neg (by omega)] at e
      by_cases jm : j < m
      · rw [if_pos jm] at e
        exact ⟨jm, (Option.some.inj e).symm⟩
      · rw [if_neg jm] at e
        cases e
  have in0 : ∀ j, j < m → cP m halls (some (pat halls 0)) 0 j = some (pat halls j) := fun j hj => by
    unfold cP
    by_cases j0 : j = 0
    · rw [if_pos j0, j0]
    · rw [if_neg j0, if_neg (by omega), if_pos hj]
  refine ⟨tab_len, fun k k0 k1 h e => ?_, fun h h0 h1 => ?_, fun k h k0 k1 hin => ?_⟩
  · obtain ⟨e1, e2⟩ := c.pp.pat_idx k0 k1
    rw [← e1] at e ⊢
    rw [chn_place c e2] at e
    rw [chn_wish c e2]
    obtain ⟨a, b⟩ := at0 _ _ e
    rw [b]
    unfold cW
    by_cases j0 : idxI people k = 0
    · rw [if_pos j0, j0]
      exact List.mem_singleton.mpr rfl
    · rw [if_neg j0, if_pos a]
      exact List.mem_cons_of_mem _ (List.mem_singleton.mpr rfl)
  · rw [c.hl] at h1
    have p := c.pl h h0 h1
    have hh := (c.ph.pat_idx h0 h1)
    refine chosen_ext p.ok (held_sorted _ _) (held_nodup _ _) fun k => ⟨fun w => (chosen_in p.ok w).2.1, fun w => ?_⟩
    obtain ⟨⟨k0, k1⟩, _⟩ := mem_held.mp w
    rw [tab_len] at k1
    obtain ⟨e1, e2⟩ := c.pp.pat_idx k0 k1
    rw [← e1] at w ⊢
    generalize idxI people k = j at e1 e2 w
    have hw := w
    rw [chn_held c e2] at hw
    obtain ⟨a, b⟩ := at0 _ _ hw
    rw [plain_chosen p, take_filter_mem c.pp.nd (pat_at (by rw [c.pp.len]; exact e2))]
    refine ⟨decide_eq_true w, ?_⟩
    have l0 : ((people.take j).filter fun k => decide (k ∈ heldM (tab (m + 1) people (cP m halls (some (pat halls 0)) 0)) h)) = [] := by
      refine List.eq_nil_iff_forall_not_mem.mpr fun x hx => ?_
      obtain ⟨a1, b1⟩ := List.mem_filter.mp hx
      obtain ⟨t, ht, e⟩ := List.getElem_of_mem a1
      rw [List.length_take] at ht
      rw [List.getElem_take] at e
      have e3 : x = pat people t := by
        have := pat_at (l := people) (k := t) (by omega)
        rw [List.getElem?_eq_getElem (by omega), e] at this
        exact Option.some.inj this
      have b2 := of_decide_eq_true b1
      rw [e3, chn_held c (by omega)] at b2
      obtain ⟨a3, b3⟩ := at0 _ _ b2
      rw [b] at b3
      have := hinj c.ph a a3 b3
      omega
    rw [l0, b, all1 j a]
    exact Nat.one_pos
  · obtain ⟨e1, e2⟩ := c.pp.pat_idx k0 k1
    rw [← e1] at hin ⊢
    generalize idxI people k = j at e1 e2 hin
    rw [chn_rather c e2] at hin
    by_cases ij : 0 < j
    · rw [if_pos ij] at hin
      rw [List.mem_singleton.mp hin]
      exact chn_not c (by omega) e2 (in0 (j - 1) (by omega)) (all1 (j - 1) (by omega))
    · rw [if_neg ij] at hin
      cases hin
end
/-- of houses of one rank there is one fair row of places -/
theorem plain_uniq {ws : List (List Int)} {hs : List Hs} {n : Nat} {rank : List Int} {mu : List (Option Int)} (o : WOk ws hs n) (pl : ∀ h : Int, 0 ≤ h → h < hs.length → Plain (houseAt hs h) n rank) (pr : rank.Perm (rg 0 (n : Int))) (f : FairOk ws hs n mu) : grantedM ws hs = mu := by
  have hl : ((rg 0 (hs.length : Int)).map fun h => (houseAt hs h).seats).length = hs.length := by
    rw [List.length_map, rg_len]
    omega
  have he : ∀ h : Int, 0 ≤ h → h < hs.length → rfAt ((rg 0 (hs.length : Int)).map fun h => (houseAt hs h).seats) h = (houseAt hs h).seats := fun h h0 h1 => getD_rg (f := fun h => (houseAt hs h).seats) h0 h1
  have g := due_is o pl pr hl he
  have D := due_inv o pl pr f hl he rank.length (Nat.le_refl _)
  rw [List.take_length] at D
  rw [← g]
  have e : dueM ws ((rg 0 (hs.length : Int)).map fun h => (houseAt hs h).seats) rank n = rank.foldl (dueOut ws) ⟨List.replicate n none, (rg 0 (hs.length : Int)).map fun h => (houseAt hs h).seats⟩ := rfl
  rw [e]
  refine pl_ext (by rw [D.len.due, f.len]) fun k k0 k1 => ?_
  rw [D.len.due] at k1
  rw [D.at_ k k0 k1, if_pos (pr.mem_iff.mpr (mem_rg.mpr ⟨k0, k1⟩))]
end CH

/-! Choosehall: law k16's world. -/
namespace CH
open PySem L2
section
variable {N : Nat} {people : List Int} {α β : Type}
theorem tab_get? (R : Row N people) {f : Nat → α} {k : Nat} (h : k < N) : (tab N people f)[(pat people k).toNat]? = some (f k) := by
  obtain ⟨a, b⟩ := R.in_ h
  have hl : (pat people k).toNat < (tab N people f).length := by rw [tab_len]; omega
  have e := tab_at R (f := f) (d := f k) h
  rw [List.getD_eq_getElem?_getD, List.getElem?_eq_getElem hl] at e
  rw [List.getElem?_eq_getElem hl]
  exact congrArg some e
theorem tab_map (f : Nat → α) (g : α → β) : (tab N people f).map g = tab N people fun j => g (f j) := by
  unfold tab
  rw [List.map_map] <;> rfl
theorem tab_const (a : α) : tab N people (fun _ => a) = List.replicate N a := by
  unfold tab
  refine List.eq_replicate_iff.mpr ⟨?_, fun b hb => ?_⟩
  · rw [List.length_map, rg_len]
    omega
  · obtain ⟨_, _, e⟩ := List.mem_map.mp hb
    exact e.symm
end
def cHc (m : Nat) (people : List Int) : Hs := { seats := 1, kept := 0, kind := 0, opened := true, pts := tab (m + 1) people (fun j => some ((m : Int) - (j : Int))), kinds := List.replicate (m + 1) 0, row := people }
def cHs (m : Nat) (people halls : List Int) : List Hs := halls.map fun _ => cHc m people
def cSteps (m : Nat) (people halls : List Int) : List (Int × Option Int × Int) := (List.range m).map fun i => (pat people (i + 1), (if i + 1 < m then some (pat halls (i + 1)) else none), pat halls i)
section
variable {m : Nat} {people halls : List Int} (pp : Row (m + 1) people) (ph : Row m halls) (m1 : 1 ≤ m) (m8 : m ≤ 8)
include pp m8 in
theorem cHc_ok : HsOk (cHc m people) (m + 1) := ⟨by show (tab (m + 1) people (fun j => some ((m : Int) - (j : Int)))).length = m + 1; exact tab_len, List.length_replicate, pp.perm, by omega, Int.le_refl 0, by show (0 : Int) ≤ 1; decide⟩
include ph in
theorem cHs_at {h : Int} (h0 : 0 ≤ h) (h1 : h < m) : houseAt (cHs m people halls) h = cHc m people := by
  unfold houseAt cHs
  rw [List.getD_eq_getElem?_getD, List.getElem?_map, List.getElem?_eq_getElem (by rw [ph.len]; omega)] <;> rfl
include ph in
theorem cHs_len : (cHs m people halls).length = m := by
  unfold cHs
  rw [List.length_map, ph.len]
include pp m8 in
theorem cHc_plain : Plain (cHc m people) (m + 1) people := by
  have ap : ∀ k : Int, 0 ≤ k → k < (m + 1 : Nat) → ptAt (cHc m people) k = some ((m : Int) - (idxI people k : Int)) := fun k k0 k1 => tab_get (f := fun j => some ((m : Int) - (j : Int))) k0 k1
  refine ⟨cHc_ok pp m8, rfl, fun k k0 k1 => by rw [ap k k0 k1]; rfl, pp.perm, ?_⟩
  rw [List.pairwise_iff_forall_sublist]
  intro a b hab
  have ra := mem_rg.mp (pp.perm.mem_iff.mp (hab.subset (by simp : a ∈ [a, b])))
  have rb := mem_rg.mp (pp.perm.mem_iff.mp (hab.subset (by simp : b ∈ [a, b])))
  refine ⟨?_, fun _ => hab⟩
  have lt := idxI_lt pp.nd hab
  unfold byKey
  rw [ptOf_at, ptOf_at, ap a ra.1 ra.2, ap b rb.1 rb.2]
  refine decide_eq_true ?_
  show -((m : Int) - (idxI people a : Int)) ≤ -((m : Int) - (idxI people b : Int))
  omega
include pp ph m1 m8 in
theorem c_chn : Chn m people halls (cHs m people halls) [pat halls 0] (some (pat halls 0)) :=
  ⟨m1, m8, pp, ph, cHs_len ph, fun h h0 h1 => by rw [cHs_at ph h0 h1]; exact cHc_plain pp m8, fun j j1 jm => by
    obtain ⟨a, b⟩ := ph.in_ jm
    rw [cHs_at ph a b] <;> rfl, Or.inr ⟨rfl, rfl⟩⟩
include pp ph m1 m8 in
theorem c_fair0 : FairOk (tab (m + 1) people (cW m halls [pat halls 0])) (cHs m people halls) (m + 1) (tab (m + 1) people (cP m halls (some (pat halls 0)) 0)) :=
  chn_fair (c_chn pp ph m1 m8) fun j jm => by
    obtain ⟨a, b⟩ := ph.in_ jm
    rw [cHs_at ph a b] <;> rfl
include pp ph m1 m8 in
theorem c_granted16 : grantedM (tab (m + 1) people (cW m halls [pat halls 0])) (cHs m people halls) = tab (m + 1) people (cP m halls (some (pat halls 0)) 0) := by
  have c := c_chn pp ph m1 m8
  exact plain_uniq c.wok (fun h h0 h1 => c.pl h h0 (by rw [cHs_len ph] at h1; exact h1)) pp.perm (c_fair0 pp ph m1 m8)
include pp in
theorem c_goneW : goneW (tab (m + 1) people (cW m halls [pat halls 0])) (pat people 0) = tab (m + 1) people (cW m halls []) := by
  unfold goneW
  rw [tab_set pp (by omega)]
  refine tab_congr pp fun j _ => ?_
  by_cases j0 : j = 0
  · rw [if_pos j0, j0] <;> rfl
  · rw [if_neg j0]
    unfold cW
    rw [if_neg j0, if_neg j0]
include pp in
theorem cP_zero (z z' : Option Int) (i : Nat) : (tab (m + 1) people (cP m halls z i)).set (pat people 0).toNat z' = tab (m + 1) people (cP m halls z' i) := by
  rw [tab_set pp (by omega)]
  refine tab_congr pp fun j _ => ?_
  by_cases j0 : j = 0
  · rw [if_pos j0, j0] <;> rfl
  · rw [if_neg j0]
    unfold cP
    rw [if_neg j0, if_neg j0]
include pp in
theorem cP_next (z : Option Int) {i : Nat} (hi : i < m) : (tab (m + 1) people (cP m halls z i)).set (pat people (i + 1)).toNat (some (pat halls i)) = tab (m + 1) people (cP m halls z (i + 1)) := by
  rw [tab_set pp (by omega)]
  refine tab_congr pp fun j hj => ?_
  by_cases e : j = i + 1
  · rw [if_pos e, cP_le (by omega) (by omega), e] <;> rfl
  · rw [if_neg e]
    by_cases j0 : j = 0
    · rw [j0, cP_0, cP_0]
    · by_cases ji : j ≤ i
      · rw [cP_le j0 ji, cP_le j0 (by omega)]
      · by_cases jm : j < m
        · rw [cP_mid j0 (by omega) jm, cP_mid j0 (by omega) jm]
        · rw [cP_last j0 (by omega) jm, cP_last j0 (by omega) jm]
include pp m1 in
theorem cP_first : tab (m + 1) people (fun j => if j < m then some (pat halls j) else none) = tab (m + 1) people (cP m halls (some (pat halls 0)) 0) := by
  refine tab_congr pp fun j hj => ?_
  by_cases j0 : j = 0
  · rw [j0, cP_0, if_pos (by omega)]
  · by_cases jm : j < m
    · rw [if_pos jm, cP_mid j0 (by omega) jm]
    · rw [if_neg jm, cP_last j0 (by omega) jm]
include pp ph m1 m8 in
theorem c_mv0 : Mv (tab (m + 1) people (cW m halls [pat halls 0])) (cHs m people halls) (m + 1) (tab (m + 1) people (cP m halls (some (pat halls 0)) 0)) := fair_mv (c_chn pp ph m1 m8).wok (c_fair0 pp ph m1 m8)
include pp ph m1 m8 in
theorem c_gone16 : movedM (goneW (tab (m + 1) people (cW m halls [pat halls 0])) (pat people 0)) (cHs m people halls) (goneP (tab (m + 1) people (cP m halls (some (pat halls 0)) 0)) (pat people 0)) = tab (m + 1) people (cP m halls none m) ∧
    stepsM (goneW (tab (m + 1) people (cW m halls [pat halls 0])) (pat people 0)) (cHs m people halls) (goneP (tab (m + 1) people (cP m halls (some (pat halls 0)) 0)) (pat people 0)) = cSteps m people halls := by
  have c := c_chn pp ph m1 m8
  obtain ⟨p0, p1⟩ := pp.in_ (k := 0) (by omega)
  have M := gone_mv c.wok (c_mv0 pp ph m1 m8) p0 p1
  have e2 : goneP (tab (m + 1) people (cP m halls (some (pat halls 0)) 0)) (pat people 0) = tab (m + 1) people (cP m halls none 0) := cP_zero pp _ _ _
  rw [c_goneW pp, e2] at M ⊢
  have c2 : Chn m people halls (cHs m people halls) [] none := ⟨c.m1, c.m8, pp, ph, c.hl, c.pl, c.one, Or.inl ⟨rfl, rfl⟩⟩
  refine chn_moved c2 ⟨fun _ => ?_, fun w => absurd rfl w⟩ M
  obtain ⟨a, b⟩ := ph.in_ (k := 0) (by omega)
  rw [cHs_at ph a b]
  exact Int.le_refl 1
theorem plain_more {h : Hs} {n : Nat} {rank : List Int} {M : Int} (p : Plain h n rank) (m0 : 0 ≤ M) : Plain (moreM h M) n rank := ⟨more_ok p.ok m0, p.kept, p.pts, p.perm, p.ord⟩
include pp ph m1 m8 in
theorem c_more16 {M : Int} (m0 : 1 ≤ M) : movedM (tab (m + 1) people (cW m halls [pat halls 0])) (moreHs (cHs m people halls) (pat halls 0) M) (tab (m + 1) people (cP m halls (some (pat halls 0)) 0)) = tab (m + 1) people (cP m halls (some (pat halls 0)) m) ∧
    stepsM (tab (m + 1) people (cW m halls [pat halls 0])) (moreHs (cHs m people halls) (pat halls 0) M) (tab (m + 1) people (cP m halls (some (pat halls 0)) 0)) = cSteps m people halls := by
  have c := c_chn pp ph m1 m8
  obtain ⟨a, b⟩ := ph.in_ (k := 0) (by omega)
  have hl := cHs_len (people := people) ph
  have Mm := more_mv (m := M) c.wok (c_mv0 pp ph m1 m8) a (by rw [hl]; exact b) (by omega)
  have at_ : ∀ x : Int, 0 ≤ x → houseAt (moreHs (cHs m people halls) (pat halls 0) M) x = if x = pat halls 0 then moreM (houseAt (cHs m people halls) (pat halls 0)) M else houseAt (cHs m people halls) x := fun x x0 => moreHs_at a (by rw [hl]; exact b) x0
  have c2 : Chn m people halls (moreHs (cHs m people halls) (pat halls 0) M) [pat halls 0] (some (pat halls 0)) := by
    refine ⟨c.m1, c.m8, pp, ph, by rw [moreHs_len]; exact c.hl, fun h h0 h1 => ?_, fun j j1 jm => ?_, Or.inr ⟨rfl, rfl⟩⟩
    · rw [at_ h h0]
      by_cases z : h = pat halls 0
      · rw [if_pos z]
        exact plain_more (c.pl _ a b) (by omega)
      · rw [if_neg z]
        exact c.pl h h0 h1
    · rw [at_ _ (ph.in_ jm).1, if_neg fun z => ?_]
      · exact c.one j j1 jm
      · have := hinj ph jm (by omega) z
        omega
  refine chn_moved c2 ⟨(fun w => by cases w), fun _ => ?_⟩ Mm
  rw [at_ _ a, if_pos rfl, cHs_at ph a b]
  show 2 ≤ (1 : Int) + M
  omega
end
end CH

/-! Choosehall: a list of lists that are all the frame's own. -/
namespace CH
open PySem L2
structure Nst (F H : Hp) (p : Addr) (as : List Addr) (cs : List (List Int)) : Prop where
  outer : H p = some (.lst (as.map V.ref))
  fp : F p = none
  len : as.length = cs.length
  nd : as.Nodup
  np : p ∉ as
  at_ : ∀ (j : Nat) a c, as[j]? = some a → cs[j]? = some c → H a = some (.lst (c.map V.int))
  fa : ∀ a ∈ as, F a = none
section
variable {g : Gb} {F F' H H' : Hp} {p : Addr} {as : List Addr} {cs : List (List Int)}
theorem Nst.get (N : Nst F H p as cs) {a : Addr} (h : a ∈ as) : ∃ (j : Nat) (c : List Int), as[j]? = some a ∧ cs[j]? = some c ∧ H a = some (.lst (c.map V.int)) := by
  obtain ⟨j, hj, e⟩ := List.getElem_of_mem h
  have e1 : as[j]? = some a := by rw [List.getElem?_eq_getElem hj, e]
  have hc : j < cs.length := by rw [← N.len]; exact hj
  exact ⟨j, cs[j], e1, List.getElem?_eq_getElem hc, N.at_ j a _ e1 (List.getElem?_eq_getElem hc)⟩
theorem Nst.up (N : Nst F H p as cs) (u : Up g F H F' H') : Nst F' H' p as cs := by
  refine ⟨u.ext _ _ N.outer nt_lst, u.grow _ _ N.outer nt_lst N.fp, N.len, N.nd, N.np, fun j a c h1 h2 => u.ext _ _ (N.at_ j a c h1 h2) nt_lst, fun a h => ?_⟩
  obtain ⟨j, c, _, _, e⟩ := N.get h
  exact u.grow _ _ e nt_lst (N.fa a h)
/-- an inner list grows -/
theorem Nst.set (N : Nst F H p as cs) {j : Nat} {a : Addr} {c : List Int} (h1 : as[j]? = some a) : Nst F (upd H a (.lst (c.map V.int))) p as (cs.set j c) := by
  have ha : a ∈ as := List.mem_of_getElem? h1
  have pa : p ≠ a := fun z => N.np (by rw [z]; exact ha)
  refine ⟨by rw [upd_ne pa]; exact N.outer, N.fp, by rw [List.length_set]; exact N.len, N.nd, N.np, fun t b d e1 e2 => ?_, N.fa⟩
  by_cases z : t = j
  · subst z
    rw [h1] at e1
    cases e1
    rw [List.getElem?_set_self (by rw [← N.len]; exact (List.getElem?_eq_some_iff.mp h1).1)] at e2
    cases e2
    exact upd_same
  · rw [List.getElem?_set_ne (Ne.symm z)] at e2
    have ne : b ≠ a := fun w => by
      rw [w] at e1
      exact z ((List.getElem?_inj (List.getElem?_eq_some_iff.mp e1).1 N.nd).mp (e1.trans h1.symm))
    rw [upd_ne ne]
    exact N.at_ t b d e1 e2
end
def Unown (G : List Sl) : Prop := ∀ s ∈ G, s.owned = false
section
variable {g : Gb} {X : Cx} {G G2 : List Sl} {F H : Hp} {σ : L2.St} {ow : Nat → Addr} {B : Hp × Hp} {p : Addr} {as : List Addr} {cs cs2 : List (List Int)} {E : Ends} {F1 : Hp}
theorem ok_mut0 (k : Ok g G F H σ ow) (n : Unown G) {a : Addr} {u o : HO} (fa : F a = none) (h : H a = some u) (n1 : NT u) (n2 : ∀ φ, u ≠ .ext φ) : Ok g G F (upd H a o) σ ow := by
  refine ⟨fit_mut k.fit fa h n1 n2, k.len, fun i s e => ?_, k.inj⟩
  obtain ⟨v, h1, h2⟩ := k.at_ i s e
  have w := n s (List.mem_of_getElem? e)
  refine ⟨v, h1, ?_⟩
  cases s with
  | un => exact True.intro
  | v d => exact h2
  | m ds => cases w
  | dc kvs => cases w
  | nw d => exact h2
  | pr pre ds => cases w
theorem bk_here (k : Ok g G F H σ ow) (n : Unown G) : Bk g (F, H) G F H ow := ⟨Up.refl k.fit, fun i s e w => by
  rw [n s (List.mem_of_getElem? e)] at w
  cases w⟩
/-- what stands around the lists -/
structure NF (B : Hp × Hp) (p : Addr) (as : List Addr) : Prop where
  fr : ∀ a, a = p ∨ a ∈ as → Fresh B.2 a
def NX (g : Gb) (B : Hp × Hp) (p : Addr) (as : List Addr) (F1 : Hp) (K : List Sl → List (List Int) → Prop) (σ : L2.St) (H : Hp) : Prop := ∃ G cs F ow, K G cs ∧ Ok g G F H σ ow ∧ Nst F H p as cs ∧ Up g B.1 B.2 F H ∧ Sub F1 F
def SN (g : Gb) (X : Cx) (B : Hp × Hp) (p : Addr) (as : List Addr) (F1 : Hp) (G : List Sl) (cs : List (List Int)) (sts : List Stmt) (E : Ends) : Prop := ∀ F H σ ow, Ok g G F H σ ow → Nst F H p as cs → Up g B.1 B.2 F H → Sub F1 F → WSs X sts E σ H
def S1N (g : Gb) (X : Cx) (B : Hp × Hp) (p : Addr) (as : List Addr) (F1 : Hp) (G : List Sl) (cs : List (List Int)) (st : Stmt) (E : Ends) : Prop := ∀ F H σ ow, Ok g G F H σ ow → Nst F H p as cs → Up g B.1 B.2 F H → Sub F1 F → WS X st E σ H
theorem sn_cons {st : Stmt} {sts : List Stmt} (G2 : List Sl) (cs2 : List (List Int)) (h : S1N g X B p as F1 G cs st { E with nx := NX g B p as F1 fun G' cs' => G' = G2 ∧ cs' = cs2 }) (h2 : SN g X B p as F1 G2 cs2 sts E) : SN g X B p as F1 G cs (st :: sts) E := fun F H σ ow ok N u s1 => by
  refine wss_of (pss_cons ps_ws pss_wss) ?_
  refine WS.imp (h F H σ ow ok N u s1) (fun σ H q => ?_) (fun _ _ q => q) (fun _ _ q => q) (fun _ _ q => q)
  obtain ⟨G', cs', F', ow', ⟨rfl, rfl⟩, ok', N', u', s'⟩ := q
  exact h2 F' H σ ow' ok' N' u' s'
theorem sn_cons2 {st : Stmt} {sts : List Stmt} {K : List Sl → List (List Int) → Prop} (h : S1N g X B p as F1 G cs st { E with nx := NX g B p as F1 K }) (h2 : ∀ G2 cs2, K G2 cs2 → SN g X B p as F1 G2 cs2 sts E) : SN g X B p as F1 G cs (st :: sts) E := fun F H σ ow ok N u s1 => by
  refine wss_of (pss_cons ps_ws pss_wss) ?_
  refine WS.imp (h F H σ ow ok N u s1) (fun σ H q => ?_) (fun _ _ q => q) (fun _ _ q => q) (fun _ _ q => q)
  obtain ⟨G', cs', F', ow', k, ok', N', u', s'⟩ := q
  exact h2 G' cs' k F' H σ ow' ok' N' u' s'
theorem sn_one {st : Stmt} (h : S1N g X B p as F1 G cs st E) : SN g X B p as F1 G cs [st] E := fun F H σ ow ok N u s1 => wss_of (pss_one ps_ws) (h F H σ ow ok N u s1)
theorem sn_nil (h : ∀ F H σ ow, Ok g G F H σ ow → Nst F H p as cs → Up g B.1 B.2 F H → Sub F1 F → E.nx σ H) : SN g X B p as F1 G cs [] E := fun F H σ ow ok N u s1 => wss_of pss_nil (h F H σ ow ok N u s1)
theorem n_if {c : Expr} {body els : List Stmt} {pos : Pos} {b : Bool} (h : EvT g X G c b) (h1 : b = true → SN g X B p as F1 G cs body E) (h2 : b = false → SN g X B p as F1 G cs els E) : S1N g X B p as F1 G cs (.If c body els pos) E := fun F H σ ow ok N u s1 => by
  refine ws_of (ps_if pt_wt pss_wss pss_wss) ?_
  refine h F H σ ow ok _ fun F2 H2 u2 => ?_
  cases b with
  | true => exact iteT (h1 rfl F2 H2 σ ow (ok.up u2) (N.up u2) (u.trans u2) (s1.trans u2.sub))
  | false => exact iteF (h2 rfl F2 H2 σ ow (ok.up u2) (N.up u2) (u.trans u2) (s1.trans u2.sub))
/-- any other statement -/
theorem n_ord {st : Stmt} (n : Unown G) (h : S1 g X G st { nx := fun G' => G' = G2, rt := fun _ => False }) (q : ∀ F H σ ow, Ok g G2 F H σ ow → Nst F H p as cs → Up g B.1 B.2 F H → Sub F1 F → E.nx σ H) : S1N g X B p as F1 G cs st E := fun F H σ ow ok N u s1 => by
  refine WS.imp (h (F, H) F H σ ow ok (bk_here ok n) F (Sub.refl F)) (fun σ H' w => ?_) (fun v H' w => ?_) (fun σ H' w => ?_) (fun σ H' w => ?_)
  · obtain ⟨G', F', ow', rfl, ok', bk', s'⟩ := w
    exact q F' H' σ ow' ok' (N.up bk'.up) (u.trans bk'.up) (s1.trans s')
  · obtain ⟨r, F', w, _⟩ := w
    exact w.elim
  · obtain ⟨_, _, _, w, _⟩ := w
    exact w.elim
  · obtain ⟨_, _, _, w, _⟩ := w
    exact w.elim
/-- x[e1].append(e) -/
theorem n_app (i : Nat) {x : Str} {e1 e : Expr} {px p2 apos cpos pos : Pos} {j : Nat} {c : List Int} {y : Int} (hK : X.K = g.K) (n : Unown G) (nf : NF B p as) (h1 : EvD g X G e1 (.int (j : Nat))) (h2 : EvD g X G e (.int y)) (hc : cs[j]? = some c) (hl : c.length ≤ 90000)
    (q : ∀ F H σ ow, Ok g G F H σ ow → Nst F H p as (cs.set j (c ++ [y])) → Up g B.1 B.2 F H → Sub F1 F → E.nx σ H)
    (hG : G[i]? = some (.v (.adr p)) := by rfl) (hn : NmV X i x := by first | exact ⟨rfl, Or.inl rfl, rfl, rfl⟩ | exact ⟨rfl, Or.inr (Or.inl rfl), rfl, rfl⟩) (hi : PlainIx e1 := by intro _ _; rfl)
    (mc : MC X (.Subscript (.Name x px) e1 p2) "append" apos e [] cpos := by exact ⟨rfl, rfl, rfl, rfl, rfl⟩) (hs : swapsWith (.Call (.Attribute (.Subscript (.Name x px) e1 p2) "append" apos) [e] [] cpos) none pos.line X.env = pure false := by rfl) :
    S1N g X B p as F1 G cs (.Expr (.Call (.Attribute (.Subscript (.Name x px) e1 p2) "append" apos) [e] [] cpos) pos) E := fun F H σ ow ok N u s1 => by
  refine ws_of (ps_expr (pe_bm PySem.F.plainAttrs_list PySem.F.slot_list_append PySem.F.type_list_append mt_append (pe_ix ix_seq (pe_nm hn) pe_we hi) (pa_cons pe_we pa_nil mc.star) mc.base mc.few mc.line mc.star mc.plain) hs) ?_
  obtain ⟨o, w1, v, w2, w3⟩ := ok.at_ i _ hG
  cases w3
  refine ⟨_, by rw [w1, w2], ?_⟩
  refine h1 F H σ ow ok _ fun v2 F2 H2 u2 r2 => ?_
  have N2 := N.up u2
  rw [hK, of_int r2]
  have hj : j < as.length := by rw [N.len]; exact (List.getElem?_eq_some_iff.mp hc).1
  have ea : as[j]? = some as[j] := List.getElem?_eq_getElem hj
  generalize as[j] = a at ea
  refine Or.inl ⟨p, as.map V.ref, (j : Int), .ref a, rfl, rfl, SqL.of N2.outer, ?_, ty_lst (N2.at_ j a c ea hc), ?_⟩
  · unfold atI ixN
    rw [if_pos (by omega), if_pos (by rw [List.length_map]; omega)]
    show (as.map V.ref)[((j : Nat) : Int).toNat]? = _
    rw [Int.toNat_natCast, List.getElem?_map, ea] <;> rfl
  · refine h2 F2 H2 σ ow (ok.up u2) _ fun w F3 H3 u3 r3 => ?_
    have N3 := N2.up u3
    have h5 := N3.at_ j a c ea hc
    have up3 := (u.trans u2).trans u3
    rw [of_int r3]
    refine ⟨a, c.map V.int, .int y, rfl, rfl, h5, Nat.lt_of_le_of_lt (by rw [List.length_map]; exact hl) (by decide : 90000 < sizeLine), ?_⟩
    have fa := N3.fa a (List.mem_of_getElem? ea)
    have fr := nf.fr a (Or.inr (List.mem_of_getElem? ea))
    have e : c.map V.int ++ [V.int y] = (c ++ [y]).map V.int := by rw [List.map_append] <;> rfl
    rw [e]
    exact q F3 _ σ ow (ok_mut0 ((ok.up u2).up u3) n fa h5 nt_lst ne_ext_lst) (N3.set ea) ⟨fun b o w m => by
      rw [upd_ne (fr.ne w m)]
      exact up3.ext b o w m, up3.sub, up3.grow, fit_mut up3.fit fa h5 nt_lst ne_ext_lst⟩ ((s1.trans u2.sub).trans u3.sub)
/-- a loop -/
theorem n_for (j : Nat) {x : Str} {px pos : Pos} {items : List D} {iter : Expr} {body : List Stmt} (hi : EvI g X G (.Name x px) iter items) (I : Nat → List Sl → List (List Int) → Prop) (h0 : I 0 G cs)
    (hs : ∀ i d G' cs' F2, items[i]? = some d → I i G' cs' → SN g X B p as F2 (G'.set j (.v d)) cs' body { nx := NX g B p as F2 (I (i + 1)), rt := E.rt, bk := fun _ _ => False, ct := fun _ _ => False })
    (hd : ∀ G' cs' F H σ ow, I items.length G' cs' → Ok g G' F H σ ow → Nst F H p as cs' → Up g B.1 B.2 F H → Sub F1 F → E.nx σ H)
    (hN : X.N.Nodup := by exact nd_by (by kernel_rfl)) (hj : X.N[j]? = some x := by rfl) (hx : Loc X.env.scope x := by first | exact Or.inl rfl | exact Or.inr rfl) (hc : X.calm = true := by rfl)
    (hf : X.fn x = true ∨ X.env.scope.names.lookup x = some .local := by first | exact .inl rfl | exact .inr rfl) (hp : PassesOwn (model X.prog X.w) X.A X.env X.xe := by exact PassesOwn.never)
    (hfo : ∀ x, foldedSetIterable iter X.env x = pure x := by intro _; rfl) : S1N g X B p as F1 G cs (.For (.Name x px) iter body [] pos) E := fun F H σ ow ok N u s1 => by
  refine ws_of (ps_for hp hc pi_wi (pg_name hN hj hx hf) pss_wss hfo) ?_
  refine hi F H σ ow ok _ fun J F2 H2 u2 src => ?_
  refine ⟨fun i m σ' H' => m = items.length - i ∧ i ≤ items.length ∧ NX g B p as F2 (I i) σ' H', ⟨_, rfl, Nat.zero_le _, G, cs, F2, ow, h0, ok.up u2, N.up u2, u.trans u2, Sub.refl F2⟩, ?_⟩
  rintro i m σ' H' ⟨rfl, hle, G', cs', F', ow', hI, ok', N', u', s'⟩
  obtain ⟨h1, h2, h3⟩ := src F' H' s' ok'.fit.low
  by_cases hlt : i < items.length
  · refine Or.inr ⟨h1 i hlt, NX g B p as F2 (I (i + 1)), fun σ3 H3 q => ⟨items.length - (i + 1), by omega, rfl, hlt, q⟩, fun v H3 y => ?_⟩
    obtain ⟨e3, d, d1, d2⟩ := h3 i v H3 hlt y
    subst e3
    have ok2 := ok'.set (i := j) (a := 0) (s := .v d) (o := some v) ⟨v, rfl, d2⟩ (fun z => by cases z)
    exact WSs.imp (hs i d G' cs' F2 d1 hI F' H3 _ _ ok2 N' u' s') (fun _ _ q => q) (fun _ _ q => q) (fun _ _ q => q.elim) (fun _ _ q => q.elim)
  · have e : i = items.length := by omega
    subst e
    exact Or.inl ⟨h2, hd G' cs' F' H' σ' ow' hI ok' N' u' ((s1.trans u2.sub).trans s')⟩
/-- return x -/
theorem n_ret (i : Nat) {x : Str} {px pos : Pos} {k : KE} (nf : NF B p as) (q : k.rt (.m (cs.map intsD))) (hG : G[i]? = some (.v (.adr p)) := by rfl) (hN : X.N[i]? = some x := by rfl) (hv : Vis X.env.scope x := by first | exact Or.inl rfl | exact Or.inr (Or.inl rfl) | exact Or.inr (Or.inr rfl))
    (hd : (x == ("__debug__" : Str)) = false := by decide) (hcd : (x == ("__classdict__" : Str)) = false := by decide) : S1N g X B p as F1 G cs (.Return (some (.Name x px)) pos) (ends g B F1 k) := fun F H σ ow ok N u s1 => by
  refine ws_of (ps_ret (pe_var hN hv hd hcd)) ?_
  obtain ⟨o, w1, v, w2, w3⟩ := ok.at_ i _ hG
  cases w3
  classical
  have sub : Sub F (fun b => if b ∈ as then H b else F b) := fun b o e => by
    show (if b ∈ as then H b else F b) = some o
    by_cases z : b ∈ as
    · rw [if_pos z]
      exact ok.fit.low _ _ e
    · rw [if_neg z]
      exact e
  have fit : Fit g (fun b => if b ∈ as then H b else F b) H := by
    refine ⟨fun b o e => ?_, fun b o e => ?_, ok.fit.tab⟩
    · have e' : (if b ∈ as then H b else F b) = some o := e
      by_cases z : b ∈ as
      · rw [if_pos z] at e'
        exact e'
      · rw [if_neg z] at e'
        exact ok.fit.low _ _ e'
    · have e' : (if b ∈ as then H b else F b) = some o := e
      by_cases z : b ∈ as
      · rw [if_pos z] at e'
        obtain ⟨_, c, _, _, w⟩ := N.get z
        rw [w] at e'
        cases e'
        exact nt_lst
      · rw [if_neg z] at e'
        exact ok.fit.nt _ _ e'
  have inner : ∀ (as' : List Addr) (cs' : List (List Int)), as'.length = cs'.length → (∀ a ∈ as', a ∈ as) → (∀ (j : Nat) a c, as'[j]? = some a → cs'[j]? = some c → H a = some (.lst (c.map V.int))) → RepL g (fun b => if b ∈ as then H b else F b) (cs'.map intsD) (as'.map V.ref) := by
    intro as'
    induction as' with
    | nil =>
      intro cs' hl _ _
      cases cs' with
      | nil => exact repL_nil
      | cons _ _ => cases hl
    | cons a as' ih =>
      intro cs' hl hm ha
      cases cs' with
      | nil => cases hl
      | cons c cs' =>
        refine repL_cons (rep_lst (xs := c.map V.int) ?_ (repL_ints c)) (ih cs' (Nat.succ.inj hl) (fun b hb => hm b (List.mem_cons_of_mem _ hb)) fun j b d e1 e2 => ha (j + 1) b d e1 e2)
        show (if a ∈ as then H a else F a) = _
        rw [if_pos (hm a List.mem_cons_self)]
        exact ha 0 a c rfl rfl
  refine ⟨.ref p, by rw [w1, w2], .m (cs.map intsD), _, q, ⟨u.ext, u.sub.trans sub, fun b o e n f => ?_, fit⟩, p, as.map V.ref, rfl, nf.fr p (Or.inl rfl), N.outer, ?_, inner as cs N.len (fun _ h => h) N.at_⟩
  · show (if b ∈ as then H b else F b) = none
    rw [if_neg fun z => nf.fr b (Or.inr z) o e n]
    exact u.grow b o e n f
  · show (if p ∈ as then H p else F p) = none
    rw [if_neg N.np]
    exact N.fp
/-- y = [[] for x in iter] -/
theorem ss_nest (i j : Nat) {x y : Str} {iter : Expr} {px py p0 pos spos : Pos} {scope : Scope} {k : KE} {sts : List Stmt} {items : List D} (n : Unown G) (hi : EvI g X G (.Name x px) iter items) (hl : items.length ≤ 90000)
    (hk : ∀ (B : Hp × Hp) (p : Addr) (as : List Addr) (F1 : Hp), NF B p as → SN g X B p as F1 (G.set i (.v (.adr p))) (List.replicate items.length []) sts (ends g B F1 k))
    (hsw : swapsWith (.ListComp (.List [] p0) [⟨.Name x px, iter, [], 0⟩] scope pos) (some (.Name y py)) spos.line X.env = pure true := by exact sw_true rfl rfl rfl (by kernel_rfl))
    (hN : X.N.Nodup := by exact nd_by (by kernel_rfl)) (hy : X.N[i]? = some y := by rfl) (hyl : X.env.scope.names.lookup y = some .local := by rfl) (hj : X.N[j]? = some x := by rfl) (hb : blkC X.N X.env.scope scope [(x, j)] = true := by kernel_rfl) (hx : BlkT X scope x := by first | exact ⟨Or.inl rfl, Or.inr rfl⟩ | exact ⟨Or.inr rfl, Or.inl rfl⟩) (hc : X.calm = true := by rfl)
    (hfo : ∀ x, foldedSetIterable iter X.env x = pure x := by intro _; rfl) : Ss g X G (.Assign [.Name y py] (.ListComp (.List [] p0) [⟨.Name x px, iter, [], 0⟩] scope pos) spos :: sts) k := fun B F H σ ow ok bk F1 s1 => by
  refine wss_of (pss_cons (ps_setLc (i := i) (own := [(x, j)]) (g := gName j) (tt := tYes) (te := tLst tNil) hc hN hy hyl hsw pi_wi (blkOk_by hb) (pg_blk j hN hj hx) (fun s H C cl fp => pts_nil) (fun s H C cl fp => pe_lst pa_nil) hfo) pss_wss) ?_
  refine hi F H σ ow ok _ fun J F2 H2 u src D hD => ?_
  have okL := ok.up u
  refine ⟨fun t m H' => m = items.length - t ∧ t ≤ items.length ∧ ∃ as : List Addr, as.length = t ∧ Nst F2 H' D as (List.replicate t []) ∧ (∀ a ∈ as, Fresh H2 a) ∧ Up g F2 H2 F2 H', ⟨_, rfl, Nat.zero_le _, [], rfl, ⟨upd_same, u.fit.low.free hD, rfl, List.nodup_nil, (fun h => by cases h), (fun t a c e _ => by cases e), (fun a h => by cases h)⟩, (fun a h => by cases h), up_new u.fit hD⟩, ?_⟩
  rintro t m H' ⟨rfl, hle, as, hal, N, hfr, u1⟩
  obtain ⟨q1, q2, q3⟩ := src F2 H' (Sub.refl F2) u1.fit.low
  by_cases hlt : t < items.length
  · refine Or.inr ⟨q1 t hlt, _, fun H3 w => ⟨items.length - (t + 1), by omega, w⟩, fun v H3 yy => ?_⟩
    obtain ⟨e3, d, d1, d2⟩ := q3 t v H3 hlt yy
    subst e3
    have es : (wipe σ [j]).set j (some v) = σ.set j (some v) := by
      show (σ.set j none).set j (some v) = _
      rw [List.set_set]
    have ew : wipe ((wipe σ [j]).set j (some v)) [j] = wipe σ [j] := by
      rw [es]
      show (σ.set j (some v)).set j none = σ.set j none
      rw [List.set_set]
    refine ⟨ew, ?_⟩
    simp only [tYes, ↓reduceIte]
    refine ⟨by show (0 : Nat) ≤ sizeLine; decide, fun a ha => ?_⟩
    have aD : a ≠ D := fun z => by
      rw [z, N.outer] at ha
      cases ha
    have na : a ∉ as := fun z => by
      obtain ⟨_, _, _, _, w⟩ := N.get z
      rw [w] at ha
      cases ha
    refine ⟨as.map V.ref, by rw [upd_ne (Ne.symm aD)]; exact N.outer, Nat.lt_of_le_of_lt (by rw [List.length_map]; omega) (by decide : 90000 < sizeLine), True.intro, hlt, as ++ [a], by rw [List.length_append, hal] <;> rfl, ⟨?_, N.fp, ?_, ?_, ?_, ?_, ?_⟩, ?_, ?_⟩
    · rw [List.map_append]
      exact upd_same
    · rw [List.length_append, hal, List.length_replicate] <;> rfl
    · rw [List.nodup_append]
      refine ⟨N.nd, List.nodup_cons.mpr ⟨(fun h => by cases h), List.nodup_nil⟩, fun b hb c hc => ?_⟩
      rw [List.mem_singleton.mp hc]
      exact fun z => na (by rw [← z]; exact hb)
    · intro z
      rcases List.mem_append.mp z with z | z
      · exact N.np z
      · exact aD (List.mem_singleton.mp z).symm
    · intro r b c e1 e2
      by_cases hr : r < as.length
      · rw [List.getElem?_append_left hr] at e1
        have hb := List.mem_of_getElem? e1
        have b1 : b ≠ D := fun z => N.np (by rw [← z]; exact hb)
        have b2 : b ≠ a := fun z => na (by rw [← z]; exact hb)
        rw [upd_ne b1, upd_ne b2]
        have ec : c = [] := by
          rw [List.getElem?_replicate] at e2
          split at e2
          · exact (Option.some.inj e2).symm
          · cases e2
        refine N.at_ r b c e1 ?_
        rw [List.getElem?_replicate, if_pos (by omega), ec]
      · rw [List.getElem?_append_right (by omega)] at e1
        have hr0 : r - as.length = 0 := by
          by_cases z : r - as.length = 0
          · exact z
          · rw [List.getElem?_eq_none (by rw [List.length_singleton]; omega)] at e1
            cases e1
        rw [hr0] at e1
        have e1' : a = b := Option.some.inj e1
        rw [List.getElem?_replicate] at e2
        split at e2
        · have e2' : [] = c := Option.some.inj e2
          rw [← e1', ← e2', upd_ne aD]
          exact upd_same
        · cases e2
    · intro b hb
      rcases List.mem_append.mp hb with z | z
      · exact N.fa b z
      · rw [List.mem_singleton.mp z]
        exact u1.fit.low.free ha
    · intro b hb
      rcases List.mem_append.mp hb with z | z
      · exact hfr b z
      · rw [List.mem_singleton.mp z]
        exact (Fresh.of ha).back u1.ext
    · have up2 := u1.trans (up_new u1.fit (p := a) (o := .lst []) ha)
      have hDn : (upd H3 a (.lst [])) D = some (.lst (as.map V.ref)) := by
        rw [upd_ne (Ne.symm aD)]
        exact N.outer
      refine ⟨fun b o e m => ?_, up2.sub, up2.grow, fit_mut up2.fit N.fp hDn nt_lst ne_ext_lst⟩
      rw [upd_ne (fun z => by rw [z, hD] at e; cases e)]
      exact up2.ext b o e m
  · have e : t = items.length := by omega
    subst e
    refine Or.inl ⟨q2, ?_⟩
    exact hk B D as F1 ⟨fun a z => by
      rcases z with z | z
      · rw [z]
        exact ((Fresh.of hD).back u.ext).back bk.up.ext
      · exact ((hfr a z).back u.ext).back bk.up.ext⟩ F2 H' (σ.set i (some (.ref D))) _ ((okL.up u1).set (i := i) (a := 0) (s := .v (.adr D)) (o := some (.ref D)) ⟨_, rfl, .adr D⟩ (fun z => by cases z)) N (bk.up.trans (u.trans u1)) (s1.trans u.sub)
end
end CH

/-! Choosehall: waiting rows. -/
namespace CH
open PySem L2
section
variable {P : Program} {w : World} {g : Gb} {mg : Str → Option Value} {base : Heap} {f : Addr} {fd : FuncData}
def RWait : List D → Sl → Prop := fun ds r => ∃ (ws : List (List Int)) (hs : List Hs) (ps : List (Option Int)) (n : Nat) (h : Int), WOk ws hs n ∧ ps.length = n ∧ 0 ≤ h ∧ h < hs.length ∧ ds = [intssD ws, hssD hs, oisD ps, .int h] ∧ r = .m ((rankedM (houseAt hs h) (waitM ws ps h)).map D.int)
theorem c_wait (F : FnP g.K "waiting" "waiting" s_waiting f fd) (hm : mg "waiting" = some (.ref f)) (fr : Free mg) (cf : ClsF g) (CRa : Cal P w g mg base "rather" 1 RRather) (CRk : MCal P w g mg base "ranked" 3 RRanked) : Cal P w g mg base "waiting" 4 RWait := by
  refine cal_by (N := ["wishes", "houses", "places", "house", "comers", "comer"]) (ps := ["wishes", "houses", "places", "house"]) F ⟨rfl, rfl, rfl, by decide +kernel, rfl, by decide +kernel, by decide +kernel⟩ hm (fun _ _ _ _ _ _ us hl => match us, hl with | [_, _, _, _], _ => rfl) ?_ ?_
  · rintro ds r ⟨ws, hs, ps, n, h, _, _, _, _, rfl, _⟩
    rfl
  · rintro ds r cdv A outer s0 H E ⟨ws, hs, ps, n, h, o, hl, h0, h1, rfl, rfl⟩ hr
    have hr1 := hr.mono (j := 1) (by decide)
    have sm := o.small
    have wl := o.len
    refine ss_cons (s_lcIf 4 5 (enc := D.int) (l := rg 0 ps.length) (fun k => decide (h ∈ ratherM ws ps k)) D.int (ei_range fr (ev_len rfl fr (ev_var 2) (len_ois ps)) ⟨by omega, by omega⟩) (by rw [rg_len]; omega) (fun k hk s1 H1 C cl fp => ?_) (fun k hk _ s1 H1 C cl fp => ev_var 5) ?_)
    · obtain ⟨k0, k1⟩ := mem_rg.mp hk
      have := o.wLen k0 (by omega)
      exact EvT.is (et_cmp (ev_var 3) (Ev.fz (ev_call rfl CRa hr1 (ea_cons (ev_var 0) (ea_cons (ev_var 2) (ea_cons (ev_var 5) ea_nil))) ⟨ws, ps, k, rfl, k0, by omega, k1, by omega, rfl⟩)) (cmp_in rfl (w := .int h) (ws := (ratherM ws ps k).map V.int) rfl (fl_ints _))) (inV_ints _ _)
    · exact ss_frz 4 rfl (ss_one (s_ret (ev_meth rfl cf.c CRk no_ranked hr (ev_ix rfl (ev_var 1) (ev_var 3) (at_hs h0 h1)) (ea_cons (ev_var 4) ea_nil) ⟨houseAt hs h, n, waitM ws ps h, o.hOk h0 h1, rfl, rfl⟩) rfl))
end
end CH

/-! Choosehall: moved. -/
namespace CH
open PySem L2
def stepD (t : Int × Option Int × Int) : D := .tup [.int t.1, D.oi t.2.1, .int t.2.2]
def stepsD (l : List (Int × Option Int × Int)) : D := .lst (l.map stepD)
theorem oisD_len0 {l : List (Int × Int)} : (pairsD l).truth = !l.isEmpty := by cases l <;> rfl
theorem noLL_pairs : ∀ l : List (Int × Int), noLL (l.map pairD) = true
  | [] => rfl
  | _ :: l => noLL_pairs l
theorem noL_step (t : Int × Option Int × Int) : (stepD t).noL = true := by
  obtain ⟨a, b, c⟩ := t
  cases b <;> rfl
theorem noLL_steps : ∀ l : List (Int × Option Int × Int), noLL (l.map stepD) = true
  | [] => rfl
  | t :: l => by
    show ((stepD t).noL && noLL (l.map stepD)) = true
    rw [noL_step, noLL_steps l] <;> rfl
section
variable {P : Program} {w : World} {g : Gb} {mg : Str → Option Value} {base : Heap} {f : Addr} {fd : FuncData}
def RMoved : List D → Sl → Prop := fun ds r => ∃ (ws : List (List Int)) (hs : List Hs) (ps : List (Option Int)) (n : Nat), WOk ws hs n ∧ Mv ws hs n ps ∧ ds = [intssD ws, hssD hs, oisD ps] ∧ r = .nw (.tup [oisD (movedM ws hs ps), stepsD (stepsM ws hs ps)])
theorem c_moved (F : FnP g.K "moved" "moved" s_moved f fd) (hm : mg "moved" = some (.ref f)) (fr : Free mg) (cf : ClsF g) (CB : Cal P w g mg base "both_rather" 5 RBoth) (CHe : Cal P w g mg base "held" 1 RHeld) (CW : Cal P w g mg base "waiting" 4 RWait) (CCh : MCal P w g mg base "chosen" 4 RChosen) : Cal P w g mg base "moved" 6 RMoved := by
  refine cal_by (N := ["wishes", "houses", "places", "now", "steps", "pairs", "house", "here", "row", "taken", "comer", "pair", "one"]) (ps := ["wishes", "houses", "places"]) F ⟨rfl, rfl, rfl, by decide +kernel, rfl, by decide +kernel, by decide +kernel⟩ hm (fun _ _ _ _ _ _ us hl => match us, hl with | [_, _, _], _ => rfl) ?_ ?_
  · rintro ds r ⟨ws, hs, ps, n, _, _, rfl, _⟩
    rfl
  · rintro ds r cdv A outer s0 H E ⟨ws, hs, ps, n, o, M0, rfl, rfl⟩ hr
    have hr1 := hr.mono (j := 1) (by decide)
    have hr4 := hr.mono (j := 4) (by decide)
    have sm := o.small
    have hf := o.few
    have wl := o.len
    obtain ⟨q1, q2, q3, q4⟩ := moved_is o M0
    have q5 := meas_small o M0.len
    refine ss_cons (s_asg 3 (ev_list rfl fr (ev_var 2)) ?_)
    refine ss_cons (s_asg 4 (ev_lst ea_nil (by decide)) ?_)
    refine ss_one (s_while (fun m G => ∃ (i : Nat) (z5 z6 z7 z8 z9 z10 : Sl), i ≤ mvN ws hs ps ∧ m = mvN ws hs ps - i ∧ G = [.v (intssD ws), .v (hssD hs), .v (oisD ps), .m ((mvIt ws hs ps i).map D.oi), .m (((List.range i).map fun j => mvStep ws hs (mvIt ws hs ps j)).map stepD), z5, z6, z7, z8, z9, z10, .un, .un]) (mvN ws hs ps) ⟨0, _, _, _, _, _, _, Nat.zero_le _, rfl, rfl⟩ (fun m G hI => ?_))
    obtain ⟨i, z5, z6, z7, z8, z9, z10, hi, rfl, rfl⟩ := hI
    refine ⟨true, et_val ev_true, fun _ => ?_, fun hb => by cases hb⟩
    have M : Mv ws hs n (mvIt ws hs ps i) := by
      by_cases z : i < mvN ws hs ps
      · exact (q1 i z).1
      · rw [show i = mvN ws hs ps by omega]
        exact q2
    have ne : pairsM ws hs (mvIt ws hs ps i) ≠ [] → i < mvN ws hs ps := fun z => by
      by_cases y : i < mvN ws hs ps
      · exact y
      · refine absurd ?_ z
        rw [show i = mvN ws hs ps by omega]
        exact q3
    have en : pairsM ws hs (mvIt ws hs ps i) = [] → i = mvN ws hs ps := fun z => by
      by_cases y : i < mvN ws hs ps
      · exact absurd z (q1 i y).2
      · omega
    have enx : mvIt ws hs ps (i + 1) = mvNext ws hs (mvIt ws hs ps i) := rfl
    have esn : ((List.range (i + 1)).map fun j => mvStep ws hs (mvIt ws hs ps j)).map stepD = ((List.range i).map fun j => mvStep ws hs (mvIt ws hs ps j)).map stepD ++ [stepD (mvStep ws hs (mvIt ws hs ps i))] := by
      rw [List.range_succ, List.map_append, List.map_append] <;> rfl
    have efin : i = mvN ws hs ps → Sl.nw (.tup [oisD (mvIt ws hs ps i), .lst (((List.range i).map fun j => mvStep ws hs (mvIt ws hs ps j)).map stepD)]) = .nw (.tup [oisD (movedM ws hs ps), stepsD (stepsM ws hs ps)]) := fun z => by
      rw [z] <;> rfl
    have hll : ((((List.range i).map fun j => mvStep ws hs (mvIt ws hs ps j)).map stepD)).length ≤ 90000 := by
      rw [List.length_map, List.length_map, List.length_range]
      omega
    have hnl := noLL_steps ((List.range i).map fun j => mvStep ws hs (mvIt ws hs ps j))
    generalize ((List.range i).map fun j => mvStep ws hs (mvIt ws hs ps j)).map stepD = sd at esn efin hll hnl
    generalize mvIt ws hs ps i = now at M ne en enx esn efin
    have ml := M.len
    refine ss_cons (s_asg 5 (Ev.fz (Ev.bor (ev_call rfl CB hr (ea_cons (ev_var 0) (ea_cons (ev_var 1) (ea_cons (ev_var 3) ea_nil))) ⟨ws, hs, now, n, o, ml, rfl, rfl⟩) (noLL_pairs _))) ?_)
    refine ss_cons (s_if (b := (pairsM ws hs now).isEmpty) (EvT.is (et_not (et_truth (d := pairsD (pairsM ws hs now)) rfl (ev_var 5) True.intro)) (by rw [oisD_len0, Bool.not_not])) (fun hb => ?_) (fun hb => ss_nil ?_))
    · have e0 := en (List.isEmpty_iff.mp hb)
      exact ss_one (s_retPair 3 4 (efin e0) (noLL_ois _) hnl)
    have hne : pairsM ws hs now ≠ [] := fun z => by
      rw [z] at hb
      cases hb
    have hlt := ne hne
    obtain ⟨⟨H0, H1⟩, fne, ⟨c0, c1⟩, hin, hch⟩ := mv_main o M hne
    have pl9 : (pairsM ws hs now).length ≤ 192 := pairs_few o (ps := now) (by omega) (List.Sublist.refl _)
    obtain ⟨i1, i2⟩ := minI_is (l := (pairsM ws hs now).map (·.2)) (fun z => hne (List.map_eq_nil_iff.mp z))
    have estep : mvStep ws hs now = (mvC ws hs now, placeAt now (mvC ws hs now), mvH ws hs now) := rfl
    have enow : mvNext ws hs now = now.set (mvC ws hs now).toNat (some (mvH ws hs now)) := rfl
    have hT : mvTaken ws hs now = chosenM (houseAt hs (mvH ws hs now)) (heldM now (mvH ws hs now) ++ mvRow ws hs now) := rfl
    have hF : mvFirst ws hs now = (mvRow ws hs now).filter fun k => decide (k ∈ mvTaken ws hs now) := rfl
    have hR : mvRow ws hs now = rankedM (houseAt hs (mvH ws hs now)) (waitM ws now (mvH ws hs now)) := rfl
    have hCd : mvC ws hs now = (mvFirst ws hs now).getD 0 0 := rfl
    refine ss_cons (s_asg 6 (r := .v (.int (mvH ws hs now))) (ev_minL rfl rfl fr (Ev.is (Ev.fz (ev_lc 11 (enc := pairD) (l := pairsM ws hs now) (fun p => D.int p.2) (ei_list rfl (ev_var 5)) (by omega) (fun p hp s1 H1 C cl fp => ev_ix (d1 := pairD p) rfl (ev_var 11) ev_int rfl))) (congrArg (fun l => Sl.v (.lst l)) (show (pairsM ws hs now).map (fun p => D.int p.2) = ((pairsM ws hs now).map (·.2)).map D.int by rw [List.map_map] <;> rfl))) i1 i2) ?_)
    have ho := o.hOk H0 H1
    generalize mvH ws hs now = hh at *
    refine ss_cons (s_asg 7 (Ev.bor (ev_call rfl CHe hr1 (ea_cons (ev_var 3) (ea_cons (ev_var 6) ea_nil)) ⟨now, hh, rfl, by omega, rfl⟩) (noLL_ints _)) (ss_frz 7 rfl ?_))
    refine ss_cons (s_asg 8 (Ev.bor (ev_call rfl CW hr4 (ea_cons (ev_var 0) (ea_cons (ev_var 1) (ea_cons (ev_var 3) (ea_cons (ev_var 6) ea_nil)))) ⟨ws, hs, now, n, hh, o, ml, H0, H1, rfl, rfl⟩) (noLL_ints _)) (ss_frz 8 rfl ?_))
    rw [← hR]
    have rl24 : (mvRow ws hs now).length ≤ 24 := by
      rw [hR]
      have h1 := sub_len (ranked_nodup ho.nodup (waitM ws now hh)) fun k hk => (mem_rankedM.mp hk).1
      rw [ho.len] at h1
      omega
    have hl24 := held_len now hh
    refine ss_cons (s_asg 9 (ev_meth rfl cf.c CCh no_chosen hr4 (ev_ix rfl (ev_var 1) (ev_var 6) (at_hs H0 H1)) (ea_cons (Ev.is (Ev.fz (ev_bin (ev_var 7) (ev_var 8) (bin_cat (by rw [List.length_map, List.length_map]; omega)))) (congrArg (fun l => Sl.v (.lst l)) (show (heldM now hh).map D.int ++ (mvRow ws hs now).map D.int = (heldM now hh ++ mvRow ws hs now).map D.int by rw [List.map_append]))) ea_nil) ⟨houseAt hs hh, n, heldM now hh ++ mvRow ws hs now, ho, rfl, rfl⟩) (ss_frz 9 rfl ?_))
    rw [← hT]
    have e0 : (intsD (mvFirst ws hs now)).at_ 0 = some (.int (mvC ws hs now)) := by
      rw [hCd]
      exact at_map (enc := D.int) (Int.le_refl 0) (getD_at (Int.le_refl 0) (by
        have := List.length_pos_iff.mpr fne
        omega))
    refine ss_cons (s_asg 10 (ev_ix rfl (Ev.is (Ev.fz (ev_lcIf 12 (enc := D.int) (l := mvRow ws hs now) (fun k => decide (k ∈ mvTaken ws hs now)) D.int (ei_list rfl (ev_var 8)) (by omega) (fun k hk s1 H1 C cl fp => EvT.is (et_cmp (ev_var 12) (ev_var 9) (cmp_in rfl (w := .int k) (ws := (mvTaken ws hs now).map V.int) rfl (fl_ints _))) (inV_ints _ _)) (fun k hk _ s1 H1 C cl fp => ev_var 12))) (congrArg (fun l => Sl.v (intsD l)) hF.symm)) ev_int e0) ?_)
    have ec : Sl.v (D.int (mvC ws hs now)) = Sl.v (D.int (((mvC ws hs now).toNat : Nat) : Int)) := by rw [show (((mvC ws hs now).toNat : Nat) : Int) = mvC ws hs now by omega]
    have ap := at_place (ps := now) c0 (by omega)
    generalize mvC ws hs now = c at *
    refine ss_cons (s_append 4 (ds := sd) (d := stepD (c, placeAt now c, hh)) (Ev.bor (ev_tup (ea_cons (ev_var 10) (ea_cons (ev_ix rfl (ev_var 3) (ev_var 10) ap) (ea_cons (ev_var 6) ea_nil))) (by show (3 : Nat) ≤ 100000; decide)) (noL_step _)) ?_ hll)
    refine ss_one (s_setIx 3 (ds := now.map D.oi) (n := c.toNat) (ev_var 6) (Ev.is (ev_var 10) ec) (by rw [List.length_map]; omega) ⟨mvN ws hs ps - (i + 1), by omega, i + 1, _, _, _, _, _, _, by omega, rfl, by rw [esn, enx, enow, estep, List.map_set] <;> rfl⟩)
end
end CH

/-! Choosehall: a going. -/
namespace CH
open PySem L2
section
variable {P : Program} {w : World} {g : Gb} {mg : Str → Option Value} {base : Heap} {f : Addr} {fd : FuncData}
def RGone : List D → Sl → Prop := fun ds r => ∃ (ws : List (List Int)) (hs : List Hs) (ps : List (Option Int)) (n : Nat) (c : Int), WOk ws hs n ∧ Mv ws hs n ps ∧ 0 ≤ c ∧ c < n ∧ ds = [intssD ws, hssD hs, oisD ps, .int c] ∧
  r = .nw (.tup [oisD (movedM (goneW ws c) hs (goneP ps c)), stepsD (stepsM (goneW ws c) hs (goneP ps c))])
theorem c_gone (F : FnP g.K "gone" "gone" s_gone f fd) (hm : mg "gone" = some (.ref f)) (fr : Free mg) (CM : Cal P w g mg base "moved" 6 RMoved) : Cal P w g mg base "gone" 7 RGone := by
  refine cal_by (N := ["wishes", "houses", "places", "comer", "left", "now", "row"]) (ps := ["wishes", "houses", "places", "comer"]) F ⟨rfl, rfl, rfl, by decide +kernel, rfl, by decide +kernel, by decide +kernel⟩ hm (fun _ _ _ _ _ _ us hl => match us, hl with | [_, _, _, _], _ => rfl) ?_ ?_
  · rintro ds r ⟨ws, hs, ps, n, c, _, _, _, _, rfl, _⟩
    rfl
  · rintro ds r cdv A outer s0 H E ⟨ws, hs, ps, n, c, o, M, c0, c1, rfl, rfl⟩ hr
    have sm := o.small
    have wl := o.len
    have ml := M.len
    have ec : Sl.v (D.int c) = Sl.v (D.int ((c.toNat : Nat) : Int)) := by rw [show ((c.toNat : Nat) : Int) = c by omega]
    refine ss_cons (s_lc 4 6 (enc := intsD) (l := ws) intsD (ei_list rfl (ev_var 0)) (by omega) (fun r hr' s1 H1 C cl fp => Ev.fz (ev_list rfl fr (ev_var 6))) ?_)
    refine ss_cons (s_setIx 4 (ds := ws.map intsD) (n := c.toNat) (d := intsD []) (Ev.fz (ev_lst ea_nil (by decide))) (Ev.is (ev_var 3) ec) (by rw [List.length_map]; omega) ?_)
    refine ss_cons (s_asg 5 (ev_list rfl fr (ev_var 2)) ?_)
    refine ss_cons (s_setIx 5 (ds := ps.map D.oi) (n := c.toNat) (d := .non) ev_non (Ev.is (ev_var 3) ec) (by rw [List.length_map]; omega) ?_)
    have e4 : (ws.map intsD).set c.toNat (intsD []) = (goneW ws c).map intsD := by
      unfold goneW
      rw [List.map_set]
    have e5 : (ps.map D.oi).set c.toNat D.non = (goneP ps c).map D.oi := by
      unfold goneP
      rw [List.map_set] <;> rfl
    rw [e4, e5]
    refine ss_frz 4 rfl (ss_frz 5 rfl (ss_one (s_ret (ev_call rfl CM hr (ea_cons (ev_var 4) (ea_cons (ev_var 1) (ea_cons (ev_var 5) ea_nil))) ⟨goneW ws c, hs, goneP ps c, n, gone_ok o c, gone_mv o M c0 c1, rfl, rfl⟩) rfl)))
end
end CH

/-! Choosehall: more seats. -/
namespace CH
open PySem L2
theorem no_more2 {h : Hs} (p q r : Addr) : (flds h p q r).lookup ("with_more" : Str) = none := lk_no (by decide) (by decide) (by decide) (by decide) (by decide) (by decide) (by decide)
section
variable {P : Program} {w : World} {g : Gb} {mg : Str → Option Value} {base : Heap} {f : Addr} {fd : FuncData}
def RMore : List D → Sl → Prop := fun ds r => ∃ (h : Hs) (m : Int), ds = [.hs h, .int m] ∧ r = .v (.hs (moreM h m))
theorem c_more (F : FnP g.K "with_more" "House.with_more" s_House_with_more f fd) (hm : Meth g.K g.C "with_more" f) (cf : ClsF g) (fr : Free mg) (CI : HCal P w g mg base 1) : MCal P w g mg base "with_more" 3 RMore := by
  refine mcal_by (N := ["self", "many"]) (ps := ["self", "many"]) F ⟨rfl, rfl, rfl, by decide +kernel, rfl, by decide +kernel, by decide +kernel⟩ hm (fun _ _ _ _ _ _ us hl => match us, hl with | [_, _], _ => rfl) ?_ ?_
  · rintro ds r ⟨h, m, rfl, _⟩
    rfl
  · rintro ds r cdv A outer s0 H E ⟨h, m, rfl, rfl⟩ hr
    exact ss_one (s_ret (ev_make (h := moreM h m) rfl CI hr (ea_cons (ev_bin (ev_fld rfl cf.c cf.seats (fld_seats h) (ev_var 0)) (ev_var 1) bin_add) (ea_cons (ev_fld rfl cf.c cf.kept (fld_kept h) (ev_var 0)) (ea_cons (ev_fld rfl cf.c cf.kind (fld_kind h) (ev_var 0)) (ea_cons (ev_fld rfl cf.c cf.opened (fld_opened h) (ev_var 0)) (ea_cons (ev_fld rfl cf.c cf.points (fld_points h) (ev_var 0)) (ea_cons (ev_fld rfl cf.c cf.kinds (fld_kinds h) (ev_var 0)) (ea_cons (ev_fld rfl cf.c cf.row (fld_row h) (ev_var 0)) ea_nil)))))))) rfl)
def RMoreH : List D → Sl → Prop := fun ds r => ∃ (ws : List (List Int)) (hs : List Hs) (ps : List (Option Int)) (n : Nat) (h m : Int), WOk ws hs n ∧ Mv ws hs n ps ∧ 0 ≤ h ∧ h < hs.length ∧ 0 ≤ m ∧ ds = [intssD ws, hssD hs, oisD ps, .int h, .int m] ∧
  r = .nw (.tup [oisD (movedM ws (moreHs hs h m) ps), stepsD (stepsM ws (moreHs hs h m) ps)])
theorem c_moreH (F : FnP g.K "more" "more" s_more f fd) (hm : mg "more" = some (.ref f)) (fr : Free mg) (cf : ClsF g) (CMo : MCal P w g mg base "with_more" 3 RMore) (CM : Cal P w g mg base "moved" 6 RMoved) : Cal P w g mg base "more" 7 RMoreH := by
  refine cal_by (N := ["wishes", "houses", "places", "house", "many", "grown"]) (ps := ["wishes", "houses", "places", "house", "many"]) F ⟨rfl, rfl, rfl, by decide +kernel, rfl, by decide +kernel, by decide +kernel⟩ hm (fun _ _ _ _ _ _ us hl => match us, hl with | [_, _, _, _, _], _ => rfl) ?_ ?_
  · rintro ds r ⟨ws, hs, ps, n, h, m, _, _, _, _, _, rfl, _⟩
    rfl
  · rintro ds r cdv A outer s0 H E ⟨ws, hs, ps, n, h, m, o, M, h0, h1, m0, rfl, rfl⟩ hr
    have hr3 := hr.mono (j := 3) (by decide)
    have eh : Sl.v (D.int h) = Sl.v (D.int ((h.toNat : Nat) : Int)) := by rw [show ((h.toNat : Nat) : Int) = h by omega]
    refine ss_cons (s_asg 5 (ev_list rfl fr (ev_var 1)) ?_)
    refine ss_cons (s_setIx 5 (ds := hs.map D.hs) (n := h.toNat) (d := .hs (moreM (houseAt hs h) m)) (ev_meth rfl cf.c CMo no_more2 hr3 (ev_ix rfl (ev_var 1) (ev_var 3) (at_hs h0 h1)) (ea_cons (ev_var 4) ea_nil) ⟨houseAt hs h, m, rfl, rfl⟩) (Ev.is (ev_var 3) eh) (by rw [List.length_map]; omega) ?_)
    have e : (hs.map D.hs).set h.toNat (D.hs (moreM (houseAt hs h) m)) = (moreHs hs h m).map D.hs := by
      unfold moreHs
      rw [List.map_set]
    rw [e]
    exact ss_frz 5 rfl (ss_one (s_ret (ev_call rfl CM hr (ea_cons (ev_var 0) (ea_cons (ev_var 5) (ea_cons (ev_var 2) ea_nil))) ⟨ws, moreHs hs h m, ps, n, more_wok o h0 h1 m0, more_mv o M h0 h1 m0, rfl, rfl⟩) rfl))
end
end CH

/-! Choosehall: law k16's wishes, houses, steps. -/
namespace CH
open PySem L2
section
variable {P : Program} {w : World} {g : Gb} {mg : Str → Option Value} {base : Heap} {f : Addr} {fd : FuncData}
theorem at_pat {l : List Int} {k : Nat} (h : k < l.length) : (intsD l).at_ (k : Int) = some (.int (pat l k)) := at_map (enc := D.int) (by omega) (by rw [Int.toNat_natCast]; exact pat_at h)
def wAt (m : Nat) (halls : List Int) (i : Nat) (j : Nat) : List Int := if j < i then cW m halls [pat halls 0] j else []
def wAt2 (m : Nat) (halls : List Int) (i : Nat) (j : Nat) : List Int := if j < i then cW m halls [pat halls 0] j else if j = i ∧ 0 < i then [pat halls (i - 1)] else []
def RWish16 : List D → Sl → Prop := fun ds r => ∃ (m : Nat) (people halls : List Int), Row (m + 1) people ∧ Row m halls ∧ 1 ≤ m ∧ m ≤ 8 ∧ ds = [intsD people, intsD halls] ∧ r = .m ((tab (m + 1) people (cW m halls [pat halls 0])).map intsD)
theorem c_wish16 (F : FnP g.K "_law_wishes" "_law_wishes" s__law_wishes f fd) (hm : mg "_law_wishes" = some (.ref f)) (fr : Free mg) : Cal P w g mg base "_law_wishes" 1 RWish16 := by
  refine cal_by (N := ["people", "halls", "wishes", "many", "k"]) (ps := ["people", "halls"]) F ⟨rfl, rfl, rfl, by decide +kernel, rfl, by decide +kernel, by decide +kernel⟩ hm (fun _ _ _ _ _ _ us hl => match us, hl with | [_, _], _ => rfl) ?_ ?_
  · rintro ds r ⟨m, people, halls, _, _, _, _, rfl, _⟩
    rfl
  · rintro ds r cdv A outer s0 H E ⟨m, people, halls, pp, ph, m1, m8, rfl, rfl⟩ hr
    have pl := pp.len
    have hl := ph.len
    refine ss_nest 2 4 (items := people.map D.int) (fun s hs => ?_) (ei_list rfl (ev_var 0)) (by rw [List.length_map]; omega) (fun B p as F1 nf => ?_)
    · rcases List.mem_cons.mp hs with e | hs
      · rw [e] <;> rfl
      · rcases List.mem_cons.mp hs with e | hs
        · rw [e] <;> rfl
        · rw [List.eq_of_mem_replicate (a := Sl.un) (n := 3) hs] <;> rfl
    have ecs : List.replicate (people.map D.int).length ([] : List Int) = tab (m + 1) people (wAt m halls 0) := by
      rw [List.length_map, pl, ← tab_const (people := people)]
      exact tab_congr pp fun j _ => (if_neg (Nat.not_lt_zero j)).symm
    rw [ecs]
    show SN g _ B p as F1 [.v (intsD people), .v (intsD halls), .v (.adr p), .un, .un] _ _ _
    have un5 : ∀ (s3 s4 : Sl), s3.owned = false → s4.owned = false → Unown [.v (intsD people), .v (intsD halls), .v (.adr p), s3, s4] := fun s3 s4 e3 e4 s hs => by
      rcases List.mem_cons.mp hs with e | hs
      · rw [e] <;> rfl
      · rcases List.mem_cons.mp hs with e | hs
        · rw [e] <;> rfl
        · rcases List.mem_cons.mp hs with e | hs
          · rw [e] <;> rfl
          · rcases List.mem_cons.mp hs with e | hs
            · rw [e]
              exact e3
            · rw [List.mem_singleton.mp hs]
              exact e4
    refine sn_cons [.v (intsD people), .v (intsD halls), .v (.adr p), .v (.int m), .un] (tab (m + 1) people (wAt m halls 0)) (n_ord (G2 := [.v (intsD people), .v (intsD halls), .v (.adr p), .v (.int m), .un]) (un5 _ _ rfl rfl) (s_asg 3 (Ev.is (ev_len rfl fr (ev_var 1) (len_ints halls)) (by rw [hl])) rfl) (fun F H σ ow ok N u s => ⟨_, _, F, ow, ⟨rfl, rfl⟩, ok, N, u, s⟩)) ?_
    refine sn_cons2 (K := fun G' cs' => ∃ z4 : Sl, z4.owned = false ∧ G' = [.v (intsD people), .v (intsD halls), .v (.adr p), .v (.int m), z4] ∧ cs' = tab (m + 1) people (cW m halls [pat halls 0])) (n_for 4 (items := (rg 0 ((m : Int) + 1)).map D.int) (ei_range fr (ev_bin (ev_var 3) ev_int bin_add) ⟨by omega, by omega⟩) (fun i G' cs' => ∃ z4 : Sl, z4.owned = false ∧ G' = [.v (intsD people), .v (intsD halls), .v (.adr p), .v (.int m), z4] ∧ cs' = tab (m + 1) people (wAt m halls i)) ⟨_, rfl, rfl, rfl⟩ (fun i d G' cs' F2 hd hI => ?_) (fun G' cs' F H σ ow hI ok N u s => ?_)) (fun G' cs' hI => ?_)
    · obtain ⟨z4, ez, rfl, rfl⟩ := hI
      have hi : i < m + 1 := by
        have := (List.getElem?_eq_some_iff.mp hd).1
        rw [List.length_map, rg_len] at this
        omega
      have ed : d = .int (i : Int) := by
        rw [List.getElem?_map, rg_at (by omega)] at hd
        have := Option.some.inj hd
        rw [← this]
        show D.int (0 + (i : Int)) = _
        rw [Int.zero_add]
      subst ed
      show SN g _ B p as F2 [.v (intsD people), .v (intsD halls), .v (.adr p), .v (.int m), .v (.int (i : Int))] _ _ _
      obtain ⟨p0, p1⟩ := pp.in_ hi
      have ap : (intsD people).at_ (i : Int) = some (.int (pat people i)) := at_pat (by omega)
      have ec : Sl.v (D.int (pat people i)) = Sl.v (D.int (((pat people i).toNat : Nat) : Int)) := by rw [show (((pat people i).toNat : Nat) : Int) = pat people i by omega]
      have g1 : (tab (m + 1) people (wAt m halls i))[(pat people i).toNat]? = some [] := by
        rw [tab_get? pp hi]
        exact congrArg some (if_neg (Nat.lt_irrefl i))
      have g2 : (tab (m + 1) people (wAt2 m halls i))[(pat people i).toNat]? = some (if 0 < i then [pat halls (i - 1)] else []) := by
        rw [tab_get? pp hi]
        congr 1
        unfold wAt2
        rw [if_neg (Nat.lt_irrefl i)]
        by_cases z : 0 < i
        · rw [if_pos ⟨rfl, z⟩, if_pos z]
        · rw [if_neg (fun w => z w.2), if_neg z]
      have nofirst : ¬ 0 < i → tab (m + 1) people (wAt m halls i) = tab (m + 1) people (wAt2 m halls i) := fun z => tab_congr pp fun j _ => by
        unfold wAt wAt2
        by_cases ji : j < i
        · rw [if_pos ji, if_pos ji]
        · rw [if_neg ji, if_neg ji, if_neg (fun w => z w.2)]
      have first : 0 < i → (tab (m + 1) people (wAt m halls i)).set (pat people i).toNat ([] ++ [pat halls (i - 1)]) = tab (m + 1) people (wAt2 m halls i) := fun z => by
        rw [tab_set pp hi]
        refine tab_congr pp fun j _ => ?_
        unfold wAt wAt2
        by_cases e : j = i
        · rw [if_pos e, if_neg (by omega), if_pos ⟨e, z⟩] <;> rfl
        · rw [if_neg e]
          by_cases ji : j < i
          · rw [if_pos ji, if_pos ji]
          · rw [if_neg ji, if_neg ji, if_neg (fun w => e w.1)]
      have last : ¬ i < m → tab (m + 1) people (wAt2 m halls i) = tab (m + 1) people (wAt m halls (i + 1)) := fun z => tab_congr pp fun j _ => by
        unfold wAt wAt2
        by_cases ji : j < i
        · rw [if_pos ji, if_pos (by omega)]
        · rw [if_neg ji]
          by_cases e : j = i
          · rw [if_pos ⟨e, by omega⟩, if_pos (by omega), e, cW_last (by omega) z]
          · rw [if_neg (fun w => e w.1), if_neg (by omega)]
      have mid : i < m → (tab (m + 1) people (wAt2 m halls i)).set (pat people i).toNat ((if 0 < i then [pat halls (i - 1)] else []) ++ [pat halls i]) = tab (m + 1) people (wAt m halls (i + 1)) := fun z => by
        rw [tab_set pp hi]
        refine tab_congr pp fun j _ => ?_
        unfold wAt wAt2
        by_cases e : j = i
        · rw [if_pos e, if_pos (show j < i + 1 by omega), e]
          by_cases i0 : 0 < i
          · rw [if_pos i0, cW_mid (by omega) z] <;> rfl
          · have i00 : i = 0 := by omega
            subst i00
            rfl
        · rw [if_neg e]
          by_cases ji : j < i
          · rw [if_pos ji, if_pos (by omega)]
          · rw [if_neg ji, if_neg (fun w => e w.1), if_neg (by omega)]
      refine sn_cons [.v (intsD people), .v (intsD halls), .v (.adr p), .v (.int m), .v (.int (i : Int))] (tab (m + 1) people (wAt2 m halls i)) (n_if (b := decide ((0 : Int) < i)) (et_cmp (ev_var 4) ev_int cmp_gt) (fun hb => ?_) (fun hb => ?_)) ?_
      · have hb' : 0 < i := by
          have := of_decide_eq_true hb
          omega
        have ah : (intsD halls).at_ ((i : Int) - 1) = some (.int (pat halls (i - 1))) := by
          have e : ((i : Int) - 1) = ((i - 1 : Nat) : Int) := by omega
          rw [e]
          exact at_pat (by omega)
        exact sn_one (n_app 2 (j := (pat people i).toNat) (c := []) (y := pat halls (i - 1)) rfl (un5 _ _ rfl rfl) nf (Ev.is (ev_ix rfl (ev_var 0) (ev_var 4) ap) ec) (ev_ix rfl (ev_var 1) (ev_bin (ev_var 4) ev_int bin_sub) ah) g1 (Nat.zero_le _) (fun F H σ ow ok N u s => ⟨_, _, F, ow, ⟨rfl, first hb'⟩, ok, N, u, s⟩))
      · have hb' : ¬ 0 < i := by
          have := of_decide_eq_false hb
          omega
        exact sn_nil fun F H σ ow ok N u s => ⟨_, _, F, ow, ⟨rfl, nofirst hb'⟩, ok, N, u, s⟩
      · refine sn_one (n_if (b := decide ((i : Int) < m)) (et_cmp (ev_var 4) (ev_var 3) cmp_lt) (fun hb => ?_) (fun hb => ?_))
        · have hb' : i < m := by
            have := of_decide_eq_true hb
            omega
          have ah : (intsD halls).at_ (i : Int) = some (.int (pat halls i)) := at_pat (by omega)
          exact sn_one (n_app 2 (j := (pat people i).toNat) (c := if 0 < i then [pat halls (i - 1)] else []) (y := pat halls i) rfl (un5 _ _ rfl rfl) nf (Ev.is (ev_ix rfl (ev_var 0) (ev_var 4) ap) ec) (ev_ix rfl (ev_var 1) (ev_var 4) ah) g2 (by split <;> (simp only [List.length_cons, List.length_nil]; omega)) (fun F H σ ow ok N u s => ⟨_, _, F, ow, ⟨_, rfl, rfl, mid hb'⟩, ok, N, u, s⟩))
        · have hb' : ¬ i < m := by
            have := of_decide_eq_false hb
            omega
          exact sn_nil fun F H σ ow ok N u s => ⟨_, _, F, ow, ⟨_, rfl, rfl, last hb'⟩, ok, N, u, s⟩
    · obtain ⟨z4, ez, rfl, rfl⟩ := hI
      refine ⟨_, _, F, ow, ⟨z4, ez, rfl, ?_⟩, ok, N, u, s⟩
      rw [List.length_map, rg_len]
      refine tab_congr pp fun j hj => ?_
      unfold wAt
      rw [if_pos (by omega)]
    · obtain ⟨z4, ez, rfl, rfl⟩ := hI
      exact sn_one (n_ret 2 nf rfl)
end
end CH

/-! Choosehall: law k16's houses, steps. -/
namespace CH
open PySem L2
section
variable {P : Program} {w : World} {g : Gb} {mg : Str → Option Value} {base : Heap} {f : Addr} {fd : FuncData}
def RHouse16 : List D → Sl → Prop := fun ds r => ∃ (m : Nat) (people halls : List Int), Row (m + 1) people ∧ Row m halls ∧ 1 ≤ m ∧ m ≤ 8 ∧ ds = [intsD people, intsD halls] ∧ r = .m ((cHs m people halls).map D.hs)
def ptTo (m i j : Nat) : Int := if j < i then (m : Int) - (j : Int) else 0
theorem c_house16 (F : FnP g.K "_law_houses" "_law_houses" s__law_houses f fd) (hm : mg "_law_houses" = some (.ref f)) (fr : Free mg) (CH : HCal P w g mg base 1) : Cal P w g mg base "_law_houses" 3 RHouse16 := by
  refine cal_by (N := ["people", "halls", "points", "k", "hall"]) (ps := ["people", "halls"]) F ⟨rfl, rfl, rfl, by decide +kernel, rfl, by decide +kernel, by decide +kernel⟩ hm (fun _ _ _ _ _ _ us hl => match us, hl with | [_, _], _ => rfl) ?_ ?_
  · rintro ds r ⟨m, people, halls, _, _, _, _, rfl, _⟩
    rfl
  · rintro ds r cdv A outer s0 H E ⟨m, people, halls, pp, ph, m1, m8, rfl, rfl⟩ hr
    have pl := pp.len
    have hl := ph.len
    have erep : (List.replicate ((people.length : Nat) : Int).toNat [D.int 0]).flatten = (tab (m + 1) people (ptTo m 0)).map D.int := by
      rw [Int.toNat_natCast, flat_one, pl, ← List.map_replicate]
      congr 1
      rw [← tab_const (people := people)]
      exact tab_congr pp fun j _ => (if_neg (Nat.not_lt_zero j)).symm
    refine ss_cons (s_asg 2 (Ev.is (ev_bin (Ev.fz (ev_lst (ea_cons ev_int ea_nil) (by show (1 : Nat) ≤ 100000; decide))) (ev_len rfl fr (ev_var 0) (len_ints people)) (bin_rep (by omega) (by show 1 * _ ≤ 100000; omega))) (congrArg Sl.m erep)) ?_)
    refine ss_cons (s_for 3 (items := (rg 0 halls.length).map D.int) (ei_range fr (ev_len rfl fr (ev_var 1) (len_ints halls)) ⟨by omega, by omega⟩) (fun i G => ∃ z3 : Sl, G = [.v (intsD people), .v (intsD halls), .m ((tab (m + 1) people (ptTo m i)).map D.int), z3, .un]) ⟨_, rfl⟩ (fun i d G hd hI => ?_) (fun G hI => ?_))
    · obtain ⟨z3, rfl⟩ := hI
      have hi : i < m := by
        have := (List.getElem?_eq_some_iff.mp hd).1
        rw [List.length_map, rg_len] at this
        omega
      have ed : d = .int (i : Int) := by
        rw [List.getElem?_map, rg_at (by omega)] at hd
        have := Option.some.inj hd
        rw [← this]
        show D.int (0 + (i : Int)) = _
        rw [Int.zero_add]
      subst ed
      obtain ⟨p0, p1⟩ := pp.in_ (k := i) (by omega)
      have ap : (intsD people).at_ (i : Int) = some (.int (pat people i)) := at_pat (by omega)
      have ec : Sl.v (D.int (pat people i)) = Sl.v (D.int (((pat people i).toNat : Nat) : Int)) := by rw [show (((pat people i).toNat : Nat) : Int) = pat people i by omega]
      have es : (tab (m + 1) people (ptTo m i)).set (pat people i).toNat ((m : Int) - (i : Int)) = tab (m + 1) people (ptTo m (i + 1)) := by
        rw [tab_set pp (by omega)]
        refine tab_congr pp fun j _ => ?_
        unfold ptTo
        by_cases e : j = i
        · rw [if_pos e, if_pos (by omega), e]
        · rw [if_neg e]
          by_cases ji : j < i
          · rw [if_pos ji, if_pos (by omega)]
          · rw [if_neg ji, if_neg (by omega)]
      refine ss_one (s_setIx 2 (ds := (tab (m + 1) people (ptTo m i)).map D.int) (n := (pat people i).toNat) (d := .int ((m : Int) - (i : Int))) (Ev.is (ev_bin (ev_len rfl fr (ev_var 1) (len_ints halls)) (ev_var 3) bin_sub) (by rw [hl])) (Ev.is (ev_ix rfl (ev_var 0) (ev_var 3) ap) ec) (by rw [List.length_map, tab_len]; omega) ⟨_, by rw [← es, List.map_set] <;> rfl⟩)
    obtain ⟨z3, rfl⟩ := hI
    have ep : (tab (m + 1) people (ptTo m ((rg 0 (halls.length : Int)).map D.int).length)).map D.int = (cHc m people).pts.map D.oi := by
      show _ = (tab (m + 1) people (fun j => some ((m : Int) - (j : Int)))).map D.oi
      rw [tab_map, tab_map]
      refine tab_congr pp fun j hj => ?_
      rw [List.length_map, rg_len]
      unfold ptTo
      by_cases jm : j < m
      · rw [if_pos (by omega)] <;> rfl
      · rw [if_neg (by omega)]
        show D.int 0 = D.int ((m : Int) - (j : Int))
        congr 1
        omega
    rw [ep]
    have erep2 : (List.replicate ((people.length : Nat) : Int).toNat [D.int 0]).flatten = (cHc m people).kinds.map D.int := by
      rw [Int.toNat_natCast, flat_one, pl]
      show _ = (List.replicate (m + 1) 0).map D.int
      rw [List.map_replicate]
    refine ss_frz 2 rfl (ss_one (s_ret (ev_lc 4 (enc := D.int) (l := halls) (fun _ => D.hs (cHc m people)) (ei_list rfl (ev_var 1)) (by omega) (fun h hh s1 H1 C cl fp => ?_)) ?_))
    · exact ev_make (h := cHc m people) rfl CH hr (ea_cons ev_int (ea_cons ev_int (ea_cons ev_int (ea_cons ev_true (ea_cons (ev_var 2) (ea_cons (Ev.is (Ev.fz (ev_bin (Ev.fz (ev_lst (ea_cons ev_int ea_nil) (by show (1 : Nat) ≤ 100000; decide))) (ev_len rfl fr (ev_var 0) (len_ints people)) (bin_rep (by omega) (by show 1 * _ ≤ 100000; omega)))) (congrArg (fun l => Sl.v (.lst l)) erep2)) (ea_cons (ev_var 0) ea_nil)))))))
    · show Sl.m _ = Sl.m ((cHs m people halls).map D.hs)
      unfold cHs
      rw [List.map_map] <;> rfl
def RSteps16 : List D → Sl → Prop := fun ds r => ∃ (m : Nat) (people halls : List Int), Row (m + 1) people ∧ Row m halls ∧ 1 ≤ m ∧ m ≤ 8 ∧ ds = [intsD people, intsD halls] ∧ r = .m ((cSteps m people halls).map stepD)
def cStep (m : Nat) (people halls : List Int) (i : Nat) : Int × Option Int × Int := (pat people (i + 1), (if i + 1 < m then some (pat halls (i + 1)) else none), pat halls i)
theorem c_steps16 (F : FnP g.K "_law_steps" "_law_steps" s__law_steps f fd) (hm : mg "_law_steps" = some (.ref f)) (fr : Free mg) : Cal P w g mg base "_law_steps" 1 RSteps16 := by
  refine cal_by (N := ["people", "halls", "steps", "k", "left"]) (ps := ["people", "halls"]) F ⟨rfl, rfl, rfl, by decide +kernel, rfl, by decide +kernel, by decide +kernel⟩ hm (fun _ _ _ _ _ _ us hl => match us, hl with | [_, _], _ => rfl) ?_ ?_
  · rintro ds r ⟨m, people, halls, _, _, _, _, rfl, _⟩
    rfl
  · rintro ds r cdv A outer s0 H E ⟨m, people, halls, pp, ph, m1, m8, rfl, rfl⟩ hr
    have pl := pp.len
    have hl := ph.len
    refine ss_cons (s_asg 2 (ev_lst ea_nil (by decide)) ?_)
    refine ss_cons (s_for 3 (items := (rg 1 people.length).map D.int) (ei_range2 fr ev_int (ev_len rfl fr (ev_var 0) (len_ints people)) ⟨by omega, by omega⟩ ⟨by omega, by omega⟩) (fun i G => ∃ z3 z4 : Sl, G = [.v (intsD people), .v (intsD halls), .m (((List.range i).map (cStep m people halls)).map stepD), z3, z4]) ⟨_, _, rfl⟩ (fun i d G hd hI => ?_) (fun G hI => ?_))
    · obtain ⟨z3, z4, rfl⟩ := hI
      have hi : i < m := by
        have := (List.getElem?_eq_some_iff.mp hd).1
        rw [List.length_map, rg_len] at this
        omega
      have ed : d = .int ((i + 1 : Nat) : Int) := by
        rw [List.getElem?_map, rg_at (by omega)] at hd
        have := Option.some.inj hd
        rw [← this]
        show D.int (1 + (i : Int)) = _
        congr 1
        omega
      subst ed
      have ap : (intsD people).at_ ((i + 1 : Nat) : Int) = some (.int (pat people (i + 1))) := at_pat (by omega)
      have ah : (intsD halls).at_ (((i + 1 : Nat) : Int) - 1) = some (.int (pat halls i)) := by
        have e : (((i + 1 : Nat) : Int) - 1) = (i : Int) := by omega
        rw [e]
        exact at_pat (by omega)
      refine ss_cons (s_asg 4 ev_non ?_)
      refine ss_cons (s_ifJ (b := decide (((i + 1 : Nat) : Int) < m)) (fun G => G = [.v (intsD people), .v (intsD halls), .m (((List.range i).map (cStep m people halls)).map stepD), .v (.int ((i + 1 : Nat) : Int)), .v (D.oi (if i + 1 < m then some (pat halls (i + 1)) else none))]) (EvT.is (et_cmp (ev_var 3) (ev_len rfl fr (ev_var 1) (len_ints halls)) cmp_lt) (by rw [hl])) (fun hb => ?_) (fun hb => ?_) (fun G hI => ?_))
      · have hb' : i + 1 < m := by
          have := of_decide_eq_true hb
          omega
        exact ss_one (s_asg 4 (ev_ix rfl (ev_var 1) (ev_var 3) (at_pat (k := i + 1) (by omega))) (by rw [if_pos hb'] <;> rfl))
      · have hb' : ¬ i + 1 < m := by
          have := of_decide_eq_false hb
          omega
        exact ss_nil (by rw [if_neg hb'] <;> rfl)
      · subst hI
        have esn : ((List.range (i + 1)).map (cStep m people halls)).map stepD = ((List.range i).map (cStep m people halls)).map stepD ++ [stepD (cStep m people halls i)] := by
          rw [List.range_succ, List.map_append, List.map_append] <;> rfl
        refine ss_one (s_append 2 (ds := ((List.range i).map (cStep m people halls)).map stepD) (d := stepD (cStep m people halls i)) (ev_tup (ea_cons (ev_ix rfl (ev_var 0) (ev_var 3) ap) (ea_cons (ev_var 4) (ea_cons (ev_ix rfl (ev_var 1) (ev_bin (ev_var 3) ev_int bin_sub) ah) ea_nil))) (by show (3 : Nat) ≤ 100000; decide)) ⟨_, _, by rw [esn] <;> rfl⟩ (by rw [List.length_map, List.length_map, List.length_range]; omega))
    obtain ⟨z3, z4, rfl⟩ := hI
    refine ss_one (s_retOwn 2 ?_)
    have e : ((rg 1 (people.length : Int)).map D.int).length = m := by
      rw [List.length_map, rg_len]
      omega
    rw [e]
    rfl
end
end CH

/-! Choosehall: law k16. -/
namespace CH
open PySem L2
theorem eqv_step (a b : Int × Option Int × Int) : (stepD a).eqv (stepD b) = decide (a = b) := by
  obtain ⟨a1, a2, a3⟩ := a
  obtain ⟨b1, b2, b3⟩ := b
  have e : (stepD (a1, a2, a3)).eqv (stepD (b1, b2, b3)) = ((D.int a1).eqv (.int b1) && ((D.oi a2).eqv (D.oi b2) && ((D.int a3).eqv (.int b3) && true))) := rfl
  rw [e, eqv_i, eqv_oi, eqv_i, Bool.and_true, ← Bool.decide_and, ← Bool.decide_and]
  exact decide_eq_decide.mpr ⟨fun h => Prod.ext h.1 (Prod.ext h.2.1 h.2.2), fun h => ⟨congrArg Prod.fst h, congrArg (fun t => t.2.1) h, congrArg (fun t => t.2.2) h⟩⟩
theorem cm_step (t : Int × Option Int × Int) : (stepD t).cm 2 := cm_tup fun d hd => by
  rcases List.mem_cons.mp hd with e | hd
  · rw [e]
    exact cm_int _
  · rcases List.mem_cons.mp hd with e | hd
    · rw [e]
      exact cm_oi _
    · rw [List.mem_singleton.mp hd]
      exact cm_int _
theorem cm_fnd (qs : List (Option Int)) (l : List (Int × Option Int × Int)) : (D.tup [oisD qs, stepsD l]).cm 4 := cm_tup fun d hd => by
  rcases List.mem_cons.mp hd with e | hd
  · rw [e]
    exact (cm_ois qs).le (by decide)
  · rw [List.mem_singleton.mp hd]
    exact cm_map fun a _ => cm_step a
theorem eqv_fnd (qs : List (Option Int)) (l : List (Int × Option Int × Int)) : (D.tup [oisD qs, stepsD l]).eqv (.tup [oisD qs, stepsD l]) = true := by
  have e : (D.tup [oisD qs, stepsD l]).eqv (.tup [oisD qs, stepsD l]) = ((D.lst (qs.map D.oi)).eqv (.lst (qs.map D.oi)) && ((D.lst (l.map stepD)).eqv (.lst (l.map stepD)) && true)) := rfl
  rw [e, eqv_ois, eqv_map eqv_step, decide_eq_true rfl, decide_eq_true rfl] <;> rfl
section
variable {P : Program} {w : World} {g : Gb} {mg : Str → Option Value} {base : Heap} {f : Addr} {fd : FuncData}
def plTo (m : Nat) (halls : List Int) (i j : Nat) : Option Int := if j < i then some (pat halls j) else none
theorem c_law16 (F : FnP g.K "law" "law" s_law f fd) (fr : Free mg) (CC : Cal P w g mg base "_law_cell_at" 1 RCell) (CR : Cal P w g mg base "_law_row_by" 1 RRow) (CWi : Cal P w g mg base "_law_wishes" 1 RWish16) (CHo : Cal P w g mg base "_law_houses" 3 RHouse16) (CSt : Cal P w g mg base "_law_steps" 1 RSteps16) (CG : Cal P w g mg base "granted" 5 RGranted) (CGn : Cal P w g mg base "gone" 7 RGone) (CMH : Cal P w g mg base "more" 7 RMoreH) : FnOk P w g.K mg base CX0 8 f fd ["script"] (Prom g RLaw) := by
  refine fn_by (N := ["script", "many", "halls", "people", "wishes", "houses", "places", "k", "behind", "step", "found", "row"]) (ps := ["script"]) F ⟨rfl, rfl, rfl, by decide +kernel, rfl, by decide +kernel, by decide +kernel⟩ ?_ ?_
  · rintro ds r ⟨c, rfl, _⟩
    rfl
  · rintro ds r cdv A outer s0 H E ⟨s, rfl, rfl⟩ hr
    have hr1 := hr.mono (j := 1) (by decide)
    have hr3 := hr.mono (j := 3) (by decide)
    have hr5 := hr.mono (j := 5) (by decide)
    refine ss_cons (s_asg 1 (ev_bin ev_int (ev_bin (ev_call rfl CC hr1 (ea_cons (ev_var 0) (ea_cons ev_int ea_nil)) ⟨s, 0, rfl, by decide, rfl⟩) ev_int (bin_mod (by decide))) bin_add) ?_)
    obtain ⟨m, em, m1, m8⟩ : ∃ m : Nat, 1 + cellAt s 0 % 8 = (m : Int) ∧ 1 ≤ m ∧ m ≤ 8 := ⟨(1 + cellAt s 0 % 8).toNat, by omega, by omega, by omega⟩
    rw [em]
    refine ss_cons (s_asg 2 (ev_call rfl CR hr1 (ea_cons (ev_call rfl CC hr1 (ea_cons (ev_var 0) (ea_cons ev_int ea_nil)) ⟨s, 1, rfl, by decide, rfl⟩) (ea_cons (ev_var 1) ea_nil)) ⟨cellAt s 1, m, rfl, by omega, by omega, rfl⟩) (ss_frz 2 rfl ?_))
    refine ss_cons (s_asg 3 (ev_call rfl CR hr1 (ea_cons (ev_call rfl CC hr1 (ea_cons (ev_var 0) (ea_cons ev_int ea_nil)) ⟨s, 2, rfl, by decide, rfl⟩) (ea_cons (ev_bin (ev_var 1) ev_int bin_add) ea_nil)) ⟨cellAt s 2, (m : Int) + 1, rfl, by omega, by omega, rfl⟩) (ss_frz 3 rfl ?_))
    have ph : Row m (rowBy (cellAt s 1) m) := ⟨rowBy_perm _ _⟩
    have pp : Row (m + 1) (rowBy (cellAt s 2) ((m : Int) + 1)) := ⟨by
      have := rowBy_perm (cellAt s 2) ((m : Int) + 1)
      rw [show (((m + 1 : Nat)) : Int) = (m : Int) + 1 by omega]
      exact this⟩
    show Ss g _ [.v (.scr s), .v (.int m), .v (intsD (rowBy (cellAt s 1) m)), .v (intsD (rowBy (cellAt s 2) ((m : Int) + 1))), .un, .un, .un, .un, .un, .un, .un, .un] _ _
    generalize rowBy (cellAt s 1) m = halls at ph
    generalize rowBy (cellAt s 2) ((m : Int) + 1) = people at pp
    have pl := pp.len
    have hl := ph.len
    have c0 := c_chn pp ph m1 m8
    have o := c0.wok
    have gr := c_granted16 pp ph m1 m8
    have M0 := c_mv0 pp ph m1 m8
    have hsl := cHs_len (people := people) ph
    refine ss_cons (s_asg 4 (ev_call rfl CWi hr1 (ea_cons (ev_var 3) (ea_cons (ev_var 2) ea_nil)) ⟨m, people, halls, pp, ph, m1, m8, rfl, rfl⟩) (ss_frz 4 rfl ?_))
    refine ss_cons (s_asg 5 (ev_call rfl CHo hr3 (ea_cons (ev_var 3) (ea_cons (ev_var 2) ea_nil)) ⟨m, people, halls, pp, ph, m1, m8, rfl, rfl⟩) (ss_frz 5 rfl ?_))
    have erep : (List.replicate ((m : Int) + 1).toNat [D.non]).flatten = (tab (m + 1) people (plTo m halls 0)).map D.oi := by
      rw [show ((m : Int) + 1).toNat = m + 1 by omega, flat_one, tab_map, ← tab_const (people := people)]
      exact tab_congr pp fun j _ => by
        unfold plTo
        rw [if_neg (Nat.not_lt_zero j)] <;> rfl
    refine ss_cons (s_asg 6 (Ev.is (ev_bin (Ev.fz (ev_lst (ea_cons ev_non ea_nil) (by show (1 : Nat) ≤ 100000; decide))) (ev_bin (ev_var 1) ev_int bin_add) (bin_rep (by omega) (by show 1 * _ ≤ 100000; omega))) (congrArg Sl.m erep)) ?_)
    show Ss g _ [.v (.scr s), .v (.int m), .v (intsD halls), .v (intsD people), .v (intssD (tab (m + 1) people (cW m halls [pat halls 0]))), .v (hssD (cHs m people halls)), .m ((tab (m + 1) people (plTo m halls 0)).map D.oi), .un, .un, .un, .un, .un] _ _
    generalize hws : tab (m + 1) people (cW m halls [pat halls 0]) = ws at o gr M0
    generalize hhs : cHs m people halls = hs at o gr M0 hsl
    refine ss_cons (s_for 7 (items := (rg 0 (m : Int)).map D.int) (ei_range fr (ev_var 1) ⟨by omega, by omega⟩) (fun i G => ∃ z7 : Sl, G = [.v (.scr s), .v (.int m), .v (intsD halls), .v (intsD people), .v (intssD ws), .v (hssD hs), .m ((tab (m + 1) people (plTo m halls i)).map D.oi), z7, .un, .un, .un, .un]) ⟨_, rfl⟩ (fun i d G hd hI => ?_) (fun G hI => ?_))
    · obtain ⟨z7, rfl⟩ := hI
      have hi : i < m := by
        have := (List.getElem?_eq_some_iff.mp hd).1
        rw [List.length_map, rg_len] at this
        omega
      have ed : d = .int (i : Int) := by
        rw [List.getElem?_map, rg_at (by omega)] at hd
        have := Option.some.inj hd
        rw [← this]
        show D.int (0 + (i : Int)) = _
        rw [Int.zero_add]
      subst ed
      obtain ⟨p0, p1⟩ := pp.in_ (k := i) (by omega)
      have ap : (intsD people).at_ (i : Int) = some (.int (pat people i)) := at_pat (by omega)
      have ah : (intsD halls).at_ (i : Int) = some (.int (pat halls i)) := at_pat (by omega)
      have ec : Sl.v (D.int (pat people i)) = Sl.v (D.int (((pat people i).toNat : Nat) : Int)) := by rw [show (((pat people i).toNat : Nat) : Int) = pat people i by omega]
      have es : (tab (m + 1) people (plTo m halls i)).set (pat people i).toNat (some (pat halls i)) = tab (m + 1) people (plTo m halls (i + 1)) := by
        rw [tab_set pp (by omega)]
        refine tab_congr pp fun j _ => ?_
        unfold plTo
        by_cases e : j = i
        · rw [if_pos e, if_pos (by omega), e]
        · rw [if_neg e]
          by_cases ji : j < i
          · rw [if_pos ji, if_pos (by omega)]
          · rw [if_neg ji, if_neg (by omega)]
      refine ss_one (s_setIx 6 (ds := (tab (m + 1) people (plTo m halls i)).map D.oi) (n := (pat people i).toNat) (d := .int (pat halls i)) (ev_ix rfl (ev_var 2) (ev_var 7) ah) (Ev.is (ev_ix rfl (ev_var 3) (ev_var 7) ap) ec) (by rw [List.length_map, tab_len]; omega) ⟨_, by rw [← es, List.map_set] <;> rfl⟩)
    obtain ⟨z7, rfl⟩ := hI
    have ef : tab (m + 1) people (plTo m halls ((rg 0 (m : Int)).map D.int).length) = tab (m + 1) people (cP m halls (some (pat halls 0)) 0) := by
      rw [List.length_map, rg_len, ← cP_first pp m1]
      refine tab_congr pp fun j _ => ?_
      unfold plTo
      rw [show ((m : Int) - 0).toNat = m by omega]
    rw [ef]
    refine ss_frz 6 rfl (ss_cons (s_if (b := false) (EvT.is (et_cmp (Ev.fz (ev_call rfl CG hr5 (ea_cons (Ev.fz (ev_lc 11 (enc := intsD) (l := ws) intsD (ei_list rfl (ev_var 4)) (by rw [o.len]; omega) (fun r hr' s1 H1 C cl fp => Ev.fz (ev_list rfl fr (ev_var 11))))) (ea_cons (ev_var 5) ea_nil)) ⟨ws, hs, m + 1, o, rfl, rfl⟩)) (ev_var 6) (cmp_ne rfl hr.units (cm_ois _).ok (cm_ois _).ok)) (by rw [gr, eqv_ois, decide_eq_true rfl] <;> rfl)) (fun hb => by cases hb) (fun _ => ss_nil ?_)))
    refine ss_cons (s_asg 8 (ev_list rfl fr (ev_var 6)) ?_)
    refine ss_cons (s_for 9 (items := (cSteps m people halls).map stepD) (ei_list rfl (Ev.fz (ev_call rfl CSt hr1 (ea_cons (ev_var 3) (ea_cons (ev_var 2) ea_nil)) ⟨m, people, halls, pp, ph, m1, m8, rfl, rfl⟩))) (fun i G => ∃ z9 : Sl, G = [.v (.scr s), .v (.int m), .v (intsD halls), .v (intsD people), .v (intssD ws), .v (hssD hs), .v (oisD (tab (m + 1) people (cP m halls (some (pat halls 0)) 0))), z7, .m ((tab (m + 1) people (cP m halls (some (pat halls 0)) i)).map D.oi), z9, .un, .un]) ⟨_, rfl⟩ (fun i d G hd hI => ?_) (fun G hI => ?_))
    · obtain ⟨z9, rfl⟩ := hI
      have hi : i < m := by
        have := (List.getElem?_eq_some_iff.mp hd).1
        unfold cSteps at this
        rw [List.length_map, List.length_map, List.length_range] at this
        exact this
      have ed : d = stepD (pat people (i + 1), (if i + 1 < m then some (pat halls (i + 1)) else none), pat halls i) := by
        unfold cSteps at hd
        rw [List.map_map, List.getElem?_map, List.getElem?_range hi] at hd
        exact (Option.some.inj hd).symm
      subst ed
      have e0 : (stepD (pat people (i + 1), (if i + 1 < m then some (pat halls (i + 1)) else none), pat halls i)).at_ 0 = some (.int (pat people (i + 1))) := rfl
      have e2 : (stepD (pat people (i + 1), (if i + 1 < m then some (pat halls (i + 1)) else none), pat halls i)).at_ 2 = some (.int (pat halls i)) := rfl
      generalize (pat people (i + 1), (if i + 1 < m then some (pat halls (i + 1)) else none), pat halls i) = stp at e0 e2
      obtain ⟨p0, p1⟩ := pp.in_ (k := i + 1) (by omega)
      have ec : Sl.v (D.int (pat people (i + 1))) = Sl.v (D.int (((pat people (i + 1)).toNat : Nat) : Int)) := by rw [show (((pat people (i + 1)).toNat : Nat) : Int) = pat people (i + 1) by omega]
      have es := cP_next (halls := halls) pp (some (pat halls 0)) hi
      refine ss_one (s_setIx 8 (ds := (tab (m + 1) people (cP m halls (some (pat halls 0)) i)).map D.oi) (n := (pat people (i + 1)).toNat) (d := .int (pat halls i)) (ev_ix rfl (ev_var 9) ev_int e2) (Ev.is (ev_ix rfl (ev_var 9) ev_int e0) ec) (by rw [List.length_map, tab_len]; omega) ⟨_, by rw [← es, List.map_set] <;> rfl⟩)
    obtain ⟨z9, rfl⟩ := hI
    have el : ((cSteps m people halls).map stepD).length = m := by
      unfold cSteps
      rw [List.length_map, List.length_map, List.length_range]
    rw [el]
    obtain ⟨p0, p1⟩ := pp.in_ (k := 0) (by omega)
    obtain ⟨h0, h1⟩ := ph.in_ (k := 0) (by omega)
    have ap : (intsD people).at_ 0 = some (.int (pat people 0)) := at_pat (k := 0) (by omega)
    have ah : (intsD halls).at_ 0 = some (.int (pat halls 0)) := at_pat (k := 0) (by omega)
    have ec : Sl.v (D.int (pat people 0)) = Sl.v (D.int (((pat people 0).toNat : Nat) : Int)) := by rw [show (((pat people 0).toNat : Nat) : Int) = pat people 0 by omega]
    have gg := c_gone16 pp ph m1 m8
    have gm := fun (M : Int) (hM : 1 ≤ M) => c_more16 pp ph m1 m8 (M := M) hM
    rw [hws, hhs] at gg gm
    refine ss_cons (s_ifJ (b := decide (cellAt s 3 % 2 = 0)) (fun G => ∃ (qs : List (Option Int)), G = [.v (.scr s), .v (.int m), .v (intsD halls), .v (intsD people), .v (intssD ws), .v (hssD hs), .v (oisD (tab (m + 1) people (cP m halls (some (pat halls 0)) 0))), z7, .m (qs.map D.oi), z9, .v (.tup [oisD qs, stepsD (cSteps m people halls)]), .un]) (et_cmp (ev_bin (ev_call rfl CC hr1 (ea_cons (ev_var 0) (ea_cons ev_int ea_nil)) ⟨s, 3, rfl, by decide, rfl⟩) ev_int (bin_mod (by decide))) ev_int (cmp_eq rfl hr.units ⟨rfl, rfl⟩ ⟨rfl, rfl⟩)) (fun hb => ?_) (fun hb => ?_) (fun G hI => ?_))
    · refine ss_cons (s_setIx 8 (ds := (tab (m + 1) people (cP m halls (some (pat halls 0)) m)).map D.oi) (n := (pat people 0).toNat) (d := .non) ev_non (Ev.is (ev_ix rfl (ev_var 3) ev_int ap) ec) (by rw [List.length_map, tab_len]; omega) ?_)
      have ez : ((tab (m + 1) people (cP m halls (some (pat halls 0)) m)).map D.oi).set (pat people 0).toNat D.non = (tab (m + 1) people (cP m halls none m)).map D.oi := by
        rw [← cP_zero (halls := halls) pp (some (pat halls 0)) none m, List.map_set] <;> rfl
      rw [ez]
      refine ss_one (s_asg 10 (Ev.is (Ev.nw (ev_call rfl CGn hr (ea_cons (ev_var 4) (ea_cons (ev_var 5) (ea_cons (ev_var 6) (ea_cons (ev_ix rfl (ev_var 3) ev_int ap) ea_nil)))) ⟨ws, hs, _, m + 1, pat people 0, o, M0, p0, p1, rfl, rfl⟩)) (by rw [gg.1, gg.2])) ⟨tab (m + 1) people (cP m halls none m), rfl⟩)
    · have hM : 1 ≤ 1 + cellAt s 3 / 2 % 23 := by omega
      have g2 := gm _ hM
      refine ss_one (s_asg 10 (Ev.is (Ev.nw (ev_call rfl CMH hr (ea_cons (ev_var 4) (ea_cons (ev_var 5) (ea_cons (ev_var 6) (ea_cons (ev_ix rfl (ev_var 2) ev_int ah) (ea_cons (ev_bin ev_int (ev_bin (ev_bin (ev_call rfl CC hr1 (ea_cons (ev_var 0) (ea_cons ev_int ea_nil)) ⟨s, 3, rfl, by decide, rfl⟩) ev_int (bin_div (by decide))) ev_int (bin_mod (by decide))) bin_add) ea_nil))))) ⟨ws, hs, _, m + 1, pat halls 0, 1 + cellAt s 3 / 2 % 23, o, M0, h0, by rw [hsl]; exact h1, by omega, rfl, rfl⟩)) (by rw [g2.1, g2.2])) ⟨tab (m + 1) people (cP m halls (some (pat halls 0)) m), rfl⟩)
    obtain ⟨qs, rfl⟩ := hI
    refine ss_frz 8 rfl (ss_one (s_ret (Ev.is (ev_cmp (d1 := D.tup [oisD qs, stepsD (cSteps m people halls)]) (d2 := D.tup [oisD qs, stepsD (cSteps m people halls)]) (ev_var 10) (ev_tup (ea_cons (ev_var 8) (ea_cons (Ev.fz (ev_call rfl CSt hr1 (ea_cons (ev_var 3) (ea_cons (ev_var 2) ea_nil)) ⟨m, people, halls, pp, ph, m1, m8, rfl, rfl⟩)) ea_nil)) (by show (2 : Nat) ≤ 100000; decide)) (cmp_eq rfl hr.units (cm_fnd _ _).ok (cm_fnd _ _).ok)) (r' := .v (.bl true)) (by rw [eqv_fnd])) rfl))
end
end CH

namespace CH
open PySem PySem.Spec PyProof.Rows L2
/-! ### the head -/
def d_held : He.DefD := ⟨("held", none), "held", "held", defArgs s_held, defBody s_held, defScope s_held, [], []⟩
def d_rather : He.DefD := ⟨("rather", none), "rather", "rather", defArgs s_rather, defBody s_rather, defScope s_rather, [], []⟩
def d_both_rather : He.DefD := ⟨("both_rather", none), "both_rather", "both_rather", defArgs s_both_rather, defBody s_both_rather, defScope s_both_rather, [], []⟩
def d_waiting : He.DefD := ⟨("waiting", none), "waiting", "waiting", defArgs s_waiting, defBody s_waiting, defScope s_waiting, [], []⟩
def d_moved : He.DefD := ⟨("moved", none), "moved", "moved", defArgs s_moved, defBody s_moved, defScope s_moved, [], []⟩
def d_gone : He.DefD := ⟨("gone", none), "gone", "gone", defArgs s_gone, defBody s_gone, defScope s_gone, [], []⟩
def d_more : He.DefD := ⟨("more", none), "more", "more", defArgs s_more, defBody s_more, defScope s_more, [], []⟩
def d_asked : He.DefD := ⟨("asked", none), "asked", "asked", defArgs s_asked, defBody s_asked, defScope s_asked, [], []⟩
def d_granted : He.DefD := ⟨("granted", none), "granted", "granted", defArgs s_granted, defBody s_granted, defScope s_granted, [], []⟩
def d__law_cell_at : He.DefD := ⟨("_law_cell_at", none), "_law_cell_at", "_law_cell_at", defArgs s__law_cell_at, defBody s__law_cell_at, defScope s__law_cell_at, [], []⟩
def d__law_whole : He.DefD := ⟨("_law_whole", none), "_law_whole", "_law_whole", defArgs s__law_whole, defBody s__law_whole, defScope s__law_whole, [], []⟩
def d__law_row_by : He.DefD := ⟨("_law_row_by", none), "_law_row_by", "_law_row_by", defArgs s__law_row_by, defBody s__law_row_by, defScope s__law_row_by, [], []⟩
def d__law_wishes : He.DefD := ⟨("_law_wishes", none), "_law_wishes", "_law_wishes", defArgs s__law_wishes, defBody s__law_wishes, defScope s__law_wishes, [], []⟩
def d__law_houses : He.DefD := ⟨("_law_houses", none), "_law_houses", "_law_houses", defArgs s__law_houses, defBody s__law_houses, defScope s__law_houses, [], []⟩
def d__law_steps : He.DefD := ⟨("_law_steps", none), "_law_steps", "_law_steps", defArgs s__law_steps, defBody s__law_steps, defScope s__law_steps, [], []⟩
def d_law : He.DefD := ⟨("law", none), "law", "law", defArgs s_law, defBody s_law, defScope s_law, [], []⟩
def d_House___init__ : He.DefD := ⟨("House", some "__init__"), "__init__", "House.__init__", defArgs s_House___init__, defBody s_House___init__, defScope s_House___init__, [], []⟩
def d_House_ranked : He.DefD := ⟨("House", some "ranked"), "ranked", "House.ranked", defArgs s_House_ranked, defBody s_House_ranked, defScope s_House_ranked, [], []⟩
def d_House_chosen : He.DefD := ⟨("House", some "chosen"), "chosen", "House.chosen", defArgs s_House_chosen, defBody s_House_chosen, defScope s_House_chosen, [], []⟩
def d_House_with_more : He.DefD := ⟨("House", some "with_more"), "with_more", "House.with_more", defArgs s_House_with_more, defBody s_House_with_more, defScope s_House_with_more, [], []⟩
def dfs : List He.DefD := [d_held, d_rather, d_both_rather, d_waiting, d_moved, d_gone, d_more, d_asked, d_granted, d__law_cell_at, d__law_whole, d__law_row_by, d__law_wishes, d__law_houses, d__law_steps, d_law, d_House___init__, d_House_ranked, d_House_chosen, d_House_with_more]
def fas : List He.Fa := [.glo "held", .glo "rather", .glo "both_rather", .glo "waiting", .glo "moved", .glo "gone", .glo "more", .glo "asked", .glo "granted", .glo "_law_cell_at", .glo "_law_whole", .glo "_law_row_by", .glo "_law_wishes", .glo "_law_houses", .glo "_law_steps", .glo "law", .free "len", .free "range", .free "list", .free "sorted", .free "isinstance", .free "str", .free "int", .free "min", .free "max", .free "set", .free "tuple", .free "bool", .glo "House", .cls "House", .mkr "House", .noat "House" "seats", .noat "House" "kept", .noat "House" "kind", .noat "House" "opened", .noat "House" "points", .noat "House" "kinds", .noat "House" "row", .meth "House" "ranked", .meth "House" "chosen", .meth "House" "with_more"]
def tfs : List He.Defn := [("House", some "ranked")]
def exs : PySem.W.Frag → Bool := fun _ => true
abbrev Rw : PySem.W.OpenRow := PySem.W.OpenLaw.row PySem.Challenge.rw_choosehall_k16_whole_long_goings
abbrev hk : PySem.W.Hook := He.hookX 7 fas dfs [] tfs exs
def ob (s : PySem.W.SharedT) : He.AlX := He.obsX 7 fas dfs [] tfs exs (HandSHeadRun.getT s)
theorem ob_eq (s : PySem.W.SharedT) : ob s = hk.obs s.abs := He.obsX_eq (HandSHeadRun.getT_eq s)
def lawI : Nat := 22
theorem run (w : World) : HandSHeadRun.RunEq Rw (PySem.W.view Rw.prog [22]) hk ob 2000 ["held", "rather", "both_rather", "waiting", "moved", "gone", "more", "asked", "granted", "House", "_law_cell_at", "_law_whole", "_law_row_by", "_law_wishes", "_law_houses", "_law_steps"] w := by
  intro os
  kernel_rfl
structure Say (g : Gb) (mg : Str → Option Value) : Prop where
  fr : Free mg
  g_held : mg "held" = some (.ref (He.ga g.K "held"))
  g_rather : mg "rather" = some (.ref (He.ga g.K "rather"))
  g_both_rather : mg "both_rather" = some (.ref (He.ga g.K "both_rather"))
  g_waiting : mg "waiting" = some (.ref (He.ga g.K "waiting"))
  g_moved : mg "moved" = some (.ref (He.ga g.K "moved"))
  g_gone : mg "gone" = some (.ref (He.ga g.K "gone"))
  g_more : mg "more" = some (.ref (He.ga g.K "more"))
  g_asked : mg "asked" = some (.ref (He.ga g.K "asked"))
  g_granted : mg "granted" = some (.ref (He.ga g.K "granted"))
  g__law_cell_at : mg "_law_cell_at" = some (.ref (He.ga g.K "_law_cell_at"))
  g__law_whole : mg "_law_whole" = some (.ref (He.ga g.K "_law_whole"))
  g__law_row_by : mg "_law_row_by" = some (.ref (He.ga g.K "_law_row_by"))
  g__law_wishes : mg "_law_wishes" = some (.ref (He.ga g.K "_law_wishes"))
  g__law_houses : mg "_law_houses" = some (.ref (He.ga g.K "_law_houses"))
  g__law_steps : mg "_law_steps" = some (.ref (He.ga g.K "_law_steps"))
  g_law : mg "law" = some (.ref (He.ga g.K "law"))
  f_held : ∃ fd, FnP g.K "held" "held" s_held (He.ga g.K "held") fd
  f_rather : ∃ fd, FnP g.K "rather" "rather" s_rather (He.ga g.K "rather") fd
  f_both_rather : ∃ fd, FnP g.K "both_rather" "both_rather" s_both_rather (He.ga g.K "both_rather") fd
  f_waiting : ∃ fd, FnP g.K "waiting" "waiting" s_waiting (He.ga g.K "waiting") fd
  f_moved : ∃ fd, FnP g.K "moved" "moved" s_moved (He.ga g.K "moved") fd
  f_gone : ∃ fd, FnP g.K "gone" "gone" s_gone (He.ga g.K "gone") fd
  f_more : ∃ fd, FnP g.K "more" "more" s_more (He.ga g.K "more") fd
  f_asked : ∃ fd, FnP g.K "asked" "asked" s_asked (He.ga g.K "asked") fd
  f_granted : ∃ fd, FnP g.K "granted" "granted" s_granted (He.ga g.K "granted") fd
  f__law_cell_at : ∃ fd, FnP g.K "_law_cell_at" "_law_cell_at" s__law_cell_at (He.ga g.K "_law_cell_at") fd
  f__law_whole : ∃ fd, FnP g.K "_law_whole" "_law_whole" s__law_whole (He.ga g.K "_law_whole") fd
  f__law_row_by : ∃ fd, FnP g.K "_law_row_by" "_law_row_by" s__law_row_by (He.ga g.K "_law_row_by") fd
  f__law_wishes : ∃ fd, FnP g.K "_law_wishes" "_law_wishes" s__law_wishes (He.ga g.K "_law_wishes") fd
  f__law_houses : ∃ fd, FnP g.K "_law_houses" "_law_houses" s__law_houses (He.ga g.K "_law_houses") fd
  f__law_steps : ∃ fd, FnP g.K "_law_steps" "_law_steps" s__law_steps (He.ga g.K "_law_steps") fd
  f_law : ∃ fd, FnP g.K "law" "law" s_law (He.ga g.K "law") fd
  g_House : mg "House" = some (.ref g.C)
  cf : ClsF g
  mkH : Mk g.K g.C (He.ma g.K g.C "__init__")
  f_House___init__ : ∃ fd, FnP g.K "__init__" "House.__init__" s_House___init__ (He.ma g.K g.C "__init__") fd
  f_House_ranked : ∃ fd, FnP g.K "ranked" "House.ranked" s_House_ranked (He.ma g.K g.C "ranked") fd ∧ fd.code = .ref (He.cT g.K ("House", some "ranked")).1
  m_ranked : Meth g.K g.C "ranked" (He.ma g.K g.C "ranked")
  f_House_chosen : ∃ fd, FnP g.K "chosen" "House.chosen" s_House_chosen (He.ma g.K g.C "chosen") fd
  m_chosen : Meth g.K g.C "chosen" (He.ma g.K g.C "chosen")
  f_House_with_more : ∃ fd, FnP g.K "with_more" "House.with_more" s_House_with_more (He.ma g.K g.C "with_more") fd
  m_with_more : Meth g.K g.C "with_more" (He.ma g.K g.C "with_more")
abbrev gOf (K : PySem.W.Frag) : Gb := ⟨K, He.ga K "House", [((He.cT K ("House", some "ranked")).2, ("House.ranked" : Str) ++ ".<locals>." ++ "<lambda>")]⟩
theorem say {w : World} {K : PySem.W.Frag} {h : Heap} {mg : Str → Option Value} (X : K.In h) (G : h.Ns mainGlobals mg) (c : He.SaysX fas dfs [] tfs exs w h K) : Say (gOf K) mg := by
  have D := c.t.d
  refine ⟨⟨He.free_ok X G (D.fact 16 (f := .free "len") rfl), He.free_ok X G (D.fact 17 (f := .free "range") rfl), He.free_ok X G (D.fact 18 (f := .free "list") rfl), He.free_ok X G (D.fact 19 (f := .free "sorted") rfl), He.free_ok X G (D.fact 20 (f := .free "isinstance") rfl), He.free_ok X G (D.fact 21 (f := .free "str") rfl), He.free_ok X G (D.fact 22 (f := .free "int") rfl), He.free_ok X G (D.fact 23 (f := .free "min") rfl), He.free_ok X G (D.fact 24 (f := .free "max") rfl), He.free_ok X G (D.fact 25 (f := .free "set") rfl), He.free_ok X G (D.fact 26 (f := .free "tuple") rfl), He.free_ok X G (D.fact 27 (f := .free "bool") rfl)⟩, He.glo_ok X G (D.fact 0 (f := .glo "held") rfl), He.glo_ok X G (D.fact 1 (f := .glo "rather") rfl), He.glo_ok X G (D.fact 2 (f := .glo "both_rather") rfl), He.glo_ok X G (D.fact 3 (f := .glo "waiting") rfl), He.glo_ok X G (D.fact 4 (f := .glo "moved") rfl), He.glo_ok X G (D.fact 5 (f := .glo "gone") rfl), He.glo_ok X G (D.fact 6 (f := .glo "more") rfl), He.glo_ok X G (D.fact 7 (f := .glo "asked") rfl), He.glo_ok X G (D.fact 8 (f := .glo "granted") rfl), He.glo_ok X G (D.fact 9 (f := .glo "_law_cell_at") rfl), He.glo_ok X G (D.fact 10 (f := .glo "_law_whole") rfl), He.glo_ok X G (D.fact 11 (f := .glo "_law_row_by") rfl), He.glo_ok X G (D.fact 12 (f := .glo "_law_wishes") rfl), He.glo_ok X G (D.fact 13 (f := .glo "_law_houses") rfl), He.glo_ok X G (D.fact 14 (f := .glo "_law_steps") rfl), He.glo_ok X G (D.fact 15 (f := .glo "law") rfl), D.def_ 0 (d := d_held) rfl, D.def_ 1 (d := d_rather) rfl, D.def_ 2 (d := d_both_rather) rfl, D.def_ 3 (d := d_waiting) rfl, D.def_ 4 (d := d_moved) rfl, D.def_ 5 (d := d_gone) rfl, D.def_ 6 (d := d_more) rfl, D.def_ 7 (d := d_asked) rfl, D.def_ 8 (d := d_granted) rfl, D.def_ 9 (d := d__law_cell_at) rfl, D.def_ 10 (d := d__law_whole) rfl, D.def_ 11 (d := d__law_row_by) rfl, D.def_ 12 (d := d__law_wishes) rfl, D.def_ 13 (d := d__law_houses) rfl, D.def_ 14 (d := d__law_steps) rfl, D.def_ 15 (d := d_law) rfl, He.glo_ok X G (D.fact 28 (f := .glo "House") rfl), ⟨He.cls_ok (D.fact 29 (f := .cls "House") rfl), He.noat_ok (D.fact 31 (f := .noat "House" "seats") rfl), He.noat_ok (D.fact 32 (f := .noat "House" "kept") rfl), He.noat_ok (D.fact 33 (f := .noat "House" "kind") rfl), He.noat_ok (D.fact 34 (f := .noat "House" "opened") rfl), He.noat_ok (D.fact 35 (f := .noat "House" "points") rfl), He.noat_ok (D.fact 36 (f := .noat "House" "kinds") rfl), He.noat_ok (D.fact 37 (f := .noat "House" "row") rfl)⟩, He.mkr_ok (D.fact 30 (f := .mkr "House") rfl), D.def_ 16 (d := d_House___init__) rfl, ?rk, He.meth_ok (D.fact 38 (f := .meth "House" "ranked") rfl), D.def_ 18 (d := d_House_chosen) rfl, He.meth_ok (D.fact 39 (f := .meth "House" "chosen") rfl), D.def_ 19 (d := d_House_with_more) rfl, He.meth_ok (D.fact 40 (f := .meth "House" "with_more") rfl)⟩
  case rk =>
    obtain ⟨fd, F⟩ := D.def_ 17 (d := d_House_ranked) rfl
    refine ⟨fd, F, ?_⟩
    obtain ⟨oc, od, dV, kV, doc, pm, an, cdv, ct, osl, e, lk, hcd, _, _⟩ := F.ex
    obtain ⟨c1, e1⟩ := He.codeIn_ref hcd
    have e2 : fd.code = .ref c1 := by rw [e, ← e1] <;> rfl
    rw [e2]
    exact congrArg Value.ref (He.codeOf_eq (p := ("House", some "ranked")) lk e2).symm
end CH

/-! Choosehall: the law's promise at a script. -/
namespace CH
open PySem PySem.Spec PyProof.Rows L2
theorem tabs_of {T : List (Addr × Str)} {H : Hp} (hT : ∀ p ∈ T, H p.1 = some (.tbl #[])) : LamX.Tabs T H := fun p hp => by
  refine ⟨#[], hT p hp, ?_, fun pos cv e => ?_⟩
  · first | exact .nil | trivial | (intro _ h; cases h)
  · cases e
theorem prom_scr {K : PySem.W.Frag} {C : Addr} {T : List (Addr × Str)} {H : Hp} {a : Addr} {ns : List Int} (hT : ∀ p ∈ T, H p.1 = some (.tbl #[])) (hS : SqL K H a (ns.map V.int)) : Prom ⟨K, C, T⟩ RLaw [.ref a] H (fun v _ => v = .bl true) (fun _ _ _ => False) := by
  have fin : ∀ F : Hp, Sub F H → Fro F → SqL K F a (ns.map V.int) → Prom ⟨K, C, T⟩ RLaw [.ref a] H (fun v _ => v = .bl true) (fun _ _ _ => False) := fun F s f q =>
    ⟨[.scr ns], .v (.bl true), F, ⟨ns, rfl, rfl⟩, repL_cons (.scr q) repL_nil, ⟨s, f, tabs_of hT⟩, fun v F' H' u r => of_bl r⟩
  rcases hS with (h | ⟨ob, h⟩) | h
  · refine fin (fun b => if b = a then some (.lst (ns.map V.int)) else none) (fun b o e => ?_) (fun b o e => ?_) (.inl (.inl (if_pos rfl)))
    · have e : (if b = a then some _ else none) = some o := e
      by_cases hb : b = a
      · rw [if_pos hb] at e
        rw [hb, h, e]
      · rw [if_neg hb] at e
        cases e
    · have e : (if b = a then some _ else none) = some o := e
      by_cases hb : b = a
      · rw [if_pos hb] at e
        cases e
        exact nt_lst
      · rw [if_neg hb] at e
        cases e
  · refine fin (fun b => if b = a then some (.frz ob (.lst (ns.map V.int))) else none) (fun b o e => ?_) (fun b o e => ?_) (.inl (.inr ⟨ob, if_pos rfl⟩))
    · have e : (if b = a then some _ else none) = some o := e
      by_cases hb : b = a
      · rw [if_pos hb] at e
        rw [hb, h, e]
      · rw [if_neg hb] at e
        cases e
    · have e : (if b = a then some _ else none) = some o := e
      by_cases hb : b = a
      · rw [if_pos hb] at e
        cases e
        exact nt_frz
      · rw [if_neg hb] at e
        cases e
  · exact fin (fun _ => none) (fun _ _ e => by cases e) (fun _ _ e => by cases e) (.inr h)
end CH

namespace CH
open PySem PySem.Spec PyProof.Rows L2
abbrev lawK : Nat := 8
theorem facts {P : Program} {w : World} {K : PySem.W.Frag} {h : Heap} {mg : Str → Option Value} {fa : Addr} (X : K.In h) (G : h.Ns mainGlobals mg) (hfa : mg ("law" : Str) = some (.ref fa)) (c : He.SaysX fas dfs [] tfs exs w h K) :
    ∃ fd : FuncData, (∀ (s : Shared) (v : Value), BindsTo s fd ⟨[v], []⟩ [("script", v)]) ∧ ∀ base : Heap, (LamX.TabB base mg (He.cT K ("House", some "ranked")).1 (He.cT K ("House", some "ranked")).2) → FnOk P w K mg base CX0 lawK fa fd ["script"] (Prom (gOf K) RLaw) := by
  have S := say X G c
  have e := hfa.symm.trans S.g_law
  cases e
  obtain ⟨fd, F⟩ := S.f_law
  have b := FunD.bindsA (ps := ["script"]) F fun _ _ _ _ _ _ us hl => match us, hl with | [_], _ => rfl
  refine ⟨fd, fun s v => b s [v] rfl, fun base TB => ?_⟩
  obtain ⟨_, F1⟩ := S.f__law_cell_at
  obtain ⟨_, F2⟩ := S.f__law_row_by
  obtain ⟨_, F8⟩ := S.f_House___init__
  obtain ⟨_, F9, hc⟩ := S.f_House_ranked
  obtain ⟨_, F10⟩ := S.f_House_chosen
  have CC : Cal P w (gOf K) mg base "_law_cell_at" 1 RCell := c_cell F1 S.g__law_cell_at S.fr
  have CR : Cal P w (gOf K) mg base "_law_row_by" 1 RRow := c_row F2 S.g__law_row_by S.fr
  have CI : HCal P w (gOf K) mg base 1 := c_house F8 S.cf S.fr S.mkH S.g_House
  have CRk : MCal P w (gOf K) mg base "ranked" 3 RRanked := c_ranked F9 hc S.m_ranked S.cf S.fr TB rfl
  have CCh := c_chosen F10 S.m_chosen S.cf S.fr CRk
  obtain ⟨_, GCHe⟩ := S.f_held
  have CHe : Cal P w (gOf K) mg base "held" 1 RHeld := c_held GCHe S.g_held S.fr
  obtain ⟨_, GCRa⟩ := S.f_rather
  have CRa : Cal P w (gOf K) mg base "rather" 1 RRather := c_rather GCRa S.g_rather S.fr
  obtain ⟨_, GCB⟩ := S.f_both_rather
  have CB : Cal P w (gOf K) mg base "both_rather" 5 RBoth := c_both GCB S.g_both_rather S.fr S.cf CHe CRa CCh
  obtain ⟨_, GCAs⟩ := S.f_asked
  have CAs : Cal P w (gOf K) mg base "asked" 1 RAsk := c_ask GCAs S.g_asked S.fr
  obtain ⟨_, GCG⟩ := S.f_granted
  have CG : Cal P w (gOf K) mg base "granted" 5 RGranted := c_granted GCG S.g_granted S.fr S.cf CHe CAs CCh
  obtain ⟨_, GCWt⟩ := S.f_waiting
  have CWt : Cal P w (gOf K) mg base "waiting" 4 RWait := c_wait GCWt S.g_waiting S.fr S.cf CRa CRk
  obtain ⟨_, GCM⟩ := S.f_moved
  have CM : Cal P w (gOf K) mg base "moved" 6 RMoved := c_moved GCM S.g_moved S.fr S.cf CB CHe CWt CCh
  obtain ⟨_, GCGn⟩ := S.f_gone
  have CGn : Cal P w (gOf K) mg base "gone" 7 RGone := c_gone GCGn S.g_gone S.fr CM
  obtain ⟨_, GCMo⟩ := S.f_House_with_more
  have CMo : MCal P w (gOf K) mg base "with_more" 3 RMore := c_more GCMo S.m_with_more S.cf S.fr CI
  obtain ⟨_, GCMH⟩ := S.f_more
  have CMH : Cal P w (gOf K) mg base "more" 7 RMoreH := c_moreH GCMH S.g_more S.fr S.cf CMo CM
  obtain ⟨_, GCWi⟩ := S.f__law_wishes
  have CWi : Cal P w (gOf K) mg base "_law_wishes" 1 RWish16 := c_wish16 GCWi S.g__law_wishes S.fr
  obtain ⟨_, GCHo⟩ := S.f__law_houses
  have CHo : Cal P w (gOf K) mg base "_law_houses" 3 RHouse16 := c_house16 GCHo S.g__law_houses S.fr CI
  obtain ⟨_, GCSt⟩ := S.f__law_steps
  have CSt : Cal P w (gOf K) mg base "_law_steps" 1 RSteps16 := c_steps16 GCSt S.g__law_steps S.fr
  exact c_law16 F S.fr CC CR CWi CHo CSt CG CGn CMH
end CH

open PySem PySem.W PySem.Calls PyProof.Rows
theorem PySem.Challenge.cw_choosehall_k16_whole_long_goings_holds : PySem.Challenge.rw_choosehall_k16_whole_long_goings.Holds := by
  w_on; o_law
  refine HandSHeadRun.head_any (r := OpenLaw.row PySem.Challenge.rw_choosehall_k16_whole_long_goings) (q := view (OpenLaw.row PySem.Challenge.rw_choosehall_k16_whole_long_goings).prog [CH.lawI]) (H := CH.hk) (ob := CH.ob) (M := 2000) (loose := ["held", "rather", "both_rather", "waiting", "moved", "gone", "more", "asked", "granted", "House", "_law_cell_at", "_law_whole", "_law_row_by", "_law_wishes", "_law_houses", "_law_steps"]) (d := HandSHeadRun.topDef (OpenLaw.row PySem.Challenge.rw_choosehall_k16_whole_long_goings).prog CH.lawI) (kwd := []) CH.ob_eq
    (by kernel_rfl) (fun s => by kernel_rfl) CH.run (by kernel_rfl) (by kernel_rfl) (by kernel_rfl) (by rfl) (by first | assumption | decide +kernel) (by decide +kernel) ⟨rfl, rfl, rfl, rfl, rfl, by decide +kernel⟩ ?hw ?hc
  case hw => w_witness2
  case hc =>
    refine LamX.walk_ofTsE (l := PySem.Challenge.rw_choosehall_k16_whole_long_goings) (n := 63) (k := CH.lawK) (x := "script") (CX := fun _ => L2.CX0) rfl (by decide) (by kernel_rfl) ⟨rfl, by decide, by decide⟩ ?F (fun _ _ _ _ _ z => z)
    intro w mg fa h Y G hmg0
    obtain ⟨K, KX, c⟩ := Y
    have hmg : mg ("law" : PySem.Str) = some (.ref fa) := by
      have e : (HandSHeadRun.topDef (OpenLaw.row PySem.Challenge.rw_choosehall_k16_whole_long_goings).prog CH.lawI).name = ("law" : PySem.Str) := by kernel_rfl
      rw [← e]
      exact hmg0
    obtain ⟨fd, hb, hF⟩ := CH.facts (P := (PySem.Challenge.rw_choosehall_k16_whole_long_goings).prog) (w := w) KX G hmg c
    have one : ∀ p ∈ [He.cT K ("House", some "ranked")], p = He.cT K ("House", some "ranked") := fun p hp => List.mem_singleton.mp hp
    have mem : (("House", some "ranked") : He.Defn) ∈ CH.tfs := List.mem_singleton.mpr rfl
    refine ⟨K, KX, fd, [He.cT K ("House", some "ranked")], CH.Prom (CH.gOf K) CH.RLaw, fun p hp => ?_, fun p hp => ?_, fun p hp => ?_, hb, fun H a ns hl _ hT hS => ?_, fun base hK hN TB => hF base (TB _ (List.mem_singleton.mpr rfl))⟩
    · rw [one p hp]
      exact c.empty _ mem
    · rw [one p hp]
      exact c.out _ mem
    · rw [one p hp]
      exact PySem.W.codeHd_of_K KX (c.hd _ mem)
    · exact CH.prom_scr (fun p hp => by rw [List.mem_singleton.mp hp]; exact hT _ (List.mem_singleton.mpr rfl)) hS
