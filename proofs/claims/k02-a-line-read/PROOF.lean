import PyProof.Rows.All
import Wide.All
import OpenK.AllK
import Wide.FinOn
import HandS.Base
import HandS.Call
import HandS.List
import HandS.Comp
import HandS.Ends
import HandS.Dict
import HandS.Iter
import HandS.Text
import HandS.More
import HandS.Words
import HandS.WordsList
import HandS.WordsDict
import HandS.Walk
import HandS.IsInst
import HandS.Wide
import HandS.Lambda
import HandS.Conv
import HandS.Zip
import HandS.Defaults
import HandS.SortKw
import KE.SortKeyHeap
import HandS.Codes
import KE.GoesRaise
import HandS.Exc
import HandS.ExcOwn
import HandS.HeadHook1
import HandS.ExcIs
import KE.KxText
import KE.KxAffix
import KE.DatumOrd
import HandS.Head0
import HandS.Head1
import HandS.Head2
import HandS.HeadEnd
import HandS.HeadHook4
import HandS.HeadWalk
import HandS.EndTab
import PySem.Challenge.RW_choosehall_k02_a_line_read
set_option Elab.async false
set_option maxRecDepth 100000
set_option maxHeartbeats 4000000
set_option linter.all false
/-! Choosehall, the ground: values as plain data, two heaps (what is frozen, what is there), slots of a frame by their data. -/
namespace CH
open PySem L2

theorem nd_by {N : List Str} (h : decide N.Nodup = true) : N.Nodup := of_decide_eq_true h
/-- a house, as plain data -/
structure Hs where
  seats : Int
  kept : Int
  kind : Int
  opened : Bool
  pts : List (Option Int)
  kinds : List Int
  row : List Int
  deriving DecidableEq

/-- plain data: what a value is worth -/
inductive D where
  | non
  | bl (b : Bool)
  | int (i : Int)
  | str (x : Str)
  | lst (l : List D)
  | tup (l : List D)
  | scr (l : List Int)
  | hs (h : Hs)
  | adr (a : Addr)

def D.oi : Option Int → D
  | none => .non
  | some i => .int i
def vOi : Option Int → V
  | none => .non
  | some i => .int i

/-- what the whole walk leans on: the written part, the class House, the tables of code objects -/
structure Gb where
  K : PySem.W.Frag
  C : Addr
  T : List (Addr × Str)

def NT (o : HO) : Prop := ∀ ps, o ≠ .tbl ps
def Sub (F H : Hp) : Prop := ∀ b o, F b = some o → H b = some o
def Fro (F : Hp) : Prop := ∀ b o, F b = some o → NT o
theorem Sub.refl (F : Hp) : Sub F F := fun _ _ h => h
theorem Sub.trans {F G H : Hp} (a : Sub F G) (b : Sub G H) : Sub F H := fun c o h => b c o (a c o h)
theorem Sub.free {F H : Hp} (a : Sub F H) {b : Addr} (h : H b = none) : F b = none := by
  cases e : F b with
  | none => rfl
  | some o =>
    rw [a b o e] at h
    cases h
theorem nt_lst {xs : List V} : NT (.lst xs) := fun _ z => by cases z
theorem nt_tup {xs : List V} : NT (.tup xs) := fun _ z => by cases z
theorem nt_dK {k : List (Key × V)} : NT (.dK k) := fun _ z => by cases z
theorem nt_ins {C d : Addr} {k : List (Str × V)} : NT (.ins C d k) := fun _ z => by cases z
theorem nt_own {C : Addr} : NT (.own C) := fun _ z => by cases z

/-- an instance of House has these attributes, stored in this order -/
def flds (h : Hs) (p q r : Addr) : List (Str × V) :=
  putF "row" (.ref r) (putF "kinds" (.ref q) (putF "points" (.ref p) (putF "opened" (.bl h.opened) (putF "kind" (.int h.kind) (putF "kept" (.int h.kept) (putF "seats" (.int h.seats) []))))))

def HsAt (g : Gb) (F : Hp) (h : Hs) (a : Addr) : Prop := ∃ dx p q r, F a = some (.ins g.C dx (flds h p q r)) ∧
  F p = some (.lst (h.pts.map vOi)) ∧ F q = some (.lst (h.kinds.map V.int)) ∧ F r = some (.lst (h.row.map V.int))

mutual
inductive Rep (g : Gb) (F : Hp) : D → V → Prop where
  | non : Rep g F .non .non
  | bl (b : Bool) : Rep g F (.bl b) (.bl b)
  | int (i : Int) : Rep g F (.int i) (.int i)
  | str (x : Str) : Rep g F (.str x) (.str x)
  | lst {a : Addr} {xs : List V} {ds : List D} : F a = some (.lst xs) → RepL g F ds xs → Rep g F (.lst ds) (.ref a)
  | tup {a : Addr} {xs : List V} {ds : List D} : F a = some (.tup xs) → RepL g F ds xs → Rep g F (.tup ds) (.ref a)
  | scr {a : Addr} {l : List Int} : SqL g.K F a (l.map V.int) → Rep g F (.scr l) (.ref a)
  | hs {a : Addr} {h : Hs} : HsAt g F h a → Rep g F (.hs h) (.ref a)
  | adr (a : Addr) : Rep g F (.adr a) (.ref a)
inductive RepL (g : Gb) (F : Hp) : List D → List V → Prop where
  | nil : RepL g F [] []
  | cons {d : D} {ds : List D} {v : V} {vs : List V} : Rep g F d v → RepL g F ds vs → RepL g F (d :: ds) (v :: vs)
end

section
variable {g : Gb} {F F' H H' : Hp}
theorem HsAt.mono (e : Sub F F') {h : Hs} {a : Addr} : HsAt g F h a → HsAt g F' h a := fun ⟨dx, p, q, r, h1, h2, h3, h4⟩ => ⟨dx, p, q, r, e _ _ h1, e _ _ h2, e _ _ h3, e _ _ h4⟩
theorem sql_mono {K : PySem.W.Frag} (e : Sub F F') {a : Addr} {xs : List V} (h : SqL K F a xs) : SqL K F' a xs := by
  rcases h with (h | ⟨o, h⟩) | h
  · exact .inl (.inl (e _ _ h))
  · exact .inl (.inr ⟨o, e _ _ h⟩)
  · exact .inr h
mutual
theorem Rep.mono (e : Sub F F') : ∀ (d : D) (v : V), Rep g F d v → Rep g F' d v
  | _, _, .non => .non
  | _, _, .bl b => .bl b
  | _, _, .int i => .int i
  | _, _, .str x => .str x
  | _, _, .lst h k => .lst (e _ _ h) (RepL.mono e _ _ k)
  | _, _, .tup h k => .tup (e _ _ h) (RepL.mono e _ _ k)
  | _, _, .scr h => .scr (sql_mono e h)
  | _, _, .hs h => .hs (h.mono e)
  | _, _, .adr a => .adr a
theorem RepL.mono (e : Sub F F') : ∀ (ds : List D) (xs : List V), RepL g F ds xs → RepL g F' ds xs
  | _, _, .nil => .nil
  | _, _, .cons h k => .cons (Rep.mono e _ _ h) (RepL.mono e _ _ k)
end
theorem repL_cons {d : D} {ds : List D} {v : V} {vs : List V} (h : Rep g F d v) (t : RepL g F ds vs) : RepL g F (d :: ds) (v :: vs) := .cons h t
theorem repL_nil : RepL g F [] [] := .nil
theorem RepL.len : ∀ {ds : List D} {xs : List V}, RepL g F ds xs → xs.length = ds.length
  | _, _, .nil => rfl
  | _, _, .cons _ k => by rw [List.length_cons, List.length_cons, RepL.len k]
theorem RepL.get : ∀ {ds : List D} {xs : List V} {i : Nat} {v : V}, RepL g F ds xs → xs[i]? = some v → ∃ d, ds[i]? = some d ∧ Rep g F d v
  | _, _, i, v, .nil, e => by cases e
  | _, _, 0, v, .cons (d := d) (v := w) h k, e => by
    have e' : w = v := Option.some.inj e
    subst e'
    exact ⟨d, rfl, h⟩
  | _, _, i + 1, v, .cons h k, e => RepL.get (i := i) k e
theorem RepL.at_ : ∀ {ds : List D} {xs : List V} {i : Nat} {d : D}, RepL g F ds xs → ds[i]? = some d → ∃ v, xs[i]? = some v ∧ Rep g F d v
  | _, _, i, d, .nil, e => by cases e
  | _, _, 0, d, .cons (d := d') (v := w) h k, e => by
    have e' : d' = d := Option.some.inj e
    subst e'
    exact ⟨w, rfl, h⟩
  | _, _, i + 1, d, .cons h k, e => RepL.at_ (i := i) k e
theorem RepL.app : ∀ {ds es : List D} {xs ys : List V}, RepL g F ds xs → RepL g F es ys → RepL g F (ds ++ es) (xs ++ ys)
  | _, _, _, _, .nil, k => k
  | _, _, _, _, .cons h t, k => .cons h (RepL.app t k)
theorem RepL.take : ∀ {ds : List D} {xs : List V} (n : Nat), RepL g F ds xs → RepL g F (ds.take n) (xs.take n)
  | _, _, 0, _ => .nil
  | _, _, _ + 1, .nil => .nil
  | _, _, n + 1, .cons h t => .cons h (RepL.take n t)
theorem RepL.drop : ∀ {ds : List D} {xs : List V} (n : Nat), RepL g F ds xs → RepL g F (ds.drop n) (xs.drop n)
  | _, _, 0, h => h
  | _, _, _ + 1, .nil => .nil
  | _, _, n + 1, .cons h t => RepL.drop n t
theorem RepL.set : ∀ {ds : List D} {xs : List V} {d : D} {v : V} (i : Nat), RepL g F ds xs → Rep g F d v → RepL g F (ds.set i d) (xs.set i v)
  | _, _, _, _, _, .nil, _ => .nil
  | _, _, _, _, 0, .cons h t, k => .cons k t
  | _, _, _, _, i + 1, .cons h t, k => .cons h (RepL.set i t k)
theorem RepL.rev : ∀ {ds : List D} {xs : List V}, RepL g F ds xs → RepL g F ds.reverse xs.reverse
  | _, _, .nil => .nil
  | _, _, .cons h t => by
    rw [List.reverse_cons, List.reverse_cons]
    exact RepL.app (RepL.rev t) (.cons h .nil)
theorem RepL.erase : ∀ {ds : List D} {xs : List V} (i : Nat), RepL g F ds xs → RepL g F (ds.eraseIdx i) (xs.eraseIdx i)
  | _, _, _, .nil => .nil
  | _, _, 0, .cons h t => t
  | _, _, i + 1, .cons h t => .cons h (RepL.erase i t)
theorem RepL.rep {ds : List D} {xs : List V} (h : RepL g F ds xs) : ∀ k : Nat, RepL g F (List.replicate k ds).flatten (List.replicate k xs).flatten
  | 0 => .nil
  | k + 1 => by
    rw [List.replicate_succ, List.replicate_succ, List.flatten_cons, List.flatten_cons]
    exact RepL.app h (RepL.rep h k)
/-- of one kind -/
theorem repL_map {α : Type} (f : α → D) (k : α → V) (h : ∀ a, Rep g F (f a) (k a)) : ∀ l : List α, RepL g F (l.map f) (l.map k)
  | [] => .nil
  | a :: l => .cons (h a) (repL_map f k h l)
theorem repL_inv {d : D} {ds : List D} {xs : List V} (h : RepL g F (d :: ds) xs) : ∃ v vs, xs = v :: vs ∧ Rep g F d v ∧ RepL g F ds vs := by
  cases h with
  | cons h t => exact ⟨_, _, rfl, h, t⟩
theorem repL_inv0 {xs : List V} (h : RepL g F [] xs) : xs = [] := by
  cases h
  rfl
theorem repL_of {α : Type} (f : α → D) (k : α → V) (h : ∀ a v, Rep g F (f a) v → v = k a) : ∀ {l : List α} {xs : List V}, RepL g F (l.map f) xs → xs = l.map k
  | [], xs, e => repL_inv0 e
  | a :: l, xs, e => by
    obtain ⟨v, vs, h1, h2, h3⟩ := repL_inv e
    rw [h1, h a v h2, repL_of f k h h3] <;> rfl
theorem rep_int (i : Int) : Rep g F (.int i) (.int i) := .int i
theorem rep_bl (i : Bool) : Rep g F (.bl i) (.bl i) := .bl i
theorem rep_str (i : Str) : Rep g F (.str i) (.str i) := .str i
theorem rep_non : Rep g F .non .non := .non
theorem rep_oi (i : Option Int) : Rep g F (D.oi i) (vOi i) := by
  cases i with
  | none => exact .non
  | some i => exact .int i
theorem of_int {i : Int} {v : V} (h : Rep g F (.int i) v) : v = .int i := by cases h; rfl
theorem of_bl {i : Bool} {v : V} (h : Rep g F (.bl i) v) : v = .bl i := by cases h; rfl
theorem of_str {i : Str} {v : V} (h : Rep g F (.str i) v) : v = .str i := by cases h; rfl
theorem of_non {v : V} (h : Rep g F .non v) : v = .non := by cases h; rfl
theorem of_oi {i : Option Int} {v : V} (h : Rep g F (D.oi i) v) : v = vOi i := by
  cases i with
  | none => exact of_non h
  | some i => exact of_int h
theorem of_lst {ds : List D} {v : V} (h : Rep g F (.lst ds) v) : ∃ a xs, v = .ref a ∧ F a = some (.lst xs) ∧ RepL g F ds xs := by
  cases h with
  | lst h k => exact ⟨_, _, rfl, h, k⟩
theorem of_tup {ds : List D} {v : V} (h : Rep g F (.tup ds) v) : ∃ a xs, v = .ref a ∧ F a = some (.tup xs) ∧ RepL g F ds xs := by
  cases h with
  | tup h k => exact ⟨_, _, rfl, h, k⟩
theorem of_hs {x : Hs} {v : V} (h : Rep g F (.hs x) v) : ∃ a, v = .ref a ∧ HsAt g F x a := by
  cases h with
  | hs h => exact ⟨_, rfl, h⟩
theorem of_scr {x : List Int} {v : V} (h : Rep g F (.scr x) v) : ∃ a, v = .ref a ∧ SqL g.K F a (x.map V.int) := by
  cases h with
  | scr h => exact ⟨_, rfl, h⟩
theorem rep_lst {ds : List D} {a : Addr} {xs : List V} (h : F a = some (.lst xs)) (k : RepL g F ds xs) : Rep g F (.lst ds) (.ref a) := .lst h k
theorem rep_tup {ds : List D} {a : Addr} {xs : List V} (h : F a = some (.tup xs)) (k : RepL g F ds xs) : Rep g F (.tup ds) (.ref a) := .tup h k
end

/-! ### how the two heaps go on -/
structure Fit (g : Gb) (F H : Hp) : Prop where
  low : Sub F H
  nt : Fro F
  tab : LamX.Tabs g.T H
/-- from the frozen F within H to F' within H': nothing that was there has changed (but the tables), what is frozen anew is new -/
structure Up (g : Gb) (F H F' H' : Hp) : Prop where
  ext : LamX.ExtN H H'
  sub : Sub F F'
  grow : ∀ b o, H b = some o → NT o → F b = none → F' b = none
  fit : Fit g F' H'
theorem Up.refl {g : Gb} {F H : Hp} (h : Fit g F H) : Up g F H F H := ⟨LamX.ExtN.refl H, Sub.refl F, fun _ _ _ _ h => h, h⟩
theorem Up.trans {g : Gb} {F H F1 H1 F2 H2 : Hp} (a : Up g F H F1 H1) (b : Up g F1 H1 F2 H2) : Up g F H F2 H2 :=
  ⟨a.ext.trans b.ext, a.sub.trans b.sub, fun c o h n f => b.grow c o (a.ext c o h n) n (a.grow c o h n f), b.fit⟩
/-- nothing but a table may have stood there -/
def Fresh (H : Hp) (l : Addr) : Prop := ∀ o, H l = some o → ¬ NT o
theorem Fresh.of {H : Hp} {l : Addr} (h : H l = none) : Fresh H l := fun o e => by
  rw [h] at e
  cases e
theorem Fresh.back {H H1 : Hp} {l : Addr} (e : LamX.ExtN H H1) (h : Fresh H1 l) : Fresh H l := fun o q n => h o (e l o q n) n
theorem Fresh.low {g : Gb} {F H : Hp} {l : Addr} (f : Fit g F H) (h : Fresh H l) : F l = none := by
  cases e : F l with
  | none => rfl
  | some o => exact absurd (f.nt l o e) (h o (f.low l o e))
theorem Fresh.ne {H : Hp} {l a : Addr} {o : HO} (h : Fresh H l) (e : H a = some o) (n : NT o) : a ≠ l := fun z => by
  rw [z] at e
  exact h o e n
theorem tabs_ext {T : List (Addr × Str)} {H H' : Hp} (t : LamX.Tabs T H) (e : Sub H H') : LamX.Tabs T H' := t.ext e
/-- one object more, not frozen -/
theorem up_new {g : Gb} {F H : Hp} (f : Fit g F H) {p : Addr} {o : HO} (hp : H p = none) : Up g F H F (upd H p o) := by
  have s : Sub H (upd H p o) := fun b u e => by
    rw [upd_ne (ne_of_none e hp)]
    exact e
  exact ⟨LamX.ExtN.of s, Sub.refl F, fun _ _ _ _ h => h, ⟨f.low.trans s, f.nt, f.tab.ext s⟩⟩
/-- one object more, frozen -/
theorem up_newF {g : Gb} {F H : Hp} (f : Fit g F H) {p : Addr} {o : HO} (hp : H p = none) (n : NT o) : Up g F H (upd F p o) (upd H p o) := by
  have fp : F p = none := f.low.free hp
  have s : Sub H (upd H p o) := fun b u e => by
    rw [upd_ne (ne_of_none e hp)]
    exact e
  refine ⟨LamX.ExtN.of s, fun b u e => ?_, fun b u e _ h => ?_, ⟨fun b u e => ?_, fun b u e => ?_, f.tab.ext s⟩⟩
  · rw [upd_ne (ne_of_none e fp)]
    exact e
  · rw [upd_ne (ne_of_none e hp)]
    exact h
  · by_cases hb : b = p
    · subst hb
      rw [upd_same] at e ⊢
      exact e
    · rw [upd_ne hb] at e ⊢
      exact f.low b u e
  · by_cases hb : b = p
    · subst hb
      rw [upd_same] at e
      cases e
      exact n
    · rw [upd_ne hb] at e
      exact f.nt b u e
/-- what stands in H, and was not frozen, is frozen from now on -/
theorem fit_frz {g : Gb} {F H : Hp} (f : Fit g F H) {p : Addr} {o : HO} (hp : H p = some o) (n : NT o) : Fit g (upd F p o) H := by
  refine ⟨fun b u e => ?_, fun b u e => ?_, f.tab⟩
  · by_cases hb : b = p
    · subst hb
      rw [upd_same] at e
      rw [hp]
      exact e
    · rw [upd_ne hb] at e
      exact f.low b u e
  · by_cases hb : b = p
    · subst hb
      rw [upd_same] at e
      cases e
      exact n
    · rw [upd_ne hb] at e
      exact f.nt b u e
theorem sub_upd {F : Hp} {p : Addr} {o : HO} (h : F p = none) : Sub F (upd F p o) := fun b u e => by
  rw [upd_ne (ne_of_none e h)]
  exact e

/-! ### slots -/
/-- what a slot of the frame holds: nothing known; a frozen value; a list that is the frame's own; a dict that is its own -/
inductive Sl where
  | un
  | v (d : D)
  | m (ds : List D)
  | dc (kvs : List (Int × V))
  | nw (d : D)
  | pr (pre : List D) (ds : List D)

def Sl.owned : Sl → Bool
  | .m _ => true
  | .dc _ => true
  | .pr _ _ => true
  | _ => false

def dkv (kvs : List (Int × V)) : List (Key × V) := kvs.map fun p => (Sum.inl p.1, p.2)

def SlotOk (g : Gb) (F H : Hp) (a : Addr) : Sl → Option V → Prop
  | .un, _ => True
  | .v d, o => ∃ v, o = some v ∧ Rep g F d v
  | .m ds, o => o = some (.ref a) ∧ F a = none ∧ ∃ xs, H a = some (.lst xs) ∧ RepL g F ds xs
  | .dc kvs, o => o = some (.ref a) ∧ F a = none ∧ H a = some (.dK (dkv kvs))
  | .nw d, o => ∃ v, o = some v ∧ Rep g F d v
  | .pr pre ds, o => ∃ p vs, o = some (.ref p) ∧ F p = some (.lst (vs ++ [.ref a])) ∧ RepL g F pre vs ∧ F a = none ∧ ∃ xs, H a = some (.lst xs) ∧ RepL g F ds xs

structure Ok (g : Gb) (G : List Sl) (F H : Hp) (σ : St) (ow : Nat → Addr) : Prop where
  fit : Fit g F H
  len : σ.length = G.length
  at_ : ∀ i s, G[i]? = some s → ∃ o, σ[i]? = some o ∧ SlotOk g F H (ow i) s o
  inj : ∀ i j s t, G[i]? = some s → G[j]? = some t → s.owned = true → t.owned = true → ow i = ow j → i = j

section
variable {g : Gb} {G : List Sl} {F F' H H' : Hp} {σ : St} {ow : Nat → Addr}
theorem SlotOk.own {a : Addr} {s : Sl} {o : Option V} (h : SlotOk g F H a s o) (w : s.owned = true) : F a = none ∧ ∃ u, H a = some u ∧ NT u := by
  cases s with
  | un => cases w
  | v d => cases w
  | m ds =>
    obtain ⟨_, h2, xs, h3, _⟩ := h
    exact ⟨h2, _, h3, nt_lst⟩
  | dc kvs =>
    obtain ⟨_, h2, h3⟩ := h
    exact ⟨h2, _, h3, nt_dK⟩
  | nw d => cases w
  | pr pre ds =>
    obtain ⟨p, vs, _, _, _, h2, xs, h3, _⟩ := h
    exact ⟨h2, _, h3, nt_lst⟩
theorem SlotOk.up {a : Addr} {s : Sl} {o : Option V} (u : Up g F H F' H') (h : SlotOk g F H a s o) : SlotOk g F' H' a s o := by
  cases s with
  | un => exact True.intro
  | v d =>
    obtain ⟨v, h1, h2⟩ := h
    exact ⟨v, h1, Rep.mono u.sub _ _ h2⟩
  | m ds =>
    obtain ⟨h1, h2, xs, h3, h4⟩ := h
    exact ⟨h1, u.grow _ _ h3 nt_lst h2, xs, u.ext _ _ h3 nt_lst, RepL.mono u.sub _ _ h4⟩
  | dc kvs =>
    obtain ⟨h1, h2, h3⟩ := h
    exact ⟨h1, u.grow _ _ h3 nt_dK h2, u.ext _ _ h3 nt_dK⟩
  | nw d =>
    obtain ⟨v, h1, h2⟩ := h
    exact ⟨v, h1, Rep.mono u.sub _ _ h2⟩
  | pr pre ds =>
    obtain ⟨p, vs, h1, h2, h3, h4, xs, h5, h6⟩ := h
    exact ⟨p, vs, h1, u.sub _ _ h2, RepL.mono u.sub _ _ h3, u.grow _ _ h5 nt_lst h4, xs, u.ext _ _ h5 nt_lst, RepL.mono u.sub _ _ h6⟩
theorem Ok.up (k : Ok g G F H σ ow) (u : Up g F H F' H') : Ok g G F' H' σ ow :=
  ⟨u.fit, k.len, fun i s e => by
    obtain ⟨o, h1, h2⟩ := k.at_ i s e
    exact ⟨o, h1, h2.up u⟩, k.inj⟩
/-- an address that is fresh at H is no slot's own -/
theorem Ok.apart (k : Ok g G F H σ ow) {l : Addr} (f : Fresh H l) {i : Nat} {s : Sl} (e : G[i]? = some s) (w : s.owned = true) : ow i ≠ l := by
  obtain ⟨o, _, h2⟩ := k.at_ i s e
  obtain ⟨_, u, h3, n⟩ := h2.own w
  exact f.ne h3 n
end

open Classical in
/-- of what is frozen: what has come since H, and the tuples -/
noncomputable def newp (H F : Hp) : Hp := fun b => if Fresh H b ∨ ∃ xs, F b = some (.tup xs) then F b else none
theorem newp_sub {H F : Hp} : Sub (newp H F) F := fun b o e => by
  unfold newp at e
  split at e
  · exact e
  · cases e
theorem newp_tup {H F : Hp} (b : Addr) (xs : List V) (e : F b = some (.tup xs)) : newp H F b = some (.tup xs) := by
  unfold newp
  rw [if_pos (Or.inr ⟨xs, e⟩)]
  exact e
theorem newp_back {H H1 F : Hp} (e : LamX.ExtN H H1) : Sub (newp H1 F) (newp H F) := fun b o q => by
  have q1 := newp_sub b o q
  unfold newp at q ⊢
  split at q
  · rename_i z
    rcases z with z | z
    · rw [if_pos (Or.inl (Fresh.back e z))]
      exact q
    · rw [if_pos (Or.inr z)]
      exact q
  · cases q
/-- a value that comes: what it is worth, and where it lies -/
def RtOk (g : Gb) (F H H' : Hp) : Sl → V → Prop
  | .un, _ => True
  | .v d, v => Rep g F d v
  | .m ds, v => ∃ l xs, v = .ref l ∧ Fresh H l ∧ H' l = some (.lst xs) ∧ F l = none ∧ RepL g F ds xs
  | .dc kvs, v => ∃ l, v = .ref l ∧ Fresh H l ∧ H' l = some (.dK (dkv kvs)) ∧ F l = none
  | .nw d, v => Rep g (newp H F) d v
  | .pr pre ds, v => ∃ p vs a xs, v = .ref p ∧ F p = some (.lst (vs ++ [.ref a])) ∧ RepL g F pre vs ∧ Fresh H a ∧ H' a = some (.lst xs) ∧ F a = none ∧ RepL g F ds xs
theorem RtOk.back {g : Gb} {F H H1 H' : Hp} {r : Sl} {v : V} (e : LamX.ExtN H H1) (h : RtOk g F H1 H' r v) : RtOk g F H H' r v := by
  cases r with
  | un => exact True.intro
  | v d => exact h
  | m ds =>
    obtain ⟨l, xs, h1, h2, h3⟩ := h
    exact ⟨l, xs, h1, h2.back e, h3⟩
  | dc kvs =>
    obtain ⟨l, h1, h2, h3⟩ := h
    exact ⟨l, h1, h2.back e, h3⟩
  | nw d => exact Rep.mono (newp_back e) _ _ h
  | pr pre ds =>
    obtain ⟨p, vs, a, xs, h1, h2, h3, h4, h5⟩ := h
    exact ⟨p, vs, a, xs, h1, h2, h3, h4.back e, h5⟩
end CH

/-! Choosehall, the judgements: what an expression is worth, from the data of the frame's slots. -/
namespace CH
open PySem L2

def WE (X : Cx) (e : Expr) : TE := fun σ H Q => ∀ pins s, Inv X pins σ H s → wpAny (model X.prog X.w) X.A (eval e X.env) (EP X pins σ Q) X.xe s
def WT (X : Cx) (e : Expr) : TT := fun σ H Q => ∀ pins s, Inv X pins σ H s → wpAny (model X.prog X.w) X.A (isTrue e X.env (eval e X.env)) (TP X pins σ Q) X.xe s
def WA (X : Cx) (es : List Expr) : TA := fun σ H Q => ∀ pos pins s, Inv X pins σ H s → wpAny (model X.prog X.w) X.A (spliced (backTo pos (starEach es X.env))) (AP X pins σ Q) X.xe s
def WO (X : Cx) (e : Option Expr) : TO := match e with
  | none => tNoPart
  | some e => tPart (WE X e)
theorem pe_we {X : Cx} {e : Expr} : PE X e (WE X e) := ⟨fun pins s _ _ _ I h => h pins s I⟩
theorem pt_wt {X : Cx} {e : Expr} : PT X e (WT X e) := ⟨fun pins s _ _ _ I h => h pins s I⟩
theorem pa_wa {X : Cx} {es : List Expr} : PA X es (WA X es) := ⟨fun pos pins s _ _ _ I h => h pos pins s I⟩
theorem po_wo {X : Cx} {e : Option Expr} : PO X e (WO X e) := by
  cases e with
  | none => exact po_none
  | some e => exact po_some pe_we
theorem we_of {X : Cx} {e : Expr} {t : TE} (h : PE X e t) {σ : St} {H : Hp} {Q : VK} (q : t σ H Q) : WE X e σ H Q := fun pins s I => h.run pins s σ H Q I q
theorem wt_of {X : Cx} {e : Expr} {t : TT} (h : PT X e t) {σ : St} {H : Hp} {Q : Bool → Hp → Prop} (q : t σ H Q) : WT X e σ H Q := fun pins s I => h.run pins s σ H Q I q
theorem wa_of {X : Cx} {es : List Expr} {t : TA} (h : PA X es t) {σ : St} {H : Hp} {Q : List V → Hp → Prop} (q : t σ H Q) : WA X es σ H Q := fun pos pins s I => h.run pos pins s σ H Q I q

/-- with the slots' data G, e gives r -/
def Ev (g : Gb) (X : Cx) (G : List Sl) (e : Expr) (r : Sl) : Prop := ∀ F H σ ow, Ok g G F H σ ow → ∀ Q : VK, (∀ v F' H', Up g F H F' H' → RtOk g F' H H' r v → Q v H') → WE X e σ H Q
def EvT (g : Gb) (X : Cx) (G : List Sl) (e : Expr) (b : Bool) : Prop := ∀ F H σ ow, Ok g G F H σ ow → ∀ Q : Bool → Hp → Prop, (∀ F' H', Up g F H F' H' → Q b H') → WT X e σ H Q
def EvA (g : Gb) (X : Cx) (G : List Sl) (es : List Expr) (ds : List D) : Prop := ∀ F H σ ow, Ok g G F H σ ow → ∀ Q : List V → Hp → Prop, (∀ vs F' H', Up g F H F' H' → RepL g F' ds vs → Q vs H') → WA X es σ H Q
def EvO (g : Gb) (X : Cx) (G : List Sl) (e : Option Expr) (o : Option Int) : Prop := ∀ F H σ ow, Ok g G F H σ ow → ∀ Q : Option Int → Hp → Prop, (∀ F' H', Up g F H F' H' → Q o H') → WO X e σ H Q
abbrev EvD (g : Gb) (X : Cx) (G : List Sl) (e : Expr) (d : D) : Prop := Ev g X G e (.v d)

section
variable {g : Gb} {X : Cx} {G : List Sl} {a b c e : Expr} {es : List Expr} {pos p apos : Pos}
theorem Ev.is {r r' : Sl} (h : Ev g X G e r) (q : r = r') : Ev g X G e r' := q ▸ h
theorem EvT.is {r r' : Bool} (h : EvT g X G e r) (q : r = r') : EvT g X G e r' := q ▸ h
/-- a new list, frozen at once -/
theorem Ev.fz {ds : List D} (h : Ev g X G e (.m ds)) : EvD g X G e (.lst ds) := by
  intro F H σ ow k Q q
  refine h F H σ ow k Q fun v F1 H1 u r => ?_
  obtain ⟨l, xs, rfl, hf, h1, h2, h3⟩ := r
  refine q _ (upd F1 l (.lst xs)) H1 ⟨u.ext, u.sub.trans (sub_upd h2), fun b o e n f => ?_, fit_frz u.fit h1 nt_lst⟩ (rep_lst upd_same (RepL.mono (sub_upd h2) _ _ h3))
  rw [upd_ne (hf.ne e n)]
  exact u.grow b o e n f

theorem ev_var (i : Nat) {x : Str} {d : D} (hG : G[i]? = some (.v d) := by rfl) (hN : X.N[i]? = some x := by rfl) (hv : Vis X.env.scope x := by first | exact Or.inl rfl | exact Or.inr (Or.inl rfl) | exact Or.inr (Or.inr rfl))
    (hd : (x == ("__debug__" : Str)) = false := by decide) (hcd : (x == ("__classdict__" : Str)) = false := by decide) : EvD g X G (.Name x pos) d := by
  intro F H σ ow k Q q
  obtain ⟨o, h1, v, h2, h3⟩ := k.at_ i _ hG
  refine we_of (pe_var hN hv hd hcd) ⟨v, by rw [h1, h2], q v F H (Up.refl k.fit) h3⟩
theorem ev_glob {x : Str} {d : D} {v : V} {u : Value} (hg : Gl X x) (hm : X.mg x = some u) (r : RelV v u) (hd : ∀ F, Rep g F d v) (hdb : (x == ("__debug__" : Str)) = false := by decide) : EvD g X G (.Name x pos) d := by
  intro F H σ ow k Q q
  exact we_of (pe_glob hg hm r hdb) (q v F H (Up.refl k.fit) (hd F))
theorem ev_int {i : Int} {j} : EvD g X G (.Constant (.int i) j pos) (.int i) := fun F H σ ow k Q q => we_of pe_int (q _ F H (Up.refl k.fit) (rep_int i))
theorem ev_true {j} : EvD g X G (.Constant (.bool true) j pos) (.bl true) := fun F H σ ow k Q q => we_of pe_bl (q _ F H (Up.refl k.fit) (rep_bl _))
theorem ev_false {j} : EvD g X G (.Constant (.bool false) j pos) (.bl false) := fun F H σ ow k Q q => we_of pe_bl (q _ F H (Up.refl k.fit) (rep_bl _))
theorem ev_non {j} : EvD g X G (.Constant .none j pos) .non := fun F H σ ow k Q q => we_of pe_non (q _ F H (Up.refl k.fit) rep_non)
theorem ev_str {x : Str} {j} : EvD g X G (.Constant (.str x) j pos) (.str x) := fun F H σ ow k Q q => we_of pe_str (q _ F H (Up.refl k.fit) (rep_str x))

/-! ### operators -/
def BinOk (g : Gb) (X : Cx) (op : Operator) (d1 d2 : D) (r : Sl) : Prop := ∃ rr : R2, OpR X (binaryOp op) rr ∧ ∀ F H v1 v2, Fit g F H → Rep g F d1 v1 → Rep g F d2 v2 → ∀ Q : VK, (∀ v F' H', Up g F H F' H' → RtOk g F' H H' r v → Q v H') → rr v1 v2 H Q
theorem ev_bin {op : Operator} {d1 d2 : D} {r : Sl} (ha : EvD g X G a d1) (hb : EvD g X G b d2) (h : BinOk g X op d1 d2 r) : Ev g X G (.BinOp a op b pos) r := by
  intro F H σ ow k Q q
  obtain ⟨rr, ho, hr⟩ := h
  refine we_of (pe_op ho pe_we pe_we) ?_
  refine ha F H σ ow k _ fun v1 F1 H1 u1 r1 => ?_
  refine hb F1 H1 σ ow (k.up u1) _ fun v2 F2 H2 u2 r2 => ?_
  exact hr F2 H2 v1 v2 u2.fit (Rep.mono u2.sub _ _ r1) r2 Q fun v F3 H3 u3 r3 => q v F3 H3 ((u1.trans u2).trans u3) (r3.back (u1.trans u2).ext)
theorem ev_neg {i : Int} (ha : EvD g X G a (.int i)) : EvD g X G (.UnaryOp .USub a pos) (.int (-i)) := by
  intro F H σ ow k Q q
  refine we_of (pe_un un_neg pe_we) ?_
  refine ha F H σ ow k _ fun v1 F1 H1 u1 r1 => ?_
  exact ⟨i, of_int r1, q _ F1 H1 u1 (rep_int _)⟩
theorem bin_int {op : Operator} {f : Int → Int → Int} {C : Int → Int → Prop} {i j : Int} (ho : OpR X (binaryOp op) (rI C fun i j => .int (f i j))) (hc : C i j) : BinOk g X op (.int i) (.int j) (.v (.int (f i j))) :=
  ⟨_, ho, fun F H v1 v2 hf h1 h2 Q q => ⟨i, j, of_int h1, of_int h2, hc, q _ F H (Up.refl hf) (rep_int _)⟩⟩
theorem bin_int0 {op : Operator} {f : Int → Int → Int} {i j : Int} (ho : OpR X (binaryOp op) (rI0 fun i j => .int (f i j))) : BinOk g X op (.int i) (.int j) (.v (.int (f i j))) :=
  ⟨_, ho, fun F H v1 v2 hf h1 h2 Q q => ⟨i, j, of_int h1, of_int h2, q _ F H (Up.refl hf) (rep_int _)⟩⟩
theorem bin_add {i j : Int} : BinOk g X .Add (.int i) (.int j) (.v (.int (i + j))) := bin_int0 op_add
theorem bin_sub {i j : Int} : BinOk g X .Sub (.int i) (.int j) (.v (.int (i - j))) := bin_int0 op_sub
theorem bin_mod {i j : Int} (h : 0 < j) : BinOk g X .Mod (.int i) (.int j) (.v (.int (i % j))) := bin_int op_mod h
theorem bin_div {i j : Int} (h : 0 < j ∧ j < 1073741824) : BinOk g X .FloorDiv (.int i) (.int j) (.v (.int (i / j))) := bin_int op_fdiv h
theorem bin_mul {i j : Int} (h : (-(2 ^ 64) < i ∧ i < 2 ^ 64) ∨ (-(2 ^ 64) < j ∧ j < 2 ^ 64)) : BinOk g X .Mult (.int i) (.int j) (.v (.int (i * j))) := bin_int op_mul h
theorem bin_adds {x y : Str} (h : x.length + y.length ≤ sizeLine) : BinOk g X .Add (.str x) (.str y) (.v (.str (x ++ y))) :=
  ⟨_, op_add_str, fun F H v1 v2 hf h1 h2 Q q => ⟨x, y, of_str h1, of_str h2, h, q _ F H (Up.refl hf) (rep_str _)⟩⟩
/-- a new list, by its rule -/
theorem rt_new {F H : Hp} {ds : List D} {xs : List V} (hf : Fit g F H) (h : RepL g F ds xs) {Q : VK} (q : ∀ v F' H', Up g F H F' H' → RtOk g F' H H' (.m ds) v → Q v H') {p : Addr} (hp : H p = none) : Q (.ref p) (upd H p (.lst xs)) :=
  q _ F _ (up_new hf hp) ⟨p, xs, rfl, Fresh.of hp, upd_same, hf.low.free hp, h⟩
theorem rt_newT {F H : Hp} {ds : List D} {xs : List V} (hf : Fit g F H) (h : RepL g F ds xs) {Q : VK} (q : ∀ v F' H', Up g F H F' H' → RtOk g F' H H' (.v (.tup ds)) v → Q v H') {p : Addr} (hp : H p = none) : Q (.ref p) (upd H p (.tup xs)) :=
  q _ (upd F p (.tup xs)) _ (up_newF hf hp nt_tup) (rep_tup upd_same (RepL.mono (sub_upd (hf.low.free hp)) _ _ h))
theorem bin_cat {ds es : List D} (h : ds.length + es.length ≤ 100000) : BinOk g X .Add (.lst ds) (.lst es) (.m (ds ++ es)) :=
  ⟨_, op_cat, fun F H v1 v2 hf h1 h2 Q q => by
    obtain ⟨l, xs, e1, f1, r1⟩ := of_lst h1
    obtain ⟨m, ys, e2, f2, r2⟩ := of_lst h2
    refine ⟨l, m, xs, ys, e1, e2, hf.low _ _ f1, hf.low _ _ f2, ?_, fun p hp => rt_new hf (r1.app r2) q hp⟩
    rw [r1.len, r2.len]
    exact Nat.le_trans h (by decide)⟩
theorem bin_rep {ds : List D} {k : Int} (h : k ≤ 100000 ∧ -100000 ≤ k) (hl : ds.length * k.toNat ≤ 100000) : BinOk g X .Mult (.lst ds) (.int k) (.m (List.replicate k.toNat ds).flatten) :=
  ⟨_, op_rep, fun F H v1 v2 hf h1 h2 Q q => by
    obtain ⟨l, xs, e1, f1, r1⟩ := of_lst h1
    refine ⟨l, k, xs, e1, of_int h2, hf.low _ _ f1, by omega, by omega, ?_, fun p hp => rt_new hf (r1.rep _) q hp⟩
    rw [r1.len]
    exact Nat.le_trans hl (by decide)⟩
theorem bin_catT {ds es : List D} (h0 : ds ≠ []) (h1 : es ≠ []) (h : ds.length + es.length ≤ 100000) : BinOk g X .Add (.tup ds) (.tup es) (.v (.tup (ds ++ es))) :=
  ⟨_, op_catT, fun F H v1 v2 hf h3 h2 Q q => by
    obtain ⟨l, xs, e1, f1, r1⟩ := of_tup h3
    obtain ⟨m, ys, e2, f2, r2⟩ := of_tup h2
    refine ⟨l, m, xs, ys, e1, e2, SqT.of (hf.low _ _ f1), SqT.of (hf.low _ _ f2), fun z => h0 ?_, ?_, fun z => absurd ?_ h1, fun _ p hp => rt_newT hf (r1.app r2) q hp⟩
    · have := r1.len
      rw [z] at this
      exact List.length_eq_zero_iff.mp this.symm
    · rw [r1.len, r2.len]
      exact Nat.le_trans h (by decide)
    · have := r2.len
      rw [z] at this
      exact List.length_eq_zero_iff.mp this.symm⟩

/-! ### comparisons -/
def CmpOk (g : Gb) (X : Cx) (op : CmpOp) (d1 d2 : D) (c : Bool) : Prop := ∃ rr : R2, OpR X (compareOp op) rr ∧ ∀ F H v1 v2, Fit g F H → Rep g F d1 v1 → Rep g F d2 v2 → ∀ Q : VK, Q (.bl c) H → rr v1 v2 H Q
theorem ev_cmp {op : CmpOp} {d1 d2 : D} {r : Bool} (ha : EvD g X G a d1) (hb : EvD g X G b d2) (h : CmpOk g X op d1 d2 r) (hm : behindInMarks op b = false := by first | exact nomark _ | rfl) : EvD g X G (.Compare a [op] [b] pos) (.bl r) := by
  intro F H σ ow k Q q
  obtain ⟨rr, ho, hr⟩ := h
  refine we_of (pe_cmpR ho pe_we pe_we hm) ?_
  refine ha F H σ ow k _ fun v1 F1 H1 u1 r1 => ?_
  refine hb F1 H1 σ ow (k.up u1) _ fun v2 F2 H2 u2 r2 => ?_
  exact hr F2 H2 v1 v2 u2.fit (Rep.mono u2.sub _ _ r1) r2 Q (q _ F2 H2 (u1.trans u2) (rep_bl r))
theorem et_cmp {op : CmpOp} {d1 d2 : D} {r : Bool} (ha : EvD g X G a d1) (hb : EvD g X G b d2) (h : CmpOk g X op d1 d2 r) (hm : behindInMarks op b = false := by first | exact nomark _ | rfl) : EvT g X G (.Compare a [op] [b] pos) r := by
  intro F H σ ow k Q q
  obtain ⟨rr, ho, hr⟩ := h
  refine wt_of (pt_cmpR ho pe_we pe_we hm) ?_
  refine ha F H σ ow k _ fun v1 F1 H1 u1 r1 => ?_
  refine hb F1 H1 σ ow (k.up u1) _ fun v2 F2 H2 u2 r2 => ?_
  exact hr F2 H2 v1 v2 u2.fit (Rep.mono u2.sub _ _ r1) r2 _ ⟨r, rfl, q F2 H2 (u1.trans u2)⟩
theorem cmp_lt {i j : Int} : CmpOk g X .Lt (.int i) (.int j) (decide (i < j)) := ⟨_, op_lt, fun F H v1 v2 hf h1 h2 Q q => ⟨i, j, of_int h1, of_int h2, q⟩⟩
theorem cmp_le {i j : Int} : CmpOk g X .LtE (.int i) (.int j) (decide (i ≤ j)) := ⟨_, op_le, fun F H v1 v2 hf h1 h2 Q q => ⟨i, j, of_int h1, of_int h2, q⟩⟩
theorem cmp_gt {i j : Int} : CmpOk g X .Gt (.int i) (.int j) (decide (j < i)) := ⟨_, op_gt, fun F H v1 v2 hf h1 h2 Q q => ⟨i, j, of_int h1, of_int h2, q⟩⟩
theorem cmp_ge {i j : Int} : CmpOk g X .GtE (.int i) (.int j) (decide (j ≤ i)) := ⟨_, op_ge, fun F H v1 v2 hf h1 h2 Q q => ⟨i, j, of_int h1, of_int h2, q⟩⟩
def D.isN : D → Bool
  | .non => true
  | _ => false
theorem isN_rep {F : Hp} {d : D} {v : V} (h : Rep g F d v) : decide (v = .non) = d.isN := by
  cases d with
  | non => rw [of_non h] <;> rfl
  | bl b => rw [of_bl h] <;> rfl
  | int b => rw [of_int h] <;> rfl
  | str b => rw [of_str h] <;> rfl
  | lst b =>
    obtain ⟨a, xs, e, _⟩ := of_lst h
    rw [e] <;> rfl
  | tup b =>
    obtain ⟨a, xs, e, _⟩ := of_tup h
    rw [e] <;> rfl
  | scr b =>
    obtain ⟨a, e, _⟩ := of_scr h
    rw [e] <;> rfl
  | hs b =>
    obtain ⟨a, e, _⟩ := of_hs h
    rw [e] <;> rfl
  | adr a =>
    cases h
    rfl
theorem cmp_is {d : D} : CmpOk g X .Is d .non d.isN := ⟨_, op_isN, fun F H v1 v2 hf h1 h2 Q q => ⟨of_non h2, by rw [isN_rep h1]; exact q⟩⟩
theorem cmp_isnot {d : D} : CmpOk g X .IsNot d .non (!d.isN) := ⟨_, op_notN, fun F H v1 v2 hf h1 h2 Q q => ⟨of_non h2, by rw [isN_rep h1]; exact q⟩⟩

/-! data that is compared at any depth -/
mutual
def toPy : D → PyData
  | .non => .none
  | .bl b => .bool b
  | .int i => .int i
  | .str x => .str x
  | .lst l => .list (toPyL l)
  | .tup l => .tuple (toPyL l)
  | .scr _ => .none
  | .hs _ => .none
  | .adr _ => .none
def toPyL : List D → List PyData
  | [] => []
  | d :: l => toPy d :: toPyL l
end
mutual
def D.pl : D → Bool
  | .lst l => plL l
  | .tup l => plL l
  | .scr _ => false
  | .hs _ => false
  | .adr _ => false
  | _ => true
def plL : List D → Bool
  | [] => true
  | d :: l => d.pl && plL l
end
mutual
theorem dp_of {F H : Hp} (hf : Sub F H) : ∀ (d : D) (v : V), d.pl = true → Rep g F d v → Dp g.K H v (toPy d)
  | .non, v, _, h => by rw [of_non h]; exact .non
  | .bl b, v, _, h => by rw [of_bl h]; exact .bl b
  | .int i, v, _, h => by rw [of_int h]; exact .int i
  | .str x, v, _, h => by rw [of_str h]; exact .str x
  | .lst l, v, p, h => by
    obtain ⟨a, xs, e, h1, h2⟩ := of_lst h
    rw [e]
    exact .lst (SqL.of (hf _ _ h1)) (dp_ofL hf l xs p h2)
  | .tup l, v, p, h => by
    obtain ⟨a, xs, e, h1, h2⟩ := of_tup h
    rw [e]
    exact .tup (SqT.of (hf _ _ h1)) (dp_ofL hf l xs p h2)
  | .scr _, _, p, _ => by cases p
  | .hs _, _, p, _ => by cases p
  | .adr _, _, p, _ => by cases p
theorem dp_ofL {F H : Hp} (hf : Sub F H) : ∀ (ds : List D) (vs : List V), plL ds = true → RepL g F ds vs → DpAll g.K H vs (toPyL ds)
  | [], vs, _, h => by
    rw [repL_inv0 h]
    exact .nil
  | d :: ds, vs, p, h => by
    obtain ⟨v, ws, e, h1, h2⟩ := repL_inv h
    rw [e]
    have p' : (d.pl && plL ds) = true := p
    rw [Bool.and_eq_true] at p'
    exact .cons (dp_of hf d v p'.1 h1) (dp_ofL hf ds ws p'.2 h2)
end
def D.eqv (d e : D) : Bool := PyData.eqv (toPy d) (toPy e)
/-- two data that may be held against each other -/
def D.cmpable (d : D) : Prop := d.pl = true ∧ SeqAt.shaped (toPy d) = true
theorem cmp_eq {d e : D} (hK : X.K = g.K) (hu : X.A.units + 64 < cLine) (h1 : d.cmpable) (h2 : e.cmpable) : CmpOk g X .Eq d e (d.eqv e) :=
  ⟨_, op_eqD hu, fun F H v1 v2 hf r1 r2 Q q => ⟨toPy d, toPy e, by rw [hK]; exact dp_of hf.low d v1 h1.1 r1, by rw [hK]; exact dp_of hf.low e v2 h2.1 r2, h1.2, h2.2, q⟩⟩
theorem cmp_ne {d e : D} (hK : X.K = g.K) (hu : X.A.units + 64 < cLine) (h1 : d.cmpable) (h2 : e.cmpable) : CmpOk g X .NotEq d e (!d.eqv e) :=
  ⟨_, op_neD hu, fun F H v1 v2 hf r1 r2 Q q => ⟨toPy d, toPy e, by rw [hK]; exact dp_of hf.low d v1 h1.1 r1, by rw [hK]; exact dp_of hf.low e v2 h2.1 r2, h1.2, h2.2, q⟩⟩
/-- flat data: in, not in, index -/
def D.fl : D → Option V
  | .non => some .non
  | .bl b => some (.bl b)
  | .int i => some (.int i)
  | .str x => some (.str x)
  | _ => none
theorem fl_rep {F : Hp} {d : D} {v w : V} (h : d.fl = some w) (r : Rep g F d v) : v = w ∧ flatV v = true := by
  cases d with
  | non => cases h; rw [of_non r]; exact ⟨rfl, rfl⟩
  | bl b => cases h; rw [of_bl r]; exact ⟨rfl, rfl⟩
  | int b => cases h; rw [of_int r]; exact ⟨rfl, rfl⟩
  | str b => cases h; rw [of_str r]; exact ⟨rfl, rfl⟩
  | _ => cases h
theorem flL_rep {F : Hp} : ∀ {ds : List D} {ws vs : List V}, ds.map D.fl = ws.map some → RepL g F ds vs → vs = ws ∧ vs.all flatV = true
  | [], ws, vs, h, r => by
    have r := repL_inv0 r
    cases ws with
    | nil => exact ⟨r, by rw [r]; rfl⟩
    | cons _ _ => cases h
  | d :: ds, ws, vs, h, r => by
    obtain ⟨v, us, e, r1, r2⟩ := repL_inv r
    cases ws with
    | nil => cases h
    | cons w ws =>
      rw [List.map_cons, List.map_cons, List.cons.injEq] at h
      obtain ⟨e1, f1⟩ := fl_rep h.1 r1
      obtain ⟨e2, f2⟩ := flL_rep h.2 r2
      rw [e, e1, e2]
      refine ⟨rfl, ?_⟩
      rw [List.all_cons, ← e1, f1, ← e2, f2] <;> rfl
theorem cmp_in {d : D} {ds : List D} {w : V} {ws : List V} (hK : X.K = g.K) (h1 : d.fl = some w) (h2 : ds.map D.fl = ws.map some) : CmpOk g X .In d (.lst ds) (inV w ws) :=
  ⟨_, op_in_seq, fun F H v1 v2 hf r1 r2 Q q => by
    obtain ⟨a, xs, e, f, r⟩ := of_lst r2
    obtain ⟨e1, f1⟩ := fl_rep h1 r1
    obtain ⟨e2, f2⟩ := flL_rep h2 r
    refine ⟨a, xs, e, Or.inl (SqL.of (hf.low _ _ f)), f1, f2, ?_⟩
    rw [e1, e2]
    exact q⟩
theorem cmp_notin {d : D} {ds : List D} {w : V} {ws : List V} (hK : X.K = g.K) (h1 : d.fl = some w) (h2 : ds.map D.fl = ws.map some) : CmpOk g X .NotIn d (.lst ds) (!inV w ws) :=
  ⟨_, op_notIn_seq, fun F H v1 v2 hf r1 r2 Q q => by
    obtain ⟨a, xs, e, f, r⟩ := of_lst r2
    obtain ⟨e1, f1⟩ := fl_rep h1 r1
    obtain ⟨e2, f2⟩ := flL_rep h2 r
    refine ⟨a, xs, e, Or.inl (SqL.of (hf.low _ _ f)), f1, f2, ?_⟩
    rw [e1, e2]
    exact q⟩

/-! ### and, or, not; tests -/
theorem et_val {r : Bool} (h : EvD g X G e (.bl r)) (he : ∀ whole, isTrue e X.env whole = (do let v ← whole; standAt e.pos; holding [v] (truthy v)) := by intro _; rfl) : EvT g X G e r := by
  intro F H σ ow k Q q
  refine wt_of (pt_val pe_we he) ?_
  exact h F H σ ow k _ fun v F1 H1 u r1 => ⟨r, of_bl r1, q F1 H1 u⟩
def D.truth : D → Bool
  | .non => false
  | .bl b => b
  | .int i => i != 0
  | .str x => (x.length : Int) != 0
  | .lst l => !l.isEmpty
  | .tup l => !l.isEmpty
  | .scr l => !l.isEmpty
  | .hs _ => true
  | .adr _ => true
def D.trOk : D → Prop
  | .str x => x.length ≤ 100000
  | .hs _ => False
  | .adr _ => False
  | _ => True
theorem tru_rep {F H : Hp} {d : D} {v : V} (hf : Sub F H) (h : Rep g F d v) (t : d.trOk) : TruV g.K v H d.truth := by
  cases d with
  | non => rw [of_non h]; exact rfl
  | bl b => rw [of_bl h]; exact rfl
  | int b => rw [of_int h]; exact rfl
  | str b => rw [of_str h]; exact ⟨Nat.le_trans t (by decide), rfl⟩
  | lst b =>
    obtain ⟨a, xs, e, h1, h2⟩ := of_lst h
    rw [e]
    refine Or.inl ⟨xs, SqL.of (hf _ _ h1), ?_⟩
    have := h2.len
    show (!b.isEmpty) = (!xs.isEmpty)
    cases b <;> cases xs <;> first | rfl | cases this
  | tup b =>
    obtain ⟨a, xs, e, h1, h2⟩ := of_tup h
    rw [e]
    refine Or.inr (Or.inl ⟨xs, SqT.of (hf _ _ h1), ?_⟩)
    have := h2.len
    show (!b.isEmpty) = (!xs.isEmpty)
    cases b <;> cases xs <;> first | rfl | cases this
  | scr b =>
    obtain ⟨a, e, h1⟩ := of_scr h
    rw [e]
    refine Or.inl ⟨_, sql_mono hf h1, ?_⟩
    show (!b.isEmpty) = (!(b.map V.int).isEmpty)
    cases b <;> rfl
  | hs b => exact t.elim
  | adr b => exact t.elim
theorem et_truth {d : D} (hK : X.K = g.K) (h : EvD g X G e d) (t : d.trOk) (he : ∀ whole, isTrue e X.env whole = (do let v ← whole; standAt e.pos; holding [v] (truthy v)) := by intro _; rfl) : EvT g X G e d.truth := by
  intro F H σ ow k Q q
  refine wt_of (pt_truth pe_we he) ?_
  exact h F H σ ow k _ fun v F1 H1 u r1 => ⟨d.truth, by rw [hK]; exact tru_rep u.fit.low r1 t, q F1 H1 u⟩
theorem et_not {r : Bool} (h : EvT g X G a r) : EvT g X G (.UnaryOp .Not a pos) (!r) := by
  intro F H σ ow k Q q
  refine wt_of (pt_not pt_wt) ?_
  exact h F H σ ow k _ fun F1 H1 u => q F1 H1 u
theorem et_and {r r' : Bool} (h : EvT g X G a r) (h' : r = true → EvT g X G b r') : EvT g X G (.BoolOp .And [a, b] pos) (r && r') := by
  intro F H σ ow k Q q
  refine wt_of (PW.pt (pw_and pt_wt (pw_and1 pt_wt))) ?_
  refine h F H σ ow k _ fun F1 H1 u => ?_
  cases r with
  | true => exact h' rfl F1 H1 σ ow (k.up u) _ fun F2 H2 u2 => q F2 H2 (u.trans u2)
  | false => exact q F1 H1 u
theorem et_or {r r' : Bool} (h : EvT g X G a r) (h' : r = false → EvT g X G b r') : EvT g X G (.BoolOp .Or [a, b] pos) (r || r') := by
  intro F H σ ow k Q q
  refine wt_of (PW.pt (pw_or pt_wt (pw_or1 pt_wt))) ?_
  refine h F H σ ow k _ fun F1 H1 u => ?_
  cases r with
  | true => exact q F1 H1 u
  | false => exact h' rfl F1 H1 σ ow (k.up u) _ fun F2 H2 u2 => q F2 H2 (u.trans u2)
theorem et_or3 {r r' r'' : Bool} (h : EvT g X G a r) (h' : r = false → EvT g X G b r') (h'' : r = false → r' = false → EvT g X G c r'') : EvT g X G (.BoolOp .Or [a, b, c] pos) (r || (r' || r'')) := by
  intro F H σ ow k Q q
  refine wt_of (PW.pt (pw_or pt_wt (pw_or pt_wt (pw_or1 pt_wt)))) ?_
  refine h F H σ ow k _ fun F1 H1 u => ?_
  cases r with
  | true => exact q F1 H1 u
  | false =>
    refine h' rfl F1 H1 σ ow (k.up u) _ fun F2 H2 u2 => ?_
    cases r' with
    | true => exact q F2 H2 (u.trans u2)
    | false => exact h'' rfl rfl F2 H2 σ ow ((k.up u).up u2) _ fun F3 H3 u3 => q F3 H3 ((u.trans u2).trans u3)
theorem et_or4 {d : Expr} {r r' r'' r3 : Bool} (h : EvT g X G a r) (h' : r = false → EvT g X G b r') (h'' : r = false → r' = false → EvT g X G c r'') (h3 : r = false → r' = false → r'' = false → EvT g X G d r3) :
    EvT g X G (.BoolOp .Or [a, b, c, d] pos) (r || (r' || (r'' || r3))) := by
  intro F H σ ow k Q q
  refine wt_of (PW.pt (pw_or pt_wt (pw_or pt_wt (pw_or pt_wt (pw_or1 pt_wt))))) ?_
  refine h F H σ ow k _ fun F1 H1 u => ?_
  cases r with
  | true => exact q F1 H1 u
  | false =>
    refine h' rfl F1 H1 σ ow (k.up u) _ fun F2 H2 u2 => ?_
    cases r' with
    | true => exact q F2 H2 (u.trans u2)
    | false =>
      refine h'' rfl rfl F2 H2 σ ow ((k.up u).up u2) _ fun F3 H3 u3 => ?_
      cases r'' with
      | true => exact q F3 H3 ((u.trans u2).trans u3)
      | false => exact h3 rfl rfl rfl F3 H3 σ ow (((k.up u).up u2).up u3) _ fun F4 H4 u4 => q F4 H4 (((u.trans u2).trans u3).trans u4)
/-- as values -/
theorem ev_and {r r' : Bool} (h : EvD g X G a (.bl r)) (h' : r = true → EvD g X G b (.bl r')) : EvD g X G (.BoolOp .And [a, b] pos) (.bl (r && r')) := by
  intro F H σ ow k Q q
  refine we_of (pe_and pe_we (pe_one pe_we)) ?_
  refine h F H σ ow k _ fun v F1 H1 u r1 => ⟨r, of_bl r1, ?_⟩
  cases r with
  | true => exact h' rfl F1 H1 σ ow (k.up u) _ fun v F2 H2 u2 r2 => q v F2 H2 (u.trans u2) r2
  | false => exact q _ F1 H1 u (rep_bl false)
theorem ev_or {r r' : Bool} (h : EvD g X G a (.bl r)) (h' : r = false → EvD g X G b (.bl r')) : EvD g X G (.BoolOp .Or [a, b] pos) (.bl (r || r')) := by
  intro F H σ ow k Q q
  refine we_of (pe_or pe_we (pe_one pe_we)) ?_
  refine h F H σ ow k _ fun v F1 H1 u r1 => ⟨r, of_bl r1, ?_⟩
  cases r with
  | true => exact q _ F1 H1 u (rep_bl true)
  | false => exact h' rfl F1 H1 σ ow (k.up u) _ fun v F2 H2 u2 r2 => q v F2 H2 (u.trans u2) r2
theorem ev_not {r : Bool} (h : EvD g X G a (.bl r)) : EvD g X G (.UnaryOp .Not a pos) (.bl (!r)) := by
  intro F H σ ow k Q q
  refine we_of (pe_not pe_we) ?_
  exact h F H σ ow k _ fun v F1 H1 u r1 => ⟨r, of_bl r1, q _ F1 H1 u (rep_bl _)⟩

/-! ### arguments, displays -/
theorem ea_nil : EvA g X G [] [] := fun F H σ ow k Q q => wa_of pa_nil (q [] F H (Up.refl k.fit) repL_nil)
theorem ea_cons {d : D} {ds : List D} (h : EvD g X G e d) (t : EvA g X G es ds) (hs : starEach (e :: es) X.env = (false, eval e X.env) :: starEach es X.env := by rfl) : EvA g X G (e :: es) (d :: ds) := by
  intro F H σ ow k Q q
  refine wa_of (pa_cons pe_we pa_wa hs) ?_
  refine h F H σ ow k _ fun v F1 H1 u r1 => ?_
  exact t F1 H1 σ ow (k.up u) _ fun vs F2 H2 u2 r2 => q _ F2 H2 (u.trans u2) (repL_cons (Rep.mono u2.sub _ _ r1) r2)
theorem ev_lst {ds : List D} (h : EvA g X G es ds) (hl : ds.length ≤ 100000) : Ev g X G (.List es pos) (.m ds) := by
  intro F H σ ow k Q q
  refine we_of (pe_lst pa_wa) ?_
  refine h F H σ ow k _ fun vs F1 H1 u r1 => ⟨?_, fun p hp => ?_⟩
  · rw [r1.len]
    exact Nat.le_trans hl (by decide)
  · exact rt_new u.fit r1 (fun v F2 H2 u2 r2 => q v F2 H2 (u.trans u2) (r2.back u.ext)) hp
theorem ev_tup {ds : List D} {j} (h : EvA g X G es ds) (hl : ds.length ≤ 100000) : EvD g X G (.Tuple es j pos) (.tup ds) := by
  intro F H σ ow k Q q
  refine we_of (pe_tup pa_wa) ?_
  refine h F H σ ow k _ fun vs F1 H1 u r1 => ⟨?_, fun p hp => ?_⟩
  · rw [r1.len]
    exact Nat.le_trans hl (by decide)
  · exact rt_newT u.fit r1 (fun v F2 H2 u2 r2 => q v F2 H2 (u.trans u2) r2) hp

/-! ### subscripts, slices -/
def D.at_ : D → Int → Option D
  | .lst l, i => atI l i
  | .tup l, i => atI l i
  | .scr l, i => (atI l i).map D.int
  | .str x, i => (atI x.cps.toList i).map fun c => D.str ⟨#[c]⟩
  | _, _ => none
def D.ixOk : D → Prop
  | .str x => x.length ≤ 100000
  | _ => True
theorem atI_len {α β : Type} {xs : List α} {ys : List β} (h : xs.length = ys.length) (i : Int) : ixN xs.length i = ixN ys.length i := by rw [h]
theorem RepL.ati {F : Hp} {ds : List D} {xs : List V} {i : Int} {d : D} (h : RepL g F ds xs) (e : atI ds i = some d) : ∃ v, atI xs i = some v ∧ Rep g F d v := by
  unfold atI at e ⊢
  rw [h.len]
  cases q : ixN ds.length i with
  | none =>
    rw [q] at e
    cases e
  | some j =>
    rw [q] at e
    exact h.at_ e
theorem ev_ix {d1 d : D} {i : Int} (hK : X.K = g.K) (ha : EvD g X G a d1) (hb : EvD g X G b (.int i)) (h : d1.at_ i = some d) (hx : d1.ixOk := by trivial) (hs : PlainIx b := by intro _ _; rfl) : EvD g X G (.Subscript a b pos) d := by
  intro F H σ ow k Q q
  refine we_of (pe_ix ix_seq pe_we pe_we hs) ?_
  refine ha F H σ ow k _ fun v1 F1 H1 u1 r1 => ?_
  refine hb F1 H1 σ ow (k.up u1) _ fun v2 F2 H2 u2 r2 => ?_
  rw [hK, of_int r2]
  have r1' := Rep.mono u2.sub _ _ r1
  cases d1 with
  | lst l =>
    obtain ⟨p, xs, e, h1, h2⟩ := of_lst r1'
    obtain ⟨v, e3, e4⟩ := h2.ati h
    rw [e]
    exact Or.inl ⟨p, xs, i, v, rfl, rfl, SqL.of (u2.fit.low _ _ h1), e3, q v F2 H2 (u1.trans u2) e4⟩
  | tup l =>
    obtain ⟨p, xs, e, h1, h2⟩ := of_tup r1'
    obtain ⟨v, e3, e4⟩ := h2.ati h
    rw [e]
    exact Or.inr (Or.inl ⟨p, xs, i, v, rfl, rfl, SqT.of (u2.fit.low _ _ h1), e3, q v F2 H2 (u1.trans u2) e4⟩)
  | scr l =>
    obtain ⟨p, e, h1⟩ := of_scr r1'
    have h' : (atI l i).map D.int = some d := h
    cases q0 : atI l i with
    | none =>
      rw [q0] at h'
      cases h'
    | some n =>
      rw [q0] at h'
      have e5 : D.int n = d := Option.some.inj h'
      rw [e]
      refine Or.inl ⟨p, _, i, V.int n, rfl, rfl, sql_mono u2.fit.low h1, ?_, q _ F2 H2 (u1.trans u2) (by rw [← e5]; exact rep_int n)⟩
      unfold atI at q0 ⊢
      rw [List.length_map]
      cases q1 : ixN l.length i with
      | none =>
        rw [q1] at q0
        cases q0
      | some j =>
        rw [q1] at q0
        have q2 : l[j]? = some n := q0
        show (l.map V.int)[j]? = some (V.int n)
        rw [List.getElem?_map, q2] <;> rfl
  | str x =>
    have h' : (atI x.cps.toList i).map (fun c => D.str ⟨#[c]⟩) = some d := h
    cases q0 : atI x.cps.toList i with
    | none =>
      rw [q0] at h'
      cases h'
    | some n =>
      rw [q0] at h'
      have e5 : D.str ⟨#[n]⟩ = d := Option.some.inj h'
      rw [of_str r1']
      exact Or.inr (Or.inr ⟨x, i, n, rfl, rfl, Nat.le_trans hx (by decide), q0, q _ F2 H2 (u1.trans u2) (by rw [← e5]; exact rep_str _)⟩)
  | _ => cases h
theorem eo_none : EvO g X G none none := fun F H σ ow k Q q => q F H (Up.refl k.fit)
theorem eo_some {i : Int} (h : EvD g X G e (.int i)) : EvO g X G (some e) (some i) := by
  intro F H σ ow k Q q
  exact h F H σ ow k _ fun v F1 H1 u r1 => ⟨i, of_int r1, q F1 H1 u⟩
def cutD (xs : List D) (lo hi : Option Int) : List D := (xs.drop (HT.sIx xs.length 0 lo)).take (HT.sIx xs.length xs.length hi - HT.sIx xs.length 0 lo)
theorem RepL.cut {F : Hp} {ds : List D} {xs : List V} (h : RepL g F ds xs) (lo hi : Option Int) : RepL g F (cutD ds lo hi) (cutV xs lo hi) := by
  unfold cutD cutV
  rw [h.len]
  exact (h.drop _).take _
theorem ev_sl {ds : List D} {lo hi : Option Expr} {l h : Option Int} {p2 : Pos} (hK : X.K = g.K) (ha : EvD g X G a (.lst ds)) (hl : EvO g X G lo l) (hh : EvO g X G hi h) : Ev g X G (.Subscript a (.Slice lo hi none p2) pos) (.m (cutD ds l h)) := by
  intro F H σ ow k Q q
  refine we_of (pe_slice sl_list pe_we po_wo po_wo) ?_
  refine ha F H σ ow k _ fun v1 F1 H1 u1 r1 => ?_
  refine hl F1 H1 σ ow (k.up u1) _ fun F2 H2 u2 => ?_
  refine hh F2 H2 σ ow ((k.up u1).up u2) _ fun F3 H3 u3 => ?_
  obtain ⟨p, xs, e, h1, h2⟩ := of_lst (Rep.mono (u2.trans u3).sub _ _ r1)
  rw [hK]
  refine ⟨p, xs, e, SqL.of (u3.fit.low _ _ h1), fun m hm => ?_⟩
  exact rt_new u3.fit (h2.cut l h) (fun v F4 H4 u4 r4 => q v F4 H4 (((u1.trans u2).trans u3).trans u4) (r4.back ((u1.trans u2).trans u3).ext)) hm
theorem ev_slT {ds : List D} {lo hi : Option Expr} {l h : Option Int} {p2 : Pos} (hK : X.K = g.K) (ha : EvD g X G a (.tup ds)) (hl : EvO g X G lo l) (hh : EvO g X G hi h) (hw : ¬ (HT.sIx ds.length 0 l = 0 ∧ HT.sIx ds.length ds.length h = ds.length)) :
    EvD g X G (.Subscript a (.Slice lo hi none p2) pos) (.tup (cutD ds l h)) := by
  intro F H σ ow k Q q
  refine we_of (pe_slice sl_tup pe_we po_wo po_wo) ?_
  refine ha F H σ ow k _ fun v1 F1 H1 u1 r1 => ?_
  refine hl F1 H1 σ ow (k.up u1) _ fun F2 H2 u2 => ?_
  refine hh F2 H2 σ ow ((k.up u1).up u2) _ fun F3 H3 u3 => ?_
  obtain ⟨p, xs, e, h1, h2⟩ := of_tup (Rep.mono (u2.trans u3).sub _ _ r1)
  rw [hK]
  refine ⟨p, xs, e, SqT.of (u3.fit.low _ _ h1), by rw [h2.len]; exact hw, fun m hm => ?_⟩
  exact rt_newT u3.fit (h2.cut l h) (fun v F4 H4 u4 r4 => q v F4 H4 (((u1.trans u2).trans u3).trans u4) r4) hm
end
end CH

/-! Choosehall: calls, of built-ins and of the text's own defs. -/
namespace CH
open PySem L2

/-- the built-ins' names that the text leaves as they are -/
structure Free (mg : Str → Option Value) : Prop where
  len : mg "len" = none
  range : mg "range" = none
  list : mg "list" = none
  sorted : mg "sorted" = none
  isinstance : mg "isinstance" = none
  str : mg "str" = none
  int : mg "int" = none
  min : mg "min" = none
  max : mg "max" = none
  set : mg "set" = none
  tuple : mg "tuple" = none
  bool : mg "bool" = none

section
variable {g : Gb} {X : Cx} {G : List Sl} {a b c e o : Expr} {es : List Expr} {pos p apos p2 pos2 : Pos} {x : Str}
theorem ev_b1 {id : String} {rr : List V → Hp → VK → Prop} {d : D} {r : Sl} (hc : CallR X (.builtin id) rr) (hg : Gl X x) (hm : X.mg x = none) (hv : bootBuiltins x = some (.builtin id)) (h : EvD g X G e d)
    (hr : ∀ F H v, Fit g F H → Rep g F d v → ∀ Q : VK, (∀ v F' H', Up g F H F' H' → RtOk g F' H H' r v → Q v H') → rr [v] H Q) (hn : x ≠ "__name__" := by decide) (hdb : (x == ("__debug__" : Str)) = false := by decide)
    (he : starEach [e] X.env = (false, eval e X.env) :: starEach [] X.env := by rfl) : Ev g X G (.Call (.Name x p) [e] [] pos) r := by
  intro F H σ ow k Q q
  refine we_of (pe_callB hc hg hm hv (pa_cons pe_we pa_nil he) hn hdb he rfl) ?_
  refine h F H σ ow k _ fun v F1 H1 u r1 => ?_
  exact hr F1 H1 v u.fit r1 Q fun v F2 H2 u2 r2 => q v F2 H2 (u.trans u2) (r2.back u.ext)
theorem ev_t1 {T : String} {rr : List V → Hp → VK → Prop} {d : D} {r : Sl} (hc : CallR X (.type T) rr) (hg : Gl X x) (hm : X.mg x = none) (hv : bootBuiltins x = some (.type T)) (h : EvD g X G e d)
    (hr : ∀ F H v, Fit g F H → Rep g F d v → ∀ Q : VK, (∀ v F' H', Up g F H F' H' → RtOk g F' H H' r v → Q v H') → rr [v] H Q) (hn : x ≠ "__name__" := by decide) (hdb : (x == ("__debug__" : Str)) = false := by decide)
    (he : starEach [e] X.env = (false, eval e X.env) :: starEach [] X.env := by rfl) : Ev g X G (.Call (.Name x p) [e] [] pos) r := by
  intro F H σ ow k Q q
  refine we_of (pe_callTy hc hg hm hv (pa_cons pe_we pa_nil he) hn hdb he rfl) ?_
  refine h F H σ ow k _ fun v F1 H1 u r1 => ?_
  exact hr F1 H1 v u.fit r1 Q fun v F2 H2 u2 r2 => q v F2 H2 (u.trans u2) (r2.back u.ext)
theorem ev_b2 {id : String} {rr : List V → Hp → VK → Prop} {d1 d2 : D} {r : Sl} (hc : CallR X (.builtin id) rr) (hg : Gl X x) (hm : X.mg x = none) (hv : bootBuiltins x = some (.builtin id)) (h1 : EvD g X G a d1) (h2 : EvD g X G b d2)
    (hr : ∀ F H v w, Fit g F H → Rep g F d1 v → Rep g F d2 w → ∀ Q : VK, (∀ v F' H', Up g F H F' H' → RtOk g F' H H' r v → Q v H') → rr [v, w] H Q) (hn : x ≠ "__name__" := by decide) (hdb : (x == ("__debug__" : Str)) = false := by decide)
    (he : starEach [a, b] X.env = (false, eval a X.env) :: starEach [b] X.env := by rfl) (he2 : starEach [b] X.env = (false, eval b X.env) :: starEach [] X.env := by rfl) (hpl : (backTo pos (starEach [b] X.env)).any (·.1) = false := by rfl) : Ev g X G (.Call (.Name x p) [a, b] [] pos) r := by
  intro F H σ ow k Q q
  refine we_of (pe_callB hc hg hm hv (pa_cons pe_we (pa_cons pe_we pa_nil he2) he) hn hdb he hpl) ?_
  refine h1 F H σ ow k _ fun v F1 H1 u r1 => ?_
  refine h2 F1 H1 σ ow (k.up u) _ fun w F2 H2 u2 r2 => ?_
  exact hr F2 H2 v w u2.fit (Rep.mono u2.sub _ _ r1) r2 Q fun v F3 H3 u3 r3 => q v F3 H3 ((u.trans u2).trans u3) (r3.back (u.trans u2).ext)

def D.len : D → Option Nat
  | .lst l => some l.length
  | .tup l => some l.length
  | .scr l => some l.length
  | .str x => some x.length
  | _ => none
theorem ev_len {d : D} {n : Nat} (hK : X.K = g.K) (fr : Free X.mg) (h : EvD g X G e d) (hl : d.len = some n) (hx : d.ixOk := by trivial) (hg : Gl X "len" := by rfl) (he : starEach [e] X.env = (false, eval e X.env) :: starEach [] X.env := by rfl) :
    EvD g X G (.Call (.Name "len" p) [e] [] pos) (.int n) := by
  refine ev_b1 call_len hg fr.len PySem.boot_len h (fun F H v hf r Q q => ?_) (he := he)
  refine ⟨v, n, rfl, ?_, q _ F H (Up.refl hf) (rep_int _)⟩
  rw [hK]
  cases d with
  | lst l =>
    obtain ⟨m, xs, e1, h1, h2⟩ := of_lst r
    rw [e1]
    exact Or.inl ⟨xs, SqL.of (hf.low _ _ h1), by rw [h2.len]; exact (Option.some.inj hl).symm⟩
  | tup l =>
    obtain ⟨m, xs, e1, h1, h2⟩ := of_tup r
    rw [e1]
    exact Or.inr ⟨xs, SqT.of (hf.low _ _ h1), by rw [h2.len]; exact (Option.some.inj hl).symm⟩
  | scr l =>
    obtain ⟨m, e1, h1⟩ := of_scr r
    rw [e1]
    exact Or.inl ⟨_, sql_mono hf.low h1, by rw [List.length_map]; exact (Option.some.inj hl).symm⟩
  | str l =>
    rw [of_str r]
    exact ⟨Nat.le_trans hx (by decide), (Option.some.inj hl).symm⟩
  | _ => cases hl
theorem ev_str_int {i : Int} (fr : Free X.mg) (h : EvD g X G e (.int i)) (hi : i.natAbs.log2 < 1920) (hg : Gl X "str" := by rfl) (he : starEach [e] X.env = (false, eval e X.env) :: starEach [] X.env := by rfl) :
    EvD g X G (.Call (.Name "str" p) [e] [] pos) (.str (toString i)) :=
  ev_t1 call_str_int hg fr.str (by decide +kernel) h (fun F H v hf r Q q => ⟨i, by rw [of_int r], hi, q _ F H (Up.refl hf) (rep_str _)⟩) (he := he)
theorem ev_int_bl {i : Bool} (fr : Free X.mg) (h : EvD g X G e (.bl i)) (hg : Gl X "int" := by rfl) (he : starEach [e] X.env = (false, eval e X.env) :: starEach [] X.env := by rfl) :
    EvD g X G (.Call (.Name "int" p) [e] [] pos) (.int (if i = true then 1 else 0)) :=
  ev_t1 call_int1 hg fr.int (by decide +kernel) h (fun F H v hf r Q q => Or.inr ⟨i, by rw [of_bl r], q _ F H (Up.refl hf) (rep_int _)⟩) (he := he)
theorem ev_int_str {i : Int} {z : Str} (fr : Free X.mg) (h : EvD g X G e (.str z)) (hz : PySem.intText? z = some i) (hl : z.length ≤ 640) (hg : Gl X "int" := by rfl) (he : starEach [e] X.env = (false, eval e X.env) :: starEach [] X.env := by rfl) :
    EvD g X G (.Call (.Name "int" p) [e] [] pos) (.int i) :=
  ev_t1 call_int_str hg fr.int (by decide +kernel) h (fun F H v hf r Q q => ⟨z, i, by rw [of_str r], hz, hl, q _ F H (Up.refl hf) (rep_int _)⟩) (he := he)
theorem ev_list {ds : List D} (hK : X.K = g.K) (fr : Free X.mg) (h : EvD g X G e (.lst ds)) (hg : Gl X "list" := by rfl) (he : starEach [e] X.env = (false, eval e X.env) :: starEach [] X.env := by rfl) :
    Ev g X G (.Call (.Name "list" p) [e] [] pos) (.m ds) :=
  ev_t1 call_list_of hg fr.list (by decide +kernel) h (fun F H v hf r Q q => by
    obtain ⟨m, xs, e1, h1, h2⟩ := of_lst r
    refine ⟨m, xs, by rw [e1], Or.inl (SqL.of (hf.low _ _ h1)), fun l hl => rt_new hf h2 q hl⟩) (he := he)
theorem ev_listT {ds : List D} (hK : X.K = g.K) (fr : Free X.mg) (h : EvD g X G e (.tup ds)) (hg : Gl X "list" := by rfl) (he : starEach [e] X.env = (false, eval e X.env) :: starEach [] X.env := by rfl) :
    Ev g X G (.Call (.Name "list" p) [e] [] pos) (.m ds) :=
  ev_t1 call_list_of hg fr.list (by decide +kernel) h (fun F H v hf r Q q => by
    obtain ⟨m, xs, e1, h1, h2⟩ := of_tup r
    refine ⟨m, xs, by rw [e1], Or.inr (SqT.of (hf.low _ _ h1)), fun l hl => rt_new hf h2 q hl⟩) (he := he)
theorem repL_ints {F : Hp} (l : List Int) : RepL g F (l.map D.int) (l.map V.int) := repL_map D.int V.int rep_int l
theorem ints_of {F : Hp} {l : List Int} {xs : List V} (h : RepL g F (l.map D.int) xs) : xs = l.map V.int := repL_of D.int V.int (fun _ _ => of_int) h
theorem sorted_is {l m : List Int} (hp : m.Perm l) (hs : m.Pairwise (· ≤ ·)) : m = l.mergeSort (fun a b => decide (a ≤ b)) := by
  refine PySem.W.ksm_same (hp.trans (List.mergeSort_perm _ _).symm) hs ?_
  have h := List.pairwise_mergeSort (le := fun a b : Int => decide (a ≤ b)) (fun a b c h1 h2 => by simp at *; omega) (fun a b => by simp; omega) l
  exact h.imp fun h => by simpa using h
theorem ev_sorted {l : List Int} (hK : X.K = g.K) (fr : Free X.mg) (h : EvD g X G e (.lst (l.map D.int))) (hl : l.length < 64) (hg : Gl X "sorted" := by rfl) (he : starEach [e] X.env = (false, eval e X.env) :: starEach [] X.env := by rfl) :
    Ev g X G (.Call (.Name "sorted" p) [e] [] pos) (.m ((l.mergeSort fun a b => decide (a ≤ b)).map D.int)) :=
  ev_b1 cr_sorted hg fr.sorted (by decide +kernel) h (fun F H v hf r Q q => by
    obtain ⟨m, xs, e1, h1, h2⟩ := of_lst r
    have e2 := ints_of h2
    subst e2
    refine ⟨m, l, by rw [e1], SqL.of (hf.low _ _ h1), hl, fun ns' p hp hs hn => ?_⟩
    rw [sorted_is hp hs]
    exact rt_new hf (repL_ints _) q hn) (he := he)
theorem ev_max2 {i j : Int} (hc : X.calm = true) (fr : Free X.mg) (h1 : EvD g X G a (.int i)) (h2 : EvD g X G b (.int j)) (hg : Gl X "max" := by rfl) (he : starEach [a, b] X.env = (false, eval a X.env) :: starEach [b] X.env := by rfl)
    (he2 : starEach [b] X.env = (false, eval b X.env) :: starEach [] X.env := by rfl) (hpl : (backTo pos (starEach [b] X.env)).any (·.1) = false := by rfl) : EvD g X G (.Call (.Name "max" p) [a, b] [] pos) (.int (if j > i then j else i)) :=
  ev_b2 (call_max2 hc) hg fr.max (by decide +kernel) h1 h2 (fun F H v w hf r1 r2 Q q => ⟨i, j, by rw [of_int r1, of_int r2], q _ F H (Up.refl hf) (rep_int _)⟩) (he := he) (he2 := he2) (hpl := hpl)
theorem ev_min2 {i j : Int} (hc : X.calm = true) (fr : Free X.mg) (h1 : EvD g X G a (.int i)) (h2 : EvD g X G b (.int j)) (hg : Gl X "min" := by rfl) (he : starEach [a, b] X.env = (false, eval a X.env) :: starEach [b] X.env := by rfl)
    (he2 : starEach [b] X.env = (false, eval b X.env) :: starEach [] X.env := by rfl) (hpl : (backTo pos (starEach [b] X.env)).any (·.1) = false := by rfl) : EvD g X G (.Call (.Name "min" p) [a, b] [] pos) (.int (if j < i then j else i)) :=
  ev_b2 (call_min2 hc) hg fr.min (by decide +kernel) h1 h2 (fun F H v w hf r1 r2 Q q => ⟨i, j, by rw [of_int r1, of_int r2], q _ F H (Up.refl hf) (rep_int _)⟩) (he := he) (he2 := he2) (hpl := hpl)
theorem ev_minL {l : List Int} {m : Int} (hK : X.K = g.K) (hc : X.calm = true) (fr : Free X.mg) (h : EvD g X G e (.lst (l.map D.int))) (h1 : m ∈ l) (h2 : ∀ y ∈ l, m ≤ y) (hg : Gl X "min" := by rfl) (he : starEach [e] X.env = (false, eval e X.env) :: starEach [] X.env := by rfl) :
    EvD g X G (.Call (.Name "min" p) [e] [] pos) (.int m) :=
  ev_b1 (cr_min hc) hg fr.min (by decide +kernel) h (fun F H v hf r Q q => by
    obtain ⟨t, xs, e1, h3, h4⟩ := of_lst r
    have e2 := ints_of h4
    subst e2
    refine ⟨t, l, by rw [e1], SqL.of (hf.low _ _ h3), List.length_pos_of_mem h1, fun m' k1 k2 => ?_⟩
    have e3 : m' = m := Int.le_antisymm (k2 m h1) (h2 m' k1)
    rw [e3]
    exact q _ F H (Up.refl hf) (rep_int _)) (he := he)
/-- the ints a .. b - 1 -/
def rg (a b : Int) : List Int := (List.range (b - a).toNat).map fun i => a + (i : Nat)
theorem ev_listRg {n : Int} (hc : X.calm = true) (fr : Free X.mg) (h : EvD g X G e (.int n)) (hn : 0 ≤ n ∧ n ≤ 100000) (hg : Gl X "list" := by rfl) (hg2 : Gl X "range" := by rfl) (he : starEach [e] X.env = (false, eval e X.env) :: starEach [] X.env := by rfl)
    (na : starEach [(.Call (.Name "range" p2) [e] [] pos2)] X.env = (false, eval (.Call (.Name "range" p2) [e] [] pos2) X.env) :: starEach [] X.env := by rfl) :
    Ev g X G (.Call (.Name "list" p) [.Call (.Name "range" p2) [e] [] pos2] [] pos) (.m ((rg 0 n).map D.int)) := by
  intro F H σ ow k Q q
  refine we_of (pe_listRg hc hg fr.list (prg_1 hg2 fr.range pe_we he) na) ?_
  refine h F H σ ow k _ fun v F1 H1 u r1 => ⟨n, of_int r1, ⟨by omega, by omega, by omega, by omega, by omega⟩, fun m hm => ?_⟩
  have e : rgV 0 n = (rg 0 n).map V.int := by
    unfold rgV rg
    rw [List.map_map]
    rfl
  rw [e]
  exact rt_new u.fit (repL_ints _) (fun v F2 H2 u2 r2 => q v F2 H2 (u.trans u2) (r2.back u.ext)) hm
theorem ev_lenSet {l : List Int} (hK : X.K = g.K) (hc : X.calm = true) (fr : Free X.mg) (h : EvD g X G e (.lst (l.map D.int))) (hn : l.Nodup) (hl : l.length ≤ 4000) (hg : Gl X "len" := by rfl) (hg2 : Gl X "set" := by rfl) (he : starEach [e] X.env = (false, eval e X.env) :: starEach [] X.env := by rfl) :
    EvD g X G (.Call (.Name "len" p) [.Call (.Name "set" p2) [e] [] pos2] [] pos) (.int l.length) := by
  intro F H σ ow k Q q
  refine we_of (RZ.pe_lenSetI hg fr.len hg2 fr.set pe_we hc he) ?_
  refine h F H σ ow k _ fun v F1 H1 u r1 => ?_
  obtain ⟨t, xs, e1, h3, h4⟩ := of_lst r1
  have e2 := ints_of h4
  subst e2
  exact ⟨t, l, e1, by rw [hK]; exact SqL.of (u.fit.low _ _ h3), hn, hl, q _ F1 H1 u (rep_int _)⟩

/-! ### isinstance -/
def D.ty : D → Option String
  | .non => some "NoneType"
  | .bl _ => some "bool"
  | .int _ => some "int"
  | .str _ => some "str"
  | .lst _ => some "list"
  | .tup _ => some "tuple"
  | _ => none
theorem tyx_rep {F H : Hp} {d : D} {v : V} {t : String} (hf : Sub F H) (r : Rep g F d v) (h : d.ty = some t) : TyX g.K H v (.type t) := by
  cases d with
  | non => cases h; rw [of_non r]; exact .base .non
  | bl _ => cases h; rw [of_bl r]; exact .base (.bl _)
  | int _ => cases h; rw [of_int r]; exact .base (.int _)
  | str _ => cases h; rw [of_str r]; exact .base (.str _)
  | lst _ =>
    cases h
    obtain ⟨a, xs, e, h1, _⟩ := of_lst r
    rw [e]
    exact .base (.lst (hf _ _ h1))
  | tup _ =>
    cases h
    obtain ⟨a, xs, e, h1, _⟩ := of_tup r
    rw [e]
    exact .base (.tup (hf _ _ h1))
  | _ => cases h
theorem ev_isi {d : D} {t T : String} {r : Bool} {y : Str} {py : Pos} (hK : X.K = g.K) (fr : Free X.mg) (h : EvD g X G e d) (hd : d.ty = some t) (hT : bootBuiltins y = some (.type T)) (hk : kitB t T = some r) (hm : X.mg y = none) (hgy : Gl X y := by rfl) (hg : Gl X "isinstance" := by rfl)
    (hy : y ≠ "__name__" := by decide) (hydb : (y == ("__debug__" : Str)) = false := by decide)
    (he : starEach [e, .Name y py] X.env = (false, eval e X.env) :: starEach [.Name y py] X.env := by rfl) (he2 : starEach [.Name y py] X.env = (false, eval (.Name y py) X.env) :: starEach [] X.env := by rfl) (hpl : (backTo pos (starEach [.Name y py] X.env)).any (·.1) = false := by rfl) :
    EvD g X G (.Call (.Name "isinstance" p) [e, .Name y py] [] pos) (.bl r) := by
  intro F H σ ow k Q q
  refine we_of (pe_callB call_isi hg fr.isinstance (by decide +kernel) (pa_cons pe_we (pa_cons (pe_bltn (v := .ty T) hgy hm hT rfl hy hydb) pa_nil he2) he) (he := he) (hpl := hpl)) ?_
  refine h F H σ ow k _ fun v F1 H1 u r1 => ?_
  exact ⟨v, .ty T, .type t, .type T, r, rfl, .ty T, by rw [hK]; exact tyx_rep u.fit.low r1 hd, kit_ty hk, q _ F1 H1 u (rep_bl r)⟩

/-! ### the text's own defs -/
/-- what a def promises: R tells, of the arguments' data, what comes -/
def Prom (g : Gb) (R : List D → Sl → Prop) : Sp := fun vs H Q _ => ∃ ds r F, R ds r ∧ RepL g F ds vs ∧ Fit g F H ∧ ∀ v F' H', Up g F H F' H' → RtOk g F' H H' r v → Q v H'
/-- a def of the module, known by its name -/
def Cal (P : Program) (w : World) (g : Gb) (mg : Str → Option Value) (base : Heap) (x : Str) (k : Nat) (R : List D → Sl → Prop) : Prop :=
  ∃ (f : Addr) (fd : FuncData) (ps : List Str), FnOk P w g.K mg base CX0 k f fd ps (Prom g R) ∧ mg x = some (.ref f) ∧ PySem.W.keepIn g.K (.ref f) = true ∧ Binds g.K fd ps []
/-- a method of House -/
def MCal (P : Program) (w : World) (g : Gb) (mg : Str → Option Value) (base : Heap) (m : Str) (k : Nat) (R : List D → Sl → Prop) : Prop :=
  ∃ (f : Addr) (fd : FuncData) (ps : List Str), FnOk P w g.K mg base CX0 k f fd ps (Prom g R) ∧ Meth g.K g.C m f ∧ Binds g.K fd ps []
/-- a def that raises nothing, called -/
theorem ev_call {k : Nat} {R : List D → Sl → Prop} {ds : List D} {r : Sl} (hK : X.K = g.K) (C : Cal X.prog X.w g X.mg X.base x k R) (hr : Room k X.A) (ha : EvA g X G (e :: es) ds) (hR : R ds r) (hg : Gl X x := by rfl) (hdb : (x == ("__debug__" : Str)) = false := by decide)
    (he : starEach (e :: es) X.env = (false, eval e X.env) :: starEach es X.env := by rfl) (hpl : (backTo pos (starEach es X.env)).any (·.1) = false := by rfl) : Ev g X G (.Call (.Name x p) (e :: es) [] pos) r := by
  obtain ⟨f, fd, ps, F0, hm, hk, hb⟩ := C
  intro F H σ ow k Q q
  refine we_of (pe_call (X := X) (by rw [hK]; exact F0) hr hg hm (by rw [hK]; exact hk) (by rw [hK]; exact hb) .nil pass0 pa_wa hdb he hpl) ?_
  refine ha F H σ ow k _ fun vs F1 H1 u r1 => ?_
  rw [List.append_nil]
  exact ⟨ds, r, F1, hR, r1, u.fit, fun v F2 H2 u2 r2 => q v F2 H2 (u.trans u2) (r2.back u.ext)⟩

/-! ### House: attributes, methods -/
def FldIs (f : Str) (h : Hs) (d : D) : Prop := ∀ (g : Gb) (F : Hp) (p q r : Addr), F p = some (.lst (h.pts.map vOi)) → F q = some (.lst (h.kinds.map V.int)) → F r = some (.lst (h.row.map V.int)) → ∃ v, (flds h p q r).lookup f = some v ∧ Rep g F d v
theorem ev_fld {f : Str} {h : Hs} {d : D} (hK : X.K = g.K) (c : Cls g.K g.C) (n : NoAttr g.K g.C f) (hf : FldIs f h d) (ho : EvD g X G o (.hs h)) (hb : attributeBase o f X.env (eval o X.env) = eval o X.env := by rfl) : EvD g X G (.Attribute o f pos) d := by
  intro F H σ ow k Q q
  refine we_of (pe_fld pe_we hb) ?_
  refine ho F H σ ow k _ fun v F1 H1 u r1 => ?_
  obtain ⟨a, e, dx, p, q', r, h1, h2, h3, h4⟩ := of_hs r1
  obtain ⟨v', l, r2⟩ := hf g F1 p q' r h2 h3 h4
  exact ⟨a, g.C, dx, _, v', e, u.fit.low _ _ h1, by rw [hK]; exact c, by rw [hK]; exact n, l, q v' F1 H1 u r2⟩
theorem ev_meth {m : Str} {k : Nat} {h : Hs} {R : List D → Sl → Prop} {ds : List D} {r : Sl} {pl : Sem Bool} (hK : X.K = g.K) (c : Cls g.K g.C) (C : MCal X.prog X.w g X.mg X.base m k R) (hl : ∀ p q r, (flds h p q r).lookup m = none) (hr : Room k X.A) (ho : EvD g X G o (.hs h)) (ha : EvA g X G (e :: es) ds) (hR : R (.hs h :: ds) r)
    (hst : starEach (e :: es) X.env = (false, eval e X.env) :: starEach es X.env := by rfl) (hpl : (backTo pos (starEach es X.env)).any (·.1) = false := by rfl)
    (ht : eval (.Call (.Attribute o m apos) (e :: es) [] pos) X.env = (do
      let ov ← eval o X.env
      standAt apos.atName
      let (f, first) ← holding [ov] (getMethod ov m pl)
      callWith pos f first (backTo pos (starEach (e :: es) X.env)) (backToKw pos (keywordEach [] X.env))) := by rfl) : Ev g X G (.Call (.Attribute o m apos) (e :: es) [] pos) r := by
  obtain ⟨f, fd, ps, F0, hm, hb⟩ := C
  intro F H σ ow k Q q
  refine we_of (pe_meth (X := X) (C := g.C) pe_we (by rw [hK]; exact c) (by rw [hK]; exact hm) (by rw [hK]; exact F0) hr (by rw [hK]; exact hb) .nil pass0 pa_wa hst hpl ht) ?_
  refine ho F H σ ow k _ fun v F1 H1 u r1 => ?_
  obtain ⟨a, e0, dx, p, q', r', h1, h2, h3, h4⟩ := of_hs r1
  refine ⟨a, dx, _, e0, u.fit.low _ _ h1, hl p q' r', ?_⟩
  refine ha F1 H1 σ ow (k.up u) _ fun vs F2 H2 u2 r2 => ?_
  rw [List.append_nil]
  exact ⟨_, r, F2, hR, repL_cons (Rep.mono u2.sub _ _ r1) r2, u2.fit, fun v F3 H3 u3 r3 => q v F3 H3 ((u.trans u2).trans u3) (r3.back (u.trans u2).ext)⟩
end
end CH

/-! Choosehall: statements, loops, comprehensions, from the data of the frame's slots. -/
namespace CH
open PySem L2

/-- what is wanted behind a statement, told of the slots' data -/
structure KE where
  nx : List Sl → Prop
  rt : Sl → Prop
  bk : List Sl → Prop := fun _ => False
  ct : List Sl → Prop := fun _ => False

/-- since the def's entry (frozen B.1, all B.2) nothing that was there has changed; the slots' own objects are younger -/
structure Bk (g : Gb) (B : Hp × Hp) (G : List Sl) (F H : Hp) (ow : Nat → Addr) : Prop where
  up : Up g B.1 B.2 F H
  fresh : ∀ i s, G[i]? = some s → s.owned = true → Fresh B.2 (ow i)

def nxP (g : Gb) (B : Hp × Hp) (F1 : Hp) (K : List Sl → Prop) (σ : St) (H : Hp) : Prop := ∃ G F ow, K G ∧ Ok g G F H σ ow ∧ Bk g B G F H ow ∧ Sub F1 F
def rtP (g : Gb) (B : Hp × Hp) (K : Sl → Prop) (v : V) (H : Hp) : Prop := ∃ r F, K r ∧ Up g B.1 B.2 F H ∧ RtOk g F B.2 H r v
def ends (g : Gb) (B : Hp × Hp) (F1 : Hp) (k : KE) : Ends := { nx := nxP g B F1 k.nx, rt := rtP g B k.rt, bk := nxP g B F1 k.bk, ct := nxP g B F1 k.ct }

def WS (X : Cx) (st : Stmt) : TS := fun D σ H => ∀ pins s, Inv X pins σ H s → wpAny (model X.prog X.w) X.A (exec st X.env) (SP X pins D) X.xe s
def WSs (X : Cx) (st : List Stmt) : TS := fun D σ H => ∀ pins s, Inv X pins σ H s → wpAny (model X.prog X.w) X.A (execs st X.env) (SP X pins D) X.xe s
theorem ps_ws {X : Cx} {st : Stmt} : PS X st (WS X st) := ⟨fun pins s _ _ _ I h => h pins s I⟩
theorem pss_wss {X : Cx} {st : List Stmt} : PSs X st (WSs X st) := ⟨fun pins s _ _ _ I h => h pins s I⟩
theorem ws_of {X : Cx} {st : Stmt} {t : TS} (h : PS X st t) {D : Ends} {σ : St} {H : Hp} (q : t D σ H) : WS X st D σ H := fun pins s I => h.run pins s σ H D I q
theorem wss_of {X : Cx} {st : List Stmt} {t : TS} (h : PSs X st t) {D : Ends} {σ : St} {H : Hp} (q : t D σ H) : WSs X st D σ H := fun pins s I => h.run pins s σ H D I q
theorem SP.mono {X : Cx} {pins : List (Addr × Obj)} {D D' : Ends} (hn : ∀ σ H, D.nx σ H → D'.nx σ H) (hr : ∀ v H, D.rt v H → D'.rt v H) (hb : ∀ σ H, D.bk σ H → D'.bk σ H) (hc : ∀ σ H, D.ct σ H → D'.ct σ H) {f : Flow} {s : Shared} (h : SP X pins D f s) : SP X pins D' f s := by
  cases f with
  | next =>
    obtain ⟨σ, H, I, q⟩ := h
    exact ⟨σ, H, I, hn σ H q⟩
  | brk =>
    obtain ⟨σ, H, I, q⟩ := h
    exact ⟨σ, H, I, hb σ H q⟩
  | cont =>
    obtain ⟨σ, H, I, q⟩ := h
    exact ⟨σ, H, I, hc σ H q⟩
  | ret u =>
    obtain ⟨v, σ, H, I, r, q⟩ := h
    exact ⟨v, σ, H, I, r, hr v H q⟩
theorem WS.imp {X : Cx} {st : Stmt} {D D' : Ends} {σ : St} {H : Hp} (h : WS X st D σ H) (hn : ∀ σ H, D.nx σ H → D'.nx σ H) (hr : ∀ v H, D.rt v H → D'.rt v H) (hb : ∀ σ H, D.bk σ H → D'.bk σ H) (hc : ∀ σ H, D.ct σ H → D'.ct σ H) : WS X st D' σ H :=
  fun pins s I => thn (h pins s I) fun _ _ q => SP.mono hn hr hb hc q
theorem WSs.imp {X : Cx} {st : List Stmt} {D D' : Ends} {σ : St} {H : Hp} (h : WSs X st D σ H) (hn : ∀ σ H, D.nx σ H → D'.nx σ H) (hr : ∀ v H, D.rt v H → D'.rt v H) (hb : ∀ σ H, D.bk σ H → D'.bk σ H) (hc : ∀ σ H, D.ct σ H → D'.ct σ H) : WSs X st D' σ H :=
  fun pins s I => thn (h pins s I) fun _ _ q => SP.mono hn hr hb hc q

/-- a statement; a block -/
def S1 (g : Gb) (X : Cx) (G : List Sl) (st : Stmt) (k : KE) : Prop := ∀ B F H σ ow, Ok g G F H σ ow → Bk g B G F H ow → ∀ F1, Sub F1 F → WS X st (ends g B F1 k) σ H
def Ss (g : Gb) (X : Cx) (G : List Sl) (st : List Stmt) (k : KE) : Prop := ∀ B F H σ ow, Ok g G F H σ ow → Bk g B G F H ow → ∀ F1, Sub F1 F → WSs X st (ends g B F1 k) σ H

section
variable {g : Gb} {G : List Sl} {F F' H H' : Hp} {σ : St} {ow : Nat → Addr} {B : Hp × Hp}
theorem Bk.go (b : Bk g B G F H ow) (u : Up g F H F' H') : Bk g B G F' H' ow := ⟨b.up.trans u, b.fresh⟩
/-- a slot is stored anew -/
theorem Ok.set (k : Ok g G F H σ ow) {i : Nat} {a : Addr} {s : Sl} {o : Option V} (hs : SlotOk g F H a s o) (ha : s.owned = true → ∀ j t, j ≠ i → G[j]? = some t → t.owned = true → ow j ≠ a) : Ok g (G.set i s) F H (σ.set i o) (fun j => if j = i then a else ow j) := by
  have get : ∀ j t, (G.set i s)[j]? = some t → (j = i ∧ t = s) ∨ (j ≠ i ∧ G[j]? = some t) := fun j t e => by
    by_cases hj : j = i
    · subst hj
      have hl : j < G.length := by
        have := (List.getElem?_eq_some_iff.mp e).1
        rw [List.length_set] at this
        exact this
      rw [List.getElem?_set_self hl] at e
      exact Or.inl ⟨rfl, (Option.some.inj e).symm⟩
    · rw [List.getElem?_set_ne (Ne.symm hj)] at e
      exact Or.inr ⟨hj, e⟩
  refine ⟨k.fit, by rw [List.length_set, List.length_set, k.len], fun j t e => ?_, fun j l t t' e e' w w' q => ?_⟩
  · rcases get j t e with ⟨e1, e2⟩ | ⟨e1, e2⟩
    · subst e1
      subst e2
      have hl : j < σ.length := by
        have := (List.getElem?_eq_some_iff.mp e).1
        rw [List.length_set] at this
        rw [k.len]
        exact this
      exact ⟨o, List.getElem?_set_self hl, by rw [if_pos rfl]; exact hs⟩
    · obtain ⟨o', h1, h2⟩ := k.at_ j t e2
      exact ⟨o', by rw [List.getElem?_set_ne (Ne.symm e1)]; exact h1, by rw [if_neg e1]; exact h2⟩
  · rcases get j t e with ⟨e1, e2⟩ | ⟨e1, e2⟩
    · rcases get l t' e' with ⟨f1, f2⟩ | ⟨f1, f2⟩
      · rw [e1, f1]
      · have q' : (if j = i then a else ow j) = (if l = i then a else ow l) := q
        rw [if_pos e1, if_neg f1] at q'
        rw [e2] at w
        exact absurd q'.symm (ha w l t' f1 f2 w')
    · rcases get l t' e' with ⟨f1, f2⟩ | ⟨f1, f2⟩
      · have q' : (if j = i then a else ow j) = (if l = i then a else ow l) := q
        rw [if_neg e1, if_pos f1] at q'
        rw [f2] at w'
        exact absurd q' (ha w' j t e1 e2 w)
      · have q' : (if j = i then a else ow j) = (if l = i then a else ow l) := q
        rw [if_neg e1, if_neg f1] at q'
        exact k.inj j l t t' e2 f2 w w' q'
theorem get_set {i j : Nat} {s t : Sl} (e : (G.set i s)[j]? = some t) : (j = i ∧ t = s) ∨ (j ≠ i ∧ G[j]? = some t) := by
  by_cases hj : j = i
  · subst hj
    have hl : j < G.length := by
      have := (List.getElem?_eq_some_iff.mp e).1
      rw [List.length_set] at this
      exact this
    rw [List.getElem?_set_self hl] at e
    exact Or.inl ⟨rfl, (Option.some.inj e).symm⟩
  · rw [List.getElem?_set_ne (Ne.symm hj)] at e
    exact Or.inr ⟨hj, e⟩
theorem Bk.set (b : Bk g B G F H ow) {i : Nat} {a : Addr} {s : Sl} (ha : s.owned = true → Fresh B.2 a) : Bk g B (G.set i s) F H (fun j => if j = i then a else ow j) := by
  refine ⟨b.up, fun j t e w => ?_⟩
  rcases get_set e with ⟨e1, e2⟩ | ⟨e1, e2⟩
  · rw [e2] at w
    show Fresh B.2 (if j = i then a else ow j)
    rw [if_pos e1]
    exact ha w
  · show Fresh B.2 (if j = i then a else ow j)
    rw [if_neg e1]
    exact b.fresh j t e2 w
/-- a value that has come is stored in a slot -/
theorem store {i : Nat} {r : Sl} {v : V} (k : Ok g G F H σ ow) (b : Bk g B G F H ow) (u : Up g F H F' H') (h : RtOk g F' H H' r v) (hr : r ≠ .un := by intro z; cases z) :
    ∃ ow', Ok g (G.set i r) F' H' (σ.set i (some v)) ow' ∧ Bk g B (G.set i r) F' H' ow' := by
  have k1 := k.up u
  have b1 := b.go u
  cases r with
  | un => exact absurd rfl hr
  | v d => exact ⟨_, k1.set (a := 0) (s := .v d) ⟨v, rfl, h⟩ (fun z => by cases z), b1.set (fun z => by cases z)⟩
  | m ds =>
    obtain ⟨l, xs, e, hf, h1, h2, h3⟩ := h
    exact ⟨_, k1.set (a := l) (s := .m ds) ⟨by rw [e], h2, xs, h1, h3⟩ (fun _ j t _ e2 w => k.apart hf e2 w), b1.set (fun _ => hf.back b.up.ext)⟩
  | dc kvs =>
    obtain ⟨l, e, hf, h1, h2⟩ := h
    exact ⟨_, k1.set (a := l) (s := .dc kvs) ⟨by rw [e], h2, h1⟩ (fun _ j t _ e2 w => k.apart hf e2 w), b1.set (fun _ => hf.back b.up.ext)⟩
  | nw d => exact ⟨_, k1.set (a := 0) (s := .nw d) ⟨v, rfl, Rep.mono newp_sub _ _ h⟩ (fun z => by cases z), b1.set (fun z => by cases z)⟩
  | pr pre ds =>
    obtain ⟨p, vs, l, xs, e, h4, h5, hf, h1, h2, h3⟩ := h
    exact ⟨_, k1.set (a := l) (s := .pr pre ds) ⟨p, vs, by rw [e], h4, h5, h2, xs, h1, h3⟩ (fun _ j t _ e2 w => k.apart hf e2 w), b1.set (fun _ => hf.back b.up.ext)⟩
end

section
variable {g : Gb} {X : Cx} {G : List Sl} {a c e o : Expr} {st : Stmt} {sts body els : List Stmt} {pos p apos : Pos} {x : Str} {k : KE} {r : Sl}
theorem ss_nil (h : k.nx G) : Ss g X G [] k := fun B F H σ ow ok bk F1 s1 => wss_of pss_nil ⟨G, F, ow, h, ok, bk, s1⟩
theorem ss_cons (h : S1 g X G st { k with nx := fun G' => Ss g X G' sts k }) : Ss g X G (st :: sts) k := fun B F H σ ow ok bk F1 s1 => by
  refine wss_of (pss_cons ps_ws pss_wss) ?_
  have q0 := h B F H σ ow ok bk F1 s1
  refine WS.imp q0 (fun σ H q => ?_) (fun _ _ q => q) (fun _ _ q => q) (fun _ _ q => q)
  obtain ⟨G', F', ow', hk, ok', bk', s'⟩ := q
  exact hk B F' H σ ow' ok' bk' F1 s'
theorem ss_one (h : S1 g X G st k) : Ss g X G [st] k := fun B F H σ ow ok bk F1 s1 => wss_of (pss_one ps_ws) (h B F H σ ow ok bk F1 s1)
theorem s_pass (h : k.nx G) : S1 g X G (.Pass pos) k := fun B F H σ ow ok bk F1 s1 => ws_of ps_pass ⟨G, F, ow, h, ok, bk, s1⟩
theorem s_ret (h : Ev g X G e r) (q : k.rt r) : S1 g X G (.Return (some e) pos) k := fun B F H σ ow ok bk F1 s1 => by
  refine ws_of (ps_ret pe_we) ?_
  refine h F H σ ow ok _ fun v F2 H2 u r2 => ?_
  exact ⟨r, F2, q, bk.up.trans u, r2.back bk.up.ext⟩
/-- return x, x a list of the def's own -/
theorem s_retOwn (i : Nat) {ds : List D} (q : k.rt (.m ds)) (hG : G[i]? = some (.m ds) := by rfl) (hN : X.N[i]? = some x := by rfl) (hv : Vis X.env.scope x := by first | exact Or.inl rfl | exact Or.inr (Or.inl rfl) | exact Or.inr (Or.inr rfl))
    (hd : (x == ("__debug__" : Str)) = false := by decide) (hcd : (x == ("__classdict__" : Str)) = false := by decide) : S1 g X G (.Return (some (.Name x p)) pos) k := fun B F H σ ow ok bk F1 s1 => by
  refine ws_of (ps_ret (pe_var hN hv hd hcd)) ?_
  obtain ⟨o, h1, h2, h3, xs, h4, h5⟩ := ok.at_ i _ hG
  exact ⟨.ref (ow i), by rw [h1, h2], .m ds, F, q, bk.up, ow i, xs, rfl, bk.fresh i _ hG rfl, h4, h3, h5⟩
theorem s_retN (q : k.rt (.v .non)) : S1 g X G (.Return none pos) k := fun B F H σ ow ok bk F1 s1 => ws_of ps_retN ⟨.v .non, F, q, bk.up, rep_non⟩
theorem s_if {b : Bool} (h : EvT g X G c b) (h1 : b = true → Ss g X G body k) (h2 : b = false → Ss g X G els k) : S1 g X G (.If c body els pos) k := fun B F H σ ow ok bk F1 s1 => by
  refine ws_of (ps_if pt_wt pss_wss pss_wss) ?_
  refine h F H σ ow ok _ fun F2 H2 u => ?_
  cases b with
  | true => exact iteT (h1 rfl B F2 H2 σ ow (ok.up u) (bk.go u) F1 (s1.trans u.sub))
  | false => exact iteF (h2 rfl B F2 H2 σ ow (ok.up u) (bk.go u) F1 (s1.trans u.sub))
theorem s_expr (h : Ev g X G e r) (q : k.nx G) (hs : swapsWith e none pos.line X.env = pure false := by rfl) : S1 g X G (.Expr e pos) k := fun B F H σ ow ok bk F1 s1 => by
  refine ws_of (ps_expr pe_we hs) ?_
  exact h F H σ ow ok _ fun v F2 H2 u _ => ⟨G, F2, ow, q, ok.up u, bk.go u, s1.trans u.sub⟩
theorem s_asg (i : Nat) (h : Ev g X G e r) (q : k.nx (G.set i r)) (hr : r ≠ .un := by intro z; cases z) (hN : X.N.Nodup := by exact nd_by (by kernel_rfl)) (hi : X.N[i]? = some x := by rfl) (hx : Loc X.env.scope x := by first | exact Or.inl rfl | exact Or.inr rfl) (hs : swapsWith e (some (.Name x p)) pos.line X.env = pure false := by rfl)
    (hf : X.fn x = true ∨ X.env.scope.names.lookup x = some .local := by first | exact .inl rfl | exact .inr rfl) : S1 g X G (.Assign [.Name x p] e pos) k := fun B F H σ ow ok bk F1 s1 => by
  refine ws_of (ps_set hN hi hx pe_we hs hf) ?_
  refine h F H σ ow ok _ fun v F2 H2 u r2 => ?_
  obtain ⟨ow', k1, b1⟩ := store (i := i) ok bk u r2 hr
  exact ⟨_, F2, ow', q, k1, b1, s1.trans u.sub⟩
/-- a list of the frame's own is frozen -/
theorem ss_frz (i : Nat) {ds : List D} (hG : G[i]? = some (.m ds)) (h : Ss g X (G.set i (.v (.lst ds))) sts k) : Ss g X G sts k := fun B F H σ ow ok bk F1 s1 => by
  obtain ⟨o, h1, h2, h3, xs, h4, h5⟩ := ok.at_ i _ hG
  have hf := bk.fresh i _ hG rfl
  have sb : Sub F (upd F (ow i) (.lst xs)) := sub_upd h3
  have fit := fit_frz ok.fit h4 (nt_lst (xs := xs))
  have up : Up g B.1 B.2 (upd F (ow i) (.lst xs)) H := ⟨bk.up.ext, bk.up.sub.trans sb, fun b u e n f => by
    rw [upd_ne (hf.ne e n)]
    exact bk.up.grow b u e n f, fit⟩
  have hl : i < G.length := (List.getElem?_eq_some_iff.mp hG).1
  have k1 : Ok g (G.set i (.v (.lst ds))) (upd F (ow i) (.lst xs)) H (σ.set i o) (fun j => if j = i then 0 else ow j) := by
    refine ⟨fit, by rw [List.length_set, List.length_set, ok.len], fun j t e => ?_, fun j l t t' e e' w w' q => ?_⟩
    · rcases get_set e with ⟨e1, e2⟩ | ⟨e1, e2⟩
      · rw [e1, e2]
        exact ⟨o, List.getElem?_set_self (by rw [ok.len]; exact hl), .ref (ow i), h2, rep_lst upd_same (RepL.mono sb _ _ h5)⟩
      · obtain ⟨o', f1, f2⟩ := ok.at_ j t e2
        refine ⟨o', by rw [List.getElem?_set_ne (Ne.symm e1)]; exact f1, ?_⟩
        rw [if_neg e1]
        have apart : t.owned = true → ow j ≠ ow i := fun w q => e1 (ok.inj j i t _ e2 hG w rfl q)
        cases t with
        | un => exact True.intro
        | v d =>
          obtain ⟨v, z1, z2⟩ := f2
          exact ⟨v, z1, Rep.mono sb _ _ z2⟩
        | m es =>
          obtain ⟨z1, z2, ys, z3, z4⟩ := f2
          exact ⟨z1, by rw [upd_ne (apart rfl)]; exact z2, ys, z3, RepL.mono sb _ _ z4⟩
        | dc kvs =>
          obtain ⟨z1, z2, z3⟩ := f2
          exact ⟨z1, by rw [upd_ne (apart rfl)]; exact z2, z3⟩
        | nw d =>
          obtain ⟨v, z1, z2⟩ := f2
          exact ⟨v, z1, Rep.mono sb _ _ z2⟩
        | pr pre es =>
          obtain ⟨p, vs, z1, z5, z6, z2, ys, z3, z4⟩ := f2
          exact ⟨p, vs, z1, sb _ _ z5, RepL.mono sb _ _ z6, by rw [upd_ne (apart rfl)]; exact z2, ys, z3, RepL.mono sb _ _ z4⟩
    · rcases get_set e with ⟨e1, e2⟩ | ⟨e1, e2⟩
      · rw [e2] at w
        cases w
      · rcases get_set e' with ⟨f1, f2⟩ | ⟨f1, f2⟩
        · rw [f2] at w'
          cases w'
        · have q' : (if j = i then 0 else ow j) = (if l = i then 0 else ow l) := q
          rw [if_neg e1, if_neg f1] at q'
          exact ok.inj j l t t' e2 f2 w w' q'
  have b1 : Bk g B (G.set i (.v (.lst ds))) (upd F (ow i) (.lst xs)) H (fun j => if j = i then 0 else ow j) := by
    refine ⟨up, fun j t e w => ?_⟩
    rcases get_set e with ⟨e1, e2⟩ | ⟨e1, e2⟩
    · rw [e2] at w
      cases w
    · show Fresh B.2 (if j = i then 0 else ow j)
      rw [if_neg e1]
      exact bk.fresh j t e2 w
  have es : σ.set i o = σ := by
    apply List.ext_getElem?
    intro n
    by_cases hn : n = i
    · rw [hn, List.getElem?_set_self (by rw [ok.len]; exact hl)]
      exact h1.symm
    · rw [List.getElem?_set_ne (Ne.symm hn)]
  rw [es] at k1
  exact h B _ H σ _ k1 b1 F1 (s1.trans sb)

/-! ### what a loop walks -/
def Src (g : Gb) (J : It) (items : List D) (F : Hp) : Prop := ∀ F2 H2, Sub F F2 → Sub F2 H2 → (∀ i, i < items.length → J.go i H2) ∧ J.stop items.length H2 ∧ ∀ i v H3, i < items.length → J.yld i H2 v H3 → H3 = H2 ∧ ∃ d, items[i]? = some d ∧ Rep g F2 d v
def WI (X : Cx) (tg iter : Expr) : TI := fun σ H R => ∀ pins s, Inv X pins σ H s → wpAny (model X.prog X.w) X.A (eval iter X.env) (fun v s1 => wpAny (model X.prog X.w) X.A (pyIter v) (PIE X pins σ tg R) X.xe s1) X.xe s
theorem pi_wi {X : Cx} {tg iter : Expr} : PI X tg iter (WI X tg iter) := ⟨fun pins s _ _ _ I h => h pins s I⟩
theorem wi_of {X : Cx} {tg iter : Expr} {t : TI} (h : PI X tg iter t) {σ : St} {H : Hp} {R : It → Hp → Prop} (q : t σ H R) : WI X tg iter σ H R := fun pins s I => h.run pins s σ H R I q
def EvI (g : Gb) (X : Cx) (G : List Sl) (tg iter : Expr) (items : List D) : Prop := ∀ F H σ ow, Ok g G F H σ ow → ∀ R : It → Hp → Prop, (∀ J F' H', Up g F H F' H' → Src g J items F' → R J H') → WI X tg iter σ H R
theorem ei_list {tg : Expr} {ds : List D} (hK : X.K = g.K) (h : EvD g X G e (.lst ds)) : EvI g X G tg e ds := by
  intro F H σ ow ok R q
  refine wi_of (pi_list pe_we) ?_
  refine h F H σ ow ok _ fun v F1 H1 u r => ?_
  obtain ⟨a, xs, e1, h1, h2⟩ := of_lst r
  rw [hK]
  refine ⟨a, e1, ⟨xs, SqL.of (u.fit.low _ _ h1)⟩, q _ F1 H1 u fun F2 H2 s1 s2 => ?_⟩
  have hq : SqL g.K H2 a xs := SqL.of (s2 _ _ (s1 _ _ h1))
  refine ⟨fun i hi => ?_, ⟨xs, hq, by rw [h2.len]; exact Nat.le_refl _⟩, fun i v H3 hi y => ?_⟩
  · have hi' : i < xs.length := by rw [h2.len]; exact hi
    exact ⟨xs, xs[i], hq, by simp [hi']⟩
  · obtain ⟨y1, y2⟩ := y
    obtain ⟨d, d1, d2⟩ := h2.get (y2 xs hq)
    exact ⟨y1, d, d1, Rep.mono s1 _ _ d2⟩
theorem rg_len (a b : Int) : (rg a b).length = (b - a).toNat := by
  unfold rg
  rw [List.length_map, List.length_range]
theorem rg_at {a b : Int} {i : Nat} (h : i < (b - a).toNat) : (rg a b)[i]? = some (a + i) := by
  unfold rg
  rw [List.getElem?_map, List.getElem?_range h] <;> rfl
theorem src_rg (a b : Int) (n : Nat) (hn : n = (b - a).toNat) (F : Hp) : Src g (Itr a n) ((rg a b).map D.int) F := fun F2 H2 s1 s2 => by
  have hl : ((rg a b).map D.int).length = n := by rw [List.length_map, rg_len, hn]
  rw [hl]
  refine ⟨fun i hi => hi, Nat.le_refl _, fun i v H3 hi y => ⟨y.1, .int (a + i), ?_, by rw [y.2]; exact rep_int _⟩⟩
  rw [List.getElem?_map, rg_at (by omega)] <;> rfl
theorem ei_range {tg : Expr} {n : Int} (fr : Free X.mg) (h : EvD g X G e (.int n)) (hn : -100000 ≤ n ∧ n ≤ 100000) (hg : Gl X "range" := by rfl) (he : starEach [e] X.env = (false, eval e X.env) :: starEach [] X.env := by rfl) : EvI g X G tg (.Call (.Name "range" p) [e] [] pos) ((rg 0 n).map D.int) := by
  intro F H σ ow ok R q
  refine wi_of (pi_range1 hg fr.range (pa_cons pe_we pa_nil he) (hs := he)) ?_
  refine h F H σ ow ok _ fun v F1 H1 u r => ⟨n, by rw [of_int r], by omega, by omega, q _ F1 H1 u (src_rg 0 n _ (by omega) F1)⟩
theorem ei_range2 {tg b : Expr} {m n : Int} (fr : Free X.mg) (h0 : EvD g X G a (.int m)) (h : EvD g X G b (.int n)) (hm : -100000 ≤ m ∧ m ≤ 100000) (hn : -100000 ≤ n ∧ n ≤ 100000) (hg : Gl X "range" := by rfl) (he : starEach [a, b] X.env = [(false, eval a X.env), (false, eval b X.env)] := by rfl) (he2 : starEach [b] X.env = [(false, eval b X.env)] := by rfl) :
    EvI g X G tg (.Call (.Name "range" p) [a, b] [] pos) ((rg m n).map D.int) := by
  intro F H σ ow ok R q
  refine wi_of (pi_range2 hg fr.range (pa_cons pe_we (pa_cons pe_we pa_nil he2) (by rw [he, he2])) (hs := he) (hs2 := he2)) ?_
  refine h0 F H σ ow ok _ fun v F1 H1 u r => ?_
  refine h F1 H1 σ ow (ok.up u) _ fun w F2 H2 u2 r2 => ⟨m, n, by rw [of_int r, of_int r2], ⟨by omega, by omega, by omega, by omega⟩, q _ F2 H2 (u.trans u2) (src_rg m n _ rfl F2)⟩
theorem ei_str {tg : Expr} {z : Str} (h : EvD g X G e (.str z)) : EvI g X G tg e (z.cps.toList.map fun c => D.str ⟨#[c]⟩) := by
  intro F H σ ow ok R q
  refine wi_of (pi_str pe_we) ?_
  refine h F H σ ow ok _ fun v F1 H1 u r => ⟨z, of_str r, q _ F1 H1 u fun F2 H2 s1 s2 => ?_⟩
  have hl : (z.cps.toList.map fun c => D.str ⟨#[c]⟩).length = z.cps.size := by rw [List.length_map, Array.length_toList]
  rw [hl]
  refine ⟨fun i hi => hi, Nat.le_refl _, fun i v H3 hi y => ?_⟩
  obtain ⟨y1, c, y2, y3⟩ := y
  exact ⟨y1, .str ⟨#[c]⟩, by rw [List.getElem?_map, Array.getElem?_toList, y2] <;> rfl, by rw [y3]; exact rep_str _⟩

/-! ### loops -/
theorem s_for (j : Nat) {items : List D} {iter : Expr} (hi : EvI g X G (.Name x p) iter items) (I : Nat → List Sl → Prop) (h0 : I 0 G)
    (hs : ∀ i d G', items[i]? = some d → I i G' → Ss g X (G'.set j (.v d)) body { nx := I (i + 1), ct := I (i + 1), bk := k.nx, rt := k.rt }) (hd : ∀ G', I items.length G' → k.nx G')
    (hN : X.N.Nodup := by exact nd_by (by kernel_rfl)) (hj : X.N[j]? = some x := by rfl) (hx : Loc X.env.scope x := by first | exact Or.inl rfl | exact Or.inr rfl) (hc : X.calm = true := by rfl)
    (hf : X.fn x = true ∨ X.env.scope.names.lookup x = some .local := by first | exact .inl rfl | exact .inr rfl) (hp : PassesOwn (model X.prog X.w) X.A X.env X.xe := by exact PassesOwn.never)
    (hfo : ∀ x, foldedSetIterable iter X.env x = pure x := by intro _; rfl) : S1 g X G (.For (.Name x p) iter body [] pos) k := fun B F H σ ow ok bk F1 s1 => by
  refine ws_of (ps_for hp hc pi_wi (pg_name hN hj hx hf) pss_wss hfo) ?_
  refine hi F H σ ow ok _ fun J F2 H2 u src => ?_
  refine ⟨fun i m σ' H' => m = items.length - i ∧ i ≤ items.length ∧ nxP g B F2 (I i) σ' H', ⟨_, rfl, Nat.zero_le _, G, F2, ow, h0, ok.up u, bk.go u, Sub.refl F2⟩, ?_⟩
  rintro i m σ' H' ⟨rfl, hle, G', F', ow', hI, ok', bk', s'⟩
  obtain ⟨h1, h2, h3⟩ := src F' H' s' ok'.fit.low
  by_cases hlt : i < items.length
  · refine Or.inr ⟨h1 i hlt, nxP g B F2 (I (i + 1)), fun σ3 H3 q => ⟨items.length - (i + 1), by omega, rfl, hlt, q⟩, fun v H3 y => ?_⟩
    obtain ⟨e3, d, d1, d2⟩ := h3 i v H3 hlt y
    subst e3
    have ok2 := ok'.set (i := j) (a := 0) (s := .v d) (o := some v) ⟨v, rfl, d2⟩ (fun z => by cases z)
    have bk2 := bk'.set (i := j) (a := 0) (s := .v d) (fun z => by cases z)
    have q0 := hs i d G' d1 hI B F' H3 _ _ ok2 bk2 F2 s'
    refine WSs.imp q0 (fun _ _ q => q) (fun _ _ q => q) (fun σ4 H4 q => ?_) (fun _ _ q => q)
    obtain ⟨G4, F4, ow4, q1, q2, q3, q4⟩ := q
    exact ⟨G4, F4, ow4, q1, q2, q3, (s1.trans u.sub).trans q4⟩
  · have e : i = items.length := by omega
    subst e
    exact Or.inl ⟨h2, G', F', ow', hd G' hI, ok', bk', (s1.trans u.sub).trans s'⟩
theorem s_while (I : Nat → List Sl → Prop) (m0 : Nat) (h0 : I m0 G) (hs : ∀ m G', I m G' → ∃ b, EvT g X G' c b ∧ (b = true → Ss g X G' body { nx := fun G2 => ∃ m', m' < m ∧ I m' G2, ct := fun G2 => ∃ m', m' < m ∧ I m' G2, bk := k.nx, rt := k.rt }) ∧ (b = false → k.nx G'))
    (hp : PassesOwn (model X.prog X.w) X.A X.env X.xe := by exact PassesOwn.never) : S1 g X G (.While c body [] pos) k := fun B F H σ ow ok bk F1 s1 => by
  refine ws_of (ps_while hp pt_wt pss_wss) ?_
  refine ⟨fun m σ' H' => nxP g B F1 (I m) σ' H', ⟨m0, G, F, ow, h0, ok, bk, s1⟩, ?_⟩
  rintro m σ' H' ⟨G', F', ow', hI, ok', bk', s'⟩
  obtain ⟨b, hb, h1, h2⟩ := hs m G' hI
  refine hb F' H' σ' ow' ok' _ fun F2 H2 u => ?_
  cases b with
  | true =>
    refine iteT ⟨fun σ3 H3 => ∃ m', m' < m ∧ nxP g B F1 (I m') σ3 H3, fun σ3 H3 q => q, ?_⟩
    have q0 := h1 rfl B F2 H2 σ' ow' (ok'.up u) (bk'.go u) F1 (s'.trans u.sub)
    refine WSs.imp q0 (fun σ3 H3 q => ?_) (fun _ _ q => q) (fun _ _ q => q) (fun σ3 H3 q => ?_)
    · obtain ⟨G3, F3, ow3, ⟨m', hm, q1⟩, q2, q3, q4⟩ := q
      exact ⟨m', hm, G3, F3, ow3, q1, q2, q3, q4⟩
    · obtain ⟨G3, F3, ow3, ⟨m', hm, q1⟩, q2, q3, q4⟩ := q
      exact ⟨m', hm, G3, F3, ow3, q1, q2, q3, q4⟩
  | false => exact iteF ⟨G', F2, ow', h2 rfl, ok'.up u, bk'.go u, s'.trans u.sub⟩
end
end CH

/-! Choosehall: comprehensions; a frame's own lists read as if frozen; stores; defs by their bodies. -/
namespace CH
open PySem L2

/-! ### what is written while it is the frame's own -/
theorem tabs_mut {T : List (Addr × Str)} {H : Hp} {D : Addr} {u o : HO} (t : LamX.Tabs T H) (h : H D = some u) (n : NT u) (n2 : ∀ φ, u ≠ .ext φ) : LamX.Tabs T (upd H D o) := fun p hp => by
  obtain ⟨ps, h1, h2, h3⟩ := t p hp
  have e1 : p.1 ≠ D := fun z => by
    rw [z, h] at h1
    exact n ps (Option.some.inj h1)
  refine ⟨ps, by rw [upd_ne e1]; exact h1, h2, fun pos cv hc => ?_⟩
  obtain ⟨c, e2, e3⟩ := h3 pos cv hc
  have e4 : c ≠ D := fun z => by
    rw [z, h] at e3
    exact n2 _ (Option.some.inj e3)
  exact ⟨c, e2, by rw [upd_ne e4]; exact e3⟩
theorem fit_mut {g : Gb} {F H : Hp} {D : Addr} {u o : HO} (f : Fit g F H) (hf : F D = none) (h : H D = some u) (n : NT u) (n2 : ∀ φ, u ≠ .ext φ) : Fit g F (upd H D o) :=
  ⟨fun b v e => by rw [upd_ne (ne_of_none e hf)]; exact f.low b v e, f.nt, tabs_mut f.tab h n n2⟩
theorem ne_ext_lst {xs : List V} : ∀ φ, HO.lst xs ≠ .ext φ := fun _ z => by cases z
theorem ne_ext_dK {xs : List (Key × V)} : ∀ φ, HO.dK xs ≠ .ext φ := fun _ z => by cases z
theorem ne_ext_frz {o : Obj} {u : HO} : ∀ φ, HO.frz o u ≠ .ext φ := fun _ z => by cases z
theorem nt_frz {o : Obj} {u : HO} : NT (.frz o u) := fun _ z => by cases z

/-! ### comprehensions -/
def WEb (X : Cx) (scope : Scope) (e : Expr) : TE := fun σ H Q => ∀ (s : Shared) (H0 : Hp) (C : Addr) (cl : List (Str × Addr)) (fp : List Addr), WE (X.blk s H0 scope (compEnvC scope cl C X.env) fp) e σ H Q
def WTb (X : Cx) (scope : Scope) (e : Expr) : TT := fun σ H Q => ∀ (s : Shared) (H0 : Hp) (C : Addr) (cl : List (Str × Addr)) (fp : List Addr), WT (X.blk s H0 scope (compEnvC scope cl C X.env) fp) e σ H Q
/-- e in the comprehension's block, whatever its frame -/
def EvB (g : Gb) (X : Cx) (scope : Scope) (G : List Sl) (e : Expr) (d : D) : Prop := ∀ (s : Shared) (H0 : Hp) (C : Addr) (cl : List (Str × Addr)) (fp : List Addr), EvD g (X.blk s H0 scope (compEnvC scope cl C X.env) fp) G e d
def EvTB (g : Gb) (X : Cx) (scope : Scope) (G : List Sl) (e : Expr) (b : Bool) : Prop := ∀ (s : Shared) (H0 : Hp) (C : Addr) (cl : List (Str × Addr)) (fp : List Addr), EvT g (X.blk s H0 scope (compEnvC scope cl C X.env) fp) G e b
theorem take_snoc {α : Type} {l : List α} {i : Nat} {a : α} (h : l[i]? = some a) : l.take (i + 1) = l.take i ++ [a] := by
  rw [List.take_add_one, h]
  rfl
section
variable {g : Gb} {X : Cx} {G : List Sl} {a c e elt iter : Expr} {pos p spos py : Pos} {x y : Str} {k : KE} {scope : Scope}
theorem filt_snoc {α : Type} {l : List α} {i : Nat} {a : α} {q : α → Bool} (h : l[i]? = some a) : (l.take (i + 1)).filter q = (l.take i).filter q ++ (if q a = true then [a] else []) := by
  rw [take_snoc h, List.filter_append]
  by_cases hq : q a = true
  · rw [if_pos hq, List.filter_cons, if_pos hq] <;> rfl
  · rw [if_neg hq, List.filter_cons, if_neg hq] <;> rfl
/-- the reading of a comprehension whose target is one name -/
theorem lc_run {α : Type} (j : Nat) {tt : TT} {te : TE} {enc : α → D} {l : List α} (q : α → Bool) (f : α → D) {tg : Expr} (hi : EvI g X G tg iter (l.map enc)) (hl : l.length ≤ 90000)
    (ht : ∀ a ∈ l, ∀ F H σ ow, Ok g (G.set j (.v (enc a))) F H σ ow → ∀ Q : Bool → Hp → Prop, (∀ F' H', Up g F H F' H' → Q (q a) H') → tt σ H Q)
    (he : ∀ a ∈ l, q a = true → ∀ F H σ ow, Ok g (G.set j (.v (enc a))) F H σ ow → ∀ Q : VK, (∀ v F' H', Up g F H F' H' → RtOk g F' H H' (.v (f a)) v → Q v H') → te σ H Q) :
    ∀ F H σ ow, Ok g G F H σ ow → ∀ Q : VK, (∀ v F' H', Up g F H F' H' → RtOk g F' H H' (.m ((l.filter q).map f)) v → Q v H') → tLc (WI X tg iter) (gName j) tt te [j] σ H Q := by
  intro F H σ ow ok Q qq
  refine hi F H σ ow ok _ fun J F1 H1 u src D hD => ?_
  have okL := ok.up u
  refine ⟨fun i m H' => m = l.length - i ∧ i ≤ l.length ∧ ∃ F' acc, H' D = some (.lst acc) ∧ F' D = none ∧ RepL g F' (((l.take i).filter q).map f) acc ∧ Up g F1 H1 F' H',
    ⟨_, rfl, Nat.zero_le _, F1, [], upd_same, u.fit.low.free hD, repL_nil, up_new u.fit hD⟩, ?_⟩
  rintro i m H' ⟨rfl, hle, F', acc, h1, h2, h3, u1⟩
  obtain ⟨s1, s2, s3⟩ := src F' H' u1.sub u1.fit.low
  rw [List.length_map] at s1 s2 s3
  by_cases hlt : i < l.length
  · refine Or.inr ⟨s1 i hlt, _, fun H2 z => ⟨l.length - (i + 1), by omega, z⟩, fun v H3 y => ?_⟩
    obtain ⟨e3, d, d1, d2⟩ := s3 i v H3 hlt y
    subst e3
    obtain ⟨a, ha, hd⟩ : ∃ a, l[i]? = some a ∧ enc a = d := by
      rw [List.getElem?_map] at d1
      cases z : l[i]? with
      | none =>
        rw [z] at d1
        cases d1
      | some a =>
        rw [z] at d1
        exact ⟨a, rfl, Option.some.inj d1⟩
    have hm : a ∈ l := List.mem_of_getElem? ha
    have ok1 := (okL.up u1).set (i := j) (a := 0) (s := .v (enc a)) (o := some v) ⟨v, rfl, by rw [hd]; exact d2⟩ (fun z => by cases z)
    have es : (wipe σ [j]).set j (some v) = σ.set j (some v) := by
      show (σ.set j none).set j (some v) = _
      rw [List.set_set]
    have ew : wipe ((wipe σ [j]).set j (some v)) [j] = wipe σ [j] := by
      rw [es]
      show (σ.set j (some v)).set j none = σ.set j none
      rw [List.set_set]
    refine ⟨ew, ?_⟩
    rw [es]
    refine ht a hm F' H3 _ _ ok1 _ fun F2 H2 u2 => ?_
    have k2 : H2 D = some (.lst acc) := u2.ext _ _ h1 nt_lst
    have f2 : F2 D = none := u2.grow _ _ h1 nt_lst h2
    cases hq : q a with
    | true =>
      refine iteT ?_
      refine he a hm hq F2 H2 _ _ (ok1.up u2) _ fun w F4 H4 u4 r4 => ?_
      have k4 : H4 D = some (.lst acc) := u4.ext _ _ k2 nt_lst
      have f4 : F4 D = none := u4.grow _ _ k2 nt_lst f2
      have hacc : acc.length ≤ 90000 := by
        rw [h3.len, List.length_map]
        exact Nat.le_trans (List.length_filter_le _ _) (Nat.le_trans (by rw [List.length_take]; omega) hl)
      refine ⟨acc, k4, Nat.lt_of_le_of_lt hacc (by decide), rfl, hlt, F4, acc ++ [w], upd_same, f4, ?_, ?_⟩
      · rw [filt_snoc ha, if_pos hq, List.map_append]
        exact (RepL.mono (u2.trans u4).sub _ _ h3).app (repL_cons r4 repL_nil)
      · have u5 := (u1.trans u2).trans u4
        exact ⟨fun b o z n => by rw [upd_ne (ne_of_none z hD)]; exact u5.ext b o z n, u5.sub, u5.grow, fit_mut u5.fit f4 k4 nt_lst ne_ext_lst⟩
    | false =>
      refine iteF ⟨rfl, hlt, F2, acc, k2, f2, ?_, u1.trans u2⟩
      rw [filt_snoc ha, if_neg (by rw [hq]; decide), List.append_nil]
      exact RepL.mono u2.sub _ _ h3
  · have e : i = l.length := by omega
    subst e
    refine Or.inl ⟨s2, qq _ F' H' (u.trans u1) ⟨D, acc, rfl, (Fresh.of hD).back u.ext, h1, h2, ?_⟩⟩
    rw [List.take_length] at h3
    exact h3
theorem run_web {scope : Scope} {G : List Sl} {e : Expr} {d : D} (h : EvB g X scope G e d) : ∀ F H σ ow, Ok g G F H σ ow → ∀ Q : VK, (∀ v F' H', Up g F H F' H' → RtOk g F' H H' (.v d) v → Q v H') → WEb X scope e σ H Q := fun F H σ ow ok Q q s H0 C cl fp => h s H0 C cl fp F H σ ow ok Q q
theorem run_wtb {scope : Scope} {G : List Sl} {e : Expr} {d : Bool} (h : EvTB g X scope G e d) : ∀ F H σ ow, Ok g G F H σ ow → ∀ Q : Bool → Hp → Prop, (∀ F' H', Up g F H F' H' → Q d H') → WTb X scope e σ H Q := fun F H σ ow ok Q q s H0 C cl fp => h s H0 C cl fp F H σ ow ok Q q
/-- the target of the block -/
def BlkT (X : Cx) (scope : Scope) (x : Str) : Prop := Loc (relS scope X.env.scope) x ∧ ((scope.names.lookup x == some .cell) = true ∨ (relS scope X.env.scope).names.lookup x = some .local)
theorem pg_blk (j : Nat) (hN : X.N.Nodup) (hj : X.N[j]? = some x) (hx : BlkT X scope x) (s : Shared) (H : Hp) (C : Addr) (cl : List (Str × Addr)) (fp : List Addr) : PG (X.blk s H scope (compEnvC scope cl C X.env) fp) (.Name x p) (gName j) :=
  pg_name (X := X.blk s H scope (compEnvC scope cl C X.env) fp) hN hj hx.1 hx.2
/-- [elt for x in iter if c] -/
theorem ev_lcIf {α : Type} (j : Nat) {enc : α → D} {l : List α} (q : α → Bool) (f : α → D) (hi : EvI g X G (.Name x p) iter (l.map enc)) (hl : l.length ≤ 90000)
    (ht : ∀ a ∈ l, EvTB g X scope (G.set j (.v (enc a))) c (q a)) (he : ∀ a ∈ l, q a = true → EvB g X scope (G.set j (.v (enc a))) elt (f a))
    (hN : X.N.Nodup := by exact nd_by (by kernel_rfl)) (hj : X.N[j]? = some x := by rfl) (hb : blkC X.N X.env.scope scope [(x, j)] = true := by kernel_rfl) (hx : BlkT X scope x := by first | exact ⟨Or.inl rfl, Or.inr rfl⟩ | exact ⟨Or.inr rfl, Or.inl rfl⟩) (hc : X.calm = true := by rfl)
    (hfo : ∀ x, foldedSetIterable iter X.env x = pure x := by intro _; rfl) : Ev g X G (.ListComp elt [⟨.Name x p, iter, [c], 0⟩] scope pos) (.m ((l.filter q).map f)) := by
  intro F H σ ow ok Q qq
  refine we_of (pe_lc (own := [(x, j)]) (g := gName j) (tt := WTb X scope c) (te := WEb X scope elt) hc hN pi_wi (blkOk_by hb) (pg_blk j hN hj hx) (fun s H C cl fp => pts_one ⟨fun pins s' σ H Q I h => h _ _ _ _ _ pins s' I⟩) (fun s H C cl fp => ⟨fun pins s' σ H Q I h => h _ _ _ _ _ pins s' I⟩) hfo) ?_
  exact lc_run j q f hi hl (fun a ha => run_wtb (ht a ha)) (fun a ha hq => run_web (he a ha hq)) F H σ ow ok Q qq
theorem filter_true {α : Type} : ∀ l : List α, l.filter (fun _ => true) = l
  | [] => rfl
  | a :: l => by rw [List.filter_cons, if_pos rfl, filter_true l]
/-- [elt for x in iter] -/
theorem ev_lc {α : Type} (j : Nat) {enc : α → D} {l : List α} (f : α → D) (hi : EvI g X G (.Name x p) iter (l.map enc)) (hl : l.length ≤ 90000) (he : ∀ a ∈ l, EvB g X scope (G.set j (.v (enc a))) elt (f a))
    (hN : X.N.Nodup := by exact nd_by (by kernel_rfl)) (hj : X.N[j]? = some x := by rfl) (hb : blkC X.N X.env.scope scope [(x, j)] = true := by kernel_rfl) (hx : BlkT X scope x := by first | exact ⟨Or.inl rfl, Or.inr rfl⟩ | exact ⟨Or.inr rfl, Or.inl rfl⟩) (hc : X.calm = true := by rfl)
    (hfo : ∀ x, foldedSetIterable iter X.env x = pure x := by intro _; rfl) : Ev g X G (.ListComp elt [⟨.Name x p, iter, [], 0⟩] scope pos) (.m (l.map f)) := by
  intro F H σ ow ok Q qq
  refine we_of (pe_lc (own := [(x, j)]) (g := gName j) (tt := tYes) (te := WEb X scope elt) hc hN pi_wi (blkOk_by hb) (pg_blk j hN hj hx) (fun s H C cl fp => pts_nil) (fun s H C cl fp => ⟨fun pins s' σ H Q I h => h _ _ _ _ _ pins s' I⟩) hfo) ?_
  refine lc_run j (fun _ => true) f hi hl (fun a ha F H σ ow ok Q q => q F H (Up.refl ok.fit)) (fun a ha _ => run_web (he a ha)) F H σ ow ok Q ?_
  rw [filter_true]
  exact qq
/-- y = [elt for x in iter if c] -/
theorem s_lcIf {α : Type} (i j : Nat) {enc : α → D} {l : List α} (q : α → Bool) (f : α → D) (hi : EvI g X G (.Name x p) iter (l.map enc)) (hl : l.length ≤ 90000)
    (ht : ∀ a ∈ l, EvTB g X scope (G.set j (.v (enc a))) c (q a)) (he : ∀ a ∈ l, q a = true → EvB g X scope (G.set j (.v (enc a))) elt (f a)) (hk : k.nx (G.set i (.m ((l.filter q).map f))))
    (hsw : swapsWith (.ListComp elt [⟨.Name x p, iter, [c], 0⟩] scope pos) (some (.Name y py)) spos.line X.env = pure true := by exact sw_true rfl rfl rfl (by kernel_rfl))
    (hN : X.N.Nodup := by exact nd_by (by kernel_rfl)) (hy : X.N[i]? = some y := by rfl) (hyl : X.env.scope.names.lookup y = some .local := by rfl) (hj : X.N[j]? = some x := by rfl) (hb : blkC X.N X.env.scope scope [(x, j)] = true := by kernel_rfl) (hx : BlkT X scope x := by first | exact ⟨Or.inl rfl, Or.inr rfl⟩ | exact ⟨Or.inr rfl, Or.inl rfl⟩) (hc : X.calm = true := by rfl)
    (hfo : ∀ x, foldedSetIterable iter X.env x = pure x := by intro _; rfl) : S1 g X G (.Assign [.Name y py] (.ListComp elt [⟨.Name x p, iter, [c], 0⟩] scope pos) spos) k := fun B F H σ ow ok bk F1 s1 => by
  refine ws_of (ps_setLc (i := i) (own := [(x, j)]) (g := gName j) (tt := WTb X scope c) (te := WEb X scope elt) hc hN hy hyl hsw pi_wi (blkOk_by hb) (pg_blk j hN hj hx) (fun s H C cl fp => pts_one ⟨fun pins s' σ H Q I h => h _ _ _ _ _ pins s' I⟩) (fun s H C cl fp => ⟨fun pins s' σ H Q I h => h _ _ _ _ _ pins s' I⟩) hfo) ?_
  refine lc_run j q f hi hl (fun a ha => run_wtb (ht a ha)) (fun a ha hq => run_web (he a ha hq)) F H σ ow ok _ fun v F2 H2 u r => ?_
  obtain ⟨ow', k1, b1⟩ := store (i := i) ok bk u r
  exact ⟨_, F2, ow', hk, k1, b1, s1.trans u.sub⟩
/-- y = [elt for x in iter] -/
theorem s_lc {α : Type} (i j : Nat) {enc : α → D} {l : List α} (f : α → D) (hi : EvI g X G (.Name x p) iter (l.map enc)) (hl : l.length ≤ 90000) (he : ∀ a ∈ l, EvB g X scope (G.set j (.v (enc a))) elt (f a)) (hk : k.nx (G.set i (.m (l.map f))))
    (hsw : swapsWith (.ListComp elt [⟨.Name x p, iter, [], 0⟩] scope pos) (some (.Name y py)) spos.line X.env = pure true := by exact sw_true rfl rfl rfl (by kernel_rfl))
    (hN : X.N.Nodup := by exact nd_by (by kernel_rfl)) (hy : X.N[i]? = some y := by rfl) (hyl : X.env.scope.names.lookup y = some .local := by rfl) (hj : X.N[j]? = some x := by rfl) (hb : blkC X.N X.env.scope scope [(x, j)] = true := by kernel_rfl) (hx : BlkT X scope x := by first | exact ⟨Or.inl rfl, Or.inr rfl⟩ | exact ⟨Or.inr rfl, Or.inl rfl⟩) (hc : X.calm = true := by rfl)
    (hfo : ∀ x, foldedSetIterable iter X.env x = pure x := by intro _; rfl) : S1 g X G (.Assign [.Name y py] (.ListComp elt [⟨.Name x p, iter, [], 0⟩] scope pos) spos) k := fun B F H σ ow ok bk F1 s1 => by
  refine ws_of (ps_setLc (i := i) (own := [(x, j)]) (g := gName j) (tt := tYes) (te := WEb X scope elt) hc hN hy hyl hsw pi_wi (blkOk_by hb) (pg_blk j hN hj hx) (fun s H C cl fp => pts_nil) (fun s H C cl fp => ⟨fun pins s' σ H Q I h => h _ _ _ _ _ pins s' I⟩) hfo) ?_
  refine lc_run j (fun _ => true) f hi hl (fun a ha F H σ ow ok Q q => q F H (Up.refl ok.fit)) (fun a ha _ => run_web (he a ha)) F H σ ow ok _ fun v F2 H2 u r => ?_
  rw [filter_true] at r
  obtain ⟨ow', k1, b1⟩ := store (i := i) ok bk u r
  exact ⟨_, F2, ow', hk, k1, b1, s1.trans u.sub⟩
end

/-! ### lists of the frame's own, read as if frozen -/
def bor1 : Sl → Sl
  | .m ds => .v (.lst ds)
  | .nw d => .v d
  | .pr pre ds => .v (.lst (pre ++ [.lst ds]))
  | s => s
def bor (G : List Sl) : List Sl := G.map bor1
mutual
def D.noL : D → Bool
  | .lst _ => false
  | .scr _ => false
  | .hs _ => false
  | .tup l => noLL l
  | _ => true
def noLL : List D → Bool
  | [] => true
  | d :: l => d.noL && noLL l
end
def Sl.noL : Sl → Bool
  | .v d => d.noL
  | .m ds => noLL ds
  | .pr _ _ => false
  | _ => true
section
variable {g : Gb} {F : Hp}
mutual
theorem rep_noL {F' : Hp} (h : ∀ b xs, F b = some (.tup xs) → F' b = some (.tup xs)) : ∀ (d : D) (v : V), d.noL = true → Rep g F d v → Rep g F' d v
  | _, _, _, .non => .non
  | _, _, _, .bl b => .bl b
  | _, _, _, .int i => .int i
  | _, _, _, .str x => .str x
  | _, _, _, .adr x => .adr x
  | .lst _, _, n, _ => by cases n
  | .tup l, _, n, .tup e k => .tup (h _ _ e) (repL_noL h l _ n k)
  | .scr _, _, n, _ => by cases n
  | .hs _, _, n, _ => by cases n
theorem repL_noL {F' : Hp} (h : ∀ b xs, F b = some (.tup xs) → F' b = some (.tup xs)) : ∀ (ds : List D) (vs : List V), noLL ds = true → RepL g F ds vs → RepL g F' ds vs
  | _, _, _, .nil => .nil
  | d :: ds, _, n, .cons e k => by
    have n' : (d.noL && noLL ds) = true := n
    rw [Bool.and_eq_true] at n'
    exact .cons (rep_noL h _ _ n'.1 e) (repL_noL h _ _ n'.2 k)
end
end
/-- the addresses that the slots' own lists have -/
def Lent (G : List Sl) (ow : Nat → Addr) (b : Addr) : Prop := ∃ i, ((∃ ds, G[i]? = some (.m ds)) ∨ ∃ pre ds, G[i]? = some (.pr pre ds)) ∧ ow i = b
open Classical in
noncomputable def lendF (G : List Sl) (ow : Nat → Addr) (F H : Hp) : Hp := fun b => if Lent G ow b then H b else F b
open Classical in
noncomputable def backF (G : List Sl) (ow : Nat → Addr) (F : Hp) : Hp := fun b => if Lent G ow b then none else F b
section
variable {g : Gb} {X : Cx} {G : List Sl} {e : Expr} {es : List Expr} {F H : Hp} {σ : St} {ow : Nat → Addr}
theorem lent_at (k : Ok g G F H σ ow) {b : Addr} (h : Lent G ow b) : F b = none ∧ ∃ xs, H b = some (.lst xs) := by
  obtain ⟨i, ⟨ds, e⟩ | ⟨pre, ds, e⟩, rfl⟩ := h
  · obtain ⟨o, _, h2, h3, xs, h4, _⟩ := k.at_ i _ e
    exact ⟨h3, xs, h4⟩
  · obtain ⟨o, _, p, vs, _, _, _, h3, xs, h4, _⟩ := k.at_ i _ e
    exact ⟨h3, xs, h4⟩
theorem lend_sub (k : Ok g G F H σ ow) : Sub F (lendF G ow F H) := fun b o e => by
  unfold lendF
  rw [if_neg fun z => ?_]
  · exact e
  · rw [(lent_at k z).1] at e
    cases e
theorem lend_fit (k : Ok g G F H σ ow) : Fit g (lendF G ow F H) H := by
  refine ⟨fun b o e => ?_, fun b o e => ?_, k.fit.tab⟩
  · unfold lendF at e
    by_cases hb : Lent G ow b
    · rw [if_pos hb] at e
      exact e
    · rw [if_neg hb] at e
      exact k.fit.low b o e
  · unfold lendF at e
    by_cases hb : Lent G ow b
    · rw [if_pos hb] at e
      obtain ⟨_, xs, h⟩ := lent_at k hb
      rw [h] at e
      cases e
      exact nt_lst
    · rw [if_neg hb] at e
      exact k.fit.nt b o e
theorem lend_ok (k : Ok g G F H σ ow) : Ok g (bor G) (lendF G ow F H) H σ ow := by
  have back : ∀ i s, (bor G)[i]? = some s → ∃ t, G[i]? = some t ∧ bor1 t = s := fun i s e => by
    unfold bor at e
    rw [List.getElem?_map] at e
    cases q : G[i]? with
    | none =>
      rw [q] at e
      cases e
    | some t =>
      rw [q] at e
      exact ⟨t, q, Option.some.inj e⟩
  refine ⟨lend_fit k, by unfold bor; rw [List.length_map]; exact k.len, fun i s e => ?_, fun i j s t e e' w w' q => ?_⟩
  · obtain ⟨t, h1, h2⟩ := back i s e
    obtain ⟨o, h3, h4⟩ := k.at_ i t h1
    refine ⟨o, h3, ?_⟩
    subst h2
    cases t with
    | un => exact True.intro
    | v d =>
      obtain ⟨v, z1, z2⟩ := h4
      exact ⟨v, z1, Rep.mono (lend_sub k) _ _ z2⟩
    | m ds =>
      obtain ⟨z1, z2, xs, z3, z4⟩ := h4
      refine ⟨_, z1, rep_lst (xs := xs) ?_ (RepL.mono (lend_sub k) _ _ z4)⟩
      unfold lendF
      rw [if_pos ⟨i, Or.inl ⟨ds, h1⟩, rfl⟩]
      exact z3
    | dc kvs =>
      obtain ⟨z1, z2, z3⟩ := h4
      refine ⟨z1, ?_, z3⟩
      unfold lendF
      rw [if_neg fun z => ?_]
      · exact z2
      · obtain ⟨i', ⟨ds, e1⟩ | ⟨pre, ds, e1⟩, e2⟩ := z
        · have e3 := k.inj i' i _ _ e1 h1 rfl rfl e2
          rw [e3, h1] at e1
          cases e1
        · have e3 := k.inj i' i _ _ e1 h1 rfl rfl e2
          rw [e3, h1] at e1
          cases e1
    | nw d =>
      obtain ⟨v, z1, z2⟩ := h4
      exact ⟨v, z1, Rep.mono (lend_sub k) _ _ z2⟩
    | pr pre ds =>
      obtain ⟨p, vs, z1, z5, z6, z2, xs, z3, z4⟩ := h4
      refine ⟨_, z1, rep_lst (lend_sub k _ _ z5) ((RepL.mono (lend_sub k) _ _ z6).app (repL_cons (rep_lst (xs := xs) ?_ (RepL.mono (lend_sub k) _ _ z4)) repL_nil))⟩
      unfold lendF
      rw [if_pos ⟨i, Or.inr ⟨pre, ds, h1⟩, rfl⟩]
      exact z3
  · obtain ⟨s', h1, h2⟩ := back i s e
    obtain ⟨t', h3, h4⟩ := back j t e'
    refine k.inj i j s' t' h1 h3 ?_ ?_ q
    · subst h2
      cases s' with
      | m _ => cases w
      | nw _ => cases w
      | pr _ _ => cases w
      | _ => exact w
    · subst h4
      cases t' with
      | m _ => cases w'
      | nw _ => cases w'
      | pr _ _ => cases w'
      | _ => exact w'
theorem lend_up (k : Ok g G F H σ ow) {F' H' : Hp} (u : Up g (lendF G ow F H) H F' H') : Up g F H (backF G ow F') H' ∧ ∀ b xs, F' b = some (.tup xs) → backF G ow F' b = some (.tup xs) := by
  have hs : ∀ b, Lent G ow b → ∃ xs, F' b = some (.lst xs) := fun b hb => by
    obtain ⟨_, xs, h⟩ := lent_at k hb
    refine ⟨xs, u.sub b _ ?_⟩
    unfold lendF
    rw [if_pos hb]
    exact h
  refine ⟨⟨u.ext, fun b o e => ?_, fun b o e n f => ?_, ⟨fun b o e => ?_, fun b o e => ?_, u.fit.tab⟩⟩, fun b xs e => ?_⟩
  · unfold backF
    rw [if_neg fun z => ?_]
    · exact u.sub b o (lend_sub k b o e)
    · rw [(lent_at k z).1] at e
      cases e
  · unfold backF
    by_cases hb : Lent G ow b
    · rw [if_pos hb]
    · rw [if_neg hb]
      refine u.grow b o e n ?_
      unfold lendF
      rw [if_neg hb]
      exact f
  · unfold backF at e
    by_cases hb : Lent G ow b
    · rw [if_pos hb] at e
      cases e
    · rw [if_neg hb] at e
      exact u.fit.low b o e
  · unfold backF at e
    by_cases hb : Lent G ow b
    · rw [if_pos hb] at e
      cases e
    · rw [if_neg hb] at e
      exact u.fit.nt b o e
  · unfold backF
    rw [if_neg fun z => ?_]
    · exact e
    · obtain ⟨ys, h⟩ := hs b z
      rw [h] at e
      cases e
theorem Ev.bor {r : Sl} (h : Ev g X (bor G) e r) (n : r.noL = true := by rfl) : Ev g X G e r := by
  intro F H σ ow k Q q
  refine h _ H σ ow (lend_ok k) Q fun v F1 H1 u r1 => ?_
  obtain ⟨u1, ht⟩ := lend_up k u
  refine q v _ H1 u1 ?_
  cases r with
  | un => exact True.intro
  | v d => exact rep_noL ht _ _ n r1
  | m ds =>
    obtain ⟨l, xs, e1, e2, e3, e4, e5⟩ := r1
    refine ⟨l, xs, e1, e2, e3, ?_, repL_noL ht _ _ n e5⟩
    unfold backF
    split
    · rfl
    · exact e4
  | dc kvs =>
    obtain ⟨l, e1, e2, e3, e4⟩ := r1
    refine ⟨l, e1, e2, e3, ?_⟩
    unfold backF
    split
    · rfl
    · exact e4
  | nw d =>
    refine Rep.mono (fun b o e => ?_) _ _ r1
    have e1 := newp_sub b o e
    by_cases z : Lent G ow b
    · obtain ⟨_, xs, hz⟩ := lent_at k z
      have hz1 : F1 b = some (.lst xs) := u.sub b _ (by unfold lendF; rw [if_pos z]; exact hz)
      unfold newp at e
      rw [if_neg fun w => ?_] at e
      · cases e
      · rcases w with w | ⟨ys, w⟩
        · exact w _ hz nt_lst
        · rw [hz1] at w
          cases w
    · have e2 : backF G ow F1 b = F1 b := by
        unfold backF
        rw [if_neg z]
      unfold newp at e ⊢
      rw [e2]
      exact e
  | pr pre ds => cases n
theorem EvT.bor {r : Bool} (h : EvT g X (bor G) e r) : EvT g X G e r := by
  intro F H σ ow k Q q
  refine h _ H σ ow (lend_ok k) Q fun F1 H1 u => ?_
  exact q _ H1 (lend_up k u).1
end
end CH

/-! Choosehall: what changes a list or a dict of the frame's own; a def by its body. -/
namespace CH
open PySem L2

section
variable {g : Gb} {G : List Sl} {F F' H H' : Hp} {σ : St} {ow : Nat → Addr} {B : Hp × Hp}
theorem Ok.mutG (k : Ok g G F H σ ow) {i : Nat} {s t : Sl} {u o : HO} (e : G[i]? = some s) (w : s.owned = true) (hu : H (ow i) = some u) (n : NT u) (n2 : ∀ φ, u ≠ .ext φ)
    (ht : ∀ v, SlotOk g F H (ow i) s v → SlotOk g F (upd H (ow i) o) (ow i) t v) (wt : t.owned = true) : Ok g (G.set i t) F (upd H (ow i) o) σ ow := by
  obtain ⟨v, h1, h2⟩ := k.at_ i s e
  have hf := (h2.own w).1
  refine ⟨fit_mut k.fit hf hu n n2, by rw [List.length_set]; exact k.len, fun j r q => ?_, fun j l r r' q q' x x' z => ?_⟩
  · rcases get_set q with ⟨e1, e2⟩ | ⟨e1, e2⟩
    · rw [e1, e2]
      exact ⟨v, h1, ht v h2⟩
    · obtain ⟨v', f1, f2⟩ := k.at_ j r e2
      refine ⟨v', f1, ?_⟩
      have ap : r.owned = true → ow j ≠ ow i := fun x z => e1 (k.inj j i r s e2 e x w z)
      cases r with
      | un => exact True.intro
      | v d => exact f2
      | m ds =>
        obtain ⟨z1, z2, xs, z3, z4⟩ := f2
        exact ⟨z1, z2, xs, by rw [upd_ne (ap rfl)]; exact z3, z4⟩
      | dc kvs =>
        obtain ⟨z1, z2, z3⟩ := f2
        exact ⟨z1, z2, by rw [upd_ne (ap rfl)]; exact z3⟩
      | nw d => exact f2
      | pr pre ds =>
        obtain ⟨p, vs, z1, z5, z6, z2, xs, z3, z4⟩ := f2
        exact ⟨p, vs, z1, z5, z6, z2, xs, by rw [upd_ne (ap rfl)]; exact z3, z4⟩
  · rcases get_set q with ⟨e1, e2⟩ | ⟨e1, e2⟩
    · rcases get_set q' with ⟨f1, f2⟩ | ⟨f1, f2⟩
      · rw [e1, f1]
      · rw [e1] at z
        rw [e1]
        exact k.inj i l s r' e f2 w x' z
    · rcases get_set q' with ⟨f1, f2⟩ | ⟨f1, f2⟩
      · rw [f1] at z
        rw [f1]
        exact k.inj j i r s e2 e x w z
      · exact k.inj j l r r' e2 f2 x x' z
theorem Bk.mutG (b : Bk g B G F H ow) (k : Ok g G F H σ ow) {i : Nat} {s t : Sl} {u o : HO} (e : G[i]? = some s) (w : s.owned = true) (hu : H (ow i) = some u) (n : NT u) (n2 : ∀ φ, u ≠ .ext φ) (wt : t.owned = true) : Bk g B (G.set i t) F (upd H (ow i) o) ow := by
  obtain ⟨v, h1, h2⟩ := k.at_ i s e
  have hf := (h2.own w).1
  have fr := b.fresh i s e w
  refine ⟨⟨fun c q h m => ?_, b.up.sub, b.up.grow, fit_mut b.up.fit hf hu n n2⟩, fun j r q x => ?_⟩
  · rw [upd_ne (fr.ne h m)]
    exact b.up.ext c q h m
  · rcases get_set q with ⟨e1, e2⟩ | ⟨e1, e2⟩
    · rw [e1]
      exact fr
    · exact b.fresh j r e2 x
/-- the list of slot i holds other data -/
theorem mut_lst (k : Ok g G F H σ ow) (b : Bk g B G F H ow) {i : Nat} {ds es : List D} {xs ys : List V} (e : G[i]? = some (.m ds)) (hu : H (ow i) = some (.lst xs)) (r : RepL g F es ys) : Ok g (G.set i (.m es)) F (upd H (ow i) (.lst ys)) σ ow ∧ Bk g B (G.set i (.m es)) F (upd H (ow i) (.lst ys)) ow :=
  ⟨k.mutG e rfl hu nt_lst ne_ext_lst (fun v h => ⟨h.1, h.2.1, ys, upd_same, r⟩) rfl, b.mutG k e rfl hu nt_lst ne_ext_lst rfl⟩
theorem mut_dct (k : Ok g G F H σ ow) (b : Bk g B G F H ow) {i : Nat} {ds es : List (Int × V)} (e : G[i]? = some (.dc ds)) (hu : H (ow i) = some (.dK (dkv ds))) : Ok g (G.set i (.dc es)) F (upd H (ow i) (.dK (dkv es))) σ ow ∧ Bk g B (G.set i (.dc es)) F (upd H (ow i) (.dK (dkv es))) ow :=
  ⟨k.mutG e rfl hu nt_dK ne_ext_dK (fun v h => ⟨h.1, h.2.1, upd_same⟩) rfl, b.mutG k e rfl hu nt_dK ne_ext_dK rfl⟩
/-- the slot's own list, where it lies -/
theorem Ok.own (k : Ok g G F H σ ow) {i : Nat} {ds : List D} (e : G[i]? = some (.m ds)) : σ[i]? = some (some (.ref (ow i))) ∧ F (ow i) = none ∧ ∃ xs, H (ow i) = some (.lst xs) ∧ RepL g F ds xs := by
  obtain ⟨o, h1, h2, h3, h4⟩ := k.at_ i _ e
  exact ⟨by rw [h1, h2], h3, h4⟩
theorem Ok.ownD (k : Ok g G F H σ ow) {i : Nat} {ds : List (Int × V)} (e : G[i]? = some (.dc ds)) : σ[i]? = some (some (.ref (ow i))) ∧ F (ow i) = none ∧ H (ow i) = some (.dK (dkv ds)) := by
  obtain ⟨o, h1, h2, h3, h4⟩ := k.at_ i _ e
  exact ⟨by rw [h1, h2], h3, h4⟩
end

/-- a method's call with one argument or more, written on one line -/
structure MC (X : Cx) (o : Expr) (m : Str) (apos : Pos) (e : Expr) (es : List Expr) (cpos : Pos) : Prop where
  base : attributeBase o m X.env (eval o X.env) = eval o X.env
  few : ((backTo cpos (starEach (e :: es) X.env)).all (fun x => !x.1) && (backToKw cpos (keywordEach [] X.env)).all (fun x => x.1.isSome)
      && decide ((e :: es).length + ([] : List Keyword).length + (if ([] : List Keyword).isEmpty then 0 else 1) < 30)) = true
  line : (apos.endLine == cpos.line) = true
  star : starEach (e :: es) X.env = (false, eval e X.env) :: starEach es X.env
  plain : (backTo cpos (starEach es X.env)).any (·.1) = false
/-- a name of the def, in its slot -/
structure NmV (X : Cx) (i : Nat) (x : Str) : Prop where
  ix : X.N[i]? = some x
  vis : Vis X.env.scope x
  d1 : (x == ("__debug__" : Str)) = false
  d2 : (x == ("__classdict__" : Str)) = false
section
variable {g : Gb} {X : Cx} {G : List Sl} {a c e e1 e2 o : Expr} {es : List Expr} {pos p p2 p3 apos apos2 cpos cpos2 : Pos} {x y : Str} {k : KE} {ds : List D}
theorem pe_nm {i : Nat} (h : NmV X i x) : PE X (.Name x p) (tVar i) := pe_var h.ix h.vis h.d1 h.d2
theorem ty_lst {K : PySem.W.Frag} {H : Hp} {a : Addr} {xs : List V} (h : H a = some (.lst xs)) : tyV K "list" (.ref a) H := .inl ⟨rfl, _, .inl (.inl h)⟩
/-- x.append(e) -/
theorem s_append (i : Nat) {d : D} (hd : EvD g X G e d) (q : k.nx (G.set i (.m (ds ++ [d])))) (hl : ds.length ≤ 90000) (hG : G[i]? = some (.m ds) := by rfl) (hn : NmV X i x := by first | exact ⟨rfl, Or.inl rfl, rfl, rfl⟩ | exact ⟨rfl, Or.inr (Or.inl rfl), rfl, rfl⟩)
    (mc : MC X (.Name x p) "append" apos e [] cpos := by exact ⟨rfl, rfl, rfl, rfl, rfl⟩) (hs : swapsWith (.Call (.Attribute (.Name x p) "append" apos) [e] [] cpos) none pos.line X.env = pure false := by rfl) :
    S1 g X G (.Expr (.Call (.Attribute (.Name x p) "append" apos) [e] [] cpos) pos) k := fun B F H σ ow ok bk F1 s1 => by
  refine ws_of (ps_expr (pe_bm PySem.F.plainAttrs_list PySem.F.slot_list_append PySem.F.type_list_append mt_append (pe_nm hn) (pa_cons pe_we pa_nil mc.star) mc.base mc.few mc.line mc.star mc.plain) hs) ?_
  obtain ⟨h1, h2, xs, h3, h4⟩ := ok.own hG
  refine ⟨_, h1, ty_lst h3, ?_⟩
  refine hd F H σ ow ok _ fun v F2 H2 u r => ?_
  have h5 := u.ext _ _ h3 nt_lst
  obtain ⟨k1, b1⟩ := mut_lst (ok.up u) (bk.go u) hG h5 ((RepL.mono u.sub _ _ h4).app (repL_cons r repL_nil))
  refine ⟨ow i, xs, v, rfl, rfl, h5, Nat.lt_of_le_of_lt ?_ (by decide : 90000 < sizeLine), _, F2, ow, q, k1, b1, s1.trans u.sub⟩
  rw [h4.len]
  exact hl
/-- x.append(y.pop(e)) -/
theorem s_appPop (i j : Nat) {es : List D} {n m : Nat} {d : D} (he : EvD g X G e (.int n)) (hm : es[n]? = some d) (q : k.nx ((G.set j (.m (es.eraseIdx n))).set i (.m (ds ++ [d])))) (hij : i ≠ j) (hl : ds.length ≤ 90000) (hl2 : es.length ≤ 90000) (hG : G[i]? = some (.m ds) := by rfl) (hG2 : G[j]? = some (.m es) := by rfl)
    (hn : NmV X i x := by first | exact ⟨rfl, Or.inl rfl, rfl, rfl⟩ | exact ⟨rfl, Or.inr (Or.inl rfl), rfl, rfl⟩) (hn2 : NmV X j y := by first | exact ⟨rfl, Or.inl rfl, rfl, rfl⟩ | exact ⟨rfl, Or.inr (Or.inl rfl), rfl, rfl⟩)
    (mc : MC X (.Name x p) "append" apos (.Call (.Attribute (.Name y p2) "pop" apos2) [e] [] cpos2) [] cpos := by exact ⟨rfl, rfl, rfl, rfl, rfl⟩) (mc2 : MC X (.Name y p2) "pop" apos2 e [] cpos2 := by exact ⟨rfl, rfl, rfl, rfl, rfl⟩)
    (hs : swapsWith (.Call (.Attribute (.Name x p) "append" apos) [.Call (.Attribute (.Name y p2) "pop" apos2) [e] [] cpos2] [] cpos) none pos.line X.env = pure false := by rfl) :
    S1 g X G (.Expr (.Call (.Attribute (.Name x p) "append" apos) [.Call (.Attribute (.Name y p2) "pop" apos2) [e] [] cpos2] [] cpos) pos) k := fun B F H σ ow ok bk F1 s1 => by
  refine ws_of (ps_expr (pe_bm PySem.F.plainAttrs_list PySem.F.slot_list_append PySem.F.type_list_append mt_append (pe_nm hn) (pa_cons (pe_bm PySem.F.plainAttrs_list PySem.F.slot_list_pop PySem.F.type_list_pop mt_popAt (pe_nm hn2) (pa_cons pe_we pa_nil mc2.star) mc2.base mc2.few mc2.line mc2.star mc2.plain) pa_nil mc.star) mc.base mc.few mc.line mc.star mc.plain) hs) ?_
  obtain ⟨h1, h2, xs, h3, h4⟩ := ok.own hG
  obtain ⟨f1, f2, ys, f3, f4⟩ := ok.own hG2
  refine ⟨_, h1, ty_lst h3, _, f1, ty_lst f3, ?_⟩
  refine he F H σ ow ok _ fun v F2 H2 u r => ?_
  have ok2 := ok.up u
  have bk2 := bk.go u
  have g3 := u.ext _ _ f3 nt_lst
  have g4 := RepL.mono u.sub _ _ f4
  obtain ⟨w, w1, w2⟩ := g4.at_ hm
  have hn3 : n < es.length := (List.getElem?_eq_some_iff.mp hm).1
  obtain ⟨k1, b1⟩ := mut_lst ok2 bk2 hG2 g3 (g4.erase n)
  have hG' : (G.set j (.m (es.eraseIdx n)))[i]? = some (.m ds) := by rw [List.getElem?_set_ne (Ne.symm hij)]; exact hG
  obtain ⟨z1, z2, zs, z3, z4⟩ := k1.own hG'
  refine ⟨ow j, ys, n, n, w, rfl, by rw [of_int r], g3, by omega, by omega, ?_, w1, ?_⟩
  · have e := (ixN_seq (n := ys.length) (i := (n : Int)) (j := n) (by unfold ixN; rw [if_pos (by omega), if_pos (by rw [g4.len]; omega)]; simp)).1
    exact e
  · obtain ⟨k3, b3⟩ := mut_lst k1 b1 hG' z3 (z4.app (repL_cons w2 repL_nil))
    exact ⟨ow i, zs, w, rfl, rfl, z3, Nat.lt_of_le_of_lt (by rw [z4.len]; exact hl) (by decide : 90000 < sizeLine), _, F2, ow, q, k3, b3, s1.trans u.sub⟩
/-- x.insert(e1, e2) -/
theorem s_insert (i : Nat) {n : Int} {d : D} (h1 : EvD g X G e1 (.int n)) (h2 : EvD g X G e2 d) (hn0 : 0 ≤ n ∧ n ≤ 100000) (q : k.nx (G.set i (.m (ds.take n.toNat ++ [d] ++ ds.drop n.toNat)))) (hl : ds.length ≤ 90000) (hG : G[i]? = some (.m ds) := by rfl)
    (hn : NmV X i x := by first | exact ⟨rfl, Or.inl rfl, rfl, rfl⟩ | exact ⟨rfl, Or.inr (Or.inl rfl), rfl, rfl⟩)
    (mc : MC X (.Name x p) "insert" apos e1 [e2] cpos := by exact ⟨rfl, rfl, rfl, rfl, rfl⟩) (mc2 : starEach [e2] X.env = (false, eval e2 X.env) :: starEach [] X.env := by rfl) (hs : swapsWith (.Call (.Attribute (.Name x p) "insert" apos) [e1, e2] [] cpos) none pos.line X.env = pure false := by rfl) :
    S1 g X G (.Expr (.Call (.Attribute (.Name x p) "insert" apos) [e1, e2] [] cpos) pos) k := fun B F H σ ow ok bk F1 s1 => by
  refine ws_of (ps_expr (pe_bm PySem.F.plainAttrs_list PySem.F.slot_list_insert PySem.F.type_list_insert mt_insert (pe_nm hn) (pa_cons pe_we (pa_cons pe_we pa_nil mc2) mc.star) mc.base mc.few mc.line mc.star mc.plain) hs) ?_
  obtain ⟨f1, f2, xs, f3, f4⟩ := ok.own hG
  refine ⟨_, f1, ty_lst f3, ?_⟩
  refine h1 F H σ ow ok _ fun v F2 H2 u r => ?_
  refine h2 F2 H2 σ ow (ok.up u) _ fun w F3 H3 u2 r2 => ?_
  have u3 := u.trans u2
  have h5 := u3.ext _ _ f3 nt_lst
  have h6 := RepL.mono u3.sub _ _ f4
  obtain ⟨k1, b1⟩ := mut_lst (ok.up u3) (bk.go u3) hG h5 (((h6.take n.toNat).app (repL_cons r2 repL_nil)).app (h6.drop n.toNat))
  refine ⟨ow i, xs, n, w, rfl, by rw [of_int r], h5, Nat.lt_of_le_of_lt (by rw [f4.len]; exact hl) (by decide : 90000 < sizeLine), by omega, by omega, _, F3, ow, q, k1, b1, s1.trans u3.sub⟩
/-- x.reverse(), x.clear() -/
theorem s_reverse (i : Nat) (q : k.nx (G.set i (.m ds.reverse))) (hG : G[i]? = some (.m ds) := by rfl) (hn : NmV X i x := by first | exact ⟨rfl, Or.inl rfl, rfl, rfl⟩ | exact ⟨rfl, Or.inr (Or.inl rfl), rfl, rfl⟩)
    (hb : attributeBase (.Name x p) "reverse" X.env (eval (.Name x p) X.env) = eval (.Name x p) X.env := by rfl) (hline : (apos.endLine == cpos.line) = true := by rfl) (hs : swapsWith (.Call (.Attribute (.Name x p) "reverse" apos) [] [] cpos) none pos.line X.env = pure false := by rfl) :
    S1 g X G (.Expr (.Call (.Attribute (.Name x p) "reverse" apos) [] [] cpos) pos) k := fun B F H σ ow ok bk F1 s1 => by
  refine ws_of (ps_expr (pe_bm0 PySem.F.plainAttrs_list PySem.F.slot_list_reverse PySem.F.type_list_reverse mt_reverse (pe_nm hn) hb hline) hs) ?_
  obtain ⟨h1, h2, xs, h3, h4⟩ := ok.own hG
  obtain ⟨k1, b1⟩ := mut_lst ok bk hG h3 h4.rev
  exact ⟨_, h1, ty_lst h3, ow i, xs, rfl, rfl, h3, _, F, ow, q, k1, b1, s1⟩
theorem s_clear (i : Nat) (q : k.nx (G.set i (.m []))) (hG : G[i]? = some (.m ds) := by rfl) (hn : NmV X i x := by first | exact ⟨rfl, Or.inl rfl, rfl, rfl⟩ | exact ⟨rfl, Or.inr (Or.inl rfl), rfl, rfl⟩)
    (hb : attributeBase (.Name x p) "clear" X.env (eval (.Name x p) X.env) = eval (.Name x p) X.env := by rfl) (hline : (apos.endLine == cpos.line) = true := by rfl) (hs : swapsWith (.Call (.Attribute (.Name x p) "clear" apos) [] [] cpos) none pos.line X.env = pure false := by rfl) :
    S1 g X G (.Expr (.Call (.Attribute (.Name x p) "clear" apos) [] [] cpos) pos) k := fun B F H σ ow ok bk F1 s1 => by
  refine ws_of (ps_expr (pe_bm0 PySem.F.plainAttrs_list PySem.F.slot_list_clear PySem.F.type_list_clear mt_clear (pe_nm hn) hb hline) hs) ?_
  obtain ⟨h1, h2, xs, h3, h4⟩ := ok.own hG
  obtain ⟨k1, b1⟩ := mut_lst ok bk hG h3 repL_nil
  exact ⟨_, h1, ty_lst h3, ow i, xs, rfl, rfl, h3, _, F, ow, q, k1, b1, s1⟩
/-- f(..).clear(): a list that has just come -/
theorem s_clearNew (h : Ev g X G o (.m ds)) (q : k.nx G) (hb : attributeBase o "clear" X.env (eval o X.env) = eval o X.env := by rfl) (hline : (apos.endLine == cpos.line) = true := by rfl) (hs : swapsWith (.Call (.Attribute o "clear" apos) [] [] cpos) none pos.line X.env = pure false := by rfl) :
    S1 g X G (.Expr (.Call (.Attribute o "clear" apos) [] [] cpos) pos) k := fun B F H σ ow ok bk F1 s1 => by
  refine ws_of (ps_expr (pe_bm0 PySem.F.plainAttrs_list PySem.F.slot_list_clear PySem.F.type_list_clear mt_clear pe_we hb hline) hs) ?_
  refine h F H σ ow ok _ fun v F2 H2 u r => ?_
  obtain ⟨l, xs, rfl, hf, h1, h2, h3⟩ := r
  have u2 : Up g F H F2 (upd H2 l (.lst [])) := ⟨fun b o e n => by
    rw [upd_ne (hf.ne e n)]
    exact u.ext b o e n, u.sub, u.grow, fit_mut u.fit h2 h1 nt_lst ne_ext_lst⟩
  exact ⟨ty_lst h1, l, xs, rfl, rfl, h1, G, F2, ow, q, ok.up u2, bk.go u2, s1.trans u.sub⟩
/-- x[e1] = e, x a list of the frame's own -/
theorem s_setIx (i : Nat) {n : Nat} {d : D} (he : EvD g X G e d) (h1 : EvD g X G e1 (.int n)) (hn0 : n < ds.length) (q : k.nx (G.set i (.m (ds.set n d)))) (hG : G[i]? = some (.m ds) := by rfl)
    (hn : NmV X i x := by first | exact ⟨rfl, Or.inl rfl, rfl, rfl⟩ | exact ⟨rfl, Or.inr (Or.inl rfl), rfl, rfl⟩)
    (ha : ∀ v, assign (.Subscript (.Name x p) e1 p2) X.env v = (do
      let ov ← holding [v] (eval (.Name x p) X.env)
      let iv ← holding [v, ov] (eval e1 X.env)
      standAt p2
      holding [v, ov, iv] (setItem ov iv v)
      release [v, ov, iv] []) := by intro _; rfl)
    (hs : swapsWithSole [.Subscript (.Name x p) e1 p2] e pos.line X.env = pure false := by rfl) (hw : swappedStores [.Subscript (.Name x p) e1 p2] e X.env = pure none := by rfl) (h3 : (assignEach [.Subscript (.Name x p) e1 p2] X.env).map (·.2) = [assign (.Subscript (.Name x p) e1 p2) X.env] := by rfl) :
    S1 g X G (.Assign [.Subscript (.Name x p) e1 p2] e pos) k := fun B F H σ ow ok bk F1 s1 => by
  refine ws_of (ps_asg pe_we (pg_sub (pe_nm hn) pe_we set_list ha) hs hw h3) ?_
  refine he F H σ ow ok _ fun v F2 H2 u r => ?_
  obtain ⟨f1, f2, xs, f3, f4⟩ := (ok.up u).own hG
  refine ⟨_, f1, ?_⟩
  refine h1 F2 H2 σ ow (ok.up u) _ fun w F3 H3 u2 r2 => ?_
  have u3 := u.trans u2
  have h5 := u2.ext _ _ f3 nt_lst
  have h6 := RepL.mono u2.sub _ _ f4
  obtain ⟨k1, b1⟩ := mut_lst (ok.up u3) (bk.go u3) hG h5 (h6.set n (Rep.mono u2.sub _ _ r))
  refine ⟨ow i, xs, n, n, rfl, of_int r2, h5, ?_, _, F3, ow, q, k1, b1, s1.trans u3.sub⟩
  unfold ixN
  rw [if_pos (by omega), if_pos (by rw [h6.len]; omega)]
  simp

/-! ### dicts of the frame's own: keys ints -/
theorem ev_dnew : Ev g X G (.Dict [] [] pos) (.dc []) := fun F H σ ow k Q q => we_of pe_dnewK fun l hl => q _ F _ (up_new k.fit hl) ⟨l, rfl, Fresh.of hl, upd_same, k.fit.low.free hl⟩
theorem put_dkv : ∀ (kvs : List (Int × V)) (n : Int) (v : V), putK (dkv kvs) (Sum.inl n : Key) v = dkv (if kvs.any (fun p => decide (p.1 = n)) = true then kvs.map (fun p => if p.1 = n then (n, v) else p) else kvs ++ [(n, v)]) := by
  intro kvs n v
  have hany : ((dkv kvs).any fun kv => decide (kv.1 = (Sum.inl n : Key))) = kvs.any (fun p => decide (p.1 = n)) := by
    unfold dkv
    rw [List.any_map]
    congr 1
    funext p
    show decide ((Sum.inl p.1 : Key) = Sum.inl n) = decide (p.1 = n)
    by_cases h : p.1 = n
    · rw [decide_eq_true h, decide_eq_true (congrArg Sum.inl h)]
    · rw [decide_eq_false h, decide_eq_false fun z => h (Sum.inl.inj z)]
  unfold putK
  rw [hany]
  split
  · unfold dkv
    rw [List.map_map, List.map_map]
    congr 1
    funext p
    show (if (Sum.inl p.1 : Key) = Sum.inl n then ((Sum.inl p.1 : Key), v) else (Sum.inl p.1, p.2)) = ((Sum.inl (if p.1 = n then (n, v) else p).1 : Key), (if p.1 = n then (n, v) else p).2)
    by_cases h : p.1 = n
    · rw [if_pos (congrArg Sum.inl h), if_pos h, h]
    · rw [if_neg fun z => h (Sum.inl.inj z), if_neg h]
  · unfold dkv
    rw [List.map_append] <;> rfl
/-- d[e1] = e, the key a new one -/
theorem s_dput (i : Nat) {kvs : List (Int × V)} {n : Int} {d : D} {w : V} (hu : X.A.units + 1 < cLine) (he : EvD g X G e d) (hw : d.fl = some w) (h1 : EvD g X G e1 (.int n)) (hn0 : ∀ p ∈ kvs, p.1 ≠ n) (hl : kvs.length ≤ 90000) (q : k.nx (G.set i (.dc (kvs ++ [(n, w)])))) (hG : G[i]? = some (.dc kvs) := by rfl)
    (hn : NmV X i x := by first | exact ⟨rfl, Or.inl rfl, rfl, rfl⟩ | exact ⟨rfl, Or.inr (Or.inl rfl), rfl, rfl⟩) (hs : swapsWith e (some (.Subscript (.Name x p) e1 p2)) pos.line X.env = pure false := by rfl) : S1 g X G (.Assign [.Subscript (.Name x p) e1 p2] e pos) k := fun B F H σ ow ok bk F1 s1 => by
  refine ws_of (ps_dput hu (pe_nm hn) pe_we pe_we hs) ?_
  refine he F H σ ow ok _ fun v F2 H2 u r => ?_
  obtain ⟨f1, f2, f3⟩ := (ok.up u).ownD hG
  refine ⟨_, f1, ?_⟩
  refine h1 F2 H2 σ ow (ok.up u) _ fun y F3 H3 u2 r2 => ?_
  have u3 := u.trans u2
  have h5 := u2.ext _ _ f3 nt_dK
  have e3 : (kvs.any fun p => decide (p.1 = n)) = false := by
    cases z : (kvs.any fun p => decide (p.1 = n)) with
    | false => rfl
    | true =>
      obtain ⟨p, hp, hz⟩ := List.any_eq_true.mp z
      exact absurd (of_decide_eq_true hz) (hn0 p hp)
  have ev : v = w := (fl_rep hw r).1
  obtain ⟨k1, b1⟩ := mut_dct (es := kvs ++ [(n, w)]) (ok.up u3) (bk.go u3) hG h5
  refine ⟨ow i, upd H3 (ow i) (.dK (dkv (kvs ++ [(n, w)]))), rfl, ?_, _, F3, ow, q, k1, b1, s1.trans u3.sub⟩
  have e4 := put_dkv kvs n w
  rw [e3] at e4
  rw [of_int r2, ev]
  have e5 := DPut.k (k := (Sum.inl n : Key)) (v := w) h5 (by unfold dkv; rw [List.length_map]; exact Nat.lt_of_le_of_lt hl (by decide))
  rw [e4] at e5
  exact e5
theorem val_dkv (kvs : List (Int × V)) (n : Int) : valV (dkv kvs) (Sum.inl n : Key) = (kvs.find? fun p => decide (p.1 = n)).map (·.2) := by
  induction kvs with
  | nil => rfl
  | cons p r ih =>
    show valV (((Sum.inl p.1 : Key), p.2) :: dkv r) (Sum.inl n) = _
    by_cases h : p.1 = n
    · rw [valV_pos (congrArg Sum.inl h), List.find?_cons, decide_eq_true h] <;> rfl
    · rw [valV_neg (fun z => h (Sum.inl.inj z)), ih, List.find?_cons, decide_eq_false h]
theorem isSome_dkv (kvs : List (Int × V)) (n : Int) : (valV (dkv kvs) (Sum.inl n : Key)).isSome = kvs.any fun p => decide (p.1 = n) := by
  induction kvs with
  | nil => rfl
  | cons p r ih =>
    show (valV (((Sum.inl p.1 : Key), p.2) :: dkv r) (Sum.inl n)).isSome = _
    by_cases h : p.1 = n
    · rw [valV_pos (congrArg Sum.inl h), List.any_cons, decide_eq_true h] <;> rfl
    · rw [valV_neg (fun z => h (Sum.inl.inj z)), ih, List.any_cons, decide_eq_false h, Bool.false_or]
def flD : V → Option D
  | .non => some .non
  | .bl b => some (.bl b)
  | .int i => some (.int i)
  | .str x => some (.str x)
  | _ => none
theorem rep_fl {F : Hp} {v : V} {d : D} (h : flD v = some d) : Rep g F d v := by
  cases v with
  | non => cases h; exact .non
  | bl b => cases h; exact .bl b
  | int b => cases h; exact .int b
  | str b => cases h; exact .str b
  | _ => cases h
/-- e1 in d, e1 not in d, d[e1], d a dict of the frame's own -/
theorem et_dnotin (i : Nat) {kvs : List (Int × V)} {n : Int} (hu : X.A.units + 1 < cLine) (h1 : EvD g X G e1 (.int n)) (hG : G[i]? = some (.dc kvs) := by rfl) (hn : NmV X i x := by first | exact ⟨rfl, Or.inl rfl, rfl, rfl⟩ | exact ⟨rfl, Or.inr (Or.inl rfl), rfl, rfl⟩) (hm : behindInMarks .NotIn (.Name x p) = false := by rfl) :
    EvT g X G (.Compare e1 [.NotIn] [.Name x p] pos) (!(kvs.any fun p => decide (p.1 = n))) := by
  intro F H σ ow ok Q q
  refine wt_of (pt_cmp (pc_dnotin hu pe_we (pe_nm hn)) hm) ?_
  refine h1 F H σ ow ok _ fun v F2 H2 u r => ?_
  obtain ⟨f1, f2, f3⟩ := (ok.up u).ownD hG
  refine ⟨_, f1, ow i, valV (dkv kvs) (Sum.inl n), rfl, by rw [of_int r]; exact DGet.k (k := Sum.inl n) f3, _, rfl, ?_⟩
  rw [isSome_dkv]
  exact q F2 H2 u
theorem et_dict (i : Nat) {kvs : List (Int × V)} (hG : G[i]? = some (.dc kvs) := by rfl) (hn : NmV X i x := by first | exact ⟨rfl, Or.inl rfl, rfl, rfl⟩ | exact ⟨rfl, Or.inr (Or.inl rfl), rfl, rfl⟩)
    (he : ∀ whole, isTrue (.Name x p) X.env whole = (do let v ← whole; standAt (Expr.Name x p).pos; holding [v] (truthy v)) := by intro _; rfl) : EvT g X G (.Name x p) (!kvs.isEmpty) := by
  intro F H σ ow ok Q q
  refine wt_of (pt_truth (pe_nm hn) he) ?_
  obtain ⟨f1, f2, f3⟩ := ok.ownD hG
  refine ⟨_, f1, !kvs.isEmpty, Or.inr (Or.inr ⟨_, f3, ?_⟩), q F H (Up.refl ok.fit)⟩
  unfold dkv
  cases kvs <;> rfl
/-- sorted(d): the keys -/
theorem ev_sortedD (i : Nat) {kvs : List (Int × V)} (fr : Free X.mg) (hc : X.calm = true) (hl : kvs.length < 64) (hG : G[i]? = some (.dc kvs) := by rfl) (hn : NmV X i x := by first | exact ⟨rfl, Or.inl rfl, rfl, rfl⟩ | exact ⟨rfl, Or.inr (Or.inl rfl), rfl, rfl⟩) (hg : Gl X "sorted" := by rfl)
    (he : starEach [.Name x p] X.env = (false, eval (.Name x p) X.env) :: starEach [] X.env := by rfl) : Ev g X G (.Call (.Name "sorted" p2) [.Name x p] [] pos) (.m (((kvs.map (·.1)).mergeSort fun a b => decide (a ≤ b)).map D.int)) := by
  intro F H σ ow ok Q q
  refine we_of (pe_callB (call_sortedDI hc) hg fr.sorted (by decide +kernel) (pa_cons (pe_nm hn) pa_nil he) (he := he) (hpl := rfl)) ?_
  obtain ⟨f1, f2, f3⟩ := ok.ownD hG
  refine ⟨_, f1, ow i, dkv kvs, kvs.map (·.1), rfl, .inl f3, ?_, by rw [List.length_map]; exact hl, fun ys l hp hs hl => ?_⟩
  · unfold dkv
    rw [List.map_map, List.map_map] <;> rfl
  · rw [sorted_is hp hs]
    exact rt_new ok.fit (repL_ints _) q hl
end

/-! ### a def by its body -/
def G0 (N : List Str) (ds : List D) : List Sl := ds.map Sl.v ++ List.replicate (N.length - ds.length) Sl.un
def kRet (r : Sl) : KE := { nx := fun _ => r = .v .non, rt := fun s => s = r }
theorem ok_start {g : Gb} {N : List Str} {ds : List D} {F H : Hp} {vs : List V} (hr : RepL g F ds vs) (f : Fit g F H) : Ok g (G0 N ds) F H (L2.start N vs) (fun _ => 0) := by
  have hown : ∀ (i : Nat) (s : Sl), (G0 N ds)[i]? = some s → s.owned = false := fun i s e => by
    have hm : s ∈ G0 N ds := List.mem_of_getElem? e
    unfold G0 at hm
    rcases List.mem_append.mp hm with h | h
    · obtain ⟨d, _, rfl⟩ := List.mem_map.mp h
      rfl
    · rw [List.eq_of_mem_replicate h]
      rfl
  refine ⟨f, ?_, fun i s e => ?_, fun i j s t e _ w _ _ => ?_⟩
  · unfold L2.start G0
    rw [List.length_append, List.length_append, List.length_map, List.length_map, List.length_replicate, List.length_replicate, hr.len]
  · unfold L2.start
    unfold G0 at e
    by_cases hi : i < ds.length
    · rw [List.getElem?_append_left (by rw [List.length_map]; exact hi), List.getElem?_map] at e
      cases z : ds[i]? with
      | none =>
        rw [z] at e
        cases e
      | some d =>
        rw [z] at e
        obtain ⟨v, h1, h2⟩ := hr.at_ z
        have e' : Sl.v d = s := Option.some.inj e
        subst e'
        refine ⟨some v, ?_, v, rfl, h2⟩
        rw [List.getElem?_append_left (by rw [List.length_map, hr.len]; exact hi), List.getElem?_map, h1] <;> rfl
    · rw [List.getElem?_append_right (by rw [List.length_map]; omega)] at e
      have hm := List.eq_of_mem_replicate (List.mem_of_getElem? e)
      subst hm
      have hlt : i < (vs.map some ++ List.replicate (N.length - vs.length) (none : Option V)).length := by
        have h9 := (List.getElem?_eq_some_iff.mp e).1
        rw [List.length_replicate, List.length_map] at h9
        rw [List.length_append, List.length_map, List.length_replicate, hr.len]
        omega
      exact ⟨_, List.getElem?_eq_getElem hlt, True.intro⟩
  · rw [hown i s e] at w
    cases w
theorem run_body {g : Gb} {X : Cx} {N : List Str} {ds : List D} {body : List Stmt} {r : Sl} (h : Ss g X (G0 N ds) body (kRet r)) {F H : Hp} {vs : List V} {Q : VK} (hr : RepL g F ds vs) (f : Fit g F H) (q : ∀ v F' H', Up g F H F' H' → RtOk g F' H H' r v → Q v H') :
    WSs X body { nx := fun _ H' => Q .non H', rt := Q } (L2.start N vs) H := by
  have q0 := h (F, H) F H (L2.start N vs) _ (ok_start hr f) ⟨Up.refl f, fun i s e w => ?_⟩ F (Sub.refl F)
  · refine WSs.imp q0 (fun σ H2 z => ?_) (fun v H2 z => ?_) (fun σ H2 z => ?_) (fun σ H2 z => ?_)
    · obtain ⟨G, F2, ow, e, ok, bk, _⟩ := z
      have e' : r = .v .non := e
      subst e'
      exact q _ F2 H2 bk.up rep_non
    · obtain ⟨s, F2, e, u, r2⟩ := z
      have e' : s = r := e
      subst e'
      exact q v F2 H2 u r2
    · obtain ⟨_, _, _, z, _⟩ := z
      exact z.elim
    · obtain ⟨_, _, _, z, _⟩ := z
      exact z.elim
  · have hm : s ∈ G0 N ds := List.mem_of_getElem? e
    unfold G0 at hm
    rcases List.mem_append.mp hm with h | h
    · obtain ⟨d, _, rfl⟩ := List.mem_map.mp h
      cases w
    · rw [List.eq_of_mem_replicate h] at w
      cases w
abbrev FnP (K : PySem.W.Frag) (x qual : Str) (st : Stmt) (f : Addr) (fd : FuncData) : Prop := FunD K x qual (defArgs st) (defBody st) (defScope st) [] [] f fd
section
variable {P : Program} {w : World} {g : Gb} {mg : Str → Option Value} {base : Heap} {x qual : Str} {st : Stmt} {f : Addr} {fd : FuncData} {N ps : List Str} {k : Nat} {R : List D → Sl → Prop}
theorem fn_by (F : FnP g.K x qual st f fd) (S : FnScope N ps (defScope st)) (hlen : ∀ ds r, R ds r → ds.length = ps.length)
    (hb : ∀ ds r (cdv : Value) (A : Around) (outer : List Env) (s : Shared) (H : Hp) (E : XK), R ds r → Room k (A.deeper (PyProof.Rows.envOfC qual (defScope st) s.heap.objs.size f cdv)) →
      Ss g (cxOf CX0 P w g.K mg base N qual (defScope st) f cdv A outer s H E).nox (G0 N ds) (defBody st) (kRet r)) : FnOk P w g.K mg base CX0 (k + 1) f fd ps (Prom g R) := by
  refine F.ok S (fun vs H Q E h => ?_) (fun cdv A outer s H vs Q E hr h => ?_)
  · obtain ⟨ds, r, F, hR, r1, _⟩ := h
    rw [r1.len]
    exact hlen ds r hR
  · obtain ⟨ds, r, F, hR, r1, f1, q⟩ := h
    exact ⟨_, PSs.nox (pss_wss (X := (cxOf CX0 P w g.K mg base N qual (defScope st) f cdv A outer s H E).nox)), run_body (hb ds r cdv A outer s H E hR hr) r1 f1 q⟩
/-- a def of the module, by its body -/
theorem cal_by (F : FnP g.K x x st f fd) (S : FnScope N ps (defScope st)) (hm : mg x = some (.ref f)) (hbi : ∀ (kV doc pm : Value) (an : Option Addr) (cdv ct : Value) (us : List Value), us.length = ps.length → bindArgs (PySem.W.fnOf x x (defArgs st) (defBody st) (defScope st) .none kV doc pm an cdv ct) ⟨us, []⟩ = pure (ps.zip us))
    (hlen : ∀ ds r, R ds r → ds.length = ps.length)
    (hb : ∀ ds r (cdv : Value) (A : Around) (outer : List Env) (s : Shared) (H : Hp) (E : XK), R ds r → Room k (A.deeper (PyProof.Rows.envOfC x (defScope st) s.heap.objs.size f cdv)) →
      Ss g (cxOf CX0 P w g.K mg base N x (defScope st) f cdv A outer s H E).nox (G0 N ds) (defBody st) (kRet r)) : Cal P w g mg base x (k + 1) R :=
  ⟨f, fd, ps, fn_by F S hlen hb, hm, F.kp, F.bindsN hbi⟩
/-- a method of House, by its body -/
theorem mcal_by (F : FnP g.K x qual st f fd) (S : FnScope N ps (defScope st)) (hm : Meth g.K g.C x f) (hbi : ∀ (kV doc pm : Value) (an : Option Addr) (cdv ct : Value) (us : List Value), us.length = ps.length → bindArgs (PySem.W.fnOf x qual (defArgs st) (defBody st) (defScope st) .none kV doc pm an cdv ct) ⟨us, []⟩ = pure (ps.zip us))
    (hlen : ∀ ds r, R ds r → ds.length = ps.length)
    (hb : ∀ ds r (cdv : Value) (A : Around) (outer : List Env) (s : Shared) (H : Hp) (E : XK), R ds r → Room k (A.deeper (PyProof.Rows.envOfC qual (defScope st) s.heap.objs.size f cdv)) →
      Ss g (cxOf CX0 P w g.K mg base N qual (defScope st) f cdv A outer s H E).nox (G0 N ds) (defBody st) (kRet r)) : MCal P w g mg base x (k + 1) R :=
  ⟨f, fd, ps, fn_by F S hlen hb, hm, F.bindsN hbi⟩
theorem Cal.mono {j : Nat} (C : Cal P w g mg base x j R) (h : j ≤ k) : Cal P w g mg base x k R := by
  obtain ⟨f, fd, ps, a, b⟩ := C
  exact ⟨f, fd, ps, a.mono h, b⟩
theorem Cal.imp {R' : List D → Sl → Prop} (C : Cal P w g mg base x k R) (h : ∀ ds r, R' ds r → R ds r) : Cal P w g mg base x k R' := by
  obtain ⟨f, fd, ps, a, b⟩ := C
  exact ⟨f, fd, ps, a.imp fun vs H Q E ⟨ds, r, F, h1, h2⟩ => ⟨ds, r, F, h ds r h1, h2⟩, b⟩
end
end CH

/-! Choosehall: sorted(able, key=lambda comer: -self.points[comer]). -/
namespace CH
open PySem L2

abbrev lamBody (p1 p2 p3 p4 p5 : Pos) : Expr := .UnaryOp .USub (.Subscript (.Attribute (.Name "self" p1) "points" p2) (.Name "comer" p3) p4) p5
abbrev lamScope : Scope := { kind := .function, names := [("comer", .local), ("self", .free)], isGenerator := false, isCoroutine := false, more := [] }
abbrev lamArgs (q : Pos) : Arguments := { posonlyargs := [], args := [{ arg := "comer", annotation := none, pos := q }], vararg := none, kwonlyargs := [], kw_defaults := [], kwarg := none, defaults := [] }

theorem lam_nc : ∀ y ∈ lamScope.names, y.2 ≠ NameKind.cell := by decide +kernel
section
variable {X : Cx} {pins : List (Addr × Obj)} {σ : St} {H : Hp} {s : Shared}
/-- the key, asked of one comer -/
theorem lam_key (I : Inv X pins σ H s) {qual : Str} {pm ctv : Value} {C f c' cs a dx p : Addr} {fs : List (Str × V)} {zs : List V} {p1 p2 p3 p4 p5 q : Pos}
    (hf : s.heap.get? f = some (PySem.W.kla_obj "<lambda>" qual (lamArgs q) (lamBody p1 p2 p3 p4 p5) lamScope (cloFrom X.env.cells lamScope.names []) pm c' ctv)) (hco : H c' = some (LamX.CodeO c' qual))
    (hclo : (cloFrom X.env.cells lamScope.names []).lookup ("self" : Str) = some cs) (hcell : s.heap.IsCell cs (some (.ref a))) (ha : H a = some (.ins C dx fs)) (hc : Cls X.K C) (hn : NoAttr X.K C "points") (hp : fs.lookup ("points" : Str) = some (.ref p)) (hz : H p = some (.lst zs))
    {n : Nat} {x : Int} {t : Tok} (hx : zs[n]? = some (.int x)) {A : Around} (hA : A.depth < recursionLimit) {h : Heap} {tk : Nat} (k : ∀ b o, s.heap.get? b = some o → h.get? b = some o) :
    wpAny (model X.prog X.w) A (call (.ref f) [.int n t]) (PySem.W.KeyPure (.int (-x)) { s with heap := h, toks := tk }) (fun _ _ => False) { s with heap := h, toks := tk } := by
  obtain ⟨⟨oc, vs, tq, hoc, hdc, hvc⟩, _, _⟩ := I.hok c' _ hco
  obtain ⟨mA, O, ro, _, _, _⟩ := ins_get I.hok ha
  obtain ⟨u, hu, ru⟩ := RelO.some_of (v := V.ref p) (o := mA "points") (by rw [← hp]; exact ro "points")
  have ru' : u = Value.ref p := ru
  subst ru'
  obtain ⟨hlen, its, nn, rv, hpo⟩ := I.hok p _ hz
  obtain ⟨wv, hw1, hw2⟩ := rv.get hx
  obtain ⟨tx, rfl⟩ := hw2
  have hlt : n < zs.length := (List.getElem?_eq_some_iff.mp hx).1
  have hl63 := line63
  refine wpAny_call ?_
  refine PySem.W.kla_callFunE hA (k _ _ hf) rfl rfl rfl rfl ⟨c', oc, vs, tq, rfl, k _ _ hoc, hdc, hvc⟩ ?_
  have hbind : bindArgs (PySem.W.kla_fn "<lambda>" qual (lamArgs q) (lamBody p1 p2 p3 p4 p5) lamScope (cloFrom X.env.cells lamScope.names []) pm (.ref c') ctv) ⟨[.int n t], []⟩ = pure [(("comer" : Str), Value.int n t)] := rfl
  rw [hbind]
  refine wpAny_pure (wpAny_newFunctionEnv (fun y hy => ?_) (fun y hy => ?_) (fun h₁ hns hsb => ⟨(I.nolimit.keeps k).fresh _ hsb, ?_⟩) rfl)
  · exact lam_nc y hy
  · have e := List.mem_singleton.mp hy
    rw [e]
    rfl
  · show codeAny _ _ (.expr (lamBody p1 p2 p3 p4 p5) (PySem.W.envX qual lamScope h.objs.size f (.ref c') (cloFrom X.env.cells lamScope.names []))) _ _
    have k1 : ∀ b o, h.get? b = some o → h₁.get? b = some o := fun b o e => hsb.extBut b o (Nat.ne_of_lt (Heap.lt_size e)) (Heap.get?_push_of_some _ e)
    have k2 : ∀ b o, s.heap.get? b = some o → h₁.get? b = some o := fun b o e => k1 b o (k b o e)
    have KX : X.K.In h₁ := fun b o e => k2 b o (I.kIn b o e)
    have O1 : ObjM h₁ a dx C mA := ⟨k2 _ _ O.obj, O.ns.at fun o e => k2 _ _ e, O.ne⟩
    have hcell1 : h₁.IsCell cs (some (.ref a)) := by
      obtain ⟨o, ho, hd⟩ := hcell
      exact ⟨o, k2 _ _ ho, hd⟩
    refine PySem.W.kla_codeExpr ?_
    refine PyProof.Rows.UnaryOp_ (PyProof.Rows.Subscript_ (attr_of (by rfl) (wpAny_Name (wpAny_loadName_free (by rfl) (by rfl) hclo hcell1 ?_))))
    refine get_map (s := { s with heap := h₁, toks := tk + 1 }) KX O1 (hc.get _) hc.hd hn hu rfl ?_
    refine wpAny_Name (wpAny_loadName_local (by rfl) (by rfl) hns (v := .int n t) (by rfl) ?_)
    refine PyProof.Rows.item_listR (x := .int x tx) (items := its.toArray) (show PlainL h₁ p its.toArray from ⟨_, nn, k2 _ _ hpo, rfl, rfl, rfl⟩).isList (by omega) (by omega) (by simpa using hw1) ?_ (by with_unfolding_all rfl)
    refine PyProof.Rows.neg_int ?_
    exact ⟨h₁, _, rfl, k1, .int _ _⟩
end
/-- the points of a comer that has some -/
def ptOf (h : Hs) (x : Int) : Int := (h.pts.getD x.toNat none).getD 0
def byKey (h : Hs) (a b : Int) : Bool := decide (-ptOf h a ≤ -ptOf h b)
theorem each_ints : ∀ {l : List Int} {us : List Value}, Vals (l.map V.int) us → PySem.W.EachIs (fun v x => ∃ t, v = Value.int x t) us l
  | [], _, .nil => .nil
  | _ :: _, _, .cons r t => .cons r (each_ints t)
theorem vals_each : ∀ {us : List Value} {l : List Int}, PySem.W.EachIs (fun v x => ∃ t, v = Value.int x t) us l → Vals (l.map V.int) us
  | _, _, .nil => .nil
  | _, _, .cons r t => .cons r (vals_each t)
theorem lk_row {h : Hs} {p q r : Addr} : (flds h p q r).lookup ("row" : Str) = some (.ref r) := by
  unfold flds
  rw [lookup_putF, if_pos rfl]
theorem lk_kinds {h : Hs} {p q r : Addr} : (flds h p q r).lookup ("kinds" : Str) = some (.ref q) := by
  unfold flds
  rw [lookup_putF, if_neg (by decide +kernel), lookup_putF, if_pos rfl]
theorem lk_points {h : Hs} {p q r : Addr} : (flds h p q r).lookup ("points" : Str) = some (.ref p) := by
  unfold flds
  rw [lookup_putF, if_neg (by decide +kernel), lookup_putF, if_neg (by decide +kernel), lookup_putF, if_pos rfl]
theorem lk_opened {h : Hs} {p q r : Addr} : (flds h p q r).lookup ("opened" : Str) = some (.bl h.opened) := by
  unfold flds
  rw [lookup_putF, if_neg (by decide +kernel), lookup_putF, if_neg (by decide +kernel), lookup_putF, if_neg (by decide +kernel), lookup_putF, if_pos rfl]
theorem lk_kind {h : Hs} {p q r : Addr} : (flds h p q r).lookup ("kind" : Str) = some (.int h.kind) := by
  unfold flds
  rw [lookup_putF, if_neg (by decide +kernel), lookup_putF, if_neg (by decide +kernel), lookup_putF, if_neg (by decide +kernel), lookup_putF, if_neg (by decide +kernel), lookup_putF, if_pos rfl]
theorem lk_kept {h : Hs} {p q r : Addr} : (flds h p q r).lookup ("kept" : Str) = some (.int h.kept) := by
  unfold flds
  rw [lookup_putF, if_neg (by decide +kernel), lookup_putF, if_neg (by decide +kernel), lookup_putF, if_neg (by decide +kernel), lookup_putF, if_neg (by decide +kernel), lookup_putF, if_neg (by decide +kernel), lookup_putF, if_pos rfl]
theorem lk_seats {h : Hs} {p q r : Addr} : (flds h p q r).lookup ("seats" : Str) = some (.int h.seats) := by
  unfold flds
  rw [lookup_putF, if_neg (by decide +kernel), lookup_putF, if_neg (by decide +kernel), lookup_putF, if_neg (by decide +kernel), lookup_putF, if_neg (by decide +kernel), lookup_putF, if_neg (by decide +kernel), lookup_putF, if_neg (by decide +kernel), lookup_putF, if_pos rfl]
theorem lk_no {h : Hs} {p q r : Addr} {m : Str} (h1 : m ≠ "row") (h2 : m ≠ "kinds") (h3 : m ≠ "points") (h4 : m ≠ "opened") (h5 : m ≠ "kind") (h6 : m ≠ "kept") (h7 : m ≠ "seats") : (flds h p q r).lookup m = none := by
  unfold flds
  rw [lookup_putF, if_neg h1, lookup_putF, if_neg h2, lookup_putF, if_neg h3, lookup_putF, if_neg h4, lookup_putF, if_neg h5, lookup_putF, if_neg h6, lookup_putF, if_neg h7] <;> rfl
section
variable {g : Gb} {X : Cx} {G : List Sl} {e : Expr} {pos p kpos lpos p1 p2 p3 p4 p5 q0 : Pos}
theorem ev_sortedLam {h : Hs} {l : List Int} {c P : Addr} (hK : X.K = g.K) (fr : Free X.mg) (cl : Cls g.K g.C) (na : NoAttr g.K g.C "points") (TB : LamX.TabB X.base X.mg c P) (hcode : X.env.code = .ref c) (hT : g.T = [(P, X.env.qual ++ "<lambda>")]) (hr : Room 2 X.A)
    (hG : G[0]? = some (.v (.hs h))) (hs : X.N[0]? = some ("self" : Str)) (hcl : X.env.scope.names.lookup ("self" : Str) = some .cell) (he : EvD g X G e (.lst (l.map D.int))) (hl : l.length ≤ 90000) (hp : ∀ x ∈ l, ∃ (n : Nat) (z : Int), x = (n : Int) ∧ h.pts[n]? = some (some z)) (hg : Gl X "sorted" := by rfl)
    (hst : starEach [e] X.env = (false, eval e X.env) :: starEach [] X.env := by rfl) (hst2 : backTo pos (starEach [e] X.env) = (false, eval e X.env) :: backTo pos (starEach [] X.env) := by rfl) (hpl : (backTo pos (starEach [e] X.env)).any (·.1) = false := by rfl) :
    Ev g X G (.Call (.Name "sorted" p) [e] [⟨some "key", .Lambda (lamArgs q0) (lamBody p1 p2 p3 p4 p5) lamScope lpos, kpos⟩] pos) (.m ((l.mergeSort (byKey h)).map D.int)) := by
  intro F H σ ow ok Q q pins s I
  refine wpAny_Call_Name_kw (ld_blt (u := .builtin "sorted") I hg fr.sorted (by decide +kernel) ?_ (by decide) (by decide))
  refine PyProof.Rows.callWith_kw (thn ((pa_cons (X := X) pe_we pa_nil hst).run pos pins s σ H (fun vs H1 => ∃ v F1, vs = [v] ∧ Up g F H F1 H1 ∧ Rep g F1 (.lst (l.map D.int)) v) I (he F H σ ow ok _ fun v F1 H1 u r => ⟨v, F1, rfl, u, r⟩)) fun us s1 hq => ?_) hst2 hpl (by rfl) (by rfl)
  obtain ⟨vs, H1, I1, rv, v, F1, e1, u, r⟩ := hq
  obtain ⟨a1, xs, e2, f1, r1⟩ := of_lst r
  have e3 := ints_of r1
  subst e1 e2 e3
  have e4 := Vals.ref1 rv
  subst e4
  have ok1 := ok.up u
  obtain ⟨o, g1, v0, g2, g3⟩ := ok1.at_ 0 _ hG
  obtain ⟨a, g4, dx, pp, qq, rr, g5, g6, g7, g8⟩ := of_hs g3
  subst g2 g4
  obtain ⟨m, hn, hlk⟩ := id I1.loc
  obtain ⟨uu, hru, hlook⟩ := hlk 0 "self" (.ref a) hs g1 (Or.inr (Or.inl hcl))
  have hru' : uu = Value.ref a := hru
  subst hru'
  obtain ⟨cs, hcs⟩ : ∃ cs, X.env.cells.lookup ("self" : Str) = some cs := by
    rcases hlook with ⟨k1, _⟩ | ⟨_, cs, k1, _⟩
    · have k1' : X.env.scope.names.lookup ("self" : Str) = some .local := k1
      rw [hcl] at k1'
      cases k1'
    · exact ⟨cs, k1⟩
  show wpAny _ _ (evalAll ((do let v ← eval (.Lambda (lamArgs q0) (lamBody p1 p2 p3 p4 p5) lamScope lpos) X.env; standAt pos; pure v) :: [])) _ _ s1
  refine wpAny_evalAll_cons (wpAny_bind (LamX.lam_make2 (T := g.T) I1 TB hcode (by rw [hT]; exact List.mem_singleton.mpr rfl) (fun z hz _ => by rw [hT] at hz; rw [List.mem_singleton.mp hz]) u.fit.tab rfl (fun y hy hf => ?_) fun f c' pm ctv H2 s2 I2 eN T2 hf hfn hfr hco => wpAny_bind (wpAny_standAt (wpAny_pure (wpAny_evalAll_nil ?_)))))
  · rcases List.mem_cons.mp hy with z | z
    · rw [z] at hf
      cases hf
    · have z' := List.mem_singleton.mp z
      rw [z']
      exact ⟨cs, hcs⟩
  · show wpAny _ _ (call (.builtin "sorted") [.ref a1] [(Str.ofString "key", .ref f)]) _ _ s2
    have up2 : Up g F1 H1 F1 H2 := ⟨eN, Sub.refl F1, fun _ _ _ _ z => z, ⟨fun b o z => eN b o (u.fit.low b o z) (u.fit.nt b o z), u.fit.nt, T2⟩⟩
    obtain ⟨m2, hn2, hlk2⟩ := id I2.loc
    obtain ⟨uu2, hru2, hlook2⟩ := hlk2 0 "self" (.ref a) hs g1 (Or.inr (Or.inl hcl))
    have hru2' : uu2 = Value.ref a := hru2
    subst hru2'
    have hcell : s2.heap.IsCell cs (some (.ref a)) := by
      rcases hlook2 with ⟨k1, _⟩ | ⟨_, cs2, k1, k2⟩
      · have k1' : X.env.scope.names.lookup ("self" : Str) = some .local := k1
        rw [hcl] at k1'
        cases k1'
      · rw [hcs] at k1
        cases k1
        exact k2
    have low2 := up2.fit.low
    obtain ⟨its, rits, pl, hz⟩ := I2.list (SqL.of (low2 _ _ f1))
    have hA : X.A.in1.in1.depth < recursionLimit := (Room.in1 (Room.in1 hr)).depth
    refine PySem.W.sorted_key_data (β := Int) (b := false) (R := fun v x => ∃ t, v = Value.int x t) (fun x => .int (-ptOf h x)) pl.isList (each_ints rits) (PySem.W.AllAlike.of fun _ _ => by rfl) (PySem.W.Sortable.others fun _ => ⟨nofun, fun _ => nofun⟩) (by rw [List.length_map] at hz; exact hz)
      (fun x _ => ?_) (PyProof.Rows.ksk_s1 _ _) (fun _ => PyProof.Rows.ksk_l1 _ _) (fun _ => PyProof.Rows.ksk_t1 _ _) (fun v x hR hx h0 tk k0 => ?_) fun out cc h' tk k0 fresh hD hlen each => ?_
    · have := hr.units
      show X.A.units + 2 + 0 < cLine
      omega
    · obtain ⟨t, rfl⟩ := hR
      obtain ⟨n, z, e5, e6⟩ := hp x hx
      subst e5
      have e7 : ptOf h (n : Int) = z := by
        unfold ptOf
        rw [Int.toNat_natCast, List.getD_eq_getElem?_getD, e6] <;> rfl
      show wpAny _ _ _ (PySem.W.KeyPure (.int (-ptOf h (n : Int))) _) _ _
      rw [e7]
      have hclo : (cloFrom X.env.cells lamScope.names []).lookup ("self" : Str) = some cs := by
        show ([(("self" : Str), (X.env.cells.lookup ("self" : Str)).getD 0)] : List (Str × Addr)).lookup ("self" : Str) = some cs
        rw [hcs]
        rfl
      exact lam_key I2 hf hco hclo hcell (low2 _ _ g5) (by rw [hK]; exact cl) (by rw [hK]; exact na) lk_points (low2 _ _ g6) (by rw [List.getElem?_map, e6]; rfl) hA k0
    · have e8 : l.mergeSort (PySem.W.dataLe false fun x => .int (-ptOf h x)) = l.mergeSort (byKey h) := by
        rw [PySem.W.dataLe_int (fun x => -ptOf h x)]
        rfl
      rw [e8] at each
      have rv2 := vals_each each
      have hl2 : ((l.mergeSort (byKey h)).map V.int).length ≤ sizeLine := by
        rw [List.length_map, List.length_mergeSort]
        exact Nat.le_trans hl (by decide)
      have hfree := I2.hok.fresh (Nat.le_succ s2.heap.objs.size)
      refine ⟨.ref (s2.heap.objs.size + 1), upd H2 (s2.heap.objs.size + 1) (.lst ((l.mergeSort (byKey h)).map V.int)), I2.laid (t' := tk) k0 (Nat.le_succ _) ⟨hl2, out, cc, rv2, hD⟩, rfl, ?_⟩
      exact rt_new up2.fit (repL_ints _) (fun v F3 H3 u3 r3 => q v F3 H3 ((u.trans up2).trans u3) (r3.back (u.trans up2).ext)) hfree
end
end CH

/-! Choosehall: a House made; its attributes; a comprehension over a dict of the frame's own. -/
namespace CH
open PySem L2

open Classical in
/-- what House.__init__ promises -/
def spInit (g : Gb) : Sp := fun vs H Q _ => ∃ (p dx : Addr) (h : Hs) (a b c : Addr) (F : Hp), vs = [.ref p, .int h.seats, .int h.kept, .int h.kind, .bl h.opened, .ref a, .ref b, .ref c] ∧ H p = some (.ins g.C dx []) ∧
  F a = some (.lst (h.pts.map vOi)) ∧ F b = some (.lst (h.kinds.map V.int)) ∧ F c = some (.lst (h.row.map V.int)) ∧ Fit g F H ∧ F p = none ∧
  ∀ F' H', (∀ z o, H z = some o → z ≠ p → H' z = some o) → Sub F F' → Fit g F' H' → (∀ z o, H z = some o → z ≠ p → F z = none → F' z = none) → HsAt g (fun b => if H b = none ∨ b = p then F' b else none) h p → Q .non H'
def HCal (P : Program) (w : World) (g : Gb) (mg : Str → Option Value) (base : Heap) (k : Nat) : Prop :=
  ∃ (f : Addr) (fd : FuncData) (ps : List Str), FnOk P w g.K mg base CX0 k f fd ps (spInit g) ∧ Mk g.K g.C f ∧ Binds g.K fd ps [] ∧ mg "House" = some (.ref g.C)
theorem newHs_sub {H F' : Hp} {p : Addr} [∀ b, Decidable (H b = none ∨ b = p)] : Sub (fun b => if H b = none ∨ b = p then F' b else none) F' := fun b o e => by
  have e2 : (if H b = none ∨ b = p then F' b else none) = some o := e
  by_cases h : H b = none ∨ b = p
  · rw [if_pos h] at e2
    exact e2
  · rw [if_neg h] at e2
    cases e2
theorem ois_of {g : Gb} {F : Hp} {l : List (Option Int)} {xs : List V} (h : RepL g F (l.map D.oi) xs) : xs = l.map vOi := repL_of D.oi vOi (fun _ _ => of_oi) h
theorem repL_ois {g : Gb} {F : Hp} (l : List (Option Int)) : RepL g F (l.map D.oi) (l.map vOi) := repL_map D.oi vOi rep_oi l
def hsArgs (h : Hs) : List D := [.int h.seats, .int h.kept, .int h.kind, .bl h.opened, .lst (h.pts.map D.oi), .lst (h.kinds.map D.int), .lst (h.row.map D.int)]
section
variable {g : Gb} {X : Cx} {G : List Sl} {e o : Expr} {es : List Expr} {pos p apos : Pos} {k : Nat}
theorem ev_make {h : Hs} (hK : X.K = g.K) (C : HCal X.prog X.w g X.mg X.base k) (hr : Room (k + 1) X.A) (ha : EvA g X G (e :: es) (hsArgs h)) (hg : Gl X "House" := by rfl)
    (he : starEach (e :: es) X.env = (false, eval e X.env) :: starEach es X.env := by rfl) (hpl : (backTo pos (starEach es X.env)).any (·.1) = false := by rfl) : EvD g X G (.Call (.Name "House" p) (e :: es) [] pos) (.hs h) := by
  obtain ⟨f, fd, ps, F0, M, hb, hm⟩ := C
  intro F H σ ow ok Q q
  refine we_of (pe_make (X := X) (C := g.C) (by rw [hK]; exact M) (by rw [hK]; exact F0) hr hg hm (by rw [hK]; exact hb) .nil pass0 pa_wa (by decide) he hpl) ?_
  refine ha F H σ ow ok _ fun vs F1 H1 u r => ?_
  intro x dx hx hdx hne
  rw [List.append_nil]
  have r' : RepL g F1 [.int h.seats, .int h.kept, .int h.kind, .bl h.opened, .lst (h.pts.map D.oi), .lst (h.kinds.map D.int), .lst (h.row.map D.int)] vs := r
  obtain ⟨v1, w1, rfl, a1, r1⟩ := repL_inv r'
  obtain ⟨v2, w2, rfl, a2, r2⟩ := repL_inv r1
  obtain ⟨v3, w3, rfl, a3, r3⟩ := repL_inv r2
  obtain ⟨v4, w4, rfl, a4, r4⟩ := repL_inv r3
  obtain ⟨v5, w5, rfl, a5, r5⟩ := repL_inv r4
  obtain ⟨v6, w6, rfl, a6, r6⟩ := repL_inv r5
  obtain ⟨v7, w7, rfl, a7, r7⟩ := repL_inv r6
  have e7 := repL_inv0 r7
  subst e7
  obtain ⟨q5, x5, rfl, f5, s5⟩ := of_lst a5
  obtain ⟨q6, x6, rfl, f6, s6⟩ := of_lst a6
  obtain ⟨q7, x7, rfl, f7, s7⟩ := of_lst a7
  rw [of_int a1, of_int a2, of_int a3, of_bl a4]
  rw [ois_of s5] at f5
  rw [ints_of s6] at f6
  rw [ints_of s7] at f7
  have hold : ∀ z o, H1 z = some o → (upd (upd H1 dx (.own x)) x (.ins g.C dx [])) z = some o := fun z o e => by
    rw [upd_ne (ne_of_none e hx), upd_ne (ne_of_none e hdx)]
    exact e
  refine ⟨x, dx, h, q5, q6, q7, F1, rfl, upd_same, f5, f6, f7, ⟨fun z o e => hold z o (u.fit.low z o e), u.fit.nt, u.fit.tab.ext fun z o e => hold z o e⟩, u.fit.low.free hx, fun F2 H2 k1 k2 k3 k4 k5 => ⟨rfl, ?_⟩⟩
  refine q _ F2 H2 (u.trans ⟨fun z o e _ => k1 z o (hold z o e) (ne_of_none e hx), k2, fun z o e n f => k4 z o (hold z o e) (ne_of_none e hx) f, k3⟩) (.hs (k5.mono newHs_sub))

/-! ### attributes -/
theorem fld_seats (h : Hs) : FldIs "seats" h (.int h.seats) := fun _ _ _ _ _ _ _ _ => ⟨_, lk_seats, rep_int _⟩
theorem fld_kept (h : Hs) : FldIs "kept" h (.int h.kept) := fun _ _ _ _ _ _ _ _ => ⟨_, lk_kept, rep_int _⟩
theorem fld_kind (h : Hs) : FldIs "kind" h (.int h.kind) := fun _ _ _ _ _ _ _ _ => ⟨_, lk_kind, rep_int _⟩
theorem fld_opened (h : Hs) : FldIs "opened" h (.bl h.opened) := fun _ _ _ _ _ _ _ _ => ⟨_, lk_opened, rep_bl _⟩
theorem fld_points (h : Hs) : FldIs "points" h (.lst (h.pts.map D.oi)) := fun _ _ _ _ _ h1 _ _ => ⟨_, lk_points, rep_lst h1 (repL_ois _)⟩
theorem fld_kinds (h : Hs) : FldIs "kinds" h (.lst (h.kinds.map D.int)) := fun _ _ _ _ _ _ h1 _ => ⟨_, lk_kinds, rep_lst h1 (repL_ints _)⟩
theorem fld_row (h : Hs) : FldIs "row" h (.lst (h.row.map D.int)) := fun _ _ _ _ _ _ _ h1 => ⟨_, lk_row, rep_lst h1 (repL_ints _)⟩
end

/-! ### dicts of the frame's own, read -/
section
variable {g : Gb} {X : Cx} {G : List Sl} {e1 : Expr} {pos p p2 p3 p4 p5 p6 p7 p8 : Pos} {x y z : Str} {scope : Scope}
/-- d[e1] -/
theorem ev_dget (i : Nat) {kvs : List (Int × V)} {n : Int} {w : V} {d : D} (hu : X.A.units + 1 < cLine) (h1 : EvD g X G e1 (.int n)) (hv : (kvs.find? fun p => decide (p.1 = n)).map (·.2) = some w) (hd : flD w = some d) (hG : G[i]? = some (.dc kvs) := by rfl) (hn : NmV X i x := by first | exact ⟨rfl, Or.inl rfl, rfl, rfl⟩ | exact ⟨rfl, Or.inr (Or.inl rfl), rfl, rfl⟩)
    (hs : NoSl e1 := by intro _ _; rfl) : EvD g X G (.Subscript (.Name x p) e1 pos) d := by
  intro F H σ ow ok Q q
  refine we_of (pe_dget hu (pe_nm hn) pe_we hs) ?_
  obtain ⟨f1, f2, f3⟩ := ok.ownD hG
  refine ⟨_, f1, ?_⟩
  refine h1 F H σ ow ok _ fun v F2 H2 u r => ?_
  obtain ⟨g1, g2, g3⟩ := (ok.up u).ownD hG
  refine ⟨ow i, w, rfl, ?_, q _ F2 H2 u (rep_fl hd)⟩
  have e := DGet.k (k := (Sum.inl n : Key)) g3
  rw [val_dkv, hv] at e
  rw [of_int r]
  exact e
theorem find_nd {pr : Int × Int} : ∀ {kvs : List (Int × Int)}, (kvs.map (·.1)).Nodup → pr ∈ kvs → (((kvs.map fun p => (p.1, V.int p.2)).find? fun q => decide (q.1 = pr.1)).map (·.2)) = some (V.int pr.2)
  | [], _, hm => by cases hm
  | a :: r, hnd, hm => by
    obtain ⟨n1, n2⟩ := List.nodup_cons.mp (show (a.1 :: r.map (·.1)).Nodup from hnd)
    rw [List.map_cons, List.find?_cons]
    by_cases h : a.1 = pr.1
    · rcases List.mem_cons.mp hm with w | w
      · rw [w]
        simp
      · exact absurd (List.mem_map.mpr ⟨pr, w, h.symm⟩) n1
    · rcases List.mem_cons.mp hm with w | w
      · exact absurd (by rw [w]) h
      · have e : decide ((a.1, V.int a.2).1 = pr.1) = false := decide_eq_false h
        rw [e]
        exact find_nd n2 w
/-- [x for x in d if d[x] == z], d a dict of the frame's own with ints -/
theorem ev_lcD (i j l : Nat) {kvs : List (Int × Int)} {m : Int} (hu : X.A.units + 1 < cLine) (hnd : (kvs.map (·.1)).Nodup) (hl : kvs.length ≤ 90000)
    (hG : G[i]? = some (.dc (kvs.map fun p => (p.1, V.int p.2)))) (hZ : G[l]? = some (.v (.int m))) (hij : i ≠ j) (hlj : l ≠ j) (hjl : j < G.length)
    (hn : NmV X i y) (hb : blkC X.N X.env.scope scope [(x, j)] = true := by kernel_rfl)
    (hny : ∀ (s : Shared) (H0 : Hp) (C : Addr) (cl : List (Str × Addr)) (fp : List Addr), NmV (X.blk s H0 scope (compEnvC scope cl C X.env) fp) i y) (hnz : ∀ (s : Shared) (H0 : Hp) (C : Addr) (cl : List (Str × Addr)) (fp : List Addr), NmV (X.blk s H0 scope (compEnvC scope cl C X.env) fp) l z)
    (hnx : ∀ (s : Shared) (H0 : Hp) (C : Addr) (cl : List (Str × Addr)) (fp : List Addr), NmV (X.blk s H0 scope (compEnvC scope cl C X.env) fp) j x)
    (hN : X.N.Nodup := by exact nd_by (by kernel_rfl)) (hj : X.N[j]? = some x := by rfl) (hx : BlkT X scope x := by first | exact ⟨Or.inl rfl, Or.inr rfl⟩ | exact ⟨Or.inr rfl, Or.inl rfl⟩) (hc : X.calm = true := by rfl)
    (hfo : ∀ v, foldedSetIterable (.Name y p2) X.env v = pure v := by intro _; rfl) :
    Ev g X G (.ListComp (.Name x p) [⟨.Name x p3, .Name y p2, [.Compare (.Subscript (.Name y p4) (.Name x p5) p6) [.Eq] [.Name z p7] p8], 0⟩] scope pos) (.m (((kvs.filter fun p => decide (p.2 = m)).map (·.1)).map D.int)) := by
  intro F H σ ow ok Q q
  obtain ⟨f1, f2, f3⟩ := ok.ownD hG
  refine we_of (pe_lock (pe_lc (own := [(x, j)]) (g := gName j) (tt := tTest (tOp rEq (tDGet (tVar i) (tVar j)) (tVar l))) (te := tVar j) hc hN (pi_keys (pe_nm hn)) (blkOk_by hb) (pg_blk j hN hj hx)
    (fun s H C cl fp => pts_one (pt_cmpR op_eq (pe_dget (X := X.blk s H scope (compEnvC scope cl C X.env) fp) hu (pe_nm (hny s H C cl fp)) (pe_nm (hnx s H C cl fp)) (fun _ _ => rfl)) (pe_nm (hnz s H C cl fp)) (nomark _))) (fun s H C cl fp => pe_nm (hnx s H C cl fp)) hfo)) ?_
  refine ⟨ow i, _, f3, True.intro, fun od => ?_⟩
  refine ⟨_, f1, ow i, od, rfl, Or.inl ⟨_, upd_same, fun D hD => ?_⟩⟩
  have hDi : ow i ≠ D := fun w => by
    rw [← w, upd_same] at hD
    cases hD
  have hD0 : H D = none := by
    rw [upd_ne (Ne.symm hDi)] at hD
    exact hD
  have hlen : (dkv (kvs.map fun p => (p.1, V.int p.2))).length = kvs.length := by
    unfold dkv
    rw [List.length_map, List.length_map]
  have hkey : ∀ n : Nat, (dkv (kvs.map fun p => (p.1, V.int p.2)))[n]? = (kvs[n]?).map fun p => ((Sum.inl p.1 : Key), V.int p.2) := fun n => by
    unfold dkv
    rw [List.getElem?_map, List.getElem?_map, Option.map_map] <;> rfl
  obtain ⟨oz, z1, vz, z2, z3⟩ := ok.at_ l _ hZ
  have z4 := of_int z3
  refine lc_it (walk_keys (d := ow i) (o := od) (kvs := dkv (kvs.map fun p => (p.1, V.int p.2)))) (fun n H' => H' = upd (upd H (ow i) (.frz od (.dK (dkv (kvs.map fun p => (p.1, V.int p.2)))))) D (.lst ((((kvs.take n).filter fun p => decide (p.2 = m)).map (·.1)).map V.int))) rfl (fun n H' _ e => by rw [e, upd_ne hDi, upd_same]) (fun n v H' H3 hn e y0 => ?_) (fun H' e => ?_)
  · obtain ⟨e3, kk, vv, k1, k2⟩ := y0
    subst e3
    rw [hkey n] at k1
    obtain ⟨pr, hp⟩ : ∃ pr, kvs[n]? = some pr := by
      cases w : kvs[n]? with
      | none =>
        rw [w] at k1
        cases k1
      | some pr => exact ⟨pr, rfl⟩
    rw [hp] at k1
    have k3 := Option.some.inj k1
    have k4 : (Sum.inl pr.1 : Key) = kk := congrArg Prod.fst k3
    subst k4
    have k5 : v = V.int pr.1 := k2
    have hjs : j < σ.length := by rw [ok.len]; exact hjl
    have ew : ((wipe σ [j]).set j (some v)) = σ.set j (some v) := by
      show (σ.set j none).set j (some v) = _
      rw [List.set_set]
    have hHi : H3 (ow i) = some (.frz od (.dK (dkv (kvs.map fun p => (p.1, V.int p.2))))) := by
      rw [e, upd_ne hDi, upd_same]
    refine ⟨?_, ?_⟩
    · show ((wipe σ [j]).set j (some v)).set j none = (σ.set j none)
      rw [ew, List.set_set]
    · show tTest _ ((wipe σ [j]).set j (some v)) _ _
      rw [ew]
      have hval := find_nd hnd (List.mem_of_getElem? hp)
      refine ⟨V.ref (ow i), ?_, V.int pr.1, ?_, ow i, V.int pr.2, rfl, Or.inl ⟨_, Sum.inl pr.1, Or.inr ⟨od, hHi⟩, rfl, ?_⟩, V.int m, ?_, rfl, decide (pr.2 = m), ?_, ?_⟩
      · rw [List.getElem?_set_ne (Ne.symm hij)]
        exact f1
      · rw [List.getElem?_set_self hjs, k5]
      · rw [val_dkv, hval]
      · rw [List.getElem?_set_ne (Ne.symm hlj), z1, z2, z4]
      · congr 1
        by_cases h : pr.2 = m
        · rw [decide_eq_true h, h, decide_eq_true rfl]
        · rw [decide_eq_false h, decide_eq_false fun w => h (by injection w)]
      · have hs := filt_snoc (q := fun p : Int × Int => decide (p.2 = m)) hp
        by_cases h : pr.2 = m
        · rw [decide_eq_true h]
          refine iteT ⟨v, List.getElem?_set_self (by rw [show (wipe σ (List.map (fun x => x.snd) [(x, j)])) = σ.set j none from rfl, List.length_set]; exact hjs), _, (by rw [e]; exact upd_same), ?_, ?_⟩
          · rw [List.length_map, List.length_map]
            refine Nat.lt_of_le_of_lt (Nat.le_trans (List.length_filter_le _ _) (Nat.le_trans (by rw [List.length_take]; exact Nat.min_le_right _ _) hl)) (by decide)
          · rw [e, upd_upd, hs, if_pos (by exact decide_eq_true h), List.map_append, List.map_append, k5] <;> rfl
        · rw [decide_eq_false h]
          refine iteF ?_
          rw [e, hs, if_neg (by rw [decide_eq_false h]; decide), List.append_nil]
  · rw [hlen, List.take_length] at e
    subst e
    refine ⟨by rw [upd_ne hDi, upd_same], ?_⟩
    have e5 : upd (upd (upd H (ow i) (.frz od (.dK (dkv (kvs.map fun p => (p.1, V.int p.2)))))) D (.lst ((((kvs.filter fun p => decide (p.2 = m)).map (·.1)).map V.int)))) (ow i) (.dK (dkv (kvs.map fun p => (p.1, V.int p.2)))) = upd H D (.lst ((((kvs.filter fun p => decide (p.2 = m)).map (·.1)).map V.int))) := by
      funext b
      by_cases hb : b = ow i
      · subst hb
        rw [upd_same, upd_ne hDi, f3]
      · rw [upd_ne hb]
        by_cases hb2 : b = D
        · subst hb2
          rw [upd_same, upd_same]
        · rw [upd_ne hb2, upd_ne hb2, upd_ne hb]
    rw [e5]
    exact rt_new ok.fit (repL_ints _) q hD0
end
end CH

/-! Choosehall: a loop over a list of the frame's own; a House made of such. -/
namespace CH
open PySem L2
section
variable {g : Gb} {X : Cx} {G : List Sl} {F H : Hp} {σ : St} {ow : Nat → Addr} {e o : Expr} {es : List Expr} {pos p p2 : Pos} {x y : Str} {body : List Stmt} {k : KE}
theorem s_forOwn (i j : Nat) {ds : List D} (I : Addr → Nat → List Sl → Prop) (h0 : ∀ a, I a 0 (G.set i (.v (.adr a)))) (hij : i ≠ j)
    (hs : ∀ a n d G', ds[n]? = some d → I a n G' → G'[i]? = some (.v (.adr a)) → Ss g X (G'.set j (.v d)) body { nx := fun G2 => I a (n + 1) G2 ∧ G2[i]? = some (.v (.adr a)), ct := fun G2 => I a (n + 1) G2 ∧ G2[i]? = some (.v (.adr a)), bk := fun G2 => G2[i]? = some (.v (.adr a)) ∧ k.nx (G2.set i (.m ds)), rt := k.rt })
    (hd : ∀ a G', I a ds.length G' → G'[i]? = some (.v (.adr a)) → k.nx (G'.set i (.m ds))) (hG : G[i]? = some (.m ds) := by rfl)
    (hn : NmV X i y := by first | exact ⟨rfl, Or.inl rfl, rfl, rfl⟩ | exact ⟨rfl, Or.inr (Or.inl rfl), rfl, rfl⟩)
    (hN : X.N.Nodup := by exact nd_by (by kernel_rfl)) (hj : X.N[j]? = some x := by rfl) (hx : Loc X.env.scope x := by first | exact Or.inl rfl | exact Or.inr rfl) (hc : X.calm = true := by rfl)
    (hf : X.fn x = true ∨ X.env.scope.names.lookup x = some .local := by first | exact .inl rfl | exact .inr rfl) (hp : PassesOwn (model X.prog X.w) X.A X.env X.xe := by exact PassesOwn.never)
    (hfo : ∀ x, foldedSetIterable (.Name y p2) X.env x = pure x := by intro _; rfl) : S1 g X G (.For (.Name x p) (.Name y p2) body [] pos) k := fun B F H σ ow ok bk F1 s1 => by
  obtain ⟨o1, fn, xs, hx1, hr1⟩ := ok.own hG
  have fra : Fresh B.2 (ow i) := bk.fresh i _ hG rfl
  have back : LamX.ExtN B.2 (upd B.2 (ow i) (.lst xs)) := fun b u e n => by
    rw [upd_ne fun z => fra u (by rw [← z]; exact e) n]
    exact e
  have frz : ∀ {l : Addr}, Fresh (upd B.2 (ow i) (.lst xs)) l → l ≠ ow i ∧ Fresh B.2 l := fun {l} f => ⟨fun z => f (.lst xs) (by rw [z]; exact upd_same) nt_lst, f.back back⟩
  have nB : B.1 (ow i) = none := by
    cases q : B.1 (ow i) with
    | none => rfl
    | some u =>
      have := bk.up.sub _ _ q
      rw [fn] at this
      cases this
  have upF : ∀ {F' H' : Hp}, Up g B.1 (upd B.2 (ow i) (.lst xs)) F' H' → Up g B.1 B.2 F' H' := fun {F' H'} u => by
    refine ⟨fun b o e n => u.ext b o (back b o e n) n, u.sub, fun b o e n f => u.grow b o (back b o e n) n f, u.fit⟩
  have bk0 : Bk g (B.1, upd B.2 (ow i) (.lst xs)) (G.set i (.v (.adr (ow i)))) F H (fun j => if j = i then 0 else ow j) := by
    refine ⟨⟨fun b o e n => ?_, bk.up.sub, fun b o e n f => ?_, bk.up.fit⟩, fun j' t e w => ?_⟩
    · have e' : (upd B.2 (ow i) (.lst xs)) b = some o := e
      by_cases hb : b = ow i
      · rw [hb, upd_same] at e'
        cases e'
        rw [hb]
        exact hx1
      · rw [upd_ne hb] at e'
        exact bk.up.ext b o e' n
    · have e' : (upd B.2 (ow i) (.lst xs)) b = some o := e
      by_cases hb : b = ow i
      · rw [hb]
        exact fn
      · rw [upd_ne hb] at e'
        exact bk.up.grow b o e' n f
    · rcases get_set e with ⟨rfl, rfl⟩ | ⟨n, e1⟩
      · cases w
      · show Fresh (upd B.2 (ow i) (.lst xs)) (if j' = i then 0 else ow j')
        rw [if_neg n]
        have f1 := bk.fresh j' t e1 w
        intro o eo
        have ne : ow j' ≠ ow i := fun z => n (ok.inj j' i _ _ e1 hG w rfl z)
        rw [upd_ne ne] at eo
        exact f1 o eo
  have ok0 : Ok g (G.set i (.v (.adr (ow i)))) F H σ (fun j => if j = i then 0 else ow j) := by
    have z := ok.set (i := i) (a := 0) (s := .v (.adr (ow i))) (o := some (.ref (ow i))) ⟨_, rfl, .adr _⟩ (fun w => by cases w)
    have es : σ.set i (some (.ref (ow i))) = σ := by
      refine List.ext_getElem? fun n => ?_
      by_cases hn : n = i
      · subst hn
        rw [o1, List.getElem?_set_self (List.getElem?_eq_some_iff.mp o1).1]
      · rw [List.getElem?_set_ne (Ne.symm hn)]
    rw [es] at z
    exact z
  -- owned again
  have reown : ∀ {G' : List Sl} {F' H' : Hp} {σ' : St} {ow' : Nat → Addr} {K : List Sl → Prop}, G'[i]? = some (.v (.adr (ow i))) → K (G'.set i (.m ds)) → Ok g G' F' H' σ' ow' → Bk g (B.1, upd B.2 (ow i) (.lst xs)) G' F' H' ow' → Sub F F' → nxP g B F1 K σ' H' := fun {G' F' H' σ' ow' K} e hk ok' bk' sf => by
    obtain ⟨ov, q1, v, q2, q3⟩ := ok'.at_ i _ e
    cases q3
    subst q2
    have hH : H' (ow i) = some (.lst xs) := bk'.up.ext _ _ upd_same nt_lst
    have hF : F' (ow i) = none := bk'.up.grow _ _ upd_same nt_lst nB
    have z := ok'.set (i := i) (a := ow i) (s := .m ds) (o := some (.ref (ow i))) ⟨rfl, hF, xs, hH, RepL.mono sf _ _ hr1⟩ (fun _ j' t n e1 w z => (frz (bk'.fresh j' t e1 w)).1 z)
    have es : σ'.set i (some (.ref (ow i))) = σ' := by
      refine List.ext_getElem? fun n => ?_
      by_cases hn : n = i
      · subst hn
        rw [q1, List.getElem?_set_self (List.getElem?_eq_some_iff.mp q1).1]
      · rw [List.getElem?_set_ne (Ne.symm hn)]
    rw [es] at z
    refine ⟨_, F', _, hk, z, ⟨upF bk'.up, fun j' t e1 w => ?_⟩, s1.trans sf⟩
    rcases get_set e1 with ⟨rfl, rfl⟩ | ⟨n, e2⟩
    · show Fresh B.2 (if j' = j' then _ else _)
      rw [if_pos rfl]
      exact fra
    · show Fresh B.2 (if j' = i then _ else _)
      rw [if_neg n]
      exact (frz (bk'.fresh j' t e2 w)).2
  have hsq : ∀ {H' : Hp}, H' (ow i) = some (.lst xs) → SqL X.K H' (ow i) xs := fun h => SqL.of h
  refine ws_of (ps_for hp hc (pi_list (pe_nm hn)) (pg_name hN hj hx hf) pss_wss hfo) ?_
  refine ⟨_, o1, ow i, rfl, ⟨xs, SqL.of hx1⟩, ?_⟩
  refine ⟨fun n m σ' H' => m = ds.length - n ∧ n ≤ ds.length ∧ nxP g (B.1, upd B.2 (ow i) (.lst xs)) F (fun G' => I (ow i) n G' ∧ G'[i]? = some (.v (.adr (ow i)))) σ' H', ⟨_, rfl, Nat.zero_le _, _, F, _, ⟨h0 (ow i), by rw [List.getElem?_set_self (List.getElem?_eq_some_iff.mp hG).1]⟩, ok0, bk0, Sub.refl F⟩, ?_⟩
  rintro n m σ' H' ⟨rfl, hle, G', F', ow', hI, ok', bk', s'⟩
  have hH : H' (ow i) = some (.lst xs) := bk'.up.ext _ _ upd_same nt_lst
  by_cases hlt : n < ds.length
  · have hlt' : n < xs.length := by rw [hr1.len]; exact hlt
    refine Or.inr ⟨⟨xs, xs[n], hsq hH, by simp [hlt']⟩, nxP g (B.1, upd B.2 (ow i) (.lst xs)) F (fun G' => I (ow i) (n + 1) G' ∧ G'[i]? = some (.v (.adr (ow i)))), fun σ3 H3 q => ⟨ds.length - (n + 1), by omega, rfl, hlt, q⟩, fun v H3 yy => ?_⟩
    obtain ⟨y1, y2⟩ := yy
    subst y1
    obtain ⟨d, d1, d2⟩ := hr1.get (y2 xs (hsq hH))
    have ok2 := ok'.set (i := j) (a := 0) (s := .v d) (o := some v) ⟨v, rfl, Rep.mono s' _ _ d2⟩ (fun z => by cases z)
    have bk2 := bk'.set (i := j) (a := 0) (s := .v d) (fun z => by cases z)
    have q0 := hs (ow i) n d G' d1 hI.1 hI.2 (B.1, upd B.2 (ow i) (.lst xs)) F' H3 _ _ ok2 bk2 F s'
    refine WSs.imp q0 (fun _ _ q => q) (fun v H4 q => ?_) (fun σ4 H4 q => ?_) (fun _ _ q => q)
    · obtain ⟨r, F4, q1, q2, q3⟩ := q
      exact ⟨r, F4, q1, upF q2, q3.back back⟩
    · obtain ⟨G4, F4, ow4, q1, q2, q3, q4⟩ := q
      exact reown q1.1 q1.2 q2 q3 q4
  · have e : n = ds.length := by omega
    subst e
    refine Or.inl ⟨⟨xs, hsq hH, by rw [hr1.len]; exact Nat.le_refl _⟩, ?_⟩
    exact reown hI.2 (hd (ow i) G' hI.1 hI.2) ok' bk' s'

theorem Ss.to {J : List Sl → Prop} {sts : List Stmt} (h : Ss g X G sts { k with nx := J }) (hj : ∀ G', J G' → k.nx G') : Ss g X G sts k := fun B F H σ ow ok bk F1 s1 =>
  WSs.imp (h B F H σ ow ok bk F1 s1) (fun _ _ ⟨G', F', ow', a, b⟩ => ⟨G', F', ow', hj G' a, b⟩) (fun _ _ q => q) (fun _ _ q => q) (fun _ _ q => q)
/-- if, its two ways joined -/
theorem s_ifJ {b : Bool} {c : Expr} {body els : List Stmt} (J : List Sl → Prop) (h : EvT g X G c b) (h1 : b = true → Ss g X G body { k with nx := J }) (h2 : b = false → Ss g X G els { k with nx := J }) (hj : ∀ G', J G' → k.nx G') : S1 g X G (.If c body els pos) k :=
  s_if h (fun hb => (h1 hb).to hj) (fun hb => (h2 hb).to hj)
/-- House(..), some of the arguments lists of the frame's own -/
theorem ev_makeB {h : Hs} {k : Nat} (hK : X.K = g.K) (C : HCal X.prog X.w g X.mg X.base k) (hr : Room (k + 1) X.A) (ha : EvA g X (bor G) (e :: es) (hsArgs h)) (hg : Gl X "House" := by rfl)
    (he : starEach (e :: es) X.env = (false, eval e X.env) :: starEach es X.env := by rfl) (hpl : (backTo pos (starEach es X.env)).any (·.1) = false := by rfl) : EvD g X G (.Call (.Name "House" p) (e :: es) [] pos) (.hs h) := by
  obtain ⟨f, fd, ps, F0, M, hb, hm⟩ := C
  intro F H σ ow ok Q q
  refine we_of (pe_make (X := X) (C := g.C) (by rw [hK]; exact M) (by rw [hK]; exact F0) hr hg hm (by rw [hK]; exact hb) .nil pass0 pa_wa (by decide) he hpl) ?_
  refine ha _ H σ ow (lend_ok ok) _ fun vs F1 H1 u r => ?_
  intro x dx hx hdx hne
  rw [List.append_nil]
  have r' : RepL g F1 [.int h.seats, .int h.kept, .int h.kind, .bl h.opened, .lst (h.pts.map D.oi), .lst (h.kinds.map D.int), .lst (h.row.map D.int)] vs := r
  obtain ⟨v1, w1, rfl, a1, r1⟩ := repL_inv r'
  obtain ⟨v2, w2, rfl, a2, r2⟩ := repL_inv r1
  obtain ⟨v3, w3, rfl, a3, r3⟩ := repL_inv r2
  obtain ⟨v4, w4, rfl, a4, r4⟩ := repL_inv r3
  obtain ⟨v5, w5, rfl, a5, r5⟩ := repL_inv r4
  obtain ⟨v6, w6, rfl, a6, r6⟩ := repL_inv r5
  obtain ⟨v7, w7, rfl, a7, r7⟩ := repL_inv r6
  have e7 := repL_inv0 r7
  subst e7
  obtain ⟨q5, x5, rfl, f5, s5⟩ := of_lst a5
  obtain ⟨q6, x6, rfl, f6, s6⟩ := of_lst a6
  obtain ⟨q7, x7, rfl, f7, s7⟩ := of_lst a7
  rw [of_int a1, of_int a2, of_int a3, of_bl a4]
  rw [ois_of s5] at f5
  rw [ints_of s6] at f6
  rw [ints_of s7] at f7
  have hold : ∀ z o, H1 z = some o → (upd (upd H1 dx (.own x)) x (.ins g.C dx [])) z = some o := fun z o e => by
    rw [upd_ne (ne_of_none e hx), upd_ne (ne_of_none e hdx)]
    exact e
  refine ⟨x, dx, h, q5, q6, q7, F1, rfl, upd_same, f5, f6, f7, ⟨fun z o e => hold z o (u.fit.low z o e), u.fit.nt, u.fit.tab.ext fun z o e => hold z o e⟩, u.fit.low.free hx, fun F2 H2 k1 k2 k3 k4 k5 => ⟨rfl, ?_⟩⟩
  have up2 : Up g (lendF G ow F H) H F2 H2 := u.trans ⟨fun z o e _ => k1 z o (hold z o e) (ne_of_none e hx), k2, fun z o e n f => k4 z o (hold z o e) (ne_of_none e hx) f, k3⟩
  obtain ⟨up3, _⟩ := lend_up ok up2
  refine q _ _ H2 up3 (.hs (k5.mono fun b o e => ?_))
  have k6 := newHs_sub b o e
  unfold backF
  rw [if_neg fun z => ?_]
  · exact k6
  · obtain ⟨_, ys, hz⟩ := lent_at ok z
    have hz1 : H1 b = some (.lst ys) := u.ext b _ hz nt_lst
    have e2 : (if (upd (upd H1 dx (.own x)) x (.ins g.C dx [])) b = none ∨ b = x then F2 b else none) = some o := e
    rw [if_neg fun w => ?_] at e2
    · cases e2
    · rcases w with w | w
      · rw [hold b _ hz1] at w
        cases w
      · rw [w, hx] at hz1
        cases hz1
end
end CH

/-! Choosehall: the world drawn from a script, as plain data. -/
namespace CH
open PySem L2

def cellAt (s : List Int) (k : Int) : Int := s.getD k.toNat 0
structure RowSt where
  c : Int
  l : List Int
  r : List Int
def rowStep (many : Int) (k : Nat) (x : RowSt) : RowSt :=
  let n := (x.c % (x.l.length : Int)).toNat
  ⟨x.c / max 2 (many - (k : Int)), x.l.eraseIdx n, x.r ++ [x.l.getD n 0]⟩
def rowSt (cell many : Int) : Nat → RowSt
  | 0 => ⟨cell, rg 0 many, []⟩
  | k + 1 => rowStep many k (rowSt cell many k)
def rowBy (cell many : Int) : List Int := (rowSt cell many many.toNat).r
theorem rg_length (a b : Int) : (rg a b).length = (b - a).toNat := rg_len a b
theorem rowSt_len (cell many : Int) : ∀ k : Nat, k ≤ many.toNat → (rowSt cell many k).l.length = many.toNat - k ∧ (rowSt cell many k).r.length = k
  | 0, _ => ⟨by show (rg 0 many).length = _; rw [rg_len]; omega, rfl⟩
  | k + 1, h => by
    obtain ⟨h1, h2⟩ := rowSt_len cell many k (by omega)
    have h3 : 0 ≤ (rowSt cell many k).c % ((rowSt cell many k).l.length : Int) ∧ (rowSt cell many k).c % ((rowSt cell many k).l.length : Int) < ((rowSt cell many k).l.length : Int) := ⟨Int.emod_nonneg _ (by omega), Int.emod_lt_of_pos _ (by omega)⟩
    refine ⟨?_, ?_⟩
    · show ((rowSt cell many k).l.eraseIdx ((rowSt cell many k).c % ((rowSt cell many k).l.length : Int)).toNat).length = _
      rw [List.length_eraseIdx, if_pos (by omega), h1]
      omega
    · show ((rowSt cell many k).r ++ [_]).length = _
      rw [List.length_append, h2] <;> rfl
theorem perm_erase : ∀ {l : List Int} {n : Nat}, n < l.length → (l.getD n 0 :: l.eraseIdx n).Perm l
  | [], _, h => absurd h (Nat.not_lt_zero _)
  | a :: l, 0, _ => .refl _
  | a :: l, n + 1, h => (List.Perm.swap a (l.getD n 0) (l.eraseIdx n)).trans (List.Perm.cons a (perm_erase (Nat.lt_of_succ_lt_succ h)))
theorem rowSt_perm (cell many : Int) : ∀ k : Nat, k ≤ many.toNat → ((rowSt cell many k).r ++ (rowSt cell many k).l).Perm (rg 0 many)
  | 0, _ => .refl _
  | k + 1, h => by
    obtain ⟨h1, h2⟩ := rowSt_len cell many k (by omega)
    have h3 : 0 ≤ (rowSt cell many k).c % ((rowSt cell many k).l.length : Int) ∧ (rowSt cell many k).c % ((rowSt cell many k).l.length : Int) < ((rowSt cell many k).l.length : Int) := ⟨Int.emod_nonneg _ (by omega), Int.emod_lt_of_pos _ (by omega)⟩
    refine List.Perm.trans ?_ (rowSt_perm cell many k (by omega))
    show (((rowSt cell many k).r ++ [(rowSt cell many k).l.getD _ 0]) ++ (rowSt cell many k).l.eraseIdx _).Perm _
    rw [List.append_assoc]
    exact List.Perm.append_left _ (perm_erase (by omega))
theorem rowBy_perm (cell many : Int) : (rowBy cell many).Perm (rg 0 many) := by
  have h := rowSt_perm cell many many.toNat (Nat.le_refl _)
  obtain ⟨h1, _⟩ := rowSt_len cell many many.toNat (Nat.le_refl _)
  rw [Nat.sub_self] at h1
  rw [List.eq_nil_of_length_eq_zero h1, List.append_nil] at h
  exact h
theorem rowBy_len (cell many : Int) : (rowBy cell many).length = many.toNat := (rowSt_len cell many many.toNat (Nat.le_refl _)).2
theorem mem_rg {a b x : Int} : x ∈ rg a b ↔ a ≤ x ∧ x < b := by
  unfold rg
  rw [List.mem_map]
  constructor
  · rintro ⟨i, hi, rfl⟩
    have := List.mem_range.mp hi
    omega
  · rintro ⟨h1, h2⟩
    exact ⟨(x - a).toNat, List.mem_range.mpr (by omega), by omega⟩
theorem rg_nodup (a b : Int) : (rg a b).Nodup := by
  unfold rg
  exact List.Pairwise.map _ (fun x y h e => h (by omega)) List.nodup_range
theorem rowBy_mem {cell many x : Int} : x ∈ rowBy cell many ↔ 0 ≤ x ∧ x < many := by rw [(rowBy_perm cell many).mem_iff, mem_rg]
theorem rowBy_nodup (cell many : Int) : (rowBy cell many).Nodup := (rowBy_perm cell many).nodup_iff.mpr (rg_nodup _ _)

def b2i (b : Bool) : Int := if b = true then 1 else 0
def wishesBy (cell houses : Int) : List Int := (rowBy (cell / 16) houses).take (houses - cell % (houses + 1) * b2i (decide (cell / 8 % 2 = 1))).toNat
def pointsBy (cell k : Int) : Option Int :=
  let some_ := (cell / (1 + k * k) + 7919 * k) * (k + 3) * 48271 % 1000003
  let some2 := if cell % 3 = 0 then some_ % 3 else some_
  if (cell / 3 * (k + 2) + 5 * k) % 11 < 2 then none else some (some2 % 1000001)
def kindBy (cell : Int) : Int := cell % 2 + 2 * b2i (decide (cell / 4 % 5 = 1))
def wMany (s : List Int) (top : Int) : Int := 1 + cellAt s 0 % top
def wHouses (s : List Int) : Int := 1 + cellAt s 0 / 5 % 3
def wWish (s : List Int) (top : Int) : List (List Int) := (rg 0 (wMany s top)).map fun k => wishesBy (cellAt s (1 + k)) (wHouses s)
def wKinds (s : List Int) (top : Int) : List Int := (rg 0 (wMany s top)).map fun k => kindBy (cellAt s (6 + k))
def wHs (s : List Int) (top h : Int) : Hs :=
  let cell := cellAt s (11 + 3 * h)
  { seats := cell % 4, kept := cell / 4 % (cell % 4 + 1), kind := kindBy (cell / 16), opened := decide (cell / 32 % 2 = 0), pts := (rg 0 (wMany s top)).map (pointsBy (cellAt s (12 + 3 * h))), kinds := wKinds s top, row := rowBy (cellAt s (13 + 3 * h)) (wMany s top) }
def wRows (s : List Int) (top : Int) : List Hs := (rg 0 (wHouses s)).map (wHs s top)
def rowD (h : Hs) : D := .tup (hsArgs h)
def intsD (l : List Int) : D := .lst (l.map D.int)

/-! ### the house's choosing, as plain data -/
def ptAt (h : Hs) (k : Int) : Option Int := h.pts.getD k.toNat none
def kindAt (h : Hs) (k : Int) : Int := h.kinds.getD k.toNat 0
def ableB (h : Hs) (cs : List Int) (k : Int) : Bool := decide (k ∈ cs) && (ptAt h k).isSome
def rankedM (h : Hs) (cs : List Int) : List Int := (h.row.filter (ableB h cs)).mergeSort (byKey h)
/-- the walk through the ranked ones: inside, others -/
def chStep (h : Hs) (x : List Int × List Int) (k : Int) : List Int × List Int :=
  if kindAt h k = h.kind ∧ (x.1.length : Int) < h.kept then (x.1 ++ [k], x.2) else (x.1, x.2 ++ [k])
def chFree (h : Hs) (n : Nat) : Int := if h.opened = true then h.seats - (n : Int) else h.seats - h.kept
def leB (a b : Int) : Bool := decide (a ≤ b)
def chosenM (h : Hs) (cs : List Int) : List Int :=
  let x := (rankedM h cs).foldl (chStep h) ([], [])
  (x.1 ++ x.2.take (chFree h x.1.length).toNat).mergeSort leB
/-- a house of sound form: comers 0 .. n-1 -/
structure HsOk (h : Hs) (n : Nat) : Prop where
  pts : h.pts.length = n
  kinds : h.kinds.length = n
  row : h.row.Perm (rg 0 n)
  small : n ≤ 24
  kept0 : 0 ≤ h.kept
  kept : h.kept ≤ h.seats
theorem HsOk.mem {h : Hs} {n : Nat} (o : HsOk h n) {k : Int} : k ∈ h.row ↔ 0 ≤ k ∧ k < n := by rw [o.row.mem_iff, mem_rg]
theorem HsOk.nodup {h : Hs} {n : Nat} (o : HsOk h n) : h.row.Nodup := o.row.nodup_iff.mpr (rg_nodup _ _)
theorem HsOk.len {h : Hs} {n : Nat} (o : HsOk h n) : h.row.length = n := by rw [o.row.length_eq, rg_len]; omega
theorem wMany_pos (s : List Int) {top : Int} (h : 0 < top) : 1 ≤ wMany s top ∧ wMany s top ≤ top := by
  have h1 : 0 ≤ cellAt s 0 % top ∧ cellAt s 0 % top < top := ⟨Int.emod_nonneg _ (by omega), Int.emod_lt_of_pos _ h⟩
  unfold wMany
  omega
theorem wHouses_pos (s : List Int) : 1 ≤ wHouses s ∧ wHouses s ≤ 3 := by
  unfold wHouses
  omega
theorem wHs_ok (s : List Int) (top h : Int) (h0 : 0 < top) (h1 : top ≤ 24) : HsOk (wHs s top h) (wMany s top).toNat := by
  obtain ⟨h2, h3⟩ := wMany_pos s h0
  have h4 : 0 ≤ cellAt s (11 + 3 * h) % 4 ∧ cellAt s (11 + 3 * h) % 4 < 4 := ⟨Int.emod_nonneg _ (by omega), Int.emod_lt_of_pos _ (by omega)⟩
  have h5 : 0 ≤ cellAt s (11 + 3 * h) / 4 % (cellAt s (11 + 3 * h) % 4 + 1) ∧ cellAt s (11 + 3 * h) / 4 % (cellAt s (11 + 3 * h) % 4 + 1) < cellAt s (11 + 3 * h) % 4 + 1 := ⟨Int.emod_nonneg _ (by omega), Int.emod_lt_of_pos _ (by omega)⟩
  refine ⟨?_, ?_, ?_, by omega, h5.1, by show cellAt s (11 + 3 * h) / 4 % (cellAt s (11 + 3 * h) % 4 + 1) ≤ cellAt s (11 + 3 * h) % 4; omega⟩
  · show ((rg 0 (wMany s top)).map _).length = _
    rw [List.length_map, rg_len]
    omega
  · show ((rg 0 (wMany s top)).map _).length = _
    rw [List.length_map, rg_len]
    omega
  · have e : ((wMany s top).toNat : Int) = wMany s top := by omega
    rw [e]
    exact rowBy_perm _ _
theorem ptOf_at (h : Hs) (k : Int) : ptOf h k = (ptAt h k).getD 0 := rfl
theorem take_cut {l : List D} {n : Int} (h : 0 ≤ n) : cutD l none (some n) = l.take n.toNat := by
  obtain ⟨m, rfl⟩ := Int.eq_ofNat_of_zero_le h
  unfold cutD
  rw [HT.sIx_none, show (HT.sIx l.length l.length (some ((m : Nat) : Int))) = min m l.length from HT.sIx_nat _ _ m, List.drop_zero, Nat.sub_zero, Int.toNat_natCast]
  rw [← List.take_eq_take_min]
theorem at_nat {l : List D} {k : Int} {d : D} (h0 : 0 ≤ k) (h : l[k.toNat]? = some d) : (D.lst l).at_ k = some d := by
  show atI l k = some d
  unfold atI
  have h2 := (List.getElem?_eq_some_iff.mp h).1
  have e : ixN l.length k = some k.toNat := by
    unfold ixN
    rw [if_pos h0, if_pos (by omega)]
  rw [e]
  exact h
end CH

namespace CH
open PySem L2
def top (i : Nat) : Stmt := PySem.Challenge.pw_choosehall_k02_a_line_read.main.body.getD i (.Pass ⟨0, 0, 0, 0⟩)
def inC (st : Stmt) (i : Nat) : Stmt := match st with
  | .ClassDef _ _ _ b _ _ _ _ _ _ _ => b.getD i (.Pass ⟨0, 0, 0, 0⟩)
  | _ => .Pass ⟨0, 0, 0, 0⟩
abbrev s_number_of : Stmt := top 8
abbrev s_read : Stmt := top 9
abbrev s__law_cell_at : Stmt := top 11
abbrev s__law_whole : Stmt := top 12
abbrev s__law_number_by : Stmt := top 13
abbrev s__law_piece_by : Stmt := top 14
abbrev s__law_number : Stmt := top 15
abbrev s__law_due : Stmt := top 16
abbrev s__law_tried : Stmt := top 17
abbrev s_law : Stmt := top 18
end CH

/-! Choosehall: data held against data. -/
namespace CH
open PySem L2
def D.cm (k : Nat) (d : D) : Prop := d.pl = true ∧ PyData.canLay0 (toPy d) = true ∧ PyData.depth (toPy d) ≤ k
theorem cmL {k : Nat} : ∀ {ds : List D}, (∀ d ∈ ds, d.cm k) → plL ds = true ∧ PyData.canLayAll0 (toPyL ds) = true ∧ PyData.depthAll (toPyL ds) ≤ k
  | [], _ => ⟨rfl, rfl, Nat.zero_le _⟩
  | d :: ds, h => by
    obtain ⟨a1, a2, a3⟩ := h d List.mem_cons_self
    obtain ⟨b1, b2, b3⟩ := cmL (ds := ds) fun x hx => h x (List.mem_cons_of_mem _ hx)
    refine ⟨?_, ?_, ?_⟩
    · show (d.pl && plL ds) = true
      rw [a1, b1] <;> rfl
    · show (PyData.canLayAll0 (toPy d :: toPyL ds)) = true
      simp only [PyData.canLayAll0, a2, b2, Bool.and_self]
    · show PyData.depthAll (toPy d :: toPyL ds) ≤ k
      simp only [PyData.depthAll]
      omega
theorem cm_lst {k : Nat} {ds : List D} (h : ∀ d ∈ ds, d.cm k) : (D.lst ds).cm (k + 1) := by
  obtain ⟨b1, b2, b3⟩ := cmL h
  refine ⟨b1, ?_, ?_⟩
  · show PyData.canLay0 (.list (toPyL ds)) = true
    simp only [PyData.canLay0, b2]
  · show PyData.depth (.list (toPyL ds)) ≤ _
    simp only [PyData.depth]
    omega
theorem cm_tup {k : Nat} {ds : List D} (h : ∀ d ∈ ds, d.cm k) : (D.tup ds).cm (k + 1) := by
  obtain ⟨b1, b2, b3⟩ := cmL h
  refine ⟨b1, ?_, ?_⟩
  · show PyData.canLay0 (.tuple (toPyL ds)) = true
    simp only [PyData.canLay0, b2]
  · show PyData.depth (.tuple (toPyL ds)) ≤ _
    simp only [PyData.depth]
    omega
theorem cm_int (i : Int) : (D.int i).cm 1 := ⟨rfl, rfl, Nat.zero_le 1⟩
theorem cm_non : D.non.cm 1 := ⟨rfl, rfl, by decide⟩
theorem cm_bl (b : Bool) : (D.bl b).cm 1 := ⟨rfl, rfl, Nat.zero_le 1⟩
theorem cm_oi (o : Option Int) : (D.oi o).cm 1 := by
  cases o with
  | none => exact cm_non
  | some i => exact cm_int i
theorem D.cm.le {j k : Nat} {d : D} (h : d.cm j) (e : j ≤ k) : d.cm k := ⟨h.1, h.2.1, Nat.le_trans h.2.2 e⟩
theorem D.cm.ok {k : Nat} {d : D} (h : d.cm k) (e : k ≤ 64 := by decide) : d.cmpable := by
  refine ⟨h.1, ?_⟩
  unfold SeqAt.shaped
  rw [h.2.1, decide_eq_true (Nat.le_trans h.2.2 e)] <;> rfl
theorem cm_map {α : Type} {k : Nat} {enc : α → D} {l : List α} (h : ∀ a ∈ l, (enc a).cm k) : (D.lst (l.map enc)).cm (k + 1) := cm_lst fun d hd => by
  obtain ⟨a, ha, rfl⟩ := List.mem_map.mp hd
  exact h a ha
theorem cm_ints (l : List Int) : (intsD l).cm 2 := cm_map fun a _ => cm_int a
theorem cm_ois (l : List (Option Int)) : (D.lst (l.map D.oi)).cm 2 := cm_map fun a _ => cm_oi a
theorem cm_intss (l : List (List Int)) : (D.lst (l.map intsD)).cm 3 := cm_map fun a _ => cm_ints a
/-- lists alike, if their items are -/
theorem eqv_map {α : Type} [DecidableEq α] {enc : α → D} (he : ∀ a b, (enc a).eqv (enc b) = decide (a = b)) : ∀ (l m : List α), (D.lst (l.map enc)).eqv (.lst (m.map enc)) = decide (l = m)
  | [], [] => rfl
  | [], b :: m => rfl
  | a :: l, [] => rfl
  | a :: l, b :: m => by
    have ih := eqv_map he l m
    have e : (D.lst ((a :: l).map enc)).eqv (.lst ((b :: m).map enc)) = ((enc a).eqv (enc b) && (D.lst (l.map enc)).eqv (.lst (m.map enc))) := rfl
    rw [e, ih, he]
    by_cases h : a = b
    · by_cases h2 : l = m
      · rw [decide_eq_true h, decide_eq_true h2, h, h2, decide_eq_true rfl] <;> rfl
      · rw [decide_eq_false h2, Bool.and_false]
        exact (decide_eq_false fun z => h2 (List.cons.inj z).2).symm
    · rw [decide_eq_false h, Bool.false_and]
      exact (decide_eq_false fun z => h (List.cons.inj z).1).symm
theorem eqv_i (i j : Int) : (D.int i).eqv (.int j) = decide (i = j) := rfl
theorem eqv_oi (i j : Option Int) : (D.oi i).eqv (D.oi j) = decide (i = j) := by
  cases i with
  | none => cases j <;> rfl
  | some i =>
    cases j with
    | none => rfl
    | some j =>
      have e : (D.oi (some i)).eqv (D.oi (some j)) = decide (i = j) := rfl
      rw [e]
      exact decide_eq_decide.mpr ⟨fun h => by rw [h], fun h => Option.some.inj h⟩
theorem eqv_ints (l m : List Int) : (intsD l).eqv (intsD m) = decide (l = m) := eqv_map eqv_i l m
theorem eqv_ois (l m : List (Option Int)) : (D.lst (l.map D.oi)).eqv (.lst (m.map D.oi)) = decide (l = m) := eqv_map eqv_oi l m
theorem eqv_intss (l m : List (List Int)) : (D.lst (l.map intsD)).eqv (.lst (m.map intsD)) = decide (l = m) := eqv_map eqv_ints l m
end CH

/-! Choosehall: the mathematics of a house's choosing. -/
namespace CH
open PySem L2
/-! ### pairs that stand in order -/
theorem pair_nd {a b : Int} : ∀ {l : List Int}, l.Nodup → [a, b].Sublist l → [b, a].Sublist l → False
  | [], _, h, _ => by cases h
  | x :: l, nd, h1, h2 => by
    obtain ⟨n1, n2⟩ := List.nodup_cons.mp nd
    cases h1 with
    | cons _ h1 =>
      cases h2 with
      | cons _ h2 => exact pair_nd n2 h1 h2
      | cons_cons _ h2 => exact n1 (h1.subset (by simp))
    | cons_cons _ h1 =>
      cases h2 with
      | cons _ h2 => exact n1 (h2.subset (by simp))
      | cons_cons _ h2 => exact n1 (h1.subset (by simp))
theorem pair_or {a b : Int} (ne : a ≠ b) : ∀ {l : List Int}, a ∈ l → b ∈ l → [a, b].Sublist l ∨ [b, a].Sublist l
  | [], h, _ => by cases h
  | x :: l, h1, h2 => by
    rcases List.mem_cons.mp h1 with e1 | e1
    · rcases List.mem_cons.mp h2 with e2 | e2
      · exact absurd (e1.trans e2.symm) ne
      · subst e1
        exact Or.inl (List.Sublist.cons_cons _ (List.singleton_sublist.mpr e2))
    · rcases List.mem_cons.mp h2 with e2 | e2
      · subst e2
        exact Or.inr (List.Sublist.cons_cons _ (List.singleton_sublist.mpr e1))
      · rcases pair_or ne e1 e2 with z | z
        · exact Or.inl (z.cons _)
        · exact Or.inr (z.cons _)
theorem byKey_trans (h : Hs) (a b c : Int) : byKey h a b = true → byKey h b c = true → byKey h a c = true := by
  unfold byKey
  intro h1 h2
  have := of_decide_eq_true h1
  have := of_decide_eq_true h2
  exact decide_eq_true (by omega)
theorem byKey_total (h : Hs) (a b : Int) : (byKey h a b || byKey h b a) = true := by
  unfold byKey
  rcases Int.le_total (-ptOf h a) (-ptOf h b) with e | e
  · rw [decide_eq_true e, Bool.true_or]
  · rw [decide_eq_true e, Bool.or_true]
/-- a stands ahead of b in the house's rank -/
def bef (h : Hs) (a b : Int) : Prop := byKey h a b = true ∧ (byKey h b a = true → [a, b].Sublist h.row)
theorem bef_anti {h : Hs} (nd : h.row.Nodup) {a b : Int} (h1 : bef h a b) (h2 : bef h b a) : a = b :=
  (pair_nd nd (h1.2 h2.1) (h2.2 h1.1)).elim
theorem ranked_nodup {h : Hs} (nd : h.row.Nodup) (cs : List Int) : (rankedM h cs).Nodup := by
  unfold rankedM
  exact (List.mergeSort_perm _ _).nodup_iff.mpr (nd.filter _)
theorem ranked_bef {h : Hs} (nd : h.row.Nodup) (cs : List Int) : (rankedM h cs).Pairwise (bef h) := by
  rw [List.pairwise_iff_forall_sublist]
  intro a b hab
  have nM := ranked_nodup nd cs
  have pw := List.pairwise_mergeSort (le := byKey h) (byKey_trans h) (byKey_total h) (h.row.filter (ableB h cs))
  have k1 : byKey h a b = true := List.pairwise_iff_forall_sublist.mp pw hab
  refine ⟨k1, fun k2 => ?_⟩
  have ne : a ≠ b := by
    have := nM.sublist hab
    intro e
    rw [e] at this
    exact (List.nodup_cons.mp this).1 (List.mem_singleton.mpr rfl)
  have ma : a ∈ h.row.filter (ableB h cs) := (List.mergeSort_perm _ _).mem_iff.mp (hab.subset (by simp))
  have mb : b ∈ h.row.filter (ableB h cs) := (List.mergeSort_perm _ _).mem_iff.mp (hab.subset (by simp))
  rcases pair_or ne ma mb with z | z
  · exact z.trans List.filter_sublist
  · exact (pair_nd nM hab (List.pair_sublist_mergeSort (byKey_trans h) (byKey_total h) k2 z)).elim
/-- the rank of all that a house can take -/
def rankL (h : Hs) : List Int := rankedM h h.row
theorem mem_rankedM {h : Hs} {cs : List Int} {k : Int} : k ∈ rankedM h cs ↔ k ∈ h.row ∧ k ∈ cs ∧ (ptAt h k).isSome = true := by
  unfold rankedM
  rw [(List.mergeSort_perm _ _).mem_iff, List.mem_filter]
  unfold ableB
  rw [Bool.and_eq_true, decide_eq_true_eq]
/-- a list that ranks is the rank -/
theorem rank_uniq {h : Hs} (nd : h.row.Nodup) {l m : List Int} (nl : l.Nodup) (nm : m.Nodup) (pl : l.Pairwise (bef h)) (pm : m.Pairwise (bef h)) (e : ∀ k, k ∈ l ↔ k ∈ m) : l = m :=
  List.Perm.eq_of_pairwise (fun a b _ _ h1 h2 => bef_anti nd h1 h2) pl pm ((List.perm_ext_iff_of_nodup nl nm).mpr e)
theorem ranked_eq {h : Hs} (nd : h.row.Nodup) (cs : List Int) : rankedM h cs = (rankL h).filter (fun k => decide (k ∈ cs)) := by
  refine rank_uniq nd (ranked_nodup nd cs) ((ranked_nodup nd _).filter _) (ranked_bef nd cs) ((ranked_bef nd h.row).sublist List.filter_sublist) fun k => ?_
  rw [mem_rankedM, List.mem_filter, rankL, mem_rankedM, decide_eq_true_eq]
  exact ⟨fun ⟨a, b, c⟩ => ⟨⟨a, a, c⟩, b⟩, fun ⟨⟨a, _, c⟩, b⟩ => ⟨a, b, c⟩⟩
theorem ranked_sub {h : Hs} (nd : h.row.Nodup) {S T : List Int} (e : ∀ k ∈ S, k ∈ T) : (rankedM h S).Sublist (rankedM h T) := by
  have e1 : rankedM h S = (rankedM h T).filter (fun k => decide (k ∈ S)) := by
    refine rank_uniq nd (ranked_nodup nd S) ((ranked_nodup nd _).filter _) (ranked_bef nd S) ((ranked_bef nd T).sublist List.filter_sublist) fun k => ?_
    rw [mem_rankedM, List.mem_filter, mem_rankedM, decide_eq_true_eq]
    exact ⟨fun ⟨a, b, c⟩ => ⟨⟨a, e k b, c⟩, b⟩, fun ⟨⟨a, _, c⟩, b⟩ => ⟨a, b, c⟩⟩
  rw [e1]
  exact List.filter_sublist
theorem ableB_congr {h : Hs} {S T : List Int} (e : ∀ k, k ∈ S ↔ k ∈ T) : ableB h S = ableB h T := by
  funext k
  unfold ableB
  rw [decide_eq_decide.mpr (e k)]
theorem ranked_congr {h : Hs} {S T : List Int} (e : ∀ k, k ∈ S ↔ k ∈ T) : rankedM h S = rankedM h T := by
  unfold rankedM
  rw [ableB_congr e]

/-! ### kept seats counted down -/
def split (p : Int → Bool) : Nat → List Int → List Int × List Int
  | _, [] => ([], [])
  | c, k :: l => if p k = true ∧ 0 < c then (k :: (split p (c - 1) l).1, (split p (c - 1) l).2) else ((split p c l).1, k :: (split p c l).2)
theorem split_pos {p : Int → Bool} {c : Nat} {k : Int} {l : List Int} (h : p k = true ∧ 0 < c) : split p c (k :: l) = (k :: (split p (c - 1) l).1, (split p (c - 1) l).2) := if_pos h
theorem split_neg {p : Int → Bool} {c : Nat} {k : Int} {l : List Int} (h : ¬ (p k = true ∧ 0 < c)) : split p c (k :: l) = ((split p c l).1, k :: (split p c l).2) := if_neg h
theorem split_mem {p : Int → Bool} {x : Int} : ∀ (l : List Int) (c : Nat), x ∈ l ↔ x ∈ (split p c l).1 ∨ x ∈ (split p c l).2
  | [], c => by
    show x ∈ [] ↔ x ∈ [] ∨ x ∈ []
    simp
  | k :: l, c => by
    by_cases h : p k = true ∧ 0 < c
    · rw [split_pos h, List.mem_cons, List.mem_cons, split_mem l (c - 1), or_assoc]
    · have ih := split_mem (p := p) (x := x) l c
      rw [split_neg h, List.mem_cons, List.mem_cons, ih]
      exact ⟨fun z => by rcases z with z | z | z
                         · exact Or.inr (Or.inl z)
                         · exact Or.inl z
                         · exact Or.inr (Or.inr z), fun z => by rcases z with z | z | z
                                                                · exact Or.inr (Or.inl z)
                                                                · exact Or.inl z
                                                                · exact Or.inr (Or.inr z)⟩
theorem split_perm {p : Int → Bool} : ∀ (l : List Int) (c : Nat), ((split p c l).1 ++ (split p c l).2).Perm l
  | [], c => .refl _
  | k :: l, c => by
    by_cases h : p k = true ∧ 0 < c
    · rw [split_pos h]
      exact (split_perm l (c - 1)).cons k
    · rw [split_neg h]
      exact List.perm_middle.trans ((split_perm l c).cons k)
theorem split_len {p : Int → Bool} : ∀ (l : List Int) (c : Nat), (split p c l).1.length = min c (l.countP p)
  | [], c => by rw [List.countP_nil, Nat.min_zero] <;> rfl
  | k :: l, c => by
    by_cases h : p k = true ∧ 0 < c
    · rw [split_pos h, List.length_cons, split_len l (c - 1), List.countP_cons_of_pos h.1]
      omega
    · rw [split_neg h, split_len l c]
      by_cases hp : p k = true
      · rw [List.countP_cons_of_pos hp]
        have : c = 0 := by
          by_cases z : c = 0
          · exact z
          · exact absurd ⟨hp, by omega⟩ h
        omega
      · rw [List.countP_cons_of_neg hp]
/-- whom the walk picks: those inside, and the first f others -/
def Pick (p : Int → Bool) (c f : Nat) (l : List Int) (k : Int) : Prop := k ∈ (split p c l).1 ∨ k ∈ (split p c l).2.take f
theorem Pick.mem {p : Int → Bool} {c f : Nat} {l : List Int} {k : Int} (h : Pick p c f l k) : k ∈ l := by
  rcases h with h | h
  · exact (split_mem l c).mpr (Or.inl h)
  · exact (split_mem l c).mpr (Or.inr (List.mem_of_mem_take h))
theorem take_cons_mem {f : Nat} {a k : Int} {l : List Int} (h : k ∈ (a :: l).take f) : 0 < f ∧ (k = a ∨ k ∈ l.take (f - 1)) := by
  cases f with
  | zero => cases h
  | succ f =>
    rw [List.take_succ_cons] at h
    exact ⟨Nat.succ_pos f, List.mem_cons.mp h⟩
theorem mem_take_cons {f : Nat} {a k : Int} {l : List Int} (hf : 0 < f) (h : k = a ∨ k ∈ l.take (f - 1)) : k ∈ (a :: l).take f := by
  cases f with
  | zero => exact absurd hf (Nat.lt_irrefl 0)
  | succ f =>
    rw [List.take_succ_cons]
    exact List.mem_cons.mpr h
theorem mem_take_le {f g : Nat} {k : Int} {l : List Int} (hf : f ≤ g) (h : k ∈ l.take f) : k ∈ l.take g := by
  have e : (l.take g).take f = l.take f := by rw [List.take_take, Nat.min_eq_left hf]
  rw [← e] at h
  exact List.mem_of_mem_take h
theorem Pick.le {p : Int → Bool} {c f g : Nat} {l : List Int} {k : Int} (hf : f ≤ g) (h : Pick p c f l k) : Pick p c g l k := by
  rcases h with h | h
  · exact Or.inl h
  · exact Or.inr (mem_take_le hf h)
/-- fewer to choose from: whoever is picked still is -/
theorem pick_sub {p : Int → Bool} {S T : List Int} (hst : S.Sublist T) : T.Nodup → ∀ {c c' f f' : Nat}, c ≤ c' → f ≤ f' → ∀ {k : Int}, k ∈ S → Pick p c f T k → Pick p c' f' S k := by
  induction hst with
  | slnil => intro _ c c' f f' _ _ k hk _; cases hk
  | cons a hst ih =>
    intro nd c c' f f' hc hf k hk h
    obtain ⟨n1, n2⟩ := List.nodup_cons.mp nd
    have ne : k ≠ a := fun e => n1 (by rw [← e]; exact hst.subset hk)
    by_cases hp : p a = true ∧ 0 < c
    · refine ih n2 (c := c - 1) (f := f) (by omega) hf hk ?_
      unfold Pick at h
      rw [split_pos hp] at h
      rcases h with h | h
      · rcases List.mem_cons.mp h with e | e
        · exact absurd e ne
        · exact Or.inl e
      · exact Or.inr h
    · refine ih n2 (c := c) (f := f) hc hf hk ?_
      unfold Pick at h
      rw [split_neg hp] at h
      rcases h with h | h
      · exact Or.inl h
      · obtain ⟨h1, h2⟩ := take_cons_mem h
        rcases h2 with e | e
        · exact absurd e ne
        · exact Or.inr (mem_take_le (Nat.sub_le f 1) e)
  | cons_cons a hst ih =>
    rename_i l1 l2
    intro nd c c' f f' hc hf k hk h
    obtain ⟨n1, n2⟩ := List.nodup_cons.mp nd
    unfold Pick at h
    by_cases hp : p a = true ∧ 0 < c
    · have hp' : p a = true ∧ 0 < c' := ⟨hp.1, by omega⟩
      unfold Pick
      rw [split_pos hp'] 
      rw [split_pos hp] at h
      by_cases ka : k = a
      · exact Or.inl (by rw [ka]; exact List.mem_cons_self)
      · have hk' : k ∈ l1 := (List.mem_cons.mp hk).resolve_left ka
        have h' : Pick p (c - 1) f l2 k := by
          rcases h with h | h
          · exact Or.inl ((List.mem_cons.mp h).resolve_left ka)
          · exact Or.inr h
        rcases ih n2 (c' := c' - 1) (f' := f') (by omega) hf hk' h' with z | z
        · exact Or.inl (List.mem_cons_of_mem _ z)
        · exact Or.inr z
    · rw [split_neg hp] at h
      by_cases hp' : p a = true ∧ 0 < c'
      · unfold Pick
        rw [split_pos hp']
        by_cases ka : k = a
        · exact Or.inl (by rw [ka]; exact List.mem_cons_self)
        · have hk' : k ∈ l1 := (List.mem_cons.mp hk).resolve_left ka
          have hc0 : c = 0 := by
            by_cases z : c = 0
            · exact z
            · exact absurd ⟨hp'.1, by omega⟩ hp
          have h' : Pick p c f l2 k := by
            rcases h with h | h
            · exact Or.inl h
            · obtain ⟨_, h2⟩ := take_cons_mem h
              exact Or.inr (mem_take_le (Nat.sub_le f 1) (h2.resolve_left ka))
          rcases ih n2 (c' := c' - 1) (f' := f') (by omega) hf hk' h' with z | z
          · exact Or.inl (List.mem_cons_of_mem _ z)
          · exact Or.inr z
      · unfold Pick
        rw [split_neg hp']
        by_cases ka : k = a
        · rcases h with h | h
          · have : a ∈ l2 := (split_mem (p := p) _ c).mpr (Or.inl (by rw [← ka]; exact h))
            exact absurd this n1
          · obtain ⟨h1, _⟩ := take_cons_mem h
            exact Or.inr (mem_take_cons (by omega) (Or.inl ka))
        · have hk' : k ∈ l1 := (List.mem_cons.mp hk).resolve_left ka
          rcases h with h | h
          · rcases ih n2 (c := c) (f := 0) (c' := c') (f' := f' - 1) hc (Nat.zero_le _) hk' (Or.inl h) with z | z
            · exact Or.inl z
            · by_cases hf0 : 0 < f'
              · exact Or.inr (mem_take_cons hf0 (Or.inr z))
              · have : f' - 1 = 0 := by omega
                rw [this] at z
                cases z
          · obtain ⟨h1, h2⟩ := take_cons_mem h
            have h3 := h2.resolve_left ka
            rcases ih n2 (c := c) (f := f - 1) (c' := c') (f' := f' - 1) hc (by omega) hk' (Or.inr h3) with z | z
            · exact Or.inl z
            · exact Or.inr (mem_take_cons (by omega) (Or.inr z))

/-! ### the walk of the program is that split -/
def kindB (h : Hs) (k : Int) : Bool := decide (kindAt h k = h.kind)
theorem fold_split (h : Hs) : ∀ (l : List Int) (x : List Int × List Int) (c : Nat), ((x.1.length : Int) + c = h.kept) → l.foldl (chStep h) x = (x.1 ++ (split (kindB h) c l).1, x.2 ++ (split (kindB h) c l).2)
  | [], x, c, _ => by
    show x = (x.1 ++ [], x.2 ++ [])
    rw [List.append_nil, List.append_nil]
  | k :: l, x, c, e => by
    rw [List.foldl_cons]
    by_cases hp : kindB h k = true ∧ 0 < c
    · have h1 : kindAt h k = h.kind ∧ (x.1.length : Int) < h.kept := ⟨of_decide_eq_true hp.1, by omega⟩
      have e1 : chStep h x k = (x.1 ++ [k], x.2) := by
        unfold chStep
        exact if_pos h1
      rw [e1, fold_split h l _ (c - 1) (by show ((x.1 ++ [k]).length : Int) + _ = _; rw [List.length_append, List.length_singleton]; omega), split_pos hp]
      show ((x.1 ++ [k]) ++ _, _) = _
      rw [List.append_assoc] <;> rfl
    · have h1 : ¬ (kindAt h k = h.kind ∧ (x.1.length : Int) < h.kept) := fun z => hp ⟨decide_eq_true z.1, by omega⟩
      have e1 : chStep h x k = (x.1, x.2 ++ [k]) := by
        unfold chStep
        exact if_neg h1
      rw [e1, fold_split h l (x.1, x.2 ++ [k]) c e, split_neg hp]
      show (_, (x.2 ++ [k]) ++ _) = _
      rw [List.append_assoc] <;> rfl
def insideM (h : Hs) (cs : List Int) : List Int := (split (kindB h) h.kept.toNat (rankedM h cs)).1
def othersM (h : Hs) (cs : List Int) : List Int := (split (kindB h) h.kept.toNat (rankedM h cs)).2
def freeM (h : Hs) (cs : List Int) : Nat := (chFree h (insideM h cs).length).toNat
theorem chosen_eq {h : Hs} (h0 : 0 ≤ h.kept) (cs : List Int) : chosenM h cs = (insideM h cs ++ (othersM h cs).take (freeM h cs)).mergeSort leB := by
  unfold chosenM
  rw [fold_split h _ ([], []) h.kept.toNat (by show (0 : Int) + _ = _; omega)] <;> rfl
theorem mem_chosen {h : Hs} (h0 : 0 ≤ h.kept) {cs : List Int} {k : Int} : k ∈ chosenM h cs ↔ Pick (kindB h) h.kept.toNat (freeM h cs) (rankedM h cs) k := by
  rw [chosen_eq h0, (List.mergeSort_perm _ _).mem_iff, List.mem_append]
  exact Iff.rfl
theorem leB_trans (a b c : Int) : leB a b = true → leB b c = true → leB a c = true := by
  unfold leB
  intro h1 h2
  have := of_decide_eq_true h1
  have := of_decide_eq_true h2
  exact decide_eq_true (by omega)
theorem leB_total (a b : Int) : (leB a b || leB b a) = true := by
  unfold leB
  rcases Int.le_total a b with e | e
  · rw [decide_eq_true e, Bool.true_or]
  · rw [decide_eq_true e, Bool.or_true]
theorem chosen_nodup {h : Hs} {n : Nat} (o : HsOk h n) (cs : List Int) : (chosenM h cs).Nodup := by
  rw [chosen_eq o.kept0]
  refine (List.mergeSort_perm _ _).nodup_iff.mpr ?_
  have h1 : (insideM h cs ++ othersM h cs).Nodup := (split_perm _ _).nodup_iff.mpr (ranked_nodup o.nodup cs)
  exact h1.sublist (List.Sublist.append_left (List.take_sublist _ _) _)
theorem sort_uniq {l m : List Int} (hl : l.Pairwise (fun a b => leB a b = true)) (hm : m.Pairwise (fun a b => leB a b = true)) (p : l.Perm m) : l = m :=
  List.Perm.eq_of_pairwise (fun a b _ _ h1 h2 => by
    have := of_decide_eq_true h1
    have := of_decide_eq_true h2
    omega) hl hm p
theorem sorted_le (l : List Int) : (l.mergeSort leB).Pairwise (fun a b => leB a b = true) := List.pairwise_mergeSort leB_trans leB_total l
theorem chosen_sorted (h : Hs) (cs : List Int) : (chosenM h cs).Pairwise (fun a b => leB a b = true) := sorted_le _
theorem chosen_ext {h : Hs} {n : Nat} (o : HsOk h n) {S : List Int} {l : List Int} (hl : l.Pairwise (fun a b => leB a b = true)) (nl : l.Nodup) (e : ∀ k, k ∈ chosenM h S ↔ k ∈ l) : chosenM h S = l :=
  sort_uniq (chosen_sorted h S) hl ((List.perm_ext_iff_of_nodup (chosen_nodup o S) nl).mpr e)
theorem chosen_in {h : Hs} {n : Nat} (o : HsOk h n) {cs : List Int} {k : Int} (e : k ∈ chosenM h cs) : k ∈ h.row ∧ k ∈ cs ∧ (ptAt h k).isSome = true := mem_rankedM.mp ((mem_chosen o.kept0).mp e).mem
theorem chosen_congr {h : Hs} {S T : List Int} (e : ∀ k, k ∈ S ↔ k ∈ T) : chosenM h S = chosenM h T := by
  unfold chosenM
  rw [ranked_congr e]
theorem in_len {h : Hs} (cs : List Int) : (insideM h cs).length = min h.kept.toNat ((rankedM h cs).countP (kindB h)) := split_len _ _
theorem io_len {h : Hs} (cs : List Int) : (insideM h cs).length + (othersM h cs).length = (rankedM h cs).length := by
  rw [← List.length_append]
  exact (split_perm _ _).length_eq
theorem chosen_len {h : Hs} (h0 : 0 ≤ h.kept) (cs : List Int) : (chosenM h cs).length = (insideM h cs).length + min (freeM h cs) (othersM h cs).length := by
  rw [chosen_eq h0, (List.mergeSort_perm _ _).length_eq, List.length_append, List.length_take]
/-- whoever is chosen out of more is chosen out of fewer -/
theorem ch_subst {h : Hs} {n : Nat} (o : HsOk h n) {S T : List Int} (e : ∀ k ∈ S, k ∈ T) {k : Int} (hk : k ∈ S) (hT : k ∈ chosenM h T) : k ∈ chosenM h S := by
  rw [mem_chosen o.kept0] at hT ⊢
  have sub := ranked_sub o.nodup e
  have hin := mem_rankedM.mp hT.mem
  refine pick_sub sub (ranked_nodup o.nodup T) (Nat.le_refl _) ?_ (mem_rankedM.mpr ⟨hin.1, hk, hin.2.2⟩) hT
  have hc : (rankedM h S).countP (kindB h) ≤ (rankedM h T).countP (kindB h) := sub.countP_le
  have l1 := in_len (h := h) S
  have l2 := in_len (h := h) T
  unfold freeM chFree
  split
  · omega
  · exact Nat.le_refl _
theorem ch_max {h : Hs} {n : Nat} (o : HsOk h n) (S : List Int) : ((chosenM h S).length : Int) ≤ h.seats := by
  have l0 := chosen_len o.kept0 S
  have l1 := in_len (h := h) S
  have := o.kept
  have := o.kept0
  unfold freeM chFree at l0
  split at l0 <;> omega
/-- out of more no fewer are chosen -/
theorem ch_lad {h : Hs} {n : Nat} (o : HsOk h n) {S T : List Int} (e : ∀ k ∈ S, k ∈ T) : (chosenM h S).length ≤ (chosenM h T).length := by
  have sub := ranked_sub (h := h) o.nodup e
  have hc : (rankedM h S).countP (kindB h) ≤ (rankedM h T).countP (kindB h) := sub.countP_le
  have hl := sub.length_le
  have a0 := chosen_len o.kept0 S
  have a1 := in_len (h := h) S
  have a2 := io_len (h := h) S
  have b0 := chosen_len o.kept0 T
  have b1 := in_len (h := h) T
  have b2 := io_len (h := h) T
  have := o.kept
  have := o.kept0
  unfold freeM chFree at a0 b0
  split at a0 <;> rename_i z
  · rw [if_pos z] at b0
    omega
  · rw [if_neg z] at b0
    omega
theorem sub_len : ∀ {l m : List Int}, l.Nodup → (∀ k ∈ l, k ∈ m) → l.length ≤ m.length
  | [], m, _, _ => Nat.zero_le _
  | a :: l, m, nd, h => by
    obtain ⟨n1, n2⟩ := List.nodup_cons.mp nd
    have ha : a ∈ m := h a List.mem_cons_self
    have h2 := sub_len (l := l) (m := m.erase a) n2 fun k hk => (List.mem_erase_of_ne (fun e => n1 (by rw [← e]; exact hk))).mpr (h k (List.mem_cons_of_mem _ hk))
    rw [List.length_erase_of_mem ha] at h2
    have := List.length_pos_of_mem ha
    rw [List.length_cons]
    omega
theorem sub_eq {l m : List Int} (nl : l.Nodup) (nm : m.Nodup) (h : ∀ k ∈ l, k ∈ m) (hl : m.length ≤ l.length) : ∀ k ∈ m, k ∈ l := by
  intro k hk
  by_cases z : k ∈ l
  · exact z
  · have h2 := sub_len (l := k :: l) (m := m) (List.nodup_cons.mpr ⟨z, nl⟩) fun x hx => by
      rcases List.mem_cons.mp hx with e | e
      · rw [e]
        exact hk
      · exact h x e
    rw [List.length_cons] at h2
    omega
/-- out of those chosen and some others the same are chosen -/
theorem ch_irc {h : Hs} {n : Nat} (o : HsOk h n) {S T : List Int} (e : ∀ k ∈ S, k ∈ T) (c : ∀ k ∈ chosenM h T, k ∈ S) : chosenM h S = chosenM h T := by
  have h1 : ∀ k ∈ chosenM h T, k ∈ chosenM h S := fun k hk => ch_subst o e (c k hk) hk
  have h2 := sub_eq (chosen_nodup o T) (chosen_nodup o S) h1 (ch_lad o e)
  exact sort_uniq (chosen_sorted h S) (chosen_sorted h T) ((List.perm_ext_iff_of_nodup (chosen_nodup o S) (chosen_nodup o T)).mpr fun k => ⟨h2 k, h1 k⟩)
end CH

/-! Choosehall: what the law's small helpers promise. -/
namespace CH
open PySem L2

section
variable {P : Program} {w : World} {g : Gb} {mg : Str → Option Value} {base : Heap} {f : Addr} {fd : FuncData}

def RCell : List D → Sl → Prop := fun ds r => ∃ (s : List Int) (k : Int), ds = [.scr s, .int k] ∧ 0 ≤ k ∧ r = .v (.int (cellAt s k))
theorem c_cell (F : FnP g.K "_law_cell_at" "_law_cell_at" s__law_cell_at f fd) (hm : mg "_law_cell_at" = some (.ref f)) (fr : Free mg) : Cal P w g mg base "_law_cell_at" 1 RCell := by
  refine cal_by (N := ["script", "k"]) (ps := ["script", "k"]) F ⟨rfl, rfl, rfl, by decide +kernel, rfl, by decide +kernel, by decide +kernel⟩ hm (fun _ _ _ _ _ _ us hl => match us, hl with | [_, _], _ => rfl) ?_ ?_
  · rintro ds r ⟨s, k, rfl, _, _⟩
    rfl
  · rintro ds r cdv A outer s0 H E ⟨s, k, rfl, h0, rfl⟩ hr
    refine ss_cons (s_if (et_cmp (ev_var 1) (ev_len rfl fr (ev_var 0) rfl) cmp_lt) (fun h => ss_one (s_ret (ev_ix (d := .int (cellAt s k)) rfl (ev_var 0) (ev_var 1) ?_) rfl)) (fun h => ss_nil (ss_one (s_ret ev_int ?_))))
    · have h1 := of_decide_eq_true h
      show (atI s k).map D.int = _
      unfold atI ixN
      rw [if_pos h0, if_pos h1]
      show (s[k.toNat]?).map D.int = _
      unfold cellAt
      rw [List.getD_eq_getElem?_getD]
      rw [List.getElem?_eq_getElem (by omega)] <;> rfl
    · have h1 := of_decide_eq_false h
      show Sl.v (.int 0) = .v (.int (cellAt s k))
      unfold cellAt
      rw [List.getD_eq_getElem?_getD, List.getElem?_eq_none (by omega)] <;> rfl

end
end CH

/-! Choosehall: what a law promises; small things. -/
namespace CH
open PySem L2
def RLaw : List D → Sl → Prop := fun ds r => ∃ (s : List Int), ds = [.scr s] ∧ r = .v (.bl true)
theorem at0 {d : D} {l : List D} : (D.lst (d :: l)).at_ 0 = some d := at_nat (by decide) rfl
theorem rg_cons {n : Int} (h : 0 < n) : rg 0 n = 0 :: rg 1 n := by
  unfold rg
  have e : (n - 0).toNat = (n - 1).toNat + 1 := by omega
  rw [e, List.range_succ_eq_map, List.map_cons, List.map_map]
  congr 1
  refine List.map_congr_left fun i _ => ?_
  show (0 : Int) + ((i + 1 : Nat) : Int) = 1 + (i : Int)
  omega
theorem wRows_cons (s : List Int) (top : Int) : ∃ t, wRows s top = wHs s top 0 :: t := by
  obtain ⟨h1, h2⟩ := wHouses_pos s
  unfold wRows
  rw [rg_cons (by omega)]
  exact ⟨_, rfl⟩
theorem eqv_self (l : List Int) : (intsD l).eqv (intsD l) = true := by rw [eqv_ints, decide_eq_true rfl]
theorem no_chosen {h : Hs} (p q r : Addr) : (flds h p q r).lookup ("chosen" : Str) = none := lk_no (by decide) (by decide) (by decide) (by decide) (by decide) (by decide) (by decide)
theorem no_ranked {h : Hs} (p q r : Addr) : (flds h p q r).lookup ("ranked" : Str) = none := lk_no (by decide) (by decide) (by decide) (by decide) (by decide) (by decide) (by decide)
theorem no_more {h : Hs} (p q r : Addr) : (flds h p q r).lookup ("with_more" : Str) = none := lk_no (by decide) (by decide) (by decide) (by decide) (by decide) (by decide) (by decide)
end CH

/-! Choosehall: longer and, or. -/
namespace CH
open PySem L2
section
variable {g : Gb} {X : Cx} {G : List Sl} {a b c d : Expr} {rest : List Expr} {pos : Pos}
theorem ev_andN {r r' : Bool} (h : EvD g X G a (.bl r)) (h' : r = true → EvD g X G (.BoolOp .And (b :: rest) pos) (.bl r')) : EvD g X G (.BoolOp .And (a :: b :: rest) pos) (.bl (r && r')) := by
  intro F H σ ow k Q q
  refine we_of (pe_and pe_we pe_we) ?_
  refine h F H σ ow k _ fun v F1 H1 u r1 => ⟨r, of_bl r1, ?_⟩
  cases r with
  | true => exact h' rfl F1 H1 σ ow (k.up u) _ fun v F2 H2 u2 r2 => q v F2 H2 (u.trans u2) r2
  | false => exact q _ F1 H1 u (rep_bl false)
theorem ev_orN {r r' : Bool} (h : EvD g X G a (.bl r)) (h' : r = false → EvD g X G (.BoolOp .Or (b :: rest) pos) (.bl r')) : EvD g X G (.BoolOp .Or (a :: b :: rest) pos) (.bl (r || r')) := by
  intro F H σ ow k Q q
  refine we_of (pe_or pe_we pe_we) ?_
  refine h F H σ ow k _ fun v F1 H1 u r1 => ⟨r, of_bl r1, ?_⟩
  cases r with
  | true => exact q _ F1 H1 u (rep_bl true)
  | false => exact h' rfl F1 H1 σ ow (k.up u) _ fun v F2 H2 u2 r2 => q v F2 H2 (u.trans u2) r2
theorem et_and3 {r r' r'' : Bool} (h : EvT g X G a r) (h' : r = true → EvT g X G b r') (h'' : r = true → r' = true → EvT g X G c r'') : EvT g X G (.BoolOp .And [a, b, c] pos) (r && (r' && r'')) := by
  intro F H σ ow k Q q
  refine wt_of (PW.pt (pw_and pt_wt (pw_and pt_wt (pw_and1 pt_wt)))) ?_
  refine h F H σ ow k _ fun F1 H1 u => ?_
  cases r with
  | false => exact q F1 H1 u
  | true =>
    refine h' rfl F1 H1 σ ow (k.up u) _ fun F2 H2 u2 => ?_
    cases r' with
    | false => exact q F2 H2 (u.trans u2)
    | true => exact h'' rfl rfl F2 H2 σ ow ((k.up u).up u2) _ fun F3 H3 u3 => q F3 H3 ((u.trans u2).trans u3)
end
theorem drop_cut {l : List D} {n : Int} (h : 0 ≤ n) : cutD l (some n) none = l.drop n.toNat := by
  obtain ⟨m, rfl⟩ := Int.eq_ofNat_of_zero_le h
  unfold cutD
  rw [HT.sIx_none, show (HT.sIx l.length 0 (some ((m : Nat) : Int))) = min m l.length from HT.sIx_nat _ _ m, Int.toNat_natCast]
  by_cases hm : m ≤ l.length
  · rw [Nat.min_eq_left hm, List.take_of_length_le (by rw [List.length_drop]; exact Nat.le_refl _)]
  · rw [Nat.min_eq_right (by omega), Nat.sub_self, List.take_zero, List.drop_eq_nil_of_le (by omega)]
end CH

/-! Choosehall: row.index(x). -/
namespace CH
open PySem L2
section
variable {g : Gb} {X : Cx} {G : List Sl} {o e : Expr} {pos apos cpos : Pos}
theorem ev_index {l : List Int} {x : Int} {j : Nat} (hK : X.K = g.K) (h1 : EvD g X G o (.lst (l.map D.int))) (h2 : EvD g X G e (.int x)) (hj : l[j]? = some x) (hn : ∀ m, m < j → l[m]? ≠ some x)
    (mc : MC X o "index" apos e [] cpos := by exact ⟨rfl, rfl, rfl, rfl, rfl⟩) : EvD g X G (.Call (.Attribute o "index" apos) [e] [] cpos) (.int (j : Int)) := by
  intro F H σ ow ok Q q
  refine we_of (pe_bm PySem.F.plainAttrs_list PySem.F.slot_list_index PySem.F.type_list_index mt_index pe_we (pa_cons pe_we pa_nil mc.star) mc.base mc.few mc.line mc.star mc.plain) ?_
  refine h1 F H σ ow ok _ fun v F1 H1 u r => ?_
  obtain ⟨a, xs, rfl, f1, r1⟩ := of_lst r
  have e3 := ints_of r1
  subst e3
  refine ⟨ty_lst (u.fit.low _ _ f1), ?_⟩
  refine h2 F1 H1 σ ow (ok.up u) _ fun v2 F2 H2 u2 r2 => ?_
  have e4 := of_int r2
  subst e4
  refine ⟨a, l.map V.int, .int x, j, .int x, rfl, rfl, ?_, rfl, ?_, by rw [List.getElem?_map, hj] <;> rfl, decide_eq_true rfl, fun m z hm hz => ?_, q _ F2 H2 (u.trans u2) (rep_int _)⟩
  · rw [hK]
    exact SqL.of (u2.ext _ _ (u.fit.low _ _ f1) nt_lst)
  · rw [List.all_map]
    exact List.all_eq_true.mpr fun _ _ => rfl
  · rw [List.getElem?_map] at hz
    obtain ⟨y, hy, rfl⟩ := Option.map_eq_some_iff.mp hz
    exact decide_eq_false fun w => hn m hm (by rw [hy, w])
end
theorem inV_oi (p : Option Int) (l : List Int) : inV (vOi p) (l.map V.int) = l.any fun x => decide (some x = p) := by
  unfold inV
  rw [List.any_map]
  congr 1
  funext x
  cases p with
  | none => rfl
  | some y =>
    show eqV (.int x) (.int y) = decide (some x = some y)
    have e : eqV (.int x) (.int y) = decide (x = y) := rfl
    rw [e]
    exact decide_eq_decide.mpr ⟨fun h => congrArg some h, Option.some.inj⟩
theorem fl_oi (p : Option Int) : (D.oi p).fl = some (vOi p) := by cases p <;> rfl
end CH

/-! Choosehall: y = [x for x in d if d[x] == z] on one line; a dict told. -/
namespace CH
open PySem L2
section
variable {g : Gb} {X : Cx} {G : List Sl} {e1 : Expr} {pos spos p p2 p3 p4 p5 p6 p7 p8 py : Pos} {x y z u : Str} {scope : Scope} {k : KE}
theorem s_retOwnD (i : Nat) {kvs : List (Int × V)} (q : k.rt (.dc kvs)) (hG : G[i]? = some (.dc kvs) := by rfl) (hN : X.N[i]? = some x := by rfl) (hv : Vis X.env.scope x := by first | exact Or.inl rfl | exact Or.inr (Or.inl rfl) | exact Or.inr (Or.inr rfl))
    (hd : (x == ("__debug__" : Str)) = false := by decide) (hcd : (x == ("__classdict__" : Str)) = false := by decide) : S1 g X G (.Return (some (.Name x p)) pos) k := fun B F H σ ow ok bk F1 s1 => by
  refine ws_of (ps_ret (pe_var hN hv hd hcd)) ?_
  obtain ⟨o, h1, h2, h3, h4⟩ := ok.at_ i _ hG
  exact ⟨.ref (ow i), by rw [h1, h2], .dc kvs, F, q, bk.up, ow i, rfl, bk.fresh i _ hG rfl, h4, h3⟩
theorem noLL_ints : ∀ l : List Int, noLL (l.map D.int) = true
  | [] => rfl
  | _ :: l => noLL_ints l
theorem noLL_ois : ∀ l : List (Option Int), noLL (l.map D.oi) = true
  | [] => rfl
  | none :: l => noLL_ois l
  | some _ :: l => noLL_ois l
/-- [x for x in d if d[x] == z], d a dict of the frame's own with ints -/
theorem s_lcD (i j l t : Nat) {kvs : List (Int × Int)} {m : Int} (hu : X.A.units + 1 < cLine) (hnd : (kvs.map (·.1)).Nodup) (hl : kvs.length ≤ 90000)
    (hG : G[i]? = some (.dc (kvs.map fun p => (p.1, V.int p.2)))) (hZ : G[l]? = some (.v (.int m))) (hij : i ≠ j) (hlj : l ≠ j) (hjl : j < G.length)
    (hn : NmV X i y) (hb : blkC X.N X.env.scope scope [(x, j)] = true := by kernel_rfl)
    (hny : ∀ (s : Shared) (H0 : Hp) (C : Addr) (cl : List (Str × Addr)) (fp : List Addr), NmV (X.blk s H0 scope (compEnvC scope cl C X.env) fp) i y) (hnz : ∀ (s : Shared) (H0 : Hp) (C : Addr) (cl : List (Str × Addr)) (fp : List Addr), NmV (X.blk s H0 scope (compEnvC scope cl C X.env) fp) l z)
    (hnx : ∀ (s : Shared) (H0 : Hp) (C : Addr) (cl : List (Str × Addr)) (fp : List Addr), NmV (X.blk s H0 scope (compEnvC scope cl C X.env) fp) j x)
    (hN : X.N.Nodup := by exact nd_by (by kernel_rfl)) (hj : X.N[j]? = some x := by rfl) (hx : BlkT X scope x := by first | exact ⟨Or.inl rfl, Or.inr rfl⟩ | exact ⟨Or.inr rfl, Or.inl rfl⟩) (hc : X.calm = true := by rfl)
    (hfo : ∀ v, foldedSetIterable (.Name y p2) X.env v = pure v := by intro _; rfl)
    (hk : k.nx (G.set t (.m (((kvs.filter fun p => decide (p.2 = m)).map (·.1)).map D.int))))
    (hsw : swapsWith (.ListComp (.Name x p) [⟨.Name x p3, .Name y p2, [.Compare (.Subscript (.Name y p4) (.Name x p5) p6) [.Eq] [.Name z p7] p8], 0⟩] scope pos) (some (.Name u py)) spos.line X.env = pure true := by exact sw_true rfl rfl rfl (by kernel_rfl))
    (ht : X.N[t]? = some u := by rfl) (hul : X.env.scope.names.lookup u = some .local := by rfl) :
    S1 g X G (.Assign [.Name u py] (.ListComp (.Name x p) [⟨.Name x p3, .Name y p2, [.Compare (.Subscript (.Name y p4) (.Name x p5) p6) [.Eq] [.Name z p7] p8], 0⟩] scope pos) spos) k := fun B F H σ ow ok bk F1 sF1 => by
  obtain ⟨f1, f2, f3⟩ := ok.ownD hG
  refine ws_of (ps_lock (ps_setLc (i := t) (own := [(x, j)]) (g := gName j) (tt := tTest (tOp rEq (tDGet (tVar i) (tVar j)) (tVar l))) (te := tVar j) hc hN ht hul hsw (pi_keys (pe_nm hn)) (blkOk_by hb) (pg_blk j hN hj hx)
    (fun s H C cl fp => pts_one (pt_cmpR op_eq (pe_dget (X := X.blk s H scope (compEnvC scope cl C X.env) fp) hu (pe_nm (hny s H C cl fp)) (pe_nm (hnx s H C cl fp)) (fun _ _ => rfl)) (pe_nm (hnz s H C cl fp)) (nomark _))) (fun s H C cl fp => pe_nm (hnx s H C cl fp)) hfo)) ?_
  refine ⟨ow i, _, f3, True.intro, fun od => ?_⟩
  refine ⟨_, f1, ow i, od, rfl, Or.inl ⟨_, upd_same, fun D hD => ?_⟩⟩
  have hDi : ow i ≠ D := fun w => by
    rw [← w, upd_same] at hD
    cases hD
  have hD0 : H D = none := by
    rw [upd_ne (Ne.symm hDi)] at hD
    exact hD
  have hlen : (dkv (kvs.map fun p => (p.1, V.int p.2))).length = kvs.length := by
    unfold dkv
    rw [List.length_map, List.length_map]
  have hkey : ∀ n : Nat, (dkv (kvs.map fun p => (p.1, V.int p.2)))[n]? = (kvs[n]?).map fun p => ((Sum.inl p.1 : Key), V.int p.2) := fun n => by
    unfold dkv
    rw [List.getElem?_map, List.getElem?_map, Option.map_map] <;> rfl
  obtain ⟨oz, z1, vz, z2, z3⟩ := ok.at_ l _ hZ
  have z4 := of_int z3
  refine lc_it (walk_keys (d := ow i) (o := od) (kvs := dkv (kvs.map fun p => (p.1, V.int p.2)))) (fun n H' => H' = upd (upd H (ow i) (.frz od (.dK (dkv (kvs.map fun p => (p.1, V.int p.2)))))) D (.lst ((((kvs.take n).filter fun p => decide (p.2 = m)).map (·.1)).map V.int))) rfl (fun n H' _ e => by rw [e, upd_ne hDi, upd_same]) (fun n v H' H3 hn e y0 => ?_) (fun H' e => ?_)
  · obtain ⟨e3, kk, vv, k1, k2⟩ := y0
    subst e3
    rw [hkey n] at k1
    obtain ⟨pr, hp⟩ : ∃ pr, kvs[n]? = some pr := by
      cases w : kvs[n]? with
      | none =>
        rw [w] at k1
        cases k1
      | some pr => exact ⟨pr, rfl⟩
    rw [hp] at k1
    have k3 := Option.some.inj k1
    have k4 : (Sum.inl pr.1 : Key) = kk := congrArg Prod.fst k3
    subst k4
    have k5 : v = V.int pr.1 := k2
    have hjs : j < σ.length := by rw [ok.len]; exact hjl
    have ew : ((wipe σ [j]).set j (some v)) = σ.set j (some v) := by
      show (σ.set j none).set j (some v) = _
      rw [List.set_set]
    have hHi : H3 (ow i) = some (.frz od (.dK (dkv (kvs.map fun p => (p.1, V.int p.2))))) := by
      rw [e, upd_ne hDi, upd_same]
    refine ⟨?_, ?_⟩
    · show ((wipe σ [j]).set j (some v)).set j none = (σ.set j none)
      rw [ew, List.set_set]
    · show tTest _ ((wipe σ [j]).set j (some v)) _ _
      rw [ew]
      have hval := find_nd hnd (List.mem_of_getElem? hp)
      refine ⟨V.ref (ow i), ?_, V.int pr.1, ?_, ow i, V.int pr.2, rfl, Or.inl ⟨_, Sum.inl pr.1, Or.inr ⟨od, hHi⟩, rfl, ?_⟩, V.int m, ?_, rfl, decide (pr.2 = m), ?_, ?_⟩
      · rw [List.getElem?_set_ne (Ne.symm hij)]
        exact f1
      · rw [List.getElem?_set_self hjs, k5]
      · rw [val_dkv, hval]
      · rw [List.getElem?_set_ne (Ne.symm hlj), z1, z2, z4]
      · congr 1
        by_cases h : pr.2 = m
        · rw [decide_eq_true h, h, decide_eq_true rfl]
        · rw [decide_eq_false h, decide_eq_false fun w => h (by injection w)]
      · have hs := filt_snoc (q := fun p : Int × Int => decide (p.2 = m)) hp
        by_cases h : pr.2 = m
        · rw [decide_eq_true h]
          refine iteT ⟨v, List.getElem?_set_self (by rw [show (wipe σ (List.map (fun x => x.snd) [(x, j)])) = σ.set j none from rfl, List.length_set]; exact hjs), _, (by rw [e]; exact upd_same), ?_, ?_⟩
          · rw [List.length_map, List.length_map]
            refine Nat.lt_of_le_of_lt (Nat.le_trans (List.length_filter_le _ _) (Nat.le_trans (by rw [List.length_take]; exact Nat.min_le_right _ _) hl)) (by decide)
          · rw [e, upd_upd, hs, if_pos (by exact decide_eq_true h), List.map_append, List.map_append, k5] <;> rfl
        · rw [decide_eq_false h]
          refine iteF ?_
          rw [e, hs, if_neg (by rw [decide_eq_false h]; decide), List.append_nil]
  · rw [hlen, List.take_length] at e
    subst e
    refine ⟨by rw [upd_ne hDi, upd_same], ?_⟩
    have e5 : upd (upd (upd H (ow i) (.frz od (.dK (dkv (kvs.map fun p => (p.1, V.int p.2)))))) D (.lst ((((kvs.filter fun p => decide (p.2 = m)).map (·.1)).map V.int)))) (ow i) (.dK (dkv (kvs.map fun p => (p.1, V.int p.2)))) = upd H D (.lst ((((kvs.filter fun p => decide (p.2 = m)).map (·.1)).map V.int))) := by
      funext b
      by_cases hb : b = ow i
      · subst hb
        rw [upd_same, upd_ne hDi, f3]
      · rw [upd_ne hb]
        by_cases hb2 : b = D
        · subst hb2
          rw [upd_same, upd_same]
        · rw [upd_ne hb2, upd_ne hb2, upd_ne hb]
    rw [e5]
    refine rt_new ok.fit (repL_ints (((kvs.filter fun p => decide (p.2 = m)).map (·.1)))) (Q := fun v H2 => gName t v σ H2 (ends g B F1 k).nx) (fun v F2 H2 u r => ?_) hD0
    obtain ⟨ow', k1, b1⟩ := store (i := t) ok bk u r
    exact ⟨_, F2, ow', hk, k1, b1, sF1.trans u.sub⟩
end
end CH

/-! Choosehall: texts. -/
namespace CH
open PySem L2
section
variable {g : Gb} {X : Cx} {G : List Sl} {a b c e o : Expr} {pos p p2 apos : Pos}
theorem cmp_eqS {x y : Str} : CmpOk g X .Eq (.str x) (.str y) (decide (x = y)) := ⟨rEq, op_eq, fun F H v1 v2 hf r1 r2 Q q => by
  rw [of_str r1, of_str r2]
  refine ⟨rfl, ?_⟩
  have e : decide (V.str x = V.str y) = decide (x = y) := decide_eq_decide.mpr ⟨fun h => by injection h, fun h => by rw [h]⟩
  rw [e]
  exact q⟩
theorem cmp_neS {x y : Str} : CmpOk g X .NotEq (.str x) (.str y) (!decide (x = y)) := ⟨rNe, op_ne, fun F H v1 v2 hf r1 r2 Q q => by
  rw [of_str r1, of_str r2]
  refine ⟨rfl, ?_⟩
  have e : decide (V.str x = V.str y) = decide (x = y) := decide_eq_decide.mpr ⟨fun h => by injection h, fun h => by rw [h]⟩
  rw [e]
  exact q⟩
/-- one sign in a text, not in a text -/
theorem cmp_notin1 {k : Nat} {y : Str} : CmpOk g X .NotIn (.str ⟨#[k]⟩) (.str y) (!decide (k ∈ y.cps.toList)) := ⟨_, op_notIn_str, fun F H v1 v2 hf r1 r2 Q q => by
  refine ⟨⟨#[k]⟩, y, of_str r1, of_str r2, ?_⟩
  rw [PySem.StrLaws.found_one]
  exact q⟩
theorem strs_of {F : Hp} {l : List Str} {xs : List V} (h : RepL g F (l.map D.str) xs) : xs = l.map V.str := repL_of D.str V.str (fun _ _ => of_str) h
theorem repL_strs {F : Hp} (l : List Str) : RepL g F (l.map D.str) (l.map V.str) := repL_map D.str V.str rep_str l
/-- x.split(y) -/
theorem ev_split {x y : Str} (h1 : EvD g X G o (.str x)) (h2 : EvD g X G e (.str y)) (hy : (y.length == 0) = false) (hl : x.length ≤ 90000) (hs : starEach [e] X.env = [(false, eval e X.env)] := by rfl)
    (hb : attributeBase o "split" X.env (eval o X.env) = eval o X.env := by rfl) (hline : (apos.endLine == pos.line) = true := by rfl) : Ev g X G (.Call (.Attribute o "split" apos) [e] [] pos) (.m ((Txt.split x y).map D.str)) := by
  intro F H σ ow k Q q
  refine we_of (pe_split pe_we pe_we (hs := hs) (hbase := hb) (hline := hline)) ?_
  refine h1 F H σ ow k _ fun v F1 H1 u r => ⟨⟨x, of_str r⟩, ?_⟩
  refine h2 F1 H1 σ ow (k.up u) _ fun v2 F2 H2 u2 r2 => ⟨x, y, of_str r, by rw [of_str r2], hy, Nat.le_trans (Nat.add_le_add_right hl 2) (by decide), fun p hp => ?_⟩
  exact rt_new u2.fit (repL_strs _) (fun v F3 H3 u3 r3 => q v F3 H3 ((u.trans u2).trans u3) (r3.back (u.trans u2).ext)) hp
/-- x.join(l) -/
theorem ev_join {x : Str} {l : List Str} (hK : X.K = g.K) (h1 : EvD g X G o (.str x)) (h2 : EvD g X G e (.lst (l.map D.str))) (hl : (l.map (·.length)).sum + l.length * x.length ≤ 16777216) (hs : starEach [e] X.env = [(false, eval e X.env)] := by rfl)
    (hb : attributeBase o "join" X.env (eval o X.env) = eval o X.env := by rfl) (hline : (apos.endLine == pos.line) = true := by rfl) : EvD g X G (.Call (.Attribute o "join" apos) [e] [] pos) (.str (Txt.join x l)) := by
  intro F H σ ow k Q q
  refine we_of (pe_join pe_we pe_we (hs := hs) (hbase := hb) (hline := hline)) ?_
  refine h1 F H σ ow k _ fun v F1 H1 u r => ⟨⟨x, of_str r⟩, ?_⟩
  refine h2 F1 H1 σ ow (k.up u) _ fun v2 F2 H2 u2 r2 => ?_
  obtain ⟨t, xs, rfl, f1, f2⟩ := of_lst r2
  have e3 := strs_of f2
  subst e3
  exact ⟨x, t, l, of_str r, rfl, Or.inl (by rw [hK]; exact SqL.of (u2.fit.low _ _ f1)), hl, q _ F2 H2 (u.trans u2) (rep_str _)⟩
/-- x.endswith(y) -/
theorem ev_endswith {x y : Str} (h1 : EvD g X G o (.str x)) (h2 : EvD g X G e (.str y)) (hs : starEach [e] X.env = [(false, eval e X.env)] := by rfl)
    (hb : attributeBase o "endswith" X.env (eval o X.env) = eval o X.env := by rfl) (hline : (apos.endLine == pos.line) = true := by rfl) : EvD g X G (.Call (.Attribute o "endswith" apos) [e] [] pos) (.bl (Txt.endswith x y)) := by
  intro F H σ ow k Q q
  refine we_of (pe_m1 PySem.F.slot_str_endswith PySem.F.type_str_endswith mt_endswith pe_we pe_we hs hb hline) ?_
  refine h1 F H σ ow k _ fun v F1 H1 u r => ⟨⟨x, of_str r⟩, ?_⟩
  refine h2 F1 H1 σ ow (k.up u) _ fun v2 F2 H2 u2 r2 => ⟨x, y, of_str r, by rw [of_str r2], q _ F2 H2 (u.trans u2) (rep_bl _)⟩
/-- x[lo:hi], x a text -/
theorem ev_slS {x : Str} {lo hi : Option Expr} {l h : Option Int} (ha : EvD g X G a (.str x)) (hx : x.length ≤ 100000) (hl : EvO g X G lo l) (hh : EvO g X G hi h) : EvD g X G (.Subscript a (.Slice lo hi none p2) pos) (.str (Txt.slice x l h)) := by
  intro F H σ ow k Q q
  refine we_of (pe_slice C8.sl_txt pe_we po_wo po_wo) ?_
  refine ha F H σ ow k _ fun v1 F1 H1 u1 r1 => ?_
  refine hl F1 H1 σ ow (k.up u1) _ fun F2 H2 u2 => ?_
  refine hh F2 H2 σ ow ((k.up u1).up u2) _ fun F3 H3 u3 => ?_
  exact ⟨x, of_str r1, Nat.le_trans hx (by decide), q _ F3 H3 ((u1.trans u2).trans u3) (rep_str _)⟩
end
end CH

/-! Choosehall: numbers and lines as lists of signs. -/
namespace CH
open PySem L2
/-- a number written by the rules -/
def numOk (l : List Nat) : Bool := decide (l ≠ []) && (decide (l.length ≤ 6) && (l.all (fun c => decide (48 ≤ c ∧ c ≤ 57)) && decide (l.head? = some 48 → l = [48])))
def numV (l : List Nat) : Int := (NumText.digitsVal l : Nat)
theorem head_app {a b : List Nat} (h : a ≠ []) : (a ++ b).head? = a.head? := by
  cases a with
  | nil => exact absurd rfl h
  | cons x l => rfl
theorem numL_head : ∀ n : Nat, (TL.numL n).head? = some 48 → n = 0 := by
  intro n
  induction n using Nat.strongRecOn with
  | _ n ih =>
    intro h
    by_cases hn : n < 10
    · rw [TL.numL_lt hn] at h
      have := Option.some.inj h
      omega
    · rw [TL.numL_step (by omega), head_app (TL.numL_ne _)] at h
      have := ih (n / 10) (by omega) h
      omega
theorem numL_ok {n : Nat} (h : n < 1000000) : numOk (TL.numL n) = true := by
  unfold numOk
  rw [Bool.and_eq_true, Bool.and_eq_true, Bool.and_eq_true]
  refine ⟨decide_eq_true (TL.numL_ne n), decide_eq_true (TL.numL_len (by decide) h), List.all_eq_true.mpr fun c hc => decide_eq_true (TL.numL_digits n c hc), decide_eq_true fun z => ?_⟩
  rw [numL_head n z] <;> rfl
theorem numL_v (n : Nat) : numV (TL.numL n) = (n : Int) := by
  unfold numV
  rw [TL.numL_val]
def txtOf (i : Int) : List Nat := TL.numL i.toNat
theorem str_nat {i : Int} (h : 0 ≤ i) : Str.ofString (toString i) = SX.S (txtOf i) := by
  obtain ⟨n, rfl⟩ := Int.eq_ofNat_of_zero_le h
  refine TL.ext_tl ?_
  have e := TL.tl_num n
  unfold txtOf
  rw [Int.toNat_natCast]
  exact e
/-- a comer's line -/
def tailL (row : List Int) : List Nat := row.flatMap fun h => 32 :: txtOf h
def lineL (c : Int) (row : List Int) : List Nat := txtOf c ++ [58] ++ tailL row
def partsL (c : Int) (row : List Int) : List (List Nat) := (txtOf c ++ [58]) :: row.map txtOf
theorem join_tail : ∀ (p : List Nat) (row : List Int), TL.joinL [32] (p :: row.map txtOf) = p ++ tailL row
  | p, [] => by
    show p = p ++ []
    rw [List.append_nil]
  | p, h :: row => by
    show p ++ ([32] ++ TL.joinL [32] (txtOf h :: row.map txtOf)) = _
    rw [join_tail (txtOf h) row]
    rfl
theorem line_join (c : Int) (row : List Int) : lineL c row = TL.joinL [32] (partsL c row) := by
  unfold partsL
  rw [join_tail] <;> rfl
theorem line_split (c : Int) (row : List Int) : Txt.split (SX.S (lineL c row)) (SX.S [32]) = (partsL c row).map SX.S := by
  rw [SX.split_S (by intro z; cases z) (by decide), line_join, SX.spl_join (fun z => by cases z) fun p hp hm => ?_]
  unfold partsL at hp
  rcases List.mem_cons.mp hp with e | e
  · rw [e] at hm
    rcases List.mem_append.mp hm with w | w
    · exact TL.numL_free (Or.inl (by decide)) w
    · exact absurd (List.mem_singleton.mp w) (by decide)
  · obtain ⟨h, _, rfl⟩ := List.mem_map.mp e
    exact TL.numL_free (Or.inl (by decide)) hm
theorem tail_snoc (row : List Int) (h : Int) : tailL (row ++ [h]) = tailL row ++ (32 :: txtOf h) := by
  unfold tailL
  rw [List.flatMap_append, List.flatMap_singleton]
theorem txt_len {i : Int} (h0 : 0 ≤ i) (h1 : i < 1000000) : (txtOf i).length ≤ 6 := TL.numL_len (by decide) (by omega)
theorem tail_len : ∀ {row : List Int}, (∀ h ∈ row, 0 ≤ h ∧ h < 1000000) → (tailL row).length ≤ 7 * row.length
  | [], _ => Nat.le_refl _
  | a :: row, h => by
    have e : tailL (a :: row) = (32 :: txtOf a) ++ tailL row := rfl
    have h1 := tail_len fun x hx => h x (List.mem_cons_of_mem _ hx)
    have h2 := txt_len (h a List.mem_cons_self).1 (h a List.mem_cons_self).2
    rw [e, List.length_append, List.length_cons, List.length_cons]
    omega
theorem join_none : ∀ row : List Int, Txt.join (SX.S []) (row.map fun h => SX.S (32 :: txtOf h)) = SX.S (tailL row) := fun row => by
  have e : (row.map fun h => SX.S (32 :: txtOf h)) = (row.map fun h => 32 :: txtOf h).map SX.S := by rw [List.map_map] <;> rfl
  rw [e, SX.join_S]
  congr 1
  have key : ∀ l : List (List Nat), TL.joinL [] l = l.flatten := fun l => by
    induction l with
    | nil => rfl
    | cons p l ih =>
      cases l with
      | nil =>
        show p = p ++ []
        rw [List.append_nil]
      | cons q r =>
        show p ++ ([] ++ TL.joinL [] (q :: r)) = p ++ (q :: r).flatten
        rw [ih] <;> rfl
  rw [key]
  unfold tailL
  rw [List.flatMap_def]
/-! ### law k01's rows -/
def row1Step (k : Nat) (x : RowSt) : RowSt :=
  let n := (x.c % (x.l.length : Int)).toNat
  ⟨x.c / (8 - (k : Int)), x.l.eraseIdx n, x.r ++ [x.l.getD n 0]⟩
def row1St (cell : Int) : Nat → RowSt
  | 0 => ⟨cell, rg 0 8, []⟩
  | k + 1 => row1Step k (row1St cell k)
theorem row1_len (cell : Int) : ∀ k : Nat, k ≤ 8 → (row1St cell k).l.length = 8 - k ∧ (row1St cell k).r.length = k
  | 0, _ => ⟨by show (rg 0 8).length = _; rw [rg_len] <;> rfl, rfl⟩
  | k + 1, h => by
    obtain ⟨h1, h2⟩ := row1_len cell k (by omega)
    have h3 : 0 ≤ (row1St cell k).c % ((row1St cell k).l.length : Int) ∧ (row1St cell k).c % ((row1St cell k).l.length : Int) < ((row1St cell k).l.length : Int) := ⟨Int.emod_nonneg _ (by omega), Int.emod_lt_of_pos _ (by omega)⟩
    refine ⟨?_, ?_⟩
    · show ((row1St cell k).l.eraseIdx ((row1St cell k).c % ((row1St cell k).l.length : Int)).toNat).length = _
      rw [List.length_eraseIdx, if_pos (by omega), h1]
      omega
    · show ((row1St cell k).r ++ [_]).length = _
      rw [List.length_append, h2] <;> rfl
theorem row1_perm (cell : Int) : ∀ k : Nat, k ≤ 8 → ((row1St cell k).r ++ (row1St cell k).l).Perm (rg 0 8)
  | 0, _ => .refl _
  | k + 1, h => by
    obtain ⟨h1, h2⟩ := row1_len cell k (by omega)
    have h3 : 0 ≤ (row1St cell k).c % ((row1St cell k).l.length : Int) ∧ (row1St cell k).c % ((row1St cell k).l.length : Int) < ((row1St cell k).l.length : Int) := ⟨Int.emod_nonneg _ (by omega), Int.emod_lt_of_pos _ (by omega)⟩
    refine List.Perm.trans ?_ (row1_perm cell k (by omega))
    show (((row1St cell k).r ++ [(row1St cell k).l.getD _ 0]) ++ (row1St cell k).l.eraseIdx _).Perm _
    rw [List.append_assoc]
    exact List.Perm.append_left _ (perm_erase (by omega))
theorem row1_ok (cell : Int) {k : Nat} (h : k ≤ 8) : (row1St cell k).r.Nodup ∧ (row1St cell k).r.length = k ∧ ∀ x ∈ (row1St cell k).r, 0 ≤ x ∧ x < 8 := by
  have p := row1_perm cell k h
  refine ⟨?_, (row1_len cell k h).2, fun x hx => mem_rg.mp (p.mem_iff.mp (List.mem_append_left _ hx))⟩
  exact (List.nodup_append.mp (p.nodup_iff.mpr (rg_nodup _ _))).1
end CH

/-! Choosehall: a comprehension whose element may raise. -/
namespace CH
open PySem PySem.Spec PyProof.Rows L2
theorem funFrames_less {h B B' : Heap} (k : ∀ b o, B'.get? b = some o → B.get? b = some o) : ∀ {l : List Env}, h.FunFrames B l → h.FunFrames B' l
  | [], _ => trivial
  | _ :: _, ⟨a1, ⟨L, o, a2, a3, a4⟩, a5⟩ => by
    refine ⟨a1, ⟨L, o, a2, ?_, a4⟩, funFrames_less k a5⟩
    cases q : B'.get? L with
    | none => rfl
    | some u =>
      rw [k L u q] at a3
      cases a3
/-- over a smaller base -/
theorem flying_less {B B' h : Heap} {l : List Env} {a : Addr} {Z : Obj → Prop} (k : ∀ b o, B'.get? b = some o → B.get? b = some o) (f : HandSPX.FlyingZ B l a Z h) : HandSPX.FlyingZ B' l a Z h := by
  obtain ⟨st, na, ff, oe, vs, T, oT, ts, h1, h2, h3, h4, h5, h6⟩ := f
  have no : ∀ {b : Addr}, B.get? b = none → B'.get? b = none := fun {b} z => by
    cases q : B'.get? b with
    | none => rfl
    | some u =>
      rw [k b u q] at z
      cases z
  exact ⟨fun b o e => st b o (k b o e), no na, funFrames_less k ff, oe, vs, T, oT, ts, h1, h2, h3, h4, no h5, h6⟩
/-- an exception in flight leaves the comprehension: its names are let go, then it is held by the def's frame -/
theorem comp_fails {M : Model} {A : Around} {E : Value → Shared → Prop} {s' : Shared} {base : Heap} {env cenv : Env} {outer : List Env} {a L : Addr} {Z : Obj → Prop} {m : Str → Option Value} (hZ : HandSPX.Steady Z) (hfr : A.frames = some (env :: outer)) (hcf : cenv.frame = env.frame) (hf : env.frame = some L)
    (hbC : base.get? cenv.locals = none) (hn : s'.heap.Ns cenv.locals m) (hfl : HandSPX.FlyingZ base (env :: outer) a Z s'.heap)
    (hQ : ∀ h', HandSPX.HeldZ base (env :: outer) a Z L h' → (∀ b o, s'.heap.get? b = some o → b ≠ cenv.locals → (∀ vs, o.data ≠ .fields vs) → ∃ sl, h'.get? b = some { o with slots := sl }) → E (.ref a) { s' with heap := h' }) :
    notedBy M A cenv (CompFails M A E cenv) (.ref a) s' := by
  unfold notedBy
  rw [noteFrame_env _ hcf]
  refine HandSPX.looks_onZ hZ hfr hf hfl fun h1 hH hk => ?_
  have hn1 := hn.upToSlots hk
  refine ⟨m, hn1, fun h2 m2 hn2 sb => ?_⟩
  obtain ⟨k1, k2, k3, oe, vs, T, oT, ts, t1, t2, t3, t4, t5, t6, t7, t8, t9⟩ := hH
  obtain ⟨oL, es, ep, l1, l2, _⟩ := id hn1
  have notC : ∀ {b : Addr} {o : Obj} {us : Array Value}, h1.get? b = some o → o.data = .fields us → b ≠ cenv.locals := fun {b o us} g d z => by
    have g' : h1.get? b = some oL := by
      rw [z]
      exact l1
    rw [g] at g'
    have eo : o = oL := Option.some.inj g'
    rw [eo, l2] at d
    cases d
  have stay2 : base.StaysIn h2 := fun b o e => by
    have ne : b ≠ cenv.locals := fun z => by
      rw [z, hbC] at e
      cases e
    rw [sb.2 b ne]
    exact k1 b o e
  have ff2 : h2.FunFrames base (env :: outer) := Heap.FunFrames.sameBut sb hn2 k3
  have he2 : h2.get? a = some oe := by
    rw [sb.2 a (notC t1 t3)]
    exact t1
  have tr2 : HandSPX.TracedZ h2 base a Z (rawInt L) := ⟨oe, vs, T, oT, ts, he2, t2, t3, t4, t5, t6, by rw [sb.2 T (notC t7 t8)]; exact t7, t8, t9⟩
  unfold PySem.passOn
  refine wpAny_bind (wpAny_field he2 t3 t4 ?_)
  rw [if_neg (show ¬ ((Value.ref T == Value.none) = true) by simp), hcf, hf]
  refine wpAny_bind (HandSPX.setFlight_anyZ stay2 ff2 tr2 fun h3 u1 u2 u3 u4 => wpAny_throw (hQ h3 ⟨u1, k2, u2, u3⟩ fun b o e ne nf => ?_))
  obtain ⟨sl, q1⟩ := hk b o e nf
  have q2 : h2.get? b = some { o with slots := sl } := by
    rw [sb.2 b ne]
    exact q1
  obtain ⟨sl2, q3⟩ := u4 b _ q2 nf
  exact ⟨sl2, q3⟩
section
variable {X : Cx} {pins : List (Addr × Obj)} {σ : L2.St} {H3 : Hp} {s3 : Shared} {scope : Scope} {cl : List (Str × Addr)} {fp : List Addr} {W : WX} {E : XK}
/-- out of a call in the comprehension's block -/
theorem comp_out (I3 : Inv X pins σ H3 s3) (hs : X.stack = X.env :: X.outer) (hf : X.env.frame = some X.env.locals) (f3 : ∀ b ∈ fp, FpOk X pins H3 b ∧ b < s3.heap.objs.size) (tk : L2.Takes X W) (hW : ∀ cls d H', E cls d H' → W cls d σ H')
    {xe : Value → Shared → Prop} {pinsb : List (Addr × Obj)} {σb : L2.St} {Hb : Hp} {sb : Shared} {e : Value} {s' : Shared}
    (Ib : Inv ((X.blk s3 H3 scope (compEnvC scope cl s3.heap.objs.size X.env) fp).wish xe) pinsb σb Hb sb) (c : L2.CX X.prog X.w X.stack Hb sb E e s') :
    notedBy (model X.prog X.w) X.A (compEnvC scope cl s3.heap.objs.size X.env) (CompFails (model X.prog X.w) X.A X.xe (compEnvC scope cl s3.heap.objs.size X.env)) e s' := by
  have xe1 := XE.of_call (X := X.blk s3 H3 scope (compEnvC scope cl s3.heap.objs.size X.env) fp) (W := fun cls d _ H' => W cls d σ H') Ib.unwish hW c
  obtain ⟨a0, B0, H0, cls0, d0, e0, fl0, _⟩ := c
  obtain ⟨a, B, sI, pinsI, σI, HI, cls, d, e1, II, nb, up, sky, na, os, ag, w⟩ := xe1
  have ea : a0 = a := by
    rw [e0] at e1
    injection e1
  subst ea
  obtain ⟨_, _, _, oe, vs, T, oT, ts, t1, _, t3, t4, _, _, t7, t8, t9⟩ := fl0
  have flB : HandSPX.FlyingZ B X.stack a0 (Zc cls d) s'.heap := by
    rcases sky with ⟨_, _, _, oe2, vs2, r1, _, r3, r4⟩ | f | ⟨_, _, _, oe2, vs2, T2, oT2, ts2, r1, _, r3, r4, _, _, r7, r8, r9⟩
    · rw [t1] at r1
      have eo : oe = oe2 := Option.some.inj r1
      rw [← eo, t3] at r3
      injection r3 with ev
      rw [← ev, t4] at r4
      cases r4
    · exact f
    · rw [t1] at r1
      have eo : oe = oe2 := Option.some.inj r1
      rw [← eo, t3] at r3
      injection r3 with ev
      rw [← ev, t4] at r4
      have eT : T = T2 := by
        have := Option.some.inj r4
        injection this
      rw [← eT, t7] at r7
      have eo2 : oT = oT2 := Option.some.inj r7
      rw [← eo2, t8] at r8
      injection r8 with ev2
      rw [← ev2, t9] at r9
      exact absurd (Option.some.inj r9) (by unfold rawInt; intro z; cases z)
  have IX : Inv X pins σ HI sI := I3.call' (ch := fp) II.os II.base II.hok II.bare fun b hb => ⟨(f3 b hb).1.2.2.2.1, (f3 b hb).1.2.1, (f3 b hb).1.2.2.2.2.1, (f3 b hb).1.2.2.2.2.2⟩
  have nC : HI s3.heap.objs.size = none := II.free
  obtain ⟨m, hn, _⟩ := II.loc
  have hn : sI.heap.Ns s3.heap.objs.size m := hn
  obtain ⟨q0, q1, q2, q3, q4, q5⟩ := I3.fpOk (H' := HI) (Nat.le_refl s3.heap.objs.size) nC
  obtain ⟨G, g1, g2⟩ := restrict sI.heap fun b => decide (b ≠ s3.heap.objs.size)
  obtain ⟨B', b1, b2⟩ := restrict B fun b => decide (b ≠ s3.heap.objs.size)
  have IG : Inv X pins σ HI { sI with heap := G, toks := sI.toks } := IX.turned (it := s3.heap.objs.size) (fun b o hb q => by
    rw [g1 b (decide_eq_true hb)]
    exact q) q0 q1 q3 q4 q5
  have bC : B'.get? s3.heap.objs.size = none := b2 _ (by simp)
  have less : ∀ b o, B'.get? b = some o → B.get? b = some o := fun b o q => by
    by_cases z : b = s3.heap.objs.size
    · rw [z, bC] at q
      cases q
    · rw [b1 b (decide_eq_true z)] at q
      exact q
  have gne : ∀ {b : Addr} {o : Obj}, G.get? b = some o → b ≠ s3.heap.objs.size ∧ sI.heap.get? b = some o := fun {b o} q => by
    by_cases z : b = s3.heap.objs.size
    · rw [g2 b (by simp [z])] at q
      cases q
    · rw [g1 b (decide_eq_true z)] at q
      exact ⟨z, q⟩
  have flB' := flying_less less flB
  rw [hs] at flB'
  rw [e0]
  refine comp_fails Zc.steady (env := X.env) (outer := X.outer) (by rw [IX.ok.frames, hs]) rfl hf bC (hn.upToSlots up) flB' fun h' hH hk => ?_
  refine tk (.ref a0) _ ⟨a0, B', { sI with heap := G, toks := sI.toks }, pins, σ, HI, cls, d, rfl, IG, fun b o q nf => ?_, fun b o q nf => ?_, .inr (.inr (by rw [hs]; exact hH)), na, os, ag, w⟩
  · obtain ⟨z1, z2⟩ := gne q
    rw [b1 b (decide_eq_true z1)]
    exact nb b o z2 nf
  · obtain ⟨z1, z2⟩ := gne q
    obtain ⟨sl, z3⟩ := up b o z2 nf
    obtain ⟨sl2, z4⟩ := hk b _ z3 z1 nf
    exact ⟨sl2, z4⟩
end
end CH

/-! Choosehall: y = [elt for x in iter], the element may raise. -/
namespace CH
open PySem PySem.Spec PyProof.Rows L2
section
variable {X : Cx} {pins : List (Addr × Obj)} {s : Shared} {σ : L2.St} {H : Hp} {D0 : Ends} {elt tg iter : Expr} {scope : Scope} {own : List (Str × Nat)} {pos spos py : Pos} {y : Str} {i : Nat} {wi : TI} {g : TG} {te : TE} {W : WX}
theorem lcx_run (hc : X.calm = true) (hN : X.N.Nodup) (hy : X.N[i]? = some y) (hyl : X.env.scope.names.lookup y = some .local) (hsw : swapsWith (.ListComp elt [⟨tg, iter, [], 0⟩] scope pos) (some (.Name y py)) spos.line X.env = pure true)
    (hs : X.stack = X.env :: X.outer) (hf : X.env.frame = some X.env.locals) (tk : L2.Takes X W) (I : Inv X pins σ H s) (hi : PI X tg iter wi) (ok : BlkOk X.N X.env.scope scope own)
    (hg : ∀ (s : Shared) (H : Hp) (C : Addr) (cl : List (Str × Addr)) (fp : List Addr), PG (X.blk s H scope (compEnvC scope cl C X.env) fp) tg g)
    (he : ∀ (s : Shared) (H : Hp) (C : Addr) (cl : List (Str × Addr)) (fp : List Addr) (xe : Value → Shared → Prop), (∀ σb, PassesAt (L2.CX X.prog X.w) ((X.blk s H scope (compEnvC scope cl C X.env) fp).wish xe) σb fun cls d H' => W cls d σ H') → PE ((X.blk s H scope (compEnvC scope cl C X.env) fp).wish xe) elt te)
    (hfo : ∀ x, foldedSetIterable iter X.env x = pure x) (h : tLc wi g tYes te (own.map (·.2)) σ H fun v H1 => gName i v σ H1 D0.nx) :
    wpAny (model X.prog X.w) X.A (exec (.Assign [.Name y py] (.ListComp elt [⟨tg, iter, [], 0⟩] scope pos) spos) X.env) (SP X pins D0) X.xe s := by
  have frees : ∀ z ∈ scope.names, z.2 = .free → ∃ c, X.env.cells.lookup z.1 = some c := fun z hz e => (ok.free z hz e).elim (fun k => I.ok.has _ (.inl k)) fun k => I.ok.has _ (.inr k)
  rw [exec_Assign_Name_used _ _ _ _ hsw]
  refine wpAny_bind (wpAny_standAt (wpAny_bind ?_))
  refine wpAny_bind (wpAny_mono (Q := fun _ s' => SP X pins D0 .next s') (E := X.xe) ?_ (fun _ _ q => wpAny_pure (wpAny_pure q)) fun _ _ q => q)
  refine comprehension_at (use := some (assign (.Name y py) X.env)) (Q := fun _ s' => SP X pins D0 .next s') rfl hfo (closure_ok frees) ok.kind (fun z hz e => by rw [ok.uniq z hz, e]) ?_
  refine thn (hi.run pins s σ H _ I h) fun xv s1 hx => thn hx fun itv s2 h2 => ?_
  obtain ⟨it, fp, tn, J, H2, e, I2, T, st2, f2, q⟩ := h2
  subst e
  refine wpAny_newObj_type (newEnv_comp ?_) (by show (0 : Nat) ≤ sizeLine; decide)
  -- the new list
  obtain ⟨L, hL⟩ : ∃ L, L = s2.heap.objs.size := ⟨_, rfl⟩
  have hLn : H2 L = none := I2.hok.fresh (Nat.le_of_eq hL.symm)
  obtain ⟨Wn, ⟨m0, w0⟩, turn⟩ := q L hLn
  rw [← hL]
  generalize e3 : ({ s2 with heap := s2.heap.push { cls := .type "list", data := .seq ([] : List Value).toArray } } : Shared) = s3
  have hp3 : s3.heap = s2.heap.push { cls := .type "list", data := .seq ([] : List Value).toArray } := by rw [← e3]
  have I3 : Inv X pins σ (upd H2 L (.lst [])) s3 := by
    rw [← e3]
    exact I2.laid (t' := s2.toks) (fun _ _ z => Heap.get?_push_of_some _ z) (Nat.le_of_eq hL.symm) ⟨Nat.zero_le _, [], 0, .nil, by rw [hL]; exact Heap.get?_push_size _ rfl⟩
  have small : ∀ b ∈ fp, b < s2.heap.objs.size := fun b hb => by
    obtain ⟨o, z, _⟩ := T.obj _ _ st2 b hb
    exact Heap.lt_size z
  have f3 : ∀ b ∈ fp, FpOk X pins (upd H2 L (.lst [])) b ∧ b < s3.heap.objs.size := fun b hb => by
    have z := small b hb
    refine ⟨⟨?_, (f2 b hb).2⟩, ?_⟩
    · rw [upd_ne (by rw [hL]; exact Nat.ne_of_lt z)]
      exact (f2 b hb).1
    · rw [hp3, Heap.size_push]
      exact Nat.lt_succ_of_lt z
  have st3 : tn 0 s3.heap := T.keep _ _ _ st2 fun b _ o z => by
    rw [hp3]
    exact Heap.get?_push_of_some _ z
  obtain ⟨cl, hcl⟩ : ∃ cl, cl = cellsFrom (s3.heap.objs.size + 1) scope.names (cloFrom X.env.cells scope.names []) := ⟨_, rfl⟩
  have I4 := block_start I3 ok hN f3
  show codeAny _ _ (.compStart (.ListComp elt [⟨tg, iter, [], 0⟩] scope pos) 0 (.ref it) (.ref L) (compEnvC scope (cellsFrom (s3.heap.objs.size + 1) scope.names (cloFrom X.env.cells scope.names [])) s3.heap.objs.size X.env)) (compEnds (model X.prog X.w) X.A X.xe (some (assign (.Name y py) X.env)) (fun _ s' => SP X pins D0 .next s') (.ref L) (compEnvC scope (cellsFrom (s3.heap.objs.size + 1) scope.names (cloFrom X.env.cells scope.names [])) s3.heap.objs.size X.env)) { s3 with heap := pushCells (s3.heap.push { cls := .type "dict", data := .dict #[] }) scope.names }
  rw [← hcl] at I4 ⊢
  have outs := fun {E : XK} (hW : ∀ cls d H', E cls d H' → W cls d σ H') {xe : Value → Shared → Prop} {pb : List (Addr × Obj)} {σb : L2.St} {Hb : Hp} {sb : Shared} {ex : Value} {s' : Shared} Ib c => comp_out (scope := scope) (cl := cl) (fp := fp) (E := E) I3 hs hf f3 tk hW (xe := xe) (pinsb := pb) (σb := σb) (Hb := Hb) (sb := sb) (e := ex) (s' := s') Ib c
  have pg := hg s3 (upd H2 L (.lst [])) s3.heap.objs.size cl fp
  have pe := he s3 (upd H2 L (.lst [])) s3.heap.objs.size cl fp (notedBy (model X.prog X.w) X.A (compEnvC scope cl s3.heap.objs.size X.env) (CompFails (model X.prog X.w) X.A X.xe (compEnvC scope cl s3.heap.objs.size X.env))) fun σb pb Hb sb ex s' Ib c => outs (fun _ _ _ z => z) Ib c
  have ngo : ∀ b ∈ fp, (upd H2 L (.lst [])) b = none := fun b hb => (f3 b hb).1.1
  have lcs : (compEnvC scope cl s3.heap.objs.size X.env).locals = s3.heap.objs.size := rfl
  generalize hce : compEnvC scope cl s3.heap.objs.size X.env = ce at I4 pg pe lcs ⊢
  generalize hH3 : upd H2 L (.lst []) = H3 at I3 I4 pg pe w0 ngo f3
  generalize e4 : ({ s3 with heap := pushCells (s3.heap.push { cls := .type "dict", data := .dict #[] }) scope.names } : Shared) = s4 at I4 ⊢
  have st4 : tn 0 s4.heap := T.keep _ _ _ st3 fun b _ o z => by
    rw [← e4]
    exact pushCells_keeps _ _ _ _ (Heap.get?_push_of_some _ z)
  have stat : ∀ {σ' : L2.St} {H' : Hp} {s' : Shared}, Inv (X.blk s3 H3 scope ce fp) [] σ' H' s' → (∀ b ∈ fp, H' b = none) → ∀ b ∈ fp, FpOk (X.blk s3 H3 scope ce fp) [] H' b := fun I' n b hb =>
    ⟨n b hb, (I'.ok.exf b hb).1, I'.ok.exfs b hb, .inl hb, fun x c z => (I'.ok.exf b hb).2 x c z, fun p hp => by cases hp⟩
  have loop : codeAny (model X.prog X.w) X.A (.compLoop (.ListComp elt [⟨tg, iter, [], 0⟩] scope pos) 0 (.ref it) (.ref L) ce) (compEnds (model X.prog X.w) X.A X.xe (some (assign (.Name y py) X.env)) (fun _ s' => SP X pins D0 .next s') (.ref L) ce) s4 := by
    refine compLoop_any (fun n s' => ∃ t H', Inv (X.blk s3 H3 scope ce fp) [] (wipe σ (own.map (·.2))) H' s' ∧ tn t s'.heap ∧ (∀ b ∈ fp, H' b = none) ∧ Wn t n H') ?_ m0 ⟨0, H3, I4, st4, ngo, w0⟩
    rintro n s5 ⟨t, H5, I5, st5, n5, w5⟩
    rcases turn t n H5 w5 with ⟨stop, fin⟩ | ⟨go, Nx, hNx, step⟩
    · refine thnF (T.done (X.blk s3 H3 scope ce fp) rfl rfl rfl hc t [] s5 _ H5 (fun _ _ => False) I5 (stat I5 n5) st5 stop) fun r s6 ⟨hr, I6⟩ => ?_
      subst hr
      have I7 : Inv X pins σ H5 s6 := I3.call' (ch := fp) I6.os I6.base I6.hok I6.bare fun b hb => ⟨(f3 b hb).1.2.2.2.1, (f3 b hb).1.2.1, (f3 b hb).1.2.2.2.2.1, (f3 b hb).1.2.2.2.2.2⟩
      have nC : H5 s3.heap.objs.size = none := by
        have z : H5 ce.locals = none := I6.free
        rw [lcs] at z
        exact z
      obtain ⟨m, hn, _⟩ := I6.loc
      have hn : s6.heap.Ns ce.locals m := hn
      obtain ⟨q0, q1, q2, q3, q4, q5⟩ := I3.fpOk (H' := H5) (Nat.le_refl s3.heap.objs.size) nC
      show wpAny _ _ (assign (.Name y py) X.env (.ref L)) _ _ _
      refine wpAny_assign_Name (store_ok2 (v := V.ref L) I7 hN hy (.inl hyl) rfl (fun s8 I8 ⟨a, sb, ha⟩ => ?_) (.inr hyl))
      have aC : ce.locals ≠ a := by
        rw [lcs]
        rcases ha with z | z
        · rw [z]
          exact q1
        · exact fun w => q4 y a z w.symm
      refine ⟨m, hn.sameBut sb aC, fun h9 sb9 => ⟨_, H5, I8.turned (it := s3.heap.objs.size) (t' := s8.toks) (fun b o hb z => ?_) q0 q1 q3 q4 q5, fin⟩⟩
      rw [lcs] at sb9
      exact (sb9.2 b hb).trans z
    · refine thnF (T.item (X.blk s3 H3 scope ce fp) rfl rfl rfl hc t [] s5 _ H5 (fun _ _ => False) I5 (stat I5 n5) st5 go) fun r s6 ⟨u, hr, h6⟩ => ?_
      subst hr
      refine thnF h6 fun _ s7 ⟨x, H7, I7, r7, y7, st7, n7⟩ => ?_
      refine thnF (pg.run _ s7 _ H7 x u _ (I7.pinned (stat I7 n7) (T.obj _ _ st7)) r7 (step x H7 y7)) fun _ s8 ⟨σ8, H8, I8, hw8, q8⟩ => ?_
      refine wpAny_tests_nil ?_
      rw [if_pos rfl]
      -- the element, that may raise
      have again : ∀ {s' : Shared} {H' : Hp}, Inv (X.blk s3 H3 scope ce fp) ([] ++ pinsAt fp s7.heap) σ8 H' s' → Nx H' → ∃ m, m < n ∧ ∃ t H', Inv (X.blk s3 H3 scope ce fp) [] (wipe σ (own.map (·.2))) H' s' ∧ tn t s'.heap ∧ (∀ b ∈ fp, H' b = none) ∧ Wn t m H' := fun {s' H'} I' nx => by
        obtain ⟨m', hm, w'⟩ := hNx H' nx
        have kept : ∀ b ∈ fp, ∀ o, s7.heap.get? b = some o → s'.heap.get? b = some o ∧ H' b = none := fun b hb o z => by
          have pn := I'.pin (b, o) (List.mem_append_right _ (List.mem_append_right _ (mem_pinsAt hb z)))
          exact ⟨pn.1, pn.2.1⟩
        have ln : (wipe σ (own.map (·.2))).length = σ8.length := by rw [← hw8, wipe_length]
        refine ⟨m', hm, t + 1, H', (I'.unpinned (pins := [])).weak ln (fun j v z => ?_), T.keep _ _ _ st7 fun b hb o z => (kept b hb o z).1, fun b hb => ?_, w'⟩
        · rw [← hw8] at z
          exact (wipe_some z).1
        · obtain ⟨o, z, _⟩ := T.obj _ _ st7 b hb
          exact (kept b hb o z).2
      have q9 : te σ8 H8 fun v H4 => ∃ acc, H4 L = some (.lst acc) ∧ acc.length < sizeLine ∧ Nx (upd H4 L (.lst (acc ++ [v]))) := by
        have z : (if (true : Bool) = true then te σ8 H8 (fun v H4 => ∃ acc, H4 L = some (.lst acc) ∧ acc.length < sizeLine ∧ Nx (upd H4 L (.lst (acc ++ [v])))) else Nx H8) := q8
        rw [if_pos rfl] at z
        exact z
      subst hce
      refine thn (pe.run _ s8 σ8 H8 _ (I8.wish _) q9) fun z s10 ⟨yv, H10, I10, r10, acc, hD10, hz10, nx⟩ => ?_
      exact app_ok (X := X.blk s3 H3 scope (compEnvC scope cl s3.heap.objs.size X.env) fp) I10.unwish hD10 hz10 r10 fun s11 I11 => again I11 nx
  exact codeAny_compStart_list loop (T.self X.A 0 _ _ _ st4 loop)
end
end CH

/-! Choosehall: statements at a fixed entry; defs that may raise. -/
namespace CH
open PySem L2
/-- what comes of a call: a value; an exception of this class -/
abbrev Oc := Sl ⊕ Value
def PromX (g : Gb) (R : List D → Oc → Prop) : Sp := fun vs H Q E => ∃ ds o F, R ds o ∧ RepL g F ds vs ∧ Fit g F H ∧ (∀ r, o = .inl r → ∀ v F' H', Up g F H F' H' → RtOk g F' H H' r v → Q v H') ∧ (∀ c, o = .inr c → ∀ F' H', Up g F H F' H' → E c none H')
def CalX (P : Program) (w : World) (g : Gb) (mg : Str → Option Value) (base : Heap) (x : Str) (k : Nat) (R : List D → Oc → Prop) : Prop :=
  ∃ (f : Addr) (fd : FuncData) (ps : List Str), FnOk P w g.K mg base (L2.CX P w) k f fd ps (PromX g R) ∧ mg x = some (.ref f) ∧ PySem.W.keepIn g.K (.ref f) = true ∧ Binds g.K fd ps []
/-- an exception of class c may go out -/
def Out (g : Gb) (B : Hp × Hp) (W : WX) (o : Oc) : Prop := ∀ c, o = .inr c → ∀ F H, Up g B.1 B.2 F H → ∀ σ, W c none σ H
def kOc : Oc → KE
  | .inl r => kRet r
  | .inr _ => { nx := fun _ => False, rt := fun _ => False }
def S1R (g : Gb) (X : Cx) (B : Hp × Hp) (G : List Sl) (st : Stmt) (k : KE) : Prop := ∀ F H σ ow, Ok g G F H σ ow → Bk g B G F H ow → ∀ F1, Sub F1 F → WS X st (ends g B F1 k) σ H
def SsR (g : Gb) (X : Cx) (B : Hp × Hp) (G : List Sl) (st : List Stmt) (k : KE) : Prop := ∀ F H σ ow, Ok g G F H σ ow → Bk g B G F H ow → ∀ F1, Sub F1 F → WSs X st (ends g B F1 k) σ H
theorem S1.r {g : Gb} {X : Cx} {B : Hp × Hp} {G : List Sl} {st : Stmt} {k : KE} (h : S1 g X G st k) : S1R g X B G st k := fun F H σ ow ok bk F1 s1 => h B F H σ ow ok bk F1 s1
theorem Ss.r {g : Gb} {X : Cx} {B : Hp × Hp} {G : List Sl} {st : List Stmt} {k : KE} (h : Ss g X G st k) : SsR g X B G st k := fun F H σ ow ok bk F1 s1 => h B F H σ ow ok bk F1 s1
theorem fz_up {g : Gb} {F H H0 F1 H1 : Hp} {ds : List D} {v : V} (u : Up g F H F1 H1) (r : RtOk g F1 H H1 (.m ds) v) : ∃ F2, Up g F H F2 H1 ∧ RtOk g F2 H0 H1 (.v (.lst ds)) v := by
  obtain ⟨l, xs, rfl, hf, h1, h2, h3⟩ := r
  refine ⟨upd F1 l (.lst xs), ⟨u.ext, u.sub.trans (sub_upd h2), fun b o e n f => ?_, fit_frz u.fit h1 nt_lst⟩, rep_lst upd_same (RepL.mono (sub_upd h2) _ _ h3)⟩
  rw [upd_ne (hf.ne e n)]
  exact u.grow b o e n f
section
variable {g : Gb} {X : Cx} {G : List Sl} {B : Hp × Hp} {a c e o : Expr} {st : Stmt} {sts body els : List Stmt} {pos p p2 p3 apos spos py : Pos} {x y fn m : Str} {k : KE} {r : Sl} {W : WX} {es : List Expr} {n : Nat} {R : List D → Oc → Prop}
theorem sr_nil (h : k.nx G) : SsR g X B G [] k := (ss_nil h).r
theorem sr_cons (h : S1R g X B G st { k with nx := fun G' => SsR g X B G' sts k }) : SsR g X B G (st :: sts) k := fun F H σ ow ok bk F1 s1 => by
  refine wss_of (pss_cons ps_ws pss_wss) ?_
  refine WS.imp (h F H σ ow ok bk F1 s1) (fun σ H q => ?_) (fun _ _ q => q) (fun _ _ q => q) (fun _ _ q => q)
  obtain ⟨G', F', ow', hk, ok', bk', s'⟩ := q
  exact hk F' H σ ow' ok' bk' F1 s'
theorem sr_one (h : S1R g X B G st k) : SsR g X B G [st] k := fun F H σ ow ok bk F1 s1 => wss_of (pss_one ps_ws) (h F H σ ow ok bk F1 s1)
theorem sr_if {b : Bool} (h : EvT g X G c b) (h1 : b = true → SsR g X B G body k) (h2 : b = false → SsR g X B G els k) : S1R g X B G (.If c body els pos) k := fun F H σ ow ok bk F1 s1 => by
  refine ws_of (ps_if pt_wt pss_wss pss_wss) ?_
  refine h F H σ ow ok _ fun F2 H2 u => ?_
  cases b with
  | true => exact iteT (h1 rfl F2 H2 σ ow (ok.up u) (bk.go u) F1 (s1.trans u.sub))
  | false => exact iteF (h2 rfl F2 H2 σ ow (ok.up u) (bk.go u) F1 (s1.trans u.sub))
theorem sr_for (j : Nat) {items : List D} {iter : Expr} (hi : EvI g X G (.Name x p) iter items) (I : Nat → List Sl → Prop) (h0 : I 0 G)
    (hs : ∀ i d G', items[i]? = some d → I i G' → SsR g X B (G'.set j (.v d)) body { nx := I (i + 1), ct := I (i + 1), bk := k.nx, rt := k.rt }) (hd : ∀ G', I items.length G' → k.nx G')
    (hN : X.N.Nodup := by exact nd_by (by kernel_rfl)) (hj : X.N[j]? = some x := by rfl) (hx : Loc X.env.scope x := by first | exact Or.inl rfl | exact Or.inr rfl) (hc : X.calm = true := by rfl)
    (hf : X.fn x = true ∨ X.env.scope.names.lookup x = some .local := by first | exact .inl rfl | exact .inr rfl) (hp : PassesOwn (model X.prog X.w) X.A X.env X.xe := by exact L2.passes_of rfl)
    (hfo : ∀ x, foldedSetIterable iter X.env x = pure x := by intro _; rfl) : S1R g X B G (.For (.Name x p) iter body [] pos) k := fun F H σ ow ok bk F1 s1 => by
  refine ws_of (ps_for hp hc pi_wi (pg_name hN hj hx hf) pss_wss hfo) ?_
  refine hi F H σ ow ok _ fun J F2 H2 u src => ?_
  refine ⟨fun i m σ' H' => m = items.length - i ∧ i ≤ items.length ∧ nxP g B F2 (I i) σ' H', ⟨_, rfl, Nat.zero_le _, G, F2, ow, h0, ok.up u, bk.go u, Sub.refl F2⟩, ?_⟩
  rintro i m σ' H' ⟨rfl, hle, G', F', ow', hI, ok', bk', s'⟩
  obtain ⟨h1, h2, h3⟩ := src F' H' s' ok'.fit.low
  by_cases hlt : i < items.length
  · refine Or.inr ⟨h1 i hlt, nxP g B F2 (I (i + 1)), fun σ3 H3 q => ⟨items.length - (i + 1), by omega, rfl, hlt, q⟩, fun v H3 y => ?_⟩
    obtain ⟨e3, d, d1, d2⟩ := h3 i v H3 hlt y
    subst e3
    have ok2 := ok'.set (i := j) (a := 0) (s := .v d) (o := some v) ⟨v, rfl, d2⟩ (fun z => by cases z)
    have bk2 := bk'.set (i := j) (a := 0) (s := .v d) (fun z => by cases z)
    have q0 := hs i d G' d1 hI F' H3 _ _ ok2 bk2 F2 s'
    refine WSs.imp q0 (fun _ _ q => q) (fun _ _ q => q) (fun σ4 H4 q => ?_) (fun _ _ q => q)
    obtain ⟨G4, F4, ow4, q1, q2, q3, q4⟩ := q
    exact ⟨G4, F4, ow4, q1, q2, q3, (s1.trans u.sub).trans q4⟩
  · have e : i = items.length := by omega
    subst e
    exact Or.inl ⟨h2, G', F', ow', hd G' hI, ok', bk', (s1.trans u.sub).trans s'⟩
/-- raise x(m) -/
theorem sr_raise {C : Addr} {j : Nat} (hc : X.calm = true) (tk : Takes X W) (q : PySem.W.excIn X.K C He.veBase "ValueError.__new__" = true) (gC : X.mg x = some (.ref C)) (kC : PySem.W.keepIn X.K (.ref C) = true)
    (h1 : PySem.W.subIn X.K (.ref C) (.type "BaseException") = some true) (h2 : PySem.W.typeIn X.K (.ref C) = some (.type "type")) (out : Out g B W (.inr (.ref C))) (hg : Gl X x := by rfl) (hdb : (x == ("__debug__" : Str)) = false := by decide) :
    S1R g X B G (.Raise (some (.Call (.Name x p) [.Constant (.str m) j p2] [] p3)) none pos) k := fun F H σ ow ok bk F1 s1 => by
  refine ws_of (ps_raise (W := W) hc tk (pmk_own PySem.F.excBase_ValueError q gC kC (raises_own h1 h2) hg hdb)) ?_
  exact out _ rfl F H bk.up σ
/-- x = fn(..), that may raise -/
theorem sr_call (i : Nat) {ds : List D} {oc : Oc} (hK : X.K = g.K) (C : CalX X.prog X.w g X.mg X.base fn n R) (tk : Takes X W) (hr : Room n X.A) (ha : EvA g X G (e :: es) ds) (hR : R ds oc) (hE : Out g B W oc) (hl : ∀ r, oc = .inl r → r ≠ .un ∧ k.nx (G.set i r))
    (hN : X.N.Nodup := by exact nd_by (by kernel_rfl)) (hi : X.N[i]? = some x := by rfl) (hx : Loc X.env.scope x := by first | exact Or.inl rfl | exact Or.inr rfl) (hs : swapsWith (.Call (.Name fn p2) (e :: es) [] p3) (some (.Name x p)) pos.line X.env = pure false := by rfl)
    (hf : X.fn x = true ∨ X.env.scope.names.lookup x = some .local := by first | exact .inl rfl | exact .inr rfl) (hg : Gl X fn := by rfl) (hdb : (fn == ("__debug__" : Str)) = false := by decide)
    (he : starEach (e :: es) X.env = (false, eval e X.env) :: starEach es X.env := by rfl) (hpl : (backTo p3 (starEach es X.env)).any (·.1) = false := by rfl) : S1R g X B G (.Assign [.Name x p] (.Call (.Name fn p2) (e :: es) [] p3) pos) k := fun F H σ ow ok bk F1 s1 => by
  obtain ⟨f, fd, ps, F0, hm, hk, hb⟩ := C
  refine ws_of (ps_set hN hi hx (pe_callS (E := L2.WE W) (by rw [hK]; exact F0) hr hg hm (by rw [hK]; exact hk) (by rw [hK]; exact hb) (fun σ => passAt tk σ) pa_wa hdb he hpl) hs hf) ?_
  refine ha F H σ ow ok _ fun vs F2 H2 u r1 => ?_
  refine ⟨ds, oc, F2, hR, r1, u.fit, fun r er v F3 H3 u3 r3 => ?_, fun c ec F3 H3 u3 => ?_⟩
  · obtain ⟨h1, h2⟩ := hl r er
    obtain ⟨ow', k1, b1⟩ := store (i := i) ok bk (u.trans u3) (r3.back u.ext) h1
    exact ⟨_, F3, ow', h2, k1, b1, s1.trans (u.trans u3).sub⟩
  · exact hE c ec F3 H3 (bk.up.trans (u.trans u3)) σ
def ocOf (c : Value) : Option D → Oc
  | some d => .inl (.v d)
  | none => .inr c
theorem fm_snoc {α : Type} {l : List α} {i : Nat} {a : α} {f : α → Option D} {d : D} (h : l[i]? = some a) (hd : f a = some d) : (l.take (i + 1)).filterMap f = (l.take i).filterMap f ++ [d] := by
  rw [take_snoc h, List.filterMap_append, List.filterMap_cons, hd] <;> rfl
def WEx (X : Cx) (scope : Scope) (W : WX) (σ0 : L2.St) (e : Expr) : TE := fun σ H Q => ∀ (s : Shared) (H0 : Hp) (C : Addr) (cl : List (Str × Addr)) (fp : List Addr) (xe : Value → Shared → Prop), (∀ σb, PassesAt (L2.CX X.prog X.w) ((X.blk s H0 scope (compEnvC scope cl C X.env) fp).wish xe) σb fun cls d H' => W cls d σ0 H') → WE ((X.blk s H0 scope (compEnvC scope cl C X.env) fp).wish xe) e σ H Q
/-- y = [fn(x) for x in iter], the call may raise -/
theorem sr_lcx {α : Type} (i j : Nat) {iter : Expr} {scope : Scope} {enc : α → D} {l : List α} (f : α → Option D) (c : Value) (hK : X.K = g.K) (C : CalX X.prog X.w g X.mg X.base fn n R) (tk : Takes X W) (hr : Room n X.A) (hR : ∀ a ∈ l, R [enc a] (ocOf c (f a)))
    (hi : EvI g X G (.Name x p) iter (l.map enc)) (hl : l.length ≤ 90000) (hE : (∃ a ∈ l, f a = none) → Out g B W (.inr c)) (hk : (∀ a ∈ l, f a ≠ none) → k.nx (G.set i (.v (.lst (l.filterMap f)))))
    (hv : ∀ a ∈ l, ∀ (s : Shared) (H0 : Hp) (C : Addr) (cl : List (Str × Addr)) (fp : List Addr) (xe : Value → Shared → Prop), EvD g ((X.blk s H0 scope (compEnvC scope cl C X.env) fp).wish xe) (G.set j (.v (enc a))) (.Name x p2) (enc a))
    (hsw : swapsWith (.ListComp (.Call (.Name fn p3) [.Name x p2] [] apos) [⟨.Name x p, iter, [], 0⟩] scope pos) (some (.Name y py)) spos.line X.env = pure true := by exact sw_true rfl rfl rfl (by kernel_rfl))
    (hN : X.N.Nodup := by exact nd_by (by kernel_rfl)) (hy : X.N[i]? = some y := by rfl) (hyl : X.env.scope.names.lookup y = some .local := by rfl) (hj : X.N[j]? = some x := by rfl) (hb : blkC X.N X.env.scope scope [(x, j)] = true := by kernel_rfl) (hx : BlkT X scope x := by first | exact ⟨Or.inl rfl, Or.inr rfl⟩ | exact ⟨Or.inr rfl, Or.inl rfl⟩) (hc : X.calm = true := by rfl)
    (hfo : ∀ x, foldedSetIterable iter X.env x = pure x := by intro _; rfl) (hst : X.stack = X.env :: X.outer := by rfl) (hfr : X.env.frame = some X.env.locals := by rfl)
    (hg : ∀ (s : Shared) (H0 : Hp) (C : Addr) (cl : List (Str × Addr)) (fp : List Addr), Gl (X.blk s H0 scope (compEnvC scope cl C X.env) fp) fn := by intros; rfl) (hdb : (fn == ("__debug__" : Str)) = false := by decide)
    (he : ∀ (C : Addr) (cl : List (Str × Addr)), starEach [.Name x p2] (compEnvC scope cl C X.env) = (false, eval (.Name x p2) (compEnvC scope cl C X.env)) :: starEach [] (compEnvC scope cl C X.env) := by intros; rfl) :
    S1R g X B G (.Assign [.Name y py] (.ListComp (.Call (.Name fn p3) [.Name x p2] [] apos) [⟨.Name x p, iter, [], 0⟩] scope pos) spos) k := fun F H σ ow ok bk FF s1 pins s I => by
  obtain ⟨fa, fd, ps, F0, hm, hkp, hbd⟩ := C
  refine lcx_run (D0 := ends g B FF k) (own := [(x, j)]) (g := gName j) (te := WEx X scope W σ (.Call (.Name fn p3) [.Name x p2] [] apos)) (W := W) hc hN hy hyl hsw hst hfr tk I pi_wi (blkOk_by hb) (pg_blk j hN hj hx)
    (fun s H C cl fp xe hp => ⟨fun pins s' σ H Q I h => h _ _ _ _ _ _ hp pins s' I⟩) hfo ?_
  show tLc (WI X (.Name x p) iter) (gName j) tYes (WEx X scope W σ (.Call (.Name fn p3) [.Name x p2] [] apos)) [j] σ H _
  refine hi F H σ ow ok _ fun J F1 H1 u src D hD => ?_
  have okL := ok.up u
  refine ⟨fun i m H' => m = l.length - i ∧ i ≤ l.length ∧ (∀ a ∈ l.take i, f a ≠ none) ∧ ∃ F' acc, H' D = some (.lst acc) ∧ F' D = none ∧ RepL g F' ((l.take i).filterMap f) acc ∧ Up g F1 H1 F' H',
    ⟨_, rfl, Nat.zero_le _, (fun a ha => by rw [List.take_zero] at ha; cases ha), F1, [], upd_same, u.fit.low.free hD, repL_nil, up_new u.fit hD⟩, ?_⟩
  rintro i0 m H' ⟨rfl, hle, good, F', acc, h1, h2, h3, u1⟩
  obtain ⟨z1, z2, z3⟩ := src F' H' u1.sub u1.fit.low
  rw [List.length_map] at z1 z2 z3
  by_cases hlt : i0 < l.length
  · refine Or.inr ⟨z1 i0 hlt, _, fun H2 z => ⟨l.length - (i0 + 1), by omega, z⟩, fun v H3 y => ?_⟩
    obtain ⟨e3, d, d1, d2⟩ := z3 i0 v H3 hlt y
    subst e3
    obtain ⟨a, ha, hd⟩ : ∃ a, l[i0]? = some a ∧ enc a = d := by
      rw [List.getElem?_map] at d1
      cases z : l[i0]? with
      | none =>
        rw [z] at d1
        cases d1
      | some a =>
        rw [z] at d1
        exact ⟨a, rfl, Option.some.inj d1⟩
    have hm2 : a ∈ l := List.mem_of_getElem? ha
    have ok1 := (okL.up u1).set (i := j) (a := 0) (s := .v (enc a)) (o := some v) ⟨v, rfl, by rw [hd]; exact d2⟩ (fun z => by cases z)
    have es : (wipe σ [j]).set j (some v) = σ.set j (some v) := by
      show (σ.set j none).set j (some v) = _
      rw [List.set_set]
    have ew : wipe ((wipe σ [j]).set j (some v)) [j] = wipe σ [j] := by
      rw [es]
      show (σ.set j (some v)).set j none = σ.set j none
      rw [List.set_set]
    refine ⟨ew, ?_⟩
    rw [es]
    unfold tYes
    refine iteT ?_
    intro sB HB CB clB fpB xeB hp
    refine we_of (pe_callS (X := (X.blk sB HB scope (compEnvC scope clB CB X.env) fpB).wish xeB) (E := fun _ => fun cls d H' => W cls d σ H') (by rw [hK]; exact F0) hr (hg sB HB CB clB fpB) hm (by rw [hK]; exact hkp) (by rw [hK]; exact hbd) hp (pa_cons pe_we pa_nil (he CB clB)) hdb (he CB clB) rfl) ?_
    refine hv a hm2 sB HB CB clB fpB xeB F' H3 _ _ ok1 _ fun w F2 H2 u2 r2 => ?_
    refine ⟨[enc a], ocOf c (f a), F2, hR a hm2, repL_cons r2 repL_nil, u2.fit, fun r er v4 F4 H4 u4 r4 => ?_, fun c' ec F4 H4 u4 => ?_⟩
    · cases q : f a with
      | none =>
        rw [q] at er
        cases er
      | some d5 =>
        rw [q] at er
        cases er
        have k4 : H4 D = some (.lst acc) := (u2.trans u4).ext _ _ h1 nt_lst
        have f4 : F4 D = none := (u2.trans u4).grow _ _ h1 nt_lst h2
        have hacc : acc.length ≤ 90000 := by
          rw [h3.len]
          exact Nat.le_trans (List.length_filterMap_le _ _) (Nat.le_trans (by rw [List.length_take]; omega) hl)
        refine ⟨acc, k4, Nat.lt_of_le_of_lt hacc (by decide), rfl, hlt, fun b hb => ?_, F4, acc ++ [v4], upd_same, f4, ?_, ?_⟩
        · rw [take_snoc ha] at hb
          rcases List.mem_append.mp hb with hb | hb
          · exact good b hb
          · rw [List.mem_singleton.mp hb, q]
            exact fun z => by cases z
        · rw [fm_snoc ha q]
          exact (RepL.mono (u2.trans u4).sub _ _ h3).app (repL_cons r4 repL_nil)
        · have u5 := (u1.trans u2).trans u4
          exact ⟨fun b o z n => by rw [upd_ne (ne_of_none z hD)]; exact u5.ext b o z n, u5.sub, u5.grow, fit_mut u5.fit f4 k4 nt_lst ne_ext_lst⟩
    · cases q : f a with
      | some d5 =>
        rw [q] at ec
        cases ec
      | none =>
        rw [q] at ec
        have hD' := hE ⟨a, hm2, q⟩
        have ec : c = c' := Sum.inr.inj ec
        subst ec
        -- the list that was begun lies in the heap, unseen
        have u5 := (u1.trans u2).trans u4
        have u6 : Up g F1 H1 F4 H4 := u5
        exact hD' _ rfl F4 H4 (bk.up.trans (u.trans u6)) σ
  · have e : i0 = l.length := by omega
    subst e
    refine Or.inl ⟨z2, ?_⟩
    rw [List.take_length] at h3 good
    have r0 : RtOk g F' H H' (.m (l.filterMap f)) (.ref D) := ⟨D, acc, rfl, (Fresh.of hD).back u.ext, h1, h2, h3⟩
    obtain ⟨F2, u2, r2⟩ := fz_up (H0 := H) (u.trans u1) r0
    obtain ⟨ow', k1, b1⟩ := store (i := i) ok bk u2 r2
    exact ⟨_, F2, ow', hk fun a ha => good a ha, k1, b1, s1.trans u2.sub⟩
end
end CH

/-! Choosehall: the refusals; defs that may raise, by their bodies; len(set(..)); find. -/
namespace CH
open PySem L2
inductive Er where
  | bad
  | noc
  | noh
  | tw
  deriving DecidableEq
def Er.n : Er → Str
  | .bad => "BadLine"
  | .noc => "NoComer"
  | .noh => "NoHouse"
  | .tw => "Twice"
def erA (K : PySem.W.Frag) (e : Er) : Addr := He.ga K e.n
abbrev erV (K : PySem.W.Frag) (e : Er) : Value := .ref (erA K e)
structure ErF (K : PySem.W.Frag) (mg : Str → Option Value) : Prop where
  gl : ∀ e : Er, mg e.n = some (erV K e)
  glH : mg "HallError" = some (.ref (He.ga K "HallError"))
  vE : mg "ValueError" = none
  x1 : ∀ e, PySem.W.excIn K (erA K e) He.veBase "ValueError.__new__" = true
  x2 : ∀ e, PySem.W.keepIn K (erV K e) = true
  x3 : ∀ e, PySem.W.subIn K (erV K e) (.type "BaseException") = some true
  x4 : ∀ e, PySem.W.typeIn K (erV K e) = some (.type "type")
  hall : ∀ e, PySem.W.exmOne K (erV K e) (.ref (He.ga K "HallError")) = some true
  ec : ∀ e, ExcC K (erA K e)
  kit : ∀ e f : Er, PySem.W.kitOne K (erV K e) (erV K f) = some (decide (e = f))
  kitV : ∀ e, PySem.W.kitOne K (erV K e) (.type "ValueError") = some true
theorem Out.mono {g : Gb} {B : Hp × Hp} {W : WX} {o o' : Oc} (h : Out g B W o) (e : ∀ c, o' = .inr c → o = .inr c) : Out g B W o' := fun c h' => h c (e c h')
section
variable {g : Gb} {X : Cx} {G : List Sl} {B : Hp × Hp} {pos p p2 p3 apos : Pos} {x m : Str} {k : KE} {W : WX} {e o : Expr}
/-- raise BadLine(..) -/
theorem sr_err (r : Er) {j : Nat} (hK : X.K = g.K) (EF : ErF g.K X.mg) (tk : Takes X W) (out : Out g B W (.inr (erV g.K r))) (hx : x = r.n := by rfl) (hc : X.calm = true := by rfl) (hg : Gl X x := by rfl) (hdb : (x == ("__debug__" : Str)) = false := by decide) :
    S1R g X B G (.Raise (some (.Call (.Name x p) [.Constant (.str m) j p2] [] p3)) none pos) k := by
  subst hx
  exact sr_raise (C := erA g.K r) hc tk (by rw [hK]; exact EF.x1 r) (EF.gl r) (by rw [hK]; exact EF.x2 r) (by rw [hK]; exact EF.x3 r) (by rw [hK]; exact EF.x4 r) out hg hdb
/-- x.find(y) -/
theorem ev_find {x y : Str} (h1 : EvD g X G o (.str x)) (h2 : EvD g X G e (.str y)) (hs : starEach [e] X.env = [(false, eval e X.env)] := by rfl)
    (hb : attributeBase o "find" X.env (eval o X.env) = eval o X.env := by rfl) (hline : (apos.endLine == pos.line) = true := by rfl) : EvD g X G (.Call (.Attribute o "find" apos) [e] [] pos) (.int (Txt.find x y)) := by
  intro F H σ ow k Q q
  refine we_of (pe_m1 PySem.F.slot_str_find PySem.F.type_str_find mt_find pe_we pe_we hs hb hline) ?_
  refine h1 F H σ ow k _ fun v F1 H1 u r => ⟨⟨x, of_str r⟩, ?_⟩
  refine h2 F1 H1 σ ow (k.up u) _ fun v2 F2 H2 u2 r2 => ⟨x, y, of_str r, by rw [of_str r2], q _ F2 H2 (u.trans u2) (rep_int _)⟩
end
/-! ### len(set(..)) -/
section
open PySem.Spec PyProof.Rows
def ddC (ns : List Int) : Nat := (PyProof.Rows.firstMet (fun i => ns.getD i 0) ns.length).length
theorem dd_le : ∀ (l acc : List Int), (l.foldl PyProof.Rows.step_dedup acc).length ≤ acc.length + l.length ∧ ((l.foldl PyProof.Rows.step_dedup acc).length = acc.length + l.length → l.Nodup ∧ ∀ a ∈ l, a ∉ acc)
  | [], acc => ⟨Nat.le_refl _, fun _ => ⟨List.nodup_nil, fun a h => by cases h⟩⟩
  | a :: l, acc => by
    rw [List.foldl_cons, List.length_cons]
    by_cases h : acc.any (· == a) = true
    · have e : PyProof.Rows.step_dedup acc a = acc := by
        unfold PyProof.Rows.step_dedup
        rw [if_pos h]
      rw [e]
      have := (dd_le l acc).1
      exact ⟨by omega, fun z => by omega⟩
    · have e : PyProof.Rows.step_dedup acc a = acc ++ [a] := by
        unfold PyProof.Rows.step_dedup
        rw [if_neg h]
      have na : a ∉ acc := fun hm => h (List.any_eq_true.mpr ⟨a, hm, beq_self_eq_true a⟩)
      rw [e]
      obtain ⟨h1, h2⟩ := dd_le l (acc ++ [a])
      rw [List.length_append, List.length_singleton] at h1 h2
      refine ⟨by omega, fun z => ?_⟩
      obtain ⟨h3, h4⟩ := h2 (by omega)
      refine ⟨List.nodup_cons.mpr ⟨fun hm => h4 a hm (List.mem_append_right _ (List.mem_singleton.mpr rfl)), h3⟩, fun b hb => ?_⟩
      rcases List.mem_cons.mp hb with rfl | hb
      · exact na
      · exact fun z => h4 b hb (List.mem_append_left _ z)
theorem ddC_eq {ns : List Int} : ddC ns = ns.length ↔ ns.Nodup := by
  have e : (List.range ns.length).map (fun i => ns.getD i 0) = ns := by
    refine List.ext_getElem (by simp) fun i h1 h2 => ?_
    simp [List.getD_eq_getElem?_getD, List.getElem?_eq_getElem h2]
  unfold ddC PyProof.Rows.firstMet
  rw [e]
  constructor
  · intro h
    exact ((dd_le ns []).2 (by rw [h]; simp)).1
  · intro h
    have := RZ.firstMet_nodup h ns.length (Nat.le_refl _)
    unfold PyProof.Rows.firstMet at this
    rw [e, List.take_length] at this
    rw [this]
theorem ddC_le (ns : List Int) : ddC ns ≤ ns.length := PyProof.Rows.firstMet_length_le _ _
def tLenSetD (K : PySem.W.Frag) (ta : TE) : TE := fun σ H Q => ta σ H fun x H1 => ∃ (l : Addr) (ns : List Int), x = .ref l ∧ SqL K H1 l (ns.map V.int) ∧ ns.length ≤ 4000 ∧ Q (.int (ddC ns : Nat)) H1
theorem pe_lenSetD {X : Cx} {a : Expr} {ta : TE} {p p2 q pos : Pos} (hg : Gl X "len") (hm : X.mg "len" = none) (hg2 : Gl X "set") (hm2 : X.mg "set" = none) (ha : PE X a ta) (hc : X.calm = true := by rfl)
    (na : starEach [a] X.env = (false, eval a X.env) :: starEach [] X.env := by rfl) : PE X (.Call (.Name "len" p) [.Call (.Name "set" p2) [a] [] q] [] pos) (tLenSetD X.K ta) := by
  refine ⟨fun pins s σ H Q I h => ?_⟩
  refine Call_ (ld_blt I hg hm boot_len ?_)
  refine PyProof.Rows.callWith_builtin1 (PyProof.Rows.args_cons ?_ rfl) rfl rfl
  refine Call_ (ld_blt I hg2 hm2 PyProof.Rows.boot_set ?_)
  refine PyProof.Rows.callWith_type1 (PyProof.Rows.args_cons (thn (ha.run pins s σ H _ I h) fun v s1 ⟨x, H1, I1, r1, q1⟩ => PyProof.Rows.args_nil ?_) na) na rfl
  obtain ⟨l, ns, rfl, hq, hl, q1⟩ := q1
  cases r1
  obtain ⟨its, r, pl, hz⟩ := I1.list hq
  have hlen : its.toArray.size = ns.length := by rw [List.size_toArray, ← r.length, List.length_map]
  refine call_set_list (I1.ok.hd hc) pl.isList (by simpa using RZ.intsAre_vals r) (by rw [hlen]; unfold scanBound; omega) fun h' tk hS hk => ?_
  refine PyProof.Rows.args_nil ?_
  rw [hlen] at hS
  obtain ⟨o, es, ep, t, ho, hex, hd, _, _, _, hf, hn⟩ := hS
  have I2 : Inv X pins σ H1 { s1 with heap := h', toks := tk } := I1.kept fun b o e => hk b o (Heap.lt_size e) e
  have h9 := ddC_le ns
  exact call_len_set ho hex hd hf (by rw [hn]; show ((ddC ns : Nat) : Int) < _; omega) ⟨.int (ddC ns : Nat), H1, I2.tok _, ⟨_, by rw [hn] <;> rfl⟩, q1⟩
end
section
variable {g : Gb} {X : Cx} {G : List Sl} {e : Expr} {pos p p2 pos2 : Pos}
theorem ev_lenSetD {l : List Int} (hK : X.K = g.K) (hc : X.calm = true) (fr : Free X.mg) (h : EvD g X G e (.lst (l.map D.int))) (hl : l.length ≤ 4000) (hg : Gl X "len" := by rfl) (hg2 : Gl X "set" := by rfl) (he : starEach [e] X.env = (false, eval e X.env) :: starEach [] X.env := by rfl) :
    EvD g X G (.Call (.Name "len" p) [.Call (.Name "set" p2) [e] [] pos2] [] pos) (.int (ddC l : Nat)) := by
  intro F H σ ow k Q q
  refine we_of (pe_lenSetD hg fr.len hg2 fr.set pe_we hc he) ?_
  refine h F H σ ow k _ fun v F1 H1 u r1 => ?_
  obtain ⟨t, xs, e1, h3, h4⟩ := of_lst r1
  have e2 := ints_of h4
  subst e2
  exact ⟨t, l, e1, by rw [hK]; exact SqL.of (u.fit.low _ _ h3), hl, q _ F1 H1 u (rep_int _)⟩
end
/-! ### a def that may raise, by its body -/
section
variable {P : Program} {w : World} {g : Gb} {mg : Str → Option Value} {base : Heap} {x qual : Str} {st : Stmt} {f : Addr} {fd : FuncData} {N ps : List Str} {k : Nat} {R : List D → Oc → Prop}
theorem calX_by (F : FnP g.K x x st f fd) (S : FnScope N ps (defScope st)) (hm : mg x = some (.ref f)) (hbi : ∀ (kV doc pm : Value) (an : Option Addr) (cdv ct : Value) (us : List Value), us.length = ps.length → bindArgs (PySem.W.fnOf x x (defArgs st) (defBody st) (defScope st) .none kV doc pm an cdv ct) ⟨us, []⟩ = pure (ps.zip us))
    (hlen : ∀ ds r, R ds r → ds.length = ps.length)
    (hb : ∀ ds o (cdv : Value) (A : Around) (outer : List Env) (s : Shared) (H : Hp) (E : XK) (B : Hp × Hp), R ds o → Room k (A.deeper (PyProof.Rows.envOfC x (defScope st) s.heap.objs.size f cdv)) → Out g B (fun cls d _ H' => E cls d H') o →
      SsR g (cxOf (L2.CX P w) P w g.K mg base N x (defScope st) f cdv A outer s H E) B (G0 N ds) (defBody st) (kOc o)) : CalX P w g mg base x (k + 1) R := by
  refine ⟨f, fd, ps, F.ok S (fun vs H Q E h => ?_) (fun cdv A outer s H vs Q E hr h => ?_), hm, F.kp, F.bindsN hbi⟩
  · obtain ⟨ds, o, F, hR, r1, _⟩ := h
    rw [r1.len]
    exact hlen ds o hR
  · obtain ⟨ds, o, F, hR, r1, f1, q1, q2⟩ := h
    refine ⟨_, pss_wss, ?_⟩
    have q0 := hb ds o cdv A outer s H E (F, H) hR hr (fun c ec F' H' u σ => q2 c ec F' H' u) F H (L2.start N vs) _ (ok_start r1 f1) ⟨Up.refl f1, fun i s e w => ?_⟩ F (Sub.refl F)
    · refine WSs.imp q0 (fun σ H2 z => ?_) (fun v H2 z => ?_) (fun σ H2 z => ?_) (fun σ H2 z => ?_)
      · obtain ⟨G, F2, ow, e, ok, bk, _⟩ := z
        cases o with
        | inl r =>
          have e' : r = .v .non := e
          subst e'
          exact q1 _ rfl _ F2 H2 bk.up rep_non
        | inr c => exact e.elim
      · obtain ⟨s, F2, e, u, r2⟩ := z
        cases o with
        | inl r =>
          have e' : s = r := e
          subst e'
          exact q1 _ rfl v F2 H2 u r2
        | inr c => exact e.elim
      · obtain ⟨_, _, _, z, _⟩ := z
        cases o with
        | inl r => exact z.elim
        | inr c => exact z.elim
      · obtain ⟨_, _, _, z, _⟩ := z
        cases o with
        | inl r => exact z.elim
        | inr c => exact z.elim
    · have hm : s ∈ G0 N ds := List.mem_of_getElem? e
      unfold G0 at hm
      rcases List.mem_append.mp hm with h | h
      · obtain ⟨d, _, rfl⟩ := List.mem_map.mp h
        cases w
      · rw [List.eq_of_mem_replicate h] at w
        cases w
end
end CH

/-! Choosehall: a line read, in two ways, on lists of signs. -/
namespace CH
open PySem L2
theorem lit_t {s : String} {l : List Nat} (h : s.toList.map Char.toNat = l) : Str.ofString s = SX.S l := TL.ext_tl (by rw [TL.tl_ofString, h] <;> rfl)
theorem lit_0 : Str.ofString "0" = SX.S [48] := lit_t rfl
theorem lit_sp : Str.ofString " " = SX.S [32] := lit_t rfl
theorem lit_col : Str.ofString ":" = SX.S [58] := lit_t rfl
theorem lit_no : Str.ofString "" = SX.S [] := lit_t rfl
theorem figs {c : Nat} : c ∈ (Str.ofString "0123456789").cps.toList ↔ 48 ≤ c ∧ c ≤ 57 := by
  have e : (Str.ofString "0123456789").cps.toList = [48, 49, 50, 51, 52, 53, 54, 55, 56, 57] := TL.tl_ofString "0123456789"
  rw [e]
  simp only [List.mem_cons, List.not_mem_nil, or_false]
  omega
theorem S_eq {a b : List Nat} : (SX.S a = SX.S b) ↔ a = b := ⟨SX.S_inj, fun h => by rw [h]⟩
theorem at_S {l : List Nat} {c : Nat} (h : l.head? = some c) : (D.str (SX.S l)).at_ 0 = some (.str ⟨#[c]⟩) := by
  cases l with
  | nil => cases h
  | cons x l =>
    cases h
    show (atI (c :: l) 0).map (fun k => D.str ⟨#[k]⟩) = _
    unfold atI ixN
    rw [if_pos (Int.le_refl 0), if_pos (by rw [List.length_cons]; omega)] <;> rfl
theorem big_ok {i : Int} (h0 : 0 ≤ i) (h1 : i < 100000000) : i.natAbs.log2 < 1920 := by
  have h2 : i.natAbs < 2 ^ 30 := by omega
  by_cases h3 : i.natAbs = 0
  · rw [h3]
    decide
  · exact Nat.lt_trans ((Nat.log2_lt h3).mpr h2) (by decide)
/-- what is read: a refusal, or a comer and a row -/
abbrev Rd := Er ⊕ (Int × List Int)
def numsO (h : List Nat) (ps : List (List Nat)) : Rd :=
  if (h :: ps).all numOk = false then .inl .bad
  else if 23 < numV h then .inl .noc
  else if (ps.map numV).any (fun x => decide (7 < x)) = true then .inl .noh
  else if ¬ (ps.map numV).Nodup then .inl .tw
  else .inr (numV h, ps.map numV)
def partsOf (L : List Nat) : List (List Nat) := TL.spl [32] 0 [] L
def readO (L : List Nat) : Rd := match partsOf L with
  | [] => .inl .bad
  | p :: ps => if p.getLast? = some 58 then numsO p.dropLast ps else .inl .bad
def afterO (A : List Nat) : List Nat → Rd
  | [] => numsO A []
  | c :: R => if c = 32 then numsO A (partsOf R) else .inl .bad
theorem num_not {l : List Nat} {c : Nat} (h : c ∈ l) (hc : c < 48 ∨ 57 < c) : numOk l = false := by
  have e : (l.all fun c => decide (48 ≤ c ∧ c ≤ 57)) = false := by
    cases q : (l.all fun c => decide (48 ≤ c ∧ c ≤ 57)) with
    | false => rfl
    | true =>
      have := of_decide_eq_true (List.all_eq_true.mp q c h)
      omega
  unfold numOk
  rw [e, Bool.false_and, Bool.and_false, Bool.and_false]
theorem nums_not {h : List Nat} {ps : List (List Nat)} (e : numOk h = false) : numsO h ps = .inl .bad := by
  unfold numsO
  rw [if_pos (by rw [List.all_cons, e, Bool.false_and])]
theorem parts_cut {p R : List Nat} (h : 32 ∉ p) : partsOf (p ++ 32 :: R) = p :: partsOf R := by
  have := TL.spl_part1 (S := []) (acc := []) (rest := R) h
  exact this
theorem parts_one {p : List Nat} (h : 32 ∉ p) : partsOf p = [p] := by
  have := TL.spl_last1 (S := []) (acc := []) h
  exact this
/-- the first part, and what lies behind it -/
theorem parts_cases (L : List Nat) : (32 ∉ L ∧ partsOf L = [L]) ∨ ∃ p R, L = p ++ 32 :: R ∧ 32 ∉ p ∧ partsOf L = p :: partsOf R := by
  by_cases h : 32 ∈ L
  · obtain ⟨p, R, e, hp⟩ := List.eq_append_cons_of_mem h
    exact .inr ⟨p, R, e, hp, by rw [e, parts_cut hp]⟩
  · exact .inl ⟨h, parts_one h⟩
theorem last_mem {p : List Nat} {c : Nat} (h : p.getLast? = some c) : c ∈ p := List.mem_of_getLast? h
theorem read_bad {L p : List Nat} {ps : List (List Nat)} (e : partsOf L = p :: ps) (h : p.getLast? = some 58 → numOk p.dropLast = false) : readO L = .inl .bad := by
  unfold readO
  rw [e]
  show (if p.getLast? = some 58 then numsO p.dropLast ps else .inl .bad) = _
  by_cases q : p.getLast? = some 58
  · rw [if_pos q, nums_not (h q)]
  · rw [if_neg q]
/-- no colon -/
theorem read_none {L : List Nat} (h : 58 ∉ L) : readO L = .inl .bad := by
  rcases parts_cases L with ⟨_, e⟩ | ⟨p, R, e0, _, e⟩
  · exact read_bad e fun z => absurd (last_mem z) h
  · exact read_bad e fun z => absurd (by rw [e0]; exact List.mem_append_left _ (last_mem z)) h
/-- the first colon behind A -/
theorem read_after {A R : List Nat} (h : 58 ∉ A) : readO (A ++ 58 :: R) = afterO A R := by
  by_cases hs : 32 ∈ A
  · -- a blank ahead of it
    obtain ⟨p, A', e, hp⟩ := List.eq_append_cons_of_mem hs
    have e1 : A ++ 58 :: R = p ++ 32 :: (A' ++ 58 :: R) := by rw [e, List.append_assoc, List.cons_append]
    have e2 : partsOf (A ++ 58 :: R) = p :: partsOf (A' ++ 58 :: R) := by rw [e1, parts_cut hp]
    rw [read_bad e2 fun z => absurd (by rw [e]; exact List.mem_append_left _ (last_mem z)) h]
    have nA : ∀ ps, numsO A ps = .inl .bad := fun ps => nums_not (num_not hs (.inl (by decide)))
    cases R with
    | nil => exact (nA []).symm
    | cons c R =>
      show _ = (if c = 32 then numsO A (partsOf R) else .inl .bad)
      rw [nA, ite_self]
  · have hs1 : 32 ∉ A ++ [58] := fun z => by
      rcases List.mem_append.mp z with z | z
      · exact hs z
      · exact absurd (List.mem_singleton.mp z) (by decide)
    have hl : (A ++ [58]).getLast? = some 58 := by rw [List.getLast?_append] <;> rfl
    have hd : (A ++ [58]).dropLast = A := List.dropLast_concat
    cases R with
    | nil =>
      have e : partsOf (A ++ [58]) = [A ++ [58]] := parts_one hs1
      unfold readO
      rw [e]
      show (if (A ++ [58]).getLast? = some 58 then numsO (A ++ [58]).dropLast [] else .inl .bad) = numsO A []
      rw [if_pos hl, hd]
    | cons c R =>
      by_cases hc : c = 32
      · subst hc
        have e : partsOf (A ++ 58 :: 32 :: R) = (A ++ [58]) :: partsOf R := by
          rw [← parts_cut hs1, List.append_assoc] <;> rfl
        unfold readO
        rw [e]
        show (if (A ++ [58]).getLast? = some 58 then numsO (A ++ [58]).dropLast (partsOf R) else .inl .bad) = (if (32 : Nat) = 32 then numsO A (partsOf R) else .inl .bad)
        rw [if_pos hl, hd, if_pos rfl]
      · have e9 : afterO A (c :: R) = .inl .bad := if_neg hc
        rw [e9]
        -- the first part holds the colon and something behind it
        have key : ∀ q : List Nat, numOk (A ++ 58 :: c :: q).dropLast = false := fun q => by
          have e : (A ++ 58 :: c :: q).dropLast = A ++ 58 :: (c :: q).dropLast := by
            rw [List.dropLast_append_of_ne_nil (by intro z; cases z)] <;> rfl
          rw [e]
          exact num_not (c := 58) (List.mem_append_right _ List.mem_cons_self) (.inr (by decide))
        rcases parts_cases (c :: R) with ⟨h32, _⟩ | ⟨p, R', e0, hp, _⟩
        · have e : partsOf (A ++ 58 :: c :: R) = [A ++ 58 :: c :: R] := parts_one fun z => by
            rcases List.mem_append.mp z with z | z
            · exact hs z
            · rcases List.mem_cons.mp z with z | z
              · exact absurd z (by decide)
              · exact h32 z
          exact read_bad e fun _ => key R
        · cases p with
          | nil =>
            have : c = 32 := (List.cons.inj e0).1
            exact absurd this hc
          | cons c' q =>
            have hcc : c = c' := (List.cons.inj e0).1
            subst hcc
            have e1 : A ++ 58 :: c :: R = (A ++ 58 :: c :: q) ++ 32 :: R' := by
              rw [e0, List.append_assoc] <;> rfl
            have e : partsOf (A ++ 58 :: c :: R) = (A ++ 58 :: c :: q) :: partsOf R' := by
              rw [e1, parts_cut fun z => ?_]
              rcases List.mem_append.mp z with z | z
              · exact hs z
              · rcases List.mem_cons.mp z with z | z
                · exact absurd z (by decide)
                · exact hp z
            exact read_bad e fun _ => key q
/-! ### find, endswith, split -/
theorem at_colon {L : List Nat} {i : Nat} : StrLaws.At (SX.S L) (SX.S [58]) (SX.S L).length i ↔ L[i]? = some 58 := by
  unfold StrLaws.At
  have e : Builtin.Str.subAt (SX.S L) (SX.S [58]) i = ((L.drop i).take 1 == [58]) := StrLaws.subAt_eq _ _ _
  rw [e, SX.S_len, SX.S_len]
  constructor
  · rintro ⟨h1, h2⟩
    have h3 : (L.drop i).take 1 = [58] := eq_of_beq h2
    have h4 : (L.drop i)[0]? = some 58 := by
      have : ((L.drop i).take 1)[0]? = some 58 := by rw [h3] <;> rfl
      rw [List.getElem?_take] at this
      simpa using this
    rw [List.getElem?_drop] at h4
    simpa using h4
  · intro h
    obtain ⟨hl, hv⟩ := List.getElem?_eq_some_iff.mp h
    refine ⟨hl, ?_⟩
    rw [List.drop_eq_getElem_cons hl, hv]
    exact beq_self_eq_true _
theorem find_none {L : List Nat} (h : 58 ∉ L) : Txt.find (SX.S L) (SX.S [58]) = -1 := by
  rcases PyProof.Rows.find_whole (SX.S L) (SX.S [58]) with ⟨e, _⟩ | ⟨i, _, h2, _⟩
  · exact e
  · exact absurd (List.mem_of_getElem? (at_colon.mp h2)) h
theorem find_at {A R : List Nat} (h : 58 ∉ A) : Txt.find (SX.S (A ++ 58 :: R)) (SX.S [58]) = (A.length : Int) := by
  have hA : (A ++ 58 :: R)[A.length]? = some 58 := by rw [List.getElem?_append_right (Nat.le_refl _), Nat.sub_self] <;> rfl
  rcases PyProof.Rows.find_whole (SX.S (A ++ 58 :: R)) (SX.S [58]) with ⟨_, h2⟩ | ⟨i, e, h2, h3⟩
  · exact absurd (at_colon.mpr hA) (h2 _)
  · rw [e]
    have h4 := at_colon.mp h2
    have : i = A.length := by
      by_cases hlt : i < A.length
      · rw [List.getElem?_append_left hlt] at h4
        exact absurd (List.mem_of_getElem? h4) h
      · by_cases hgt : A.length < i
        · exact absurd (at_colon.mpr hA) (h3 _ hgt)
        · omega
    rw [this]
theorem ends_colon (p : List Nat) : Txt.endswith (SX.S p) (SX.S [58]) = decide (p.getLast? = some 58) := by
  rcases List.eq_nil_or_concat p with rfl | ⟨q, c, rfl⟩
  · decide
  · rw [List.concat_eq_append, ← SX.S_cat, PySem.W.KAf.ends_right (by rw [SX.S_len, SX.S_len]; exact Nat.le_refl _)]
    have e : (q ++ [c]).getLast? = some c := by rw [List.getLast?_append] <;> rfl
    rw [e]
    have e2 : Builtin.Str.subAt (SX.S [c]) (SX.S [58]) 0 = ([c] == [58]) := StrLaws.subAt_eq _ _ _
    have e3 : Txt.endswith (SX.S [c]) (SX.S [58]) = Builtin.Str.subAt (SX.S [c]) (SX.S [58]) 0 := Bool.true_and _
    rw [e3, e2]
    by_cases h : c = 58
    · subst h
      rfl
    · rw [decide_eq_false fun z => h (Option.some.inj z)]
      exact beq_false_of_ne fun z => h (List.cons.inj z).1
theorem split_parts (L : List Nat) : Txt.split (SX.S L) (SX.S [32]) = (partsOf L).map SX.S := SX.split_S (by intro z; cases z) (by decide)
theorem parts_len : ∀ L : List Nat, ∀ p ∈ partsOf L, p.length ≤ L.length := by
  intro L
  induction hn : L.length using Nat.strongRecOn generalizing L with
  | _ n ih =>
    intro p hp
    rcases parts_cases L with ⟨_, e⟩ | ⟨q, R, e0, _, e⟩
    · rw [e] at hp
      rw [List.mem_singleton.mp hp, hn]
      exact Nat.le_refl _
    · have hl : L.length = q.length + (R.length + 1) := by rw [e0, List.length_append, List.length_cons]
      rw [e] at hp
      rcases List.mem_cons.mp hp with rfl | hp
      · omega
      · have := ih R.length (by omega) R rfl p hp
        omega
theorem parts_num : ∀ L : List Nat, (partsOf L).length ≤ L.length + 1 := by
  intro L
  induction hn : L.length using Nat.strongRecOn generalizing L with
  | _ n ih =>
    rcases parts_cases L with ⟨_, e⟩ | ⟨q, R, e0, _, e⟩
    · rw [e]
      simp
    · have hl : L.length = q.length + (R.length + 1) := by rw [e0, List.length_append, List.length_cons]
      have := ih R.length (by omega) R rfl
      rw [e, List.length_cons]
      omega
theorem parts_ne (L : List Nat) : ∃ p ps, partsOf L = p :: ps := by
  rcases parts_cases L with ⟨_, e⟩ | ⟨q, R, _, _, e⟩
  · exact ⟨_, _, e⟩
  · exact ⟨_, _, e⟩
end CH

/-! Choosehall: number_of and read, with their refusals. -/
namespace CH
open PySem L2
theorem cutD_1 {l : List D} {a : D} : cutD (a :: l) (some 1) none = l := by
  rw [drop_cut (by decide)] <;> rfl
section
variable {P : Program} {w : World} {g : Gb} {mg : Str → Option Value} {base : Heap} {f : Addr} {fd : FuncData}
def numOc (K : PySem.W.Frag) (l : List Nat) : Oc := if numOk l = true then .inl (.v (.int (numV l))) else .inr (erV K .bad)
def RNum2 (K : PySem.W.Frag) : List D → Oc → Prop := fun ds o => ∃ l : List Nat, l.length ≤ 50000 ∧ ds = [.str (SX.S l)] ∧ o = numOc K l
theorem numOk_iff {l : List Nat} : numOk l = true ↔ (l ≠ [] ∧ l.length ≤ 6 ∧ (∀ c ∈ l, 48 ≤ c ∧ c ≤ 57) ∧ (l.head? = some 48 → l = [48])) := by
  unfold numOk
  rw [Bool.and_eq_true, Bool.and_eq_true, Bool.and_eq_true, decide_eq_true_eq, decide_eq_true_eq, decide_eq_true_eq, List.all_eq_true]
  simp only [decide_eq_true_eq]
theorem c_num2 (F : FnP g.K "number_of" "number_of" s_number_of f fd) (hm : mg "number_of" = some (.ref f)) (fr : Free mg) (EF : ErF g.K mg) (fg : ∃ t, mg "FIGURES" = some (.str "0123456789" t)) : CalX P w g mg base "number_of" 1 (RNum2 g.K) := by
  refine calX_by (N := ["text", "sign"]) (ps := ["text"]) F ⟨rfl, rfl, rfl, by decide +kernel, rfl, by decide +kernel, by decide +kernel⟩ hm (fun _ _ _ _ _ _ us hl => match us, hl with | [_], _ => rfl) ?_ ?_
  · rintro ds r ⟨l, _, rfl, _⟩
    rfl
  · rintro ds o cdv A outer s0 H E B ⟨l, lmax, rfl, rfl⟩ hr out
    obtain ⟨t, hfg⟩ := fg
    have tk : Takes (cxOf (L2.CX P w) P w g.K mg base ["text", "sign"] "number_of" (defScope s_number_of) f cdv A outer s0 H E) (fun cls d _ H' => E cls d H') := L2.takes_of rfl rfl rfl rfl
    have bad : numOk l = false → Out g B (fun cls d _ H' => E cls d H') (.inr (erV g.K .bad)) := fun e => by
      unfold numOc at out
      rw [if_neg (by rw [e]; decide)] at out
      exact out
    have hlen : (SX.S l).length = l.length := SX.S_len l
    have nope : ∀ {q : Prop}, ¬ q → (numOk l = true → q) → numOk l = false := fun n h => by
      cases z : numOk l with
      | false => rfl
      | true => exact absurd (h z) n
    refine sr_cons (sr_if (b := decide (l = []) || decide (6 < (l.length : Int))) (EvT.is (et_or (et_cmp (ev_var 0) ev_str cmp_eqS) (fun _ => et_cmp (ev_len (n := l.length) rfl fr (ev_var 0) (show (D.str (SX.S l)).len = some l.length from congrArg some hlen) (by show (SX.S l).length ≤ 100000; omega)) ev_int cmp_gt)) ?_) (fun hb => ?_) (fun hb => sr_nil ?_))
    · rw [lit_no]
      congr 1
      exact decide_eq_decide.mpr S_eq
    · refine sr_one (sr_err .bad rfl EF tk (bad ?_))
      rw [Bool.or_eq_true] at hb
      rcases hb with hb | hb
      · exact nope (fun z => z (of_decide_eq_true hb)) fun z => (numOk_iff.mp z).1
      · have := of_decide_eq_true hb
        exact nope (q := l.length ≤ 6) (by omega) fun z => (numOk_iff.mp z).2.1
    rw [Bool.or_eq_false_iff] at hb
    have o1 : l ≠ [] := of_decide_eq_false hb.1
    have o2 : l.length ≤ 6 := by
      have := of_decide_eq_false hb.2
      omega
    obtain ⟨c, hc⟩ : ∃ c, l.head? = some c := by
      cases l with
      | nil => exact absurd rfl o1
      | cons x l => exact ⟨x, rfl⟩
    refine sr_cons (sr_for 1 (items := l.map fun c => D.str ⟨#[c]⟩) (ei_str (z := SX.S l) (ev_var 0)) (fun i G => (∃ z : Sl, G = [.v (.str (SX.S l)), z]) ∧ ∀ c ∈ l.take i, 48 ≤ c ∧ c ≤ 57) ⟨⟨_, rfl⟩, fun c hc => by rw [List.take_zero] at hc; cases hc⟩ (fun i d G hd hI => ?_) (fun G hI => ?_))
    · obtain ⟨⟨z, rfl⟩, hI⟩ := hI
      rw [List.getElem?_map] at hd
      obtain ⟨k, hk, rfl⟩ := Option.map_eq_some_iff.mp hd
      refine sr_one (sr_if (b := !decide (48 ≤ k ∧ k ≤ 57)) (EvT.is (et_cmp (ev_var 1) (ev_glob (d := .str "0123456789") (v := .str "0123456789") rfl hfg ⟨t, rfl⟩ (fun F => rep_str _)) cmp_notin1) (by rw [decide_eq_decide.mpr figs])) (fun hb => ?_) (fun hb => sr_nil ⟨⟨_, rfl⟩, fun c hc => ?_⟩))
      · have hb2 : ¬ (48 ≤ k ∧ k ≤ 57) := of_decide_eq_false (by rw [Bool.not_eq_true'] at hb; exact hb)
        exact sr_one (sr_err .bad rfl EF tk (bad (nope hb2 fun z => (numOk_iff.mp z).2.2.1 k (List.mem_of_getElem? hk))))
      · rw [Bool.not_eq_false'] at hb
        rw [take_snoc hk] at hc
        rcases List.mem_append.mp hc with hc | hc
        · exact hI c hc
        · rw [List.mem_singleton.mp hc]
          exact of_decide_eq_true hb
    obtain ⟨⟨z, rfl⟩, dig⟩ := hI
    rw [List.length_map, List.take_length] at dig
    refine sr_cons (sr_if (b := decide (c = 48) && !decide (l = [48])) (EvT.is (et_and (et_cmp (ev_ix (hx := by show (SX.S l).length ≤ 100000; omega) rfl (ev_var 0) ev_int (at_S hc)) ev_str cmp_eqS) (fun _ => et_cmp (ev_var 0) ev_str cmp_neS)) ?_) (fun hb => ?_) (fun hb => sr_nil ?_))
    · rw [lit_0]
      congr 1
      · exact decide_eq_decide.mpr ⟨fun z => (List.cons.inj (SX.S_inj (a := [c]) (b := [48]) z)).1, fun z => by rw [z]⟩
      · congr 1
        exact decide_eq_decide.mpr S_eq
    · rw [Bool.and_eq_true, Bool.not_eq_true'] at hb
      have e1 := of_decide_eq_true hb.1
      have e2 := of_decide_eq_false hb.2
      exact sr_one (sr_err .bad rfl EF tk (bad (nope e2 fun z => (numOk_iff.mp z).2.2.2 (by rw [hc, e1]))))
    · have ok : numOk l = true := numOk_iff.mpr ⟨o1, o2, dig, fun z => by
        rw [hc] at z
        have e1 : c = 48 := Option.some.inj z
        rw [e1] at hb
        have hb' : (!decide (l = [48])) = false := hb
        rw [Bool.not_eq_false'] at hb'
        exact of_decide_eq_true hb'⟩
      have hi : intText? (SX.S l) = some (numV l) := intText_digits (x := SX.S l) dig o1 (by omega)
      have e9 : numOc g.K l = .inl (.v (.int (numV l))) := if_pos ok
      rw [e9]
      exact sr_one (s_ret (ev_int_str fr (ev_var 0) hi (by omega)) rfl).r
def rdOc (K : PySem.W.Frag) : Rd → Oc
  | .inl e => .inr (erV K e)
  | .inr (c, row) => .inl (.v (.tup [.int c, intsD row]))
def RRead2 (K : PySem.W.Frag) : List D → Oc → Prop := fun ds o => ∃ L : List Nat, L.length ≤ 1000 ∧ ds = [.str (SX.S L)] ∧ o = rdOc K (readO L)
theorem c_read2 (F : FnP g.K "read" "read" s_read f fd) (hm : mg "read" = some (.ref f)) (fr : Free mg) (EF : ErF g.K mg) (CN : CalX P w g mg base "number_of" 1 (RNum2 g.K)) : CalX P w g mg base "read" 2 (RRead2 g.K) := by
  refine calX_by (N := ["line", "parts", "comer", "row", "house", "text"]) (ps := ["line"]) F ⟨rfl, rfl, rfl, by decide +kernel, rfl, by decide +kernel, by decide +kernel⟩ hm (fun _ _ _ _ _ _ us hl => match us, hl with | [_], _ => rfl) ?_ ?_
  · rintro ds r ⟨l, _, rfl, _⟩
    rfl
  · rintro ds o cdv A outer s0 H E B ⟨L, lmax, rfl, rfl⟩ hr out
    have tk : Takes (cxOf (L2.CX P w) P w g.K mg base ["line", "parts", "comer", "row", "house", "text"] "read" (defScope s_read) f cdv A outer s0 H E) (fun cls d _ H' => E cls d H') := L2.takes_of rfl rfl rfl rfl
    have bad : ∀ e, readO L = .inl e → Out g B (fun cls d _ H' => E cls d H') (.inr (erV g.K e)) := fun e z => by
      rw [z] at out
      exact out
    obtain ⟨p, ps, hp⟩ := parts_ne L
    have hin : ∀ q ∈ p :: ps, q.length ≤ 1000 := fun q hq => Nat.le_trans (parts_len L q (by rw [hp]; exact hq)) lmax
    have hnum : (p :: ps).length ≤ 1001 := by
      have := parts_num L
      rw [hp] at this
      omega
    have hpl := hin p List.mem_cons_self
    have hr1 := hr.mono (j := 1) (by omega)
    have esp : ((Txt.split (SX.S L) (Str.ofString " ")).map D.str) = (p :: ps).map fun a => D.str (SX.S a) := by
      rw [lit_sp, split_parts, hp, List.map_map] <;> rfl
    have hy : ((Str.ofString " ").length == 0) = false := by
      rw [lit_sp, SX.S_len] <;> rfl
    refine sr_cons (s_asg 1 (Ev.fz (Ev.is (ev_split (ev_var 0) ev_str hy (by rw [SX.S_len]; omega)) (congrArg Sl.m esp))) ?_).r
    have e0 : (D.lst ((p :: ps).map fun a => D.str (SX.S a))).at_ 0 = some (.str (SX.S p)) := at0
    refine sr_cons (sr_if (b := !decide (p.getLast? = some 58)) (EvT.is (et_not (et_val (ev_endswith (ev_ix rfl (ev_var 1) ev_int e0) ev_str))) (by rw [lit_col, ends_colon])) (fun hb => ?_) (fun hb => sr_nil ?_))
    · rw [Bool.not_eq_true'] at hb
      exact sr_one (sr_err .bad rfl EF tk (bad .bad (read_bad hp fun z => absurd z (of_decide_eq_false hb))))
    rw [Bool.not_eq_false'] at hb
    have hlast := of_decide_eq_true hb
    have hpne : p ≠ [] := fun z => by
      rw [z] at hlast
      cases hlast
    have er : readO L = numsO p.dropLast ps := by
      unfold readO
      rw [hp]
      exact if_pos hlast
    have esl : Txt.slice (SX.S p) none (some (-1)) = SX.S p.dropLast := by
      rw [SX.slice_butlast hpne, List.dropLast_eq_take]
    refine sr_cons (sr_call 2 (ds := [.str (SX.S p.dropLast)]) (oc := numOc g.K p.dropLast) rfl CN tk hr (ea_cons (Ev.is (ev_slS (ev_ix rfl (ev_var 1) ev_int e0) (by rw [SX.S_len]; omega) eo_none (eo_some (ev_neg ev_int))) (congrArg (fun z => Sl.v (.str z)) esl)) ea_nil) ⟨p.dropLast, by rw [List.length_dropLast]; omega, rfl, rfl⟩ (fun c ec => ?_) (fun r er1 => ?_))
    · unfold numOc at ec
      by_cases z : numOk p.dropLast = true
      · rw [if_pos z] at ec
        cases ec
      · rw [if_neg z] at ec
        rw [← Sum.inr.inj ec]
        exact bad .bad (by rw [er, nums_not (by simpa using z)]) _ rfl
    have okh : numOk p.dropLast = true := by
      unfold numOc at er1
      by_cases z : numOk p.dropLast = true
      · exact z
      · rw [if_neg z] at er1
        cases er1
    unfold numOc at er1
    rw [if_pos okh] at er1
    have er1 := Sum.inl.inj er1
    subst er1
    refine ⟨fun z => (by cases z), ?_⟩
    refine sr_cons (sr_lcx 3 5 (enc := fun a => D.str (SX.S a)) (l := ps) (fun a => if numOk a = true then some (.int (numV a)) else none) (erV g.K .bad) rfl CN tk hr (fun a ha => ⟨a, by have := hin a (List.mem_cons_of_mem _ ha); omega, rfl, ?_⟩)
      (ei_list rfl (Ev.is (Ev.fz (ev_sl rfl (ev_var 1) (eo_some ev_int) eo_none)) (congrArg (fun l => Sl.v (.lst l)) cutD_1))) (by rw [List.length_cons] at hnum; omega) (fun ⟨a, ha, hn⟩ => bad .bad ?_) (fun hall => ?_) (fun a ha _ _ _ _ _ _ => ev_var 5))
    · unfold numOc
      by_cases z : numOk a = true
      · rw [if_pos z, if_pos z] <;> rfl
      · rw [if_neg z, if_neg z] <;> rfl
    · rw [er]
      unfold numsO
      rw [if_pos]
      cases q : (p.dropLast :: ps).all numOk with
      | false => rfl
      | true =>
        have := List.all_eq_true.mp q a (List.mem_cons_of_mem _ ha)
        rw [if_pos this] at hn
        cases hn
    have okps : ∀ a ∈ ps, numOk a = true := fun a ha => by
      by_cases z : numOk a = true
      · exact z
      · exact absurd (if_neg z) (hall a ha)
    have erow : ps.filterMap (fun a => if numOk a = true then some (D.int (numV a)) else none) = (ps.map numV).map D.int := by
      rw [List.map_map]
      clear hall hin hnum er hp e0 esp
      induction ps with
      | nil => rfl
      | cons a r ih =>
        rw [List.filterMap_cons, if_pos (okps a List.mem_cons_self), List.map_cons, ih fun b hb => okps b (List.mem_cons_of_mem _ hb)] <;> rfl
    rw [erow]
    have eall : (p.dropLast :: ps).all numOk = true := List.all_eq_true.mpr fun a ha => by
      rcases List.mem_cons.mp ha with rfl | ha
      · exact okh
      · exact okps a ha
    have er2 : readO L = (if 23 < numV p.dropLast then .inl .noc else if (ps.map numV).any (fun x => decide (7 < x)) = true then .inl .noh else if ¬ (ps.map numV).Nodup then .inl .tw else .inr (numV p.dropLast, ps.map numV)) := by
      rw [er]
      unfold numsO
      rw [if_neg (by rw [eall]; decide)]
    obtain ⟨c, hc⟩ : ∃ c, c = numV p.dropLast := ⟨_, rfl⟩
    obtain ⟨row, hrow⟩ : ∃ row, row = ps.map numV := ⟨_, rfl⟩
    rw [← hc, ← hrow] at er2
    rw [← hc, ← hrow]
    have lrow : row.length ≤ 1000 := by
      rw [hrow, List.length_map]
      rw [List.length_cons] at hnum
      omega
    refine sr_cons (sr_if (b := decide (23 < c)) (et_cmp (ev_var 2) ev_int cmp_gt) (fun hb => sr_one (sr_err .noc rfl EF tk (bad .noc (by rw [er2, if_pos (of_decide_eq_true hb)])))) (fun hb => sr_nil ?_))
    have hb1 := of_decide_eq_false hb
    rw [if_neg hb1] at er2
    refine sr_cons (sr_for 4 (items := row.map D.int) (ei_list rfl (ev_var 3)) (fun i G => (∃ z : Sl, G = [.v (.str (SX.S L)), .v (.lst ((p :: ps).map fun a => D.str (SX.S a))), .v (.int c), .v (intsD row), z, .un]) ∧ ∀ x ∈ row.take i, ¬ 7 < x) ⟨⟨_, rfl⟩, fun c hc => by rw [List.take_zero] at hc; cases hc⟩ (fun i d G hd hI => ?_) (fun G hI => ?_))
    · obtain ⟨⟨z, rfl⟩, hI⟩ := hI
      rw [List.getElem?_map] at hd
      obtain ⟨k, hk, rfl⟩ := Option.map_eq_some_iff.mp hd
      refine sr_one (sr_if (b := decide (7 < k)) (et_cmp (ev_var 4) ev_int cmp_gt) (fun hb => sr_one (sr_err .noh rfl EF tk (bad .noh ?_))) (fun hb => sr_nil ⟨⟨_, rfl⟩, fun x hx => ?_⟩))
      · rw [er2, if_pos (List.any_eq_true.mpr ⟨k, List.mem_of_getElem? hk, hb⟩)]
      · rw [take_snoc hk] at hx
        rcases List.mem_append.mp hx with hx | hx
        · exact hI x hx
        · rw [List.mem_singleton.mp hx]
          exact of_decide_eq_false hb
    obtain ⟨⟨z, rfl⟩, hI⟩ := hI
    rw [List.length_map, List.take_length] at hI
    rw [if_neg (fun z => by
      obtain ⟨x, hx, h7⟩ := List.any_eq_true.mp z
      exact hI x hx (of_decide_eq_true h7))] at er2
    refine sr_cons (sr_if (b := !decide (ddC row = row.length)) (EvT.is (et_cmp (ev_lenSetD rfl rfl fr (ev_var 3) (by omega)) (ev_len rfl fr (ev_var 3) (show (intsD row).len = some row.length by show some (row.map D.int).length = _; rw [List.length_map])) (cmp_ne rfl hr.units ⟨rfl, rfl⟩ ⟨rfl, rfl⟩)) ?_) (fun hb => ?_) (fun hb => sr_nil ?_))
    · show (!decide (((ddC row : Nat) : Int) = (row.length : Nat))) = _
      congr 1
      exact decide_eq_decide.mpr (by omega)
    · rw [Bool.not_eq_true'] at hb
      have hb2 := of_decide_eq_false hb
      exact sr_one (sr_err .tw rfl EF tk (bad .tw (by rw [er2, if_pos fun z => hb2 (ddC_eq.mpr z)])))
    · rw [Bool.not_eq_false'] at hb
      rw [if_neg (fun z => z (ddC_eq.mp (of_decide_eq_true hb)))] at er2
      rw [er2]
      exact sr_one (s_ret (ev_tup (ea_cons (ev_var 2) (ea_cons (ev_var 3) ea_nil)) (by show (2 : Nat) ≤ 100000; decide)) rfl).r
end
end CH

/-! Choosehall: max(l, default=0). -/
namespace CH
open PySem PySem.Spec PyProof.Rows L2
def IsMx (ns : List Int) (m : Int) : Prop := (ns = [] ∧ m = 0) ∨ (m ∈ ns ∧ ∀ y ∈ ns, y ≤ m)
theorem maxOf_int : ∀ (xs : List Int) (x : Int), PySem.W.maxOf x xs ∈ x :: xs ∧ ∀ y ∈ x :: xs, y ≤ PySem.W.maxOf x xs
  | [], x => ⟨List.mem_cons_self, fun y hy => by
    rcases List.mem_cons.mp hy with e | e
    · rw [e]
      exact Int.le_refl _
    · cases e⟩
  | z :: xs, x => by
    have e : PySem.W.maxOf x (z :: xs) = PySem.W.maxOf (if decide (x < z) = true then z else x) xs := rfl
    rw [e]
    by_cases h : x < z
    · rw [if_pos (decide_eq_true h)]
      obtain ⟨h1, h2⟩ := maxOf_int xs z
      refine ⟨List.mem_cons_of_mem _ h1, fun y hy => ?_⟩
      rcases List.mem_cons.mp hy with e | hy
      · have := h2 z List.mem_cons_self
        omega
      · exact h2 y hy
    · rw [if_neg (by simpa using h)]
      obtain ⟨h1, h2⟩ := maxOf_int xs x
      refine ⟨?_, fun y hy => ?_⟩
      · rcases List.mem_cons.mp h1 with e | e
        · rw [e]
          exact List.mem_cons_self
        · exact List.mem_cons_of_mem _ (List.mem_cons_of_mem _ e)
      · rcases List.mem_cons.mp hy with e | hy
        · rw [e]
          exact h2 x List.mem_cons_self
        · rcases List.mem_cons.mp hy with e | hy
          · have := h2 x List.mem_cons_self
            omega
          · exact h2 y (List.mem_cons_of_mem _ hy)
def rMaxD0 (K : PySem.W.Frag) : List V → List V → Hp → VK → Prop := fun vs zs H Q => ∃ (a : Addr) (ns : List Int), vs = [V.ref a] ∧ zs = [V.int 0] ∧ SqL K H a (ns.map V.int) ∧ ∀ m, IsMx ns m → Q (.int m) H
theorem cr_maxD0 {X : Cx} (hc : X.calm = true) (hu : X.A.units + 64 < cLine) : CallRK X (.builtin "max") [Str.ofString "default"] (rMaxD0 X.K) := by
  intro pins s σ H vs zs us ws Q I r1 r2 h
  obtain ⟨a, ns, rfl, rfl, hs, q⟩ := h
  obtain ⟨its, rv, hl, _⟩ := I.list hs
  rw [Vals.ref1 r1]
  cases r2 with
  | cons rz rn =>
    cases rn
    obtain ⟨t, rfl⟩ := rz
    have hi : PySem.W.HoldAll s.heap its.toArray.toList ns := by
      have key : ∀ {ms : List Int} {us : List Value}, Vals (ms.map V.int) us → PySem.W.HoldAll s.heap us ms := fun {ms} => by
        induction ms with
        | nil => intro us r; cases r; exact PySem.W.HoldAll.nil
        | cons m ms ih =>
          intro us r
          cases r with
          | cons ru rr =>
            obtain ⟨k, rfl⟩ := ru
            exact PySem.W.HoldAll.cons (PySem.W.holds_int m k) (ih rr)
      simpa using key rv
    refine PySem.W.max_list_datum_default (xs := ns) (d := .int 0 t) (I.ok.hd hc) hl.isList hi (by show X.A.units + 1 + 0 < cLine; omega) (fun e h' tk hk => ⟨.int 0, H, I.kept hk, ⟨t, rfl⟩, q 0 (.inl ⟨e, rfl⟩)⟩) fun y ys i v h' tk e hv hh hk => ?_
    obtain ⟨t2, rfl⟩ := PySem.W.int_of_holds hh
    refine ⟨.int _, H, I.kept hk, ⟨t2, rfl⟩, q _ (.inr ?_)⟩
    rw [e]
    exact maxOf_int ys y
section
variable {g : Gb} {X : Cx} {G : List Sl} {e : Expr} {pos p p2 p3 : Pos}
theorem ev_maxD0 {l : List Int} {m : Int} {j : Nat} (hK : X.K = g.K) (hc : X.calm = true) (hu : X.A.units + 64 < cLine) (fr : Free X.mg) (h : EvD g X G e (.lst (l.map D.int))) (hm : ∀ n, IsMx l n → n = m) (hg : Gl X "max" := by rfl)
    (he : starEach [e] X.env = (false, eval e X.env) :: starEach [] X.env := by rfl) (heB : backTo pos (starEach [e] X.env) = (false, eval e X.env) :: backTo pos (starEach [] X.env) := by rfl) (hpl : (backTo pos (starEach [e] X.env)).any (·.1) = false := by rfl) :
    EvD g X G (.Call (.Name "max" p) [e] [⟨some "default", .Constant (.int 0) j p2, p3⟩] pos) (.int m) := by
  intro F H σ ow k Q q
  refine we_of (pe_callBK (cr_maxD0 hc hu) hg fr.max (by decide +kernel) (pa_cons pe_we pa_nil he) (pk_cons pe_int pk_nil) (he := heB) (hpl := hpl)) ?_
  refine h F H σ ow k _ fun v F1 H1 u r1 => ?_
  obtain ⟨t, xs, e1, h3, h4⟩ := of_lst r1
  have e2 := ints_of h4
  subst e2
  refine ⟨t, l, by rw [e1], rfl, by rw [hK]; exact SqL.of (u.fit.low _ _ h3), fun n hn => ?_⟩
  rw [hm n hn]
  exact q _ F1 H1 u (rep_int _)
end
end CH

/-! Choosehall: a whole number. -/
namespace CH
open PySem L2
section
variable {P : Program} {w : World} {g : Gb} {mg : Str → Option Value} {base : Heap} {f : Addr} {fd : FuncData}
def RWhole : List D → Sl → Prop := fun ds r => ∃ i : Int, ds = [.int i] ∧ r = .v (.bl true)
theorem c_whole (F : FnP g.K "_law_whole" "_law_whole" s__law_whole f fd) (hm : mg "_law_whole" = some (.ref f)) (fr : Free mg) : Cal P w g mg base "_law_whole" 1 RWhole := by
  refine cal_by (N := ["found"]) (ps := ["found"]) F ⟨rfl, rfl, rfl, by decide +kernel, rfl, by decide +kernel, by decide +kernel⟩ hm (fun _ _ _ _ _ _ us hl => match us, hl with | [_], _ => rfl) ?_ ?_
  · rintro ds r ⟨i, rfl, _⟩
    rfl
  · rintro ds r cdv A outer s0 H E ⟨i, rfl, rfl⟩ hr
    exact ss_one (s_ret (ev_and (ev_isi (T := "int") (r := true) rfl fr (ev_var 0) rfl (by decide +kernel) (by decide +kernel) fr.int) (fun _ => ev_not (ev_isi (T := "bool") (r := false) rfl fr (ev_var 0) rfl (by decide +kernel) (by decide +kernel) fr.bool))) rfl)

end
end CH

/-! Choosehall: law k02's own reading. -/
namespace CH
open PySem L2
def numO (l : List Nat) : Option Int := if numOk l = true then some (numV l) else none
theorem inV_strs (x : Str) (l : List Str) : inV (.str x) (l.map V.str) = decide (x ∈ l) := by
  unfold inV
  induction l with
  | nil => rfl
  | cons a r ih =>
    rw [List.map_cons, List.any_cons, ih]
    have e : eqV (.str a) (.str x) = (a == x) := rfl
    rw [e]
    by_cases h : a = x
    · rw [h, beq_self_eq_true, Bool.true_or]
      exact (decide_eq_true List.mem_cons_self).symm
    · rw [beq_false_of_ne h, Bool.false_or]
      refine decide_eq_decide.mpr ⟨fun z => List.mem_cons_of_mem _ z, fun z => ?_⟩
      rcases List.mem_cons.mp z with e | e
      · exact absurd e.symm h
      · exact e
theorem inV_int1 (k : Int) (cs : List Int) : inV (.int k) (cs.map V.int) = decide (k ∈ cs) := by
  unfold inV
  induction cs with
  | nil => rfl
  | cons a r ih =>
    rw [List.map_cons, List.any_cons, ih]
    have e : eqV (.int a) (.int k) = decide (a = k) := rfl
    rw [e]
    by_cases h : a = k
    · rw [decide_eq_true h, h, Bool.true_or]
      exact (decide_eq_true List.mem_cons_self).symm
    · rw [decide_eq_false h, Bool.false_or]
      refine decide_eq_decide.mpr ⟨fun z => List.mem_cons_of_mem _ z, fun z => ?_⟩
      rcases List.mem_cons.mp z with e | e
      · exact absurd e.symm h
      · exact e
theorem fl_int1 (cs : List Int) : (cs.map D.int).map D.fl = (cs.map V.int).map some := by
  rw [List.map_map, List.map_map] <;> rfl
theorem fl_strs (cs : List Str) : (cs.map D.str).map D.fl = (cs.map V.str).map some := by
  rw [List.map_map, List.map_map] <;> rfl
theorem fl_ois (cs : List (Option Int)) : (cs.map D.oi).map D.fl = (cs.map vOi).map some := by
  rw [List.map_map, List.map_map]
  exact List.map_congr_left fun o _ => fl_oi o
theorem inV_non (l : List (Option Int)) : inV .non (l.map vOi) = l.any Option.isNone := by
  unfold inV
  rw [List.any_map]
  congr 1
  funext x
  cases x <;> rfl
theorem mid_cut {l : List D} {m n : Nat} (h : m ≤ n) (hn : n ≤ l.length) : cutD l (some (m : Int)) (some (n : Int)) = (l.drop m).take (n - m) := by
  unfold cutD
  rw [show (HT.sIx l.length 0 (some ((m : Nat) : Int))) = min m l.length from HT.sIx_nat _ _ m, show (HT.sIx l.length l.length (some ((n : Nat) : Int))) = min n l.length from HT.sIx_nat _ _ n, Nat.min_eq_left hn, Nat.min_eq_left (by omega)]
theorem slice_mid {a : List Nat} {i j : Nat} (h : i ≤ j) (hi : i ≤ a.length) : Txt.slice (SX.S a) (some (i : Int)) (some (j : Int)) = SX.S ((a.drop i).take (j - i)) := by
  have hl : ((SX.S a).length : Int) = (a.length : Int) := by rw [SX.S_len]
  by_cases hj : j ≤ a.length
  · have e := beq_iff_eq.mp (PyProof.Rows.slice_closesL (x := SX.S a) (i := (i : Int)) (j := (j : Int)) (by omega) (by omega) (by omega))
    refine e.trans (TL.ext_tl ?_)
    show (a.drop (i : Int).toNat).take ((j : Int) - (i : Int)).toNat = (a.drop i).take (j - i)
    rw [Int.toNat_natCast, show ((j : Int) - (i : Int)).toNat = j - i by omega]
  · have e2 : Txt.slice (SX.S a) (some (i : Int)) (some (j : Int)) = Txt.slice (SX.S a) (some (i : Int)) (some (a.length : Int)) := by
      unfold Txt.slice
      rw [SX.S_len, SX.idx_hi (by omega)]
    have e := beq_iff_eq.mp (PyProof.Rows.slice_closesL (x := SX.S a) (i := (i : Int)) (j := (a.length : Int)) (by omega) (by omega) (by omega))
    refine (e2.trans e).trans (TL.ext_tl ?_)
    show (a.drop (i : Int).toNat).take ((a.length : Int) - (i : Int)).toNat = (a.drop i).take (j - i)
    rw [Int.toNat_natCast, List.take_of_length_le (by rw [List.length_drop]; omega), List.take_of_length_le (by rw [List.length_drop]; omega)]
def erI : Er → Int
  | .bad => 1
  | .noc => 2
  | .noh => 3
  | .tw => 4
def dueD : Rd → D
  | .inl e => .tup [.int (erI e), .non]
  | .inr (c, row) => .tup [.int 0, intsD (c :: row)]
section
variable {P : Program} {w : World} {g : Gb} {mg : Str → Option Value} {base : Heap} {f : Addr} {fd : FuncData}
def RNumL : List D → Sl → Prop := fun ds r => ∃ l : List Nat, l.length ≤ 50000 ∧ ds = [.str (SX.S l)] ∧ r = .v (.oi (numO l))
theorem c_numL (F : FnP g.K "_law_number" "_law_number" s__law_number f fd) (hm : mg "_law_number" = some (.ref f)) (fr : Free mg) : Cal P w g mg base "_law_number" 1 RNumL := by
  refine cal_by (N := ["text", "sign"]) (ps := ["text"]) F ⟨rfl, rfl, rfl, by decide +kernel, rfl, by decide +kernel, by decide +kernel⟩ hm (fun _ _ _ _ _ _ us hl => match us, hl with | [_], _ => rfl) ?_ ?_
  · rintro ds r ⟨l, _, rfl, _⟩
    rfl
  · rintro ds r cdv A outer s0 H E ⟨l, lmax, rfl, rfl⟩ hr
    have hlen : (SX.S l).length = l.length := SX.S_len l
    have nope : ∀ {q : Prop}, ¬ q → (numOk l = true → q) → numO l = none := fun n h => if_neg fun z => n (h z)
    have hn : ∀ z : numO l = none, (Sl.v .non) = .v (.oi (numO l)) := fun z => by rw [z] <;> rfl
    have e1 : decide (SX.S l = Str.ofString "") = decide (l = []) := by
      rw [lit_no]
      exact decide_eq_decide.mpr S_eq
    obtain ⟨c, hc⟩ : ∃ c, l = [] ∨ l.head? = some c := by
      cases l with
      | nil => exact ⟨0, .inl rfl⟩
      | cons x l => exact ⟨x, .inr rfl⟩
    refine ss_cons (s_if (b := decide (l = []) || (decide (6 < (l.length : Int)) || (decide (1 < (l.length : Int)) && decide (c = 48)))) (EvT.is (et_or3 (et_cmp (ev_var 0) ev_str cmp_eqS) (fun _ => et_cmp (ev_len (n := l.length) rfl fr (ev_var 0) (show (D.str (SX.S l)).len = some l.length from congrArg some hlen) (by show (SX.S l).length ≤ 100000; omega)) ev_int cmp_gt)
      (fun h0 _ => et_and (et_cmp (ev_len (n := l.length) rfl fr (ev_var 0) (show (D.str (SX.S l)).len = some l.length from congrArg some hlen) (by show (SX.S l).length ≤ 100000; omega)) ev_int cmp_gt) (fun _ => et_cmp (ev_ix (hx := by show (SX.S l).length ≤ 100000; omega) rfl (ev_var 0) ev_int (at_S (hc.resolve_left fun z => by rw [e1] at h0; exact absurd z (of_decide_eq_false h0)))) ev_str cmp_eqS))) ?_) (fun hb => ss_one (s_ret ev_non (hn ?_))) (fun hb => ss_nil ?_))
    · rw [e1]
      congr 1
      congr 1
      congr 1
      rw [lit_0]
      exact decide_eq_decide.mpr ⟨fun z => (List.cons.inj (SX.S_inj (a := [c]) (b := [48]) z)).1, fun z => by rw [z]⟩
    · rw [Bool.or_eq_true, Bool.or_eq_true, Bool.and_eq_true, decide_eq_true_eq, decide_eq_true_eq, decide_eq_true_eq, decide_eq_true_eq] at hb
      rcases hb with hb | hb | ⟨hb, hb2⟩
      · exact nope (fun z => z hb) fun z => (numOk_iff.mp z).1
      · exact nope (q := l.length ≤ 6) (by omega) fun z => (numOk_iff.mp z).2.1
      · refine nope (q := l = [48]) (fun z => ?_) fun z => (numOk_iff.mp z).2.2.2 ?_
        · rw [z] at hb
          exact absurd hb (by decide)
        · rcases hc with hc | hc
          · rw [hc] at hb
            exact absurd hb (by decide)
          · rw [hc, hb2]
    rw [Bool.or_eq_false_iff, Bool.or_eq_false_iff, Bool.and_eq_false_iff, decide_eq_false_iff_not, decide_eq_false_iff_not, decide_eq_false_iff_not, decide_eq_false_iff_not] at hb
    obtain ⟨o1, o2, o3⟩ := hb
    have hc := hc.resolve_left o1
    refine ss_cons (s_for 1 (items := l.map fun c => D.str ⟨#[c]⟩) (ei_str (z := SX.S l) (ev_var 0)) (fun i G => (∃ z : Sl, G = [.v (.str (SX.S l)), z]) ∧ ∀ c ∈ l.take i, 48 ≤ c ∧ c ≤ 57) ⟨⟨_, rfl⟩, fun c hc => by rw [List.take_zero] at hc; cases hc⟩ (fun i d G hd hI => ?_) (fun G hI => ?_))
    · obtain ⟨⟨z, rfl⟩, hI⟩ := hI
      rw [List.getElem?_map] at hd
      obtain ⟨k, hk, rfl⟩ := Option.map_eq_some_iff.mp hd
      refine ss_one (s_if (b := !decide (48 ≤ k ∧ k ≤ 57)) (EvT.is (et_cmp (ev_var 1) ev_str cmp_notin1) (by rw [decide_eq_decide.mpr figs])) (fun hb => ?_) (fun hb => ss_nil ⟨⟨_, rfl⟩, fun c hc => ?_⟩))
      · have hb2 : ¬ (48 ≤ k ∧ k ≤ 57) := of_decide_eq_false (by rw [Bool.not_eq_true'] at hb; exact hb)
        exact ss_one (s_ret ev_non (hn (nope hb2 fun z => (numOk_iff.mp z).2.2.1 k (List.mem_of_getElem? hk))))
      · rw [Bool.not_eq_false'] at hb
        rw [take_snoc hk] at hc
        rcases List.mem_append.mp hc with hc | hc
        · exact hI c hc
        · rw [List.mem_singleton.mp hc]
          exact of_decide_eq_true hb
    obtain ⟨⟨z, rfl⟩, dig⟩ := hI
    rw [List.length_map, List.take_length] at dig
    have ok : numOk l = true := numOk_iff.mpr ⟨o1, by omega, dig, fun z => by
      rw [hc] at z
      have e48 : c = 48 := Option.some.inj z
      rcases o3 with o3 | o3
      · cases l with
        | nil => exact absurd rfl o1
        | cons x r =>
          cases r with
          | nil =>
            have : x = c := Option.some.inj hc
            rw [this, e48]
          | cons y r =>
            rw [List.length_cons, List.length_cons] at o3
            exact absurd (show (1 : Int) < ((r.length + 1 + 1 : Nat) : Int) by omega) o3
      · exact absurd e48 o3⟩
    have hi : intText? (SX.S l) = some (numV l) := intText_digits (x := SX.S l) dig o1 (by omega)
    have e9 : numO l = some (numV l) := if_pos ok
    rw [e9]
    exact ss_one (s_ret (ev_int_str fr (ev_var 0) hi (by omega)) rfl)
def RDue : List D → Sl → Prop := fun ds r => ∃ L : List Nat, L.length ≤ 1000 ∧ ds = [.str (SX.S L)] ∧ r = .v (dueD (readO L))
theorem c_due (F : FnP g.K "_law_due" "_law_due" s__law_due f fd) (hm : mg "_law_due" = some (.ref f)) (fr : Free mg) (CN : Cal P w g mg base "_law_number" 1 RNumL) : Cal P w g mg base "_law_due" 2 RDue := by
  refine cal_by (N := ["line", "at", "texts", "numbers", "k", "text"]) (ps := ["line"]) F ⟨rfl, rfl, rfl, by decide +kernel, rfl, by decide +kernel, by decide +kernel⟩ hm (fun _ _ _ _ _ _ us hl => match us, hl with | [_], _ => rfl) ?_ ?_
  · rintro ds r ⟨l, _, rfl, _⟩
    rfl
  · rintro ds r cdv A outer s0 H E ⟨L, lmax, rfl, rfl⟩ hr
    have hlen : (SX.S L).length = L.length := SX.S_len L
    have one : ∀ e, readO L = .inl e → (Sl.v (.tup [.int (erI e), .non])) = .v (dueD (readO L)) := fun e z => by rw [z] <;> rfl
    have xl : (D.str (SX.S L)).len = some L.length := congrArg some hlen
    have xi : (D.str (SX.S L)).ixOk := by show (SX.S L).length ≤ 100000; omega
    -- the numbers of the texts A, T
    have key : ∀ (A0 : List Nat) (T : List (List Nat)), A0.length ≤ 1000 → (∀ t ∈ T, t.length ≤ 1000) → T.length ≤ 1001 → readO L = numsO A0 T → Txt.slice (SX.S L) none (some (A0.length : Int)) = SX.S A0 →
        Ss g (cxOf CX0 P w g.K mg base ["line", "at", "texts", "numbers", "k", "text"] "_law_due" (defScope s__law_due) f cdv A outer s0 H E).nox [.v (.str (SX.S L)), .v (.int (A0.length : Nat)), .v (.lst (T.map fun t => D.str (SX.S t))), .un, .un, .un] ((defBody s__law_due).drop 4) (kRet (.v (dueD (readO L)))) := by
      intro A0 T hA hT hT2 er esl
      have hall : ∀ t ∈ A0 :: T, t.length ≤ 1000 := fun t ht => by
        rcases List.mem_cons.mp ht with rfl | ht
        · exact hA
        · exact hT t ht
      have ecat : [D.str (SX.S A0)] ++ (T.map fun t => D.str (SX.S t)) = (A0 :: T).map fun t => D.str (SX.S t) := rfl
      refine ss_cons (s_lc 3 5 (enc := fun t => D.str (SX.S t)) (l := A0 :: T) (fun t => .oi (numO t)) (ei_list rfl (Ev.is (Ev.fz (ev_bin (Ev.fz (ev_lst (ea_cons (Ev.is (ev_slS (ev_var 0) (by omega) eo_none (eo_some (ev_var 1))) (congrArg (fun z => Sl.v (.str z)) esl)) ea_nil) (by show (1 : Nat) ≤ 100000; decide))) (ev_var 2) (bin_cat (by rw [List.length_map]; show 1 + T.length ≤ _; omega)))) (congrArg (fun z => Sl.v (.lst z)) ecat))) (by rw [List.length_cons]; omega)
        (fun t ht s1 H1 C cl fp => ev_call rfl CN hr (ea_cons (ev_var 5) ea_nil) ⟨t, by have := hall t ht; omega, rfl, rfl⟩) (ss_frz 3 rfl ?_))
      have ems : ((A0 :: T).map fun t => D.oi (numO t)) = ((A0 :: T).map numO).map D.oi := by rw [List.map_map] <;> rfl
      rw [ems]
      have en : inV .non (((A0 :: T).map numO).map vOi) = !(A0 :: T).all numOk := by
        rw [inV_non, List.any_map]
        have : ∀ l : List (List Nat), l.any (Option.isNone ∘ numO) = !l.all numOk := fun l => by
          induction l with
          | nil => rfl
          | cons a r ih =>
            rw [List.any_cons, List.all_cons, ih]
            have e : (Option.isNone ∘ numO) a = !numOk a := by
              show (numO a).isNone = _
              unfold numO
              cases numOk a <;> rfl
            rw [e]
            cases numOk a <;> rfl
        exact this _
      refine ss_cons (s_if (b := !(A0 :: T).all numOk) (EvT.is (et_cmp ev_non (ev_var 3) (cmp_in rfl (w := .non) (ws := ((A0 :: T).map numO).map vOi) rfl (fl_ois _))) en) (fun hb => ?_) (fun hb => ss_nil ?_))
      · refine ss_one (s_ret (ev_tup (ea_cons ev_int (ea_cons ev_non ea_nil)) (by show (2 : Nat) ≤ 100000; decide)) (one .bad ?_))
        rw [Bool.not_eq_true'] at hb
        rw [er]
        unfold numsO
        rw [if_pos hb]
      rw [Bool.not_eq_false'] at hb
      have hok := List.all_eq_true.mp hb
      have ens : ((A0 :: T).map numO).map D.oi = ((A0 :: T).map numV).map D.int := by
        rw [List.map_map, List.map_map]
        refine List.map_congr_left fun t ht => ?_
        show D.oi (numO t) = .int (numV t)
        unfold numO
        rw [if_pos (hok t ht)] <;> rfl
      rw [ens]
      obtain ⟨c, hc⟩ : ∃ c, c = numV A0 := ⟨_, rfl⟩
      obtain ⟨row, hrow⟩ : ∃ row, row = T.map numV := ⟨_, rfl⟩
      have ecr : (A0 :: T).map numV = c :: row := by rw [List.map_cons, hc, hrow]
      rw [ecr]
      have er2 : readO L = (if 23 < c then .inl .noc else if row.any (fun x => decide (7 < x)) = true then .inl .noh else if ¬ row.Nodup then .inl .tw else .inr (c, row)) := by
        rw [er, hc, hrow]
        unfold numsO
        rw [if_neg (by rw [hb]; decide)]
      have lrow : row.length ≤ 1001 := by rw [hrow, List.length_map]; exact hT2
      refine ss_cons (s_if (b := decide (23 < c)) (et_cmp (ev_ix rfl (ev_var 3) ev_int at0) ev_int cmp_gt) (fun hb2 => ss_one (s_ret (ev_tup (ea_cons ev_int (ea_cons ev_non ea_nil)) (by show (2 : Nat) ≤ 100000; decide)) (one .noc (by rw [er2, if_pos (of_decide_eq_true hb2)])))) (fun hb2 => ss_nil ?_))
      rw [if_neg (of_decide_eq_false hb2)] at er2
      obtain ⟨m, hm1⟩ : ∃ m, IsMx row m := by
        cases row with
        | nil => exact ⟨0, .inl ⟨rfl, rfl⟩⟩
        | cons x r => exact ⟨_, .inr (maxOf_int r x)⟩
      have hm2 : ∀ n, IsMx row n → n = m := fun n hn => by
        rcases hn with ⟨e1, e2⟩ | ⟨h1, h2⟩
        · rcases hm1 with ⟨e3, e4⟩ | ⟨h3, h4⟩
          · rw [e2, e4]
          · rw [e1] at h3
            cases h3
        · rcases hm1 with ⟨e3, e4⟩ | ⟨h3, h4⟩
          · rw [e3] at h1
            cases h1
          · have := h2 m h3
            have := h4 n h1
            omega
      have hm3 : decide (7 < m) = row.any (fun x => decide (7 < x)) := by
        rcases hm1 with ⟨e3, e4⟩ | ⟨h3, h4⟩
        · rw [e3, e4] <;> rfl
        · by_cases h7 : 7 < m
          · rw [decide_eq_true h7]
            exact (List.any_eq_true.mpr ⟨m, h3, decide_eq_true h7⟩).symm
          · rw [decide_eq_false h7]
            refine (List.any_eq_false.mpr fun x hx => ?_).symm
            have := h4 x hx
            rw [decide_eq_true_eq]
            omega
      have ecut : cutD ((c :: row).map D.int) (some 1) none = row.map D.int := cutD_1
      refine ss_cons (s_if (b := row.any fun x => decide (7 < x)) (EvT.is (et_cmp (ev_maxD0 (l := row) (m := m) rfl rfl hr.units fr (Ev.is (Ev.fz (ev_sl rfl (ev_var 3) (eo_some ev_int) eo_none)) (congrArg (fun z => Sl.v (.lst z)) ecut)) hm2) ev_int cmp_gt) hm3) (fun hb3 => ss_one (s_ret (ev_tup (ea_cons ev_int (ea_cons ev_non ea_nil)) (by show (2 : Nat) ≤ 100000; decide)) (one .noh (by rw [er2, if_pos hb3])))) (fun hb3 => ss_nil ?_))
      rw [if_neg (by rw [hb3]; decide)] at er2
      have hln : (D.lst ((c :: row).map D.int)).len = some (row.length + 1) := by
        show some ((c :: row).map D.int).length = _
        rw [List.length_map, List.length_cons]
      have hcnt : ((rg 2 ((row.length + 1 : Nat) : Int)).map D.int).length = row.length - 1 := by
        rw [List.length_map, rg_len]
        omega
      refine ss_cons (s_for 4 (items := (rg 2 ((row.length + 1 : Nat) : Int)).map D.int) (ei_range2 fr ev_int (ev_len rfl fr (ev_var 3) hln) (by omega) (by omega)) (fun i G => (∃ z : Sl, G = [.v (.str (SX.S L)), .v (.int (A0.length : Nat)), .v (.lst (T.map fun t => D.str (SX.S t))), .v (.lst ((c :: row).map D.int)), z, .un]) ∧ (row.take (i + 1)).Nodup) ⟨⟨_, rfl⟩, ?_⟩ (fun i d G hd hI => ?_) (fun G hI => ?_))
      · cases row with
        | nil => exact List.nodup_nil
        | cons x r => exact List.nodup_cons.mpr ⟨by simp, List.nodup_nil⟩
      · obtain ⟨⟨z, rfl⟩, hI⟩ := hI
        have hi : i < row.length - 1 := by
          rw [← hcnt]
          exact (List.getElem?_eq_some_iff.mp hd).1
        have hd2 : d = .int ((2 + i : Nat) : Int) := by
          rw [List.getElem?_map, rg_at (by omega)] at hd
          rw [← Option.some.inj hd]
          congr 1
        subst hd2
        obtain ⟨x, hx⟩ : ∃ x, row[i + 1]? = some x := ⟨row[i + 1]'(by omega), List.getElem?_eq_getElem (by omega)⟩
        have hat : (D.lst ((c :: row).map D.int)).at_ ((2 + i : Nat) : Int) = some (.int x) := by
          refine at_nat (by omega) ?_
          rw [Int.toNat_natCast, List.getElem?_map, show 2 + i = (i + 1) + 1 by omega, List.getElem?_cons_succ, hx] <;> rfl
        have hmid : cutD ((c :: row).map D.int) (some 1) (some ((2 + i : Nat) : Int)) = (row.take (i + 1)).map D.int := by
          have e := mid_cut (l := (c :: row).map D.int) (m := 1) (n := 2 + i) (by omega) (by rw [List.length_map, List.length_cons]; omega)
          rw [show ((1 : Nat) : Int) = 1 from rfl] at e
          rw [e, List.map_take]
          show List.take (2 + i - 1) (row.map D.int) = _
          rw [show 2 + i - 1 = i + 1 by omega]
        refine ss_one (s_if (b := decide (x ∈ row.take (i + 1))) (EvT.is (et_cmp (ev_ix rfl (ev_var 3) (ev_var 4) hat) (Ev.is (Ev.fz (ev_sl rfl (ev_var 3) (eo_some ev_int) (eo_some (ev_var 4)))) (congrArg (fun z => Sl.v (.lst z)) hmid)) (cmp_in rfl (w := .int x) (ws := (row.take (i + 1)).map V.int) rfl (fl_int1 _))) (inV_int1 _ _)) (fun hb4 => ?_) (fun hb4 => ss_nil ⟨⟨_, rfl⟩, ?_⟩))
        · refine ss_one (s_ret (ev_tup (ea_cons ev_int (ea_cons ev_non ea_nil)) (by show (2 : Nat) ≤ 100000; decide)) (one .tw ?_))
          rw [er2, if_pos fun nd => ?_]
          have hmem := of_decide_eq_true hb4
          have h2 : (row.take (i + 1 + 1)).Nodup := nd.sublist (List.take_sublist _ _)
          rw [take_snoc hx] at h2
          exact (List.nodup_append.mp h2).2.2 x hmem x (List.mem_singleton.mpr rfl) rfl
        · rw [take_snoc hx]
          have hmem := of_decide_eq_false hb4
          refine List.nodup_append.mpr ⟨hI, List.nodup_cons.mpr ⟨by simp, List.nodup_nil⟩, fun a ha b hb e => ?_⟩
          rw [List.mem_singleton.mp hb] at e
          rw [e] at ha
          exact hmem ha
      obtain ⟨⟨z, rfl⟩, hI⟩ := hI
      rw [hcnt, List.take_of_length_le (by omega)] at hI
      rw [if_neg (fun z => z hI)] at er2
      refine ss_one (s_ret (ev_tup (ea_cons ev_int (ea_cons (ev_var 3) ea_nil)) (by show (2 : Nat) ≤ 100000; decide)) ?_)
      rw [er2] <;> rfl
    have finds : ∀ a : Int, Txt.find (SX.S L) (Str.ofString ":") = a → _ := fun a z => congrArg (fun z => Sl.v (.int z)) z
    by_cases h58 : 58 ∈ L
    · obtain ⟨A0, R, eL, hA⟩ := List.eq_append_cons_of_mem h58
      have ef : Txt.find (SX.S L) (Str.ofString ":") = (A0.length : Int) := by rw [lit_col, eL, find_at hA]
      have lA : L.length = A0.length + (R.length + 1) := by rw [eL, List.length_append, List.length_cons]
      have eAft : readO L = afterO A0 R := by rw [eL, read_after hA]
      have esl : Txt.slice (SX.S L) none (some (A0.length : Int)) = SX.S A0 := by
        rw [SX.slice_to (by omega), Int.toNat_natCast, eL, List.take_left]
      have ed1 : L.drop (A0.length + 1) = R := by
        rw [eL, ← List.drop_drop, List.drop_left] <;> rfl
      have em : Txt.slice (SX.S L) (some ((A0.length : Int) + 1)) (some ((A0.length : Int) + 2)) = SX.S (R.take 1) := by
        have e := slice_mid (a := L) (i := A0.length + 1) (j := A0.length + 2) (by omega) (by omega)
        rw [show ((A0.length + 1 : Nat) : Int) = (A0.length : Int) + 1 by omega, show ((A0.length + 2 : Nat) : Int) = (A0.length : Int) + 2 by omega] at e
        rw [e, ed1, show A0.length + 2 - (A0.length + 1) = 1 by omega]
      refine ss_cons (s_asg 1 (Ev.is (ev_find (ev_var 0) ev_str) (congrArg (fun z => Sl.v (.int z)) ef)) ?_)
      have eml : [D.str (Str.ofString ""), D.str (Str.ofString " ")] = [SX.S [], SX.S [32]].map D.str := by rw [lit_no, lit_sp] <;> rfl
      refine ss_cons (s_if (b := !decide (R = [] ∨ R.head? = some 32)) (EvT.is (et_or (et_cmp (ev_var 1) ev_int cmp_lt) (fun _ => et_cmp (Ev.is (ev_slS (ev_var 0) (by omega) (eo_some (ev_bin (ev_var 1) ev_int bin_add)) (eo_some (ev_bin (ev_var 1) ev_int bin_add))) (congrArg (fun z => Sl.v (.str z)) em)) (Ev.is (Ev.fz (ev_lst (ea_cons ev_str (ea_cons ev_str ea_nil)) (by show (2 : Nat) ≤ 100000; decide))) (congrArg (fun z => Sl.v (.lst z)) eml)) (cmp_notin rfl (w := .str (SX.S (R.take 1))) (ws := [SX.S [], SX.S [32]].map V.str) rfl (fl_strs _)))) ?_) (fun hb => ?_) (fun hb => ss_nil ?_))
      · rw [decide_eq_false (by omega), Bool.false_or, inV_strs]
        congr 1
        refine decide_eq_decide.mpr ?_
        cases R with
        | nil => simp
        | cons x r =>
          rw [List.mem_cons, List.mem_cons, S_eq, S_eq]
          simp
      · refine ss_one (s_ret (ev_tup (ea_cons ev_int (ea_cons ev_non ea_nil)) (by show (2 : Nat) ≤ 100000; decide)) (one .bad ?_))
        rw [Bool.not_eq_true'] at hb
        have hb := of_decide_eq_false hb
        rw [eAft]
        cases R with
        | nil => exact absurd (.inl rfl) hb
        | cons x r => exact if_neg fun z => hb (.inr (by rw [z] <;> rfl))
      rw [Bool.not_eq_false'] at hb
      have hb := of_decide_eq_true hb
      refine ss_cons (s_asg 2 (Ev.fz (ev_lst ea_nil (by show (0 : Nat) ≤ 100000; decide))) ?_)
      have hlR : (D.str (SX.S L)).len = some L.length := xl
      refine ss_cons (s_if (b := decide (R ≠ [])) (EvT.is (et_cmp (ev_bin (ev_var 1) ev_int bin_add) (ev_len rfl fr (ev_var 0) xl xi) cmp_lt) ?_) (fun hb2 => ?_) (fun hb2 => ss_nil ?_))
      · refine decide_eq_decide.mpr ⟨fun z e => ?_, fun z => ?_⟩
        · rw [e] at lA
          rw [List.length_nil] at lA
          omega
        · have : 0 < R.length := List.length_pos_iff.mpr z
          omega
      · have hb2 := of_decide_eq_true hb2
        have h32 : R.head? = some 32 := hb.resolve_left hb2
        obtain ⟨R', rfl⟩ : ∃ R', R = 32 :: R' := by
          cases R with
          | nil => exact absurd rfl hb2
          | cons x r =>
            have : x = 32 := Option.some.inj h32
            exact ⟨r, by rw [this]⟩
        have lR : R'.length ≤ 1000 := by
          rw [List.length_cons] at lA
          omega
        have es2 : Txt.slice (SX.S L) (some ((A0.length : Int) + 2)) none = SX.S R' := by
          rw [SX.slice_from (by omega), show ((A0.length : Int) + 2).toNat = (A0.length + 1) + 1 by omega, ← List.drop_drop, ed1] <;> rfl
        have hy : ((Str.ofString " ").length == 0) = false := by
          rw [lit_sp, SX.S_len] <;> rfl
        have esp : ((Txt.split (SX.S R') (Str.ofString " ")).map D.str) = (partsOf R').map fun t => D.str (SX.S t) := by
          rw [lit_sp, split_parts, List.map_map] <;> rfl
        refine ss_one (s_asg 2 (Ev.fz (Ev.is (ev_split (Ev.is (ev_slS (ev_var 0) (by omega) (eo_some (ev_bin (ev_var 1) ev_int bin_add)) eo_none) (congrArg (fun z => Sl.v (.str z)) es2)) ev_str hy (by rw [SX.S_len]; omega)) (congrArg Sl.m esp))) ?_)
        have p1 := parts_len R'
        have p2 := parts_num R'
        exact key A0 (partsOf R') (by omega) (fun t ht => Nat.le_trans (p1 t ht) lR) (by omega) (by rw [eAft]; show (if (32 : Nat) = 32 then numsO A0 (partsOf R') else .inl .bad) = _; exact if_pos rfl) esl
      · have hb2 : R = [] := by
          by_cases z : R = []
          · exact z
          · exact absurd z (of_decide_eq_false hb2)
        subst hb2
        exact key A0 [] (by omega) (fun t ht => by cases ht) (by simp) eAft esl
    · have ef : Txt.find (SX.S L) (Str.ofString ":") = -1 := by rw [lit_col, find_none h58]
      refine ss_cons (s_asg 1 (Ev.is (ev_find (ev_var 0) ev_str) (congrArg (fun z => Sl.v (.int z)) ef)) ?_)
      refine ss_cons (s_if (b := true) ?_ (fun _ => ss_one (s_ret (ev_tup (ea_cons ev_int (ea_cons ev_non ea_nil)) (by show (2 : Nat) ≤ 100000; decide)) (one .bad (read_none h58)))) (fun hb => by cases hb))
      exact EvT.is (et_or (r' := false) (et_cmp (ev_var 1) ev_int cmp_lt) (fun h => absurd h (by decide))) (by decide)
end
end CH

/-! Choosehall: try: x = fn(..) except C as e: ..; isinstance of the caught. -/
namespace CH
open PySem L2
theorem of_adr {g : Gb} {F : Hp} {a : Addr} {v : V} (h : Rep g F (.adr a) v) : v = .ref a := by
  cases h
  rfl
section
variable {g : Gb} {X : Cx} {G : List Sl} {e : Expr} {es : List Expr} {suite : List Stmt} {b₀ : Stmt} {pos p p1 p2 p3 np pos' pos1 py : Pos} {x y fn cn en : Str} {k : KE} {n : Nat} {R : List D → Oc → Prop}
theorem s_tryX (i ie : Nat) {ds : List D} {oc : Oc} {cc : Value} (hK : X.K = g.K) (C : CalX X.prog X.w g X.mg X.base fn n R) (hr : Room n X.A) (hcc : Names X cn cc) (ha : ∀ (pn : List (Addr × Obj)) (xe : Value → Shared → Prop), EvA g (X.tr pn xe) G (e :: es) ds) (hR : R ds oc)
    (hl : ∀ r, oc = .inl r → r ≠ .un ∧ k.nx (G.set i r))
    (hE : ∀ c, oc = .inr c → PySem.W.exmOne g.K c cc = some true ∧ ∀ (a : Addr) (oe : Obj) (pn : List (Addr × Obj)), Zc c none oe → (∃ vs, oe.data = .fields vs) →
      Ss g (X.suite a ((a, oe) :: pn)) (G.set ie (.v (.adr a))) (b₀ :: suite) { nx := fun G' => k.nx (G'.set ie .un), rt := k.rt, bk := fun G' => k.bk (G'.set ie .un), ct := fun G' => k.ct (G'.set ie .un) })
    (hst : X.stack = X.env :: X.outer := by rfl) (hfr : X.env.frame = some X.env.locals := by rfl) (hN : X.N.Nodup := by exact nd_by (by kernel_rfl)) (hi : X.N[i]? = some x := by rfl) (hie : X.N[ie]? = some en := by rfl) (hln : X.env.kindOf en = some .local := by rfl) (hx : Loc X.env.scope x := by first | exact Or.inl rfl | exact Or.inr rfl)
    (hs : swapsWith (.Call (.Name fn p2) (e :: es) [] p3) (some (.Name x p)) pos1.line X.env = pure false := by rfl) (hf : X.fn x = true ∨ X.env.scope.names.lookup x = some .local := by first | exact .inl rfl | exact .inr rfl) (hg : Gl X fn := by rfl) (hdb : (fn == ("__debug__" : Str)) = false := by decide)
    (he : starEach (e :: es) X.env = (false, eval e X.env) :: starEach es X.env := by rfl) (hpl : (backTo p3 (starEach es X.env)).any (·.1) = false := by rfl) :
    S1 g X G (.Try [.Assign [.Name x p] (.Call (.Name fn p2) (e :: es) [] p3) pos1] [.ExceptHandler (some (.Name cn np)) (some en) (b₀ :: suite) pos'] [] [] pos) k := fun B F H σ ow ok bk F1 s1 => by
  obtain ⟨f, fd, ps, F0, hm, hkp, hb⟩ := C
  refine ws_of (ps_try_as (Wout := fun _ _ _ _ => False) (tb := fun W => fun D σ H => ∀ (pn : List (Addr × Obj)) (xe : Value → Shared → Prop), Takes (X.tr pn xe) W → WSs (X.tr pn xe) [.Assign [.Name x p] (.Call (.Name fn p2) (e :: es) [] p3) pos1] D σ H)
    (ts := fun a cls d => fun D σ H => ∀ (oe : Obj) (pn : List (Addr × Obj)), Zc cls d oe → (∃ vs, oe.data = .fields vs) → WSs (X.suite a ((a, oe) :: pn)) (b₀ :: suite) D σ H)
    hst hfr hN hie hln hcc (fun u s' ⟨_, _, _, _, _, _, _, _, _, _, _, _, _, _, _, _, w⟩ => w.elim) (fun W pn xe tk _ => ⟨fun pins s σ H D I h => h pn xe tk pins s I⟩) (fun a oe cls d pn hz hv => ⟨fun pins s σ H D I h => h oe pn hz hv pins s I⟩)) ?_
  intro pn xe tk
  refine wss_of (pss_one (ps_set (X := X.tr pn xe) hN hi hx (pe_callS (X := X.tr pn xe) (E := L2.WE _) (by rw [show (X.tr pn xe).K = g.K from hK]; exact F0) hr hg hm (by rw [show (X.tr pn xe).K = g.K from hK]; exact hkp) (by rw [show (X.tr pn xe).K = g.K from hK]; exact hb) (fun σ => passAt tk σ) pa_wa hdb he hpl) hs hf)) ?_
  refine ha pn xe F H σ ow ok _ fun vs F2 H2 u r1 => ?_
  refine ⟨ds, oc, F2, hR, r1, u.fit, fun r er v F3 H3 u3 r3 => ?_, fun c ec F3 H3 u3 => ?_⟩
  · obtain ⟨h1, h2⟩ := hl r er
    obtain ⟨ow', k1, b1⟩ := store (i := i) ok bk (u.trans u3) (r3.back u.ext) h1
    exact ⟨_, F3, ow', h2, k1, b1, s1.trans (u.trans u3).sub⟩
  · obtain ⟨h1, h2⟩ := hE c ec
    refine ⟨true, by rw [hK]; exact h1, fun _ a na oe pn' hz hv => ?_, fun z => by cases z⟩
    have u4 := u.trans u3
    have ok1 := (ok.up u4).set (i := ie) (a := 0) (s := .v (.adr a)) (o := some (.ref a)) ⟨_, rfl, .adr a⟩ (fun z => by cases z)
    have bk1 := (bk.go u4).set (i := ie) (a := 0) (s := .v (.adr a)) (fun z => by cases z)
    have q0 := h2 a oe pn' hz hv B F3 H3 _ _ ok1 bk1 F1 (s1.trans u4.sub)
    have fin : ∀ {K : List Sl → Prop} {σ' : L2.St} {H' : Hp}, nxP g B F1 (fun G' => K (G'.set ie .un)) σ' H' → nxP g B F1 K (σ'.set ie none) H' := fun {K σ' H'} ⟨G', F', ow', hk, ok', bk', s'⟩ =>
      ⟨G'.set ie .un, F', _, hk, ok'.set (i := ie) (a := 0) (s := .un) (o := none) True.intro (fun z => by cases z), bk'.set (i := ie) (a := 0) (s := .un) (fun z => by cases z), s'⟩
    exact WSs.imp q0 (fun σ' H' q => fin q) (fun _ _ q => q) (fun σ' H' q => fin q) (fun σ' H' q => fin q)
/-- isinstance(e, C), e the caught one, C an own class -/
theorem ev_isE {a Da C : Addr} {oe : Obj} {pn : List (Addr × Obj)} {b : Bool} (fr : Free X.mg) (EC : ExcC X.K Da) (hz : Zc (.ref Da) none oe) (hf : ∃ vs, oe.data = .fields vs)
    (h : EvD g (X.suite a ((a, oe) :: pn)) G e (.adr a)) (hc : EvD g (X.suite a ((a, oe) :: pn)) G (.Name y py) (.adr C)) (hk : PySem.W.kitOne X.K (.ref Da) (.ref C) = some b) (hg : Gl X "isinstance" := by rfl)
    (he : starEach [e, .Name y py] X.env = (false, eval e X.env) :: starEach [.Name y py] X.env := by rfl) (he2 : starEach [.Name y py] X.env = (false, eval (.Name y py) X.env) :: starEach [] X.env := by rfl) (hpl : (backTo pos (starEach [.Name y py] X.env)).any (·.1) = false := by rfl) :
    EvD g (X.suite a ((a, oe) :: pn)) G (.Call (.Name "isinstance" p) [e, .Name y py] [] pos) (.bl b) := by
  intro F H σ ow k Q q
  refine we_of (pe_callB (X := X.suite a ((a, oe) :: pn)) (call_isE EC hz hf) hg fr.isinstance (by decide +kernel) (pa_cons pe_we (pa_cons pe_we pa_nil he2) he) (he := he) (hpl := hpl)) ?_
  refine h F H σ ow k _ fun v F1 H1 u r1 => ?_
  refine hc F1 H1 σ ow (k.up u) _ fun v2 F2 H2 u2 r2 => ?_
  rw [of_adr r1, of_adr r2]
  exact ⟨.ref C, .ref C, b, rfl, fun u z => by cases z; rfl, hk, q _ F2 H2 (u.trans u2) (rep_bl b)⟩
/-- .. C a built-in one -/
theorem ev_isT {a Da : Addr} {oe : Obj} {pn : List (Addr × Obj)} {b : Bool} {T : String} (fr : Free X.mg) (EC : ExcC X.K Da) (hz : Zc (.ref Da) none oe) (hf : ∃ vs, oe.data = .fields vs)
    (h : EvD g (X.suite a ((a, oe) :: pn)) G e (.adr a)) (hT : bootBuiltins y = some (.type T)) (hm : X.mg y = none) (hk : PySem.W.kitOne X.K (.ref Da) (.type T) = some b) (hgy : Gl X y := by rfl) (hg : Gl X "isinstance" := by rfl)
    (hy : y ≠ "__name__" := by decide) (hydb : (y == ("__debug__" : Str)) = false := by decide)
    (he : starEach [e, .Name y py] X.env = (false, eval e X.env) :: starEach [.Name y py] X.env := by rfl) (he2 : starEach [.Name y py] X.env = (false, eval (.Name y py) X.env) :: starEach [] X.env := by rfl) (hpl : (backTo pos (starEach [.Name y py] X.env)).any (·.1) = false := by rfl) :
    EvD g (X.suite a ((a, oe) :: pn)) G (.Call (.Name "isinstance" p) [e, .Name y py] [] pos) (.bl b) := by
  intro F H σ ow k Q q
  refine we_of (pe_callB (X := X.suite a ((a, oe) :: pn)) (call_isE EC hz hf) hg fr.isinstance (by decide +kernel) (pa_cons pe_we (pa_cons (pe_bltn (X := X.suite a ((a, oe) :: pn)) (v := .ty T) hgy hm hT rfl hy hydb) pa_nil he2) he) (he := he) (hpl := hpl)) ?_
  refine h F H σ ow k _ fun v F1 H1 u r1 => ?_
  rw [of_adr r1]
  exact ⟨.ty T, .type T, b, rfl, fun u z => by cases z; rfl, hk, q _ F1 H1 u (rep_bl b)⟩
end
end CH

/-! Choosehall: law k02's helpers: tried, drawn numbers, drawn pieces. -/
namespace CH
open PySem L2
def triedD : Rd → D
  | .inl e => .tup [.non, .lst [.bl (decide (e = .bad)), .bl (decide (e = .noc)), .bl (decide (e = .noh)), .bl (decide (e = .tw)), .bl true]]
  | .inr (c, row) => .tup [.tup [.int c, intsD row], .lst []]
def smT (cell : Int) : Str := Str.ofString (toString (cell / 6 % 10000000))
def tokL : List Str := [Str.ofString "", Str.ofString "a", Str.ofString "+1", Str.ofString "-0", Str.ofString "1a", Str.ofString "00", Str.ofString "1\n", Str.ofString "1_0", Str.ofString " 1", Str.ofString "\t1"]
def tokN (cell : Int) : List Int := [23, 24, 7, 8, 0, cell / 30 % 30]
def numBy (cell : Int) : Str :=
  if cell % 6 = 1 then Str.ofString "0" ++ smT cell
  else if cell % 6 = 2 then tokL.getD (cell / 6 % 10).toNat ⟨#[]⟩
  else if cell % 6 = 3 then Str.ofString (toString ((tokN cell).getD (cell / 6 % 6).toNat 0))
  else smT cell
def gapL : List Str := [Str.ofString "  ", Str.ofString "", Str.ofString " :"]
def gapBy (cell : Int) : Str := if cell % 9 = 4 then gapL.getD (cell / 9 % 3).toNat ⟨#[]⟩ else Str.ofString " "
def pieceBy (cell : Int) : Str := if cell / 27 % 8 = 1 then gapBy cell ++ numBy (cell / 216) else gapBy cell ++ Str.ofString (toString (cell / 216 % 9))
theorem str_small {i : Int} (h0 : 0 ≤ i) (h1 : i < 10000000) : (Str.ofString (toString i)).length ≤ 7 := PyProof.Rows.toString_length_le (k := 7) h0 (by decide) h1
theorem smT_len (cell : Int) : (smT cell).length ≤ 7 := str_small (by omega) (by omega)
theorem getD_all {α : Type} {p : α → Prop} {l : List α} (h : ∀ x ∈ l, p x) {d : α} (hd : p d) (n : Nat) : p (l.getD n d) := by
  rw [List.getD_eq_getElem?_getD]
  cases q : l[n]? with
  | none => exact hd
  | some x => exact h x (List.mem_of_getElem? q)
theorem tok_len (n : Nat) : (tokL.getD n ⟨#[]⟩).length ≤ 7 := getD_all (p := fun x : Str => x.length ≤ 7) (by decide +kernel) (by decide) n
theorem tokN_in (cell : Int) (n : Nat) : 0 ≤ (tokN cell).getD n 0 ∧ (tokN cell).getD n 0 < 10000000 := getD_all (p := fun x : Int => 0 ≤ x ∧ x < 10000000) (fun x hx => by
  unfold tokN at hx
  simp only [List.mem_cons, List.not_mem_nil, or_false] at hx
  omega) (by decide) n
theorem numBy_len (cell : Int) : (numBy cell).length ≤ 8 := by
  unfold numBy
  have h1 := smT_len cell
  split
  · rw [Str.length_append, lit_0, SX.S_len]
    show 1 + _ ≤ _
    omega
  · split
    · have := tok_len (cell / 6 % 10).toNat
      omega
    · split
      · have := str_small (tokN_in cell (cell / 6 % 6).toNat).1 (tokN_in cell (cell / 6 % 6).toNat).2
        omega
      · omega
theorem gapBy_len (cell : Int) : (gapBy cell).length ≤ 2 := by
  unfold gapBy
  split
  · exact getD_all (p := fun x : Str => x.length ≤ 2) (by decide +kernel) (by decide) _
  · rw [lit_sp, SX.S_len]
    decide
theorem pieceBy_len (cell : Int) : (pieceBy cell).length ≤ 10 := by
  unfold pieceBy
  have h1 := gapBy_len cell
  split
  · have := numBy_len (cell / 216)
    rw [Str.length_append]
    omega
  · have := str_small (i := cell / 216 % 9) (by omega) (by omega)
    rw [Str.length_append]
    omega
theorem at_map {α : Type} {enc : α → D} {l : List α} {i : Int} (d : α) (h0 : 0 ≤ i) (h1 : i < l.length) : (D.lst (l.map enc)).at_ i = some (enc (l.getD i.toNat d)) := by
  refine at_nat h0 ?_
  rw [List.getElem?_map, List.getD_eq_getElem?_getD, List.getElem?_eq_getElem (by omega)] <;> rfl
section
variable {P : Program} {w : World} {g : Gb} {mg : Str → Option Value} {base : Heap} {f : Addr} {fd : FuncData}
def RTried : List D → Sl → Prop := fun ds r => ∃ L : List Nat, L.length ≤ 1000 ∧ ds = [.str (SX.S L)] ∧ r = .v (triedD (readO L))
theorem c_tried (F : FnP g.K "_law_tried" "_law_tried" s__law_tried f fd) (hm : mg "_law_tried" = some (.ref f)) (fr : Free mg) (EF : ErF g.K mg) (CR : CalX P w g mg base "read" 2 (RRead2 g.K)) : Cal P w g mg base "_law_tried" 3 RTried := by
  refine cal_by (N := ["line", "found", "kinds", "e"]) (ps := ["line"]) F ⟨rfl, rfl, rfl, by decide +kernel, rfl, by decide +kernel, by decide +kernel⟩ hm (fun _ _ _ _ _ _ us hl => match us, hl with | [_], _ => rfl) ?_ ?_
  · rintro ds r ⟨l, _, rfl, _⟩
    rfl
  · rintro ds r cdv A outer s0 H E ⟨L, lmax, rfl, rfl⟩ hr
    refine ss_cons (s_asg 1 ev_non ?_)
    refine ss_cons (s_asg 2 (Ev.fz (ev_lst ea_nil (by show (0 : Nat) ≤ 100000; decide))) ?_)
    refine ss_cons (s_tryX 1 3 (ds := [.str (SX.S L)]) (oc := rdOc g.K (readO L)) (cc := .ref (He.ga g.K "HallError")) rfl CR hr ⟨rfl, by decide, .inl EF.glH⟩ (fun pn xe => ea_cons (ev_var 0) ea_nil) ⟨L, lmax, rfl, rfl⟩ (fun r er => ?_) (fun c ec => ?_))
    · cases q : readO L with
      | inl e =>
        rw [q] at er
        cases er
      | inr z =>
        obtain ⟨c, row⟩ := z
        rw [q] at er
        have er : Sl.v (.tup [.int c, intsD row]) = r := Sum.inl.inj er
        subst er
        refine ⟨fun z => (by cases z), ?_⟩
        exact ss_one (s_ret (ev_tup (ea_cons (ev_var 1) (ea_cons (ev_var 2) ea_nil)) (by show (2 : Nat) ≤ 100000; decide)) rfl)
    · cases q : readO L with
      | inr z =>
        obtain ⟨c, row⟩ := z
        rw [q] at ec
        cases ec
      | inl e =>
        rw [q] at ec
        have ec : erV g.K e = c := Sum.inr.inj ec
        subst ec
        refine ⟨EF.hall e, fun a oe pn hz hv => ?_⟩
        refine ss_cons (s_asg 2 (Ev.fz (ev_lst (ea_cons (ev_isE (C := erA g.K .bad) fr (EF.ec e) hz hv (ev_var 3) (ev_glob (v := .ref (erA g.K .bad)) rfl (EF.gl .bad) rfl (fun F => .adr _)) (EF.kit e .bad))
          (ea_cons (ev_isE (C := erA g.K .noc) fr (EF.ec e) hz hv (ev_var 3) (ev_glob (v := .ref (erA g.K .noc)) rfl (EF.gl .noc) rfl (fun F => .adr _)) (EF.kit e .noc))
          (ea_cons (ev_isE (C := erA g.K .noh) fr (EF.ec e) hz hv (ev_var 3) (ev_glob (v := .ref (erA g.K .noh)) rfl (EF.gl .noh) rfl (fun F => .adr _)) (EF.kit e .noh))
          (ea_cons (ev_isE (C := erA g.K .tw) fr (EF.ec e) hz hv (ev_var 3) (ev_glob (v := .ref (erA g.K .tw)) rfl (EF.gl .tw) rfl (fun F => .adr _)) (EF.kit e .tw)) ea_nil)))) (by show (4 : Nat) ≤ 100000; decide))) ?_)
        refine ss_one (s_asg 2 (Ev.fz (ev_bin (ev_var 2) (Ev.fz (ev_lst (ea_cons (ev_isT (T := "ValueError") fr (EF.ec e) hz hv (ev_var 3) (by decide +kernel) EF.vE (EF.kitV e)) ea_nil) (by show (1 : Nat) ≤ 100000; decide))) (bin_cat (by show (4 + 1 : Nat) ≤ 100000; decide)))) ?_)
        exact ss_one (s_ret (ev_tup (ea_cons (ev_var 1) (ea_cons (ev_var 2) ea_nil)) (by show (2 : Nat) ≤ 100000; decide)) rfl)
end
end CH

/-! Choosehall: law k02's drawn numbers. -/
namespace CH
open PySem L2
theorem star_c {c : Const} {j : Nat} {p : Pos} {es : List Expr} {env : Env} : starEach (.Constant c j p :: es) env = (false, eval (.Constant c j p) env) :: starEach es env := rfl
theorem star_b {a b : Expr} {o : Operator} {p : Pos} {es : List Expr} {env : Env} : starEach (.BinOp a o b p :: es) env = (false, eval (.BinOp a o b p) env) :: starEach es env := rfl
section
variable {P : Program} {w : World} {g : Gb} {mg : Str → Option Value} {base : Heap} {f : Addr} {fd : FuncData}
def RNumBy : List D → Sl → Prop := fun ds r => ∃ c : Int, ds = [.int c] ∧ r = .v (.str (numBy c))
theorem c_numBy (F : FnP g.K "_law_number_by" "_law_number_by" s__law_number_by f fd) (hm : mg "_law_number_by" = some (.ref f)) (fr : Free mg) : Cal P w g mg base "_law_number_by" 1 RNumBy := by
  refine cal_by (N := ["cell", "way", "some"]) (ps := ["cell"]) F ⟨rfl, rfl, rfl, by decide +kernel, rfl, by decide +kernel, by decide +kernel⟩ hm (fun _ _ _ _ _ _ us hl => match us, hl with | [_], _ => rfl) ?_ ?_
  · rintro ds r ⟨l, rfl, _⟩
    rfl
  · rintro ds r cdv A outer s0 H E ⟨cell, rfl, rfl⟩ hr
    have h1 := smT_len cell
    have z24 : (100 : Nat) ≤ sizeLine := by decide
    refine ss_cons (s_asg 1 (ev_bin (ev_var 0) ev_int (bin_mod (by decide))) ?_)
    refine ss_cons (s_asg 2 (ev_str_int fr (ev_bin (ev_bin (ev_var 0) ev_int (bin_div (by decide))) ev_int (bin_mod (by decide))) (big_ok (by omega) (by omega))) ?_)
    refine ss_cons (s_if (b := decide (cell % 6 = 1)) (et_cmp (d1 := .int (cell % 6)) (d2 := .int 1) (ev_var 1) ev_int (cmp_eq rfl hr.units ⟨rfl, rfl⟩ ⟨rfl, rfl⟩)) (fun hb => ss_one (s_ret (ev_bin ev_str (ev_var 2) (bin_adds ?_)) ?_)) (fun hb => ss_nil ?_))
    · show (Str.ofString "0").length + (smT cell).length ≤ _
      rw [lit_0, SX.S_len]
      show 1 + _ ≤ _
      omega
    · unfold numBy
      rw [if_pos (of_decide_eq_true hb)] <;> rfl
    have hb := of_decide_eq_false hb
    have hat : (D.lst (tokL.map D.str)).at_ (cell / 6 % 10) = some (.str (tokL.getD (cell / 6 % 10).toNat ⟨#[]⟩)) := at_map (enc := D.str) (l := tokL) (i := cell / 6 % 10) ⟨#[]⟩ (by omega) (by have e : tokL.length = 10 := rfl; rw [e]; omega)
    have hix : (D.lst (tokL.map D.str)).ixOk := True.intro
    refine ss_cons (s_if (b := decide (cell % 6 = 2)) (et_cmp (d1 := .int (cell % 6)) (d2 := .int 2) (ev_var 1) ev_int (cmp_eq rfl hr.units ⟨rfl, rfl⟩ ⟨rfl, rfl⟩)) (fun hb2 => ?yes) (fun hb2 => ss_nil ?_))
    case yes =>
      refine ss_one ?_
      refine s_ret (r := .v (.str (tokL.getD (cell / 6 % 10).toNat ⟨#[]⟩))) ?_ ?_
      · refine ev_ix (d1 := .lst (tokL.map D.str)) (i := cell / 6 % 10) rfl ?_ ?_ hat hix
        · refine Ev.fz ?_
          refine ev_lst ?_ ?_
          · refine ea_cons ev_str ?_ star_c
            refine ea_cons ev_str ?_ star_c
            refine ea_cons ev_str ?_ star_c
            refine ea_cons ev_str ?_ star_c
            refine ea_cons ev_str ?_ star_c
            refine ea_cons ev_str ?_ star_c
            refine ea_cons ev_str ?_ star_c
            refine ea_cons ev_str ?_ star_c
            refine ea_cons ev_str ?_ star_c
            refine ea_cons ev_str ?_ star_c
            exact ea_nil
          · show (10 : Nat) ≤ 100000
            decide
        · exact ev_bin (ev_bin (ev_var 0) ev_int (bin_div (by decide))) ev_int (bin_mod (by decide))
      · unfold numBy
        rw [if_neg hb, if_pos (of_decide_eq_true hb2)] <;> rfl
    have hb2 := of_decide_eq_false hb2
    refine ss_cons (s_if (b := decide (cell % 6 = 3)) (et_cmp (d1 := .int (cell % 6)) (d2 := .int 3) (ev_var 1) ev_int (cmp_eq rfl hr.units ⟨rfl, rfl⟩ ⟨rfl, rfl⟩)) (fun hb3 => ss_one (s_ret (ev_str_int fr (ev_ix (d1 := .lst ((tokN cell).map D.int)) rfl (Ev.fz (ev_lst ?eb (by show (6 : Nat) ≤ 100000; decide))) (ev_bin (ev_bin (ev_var 0) ev_int (bin_div (by decide))) ev_int (bin_mod (by decide))) (at_map (enc := D.int) (l := tokN cell) (i := cell / 6 % 6) 0 (by omega) (by show _ < (6 : Int); omega))) (big_ok (tokN_in cell _).1 (by have := (tokN_in cell (cell / 6 % 6).toNat).2; omega))) ?_)) (fun hb3 => ss_nil ?_))
    case eb =>
      refine ea_cons ev_int ?_ star_c
      refine ea_cons ev_int ?_ star_c
      refine ea_cons ev_int ?_ star_c
      refine ea_cons ev_int ?_ star_c
      refine ea_cons ev_int ?_ star_c
      refine ea_cons (ev_bin (ev_bin (ev_var 0) ev_int (bin_div (by decide))) ev_int (bin_mod (by decide))) ?_ star_b
      exact ea_nil
    · unfold numBy
      rw [if_neg hb, if_neg hb2, if_pos (of_decide_eq_true hb3)] <;> rfl
    have hb3 := of_decide_eq_false hb3
    refine ss_one (s_ret (ev_var 2) ?_)
    unfold numBy
    rw [if_neg hb, if_neg hb2, if_neg hb3] <;> rfl
end
end CH

/-! Choosehall: law k02's drawn pieces. -/
namespace CH
open PySem L2
section
variable {P : Program} {w : World} {g : Gb} {mg : Str → Option Value} {base : Heap} {f : Addr} {fd : FuncData}
def RPiece : List D → Sl → Prop := fun ds r => ∃ c : Int, ds = [.int c] ∧ r = .v (.str (pieceBy c))
theorem c_piece (F : FnP g.K "_law_piece_by" "_law_piece_by" s__law_piece_by f fd) (hm : mg "_law_piece_by" = some (.ref f)) (fr : Free mg) (CN : Cal P w g mg base "_law_number_by" 1 RNumBy) : Cal P w g mg base "_law_piece_by" 2 RPiece := by
  refine cal_by (N := ["cell", "gap"]) (ps := ["cell"]) F ⟨rfl, rfl, rfl, by decide +kernel, rfl, by decide +kernel, by decide +kernel⟩ hm (fun _ _ _ _ _ _ us hl => match us, hl with | [_], _ => rfl) ?_ ?_
  · rintro ds r ⟨l, rfl, _⟩
    rfl
  · rintro ds r cdv A outer s0 H E ⟨cell, rfl, rfl⟩ hr
    have z24 : (100 : Nat) ≤ sizeLine := by decide
    have hg := gapBy_len cell
    have hn := numBy_len (cell / 216)
    have h7 := str_small (i := cell / 216 % 9) (by omega) (by omega)
    have key : Ss g (cxOf CX0 P w g.K mg base ["cell", "gap"] "_law_piece_by" (defScope s__law_piece_by) f cdv A outer s0 H E).nox [.v (.int cell), .v (.str (gapBy cell))] ((defBody s__law_piece_by).drop 2) (kRet (.v (.str (pieceBy cell)))) := by
      refine ss_cons (s_if (b := decide (cell / 27 % 8 = 1)) (et_cmp (d1 := .int (cell / 27 % 8)) (d2 := .int 1) (ev_bin (ev_bin (ev_var 0) ev_int (bin_div (by decide))) ev_int (bin_mod (by decide))) ev_int (cmp_eq rfl hr.units ⟨rfl, rfl⟩ ⟨rfl, rfl⟩)) (fun hb => ss_one (s_ret (ev_bin (ev_var 1) (ev_call rfl CN hr (ea_cons (ev_bin (ev_var 0) ev_int (bin_div (by decide))) ea_nil) ⟨_, rfl, rfl⟩) (bin_adds (by omega))) ?_)) (fun hb => ss_nil ?_))
      · unfold pieceBy
        rw [if_pos (of_decide_eq_true hb)] <;> rfl
      · refine ss_one (s_ret (ev_bin (ev_var 1) (ev_str_int fr (ev_bin (ev_bin (ev_var 0) ev_int (bin_div (by decide))) ev_int (bin_mod (by decide))) (big_ok (by omega) (by omega))) (bin_adds (by omega))) ?_)
        unfold pieceBy
        rw [if_neg (of_decide_eq_false hb)] <;> rfl
    refine ss_cons (s_asg 1 ev_str ?_)
    refine ss_cons (s_if (b := decide (cell % 9 = 4)) (et_cmp (d1 := .int (cell % 9)) (d2 := .int 4) (ev_bin (ev_var 0) ev_int (bin_mod (by decide))) ev_int (cmp_eq rfl hr.units ⟨rfl, rfl⟩ ⟨rfl, rfl⟩)) (fun hb => ss_one (s_asg 1 (ev_ix (d1 := .lst (gapL.map D.str)) rfl (Ev.fz (ev_lst (ea_cons ev_str (ea_cons ev_str (ea_cons ev_str ea_nil))) (by show (3 : Nat) ≤ 100000; decide))) (ev_bin (ev_bin (ev_var 0) ev_int (bin_div (by decide))) ev_int (bin_mod (by decide))) (at_map ⟨#[]⟩ (by omega) (by show _ < (3 : Int); omega))) ?_)) (fun hb => ss_nil ?_))
    · have e : gapBy cell = gapL.getD (cell / 9 % 3).toNat ⟨#[]⟩ := if_pos (of_decide_eq_true hb)
      rw [e] at key
      exact key
    · have e : gapBy cell = Str.ofString " " := if_neg (of_decide_eq_false hb)
      rw [e] at key
      exact key
end
end CH

/-! Choosehall: law k02. -/
namespace CH
open PySem L2
def ln0 (s : List Int) : Str := if cellAt s 1 % 6 ≠ 1 then numBy (cellAt s 0) ++ Str.ofString ":" else numBy (cellAt s 0)
def lnAt (s : List Int) : Nat → Str
  | 0 => ln0 s
  | i + 1 => lnAt s i ++ pieceBy (cellAt s (2 + (i : Int)))
theorem ln0_len (s : List Int) : (ln0 s).length ≤ 9 := by
  unfold ln0
  have := numBy_len (cellAt s 0)
  split
  · rw [Str.length_append, lit_col, SX.S_len [58]]
    show _ + 1 ≤ _
    omega
  · omega
theorem lnAt_len (s : List Int) : ∀ i : Nat, (lnAt s i).length ≤ 9 + 10 * i
  | 0 => ln0_len s
  | i + 1 => by
    have h1 := lnAt_len s i
    have h2 := pieceBy_len (cellAt s (2 + (i : Int)))
    show (lnAt s i ++ pieceBy (cellAt s (2 + (i : Int)))).length ≤ _
    rw [Str.length_append]
    omega
theorem read_len {L : List Nat} {c : Int} {row : List Int} (h : readO L = .inr (c, row)) : row.length ≤ L.length + 1 := by
  obtain ⟨p, ps, hp⟩ := parts_ne L
  have hn := parts_num L
  unfold readO at h
  rw [hp] at h hn
  have h : (if p.getLast? = some 58 then numsO p.dropLast ps else .inl .bad) = Sum.inr (c, row) := h
  split at h
  · unfold numsO at h
    split at h
    · cases h
    · split at h
      · cases h
      · split at h
        · cases h
        · split at h
          · cases h
          · have e := (Prod.mk.inj (Sum.inr.inj h)).2
            rw [← e, List.length_map]
            rw [List.length_cons] at hn
            omega
  · cases h
section
variable {P : Program} {w : World} {g : Gb} {mg : Str → Option Value} {base : Heap} {f : Addr} {fd : FuncData}
theorem c_law02 (F : FnP g.K "law" "law" s_law f fd) (fr : Free mg) (CC : Cal P w g mg base "_law_cell_at" 1 RCell) (CN : Cal P w g mg base "_law_number_by" 1 RNumBy) (CP : Cal P w g mg base "_law_piece_by" 2 RPiece) (CD : Cal P w g mg base "_law_due" 2 RDue) (CT : Cal P w g mg base "_law_tried" 3 RTried) (CO : Cal P w g mg base "_law_whole" 1 RWhole) :
    FnOk P w g.K mg base CX0 4 f fd ["script"] (Prom g RLaw) := by
  refine fn_by (N := ["script", "line", "k", "due", "tried", "found", "number"]) (ps := ["script"]) F ⟨rfl, rfl, rfl, by decide +kernel, rfl, by decide +kernel, by decide +kernel⟩ ?_ ?_
  · rintro ds r ⟨c, rfl, _⟩
    rfl
  · rintro ds r cdv A outer s0 H E ⟨s, rfl, rfl⟩ hr
    have hr1 := hr.mono (j := 1) (by decide)
    have hr2 := hr.mono (j := 2) (by decide)
    have z24 : (1000 : Nat) ≤ sizeLine := by decide
    have nl := numBy_len (cellAt s 0)
    have key : Ss g (cxOf CX0 P w g.K mg base ["script", "line", "k", "due", "tried", "found", "number"] "law" (defScope s_law) f cdv A outer s0 H E).nox [.v (.scr s), .v (.str (ln0 s)), .un, .un, .un, .un, .un] ((defBody s_law).drop 2) (kRet (.v (.bl true))) := by
      obtain ⟨n, en, hn⟩ : ∃ n : Nat, cellAt s 1 / 6 % 7 = (n : Int) ∧ n ≤ 6 := ⟨(cellAt s 1 / 6 % 7).toNat, by omega, by omega⟩
      have hlen : ((rg 0 (n : Int)).map D.int).length = n := by rw [List.length_map, rg_len]; omega
      refine ss_cons (s_for 2 (items := (rg 0 (n : Int)).map D.int) (ei_range (n := (n : Int)) fr (Ev.is (ev_bin (ev_bin (ev_call rfl CC hr1 (ea_cons (ev_var 0) (ea_cons ev_int ea_nil)) ⟨s, 1, rfl, by decide, rfl⟩) ev_int (bin_div (by decide))) ev_int (bin_mod (by decide))) (congrArg (fun z => Sl.v (.int z)) en)) ⟨by omega, by omega⟩) (fun i G => ∃ z : Sl, G = [.v (.scr s), .v (.str (lnAt s i)), z, .un, .un, .un, .un]) ⟨_, rfl⟩ (fun i d G hd hI => ?_) (fun G hI => ?_))
      · obtain ⟨z, rfl⟩ := hI
        have hi : i < n := by rw [← hlen]; exact (List.getElem?_eq_some_iff.mp hd).1
        have hd2 : d = .int (i : Int) := by
          rw [List.getElem?_map, rg_at (by omega)] at hd
          have := Option.some.inj hd
          rw [← this]
          show D.int (0 + (i : Int)) = _
          rw [Int.zero_add]
        subst hd2
        have h1 := lnAt_len s i
        have h2 := pieceBy_len (cellAt s (2 + (i : Int)))
        exact ss_one (s_asg 1 (ev_bin (ev_var 1) (ev_call rfl CP hr2 (ea_cons (ev_call rfl CC hr1 (ea_cons (ev_var 0) (ea_cons (ev_bin ev_int (ev_var 2) bin_add) ea_nil)) ⟨s, _, rfl, by omega, rfl⟩) ea_nil) ⟨_, rfl, rfl⟩) (bin_adds (by omega))) ⟨_, rfl⟩)
      obtain ⟨z, rfl⟩ := hI
      rw [hlen]
      obtain ⟨L, hL⟩ : ∃ L, L = (lnAt s n).cps.toList := ⟨_, rfl⟩
      have hS : lnAt s n = SX.S L := by rw [hL, SX.S_tl]
      have hl : L.length ≤ 1000 := by
        have h1 := lnAt_len s n
        rw [hS, SX.S_len] at h1
        omega
      rw [hS]
      refine ss_cons (s_asg 3 (ev_call rfl CD hr2 (ea_cons (ev_var 1) ea_nil) ⟨L, hl, rfl, rfl⟩) ?_)
      refine ss_cons (s_asg 4 (ev_call rfl CT hr (ea_cons (ev_var 1) ea_nil) ⟨L, hl, rfl, rfl⟩) ?_)
      cases q : readO L with
      | inl e =>
        have d0 : (D.tup [.int (erI e), .non]).at_ 0 = some (.int (erI e)) := rfl
        have t0 : (triedD (.inl e)).at_ 0 = some .non := rfl
        have t1 : (triedD (.inl e)).at_ 1 = some (.lst [.bl (decide (e = .bad)), .bl (decide (e = .noc)), .bl (decide (e = .noh)), .bl (decide (e = .tw)), .bl true]) := rfl
        refine ss_cons (s_if (b := true) (EvT.is (et_cmp (ev_ix (d1 := dueD (.inl e)) rfl (ev_var 3) ev_int d0) ev_int cmp_gt) (by cases e <;> rfl)) (fun _ => ss_one (s_ret (ev_and (r := true) (r' := true) (ev_cmp (d1 := .non) (d2 := .non) (ev_ix (d1 := triedD (.inl e)) rfl (ev_var 4) ev_int t0) ev_non cmp_is) (fun _ => ?_)) rfl)) (fun hb => by cases hb))
        refine Ev.is (ev_cmp (ev_ix (d1 := triedD (.inl e)) rfl (ev_var 4) ev_int t1) (Ev.fz (ev_bin (Ev.fz (ev_lc 2 (enc := D.int) (l := rg 1 5) (fun k => .bl (decide (erI e = k))) (ei_range2 fr ev_int ev_int (by decide) (by decide)) (by decide) (fun k hk s1 H1 C cl fp => ev_cmp (d1 := .int (erI e)) (d2 := .int k) (ev_ix (d1 := dueD (.inl e)) rfl (ev_var 3) ev_int d0) (ev_var 2) (cmp_eq rfl hr.units ⟨rfl, rfl⟩ ⟨rfl, rfl⟩)))) (Ev.fz (ev_lst (ea_cons ev_true ea_nil) (by show (1 : Nat) ≤ 100000; decide))) (bin_cat (by rw [List.length_map, rg_len]; decide)))) (cmp_eq rfl hr.units ?_ ?_)) ?_
        · cases e <;> exact ⟨rfl, rfl⟩
        · cases e <;> exact ⟨rfl, rfl⟩
        · cases e <;> rfl
      | inr z =>
        obtain ⟨c, row⟩ := z
        have hrow := read_len q
        have d0 : (dueD (.inr (c, row))).at_ 0 = some (.int 0) := rfl
        have d1 : (dueD (.inr (c, row))).at_ 1 = some (intsD (c :: row)) := rfl
        have t0 : (triedD (.inr (c, row))).at_ 0 = some (.tup [.int c, intsD row]) := rfl
        have t1 : (triedD (.inr (c, row))).at_ 1 = some (.lst []) := rfl
        have e0 : (D.tup [.int c, intsD row]).at_ 0 = some (.int c) := rfl
        have e1 : (D.tup [.int c, intsD row]).at_ 1 = some (intsD row) := rfl
        have ecat : [D.int c] ++ row.map D.int = (c :: row).map D.int := rfl
        have bcat : ([D.int c].length + (row.map D.int).length) ≤ 100000 := by
          rw [List.length_map]
          show 1 + row.length ≤ _
          omega
        refine ss_cons (s_if (b := false) (et_cmp (d1 := .int 0) (d2 := .int 0) (ev_ix (d1 := dueD (.inr (c, row))) rfl (ev_var 3) ev_int d0) ev_int cmp_gt) (fun hb => by cases hb) (fun _ => ss_nil ?_))
        refine ss_cons (s_asg 5 (ev_ix (d1 := triedD (.inr (c, row))) rfl (ev_var 4) ev_int t0) ?_)
        refine ss_cons (s_if (b := false) (EvT.is (et_or4 (et_cmp (d1 := .lst []) (d2 := .lst []) (ev_ix (d1 := triedD (.inr (c, row))) rfl (ev_var 4) ev_int t1) (Ev.fz (ev_lst ea_nil (by show (0 : Nat) ≤ 100000; decide))) (cmp_ne rfl hr.units ⟨rfl, rfl⟩ ⟨rfl, rfl⟩)) (fun _ => et_not (et_val (ev_isi (T := "tuple") (t := "tuple") (r := true) rfl fr (ev_var 5) rfl (by decide +kernel) (by decide +kernel) fr.tuple))) (fun _ _ => et_cmp (ev_len rfl fr (ev_var 5) rfl) ev_int (cmp_ne rfl hr.units ⟨rfl, rfl⟩ ⟨rfl, rfl⟩))
          (fun _ _ _ => et_not (et_val (ev_isi (T := "list") (t := "list") (r := true) rfl fr (ev_ix rfl (ev_var 5) ev_int e1) rfl (by decide +kernel) (by decide +kernel) fr.list)))) rfl) (fun hb => by cases hb) (fun _ => ss_nil ?_))
        refine ss_cons (s_for 6 (items := (c :: row).map D.int) (ei_list rfl (Ev.is (Ev.fz (ev_bin (Ev.fz (ev_lst (ea_cons (ev_ix rfl (ev_var 5) ev_int e0) ea_nil) (by show (1 : Nat) ≤ 100000; decide))) (ev_ix rfl (ev_var 5) ev_int e1) (bin_cat bcat))) (congrArg (fun l => Sl.v (.lst l)) ecat)))
          (fun i G => ∃ y : Sl, G = [.v (.scr s), .v (.str (SX.S L)), z, .v (dueD (.inr (c, row))), .v (triedD (.inr (c, row))), .v (.tup [.int c, intsD row]), y]) ⟨_, rfl⟩ (fun i d G hd hI => ?_) (fun G hI => ?_))
        · obtain ⟨y, rfl⟩ := hI
          rw [List.getElem?_map] at hd
          obtain ⟨k, hk, rfl⟩ := Option.map_eq_some_iff.mp hd
          exact ss_one (s_if (b := false) (EvT.is (et_not (et_val (ev_call rfl CO hr1 (ea_cons (ev_var 6) ea_nil) ⟨k, rfl, rfl⟩))) rfl) (fun hb => by cases hb) (fun _ => ss_nil ⟨_, rfl⟩))
        · obtain ⟨y, rfl⟩ := hI
          exact ss_one (s_ret (Ev.is (ev_cmp (d2 := intsD (c :: row)) (Ev.is (Ev.fz (ev_bin (Ev.fz (ev_lst (ea_cons (ev_ix rfl (ev_var 5) ev_int e0) ea_nil) (by show (1 : Nat) ≤ 100000; decide))) (ev_ix rfl (ev_var 5) ev_int e1) (bin_cat bcat))) (congrArg (fun l => Sl.v (.lst l)) ecat)) (ev_ix rfl (ev_var 3) ev_int d1) (cmp_eq rfl hr.units (cm_ints (c :: row)).ok (cm_ints (c :: row)).ok)) (congrArg (fun b => Sl.v (.bl b)) (eqv_self (c :: row)))) rfl)
    refine ss_cons (s_asg 1 (ev_call rfl CN hr1 (ea_cons (ev_call rfl CC hr1 (ea_cons (ev_var 0) (ea_cons ev_int ea_nil)) ⟨s, 0, rfl, by decide, rfl⟩) ea_nil) ⟨_, rfl, rfl⟩) ?_)
    refine ss_cons (s_if (b := !decide (cellAt s 1 % 6 = 1)) (et_cmp (d1 := .int (cellAt s 1 % 6)) (d2 := .int 1) (ev_bin (ev_call rfl CC hr1 (ea_cons (ev_var 0) (ea_cons ev_int ea_nil)) ⟨s, 1, rfl, by decide, rfl⟩) ev_int (bin_mod (by decide))) ev_int (cmp_ne rfl hr.units ⟨rfl, rfl⟩ ⟨rfl, rfl⟩)) (fun hb => ss_one (s_asg 1 (ev_bin (ev_var 1) ev_str (bin_adds (by rw [lit_col, SX.S_len [58]]; show _ + 1 ≤ _; omega))) ?_)) (fun hb => ss_nil ?_))
    · rw [Bool.not_eq_true'] at hb
      have e : ln0 s = numBy (cellAt s 0) ++ Str.ofString ":" := if_pos (of_decide_eq_false hb)
      rw [e] at key
      exact key
    · rw [Bool.not_eq_false'] at hb
      have e : ln0 s = numBy (cellAt s 0) := if_neg fun z => z (of_decide_eq_true hb)
      rw [e] at key
      exact key
end
end CH

/-! Choosehall: what the head must say of the refusals. -/
namespace CH
open PySem L2
def erL : List Er := [.bad, .noc, .noh, .tw]
theorem erL_all (e : Er) : e ∈ erL := by cases e <;> decide
def eB {α : Type} [DecidableEq α] (a b : α) : Bool := decide (a = b)
theorem eB_ok {α : Type} [DecidableEq α] {a b : α} (h : eB a b = true) : a = b := of_decide_eq_true h
def erB (K : PySem.W.Frag) (e : Er) : Bool :=
  eB (PySem.W.exmOne K (erV K e) (.ref (He.ga K "HallError"))) (some true) &&
  (eB (PySem.W.findIn K (erV K e) "__getattribute__") (some (some (.builtin "BaseException.__getattribute__"))) &&
  (eB (PySem.W.findIn K (erV K e) "__getattr__") (some none) &&
  (eB (PySem.W.subIn K (erV K e) (.type "BaseException")) (some true) &&
  (PySem.W.hasDictIn K (erA K e) &&
  (eB (PySem.W.findIn K (erV K e) "__class__") (some (some (.builtin "object.__class__"))) &&
  (eB (PySem.W.specialIn K (.builtin "object.__class__") "__get__") (some (some (.builtin "getset_descriptor.__get__"))) &&
  (eB (PySem.W.takesIn K (.builtin "object.__class__")) (some true) &&
  (eB (PySem.W.mroIn K (erA K e) (.type "object")) (some true) &&
  (eB (PySem.W.kitOne K (erV K e) (.type "ValueError")) (some true) &&
  erL.all fun f => eB (PySem.W.kitOne K (erV K e) (erV K f)) (some (decide (e = f))))))))))))
def exsB (K : PySem.W.Frag) : Bool := erL.all fun e => erB K e
theorem exsB_ok {K : PySem.W.Frag} (h : exsB K = true) (e : Er) : PySem.W.exmOne K (erV K e) (.ref (He.ga K "HallError")) = some true ∧ ExcC K (erA K e) ∧ PySem.W.kitOne K (erV K e) (.type "ValueError") = some true ∧ ∀ f : Er, PySem.W.kitOne K (erV K e) (erV K f) = some (decide (e = f)) := by
  have c : erB K e = true := List.all_eq_true.mp h e (erL_all e)
  unfold erB at c
  obtain ⟨c0, c⟩ := He.ba c
  obtain ⟨c1, c⟩ := He.ba c
  obtain ⟨c2, c⟩ := He.ba c
  obtain ⟨c3, c⟩ := He.ba c
  obtain ⟨c4, c⟩ := He.ba c
  obtain ⟨c5, c⟩ := He.ba c
  obtain ⟨c6, c⟩ := He.ba c
  obtain ⟨c7, c⟩ := He.ba c
  obtain ⟨c8, c⟩ := He.ba c
  obtain ⟨c9, c⟩ := He.ba c
  exact ⟨eB_ok c0, ⟨eB_ok c1, eB_ok c2, eB_ok c3, c4, eB_ok c5, eB_ok c6, eB_ok c7, eB_ok c8⟩, eB_ok c9, fun f => eB_ok (List.all_eq_true.mp c f (erL_all f))⟩
end CH

namespace CH
open PySem PySem.Spec PyProof.Rows L2
/-! ### the head -/
def d_number_of : He.DefD := ⟨("number_of", none), "number_of", "number_of", defArgs s_number_of, defBody s_number_of, defScope s_number_of, [], []⟩
def d_read : He.DefD := ⟨("read", none), "read", "read", defArgs s_read, defBody s_read, defScope s_read, [], []⟩
def d__law_cell_at : He.DefD := ⟨("_law_cell_at", none), "_law_cell_at", "_law_cell_at", defArgs s__law_cell_at, defBody s__law_cell_at, defScope s__law_cell_at, [], []⟩
def d__law_whole : He.DefD := ⟨("_law_whole", none), "_law_whole", "_law_whole", defArgs s__law_whole, defBody s__law_whole, defScope s__law_whole, [], []⟩
def d__law_number_by : He.DefD := ⟨("_law_number_by", none), "_law_number_by", "_law_number_by", defArgs s__law_number_by, defBody s__law_number_by, defScope s__law_number_by, [], []⟩
def d__law_piece_by : He.DefD := ⟨("_law_piece_by", none), "_law_piece_by", "_law_piece_by", defArgs s__law_piece_by, defBody s__law_piece_by, defScope s__law_piece_by, [], []⟩
def d__law_number : He.DefD := ⟨("_law_number", none), "_law_number", "_law_number", defArgs s__law_number, defBody s__law_number, defScope s__law_number, [], []⟩
def d__law_due : He.DefD := ⟨("_law_due", none), "_law_due", "_law_due", defArgs s__law_due, defBody s__law_due, defScope s__law_due, [], []⟩
def d__law_tried : He.DefD := ⟨("_law_tried", none), "_law_tried", "_law_tried", defArgs s__law_tried, defBody s__law_tried, defScope s__law_tried, [], []⟩
def d_law : He.DefD := ⟨("law", none), "law", "law", defArgs s_law, defBody s_law, defScope s_law, [], []⟩
def dfs : List He.DefD := [d_number_of, d_read, d__law_cell_at, d__law_whole, d__law_number_by, d__law_piece_by, d__law_number, d__law_due, d__law_tried, d_law]
def fas : List He.Fa := [.glo "number_of", .glo "read", .glo "_law_cell_at", .glo "_law_whole", .glo "_law_number_by", .glo "_law_piece_by", .glo "_law_number", .glo "_law_due", .glo "_law_tried", .glo "law", .free "len", .free "range", .free "list", .free "sorted", .free "isinstance", .free "str", .free "int", .free "min", .free "max", .free "set", .free "tuple", .free "bool", .str "FIGURES" "0123456789", .glo "BadLine", .glo "NoComer", .glo "NoHouse", .glo "Twice", .glo "HallError", .free "ValueError", .exc "BadLine", .exc "NoComer", .exc "NoHouse", .exc "Twice"]
def tfs : List He.Defn := []
def exs : PySem.W.Frag → Bool := exsB
abbrev Rw : PySem.W.OpenRow := PySem.W.OpenLaw.row PySem.Challenge.rw_choosehall_k02_a_line_read
abbrev hk : PySem.W.Hook := He.hookX 7 fas dfs [] tfs exs
def ob (s : PySem.W.SharedT) : He.AlX := He.obsX 7 fas dfs [] tfs exs (HandSHeadRun.getT s)
theorem ob_eq (s : PySem.W.SharedT) : ob s = hk.obs s.abs := He.obsX_eq (HandSHeadRun.getT_eq s)
def lawI : Nat := 18
theorem run (w : World) : HandSHeadRun.RunEq Rw (PySem.W.view Rw.prog [18]) hk ob 2000 ["HallError", "BadLine", "NoComer", "NoHouse", "Twice", "FIGURES", "number_of", "read", "_law_cell_at", "_law_whole", "_law_number_by", "_law_piece_by", "_law_number", "_law_due", "_law_tried"] w := by
  intro os
  kernel_rfl
structure Say (g : Gb) (mg : Str → Option Value) : Prop where
  fr : Free mg
  g_number_of : mg "number_of" = some (.ref (He.ga g.K "number_of"))
  g_read : mg "read" = some (.ref (He.ga g.K "read"))
  g__law_cell_at : mg "_law_cell_at" = some (.ref (He.ga g.K "_law_cell_at"))
  g__law_whole : mg "_law_whole" = some (.ref (He.ga g.K "_law_whole"))
  g__law_number_by : mg "_law_number_by" = some (.ref (He.ga g.K "_law_number_by"))
  g__law_piece_by : mg "_law_piece_by" = some (.ref (He.ga g.K "_law_piece_by"))
  g__law_number : mg "_law_number" = some (.ref (He.ga g.K "_law_number"))
  g__law_due : mg "_law_due" = some (.ref (He.ga g.K "_law_due"))
  g__law_tried : mg "_law_tried" = some (.ref (He.ga g.K "_law_tried"))
  g_law : mg "law" = some (.ref (He.ga g.K "law"))
  f_number_of : ∃ fd, FnP g.K "number_of" "number_of" s_number_of (He.ga g.K "number_of") fd
  f_read : ∃ fd, FnP g.K "read" "read" s_read (He.ga g.K "read") fd
  f__law_cell_at : ∃ fd, FnP g.K "_law_cell_at" "_law_cell_at" s__law_cell_at (He.ga g.K "_law_cell_at") fd
  f__law_whole : ∃ fd, FnP g.K "_law_whole" "_law_whole" s__law_whole (He.ga g.K "_law_whole") fd
  f__law_number_by : ∃ fd, FnP g.K "_law_number_by" "_law_number_by" s__law_number_by (He.ga g.K "_law_number_by") fd
  f__law_piece_by : ∃ fd, FnP g.K "_law_piece_by" "_law_piece_by" s__law_piece_by (He.ga g.K "_law_piece_by") fd
  f__law_number : ∃ fd, FnP g.K "_law_number" "_law_number" s__law_number (He.ga g.K "_law_number") fd
  f__law_due : ∃ fd, FnP g.K "_law_due" "_law_due" s__law_due (He.ga g.K "_law_due") fd
  f__law_tried : ∃ fd, FnP g.K "_law_tried" "_law_tried" s__law_tried (He.ga g.K "_law_tried") fd
  f_law : ∃ fd, FnP g.K "law" "law" s_law (He.ga g.K "law") fd
  k_FIGURES : ∃ t, mg "FIGURES" = some (.str "0123456789" t)
  er : ErF g.K mg
abbrev gOf (K : PySem.W.Frag) : Gb := ⟨K, He.ga K "House", []⟩
theorem say {w : World} {K : PySem.W.Frag} {h : Heap} {mg : Str → Option Value} (X : K.In h) (G : h.Ns mainGlobals mg) (c : He.SaysX fas dfs [] tfs exs w h K) : Say (gOf K) mg := by
  have D := c.t.d
  have er : ErF K mg := by
    refine ⟨?q0, ?q1, ?q2, ?q3, ?q4, ?q5, ?q6, ?q7, ?q8, ?q9, ?q10⟩
    case q0 =>
      intro e
      cases e
      · exact He.glo_ok X G (D.fact 23 (f := .glo "BadLine") rfl)
      · exact He.glo_ok X G (D.fact 24 (f := .glo "NoComer") rfl)
      · exact He.glo_ok X G (D.fact 25 (f := .glo "NoHouse") rfl)
      · exact He.glo_ok X G (D.fact 26 (f := .glo "Twice") rfl)
    case q1 =>
      exact He.glo_ok X G (D.fact 27 (f := .glo "HallError") rfl)
    case q2 =>
      exact He.free_ok X G (D.fact 28 (f := .free "ValueError") rfl)
    case q3 =>
      intro e
      cases e
      · exact (He.exc_ok (D.fact 29 (f := .exc "BadLine") rfl)).1
      · exact (He.exc_ok (D.fact 30 (f := .exc "NoComer") rfl)).1
      · exact (He.exc_ok (D.fact 31 (f := .exc "NoHouse") rfl)).1
      · exact (He.exc_ok (D.fact 32 (f := .exc "Twice") rfl)).1
    case q4 =>
      intro e
      cases e
      · exact (He.exc_ok (D.fact 29 (f := .exc "BadLine") rfl)).2.1
      · exact (He.exc_ok (D.fact 30 (f := .exc "NoComer") rfl)).2.1
      · exact (He.exc_ok (D.fact 31 (f := .exc "NoHouse") rfl)).2.1
      · exact (He.exc_ok (D.fact 32 (f := .exc "Twice") rfl)).2.1
    case q5 =>
      intro e
      cases e
      · exact (He.exc_ok (D.fact 29 (f := .exc "BadLine") rfl)).2.2.1
      · exact (He.exc_ok (D.fact 30 (f := .exc "NoComer") rfl)).2.2.1
      · exact (He.exc_ok (D.fact 31 (f := .exc "NoHouse") rfl)).2.2.1
      · exact (He.exc_ok (D.fact 32 (f := .exc "Twice") rfl)).2.2.1
    case q6 =>
      intro e
      cases e
      · exact (He.exc_ok (D.fact 29 (f := .exc "BadLine") rfl)).2.2.2
      · exact (He.exc_ok (D.fact 30 (f := .exc "NoComer") rfl)).2.2.2
      · exact (He.exc_ok (D.fact 31 (f := .exc "NoHouse") rfl)).2.2.2
      · exact (He.exc_ok (D.fact 32 (f := .exc "Twice") rfl)).2.2.2
    case q7 =>
      exact fun e => (exsB_ok c.more e).1
    case q8 =>
      exact fun e => (exsB_ok c.more e).2.1
    case q9 =>
      exact fun e => (exsB_ok c.more e).2.2.2
    case q10 =>
      exact fun e => (exsB_ok c.more e).2.2.1
  refine ⟨⟨He.free_ok X G (D.fact 10 (f := .free "len") rfl), He.free_ok X G (D.fact 11 (f := .free "range") rfl), He.free_ok X G (D.fact 12 (f := .free "list") rfl), He.free_ok X G (D.fact 13 (f := .free "sorted") rfl), He.free_ok X G (D.fact 14 (f := .free "isinstance") rfl), He.free_ok X G (D.fact 15 (f := .free "str") rfl), He.free_ok X G (D.fact 16 (f := .free "int") rfl), He.free_ok X G (D.fact 17 (f := .free "min") rfl), He.free_ok X G (D.fact 18 (f := .free "max") rfl), He.free_ok X G (D.fact 19 (f := .free "set") rfl), He.free_ok X G (D.fact 20 (f := .free "tuple") rfl), He.free_ok X G (D.fact 21 (f := .free "bool") rfl)⟩, He.glo_ok X G (D.fact 0 (f := .glo "number_of") rfl), He.glo_ok X G (D.fact 1 (f := .glo "read") rfl), He.glo_ok X G (D.fact 2 (f := .glo "_law_cell_at") rfl), He.glo_ok X G (D.fact 3 (f := .glo "_law_whole") rfl), He.glo_ok X G (D.fact 4 (f := .glo "_law_number_by") rfl), He.glo_ok X G (D.fact 5 (f := .glo "_law_piece_by") rfl), He.glo_ok X G (D.fact 6 (f := .glo "_law_number") rfl), He.glo_ok X G (D.fact 7 (f := .glo "_law_due") rfl), He.glo_ok X G (D.fact 8 (f := .glo "_law_tried") rfl), He.glo_ok X G (D.fact 9 (f := .glo "law") rfl), D.def_ 0 (d := d_number_of) rfl, D.def_ 1 (d := d_read) rfl, D.def_ 2 (d := d__law_cell_at) rfl, D.def_ 3 (d := d__law_whole) rfl, D.def_ 4 (d := d__law_number_by) rfl, D.def_ 5 (d := d__law_piece_by) rfl, D.def_ 6 (d := d__law_number) rfl, D.def_ 7 (d := d__law_due) rfl, D.def_ 8 (d := d__law_tried) rfl, D.def_ 9 (d := d_law) rfl, He.str_ok X G (D.fact 22 (f := .str "FIGURES" "0123456789") rfl), er⟩
end CH

/-! Choosehall: the law's promise at a script. -/
namespace CH
open PySem PySem.Spec PyProof.Rows L2
theorem tabs_of {T : List (Addr × Str)} {H : Hp} (hT : ∀ p ∈ T, H p.1 = some (.tbl #[])) : LamX.Tabs T H := fun p hp => by
  refine ⟨#[], hT p hp, ?_, fun pos cv e => ?_⟩
  · first | exact .nil | trivial | (intro _ h; cases h)
  · cases e
theorem prom_scr {K : PySem.W.Frag} {C : Addr} {T : List (Addr × Str)} {H : Hp} {a : Addr} {ns : List Int} (hT : ∀ p ∈ T, H p.1 = some (.tbl #[])) (hS : SqL K H a (ns.map V.int)) : Prom ⟨K, C, T⟩ RLaw [.ref a] H (fun v _ => v = .bl true) (fun _ _ _ => False) := by
  have fin : ∀ F : Hp, Sub F H → Fro F → SqL K F a (ns.map V.int) → Prom ⟨K, C, T⟩ RLaw [.ref a] H (fun v _ => v = .bl true) (fun _ _ _ => False) := fun F s f q =>
    ⟨[.scr ns], .v (.bl true), F, ⟨ns, rfl, rfl⟩, repL_cons (.scr q) repL_nil, ⟨s, f, tabs_of hT⟩, fun v F' H' u r => of_bl r⟩
  rcases hS with (h | ⟨ob, h⟩) | h
  · refine fin (fun b => if b = a then some (.lst (ns.map V.int)) else none) (fun b o e => ?_) (fun b o e => ?_) (.inl (.inl (if_pos rfl)))
    · have e : (if b = a then some _ else none) = some o := e
      by_cases hb : b = a
      · rw [if_pos hb] at e
        rw [hb, h, e]
      · rw [if_neg hb] at e
        cases e
    · have e : (if b = a then some _ else none) = some o := e
      by_cases hb : b = a
      · rw [if_pos hb] at e
        cases e
        exact nt_lst
      · rw [if_neg hb] at e
        cases e
  · refine fin (fun b => if b = a then some (.frz ob (.lst (ns.map V.int))) else none) (fun b o e => ?_) (fun b o e => ?_) (.inl (.inr ⟨ob, if_pos rfl⟩))
    · have e : (if b = a then some _ else none) = some o := e
      by_cases hb : b = a
      · rw [if_pos hb] at e
        rw [hb, h, e]
      · rw [if_neg hb] at e
        cases e
    · have e : (if b = a then some _ else none) = some o := e
      by_cases hb : b = a
      · rw [if_pos hb] at e
        cases e
        exact nt_frz
      · rw [if_neg hb] at e
        cases e
  · exact fin (fun _ => none) (fun _ _ e => by cases e) (fun _ _ e => by cases e) (.inr h)
end CH

namespace CH
open PySem PySem.Spec PyProof.Rows L2
abbrev lawK : Nat := 4
theorem facts {P : Program} {w : World} {K : PySem.W.Frag} {h : Heap} {mg : Str → Option Value} {fa : Addr} (X : K.In h) (G : h.Ns mainGlobals mg) (hfa : mg ("law" : Str) = some (.ref fa)) (c : He.SaysX fas dfs [] tfs exs w h K) :
    ∃ fd : FuncData, (∀ (s : Shared) (v : Value), BindsTo s fd ⟨[v], []⟩ [("script", v)]) ∧ ∀ base : Heap, FnOk P w K mg base CX0 lawK fa fd ["script"] (Prom (gOf K) RLaw) := by
  have S := say X G c
  have e := hfa.symm.trans S.g_law
  cases e
  obtain ⟨fd, F⟩ := S.f_law
  have b := FunD.bindsA (ps := ["script"]) F fun _ _ _ _ _ _ us hl => match us, hl with | [_], _ => rfl
  refine ⟨fd, fun s v => b s [v] rfl, fun base => ?_⟩
  obtain ⟨_, F1⟩ := S.f__law_cell_at
  obtain ⟨_, F2⟩ := S.f__law_whole
  obtain ⟨_, F3⟩ := S.f__law_number_by
  obtain ⟨_, F4⟩ := S.f__law_piece_by
  obtain ⟨_, F5⟩ := S.f__law_number
  obtain ⟨_, F6⟩ := S.f__law_due
  obtain ⟨_, F7⟩ := S.f__law_tried
  obtain ⟨_, F8⟩ := S.f_number_of
  obtain ⟨_, F9⟩ := S.f_read
  have CC : Cal P w (gOf K) mg base "_law_cell_at" 1 RCell := c_cell F1 S.g__law_cell_at S.fr
  have CO : Cal P w (gOf K) mg base "_law_whole" 1 RWhole := c_whole F2 S.g__law_whole S.fr
  have CB : Cal P w (gOf K) mg base "_law_number_by" 1 RNumBy := c_numBy F3 S.g__law_number_by S.fr
  have CP : Cal P w (gOf K) mg base "_law_piece_by" 2 RPiece := c_piece F4 S.g__law_piece_by S.fr CB
  have CL : Cal P w (gOf K) mg base "_law_number" 1 RNumL := c_numL F5 S.g__law_number S.fr
  have CD : Cal P w (gOf K) mg base "_law_due" 2 RDue := c_due F6 S.g__law_due S.fr CL
  have CN : CalX P w (gOf K) mg base "number_of" 1 (RNum2 (gOf K).K) := c_num2 F8 S.g_number_of S.fr S.er S.k_FIGURES
  have CR : CalX P w (gOf K) mg base "read" 2 (RRead2 (gOf K).K) := c_read2 F9 S.g_read S.fr S.er CN
  have CT : Cal P w (gOf K) mg base "_law_tried" 3 RTried := c_tried F7 S.g__law_tried S.fr S.er CR
  exact c_law02 F S.fr CC CB CP CD CT CO
end CH

open PySem PySem.W PySem.Calls PyProof.Rows
theorem PySem.Challenge.cw_choosehall_k02_a_line_read_holds : PySem.Challenge.rw_choosehall_k02_a_line_read.Holds := by
  w_on; o_law
  refine HandSHeadRun.head_any (r := OpenLaw.row PySem.Challenge.rw_choosehall_k02_a_line_read) (q := view (OpenLaw.row PySem.Challenge.rw_choosehall_k02_a_line_read).prog [CH.lawI]) (H := CH.hk) (ob := CH.ob) (M := 2000) (loose := ["HallError", "BadLine", "NoComer", "NoHouse", "Twice", "FIGURES", "number_of", "read", "_law_cell_at", "_law_whole", "_law_number_by", "_law_piece_by", "_law_number", "_law_due", "_law_tried"]) (d := HandSHeadRun.topDef (OpenLaw.row PySem.Challenge.rw_choosehall_k02_a_line_read).prog CH.lawI) (kwd := []) CH.ob_eq
    (by kernel_rfl) (fun s => by kernel_rfl) CH.run (by kernel_rfl) (by kernel_rfl) (by kernel_rfl) (by rfl) (by first | assumption | decide +kernel) (by decide +kernel) ⟨rfl, rfl, rfl, rfl, rfl, by decide +kernel⟩ ?hw ?hc
  case hw => w_witness2
  case hc =>
    refine LamX.walk_ofTsE (l := PySem.Challenge.rw_choosehall_k02_a_line_read) (n := 63) (k := CH.lawK) (x := "script") (CX := fun _ => L2.CX0) rfl (by decide) (by kernel_rfl) ⟨rfl, by decide, by decide⟩ ?F (fun _ _ _ _ _ z => z)
    intro w mg fa h Y G hmg0
    obtain ⟨K, KX, c⟩ := Y
    have hmg : mg ("law" : PySem.Str) = some (.ref fa) := by
      have e : (HandSHeadRun.topDef (OpenLaw.row PySem.Challenge.rw_choosehall_k02_a_line_read).prog CH.lawI).name = ("law" : PySem.Str) := by kernel_rfl
      rw [← e]
      exact hmg0
    obtain ⟨fd, hb, hF⟩ := CH.facts (P := (PySem.Challenge.rw_choosehall_k02_a_line_read).prog) (w := w) KX G hmg c
    have none : ∀ p ∈ ([] : List (PySem.Addr × PySem.Addr)), False := fun p hp => by cases hp
    refine ⟨K, KX, fd, [], CH.Prom (CH.gOf K) CH.RLaw, fun p hp => (by cases hp), fun p hp => (by cases hp), fun p hp => (by cases hp), hb, fun H a ns hl _ hT hS => ?_, fun base hK hN TB => hF base⟩
    exact CH.prom_scr (fun p hp => by cases hp) hS
