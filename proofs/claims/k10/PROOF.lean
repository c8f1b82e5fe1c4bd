import PyProof.Rows.All
import Wide.All
import OpenK.AllK
import Wide.FinOn
import HandS.Base
import HandS.Call
import HandS.List
import HandS.Slots
import HandS.Exc
import HandS.TupAny
import HandS.TupMul
import HandS.Wide
import HandS.Flow
import HandS.IsInst
import HandS.Deep
import HandS.Text
import HandS.Words
import HandS.Comp
import HandS.Iter
import HandS.Zip
import HandS.TryOnly
import HandS.Defaults
import HandS.SlotsOwn
import HandS.MakeKwOnly
import HandS.Style
import HandS.Star
import HandS.ClsMeth
import PyProof.InstNe
import HandS.TupSets
import HandS.SortInts
import HandS.SetFor
import HandS.Strs
import HandS.SortKw
import HandS.Dict
import HandS.Walk
import HandS.SortRule
import HandS.Small
import HandS.DictComp
import HandS.TupLen
import HandS.Conv
import PyProof.SetRoads
import HandS.ExcOwn
import HandS.ExcInit
import HandS.WordsExc
import KE.KExcSuper
import KE.KExcIs
import KE.KSuper
import HandS.ExcValue
import KE.SortData
import KE.DatumOrd
import KE.KOpsOwn
import OpenK.KMeth
import PyProof.ReprRoads
import PyProof.ReprBulk
import HandS.HeadEnd
import KE.DataCmp
import PyProof.Rows.IntBool
import KE.KStateDown
import HandS.Head0
import HandS.Head1
import HandS.Head2
import HandS.HeadHook1
import HandS.HeadHook2
import HandS.ForMost
import PySem.Challenge.RW_quietshare_k10_books_or_none
set_option Elab.async false
set_option linter.all false
set_option maxRecDepth 100000
set_option maxHeartbeats 4000000
namespace Q
open PySem L2
/-- data: what a Python value is worth; exn: an exception that was caught; ref k: the k-th mutable cell -/
inductive D where
  | non | bl (b : Bool) | int (i : Int) | str (x : Str) | tup (xs : List D) | lst (xs : List D) | fro (xs : List D) | obj (c : Nat) (fs : List D) | exn (c : Nat) (fs : List D) | ref (k : Nat)
/-- a mutable cell: a list that may be changed, a list that is changed no more, a dict by ints and texts, one by tuples of such (lk: locked by a walk), an instance with slots that changes -/
inductive Cell where
  | lst (xs : List D) | frz (xs : List D) | dk (lk : Bool) (kvs : List (Key × D)) | dt (lk : Bool) (kvs : List (List Key × D)) | ob (c : Nat) (fs : List (Option D))
def Cell.live : Cell → Bool
  | .lst _ => true
  | .frz _ => false
  | .dk lk _ => !lk
  | .dt lk _ => !lk
  | .ob _ _ => true
abbrev Store := List Cell
abbrev Env := List (Option D)
structure Exn where
  cls : Nat
  fs : List D
inductive Res (β : Type) where
  | ok (a : β) (S : Store) | ex (e : Exn) (S : Store) | no
def Res.bind {β γ : Type} (r : Res β) (f : β → Store → Res γ) : Res γ := match r with
  | .ok a S => f a S
  | .ex e S => .ex e S
  | .no => .no
@[simp] theorem bind_ok {β γ : Type} (a : β) (S : Store) (f : β → Store → Res γ) : (Res.ok a S).bind f = f a S := rfl
@[simp] theorem bind_no {β γ : Type} (f : β → Store → Res γ) : (Res.no : Res β).bind f = .no := rfl
@[simp] theorem bind_ex {β γ : Type} (e : Exn) (S : Store) (f : β → Store → Res γ) : (Res.ex e S : Res β).bind f = .ex e S := rfl
theorem bind_congr {β γ : Type} {r r' : Res β} (f : β → Store → Res γ) (h : r = r') : r.bind f = r'.bind f := by rw [h]
/-- the text's fragment and its classes by number -/
structure Gm where
  K : PySem.W.Frag
  cl : Nat → Addr
/-- an instance with slots, all of them filled, that changes no more -/
def ObAt (G : Hp) (a C : Addr) (vs : List V) : Prop := ∃ dx, G a = some (SlX.SlO a C dx (vs.map some)) ∧ G dx = some (.xd [])
/-- at a: an exception of a class, its dict at d -/
def ExK (cls : Value) (d : Option Addr) (a : Addr) : HO := .ext fun h => ∃ (oe : Obj) (ws : Array Value), h.get? a = some oe ∧ Zc cls d oe ∧ oe.data = .fields ws
/-- what an exception's dict holds: nothing, or one thing by its name -/
def ExF (G : Hp) (d : Option Addr) (vs : List V) : Prop := (vs = [] ∧ d = none) ∨ ∃ (nm : Str) (v : V) (dd : Addr), vs = [.str nm, v] ∧ d = some dd ∧ G dd = some (.xd [(nm, v)])
def ExAt (G : Hp) (a C : Addr) (vs : List V) : Prop := ∃ d, G a = some (ExK (.ref C) d a) ∧ ExF G d vs
theorem ExF.keep {G G' : Hp} (k : ∀ a fs, G a = some (.xd fs) → G' a = some (.xd fs)) {d : Option Addr} {vs : List V} (h : ExF G d vs) : ExF G' d vs := by
  rcases h with h | ⟨nm, v, dd, e1, e2, e3⟩
  · exact .inl h
  · exact .inr ⟨nm, v, dd, e1, e2, k _ _ e3⟩
section
variable (Γ : Gm) (α : List Addr) (G : Hp)
mutual
def Rep : D → V → Prop
  | .non, v => v = .non
  | .bl b, v => v = .bl b
  | .int i, v => v = .int i
  | .str s, v => v = .str s
  | .tup ds, v => ∃ a vs, v = .ref a ∧ G a = some (.tup vs) ∧ RepL ds vs
  | .lst ds, v => ∃ a vs, v = .ref a ∧ G a = some (.lst vs) ∧ RepL ds vs
  | .fro ds, v => ∃ a vs, v = .ref a ∧ SqL Γ.K G a vs ∧ RepL ds vs
  | .obj c fs, v => ∃ a vs, v = .ref a ∧ ObAt G a (Γ.cl c) vs ∧ RepL fs vs
  | .exn c fs, v => ∃ a vs, v = .ref a ∧ ExAt G a (Γ.cl c) vs ∧ RepL fs vs
  | .ref k, v => ∃ a, v = .ref a ∧ α[k]? = some a
def RepL : List D → List V → Prop
  | [], vs => vs = []
  | d :: ds, vs => ∃ v r, vs = v :: r ∧ Rep d v ∧ RepL ds r
end
end
/-- all of G is in H -/
def Sub (G H : Hp) : Prop := ∀ a o, G a = some o → H a = some o
theorem Sub.refl (G : Hp) : Sub G G := fun _ _ h => h
theorem Sub.trans {G H J : Hp} (a : Sub G H) (b : Sub H J) : Sub G J := fun x o h => b x o (a x o h)
theorem Sub.new {H : Hp} {p : Addr} {o : HO} (h : H p = none) : Sub H (upd H p o) := fun a u e => by
  rw [upd_ne (ne_of_none e h)]; exact e
theorem Sub.rd {G H : Hp} (s : Sub G H) {a : Addr} {u : HO} (h : Rd G a u) : Rd H a u := by
  rcases h with h | ⟨o, h⟩
  · exact .inl (s a _ h)
  · exact .inr ⟨o, s a _ h⟩
theorem Sub.sqL {K : PySem.W.Frag} {G H : Hp} (s : Sub G H) {a : Addr} {xs : List V} (h : SqL K G a xs) : SqL K H a xs := by
  rcases h with h | h
  · exact .inl (s.rd h)
  · exact .inr h
theorem Sub.sqT {K : PySem.W.Frag} {G H : Hp} (s : Sub G H) {a : Addr} {xs : List V} (h : SqT K G a xs) : SqT K H a xs := by
  rcases h with h | h
  · exact .inl (s.rd h)
  · exact .inr h
theorem Sub.none {G H : Hp} (s : Sub G H) {a : Addr} (h : H a = none) : G a = none := by
  cases q : G a with
  | none => rfl
  | some o => rw [s a o q] at h; cases h
section
variable {Γ : Gm} {α α' : List Addr} {G G' : Hp}
mutual
theorem Rep.mono (hp : ∃ β, α' = α ++ β) (hs : Sub G G') : ∀ (d : D) (v : V), Rep Γ α G d v → Rep Γ α' G' d v
  | .non, v, h => by simpa [Rep] using h
  | .bl b, v, h => by simpa [Rep] using h
  | .int i, v, h => by simpa [Rep] using h
  | .str s, v, h => by simpa [Rep] using h
  | .tup ds, v, h => by
    unfold Rep at h ⊢
    obtain ⟨a, vs, e, q, r⟩ := h
    exact ⟨a, vs, e, hs _ _ q, RepL.mono hp hs ds vs r⟩
  | .lst ds, v, h => by
    unfold Rep at h ⊢
    obtain ⟨a, vs, e, q, r⟩ := h
    exact ⟨a, vs, e, hs _ _ q, RepL.mono hp hs ds vs r⟩
  | .fro ds, v, h => by
    unfold Rep at h ⊢
    obtain ⟨a, vs, e, q, r⟩ := h
    exact ⟨a, vs, e, hs.sqL q, RepL.mono hp hs ds vs r⟩
  | .obj c fs, v, h => by
    unfold Rep at h ⊢
    obtain ⟨a, vs, e, ⟨dx, h1, h2⟩, r⟩ := h
    exact ⟨a, vs, e, ⟨dx, hs _ _ h1, hs _ _ h2⟩, RepL.mono hp hs fs vs r⟩
  | .exn c fs, v, h => by
    unfold Rep at h ⊢
    obtain ⟨a, vs, e, ⟨d, h1, h2⟩, r⟩ := h
    exact ⟨a, vs, e, ⟨d, hs _ _ h1, h2.keep fun _ _ z => hs _ _ z⟩, RepL.mono hp hs fs vs r⟩
  | .ref k, v, h => by
    unfold Rep at h ⊢
    obtain ⟨a, e, q⟩ := h
    obtain ⟨β, rfl⟩ := hp
    exact ⟨a, e, by rw [List.getElem?_append_left (List.getElem?_eq_some_iff.mp q).1]; exact q⟩
theorem RepL.mono (hp : ∃ β, α' = α ++ β) (hs : Sub G G') : ∀ (ds : List D) (vs : List V), RepL Γ α G ds vs → RepL Γ α' G' ds vs
  | [], vs, h => by simpa [RepL] using h
  | d :: ds, vs, h => by
    unfold RepL at h ⊢
    obtain ⟨v, r, e, h1, h2⟩ := h
    exact ⟨v, r, e, Rep.mono hp hs d v h1, RepL.mono hp hs ds r h2⟩
end
theorem RepL.length : ∀ {ds : List D} {vs : List V}, RepL Γ α G ds vs → ds.length = vs.length
  | [], vs, h => by unfold RepL at h; subst h; rfl
  | d :: ds, vs, h => by
    unfold RepL at h
    obtain ⟨v, r, rfl, _, h2⟩ := h
    simp [RepL.length h2]
theorem RepL.get : ∀ {ds : List D} {vs : List V} {i : Nat} {d : D}, RepL Γ α G ds vs → ds[i]? = some d → ∃ v, vs[i]? = some v ∧ Rep Γ α G d v
  | [], _, _, _, _, h => by simp at h
  | d :: ds, vs, 0, e, r, h => by
    unfold RepL at r
    obtain ⟨v, w, rfl, h1, _⟩ := r
    simp at h
    subst h
    exact ⟨v, rfl, h1⟩
  | d :: ds, vs, i + 1, e, r, h => by
    unfold RepL at r
    obtain ⟨v, w, rfl, _, h2⟩ := r
    simpa using RepL.get h2 (by simpa using h)
theorem RepL.append : ∀ {ds es : List D} {vs ws : List V}, RepL Γ α G ds vs → RepL Γ α G es ws → RepL Γ α G (ds ++ es) (vs ++ ws)
  | [], es, vs, ws, h, h' => by
    unfold RepL at h; subst h; exact h'
  | d :: ds, es, vs, ws, h, h' => by
    unfold RepL at h
    obtain ⟨v, r, rfl, h1, h2⟩ := h
    show RepL Γ α G (d :: (ds ++ es)) (v :: (r ++ ws))
    unfold RepL
    exact ⟨v, _, rfl, h1, RepL.append h2 h'⟩
theorem RepL.set : ∀ {ds : List D} {vs : List V} (i : Nat) {d : D} {v : V}, RepL Γ α G ds vs → Rep Γ α G d v → RepL Γ α G (ds.set i d) (vs.set i v)
  | [], vs, i, d, v, h, _ => by unfold RepL at h; subst h; simp [RepL]
  | e :: ds, vs, 0, d, v, h, hv => by
    unfold RepL at h
    obtain ⟨w, r, rfl, h1, h2⟩ := h
    show RepL Γ α G (d :: ds) (v :: r)
    unfold RepL
    exact ⟨v, r, rfl, hv, h2⟩
  | e :: ds, vs, i + 1, d, v, h, hv => by
    unfold RepL at h
    obtain ⟨w, r, rfl, h1, h2⟩ := h
    show RepL Γ α G (e :: ds.set i d) (w :: r.set i v)
    unfold RepL
    exact ⟨w, _, rfl, h1, RepL.set i h2 hv⟩
theorem RepL.take : ∀ {ds : List D} {vs : List V} (n : Nat), RepL Γ α G ds vs → RepL Γ α G (ds.take n) (vs.take n)
  | ds, vs, 0, h => by simp [RepL]
  | [], vs, n + 1, h => by unfold RepL at h; subst h; simp [RepL]
  | d :: ds, vs, n + 1, h => by
    unfold RepL at h
    obtain ⟨w, r, rfl, h1, h2⟩ := h
    show RepL Γ α G (d :: ds.take n) (w :: r.take n)
    unfold RepL
    exact ⟨w, _, rfl, h1, RepL.take n h2⟩
theorem RepL.drop : ∀ {ds : List D} {vs : List V} (n : Nat), RepL Γ α G ds vs → RepL Γ α G (ds.drop n) (vs.drop n)
  | ds, vs, 0, h => h
  | [], vs, n + 1, h => by unfold RepL at h; subst h; simp [RepL]
  | d :: ds, vs, n + 1, h => by
    unfold RepL at h
    obtain ⟨w, r, rfl, h1, h2⟩ := h
    exact RepL.drop n h2
end
/-- a dict's entries -/
def RepKV (Γ : Gm) (α : List Addr) (G : Hp) {κ : Type} : List (κ × D) → List (κ × V) → Prop
  | [], ws => ws = []
  | kd :: r, ws => ∃ v t, ws = (kd.1, v) :: t ∧ Rep Γ α G kd.2 v ∧ RepKV Γ α G r t
/-- the slots that are known -/
def RepO (Γ : Gm) (α : List Addr) (G : Hp) (fs : List (Option D)) (vs : List (Option V)) : Prop := ∀ (i : Nat) (d : D), fs[i]? = some (some d) → ∃ v, vs[i]? = some (some v) ∧ Rep Γ α G d v
/-- what stands there for a cell -/
def RepC (Γ : Gm) (α : List Addr) (G : Hp) (a : Addr) : Cell → HO → Prop
  | .lst ds, o => ∃ vs, o = .lst vs ∧ RepL Γ α G ds vs
  | .frz ds, o => ∃ vs, o = .lst vs ∧ RepL Γ α G ds vs
  | .dk lk kvs, o => ∃ ws, RepKV Γ α G kvs ws ∧ ((lk = false ∧ o = .dK ws) ∨ (lk = true ∧ ∃ od, o = .frz od (.dK ws)))
  | .dt lk kvs, o => ∃ ws, RepKV Γ α G kvs ws ∧ ((lk = false ∧ o = .dT ws) ∨ (lk = true ∧ ∃ od, o = .frz od (.dT ws)))
  | .ob c fs, o => ∃ dx vs, o = SlX.SlO a (Γ.cl c) dx vs ∧ G dx = some (.xd []) ∧ RepO Γ α G fs vs
/-- a cell lies at a -/
def CellOk (Γ : Gm) (α : List Addr) (G H : Hp) (a : Addr) (c : Cell) : Prop := ∃ o, RepC Γ α G a c o ∧ ((c.live = true ∧ H a = some o ∧ G a = none) ∨ (c.live = false ∧ G a = some o))
section
variable {Γ : Gm} {α α' : List Addr} {G G' H H' : Hp} {a : Addr}
theorem RepKV.mono {κ : Type} (hp : ∃ β, α' = α ++ β) (hs : Sub G G') : ∀ {kvs : List (κ × D)} {ws : List (κ × V)}, RepKV Γ α G kvs ws → RepKV Γ α' G' kvs ws
  | [], ws, h => by simpa [RepKV] using h
  | (k, d) :: r, ws, h => by
    unfold RepKV at h ⊢
    obtain ⟨v, t, e, h1, h2⟩ := h
    exact ⟨v, t, e, Rep.mono hp hs _ _ h1, RepKV.mono hp hs h2⟩
theorem RepO.mono (hp : ∃ β, α' = α ++ β) (hs : Sub G G') {fs : List (Option D)} {vs : List (Option V)} (h : RepO Γ α G fs vs) : RepO Γ α' G' fs vs := fun i d hd => by
  obtain ⟨v, e, r⟩ := h i d hd
  exact ⟨v, e, Rep.mono hp hs _ _ r⟩
theorem RepC.mono (hp : ∃ β, α' = α ++ β) (hs : Sub G G') {c : Cell} {o : HO} (h : RepC Γ α G a c o) : RepC Γ α' G' a c o := by
  cases c with
  | lst ds => obtain ⟨vs, e, r⟩ := h; exact ⟨vs, e, RepL.mono hp hs _ _ r⟩
  | frz ds => obtain ⟨vs, e, r⟩ := h; exact ⟨vs, e, RepL.mono hp hs _ _ r⟩
  | dk lk kvs => obtain ⟨ws, r, e⟩ := h; exact ⟨ws, r.mono hp hs, e⟩
  | dt lk kvs => obtain ⟨ws, r, e⟩ := h; exact ⟨ws, r.mono hp hs, e⟩
  | ob c fs => obtain ⟨dx, vs, e, hx, r⟩ := h; exact ⟨dx, vs, e, hs _ _ hx, r.mono hp hs⟩
theorem RepC.ntup {c : Cell} {o : HO} (h : RepC Γ α G a c o) : ∀ xs, o ≠ .tup xs := by
  intro xs z
  cases c with
  | lst ds => obtain ⟨vs, e, r⟩ := h; rw [e] at z; cases z
  | frz ds => obtain ⟨vs, e, r⟩ := h; rw [e] at z; cases z
  | dk lk kvs =>
    obtain ⟨ws, r, e⟩ := h
    rcases e with ⟨_, e⟩ | ⟨_, od, e⟩ <;> (rw [e] at z; cases z)
  | dt lk kvs =>
    obtain ⟨ws, r, e⟩ := h
    rcases e with ⟨_, e⟩ | ⟨_, od, e⟩ <;> (rw [e] at z; cases z)
  | ob c fs => obtain ⟨dx, vs, e, hx, r⟩ := h; rw [e] at z; unfold SlX.SlO at z; cases z
theorem CellOk.mono {c : Cell} (h : CellOk Γ α G H a c) (hp : ∃ β, α' = α ++ β) (hs : Sub G G') (hl : c.live = true → H' a = H a ∧ (G a = none → G' a = none)) : CellOk Γ α' G' H' a c := by
  obtain ⟨o, r, h⟩ := h
  refine ⟨o, r.mono hp hs, ?_⟩
  rcases h with ⟨l, h1, h2⟩ | ⟨l, h1⟩
  · exact .inl ⟨l, by rw [(hl l).1]; exact h1, (hl l).2 h2⟩
  · exact .inr ⟨l, hs _ _ h1⟩
theorem CellOk.ntup {c : Cell} (h : CellOk Γ α G H a c) (hs : Sub G H) : ∀ xs, H a ≠ some (.tup xs) := by
  intro xs z
  obtain ⟨o, r, h⟩ := h
  rcases h with ⟨_, h1, _⟩ | ⟨_, h1⟩
  · rw [h1] at z; exact r.ntup xs (Option.some.inj z)
  · rw [hs _ _ h1] at z; exact r.ntup xs (Option.some.inj z)
theorem CellOk.lst {ds : List D} (h : CellOk Γ α G H a (.lst ds)) : ∃ vs, H a = some (.lst vs) ∧ RepL Γ α G ds vs ∧ G a = none := by
  obtain ⟨o, ⟨vs, e, r⟩, h⟩ := h
  subst e
  rcases h with ⟨_, h1, h2⟩ | ⟨l, _⟩
  · exact ⟨vs, h1, r, h2⟩
  · cases l
theorem CellOk.frz {ds : List D} (h : CellOk Γ α G H a (.frz ds)) : ∃ vs, G a = some (.lst vs) ∧ RepL Γ α G ds vs := by
  obtain ⟨o, ⟨vs, e, r⟩, h⟩ := h
  subst e
  rcases h with ⟨l, _⟩ | ⟨_, h1⟩
  · cases l
  · exact ⟨vs, h1, r⟩
theorem CellOk.mkL {ds : List D} {vs : List V} (h1 : H a = some (.lst vs)) (r : RepL Γ α G ds vs) (h2 : G a = none) : CellOk Γ α G H a (.lst ds) := ⟨_, ⟨vs, rfl, r⟩, .inl ⟨rfl, h1, h2⟩⟩
theorem CellOk.mkF {ds : List D} {vs : List V} (h1 : G a = some (.lst vs)) (r : RepL Γ α G ds vs) : CellOk Γ α G H a (.frz ds) := ⟨_, ⟨vs, rfl, r⟩, .inr ⟨rfl, h1⟩⟩
end
/-- the state: the cells S lie at α, the data that change no more in G, both in H -/
structure Rl (Γ : Gm) (α : List Addr) (G : Hp) (S : Store) (H : Hp) : Prop where
  sub : Sub G H
  len : α.length = S.length
  nd : α.Nodup
  tr : ∀ a ∈ α, H a ≠ none
  ok : ∀ (k : Nat) (c : Cell) (a : Addr), S[k]? = some c → α[k]? = some a → CellOk Γ α G H a c
/-- from one state to a later one -/
structure Ext (α : List Addr) (G H : Hp) (α' : List Addr) (G' H' : Hp) : Prop where
  pre : ∃ β, α' = α ++ β
  sub : Sub G G'
  fr : ∀ a o, H a = some o → a ∉ α → H' a = some o
  na : ∀ a ∈ α', a ∈ α ∨ H a = none
  ng : ∀ a, G' a ≠ none → G a ≠ none ∨ a ∈ α ∨ H a = none ∨ ∃ xs, H a = some (.tup xs)
theorem Ext.refl (α : List Addr) (G H : Hp) : Ext α G H α G H := ⟨⟨[], by simp⟩, Sub.refl G, fun _ _ h _ => h, fun _ h => .inl h, fun _ h => .inl h⟩
theorem Ext.back {α α' : List Addr} {G H G' H' : Hp} (e : Ext α G H α' G' H') {a : Addr} (h : H' a = none) : a ∈ α ∨ H a = none := by
  by_cases m : a ∈ α
  · exact .inl m
  · cases q : H a with
    | none => exact .inr rfl
    | some o => rw [e.fr a o q m] at h; cases h
theorem Ext.mem {α α' : List Addr} {G H G' H' : Hp} (e : Ext α G H α' G' H') {a : Addr} (h : a ∈ α) : a ∈ α' := by
  obtain ⟨β, rfl⟩ := e.pre
  exact List.mem_append_left _ h
theorem Ext.trans {α α1 α2 : List Addr} {G H G1 H1 G2 H2 : Hp} (a : Ext α G H α1 G1 H1) (b : Ext α1 G1 H1 α2 G2 H2) : Ext α G H α2 G2 H2 := by
  refine ⟨?_, a.sub.trans b.sub, fun x o h m => ?_, fun x m => ?_, fun x h => ?_⟩
  · obtain ⟨β, rfl⟩ := a.pre
    obtain ⟨γ, rfl⟩ := b.pre
    exact ⟨β ++ γ, by simp⟩
  · refine b.fr x o (a.fr x o h m) fun m1 => ?_
    rcases a.na x m1 with z | z
    · exact m z
    · rw [z] at h; cases h
  · rcases b.na x m with z | z
    · exact a.na x z
    · exact a.back z
  · rcases b.ng x h with z | z | z | ⟨xs, z⟩
    · exact a.ng x z
    · rcases a.na x z with z | z
      · exact .inr (.inl z)
      · exact .inr (.inr (.inl z))
    · rcases a.back z with z | z
      · exact .inr (.inl z)
      · exact .inr (.inr (.inl z))
    · by_cases m : x ∈ α
      · exact .inr (.inl m)
      · cases q : H x with
        | none => exact .inr (.inr (.inl rfl))
        | some o =>
          have q2 := a.fr x o q m
          rw [z] at q2
          cases q2
          exact .inr (.inr (.inr ⟨xs, rfl⟩))
/-- how an exception in flight lies: its class, its dict -/
def ExR (Γ : Gm) (α : List Addr) (G : Hp) (e : Exn) (c : Value) (x : Option Addr) (H : Hp) : Prop := c = .ref (Γ.cl e.cls) ∧ ∃ vs, RepL Γ α G e.fs vs ∧ ExF G x vs
section
variable (Γ : Gm)
/-- what is wanted, by the result of the function of data -/
def Post {β γ : Type} (R : List Addr → Hp → β → γ → Prop) (α : List Addr) (G H : Hp) (r : Res β) (Q : γ → Hp → Prop) (E : XK) : Prop := match r with
  | .ok d S' => ∀ α' G' H' v, Ext α G H α' G' H' → Rl Γ α' G' S' H' → R α' G' d v → Q v H'
  | .ex e S' => ∀ α' G' H' c x, Ext α G H α' G' H' → Rl Γ α' G' S' H' → ExR Γ α' G' e c x H' → E c x H'
  | .no => False
end
section
variable {Γ : Gm} {β γ δ ε : Type} {R : List Addr → Hp → β → γ → Prop} {R' : List Addr → Hp → δ → ε → Prop} {α α1 : List Addr} {G H G1 H1 : Hp} {Q : γ → Hp → Prop} {Q' : ε → Hp → Prop} {E : XK}
theorem Post.mono {r : Res β} (h : Post Γ R α G H r Q E) (e : Ext α G H α1 G1 H1) : Post Γ R α1 G1 H1 r Q E := by
  cases r with
  | ok d S' => exact fun α' G' H' v x rl rp => h α' G' H' v (e.trans x) rl rp
  | ex d S' => exact fun α' G' H' c x y rl rp => h α' G' H' c x (e.trans y) rl rp
  | no => exact h
theorem post_bind {r : Res β} {f : β → Store → Res δ} (h : Post Γ R' α G H (r.bind f) Q' E)
    (k : ∀ a S1 α1 G1 H1 x, r = .ok a S1 → Ext α G H α1 G1 H1 → Rl Γ α1 G1 S1 H1 → R α1 G1 a x → Post Γ R' α1 G1 H1 (f a S1) Q' E → Q x H1) : Post Γ R α G H r Q E := by
  cases r with
  | ok d S' =>
    intro α' G' H' v e rl rp
    exact k d S' α' G' H' v rfl e rl rp (Post.mono h e)
  | ex e S' => exact h
  | no => exact h
theorem post_ok {a : β} {S : Store} {x : γ} (h : Post Γ R α G H (.ok a S) Q E) (rl : Rl Γ α G S H) (rp : R α G a x) : Q x H := h α G H x (Ext.refl α G H) rl rp
end
def EnvR (Γ : Gm) (α : List Addr) (G : Hp) (ρ : Env) (σ : L2.St) : Prop := ρ.length = σ.length ∧ ∀ (i : Nat) d, ρ[i]? = some (some d) → ∃ v, σ[i]? = some (some v) ∧ Rep Γ α G d v
theorem EnvR.mono {Γ : Gm} {α α' : List Addr} {G H G' H' : Hp} {ρ : Env} {σ : L2.St} (h : EnvR Γ α G ρ σ) (e : Ext α G H α' G' H') : EnvR Γ α' G' ρ σ :=
  ⟨h.1, fun i d hi => let ⟨v, a, b⟩ := h.2 i d hi; ⟨v, a, Rep.mono e.pre e.sub _ _ b⟩⟩
theorem EnvR.set {Γ : Gm} {α : List Addr} {G : Hp} {ρ : Env} {σ : L2.St} (h : EnvR Γ α G ρ σ) (i : Nat) {d : D} {v : V} (r : Rep Γ α G d v) : EnvR Γ α G (ρ.set i (some d)) (σ.set i (some v)) := by
  refine ⟨by simp [h.1], fun j e hj => ?_⟩
  by_cases hij : i = j
  · subst hij
    have hl : i < ρ.length := by
      have := (List.getElem?_eq_some_iff.mp hj).1
      simpa using this
    rw [List.getElem?_set_self hl] at hj
    cases hj
    exact ⟨v, List.getElem?_set_self (by rw [← h.1]; exact hl), r⟩
  · rw [List.getElem?_set_ne hij] at hj
    obtain ⟨w, h1, h2⟩ := h.2 j e hj
    exact ⟨w, by rw [List.getElem?_set_ne hij]; exact h1, h2⟩
abbrev ME := Env → Store → Res D
abbrev MT := Env → Store → Res Bool
abbrev MA := Env → Store → Res (List D)
inductive Fl where
  | nx (ρ : Env) | rt (d : D) | bk (ρ : Env) | ct (ρ : Env)
abbrev MS := Env → Store → Res Fl
def RB : List Addr → Hp → Bool → Bool → Prop := fun _ _ a b => a = b
section
variable (Γ : Gm) (E : XK)
def SndE (t : TE) (m : ME) : Prop := ∀ (ρ : Env) (S : Store) (σ : L2.St) (α : List Addr) (G H : Hp) (Q : VK), EnvR Γ α G ρ σ → Rl Γ α G S H → Post Γ (Rep Γ) α G H (m ρ S) Q E → t σ H Q
def SndT (t : TT) (m : MT) : Prop := ∀ (ρ : Env) (S : Store) (σ : L2.St) (α : List Addr) (G H : Hp) (Q : Bool → Hp → Prop), EnvR Γ α G ρ σ → Rl Γ α G S H → Post Γ RB α G H (m ρ S) Q E → t σ H Q
def SndA (t : TA) (m : MA) : Prop := ∀ (ρ : Env) (S : Store) (σ : L2.St) (α : List Addr) (G H : Hp) (Q : List V → Hp → Prop), EnvR Γ α G ρ σ → Rl Γ α G S H → Post Γ (RepL Γ) α G H (m ρ S) Q E → t σ H Q
def PostS (α : List Addr) (G H : Hp) (r : Res Fl) (Dn : Ends) : Prop := match r with
  | .ok (.nx ρ) S' => ∀ α' G' H' σ', Ext α G H α' G' H' → Rl Γ α' G' S' H' → EnvR Γ α' G' ρ σ' → Dn.nx σ' H'
  | .ok (.rt d) S' => ∀ α' G' H' v, Ext α G H α' G' H' → Rl Γ α' G' S' H' → Rep Γ α' G' d v → Dn.rt v H'
  | .ok (.bk ρ) S' => ∀ α' G' H' σ', Ext α G H α' G' H' → Rl Γ α' G' S' H' → EnvR Γ α' G' ρ σ' → Dn.bk σ' H'
  | .ok (.ct ρ) S' => ∀ α' G' H' σ', Ext α G H α' G' H' → Rl Γ α' G' S' H' → EnvR Γ α' G' ρ σ' → Dn.ct σ' H'
  | .ex e S' => ∀ α' G' H' c x, Ext α G H α' G' H' → Rl Γ α' G' S' H' → ExR Γ α' G' e c x H' → E c x H'
  | .no => False
def SndS (t : TS) (m : MS) : Prop := ∀ (ρ : Env) (S : Store) (σ : L2.St) (α : List Addr) (G H : Hp) (Dn : Ends), EnvR Γ α G ρ σ → Rl Γ α G S H → PostS Γ E α G H (m ρ S) Dn → t Dn σ H
end
theorem PostS.mono {Γ : Gm} {E : XK} {α α1 : List Addr} {G H G1 H1 : Hp} {r : Res Fl} {Dn : Ends} (h : PostS Γ E α G H r Dn) (e : Ext α G H α1 G1 H1) : PostS Γ E α1 G1 H1 r Dn := by
  cases r with
  | ok f S' => cases f <;> exact fun α' G' H' v x rl rp => h α' G' H' v (e.trans x) rl rp
  | ex d S' => exact fun α' G' H' c x y rl rp => h α' G' H' c x (e.trans y) rl rp
  | no => exact h
/-- behind an expression within a statement -/
theorem posts_bind {Γ : Gm} {E : XK} {β γ : Type} {R : List Addr → Hp → β → γ → Prop} {α : List Addr} {G H : Hp} {r : Res β} {f : β → Store → Res Fl} {Dn : Ends} {Q : γ → Hp → Prop} (h : PostS Γ E α G H (r.bind f) Dn)
    (k : ∀ a S1 α1 G1 H1 x, r = .ok a S1 → Ext α G H α1 G1 H1 → Rl Γ α1 G1 S1 H1 → R α1 G1 a x → PostS Γ E α1 G1 H1 (f a S1) Dn → Q x H1) : Post Γ R α G H r Q E := by
  cases r with
  | ok d S' =>
    intro α' G' H' v e rl rp
    exact k d S' α' G' H' v rfl e rl rp (PostS.mono h e)
  | ex e S' => exact h
  | no => exact h
structure QE (X : Cx) (cl : Nat → Addr) (E : XK) (e : Expr) (m : ME) : Prop where
  ex : ∃ t, PE X e t ∧ SndE ⟨X.K, cl⟩ E t m
structure QT (X : Cx) (cl : Nat → Addr) (E : XK) (e : Expr) (m : MT) : Prop where
  ex : ∃ t, PT X e t ∧ SndT ⟨X.K, cl⟩ E t m
structure QW (X : Cx) (cl : Nat → Addr) (E : XK) (e : Expr) (m : MT) : Prop where
  ex : ∃ t, PW X e t ∧ SndT ⟨X.K, cl⟩ E t m
structure QA (X : Cx) (cl : Nat → Addr) (E : XK) (es : List Expr) (m : MA) : Prop where
  ex : ∃ t, PA X es t ∧ SndA ⟨X.K, cl⟩ E t m
structure QS (X : Cx) (cl : Nat → Addr) (E : XK) (st : Stmt) (m : MS) : Prop where
  ex : ∃ t, PS X st t ∧ SndS ⟨X.K, cl⟩ E t m
structure QSs (X : Cx) (cl : Nat → Addr) (E : XK) (st : List Stmt) (m : MS) : Prop where
  ex : ∃ t, PSs X st t ∧ SndS ⟨X.K, cl⟩ E t m
end Q
namespace Q
open PySem L2
theorem sub_upd {G : Hp} {p : Addr} {o : HO} (h : G p = none) : Sub G (upd G p o) := Sub.new h
theorem Sub.upd2 {G H : Hp} (s : Sub G H) (p : Addr) (o : HO) : Sub (upd G p o) (upd H p o) := fun a u e => by
  by_cases h : a = p
  · subst h; rw [upd_same] at e ⊢; exact e
  · rw [upd_ne h] at e ⊢; exact s a u e
section
variable {Γ : Gm} {α : List Addr} {G H : Hp} {S : Store}
theorem Rl.ntup (R : Rl Γ α G S H) {a : Addr} (h : a ∈ α) : ∀ xs, H a ≠ some (.tup xs) := by
  obtain ⟨k, hk⟩ := List.mem_iff_getElem?.mp h
  have hl : k < S.length := by rw [← R.len]; exact (List.getElem?_eq_some_iff.mp hk).1
  exact (R.ok k S[k] a (List.getElem?_eq_getElem hl) hk).ntup R.sub
theorem Rl.gnone (R : Rl Γ α G S H) {p : Addr} (h : H p = none) : G p = none := R.sub.none h
theorem Rl.get (R : Rl Γ α G S H) {k : Nat} {c : Cell} (h : S[k]? = some c) : ∃ a, α[k]? = some a ∧ a ∈ α ∧ CellOk Γ α G H a c := by
  have hl : k < α.length := by rw [R.len]; exact (List.getElem?_eq_some_iff.mp h).1
  exact ⟨α[k], List.getElem?_eq_getElem hl, List.getElem_mem hl, R.ok k c _ h (List.getElem?_eq_getElem hl)⟩
/-- a new object that will change no more -/
theorem Rl.new (R : Rl Γ α G S H) {p : Addr} (hp : H p = none) (o : HO) : Rl Γ α (upd G p o) S (upd H p o) ∧ Ext α G H α (upd G p o) (upd H p o) := by
  have ne : ∀ a ∈ α, a ≠ p := fun a m e => by subst e; exact R.tr a m hp
  have sg : Sub G (upd G p o) := Sub.new (R.gnone hp)
  refine ⟨⟨R.sub.upd2 p o, R.len, R.nd, fun a m => by rw [upd_ne (ne a m)]; exact R.tr a m, fun k c a hc ha => ?_⟩, ⟨⟨[], by simp⟩, sg, fun a u e _ => ?_, fun a m => .inl m, fun a h => ?_⟩⟩
  · have hm : a ∈ α := List.mem_of_getElem? ha
    exact (R.ok k c a hc ha).mono ⟨[], by simp⟩ sg fun _ => ⟨upd_ne (ne a hm), fun h3 => by rw [upd_ne (ne a hm)]; exact h3⟩
  · rw [upd_ne (ne_of_none e hp)]; exact e
  · by_cases e : a = p
    · subst e; exact .inr (.inr (.inl hp))
    · rw [upd_ne e] at h; exact .inl h
/-- a new object that no data know of (a tuple that holds classes, ..) -/
theorem Rl.out (R : Rl Γ α G S H) {p : Addr} (hp : H p = none) (o : HO) : Rl Γ α G S (upd H p o) ∧ Ext α G H α G (upd H p o) := by
  have ne : ∀ a ∈ α, a ≠ p := fun a m e => by subst e; exact R.tr a m hp
  refine ⟨⟨R.sub.trans (Sub.new hp), R.len, R.nd, fun a m => by rw [upd_ne (ne a m)]; exact R.tr a m, fun k c a hc ha => ?_⟩, ⟨⟨[], by simp⟩, Sub.refl G, fun a u e _ => ?_, fun a m => .inl m, fun a h => .inl h⟩⟩
  · have hm : a ∈ α := List.mem_of_getElem? ha
    exact (R.ok k c a hc ha).mono ⟨[], by simp⟩ (Sub.refl G) fun _ => ⟨upd_ne (ne a hm), fun h3 => h3⟩
  · rw [upd_ne (ne_of_none e hp)]; exact e
/-- a new cell -/
theorem Rl.cellC (R : Rl Γ α G S H) {p : Addr} (hp : H p = none) {c0 : Cell} {o0 : HO} (hl : c0.live = true) (r : RepC Γ α G p c0 o0) :
    Rl Γ (α ++ [p]) G (S ++ [c0]) (upd H p o0) ∧ Ext α G H (α ++ [p]) G (upd H p o0) ∧ Rep Γ (α ++ [p]) G (.ref S.length) (.ref p) := by
  have ne : ∀ a ∈ α, a ≠ p := fun a m e => by subst e; exact R.tr a m hp
  refine ⟨⟨R.sub.trans (Sub.new hp), by simp [R.len], ?_, fun a m => ?_, fun k c a hc ha => ?_⟩, ⟨⟨[p], rfl⟩, Sub.refl G, fun a u e _ => by rw [upd_ne (ne_of_none e hp)]; exact e, fun a m => ?_, fun a h => .inl h⟩, ?_⟩
  · rw [List.nodup_append]
    exact ⟨R.nd, by simp, fun a m b mb => by simp at mb; subst mb; exact ne a m⟩
  · by_cases e : a = p
    · subst e; rw [upd_same]; simp
    · rw [upd_ne e]
      rcases List.mem_append.mp m with m | m
      · exact R.tr a m
      · simp at m; exact absurd m e
  · by_cases hk : k < α.length
    · rw [List.getElem?_append_left hk] at ha
      rw [List.getElem?_append_left (by rw [← R.len]; exact hk)] at hc
      have hm : a ∈ α := List.mem_of_getElem? ha
      exact (R.ok k c a hc ha).mono ⟨[p], rfl⟩ (Sub.refl G) fun _ => ⟨upd_ne (ne a hm), fun h3 => h3⟩
    · rw [List.getElem?_append_right (by omega)] at ha
      rw [List.getElem?_append_right (by rw [← R.len]; omega)] at hc
      have e1 : k - α.length = 0 := by
        have := (List.getElem?_eq_some_iff.mp ha).1
        simp at this
        omega
      have e2 : k - S.length = 0 := by rw [← R.len]; exact e1
      rw [e1] at ha
      rw [e2] at hc
      simp at ha hc
      subst ha
      subst hc
      exact ⟨o0, r.mono ⟨[_], rfl⟩ (Sub.refl G), .inl ⟨hl, upd_same, R.gnone hp⟩⟩
  · rcases List.mem_append.mp m with m | m
    · exact .inl m
    · simp at m; subst m; exact .inr hp
  · unfold Rep
    exact ⟨p, rfl, by rw [← R.len]; simp⟩
theorem Rl.cell (R : Rl Γ α G S H) {p : Addr} (hp : H p = none) {ds : List D} {vs : List V} (r : RepL Γ α G ds vs) :
    Rl Γ (α ++ [p]) G (S ++ [.lst ds]) (upd H p (.lst vs)) ∧ Ext α G H (α ++ [p]) G (upd H p (.lst vs)) ∧ Rep Γ (α ++ [p]) G (.ref S.length) (.ref p) := R.cellC hp rfl ⟨vs, rfl, r⟩
/-- a cell is changed -/
theorem Rl.putC (R : Rl Γ α G S H) {k : Nat} {a : Addr} {c0 c1 : Cell} {o1 : HO} (hk : S[k]? = some c0) (ha : α[k]? = some a) (hl : c0.live = true) (hl1 : c1.live = true) (r : RepC Γ α G a c1 o1) :
    Rl Γ α G (S.set k c1) (upd H a o1) ∧ Ext α G H α G (upd H a o1) := by
  have hm : a ∈ α := List.mem_of_getElem? ha
  have a3 : G a = none := by
    obtain ⟨o, _, h⟩ := R.ok k _ a hk ha
    rcases h with ⟨_, _, h⟩ | ⟨l, _⟩
    · exact h
    · rw [hl] at l; cases l
  refine ⟨⟨fun b o e => ?_, by simp [R.len], R.nd, fun b m => ?_, fun j c b hc hb => ?_⟩, ⟨⟨[], by simp⟩, Sub.refl G, fun b u e nb => ?_, fun b m => .inl m, fun b h => .inl h⟩⟩
  · have hb : b ≠ a := fun z => by subst z; rw [a3] at e; cases e
    rw [upd_ne hb]
    exact R.sub b o e
  · by_cases e : b = a
    · subst e; rw [upd_same]; simp
    · rw [upd_ne e]; exact R.tr b m
  · by_cases hjk : k = j
    · subst hjk
      rw [List.getElem?_set_self (List.getElem?_eq_some_iff.mp hk).1] at hc
      rw [ha] at hb
      cases hb
      cases hc
      exact ⟨o1, r, .inl ⟨hl1, upd_same, a3⟩⟩
    · rw [List.getElem?_set_ne hjk] at hc
      have hb' : b ≠ a := fun z => by
        subst z
        obtain ⟨h1, e1⟩ := List.getElem?_eq_some_iff.mp ha
        obtain ⟨h2, e2⟩ := List.getElem?_eq_some_iff.mp hb
        exact hjk ((List.getElem_inj R.nd).mp (e1.trans e2.symm))
      exact (R.ok j c b hc hb).mono ⟨[], by simp⟩ (Sub.refl G) fun _ => ⟨upd_ne hb', fun h3 => h3⟩
  · have hb : b ≠ a := fun z => by subst z; exact nb hm
    rw [upd_ne hb]
    exact e
theorem Rl.put (R : Rl Γ α G S H) {k : Nat} {a : Addr} {ds es : List D} {ws : List V} (hk : S[k]? = some (.lst ds)) (ha : α[k]? = some a) (r : RepL Γ α G es ws) :
    Rl Γ α G (S.set k (.lst es)) (upd H a (.lst ws)) ∧ Ext α G H α G (upd H a (.lst ws)) := R.putC hk ha rfl rfl ⟨ws, rfl, r⟩
/-- a cell changes no more -/
theorem Rl.freeze (R : Rl Γ α G S H) {k : Nat} {a : Addr} {ds : List D} (hk : S[k]? = some (.lst ds)) (ha : α[k]? = some a) :
    ∃ vs, RepL Γ α G ds vs ∧ Rl Γ α (upd G a (.lst vs)) (S.set k (.frz ds)) H ∧ Ext α G H α (upd G a (.lst vs)) H := by
  have hm : a ∈ α := List.mem_of_getElem? ha
  obtain ⟨vs, a1, a2, a3⟩ := (R.ok k _ a hk ha).lst
  have sg : Sub G (upd G a (.lst vs)) := Sub.new a3
  refine ⟨vs, a2, ⟨fun b o e => ?_, by simp [R.len], R.nd, R.tr, fun j c b hc hb => ?_⟩, ⟨⟨[], by simp⟩, sg, fun b u e _ => e, fun b m => .inl m, fun b h => ?_⟩⟩
  · by_cases e' : b = a
    · subst e'; rw [upd_same] at e; cases e; exact a1
    · rw [upd_ne e'] at e; exact R.sub b o e
  · by_cases hjk : k = j
    · subst hjk
      rw [List.getElem?_set_self (List.getElem?_eq_some_iff.mp hk).1] at hc
      rw [ha] at hb
      cases hb
      cases hc
      exact .mkF upd_same (RepL.mono ⟨[], by simp⟩ sg _ _ a2)
    · rw [List.getElem?_set_ne hjk] at hc
      have hb' : b ≠ a := fun z => by
        subst z
        obtain ⟨h1, e1⟩ := List.getElem?_eq_some_iff.mp ha
        obtain ⟨h2, e2⟩ := List.getElem?_eq_some_iff.mp hb
        exact hjk ((List.getElem_inj R.nd).mp (e1.trans e2.symm))
      exact (R.ok j c b hc hb).mono ⟨[], by simp⟩ sg fun _ => ⟨rfl, fun h3 => by rw [upd_ne hb']; exact h3⟩
  · by_cases e : b = a
    · subst e; exact .inr (.inl hm)
    · rw [upd_ne e] at h; exact .inl h
end
def lstOf (S : Store) : D → Option (List D)
  | .lst xs => some xs
  | .ref k => match S[k]? with
    | some (.lst xs) => some xs
    | some (.frz xs) => some xs
    | _ => none
  | _ => none
/-- a list, also one that is locked or written -/
def rdL (S : Store) : D → Option (List D)
  | .fro xs => some xs
  | d => lstOf S d
section
variable {Γ : Gm} {α : List Addr} {G H : Hp} {S : Store}
theorem lstOf_at (R : Rl Γ α G S H) {d : D} {v : V} {xs : List D} (r : Rep Γ α G d v) (h : lstOf S d = some xs) : ∃ a vs, v = .ref a ∧ H a = some (.lst vs) ∧ RepL Γ α G xs vs := by
  cases d with
  | lst ys =>
    have e : ys = xs := Option.some.inj h
    subst e
    unfold Rep at r
    obtain ⟨a, vs, e, q, r⟩ := r
    exact ⟨a, vs, e, R.sub _ _ q, r⟩
  | ref k =>
    unfold Rep at r
    obtain ⟨a, e, ha⟩ := r
    unfold lstOf at h
    cases hc : S[k]? with
    | none => simp [hc] at h
    | some c =>
      have z := R.ok k c a hc ha
      cases c with
      | lst ys =>
        simp [hc] at h
        subst h
        obtain ⟨vs, h1, h2, h3⟩ := z.lst
        exact ⟨a, vs, e, h1, h2⟩
      | frz ys =>
        simp [hc] at h
        subst h
        obtain ⟨vs, h1, h2⟩ := z.frz
        exact ⟨a, vs, e, R.sub _ _ h1, h2⟩
      | _ => simp [hc] at h
  | _ => simp [lstOf] at h
theorem rdL_at (R : Rl Γ α G S H) {d : D} {v : V} {xs : List D} (r : Rep Γ α G d v) (h : rdL S d = some xs) : ∃ a vs, v = .ref a ∧ SqL Γ.K H a vs ∧ RepL Γ α G xs vs := by
  have go : lstOf S d = some xs → ∃ a vs, v = .ref a ∧ SqL Γ.K H a vs ∧ RepL Γ α G xs vs := fun h => by
    obtain ⟨a, vs, e, q, r⟩ := lstOf_at R r h
    exact ⟨a, vs, e, .inl (.inl q), r⟩
  cases d with
  | fro ys =>
    have e : ys = xs := Option.some.inj h
    subst e
    unfold Rep at r
    obtain ⟨a, vs, e, q, r⟩ := r
    exact ⟨a, vs, e, R.sub.sqL q, r⟩
  | _ => exact go h
theorem tup_at (R : Rl Γ α G S H) {v : V} {xs : List D} (r : Rep Γ α G (.tup xs) v) : ∃ a vs, v = .ref a ∧ SqT Γ.K H a vs ∧ RepL Γ α G xs vs := by
  unfold Rep at r
  obtain ⟨a, vs, e, q, r⟩ := r
  exact ⟨a, vs, e, .inl (.inl (R.sub _ _ q)), r⟩
/-- .. and it is told to stand there -/
theorem tup_at2 (R : Rl Γ α G S H) {v : V} {xs : List D} (r : Rep Γ α G (.tup xs) v) : ∃ a vs, v = .ref a ∧ G a = some (.tup vs) ∧ H a = some (.tup vs) ∧ RepL Γ α G xs vs := by
  unfold Rep at r
  obtain ⟨a, vs, e, q, r⟩ := r
  exact ⟨a, vs, e, q, R.sub _ _ q, r⟩
theorem sz {n : Nat} (h : n ≤ 100000) : n ≤ sizeLine := Nat.le_trans h (by decide)
theorem rep_lst {p : Addr} {xs : List D} {vs : List V} (h : G p = some (.lst vs)) (r : RepL Γ α G xs vs) : Rep Γ α G (.lst xs) (.ref p) := by unfold Rep; exact ⟨p, vs, rfl, h, r⟩
theorem rep_tup {p : Addr} {xs : List D} {vs : List V} (h : G p = some (.tup vs)) (r : RepL Γ α G xs vs) : Rep Γ α G (.tup xs) (.ref p) := by unfold Rep; exact ⟨p, vs, rfl, h, r⟩
/-- a new list that will change no more is handed on -/
theorem post_lst {Q : VK} {E : XK} {xs : List D} {vs : List V} (R : Rl Γ α G S H) (r : RepL Γ α G xs vs) (h : Post Γ (Rep Γ) α G H (.ok (.lst xs) S) Q E) {p : Addr} (hp : H p = none) : Q (.ref p) (upd H p (.lst vs)) := by
  obtain ⟨R', e⟩ := R.new hp (.lst vs)
  exact h _ _ _ _ e R' (rep_lst upd_same (RepL.mono e.pre e.sub _ _ r))
theorem post_tup {Q : VK} {E : XK} {xs : List D} {vs : List V} (R : Rl Γ α G S H) (r : RepL Γ α G xs vs) (h : Post Γ (Rep Γ) α G H (.ok (.tup xs) S) Q E) {p : Addr} (hp : H p = none) : Q (.ref p) (upd H p (.tup vs)) := by
  obtain ⟨R', e⟩ := R.new hp (.tup vs)
  exact h _ _ _ _ e R' (rep_tup upd_same (RepL.mono e.pre e.sub _ _ r))
theorem post_cell {Q : VK} {E : XK} {xs : List D} {vs : List V} (R : Rl Γ α G S H) (r : RepL Γ α G xs vs) (h : Post Γ (Rep Γ) α G H (.ok (.ref S.length) (S ++ [.lst xs])) Q E) {p : Addr} (hp : H p = none) : Q (.ref p) (upd H p (.lst vs)) := by
  obtain ⟨R', e, r'⟩ := R.cell hp r
  exact h _ _ _ _ e R' r'
end
end Q
namespace Q
open PySem L2
def mVar (i : Nat) : ME := fun ρ S => match ρ[i]? with
  | some (some d) => .ok d S
  | _ => .no
def mC (d : D) : ME := fun _ S => .ok d S
section
variable {X : Cx} {cl : Nat → Addr} {E : XK} {a b c e : Expr} {ma mb mc m : ME} {pos : Pos}
theorem snd_var {Γ : Gm} (i : Nat) : SndE Γ E (tVar i) (mVar i) := fun ρ S σ α G H Q hρ hR h => by
  unfold mVar at h
  cases q : ρ[i]? with
  | none => simp [q, Post] at h
  | some o =>
    cases o with
    | none => simp [q, Post] at h
    | some d =>
      simp only [q] at h
      obtain ⟨v, hv, r⟩ := hρ.2 i d q
      exact ⟨v, hv, post_ok h hR r⟩
theorem snd_c {Γ : Gm} {v : V} {d : D} (hr : ∀ α G, Rep Γ α G d v) : SndE Γ E (tC v) (mC d) := fun ρ S σ α G H Q hρ hR h => post_ok h hR (hr _ _)
theorem q_var (i : Nat) {x : Str} {pos : Pos} (hN : X.N[i]? = some x := by rfl) (hv : Vis X.env.scope x := by first | exact Or.inl rfl | exact Or.inr (Or.inl rfl) | exact Or.inr (Or.inr rfl)) (hd : (x == ("__debug__" : Str)) = false := by decide)
    (hcd : (x == ("__classdict__" : Str)) = false := by decide) : QE X cl E (.Name x pos) (mVar i) := ⟨_, pe_var hN hv hd hcd, snd_var i⟩
theorem q_int {i j pos} : QE X cl E (.Constant (.int i) j pos) (mC (.int i)) := ⟨_, pe_int, snd_c fun _ _ => by simp [Rep]⟩
theorem q_bl {i j pos} : QE X cl E (.Constant (.bool i) j pos) (mC (.bl i)) := ⟨_, pe_bl, snd_c fun _ _ => by simp [Rep]⟩
theorem q_non {j pos} : QE X cl E (.Constant .none j pos) (mC .non) := ⟨_, pe_non, snd_c fun _ _ => by simp [Rep]⟩
theorem q_str {i j pos} : QE X cl E (.Constant (.str i) j pos) (mC (.str i)) := ⟨_, pe_str, snd_c fun _ _ => by simp [Rep]⟩
theorem q_globI {x : Str} {i : Int} {t : Tok} {pos : Pos} (hg : Gl X x) (hm : X.mg x = some (.int i t)) (hd : (x == ("__debug__" : Str)) = false := by decide) : QE X cl E (.Name x pos) (mC (.int i)) :=
  ⟨_, pe_glob (v := .int i) hg hm ⟨_, rfl⟩ hd, snd_c fun _ _ => by simp [Rep]⟩
def SndR (Γ : Gm) (E : XK) (r : R2) (f : D → D → Store → Res D) : Prop := ∀ (a b : D) (S : Store) (α : List Addr) (G H : Hp) (x y : V) (Q : VK), Rl Γ α G S H → Rep Γ α G a x → Rep Γ α G b y → Post Γ (Rep Γ) α G H (f a b S) Q E → r x y H Q
structure QR (X : Cx) (cl : Nat → Addr) (E : XK) (op : Value → Value → Sem Value) (f : D → D → Store → Res D) : Prop where
  ex : ∃ r, OpR X op r ∧ SndR ⟨X.K, cl⟩ E r f
def mOp (f : D → D → Store → Res D) (ma mb : ME) : ME := fun ρ S => (ma ρ S).bind fun x S1 => (mb ρ S1).bind fun y S2 => f x y S2
theorem snd_op {Γ : Gm} {r : R2} {f : D → D → Store → Res D} {ta tb : TE} (hr : SndR Γ E r f) (ha : SndE Γ E ta ma) (hb : SndE Γ E tb mb) : SndE Γ E (tOp r ta tb) (mOp f ma mb) := fun ρ S σ α G H Q hρ hR h =>
  ha ρ S σ α G H _ hρ hR (post_bind h fun x S1 α1 G1 H1 v _ e1 R1 r1 h1 =>
    hb ρ S1 σ α1 G1 H1 _ (hρ.mono e1) R1 (post_bind h1 fun y S2 α2 G2 H2 w _ e2 R2 r2 h2 =>
      hr x y S2 α2 G2 H2 v w Q R2 (Rep.mono e2.pre e2.sub _ _ r1) r2 h2))
theorem q_op {op : Operator} {f : D → D → Store → Res D} (ho : QR X cl E (binaryOp op) f) (ha : QE X cl E a ma) (hb : QE X cl E b mb) : QE X cl E (.BinOp a op b pos) (mOp f ma mb) := by
  obtain ⟨r, h1, h2⟩ := ho.ex
  obtain ⟨ta, a1, a2⟩ := ha.ex
  obtain ⟨tb, b1, b2⟩ := hb.ex
  exact ⟨_, pe_op h1 a1 b1, snd_op h2 a2 b2⟩
theorem q_cmp {op : CmpOp} {f : D → D → Store → Res D} (ho : QR X cl E (compareOp op) f) (ha : QE X cl E a ma) (hb : QE X cl E b mb) (hm : behindInMarks op b = false := by first | rfl | exact nomark _) : QE X cl E (.Compare a [op] [b] pos) (mOp f ma mb) := by
  obtain ⟨r, h1, h2⟩ := ho.ex
  obtain ⟨ta, a1, a2⟩ := ha.ex
  obtain ⟨tb, b1, b2⟩ := hb.ex
  exact ⟨_, pe_cmpR h1 a1 b1 hm, snd_op h2 a2 b2⟩
theorem OpR.or {f : Value → Value → Sem Value} {r r' : R2} (h : OpR X f r) (h' : OpR X f r') : OpR X f (fun x y H Q => r x y H Q ∨ r' x y H Q) := fun pins s σ H x y v u Q I rx ry q => by
  rcases q with q | q
  · exact h pins s σ H x y v u Q I rx ry q
  · exact h' pins s σ H x y v u Q I rx ry q
def Res.orE {β : Type} (r s : Res β) : Res β := match r with
  | .no => s
  | r => r
@[simp] theorem orE_ok {β : Type} (a : β) (S : Store) (s : Res β) : (Res.ok a S).orE s = .ok a S := rfl
@[simp] theorem orE_no {β : Type} (s : Res β) : (Res.no : Res β).orE s = s := rfl
theorem QR.or {op : Value → Value → Sem Value} {f g : D → D → Store → Res D} (h : QR X cl E op f) (h' : QR X cl E op g) : QR X cl E op (fun a b S => (f a b S).orE (g a b S)) := by
  obtain ⟨r, h1, h2⟩ := h.ex
  obtain ⟨r', h1', h2'⟩ := h'.ex
  refine ⟨_, h1.or h1', fun a b S α G H x y Q hR ra rb hp => ?_⟩
  simp only at hp
  cases q : f a b S with
  | no =>
    rw [q] at hp
    exact .inr (h2' a b S α G H x y Q hR ra rb hp)
  | ok d S' =>
    rw [q] at hp
    exact .inl (h2 a b S α G H x y Q hR ra rb (by rw [q]; exact hp))
  | ex d S' =>
    rw [q] at hp
    exact .inl (h2 a b S α G H x y Q hR ra rb (by rw [q]; exact hp))
/-- two ints -/
def fI (C : Int → Int → Bool) (g : Int → Int → D) : D → D → Store → Res D := fun a b S => match a, b with
  | .int i, .int j => if C i j = true then .ok (g i j) S else .no
  | _, _ => .no
def fI0 (g : Int → Int → D) : D → D → Store → Res D := fun a b S => match a, b with
  | .int i, .int j => .ok (g i j) S
  | _, _ => .no
theorem snd_I {Γ : Gm} {C : Int → Int → Prop} {C' : Int → Int → Bool} {g : Int → Int → V} {g' : Int → Int → D} (hc : ∀ i j, C' i j = true → C i j) (hg : ∀ α G i j, Rep Γ α G (g' i j) (g i j)) : SndR Γ E (rI C g) (fI C' g') := by
  intro a b S α G H x y Q hR ra rb h
  cases a <;> cases b <;> try exact h.elim
  rename_i i j
  simp only [Rep] at ra rb
  unfold fI at h
  simp only at h
  split at h
  · rename_i hh
    exact ⟨i, j, ra, rb, hc i j hh, post_ok h hR (hg _ _ _ _)⟩
  · exact h.elim
theorem snd_I0 {Γ : Gm} {g : Int → Int → V} {g' : Int → Int → D} (hg : ∀ α G i j, Rep Γ α G (g' i j) (g i j)) : SndR Γ E (rI0 g) (fI0 g') := by
  intro a b S α G H x y Q hR ra rb h
  cases a <;> cases b <;> try exact h.elim
  rename_i i j
  simp only [Rep] at ra rb
  exact ⟨i, j, ra, rb, post_ok (a := g' i j) h hR (hg _ _ _ _)⟩
def mulOk (i j : Int) : Bool := decide (i.natAbs < 2 ^ 64) || decide (j.natAbs < 2 ^ 64) || decide (i.natAbs.log2 + j.natAbs.log2 < 1000000)
def divOk (_ j : Int) : Bool := decide (0 < j ∧ j.natAbs.log2 < 9000)
def modOk (_ j : Int) : Bool := decide (0 < j)
def powOk (i j : Int) : Bool := decide (0 ≤ j ∧ j.natAbs ≤ 1000000 ∧ i.natAbs < 2 ^ 64)
def opAddI := fI0 fun i j => .int (i + j)
def opSubI := fI0 fun i j => .int (i - j)
def opMulI := fI mulOk fun i j => .int (i * j)
def opDivI := fI divOk fun i j => .int (i / j)
def opModI := fI modOk fun i j => .int (i % j)
def opPowI := fI powOk fun i j => .int (i ^ j.toNat)
theorem addI : QR X cl E (binaryOp .Add) opAddI := ⟨_, op_add, snd_I0 fun _ _ _ _ => by simp [Rep]⟩
theorem subI : QR X cl E (binaryOp .Sub) opSubI := ⟨_, op_sub, snd_I0 fun _ _ _ _ => by simp [Rep]⟩
theorem mulI : QR X cl E (binaryOp .Mult) opMulI := by
  refine ⟨_, OpR.or op_mul op_mulW, fun a b S α G H x y Q hR ra rb h => ?_⟩
  cases a <;> cases b <;> try exact h.elim
  rename_i i j
  simp only [Rep] at ra rb
  unfold opMulI fI at h
  simp only at h
  split at h
  · rename_i hh
    have q := post_ok (x := V.int (i * j)) h hR (by simp [Rep])
    unfold mulOk at hh
    simp only [Bool.or_eq_true, decide_eq_true_eq] at hh
    rcases hh with (hh | hh) | hh
    · exact .inl ⟨i, j, ra, rb, .inl (by omega), q⟩
    · exact .inl ⟨i, j, ra, rb, .inr (by omega), q⟩
    · exact .inr ⟨i, j, ra, rb, hh, q⟩
  · exact h.elim
theorem divI : QR X cl E (binaryOp .FloorDiv) opDivI := ⟨_, op_fdivW, snd_I (fun i j h => by simpa [divOk, CDivW] using h) fun _ _ _ _ => by simp [Rep]⟩
theorem modI : QR X cl E (binaryOp .Mod) opModI := ⟨_, op_mod, snd_I (fun i j h => by simpa [modOk] using h) fun _ _ _ _ => by simp [Rep]⟩
theorem powI : QR X cl E (binaryOp .Pow) opPowI := ⟨_, op_pow, snd_I (fun i j h => by
  have h2 : 0 ≤ j ∧ j.natAbs ≤ 1000000 ∧ i.natAbs < 2 ^ 64 := of_decide_eq_true h
  have h3 : 0 ≤ j ∧ j ≤ 1000000 ∧ i.natAbs < 2 ^ 64 := ⟨h2.1, by omega, h2.2.2⟩
  simpa [CPow] using h3) fun _ _ _ _ => by simp [Rep]⟩
def opLt := fI0 fun i j => .bl (decide (i < j))
def opLe := fI0 fun i j => .bl (decide (i ≤ j))
def opGt := fI0 fun i j => .bl (decide (j < i))
def opGe := fI0 fun i j => .bl (decide (j ≤ i))
theorem ltI : QR X cl E (compareOp .Lt) opLt := ⟨_, op_lt, snd_I0 fun _ _ _ _ => by simp [Rep]⟩
theorem leI : QR X cl E (compareOp .LtE) opLe := ⟨_, op_le, snd_I0 fun _ _ _ _ => by simp [Rep]⟩
theorem gtI : QR X cl E (compareOp .Gt) opGt := ⟨_, op_gt, snd_I0 fun _ _ _ _ => by simp [Rep]⟩
theorem geI : QR X cl E (compareOp .GtE) opGe := ⟨_, op_ge, snd_I0 fun _ _ _ _ => by simp [Rep]⟩
/-- text + text, tuple + tuple, list + list -/
def opCat : D → D → Store → Res D := fun a b S => match a, b with
  | .str s, .str t => if s.length + t.length ≤ 100000 then .ok (.str (s ++ t)) S else .no
  | .tup xs, .tup ys => if xs.length + ys.length ≤ 100000 then .ok (.tup (xs ++ ys)) S else .no
  | a, b => match lstOf S a, lstOf S b with
    | some xs, some ys => if xs.length + ys.length ≤ 100000 then .ok (.lst (xs ++ ys)) S else .no
    | _, _ => .no
theorem repL_nil {Γ : Gm} {α : List Addr} {G : Hp} {xs : List D} {vs : List V} (r : RepL Γ α G xs vs) : xs = [] ↔ vs = [] := by
  have := r.length
  constructor
  · intro h; subst h; simpa using this.symm
  · intro h; subst h; simpa using this
theorem catQ (hc : True) : QR X cl E (binaryOp .Add) opCat := by
  refine ⟨_, OpR.or op_add_str (OpR.or op_catA op_cat), fun a b S α G H x y Q hR ra rb h => ?_⟩
  have lists : (match lstOf S a, lstOf S b with
      | some xs, some ys => if xs.length + ys.length ≤ 100000 then Res.ok (.lst (xs ++ ys)) S else .no
      | _, _ => .no) = opCat a b S → rCat x y H Q := fun e => by
    rw [← e] at h
    cases h1 : lstOf S a with
    | none => simp [h1, Post] at h
    | some xs =>
      cases h2 : lstOf S b with
      | none => simp [h1, h2, Post] at h
      | some ys =>
        simp only [h1, h2] at h
        split at h
        · rename_i hs
          obtain ⟨p, vs, rfl, q1, r1⟩ := lstOf_at hR ra h1
          obtain ⟨p2, ws, rfl, q2, r2⟩ := lstOf_at hR rb h2
          exact ⟨p, p2, vs, ws, rfl, rfl, q1, q2, by rw [← r1.length, ← r2.length]; exact sz hs, fun z hz => post_lst hR (r1.append r2) h hz⟩
        · exact h.elim
  cases a <;> cases b <;> first
    | exact .inr (.inr (lists rfl))
    | skip
  · rename_i s t
    simp only [Rep] at ra rb
    simp only [opCat] at h
    split at h
    · rename_i hs
      exact .inl ⟨s, t, ra, rb, sz hs, post_ok h hR (by simp [Rep])⟩
    · exact h.elim
  · rename_i xs ys
    simp only [opCat] at h
    split at h
    · rename_i hs
      obtain ⟨p, vs, rfl, q1, r1⟩ := tup_at hR ra
      obtain ⟨p2, ws, rfl, q2, r2⟩ := tup_at hR rb
      refine .inr (.inl ⟨p, p2, vs, ws, rfl, rfl, q1, q2, by rw [← r1.length, ← r2.length]; exact sz hs, fun e => ?_, fun e e2 => ?_, fun e e2 z hz => post_tup hR (r1.append r2) h hz⟩)
      · have e' := (repL_nil r1).mpr e
        subst e'
        exact post_ok h hR rb
      · have e' := (repL_nil r2).mpr e2
        subst e'
        rw [List.append_nil] at h
        exact post_ok h hR ra
    · exact h.elim
def opAdd : D → D → Store → Res D := fun a b S => (opAddI a b S).orE (opCat a b S)
theorem addQ : QR X cl E (binaryOp .Add) opAdd := addI.or (catQ trivial)
/-- list * int -/
def opRep : D → D → Store → Res D := fun a b S => match lstOf S a, b with
  | some xs, .int k => if (-100000 ≤ k ∧ k ≤ 100000) ∧ xs.length * k.toNat ≤ 100000 then .ok (.lst (List.replicate k.toNat xs).flatten) S else .no
  | _, _ => .no
theorem RepL.flat {Γ : Gm} {α : List Addr} {G : Hp} {xs : List D} {vs : List V} (r : RepL Γ α G xs vs) : ∀ n : Nat, RepL Γ α G (List.replicate n xs).flatten (List.replicate n vs).flatten
  | 0 => by simp [RepL]
  | n + 1 => by
    simp only [List.replicate_succ, List.flatten_cons]
    exact r.append (RepL.flat r n)
theorem repQ : QR X cl E (binaryOp .Mult) opRep := by
  refine ⟨_, op_rep, fun a b S α G H x y Q hR ra rb h => ?_⟩
  unfold opRep at h
  cases h1 : lstOf S a with
  | none => simp [h1, Post] at h
  | some xs =>
    cases b <;> simp only [h1] at h <;> try exact h.elim
    rename_i k
    split at h
    · rename_i hs
      obtain ⟨p, vs, rfl, q1, r1⟩ := lstOf_at hR ra h1
      simp only [Rep] at rb
      refine ⟨p, k, vs, rfl, rb, q1, ?_, ?_, by rw [← r1.length]; exact sz hs.2, fun z hz => post_lst hR (r1.flat _) h hz⟩
      · have : (100000 : Int) < 2 ^ 63 := by decide
        omega
      · have : (100000 : Int) < 2 ^ 63 := by decide
        omega
    · exact h.elim
end
end Q
namespace L2
open PySem PySem.Spec PyProof.Rows
theorem tuple_mul_one (l : Addr) (items : Array Value) (n : Nat) (dd : Option Addr) (sl : Array (Option Value)) (x : Int) (u : Tok) (hx : x = 1) :
    Meets (Builtin.«tuple.__mul__» { pos := [.ref l, .int x u] }) fun _ R s => s.heap.get? l = some { cls := .type "tuple", dict := dd, data := .seq items n, slots := sl } ∧ R (.ok (.ret (.ref l))) s := by
  refine Meets.of_wp fun prog w A R s h => ?_
  obtain ⟨hl, h⟩ := h
  have ht : IsTup s.heap l items := ⟨_, hl, rfl, n, rfl⟩
  have hT : s.TypeIs (.ref l) "tuple" := ⟨_, hl, rfl⟩
  apply wpAny_bind (m := asIndex (.int x u))
  refine wpAny_bind (wpAny_pure (wpAny_pure ?_))
  refine wpAny_ite_false (by subst hx; decide) (wpAny_bind (tupleItemsOf_ ht ?_))
  refine wpAny_ite_true (by subst hx; simp) (wpAny_bind (wpAny_bind (wpAny_typeOf hT (wpAny_pure ?_))))
  refine wpAny_ite_true rfl (wpAny_bind (wpAny_rule ?_))
  exact wpAny_pure ⟨_, rfl, h⟩
theorem tuple_mul_none (l : Addr) (items : Array Value) (n : Nat) (dd : Option Addr) (sl : Array (Option Value)) (x : Int) (u : Tok) (hx : x ≤ 0) (hx2 : -(2 ^ 60) ≤ x) (hi : items.isEmpty = false) :
    Meets (Builtin.«tuple.__mul__» { pos := [.ref l, .int x u] }) fun _ R s => s.heap.get? l = some { cls := .type "tuple", dict := dd, data := .seq items n, slots := sl } ∧ R (.ok (.ret (.ref s.heap.objs.size))) { heap := s.heap.push { cls := .type "tuple", data := .seq #[] }, gens := s.gens, drawn := s.drawn, toks := s.toks, os := s.os } := by
  refine Meets.of_wp fun prog w A R s h => ?_
  obtain ⟨hl, h⟩ := h
  have ht : IsTup s.heap l items := ⟨_, hl, rfl, n, rfl⟩
  apply wpAny_bind (m := asIndex (.int x u))
  refine wpAny_bind (wpAny_pure (wpAny_pure ?_))
  refine wpAny_ite_false (by simp; omega) (wpAny_bind (tupleItemsOf_ ht ?_))
  have h1 : (x == 1) = false := by simp; omega
  refine wpAny_ite_false (by rw [hi, h1]; rfl) ?_
  refine wpAny_ite_true (by simp [hx]) (wpAny_bind ?_)
  refine wpAny_newObj_type ?_ (by show (0 : Nat) ≤ sizeLine; omega)
  exact wpAny_pure ⟨_, rfl, h⟩
def rRepT1 (K : PySem.W.Frag) : R2 := fun x y H Q => ∃ (l : Addr) (k : Int) (xs : List V), x = .ref l ∧ y = .int k ∧ SqT K H l xs ∧ xs ≠ [] ∧ -1000 ≤ k ∧ k ≤ 1 ∧ (k = 1 → Q (.ref l) H) ∧ (k ≤ 0 → ∀ p, H p = none → Q (.ref p) (upd H p (.tup [])))
theorem op_repT1 {X : Cx} : OpR X (binaryOp .Mult) (rRepT1 X.K) := by
  intro pins s σ H x y v u Q I rx ry h
  obtain ⟨l, k, xs, rfl, rfl, hx, hne, hk0, hk1, q1, q0⟩ := h
  cases rx
  obtain ⟨t, rfl⟩ := ry
  obtain ⟨its, r, ⟨o, ho, hc, n, hd⟩, hz⟩ := I.tuple hx
  obtain ⟨cls, dd, data, sl⟩ := o
  simp only at hc hd
  subst hc hd
  have hie : its.toArray.isEmpty = false := by
    cases its with
    | nil => cases r; exact absurd rfl hne
    | cons a b => rfl
  have go : wpAny (model X.prog X.w) X.A (call (.builtin "tuple.__mul__") [.ref l, .int k t]) (EP X pins σ Q) X.xe s := by
    by_cases h1 : k = 1
    · exact call_meets F.slot_tuple_mul ⟨_, ho, rfl⟩ F.entry_tuple_mul (F.args_tuple_mul_2 _ _) (tuple_mul_one l its.toArray n dd sl k t h1) ⟨ho, .ref l, H, I, rfl, q1 h1⟩
    · refine call_meets F.slot_tuple_mul ⟨_, ho, rfl⟩ F.entry_tuple_mul (F.args_tuple_mul_2 _ _) (tuple_mul_none l its.toArray n dd sl k t (by omega) (by omega) hie) ⟨ho, ?_⟩
      refine ⟨.ref _, upd H _ (.tup []), I.laid (fun b ob q => Heap.get?_push_of_some _ q) (Nat.le_refl _) ⟨by simp, [], .nil, ?_⟩, rfl, q0 (by omega) _ (I.hok.fresh (Nat.le_refl _))⟩
      exact IsTup.new _ _
  exact wpAny_binaryOp_repeat_ref (T := "tuple") (U := "int") (by decide) ⟨_, ho, rfl⟩ (fun s' => typeIs_int s' k t) noFill_tuple_mul F.fills_int_mul F.slot_int_rmul repeat_tuple F.slot_int_index.lookup
    (call_meets F.slot_int_rmul (typeIs_int s k t) F.entry_int_rmul (F.args_int_rmul_2 _ _) (int_rmul_tuple k t l its.toArray n dd sl) ⟨ho, rfl, ⟨_, ho, rfl⟩, go⟩)
end L2
namespace Q
open PySem L2
section
variable {X : Cx} {cl : Nat → Addr} {E : XK} {a b c e : Expr} {ma mb mc m : ME} {pos : Pos}
def opRepT : D → D → Store → Res D := fun a b S => match a, b with
  | .tup xs, .int k => if 0 < xs.length ∧ -1000 ≤ k ∧ k ≤ 1000 ∧ xs.length ≤ 1000 then .ok (.tup (List.replicate k.toNat xs).flatten) S else .no
  | _, _ => .no
theorem repTQ : QR X cl E (binaryOp .Mult) opRepT := by
  refine ⟨_, OpR.or op_repT op_repT1, fun a b S α G H x y Q hR ra rb h => ?_⟩
  cases a <;> cases b <;> try exact h.elim
  rename_i xs k
  simp only [opRepT] at h
  split at h
  · rename_i hs
    obtain ⟨p, vs, rfl, q1, r1⟩ := tup_at hR ra
    simp only [Rep] at rb
    have hne : vs ≠ [] := fun e => by
      have := (repL_nil r1).mpr e
      subst this
      simp at hs
    by_cases hk : 2 ≤ k
    · exact .inl ⟨p, k, vs, rfl, rb, q1, hne, hk, hs.2.2.1, by rw [← r1.length]; exact hs.2.2.2, fun z hz => post_tup hR (r1.flat _) h hz⟩
    · refine .inr ⟨p, k, vs, rfl, rb, q1, hne, hs.2.1, by omega, fun e => ?_, fun e z hz => ?_⟩
      · subst e
        have e2 : (List.replicate (1 : Int).toNat xs).flatten = xs := by
          show (List.replicate 1 xs).flatten = xs
          simp
        rw [e2] at h
        exact post_ok h hR ra
      · have e2 : (List.replicate k.toNat xs).flatten = [] := by
          rw [show k.toNat = 0 by omega]
          rfl
        rw [e2] at h
        exact post_tup hR (by simp [RepL]) h hz
  · exact h.elim
def opMul : D → D → Store → Res D := fun a b S => (opMulI a b S).orE ((opRep a b S).orE (opRepT a b S))
theorem mulQ : QR X cl E (binaryOp .Mult) opMul := mulI.or (repQ.or repTQ)
mutual
def deq : D → D → Bool
  | .non, .non => true
  | .bl a, .bl b => a == b
  | .bl a, .int j => (if a then 1 else 0) == j
  | .int i, .bl b => i == (if b then 1 else 0)
  | .int i, .int j => i == j
  | .str x, .str y => x == y
  | .tup xs, .tup ys => deqL xs ys
  | .lst xs, .lst ys => deqL xs ys
  | _, _ => false
def deqL : List D → List D → Bool
  | [], [] => true
  | x :: xs, y :: ys => deq x y && deqL xs ys
  | _, _ => false
end
mutual
def toPy : D → PyData
  | .non => .none
  | .bl b => .bool b
  | .int i => .int i
  | .str s => .str s
  | .tup xs => .tuple (toPyL xs)
  | .lst xs => .list (toPyL xs)
  | .fro _ | .obj _ _ | .exn _ _ | .ref _ => .none
def toPyL : List D → List PyData
  | [] => []
  | x :: xs => toPy x :: toPyL xs
end
/-- plain data, at most n levels deep -/
def shal : Nat → D → Bool
  | _, .non => true
  | _, .bl _ => true
  | _, .int _ => true
  | _, .str s => PyData.strOk s
  | n + 1, .tup xs => xs.all (shal n)
  | n + 1, .lst xs => xs.all (shal n)
  | _, _ => false
theorem toPyL_map : ∀ xs : List D, toPyL xs = xs.map toPy
  | [] => rfl
  | x :: xs => by simp [toPyL, toPyL_map xs]
theorem depthAll_le {n : Nat} : ∀ {xs : List PyData}, (∀ x ∈ xs, x.depth ≤ n) → PyData.depthAll xs ≤ n
  | [], _ => by simp [PyData.depthAll]
  | x :: xs, h => by
    simp only [PyData.depthAll]
    have h1 := h x (by simp)
    have h2 := depthAll_le (xs := xs) fun y hy => h y (by simp [hy])
    omega
theorem canLayAll {xs : List PyData} : (∀ x ∈ xs, x.canLay0 = true) → PyData.canLayAll0 xs = true := by
  induction xs with
  | nil => intro _; rfl
  | cons x xs ih =>
    intro h
    simp only [PyData.canLayAll0, Bool.and_eq_true]
    exact ⟨h x (by simp), ih fun y hy => h y (by simp [hy])⟩
theorem shal_lay : ∀ (n : Nat) (d : D), shal n d = true → (toPy d).canLay0 = true ∧ (toPy d).depth ≤ n
  | n, .non, _ => by simp [toPy, PyData.canLay0, PyData.depth]
  | n, .bl _, _ => by simp [toPy, PyData.canLay0, PyData.depth]
  | n, .int _, _ => by simp [toPy, PyData.canLay0, PyData.depth]
  | n, .str s, h => by
    have : PyData.strOk s = true := by cases n <;> simpa [shal] using h
    simp [toPy, PyData.canLay0, PyData.depth, this]
  | n + 1, .tup xs, h => by
    have h' : ∀ x ∈ xs, shal n x = true := by simpa [shal] using h
    have k : ∀ y ∈ toPyL xs, y.canLay0 = true ∧ y.depth ≤ n := fun y hy => by
      rw [toPyL_map] at hy
      obtain ⟨x, hx, rfl⟩ := List.mem_map.mp hy
      exact shal_lay n x (h' x hx)
    exact ⟨canLayAll fun y hy => (k y hy).1, by
      simp only [toPy, PyData.depth]
      have := depthAll_le fun y hy => (k y hy).2
      omega⟩
  | n + 1, .lst xs, h => by
    have h' : ∀ x ∈ xs, shal n x = true := by simpa [shal] using h
    have k : ∀ y ∈ toPyL xs, y.canLay0 = true ∧ y.depth ≤ n := fun y hy => by
      rw [toPyL_map] at hy
      obtain ⟨x, hx, rfl⟩ := List.mem_map.mp hy
      exact shal_lay n x (h' x hx)
    exact ⟨canLayAll fun y hy => (k y hy).1, by
      simp only [toPy, PyData.depth]
      have := depthAll_le fun y hy => (k y hy).2
      omega⟩
  | 0, .tup xs, h => by simp [shal] at h
  | 0, .lst xs, h => by simp [shal] at h
  | 0, .fro _, h => by simp [shal] at h
  | 0, .obj _ _, h => by simp [shal] at h
  | 0, .exn _ _, h => by simp [shal] at h
  | 0, .ref _, h => by simp [shal] at h
  | n + 1, .fro _, h => by simp [shal] at h
  | n + 1, .obj _ _, h => by simp [shal] at h
  | n + 1, .exn _ _, h => by simp [shal] at h
  | n + 1, .ref _, h => by simp [shal] at h
theorem shal_shaped {d : D} (h : shal 20 d = true) : SeqAt.shaped (toPy d) = true := by
  obtain ⟨h1, h2⟩ := shal_lay 20 d h
  unfold SeqAt.shaped
  rw [h1, decide_eq_true (by omega)]
  rfl
mutual
theorem deq_py : ∀ (n m : Nat) (a b : D), shal n a = true → shal m b = true → PyData.eqv (toPy a) (toPy b) = deq a b
  | n, m, a, b, ha, hb => by
    cases a <;> cases b <;> first
      | (simp only [toPy, deq, PyData.eqv]; done)
      | (cases n <;> simp [shal] at ha; done)
      | (cases m <;> simp [shal] at hb; done)
      | skip
    all_goals
      rename_i xs ys
      cases n with
      | zero => simp [shal] at ha
      | succ n =>
        cases m with
        | zero => simp [shal] at hb
        | succ m =>
          simp only [toPy, deq, PyData.eqv]
          exact deqL_py n m xs ys (by simpa [shal] using ha) (by simpa [shal] using hb)
theorem deqL_py : ∀ (n m : Nat) (a b : List D), (∀ x ∈ a, shal n x = true) → (∀ x ∈ b, shal m x = true) → PyData.eqvAll (toPyL a) (toPyL b) = deqL a b
  | n, m, [], [], _, _ => rfl
  | n, m, [], _ :: _, _, _ => rfl
  | n, m, _ :: _, [], _, _ => rfl
  | n, m, x :: xs, y :: ys, ha, hb => by
    simp only [toPyL, PyData.eqvAll, deqL]
    rw [deq_py n m x y (ha x (by simp)) (hb y (by simp)), deqL_py n m xs ys (fun z hz => ha z (by simp [hz])) (fun z hz => hb z (by simp [hz]))]
end
mutual
theorem rep_dp {Γ : Gm} {α : List Addr} {G H : Hp} (s : Sub G H) : ∀ (n : Nat) (d : D) (v : V), shal n d = true → Rep Γ α G d v → Dp Γ.K H v (toPy d)
  | n, .non, v, _, r => by simp only [Rep] at r; subst r; exact .non
  | n, .bl b, v, _, r => by simp only [Rep] at r; subst r; exact .bl b
  | n, .int b, v, _, r => by simp only [Rep] at r; subst r; exact .int b
  | n, .str b, v, _, r => by simp only [Rep] at r; subst r; exact .str b
  | n + 1, .tup xs, v, h, r => by
    unfold Rep at r
    obtain ⟨a, vs, rfl, q, r⟩ := r
    exact .tup (.inl (.inl (s _ _ q))) (repL_dp s n xs vs (by simpa [shal] using h) r)
  | n + 1, .lst xs, v, h, r => by
    unfold Rep at r
    obtain ⟨a, vs, rfl, q, r⟩ := r
    exact .lst (.inl (.inl (s _ _ q))) (repL_dp s n xs vs (by simpa [shal] using h) r)
  | 0, .tup xs, v, h, _ => by simp [shal] at h
  | 0, .lst xs, v, h, _ => by simp [shal] at h
  | n, .fro _, v, h, _ => by cases n <;> simp [shal] at h
  | n, .obj _ _, v, h, _ => by cases n <;> simp [shal] at h
  | n, .exn _ _, v, h, _ => by cases n <;> simp [shal] at h
  | n, .ref _, v, h, _ => by cases n <;> simp [shal] at h
theorem repL_dp {Γ : Gm} {α : List Addr} {G H : Hp} (s : Sub G H) : ∀ (n : Nat) (ds : List D) (vs : List V), (∀ x ∈ ds, shal n x = true) → RepL Γ α G ds vs → DpAll Γ.K H vs (toPyL ds)
  | n, [], vs, _, r => by unfold RepL at r; subst r; exact .nil
  | n, d :: ds, vs, h, r => by
    unfold RepL at r
    obtain ⟨v, w, rfl, h1, h2⟩ := r
    exact .cons (rep_dp s n d v (h d (by simp)) h1) (repL_dp s n ds w (fun z hz => h z (by simp [hz])) h2)
end
/-- what a name of a cell stands for -/
def deref (S : Store) (d : D) : D := match d with
  | .ref k => match S[k]? with
    | some (.lst xs) => .lst xs
    | some (.frz xs) => .lst xs
    | _ => d
  | d => d
theorem deref_dp {Γ : Gm} {α : List Addr} {G H : Hp} {S : Store} (R : Rl Γ α G S H) {d : D} {v : V} (h : shal 20 (deref S d) = true) (r : Rep Γ α G d v) : Dp Γ.K H v (toPy (deref S d)) := by
  cases d with
  | ref k =>
    cases q : lstOf S (.ref k) with
    | none =>
      have : deref S (.ref k) = .ref k := by
        unfold lstOf at q
        unfold deref
        cases hc : S[k]? with
        | none => simp [hc]
        | some c => cases c <;> simp [hc] at q ⊢
      rw [this] at h
      simp [shal] at h
    | some xs =>
      have e : deref S (.ref k) = .lst xs := by
        unfold lstOf at q
        unfold deref
        cases hc : S[k]? with
        | none => simp [hc] at q
        | some c => cases c <;> simp [hc] at q <;> subst q <;> simp [hc]
      obtain ⟨a, vs, rfl, q1, r1⟩ := lstOf_at R r q
      rw [e] at h ⊢
      have h' : ∀ x ∈ xs, shal 19 x = true := by simpa [shal] using h
      exact .lst (.inl (.inl q1)) (repL_dp R.sub 19 xs vs h' r1)
  | _ => exact rep_dp R.sub 20 _ v h r
def opEq : D → D → Store → Res D := fun a b S => match a, b with
  | .int i, .int j => .ok (.bl (i == j)) S
  | .str i, .str j => .ok (.bl (i == j)) S
  | .bl i, .bl j => .ok (.bl (i == j)) S
  | a, b => if shal 20 (deref S a) && shal 20 (deref S b) then .ok (.bl (deq (deref S a) (deref S b))) S else .no
def opNe : D → D → Store → Res D := fun a b S => match a, b with
  | .int i, .int j => .ok (.bl (!(i == j))) S
  | .str i, .str j => .ok (.bl (!(i == j))) S
  | .bl i, .bl j => .ok (.bl (!(i == j))) S
  | a, b => if shal 20 (deref S a) && shal 20 (deref S b) then .ok (.bl (!deq (deref S a) (deref S b))) S else .no
theorem eqQ {k : Nat} (hr : Room k X.A) : QR X cl E (compareOp .Eq) opEq := by
  refine ⟨_, OpR.or op_eq (op_eqD hr.units), fun a b S α G H x y Q hR ra rb h => ?_⟩
  have deep : (if shal 20 (deref S a) && shal 20 (deref S b) then Res.ok (.bl (deq (deref S a) (deref S b))) S else .no) = opEq a b S → rEqD X.K x y H Q := fun e => by
    rw [← e] at h
    split at h
    · rename_i hs
      rw [Bool.and_eq_true] at hs
      refine ⟨_, _, deref_dp (Γ := ⟨X.K, cl⟩) hR hs.1 ra, deref_dp (Γ := ⟨X.K, cl⟩) hR hs.2 rb, shal_shaped hs.1, shal_shaped hs.2, ?_⟩
      rw [deq_py 20 20 _ _ hs.1 hs.2]
      exact post_ok h hR (by simp [Rep])
    · exact h.elim
  cases a <;> cases b <;> first
    | exact .inr (deep rfl)
    | skip
  all_goals
    simp only [Rep] at ra rb
    subst ra rb
    refine .inl ⟨rfl, ?_⟩
    simp only [opEq] at h
    first | rw [dec_int] | rw [dec_bl] | rw [dec_str]
    exact post_ok h hR (by simp [Rep])
theorem neQ {k : Nat} (hr : Room k X.A) : QR X cl E (compareOp .NotEq) opNe := by
  refine ⟨_, OpR.or op_ne (op_neD hr.units), fun a b S α G H x y Q hR ra rb h => ?_⟩
  have deep : (if shal 20 (deref S a) && shal 20 (deref S b) then Res.ok (.bl (!deq (deref S a) (deref S b))) S else .no) = opNe a b S → rNeD X.K x y H Q := fun e => by
    rw [← e] at h
    split at h
    · rename_i hs
      rw [Bool.and_eq_true] at hs
      refine ⟨_, _, deref_dp (Γ := ⟨X.K, cl⟩) hR hs.1 ra, deref_dp (Γ := ⟨X.K, cl⟩) hR hs.2 rb, shal_shaped hs.1, shal_shaped hs.2, ?_⟩
      rw [deq_py 20 20 _ _ hs.1 hs.2]
      exact post_ok h hR (by simp [Rep])
    · exact h.elim
  cases a <;> cases b <;> first
    | exact .inr (deep rfl)
    | skip
  all_goals
    simp only [Rep] at ra rb
    subst ra rb
    refine .inl ⟨rfl, ?_⟩
    simp only [opNe] at h
    first | rw [dec_int] | rw [dec_bl] | rw [dec_str]
    exact post_ok h hR (by simp [Rep])
end
end Q
namespace Q
open PySem L2
section
variable {X : Cx} {cl : Nat → Addr} {E : XK} {a b c e : Expr} {ma mb mc m : ME} {mt mu : MT} {pos : Pos}
def truth (S : Store) : D → Option Bool
  | .non => some false
  | .bl b => some b
  | .int i => some (i != 0)
  | .tup xs => some (!xs.isEmpty)
  | .str s => if s.length ≤ 100000 then some ((s.length : Int) != 0) else none
  | .obj _ _ => none
  | .exn _ _ => none
  | d => (rdL S d).map fun xs => !xs.isEmpty
def oRes {β : Type} (o : Option β) (S : Store) : Res β := match o with
  | some b => .ok b S
  | none => .no
@[simp] theorem oRes_some {β : Type} (b : β) (S : Store) : oRes (some b) S = .ok b S := rfl
@[simp] theorem oRes_none {β : Type} (S : Store) : oRes (none : Option β) S = .no := rfl
def mTest (m : ME) : MT := fun ρ S => (m ρ S).bind fun d S1 => oRes (truth S1 d) S1
theorem isEmpty_rep {Γ : Gm} {α : List Addr} {G : Hp} {xs : List D} {vs : List V} (r : RepL Γ α G xs vs) : xs.isEmpty = vs.isEmpty := by
  have := r.length
  cases xs <;> cases vs <;> simp_all
theorem truth_at {Γ : Gm} {α : List Addr} {G H : Hp} {S : Store} (R : Rl Γ α G S H) {d : D} {v : V} {k : Bool} (r : Rep Γ α G d v) (h : truth S d = some k) : TruV Γ.K v H k := by
  have lists : (rdL S d).map (fun xs => !xs.isEmpty) = some k → TruV Γ.K v H k := fun h => by
    cases q : rdL S d with
    | none => simp [q] at h
    | some xs =>
      simp only [q, Option.map_some, Option.some.injEq] at h
      obtain ⟨p, vs, rfl, q1, r1⟩ := rdL_at R r q
      exact .inl ⟨vs, q1, by rw [← isEmpty_rep r1]; exact h.symm⟩
  cases d with
  | non => simp only [Rep] at r; subst r; simp only [truth, Option.some.injEq] at h; exact h.symm
  | bl b => simp only [Rep] at r; subst r; simp only [truth, Option.some.injEq] at h; exact h.symm
  | int i => simp only [Rep] at r; subst r; simp only [truth, Option.some.injEq] at h; exact h.symm
  | str i =>
    simp only [Rep] at r
    subst r
    simp only [truth] at h
    split at h
    · rename_i hs
      exact ⟨sz hs, (Option.some.inj h).symm⟩
    · cases h
  | tup xs =>
    obtain ⟨p, vs, rfl, q1, r1⟩ := tup_at R r
    simp only [truth, Option.some.injEq] at h
    exact .inr (.inl ⟨vs, q1, by rw [← isEmpty_rep r1]; exact h.symm⟩)
  | obj _ _ => simp [truth] at h
  | exn _ _ => simp [truth] at h
  | lst xs => exact lists h
  | fro xs => exact lists h
  | ref k => exact lists h
theorem q_test (h : QE X cl E e m) (he : ∀ whole, isTrue e X.env whole = (do let v ← whole; standAt e.pos; holding [v] (truthy v)) := by intro _; rfl) : QT X cl E e (mTest m) := by
  obtain ⟨t, h1, h2⟩ := h.ex
  refine ⟨_, pt_truth h1 he, fun ρ S σ α G H Q hρ hR hp => h2 ρ S σ α G H _ hρ hR (post_bind hp fun d S1 α1 G1 H1 v _ e1 R1 r1 hp1 => ?_)⟩
  cases q : truth S1 d with
  | none => simp [q, Post] at hp1
  | some k =>
    simp only [q, oRes_some] at hp1
    exact ⟨k, truth_at R1 r1 q, post_ok hp1 R1 rfl⟩
/-- a comparison as a test -/
def mTB (m : ME) : MT := fun ρ S => (m ρ S).bind fun d S1 => match d with
  | .bl b => .ok b S1
  | _ => .no
theorem snd_tb {Γ : Gm} {t : TE} (h : SndE Γ E t m) : SndT Γ E (tTest t) (mTB m) := fun ρ S σ α G H Q hρ hR hp => h ρ S σ α G H _ hρ hR (post_bind hp fun d S1 α1 G1 H1 v _ e1 R1 r1 hp1 => by
    cases d <;> first
      | (simp only [Post] at hp1; done)
      | skip
    simp only [Rep] at r1
    exact ⟨_, r1, post_ok hp1 R1 rfl⟩)
theorem q_tcmp {op : CmpOp} {f : D → D → Store → Res D} (ho : QR X cl E (compareOp op) f) (ha : QE X cl E a ma) (hb : QE X cl E b mb) (hm : behindInMarks op b = false := by first | rfl | exact nomark _) : QT X cl E (.Compare a [op] [b] pos) (mTB (mOp f ma mb)) := by
  obtain ⟨r, h1, h2⟩ := ho.ex
  obtain ⟨ta, a1, a2⟩ := ha.ex
  obtain ⟨tb, b1, b2⟩ := hb.ex
  exact ⟨_, pt_cmpR h1 a1 b1 hm, snd_tb (snd_op h2 a2 b2)⟩
def mNotT (m : MT) : MT := fun ρ S => (m ρ S).bind fun b S1 => .ok (!b) S1
def mAndT (m n : MT) : MT := fun ρ S => (m ρ S).bind fun b S1 => match b with
  | true => n ρ S1
  | false => .ok false S1
def mOrT (m n : MT) : MT := fun ρ S => (m ρ S).bind fun b S1 => match b with
  | true => .ok true S1
  | false => n ρ S1
theorem snd_notT {Γ : Gm} {t : TT} (h : SndT Γ E t mt) : SndT Γ E (tNot t) (mNotT mt) := fun ρ S σ α G H Q hρ hR hp => h ρ S σ α G H _ hρ hR (post_bind hp fun b S1 α1 G1 H1 v _ e1 R1 r1 hp1 => by
  have r1 : b = v := r1
  subst r1
  exact post_ok hp1 R1 rfl)
theorem snd_andT {Γ : Gm} {t u : TT} (h : SndT Γ E t mt) (k : SndT Γ E u mu) : SndT Γ E (tAnd t u) (mAndT mt mu) := fun ρ S σ α G H Q hρ hR hp => h ρ S σ α G H _ hρ hR (post_bind hp fun b S1 α1 G1 H1 v _ e1 R1 r1 hp1 => by
  have r1 : b = v := r1
  subst r1
  cases b with
  | true => exact iteT (k ρ S1 σ α1 G1 H1 Q (hρ.mono e1) R1 hp1)
  | false => exact iteF (post_ok hp1 R1 rfl))
theorem snd_orT {Γ : Gm} {t u : TT} (h : SndT Γ E t mt) (k : SndT Γ E u mu) : SndT Γ E (tOr t u) (mOrT mt mu) := fun ρ S σ α G H Q hρ hR hp => h ρ S σ α G H _ hρ hR (post_bind hp fun b S1 α1 G1 H1 v _ e1 R1 r1 hp1 => by
  have r1 : b = v := r1
  subst r1
  cases b with
  | true => exact iteT (post_ok hp1 R1 rfl)
  | false => exact iteF (k ρ S1 σ α1 G1 H1 Q (hρ.mono e1) R1 hp1))
theorem q_not (h : QT X cl E a mt) : QT X cl E (.UnaryOp .Not a pos) (mNotT mt) := by
  obtain ⟨t, h1, h2⟩ := h.ex
  exact ⟨_, pt_not h1, snd_notT h2⟩
theorem q_w (h : QW X cl E e mt) : QT X cl E e mt := by
  obtain ⟨t, h1, h2⟩ := h.ex
  exact ⟨_, h1.pt, h2⟩
theorem q_and1 (h : QT X cl E a mt) : QW X cl E (.BoolOp .And [a] pos) mt := by
  obtain ⟨t, h1, h2⟩ := h.ex
  exact ⟨_, pw_and1 h1, h2⟩
theorem q_or1 (h : QT X cl E a mt) : QW X cl E (.BoolOp .Or [a] pos) mt := by
  obtain ⟨t, h1, h2⟩ := h.ex
  exact ⟨_, pw_or1 h1, h2⟩
theorem q_and {rest : List Expr} (h : QT X cl E a mt) (k : QW X cl E (.BoolOp .And (b :: rest) pos) mu) : QW X cl E (.BoolOp .And (a :: b :: rest) pos) (mAndT mt mu) := by
  obtain ⟨t, h1, h2⟩ := h.ex
  obtain ⟨u, k1, k2⟩ := k.ex
  exact ⟨_, pw_and h1 k1, snd_andT h2 k2⟩
theorem q_or {rest : List Expr} (h : QT X cl E a mt) (k : QW X cl E (.BoolOp .Or (b :: rest) pos) mu) : QW X cl E (.BoolOp .Or (a :: b :: rest) pos) (mOrT mt mu) := by
  obtain ⟨t, h1, h2⟩ := h.ex
  obtain ⟨u, k1, k2⟩ := k.ex
  exact ⟨_, pw_or h1 k1, snd_orT h2 k2⟩
def mAndV (m n : ME) : ME := fun ρ S => (m ρ S).bind fun d S1 => (oRes (truth S1 d) S1).bind fun b S2 => match b with
  | true => n ρ S2
  | false => .ok d S2
def mOrV (m n : ME) : ME := fun ρ S => (m ρ S).bind fun d S1 => (oRes (truth S1 d) S1).bind fun b S2 => match b with
  | true => .ok d S2
  | false => n ρ S2
def mNotV (m : ME) : ME := fun ρ S => (m ρ S).bind fun d S1 => (oRes (truth S1 d) S1).bind fun b S2 => .ok (.bl (!b)) S2
theorem q_oneV {op : BoolOp} (h : QE X cl E a m) : QE X cl E (.BoolOp op [a] pos) m := by
  obtain ⟨t, h1, h2⟩ := h.ex
  exact ⟨_, pe_one h1, h2⟩
theorem q_andV {rest : List Expr} (h : QE X cl E a ma) (k : QE X cl E (.BoolOp .And (b :: rest) pos) mb) : QE X cl E (.BoolOp .And (a :: b :: rest) pos) (mAndV ma mb) := by
  obtain ⟨t, h1, h2⟩ := h.ex
  obtain ⟨u, k1, k2⟩ := k.ex
  refine ⟨_, pe_andT h1 k1, fun ρ S σ α G H Q hρ hR hp => h2 ρ S σ α G H _ hρ hR (post_bind hp fun d S1 α1 G1 H1 v _ e1 R1 r1 hp1 => ?_)⟩
  cases q : truth S1 d with
  | none => simp [q, Post] at hp1
  | some k =>
    simp only [q, oRes_some, bind_ok] at hp1
    refine ⟨k, truth_at R1 r1 q, ?_⟩
    cases k with
    | true => exact iteT (k2 ρ S1 σ α1 G1 H1 Q (hρ.mono e1) R1 hp1)
    | false => exact iteF (post_ok hp1 R1 r1)
theorem q_orV {rest : List Expr} (h : QE X cl E a ma) (k : QE X cl E (.BoolOp .Or (b :: rest) pos) mb) : QE X cl E (.BoolOp .Or (a :: b :: rest) pos) (mOrV ma mb) := by
  obtain ⟨t, h1, h2⟩ := h.ex
  obtain ⟨u, k1, k2⟩ := k.ex
  refine ⟨_, pe_orT h1 k1, fun ρ S σ α G H Q hρ hR hp => h2 ρ S σ α G H _ hρ hR (post_bind hp fun d S1 α1 G1 H1 v _ e1 R1 r1 hp1 => ?_)⟩
  cases q : truth S1 d with
  | none => simp [q, Post] at hp1
  | some k =>
    simp only [q, oRes_some, bind_ok] at hp1
    refine ⟨k, truth_at R1 r1 q, ?_⟩
    cases k with
    | true => exact iteT (post_ok hp1 R1 r1)
    | false => exact iteF (k2 ρ S1 σ α1 G1 H1 Q (hρ.mono e1) R1 hp1)
theorem q_notV (h : QE X cl E a ma) : QE X cl E (.UnaryOp .Not a pos) (mNotV ma) := by
  obtain ⟨t, h1, h2⟩ := h.ex
  refine ⟨_, pe_notT h1, fun ρ S σ α G H Q hρ hR hp => h2 ρ S σ α G H _ hρ hR (post_bind hp fun d S1 α1 G1 H1 v _ e1 R1 r1 hp1 => ?_)⟩
  cases q : truth S1 d with
  | none => simp [q, Post] at hp1
  | some k =>
    simp only [q, oRes_some, bind_ok] at hp1
    exact ⟨k, truth_at R1 r1 q, post_ok (x := V.bl (!k)) hp1 R1 (by simp [Rep])⟩
def mIfE (t : MT) (m n : ME) : ME := fun ρ S => (t ρ S).bind fun b S1 => match b with
  | true => m ρ S1
  | false => n ρ S1
theorem q_ifE {c : Expr} (hc : QT X cl E c mt) (ha : QE X cl E a ma) (hb : QE X cl E b mb) : QE X cl E (.IfExp c a b pos) (mIfE mt ma mb) := by
  obtain ⟨t, h1, h2⟩ := hc.ex
  obtain ⟨u, k1, k2⟩ := ha.ex
  obtain ⟨w, l1, l2⟩ := hb.ex
  refine ⟨_, pe_ifExp h1 k1 l1, fun ρ S σ α G H Q hρ hR hp => h2 ρ S σ α G H _ hρ hR (post_bind hp fun b S1 α1 G1 H1 v _ e1 R1 r1 hp1 => ?_)⟩
  have r1 : b = v := r1
  subst r1
  cases b with
  | true => exact iteT (k2 ρ S1 σ α1 G1 H1 Q (hρ.mono e1) R1 hp1)
  | false => exact iteF (l2 ρ S1 σ α1 G1 H1 Q (hρ.mono e1) R1 hp1)
def isNon : D → Bool
  | .non => true
  | _ => false
def mIsN (m : ME) : ME := fun ρ S => (m ρ S).bind fun d S1 => .ok (.bl (isNon d)) S1
def mNotN (m : ME) : ME := fun ρ S => (m ρ S).bind fun d S1 => .ok (.bl (!isNon d)) S1
theorem isNon_at {Γ : Gm} {α : List Addr} {G : Hp} {d : D} {v : V} (r : Rep Γ α G d v) : decide (v = .non) = isNon d := by
  cases d <;> (unfold Rep at r; first
    | (subst r; simp [isNon]; done)
    | (obtain ⟨a, vs, rfl, _⟩ := r; simp [isNon]; done)
    | (obtain ⟨a, rfl, _⟩ := r; simp [isNon]; done))
theorem snd_isN {Γ : Gm} {t : TE} (h : SndE Γ E t m) : SndE Γ E (tIsN t) (mIsN m) := fun ρ S σ α G H Q hρ hR hp => h ρ S σ α G H _ hρ hR (post_bind hp fun d S1 α1 G1 H1 v _ e1 R1 r1 hp1 => by
  rw [isNon_at r1]
  exact post_ok hp1 R1 (by simp [Rep]))
theorem snd_notN {Γ : Gm} {t : TE} (h : SndE Γ E t m) : SndE Γ E (tNotN t) (mNotN m) := fun ρ S σ α G H Q hρ hR hp => h ρ S σ α G H _ hρ hR (post_bind hp fun d S1 α1 G1 H1 v _ e1 R1 r1 hp1 => by
  rw [isNon_at r1]
  exact post_ok hp1 R1 (by simp [Rep]))
theorem q_isN {j pos'} (h : QE X cl E a m) : QE X cl E (.Compare a [.Is] [.Constant .none j pos'] pos) (mIsN m) := by
  obtain ⟨t, h1, h2⟩ := h.ex
  exact ⟨_, pe_cmp (pc_isN h1), snd_isN h2⟩
theorem q_notN {j pos'} (h : QE X cl E a m) : QE X cl E (.Compare a [.IsNot] [.Constant .none j pos'] pos) (mNotN m) := by
  obtain ⟨t, h1, h2⟩ := h.ex
  exact ⟨_, pe_cmp (pc_notN h1), snd_notN h2⟩
theorem snd_tB {Γ : Gm} {t : TE} (h : SndE Γ E t m) : SndT Γ E (tB t) (mTB m) := snd_tb h
theorem q_tisN {j pos'} (h : QE X cl E a m) : QT X cl E (.Compare a [.Is] [.Constant .none j pos'] pos) (mTB (mIsN m)) := by
  obtain ⟨t, h1, h2⟩ := h.ex
  exact ⟨_, pt_cmp (pc_isN h1), snd_tB (snd_isN h2)⟩
theorem q_tnotN {j pos'} (h : QE X cl E a m) : QT X cl E (.Compare a [.IsNot] [.Constant .none j pos'] pos) (mTB (mNotN m)) := by
  obtain ⟨t, h1, h2⟩ := h.ex
  exact ⟨_, pt_cmp (pc_notN h1), snd_tB (snd_notN h2)⟩
def mNil : MA := fun _ S => .ok [] S
def mCons (m : ME) (n : MA) : MA := fun ρ S => (m ρ S).bind fun d S1 => (n ρ S1).bind fun ds S2 => .ok (d :: ds) S2
theorem snd_nil {Γ : Gm} : SndA Γ E tNil mNil := fun ρ S σ α G H Q hρ hR hp => post_ok (x := ([] : List V)) hp hR (by simp [RepL])
theorem snd_cons {Γ : Gm} {t : TE} {u : TA} {n : MA} (h : SndE Γ E t m) (k : SndA Γ E u n) : SndA Γ E (tCons t u) (mCons m n) := fun ρ S σ α G H Q hρ hR hp =>
  h ρ S σ α G H _ hρ hR (post_bind hp fun d S1 α1 G1 H1 v _ e1 R1 r1 hp1 => k ρ S1 σ α1 G1 H1 _ (hρ.mono e1) R1 (post_bind hp1 fun ds S2 α2 G2 H2 vs _ e2 R2 r2 hp2 =>
    post_ok hp2 R2 (by show RepL _ _ _ (d :: ds) (v :: vs); unfold RepL; exact ⟨v, vs, rfl, Rep.mono e2.pre e2.sub _ _ r1, r2⟩)))
theorem q_nil : QA X cl E [] mNil := ⟨_, pa_nil, snd_nil⟩
theorem q_cons {es : List Expr} {n : MA} (h : QE X cl E e m) (k : QA X cl E es n) (hs : starEach (e :: es) X.env = (false, eval e X.env) :: starEach es X.env := by rfl) : QA X cl E (e :: es) (mCons m n) := by
  obtain ⟨t, h1, h2⟩ := h.ex
  obtain ⟨u, k1, k2⟩ := k.ex
  exact ⟨_, pa_cons h1 k1 hs, snd_cons h2 k2⟩
def mTup (n : MA) : ME := fun ρ S => (n ρ S).bind fun ds S1 => if ds.length ≤ 100000 then .ok (.tup ds) S1 else .no
def mLst (n : MA) : ME := fun ρ S => (n ρ S).bind fun ds S1 => if ds.length ≤ 100000 then .ok (.lst ds) S1 else .no
/-- a new cell -/
def mCell (n : MA) : ME := fun ρ S => (n ρ S).bind fun ds S1 => if ds.length ≤ 100000 then .ok (.ref S1.length) (S1 ++ [.lst ds]) else .no
theorem q_tup {es : List Expr} {n : MA} {x1} (h : QA X cl E es n) : QE X cl E (.Tuple es x1 pos) (mTup n) := by
  obtain ⟨t, h1, h2⟩ := h.ex
  refine ⟨_, pe_tup h1, fun ρ S σ α G H Q hρ hR hp => h2 ρ S σ α G H _ hρ hR (post_bind hp fun ds S1 α1 G1 H1 vs _ e1 R1 r1 hp1 => ?_)⟩
  split at hp1
  · rename_i hs
    exact ⟨by rw [← r1.length]; exact sz hs, fun p hz => post_tup R1 r1 hp1 hz⟩
  · exact hp1.elim
theorem q_lst {es : List Expr} {n : MA} (h : QA X cl E es n) : QE X cl E (.List es pos) (mLst n) := by
  obtain ⟨t, h1, h2⟩ := h.ex
  refine ⟨_, pe_lst h1, fun ρ S σ α G H Q hρ hR hp => h2 ρ S σ α G H _ hρ hR (post_bind hp fun ds S1 α1 G1 H1 vs _ e1 R1 r1 hp1 => ?_)⟩
  split at hp1
  · rename_i hs
    exact ⟨by rw [← r1.length]; exact sz hs, fun p hz => post_lst R1 r1 hp1 hz⟩
  · exact hp1.elim
theorem q_cell {es : List Expr} {n : MA} (h : QA X cl E es n) : QE X cl E (.List es pos) (mCell n) := by
  obtain ⟨t, h1, h2⟩ := h.ex
  refine ⟨_, pe_lst h1, fun ρ S σ α G H Q hρ hR hp => h2 ρ S σ α G H _ hρ hR (post_bind hp fun ds S1 α1 G1 H1 vs _ e1 R1 r1 hp1 => ?_)⟩
  split at hp1
  · rename_i hs
    exact ⟨by rw [← r1.length]; exact sz hs, fun p hz => post_cell R1 r1 hp1 hz⟩
  · exact hp1.elim
def fz (d : D) (S : Store) : Res D := match d with
  | .ref k => match S[k]? with
    | some (.lst xs) => .ok (.lst xs) (S.set k (.frz xs))
    | some (.frz xs) => .ok (.lst xs) S
    | _ => .no
  | d => .ok d S
def mFrz (m : ME) : ME := fun ρ S => (m ρ S).bind fz
theorem fz_at {Γ : Gm} {α : List Addr} {G H : Hp} {S : Store} {d : D} {v : V} {Q : VK} (R : Rl Γ α G S H) (r : Rep Γ α G d v) (hp : Post Γ (Rep Γ) α G H (fz d S) Q E) : Q v H := by
  cases d with
  | ref k =>
    simp only [fz] at hp
    unfold Rep at r
    obtain ⟨a, rfl, ha⟩ := r
    cases hc : S[k]? with
    | none => simp [hc, Post] at hp
    | some c =>
      cases c with
      | lst xs =>
        simp only [hc] at hp
        obtain ⟨vs, r1, R1, e1⟩ := R.freeze hc ha
        exact hp _ _ _ _ e1 R1 (rep_lst upd_same (RepL.mono e1.pre e1.sub _ _ r1))
      | frz xs =>
        simp only [hc] at hp
        obtain ⟨vs, h1, h2⟩ := (R.ok k _ a hc ha).frz
        exact post_ok hp R (rep_lst h1 h2)
      | _ => simp [hc, Post] at hp
  | _ => exact post_ok hp R r
theorem snd_frz {Γ : Gm} {t : TE} (h : SndE Γ E t m) : SndE Γ E t (mFrz m) := fun ρ S σ α G H Q hρ hR hp => h ρ S σ α G H _ hρ hR (post_bind hp fun d S1 α1 G1 H1 v _ e1 R1 r1 hp1 => fz_at R1 r1 hp1)
theorem q_frz (h : QE X cl E e m) : QE X cl E e (mFrz m) := by
  obtain ⟨t, h1, h2⟩ := h.ex
  exact ⟨t, h1, snd_frz h2⟩
def opIx : D → D → Store → Res D := fun a b S => match b with
  | .int i => match a with
    | .tup xs => oRes (atI xs i) S
    | .str s => if s.length ≤ 100000 then match atI s.cps.toList i with
        | some c => .ok (.str ⟨#[c]⟩) S
        | none => .no
      else .no
    | a => match rdL S a with
      | some xs => oRes (atI xs i) S
      | none => .no
  | _ => .no
theorem atI_rep {Γ : Gm} {α : List Addr} {G : Hp} {xs : List D} {vs : List V} {i : Int} {d : D} (r : RepL Γ α G xs vs) (h : atI xs i = some d) : ∃ v, atI vs i = some v ∧ Rep Γ α G d v := by
  unfold atI at h ⊢
  rw [r.length] at h
  cases q : ixN vs.length i with
  | none => simp [q] at h
  | some j =>
    simp only [q, Option.bind_some] at h ⊢
    exact r.get h
structure QIx (X : Cx) (cl : Nat → Addr) (E : XK) (f : D → D → Store → Res D) : Prop where
  ex : ∃ r, IxR X r ∧ SndR ⟨X.K, cl⟩ E r f
theorem ixQ : QIx X cl E opIx := by
  refine ⟨_, ix_seq, fun a b S α G H x y Q hR ra rb h => ?_⟩
  cases b <;> try exact h.elim
  rename_i i
  simp only [opIx] at h
  simp only [Rep] at rb
  have lists : ∀ o, rdL S a = o → Post ⟨X.K, cl⟩ (Rep ⟨X.K, cl⟩) α G H (match o with
      | some xs => oRes (atI xs i) S
      | none => .no) Q E → rIx X.K x y H Q := fun o q h => by
    cases o with
    | none => exact h.elim
    | some xs =>
      obtain ⟨p, vs, rfl, q1, r1⟩ := rdL_at hR ra q
      cases z : atI xs i with
      | none => simp [z, Post] at h
      | some d =>
        simp only [z, oRes_some] at h
        obtain ⟨v, e, rv⟩ := atI_rep r1 z
        exact .inl ⟨p, vs, i, v, rfl, rb, q1, e, post_ok h hR rv⟩
  cases a with
  | tup xs =>
    obtain ⟨p, vs, rfl, q1, r1⟩ := tup_at hR ra
    simp only at h
    cases z : atI xs i with
    | none => simp [z, Post] at h
    | some d =>
      simp only [z, oRes_some] at h
      obtain ⟨v, e, rv⟩ := atI_rep r1 z
      exact .inr (.inl ⟨p, vs, i, v, rfl, rb, q1, e, post_ok h hR rv⟩)
  | str s =>
    simp only at h
    simp only [Rep] at ra
    split at h
    · rename_i hs
      cases z : atI s.cps.toList i with
      | none => simp [z, Post] at h
      | some c =>
        simp only [z] at h
        exact .inr (.inr ⟨s, i, c, ra, rb, sz hs, z, post_ok h hR (by simp [Rep])⟩)
    · exact h.elim
  | _ => exact lists _ rfl h
theorem q_ix (ha : QE X cl E a ma) (hb : QE X cl E b mb) (hs : PlainIx b := by exact fun _ _ => rfl) : QE X cl E (.Subscript a b pos) (mOp opIx ma mb) := by
  obtain ⟨r, h1, h2⟩ := (ixQ (X := X) (cl := cl) (E := E)).ex
  obtain ⟨ta, a1, a2⟩ := ha.ex
  obtain ⟨tb, b1, b2⟩ := hb.ex
  exact ⟨_, pe_ix h1 a1 b1 hs, snd_op h2 a2 b2⟩
abbrev MO := Env → Store → Res (Option Int)
def RO : List Addr → Hp → Option Int → Option Int → Prop := fun _ _ a b => a = b
def SndO (Γ : Gm) (E : XK) (t : TO) (m : MO) : Prop := ∀ (ρ : Env) (S : Store) (σ : L2.St) (α : List Addr) (G H : Hp) (Q : Option Int → Hp → Prop), EnvR Γ α G ρ σ → Rl Γ α G S H → Post Γ RO α G H (m ρ S) Q E → t σ H Q
structure QO (X : Cx) (cl : Nat → Addr) (E : XK) (e : Option Expr) (m : MO) : Prop where
  ex : ∃ t, PO X e t ∧ SndO ⟨X.K, cl⟩ E t m
def mNoO : MO := fun _ S => .ok none S
def mSoO (m : ME) : MO := fun ρ S => (m ρ S).bind fun d S1 => match d with
  | .int i => .ok (some i) S1
  | _ => .no
theorem q_noO : QO X cl E none mNoO := ⟨_, po_none, fun ρ S σ α G H Q hρ hR hp => post_ok hp hR rfl⟩
theorem q_soO (h : QE X cl E e m) : QO X cl E (some e) (mSoO m) := by
  obtain ⟨t, h1, h2⟩ := h.ex
  refine ⟨_, po_some h1, fun ρ S σ α G H Q hρ hR hp => h2 ρ S σ α G H _ hρ hR (post_bind hp fun d S1 α1 G1 H1 v _ e1 R1 r1 hp1 => ?_)⟩
  cases d <;> try exact hp1.elim
  simp only [Rep] at r1
  exact ⟨_, r1, post_ok hp1 R1 rfl⟩
def cutD (xs : List D) (lo hi : Option Int) : List D := (xs.drop (HT.sIx xs.length 0 lo)).take (HT.sIx xs.length xs.length hi - HT.sIx xs.length 0 lo)
theorem cut_rep {Γ : Gm} {α : List Addr} {G : Hp} {xs : List D} {vs : List V} (r : RepL Γ α G xs vs) (lo hi : Option Int) : RepL Γ α G (cutD xs lo hi) (cutV vs lo hi) := by
  unfold cutD cutV
  rw [r.length]
  exact (r.drop _).take _
def opSl : D → Option Int → Option Int → Store → Res D := fun a lo hi S => match a with
  | .tup xs => .ok (.tup (cutD xs lo hi)) S
  | .str s => if s.length ≤ 100000 then .ok (.str (cutS s lo hi)) S else .no
  | a => match rdL S a with
    | some xs => .ok (.lst (cutD xs lo hi)) S
    | none => .no
def mSl (m : ME) (l h : MO) : ME := fun ρ S => (m ρ S).bind fun d S1 => (l ρ S1).bind fun lo S2 => (h ρ S2).bind fun hi S3 => opSl d lo hi S3
theorem cutD_whole {xs : List D} {lo hi : Option Int} (h : HT.sIx xs.length 0 lo = 0 ∧ HT.sIx xs.length xs.length hi = xs.length) : cutD xs lo hi = xs := by
  unfold cutD
  rw [h.1, h.2]
  simp
theorem snd_sl {Γ : Gm} : ∀ (d : D) (lo hi : Option Int) (S : Store) (α : List Addr) (G H : Hp) (x : V) (Q : VK), Rl Γ α G S H → Rep Γ α G d x → Post Γ (Rep Γ) α G H (opSl d lo hi S) Q E → (rSlL Γ.K x lo hi H Q ∨ rSlA Γ.K x lo hi H Q ∨ rSlS x lo hi H Q) := by
  intro d lo hi S α G H x Q hR ra h
  have lists : ∀ o, rdL S d = o → Post Γ (Rep Γ) α G H (match o with
      | some xs => Res.ok (.lst (cutD xs lo hi)) S
      | none => .no) Q E → rSlL Γ.K x lo hi H Q := fun o q h => by
    cases o with
    | none => exact h.elim
    | some xs =>
      obtain ⟨p, vs, rfl, q1, r1⟩ := rdL_at hR ra q
      exact ⟨p, vs, rfl, q1, fun z hz => post_lst hR (cut_rep r1 lo hi) h hz⟩
  cases d with
  | tup xs =>
    obtain ⟨p, vs, rfl, q1, r1⟩ := tup_at hR ra
    simp only [opSl] at h
    refine .inr (.inl ⟨p, vs, rfl, q1, fun w => ?_, fun _ z hz => post_tup hR (cut_rep r1 lo hi) h hz⟩)
    rw [← r1.length] at w
    rw [cutD_whole w] at h
    exact post_ok h hR ra
  | str s =>
    simp only [opSl] at h
    simp only [Rep] at ra
    split at h
    · rename_i hs
      exact .inr (.inr ⟨s, ra, sz hs, post_ok h hR (by simp [Rep])⟩)
    · exact h.elim
  | _ => exact .inl (lists _ rfl h)
theorem q_sl {lo hi : Option Expr} {l h : MO} {p2 : Pos} (ha : QE X cl E a ma) (hl : QO X cl E lo l) (hh : QO X cl E hi h) : QE X cl E (.Subscript a (.Slice lo hi none p2) pos) (mSl ma l h) := by
  obtain ⟨t, h1, h2⟩ := ha.ex
  obtain ⟨u, k1, k2⟩ := hl.ex
  obtain ⟨w, l1, l2⟩ := hh.ex
  refine ⟨_, pe_slice (sl_list.or (sl_tupA.or sl_str)) h1 k1 l1, fun ρ S σ α G H Q hρ hR hp => h2 ρ S σ α G H _ hρ hR (post_bind hp fun d S1 α1 G1 H1 v _ e1 R1 r1 hp1 => ?_)⟩
  refine k2 ρ S1 σ α1 G1 H1 _ (hρ.mono e1) R1 (post_bind hp1 fun o S2 α2 G2 H2 o' _ e2 R2 r2 hp2 => ?_)
  refine l2 ρ S2 σ α2 G2 H2 _ ((hρ.mono e1).mono e2) R2 (post_bind hp2 fun i S3 α3 G3 H3 i' _ e3 R3 r3 hp3 => ?_)
  have r2 : o = o' := r2
  have r3 : i = i' := r3
  subst r2 r3
  exact snd_sl d o i S3 α3 G3 H3 v Q R3 (Rep.mono e3.pre e3.sub _ _ (Rep.mono e2.pre e2.sub _ _ r1)) hp3
/-- -a -/
def mNeg (m : ME) : ME := fun ρ S => (m ρ S).bind fun d S1 => match d with
  | .int i => .ok (.int (-i)) S1
  | _ => .no
theorem q_neg (h : QE X cl E a m) : QE X cl E (.UnaryOp .USub a pos) (mNeg m) := by
  obtain ⟨t, h1, h2⟩ := h.ex
  refine ⟨_, pe_un un_neg h1, fun ρ S σ α G H Q hρ hR hp => h2 ρ S σ α G H _ hρ hR (post_bind hp fun d S1 α1 G1 H1 v _ e1 R1 r1 hp1 => ?_)⟩
  cases d <;> try exact hp1.elim
  simp only [Rep] at r1
  exact ⟨_, r1, post_ok hp1 R1 (by simp [Rep])⟩
end
end Q
namespace Q
open PySem L2
section
variable {X : Cx} {cl : Nat → Addr} {E : XK} {a b c e : Expr} {ma mb mc m : ME} {mt mu : MT} {pos : Pos}
def SndC (Γ : Gm) (E : XK) (r : List V → Hp → VK → Prop) (f : List D → Store → Res D) : Prop := ∀ (ds : List D) (S : Store) (α : List Addr) (G H : Hp) (vs : List V) (Q : VK), Rl Γ α G S H → RepL Γ α G ds vs → Post Γ (Rep Γ) α G H (f ds S) Q E → r vs H Q
structure QC (X : Cx) (cl : Nat → Addr) (E : XK) (v : Value) (f : List D → Store → Res D) : Prop where
  ex : ∃ r, CallR X v r ∧ SndC ⟨X.K, cl⟩ E r f
def mCall (f : List D → Store → Res D) (n : MA) : ME := fun ρ S => (n ρ S).bind f
theorem snd_cb {Γ : Gm} {r : List V → Hp → VK → Prop} {f : List D → Store → Res D} {n : MA} {t : TA} (hr : SndC Γ E r f) (h : SndA Γ E t n) : SndE Γ E (tCB r t) (mCall f n) := fun ρ S σ α G H Q hρ hR hp =>
  h ρ S σ α G H _ hρ hR (post_bind hp fun ds S1 α1 G1 H1 vs _ e1 R1 r1 hp1 => hr ds S1 α1 G1 H1 vs Q R1 r1 hp1)
theorem q_callB {x : Str} {p : Pos} {id : String} {es : List Expr} {n : MA} {f : List D → Store → Res D} (hc : QC X cl E (.builtin id) f) (hg : Gl X x) (hm : X.mg x = none) (hv : bootBuiltins x = some (.builtin id)) (ha : QA X cl E (e :: es) n) (hn : x ≠ "__name__" := by decide) (hdb : (x == ("__debug__" : Str)) = false := by decide)
    (he : starEach (e :: es) X.env = (false, eval e X.env) :: starEach es X.env := by rfl) (hpl : (backTo pos (starEach es X.env)).any (·.1) = false := by rfl) : QE X cl E (.Call (.Name x p) (e :: es) [] pos) (mCall f n) := by
  obtain ⟨r, h1, h2⟩ := hc.ex
  obtain ⟨t, k1, k2⟩ := ha.ex
  exact ⟨_, pe_callB h1 hg hm hv k1 hn hdb he hpl, snd_cb h2 k2⟩
theorem q_callTy {x : Str} {p : Pos} {T : String} {es : List Expr} {n : MA} {f : List D → Store → Res D} (hc : QC X cl E (.type T) f) (hg : Gl X x) (hm : X.mg x = none) (hv : bootBuiltins x = some (.type T)) (ha : QA X cl E (e :: es) n) (hn : x ≠ "__name__" := by decide) (hdb : (x == ("__debug__" : Str)) = false := by decide)
    (he : starEach (e :: es) X.env = (false, eval e X.env) :: starEach es X.env := by rfl) (hpl : (backTo pos (starEach es X.env)).any (·.1) = false := by rfl) : QE X cl E (.Call (.Name x p) (e :: es) [] pos) (mCall f n) := by
  obtain ⟨r, h1, h2⟩ := hc.ex
  obtain ⟨t, k1, k2⟩ := ha.ex
  exact ⟨_, pe_callTy h1 hg hm hv k1 hn hdb he hpl, snd_cb h2 k2⟩
theorem repL1 {Γ : Gm} {α : List Addr} {G : Hp} {d : D} {vs : List V} (r : RepL Γ α G [d] vs) : ∃ v, vs = [v] ∧ Rep Γ α G d v := by
  unfold RepL at r
  obtain ⟨v, w, rfl, h1, h2⟩ := r
  unfold RepL at h2
  subst h2
  exact ⟨v, rfl, h1⟩
theorem repL2 {Γ : Gm} {α : List Addr} {G : Hp} {d d' : D} {vs : List V} (r : RepL Γ α G [d, d'] vs) : ∃ v v', vs = [v, v'] ∧ Rep Γ α G d v ∧ Rep Γ α G d' v' := by
  unfold RepL at r
  obtain ⟨v, w, rfl, h1, h2⟩ := r
  obtain ⟨v', rfl, h3⟩ := repL1 h2
  exact ⟨v, v', rfl, h1, h3⟩
def un1 (g : D → Store → Res D) : List D → Store → Res D
  | [d], S => g d S
  | _, _ => .no
def un2 (g : D → D → Store → Res D) : List D → Store → Res D
  | [d, d'], S => g d d' S
  | _, _ => .no
theorem snd_un1 {Γ : Gm} {r : List V → Hp → VK → Prop} {g : D → Store → Res D} (h : ∀ d S α G H v Q, Rl Γ α G S H → Rep Γ α G d v → Post Γ (Rep Γ) α G H (g d S) Q E → r [v] H Q) : SndC Γ E r (un1 g) := fun ds S α G H vs Q hR rv hp => by
  cases ds with
  | nil => exact hp.elim
  | cons d ds =>
    cases ds with
    | nil =>
      obtain ⟨v, rfl, rv'⟩ := repL1 rv
      exact h d S α G H v Q hR rv' hp
    | cons _ _ => exact hp.elim
theorem snd_un2 {Γ : Gm} {r : List V → Hp → VK → Prop} {g : D → D → Store → Res D} (h : ∀ d d' S α G H v v' Q, Rl Γ α G S H → Rep Γ α G d v → Rep Γ α G d' v' → Post Γ (Rep Γ) α G H (g d d' S) Q E → r [v, v'] H Q) : SndC Γ E r (un2 g) := fun ds S α G H vs Q hR rv hp => by
  cases ds with
  | nil => exact hp.elim
  | cons d ds =>
    cases ds with
    | nil => exact hp.elim
    | cons d' ds =>
      cases ds with
      | cons _ _ => exact hp.elim
      | nil =>
        obtain ⟨v, v', rfl, r1, r2⟩ := repL2 rv
        exact h d d' S α G H v v' Q hR r1 r2 hp
/-- the items of a list or a tuple -/
def seqOf (S : Store) : D → Option (List D)
  | .tup xs => some xs
  | d => rdL S d
theorem seqOf_at {Γ : Gm} {α : List Addr} {G H : Hp} {S : Store} (R : Rl Γ α G S H) {d : D} {v : V} {xs : List D} (r : Rep Γ α G d v) (h : seqOf S d = some xs) : ∃ a vs, v = .ref a ∧ (SqL Γ.K H a vs ∨ SqT Γ.K H a vs) ∧ RepL Γ α G xs vs := by
  have go : rdL S d = some xs → ∃ a vs, v = .ref a ∧ (SqL Γ.K H a vs ∨ SqT Γ.K H a vs) ∧ RepL Γ α G xs vs := fun h => by
    obtain ⟨a, vs, e, q, r⟩ := rdL_at R r h
    exact ⟨a, vs, e, .inl q, r⟩
  cases d with
  | tup ys =>
    have e : ys = xs := Option.some.inj h
    subst e
    obtain ⟨a, vs, e, q, r⟩ := tup_at R r
    exact ⟨a, vs, e, .inr q, r⟩
  | _ => exact go h
def gLen : D → Store → Res D := fun d S => match d with
  | .str s => if s.length ≤ 100000 then .ok (.int s.length) S else .no
  | d => match seqOf S d with
    | some xs => .ok (.int xs.length) S
    | none => .no
def fLen := un1 gLen
theorem lenQ : QC X cl E (.builtin "len") fLen := by
  refine ⟨_, call_len, snd_un1 fun d S α G H v Q hR rv h => ?_⟩
  have seqs : ∀ o, seqOf S d = o → Post ⟨X.K, cl⟩ (Rep ⟨X.K, cl⟩) α G H (match o with
      | some xs => Res.ok (.int xs.length) S
      | none => .no) Q E → ∃ x n, [v] = [x] ∧ LenV X.K x H n ∧ Q (.int n) H := fun o q h => by
    cases o with
    | none => exact h.elim
    | some xs =>
      obtain ⟨p, ws, rfl, q1, r1⟩ := seqOf_at hR rv q
      refine ⟨.ref p, xs.length, rfl, ?_, post_ok h hR (by simp [Rep])⟩
      rcases q1 with q1 | q1
      · exact .inl ⟨ws, q1, r1.length⟩
      · exact .inr ⟨ws, q1, r1.length⟩
  cases d with
  | str s =>
    simp only [gLen] at h
    simp only [Rep] at rv
    split at h
    · rename_i hs
      exact ⟨v, s.length, rfl, by subst rv; exact ⟨sz hs, rfl⟩, post_ok h hR (by simp [Rep])⟩
    · exact h.elim
  | _ => exact seqs _ rfl h
def gAbs : D → Store → Res D := fun d S => match d with
  | .int i => .ok (.int (if i < 0 then -i else i)) S
  | _ => .no
def fAbs := un1 gAbs
theorem absQ : QC X cl E (.builtin "abs") fAbs := by
  refine ⟨_, call_abs, snd_un1 fun d S α G H v Q hR rv h => ?_⟩
  cases d <;> try exact h.elim
  rename_i i
  simp only [Rep] at rv
  subst rv
  exact ⟨i, rfl, post_ok (x := V.int (if i < 0 then -i else i)) h hR (by simp [Rep])⟩
def gInt : D → Store → Res D := fun d S => match d with
  | .int i => .ok (.int i) S
  | .bl b => .ok (.int (if b then 1 else 0)) S
  | _ => .no
def fInt := un1 gInt
theorem intQ : QC X cl E (.type "int") fInt := by
  refine ⟨_, call_int1, snd_un1 fun d S α G H v Q hR rv h => ?_⟩
  cases d <;> try exact h.elim
  · rename_i b
    simp only [Rep] at rv
    subst rv
    exact .inr ⟨b, rfl, post_ok (x := V.int (if b then 1 else 0)) h hR (by simp [Rep])⟩
  · rename_i i
    simp only [Rep] at rv
    subst rv
    exact .inl ⟨i, rfl, post_ok (x := V.int i) h hR (by simp [Rep])⟩
def gList : D → Store → Res D := fun d S => match seqOf S d with
  | some xs => .ok (.lst xs) S
  | none => .no
def gListC : D → Store → Res D := fun d S => match seqOf S d with
  | some xs => .ok (.ref S.length) (S ++ [.lst xs])
  | none => .no
def fList := un1 gList
def fListC := un1 gListC
theorem listQ : QC X cl E (.type "list") fList := by
  refine ⟨_, call_list_of, snd_un1 fun d S α G H v Q hR rv h => ?_⟩
  simp only [gList] at h
  cases q : seqOf S d with
  | none => simp [q, Post] at h
  | some xs =>
    simp only [q] at h
    obtain ⟨p, ws, rfl, q1, r1⟩ := seqOf_at hR rv q
    exact ⟨p, ws, rfl, q1, fun z hz => post_lst hR r1 h hz⟩
theorem listCQ : QC X cl E (.type "list") fListC := by
  refine ⟨_, call_list_of, snd_un1 fun d S α G H v Q hR rv h => ?_⟩
  simp only [gListC] at h
  cases q : seqOf S d with
  | none => simp [q, Post] at h
  | some xs =>
    simp only [q] at h
    obtain ⟨p, ws, rfl, q1, r1⟩ := seqOf_at hR rv q
    exact ⟨p, ws, rfl, q1, fun z hz => post_cell hR r1 h hz⟩
def gTuple : D → Store → Res D := fun d S => match d with
  | .tup xs => .ok (.tup xs) S
  | d => match rdL S d with
    | some xs => .ok (.tup xs) S
    | none => .no
def fTuple := un1 gTuple
theorem tupleQ : QC X cl E (.type "tuple") fTuple := by
  refine ⟨_, call_tuple_of, snd_un1 fun d S α G H v Q hR rv h => ?_⟩
  have lists : ∀ o, rdL S d = o → Post ⟨X.K, cl⟩ (Rep ⟨X.K, cl⟩) α G H (match o with
      | some xs => Res.ok (.tup xs) S
      | none => .no) Q E → ∃ p ys, [v] = [.ref p] ∧ ((SqL X.K H p ys ∧ ∀ l, H l = none → Q (.ref l) (upd H l (.tup ys))) ∨ (SqT X.K H p ys ∧ Q (.ref p) H)) := fun o q h => by
    cases o with
    | none => exact h.elim
    | some xs =>
      obtain ⟨p, ws, rfl, q1, r1⟩ := rdL_at hR rv q
      exact ⟨p, ws, rfl, .inl ⟨q1, fun z hz => post_tup hR r1 h hz⟩⟩
  cases d with
  | tup xs =>
    obtain ⟨p, ws, rfl, q1, r1⟩ := tup_at hR rv
    exact ⟨p, ws, rfl, .inr ⟨q1, post_ok h hR rv⟩⟩
  | _ => exact lists _ rfl h
/-- the truths of a list of True and False -/
def boolsD : List D → Option (List Bool)
  | [] => some []
  | .bl b :: ds => (boolsD ds).map (b :: ·)
  | _ => none
def intsD : List D → Option (List Int)
  | [] => some []
  | .int b :: ds => (intsD ds).map (b :: ·)
  | _ => none
theorem bools_rep {Γ : Gm} {α : List Addr} {G : Hp} : ∀ {ds : List D} {vs : List V} {bs : List Bool}, RepL Γ α G ds vs → boolsD ds = some bs → vs = bs.map V.bl
  | [], vs, bs, r, h => by
    unfold RepL at r
    simp only [boolsD, Option.some.injEq] at h
    subst r h
    rfl
  | d :: ds, vs, bs, r, h => by
    unfold RepL at r
    obtain ⟨v, w, rfl, h1, h2⟩ := r
    cases d <;> simp only [boolsD, reduceCtorEq] at h
    rename_i b
    simp only [Rep] at h1
    subst h1
    cases q : boolsD ds with
    | none => simp [q] at h
    | some cs =>
      simp only [q, Option.map_some, Option.some.injEq] at h
      subst h
      rw [bools_rep h2 q]
      rfl
theorem ints_rep {Γ : Gm} {α : List Addr} {G : Hp} : ∀ {ds : List D} {vs : List V} {bs : List Int}, RepL Γ α G ds vs → intsD ds = some bs → vs = bs.map V.int
  | [], vs, bs, r, h => by
    unfold RepL at r
    simp only [intsD, Option.some.injEq] at h
    subst r h
    rfl
  | d :: ds, vs, bs, r, h => by
    unfold RepL at r
    obtain ⟨v, w, rfl, h1, h2⟩ := r
    cases d <;> simp only [intsD, reduceCtorEq] at h
    rename_i b
    simp only [Rep] at h1
    subst h1
    cases q : intsD ds with
    | none => simp [q] at h
    | some cs =>
      simp only [q, Option.map_some, Option.some.injEq] at h
      subst h
      rw [ints_rep h2 q]
      rfl
def onBools (g : List Bool → D) := un1 fun d S => match (rdL S d).bind boolsD with
  | some bs => .ok (g bs) S
  | none => .no
def onInts (c : List Int → Bool) (g : List Int → D) := un1 fun d S => match (rdL S d).bind intsD with
  | some bs => if c bs then .ok (g bs) S else .no
  | none => .no
def fAll := onBools fun bs => .bl (bs.all id)
def fAny := onBools fun bs => .bl (bs.any id)
def fSum := onInts (fun _ => true) fun ns => .int ns.sum
def maxI : List Int → Int
  | [] => 0
  | [x] => x
  | x :: xs => if maxI xs > x then maxI xs else x
def minI : List Int → Int
  | [] => 0
  | [x] => x
  | x :: xs => if minI xs < x then minI xs else x
theorem maxI_ge : ∀ {ns : List Int} {y : Int}, y ∈ ns → y ≤ maxI ns
  | [x], y, h => by simp at h; subst h; simp [maxI]
  | x :: x' :: xs, y, h => by
    have ih : ∀ z ∈ x' :: xs, z ≤ maxI (x' :: xs) := fun z hz => maxI_ge hz
    rcases List.mem_cons.mp h with rfl | h
    · show y ≤ if maxI (x' :: xs) > y then maxI (x' :: xs) else y
      split <;> omega
    · have := ih y h
      show y ≤ if maxI (x' :: xs) > x then maxI (x' :: xs) else x
      split <;> omega
theorem minI_le : ∀ {ns : List Int} {y : Int}, y ∈ ns → minI ns ≤ y
  | [x], y, h => by simp at h; subst h; simp [minI]
  | x :: x' :: xs, y, h => by
    have ih : ∀ z ∈ x' :: xs, minI (x' :: xs) ≤ z := fun z hz => minI_le hz
    rcases List.mem_cons.mp h with rfl | h
    · show (if minI (x' :: xs) < y then minI (x' :: xs) else y) ≤ y
      split <;> omega
    · have := ih y h
      show (if minI (x' :: xs) < x then minI (x' :: xs) else x) ≤ y
      split <;> omega
theorem maxI_mem : ∀ {ns : List Int}, ns ≠ [] → maxI ns ∈ ns
  | [x], _ => by simp [maxI]
  | x :: x' :: xs, _ => by
    have ih : maxI (x' :: xs) ∈ x' :: xs := maxI_mem (by simp)
    show (if maxI (x' :: xs) > x then maxI (x' :: xs) else x) ∈ _
    split
    · exact List.mem_cons_of_mem _ ih
    · exact List.mem_cons_self
theorem minI_mem : ∀ {ns : List Int}, ns ≠ [] → minI ns ∈ ns
  | [x], _ => by simp [minI]
  | x :: x' :: xs, _ => by
    have ih : minI (x' :: xs) ∈ x' :: xs := minI_mem (by simp)
    show (if minI (x' :: xs) < x then minI (x' :: xs) else x) ∈ _
    split
    · exact List.mem_cons_of_mem _ ih
    · exact List.mem_cons_self
def fMax1 := onInts (fun ns => !ns.isEmpty) fun ns => .int (maxI ns)
def fMin1 := onInts (fun ns => !ns.isEmpty) fun ns => .int (minI ns)
theorem snd_bools {Γ : Gm} {g : List Bool → D} {g' : List Bool → V} (hg : ∀ α G bs, Rep Γ α G (g bs) (g' bs)) : SndC Γ E (fun vs H Q => ∃ (a : Addr) (bs : List Bool), vs = [V.ref a] ∧ SqL Γ.K H a (bs.map V.bl) ∧ Q (g' bs) H) (onBools g) := snd_un1 fun d S α G H v Q hR rv h => by
  cases q : rdL S d with
  | none => simp [q, Post] at h
  | some xs =>
    simp only [q, Option.bind_some] at h
    obtain ⟨p, ws, rfl, q1, r1⟩ := rdL_at hR rv q
    cases z : boolsD xs with
    | none => simp [z, Post] at h
    | some bs =>
      simp only [z] at h
      rw [bools_rep r1 z] at q1
      exact ⟨p, bs, rfl, q1, post_ok h hR (hg _ _ _)⟩
theorem allQ (hc : X.calm = true := by rfl) : QC X cl E (.builtin "all") fAll := ⟨_, cr_all hc, snd_bools (Γ := ⟨X.K, cl⟩) fun _ _ _ => by simp [Rep]⟩
theorem anyQ (hc : X.calm = true := by rfl) : QC X cl E (.builtin "any") fAny := ⟨_, cr_any hc, snd_bools (Γ := ⟨X.K, cl⟩) fun _ _ _ => by simp [Rep]⟩
theorem snd_ints {Γ : Gm} {c : List Int → Bool} {g : List Int → D} {r' : List V → Hp → VK → Prop} (hg : ∀ α G ns a H Q, c ns = true → SqL Γ.K H a (ns.map V.int) → (∀ v, Rep Γ α G (g ns) v → Q v H) → r' [.ref a] H Q) : SndC Γ E r' (onInts c g) := snd_un1 fun d S α G H v Q hR rv h => by
  cases q : rdL S d with
  | none => simp [q, Post] at h
  | some xs =>
    simp only [q, Option.bind_some] at h
    obtain ⟨p, ws, rfl, q1, r1⟩ := rdL_at hR rv q
    cases z : intsD xs with
    | none => simp [z, Post] at h
    | some bs =>
      simp only [z] at h
      rw [ints_rep r1 z] at q1
      split at h
      · rename_i hc
        exact hg α G bs p H Q hc q1 fun v rv => post_ok h hR rv
      · exact h.elim
theorem sumQ (hc : X.calm = true := by rfl) : QC X cl E (.builtin "sum") fSum := ⟨_, cr_sum hc, snd_ints (Γ := ⟨X.K, cl⟩) fun α G ns a H Q _ hs k => ⟨a, ns, rfl, hs, k _ (by simp [Rep])⟩⟩
theorem max1Q (hc : X.calm = true := by rfl) : QC X cl E (.builtin "max") fMax1 := ⟨_, cr_max hc, snd_ints (Γ := ⟨X.K, cl⟩) fun α G ns a H Q hn hs k => by
  have h0 : ns ≠ [] := by cases ns <;> simp at hn ⊢
  refine ⟨a, ns, rfl, hs, List.length_pos_iff.mpr h0, fun m hm hge => ?_⟩
  have e : m = maxI ns := Int.le_antisymm (maxI_ge hm) (hge _ (maxI_mem h0))
  subst e
  exact k _ (by simp [Rep])⟩
theorem min1Q (hc : X.calm = true := by rfl) : QC X cl E (.builtin "min") fMin1 := ⟨_, cr_min hc, snd_ints (Γ := ⟨X.K, cl⟩) fun α G ns a H Q hn hs k => by
  have h0 : ns ≠ [] := by cases ns <;> simp at hn ⊢
  refine ⟨a, ns, rfl, hs, List.length_pos_iff.mpr h0, fun m hm hge => ?_⟩
  have e : m = minI ns := Int.le_antisymm (hge _ (minI_mem h0)) (minI_le hm)
  subst e
  exact k _ (by simp [Rep])⟩
def gMax2 : D → D → Store → Res D := fun a b S => match a, b with
  | .int i, .int j => .ok (.int (if j > i then j else i)) S
  | _, _ => .no
def gMin2 : D → D → Store → Res D := fun a b S => match a, b with
  | .int i, .int j => .ok (.int (if j < i then j else i)) S
  | _, _ => .no
def fMax2 := un2 gMax2
def fMin2 := un2 gMin2
theorem max2Q (hc : X.calm = true := by rfl) : QC X cl E (.builtin "max") fMax2 := by
  refine ⟨_, call_max2 hc, snd_un2 fun a b S α G H v w Q hR rv rw' h => ?_⟩
  cases a <;> cases b <;> try exact h.elim
  rename_i i j
  simp only [Rep] at rv rw'
  subst rv rw'
  exact ⟨i, j, rfl, post_ok (x := V.int (if j > i then j else i)) h hR (by simp [Rep])⟩
theorem min2Q (hc : X.calm = true := by rfl) : QC X cl E (.builtin "min") fMin2 := by
  refine ⟨_, call_min2 hc, snd_un2 fun a b S α G H v w Q hR rv rw' h => ?_⟩
  cases a <;> cases b <;> try exact h.elim
  rename_i i j
  simp only [Rep] at rv rw'
  subst rv rw'
  exact ⟨i, j, rfl, post_ok (x := V.int (if j < i then j else i)) h hR (by simp [Rep])⟩
theorem op_inT {hu : X.A.units + 65 < cLine} : OpR X (compareOp .In) (fun x y H Q => ∃ d ds, Dp X.K H x d ∧ Dp X.K H y (.tuple ds) ∧ SeqAt.shaped d = true ∧ SeqAt.shaped (.tuple ds) = true ∧ Q (.bl (ds.any fun z => PyData.eqv z d)) H) := by
  intro pins s σ H x y v u Q I rx ry h
  obtain ⟨d, ds, hd, he, sd, se, q⟩ := h
  obtain ⟨as, r1⟩ := Dp.reads I d x v hd rx
  obtain ⟨bs, r2⟩ := Dp.reads I (.tuple ds) y u he ry
  exact SeqAt.in_tuple_reads r2 r1 (SeqAt.canLay_of_shaped se) (SeqAt.canLay_of_shaped sd) (PyProof.Rows.room_in_shaped sd hu) ⟨.bl _, H, I, rfl, q⟩
theorem op_ninT {hu : X.A.units + 65 < cLine} : OpR X (compareOp .NotIn) (fun x y H Q => ∃ d ds, Dp X.K H x d ∧ Dp X.K H y (.tuple ds) ∧ SeqAt.shaped d = true ∧ SeqAt.shaped (.tuple ds) = true ∧ Q (.bl (!ds.any fun z => PyData.eqv z d)) H) := by
  intro pins s σ H x y v u Q I rx ry h
  obtain ⟨d, ds, hd, he, sd, se, q⟩ := h
  obtain ⟨as, r1⟩ := Dp.reads I d x v hd rx
  obtain ⟨bs, r2⟩ := Dp.reads I (.tuple ds) y u he ry
  exact SeqAt.notIn_tuple_reads r2 r1 (SeqAt.canLay_of_shaped se) (SeqAt.canLay_of_shaped sd) (PyProof.Rows.room_in_shaped sd hu) ⟨.bl _, H, I, rfl, q⟩
def inD (xs : List D) (a : D) : Bool := xs.any fun z => deq z a
def opIn : D → D → Store → Res D := fun a b S => match deref S b with
  | .tup xs => if shal 20 a && shal 20 (.tup xs) then .ok (.bl (inD xs a)) S else .no
  | .lst xs => if shal 20 a && shal 20 (.lst xs) then .ok (.bl (inD xs a)) S else .no
  | _ => .no
def opNin : D → D → Store → Res D := fun a b S => match deref S b with
  | .tup xs => if shal 20 a && shal 20 (.tup xs) then .ok (.bl (!inD xs a)) S else .no
  | .lst xs => if shal 20 a && shal 20 (.lst xs) then .ok (.bl (!inD xs a)) S else .no
  | _ => .no
theorem any_py {xs : List D} {a : D} (h : ∀ x ∈ xs, shal 19 x = true) (ha : shal 20 a = true) : ((toPyL xs).any fun z => PyData.eqv z (toPy a)) = inD xs a := by
  rw [toPyL_map, List.any_map]
  unfold inD
  induction xs with
  | nil => rfl
  | cons x xs ih =>
    simp only [List.any_cons, Function.comp]
    rw [deq_py 19 20 x a (h x (by simp)) ha]
    have ih' := ih fun z hz => h z (by simp [hz])
    rw [ih']
theorem shal19 {xs : List D} (h : shal 20 (.tup xs) = true) : ∀ x ∈ xs, shal 19 x = true := by simpa [shal] using h
theorem shal19l {xs : List D} (h : shal 20 (.lst xs) = true) : ∀ x ∈ xs, shal 19 x = true := by simpa [shal] using h
theorem inQ {k : Nat} (hr : Room k X.A) : QR X cl E (compareOp .In) opIn := by
  have hu : X.A.units + 65 < cLine := by have := hr.un; omega
  refine ⟨_, OpR.or (op_inT (hu := hu)) (op_inD hu), fun a b S α G H x y Q hR ra rb h => ?_⟩
  unfold opIn at h
  have hd := @deref_dp (Γ := ⟨X.K, cl⟩) α G H S hR b y
  split at h
  · rename_i xs e
    rw [e] at hd
    split at h
    · rename_i hs
      rw [Bool.and_eq_true] at hs
      have s2 := shal_shaped hs.2
      have d2 := hd hs.2 rb
      simp only [toPy] at s2 d2
      exact .inl ⟨_, _, rep_dp (Γ := ⟨X.K, cl⟩) hR.sub 20 a x hs.1 ra, d2, shal_shaped hs.1, s2, by rw [any_py (shal19 hs.2) hs.1]; exact post_ok h hR (by simp [Rep])⟩
    · exact h.elim
  · rename_i xs e
    rw [e] at hd
    split at h
    · rename_i hs
      rw [Bool.and_eq_true] at hs
      have s2 := shal_shaped hs.2
      have d2 := hd hs.2 rb
      simp only [toPy] at s2 d2
      exact .inr ⟨_, _, rep_dp (Γ := ⟨X.K, cl⟩) hR.sub 20 a x hs.1 ra, d2, shal_shaped hs.1, s2, by rw [any_py (shal19l hs.2) hs.1]; exact post_ok h hR (by simp [Rep])⟩
    · exact h.elim
  · exact h.elim
theorem ninQ {k : Nat} (hr : Room k X.A) : QR X cl E (compareOp .NotIn) opNin := by
  have hu : X.A.units + 65 < cLine := by have := hr.un; omega
  refine ⟨_, OpR.or (op_ninT (hu := hu)) (op_notInD hu), fun a b S α G H x y Q hR ra rb h => ?_⟩
  unfold opNin at h
  have hd := @deref_dp (Γ := ⟨X.K, cl⟩) α G H S hR b y
  split at h
  · rename_i xs e
    rw [e] at hd
    split at h
    · rename_i hs
      rw [Bool.and_eq_true] at hs
      have s2 := shal_shaped hs.2
      have d2 := hd hs.2 rb
      simp only [toPy] at s2 d2
      exact .inl ⟨_, _, rep_dp (Γ := ⟨X.K, cl⟩) hR.sub 20 a x hs.1 ra, d2, shal_shaped hs.1, s2, by rw [any_py (shal19 hs.2) hs.1]; exact post_ok h hR (by simp [Rep])⟩
    · exact h.elim
  · rename_i xs e
    rw [e] at hd
    split at h
    · rename_i hs
      rw [Bool.and_eq_true] at hs
      have s2 := shal_shaped hs.2
      have d2 := hd hs.2 rb
      simp only [toPy] at s2 d2
      exact .inr ⟨_, _, rep_dp (Γ := ⟨X.K, cl⟩) hR.sub 20 a x hs.1 ra, d2, shal_shaped hs.1, s2, by rw [any_py (shal19l hs.2) hs.1]; exact post_ok h hR (by simp [Rep])⟩
    · exact h.elim
  · exact h.elim
inductive Ty where
  | int | bool | str | list | tuple
def Ty.nm : Ty → String
  | .int => "int" | .bool => "bool" | .str => "str" | .list => "list" | .tuple => "tuple"
/-- the type of data that is no instance of an own class -/
def tyN : D → String
  | .non => "NoneType" | .bl _ => "bool" | .int _ => "int" | .str _ => "str" | .tup _ => "tuple" | .lst _ => "list" | .fro _ => "list" | .ref _ => "list" | .obj _ _ => "object" | .exn _ _ => "object"
def isTy (T : Ty) : D → Bool
  | .bl _ => match T with | .int => true | .bool => true | _ => false
  | .int _ => match T with | .int => true | _ => false
  | .str _ => match T with | .str => true | _ => false
  | .tup _ => match T with | .tuple => true | _ => false
  | .lst _ | .fro _ | .ref _ => match T with | .list => true | _ => false
  | .non | .obj _ _ | .exn _ _ => false
def isOk (S : Store) : D → Bool
  | .obj _ _ => false
  | .exn _ _ => false
  | .ref k => (lstOf S (.ref k)).isSome
  | _ => true
theorem tyx_at {Γ : Gm} {α : List Addr} {G H : Hp} {S : Store} (R : Rl Γ α G S H) {d : D} {v : V} (r : Rep Γ α G d v) (h : isOk S d = true) : TyX Γ.K H v (.type (tyN d)) := by
  have lists : ∀ {a : Addr} {vs : List V}, SqL Γ.K H a vs → TyX Γ.K H (.ref a) (.type "list") := fun {a vs} q => by
    rcases q with (q | ⟨o, q⟩) | ⟨o, its, n, q, c, _⟩
    · exact .base (.lst q)
    · exact .base (.frz q)
    · exact .kList q c
  cases d with
  | non => simp only [Rep] at r; subst r; exact .base .non
  | bl b => simp only [Rep] at r; subst r; exact .base (.bl b)
  | int b => simp only [Rep] at r; subst r; exact .base (.int b)
  | str b => simp only [Rep] at r; subst r; exact .base (.str b)
  | tup xs =>
    obtain ⟨a, vs, rfl, q, _⟩ := tup_at R r
    rcases q with (q | ⟨o, q⟩) | ⟨o, its, n, q, c, _⟩
    · exact .base (.tup q)
    · exact .fTuple q
    · exact .kTuple q c
  | lst xs =>
    obtain ⟨a, vs, rfl, q, _⟩ := rdL_at R r (show rdL S (.lst xs) = some xs from rfl)
    exact lists q
  | fro xs =>
    obtain ⟨a, vs, rfl, q, _⟩ := rdL_at R r (show rdL S (.fro xs) = some xs from rfl)
    exact lists q
  | obj _ _ => simp [isOk] at h
  | exn _ _ => simp [isOk] at h
  | ref k =>
    obtain ⟨xs, hx⟩ := Option.isSome_iff_exists.mp h
    obtain ⟨a, vs, rfl, h1, _⟩ := lstOf_at R r hx
    exact lists (.inl (.inl h1))
theorem kit_at {S : Store} (T : Ty) (d : D) (h : isOk S d = true) {K : PySem.W.Frag} : PySem.W.kitOne K (.type (tyN d)) (.type T.nm) = some (isTy T d) := by
  cases d <;> first
    | (simp [isOk] at h; done)
    | (cases T <;> exact kit_ty (by dsimp only [tyN, isTy, Ty.nm]; decide +kernel))
def mIsi (T : Ty) (m : ME) : ME := fun ρ S => (m ρ S).bind fun d S1 => if isOk S1 d then .ok (.bl (isTy T d)) S1 else .no
/-- isinstance(e, T) -/
theorem q_isi (T : Ty) {x : Str} {p p2 : Pos} (h : QE X cl E a m) (hg : Gl X "isinstance") (hm : X.mg "isinstance" = none) (hg2 : Gl X x) (hm2 : X.mg x = none) (hv : bootBuiltins x = some (.type T.nm)) (hn : x ≠ "__name__" := by decide) (hdb : (x == ("__debug__" : Str)) = false := by decide)
    (hs1 : starEach [a, .Name x p2] X.env = (false, eval a X.env) :: starEach [.Name x p2] X.env := by rfl) (hs2 : starEach [.Name x p2] X.env = (false, eval (.Name x p2) X.env) :: starEach [] X.env := by rfl) (hpl : (backTo pos (starEach [.Name x p2] X.env)).any (·.1) = false := by rfl) :
    QE X cl E (.Call (.Name "isinstance" p) [a, .Name x p2] [] pos) (mIsi T m) := by
  obtain ⟨t, h1, h2⟩ := h.ex
  refine ⟨_, pe_callB call_isi hg hm (by decide +kernel) (pa_cons h1 (pa_cons (pe_bltn (v := .ty T.nm) hg2 hm2 hv rfl hn hdb) pa_nil hs2) hs1) (by decide) (by decide) hs1 hpl, fun ρ S σ α G H Q hρ hR hp => h2 ρ S σ α G H _ hρ hR (post_bind hp fun d S1 α1 G1 H1 v _ e1 R1 r1 hp1 => ?_)⟩
  split at hp1
  · rename_i hk
    exact ⟨v, .ty T.nm, .type (tyN d), .type T.nm, isTy T d, rfl, .ty _, tyx_at R1 r1 hk, kit_at T d hk, post_ok hp1 R1 (by simp [Rep])⟩
  · exact hp1.elim
def mIsi2 (T U : Ty) (m : ME) : ME := fun ρ S => (m ρ S).bind fun d S1 => if isOk S1 d then .ok (.bl (isTy T d || isTy U d)) S1 else .no
/-- isinstance(e, (T, U)) -/
theorem q_isi2 (T U : Ty) {x y : Str} {p p2 p3 p4 : Pos} {x1} (h : QE X cl E a m) (hg : Gl X "isinstance") (hm : X.mg "isinstance" = none) (hg2 : Gl X x) (hm2 : X.mg x = none) (hv : bootBuiltins x = some (.type T.nm)) (hg3 : Gl X y) (hm3 : X.mg y = none) (hv3 : bootBuiltins y = some (.type U.nm))
    (hn : x ≠ "__name__" := by decide) (hdb : (x == ("__debug__" : Str)) = false := by decide) (hn3 : y ≠ "__name__" := by decide) (hdb3 : (y == ("__debug__" : Str)) = false := by decide)
    (hs1 : starEach [a, .Tuple [.Name x p2, .Name y p3] x1 p4] X.env = (false, eval a X.env) :: starEach [.Tuple [.Name x p2, .Name y p3] x1 p4] X.env := by rfl) (hs2 : starEach [.Tuple [.Name x p2, .Name y p3] x1 p4] X.env = (false, eval (.Tuple [.Name x p2, .Name y p3] x1 p4) X.env) :: starEach [] X.env := by rfl)
    (hs3 : starEach [.Name x p2, .Name y p3] X.env = (false, eval (.Name x p2) X.env) :: starEach [.Name y p3] X.env := by rfl) (hs4 : starEach [.Name y p3] X.env = (false, eval (.Name y p3) X.env) :: starEach [] X.env := by rfl)
    (hpl : (backTo pos (starEach [.Tuple [.Name x p2, .Name y p3] x1 p4] X.env)).any (·.1) = false := by rfl) :
    QE X cl E (.Call (.Name "isinstance" p) [a, .Tuple [.Name x p2, .Name y p3] x1 p4] [] pos) (mIsi2 T U m) := by
  obtain ⟨t, h1, h2⟩ := h.ex
  refine ⟨_, pe_callB call_isiT hg hm (by decide +kernel) (pa_cons h1 (pa_cons (pe_tup (pa_cons (pe_bltn (v := .ty T.nm) hg2 hm2 hv rfl hn hdb) (pa_cons (pe_bltn (v := .ty U.nm) hg3 hm3 hv3 rfl hn3 hdb3) pa_nil hs4) hs3)) pa_nil hs2) hs1) (by decide) (by decide) hs1 hpl, fun ρ S σ α G H Q hρ hR hp => h2 ρ S σ α G H _ hρ hR (post_bind hp fun d S1 α1 G1 H1 v _ e1 R1 r1 hp1 => ?_)⟩
  split at hp1
  · rename_i hk
    refine ⟨sz (by simp), fun tp htp => ?_⟩
    obtain ⟨R2, e2⟩ := R1.out htp (.tup [.ty T.nm, .ty U.nm])
    refine ⟨v, tp, [.ty T.nm, .ty U.nm], .type (tyN d), [.type T.nm, .type U.nm], isTy T d || isTy U d, rfl, upd_same, .cons (.ty _) (.cons (.ty _) .nil), tyx_at R2 (Rep.mono e2.pre e2.sub _ _ r1) hk, ?_, hp1 _ _ _ _ e2 R2 (by simp [Rep])⟩
    refine kitAny_cons (kit_at T d hk) (fun e => ?_) (fun e => by rw [e]; rfl)
    refine kitAny_cons (kit_at U d hk) (fun e' => ?_) (fun e' => by rw [e']; simp)
    rw [e, e']
    exact kitAny_nil
  · exact hp1.elim
/-- the promise of a def by its function of data -/
def spM (Γ : Gm) (f : List D → Store → Res D) : Sp := fun vs H Q E => ∃ ds α G S, RepL Γ α G ds vs ∧ Rl Γ α G S H ∧ Post Γ (Rep Γ) α G H (f ds S) Q E
def nox {β : Type} : Res β → Res β
  | .ex _ _ => .no
  | r => r
@[simp] theorem nox_ok {β : Type} (a : β) (S : Store) : nox (Res.ok a S) = .ok a S := rfl
@[simp] theorem nox_no {β : Type} : nox (Res.no : Res β) = .no := rfl
/-- a def that lets no exception out, over the caller's cells -/
def fCall (f : List D → Store → Res D) : List D → Store → Res D := fun ds S => nox (f ds S)
mutual
def pureD : D → Bool
  | .ref _ => false
  | .tup xs => pureL xs
  | .lst xs => pureL xs
  | .fro xs => pureL xs
  | .obj _ fs => pureL fs
  | .exn _ fs => pureL fs
  | _ => true
def pureL : List D → Bool
  | [] => true
  | d :: ds => pureD d && pureL ds
end
/-- .. that sees no cell of the caller's -/
def fPure (f : List D → Store → Res D) : List D → Store → Res D := fun ds S => if pureL ds then match f ds [] with
  | .ok d [] => .ok d S
  | _ => .no
  else .no
mutual
theorem pure_rep {Γ : Gm} {α β : List Addr} {G : Hp} : ∀ (d : D) (v : V), pureD d = true → Rep Γ α G d v → Rep Γ β G d v
  | .non, v, _, h => by simpa [Rep] using h
  | .bl b, v, _, h => by simpa [Rep] using h
  | .int i, v, _, h => by simpa [Rep] using h
  | .str s, v, _, h => by simpa [Rep] using h
  | .tup ds, v, p, h => by
    unfold Rep at h ⊢
    obtain ⟨a, vs, e, q, r⟩ := h
    exact ⟨a, vs, e, q, pureL_rep ds vs (by simpa [pureD] using p) r⟩
  | .lst ds, v, p, h => by
    unfold Rep at h ⊢
    obtain ⟨a, vs, e, q, r⟩ := h
    exact ⟨a, vs, e, q, pureL_rep ds vs (by simpa [pureD] using p) r⟩
  | .fro ds, v, p, h => by
    unfold Rep at h ⊢
    obtain ⟨a, vs, e, q, r⟩ := h
    exact ⟨a, vs, e, q, pureL_rep ds vs (by simpa [pureD] using p) r⟩
  | .obj c ds, v, p, h => by
    unfold Rep at h ⊢
    obtain ⟨a, vs, e, q, r⟩ := h
    exact ⟨a, vs, e, q, pureL_rep ds vs (by simpa [pureD] using p) r⟩
  | .exn c ds, v, p, h => by
    unfold Rep at h ⊢
    obtain ⟨a, vs, e, q, r⟩ := h
    exact ⟨a, vs, e, q, pureL_rep ds vs (by simpa [pureD] using p) r⟩
  | .ref k, v, p, _ => by simp [pureD] at p
theorem pureL_rep {Γ : Gm} {α β : List Addr} {G : Hp} : ∀ (ds : List D) (vs : List V), pureL ds = true → RepL Γ α G ds vs → RepL Γ β G ds vs
  | [], vs, _, h => by simpa [RepL] using h
  | d :: ds, vs, p, h => by
    unfold RepL at h ⊢
    obtain ⟨v, r, e, h1, h2⟩ := h
    simp only [pureL, Bool.and_eq_true] at p
    exact ⟨v, r, e, pure_rep d v p.1 h1, pureL_rep ds r p.2 h2⟩
end
theorem nox_post {Γ : Gm} {α : List Addr} {G H : Hp} {r : Res D} {Q : VK} (h : Post Γ (Rep Γ) α G H (nox r) Q E) {E' : XK} : Post Γ (Rep Γ) α G H r Q E' := by
  cases r with
  | ok d S => exact h
  | ex e S => exact h.elim
  | no => exact h.elim
theorem sp_call {Γ : Gm} {f : List D → Store → Res D} : SndC Γ E (fun vs H Q => spM Γ f vs H Q E0) (fCall f) := fun ds S α G H vs Q hR r h => ⟨ds, α, G, S, r, hR, nox_post h⟩
/-- a state seen without its cells -/
theorem Rl.bare {Γ : Gm} {α : List Addr} {G H : Hp} {S : Store} (R : Rl Γ α G S H) : Rl Γ [] G [] H := ⟨R.sub, rfl, List.nodup_nil, fun a m => (by simp at m), fun k c a h => (by simp at h)⟩
theorem Rl.back {Γ : Gm} {α : List Addr} {G H G' H' : Hp} {S : Store} (R : Rl Γ α G S H) (R' : Rl Γ [] G' [] H') (e : Ext [] G H [] G' H') : Rl Γ α G' S H' ∧ Ext α G H α G' H' := by
  have keep : ∀ a o, H a = some o → H' a = some o := fun a o h => e.fr a o h (by simp)
  have gn : ∀ a, a ∈ α → G a = none → G' a = none := fun a m h => by
    cases q : G' a with
    | none => rfl
    | some o =>
      rcases e.ng a (by rw [q]; simp) with z | z | z | ⟨xs, z⟩
      · exact absurd h z
      · simp at z
      · exact absurd z (R.tr a m)
      · exact absurd z (R.ntup m xs)
  refine ⟨⟨R'.sub, R.len, R.nd, fun a m => ?_, fun k c a hc ha => ?_⟩, ⟨⟨[], by simp⟩, e.sub, fun a o h _ => keep a o h, fun a m => .inl m, fun a h => ?_⟩⟩
  · cases q : H a with
    | none => exact absurd q (R.tr a m)
    | some o => rw [keep a o q]; simp
  · have hm : a ∈ α := List.mem_of_getElem? ha
    refine (R.ok k c a hc ha).mono ⟨[], by simp⟩ e.sub fun _ => ⟨?_, gn a hm⟩
    cases q : H a with
    | none => exact absurd q (R.tr a hm)
    | some o => exact keep a o q
  · rcases e.ng a h with z | z | z
    · exact .inl z
    · simp at z
    · exact .inr (.inr z)
theorem sp_pure {Γ : Gm} {f : List D → Store → Res D} : SndC Γ E (fun vs H Q => spM Γ f vs H Q E0) (fPure f) := fun ds S α G H vs Q hR r h => by
  unfold fPure at h
  split at h
  · rename_i hp
    refine ⟨ds, [], G, [], pureL_rep ds vs hp r, hR.bare, ?_⟩
    cases q : f ds [] with
    | no => rw [q] at h; exact h.elim
    | ex e S' => rw [q] at h; exact h.elim
    | ok d S' =>
      rw [q] at h
      cases S' with
      | cons c T => exact h.elim
      | nil =>
        intro α' G' H' v e R' rv
        have ea : α' = [] := List.eq_nil_of_length_eq_zero (by rw [R'.len]; rfl)
        subst ea
        obtain ⟨R2, e2⟩ := hR.back R' e
        exact h α G' H' v e2 R2 (Rep.mono (α := []) ⟨α, by simp⟩ (Sub.refl _) _ _ rv)
  · exact h.elim
/-- f(e, ..), f a def of the module that lets no exception out -/
theorem q_call {g : List D → Store → Res D} {f : List D → Store → Res D} {k : Nat} {fa : Addr} {fd : FuncData} {ps : List Str} {x : Str} {p : Pos} {es : List Expr} {n : MA} (F : FnOk X.prog X.w X.K X.mg X.base CX0 k fa fd ps (spM ⟨X.K, cl⟩ f)) (hr : Room k X.A)
    (hg : Gl X x) (hm : X.mg x = some (.ref fa)) (hk : PySem.W.keepIn X.K (.ref fa) = true) (hb : Binds X.K fd ps []) (ha : QA X cl E (e :: es) n) (hf : SndC ⟨X.K, cl⟩ E (fun vs H Q => spM ⟨X.K, cl⟩ f vs H Q E0) g)
    (hdb : (x == ("__debug__" : Str)) = false := by decide) (he : starEach (e :: es) X.env = (false, eval e X.env) :: starEach es X.env := by rfl) (hpl : (backTo pos (starEach es X.env)).any (·.1) = false := by rfl) :
    QE X cl E (.Call (.Name x p) (e :: es) [] pos) (mCall g n) := by
  obtain ⟨t, h1, h2⟩ := ha.ex
  refine ⟨_, pe_call F hr hg hm hk hb .nil pass0 h1 hdb he hpl, fun ρ S σ α G H Q hρ hR hp => h2 ρ S σ α G H _ hρ hR (post_bind hp fun ds S1 α1 G1 H1 vs _ e1 R1 r1 hp1 => ?_)⟩
  rw [List.append_nil]
  exact hf ds S1 α1 G1 H1 vs Q R1 r1 hp1
theorem q_call0 {g : List D → Store → Res D} {f : List D → Store → Res D} {k : Nat} {fa : Addr} {fd : FuncData} {ps : List Str} {x : Str} {p : Pos} (F : FnOk X.prog X.w X.K X.mg X.base CX0 k fa fd ps (spM ⟨X.K, cl⟩ f)) (hr : Room k X.A)
    (hg : Gl X x) (hm : X.mg x = some (.ref fa)) (hk : PySem.W.keepIn X.K (.ref fa) = true) (hb : Binds X.K fd ps []) (hf : SndC ⟨X.K, cl⟩ E (fun vs H Q => spM ⟨X.K, cl⟩ f vs H Q E0) g)
    (hdb : (x == ("__debug__" : Str)) = false := by decide) :
    QE X cl E (.Call (.Name x p) [] [] pos) (mCall g mNil) := by
  refine ⟨_, pe_call0 F hr hg hm hk hb .nil pass0 hdb, fun ρ S σ α G H Q hρ hR hp => ?_⟩
  exact hf [] S α G H [] Q hR (by simp [RepL]) hp
end
end Q
namespace Q
open PySem L2
section
variable {X : Cx} {cl : Nat → Addr} {E : XK} {a b c e : Expr} {ma mb mc m : ME} {mt mu : MT} {pos : Pos} {st : Stmt} {rest : List Stmt} {n n' : MS}
def mSkip : MS := fun ρ S => .ok (.nx ρ) S
def mSeq (n n' : MS) : MS := fun ρ S => (n ρ S).bind fun f S1 => match f with
  | .nx ρ1 => n' ρ1 S1
  | f => .ok f S1
theorem snd_seq {Γ : Gm} {t u : TS} (h : SndS Γ E t n) (k : SndS Γ E u n') : SndS Γ E (tSeq t u) (mSeq n n') := fun ρ S σ α G H Dn hρ hR hp => by
  refine h ρ S σ α G H _ hρ hR ?_
  unfold mSeq at hp
  cases q : n ρ S with
  | no => rw [q] at hp; exact hp
  | ex e S' => rw [q] at hp; exact hp
  | ok f S' =>
    rw [q] at hp
    cases f with
    | nx ρ1 => exact fun α' G' H' σ' e1 R1 r1 => k ρ1 S' σ' α' G' H' Dn r1 R1 (PostS.mono hp e1)
    | rt d => exact hp
    | bk ρ1 => exact hp
    | ct ρ1 => exact hp
theorem qss_nil : QSs X cl E [] mSkip := ⟨_, pss_nil, fun ρ S σ α G H Dn hρ hR hp => hp α G H σ (Ext.refl _ _ _) hR hρ⟩
theorem qss_cons (h : QS X cl E st n) (k : QSs X cl E rest n') : QSs X cl E (st :: rest) (mSeq n n') := by
  obtain ⟨t, h1, h2⟩ := h.ex
  obtain ⟨u, k1, k2⟩ := k.ex
  exact ⟨_, pss_cons h1 k1, snd_seq h2 k2⟩
theorem qss_one (h : QS X cl E st n) : QSs X cl E [st] n := by
  obtain ⟨t, h1, h2⟩ := h.ex
  exact ⟨_, pss_one h1, h2⟩
theorem qs_pass : QS X cl E (.Pass pos) mSkip := ⟨_, ps_pass, fun ρ S σ α G H Dn hρ hR hp => hp α G H σ (Ext.refl _ _ _) hR hρ⟩
theorem qs_break : QS X cl E (.Break pos) (fun ρ S => .ok (.bk ρ) S) := ⟨_, ps_break, fun ρ S σ α G H Dn hρ hR hp => hp α G H σ (Ext.refl _ _ _) hR hρ⟩
theorem qs_continue : QS X cl E (.Continue pos) (fun ρ S => .ok (.ct ρ) S) := ⟨_, ps_continue, fun ρ S σ α G H Dn hρ hR hp => hp α G H σ (Ext.refl _ _ _) hR hρ⟩
def mDrop (m : ME) : MS := fun ρ S => (m ρ S).bind fun _ S1 => .ok (.nx ρ) S1
theorem qs_expr (h : QE X cl E e m) (hs : swapsWith e none pos.line X.env = pure false := by rfl) : QS X cl E (.Expr e pos) (mDrop m) := by
  obtain ⟨t, h1, h2⟩ := h.ex
  exact ⟨_, ps_expr h1 hs, fun ρ S σ α G H Dn hρ hR hp => h2 ρ S σ α G H _ hρ hR (posts_bind hp fun d S1 α1 G1 H1 v _ e1 R1 r1 hp1 => hp1 α1 G1 H1 σ (Ext.refl _ _ _) R1 (hρ.mono e1))⟩
def mRet (m : ME) : MS := fun ρ S => (m ρ S).bind fun d S1 => .ok (.rt d) S1
theorem qs_ret (h : QE X cl E e m) : QS X cl E (.Return (some e) pos) (mRet m) := by
  obtain ⟨t, h1, h2⟩ := h.ex
  exact ⟨_, ps_ret h1, fun ρ S σ α G H Dn hρ hR hp => h2 ρ S σ α G H _ hρ hR (posts_bind hp fun d S1 α1 G1 H1 v _ e1 R1 r1 hp1 => hp1 α1 G1 H1 v (Ext.refl _ _ _) R1 r1)⟩
theorem qs_retN : QS X cl E (.Return none pos) (fun ρ S => .ok (.rt .non) S) := ⟨_, ps_retN, fun ρ S σ α G H Dn hρ hR hp => hp α G H .non (Ext.refl _ _ _) hR (by simp [Rep])⟩
def mIf (t : MT) (n n' : MS) : MS := fun ρ S => (t ρ S).bind fun b S1 => match b with
  | true => n ρ S1
  | false => n' ρ S1
theorem qs_if {c : Expr} {sa sb : List Stmt} (hc : QT X cl E c mt) (ha : QSs X cl E sa n) (hb : QSs X cl E sb n') : QS X cl E (.If c sa sb pos) (mIf mt n n') := by
  obtain ⟨t, h1, h2⟩ := hc.ex
  obtain ⟨u, k1, k2⟩ := ha.ex
  obtain ⟨w, l1, l2⟩ := hb.ex
  refine ⟨_, ps_if h1 k1 l1, fun ρ S σ α G H Dn hρ hR hp => h2 ρ S σ α G H _ hρ hR (posts_bind hp fun b S1 α1 G1 H1 v _ e1 R1 r1 hp1 => ?_)⟩
  have r1 : b = v := r1
  subst r1
  cases b with
  | true => exact iteT (k2 ρ S1 σ α1 G1 H1 Dn (hρ.mono e1) R1 hp1)
  | false => exact iteF (l2 ρ S1 σ α1 G1 H1 Dn (hρ.mono e1) R1 hp1)
abbrev MG := D → Env → Store → Res Env
abbrev MGs := List D → Env → Store → Res Env
/-- js: the slots that the target stores -/
def SndG (Γ : Gm) (E : XK) (g : TG) (mg : MG) (js : List Nat) : Prop := ∀ (d : D) (ρ : Env) (S : Store) (σ : L2.St) (α : List Addr) (G H : Hp) (v : V) (Q : L2.St → Hp → Prop), EnvR Γ α G ρ σ → Rl Γ α G S H → Rep Γ α G d v →
  Post Γ (EnvR Γ) α G H (mg d ρ S) (fun σ' H' => σ'.length = σ.length ∧ (∀ i, i ∉ js → σ'[i]? = σ[i]?) → Q σ' H') E → g v σ H Q
def SndGs (Γ : Gm) (E : XK) (g : TGs) (mg : MGs) (js : List Nat) : Prop := ∀ (ds : List D) (ρ : Env) (S : Store) (σ : L2.St) (α : List Addr) (G H : Hp) (vs : List V) (Q : L2.St → Hp → Prop), EnvR Γ α G ρ σ → Rl Γ α G S H → RepL Γ α G ds vs →
  Post Γ (EnvR Γ) α G H (mg ds ρ S) (fun σ' H' => σ'.length = σ.length ∧ (∀ i, i ∉ js → σ'[i]? = σ[i]?) → Q σ' H') E → g vs σ H Q
structure QG (X : Cx) (cl : Nat → Addr) (E : XK) (tg : Expr) (mg : MG) (js : List Nat) : Prop where
  ex : ∃ g, PG X tg g ∧ SndG ⟨X.K, cl⟩ E g mg js
structure QGs (X : Cx) (cl : Nat → Addr) (E : XK) (tgs : List Expr) (mg : MGs) (js : List Nat) : Prop where
  ex : ∃ g, PGs X tgs g ∧ SndGs ⟨X.K, cl⟩ E g mg js
def mgN (i : Nat) : MG := fun d ρ S => .ok (ρ.set i (some d)) S
theorem qg_name (i : Nat) {x : Str} (hN : X.N.Nodup) (hi : X.N[i]? = some x := by rfl) (hx : Loc X.env.scope x := by first | exact .inl rfl | exact .inr rfl) (hf : X.fn x = true ∨ X.env.scope.names.lookup x = some .local := by first | exact .inl rfl | exact .inr rfl) : QG X cl E (.Name x pos) (mgN i) [i] := by
  refine ⟨_, pg_name hN hi hx hf, fun d ρ S σ α G H v Q hρ hR r hp => ?_⟩
  refine post_ok (x := σ.set i (some v)) hp hR (hρ.set i r) ⟨by simp, fun j hj => ?_⟩
  rw [List.getElem?_set_ne]
  simpa using fun e => hj (by simp [e])
def mgNil : MGs := fun ds ρ S => match ds with
  | [] => .ok ρ S
  | _ => .no
def mgCons (g : MG) (gs : MGs) : MGs := fun ds ρ S => match ds with
  | [] => .no
  | d :: ds => (g d ρ S).bind fun ρ1 S1 => gs ds ρ1 S1
theorem qgs_nil : QGs X cl E [] mgNil [] := by
  refine ⟨_, pgs_nil, fun ds ρ S σ α G H vs Q hρ hR r hp => ?_⟩
  cases ds with
  | cons d ds => exact hp.elim
  | nil =>
    unfold RepL at r
    exact ⟨r, post_ok (x := σ) hp hR hρ ⟨rfl, fun _ _ => rfl⟩⟩
theorem qgs_cons {tg : Expr} {tgs : List Expr} {g : MG} {gs : MGs} {js ks : List Nat} (h : QG X cl E tg g js) (k : QGs X cl E tgs gs ks) (hs : (assignEach (tg :: tgs) X.env).map (·.2) = assign tg X.env :: (assignEach tgs X.env).map (·.2) := by rfl) : QGs X cl E (tg :: tgs) (mgCons g gs) (js ++ ks) := by
  obtain ⟨t, h1, h2⟩ := h.ex
  obtain ⟨u, k1, k2⟩ := k.ex
  refine ⟨_, pgs_cons h1 k1 hs, fun ds ρ S σ α G H vs Q hρ hR r hp => ?_⟩
  cases ds with
  | nil => exact hp.elim
  | cons d ds =>
    unfold RepL at r
    obtain ⟨v, w, rfl, r1, r2⟩ := r
    refine ⟨v, w, rfl, h2 d ρ S σ α G H v _ hρ hR r1 (post_bind hp fun ρ1 S1 α1 G1 H1 σ1 _ e1 R1 q1 hp1 => fun ⟨l1, o1⟩ => ?_)⟩
    refine k2 ds ρ1 S1 σ1 α1 G1 H1 w _ q1 R1 (RepL.mono e1.pre e1.sub _ _ r2) ?_
    revert hp1
    cases gs ds ρ1 S1 with
    | no => exact id
    | ex e S' => exact id
    | ok ρ2 S2 => exact fun hp1 α' G' H' σ' e R r c => hp1 α' G' H' σ' e R r ⟨by rw [c.1, l1], fun i hi => by rw [c.2 i (fun z => hi (List.mem_append_right _ z)), o1 i (fun z => hi (List.mem_append_left _ z))]⟩
def mgTup (k : Nat) (gs : MGs) : MG := fun d ρ S => match seqOf S d with
  | some ds => if ds.length = k then gs ds ρ S else .no
  | none => .no
theorem PG.or {tg : Expr} {t u : TG} (h : PG X tg t) (h' : PG X tg u) : PG X tg (fun v σ H Q => t v σ H Q ∨ u v σ H Q) := ⟨fun pins s σ H v w Q I r q => q.elim (fun q => h.run pins s σ H v w Q I r q) (fun q => h'.run pins s σ H v w Q I r q)⟩
theorem qg_tup (k : Nat) {es : List Expr} {x1 : Nat} {gs : MGs} {js : List Nat} (h : QGs X cl E es gs js) (hc : X.calm = true := by rfl) (hn : (assignEach es X.env).length = k := by rfl) (hst : (assignEach es X.env).findIdx? (·.1) = none := by rfl) : QG X cl E (.Tuple es x1 pos) (mgTup k gs) js := by
  obtain ⟨t, h1, h2⟩ := h.ex
  refine ⟨_, PG.or (pg_tup hc h1 hn hst) (pg_lst hc h1 hn hst), fun d ρ S σ α G H v Q hρ hR r hp => ?_⟩
  unfold mgTup at hp
  cases q : seqOf S d with
  | none => simp [q, Post] at hp
  | some ds =>
    simp only [q] at hp
    split at hp
    · rename_i hk
      obtain ⟨p, vs, rfl, q1, r1⟩ := seqOf_at hR r q
      have hl : vs.length = k := by rw [← r1.length]; exact hk
      rcases q1 with q1 | q1
      · exact .inr ⟨p, vs, rfl, q1, hl, h2 ds ρ S σ α G H vs Q hρ hR r1 hp⟩
      · exact .inl ⟨p, vs, rfl, q1, hl, h2 ds ρ S σ α G H vs Q hρ hR r1 hp⟩
    · exact hp.elim
/-- cell[i] = .. -/
def setIx (o i : D) (d : D) (S : Store) : Res Unit := match o, i with
  | .ref k, .int j => match S[k]? with
    | some (.lst xs) => match ixN xs.length j with
      | some jj => .ok () (S.set k (.lst (xs.set jj d)))
      | none => .no
    | _ => .no
  | _, _ => .no
def mgSub (mo mi : ME) : MG := fun d ρ S => (mo ρ S).bind fun o S1 => (mi ρ S1).bind fun i S2 => (setIx o i d S2).bind fun _ S3 => .ok ρ S3
theorem qg_sub {o i : Expr} {mo mi : ME} (ho : QE X cl E o mo) (hi : QE X cl E i mi)
    (ha : ∀ v, assign (.Subscript o i pos) X.env v = (do
      let ov ← holding [v] (eval o X.env)
      let iv ← holding [v, ov] (eval i X.env)
      standAt pos
      holding [v, ov, iv] (setItem ov iv v)
      release [v, ov, iv] []) := by intro _; rfl) : QG X cl E (.Subscript o i pos) (mgSub mo mi) [] := by
  obtain ⟨t, h1, h2⟩ := ho.ex
  obtain ⟨u, k1, k2⟩ := hi.ex
  refine ⟨_, pg_sub h1 k1 set_list ha, fun d ρ S σ α G H v Q hρ hR r hp => ?_⟩
  refine h2 ρ S σ α G H _ hρ hR (post_bind hp fun od S1 α1 G1 H1 ov q1 e1 R1 r1 hp1 => ?_)
  clear q1
  refine k2 ρ S1 σ α1 G1 H1 _ (hρ.mono e1) R1 (post_bind hp1 fun id S2 α2 G2 H2 iv q2 e2 R2 r2 hp2 => ?_)
  clear q2
  have r0 : Rep ⟨X.K, cl⟩ α2 G2 d v := Rep.mono e2.pre e2.sub _ _ (Rep.mono e1.pre e1.sub _ _ r)
  have ro : Rep ⟨X.K, cl⟩ α2 G2 od ov := Rep.mono e2.pre e2.sub _ _ r1
  cases od <;> try exact hp2.elim
  rename_i kk
  cases id <;> try exact hp2.elim
  rename_i j
  simp only [setIx] at hp2
  unfold Rep at ro
  obtain ⟨p, rfl, hp'⟩ := ro
  simp only [Rep] at r2
  cases hc : S2[kk]? with
  | none => simp [hc, Post] at hp2
  | some c =>
    cases c with
    | frz xs => simp [hc, Post] at hp2
    | dk l xs => simp [hc, Post] at hp2
    | dt l xs => simp [hc, Post] at hp2
    | ob l xs => simp [hc, Post] at hp2
    | lst xs =>
      simp only [hc] at hp2
      cases hj : ixN xs.length j with
      | none => simp [hj, Post] at hp2
      | some jj =>
        simp only [hj, bind_ok] at hp2
        obtain ⟨vs, q1, q2, q3⟩ := (R2.ok kk _ p hc hp').lst
        obtain ⟨R3, e3⟩ := R2.put hc hp' (q2.set jj r0)
        refine ⟨p, vs, j, jj, rfl, r2, q1, by rw [← q2.length]; exact hj, ?_⟩
        exact hp2 _ _ _ σ e3 R3 (((hρ.mono e1).mono e2).mono e3) ⟨rfl, fun _ _ => rfl⟩
def mAsg (m : ME) (g : MG) : MS := fun ρ S => (m ρ S).bind fun d S1 => (g d ρ S1).bind fun ρ1 S2 => .ok (.nx ρ1) S2
theorem snd_asg {Γ : Gm} {t : TE} {g : TG} {mg : MG} {js : List Nat} (h : SndE Γ E t m) (k : SndG Γ E g mg js) : SndS Γ E (tAsg t g) (mAsg m mg) := fun ρ S σ α G H Dn hρ hR hp =>
  h ρ S σ α G H _ hρ hR (posts_bind hp fun d S1 α1 G1 H1 v _ e1 R1 r1 hp1 =>
    k d ρ S1 σ α1 G1 H1 v _ (hρ.mono e1) R1 r1 (posts_bind hp1 fun ρ1 S2 α2 G2 H2 σ2 _ e2 R2 q2 hp2 => fun _ => hp2 α2 G2 H2 σ2 (Ext.refl _ _ _) R2 q2))
theorem qs_asg {tg : Expr} {mg : MG} {js : List Nat} (h : QE X cl E e m) (k : QG X cl E tg mg js) (hs : swapsWithSole [tg] e pos.line X.env = pure false := by rfl) (hw : swappedStores [tg] e X.env = pure none := by rfl)
    (h1 : (assignEach [tg] X.env).map (·.2) = [assign tg X.env] := by rfl) : QS X cl E (.Assign [tg] e pos) (mAsg m mg) := by
  obtain ⟨t, a1, a2⟩ := h.ex
  obtain ⟨g, b1, b2⟩ := k.ex
  exact ⟨_, ps_asg a1 b1 hs hw h1, snd_asg a2 b2⟩
theorem sndg_name {Γ : Gm} (i : Nat) : SndG Γ E (gName i) (mgN i) [i] := fun d ρ S σ α G H v Q hρ hR r hp => by
  refine post_ok (x := σ.set i (some v)) hp hR (hρ.set i r) ⟨by simp, fun j hj => ?_⟩
  rw [List.getElem?_set_ne]
  simpa using fun e => hj (by simp [e])
theorem qs_set (i : Nat) {x : Str} {px : Pos} (h : QE X cl E e m) (hN : X.N.Nodup) (hi : X.N[i]? = some x := by rfl) (hx : Loc X.env.scope x := by first | exact .inl rfl | exact .inr rfl) (hs : swapsWith e (some (.Name x px)) pos.line X.env = pure false := by rfl) (hf : X.fn x = true ∨ X.env.scope.names.lookup x = some .local := by first | exact .inl rfl | exact .inr rfl) :
    QS X cl E (.Assign [.Name x px] e pos) (mAsg m (mgN i)) := by
  obtain ⟨t, a1, a2⟩ := h.ex
  exact ⟨_, ps_set hN hi hx a1 hs hf, snd_asg a2 (sndg_name i)⟩
/-- a, b = x, y with plain local names -/
def mPar (i j : Nat) (n : MA) : MS := fun ρ S => (n ρ S).bind fun ds S1 => match ds with
  | [d, d'] => .ok (.nx ((ρ.set i (some d)).set j (some d'))) S1
  | _ => .no
theorem qs_par (i j : Nat) {x y : Str} {px py pt : Pos} {kt k2 pt2} {na : MA} (hN : X.N.Nodup) (ha : QA X cl E [a, b] na) (hi : X.N[i]? = some x := by rfl) (hj : X.N[j]? = some y := by rfl) (hij : i ≠ j := by decide)
    (hx : X.env.scope.names.lookup x = some .local := by rfl) (hy : X.env.scope.names.lookup y = some .local := by rfl) (hw : swappedStores [.Tuple [.Name x px, .Name y py] kt pt] (.Tuple [a, b] k2 pt2) X.env = pure (some [x, y]) := by rfl)
    (hs : swapsWithSole [.Tuple [.Name x px, .Name y py] kt pt] (.Tuple [a, b] k2 pt2) pos.line X.env = pure false := by rfl) (hc : X.calm = true := by rfl) : QS X cl E (.Assign [.Tuple [.Name x px, .Name y py] kt pt] (.Tuple [a, b] k2 pt2) pos) (mPar i j na) := by
  obtain ⟨t, h1, h2⟩ := ha.ex
  refine ⟨_, ps_par hc hN hi hj hij hx hy h1 hw hs, fun ρ S σ α G H Dn hρ hR hp => h2 ρ S σ α G H _ hρ hR (posts_bind hp fun ds S1 α1 G1 H1 vs _ e1 R1 r1 hp1 => ?_)⟩
  match ds, hp1, r1 with
  | [d, d'], hp1, r1 =>
    obtain ⟨v, v', rfl, rv, rv'⟩ := repL2 r1
    exact ⟨v, v', rfl, hp1 α1 G1 H1 _ (Ext.refl _ _ _) R1 (((hρ.mono e1).set i rv).set j rv')⟩
  | [], hp1, _ => exact hp1.elim
  | [_], hp1, _ => exact hp1.elim
  | _ :: _ :: _ :: _, hp1, _ => exact hp1.elim
/-- x += e, ints -/
def mAugI (i : Nat) (f : Int → Int → Int) (m : ME) : MS := fun ρ S => match ρ[i]? with
  | some (some (.int x)) => (m ρ S).bind fun d S1 => match d with
    | .int y => .ok (.nx (ρ.set i (some (.int (f x y))))) S1
    | _ => .no
  | _ => .no
theorem qs_augI (i : Nat) {f : Int → Int → Int} {x : Str} {px : Pos} {op : Operator} (ho : PIp X op (ipI f)) (h : QE X cl E e m) (hN : X.N.Nodup) (hi : X.N[i]? = some x := by rfl) (hx : Loc X.env.scope x := by first | exact .inl rfl | exact .inr rfl) (hf : X.fn x = true ∨ X.env.scope.names.lookup x = some .local := by first | exact .inl rfl | exact .inr rfl) :
    QS X cl E (.AugAssign (.Name x px) op e pos) (mAugI i f m) := by
  obtain ⟨t, h1, h2⟩ := h.ex
  refine ⟨_, ps_aug hN hi hx h1 ho hf, fun ρ S σ α G H Dn hρ hR hp => ?_⟩
  unfold mAugI at hp
  split at hp
  · rename_i z q
    obtain ⟨v, hv, rv⟩ := hρ.2 i _ q
    simp only [Rep] at rv
    subst rv
    refine ⟨_, hv, h2 ρ S σ α G H _ hρ hR (posts_bind hp fun d S1 α1 G1 H1 w q1 e1 R1 r1 hp1 => ?_)⟩
    clear q1
    cases d <;> try exact hp1.elim
    rename_i y
    simp only [Rep] at r1
    exact ⟨z, y, rfl, r1, hp1 α1 G1 H1 _ (Ext.refl _ _ _) R1 ((hρ.mono e1).set i (by simp [Rep]))⟩
  · exact hp.elim
def appTo (k : Nat) (d : D) (S : Store) : Res D := match S[k]? with
  | some (.lst xs) => if xs.length < 100000 then .ok .non (S.set k (.lst (xs ++ [d]))) else .no
  | _ => .no
/-- the k-th cell is a list (if it is any) -/
def notOb (S : Store) (k : Nat) : Bool := match S[k]? with
  | some (.dk _ _) => false
  | some (.dt _ _) => false
  | some (.ob _ _) => false
  | _ => true
def mApp (mo m : ME) : ME := fun ρ S => (mo ρ S).bind fun o S1 => match o with
  | .ref k => if notOb S1 k = true then (m ρ S1).bind fun d S2 => appTo k d S2 else .no
  | _ => .no
theorem listy {Γ : Gm} {α : List Addr} {G H : Hp} {S : Store} (R : Rl Γ α G S H) {k : Nat} {v : V} (r : Rep Γ α G (.ref k) v) (h : notOb S k = true) : ∃ p, v = .ref p ∧ α[k]? = some p ∧ tyV Γ.K "list" (.ref p) H := by
  unfold Rep at r
  obtain ⟨p, rfl, hp'⟩ := r
  have hk : k < S.length := by rw [← R.len]; exact (List.getElem?_eq_some_iff.mp hp').1
  have hc : S[k]? = some S[k] := List.getElem?_eq_getElem hk
  have z := R.ok k S[k] p hc hp'
  unfold notOb at h
  rw [hc] at h
  cases q : S[k] with
  | lst xs =>
    rw [q] at z
    obtain ⟨vs, q1, _⟩ := z.lst
    exact ⟨p, rfl, hp', .inl ⟨rfl, vs, .inl (.inl q1)⟩⟩
  | frz xs =>
    rw [q] at z
    obtain ⟨vs, q1, _⟩ := z.frz
    exact ⟨p, rfl, hp', .inl ⟨rfl, vs, .inl (.inl (R.sub _ _ q1))⟩⟩
  | _ => rw [q] at h; cases h
theorem q_app {o : Expr} {mo : ME} {apos cpos : Pos} (ho : QE X cl E o mo) (he : QE X cl E e m) (hbase : attributeBase o "append" X.env (eval o X.env) = eval o X.env := by rfl)
    (hfew : ((backTo cpos (starEach [e] X.env)).all (fun x => !x.1) && (backToKw cpos (keywordEach [] X.env)).all (fun x => x.1.isSome)
      && decide (([e] : List Expr).length + ([] : List Keyword).length + (if ([] : List Keyword).isEmpty then 0 else 1) < 30)) = true := by rfl)
    (hline : (apos.endLine == cpos.line) = true := by rfl) (hs : starEach [e] X.env = (false, eval e X.env) :: starEach [] X.env := by rfl) (hplain : (backTo cpos (starEach [] X.env)).any (·.1) = false := by rfl) :
    QE X cl E (.Call (.Attribute o "append" apos) [e] [] cpos) (mApp mo m) := by
  obtain ⟨t, h1, h2⟩ := ho.ex
  obtain ⟨u, k1, k2⟩ := he.ex
  refine ⟨_, pe_bm PySem.F.plainAttrs_list PySem.F.slot_list_append PySem.F.type_list_append mt_append h1 (pa_cons k1 pa_nil hs) hbase hfew hline hs hplain, fun ρ S σ α G H Q hρ hR hp => ?_⟩
  refine h2 ρ S σ α G H _ hρ hR (post_bind hp fun od S1 α1 G1 H1 ov q1 e1 R1 r1 hp1 => ?_)
  clear q1
  cases od <;> try exact hp1.elim
  rename_i kk
  dsimp only at hp1
  split at hp1
  case isFalse => exact hp1.elim
  rename_i hno
  obtain ⟨p, rfl, ha1, htv⟩ := listy R1 r1 hno
  refine ⟨htv, ?_⟩
  refine k2 ρ S1 σ α1 G1 H1 _ (hρ.mono e1) R1 (post_bind hp1 fun d S2 α2 G2 H2 v q2 e2 R2 r2 hp2 => ?_)
  have hp' : α2[kk]? = some p := by
    obtain ⟨β, rfl⟩ := e2.pre
    rw [List.getElem?_append_left (List.getElem?_eq_some_iff.mp ha1).1]
    exact ha1
  unfold appTo at hp2
  cases hc : S2[kk]? with
  | none => simp [hc, Post] at hp2
  | some c =>
    cases c with
    | frz xs => simp [hc, Post] at hp2
    | dk l xs => simp [hc, Post] at hp2
    | dt l xs => simp [hc, Post] at hp2
    | ob l xs => simp [hc, Post] at hp2
    | lst xs =>
      simp only [hc] at hp2
      split at hp2
      · rename_i hl
        obtain ⟨vs, q1, q2, q3⟩ := (R2.ok kk _ p hc hp').lst
        obtain ⟨R3, e3⟩ := R2.put hc hp' (q2.append (show RepL ⟨X.K, cl⟩ α2 G2 [d] [v] by unfold RepL; exact ⟨v, [], rfl, r2, by simp [RepL]⟩))
        exact ⟨p, vs, v, rfl, rfl, q1, by rw [← q2.length]; exact Nat.lt_of_lt_of_le hl (by decide), hp2 _ _ _ .non e3 R3 (by simp [Rep])⟩
      · exact hp2.elim
def whileF (t : MT) (b : MS) : Nat → MS
  | 0 => fun _ _ => .no
  | k + 1 => fun ρ S => (t ρ S).bind fun c S1 => match c with
    | false => .ok (.nx ρ) S1
    | true => (b ρ S1).bind fun f S2 => match f with
      | .nx ρ1 => whileF t b k ρ1 S2
      | .ct ρ1 => whileF t b k ρ1 S2
      | .bk ρ1 => .ok (.nx ρ1) S2
      | .rt d => .ok (.rt d) S2
def mWhile (fuel : Env → Store → Nat) (t : MT) (b : MS) : MS := fun ρ S => whileF t b (fuel ρ S) ρ S
theorem snd_while {Γ : Gm} {fuel : Env → Store → Nat} {tc : TT} {tb : TS} (h : SndT Γ E tc mt) (k : SndS Γ E tb n) : SndS Γ E (tWhile tc tb) (mWhile fuel mt n) := fun ρ S σ α G H Dn hρ hR hp => by
  refine ⟨fun j σ H => ∃ ρ S α G, EnvR Γ α G ρ σ ∧ Rl Γ α G S H ∧ PostS Γ E α G H (whileF mt n j ρ S) Dn, ⟨_, ρ, S, α, G, hρ, hR, hp⟩, ?_⟩
  rintro j σ H ⟨ρ, S, α, G, hρ, hR, hp⟩
  cases j with
  | zero => exact hp.elim
  | succ j =>
    refine h ρ S σ α G H _ hρ hR (posts_bind hp fun c S1 α1 G1 H1 c' _ e1 R1 r1 hp1 => ?_)
    have r1 : c = c' := r1
    subst r1
    cases c with
    | false => exact iteF (hp1 α1 G1 H1 σ (Ext.refl _ _ _) R1 (hρ.mono e1))
    | true =>
      refine iteT ⟨fun σ' H' => ∃ m', m' < j + 1 ∧ ∃ ρ S α G, EnvR Γ α G ρ σ' ∧ Rl Γ α G S H' ∧ PostS Γ E α G H' (whileF mt n m' ρ S) Dn, fun σ' H' z => z, ?_⟩
      refine k ρ S1 σ α1 G1 H1 _ (hρ.mono e1) R1 ?_
      simp only at hp1
      cases q : n ρ S1 with
      | no => rw [q] at hp1; exact hp1
      | ex e S' => rw [q] at hp1; exact hp1
      | ok f S2 =>
        rw [q] at hp1
        cases f with
        | nx ρ1 => exact fun α2 G2 H2 σ2 e2 R2 r2 => ⟨j, Nat.lt_succ_self j, ρ1, S2, α2, G2, r2, R2, PostS.mono hp1 e2⟩
        | ct ρ1 => exact fun α2 G2 H2 σ2 e2 R2 r2 => ⟨j, Nat.lt_succ_self j, ρ1, S2, α2, G2, r2, R2, PostS.mono hp1 e2⟩
        | bk ρ1 => exact hp1
        | rt d => exact hp1
theorem qs_while (fuel : Env → Store → Nat) {c : Expr} {body : List Stmt} (hc : QT X cl E c mt) (hb : QSs X cl E body n) (hp : PassesOwn (model X.prog X.w) X.A X.env X.xe := by exact PassesOwn.never) : QS X cl E (.While c body [] pos) (mWhile fuel mt n) := by
  obtain ⟨t, h1, h2⟩ := hc.ex
  obtain ⟨u, k1, k2⟩ := hb.ex
  exact ⟨_, ps_while hp h1 k1, snd_while h2 k2⟩
/-- an iterator yields the data ds wherever the data of the start still stand -/
def Steps (Γ : Gm) (α : List Addr) (G : Hp) (ds : List D) (J : It) : Prop := ∀ (i : Nat) (α2 : List Addr) (G2 H2 : Hp) (S2 : Store), (∃ β, α2 = α ++ β) → Sub G G2 → Rl Γ α2 G2 S2 H2 →
  (ds.length ≤ i → J.stop i H2) ∧ ∀ d, ds[i]? = some d → J.go i H2 ∧ ∀ x H3, J.yld i H2 x H3 → ∃ G3, Rl Γ α2 G3 S2 H3 ∧ Ext α2 G2 H2 α2 G3 H3 ∧ Rep Γ α2 G3 d x
def PostI (Γ : Gm) (E : XK) (α : List Addr) (G H : Hp) (r : Res (List D)) (R : It → Hp → Prop) : Prop := match r with
  | .ok ds S' => ∀ α' G' H' J, Ext α G H α' G' H' → Rl Γ α' G' S' H' → Steps Γ α' G' ds J → R J H'
  | .ex e S' => ∀ α' G' H' c x, Ext α G H α' G' H' → Rl Γ α' G' S' H' → ExR Γ α' G' e c x H' → E c x H'
  | .no => False
theorem PostI.mono {Γ : Gm} {α α1 : List Addr} {G H G1 H1 : Hp} {r : Res (List D)} {R : It → Hp → Prop} (h : PostI Γ E α G H r R) (e : Ext α G H α1 G1 H1) : PostI Γ E α1 G1 H1 r R := by
  cases r with
  | ok d S' => exact fun α' G' H' v x rl rp => h α' G' H' v (e.trans x) rl rp
  | ex d S' => exact fun α' G' H' c x y rl rp => h α' G' H' c x (e.trans y) rl rp
  | no => exact h
theorem posti_bind {Γ : Gm} {β γ : Type} {R : List Addr → Hp → β → γ → Prop} {α : List Addr} {G H : Hp} {r : Res β} {f : β → Store → Res (List D)} {RI : It → Hp → Prop} {Q : γ → Hp → Prop} (h : PostI Γ E α G H (r.bind f) RI)
    (k : ∀ a S1 α1 G1 H1 x, r = .ok a S1 → Ext α G H α1 G1 H1 → Rl Γ α1 G1 S1 H1 → R α1 G1 a x → PostI Γ E α1 G1 H1 (f a S1) RI → Q x H1) : Post Γ R α G H r Q E := by
  cases r with
  | ok d S' =>
    intro α' G' H' v e rl rp
    exact k d S' α' G' H' v rfl e rl rp (PostI.mono h e)
  | ex e S' => exact h
  | no => exact h
def SndI (Γ : Gm) (E : XK) (wi : TI) (mi : MA) : Prop := ∀ (ρ : Env) (S : Store) (σ : L2.St) (α : List Addr) (G H : Hp) (R : It → Hp → Prop), EnvR Γ α G ρ σ → Rl Γ α G S H → PostI Γ E α G H (mi ρ S) R → wi σ H R
structure QI (X : Cx) (cl : Nat → Addr) (E : XK) (tg iter : Expr) (mi : MA) : Prop where
  ex : ∃ wi, PI X tg iter wi ∧ SndI ⟨X.K, cl⟩ E wi mi
theorem PI.or {tg it : Expr} {t u : TI} (h : PI X tg it t) (h' : PI X tg it u) : PI X tg it (fun σ H R => t σ H R ∨ u σ H R) := ⟨fun pins s σ H R I q => q.elim (fun q => h.run pins s σ H R I q) (fun q => h'.run pins s σ H R I q)⟩
/-- a list or a tuple that changes no more -/
def itemsOf : D → Store → Res (List D) := fun d S => match d with
  | .tup xs => .ok xs S
  | .lst xs => .ok xs S
  | .fro xs => .ok xs S
  | _ => .no
def mItems (m : ME) : MA := fun ρ S => (m ρ S).bind itemsOf
theorem steps_list {Γ : Gm} {α : List Addr} {G : Hp} {ds : List D} {a : Addr} {vs : List V} (h : SqL Γ.K G a vs) (r : RepL Γ α G ds vs) : Steps Γ α G ds (Itl Γ.K a) := fun i α2 G2 H2 S2 hp hs R2 => by
  have q : SqL Γ.K H2 a vs := (hs.trans R2.sub).sqL h
  have r2 : RepL Γ α2 G2 ds vs := RepL.mono hp hs _ _ r
  refine ⟨fun hl => ⟨vs, q, by rw [← r2.length]; exact hl⟩, fun d hd => ?_⟩
  obtain ⟨v, hv, rv⟩ := r2.get hd
  refine ⟨⟨vs, v, q, hv⟩, fun x H3 hy => ?_⟩
  obtain ⟨rfl, f⟩ := hy
  have e := f vs q
  rw [hv] at e
  cases e
  exact ⟨G2, R2, Ext.refl _ _ _, rv⟩
theorem steps_tup {Γ : Gm} {α : List Addr} {G : Hp} {ds : List D} {a : Addr} {vs : List V} (h : SqT Γ.K G a vs) (r : RepL Γ α G ds vs) : Steps Γ α G ds (Itt Γ.K a) := fun i α2 G2 H2 S2 hp hs R2 => by
  have q : SqT Γ.K H2 a vs := (hs.trans R2.sub).sqT h
  have r2 : RepL Γ α2 G2 ds vs := RepL.mono hp hs _ _ r
  refine ⟨fun hl => ⟨vs, q, by rw [← r2.length]; exact hl⟩, fun d hd => ?_⟩
  obtain ⟨v, hv, rv⟩ := r2.get hd
  refine ⟨⟨vs, v, q, hv⟩, fun x H3 hy => ?_⟩
  obtain ⟨rfl, f⟩ := hy
  have e := f vs q
  rw [hv] at e
  cases e
  exact ⟨G2, R2, Ext.refl _ _ _, rv⟩
theorem qi_items {tg it : Expr} (h : QE X cl E it m) : QI X cl E tg it (mItems m) := by
  obtain ⟨t, h1, h2⟩ := h.ex
  refine ⟨_, PI.or (pi_list h1) (pi_tup h1), fun ρ S σ α G H R hρ hR hp => ?_⟩
  have lists : ∀ xs S', m ρ S = .ok (.lst xs) S' → iList X.K t σ H R := fun xs S' q => by
    refine h2 ρ S σ α G H _ hρ hR (posti_bind hp fun d S1 α1 G1 H1 v q1 e1 R1 r1 hp1 => ?_)
    rw [q] at q1
    cases q1
    unfold Rep at r1
    obtain ⟨a, vs, rfl, q2, r2⟩ := r1
    exact ⟨a, rfl, ⟨vs, R1.sub.sqL (.inl (.inl q2))⟩, hp1 α1 G1 H1 _ (Ext.refl _ _ _) R1 (steps_list (Γ := ⟨X.K, cl⟩) (.inl (.inl q2)) r2)⟩
  have fros : ∀ xs S', m ρ S = .ok (.fro xs) S' → iList X.K t σ H R := fun xs S' q => by
    refine h2 ρ S σ α G H _ hρ hR (posti_bind hp fun d S1 α1 G1 H1 v q1 e1 R1 r1 hp1 => ?_)
    rw [q] at q1
    cases q1
    unfold Rep at r1
    obtain ⟨a, vs, rfl, q2, r2⟩ := r1
    exact ⟨a, rfl, ⟨vs, R1.sub.sqL q2⟩, hp1 α1 G1 H1 _ (Ext.refl _ _ _) R1 (steps_list (Γ := ⟨X.K, cl⟩) q2 r2)⟩
  have tups : ∀ xs S', m ρ S = .ok (.tup xs) S' → iTup X.K t σ H R := fun xs S' q => by
    refine h2 ρ S σ α G H _ hρ hR (posti_bind hp fun d S1 α1 G1 H1 v q1 e1 R1 r1 hp1 => ?_)
    rw [q] at q1
    cases q1
    unfold Rep at r1
    obtain ⟨a, vs, rfl, q2, r2⟩ := r1
    exact ⟨a, rfl, ⟨vs, .inl (.inl (R1.sub _ _ q2))⟩, hp1 α1 G1 H1 _ (Ext.refl _ _ _) R1 (steps_tup (Γ := ⟨X.K, cl⟩) (.inl (.inl q2)) r2)⟩
  cases q : m ρ S with
  | no => unfold mItems at hp; rw [q] at hp; exact hp.elim
  | ex e S' =>
    -- the exception comes ahead of the walk: either reading carries it
    refine .inl (h2 ρ S σ α G H _ hρ hR ?_)
    unfold mItems at hp
    rw [q] at hp ⊢
    exact hp
  | ok d S' =>
    cases d with
    | lst xs => exact .inl (lists xs S' q)
    | fro xs => exact .inl (fros xs S' q)
    | tup xs => exact .inr (tups xs S' q)
    | _ => (unfold mItems at hp; rw [q] at hp; exact hp.elim)
def rangeD (lo : Int) (k : Nat) : List D := (List.range k).map fun (i : Nat) => .int (lo + (i : Int))
theorem steps_range {Γ : Gm} {α : List Addr} {G : Hp} (lo : Int) (k : Nat) : Steps Γ α G (rangeD lo k) (Itr lo k) := fun i α2 G2 H2 S2 hp hs R2 => by
  refine ⟨fun hl => (by simpa [rangeD] using hl : k ≤ i), fun d hd => ?_⟩
  unfold rangeD at hd
  rw [List.getElem?_map] at hd
  cases q : (List.range k)[i]? with
  | none => simp [q] at hd
  | some j =>
    simp only [q, Option.map_some, Option.some.injEq] at hd
    have hi := List.getElem?_eq_some_iff.mp q
    obtain ⟨h1, h2⟩ := hi
    simp at h1 h2
    subst h2
    refine ⟨h1, fun x H3 hy => ?_⟩
    obtain ⟨rfl, rfl⟩ := hy
    exact ⟨G2, R2, Ext.refl _ _ _, by subst hd; simp [Rep]⟩
def mRange1 (m : ME) : MA := fun ρ S => (m ρ S).bind fun d S1 => match d with
  | .int j => if j.natAbs < 2 ^ 62 then .ok (rangeD 0 j.toNat) S1 else .no
  | _ => .no
def mRange2 (m m' : ME) : MA := fun ρ S => (m ρ S).bind fun d S1 => (m' ρ S1).bind fun d' S2 => match d, d' with
  | .int i, .int j => if i.natAbs < 2 ^ 62 ∧ j.natAbs < 2 ^ 62 then .ok (rangeD i (j - i).toNat) S2 else .no
  | _, _ => .no
theorem qi_range1 {tg a : Expr} {p pos : Pos} (h : QE X cl E a m) (hg : Gl X "range") (hm : X.mg "range" = none) (hs : starEach [a] X.env = [(false, eval a X.env)] := by rfl) : QI X cl E tg (.Call (.Name "range" p) [a] [] pos) (mRange1 m) := by
  obtain ⟨t, h1, h2⟩ := h.ex
  refine ⟨_, pi_range1 hg hm (pa_cons h1 pa_nil (by rw [hs]; rfl)) hs, fun ρ S σ α G H R hρ hR hp => h2 ρ S σ α G H _ hρ hR (posti_bind hp fun d S1 α1 G1 H1 v q1 e1 R1 r1 hp1 => ?_)⟩
  clear q1
  cases d <;> try exact hp1.elim
  rename_i j
  simp only at hp1
  simp only [Rep] at r1
  subst r1
  split at hp1
  · rename_i hb
    exact ⟨j, rfl, by omega, by omega, hp1 α1 G1 H1 _ (Ext.refl _ _ _) R1 (steps_range 0 j.toNat)⟩
  · exact hp1.elim
theorem qi_range2 {tg a b : Expr} {p pos : Pos} (h : QE X cl E a ma) (h' : QE X cl E b mb) (hg : Gl X "range") (hm : X.mg "range" = none) (hs : starEach [a, b] X.env = [(false, eval a X.env), (false, eval b X.env)] := by rfl) (hs2 : starEach [b] X.env = [(false, eval b X.env)] := by rfl) : QI X cl E tg (.Call (.Name "range" p) [a, b] [] pos) (mRange2 ma mb) := by
  obtain ⟨t, h1, h2⟩ := h.ex
  obtain ⟨u, k1, k2⟩ := h'.ex
  refine ⟨_, pi_range2 hg hm (pa_cons h1 (pa_cons k1 pa_nil (by rw [hs2]; rfl)) (by rw [hs, hs2])) hs hs2, fun ρ S σ α G H R hρ hR hp => h2 ρ S σ α G H _ hρ hR (posti_bind hp fun d S1 α1 G1 H1 v q1 e1 R1 r1 hp1 => ?_)⟩
  refine k2 ρ S1 σ α1 G1 H1 _ (hρ.mono e1) R1 (posti_bind hp1 fun d' S2 α2 G2 H2 w q2 e2 R2 r2 hp2 => ?_)
  clear q1 q2
  cases d <;> cases d' <;> try exact hp2.elim
  rename_i i j
  simp only at hp2
  simp only [Rep] at r1 r2
  subst r1 r2
  split at hp2
  · rename_i hb
    exact ⟨i, j, rfl, by omega, hp2 α2 G2 H2 _ (Ext.refl _ _ _) R2 (steps_range i _)⟩
  · exact hp2.elim
def forL (g : MG) (b : MS) : List D → MS
  | [] => fun ρ S => .ok (.nx ρ) S
  | d :: ds => fun ρ S => (g d ρ S).bind fun ρ1 S1 => (b ρ1 S1).bind fun f S2 => match f with
    | .nx ρ2 => forL g b ds ρ2 S2
    | .ct ρ2 => forL g b ds ρ2 S2
    | .bk ρ2 => .ok (.nx ρ2) S2
    | .rt d => .ok (.rt d) S2
def mFor (mi : MA) (g : MG) (b : MS) : MS := fun ρ S => (mi ρ S).bind fun ds S1 => forL g b ds ρ S1
theorem posts_i {Γ : Gm} {α : List Addr} {G H : Hp} {r : Res (List D)} {f : List D → Store → Res Fl} {Dn : Ends} {R : It → Hp → Prop} (h : PostS Γ E α G H (r.bind f) Dn)
    (k : ∀ ds S1 α1 G1 H1 J, Ext α G H α1 G1 H1 → Rl Γ α1 G1 S1 H1 → Steps Γ α1 G1 ds J → PostS Γ E α1 G1 H1 (f ds S1) Dn → R J H1) : PostI Γ E α G H r R := by
  cases r with
  | ok d S' =>
    intro α' G' H' v e rl rp
    exact k d S' α' G' H' v e rl rp (PostS.mono h e)
  | ex e S' => exact h
  | no => exact h
theorem snd_for {Γ : Gm} {wi : TI} {mi : MA} {g : TG} {mg : MG} {js : List Nat} {tb : TS} (hi : SndI Γ E wi mi) (hg : SndG Γ E g mg js) (hb : SndS Γ E tb n) : SndS Γ E (tFor wi g tb) (mFor mi mg n) := fun ρ S σ α G H Dn hρ hR hp => by
  refine hi ρ S σ α G H _ hρ hR (posts_i hp fun ds S1 α1 G1 H1 J e1 R1 st hp1 => ?_)
  refine ⟨fun i k σ H => k = ds.length - i ∧ i ≤ ds.length ∧ ∃ ρ S α2 G2, Ext α1 G1 H1 α2 G2 H ∧ EnvR Γ α2 G2 ρ σ ∧ Rl Γ α2 G2 S H ∧ PostS Γ E α2 G2 H (forL mg n (ds.drop i) ρ S) Dn, ⟨ds.length, by simp, Nat.zero_le _, ρ, S1, α1, G1, Ext.refl _ _ _, hρ.mono e1, R1, by simpa using hp1⟩, ?_⟩
  rintro i k σ2 H2 ⟨rfl, hle, ρ2, S2, α2, G2, e2, hρ2, R2, hp2⟩
  obtain ⟨stop, go⟩ := st i α2 G2 H2 S2 e2.pre e2.sub R2
  by_cases hlt : i < ds.length
  · have hd : ds[i]? = some ds[i] := List.getElem?_eq_getElem hlt
    obtain ⟨hgo, hy⟩ := go _ hd
    refine .inr ⟨hgo, fun σ' H' => ∃ ρ S α2 G2, Ext α1 G1 H1 α2 G2 H' ∧ EnvR Γ α2 G2 ρ σ' ∧ Rl Γ α2 G2 S H' ∧ PostS Γ E α2 G2 H' (forL mg n (ds.drop (i + 1)) ρ S) Dn, fun σ' H' z => ⟨ds.length - (i + 1), by omega, rfl, hlt, z⟩, fun x H3 y3 => ?_⟩
    obtain ⟨G3, R3, e3, rx⟩ := hy x H3 y3
    rw [List.drop_eq_getElem_cons hlt] at hp2
    have hp3 := PostS.mono hp2 e3
    refine hg ds[i] ρ2 S2 σ2 α2 G3 H3 x _ (hρ2.mono e3) R3 rx (posts_bind hp3 fun ρ4 S4 α4 G4 H4 σ4 q4 e4 R4 r4 hp4 => fun _ => ?_)
    refine hb ρ4 S4 σ4 α4 G4 H4 _ r4 R4 ?_
    clear q4
    have e14 : Ext α1 G1 H1 α4 G4 H4 := (e2.trans e3).trans e4
    cases q : n ρ4 S4 with
    | no => rw [q] at hp4; exact hp4
    | ex e S' => rw [q] at hp4; exact hp4
    | ok f S5 =>
      rw [q] at hp4
      cases f with
      | nx ρ5 => exact fun α5 G5 H5 σ5 e5 R5 r5 => ⟨ρ5, S5, α5, G5, e14.trans e5, r5, R5, PostS.mono hp4 e5⟩
      | ct ρ5 => exact fun α5 G5 H5 σ5 e5 R5 r5 => ⟨ρ5, S5, α5, G5, e14.trans e5, r5, R5, PostS.mono hp4 e5⟩
      | bk ρ5 => exact hp4
      | rt d => exact hp4
  · refine .inl ⟨stop (by omega), ?_⟩
    rw [List.drop_of_length_le (by omega)] at hp2
    exact hp2 α2 G2 H2 σ2 (Ext.refl _ _ _) R2 hρ2
theorem qs_for {tg it : Expr} {body : List Stmt} {mi : MA} {mg : MG} {js : List Nat} (hi : QI X cl E tg it mi) (hg : QG X cl E tg mg js) (hb : QSs X cl E body n) (hp : PassesOwn (model X.prog X.w) X.A X.env X.xe := by exact PassesOwn.never) (hc : X.calm = true := by rfl)
    (hs : ∀ x, foldedSetIterable it X.env x = pure x := by intro _; rfl) : QS X cl E (.For tg it body [] pos) (mFor mi mg n) := by
  obtain ⟨wi, h1, h2⟩ := hi.ex
  obtain ⟨g, k1, k2⟩ := hg.ex
  obtain ⟨tb, l1, l2⟩ := hb.ex
  exact ⟨_, ps_for hp hc h1 k1 l1 hs, snd_for h2 k2 l2⟩
/-- the slots of the block's own names forgotten -/
def wp (ρ : Env) : List Nat → Env
  | [] => ρ
  | v :: vs => (wp ρ vs).set v none
theorem wp_length (ρ : Env) : ∀ vs : List Nat, (wp ρ vs).length = ρ.length
  | [] => rfl
  | v :: vs => by unfold wp; rw [List.length_set, wp_length ρ vs]
theorem wipe_get {σ : L2.St} {i : Nat} : ∀ {vs : List Nat}, i ∉ vs → (wipe σ vs)[i]? = σ[i]?
  | [], _ => rfl
  | v :: vs, h => by
    unfold wipe
    rw [List.getElem?_set_ne (fun e => h (by simp [e]))]
    exact wipe_get fun z => h (List.mem_cons_of_mem _ z)
theorem wipe_in {σ : L2.St} {i : Nat} : ∀ {vs : List Nat}, i ∈ vs → i < σ.length → (wipe σ vs)[i]? = some none
  | v :: vs, h, hl => by
    unfold wipe
    by_cases e : v = i
    · subst e
      rw [List.getElem?_set_self (by rw [wipe_length]; exact hl)]
    · rw [List.getElem?_set_ne e]
      exact wipe_in ((List.mem_cons.mp h).resolve_left fun z => e z.symm) hl
/-- what a target of the block's own names stores is wiped again -/
theorem wipe_same {σ τ : L2.St} {vs js : List Nat} (hl : τ.length = (wipe σ vs).length) (ho : ∀ i, i ∉ js → τ[i]? = (wipe σ vs)[i]?) (hj : ∀ j ∈ js, j ∈ vs) : wipe τ vs = wipe σ vs := by
  rw [wipe_length] at hl
  apply List.ext_getElem?
  intro i
  by_cases hi : i ∈ vs
  · by_cases hb : i < σ.length
    · rw [wipe_in hi hb, wipe_in hi (by rw [hl]; exact hb)]
    · rw [List.getElem?_eq_none (by rw [wipe_length]; omega), List.getElem?_eq_none (by rw [wipe_length]; omega)]
  · rw [wipe_get hi, ho i fun z => hi (hj i z)]
theorem EnvR.wp {Γ : Gm} {α : List Addr} {G : Hp} {ρ : Env} {σ : L2.St} (h : EnvR Γ α G ρ σ) : ∀ vs : List Nat, EnvR Γ α G (wp ρ vs) (wipe σ vs)
  | [] => h
  | v :: vs => by
    have ih := EnvR.wp h vs
    unfold Q.wp wipe
    refine ⟨by simp [ih.1], fun i d hd => ?_⟩
    by_cases e : v = i
    · subst e
      have hl := (List.getElem?_eq_some_iff.mp hd).1
      rw [List.length_set] at hl
      rw [List.getElem?_set_self hl] at hd
      cases hd
    · rw [List.getElem?_set_ne e] at hd ⊢
      exact ih.2 i d hd
def lcL (g : MG) (t : MT) (m : ME) (ρ : Env) : List D → Store → Res (List D)
  | [], S => .ok [] S
  | d :: ds, S => (g d ρ S).bind fun ρ1 S1 => (t ρ1 S1).bind fun b S2 => match b with
    | true => (m ρ1 S2).bind fun v S3 => (lcL g t m ρ ds S3).bind fun vs S4 => .ok (v :: vs) S4
    | false => lcL g t m ρ ds S2
/-- [e for g in mi if t], a list that changes no more -/
def mLc (mi : MA) (g : MG) (t : MT) (m : ME) (vs : List Nat) : ME := fun ρ S => (mi ρ S).bind fun ds S1 => if ds.length ≤ 100000 then (lcL g t m (wp ρ vs) ds S1).bind fun xs S2 => .ok (.lst xs) S2 else .no
/-- .. a new cell -/
def mLcC (mi : MA) (g : MG) (t : MT) (m : ME) (vs : List Nat) : ME := fun ρ S => (mi ρ S).bind fun ds S1 => if ds.length ≤ 100000 then (lcL g t m (wp ρ vs) ds S1).bind fun xs S2 => .ok (.ref S2.length) (S2 ++ [.lst xs]) else .no
/-- a state beside which a list is being made -/
theorem Rl.patch {Γ : Gm} {α : List Addr} {G H : Hp} {S : Store} (R : Rl Γ α G S H) {p : Addr} (hp : p ∉ α) (hg : G p = none) (o : HO) : Rl Γ α G S (upd H p o) := by
  have ne : ∀ a ∈ α, a ≠ p := fun a m e => by subst e; exact hp m
  refine ⟨fun a u e => ?_, R.len, R.nd, fun a m => by rw [upd_ne (ne a m)]; exact R.tr a m, fun k c a hc ha => ?_⟩
  · rw [upd_ne (fun z => by subst z; rw [hg] at e; cases e)]; exact R.sub a u e
  · exact (R.ok k c a hc ha).mono ⟨[], by simp⟩ (Sub.refl G) fun _ => ⟨upd_ne (ne a (List.mem_of_getElem? ha)), fun h => h⟩
theorem Ext.patch {α α' : List Addr} {G G' H H' : Hp} (e : Ext α G H α' G' H') {p : Addr} (hp : H p = none) (o : HO) : Ext α G H α' G' (upd H' p o) :=
  ⟨e.pre, e.sub, fun a u h m => by rw [upd_ne (ne_of_none h hp)]; exact e.fr a u h m, e.na, e.ng⟩
/-- the state while the list at p holds vs so far -/
structure Mid (Γ : Gm) (α1 : List Addr) (G1 H1 : Hp) (p : Addr) (α : List Addr) (G : Hp) (S : Store) (H : Hp) (vs : List V) : Prop where
  ext : Ext α1 G1 H1 α G H
  rl : Rl Γ α G S H
  at_ : H p = some (.lst vs)
  na : p ∉ α
  ng : G p = none
theorem Mid.step {Γ : Gm} {α1 α α' : List Addr} {G1 H1 G H G' H' : Hp} {p : Addr} {S S' : Store} {vs : List V} (M : Mid Γ α1 G1 H1 p α G S H vs) (e : Ext α G H α' G' H') (R : Rl Γ α' G' S' H') : Mid Γ α1 G1 H1 p α' G' S' H' vs := by
  refine ⟨M.ext.trans e, R, e.fr p _ M.at_ M.na, fun m => ?_, ?_⟩
  · rcases e.na p m with z | z
    · exact M.na z
    · rw [M.at_] at z; cases z
  · cases q : G' p with
    | none => rfl
    | some o =>
      rcases e.ng p (by rw [q]; simp) with z | z | z | ⟨xs, z⟩
      · exact absurd M.ng z
      · exact absurd z M.na
      · rw [M.at_] at z; cases z
      · rw [M.at_] at z; cases z
theorem Mid.push {Γ : Gm} {α1 α : List Addr} {G1 H1 G H : Hp} {p : Addr} {S : Store} {vs : List V} (M : Mid Γ α1 G1 H1 p α G S H vs) (hp : H1 p = none) (ws : List V) : Mid Γ α1 G1 H1 p α G S (upd H p (.lst ws)) ws :=
  ⟨M.ext.patch hp _, M.rl.patch M.na M.ng _, upd_same, M.na, M.ng⟩
/-- the list is made: it changes no more -/
theorem Mid.done {Γ : Gm} {α1 α : List Addr} {G1 H1 G H : Hp} {p : Addr} {S : Store} {vs : List V} (M : Mid Γ α1 G1 H1 p α G S H vs) (hp : H1 p = none) : Rl Γ α (upd G p (.lst vs)) S H ∧ Ext α1 G1 H1 α (upd G p (.lst vs)) H := by
  have sg : Sub G (upd G p (.lst vs)) := Sub.new M.ng
  refine ⟨⟨fun a u e => ?_, M.rl.len, M.rl.nd, M.rl.tr, fun k c a hc ha => ?_⟩, ⟨M.ext.pre, M.ext.sub.trans sg, M.ext.fr, M.ext.na, fun a h => ?_⟩⟩
  · by_cases z : a = p
    · subst z; rw [upd_same] at e; cases e; exact M.at_
    · rw [upd_ne z] at e; exact M.rl.sub a u e
  · have ne : a ≠ p := fun z => by subst z; exact M.na (List.mem_of_getElem? ha)
    exact (M.rl.ok k c a hc ha).mono ⟨[], by simp⟩ sg fun _ => ⟨rfl, fun h3 => by rw [upd_ne ne]; exact h3⟩
  · by_cases z : a = p
    · subst z; exact .inr (.inr (.inl hp))
    · rw [upd_ne z] at h; exact M.ext.ng a h
/-- .. it is a new cell -/
theorem Mid.cell {Γ : Gm} {α1 α : List Addr} {G1 H1 G H : Hp} {p : Addr} {S : Store} {ds : List D} {vs : List V} (M : Mid Γ α1 G1 H1 p α G S H vs) (hp : H1 p = none) (r : RepL Γ α G ds vs) :
    Rl Γ (α ++ [p]) G (S ++ [.lst ds]) H ∧ Ext α1 G1 H1 (α ++ [p]) G H ∧ Rep Γ (α ++ [p]) G (.ref S.length) (.ref p) := by
  have mono : ∀ {ds vs}, RepL Γ α G ds vs → RepL Γ (α ++ [p]) G ds vs := fun {ds vs} h => RepL.mono ⟨[p], rfl⟩ (Sub.refl G) _ _ h
  refine ⟨⟨M.rl.sub, by simp [M.rl.len], ?_, fun a m => ?_, fun k c a hc ha => ?_⟩, ⟨?_, M.ext.sub, M.ext.fr, fun a m => ?_, M.ext.ng⟩, ?_⟩
  · rw [List.nodup_append]
    exact ⟨M.rl.nd, by simp, fun a m b mb => by simp at mb; subst mb; exact fun z => by subst z; exact M.na m⟩
  · rcases List.mem_append.mp m with m | m
    · exact M.rl.tr a m
    · simp at m; subst m; rw [M.at_]; simp
  · by_cases hk : k < α.length
    · rw [List.getElem?_append_left hk] at ha
      rw [List.getElem?_append_left (by rw [← M.rl.len]; exact hk)] at hc
      exact (M.rl.ok k c a hc ha).mono ⟨[p], rfl⟩ (Sub.refl G) fun _ => ⟨rfl, fun h => h⟩
    · rw [List.getElem?_append_right (by omega)] at ha
      rw [List.getElem?_append_right (by rw [← M.rl.len]; omega)] at hc
      have e1 : k - α.length = 0 := by
        have := (List.getElem?_eq_some_iff.mp ha).1
        simp at this
        omega
      have e2 : k - S.length = 0 := by rw [← M.rl.len]; exact e1
      rw [e1] at ha
      rw [e2] at hc
      simp at ha hc
      subst ha
      subst hc
      exact .mkL M.at_ (mono r) M.ng
  · obtain ⟨β, rfl⟩ := M.ext.pre
    exact ⟨β ++ [p], by simp⟩
  · rcases List.mem_append.mp m with m | m
    · exact M.ext.na a m
    · simp at m; subst m; exact .inr hp
  · unfold Rep
    exact ⟨p, rfl, by rw [← M.rl.len]; simp⟩
/-- what is wanted of the walk through the items: behind it, the list that was made -/
def PostL (Γ : Gm) (E : XK) (α1 : List Addr) (G1 H1 : Hp) (p : Addr) (acc : List D) (r : Res (List D)) (Q : VK) : Prop := match r with
  | .ok xs S' => ∀ α G H vs, Mid Γ α1 G1 H1 p α G S' H vs → RepL Γ α G (acc ++ xs) vs → Q (.ref p) H
  | .ex e S' => ∀ α G H c x, Ext α1 G1 H1 α G H → Rl Γ α G S' H → ExR Γ α G e c x H → E c x H
  | .no => False
theorem snd_lc {Γ : Gm} {wi : TI} {mi : MA} {g : TG} {mg : MG} {js vs : List Nat} {tt : TT} {te : TE} (hi : SndI Γ E wi mi) (hg : SndG Γ E g mg js) (ht : SndT Γ E tt mt) (he : SndE Γ E te m) (hj : ∀ j ∈ js, j ∈ vs) (cellQ : Bool) :
    SndE Γ E (tLc wi g tt te vs) (if cellQ then mLcC mi mg mt m vs else mLc mi mg mt m vs) := fun ρ S σ α G H Q hρ hR hp => by
  have main : ∀ ds S1 α1 G1 H1 J, Ext α G H α1 G1 H1 → Rl Γ α1 G1 S1 H1 → Steps Γ α1 G1 ds J → ds.length ≤ 100000 → ∀ p, H1 p = none → PostL Γ E α1 G1 H1 p [] (lcL mg mt m (wp ρ vs) ds S1) Q → ∃ W : Nat → Nat → Hp → Prop, (∃ m, W 0 m (upd H1 p (.lst []))) ∧ ∀ i m H, W i m H →
      (J.stop i H ∧ Q (.ref p) H) ∨ (J.go i H ∧ ∃ Nx : Hp → Prop, (∀ H', Nx H' → ∃ m', m' < m ∧ W (i + 1) m' H') ∧ ∀ x H', J.yld i H x H' → g x (wipe σ vs) H' fun σ2 H2 => wipe σ2 vs = wipe σ vs ∧ tt σ2 H2 fun b H3 =>
        if b = true then te σ2 H3 fun y H4 => ∃ acc, H4 p = some (.lst acc) ∧ acc.length < sizeLine ∧ Nx (upd H4 p (.lst (acc ++ [y]))) else Nx H3) := by
    intro ds S1 α1 G1 H1 J e1 R1 st hl p hp0 hq
    have hpa : p ∉ α1 := fun z => R1.tr p z hp0
    have hpg : G1 p = none := R1.gnone hp0
    refine ⟨fun i k H => k = ds.length - i ∧ i ≤ ds.length ∧ ∃ S2 α2 G2 acc ws, Mid Γ α1 G1 H1 p α2 G2 S2 H ws ∧ RepL Γ α2 G2 acc ws ∧ acc.length ≤ i ∧ PostL Γ E α1 G1 H1 p acc (lcL mg mt m (wp ρ vs) (ds.drop i) S2) Q,
      ⟨ds.length, by simp, Nat.zero_le _, S1, α1, G1, [], [], ⟨(Ext.refl _ _ _).patch hp0 _, R1.patch hpa hpg _, upd_same, hpa, hpg⟩, by simp [RepL], Nat.le_refl _, by simpa using hq⟩, ?_⟩
    rintro i k H2 ⟨rfl, hle, S2, α2, G2, acc, ws, M2, r2, ha2, hq2⟩
    obtain ⟨stop, go⟩ := st i α2 G2 H2 S2 M2.ext.pre M2.ext.sub M2.rl
    by_cases hlt : i < ds.length
    · have hd : ds[i]? = some ds[i] := List.getElem?_eq_getElem hlt
      obtain ⟨hgo, hy⟩ := go _ hd
      refine .inr ⟨hgo, fun H' => ∃ S2 α2 G2 acc ws, Mid Γ α1 G1 H1 p α2 G2 S2 H' ws ∧ RepL Γ α2 G2 acc ws ∧ acc.length ≤ i + 1 ∧ PostL Γ E α1 G1 H1 p acc (lcL mg mt m (wp ρ vs) (ds.drop (i + 1)) S2) Q, fun H' z => ⟨ds.length - (i + 1), by omega, rfl, hlt, z⟩, fun x H3 y3 => ?_⟩
      obtain ⟨G3, R3, e3, rx⟩ := hy x H3 y3
      have M3 := M2.step e3 R3
      rw [List.drop_eq_getElem_cons hlt] at hq2
      simp only [lcL] at hq2
      have hρ3 : EnvR Γ α2 G3 (wp ρ vs) (wipe σ vs) := by
        have := (hρ.mono e1).mono (M3.ext)
        exact this.wp vs
      refine hg ds[i] (wp ρ vs) S2 (wipe σ vs) α2 G3 H3 x _ hρ3 R3 rx ?_
      cases q4 : mg ds[i] (wp ρ vs) S2 with
      | no => rw [q4] at hq2; exact hq2.elim
      | ex e' S' =>
        rw [q4] at hq2
        exact fun α' G' H' c x e R r => hq2 α' G' H' c x (M3.ext.trans e) R r
      | ok ρ4 S4 =>
        rw [q4] at hq2
        dsimp only [Res.bind] at hq2
        intro α4 G4 H4 σ4 e4 R4 r4 ⟨l4, o4⟩
        have M4 := M3.step e4 R4
        refine ⟨wipe_same l4 o4 hj, ?_⟩
        refine ht ρ4 S4 σ4 α4 G4 H4 _ r4 R4 ?_
        cases q5 : mt ρ4 S4 with
        | no => rw [q5] at hq2; exact hq2.elim
        | ex e' S' =>
          rw [q5] at hq2
          exact fun α' G' H' c x e R r => hq2 α' G' H' c x (M4.ext.trans e) R r
        | ok b S5 =>
          rw [q5] at hq2
          dsimp only [Res.bind] at hq2
          intro α5 G5 H5 b' e5 R5 rb
          have rb : b = b' := rb
          subst rb
          have M5 := M4.step e5 R5
          have r5 : RepL Γ α5 G5 acc ws := RepL.mono e5.pre e5.sub _ _ (RepL.mono e4.pre e4.sub _ _ (RepL.mono e3.pre e3.sub _ _ r2))
          cases b with
          | false => exact iteF ⟨S5, α5, G5, acc, ws, M5, r5, by omega, hq2⟩
          | true =>
            refine iteT (he ρ4 S5 σ4 α5 G5 H5 _ (r4.mono e5) R5 ?_)
            cases q6 : m ρ4 S5 with
            | no => rw [q6] at hq2; exact hq2.elim
            | ex e' S' =>
              rw [q6] at hq2
              exact fun α' G' H' c x e R r => hq2 α' G' H' c x (M5.ext.trans e) R r
            | ok v S6 =>
              rw [q6] at hq2
              dsimp only [Res.bind] at hq2
              intro α6 G6 H6 y e6 R6 ry
              have M6 := M5.step e6 R6
              have r6 : RepL Γ α6 G6 acc ws := RepL.mono e6.pre e6.sub _ _ r5
              refine ⟨ws, M6.at_, ?_, S6, α6, G6, acc ++ [v], ws ++ [y], M6.push hp0 _, r6.append (by unfold RepL; exact ⟨y, [], rfl, ry, by simp [RepL]⟩), by simp; omega, ?_⟩
              · rw [← r6.length]
                exact Nat.lt_of_le_of_lt (by omega : acc.length ≤ 100000) (by decide)
              · cases q7 : lcL mg mt m (wp ρ vs) (ds.drop (i + 1)) S6 with
                | no => rw [q7] at hq2; exact hq2.elim
                | ex e' S' => rw [q7] at hq2; exact hq2
                | ok xs S7 =>
                  rw [q7] at hq2
                  intro α7 G7 H7 vs7 M7 r7
                  refine hq2 α7 G7 H7 vs7 M7 ?_
                  rw [List.append_assoc] at r7
                  exact r7
    · refine .inl ⟨stop (by omega), ?_⟩
      rw [List.drop_of_length_le (by omega)] at hq2
      exact hq2 α2 G2 H2 ws M2 (by simpa using r2)
  refine hi ρ S σ α G H _ hρ hR ?_
  cases cellQ with
  | false =>
    simp only [Bool.false_eq_true, if_false, mLc] at hp
    cases q : mi ρ S with
    | no => rw [q] at hp; exact hp
    | ex e S' => rw [q] at hp; exact hp
    | ok ds S1 =>
      rw [q] at hp
      intro α1 G1 H1 J e1 R1 st p hp0
      have hp := (show Post Γ (Rep Γ) α G H (if ds.length ≤ 100000 then _ else _) Q E from hp)
      split at hp
      · rename_i hl
        have hp1 := Post.mono hp e1
        refine main ds S1 α1 G1 H1 J e1 R1 st hl p hp0 ?_
        cases q2 : lcL mg mt m (wp ρ vs) ds S1 with
        | no => rw [q2] at hp1; exact hp1.elim
        | ex e S' => rw [q2] at hp1; exact hp1
        | ok xs S2 =>
          rw [q2] at hp1
          intro α2 G2 H2 ws M r
          obtain ⟨R3, e3⟩ := M.done hp0
          have r' : RepL Γ α2 (upd G2 p (.lst ws)) xs ws := RepL.mono (α := α2) ⟨[], by simp⟩ (Sub.new M.ng) xs ws (by simpa using r)
          exact hp1 α2 _ H2 (.ref p) e3 R3 (rep_lst upd_same r')
      · exact hp.elim
  | true =>
    simp only [if_true, mLcC] at hp
    cases q : mi ρ S with
    | no => rw [q] at hp; exact hp
    | ex e S' => rw [q] at hp; exact hp
    | ok ds S1 =>
      rw [q] at hp
      intro α1 G1 H1 J e1 R1 st p hp0
      have hp := (show Post Γ (Rep Γ) α G H (if ds.length ≤ 100000 then _ else _) Q E from hp)
      split at hp
      · rename_i hl
        have hp1 := Post.mono hp e1
        refine main ds S1 α1 G1 H1 J e1 R1 st hl p hp0 ?_
        cases q2 : lcL mg mt m (wp ρ vs) ds S1 with
        | no => rw [q2] at hp1; exact hp1.elim
        | ex e S' => rw [q2] at hp1; exact hp1
        | ok xs S2 =>
          rw [q2] at hp1
          intro α2 G2 H2 ws M r
          obtain ⟨R3, e3, r3⟩ := M.cell hp0 (by simpa using r)
          exact hp1 _ _ H2 (.ref p) e3 R3 r3
      · exact hp.elim
structure QTs (X : Cx) (cl : Nat → Addr) (E : XK) (ifs : List Expr) (m : MT) : Prop where
  ex : ∃ t, PTs X ifs t ∧ SndT ⟨X.K, cl⟩ E t m
def mYes : MT := fun _ S => .ok true S
theorem snd_yes {Γ : Gm} : SndT Γ E tYes mYes := fun ρ S σ α G H Q hρ hR hp => post_ok (x := true) hp hR rfl
end
section
variable {X : Cx} {cl : Nat → Addr} {E : XK} {m : ME} {mt : MT} {pos : Pos}
def tE (Γ : Gm) (E : XK) (m : ME) : TE := fun σ H Q => ∃ ρ S α G, EnvR Γ α G ρ σ ∧ Rl Γ α G S H ∧ Post Γ (Rep Γ) α G H (m ρ S) Q E
def tT (Γ : Gm) (E : XK) (m : MT) : TT := fun σ H Q => ∃ ρ S α G, EnvR Γ α G ρ σ ∧ Rl Γ α G S H ∧ Post Γ RB α G H (m ρ S) Q E
def tG (Γ : Gm) (E : XK) (mg : MG) (js : List Nat) : TG := fun v σ H Q => ∃ d ρ S α G, EnvR Γ α G ρ σ ∧ Rl Γ α G S H ∧ Rep Γ α G d v ∧ Post Γ (EnvR Γ) α G H (mg d ρ S) (fun σ' H' => σ'.length = σ.length ∧ (∀ i, i ∉ js → σ'[i]? = σ[i]?) → Q σ' H') E
theorem QE.can {e : Expr} (h : QE X cl E e m) : PE X e (tE ⟨X.K, cl⟩ E m) := by
  obtain ⟨t, h1, h2⟩ := h.ex
  exact ⟨fun pins s σ H Q I ⟨ρ, S, α, G, hρ, hR, hp⟩ => h1.run pins s σ H Q I (h2 ρ S σ α G H Q hρ hR hp)⟩
theorem QT.can {e : Expr} (h : QT X cl E e mt) : PT X e (tT ⟨X.K, cl⟩ E mt) := by
  obtain ⟨t, h1, h2⟩ := h.ex
  exact ⟨fun pins s σ H Q I ⟨ρ, S, α, G, hρ, hR, hp⟩ => h1.run pins s σ H Q I (h2 ρ S σ α G H Q hρ hR hp)⟩
theorem QG.can {e : Expr} {mg : MG} {js : List Nat} (h : QG X cl E e mg js) : PG X e (tG ⟨X.K, cl⟩ E mg js) := by
  obtain ⟨t, h1, h2⟩ := h.ex
  exact ⟨fun pins s σ H v u Q I r ⟨d, ρ, S, α, G, hρ, hR, rd, hp⟩ => h1.run pins s σ H v u Q I r (h2 d ρ S σ α G H v Q hρ hR rd hp)⟩
theorem snd_tE {Γ : Gm} : SndE Γ E (tE Γ E m) m := fun ρ S σ α G H Q hρ hR hp => ⟨ρ, S, α, G, hρ, hR, hp⟩
theorem snd_tT {Γ : Gm} : SndT Γ E (tT Γ E mt) mt := fun ρ S σ α G H Q hρ hR hp => ⟨ρ, S, α, G, hρ, hR, hp⟩
theorem snd_tG {Γ : Gm} {mg : MG} {js : List Nat} : SndG Γ E (tG Γ E mg js) mg js := fun d ρ S σ α G H v Q hρ hR rd hp => ⟨d, ρ, S, α, G, hρ, hR, rd, hp⟩
/-- the context of a comprehension's block -/
abbrev Blk (X : Cx) (scope : Scope) (s : Shared) (H : Hp) (C : Addr) (c : List (Str × Addr)) (fp : List Addr) : Cx := X.blk s H scope (compEnvC scope c C X.env) fp
variable {elt tg iter c : Expr} {scope : Scope} {mi : MA} {mg : MG} {js : List Nat}
/-- [elt for tg in iter] -/
theorem q_lc (own : List (Str × Nat)) (hi : QI X cl E tg iter mi) (hN : X.N.Nodup) (ok : BlkOk X.N X.env.scope scope own)
    (hg : ∀ (s : Shared) (H : Hp) (C : Addr) (c : List (Str × Addr)) (fp : List Addr), QG (Blk X scope s H C c fp) cl E tg mg js)
    (he : ∀ (s : Shared) (H : Hp) (C : Addr) (c : List (Str × Addr)) (fp : List Addr), QE (Blk X scope s H C c fp) cl E elt m)
    (hj : ∀ j ∈ js, j ∈ own.map (·.2) := by decide) (hc : X.calm = true := by rfl) (hs : ∀ x, foldedSetIterable iter X.env x = pure x := by intro _; rfl) :
    QE X cl E (.ListComp elt [⟨tg, iter, [], 0⟩] scope pos) (mLc mi mg mYes m (own.map (·.2))) := by
  obtain ⟨wi, h1, h2⟩ := hi.ex
  exact ⟨_, pe_lc hc hN h1 ok (fun s H C c fp => (hg s H C c fp).can) (fun _ _ _ _ _ => pts_nil) (fun s H C c fp => (he s H C c fp).can) hs, snd_lc (Γ := ⟨X.K, cl⟩) h2 snd_tG snd_yes snd_tE hj false⟩
theorem q_lcC (own : List (Str × Nat)) (hi : QI X cl E tg iter mi) (hN : X.N.Nodup) (ok : BlkOk X.N X.env.scope scope own)
    (hg : ∀ (s : Shared) (H : Hp) (C : Addr) (c : List (Str × Addr)) (fp : List Addr), QG (Blk X scope s H C c fp) cl E tg mg js)
    (he : ∀ (s : Shared) (H : Hp) (C : Addr) (c : List (Str × Addr)) (fp : List Addr), QE (Blk X scope s H C c fp) cl E elt m)
    (hj : ∀ j ∈ js, j ∈ own.map (·.2) := by decide) (hc : X.calm = true := by rfl) (hs : ∀ x, foldedSetIterable iter X.env x = pure x := by intro _; rfl) :
    QE X cl E (.ListComp elt [⟨tg, iter, [], 0⟩] scope pos) (mLcC mi mg mYes m (own.map (·.2))) := by
  obtain ⟨wi, h1, h2⟩ := hi.ex
  exact ⟨_, pe_lc hc hN h1 ok (fun s H C c fp => (hg s H C c fp).can) (fun _ _ _ _ _ => pts_nil) (fun s H C c fp => (he s H C c fp).can) hs, snd_lc (Γ := ⟨X.K, cl⟩) h2 snd_tG snd_yes snd_tE hj true⟩
/-- [elt for tg in iter if c] -/
theorem q_lcIf (own : List (Str × Nat)) (hi : QI X cl E tg iter mi) (hN : X.N.Nodup) (ok : BlkOk X.N X.env.scope scope own)
    (hg : ∀ (s : Shared) (H : Hp) (C : Addr) (c : List (Str × Addr)) (fp : List Addr), QG (Blk X scope s H C c fp) cl E tg mg js)
    (ht : ∀ (s : Shared) (H : Hp) (C : Addr) (c' : List (Str × Addr)) (fp : List Addr), QT (Blk X scope s H C c' fp) cl E c mt)
    (he : ∀ (s : Shared) (H : Hp) (C : Addr) (c : List (Str × Addr)) (fp : List Addr), QE (Blk X scope s H C c fp) cl E elt m)
    (hj : ∀ j ∈ js, j ∈ own.map (·.2) := by decide) (hc : X.calm = true := by rfl) (hs : ∀ x, foldedSetIterable iter X.env x = pure x := by intro _; rfl) :
    QE X cl E (.ListComp elt [⟨tg, iter, [c], 0⟩] scope pos) (mLc mi mg mt m (own.map (·.2))) := by
  obtain ⟨wi, h1, h2⟩ := hi.ex
  exact ⟨_, pe_lc hc hN h1 ok (fun s H C c fp => (hg s H C c fp).can) (fun s H C c fp => pts_one (ht s H C c fp).can) (fun s H C c fp => (he s H C c fp).can) hs, snd_lc (Γ := ⟨X.K, cl⟩) h2 snd_tG snd_tT snd_tE hj false⟩
theorem q_lcIfC (own : List (Str × Nat)) (hi : QI X cl E tg iter mi) (hN : X.N.Nodup) (ok : BlkOk X.N X.env.scope scope own)
    (hg : ∀ (s : Shared) (H : Hp) (C : Addr) (c : List (Str × Addr)) (fp : List Addr), QG (Blk X scope s H C c fp) cl E tg mg js)
    (ht : ∀ (s : Shared) (H : Hp) (C : Addr) (c' : List (Str × Addr)) (fp : List Addr), QT (Blk X scope s H C c' fp) cl E c mt)
    (he : ∀ (s : Shared) (H : Hp) (C : Addr) (c : List (Str × Addr)) (fp : List Addr), QE (Blk X scope s H C c fp) cl E elt m)
    (hj : ∀ j ∈ js, j ∈ own.map (·.2) := by decide) (hc : X.calm = true := by rfl) (hs : ∀ x, foldedSetIterable iter X.env x = pure x := by intro _; rfl) :
    QE X cl E (.ListComp elt [⟨tg, iter, [c], 0⟩] scope pos) (mLcC mi mg mt m (own.map (·.2))) := by
  obtain ⟨wi, h1, h2⟩ := hi.ex
  exact ⟨_, pe_lc hc hN h1 ok (fun s H C c fp => (hg s H C c fp).can) (fun s H C c fp => pts_one (ht s H C c fp).can) (fun s H C c fp => (he s H C c fp).can) hs, snd_lc (Γ := ⟨X.K, cl⟩) h2 snd_tG snd_tT snd_tE hj true⟩
/-- name = [elt for tg in iter ..], stored within the comprehension's own frame -/
theorem qs_setLc (i : Nat) {y : Str} {py spos : Pos} {ifs : List Expr} (own : List (Str × Nat)) (cellQ : Bool) (hi : QI X cl E tg iter mi) (hN : X.N.Nodup) (ok : BlkOk X.N X.env.scope scope own)
    (hg : ∀ (s : Shared) (H : Hp) (C : Addr) (c : List (Str × Addr)) (fp : List Addr), QG (Blk X scope s H C c fp) cl E tg mg js)
    (ht : ∀ (s : Shared) (H : Hp) (C : Addr) (c' : List (Str × Addr)) (fp : List Addr), PTs (Blk X scope s H C c' fp) ifs (tT ⟨X.K, cl⟩ E mt))
    (he : ∀ (s : Shared) (H : Hp) (C : Addr) (c : List (Str × Addr)) (fp : List Addr), QE (Blk X scope s H C c fp) cl E elt m)
    (hj : ∀ j ∈ js, j ∈ own.map (·.2) := by decide) (hy : X.N[i]? = some y := by rfl) (hyl : X.env.scope.names.lookup y = some .local := by rfl) (hc : X.calm = true := by rfl)
    (hsw : swapsWith (.ListComp elt [⟨tg, iter, ifs, 0⟩] scope pos) (some (.Name y py)) spos.line X.env = pure true := by exact sw_true rfl rfl rfl (by decide +kernel)) (hs : ∀ x, foldedSetIterable iter X.env x = pure x := by intro _; rfl) :
    QS X cl E (.Assign [.Name y py] (.ListComp elt [⟨tg, iter, ifs, 0⟩] scope pos) spos) (mAsg (if cellQ then mLcC mi mg mt m (own.map (·.2)) else mLc mi mg mt m (own.map (·.2))) (mgN i)) := by
  obtain ⟨wi, h1, h2⟩ := hi.ex
  exact ⟨_, ps_setLc hc hN hy hyl hsw h1 ok (fun s H C c fp => (hg s H C c fp).can) ht (fun s H C c fp => (he s H C c fp).can) hs, snd_asg (snd_lc (Γ := ⟨X.K, cl⟩) h2 snd_tG snd_tT snd_tE hj cellQ) (sndg_name i)⟩
theorem ts_nil : PTs X [] (tT ⟨X.K, cl⟩ E mYes) := ⟨fun pins s σ H Q I ⟨ρ, S, α, G, hρ, hR, hp⟩ => pts_nil.run pins s σ H Q I (snd_yes ρ S σ α G H Q hρ hR hp)⟩
theorem ts_one (h : QT X cl E c mt) : PTs X [c] (tT ⟨X.K, cl⟩ E mt) := pts_one h.can
end
mutual
/-- all cells that are named stand ahead of the n-th -/
def belowD (n : Nat) : D → Bool
  | .ref k => decide (k < n)
  | .tup xs => belowL n xs
  | .lst xs => belowL n xs
  | .fro xs => belowL n xs
  | .obj _ fs => belowL n fs
  | .exn _ fs => belowL n fs
  | .non => true
  | .bl _ => true
  | .int _ => true
  | .str _ => true
def belowL (n : Nat) : List D → Bool
  | [] => true
  | d :: ds => belowD n d && belowL n ds
end
mutual
theorem below_pure (n : Nat) : ∀ (d : D), pureD d = true → belowD n d = true
  | .non, _ => by simp [belowD]
  | .bl b, _ => by simp [belowD]
  | .int i, _ => by simp [belowD]
  | .str s, _ => by simp [belowD]
  | .tup ds, p => by simp only [belowD]; exact belowL_pure n ds (by simpa [pureD] using p)
  | .lst ds, p => by simp only [belowD]; exact belowL_pure n ds (by simpa [pureD] using p)
  | .fro ds, p => by simp only [belowD]; exact belowL_pure n ds (by simpa [pureD] using p)
  | .obj c ds, p => by simp only [belowD]; exact belowL_pure n ds (by simpa [pureD] using p)
  | .exn c ds, p => by simp only [belowD]; exact belowL_pure n ds (by simpa [pureD] using p)
  | .ref k, p => by simp [pureD] at p
theorem belowL_pure (n : Nat) : ∀ (ds : List D), pureL ds = true → belowL n ds = true
  | [], _ => by simp [belowL]
  | d :: ds, p => by
    simp only [pureL, Bool.and_eq_true] at p
    simp only [belowL, Bool.and_eq_true]
    exact ⟨below_pure n d p.1, belowL_pure n ds p.2⟩
end
mutual
theorem below_rep {Γ : Gm} {α β : List Addr} {G : Hp} : ∀ (d : D) (v : V), belowD α.length d = true → Rep Γ (α ++ β) G d v → Rep Γ α G d v
  | .non, v, _, h => by simpa [Rep] using h
  | .bl b, v, _, h => by simpa [Rep] using h
  | .int i, v, _, h => by simpa [Rep] using h
  | .str s, v, _, h => by simpa [Rep] using h
  | .tup ds, v, p, h => by
    unfold Rep at h ⊢
    obtain ⟨a, vs, e, q, r⟩ := h
    exact ⟨a, vs, e, q, belowL_rep ds vs (by simpa [belowD] using p) r⟩
  | .lst ds, v, p, h => by
    unfold Rep at h ⊢
    obtain ⟨a, vs, e, q, r⟩ := h
    exact ⟨a, vs, e, q, belowL_rep ds vs (by simpa [belowD] using p) r⟩
  | .fro ds, v, p, h => by
    unfold Rep at h ⊢
    obtain ⟨a, vs, e, q, r⟩ := h
    exact ⟨a, vs, e, q, belowL_rep ds vs (by simpa [belowD] using p) r⟩
  | .obj c ds, v, p, h => by
    unfold Rep at h ⊢
    obtain ⟨a, vs, e, q, r⟩ := h
    exact ⟨a, vs, e, q, belowL_rep ds vs (by simpa [belowD] using p) r⟩
  | .exn c ds, v, p, h => by
    unfold Rep at h ⊢
    obtain ⟨a, vs, e, q, r⟩ := h
    exact ⟨a, vs, e, q, belowL_rep ds vs (by simpa [belowD] using p) r⟩
  | .ref k, v, p, h => by
    unfold Rep at h ⊢
    obtain ⟨a, e, q⟩ := h
    have hk : k < α.length := by simpa [belowD] using p
    exact ⟨a, e, by rw [List.getElem?_append_left hk] at q; exact q⟩
theorem belowL_rep {Γ : Gm} {α β : List Addr} {G : Hp} : ∀ (ds : List D) (vs : List V), belowL α.length ds = true → RepL Γ (α ++ β) G ds vs → RepL Γ α G ds vs
  | [], vs, _, h => by simpa [RepL] using h
  | d :: ds, vs, p, h => by
    unfold RepL at h ⊢
    obtain ⟨v, r, e, h1, h2⟩ := h
    simp only [belowL, Bool.and_eq_true] at p
    exact ⟨v, r, e, below_rep d v p.1 h1, belowL_rep ds r p.2 h2⟩
end
/-- the cells that were changed hold data without cells -/
def Cell.pure : Cell → Bool
  | .lst ds => pureL ds
  | .frz ds => pureL ds
  | .dk _ kvs => kvs.all fun p => pureD p.2
  | .dt _ kvs => kvs.all fun p => pureD p.2
  | .ob _ fs => fs.all fun o => match o with
    | some d => pureD d
    | none => true
/-- .. or cells of the caller's -/
def Cell.below (n : Nat) : Cell → Bool
  | .lst ds => belowL n ds
  | .frz ds => belowL n ds
  | .dk _ kvs => kvs.all fun p => belowD n p.2
  | .dt _ kvs => kvs.all fun p => belowD n p.2
  | .ob _ fs => fs.all fun o => match o with
    | some d => belowD n d
    | none => true
theorem Cell.below_of {c : Cell} (n : Nat) (h : c.pure = true) : c.below n = true := by
  cases c with
  | lst ds => exact belowL_pure n ds h
  | frz ds => exact belowL_pure n ds h
  | dk l kvs => exact List.all_eq_true.mpr fun p hp => below_pure n _ (List.all_eq_true.mp h p hp)
  | dt l kvs => exact List.all_eq_true.mpr fun p hp => below_pure n _ (List.all_eq_true.mp h p hp)
  | ob l fs =>
    refine List.all_eq_true.mpr fun p hp => ?_
    have := List.all_eq_true.mp h p hp
    cases p with
    | none => rfl
    | some d => exact below_pure n d this
theorem below_all {S : Store} (n : Nat) (h : S.all Cell.pure = true) : S.all (Cell.below n) = true := List.all_eq_true.mpr fun c hc => Cell.below_of n (List.all_eq_true.mp h c hc)
/-- what a def hands back: its own cells are gone -/
def fin (n : Nat) (d : D) (S : Store) : Res D := if S.length = n then .ok d S else if belowD n d && (S.take n).all (Cell.below n) then .ok d (S.take n) else .no
theorem fin_ok {n : Nat} {d : D} {S : Store} (h : n < S.length) (hd : pureD d = true) (hp : (S.take n).all Cell.pure = true) : fin n d S = .ok d (S.take n) := by
  unfold fin
  rw [if_neg (by omega), below_pure n d hd, below_all n hp]
  rfl
def endM (n : Nat) (r : Res Fl) : Res D := match r with
  | .ok (.nx _) S => fin n .non S
  | .ok (.rt d) S => fin n d S
  | _ => .no
/-- a def's function of data: nN names, nP of them parameters -/
def fnM (nN nP : Nat) (n : MS) : List D → Store → Res D := fun ds S => if ds.length = nP then endM S.length (n (ds.map some ++ List.replicate (nN - nP) none) S) else .no
theorem repKV_below {Γ : Gm} {α β : List Addr} {G : Hp} {κ : Type} : ∀ (kvs : List (κ × D)) (ws : List (κ × V)), (kvs.all fun p => belowD α.length p.2) = true → RepKV Γ (α ++ β) G kvs ws → RepKV Γ α G kvs ws
  | [], ws, _, h => by simpa [RepKV] using h
  | (k, d) :: r, ws, p, h => by
    unfold RepKV at h ⊢
    obtain ⟨v, t, e, h1, h2⟩ := h
    rw [List.all_cons, Bool.and_eq_true] at p
    exact ⟨v, t, e, below_rep d v p.1 h1, repKV_below r t p.2 h2⟩
/-- a def's own cells are left behind -/
theorem Rl.cut {Γ : Gm} {α α' : List Addr} {G H G' H' : Hp} {S S' : Store} (e : Ext α G H α' G' H') (R : Rl Γ α' G' S' H') (R0 : Rl Γ α G S H) (hp : (S'.take S.length).all (Cell.below S.length) = true) : Rl Γ α G' (S'.take S.length) H' ∧ Ext α G H α G' H' := by
  obtain ⟨β, rfl⟩ := e.pre
  have hl : S.length ≤ S'.length := by rw [← R.len, ← R0.len]; simp
  refine ⟨⟨R.sub, by rw [R0.len, List.length_take]; omega, R0.nd, fun a m => R.tr a (List.mem_append_left _ m), fun k c a hc ha => ?_⟩, ⟨⟨[], by simp⟩, e.sub, e.fr, fun a m => .inl m, e.ng⟩⟩
  have hk : k < α.length := (List.getElem?_eq_some_iff.mp ha).1
  have hc' : S'[k]? = some c := by
    rw [List.getElem?_take_of_lt (by rw [← R0.len]; exact hk)] at hc
    exact hc
  obtain ⟨o, z, w⟩ := R.ok k c a hc' (by rw [List.getElem?_append_left hk]; exact ha)
  have pc : c.below α.length = true := by rw [R0.len]; exact List.all_eq_true.mp hp c (List.mem_of_getElem? hc)
  refine ⟨o, ?_, w⟩
  cases c with
  | lst ds =>
    obtain ⟨vs, h1, h2⟩ := z
    exact ⟨vs, h1, belowL_rep ds vs pc h2⟩
  | frz ds =>
    obtain ⟨vs, h1, h2⟩ := z
    exact ⟨vs, h1, belowL_rep ds vs pc h2⟩
  | dk l kvs =>
    obtain ⟨ws, h1, h2⟩ := z
    exact ⟨ws, repKV_below kvs ws pc h1, h2⟩
  | dt l kvs =>
    obtain ⟨ws, h1, h2⟩ := z
    exact ⟨ws, repKV_below kvs ws pc h1, h2⟩
  | ob l fs =>
    obtain ⟨dx, vs, h1, h2, h3⟩ := z
    refine ⟨dx, vs, h1, h2, fun i d hd => ?_⟩
    obtain ⟨v, e1, r1⟩ := h3 i d hd
    exact ⟨v, e1, below_rep d v (List.all_eq_true.mp pc _ (List.mem_of_getElem? hd)) r1⟩
theorem fin_post {Γ : Gm} {E : XK} {α : List Addr} {G H : Hp} {S : Store} {d : D} {S' : Store} {Q : VK} (R0 : Rl Γ α G S H) (hp : Post Γ (Rep Γ) α G H (fin S.length d S') Q E) : ∀ α' G' H' v, Ext α G H α' G' H' → Rl Γ α' G' S' H' → Rep Γ α' G' d v → Q v H' := by
  intro α' G' H' v e R r
  unfold fin at hp
  split at hp
  · exact hp α' G' H' v e R r
  · split at hp
    · rename_i hc
      rw [Bool.and_eq_true] at hc
      obtain ⟨R1, e1⟩ := Rl.cut e R R0 hc.2
      obtain ⟨β, rfl⟩ := e.pre
      exact hp α G' H' v e1 R1 (below_rep d v (by rw [R0.len]; exact hc.1) r)
    · exact hp.elim
section
variable {P : Program} {w : World} {K : PySem.W.Frag} {mg : Str → Option Value} {base : Heap}
theorem envR_start {Γ : Gm} {α : List Addr} {G : Hp} {ds : List D} {vs : List V} {N : List Str} (r : RepL Γ α G ds vs) : EnvR Γ α G (ds.map some ++ List.replicate (N.length - vs.length) none) (L2.start N vs) := by
  have hl := r.length
  unfold L2.start
  refine ⟨by simp [hl], fun i d hd => ?_⟩
  by_cases hi : i < ds.length
  · rw [List.getElem?_append_left (by simpa using hi), List.getElem?_map] at hd
    cases q : ds[i]? with
    | none => simp [q] at hd
    | some e =>
      simp only [q, Option.map_some, Option.some.injEq] at hd
      subst hd
      obtain ⟨v, hv, rv⟩ := r.get q
      exact ⟨v, by rw [List.getElem?_append_left (by simpa [← hl] using hi), List.getElem?_map, hv]; rfl, rv⟩
  · rw [List.getElem?_append_right (by simpa using hi), List.getElem?_replicate] at hd
    split at hd <;> cases hd
open PySem.Spec PyProof.Rows in
/-- THE RULE: a def that lets no exception out -/
theorem fn_ok {x qual : Str} {st : Stmt} {f : Addr} {fd : FuncData} {N ps : List Str} {k : Nat} {cl : Nat → Addr} (nN nP : Nat) {n : MS} (F : Fun K x qual st f fd) (S : FnScope N ps (defScope st))
    (hbody : ∀ (cdv : Value) (A : Around) (outer : List PySem.Env) (s : Shared) (H : Hp) (E : XK), Room k (A.deeper (envOfC qual (defScope st) s.heap.objs.size f cdv)) → QSs (cxOf CX0 P w K mg base N qual (defScope st) f cdv A outer s H E).nox cl E0 (defBody st) n)
    (hN : N.length = nN := by rfl) (hP : ps.length = nP := by rfl) : FnOk P w K mg base CX0 (k + 1) f fd ps (spM ⟨K, cl⟩ (fnM nN nP n)) := by
  refine F.ok S (fun vs H Q E h => ?_) (fun cdv A outer s H vs Q E hr h => ?_)
  · obtain ⟨ds, α, G, S, r, hR, hp⟩ := h
    unfold fnM at hp
    split at hp
    · rename_i e
      rw [← r.length, e, hP]
    · exact hp.elim
  · obtain ⟨ds, α, G, S', r, hR, hp⟩ := h
    obtain ⟨t, h1, h2⟩ := (hbody cdv A outer s H E hr).ex
    refine ⟨t, h1, ?_⟩
    unfold fnM at hp
    split at hp
    · rename_i e
      rw [← hN, ← hP, show ps.length = vs.length by rw [hP, ← e, r.length]] at hp
      refine h2 _ S' _ α G H _ (envR_start r) hR ?_
      revert hp
      cases n (ds.map some ++ List.replicate (N.length - vs.length) none) S' with
      | no => exact id
      | ex e S2 => exact fun hp => hp.elim
      | ok fl S2 =>
        cases fl with
        | nx ρ => exact fun hp α' G' H' σ' e R _ => fin_post hR hp α' G' H' .non e R (by simp [Rep])
        | rt d => exact fun hp α' G' H' v e R r => fin_post hR hp α' G' H' v e R r
        | bk ρ => exact fun hp => hp.elim
        | ct ρ => exact fun hp => hp.elim
    · exact hp.elim
/-- a def that may hand a new cell to its caller -/
def endC (r : Res Fl) : Res D := match r with
  | .ok (.nx _) S => .ok .non S
  | .ok (.rt d) S => .ok d S
  | _ => .no
def fnC (nN nP : Nat) (n : MS) : List D → Store → Res D := fun ds S => if ds.length = nP then endC (n (ds.map some ++ List.replicate (nN - nP) none) S) else .no
open PySem.Spec PyProof.Rows in
theorem fn_okC {x qual : Str} {st : Stmt} {f : Addr} {fd : FuncData} {N ps : List Str} {k : Nat} {cl : Nat → Addr} (nN nP : Nat) {n : MS} (F : Fun K x qual st f fd) (S : FnScope N ps (defScope st))
    (hbody : ∀ (cdv : Value) (A : Around) (outer : List PySem.Env) (s : Shared) (H : Hp) (E : XK), Room k (A.deeper (envOfC qual (defScope st) s.heap.objs.size f cdv)) → QSs (cxOf CX0 P w K mg base N qual (defScope st) f cdv A outer s H E).nox cl E0 (defBody st) n)
    (hN : N.length = nN := by rfl) (hP : ps.length = nP := by rfl) : FnOk P w K mg base CX0 (k + 1) f fd ps (spM ⟨K, cl⟩ (fnC nN nP n)) := by
  refine F.ok S (fun vs H Q E h => ?_) (fun cdv A outer s H vs Q E hr h => ?_)
  · obtain ⟨ds, α, G, S, r, hR, hp⟩ := h
    unfold fnC at hp
    split at hp
    · rename_i e
      rw [← r.length, e, hP]
    · exact hp.elim
  · obtain ⟨ds, α, G, S', r, hR, hp⟩ := h
    obtain ⟨t, h1, h2⟩ := (hbody cdv A outer s H E hr).ex
    refine ⟨t, h1, ?_⟩
    unfold fnC at hp
    split at hp
    · rename_i e
      rw [← hN, ← hP, show ps.length = vs.length by rw [hP, ← e, r.length]] at hp
      refine h2 _ S' _ α G H _ (envR_start r) hR ?_
      revert hp
      cases n (ds.map some ++ List.replicate (N.length - vs.length) none) S' with
      | no => exact id
      | ex e S2 => exact fun hp => hp.elim
      | ok fl S2 =>
        cases fl with
        | nx ρ => exact fun hp α' G' H' σ' e R _ => hp α' G' H' .non e R (by simp [Rep])
        | rt d => exact fun hp α' G' H' v e R r => hp α' G' H' v e R r
        | bk ρ => exact fun hp => hp.elim
        | ct ρ => exact fun hp => hp.elim
    · exact hp.elim
/-- a def without a promise: no fuel is left -/
theorem fn_none {CX : CXT} {f : Addr} {fd : FuncData} {ps : List Str} {k : Nat} {cl : Nat → Addr} : FnOk P w K mg base CX k f fd ps (spM ⟨K, cl⟩ fun _ _ => .no) :=
  ⟨fun vs H Q E ⟨_, _, _, _, _, _, h⟩ => h.elim, fun A outer s H args us vs Q E _ _ _ _ ⟨_, _, _, _, _, _, h⟩ => h.elim⟩
/-- the promise of the law itself -/
def spLaw (K : PySem.W.Frag) : Sp := fun vs H Q _ => ∃ (a : Addr) (ns : List Int), vs = [.ref a] ∧ SqL K H a (ns.map V.int) ∧ ns.length ≤ 63 ∧ ∀ H', Q (.bl true) H'
def scriptD (ns : List Int) : D := .fro (ns.map D.int)
theorem repL_ints {Γ : Gm} {α : List Addr} {G : Hp} : ∀ ns : List Int, RepL Γ α G (ns.map D.int) (ns.map V.int)
  | [] => by simp [RepL]
  | n :: ns => by
    show RepL Γ α G (.int n :: ns.map D.int) (.int n :: ns.map V.int)
    unfold RepL
    exact ⟨.int n, _, rfl, by simp [Rep], repL_ints ns⟩
theorem law_ok {CX : CXT} {k : Nat} {f : Addr} {fd : FuncData} {ps : List Str} {cl : Nat → Addr} {g : List D → Store → Res D} (F : FnOk P w K mg base CX k f fd ps (spM ⟨K, cl⟩ g)) (h : ∀ ns : List Int, ns.length ≤ 63 → ∃ S, g [scriptD ns] [] = .ok (.bl true) S) : FnOk P w K mg base CX k f fd ps (spLaw K) :=
  F.imp fun vs H Q E ⟨a, ns, e, hs, hl, q⟩ => by
    subst e
    obtain ⟨S, hg⟩ := h ns hl
    refine ⟨[scriptD ns], [], H, [], ?_, ⟨Sub.refl H, rfl, List.nodup_nil, fun a m => (by simp at m), fun k c a h => (by simp at h)⟩, ?_⟩
    · unfold RepL
      exact ⟨.ref a, [], rfl, by unfold scriptD Rep; exact ⟨a, _, rfl, hs, repL_ints ns⟩, by simp [RepL]⟩
    · rw [hg]
      intro α' G' H' v e R r
      simp only [Rep] at r
      subst r
      exact q H'
end
end Q
namespace Q
open PySem L2
section
variable {X : Cx} {cl : Nat → Addr} {E : XK} {a b c e : Expr} {ma mb mc m : ME} {mt mu : MT} {pos : Pos}
def mChain (f f' : D → D → Store → Res D) (ma mb mc : ME) : ME := fun ρ S => (ma ρ S).bind fun x S1 => (mb ρ S1).bind fun y S2 => (f x y S2).bind fun z S3 => match z with
  | .bl true => (mc ρ S3).bind fun w S4 => f' y w S4
  | .bl false => .ok (.bl false) S3
  | _ => .no
theorem snd_chain {Γ : Gm} {r r' : R2} {f f' : D → D → Store → Res D} {ta tb tc : TE} (hr : SndR Γ E r f) (hr' : SndR Γ E r' f') (ha : SndE Γ E ta ma) (hb : SndE Γ E tb mb) (hc : SndE Γ E tc mc) : SndE Γ E (tChain r r' ta tb tc) (mChain f f' ma mb mc) := fun ρ S σ α G H Q hρ hR h =>
  ha ρ S σ α G H _ hρ hR (post_bind h fun x S1 α1 G1 H1 v _ e1 R1 r1 h1 =>
    hb ρ S1 σ α1 G1 H1 _ (hρ.mono e1) R1 (post_bind h1 fun y S2 α2 G2 H2 w _ e2 R2 r2 h2 =>
      hr x y S2 α2 G2 H2 v w _ R2 (Rep.mono e2.pre e2.sub _ _ r1) r2 (post_bind h2 fun z S3 α3 G3 H3 u _ e3 R3 r3 h3 => by
        cases z <;> try exact h3.elim
        rename_i k _
        simp only [Rep] at r3
        refine ⟨k, r3, ?_⟩
        cases k with
        | false => exact iteF (post_ok h3 R3 (by simp [Rep]))
        | true => exact iteT (hc ρ S3 σ α3 G3 H3 _ (((hρ.mono e1).mono e2).mono e3) R3 (post_bind h3 fun q S4 α4 G4 H4 u4 _ e4 R4 r4 h4 =>
            hr' y q S4 α4 G4 H4 w u4 Q R4 (Rep.mono e4.pre e4.sub _ _ (Rep.mono e3.pre e3.sub _ _ r2)) r4 h4)))))
theorem q_chain {op op' : CmpOp} {f f' : D → D → Store → Res D} (ho : QR X cl E (compareOp op) f) (ho' : QR X cl E (compareOp op') f') (ha : QE X cl E a ma) (hb : QE X cl E b mb) (hc : QE X cl E c mc) (hm : lastMarks [op, op'] [b, c] = false := by with_unfolding_all rfl) :
    QE X cl E (.Compare a [op, op'] [b, c] pos) (mChain f f' ma mb mc) := by
  obtain ⟨r, h1, h2⟩ := ho.ex
  obtain ⟨r', h1', h2'⟩ := ho'.ex
  obtain ⟨ta, a1, a2⟩ := ha.ex
  obtain ⟨tb, b1, b2⟩ := hb.ex
  obtain ⟨tc, c1, c2⟩ := hc.ex
  exact ⟨_, pe_chain h1 h1' a1 b1 c1 hm, snd_chain h2 h2' a2 b2 c2⟩
theorem q_tchain {op op' : CmpOp} {f f' : D → D → Store → Res D} (ho : QR X cl E (compareOp op) f) (ho' : QR X cl E (compareOp op') f') (ha : QE X cl E a ma) (hb : QE X cl E b mb) (hc : QE X cl E c mc) (hm : lastMarks [op, op'] [b, c] = false := by with_unfolding_all rfl) :
    QT X cl E (.Compare a [op, op'] [b, c] pos) (mTB (mChain f f' ma mb mc)) := by
  obtain ⟨r, h1, h2⟩ := ho.ex
  obtain ⟨r', h1', h2'⟩ := ho'.ex
  obtain ⟨ta, a1, a2⟩ := ha.ex
  obtain ⟨tb, b1, b2⟩ := hb.ex
  obtain ⟨tc, c1, c2⟩ := hc.ex
  exact ⟨_, pt_chain h1 h1' a1 b1 c1 hm, snd_tb (snd_chain h2 h2' a2 b2 c2)⟩
/-- the i-th ones, in this order -/
def place {β : Type} (idx : List Nat) (xs : List β) : List β := idx.filterMap fun i => xs[i]?
theorem place_cons {β : Type} (i : Nat) (idx : List Nat) (xs : List β) : place (i :: idx) xs = match xs[i]? with
    | some x => x :: place idx xs
    | none => place idx xs := by
  unfold place
  rw [List.filterMap_cons]
  cases xs[i]? <;> rfl
theorem place_rep {Γ : Gm} {α : List Addr} {G : Hp} {ds : List D} {vs : List V} (r : RepL Γ α G ds vs) : ∀ idx : List Nat, RepL Γ α G (place idx ds) (place idx vs)
  | [] => by simp [place, RepL]
  | i :: idx => by
    rw [place_cons, place_cons]
    cases q : ds[i]? with
    | none =>
      have : vs[i]? = none := by
        rw [List.getElem?_eq_none_iff] at q ⊢
        rw [← r.length]; exact q
      rw [this]
      exact place_rep r idx
    | some d =>
      obtain ⟨v, hv, rv⟩ := r.get q
      rw [hv]
      simp only
      unfold RepL
      exact ⟨v, _, rfl, rv, place_rep r idx⟩
theorem place_vals {vs : List V} {us : List Value} (r : Vals vs us) : ∀ idx : List Nat, Vals (place idx vs) (place idx us)
  | [] => .nil
  | i :: idx => by
    rw [place_cons, place_cons]
    cases q : vs[i]? with
    | none =>
      rw [r.none_of q]
      exact place_vals r idx
    | some d =>
      obtain ⟨v, hv, rv⟩ := r.get q
      rw [hv]
      exact .cons rv (place_vals r idx)
theorem kbn {K : PySem.W.Frag} {x qual : Str} {st : Stmt} {f : Addr} {fd : FuncData} {ps ks : List Str} (F : Fun K x qual st f fd) (n : Nat) (idx : List Nat)
    (h : ∀ (kV doc pm : Value) (an : Option Addr) (cdv ct : Value) (us ws : List Value), us.length = n → ws.length = ks.length → bindArgs (PySem.W.fnOf x qual (defArgs st) (defBody st) (defScope st) .none kV doc pm an cdv ct) ⟨us, ks.zip ws⟩ = pure (ps.zip (place idx (us ++ ws)))) :
    KBn K fd ps n ks (fun us ws => place idx (us ++ ws)) (fun us ws => place idx (us ++ ws)) := by
  obtain ⟨oc, od, kV, doc, pm, an, cdv, ct, osl, rfl, lk, hcd⟩ := F.ex
  exact ⟨fun s us ws _ h1 h2 => .of_eq (h kV doc pm an cdv ct us ws h1 h2), fun r1 r2 => place_vals (r1.append r2) idx⟩
structure QK (X : Cx) (cl : Nat → Addr) (E : XK) (kws : List Keyword) (m : MA) : Prop where
  ex : ∃ t, PK X kws t ∧ SndA ⟨X.K, cl⟩ E t m
theorem qk_nil : QK X cl E [] mNil := ⟨_, pk_nil, snd_nil⟩
theorem qk_cons {kws : List Keyword} {n : MA} {nm : Option Str} {kpos : Pos} (h : QE X cl E e m) (k : QK X cl E kws n) : QK X cl E (⟨nm, e, kpos⟩ :: kws) (mCons m n) := by
  obtain ⟨t, h1, h2⟩ := h.ex
  obtain ⟨u, k1, k2⟩ := k.ex
  exact ⟨_, pk_cons h1 k1, snd_cons h2 k2⟩
def mCallK (g : List D → Store → Res D) (i j : Nat) (idx : List Nat) (n nk : MA) : ME := fun ρ S => (n ρ S).bind fun ds S1 => (nk ρ S1).bind fun zs S2 => if ds.length = i ∧ zs.length = j then g (place idx (ds ++ zs)) S2 else .no
theorem snd_callK {Γ : Gm} {sp : Sp} {E' : XK} {g : List D → Store → Res D} {i j : Nat} {idx : List Nat} {n nk : MA} {t tk : TA} (hf : SndC Γ E (fun vs H Q => sp vs H Q E') g) (h : SndA Γ E t n) (k : SndA Γ E tk nk) :
    SndE Γ E (tCallN i j sp (fun us ws => place idx (us ++ ws)) E' t tk) (mCallK g i j idx n nk) := fun ρ S σ α G H Q hρ hR hp =>
  h ρ S σ α G H _ hρ hR (post_bind hp fun ds S1 α1 G1 H1 vs _ e1 R1 r1 hp1 => k ρ S1 σ α1 G1 H1 _ (hρ.mono e1) R1 (post_bind hp1 fun zs S2 α2 G2 H2 ws _ e2 R2 r2 hp2 => by
    split at hp2
    · rename_i hl
      have r1' := RepL.mono e2.pre e2.sub _ _ r1
      exact ⟨by rw [← r1'.length]; exact hl.1, by rw [← r2.length]; exact hl.2, hf _ S2 α2 G2 H2 _ Q R2 (place_rep (r1'.append r2) idx) hp2⟩
    · exact hp2.elim))
/-- f(e, .., k = v, ..) -/
theorem q_callK {g f : List D → Store → Res D} {k i j : Nat} {idx : List Nat} {fa : Addr} {fd : FuncData} {ps ks : List Str} {x : Str} {p : Pos} {es : List Expr} {kws : List Keyword} {n nk : MA} (F : FnOk X.prog X.w X.K X.mg X.base CX0 k fa fd ps (spM ⟨X.K, cl⟩ f)) (hr : Room k X.A)
    (hg : Gl X x) (hm : X.mg x = some (.ref fa)) (hk : PySem.W.keepIn X.K (.ref fa) = true) (hb : KBn X.K fd ps i ks (fun us ws => place idx (us ++ ws)) (fun us ws => place idx (us ++ ws))) (ha : QA X cl E (e :: es) n) (hkw : QK X cl E kws nk) (hf : SndC ⟨X.K, cl⟩ E (fun vs H Q => spM ⟨X.K, cl⟩ f vs H Q E0) g)
    (hall : (backToKw pos (keywordEach kws X.env)).all (·.1.isSome) = true := by rfl) (hks : (backToKw pos (keywordEach kws X.env)).filterMap (·.1) = ks := by rfl)
    (hdb : (x == ("__debug__" : Str)) = false := by decide) (he : starEach (e :: es) X.env = (false, eval e X.env) :: starEach es X.env := by rfl)
    (hpl : ((backTo pos (starEach (e :: es) X.env)).any (·.1) || (backToKw pos (keywordEach kws X.env)).any (·.1.isNone)) = false := by rfl) (hj : ks.length = j := by rfl) :
    QE X cl E (.Call (.Name x p) (e :: es) kws pos) (mCallK g i j idx n nk) := by
  subst hj
  obtain ⟨t, h1, h2⟩ := ha.ex
  obtain ⟨u, k1, k2⟩ := hkw.ex
  exact ⟨_, pe_callN F hr hg hm hk hb pass0 h1 k1 hall hks hdb he hpl, snd_callK hf h2 k2⟩
theorem pe_callN0 {CX : CXT} {k : Nat} {f : Addr} {fd : FuncData} {ps ks : List Str} {sp : Sp} {x : Str} {p : Pos} {kws : List Keyword} {tk : TA} {g : List Value → List Value → List Value} {gV : List V → List V → List V} {E : XK} (F : FnOk X.prog X.w X.K X.mg X.base CX k f fd ps sp) (hr : Room k X.A) (hg : Gl X x) (hm : X.mg x = some (.ref f)) (hk : PySem.W.keepIn X.K (.ref f) = true) (hb : KBn X.K fd ps 0 ks g gV) (hx : Passes CX X E)
    (hkw : PK X kws tk) (hall : (backToKw pos (keywordEach kws X.env)).all (·.1.isSome) = true) (hks : (backToKw pos (keywordEach kws X.env)).filterMap (·.1) = ks)
    (hdb : (x == ("__debug__" : Str)) = false)
    (hpl : ((backTo pos (starEach [] X.env)).any (·.1) || (backToKw pos (keywordEach kws X.env)).any (·.1.isNone)) = false) :
    PE X (.Call (.Name x p) [] kws pos) (tCallN 0 ks.length sp gV E tNil tk) := by
  refine ⟨fun pins s σ H Q I h => ?_⟩
  refine wpAny_Call_Name_kw (ld_glob I hg hm ?_ hdb)
  refine PySem.W.callWith_KW0 (h₀ := X.base) I.ok.mod.kin hk hall ?_ hpl
  refine thn (hkw.run pos pins s σ H _ I h) fun ws s2 ⟨zs, H2, I2, rz, l1, l2, q2⟩ => ⟨I2.kIn, ?_⟩
  rw [hks]
  exact run_fnN F hr hb hx I2 .nil rz l1 l2 q2
/-- f(k = v, ..) -/
theorem q_callK0 {g f : List D → Store → Res D} {k j : Nat} {idx : List Nat} {fa : Addr} {fd : FuncData} {ps ks : List Str} {x : Str} {p : Pos} {kws : List Keyword} {nk : MA} (F : FnOk X.prog X.w X.K X.mg X.base CX0 k fa fd ps (spM ⟨X.K, cl⟩ f)) (hr : Room k X.A)
    (hg : Gl X x) (hm : X.mg x = some (.ref fa)) (hk : PySem.W.keepIn X.K (.ref fa) = true) (hb : KBn X.K fd ps 0 ks (fun us ws => place idx (us ++ ws)) (fun us ws => place idx (us ++ ws))) (hkw : QK X cl E kws nk) (hf : SndC ⟨X.K, cl⟩ E (fun vs H Q => spM ⟨X.K, cl⟩ f vs H Q E0) g)
    (hall : (backToKw pos (keywordEach kws X.env)).all (·.1.isSome) = true := by rfl) (hks : (backToKw pos (keywordEach kws X.env)).filterMap (·.1) = ks := by rfl)
    (hdb : (x == ("__debug__" : Str)) = false := by decide)
    (hpl : ((backTo pos (starEach [] X.env)).any (·.1) || (backToKw pos (keywordEach kws X.env)).any (·.1.isNone)) = false := by rfl) (hj : ks.length = j := by rfl) :
    QE X cl E (.Call (.Name x p) [] kws pos) (mCallK g 0 j idx mNil nk) := by
  subst hj
  obtain ⟨u, k1, k2⟩ := hkw.ex
  exact ⟨_, pe_callN0 F hr hg hm hk hb pass0 k1 hall hks hdb hpl, snd_callK hf snd_nil k2⟩
def zipD (xs ys : List D) : List D := List.zipWith (fun x y => .tup [x, y]) xs ys
def zipItems (ds : List D) (S : Store) : Res (List D) := match ds with
  | [.tup xs, .tup ys] => .ok (zipD xs ys) S
  | [.lst xs, .lst ys] => .ok (zipD xs ys) S
  | _ => .no
def mZip (n : MA) : MA := fun ρ S => (n ρ S).bind zipItems
theorem zipD_get {xs ys : List D} {i : Nat} {d : D} (h : (zipD xs ys)[i]? = some d) : ∃ x y, xs[i]? = some x ∧ ys[i]? = some y ∧ d = .tup [x, y] := by
  unfold zipD at h
  rw [List.getElem?_zipWith] at h
  cases q1 : xs[i]? with
  | none => simp [q1] at h
  | some x =>
    cases q2 : ys[i]? with
    | none => simp [q1, q2] at h
    | some y =>
      simp only [q1, q2, Option.some.injEq] at h
      exact ⟨x, y, rfl, rfl, h.symm⟩
theorem zipD_len {xs ys : List D} {i : Nat} (h : (zipD xs ys).length ≤ i) : xs.length ≤ i ∨ ys.length ≤ i := by
  unfold zipD at h
  rw [List.length_zipWith] at h
  omega
theorem steps_zip {Γ : Gm} {α : List Addr} {G : Hp} {xs ys : List D} {a b : Addr} {vs ws : List V} (h : SqL Γ.K G a vs) (r : RepL Γ α G xs vs) (h' : SqL Γ.K G b ws) (r' : RepL Γ α G ys ws) : Steps Γ α G (zipD xs ys) (Itz Γ.K a b) := fun i α2 G2 H2 S2 hp hs R2 => by
  have q : SqL Γ.K H2 a vs := (hs.trans R2.sub).sqL h
  have q' : SqL Γ.K H2 b ws := (hs.trans R2.sub).sqL h'
  have r2 : RepL Γ α2 G2 xs vs := RepL.mono hp hs _ _ r
  have r2' : RepL Γ α2 G2 ys ws := RepL.mono hp hs _ _ r'
  refine ⟨fun hl => ⟨vs, ws, q, q', by rw [← r2.length, ← r2'.length]; exact zipD_len hl⟩, fun d hd => ?_⟩
  obtain ⟨x, y, hx, hy, rfl⟩ := zipD_get hd
  obtain ⟨v, hv, rv⟩ := r2.get hx
  obtain ⟨w, hw, rw'⟩ := r2'.get hy
  refine ⟨⟨vs, ws, v, w, q, q', hv, hw⟩, fun z H3 hz => ?_⟩
  obtain ⟨T, x', y', rfl, hT, rfl, f1, f2⟩ := hz
  have e1 := f1 vs q
  have e2 := f2 ws q'
  rw [hv] at e1
  rw [hw] at e2
  cases e1
  cases e2
  obtain ⟨R3, e3⟩ := R2.new hT (.tup [v, w])
  exact ⟨_, R3, e3, rep_tup upd_same (RepL.mono e3.pre e3.sub _ _ (by unfold RepL; exact ⟨v, [w], rfl, rv, by unfold RepL; exact ⟨w, [], rfl, rw', by simp [RepL]⟩⟩))⟩
theorem steps_zipT {Γ : Gm} {α : List Addr} {G : Hp} {xs ys : List D} {a b : Addr} {vs ws : List V} (h : SqT Γ.K G a vs) (r : RepL Γ α G xs vs) (h' : SqT Γ.K G b ws) (r' : RepL Γ α G ys ws) : Steps Γ α G (zipD xs ys) (RZ.ItzT Γ.K a b) := fun i α2 G2 H2 S2 hp hs R2 => by
  have q : SqT Γ.K H2 a vs := (hs.trans R2.sub).sqT h
  have q' : SqT Γ.K H2 b ws := (hs.trans R2.sub).sqT h'
  have r2 : RepL Γ α2 G2 xs vs := RepL.mono hp hs _ _ r
  have r2' : RepL Γ α2 G2 ys ws := RepL.mono hp hs _ _ r'
  refine ⟨fun hl => ⟨vs, ws, q, q', by rw [← r2.length, ← r2'.length]; exact zipD_len hl⟩, fun d hd => ?_⟩
  obtain ⟨x, y, hx, hy, rfl⟩ := zipD_get hd
  obtain ⟨v, hv, rv⟩ := r2.get hx
  obtain ⟨w, hw, rw'⟩ := r2'.get hy
  refine ⟨⟨vs, ws, v, w, q, q', hv, hw⟩, fun z H3 hz => ?_⟩
  obtain ⟨T, x', y', rfl, hT, rfl, f1, f2⟩ := hz
  have e1 := f1 vs q
  have e2 := f2 ws q'
  rw [hv] at e1
  rw [hw] at e2
  cases e1
  cases e2
  obtain ⟨R3, e3⟩ := R2.new hT (.tup [v, w])
  exact ⟨_, R3, e3, rep_tup upd_same (RepL.mono e3.pre e3.sub _ _ (by unfold RepL; exact ⟨v, [w], rfl, rv, by unfold RepL; exact ⟨w, [], rfl, rw', by simp [RepL]⟩⟩))⟩
theorem qi_zip {elts : List Expr} {kk : Nat} {tpos p : Pos} {n : MA} (h : QA X cl E [a, b] n) (hg : Gl X "zip") (hm : X.mg "zip" = none)
    (hs : starEach [a, b] X.env = (false, eval a X.env) :: starEach [b] X.env := by rfl) (hpl : (backTo pos (starEach [b] X.env)).any (·.1) = false := by rfl) : QI X cl E (.Tuple elts kk tpos) (.Call (.Name "zip" p) [a, b] [] pos) (mZip n) := by
  obtain ⟨t, h1, h2⟩ := h.ex
  refine ⟨_, RZ.pi_zipA hg hm h1 hs hpl, fun ρ S σ α G H R hρ hR hp => h2 ρ S σ α G H _ hρ hR (posti_bind hp fun ds S1 α1 G1 H1 vs q1 e1 R1 r1 hp1 => ?_)⟩
  clear q1
  unfold zipItems at hp1
  split at hp1
  · rename_i xs ys
    obtain ⟨v, w, rfl, rv, rw'⟩ := repL2 r1
    unfold Rep at rv rw'
    obtain ⟨p1, vs, rfl, z1, k1⟩ := rv
    obtain ⟨p2, ws, rfl, z2, k2⟩ := rw'
    exact ⟨p1, p2, vs, ws, rfl, .inr ⟨.inl (.inl (R1.sub _ _ z1)), .inl (.inl (R1.sub _ _ z2)), hp1 α1 G1 H1 _ (Ext.refl _ _ _) R1 (steps_zipT (Γ := ⟨X.K, cl⟩) (.inl (.inl z1)) k1 (.inl (.inl z2)) k2)⟩⟩
  · rename_i xs ys
    obtain ⟨v, w, rfl, rv, rw'⟩ := repL2 r1
    unfold Rep at rv rw'
    obtain ⟨p1, vs, rfl, z1, k1⟩ := rv
    obtain ⟨p2, ws, rfl, z2, k2⟩ := rw'
    exact ⟨p1, p2, vs, ws, rfl, .inl ⟨R1.sub.sqL (.inl (.inl z1)), R1.sub.sqL (.inl (.inl z2)), hp1 α1 G1 H1 _ (Ext.refl _ _ _) R1 (steps_zip (Γ := ⟨X.K, cl⟩) (.inl (.inl z1)) k1 (.inl (.inl z2)) k2)⟩⟩
  · exact hp1.elim
/-- (0, x), (1, y), .. -/
def enumD (k : Nat) : List D → List D
  | [] => []
  | d :: ds => .tup [.int (k : Nat), d] :: enumD (k + 1) ds
theorem enumD_len : ∀ (k : Nat) (ds : List D), (enumD k ds).length = ds.length
  | _, [] => rfl
  | k, d :: ds => by simp [enumD, enumD_len (k + 1) ds]
theorem enumD_get : ∀ {k : Nat} {ds : List D} {i : Nat} {d : D}, (enumD k ds)[i]? = some d → ∃ x, ds[i]? = some x ∧ d = .tup [.int ((k + i : Nat) : Int), x]
  | _, [], _, _, h => by simp [enumD] at h
  | k, x :: ds, 0, d, h => by simp [enumD] at h; exact ⟨x, rfl, h.symm⟩
  | k, x :: ds, i + 1, d, h => by
    simp only [enumD, List.getElem?_cons_succ] at h
    obtain ⟨y, h1, h2⟩ := enumD_get h
    exact ⟨y, by simpa using h1, by rw [h2]; congr 3; omega⟩
def mEnum (m : ME) : MA := fun ρ S => (m ρ S).bind fun d S1 => match d with
  | .lst xs => .ok (enumD 0 xs) S1
  | .fro xs => .ok (enumD 0 xs) S1
  | _ => .no
theorem steps_enum {Γ : Gm} {α : List Addr} {G : Hp} {ds : List D} {a : Addr} {vs : List V} (h : SqL Γ.K G a vs) (r : RepL Γ α G ds vs) : Steps Γ α G (enumD 0 ds) (Ite Γ.K a) := fun i α2 G2 H2 S2 hp hs R2 => by
  have q : SqL Γ.K H2 a vs := (hs.trans R2.sub).sqL h
  have r2 : RepL Γ α2 G2 ds vs := RepL.mono hp hs _ _ r
  refine ⟨fun hl => ⟨vs, q, by rw [← r2.length, ← enumD_len 0]; exact hl⟩, fun d hd => ?_⟩
  obtain ⟨x, hx, rfl⟩ := enumD_get hd
  obtain ⟨v, hv, rv⟩ := r2.get hx
  refine ⟨⟨vs, v, q, hv⟩, fun z H3 hz => ?_⟩
  obtain ⟨T, x', rfl, hT, rfl, f1⟩ := hz
  have e1 := f1 vs q
  rw [hv] at e1
  cases e1
  obtain ⟨R3, e3⟩ := R2.new hT (.tup [.int (i : Nat), v])
  exact ⟨_, R3, e3, rep_tup upd_same (RepL.mono e3.pre e3.sub _ _ (by unfold RepL; exact ⟨.int (i : Nat), [v], rfl, by simp [Rep], by unfold RepL; exact ⟨v, [], rfl, rv, by simp [RepL]⟩⟩))⟩
theorem qi_enum {elts : List Expr} {kk : Nat} {tpos p : Pos} (h : QE X cl E a m) (hg : Gl X "enumerate") (hm : X.mg "enumerate" = none) (hs : starEach [a] X.env = [(false, eval a X.env)] := by rfl) : QI X cl E (.Tuple elts kk tpos) (.Call (.Name "enumerate" p) [a] [] pos) (mEnum m) := by
  obtain ⟨t, h1, h2⟩ := h.ex
  refine ⟨_, pi_enum hg hm (pa_cons h1 pa_nil (by rw [hs]; rfl)) hs, fun ρ S σ α G H R hρ hR hp => h2 ρ S σ α G H _ hρ hR (posti_bind hp fun d S1 α1 G1 H1 v q1 e1 R1 r1 hp1 => ?_)⟩
  clear q1
  cases d <;> try exact hp1.elim
  · rename_i xs
    unfold Rep at r1
    obtain ⟨p1, vs, rfl, z1, k1⟩ := r1
    exact ⟨p1, vs, rfl, R1.sub.sqL (.inl (.inl z1)), hp1 α1 G1 H1 _ (Ext.refl _ _ _) R1 (steps_enum (Γ := ⟨X.K, cl⟩) (.inl (.inl z1)) k1)⟩
  · rename_i xs
    unfold Rep at r1
    obtain ⟨p1, vs, rfl, z1, k1⟩ := r1
    exact ⟨p1, vs, rfl, R1.sub.sqL z1, hp1 α1 G1 H1 _ (Ext.refl _ _ _) R1 (steps_enum (Γ := ⟨X.K, cl⟩) z1 k1)⟩
end
end Q
namespace Q
open PySem L2
section
variable {X : Cx} {cl : Nat → Addr} {E : XK} {e : Expr} {m : ME} {f : Str} {pos : Pos}
def fldD (c i : Nat) (d : D) (S : Store) : Res D := match d with
  | .obj c' fs => if c' = c then oRes fs[i]? S else .no
  | _ => .no
def mFld (c i : Nat) (m : ME) : ME := fun ρ S => (m ρ S).bind (fldD c i)
theorem obj_slt {G H : Hp} (s : Sub G H) {a C : Addr} {vs : List V} (h : ObAt G a C vs) : ∃ dx, SlX.Slt H a C dx (vs.map some) := by
  obtain ⟨dx, h1, h2⟩ := h
  exact ⟨dx, .inr ⟨s _ _ h1, s _ _ h2⟩⟩
/-- e.f, f the i-th slot of the class c -/
theorem q_fld (c i : Nat) {p : Addr} (h : QE X cl E e m) (hc : SlX.SCls X.K (cl c)) (hs : SlX.Slot1 X.K (cl c) f p i) (hb : attributeBase e f X.env (eval e X.env) = eval e X.env := by rfl) : QE X cl E (.Attribute e f pos) (mFld c i m) := by
  obtain ⟨t, h1, h2⟩ := h.ex
  refine ⟨_, SlX.pe_sl h1 hb, fun ρ S σ α G H Q hρ hR hp => h2 ρ S σ α G H _ hρ hR (post_bind hp fun d S1 α1 G1 H1 v _ e1 R1 r1 hp1 => ?_)⟩
  cases d <;> try exact hp1.elim
  rename_i c' fs _
  unfold fldD at hp1
  simp only at hp1
  split at hp1
  · rename_i e
    subst e
    unfold Rep at r1
    obtain ⟨a, vs, rfl, ho, rl⟩ := r1
    obtain ⟨dx, hsl⟩ := obj_slt R1.sub ho
    cases q : fs[i]? with
    | none => rw [q] at hp1; exact hp1.elim
    | some d =>
      rw [q] at hp1
      obtain ⟨w, hw, rw'⟩ := RepL.get rl q
      exact ⟨a, _, dx, p, vs.map some, i, w, rfl, hsl, hc, hs, by rw [List.getElem?_map, hw]; rfl, post_ok hp1 R1 rw'⟩
  · exact hp1.elim
end
section
variable {X : Cx} {pos : Pos} {f : Str}
/-- o.f = value as a target -/
def gSl (K : PySem.W.Frag) (to : TE) (f : Str) : TG := fun y σ H Q => to σ H fun x H2 => ∃ a C dx p vs i, x = .ref a ∧ SlX.Slt H2 a C dx vs ∧ SlX.SCls K C ∧ SlX.Slot1 K C f p i ∧ Q σ (SlX.slH H2 a C dx (SlX.putS i y vs))
theorem pg_sl {o : Expr} {to : TE} (ho : PE X o to)
    (ha : ∀ v, assign (.Attribute o f pos) X.env v = (do
      let ov ← holding [v] (eval o X.env)
      standAt pos.atName
      holding [v, ov] (setAttr ov f v)
      release [v, ov] []) := by intro _; rfl) : PG X (.Attribute o f pos) (gSl X.K to f) := by
  refine ⟨fun pins s σ H v u Q I r h => ?_⟩
  rw [ha]
  refine wpAny_bind (wpAny_holding (thn (ho.run pins s σ H _ I h) fun ov s1 ⟨x, H1, I1, r1, a, C, dx, p, vs, i, ex, hsl, c, t, q1⟩ => ?_))
  subst ex
  obtain rfl : ov = Value.ref a := r1
  refine wpAny_bind (wpAny_standAt (wpAny_bind (wpAny_holding (SlX.setslot_ok I1 hsl c t r fun s3 I3 => ?_))))
  exact wpAny_release ⟨σ, _, I3, q1⟩
end
/-- a heap with two objects more, both data now -/
def put2 (G : Hp) (a dx C : Addr) (us : List V) : Hp := upd (upd G dx (.xd [])) a (SlX.SlO a C dx (us.map some))
/-- an instance has been made: it is data from now on -/
theorem new_obj {Γ : Gm} {α α' : List Addr} {G G' H H0 H' : Hp} {S S' : Store} {a dx : Addr} {c : Nat} {fs : List D} {us : List V} (R0 : Rl Γ α G S H0) (na : H0 a = none) (nd : H0 dx = none) (ne : dx ≠ a) (hH : H = upd (upd H0 dx (.own a)) a (.ins (Γ.cl c) dx []))
    (e : Ext α G H α' G' H') (R : Rl Γ α' G' S' H') (r : RepL Γ α' G' fs us) :
    Ext α G H0 α' (put2 G' a dx (Γ.cl c) us) (SlX.slH H' a (Γ.cl c) dx (us.map some)) ∧ Rl Γ α' (put2 G' a dx (Γ.cl c) us) S' (SlX.slH H' a (Γ.cl c) dx (us.map some)) ∧ Rep Γ α' (put2 G' a dx (Γ.cl c) us) (.obj c fs) (.ref a) := by
  have ha : H a = some (.ins (Γ.cl c) dx []) := by rw [hH, upd_same]
  have hd : H dx = some (.own a) := by rw [hH, upd_ne ne, upd_same]
  have up : ∀ b o, H0 b = some o → b ≠ a ∧ b ≠ dx ∧ H b = some o := fun b o h => by
    have h1 : b ≠ a := fun z => by rw [z, na] at h; cases h
    have h2 : b ≠ dx := fun z => by rw [z, nd] at h; cases h
    exact ⟨h1, h2, by rw [hH, upd_ne h1, upd_ne h2]; exact h⟩
  have ma : a ∉ α := fun m => R0.tr a m na
  have md : dx ∉ α := fun m => R0.tr dx m nd
  have ga : G' a = none := by
    cases q : G' a with
    | none => rfl
    | some o =>
      rcases e.ng a (by rw [q]; simp) with z | z | z | ⟨xs, z⟩
      · exact absurd (R0.sub.none na) z
      · exact absurd z ma
      · rw [ha] at z; cases z
      · rw [ha] at z; cases z
  have gd : G' dx = none := by
    cases q : G' dx with
    | none => rfl
    | some o =>
      rcases e.ng dx (by rw [q]; simp) with z | z | z | ⟨xs, z⟩
      · exact absurd (R0.sub.none nd) z
      · exact absurd z md
      · rw [hd] at z; cases z
      · rw [hd] at z; cases z
  have ka : H' a = some (.ins (Γ.cl c) dx []) := e.fr a _ ha ma
  have kd : H' dx = some (.own a) := e.fr dx _ hd md
  have sG : Sub G' (put2 G' a dx (Γ.cl c) us) := fun b o h => by
    have h1 : b ≠ a := fun z => by rw [z, ga] at h; cases h
    have h2 : b ≠ dx := fun z => by rw [z, gd] at h; cases h
    unfold put2
    rw [upd_ne h1, upd_ne h2]
    exact h
  have pG : ∀ b, b ≠ a → b ≠ dx → put2 G' a dx (Γ.cl c) us b = G' b := fun b h1 h2 => by unfold put2; rw [upd_ne h1, upd_ne h2]
  refine ⟨⟨e.pre, e.sub.trans sG, fun b o h m => ?_, fun b m => ?_, fun b h => ?_⟩, ⟨fun b o h => ?_, R.len, R.nd, fun b m => ?_, fun k cc b hc hb => ?_⟩, ?_⟩
  · obtain ⟨h1, h2, h3⟩ := up b o h
    rw [SlX.slH_ne h1 h2]
    exact e.fr b o h3 m
  · rcases e.na b m with z | z
    · exact .inl z
    · right
      cases q : H0 b with
      | none => rfl
      | some o => rw [(up b o q).2.2] at z; cases z
  · by_cases h1 : b = a
    · exact .inr (.inr (.inl (by rw [h1]; exact na)))
    · by_cases h2 : b = dx
      · exact .inr (.inr (.inl (by rw [h2]; exact nd)))
      · rw [pG b h1 h2] at h
        rcases e.ng b h with z | z | z | ⟨xs, z⟩
        · exact .inl z
        · exact .inr (.inl z)
        · right; right; left
          cases q : H0 b with
          | none => rfl
          | some o => rw [(up b o q).2.2] at z; cases z
        · right; right
          cases q : H0 b with
          | none => exact .inl rfl
          | some o => rw [(up b o q).2.2] at z; cases z; exact .inr ⟨xs, rfl⟩
  · by_cases h1 : b = a
    · subst h1
      unfold put2 at h
      rw [upd_same] at h
      unfold SlX.slH
      rw [upd_same]
      exact h
    · by_cases h2 : b = dx
      · subst h2
        unfold put2 at h
        rw [upd_ne h1, upd_same] at h
        unfold SlX.slH
        rw [upd_ne h1, upd_same]
        exact h
      · rw [pG b h1 h2] at h
        rw [SlX.slH_ne h1 h2]
        exact R.sub b o h
  · by_cases h1 : b = a
    · subst h1
      unfold SlX.slH
      rw [upd_same]
      simp
    · by_cases h2 : b = dx
      · subst h2
        unfold SlX.slH
        rw [upd_ne h1, upd_same]
        simp
      · rw [SlX.slH_ne h1 h2]
        exact R.tr b m
  · have hbm : b ∈ α' := List.mem_of_getElem? hb
    have h1 : b ≠ a := fun w => by
      subst w
      rcases e.na _ hbm with z | z
      · exact ma z
      · rw [ha] at z; cases z
    have h2 : b ≠ dx := fun w => by
      subst w
      rcases e.na _ hbm with z | z
      · exact md z
      · rw [hd] at z; cases z
    exact (R.ok k cc b hc hb).mono ⟨[], by simp⟩ sG fun _ => ⟨SlX.slH_ne h1 h2, fun h => by rw [pG b h1 h2]; exact h⟩
  · unfold Rep
    exact ⟨a, us, rfl, ⟨dx, by unfold put2; rw [upd_same], by unfold put2; rw [upd_ne ne, upd_same]⟩, RepL.mono ⟨[], by simp⟩ sG _ _ r⟩
/-- the promise of an __init__ that stores all slots at its end: what it stores, as a function of data -/
def spI (Γ : Gm) (c : Nat) (f : List D → Store → Res (List D)) : Sp := fun vs H Q _ => ∃ a dx ws ds α G S, vs = V.ref a :: ws ∧ H a = some (.ins (Γ.cl c) dx []) ∧ H dx = some (.own a) ∧ dx ≠ a ∧ a ∉ α ∧ dx ∉ α ∧ G a = none ∧ G dx = none ∧ RepL Γ α G ds ws ∧ Rl Γ α G S H ∧
  match f ds S with
  | .ok fs S' => ∀ α' G' H' us, Ext α G H α' G' H' → Rl Γ α' G' S' H' → RepL Γ α' G' fs us → Q .non (SlX.slH H' a (Γ.cl c) dx (us.map some))
  | _ => False
/-- C(e, ..) -/
def mMake (c : Nat) (f : List D → Store → Res (List D)) (n : MA) : ME := fun ρ S => (n ρ S).bind fun ds S1 => match f ds S1 with
  | .ok fs S2 => .ok (.obj c fs) S2
  | _ => .no
theorem make_post {Γ : Gm} {E : XK} {α : List Addr} {G H0 : Hp} {S : Store} {c : Nat} {f : List D → Store → Res (List D)} {ds : List D} {vs : List V} {Q : VK} (R0 : Rl Γ α G S H0) (r : RepL Γ α G ds vs)
    (hp : Post Γ (Rep Γ) α G H0 (match f ds S with | .ok fs S2 => .ok (.obj c fs) S2 | _ => .no) Q E) (a dx : Addr) (na : H0 a = none) (nd : H0 dx = none) (ne : dx ≠ a) :
    spI Γ c f (.ref a :: vs) (upd (upd H0 dx (.own a)) a (.ins (Γ.cl c) dx [])) (fun v H2 => v = .non ∧ Q (.ref a) H2) E0 := by
  obtain ⟨R1, e1⟩ := R0.out nd (.own a)
  have na1 : upd H0 dx (.own a) a = none := by rw [upd_ne (Ne.symm ne)]; exact na
  obtain ⟨R2, e2⟩ := R1.out na1 (.ins (Γ.cl c) dx [])
  refine ⟨a, dx, vs, ds, α, G, S, rfl, upd_same, by rw [upd_ne ne, upd_same], ne, fun m => R0.tr a m na, fun m => R0.tr dx m nd, R0.sub.none na, R0.sub.none nd, r, R2, ?_⟩
  revert hp
  cases f ds S with
  | no => exact fun h => h.elim
  | ex e S' => exact fun h => h.elim
  | ok fs S' =>
    intro hp α' G' H' us e R rf
    obtain ⟨e3, R3, r3⟩ := new_obj R0 na nd ne rfl e R rf
    exact ⟨rfl, hp _ _ _ _ e3 R3 r3⟩
section
variable {X : Cx} {cl : Nat → Addr} {E : XK} {pos : Pos}
theorem q_make {c k : Nat} {f : List D → Store → Res (List D)} {fa : Addr} {fd : FuncData} {ps : List Str} {x : Str} {p : Pos} {e : Expr} {es : List Expr} {n : MA} (M : Mk X.K (cl c) fa) (F : FnOk X.prog X.w X.K X.mg X.base CX0 k fa fd ps (spI ⟨X.K, cl⟩ c f)) (hr : Room (k + 1) X.A)
    (hg : Gl X x) (hm : X.mg x = some (.ref (cl c))) (hb : Binds X.K fd ps []) (ha : QA X cl E (e :: es) n)
    (hdb : (x == ("__debug__" : Str)) = false := by decide) (he : starEach (e :: es) X.env = (false, eval e X.env) :: starEach es X.env := by rfl) (hpl : (backTo pos (starEach es X.env)).any (·.1) = false := by rfl) :
    QE X cl E (.Call (.Name x p) (e :: es) [] pos) (mMake c f n) := by
  obtain ⟨t, h1, h2⟩ := ha.ex
  refine ⟨_, pe_make M F hr hg hm hb .nil pass0 h1 hdb he hpl, fun ρ S σ α G H Q hρ hR hp => h2 ρ S σ α G H _ hρ hR (post_bind hp fun ds S1 α1 G1 H1 vs _ e1 R1 r1 hp1 => ?_)⟩
  intro a dx na nd ne
  rw [List.append_nil]
  exact make_post R1 r1 hp1 a dx na nd ne
end
theorem envR_self {Γ : Gm} {α : List Addr} {G : Hp} {ds : List D} {vs : List V} {N : List Str} {v0 : V} (r : RepL Γ α G ds vs) : EnvR Γ α G (none :: (ds.map some ++ List.replicate (N.length - (vs.length + 1)) none)) (L2.start N (v0 :: vs)) := by
  have hl := r.length
  unfold L2.start
  refine ⟨by simp [hl], fun i d hd => ?_⟩
  cases i with
  | zero => simp at hd
  | succ i =>
    rw [List.getElem?_cons_succ] at hd
    by_cases hi : i < ds.length
    · rw [List.getElem?_append_left (by simpa using hi), List.getElem?_map] at hd
      cases q : ds[i]? with
      | none => simp [q] at hd
      | some e =>
        simp only [q, Option.map_some, Option.some.injEq] at hd
        subst hd
        obtain ⟨v, hv, rv⟩ := r.get q
        refine ⟨v, ?_, rv⟩
        rw [List.map_cons, List.cons_append, List.getElem?_cons_succ, List.getElem?_append_left (by simpa [← hl] using hi), List.getElem?_map, hv]
        rfl
    · rw [List.getElem?_append_right (by simpa using hi), List.getElem?_replicate] at hd
      split at hd <;> cases hd
def init2 (nN : Nat) (m : ME) : List D → Store → Res (List D) := fun ds S => match m (none :: (ds.map some ++ List.replicate (nN - (ds.length + 1)) none)) S with
  | .ok (.tup [x, y]) S' => .ok [x, y] S'
  | _ => .no
section
variable {P : Program} {w : World} {K : PySem.W.Frag} {mg : Str → Option Value} {base : Heap}
open PySem.Spec PyProof.Rows in
theorem init2_ok {x qual : Str} {st : Stmt} {f : Addr} {fd : FuncData} {N ps : List Str} {k c : Nat} {cl : Nat → Addr} (nN nP : Nat) {m : ME} {f1 f2 self : Str} {p1 p2 : Addr} {e : Expr} {n1 n2 a1 a2 tp pos : Pos} {kk : Nat} (F : Fun K x qual st f fd) (S : FnScope N ps (defScope st))
    (hc : SlX.SCls K (cl c)) (s1 : SlX.Slot1 K (cl c) f1 p1 0) (s2 : SlX.Slot1 K (cl c) f2 p2 1) (hb : defBody st = [.Assign [.Tuple [.Attribute (.Name self n1) f1 a1, .Attribute (.Name self n2) f2 a2] kk tp] e pos])
    (hbody : ∀ (cdv : Value) (A : Around) (outer : List PySem.Env) (s : Shared) (H : Hp) (E : XK), Room k (A.deeper (envOfC qual (defScope st) s.heap.objs.size f cdv)) → let X := (cxOf CX0 P w K mg base N qual (defScope st) f cdv A outer s H E).nox
      QE X cl E0 e m ∧ PG X (.Tuple [.Attribute (.Name self n1) f1 a1, .Attribute (.Name self n2) f2 a2] kk tp) (gTup K 2 (gCons (gSl K (tVar 0) f1) (gCons (gSl K (tVar 0) f2) gNil))) ∧
      swapsWithSole [.Tuple [.Attribute (.Name self n1) f1 a1, .Attribute (.Name self n2) f2 a2] kk tp] e pos.line X.env = pure false ∧ swappedStores [.Tuple [.Attribute (.Name self n1) f1 a1, .Attribute (.Name self n2) f2 a2] kk tp] e X.env = pure none ∧
      (assignEach [.Tuple [.Attribute (.Name self n1) f1 a1, .Attribute (.Name self n2) f2 a2] kk tp] X.env).map (·.2) = [assign (.Tuple [.Attribute (.Name self n1) f1 a1, .Attribute (.Name self n2) f2 a2] kk tp) X.env])
    (hN : N.length = nN := by rfl) (hP : ps.length = nP := by rfl) : FnOk P w K mg base CX0 (k + 1) f fd ps (spI ⟨K, cl⟩ c fun ds S => if ds.length + 1 = nP then init2 nN m ds S else .no) := by
  refine F.ok S (fun vs H Q E h => ?_) (fun cdv A outer s H vs Q E hr h => ?_)
  · obtain ⟨a, dx, ws, ds, α, G, S, rfl, _, _, _, _, _, _, _, r, _, hp⟩ := h
    split at hp
    · rename_i q
      dsimp only at q
      split at q
      · rename_i e
        rw [List.length_cons, ← r.length, e, hP]
      · cases q
    · exact hp.elim
  · obtain ⟨a, dx, ws, ds, α, G, S', rfl, ha, hd, ne, ma, md, ga, gd, r, hR, hp⟩ := h
    obtain ⟨he, hg, w1, w2, w3⟩ := hbody cdv A outer s H E hr
    obtain ⟨te, h1, h2⟩ := he.ex
    refine ⟨_, by rw [hb]; exact pss_one (ps_asg h1 hg w1 w2 w3), ?_⟩
    split at hp
    · rename_i fs S2 q
      dsimp only at q
      split at q
      · unfold init2 at q
        rw [show ds.length = ws.length from r.length, ← hN] at q
        refine h2 _ S' _ α G H _ (envR_self r) hR ?_
        split at q
        · rename_i dx' dy S3 qm
          cases q
          rw [qm]
          intro α' G' H' v e R rv
          unfold Rep at rv
          obtain ⟨b, xs, rfl, hq, rl⟩ := rv
          have hl := rl.length
          simp only [List.length_cons, List.length_nil] at hl
          obtain ⟨u1, u2, rfl⟩ : ∃ u1 u2, xs = [u1, u2] := by
            match xs, hl with
            | [u1, u2], _ => exact ⟨u1, u2, rfl⟩
          have ka : H' a = some (.ins (cl c) dx []) := e.fr a _ ha ma
          refine ⟨b, [u1, u2], rfl, .inl (.inl (R.sub _ _ hq)), rfl, u1, [u2], rfl, ?_⟩
          refine ⟨.ref a, rfl, a, cl c, dx, p1, [], 0, rfl, .inl ⟨ka, rfl⟩, hc, s1, u2, [], rfl, ?_⟩
          refine ⟨.ref a, rfl, a, cl c, dx, p2, _, 1, rfl, SlX.slH_slt ne, hc, s2, rfl, ?_⟩
          rw [SlX.slH_twice ne]
          exact hp α' G' H' [u1, u2] e R rl
        · cases q
      · cases q
    · exact hp.elim
end
def init2s (nN : Nat) (m : ME) : List D → Store → Res (List D) := fun ds S => match m (none :: (ds.map some ++ List.replicate (nN - (ds.length + 1)) none)) S with
  | .ok (.tup [x, y]) S' => .ok [y, x] S'
  | _ => .no
section
variable {P : Program} {w : World} {K : PySem.W.Frag} {mg : Str → Option Value} {base : Heap}
open PySem.Spec PyProof.Rows in
theorem init2s_ok {x qual : Str} {st : Stmt} {f : Addr} {fd : FuncData} {N ps : List Str} {k c : Nat} {cl : Nat → Addr} (nN nP : Nat) {m : ME} {f1 f2 self : Str} {p1 p2 : Addr} {e : Expr} {n1 n2 a1 a2 tp pos : Pos} {kk : Nat} (F : Fun K x qual st f fd) (S : FnScope N ps (defScope st))
    (hc : SlX.SCls K (cl c)) (s1 : SlX.Slot1 K (cl c) f1 p1 1) (s2 : SlX.Slot1 K (cl c) f2 p2 0) (hb : defBody st = [.Assign [.Tuple [.Attribute (.Name self n1) f1 a1, .Attribute (.Name self n2) f2 a2] kk tp] e pos])
    (hbody : ∀ (cdv : Value) (A : Around) (outer : List PySem.Env) (s : Shared) (H : Hp) (E : XK), Room k (A.deeper (envOfC qual (defScope st) s.heap.objs.size f cdv)) → let X := (cxOf CX0 P w K mg base N qual (defScope st) f cdv A outer s H E).nox
      QE X cl E0 e m ∧ PG X (.Tuple [.Attribute (.Name self n1) f1 a1, .Attribute (.Name self n2) f2 a2] kk tp) (gTup K 2 (gCons (gSl K (tVar 0) f1) (gCons (gSl K (tVar 0) f2) gNil))) ∧
      swapsWithSole [.Tuple [.Attribute (.Name self n1) f1 a1, .Attribute (.Name self n2) f2 a2] kk tp] e pos.line X.env = pure false ∧ swappedStores [.Tuple [.Attribute (.Name self n1) f1 a1, .Attribute (.Name self n2) f2 a2] kk tp] e X.env = pure none ∧
      (assignEach [.Tuple [.Attribute (.Name self n1) f1 a1, .Attribute (.Name self n2) f2 a2] kk tp] X.env).map (·.2) = [assign (.Tuple [.Attribute (.Name self n1) f1 a1, .Attribute (.Name self n2) f2 a2] kk tp) X.env])
    (hN : N.length = nN := by rfl) (hP : ps.length = nP := by rfl) : FnOk P w K mg base CX0 (k + 1) f fd ps (spI ⟨K, cl⟩ c fun ds S => if ds.length + 1 = nP then init2s nN m ds S else .no) := by
  refine F.ok S (fun vs H Q E h => ?_) (fun cdv A outer s H vs Q E hr h => ?_)
  · obtain ⟨a, dx, ws, ds, α, G, S, rfl, _, _, _, _, _, _, _, r, _, hp⟩ := h
    split at hp
    · rename_i q
      dsimp only at q
      split at q
      · rename_i e
        rw [List.length_cons, ← r.length, e, hP]
      · cases q
    · exact hp.elim
  · obtain ⟨a, dx, ws, ds, α, G, S', rfl, ha, hd, ne, ma, md, ga, gd, r, hR, hp⟩ := h
    obtain ⟨he, hg, w1, w2, w3⟩ := hbody cdv A outer s H E hr
    obtain ⟨te, h1, h2⟩ := he.ex
    refine ⟨_, by rw [hb]; exact pss_one (ps_asg h1 hg w1 w2 w3), ?_⟩
    split at hp
    · rename_i fs S2 q
      dsimp only at q
      split at q
      · unfold init2s at q
        rw [show ds.length = ws.length from r.length, ← hN] at q
        refine h2 _ S' _ α G H _ (envR_self r) hR ?_
        split at q
        · rename_i dx' dy S3 qm
          cases q
          rw [qm]
          intro α' G' H' v e R rv
          unfold Rep at rv
          obtain ⟨b, xs, rfl, hq, rl⟩ := rv
          have hl := rl.length
          simp only [List.length_cons, List.length_nil] at hl
          obtain ⟨u1, u2, rfl⟩ : ∃ u1 u2, xs = [u1, u2] := by
            match xs, hl with
            | [u1, u2], _ => exact ⟨u1, u2, rfl⟩
          have ka : H' a = some (.ins (cl c) dx []) := e.fr a _ ha ma
          refine ⟨b, [u1, u2], rfl, .inl (.inl (R.sub _ _ hq)), rfl, u1, [u2], rfl, ?_⟩
          refine ⟨.ref a, rfl, a, cl c, dx, p1, [], 1, rfl, .inl ⟨ka, rfl⟩, hc, s1, u2, [], rfl, ?_⟩
          refine ⟨.ref a, rfl, a, cl c, dx, p2, _, 0, rfl, SlX.slH_slt ne, hc, s2, rfl, ?_⟩
          rw [SlX.slH_twice ne]
          have rl2 : RepL ⟨K, cl⟩ α' G' [dy, dx'] [u2, u1] := by
            unfold RepL at rl
            obtain ⟨v1, w1, e1, k1, k2⟩ := rl
            cases e1
            obtain ⟨v2, e2, k3⟩ := repL1 k2
            cases e2
            unfold RepL
            exact ⟨u2, [u1], rfl, k3, by unfold RepL; exact ⟨u1, [], rfl, k1, by simp [RepL]⟩⟩
          exact hp α' G' H' [u2, u1] e R rl2
        · cases q
      · cases q
    · exact hp.elim
end
def isObj (c : Nat) : D → Bool
  | .obj c' _ => c' == c
  | _ => false
/-- o.m(e, ..) -/
def mMeth (c : Nat) (g : List D → Store → Res D) (m : ME) (n : MA) : ME := fun ρ S => (m ρ S).bind fun d S1 => if isObj c d then (n ρ S1).bind fun ds S2 => g (d :: ds) S2 else .no
theorem obj_at {Γ : Gm} {α : List Addr} {G H : Hp} {S : Store} {c : Nat} {d : D} {v : V} (R : Rl Γ α G S H) (h : isObj c d = true) (r : Rep Γ α G d v) : ∃ a dx vs, v = .ref a ∧ SlX.Slt H a (Γ.cl c) dx vs := by
  cases d <;> simp [isObj] at h
  subst h
  unfold Rep at r
  obtain ⟨a, vs, rfl, ho, _⟩ := r
  obtain ⟨dx, hs⟩ := obj_slt R.sub ho
  exact ⟨a, dx, _, rfl, hs⟩
section
variable {X : Cx} {cl : Nat → Addr} {E : XK} {pos apos : Pos} {o e : Expr} {es : List Expr} {f : Str} {mo : ME} {n : MA}
theorem q_meth {g : List D → Store → Res D} {fm : List D → Store → Res D} {k c : Nat} {fa : Addr} {pl : Sem Bool} (ho : QE X cl E o mo) (hc : SlX.SCls X.K (cl c)) (hm : Meth X.K (cl c) f fa) (F : FnR X.prog X.w X.K X.mg X.base CX0 k fa (spM ⟨X.K, cl⟩ fm)) (hr : Room k X.A)
    (ha : QA X cl E (e :: es) n) (hf : SndC ⟨X.K, cl⟩ E (fun vs H Q => spM ⟨X.K, cl⟩ fm vs H Q E0) g)
    (hst : starEach (e :: es) X.env = (false, eval e X.env) :: starEach es X.env := by rfl) (hpl : (backTo pos (starEach es X.env)).any (·.1) = false := by rfl)
    (ht : eval (.Call (.Attribute o f apos) (e :: es) [] pos) X.env = (do
      let ov ← eval o X.env
      standAt apos.atName
      let (f, first) ← holding [ov] (getMethod ov f pl)
      callWith pos f first (backTo pos (starEach (e :: es) X.env)) (backToKw pos (keywordEach [] X.env))) := by rfl) :
    QE X cl E (.Call (.Attribute o f apos) (e :: es) [] pos) (mMeth c g mo n) := by
  obtain ⟨t, h1, h2⟩ := ho.ex
  obtain ⟨u, k1, k2⟩ := ha.ex
  refine ⟨_, SlX.pe_methSl h1 hc hm F hr pass0 k1 hst hpl ht, fun ρ S σ α G H Q hρ hR hp => h2 ρ S σ α G H _ hρ hR (post_bind hp fun d S1 α1 G1 H1 v _ e1 R1 r1 hp1 => ?_)⟩
  split at hp1
  · rename_i hi
    obtain ⟨a, dx, vs, rfl, hs⟩ := obj_at R1 hi r1
    refine ⟨a, dx, vs, rfl, hs, k2 ρ S1 σ α1 G1 H1 _ (hρ.mono e1) R1 (post_bind hp1 fun ds S2 α2 G2 H2 ws _ e2 R2 r2 hp2 => ?_)⟩
    exact hf (d :: ds) S2 α2 G2 H2 (.ref a :: ws) Q R2 (by unfold RepL; exact ⟨.ref a, ws, rfl, Rep.mono e2.pre e2.sub _ _ r1, r2⟩) hp2
  · exact hp1.elim
theorem q_meth0 {g : List D → Store → Res D} {fm : List D → Store → Res D} {k c : Nat} {fa : Addr} {pl : Sem Bool} (ho : QE X cl E o mo) (hc : SlX.SCls X.K (cl c)) (hm : Meth X.K (cl c) f fa) (F : FnR X.prog X.w X.K X.mg X.base CX0 k fa (spM ⟨X.K, cl⟩ fm)) (hr : Room k X.A)
    (hf : SndC ⟨X.K, cl⟩ E (fun vs H Q => spM ⟨X.K, cl⟩ fm vs H Q E0) g)
    (ht : eval (.Call (.Attribute o f apos) [] [] pos) X.env = (do
      let ov ← eval o X.env
      standAt apos.atName
      let (f, first) ← holding [ov] (getMethod ov f pl)
      callWith pos f first (backTo pos (starEach [] X.env)) (backToKw pos (keywordEach [] X.env))) := by rfl) :
    QE X cl E (.Call (.Attribute o f apos) [] [] pos) (mMeth c g mo mNil) := by
  obtain ⟨t, h1, h2⟩ := ho.ex
  refine ⟨_, SlX.pe_methSl0 h1 hc hm F hr pass0 ht, fun ρ S σ α G H Q hρ hR hp => h2 ρ S σ α G H _ hρ hR (post_bind hp fun d S1 α1 G1 H1 v _ e1 R1 r1 hp1 => ?_)⟩
  split at hp1
  · rename_i hi
    obtain ⟨a, dx, vs, rfl, hs⟩ := obj_at R1 hi r1
    refine ⟨a, dx, vs, rfl, hs, ?_⟩
    exact hf [d] S1 α1 G1 H1 [.ref a] Q R1 (by unfold RepL; exact ⟨.ref a, [], rfl, r1, by simp [RepL]⟩) hp1
  · exact hp1.elim
end
section
open PySem.Spec PyProof.Rows
variable {X : Cx} {CX : CXT} {g : Addr} {C : Addr} {n : Nat} {sp : Sp} {E : XK}
/-- x op y, x an instance of the class at C whose def for op is at g; y of a built-in kind -/
def rOwnX (K : PySem.W.Frag) (C : Addr) (sp : Sp) (E : XK) : R2 := fun x y H Q => ∃ a dx vs t, x = .ref a ∧ SlX.Slt H a C dx vs ∧ TyX K H y t ∧ PySem.W.notFirst K C t = true ∧ sp [x, y] H Q E
theorem op_ownX {op : CmpOp} (hop : ∀ a b, compareOp op a b = richCompare op a b) (hs : PySem.W.findIn X.K (.ref C) (cmpInfo op).2.1 = some (some (.ref g))) (hf : PySem.W.isFn X.K (.ref g) = true) (F : FnR X.prog X.w X.K X.mg X.base CX n g sp)
    (hr : Room n X.A) (hx : Passes CX X E) : OpR X (compareOp op) (rOwnX X.K C sp E) := by
  intro pins s σ H x y v u Q I rx ry h
  obtain ⟨a, dx, vs, t, rfl, ha, ht, hn, q⟩ := h
  cases (show v = Value.ref a from rx)
  obtain ⟨sl, od, _, J, _⟩ := SlX.slt_inst I ha
  obtain ⟨P, hk, hP, _⟩ := kit_of I ry ht
  obtain ⟨m, hF⟩ := I.fr
  rw [hop]
  refine PySem.W.cmp_K (op := op) (tb := t) hr.units0 hF I.ok.mod.kin J (hk.ty _ _ I.kIn hP) hn hs hf ?_
  refine wpAny_mono (wpAny_call (run_fnR (us := [.ref a, u]) (vs := [.ref a, y]) F hr hx I (.cons rfl (.cons ry .nil)) q)) (fun w s' z => ?_) fun _ _ x => x
  obtain ⟨z', H', I', rz, qz⟩ := z
  exact SlX.cmpback rz ⟨z', H', I', rz, qz⟩
end
section
variable {X : Cx} {cl : Nat → Addr} {E : XK}
/-- ==, the left one may be an instance of the class c -/
def opOwn (c : Nat) (g : List D → Store → Res D) (f : D → D → Store → Res D) : D → D → Store → Res D := fun a b S => if isObj c a then (if isObj c b || isOk S b then g [a, b] S else .no) else f a b S
theorem eqO {g fm : List D → Store → Res D} {op : CmpOp} {f : D → D → Store → Res D} {k c : Nat} {fa : Addr} (hop : ∀ a b, compareOp op a b = richCompare op a b) (hs : PySem.W.findIn X.K (.ref (cl c)) (cmpInfo op).2.1 = some (some (.ref fa))) (hff : PySem.W.isFn X.K (.ref fa) = true)
    (F : FnR X.prog X.w X.K X.mg X.base CX0 k fa (spM ⟨X.K, cl⟩ fm)) (hr : Room k X.A) (hf : SndC ⟨X.K, cl⟩ E (fun vs H Q => spM ⟨X.K, cl⟩ fm vs H Q E0) g) (hn : PySem.W.notFirst X.K (cl c) (.ref (cl c)) = true) (hn2 : ∀ (S : Store) d, isOk S d = true → PySem.W.notFirst X.K (cl c) (.type (tyN d)) = true)
    (h0 : QR X cl E (compareOp op) f) : QR X cl E (compareOp op) (opOwn c g f) := by
  obtain ⟨r, h1, h2⟩ := h0.ex
  refine ⟨_, OpR.or (SlX.op_own (C := cl c) hop hs hff F hr pass0) (OpR.or (op_ownX (C := cl c) hop hs hff F hr pass0) h1), fun a b S α G H x y Q hR ra rb h => ?_⟩
  unfold opOwn at h
  split at h
  · rename_i ha
    obtain ⟨p, dx, vs, rfl, hsl⟩ := obj_at hR ha ra
    split at h
    · rename_i hb
      have call : spM ⟨X.K, cl⟩ fm [.ref p, y] H Q E0 := hf [a, b] S α G H [.ref p, y] Q hR (by unfold RepL; exact ⟨_, _, rfl, ra, by unfold RepL; exact ⟨_, _, rfl, rb, by simp [RepL]⟩⟩) h
      cases hc : isObj c b with
      | true =>
        obtain ⟨p2, dy, ws, rfl, hsl2⟩ := obj_at hR hc rb
        exact .inl ⟨p, dx, vs, p2, cl c, dy, ws, rfl, rfl, hsl, hsl2, hn, call⟩
      | false =>
        rw [hc, Bool.false_or] at hb
        exact .inr (.inl ⟨p, dx, vs, .type (tyN b), rfl, hsl, tyx_at hR rb hb, hn2 S b hb, call⟩)
    · exact h.elim
  · exact .inr (.inr (h2 a b S α G H x y Q hR ra rb h))
end
section
variable {X : Cx} {cl : Nat → Addr} {E : XK} {pos : Pos} {a : Expr} {m : ME}
def isC (c : Nat) (d : D) (S : Store) : Res D := if isObj c d then .ok (.bl true) S else if isOk S d then .ok (.bl false) S else .no
def mIsC (c : Nat) (m : ME) : ME := fun ρ S => (m ρ S).bind (isC c)
theorem q_isC (c : Nat) {x : Str} {p p2 : Pos} (h : QE X cl E a m) (hg : Gl X "isinstance") (hm : X.mg "isinstance" = none) (hg2 : Gl X x) (hm2 : X.mg x = some (.ref (cl c))) (hc : SlX.SCls X.K (cl c)) (hi : SlX.SIsi X.K (cl c)) (hk : PySem.W.kitOne X.K (.ref (cl c)) (.ref (cl c)) = some true) (hk2 : ∀ (S : Store) d, isOk S d = true → PySem.W.kitOne X.K (.type (tyN d)) (.ref (cl c)) = some false)
    (hdb : (x == ("__debug__" : Str)) = false := by decide)
    (hs1 : starEach [a, .Name x p2] X.env = (false, eval a X.env) :: starEach [.Name x p2] X.env := by rfl) (hs2 : starEach [.Name x p2] X.env = (false, eval (.Name x p2) X.env) :: starEach [] X.env := by rfl) (hpl : (backTo pos (starEach [.Name x p2] X.env)).any (·.1) = false := by rfl) :
    QE X cl E (.Call (.Name "isinstance" p) [a, .Name x p2] [] pos) (mIsC c m) := by
  obtain ⟨t, h1, h2⟩ := h.ex
  refine ⟨_, pe_callB (CallR.or (SlX.call_isiSl (.ref (cl c))) call_isi) hg hm (by decide +kernel) (pa_cons h1 (pa_cons (pe_glob (v := .ref (cl c)) hg2 hm2 rfl hdb) pa_nil hs2) hs1) (by decide) (by decide) hs1 hpl, fun ρ S σ α G H Q hρ hR hp => h2 ρ S σ α G H _ hρ hR (post_bind hp fun d S1 α1 G1 H1 v _ e1 R1 r1 hp1 => ?_)⟩
  unfold isC at hp1
  split at hp1
  · rename_i ho
    obtain ⟨b, dx, vs, rfl, hsl⟩ := obj_at R1 ho r1
    exact .inl ⟨b, cl c, dx, vs, .ref (cl c), true, rfl, rfl, fun w hw => hw, hsl, hc, hi, hk, post_ok hp1 R1 (by simp [Rep])⟩
  · split at hp1
    · rename_i ho
      exact .inr ⟨v, .ref (cl c), .type (tyN d), .ref (cl c), false, rfl, .own _, tyx_at R1 r1 ho, hk2 _ d ho, post_ok hp1 R1 (by simp [Rep])⟩
    · exact hp1.elim
end
/-- .. by names alone -/
def mMakeK (c : Nat) (f : List D → Store → Res (List D)) (j : Nat) (idx : List Nat) (nk : MA) : ME := fun ρ S => (nk ρ S).bind fun zs S1 => if zs.length = j then (match f (place idx zs) S1 with
  | .ok fs S2 => .ok (.obj c fs) S2
  | _ => .no) else .no
section
variable {X : Cx} {cl : Nat → Addr} {E : XK} {pos : Pos}
theorem q_makeK0 {c k : Nat} {f : List D → Store → Res (List D)} {fa : Addr} {fd : FuncData} {ps ks : List Str} {x : Str} {p : Pos} {kws : List Keyword} {nk : MA} (j : Nat) (idxF idx : List Nat) (M : Mk X.K (cl c) fa) (F : FnOk X.prog X.w X.K X.mg X.base CX0 k fa fd ps (spI ⟨X.K, cl⟩ c f)) (hr : Room (k + 1) X.A)
    (hg : Gl X x) (hm : X.mg x = some (.ref (cl c))) (hb : KBn X.K fd ps 1 ks (fun us ws => place idxF (us ++ ws)) (fun us ws => place idxF (us ++ ws))) (hkw : QK X cl E kws nk) (hi : ∀ (a : V) (zs : List V), zs.length = j → place idxF (a :: zs) = a :: place idx zs)
    (hj : ks.length = j := by rfl)
    (hall : (backToKw pos (keywordEach kws X.env)).all (·.1.isSome) = true := by rfl) (hks : (backToKw pos (keywordEach kws X.env)).filterMap (·.1) = ks := by rfl) (hdb : (x == ("__debug__" : Str)) = false := by decide)
    (hpl : ((backTo pos (starEach [] X.env)).any (·.1) || (backToKw pos (keywordEach kws X.env)).any (·.1.isNone)) = false := by rfl) :
    QE X cl E (.Call (.Name x p) [] kws pos) (mMakeK c f j idx nk) := by
  obtain ⟨t, h1, h2⟩ := hkw.ex
  refine ⟨_, pe_makeK0 M F hr hg hm hb pass0 h1 hall hks hdb hpl, fun ρ S σ α G H Q hρ hR hp => h2 ρ S σ α G H _ hρ hR (post_bind hp fun zs S1 α1 G1 H1 vs _ e1 R1 r1 hp1 => ?_)⟩
  split at hp1
  · rename_i hl
    have hv : vs.length = j := by rw [← r1.length]; exact hl
    refine ⟨rfl, by rw [hv, hj], fun a dx na nd ne => ?_⟩
    show spI _ c f (place idxF (V.ref a :: vs)) _ _ _
    rw [hi _ _ hv]
    exact make_post R1 (place_rep r1 idx) hp1 a dx na nd ne
  · exact hp1.elim
end
def opIsB : D → D → Store → Res D := fun a b S => match a, b with
  | .bl i, .bl j => .ok (.bl (decide (i = j))) S
  | _, _ => .no
section
variable {X : Cx} {cl : Nat → Addr} {E : XK}
theorem isB : QR X cl E (compareOp .Is) opIsB := by
  refine ⟨_, op_isBl, fun a b S α G H x y Q hR ra rb h => ?_⟩
  cases a <;> cases b <;> try exact h.elim
  rename_i i j
  simp only [Rep] at ra rb
  exact ⟨i, j, ra, rb, post_ok h hR (by simp [Rep])⟩
end
def tMethK (C : Addr) (j : Nat) (sp : Sp) (gV : List V → List V → List V) (E : XK) (ta : TE) (tk : TA) : TE := fun σ H Q => ta σ H fun x H1 => ∃ a dx vs, x = .ref a ∧ SlX.Slt H1 a C dx vs ∧ tk σ H1 fun zs H2 => zs.length = j ∧ sp (gV [x] zs) H2 Q E
def mMethK (c : Nat) (g : List D → Store → Res D) (j : Nat) (idx : List Nat) (m : ME) (nk : MA) : ME := fun ρ S => (m ρ S).bind fun d S1 => if isObj c d then (nk ρ S1).bind fun zs S2 => if zs.length = j then g (place idx (d :: zs)) S2 else .no else .no
section
open PySem.Spec PyProof.Rows
variable {X : Cx} {cl : Nat → Addr} {E : XK} {pos apos : Pos} {o : Expr} {f : Str} {mo : ME} {nk : MA}
theorem pe_methK0 {CX : CXT} {k : Nat} {C fa : Addr} {fd : FuncData} {ps ks : List Str} {sp : Sp} {kws : List Keyword} {ta : TE} {tk : TA} {g : List Value → List Value → List Value} {gV : List V → List V → List V} {pl : Sem Bool} (he : PE X o ta) (hc : SlX.SCls X.K C) (hm : Meth X.K C f fa) (F : FnOk X.prog X.w X.K X.mg X.base CX k fa fd ps sp) (hr : Room k X.A) (hb : KBn X.K fd ps 1 ks g gV) (hx : Passes CX X E)
    (hkw : PK X kws tk) (hall : (backToKw pos (keywordEach kws X.env)).all (·.1.isSome) = true) (hks : (backToKw pos (keywordEach kws X.env)).filterMap (·.1) = ks)
    (hpl : ((backTo pos (starEach [] X.env)).any (·.1) || (backToKw pos (keywordEach kws X.env)).any (·.1.isNone)) = false)
    (ht : eval (.Call (.Attribute o f apos) [] kws pos) X.env = (do
      let ov ← eval o X.env
      standAt apos.atName
      let (f, first) ← holding [ov] (getMethod ov f pl)
      callWith pos f first (backTo pos (starEach [] X.env)) (backToKw pos (keywordEach kws X.env)))) :
    PE X (.Call (.Attribute o f apos) [] kws pos) (tMethK C ks.length sp gV E ta tk) := by
  refine ⟨fun pins s σ H Q I h => ?_⟩
  refine PySem.W.methodCall_KW (pl := pl) (thn (he.run pins s σ H _ I h) fun u s1 ⟨x, H1, I1, rx, a, dx, vs, ex, hsl, q⟩ => ?_) ht
  subst ex
  obtain rfl : u = Value.ref a := rx
  refine SlX.getmethsl_ok I1 hsl hc hm ?_
  refine PySem.W.callWith_KW0 (first := [.ref a]) (h₀ := X.base) I1.ok.mod.kin hm.kp hall ?_ hpl
  refine thn (hkw.run pos pins s1 σ H1 _ I1 q) fun ws s2 ⟨zs, H2, I2, rz, l2, q2⟩ => ⟨I2.kIn, ?_⟩
  rw [hks]
  exact run_fnN (us := [.ref a]) (vs := [.ref a]) F hr hb hx I2 (.cons rfl .nil) rz rfl l2 q2
theorem q_methK0 {g fm : List D → Store → Res D} {k c j : Nat} {idx : List Nat} {fa : Addr} {fd : FuncData} {ps ks : List Str} {kws : List Keyword} {pl : Sem Bool} (ho : QE X cl E o mo) (hc : SlX.SCls X.K (cl c)) (hm : Meth X.K (cl c) f fa) (F : FnOk X.prog X.w X.K X.mg X.base CX0 k fa fd ps (spM ⟨X.K, cl⟩ fm)) (hr : Room k X.A)
    (hb : KBn X.K fd ps 1 ks (fun us ws => place idx (us ++ ws)) (fun us ws => place idx (us ++ ws))) (hkw : QK X cl E kws nk) (hf : SndC ⟨X.K, cl⟩ E (fun vs H Q => spM ⟨X.K, cl⟩ fm vs H Q E0) g)
    (hall : (backToKw pos (keywordEach kws X.env)).all (·.1.isSome) = true := by rfl) (hks : (backToKw pos (keywordEach kws X.env)).filterMap (·.1) = ks := by rfl)
    (hpl : ((backTo pos (starEach [] X.env)).any (·.1) || (backToKw pos (keywordEach kws X.env)).any (·.1.isNone)) = false := by rfl) (hj : ks.length = j := by rfl)
    (ht : eval (.Call (.Attribute o f apos) [] kws pos) X.env = (do
      let ov ← eval o X.env
      standAt apos.atName
      let (f, first) ← holding [ov] (getMethod ov f pl)
      callWith pos f first (backTo pos (starEach [] X.env)) (backToKw pos (keywordEach kws X.env))) := by rfl) :
    QE X cl E (.Call (.Attribute o f apos) [] kws pos) (mMethK c g j idx mo nk) := by
  subst hj
  obtain ⟨t, h1, h2⟩ := ho.ex
  obtain ⟨u, k1, k2⟩ := hkw.ex
  refine ⟨_, pe_methK0 h1 hc hm F hr hb pass0 k1 hall hks hpl ht, fun ρ S σ α G H Q hρ hR hp => h2 ρ S σ α G H _ hρ hR (post_bind hp fun d S1 α1 G1 H1 v _ e1 R1 r1 hp1 => ?_)⟩
  split at hp1
  · rename_i hi
    obtain ⟨a, dx, vs, rfl, hs⟩ := obj_at R1 hi r1
    refine ⟨a, dx, vs, rfl, hs, k2 ρ S1 σ α1 G1 H1 _ (hρ.mono e1) R1 (post_bind hp1 fun zs S2 α2 G2 H2 ws _ e2 R2 r2 hp2 => ?_)⟩
    split at hp2
    · rename_i hl
      refine ⟨by rw [← r2.length]; exact hl, ?_⟩
      exact hf (place idx (d :: zs)) S2 α2 G2 H2 (place idx (.ref a :: ws)) Q R2 (place_rep (by unfold RepL; exact ⟨.ref a, ws, rfl, Rep.mono e2.pre e2.sub _ _ r1, r2⟩) idx) hp2
    · exact hp2.elim
  · exact hp1.elim
end
end Q
namespace Q
open PySem L2
section
open PySem.W PySem.Calls PyProof.Rows
variable {prog : Program} {w : World} {A : Around} {E : Value → Shared → Prop} {s : Shared} {K : Frag} {x C L f : Addr} {h₀ : Heap} {m : Str → Option Value} {ox : Obj} {od : Option Obj} {b tb : Value}
/-- what the class must have -/
structure NeC (K : Frag) (C g : Addr) : Prop where
  ne : findIn K (.ref C) "__ne__" = some (some (.builtin "object.__ne__"))
  top : mroIn K C (.type "object") = some true
  eq : findIn K (.ref C) "__eq__" = some (some (.ref g))
  fn : isFn K (.ref g) = true
theorem objNe_K (X : K.In s.heap) (I : InstAt s.heap x ox C od) (c : NeC K C f) (hu : A.units < cLine) {Q : Fin → Shared → Prop}
    (hcall : wpAny (model prog w) A (call (.ref f) [.ref x, b]) (fun v s' => ∃ b, v = .bool b ∧ Q (.done (.ret (.bool (!b)))) s') E s) :
    wpAny (model prog w) A (Builtin.«object.__ne__» ⟨[.ref x, b], []⟩) Q E s := by
  unfold Builtin.«object.__ne__»
  repeat (first
    | with_reducible refine wpAny_cRoomFor hu ?_
    | (refine wpAny_bind (m := callSpecialIfBound? (.ref x) (Str.ofString "__eq__") [b])
        (ifBound_K X I c.eq c.fn (wpAny_mono hcall (fun r s' hr => by
          obtain ⟨b, rfl, hq⟩ := hr
          repeat (first | exact hq | exact wpAny_pure hq | exact wpAny_truthy_bool hq | (refine wpAny_bind (m := truthy (.bool _)) (wpAny_truthy_bool ?_)) | wp_step)) fun _ _ e => e)))
    | wp_step)
theorem ne_K {Q : Value → Shared → Prop} (hu : A.units + 1 < cLine) (F : Fr h₀ L s.heap m) (X₀ : K.In h₀) (I : InstAt s.heap x ox C od) (hb : Looks (model prog w) s.heap (typeOf b) tb) (hn : notFirst K C tb = true) (c : NeC K C f)
    (h : wpAny (model prog w) A.in1 (call (.ref f) [.ref x, b]) (fun v s' => ∃ b, v = .bool b ∧ Q (.bool (!b)) s') E s) : wpAny (model prog w) A (richCompare .NotEq (.ref x) b) Q E s := by
  have X := X₀.keeps F.keep
  have one : wpAny (model prog w) A (tryCompare (.ref x) "__ne__" b) (fun r s' => ∃ v, r = some v ∧ Q v s') E s := by
    unfold tryCompare
    refine wpAny_bind ?_
    simp only [callSpecialIfBound?, bindSpecialIfBound?]
    refine wpAny_holding (wpAny_bind (wpAny_bind (wpAny_bind (I.type.here ((looks_findIn X c.ne).here ?_)))))
    simp only [PySem.F.cmp_object.ne.bind]
    refine wpAny_bind (wpAny_askSetting (wpAny_ite ?_))
    have hi : Looks (model prog w) s.heap (isInstance (.ref x) (.type "object")) true := I.type.andThen (looks_mroIn X c.top)
    have fin : wpAny (model prog w) A (call (.builtin "object.__ne__") ([.ref x] ++ [b]) >>= fun v => pure (some v)) (fun r s' => wpAny (model prog w) A (match r with
        | some .notImplemented | none => pure none
        | some v => pure (some v)) (fun r s' => ∃ v, r = some v ∧ Q v s') E s') E s := by
      refine wpAny_bind (wpAny_call (codeAny_call_builtin PySem.F.cmp_object.ne.plain PySem.F.cmpEntry_ne
        (check_slot PySem.F.cmpKind_ne PySem.F.cmpSplit_ne hi (PySem.F.cmpArgs_ne _ _) (objNe_K (A := A.in1) X I c hu (wpAny_mono h (fun v s' hv => ?_) fun _ _ e => e)))))
      obtain ⟨r, rfl, hq⟩ := hv
      exact ⟨r, rfl, wpAny_pure (wpAny_pure ⟨_, rfl, hq⟩)⟩
    split
    · exact wpAny_bind (wpAny_pure (wpAny_pure fin))
    · exact wpAny_tryCatch (wpAny_bind (wpAny_pure (wpAny_pure fin)))
  unfold richCompare
  simp only [oneThing_ref]
  refine wpAny_holding (wpAny_bind (wpAny_cRoomFor (Nat.lt_of_succ_lt hu) ?_))
  refine wpAny_bind (I.type.here (wpAny_bind (hb.here ?_)))
  split
  · rename_i q
    have e : subIn K tb (.ref C) = some false := by
      rcases Bool.or_eq_true_iff.mp hn with e | e
      · rw [beq_iff_eq.mp e] at q; simp at q
      · exact beq_iff_eq.mp e
    refine wpAny_bind ((looks_subIn X e).here ?_)
    simp only [Bool.false_eq_true, if_false]
    refine wpAny_bind (wpAny_mono one (fun r s' z => ?_) fun _ _ e => e)
    obtain ⟨v, rfl, hq⟩ := z
    exact wpAny_pure hq
  · refine wpAny_bind (wpAny_pure ?_)
    simp only [Bool.false_eq_true, if_false]
    refine wpAny_bind (wpAny_mono one (fun r s' z => ?_) fun _ _ e => e)
    obtain ⟨v, rfl, hq⟩ := z
    exact wpAny_pure hq
end
section
open PySem.Spec PyProof.Rows
variable {X : Cx} {CX : CXT} {g : Addr} {C : Addr} {n : Nat} {sp : Sp} {E : XK}
/-- what follows the turning round of a truth -/
def notQ (Q : VK) : VK := fun v H => ∃ b, v = V.bl b ∧ Q (.bl (!b)) H
def rNeX (K : PySem.W.Frag) (C : Addr) (sp : Sp) (E : XK) : R2 := fun x y H Q => ∃ a dx vs, x = .ref a ∧ SlX.Slt H a C dx vs ∧ ((∃ t, TyX K H y t ∧ PySem.W.notFirst K C t = true) ∨ ∃ b C' dy ws, y = .ref b ∧ SlX.Slt H b C' dy ws ∧ PySem.W.notFirst K C (.ref C') = true) ∧ sp [x, y] H (notQ Q) E
theorem op_neX (c : NeC X.K C g) (F : FnR X.prog X.w X.K X.mg X.base CX n g sp) (hr : Room (n + 1) X.A) (hu : X.A.units + 1 < cLine) (hx : ∀ (H : Hp) (s : Shared) (e : Value) (s' : Shared), CX X.stack H s E e s' → False) : OpR X (compareOp .NotEq) (rNeX X.K C sp E) := by
  intro pins s σ H x y v u Q I rx ry h
  obtain ⟨a, dx, vs, rfl, ha, ht, q⟩ := h
  cases (show v = Value.ref a from rx)
  obtain ⟨sl, od, _, J, _⟩ := SlX.slt_inst I ha
  obtain ⟨m, hF⟩ := I.fr
  have call : wpAny (model X.prog X.w) X.A.in1 (call (.ref g) [.ref a, u]) (fun v s' => ∃ b, v = .bool b ∧ EP X pins σ Q (.bool (!b)) s') X.xe s := by
    refine wpAny_call (codeAny_mono (F X.A.in1 X.stack s H [.ref a, u] [.ref a, y] (notQ Q) E hr.in1 I.env0.in1 (.cons rfl (.cons ry .nil)) q) fun r s' hq => ?_)
    cases r with
    | error e => exact (hx _ _ _ _ hq).elim
    | ok fl =>
      cases fl with
      | ret r =>
        obtain ⟨z, H', I2, rv, b, e, hq2⟩ := I.after hq
        subst e
        cases (show r = Value.bool b from rv)
        exact ⟨b, rfl, ⟨.bl (!b), H', I2, rfl, hq2⟩⟩
      | next => exact False.elim hq
      | brk => exact False.elim hq
      | cont => exact False.elim hq
  rcases ht with ⟨t, ht, hn⟩ | ⟨b, C', dy, ws, rfl, hb, hn⟩
  · obtain ⟨P, hk, hP, _⟩ := kit_of I ry ht
    exact ne_K hu hF I.ok.mod.kin J (hk.ty _ _ I.kIn hP) hn c call
  · cases (show u = Value.ref b from ry)
    obtain ⟨sl', od', _, J', _⟩ := SlX.slt_inst I hb
    exact ne_K hu hF I.ok.mod.kin J J'.type hn c call
end
section
variable {X : Cx} {cl : Nat → Addr} {E : XK}
def notB (d : D) (S : Store) : Res D := match d with
  | .bl b => .ok (.bl (!b)) S
  | _ => .no
/-- !=, the left one may be an instance of the class c -/
def opOwnN (c : Nat) (g : List D → Store → Res D) (f : D → D → Store → Res D) : D → D → Store → Res D := fun a b S => if isObj c a then (if isObj c b || isOk S b then (g [a, b] S).bind notB else .no) else f a b S
theorem neO {g fm : List D → Store → Res D} {f : D → D → Store → Res D} {k c : Nat} {fa : Addr} (hc : NeC X.K (cl c) fa)
    (F : FnR X.prog X.w X.K X.mg X.base CX0 k fa (spM ⟨X.K, cl⟩ fm)) (hr : Room (k + 1) X.A) (hf : SndC ⟨X.K, cl⟩ E (fun vs H Q => spM ⟨X.K, cl⟩ fm vs H Q E0) g) (hn : PySem.W.notFirst X.K (cl c) (.ref (cl c)) = true) (hn2 : ∀ (S : Store) d, isOk S d = true → PySem.W.notFirst X.K (cl c) (.type (tyN d)) = true)
    (h0 : QR X cl E (compareOp .NotEq) f) : QR X cl E (compareOp .NotEq) (opOwnN c g f) := by
  have hu : X.A.units + 1 < cLine := by have := hr.un; omega
  obtain ⟨r, h1, h2⟩ := h0.ex
  refine ⟨_, OpR.or (op_neX (E := E0) hc F hr hu fun _ _ _ _ z => z) h1, fun a b S α G H x y Q hR ra rb h => ?_⟩
  unfold opOwnN at h
  split at h
  · rename_i ha
    obtain ⟨p, dx, vs, rfl, hsl⟩ := obj_at hR ha ra
    split at h
    · rename_i hb
      have call : spM ⟨X.K, cl⟩ fm [.ref p, y] H (notQ Q) E0 := hf [a, b] S α G H [.ref p, y] _ hR (by unfold RepL; exact ⟨_, _, rfl, ra, by unfold RepL; exact ⟨_, _, rfl, rb, by simp [RepL]⟩⟩) (post_bind h fun d S1 α1 G1 H1 v _ e1 R1 r1 hp1 => by
        cases d <;> try exact hp1.elim
        rename_i b _
        simp only [Rep] at r1
        exact ⟨b, r1, post_ok (x := V.bl (!b)) hp1 R1 (by simp [Rep])⟩)
      refine .inl ⟨p, dx, vs, rfl, hsl, ?_, call⟩
      cases hc : isObj c b with
      | true =>
        obtain ⟨p2, dy, ws, rfl, hsl2⟩ := obj_at hR hc rb
        exact .inr ⟨p2, cl c, dy, ws, rfl, hsl2, hn⟩
      | false =>
        rw [hc, Bool.false_or] at hb
        exact .inl ⟨.type (tyN b), tyx_at hR rb hb, hn2 S b hb⟩
    · exact h.elim
  · exact .inr (h2 a b S α G H x y Q hR ra rb h)
end
section
open PySem.Spec PyProof.Rows
variable {X : Cx} {cl : Nat → Addr} {E : XK} {pos : Pos} {o e : Expr} {es : List Expr} {mo : ME} {n : MA}
theorem q_callO {g fm : List D → Store → Res D} {k c : Nat} {fa : Addr} (ho : QE X cl E o mo) (hc : StX.CallO X.K (cl c) fa) (F : FnR X.prog X.w X.K X.mg X.base CX0 k fa (spM ⟨X.K, cl⟩ fm)) (hr : Room k X.A) (ha : QA X cl E (e :: es) n) (hf : SndC ⟨X.K, cl⟩ E (fun vs H Q => spM ⟨X.K, cl⟩ fm vs H Q E0) g)
    (ht : eval (.Call o (e :: es) [] pos) X.env = (do callWith pos (← eval o X.env) [] (backTo pos (starEach (e :: es) X.env)) (backToKw pos (keywordEach [] X.env))) := by rfl)
    (he : starEach (e :: es) X.env = (false, eval e X.env) :: starEach es X.env := by rfl) (hpl : (backTo pos (starEach es X.env)).any (·.1) = false := by rfl) : QE X cl E (.Call o (e :: es) [] pos) (mMeth c g mo n) := by
  obtain ⟨t, h1, h2⟩ := ho.ex
  obtain ⟨u, k1, k2⟩ := ha.ex
  refine ⟨_, StX.pe_callO h1 hc F hr pass0 k1 ht he hpl, fun ρ S σ α G H Q hρ hR hp => h2 ρ S σ α G H _ hρ hR (post_bind hp fun d S1 α1 G1 H1 v _ e1 R1 r1 hp1 => ?_)⟩
  split at hp1
  · rename_i hi
    obtain ⟨a, dx, vs, rfl, hs⟩ := obj_at R1 hi r1
    refine ⟨a, rfl, k2 ρ S1 σ α1 G1 H1 _ (hρ.mono e1) R1 (post_bind hp1 fun ds S2 α2 G2 H2 ws _ e2 R2 r2 hp2 => ?_)⟩
    have r1' := Rep.mono e2.pre e2.sub _ _ r1
    obtain ⟨a', dx', vs', e', hs'⟩ := obj_at R2 hi r1'
    cases e'
    exact ⟨.inl ⟨dx', vs', hs'⟩, hf (d :: ds) S2 α2 G2 H2 (.ref a :: ws) Q R2 (by unfold RepL; exact ⟨.ref a, ws, rfl, r1', r2⟩) hp2⟩
  · exact hp1.elim
def tCallOK (X : Cx) (C : Addr) (j : Nat) (sp : Sp) (gV : List V → List V → List V) (E : XK) (tf : TE) (tk : TA) : TE := fun σ H Q => tf σ H fun y H1 => ∃ a, y = V.ref a ∧ tk σ H1 fun zs H2 => StX.InsC X H2 a C ∧ zs.length = j ∧ sp (gV [y] zs) H2 Q E
theorem callO_kw {M : Model} {A : Around} {E : Value → Shared → Prop} {s : Shared} {a : Addr} {pos : Pos} {env : PySem.Env} {Q : Value → Shared → Prop} {kws : List Keyword} (hall : (backToKw pos (keywordEach kws env)).all (·.1.isSome) = true)
    (h : wpAny M A (evalAll ((backToKw pos (keywordEach kws env)).map (·.2))) (fun ks s₁ => (∃ C ox od, PySem.W.InstAt s₁.heap a ox C od ∧ ox.data = .plain) ∧ wpAny M A (call (.ref a) ([] ++ []) (((backToKw pos (keywordEach kws env)).filterMap (·.1)).zip ks)) Q E s₁) E s)
    (hpl : ((backTo pos (starEach [] env)).any (·.1) || (backToKw pos (keywordEach kws env)).any (·.1.isNone)) = false) : wpAny M A (callWith pos (.ref a) [] (backTo pos (starEach [] env)) (backToKw pos (keywordEach kws env))) Q E s := by
  unfold callWith
  refine wpAny_bind (wpAny_holding (wpAny_mono (evalArgs_kw2_nil (Q := fun z s₁ => (∃ C ox od, PySem.W.InstAt s₁.heap a ox C od ∧ ox.data = .plain) ∧ wpAny M A (call (.ref a) ([] ++ z.pos) z.kw) Q E s₁) hall h) (fun z s₁ h₁ => wpAny_bind (wpAny_standAt ?_)) fun _ _ y => y))
  obtain ⟨⟨C, ox, od, J, hd⟩, h₁⟩ := h₁
  have L := PySem.W.kco_keeper (M := M) J hd
  simp only [hpl]
  refine wpAny_bind (L.here ?_)
  have tail : ∀ {t : Sem Value}, wpAny M A t Q E s₁ → wpAny M A (t >>= fun r => holding [r] point >>= fun _ => pure r) Q E s₁ :=
    fun ht => wpAny_bind (wpAny_mono ht (fun r s₂ hr => wpAny_bind (wpAny_holding (wpAny_point (wpAny_pure hr)))) fun _ _ y => y)
  exact tail (wpAny_operateT h₁)
/-- o(k=e, ..) -/
theorem q_callOK {g fm : List D → Store → Res D} {k c j : Nat} {idx : List Nat} {fa : Addr} {fd : FuncData} {ps ks : List Str} {kws : List Keyword} {nk : MA} (ho : QE X cl E o mo) (hc : StX.CallO X.K (cl c) fa) (F : FnOk X.prog X.w X.K X.mg X.base CX0 k fa fd ps (spM ⟨X.K, cl⟩ fm)) (hr : Room k X.A)
    (hb : KBn X.K fd ps 1 ks (fun us ws => place idx (us ++ ws)) (fun us ws => place idx (us ++ ws))) (hkw : QK X cl E kws nk) (hf : SndC ⟨X.K, cl⟩ E (fun vs H Q => spM ⟨X.K, cl⟩ fm vs H Q E0) g)
    (hall : (backToKw pos (keywordEach kws X.env)).all (·.1.isSome) = true := by rfl) (hks : (backToKw pos (keywordEach kws X.env)).filterMap (·.1) = ks := by rfl)
    (hpl : ((backTo pos (starEach [] X.env)).any (·.1) || (backToKw pos (keywordEach kws X.env)).any (·.1.isNone)) = false := by rfl) (hj : ks.length = j := by rfl)
    (ht : eval (.Call o [] kws pos) X.env = (do callWith pos (← eval o X.env) [] (backTo pos (starEach [] X.env)) (backToKw pos (keywordEach kws X.env))) := by rfl) :
    QE X cl E (.Call o [] kws pos) (mMethK c g j idx mo nk) := by
  subst hj
  obtain ⟨t, h1, h2⟩ := ho.ex
  obtain ⟨u, k1, k2⟩ := hkw.ex
  have pe : PE X (.Call o [] kws pos) (tCallOK X (cl c) ks.length (spM ⟨X.K, cl⟩ fm) (fun us ws => place idx (us ++ ws)) E0 t u) := by
    refine ⟨fun pins s σ H Q I h => ?_⟩
    rw [ht]
    refine wpAny_bind (thn (h1.run pins s σ H _ I h) fun u1 s1 ⟨y, H1, I1, ry, a, ey, q⟩ => ?_)
    subst ey
    obtain rfl : u1 = Value.ref a := ry
    refine callO_kw hall (thn (k1.run pos pins s1 σ H1 _ I1 q) fun ws s2 ⟨zs, H2, I2, rz, hi, hl, q2⟩ => ?_) hpl
    obtain ⟨ox, od, J, hd⟩ := StX.insC_at I2 hi
    refine ⟨⟨cl c, ox, od, J, hd⟩, ?_⟩
    rw [hks]
    refine wpAny_call (PySem.W.kco_code I2.kIn J hd hc.at_ hc.fn hc.fi ?_)
    have rr := hb.rel (.cons (show RelV (.ref a) (.ref a) from rfl) .nil) rz
    refine codeAny_mono (F.run X.A X.stack s2 H2 ⟨[.ref a], ks.zip ws⟩ (place idx ([.ref a] ++ ws)) (place idx ([.ref a] ++ zs)) Q E0 hr I2.env0 (hb.to s2 [.ref a] ws I2.kIn rfl (rz.length.symm.trans hl)) rr q2) fun r s' hq => ?_
    cases r with
    | error e => exact pass0 pins σ H2 s2 e s' I2 hq
    | ok fl =>
      cases fl with
      | ret u => exact I2.after hq
      | next => exact False.elim hq
      | brk => exact False.elim hq
      | cont => exact False.elim hq
  refine ⟨_, pe, fun ρ S σ α G H Q hρ hR hp => h2 ρ S σ α G H _ hρ hR (post_bind hp fun d S1 α1 G1 H1 v _ e1 R1 r1 hp1 => ?_)⟩
  split at hp1
  · rename_i hi
    obtain ⟨a, dx, vs, rfl, hs⟩ := obj_at R1 hi r1
    refine ⟨a, rfl, k2 ρ S1 σ α1 G1 H1 _ (hρ.mono e1) R1 (post_bind hp1 fun zs S2 α2 G2 H2 ws _ e2 R2 r2 hp2 => ?_)⟩
    split at hp2
    · rename_i hl
      have r1' := Rep.mono e2.pre e2.sub _ _ r1
      obtain ⟨a', dx', vs', e', hs'⟩ := obj_at R2 hi r1'
      cases e'
      exact ⟨.inl ⟨dx', vs', hs'⟩, by rw [← r2.length]; exact hl, hf (place idx (d :: zs)) S2 α2 G2 H2 (place idx (.ref a :: ws)) Q R2 (place_rep (by unfold RepL; exact ⟨.ref a, ws, rfl, r1', r2⟩) idx) hp2⟩
    · exact hp2.elim
  · exact hp1.elim
end
structure StaC (K : PySem.W.Frag) (C : Addr) (m : Str) (g : Addr) : Prop where
  rd : PySem.W.readsIn K C (.type "type") = true
  ga : PySem.W.specialIn K (.ref C) "__getattribute__" = some (some (.builtin "type.__getattribute__"))
  at_ : ∃ p, PySem.W.findCls K (.ref C) (.type "type") m = some (.get (.builtin "staticmethod.__get__") (.ref p) .none (.ref C)) ∧ ∃ rest, PySem.W.recIn K p "staticmethod" = some (.ref g :: rest)
  kp : PySem.W.keepIn K (.ref g) = true
section
open PySem.Spec PyProof.Rows
variable {X : Cx} {cl : Nat → Addr} {E : XK} {pos apos p : Pos} {x : Str} {e : Expr} {es : List Expr} {f : Str} {n : MA}
theorem getsta_ok {A : Around} {EE : Value → Shared → Prop} {pins : List (Addr × Obj)} {σ : L2.St} {H : Hp} {s : Shared} {C g : Addr} {m : Str} {pl : Sem Bool} {Q : Value × List Value → Shared → Prop} (I : Inv X pins σ H s) (k : StaC X.K C m g)
    (h : ∀ s', Inv X pins σ H s' → Q (.ref g, []) s') : wpAny (model X.prog X.w) A (getMethod (.ref C) m pl) Q EE s := by
  obtain ⟨p, hp, rest, hr⟩ := k.at_
  refine PySem.W.method_cls I.kIn k.ga ?_
  refine PySem.W.cls_bind I.kIn k.rd hp ?_
  refine wpAny_call (PySem.W.sm_get (s := { s with toks := s.toks + 1 }) I.kIn hr (PySem.W.handed_on rfl ?_))
  exact h _ (I.tok _)
theorem q_sta {g fm : List D → Store → Res D} {k c : Nat} {fa : Addr} {pl : Sem Bool} (hg : Gl X x) (hm : X.mg x = some (.ref (cl c))) (hc : StaC X.K (cl c) f fa) (F : FnR X.prog X.w X.K X.mg X.base CX0 k fa (spM ⟨X.K, cl⟩ fm)) (hr : Room k X.A)
    (ha : QA X cl E (e :: es) n) (hf : SndC ⟨X.K, cl⟩ E (fun vs H Q => spM ⟨X.K, cl⟩ fm vs H Q E0) g) (hdb : (x == ("__debug__" : Str)) = false := by decide)
    (hst : starEach (e :: es) X.env = (false, eval e X.env) :: starEach es X.env := by rfl) (hpl : (backTo pos (starEach es X.env)).any (·.1) = false := by rfl)
    (ht : eval (.Call (.Attribute (.Name x p) f apos) (e :: es) [] pos) X.env = (do
      let ov ← eval (.Name x p) X.env
      standAt apos.atName
      let (f, first) ← holding [ov] (getMethod ov f pl)
      callWith pos f first (backTo pos (starEach (e :: es) X.env)) (backToKw pos (keywordEach [] X.env))) := by rfl) :
    QE X cl E (.Call (.Attribute (.Name x p) f apos) (e :: es) [] pos) (mCall g n) := by
  obtain ⟨u, k1, k2⟩ := ha.ex
  have he := pe_glob (pos := p) (v := .ref (cl c)) hg hm rfl hdb
  have pe : PE X (.Call (.Attribute (.Name x p) f apos) (e :: es) [] pos) (tCB (fun vs H Q => spM ⟨X.K, cl⟩ fm vs H Q E0) u) := by
    refine ⟨fun pins s σ H Q I h => ?_⟩
    refine PySem.W.methodCall_KW (pl := pl) (thn (he.run pins s σ H (fun v H' => v = .ref (cl c) ∧ H' = H) I ⟨rfl, rfl⟩) fun u s1 ⟨x, H1, I1, rx, ex, eH⟩ => ?_) ht
    subst ex eH
    obtain rfl : u = Value.ref (cl c) := rx
    refine getsta_ok I1 hc fun s2 I2 => ?_
    refine PySem.W.callWith_K (h₀ := X.base) (first := []) I2.ok.mod.kin hc.kp (thn (k1.run pos _ s2 σ _ _ I2 h) fun us s3 ⟨vs, H2, I3, rv, q2⟩ => ⟨I3.kIn, ?_⟩) hst hpl
    exact wpAny_call (run_fnR (us := us) (vs := vs) F hr pass0 I3 rv q2)
  exact ⟨_, pe, snd_cb hf k2⟩
theorem q_staK {g fm : List D → Store → Res D} {k c j : Nat} {idx : List Nat} {fa : Addr} {fd : FuncData} {ps ks : List Str} {kws : List Keyword} {nk : MA} {pl : Sem Bool} (hg : Gl X x) (hm : X.mg x = some (.ref (cl c))) (hc : StaC X.K (cl c) f fa) (F : FnOk X.prog X.w X.K X.mg X.base CX0 k fa fd ps (spM ⟨X.K, cl⟩ fm)) (hr : Room k X.A)
    (hb : KBn X.K fd ps 0 ks (fun us ws => place idx (us ++ ws)) (fun us ws => place idx (us ++ ws))) (hkw : QK X cl E kws nk) (hf : SndC ⟨X.K, cl⟩ E (fun vs H Q => spM ⟨X.K, cl⟩ fm vs H Q E0) g) (hdb : (x == ("__debug__" : Str)) = false := by decide)
    (hall : (backToKw pos (keywordEach kws X.env)).all (·.1.isSome) = true := by rfl) (hks : (backToKw pos (keywordEach kws X.env)).filterMap (·.1) = ks := by rfl)
    (hpl : ((backTo pos (starEach [] X.env)).any (·.1) || (backToKw pos (keywordEach kws X.env)).any (·.1.isNone)) = false := by rfl) (hj : ks.length = j := by rfl)
    (ht : eval (.Call (.Attribute (.Name x p) f apos) [] kws pos) X.env = (do
      let ov ← eval (.Name x p) X.env
      standAt apos.atName
      let (f, first) ← holding [ov] (getMethod ov f pl)
      callWith pos f first (backTo pos (starEach [] X.env)) (backToKw pos (keywordEach kws X.env))) := by rfl) :
    QE X cl E (.Call (.Attribute (.Name x p) f apos) [] kws pos) (mCallK g 0 j idx mNil nk) := by
  subst hj
  obtain ⟨u, k1, k2⟩ := hkw.ex
  have he := pe_glob (pos := p) (v := .ref (cl c)) hg hm rfl hdb
  have pe : PE X (.Call (.Attribute (.Name x p) f apos) [] kws pos) (tCallN 0 ks.length (spM ⟨X.K, cl⟩ fm) (fun us ws => place idx (us ++ ws)) E0 tNil u) := by
    refine ⟨fun pins s σ H Q I h => ?_⟩
    refine PySem.W.methodCall_KW (pl := pl) (thn (he.run pins s σ H (fun v H' => v = .ref (cl c) ∧ H' = H) I ⟨rfl, rfl⟩) fun u s1 ⟨x, H1, I1, rx, ex, eH⟩ => ?_) ht
    subst ex eH
    obtain rfl : u = Value.ref (cl c) := rx
    refine getsta_ok I1 hc fun s2 I2 => ?_
    refine PySem.W.callWith_KW0 (h₀ := X.base) (first := []) I2.ok.mod.kin hc.kp hall ?_ hpl
    refine thn (k1.run pos pins s2 σ _ _ I2 h) fun ws s3 ⟨zs, H2, I3, rz, l1, l2, q2⟩ => ⟨I3.kIn, ?_⟩
    rw [hks]
    exact run_fnN F hr hb pass0 I3 .nil rz l1 l2 q2
  exact ⟨_, pe, snd_callK hf snd_nil k2⟩
end
section
variable {P : Program} {w : World} {K : PySem.W.Frag} {mg : Str → Option Value} {base : Heap} {CX : CXT} {k : Nat} {f : Addr} {sp : Sp} {fd : FuncData} {ps : List Str}
theorem raw0 (F : FnOk P w K mg base CX k f fd ps sp) (hb : Binds K fd ps []) : FnR P w K mg base CX k f sp := (F.raw hb .nil).imp fun vs H Q E h => by rw [List.append_nil]; exact h
end
/-- the j-th statement of a class -/
def clsAt (st : Stmt) (j : Nat) : Stmt := match st with
  | .ClassDef _ _ _ body _ _ _ _ _ _ _ => body.getD j (.Pass ⟨0, 0, 0, 0⟩)
  | _ => .Pass ⟨0, 0, 0, 0⟩
end Q
namespace Q
open PySem L2
def Res.Sat {β : Type} (r : Res β) (P : β → Store → Prop) : Prop := match r with
  | .ok a S => P a S
  | _ => False
section
variable {β γ δ : Type} {P : β → Store → Prop} {Q : γ → Store → Prop}
@[simp] theorem sat_ok (a : β) (S : Store) : (Res.ok a S).Sat P = P a S := rfl
@[simp] theorem sat_no : (Res.no : Res β).Sat P = False := rfl
@[simp] theorem sat_ex (e : Exn) (S : Store) : (Res.ex e S : Res β).Sat P = False := rfl
theorem sat_step {r : Res γ} {K : γ → Store → Res β} (h : r.Sat Q) (k : ∀ a S, Q a S → (K a S).Sat P) : (r.bind K).Sat P := by
  cases r with
  | ok a S => exact k a S h
  | ex e S => exact h.elim
  | no => exact h.elim
theorem Res.Sat.mono {r : Res β} {P' : β → Store → Prop} (h : r.Sat P) (k : ∀ a S, P a S → P' a S) : r.Sat P' := by
  cases r with
  | ok a S => exact k a S h
  | ex e S => exact h.elim
  | no => exact h.elim
theorem sat_eq {r : Res β} (h : r.Sat P) : ∃ a S, r = .ok a S ∧ P a S := by
  cases r with
  | ok a S => exact ⟨a, S, rfl, h⟩
  | ex e S => exact h.elim
  | no => exact h.elim
theorem sat_of {r : Res β} {a : β} {S : Store} (e : r = .ok a S) (h : P a S) : r.Sat P := by rw [e]; exact h
def compK (k1 : β → Store → Res γ) (k2 : γ → Store → Res δ) : β → Store → Res δ := fun a S => (k1 a S).bind k2
@[simp] theorem compK_ap (k1 : β → Store → Res γ) (k2 : γ → Store → Res δ) (a : β) (S : Store) : compK k1 k2 a S = (k1 a S).bind k2 := rfl
@[simp] theorem bind_flat (r : Res β) (k1 : β → Store → Res γ) (k2 : γ → Store → Res δ) : (r.bind k1).bind k2 = r.bind (compK k1 k2) := by cases r <;> rfl
@[simp] theorem nox_sat (r : Res β) : (nox r).Sat P = r.Sat P := by cases r <;> rfl
@[simp] theorem nox_bind_sat (r : Res γ) (K : γ → Store → Res β) : ((nox r).bind K).Sat P = (r.bind K).Sat P := by cases r <;> rfl
end
section
variable {ρ : Env} {S : Store}
def varK (o : Option (Option D)) (S : Store) : Res D := match o with | some (some d) => .ok d S | _ => .no
@[simp] theorem varK_some (d : D) : varK (some (some d)) S = .ok d S := rfl
@[simp] theorem ap_var (i : Nat) : mVar i ρ S = varK ρ[i]? S := rfl
@[simp] theorem ap_c (d : D) : mC d ρ S = .ok d S := rfl
def opK (f : D → D → Store → Res D) (mb : ME) (ρ : Env) : D → Store → Res D := fun x S1 => (mb ρ S1).bind (f x)
@[simp] theorem opK_ap (f : D → D → Store → Res D) (mb : ME) (x : D) : opK f mb ρ x S = (mb ρ S).bind (f x) := rfl
@[simp] theorem ap_op (f : D → D → Store → Res D) (ma mb : ME) : mOp f ma mb ρ S = (ma ρ S).bind (opK f mb ρ) := rfl
def tstK (d : D) (S : Store) : Res Bool := oRes (truth S d) S
@[simp] theorem tstK_ap (d : D) : tstK d S = oRes (truth S d) S := rfl
@[simp] theorem ap_test (m : ME) : mTest m ρ S = (m ρ S).bind tstK := rfl
def asB (d : D) (S : Store) : Res Bool := match d with | .bl b => .ok b S | _ => .no
@[simp] theorem asB_bl (b : Bool) : asB (.bl b) S = .ok b S := rfl
@[simp] theorem ap_tb (m : ME) : mTB m ρ S = (m ρ S).bind asB := rfl
def notK (b : Bool) (S : Store) : Res Bool := .ok (!b) S
@[simp] theorem notK_ap (b : Bool) : notK b S = .ok (!b) S := rfl
@[simp] theorem ap_notT (m : MT) : mNotT m ρ S = (m ρ S).bind notK := rfl
def br {β : Type} (b : Bool) (x y : β) : β := match b with | true => x | false => y
@[simp] theorem br_t {β : Type} (x y : β) : br true x y = x := rfl
@[simp] theorem br_f {β : Type} (x y : β) : br false x y = y := rfl
theorem br_congr {β : Type} {b b' : Bool} (x y : β) (h : b = b') : br b x y = br b' x y := by rw [h]
def andK (n : MT) (ρ : Env) (b : Bool) (S : Store) : Res Bool := br b (n ρ S) (.ok false S)
def orK (n : MT) (ρ : Env) (b : Bool) (S : Store) : Res Bool := br b (.ok true S) (n ρ S)
@[simp] theorem andK_t (n : MT) : andK n ρ true S = n ρ S := rfl
@[simp] theorem andK_f (n : MT) : andK n ρ false S = .ok false S := rfl
@[simp] theorem orK_t (n : MT) : orK n ρ true S = .ok true S := rfl
@[simp] theorem orK_f (n : MT) : orK n ρ false S = n ρ S := rfl
@[simp] theorem ap_andT (m n : MT) : mAndT m n ρ S = (m ρ S).bind (andK n ρ) := rfl
@[simp] theorem ap_orT (m n : MT) : mOrT m n ρ S = (m ρ S).bind (orK n ρ) := rfl
def andVK2 (n : ME) (ρ : Env) (d : D) (b : Bool) (S : Store) : Res D := br b (n ρ S) (.ok d S)
def orVK2 (n : ME) (ρ : Env) (d : D) (b : Bool) (S : Store) : Res D := br b (.ok d S) (n ρ S)
def andVK (n : ME) (ρ : Env) (d : D) (S : Store) : Res D := (oRes (truth S d) S).bind (andVK2 n ρ d)
def orVK (n : ME) (ρ : Env) (d : D) (S : Store) : Res D := (oRes (truth S d) S).bind (orVK2 n ρ d)
@[simp] theorem andVK2_t (n : ME) (d : D) : andVK2 n ρ d true S = n ρ S := rfl
@[simp] theorem andVK2_f (n : ME) (d : D) : andVK2 n ρ d false S = .ok d S := rfl
@[simp] theorem orVK2_t (n : ME) (d : D) : orVK2 n ρ d true S = .ok d S := rfl
@[simp] theorem orVK2_f (n : ME) (d : D) : orVK2 n ρ d false S = n ρ S := rfl
@[simp] theorem andVK_ap (n : ME) (d : D) : andVK n ρ d S = (oRes (truth S d) S).bind (andVK2 n ρ d) := rfl
@[simp] theorem orVK_ap (n : ME) (d : D) : orVK n ρ d S = (oRes (truth S d) S).bind (orVK2 n ρ d) := rfl
@[simp] theorem ap_andV (m n : ME) : mAndV m n ρ S = (m ρ S).bind (andVK n ρ) := rfl
@[simp] theorem ap_orV (m n : ME) : mOrV m n ρ S = (m ρ S).bind (orVK n ρ) := rfl
def notVK2 (b : Bool) (S : Store) : Res D := .ok (.bl (!b)) S
@[simp] theorem notVK2_ap (b : Bool) : notVK2 b S = .ok (.bl (!b)) S := rfl
def notVK (d : D) (S : Store) : Res D := (oRes (truth S d) S).bind notVK2
@[simp] theorem notVK_ap (d : D) : notVK d S = (oRes (truth S d) S).bind notVK2 := rfl
@[simp] theorem ap_notV (m : ME) : mNotV m ρ S = (m ρ S).bind notVK := rfl
def ifEK (m n : ME) (ρ : Env) (b : Bool) (S : Store) : Res D := br b (m ρ S) (n ρ S)
@[simp] theorem ifEK_t (m n : ME) : ifEK m n ρ true S = m ρ S := rfl
@[simp] theorem ifEK_f (m n : ME) : ifEK m n ρ false S = n ρ S := rfl
@[simp] theorem ap_ifE (t : MT) (m n : ME) : mIfE t m n ρ S = (t ρ S).bind (ifEK m n ρ) := rfl
def isNK (d : D) (S : Store) : Res D := .ok (.bl (isNon d)) S
def notNK (d : D) (S : Store) : Res D := .ok (.bl (!isNon d)) S
@[simp] theorem isNK_ap (d : D) : isNK d S = .ok (.bl (isNon d)) S := rfl
@[simp] theorem notNK_ap (d : D) : notNK d S = .ok (.bl (!isNon d)) S := rfl
@[simp] theorem ap_isN (m : ME) : mIsN m ρ S = (m ρ S).bind isNK := rfl
@[simp] theorem ap_notN (m : ME) : mNotN m ρ S = (m ρ S).bind notNK := rfl
@[simp] theorem ap_nil : mNil ρ S = .ok [] S := rfl
def consK2 (d : D) (ds : List D) (S : Store) : Res (List D) := .ok (d :: ds) S
@[simp] theorem consK2_ap (d : D) (ds : List D) : consK2 d ds S = .ok (d :: ds) S := rfl
def consK (n : MA) (ρ : Env) (d : D) (S : Store) : Res (List D) := (n ρ S).bind (consK2 d)
@[simp] theorem consK_ap (n : MA) (d : D) : consK n ρ d S = (n ρ S).bind (consK2 d) := rfl
@[simp] theorem ap_cons (m : ME) (n : MA) : mCons m n ρ S = (m ρ S).bind (consK n ρ) := rfl
def tupK (ds : List D) (S : Store) : Res D := if ds.length ≤ 100000 then .ok (.tup ds) S else .no
def lstK (ds : List D) (S : Store) : Res D := if ds.length ≤ 100000 then .ok (.lst ds) S else .no
def cellK (ds : List D) (S : Store) : Res D := if ds.length ≤ 100000 then .ok (.ref S.length) (S ++ [.lst ds]) else .no
@[simp] theorem tupK_ap (ds : List D) : tupK ds S = if ds.length ≤ 100000 then .ok (.tup ds) S else .no := rfl
@[simp] theorem lstK_ap (ds : List D) : lstK ds S = if ds.length ≤ 100000 then .ok (.lst ds) S else .no := rfl
@[simp] theorem cellK_ap (ds : List D) : cellK ds S = if ds.length ≤ 100000 then .ok (.ref S.length) (S ++ [.lst ds]) else .no := rfl
@[simp] theorem ap_tup (n : MA) : mTup n ρ S = (n ρ S).bind tupK := rfl
@[simp] theorem ap_lst (n : MA) : mLst n ρ S = (n ρ S).bind lstK := rfl
@[simp] theorem ap_cell (n : MA) : mCell n ρ S = (n ρ S).bind cellK := rfl
@[simp] theorem ap_frz (m : ME) : mFrz m ρ S = (m ρ S).bind fz := rfl
@[simp] theorem fz_int (i : Int) : fz (.int i) S = .ok (.int i) S := rfl
@[simp] theorem fz_bl (i : Bool) : fz (.bl i) S = .ok (.bl i) S := rfl
@[simp] theorem fz_tup (i : List D) : fz (.tup i) S = .ok (.tup i) S := rfl
@[simp] theorem fz_lst (i : List D) : fz (.lst i) S = .ok (.lst i) S := rfl
@[simp] theorem fz_non : fz .non S = .ok .non S := rfl
theorem fz_ref {k : Nat} {xs : List D} (h : S[k]? = some (.lst xs)) : fz (.ref k) S = .ok (.lst xs) (S.set k (.frz xs)) := by simp [fz, h]
def slK (d : D) (lo hi : Option Int) (S : Store) : Res D := opSl d lo hi S
@[simp] theorem slK_ap (d : D) (lo hi : Option Int) : slK d lo hi S = opSl d lo hi S := rfl
def slK2 (h : MO) (ρ : Env) (d : D) (lo : Option Int) (S : Store) : Res D := (h ρ S).bind (slK d lo)
@[simp] theorem slK2_ap (h : MO) (d : D) (lo : Option Int) : slK2 h ρ d lo S = (h ρ S).bind (slK d lo) := rfl
def slK1 (l h : MO) (ρ : Env) (d : D) (S : Store) : Res D := (l ρ S).bind (slK2 h ρ d)
@[simp] theorem slK1_ap (l h : MO) (d : D) : slK1 l h ρ d S = (l ρ S).bind (slK2 h ρ d) := rfl
@[simp] theorem ap_sl (m : ME) (l h : MO) : mSl m l h ρ S = (m ρ S).bind (slK1 l h ρ) := rfl
@[simp] theorem ap_noO : mNoO ρ S = .ok none S := rfl
def asI (d : D) (S : Store) : Res (Option Int) := match d with | .int i => .ok (some i) S | _ => .no
@[simp] theorem asI_int (i : Int) : asI (.int i) S = .ok (some i) S := rfl
@[simp] theorem ap_soO (m : ME) : mSoO m ρ S = (m ρ S).bind asI := rfl
def negD (d : D) (S : Store) : Res D := match d with | .int i => .ok (.int (-i)) S | _ => .no
@[simp] theorem negD_int (i : Int) : negD (.int i) S = .ok (.int (-i)) S := rfl
@[simp] theorem ap_neg (m : ME) : mNeg m ρ S = (m ρ S).bind negD := rfl
@[simp] theorem ap_call (f : List D → Store → Res D) (n : MA) : mCall f n ρ S = (n ρ S).bind f := rfl
def ckK2 (g : List D → Store → Res D) (i j : Nat) (idx : List Nat) (ds zs : List D) (S : Store) : Res D := if ds.length = i ∧ zs.length = j then g (place idx (ds ++ zs)) S else .no
@[simp] theorem ckK2_ap (g : List D → Store → Res D) (i j : Nat) (idx : List Nat) (ds zs : List D) : ckK2 g i j idx ds zs S = if ds.length = i ∧ zs.length = j then g (place idx (ds ++ zs)) S else .no := rfl
def ckK (g : List D → Store → Res D) (i j : Nat) (idx : List Nat) (nk : MA) (ρ : Env) (ds : List D) (S : Store) : Res D := (nk ρ S).bind (ckK2 g i j idx ds)
@[simp] theorem ckK_ap (g : List D → Store → Res D) (i j : Nat) (idx : List Nat) (nk : MA) (ds : List D) : ckK g i j idx nk ρ ds S = (nk ρ S).bind (ckK2 g i j idx ds) := rfl
@[simp] theorem ap_callK (g : List D → Store → Res D) (i j : Nat) (idx : List Nat) (n nk : MA) : mCallK g i j idx n nk ρ S = (n ρ S).bind (ckK g i j idx nk ρ) := rfl
def isiK (T : Ty) (d : D) (S : Store) : Res D := if isOk S d then .ok (.bl (isTy T d)) S else .no
def isiK2 (T U : Ty) (d : D) (S : Store) : Res D := if isOk S d then .ok (.bl (isTy T d || isTy U d)) S else .no
@[simp] theorem isiK_ap (T : Ty) (d : D) : isiK T d S = if isOk S d then .ok (.bl (isTy T d)) S else .no := rfl
@[simp] theorem isiK2_ap (T U : Ty) (d : D) : isiK2 T U d S = if isOk S d then .ok (.bl (isTy T d || isTy U d)) S else .no := rfl
@[simp] theorem ap_isi (T : Ty) (m : ME) : mIsi T m ρ S = (m ρ S).bind (isiK T) := rfl
@[simp] theorem ap_isi2 (T U : Ty) (m : ME) : mIsi2 T U m ρ S = (m ρ S).bind (isiK2 T U) := rfl
def chK3 (f' : D → D → Store → Res D) (mc : ME) (ρ : Env) (y z : D) (S : Store) : Res D := match z with
  | .bl true => (mc ρ S).bind (f' y)
  | .bl false => .ok (.bl false) S
  | _ => .no
@[simp] theorem chK3_t (f' : D → D → Store → Res D) (mc : ME) (y : D) : chK3 f' mc ρ y (.bl true) S = (mc ρ S).bind (f' y) := rfl
@[simp] theorem chK3_f (f' : D → D → Store → Res D) (mc : ME) (y : D) : chK3 f' mc ρ y (.bl false) S = .ok (.bl false) S := rfl
def chK2 (f f' : D → D → Store → Res D) (mc : ME) (ρ : Env) (x y : D) (S : Store) : Res D := (f x y S).bind (chK3 f' mc ρ y)
@[simp] theorem chK2_ap (f f' : D → D → Store → Res D) (mc : ME) (x y : D) : chK2 f f' mc ρ x y S = (f x y S).bind (chK3 f' mc ρ y) := rfl
def chK1 (f f' : D → D → Store → Res D) (mb mc : ME) (ρ : Env) (x : D) (S : Store) : Res D := (mb ρ S).bind (chK2 f f' mc ρ x)
@[simp] theorem chK1_ap (f f' : D → D → Store → Res D) (mb mc : ME) (x : D) : chK1 f f' mb mc ρ x S = (mb ρ S).bind (chK2 f f' mc ρ x) := rfl
@[simp] theorem ap_chain (f f' : D → D → Store → Res D) (ma mb mc : ME) : mChain f f' ma mb mc ρ S = (ma ρ S).bind (chK1 f f' mb mc ρ) := rfl
-- statements
@[simp] theorem ap_skip : mSkip ρ S = .ok (.nx ρ) S := rfl
def seqK (n' : MS) (f : Fl) (S : Store) : Res Fl := match f with | .nx ρ1 => n' ρ1 S | f => .ok f S
@[simp] theorem seqK_nx (n' : MS) : seqK n' (.nx ρ) S = n' ρ S := rfl
@[simp] theorem seqK_rt (n' : MS) (d : D) : seqK n' (.rt d) S = .ok (.rt d) S := rfl
@[simp] theorem seqK_bk (n' : MS) : seqK n' (.bk ρ) S = .ok (.bk ρ) S := rfl
@[simp] theorem seqK_ct (n' : MS) : seqK n' (.ct ρ) S = .ok (.ct ρ) S := rfl
@[simp] theorem ap_seq (n n' : MS) : mSeq n n' ρ S = (n ρ S).bind (seqK n') := rfl
def nxK {β : Type} (ρ : Env) (_ : β) (S : Store) : Res Fl := .ok (.nx ρ) S
@[simp] theorem nxK_ap {β : Type} (d : β) : nxK ρ d S = .ok (.nx ρ) S := rfl
@[simp] theorem ap_drop (m : ME) : mDrop m ρ S = (m ρ S).bind (nxK ρ) := rfl
def rtK (d : D) (S : Store) : Res Fl := .ok (.rt d) S
@[simp] theorem rtK_ap (d : D) : rtK d S = .ok (.rt d) S := rfl
@[simp] theorem ap_ret (m : ME) : mRet m ρ S = (m ρ S).bind rtK := rfl
def ifK (n n' : MS) (ρ : Env) (b : Bool) (S : Store) : Res Fl := br b (n ρ S) (n' ρ S)
@[simp] theorem ifK_t (n n' : MS) : ifK n n' ρ true S = n ρ S := rfl
@[simp] theorem ifK_f (n n' : MS) : ifK n n' ρ false S = n' ρ S := rfl
@[simp] theorem ap_if (t : MT) (n n' : MS) : mIf t n n' ρ S = (t ρ S).bind (ifK n n' ρ) := rfl
def asgK2 (ρ1 : Env) (S : Store) : Res Fl := .ok (.nx ρ1) S
@[simp] theorem asgK2_ap (ρ1 : Env) : asgK2 ρ1 S = .ok (.nx ρ1) S := rfl
def asgK (g : MG) (ρ : Env) (d : D) (S : Store) : Res Fl := (g d ρ S).bind asgK2
@[simp] theorem asgK_ap (g : MG) (d : D) : asgK g ρ d S = (g d ρ S).bind asgK2 := rfl
@[simp] theorem ap_asg (m : ME) (g : MG) : mAsg m g ρ S = (m ρ S).bind (asgK g ρ) := rfl
@[simp] theorem ap_gN (i : Nat) (d : D) : mgN i d ρ S = .ok (ρ.set i (some d)) S := rfl
@[simp] theorem ap_gNil : mgNil [] ρ S = .ok ρ S := rfl
def gconsK (gs : MGs) (ds : List D) (ρ : Env) (S : Store) : Res Env := gs ds ρ S
@[simp] theorem gconsK_ap (gs : MGs) (ds : List D) : gconsK gs ds ρ S = gs ds ρ S := rfl
@[simp] theorem ap_gCons (g : MG) (gs : MGs) (d : D) (ds : List D) : mgCons g gs (d :: ds) ρ S = (g d ρ S).bind (gconsK gs ds) := rfl
@[simp] theorem ap_gTup (k : Nat) (gs : MGs) (ds : List D) : mgTup k gs (.tup ds) ρ S = if ds.length = k then gs ds ρ S else .no := rfl
@[simp] theorem ap_gTupL (k : Nat) (gs : MGs) (ds : List D) : mgTup k gs (.lst ds) ρ S = if ds.length = k then gs ds ρ S else .no := rfl
def okK {β γ : Type} (a : β) (_ : γ) (S : Store) : Res β := .ok a S
@[simp] theorem okK_ap {β γ : Type} (a : β) (z : γ) : okK a z S = .ok a S := rfl
def gsubK2 (ρ : Env) (d o i : D) (S : Store) : Res Env := (setIx o i d S).bind (okK ρ)
@[simp] theorem gsubK2_ap (d o i : D) : gsubK2 ρ d o i S = (setIx o i d S).bind (okK ρ) := rfl
def gsubK (mi : ME) (ρ : Env) (d o : D) (S : Store) : Res Env := (mi ρ S).bind (gsubK2 ρ d o)
@[simp] theorem gsubK_ap (mi : ME) (d o : D) : gsubK mi ρ d o S = (mi ρ S).bind (gsubK2 ρ d o) := rfl
@[simp] theorem ap_gSub (mo mi : ME) (d : D) : mgSub mo mi d ρ S = (mo ρ S).bind (gsubK mi ρ d) := rfl
def parK (i j : Nat) (ρ : Env) (ds : List D) (S : Store) : Res Fl := match ds with | [d, d'] => .ok (.nx ((ρ.set i (some d)).set j (some d'))) S | _ => .no
@[simp] theorem parK_2 (i j : Nat) (d d' : D) : parK i j ρ [d, d'] S = .ok (.nx ((ρ.set i (some d)).set j (some d'))) S := rfl
@[simp] theorem ap_par (i j : Nat) (n : MA) : mPar i j n ρ S = (n ρ S).bind (parK i j ρ) := rfl
def appK (m : ME) (ρ : Env) (o : D) (S : Store) : Res D := match o with | .ref k => if notOb S k = true then (m ρ S).bind (appTo k) else .no | _ => .no
@[simp] theorem appK_ref (m : ME) (k : Nat) (h : notOb S k = true) : appK m ρ (.ref k) S = (m ρ S).bind (appTo k) := by show (if notOb S k = true then _ else _) = _; rw [if_pos h]
theorem notOb_lst {k : Nat} {xs : List D} (h : S[k]? = some (.lst xs)) : notOb S k = true := by unfold notOb; rw [h]
@[simp] theorem notOb_0 (xs : List D) (T : Store) : notOb (.lst xs :: T) 0 = true := (Eq.refl _).trans rfl
@[simp] theorem notOb_S (c : Cell) (T : Store) (k : Nat) : notOb (c :: T) (k + 1) = notOb T k := (Eq.refl _).trans rfl
@[simp] theorem ap_app (mo m : ME) : mApp mo m ρ S = (mo ρ S).bind (appK m ρ) := rfl
theorem appTo_ok {k : Nat} {xs : List D} (d : D) (h : S[k]? = some (.lst xs)) (hl : xs.length < 100000) : appTo k d S = .ok .non (S.set k (.lst (xs ++ [d]))) := by simp [appTo, h, hl]
@[simp] theorem ap_items (m : ME) : mItems m ρ S = (m ρ S).bind itemsOf := rfl
@[simp] theorem items_tup (xs : List D) : itemsOf (.tup xs) S = .ok xs S := rfl
@[simp] theorem items_lst (xs : List D) : itemsOf (.lst xs) S = .ok xs S := rfl
@[simp] theorem items_fro (xs : List D) : itemsOf (.fro xs) S = .ok xs S := rfl
@[simp] theorem ap_zip (n : MA) : mZip n ρ S = (n ρ S).bind zipItems := rfl
@[simp] theorem zip_tup (xs ys : List D) : zipItems [.tup xs, .tup ys] S = .ok (zipD xs ys) S := rfl
@[simp] theorem zip_lst (xs ys : List D) : zipItems [.lst xs, .lst ys] S = .ok (zipD xs ys) S := rfl
def enumK (d : D) (S : Store) : Res (List D) := match d with | .lst xs => .ok (enumD 0 xs) S | .fro xs => .ok (enumD 0 xs) S | _ => .no
@[simp] theorem enumK_lst (xs : List D) : enumK (.lst xs) S = .ok (enumD 0 xs) S := rfl
@[simp] theorem enumK_fro (xs : List D) : enumK (.fro xs) S = .ok (enumD 0 xs) S := rfl
@[simp] theorem ap_enum (m : ME) : mEnum m ρ S = (m ρ S).bind enumK := rfl
def r1K (d : D) (S : Store) : Res (List D) := match d with | .int j => if j.natAbs < 2 ^ 62 then .ok (rangeD 0 j.toNat) S else .no | _ => .no
theorem r1K_int (j : Int) : r1K (.int j) S = if j.natAbs < 2 ^ 62 then .ok (rangeD 0 j.toNat) S else .no := rfl
theorem r1K_nat (j : Nat) (h : j < 2 ^ 60) : r1K (.int (j : Nat)) S = .ok (rangeD 0 j) S := by
  have h2 : (j : Int).natAbs < 2 ^ 62 := by omega
  rw [r1K_int, if_pos h2, Int.toNat_natCast]
@[simp] theorem ap_r1 (m : ME) : mRange1 m ρ S = (m ρ S).bind r1K := rfl
def r2K2 (d d' : D) (S : Store) : Res (List D) := match d, d' with
  | .int i, .int j => if i.natAbs < 2 ^ 62 ∧ j.natAbs < 2 ^ 62 then .ok (rangeD i (j - i).toNat) S else .no
  | _, _ => .no
theorem r2K2_int (i j : Int) : r2K2 (.int i) (.int j) S = if i.natAbs < 2 ^ 62 ∧ j.natAbs < 2 ^ 62 then .ok (rangeD i (j - i).toNat) S else .no := rfl
def r2K (m' : ME) (ρ : Env) (d : D) (S : Store) : Res (List D) := (m' ρ S).bind (r2K2 d)
@[simp] theorem r2K_ap (m' : ME) (d : D) : r2K m' ρ d S = (m' ρ S).bind (r2K2 d) := rfl
@[simp] theorem ap_r2 (m m' : ME) : mRange2 m m' ρ S = (m ρ S).bind (r2K m' ρ) := rfl
def forIK (g : MG) (b : MS) (ρ : Env) (ds : List D) (S : Store) : Res Fl := forL g b ds ρ S
@[simp] theorem forIK_ap (g : MG) (b : MS) (ds : List D) : forIK g b ρ ds S = forL g b ds ρ S := rfl
@[simp] theorem ap_for (mi : MA) (g : MG) (b : MS) : mFor mi g b ρ S = (mi ρ S).bind (forIK g b ρ) := rfl
def lcK2 (xs : List D) (S : Store) : Res D := .ok (.lst xs) S
@[simp] theorem lcK2_ap (xs : List D) : lcK2 xs S = .ok (.lst xs) S := rfl
def lcCK2 (xs : List D) (S : Store) : Res D := .ok (.ref S.length) (S ++ [.lst xs])
@[simp] theorem lcCK2_ap (xs : List D) : lcCK2 xs S = .ok (.ref S.length) (S ++ [.lst xs]) := rfl
def lcK (g : MG) (t : MT) (m : ME) (vs : List Nat) (ρ : Env) (ds : List D) (S : Store) : Res D := if ds.length ≤ 100000 then (lcL g t m (wp ρ vs) ds S).bind lcK2 else .no
def lcCK (g : MG) (t : MT) (m : ME) (vs : List Nat) (ρ : Env) (ds : List D) (S : Store) : Res D := if ds.length ≤ 100000 then (lcL g t m (wp ρ vs) ds S).bind lcCK2 else .no
@[simp] theorem lcK_ap (g : MG) (t : MT) (m : ME) (vs : List Nat) (ds : List D) : lcK g t m vs ρ ds S = if ds.length ≤ 100000 then (lcL g t m (wp ρ vs) ds S).bind lcK2 else .no := rfl
@[simp] theorem lcCK_ap (g : MG) (t : MT) (m : ME) (vs : List Nat) (ds : List D) : lcCK g t m vs ρ ds S = if ds.length ≤ 100000 then (lcL g t m (wp ρ vs) ds S).bind lcCK2 else .no := rfl
@[simp] theorem ap_lc (mi : MA) (g : MG) (t : MT) (m : ME) (vs : List Nat) : mLc mi g t m vs ρ S = (mi ρ S).bind (lcK g t m vs ρ) := rfl
@[simp] theorem ap_lcC (mi : MA) (g : MG) (t : MT) (m : ME) (vs : List Nat) : mLcC mi g t m vs ρ S = (mi ρ S).bind (lcCK g t m vs ρ) := rfl
@[simp] theorem ap_yes : mYes ρ S = .ok true S := rfl
@[simp] theorem wp_nil : wp ρ [] = ρ := rfl
@[simp] theorem wp_cons (v : Nat) (vs : List Nat) : wp ρ (v :: vs) = (wp ρ vs).set v none := rfl
-- operators
@[simp] theorem addI_int (i j : Int) : opAddI (.int i) (.int j) S = .ok (.int (i + j)) S := rfl
@[simp] theorem add_int (i j : Int) : opAdd (.int i) (.int j) S = .ok (.int (i + j)) S := rfl
@[simp] theorem add_lst (xs ys : List D) : opAdd (.lst xs) (.lst ys) S = if xs.length + ys.length ≤ 100000 then .ok (.lst (xs ++ ys)) S else .no := rfl
@[simp] theorem add_tup (xs ys : List D) : opAdd (.tup xs) (.tup ys) S = if xs.length + ys.length ≤ 100000 then .ok (.tup (xs ++ ys)) S else .no := rfl
theorem add_ref {k : Nat} {xs : List D} (ys : List D) (h : S[k]? = some (.lst xs)) : opAdd (.ref k) (.lst ys) S = if xs.length + ys.length ≤ 100000 then .ok (.lst (xs ++ ys)) S else .no := by
  simp [opAdd, opAddI, fI0, opCat, lstOf, h]
@[simp] theorem sub_int (i j : Int) : opSubI (.int i) (.int j) S = .ok (.int (i - j)) S := rfl
@[simp] theorem mul_intD (i j : Int) : opMul (.int i) (.int j) S = if mulOk i j = true then .ok (.int (i * j)) S else .no := by
  unfold opMul opMulI fI opRep opRepT
  by_cases h : mulOk i j = true <;> simp [h, lstOf]
@[simp] theorem div_int (i j : Int) : opDivI (.int i) (.int j) S = if divOk i j = true then .ok (.int (i / j)) S else .no := rfl
@[simp] theorem mod_int (i j : Int) : opModI (.int i) (.int j) S = if modOk i j = true then .ok (.int (i % j)) S else .no := rfl
@[simp] theorem pow_int (i j : Int) : opPowI (.int i) (.int j) S = if powOk i j = true then .ok (.int (i ^ j.toNat)) S else .no := rfl
@[simp] theorem lt_int (i j : Int) : opLt (.int i) (.int j) S = .ok (.bl (decide (i < j))) S := rfl
@[simp] theorem le_int (i j : Int) : opLe (.int i) (.int j) S = .ok (.bl (decide (i ≤ j))) S := rfl
@[simp] theorem gt_int (i j : Int) : opGt (.int i) (.int j) S = .ok (.bl (decide (j < i))) S := rfl
@[simp] theorem ge_int (i j : Int) : opGe (.int i) (.int j) S = .ok (.bl (decide (j ≤ i))) S := rfl
@[simp] theorem eq_intD (i j : Int) : opEq (.int i) (.int j) S = .ok (.bl (decide (i = j))) S := rfl
@[simp] theorem ne_intD (i j : Int) : opNe (.int i) (.int j) S = .ok (.bl (!decide (i = j))) S := rfl
@[simp] theorem eq_blD (i j : Bool) : opEq (.bl i) (.bl j) S = .ok (.bl (decide (i = j))) S := by cases i <;> cases j <;> rfl
@[simp] theorem ne_blD (i j : Bool) : opNe (.bl i) (.bl j) S = .ok (.bl (!decide (i = j))) S := by cases i <;> cases j <;> rfl
@[simp] theorem eq_strD (i j : Str) : opEq (.str i) (.str j) S = .ok (.bl (decide (i = j))) S := rfl
@[simp] theorem ix_tupD (xs : List D) (i : Int) : opIx (.tup xs) (.int i) S = oRes (atI xs i) S := rfl
@[simp] theorem ix_lstD (xs : List D) (i : Int) : opIx (.lst xs) (.int i) S = oRes (atI xs i) S := rfl
@[simp] theorem ix_froD (xs : List D) (i : Int) : opIx (.fro xs) (.int i) S = oRes (atI xs i) S := rfl
theorem ix_refD {k : Nat} {xs : List D} (i : Int) (h : S[k]? = some (.lst xs)) : opIx (.ref k) (.int i) S = oRes (atI xs i) S := by simp [opIx, rdL, lstOf, h]
theorem atI_get {α : Type} {xs : List α} {i : Nat} {x : α} (h : xs[i]? = some x) : atI xs (i : Int) = some x := by
  have hl := (List.getElem?_eq_some_iff.mp h).1
  unfold atI ixN
  rw [if_pos (by omega), if_pos (by omega)]
  simpa using h
@[simp] theorem atI_0 {α : Type} (x : α) (xs : List α) : atI (x :: xs) 0 = some x := by
  have h : (0 : Int) < (x :: xs).length := by simp
  simp [atI, ixN]
@[simp] theorem atI_1 {α : Type} (x y : α) (xs : List α) : atI (x :: y :: xs) 1 = some y := by
  exact atI_get (i := 1) rfl
@[simp] theorem atI_2 {α : Type} (x y z : α) (xs : List α) : atI (x :: y :: z :: xs) 2 = some z := by
  exact atI_get (i := 2) rfl
@[simp] theorem sl_tupD (xs : List D) (lo hi : Option Int) : opSl (.tup xs) lo hi S = .ok (.tup (cutD xs lo hi)) S := rfl
@[simp] theorem sl_lstD (xs : List D) (lo hi : Option Int) : opSl (.lst xs) lo hi S = .ok (.lst (cutD xs lo hi)) S := rfl
@[simp] theorem sl_froD (xs : List D) (lo hi : Option Int) : opSl (.fro xs) lo hi S = .ok (.lst (cutD xs lo hi)) S := rfl
@[simp] theorem truth_bl (b : Bool) : truth S (.bl b) = some b := (Eq.refl _).trans rfl
@[simp] theorem truth_int (b : Int) : truth S (.int b) = some (b != 0) := (Eq.refl _).trans rfl
@[simp] theorem truth_non : truth S .non = some false := (Eq.refl _).trans rfl
@[simp] theorem truth_tup (xs : List D) : truth S (.tup xs) = some (!xs.isEmpty) := (Eq.refl _).trans rfl
@[simp] theorem truth_lst (xs : List D) : truth S (.lst xs) = some (!xs.isEmpty) := (Eq.refl _).trans rfl
theorem truth_ref {k : Nat} {xs : List D} (h : S[k]? = some (.lst xs)) : truth S (.ref k) = some (!xs.isEmpty) := by simp [truth, rdL, lstOf, h]
-- built-ins
@[simp] theorem len_tup (xs : List D) : fLen [.tup xs] S = .ok (.int xs.length) S := rfl
@[simp] theorem len_lst (xs : List D) : fLen [.lst xs] S = .ok (.int xs.length) S := rfl
@[simp] theorem len_fro (xs : List D) : fLen [.fro xs] S = .ok (.int xs.length) S := rfl
@[simp] theorem abs_int (i : Int) : fAbs [.int i] S = .ok (.int (if i < 0 then -i else i)) S := rfl
@[simp] theorem int_int (i : Int) : fInt [.int i] S = .ok (.int i) S := rfl
@[simp] theorem int_bl (i : Bool) : fInt [.bl i] S = .ok (.int (if i then 1 else 0)) S := rfl
@[simp] theorem tuple_lst (xs : List D) : fTuple [.lst xs] S = .ok (.tup xs) S := rfl
@[simp] theorem tuple_tup (xs : List D) : fTuple [.tup xs] S = .ok (.tup xs) S := rfl
@[simp] theorem list_lst (xs : List D) : fList [.lst xs] S = .ok (.lst xs) S := rfl
@[simp] theorem list_tup (xs : List D) : fList [.tup xs] S = .ok (.lst xs) S := rfl
@[simp] theorem listC_lst (xs : List D) : fListC [.lst xs] S = .ok (.ref S.length) (S ++ [.lst xs]) := rfl
@[simp] theorem listC_tup (xs : List D) : fListC [.tup xs] S = .ok (.ref S.length) (S ++ [.lst xs]) := rfl
theorem all_lst {xs : List D} {bs : List Bool} (h : boolsD xs = some bs) : fAll [.lst xs] S = .ok (.bl (bs.all id)) S := by simp [fAll, onBools, un1, rdL, lstOf, h]
theorem any_lst {xs : List D} {bs : List Bool} (h : boolsD xs = some bs) : fAny [.lst xs] S = .ok (.bl (bs.any id)) S := by simp [fAny, onBools, un1, rdL, lstOf, h]
theorem sum_lst {xs : List D} {bs : List Int} (h : intsD xs = some bs) : fSum [.lst xs] S = .ok (.int bs.sum) S := by simp [fSum, onInts, un1, rdL, lstOf, h]
theorem bools_map {β : Type} (f : β → Bool) (xs : List β) : boolsD (xs.map fun x => D.bl (f x)) = some (xs.map f) := by
  induction xs with
  | nil => rfl
  | cons x xs ih => simp [boolsD, ih]
theorem ints_map {β : Type} (f : β → Int) (xs : List β) : intsD (xs.map fun x => D.int (f x)) = some (xs.map f) := by
  induction xs with
  | nil => rfl
  | cons x xs ih => simp [intsD, ih]
-- isinstance
@[simp] theorem isOk_non : isOk S .non = true := (Eq.refl _).trans rfl
@[simp] theorem isOk_bl (b : Bool) : isOk S (.bl b) = true := (Eq.refl _).trans rfl
@[simp] theorem isOk_int (b : Int) : isOk S (.int b) = true := (Eq.refl _).trans rfl
@[simp] theorem isOk_str (b : Str) : isOk S (.str b) = true := (Eq.refl _).trans rfl
@[simp] theorem isOk_tup (b : List D) : isOk S (.tup b) = true := (Eq.refl _).trans rfl
@[simp] theorem isOk_lst (b : List D) : isOk S (.lst b) = true := (Eq.refl _).trans rfl
@[simp] theorem isNon_non : isNon .non = true := (Eq.refl _).trans rfl
@[simp] theorem isNon_bl (b : Bool) : isNon (.bl b) = false := (Eq.refl _).trans rfl
@[simp] theorem isNon_int (b : Int) : isNon (.int b) = false := (Eq.refl _).trans rfl
@[simp] theorem isNon_str (b : Str) : isNon (.str b) = false := (Eq.refl _).trans rfl
@[simp] theorem isNon_tup (b : List D) : isNon (.tup b) = false := (Eq.refl _).trans rfl
@[simp] theorem isNon_lst (b : List D) : isNon (.lst b) = false := (Eq.refl _).trans rfl
end
-- objects
@[simp] theorem ap_fld (c i : Nat) (m : ME) : mFld c i m ρ S = (m ρ S).bind (fldD c i) := rfl
@[simp] theorem fld_obj (c i : Nat) (fs : List D) : fldD c i (.obj c fs) S = oRes fs[i]? S := by simp [fldD]
def methK2 (g : List D → Store → Res D) (d : D) (ds : List D) (S : Store) : Res D := g (d :: ds) S
@[simp] theorem methK2_ap (g : List D → Store → Res D) (d : D) (ds : List D) : methK2 g d ds S = g (d :: ds) S := rfl
def methK (c : Nat) (g : List D → Store → Res D) (n : MA) (ρ : Env) (d : D) (S : Store) : Res D := if isObj c d then (n ρ S).bind (methK2 g d) else .no
@[simp] theorem methK_ap (c : Nat) (g : List D → Store → Res D) (n : MA) (d : D) : methK c g n ρ d S = if isObj c d then (n ρ S).bind (methK2 g d) else .no := rfl
@[simp] theorem ap_meth (c : Nat) (g : List D → Store → Res D) (m : ME) (n : MA) : mMeth c g m n ρ S = (m ρ S).bind (methK c g n ρ) := rfl
def methKK2 (g : List D → Store → Res D) (j : Nat) (idx : List Nat) (d : D) (zs : List D) (S : Store) : Res D := if zs.length = j then g (place idx (d :: zs)) S else .no
@[simp] theorem methKK2_ap (g : List D → Store → Res D) (j : Nat) (idx : List Nat) (d : D) (zs : List D) : methKK2 g j idx d zs S = if zs.length = j then g (place idx (d :: zs)) S else .no := rfl
def methKK (c : Nat) (g : List D → Store → Res D) (j : Nat) (idx : List Nat) (n : MA) (ρ : Env) (d : D) (S : Store) : Res D := if isObj c d then (n ρ S).bind (methKK2 g j idx d) else .no
@[simp] theorem methKK_ap (c : Nat) (g : List D → Store → Res D) (j : Nat) (idx : List Nat) (n : MA) (d : D) : methKK c g j idx n ρ d S = if isObj c d then (n ρ S).bind (methKK2 g j idx d) else .no := rfl
@[simp] theorem ap_methK (c : Nat) (g : List D → Store → Res D) (j : Nat) (idx : List Nat) (m : ME) (nk : MA) : mMethK c g j idx m nk ρ S = (m ρ S).bind (methKK c g j idx nk ρ) := rfl
@[simp] theorem isObj_obj (c : Nat) (fs : List D) : isObj c (.obj c fs) = true := by simp [isObj]
@[simp] theorem isObj_non (c : Nat) : isObj c .non = false := (Eq.refl _).trans rfl
@[simp] theorem isObj_bl (c : Nat) (b : Bool) : isObj c (.bl b) = false := (Eq.refl _).trans rfl
@[simp] theorem isObj_int (c : Nat) (b : Int) : isObj c (.int b) = false := (Eq.refl _).trans rfl
@[simp] theorem isObj_str (c : Nat) (b : Str) : isObj c (.str b) = false := (Eq.refl _).trans rfl
@[simp] theorem isObj_tup (c : Nat) (b : List D) : isObj c (.tup b) = false := (Eq.refl _).trans rfl
@[simp] theorem isObj_lst (c : Nat) (b : List D) : isObj c (.lst b) = false := (Eq.refl _).trans rfl
@[simp] theorem isObj_ref (c : Nat) (b : Nat) : isObj c (.ref b) = false := (Eq.refl _).trans rfl
@[simp] theorem ap_isC (c : Nat) (m : ME) : mIsC c m ρ S = (m ρ S).bind (isC c) := rfl
@[simp] theorem isC_obj (c : Nat) (fs : List D) : isC c (.obj c fs) S = .ok (.bl true) S := by simp [isC]
@[simp] theorem isB_bl (a b : Bool) : opIsB (.bl a) (.bl b) S = .ok (.bl (decide (a = b))) S := rfl
@[simp] theorem notB_bl (a : Bool) : notB (.bl a) S = .ok (.bl (!a)) S := rfl
@[simp] theorem own_obj (c : Nat) (g : List D → Store → Res D) (f : D → D → Store → Res D) (fs : List D) (b : D) : opOwn c g f (.obj c fs) b S = if (isObj c b || isOk S b) = true then g [.obj c fs, b] S else .no := by
  unfold opOwn
  rw [isObj_obj, if_pos rfl]
@[simp] theorem ownN_obj (c : Nat) (g : List D → Store → Res D) (f : D → D → Store → Res D) (fs : List D) (b : D) : opOwnN c g f (.obj c fs) b S = if (isObj c b || isOk S b) = true then (g [.obj c fs, b] S).bind notB else .no := by
  unfold opOwnN
  rw [isObj_obj, if_pos rfl]
theorem own_plain {c : Nat} {g : List D → Store → Res D} {f : D → D → Store → Res D} {a b : D} (h : isObj c a = false) : opOwn c g f a b S = f a b S := by
  unfold opOwn
  rw [h]
  rfl
theorem ownN_plain {c : Nat} {g : List D → Store → Res D} {f : D → D → Store → Res D} {a b : D} (h : isObj c a = false) : opOwnN c g f a b S = f a b S := by
  unfold opOwnN
  rw [h]
  rfl
def mkK (c : Nat) (r : Res (List D)) : Res D := match r with
  | .ok fs S2 => .ok (.obj c fs) S2
  | _ => .no
@[simp] theorem mkK_ok (c : Nat) (fs : List D) : mkK c (.ok fs S) = .ok (.obj c fs) S := rfl
def makeK (c : Nat) (f : List D → Store → Res (List D)) (ds : List D) (S : Store) : Res D := mkK c (f ds S)
@[simp] theorem makeK_ap (c : Nat) (f : List D → Store → Res (List D)) (ds : List D) : makeK c f ds S = mkK c (f ds S) := rfl
def makeKK (c : Nat) (f : List D → Store → Res (List D)) (j : Nat) (idx : List Nat) (zs : List D) (S : Store) : Res D := if zs.length = j then mkK c (f (place idx zs) S) else .no
@[simp] theorem makeKK_ap (c : Nat) (f : List D → Store → Res (List D)) (j : Nat) (idx : List Nat) (zs : List D) : makeKK c f j idx zs S = if zs.length = j then mkK c (f (place idx zs) S) else .no := rfl
@[simp] theorem ap_make (c : Nat) (f : List D → Store → Res (List D)) (n : MA) : mMake c f n ρ S = (n ρ S).bind (makeK c f) := rfl
@[simp] theorem ap_makeK (c : Nat) (f : List D → Store → Res (List D)) (j : Nat) (idx : List Nat) (nk : MA) : mMakeK c f j idx nk ρ S = (nk ρ S).bind (makeKK c f j idx) := rfl
@[simp] theorem isC_non (c : Nat) : isC c .non S = .ok (.bl false) S := rfl
@[simp] theorem isC_bl (c : Nat) (b : Bool) : isC c (.bl b) S = .ok (.bl false) S := rfl
@[simp] theorem isC_int (c : Nat) (b : Int) : isC c (.int b) S = .ok (.bl false) S := rfl
@[simp] theorem isC_str (c : Nat) (b : Str) : isC c (.str b) S = .ok (.bl false) S := rfl
@[simp] theorem isC_tup (c : Nat) (b : List D) : isC c (.tup b) S = .ok (.bl false) S := rfl
@[simp] theorem isC_lst (c : Nat) (b : List D) : isC c (.lst b) S = .ok (.bl false) S := rfl
@[simp] theorem isNon_obj (c : Nat) (b : List D) : isNon (.obj c b) = false := (Eq.refl _).trans rfl
@[simp] theorem pureD_obj (c : Nat) (b : List D) : pureD (.obj c b) = pureL b := (Eq.refl _).trans rfl
@[simp] theorem fz_obj (c : Nat) (b : List D) : fz (.obj c b) S = .ok (.obj c b) S := rfl
@[simp] theorem place_nil {β : Type} (xs : List β) : place [] xs = [] := rfl
-- calls
@[simp] theorem fCall_ap (f : List D → Store → Res D) (ds : List D) (S : Store) : fCall f ds S = nox (f ds S) := rfl
theorem fPure_ap {f : List D → Store → Res D} {ds : List D} {d : D} (S : Store) (hp : pureL ds = true) (h : f ds [] = .ok d []) : fPure f ds S = .ok d S := by simp [fPure, hp, h]
@[simp] theorem pureL_nil : pureL [] = true := (Eq.refl _).trans rfl
@[simp] theorem pureL_cons (d : D) (ds : List D) : pureL (d :: ds) = (pureD d && pureL ds) := (Eq.refl _).trans rfl
@[simp] theorem pureD_non : pureD .non = true := (Eq.refl _).trans rfl
@[simp] theorem pureD_bl (b : Bool) : pureD (.bl b) = true := (Eq.refl _).trans rfl
@[simp] theorem pureD_int (b : Int) : pureD (.int b) = true := (Eq.refl _).trans rfl
@[simp] theorem pureD_str (b : Str) : pureD (.str b) = true := (Eq.refl _).trans rfl
@[simp] theorem pureD_tup (b : List D) : pureD (.tup b) = pureL b := (Eq.refl _).trans rfl
@[simp] theorem pureD_lst (b : List D) : pureD (.lst b) = pureL b := (Eq.refl _).trans rfl
@[simp] theorem pureD_fro (b : List D) : pureD (.fro b) = pureL b := (Eq.refl _).trans rfl
@[simp] theorem pureD_ref (b : Nat) : pureD (.ref b) = false := (Eq.refl _).trans rfl
theorem pureL_all {ds : List D} : pureL ds = true ↔ ∀ d ∈ ds, pureD d = true := by
  induction ds with
  | nil => simp
  | cons d ds ih => simp [ih]
@[simp] theorem fin_same {S S' : Store} {d : D} (h : S'.length = S.length) : fin S.length d S' = .ok d S' := by simp [fin, h]
theorem fin_nil {d : D} {S : Store} (h : pureD d = true) : fin 0 d S = .ok d [] := by
  unfold fin
  split
  · rename_i e
    rw [List.eq_nil_of_length_eq_zero e]
  · rw [below_pure 0 d h]; rfl
def endK (n : Nat) (f : Fl) (S : Store) : Res D := match f with
  | .nx _ => fin n .non S
  | .rt d => fin n d S
  | _ => .no
@[simp] theorem endK_nx (n : Nat) (ρ : Env) (S : Store) : endK n (.nx ρ) S = fin n .non S := rfl
@[simp] theorem endK_rt (n : Nat) (d : D) (S : Store) : endK n (.rt d) S = fin n d S := rfl
@[simp] theorem endM_nx {n : Nat} {ρ : Env} {S : Store} : endM n (.ok (.nx ρ) S) = fin n .non S := rfl
@[simp] theorem endM_rt {n : Nat} {d : D} {S : Store} : endM n (.ok (.rt d) S) = fin n d S := rfl
@[simp] theorem endC_nx {ρ : Env} {S : Store} : endC (.ok (.nx ρ) S) = .ok .non S := rfl
@[simp] theorem endC_rt {d : D} {S : Store} : endC (.ok (.rt d) S) = .ok d S := rfl
def endCK (f : Fl) (S : Store) : Res D := match f with
  | .nx _ => .ok .non S
  | .rt d => .ok d S
  | _ => .no
@[simp] theorem endCK_nx (ρ : Env) (S : Store) : endCK (.nx ρ) S = .ok .non S := rfl
@[simp] theorem endCK_rt (d : D) (S : Store) : endCK (.rt d) S = .ok d S := rfl
@[simp] theorem endM_sat {P : D → Store → Prop} (n : Nat) (r : Res Fl) : (endM n r).Sat P = (r.bind (endK n)).Sat P := by
  cases r with
  | ok f S => cases f <;> rfl
  | ex e S => rfl
  | no => rfl
@[simp] theorem endC_sat {P : D → Store → Prop} (r : Res Fl) : (endC r).Sat P = (r.bind endCK).Sat P := by
  cases r with
  | ok f S => cases f <;> rfl
  | ex e S => rfl
  | no => rfl
theorem set_get {S : Store} {k : Nat} {c c' : Cell} (h : S[k]? = some c) : (S.set k c')[k]? = some c' := List.getElem?_set_self (List.getElem?_eq_some_iff.mp h).1
def forK (k : MS) (f : Fl) (S : Store) : Res Fl := match f with
  | .nx ρ => k ρ S
  | .ct ρ => k ρ S
  | .bk ρ => .ok (.nx ρ) S
  | .rt d => .ok (.rt d) S
@[simp] theorem forK_nx (k : MS) (ρ : Env) (S : Store) : forK k (.nx ρ) S = k ρ S := rfl
@[simp] theorem forK_ct (k : MS) (ρ : Env) (S : Store) : forK k (.ct ρ) S = k ρ S := rfl
@[simp] theorem forK_bk (k : MS) (ρ : Env) (S : Store) : forK k (.bk ρ) S = .ok (.nx ρ) S := rfl
@[simp] theorem forK_rt (k : MS) (d : D) (S : Store) : forK k (.rt d) S = .ok (.rt d) S := rfl
def forBK (g : MG) (b : MS) (ds : List D) (ρ : Env) (S : Store) : Res Fl := (b ρ S).bind (forK (forL g b ds))
@[simp] theorem forBK_ap (g : MG) (b : MS) (ds : List D) (ρ : Env) (S : Store) : forBK g b ds ρ S = (b ρ S).bind (forK (forL g b ds)) := rfl
theorem forL_cons (g : MG) (b : MS) (d : D) (ds : List D) (ρ : Env) (S : Store) : forL g b (d :: ds) ρ S = (g d ρ S).bind (forBK g b ds) := rfl
theorem forL_nil (g : MG) (b : MS) (ρ : Env) (S : Store) : forL g b [] ρ S = .ok (.nx ρ) S := rfl
def whK (k : MS) (f : Fl) (S : Store) : Res Fl := match f with
  | .nx ρ => k ρ S
  | .ct ρ => k ρ S
  | .bk ρ => .ok (.nx ρ) S
  | .rt d => .ok (.rt d) S
@[simp] theorem whK_nx (k : MS) (ρ : Env) (S : Store) : whK k (.nx ρ) S = k ρ S := rfl
@[simp] theorem whK_ct (k : MS) (ρ : Env) (S : Store) : whK k (.ct ρ) S = k ρ S := rfl
@[simp] theorem whK_bk (k : MS) (ρ : Env) (S : Store) : whK k (.bk ρ) S = .ok (.nx ρ) S := rfl
@[simp] theorem whK_rt (k : MS) (d : D) (S : Store) : whK k (.rt d) S = .ok (.rt d) S := rfl
def whBK (t : MT) (b : MS) (k : Nat) (ρ : Env) (c : Bool) (S : Store) : Res Fl := br c ((b ρ S).bind (whK (whileF t b k))) (.ok (.nx ρ) S)
@[simp] theorem whBK_t (t : MT) (b : MS) (k : Nat) (ρ : Env) (S : Store) : whBK t b k ρ true S = (b ρ S).bind (whK (whileF t b k)) := rfl
@[simp] theorem whBK_f (t : MT) (b : MS) (k : Nat) (ρ : Env) (S : Store) : whBK t b k ρ false S = .ok (.nx ρ) S := rfl
theorem whF_succ (t : MT) (b : MS) (k : Nat) (ρ : Env) (S : Store) : whileF t b (k + 1) ρ S = (t ρ S).bind (whBK t b k ρ) := by
  show (t ρ S).bind _ = _
  congr 1
  funext c S1
  cases c with
  | false => rfl
  | true =>
    show (b ρ S1).bind _ = (b ρ S1).bind _
    congr 1
theorem fnM_0 {nN : Nat} {n : MS} {S : Store} : fnM nN 0 n [] S = endM S.length (n (List.replicate nN none) S) := rfl
theorem fnM_1 {nN : Nat} {n : MS} {a : D} {S : Store} : fnM nN 1 n [a] S = endM S.length (n (some a :: List.replicate (nN - 1) none) S) := rfl
theorem fnM_2 {nN : Nat} {n : MS} {a b : D} {S : Store} : fnM nN 2 n [a, b] S = endM S.length (n (some a :: some b :: List.replicate (nN - 2) none) S) := rfl
theorem fnM_3 {nN : Nat} {n : MS} {a b c : D} {S : Store} : fnM nN 3 n [a, b, c] S = endM S.length (n (some a :: some b :: some c :: List.replicate (nN - 3) none) S) := rfl
theorem fnM_4 {nN : Nat} {n : MS} {a b c d : D} {S : Store} : fnM nN 4 n [a, b, c, d] S = endM S.length (n (some a :: some b :: some c :: some d :: List.replicate (nN - 4) none) S) := rfl
theorem fnC_1 {nN : Nat} {n : MS} {a : D} {S : Store} : fnC nN 1 n [a] S = endC (n (some a :: List.replicate (nN - 1) none) S) := rfl
theorem fnC_2 {nN : Nat} {n : MS} {a b : D} {S : Store} : fnC nN 2 n [a, b] S = endC (n (some a :: some b :: List.replicate (nN - 2) none) S) := rfl
theorem set_self {S : Store} {k : Nat} {c : Cell} (h : S[k]? = some c) : S.set k c = S := by
  apply List.ext_getElem?
  intro i
  by_cases e : k = i
  · subst e; rw [set_get h, h]
  · rw [List.getElem?_set_ne e]
theorem forL_ind {g : MG} {b : MS} (Inv : List D → Env → Store → Prop) (turn : ∀ pre d ρ S, Inv pre ρ S → ∃ ρ1 S1 f S2, g d ρ S = .ok ρ1 S1 ∧ b ρ1 S1 = .ok f S2 ∧ ∃ ρ2, (f = .nx ρ2 ∨ f = .ct ρ2) ∧ Inv (pre ++ [d]) ρ2 S2) :
    ∀ (ds pre : List D) (ρ : Env) (S : Store), Inv pre ρ S → ∃ ρ2 S2, forL g b ds ρ S = .ok (.nx ρ2) S2 ∧ Inv (pre ++ ds) ρ2 S2
  | [], pre, ρ, S, h => ⟨ρ, S, rfl, by simpa using h⟩
  | d :: ds, pre, ρ, S, h => by
    obtain ⟨ρ1, S1, f, S2, h1, h2, ρ2, hf, h3⟩ := turn pre d ρ S h
    obtain ⟨ρ3, S3, h4, h5⟩ := forL_ind Inv turn ds (pre ++ [d]) ρ2 S2 h3
    refine ⟨ρ3, S3, ?_, by simpa using h5⟩
    unfold forL
    rw [h1]
    simp only [bind_ok]
    rw [h2]
    rcases hf with rfl | rfl <;> exact h4
/-- a comprehension without cells: a map -/
theorem lcL_map {g : MG} {m : ME} {ρ : Env} {f : D → D} : ∀ (ds : List D) (S : Store), (∀ d ∈ ds, ∃ ρ1, g d ρ S = .ok ρ1 S ∧ m ρ1 S = .ok (f d) S) → lcL g mYes m ρ ds S = .ok (ds.map f) S
  | [], S, _ => rfl
  | d :: ds, S, h => by
    obtain ⟨ρ1, h1, h2⟩ := h d (by simp)
    unfold lcL
    rw [h1]
    simp only [bind_ok, ap_yes]
    rw [h2]
    simp only [bind_ok]
    rw [lcL_map ds S fun e he => h e (by simp [he])]
    rfl
/-- .. with a test -/
theorem lcL_filter {g : MG} {m : ME} {t : MT} {ρ : Env} {f : D → D} {p : D → Bool} : ∀ (ds : List D) (S : Store), (∀ d ∈ ds, ∃ ρ1, g d ρ S = .ok ρ1 S ∧ t ρ1 S = .ok (p d) S ∧ (p d = true → m ρ1 S = .ok (f d) S)) → lcL g t m ρ ds S = .ok ((ds.filter p).map f) S
  | [], S, _ => rfl
  | d :: ds, S, h => by
    obtain ⟨ρ1, h1, h2, h3⟩ := h d (by simp)
    have ih := lcL_filter ds S fun e he => h e (by simp [he])
    unfold lcL
    rw [h1]
    simp only [bind_ok]
    rw [h2]
    simp only [bind_ok]
    cases hp : p d with
    | true =>
      simp only [List.filter_cons, hp, if_true, List.map_cons]
      rw [h3 hp]
      simp only [bind_ok]
      rw [ih]
      rfl
    | false =>
      simp only [List.filter_cons, hp]
      exact ih
/-- .. through changing cells -/
theorem lcL_indx {g : MG} {m : ME} {ρ : Env} {Inv : Nat → Store → Prop} {P : Nat → D → Prop} : ∀ (ds : List D) (i : Nat) (S : Store), Inv i S → (∀ j S d, ds[j]? = some d → Inv (i + j) S → ∃ ρ1 v S1, g d ρ S = .ok ρ1 S ∧ m ρ1 S = .ok v S1 ∧ P (i + j) v ∧ Inv (i + j + 1) S1) →
    ∃ vs S1, lcL g mYes m ρ ds S = .ok vs S1 ∧ vs.length = ds.length ∧ (∀ j v, vs[j]? = some v → P (i + j) v) ∧ Inv (i + ds.length) S1
  | [], i, S, h, _ => ⟨[], S, rfl, rfl, by simp, h⟩
  | d :: ds, i, S, h, turn => by
    obtain ⟨ρ1, v, S1, h1, h2, h3, h4⟩ := turn 0 S d rfl h
    obtain ⟨vs, S2, k1, k2, k3, k4⟩ := lcL_indx (P := P) ds (i + 1) S1 h4 fun j S e he hi => by
      have := turn (j + 1) S e (by simpa using he) (by rw [show i + (j + 1) = i + 1 + j by omega]; exact hi)
      rw [show i + (j + 1) = i + 1 + j by omega] at this
      exact this
    refine ⟨v :: vs, S2, ?_, by simp [k2], fun j w hw => ?_, by rw [List.length_cons, show i + (ds.length + 1) = i + 1 + ds.length by omega]; exact k4⟩
    · unfold lcL
      rw [h1]
      simp only [bind_ok, ap_yes]
      rw [h2]
      simp only [bind_ok]
      rw [k1]
      rfl
    · cases j with
      | zero => simp at hw; subst hw; exact h3
      | succ j =>
        have := k3 j w (by simpa using hw)
        rw [show i + (j + 1) = i + 1 + j by omega]
        exact this
theorem lcL_ind {g : MG} {m : ME} {ρ : Env} (Inv : Nat → Store → Prop) (P : Nat → D → Prop) (ds : List D) (S : Store) (h : Inv 0 S) (turn : ∀ j S d, ds[j]? = some d → Inv j S → ∃ ρ1 v S1, g d ρ S = .ok ρ1 S ∧ m ρ1 S = .ok v S1 ∧ P j v ∧ Inv (j + 1) S1) :
    ∃ vs S1, lcL g mYes m ρ ds S = .ok vs S1 ∧ vs.length = ds.length ∧ (∀ j v, vs[j]? = some v → P j v) ∧ Inv ds.length S1 := by
  have := lcL_indx (g := g) (m := m) (ρ := ρ) (Inv := Inv) (P := P) ds 0 S h (by simpa using turn)
  simpa using this
theorem rangeD_len (lo : Int) (n : Nat) : (rangeD lo n).length = n := by simp [rangeD]
theorem rangeD_get {lo : Int} {n i : Nat} {d : D} (h : (rangeD lo n)[i]? = some d) : i < n ∧ d = .int (lo + (i : Int)) := by
  unfold rangeD at h
  rw [List.getElem?_map] at h
  cases q : (List.range n)[i]? with
  | none => simp [q] at h
  | some j =>
    simp only [q, Option.map_some, Option.some.injEq] at h
    obtain ⟨h1, h2⟩ := List.getElem?_eq_some_iff.mp q
    simp at h1 h2
    subst h2
    exact ⟨h1, h.symm⟩
/-- a while that ends for want of its i-th name, a number that falls -/
def fuelI (i : Nat) : Env → Store → Nat := fun ρ _ => match ρ[i]? with
  | some (some (.int n)) => n.toNat + 1
  | _ => 0
section
variable {X : Cx} {cl : Nat → Addr} {E : XK}
theorem q_globS {x : Str} {i : Str} {t : Tok} {pos : Pos} (hg : Gl X x) (hm : ∃ t, X.mg x = some (.str i t)) (hd : (x == ("__debug__" : Str)) = false := by decide) : QE X cl E (.Name x pos) (mC (.str i)) :=
  let ⟨_, hm⟩ := hm
  ⟨_, pe_glob (v := .str i) hg hm ⟨_, rfl⟩ hd, snd_c fun _ _ => by simp [Rep]⟩
end
@[simp] theorem fin_00 (d : D) : fin 0 d [] = .ok d [] := rfl
/-- what a turn leaves: on to the next one, or out -/
def Turn (I : Env → Store → Prop) (P : Fl → Store → Prop) : Fl → Store → Prop := fun f S => match f with
  | .nx ρ => I ρ S
  | .ct ρ => I ρ S
  | .bk ρ => P (.nx ρ) S
  | .rt d => P (.rt d) S
section
variable {I : Env → Store → Prop} {P : Fl → Store → Prop} {ρ : Env} {S : Store}
@[simp] theorem turn_nx : Turn I P (.nx ρ) S = I ρ S := rfl
@[simp] theorem turn_ct : Turn I P (.ct ρ) S = I ρ S := rfl
@[simp] theorem turn_bk : Turn I P (.bk ρ) S = P (.nx ρ) S := rfl
@[simp] theorem turn_rt (d : D) : Turn I P (.rt d) S = P (.rt d) S := rfl
end
theorem forL_sat {g : MG} {b : MS} {P : Fl → Store → Prop} (Inv : List D → Env → Store → Prop) (turn : ∀ d ds ρ S, Inv (d :: ds) ρ S → ∃ ρ1 S1, g d ρ S = .ok ρ1 S1 ∧ (b ρ1 S1).Sat (Turn (Inv ds) P)) (last : ∀ ρ S, Inv [] ρ S → P (.nx ρ) S) :
    ∀ (ds : List D) (ρ : Env) (S : Store), Inv ds ρ S → (forL g b ds ρ S).Sat P
  | [], ρ, S, h => last ρ S h
  | d :: ds, ρ, S, h => by
    obtain ⟨ρ1, S1, e, h1⟩ := turn d ds ρ S h
    rw [forL_cons, e, bind_ok, forBK_ap]
    refine sat_step h1 fun f S2 h2 => ?_
    cases f with
    | nx ρ2 => exact forL_sat Inv turn last ds ρ2 S2 h2
    | ct ρ2 => exact forL_sat Inv turn last ds ρ2 S2 h2
    | bk ρ2 => exact h2
    | rt d => exact h2
theorem whileF_sat {t : MT} {b : MS} {P : Fl → Store → Prop} (Inv : Nat → Env → Store → Prop) (turn : ∀ n ρ S, Inv n ρ S → (t ρ S).Sat fun c S1 => match c with
      | false => P (.nx ρ) S1
      | true => (b ρ S1).Sat (Turn (fun ρ' S' => ∃ m, m < n ∧ Inv m ρ' S') P)) :
    ∀ (k n : Nat) (ρ : Env) (S : Store), n < k → Inv n ρ S → (whileF t b k ρ S).Sat P
  | 0, n, ρ, S, hk, _ => absurd hk (by omega)
  | k + 1, n, ρ, S, hk, h => by
    rw [whF_succ]
    refine sat_step (turn n ρ S h) fun c S1 h1 => ?_
    cases c with
    | false => exact h1
    | true =>
      rw [whBK_t]
      refine sat_step h1 fun f S2 h2 => ?_
      cases f with
      | nx ρ2 => obtain ⟨m, hm, hI⟩ := h2; exact whileF_sat Inv turn k m ρ2 S2 (by omega) hI
      | ct ρ2 => obtain ⟨m, hm, hI⟩ := h2; exact whileF_sat Inv turn k m ρ2 S2 (by omega) hI
      | bk ρ2 => exact h2
      | rt d => exact h2
def whIK (fuel : Env → Store → Nat) (t : MT) (b : MS) (ρ : Env) (S : Store) : Res Fl := whileF t b (fuel ρ S) ρ S
@[simp] theorem ap_while (fuel : Env → Store → Nat) (t : MT) (b : MS) (ρ : Env) (S : Store) : mWhile fuel t b ρ S = whileF t b (fuel ρ S) ρ S := rfl
section
variable {g : MG} {t : MT} {m : ME} {ρ0 : Env} {S : Store}
def lcB4 (v : D) (vs : List D) (S : Store) : Res (List D) := .ok (v :: vs) S
@[simp] theorem lcB4_ap (v : D) (vs : List D) : lcB4 v vs S = .ok (v :: vs) S := rfl
def lcB3 (g : MG) (t : MT) (m : ME) (ρ0 : Env) (ds : List D) (v : D) (S : Store) : Res (List D) := (lcL g t m ρ0 ds S).bind (lcB4 v)
@[simp] theorem lcB3_ap (ds : List D) (v : D) : lcB3 g t m ρ0 ds v S = (lcL g t m ρ0 ds S).bind (lcB4 v) := rfl
def lcB2 (g : MG) (t : MT) (m : ME) (ρ0 : Env) (ds : List D) (ρ1 : Env) (b : Bool) (S : Store) : Res (List D) := br b ((m ρ1 S).bind (lcB3 g t m ρ0 ds)) (lcL g t m ρ0 ds S)
@[simp] theorem lcB2_t (ds : List D) (ρ1 : Env) : lcB2 g t m ρ0 ds ρ1 true S = (m ρ1 S).bind (lcB3 g t m ρ0 ds) := rfl
@[simp] theorem lcB2_f (ds : List D) (ρ1 : Env) : lcB2 g t m ρ0 ds ρ1 false S = lcL g t m ρ0 ds S := rfl
def lcB1 (g : MG) (t : MT) (m : ME) (ρ0 : Env) (ds : List D) (ρ1 : Env) (S : Store) : Res (List D) := (t ρ1 S).bind (lcB2 g t m ρ0 ds ρ1)
@[simp] theorem lcB1_ap (ds : List D) (ρ1 : Env) : lcB1 g t m ρ0 ds ρ1 S = (t ρ1 S).bind (lcB2 g t m ρ0 ds ρ1) := rfl
theorem lcL_cons (d : D) (ds : List D) : lcL g t m ρ0 (d :: ds) S = (g d ρ0 S).bind (lcB1 g t m ρ0 ds) := by
  show (g d ρ0 S).bind _ = (g d ρ0 S).bind _
  congr 1
theorem lcL_nil : lcL g t m ρ0 [] S = .ok [] S := rfl
theorem all_ev (xs : List D) : fAll [.lst xs] S = oRes ((boolsD xs).map fun bs => D.bl (bs.all id)) S := by
  unfold fAll onBools un1 rdL lstOf
  cases h : boolsD xs <;> simp [h]
theorem any_ev (xs : List D) : fAny [.lst xs] S = oRes ((boolsD xs).map fun bs => D.bl (bs.any id)) S := by
  unfold fAny onBools un1 rdL lstOf
  cases h : boolsD xs <;> simp [h]
theorem sum_ev (xs : List D) : fSum [.lst xs] S = oRes ((intsD xs).map fun bs => D.int bs.sum) S := by
  unfold fSum onInts un1 rdL lstOf
  cases h : intsD xs <;> simp [h]
end
end Q
namespace Q
open PySem L2
variable {X : Cx} {cl : Nat → Addr} {E : XK}
theorem repL3 {Γ : Gm} {α : List Addr} {G : Hp} {d d' d'' : D} {vs : List V} (r : RepL Γ α G [d, d', d''] vs) : ∃ v v' v'', vs = [v, v', v''] ∧ Rep Γ α G d v ∧ Rep Γ α G d' v' ∧ Rep Γ α G d'' v'' := by
  unfold RepL at r
  obtain ⟨v, w, rfl, h1, h2⟩ := r
  obtain ⟨v', v'', rfl, h3, h4⟩ := repL2 h2
  exact ⟨v, v', v'', rfl, h1, h3, h4⟩
def mPar3 (i j l : Nat) (n : MA) : MS := fun ρ S => (n ρ S).bind fun ds S1 => match ds with
  | [d, d', d''] => .ok (.nx (((ρ.set i (some d)).set j (some d')).set l (some d''))) S1
  | _ => .no
theorem qs_par3 (i j l : Nat) {x y z : Str} {a b c : Expr} {px py pz pt pos : Pos} {kt k2 pt2} {na : MA} (hN : X.N.Nodup) (ha : QA X cl E [a, b, c] na) (hi : X.N[i]? = some x := by rfl) (hj : X.N[j]? = some y := by rfl) (hl : X.N[l]? = some z := by rfl) (hij : i ≠ j := by decide) (hil : i ≠ l := by decide) (hjl : j ≠ l := by decide)
    (hx : X.env.scope.names.lookup x = some .local := by rfl) (hy : X.env.scope.names.lookup y = some .local := by rfl) (hz : X.env.scope.names.lookup z = some .local := by rfl) (hw : swappedStores [.Tuple [.Name x px, .Name y py, .Name z pz] kt pt] (.Tuple [a, b, c] k2 pt2) X.env = pure (some [x, y, z]) := by rfl)
    (hs : swapsWithSole [.Tuple [.Name x px, .Name y py, .Name z pz] kt pt] (.Tuple [a, b, c] k2 pt2) pos.line X.env = pure false := by rfl) (hc : X.calm = true := by rfl) : QS X cl E (.Assign [.Tuple [.Name x px, .Name y py, .Name z pz] kt pt] (.Tuple [a, b, c] k2 pt2) pos) (mPar3 i j l na) := by
  obtain ⟨t, h1, h2⟩ := ha.ex
  refine ⟨_, ps_par3 hc hN hi hj hl hij hil hjl hx hy hz h1 hw hs, fun ρ S σ α G H Dn hρ hR hp => h2 ρ S σ α G H _ hρ hR (posts_bind hp fun ds S1 α1 G1 H1 vs _ e1 R1 r1 hp1 => ?_)⟩
  match ds, hp1, r1 with
  | [d, d', d''], hp1, r1 =>
    obtain ⟨v, v', v'', rfl, rv, rv', rv''⟩ := repL3 r1
    exact ⟨v, v', v'', rfl, hp1 α1 G1 H1 _ (Ext.refl _ _ _) R1 ((((hρ.mono e1).set i rv).set j rv').set l rv'')⟩
  | [], hp1, _ => exact hp1.elim
  | [_], hp1, _ => exact hp1.elim
  | [_, _], hp1, _ => exact hp1.elim
  | _ :: _ :: _ :: _ :: _, hp1, _ => exact hp1.elim
def par3K (i j l : Nat) (ρ : Env) (ds : List D) (S : Store) : Res Fl := match ds with | [d, d', d''] => .ok (.nx (((ρ.set i (some d)).set j (some d')).set l (some d''))) S | _ => .no
@[simp] theorem par3K_3 (ρ : Env) (S : Store) (i j l : Nat) (d d' d'' : D) : par3K i j l ρ [d, d', d''] S = .ok (.nx (((ρ.set i (some d)).set j (some d')).set l (some d''))) S := (Eq.refl _).trans rfl
@[simp] theorem ap_par3 (ρ : Env) (S : Store) (i j l : Nat) (n : MA) : mPar3 i j l n ρ S = (n ρ S).bind (par3K i j l ρ) := (Eq.refl _).trans rfl
end Q
namespace Q
open PySem L2
def snap : Nat → Store → D → D
  | 0, _, d => d
  | n + 1, S, .ref k => match S[k]? with
    | some (.lst xs) => .lst (xs.map (snap n S))
    | some (.frz xs) => .lst (xs.map (snap n S))
    | _ => .ref k
  | n + 1, S, .tup ds => .tup (ds.map (snap n S))
  | n + 1, S, .lst ds => .lst (ds.map (snap n S))
  | n + 1, S, .fro ds => .fro (ds.map (snap n S))
  | n + 1, S, .obj c fs => .obj c (fs.map (snap n S))
  | n + 1, S, .exn c fs => .exn c (fs.map (snap n S))
  | _ + 1, _, d => d
/-- what a name holds, without cells: data without cells stay as they are -/
def snapO (S : Store) (o : Option D) : Option D := o.bind fun d => if pureD d then some d else if pureD (snap 3 S d) then some (snap 3 S d) else none
def snapE (S : Store) (ρ : Env) : Env := ρ.map (snapO S)
def isSc : D → Bool
  | .non => true
  | .bl _ => true
  | .int _ => true
  | .str _ => true
  | _ => false
def borK (S : Store) : Res D → Res D
  | .ok d _ => if isSc d then .ok d S else .no
  | .ex e _ => .no
  | .no => .no
def mBor (m : ME) : ME := fun ρ S => borK S (m (snapE S ρ) [])
def borTK (S : Store) : Res Bool → Res Bool
  | .ok b _ => .ok b S
  | .ex e _ => .no
  | .no => .no
def mBorT (m : MT) : MT := fun ρ S => borTK S (m (snapE S ρ) [])
section
variable {Γ : Gm} {α : List Addr} {G H : Hp} {S : Store} {E : XK}
theorem repL_map {P : D → Prop} {f : D → D} (hf : ∀ d v, P d → pureD (f d) = true → Rep Γ α G d v → Rep Γ [] H (f d) v) : ∀ (ds : List D) (vs : List V), (∀ d ∈ ds, P d) → pureL (ds.map f) = true → RepL Γ α G ds vs → RepL Γ [] H (ds.map f) vs
  | [], vs, _, _, h => by simpa [RepL] using h
  | d :: ds, vs, hP, hp, h => by
    unfold RepL at h
    obtain ⟨v, r, rfl, h1, h2⟩ := h
    rw [List.map_cons] at hp ⊢
    unfold pureL at hp
    rw [Bool.and_eq_true] at hp
    unfold RepL
    exact ⟨v, r, rfl, hf d v (hP d (by simp)) hp.1 h1, repL_map hf ds r (fun d hd => hP d (by simp [hd])) hp.2 h2⟩
theorem pure_down (hs : Sub G H) (d : D) (v : V) (hp : pureD d = true) (r : Rep Γ α G d v) : Rep Γ [] H d v := by
  have r2 : Rep Γ ([] ++ α) H d v := Rep.mono ⟨[], by simp⟩ hs d v r
  exact pure_rep d v hp r2
theorem rep_down : ∀ (d : D) (v : V), pureD d = true → Sub G H → Rep Γ α G d v → Rep Γ [] H d v := fun d v hp hs r => pure_down hs d v hp r
theorem rep_snap (R : Rl Γ α G S H) : ∀ (n : Nat) (d : D) (v : V), pureD (snap n S d) = true → Rep Γ α G d v → Rep Γ [] H (snap n S d) v
  | 0, d, v, hp, r => rep_down d v hp R.sub r
  | n + 1, d, v, hp, r => by
    have L := fun ds vs hp r => repL_map (P := fun _ => True) (H := H) (fun d v _ h r => rep_snap R n d v h r) ds vs (fun _ _ => trivial) hp r
    cases d with
    | ref k =>
      unfold Rep at r
      obtain ⟨a, rfl, ha⟩ := r
      unfold snap at hp ⊢
      cases q : S[k]? with
      | none => rw [q] at hp; cases hp
      | some c =>
        have z := R.ok k c a q ha
        rw [q] at hp
        cases c with
        | lst xs =>
          obtain ⟨vs, h1, h2, _⟩ := z.lst
          unfold Rep
          exact ⟨a, vs, rfl, h1, L xs vs hp h2⟩
        | frz xs =>
          obtain ⟨vs, h1, h2⟩ := z.frz
          unfold Rep
          exact ⟨a, vs, rfl, R.sub _ _ h1, L xs vs hp h2⟩
        | _ => cases hp
    | tup ds =>
      unfold snap at hp ⊢
      unfold Rep at r ⊢
      obtain ⟨a, vs, e, q, r⟩ := r
      exact ⟨a, vs, e, R.sub _ _ q, L ds vs hp r⟩
    | lst ds =>
      unfold snap at hp ⊢
      unfold Rep at r ⊢
      obtain ⟨a, vs, e, q, r⟩ := r
      exact ⟨a, vs, e, R.sub _ _ q, L ds vs hp r⟩
    | fro ds =>
      unfold snap at hp ⊢
      unfold Rep at r ⊢
      obtain ⟨a, vs, e, q, r⟩ := r
      exact ⟨a, vs, e, R.sub.sqL q, L ds vs hp r⟩
    | obj c fs =>
      unfold snap at hp ⊢
      unfold Rep at r ⊢
      obtain ⟨a, vs, e, ⟨dx, h1, h2⟩, r⟩ := r
      exact ⟨a, vs, e, ⟨dx, R.sub _ _ h1, R.sub _ _ h2⟩, L fs vs hp r⟩
    | exn c fs =>
      unfold snap at hp ⊢
      unfold Rep at r ⊢
      obtain ⟨a, vs, e, ⟨d, h1, h2⟩, r⟩ := r
      exact ⟨a, vs, e, ⟨d, R.sub _ _ h1, h2.keep fun _ _ z => R.sub _ _ z⟩, L fs vs hp r⟩
    | non => unfold snap at hp ⊢; exact rep_down _ v hp R.sub r
    | bl b => unfold snap at hp ⊢; exact rep_down _ v hp R.sub r
    | int i => unfold snap at hp ⊢; exact rep_down _ v hp R.sub r
    | str s => unfold snap at hp ⊢; exact rep_down _ v hp R.sub r
theorem env_snap {ρ : Env} {σ : L2.St} (hρ : EnvR Γ α G ρ σ) (R : Rl Γ α G S H) : EnvR Γ [] H (snapE S ρ) σ := by
  refine ⟨by simp [snapE, hρ.1], fun i d hd => ?_⟩
  unfold snapE at hd
  rw [List.getElem?_map] at hd
  cases q : ρ[i]? with
  | none => rw [q] at hd; cases hd
  | some o =>
    rw [q] at hd
    cases o with
    | none => cases hd
    | some d0 =>
      obtain ⟨v, h1, h2⟩ := hρ.2 i d0 q
      refine ⟨v, h1, ?_⟩
      simp only [Option.map_some, Option.some.injEq, snapO, Option.bind_some] at hd
      split at hd
      · rename_i hp
        cases hd
        exact rep_down d v hp R.sub h2
      · split at hd
        · rename_i hp
          cases hd
          exact rep_snap R 3 d0 v hp h2
        · cases hd
theorem rl_bare : Rl Γ [] H [] H := ⟨Sub.refl H, rfl, List.Pairwise.nil, fun a m => by simp at m, fun k c a h _ => by simp at h⟩
theorem ext_back {α' : List Addr} {G' H' : Hp} (R : Rl Γ α G S H) (e : Ext [] H H α' G' H') : Ext α G H α G H' ∧ Rl Γ α G S H' := by
  have st : ∀ a o, H a = some o → H' a = some o := fun a o h => e.fr a o h (by simp)
  refine ⟨⟨⟨[], by simp⟩, Sub.refl G, fun a o h _ => st a o h, fun a m => .inl m, fun a h => .inl h⟩, ⟨fun a u h => st a u (R.sub a u h), R.len, R.nd, fun a m z => ?_, fun k c a hc ha => ?_⟩⟩
  · cases q : H a with
    | none => exact R.tr a m q
    | some o => rw [st a o q] at z; cases z
  · refine (R.ok k c a hc ha).mono ⟨[], by simp⟩ (Sub.refl G) fun _ => ⟨?_, fun h => h⟩
    cases q : H a with
    | none => exact absurd q (R.tr a (List.mem_of_getElem? ha))
    | some o => exact st a o q
theorem snd_bor {t : TE} {m : ME} (h : SndE Γ E t m) : SndE Γ E t (mBor m) := fun ρ S σ α G H Q hρ hR hp => by
  refine h _ [] σ [] H H Q (env_snap hρ hR) rl_bare ?_
  unfold mBor borK at hp
  split at hp
  · rename_i d S' q
    rw [q]
    intro α' G' H' v e R r
    split at hp
    · rename_i hs
      obtain ⟨e2, R2⟩ := ext_back hR e
      refine hp α G H' v e2 R2 ?_
      cases d <;> first | (simp [isSc] at hs; done) | (simp only [Rep] at r ⊢; exact r)
    · exact hp.elim
  · exact hp.elim
  · exact hp.elim
theorem snd_borT {t : TT} {m : MT} (h : SndT Γ E t m) : SndT Γ E t (mBorT m) := fun ρ S σ α G H Q hρ hR hp => by
  refine h _ [] σ [] H H Q (env_snap hρ hR) rl_bare ?_
  unfold mBorT borTK at hp
  split at hp
  · rename_i d S' q
    rw [q]
    intro α' G' H' v e R r
    obtain ⟨e2, R2⟩ := ext_back hR e
    exact hp α G H' v e2 R2 r
  · exact hp.elim
  · exact hp.elim
end
section
variable {X : Cx} {cl : Nat → Addr} {E : XK}
theorem q_bor {e : Expr} {m : ME} (h : QE X cl E e m) : QE X cl E e (mBor m) := by
  obtain ⟨t, h1, h2⟩ := h.ex
  exact ⟨t, h1, snd_bor h2⟩
theorem q_borT {e : Expr} {m : MT} (h : QT X cl E e m) : QT X cl E e (mBorT m) := by
  obtain ⟨t, h1, h2⟩ := h.ex
  exact ⟨t, h1, snd_borT h2⟩
end
section
variable {S : Store} {ρ : Env}
@[simp] theorem ap_bor (m : ME) : mBor m ρ S = borK S (m (snapE S ρ) []) := (Eq.refl _).trans rfl
@[simp] theorem ap_borT (m : MT) : mBorT m ρ S = borTK S (m (snapE S ρ) []) := (Eq.refl _).trans rfl
@[simp] theorem snapE_nil : snapE S [] = [] := (Eq.refl _).trans rfl
@[simp] theorem snapE_cons (o : Option D) : snapE S (o :: ρ) = snapO S o :: snapE S ρ := (Eq.refl _).trans rfl
@[simp] theorem snapO_none : snapO S none = none := (Eq.refl _).trans rfl
theorem snapO_pure {d : D} (h : pureD d = true) : snapO S (some d) = some d := by simp [snapO, h]
theorem snap_pure : ∀ (n : Nat) (d : D), pureD d = true → snap n S d = d
  | 0, _, _ => rfl
  | n + 1, d, h => by
    have L : ∀ ds : List D, pureL ds = true → ds.map (snap n S) = ds := fun ds => by
      induction ds with
      | nil => exact fun _ => rfl
      | cons d ds ih =>
        intro h
        unfold pureL at h
        rw [Bool.and_eq_true] at h
        rw [List.map_cons, snap_pure n d h.1, ih h.2]
    cases d with
    | ref k => cases h
    | tup ds => unfold snap; rw [L ds h]
    | lst ds => unfold snap; rw [L ds h]
    | fro ds => unfold snap; rw [L ds h]
    | obj c fs => unfold snap; rw [L fs h]
    | exn c fs => unfold snap; rw [L fs h]
    | _ => rfl
theorem snapO_ref {k : Nat} {xs : List D} (h : S[k]? = some (.lst xs)) (hp : pureL xs = true) : snapO S (some (.ref k)) = some (.lst xs) := by
  have e : snap 3 S (.ref k) = .lst xs := by
    unfold snap
    rw [h]
    show D.lst (xs.map (snap 2 S)) = _
    have := snap_pure (S := S) 3 (.lst xs) hp
    unfold snap at this
    exact this
  have e2 : pureD (.lst xs) = true := hp
  simp only [snapO, Option.bind_some, e, e2, if_true]
  rfl
@[simp] theorem borTK_ok (b : Bool) (S' : Store) : borTK S (.ok b S') = .ok b S := (Eq.refl _).trans rfl
@[simp] theorem borK_bl (b : Bool) (S' : Store) : borK S (.ok (.bl b) S') = .ok (.bl b) S := (Eq.refl _).trans rfl
@[simp] theorem borK_int (b : Int) (S' : Store) : borK S (.ok (.int b) S') = .ok (.int b) S := (Eq.refl _).trans rfl
@[simp] theorem borK_non (S' : Store) : borK S (.ok .non S') = .ok .non S := (Eq.refl _).trans rfl
@[simp] theorem borK_str (b : Str) (S' : Store) : borK S (.ok (.str b) S') = .ok (.str b) S := (Eq.refl _).trans rfl
end
end Q
namespace Q
open PySem L2
def lim : Int := 1000000
def pairsOf : List D → Option (List (Int × Int))
  | [] => some []
  | .tup [.int i, .int j] :: xs => if (0 ≤ i ∧ i < lim) ∧ 0 ≤ j ∧ j < lim then (pairsOf xs).map ((i, j) :: ·) else none
  | _ :: _ => none
def plt (a b : Int × Int) : Prop := a.1 < b.1 ∨ (a.1 = b.1 ∧ a.2 < b.2)
instance (a b : Int × Int) : Decidable (plt a b) := by unfold plt; infer_instance
theorem plt_irr (a : Int × Int) : ¬ plt a a := by unfold plt; omega
theorem plt_trans {a b c : Int × Int} (h : plt a b) (h' : plt b c) : plt a c := by unfold plt at *; omega
theorem plt_tri {a b : Int × Int} (h : a ≠ b) (h' : ¬ plt a b) : plt b a := by
  unfold plt at *
  by_cases e : a.1 = b.1
  · by_cases e2 : a.2 = b.2
    · exact absurd (Prod.ext e e2) h
    · omega
  · omega
def insU (x : Int × Int) : List (Int × Int) → List (Int × Int)
  | [] => [x]
  | y :: ys => if x = y then y :: ys else if plt x y then x :: y :: ys else y :: insU x ys
def sortU : List (Int × Int) → List (Int × Int)
  | [] => []
  | x :: xs => insU x (sortU xs)
theorem mem_insU {x z : Int × Int} : ∀ {ys : List (Int × Int)}, z ∈ insU x ys ↔ z = x ∨ z ∈ ys
  | [] => by simp [insU]
  | y :: ys => by
    unfold insU
    split
    · rename_i e
      subst e
      simp
    · split
      · simp
      · simp only [List.mem_cons, mem_insU (ys := ys)]
        constructor <;> (intro h; rcases h with h | h | h <;> simp [h])
theorem mem_sortU {z : Int × Int} : ∀ {xs : List (Int × Int)}, z ∈ sortU xs ↔ z ∈ xs
  | [] => by simp [sortU]
  | x :: xs => by
    unfold sortU
    rw [mem_insU, mem_sortU, List.mem_cons]
theorem insU_up {x : Int × Int} : ∀ {ys : List (Int × Int)}, ys.Pairwise plt → (insU x ys).Pairwise plt
  | [], _ => by simp [insU]
  | y :: ys, h => by
    have h' := List.pairwise_cons.mp h
    unfold insU
    split
    · exact h
    · rename_i hne
      split
      · rename_i hlt
        refine List.pairwise_cons.mpr ⟨fun z hz => ?_, h⟩
        rcases List.mem_cons.mp hz with rfl | m
        · exact hlt
        · exact plt_trans hlt (h'.1 z m)
      · rename_i hlt
        refine List.pairwise_cons.mpr ⟨fun z hz => ?_, insU_up h'.2⟩
        rcases mem_insU.mp hz with rfl | m
        · exact plt_tri hne hlt
        · exact h'.1 z m
theorem sortU_up : ∀ xs : List (Int × Int), (sortU xs).Pairwise plt
  | [] => by simp [sortU]
  | x :: xs => insU_up (sortU_up xs)
/-- rising lists of the same members are the same -/
theorem up_uniq : ∀ (xs ys : List (Int × Int)), xs.Pairwise plt → ys.Pairwise plt → (∀ z, z ∈ xs ↔ z ∈ ys) → xs = ys
  | [], [], _, _, _ => rfl
  | [], y :: ys, _, _, h => absurd ((h y).mpr (by simp)) (by simp)
  | x :: xs, [], _, _, h => absurd ((h x).mp (by simp)) (by simp)
  | x :: xs, y :: ys, hx, hy, h => by
    have hx' := List.pairwise_cons.mp hx
    have hy' := List.pairwise_cons.mp hy
    have e : x = y := by
      rcases List.mem_cons.mp ((h x).mp (by simp)) with e | m
      · exact e
      · rcases List.mem_cons.mp ((h y).mpr (by simp)) with e | m'
        · exact e.symm
        · exact absurd (plt_trans (hx'.1 y m') (hy'.1 x m)) (plt_irr x)
    subst e
    rw [up_uniq xs ys hx'.2 hy'.2 fun z => ⟨fun m => ?_, fun m => ?_⟩]
    · rcases List.mem_cons.mp ((h z).mp (by simp [m])) with e | m'
      · subst e; exact absurd (hx'.1 z m) (plt_irr z)
      · exact m'
    · rcases List.mem_cons.mp ((h z).mpr (by simp [m])) with e | m'
      · subst e; exact absurd (hy'.1 z m) (plt_irr z)
      · exact m'
def pairD (p : Int × Int) : D := .tup [.int p.1, .int p.2]
/-- what pairs lie as -/
theorem pairs_at {Γ : Gm} {α : List Addr} {G : Hp} : ∀ (xs : List D) (ps : List (Int × Int)) (vs : List V), pairsOf xs = some ps → RepL Γ α G xs vs →
    ∃ ks : List (Addr × List Int), vs = ks.map (fun p => V.ref p.1) ∧ (∀ p ∈ ks, G p.1 = some (.tup (p.2.map V.int))) ∧ ks.map (·.2) = ps.map (fun p => [p.1, p.2]) ∧ ∀ p ∈ ps, (0 ≤ p.1 ∧ p.1 < lim) ∧ 0 ≤ p.2 ∧ p.2 < lim
  | [], ps, vs, h, r => by
    unfold RepL at r
    subst r
    cases h
    exact ⟨[], rfl, by simp, rfl, by simp⟩
  | x :: xs, ps, vs, h, r => by
    unfold pairsOf at h
    split at h
    · rename_i e; cases e
    · rename_i i j ys e
      cases e
      split at h
      · rename_i hb
        cases q : pairsOf xs with
        | none => rw [q] at h; cases h
        | some qs =>
          rw [q] at h
          cases h
          unfold RepL at r
          obtain ⟨v, w, rfl, r1, r2⟩ := r
          obtain ⟨ks, rfl, h1, h2, h3⟩ := pairs_at xs qs w q r2
          unfold Rep at r1
          obtain ⟨a, us, rfl, s1, t1⟩ := r1
          have e : us = [V.int i, V.int j] := by
            obtain ⟨u, u', rfl, t2, t3⟩ := repL2 t1
            simp only [Rep] at t2 t3
            rw [t2, t3]
          subst e
          refine ⟨(a, [i, j]) :: ks, rfl, fun p hp => ?_, by simp [h2], fun p hp => ?_⟩
          · rcases List.mem_cons.mp hp with rfl | m
            · exact s1
            · exact h1 p m
          · rcases List.mem_cons.mp hp with rfl | m
            · exact hb
            · exact h3 p m
      · cases h
    · cases h
def pk (l : List Int) : Int × Int := (l.headD 0, (l.drop 1).headD 0)
theorem code2 (x y : Int) : TS.code lim [x, y] = x * lim + y := by
  show x * lim ^ 1 + (y * lim ^ 0 + 0) = x * lim + y
  have e1 : lim ^ 1 = lim := by decide
  have e0 : lim ^ 0 = 1 := by decide
  rw [e1, e0, Int.mul_one, Int.add_zero]
theorem rep_pairs {Γ : Gm} {α : List Addr} {G : Hp} : ∀ (L : List (Addr × List Int)), (∀ p ∈ L, G p.1 = some (.tup (p.2.map V.int))) → (∀ p ∈ L, ∃ i j, p.2 = [i, j]) → RepL Γ α G ((L.map fun p => pk p.2).map pairD) (L.map fun p => V.ref p.1)
  | [], _, _ => by simp [RepL]
  | p :: L, h, h2 => by
    obtain ⟨i, j, e⟩ := h2 p (by simp)
    have h1 := h p (by simp)
    rw [List.map_cons, List.map_cons, List.map_cons]
    unfold RepL
    refine ⟨_, _, rfl, ?_, rep_pairs L (fun q hq => h q (by simp [hq])) fun q hq => h2 q (by simp [hq])⟩
    rw [e] at h1 ⊢
    unfold pairD Rep
    exact ⟨p.1, [V.int i, V.int j], rfl, h1, by simp [RepL, Rep, pk]⟩
section
variable {X : Cx} {cl : Nat → Addr} {E : XK} {e : Expr} {m : ME} {pos : Pos}
theorem ss_pairs {xs : List D} {ps : List (Int × Int)} {v : V} {α1 : List Addr} {G1 H1 : Hp} {S1 : Store} {Q Q2 : VK} (R1 : Rl ⟨X.K, cl⟩ α1 G1 S1 H1) (r1 : Rep ⟨X.K, cl⟩ α1 G1 (.lst xs) v) (q : pairsOf xs = some ps) (hl : ps.length < 64)
    (hp1 : Post ⟨X.K, cl⟩ (Rep ⟨X.K, cl⟩) α1 G1 H1 (.ok (.lst ((sortU ps).map pairD)) S1) Q E) (hQ : ∀ x H2, rSortedT X.K X.prog X.w [x] H2 Q → Q2 x H2) : rSetOfT X.K X.prog X.w [v] H1 Q2 := by
  unfold Rep at r1
  obtain ⟨l, vs, rfl, s1, t1⟩ := r1
  obtain ⟨ks, rfl, k1, k2, k3⟩ := pairs_at xs ps vs q t1
  have hlen : ks.length = ps.length := by have := congrArg List.length k2; simpa using this
  have two : ∀ p ∈ ks, ∃ i j, p.2 = [i, j] ∧ (i, j) ∈ ps := fun p hp => by
    have : p.2 ∈ ps.map (fun p => [p.1, p.2]) := by rw [← k2]; exact List.mem_map.mpr ⟨p, hp, rfl⟩
    obtain ⟨u, hu, e⟩ := List.mem_map.mp this
    exact ⟨u.1, u.2, e.symm, hu⟩
  refine ⟨l, ks, rfl, R1.sub.sqL (.inl (.inl s1)), fun p hp => .inl (.inl (R1.sub _ _ (k1 p hp))), by rw [hlen]; exact hl, fun a L ha hL hL2 => ?_⟩
  obtain ⟨R2, e2⟩ := R1.new ha (SetTO X.prog X.w a L)
  refine hQ _ _ ?_
  refine ⟨a, L, 2, lim, rfl, upd_same, fun p hp => .inl (.inl (R2.sub _ _ (e2.sub _ _ (k1 p (hL p hp))))), by decide, fun p hp => ?_, fun L' b pm nd hf pw hb => ?_⟩
  · obtain ⟨i, j, e, hm⟩ := two p (hL p hp)
    have b := k3 _ hm
    refine ⟨by rw [e]; rfl, fun z hz => ?_⟩
    rw [e] at hz
    simp at hz
    rcases hz with rfl | rfl
    · exact b.1
    · exact b.2
  · have two' : ∀ p ∈ L', ∃ i j, p.2 = [i, j] ∧ (i, j) ∈ ps := fun p hp => two p (hL p (pm.subset hp))
    have eM : (L'.map fun p => pk p.2) = sortU ps := by
      refine up_uniq _ _ ?_ (sortU_up ps) fun z => ?_
      · rw [List.pairwise_map]
        have nd' : L'.Pairwise fun p q => p.2 ≠ q.2 := by
          have := nd
          unfold List.Nodup at this
          rwa [List.pairwise_map] at this
        refine (pw.and nd').imp_of_mem fun {p q} hp hq hpq => ?_
        obtain ⟨i, j, ep, mp⟩ := two' p hp
        obtain ⟨i', j', eq, mq⟩ := two' q hq
        have b := k3 _ mp
        have b' := k3 _ mq
        have c := hpq.1
        have ne := hpq.2
        rw [ep, eq, code2, code2] at c
        rw [ep, eq] at ne ⊢
        show plt (i, j) (i', j')
        unfold plt
        simp only at b b' ⊢
        unfold lim at *
        by_cases e : i = i'
        · by_cases e3 : j = j'
          · exact absurd (by rw [e, e3]) ne
          · right; omega
        · left; omega
      · rw [mem_sortU]
        constructor
        · intro hz
          obtain ⟨p, hp, rfl⟩ := List.mem_map.mp hz
          obtain ⟨i, j, ep, mp⟩ := two' p hp
          rw [ep]
          exact mp
        · intro hz
          have : [z.1, z.2] ∈ ks.map (·.2) := by rw [k2]; exact List.mem_map.mpr ⟨z, hz, rfl⟩
          obtain ⟨p, hp, e⟩ := List.mem_map.mp this
          obtain ⟨p', hp', e'⟩ := List.mem_map.mp (hL2 p hp)
          exact List.mem_map.mpr ⟨p', pm.mem_iff.mpr hp', by rw [e', e]; rfl⟩
    obtain ⟨R3, e3⟩ := R2.new hb (.lst (L'.map fun q => V.ref q.1))
    refine hp1 _ _ _ _ (e2.trans e3) R3 (rep_lst upd_same ?_)
    rw [← eM]
    exact rep_pairs L' (fun p hp => e3.sub _ _ (e2.sub _ _ (k1 p (hL p (pm.subset hp))))) fun p hp => by
      obtain ⟨i, j, e, _⟩ := two' p hp
      exact ⟨i, j, e⟩
end
section
variable {S : Store} {ρ : Env}
theorem pairsOf_map : ∀ (ps : List (Int × Int)), (∀ p ∈ ps, (0 ≤ p.1 ∧ p.1 < lim) ∧ 0 ≤ p.2 ∧ p.2 < lim) → pairsOf (ps.map pairD) = some ps
  | [], _ => rfl
  | p :: ps, h => by
    rw [List.map_cons]
    unfold pairD pairsOf
    rw [if_pos (h p (by simp)), show ps.map (fun p => D.tup [.int p.1, .int p.2]) = ps.map pairD from rfl, pairsOf_map ps fun q hq => h q (by simp [hq])]
    rfl
end
end Q
namespace L2
open PySem PySem.Spec PyProof.Rows
section
variable {P : Program} {w : World} {A : Around} {E : Value → Shared → Prop} {s : Shared}
/-- a set without members -/
abbrev bare (w : World) : Obj := { cls := .type "set", dict := none, data := .set #[] 0 (.fresh 0 0 (!w.params.followText "set-order")) }
abbrev walker (l : Addr) : Obj := { cls := .type "list_iterator", data := .fields #[.ref l, .int 0 0] }
/-- what filling it from a list of ints leaves -/
def Filled (w : World) (s : Shared) (ns : List Int) (s' : Shared) : Prop := ∃ h' tk c, s' = { s with heap := h', toks := tk } ∧ SetR w h' s.heap.objs.size (fun j => decide (j ∈ ns)) c ∧ c ≤ ns.length ∧ ∀ b o, s.heap.get? b = some o → h'.get? b = some o
theorem fill_list {l : Addr} {xs : Array Value} {ns : List Int} (hh : A.handled = none) (hl : s.heap.IsList l xs) (hi : IntsAre xs.toList ns) (hb : ns.length + 1 < scanBound) :
    codeAny (model P w) A (.call (.builtin "set.__init__") ⟨[.ref s.heap.objs.size, .ref l], []⟩) (wants (fun r s₂ => r = .none ∧ Filled w s ns s₂) E) { s with heap := s.heap.push (bare w) } := by
  have len : xs.size = ns.length := by simpa using IntsAre.length hi
  obtain ⟨o, ho, hc, k, hd⟩ := hl
  obtain ⟨oc, odi, oda, osl⟩ := o
  simp only at hc hd
  subst hc hd
  have lt0 : l < s.heap.objs.size := Heap.lt_size ho
  have sz : (s.heap.push (bare w)).objs.size = s.heap.objs.size + 1 := Heap.size_push ..
  have at_ : (s.heap.push (bare w)).get? l = some { cls := .type "list", dict := odi, data := .seq xs k, slots := osl } := Heap.get?_push_of_some _ ho
  have isl : (s.heap.push (bare w)).IsList l xs := ⟨_, at_, rfl, k, rfl⟩
  have ty : Shared.TypeIs { s with heap := s.heap.push (bare w) } (.ref s.heap.objs.size) "set" := ⟨_, Heap.get?_push_size _ rfl, rfl⟩
  refine codeAny_call_builtin F.called_set.init.plain F.entry_set_init (check_set_init_1 ty ?_)
  have f1 := F.sub_list_set
  have f2 := F.sub_list_frozenset
  have f3 : (Value.type "list" == Value.type "dict") = false := by decide
  unfold Builtin.«set.__init__» noKeywords Builtin.Frozenset.updateFrom
  generalize hit : pyIter = it
  wp_walk
  subst hit
  refine wpAny_pyIter_list isl (wpAny_bind (wpAny_runValue ?_))
  have away : l ≠ (s.heap.push (bare w)).objs.size := by rw [sz]; exact Nat.ne_of_lt (Nat.lt_succ_of_lt lt0)
  have away2 : s.heap.objs.size ∉ [(s.heap.push (bare w)).objs.size, l] := by simp [sz]; exact Nat.ne_of_gt lt0
  have val : ∀ (i : Nat) (v : Value), xs[i]? = some v → ∃ k t, ns[i]? = some k ∧ v = .int k t := fun i v hv => by
    have lt : i < ns.length := by have := (Array.getElem?_eq_some_iff.mp hv).1; omega
    obtain ⟨t, e⟩ := PyProof.Rows.IntsAre.int_at hi i v (by rw [Array.getElem?_toList]; exact hv)
    exact ⟨ns[i], t, List.getElem?_eq_getElem lt, by rw [e, List.getD_eq_getElem?_getD, List.getElem?_eq_getElem lt]; rfl⟩
  have g0 : ((s.heap.push (bare w)).push (walker l)).get? s.heap.objs.size = some (bare w) := Heap.get?_push_of_some _ (Heap.get?_push_size _ rfl)
  refine set_update_ints ((Walks.list (by simp [hh]) _ l away xs).toS) s.heap.objs.size away2 ns len hb val (xs.size - 0) 0 _ (by omega) (Nat.zero_le _) ⟨⟨_, Heap.get?_push_size _ rfl, rfl, rfl⟩, isl.push _⟩ ⟨0, Nat.le_refl 0, setR_new_at g0⟩ fun s' c hm hc hs => ?_
  obtain ⟨h', g', d', tk', os'⟩ := s'
  obtain rfl : g' = s.gens := hm.gens
  obtain rfl : d' = s.drawn := hm.drawn
  obtain rfl : os' = s.os := hm.os
  show wpAny _ _ _ _ _ _
  refine wpAny_pure ?_
  show wpAny _ _ (ret Value.none) _ _ _
  refine wpAny_pure ⟨rfl, h', tk', c, rfl, hs, by omega, fun b o e => ?_⟩
  have lb := Heap.lt_size e
  exact hm.heap b o (by simp [sz]; exact ⟨Nat.ne_of_lt lb, Nat.ne_of_lt (Nat.lt_succ_of_lt lb)⟩) (Heap.get?_push_of_some _ (Heap.get?_push_of_some _ e))
theorem set_ofL {l : Addr} {xs : Array Value} {ns : List Int} {Q : Value → Shared → Prop} (hh : A.handled = none) (hl : s.heap.IsList l xs) (hi : IntsAre xs.toList ns) (hb : ns.length + 1 < scanBound) (q : ∀ s', Filled w s ns s' → Q (.ref s.heap.objs.size) s') :
    wpAny (model P w) A (call (.type "set") [.ref l]) Q E s := by
  obtain ⟨c, tl, mro⟩ := F.called_set.mro
  have m1 := F.called_set.made
  have m2 := F.called_set.sub
  have m3 := F.called_set.notType
  have m4 := F.called_set.canCreate
  have m5 := F.typeCall_set_1 (.ref l)
  refine wpAny_call (codeAny_of_tree ?_)
  show wpAny _ _ (callAny (.type "set") _) _ _ _
  refine wpAny_pure ⟨Code.quiet_builtin _ (by decide +kernel), codeAny_builtin F.entry_type_call ?_⟩
  rw [Around.under_plain (weight_type_call_type "set" [.ref l] []) rfl]
  repeat (any_goals (first | assumption | wp_step))
  refine codeAny_mono (code_set_led1 (.ref l) (E := E) (Q₁ := fun o t => o = .ref s.heap.objs.size ∧ t = { s with heap := s.heap.push (bare w) }) ⟨rfl, rfl⟩) fun r t hr => ?_
  cases r with
  | error e => exact hr
  | ok fl =>
    cases fl with
    | ret obj =>
      obtain ⟨rfl, rfl⟩ := hr
      have i1 := F.called_set.init.lookup
      have i2 := F.called_set.init.bind (.ref s.heap.objs.size)
      have is : Shared.TypeIs { s with heap := s.heap.push (bare w) } (.ref s.heap.objs.size) "set" := ⟨_, Heap.get?_push_size _ rfl, rfl⟩
      repeat (any_goals (first | assumption | wp_step))
      refine codeAny_mono (fill_list (P := P) (E := E) (by simp [hh]) hl hi hb) fun r2 s2 hr2 => ?_
      cases r2 with
      | error e => exact hr2
      | ok fl2 =>
        cases fl2 with
        | ret r =>
          obtain ⟨rfl, hf⟩ := hr2
          repeat (any_goals (first | assumption | wp_step))
          exact q _ hf
        | _ => exact hr2.elim
    | _ => exact hr.elim
end
section
variable {X : Cx}
/-- set(xs), xs a list of ints -/
def rSetOfL (K : PySem.W.Frag) (w : World) : List V → Hp → VK → Prop := fun vs H Q => ∃ (l : Addr) (ns : List Int), vs = [V.ref l] ∧ SqL K H l (ns.map V.int) ∧ ns.length + 1 < scanBound ∧ ∀ a c, H a = none → c ≤ ns.length → Q (.ref a) (upd H a (SetO w a (fun j => decide (j ∈ ns)) c))
theorem cr_setL (hc : X.calm = true) : CallR X (.type "set") (rSetOfL X.K X.w) := by
  intro pins s σ H vs us Q I r h
  obtain ⟨l, ns, rfl, hl, hb, q⟩ := h
  obtain ⟨its, rv, li, hz⟩ := I.list hl
  rw [Vals.ref1 r]
  refine set_ofL (I.ok.hd hc) li.isList (by simpa using rv.ints) hb fun s' hf => ?_
  obtain ⟨h', tk, c, rfl, hs, hcl, keep⟩ := hf
  exact ⟨.ref _, upd H s.heap.objs.size (SetO X.w s.heap.objs.size (fun j => decide (j ∈ ns)) c), I.laid (t' := tk) keep (Nat.le_refl _) (setO_new hs), rfl, q _ c (I.hok.fresh (Nat.le_refl _)) hcl⟩
end
end L2
namespace Q
open PySem L2
def intsOf : List D → Option (List Int)
  | [] => some []
  | .int i :: xs => (intsOf xs).map (i :: ·)
  | _ :: _ => none
def insN (x : Int) : List Int → List Int
  | [] => [x]
  | y :: ys => if x = y then y :: ys else if x < y then x :: y :: ys else y :: insN x ys
def sortN : List Int → List Int
  | [] => []
  | x :: xs => insN x (sortN xs)
theorem mem_insN {x z : Int} : ∀ {ys : List Int}, z ∈ insN x ys ↔ z = x ∨ z ∈ ys
  | [] => by simp [insN]
  | y :: ys => by
    unfold insN
    split
    · rename_i e
      subst e
      simp
    · split
      · simp
      · simp only [List.mem_cons, mem_insN (ys := ys)]
        constructor <;> (intro h; rcases h with h | h | h <;> simp [h])
theorem mem_sortN {z : Int} : ∀ {xs : List Int}, z ∈ sortN xs ↔ z ∈ xs
  | [] => by simp [sortN]
  | x :: xs => by
    unfold sortN
    rw [mem_insN, mem_sortN, List.mem_cons]
theorem insN_up {x : Int} : ∀ {ys : List Int}, ys.Pairwise (· < ·) → (insN x ys).Pairwise (· < ·)
  | [], _ => by simp [insN]
  | y :: ys, h => by
    have h' := List.pairwise_cons.mp h
    unfold insN
    split
    · exact h
    · rename_i hne
      split
      · rename_i hlt
        refine List.pairwise_cons.mpr ⟨fun z hz => ?_, h⟩
        rcases List.mem_cons.mp hz with rfl | m
        · exact hlt
        · exact Int.lt_trans hlt (h'.1 z m)
      · rename_i hlt
        refine List.pairwise_cons.mpr ⟨fun z hz => ?_, insN_up h'.2⟩
        rcases mem_insN.mp hz with rfl | m
        · omega
        · exact h'.1 z m
theorem sortN_up : ∀ xs : List Int, (sortN xs).Pairwise (· < ·)
  | [] => by simp [sortN]
  | x :: xs => insN_up (sortN_up xs)
theorem upN_uniq : ∀ (xs ys : List Int), xs.Pairwise (· < ·) → ys.Pairwise (· < ·) → (∀ z, z ∈ xs ↔ z ∈ ys) → xs = ys
  | [], [], _, _, _ => rfl
  | [], y :: ys, _, _, h => absurd ((h y).mpr (by simp)) (by simp)
  | x :: xs, [], _, _, h => absurd ((h x).mp (by simp)) (by simp)
  | x :: xs, y :: ys, hx, hy, h => by
    have hx' := List.pairwise_cons.mp hx
    have hy' := List.pairwise_cons.mp hy
    have e : x = y := by
      rcases List.mem_cons.mp ((h x).mp (by simp)) with e | m
      · exact e
      · rcases List.mem_cons.mp ((h y).mpr (by simp)) with e | m'
        · exact e.symm
        · have a := hx'.1 y m'
          have b := hy'.1 x m
          omega
    subst e
    rw [upN_uniq xs ys hx'.2 hy'.2 fun z => ⟨fun m => ?_, fun m => ?_⟩]
    · rcases List.mem_cons.mp ((h z).mp (by simp [m])) with e | m'
      · have := hx'.1 z m; omega
      · exact m'
    · rcases List.mem_cons.mp ((h z).mpr (by simp [m])) with e | m'
      · have := hy'.1 z m; omega
      · exact m'
theorem ints_at {Γ : Gm} {α : List Addr} {G : Hp} : ∀ (xs : List D) (ns : List Int) (vs : List V), intsOf xs = some ns → RepL Γ α G xs vs → vs = ns.map V.int
  | [], ns, vs, h, r => by
    unfold RepL at r
    subst r
    cases h
    rfl
  | x :: xs, ns, vs, h, r => by
    unfold intsOf at h
    split at h
    · rename_i e; cases e
    · rename_i i ys e
      cases e
      cases q : intsOf xs with
      | none => rw [q] at h; cases h
      | some ms =>
        rw [q] at h
        cases h
        unfold RepL at r
        obtain ⟨v, w, rfl, r1, r2⟩ := r
        rw [ints_at xs ms w q r2]
        simp only [Rep] at r1
        rw [r1]
        rfl
    · cases h
theorem rep_ints {Γ : Gm} {α : List Addr} {G : Hp} : ∀ ns : List Int, RepL Γ α G (ns.map D.int) (ns.map V.int)
  | [] => by simp [RepL]
  | n :: ns => by
    rw [List.map_cons, List.map_cons]
    unfold RepL
    exact ⟨_, _, rfl, by simp [Rep], rep_ints ns⟩
/-- the members of a list, each once, ascending: pairs of small ints, or ints -/
def ssK (d : D) (S : Store) : Res D := match d with
  | .lst xs => match pairsOf xs with
    | some ps => if ps.length < 64 then .ok (.lst ((sortU ps).map pairD)) S else .no
    | none => match intsOf xs with
      | some ns => if ns.length < 64 then .ok (.lst ((sortN ns).map .int)) S else .no
      | none => .no
  | _ => .no
def mSortSet (m : ME) : ME := fun ρ S => (m ρ S).bind ssK
section
variable {X : Cx} {cl : Nat → Addr} {E : XK} {e : Expr} {m : ME} {pos : Pos}
theorem q_sortset {k : Nat} {p p1 p2 : Pos} (hr : Room k X.A) (h : QE X cl E e m) (hg : Gl X "sorted") (hm : X.mg "sorted" = none) (hg' : Gl X "set") (hm' : X.mg "set" = none) (hc : X.calm = true := by rfl)
    (he : starEach [e] X.env = (false, eval e X.env) :: starEach [] X.env := by rfl)
    (he2 : starEach [.Call (.Name "set" p1) [e] [] p2] X.env = (false, eval (.Call (.Name "set" p1) [e] [] p2) X.env) :: starEach [] X.env := by rfl)
    (hpl : (backTo p2 (starEach [] X.env)).any (·.1) = false := by rfl) (hpl2 : (backTo pos (starEach [] X.env)).any (·.1) = false := by rfl) :
    QE X cl E (.Call (.Name "sorted" p) [.Call (.Name "set" p1) [e] [] p2] [] pos) (mSortSet m) := by
  obtain ⟨t, h1, h2⟩ := h.ex
  have c1 := pe_callTy (pos := p2) (p := p1) ((cr_setOfT hc hr.units).or (cr_setL hc)) hg' hm' (by rfl) (pa_cons h1 pa_nil he) (by decide) (by decide) he hpl
  refine ⟨_, pe_callB ((cr_sortedT hc).or (cr_sortedSet hc)) hg hm (by rfl) (pa_cons c1 pa_nil he2) (by decide) (by decide) he2 hpl2, fun ρ S σ α G H Q hρ hR hp => ?_⟩
  refine h2 ρ S σ α G H _ hρ hR (post_bind hp fun d S1 α1 G1 H1 v _ e1 R1 r1 hp1 => ?_)
  cases d with
  | lst xs =>
    simp only [ssK] at hp1
    cases q : pairsOf xs with
    | some ps =>
      rw [q] at hp1
      simp only at hp1
      split at hp1
      · rename_i hl
        exact .inl (ss_pairs R1 r1 q hl hp1 fun x H2 z => .inl z)
      · exact hp1.elim
    | none =>
      rw [q] at hp1
      simp only at hp1
      cases q2 : intsOf xs with
      | none => rw [q2] at hp1; exact hp1.elim
      | some ns =>
        rw [q2] at hp1
        simp only at hp1
        split at hp1
        · rename_i hl
          unfold Rep at r1
          obtain ⟨l, vs, rfl, s1, t1⟩ := r1
          have ev := ints_at xs ns vs q2 t1
          subst ev
          refine .inr ⟨l, ns, rfl, R1.sub.sqL (.inl (.inl s1)), by unfold scanBound; omega, fun a c ha hcl => .inr ⟨a, _, c, rfl, upd_same, by omega, fun ns' b pw mem len hb => ?_⟩⟩
          have en : ns' = sortN ns := upN_uniq _ _ pw (sortN_up ns) fun z => by rw [mem_sortN, mem z]; exact decide_eq_true_iff
          subst en
          obtain ⟨R2, e2⟩ := R1.new ha (SetO X.w a (fun j => decide (j ∈ ns)) c)
          obtain ⟨R3, e3⟩ := R2.new hb (.lst ((sortN ns).map V.int))
          exact hp1 _ _ _ _ (e2.trans e3) R3 (rep_lst upd_same (rep_ints _))
        · exact hp1.elim
  | _ => exact hp1.elim
end
section
variable {S : Store} {ρ : Env}
@[simp] theorem ap_sortset (m : ME) : mSortSet m ρ S = (m ρ S).bind ssK := (Eq.refl _).trans rfl
theorem ssK_pairs {ps : List (Int × Int)} (h : ∀ p ∈ ps, (0 ≤ p.1 ∧ p.1 < lim) ∧ 0 ≤ p.2 ∧ p.2 < lim) (hl : ps.length < 64) : ssK (.lst (ps.map pairD)) S = .ok (.lst ((sortU ps).map pairD)) S := by
  simp only [ssK, pairsOf_map ps h, hl, if_true]
theorem intsOf_map : ∀ ns : List Int, intsOf (ns.map .int) = some ns
  | [] => rfl
  | n :: ns => by
    rw [List.map_cons]
    unfold intsOf
    rw [intsOf_map ns]
    rfl
theorem ssK_ints {ns : List Int} (hl : ns.length < 64) : ssK (.lst (ns.map .int)) S = .ok (.lst ((sortN ns).map .int)) S := by
  cases ns with
  | nil => rfl
  | cons n ns =>
    have e : pairsOf ((n :: ns).map D.int) = none := rfl
    simp only [ssK, e, intsOf_map, hl, if_true]
end
/-- a call with a plain answer, on copies of what the cells hold -/
def fBor (f : List D → Store → Res D) : List D → Store → Res D := fun ds S => if pureL (ds.map (snap 3 S)) then borK S (f (ds.map (snap 3 S)) []) else .no
theorem sp_bor {Γ : Gm} {E : XK} {f : List D → Store → Res D} : SndC Γ E (fun vs H Q => spM Γ f vs H Q E0) (fBor f) := fun ds S α G H vs Q hR r hp => by
  unfold fBor at hp
  split at hp
  · rename_i hq
    refine ⟨ds.map (snap 3 S), [], H, [], repL_map (P := fun _ => True) (fun d v _ h r => rep_snap hR 3 d v h r) ds vs (fun _ _ => trivial) hq r, rl_bare, ?_⟩
    unfold borK at hp
    split at hp
    · rename_i d S' q
      rw [q]
      intro α' G' H' v e R r
      split at hp
      · rename_i hs
        obtain ⟨e2, R2⟩ := ext_back hR e
        refine hp α G H' v e2 R2 ?_
        cases d <;> first | (simp [isSc] at hs; done) | (simp only [Rep] at r ⊢; exact r)
      · exact hp.elim
    · exact hp.elim
    · exact hp.elim
  · exact hp.elim
/-- ended with data alone: as a pure call -/
theorem fBor_pure {f : List D → Store → Res D} {ds : List D} {d : D} {S' : Store} (S : Store) (h : pureL ds = true) (hs : isSc d = true) (e : f ds [] = .ok d S') : fBor f ds S = .ok d S := by
  have m : ds.map (snap 3 S) = ds := by
    have := snap_pure (S := S) 4 (.lst ds) h
    unfold snap at this
    exact D.lst.inj this
  unfold fBor
  rw [m, if_pos h, e]
  show (if isSc d = true then Res.ok d S else .no) = _
  rw [if_pos hs]
/-- .. with cells among what is handed on: by their copies -/
theorem fBor_ap {f : List D → Store → Res D} {ds es : List D} {d : D} {S S' : Store} (m : ds.map (snap 3 S) = es) (h : pureL es = true) (hs : isSc d = true) (e : f es [] = .ok d S') : fBor f ds S = .ok d S := by
  unfold fBor
  rw [m, if_pos h, e]
  show (if isSc d = true then Res.ok d S else .no) = _
  rw [if_pos hs]
end Q
namespace L2
open PySem PySem.Spec PyProof.Rows
theorem perm_of_map {α β : Type} {f : α → β} {l m : List β} (h : l.Perm m) : ∀ ks : List α, m = ks.map f → ∃ L : List α, L.Perm ks ∧ l = L.map f := by
  induction h with
  | nil => exact fun ks e => ⟨[], by rw [List.map_eq_nil_iff.mp e.symm], rfl⟩
  | cons x _ ih =>
    intro ks e
    cases ks with
    | nil => cases e
    | cons k ks =>
      rw [List.map_cons] at e
      have i1 := (List.cons.inj e).1
      obtain ⟨L, p, e2⟩ := ih ks (List.cons.inj e).2
      exact ⟨k :: L, p.cons k, by rw [i1, e2]; rfl⟩
  | swap x y l =>
    intro ks e
    match ks, e with
    | a :: b :: ks, e =>
      rw [List.map_cons, List.map_cons] at e
      have i1 := (List.cons.inj e).1
      have i2 := (List.cons.inj (List.cons.inj e).2).1
      have i3 := (List.cons.inj (List.cons.inj e).2).2
      exact ⟨b :: a :: ks, List.Perm.swap a b ks, by rw [i1, i2, i3]; rfl⟩
    | [], e => cases e
    | [_], e => cases e
  | trans _ _ ih1 ih2 =>
    intro ks e
    obtain ⟨L, p, e2⟩ := ih2 ks e
    obtain ⟨M, q, e3⟩ := ih1 L e2
    exact ⟨M, q.trans p, e3⟩
theorem vrefs : ∀ {ks : List (Addr × Int × Int)} {us : List Value}, Vals (ks.map fun p => V.ref p.1) us → us = ks.map fun p => Value.ref p.1
  | [], _, .nil => rfl
  | k :: ks, _, .cons r t => by
    cases r
    rw [vrefs t]
    rfl
theorem refsv : ∀ ks : List (Addr × Int × Int), Vals (ks.map fun p => V.ref p.1) (ks.map fun p => Value.ref p.1)
  | [] => .nil
  | k :: ks => .cons rfl (refsv ks)
/-- the pair at u -/
def pairAt (h : Heap) (u : Value) : Int × Int := Q.pk (TS.intsOf h u)
section
variable {X : Cx}
def rSortedRP (K : PySem.W.Frag) : List V → List V → Hp → VK → Prop := fun vs zs H Q => ∃ (a : Addr) (ks : List (Addr × Int × Int)), vs = [V.ref a] ∧ zs = [.bl true] ∧ SqL K H a (ks.map fun p => V.ref p.1) ∧ (∀ p ∈ ks, SqT K H p.1 [.int p.2.1, .int p.2.2]) ∧
  ∀ (L : List (Addr × Int × Int)) (p : Addr), L.Perm ks → L.Pairwise (fun p q => q.2.1 < p.2.1 ∨ (q.2.1 = p.2.1 ∧ q.2.2 ≤ p.2.2)) → H p = none → Q (.ref p) (upd H p (.lst (L.map fun p => V.ref p.1)))
theorem cr_sortedRP : CallRK X (.builtin "sorted") [Str.ofString "reverse"] (rSortedRP X.K) := by
  intro pins s σ H vs zs us ws Q I r rz h
  obtain ⟨a, ks, rfl, rfl, hl, hk, q⟩ := h
  obtain rfl := Vals.ref1 r
  obtain ⟨w1, rfl, e1⟩ := vals1 rz
  obtain rfl : w1 = Value.bool true := e1
  obtain ⟨its, rv, pl, hz⟩ := I.list hl
  obtain rfl := vrefs rv
  have at_ : ∀ p ∈ ks, Srt.IsPair s.heap (.ref p.1) p.2.1 p.2.2 ∧ pairAt s.heap (.ref p.1) = p.2 := fun p hp => by
    obtain ⟨us, r2, ⟨o, ho, hc, n, hd⟩, _⟩ := I.tuple (hk p hp)
    obtain ⟨u1, u2, rfl, ri, rj⟩ := vals2 r2
    obtain ⟨t1, rfl⟩ := ri
    obtain ⟨t2, rfl⟩ := rj
    refine ⟨⟨_, o, t1, t2, n, rfl, ho, hc, hd⟩, ?_⟩
    have ti : TS.TupInts s.heap (.ref p.1) [p.2.1, p.2.2] := ⟨p.1, _, rfl, ⟨o, ho, hc, n, hd⟩, .cons _ _ (.cons _ _ .nil)⟩
    unfold pairAt
    rw [ti.ints]
    rfl
  have mem : ∀ v ∈ ks.map (fun p => Value.ref p.1), Srt.IsPair s.heap v (pairAt s.heap v).1 (pairAt s.heap v).2 := fun v hv => by
    obtain ⟨p, hp, rfl⟩ := List.mem_map.mp hv
    have z := at_ p hp
    rw [z.2]
    exact z.1
  have hz2 : (ks.map fun p => Value.ref p.1).length ≤ sizeLine := by simpa using hz
  refine SrtR.sorted_ordK (b := true) (fun _ => rfl) (PyProof.Rows.args_sorted_rev _ _) (fun _ => PyProof.Rows.args_list_sort_rev _ _) (SrtO.swo_lex (pairAt s.heap)) pl.isList hz2 (fun h2 h₁ a' g keep => ?_) fun out h1 h2 => ?_
  · refine SrtO.pairs_sortableO (by omega) (fun v hv => (mem v hv).keeps fun b o e _ => (keep b o e).2) fun o e => ?_
    rw [g] at e
    cases e
    exact fun z => by
      injection z with z3
      exact absurd z3 (by decide)
  · have pm : out.reverse.Perm (ks.map fun p => Value.ref p.1) := (List.reverse_perm out).trans (h2.perm.trans (List.reverse_perm _))
    obtain ⟨L, pL, eL⟩ := perm_of_map pm ks rfl
    obtain ⟨ep, he'⟩ := PyProof.Rows.sortedAll_at s.heap (ks.map fun p => Value.ref p.1) out.toArray.reverse
    have ea : out.toArray.reverse = (L.map fun p => Value.ref p.1).toArray := by rw [← eL]; simp
    rw [ea] at he'
    have hlen : (L.map fun p => V.ref p.1).length ≤ sizeLine := by
      rw [List.length_map, pL.length_eq]
      simpa using hz
    refine ⟨.ref _, upd H (s.heap.objs.size + 1) (.lst (L.map fun p => V.ref p.1)), I.laid (t' := s.toks) (fun _ _ => PyProof.Rows.sortedAll_old) (Nat.le_succ _) ⟨hlen, _, ep, refsv L, by simp only [if_true]; rw [ea]; exact he'⟩, rfl, q _ _ pL ?_ (I.hok.fresh (Nat.le_succ _))⟩
    have pw : out.reverse.Pairwise fun x y => SrtO.lexB (pairAt s.heap x) (pairAt s.heap y) = false := List.pairwise_reverse.mpr h1
    rw [eL, List.pairwise_map] at pw
    refine pw.imp_of_mem fun {x y} hx hy hxy => ?_
    rw [(at_ x (pL.subset hx)).2, (at_ y (pL.subset hy)).2, SrtO.lexB_no] at hxy
    by_cases e : y.2.1 = x.2.1
    · right; omega
    · left; omega
end
end L2
namespace Q
open PySem L2
def ple (a b : Int × Int) : Prop := a.1 < b.1 ∨ (a.1 = b.1 ∧ a.2 ≤ b.2)
instance (a b : Int × Int) : Decidable (ple a b) := by unfold ple; infer_instance
theorem ple_tot {a b : Int × Int} (h : ¬ ple a b) : ple b a := by unfold ple at *; omega
theorem ple_trans {a b c : Int × Int} (h : ple a b) (h' : ple b c) : ple a c := by unfold ple at *; omega
theorem ple_anti {a b : Int × Int} (h : ple a b) (h' : ple b a) : a = b := by
  unfold ple at *
  exact Prod.ext (by omega) (by omega)
def insD (x : Int × Int) : List (Int × Int) → List (Int × Int)
  | [] => [x]
  | y :: ys => if ple y x then x :: y :: ys else y :: insD x ys
/-- descending -/
def sortD : List (Int × Int) → List (Int × Int)
  | [] => []
  | x :: xs => insD x (sortD xs)
theorem insD_perm (x : Int × Int) : ∀ ys : List (Int × Int), (insD x ys).Perm (x :: ys)
  | [] => List.Perm.refl _
  | y :: ys => by
    unfold insD
    split
    · exact List.Perm.refl _
    · exact ((insD_perm x ys).cons y).trans (List.Perm.swap x y ys)
theorem sortD_perm : ∀ xs : List (Int × Int), (sortD xs).Perm xs
  | [] => List.Perm.refl _
  | x :: xs => (insD_perm x _).trans ((sortD_perm xs).cons x)
theorem insD_down {x : Int × Int} : ∀ {ys : List (Int × Int)}, ys.Pairwise (fun p q => ple q p) → (insD x ys).Pairwise fun p q => ple q p
  | [], _ => by simp [insD]
  | y :: ys, h => by
    have h' := List.pairwise_cons.mp h
    unfold insD
    split
    · rename_i hle
      refine List.pairwise_cons.mpr ⟨fun z hz => ?_, h⟩
      rcases List.mem_cons.mp hz with rfl | m
      · exact hle
      · exact ple_trans (h'.1 z m) hle
    · rename_i hle
      refine List.pairwise_cons.mpr ⟨fun z hz => ?_, insD_down h'.2⟩
      rcases List.mem_cons.mp ((insD_perm x ys).mem_iff.mp hz) with rfl | m
      · exact ple_tot hle
      · exact h'.1 z m
theorem sortD_down : ∀ xs : List (Int × Int), (sortD xs).Pairwise fun p q => ple q p
  | [] => by simp [sortD]
  | x :: xs => insD_down (sortD_down xs)
theorem down_uniq : ∀ (xs ys : List (Int × Int)), xs.Perm ys → xs.Pairwise (fun p q => ple q p) → ys.Pairwise (fun p q => ple q p) → xs = ys
  | [], ys, p, _, _ => p.nil_eq
  | x :: xs, [], p, _, _ => absurd p.length_eq (by simp)
  | x :: xs, y :: ys, p, hx, hy => by
    have hx' := List.pairwise_cons.mp hx
    have hy' := List.pairwise_cons.mp hy
    have e : x = y := by
      rcases List.mem_cons.mp (p.mem_iff.mp (by simp : x ∈ x :: xs)) with e | m
      · exact e
      · rcases List.mem_cons.mp (p.mem_iff.mpr (by simp : y ∈ y :: ys)) with e | m'
        · exact e.symm
        · exact ple_anti (hy'.1 x m) (hx'.1 y m')
    subst e
    rw [down_uniq xs ys (List.Perm.cons_inv p) hx'.2 hy'.2]
def srK (d : D) (S : Store) : Res D := match d with
  | .lst xs => match pairsOf xs with
    | some ps => .ok (.lst ((sortD ps).map pairD)) S
    | none => .no
  | _ => .no
def srK2 (d : D) (b : D) (S : Store) : Res D := match b with
  | .bl true => srK d S
  | _ => .no
def mSortRev (m m2 : ME) : ME := fun ρ S => (m ρ S).bind fun d S1 => (m2 ρ S1).bind (srK2 d)
section
variable {X : Cx} {cl : Nat → Addr} {E : XK} {e e2 : Expr} {m m2 : ME} {pos : Pos}
theorem q_sortrev {p kp : Pos} (h : QE X cl E e m) (h' : QE X cl E e2 m2) (hg : Gl X "sorted") (hm : X.mg "sorted" = none)
    (he0 : starEach [e] X.env = (false, eval e X.env) :: starEach [] X.env := by rfl)
    (he : backTo pos (starEach [e] X.env) = (false, eval e X.env) :: backTo pos (starEach [] X.env) := by rfl) (hpl : (backTo pos (starEach [e] X.env)).any (·.1) = false := by rfl)
    (hall : (backToKw pos (keywordEach [⟨some "reverse", e2, kp⟩] X.env)).all (·.1.isSome) = true := by rfl) (hnone : (backToKw pos (keywordEach [⟨some "reverse", e2, kp⟩] X.env)).any (·.1.isNone) = false := by rfl) (hks : (backToKw pos (keywordEach [⟨some "reverse", e2, kp⟩] X.env)).filterMap (·.1) = [Str.ofString "reverse"] := by rfl) :
    QE X cl E (.Call (.Name "sorted" p) [e] [⟨some "reverse", e2, kp⟩] pos) (mSortRev m m2) := by
  obtain ⟨t, h1, h2⟩ := h.ex
  obtain ⟨u, k1, k2⟩ := h'.ex
  refine ⟨_, pe_callBK cr_sortedRP hg hm (by rfl) (pa_cons h1 pa_nil he0) (pk_cons k1 pk_nil) (by decide) (by decide) he hpl hall hnone hks, fun ρ S σ α G H Q hρ hR hp => ?_⟩
  refine h2 ρ S σ α G H _ hρ hR (post_bind hp fun d S1 α1 G1 H1 v _ e1 R1 r1 hp1 => ?_)
  refine k2 ρ S1 σ α1 G1 H1 _ (hρ.mono e1) R1 (post_bind hp1 fun b S2 α2 G2 H2 w _ e2 R2 r2 hp2 => ?_)
  have r1' := Rep.mono e2.pre e2.sub _ _ r1
  unfold srK2 at hp2
  split at hp2
  · rename_i b1
    unfold srK at hp2
    split at hp2
    · rename_i xs _h0
      split at hp2
      · rename_i ps q
        unfold Rep at r1'
        obtain ⟨l, vs, rfl, s1, t1⟩ := r1'
        obtain ⟨ks, rfl, c1, c2, c3⟩ := pairs_at xs ps vs q t1
        simp only [Rep] at r2
        subst r2
        have two : ∀ p ∈ ks, p.2 = [(pk p.2).1, (pk p.2).2] := fun p hp => by
          have : p.2 ∈ ps.map (fun p => [p.1, p.2]) := by rw [← c2]; exact List.mem_map.mpr ⟨p, hp, rfl⟩
          obtain ⟨u, hu, e⟩ := List.mem_map.mp this
          rw [← e]
          rfl
        have eps : (ks.map fun p => pk p.2) = ps := by
          have := congrArg (List.map pk) c2
          rw [List.map_map, List.map_map] at this
          have e3 : (pk ∘ fun p : Int × Int => [p.1, p.2]) = id := by funext p; rfl
          rw [e3, List.map_id] at this
          exact this
        refine ⟨l, ks.map fun p => (p.1, pk p.2), rfl, rfl, ?_, fun p hp => ?_, fun L b pm pw hb => ?_⟩
        · rw [List.map_map]
          exact R2.sub.sqL (.inl (.inl s1))
        · obtain ⟨p0, hp0, rfl⟩ := List.mem_map.mp hp
          have := R2.sub _ _ (c1 p0 hp0)
          rw [two p0 hp0] at this
          exact .inl (.inl this)
        · have eL : L.map (·.2) = sortD ps := by
            refine down_uniq _ _ ?_ ?_ (sortD_down ps)
            · have := pm.map (·.2)
              rw [List.map_map] at this
              exact (this.trans (by rw [show ((fun p : Addr × Int × Int => p.2) ∘ fun p : Addr × List Int => (p.1, pk p.2)) = fun p => pk p.2 from rfl, eps])).trans (sortD_perm ps).symm
            · rw [List.pairwise_map]
              exact pw.imp fun {a b} h => h
          obtain ⟨R3, e3⟩ := R2.new hb (.lst (L.map fun p => V.ref p.1))
          refine hp2 _ _ _ _ e3 R3 (rep_lst upd_same ?_)
          rw [← eL]
          have sq : ∀ p ∈ L, G2 p.1 = some (.tup [.int p.2.1, .int p.2.2]) := fun p hp => by
            obtain ⟨p0, hp0, rfl⟩ := List.mem_map.mp (pm.subset hp)
            have := c1 p0 hp0
            rw [two p0 hp0] at this
            exact this
          have go : ∀ L : List (Addr × Int × Int), (∀ p ∈ L, G2 p.1 = some (.tup [.int p.2.1, .int p.2.2])) → RepL ⟨X.K, cl⟩ α2 (upd G2 b (.lst (L.map fun p => V.ref p.1))) [] [] → RepL ⟨X.K, cl⟩ α2 G2 ((L.map (·.2)).map pairD) (L.map fun p => V.ref p.1) := fun L => by
            induction L with
            | nil => intro _ _; simp [RepL]
            | cons p L ih =>
              intro hs _
              rw [List.map_cons, List.map_cons, List.map_cons]
              unfold RepL
              refine ⟨_, _, rfl, ?_, ih (fun q hq => hs q (by simp [hq])) (by simp [RepL])⟩
              unfold pairD Rep
              exact ⟨p.1, [V.int p.2.1, V.int p.2.2], rfl, hs p (by simp), by simp [RepL, Rep]⟩
          exact RepL.mono e3.pre e3.sub _ _ (go L sq (by simp [RepL]))
      · exact hp2.elim
    · exact hp2.elim
  · exact hp2.elim
end
section
variable {S : Store} {ρ : Env}
def srK1 (m2 : ME) (ρ : Env) (d : D) (S : Store) : Res D := (m2 ρ S).bind (srK2 d)
@[simp] theorem srK1_ap (m2 : ME) (d : D) : srK1 m2 ρ d S = (m2 ρ S).bind (srK2 d) := (Eq.refl _).trans rfl
@[simp] theorem ap_sortrev (m m2 : ME) : mSortRev m m2 ρ S = (m ρ S).bind (srK1 m2 ρ) := (Eq.refl _).trans rfl
@[simp] theorem srK2_tru (d : D) : srK2 d (.bl true) S = srK d S := (Eq.refl _).trans rfl
theorem srK_pairs {ps : List (Int × Int)} (h : ∀ p ∈ ps, (0 ≤ p.1 ∧ p.1 < lim) ∧ 0 ≤ p.2 ∧ p.2 < lim) : srK (.lst (ps.map pairD)) S = .ok (.lst ((sortD ps).map pairD)) S := by
  simp only [srK, pairsOf_map ps h]
end
end Q
namespace Q
open PySem L2
def insI (x : Int) : List Int → List Int
  | [] => [x]
  | y :: ys => if x ≤ y then x :: y :: ys else y :: insI x ys
def sortI : List Int → List Int
  | [] => []
  | x :: xs => insI x (sortI xs)
theorem insI_perm (x : Int) : ∀ ys : List Int, (insI x ys).Perm (x :: ys)
  | [] => List.Perm.refl _
  | y :: ys => by
    unfold insI
    split
    · exact List.Perm.refl _
    · exact ((insI_perm x ys).cons y).trans (List.Perm.swap x y ys)
theorem sortI_perm : ∀ xs : List Int, (sortI xs).Perm xs
  | [] => List.Perm.refl _
  | x :: xs => (insI_perm x _).trans ((sortI_perm xs).cons x)
theorem insI_up {x : Int} : ∀ {ys : List Int}, ys.Pairwise (· ≤ ·) → (insI x ys).Pairwise (· ≤ ·)
  | [], _ => by simp [insI]
  | y :: ys, h => by
    have h' := List.pairwise_cons.mp h
    unfold insI
    split
    · rename_i c
      refine List.pairwise_cons.mpr ⟨fun z hz => ?_, h⟩
      rcases List.mem_cons.mp hz with rfl | m
      · exact c
      · exact Int.le_trans c (h'.1 z m)
    · rename_i c
      refine List.pairwise_cons.mpr ⟨fun z hz => ?_, insI_up h'.2⟩
      rcases List.mem_cons.mp ((insI_perm x ys).mem_iff.mp hz) with rfl | m
      · omega
      · exact h'.1 z m
theorem sortI_up : ∀ xs : List Int, (sortI xs).Pairwise (· ≤ ·)
  | [] => List.Pairwise.nil
  | x :: xs => insI_up (sortI_up xs)
theorem sortI_uniq {xs ys : List Int} (hp : ys.Perm xs) (hu : ys.Pairwise (· ≤ ·)) : ys = sortI xs :=
  List.Perm.eq_of_pairwise (le := (· ≤ ·)) (fun a b _ _ h1 h2 => by omega) hu (sortI_up xs) (hp.trans (sortI_perm xs).symm)
def plStep (ks : List Int) (p : Int × Int) : List Int := if p.1 ∈ ks then (if p.2 ∈ ks then ks else ks ++ [p.2]) else ks
def plK (k : Int) (ps : List (Int × Int)) : List Int := sortI (ps.foldl plStep [k])
def pairsQ : List D → Option (List (Int × Int))
  | [] => some []
  | .tup [.int i, .int j] :: ds => (pairsQ ds).map ((i, j) :: ·)
  | _ :: _ => none
def plR (k : Int) (d : D) (S : Store) : Res Fl := match d with
  | .lst xs => match pairsQ xs with
    | some ps => if ps.length ≤ 1000 then .ok (.rt (.lst ((plK k ps).map .int))) S else .no
    | none => .no
  | _ => .no
def mPl (ip ifd b : Nat) (m : ME) : MS := fun ρ S => if b < ρ.length then match ρ[ip]? with
  | some (some (.int k)) => (m (ρ.set ifd none) S).bind (plR k)
  | _ => .no
  else .no
theorem upd2 {H : Hp} {p : Addr} (o o' : HO) : upd (upd H p o) p o' = upd H p o' := by
  funext a
  by_cases h : a = p
  · subst h; rw [upd_same, upd_same]
  · rw [upd_ne h, upd_ne h, upd_ne h]
theorem updS {H : Hp} {p : Addr} {o : HO} (h : H p = some o) : upd H p o = H := by
  funext a
  by_cases e : a = p
  · subst e; rw [upd_same, h]
  · rw [upd_ne e]
theorem updC {H : Hp} {p q : Addr} (h : p ≠ q) (o o' : HO) : upd (upd H p o) q o' = upd (upd H q o') p o := by
  funext a
  by_cases e : a = q
  · subst e; rw [upd_same, upd_ne (Ne.symm h), upd_same]
  · rw [upd_ne e]
    by_cases e2 : a = p
    · subst e2; rw [upd_same, upd_same]
    · rw [upd_ne e2, upd_ne e2, upd_ne e]
theorem EnvR.drop {Γ : Gm} {α : List Addr} {G : Hp} {ρ : Env} {σ : L2.St} (h : EnvR Γ α G ρ σ) (i : Nat) (o : Option V) : EnvR Γ α G (ρ.set i none) (σ.set i o) := by
  refine ⟨by simp [h.1], fun j e hj => ?_⟩
  by_cases hij : i = j
  · subst hij
    have hl : i < ρ.length := by
      have := (List.getElem?_eq_some_iff.mp hj).1
      simpa using this
    rw [List.getElem?_set_self hl] at hj
    cases hj
  · rw [List.getElem?_set_ne hij] at hj ⊢
    exact h.2 j e hj
theorem pairsQ_map : ∀ {xs : List D} {ps : List (Int × Int)}, pairsQ xs = some ps → xs = ps.map fun p => .tup [.int p.1, .int p.2]
  | [], ps, h => by simp [pairsQ] at h; subst h; rfl
  | d :: ds, ps, h => by
    unfold pairsQ at h
    split at h
    · rename_i e; cases e
    · rename_i i j ds' e
      cases e
      cases q : pairsQ ds with
      | none => rw [q] at h; cases h
      | some qs =>
        rw [q] at h
        cases h
        rw [pairsQ_map q]
        rfl
    · cases h
theorem repL_intsW {Γ : Gm} {α : List Addr} {G : Hp} : ∀ zs : List Int, RepL Γ α G (zs.map .int) (zs.map .int)
  | [] => by simp [RepL]
  | z :: zs => by
    rw [List.map_cons, List.map_cons]
    unfold RepL
    exact ⟨_, _, rfl, by simp [Rep], repL_intsW zs⟩
/-- the dict's entries -/
def kvT (ks : List Int) : List (Key × V) := ks.map fun k => (Sum.inl k, V.bl true)
theorem kvT_any (ks : List Int) (k : Int) : ((kvT ks).any fun kv => decide (kv.1 = (Sum.inl k : Key))) = decide (k ∈ ks) := by
  unfold kvT
  induction ks with
  | nil => rfl
  | cons x ks ih =>
    rw [List.map_cons, List.any_cons, ih]
    by_cases e : x = k
    · subst e; simp
    · have e2 : ¬ (Sum.inl x : Key) = Sum.inl k := fun z => e (Sum.inl.inj z)
      have e3 : ¬ k = x := fun z => e z.symm
      simp [e2, e3]
theorem kvT_get (ks : List Int) (k : Int) : (valV (kvT ks) (Sum.inl k : Key)).isSome = decide (k ∈ ks) := by
  rw [← kvT_any]
  unfold valV
  rw [Option.isSome_map, Bool.eq_iff_iff, List.find?_isSome, List.any_eq_true]
theorem kvT_put (ks : List Int) (k : Int) : putK (kvT ks) (Sum.inl k : Key) (V.bl true) = kvT (if k ∈ ks then ks else ks ++ [k]) := by
  unfold putK
  rw [kvT_any]
  by_cases h : k ∈ ks
  · rw [if_pos (by simpa using h), if_pos h]
    unfold kvT
    rw [List.map_map]
    refine List.map_congr_left fun x _ => ?_
    simp only [Function.comp_apply]
    split <;> rfl
  · rw [if_neg (by simpa using h), if_neg h]
    unfold kvT
    simp
theorem foldl_take {ps : List (Int × Int)} {i : Nat} {p : Int × Int} (h : ps[i]? = some p) (k : List Int) : (ps.take (i + 1)).foldl plStep k = plStep ((ps.take i).foldl plStep k) p := by
  rw [List.take_succ, h, List.foldl_append]
  rfl
theorem plStep_len (ks : List Int) (p : Int × Int) : (plStep ks p).length ≤ ks.length + 1 := by
  unfold plStep
  split
  · split
    · omega
    · simp
  · omega
theorem plF_len : ∀ (ps : List (Int × Int)) (ks : List Int), (ps.foldl plStep ks).length ≤ ks.length + ps.length
  | [], ks => by simp
  | p :: ps, ks => by
    have h1 := plF_len ps (plStep ks p)
    have h2 := plStep_len ks p
    rw [List.foldl_cons, List.length_cons]
    omega
section
variable {X : Cx} {cl : Nat → Addr} {E : XK}
theorem qss_places {ip ifd ie is_ io b : Nat} {m : ME} {st1 : Stmt} {eK tgP it tgO eltO : Expr} {xc xs xf xo : Str} {scope : Scope} {p1 p2 p3 p4 p5 p6 p7 p8 p9 q1 q2 q3 q4 q5 q6 q7 q8 : Pos} {j1 j2 : Nat}
    (hK : PE X eK (tVar ip)) (h1 : ∀ te, PE X (.Dict [some eK] [.Constant (.bool true) j1 p1] p2) te → PS X st1 (tAsg te (gName ifd)))
    (hi : QE X cl E it m) (hfs : ∀ x, foldedSetIterable it X.env x = pure x) (hg : PG X tgP (gTup X.K 2 (gCons (gName ie) (gCons (gName is_) gNil))))
    (hC : PE X (.Name xc q1) (tVar ie)) (hSt : PE X (.Name xs q2) (tVar is_)) (hF : PE X (.Name xf q3) (tVar ifd)) (hF2 : PE X (.Name xf q4) (tVar ifd)) (hF3 : PE X (.Name xf q5) (tVar ifd))
    (hN : X.N.Nodup) (hB : BlkOk X.N X.env.scope scope [(xo, io)])
    (hgo : ∀ (s : Shared) (H : Hp) (C : Addr) (c : List (Str × Addr)) (fp : List Addr), PG (X.blk s H scope (compEnvC scope c C X.env) fp) tgO (gName io))
    (heo : ∀ (s : Shared) (H : Hp) (C : Addr) (c : List (Str × Addr)) (fp : List Addr), PE (X.blk s H scope (compEnvC scope c C X.env) fp) eltO (tVar io))
    (hs : Gl X "sorted") (hms : X.mg "sorted" = none) (hu : X.A.units + 1 < cLine)
    (hne : ie ≠ is_ ∧ ifd ≠ ie ∧ ifd ≠ is_ ∧ ip ≠ ifd ∧ io ≠ ifd) (hlt : ie ≤ b ∧ is_ ≤ b ∧ ifd ≤ b ∧ io ≤ b)
    (hc : X.calm = true := by rfl) (hpo : PassesOwn (model X.prog X.w) X.A X.env X.xe := by exact PassesOwn.never) :
    QSs X cl E [st1, .For tgP it [.If (.Compare (.Name xc q1) [.In] [.Name xf q3] p3) [.Assign [.Subscript (.Name xf q4) (.Name xs q2) p4] (.Constant (.bool true) j2 p5) p6] [] p7] [] p8,
      .Return (some (.Call (.Name "sorted" p9) [.ListComp eltO [⟨tgO, .Name xf q5, [], 0⟩] scope q6] [] q7)) q8] (mPl ip ifd b m) := by
  obtain ⟨ti, hi1, hi2⟩ := hi.ex
  have b1 := h1 _ (pe_disp (pps_cons hK pe_bl pps_nil) rfl rfl (by simp) (by simp))
  have bIf := ps_if (pos := p7) (pt_cmp (pos := p3) (pc_din hu hC hF)) (pss_one (ps_asg (pos := p6) (pe_bl (b := true) (j := j2) (pos := p5)) (pg_sub (pos := p4) hF2 hSt (set_dict hu)))) pss_nil
  have b2 := ps_for (pos := p8) hpo hc (pi_list hi1) hg (pss_one bIf) hfs
  have b3 := ps_ret (pos := q8) (pe_callB (p := p9) (pos := q7) cr_sortedI hs hms rfl (pa_cons (pe_lock (pe_lc (pos := q6) hc hN (pi_keys hF3) hB hgo (fun _ _ _ _ _ => pts_nil) heo)) pa_nil))
  refine ⟨⟨_, pss_cons b1 (pss_cons b2 (pss_one b3)), fun ρ S σ α G H Dn hρ hR hp => ?_⟩⟩
  obtain ⟨n1, n2, n3, n4, n5⟩ := hne
  obtain ⟨l1, l2, l3, l4⟩ := hlt
  unfold mPl at hp
  split at hp
  case isFalse => exact hp.elim
  rename_i hbl
  have hσl : b < σ.length := by rw [← hρ.1]; exact hbl
  split at hp
  case h_2 => exact hp.elim
  rename_i k hk
  obtain ⟨v, hv, rv⟩ := hρ.2 ip _ hk
  simp only [Rep] at rv
  subst rv
  intro p hz
  refine ⟨.int k, hv, upd_same, [(Sum.inl k, .bl true)], rfl, by simp, ?_⟩
  have e1 : upd (upd H p (.dK [])) p (.dK (mergeK [] [(Sum.inl k, V.bl true)])) = upd H p (.dK (kvT [k])) := by
    rw [upd2]
    rfl
  rw [e1]
  obtain ⟨R0, e0⟩ := hR.out hz (.dK (kvT [k]))
  have hρ' := hρ.drop ifd (some (.ref p))
  have hpα : p ∉ α := fun z => hR.tr p z hz
  refine hi2 (ρ.set ifd none) S _ α G _ _ hρ' R0 ?_
  cases q : m (ρ.set ifd none) S with
  | no => rw [q] at hp; exact hp.elim
  | ex e S1 =>
    rw [q] at hp
    intro α' G' H' c x ex rl rr
    exact hp α' G' H' c x (e0.trans ex) rl rr
  | ok d S1 =>
    rw [q] at hp
    intro α1 G1 H1 v ex R1 r1
    have hp' : PostS ⟨X.K, cl⟩ E α G H (plR k d S1) Dn := hp
    unfold plR at hp'
    cases d <;> try exact hp'.elim
    rename_i xs0
    simp only at hp'
    split at hp'
    case h_2 => exact hp'.elim
    rename_i ps hps
    split at hp'
    case isFalse => exact hp'.elim
    rename_i hlen
    have hxs := pairsQ_map hps
    subst hxs
    unfold Rep at r1
    obtain ⟨a, vs, rfl, hGa, rL⟩ := r1
    have hvl : vs.length = ps.length := by rw [← rL.length, List.length_map]
    have hH1p : H1 p = some (.dK (kvT [k])) := ex.fr p _ upd_same hpα
    have hpα1 : p ∉ α1 := fun z => by
      rcases ex.na p z with w | w
      · exact hpα w
      · rw [upd_same] at w; cases w
    have hG1p : G1 p = none := by
      cases w : G1 p with
      | none => rfl
      | some o =>
        rcases ex.ng p (by rw [w]; simp) with z | z | z | ⟨_, z⟩
        · exact absurd (hR.gnone hz) z
        · exact absurd z hpα
        · rw [upd_same] at z; cases z
        · rw [upd_same] at z; cases z
    have Rp := fun o => R1.patch hpα1 hG1p o
    have kl : ∀ i, ((ps.take i).foldl plStep [k]).length ≤ 1001 := fun i => by
      have h1 := plF_len (ps.take i) [k]
      have h2 : (ps.take i).length ≤ ps.length := by rw [List.length_take]; omega
      simp at h1
      omega
    refine ⟨a, rfl, ⟨vs, R1.sub.sqL (.inl (.inl hGa))⟩, for_list (K := X.K) (a := a) (xs := vs) (fun i τ Hc => Hc = upd H1 p (.dK (kvT ((ps.take i).foldl plStep [k]))) ∧ τ[ifd]? = some (some (V.ref p)) ∧ τ.length = σ.length) ⟨by rw [List.take_zero]; exact (updS hH1p).symm, List.getElem?_set_self (by omega), by simp⟩ ?_ ?_ ?_⟩
    · rintro i τ _ _ ⟨rfl, _, _⟩
      exact (Rp _).sub.sqL (.inl (.inl hGa))
    · rintro i x τ _ hx ⟨rfl, hf, hl⟩
      have hil : i < ps.length := by rw [← hvl]; exact (List.getElem?_eq_some_iff.mp hx).1
      have hpi : ps[i]? = some ps[i] := List.getElem?_eq_getElem hil
      obtain ⟨w, hw, rw'⟩ := rL.get (show (ps.map fun p => D.tup [.int p.1, .int p.2])[i]? = some (.tup [.int ps[i].1, .int ps[i].2]) by rw [List.getElem?_map, hpi]; rfl)
      rw [hx] at hw
      cases hw
      obtain ⟨t, ws, rfl, qT, rW⟩ := tup_at (Rp (.dK (kvT ((ps.take i).foldl plStep [k])))) rw'
      have eW : ws = [.int ps[i].1, .int ps[i].2] := by
        simp only [RepL, Rep] at rW
        obtain ⟨_, _, rfl, rfl, _, _, rfl, rfl, rfl⟩ := rW
        rfl
      subst eW
      refine ⟨t, _, rfl, qT, rfl, _, _, rfl, _, _, rfl, rfl, ?_⟩
      have g1 : ((τ.set ie (some (V.int ps[i].1))).set is_ (some (V.int ps[i].2)))[ie]? = some (some (V.int ps[i].1)) := by
        rw [List.getElem?_set_ne (Ne.symm n1), List.getElem?_set_self (by omega)]
      have g2 : ((τ.set ie (some (V.int ps[i].1))).set is_ (some (V.int ps[i].2)))[is_]? = some (some (V.int ps[i].2)) := List.getElem?_set_self (by simp; omega)
      have g3 : ((τ.set ie (some (V.int ps[i].1))).set is_ (some (V.int ps[i].2)))[ifd]? = some (some (V.ref p)) := by
        rw [List.getElem?_set_ne (Ne.symm n3), List.getElem?_set_ne (Ne.symm n2)]
        exact hf
      refine ⟨.int ps[i].1, g1, .ref p, g3, p, _, rfl, DGet.k (k := Sum.inl ps[i].1) upd_same, _, rfl, ?_⟩
      have st := foldl_take hpi [k]
      have hk2 := kl i
      generalize (ps.take i).foldl plStep [k] = ks at *
      rw [kvT_get]
      show if decide (ps[i].1 ∈ ks) = true then _ else _
      by_cases he : ps[i].1 ∈ ks
      · rw [if_pos (by simpa using he)]
        refine ⟨.ref p, g3, .int ps[i].2, g2, p, _, rfl, DPut.k (k := Sum.inl ps[i].2) upd_same (by unfold kvT; rw [List.length_map]; exact Nat.lt_of_le_of_lt hk2 (by decide)), ?_, g3, by simp [hl]⟩
        rw [upd2, kvT_put, st]
        unfold plStep
        rw [if_pos he]
      · rw [if_neg (by simpa using he)]
        refine ⟨?_, g3, by simp [hl]⟩
        rw [st]
        unfold plStep
        rw [if_neg he]
    · rintro τ _ ⟨rfl, hf, hl⟩
      rw [hvl, List.take_of_length_le (Nat.le_refl _)]
      have hk2 := kl ps.length
      rw [List.take_of_length_le (Nat.le_refl _)] at hk2
      have hplK : plK k ps = sortI (ps.foldl plStep [k]) := rfl
      rw [hplK] at hp'
      generalize ps.foldl plStep [k] = ks at *
      refine ⟨p, .dK (kvT ks), upd_same, trivial, fun od => ?_⟩
      refine ⟨.ref p, hf, p, od, rfl, .inl ⟨kvT ks, upd_same, ?_⟩⟩
      intro Dd hD
      rw [upd2] at hD
      have hDp : Dd ≠ p := fun z => by subst z; rw [upd_same] at hD; cases hD
      have kvl : (kvT ks).length = ks.length := by unfold kvT; rw [List.length_map]
      refine lc_it walk_keys (fun i H' => H' = upd (upd (upd H1 p (.dK (kvT ks))) p (.frz od (.dK (kvT ks)))) Dd (.lst ((ks.take i).map V.int))) rfl ?_ ?_ ?_
      · rintro i _ _ rfl
        rw [upd_ne (Ne.symm hDp), upd_same]
      · rintro i x _ _ hi0 rfl ⟨rfl, kk, vv, hkk, rfl⟩
        have hik : i < ks.length := by omega
        have hki : ks[i]? = some ks[i] := List.getElem?_eq_getElem hik
        unfold kvT at hkk
        rw [List.getElem?_map, hki] at hkk
        cases hkk
        have wl : io < (wipe τ [io]).length := by rw [wipe_length]; omega
        refine ⟨?_, ?_⟩
        · show ((wipe τ [io]).set io (some (V.int ks[i]))).set io none = (τ.set io none)
          show ((τ.set io none).set io (some (V.int ks[i]))).set io none = (τ.set io none)
          rw [List.set_set, List.set_set]
        · show ∃ v, _
          refine ⟨.int ks[i], List.getElem?_set_self wl, _, upd_same, ?_, ?_⟩
          · rw [List.length_map, List.length_take]
            exact Nat.lt_of_le_of_lt (show min i ks.length ≤ 1001 by omega) (by decide)
          · have et : ks.take (i + 1) = ks.take i ++ [ks[i]] := by
              rw [List.take_succ, hki]
              rfl
            rw [upd2, et, List.map_append]
            rfl
      · rintro _ rfl
        rw [kvl, List.take_of_length_le (Nat.le_refl _)]
        refine ⟨by rw [upd_ne (Ne.symm hDp), upd_same], ?_⟩
        have eE : upd (upd (upd (upd H1 p (.dK (kvT ks))) p (.frz od (.dK (kvT ks)))) Dd (.lst (ks.map V.int))) p (.dK (kvT ks)) = upd (upd H1 p (.dK (kvT ks))) Dd (.lst (ks.map V.int)) := by
          rw [updC (Ne.symm hDp).symm, upd2, upd2]
        rw [eE]
        refine ⟨Dd, ks, rfl, .inl (.inl upd_same), fun ns' qq hpm hpw hq => ?_⟩
        have en := sortI_uniq hpm hpw
        subst en
        have hD' : upd H1 p (.dK (kvT ks)) Dd = none := by
          rw [upd_ne hDp] at hD ⊢
          exact hD
        obtain ⟨R2, e2⟩ := (Rp (.dK (kvT ks))).out hD' (.lst (ks.map V.int))
        obtain ⟨R3, e3⟩ := R2.new hq (.lst ((sortI ks).map V.int))
        refine hp' α1 _ _ (.ref qq) (((((e0.trans ex).patch hz (.dK (kvT ks))).trans e2)).trans e3) R3 (rep_lst upd_same (repL_intsW (sortI ks)))
end
end Q
namespace L2
open PySem PySem.Spec PyProof.Rows
section
variable {X : Cx}
def rSortedPP (K : PySem.W.Frag) : List V → Hp → VK → Prop := fun vs H Q => ∃ (a : Addr) (ks : List (Addr × Int × Int)), vs = [V.ref a] ∧ SqL K H a (ks.map fun p => V.ref p.1) ∧ (∀ p ∈ ks, SqT K H p.1 [.int p.2.1, .int p.2.2]) ∧
  ∀ (L : List (Addr × Int × Int)) (p : Addr), L.Perm ks → L.Pairwise (fun p q => p.2.1 < q.2.1 ∨ (p.2.1 = q.2.1 ∧ p.2.2 ≤ q.2.2)) → H p = none → Q (.ref p) (upd H p (.lst (L.map fun p => V.ref p.1)))
theorem cr_sortedPP : CallR X (.builtin "sorted") (rSortedPP X.K) := by
  intro pins s σ H vs us Q I r h
  obtain ⟨a, ks, rfl, hl, hk, q⟩ := h
  obtain rfl := Vals.ref1 r
  obtain ⟨its, rv, pl, hz⟩ := I.list hl
  obtain rfl := vrefs rv
  have at_ : ∀ p ∈ ks, Srt.IsPair s.heap (.ref p.1) p.2.1 p.2.2 ∧ pairAt s.heap (.ref p.1) = p.2 := fun p hp => by
    obtain ⟨us, r2, ⟨o, ho, hc, n, hd⟩, _⟩ := I.tuple (hk p hp)
    obtain ⟨u1, u2, rfl, ri, rj⟩ := vals2 r2
    obtain ⟨t1, rfl⟩ := ri
    obtain ⟨t2, rfl⟩ := rj
    refine ⟨⟨_, o, t1, t2, n, rfl, ho, hc, hd⟩, ?_⟩
    have ti : TS.TupInts s.heap (.ref p.1) [p.2.1, p.2.2] := ⟨p.1, _, rfl, ⟨o, ho, hc, n, hd⟩, .cons _ _ (.cons _ _ .nil)⟩
    unfold pairAt
    rw [ti.ints]
    rfl
  have mem : ∀ v ∈ ks.map (fun p => Value.ref p.1), Srt.IsPair s.heap v (pairAt s.heap v).1 (pairAt s.heap v).2 := fun v hv => by
    obtain ⟨p, hp, rfl⟩ := List.mem_map.mp hv
    have z := at_ p hp
    rw [z.2]
    exact z.1
  have hz2 : (ks.map fun p => Value.ref p.1).length ≤ sizeLine := by simpa using hz
  refine SrtO.sorted_pairsO (k := pairAt s.heap) pl.isList hz2 mem fun h' d out h1 h2 kp hd hn => ?_
  obtain ⟨n, hn⟩ := hn
  obtain ⟨L, pL, rfl⟩ := perm_of_map h2.perm ks rfl
  have hlen : (L.map fun p => V.ref p.1).length ≤ sizeLine := by
    rw [List.length_map, pL.length_eq]
    simpa using hz
  refine ⟨.ref d, upd H d (.lst (L.map fun p => V.ref p.1)), I.laid kp hd ⟨hlen, _, n, refsv L, hn⟩, rfl, q _ _ pL ?_ (I.hok.fresh hd)⟩
  have pw : (L.map fun p => Value.ref p.1).Pairwise fun x y => SrtO.lexB (pairAt s.heap y) (pairAt s.heap x) = false := h1
  rw [List.pairwise_map] at pw
  refine pw.imp_of_mem fun {x y} hx hy hxy => ?_
  rw [(at_ x (pL.subset hx)).2, (at_ y (pL.subset hy)).2, SrtO.lexB_no] at hxy
  by_cases e : x.2.1 = y.2.1
  · right; omega
  · left; omega
end
end L2
namespace Q
open PySem L2
def insP (x : Int × Int) : List (Int × Int) → List (Int × Int)
  | [] => [x]
  | y :: ys => if ple x y then x :: y :: ys else y :: insP x ys
/-- ascending, each as often as it stands there -/
def sortP : List (Int × Int) → List (Int × Int)
  | [] => []
  | x :: xs => insP x (sortP xs)
theorem insP_perm (x : Int × Int) : ∀ ys : List (Int × Int), (insP x ys).Perm (x :: ys)
  | [] => List.Perm.refl _
  | y :: ys => by
    unfold insP
    split
    · exact List.Perm.refl _
    · exact ((insP_perm x ys).cons y).trans (List.Perm.swap x y ys)
theorem sortP_perm : ∀ xs : List (Int × Int), (sortP xs).Perm xs
  | [] => List.Perm.refl _
  | x :: xs => (insP_perm x _).trans ((sortP_perm xs).cons x)
theorem insP_up {x : Int × Int} : ∀ {ys : List (Int × Int)}, ys.Pairwise ple → (insP x ys).Pairwise ple
  | [], _ => by simp [insP]
  | y :: ys, h => by
    have h' := List.pairwise_cons.mp h
    unfold insP
    split
    · rename_i hle
      refine List.pairwise_cons.mpr ⟨fun z hz => ?_, h⟩
      rcases List.mem_cons.mp hz with rfl | m
      · exact hle
      · exact ple_trans hle (h'.1 z m)
    · rename_i hle
      refine List.pairwise_cons.mpr ⟨fun z hz => ?_, insP_up h'.2⟩
      rcases List.mem_cons.mp ((insP_perm x ys).mem_iff.mp hz) with rfl | m
      · exact ple_tot hle
      · exact h'.1 z m
theorem sortP_up : ∀ xs : List (Int × Int), (sortP xs).Pairwise ple
  | [] => by simp [sortP]
  | x :: xs => insP_up (sortP_up xs)
theorem sortP_uniq {xs ys : List (Int × Int)} (hp : ys.Perm xs) (hu : ys.Pairwise ple) : ys = sortP xs :=
  List.Perm.eq_of_pairwise (le := ple) (fun a b _ _ h1 h2 => ple_anti h1 h2) hu (sortP_up xs) (hp.trans (sortP_perm xs).symm)
def intsQ : List D → Option (List Int)
  | [] => some []
  | .int i :: ds => (intsQ ds).map (i :: ·)
  | _ :: _ => none
theorem intsQ_map : ∀ {xs : List D} {ns : List Int}, intsQ xs = some ns → xs = ns.map .int
  | [], ns, h => by simp [intsQ] at h; subst h; rfl
  | d :: ds, ns, h => by
    unfold intsQ at h
    split at h
    · rename_i e; cases e
    · rename_i i ds' e
      cases e
      cases q : intsQ ds with
      | none => rw [q] at h; cases h
      | some qs =>
        rw [q] at h
        cases h
        rw [intsQ_map q]
        rfl
    · cases h
def skX (xs : List D) : Option (List D) := match intsQ xs with
  | some ns => some ((sortI ns).map .int)
  | none => (pairsQ xs).map fun ps => (sortP ps).map pairD
def skK (d : D) (S : Store) : Res D := match (rdL S d).bind skX with
  | some ys => .ok (.lst ys) S
  | none => .no
def skC (d : D) (S : Store) : Res D := match (rdL S d).bind skX with
  | some ys => .ok (.ref S.length) (S ++ [.lst ys])
  | none => .no
def mSortC (m : ME) : ME := fun ρ S => (m ρ S).bind skC
def mSortL (m : ME) : ME := fun ρ S => (m ρ S).bind skK
/-- cell.extend(e) -/
def extTo (k : Nat) (d : D) (S : Store) : Res D := match S[k]?, lstOf S d with
  | some (.lst xs), some ys => if xs.length + ys.length ≤ 100000 then .ok .non (S.set k (.lst (xs ++ ys))) else .no
  | _, _ => .no
def mExt (mo m : ME) : ME := fun ρ S => (mo ρ S).bind fun o S1 => match o with
  | .ref k => if notOb S1 k = true then (m ρ S1).bind fun d S2 => extTo k d S2 else .no
  | _ => .no
theorem ints_vals {Γ : Gm} {α : List Addr} {G : Hp} : ∀ {ns : List Int} {vs : List V}, RepL Γ α G (ns.map .int) vs → vs = ns.map .int
  | [], vs, h => by simpa [RepL] using h
  | n :: ns, vs, h => by
    rw [List.map_cons] at h
    unfold RepL at h
    obtain ⟨v, r, rfl, h1, h2⟩ := h
    simp only [Rep] at h1
    subst h1
    rw [ints_vals h2]
    rfl
theorem pairs_vals {Γ : Gm} {α : List Addr} {G : Hp} : ∀ {ps : List (Int × Int)} {vs : List V}, RepL Γ α G (ps.map fun p => .tup [.int p.1, .int p.2]) vs → ∃ ks : List (Addr × Int × Int), vs = ks.map (fun p => V.ref p.1) ∧ ks.map (·.2) = ps ∧ ∀ p ∈ ks, G p.1 = some (.tup [.int p.2.1, .int p.2.2])
  | [], vs, h => ⟨[], by simpa [RepL] using h, rfl, by simp⟩
  | p :: ps, vs, h => by
    rw [List.map_cons] at h
    unfold RepL at h
    obtain ⟨v, r, rfl, h1, h2⟩ := h
    obtain ⟨ks, rfl, e, hk⟩ := pairs_vals h2
    unfold Rep at h1
    obtain ⟨t, ws, rfl, q, rW⟩ := h1
    simp only [RepL, Rep] at rW
    obtain ⟨_, _, rfl, rfl, _, _, rfl, rfl, rfl⟩ := rW
    refine ⟨(t, p) :: ks, rfl, by rw [List.map_cons, e], fun z hz => ?_⟩
    rcases List.mem_cons.mp hz with rfl | m
    · exact q
    · exact hk z m
section
variable {X : Cx} {cl : Nat → Addr} {E : XK} {e : Expr} {m : ME} {pos : Pos}
theorem sk_core {Γ : Gm} {α : List Addr} {G H : Hp} {S : Store} {d : D} {v : V} {ys : List D} {Q : VK} (R1 : Rl Γ α G S H) (r1 : Rep Γ α G d v) (h : (rdL S d).bind skX = some ys)
    (k : ∀ us q, H q = none → RepL Γ α G ys us → Q (.ref q) (upd H q (.lst us))) : rSortedI Γ.K [v] H Q ∨ rSortedPP Γ.K [v] H Q := by
  cases hx : rdL S d with
  | none => rw [hx] at h; cases h
  | some xs =>
    rw [hx] at h
    have h : skX xs = some ys := h
    obtain ⟨a, vs, rfl, hs, rL⟩ := rdL_at R1 r1 hx
    unfold skX at h
    cases hn : intsQ xs with
    | some ns =>
      rw [hn] at h
      cases h
      have := intsQ_map hn
      subst this
      have := ints_vals rL
      subst this
      refine .inl ⟨a, ns, rfl, hs, fun ns' q hpm hpw hq => ?_⟩
      have en := sortI_uniq hpm hpw
      subst en
      exact k _ q hq (repL_intsW _)
    | none =>
      rw [hn] at h
      cases hps : pairsQ xs with
      | none => rw [hps] at h; cases h
      | some ps =>
        rw [hps] at h
        cases h
        have := pairsQ_map hps
        subst this
        obtain ⟨ks, rfl, ek, hk⟩ := pairs_vals rL
        refine .inr ⟨a, ks, rfl, hs, fun p hp => .inl (.inl (R1.sub _ _ (hk p hp))), fun L b pm pw hb => ?_⟩
        have eL : L.map (·.2) = sortP ps := by
          refine sortP_uniq ?_ ?_
          · rw [← ek]; exact pm.map (·.2)
          · rw [List.pairwise_map]
            exact pw.imp fun {a b} h => h
        refine k _ b hb ?_
        show RepL Γ α G ((sortP ps).map pairD) _
        rw [← eL]
        have sq : ∀ p ∈ L, G p.1 = some (.tup [.int p.2.1, .int p.2.2]) := fun p hp => hk p (pm.subset hp)
        have go : ∀ L : List (Addr × Int × Int), (∀ p ∈ L, G p.1 = some (.tup [.int p.2.1, .int p.2.2])) → RepL Γ α G ((L.map (·.2)).map pairD) (L.map fun p => V.ref p.1) := fun L => by
          induction L with
          | nil => intro _; simp [RepL]
          | cons p L ih =>
            intro hs
            rw [List.map_cons, List.map_cons, List.map_cons]
            unfold RepL
            refine ⟨_, _, rfl, ?_, ih (fun q hq => hs q (by simp [hq]))⟩
            unfold pairD Rep
            exact ⟨p.1, [V.int p.2.1, V.int p.2.2], rfl, hs p (by simp), by simp [RepL, Rep]⟩
        exact go L sq
theorem q_sortL {p : Pos} (h : QE X cl E e m) (hg : Gl X "sorted") (hm : X.mg "sorted" = none)
    (he0 : starEach [e] X.env = (false, eval e X.env) :: starEach [] X.env := by rfl) (hpl : (backTo pos (starEach [] X.env)).any (·.1) = false := by rfl) :
    QE X cl E (.Call (.Name "sorted" p) [e] [] pos) (mSortL m) := by
  obtain ⟨t, h1, h2⟩ := h.ex
  refine ⟨_, pe_callB (CallR.or cr_sortedI cr_sortedPP) hg hm rfl (pa_cons h1 pa_nil he0) (by decide) (by decide) he0 hpl, fun ρ S σ α G H Q hρ hR hp => ?_⟩
  refine h2 ρ S σ α G H _ hρ hR (post_bind hp fun d S1 α1 G1 H1 v _ e1 R1 r1 hp1 => ?_)
  unfold skK at hp1
  split at hp1
  case h_2 => exact hp1.elim
  rename_i ys hy
  exact sk_core (Γ := ⟨X.K, cl⟩) R1 r1 hy fun us q hq ru => post_lst R1 ru hp1 hq
/-- sorted(e) as a new cell -/
theorem q_sortC {p : Pos} (h : QE X cl E e m) (hg : Gl X "sorted") (hm : X.mg "sorted" = none)
    (he0 : starEach [e] X.env = (false, eval e X.env) :: starEach [] X.env := by rfl) (hpl : (backTo pos (starEach [] X.env)).any (·.1) = false := by rfl) :
    QE X cl E (.Call (.Name "sorted" p) [e] [] pos) (mSortC m) := by
  obtain ⟨t, h1, h2⟩ := h.ex
  refine ⟨_, pe_callB (CallR.or cr_sortedI cr_sortedPP) hg hm rfl (pa_cons h1 pa_nil he0) (by decide) (by decide) he0 hpl, fun ρ S σ α G H Q hρ hR hp => ?_⟩
  refine h2 ρ S σ α G H _ hρ hR (post_bind hp fun d S1 α1 G1 H1 v _ e1 R1 r1 hp1 => ?_)
  unfold skC at hp1
  split at hp1
  case h_2 => exact hp1.elim
  rename_i ys hy
  exact sk_core (Γ := ⟨X.K, cl⟩) R1 r1 hy fun us q hq ru => post_cell R1 ru hp1 hq
theorem q_ext {o : Expr} {mo : ME} {apos cpos : Pos} (ho : QE X cl E o mo) (he : QE X cl E e m) (hbase : attributeBase o "extend" X.env (eval o X.env) = eval o X.env := by rfl)
    (hfew : ((backTo cpos (starEach [e] X.env)).all (fun x => !x.1) && (backToKw cpos (keywordEach [] X.env)).all (fun x => x.1.isSome)
      && decide (([e] : List Expr).length + ([] : List Keyword).length + (if ([] : List Keyword).isEmpty then 0 else 1) < 30)) = true := by rfl)
    (hline : (apos.endLine == cpos.line) = true := by rfl) (hs : starEach [e] X.env = (false, eval e X.env) :: starEach [] X.env := by rfl) (hplain : (backTo cpos (starEach [] X.env)).any (·.1) = false := by rfl) :
    QE X cl E (.Call (.Attribute o "extend" apos) [e] [] cpos) (mExt mo m) := by
  obtain ⟨t, h1, h2⟩ := ho.ex
  obtain ⟨u, k1, k2⟩ := he.ex
  refine ⟨_, pe_bm PySem.F.plainAttrs_list PySem.F.slot_list_extend PySem.F.type_list_extend mt_extend h1 (pa_cons k1 pa_nil hs) hbase hfew hline hs hplain, fun ρ S σ α G H Q hρ hR hp => ?_⟩
  refine h2 ρ S σ α G H _ hρ hR (post_bind hp fun od S1 α1 G1 H1 ov q1 e1 R1 r1 hp1 => ?_)
  clear q1
  cases od <;> try exact hp1.elim
  rename_i kk
  dsimp only at hp1
  split at hp1
  case isFalse => exact hp1.elim
  rename_i hno
  obtain ⟨p, rfl, ha1, htv⟩ := listy R1 r1 hno
  refine ⟨htv, ?_⟩
  refine k2 ρ S1 σ α1 G1 H1 _ (hρ.mono e1) R1 (post_bind hp1 fun d S2 α2 G2 H2 v q2 e2 R2 r2 hp2 => ?_)
  have hp' : α2[kk]? = some p := by
    obtain ⟨β, rfl⟩ := e2.pre
    rw [List.getElem?_append_left (List.getElem?_eq_some_iff.mp ha1).1]
    exact ha1
  unfold extTo at hp2
  split at hp2
  case h_2 => exact hp2.elim
  rename_i xs ys hc hy
  split at hp2
  case isFalse => exact hp2.elim
  rename_i hl
  obtain ⟨b, ws, rfl, hb, rw'⟩ := lstOf_at R2 r2 hy
  obtain ⟨vs, q1, q2', q3⟩ := (R2.ok kk _ p hc hp').lst
  obtain ⟨R3, e3⟩ := R2.put hc hp' (q2'.append rw')
  exact ⟨p, b, vs, ws, rfl, rfl, q1, hb, by rw [← q2'.length, ← rw'.length]; exact sz hl, hp2 _ _ _ .non e3 R3 (by simp [Rep])⟩
end
section
variable {S : Store} {ρ : Env}
@[simp] theorem ap_sortL (m : ME) : mSortL m ρ S = (m ρ S).bind skK := (Eq.refl _).trans rfl
theorem intsQ_ints : ∀ ns : List Int, intsQ (ns.map .int) = some ns
  | [] => rfl
  | n :: ns => by rw [List.map_cons, intsQ, intsQ_ints ns]; rfl
theorem pairsQ_pairs : ∀ ps : List (Int × Int), pairsQ (ps.map pairD) = some ps
  | [] => rfl
  | p :: ps => by
    rw [List.map_cons]
    unfold pairD
    rw [pairsQ]
    have := pairsQ_pairs ps
    unfold pairD at this
    rw [this]
    rfl
theorem skX_ints (ns : List Int) : skX (ns.map .int) = some ((sortI ns).map .int) := by
  unfold skX
  rw [intsQ_ints]
theorem skX_pairs (ps : List (Int × Int)) : skX (ps.map pairD) = some ((sortP ps).map pairD) := by
  unfold skX
  cases ps with
  | nil => rfl
  | cons p ps =>
    have : intsQ ((p :: ps).map pairD) = none := rfl
    rw [this, pairsQ_pairs]
    rfl
@[simp] theorem ap_sortC (m : ME) : mSortC m ρ S = (m ρ S).bind skC := (Eq.refl _).trans rfl
theorem skK_ints {d : D} {ns : List Int} (h : rdL S d = some (ns.map .int)) : skK d S = .ok (.lst ((sortI ns).map .int)) S := by
  unfold skK
  rw [h, Option.bind_some, skX_ints]
theorem skK_pairs {d : D} {ps : List (Int × Int)} (h : rdL S d = some (ps.map pairD)) : skK d S = .ok (.lst ((sortP ps).map pairD)) S := by
  unfold skK
  rw [h, Option.bind_some, skX_pairs]
theorem skC_pairs {d : D} {ps : List (Int × Int)} (h : rdL S d = some (ps.map pairD)) : skC d S = .ok (.ref S.length) (S ++ [.lst ((sortP ps).map pairD)]) := by
  unfold skC
  rw [h, Option.bind_some, skX_pairs]
def extK (m : ME) (ρ : Env) (o : D) (S : Store) : Res D := match o with
  | .ref k => if notOb S k = true then (m ρ S).bind (extTo k) else .no
  | _ => .no
@[simp] theorem ap_ext (mo m : ME) : mExt mo m ρ S = (mo ρ S).bind (extK m ρ) := by
  unfold mExt
  congr 1
@[simp] theorem extK_ref (m : ME) (k : Nat) (h : notOb S k = true) : extK m ρ (.ref k) S = (m ρ S).bind (extTo k) := by show (if notOb S k = true then _ else _) = _; rw [if_pos h]
theorem extTo_ok {k : Nat} {d : D} {xs ys : List D} (h : S[k]? = some (.lst xs)) (hy : lstOf S d = some ys) (hl : xs.length + ys.length ≤ 100000) : extTo k d S = .ok .non (S.set k (.lst (xs ++ ys))) := by
  unfold extTo
  rw [h, hy]
  simp only [hl, if_true]
@[simp] theorem ap_pl (ip ifd b : Nat) (m : ME) : mPl ip ifd b m ρ S = if b < ρ.length then (match ρ[ip]? with
  | some (some (.int k)) => (m (ρ.set ifd none) S).bind (plR k)
  | _ => .no) else .no := rfl
theorem plR_ok {k : Int} {ps : List (Int × Int)} (h : ps.length ≤ 1000) : plR k (.lst (ps.map pairD)) S = .ok (.rt (.lst ((plK k ps).map .int))) S := by
  unfold plR
  simp only [pairsQ_pairs, h, if_true]
end
end Q
namespace L2
open PySem PySem.Spec PyProof.Rows
section
variable {prog : Program} {w : World} {A : Around} {E : Value → Shared → Prop} {s : Shared}
theorem adjust_back (n : Nat) : Builtin.Slice.sliceAdjust none none (-1) (n : Int) = ((n : Int) - 1, -1) := by
  simp [Builtin.Slice.sliceAdjust]
theorem places_back (n : Nat) : Builtin.Slice.slicePlaces ((n : Int) - 1) (-1) (-1) = n := by
  unfold Builtin.Slice.slicePlaces
  rw [if_neg (by decide)]
  by_cases h : n = 0
  · subst h; rfl
  · rw [if_pos (by omega), show (-(-1 : Int)) = 1 from rfl, Int.ediv_one]
    omega
theorem filterMap_cg {α β : Type} {f g : α → Option β} : ∀ l : List α, (∀ x ∈ l, f x = g x) → l.filterMap f = l.filterMap g
  | [], _ => rfl
  | x :: l, h => by rw [List.filterMap_cons, List.filterMap_cons, h x (by simp), filterMap_cg l fun y hy => h y (by simp [hy])]
theorem sliceApplied_back {sl : Addr} {vs : Value} {n : Nat} {Q : Int × Int × Nat → Shared → Prop} (hs : s.heap.IsSliceOf sl .none .none vs) (pv : IsPart vs (some (-1))) (h : Q ((n : Int) - 1, -1, n) s) :
    wpAny (model prog w) A (Builtin.Slice.sliceApplied (.ref sl) (pure (n : Int))) Q E s := by
  obtain ⟨os, hos, hcs, hds⟩ := hs
  refine wpAny_bind (wpAny_bind (wpAny_field hos hds rfl (wpAny_bind (wpAny_field hos hds rfl (wpAny_bind (wpAny_field hos hds rfl (wpAny_pure (wpAny_bind (HT.slicePart_ pv ?_)))))))))
  show wpAny _ _ (if ((-1 : Int) == 0) = true then _ else _) _ _ _
  rw [if_neg (by decide)]
  refine wpAny_bind (PyProof.Rows.slicePart_none (wpAny_bind (PyProof.Rows.slicePart_none (wpAny_bind (wpAny_pure ?_)))))
  show wpAny _ _ (match Builtin.Slice.sliceAdjust none none (-1) (n : Int) with | (lo, hi) => pure (lo, (-1 : Int), Builtin.Slice.slicePlaces lo hi (-1))) _ _ _
  rw [adjust_back]
  show wpAny _ _ (pure ((n : Int) - 1, (-1 : Int), Builtin.Slice.slicePlaces ((n : Int) - 1) (-1) (-1))) _ _ _
  rw [places_back]
  exact wpAny_pure h
theorem pick_back (xs : Array Value) : (List.filterMap (fun k : Nat => xs[((xs.size : Int) - 1 + (k : Int) * (-1)).toNat]?) (List.range xs.size)).toArray = xs.toList.reverse.toArray := by
  congr 1
  have e : List.filterMap (fun k : Nat => xs[((xs.size : Int) - 1 + (k : Int) * (-1)).toNat]?) (List.range xs.size) = List.filterMap (fun k : Nat => xs.toList.reverse[k]?) (List.range xs.size) := by
    refine filterMap_cg _ fun k hk => ?_
    have hk := List.mem_range.mp hk
    rw [List.getElem?_reverse (by simpa using hk)]
    rw [show ((xs.size : Int) - 1 + (k : Int) * (-1)).toNat = xs.size - 1 - k by omega]
    simp
  rw [e]
  have : xs.size = xs.toList.reverse.length := by simp
  rw [this]
  generalize xs.toList.reverse = ys
  induction ys with
  | nil => rfl
  | cons y ys ih =>
    rw [List.length_cons, List.range_succ_eq_map, List.filterMap_cons, List.filterMap_map]
    simp only [List.getElem?_cons_zero]
    congr 1
theorem getItem_tuple_back {t sl : Addr} {items : Array Value} {vs : Value} {Q : Value → Shared → Prop} (ht : IsTup s.heap t items) (hs : s.heap.IsSliceOf sl .none .none vs) (pv : IsPart vs (some (-1)))
    (h : Q (.ref s.heap.objs.size) { heap := s.heap.push { cls := .type "tuple", data := .seq items.toList.reverse.toArray }, gens := s.gens, drawn := s.drawn, toks := s.toks, os := s.os }) (hsz : items.size ≤ sizeLine) :
    wpAny (model prog w) A (getItem (.ref t) (.ref sl)) Q E s := by
  have hs' := hs
  obtain ⟨os, hos, hcs, hds⟩ := hs'
  have hT : s.TypeIs (.ref sl) "slice" := ⟨os, hos, hcs⟩
  refine wpAny_holding (wpAny_bind (wpAny_sequenceKey ht.typeIs (by decide) (wpAny_bind (wpAny_callSpecial?_slot ht.typeIs slot_tuple_getitem (wpAny_call_entry slot_tuple_getitem ht.typeIs entry_tuple_getitem ?_ (args_tuple_getitem _ _))))))
  show wpAny _ _ (Builtin.Tuple.tupleItemsOf (.ref t) >>= _) _ _ _
  refine wpAny_bind (tupleItemsOf_ ht (wpAny_bind (wpAny_typeOf hT ?_)))
  rw [if_pos (by decide)]
  refine wpAny_bind (sliceApplied_back hs pv ?_)
  show wpAny _ _ (if (((items.size : Int) - 1 == 0) && ((-1 : Int) == 1) && (items.size == items.size)) = true then _ else _) _ _ _
  rw [if_neg (by simp)]
  show wpAny _ _ (Builtin.Tuple.tupleExact _ >>= _) _ _ _
  rw [pick_back]
  refine wpAny_bind (wpAny_newObj_type ?_ (by show items.toList.reverse.toArray.size ≤ sizeLine; simpa using hsz))
  exact wpAny_pure ⟨_, rfl, wpAny_pure h⟩
end
def tRevT (K : PySem.W.Frag) (te : TE) : TE := fun σ H Q => te σ H fun x H1 => ∃ a xs, x = .ref a ∧ SqT K H1 a xs ∧ ∀ p, H1 p = none → Q (.ref p) (upd H1 p (.tup xs.reverse))
theorem pe_revT {X : Cx} {e : Expr} {te : TE} {k : Nat} {p1 p2 p3 pos : Pos} (he : PE X e te) : PE X (.Subscript e (.Slice none none (some (.UnaryOp .USub (.Constant (.int 1) k p1) p2)) p3) pos) (tRevT X.K te) := by
  refine ⟨fun pins s σ H Q I h => PyProof.Rows.Subscript_ (thn (he.run pins s σ H _ I h) ?_)⟩
  rintro v s1 ⟨x, H1, I1, r1, a, xs, rfl, hx, q⟩
  cases r1
  have hst := po_some (X := X) (pe_un un_neg (pe_int (X := X) (i := 1) (j := k) (pos := p1)) : PE X (.UnaryOp .USub (.Constant (.int 1) k p1) p2) _)
  refine wpAny_Slice (thn (po_none.run pins s1 σ H1 (fun o H2 => o = none ∧ H2 = H1) I1 ⟨rfl, rfl⟩) ?_)
  rintro vl s2 ⟨l, H2, I2, pl, rfl, rfl⟩
  refine thn (po_none.run pins s2 σ H2 (fun o H3 => o = none ∧ H3 = H2) I2 ⟨rfl, rfl⟩) ?_
  rintro vu s3 ⟨u, H3, I3, pu, rfl, rfl⟩
  refine thn (hst.run pins s3 σ H3 (fun o H4 => o = some (-1) ∧ H4 = H3) I3 ?_) ?_
  · exact ⟨1, rfl, -1, rfl, rfl, rfl⟩
  rintro vs s4 ⟨o, H4, I4, ps, rfl, rfl⟩
  cases pl
  cases pu
  have I5 := I4.kept (t' := s4.toks) (h' := s4.heap.push { cls := .type "slice", data := .fields #[Value.none, Value.none, vs] }) fun b ob q => Heap.get?_push_of_some _ q
  obtain ⟨its, r, ht, hz⟩ := I5.tuple hx
  refine tail_any ht.typeIs slot_tuple_getitem.lookup (getItem_tuple_back ht (Heap.IsSliceOf.new _ _ _ _) ps ?_ (by rw [List.size_toArray, r.length.symm]; exact hz)) rfl
  refine ⟨.ref _, upd H4 _ (.tup xs.reverse), I5.laid (fun b ob q => Heap.get?_push_of_some _ q) (Nat.le_refl _) ⟨by rw [List.length_reverse]; exact hz, its.reverse, r.reverse, ?_⟩, rfl, q _ (I5.hok.fresh (Nat.le_refl _))⟩
  exact IsTup.new _ _
end L2
namespace Q
open PySem L2
theorem PE.or {X : Cx} {e : Expr} {t u : TE} (h : PE X e t) (h' : PE X e u) : PE X e (fun σ H Q => t σ H Q ∨ u σ H Q) := ⟨fun pins s σ H Q I q => q.elim (fun q => h.run pins s σ H Q I q) (fun q => h'.run pins s σ H Q I q)⟩
theorem rep_rev {Γ : Gm} {α : List Addr} {G : Hp} : ∀ {ds : List D} {vs : List V}, RepL Γ α G ds vs → RepL Γ α G ds.reverse vs.reverse
  | [], vs, h => by
    have : vs = [] := by simpa [RepL] using h
    subst this
    simpa using h
  | d :: ds, vs, h => by
    unfold RepL at h
    obtain ⟨v, r, rfl, h1, h2⟩ := h
    rw [List.reverse_cons, List.reverse_cons]
    exact (rep_rev h2).append (show RepL Γ α G [d] [v] by unfold RepL; exact ⟨v, [], rfl, h1, by simp [RepL]⟩)
def revK (d : D) (S : Store) : Res D := match d with
  | .tup xs => .ok (.tup xs.reverse) S
  | .lst xs => .ok (.lst xs.reverse) S
  | _ => .no
def mRev (m : ME) : ME := fun ρ S => (m ρ S).bind revK
/-- what a star unpacks -/
def seqX (S : Store) : D → Option (List D)
  | .tup xs => some xs
  | d => rdL S d
def mStar (m : ME) (n : MA) : MA := fun ρ S => (m ρ S).bind fun d S1 => match seqX S1 d with
  | some xs => (n ρ S1).bind fun ys S2 => .ok (xs ++ ys) S2
  | none => .no
def popAt (k : Nat) (d : D) (S : Store) : Res D := match d, S[k]? with
  | .int i, some (.lst xs) => if 0 ≤ i ∧ i < 2 ^ 40 then (match xs[i.toNat]? with
    | some x => .ok x (S.set k (.lst (xs.eraseIdx i.toNat)))
    | none => .no) else .no
  | _, _ => .no
def mPopAt (mo m : ME) : ME := fun ρ S => (mo ρ S).bind fun o S1 => match o with
  | .ref k => if notOb S1 k = true then (m ρ S1).bind fun d S2 => popAt k d S2 else .no
  | _ => .no
def rangeC (i c : Int) (n : Nat) : List D := (List.range n).map fun (k : Nat) => .int (i + (k : Int) * c)
def mRange3 (m1 m2 m3 : ME) : MA := fun ρ S => (m1 ρ S).bind fun d1 S1 => (m2 ρ S1).bind fun d2 S2 => (m3 ρ S2).bind fun d3 S3 => match d1, d2, d3 with
  | .int i, .int j, .int c => if (0 ≤ i ∧ i < 2 ^ 40) ∧ (0 ≤ j ∧ j < 2 ^ 40) ∧ (0 < c ∧ c < 2 ^ 20) then .ok (rangeC i c (if i < j then ((j - i - 1) / c + 1).toNat else 0)) S3 else if (i.natAbs < 2 ^ 40 ∧ j.natAbs < 2 ^ 40) ∧ c = -1 then .ok (rangeC i (-1) (i - j).toNat) S3 else .no
  | _, _, _ => .no
section
variable {X : Cx} {cl : Nat → Addr} {E : XK} {e e1 e2 e3 : Expr} {m m1 m2 m3 : ME} {pos : Pos}
/-- a statement that is not reached -/
theorem qs_none {st : Stmt} : QS X cl E st (fun _ _ => .no) := ⟨⟨fun _ _ _ => False, ⟨fun _ _ _ _ _ _ h => h.elim⟩, fun _ _ _ _ _ _ _ _ _ hp => hp.elim⟩⟩
theorem q_rev {k : Nat} {p1 p2 p3 : Pos} (h : QE X cl E e m) : QE X cl E (.Subscript e (.Slice none none (some (.UnaryOp .USub (.Constant (.int 1) k p1) p2)) p3) pos) (mRev m) := by
  obtain ⟨t, h1, h2⟩ := h.ex
  refine ⟨_, PE.or (pe_revT h1) (pe_revL h1), fun ρ S σ α G H Q hρ hR hp => ?_⟩
  have tups : ∀ xs S', m ρ S = .ok (.tup xs) S' → tRevT X.K t σ H Q := fun xs S' q => by
    refine h2 ρ S σ α G H _ hρ hR (post_bind hp fun d S1 α1 G1 H1 v q1 e1 R1 r1 hp1 => ?_)
    rw [q] at q1
    cases q1
    obtain ⟨a, vs, rfl, q2, r2⟩ := tup_at R1 r1
    exact ⟨a, vs, rfl, q2, fun p hz => post_tup R1 (rep_rev r2) hp1 hz⟩
  have lists : ∀ xs S', m ρ S = .ok (.lst xs) S' → tRevL X.K t σ H Q := fun xs S' q => by
    refine h2 ρ S σ α G H _ hρ hR (post_bind hp fun d S1 α1 G1 H1 v q1 e1 R1 r1 hp1 => ?_)
    rw [q] at q1
    cases q1
    obtain ⟨a, vs, rfl, q2, r2⟩ := rdL_at R1 r1 (show rdL S' (.lst xs) = some xs from rfl)
    exact ⟨a, vs, rfl, q2, fun p hz => post_lst R1 (rep_rev r2) hp1 hz⟩
  cases q : m ρ S with
  | no => unfold mRev at hp; rw [q] at hp; exact hp.elim
  | ex e S' =>
    refine .inl (h2 ρ S σ α G H _ hρ hR ?_)
    unfold mRev at hp
    rw [q] at hp ⊢
    exact hp
  | ok d S' =>
    cases d with
    | tup xs => exact .inl (tups xs S' q)
    | lst xs => exact .inr (lists xs S' q)
    | _ => (unfold mRev at hp; rw [q] at hp; exact hp.elim)
theorem seqX_at {Γ : Gm} {α : List Addr} {G H : Hp} {S : Store} (R : Rl Γ α G S H) {d : D} {v : V} {xs : List D} (r : Rep Γ α G d v) (h : seqX S d = some xs) : ∃ a vs, v = .ref a ∧ (SqT Γ.K H a vs ∨ SqL Γ.K H a vs) ∧ RepL Γ α G xs vs := by
  have go : rdL S d = some xs → ∃ a vs, v = .ref a ∧ (SqT Γ.K H a vs ∨ SqL Γ.K H a vs) ∧ RepL Γ α G xs vs := fun h => by
    obtain ⟨a, vs, e, q, r⟩ := rdL_at R r h
    exact ⟨a, vs, e, .inr q, r⟩
  cases d with
  | tup ys =>
    have e : ys = xs := Option.some.inj h
    subst e
    obtain ⟨a, vs, rfl, q, r⟩ := tup_at R r
    exact ⟨a, vs, rfl, .inl q, r⟩
  | _ => exact go h
theorem q_star {es : List Expr} {n : MA} {p : Pos} (h : QE X cl E e m) (k : QA X cl E es n) (hs : starEach (.Starred e p :: es) X.env = (true, eval e X.env) :: starEach es X.env := by rfl) : QA X cl E (.Starred e p :: es) (mStar m n) := by
  obtain ⟨t, h1, h2⟩ := h.ex
  obtain ⟨u, k1, k2⟩ := k.ex
  refine ⟨_, StX.pa_star h1 k1 hs, fun ρ S σ α G H Q hρ hR hp => ?_⟩
  refine h2 ρ S σ α G H _ hρ hR (post_bind hp fun d S1 α1 G1 H1 v q1 e1 R1 r1 hp1 => ?_)
  clear q1
  split at hp1
  case h_2 => exact hp1.elim
  rename_i xs hx
  obtain ⟨a, vs, rfl, q, rL⟩ := seqX_at R1 r1 hx
  refine ⟨a, vs, rfl, q, k2 ρ S1 σ α1 G1 H1 _ (hρ.mono e1) R1 (post_bind hp1 fun ys S2 α2 G2 H2 ws q2 e2 R2 r2 hp2 => ?_)⟩
  exact post_ok hp2 R2 ((RepL.mono e2.pre e2.sub _ _ rL).append r2)
theorem erase_rep {Γ : Gm} {α : List Addr} {G : Hp} : ∀ (i : Nat) {ds : List D} {vs : List V}, RepL Γ α G ds vs → RepL Γ α G (ds.eraseIdx i) (vs.eraseIdx i)
  | i, [], vs, h => by
    have : vs = [] := by simpa [RepL] using h
    subst this
    simpa using h
  | 0, d :: ds, vs, h => by
    unfold RepL at h
    obtain ⟨v, r, rfl, h1, h2⟩ := h
    exact h2
  | i + 1, d :: ds, vs, h => by
    unfold RepL at h
    obtain ⟨v, r, rfl, h1, h2⟩ := h
    rw [List.eraseIdx_cons_succ, List.eraseIdx_cons_succ]
    unfold RepL
    exact ⟨v, _, rfl, h1, erase_rep i h2⟩
theorem seqIx (i : Int) (n : Nat) (h0 : 0 ≤ i) (h1 : i < n) : seqIndex? i n = some i.toNat := by
  unfold seqIndex?
  simp
  omega
theorem q_popAt {o : Expr} {mo : ME} {apos cpos : Pos} (ho : QE X cl E o mo) (he : QE X cl E e m) (hbase : attributeBase o "pop" X.env (eval o X.env) = eval o X.env := by rfl)
    (hfew : ((backTo cpos (starEach [e] X.env)).all (fun x => !x.1) && (backToKw cpos (keywordEach [] X.env)).all (fun x => x.1.isSome)
      && decide (([e] : List Expr).length + ([] : List Keyword).length + (if ([] : List Keyword).isEmpty then 0 else 1) < 30)) = true := by rfl)
    (hline : (apos.endLine == cpos.line) = true := by rfl) (hs : starEach [e] X.env = (false, eval e X.env) :: starEach [] X.env := by rfl) (hplain : (backTo cpos (starEach [] X.env)).any (·.1) = false := by rfl) :
    QE X cl E (.Call (.Attribute o "pop" apos) [e] [] cpos) (mPopAt mo m) := by
  obtain ⟨t, h1, h2⟩ := ho.ex
  obtain ⟨u, k1, k2⟩ := he.ex
  refine ⟨_, pe_bm PySem.F.plainAttrs_list PySem.F.slot_list_pop PySem.F.type_list_pop mt_popAt h1 (pa_cons k1 pa_nil hs) hbase hfew hline hs hplain, fun ρ S σ α G H Q hρ hR hp => ?_⟩
  refine h2 ρ S σ α G H _ hρ hR (post_bind hp fun od S1 α1 G1 H1 ov q1 e1 R1 r1 hp1 => ?_)
  clear q1
  cases od <;> try exact hp1.elim
  rename_i kk
  dsimp only at hp1
  split at hp1
  case isFalse => exact hp1.elim
  rename_i hno
  obtain ⟨p, rfl, ha1, htv⟩ := listy R1 r1 hno
  refine ⟨htv, ?_⟩
  refine k2 ρ S1 σ α1 G1 H1 _ (hρ.mono e1) R1 (post_bind hp1 fun d S2 α2 G2 H2 v q2 e2 R2 r2 hp2 => ?_)
  have hp' : α2[kk]? = some p := by
    obtain ⟨β, rfl⟩ := e2.pre
    rw [List.getElem?_append_left (List.getElem?_eq_some_iff.mp ha1).1]
    exact ha1
  unfold popAt at hp2
  split at hp2
  case h_2 => exact hp2.elim
  rename_i i xs hc
  split at hp2
  case isFalse => exact hp2.elim
  rename_i hi
  split at hp2
  case h_2 => exact hp2.elim
  rename_i x hx
  simp only [Rep] at r2
  subst r2
  obtain ⟨vs, a1, a2, a3⟩ := (R2.ok kk _ p hc hp').lst
  obtain ⟨y, hy, ry⟩ := a2.get hx
  have hl : i.toNat < xs.length := (List.getElem?_eq_some_iff.mp hx).1
  obtain ⟨R3, e3⟩ := R2.put hc hp' (erase_rep i.toNat a2)
  refine ⟨p, vs, i, i.toNat, y, rfl, rfl, a1, ?_, ?_, seqIx i vs.length hi.1 (by rw [← a2.length]; omega), hy, hp2 _ _ _ y e3 R3 (Rep.mono e3.pre e3.sub _ _ ry)⟩
  · have : -((2 : Int) ^ 63) ≤ 0 := by decide
    omega
  · have : (2 : Int) ^ 40 < 2 ^ 63 := by decide
    omega
theorem steps_rangeC {Γ : Gm} {α : List Addr} {G : Hp} (lo c : Int) (k : Nat) : Steps Γ α G (rangeC lo c k) (Itc lo c k) := fun i α2 G2 H2 S2 hp hs R2 => by
  refine ⟨fun hl => (by simpa [rangeC] using hl : k ≤ i), fun d hd => ?_⟩
  unfold rangeC at hd
  rw [List.getElem?_map] at hd
  cases q : (List.range k)[i]? with
  | none => simp [q] at hd
  | some j =>
    simp only [q, Option.map_some, Option.some.injEq] at hd
    obtain ⟨h1, h2⟩ := List.getElem?_eq_some_iff.mp q
    simp at h1 h2
    subst h2
    refine ⟨h1, fun x H3 hy => ?_⟩
    obtain ⟨rfl, rfl⟩ := hy
    exact ⟨G2, R2, Ext.refl _ _ _, by subst hd; simp [Rep]⟩
theorem rgC {i j c : Int} (hi : 0 ≤ i ∧ i < 2 ^ 40) (hj : 0 ≤ j ∧ j < 2 ^ 40) (hc : 0 < c ∧ c < 2 ^ 20) : RgC i j c (if i < j then ((j - i - 1) / c + 1).toNat else 0) := by
  have q : ∀ x : Int, -(2 ^ 50) < x → x < 2 ^ 50 → Builtin.Range.rangeFitsLong x = true := fun x a b => by
    have e1 : (2 : Int) ^ 50 < 2 ^ 63 := by decide
    unfold Builtin.Range.rangeFitsLong
    simp
    omega
  have s0 : Builtin.Range.rangeSize i j c = (((if i < j then ((j - i - 1) / c + 1).toNat else 0 : Nat)) : Int) := by
    unfold Builtin.Range.rangeSize
    rw [if_pos (by omega)]
    split
    · have : 0 ≤ (j - i - 1) / c := Int.ediv_nonneg (by omega) (by omega)
      omega
    · rfl
  have s1 : 0 ≤ Builtin.Range.rangeSize i j c ∧ Builtin.Range.rangeSize i j c < 2 ^ 41 := by
    unfold Builtin.Range.rangeSize
    rw [if_pos (by omega)]
    split
    · have h1 : 0 ≤ (j - i - 1) / c := Int.ediv_nonneg (by omega) (by omega)
      have h2 : (j - i - 1) / c ≤ j - i - 1 := Int.ediv_le_self _ (by omega)
      omega
    · omega
  refine ⟨by omega, by omega, ?_, s0⟩
  unfold Builtin.Range.small
  rw [q i (by omega) (by omega), q j (by omega) (by omega), q c (by omega) (by omega), q _ (by omega) (by omega), if_pos (by omega), q (j + (c - 1)) (by omega) (by omega)]
  simp
theorem qi_range3 {tg : Expr} {p : Pos} (h : QE X cl E e1 m1) (h' : QE X cl E e2 m2) (h'' : QE X cl E e3 m3) (hg : Gl X "range") (hm : X.mg "range" = none) (hs : starEach [e1, e2, e3] X.env = (false, eval e1 X.env) :: starEach [e2, e3] X.env := by rfl)
    (hs2 : starEach [e2, e3] X.env = (false, eval e2 X.env) :: starEach [e3] X.env := by rfl) (hs3 : starEach [e3] X.env = (false, eval e3 X.env) :: starEach [] X.env := by rfl) (hpl : ((backTo pos (starEach [e2, e3] X.env)).any fun x => x.1) = false := by rfl) : QI X cl E tg (.Call (.Name "range" p) [e1, e2, e3] [] pos) (mRange3 m1 m2 m3) := by
  obtain ⟨t, a1, a2⟩ := h.ex
  obtain ⟨u, b1, b2⟩ := h'.ex
  obtain ⟨x, c1, c2⟩ := h''.ex
  refine ⟨_, pi_range3 hg hm (pa_cons a1 (pa_cons b1 (pa_cons c1 pa_nil hs3) hs2) hs) hs hpl, fun ρ S σ α G H R hρ hR hp => a2 ρ S σ α G H _ hρ hR (posti_bind hp fun d1 S1 α1 G1 H1 v1 q1 e1 R1 r1 hp1 => ?_)⟩
  refine b2 ρ S1 σ α1 G1 H1 _ (hρ.mono e1) R1 (posti_bind hp1 fun d2 S2 α2 G2 H2 v2 q2 e2 R2 r2 hp2 => ?_)
  refine c2 ρ S2 σ α2 G2 H2 _ ((hρ.mono e1).mono e2) R2 (posti_bind hp2 fun d3 S3 α3 G3 H3 v3 q3 e3 R3 r3 hp3 => ?_)
  clear q1 q2 q3
  cases d1 <;> cases d2 <;> cases d3 <;> try exact hp3.elim
  rename_i i j c
  simp only at hp3
  simp only [Rep] at r1 r2 r3
  subst r1 r2 r3
  split at hp3
  · rename_i hb
    exact ⟨i, j, c, _, rfl, rgC hb.1 hb.2.1 hb.2.2, hp3 α3 G3 H3 _ (Ext.refl _ _ _) R3 (steps_rangeC i c _)⟩
  · split at hp3
    · rename_i hb
      obtain ⟨⟨h1, h2⟩, rfl⟩ := hb
      have z : (2 : Nat) ^ 40 < 2 ^ 62 := by decide
      have z2 : (2 : Int) ^ 40 < 2 ^ 62 := by decide
      exact ⟨i, j, -1, _, rfl, RgC.neg (by omega) (by omega) (by omega) (by omega), hp3 α3 G3 H3 _ (Ext.refl _ _ _) R3 (steps_rangeC i (-1) _)⟩
    · exact hp3.elim
end
section
variable {S : Store} {ρ : Env}
@[simp] theorem ap_rev (m : ME) : mRev m ρ S = (m ρ S).bind revK := (Eq.refl _).trans rfl
@[simp] theorem revK_tup (xs : List D) : revK (.tup xs) S = .ok (.tup xs.reverse) S := (Eq.refl _).trans rfl
@[simp] theorem revK_lst (xs : List D) : revK (.lst xs) S = .ok (.lst xs.reverse) S := (Eq.refl _).trans rfl
def starK2 (xs ys : List D) (S : Store) : Res (List D) := .ok (xs ++ ys) S
@[simp] theorem starK2_ap (xs ys : List D) : starK2 xs ys S = .ok (xs ++ ys) S := (Eq.refl _).trans rfl
def starK (n : MA) (ρ : Env) (d : D) (S : Store) : Res (List D) := match seqX S d with
  | some xs => (n ρ S).bind (starK2 xs)
  | none => .no
@[simp] theorem ap_star (m : ME) (n : MA) : mStar m n ρ S = (m ρ S).bind (starK n ρ) := (Eq.refl _).trans rfl
@[simp] theorem starK_tup (n : MA) (xs : List D) : starK n ρ (.tup xs) S = (n ρ S).bind (starK2 xs) := (Eq.refl _).trans rfl
@[simp] theorem starK_lst (n : MA) (xs : List D) : starK n ρ (.lst xs) S = (n ρ S).bind (starK2 xs) := (Eq.refl _).trans rfl
def popK (m : ME) (ρ : Env) (o : D) (S : Store) : Res D := match o with
  | .ref k => if notOb S k = true then (m ρ S).bind (popAt k) else .no
  | _ => .no
@[simp] theorem ap_popAt (mo m : ME) : mPopAt mo m ρ S = (mo ρ S).bind (popK m ρ) := (Eq.refl _).trans rfl
@[simp] theorem popK_ref (m : ME) (k : Nat) (h : notOb S k = true) : popK m ρ (.ref k) S = (m ρ S).bind (popAt k) := by show (if notOb S k = true then _ else _) = _; rw [if_pos h]
theorem popAt_ok {k : Nat} {xs : List D} {i : Int} {x : D} (h : S[k]? = some (.lst xs)) (h0 : 0 ≤ i ∧ i < 2 ^ 40) (hx : xs[i.toNat]? = some x) : popAt k (.int i) S = .ok x (S.set k (.lst (xs.eraseIdx i.toNat))) := by
  unfold popAt
  rw [h]
  simp only [if_pos h0, hx]
def r3K3 (d1 d2 d3 : D) (S : Store) : Res (List D) := match d1, d2, d3 with
  | .int i, .int j, .int c => if (0 ≤ i ∧ i < 2 ^ 40) ∧ (0 ≤ j ∧ j < 2 ^ 40) ∧ (0 < c ∧ c < 2 ^ 20) then .ok (rangeC i c (if i < j then ((j - i - 1) / c + 1).toNat else 0)) S else if (i.natAbs < 2 ^ 40 ∧ j.natAbs < 2 ^ 40) ∧ c = -1 then .ok (rangeC i (-1) (i - j).toNat) S else .no
  | _, _, _ => .no
def r3K2 (m3 : ME) (ρ : Env) (d1 d2 : D) (S : Store) : Res (List D) := (m3 ρ S).bind (r3K3 d1 d2)
@[simp] theorem r3K2_ap (m3 : ME) (d1 d2 : D) : r3K2 m3 ρ d1 d2 S = (m3 ρ S).bind (r3K3 d1 d2) := (Eq.refl _).trans rfl
def r3K1 (m2 m3 : ME) (ρ : Env) (d1 : D) (S : Store) : Res (List D) := (m2 ρ S).bind (r3K2 m3 ρ d1)
@[simp] theorem r3K1_ap (m2 m3 : ME) (d1 : D) : r3K1 m2 m3 ρ d1 S = (m2 ρ S).bind (r3K2 m3 ρ d1) := (Eq.refl _).trans rfl
@[simp] theorem ap_range3 (m1 m2 m3 : ME) : mRange3 m1 m2 m3 ρ S = (m1 ρ S).bind (r3K1 m2 m3 ρ) := (Eq.refl _).trans rfl
@[simp] theorem ap_none {β : Type} : (fun (_ : Env) (_ : Store) => (Res.no : Res β)) ρ S = .no := rfl
end
end Q
namespace Q
open PySem L2
def obOf (S : Store) (c : Nat) : D → Option (List (Option D))
  | .ref k => match S[k]? with
    | some (.ob c' fs) => if c' = c then some fs else none
    | _ => none
  | _ => none
theorem obOf_ref {S : Store} {k c : Nat} {fs : List (Option D)} (h : S[k]? = some (.ob c fs)) : obOf S c (.ref k) = some fs := by simp [obOf, h]
theorem obOf_at {Γ : Gm} {α : List Addr} {G H : Hp} {S : Store} {c : Nat} {d : D} {v : V} {fs : List (Option D)} (R : Rl Γ α G S H) (r : Rep Γ α G d v) (h : obOf S c d = some fs) :
    ∃ k a dx vs, d = .ref k ∧ S[k]? = some (.ob c fs) ∧ α[k]? = some a ∧ v = .ref a ∧ H a = some (SlX.SlO a (Γ.cl c) dx vs) ∧ G dx = some (.xd []) ∧ H dx = some (.xd []) ∧ RepO Γ α G fs vs := by
  cases d <;> try (simp [obOf] at h; done)
  rename_i k
  unfold Rep at r
  obtain ⟨a, rfl, ha⟩ := r
  unfold obOf at h
  cases q : S[k]? with
  | none => simp [q] at h
  | some cc =>
    cases cc <;> simp [q] at h
    rename_i c' fs'
    obtain ⟨rfl, rfl⟩ := h
    obtain ⟨o, ⟨dx, vs, e, hx, ro⟩, w⟩ := R.ok k _ a q ha
    subst e
    rcases w with ⟨_, w1, _⟩ | ⟨w, _⟩
    · exact ⟨k, a, dx, vs, rfl, q, ha, rfl, w1, hx, R.sub _ _ hx, ro⟩
    · cases w
def fldR (c i : Nat) (d : D) (S : Store) : Res D := match obOf S c d with
  | some fs => match fs[i]? with
    | some (some x) => .ok x S
    | _ => .no
  | none => .no
/-- o.f, the slot i of an instance that changes -/
def mFldR (c i : Nat) (m : ME) : ME := fun ρ S => (m ρ S).bind (fldR c i)
section
variable {X : Cx} {cl : Nat → Addr} {E : XK} {e : Expr} {m : ME} {f : Str} {pos : Pos}
theorem q_fldR (c i : Nat) {p : Addr} (h : QE X cl E e m) (hc : SlX.SCls X.K (cl c)) (hs : SlX.Slot1 X.K (cl c) f p i) (hb : attributeBase e f X.env (eval e X.env) = eval e X.env := by rfl) : QE X cl E (.Attribute e f pos) (mFldR c i m) := by
  obtain ⟨t, h1, h2⟩ := h.ex
  refine ⟨_, SlX.pe_sl h1 hb, fun ρ S σ α G H Q hρ hR hp => h2 ρ S σ α G H _ hρ hR (post_bind hp fun d S1 α1 G1 H1 v _ e1 R1 r1 hp1 => ?_)⟩
  unfold fldR at hp1
  cases q : obOf S1 c d with
  | none => rw [q] at hp1; exact hp1.elim
  | some fs =>
    rw [q] at hp1
    simp only at hp1
    split at hp1
    · rename_i x hx
      obtain ⟨k, a, dx, vs, rfl, hk, ha, rfl, hH, hG, hdx, ro⟩ := obOf_at R1 r1 q
      obtain ⟨w, hw, rw'⟩ := ro i x hx
      exact ⟨a, cl c, dx, p, vs, i, w, rfl, .inr ⟨hH, hdx⟩, hc, hs, hw, post_ok hp1 R1 rw'⟩
    · exact hp1.elim
end
def putO (i : Nat) (d : D) (fs : List (Option D)) : List (Option D) := (fs ++ List.replicate (i + 1 - fs.length) none).set i (some d)
theorem RepO.put {Γ : Gm} {α : List Addr} {G : Hp} {fs : List (Option D)} {vs : List (Option V)} (h : RepO Γ α G fs vs) (i : Nat) {d : D} {v : V} (r : Rep Γ α G d v) : RepO Γ α G (putO i d fs) (SlX.putS i v vs) := by
  intro j e he
  by_cases hj : j = i
  · subst hj
    refine ⟨v, SlX.putS_get j v vs, ?_⟩
    have : (putO j d fs)[j]? = some (some d) := by
      unfold putO
      exact List.getElem?_set_self (by simp only [List.length_append, List.length_replicate]; omega)
    rw [this] at he
    cases he
    exact r
  · have : fs[j]? = some (some e) := by
      unfold putO at he
      rw [List.getElem?_set_ne (Ne.symm hj)] at he
      by_cases hl : j < fs.length
      · rw [List.getElem?_append_left hl] at he
        exact he
      · rw [List.getElem?_append_right (by omega), List.getElem?_replicate] at he
        split at he <;> cases he
    obtain ⟨w, hw, rw'⟩ := h j e this
    exact ⟨w, (SlX.putS_ne hj).mpr hw, rw'⟩
/-- o.f = .. -/
def setFld (c i : Nat) (o d : D) (S : Store) : Res Unit := match o with
  | .ref k => match obOf S c (.ref k) with
    | some fs => .ok () (S.set k (.ob c (putO i d fs)))
    | none => .no
  | _ => .no
def mgFld (c i : Nat) (mo : ME) : MG := fun d ρ S => (mo ρ S).bind fun o S1 => (setFld c i o d S1).bind fun _ S2 => .ok ρ S2
theorem slH_same {H : Hp} {a C dx : Addr} {vs : List (Option V)} (h : H dx = some (.xd [])) : SlX.slH H a C dx vs = upd H a (SlX.SlO a C dx vs) := by
  unfold SlX.slH
  rw [updS h]
section
variable {X : Cx} {cl : Nat → Addr} {E : XK} {o : Expr} {mo : ME} {f : Str} {pos : Pos}
theorem qg_fld (c i : Nat) {p : Addr} (ho : QE X cl E o mo) (hc : SlX.SCls X.K (cl c)) (hs : SlX.Slot1 X.K (cl c) f p i)
    (ha : ∀ v, assign (.Attribute o f pos) X.env v = (do
      let ov ← holding [v] (eval o X.env)
      standAt pos.atName
      holding [v, ov] (setAttr ov f v)
      release [v, ov] []) := by intro _; rfl) : QG X cl E (.Attribute o f pos) (mgFld c i mo) [] := by
  obtain ⟨t, h1, h2⟩ := ho.ex
  refine ⟨_, pg_sl h1 ha, fun d ρ S σ α G H v Q hρ hR r hp => ?_⟩
  refine h2 ρ S σ α G H _ hρ hR (post_bind hp fun od S1 α1 G1 H1 ov q1 e1 R1 r1 hp1 => ?_)
  clear q1
  unfold setFld at hp1
  cases od <;> try exact hp1.elim
  rename_i k
  simp only at hp1
  cases q : obOf S1 c (.ref k) with
  | none => rw [q] at hp1; exact hp1.elim
  | some fs =>
    rw [q] at hp1
    obtain ⟨k', a, dx, vs, ek, hk, hα, rfl, hH, hG, hdx, ro⟩ := obOf_at R1 r1 q
    cases ek
    have r0 : Rep ⟨X.K, cl⟩ α1 G1 d v := Rep.mono e1.pre e1.sub _ _ r
    obtain ⟨R2, e2⟩ := R1.putC (c1 := .ob c (putO i d fs)) hk hα rfl rfl ⟨dx, _, rfl, hG, ro.put i r0⟩
    refine ⟨a, cl c, dx, p, vs, i, rfl, .inr ⟨hH, hdx⟩, hc, hs, ?_⟩
    rw [slH_same hdx]
    exact hp1 α1 G1 _ σ e2 R2 ((hρ.mono e1).mono e2) ⟨rfl, fun _ _ => rfl⟩
end
def mMethR (c : Nat) (g : List D → Store → Res D) (m : ME) (n : MA) : ME := fun ρ S => (m ρ S).bind fun d S1 => match obOf S1 c d with
  | some _ => (n ρ S1).bind fun ds S2 => g (d :: ds) S2
  | none => .no
section
variable {X : Cx} {cl : Nat → Addr} {E : XK} {pos apos : Pos} {o e : Expr} {es : List Expr} {f : Str} {mo : ME} {n : MA}
theorem q_methR {g : List D → Store → Res D} {fm : List D → Store → Res D} {k c : Nat} {fa : Addr} {pl : Sem Bool} (ho : QE X cl E o mo) (hc : SlX.SCls X.K (cl c)) (hm : Meth X.K (cl c) f fa) (F : FnR X.prog X.w X.K X.mg X.base CX0 k fa (spM ⟨X.K, cl⟩ fm)) (hr : Room k X.A)
    (ha : QA X cl E (e :: es) n) (hf : SndC ⟨X.K, cl⟩ E (fun vs H Q => spM ⟨X.K, cl⟩ fm vs H Q E0) g)
    (hst : starEach (e :: es) X.env = (false, eval e X.env) :: starEach es X.env := by rfl) (hpl : (backTo pos (starEach es X.env)).any (·.1) = false := by rfl)
    (ht : eval (.Call (.Attribute o f apos) (e :: es) [] pos) X.env = (do
      let ov ← eval o X.env
      standAt apos.atName
      let (f, first) ← holding [ov] (getMethod ov f pl)
      callWith pos f first (backTo pos (starEach (e :: es) X.env)) (backToKw pos (keywordEach [] X.env))) := by rfl) :
    QE X cl E (.Call (.Attribute o f apos) (e :: es) [] pos) (mMethR c g mo n) := by
  obtain ⟨t, h1, h2⟩ := ho.ex
  obtain ⟨u, k1, k2⟩ := ha.ex
  refine ⟨_, SlX.pe_methSl h1 hc hm F hr pass0 k1 hst hpl ht, fun ρ S σ α G H Q hρ hR hp => h2 ρ S σ α G H _ hρ hR (post_bind hp fun d S1 α1 G1 H1 v _ e1 R1 r1 hp1 => ?_)⟩
  cases q : obOf S1 c d with
  | none => simp only [q] at hp1; exact hp1.elim
  | some fs =>
    simp only [q] at hp1
    obtain ⟨k, a, dx, vs, rfl, hk, hα, rfl, hH, hG, hdx, ro⟩ := obOf_at R1 r1 q
    refine ⟨a, dx, vs, rfl, .inr ⟨hH, hdx⟩, k2 ρ S1 σ α1 G1 H1 _ (hρ.mono e1) R1 (post_bind hp1 fun ds S2 α2 G2 H2 ws _ e2 R2 r2 hp2 => ?_)⟩
    exact hf _ S2 α2 G2 H2 (.ref a :: ws) Q R2 (by unfold RepL; exact ⟨.ref a, ws, rfl, Rep.mono e2.pre e2.sub _ _ r1, r2⟩) hp2
theorem q_methR0 {g : List D → Store → Res D} {fm : List D → Store → Res D} {k c : Nat} {fa : Addr} {pl : Sem Bool} (ho : QE X cl E o mo) (hc : SlX.SCls X.K (cl c)) (hm : Meth X.K (cl c) f fa) (F : FnR X.prog X.w X.K X.mg X.base CX0 k fa (spM ⟨X.K, cl⟩ fm)) (hr : Room k X.A)
    (hf : SndC ⟨X.K, cl⟩ E (fun vs H Q => spM ⟨X.K, cl⟩ fm vs H Q E0) g)
    (ht : eval (.Call (.Attribute o f apos) [] [] pos) X.env = (do
      let ov ← eval o X.env
      standAt apos.atName
      let (f, first) ← holding [ov] (getMethod ov f pl)
      callWith pos f first (backTo pos (starEach [] X.env)) (backToKw pos (keywordEach [] X.env))) := by rfl) :
    QE X cl E (.Call (.Attribute o f apos) [] [] pos) (mMethR c g mo mNil) := by
  obtain ⟨t, h1, h2⟩ := ho.ex
  refine ⟨_, SlX.pe_methSl0 h1 hc hm F hr pass0 ht, fun ρ S σ α G H Q hρ hR hp => h2 ρ S σ α G H _ hρ hR (post_bind hp fun d S1 α1 G1 H1 v _ e1 R1 r1 hp1 => ?_)⟩
  cases q : obOf S1 c d with
  | none => simp only [q] at hp1; exact hp1.elim
  | some fs =>
    simp only [q] at hp1
    obtain ⟨k, a, dx, vs, rfl, hk, hα, rfl, hH, hG, hdx, ro⟩ := obOf_at R1 r1 q
    refine ⟨a, dx, vs, rfl, .inr ⟨hH, hdx⟩, ?_⟩
    exact hf _ S1 α1 G1 H1 [.ref a] Q R1 (by unfold RepL; exact ⟨.ref a, [], rfl, r1, by simp [RepL]⟩) hp1
end
/-- a reading of a block, told of the instance with its slots still unknown -/
def tInit (t : TS) : TS := fun Dn σ H => ∃ a C dx, H a = some (.ins C dx []) ∧ H dx = some (.own a) ∧ t Dn σ (SlX.slH H a C dx [])
theorem pss_init {X : Cx} {st : List Stmt} {t : TS} (h : PSs X st t) : PSs X st (tInit t) := by
  refine ⟨fun pins s σ H Dn I q => ?_⟩
  obtain ⟨a, C, dx, hi, ho, q⟩ := q
  have hs : SlX.Slt H a C dx [] := .inl ⟨hi, rfl⟩
  obtain ⟨ne, sl, mA, e, r, n, z⟩ := SlX.slt_at I hs
  have I2 := SlX.inv_slot (vs' := []) (sl' := sl) (h' := s.heap) (t' := s.toks) I hs (fun _ _ _ _ q => q) (fun _ q => q) e (SlX.SlR.nil sl)
  exact h.run pins s σ _ Dn I2 q
/-- the promise of an __init__ over a new cell -/
def spN (Γ : Gm) (c : Nat) (f : List D → Store → Res D) : Sp := fun vs H Q _ => ∃ a dx ws ds α G S, vs = V.ref a :: ws ∧ H a = some (.ins (Γ.cl c) dx []) ∧ H dx = some (.own a) ∧ dx ≠ a ∧ a ∉ α ∧ dx ∉ α ∧ G a = none ∧ G dx = none ∧ RepL Γ α G ds ws ∧ Rl Γ α G S H ∧
  match f (.ref S.length :: ds) (S ++ [.ob c []]) with
  | .ok .non S' => ∀ α' G' H', Ext (α ++ [a]) (upd G dx (.xd [])) (SlX.slH H a (Γ.cl c) dx []) α' G' H' → Rl Γ α' G' S' H' → Q .non H'
  | _ => False
/-- the new instance as a cell -/
theorem new_cell {Γ : Gm} {α : List Addr} {G H : Hp} {S : Store} {a dx : Addr} {c : Nat} (R : Rl Γ α G S H) (ha : H a = some (.ins (Γ.cl c) dx [])) (hd : H dx = some (.own a)) (ne : dx ≠ a) (ma : a ∉ α) (md : dx ∉ α) (ga : G a = none) (gd : G dx = none) :
    Rl Γ (α ++ [a]) (upd G dx (.xd [])) (S ++ [.ob c []]) (SlX.slH H a (Γ.cl c) dx []) := by
  have neα : ∀ b ∈ α, b ≠ a ∧ b ≠ dx := fun b m => ⟨fun z => by subst z; exact ma m, fun z => by subst z; exact md m⟩
  have sg : Sub G (upd G dx (.xd [])) := Sub.new gd
  refine ⟨fun b o h => ?_, by simp [R.len], ?_, fun b m => ?_, fun k cc b hc hb => ?_⟩
  · by_cases h2 : b = dx
    · subst h2
      rw [upd_same] at h
      cases h
      unfold SlX.slH
      rw [upd_ne ne, upd_same]
    · rw [upd_ne h2] at h
      have h1 : b ≠ a := fun z => by subst z; rw [ga] at h; cases h
      rw [SlX.slH_ne h1 h2]
      exact R.sub b o h
  · rw [List.nodup_append]
    exact ⟨R.nd, by simp, fun b m b' mb => by simp at mb; subst mb; exact (neα b m).1⟩
  · rcases List.mem_append.mp m with m | m
    · rw [SlX.slH_ne (neα b m).1 (neα b m).2]
      exact R.tr b m
    · simp at m
      subst m
      unfold SlX.slH
      rw [upd_same]
      simp
  · by_cases hk : k < α.length
    · rw [List.getElem?_append_left hk] at hb
      rw [List.getElem?_append_left (by rw [← R.len]; exact hk)] at hc
      have hm : b ∈ α := List.mem_of_getElem? hb
      exact (R.ok k cc b hc hb).mono ⟨[a], rfl⟩ sg fun _ => ⟨SlX.slH_ne (neα b hm).1 (neα b hm).2, fun h => by rw [upd_ne (neα b hm).2]; exact h⟩
    · rw [List.getElem?_append_right (by omega)] at hb
      rw [List.getElem?_append_right (by rw [← R.len]; omega)] at hc
      have e1 : k - α.length = 0 := by
        have := (List.getElem?_eq_some_iff.mp hb).1
        simp at this
        omega
      have e2 : k - S.length = 0 := by rw [← R.len]; exact e1
      rw [e1] at hb
      rw [e2] at hc
      simp at hb hc
      subst hb
      subst hc
      refine ⟨_, ⟨dx, [], rfl, upd_same, fun i d h => by simp at h⟩, .inl ⟨rfl, by unfold SlX.slH; rw [upd_same], by rw [upd_ne (Ne.symm ne)]; exact ga⟩⟩
section
variable {P : Program} {w : World} {K : PySem.W.Frag} {mg : Str → Option Value} {base : Heap}
/-- an __init__'s function of data -/
def fnN (nN nP : Nat) (n : MS) : List D → Store → Res D := fun ds S => if ds.length = nP then (match n (ds.map some ++ List.replicate (nN - nP) none) S with
  | .ok (.nx _) S' => .ok .non S'
  | _ => .no) else .no
open PySem.Spec PyProof.Rows in
theorem fn_okN {x qual : Str} {st : Stmt} {f : Addr} {fd : FuncData} {N ps : List Str} {k c : Nat} {cl : Nat → Addr} (nN nP : Nat) {n : MS} (F : Fun K x qual st f fd) (S : FnScope N ps (defScope st))
    (hbody : ∀ (cdv : Value) (A : Around) (outer : List PySem.Env) (s : Shared) (H : Hp) (E : XK), Room k (A.deeper (envOfC qual (defScope st) s.heap.objs.size f cdv)) → QSs (cxOf CX0 P w K mg base N qual (defScope st) f cdv A outer s H E).nox cl E0 (defBody st) n)
    (hN : N.length = nN := by rfl) (hP : ps.length = nP := by rfl) : FnOk P w K mg base CX0 (k + 1) f fd ps (spN ⟨K, cl⟩ c (fnN nN nP n)) := by
  refine F.ok S (fun vs H Q E h => ?_) (fun cdv A outer s H vs Q E hr h => ?_)
  · obtain ⟨a, dx, ws, ds, α, G, S, rfl, _, _, _, _, _, _, _, r, _, hp⟩ := h
    unfold fnN at hp
    split at hp
    · rename_i q
      split at q
      · rename_i e
        rw [List.length_cons, ← r.length, hP, ← e, List.length_cons]
      · cases q
    · exact hp.elim
  · obtain ⟨a, dx, ws, ds, α, G, S', rfl, ha, hd, ne, ma, md, ga, gd, r, hR, hp⟩ := h
    obtain ⟨t, h1, h2⟩ := (hbody cdv A outer s H E hr).ex
    refine ⟨_, pss_init h1, a, cl c, dx, ha, hd, ?_⟩
    have R2 := new_cell (Γ := ⟨K, cl⟩) hR ha hd ne ma md ga gd
    have sg : Sub G (upd G dx (.xd [])) := Sub.new gd
    have r2 : RepL ⟨K, cl⟩ (α ++ [a]) (upd G dx (.xd [])) (.ref S'.length :: ds) (V.ref a :: ws) := by
      unfold RepL
      refine ⟨_, _, rfl, ?_, RepL.mono ⟨[a], rfl⟩ sg _ _ r⟩
      unfold Rep
      exact ⟨a, rfl, by rw [← hR.len]; simp⟩
    unfold fnN at hp
    split at hp
    · rename_i S2 q
      split at q
      · rename_i e
        have hst : EnvR ⟨K, cl⟩ (α ++ [a]) (upd G dx (.xd [])) ((D.ref S'.length :: ds).map some ++ List.replicate (N.length - (V.ref a :: ws).length) none) (L2.start N (V.ref a :: ws)) := envR_start r2
        rw [show N.length - (V.ref a :: ws).length = nN - nP by rw [hN, List.length_cons, ← r.length, ← e, List.length_cons]] at hst
        refine h2 _ _ _ _ _ _ _ hst R2 ?_
        revert q
        cases n ((D.ref S'.length :: ds).map some ++ List.replicate (nN - nP) none) (S' ++ [.ob c []]) with
        | no => exact fun q => nomatch q
        | ex e S2 => exact fun q => nomatch q
        | ok fl S3 =>
          cases fl with
          | nx ρ =>
            intro q
            injection q with q1 q2
            subst q2
            exact fun α' G' H' σ' e R _ => hp α' G' H' e R
          | rt d => exact fun q => nomatch q
          | bk ρ => exact fun q => nomatch q
          | ct ρ => exact fun q => nomatch q
      · cases q
    · exact hp.elim
end
/-- C(e, ..): a new cell -/
def mMakeR (c : Nat) (f : List D → Store → Res D) (n : MA) : ME := fun ρ S => (n ρ S).bind fun ds S1 => match f (.ref S1.length :: ds) (S1 ++ [.ob c []]) with
  | .ok .non S2 => .ok (.ref S1.length) S2
  | _ => .no
theorem makeR_post {Γ : Gm} {E : XK} {α : List Addr} {G H0 : Hp} {S : Store} {c : Nat} {f : List D → Store → Res D} {ds : List D} {vs : List V} {Q : VK} (R0 : Rl Γ α G S H0) (r : RepL Γ α G ds vs)
    (hp : Post Γ (Rep Γ) α G H0 (match f (.ref S.length :: ds) (S ++ [.ob c []]) with | .ok .non S2 => .ok (.ref S.length) S2 | _ => .no) Q E) (a dx : Addr) (na : H0 a = none) (nd : H0 dx = none) (ne : dx ≠ a) :
    spN Γ c f (.ref a :: vs) (upd (upd H0 dx (.own a)) a (.ins (Γ.cl c) dx [])) (fun v H2 => v = .non ∧ Q (.ref a) H2) E0 := by
  obtain ⟨R1, e1⟩ := R0.out nd (.own a)
  have na1 : upd H0 dx (.own a) a = none := by rw [upd_ne (Ne.symm ne)]; exact na
  obtain ⟨R2, e2⟩ := R1.out na1 (.ins (Γ.cl c) dx [])
  have ma : a ∉ α := fun m => R0.tr a m na
  have md : dx ∉ α := fun m => R0.tr dx m nd
  refine ⟨a, dx, vs, ds, α, G, S, rfl, upd_same, by rw [upd_ne ne, upd_same], ne, ma, md, R0.sub.none na, R0.sub.none nd, r, R2, ?_⟩
  have eH : SlX.slH (upd (upd H0 dx (.own a)) a (.ins (Γ.cl c) dx [])) a (Γ.cl c) dx [] = upd (upd H0 dx (.xd [])) a (SlX.SlO a (Γ.cl c) dx []) := by
    unfold SlX.slH
    funext b
    by_cases h1 : b = a
    · subst h1; rw [upd_same, upd_same]
    · by_cases h2 : b = dx
      · subst h2; rw [upd_ne h1, upd_same, upd_ne h1, upd_same]
      · rw [upd_ne h1, upd_ne h2, upd_ne h1, upd_ne h2, upd_ne h1, upd_ne h2]
  revert hp
  generalize f (.ref S.length :: ds) (S ++ [.ob c []]) = res
  cases res with
  | no => exact fun h => h.elim
  | ex e S' => exact fun h => h.elim
  | ok d S' =>
    cases d <;> try exact fun h => h.elim
    intro hp α' G' H' e R
    rw [eH] at e
    have pa : α'[S.length]? = some a := by
      obtain ⟨β, rfl⟩ := e.pre
      rw [List.getElem?_append_left (by simp [R0.len]), ← R0.len]
      simp
    refine ⟨rfl, hp α' G' H' (.ref a) ⟨?_, ?_, fun b o h m => ?_, fun b m => ?_, fun b h => ?_⟩ R (by unfold Rep; exact ⟨a, rfl, pa⟩)⟩
    · obtain ⟨β, rfl⟩ := e.pre
      exact ⟨[a] ++ β, by simp⟩
    · exact (Sub.new (R0.sub.none nd)).trans e.sub
    · have h1 : b ≠ a := fun z => by subst z; rw [na] at h; cases h
      have h2 : b ≠ dx := fun z => by subst z; rw [nd] at h; cases h
      exact e.fr b o (by rw [upd_ne h1, upd_ne h2]; exact h) (fun z => by rcases List.mem_append.mp z with z | z; exact m z; simp at z; exact h1 z)
    · by_cases h1 : b = a
      · subst h1; exact .inr na
      · rcases e.na b m with z | z
        · rcases List.mem_append.mp z with z | z
          · exact .inl z
          · simp at z; exact absurd z h1
        · rw [upd_ne h1] at z
          by_cases h2 : b = dx
          · subst h2; exact .inr nd
          · rw [upd_ne h2] at z; exact .inr z
    · by_cases h1 : b = a
      · subst h1; exact .inr (.inr (.inl na))
      · by_cases h2 : b = dx
        · subst h2; exact .inr (.inr (.inl nd))
        · rcases e.ng b h with z | z | z | ⟨xs, z⟩
          · rw [upd_ne h2] at z; exact .inl z
          · rcases List.mem_append.mp z with z | z
            · exact .inr (.inl z)
            · simp at z; exact absurd z h1
          · rw [upd_ne h1, upd_ne h2] at z; exact .inr (.inr (.inl z))
          · rw [upd_ne h1, upd_ne h2] at z; exact .inr (.inr (.inr ⟨xs, z⟩))
section
variable {X : Cx} {cl : Nat → Addr} {E : XK} {pos : Pos}
theorem q_makeR {c k : Nat} {f : List D → Store → Res D} {fa : Addr} {fd : FuncData} {ps : List Str} {x : Str} {p : Pos} {e : Expr} {es : List Expr} {n : MA} (M : Mk X.K (cl c) fa) (F : FnOk X.prog X.w X.K X.mg X.base CX0 k fa fd ps (spN ⟨X.K, cl⟩ c f)) (hr : Room (k + 1) X.A)
    (hg : Gl X x) (hm : X.mg x = some (.ref (cl c))) (hb : Binds X.K fd ps []) (ha : QA X cl E (e :: es) n)
    (hdb : (x == ("__debug__" : Str)) = false := by decide) (he : starEach (e :: es) X.env = (false, eval e X.env) :: starEach es X.env := by rfl) (hpl : (backTo pos (starEach es X.env)).any (·.1) = false := by rfl) :
    QE X cl E (.Call (.Name x p) (e :: es) [] pos) (mMakeR c f n) := by
  obtain ⟨t, h1, h2⟩ := ha.ex
  refine ⟨_, pe_make M F hr hg hm hb .nil pass0 h1 hdb he hpl, fun ρ S σ α G H Q hρ hR hp => h2 ρ S σ α G H _ hρ hR (post_bind hp fun ds S1 α1 G1 H1 vs _ e1 R1 r1 hp1 => ?_)⟩
  intro a dx na nd ne
  rw [List.append_nil]
  exact makeR_post R1 r1 hp1 a dx na nd ne
end
end Q
namespace Q
open PySem L2
def keyD : D → Option Key
  | .int i => some (.inl i)
  | .str s => some (.inr s)
  | _ => none
def keysD : List D → Option (List Key)
  | [] => some []
  | d :: ds => match keyD d, keysD ds with
    | some k, some ks => some (k :: ks)
    | _, _ => none
def tkeyD : D → Option (List Key)
  | .tup xs => keysD xs
  | _ => none
def dKey : Key → D
  | .inl i => .int i
  | .inr s => .str s
theorem keyD_rep {Γ : Gm} {α : List Addr} {G : Hp} {d : D} {k : Key} {v : V} (h : keyD d = some k) (r : Rep Γ α G d v) : v = kV k := by
  cases d <;> simp [keyD] at h <;> subst h <;> simp only [Rep] at r <;> subst r <;> rfl
theorem keysD_rep {Γ : Gm} {α : List Addr} {G : Hp} : ∀ {ds : List D} {ks : List Key} {vs : List V}, keysD ds = some ks → RepL Γ α G ds vs → vs = ks.map kV
  | [], ks, vs, h, r => by simp [keysD] at h; subst h; simpa [RepL] using r
  | d :: ds, ks, vs, h, r => by
    unfold keysD at h
    unfold RepL at r
    obtain ⟨v, w, rfl, r1, r2⟩ := r
    split at h
    · rename_i k kk e1 e2
      cases h
      rw [keyD_rep e1 r1, keysD_rep e2 r2]
      rfl
    · cases h
theorem dKey_rep {Γ : Gm} {α : List Addr} {G : Hp} (k : Key) : Rep Γ α G (dKey k) (kV k) := by
  cases k <;> simp [dKey, kV, Rep]
theorem dKeys_rep {Γ : Gm} {α : List Addr} {G : Hp} : ∀ ks : List Key, RepL Γ α G (ks.map dKey) (ks.map kV)
  | [] => by simp [RepL]
  | k :: ks => by
    rw [List.map_cons, List.map_cons]
    unfold RepL
    exact ⟨_, _, rfl, dKey_rep k, dKeys_rep ks⟩
section
variable {κ : Type} [DecidableEq κ]
def valD (kvs : List (κ × D)) (k : κ) : Option D := (kvs.find? fun kv => decide (kv.1 = k)).map (·.2)
def putD (kvs : List (κ × D)) (k : κ) (d : D) : List (κ × D) := if (kvs.any fun kv => decide (kv.1 = k)) = true then kvs.map (fun kv => if kv.1 = k then (kv.1, d) else kv) else kvs ++ [(k, d)]
theorem valD_cons (p : κ × D) (r : List (κ × D)) (k : κ) : valD (p :: r) k = if p.1 = k then some p.2 else valD r k := by
  by_cases e : p.1 = k <;> simp [valD, List.find?_cons, e]
theorem valV_cons (p : κ × V) (r : List (κ × V)) (k : κ) : valV (p :: r) k = if p.1 = k then some p.2 else valV r k := by
  by_cases e : p.1 = k <;> simp [valV, List.find?_cons, e]
variable {Γ : Gm} {α : List Addr} {G : Hp}
theorem RepKV.val : ∀ {kvs : List (κ × D)} {ws : List (κ × V)} (k : κ), RepKV Γ α G kvs ws → (∀ d, valD kvs k = some d → ∃ v, valV ws k = some v ∧ Rep Γ α G d v) ∧ (valD kvs k = none → valV ws k = none)
  | [], ws, k, h => by
    unfold RepKV at h
    subst h
    exact ⟨fun d e => by simp [valD] at e, fun _ => rfl⟩
  | p :: r, ws, k, h => by
    unfold RepKV at h
    obtain ⟨v, t, rfl, h1, h2⟩ := h
    rw [valD_cons, valV_cons]
    by_cases e : p.1 = k
    · rw [if_pos e, if_pos e]
      exact ⟨fun d hd => ⟨v, rfl, by cases hd; exact h1⟩, fun hn => nomatch hn⟩
    · rw [if_neg e, if_neg e]
      exact RepKV.val k h2
theorem RepKV.length : ∀ {kvs : List (κ × D)} {ws : List (κ × V)}, RepKV Γ α G kvs ws → kvs.length = ws.length
  | [], ws, h => by unfold RepKV at h; subst h; rfl
  | p :: r, ws, h => by
    unfold RepKV at h
    obtain ⟨v, t, rfl, _, h2⟩ := h
    simp [RepKV.length h2]
theorem RepKV.any (k : κ) : ∀ {kvs : List (κ × D)} {ws : List (κ × V)}, RepKV Γ α G kvs ws → (kvs.any fun kv => decide (kv.1 = k)) = (ws.any fun kv => decide (kv.1 = k))
  | [], ws, h => by unfold RepKV at h; subst h; rfl
  | p :: r, ws, h => by
    unfold RepKV at h
    obtain ⟨v, t, rfl, _, h2⟩ := h
    simp [RepKV.any k h2]
theorem RepKV.upd {k : κ} {d : D} {v : V} (r0 : Rep Γ α G d v) : ∀ {kvs : List (κ × D)} {ws : List (κ × V)}, RepKV Γ α G kvs ws → RepKV Γ α G (kvs.map fun kv => if kv.1 = k then (kv.1, d) else kv) (ws.map fun kv => if kv.1 = k then (kv.1, v) else kv)
  | [], ws, h => by unfold RepKV at h; subst h; simp [RepKV]
  | p :: r, ws, h => by
    unfold RepKV at h
    obtain ⟨u, t, rfl, h1, h2⟩ := h
    rw [List.map_cons, List.map_cons]
    unfold RepKV
    by_cases e : p.1 = k
    · simp only [e, if_true]
      exact ⟨v, _, rfl, r0, RepKV.upd r0 h2⟩
    · simp only [e, if_false]
      exact ⟨u, _, rfl, h1, RepKV.upd r0 h2⟩
theorem RepKV.snoc {k : κ} {d : D} {v : V} (r0 : Rep Γ α G d v) : ∀ {kvs : List (κ × D)} {ws : List (κ × V)}, RepKV Γ α G kvs ws → RepKV Γ α G (kvs ++ [(k, d)]) (ws ++ [(k, v)])
  | [], ws, h => by
    unfold RepKV at h
    subst h
    show RepKV Γ α G [(k, d)] [(k, v)]
    unfold RepKV
    exact ⟨v, [], rfl, r0, by simp [RepKV]⟩
  | p :: r, ws, h => by
    unfold RepKV at h
    obtain ⟨u, t, rfl, h1, h2⟩ := h
    show RepKV Γ α G (p :: (r ++ [(k, d)])) ((p.1, u) :: (t ++ [(k, v)]))
    unfold RepKV
    exact ⟨u, _, rfl, h1, RepKV.snoc r0 h2⟩
theorem RepKV.put {k : κ} {d : D} {v : V} (r0 : Rep Γ α G d v) {kvs : List (κ × D)} {ws : List (κ × V)} (h : RepKV Γ α G kvs ws) : RepKV Γ α G (putD kvs k d) (putK ws k v) := by
  unfold putD putK
  rw [h.any k]
  split
  · exact h.upd r0
  · exact h.snoc r0
theorem RepKV.get : ∀ {kvs : List (κ × D)} {ws : List (κ × V)} {i : Nat} {k : κ} {v : V}, RepKV Γ α G kvs ws → ws[i]? = some (k, v) → ∃ d, kvs[i]? = some (k, d) ∧ Rep Γ α G d v
  | [], ws, i, k, v, h, hi => by unfold RepKV at h; subst h; simp at hi
  | p :: r, ws, 0, k, v, h, hi => by
    unfold RepKV at h
    obtain ⟨u, t, rfl, h1, h2⟩ := h
    simp at hi
    obtain ⟨rfl, rfl⟩ := hi
    exact ⟨p.2, rfl, h1⟩
  | p :: r, ws, i + 1, k, v, h, hi => by
    unfold RepKV at h
    obtain ⟨u, t, rfl, h1, h2⟩ := h
    simpa using RepKV.get h2 (by simpa using hi)
end
/-- what stands there: none = no dict, or no key of its kind -/
def dgetD (S : Store) (d key : D) : Option (Option D) := match d with
  | .ref k => match S[k]? with
    | some (.dk _ kvs) => (keyD key).map (valD kvs)
    | some (.dt _ kvs) => (tkeyD key).map (valD kvs)
    | _ => none
  | _ => none
theorem dk_at {Γ : Gm} {α : List Addr} {G H : Hp} {S : Store} {k : Nat} {a : Addr} {l : Bool} {kvs : List (Key × D)} (R : Rl Γ α G S H) (hk : S[k]? = some (.dk l kvs)) (ha : α[k]? = some a) : ∃ ws, RepKV Γ α G kvs ws ∧ Rd H a (.dK ws) := by
  obtain ⟨o, ⟨ws, r, e⟩, w⟩ := R.ok k _ a hk ha
  refine ⟨ws, r, ?_⟩
  rcases w with ⟨w, w1, _⟩ | ⟨w, w1⟩
  · rcases e with ⟨rfl, rfl⟩ | ⟨rfl, _⟩
    · exact .inl w1
    · cases w
  · rcases e with ⟨rfl, _⟩ | ⟨_, od, rfl⟩
    · cases w
    · exact .inr ⟨od, R.sub _ _ w1⟩
theorem dt_at {Γ : Gm} {α : List Addr} {G H : Hp} {S : Store} {k : Nat} {a : Addr} {l : Bool} {kvs : List (List Key × D)} (R : Rl Γ α G S H) (hk : S[k]? = some (.dt l kvs)) (ha : α[k]? = some a) : ∃ ws, RepKV Γ α G kvs ws ∧ Rd H a (.dT ws) := by
  obtain ⟨o, ⟨ws, r, e⟩, w⟩ := R.ok k _ a hk ha
  refine ⟨ws, r, ?_⟩
  rcases w with ⟨w, w1, _⟩ | ⟨w, w1⟩
  · rcases e with ⟨rfl, rfl⟩ | ⟨rfl, _⟩
    · exact .inl w1
    · cases w
  · rcases e with ⟨rfl, _⟩ | ⟨_, od, rfl⟩
    · cases w
    · exact .inr ⟨od, R.sub _ _ w1⟩
theorem tkey_at {Γ : Gm} {α : List Addr} {G H : Hp} {S : Store} {d : D} {y : V} {key : List Key} (R : Rl Γ α G S H) (h : tkeyD d = some key) (r : Rep Γ α G d y) : ∃ b, y = .ref b ∧ H b = some (.tup (key.map kV)) := by
  cases d <;> try (simp [tkeyD] at h; done)
  rename_i xs
  obtain ⟨b, vs, rfl, _, hb, rl⟩ := tup_at2 R r
  rw [keysD_rep (show keysD xs = some key from h) rl] at hb
  exact ⟨b, rfl, hb⟩
theorem dgetD_at {Γ : Gm} {α : List Addr} {G H : Hp} {S : Store} {d key : D} {v y : V} {o : Option D} (R : Rl Γ α G S H) (r : Rep Γ α G d v) (r2 : Rep Γ α G key y) (h : dgetD S d key = some o) :
    ∃ a ov, v = .ref a ∧ DGet H a y ov ∧ ov.isSome = o.isSome ∧ ∀ x, o = some x → ∃ w, ov = some w ∧ Rep Γ α G x w := by
  cases d <;> try (simp [dgetD] at h; done)
  rename_i k
  unfold Rep at r
  obtain ⟨a, rfl, ha⟩ := r
  unfold dgetD at h
  have fin : ∀ (ov : Option V) (o' : Option D), o' = o → ((∀ d, o' = some d → ∃ v, ov = some v ∧ Rep Γ α G d v) ∧ (o' = none → ov = none)) → ov.isSome = o.isSome ∧ ∀ x, o = some x → ∃ w, ov = some w ∧ Rep Γ α G x w := fun ov o' e z => by
    subst e
    refine ⟨?_, z.1⟩
    cases o' with
    | none => rw [z.2 rfl]; rfl
    | some x => obtain ⟨w, e, _⟩ := z.1 x rfl; rw [e]; rfl
  cases q : S[k]? with
  | none => simp [q] at h
  | some c =>
    cases c with
    | dk l kvs =>
      simp only [q, Option.map_eq_some_iff] at h
      obtain ⟨kk, hk, e⟩ := h
      obtain ⟨ws, rk, rd⟩ := dk_at R q ha
      exact ⟨a, valV ws kk, rfl, .inl ⟨ws, kk, rd, keyD_rep hk r2, rfl⟩, fin _ _ e (rk.val kk)⟩
    | dt l kvs =>
      simp only [q, Option.map_eq_some_iff] at h
      obtain ⟨kk, hk, e⟩ := h
      obtain ⟨ws, rk, rd⟩ := dt_at R q ha
      obtain ⟨b, rfl, hb⟩ := tkey_at R hk r2
      exact ⟨a, valV ws kk, rfl, .inr ⟨ws, kk, b, rd, rfl, hb, rfl⟩, fin _ _ e (rk.val kk)⟩
    | _ => simp [q] at h
def dgetK (d key : D) (S : Store) : Res D := match dgetD S d key with
  | some (some x) => .ok x S
  | _ => .no
/-- d[i] -/
def mDGet (mo mi : ME) : ME := fun ρ S => (mo ρ S).bind fun d S1 => (mi ρ S1).bind fun i S2 => dgetK d i S2
def dinK (y d : D) (S : Store) : Res D := match dgetD S d y with
  | some o => .ok (.bl o.isSome) S
  | none => .no
def dninK (y d : D) (S : Store) : Res D := match dgetD S d y with
  | some o => .ok (.bl (!o.isSome)) S
  | none => .no
/-- i in d -/
def mDIn (mi mo : ME) : ME := fun ρ S => (mi ρ S).bind fun y S1 => (mo ρ S1).bind fun d S2 => dinK y d S2
def mDNin (mi mo : ME) : ME := fun ρ S => (mi ρ S).bind fun y S1 => (mo ρ S1).bind fun d S2 => dninK y d S2
def dget2K (d y z : D) (S : Store) : Res D := match dgetD S d y with
  | some o => .ok (o.getD z) S
  | none => .no
/-- d.get(i, f) -/
def mDGet2 (mo mi mf : ME) : ME := fun ρ S => (mo ρ S).bind fun d S1 => if (isDictS S1 d) then (mi ρ S1).bind fun y S2 => (mf ρ S2).bind fun z S3 => dget2K d y z S3 else .no
where isDictS (S : Store) (d : D) : Bool := match d with
  | .ref k => match S[k]? with
    | some (.dk _ _) => true
    | some (.dt _ _) => true
    | _ => false
  | _ => false
theorem isDict_at {Γ : Gm} {α : List Addr} {G H : Hp} {S : Store} {d : D} {v : V} (R : Rl Γ α G S H) (r : Rep Γ α G d v) (h : mDGet2.isDictS S d = true) : ∃ a, v = .ref a ∧ IsD H a := by
  cases d <;> try (simp [mDGet2.isDictS] at h; done)
  rename_i k
  unfold Rep at r
  obtain ⟨a, rfl, ha⟩ := r
  unfold mDGet2.isDictS at h
  cases q : S[k]? with
  | none => simp [q] at h
  | some c =>
    cases c with
    | dk l kvs => obtain ⟨ws, _, rd⟩ := dk_at R q ha; exact ⟨a, rfl, .inl ⟨ws, rd⟩⟩
    | dt l kvs => obtain ⟨ws, _, rd⟩ := dt_at R q ha; exact ⟨a, rfl, .inr ⟨ws, rd⟩⟩
    | _ => simp [q] at h
section
variable {X : Cx} {cl : Nat → Addr} {E : XK} {o i f : Expr} {mo mi mf : ME} {pos : Pos}
theorem snd_dget {to ti : TE} (ho : SndE ⟨X.K, cl⟩ E to mo) (hi : SndE ⟨X.K, cl⟩ E ti mi) : SndE ⟨X.K, cl⟩ E (tDGet to ti) (mDGet mo mi) := fun ρ S σ α G H Q hρ hR hp =>
  ho ρ S σ α G H _ hρ hR (post_bind hp fun d S1 α1 G1 H1 v _ e1 R1 r1 hp1 => hi ρ S1 σ α1 G1 H1 _ (hρ.mono e1) R1 (post_bind hp1 fun y S2 α2 G2 H2 u _ e2 R2 r2 hp2 => by
    unfold dgetK at hp2
    split at hp2
    · rename_i x hx
      obtain ⟨a, ov, rfl, g, _, z⟩ := dgetD_at R2 (Rep.mono e2.pre e2.sub _ _ r1) r2 hx
      obtain ⟨w, rfl, rw'⟩ := z x rfl
      exact ⟨a, w, rfl, g, post_ok hp2 R2 rw'⟩
    · exact hp2.elim))
theorem q_dget (hu : X.A.units + 1 < cLine) (ho : QE X cl E o mo) (hi : QE X cl E i mi) (hs : NoSl i := by exact fun _ _ => rfl) : QE X cl E (.Subscript o i pos) (mDGet mo mi) := by
  obtain ⟨t, h1, h2⟩ := ho.ex
  obtain ⟨u, k1, k2⟩ := hi.ex
  exact ⟨_, pe_dget hu h1 k1 hs, snd_dget h2 k2⟩
theorem snd_din {to ti : TE} (hi : SndE ⟨X.K, cl⟩ E ti mi) (ho : SndE ⟨X.K, cl⟩ E to mo) : SndE ⟨X.K, cl⟩ E (tDIn ti to) (mDIn mi mo) := fun ρ S σ α G H Q hρ hR hp =>
  hi ρ S σ α G H _ hρ hR (post_bind hp fun y S1 α1 G1 H1 u _ e1 R1 r1 hp1 => ho ρ S1 σ α1 G1 H1 _ (hρ.mono e1) R1 (post_bind hp1 fun d S2 α2 G2 H2 v _ e2 R2 r2 hp2 => by
    unfold dinK at hp2
    split at hp2
    · rename_i ov hx
      obtain ⟨a, w, rfl, g, z, _⟩ := dgetD_at R2 r2 (Rep.mono e2.pre e2.sub _ _ r1) hx
      exact ⟨a, w, rfl, g, post_ok hp2 R2 (by simp [Rep, z])⟩
    · exact hp2.elim))
theorem snd_dnin {to ti : TE} (hi : SndE ⟨X.K, cl⟩ E ti mi) (ho : SndE ⟨X.K, cl⟩ E to mo) : SndE ⟨X.K, cl⟩ E (tDNotIn ti to) (mDNin mi mo) := fun ρ S σ α G H Q hρ hR hp =>
  hi ρ S σ α G H _ hρ hR (post_bind hp fun y S1 α1 G1 H1 u _ e1 R1 r1 hp1 => ho ρ S1 σ α1 G1 H1 _ (hρ.mono e1) R1 (post_bind hp1 fun d S2 α2 G2 H2 v _ e2 R2 r2 hp2 => by
    unfold dninK at hp2
    split at hp2
    · rename_i ov hx
      obtain ⟨a, w, rfl, g, z, _⟩ := dgetD_at R2 r2 (Rep.mono e2.pre e2.sub _ _ r1) hx
      exact ⟨a, w, rfl, g, post_ok hp2 R2 (by simp [Rep, z])⟩
    · exact hp2.elim))
theorem q_din (hu : X.A.units + 1 < cLine) (hi : QE X cl E i mi) (ho : QE X cl E o mo) (hb : behindInMarks .In o = false := by rfl) : QE X cl E (.Compare i [.In] [o] pos) (mDIn mi mo) := by
  obtain ⟨t, h1, h2⟩ := ho.ex
  obtain ⟨u, k1, k2⟩ := hi.ex
  exact ⟨_, pe_cmp (pc_din hu k1 h1) hb, snd_din k2 h2⟩
theorem q_dnin (hu : X.A.units + 1 < cLine) (hi : QE X cl E i mi) (ho : QE X cl E o mo) (hb : behindInMarks .NotIn o = false := by rfl) : QE X cl E (.Compare i [.NotIn] [o] pos) (mDNin mi mo) := by
  obtain ⟨t, h1, h2⟩ := ho.ex
  obtain ⟨u, k1, k2⟩ := hi.ex
  exact ⟨_, pe_cmp (pc_dnotin hu k1 h1) hb, snd_dnin k2 h2⟩
theorem q_tdin (hu : X.A.units + 1 < cLine) (hi : QE X cl E i mi) (ho : QE X cl E o mo) (hb : behindInMarks .In o = false := by rfl) : QT X cl E (.Compare i [.In] [o] pos) (mTB (mDIn mi mo)) := by
  obtain ⟨t, h1, h2⟩ := ho.ex
  obtain ⟨u, k1, k2⟩ := hi.ex
  exact ⟨_, pt_cmp (pc_din hu k1 h1) hb, snd_tB (snd_din k2 h2)⟩
theorem q_tdnin (hu : X.A.units + 1 < cLine) (hi : QE X cl E i mi) (ho : QE X cl E o mo) (hb : behindInMarks .NotIn o = false := by rfl) : QT X cl E (.Compare i [.NotIn] [o] pos) (mTB (mDNin mi mo)) := by
  obtain ⟨t, h1, h2⟩ := ho.ex
  obtain ⟨u, k1, k2⟩ := hi.ex
  exact ⟨_, pt_cmp (pc_dnotin hu k1 h1) hb, snd_tB (snd_dnin k2 h2)⟩
theorem q_dget2 {apos cpos : Pos} (hu : X.A.units + 1 < cLine) (ho : QE X cl E o mo) (hi : QE X cl E i mi) (hf : QE X cl E f mf) (m : M2 X o "get" apos i f cpos := by exact ⟨rfl, rfl, rfl, rfl⟩) : QE X cl E (.Call (.Attribute o "get" apos) [i, f] [] cpos) (mDGet2 mo mi mf) := by
  obtain ⟨t, h1, h2⟩ := ho.ex
  obtain ⟨u, k1, k2⟩ := hi.ex
  obtain ⟨w, l1, l2⟩ := hf.ex
  refine ⟨_, pe_dget2 hu h1 k1 l1 m, fun ρ S σ α G H Q hρ hR hp => h2 ρ S σ α G H _ hρ hR (post_bind hp fun d S1 α1 G1 H1 v _ e1 R1 r1 hp1 => ?_)⟩
  split at hp1
  · rename_i hd
    obtain ⟨a, rfl, hD⟩ := isDict_at R1 r1 hd
    refine ⟨a, rfl, hD, k2 ρ S1 σ α1 G1 H1 _ (hρ.mono e1) R1 (post_bind hp1 fun y S2 α2 G2 H2 u _ e2 R2 r2 hp2 => l2 ρ S2 σ α2 G2 H2 _ ((hρ.mono e1).mono e2) R2 (post_bind hp2 fun z S3 α3 G3 H3 w _ e3 R3 r3 hp3 => ?_))⟩
    unfold dget2K at hp3
    split at hp3
    · rename_i ov hx
      obtain ⟨a', w', ea, g, z1, z2⟩ := dgetD_at R3 (Rep.mono e3.pre e3.sub _ _ (Rep.mono e2.pre e2.sub _ _ r1)) (Rep.mono e3.pre e3.sub _ _ r2) hx
      cases ea
      refine ⟨w', g, ?_⟩
      cases ov with
      | none =>
        cases w' with
        | none => exact post_ok hp3 R3 r3
        | some _ => simp at z1
      | some x =>
        obtain ⟨w2, rfl, r4⟩ := z2 x rfl
        exact post_ok hp3 R3 r4
    · exact hp3.elim
  · exact hp1.elim
end
def dputD (S : Store) (o i d : D) : Option Store := match o with
  | .ref k => match S[k]? with
    | some (.dk false kvs) => match keyD i with
      | some key => if kvs.length ≤ 100000 then some (S.set k (.dk false (putD kvs key d))) else none
      | none => none
    | some (.dt false kvs) => match tkeyD i with
      | some key => if kvs.length ≤ 100000 then some (S.set k (.dt false (putD kvs key d))) else none
      | none => none
    | _ => none
  | _ => none
theorem dputD_at {Γ : Gm} {α : List Addr} {G H : Hp} {S S' : Store} {o i d : D} {v y w : V} (R : Rl Γ α G S H) (r : Rep Γ α G o v) (r2 : Rep Γ α G i y) (r3 : Rep Γ α G d w) (h : dputD S o i d = some S') :
    ∃ a H', v = .ref a ∧ DPut H a y w H' ∧ Rl Γ α G S' H' ∧ Ext α G H α G H' := by
  cases o <;> try (simp [dputD] at h; done)
  rename_i k
  unfold Rep at r
  obtain ⟨a, rfl, ha⟩ := r
  unfold dputD at h
  cases q : S[k]? with
  | none => simp [q] at h
  | some c =>
    cases c with
    | dk l kvs =>
      cases l <;> simp only [q] at h
      · cases hk : keyD i with
        | none => simp [hk] at h
        | some kk =>
          simp only [hk] at h
          split at h
          · rename_i hl
            cases h
            obtain ⟨o, ⟨ws, rk, e⟩, w1⟩ := R.ok k _ a q ha
            rcases e with ⟨_, rfl⟩ | ⟨e, _⟩
            · rcases w1 with ⟨_, w1, w2⟩ | ⟨w1, _⟩
              · obtain ⟨R2, e2⟩ := R.putC (c1 := .dk false (putD kvs kk d)) q ha rfl rfl ⟨_, rk.put r3, .inl ⟨rfl, rfl⟩⟩
                have := keyD_rep hk r2
                subst this
                exact ⟨a, _, rfl, DPut.k w1 (by rw [← rk.length]; exact Nat.lt_of_le_of_lt hl (by decide)), R2, e2⟩
              · cases w1
            · cases e
          · cases h
      · cases h
    | dt l kvs =>
      cases l <;> simp only [q] at h
      · cases hk : tkeyD i with
        | none => simp [hk] at h
        | some kk =>
          simp only [hk] at h
          split at h
          · rename_i hl
            cases h
            obtain ⟨o, ⟨ws, rk, e⟩, w1⟩ := R.ok k _ a q ha
            rcases e with ⟨_, rfl⟩ | ⟨e, _⟩
            · rcases w1 with ⟨_, w1, w2⟩ | ⟨w1, _⟩
              · obtain ⟨R2, e2⟩ := R.putC (c1 := .dt false (putD kvs kk d)) q ha rfl rfl ⟨_, rk.put r3, .inl ⟨rfl, rfl⟩⟩
                obtain ⟨b, rfl, hb⟩ := tkey_at R hk r2
                exact ⟨a, _, rfl, DPut.t w1 hb (by rw [← rk.length]; exact Nat.lt_of_le_of_lt hl (by decide)), R2, e2⟩
              · cases w1
            · cases e
          · cases h
      · cases h
    | _ => simp [q] at h
def dputK (o i d : D) (S : Store) : Res Unit := match dputD S o i d with
  | some S' => .ok () S'
  | none => .no
def mgDSub (mo mi : ME) : MG := fun d ρ S => (mo ρ S).bind fun o S1 => (mi ρ S1).bind fun i S2 => (dputK o i d S2).bind fun _ S3 => .ok ρ S3
section
variable {X : Cx} {cl : Nat → Addr} {E : XK} {o i e : Expr} {mo mi m : ME} {pos tpos : Pos}
/-- d[i] = .. -/
theorem qg_dsub (hu : X.A.units + 1 < cLine) (ho : QE X cl E o mo) (hi : QE X cl E i mi)
    (ha : ∀ v, assign (.Subscript o i pos) X.env v = (do
      let ov ← holding [v] (eval o X.env)
      let iv ← holding [v, ov] (eval i X.env)
      standAt pos
      holding [v, ov, iv] (setItem ov iv v)
      release [v, ov, iv] []) := by intro _; rfl) : QG X cl E (.Subscript o i pos) (mgDSub mo mi) [] := by
  obtain ⟨t, h1, h2⟩ := ho.ex
  obtain ⟨u, k1, k2⟩ := hi.ex
  refine ⟨_, pg_sub h1 k1 (set_dict hu) ha, fun d ρ S σ α G H v Q hρ hR r hp => ?_⟩
  refine h2 ρ S σ α G H _ hρ hR (post_bind hp fun od S1 α1 G1 H1 ov q1 e1 R1 r1 hp1 => ?_)
  clear q1
  refine k2 ρ S1 σ α1 G1 H1 _ (hρ.mono e1) R1 (post_bind hp1 fun id S2 α2 G2 H2 iv q2 e2 R2 r2 hp2 => ?_)
  clear q2
  have r0 : Rep ⟨X.K, cl⟩ α2 G2 d v := Rep.mono e2.pre e2.sub _ _ (Rep.mono e1.pre e1.sub _ _ r)
  have ro : Rep ⟨X.K, cl⟩ α2 G2 od ov := Rep.mono e2.pre e2.sub _ _ r1
  unfold dputK at hp2
  cases q : dputD S2 od id d with
  | none => rw [q] at hp2; exact hp2.elim
  | some S' =>
    rw [q] at hp2
    obtain ⟨a, H', rfl, g, R3, e3⟩ := dputD_at R2 ro r2 r0 q
    exact ⟨a, H', rfl, g, hp2 _ _ _ σ e3 R3 (((hρ.mono e1).mono e2).mono e3) ⟨rfl, fun _ _ => rfl⟩⟩
/-- d[i] op= e, of ints -/
def mDAugI (mo mi : ME) (f : Int → Int → Int) (m : ME) : MS := fun ρ S => (mo ρ S).bind fun d S1 => (mi ρ S1).bind fun i S2 => match dgetD S2 d i with
  | some (some (.int x)) => (m ρ S2).bind fun z S3 => match z with
    | .int y => (dputK d i (.int (f x y)) S3).bind fun _ S4 => .ok (.nx ρ) S4
    | _ => .no
  | _ => .no
theorem qs_daugI {op : Operator} {f : Int → Int → Int} (ip : PIp X op (ipI f)) (hu : X.A.units + 1 < cLine) (ho : QE X cl E o mo) (hi : QE X cl E i mi) (he : QE X cl E e m)
    (ha : ∀ ov iv new, augStore i ov iv new = (do holding [new, ov, iv] (setItem ov iv new); release [new, ov, iv] []; pure .next) := by intro _ _ _; rfl) : QS X cl E (.AugAssign (.Subscript o i tpos) op e pos) (mDAugI mo mi f m) := by
  obtain ⟨t, h1, h2⟩ := ho.ex
  obtain ⟨u, k1, k2⟩ := hi.ex
  obtain ⟨w, l1, l2⟩ := he.ex
  refine ⟨_, ps_daug hu h1 k1 l1 ip ha, fun ρ S σ α G H Dn hρ hR hp => h2 ρ S σ α G H _ hρ hR (posts_bind hp fun d S1 α1 G1 H1 v _ e1 R1 r1 hp1 => k2 ρ S1 σ α1 G1 H1 _ (hρ.mono e1) R1 (posts_bind hp1 fun y S2 α2 G2 H2 u _ e2 R2 r2 hp2 => ?_))⟩
  split at hp2
  · rename_i x hx
    obtain ⟨a, ov, rfl, g, _, z⟩ := dgetD_at R2 (Rep.mono e2.pre e2.sub _ _ r1) r2 hx
    obtain ⟨w0, rfl, rw0⟩ := z _ rfl
    simp only [Rep] at rw0
    subst rw0
    refine ⟨a, _, rfl, g, l2 ρ S2 σ α2 G2 H2 _ ((hρ.mono e1).mono e2) R2 (posts_bind hp2 fun z S3 α3 G3 H3 w3 _ e3 R3 r3 hp3 => ?_)⟩
    split at hp3
    · rename_i yy _
      simp only [Rep] at r3
      subst r3
      refine ⟨x, yy, rfl, rfl, ?_⟩
      unfold dputK at hp3
      cases q : dputD S3 d y (.int (f x yy)) with
      | none => rw [q] at hp3; exact hp3.elim
      | some S' =>
        rw [q] at hp3
        obtain ⟨a', H', ea, gp, R4, e4⟩ := dputD_at R3 (Rep.mono e3.pre e3.sub _ _ (Rep.mono e2.pre e2.sub _ _ r1)) (Rep.mono e3.pre e3.sub _ _ r2) (show Rep ⟨X.K, cl⟩ α3 G3 (.int (f x yy)) (.int (f x yy)) by simp [Rep]) q
        cases ea
        exact ⟨H', gp, hp3 _ _ _ σ e4 R4 ((((hρ.mono e1).mono e2).mono e3).mono e4)⟩
    · exact hp3.elim
  · exact hp2.elim
end
end Q
namespace Q
open PySem L2
theorem Rl.adopt {Γ : Gm} {α : List Addr} {G H : Hp} {S : Store} (R : Rl Γ α G S H) {p : Addr} {c0 : Cell} {o0 : HO} (hp : H p = some o0) (na : p ∉ α) (ng : G p = none) (hl : c0.live = true) (r : RepC Γ α G p c0 o0) :
    Rl Γ (α ++ [p]) G (S ++ [c0]) H ∧ Rep Γ (α ++ [p]) G (.ref S.length) (.ref p) := by
  let H0 : Hp := fun a => if a = p then none else H a
  have h0 : ∀ a, a ≠ p → H0 a = H a := fun a h => if_neg h
  have R0 : Rl Γ α G S H0 := by
    have ne : ∀ a ∈ α, a ≠ p := fun a m z => by subst z; exact na m
    refine ⟨fun a o e => ?_, R.len, R.nd, fun a m => by rw [h0 a (ne a m)]; exact R.tr a m, fun k c a hc ha => ?_⟩
    · rw [h0 a (fun z => by subst z; rw [ng] at e; cases e)]; exact R.sub a o e
    · exact (R.ok k c a hc ha).mono ⟨[], by simp⟩ (Sub.refl G) fun _ => ⟨h0 a (ne a (List.mem_of_getElem? ha)), fun h => h⟩
  obtain ⟨R1, _, r1⟩ := R0.cellC (show H0 p = none from if_pos rfl) hl r
  have e : upd H0 p o0 = H := by
    funext a
    by_cases h : a = p
    · subst h; rw [upd_same, hp]
    · rw [upd_ne h, h0 a h]
  rw [e] at R1
  exact ⟨R1, r1⟩
/-- the same, seen from the state in which the object did not stand yet -/
theorem Ext.adopt {α α' : List Addr} {G G' H H' : Hp} (e : Ext α G H α' G' H') {p : Addr} (hp : H p = none) : Ext α G H (α' ++ [p]) G' H' := by
  refine ⟨?_, e.sub, e.fr, fun b m => ?_, e.ng⟩
  · obtain ⟨β, rfl⟩ := e.pre
    exact ⟨β ++ [p], by simp⟩
  · rcases List.mem_append.mp m with m | m
    · exact e.na b m
    · simp at m; subst m; exact .inr hp
/-- an object that stands aside stays there -/
theorem Ext.aside {Γ : Gm} {α α' : List Addr} {G G' H H' : Hp} {S : Store} (e : Ext α G H α' G' H') {p : Addr} {o : HO} (hp : H p = some o) (na : p ∉ α) (ng : G p = none) (nt : ∀ xs, o ≠ .tup xs) : H' p = some o ∧ p ∉ α' ∧ G' p = none := by
  refine ⟨e.fr p o hp na, fun m => ?_, ?_⟩
  · rcases e.na p m with z | z
    · exact na z
    · rw [hp] at z; cases z
  · cases q : G' p with
    | none => rfl
    | some u =>
      rcases e.ng p (by rw [q]; simp) with z | z | z | ⟨xs, z⟩
      · exact absurd ng z
      · exact absurd z na
      · rw [hp] at z; cases z
      · rw [hp] at z; exact absurd (Option.some.inj z) (nt xs)
def mDNewK : ME := fun _ S => .ok (.ref S.length) (S ++ [.dk false []])
def mDNewT : ME := fun _ S => .ok (.ref S.length) (S ++ [.dt false []])
/-- {k: v}, a key that is an int or a text -/
def disp1K (k v : D) (S : Store) : Res D := match keyD k with
  | some key => .ok (.ref S.length) (S ++ [.dk false [(key, v)]])
  | none => .no
def mDDisp1 (mk mv : ME) : ME := fun ρ S => (mk ρ S).bind fun k S1 => (mv ρ S1).bind fun v S2 => disp1K k v S2
section
variable {X : Cx} {cl : Nat → Addr} {E : XK} {ek ev : Expr} {mk mv : ME} {pos : Pos}
theorem q_dnewK : QE X cl E (.Dict [] [] pos) mDNewK := ⟨_, pe_dnewK, fun ρ S σ α G H Q hρ hR hp p hz => by
  obtain ⟨R2, e2, r2⟩ := hR.cellC (c0 := .dk false []) hz rfl ⟨[], by simp [RepKV], .inl ⟨rfl, rfl⟩⟩
  exact hp _ _ _ _ e2 R2 r2⟩
theorem q_dnewT : QE X cl E (.Dict [] [] pos) mDNewT := ⟨_, pe_dnewT, fun ρ S σ α G H Q hρ hR hp p hz => by
  obtain ⟨R2, e2, r2⟩ := hR.cellC (c0 := .dt false []) hz rfl ⟨[], by simp [RepKV], .inl ⟨rfl, rfl⟩⟩
  exact hp _ _ _ _ e2 R2 r2⟩
theorem q_ddisp1 (hk : QE X cl E ek mk) (hv : QE X cl E ev mv) : QE X cl E (.Dict [some ek] [ev] pos) (mDDisp1 mk mv) := by
  obtain ⟨t, h1, h2⟩ := hk.ex
  obtain ⟨u, k1, k2⟩ := hv.ex
  refine ⟨_, pe_disp (pps_cons h1 k1 pps_nil) rfl rfl (by simp) (by simp), fun ρ S σ α G H Q hρ hR hp p hz => ?_⟩
  obtain ⟨R0, e0⟩ := hR.out hz (.dK [])
  have na : p ∉ α := fun m => hR.tr p m hz
  have ng : G p = none := hR.gnone hz
  refine h2 ρ S σ α G _ _ hρ R0 ?_
  revert hp
  unfold mDDisp1
  cases mk ρ S with
  | no => exact fun h => h.elim
  | ex e S' => exact fun h α' G' H' c x ex rl rp => h α' G' H' c x (e0.trans ex) rl rp
  | ok kd S1 =>
    intro hp α1 G1 H1 kv x1 R1 r1
    refine k2 ρ S1 σ α1 G1 H1 _ ((hρ.mono e0).mono x1) R1 ?_
    revert hp
    rw [bind_ok]
    cases mv ρ S1 with
    | no => exact fun h => h.elim
    | ex e S' => exact fun h α' G' H' c x ex rl rp => h α' G' H' c x ((e0.trans x1).trans ex) rl rp
    | ok vd S2 =>
      intro hp α2 G2 H2 vv x2 R2 r2
      obtain ⟨w1, w2, w3⟩ := (x1.trans x2).aside (Γ := ⟨X.K, cl⟩) (S := S) upd_same na ng (fun xs z => nomatch z)
      rw [bind_ok] at hp
      unfold disp1K at hp
      cases hk : keyD kd with
      | none => rw [hk] at hp; exact hp.elim
      | some key =>
        simp only [hk] at hp
        have hkv := keyD_rep hk r1
        subst hkv
        refine ⟨w1, [(key, vv)], rfl, by simp, ?_⟩
        have eM : mergeK [] [(key, vv)] = [(key, vv)] := rfl
        rw [eM]
        have R3 := R2.patch w2 w3 (.dK [(key, vv)])
        obtain ⟨R4, r4⟩ := R3.adopt (c0 := .dk false [(key, vd)]) upd_same w2 w3 rfl ⟨[(key, vv)], by
          unfold RepKV
          exact ⟨vv, [], rfl, r2, by simp [RepKV]⟩, .inl ⟨rfl, rfl⟩⟩
        exact hp _ _ _ _ ((((e0.trans x1).trans x2).patch hz _).adopt hz) R4 r4
end
mutual
theorem Rep.keeps {Γ : Gm} {α : List Addr} {G G' : Hp} (k : ∀ b o, G b = some o → (∀ od u, o = .frz od u → ∃ xs, u = .lst xs) → G' b = some o) : ∀ (d : D) (v : V), Rep Γ α G d v → Rep Γ α G' d v
  | .non, v, h => by simpa [Rep] using h
  | .bl b, v, h => by simpa [Rep] using h
  | .int i, v, h => by simpa [Rep] using h
  | .str s, v, h => by simpa [Rep] using h
  | .tup ds, v, h => by
    unfold Rep at h ⊢
    obtain ⟨a, vs, e, q, r⟩ := h
    exact ⟨a, vs, e, k _ _ q fun _ _ z => (nomatch z), RepL.keeps k ds vs r⟩
  | .lst ds, v, h => by
    unfold Rep at h ⊢
    obtain ⟨a, vs, e, q, r⟩ := h
    exact ⟨a, vs, e, k _ _ q fun _ _ z => (nomatch z), RepL.keeps k ds vs r⟩
  | .fro ds, v, h => by
    unfold Rep at h ⊢
    obtain ⟨a, vs, e, q, r⟩ := h
    refine ⟨a, vs, e, ?_, RepL.keeps k ds vs r⟩
    rcases q with (q | ⟨o, q⟩) | q
    · exact .inl (.inl (k _ _ q fun _ _ z => (nomatch z)))
    · exact .inl (.inr ⟨o, k _ _ q fun od u z => by cases z; exact ⟨vs, rfl⟩⟩)
    · exact .inr q
  | .obj c ds, v, h => by
    unfold Rep at h ⊢
    obtain ⟨a, vs, e, ⟨dx, h1, h2⟩, r⟩ := h
    exact ⟨a, vs, e, ⟨dx, k _ _ h1 (fun _ _ z => by unfold SlX.SlO at z; cases z), k _ _ h2 fun _ _ z => (nomatch z)⟩, RepL.keeps k ds vs r⟩
  | .exn c ds, v, h => by
    unfold Rep at h ⊢
    obtain ⟨a, vs, e, ⟨d, h1, h2⟩, r⟩ := h
    exact ⟨a, vs, e, ⟨d, k _ _ h1 (fun _ _ z => by unfold ExK at z; cases z), h2.keep fun _ _ z => k _ _ z fun _ _ y => (nomatch y)⟩, RepL.keeps k ds vs r⟩
  | .ref n, v, h => by
    unfold Rep at h ⊢
    exact h
theorem RepL.keeps {Γ : Gm} {α : List Addr} {G G' : Hp} (k : ∀ b o, G b = some o → (∀ od u, o = .frz od u → ∃ xs, u = .lst xs) → G' b = some o) : ∀ (ds : List D) (vs : List V), RepL Γ α G ds vs → RepL Γ α G' ds vs
  | [], vs, h => by simpa [RepL] using h
  | d :: ds, vs, h => by
    unfold RepL at h ⊢
    obtain ⟨v, r, e, h1, h2⟩ := h
    exact ⟨v, r, e, Rep.keeps k d v h1, RepL.keeps k ds r h2⟩
end
theorem RepKV.keeps {Γ : Gm} {α : List Addr} {G G' : Hp} {κ : Type} (k : ∀ b o, G b = some o → (∀ od u, o = .frz od u → ∃ xs, u = .lst xs) → G' b = some o) : ∀ {kvs : List (κ × D)} {ws : List (κ × V)}, RepKV Γ α G kvs ws → RepKV Γ α G' kvs ws
  | [], ws, h => by simpa [RepKV] using h
  | p :: r, ws, h => by
    unfold RepKV at h ⊢
    obtain ⟨v, t, e, h1, h2⟩ := h
    exact ⟨v, t, e, Rep.keeps k _ _ h1, RepKV.keeps k h2⟩
theorem RepC.keeps {Γ : Gm} {α : List Addr} {G G' : Hp} {a : Addr} {c : Cell} {o : HO} (k : ∀ b o, G b = some o → (∀ od u, o = .frz od u → ∃ xs, u = .lst xs) → G' b = some o) (h : RepC Γ α G a c o) : RepC Γ α G' a c o := by
  cases c with
  | lst ds => obtain ⟨vs, e, r⟩ := h; exact ⟨vs, e, RepL.keeps k _ _ r⟩
  | frz ds => obtain ⟨vs, e, r⟩ := h; exact ⟨vs, e, RepL.keeps k _ _ r⟩
  | dk lk kvs => obtain ⟨ws, r, e⟩ := h; exact ⟨ws, r.keeps k, e⟩
  | dt lk kvs => obtain ⟨ws, r, e⟩ := h; exact ⟨ws, r.keeps k, e⟩
  | ob c fs =>
    obtain ⟨dx, vs, e, hx, r⟩ := h
    refine ⟨dx, vs, e, k _ _ hx fun _ _ z => (nomatch z), fun i d hd => ?_⟩
    obtain ⟨v, e1, r1⟩ := r i d hd
    exact ⟨v, e1, Rep.keeps k _ _ r1⟩
def lockC : Cell → Option Cell
  | .dk false kvs => some (.dk true kvs)
  | .dt false kvs => some (.dt true kvs)
  | _ => none
def unlockC : Cell → Option Cell
  | .dk true kvs => some (.dk false kvs)
  | .dt true kvs => some (.dt false kvs)
  | _ => none
def er (G : Hp) (a : Addr) : Hp := fun b => if b = a then none else G b
section
variable {Γ : Gm} {α α' : List Addr} {G G' H H' : Hp} {S S' : Store} {k : Nat} {a : Addr} {c c1 c2 : Cell}
theorem Rl.lock (R : Rl Γ α G S H) (hk : S[k]? = some c) (hc : lockC c = some c1) (ha : α[k]? = some a) : ∃ u, H a = some u ∧ G a = none ∧ Mut (some u) ∧ (∀ xs, u ≠ .lst xs) ∧ (∀ xs, u ≠ .tup xs) ∧ ∀ od, Rl Γ α (upd G a (.frz od u)) (S.set k c1) (upd H a (.frz od u)) ∧ Ext α G H α (upd G a (.frz od u)) (upd H a (.frz od u)) := by
  have hm : a ∈ α := List.mem_of_getElem? ha
  obtain ⟨u, rc, w⟩ := R.ok k c a hk ha
  have nt : ∀ xs, u ≠ .tup xs := rc.ntup
  have key : c.live = true ∧ c1.live = false ∧ Mut (some u) ∧ (∀ xs, u ≠ .lst xs) ∧ ∀ G2 od, RepC Γ α G2 a c u → RepC Γ α G2 a c1 (.frz od u) := by
    cases c with
    | dk l kvs =>
      cases l
      · cases hc
        obtain ⟨ws, r, e⟩ := rc
        rcases e with ⟨_, rfl⟩ | ⟨e, _⟩
        · refine ⟨rfl, rfl, trivial, (fun _ z => nomatch z), fun G2 od h => ?_⟩
          obtain ⟨ws2, r2, e2⟩ := h
          rcases e2 with ⟨_, e2⟩ | ⟨e2, _⟩
          · cases e2; exact ⟨ws, r2, .inr ⟨rfl, od, rfl⟩⟩
          · cases e2
        · cases e
      · cases hc
    | dt l kvs =>
      cases l
      · cases hc
        obtain ⟨ws, r, e⟩ := rc
        rcases e with ⟨_, rfl⟩ | ⟨e, _⟩
        · refine ⟨rfl, rfl, trivial, (fun _ z => nomatch z), fun G2 od h => ?_⟩
          obtain ⟨ws2, r2, e2⟩ := h
          rcases e2 with ⟨_, e2⟩ | ⟨e2, _⟩
          · cases e2; exact ⟨ws, r2, .inr ⟨rfl, od, rfl⟩⟩
          · cases e2
        · cases e
      · cases hc
    | _ => cases hc
  obtain ⟨k1, k2, k3, k4, k5⟩ := key
  have hHG : H a = some u ∧ G a = none := by
    rcases w with ⟨_, w1, w2⟩ | ⟨w, _⟩
    · exact ⟨w1, w2⟩
    · rw [k1] at w; cases w
  refine ⟨u, hHG.1, hHG.2, k3, k4, nt, fun od => ?_⟩
  have sg : Sub G (upd G a (.frz od u)) := Sub.new hHG.2
  have nea : ∀ j b, α[j]? = some b → k ≠ j → b ≠ a := fun j b hb hjk z => by
    subst z
    obtain ⟨h1, e1⟩ := List.getElem?_eq_some_iff.mp ha
    obtain ⟨h2, e2⟩ := List.getElem?_eq_some_iff.mp hb
    exact hjk ((List.getElem_inj R.nd).mp (e1.trans e2.symm))
  refine ⟨⟨fun b o e => ?_, by simp [R.len], R.nd, fun b m => ?_, fun j cc b hcc hb => ?_⟩, ⟨⟨[], by simp⟩, sg, fun b o e m => ?_, fun b m => .inl m, fun b h => ?_⟩⟩
  · by_cases z : b = a
    · subst z; rw [upd_same] at e ⊢; exact e
    · rw [upd_ne z] at e ⊢; exact R.sub b o e
  · by_cases z : b = a
    · subst z; rw [upd_same]; simp
    · rw [upd_ne z]; exact R.tr b m
  · by_cases hjk : k = j
    · subst hjk
      rw [List.getElem?_set_self (List.getElem?_eq_some_iff.mp hk).1] at hcc
      rw [ha] at hb
      cases hb
      cases hcc
      exact ⟨_, k5 _ od (rc.mono ⟨[], by simp⟩ sg), .inr ⟨k2, upd_same⟩⟩
    · rw [List.getElem?_set_ne hjk] at hcc
      have ne := nea j b hb hjk
      exact (R.ok j cc b hcc hb).mono ⟨[], by simp⟩ sg fun _ => ⟨upd_ne ne, fun h => by rw [upd_ne ne]; exact h⟩
  · rw [upd_ne (fun z => by subst z; exact m hm)]; exact e
  · by_cases z : b = a
    · subst z; exact .inr (.inl hm)
    · rw [upd_ne z] at h; exact .inl h
theorem Rl.unlock {u : HO} {od : Obj} (ha : α[k]? = some a) (hH : H a = some u) (hG : G a = none) (nl : ∀ xs, u ≠ .lst xs) (e : Ext α (upd G a (.frz od u)) (upd H a (.frz od u)) α' G' H') (R : Rl Γ α' G' S' H') (hk : S'[k]? = some c) (hc : unlockC c = some c2) :
    H' a = some (.frz od u) ∧ (∀ b o, G' b = some o → (∀ od u, o = .frz od u → ∃ xs, u = .lst xs) → er G' a b = some o) ∧ Rl Γ α' (er G' a) (S'.set k c2) (upd H' a u) ∧ Ext α G H α' (er G' a) (upd H' a u) := by
  have hm : a ∈ α := List.mem_of_getElem? ha
  have ha' : α'[k]? = some a := by
    obtain ⟨β, rfl⟩ := e.pre
    rw [List.getElem?_append_left (List.getElem?_eq_some_iff.mp ha).1]
    exact ha
  have hm' : a ∈ α' := List.mem_of_getElem? ha'
  have hG' : G' a = some (.frz od u) := e.sub _ _ upd_same
  have hH' : H' a = some (.frz od u) := R.sub _ _ hG'
  have kp : ∀ b o, G' b = some o → (∀ od u, o = .frz od u → ∃ xs, u = .lst xs) → er G' a b = some o := fun b o h n => by
    have : b ≠ a := fun z => by
      subst z
      rw [hG'] at h
      cases h
      obtain ⟨xs, e⟩ := n od u rfl
      exact nl xs e
    unfold er
    rw [if_neg this, h]
  have erne : ∀ b, b ≠ a → er G' a b = G' b := fun b h => if_neg h
  have era : er G' a a = none := if_pos rfl
  refine ⟨hH', kp, ⟨fun b o h => ?_, by simp [R.len], R.nd, fun b m => ?_, fun j cc b hcc hb => ?_⟩, ⟨e.pre, fun b o h => ?_, fun b o h m => ?_, fun b m => ?_, fun b h => ?_⟩⟩
  · have ne : b ≠ a := fun z => by subst z; rw [era] at h; cases h
    rw [erne b ne] at h
    rw [upd_ne ne]
    exact R.sub b o h
  · by_cases z : b = a
    · subst z; rw [upd_same]; simp
    · rw [upd_ne z]; exact R.tr b m
  · by_cases hjk : k = j
    · subst hjk
      rw [List.getElem?_set_self (List.getElem?_eq_some_iff.mp hk).1] at hcc
      rw [ha'] at hb
      cases hb
      cases hcc
      obtain ⟨o, rc, w⟩ := R.ok k c a hk ha'
      cases c with
      | dk l kvs =>
        cases l
        · cases hc
        · cases hc
          rcases w with ⟨w, _⟩ | ⟨_, w⟩
          · cases w
          · rw [hG'] at w
            cases w
            obtain ⟨ws, r, e⟩ := rc
            rcases e with ⟨e, _⟩ | ⟨_, od', e⟩
            · cases e
            · cases e
              exact ⟨_, ⟨ws, r.keeps kp, .inl ⟨rfl, rfl⟩⟩, .inl ⟨rfl, upd_same, era⟩⟩
      | dt l kvs =>
        cases l
        · cases hc
        · cases hc
          rcases w with ⟨w, _⟩ | ⟨_, w⟩
          · cases w
          · rw [hG'] at w
            cases w
            obtain ⟨ws, r, e⟩ := rc
            rcases e with ⟨e, _⟩ | ⟨_, od', e⟩
            · cases e
            · cases e
              exact ⟨_, ⟨ws, r.keeps kp, .inl ⟨rfl, rfl⟩⟩, .inl ⟨rfl, upd_same, era⟩⟩
      | _ => cases hc
    · rw [List.getElem?_set_ne hjk] at hcc
      have ne : b ≠ a := fun z => by
        subst z
        obtain ⟨h1, e1⟩ := List.getElem?_eq_some_iff.mp ha'
        obtain ⟨h2, e2⟩ := List.getElem?_eq_some_iff.mp hb
        exact hjk ((List.getElem_inj R.nd).mp (e1.trans e2.symm))
      obtain ⟨o, rc, w⟩ := R.ok j cc b hcc hb
      refine ⟨o, rc.keeps kp, ?_⟩
      rw [upd_ne ne, erne b ne]
      exact w
  · have ne : b ≠ a := fun z => by subst z; rw [hG] at h; cases h
    rw [erne b ne]
    exact e.sub b o (by rw [upd_ne ne]; exact h)
  · have ne : b ≠ a := fun z => by subst z; exact m hm
    rw [upd_ne ne]
    exact e.fr b o (by rw [upd_ne ne]; exact h) m
  · rcases e.na b m with z | z
    · exact .inl z
    · by_cases ne : b = a
      · subst ne; exact .inl hm
      · rw [upd_ne ne] at z; exact .inr z
  · by_cases ne : b = a
    · subst ne; exact .inr (.inl hm)
    · rw [erne b ne] at h
      rcases e.ng b h with z | z | z | ⟨xs, z⟩
      · rw [upd_ne ne] at z; exact .inl z
      · exact .inr (.inl z)
      · rw [upd_ne ne] at z; exact .inr (.inr (.inl z))
      · rw [upd_ne ne] at z; exact .inr (.inr (.inr ⟨xs, z⟩))
end
theorem EnvR.keeps {Γ : Gm} {α : List Addr} {G G' : Hp} {ρ : Env} {σ : L2.St} (k : ∀ b o, G b = some o → (∀ od u, o = .frz od u → ∃ xs, u = .lst xs) → G' b = some o) (h : EnvR Γ α G ρ σ) : EnvR Γ α G' ρ σ :=
  ⟨h.1, fun i d hi => let ⟨v, a, b⟩ := h.2 i d hi; ⟨v, a, Rep.keeps k _ _ b⟩⟩
/-- the k-th cell, a dict, is locked while f runs -/
def lockAt {β : Type} (k : Nat) (S : Store) (f : Store → Res β) : Res β := match (S[k]?).bind lockC with
  | some c => (f (S.set k c)).bind fun d S2 => match (S2[k]?).bind unlockC with
    | some c2 => .ok d (S2.set k c2)
    | none => .no
  | none => .no
def mLockE (md m : ME) : ME := fun ρ S => match md ρ S with
  | .ok (.ref k) _ => lockAt k S (m ρ)
  | _ => .no
def mLockS (md : ME) (n : MS) : MS := fun ρ S => match md ρ S with
  | .ok (.ref k) _ => lockAt k S (n ρ)
  | _ => .no
section
variable {Γ : Gm} {E : XK} {md m : ME} {n : MS}
theorem snd_lockE {t : TE} (h : SndE Γ E t m) : SndE Γ E (tLockE t) (mLockE md m) := fun ρ S σ α G H Q hρ hR hp => by
  unfold mLockE at hp
  split at hp
  case h_2 => exact hp.elim
  rename_i k _ _
  unfold lockAt at hp
  cases hk : S[k]? with
  | none => rw [hk] at hp; exact hp.elim
  | some c =>
    rw [hk, Option.bind_some] at hp
    cases hc : lockC c with
    | none => rw [hc] at hp; exact hp.elim
    | some c1 =>
      rw [hc] at hp
      have hl : k < α.length := by rw [hR.len]; exact (List.getElem?_eq_some_iff.mp hk).1
      have ha : α[k]? = some α[k] := List.getElem?_eq_getElem hl
      obtain ⟨u, hH, hG, mu, nl, nt, rest⟩ := hR.lock hk hc ha
      refine ⟨α[k], u, hH, mu, fun od => ?_⟩
      obtain ⟨R1, e1⟩ := rest od
      refine h ρ _ σ α _ _ _ (hρ.mono e1) R1 ?_
      dsimp only at hp
      revert hp
      cases m ρ (S.set k c1) with
      | no => exact fun hp => hp
      | ex e S' => exact fun hp α' G' H' c x ex rl rp => hp α' G' H' c x (e1.trans ex) rl rp
      | ok d S2 =>
        intro hp α' G' H' v e R r
        dsimp only [Res.bind] at hp
        cases hk2 : S2[k]? with
        | none => rw [hk2] at hp; exact hp.elim
        | some c3 =>
          rw [hk2, Option.bind_some] at hp
          cases hc2 : unlockC c3 with
          | none => rw [hc2] at hp; exact hp.elim
          | some c4 =>
            rw [hc2] at hp
            obtain ⟨w1, kp, R2, e2⟩ := Rl.unlock ha hH hG nl e R hk2 hc2
            exact ⟨w1, hp α' _ _ v e2 R2 (Rep.keeps kp _ _ r)⟩
theorem snd_lockS {t : TS} (h : SndS Γ E t n) : SndS Γ E (tLock t) (mLockS md n) := fun ρ S σ α G H Dn hρ hR hp => by
  unfold mLockS at hp
  split at hp
  case h_2 => exact hp.elim
  rename_i k _ _
  unfold lockAt at hp
  cases hk : S[k]? with
  | none => rw [hk] at hp; exact hp.elim
  | some c =>
    rw [hk, Option.bind_some] at hp
    cases hc : lockC c with
    | none => rw [hc] at hp; exact hp.elim
    | some c1 =>
      rw [hc] at hp
      have hl : k < α.length := by rw [hR.len]; exact (List.getElem?_eq_some_iff.mp hk).1
      have ha : α[k]? = some α[k] := List.getElem?_eq_getElem hl
      obtain ⟨u, hH, hG, mu, nl, nt, rest⟩ := hR.lock hk hc ha
      refine ⟨α[k], u, hH, mu, fun od => ?_⟩
      obtain ⟨R1, e1⟩ := rest od
      refine h ρ _ σ α _ _ _ (hρ.mono e1) R1 ?_
      dsimp only at hp
      revert hp
      cases n ρ (S.set k c1) with
      | no => exact fun hp => hp
      | ex e S' => exact fun hp α' G' H' c x ex rl rp => hp α' G' H' c x (e1.trans ex) rl rp
      | ok f S2 =>
        intro hp
        dsimp only [Res.bind] at hp
        cases hk2 : S2[k]? with
        | none => rw [hk2] at hp; exact hp.elim
        | some c3 =>
          rw [hk2, Option.bind_some] at hp
          cases hc2 : unlockC c3 with
          | none => rw [hc2] at hp; exact hp.elim
          | some c4 =>
            rw [hc2] at hp
            cases f with
            | nx ρ1 => exact fun α' G' H' σ' e R r => let ⟨w1, kp, R2, e2⟩ := Rl.unlock ha hH hG nl e R hk2 hc2; ⟨w1, hp α' _ _ σ' e2 R2 (EnvR.keeps kp r)⟩
            | rt d => exact fun α' G' H' v e R r => let ⟨w1, kp, R2, e2⟩ := Rl.unlock ha hH hG nl e R hk2 hc2; ⟨w1, hp α' _ _ v e2 R2 (Rep.keeps kp _ _ r)⟩
            | bk ρ1 => exact fun α' G' H' σ' e R r => let ⟨w1, kp, R2, e2⟩ := Rl.unlock ha hH hG nl e R hk2 hc2; ⟨w1, hp α' _ _ σ' e2 R2 (EnvR.keeps kp r)⟩
            | ct ρ1 => exact fun α' G' H' σ' e R r => let ⟨w1, kp, R2, e2⟩ := Rl.unlock ha hH hG nl e R hk2 hc2; ⟨w1, hp α' _ _ σ' e2 R2 (EnvR.keeps kp r)⟩
end
def keysOf (d : D) (S : Store) : Res (List D) := match d with
  | .ref k => match S[k]? with
    | some (.dk true kvs) => .ok (kvs.map fun p => dKey p.1) S
    | some (.dt true kvs) => .ok (kvs.map fun p => .tup (p.1.map dKey)) S
    | _ => .no
  | _ => .no
def mKeys (m : ME) : MA := fun ρ S => (m ρ S).bind keysOf
section
variable {Γ : Gm} {α : List Addr} {G : Hp} {a : Addr} {od : Obj}
theorem steps_keys {kvs : List (Key × D)} {ws : List (Key × V)} (hG : G a = some (.frz od (.dK ws))) (r : RepKV Γ α G kvs ws) : Steps Γ α G (kvs.map fun p => dKey p.1) (Itk a od ws) := fun i α2 G2 H2 S2 hp hs R2 => by
  have q : H2 a = some (.frz od (.dK ws)) := R2.sub _ _ (hs _ _ hG)
  have hl := r.length
  refine ⟨fun h => ⟨q, by simp at h; omega⟩, fun d hd => ?_⟩
  have hi : i < kvs.length := by have := (List.getElem?_eq_some_iff.mp hd).1; simpa using this
  refine ⟨⟨q, by omega⟩, fun x H3 hy => ?_⟩
  obtain ⟨rfl, k, v, hk, rfl⟩ := hy
  obtain ⟨d0, h0, _⟩ := r.get hk
  rw [List.getElem?_map, h0] at hd
  cases hd
  exact ⟨G2, R2, Ext.refl _ _ _, dKey_rep k⟩
theorem steps_keysT {kvs : List (List Key × D)} {ws : List (List Key × V)} (hG : G a = some (.frz od (.dT ws))) (r : RepKV Γ α G kvs ws) : Steps Γ α G (kvs.map fun p => .tup (p.1.map dKey)) (Itkt a od ws) := fun i α2 G2 H2 S2 hp hs R2 => by
  have q : H2 a = some (.frz od (.dT ws)) := R2.sub _ _ (hs _ _ hG)
  have hl := r.length
  refine ⟨fun h => ⟨q, by simp at h; omega⟩, fun d hd => ?_⟩
  have hi : i < kvs.length := by have := (List.getElem?_eq_some_iff.mp hd).1; simpa using this
  refine ⟨⟨q, by omega⟩, fun x H3 hy => ?_⟩
  obtain ⟨rfl, k, v, b, hk, rfl, hb⟩ := hy
  obtain ⟨d0, h0, _⟩ := r.get hk
  rw [List.getElem?_map, h0] at hd
  cases hd
  cases z : G2 b with
  | some o =>
    have := R2.sub _ _ z
    rw [hb] at this
    cases this
    exact ⟨G2, R2, Ext.refl _ _ _, rep_tup z (dKeys_rep k)⟩
  | none =>
    have nb : b ∉ α2 := fun m => R2.ntup m _ hb
    have sg : Sub G2 (upd G2 b (.tup (k.map kV))) := Sub.new z
    refine ⟨upd G2 b (.tup (k.map kV)), ⟨fun c o h => ?_, R2.len, R2.nd, R2.tr, fun j cc c hc hα => ?_⟩, ⟨⟨[], by simp⟩, sg, fun c o h _ => h, fun c m => .inl m, fun c h => ?_⟩, rep_tup upd_same (dKeys_rep k)⟩
    · by_cases e : c = b
      · subst e; rw [upd_same] at h; cases h; exact hb
      · rw [upd_ne e] at h; exact R2.sub c o h
    · have ne : c ≠ b := fun e => by subst e; exact nb (List.mem_of_getElem? hα)
      exact (R2.ok j cc c hc hα).mono ⟨[], by simp⟩ sg fun _ => ⟨rfl, fun h => by rw [upd_ne ne]; exact h⟩
    · by_cases e : c = b
      · subst e; exact .inr (.inr (.inr ⟨_, hb⟩))
      · rw [upd_ne e] at h; exact .inl h
end
section
variable {X : Cx} {cl : Nat → Addr} {E : XK} {m md : ME} {n : MS} {e : Expr} {st : Stmt}
theorem qi_keys {tg it : Expr} (h : QE X cl E it m) : QI X cl E tg it (mKeys m) := by
  obtain ⟨t, h1, h2⟩ := h.ex
  refine ⟨_, pi_keys h1, fun ρ S σ α G H R hρ hR hp => ?_⟩
  refine h2 ρ S σ α G H _ hρ hR (posti_bind hp fun d S1 α1 G1 H1 v _ e1 R1 r1 hp1 => ?_)
  unfold keysOf at hp1
  cases d <;> try exact hp1.elim
  rename_i k _
  simp only at hp1
  unfold Rep at r1
  obtain ⟨a, rfl, ha⟩ := r1
  split at hp1
  · rename_i kvs hk
    obtain ⟨o, ⟨ws, r, e⟩, w⟩ := R1.ok k _ a hk ha
    rcases e with ⟨e, _⟩ | ⟨_, od, rfl⟩
    · cases e
    · rcases w with ⟨w, _⟩ | ⟨_, w⟩
      · cases w
      · exact ⟨a, od, rfl, .inl ⟨ws, R1.sub _ _ w, hp1 α1 G1 H1 _ (Ext.refl _ _ _) R1 (steps_keys w r)⟩⟩
  · rename_i kvs hk
    obtain ⟨o, ⟨ws, r, e⟩, w⟩ := R1.ok k _ a hk ha
    rcases e with ⟨e, _⟩ | ⟨_, od, rfl⟩
    · cases e
    · rcases w with ⟨w, _⟩ | ⟨_, w⟩
      · cases w
      · exact ⟨a, od, rfl, .inr ⟨ws, R1.sub _ _ w, hp1 α1 G1 H1 _ (Ext.refl _ _ _) R1 (steps_keysT w r)⟩⟩
  · exact hp1.elim
theorem q_lockE (md : ME) (h : QE X cl E e m) : QE X cl E e (mLockE md m) := by
  obtain ⟨t, h1, h2⟩ := h.ex
  exact ⟨_, pe_lock h1, snd_lockE h2⟩
theorem q_lockS (md : ME) (h : QS X cl E st n) : QS X cl E st (mLockS md n) := by
  obtain ⟨t, h1, h2⟩ := h.ex
  exact ⟨_, ps_lock h1, snd_lockS h2⟩
end
end Q
namespace Q
open PySem PySem.Spec PyProof.Rows L2
/-- the dict at hand takes one entry more, keys of either sort -/
theorem put_in {X : Cx} {pins : List (Addr × Obj)} {τ : L2.St} {J J' : Hp} {u : Shared} {Ex : Value → Shared → Prop} {N : Addr} {y z : V} {yv zv : Value} {R : Unit → Shared → Prop} (hu : X.A.units < cLine) (I : Inv X pins τ J u) (g : DPut J N y z J')
    (ry : RelV y yv) (rz : RelV z zv) (next : ∀ u', Inv X pins τ J' u' → R () u') : wpAny (model X.prog X.w) X.A (dictSet N yv zv) R Ex u := by
  rcases g with ⟨es, ky, eN, ey, room, eJ⟩ | ⟨es, ky, t, eN, ey, et, room, eJ⟩
  · subst ey
    subst eJ
    exact d_dictSet I eN room ry rz next
  · subst ey
    subst eJ
    obtain rfl : yv = Value.ref t := ry
    obtain ⟨bound, far, ps, rel, dd⟩ := dt_of I.hok eN
    have few : ps.length ≤ sizeLine := by rw [← Paired.length rel]; exact bound
    have few2 : (putK es ky z).length ≤ sizeLine := Nat.le_trans (length_putK es ky z) room
    refine wpAny_dictSet_heap (hsz := few) (show (tupleKind (mixKind X.prog X.w)).room X.A from hu) (key_of I.hok et) dd fun hp nd but => next _ ?_
    obtain ⟨ob, en, el, q0, q1, q2, q3, _, q4⟩ := nd
    refine d_write I (by rw [eN]; trivial) but ⟨ob, q0⟩ ⟨few2, far, _, (rel.put ky et rz).keeps fun c ys ec => ?_, ob, en, el, q0, q1, q2, q3, q4⟩
    have ne : c ≠ N := ne_of ec eN fun z => nomatch z
    rw [upd_ne ne, ec]
/-- the reading of such a comprehension: o0 is the empty dict of the sort of keys -/
def tDcx (o0 : HO) (wi : TI) (g : TG) (tt : TT) (tk tv : TE) (vs : List Nat) : TE := fun σ H Q => wi σ H fun It H1 => ∀ N, H1 N = none → ∃ W : Nat → Nat → Hp → Prop, (∃ m, W 0 m (upd H1 N o0)) ∧ ∀ i m J, W i m J →
  (It.stop i J ∧ Q (.ref N) J) ∨ (It.go i J ∧ ∃ On : Hp → Prop, (∀ J', On J' → ∃ m', m' < m ∧ W (i + 1) m' J') ∧ ∀ x J', It.yld i J x J' → g x (wipe σ vs) J' fun σ2 J2 => wipe σ2 vs = wipe σ vs ∧ tt σ2 J2 fun b J3 =>
    if b = true then tk σ2 J3 fun y J4 => tv σ2 J4 fun z J5 => ∃ J6, DPut J5 N y z J6 ∧ On J6 else On J3)
abbrev Bk (X : Cx) (scope : Scope) (u : Shared) (J : Hp) (C : Addr) (c : List (Str × Addr)) (fp : List Addr) : Cx := X.blk u J scope (compEnvC scope c C X.env) fp
section
variable {X : Cx} {pins : List (Addr × Obj)} {u0 : Shared} {τ : L2.St} {J0 : Hp} {Qv : VK} {kx vx tg iter : Expr} {ifs : List Expr} {scope : Scope} {own : List (Str × Nat)} {pos pos' : Pos} {wi : TI} {g : TG} {tt : TT} {tk tv : TE} {use : Option (Value → Sem Unit)} {Qf : Value → Shared → Prop} {o0 : HO}
theorem dcx_core (hu : X.A.units < cLine) (h0 : o0 = .dK [] ∨ o0 = .dT []) (calm : X.calm = true) (nod : X.N.Nodup) (I : Inv X pins τ J0 u0) (hit : PI X tg iter wi) (blk : BlkOk X.N X.env.scope scope own)
    (ptg : ∀ (u : Shared) (J : Hp) (C : Addr) (c : List (Str × Addr)) (fp : List Addr), PG (Bk X scope u J C c fp) tg g)
    (pts : ∀ (u : Shared) (J : Hp) (C : Addr) (c : List (Str × Addr)) (fp : List Addr), PTs (Bk X scope u J C c fp) ifs tt)
    (pky : ∀ (u : Shared) (J : Hp) (C : Addr) (c : List (Str × Addr)) (fp : List Addr), PE (Bk X scope u J C c fp) kx tk)
    (pvl : ∀ (u : Shared) (J : Hp) (C : Addr) (c : List (Str × Addr)) (fp : List Addr), PE (Bk X scope u J C c fp) vx tv) (fold : ∀ x, foldedSetIterable iter X.env x = pure x)
    (asked : tDcx o0 wi g tt tk tv (own.map (·.2)) τ J0 Qv)
    (close : ∀ N C u' m J', Inv X pins τ J' u' → Qv (.ref N) J' → u'.heap.Ns C m → FpOk X pins J' C → compPost (model X.prog X.w) X.A X.xe use Qf (.ref N) C (.ok .next) u') :
    wpAny (model X.prog X.w) X.A (comprehension (.DictComp kx vx [⟨tg, iter, ifs, 0⟩] scope pos) scope X.env pos' newDict false (eval iter X.env) use) Qf X.xe u0 := by
  have frees : ∀ y ∈ scope.names, y.2 = .free → ∃ c, X.env.cells.lookup y.1 = some c := fun y hy e => I.ok.has _ ((blk.free y hy e).elim .inl .inr)
  refine wpAny_comprehension_free (use := use) rfl fold (closure_ok frees) blk.kind (fun y hy e => by rw [blk.uniq y hy, e]) (thn (hit.run pins u0 τ J0 _ I asked) fun xv u1 hx => thn hx fun itv u2 h2 => ?_)
  obtain ⟨it, fp, tn, It, J2, e, I2, T, at2, fr2, q⟩ := h2
  subst e
  refine wpAny_newObj_type (newEnv_comp ?_)
  generalize eN : u2.heap.objs.size = N
  have nN : J2 N = none := I2.hok.fresh (Nat.le_of_eq eN)
  obtain ⟨W, ⟨mm, w0⟩, turn⟩ := q N nN
  generalize eu3 : ({ u2 with heap := u2.heap.push { cls := .type "dict", data := .dict #[] } } : Shared) = u3
  have eh3 : u3.heap = u2.heap.push { cls := .type "dict", data := .dict #[] } := by rw [← eu3]
  have I3 : Inv X pins τ (upd J2 N o0) u3 := by
    rw [← eu3]
    refine I2.laid (t' := u2.toks) (fun b o e => Heap.get?_push_of_some _ e) (Nat.le_of_eq eN) ?_
    rw [← eN]
    rcases h0 with rfl | rfl
    · exact dk_empty u2.heap I2.big
    · exact dt_empty u2.heap I2.big
  have fr3 : ∀ b ∈ fp, FpOk X pins (upd J2 N o0) b ∧ b < u3.heap.objs.size := fun b hb => by
    have lt : b < u2.heap.objs.size := let ⟨_, e, _⟩ := T.obj _ _ at2 b hb; Heap.lt_size e
    have ne : b ≠ N := by rw [← eN]; exact Nat.ne_of_lt lt
    exact ⟨⟨by rw [upd_ne ne]; exact (fr2 b hb).1, (fr2 b hb).2⟩, by rw [eh3, Heap.size_push]; exact Nat.lt_succ_of_lt lt⟩
  have at3 : tn 0 u3.heap := T.keep _ _ _ at2 fun b _ o e => eh3 ▸ Heap.get?_push_of_some _ e
  have I4 := block_start I3 blk nod fr3
  generalize eclo : cellsFrom (u3.heap.objs.size + 1) scope.names (cloFrom X.env.cells scope.names []) = clo at I4 ⊢
  have g1 := ptg u3 (upd J2 N o0) u3.heap.objs.size clo fp
  have g2 := pts u3 (upd J2 N o0) u3.heap.objs.size clo fp
  have g3 := pky u3 (upd J2 N o0) u3.heap.objs.size clo fp
  have g4 := pvl u3 (upd J2 N o0) u3.heap.objs.size clo fp
  show codeAny _ _ (.compStart (.DictComp kx vx [⟨tg, iter, ifs, 0⟩] scope pos) 0 (.ref it) (.ref N) (compEnvC scope clo u3.heap.objs.size X.env))
    (compPost (model X.prog X.w) X.A X.xe use Qf (.ref N) u3.heap.objs.size) { u3 with heap := pushCells (u3.heap.push { cls := .type "dict", data := .dict #[] }) scope.names }
  have free3 : ∀ b ∈ fp, (upd J2 N o0) b = none := fun b hb => (fr3 b hb).1.1
  unfold Bk at g1 g2 g3 g4
  generalize eenv : compEnvC scope clo u3.heap.objs.size X.env = env2 at I4 g1 g2 g3 g4 ⊢
  have loc2 : env2.locals = u3.heap.objs.size := by subst eenv; rfl
  generalize eJ3 : upd J2 N o0 = J3 at I3 I4 g1 g2 g3 g4 w0 free3 fr3
  generalize eu4 : ({ u3 with heap := pushCells (u3.heap.push { cls := .type "dict", data := .dict #[] }) scope.names } : Shared) = u4 at I4 ⊢
  have at4 : tn 0 u4.heap := T.keep _ _ _ at3 fun b _ o e => eu4 ▸ pushCells_keeps _ _ _ _ (Heap.get?_push_of_some _ e)
  have okf : ∀ {τ' : L2.St} {J' : Hp} {u' : Shared}, Inv (X.blk u3 J3 scope env2 fp) [] τ' J' u' → (∀ b ∈ fp, J' b = none) → ∀ b ∈ fp, FpOk (X.blk u3 J3 scope env2 fp) [] J' b := fun I' fr b hb =>
    ⟨fr b hb, (I'.ok.exf b hb).1, I'.ok.exfs b hb, .inl hb, fun x c e => (I'.ok.exf b hb).2 x c e, fun p hp => absurd (show p ∈ ([] : List (Addr × Obj)) ++ [] from hp) (by simp)⟩
  refine (fun run => codeAny_compStart_dict run (T.self X.A 0 _ _ _ at4 run)) (?_ : codeAny (model X.prog X.w) X.A (.compLoop (.DictComp kx vx [⟨tg, iter, ifs, 0⟩] scope pos) 0 (.ref it) (.ref N) env2) (compPost (model X.prog X.w) X.A X.xe use Qf (.ref N) u3.heap.objs.size) u4)
  refine compLoop_anyD (fun n u' => ∃ i J', Inv (X.blk u3 J3 scope env2 fp) [] (wipe τ (own.map (·.2))) J' u' ∧ tn i u'.heap ∧ (∀ b ∈ fp, J' b = none) ∧ W i n J') ?_ mm ⟨0, J3, I4, at4, free3, w0⟩
  rintro n u5 ⟨i, J5, I5, at5, free5, w5⟩
  rcases turn i n J5 w5 with ⟨stop, last⟩ | ⟨go, On, less, body⟩
  · refine thnF (T.done (X.blk u3 J3 scope env2 fp) rfl rfl rfl calm i [] u5 _ J5 (fun _ _ => False) I5 (okf I5 free5) at5 stop) fun r u6 ⟨hr, I6⟩ => ?_
    subst hr
    have back : Inv X pins τ J5 u6 := I3.call' (ch := fp) I6.os I6.base I6.hok I6.bare fun b hb => let z := (fr3 b hb).1; ⟨z.2.2.2.1, z.2.1, z.2.2.2.2.1, z.2.2.2.2.2⟩
    have noC : J5 u3.heap.objs.size = none := loc2 ▸ (I6.free : J5 env2.locals = none)
    obtain ⟨m, hn, _⟩ := I6.loc
    have hn2 : u6.heap.Ns env2.locals m := hn
    rw [loc2] at hn2
    exact close N u3.heap.objs.size u6 m J5 back last hn2 (I3.fpOk (Nat.le_refl _) noC)
  · refine thnF (T.item (X.blk u3 J3 scope env2 fp) rfl rfl rfl calm i [] u5 _ J5 (fun _ _ => False) I5 (okf I5 free5) at5 go) fun r u6 ⟨yy, hr, h6⟩ => ?_
    subst hr
    refine thnF h6 fun _ u7 ⟨x, J7, I7, r7, y7, at7, free7⟩ => ?_
    refine thnF (g1.run _ u7 _ J7 x yy _ (I7.pinned (okf I7 free7) (T.obj _ _ at7)) r7 (body x J7 y7)) fun _ u8 ⟨τ8, J8, I8, wiped, q8⟩ => ?_
    refine thnF (g2.run _ u8 τ8 J8 _ I8 q8) fun b u9 ⟨J9, I9, q9⟩ => ?_
    have turned : ∀ {u' : Shared} {J' : Hp}, Inv (X.blk u3 J3 scope env2 fp) ([] ++ pinsAt fp u7.heap) τ8 J' u' → On J' → ∃ m, m < n ∧ ∃ i J', Inv (X.blk u3 J3 scope env2 fp) [] (wipe τ (own.map (·.2))) J' u' ∧ tn i u'.heap ∧ (∀ b ∈ fp, J' b = none) ∧ W i m J' := fun {u' J'} I' on => by
      obtain ⟨m', hm, w'⟩ := less J' on
      have held : ∀ b ∈ fp, ∀ o, u7.heap.get? b = some o → u'.heap.get? b = some o ∧ J' b = none := fun b hb o e => let z := I'.pin (b, o) (List.mem_append_right _ (List.mem_append_right _ (mem_pinsAt hb e))); ⟨z.1, z.2.1⟩
      have len : (wipe τ (own.map (·.2))).length = τ8.length := by rw [← wiped, wipe_length]
      refine ⟨m', hm, i + 1, J', (I'.unpinned (pins := [])).weak len (fun j v e => (wipe_some (wiped ▸ e)).1), T.keep _ _ _ at7 fun b hb o e => (held b hb o e).1, fun b hb => ?_, w'⟩
      obtain ⟨o, e, _⟩ := T.obj _ _ at7 b hb
      exact (held b hb o e).2
    cases b with
    | false => exact turned I9 (by simpa using q9)
    | true =>
      simp only [if_true] at q9 ⊢
      refine thnF (g3.run _ u9 τ8 J9 _ I9 q9) fun kv u10 ⟨y, J10, I10, r10, q10⟩ => ?_
      refine thnF (g4.run _ u10 τ8 J10 _ I10 q10) fun vv u11 ⟨z, J11, I11, r11, J12, put, on⟩ => ?_
      exact put_in (X := X.blk u3 J3 scope env2 fp) hu I11 put r10 r11 fun u12 I12 => turned I12 on
/-- the comprehension as a value -/
theorem pe_dcx (hu : X.A.units < cLine) (h0 : o0 = .dK [] ∨ o0 = .dT []) (calm : X.calm = true) (nod : X.N.Nodup) (hit : PI X tg iter wi) (blk : BlkOk X.N X.env.scope scope own)
    (ptg : ∀ (u : Shared) (J : Hp) (C : Addr) (c : List (Str × Addr)) (fp : List Addr), PG (Bk X scope u J C c fp) tg g)
    (pts : ∀ (u : Shared) (J : Hp) (C : Addr) (c : List (Str × Addr)) (fp : List Addr), PTs (Bk X scope u J C c fp) ifs tt)
    (pky : ∀ (u : Shared) (J : Hp) (C : Addr) (c : List (Str × Addr)) (fp : List Addr), PE (Bk X scope u J C c fp) kx tk)
    (pvl : ∀ (u : Shared) (J : Hp) (C : Addr) (c : List (Str × Addr)) (fp : List Addr), PE (Bk X scope u J C c fp) vx tv) (fold : ∀ x, foldedSetIterable iter X.env x = pure x := by intro _; rfl) :
    PE X (.DictComp kx vx [⟨tg, iter, ifs, 0⟩] scope pos) (tDcx o0 wi g tt tk tv (own.map (·.2))) := ⟨fun pins u τ J Qw I asked => by
  rw [arm_eval_DictComp]
  refine dcx_core hu h0 calm nod I hit blk ptg pts pky pvl fold asked fun N C u' m J' I' q hn f => ⟨m, hn, fun hp but => ?_⟩
  obtain ⟨f0, f1, f2, f3, f4, f5⟩ := f
  exact ⟨.ref N, J', I'.turned (t' := u'.toks) (fun b o hb e => (but.2 b hb).trans e) f0 f1 f3 f4 f5, rfl, q⟩⟩
end
structure DSort (κ : Type) [DecidableEq κ] where
  kf : D → Option κ
  ho : List (κ × V) → HO
  ce : List (κ × D) → Cell
structure DSort.Ok {κ : Type} [DecidableEq κ] (s : DSort κ) : Prop where
  nil : s.ho [] = .dK [] ∨ s.ho [] = .dT []
  live : ∀ kvs, (s.ce kvs).live = true
  rep : ∀ (Γ : Gm) (α : List Addr) (G : Hp) (p : Addr) kvs ws, RepKV Γ α G kvs ws → RepC Γ α G p (s.ce kvs) (s.ho ws)
  ntup : ∀ ws xs, s.ho ws ≠ .tup xs
  put : ∀ (Γ : Gm) (α : List Addr) (G H : Hp) (S : Store) (d : D) k (y : V) (p : Addr) ws (z : V), Rl Γ α G S H → s.kf d = some k → Rep Γ α G d y → H p = some (s.ho ws) → ws.length < sizeLine → DPut H p y z (upd H p (s.ho (putK ws k z)))
def sortK : DSort Key := ⟨keyD, .dK, .dk false⟩
def sortT : DSort (List Key) := ⟨tkeyD, .dT, .dt false⟩
theorem sortK_ok : sortK.Ok := ⟨.inl rfl, fun _ => rfl, fun _ _ _ _ _ ws r => ⟨ws, r, .inl ⟨rfl, rfl⟩⟩, (fun _ _ z => nomatch z), fun _ _ _ _ _ _ _ _ _ _ _ _ hk r hp hl => by
  have := keyD_rep hk r
  subst this
  exact DPut.k hp hl⟩
theorem sortT_ok : sortT.Ok := ⟨.inr rfl, fun _ => rfl, fun _ _ _ _ _ ws r => ⟨ws, r, .inl ⟨rfl, rfl⟩⟩, (fun _ _ z => nomatch z), fun _ _ _ _ _ _ _ _ _ _ _ R hk r hp hl => by
  obtain ⟨b, rfl, hb⟩ := tkey_at R hk r
  exact DPut.t hp hb hl⟩
section
variable {κ : Type} [DecidableEq κ]
def dcL (s : DSort κ) (g : MG) (t : MT) (mk mv : ME) (ρ0 : Env) : List D → List (κ × D) → Store → Res (List (κ × D))
  | [], acc, S => .ok acc S
  | d :: ds, acc, S => (g d ρ0 S).bind fun ρ1 S1 => (t ρ1 S1).bind fun b S2 => match b with
    | true => (mk ρ1 S2).bind fun k S3 => (mv ρ1 S3).bind fun v S4 => match s.kf k with
      | some key => dcL s g t mk mv ρ0 ds (putD acc key v) S4
      | none => .no
    | false => dcL s g t mk mv ρ0 ds acc S2
/-- {k: v for g in mi if t}: a new cell -/
def mDc (s : DSort κ) (mi : MA) (g : MG) (t : MT) (mk mv : ME) (vs : List Nat) : ME := fun ρ S => (mi ρ S).bind fun ds S1 => if ds.length ≤ 100000 then (dcL s g t mk mv (wp ρ vs) ds [] S1).bind fun kvs S2 => .ok (.ref S2.length) (S2 ++ [s.ce kvs]) else .no
theorem putD_len (kvs : List (κ × D)) (k : κ) (d : D) : (putD kvs k d).length ≤ kvs.length + 1 := by
  unfold putD
  split <;> simp
structure MidX (Γ : Gm) (α1 : List Addr) (G1 H1 : Hp) (p : Addr) (α : List Addr) (G : Hp) (S : Store) (H : Hp) (o : HO) : Prop where
  ext : Ext α1 G1 H1 α G H
  rl : Rl Γ α G S H
  at_ : H p = some o
  na : p ∉ α
  ng : G p = none
variable {Γ : Gm} {α1 α α' : List Addr} {G1 H1 G H G' H' : Hp} {p : Addr} {S S' : Store} {o o' : HO}
theorem MidX.step (M : MidX Γ α1 G1 H1 p α G S H o) (nt : ∀ xs, o ≠ .tup xs) (e : Ext α G H α' G' H') (R : Rl Γ α' G' S' H') : MidX Γ α1 G1 H1 p α' G' S' H' o :=
  let ⟨w1, w2, w3⟩ := e.aside (Γ := Γ) (S := S) M.at_ M.na M.ng nt
  ⟨M.ext.trans e, R, w1, w2, w3⟩
theorem MidX.push (M : MidX Γ α1 G1 H1 p α G S H o) (hp : H1 p = none) (o' : HO) : MidX Γ α1 G1 H1 p α G S (upd H p o') o' :=
  ⟨M.ext.patch hp _, M.rl.patch M.na M.ng _, upd_same, M.na, M.ng⟩
def PostX (s : DSort κ) (Γ : Gm) (E : XK) (α1 : List Addr) (G1 H1 : Hp) (p : Addr) (r : Res (List (κ × D))) (Q : VK) : Prop := match r with
  | .ok kvs S' => ∀ α G H ws, MidX Γ α1 G1 H1 p α G S' H (s.ho ws) → RepKV Γ α G kvs ws → Q (.ref p) H
  | .ex e S' => ∀ α G H c x, Ext α1 G1 H1 α G H → Rl Γ α G S' H → ExR Γ α G e c x H → E c x H
  | .no => False
variable {E : XK} {wi : TI} {mi : MA} {g : TG} {mg : MG} {js vs : List Nat} {tt : TT} {mt : MT} {tk tv : TE} {mk mv : ME} {s : DSort κ}
theorem snd_dc (ok : s.Ok) (hi : SndI Γ E wi mi) (hg : SndG Γ E g mg js) (ht : SndT Γ E tt mt) (hk : SndE Γ E tk mk) (hv : SndE Γ E tv mv) (hj : ∀ j ∈ js, j ∈ vs) : SndE Γ E (tDcx (s.ho []) wi g tt tk tv vs) (mDc s mi mg mt mk mv vs) := fun ρ S σ α G H Qw hρ hR hp => by
  refine hi ρ S σ α G H _ hρ hR ?_
  unfold mDc at hp
  cases q : mi ρ S with
  | no => rw [q] at hp; exact hp
  | ex e S' => rw [q] at hp; exact hp
  | ok ds S1 =>
    rw [q] at hp
    intro α1 G1 H1 J e1 R1 st p hp0
    have hp := (show Post Γ (Rep Γ) α G H (if ds.length ≤ 100000 then _ else _) Qw E from hp)
    split at hp
    case isFalse => exact hp.elim
    rename_i hl
    have hp1 := Post.mono hp e1
    have hpa : p ∉ α1 := fun z => R1.tr p z hp0
    have hpg : G1 p = none := R1.gnone hp0
    have hq : PostX s Γ E α1 G1 H1 p (dcL s mg mt mk mv (wp ρ vs) ds [] S1) Qw := by
      revert hp1
      cases dcL s mg mt mk mv (wp ρ vs) ds [] S1 with
      | no => exact fun h => h
      | ex e S' => exact fun h => h
      | ok kvs S2 =>
        intro hp1 α2 G2 H2 ws M r
        obtain ⟨R3, r3⟩ := M.rl.adopt (c0 := s.ce kvs) M.at_ M.na M.ng (ok.live kvs) (ok.rep _ _ _ _ _ _ r)
        exact hp1 _ _ H2 (.ref p) (M.ext.adopt hp0) R3 r3
    refine ⟨fun i k H => k = ds.length - i ∧ i ≤ ds.length ∧ ∃ S2 α2 G2 acc ws, MidX Γ α1 G1 H1 p α2 G2 S2 H (s.ho ws) ∧ RepKV Γ α2 G2 acc ws ∧ acc.length ≤ i ∧ PostX s Γ E α1 G1 H1 p (dcL s mg mt mk mv (wp ρ vs) (ds.drop i) acc S2) Qw,
      ⟨ds.length, by simp, Nat.zero_le _, S1, α1, G1, [], [], ⟨(Ext.refl _ _ _).patch hp0 _, R1.patch hpa hpg _, upd_same, hpa, hpg⟩, by simp [RepKV], Nat.le_refl _, by simpa using hq⟩, ?_⟩
    rintro i k H2 ⟨rfl, hle, S2, α2, G2, acc, ws, M2, r2, ha2, hq2⟩
    obtain ⟨stop, go⟩ := st i α2 G2 H2 S2 M2.ext.pre M2.ext.sub M2.rl
    by_cases hlt : i < ds.length
    · have hd : ds[i]? = some ds[i] := List.getElem?_eq_getElem hlt
      obtain ⟨hgo, hy⟩ := go _ hd
      refine .inr ⟨hgo, fun H' => ∃ S2 α2 G2 acc ws, MidX Γ α1 G1 H1 p α2 G2 S2 H' (s.ho ws) ∧ RepKV Γ α2 G2 acc ws ∧ acc.length ≤ i + 1 ∧ PostX s Γ E α1 G1 H1 p (dcL s mg mt mk mv (wp ρ vs) (ds.drop (i + 1)) acc S2) Qw, fun H' z => ⟨ds.length - (i + 1), by omega, rfl, hlt, z⟩, fun x H3 y3 => ?_⟩
      obtain ⟨G3, R3, e3, rx⟩ := hy x H3 y3
      have M3 := M2.step (ok.ntup _) e3 R3
      rw [List.drop_eq_getElem_cons hlt] at hq2
      simp only [dcL] at hq2
      have hρ3 : EnvR Γ α2 G3 (wp ρ vs) (wipe σ vs) := by
        have := (hρ.mono e1).mono (M3.ext)
        exact this.wp vs
      refine hg ds[i] (wp ρ vs) S2 (wipe σ vs) α2 G3 H3 x _ hρ3 R3 rx ?_
      cases q4 : mg ds[i] (wp ρ vs) S2 with
      | no => rw [q4] at hq2; exact hq2.elim
      | ex e' S' =>
        rw [q4] at hq2
        exact fun α' G' H' c x e R r => hq2 α' G' H' c x (M3.ext.trans e) R r
      | ok ρ4 S4 =>
        rw [q4] at hq2
        dsimp only [Res.bind] at hq2
        intro α4 G4 H4 σ4 e4 R4 r4 ⟨l4, o4⟩
        have M4 := M3.step (ok.ntup _) e4 R4
        refine ⟨wipe_same l4 o4 hj, ?_⟩
        refine ht ρ4 S4 σ4 α4 G4 H4 _ r4 R4 ?_
        cases q5 : mt ρ4 S4 with
        | no => rw [q5] at hq2; exact hq2.elim
        | ex e' S' =>
          rw [q5] at hq2
          exact fun α' G' H' c x e R r => hq2 α' G' H' c x (M4.ext.trans e) R r
        | ok b S5 =>
          rw [q5] at hq2
          dsimp only [Res.bind] at hq2
          intro α5 G5 H5 b' e5 R5 rb
          have rb : b = b' := rb
          subst rb
          have M5 := M4.step (ok.ntup _) e5 R5
          have r5 : RepKV Γ α5 G5 acc ws := ((r2.mono e3.pre e3.sub).mono e4.pre e4.sub).mono e5.pre e5.sub
          cases b with
          | false => exact iteF ⟨S5, α5, G5, acc, ws, M5, r5, by omega, hq2⟩
          | true =>
            refine iteT (hk ρ4 S5 σ4 α5 G5 H5 _ (r4.mono e5) R5 ?_)
            cases q6 : mk ρ4 S5 with
            | no => rw [q6] at hq2; exact hq2.elim
            | ex e' S' =>
              rw [q6] at hq2
              exact fun α' G' H' c x e R r => hq2 α' G' H' c x (M5.ext.trans e) R r
            | ok kd S6 =>
              rw [q6] at hq2
              dsimp only [Res.bind] at hq2
              intro α6 G6 H6 y e6 R6 ry
              have M6 := M5.step (ok.ntup _) e6 R6
              refine hv ρ4 S6 σ4 α6 G6 H6 _ ((r4.mono e5).mono e6) R6 ?_
              cases q7 : mv ρ4 S6 with
              | no => rw [q7] at hq2; exact hq2.elim
              | ex e' S' =>
                rw [q7] at hq2
                exact fun α' G' H' c x e R r => hq2 α' G' H' c x (M6.ext.trans e) R r
              | ok vd S7 =>
                rw [q7] at hq2
                dsimp only [Res.bind] at hq2
                intro α7 G7 H7 z e7 R7 rz
                have M7 := M6.step (ok.ntup _) e7 R7
                cases hkf : s.kf kd with
                | none => rw [hkf] at hq2; exact hq2.elim
                | some key =>
                  rw [hkf] at hq2
                  have r7 : RepKV Γ α7 G7 acc ws := (r5.mono e6.pre e6.sub).mono e7.pre e7.sub
                  have hwl : ws.length < sizeLine := by
                    rw [← r7.length]
                    exact Nat.lt_of_le_of_lt (by omega : acc.length ≤ 100000) (by decide)
                  refine ⟨_, ok.put _ _ _ _ _ _ key y p ws z R7 hkf (Rep.mono e7.pre e7.sub _ _ ry) M7.at_ hwl, S7, α7, G7, putD acc key vd, putK ws key z, M7.push hp0 _, r7.put rz, ?_, hq2⟩
                  exact Nat.le_trans (putD_len acc key vd) (by omega)
    · refine .inl ⟨stop (by omega), ?_⟩
      rw [List.drop_of_length_le (by omega)] at hq2
      exact hq2 α2 G2 H2 ws M2 r2
end
section
variable {X : Cx} {cl : Nat → Addr} {E : XK} {κ : Type} [DecidableEq κ] {s : DSort κ} {kx vx tg iter : Expr} {ifs : List Expr} {scope : Scope} {pos : Pos} {mi : MA} {mg : MG} {mt : MT} {mk mv : ME} {js : List Nat}
theorem q_dc (ok : s.Ok) (own : List (Str × Nat)) (hu : X.A.units + 1 < cLine) (hi : QI X cl E tg iter mi) (hN : X.N.Nodup) (blk : BlkOk X.N X.env.scope scope own)
    (hg : ∀ (u : Shared) (J : Hp) (C : Addr) (c : List (Str × Addr)) (fp : List Addr), QG (Bk X scope u J C c fp) cl E tg mg js)
    (ht : ∀ (u : Shared) (J : Hp) (C : Addr) (c : List (Str × Addr)) (fp : List Addr), PTs (Bk X scope u J C c fp) ifs (tT ⟨X.K, cl⟩ E mt))
    (hk : ∀ (u : Shared) (J : Hp) (C : Addr) (c : List (Str × Addr)) (fp : List Addr), QE (Bk X scope u J C c fp) cl E kx mk)
    (hv : ∀ (u : Shared) (J : Hp) (C : Addr) (c : List (Str × Addr)) (fp : List Addr), QE (Bk X scope u J C c fp) cl E vx mv)
    (hj : ∀ j ∈ js, j ∈ own.map (·.2) := by decide) (hc : X.calm = true := by rfl) (hs : ∀ x, foldedSetIterable iter X.env x = pure x := by intro _; rfl) :
    QE X cl E (.DictComp kx vx [⟨tg, iter, ifs, 0⟩] scope pos) (mDc s mi mg mt mk mv (own.map (·.2))) := by
  obtain ⟨wi, h1, h2⟩ := hi.ex
  exact ⟨_, pe_dcx (Nat.lt_of_succ_lt hu) ok.nil hc hN h1 blk (fun s H C c fp => (hg s H C c fp).can) ht (fun s H C c fp => (hk s H C c fp).can) (fun s H C c fp => (hv s H C c fp).can) hs, snd_dc (Γ := ⟨X.K, cl⟩) ok h2 snd_tG snd_tT snd_tE snd_tE hj⟩
end
end Q
namespace Q
open PySem L2
def RPair : List Addr → Hp → Int × Int → Int × Int → Prop := fun _ _ a b => a = b
abbrev MRg := Env → Store → Res (Int × Int)
structure QRg (X : Cx) (cl : Nat → Addr) (E : XK) (e : Expr) (m : MRg) : Prop where
  ex : ∃ t, PRg X e t ∧ ∀ (ρ : Env) (S : Store) (σ : L2.St) (α : List Addr) (G H : Hp) (R : Int → Int → Hp → Prop), EnvR ⟨X.K, cl⟩ α G ρ σ → Rl ⟨X.K, cl⟩ α G S H → Post ⟨X.K, cl⟩ RPair α G H (m ρ S) (fun p H' => R p.1 p.2 H') E → t σ H R
def rgK1 (d : D) (S : Store) : Res (Int × Int) := match d with
  | .int n => .ok (0, n) S
  | _ => .no
def mRg1 (m : ME) : MRg := fun ρ S => (m ρ S).bind rgK1
def rgK2 (d d' : D) (S : Store) : Res (Int × Int) := match d, d' with
  | .int i, .int j => .ok (i, j) S
  | _, _ => .no
def mRg2 (m m' : ME) : MRg := fun ρ S => (m ρ S).bind fun d S1 => (m' ρ S1).bind fun d' S2 => rgK2 d d' S2
section
variable {X : Cx} {cl : Nat → Addr} {E : XK} {a b e : Expr} {ma mb : ME} {r : MRg}
theorem qrg_1 {p pos : Pos} (h : QE X cl E a ma) (hg : Gl X "range") (hm : X.mg "range" = none) (na : starEach [a] X.env = (false, eval a X.env) :: starEach [] X.env := by rfl) : QRg X cl E (.Call (.Name "range" p) [a] [] pos) (mRg1 ma) := by
  obtain ⟨t, h1, h2⟩ := h.ex
  refine ⟨_, prg_1 hg hm h1 na, fun ρ S σ α G H R hρ hR hp => h2 ρ S σ α G H _ hρ hR (post_bind hp fun d S1 α1 G1 H1 v _ e1 R1 r1 hp1 => ?_)⟩
  cases d <;> try exact hp1.elim
  rename_i n _
  simp only [Rep] at r1
  subst r1
  exact ⟨n, rfl, post_ok (x := (0, n)) hp1 R1 rfl⟩
theorem qrg_2 {p pos : Pos} (h : QE X cl E a ma) (h' : QE X cl E b mb) (hg : Gl X "range") (hm : X.mg "range" = none) (na : starEach [a, b] X.env = (false, eval a X.env) :: starEach [b] X.env := by rfl)
    (nb : starEach [b] X.env = (false, eval b X.env) :: starEach [] X.env := by rfl) (hp : (backTo pos (starEach [b] X.env)).any (·.1) = false := by rfl) : QRg X cl E (.Call (.Name "range" p) [a, b] [] pos) (mRg2 ma mb) := by
  obtain ⟨t, h1, h2⟩ := h.ex
  obtain ⟨u, k1, k2⟩ := h'.ex
  refine ⟨_, prg_2 hg hm h1 k1 na nb hp, fun ρ S σ α G H R hρ hR hp => h2 ρ S σ α G H _ hρ hR (post_bind hp fun d S1 α1 G1 H1 v _ e1 R1 r1 hp1 => k2 ρ S1 σ α1 G1 H1 _ (hρ.mono e1) R1 (post_bind hp1 fun d' S2 α2 G2 H2 w _ e2 R2 r2 hp2 => ?_))⟩
  cases d <;> cases d' <;> try exact hp2.elim
  rename_i i _ j _
  simp only [Rep] at r1 r2
  subst r1 r2
  exact ⟨i, j, rfl, rfl, post_ok (x := (i, j)) hp2 R2 rfl⟩
def rgOk (p : Int × Int) : Bool := decide (p.1.natAbs < 2 ^ 40) && decide (p.2.natAbs < 2 ^ 40) && decide ((p.2 - p.1).toNat ≤ 100000)
theorem rgOk_at {p : Int × Int} (h : rgOk p = true) : RgOk p.1 p.2 := by
  unfold rgOk at h
  simp only [Bool.and_eq_true, decide_eq_true_eq] at h
  exact ⟨by omega, by omega, by omega, by omega, by omega⟩
def rgD (p : Int × Int) : List D := rangeD p.1 (p.2 - p.1).toNat
theorem rg_rep {Γ : Gm} {α : List Addr} {G : Hp} (p : Int × Int) : RepL Γ α G (rgD p) (rgV p.1 p.2) := by
  unfold rgD rangeD rgV
  induction (p.2 - p.1).toNat with
  | zero => simp [RepL]
  | succ n ih =>
    rw [List.range_succ, List.map_append, List.map_append]
    exact ih.append (by simp [RepL, Rep])
def lstRgK (p : Int × Int) (S : Store) : Res D := if rgOk p then .ok (.lst (rgD p)) S else .no
def celRgK (p : Int × Int) (S : Store) : Res D := if rgOk p then .ok (.ref S.length) (S ++ [.lst (rgD p)]) else .no
def tupRgK (p : Int × Int) (S : Store) : Res D := if rgOk p then .ok (.tup (rgD p)) S else .no
def mLstRg (r : MRg) : ME := fun ρ S => (r ρ S).bind lstRgK
def mCelRg (r : MRg) : ME := fun ρ S => (r ρ S).bind celRgK
def mTupRg (r : MRg) : ME := fun ρ S => (r ρ S).bind tupRgK
theorem q_lstRg {p pos : Pos} (h : QRg X cl E e r) (hg : Gl X "list") (hm : X.mg "list" = none) (hc : X.calm = true := by rfl) (na : starEach [e] X.env = (false, eval e X.env) :: starEach [] X.env := by rfl) : QE X cl E (.Call (.Name "list" p) [e] [] pos) (mLstRg r) := by
  obtain ⟨t, h1, h2⟩ := h.ex
  refine ⟨_, pe_listRg hc hg hm h1 na, fun ρ S σ α G H Q hρ hR hp => h2 ρ S σ α G H _ hρ hR (post_bind hp fun d S1 α1 G1 H1 v _ e1 R1 r1 hp1 => ?_)⟩
  have r1 : d = v := r1
  subst r1
  unfold lstRgK at hp1
  split at hp1
  · rename_i hk
    exact ⟨rgOk_at hk, fun q hq => post_lst R1 (rg_rep d) hp1 hq⟩
  · exact hp1.elim
theorem q_celRg {p pos : Pos} (h : QRg X cl E e r) (hg : Gl X "list") (hm : X.mg "list" = none) (hc : X.calm = true := by rfl) (na : starEach [e] X.env = (false, eval e X.env) :: starEach [] X.env := by rfl) : QE X cl E (.Call (.Name "list" p) [e] [] pos) (mCelRg r) := by
  obtain ⟨t, h1, h2⟩ := h.ex
  refine ⟨_, pe_listRg hc hg hm h1 na, fun ρ S σ α G H Q hρ hR hp => h2 ρ S σ α G H _ hρ hR (post_bind hp fun d S1 α1 G1 H1 v _ e1 R1 r1 hp1 => ?_)⟩
  have r1 : d = v := r1
  subst r1
  unfold celRgK at hp1
  split at hp1
  · rename_i hk
    exact ⟨rgOk_at hk, fun q hq => post_cell R1 (rg_rep d) hp1 hq⟩
  · exact hp1.elim
theorem q_tupRg {p pos : Pos} (h : QRg X cl E e r) (hg : Gl X "tuple") (hm : X.mg "tuple" = none) (hc : X.calm = true := by rfl) (na : starEach [e] X.env = (false, eval e X.env) :: starEach [] X.env := by rfl) : QE X cl E (.Call (.Name "tuple" p) [e] [] pos) (mTupRg r) := by
  obtain ⟨t, h1, h2⟩ := h.ex
  refine ⟨_, pe_tupRg hc hg hm h1 na, fun ρ S σ α G H Q hρ hR hp => h2 ρ S σ α G H _ hρ hR (post_bind hp fun d S1 α1 G1 H1 v _ e1 R1 r1 hp1 => ?_)⟩
  have r1 : d = v := r1
  subst r1
  unfold tupRgK at hp1
  split at hp1
  · rename_i hk
    exact ⟨rgOk_at hk, fun q hq => post_tup R1 (rg_rep d) hp1 hq⟩
  · exact hp1.elim
end
section
variable {S : Store} {ρ : Env}
@[simp] theorem ap_fldR (c i : Nat) (m : ME) : mFldR c i m ρ S = (m ρ S).bind (fldR c i) := (Eq.refl _).trans rfl
theorem fldR_ok {c i k : Nat} {fs : List (Option D)} {x : D} (h : S[k]? = some (.ob c fs)) (hx : fs[i]? = some (some x)) : fldR c i (.ref k) S = .ok x S := by simp [fldR, obOf_ref h, hx]
def gFldK1 (c i : Nat) (d : D) (ρ : Env) (o : D) (S : Store) : Res Env := (setFld c i o d S).bind fun _ S2 => .ok ρ S2
@[simp] theorem ap_gfld (c i : Nat) (mo : ME) (d : D) : mgFld c i mo d ρ S = (mo ρ S).bind (gFldK1 c i d ρ) := (Eq.refl _).trans rfl
theorem gFld_ok {c i k : Nat} {fs : List (Option D)} {d : D} (h : S[k]? = some (.ob c fs)) : gFldK1 c i d ρ (.ref k) S = .ok ρ (S.set k (.ob c (putO i d fs))) := by simp [gFldK1, setFld, obOf_ref h]
def methRK2 (g : List D → Store → Res D) (d : D) (ds : List D) (S : Store) : Res D := g (d :: ds) S
@[simp] theorem methRK2_ap (g : List D → Store → Res D) (d : D) (ds : List D) : methRK2 g d ds S = g (d :: ds) S := (Eq.refl _).trans rfl
def methRK (c : Nat) (g : List D → Store → Res D) (n : MA) (ρ : Env) (d : D) (S : Store) : Res D := match obOf S c d with
  | some _ => (n ρ S).bind (methRK2 g d)
  | none => .no
@[simp] theorem ap_methR (c : Nat) (g : List D → Store → Res D) (m : ME) (n : MA) : mMethR c g m n ρ S = (m ρ S).bind (methRK c g n ρ) := (Eq.refl _).trans rfl
theorem methRK_ok {c k : Nat} {g : List D → Store → Res D} {n : MA} {fs : List (Option D)} (h : S[k]? = some (.ob c fs)) : methRK c g n ρ (.ref k) S = (n ρ S).bind (methRK2 g (.ref k)) := by simp [methRK, obOf_ref h]
def makeRK2 (r : D) : Res D → Res D
  | .ok .non S2 => .ok r S2
  | _ => .no
def makeRK (c : Nat) (f : List D → Store → Res D) (ds : List D) (S : Store) : Res D := makeRK2 (.ref S.length) (f (.ref S.length :: ds) (S ++ [.ob c []]))
@[simp] theorem makeRK2_ok (r : D) (T : Store) : makeRK2 r (.ok .non T) = .ok r T := (Eq.refl _).trans rfl
@[simp] theorem ap_makeR (c : Nat) (f : List D → Store → Res D) (n : MA) : mMakeR c f n ρ S = (n ρ S).bind (makeRK c f) := by
  unfold mMakeR
  congr 1
def dGetK1 (mi : ME) (ρ : Env) (d : D) (S : Store) : Res D := (mi ρ S).bind (dgetK d)
@[simp] theorem dGetK1_ap (mi : ME) (d : D) : dGetK1 mi ρ d S = (mi ρ S).bind (dgetK d) := (Eq.refl _).trans rfl
@[simp] theorem ap_dget (mo mi : ME) : mDGet mo mi ρ S = (mo ρ S).bind (dGetK1 mi ρ) := (Eq.refl _).trans rfl
def dInK1 (mo : ME) (ρ : Env) (y : D) (S : Store) : Res D := (mo ρ S).bind (dinK y)
@[simp] theorem dInK1_ap (mo : ME) (y : D) : dInK1 mo ρ y S = (mo ρ S).bind (dinK y) := (Eq.refl _).trans rfl
@[simp] theorem ap_din (mi mo : ME) : mDIn mi mo ρ S = (mi ρ S).bind (dInK1 mo ρ) := (Eq.refl _).trans rfl
def dNinK1 (mo : ME) (ρ : Env) (y : D) (S : Store) : Res D := (mo ρ S).bind (dninK y)
@[simp] theorem dNinK1_ap (mo : ME) (y : D) : dNinK1 mo ρ y S = (mo ρ S).bind (dninK y) := (Eq.refl _).trans rfl
@[simp] theorem ap_dnin (mi mo : ME) : mDNin mi mo ρ S = (mi ρ S).bind (dNinK1 mo ρ) := (Eq.refl _).trans rfl
theorem dgetD_k {k : Nat} {l : Bool} {kvs : List (Key × D)} {i : Int} (h : S[k]? = some (.dk l kvs)) : dgetD S (.ref k) (.int i) = some (valD kvs (.inl i)) := by simp [dgetD, h, keyD]
theorem dgetD_t {k : Nat} {l : Bool} {kvs : List (List Key × D)} {d : D} {key : List Key} (h : S[k]? = some (.dt l kvs)) (hk : tkeyD d = some key) : dgetD S (.ref k) d = some (valD kvs key) := by simp [dgetD, h, hk]
theorem dgetK_of {d y x : D} (h : dgetD S d y = some (some x)) : dgetK d y S = .ok x S := by simp [dgetK, h]
theorem dinK_of {d y : D} {o : Option D} (h : dgetD S d y = some o) : dinK y d S = .ok (.bl o.isSome) S := by simp [dinK, h]
theorem dninK_of {d y : D} {o : Option D} (h : dgetD S d y = some o) : dninK y d S = .ok (.bl (!o.isSome)) S := by simp [dninK, h]
def gDSubK2 (o d : D) (ρ : Env) (i : D) (S : Store) : Res Env := (dputK o i d S).bind fun _ S3 => .ok ρ S3
def gDSubK1 (mi : ME) (d : D) (ρ : Env) (o : D) (S : Store) : Res Env := (mi ρ S).bind (gDSubK2 o d ρ)
@[simp] theorem gDSubK1_ap (mi : ME) (d o : D) : gDSubK1 mi d ρ o S = (mi ρ S).bind (gDSubK2 o d ρ) := (Eq.refl _).trans rfl
@[simp] theorem ap_gdsub (mo mi : ME) (d : D) : mgDSub mo mi d ρ S = (mo ρ S).bind (gDSubK1 mi d ρ) := (Eq.refl _).trans rfl
theorem gDSub_of {o i d : D} {S' : Store} (h : dputD S o i d = some S') : gDSubK2 o d ρ i S = .ok ρ S' := by simp [gDSubK2, dputK, h]
theorem dputD_k {k : Nat} {kvs : List (Key × D)} {i : Int} {d : D} (h : S[k]? = some (.dk false kvs)) (hl : kvs.length ≤ 100000) : dputD S (.ref k) (.int i) d = some (S.set k (.dk false (putD kvs (.inl i) d))) := by simp [dputD, h, keyD, hl]
theorem dputD_t {k : Nat} {kvs : List (List Key × D)} {i d : D} {key : List Key} (h : S[k]? = some (.dt false kvs)) (hk : tkeyD i = some key) (hl : kvs.length ≤ 100000) : dputD S (.ref k) i d = some (S.set k (.dt false (putD kvs key d))) := by simp [dputD, h, hk, hl]
@[simp] theorem ap_dnewK : mDNewK ρ S = .ok (.ref S.length) (S ++ [.dk false []]) := (Eq.refl _).trans rfl
@[simp] theorem ap_dnewT : mDNewT ρ S = .ok (.ref S.length) (S ++ [.dt false []]) := (Eq.refl _).trans rfl
def disp1K1 (mv : ME) (ρ : Env) (k : D) (S : Store) : Res D := (mv ρ S).bind (disp1K k)
@[simp] theorem disp1K1_ap (mv : ME) (k : D) : disp1K1 mv ρ k S = (mv ρ S).bind (disp1K k) := (Eq.refl _).trans rfl
@[simp] theorem ap_disp1 (mk mv : ME) : mDDisp1 mk mv ρ S = (mk ρ S).bind (disp1K1 mv ρ) := (Eq.refl _).trans rfl
@[simp] theorem disp1K_int (i : Int) (v : D) : disp1K (.int i) v S = .ok (.ref S.length) (S ++ [.dk false [(.inl i, v)]]) := (Eq.refl _).trans rfl
@[simp] theorem ap_keys (m : ME) : mKeys m ρ S = (m ρ S).bind keysOf := (Eq.refl _).trans rfl
theorem keysOf_k {k : Nat} {kvs : List (Key × D)} (h : S[k]? = some (.dk true kvs)) : keysOf (.ref k) S = .ok (kvs.map fun p => dKey p.1) S := by simp [keysOf, h]
theorem keysOf_t {k : Nat} {kvs : List (List Key × D)} (h : S[k]? = some (.dt true kvs)) : keysOf (.ref k) S = .ok (kvs.map fun p => .tup (p.1.map dKey)) S := by simp [keysOf, h]
def unlK {β : Type} (k : Nat) (d : β) (S : Store) : Res β := match (S[k]?).bind unlockC with
  | some c2 => .ok d (S.set k c2)
  | none => .no
theorem lockE_ok {md m : ME} {k : Nat} {T : Store} {c c1 : Cell} (h : md ρ S = .ok (.ref k) T) (hk : S[k]? = some c) (hc : lockC c = some c1) : mLockE md m ρ S = (m ρ (S.set k c1)).bind (unlK k) := by
  unfold mLockE lockAt
  simp only [h, hk, Option.bind_some, hc]
  rfl
theorem lockS_ok {md : ME} {n : MS} {k : Nat} {T : Store} {c c1 : Cell} (h : md ρ S = .ok (.ref k) T) (hk : S[k]? = some c) (hc : lockC c = some c1) : mLockS md n ρ S = (n ρ (S.set k c1)).bind (unlK k) := by
  unfold mLockS lockAt
  simp only [h, hk, Option.bind_some, hc]
  rfl
theorem unlK_ok {β : Type} {k : Nat} {d : β} {c c2 : Cell} (hk : S[k]? = some c) (hc : unlockC c = some c2) : unlK k d S = .ok d (S.set k c2) := by simp [unlK, hk, hc]
@[simp] theorem ap_lstRg (r : MRg) : mLstRg r ρ S = (r ρ S).bind lstRgK := (Eq.refl _).trans rfl
@[simp] theorem ap_celRg (r : MRg) : mCelRg r ρ S = (r ρ S).bind celRgK := (Eq.refl _).trans rfl
@[simp] theorem ap_tupRg (r : MRg) : mTupRg r ρ S = (r ρ S).bind tupRgK := (Eq.refl _).trans rfl
@[simp] theorem ap_rg1 (m : ME) : mRg1 m ρ S = (m ρ S).bind rgK1 := (Eq.refl _).trans rfl
@[simp] theorem rgK1_int (n : Int) : rgK1 (.int n) S = .ok (0, n) S := (Eq.refl _).trans rfl
def rgK2a (m' : ME) (ρ : Env) (d : D) (S : Store) : Res (Int × Int) := (m' ρ S).bind (rgK2 d)
@[simp] theorem rgK2a_ap (m' : ME) (d : D) : rgK2a m' ρ d S = (m' ρ S).bind (rgK2 d) := (Eq.refl _).trans rfl
@[simp] theorem ap_rg2 (m m' : ME) : mRg2 m m' ρ S = (m ρ S).bind (rgK2a m' ρ) := (Eq.refl _).trans rfl
@[simp] theorem rgK2_int (i j : Int) : rgK2 (.int i) (.int j) S = .ok (i, j) S := (Eq.refl _).trans rfl
theorem rgOk_of {i j : Int} (h1 : i.natAbs < 2 ^ 40) (h2 : j.natAbs < 2 ^ 40) (h3 : (j - i).toNat ≤ 100000) : rgOk (i, j) = true := by simp only [rgOk, h1, h2, h3, decide_true, Bool.and_self]
end
end Q
namespace Q
open PySem PySem.Spec L2 PyProof.Rows
abbrev TC := L2.St → V → Hp → VK → Prop
abbrev MC := Env → D → Store → Res D
structure PC (X : Cx) (ops : List CmpOp) (es : List Expr) (t : TC) : Prop where
  run : ∀ (pos : Pos) (pins : List (Addr × Obj)) (s : Shared) (σ : L2.St) (H : Hp) (x : V) (v : Value) (Q : VK), Inv X pins σ H s → RelV x v → t σ x H Q →
    wpAny (model X.prog X.w) X.A (compareChain pos v ops (evalEach es X.env)) (EP X pins σ Q) X.xe s
  test : ∀ (pos : Pos) (pins : List (Addr × Obj)) (s : Shared) (σ : L2.St) (H : Hp) (x : V) (v : Value) (Q : Bool → Hp → Prop), Inv X pins σ H s → RelV x v → t σ x H (fun z H' => ∃ k, z = .bl k ∧ Q k H') →
    wpAny (model X.prog X.w) X.A (testChain pos v ops (evalEach es X.env)) (TP X pins σ Q) X.xe s
def tcLast (r : R2) (te : TE) : TC := fun σ x H Q => te σ H fun y H1 => r x y H1 Q
def tcCons (r : R2) (te : TE) (t : TC) : TC := fun σ x H Q => te σ H fun y H1 => r x y H1 fun z H2 => ∃ k, z = .bl k ∧ (if k = true then t σ y H2 Q else Q (.bl false) H2)
def tcAll (ta : TE) (t : TC) : TE := fun σ H Q => ta σ H fun x H1 => t σ x H1 Q
section
variable {X : Cx} {a e e' : Expr} {es : List Expr} {op op' : CmpOp} {ops : List CmpOp} {pos : Pos} {ta te : TE} {t : TC} {r : R2}
theorem pc_last (ho : OpR X (compareOp op) r) (he : PE X e te) : PC X [op] [e] (tcLast r te) :=
  ⟨fun pos pins s σ H x v Q I rv h => chain_last (thn (he.run pins s σ H _ I h) fun w s1 ⟨y, H1, I1, r1, q1⟩ => ho pins s1 σ H1 x y v w Q I1 rv r1 q1),
   fun pos pins s σ H x v Q I rv h => test_last (thn (he.run pins s σ H _ I h) fun w s1 ⟨y, H1, I1, r1, q1⟩ => thn (ho pins s1 σ H1 x y v w _ I1 rv r1 q1) fun c s2 ⟨z, H2, I2, r2, k, e, q2⟩ => by
     subst e
     cases r2
     exact wpAny_truthy_bool ⟨H2, I2, q2⟩)⟩
theorem pc_cons (ho : OpR X (compareOp op) r) (he : PE X e te) (ht : PC X (op' :: ops) (e' :: es) t) : PC X (op :: op' :: ops) (e :: e' :: es) (tcCons r te t) :=
  ⟨fun pos pins s σ H x v Q I rv h => chain_link (thn (he.run pins s σ H _ I h) fun w s1 ⟨y, H1, I1, r1, q1⟩ => thn (ho pins s1 σ H1 x y v w _ I1 rv r1 q1) fun c s2 ⟨z, H2, I2, r2, k, e, q2⟩ => by
     subst e
     cases r2
     refine wpAny_truthy_bool ?_
     cases k with
     | false => exact ite_ff ⟨.bl false, H2, I2, rfl, q2⟩
     | true => exact ite_tt (ht.run pos pins s2 σ H2 y w Q I2 r1 q2)),
   fun pos pins s σ H x v Q I rv h => test_link (thn (he.run pins s σ H _ I h) fun w s1 ⟨y, H1, I1, r1, q1⟩ => thn (ho pins s1 σ H1 x y v w _ I1 rv r1 q1) fun c s2 ⟨z, H2, I2, r2, k, e, q2⟩ => by
     subst e
     cases r2
     refine wpAny_truthy_bool ?_
     cases k with
     | false =>
       obtain ⟨k', e', q'⟩ := q2
       cases e'
       exact ite_ff ⟨H2, I2, q'⟩
     | true => exact ite_tt (ht.test pos pins s2 σ H2 y w Q I2 r1 q2))⟩
theorem pe_chainN {e2 : Expr} {op2 : CmpOp} (ha : PE X a ta) (ht : PC X (op :: op2 :: ops) (e :: e2 :: es) t) (hm : lastMarks (op :: op2 :: ops) (e :: e2 :: es) = false) : PE X (.Compare a (op :: op2 :: ops) (e :: e2 :: es) pos) (tcAll ta t) :=
  ⟨fun pins s σ H Q I h => Compare_chain (thn (ha.run pins s σ H _ I h) fun v s1 ⟨x, H1, I1, r1, q1⟩ => ht.run pos pins s1 σ H1 x v Q I1 r1 q1) hm⟩
theorem pt_chainN {e2 : Expr} {op2 : CmpOp} (ha : PE X a ta) (ht : PC X (op :: op2 :: ops) (e :: e2 :: es) t) (hm : lastMarks (op :: op2 :: ops) (e :: e2 :: es) = false) : PT X (.Compare a (op :: op2 :: ops) (e :: e2 :: es) pos) (tTest (tcAll ta t)) :=
  ⟨fun pins s σ H Q I h => isTrue_chain (thn (ha.run pins s σ H _ I h) fun v s1 ⟨x, H1, I1, r1, q1⟩ => ht.test pos pins s1 σ H1 x v Q I1 r1 q1) hm⟩
end
def SndCh (Γ : Gm) (E : XK) (t : TC) (m : MC) : Prop := ∀ (ρ : Env) (d : D) (S : Store) (σ : L2.St) (α : List Addr) (G H : Hp) (x : V) (Q : VK), EnvR Γ α G ρ σ → Rl Γ α G S H → Rep Γ α G d x → Post Γ (Rep Γ) α G H (m ρ d S) Q E → t σ x H Q
structure QCh (X : Cx) (cl : Nat → Addr) (E : XK) (ops : List CmpOp) (es : List Expr) (m : MC) : Prop where
  ex : ∃ t, PC X ops es t ∧ SndCh ⟨X.K, cl⟩ E t m
def mcLast (f : D → D → Store → Res D) (m : ME) : MC := fun ρ x S => (m ρ S).bind fun y S1 => f x y S1
def mcCons (f : D → D → Store → Res D) (m : ME) (c : MC) : MC := fun ρ x S => (m ρ S).bind fun y S1 => (f x y S1).bind fun z S2 => match z with
  | .bl true => c ρ y S2
  | .bl false => .ok (.bl false) S2
  | _ => .no
def mChainN (ma : ME) (c : MC) : ME := fun ρ S => (ma ρ S).bind fun x S1 => c ρ x S1
section
variable {X : Cx} {cl : Nat → Addr} {E : XK} {a e e' e2 : Expr} {es : List Expr} {op op' op2 : CmpOp} {ops : List CmpOp} {pos : Pos} {ma m : ME} {c : MC} {f : D → D → Store → Res D}
theorem qc_last (ho : QR X cl E (compareOp op) f) (he : QE X cl E e m) : QCh X cl E [op] [e] (mcLast f m) := by
  obtain ⟨r, h1, h2⟩ := ho.ex
  obtain ⟨t, a1, a2⟩ := he.ex
  exact ⟨_, pc_last h1 a1, fun ρ d S σ α G H x Q hρ hR hd h => a2 ρ S σ α G H _ hρ hR (post_bind h fun y S1 α1 G1 H1 v _ e1 R1 r1 h1 =>
    h2 d y S1 α1 G1 H1 x v Q R1 (Rep.mono e1.pre e1.sub _ _ hd) r1 h1)⟩
theorem qc_cons (ho : QR X cl E (compareOp op) f) (he : QE X cl E e m) (ht : QCh X cl E (op' :: ops) (e' :: es) c) : QCh X cl E (op :: op' :: ops) (e :: e' :: es) (mcCons f m c) := by
  obtain ⟨r, h1, h2⟩ := ho.ex
  obtain ⟨t, a1, a2⟩ := he.ex
  obtain ⟨u, b1, b2⟩ := ht.ex
  exact ⟨_, pc_cons h1 a1 b1, fun ρ d S σ α G H x Q hρ hR hd h => a2 ρ S σ α G H _ hρ hR (post_bind h fun y S1 α1 G1 H1 v _ e1 R1 r1 h1 =>
    h2 d y S1 α1 G1 H1 x v _ R1 (Rep.mono e1.pre e1.sub _ _ hd) r1 (post_bind h1 fun z S2 α2 G2 H2 w _ e2 R2 r2 h2 => by
      cases z <;> try exact h2.elim
      rename_i k _
      simp only [Rep] at r2
      refine ⟨k, r2, ?_⟩
      cases k with
      | false => exact iteF (post_ok h2 R2 (by simp [Rep]))
      | true => exact iteT (b2 ρ y S2 σ α2 G2 H2 v Q ((hρ.mono e1).mono e2) R2 (Rep.mono e2.pre e2.sub _ _ r1) h2)))⟩
theorem q_chainN (ha : QE X cl E a ma) (ht : QCh X cl E (op :: op2 :: ops) (e :: e2 :: es) c) (hm : lastMarks (op :: op2 :: ops) (e :: e2 :: es) = false := by with_unfolding_all rfl) : QE X cl E (.Compare a (op :: op2 :: ops) (e :: e2 :: es) pos) (mChainN ma c) := by
  obtain ⟨t, a1, a2⟩ := ha.ex
  obtain ⟨u, b1, b2⟩ := ht.ex
  exact ⟨_, pe_chainN a1 b1 hm, fun ρ S σ α G H Q hρ hR h => a2 ρ S σ α G H _ hρ hR (post_bind h fun x S1 α1 G1 H1 v _ e1 R1 r1 h1 => b2 ρ x S1 σ α1 G1 H1 v Q (hρ.mono e1) R1 r1 h1)⟩
theorem q_tchainN (ha : QE X cl E a ma) (ht : QCh X cl E (op :: op2 :: ops) (e :: e2 :: es) c) (hm : lastMarks (op :: op2 :: ops) (e :: e2 :: es) = false := by with_unfolding_all rfl) : QT X cl E (.Compare a (op :: op2 :: ops) (e :: e2 :: es) pos) (mTB (mChainN ma c)) := by
  obtain ⟨t, a1, a2⟩ := ha.ex
  obtain ⟨u, b1, b2⟩ := ht.ex
  exact ⟨_, pt_chainN a1 b1 hm, snd_tb fun ρ S σ α G H Q hρ hR h => a2 ρ S σ α G H _ hρ hR (post_bind h fun x S1 α1 G1 H1 v _ e1 R1 r1 h1 => b2 ρ x S1 σ α1 G1 H1 v Q (hρ.mono e1) R1 r1 h1)⟩
end
section
variable {f : D → D → Store → Res D} {m ma : ME} {c : MC} {ρ : Env} {x : D} {S : Store}
@[simp] theorem ap_mcLast : mcLast f m ρ x S = (m ρ S).bind (f x) := rfl
def mcK3 (c : MC) (ρ : Env) (y z : D) (S : Store) : Res D := match z with
  | .bl true => c ρ y S
  | .bl false => .ok (.bl false) S
  | _ => .no
@[simp] theorem mcK3_t (y : D) : mcK3 c ρ y (.bl true) S = c ρ y S := rfl
@[simp] theorem mcK3_f (y : D) : mcK3 c ρ y (.bl false) S = .ok (.bl false) S := rfl
def mcK2 (f : D → D → Store → Res D) (c : MC) (ρ : Env) (x y : D) (S : Store) : Res D := (f x y S).bind (mcK3 c ρ y)
@[simp] theorem mcK2_ap (y : D) : mcK2 f c ρ x y S = (f x y S).bind (mcK3 c ρ y) := rfl
@[simp] theorem ap_mcCons : mcCons f m c ρ x S = (m ρ S).bind (mcK2 f c ρ x) := rfl
@[simp] theorem ap_chainN : mChainN ma c ρ S = (ma ρ S).bind (c ρ) := rfl
end
end Q
namespace Q
open PySem L2
def opLtT (a b : D) (S : Store) : Res D := match a, b with
  | .tup xs, .tup ys => match intsD xs, intsD ys with
    | some ns, some ms => .ok (.bl (HT.lexLt ns ms)) S
    | _, _ => .no
  | _, _ => .no
theorem ltT {X : Cx} {cl : Nat → Addr} {E : XK} (hu : X.A.units + 1 < cLine) : QR X cl E (compareOp .Lt) opLtT := ⟨_, op_ltT (by omega), fun a b S α G H x y Q R ra rb h => by
  cases a with
  | tup xs =>
    cases b with
    | tup ys =>
      unfold opLtT at h
      cases e1 : intsD xs with
      | none => simp only [e1] at h; exact h.elim
      | some ns =>
        cases e2 : intsD ys with
        | none => simp only [e1, e2] at h; exact h.elim
        | some ms =>
          simp only [e1, e2] at h
          obtain ⟨p, vs, ex, s1, q1⟩ := tup_at R ra
          obtain ⟨p2, vs2, ey, s2, q2⟩ := tup_at R rb
          rw [ints_rep q1 e1] at s1
          rw [ints_rep q2 e2] at s2
          exact ⟨p, p2, ns, ms, ex, ey, s1, s2, post_ok h R (by simp [Rep])⟩
    | _ => exact h.elim
  | _ => exact h.elim⟩
theorem opLtT_2 {a b c d : Int} {S : Store} : opLtT (.tup [.int a, .int b]) (.tup [.int c, .int d]) S = .ok (.bl (decide (a < c ∨ (a = c ∧ b < d)))) S := by
  have : HT.lexLt [a, b] [c, d] = decide (a < c ∨ (a = c ∧ b < d)) := by
    rw [HT.lexLt_cons, HT.lexLt_cons, HT.lexLt_nil_nil]
    by_cases h : a = c
    · subst h
      by_cases h2 : b = d
      · subst h2; simp
      · simp [h2]
    · simp [h]
  show Res.ok (D.bl (HT.lexLt [a, b] [c, d])) S = _
  rw [this]
end Q
namespace Q
open PySem L2
section
variable {X : Cx} {cl : Nat → Addr} {E : XK} {pos : Pos}
/-- list + list: a new cell -/
def opCatC : D → D → Store → Res D := fun a b S => match lstOf S a, lstOf S b with
  | some xs, some ys => if xs.length + ys.length ≤ 100000 then .ok (.ref S.length) (S ++ [.lst (xs ++ ys)]) else .no
  | _, _ => .no
theorem catC : QR X cl E (binaryOp .Add) opCatC := by
  refine ⟨_, op_cat, fun a b S α G H x y Q hR ra rb h => ?_⟩
  unfold opCatC at h
  cases h1 : lstOf S a with
  | none => simp [h1, Post] at h
  | some xs =>
    cases h2 : lstOf S b with
    | none => simp [h1, h2, Post] at h
    | some ys =>
      simp only [h1, h2] at h
      split at h
      · rename_i hs
        obtain ⟨p, vs, rfl, q1, r1⟩ := lstOf_at hR ra h1
        obtain ⟨p2, ws, rfl, q2, r2⟩ := lstOf_at hR rb h2
        exact ⟨p, p2, vs, ws, rfl, rfl, q1, q2, by rw [← r1.length, ← r2.length]; exact sz hs, fun z hz => post_cell hR (r1.append r2) h hz⟩
      · exact h.elim
variable {o i : Expr} {mo mi : ME}
def dget1K (d y : D) (S : Store) : Res D := match dgetD S d y with
  | some o => .ok (o.getD .non) S
  | none => .no
/-- d.get(i) -/
def mDGet1 (mo mi : ME) : ME := fun ρ S => (mo ρ S).bind fun d S1 => if (mDGet2.isDictS S1 d) then (mi ρ S1).bind fun y S2 => dget1K d y S2 else .no
theorem q_dget1 {apos cpos : Pos} (hu : X.A.units + 1 < cLine) (ho : QE X cl E o mo) (hi : QE X cl E i mi) (m : M1 X o "get" apos i cpos := by exact ⟨rfl, rfl, rfl, rfl⟩) : QE X cl E (.Call (.Attribute o "get" apos) [i] [] cpos) (mDGet1 mo mi) := by
  obtain ⟨t, h1, h2⟩ := ho.ex
  obtain ⟨u, k1, k2⟩ := hi.ex
  refine ⟨_, pe_dget1 hu h1 k1 m, fun ρ S σ α G H Q hρ hR hp => h2 ρ S σ α G H _ hρ hR (post_bind hp fun d S1 α1 G1 H1 v _ e1 R1 r1 hp1 => ?_)⟩
  split at hp1
  · rename_i hd
    obtain ⟨a, rfl, hD⟩ := isDict_at R1 r1 hd
    refine ⟨a, rfl, hD, k2 ρ S1 σ α1 G1 H1 _ (hρ.mono e1) R1 (post_bind hp1 fun y S2 α2 G2 H2 u _ e2 R2 r2 hp2 => ?_)⟩
    unfold dget1K at hp2
    split at hp2
    · rename_i ov hx
      obtain ⟨a', w', ea, g, z1, z2⟩ := dgetD_at R2 (Rep.mono e2.pre e2.sub _ _ r1) r2 hx
      cases ea
      refine ⟨w', g, ?_⟩
      cases ov with
      | none =>
        cases w' with
        | none => exact post_ok hp2 R2 (by simp [Rep])
        | some _ => simp at z1
      | some x =>
        obtain ⟨w2, rfl, r4⟩ := z2 x rfl
        exact post_ok hp2 R2 r4
    · exact hp2.elim
  · exact hp1.elim
end
section
variable {S : Store} {ρ : Env}
theorem catC_ref {k : Nat} {xs : List D} (ys : List D) (h : S[k]? = some (.lst xs)) : opCatC (.ref k) (.lst ys) S = if xs.length + ys.length ≤ 100000 then .ok (.ref S.length) (S ++ [.lst (xs ++ ys)]) else .no := by
  unfold opCatC
  simp [lstOf, h]
def dGet1K2 (d : D) (y : D) (S : Store) : Res D := dget1K d y S
def dGet1K1 (mi : ME) (ρ : Env) (d : D) (S : Store) : Res D := if mDGet2.isDictS S d then (mi ρ S).bind (dGet1K2 d) else .no
@[simp] theorem ap_dget1 (mo mi : ME) : mDGet1 mo mi ρ S = (mo ρ S).bind (dGet1K1 mi ρ) := (Eq.refl _).trans rfl
theorem dGet1K1_k {k : Nat} {l : Bool} {kvs : List (Key × D)} {mi : ME} (h : S[k]? = some (.dk l kvs)) : dGet1K1 mi ρ (.ref k) S = (mi ρ S).bind (dGet1K2 (.ref k)) := by
  unfold dGet1K1 mDGet2.isDictS
  simp [h]
theorem dGet1K2_of {d y : D} {o : Option D} (h : dgetD S d y = some o) : dGet1K2 d y S = .ok (o.getD .non) S := by
  unfold dGet1K2 dget1K
  rw [h]
end
end Q
namespace L2
open PySem PySem.Spec PyProof.Rows
section
variable {prog : Program} {w : World} {A : Around} {E : Value → Shared → Prop} {s : Shared}
/-- the heap behind list(t) -/
def hpC (s : Shared) (vs : List Value) : Heap := (s.heap.push (seqObj "list" #[] 0)).update s.heap.objs.size (Obj.mapSeq (· ++ vs.toArray))
theorem collectT {l : Addr} {o : Obj} {vs : List Value} {n : Nat} {Q : List Value → Shared → Prop} (g1 : s.heap.get? l = some o) (g2 : o.cls = .type "tuple") (g3 : o.data = .seq vs.toArray n) (hz : vs.length ≤ sizeLine) (k : Q vs { s with heap := hpC s vs }) : wpAny (model prog w) A (collect (.ref l)) Q E s := by
  have g1' : (s.heap.push (seqObj "list" #[] 0)).get? l = some o := Heap.get?_push_of_some _ g1
  have g4 : (s.heap.push (seqObj "list" #[] 0)).get? s.heap.objs.size = some (seqObj "list" #[] 0) := Heap.get?_push_size _ rfl
  have ty : (Value.type "tuple" == Value.type "tuple") = true := by rfl
  have room : (#[] ++ vs.toArray).size ≤ sizeLine + 1 := by simp only [Array.size_append, List.size_toArray, List.length_nil]; omega
  unfold collect
  refine wpAny_bind (wpAny_runValue (codeAny_builtin entry_proto_collect' (wpAny_bind (wpAny_newList (wpAny_pure ⟨Code.quiet_builtin _ (by decide +kernel), codeAny_builtin entry_list_iadd' ?_⟩)))))
  show wpAny _ _ (Builtin.List.listExtendWith (.ref s.heap.objs.size) (.ref l) (.ref s.heap.objs.size)) _ _ _
  unfold Builtin.List.listExtendWith
  refine wpAny_bind (wpAny_typeOf (T := "tuple") ⟨o, g1', g2⟩ ?_); rw [if_pos (by rw [ty]; simp)]
  refine wpAny_bind (listItems_at g1' g3 (wpAny_bind (listItems_at (xs := #[]) (n := 0) g4 rfl ?_))); rw [if_neg (by simp)]
  refine wpAny_bind (listUpdate_at (xs := #[]) (n := 0) g4 rfl (wpAny_pure ?_) (Nat.zero_le _) room)
  refine wpAny_bind (wpAny_load (get?_update_seq g4 _) ?_)
  have fin : ((#[] : Array Value) ++ vs.toArray).toList = vs := by simp
  show wpAny _ _ (pure ((#[] : Array Value) ++ vs.toArray).toList) Q E _
  rw [fin]; exact wpAny_pure k
theorem sortedT {l : Addr} {o : Obj} {vs : List Value} {n : Nat} {key : Value → Int × Int} {Q : Value → Shared → Prop} (g1 : s.heap.get? l = some o) (g2 : o.cls = .type "tuple") (g3 : o.data = .seq vs.toArray n) (hz : vs.length ≤ sizeLine) (hp : ∀ v ∈ vs, Srt.IsPair s.heap v (key v).1 (key v).2)
    (k : ∀ (h' : Heap) (d : Addr) (out : List Value), SrtO.Srtd (fun v u => SrtO.lexB (key v) (key u)) out → SrtO.Stb (fun v u => SrtO.lexB (key v) (key u)) out vs → (∀ b c, s.heap.get? b = some c → h'.get? b = some c) → s.heap.objs.size ≤ d → (∃ m, h'.get? d = some (seqObj "list" out.toArray m)) → Q (.ref d) { s with heap := h' }) :
    wpAny (model prog w) A (call (.builtin "sorted") [.ref l]) Q E s := by
  have z1 : (hpC s vs).objs.size = s.heap.objs.size + 1 := by unfold hpC; rw [Heap.size_update, size_push']
  have z2 : ((hpC s vs).push (seqObj "list" vs.toArray 0)).get? (s.heap.objs.size + 1) = some (seqObj "list" vs.toArray 0) := by rw [← z1]; exact Heap.get?_push_size _ rfl
  have z3 : ∀ b c, s.heap.get? b = some c → b ≠ s.heap.objs.size + 1 ∧ ((hpC s vs).push (seqObj "list" vs.toArray 0)).get? b = some c := fun b c q => by
    have lt : b < s.heap.objs.size := Heap.lt_size q
    have q2 : (hpC s vs).get? b = some c := by unfold hpC; rw [Heap.get?_update_ne _ _ _ _ (Nat.ne_of_lt lt)]; exact Heap.get?_push_of_some _ q
    exact ⟨Nat.ne_of_lt (Nat.lt_succ_of_lt lt), Heap.get?_push_of_some _ q2⟩
  refine Calls.call_function_entry kind_sorted plain_sorted entry_sorted (args_sorted1 _) ?_; unfold Builtin.«sorted»
  refine wpAny_bind (m := checkCount "sorted" 1 1 _) (wpAny_pure (wpAny_bind (collectT g1 g2 g3 hz (wpAny_bind (wpAny_newList ?_ hz)))))
  show wpAny _ _ _ _ _ { s with heap := (hpC s vs).push (seqObj "list" vs.toArray 0) }
  dsimp only; rw [z1]
  refine wpAny_bind (wpAny_holding (wpAny_call_entry slot_list_sort ⟨_, z2, rfl⟩ entry_list_sort (SrtO.list_sort_ord (SrtO.swo_lex key) z2 hz (fun h2 => ?_) fun out hs hb => ⟨_, rfl, wpAny_pure ⟨_, rfl, ?_⟩⟩) (args_list_sort _)))
  · refine SrtO.pairs_sortableO (by omega) (fun v hv => (hp v hv).keeps fun b c e _ => (z3 b c e).2) fun c e => ?_
    rw [z2] at e
    cases e
    exact fun z => by
      injection z with z4
      exact absurd z4 (by decide)
  · exact k _ _ out hs hb (fun b c e => PyProof.Rows.sortedAll_old e) (Nat.le_succ _) (PyProof.Rows.sortedAll_at s.heap vs out.toArray)
end
section
variable {X : Cx}
def rSortedPT (K : PySem.W.Frag) : List V → Hp → VK → Prop := fun vs H Q => ∃ (a : Addr) (ks : List (Addr × Int × Int)), vs = [V.ref a] ∧ SqT K H a (ks.map fun p => V.ref p.1) ∧ (∀ p ∈ ks, SqT K H p.1 [.int p.2.1, .int p.2.2]) ∧
  ∀ (L : List (Addr × Int × Int)) (p : Addr), L.Perm ks → L.Pairwise (fun p q => p.2.1 < q.2.1 ∨ (p.2.1 = q.2.1 ∧ p.2.2 ≤ q.2.2)) → H p = none → Q (.ref p) (upd H p (.lst (L.map fun p => V.ref p.1)))
theorem cr_sortedPT : CallR X (.builtin "sorted") (rSortedPT X.K) := by
  intro pins s σ H vs us Q I r h
  obtain ⟨a, ks, rfl, hl, hk, q⟩ := h
  obtain rfl := Vals.ref1 r
  obtain ⟨its, rv, ⟨o0, g1, g2, n0, g3⟩, hz⟩ := I.tuple hl
  obtain rfl := vrefs rv
  have at_ : ∀ p ∈ ks, Srt.IsPair s.heap (.ref p.1) p.2.1 p.2.2 ∧ pairAt s.heap (.ref p.1) = p.2 := fun p hp => by
    obtain ⟨us, r2, ⟨o, ho, hc, n, hd⟩, _⟩ := I.tuple (hk p hp)
    obtain ⟨u1, u2, rfl, ri, rj⟩ := vals2 r2
    obtain ⟨t1, rfl⟩ := ri
    obtain ⟨t2, rfl⟩ := rj
    refine ⟨⟨_, o, t1, t2, n, rfl, ho, hc, hd⟩, ?_⟩
    have ti : TS.TupInts s.heap (.ref p.1) [p.2.1, p.2.2] := ⟨p.1, _, rfl, ⟨o, ho, hc, n, hd⟩, .cons _ _ (.cons _ _ .nil)⟩
    unfold pairAt
    rw [ti.ints]
    rfl
  have mem : ∀ v ∈ ks.map (fun p => Value.ref p.1), Srt.IsPair s.heap v (pairAt s.heap v).1 (pairAt s.heap v).2 := fun v hv => by
    obtain ⟨p, hp, rfl⟩ := List.mem_map.mp hv
    have z := at_ p hp
    rw [z.2]
    exact z.1
  have hz2 : (ks.map fun p => Value.ref p.1).length ≤ sizeLine := by simpa using hz
  refine sortedT (key := pairAt s.heap) g1 g2 g3 hz2 mem fun h' d out h1 h2 kp hd hn => ?_
  obtain ⟨n, hn⟩ := hn
  obtain ⟨L, pL, rfl⟩ := perm_of_map h2.perm ks rfl
  have hlen : (L.map fun p => V.ref p.1).length ≤ sizeLine := by
    rw [List.length_map, pL.length_eq]
    simpa using hz
  refine ⟨.ref d, upd H d (.lst (L.map fun p => V.ref p.1)), I.laid kp hd ⟨hlen, _, n, refsv L, hn⟩, rfl, q _ _ pL ?_ (I.hok.fresh hd)⟩
  have pw : (L.map fun p => Value.ref p.1).Pairwise fun x y => SrtO.lexB (pairAt s.heap y) (pairAt s.heap x) = false := h1
  rw [List.pairwise_map] at pw
  refine pw.imp_of_mem fun {x y} hx hy hxy => ?_
  rw [(at_ x (pL.subset hx)).2, (at_ y (pL.subset hy)).2, SrtO.lexB_no] at hxy
  by_cases e : x.2.1 = y.2.1
  · right; omega
  · left; omega
end
end L2
namespace Q
open PySem L2
def skT (d : D) (S : Store) : Res D := match d with
  | .tup xs => match pairsQ xs with
    | some ps => .ok (.lst ((sortP ps).map pairD)) S
    | none => .no
  | _ => .no
/-- sorted(t) of a tuple of pairs -/
def mSortT (m : ME) : ME := fun ρ S => (m ρ S).bind skT
section
variable {X : Cx} {cl : Nat → Addr} {E : XK} {e : Expr} {m : ME} {pos : Pos}
theorem q_sortT {p : Pos} (h : QE X cl E e m) (hg : Gl X "sorted") (hm : X.mg "sorted" = none)
    (he0 : starEach [e] X.env = (false, eval e X.env) :: starEach [] X.env := by rfl) (hpl : (backTo pos (starEach [] X.env)).any (·.1) = false := by rfl) :
    QE X cl E (.Call (.Name "sorted" p) [e] [] pos) (mSortT m) := by
  obtain ⟨t, h1, h2⟩ := h.ex
  refine ⟨_, pe_callB cr_sortedPT hg hm rfl (pa_cons h1 pa_nil he0) (by decide) (by decide) he0 hpl, fun ρ S σ α G H Q hρ hR hp => ?_⟩
  refine h2 ρ S σ α G H _ hρ hR (post_bind hp fun d S1 α1 G1 H1 v _ e1 R1 r1 hp1 => ?_)
  unfold skT at hp1
  split at hp1
  case h_2 => exact hp1.elim
  rename_i xs
  split at hp1
  case h_2 => exact hp1.elim
  rename_i ps hps
  obtain ⟨a, vs, rfl, q1, rL⟩ := tup_at R1 r1
  have := pairsQ_map hps
  subst this
  obtain ⟨ks, rfl, ek, hk⟩ := pairs_vals rL
  refine ⟨a, ks, rfl, q1, fun p hp => .inl (.inl (R1.sub _ _ (hk p hp))), fun L b pm pw hb => ?_⟩
  have eL : L.map (·.2) = sortP ps := by
    refine sortP_uniq ?_ ?_
    · rw [← ek]; exact pm.map (·.2)
    · rw [List.pairwise_map]
      exact pw.imp fun {a b} h => h
  refine post_lst R1 ?_ hp1 hb
  rw [← eL]
  have sq : ∀ p ∈ L, G1 p.1 = some (.tup [.int p.2.1, .int p.2.2]) := fun p hp => hk p (pm.subset hp)
  have go : ∀ L : List (Addr × Int × Int), (∀ p ∈ L, G1 p.1 = some (.tup [.int p.2.1, .int p.2.2])) → RepL ⟨X.K, cl⟩ α1 G1 ((L.map (·.2)).map pairD) (L.map fun p => V.ref p.1) := fun L => by
    induction L with
    | nil => intro _; simp [RepL]
    | cons p L ih =>
      intro hs
      rw [List.map_cons, List.map_cons, List.map_cons]
      unfold RepL
      refine ⟨_, _, rfl, ?_, ih (fun q hq => hs q (by simp [hq]))⟩
      unfold pairD Rep
      exact ⟨p.1, [V.int p.2.1, V.int p.2.2], rfl, hs p (by simp), by simp [RepL, Rep]⟩
  exact go L sq
end
section
variable {S : Store} {ρ : Env}
@[simp] theorem ap_sortT (m : ME) : mSortT m ρ S = (m ρ S).bind skT := (Eq.refl _).trans rfl
theorem skT_pairs (ps : List (Int × Int)) : skT (.tup (ps.map pairD)) S = .ok (.lst ((sortP ps).map pairD)) S := by
  unfold skT
  simp only [pairsQ_pairs]
end
end Q
namespace L2
open PySem PySem.Spec PyProof.Rows
theorem nodup_len_le : ∀ {xs ys : List Int}, xs.Nodup → (∀ x ∈ xs, x ∈ ys) → xs.length ≤ ys.length
  | [], _, _, _ => Nat.zero_le _
  | x :: xs, ys, nd, h => by
    obtain ⟨pre, suf, rfl⟩ := List.append_of_mem (h x (List.mem_cons_self ..))
    rw [List.nodup_cons] at nd
    have ih := nodup_len_le (xs := xs) (ys := pre ++ suf) nd.2 fun z hz => by
      have hz2 := h z (List.mem_cons_of_mem _ hz)
      rw [List.mem_append, List.mem_cons] at hz2
      rw [List.mem_append]
      rcases hz2 with h1 | rfl | h1
      · exact .inl h1
      · exact absurd hz nd.1
      · exact .inr h1
    simp only [List.length_append, List.length_cons] at ih ⊢
    omega
section
variable {X : Cx}
/-- len of a set of ints -/
def rLenSetI (w : World) : List V → Hp → VK → Prop := fun xs H Q => ∃ (a : Addr) (S : Int → Bool) (n : Nat) (L : List Int), xs = [V.ref a] ∧ H a = some (SetO w a S n) ∧ L.Nodup ∧ (∀ k, k ∈ L ↔ S k = true) ∧ Q (.int (L.length : Nat)) H
theorem cr_lenSetI : CallR X (.builtin "len") (rLenSetI X.w) := by
  intro pins s σ H vs us Q I r h
  obtain ⟨a, S, n, L, rfl, ha, nd, hm, q⟩ := h
  obtain ⟨o, es, ep, t, ho, hex, hd, _, nd2, hm2, hb, hf, hn, _, _⟩ := setO_get I ha
  have e : es.size = L.length := by
    have l1 := nodup_len_le nd fun k hk => (hm2 k).mp ((hm k).mp hk)
    have l2 := nodup_len_le nd2 fun k hk => (hm k).mpr ((hm2 k).mpr hk)
    have e0 : es.toList.length = es.size := Array.length_toList
    rw [List.length_map] at l1 l2
    omega
  rw [Vals.ref1 r]
  exact call_len_set ho hex hd hf (by unfold scanBound at hb; omega) ⟨.int (L.length : Nat), H, I.tok _, ⟨_, by rw [e]⟩, q⟩
end
end L2
namespace Q
open PySem L2
/-- how many members a list has, each once -/
def lsK (d : D) (S : Store) : Res D := match d with
  | .lst xs => match intsOf xs with
    | some ns => if ns.length < 64 then .ok (.int ((sortN ns).length : Nat)) S else .no
    | none => .no
  | _ => .no
def mLenSet (m : ME) : ME := fun ρ S => (m ρ S).bind lsK
section
variable {X : Cx} {cl : Nat → Addr} {E : XK} {e : Expr} {m : ME} {pos : Pos}
theorem q_lenset {p p1 p2 : Pos} (h : QE X cl E e m) (hg : Gl X "len") (hm : X.mg "len" = none) (hg' : Gl X "set") (hm' : X.mg "set" = none) (hc : X.calm = true := by rfl)
    (he : starEach [e] X.env = (false, eval e X.env) :: starEach [] X.env := by rfl)
    (he2 : starEach [.Call (.Name "set" p1) [e] [] p2] X.env = (false, eval (.Call (.Name "set" p1) [e] [] p2) X.env) :: starEach [] X.env := by rfl)
    (hpl : (backTo p2 (starEach [] X.env)).any (·.1) = false := by rfl) (hpl2 : (backTo pos (starEach [] X.env)).any (·.1) = false := by rfl) :
    QE X cl E (.Call (.Name "len" p) [.Call (.Name "set" p1) [e] [] p2] [] pos) (mLenSet m) := by
  obtain ⟨t, h1, h2⟩ := h.ex
  have c1 := pe_callTy (pos := p2) (p := p1) (cr_setL hc) hg' hm' (by rfl) (pa_cons h1 pa_nil he) (by decide) (by decide) he hpl
  refine ⟨_, pe_callB cr_lenSetI hg hm (by rfl) (pa_cons c1 pa_nil he2) (by decide) (by decide) he2 hpl2, fun ρ S σ α G H Q hρ hR hp => ?_⟩
  refine h2 ρ S σ α G H _ hρ hR (post_bind hp fun d S1 α1 G1 H1 v _ e1 R1 r1 hp1 => ?_)
  cases d with
  | lst xs =>
    simp only [lsK] at hp1
    cases q2 : intsOf xs with
    | none => rw [q2] at hp1; exact hp1.elim
    | some ns =>
      rw [q2] at hp1
      simp only at hp1
      split at hp1
      · rename_i hl
        unfold Rep at r1
        obtain ⟨l, vs, rfl, s1, t1⟩ := r1
        have ev := ints_at xs ns vs q2 t1
        subst ev
        refine ⟨l, ns, rfl, R1.sub.sqL (.inl (.inl s1)), by unfold scanBound; omega, fun a c ha hcl => ⟨a, _, c, sortN ns, rfl, upd_same, (sortN_up ns).imp fun h e => by omega, fun z => by rw [mem_sortN]; exact decide_eq_true_iff.symm, ?_⟩⟩
        obtain ⟨R2, e2⟩ := R1.new ha (SetO X.w a (fun j => decide (j ∈ ns)) c)
        exact hp1 _ _ _ _ e2 R2 (by simp [Rep])
      · exact hp1.elim
  | _ => exact hp1.elim
end
section
variable {S : Store} {ρ : Env}
@[simp] theorem ap_lenset (m : ME) : mLenSet m ρ S = (m ρ S).bind lsK := (Eq.refl _).trans rfl
theorem lsK_ints {ns : List Int} (hl : ns.length < 64) : lsK (.lst (ns.map .int)) S = .ok (.int ((sortN ns).length : Nat)) S := by
  simp only [lsK, intsOf_map, hl, if_true]
theorem sortN_nlen {ns : List Int} (h : ns.Nodup) : (sortN ns).length = ns.length :=
  Nat.le_antisymm (nodup_len_le ((sortN_up ns).imp fun h e => by omega) fun x hx => mem_sortN.mp hx) (nodup_len_le h fun x hx => mem_sortN.mpr hx)
end
end Q
namespace L2
open PySem PySem.Spec PyProof.Rows
section
variable {X : Cx}
/-- set(xs), xs a tuple of ints -/
def rSetOfI (K : PySem.W.Frag) (w : World) : List V → Hp → VK → Prop := fun vs H Q => ∃ (l : Addr) (ns : List Int), vs = [V.ref l] ∧ SqT K H l (ns.map V.int) ∧ ns.length + 1 < scanBound ∧ ∀ a c, H a = none → c ≤ ns.length → Q (.ref a) (upd H a (SetO w a (fun j => decide (j ∈ ns)) c))
theorem cr_setTI (hc : X.calm = true) : CallR X (.type "set") (rSetOfI X.K X.w) := by
  intro pins s σ H vs us Q I r h
  obtain ⟨l, ns, rfl, hl, hb, q⟩ := h
  obtain ⟨its, rv, pl, hz⟩ := I.tuple hl
  rw [Vals.ref1 r]
  refine call_set_tupI ns (I.ok.hd hc) pl (by simpa using rv.ints) hb fun h' tk c hs hcl keep => ?_
  exact ⟨.ref _, upd H s.heap.objs.size (SetO X.w s.heap.objs.size (fun j => decide (j ∈ ns)) c), I.laid (t' := tk) keep (Nat.le_refl _) (setO_new hs), rfl, q _ c (I.hok.fresh (Nat.le_refl _)) hcl⟩
end
end L2
namespace Q
open PySem L2
/-- as ssK, of a tuple of ints too -/
def ssK2 (d : D) (S : Store) : Res D := match d with
  | .tup xs => match intsOf xs with
    | some ns => if ns.length < 64 then .ok (.lst ((sortN ns).map .int)) S else .no
    | none => .no
  | _ => .no
def mSortSetI (m : ME) : ME := fun ρ S => (m ρ S).bind ssK2
section
variable {X : Cx} {cl : Nat → Addr} {E : XK} {e : Expr} {m : ME} {pos : Pos}
theorem q_sortsetI {p p1 p2 : Pos} (h : QE X cl E e m) (hg : Gl X "sorted") (hm : X.mg "sorted" = none) (hg' : Gl X "set") (hm' : X.mg "set" = none) (hc : X.calm = true := by rfl)
    (he : starEach [e] X.env = (false, eval e X.env) :: starEach [] X.env := by rfl)
    (he2 : starEach [.Call (.Name "set" p1) [e] [] p2] X.env = (false, eval (.Call (.Name "set" p1) [e] [] p2) X.env) :: starEach [] X.env := by rfl)
    (hpl : (backTo p2 (starEach [] X.env)).any (·.1) = false := by rfl) (hpl2 : (backTo pos (starEach [] X.env)).any (·.1) = false := by rfl) :
    QE X cl E (.Call (.Name "sorted" p) [.Call (.Name "set" p1) [e] [] p2] [] pos) (mSortSetI m) := by
  obtain ⟨t, h1, h2⟩ := h.ex
  have c1 := pe_callTy (pos := p2) (p := p1) (cr_setTI hc) hg' hm' (by rfl) (pa_cons h1 pa_nil he) (by decide) (by decide) he hpl
  refine ⟨_, pe_callB (cr_sortedSet hc) hg hm (by rfl) (pa_cons c1 pa_nil he2) (by decide) (by decide) he2 hpl2, fun ρ S σ α G H Q hρ hR hp => ?_⟩
  refine h2 ρ S σ α G H _ hρ hR (post_bind hp fun d S1 α1 G1 H1 v _ e1 R1 r1 hp1 => ?_)
  cases d with
  | tup xs =>
    simp only [ssK2] at hp1
    cases q2 : intsOf xs with
    | none => rw [q2] at hp1; exact hp1.elim
    | some ns =>
      rw [q2] at hp1
      simp only at hp1
      split at hp1
      · rename_i hl
        unfold Rep at r1
        obtain ⟨l, vs, rfl, s1, t1⟩ := r1
        have ev := ints_at xs ns vs q2 t1
        subst ev
        refine ⟨l, ns, rfl, R1.sub.sqT (.inl (.inl s1)), by unfold scanBound; omega, fun a c ha hcl => ⟨a, _, c, rfl, upd_same, by omega, fun ns' b pw mem len hb => ?_⟩⟩
        have en : ns' = sortN ns := upN_uniq _ _ pw (sortN_up ns) fun z => by rw [mem_sortN, mem z]; exact decide_eq_true_iff
        subst en
        obtain ⟨R2, e2⟩ := R1.new ha (SetO X.w a (fun j => decide (j ∈ ns)) c)
        obtain ⟨R3, e3⟩ := R2.new hb (.lst ((sortN ns).map V.int))
        exact hp1 _ _ _ _ (e2.trans e3) R3 (rep_lst upd_same (rep_ints _))
      · exact hp1.elim
  | _ => exact hp1.elim
end
section
variable {S : Store} {ρ : Env}
@[simp] theorem ap_sortsetI (m : ME) : mSortSetI m ρ S = (m ρ S).bind ssK2 := (Eq.refl _).trans rfl
theorem ssK2_ints {ns : List Int} (hl : ns.length < 64) : ssK2 (.tup (ns.map .int)) S = .ok (.lst ((sortN ns).map .int)) S := by
  simp only [ssK2, intsOf_map, hl, if_true]
end
end Q
namespace Q
open PySem L2
section
variable {E : XK} {mg mg1 : MG} {mt mt1 : MT} {m : ME} {mi1 : MA}
/-- [m for g in ds if t for g1 in mi1 if t1]; n: how many at most have been told so far -/
def lcL2 (g : MG) (t : MT) (mi1 : MA) (g1 : MG) (t1 : MT) (m : ME) (vs1 : List Nat) (ρ : Env) : List D → Nat → Store → Res (List D)
  | [], _, S => .ok [] S
  | d :: ds, n, S => (g d ρ S).bind fun ρ1 S1 => (t ρ1 S1).bind fun b S2 => match b with
    | true => (mi1 ρ1 S2).bind fun ds1 S3 => if n + ds1.length ≤ 100000 then (lcL g1 t1 m (wp ρ1 vs1) ds1 S3).bind fun xs S4 => (lcL2 g t mi1 g1 t1 m vs1 ρ ds (n + ds1.length) S4).bind fun ys S5 => .ok (xs ++ ys) S5 else .no
    | false => lcL2 g t mi1 g1 t1 m vs1 ρ ds n S2
def mLc2 (mi : MA) (g : MG) (t : MT) (mi1 : MA) (g1 : MG) (t1 : MT) (m : ME) (vs vs1 : List Nat) : ME := fun ρ S => (mi ρ S).bind fun ds S1 => (lcL2 g t mi1 g1 t1 m vs1 (wp ρ vs) ds 0 S1).bind fun xs S2 => .ok (.lst xs) S2
def cont2 (r : Store → Res (List D)) (xs : List D) (S : Store) : Res (List D) := (r S).bind fun ys S5 => .ok (xs ++ ys) S5
theorem cont2_nil (r : Store → Res (List D)) (S : Store) : cont2 r [] S = r S := by
  unfold cont2
  cases r S <;> rfl
theorem bind_cons (q : Res (List D)) (v : D) (r : Store → Res (List D)) : (q.bind fun vs S4 => .ok (v :: vs) S4).bind (cont2 r) = (q.bind (cont2 r)).bind fun zs S => .ok (v :: zs) S := by
  cases q with
  | no => rfl
  | ex e S => rfl
  | ok xs S =>
    show cont2 r (v :: xs) S = (cont2 r xs S).bind _
    unfold cont2
    cases r S <;> rfl
theorem PostL_cons {Γ : Gm} {α1 : List Addr} {G1 H1 : Hp} {p : Addr} {acc : List D} {v : D} {r : Res (List D)} {Q : VK} (h : PostL Γ E α1 G1 H1 p acc (r.bind fun zs S => .ok (v :: zs) S) Q) : PostL Γ E α1 G1 H1 p (acc ++ [v]) r Q := by
  cases r with
  | no => exact h.elim
  | ex e S => exact h
  | ok xs S => exact fun α G H vs M r => h α G H vs M (by rw [List.append_assoc] at r; exact r)
/-- the inner loop -/
theorem snd_in {Γ : Gm} {g1 : TG} {js1 vs1 : List Nat} {tt1 : TT} {te : TE} {α1 : List Addr} {G1 H1 : Hp} {p : Addr} (hp0 : H1 p = none) (hg : SndG Γ E g1 mg1 js1) (ht : SndT Γ E tt1 mt1) (he : SndE Γ E te m) (hj : ∀ j ∈ js1, j ∈ vs1) (r : Store → Res (List D)) {Q : VK}
    {ρ : Env} {σ : L2.St} {α0 : List Addr} {G0 H0 : Hp} (hρ0 : EnvR Γ α0 G0 ρ σ) (ds : List D) (S1 : Store) (J : It) {acc0 : List D} {ws0 : List V} (M0 : Mid Γ α1 G1 H1 p α0 G0 S1 H0 ws0) (ra0 : RepL Γ α0 G0 acc0 ws0) (st : Steps Γ α0 G0 ds J) (n : Nat) (hl0 : acc0.length ≤ n) (hl : n + ds.length ≤ 100000)
    (hq : PostL Γ E α1 G1 H1 p acc0 ((lcL mg1 mt1 m (wp ρ vs1) ds S1).bind (cont2 r)) Q) :
    ∃ W : Nat → Nat → Hp → Prop, (∃ m, W 0 m H0) ∧ ∀ i k H, W i k H →
      (J.stop i H ∧ ∃ S2 α2 G2 acc ws, Mid Γ α1 G1 H1 p α2 G2 S2 H ws ∧ RepL Γ α2 G2 acc ws ∧ acc.length ≤ n + ds.length ∧ PostL Γ E α1 G1 H1 p acc (r S2) Q) ∨ (J.go i H ∧ ∃ Nx : Hp → Prop, (∀ H', Nx H' → ∃ m', m' < k ∧ W (i + 1) m' H') ∧ ∀ x H', J.yld i H x H' → g1 x (wipe σ vs1) H' fun σ2 H2 => wipe σ2 vs1 = wipe σ vs1 ∧ tt1 σ2 H2 fun b H3 =>
        if b = true then te σ2 H3 fun y H4 => ∃ acc, H4 p = some (.lst acc) ∧ acc.length < sizeLine ∧ Nx (upd H4 p (.lst (acc ++ [y]))) else Nx H3) := by
  refine ⟨fun i k H => k = ds.length - i ∧ i ≤ ds.length ∧ ∃ S2 α2 G2 acc ws, Mid Γ α1 G1 H1 p α2 G2 S2 H ws ∧ RepL Γ α2 G2 acc ws ∧ acc.length ≤ n + i ∧ (∃ β, α2 = α0 ++ β) ∧ Sub G0 G2 ∧ PostL Γ E α1 G1 H1 p acc ((lcL mg1 mt1 m (wp ρ vs1) (ds.drop i) S2).bind (cont2 r)) Q,
    ⟨ds.length, by simp, Nat.zero_le _, S1, α0, G0, acc0, ws0, M0, ra0, by omega, ⟨[], by simp⟩, Sub.refl G0, by simpa using hq⟩, ?_⟩
  rintro i k H2 ⟨rfl, hle, S2, α2, G2, acc, ws, M2, r2, ha2, pre2, sub2, hq2⟩
  obtain ⟨stop, go⟩ := st i α2 G2 H2 S2 pre2 sub2 M2.rl
  by_cases hlt : i < ds.length
  · have hd : ds[i]? = some ds[i] := List.getElem?_eq_getElem hlt
    obtain ⟨hgo, hy⟩ := go _ hd
    refine .inr ⟨hgo, fun H' => ∃ S2 α2 G2 acc ws, Mid Γ α1 G1 H1 p α2 G2 S2 H' ws ∧ RepL Γ α2 G2 acc ws ∧ acc.length ≤ n + (i + 1) ∧ (∃ β, α2 = α0 ++ β) ∧ Sub G0 G2 ∧ PostL Γ E α1 G1 H1 p acc ((lcL mg1 mt1 m (wp ρ vs1) (ds.drop (i + 1)) S2).bind (cont2 r)) Q, fun H' z => ⟨ds.length - (i + 1), by omega, rfl, hlt, z⟩, fun x H3 y3 => ?_⟩
    obtain ⟨G3, R3, e3, rx⟩ := hy x H3 y3
    have M3 := M2.step e3 R3
    have tr : ∀ {α G H α' G' H'}, Ext α G H α' G' H' → (∃ β, α = α0 ++ β) → ∃ β, α' = α0 ++ β := fun e h => by
      obtain ⟨β, rfl⟩ := h
      obtain ⟨γ, e2⟩ := e.pre
      exact ⟨β ++ γ, by rw [e2, List.append_assoc]⟩
    have pre3 := tr e3 pre2
    have sub3 := sub2.trans e3.sub
    rw [List.drop_eq_getElem_cons hlt] at hq2
    simp only [lcL] at hq2
    have hρ3 : EnvR Γ α2 G3 (wp ρ vs1) (wipe σ vs1) := EnvR.wp ⟨hρ0.1, fun i d hi => let ⟨v, a, b⟩ := hρ0.2 i d hi; ⟨v, a, Rep.mono pre2 sub3 _ _ b⟩⟩ vs1
    refine hg ds[i] (wp ρ vs1) S2 (wipe σ vs1) α2 G3 H3 x _ hρ3 R3 rx ?_
    cases q4 : mg1 ds[i] (wp ρ vs1) S2 with
    | no => rw [q4] at hq2; exact hq2.elim
    | ex e' S' =>
      rw [q4] at hq2
      exact fun α' G' H' c x e R r => hq2 α' G' H' c x (M3.ext.trans e) R r
    | ok ρ4 S4 =>
      rw [q4] at hq2
      dsimp only [Res.bind] at hq2
      intro α4 G4 H4 σ4 e4 R4 r4 ⟨l4, o4⟩
      have M4 := M3.step e4 R4
      have pre4 := tr e4 pre3
      have sub4 := sub3.trans e4.sub
      refine ⟨wipe_same l4 o4 hj, ?_⟩
      refine ht ρ4 S4 σ4 α4 G4 H4 _ r4 R4 ?_
      cases q5 : mt1 ρ4 S4 with
      | no => rw [q5] at hq2; exact hq2.elim
      | ex e' S' =>
        rw [q5] at hq2
        exact fun α' G' H' c x e R r => hq2 α' G' H' c x (M4.ext.trans e) R r
      | ok b S5 =>
        rw [q5] at hq2
        dsimp only [Res.bind] at hq2
        intro α5 G5 H5 b' e5 R5 rb
        have rb : b = b' := rb
        subst rb
        have M5 := M4.step e5 R5
        have pre5 := tr e5 pre4
        have sub5 := sub4.trans e5.sub
        have r5 : RepL Γ α5 G5 acc ws := RepL.mono e5.pre e5.sub _ _ (RepL.mono e4.pre e4.sub _ _ (RepL.mono e3.pre e3.sub _ _ r2))
        cases b with
        | false => exact iteF ⟨S5, α5, G5, acc, ws, M5, r5, by omega, pre5, sub5, hq2⟩
        | true =>
          refine iteT (he ρ4 S5 σ4 α5 G5 H5 _ (r4.mono e5) R5 ?_)
          cases q6 : m ρ4 S5 with
          | no => rw [q6] at hq2; exact hq2.elim
          | ex e' S' =>
            rw [q6] at hq2
            exact fun α' G' H' c x e R r => hq2 α' G' H' c x (M5.ext.trans e) R r
          | ok v S6 =>
            rw [q6] at hq2
            have hq3 : PostL Γ E α1 G1 H1 p acc (((lcL mg1 mt1 m (wp ρ vs1) (ds.drop (i + 1)) S6).bind fun vs S4 => .ok (v :: vs) S4).bind (cont2 r)) Q := hq2
            rw [bind_cons] at hq3
            intro α6 G6 H6 y e6 R6 ry
            have M6 := M5.step e6 R6
            have r6 : RepL Γ α6 G6 acc ws := RepL.mono e6.pre e6.sub _ _ r5
            refine ⟨ws, M6.at_, ?_, S6, α6, G6, acc ++ [v], ws ++ [y], M6.push hp0 _, r6.append (by unfold RepL; exact ⟨y, [], rfl, ry, by simp [RepL]⟩), by simp; omega, tr e6 pre5, sub5.trans e6.sub, PostL_cons hq3⟩
            rw [← r6.length]
            exact Nat.lt_of_le_of_lt (by omega : acc.length ≤ 100000) (by decide)
  · refine .inl ⟨stop (by omega), S2, α2, G2, acc, ws, M2, r2, by omega, ?_⟩
    rw [List.drop_of_length_le (by omega)] at hq2
    have : PostL Γ E α1 G1 H1 p acc (cont2 r [] S2) Q := hq2
    rw [cont2_nil] at this
    exact this
theorem snd_lc2 {Γ : Gm} {wi wi1 : TI} {mi : MA} {g g1 : TG} {js vs js1 vs1 : List Nat} {tt tt1 : TT} {te : TE} (hi : SndI Γ E wi mi) (hg : SndG Γ E g mg js) (ht : SndT Γ E tt mt) (hi1 : SndI Γ E wi1 mi1) (hg1 : SndG Γ E g1 mg1 js1) (ht1 : SndT Γ E tt1 mt1) (he : SndE Γ E te m) (hj : ∀ j ∈ js, j ∈ vs) (hj1 : ∀ j ∈ js1, j ∈ vs1) :
    SndE Γ E (tLc2 wi g tt wi1 g1 tt1 te vs vs1) (mLc2 mi mg mt mi1 mg1 mt1 m vs vs1) := fun ρ S σ α G H Q hρ hR hp => by
  refine hi ρ S σ α G H _ hρ hR ?_
  unfold mLc2 at hp
  cases q : mi ρ S with
  | no => rw [q] at hp; exact hp
  | ex e S' => rw [q] at hp; exact hp
  | ok ds S1 =>
    rw [q] at hp
    intro α1 G1 H1 J e1 R1 st p hp0
    have hp1 := Post.mono (show Post Γ (Rep Γ) α G H ((lcL2 mg mt mi1 mg1 mt1 m vs1 (wp ρ vs) ds 0 S1).bind fun xs S2 => .ok (.lst xs) S2) Q E from hp) e1
    have hq : PostL Γ E α1 G1 H1 p [] (lcL2 mg mt mi1 mg1 mt1 m vs1 (wp ρ vs) ds 0 S1) Q := by
      cases q2 : lcL2 mg mt mi1 mg1 mt1 m vs1 (wp ρ vs) ds 0 S1 with
      | no => rw [q2] at hp1; exact hp1.elim
      | ex e S' => rw [q2] at hp1; exact hp1
      | ok xs S2 =>
        rw [q2] at hp1
        intro α2 G2 H2 ws M r
        obtain ⟨R3, e3⟩ := M.done hp0
        have r' : RepL Γ α2 (upd G2 p (.lst ws)) xs ws := RepL.mono (α := α2) ⟨[], by simp⟩ (Sub.new M.ng) xs ws (by simpa using r)
        exact hp1 α2 _ H2 (.ref p) e3 R3 (rep_lst upd_same r')
    have hpa : p ∉ α1 := fun z => R1.tr p z hp0
    have hpg : G1 p = none := R1.gnone hp0
    refine ⟨fun i k H => k = ds.length - i ∧ i ≤ ds.length ∧ ∃ S2 α2 G2 acc ws n, Mid Γ α1 G1 H1 p α2 G2 S2 H ws ∧ RepL Γ α2 G2 acc ws ∧ acc.length ≤ n ∧ PostL Γ E α1 G1 H1 p acc (lcL2 mg mt mi1 mg1 mt1 m vs1 (wp ρ vs) (ds.drop i) n S2) Q,
      ⟨ds.length, by simp, Nat.zero_le _, S1, α1, G1, [], [], 0, ⟨(Ext.refl _ _ _).patch hp0 _, R1.patch hpa hpg _, upd_same, hpa, hpg⟩, by simp [RepL], Nat.le_refl _, by simpa using hq⟩, ?_⟩
    rintro i k H2 ⟨rfl, hle, S2, α2, G2, acc, ws, n, M2, r2, ha2, hq2⟩
    obtain ⟨stop, go⟩ := st i α2 G2 H2 S2 M2.ext.pre M2.ext.sub M2.rl
    by_cases hlt : i < ds.length
    · have hd : ds[i]? = some ds[i] := List.getElem?_eq_getElem hlt
      obtain ⟨hgo, hy⟩ := go _ hd
      refine .inr ⟨hgo, fun H' => ∃ S2 α2 G2 acc ws n, Mid Γ α1 G1 H1 p α2 G2 S2 H' ws ∧ RepL Γ α2 G2 acc ws ∧ acc.length ≤ n ∧ PostL Γ E α1 G1 H1 p acc (lcL2 mg mt mi1 mg1 mt1 m vs1 (wp ρ vs) (ds.drop (i + 1)) n S2) Q, fun H' z => ⟨ds.length - (i + 1), by omega, rfl, hlt, z⟩, fun x H3 y3 => ?_⟩
      obtain ⟨G3, R3, e3, rx⟩ := hy x H3 y3
      have M3 := M2.step e3 R3
      rw [List.drop_eq_getElem_cons hlt] at hq2
      simp only [lcL2] at hq2
      have hρ3 : EnvR Γ α2 G3 (wp ρ vs) (wipe σ vs) := by
        have := (hρ.mono e1).mono (M3.ext)
        exact this.wp vs
      refine hg ds[i] (wp ρ vs) S2 (wipe σ vs) α2 G3 H3 x _ hρ3 R3 rx ?_
      cases q4 : mg ds[i] (wp ρ vs) S2 with
      | no => rw [q4] at hq2; exact hq2.elim
      | ex e' S' =>
        rw [q4] at hq2
        exact fun α' G' H' c x e R r => hq2 α' G' H' c x (M3.ext.trans e) R r
      | ok ρ4 S4 =>
        rw [q4] at hq2
        dsimp only [Res.bind] at hq2
        intro α4 G4 H4 σ4 e4 R4 r4 ⟨l4, o4⟩
        have M4 := M3.step e4 R4
        refine ⟨wipe_same l4 o4 hj, ?_⟩
        refine ht ρ4 S4 σ4 α4 G4 H4 _ r4 R4 ?_
        cases q5 : mt ρ4 S4 with
        | no => rw [q5] at hq2; exact hq2.elim
        | ex e' S' =>
          rw [q5] at hq2
          exact fun α' G' H' c x e R r => hq2 α' G' H' c x (M4.ext.trans e) R r
        | ok b S5 =>
          rw [q5] at hq2
          dsimp only [Res.bind] at hq2
          intro α5 G5 H5 b' e5 R5 rb
          have rb : b = b' := rb
          subst rb
          have M5 := M4.step e5 R5
          have r5 : RepL Γ α5 G5 acc ws := RepL.mono e5.pre e5.sub _ _ (RepL.mono e4.pre e4.sub _ _ (RepL.mono e3.pre e3.sub _ _ r2))
          cases b with
          | false => exact iteF ⟨S5, α5, G5, acc, ws, n, M5, r5, ha2, hq2⟩
          | true =>
            refine iteT (hi1 ρ4 S5 σ4 α5 G5 H5 _ (r4.mono e5) R5 ?_)
            cases q6 : mi1 ρ4 S5 with
            | no => rw [q6] at hq2; exact hq2.elim
            | ex e' S' =>
              rw [q6] at hq2
              exact fun α' G' H' c x e R r => hq2 α' G' H' c x (M5.ext.trans e) R r
            | ok ds1 S6 =>
              rw [q6] at hq2
              intro α6 G6 H6 J1 e6 R6 st6
              have hq3 := (show PostL Γ E α1 G1 H1 p acc (if n + ds1.length ≤ 100000 then _ else _) Q from hq2)
              split at hq3
              · rename_i hl
                obtain ⟨W, h0, hW⟩ := snd_in (mt1 := mt1) hp0 hg1 ht1 he hj1 (fun S => lcL2 mg mt mi1 mg1 mt1 m vs1 (wp ρ vs) (ds.drop (i + 1)) (n + ds1.length) S) ((r4.mono e5).mono e6) ds1 S6 J1 (M5.step e6 R6) (RepL.mono e6.pre e6.sub _ _ r5) st6 n ha2 hl hq3
                refine ⟨W, h0, fun j k H w => ?_⟩
                rcases hW j k H w with ⟨s1, S7, α7, G7, acc7, ws7, M7, r7, l7, q7⟩ | h
                · exact .inl ⟨s1, S7, α7, G7, acc7, ws7, _, M7, r7, l7, q7⟩
                · exact .inr h
              · exact hq3.elim
    · refine .inl ⟨stop (by omega), ?_⟩
      rw [List.drop_of_length_le (by omega)] at hq2
      exact hq2 α2 G2 H2 ws M2 (by simpa using r2)
end
section
variable {X : Cx} {cl : Nat → Addr} {E : XK} {m : ME} {mt1 : MT} {pos : Pos}
def tI (Γ : Gm) (E : XK) (mi : MA) : TI := fun σ H R => ∃ ρ S α G, EnvR Γ α G ρ σ ∧ Rl Γ α G S H ∧ PostI Γ E α G H (mi ρ S) R
theorem QI.can {tg iter : Expr} {mi : MA} (h : QI X cl E tg iter mi) : PI X tg iter (tI ⟨X.K, cl⟩ E mi) := by
  obtain ⟨t, h1, h2⟩ := h.ex
  exact ⟨fun pins s σ H R I ⟨ρ, S, α, G, hρ, hR, hp⟩ => h1.run pins s σ H R I (h2 ρ S σ α G H R hρ hR hp)⟩
theorem snd_tI {Γ : Gm} {mi : MA} : SndI Γ E (tI Γ E mi) mi := fun ρ S σ α G H R hρ hR hp => ⟨ρ, S, α, G, hρ, hR, hp⟩
variable {elt tg iter tg1 iter1 c : Expr} {scope : Scope} {mi mi1 : MA} {mg mg1 : MG} {js js1 : List Nat}
/-- [elt for tg in iter for tg1 in iter1] -/
theorem q_lc2 (own : List (Str × Nat)) (vs1 : List Nat) (hi : QI X cl E tg iter mi) (hN : X.N.Nodup) (ok : BlkOk X.N X.env.scope scope own)
    (hg : ∀ (s : Shared) (H : Hp) (C : Addr) (c : List (Str × Addr)) (fp : List Addr), QG (Blk X scope s H C c fp) cl E tg mg js)
    (hi1 : ∀ (s : Shared) (H : Hp) (C : Addr) (c : List (Str × Addr)) (fp : List Addr), QI (Blk X scope s H C c fp) cl E tg1 iter1 mi1)
    (hg1 : ∀ (s : Shared) (H : Hp) (C : Addr) (c : List (Str × Addr)) (fp : List Addr), QG (Blk X scope s H C c fp) cl E tg1 mg1 js1)
    (he : ∀ (s : Shared) (H : Hp) (C : Addr) (c : List (Str × Addr)) (fp : List Addr), QE (Blk X scope s H C c fp) cl E elt m)
    (hv : ∀ i ∈ vs1, i ∈ own.map (·.2) := by decide) (hj : ∀ j ∈ js, j ∈ own.map (·.2) := by decide) (hj1 : ∀ j ∈ js1, j ∈ vs1 := by decide) (hc : X.calm = true := by rfl) (hs : ∀ x, foldedSetIterable iter X.env x = pure x := by intro _; rfl) (hs1 : ∀ env x, foldedSetIterable iter1 env x = pure x := by intro _ _; rfl) :
    QE X cl E (.ListComp elt [⟨tg, iter, [], 0⟩, ⟨tg1, iter1, [], 0⟩] scope pos) (mLc2 mi mg mYes mi1 mg1 mYes m (own.map (·.2)) vs1) := by
  obtain ⟨wi, h1, h2⟩ := hi.ex
  exact ⟨_, pe_lc2 hc hN h1 ok hv (fun s H C c fp => (hg s H C c fp).can) (fun _ _ _ _ _ => pts_nil) (fun s H C c fp => (hi1 s H C c fp).can) (fun s H C c fp => (hg1 s H C c fp).can) (fun _ _ _ _ _ => pts_nil) (fun s H C c fp => (he s H C c fp).can) hs hs1, snd_lc2 (Γ := ⟨X.K, cl⟩) h2 snd_tG snd_yes snd_tI snd_tG snd_yes snd_tE hj hj1⟩
/-- [elt for tg in iter for tg1 in iter1 if c] -/
theorem q_lc2If (own : List (Str × Nat)) (vs1 : List Nat) (hi : QI X cl E tg iter mi) (hN : X.N.Nodup) (ok : BlkOk X.N X.env.scope scope own)
    (hg : ∀ (s : Shared) (H : Hp) (C : Addr) (c : List (Str × Addr)) (fp : List Addr), QG (Blk X scope s H C c fp) cl E tg mg js)
    (hi1 : ∀ (s : Shared) (H : Hp) (C : Addr) (c : List (Str × Addr)) (fp : List Addr), QI (Blk X scope s H C c fp) cl E tg1 iter1 mi1)
    (hg1 : ∀ (s : Shared) (H : Hp) (C : Addr) (c : List (Str × Addr)) (fp : List Addr), QG (Blk X scope s H C c fp) cl E tg1 mg1 js1)
    (ht1 : ∀ (s : Shared) (H : Hp) (C : Addr) (c' : List (Str × Addr)) (fp : List Addr), QT (Blk X scope s H C c' fp) cl E c mt1)
    (he : ∀ (s : Shared) (H : Hp) (C : Addr) (c : List (Str × Addr)) (fp : List Addr), QE (Blk X scope s H C c fp) cl E elt m)
    (hv : ∀ i ∈ vs1, i ∈ own.map (·.2) := by decide) (hj : ∀ j ∈ js, j ∈ own.map (·.2) := by decide) (hj1 : ∀ j ∈ js1, j ∈ vs1 := by decide) (hc : X.calm = true := by rfl) (hs : ∀ x, foldedSetIterable iter X.env x = pure x := by intro _; rfl) (hs1 : ∀ env x, foldedSetIterable iter1 env x = pure x := by intro _ _; rfl) :
    QE X cl E (.ListComp elt [⟨tg, iter, [], 0⟩, ⟨tg1, iter1, [c], 0⟩] scope pos) (mLc2 mi mg mYes mi1 mg1 mt1 m (own.map (·.2)) vs1) := by
  obtain ⟨wi, h1, h2⟩ := hi.ex
  exact ⟨_, pe_lc2 hc hN h1 ok hv (fun s H C c fp => (hg s H C c fp).can) (fun _ _ _ _ _ => pts_nil) (fun s H C c fp => (hi1 s H C c fp).can) (fun s H C c fp => (hg1 s H C c fp).can) (fun s H C c' fp => pts_one (ht1 s H C c' fp).can) (fun s H C c fp => (he s H C c fp).can) hs hs1, snd_lc2 (Γ := ⟨X.K, cl⟩) h2 snd_tG snd_yes snd_tI snd_tG snd_tT snd_tE hj hj1⟩
variable {mt : MT}
/-- name = [elt for tg in iter .. for tg1 in iter1 ..], stored within the comprehension's own frame -/
theorem qs_setLc2 (i : Nat) {y : Str} {py spos : Pos} {ifs ifs1 : List Expr} (own : List (Str × Nat)) (vs1 : List Nat) (hi : QI X cl E tg iter mi) (hN : X.N.Nodup) (ok : BlkOk X.N X.env.scope scope own)
    (hg : ∀ (s : Shared) (H : Hp) (C : Addr) (c : List (Str × Addr)) (fp : List Addr), QG (Blk X scope s H C c fp) cl E tg mg js)
    (ht : ∀ (s : Shared) (H : Hp) (C : Addr) (c' : List (Str × Addr)) (fp : List Addr), PTs (Blk X scope s H C c' fp) ifs (tT ⟨X.K, cl⟩ E mt))
    (hi1 : ∀ (s : Shared) (H : Hp) (C : Addr) (c : List (Str × Addr)) (fp : List Addr), QI (Blk X scope s H C c fp) cl E tg1 iter1 mi1)
    (hg1 : ∀ (s : Shared) (H : Hp) (C : Addr) (c : List (Str × Addr)) (fp : List Addr), QG (Blk X scope s H C c fp) cl E tg1 mg1 js1)
    (ht1 : ∀ (s : Shared) (H : Hp) (C : Addr) (c' : List (Str × Addr)) (fp : List Addr), PTs (Blk X scope s H C c' fp) ifs1 (tT ⟨X.K, cl⟩ E mt1))
    (he : ∀ (s : Shared) (H : Hp) (C : Addr) (c : List (Str × Addr)) (fp : List Addr), QE (Blk X scope s H C c fp) cl E elt m)
    (hv : ∀ i ∈ vs1, i ∈ own.map (·.2) := by decide) (hj : ∀ j ∈ js, j ∈ own.map (·.2) := by decide) (hj1 : ∀ j ∈ js1, j ∈ vs1 := by decide) (hy : X.N[i]? = some y := by rfl) (hyl : X.env.scope.names.lookup y = some .local := by rfl) (hc : X.calm = true := by rfl)
    (hsw : swapsWith (.ListComp elt [⟨tg, iter, ifs, 0⟩, ⟨tg1, iter1, ifs1, 0⟩] scope pos) (some (.Name y py)) spos.line X.env = pure true := by exact sw_true rfl rfl rfl (by decide +kernel)) (hs : ∀ x, foldedSetIterable iter X.env x = pure x := by intro _; rfl) (hs1 : ∀ env x, foldedSetIterable iter1 env x = pure x := by intro _ _; rfl) :
    QS X cl E (.Assign [.Name y py] (.ListComp elt [⟨tg, iter, ifs, 0⟩, ⟨tg1, iter1, ifs1, 0⟩] scope pos) spos) (mAsg (mLc2 mi mg mt mi1 mg1 mt1 m (own.map (·.2)) vs1) (mgN i)) := by
  obtain ⟨wi, h1, h2⟩ := hi.ex
  exact ⟨_, ps_setLc2 hc hN hy hyl hsw h1 ok hv (fun s H C c fp => (hg s H C c fp).can) ht (fun s H C c fp => (hi1 s H C c fp).can) (fun s H C c fp => (hg1 s H C c fp).can) ht1 (fun s H C c fp => (he s H C c fp).can) hs hs1, snd_asg (snd_lc2 (Γ := ⟨X.K, cl⟩) h2 snd_tG snd_tT snd_tI snd_tG snd_tT snd_tE hj hj1) (sndg_name i)⟩
end
section
variable {g g1 : MG} {t t1 : MT} {mi mi1 : MA} {m : ME} {vs vs1 : List Nat} {ρ : Env} {S : Store}
def lc2K (g : MG) (t : MT) (mi1 : MA) (g1 : MG) (t1 : MT) (m : ME) (vs vs1 : List Nat) (ρ : Env) (ds : List D) (S : Store) : Res D := (lcL2 g t mi1 g1 t1 m vs1 (wp ρ vs) ds 0 S).bind fun xs S2 => .ok (.lst xs) S2
@[simp] theorem ap_lc2 : mLc2 mi g t mi1 g1 t1 m vs vs1 ρ S = (mi ρ S).bind (lc2K g t mi1 g1 t1 m vs vs1 ρ) := (Eq.refl _).trans rfl
theorem lc2K_ok {ds xs : List D} {S2 : Store} (h : lcL2 g t mi1 g1 t1 m vs1 (wp ρ vs) ds 0 S = .ok xs S2) : lc2K g t mi1 g1 t1 m vs vs1 ρ ds S = .ok (.lst xs) S2 := by
  unfold lc2K
  rw [h]
  rfl
end
end Q
namespace L2
open PySem PySem.Spec PyProof.Rows
theorem nodup_len_leG {β : Type} : ∀ {xs ys : List β}, xs.Nodup → (∀ x ∈ xs, x ∈ ys) → xs.length ≤ ys.length
  | [], _, _, _ => Nat.zero_le _
  | x :: xs, ys, nd, h => by
    obtain ⟨pre, suf, rfl⟩ := List.append_of_mem (h x (List.mem_cons_self ..))
    rw [List.nodup_cons] at nd
    have ih := nodup_len_leG (xs := xs) (ys := pre ++ suf) nd.2 fun z hz => by
      have hz2 := h z (List.mem_cons_of_mem _ hz)
      rw [List.mem_append, List.mem_cons] at hz2
      rw [List.mem_append]
      rcases hz2 with h1 | rfl | h1
      · exact .inl h1
      · exact absurd hz nd.1
      · exact .inr h1
    simp only [List.length_append, List.length_cons] at ih ⊢
    omega
section
variable {X : Cx}
/-- len of a set of tuples of ints -/
def rLenSetT (K : PySem.W.Frag) (P : Program) (w : World) : List V → Hp → VK → Prop := fun xs H Q => ∃ (a : Addr) (L : List (Addr × List Int)), xs = [V.ref a] ∧ H a = some (SetTO P w a L) ∧ (∀ p ∈ L, SqT K H p.1 (p.2.map V.int)) ∧ ((L.map (·.2)).Nodup → Q (.int (L.length : Nat)) H)
theorem cr_lenSetT : CallR X (.builtin "len") (rLenSetT X.K X.prog X.w) := by
  intro pins s σ H vs us Q I r h
  obtain ⟨a, L, rfl, ha, hk, q⟩ := h
  have R0 : SetT0 X.prog X.w s.heap a L := (I.hok a _ ha).1
  obtain ⟨es, ep, t, R⟩ := R0.full fun p hp => I.isT (hk p hp)
  obtain ⟨o, ho, hex, hd⟩ := R.ob
  have e : es.size = L.length := R.size
  have hf := R.few
  rw [Vals.ref1 r]
  exact call_len_set ho hex hd R.fits (by omega) ⟨.int (L.length : Nat), H, I.tok _, ⟨_, by rw [e]⟩, q R.nd⟩
end
end L2
namespace Q
open PySem L2
/-- how many members a list of pairs has, each once -/
def lsKP (d : D) (S : Store) : Res D := match d with
  | .lst xs => match pairsOf xs with
    | some ps => if ps.length < 64 then .ok (.int ((sortU ps).length : Nat)) S else .no
    | none => .no
  | _ => .no
def mLenSetP (m : ME) : ME := fun ρ S => (m ρ S).bind lsKP
theorem sortU_nodup (ps : List (Int × Int)) : (sortU ps).Nodup := (sortU_up ps).imp fun {x y} h e => by
  subst e
  exact plt_irr _ h
section
variable {X : Cx} {cl : Nat → Addr} {E : XK} {e : Expr} {m : ME} {pos : Pos}
theorem ls_pairs {xs : List D} {ps : List (Int × Int)} {v : V} {α1 : List Addr} {G1 H1 : Hp} {S1 : Store} {Q Q2 : VK} (R1 : Rl ⟨X.K, cl⟩ α1 G1 S1 H1) (r1 : Rep ⟨X.K, cl⟩ α1 G1 (.lst xs) v) (q : pairsOf xs = some ps) (hl : ps.length < 64)
    (hp1 : Post ⟨X.K, cl⟩ (Rep ⟨X.K, cl⟩) α1 G1 H1 (.ok (.int ((sortU ps).length : Nat)) S1) Q E) (hQ : ∀ x H2, rLenSetT X.K X.prog X.w [x] H2 Q → Q2 x H2) : rSetOfT X.K X.prog X.w [v] H1 Q2 := by
  unfold Rep at r1
  obtain ⟨l, vs, rfl, s1, t1⟩ := r1
  obtain ⟨ks, rfl, k1, k2, k3⟩ := pairs_at xs ps vs q t1
  have hlen : ks.length = ps.length := by have := congrArg List.length k2; simpa using this
  have two : ∀ p ∈ ks, ∃ i j, p.2 = [i, j] ∧ (i, j) ∈ ps := fun p hp => by
    have : p.2 ∈ ps.map (fun p => [p.1, p.2]) := by rw [← k2]; exact List.mem_map.mpr ⟨p, hp, rfl⟩
    obtain ⟨u, hu, e⟩ := List.mem_map.mp this
    exact ⟨u.1, u.2, e.symm, hu⟩
  refine ⟨l, ks, rfl, R1.sub.sqL (.inl (.inl s1)), fun p hp => .inl (.inl (R1.sub _ _ (k1 p hp))), by rw [hlen]; exact hl, fun a L ha hL hL2 => ?_⟩
  obtain ⟨R2, e2⟩ := R1.new ha (SetTO X.prog X.w a L)
  refine hQ _ _ ⟨a, L, rfl, upd_same, fun p hp => .inl (.inl (R2.sub _ _ (e2.sub _ _ (k1 p (hL p hp))))), fun nd => ?_⟩
  have mem : ∀ z, z ∈ (L.map fun p => pk p.2) ↔ z ∈ ps := fun z => by
    constructor
    · intro hz
      obtain ⟨p, hp, rfl⟩ := List.mem_map.mp hz
      obtain ⟨i, j, ep, mp⟩ := two p (hL p hp)
      rw [ep]
      exact mp
    · intro hz
      have : [z.1, z.2] ∈ ks.map (·.2) := by rw [k2]; exact List.mem_map.mpr ⟨z, hz, rfl⟩
      obtain ⟨p, hp, e⟩ := List.mem_map.mp this
      obtain ⟨p', hp', e'⟩ := List.mem_map.mp (hL2 p hp)
      exact List.mem_map.mpr ⟨p', hp', by rw [e', e]; rfl⟩
  have ndM : (L.map fun p => pk p.2).Nodup := by
    unfold List.Nodup at nd ⊢
    rw [List.pairwise_map] at nd ⊢
    refine nd.imp_of_mem fun {p q} hp hq hpq h => ?_
    obtain ⟨i, j, ep, _⟩ := two p (hL p hp)
    obtain ⟨i', j', eq, _⟩ := two q (hL q hq)
    rw [ep, eq] at h hpq
    have h' : (i, j) = (i', j') := h
    cases h'
    exact hpq rfl
  have len : L.length = (sortU ps).length := by
    have l1 := nodup_len_leG ndM fun z hz => mem_sortU.mpr ((mem z).mp hz)
    have l2 := nodup_len_leG (sortU_nodup ps) fun z hz => (mem z).mpr (mem_sortU.mp hz)
    rw [List.length_map] at l1 l2
    omega
  rw [len]
  exact hp1 _ _ _ _ e2 R2 (by simp [Rep])
theorem q_lensetP {k : Nat} {p p1 p2 : Pos} (hr : Room k X.A) (h : QE X cl E e m) (hg : Gl X "len") (hm : X.mg "len" = none) (hg' : Gl X "set") (hm' : X.mg "set" = none) (hc : X.calm = true := by rfl)
    (he : starEach [e] X.env = (false, eval e X.env) :: starEach [] X.env := by rfl)
    (he2 : starEach [.Call (.Name "set" p1) [e] [] p2] X.env = (false, eval (.Call (.Name "set" p1) [e] [] p2) X.env) :: starEach [] X.env := by rfl)
    (hpl : (backTo p2 (starEach [] X.env)).any (·.1) = false := by rfl) (hpl2 : (backTo pos (starEach [] X.env)).any (·.1) = false := by rfl) :
    QE X cl E (.Call (.Name "len" p) [.Call (.Name "set" p1) [e] [] p2] [] pos) (mLenSetP m) := by
  obtain ⟨t, h1, h2⟩ := h.ex
  have c1 := pe_callTy (pos := p2) (p := p1) (cr_setOfT hc hr.units) hg' hm' (by rfl) (pa_cons h1 pa_nil he) (by decide) (by decide) he hpl
  refine ⟨_, pe_callB cr_lenSetT hg hm (by rfl) (pa_cons c1 pa_nil he2) (by decide) (by decide) he2 hpl2, fun ρ S σ α G H Q hρ hR hp => ?_⟩
  refine h2 ρ S σ α G H _ hρ hR (post_bind hp fun d S1 α1 G1 H1 v _ e1 R1 r1 hp1 => ?_)
  cases d with
  | lst xs =>
    simp only [lsKP] at hp1
    cases q : pairsOf xs with
    | none => rw [q] at hp1; exact hp1.elim
    | some ps =>
      rw [q] at hp1
      simp only at hp1
      split at hp1
      · rename_i hl
        exact ls_pairs R1 r1 q hl hp1 fun x H2 z => z
      · exact hp1.elim
  | _ => exact hp1.elim
end
section
variable {S : Store} {ρ : Env}
@[simp] theorem ap_lensetP (m : ME) : mLenSetP m ρ S = (m ρ S).bind lsKP := (Eq.refl _).trans rfl
theorem lsKP_pairs {ps : List (Int × Int)} (h : ∀ p ∈ ps, (0 ≤ p.1 ∧ p.1 < lim) ∧ 0 ≤ p.2 ∧ p.2 < lim) (hl : ps.length < 64) : lsKP (.lst (ps.map pairD)) S = .ok (.int ((sortU ps).length : Nat)) S := by
  simp only [lsKP, pairsOf_map ps h, hl, if_true]
theorem sortU_nlen {ps : List (Int × Int)} (h : ps.Nodup) : (sortU ps).length = ps.length :=
  Nat.le_antisymm (nodup_len_leG (sortU_nodup ps) fun x hx => mem_sortU.mp hx) (nodup_len_leG h fun x hx => mem_sortU.mpr hx)
end
end Q
namespace L2
open PySem PySem.Spec PyProof.Rows
section
variable {X : Cx}
def rCountD (K : PySem.W.Frag) : V → List V → Hp → VK → Prop := fun x xs H Q => ∃ (a : Addr) (y : V) (d : PyData) (ds : List PyData), x = V.ref a ∧ xs = [y] ∧ Dp K H (V.ref a) (.list ds) ∧ Dp K H y d ∧
  SeqAt.shaped (.list ds) = true ∧ SeqAt.shaped d = true ∧ Q (.int ((ds.countP fun z => PyData.eqv z d : Nat) : Int)) H
theorem mt_countD (hu : X.A.units + 65 < cLine) : MtR X "list.count" (rCountD X.K) := by
  intro pins s σ H x xs v us Q I rx rxs h
  obtain ⟨a, y, d, ds, rfl, rfl, hl, hy, sl, sd, q⟩ := h
  cases rx
  cases rxs with
  | cons ry rt =>
    rename_i uy ut
    cases rt
    obtain ⟨bs, r1⟩ := Dp.reads I d y uy hy ry
    have hxs : PyData.canLayAll0 ds = true := SeqAt.canLay_of_shaped sl
    have hroom : X.A.units + 1 + min (PyData.depthAll ds) d.depth < cLine := room_in_shaped sd hu
    cases hl with
    | lst hs ha =>
      obtain ⟨its, rv, ⟨⟨cls, dd, data, sls⟩, n, ho, hc, hdn, hdt⟩, hlen⟩ := I.list hs
      simp only at hc hdt
      subst hc hdt
      obtain ⟨as, h4⟩ := Dp.readsAll I ds _ its ha rv
      have hmap : its.map (SeqAt.readOf s.heap) = ds := SeqAt.readsAll_map ds its as hxs h4
      have e : its.countP (fun u => PyData.eqv (SeqAt.readOf s.heap u) d) = ds.countP fun z => PyData.eqv z d := by
        rw [← hmap, List.countP_map]
        rfl
      refine call_meets PySem.F.slot_list_count ⟨_, ho, rfl⟩ PySem.F.entry_list_count (PySem.F.args_list_count_2 _ _)
        (SeqAt.list_countAt a its.toArray n dd sls uy (fun u => PyData.eqv (SeqAt.readOf s.heap u) d)) ⟨ho, SeqAt.items_eqAt (vs := its.toArray) (show ReadsAll s.heap its.toArray.toList ds as from h4) r1 hxs (SeqAt.canLay_of_shaped sd) hroom, ?_⟩
      exact ⟨.int ((its.countP (fun u => PyData.eqv (SeqAt.readOf s.heap u) d) : Nat) : Int), H, I.tok _, ⟨_, rfl⟩, by rw [e]; exact q⟩
end
end L2
namespace Q
open PySem L2
def countD (xs : List D) (a : D) : Nat := xs.countP fun z => deq z a
def countK (d y : D) (S : Store) : Res D := match deref S d with
  | .lst xs => if shal 20 y && shal 20 (.lst xs) then .ok (.int (countD xs y : Nat)) S else .no
  | _ => .no
def isSeqS (S : Store) : D → Bool
  | .lst _ => true
  | .ref k => notOb S k
  | _ => false
/-- xs.count(x) -/
def mCount (mo m : ME) : ME := fun ρ S => (mo ρ S).bind fun o S1 => match o with
  | .lst xs => (m ρ S1).bind fun y S2 => countK (.lst xs) y S2
  | _ => .no
theorem count_py {xs : List D} {a : D} (h : ∀ x ∈ xs, shal 19 x = true) (ha : shal 20 a = true) : ((toPyL xs).countP fun z => PyData.eqv z (toPy a)) = countD xs a := by
  rw [toPyL_map, List.countP_map]
  unfold countD
  induction xs with
  | nil => rfl
  | cons x xs ih =>
    simp only [List.countP_cons, Function.comp]
    have ih' := ih fun z hz => h z (by simp [hz])
    simp only [deq_py 19 20 x a (h x (by simp)) ha, ih']
section
variable {X : Cx} {cl : Nat → Addr} {E : XK} {o e : Expr} {mo m : ME} {apos cpos : Pos}
theorem q_count {k : Nat} (hr : Room k X.A) (ho : QE X cl E o mo) (he : QE X cl E e m)
    (hbase : attributeBase o "count" X.env (eval o X.env) = eval o X.env := by rfl)
    (hfew : ((backTo cpos (starEach [e] X.env)).all (fun x => !x.1) && (backToKw cpos (keywordEach [] X.env)).all (fun x => x.1.isSome)
      && decide ([e].length + ([] : List Keyword).length + (if ([] : List Keyword).isEmpty then 0 else 1) < 30)) = true := by rfl)
    (hline : (apos.endLine == cpos.line) = true := by rfl) (hs : starEach [e] X.env = (false, eval e X.env) :: starEach [] X.env := by rfl) (hplain : (backTo cpos (starEach [] X.env)).any (·.1) = false := by rfl) :
    QE X cl E (.Call (.Attribute o "count" apos) [e] [] cpos) (mCount mo m) := by
  have hu : X.A.units + 65 < cLine := by have := hr.un; omega
  obtain ⟨t, h1, h2⟩ := ho.ex
  obtain ⟨u, k1, k2⟩ := he.ex
  refine ⟨_, pe_bm PySem.F.plainAttrs_list PySem.F.slot_list_count PySem.F.type_list_count (mt_countD hu) h1 (pa_cons k1 pa_nil hs) hbase hfew hline hs hplain, fun ρ S σ α G H Q hρ hR hp => ?_⟩
  refine h2 ρ S σ α G H _ hρ hR (post_bind hp fun d S1 α1 G1 H1 v _ e1 R1 r1 hp1 => ?_)
  cases d with
  | lst xs =>
    have r1' := r1
    unfold Rep at r1'
    obtain ⟨l, vs, rfl, s1, t1⟩ := r1'
    refine ⟨?_, k2 ρ S1 σ α1 G1 H1 _ (hρ.mono e1) R1 (post_bind hp1 fun y S2 α2 G2 H2 w _ e2 R2 r2 hp2 => ?_)⟩
    · exact .inl ⟨rfl, _, R1.sub.sqL (.inl (.inl s1))⟩
    · unfold countK at hp2
      simp only [deref] at hp2
      split at hp2
      · rename_i hs2
        rw [Bool.and_eq_true] at hs2
        have sx := shal_shaped hs2.2
        have dx := rep_dp (Γ := ⟨X.K, cl⟩) R2.sub 20 (.lst xs) (.ref l) hs2.2 (Rep.mono e2.pre e2.sub _ _ r1)
        simp only [toPy] at sx dx
        exact ⟨l, w, _, _, rfl, rfl, dx, rep_dp (Γ := ⟨X.K, cl⟩) R2.sub 20 y w hs2.1 r2, sx, shal_shaped hs2.1, by rw [count_py (shal19l hs2.2) hs2.1]; exact post_ok hp2 R2 (by simp [Rep])⟩
      · exact hp2.elim
  | _ => exact hp1.elim
end
section
variable {S : Store} {ρ : Env}
def countK1 (m : ME) (ρ : Env) (o : D) (S : Store) : Res D := match o with
  | .lst xs => (m ρ S).bind fun y S2 => countK (.lst xs) y S2
  | _ => .no
def countK2 (xs : List D) (y : D) (S : Store) : Res D := countK (.lst xs) y S
@[simp] theorem ap_count (mo m : ME) : mCount mo m ρ S = (mo ρ S).bind (countK1 m ρ) := (Eq.refl _).trans rfl
@[simp] theorem countK1_ap (m : ME) (xs : List D) : countK1 m ρ (.lst xs) S = (m ρ S).bind (countK2 xs) := (Eq.refl _).trans rfl
theorem countK2_of {xs : List D} {y : D} (h1 : shal 20 y = true) (h2 : shal 20 (.lst xs) = true) : countK2 xs y S = .ok (.int (countD xs y : Nat)) S := by
  unfold countK2 countK
  simp only [deref, h1, h2]
  rfl
end
end Q
set_option exponentiation.threshold 10000
namespace Q
open PySem L2
def strI (i : Int) : Str := toString i
def gStrI : D → Store → Res D := fun d S => match d with
  | .int i => if i.natAbs < 2 ^ 1900 then .ok (.str (strI i)) S else .no
  | _ => .no
def fStrI := un1 gStrI
theorem strIQ {X : Cx} {cl : Nat → Addr} {E : XK} : QC X cl E (.type "str") fStrI := by
  refine ⟨_, call_str_int, snd_un1 fun d S α G H v Q hR rv h => ?_⟩
  cases d <;> try exact h.elim
  rename_i i
  simp only [Rep] at rv
  subst rv
  unfold gStrI at h
  simp only at h
  split at h
  · rename_i hb
    refine ⟨i, rfl, ?_, post_ok (x := V.str (strI i)) h hR (by simp [Rep])⟩
    by_cases h0 : i.natAbs = 0
    · rw [h0]; decide
    · exact Nat.lt_of_lt_of_le ((Nat.log2_lt h0).mpr hb) (by decide)
  · exact h.elim
section
variable {S : Store}
theorem strI_int {i : Int} (h : i.natAbs < 2 ^ 1900) : fStrI [.int i] S = .ok (.str (strI i)) S := by
  show gStrI (.int i) S = _
  unfold gStrI
  simp only [h, if_true]
end
end Q
namespace Q
open PySem L2 PySem.Calls PyProof.Rows
/-- what the text says of such an __init__ -/
structure SupSrc (st : Stmt) (txt : Str) : Prop where
  body : ∃ (j : Nat) (p0 p1 p2 p3 p4 p5 : Pos), defBody st = [.Expr (.Call (.Attribute (.Call (.Name "super" p0) [] [] p1) "__init__" p2) [.Constant (.str txt) j p3] [] p4) p5] ∧
    ∀ (qual : Str) (L fa cc : Addr) (cd : Value), ∃ pl : Sem Bool, eval (.Call (.Attribute (.Call (.Name "super" p0) [] [] p1) "__init__" p2) [.Constant (.str txt) j p3] [] p4) (PySem.W.ksEnv qual (defScope st) L fa cd cc) = (do
      let ov ← attributeBase (.Call (.Name "super" p0) [] [] p1) "__init__" (PySem.W.ksEnv qual (defScope st) L fa cd cc) (eval (.Call (.Name "super" p0) [] [] p1) (PySem.W.ksEnv qual (defScope st) L fa cd cc))
      standAt p2.atName
      let (fn, first) ← holding [ov] (getMethod ov "__init__" pl)
      callWith p4 fn first (backTo p4 (starEach [.Constant (.str txt) j p3] (PySem.W.ksEnv qual (defScope st) L fa cd cc))) [])
  arg : ∃ ar : Arg, (defArgs st).posonlyargs ++ (defArgs st).args = [ar] ∧ ar.arg = ("self" : Str)
  ns : (defScope st).names.lookup ("super" : Str) = some .globalImplicit
  nc : (defScope st).names.lookup ("__class__" : Str) = some .free
  nl : (defScope st).names.lookup ("self" : Str) = some .local
  ki : (defScope st).kind = .function
  it : ∀ (qual : Str) (L fa cc : Addr) (cd : Value), interactive (PySem.W.ksEnv qual (defScope st) L fa cd cc) = false
  co : (defScope st).isCoroutine = false
  ge : (defScope st).isGenerator = false
  ce : ∀ x ∈ (defScope st).names, x.2 ≠ .cell
  bi : ∀ (cc : Addr) (x qual : Str) (kV doc pm : Value) (an : Option Addr) (cdv ct u : Value), bindArgs (PySem.W.ksFn x qual (defArgs st) (defBody st) (defScope st) .none kV doc pm an cdv ct cc) ⟨[u], []⟩ = pure [(("self" : Str), u)]
/-- what stands in the heap of the class at C, its __init__ at f; B: the class above it -/
structure ExcU (P : Program) (K : PySem.W.Frag) (C f : Addr) (B newId initId : String) (bmB : List Value) (st : Stmt) : Prop where
  fb : ExcBaseFacts B newId initId bmB
  kf : PySem.W.KxsFacts B initId
  ci : PySem.W.excInitIn K C bmB newId = true
  ini : PySem.W.findIn K (.ref C) "__init__" = some (some (.ref f))
  ty : PySem.W.typeIn K (.ref f) = some (.type "function")
  fn : ∃ (oc : Value) (od : Option Addr) (x qual : Str) (kV doc pm : Value) (an : Option Addr) (ct : Value) (osl : Array (Option Value)) (cc cda : Addr), K.lookup f = some ⟨oc, od, .func (PySem.W.ksFn x qual (defArgs st) (defBody st) (defScope st) .none kV doc pm an (.ref cda) ct cc), osl⟩ ∧ PySem.W.codeIn K (.ref cda) qual = true ∧
    (∃ ccl cdd vs ccs file tf, K.lookup cda = some ⟨ccl, cdd, .fields vs, ccs⟩ ∧ vs[2]? = some (.str file tf) ∧ ((P.main.file : Str) == file) = true) ∧ ∃ cl cld csl, K.lookup cc = some ⟨cl, cld, .cell (some (.ref C)), csl⟩
  cl : (PySem.W.clsIn K C).isSome = true
  ms : PySem.W.mroIn K C (.ref C) = some true
  nsu : PySem.W.nsIn K mainGlobals "super" = some none
  top : (P.main.scope.names.lookup ("super" : Str)).isSome = false
  any : PySem.W.nsIn K cStatics "thirdparty.any" = some none
  sup : PySem.W.ks_superIn K C C "__init__" = some (some (.builtin initId))
  sb : PySem.W.subIn K (.ref C) (.type B) = some true
  sbe : PySem.W.subIn K (.ref C) (.type "BaseException") = some true
  tyC : PySem.W.typeIn K (.ref C) = some (.type "type")
  kC : PySem.W.keepIn K (.ref C) = true
section
variable {P : Program} {w : World} {A : Around} {R : Result → Shared → Prop} {E : Value → Shared → Prop} {K : PySem.W.Frag} {C f x t0 : Addr} {h h0 : Heap} {g : Array GenState} {d : Drawn} {tk : Nat} {os : OsState} {B newId initId : String} {bmB : List Value} {st : Stmt} {txt : Str} {mg : Str → Option Value}
theorem sup_init (S : SupSrc st txt) (T : ExcU P K C f B newId initId bmB st) (hroom : A.depth < recursionLimit) (X0 : K.In h0) (hlim : h.NoLimit) (kk : ∀ b o, h0.get? b = some o → h.get? b = some o) (hle : h0.objs.size ≤ h.objs.size) (GG : h.Ns mainGlobals mg)
    (BB : ∃ mb, h.Ns builtinsNs mb ∧ ∀ y : Str, y ≠ "__name__" → mb y = bootBuiltins y) (hx : h.get? x = some (PySem.W.excObj C t0 none .none)) (hx0 : h0.get? x = none)
    (hq : ∀ h' tk' t1, (∀ b o, h0.get? b = some o → h'.get? b = some o) → h'.get? x = some (PySem.W.excObj C t1 none .none) → R (.ok (.ret .none)) ⟨h', g, d, tk', os⟩) :
    codeAny (model P w) A (.call (.ref f) ⟨[.ref x], []⟩) R ⟨h, g, d, tk, os⟩ := by
  have X : K.In h := X0.keeps kk
  obtain ⟨j, p0, p1, p2, p3, p4, p5, hb, hev⟩ := S.body
  obtain ⟨ar, har, hself⟩ := S.arg
  obtain ⟨oc, od, nm, qual, kV, doc, pm, an, ct, osl, cc, cda, lf, lcode, ⟨ccl, cdd, vs, ccs, file, tf, lcd, lvs, lfile⟩, cl, cld, csl, lcc⟩ := T.fn
  refine ks_codeAny_call_defAt (fd := PySem.W.ksFn nm qual (defArgs st) (defBody st) (defScope st) .none kV doc pm an (.ref cda) ct cc) (body := defBody st) (binds := [(("self" : Str), .ref x)]) hroom (X _ _ lf) rfl hlim (PySem.W.codeRec_of X lcode) rfl (.of_eq (S.bi cc nm qual kV doc pm an (.ref cda) ct (.ref x))) S.ce
    (fun y hy => ?_) (fun h₁ hns hk₁ => ?_) S.co S.ge S.ki
  · rcases List.mem_cons.mp hy with e | e
    · rw [e]; exact S.nl
    · cases e
  have env : callEnv (PySem.W.ksFn nm qual (defArgs st) (defBody st) (defScope st) .none kV doc pm an (.ref cda) ct cc) h.objs.size f = PySem.W.ksEnv qual (defScope st) h.objs.size f (.ref cda) cc := rfl
  rw [env]
  have X1 : K.In h₁ := X.keeps hk₁
  have F0 : Fr h0 h.objs.size h₁ (fun y => [(("self" : Str), Value.ref x)].reverse.lookup y) := ⟨hns, fun b o e => hk₁ b o (kk b o e), hle⟩
  have xs : x ≠ h.objs.size := Nat.ne_of_lt (Heap.lt_size hx)
  have N0 : News h0 h.objs.size h₁ [(x, PySem.W.excObj C t0 none .none)] := fun p hp => by
    rcases List.mem_cons.mp hp with e | e
    · subst e; exact ⟨hk₁ _ _ hx, xs, hx0⟩
    · cases e
  rw [hb]
  refine ks_wpAt_execs_cons (ks_wpAt_Expr_any ?_ (S.it _ _ _ _ _))
  obtain ⟨pl, hev⟩ := hev qual h.objs.size f cc (.ref cda)
  refine ks_wpAt_MethodCall ?_ hev
  have hkf : (PySem.W.ksEnv qual (defScope st) h.objs.size f (.ref cda) cc).scope.kind = .function := S.ki
  refine ks_wpAt_super_base S.ns S.nc (by decide) rfl (X1 _ _ lf) rfl (ar := ar) (by show ((defArgs st).posonlyargs ++ (defArgs st).args).head? = some ar; rw [har]; rfl) rfl (X1 _ _ lcd) rfl lvs lfile T.top ?_
  obtain ⟨mb, bn, bb⟩ := BB
  refine PySem.W.ks_loadName_global hkf S.ns (loadGlobal_builtin (show h₁.Ns mainGlobals mg from GG.keeps hk₁) (PySem.W.mg_none_of X GG T.nsu) (show h₁.Ns builtinsNs mb from bn.keeps hk₁) ((bb _ (by decide)).trans (by rfl)) ⟨rfl, ?_⟩)
  refine wpAny_loadName_free hkf S.nc rfl ⟨_, X1 _ _ lcc, rfl⟩ ?_
  rw [hself]
  refine wpAny_loadName_local hkf S.nl hns (by rfl) ?_
  obtain ⟨cdC, hcC⟩ := Option.isSome_iff_exists.mp T.cl
  obtain ⟨oD, hD1, hD2⟩ : ∃ oD, h₁.get? C = some oD ∧ oD.data = .cls cdC := by
    have z := hcC
    unfold PySem.W.clsIn at z
    split at z
    · rename_i q
      cases z
      exact ⟨_, X1 _ _ q, rfl⟩
    · cases z
  refine ks_wpAny_isType_cls hD1 hD2 ⟨rfl, ?_⟩
  have hx1 := hk₁ _ _ hx
  refine ks_wpAny_call_super hD1 hD2 hx1 rfl (fun c e => by cases e) (PySem.W.looks_mroIn X1 T.ms) (fun h2 e2 k2 => ?_)
  have X2 : K.In h2 := X1.keeps k2
  have I2 : PySem.W.InstAt h2 x (PySem.W.excObj C t0 none .none) C none := ⟨k2 _ _ hx1, rfl, rfl, trivial⟩
  have hne : x ≠ C := PySem.W.ks_ne X2 I2 hcC
  have hal := T.sup
  unfold PySem.W.ks_superIn at hal
  rw [hcC] at hal
  have hmro : PySem.W.Looks (model P w) h2 (mroOf (.ref C)) cdC.mro := fun A Q E s k q => wpAny_bind ((PySem.W.looks_clsIn X2 hcC) A _ E s k (wpAny_pure q))
  have hBx : PySem.W.Looks (model P w) h2 (isInstance (.ref x) (.type B)) true := I2.type.andThen (PySem.W.looks_subIn X2 T.sb)
  refine PySem.W.kxs_getMethod T.kf e2 (PySem.W.looks_opaque X2 T.any) hmro rfl X2 hal hBx hne (by decide) ?_
  -- the bound __init__ stands at u
  obtain ⟨u, hu⟩ : ∃ u, u = h2.objs.size := ⟨_, rfl⟩
  have k3 : ∀ b o, h2.get? b = some o → (h2.push (PySem.W.kxs_mw initId x)).get? b = some o := fun b o e => Heap.get?_push_of_some _ e
  have gu : (h2.push (PySem.W.kxs_mw initId x)).get? u = some (PySem.W.kxs_mw initId x) := by rw [hu]; exact Heap.get?_push_at rfl rfl
  rw [← hu]
  generalize h2.push (PySem.W.kxs_mw initId x) = h3 at k3 gu
  have kall : ∀ b o, h₁.get? b = some o → h3.get? b = some o := fun b o e => k3 b o (k2 b o e)
  have F3 : Fr h0 h.objs.size h3 (fun y => [(("self" : Str), Value.ref x)].reverse.lookup y) := ⟨hns.keeps kall, fun b o e => kall b o (F0.keep b o e), hle⟩
  have ux : u ≠ x := fun z => by
    rw [z, kall _ _ hx1] at gu
    cases gu
  have below : ∀ {b : Addr} {o : Obj}, h2.get? b = some o → u ≠ b := fun {b o} e z => by
    have l := Heap.lt_size e
    rw [← z, hu] at l
    exact absurd l (Nat.lt_irrefl _)
  have uL : u ≠ h.objs.size := by
    obtain ⟨o, _, _, eo, _⟩ := hns
    exact below (k2 _ _ eo)
  have u0 : h0.get? u = none := by
    cases z : h0.get? u with
    | none => rfl
    | some o => exact absurd rfl (below (k2 _ _ (hk₁ _ _ (kk _ _ z))))
  have N3 : News h0 h.objs.size h3 [(u, PySem.W.kxs_mw initId x), (x, PySem.W.excObj C t0 none .none)] := fun p hp => by
    rcases List.mem_cons.mp hp with e | e
    · subst e; exact ⟨gu, uL, u0⟩
    · rcases List.mem_cons.mp e with e | e
      · subst e; exact ⟨kall _ _ hx1, xs, hx0⟩
      · cases e
  have he : starEach [.Constant (.str txt) j p3] (PySem.W.ksEnv qual (defScope st) h.objs.size f (.ref cda) cc) = (false, eval (.Constant (.str txt) j p3) (PySem.W.ksEnv qual (defScope st) h.objs.size f (.ref cda) cc)) :: starEach [] (PySem.W.ksEnv qual (defScope st) h.objs.size f (.ref cda) cc) := by rfl
  refine PySem.W.kxs_callWith1 N3 (List.mem_cons_self ..) ?_ he (by rfl)
  rw [he]
  show wpAny _ _ (spliced ((false, eval (.Constant (.str txt) j p3) _) :: backTo p4 (starEach [] _))) _ _ _
  refine Calls.spliced_cons ?_
  refine wpAny_Constant_str ?_
  refine Calls.spliced_nil ⟨gu, ?_⟩
  refine PySem.W.kxs_call (rest := [_]) (s := { heap := h3, gens := g, drawn := d, toks := _, os := os }) ⟨F3.ns, F3.keep, F3.above⟩ X0 N3 T.fb T.ci (List.mem_cons_self ..) (.tail ux (.head fun _ z => nomatch z)) (by show 1 ≤ sizeLine; rw [sizeLine_eq]; omega) (fun t1 h4 F4 N4 _ => ?_)
  exact wpAt_of_wpAny (wpAny_execs_nil (hq _ _ t1 F4.keep (N4 (x, _) (by simp)).1))
end
/-- C() within a text, C a class of exceptions without a field -/
theorem pmk_u {X : Cx} {C f : Addr} {B newId initId : String} {bmB : List Value} {st : Stmt} {txt x : Str} {p pos : Pos} (S : SupSrc st txt) (T : ExcU X.prog X.K C f B newId initId bmB st) (hr : Room 1 X.A) (hg : Gl X x) (hm : X.mg x = some (.ref C)) (hdb : (x == ("__debug__" : Str)) = false := by decide) :
    PMk X (.Call (.Name x p) [] [] pos) (fun _ H Q => Q (.ref C) none H) := by
  intro pins s σ H Q I h
  obtain ⟨nm, N', qn, bs, bm, hdct, sn, sub, ab, col, dd, k0, k1, k2, k3, k5, hC, hT⟩ := PySem.W.excInit_of I.kIn T.ci
  refine wpAny_Call_Name_kw (ld_glob I hg hm ?_ hdb)
  refine PySem.W.callWith_K0 I.kIn T.kC ?_
  show wpAny _ _ (call (.ref C) []) _ _ _
  have I0 := I
  obtain ⟨hp, g, dr, tk, os⟩ := s
  have kk : ∀ b o, hp.get? b = some o → ((hp.push (PySem.W.kdv_tup [])).push (HandSPX.excO C hp.objs.size)).get? b = some o := fun b o e => Heap.get?_push_of_some _ (Heap.get?_push_of_some _ e)
  have gx : ((hp.push (PySem.W.kdv_tup [])).push (HandSPX.excO C hp.objs.size)).get? (hp.objs.size + 1) = some (HandSPX.excO C hp.objs.size) := by heap_get
  have fresh : hp.get? (hp.objs.size + 1) = none := by
    cases z : hp.get? (hp.objs.size + 1) with
    | none => rfl
    | some o => exact absurd (Nat.lt_of_succ_lt (Heap.lt_size z)) (Nat.lt_irrefl _)
  have lim : hp.NoLimit := I.ok.mod.nolimit.keeps I.bk
  obtain ⟨mb, bn, bb⟩ := I.ok.mod.blt
  refine wpAny_call (HandSPX.call_own T.fb hT hC (PySem.W.looks_findIn I.kIn T.ini) (fun self => PySem.W.bind_fn I.kIn self T.ty) (Nat.zero_le _) ?_)
  refine sup_init (h0 := hp) (mg := X.mg) S T (hr.make C [] []).depth I.kIn (lim.keeps kk) kk (by rw [Heap.size_push, Heap.size_push]; exact Nat.le_succ_of_le (Nat.le_succ _)) ((I.ok.mod.glob.keeps I.bk).keeps kk) ⟨mb, (bn.keeps I.bk).keeps kk, bb⟩ gx fresh (fun h' tk' t1 k' e' => ?_)
  refine ⟨rfl, ?_⟩
  refine ⟨hp.objs.size + 1, _, _, ⟨hp, g, dr, tk, os⟩, H, .ref C, none, rfl, I0, k', fresh, e', ⟨rfl, rfl⟩, rfl, rfl, I0.hok.fresh (Nat.le_succ _), rfl, I0.bare, raises_own T.sbe T.tyC, h⟩
end Q
namespace Q
open PySem L2
/-- the wish of a frame, seen with its slots -/
abbrev fw (E : XK) : WX := fun c d _ H => E c d H
/-- raise C(), C without a field -/
def mRaise (c : Nat) : MS := fun _ S => .ex ⟨c, []⟩ S
theorem qs_raise {X : Cx} {cl : Nat → Addr} {E : XK} (c : Nat) {f : Addr} {B newId initId : String} {bmB : List Value} {st : Stmt} {txt x : Str} {p p2 pos : Pos} (S0 : SupSrc st txt) (T : ExcU X.prog X.K (cl c) f B newId initId bmB st) (tk : Takes X (fw E)) (hr : Room 1 X.A) (hg : Gl X x) (hm : X.mg x = some (.ref (cl c)))
    (hc : X.calm = true := by rfl) (hdb : (x == ("__debug__" : Str)) = false := by decide) : QS X cl E (.Raise (some (.Call (.Name x p) [] [] p2)) none pos) (mRaise c) :=
  ⟨_, ps_raise hc tk (pmk_u S0 T hr hg hm hdb), fun ρ S σ α G H Dn hρ hR hp => hp α G H _ _ (Ext.refl _ _ _) hR ⟨rfl, [], by simp [RepL], .inl ⟨rfl, rfl⟩⟩⟩
/-- what a def that may raise hands back -/
def endX (n : Nat) (r : Res Fl) : Res D := match r with
  | .ok (.nx _) S => fin n .non S
  | .ok (.rt d) S => fin n d S
  | .ex e S => if pureL e.fs && (S.take n).all (Cell.below n) then .ex e (S.take n) else .no
  | _ => .no
def fnX (nN nP : Nat) (n : MS) : List D → Store → Res D := fun ds S => if ds.length = nP then endX S.length (n (ds.map some ++ List.replicate (nN - nP) none) S) else .no
section
variable {P : Program} {w : World} {K : PySem.W.Frag} {mg : Str → Option Value} {base : Heap}
open PySem.Spec PyProof.Rows in
/-- THE RULE for a def that may raise -/
theorem fn_okX {x qual : Str} {st : Stmt} {f : Addr} {fd : FuncData} {N ps : List Str} {k : Nat} {cl : Nat → Addr} (nN nP : Nat) {n : MS} (F : Fun K x qual st f fd) (S : FnScope N ps (defScope st))
    (hbody : ∀ (cdv : Value) (A : Around) (outer : List PySem.Env) (s : Shared) (H : Hp) (E : XK), Room k (A.deeper (envOfC qual (defScope st) s.heap.objs.size f cdv)) → Takes (cxOf (L2.CX P w) P w K mg base N qual (defScope st) f cdv A outer s H E) (fw E) →
      PassesOwn (model P w) (cxOf (L2.CX P w) P w K mg base N qual (defScope st) f cdv A outer s H E).A (cxOf (L2.CX P w) P w K mg base N qual (defScope st) f cdv A outer s H E).env (cxOf (L2.CX P w) P w K mg base N qual (defScope st) f cdv A outer s H E).xe → QSs (cxOf (L2.CX P w) P w K mg base N qual (defScope st) f cdv A outer s H E) cl E (defBody st) n)
    (hN : N.length = nN := by rfl) (hP : ps.length = nP := by rfl) : FnOk P w K mg base (L2.CX P w) (k + 1) f fd ps (spM ⟨K, cl⟩ (fnX nN nP n)) := by
  refine F.okX S (fun vs H Q E h => ?_) (fun cdv A outer s H vs Q E hr h => ?_)
  · obtain ⟨ds, α, G, S, r, hR, hp⟩ := h
    unfold fnX at hp
    split at hp
    · rename_i e
      rw [← r.length, e, hP]
    · exact hp.elim
  · obtain ⟨ds, α, G, S', r, hR, hp⟩ := h
    obtain ⟨t, h1, h2⟩ := (hbody cdv A outer s H E hr (takes_of rfl rfl rfl rfl) (passes_of rfl)).ex
    refine ⟨t, h1, ?_⟩
    unfold fnX at hp
    split at hp
    · rename_i e
      rw [← hN, ← hP, show ps.length = vs.length by rw [hP, ← e, r.length]] at hp
      refine h2 _ S' _ α G H _ (envR_start r) hR ?_
      revert hp
      cases n (ds.map some ++ List.replicate (N.length - vs.length) none) S' with
      | no => exact id
      | ex e S2 =>
        intro hp α' G' H' c x e1 R1 r1
        unfold endX at hp
        simp only at hp
        split at hp
        · rename_i hq
          rw [Bool.and_eq_true] at hq
          obtain ⟨R2, e2⟩ := Rl.cut e1 R1 hR hq.2
          obtain ⟨ec, ws, rw_, rf⟩ := r1
          exact hp α G' H' c x e2 R2 ⟨ec, ws, pureL_rep _ _ hq.1 rw_, rf⟩
        · exact hp.elim
      | ok fl S2 =>
        cases fl with
        | nx ρ => exact fun hp α' G' H' σ' e R _ => fin_post hR hp α' G' H' .non e R (by simp [Rep])
        | rt d => exact fun hp α' G' H' v e R r => fin_post hR hp α' G' H' v e R r
        | bk ρ => exact fun hp => hp.elim
        | ct ρ => exact fun hp => hp.elim
    · exact hp.elim
/-- the same def where no exception is let out -/
theorem fn_quiet {k nN nP : Nat} {f : Addr} {fd : FuncData} {ps : List Str} {cl : Nat → Addr} {n : MS} (F : FnOk P w K mg base (L2.CX P w) k f fd ps (spM ⟨K, cl⟩ (fnX nN nP n))) : FnOk P w K mg base CX0 k f fd ps (spM ⟨K, cl⟩ (fnM nN nP n)) := by
  have back : ∀ {vs H Q E}, spM ⟨K, cl⟩ (fnM nN nP n) vs H Q E → spM ⟨K, cl⟩ (fnX nN nP n) vs H Q E0 := fun {vs H Q E} ⟨ds, α, G, S, r, hR, hp⟩ => ⟨ds, α, G, S, r, hR, by
    unfold fnM at hp
    unfold fnX
    split at hp
    · rename_i hl
      rw [if_pos hl]
      revert hp
      cases n (ds.map some ++ List.replicate (nN - nP) none) S with
      | no => exact fun hp => hp.elim
      | ex e S2 => exact fun hp => hp.elim
      | ok fl S2 =>
        intro hp
        have quiet : ∀ {d : D}, Post ⟨K, cl⟩ (Rep ⟨K, cl⟩) α G H (fin S.length d S2) Q E → Post ⟨K, cl⟩ (Rep ⟨K, cl⟩) α G H (fin S.length d S2) Q E0 := fun {d} z => by
          unfold fin at z ⊢
          split at z
          · rename_i q; rw [if_pos q]; exact z
          · rename_i q
            rw [if_neg q]
            split at z
            · rename_i q2; rw [if_pos q2]; exact z
            · exact z.elim
        cases fl with
        | nx ρ => exact quiet hp
        | rt d => exact quiet hp
        | bk ρ => exact hp.elim
        | ct ρ => exact hp.elim
    · exact hp.elim⟩
  refine ⟨fun vs H Q E h => F.len vs H Q E0 (back h), fun A outer s H args us vs Q E hr e0 hb hv h => ?_⟩
  refine codeAny_mono (F.run A outer s H args us vs Q E0 hr e0 hb hv (back h)) fun r s' hq => ?_
  cases r with
  | error e =>
    obtain ⟨_, _, _, _, _, _, _, _, _, _, _, _, z⟩ := hq
    exact z.elim
  | ok fl => cases fl <;> exact hq
end
section
variable {X : Cx} {cl : Nat → Addr} {W : WX} {E : XK} {e a b c : Expr} {pos : Pos}
def SndEX (Γ : Gm) (W : WX) (t : TE) (m : ME) : Prop := ∀ (ρ : Env) (S : Store) (σ : L2.St) (α : List Addr) (G H : Hp) (Q : VK), EnvR Γ α G ρ σ → Rl Γ α G S H → Post Γ (Rep Γ) α G H (m ρ S) Q (fun c d H' => W c d σ H') → t σ H Q
/-- an expression of which an exception may come, with the slots as they are -/
structure QEX (X : Cx) (cl : Nat → Addr) (W : WX) (e : Expr) (m : ME) : Prop where
  ex : ∃ t, PE X e t ∧ SndEX ⟨X.K, cl⟩ W t m
theorem QEX.qe {m : ME} (h : QEX X cl (fw E) e m) : QE X cl E e m := h.ex.elim fun t ⟨h1, h2⟩ => ⟨t, h1, fun ρ S σ α G H Q hρ hR hp => h2 ρ S σ α G H Q hρ hR hp⟩
/-- .. with arguments of which none comes -/
def mCallX (g : List D → Store → Res D) (n : MA) : ME := fun ρ S => (nox (n ρ S)).bind g
theorem noxA_post {Γ : Gm} {β γ : Type} {R : List Addr → Hp → β → γ → Prop} {α : List Addr} {G H : Hp} {r : Res β} {Q : γ → Hp → Prop} {E' : XK} (h : Post Γ R α G H (nox r) Q E) : Post Γ R α G H r Q E' := by
  cases r with
  | ok d S => exact h
  | ex e S => exact h.elim
  | no => exact h.elim
/-- what a call of such a def needs of its function of data -/
def SndCX (Γ : Gm) (f g : List D → Store → Res D) : Prop := ∀ (E : XK) (ds : List D) (S : Store) (α : List Addr) (G H : Hp) (vs : List V) (Q : VK), Rl Γ α G S H → RepL Γ α G ds vs → Post Γ (Rep Γ) α G H (g ds S) Q E → spM Γ f vs H Q E
theorem spx_self {Γ : Gm} {f : List D → Store → Res D} : SndCX Γ f f := fun E ds S α G H vs Q R r h => ⟨ds, α, G, S, r, R, h⟩
/-- a def that may raise and sees no cell of the caller's -/
def fPureX (f : List D → Store → Res D) : List D → Store → Res D := fun ds S => if pureL ds then match f ds [] with
  | .ok d [] => .ok d S
  | .ex e [] => if pureL e.fs then .ex e S else .no
  | _ => .no
  else .no
theorem spx_pure {Γ : Gm} {f : List D → Store → Res D} : SndCX Γ f (fPureX f) := fun E ds S α G H vs Q hR r h => by
  unfold fPureX at h
  split at h
  · rename_i hp
    refine ⟨ds, [], G, [], pureL_rep ds vs hp r, hR.bare, ?_⟩
    cases q : f ds [] with
    | no => rw [q] at h; exact h.elim
    | ex e S' =>
      rw [q] at h
      cases S' with
      | cons c T => exact h.elim
      | nil =>
        simp only at h
        split at h
        · rename_i hf
          intro α' G' H' c x e1 R' rv
          have ea : α' = [] := List.eq_nil_of_length_eq_zero (by rw [R'.len]; rfl)
          subst ea
          obtain ⟨R2, e2⟩ := hR.back R' e1
          obtain ⟨ec, ws, rw_, rf⟩ := rv
          exact h α G' H' c x e2 R2 ⟨ec, ws, pureL_rep _ _ hf rw_, rf⟩
        · exact h.elim
    | ok d S' =>
      rw [q] at h
      cases S' with
      | cons c T => exact h.elim
      | nil =>
        intro α' G' H' v e R' rv
        have ea : α' = [] := List.eq_nil_of_length_eq_zero (by rw [R'.len]; rfl)
        subst ea
        obtain ⟨R2, e2⟩ := hR.back R' e
        exact h α G' H' v e2 R2 (Rep.mono (α := []) ⟨α, by simp⟩ (Sub.refl _) _ _ rv)
  · exact h.elim
theorem qx_call {f g : List D → Store → Res D} {k : Nat} {fa : Addr} {fd : FuncData} {ps : List Str} {x : Str} {p : Pos} {es : List Expr} {n : MA} (F : FnOk X.prog X.w X.K X.mg X.base (L2.CX X.prog X.w) k fa fd ps (spM ⟨X.K, cl⟩ f)) (tk : Takes X W) (hr : Room k X.A)
    (hg : Gl X x) (hm : X.mg x = some (.ref fa)) (hk : PySem.W.keepIn X.K (.ref fa) = true) (hb : Binds X.K fd ps []) (ha : QA X cl E0 (e :: es) n) (hf : SndCX ⟨X.K, cl⟩ f g)
    (hdb : (x == ("__debug__" : Str)) = false := by decide) (he : starEach (e :: es) X.env = (false, eval e X.env) :: starEach es X.env := by rfl) (hpl : (backTo pos (starEach es X.env)).any (·.1) = false := by rfl) :
    QEX X cl W (.Call (.Name x p) (e :: es) [] pos) (mCallX g n) := by
  obtain ⟨t, h1, h2⟩ := ha.ex
  refine ⟨_, pe_callS (E := fun σ c d H' => W c d σ H') F hr hg hm hk hb (fun σ => passAt tk σ) h1 hdb he hpl, fun ρ S σ α G H Q hρ hR hp => ?_⟩
  refine h2 ρ S σ α G H _ hρ hR (noxA_post (E := fun c d H' => W c d σ H') (post_bind hp fun ds S1 α1 G1 H1 vs _ e1 R1 r1 hp1 => ?_))
  exact hf _ ds S1 α1 G1 H1 vs Q R1 r1 hp1
/-- .. with keywords -/
theorem run_fnSN {pins : List (Addr × Obj)} {σ : St} {H : Hp} {s : Shared} {Q : VK} {ws us : List Value} {zs vs : List V} {k n : Nat} {f : Addr} {fd : FuncData} {ps ks : List Str} {sp : Sp} {E : XK} {gg : List Value → List Value → List Value} {gV : List V → List V → List V} (F : FnOk X.prog X.w X.K X.mg X.base (L2.CX X.prog X.w) k f fd ps sp) (hr : Room k X.A) (hb : KBn X.K fd ps n ks gg gV)
    (hx : ∀ (pins : List (Addr × Obj)) (H : Hp) (s : Shared) (e : Value) (s' : Shared), Inv X pins σ H s → L2.CX X.prog X.w X.stack H s E e s' → X.xe e s') (I : Inv X pins σ H s) (rv : Vals vs us) (rz : Vals zs ws) (hl : us.length = n) (hk : ws.length = ks.length) (h : sp (gV vs zs) H Q E) :
    wpAny (model X.prog X.w) X.A (call (.ref f) us (ks.zip ws)) (EP X pins σ Q) X.xe s := by
  refine wpAny_call (codeAny_mono (F.run X.A X.stack s H ⟨us, ks.zip ws⟩ (gg us ws) (gV vs zs) Q E hr I.env0 (hb.to s us ws I.kIn hl hk) (hb.rel rv rz) h) fun r s' hq => ?_)
  cases r with
  | error e => exact hx pins H s e s' I hq
  | ok fl =>
    cases fl with
    | ret u => exact I.after hq
    | next => exact False.elim hq
    | brk => exact False.elim hq
    | cont => exact False.elim hq
def mCallKX (g : List D → Store → Res D) (i j : Nat) (idx : List Nat) (n nk : MA) : ME := fun ρ S => (nox (n ρ S)).bind fun ds S1 => (nox (nk ρ S1)).bind fun zs S2 => if ds.length = i ∧ zs.length = j then g (place idx (ds ++ zs)) S2 else .no
def tCallKW (i j : Nat) (sp : Sp) (gV : List V → List V → List V) (W : WX) (t tk : TA) : TE := fun σ H Q => t σ H fun vs H1 => tk σ H1 fun zs H2 => vs.length = i ∧ zs.length = j ∧ sp (gV vs zs) H2 Q (fun c d H' => W c d σ H')
theorem snd_callKX {Γ : Gm} {f g : List D → Store → Res D} {i j : Nat} {idx : List Nat} {n nk : MA} {t u : TA} (hf : SndCX Γ f g) (h : SndA Γ E0 t n) (k : SndA Γ E0 u nk) : SndEX Γ W (tCallKW i j (spM Γ f) (fun us ws => place idx (us ++ ws)) W t u) (mCallKX g i j idx n nk) := fun ρ S σ α G H Q hρ hR hp =>
  h ρ S σ α G H _ hρ hR (noxA_post (E := fun c d H' => W c d σ H') (post_bind hp fun ds S1 α1 G1 H1 vs _ e1 R1 r1 hp1 => k ρ S1 σ α1 G1 H1 _ (hρ.mono e1) R1 (noxA_post (E := fun c d H' => W c d σ H') (post_bind hp1 fun zs S2 α2 G2 H2 ws _ e2 R2 r2 hp2 => by
    split at hp2
    · rename_i hl
      have r1' := RepL.mono e2.pre e2.sub _ _ r1
      exact ⟨by rw [← r1'.length]; exact hl.1, by rw [← r2.length]; exact hl.2, hf _ _ S2 α2 G2 H2 _ Q R2 (place_rep (r1'.append r2) idx) hp2⟩
    · exact hp2.elim))))
theorem qx_callK {f g : List D → Store → Res D} {k i j : Nat} {idx : List Nat} {fa : Addr} {fd : FuncData} {ps ks : List Str} {x : Str} {p : Pos} {es : List Expr} {kws : List Keyword} {n nk : MA} (F : FnOk X.prog X.w X.K X.mg X.base (L2.CX X.prog X.w) k fa fd ps (spM ⟨X.K, cl⟩ f)) (tk : Takes X W) (hr : Room k X.A)
    (hg : Gl X x) (hm : X.mg x = some (.ref fa)) (hk : PySem.W.keepIn X.K (.ref fa) = true) (hb : KBn X.K fd ps i ks (fun us ws => place idx (us ++ ws)) (fun us ws => place idx (us ++ ws))) (ha : QA X cl E0 (e :: es) n) (hkw : QK X cl E0 kws nk) (hf : SndCX ⟨X.K, cl⟩ f g)
    (hall : (backToKw pos (keywordEach kws X.env)).all (·.1.isSome) = true := by rfl) (hks : (backToKw pos (keywordEach kws X.env)).filterMap (·.1) = ks := by rfl)
    (hdb : (x == ("__debug__" : Str)) = false := by decide) (he : starEach (e :: es) X.env = (false, eval e X.env) :: starEach es X.env := by rfl)
    (hpl : ((backTo pos (starEach (e :: es) X.env)).any (·.1) || (backToKw pos (keywordEach kws X.env)).any (·.1.isNone)) = false := by rfl) (hj : ks.length = j := by rfl) :
    QEX X cl W (.Call (.Name x p) (e :: es) kws pos) (mCallKX g i j idx n nk) := by
  subst hj
  obtain ⟨t, h1, h2⟩ := ha.ex
  obtain ⟨u, k1, k2⟩ := hkw.ex
  refine ⟨tCallKW i ks.length (spM ⟨X.K, cl⟩ f) (fun us ws => place idx (us ++ ws)) W t u, ⟨fun pins s σ H Q I h => ?_⟩, snd_callKX hf h2 k2⟩
  refine wpAny_Call_Name_kw (ld_glob I hg hm ?_ hdb)
  refine PySem.W.callWith_KW (h₀ := X.base) I.ok.mod.kin hk hall (thn (h1.run pos pins s σ H _ I h) fun us s1 ⟨vs, H1, I1, r, q⟩ => ?_) hpl he
  refine thn (k1.run pos pins s1 σ H1 _ I1 q) fun ws s2 ⟨zs, H2, I2, rz, l1, l2, q2⟩ => ⟨I2.kIn, ?_⟩
  rw [hks]
  exact run_fnSN F hr hb (passAt tk σ) I2 r rz (r.length.symm.trans l1) (rz.length.symm.trans l2) q2
theorem qx_callK0 {f g : List D → Store → Res D} {k j : Nat} {idx : List Nat} {fa : Addr} {fd : FuncData} {ps ks : List Str} {x : Str} {p : Pos} {kws : List Keyword} {nk : MA} (F : FnOk X.prog X.w X.K X.mg X.base (L2.CX X.prog X.w) k fa fd ps (spM ⟨X.K, cl⟩ f)) (tk : Takes X W) (hr : Room k X.A)
    (hg : Gl X x) (hm : X.mg x = some (.ref fa)) (hk : PySem.W.keepIn X.K (.ref fa) = true) (hb : KBn X.K fd ps 0 ks (fun us ws => place idx (us ++ ws)) (fun us ws => place idx (us ++ ws))) (hkw : QK X cl E0 kws nk) (hf : SndCX ⟨X.K, cl⟩ f g)
    (hall : (backToKw pos (keywordEach kws X.env)).all (·.1.isSome) = true := by rfl) (hks : (backToKw pos (keywordEach kws X.env)).filterMap (·.1) = ks := by rfl)
    (hdb : (x == ("__debug__" : Str)) = false := by decide)
    (hpl : ((backTo pos (starEach [] X.env)).any (·.1) || (backToKw pos (keywordEach kws X.env)).any (·.1.isNone)) = false := by rfl) (hj : ks.length = j := by rfl) :
    QEX X cl W (.Call (.Name x p) [] kws pos) (mCallKX g 0 j idx mNil nk) := by
  subst hj
  obtain ⟨u, k1, k2⟩ := hkw.ex
  refine ⟨tCallKW 0 ks.length (spM ⟨X.K, cl⟩ f) (fun us ws => place idx (us ++ ws)) W tNil u, ⟨fun pins s σ H Q I h => ?_⟩, snd_callKX hf snd_nil k2⟩
  refine wpAny_Call_Name_kw (ld_glob I hg hm ?_ hdb)
  refine PySem.W.callWith_KW0 (h₀ := X.base) I.ok.mod.kin hk hall ?_ hpl
  refine thn (k1.run pos pins s σ H _ I h) fun ws s2 ⟨zs, H2, I2, rz, l1, l2, q2⟩ => ⟨I2.kIn, ?_⟩
  rw [hks]
  exact run_fnSN F hr hb (passAt tk σ) I2 .nil rz rfl (rz.length.symm.trans l2) q2
/-- an expression of which no exception comes -/
def mQuiet (m : ME) : ME := fun ρ S => nox (m ρ S)
theorem qx_of {m : ME} (h : QE X cl E0 e m) : QEX X cl W e (mQuiet m) := by
  obtain ⟨t, h1, h2⟩ := h.ex
  exact ⟨t, h1, fun ρ S σ α G H Q hρ hR hp => h2 ρ S σ α G H Q hρ hR (noxA_post hp)⟩
def mIfEX (t : MT) (m m' : ME) : ME := fun ρ S => (nox (t ρ S)).bind fun b S1 => match b with
  | true => m ρ S1
  | false => m' ρ S1
theorem qx_ifE {mt : MT} {ma mb : ME} (hc : QT X cl E0 c mt) (ha : QEX X cl W a ma) (hb : QEX X cl W b mb) : QEX X cl W (.IfExp c a b pos) (mIfEX mt ma mb) := by
  obtain ⟨t, h1, h2⟩ := hc.ex
  obtain ⟨u, k1, k2⟩ := ha.ex
  obtain ⟨v, l1, l2⟩ := hb.ex
  refine ⟨_, pe_ifExp h1 k1 l1, fun ρ S σ α G H Q hρ hR hp => h2 ρ S σ α G H _ hρ hR (noxA_post (E := fun c d H' => W c d σ H') (post_bind hp fun b S1 α1 G1 H1 v _ e1 R1 r1 hp1 => ?_))⟩
  have r1 : b = v := r1
  subst r1
  cases b with
  | true => exact iteT (k2 ρ S1 σ α1 G1 H1 Q (hρ.mono e1) R1 hp1)
  | false => exact iteF (l2 ρ S1 σ α1 G1 H1 Q (hρ.mono e1) R1 hp1)
def SndX (Γ : Gm) (W : WX) (t : TS) (n : MS) : Prop := ∀ (ρ : Env) (S : Store) (σ : L2.St) (α : List Addr) (G H : Hp) (Dn : Ends), EnvR Γ α G ρ σ → Rl Γ α G S H → PostS Γ (fun c d H' => W c d σ H') α G H (n ρ S) Dn → t Dn σ H
structure QX (X : Cx) (cl : Nat → Addr) (W : WX) (st : Stmt) (n : MS) : Prop where
  ex : ∃ t, PS X st t ∧ SndX ⟨X.K, cl⟩ W t n
structure QXs (X : Cx) (cl : Nat → Addr) (W : WX) (st : List Stmt) (n : MS) : Prop where
  ex : ∃ t, PSs X st t ∧ SndX ⟨X.K, cl⟩ W t n
/-- the reading that the function of data itself is -/
def tX (Γ : Gm) (W : WX) (n : MS) : TS := fun Dn σ H => ∃ ρ S α G, EnvR Γ α G ρ σ ∧ Rl Γ α G S H ∧ PostS Γ (fun c d H' => W c d σ H') α G H (n ρ S) Dn
theorem QXs.can {st : List Stmt} {n : MS} (h : QXs X cl W st n) : PSs X st (tX ⟨X.K, cl⟩ W n) := by
  obtain ⟨t, h1, h2⟩ := h.ex
  exact ⟨fun pins s σ H D I ⟨ρ, S, α, G, hρ, hR, hp⟩ => h1.run pins s σ H D I (h2 ρ S σ α G H D hρ hR hp)⟩
theorem qxs_one {st : Stmt} {n : MS} (h : QX X cl W st n) : QXs X cl W [st] n := by
  obtain ⟨t, h1, h2⟩ := h.ex
  exact ⟨_, pss_one h1, h2⟩
theorem qx_expr {m : ME} (h : QEX X cl W e m) (hs : swapsWith e none pos.line X.env = pure false := by rfl) : QX X cl W (.Expr e pos) (mDrop m) := by
  obtain ⟨t, h1, h2⟩ := h.ex
  exact ⟨_, ps_expr h1 hs, fun ρ S σ α G H Dn hρ hR hp => h2 ρ S σ α G H _ hρ hR (posts_bind hp fun d S1 α1 G1 H1 v _ e1 R1 r1 hp1 => hp1 α1 G1 H1 σ (Ext.refl _ _ _) R1 (hρ.mono e1))⟩
theorem qx_set (i : Nat) {x : Str} {px : Pos} {m : ME} (h : QEX X cl W e m) (hN : X.N.Nodup) (hi : X.N[i]? = some x := by rfl) (hx : Loc X.env.scope x := by first | exact .inl rfl | exact .inr rfl) (hs : swapsWith e (some (.Name x px)) pos.line X.env = pure false := by rfl) (hf : X.fn x = true ∨ X.env.scope.names.lookup x = some .local := by first | exact .inl rfl | exact .inr rfl) :
    QX X cl W (.Assign [.Name x px] e pos) (mAsg m (mgN i)) := by
  obtain ⟨t, a1, a2⟩ := h.ex
  refine ⟨_, ps_set hN hi hx a1 hs hf, fun ρ S σ α G H Dn hρ hR hp => a2 ρ S σ α G H _ hρ hR (posts_bind hp fun d S1 α1 G1 H1 v _ e1 R1 r1 hp1 => ?_)⟩
  exact hp1 α1 G1 H1 _ (Ext.refl _ _ _) R1 ((hρ.mono e1).set i r1)
def mIfX (t : MT) (n n' : MS) : MS := fun ρ S => (nox (t ρ S)).bind fun b S1 => match b with
  | true => n ρ S1
  | false => n' ρ S1
theorem qx_if {mt : MT} {n n' : MS} {sa sb : List Stmt} (hc : QT X cl E0 c mt) (ha : QXs X cl W sa n) (hb : QXs X cl W sb n') : QX X cl W (.If c sa sb pos) (mIfX mt n n') := by
  obtain ⟨t, h1, h2⟩ := hc.ex
  obtain ⟨u, k1, k2⟩ := ha.ex
  obtain ⟨w, l1, l2⟩ := hb.ex
  refine ⟨_, ps_if h1 k1 l1, fun ρ S σ α G H Dn hρ hR hp => h2 ρ S σ α G H _ hρ hR (noxA_post (E := fun c d H' => W c d σ H') (posts_bind hp fun b S1 α1 G1 H1 v _ e1 R1 r1 hp1 => ?_))⟩
  have r1 : b = v := r1
  subst r1
  cases b with
  | true => exact iteT (k2 ρ S1 σ α1 G1 H1 Dn (hρ.mono e1) R1 hp1)
  | false => exact iteF (l2 ρ S1 σ α1 G1 H1 Dn (hρ.mono e1) R1 hp1)
end
section
variable {ρ : Env} {S : Store}
@[simp] theorem nox_ex {β : Type} (e : Exn) : nox (Res.ex e S : Res β) = .no := rfl
@[simp] theorem ap_raise (c : Nat) : mRaise c ρ S = .ex ⟨c, []⟩ S := rfl
@[simp] theorem ap_callX (g : List D → Store → Res D) (n : MA) : mCallX g n ρ S = (nox (n ρ S)).bind g := rfl
def ckKX (g : List D → Store → Res D) (i j : Nat) (idx : List Nat) (nk : MA) (ρ : Env) : List D → Store → Res D := fun ds S1 => (nox (nk ρ S1)).bind fun zs S2 => if ds.length = i ∧ zs.length = j then g (place idx (ds ++ zs)) S2 else .no
def ckKX2 (g : List D → Store → Res D) (i j : Nat) (idx : List Nat) (ds : List D) : List D → Store → Res D := fun zs S2 => if ds.length = i ∧ zs.length = j then g (place idx (ds ++ zs)) S2 else .no
@[simp] theorem ckKX_ap (g : List D → Store → Res D) (i j : Nat) (idx : List Nat) (nk : MA) (ds : List D) : ckKX g i j idx nk ρ ds S = (nox (nk ρ S)).bind (ckKX2 g i j idx ds) := rfl
@[simp] theorem ckKX2_ap (g : List D → Store → Res D) (i j : Nat) (idx : List Nat) (ds zs : List D) : ckKX2 g i j idx ds zs S = if ds.length = i ∧ zs.length = j then g (place idx (ds ++ zs)) S else .no := rfl
@[simp] theorem ap_callKX (g : List D → Store → Res D) (i j : Nat) (idx : List Nat) (n nk : MA) : mCallKX g i j idx n nk ρ S = (nox (n ρ S)).bind (ckKX g i j idx nk ρ) := rfl
@[simp] theorem ap_quiet (m : ME) : mQuiet m ρ S = nox (m ρ S) := rfl
@[simp] theorem ap_ifEX (t : MT) (m m' : ME) : mIfEX t m m' ρ S = (nox (t ρ S)).bind (ifEK m m' ρ) := rfl
@[simp] theorem ap_ifX (t : MT) (n n' : MS) : mIfX t n n' ρ S = (nox (t ρ S)).bind (ifK n n' ρ) := rfl
@[simp] theorem endX_nx {n : Nat} : endX n (.ok (.nx ρ) S) = fin n .non S := rfl
@[simp] theorem endX_rt {n : Nat} {d : D} : endX n (.ok (.rt d) S) = fin n d S := rfl
theorem endX_ex {e : Exn} {S' : Store} (h : pureL e.fs = true) (hp : S.all Cell.pure = true) (hl : S'.take S.length = S) : endX S.length (.ex e S') = .ex e S := by
  unfold endX
  simp only [hl, h, below_all S.length hp, Bool.and_self, if_true]
theorem fnX_1 {nN : Nat} {n : MS} {a : D} : fnX nN 1 n [a] S = endX S.length (n (some a :: List.replicate (nN - 1) none) S) := rfl
theorem fnX_2 {nN : Nat} {n : MS} {a b : D} : fnX nN 2 n [a, b] S = endX S.length (n (some a :: some b :: List.replicate (nN - 2) none) S) := rfl
theorem fnX_3 {nN : Nat} {n : MS} {a b c : D} : fnX nN 3 n [a, b, c] S = endX S.length (n (some a :: some b :: some c :: List.replicate (nN - 3) none) S) := rfl
theorem fnX_ok {nN nP : Nat} {n : MS} {ds : List D} {d : D} {S' : Store} (h : fnM nN nP n ds S = .ok d S') : fnX nN nP n ds S = .ok d S' := by
  unfold fnM at h
  unfold fnX
  split at h
  · rename_i hl
    rw [if_pos hl]
    revert h
    cases n (ds.map some ++ List.replicate (nN - nP) none) S with
    | no => exact fun h => nomatch h
    | ex e S2 => exact fun h => nomatch h
    | ok fl S2 => cases fl <;> first | exact id | exact fun h => nomatch h
  · cases h
theorem fPX_of {nN nP : Nat} {n : MS} {ds : List D} {d : D} (h : fPure (fnM nN nP n) ds [] = .ok d []) : fPureX (fnX nN nP n) ds S = .ok d S := by
  unfold fPure at h
  split at h
  · rename_i hp
    unfold fPureX
    rw [if_pos hp]
    cases q : fnM nN nP n ds [] with
    | no => rw [q] at h; cases h
    | ex e S' => rw [q] at h; cases h
    | ok d' S' =>
      rw [q] at h
      cases S' with
      | cons c T => cases h
      | nil =>
        rw [fnX_ok q]
        simp only at h ⊢
        cases h
        rfl
  · cases h
theorem fPureX_ok {f : List D → Store → Res D} {ds : List D} {d : D} (hp : pureL ds = true) (h : f ds [] = .ok d []) : fPureX f ds S = .ok d S := by simp [fPureX, hp, h]
theorem fPureX_ex {f : List D → Store → Res D} {ds : List D} {e : Exn} (hp : pureL ds = true) (h : f ds [] = .ex e []) (he : pureL e.fs = true) : fPureX f ds S = .ex e S := by simp [fPureX, hp, h, he]
end
end Q
namespace Q
open PySem L2
/-- an object that stands already is tracked from now on -/
theorem Inv.follow {X : Cx} {pins : List (Addr × Obj)} {σ : St} {H : Hp} {s : Shared} {a : Addr} {cls : Value} {d : Option Addr} {oe : Obj} {ws : Array Value} (I : Inv X pins σ H s) (ha : s.heap.get? a = some oe) (hz : Zc cls d oe) (hd : oe.data = .fields ws) (na : H a = none)
    (n0 : X.s_0.heap.get? a = none) (nl : a ≠ X.env.locals) (np : ∀ p ∈ X.pn ++ pins, p.1 ≠ a) : Inv X pins σ (upd H a (ExK cls d a)) s := by
  have old : ∀ {b : Addr} {o : HO}, H b = some o → upd H a (ExK cls d a) b = some o := fun {b o} e => by rw [upd_ne (ne_of_none e na)]; exact e
  have new : ObjOk X.prog X.w (upd H a (ExK cls d a)) s.heap a (ExK cls d a) := ⟨⟨oe, ws, ha, hz, hd⟩, ⟨oe, ha⟩, fun _ _ ⟨o, v, q, r⟩ k => ⟨o, v, k o q, r⟩⟩
  refine ⟨I.ok, I.os, I.bare, ⟨I.base.keep, I.base.slot, fun b o e n hx => ?_, I.base.there, fun b xs e => old (I.base.tups b xs e), fun b o u e => old (I.base.frzs b o u e), fun b ps e => ?_⟩, I.loc, I.cell, ?_, fun x c e => ?_, fun p hp => ?_, I.hok.laidN (fun _ _ e => e) na new, I.len⟩
  · have hb : b ≠ a := fun z => by
      rw [z, n0] at e
      cases e
    rw [upd_ne hb]
    exact I.base.free b o e n hx
  · obtain ⟨m, e'⟩ := I.base.tbls b ps e
    exact ⟨m, old e'⟩
  · rw [upd_ne (Ne.symm nl)]
    exact I.free
  · have hc : c ≠ a := fun z => by
      obtain ⟨v, o, ho, hv⟩ := I.cell x c e
      rw [z, ha] at ho
      cases ho
      rw [hd] at hv
      cases hv
    rw [upd_ne hc]
    exact I.freeC x c e
  · obtain ⟨e1, e2, e3⟩ := I.pin p hp
    exact ⟨e1, by rw [upd_ne (np p hp)]; exact e2, e3⟩
/-- the class (or the classes) that a clause names, asked of an exception: cs tells the answer by the class's number -/
structure HdT (X : Cx) (cl : Nat → Addr) (ty : Expr) (cs : List (Nat × Bool)) : Prop where
  run : ∀ (a : Addr) (pn : List (Addr × Obj)) (σ : St) (H : Hp) (s : Shared) (oe : Obj) (c : Nat) (b : Bool) (Q : Bool → Shared → Prop) (E : Value → Shared → Prop), Inv (X.suite a pn) [] σ H s → s.heap.get? a = some oe → oe.cls = .ref (cl c) → cs.lookup c = some b →
    (∀ h' tk, (∀ b o, s.heap.get? b = some o → h'.get? b = some o) → Q b { s with heap := h', toks := tk }) → wpAny (model X.prog X.w) (X.A.mark (some (.ref a))) (eval ty X.env) (fun v s1 => wpAny (model X.prog X.w) (X.A.mark (some (.ref a))) (excMatches (.ref a) v) Q E s1) E s
theorem hdt_name {X : Cx} {cl : Nat → Addr} {x : Str} {np : Pos} {Cv : Value} {cs : List (Nat × Bool)} (hc : Names X x Cv) (hm : ∀ c b, cs.lookup c = some b → PySem.W.exmOne X.K (.ref (cl c)) Cv = some b) : HdT X cl (.Name x np) cs := by
  refine ⟨fun a pn σ H s oe c b Q E I ha hcls hl h => ?_⟩
  have LT : PySem.W.Looks (model X.prog X.w) s.heap (typeOf (.ref a)) (.ref (cl c)) := fun A Q E s' k q => wpAny_typeOf_ref (k _ _ ha) (by rw [hcls]; exact q)
  have LM := PySem.W.exm_one (M := model X.prog X.w) (I.kIn) LT (hm c b hl)
  have done : wpAny (model X.prog X.w) (X.A.mark (some (.ref a))) (excMatches (.ref a) Cv) Q E s := LM.here (h s.heap s.toks fun _ _ e => e)
  obtain ⟨hg, hdb, h1 | ⟨h1, hv, hn⟩⟩ := hc
  · exact ld_glob (X := X.suite a pn) I hg h1 done hdb
  · exact ld_blt (X := X.suite a pn) I hg h1 hv done hn hdb
theorem flying_keep {B h h' : Heap} {l : List PySem.Env} {a : Addr} {Z : Obj → Prop} (k : ∀ b o, h.get? b = some o → h'.get? b = some o) (f : HandSPX.FlyingZ B l a Z h) : HandSPX.FlyingZ B l a Z h' := by
  obtain ⟨f1, f2, f3, oe, vs, T, oT, ts, e1, e2, e3, e4, e5, e6, e7, e8⟩ := f
  exact ⟨fun b o e => k b o (f1 b o e), f2, Heap.FunFrames.of_keeps (fun b o e _ => ⟨o, k b o e, rfl⟩) f3, oe, vs, T, oT, ts, k _ _ e1, e2, e3, e4, e5, e6, k _ _ e7, e8⟩
/-- the suite's end: the clause's name is gone -/
def unN (j : Nat) : Fl → Store → Res Fl
  | .nx ρ, S => .ok (.nx (ρ.set j none)) S
  | .bk ρ, S => .ok (.bk (ρ.set j none)) S
  | .ct ρ, S => .ok (.ct (ρ.set j none)) S
  | .rt d, S => .ok (.rt d) S
/-- a clause: the classes that it tells, the slot of its name, its suite -/
structure Hd where
  cs : List (Nat × Bool)
  j : Nat
  ms : MS
def mHands : List Hd → Exn → MS
  | [], _ => fun _ _ => .no
  | h :: r, e => fun ρ S => match h.cs.lookup e.cls with
    | some true => (nox (h.ms (ρ.set h.j (some (.exn e.cls e.fs))) S)).bind (unN h.j)
    | some false => mHands r e ρ S
    | none => .no
def mTry (hs : List Hd) (mb : MS) : MS := fun ρ S => match mb ρ S with
  | .ex e S1 => mHands hs e ρ S1
  | r => r
/-- the body's result, told to the clauses -/
def tryK (hs : List Hd) (ρ : Env) : Res Fl → Res Fl
  | .ex e S1 => mHands hs e ρ S1
  | r => r
@[simp] theorem ap_try (hs : List Hd) (mb : MS) (ρ : Env) (S : Store) : mTry hs mb ρ S = tryK hs ρ (mb ρ S) := rfl
@[simp] theorem tryK_ok (hs : List Hd) (ρ : Env) (f : Fl) (S : Store) : tryK hs ρ (.ok f S) = .ok f S := rfl
@[simp] theorem tryK_ex (hs : List Hd) (ρ : Env) (e : Exn) (S : Store) : tryK hs ρ (.ex e S) = mHands hs e ρ S := rfl
theorem hands_yes (cs : List (Nat × Bool)) (j : Nat) (ms : MS) (r : List Hd) (e : Exn) (ρ : Env) (S : Store) (h : cs.lookup e.cls = some true) : mHands (⟨cs, j, ms⟩ :: r) e ρ S = (nox (ms (ρ.set j (some (.exn e.cls e.fs))) S)).bind (unN j) := by
  unfold mHands
  simp only [h]
theorem hands_no (cs : List (Nat × Bool)) (j : Nat) (ms : MS) (r : List Hd) (e : Exn) (ρ : Env) (S : Store) (h : cs.lookup e.cls = some false) : mHands (⟨cs, j, ms⟩ :: r) e ρ S = mHands r e ρ S := by
  conv => lhs; unfold mHands
  simp only [h]
@[simp] theorem unN_nx (j : Nat) (ρ : Env) (S : Store) : unN j (.nx ρ) S = .ok (.nx (ρ.set j none)) S := rfl
@[simp] theorem unN_rt (j : Nat) (d : D) (S : Store) : unN j (.rt d) S = .ok (.rt d) S := rfl
inductive HdsQ (X : Cx) (cl : Nat → Addr) : List ExceptHandler → List Hd → Prop
  | nil : HdsQ X cl [] []
  | cons {ty : Expr} {n : Str} {b₀ : Stmt} {suite : List Stmt} {pos : Pos} {cs : List (Nat × Bool)} {j : Nat} {ms : MS} {hds : List ExceptHandler} {r : List Hd} (hi : X.N[j]? = some n) (hln : X.env.kindOf n = some .local) (ht : HdT X cl ty cs)
      (hsu : ∀ (a : Addr) (pn : List (Addr × Obj)), QSs (X.suite a pn) cl E0 (b₀ :: suite) ms) (k : HdsQ X cl hds r) : HdsQ X cl (.ExceptHandler (some ty) (some n) (b₀ :: suite) pos :: hds) (⟨cs, j, ms⟩ :: r)
theorem EnvR.unset {Γ : Gm} {α : List Addr} {G : Hp} {ρ : Env} {σ : L2.St} (h : EnvR Γ α G ρ σ) (i : Nat) : EnvR Γ α G (ρ.set i none) (σ.set i none) := by
  refine ⟨by simp [h.1], fun j e hj => ?_⟩
  by_cases z : i = j
  · subst z
    have l := (List.getElem?_eq_some_iff.mp hj).1
    rw [List.length_set] at l
    rw [List.getElem?_set_self l] at hj
    cases hj
  · rw [List.getElem?_set_ne z] at hj ⊢
    exact h.2 j e hj
section
variable {X : Cx} {cl : Nat → Addr} {E : XK} {body : List Stmt} {pos : Pos}
/-- what the clauses want of an exception of the body -/
def wTry (Γ : Gm) (E : XK) (hs : List Hd) (Dn : Ends) : WX := fun cls d σ H => ∃ e ρ S α G, EnvR Γ α G ρ σ ∧ Rl Γ α G S H ∧ ExR Γ α G e cls d H ∧ PostS Γ E α G H (mHands hs e ρ S) Dn
theorem qs_try {h₀ : ExceptHandler} {hds : List ExceptHandler} {hs : List Hd} {mb : MS} (hst : X.stack = X.env :: X.outer) (hf : X.env.frame = some X.env.locals) (hex : X.ex = []) (hN : X.N.Nodup)
    (hb : ∀ (W : WX) (pn : List (Addr × Obj)) (xe : Value → Shared → Prop), Takes (X.tr pn xe) W → PassesOwn (model X.prog X.w) X.A X.env xe → QXs (X.tr pn xe) cl W body mb)
    (hh : HdsQ X cl (h₀ :: hds) hs) : QS X cl E (.Try body (h₀ :: hds) [] [] pos) (mTry hs mb) := by
  refine ⟨fun Dn σ H => ∃ ρ S α G, EnvR ⟨X.K, cl⟩ α G ρ σ ∧ Rl ⟨X.K, cl⟩ α G S H ∧ PostS ⟨X.K, cl⟩ E α G H (mTry hs mb ρ S) Dn, ⟨fun pins s σ H D I h => ?_⟩, fun ρ S σ α G H Dn hρ hR hp => ⟨ρ, S, α, G, hρ, hR, hp⟩⟩
  obtain ⟨ρ0, S0, α0, G0, hρ0, hR0, hp0⟩ := h
  have ok := I.ok
  have hfr : X.A.frames = some (X.env :: X.outer) := ok.frames.trans (congrArg some hst)
  have toTr : ∀ xe', Inv (X.tr (X.pn ++ pins) xe') [] σ H s := fun xe' => I.toTry xe'
  -- the body's reading
  have start : ∀ W : WX, (∀ cls d σ' H', wTry ⟨X.K, cl⟩ E hs D cls d σ' H' → W cls d σ' H') → tX ⟨X.K, cl⟩ W mb D σ H := fun W hW => by
    refine ⟨ρ0, S0, α0, G0, hρ0, hR0, ?_⟩
    unfold mTry at hp0
    cases q : mb ρ0 S0 with
    | no => rw [q] at hp0; exact hp0.elim
    | ok f S1 => rw [q] at hp0; cases f <;> exact hp0
    | ex e S1 =>
      rw [q] at hp0
      exact fun α' G' H' c x e1 R1 r1 => hW _ _ _ _ ⟨e, ρ0, S1, α', G', hρ0.mono e1, R1, r1, PostS.mono hp0 e1⟩
  refine wpAny_Try_except ?_
  have leave : ∀ (xe' : Value → Shared → Prop) (u : Value) (s' : Shared), XE (X.tr (X.pn ++ pins) xe') (wTry ⟨X.K, cl⟩ E hs D) u s' → wpAny (model X.prog X.w) X.A (noteFrame u X.env) (fun _ s₂ => wpAny (model X.prog X.w) X.A (setFlight u none) (fun _ s₃ =>
      wpAny (model X.prog X.w) X.A (handleBy u X.env (h₀ :: hds)) (SP X pins D) X.xe s₃) X.xe s₂) X.xe s' := by
    rintro xe' u s' ⟨a, B, sI, pins', τ, J, cls, d, rfl, Ja, nb, up, sky, na, eos, bare, e, ρ, S, α, G, hρ, hR, hx, hp⟩
    have Ib : Inv X pins τ J sI := Ja.ofTry ok
    refine Sky.land Zc.steady hfr hf (B := B) (by rw [← hst]; exact sky) fun h3 fl3 up3 => ?_
    -- the exception is no frame, and it is newer than what the def found
    have apart : ∀ {h : Heap}, HandSPX.FlyingZ B (X.env :: X.outer) a (Zc cls d) h → a ∉ frs (X.env :: X.outer) := fun {h} fl hm => by
      obtain ⟨oe, ws, e1, _, e2⟩ := fl.there
      obtain ⟨_, o2, e3, nf⟩ := fl.2.2.1.mem hm
      rw [e1] at e3
      cases e3
      exact nf _ e2
    have nfr := apart fl3
    have nl : a ≠ X.env.locals := fun z => nfr (by rw [z]; exact List.mem_filterMap.mpr ⟨X.env, .head _, hf⟩)
    have inB : ∀ {b : Addr} {o : Obj}, sI.heap.get? b = some o → b ∉ frs X.stack → b ≠ a := fun {b o} q n z => by
      have := nb b o q n
      rw [z, fl3.2.1] at this
      cases this
    have n0 : X.s_0.heap.get? a = none := by
      cases q : X.s_0.heap.get? a with
      | none => rfl
      | some o =>
        obtain ⟨o', q'⟩ := Ib.base.there a o q (by rw [hex]; exact fun z => nomatch z)
        exact absurd rfl (inB q' (by rw [hst]; exact nfr))
    have np : ∀ p ∈ X.pn ++ pins, p.1 ≠ a := fun p hp => by
      obtain ⟨q1, _, q3, q4, _⟩ := Ib.pin p hp
      refine inB q1 fun hm => ?_
      rw [hst] at hm
      obtain ⟨v, hv, hw⟩ := List.mem_filterMap.mp hm
      rcases List.mem_cons.mp hv with z | z
      · rw [z, hf] at hw
        exact q3 (Option.some.inj hw).symm
      · exact q4 (List.mem_filterMap.mpr ⟨v, z, hw⟩)
    obtain ⟨ec, vs, rfs, exf⟩ := hx
    have toSuite : ∀ {τ' : St} {J' : Hp} {u : Shared}, Inv X pins τ' J' u → Inv (X.suite a (X.pn ++ pins)) [] τ' J' u := fun {τ' J' u} I' =>
      ⟨I'.ok.suite _ _, I'.os, I'.bare, I'.base, I'.loc, I'.cell, I'.free, I'.freeC, fun p hp => I'.pin p (by simpa using hp), I'.hok, I'.len⟩
    have offSuite : ∀ {τ' : St} {J' : Hp} {u : Shared}, Inv (X.suite a (X.pn ++ pins)) [] τ' J' u → Inv X pins τ' J' u := fun {τ' J' u} I' =>
      ⟨ok, I'.os, I'.bare, I'.base, I'.loc, I'.cell, I'.free, I'.freeC, fun p hp => I'.pin p (by simpa using hp), I'.hok, I'.len⟩
    have go : ∀ {hds' : List ExceptHandler} {hs' : List Hd}, HdsQ X cl hds' hs' → ∀ (h : Heap) (tk : Nat), HandSPX.FlyingZ B (X.env :: X.outer) a (Zc cls d) h → sI.heap.UpToSlots h → PostS ⟨X.K, cl⟩ E α G J (mHands hs' e ρ S) D →
        wpAny (model X.prog X.w) X.A (handleBy (.ref a) X.env hds') (SP X pins D) X.xe { s' with heap := h, toks := tk } := by
      intro hds' hs' hk
      induction hk with
      | nil => exact fun h tk _ _ hp => hp.elim
      | @cons ty n b₀ suite pos cs j ms hds2 r hi hln ht hsu k ih =>
        intro h tk fl up hp
        have I3 : Inv X pins τ J { s' with heap := h, toks := tk } := Ib.landed nb fl.1 up eos bare
        obtain ⟨oe, ws, he, hz, hd⟩ := fl.there
        unfold mHands at hp
        cases hl : cs.lookup e.cls with
        | none => simp only [hl] at hp; exact hp.elim
        | some b =>
        simp only [hl] at hp
        refine wpAny_handleBy_cons (codeAny_handlers_test ?_) (by intro q; cases q)
        refine ht.run a (X.pn ++ pins) τ J _ oe e.cls b _ _ (toSuite I3) he (hz.1.trans ec) hl (fun h' tk' kh => ?_)
        have fl' := flying_keep kh fl
        have up' : sI.heap.UpToSlots h' := up.trans (Heap.UpToSlots.of_keeps kh)
        cases b with
        | false => exact ih h' tk' fl' up' hp
        | true =>
          refine codeAny_handlers_suite_as ?_
          refine HandSPX.lands_againZ fl' fun h4 fl4 up4 => ?_
          have I4 : Inv X pins τ J { s' with heap := h4, toks := tk' } := Ib.landed nb fl4.1 (up'.trans up4) eos bare
          obtain ⟨oe4, ws4, he4, hz4, hd4⟩ := fl4.there
          have I5 := Inv.follow (toSuite I4) he4 hz4 hd4 na n0 nl (by simpa using np)
          refine store_ok (X := X.suite a (X.pn ++ pins)) (v := .ref a) I5 hN hi (.inl hln) rfl (fun s6 I6 => ?_) (.inr hln)
          obtain ⟨R7, e7⟩ := hR.new na (ExK cls d a)
          have rex : Rep ⟨X.K, cl⟩ α (upd G a (ExK cls d a)) (.exn e.cls e.fs) (.ref a) := by
            unfold Rep
            exact ⟨a, vs, rfl, ⟨d, by rw [upd_same, ec], exf.keep fun b fs q => by rw [upd_ne (fun z => by rw [z, hR.gnone na] at q; cases q)]; exact q⟩, RepL.mono e7.pre e7.sub _ _ rfs⟩
          have hp7 := PostS.mono hp e7
          obtain ⟨t, h1, h2⟩ := (hsu a (X.pn ++ pins)).ex
          refine wpAny_mono (h1.run [] s6 _ _ { nx := fun σ' H' => D.nx (σ'.set j none) H', rt := D.rt, bk := fun σ' H' => D.bk (σ'.set j none) H', ct := fun σ' H' => D.ct (σ'.set j none) H' } I6 (h2 (ρ.set j (some (.exn e.cls e.fs))) S _ α _ _ _ ((hρ.mono e7).set j rex) R7 ?_)) (fun f s7 hsp => ?_) (fun _ _ z => False.elim z)
          · revert hp7
            cases ms (ρ.set j (some (.exn e.cls e.fs))) S with
            | no => exact fun hp7 => hp7.elim
            | ex e' S' => exact fun hp7 => hp7.elim
            | ok f S' =>
              intro hp7
              cases f with
              | nx ρ' => exact fun α' G' H' σ' e8 R8 r8 => hp7 α' G' H' _ e8 R8 (r8.unset j)
              | bk ρ' => exact fun α' G' H' σ' e8 R8 r8 => hp7 α' G' H' _ e8 R8 (r8.unset j)
              | ct ρ' => exact fun α' G' H' σ' e8 R8 r8 => hp7 α' G' H' _ e8 R8 (r8.unset j)
              | rt v => exact hp7
          · have end_ : ∀ {τ' : St} {J' : Hp} {Q : Shared → Prop}, Inv (X.suite a (X.pn ++ pins)) [] τ' J' s7 → (∀ s8, Inv X pins (τ'.set j none) J' s8 → Q s8) → wpAny (model X.prog X.w) X.A (do bindName X.env n .none; unbindBehindTheSuite X.env n pos) (fun _ s8 => Q s8) X.xe s7 :=
              fun {τ' J' Q} I' hq => gone_ok (offSuite I') hN hi hln hq
            cases f with
            | next =>
              obtain ⟨τ8, J8, I8, q8⟩ := hsp
              exact end_ I8 fun s8 I9 => ⟨_, _, I9, q8⟩
            | brk =>
              obtain ⟨τ8, J8, I8, q8⟩ := hsp
              exact end_ I8 fun s8 I9 => ⟨_, _, I9, q8⟩
            | cont =>
              obtain ⟨τ8, J8, I8, q8⟩ := hsp
              exact end_ I8 fun s8 I9 => ⟨_, _, I9, q8⟩
            | ret u =>
              obtain ⟨v8, τ8, J8, I8, r8, q8⟩ := hsp
              exact end_ I8 fun s8 I9 => ⟨_, _, _, I9, r8, q8⟩
    exact go hh h3 s'.toks fl3 (up.trans up3) hp
  refine wpAny_mono ((hb (wTry ⟨X.K, cl⟩ E hs D) (X.pn ++ pins) _ (leave _) PassesOwn.looking).can.run [] s σ H D (toTr _) (start _ fun _ _ _ _ z => z)) (fun f s1 hsp => ?_) (fun _ _ z => z)
  cases f with
  | next =>
    obtain ⟨τ, J, I1, q⟩ := hsp
    exact wpAny_execs_nil ⟨τ, J, I1.ofTry ok, q⟩
  | brk =>
    obtain ⟨τ, J, I1, q⟩ := hsp
    exact ⟨τ, J, I1.ofTry ok, q⟩
  | cont =>
    obtain ⟨τ, J, I1, q⟩ := hsp
    exact ⟨τ, J, I1.ofTry ok, q⟩
  | ret u =>
    obtain ⟨v, τ, J, I1, r, q⟩ := hsp
    exact ⟨v, τ, J, I1.ofTry ok, r, q⟩
end
end Q
namespace Q
open PySem L2
section
variable {M : Model} {A : Around} {E : Value → Shared → Prop} {s : Shared}
theorem loopU {f : Value → PUnit → Sem (ForInStep PUnit)} {Q : PUnit → Shared → Prop} : ∀ {cs : List Value}, (∀ c ∈ cs, ∀ {Q' : ForInStep PUnit → Shared → Prop}, Q' (.yield ⟨⟩) s → wpAny M A (f c ⟨⟩) Q' E s) → Q ⟨⟩ s → wpAny M A (forIn cs ⟨⟩ f) Q E s
  | [], _, q => by rw [List.forIn_nil]; exact wpAny_pure q
  | c :: cs, h, q => by
    rw [List.forIn_cons]
    exact wpAny_bind (h c (List.mem_cons_self ..) (loopU (fun c' hc => h c' (List.mem_cons_of_mem _ hc)) q))
theorem loopF {sub : Value → Bool} {f : Value → (Option Bool × PUnit) → Sem (ForInStep ((Option Bool × PUnit)))} {Q : (Option Bool × PUnit) → Shared → Prop} : ∀ {cs : List Value},
    (∀ c ∈ cs, ∀ {Q' : ForInStep ((Option Bool × PUnit)) → Shared → Prop}, Q' (if sub c = true then .done (some true, ⟨⟩) else .yield (none, ⟨⟩)) s → wpAny M A (f c (none, ⟨⟩)) Q' E s) → Q (if cs.any sub = true then some true else none, ⟨⟩) s → wpAny M A (forIn cs (none, ⟨⟩) f) Q E s
  | [], _, q => by rw [List.forIn_nil]; exact wpAny_pure q
  | c :: cs, h, q => by
    rw [List.forIn_cons]
    refine wpAny_bind (h c (List.mem_cons_self ..) ?_)
    cases z : sub c with
    | true =>
      rw [List.any_cons, z] at q
      exact wpAny_pure q
    | false =>
      rw [List.any_cons, z] at q
      exact loopF (sub := sub) (fun c' hc => h c' (List.mem_cons_of_mem _ hc)) q
end
theorem exmAny_all {K : PySem.W.Frag} {cls : Value} : ∀ {cs : List Value} {b : Bool}, PySem.W.exmAny K cls cs = some b → (∀ c ∈ cs, ∃ v, PySem.W.exmOne K cls c = some v) ∧ b = cs.any fun c => PySem.W.exmOne K cls c == some true
  | [], b, h => by
    unfold PySem.W.exmAny at h
    cases h
    exact ⟨fun c hc => (nomatch hc), rfl⟩
  | c :: cs, b, h => by
    obtain ⟨b1, d1, h1, h2, rfl⟩ := PySem.W.exmAny_cons h
    obtain ⟨i1, i2⟩ := exmAny_all h2
    refine ⟨fun c' hc => ?_, ?_⟩
    · rcases List.mem_cons.mp hc with z | z
      · exact ⟨b1, by rw [z]; exact h1⟩
      · exact i1 c' z
    · rw [List.any_cons, h1, ← i2]
      cases b1 <;> rfl
/-- an exception beside a tuple of classes, any length -/
theorem exm_tupN {M : Model} {K : PySem.W.Frag} {cs : List Value} {cls : Value} {tp e : Addr} {b : Bool} {h : Heap} (X : K.In h) (LT : PySem.W.Looks M h (typeOf (.ref e)) cls) (hp : h.get? tp = some { cls := .type "tuple", data := .seq cs.toArray }) (hx : PySem.W.exmAny K cls cs = some b) :
    PySem.W.Looks M h (excMatches (.ref e) (.ref tp)) b := by
  intro A Q E s k₀ q
  obtain ⟨hh, g, d, tk, os⟩ := s
  have k : ∀ b o, h.get? b = some o → hh.get? b = some o := k₀
  have LT0 : PySem.W.Looks M h (isInstance (.ref tp) (.type "tuple")) true := ((PySem.W.Looks.ld hp).andThen .now).andThen (PySem.W.Looks.of_pure isSubtype_tuple_tuple)
  obtain ⟨i1, i2⟩ := exmAny_all hx
  have hp' := k _ _ hp
  unfold excMatches
  refine wpAny_bind ((LT0.keeps k).at ?_)
  dsimp only
  rw [if_pos rfl]
  first
    | refine wpAny_bind (wpAny_seqItems hp' rfl ?_)
    | refine wpAny_bind (wpAny_bind (wpAny_seqItems hp' rfl (wpAny_pure ?_)))
  dsimp only [Option.getD_some, Option.getD]
  refine wpAny_bind (wpAny_pure ?_)
  refine wpAny_bind (loopU (cs := cs) (fun c hc Q' q' => ?_) ?_)
  · obtain ⟨v, hv⟩ := i1 c hc
    obtain ⟨L1, _⟩ := PySem.W.exm_cls (M := M) X hv
    refine wpAny_bind ((L1.keeps k).at ?_)
    exact wpAny_pure q'
  · refine wpAny_bind ((LT.keeps k).at ?_)
    refine wpAny_bind (loopF (cs := cs) (sub := fun c => PySem.W.exmOne K cls c == some true) (fun c hc Q' q' => ?_) ?_)
    · obtain ⟨v, hv⟩ := i1 c hc
      obtain ⟨_, L2⟩ := PySem.W.exm_cls (M := M) X hv
      refine wpAny_bind ((L2.keeps k).at ?_)
      rw [hv] at q'
      cases v <;> exact wpAny_pure q'
    · rw [← i2]
      cases b <;> exact wpAny_pure q
/-- names of classes, one after the other -/
inductive NamesL (X : Cx) : List Expr → List Value → Prop
  | nil : NamesL X [] []
  | cons {x : Str} {p : Pos} {c : Value} {es : List Expr} {cs : List Value} (h : Names X x c) (k : NamesL X es cs) : NamesL X (.Name x p :: es) (c :: cs)
theorem namesL_run {X : Cx} {es : List Expr} {cs : List Value} (hn : NamesL X es cs) {pos : Pos} {pins : List (Addr × Obj)} {σ : St} {H : Hp} {s : Shared} {E : Value → Shared → Prop} (I : Inv X pins σ H s) : ∀ {Q : List Value → Shared → Prop}, Q cs s → wpAny (model X.prog X.w) X.A (spliced (backTo pos (starEach es X.env))) Q E s := by
  induction hn with
  | nil => exact fun q => Calls.spliced_nil q
  | @cons x p c es cs h k ih =>
    intro Q q
    show wpAny _ _ (spliced ((false, eval (.Name x p) X.env) :: backTo pos (starEach es X.env))) _ _ _
    have rest : wpAny (model X.prog X.w) X.A (spliced (backTo pos (starEach es X.env))) (fun vs s' => Q (c :: vs) s') E s := ih q
    refine Calls.spliced_cons ?_
    obtain ⟨hg, hdb, h1 | ⟨h1, hv, hnn⟩⟩ := h
    · exact ld_glob I hg h1 rest hdb
    · exact ld_blt I hg h1 hv rest hnn hdb
theorem NamesL.suite {X : Cx} {es : List Expr} {cs : List Value} (h : NamesL X es cs) (a : Addr) (pn : List (Addr × Obj)) : NamesL (X.suite a pn) es cs := by
  induction h with
  | nil => exact .nil
  | cons h k ih => exact .cons h ih
theorem hdt_tup {X : Cx} {cl : Nat → Addr} {es : List Expr} {vs : List Value} {k : Nat} {np : Pos} {cs : List (Nat × Bool)} (hn : NamesL X es vs) (hz : vs.length ≤ 1000) (hm : ∀ c b, cs.lookup c = some b → PySem.W.exmAny X.K (.ref (cl c)) vs = some b) : HdT X cl (.Tuple es k np) cs := by
  refine ⟨fun a pn σ H s oe c b Q E I ha hcls hl h => ?_⟩
  refine wpAny_Tuple_spliced (namesL_run (hn.suite a pn) I ⟨Nat.le_of_lt (small1000 hz), ?_⟩)
  have k' : ∀ b o, s.heap.get? b = some o → (s.heap.push { cls := .type "tuple", data := .seq vs.toArray }).get? b = some o := fun b o e => Heap.get?_push_of_some _ e
  have LT : PySem.W.Looks (model X.prog X.w) (s.heap.push { cls := .type "tuple", data := .seq vs.toArray }) (typeOf (.ref a)) (.ref (cl c)) := fun A Q E s' k q => wpAny_typeOf_ref (k _ _ (k' _ _ ha)) (by rw [hcls]; exact q)
  have LM := exm_tupN (M := model X.prog X.w) (I.kIn.keeps k') LT (Heap.get?_push_size _ rfl) (hm c b hl)
  exact LM.here (s := { s with heap := s.heap.push { cls := .type "tuple", data := .seq vs.toArray } }) (h _ s.toks k')
/-- what the class at C must say, so that isinstance asks its instances rightly -/
structure ExcQ (K : PySem.W.Frag) (C : Addr) : Prop where
  cl : (PySem.W.clsIn K C).isSome = true
  ga : PySem.W.findIn K (.ref C) "__getattribute__" = some (some (.builtin "BaseException.__getattribute__"))
  gg : PySem.W.findIn K (.ref C) "__getattr__" = some none
  sb : PySem.W.subIn K (.ref C) (.type "BaseException") = some true
  ca : PySem.W.findIn K (.ref C) "__class__" = some (some (.builtin "object.__class__"))
  cn : PySem.W.specialIn K (.builtin "object.__class__") "__get__" = some (some (.builtin "getset_descriptor.__get__"))
  ct : PySem.W.takesIn K (.builtin "object.__class__") = some true
  ob : PySem.W.mroIn K C (.type "object") = some true
/-- at a: an exception of the class at C, its dict told -/
def ExH (H : Hp) (a C : Addr) : Prop := ∃ d, H a = some (ExK (.ref C) d a) ∧ (d = none ∨ ∃ dd fs, d = some dd ∧ H dd = some (.xd fs))
theorem exn_inst {X : Cx} {pins : List (Addr × Obj)} {σ : St} {H : Hp} {s : Shared} {a C : Addr} (I : Inv X pins σ H s) (h : ExH H a C) : ∃ oe od, PySem.W.InstAt s.heap a oe C od := by
  obtain ⟨d, ha, hd⟩ := h
  obtain ⟨⟨oe, ws, e1, z, e2⟩, _⟩ := (show ObjOk X.prog X.w H s.heap a (.ext _) from I.hok a _ ha)
  have nc : PySem.W.notCls oe = true := by unfold PySem.W.notCls; rw [e2] <;> rfl
  rcases hd with rfl | ⟨dd, fs, rfl, hdd⟩
  · exact ⟨oe, none, e1, z.1, nc, by rw [z.2]; trivial⟩
  · obtain ⟨_, ⟨od, _, _, e3, _⟩, _⟩ := (show ObjOk X.prog X.w H s.heap dd (.xd fs) from I.hok dd _ hdd)
    exact ⟨oe, some od, e1, z.1, nc, by rw [z.2]; exact e3⟩
def rIsX (K : PySem.W.Frag) : List V → Hp → VK → Prop := fun xs H Q => ∃ (a C : Addr) (c : V) (cv : Value) (b : Bool), xs = [.ref a, c] ∧ ClsV c cv ∧ ExH H a C ∧ ExcQ K C ∧ PySem.W.kitOne K (.ref C) cv = some b ∧ Q (.bl b) H
theorem call_isX {X : Cx} : CallR X (.builtin "isinstance") (rIsX X.K) := by
  intro pins s σ H xs us Q I r h
  obtain ⟨a, C, c, cv, b, rfl, k, hx, T, e, q⟩ := h
  obtain ⟨u1, u2, rfl, r1, r2⟩ := vals2 r
  have e2 := k.eq r2
  subst e2
  cases (show u1 = Value.ref a from r1)
  obtain ⟨oe, od, J⟩ := exn_inst I hx
  exact PySem.W.kia_one (PySem.W.kitx_exc T.cl T.ga T.gg T.sb T.ca T.cn T.ct T.ob) I.kIn J e (fun z => nomatch z) fun tk => ⟨.bl b, H, I.tok tk, rfl, q⟩
def rIsXT (K : PySem.W.Frag) : List V → Hp → VK → Prop := fun xs H Q => ∃ (a C tp : Addr) (cs : List V) (ws : List Value) (b : Bool), xs = [.ref a, .ref tp] ∧ H tp = some (.tup cs) ∧ Paired ClsV cs ws ∧ ExH H a C ∧ ExcQ K C ∧ PySem.W.kitAny K (.ref C) ws = some b ∧ Q (.bl b) H
theorem call_isXT {X : Cx} : CallR X (.builtin "isinstance") (rIsXT X.K) := by
  intro pins s σ H xs us Q I r h
  obtain ⟨a, C, tp, cs, ws, b, rfl, hT, k, hx, T, e, q⟩ := h
  obtain ⟨u1, u2, rfl, r1, r2⟩ := vals2 r
  cases (show u2 = Value.ref tp from r2)
  cases (show u1 = Value.ref a from r1)
  obtain ⟨oe, od, J⟩ := exn_inst I hx
  obtain ⟨_, its, rv, o, h1, h2, n, h3⟩ := (show ObjOk X.prog X.w H s.heap tp (.tup cs) from I.hok tp _ hT)
  have e3 := ClsV.all k rv
  subst e3
  obtain ⟨oc, od', dt, sl⟩ := o
  simp only at h2 h3
  subst h2 h3
  exact PySem.W.kia_tup (PySem.W.kitx_exc T.cl T.ga T.gg T.sb T.ca T.cn T.ct T.ob) I.kIn J h1 e (fun z => nomatch z) fun tk => ⟨.bl b, H, I.tok tk, rfl, q⟩
section
variable {X : Cx} {cl : Nat → Addr} {E : XK} {pos : Pos} {a : Expr} {m : ME}
theorem exn_at {Γ : Gm} {α : List Addr} {G H : Hp} {S : Store} (R : Rl Γ α G S H) {c : Nat} {fs : List D} {v : V} (r : Rep Γ α G (.exn c fs) v) : ∃ p, v = .ref p ∧ ExH H p (Γ.cl c) := by
  unfold Rep at r
  obtain ⟨p, vs, rfl, ⟨d, h1, h2⟩, _⟩ := r
  refine ⟨p, rfl, d, R.sub _ _ h1, ?_⟩
  rcases h2 with ⟨_, z⟩ | ⟨nm, v, dd, _, e2, e3⟩
  · exact .inl z
  · exact .inr ⟨dd, _, e2, R.sub _ _ e3⟩
def isX (tab : List (Nat × Bool)) (d : D) (S : Store) : Res D := match d with
  | .exn c _ => match tab.lookup c with
    | some b => .ok (.bl b) S
    | none => .no
  | _ => .no
/-- isinstance(e, C): tab tells the answer by the number of e's class -/
def mIsX (tab : List (Nat × Bool)) (m : ME) : ME := fun ρ S => (m ρ S).bind (isX tab)
theorem q_isX (tab : List (Nat × Bool)) {x : Str} {p p2 : Pos} {cv : V} {cw : Value} (h : QE X cl E a m) (hg : Gl X "isinstance") (hm : X.mg "isinstance" = none) (hc : PE X (.Name x p2) (tC cv)) (hcv : ClsV cv cw) (ht : ∀ c b, tab.lookup c = some b → ExcQ X.K (cl c) ∧ PySem.W.kitOne X.K (.ref (cl c)) cw = some b)
    (hs1 : starEach [a, .Name x p2] X.env = (false, eval a X.env) :: starEach [.Name x p2] X.env := by rfl) (hs2 : starEach [.Name x p2] X.env = (false, eval (.Name x p2) X.env) :: starEach [] X.env := by rfl) (hpl : (backTo pos (starEach [.Name x p2] X.env)).any (·.1) = false := by rfl) :
    QE X cl E (.Call (.Name "isinstance" p) [a, .Name x p2] [] pos) (mIsX tab m) := by
  obtain ⟨t, h1, h2⟩ := h.ex
  refine ⟨_, pe_callB call_isX hg hm (by decide +kernel) (pa_cons h1 (pa_cons hc pa_nil hs2) hs1) (by decide) (by decide) hs1 hpl, fun ρ S σ α G H Q hρ hR hp => h2 ρ S σ α G H _ hρ hR (post_bind hp fun d S1 α1 G1 H1 v _ e1 R1 r1 hp1 => ?_)⟩
  cases d <;> try exact hp1.elim
  rename_i c fs _
  simp only [isX] at hp1
  cases hl : tab.lookup c with
  | none => simp only [hl] at hp1; exact hp1.elim
  | some b =>
    simp only [hl] at hp1
    obtain ⟨p, rfl, hx⟩ := exn_at R1 r1
    obtain ⟨T, e⟩ := ht c b hl
    exact ⟨p, cl c, cv, cw, b, rfl, hcv, hx, T, e, post_ok hp1 R1 (by simp [Rep])⟩
/-- isinstance(e, (C, D, F)) -/
theorem q_isX3 (tab : List (Nat × Bool)) {x y z : Str} {p p2 p3 p4 p5 : Pos} {x1} {cv cv2 cv3 : V} {cw cw2 cw3 : Value} (h : QE X cl E a m) (hg : Gl X "isinstance") (hm : X.mg "isinstance" = none) (hc : PE X (.Name x p2) (tC cv)) (hcv : ClsV cv cw) (hc2 : PE X (.Name y p3) (tC cv2)) (hcv2 : ClsV cv2 cw2) (hc3 : PE X (.Name z p4) (tC cv3)) (hcv3 : ClsV cv3 cw3)
    (ht : ∀ c b, tab.lookup c = some b → ExcQ X.K (cl c) ∧ PySem.W.kitAny X.K (.ref (cl c)) [cw, cw2, cw3] = some b)
    (hs1 : starEach [a, .Tuple [.Name x p2, .Name y p3, .Name z p4] x1 p5] X.env = (false, eval a X.env) :: starEach [.Tuple [.Name x p2, .Name y p3, .Name z p4] x1 p5] X.env := by rfl) (hs2 : starEach [.Tuple [.Name x p2, .Name y p3, .Name z p4] x1 p5] X.env = (false, eval (.Tuple [.Name x p2, .Name y p3, .Name z p4] x1 p5) X.env) :: starEach [] X.env := by rfl)
    (hs3 : starEach [.Name x p2, .Name y p3, .Name z p4] X.env = (false, eval (.Name x p2) X.env) :: starEach [.Name y p3, .Name z p4] X.env := by rfl) (hs4 : starEach [.Name y p3, .Name z p4] X.env = (false, eval (.Name y p3) X.env) :: starEach [.Name z p4] X.env := by rfl) (hs5 : starEach [.Name z p4] X.env = (false, eval (.Name z p4) X.env) :: starEach [] X.env := by rfl)
    (hpl : (backTo pos (starEach [.Tuple [.Name x p2, .Name y p3, .Name z p4] x1 p5] X.env)).any (·.1) = false := by rfl) :
    QE X cl E (.Call (.Name "isinstance" p) [a, .Tuple [.Name x p2, .Name y p3, .Name z p4] x1 p5] [] pos) (mIsX tab m) := by
  obtain ⟨t, h1, h2⟩ := h.ex
  refine ⟨_, pe_callB call_isXT hg hm (by decide +kernel) (pa_cons h1 (pa_cons (pe_tup (pa_cons hc (pa_cons hc2 (pa_cons hc3 pa_nil hs5) hs4) hs3)) pa_nil hs2) hs1) (by decide) (by decide) hs1 hpl, fun ρ S σ α G H Q hρ hR hp => h2 ρ S σ α G H _ hρ hR (post_bind hp fun d S1 α1 G1 H1 v _ e1 R1 r1 hp1 => ?_)⟩
  cases d <;> try exact hp1.elim
  rename_i c fs _
  simp only [isX] at hp1
  cases hl : tab.lookup c with
  | none => simp only [hl] at hp1; exact hp1.elim
  | some b =>
    simp only [hl] at hp1
    refine ⟨sz (by simp), fun tp htp => ?_⟩
    obtain ⟨R2, e2⟩ := R1.out htp (.tup [cv, cv2, cv3])
    obtain ⟨p, rfl, hx⟩ := exn_at R2 (Rep.mono e2.pre e2.sub _ _ r1)
    obtain ⟨T, e⟩ := ht c b hl
    exact ⟨p, cl c, tp, [cv, cv2, cv3], [cw, cw2, cw3], b, rfl, upd_same, .cons hcv (.cons hcv2 (.cons hcv3 .nil)), hx, T, e, hp1 _ _ _ _ e2 R2 (by simp [Rep])⟩
end
@[simp] theorem ap_isX (tab : List (Nat × Bool)) (m : ME) (ρ : Env) (S : Store) : mIsX tab m ρ S = (m ρ S).bind (isX tab) := rfl
theorem isX_exn (tab : List (Nat × Bool)) (c : Nat) (fs : List D) (S : Store) {b : Bool} (h : tab.lookup c = some b) : isX tab (.exn c fs) S = .ok (.bl b) S := by
  unfold isX
  simp only [h]
@[simp] theorem isNon_exn (c : Nat) (fs : List D) : isNon (.exn c fs) = false := (Eq.refl _).trans rfl
@[simp] theorem pureD_exn (c : Nat) (fs : List D) : pureD (.exn c fs) = pureL fs := (Eq.refl _).trans rfl
/-- a table's answers, one by one -/
theorem tab_nil {P : Nat → Bool → Prop} : ∀ c b, ([] : List (Nat × Bool)).lookup c = some b → P c b := fun _ _ h => nomatch h
theorem tab_cons {P : Nat → Bool → Prop} {c : Nat} {b : Bool} {r : List (Nat × Bool)} (h : P c b) (k : ∀ c' b', r.lookup c' = some b' → P c' b') : ∀ c' b', ((c, b) :: r).lookup c' = some b' → P c' b' := fun c' b' e => by
  rw [List.lookup_cons] at e
  split at e
  · rename_i q
    have := eq_of_beq q
    subst this
    cases e
    exact h
  · exact k c' b' e
end Q
namespace Q
open PySem L2 PySem.Spec PyProof.Rows
section
variable {X : Cx} {cl : Nat → Addr} {E : XK} {e : Expr} {m : ME} {pos : Pos}
def ipM : TIp := fun x y H Q => ∃ i j, x = .int i ∧ y = .int j ∧ CMul i j ∧ Q (.int (i * j)) H
theorem ip_mulM : PIp X .Mult ipM := by
  intro pins s σ H x y v u Q I r1 r2 h
  obtain ⟨i, j, e1, e2, hc, q⟩ := h
  subst e1; subst e2
  obtain ⟨t, rfl⟩ := r1
  obtain ⟨t', rfl⟩ := r2
  exact imul_int ⟨.int _, H, I.tok _, ⟨_, rfl⟩, q⟩ hc.ok
/-- x *= e, ints, x not great -/
def mAugM (i : Nat) (m : ME) : MS := fun ρ S => match ρ[i]? with
  | some (some (.int x)) => (m ρ S).bind fun d S1 => match d with
    | .int y => if x.natAbs < 2 ^ 64 then .ok (.nx (ρ.set i (some (.int (x * y))))) S1 else .no
    | _ => .no
  | _ => .no
theorem qs_augM (i : Nat) {x : Str} {px : Pos} (h : QE X cl E e m) (hN : X.N.Nodup) (hi : X.N[i]? = some x := by rfl) (hx : Loc X.env.scope x := by first | exact .inl rfl | exact .inr rfl) (hf : X.fn x = true ∨ X.env.scope.names.lookup x = some .local := by first | exact .inl rfl | exact .inr rfl) :
    QS X cl E (.AugAssign (.Name x px) .Mult e pos) (mAugM i m) := by
  obtain ⟨t, h1, h2⟩ := h.ex
  refine ⟨_, ps_aug hN hi hx h1 ip_mulM hf, fun ρ S σ α G H Dn hρ hR hp => ?_⟩
  unfold mAugM at hp
  split at hp
  · rename_i z q
    obtain ⟨v, hv, rv⟩ := hρ.2 i _ q
    simp only [Rep] at rv
    subst rv
    refine ⟨_, hv, h2 ρ S σ α G H _ hρ hR (posts_bind hp fun d S1 α1 G1 H1 w q1 e1 R1 r1 hp1 => ?_)⟩
    clear q1
    cases d <;> try exact hp1.elim
    rename_i y
    dsimp only at hp1
    split at hp1
    case isFalse => exact hp1.elim
    rename_i hb
    simp only [Rep] at r1
    exact ⟨z, y, rfl, r1, .inl (by omega), hp1 α1 G1 H1 _ (Ext.refl _ _ _) R1 ((hρ.mono e1).set i (by simp [Rep]))⟩
  · exact hp.elim
/-- cell.pop() -/
def popLast (k : Nat) (S : Store) : Res D := match S[k]? with
  | some (.lst xs) => (match xs[xs.length - 1]? with
    | some x => .ok x (S.set k (.lst xs.dropLast))
    | none => .no)
  | _ => .no
def mPop0 (mo : ME) : ME := fun ρ S => (mo ρ S).bind fun o S1 => match o with
  | .ref k => if notOb S1 k = true then popLast k S1 else .no
  | _ => .no
theorem dropLast_rep {Γ : Gm} {α : List Addr} {G : Hp} : ∀ {xs : List D} {vs : List V}, RepL Γ α G xs vs → RepL Γ α G xs.dropLast vs.dropLast := fun {xs vs} h => by
  have := erase_rep (xs.length - 1) h
  have e1 : xs.eraseIdx (xs.length - 1) = xs.dropLast := List.eraseIdx_length_sub_one
  have e2 : vs.eraseIdx (xs.length - 1) = vs.dropLast := by rw [h.length, List.eraseIdx_length_sub_one]
  rw [e1, e2] at this
  exact this
theorem q_pop0 {o : Expr} {mo : ME} {apos cpos : Pos} (ho : QE X cl E o mo) (hbase : attributeBase o "pop" X.env (eval o X.env) = eval o X.env := by rfl)
    (hline : (apos.endLine == cpos.line) = true := by rfl) :
    QE X cl E (.Call (.Attribute o "pop" apos) [] [] cpos) (mPop0 mo) := by
  obtain ⟨t, h1, h2⟩ := ho.ex
  refine ⟨_, pe_bm0 PySem.F.plainAttrs_list PySem.F.slot_list_pop PySem.F.type_list_pop mt_pop h1 hbase hline, fun ρ S σ α G H Q hρ hR hp => ?_⟩
  refine h2 ρ S σ α G H _ hρ hR (post_bind hp fun od S1 α1 G1 H1 ov q1 e1 R1 r1 hp1 => ?_)
  clear q1
  cases od <;> try exact hp1.elim
  rename_i kk
  dsimp only at hp1
  split at hp1
  case isFalse => exact hp1.elim
  rename_i hno
  obtain ⟨p, rfl, ha1, htv⟩ := listy R1 r1 hno
  refine ⟨htv, ?_⟩
  unfold popLast at hp1
  split at hp1
  case h_2 => exact hp1.elim
  rename_i xs hc
  split at hp1
  case h_2 => exact hp1.elim
  rename_i x hx
  obtain ⟨vs, a1, a2, a3⟩ := (R1.ok kk _ p hc ha1).lst
  obtain ⟨y, hy, ry⟩ := a2.get hx
  obtain ⟨R3, e3⟩ := R1.put hc ha1 (dropLast_rep a2)
  rw [a2.length] at hy
  exact ⟨p, vs, y, rfl, rfl, a1, hy, hp1 _ _ _ y e3 R3 (Rep.mono e3.pre e3.sub _ _ ry)⟩
end
/-- list * int: a new cell -/
def opRepC : D → D → Store → Res D := fun a b S => match lstOf S a, b with
  | some xs, .int k => if (-100000 ≤ k ∧ k ≤ 100000) ∧ xs.length * k.toNat ≤ 100000 then .ok (.ref S.length) (S ++ [.lst (List.replicate k.toNat xs).flatten]) else .no
  | _, _ => .no
theorem repC {X : Cx} {cl : Nat → Addr} {E : XK} : QR X cl E (binaryOp .Mult) opRepC := by
  refine ⟨_, op_rep, fun a b S α G H x y Q hR ra rb h => ?_⟩
  unfold opRepC at h
  cases h1 : lstOf S a with
  | none => simp [h1, Post] at h
  | some xs =>
    cases b <;> simp only [h1] at h <;> try exact h.elim
    rename_i k
    split at h
    · rename_i hs
      obtain ⟨p, vs, rfl, q1, r1⟩ := lstOf_at hR ra h1
      simp only [Rep] at rb
      refine ⟨p, k, vs, rfl, rb, q1, ?_, ?_, by rw [← r1.length]; exact sz hs.2, fun z hz => post_cell hR (r1.flat _) h hz⟩
      · have : (100000 : Int) < 2 ^ 63 := by decide
        omega
      · have : (100000 : Int) < 2 ^ 63 := by decide
        omega
    · exact h.elim
section
variable {ρ : Env} {S : Store}
theorem repC_one (x : D) {n : Nat} (h : n ≤ 100000) : opRepC (.lst [x]) (.int (n : Nat)) S = .ok (.ref S.length) (S ++ [.lst (List.replicate n x)]) := by
  have e : (List.replicate n [x]).flatten = List.replicate n x := by
    induction n with
    | zero => rfl
    | succ n ih => rw [List.replicate_succ, List.flatten_cons, ih (by omega), List.replicate_succ]; rfl
  show (if (-100000 ≤ ((n : Nat) : Int) ∧ ((n : Nat) : Int) ≤ 100000) ∧ [x].length * ((n : Nat) : Int).toNat ≤ 100000 then Res.ok (D.ref S.length) (S ++ [Cell.lst (List.replicate ((n : Nat) : Int).toNat [x]).flatten]) else .no) = _
  rw [if_pos ⟨by omega, by simp; omega⟩, Int.toNat_natCast, e]
def augMK (i : Nat) (ρ : Env) (x : Int) (d : D) (S : Store) : Res Fl := match d with
  | .int y => if x.natAbs < 2 ^ 64 then .ok (.nx (ρ.set i (some (.int (x * y))))) S else .no
  | _ => .no
@[simp] theorem augMK_int (i : Nat) (x y : Int) (h : x.natAbs < 2 ^ 64) : augMK i ρ x (.int y) S = .ok (.nx (ρ.set i (some (.int (x * y))))) S := by
  show (if x.natAbs < 2 ^ 64 then _ else _) = _
  rw [if_pos h]
theorem ap_augM {i : Nat} {m : ME} {x : Int} (h : ρ[i]? = some (some (.int x))) : mAugM i m ρ S = (m ρ S).bind (augMK i ρ x) := by
  unfold mAugM
  rw [h]
  rfl
def pop0K (o : D) (S : Store) : Res D := match o with
  | .ref k => if notOb S k = true then popLast k S else .no
  | _ => .no
@[simp] theorem ap_pop0 (mo : ME) : mPop0 mo ρ S = (mo ρ S).bind pop0K := (Eq.refl _).trans rfl
theorem pop0K_ref {k : Nat} {xs : List D} {x : D} (h : S[k]? = some (.lst (xs ++ [x]))) : pop0K (.ref k) S = .ok x (S.set k (.lst xs)) := by
  show (if notOb S k = true then _ else _) = _
  rw [if_pos (notOb_lst h)]
  unfold popLast
  rw [h]
  have e : (xs ++ [x])[(xs ++ [x]).length - 1]? = some x := by simp
  simp only [e, List.dropLast_concat]
end
end Q
namespace L2
open PySem PySem.Spec PyProof.Rows
section
variable {P : Program} {w : World} {A : Around} {E : Value → Shared → Prop} {s : Shared}
abbrev walkerT (l : Addr) : Obj := { cls := .type "tuple_iterator", data := .fields #[.ref l, .int 0 0] }
/-- what filling a set from a tuple of tuples leaves -/
def FilledT (P : Program) (w : World) (s : Shared) (ks : List (Addr × List Int)) (s' : Shared) : Prop := ∃ h' tk L es ep t, s' = { s with heap := h', toks := tk } ∧ SetTR P w h' s.heap.objs.size L es ep t ∧ Got ks ks.length L ∧ ∀ b o, s.heap.get? b = some o → h'.get? b = some o
theorem fill_tups {l : Addr} {xs : Array Value} {ks : List (Addr × List Int)} (hh : A.handled = none) (hu : A.units + 4 < cLine) (hl : s.heap.IsTuple l xs) (hi : xs.toList = ks.map fun p => Value.ref p.1) (hk : ∀ p ∈ ks, IsT P w s.heap p.2 p.1) (hb : ks.length < 64) :
    codeAny (model P w) A (.call (.builtin "set.__init__") ⟨[.ref s.heap.objs.size, .ref l], []⟩) (wants (fun r s₂ => r = .none ∧ FilledT P w s ks s₂) E) { s with heap := s.heap.push (bare w) } := by
  have len : xs.size = ks.length := by
    have q := congrArg List.length hi
    simpa using q
  obtain ⟨o, ho, hc, k, hd⟩ := hl
  obtain ⟨oc, odi, oda, osl⟩ := o
  simp only at hc hd
  subst hc hd
  have lt0 : l < s.heap.objs.size := Heap.lt_size ho
  have sz : (s.heap.push (bare w)).objs.size = s.heap.objs.size + 1 := Heap.size_push ..
  have at_ : (s.heap.push (bare w)).get? l = some { cls := .type "tuple", dict := odi, data := .seq xs k, slots := osl } := Heap.get?_push_of_some _ ho
  have isl : (s.heap.push (bare w)).IsTuple l xs := ⟨_, at_, rfl, k, rfl⟩
  have ty : Shared.TypeIs { s with heap := s.heap.push (bare w) } (.ref s.heap.objs.size) "set" := ⟨_, Heap.get?_push_size _ rfl, rfl⟩
  refine codeAny_call_builtin F.called_set.init.plain F.entry_set_init (check_set_init_1 ty ?_)
  have f1 := F.sub_tuple_set
  have f2 := F.sub_tuple_frozenset
  have f3 : (Value.type "tuple" == Value.type "dict") = false := by decide
  unfold Builtin.«set.__init__» noKeywords Builtin.Frozenset.updateFrom
  generalize hit : pyIter = it
  wp_walk
  subst hit
  refine wpAny_pyIter_tuple isl (wpAny_bind (wpAny_runValue ?_))
  have away : l ≠ (s.heap.push (bare w)).objs.size := by rw [sz]; exact Nat.ne_of_lt (Nat.lt_succ_of_lt lt0)
  have away2 : s.heap.objs.size ∉ [(s.heap.push (bare w)).objs.size, l] := by simp [sz]; exact Nat.ne_of_gt lt0
  have val : ∀ (i : Nat) (v : Value), xs[i]? = some v → ∃ p, ks[i]? = some p ∧ v = .ref p.1 := fun i v hv => by
    have q : xs.toList[i]? = some v := by rw [Array.getElem?_toList]; exact hv
    rw [hi, List.getElem?_map] at q
    obtain ⟨p, hp, e⟩ := Option.map_eq_some_iff.mp q
    exact ⟨p, hp, e.symm⟩
  have free : ∀ b, s.heap.objs.size ≤ b → s.heap.get? b = none := fun b hb => by
    cases q : s.heap.get? b with
    | none => rfl
    | some o => exact absurd (Heap.lt_size q) (Nat.not_lt.mpr hb)
  have g0 : ((s.heap.push (bare w)).push (walkerT l)).get? s.heap.objs.size = some (bare w) := Heap.get?_push_of_some _ (Heap.get?_push_size _ rfl)
  refine set_update_tups ((Walks.tuple (by simp [hh]) _ l away xs).toS) s.heap.objs.size away2 ks len hb val s.heap hk (free _ (Nat.le_refl _)) (fun b hb => free b (by rw [List.mem_singleton.mp hb, sz]; exact Nat.le_succ _)) (by simp; omega)
    (xs.size - 0) 0 _ (by omega) (Nat.zero_le _) ⟨⟨_, Heap.get?_push_size _ rfl, rfl, rfl⟩, isl.push _⟩ (fun b o e => Heap.get?_push_of_some _ (Heap.get?_push_of_some _ e)) ⟨[], #[], 0, _, setTR_fresh g0, Got.zero ks⟩ fun s' L es ep t hm hs hg keep => ?_
  obtain ⟨h', g', d', tk', os'⟩ := s'
  obtain rfl : g' = s.gens := hm.gens
  obtain rfl : d' = s.drawn := hm.drawn
  obtain rfl : os' = s.os := hm.os
  show wpAny _ _ _ _ _ _
  refine wpAny_pure ?_
  show wpAny _ _ (ret Value.none) _ _ _
  rw [len] at hg
  exact wpAny_pure ⟨rfl, h', tk', L, es, ep, t, rfl, hs, hg, keep⟩
theorem set_ofTT {l : Addr} {xs : Array Value} {ks : List (Addr × List Int)} {Q : Value → Shared → Prop} (hh : A.handled = none) (hu : A.units + 64 < cLine) (hl : s.heap.IsTuple l xs) (hi : xs.toList = ks.map fun p => Value.ref p.1) (hk : ∀ p ∈ ks, IsT P w s.heap p.2 p.1) (hb : ks.length < 64) (q : ∀ s', FilledT P w s ks s' → Q (.ref s.heap.objs.size) s') :
    wpAny (model P w) A (call (.type "set") [.ref l]) Q E s := by
  obtain ⟨c, tl, mro⟩ := F.called_set.mro
  have m1 := F.called_set.made
  have m2 := F.called_set.sub
  have m3 := F.called_set.notType
  have m4 := F.called_set.canCreate
  have m5 := F.typeCall_set_1 (.ref l)
  refine wpAny_call (codeAny_of_tree ?_)
  show wpAny _ _ (callAny (.type "set") _) _ _ _
  refine wpAny_pure ⟨Code.quiet_builtin _ (by decide +kernel), codeAny_builtin F.entry_type_call ?_⟩
  rw [Around.under_plain (weight_type_call_type "set" [.ref l] []) rfl]
  repeat (any_goals (first | assumption | wp_step))
  refine codeAny_mono (code_set_led1 (.ref l) (E := E) (Q₁ := fun o t => o = .ref s.heap.objs.size ∧ t = { s with heap := s.heap.push (bare w) }) ⟨rfl, rfl⟩) fun r t hr => ?_
  cases r with
  | error e => exact hr
  | ok fl =>
    cases fl with
    | ret obj =>
      obtain ⟨rfl, rfl⟩ := hr
      have i1 := F.called_set.init.lookup
      have i2 := F.called_set.init.bind (.ref s.heap.objs.size)
      have is : Shared.TypeIs { s with heap := s.heap.push (bare w) } (.ref s.heap.objs.size) "set" := ⟨_, Heap.get?_push_size _ rfl, rfl⟩
      repeat (any_goals (first | assumption | wp_step))
      refine codeAny_mono (fill_tups (P := P) (E := E) (by simp [hh]) (by simp; omega) hl hi hk hb) fun r2 s2 hr2 => ?_
      cases r2 with
      | error e => exact hr2
      | ok fl2 =>
        cases fl2 with
        | ret r =>
          obtain ⟨rfl, hf⟩ := hr2
          repeat (any_goals (first | assumption | wp_step))
          exact q _ hf
        | _ => exact hr2.elim
    | _ => exact hr.elim
end
section
variable {X : Cx}
/-- set(xs), xs a tuple of tuples of ints -/
def rSetOfTT (K : PySem.W.Frag) (P : Program) (w : World) : List V → Hp → VK → Prop := fun xs H Q => ∃ (l : Addr) (ks : List (Addr × List Int)), xs = [V.ref l] ∧ SqT K H l (ks.map fun p => V.ref p.1) ∧ (∀ p ∈ ks, SqT K H p.1 (p.2.map V.int)) ∧ ks.length < 64 ∧
  ∀ a L, H a = none → (∀ p ∈ L, p ∈ ks) → (∀ p ∈ ks, p.2 ∈ L.map (·.2)) → Q (.ref a) (upd H a (SetTO P w a L))
theorem cr_setTT (hc : X.calm = true) (hu : X.A.units + 64 < cLine) : CallR X (.type "set") (rSetOfTT X.K X.prog X.w) := by
  intro pins s σ H vs us Q I r h
  obtain ⟨l, ks, rfl, hl, hk, hb, q⟩ := h
  obtain ⟨its, rv, pl, hz⟩ := I.tuple hl
  rw [Vals.ref1 r]
  refine set_ofTT (P := X.prog) (w := X.w) (ks := ks) (I.ok.hd hc) hu (show s.heap.IsTuple l its.toArray from pl) (by simpa using refs_of_vals rv) (fun p hp => I.isT (hk p hp)) hb fun s' hf => ?_
  obtain ⟨h', tk, L, es, ep, t, rfl, hs, hg, keep⟩ := hf
  exact ⟨.ref _, upd H s.heap.objs.size (SetTO X.prog X.w s.heap.objs.size L), I.laid (t' := tk) keep (Nat.le_refl _) (setTO_new hs.t0), rfl, q _ L (I.hok.fresh (Nat.le_refl _)) (fun p hp => List.mem_of_mem_take (hg.sub p hp)) fun p hp => hg.all p (by rw [List.take_length]; exact hp)⟩
end
end L2
namespace Q
open PySem L2
/-- as ssK, of a tuple of pairs -/
def ssKT (d : D) (S : Store) : Res D := match d with
  | .tup xs => match pairsOf xs with
    | some ps => if ps.length < 64 then .ok (.lst ((sortU ps).map pairD)) S else .no
    | none => .no
  | _ => .no
def mSortSetT (m : ME) : ME := fun ρ S => (m ρ S).bind ssKT
section
variable {X : Cx} {cl : Nat → Addr} {E : XK} {e : Expr} {m : ME} {pos : Pos}
/-- a tuple of pairs lies as a list of such does -/
theorem ss_pairsT {xs : List D} {ps : List (Int × Int)} {v : V} {α1 : List Addr} {G1 H1 : Hp} {S1 : Store} {Q Q2 : VK} (R1 : Rl ⟨X.K, cl⟩ α1 G1 S1 H1) (r1 : Rep ⟨X.K, cl⟩ α1 G1 (.tup xs) v) (q : pairsOf xs = some ps) (hl : ps.length < 64)
    (hp1 : Post ⟨X.K, cl⟩ (Rep ⟨X.K, cl⟩) α1 G1 H1 (.ok (.lst ((sortU ps).map pairD)) S1) Q E) (hQ : ∀ x H2, rSortedT X.K X.prog X.w [x] H2 Q → Q2 x H2) : rSetOfTT X.K X.prog X.w [v] H1 Q2 := by
  unfold Rep at r1
  obtain ⟨l, vs, rfl, s1, t1⟩ := r1
  obtain ⟨ks, rfl, k1, k2, k3⟩ := pairs_at xs ps vs q t1
  have hlen : ks.length = ps.length := by have := congrArg List.length k2; simpa using this
  have two : ∀ p ∈ ks, ∃ i j, p.2 = [i, j] ∧ (i, j) ∈ ps := fun p hp => by
    have : p.2 ∈ ps.map (fun p => [p.1, p.2]) := by rw [← k2]; exact List.mem_map.mpr ⟨p, hp, rfl⟩
    obtain ⟨u, hu, e⟩ := List.mem_map.mp this
    exact ⟨u.1, u.2, e.symm, hu⟩
  refine ⟨l, ks, rfl, R1.sub.sqT (.inl (.inl s1)), fun p hp => .inl (.inl (R1.sub _ _ (k1 p hp))), by rw [hlen]; exact hl, fun a L ha hL hL2 => ?_⟩
  obtain ⟨R2, e2⟩ := R1.new ha (SetTO X.prog X.w a L)
  refine hQ _ _ ?_
  refine ⟨a, L, 2, lim, rfl, upd_same, fun p hp => .inl (.inl (R2.sub _ _ (e2.sub _ _ (k1 p (hL p hp))))), by decide, fun p hp => ?_, fun L' b pm nd hf pw hb => ?_⟩
  · obtain ⟨i, j, e, hm⟩ := two p (hL p hp)
    have b := k3 _ hm
    refine ⟨by rw [e]; rfl, fun z hz => ?_⟩
    rw [e] at hz
    simp at hz
    rcases hz with rfl | rfl
    · exact b.1
    · exact b.2
  · have two' : ∀ p ∈ L', ∃ i j, p.2 = [i, j] ∧ (i, j) ∈ ps := fun p hp => two p (hL p (pm.subset hp))
    have eM : (L'.map fun p => pk p.2) = sortU ps := by
      refine up_uniq _ _ ?_ (sortU_up ps) fun z => ?_
      · rw [List.pairwise_map]
        have nd' : L'.Pairwise fun p q => p.2 ≠ q.2 := by
          have := nd
          unfold List.Nodup at this
          rwa [List.pairwise_map] at this
        refine (pw.and nd').imp_of_mem fun {p q} hp hq hpq => ?_
        obtain ⟨i, j, ep, mp⟩ := two' p hp
        obtain ⟨i', j', eq, mq⟩ := two' q hq
        have b := k3 _ mp
        have b' := k3 _ mq
        have c := hpq.1
        have ne := hpq.2
        rw [ep, eq, code2, code2] at c
        rw [ep, eq] at ne ⊢
        show plt (i, j) (i', j')
        unfold plt
        simp only at b b' ⊢
        unfold lim at *
        by_cases e : i = i'
        · by_cases e3 : j = j'
          · exact absurd (by rw [e, e3]) ne
          · right; omega
        · left; omega
      · rw [mem_sortU]
        constructor
        · intro hz
          obtain ⟨p, hp, rfl⟩ := List.mem_map.mp hz
          obtain ⟨i, j, ep, mp⟩ := two' p hp
          rw [ep]
          exact mp
        · intro hz
          have : [z.1, z.2] ∈ ks.map (·.2) := by rw [k2]; exact List.mem_map.mpr ⟨z, hz, rfl⟩
          obtain ⟨p, hp, e⟩ := List.mem_map.mp this
          obtain ⟨p', hp', e'⟩ := List.mem_map.mp (hL2 p hp)
          exact List.mem_map.mpr ⟨p', pm.mem_iff.mpr hp', by rw [e', e]; rfl⟩
    obtain ⟨R3, e3⟩ := R2.new hb (.lst (L'.map fun q => V.ref q.1))
    refine hp1 _ _ _ _ (e2.trans e3) R3 (rep_lst upd_same ?_)
    rw [← eM]
    exact rep_pairs L' (fun p hp => e3.sub _ _ (e2.sub _ _ (k1 p (hL p (pm.subset hp))))) fun p hp => by
      obtain ⟨i, j, e, _⟩ := two' p hp
      exact ⟨i, j, e⟩
theorem q_sortsetT {k : Nat} {p p1 p2 : Pos} (hr : Room k X.A) (h : QE X cl E e m) (hg : Gl X "sorted") (hm : X.mg "sorted" = none) (hg' : Gl X "set") (hm' : X.mg "set" = none) (hc : X.calm = true := by rfl)
    (he : starEach [e] X.env = (false, eval e X.env) :: starEach [] X.env := by rfl)
    (he2 : starEach [.Call (.Name "set" p1) [e] [] p2] X.env = (false, eval (.Call (.Name "set" p1) [e] [] p2) X.env) :: starEach [] X.env := by rfl)
    (hpl : (backTo p2 (starEach [] X.env)).any (·.1) = false := by rfl) (hpl2 : (backTo pos (starEach [] X.env)).any (·.1) = false := by rfl) :
    QE X cl E (.Call (.Name "sorted" p) [.Call (.Name "set" p1) [e] [] p2] [] pos) (mSortSetT m) := by
  obtain ⟨t, h1, h2⟩ := h.ex
  have c1 := pe_callTy (pos := p2) (p := p1) (cr_setTT hc hr.units) hg' hm' (by rfl) (pa_cons h1 pa_nil he) (by decide) (by decide) he hpl
  refine ⟨_, pe_callB (cr_sortedT hc) hg hm (by rfl) (pa_cons c1 pa_nil he2) (by decide) (by decide) he2 hpl2, fun ρ S σ α G H Q hρ hR hp => ?_⟩
  refine h2 ρ S σ α G H _ hρ hR (post_bind hp fun d S1 α1 G1 H1 v _ e1 R1 r1 hp1 => ?_)
  cases d with
  | tup xs =>
    simp only [ssKT] at hp1
    cases q : pairsOf xs with
    | some ps =>
      rw [q] at hp1
      simp only at hp1
      split at hp1
      · rename_i hl
        exact ss_pairsT R1 r1 q hl hp1 fun x H2 z => z
      · exact hp1.elim
    | none =>
      rw [q] at hp1
      exact hp1.elim
  | _ => exact hp1.elim
end
section
variable {S : Store} {ρ : Env}
@[simp] theorem ap_sortsetT (m : ME) : mSortSetT m ρ S = (m ρ S).bind ssKT := (Eq.refl _).trans rfl
theorem ssKT_pairs {ps : List (Int × Int)} (h : ∀ p ∈ ps, (0 ≤ p.1 ∧ p.1 < lim) ∧ 0 ≤ p.2 ∧ p.2 < lim) (hl : ps.length < 64) : ssKT (.tup (ps.map pairD)) S = .ok (.lst ((sortU ps).map pairD)) S := by
  simp only [ssKT, pairsOf_map ps h, hl, if_true]
end
end Q
namespace L2
open PySem PySem.Spec PyProof.Rows PySem.W
section
variable {X : Cx}
abbrev encV (py : _root_.Q.D → PyData) (b : V × _root_.Q.D) : PyData := py b.2
/-- sorted(xs): the items by what they are worth -/
def rSortedA (K : PySem.W.Frag) (py : _root_.Q.D → PyData) : List V → Hp → VK → Prop := fun vs H Q => ∃ (a : Addr) (bs : List (V × _root_.Q.D)), vs = [V.ref a] ∧ SqL K H a (bs.map (·.1)) ∧ (∀ b ∈ bs, Dp K H b.1 (py b.2)) ∧ AllAlike (bs.map (encV py)) ∧ Sortable (bs.map (encV py)) ∧ (∀ b ∈ bs, (py b.2).depth ≤ 20) ∧
  ∀ p, H p = none → Q (.ref p) (upd H p (.lst ((bs.mergeSort (dataLe false (encV py))).map (·.1))))
theorem each_of {R : Value → (V × _root_.Q.D) → Prop} : ∀ {bs : List (V × _root_.Q.D)} {us : List Value}, Vals (bs.map (·.1)) us → (∀ b ∈ bs, ∀ u, RelV b.1 u → R u b) → EachIs R us bs
  | [], _, h, _ => by cases h; exact .nil
  | b :: bs, _, h, k => by
    cases h with
    | cons r rs => exact .cons (k b (List.mem_cons_self ..) _ r) (each_of rs fun b' hb => k b' (List.mem_cons_of_mem _ hb))
theorem vals_each : ∀ {bs : List (V × _root_.Q.D)} {us : List Value}, EachIs (fun u b => RelV b.1 u) us bs → Vals (bs.map (·.1)) us
  | _, _, .nil => .nil
  | _, _, .cons r rs => .cons r (vals_each rs)
theorem cr_sortedA (hu : X.A.units + 64 < cLine) (py : _root_.Q.D → PyData) : CallR X (.builtin "sorted") (rSortedA X.K py) := by
  intro pins s σ H vs us Q I r h
  obtain ⟨a, bs, rfl, hl, hd, hal, hk, hdp, q⟩ := h
  obtain rfl := Vals.ref1 r
  obtain ⟨its, rv, pl, hz⟩ := I.list hl
  have hz2 : bs.length ≤ sizeLine := by
    have := rv.length
    simpa using hz
  refine sorted_data (R := fun u b => RelV b.1 u) (enc := encV py) (bs := bs) (vs := its) (show s.heap.IsList a its.toArray from pl.isList) (each_of rv fun b hb u ru => ru) (each_of rv fun b hb u ru => Dp.reads I _ _ _ (hd b hb) ru) hal hk hz2 (fun b hb => by have := hdp b hb; show X.A.units + 2 + (py b.2).depth < cLine; omega) fun out ho he => ?_
  have rv2 : Vals ((bs.mergeSort (dataLe false (encV py))).map (·.1)) out := vals_each he
  have hlen : ((bs.mergeSort (dataLe false (encV py))).map (·.1)).length ≤ sizeLine := by rw [List.length_map, List.length_mergeSort]; exact hz2
  obtain ⟨ep, he'⟩ := PyProof.Rows.sortedAll_at s.heap its (List.toArray out)
  exact ⟨.ref _, upd H (s.heap.objs.size + 1) (.lst ((bs.mergeSort (dataLe false (encV py))).map (·.1))), I.laid (t' := s.toks) (fun _ _ => PyProof.Rows.sortedAll_old) (Nat.le_succ _) ⟨hlen, _, ep, rv2, he'⟩, rfl, q _ (I.hok.fresh (Nat.le_succ _))⟩
end
end L2
namespace Q
open PySem L2
/-- a tuple with an item at least -/
def rowQ : D → Bool
  | .tup (_ :: _) => true
  | _ => false
/-- rows that can be sorted -/
def okA (xs : List D) : Bool := xs.all fun x => rowQ x && shal 18 x && xs.all fun y => PySem.W.alike (toPy x) (toPy y)
def sortA (xs : List D) : List D := xs.mergeSort (PySem.W.dataLe false toPy)
def skA (d : D) (S : Store) : Res D := match rdL S d with
  | some xs => if okA xs = true then .ok (.lst (sortA xs)) S else .no
  | none => .no
def mSortA (m : ME) : ME := fun ρ S => (m ρ S).bind skA
theorem sortA_perm (xs : List D) : (sortA xs).Perm xs := List.mergeSort_perm _ _
/-- sorting pairs by what stands second sorts what stands second -/
theorem mergeSort_snd {V : Type} (le : D → D → Bool) (bs : List (V × D)) : ((bs.mergeSort fun a b => le a.2 b.2).map (·.2)) = (bs.map (·.2)).mergeSort le := List.map_mergeSort (fun _ _ _ _ => rfl)
theorem repL_zip {Γ : Gm} {α : List Addr} {G : Hp} : ∀ {xs : List D} {vs : List V}, RepL Γ α G xs vs → (vs.zip xs).map (·.1) = vs ∧ (vs.zip xs).map (·.2) = xs ∧ ∀ b ∈ vs.zip xs, Rep Γ α G b.2 b.1
  | [], vs, h => by
    unfold RepL at h
    subst h
    exact ⟨rfl, rfl, fun b hb => by cases hb⟩
  | x :: xs, vs, h => by
    unfold RepL at h
    obtain ⟨v, w, rfl, h1, h2⟩ := h
    obtain ⟨e1, e2, h3⟩ := repL_zip h2
    refine ⟨by rw [List.zip_cons_cons, List.map_cons, e1], by rw [List.zip_cons_cons, List.map_cons, e2], fun b hb => ?_⟩
    rw [List.zip_cons_cons] at hb
    rcases List.mem_cons.mp hb with rfl | m
    · exact h1
    · exact h3 b m
theorem repL_pairs {Γ : Gm} {α : List Addr} {G : Hp} : ∀ {bs : List (V × D)}, (∀ b ∈ bs, Rep Γ α G b.2 b.1) → RepL Γ α G (bs.map (·.2)) (bs.map (·.1))
  | [], _ => by simp [RepL]
  | b :: bs, h => by
    rw [List.map_cons, List.map_cons]
    unfold RepL
    exact ⟨_, _, rfl, h b (List.mem_cons_self ..), repL_pairs fun c hc => h c (List.mem_cons_of_mem _ hc)⟩
section
variable {X : Cx} {cl : Nat → Addr} {E : XK} {e : Expr} {m : ME} {pos : Pos}
theorem q_sortA {k : Nat} {p : Pos} (hr : Room k X.A) (h : QE X cl E e m) (hg : Gl X "sorted") (hm : X.mg "sorted" = none)
    (he0 : starEach [e] X.env = (false, eval e X.env) :: starEach [] X.env := by rfl) (hpl : (backTo pos (starEach [] X.env)).any (·.1) = false := by rfl) :
    QE X cl E (.Call (.Name "sorted" p) [e] [] pos) (mSortA m) := by
  obtain ⟨t, h1, h2⟩ := h.ex
  refine ⟨_, pe_callB (cr_sortedA hr.units toPy) hg hm rfl (pa_cons h1 pa_nil he0) (by decide) (by decide) he0 hpl, fun ρ S σ α G H Q hρ hR hp => ?_⟩
  refine h2 ρ S σ α G H _ hρ hR (post_bind hp fun d S1 α1 G1 H1 v _ e1 R1 r1 hp1 => ?_)
  unfold skA at hp1
  cases hx : rdL S1 d with
  | none => rw [hx] at hp1; exact hp1.elim
  | some xs =>
    rw [hx] at hp1
    simp only at hp1
    split at hp1
    case isFalse => exact hp1.elim
    rename_i hok
    obtain ⟨a, vs, rfl, hs, rL⟩ := rdL_at R1 r1 hx
    obtain ⟨z1, z2, z3⟩ := repL_zip rL
    have hok' := List.all_eq_true.mp hok
    have mem : ∀ b ∈ vs.zip xs, b.2 ∈ xs := fun b hb => by rw [← z2]; exact List.mem_map.mpr ⟨b, hb, rfl⟩
    have ok1 : ∀ x ∈ xs, rowQ x = true ∧ shal 18 x = true ∧ ∀ y ∈ xs, PySem.W.alike (toPy x) (toPy y) = true := fun x hx => by
      have := hok' x hx
      simp only [Bool.and_eq_true] at this
      exact ⟨this.1.1, this.1.2, List.all_eq_true.mp this.2⟩
    refine ⟨a, vs.zip xs, rfl, by rw [z1]; exact hs, fun b hb => rep_dp R1.sub 18 b.2 b.1 (ok1 _ (mem b hb)).2.1 (z3 b hb), ?_, ?_, fun b hb => by have := (shal_lay 18 b.2 (ok1 _ (mem b hb)).2.1).2; omega, fun q hq => ?_⟩
    · intro x hx y hy
      obtain ⟨b, hb, rfl⟩ := List.mem_map.mp hx
      obtain ⟨c, hc, rfl⟩ := List.mem_map.mp hy
      exact (ok1 _ (mem b hb)).2.2 _ (mem c hc)
    · refine .inl fun x hx => ?_
      obtain ⟨b, hb, rfl⟩ := List.mem_map.mp hx
      have := (ok1 _ (mem b hb)).1
      show ∃ y r, toPy b.2 = .tuple (y :: r)
      generalize b.2 = d at *
      cases d with
      | tup ys =>
        cases ys with
        | nil => cases this
        | cons y r => exact ⟨_, _, rfl⟩
      | _ => cases this
    · have es : ((vs.zip xs).mergeSort (PySem.W.dataLe false (encV toPy))).map (·.2) = sortA xs := by
        have := mergeSort_snd (PySem.W.dataLe false toPy) (vs.zip xs)
        rw [z2] at this
        exact this
      refine post_lst R1 ?_ hp1 hq
      rw [← es]
      exact repL_pairs fun b hb => z3 b ((List.mergeSort_perm _ _).mem_iff.mp hb)
end
section
variable {S : Store} {ρ : Env}
@[simp] theorem ap_sortA (m : ME) : mSortA m ρ S = (m ρ S).bind skA := (Eq.refl _).trans rfl
theorem skA_ok {d : D} {xs : List D} (h : rdL S d = some xs) (hk : okA xs = true) : skA d S = .ok (.lst (sortA xs)) S := by
  unfold skA
  simp only [h, hk, if_true]
end
end Q
namespace L2
open PySem PySem.Spec PyProof.Rows PySem.W
theorem minOf_spec : ∀ (xs : List Int) (x : Int), minOf x xs ∈ x :: xs ∧ ∀ y ∈ x :: xs, minOf x xs ≤ y
  | [], x => ⟨List.mem_cons_self .., fun y hy => by rw [List.mem_singleton.mp hy]; exact Int.le_refl _⟩
  | z :: xs, x => by
    have e : minOf x (z :: xs) = minOf (if DatumOrd.lt z x = true then z else x) xs := rfl
    obtain ⟨h1, h2⟩ := minOf_spec xs (if DatumOrd.lt z x = true then z else x)
    have el : DatumOrd.lt z x = decide (z < x) := rfl
    rw [e]
    rw [el] at h1 h2 ⊢
    by_cases c : z < x
    · rw [decide_eq_true c, if_pos rfl] at h1 h2 ⊢
      exact ⟨List.mem_cons_of_mem _ h1, fun y hy => by
        rcases List.mem_cons.mp hy with rfl | hy
        · have := h2 z (List.mem_cons_self ..)
          omega
        · exact h2 y hy⟩
    · rw [decide_eq_false c, if_neg (by decide)] at h1 h2 ⊢
      refine ⟨?_, fun y hy => ?_⟩
      · rcases List.mem_cons.mp h1 with g | g
        · rw [g]; exact List.mem_cons_self ..
        · exact List.mem_cons_of_mem _ (List.mem_cons_of_mem _ g)
      · have h0 := h2 x (List.mem_cons_self ..)
        rcases List.mem_cons.mp hy with rfl | hy
        · exact h0
        · rcases List.mem_cons.mp hy with rfl | hy
          · omega
          · exact h2 y (List.mem_cons_of_mem _ hy)
section
variable {X : Cx}
def rMinT (K : PySem.W.Frag) : List V → Hp → VK → Prop := fun vs H Q => ∃ (a : Addr) (x : Int) (xs : List Int), vs = [V.ref a] ∧ SqT K H a ((x :: xs).map V.int) ∧ Q (.int (minOf x xs)) H
theorem cr_minT (hc : X.calm = true) (hu : X.A.units + 64 < cLine) : CallR X (.builtin "min") (rMinT X.K) := by
  intro pins s σ H vs us Q I r h
  obtain ⟨a, x, xs, rfl, hl, q⟩ := h
  obtain rfl := Vals.ref1 r
  obtain ⟨its, rv, pl, hz⟩ := I.tuple hl
  have hi : IntsAre its (x :: xs) := ints_of_vals rv
  refine min_tuple_datum (α := Int) (x := x) (xs := xs) (I.ok.hd hc) (show s.heap.IsTuple a its.toArray from pl) (by simpa using HoldAll.of_ints hi) (by show X.A.units + 1 + 0 < cLine; omega) fun i v h' tk _ hv keep => ?_
  obtain ⟨t, rfl⟩ := int_of_holds hv
  exact ⟨.int (minOf x xs), H, I.kept (t' := tk) keep, ⟨t, rfl⟩, q⟩
end
end L2
namespace Q
open PySem L2
def minTK (d : D) (S : Store) : Res D := match d with
  | .tup xs => match intsQ xs with
    | some (x :: ns) => .ok (.int (minI (x :: ns))) S
    | _ => .no
  | _ => .no
def fMinT := un1 minTK
theorem minOf_minI (x : Int) (ns : List Int) : PySem.W.minOf x ns = minI (x :: ns) := by
  obtain ⟨h1, h2⟩ := L2.minOf_spec ns x
  have a := minI_le h1
  have b := h2 _ (minI_mem (ns := x :: ns) (by simp))
  omega
section
variable {X : Cx} {cl : Nat → Addr} {E : XK}
theorem minTQ {k : Nat} (hr : Room k X.A) (hc : X.calm = true := by rfl) : QC X cl E (.builtin "min") fMinT := ⟨_, cr_minT hc hr.units, snd_un1 fun d S α G H v Q hR rv h => by
  cases d with
  | tup xs =>
    simp only [minTK] at h
    cases q : intsQ xs with
    | none => rw [q] at h; exact h.elim
    | some ns =>
      rw [q] at h
      cases ns with
      | nil => exact h.elim
      | cons x ns =>
        simp only at h
        have e := intsQ_map q
        subst e
        unfold Rep at rv
        obtain ⟨a, vs, rfl, s1, t1⟩ := rv
        have ev := ints_vals t1
        subst ev
        refine ⟨a, x, ns, rfl, hR.sub.sqT (.inl (.inl s1)), ?_⟩
        rw [minOf_minI]
        exact post_ok h hR (by simp [Rep])
  | _ => exact h.elim⟩
end
section
variable {S : Store}
theorem minT_ints {x : Int} {ns : List Int} : fMinT [.tup ((x :: ns).map .int)] S = .ok (.int (minI (x :: ns))) S := by
  unfold fMinT un1 minTK
  simp only [intsQ_ints]
end
end Q
namespace Q
open PySem L2
section
open PySem.W PySem.Calls PyProof.Rows
variable {prog : Program} {w : World} {A : Around} {E : Value → Shared → Prop} {s : Shared} {K : Frag} {x C L f g : Addr} {h₀ : Heap} {m : Str → Option Value} {ox : Obj} {od : Option Obj} {i : Int} {t : Tok}
/-- what a class with * must have -/
structure MulC (K : Frag) (C f g : Addr) : Prop where
  self : selfFirst K C = true
  mul : findIn K (.ref C) (dunder "mul") = some (some (.ref f))
  rmul : findIn K (.ref C) (dunderR "mul") = some (some (.ref g))
  fnf : isFn K (.ref f) = true
  fng : isFn K (.ref g) = true
  noint : subIn K (.ref C) (.type "int") = some false
/-- int.__mul__ with an instance -/
theorem int_mul_inst (X : K.In s.heap) (I : InstAt s.heap x ox C od) (hd : ∀ v, ox.data ≠ .prim v) {Q : Option Value → Shared → Prop} (hq : Q none s) :
    wpAny (model prog w) A (tryMethod (.int i t) (dunder "mul") (.ref x)) Q E s := by
  have sl := PySem.F.slot_int_mul
  have e1 := sl.lookup
  have e2 := sl.bind (.int i t)
  unfold tryMethod callSpecial? specialOf
  simp only [typeOf]
  refine wpAny_bind (wpAny_bind (wpAny_bind (wpAny_pure ?_)))
  rw [e1]
  refine wpAny_pure ?_
  simp only
  refine wpAny_holding (wpAny_bind ?_)
  rw [e2]
  refine wpAny_pure ?_
  simp only
  refine wpAny_bind ?_
  have ti : Shared.TypeIs s (.int i t) "int" := rfl
  refine wpAny_call (codeAny_call_builtin sl.plain PySem.F.entry_int_mul (sl.check _ _ _ _ _ _ _ _ ti (PySem.F.args_int_mul_2 _ _) ?_))
  have fin : wpAny (model prog w) A.in1 (Builtin.Int.intOfSelf (.int i t)) (fun r s' => r = i ∧ s' = s) (fun _ _ => False) s := by
    unfold Builtin.Int.intOfSelf asInt?
    exact wpAny_bind (wpAny_pure (wpAny_pure ⟨rfl, rfl⟩))
  have as : wpAny (model prog w) A.in1 (asInt? (.ref x)) (fun r s' => r = none ∧ s' = s) (fun _ _ => False) s := by
    unfold asInt?
    refine wpAny_bind (wpAny_load I.at_ ?_)
    split
    · rename_i i' t' e
      exact (hd _ e).elim
    · exact wpAny_pure ⟨rfl, rfl⟩
  unfold Builtin.«int.__mul__» Builtin.Int.intBinary slotArgs
  refine wpAny_bind ?_
  simp only [List.isEmpty_nil, Bool.not_true, Bool.false_eq_true, if_false, List.length_cons, List.length_nil]
  show wpAny _ _ (pure (Value.int i t, [Value.ref x])) _ _ _
  refine wpAny_pure (wpAny_bind (wpAny_mono fin (fun r s' z => ?_) fun _ _ z => z.elim))
  obtain ⟨rfl, rfl⟩ := z
  refine wpAny_bind (wpAny_mono as (fun r s' z => ?_) fun _ _ z => z.elim)
  obtain ⟨rfl, rfl⟩ := z
  simp only
  repeat (any_goals (first | assumption | wp_step))
/-- int * o by the class's own __rmul__ -/
theorem rmul_K (F : Fr h₀ L s.heap m) (X₀ : K.In h₀) (I : InstAt s.heap x ox C od) (hd : ∀ v, ox.data ≠ .prim v) (c : MulC K C f g) {Q : Value → Shared → Prop}
    (h : wpAny (model prog w) A (call (.ref g) [.ref x, .int i t]) (W.CmpBack Q) E s) : wpAny (model prog w) A (binaryOp .Mult (.int i t) (.ref x)) Q E s := by
  have X := X₀.keeps F.keep
  obtain ⟨cd, rest, k1, k2⟩ := ksp_first c.self
  have fl : Looks (model prog w) s.heap (fillsNumberSlot (.ref C) "mul") true := fills_K X k1 k2 c.mul
  have fi := PySem.F.fills_int_mul
  have one : wpAny (model prog w) A (binaryOp1 "mul" (.int i t) (.ref x)) (fun r s' => ∃ v, r = some v ∧ Q v s') E s := by
    unfold binaryOp1
    simp only [typeOf]
    refine wpAny_bind (wpAny_pure (wpAny_bind (I.type.here ?_)))
    rw [fi]
    refine wpAny_bind (wpAny_pure ?_)
    have e1 : (Value.type "int" == Value.ref C) = false := rfl
    simp only [e1, Bool.false_eq_true, if_false]
    refine wpAny_bind (fl.here ?_)
    simp only [Bool.and_self, if_true]
    refine wpAny_bind ((looks_subIn X (show subIn K (.ref C) (.type "int") = some false from c.noint)).here ?_)
    simp only [Bool.false_eq_true, if_false, Bool.not_false, Bool.and_self, if_true]
    refine wpAny_bind (wpAny_pure ?_)
    simp only [Bool.false_eq_true, if_false]
    refine wpAny_bind (int_mul_inst X I hd ?_)
    simp only
    refine wpAny_bind (wpAny_mono (ksp_try X I c.rmul c.fng h) (fun r s' z => ?_) fun _ _ z => z)
    obtain ⟨v, rfl, hq⟩ := z
    simp only
    repeat (any_goals (first | exact ⟨_, rfl, hq⟩ | wp_step))
  unfold binaryOp
  refine wpAny_holding ?_
  show wpAny _ _ (binaryOp1 "mul" _ _ >>= _) _ _ _
  refine wpAny_bind (wpAny_mono one (fun r s' z => ?_) fun _ _ z => z)
  obtain ⟨v, rfl, hq⟩ := z
  exact wpAny_pure hq
/-- o * int by the class's own __mul__ -/
theorem mul_K (F : Fr h₀ L s.heap m) (X₀ : K.In h₀) (I : InstAt s.heap x ox C od) (c : MulC K C f g) {fo ro : Option Value} (hfo : findIn K (.type "int") (dunder "mul") = some fo) (hro : findIn K (.type "int") (dunderR "mul") = some ro) (hs : subIn K (.type "int") (.ref C) = some false) {Q : Value → Shared → Prop}
    (h : wpAny (model prog w) A (call (.ref f) [.ref x, .int i t]) (W.CmpBack Q) E s) : wpAny (model prog w) A (binaryOp .Mult (.ref x) (.int i t)) Q E s :=
  ksp_binT F X₀ I (T := "int") (op := .Mult) rfl c.self c.mul c.fnf c.rmul (.inr ⟨g, rfl⟩) hfo hro hs h
end
section
variable {X : Cx} {C f g : Addr} {n : Nat} {sp : Sp} {E : XK} {CX : CXT}
open PyProof.Rows
def rRmX (C : Addr) (sp : Sp) (E : XK) : R2 := fun x y H Q => ∃ i a dx vs, x = .int i ∧ y = .ref a ∧ SlX.Slt H a C dx vs ∧ sp [y, x] H Q E
theorem op_rmX (c : MulC X.K C f g) (F : FnR X.prog X.w X.K X.mg X.base CX n g sp) (hr : Room n X.A) (hx : ∀ (H : Hp) (s : Shared) (e : Value) (s' : Shared), CX X.stack H s E e s' → False) : OpR X (binaryOp .Mult) (rRmX C sp E) := by
  intro pins s σ H x y v u Q I rx ry h
  obtain ⟨i, a, dx, vs, rfl, rfl, ha, q⟩ := h
  cases (show u = Value.ref a from ry)
  obtain ⟨t, rfl⟩ : ∃ t, v = Value.int i t := rx
  obtain ⟨sl, od, _, J, _⟩ := SlX.slt_inst I ha
  obtain ⟨m, hF⟩ := I.fr
  refine rmul_K hF I.ok.mod.kin J (fun v h => by cases h) c ?_
  refine wpAny_call (codeAny_mono (F X.A X.stack s H [.ref a, .int i t] [.ref a, .int i] Q E hr I.env0 (.cons rfl (.cons ⟨t, rfl⟩ .nil)) q) fun r s' hq => ?_)
  cases r with
  | error e => exact (hx _ _ _ _ hq).elim
  | ok fl =>
    cases fl with
    | ret r =>
      obtain ⟨z, H', I2, rv, hq2⟩ := I.after hq
      have e : EP X pins σ Q r s' := ⟨z, H', I2, rv, hq2⟩
      cases z <;> first
        | (cases (show r = _ from rv); exact e)
        | (obtain ⟨_, rfl⟩ := (show ∃ t, r = _ from rv); exact e)
    | next => exact False.elim hq
    | brk => exact False.elim hq
    | cont => exact False.elim hq
def rMlX (C : Addr) (sp : Sp) (E : XK) : R2 := fun x y H Q => ∃ i a dx vs, y = .int i ∧ x = .ref a ∧ SlX.Slt H a C dx vs ∧ sp [x, y] H Q E
/-- what * by an int wants of int -/
structure MulI (K : PySem.W.Frag) (C : Addr) : Prop where
  fo : ∃ fo, PySem.W.findIn K (.type "int") (dunder "mul") = some fo
  ro : ∃ ro, PySem.W.findIn K (.type "int") (dunderR "mul") = some ro
  sub : PySem.W.subIn K (.type "int") (.ref C) = some false
theorem op_mlX (c : MulC X.K C f g) (d : MulI X.K C) (F : FnR X.prog X.w X.K X.mg X.base CX n f sp) (hr : Room n X.A) (hx : ∀ (H : Hp) (s : Shared) (e : Value) (s' : Shared), CX X.stack H s E e s' → False) : OpR X (binaryOp .Mult) (rMlX C sp E) := by
  intro pins s σ H x y v u Q I rx ry h
  obtain ⟨i, a, dx, vs, rfl, rfl, ha, q⟩ := h
  cases (show v = Value.ref a from rx)
  obtain ⟨t, rfl⟩ : ∃ t, u = Value.int i t := ry
  obtain ⟨sl, od, _, J, _⟩ := SlX.slt_inst I ha
  obtain ⟨m, hF⟩ := I.fr
  obtain ⟨fo, hfo⟩ := d.fo
  obtain ⟨ro, hro⟩ := d.ro
  refine mul_K hF I.ok.mod.kin J c hfo hro d.sub ?_
  refine wpAny_call (codeAny_mono (F X.A X.stack s H [.ref a, .int i t] [.ref a, .int i] Q E hr I.env0 (.cons rfl (.cons ⟨t, rfl⟩ .nil)) q) fun r s' hq => ?_)
  cases r with
  | error e => exact (hx _ _ _ _ hq).elim
  | ok fl =>
    cases fl with
    | ret r =>
      obtain ⟨z, H', I2, rv, hq2⟩ := I.after hq
      have e : EP X pins σ Q r s' := ⟨z, H', I2, rv, hq2⟩
      cases z <;> first
        | (cases (show r = _ from rv); exact e)
        | (obtain ⟨_, rfl⟩ := (show ∃ t, r = _ from rv); exact e)
    | next => exact False.elim hq
    | brk => exact False.elim hq
    | cont => exact False.elim hq
/-- what a class with + must have -/
structure AddC (K : PySem.W.Frag) (C f : Addr) : Prop where
  self : PySem.W.selfFirst K C = true
  add : PySem.W.findIn K (.ref C) (dunder "add") = some (some (.ref f))
  fnf : PySem.W.isFn K (.ref f) = true
def rAdX (C : Addr) (sp : Sp) (E : XK) : R2 := fun x y H Q => ∃ a dx vs b dy ws, x = .ref a ∧ y = .ref b ∧ SlX.Slt H a C dx vs ∧ SlX.Slt H b C dy ws ∧ sp [x, y] H Q E
theorem op_adX (c : AddC X.K C f) (F : FnR X.prog X.w X.K X.mg X.base CX n f sp) (hr : Room n X.A) (hx : ∀ (H : Hp) (s : Shared) (e : Value) (s' : Shared), CX X.stack H s E e s' → False) : OpR X (binaryOp .Add) (rAdX C sp E) := by
  intro pins s σ H x y v u Q I rx ry h
  obtain ⟨a, dx, vs, b, dy, ws, rfl, rfl, ha, hb, q⟩ := h
  cases (show v = Value.ref a from rx)
  cases (show u = Value.ref b from ry)
  obtain ⟨sl, od, _, J, _⟩ := SlX.slt_inst I ha
  obtain ⟨sl', od', _, J', _⟩ := SlX.slt_inst I hb
  obtain ⟨m, hF⟩ := I.fr
  refine PySem.W.binop_K hF I.ok.mod.kin J J'.type c.self c.add c.fnf ?_
  refine wpAny_call (codeAny_mono (F X.A X.stack s H [.ref a, .ref b] [.ref a, .ref b] Q E hr I.env0 (.cons rfl (.cons rfl .nil)) q) fun r s' hq => ?_)
  cases r with
  | error e => exact (hx _ _ _ _ hq).elim
  | ok fl =>
    cases fl with
    | ret r =>
      obtain ⟨z, H', I2, rv, hq2⟩ := I.after hq
      have e : EP X pins σ Q r s' := ⟨z, H', I2, rv, hq2⟩
      cases z <;> first
        | (cases (show r = _ from rv); exact e)
        | (obtain ⟨_, rfl⟩ := (show ∃ t, r = _ from rv); exact e)
    | next => exact False.elim hq
    | brk => exact False.elim hq
    | cont => exact False.elim hq
end
section
variable {X : Cx} {cl : Nat → Addr} {E : XK}
/-- int * o, o an instance that changes -/
def opRmR (c : Nat) (g : List D → Store → Res D) (f : D → D → Store → Res D) : D → D → Store → Res D := fun a b S => match obOf S c b with
  | some _ => (match a with
    | .int _ => g [b, a] S
    | _ => .no)
  | none => f a b S
/-- o * int -/
def opMlR (c : Nat) (g : List D → Store → Res D) (f : D → D → Store → Res D) : D → D → Store → Res D := fun a b S => match obOf S c a with
  | some _ => (match b with
    | .int _ => g [a, b] S
    | _ => .no)
  | none => f a b S
/-- o + o -/
def opAdR (c : Nat) (g : List D → Store → Res D) (f : D → D → Store → Res D) : D → D → Store → Res D := fun a b S => match obOf S c a with
  | some _ => (match obOf S c b with
    | some _ => g [a, b] S
    | none => .no)
  | none => f a b S
theorem rmR {g fm : List D → Store → Res D} {f : D → D → Store → Res D} {k c : Nat} {ga : Addr} (hc : ∃ fa, MulC X.K (cl c) fa ga)
    (F : FnR X.prog X.w X.K X.mg X.base CX0 k ga (spM ⟨X.K, cl⟩ fm)) (hr : Room k X.A) (hf : SndC ⟨X.K, cl⟩ E (fun vs H Q => spM ⟨X.K, cl⟩ fm vs H Q E0) g)
    (h0 : QR X cl E (binaryOp .Mult) f) : QR X cl E (binaryOp .Mult) (opRmR c g f) := by
  obtain ⟨fa, hc⟩ := hc
  obtain ⟨r, h1, h2⟩ := h0.ex
  refine ⟨_, OpR.or (op_rmX (E := E0) hc F hr fun _ _ _ _ z => z) h1, fun a b S α G H x y Q hR ra rb h => ?_⟩
  unfold opRmR at h
  split at h
  · rename_i fs hb
    obtain ⟨k', p, dx, vs, rfl, hk, hα, rfl, hH, hG, hdx, ro⟩ := obOf_at hR rb hb
    cases a with
    | int i =>
      have ei : x = .int i := by simpa [Rep] using ra
      subst ei
      exact .inl ⟨i, p, dx, vs, rfl, rfl, .inr ⟨hH, hdx⟩, hf [.ref k', .int i] S α G H [.ref p, .int i] Q hR (by unfold RepL; exact ⟨_, _, rfl, rb, by unfold RepL; exact ⟨_, _, rfl, ra, by simp [RepL]⟩⟩) h⟩
    | _ => exact h.elim
  · exact .inr (h2 a b S α G H x y Q hR ra rb h)
theorem mlR {g fm : List D → Store → Res D} {f : D → D → Store → Res D} {k c : Nat} {fa : Addr} (hc : ∃ ga, MulC X.K (cl c) fa ga) (hd : MulI X.K (cl c))
    (F : FnR X.prog X.w X.K X.mg X.base CX0 k fa (spM ⟨X.K, cl⟩ fm)) (hr : Room k X.A) (hf : SndC ⟨X.K, cl⟩ E (fun vs H Q => spM ⟨X.K, cl⟩ fm vs H Q E0) g)
    (h0 : QR X cl E (binaryOp .Mult) f) : QR X cl E (binaryOp .Mult) (opMlR c g f) := by
  obtain ⟨ga, hc⟩ := hc
  obtain ⟨r, h1, h2⟩ := h0.ex
  refine ⟨_, OpR.or (op_mlX (E := E0) hc hd F hr fun _ _ _ _ z => z) h1, fun a b S α G H x y Q hR ra rb h => ?_⟩
  unfold opMlR at h
  split at h
  · rename_i fs hb
    obtain ⟨k', p, dx, vs, rfl, hk, hα, rfl, hH, hG, hdx, ro⟩ := obOf_at hR ra hb
    cases b with
    | int i =>
      have ei : y = .int i := by simpa [Rep] using rb
      subst ei
      exact .inl ⟨i, p, dx, vs, rfl, rfl, .inr ⟨hH, hdx⟩, hf [.ref k', .int i] S α G H [.ref p, .int i] Q hR (by unfold RepL; exact ⟨_, _, rfl, ra, by unfold RepL; exact ⟨_, _, rfl, rb, by simp [RepL]⟩⟩) h⟩
    | _ => exact h.elim
  · exact .inr (h2 a b S α G H x y Q hR ra rb h)
theorem adR {g fm : List D → Store → Res D} {f : D → D → Store → Res D} {k c : Nat} {fa : Addr} (hc : AddC X.K (cl c) fa)
    (F : FnR X.prog X.w X.K X.mg X.base CX0 k fa (spM ⟨X.K, cl⟩ fm)) (hr : Room k X.A) (hf : SndC ⟨X.K, cl⟩ E (fun vs H Q => spM ⟨X.K, cl⟩ fm vs H Q E0) g)
    (h0 : QR X cl E (binaryOp .Add) f) : QR X cl E (binaryOp .Add) (opAdR c g f) := by
  obtain ⟨r, h1, h2⟩ := h0.ex
  refine ⟨_, OpR.or (op_adX (E := E0) hc F hr fun _ _ _ _ z => z) h1, fun a b S α G H x y Q hR ra rb h => ?_⟩
  unfold opAdR at h
  split at h
  · rename_i fs ha
    obtain ⟨k', p, dx, vs, rfl, hk, hα, rfl, hH, hG, hdx, ro⟩ := obOf_at hR ra ha
    split at h
    · rename_i fs2 hb
      obtain ⟨k2, p2, dx2, vs2, rfl, hk2, hα2, rfl, hH2, hG2, hdx2, ro2⟩ := obOf_at hR rb hb
      exact .inl ⟨p, dx, vs, p2, dx2, vs2, rfl, rfl, .inr ⟨hH, hdx⟩, .inr ⟨hH2, hdx2⟩, hf [.ref k', .ref k2] S α G H [.ref p, .ref p2] Q hR (by unfold RepL; exact ⟨_, _, rfl, ra, by unfold RepL; exact ⟨_, _, rfl, rb, by simp [RepL]⟩⟩) h⟩
    · exact h.elim
  · exact .inr (h2 a b S α G H x y Q hR ra rb h)
end
section
variable {S : Store} {c k : Nat} {g : List D → Store → Res D} {f : D → D → Store → Res D} {fs : List (Option D)}
theorem rmR_at (h : S[k]? = some (.ob c fs)) (i : Int) : opRmR c g f (.int i) (.ref k) S = g [.ref k, .int i] S := by simp [opRmR, obOf_ref h]
theorem rmR_int (i j : Int) : opRmR c g f (.int i) (.int j) S = f (.int i) (.int j) S := (Eq.refl _).trans rfl
theorem mlR_at (h : S[k]? = some (.ob c fs)) (i : Int) : opMlR c g f (.ref k) (.int i) S = g [.ref k, .int i] S := by simp [opMlR, obOf_ref h]
theorem adR_at {j : Nat} {gs : List (Option D)} (h : S[k]? = some (.ob c fs)) (h2 : S[j]? = some (.ob c gs)) : opAdR c g f (.ref k) (.ref j) S = g [.ref k, .ref j] S := by simp [opAdR, obOf_ref h, obOf_ref h2]
end
section
open PySem.Spec PyProof.Rows
variable {X : Cx} {CX : CXT} {g : Addr} {C : Addr} {n : Nat} {sp : Sp} {E : XK}
/-- what a class with __contains__ must have -/
structure InC (K : PySem.W.Frag) (C g : Addr) : Prop where
  at_ : PySem.W.findIn K (.ref C) "__contains__" = some (some (.ref g))
  fn : PySem.W.isFn K (.ref g) = true
def blQ (Q : VK) : VK := fun v H => ∃ b, v = V.bl b ∧ Q (.bl b) H
def rInX (C : Addr) (sp : Sp) (E : XK) : R2 := fun x y H Q => ∃ a dx vs, y = .ref a ∧ SlX.Slt H a C dx vs ∧ sp [y, x] H (blQ Q) E
theorem op_inX (c : InC X.K C g) (F : FnR X.prog X.w X.K X.mg X.base CX n g sp) (hr : Room n X.A) (hx : ∀ (H : Hp) (s : Shared) (e : Value) (s' : Shared), CX X.stack H s E e s' → False) : OpR X (compareOp .In) (rInX C sp E) := by
  intro pins s σ H x y v u Q I rx ry h
  obtain ⟨a, dx, vs, rfl, ha, q⟩ := h
  cases (show u = Value.ref a from ry)
  obtain ⟨sl, od, _, J, _⟩ := SlX.slt_inst I ha
  obtain ⟨m, hF⟩ := I.fr
  refine PySem.W.in_K hF I.ok.mod.kin J c.at_ c.fn ?_
  refine wpAny_call (codeAny_mono (F X.A X.stack s H [.ref a, v] [.ref a, x] (blQ Q) E hr I.env0 (.cons rfl (.cons rx .nil)) q) fun r s' hq => ?_)
  cases r with
  | error e => exact (hx _ _ _ _ hq).elim
  | ok fl =>
    cases fl with
    | ret r =>
      obtain ⟨z, H', I2, rv, b, e, hq2⟩ := I.after hq
      subst e
      cases (show r = Value.bool b from rv)
      exact wpAny_truthy_bool ⟨.bl b, H', I2, rfl, hq2⟩
    | next => exact False.elim hq
    | brk => exact False.elim hq
    | cont => exact False.elim hq
end
section
variable {X : Cx} {cl : Nat → Addr} {E : XK}
def onlyB (d : D) (S : Store) : Res D := match d with
  | .bl b => .ok (.bl b) S
  | _ => .no
/-- x in o, o an instance that changes -/
def opInR (c : Nat) (g : List D → Store → Res D) (f : D → D → Store → Res D) : D → D → Store → Res D := fun a b S => match obOf S c b with
  | some _ => (g [b, a] S).bind onlyB
  | none => f a b S
theorem inR {g fm : List D → Store → Res D} {f : D → D → Store → Res D} {k c : Nat} {ga : Addr} (hc : InC X.K (cl c) ga)
    (F : FnR X.prog X.w X.K X.mg X.base CX0 k ga (spM ⟨X.K, cl⟩ fm)) (hr : Room k X.A) (hf : SndC ⟨X.K, cl⟩ E (fun vs H Q => spM ⟨X.K, cl⟩ fm vs H Q E0) g)
    (h0 : QR X cl E (compareOp .In) f) : QR X cl E (compareOp .In) (opInR c g f) := by
  obtain ⟨r, h1, h2⟩ := h0.ex
  refine ⟨_, OpR.or (op_inX (E := E0) hc F hr fun _ _ _ _ z => z) h1, fun a b S α G H x y Q hR ra rb h => ?_⟩
  unfold opInR at h
  split at h
  · rename_i fs hb
    obtain ⟨k', p, dx, vs, rfl, hk, hα, rfl, hH, hG, hdx, ro⟩ := obOf_at hR rb hb
    exact .inl ⟨p, dx, vs, rfl, .inr ⟨hH, hdx⟩, hf [.ref k', a] S α G H [.ref p, x] _ hR (by unfold RepL; exact ⟨_, _, rfl, rb, by unfold RepL; exact ⟨_, _, rfl, ra, by simp [RepL]⟩⟩) (post_bind h fun d S1 α1 G1 H1 v _ e1 R1 r1 hp1 => by
        cases d <;> try exact hp1.elim
        rename_i b _
        simp only [Rep] at r1
        exact ⟨b, r1, post_ok (x := V.bl b) hp1 R1 (by simp [Rep])⟩)⟩
  · exact .inr (h2 a b S α G H x y Q hR ra rb h)
theorem inR_at {S : Store} {c k : Nat} {g : List D → Store → Res D} {f : D → D → Store → Res D} {fs : List (Option D)} (h : S[k]? = some (.ob c fs)) (x : D) : opInR c g f x (.ref k) S = (g [.ref k, x] S).bind onlyB := by simp [opInR, obOf_ref h]
@[simp] theorem onlyB_bl (b : Bool) (S : Store) : onlyB (.bl b) S = .ok (.bl b) S := (Eq.refl _).trans rfl
end
section
open PySem.Spec PyProof.Rows
variable {X : Cx} {CX : CXT} {g : Addr} {C : Addr} {n : Nat} {sp : Sp} {E : XK}
def rNinX (C : Addr) (sp : Sp) (E : XK) : R2 := fun x y H Q => ∃ a dx vs, y = .ref a ∧ SlX.Slt H a C dx vs ∧ sp [y, x] H (notQ Q) E
theorem op_ninX (c : InC X.K C g) (F : FnR X.prog X.w X.K X.mg X.base CX n g sp) (hr : Room n X.A) (hx : ∀ (H : Hp) (s : Shared) (e : Value) (s' : Shared), CX X.stack H s E e s' → False) : OpR X (compareOp .NotIn) (rNinX C sp E) := by
  intro pins s σ H x y v u Q I rx ry h
  obtain ⟨a, dx, vs, rfl, ha, q⟩ := h
  cases (show u = Value.ref a from ry)
  obtain ⟨sl, od, _, J, _⟩ := SlX.slt_inst I ha
  obtain ⟨m, hF⟩ := I.fr
  refine PySem.W.notIn_K hF I.ok.mod.kin J c.at_ c.fn ?_
  refine wpAny_call (codeAny_mono (F X.A X.stack s H [.ref a, v] [.ref a, x] (notQ Q) E hr I.env0 (.cons rfl (.cons rx .nil)) q) fun r s' hq => ?_)
  cases r with
  | error e => exact (hx _ _ _ _ hq).elim
  | ok fl =>
    cases fl with
    | ret r =>
      obtain ⟨z, H', I2, rv, b, e, hq2⟩ := I.after hq
      subst e
      cases (show r = Value.bool b from rv)
      exact wpAny_truthy_bool ⟨.bl (!b), H', I2, rfl, hq2⟩
    | next => exact False.elim hq
    | brk => exact False.elim hq
    | cont => exact False.elim hq
end
section
variable {X : Cx} {cl : Nat → Addr} {E : XK}
/-- x not in o, o an instance that changes -/
def opNinR (c : Nat) (g : List D → Store → Res D) (f : D → D → Store → Res D) : D → D → Store → Res D := fun a b S => match obOf S c b with
  | some _ => (g [b, a] S).bind notB
  | none => f a b S
theorem ninR {g fm : List D → Store → Res D} {f : D → D → Store → Res D} {k c : Nat} {ga : Addr} (hc : InC X.K (cl c) ga)
    (F : FnR X.prog X.w X.K X.mg X.base CX0 k ga (spM ⟨X.K, cl⟩ fm)) (hr : Room k X.A) (hf : SndC ⟨X.K, cl⟩ E (fun vs H Q => spM ⟨X.K, cl⟩ fm vs H Q E0) g)
    (h0 : QR X cl E (compareOp .NotIn) f) : QR X cl E (compareOp .NotIn) (opNinR c g f) := by
  obtain ⟨r, h1, h2⟩ := h0.ex
  refine ⟨_, OpR.or (op_ninX (E := E0) hc F hr fun _ _ _ _ z => z) h1, fun a b S α G H x y Q hR ra rb h => ?_⟩
  unfold opNinR at h
  split at h
  · rename_i fs hb
    obtain ⟨k', p, dx, vs, rfl, hk, hα, rfl, hH, hG, hdx, ro⟩ := obOf_at hR rb hb
    exact .inl ⟨p, dx, vs, rfl, .inr ⟨hH, hdx⟩, hf [.ref k', a] S α G H [.ref p, x] _ hR (by unfold RepL; exact ⟨_, _, rfl, rb, by unfold RepL; exact ⟨_, _, rfl, ra, by simp [RepL]⟩⟩) (post_bind h fun d S1 α1 G1 H1 v _ e1 R1 r1 hp1 => by
        cases d <;> try exact hp1.elim
        rename_i b _
        simp only [Rep] at r1
        exact ⟨b, r1, post_ok (x := V.bl (!b)) hp1 R1 (by simp [Rep])⟩)⟩
  · exact .inr (h2 a b S α G H x y Q hR ra rb h)
theorem ninR_at {S : Store} {c k : Nat} {g : List D → Store → Res D} {f : D → D → Store → Res D} {fs : List (Option D)} (h : S[k]? = some (.ob c fs)) (x : D) : opNinR c g f x (.ref k) S = (g [.ref k, x] S).bind notB := by simp [opNinR, obOf_ref h]
end
def opIsntB : D → D → Store → Res D := fun a b S => match a, b with
  | .bl i, .bl j => .ok (.bl (!decide (i = j))) S
  | _, _ => .no
section
variable {X : Cx} {cl : Nat → Addr} {E : XK}
theorem isntB : QR X cl E (compareOp .IsNot) opIsntB := by
  refine ⟨_, op_notBl, fun a b S α G H x y Q hR ra rb h => ?_⟩
  cases a <;> cases b <;> try exact h.elim
  rename_i i j
  simp only [Rep] at ra rb
  exact ⟨i, j, ra, rb, post_ok h hR (by simp [Rep])⟩
@[simp] theorem isntB_bl {S : Store} (a b : Bool) : opIsntB (.bl a) (.bl b) S = .ok (.bl (!decide (a = b))) S := (Eq.refl _).trans rfl
end
end Q
namespace L2
open PySem PySem.Spec PyProof.Rows
/-- the ints i, i + c, .. -/
def rgVC (i c : Int) (n : Nat) : List V := (List.range n).map fun k => V.int (i + (k : Nat) * c)
theorem vals_rgC {i c : Int} {n : Nat} {acc : Array Value} (h : ItemsOf (fun k v => ∃ t, v = .int (i + k * c) t) acc n) : Vals (rgVC i c n) acc.toList := by
  have e : acc.toList.length = n := by rw [Array.length_toList]; exact h.1
  unfold rgVC
  rw [← e]
  refine vals_of_get acc.toList _ fun j u hj => ?_
  obtain ⟨t, rfl⟩ := h.2 j u (by rw [← hj, Array.getElem?_toList])
  exact ⟨t, rfl⟩
def Rg3At (i j c : Int) (n : Nat) : Prop := c ≠ 0 ∧ c.natAbs.log2 < 9000 ∧ Builtin.Range.small i j c = true ∧ Builtin.Range.rangeSize i j c = n
def tLstRg3 (ta : TA) : TE := fun σ H Q => ta σ H fun vs H1 => ∃ (i j c : Int) (n : Nat), vs = [.int i, .int j, .int c] ∧ Rg3At i j c n ∧ n ≤ 100000 ∧ ∀ q, H1 q = none → Q (.ref q) (upd H1 q (.lst (rgVC i c n)))
section
variable {X : Cx}
theorem pe_listRg3 {a b c : Expr} {ta : TA} {p pos p' pos' : Pos} (hc : X.calm = true) (hgl : Gl X "list") (hml : X.mg "list" = none) (hg : Gl X "range") (hm : X.mg "range" = none) (ha : PA X [a, b, c] ta)
    (hs : starEach [a, b, c] X.env = (false, eval a X.env) :: starEach [b, c] X.env := by rfl) (hpl : (backTo pos (starEach [b, c] X.env)).any (·.1) = false := by rfl)
    (na : starEach [.Call (.Name "range" p) [a, b, c] [] pos] X.env = (false, eval (.Call (.Name "range" p) [a, b, c] [] pos) X.env) :: starEach [] X.env := by rfl) :
    PE X (.Call (.Name "list" p') [.Call (.Name "range" p) [a, b, c] [] pos] [] pos') (tLstRg3 ta) := by
  refine ⟨fun pins s σ H Q I h => ?_⟩
  have mk : wpAny (model X.prog X.w) X.A (eval (.Call (.Name "range" p) [a, b, c] [] pos) X.env) (fun x s' => ∃ r i j k n t u v H', x = .ref r ∧ IsRange s'.heap r i j k t u v ∧ Inv X pins σ H' s' ∧ (Rg3At i j k n ∧ n ≤ 100000 ∧ ∀ q, H' q = none → Q (.ref q) (upd H' q (.lst (rgVC i k n))))) X.xe s := by
    refine Call_ (ld_blt I hg hm boot_range (PyProof.Rows.callWith_type1 (thn (ha.run pos pins s σ H _ I h) fun us s1 ⟨vs, H1, I1, r1, q1⟩ => ?_) hs hpl))
    obtain ⟨i, j, k, n, e, ⟨c0, c1, c2, c3⟩, hn, q⟩ := q1
    subst e
    cases r1 with
    | cons r rr =>
      cases rr with
      | cons r' rr =>
        cases rr with
        | cons r'' rr =>
          cases rr
          obtain ⟨t, rfl⟩ := r
          obtain ⟨t', rfl⟩ := r'
          obtain ⟨t'', rfl⟩ := r''
          refine call_range_3 c0 ?_ (.inl (PyProof.noPylong_of_log2 c1))
          exact ⟨_, i, j, k, n, _, _, _, H1, rfl, IsRange.new _ _ _ _ _ _ _, I1.kept (t' := s1.toks) fun b o e => Heap.get?_push_of_some _ e, ⟨c0, c1, c2, c3⟩, hn, q⟩
  refine Call_ (ld_blt I hgl hml boot_list (PyProof.Rows.callWith_type1 (args_cons (thn mk fun x s1 ⟨r, i, j, k, n, t, u, v, H1, ex, hr, I1, ok, hn, q⟩ => args_nil ?_) na) na))
  subst ex
  obtain ⟨b1, b2, b3, b4⟩ := ok
  refine call_list_range (n := n) (I1.ok.hd hc) hr b3 b4 (by omega) fun h' tk acc c' hk e' hi => ?_
  refine ⟨.ref s1.heap.objs.size, upd H1 s1.heap.objs.size (.lst (rgVC i k n)), I1.laid hk (Nat.le_refl _) (show ObjOk X.prog X.w _ _ _ (.lst (rgVC i k n)) from ⟨?_, acc.toList, c', vals_rgC hi, ?_⟩), rfl, q _ (I1.hok.fresh (Nat.le_refl _))⟩
  · unfold rgVC
    rw [List.length_map, List.length_range, sizeLine_eq]; omega
  · rw [Array.toArray_toList]; exact e'
end
end L2
namespace Q
open PySem L2
/-- how many -/
def rg3N (i j c : Int) : Nat := if i < j then ((j - i - 1) / c + 1).toNat else 0
def rg3Ok (i j c : Int) : Bool := decide (i.natAbs < 2 ^ 40) && decide (j.natAbs < 2 ^ 40) && decide (c.natAbs < 2 ^ 61) && decide (0 ≤ i) && decide (0 ≤ j) && decide (0 < c) && decide (rg3N i j c ≤ 100000)
def lstRg3K (d1 d2 d3 : D) (S : Store) : Res D := match d1, d2, d3 with
  | .int i, .int j, .int c => if rg3Ok i j c then .ok (.lst (rangeC i c (rg3N i j c))) S else .no
  | _, _, _ => .no
def mLstRg3 (m1 m2 m3 : ME) : ME := fun ρ S => (m1 ρ S).bind fun d1 S1 => (m2 ρ S1).bind fun d2 S2 => (m3 ρ S2).bind fun d3 S3 => lstRg3K d1 d2 d3 S3
theorem rgC_rep {Γ : Gm} {α : List Addr} {G : Hp} (i c : Int) (n : Nat) : RepL Γ α G (rangeC i c n) (rgVC i c n) := by
  unfold rangeC rgVC
  induction n with
  | zero => simp [RepL]
  | succ n ih =>
    rw [List.range_succ, List.map_append, List.map_append]
    exact ih.append (by simp [RepL, Rep])
theorem rg3_at {i j c : Int} (hi : 0 ≤ i ∧ i < 2 ^ 40) (hj : 0 ≤ j ∧ j < 2 ^ 40) (hc : 0 < c ∧ c < 2 ^ 61) : Rg3At i j c (rg3N i j c) := by
  have q : ∀ x : Int, -(2 ^ 62) < x → x < 2 ^ 62 → Builtin.Range.rangeFitsLong x = true := fun x a b => by
    have e1 : (2 : Int) ^ 62 < 2 ^ 63 := by decide
    unfold Builtin.Range.rangeFitsLong
    simp
    omega
  have s0 : Builtin.Range.rangeSize i j c = ((rg3N i j c : Nat) : Int) := by
    unfold Builtin.Range.rangeSize rg3N
    rw [if_pos (by omega)]
    split
    · have : 0 ≤ (j - i - 1) / c := Int.ediv_nonneg (by omega) (by omega)
      omega
    · rfl
  have s1 : 0 ≤ Builtin.Range.rangeSize i j c ∧ Builtin.Range.rangeSize i j c < 2 ^ 41 := by
    unfold Builtin.Range.rangeSize
    rw [if_pos (by omega)]
    split
    · have h1 : 0 ≤ (j - i - 1) / c := Int.ediv_nonneg (by omega) (by omega)
      have h2 : (j - i - 1) / c ≤ j - i - 1 := Int.ediv_le_self _ (by omega)
      omega
    · omega
  refine ⟨by omega, ?_, ?_, s0⟩
  · refine (Nat.log2_lt (by omega)).mpr (Nat.lt_of_lt_of_le (show c.natAbs < 2 ^ 61 by omega) ?_)
    exact Nat.pow_le_pow_right (by decide) (by decide)
  · unfold Builtin.Range.small
    rw [q i (by omega) (by omega), q j (by omega) (by omega), q c (by omega) (by omega), q _ (by omega) (by omega), if_pos (by omega), q (j + (c - 1)) (by omega) (by omega)]
    simp
section
variable {X : Cx} {cl : Nat → Addr} {E : XK} {e1 e2 e3 : Expr} {m1 m2 m3 : ME}
theorem q_lstRg3 {p pos p' pos' : Pos} (h : QE X cl E e1 m1) (h' : QE X cl E e2 m2) (h'' : QE X cl E e3 m3) (hg : Gl X "range") (hm : X.mg "range" = none) (hgl : Gl X "list") (hml : X.mg "list" = none) (hc : X.calm = true := by rfl)
    (hs : starEach [e1, e2, e3] X.env = (false, eval e1 X.env) :: starEach [e2, e3] X.env := by rfl)
    (hs2 : starEach [e2, e3] X.env = (false, eval e2 X.env) :: starEach [e3] X.env := by rfl) (hs3 : starEach [e3] X.env = (false, eval e3 X.env) :: starEach [] X.env := by rfl) (hpl : ((backTo pos (starEach [e2, e3] X.env)).any fun x => x.1) = false := by rfl)
    (na : starEach [.Call (.Name "range" p) [e1, e2, e3] [] pos] X.env = (false, eval (.Call (.Name "range" p) [e1, e2, e3] [] pos) X.env) :: starEach [] X.env := by rfl) :
    QE X cl E (.Call (.Name "list" p') [.Call (.Name "range" p) [e1, e2, e3] [] pos] [] pos') (mLstRg3 m1 m2 m3) := by
  obtain ⟨t, a1, a2⟩ := h.ex
  obtain ⟨u, b1, b2⟩ := h'.ex
  obtain ⟨x, c1, c2⟩ := h''.ex
  refine ⟨_, pe_listRg3 hc hgl hml hg hm (pa_cons a1 (pa_cons b1 (pa_cons c1 pa_nil hs3) hs2) hs) hs hpl na, fun ρ S σ α G H R hρ hR hp => a2 ρ S σ α G H _ hρ hR (post_bind hp fun d1 S1 α1 G1 H1 v1 q1 e1 R1 r1 hp1 => ?_)⟩
  refine b2 ρ S1 σ α1 G1 H1 _ (hρ.mono e1) R1 (post_bind hp1 fun d2 S2 α2 G2 H2 v2 q2 e2 R2 r2 hp2 => ?_)
  refine c2 ρ S2 σ α2 G2 H2 _ ((hρ.mono e1).mono e2) R2 (post_bind hp2 fun d3 S3 α3 G3 H3 v3 q3 e3 R3 r3 hp3 => ?_)
  clear q1 q2 q3
  cases d1 <;> cases d2 <;> cases d3 <;> try exact hp3.elim
  rename_i i j c
  simp only [Rep] at r1 r2 r3
  subst r1 r2 r3
  unfold lstRg3K at hp3
  simp only at hp3
  split at hp3
  · rename_i hb
    unfold rg3Ok at hb
    simp only [Bool.and_eq_true, decide_eq_true_eq] at hb
    have z : (2 : Nat) ^ 40 = 1099511627776 := by decide
    have z2 : (2 : Nat) ^ 61 = 2305843009213693952 := by decide
    have zz : (2 : Int) ^ 40 = 1099511627776 := by decide
    have zz2 : (2 : Int) ^ 61 = 2305843009213693952 := by decide
    exact ⟨i, j, c, _, rfl, rg3_at (by omega) (by omega) (by omega), hb.2, fun q hq => post_lst R3 (rgC_rep i c _) hp3 hq⟩
  · exact hp3.elim
end
section
variable {S : Store} {ρ : Env}
def lr3K2 (m3 : ME) (ρ : Env) (d1 d2 : D) (S : Store) : Res D := (m3 ρ S).bind (lstRg3K d1 d2)
@[simp] theorem lr3K2_ap (m3 : ME) (d1 d2 : D) : lr3K2 m3 ρ d1 d2 S = (m3 ρ S).bind (lstRg3K d1 d2) := (Eq.refl _).trans rfl
def lr3K1 (m2 m3 : ME) (ρ : Env) (d1 : D) (S : Store) : Res D := (m2 ρ S).bind (lr3K2 m3 ρ d1)
@[simp] theorem lr3K1_ap (m2 m3 : ME) (d1 : D) : lr3K1 m2 m3 ρ d1 S = (m2 ρ S).bind (lr3K2 m3 ρ d1) := (Eq.refl _).trans rfl
@[simp] theorem ap_lstRg3 (m1 m2 m3 : ME) : mLstRg3 m1 m2 m3 ρ S = (m1 ρ S).bind (lr3K1 m2 m3 ρ) := (Eq.refl _).trans rfl
@[simp] theorem lstRg3K_int (i j c : Int) : lstRg3K (.int i) (.int j) (.int c) S = if rg3Ok i j c = true then .ok (.lst (rangeC i c (rg3N i j c))) S else .no := (Eq.refl _).trans rfl
end
def newK (S : Store) : Res D → Res D
  | .ok (.ref k) S' => match S'[k]? with
    | some (.lst xs) => if pureL xs then .ok (.ref S.length) (S ++ [.lst xs]) else .no
    | _ => .no
  | _ => .no
def fNew (f : List D → Store → Res D) : List D → Store → Res D := fun ds S => if pureL ds then newK S (f ds []) else .no
theorem sp_new {Γ : Gm} {f : List D → Store → Res D} {E : XK} : SndC Γ E (fun vs H Q => spM Γ f vs H Q E0) (fNew f) := fun ds S α G H vs Q R r h => by
  unfold fNew at h
  split at h
  case isFalse => exact h.elim
  rename_i hp
  refine ⟨ds, [], G, [], pureL_rep ds vs hp r, R.bare, ?_⟩
  unfold newK at h
  split at h
  case h_2 => exact h.elim
  rename_i k S' q
  split at h
  case h_2 => exact h.elim
  rename_i xs hk
  split at h
  case isFalse => exact h.elim
  rename_i hx
  rw [q]
  intro α' G' H' v e R' rv
  have keep : ∀ a o, H a = some o → H' a = some o := fun a o h => e.fr a o h (by simp)
  have gn : ∀ a, a ∈ α → G a = none → G' a = none := fun a m h => by
    cases q : G' a with
    | none => rfl
    | some o =>
      rcases e.ng a (by rw [q]; simp) with z | z | z | ⟨xs, z⟩
      · exact absurd h z
      · simp at z
      · exact absurd z (R.tr a m)
      · exact absurd z (R.ntup m xs)
  unfold Rep at rv
  obtain ⟨a, ha, rfl⟩ : ∃ a, α'[k]? = some a ∧ v = .ref a := by
    first
      | exact rv
      | (obtain ⟨a, h1, h2⟩ := rv; exact ⟨a, h2, h1⟩)
  have hm : a ∈ α' := List.mem_of_getElem? ha
  have hn : H a = none := by
    rcases e.na a hm with z | z
    · simp at z
    · exact z
  have hna : a ∉ α := fun m => absurd hn (R.tr a m)
  obtain ⟨us, h1, h2, h3⟩ := (R'.ok k _ a hk ha).lst
  have R2 : Rl Γ (α ++ [a]) G' (S ++ [.lst xs]) H' := by
    refine ⟨R'.sub, by rw [List.length_append, List.length_append, R.len]; rfl, ?_, fun b m => ?_, fun j c b hc hb => ?_⟩
    · rw [List.nodup_append]
      refine ⟨R.nd, by simp, fun x hx y hy => ?_⟩
      rw [List.mem_singleton.mp hy]
      exact fun e => hna (e ▸ hx)
    · rcases List.mem_append.mp m with m | m
      · cases q : H b with
        | none => exact absurd q (R.tr b m)
        | some o => rw [keep b o q]; simp
      · rw [List.mem_singleton.mp m, h1]
        simp
    · by_cases hj : j < S.length
      · rw [List.getElem?_append_left hj] at hc
        rw [List.getElem?_append_left (by rw [R.len]; exact hj)] at hb
        have hm : b ∈ α := List.mem_of_getElem? hb
        refine (R.ok j c b hc hb).mono ⟨[a], rfl⟩ e.sub fun _ => ⟨?_, gn b hm⟩
        cases q : H b with
        | none => exact absurd q (R.tr b hm)
        | some o => exact keep b o q
      · have hl := (List.getElem?_eq_some_iff.mp hc).1
        have ej : j = S.length := by
          rw [List.length_append] at hl
          simp at hl
          omega
        subst ej
        rw [List.getElem?_append_right (Nat.le_refl _), Nat.sub_self] at hc
        rw [List.getElem?_append_right (by rw [R.len]; exact Nat.le_refl _), R.len, Nat.sub_self] at hb
        cases hc
        cases hb
        exact CellOk.mkL h1 (pureL_rep xs us hx h2) h3
  have e2 : Ext α G H (α ++ [a]) G' H' := by
    refine ⟨⟨[a], rfl⟩, e.sub, fun b o h _ => keep b o h, fun b m => ?_, fun b h => ?_⟩
    · rcases List.mem_append.mp m with m | m
      · exact .inl m
      · rw [List.mem_singleton.mp m]
        exact .inr hn
    · rcases e.ng b h with z | z | z
      · exact .inl z
      · simp at z
      · exact .inr (.inr z)
  refine h (α ++ [a]) G' H' (.ref a) e2 R2 ?_
  unfold Rep
  have : (α ++ [a])[S.length]? = some a := by
    rw [List.getElem?_append_right (by rw [R.len]; exact Nat.le_refl _), R.len, Nat.sub_self]
    rfl
  first
    | exact ⟨a, this, rfl⟩
    | exact ⟨a, rfl, this⟩
theorem fNew_ap {f : List D → Store → Res D} {ds : List D} {k : Nat} {xs : List D} {T : Store} (S : Store) (hp : pureL ds = true) (h : f ds [] = .ok (.ref k) T) (hk : T[k]? = some (.lst xs)) (hx : pureL xs = true) : fNew f ds S = .ok (.ref S.length) (S ++ [.lst xs]) := by
  unfold fNew
  rw [if_pos hp, h]
  unfold newK
  simp only [hk, hx, if_true]
end Q
namespace Q
open PySem L2 PySem.Spec PyProof.Rows
/-- what a def promises where no repr is under way -/
structure FnG (P : Program) (w : World) (K : PySem.W.Frag) (mg : Str → Option Value) (base : Heap) (CX : CXT) (k : Nat) (f : Addr) (fd : FuncData) (ps : List Str) (sp : Sp) : Prop where
  size : ∀ vs H W E, sp vs H W E → vs.length = ps.length
  runs : ∀ (A : Around) (fs : List PySem.Env) (s : Shared) (H : Hp) (ar : Args) (us : List Value) (vs : List V) (W : VK) (E : XK), A.guards = some [] → Room k A → Env0 P w K mg base A fs s H → BindsTo s fd ar (ps.zip us) → Vals vs us → sp vs H W E →
    codeAny (model P w) A (.call (.ref f) ar) (CR CX fs P w H s W E) s
section
variable {P : Program} {w : World} {K : PySem.W.Frag} {mg : Str → Option Value} {base : Heap} {CX : CXT}
theorem FnG.of {k : Nat} {f : Addr} {fd : FuncData} {ps : List Str} {sp : Sp} (F : FnOk P w K mg base CX k f fd ps sp) : FnG P w K mg base CX k f fd ps sp :=
  ⟨F.len, fun A fs s H ar us vs W E _ r e b v h => F.run A fs s H ar us vs W E r e b v h⟩
theorem FnG.imp {k : Nat} {f : Addr} {fd : FuncData} {ps : List Str} {sp sp' : Sp} (F : FnG P w K mg base CX k f fd ps sp) (h : ∀ vs H W E, sp' vs H W E → sp vs H W E) : FnG P w K mg base CX k f fd ps sp' :=
  ⟨fun vs H W E q => F.size vs H W E (h _ _ _ _ q), fun A fs s H ar us vs W E g r e b v q => F.runs A fs s H ar us vs W E g r e b v (h _ _ _ _ q)⟩
/-- the body is run where nothing is under way either -/
theorem fn_ofG {x qual : Str} {st : Stmt} {k : Nat} {f : Addr} {fd : FuncData} {N ps : List Str} {sp : Sp} (F : Fun K x qual st f fd) (S : FnScope N ps (defScope st)) (size : ∀ vs H W E, sp vs H W E → vs.length = ps.length)
    (body : ∀ (cdv : Value) (A : Around) (fs : List PySem.Env) (s : Shared) (H : Hp) (vs : List V) (W : VK) (E : XK), A.guards = some [] → Room k (A.deeper (envOfC qual (defScope st) s.heap.objs.size f cdv)) → sp vs H W E →
      ∃ t, PSs (cxOf CX0 P w K mg base N qual (defScope st) f cdv A fs s H E).nox (defBody st) t ∧ t { nx := fun _ H' => W .non H', rt := W } (start N vs) H) : FnG P w K mg base CX0 (k + 1) f fd ps sp := by
  obtain ⟨oc, od, kV, doc, pm, an, cdv, ct, osl, rfl, atF, code⟩ := F.ex
  constructor
  · exact size
  intro A fs s H ar us vs W E gd rm e0 bd rv hsp
  have nvs := size vs H W E hsp
  have frag : K.In s.heap := PySem.W.Frag.In.keeps e0.mod.kin (fun b o z => (e0.bs b o z).1)
  have free : s.heap.NoLimit := Heap.NoLimit.keeps e0.mod.nolimit (fun b o z => (e0.bs b o z).1)
  have kinds : ∀ y ∈ ps.zip us, (defScope st).names.lookup y.1 = some .local ∨ ((defScope st).names.lookup y.1 = some .cell ∧ ((cellsFrom (s.heap.objs.size + 1) (defScope st).names []).lookup y.1).isSome = true) := by
    rintro ⟨nm, u⟩ hy
    have hn := (List.of_mem_zip hy).1
    cases S.par nm hn with
    | inl q => exact .inl q
    | inr q => exact .inr ⟨q, PySem.W.cellsFrom_some _ _ _ (.inl q)⟩
  apply codeAny_call_function rm.depth (frag _ _ atF) rfl S.co S.gen rfl (PySem.W.codeRec_of frag code)
  apply bd
  refine wpAny_newFunctionEnv_cells S.kind kinds (fun env ee s1 entered => ?_)
  subst ee
  refine ⟨free.keeps entered.toInCall.keep, codeAny_func ?_⟩
  obtain ⟨t, rd, post⟩ := body cdv A fs s H vs W E gd (rm.deeper _) hsp
  have I := inv_start (CX := CX0) (E := E) S rm.hd e0 nvs rv entered
  refine wpAny_mono (rd.nox.run [] s1 (start N vs) H _ I post) ?_ (fun _ _ z => z)
  intro fl s' ends
  cases fl with
  | next =>
    obtain ⟨σ', H', J, q⟩ := ends
    exact ⟨.non, H', J.os, J.bare, J.base, J.hok, rfl, q⟩
  | ret u =>
    obtain ⟨v, σ', H', J, ru, q⟩ := ends
    exact ⟨v, H', J.os, J.bare, J.base, J.hok, ru, q⟩
  | brk => obtain ⟨_, _, _, q⟩ := ends; exact False.elim q
  | cont => obtain ⟨_, _, _, q⟩ := ends; exact False.elim q
/-- THE RULE: a def that calls repr, or calls one that does -/
theorem fn_okG {x qual : Str} {st : Stmt} {f : Addr} {fd : FuncData} {N ps : List Str} {k : Nat} {cl : Nat → Addr} (nN nP : Nat) {n : MS} (F : Fun K x qual st f fd) (S : FnScope N ps (defScope st))
    (hbody : ∀ (cdv : Value) (A : Around) (outer : List PySem.Env) (s : Shared) (H : Hp) (E : XK), A.guards = some [] → Room k (A.deeper (envOfC qual (defScope st) s.heap.objs.size f cdv)) → QSs (cxOf CX0 P w K mg base N qual (defScope st) f cdv A outer s H E).nox cl E0 (defBody st) n)
    (hN : N.length = nN := by rfl) (hP : ps.length = nP := by rfl) : FnG P w K mg base CX0 (k + 1) f fd ps (spM ⟨K, cl⟩ (fnM nN nP n)) := by
  refine fn_ofG F S (fun vs H W E h => ?_) (fun cdv A outer s H vs W E gd hr h => ?_)
  · obtain ⟨ds, α, G, S, r, hR, hp⟩ := h
    unfold fnM at hp
    split at hp
    · rename_i e
      rw [← r.length, e, hP]
    · exact hp.elim
  · obtain ⟨ds, α, G, S', r, hR, hp⟩ := h
    obtain ⟨t, h1, h2⟩ := (hbody cdv A outer s H E gd hr).ex
    refine ⟨t, h1, ?_⟩
    unfold fnM at hp
    split at hp
    · rename_i e
      rw [← hN, ← hP, show ps.length = vs.length by rw [hP, ← e, r.length]] at hp
      refine h2 _ S' _ α G H _ (envR_start r) hR ?_
      revert hp
      cases n (ds.map some ++ List.replicate (N.length - vs.length) none) S' with
      | no => exact id
      | ex e S2 => exact fun hp => hp.elim
      | ok fl S2 =>
        cases fl with
        | nx ρ => exact fun hp α' G' H' σ' e R _ => fin_post hR hp α' G' H' .non e R (by simp [Rep])
        | rt d => exact fun hp α' G' H' v e R r => fin_post hR hp α' G' H' v e R r
        | bk ρ => exact fun hp => hp.elim
        | ct ρ => exact fun hp => hp.elim
    · exact hp.elim
theorem law_okG {k : Nat} {f : Addr} {fd : FuncData} {ps : List Str} {cl : Nat → Addr} {g : List D → Store → Res D} (F : FnG P w K mg base CX k f fd ps (spM ⟨K, cl⟩ g)) (h : ∀ ns : List Int, ns.length ≤ 63 → ∃ S, g [scriptD ns] [] = .ok (.bl true) S) : FnG P w K mg base CX k f fd ps (spLaw K) :=
  F.imp fun vs H W E ⟨a, ns, e, hs, hl, q⟩ => by
    subst e
    obtain ⟨S, hg⟩ := h ns hl
    refine ⟨[scriptD ns], [], H, [], ?_, ⟨Sub.refl H, rfl, List.nodup_nil, fun a m => (by simp at m), fun k c a h => (by simp at h)⟩, ?_⟩
    · unfold RepL
      exact ⟨.ref a, [], rfl, by unfold scriptD Rep; exact ⟨a, _, rfl, hs, repL_ints ns⟩, by simp [RepL]⟩
    · rw [hg]
      intro α' G' H' v e R r
      simp only [Rep] at r
      subst r
      exact q H'
theorem law_callG {mb : Str → Option Value} {k : Nat} {fa a : Addr} {fd : FuncData} {x : Str} {s₁ : Shared} {vs : List Value} {ns : List Int}
    (frag : K.In s₁.heap) (glob : s₁.heap.Ns mainGlobals mg) (blt : s₁.heap.Ns builtinsNs mb) (boot : ∀ x : Str, x ≠ "__name__" → mb x = bootBuiltins x) (free : s₁.heap.NoLimit) (quiet : s₁.gens = #[])
    (scr : s₁.heap.get? a = some { cls := .type "list", data := .seq vs.toArray }) (hi : IntsAre vs ns) (few : ns.length ≤ 63) (rm : Room k callerA)
    (F : ∀ base : Heap, K.In base → base.Ns mainGlobals mg → FnG P w K mg base CX0 k fa fd [x] (spLaw K)) (bind1 : ∀ (s : Shared) (u : Value), BindsTo s fd ⟨[u], []⟩ [(x, u)]) :
    codeAny (model P w) callerA (.call (.ref fa) ⟨[.ref a], []⟩) (fun r s' => r = .ok (.ret (.bool true)) ∧ OldK s₁.heap s'.heap ∧ s'.os = s₁.os ∧ AllBare s'.gens) s₁ := by
  have rv : Vals (ns.map V.int) vs := vals_ints hi
  have fits : ns.length ≤ sizeLine := Nat.le_trans few (by decide)
  -- the script's own object, tracked unless the written part knows it
  obtain ⟨H, hH⟩ : ∃ H : Hp, H = fun b => if b = a ∧ K.lookup a = none then some (.frz { cls := .type "list", data := .seq vs.toArray } (.lst (ns.map V.int))) else none := ⟨_, rfl⟩
  have only : ∀ b o, H b = some o → b = a ∧ K.lookup a = none ∧ o = .frz { cls := .type "list", data := .seq vs.toArray } (.lst (ns.map V.int)) := fun b o e => by
    rw [hH] at e
    dsimp only at e
    split at e
    · rename_i c; exact ⟨c.1, c.2, (Option.some.inj e).symm⟩
    · cases e
  have none_of : ∀ {b : Addr} {o : Obj} {es : Array DictEntry} {ep : Nat}, s₁.heap.get? b = some o → o.data = .dict es ep → H b = none := fun {b o es ep} e d => by
    cases q : H b with
    | none => rfl
    | some u =>
      rw [(only b u q).1, scr] at e
      cases e
      exact nomatch (show Data.seq vs.toArray _ = Data.dict es ep from d)
  have scrH : SqL K H a (ns.map V.int) := by
    cases q : K.lookup a with
    | none => exact .inl (.inr ⟨_, by rw [hH]; exact if_pos ⟨rfl, q⟩⟩)
    | some o =>
      have e := frag a o q
      rw [scr] at e
      cases e
      exact .inr ⟨_, vs.toArray, _, q, rfl, rfl, rfl, by rw [List.size_toArray, hi.length]; exact fits, by simpa using rv⟩
  have hok : HOk P w H s₁.heap := fun b u q => by
    obtain ⟨rfl, _, rfl⟩ := only b u q
    exact ⟨scr, by rw [List.length_map]; exact fits, vs, _, rv, scr⟩
  have ns_of : ∀ {b : Addr} {m : Str → Option Value}, s₁.heap.Ns b m → (hidT s₁.heap H).Ns b m := fun ⟨o, es, ep, e, d, r⟩ => ⟨o, es, ep, hidT_get e (none_of e d), d, r⟩
  have fragH : K.In (hidT s₁.heap H) := fun b o e => hidT_get (frag b o e) (by
    cases q : H b with
    | none => rfl
    | some u =>
      obtain ⟨rfl, z, _⟩ := only b u q
      rw [z] at e; cases e)
  have env : Env0 P w K mg (hidT s₁.heap H) callerA [] s₁ H := by
    refine ⟨rfl, ⟨fragH, ns_of glob, ⟨mb, ns_of blt, boot⟩, ?_⟩, fun b o e => of_hidT e, Nat.le_of_eq (hidT_size _ _), trivial, fun b m => (nomatch m), hok, .of_eq quiet⟩
    obtain ⟨mc, c1, c2⟩ := free
    exact ⟨mc, ns_of c1, c2⟩
  refine codeAny_mono ((F _ fragH (ns_of glob)).runs callerA [] s₁ H ⟨[.ref a], []⟩ [.ref a] [.ref a] (fun v _ => v = .bl true) (fun _ _ _ => False) rfl rm env (bind1 s₁ (.ref a)) (.cons rfl .nil) ⟨a, ns, rfl, scrH, few, fun _ => rfl⟩) (fun r s' h => ?_)
  match r, h with
  | .error e, h => exact h.elim
  | .ok .next, h => exact False.elim h
  | .ok .brk, h => exact False.elim h
  | .ok .cont, h => exact False.elim h
  | .ok (.ret u), h =>
    obtain ⟨v, H', os, bare, un, hok', r', q⟩ := h
    have q' : v = .bl true := q
    subst q'
    have eu : u = Value.bool true := r'
    subst eu
    refine ⟨rfl, OldK.of_keep (fun b o e => ?_), os, bare⟩
    cases q : H b with
    | none => exact un.keep b o e q (fun z => nomatch z) (fun z => nomatch z)
    | some u =>
      obtain ⟨rfl, _, rfl⟩ := only b u q
      have e2 := (hok' _ _ (un.frzs _ _ _ q)).1
      rw [scr] at e
      cases e
      exact e2
end
/-- as walk_ofE, for such a law -/
theorem walk_ofG {l : PySem.W.OpenLaw} {k : Nat} {q : Program} {loose : List Str} {XP : (Str → Option Value) → Heap → Prop} {YP : World → Heap → Prop} {d : DefRec} {x : Str}
    (hn : l.most = some 63) (hdf : d.params.defaults = []) (hr : Room k callerA)
    (F : ∀ (w : World) (mg : Str → Option Value) (fa : Addr) (h : Heap), YP w h → h.Ns mainGlobals mg → mg d.name = some (.ref fa) →
      ∃ (K : PySem.W.Frag) (fd : FuncData), K.In h ∧ (∀ (s : Shared) (u : Value), BindsTo s fd ⟨[u], []⟩ [(x, u)]) ∧
        ∀ base : Heap, K.In base → base.Ns mainGlobals mg → FnG l.prog w K mg base CX0 k fa fd [x] (spLaw K)) :
    PySem.W.WalkO q loose XP YP l.row.toRowW d [] (fun f vs => PySem.call f vs) := by
  apply Att.attach_call hn hdf
  intro w s₀ s₁ mg mb fa o pm cd doc a vs ns G Y _ _ _ hmg hobj hints hlen hg
  obtain ⟨K, fd, KX, hb, hF⟩ := F w mg fa _ Y G.T.g hmg
  exact law_callG KX G.T.g G.T.b G.T.builtins G.T.nolimit hg hobj hints hlen hr hF hb
section
variable {X : Cx} {cl : Nat → Addr} {E : XK} {e : Expr} {m : ME} {pos : Pos}
theorem pe_callG {CX : CXT} {k : Nat} {f : Addr} {fd : FuncData} {ps : List Str} {sp : Sp} {x : Str} {p : Pos} {es : List Expr} {t : TA} {W : XK} (gd : X.A.guards = some []) (F : FnG X.prog X.w X.K X.mg X.base CX k f fd ps sp) (hr : Room k X.A) (hg : Gl X x) (hm : X.mg x = some (.ref f)) (hk : PySem.W.keepIn X.K (.ref f) = true) (hb : Binds X.K fd ps []) (hx : Passes CX X W)
    (ha : PA X (e :: es) t) (hdb : (x == ("__debug__" : Str)) = false := by decide) (he : starEach (e :: es) X.env = (false, eval e X.env) :: starEach es X.env := by rfl) (hpl : (backTo pos (starEach es X.env)).any (·.1) = false := by rfl) :
    PE X (.Call (.Name x p) (e :: es) [] pos) (tCall sp [] W t) := by
  refine ⟨fun pins s σ H R I h => ?_⟩
  refine wpAny_Call_Name_kw (ld_glob I hg hm ?_ hdb)
  refine PySem.W.callWith_K (h₀ := X.base) I.ok.mod.kin hk ?_ he hpl
  refine thn (ha.run pos pins s σ H _ I h) fun us s1 z => ?_
  obtain ⟨vs, H1, I1, r, q⟩ := z
  refine ⟨I1.kIn, ?_⟩
  have q' : sp vs H1 R W := by rw [List.append_nil] at q; exact q
  have hl : (us ++ []).length = ps.length := by rw [List.append_nil, ← r.length]; exact F.size _ _ _ _ q'
  have bd := hb s1 us I1.kIn hl
  rw [List.append_nil] at bd
  refine wpAny_call (codeAny_mono (F.runs X.A X.stack s1 H1 ⟨us, []⟩ us vs R W gd hr I1.env0 bd r q') fun rr s' hq => ?_)
  cases rr with
  | error z => exact hx pins σ H1 s1 z s' I1 hq
  | ok fl =>
    cases fl with
    | ret u => exact I1.after hq
    | next => exact False.elim hq
    | brk => exact False.elim hq
    | cont => exact False.elim hq
theorem q_callG {g : List D → Store → Res D} {f : List D → Store → Res D} {k : Nat} {fa : Addr} {fd : FuncData} {ps : List Str} {x : Str} {p : Pos} {es : List Expr} {n : MA} (gd : X.A.guards = some []) (F : FnG X.prog X.w X.K X.mg X.base CX0 k fa fd ps (spM ⟨X.K, cl⟩ f)) (hr : Room k X.A)
    (hg : Gl X x) (hm : X.mg x = some (.ref fa)) (hk : PySem.W.keepIn X.K (.ref fa) = true) (hb : Binds X.K fd ps []) (ha : QA X cl E (e :: es) n) (hf : SndC ⟨X.K, cl⟩ E (fun vs H Q => spM ⟨X.K, cl⟩ f vs H Q E0) g)
    (hdb : (x == ("__debug__" : Str)) = false := by decide) (he : starEach (e :: es) X.env = (false, eval e X.env) :: starEach es X.env := by rfl) (hpl : (backTo pos (starEach es X.env)).any (·.1) = false := by rfl) :
    QE X cl E (.Call (.Name x p) (e :: es) [] pos) (mCall g n) := by
  obtain ⟨t, h1, h2⟩ := ha.ex
  refine ⟨_, pe_callG gd F hr hg hm hk hb pass0 h1 hdb he hpl, fun ρ S σ α G H Q hρ hR hp => h2 ρ S σ α G H _ hρ hR (post_bind hp fun ds S1 α1 G1 H1 vs _ e1 R1 r1 hp1 => ?_)⟩
  rw [List.append_nil]
  exact hf ds S1 α1 G1 H1 vs Q R1 r1 hp1
end
mutual
/-- how much a repr tells; 10^9: not served -/
def rpC : D → Nat
  | .non => 0
  | .bl _ => 0
  | .int i => if i.natAbs < 10 ^ 200 then 0 else 1000000000
  | .str s => s.cps.size
  | .tup xs => rpCL xs
  | .lst xs => rpCL xs
  | _ => 1000000000
def rpCL : List D → Nat
  | [] => 0
  | x :: xs => rpC x + 1 + rpCL xs
end
mutual
theorem rpC_bulk : ∀ (d : D), rpC d ≤ 65536 → (toPy d).bulk ≤ rpC d ∧ (toPy d).intsShort 201 = true ∧ (toPy d).showable = true
  | .non, _ => ⟨Nat.zero_le _, rfl, rfl⟩
  | .bl _, _ => ⟨Nat.zero_le _, rfl, rfl⟩
  | .int i, h => by
    unfold rpC at h
    split at h
    · rename_i c
      refine ⟨Nat.zero_le _, ?_, ?_⟩
      · unfold toPy PyData.intsShort
        refine decide_eq_true ?_
        show (Str.ofString (toString i)).length ≤ 201
        rw [PySem.ofString_length]
        exact int_text_length_le10 (k := 200) (by decide) c
      · unfold toPy PyData.showable
        refine decide_eq_true ?_
        by_cases z : i.natAbs = 0
        · rw [z]; decide
        · exact (Nat.log2_lt z).mpr (Nat.lt_trans c (by decide +kernel))
    · omega
  | .str s, _ => ⟨Nat.le_refl _, rfl, rfl⟩
  | .tup xs, h => by
    unfold rpC at h ⊢
    obtain ⟨a, b, c⟩ := rpCL_bulk xs h
    exact ⟨by unfold toPy PyData.bulk; exact a, by unfold toPy PyData.intsShort; exact b, by unfold toPy PyData.showable; exact c⟩
  | .lst xs, h => by
    unfold rpC at h ⊢
    obtain ⟨a, b, c⟩ := rpCL_bulk xs h
    exact ⟨by unfold toPy PyData.bulk; exact a, by unfold toPy PyData.intsShort; exact b, by unfold toPy PyData.showable; exact c⟩
  | .fro _, h => by unfold rpC at h; omega
  | .obj _ _, h => by unfold rpC at h; omega
  | .exn _ _, h => by unfold rpC at h; omega
  | .ref _, h => by unfold rpC at h; omega
theorem rpCL_bulk : ∀ (xs : List D), rpCL xs ≤ 65536 → PyData.bulkAll (toPyL xs) ≤ rpCL xs ∧ PyData.intsShortAll 201 (toPyL xs) = true ∧ PyData.showableAll (toPyL xs) = true
  | [], _ => ⟨Nat.zero_le _, rfl, rfl⟩
  | x :: xs, h => by
    unfold rpCL at h ⊢
    obtain ⟨a, b, c⟩ := rpC_bulk x (by omega)
    obtain ⟨a', b', c'⟩ := rpCL_bulk xs (by omega)
    refine ⟨?_, ?_, ?_⟩
    · unfold toPyL PyData.bulkAll; omega
    · unfold toPyL PyData.intsShortAll; rw [b, b']; rfl
    · unfold toPyL PyData.showableAll; rw [c, c']; rfl
end
def okRp (d : D) : Bool := shal 18 d && decide (rpC d ≤ 65536)
def textR (d : D) : Str := (toPy d).shown
def reprK (d : D) (S : Store) : Res D := if okRp (deref S d) then .ok (.str (textR (deref S d))) S else .no
def fRepr := un1 reprK
theorem okRp_say {d : D} (h : okRp d = true) : (toPy d).canLay0 = true ∧ (toPy d).depth ≤ 18 ∧ (toPy d).showable = true ∧ (toPy d).shown.length ≤ sizeLine ∧ (toPy d).hasDict = false := by
  unfold okRp at h
  rw [Bool.and_eq_true, decide_eq_true_eq] at h
  obtain ⟨l1, l2⟩ := shal_lay 18 d h.1
  obtain ⟨a, b, c⟩ := rpC_bulk d h.2
  refine ⟨l1, l2, c, ?_, PyData.hasDict_of_canLay _ l1⟩
  have z := PyData.shown_le_bulk 201 (by decide) (toPy d) (PyData.leavesShort_of_canLay0 201 _ l1 b)
  rw [sizeLine_eq]
  omega
end Q
namespace L2
open PySem PySem.Spec PyProof.Rows PySem.W
section
variable {X : Cx}
def rRepr (K : PySem.W.Frag) : List V → Hp → VK → Prop := fun vs H W => ∃ (v : V) (d : PyData), vs = [v] ∧ Dp K H v d ∧ d.depth ≤ 18 ∧ d.showable = true ∧ d.shown.length ≤ sizeLine ∧ d.hasDict = false ∧ W (.str d.shown) H
theorem cr_repr (gd : X.A.guards = some []) (hu : X.A.units + 64 < cLine) : CallR X (.builtin "repr") (rRepr X.K) := by
  intro pins s σ H vs us W I r h
  obtain ⟨v, d, rfl, hd, dp, sh, sz, nd, q⟩ := h
  cases r with
  | cons rv rn =>
    cases rn
    rename_i u
    cases hd with
    | non =>
      obtain rfl : u = Value.none := rv
      exact PySem.P.repr_of_none ⟨.str _, H, I.tok _, ⟨_, rfl⟩, q⟩
    | bl b =>
      obtain rfl : u = Value.bool b := rv
      exact PySem.P.repr_of_bool ⟨.str _, H, I.tok _, ⟨_, rfl⟩, q⟩
    | int i =>
      obtain ⟨t, rfl⟩ := rv
      have hz : i.natAbs.log2 < 1920 := by unfold PyData.showable at sh; exact of_decide_eq_true sh
      exact PySem.P.repr_of_int hz ⟨.str _, H, I.tok _, ⟨_, rfl⟩, q⟩
    | str x =>
      obtain ⟨t, rfl⟩ := rv
      exact PySem.P.repr_of_str ⟨.str _, H, I.tok _, ⟨_, rfl⟩, q⟩ sz
    | lst hs hl =>
      obtain ⟨as, rd⟩ := Dp.reads I _ _ _ (Dp.lst hs hl) rv
      obtain rfl : u = Value.ref _ := rv
      exact repr_of_reads' rd sh (PyData.noDict_hsm nd) gd (by omega) (fun _ _ z => z) (fun h' u tk keep => ⟨.str _, H, I.kept (t' := tk) keep, ⟨u, rfl⟩, q⟩) sz
    | tup hs hl =>
      obtain ⟨as, rd⟩ := Dp.reads I _ _ _ (Dp.tup hs hl) rv
      obtain rfl : u = Value.ref _ := rv
      exact repr_of_reads' rd sh (PyData.noDict_hsm nd) gd (by omega) (fun _ _ z => z) (fun h' u tk keep => ⟨.str _, H, I.kept (t' := tk) keep, ⟨u, rfl⟩, q⟩) sz
end
end L2
namespace Q
open PySem L2
section
variable {X : Cx} {cl : Nat → Addr} {E : XK}
theorem shal_up : ∀ (n m : Nat) (d : D), n ≤ m → shal n d = true → shal m d = true
  | n, m, .non, _, _ => by cases m <;> rfl
  | n, m, .bl _, _, _ => by cases m <;> rfl
  | n, m, .int _, _, _ => by cases m <;> rfl
  | n, m, .str _, _, h => by cases n <;> cases m <;> simpa [shal] using h
  | 0, m, .tup _, _, h => by simp [shal] at h
  | 0, m, .lst _, _, h => by simp [shal] at h
  | n + 1, 0, _, l, _ => by omega
  | n + 1, m + 1, .tup xs, l, h => by
    have h' : ∀ x ∈ xs, shal n x = true := by simpa [shal] using h
    have : ∀ x ∈ xs, shal m x = true := fun x hx => shal_up n m x (by omega) (h' x hx)
    simpa [shal] using this
  | n + 1, m + 1, .lst xs, l, h => by
    have h' : ∀ x ∈ xs, shal n x = true := by simpa [shal] using h
    have : ∀ x ∈ xs, shal m x = true := fun x hx => shal_up n m x (by omega) (h' x hx)
    simpa [shal] using this
  | n, _, .fro _, _, h => by cases n <;> simp [shal] at h
  | n, _, .obj _ _, _, h => by cases n <;> simp [shal] at h
  | n, _, .exn _ _, _, h => by cases n <;> simp [shal] at h
  | n, _, .ref _, _, h => by cases n <;> simp [shal] at h
theorem reprQ {k : Nat} (gd : X.A.guards = some []) (hr : Room k X.A) : QC X cl E (.builtin "repr") fRepr := ⟨_, cr_repr gd hr.units, snd_un1 fun d S α G H v Q hR rv h => by
  unfold reprK at h
  split at h
  · rename_i ok
    obtain ⟨l1, l2, l3, l4, l5⟩ := okRp_say ok
    have sh : shal 20 (deref S d) = true := by
      unfold okRp at ok
      rw [Bool.and_eq_true] at ok
      exact shal_up 18 20 _ (by decide) ok.1
    exact ⟨v, _, rfl, deref_dp (Γ := ⟨X.K, cl⟩) hR sh rv, l2, l3, l4, l5, post_ok h hR (by simp [Rep, textR])⟩
  · exact h.elim⟩
end
section
variable {S : Store}
theorem repr_ok {d : D} (h : okRp d = true) (hd : deref S d = d) : fRepr [d] S = .ok (.str (textR d)) S := by
  show reprK d S = _
  unfold reprK
  rw [hd, if_pos h]
theorem rpCL_map {β : Type} {f : β → D} {c : Nat} : ∀ (xs : List β), (∀ x ∈ xs, rpC (f x) ≤ c) → rpCL (xs.map f) ≤ xs.length * (c + 1)
  | [], _ => Nat.zero_le _
  | x :: xs, h => by
    rw [List.map_cons]
    unfold rpCL
    have a := h x (List.mem_cons_self ..)
    have b := rpCL_map xs fun y hy => h y (List.mem_cons_of_mem _ hy)
    rw [List.length_cons, Nat.add_mul, Nat.one_mul]
    omega
end
end Q
namespace Q
open PySem L2
def opLtA (a b : D) (S : Store) : Res D := match a, b with
  | .int i, .int j => .ok (.bl (decide (i < j))) S
  | .tup xs, .tup ys => if shal 18 (.tup xs) && shal 18 (.tup ys) && PySem.W.alike (toPy (.tup xs)) (toPy (.tup ys)) then .ok (.bl (PySem.W.dataLt (toPy (.tup xs)) (toPy (.tup ys)))) S else .no
  | _, _ => .no
def rLtA (K : PySem.W.Frag) : R2 := fun x y H W => ∃ (a b : PyData), Dp K H x a ∧ Dp K H y b ∧ a ≠ .none ∧ PySem.W.alike a b = true ∧ a.depth ≤ 18 ∧ W (.bl (PySem.W.dataLt a b)) H
theorem op_ltA {X : Cx} (hu : X.A.units + 64 < cLine) : OpR X (compareOp .Lt) (rLtA X.K) := by
  intro pins s σ H x y v u W I rx ry h
  obtain ⟨a, b, da, db, hn, hal, dp, q⟩ := h
  obtain ⟨as, ra⟩ := Dp.reads I _ _ _ da rx
  obtain ⟨bs, rb⟩ := Dp.reads I _ _ _ db ry
  exact PySem.W.lt_data ra rb hal hn (by omega) ⟨.bl _, H, I, rfl, q⟩
theorem ltA {X : Cx} {cl : Nat → Addr} {E : XK} {k : Nat} (hr : Room k X.A) : QR X cl E (compareOp .Lt) opLtA := ⟨_, op_ltA hr.units, fun a b S α G H x y W R ra rb h => by
  cases a with
  | int i =>
    cases b with
    | int j =>
      refine ⟨.int i, .int j, rep_dp (Γ := ⟨X.K, cl⟩) R.sub 18 _ _ rfl ra, rep_dp (Γ := ⟨X.K, cl⟩) R.sub 18 _ _ rfl rb, by simp, rfl, by simp [PyData.depth], ?_⟩
      rw [PySem.W.dataLt_int]
      exact post_ok h R (by simp [Rep])
    | _ => exact h.elim
  | tup xs =>
    cases b with
    | tup ys =>
      unfold opLtA at h
      dsimp only at h
      split at h
      · rename_i ok
        rw [Bool.and_eq_true, Bool.and_eq_true] at ok
        exact ⟨_, _, rep_dp (Γ := ⟨X.K, cl⟩) R.sub 18 _ _ ok.1.1 ra, rep_dp (Γ := ⟨X.K, cl⟩) R.sub 18 _ _ ok.1.2 rb, by simp [toPy], ok.2, (shal_lay 18 _ ok.1.1).2, post_ok h R (by simp [Rep])⟩
      · exact h.elim
    | _ => exact h.elim
  | _ => exact h.elim⟩
section
variable {S : Store}
@[simp] theorem opLtA_int (i j : Int) : opLtA (.int i) (.int j) S = .ok (.bl (decide (i < j))) S := (Eq.refl _).trans rfl
theorem opLtA_2 {a b c d : Int} : opLtA (.tup [.int a, .int b]) (.tup [.int c, .int d]) S = .ok (.bl (decide (a < c ∨ (a = c ∧ b < d)))) S := by
  have e : PySem.W.dataLt (toPy (.tup [.int a, .int b])) (toPy (.tup [.int c, .int d])) = decide (a < c ∨ (a = c ∧ b < d)) := PySem.W.dataLt_ii a b c d
  rw [← e]
  rfl
end
end Q
namespace Q
open PySem L2
def b01 (b : Bool) : Int := if b = true then 1 else 0
def opAddM (a b : D) (S : Store) : Res D := match a, b with
  | .bl p, .int j => .ok (.int (b01 p + j)) S
  | _, _ => opAdd a b S
def opSubM (a b : D) (S : Store) : Res D := match a, b with
  | .bl p, .int j => .ok (.int (b01 p - j)) S
  | .int i, .bl q => .ok (.int (i - b01 q)) S
  | _, _ => opSubI a b S
def rAddM : R2 := fun x y H W => ∃ (p : Bool) (j : Int), x = .bl p ∧ y = .int j ∧ W (.int (b01 p + j)) H
def rSubM : R2 := fun x y H W => (∃ (p : Bool) (j : Int), x = .bl p ∧ y = .int j ∧ W (.int (b01 p - j)) H) ∨ ∃ (i : Int) (q : Bool), x = .int i ∧ y = .bl q ∧ W (.int (i - b01 q)) H
theorem op_addM {X : Cx} : OpR X (binaryOp .Add) rAddM := by
  intro pins s σ H x y v u W I rx ry h
  obtain ⟨p, j, rfl, rfl, q⟩ := h
  obtain rfl : v = Value.bool p := rx
  obtain ⟨t, rfl⟩ := ry
  exact PySem.IntBool.add_bool_int ⟨.int _, H, I.tok _, ⟨_, rfl⟩, q⟩
theorem op_subM {X : Cx} : OpR X (binaryOp .Sub) rSubM := by
  intro pins s σ H x y v u W I rx ry h
  rcases h with ⟨p, j, rfl, rfl, q⟩ | ⟨i, p, rfl, rfl, q⟩
  · obtain rfl : v = Value.bool p := rx
    obtain ⟨t, rfl⟩ := ry
    exact PySem.IntBool.sub_bool_int ⟨.int _, H, I.tok _, ⟨_, rfl⟩, q⟩
  · obtain ⟨t, rfl⟩ := rx
    obtain rfl : u = Value.bool p := ry
    exact PySem.IntBool.sub_int_bool ⟨.int _, H, I.tok _, ⟨_, rfl⟩, q⟩
theorem addM {X : Cx} {cl : Nat → Addr} {E : XK} : QR X cl E (binaryOp .Add) opAddM := by
  obtain ⟨r, h1, h2⟩ := (addQ (X := X) (cl := cl) (E := E)).ex
  refine ⟨_, L2.OpR.or op_addM h1, fun a b S α G H x y W R ra rb h => ?_⟩
  have base : opAddM a b S = opAdd a b S → rAddM x y H W ∨ r x y H W := fun e => .inr (h2 a b S α G H x y W R ra rb (by rw [← e]; exact h))
  cases a with
  | bl p =>
    cases b with
    | int j =>
      simp only [Rep] at ra rb
      subst ra rb
      exact .inl ⟨p, j, rfl, rfl, post_ok h R (by simp [Rep])⟩
    | _ => exact base rfl
  | _ => exact base rfl
theorem subM {X : Cx} {cl : Nat → Addr} {E : XK} : QR X cl E (binaryOp .Sub) opSubM := by
  obtain ⟨r, h1, h2⟩ := (subI (X := X) (cl := cl) (E := E)).ex
  refine ⟨_, L2.OpR.or op_subM h1, fun a b S α G H x y W R ra rb h => ?_⟩
  have base : opSubM a b S = opSubI a b S → rSubM x y H W ∨ r x y H W := fun e => .inr (h2 a b S α G H x y W R ra rb (by rw [← e]; exact h))
  cases a with
  | bl p =>
    cases b with
    | int j =>
      simp only [Rep] at ra rb
      subst ra rb
      exact .inl (.inl ⟨p, j, rfl, rfl, post_ok h R (by simp [Rep])⟩)
    | _ => exact base rfl
  | int i =>
    cases b with
    | bl q =>
      simp only [Rep] at ra rb
      subst ra rb
      exact .inl (.inr ⟨i, q, rfl, rfl, post_ok h R (by simp [Rep])⟩)
    | _ => exact base rfl
  | _ => exact base rfl
def strB (b : Bool) : Str := if b then "True" else "False"
def gStrM : D → Store → Res D := fun d S => match d with
  | .bl b => .ok (.str (strB b)) S
  | d => gStrI d S
def fStrM := un1 gStrM
theorem strMQ {X : Cx} {cl : Nat → Addr} {E : XK} : QC X cl E (.type "str") fStrM := by
  refine ⟨fun vs H W => (∃ b, vs = [.bl b] ∧ W (.str (strB b)) H) ∨ ∃ i : Int, vs = [.int i] ∧ i.natAbs.log2 < 1920 ∧ W (.str (toString i)) H, fun pins s σ H vs us W I r h => ?_, snd_un1 fun d S α G H v Q hR rv h => ?_⟩
  · rcases h with ⟨b, rfl, q⟩ | h
    · cases r with
      | cons rv rn =>
        cases rn
        rename_i u
        obtain rfl : u = Value.bool b := rv
        exact PySem.P.str_of_bool ⟨.str _, H, I.tok _, ⟨_, rfl⟩, q⟩
    · exact call_str_int pins s σ H vs us W I r h
  · cases d <;> try exact h.elim
    · rename_i b
      simp only [Rep] at rv
      subst rv
      exact .inl ⟨b, rfl, post_ok (x := V.str (strB b)) h hR (by simp [Rep])⟩
    · rename_i i
      simp only [Rep] at rv
      subst rv
      unfold gStrM gStrI at h
      simp only at h
      split at h
      · rename_i hb
        refine .inr ⟨i, rfl, ?_, post_ok (x := V.str (strI i)) h hR (by simp [Rep])⟩
        by_cases h0 : i.natAbs = 0
        · rw [h0]; decide
        · exact Nat.lt_of_lt_of_le ((Nat.log2_lt h0).mpr hb) (by decide)
      · exact h.elim
section
variable {S : Store}
theorem strM_int {i : Int} (h : i.natAbs < 2 ^ 1900) : fStrM [.int i] S = .ok (.str (strI i)) S := by
  show gStrI (.int i) S = _
  unfold gStrI
  simp only [h, if_true]
@[simp] theorem strM_bl (b : Bool) : fStrM [.bl b] S = .ok (.str (strB b)) S := (Eq.refl _).trans rfl
@[simp] theorem addM_b (p : Bool) (j : Int) : opAddM (.bl p) (.int j) S = .ok (.int (b01 p + j)) S := (Eq.refl _).trans rfl
@[simp] theorem addM_i (i j : Int) : opAddM (.int i) (.int j) S = opAdd (.int i) (.int j) S := (Eq.refl _).trans rfl
@[simp] theorem addM_t (xs : List D) (b : D) : opAddM (.tup xs) b S = opAdd (.tup xs) b S := (Eq.refl _).trans rfl
@[simp] theorem addM_l (xs : List D) (b : D) : opAddM (.lst xs) b S = opAdd (.lst xs) b S := (Eq.refl _).trans rfl
@[simp] theorem subM_bi (p : Bool) (j : Int) : opSubM (.bl p) (.int j) S = .ok (.int (b01 p - j)) S := (Eq.refl _).trans rfl
@[simp] theorem subM_ib (i : Int) (q : Bool) : opSubM (.int i) (.bl q) S = .ok (.int (i - b01 q)) S := (Eq.refl _).trans rfl
@[simp] theorem subM_i (i j : Int) : opSubM (.int i) (.int j) S = opSubI (.int i) (.int j) S := (Eq.refl _).trans rfl
end
end Q
namespace Q
open PySem PySem.Spec PyProof.Rows L2 He
def clN : Nat → Str
  | 0 => "Share" | 1 => "Log" | 2 => "Flow" | 3 => "Net" | 4 => "Sums" | 5 => "Watch" | 6 => "Desk" | 7 => "NoMinute" | 8 => "NoWay" | 9 => "NothingDone" | 10 => "Unlike" | 11 => "TooMany" | 12 => "Contradiction" | 13 => "BadText" | 14 => "BadLine"
  | 15 => "Flow_walks" | 16 => "Flow_tracks"
  | _ => ""
def clK (K : PySem.W.Frag) (c : Nat) : Addr := ga K (clN c)
/-- plain kinds, by name -/
def kinds : List String := ["NoneType", "bool", "int", "str", "tuple", "list"]
theorem kinds_of {S : Store} {d : D} (h : isOk S d = true) : tyN d ∈ kinds := by cases d <;> first | (simp [isOk] at h; done) | (simp [tyN, kinds]; done)
/-- a class that is named: one of the text's, or a built-in one -/
inductive EV where
  | own (c : Nat) | bi (T : String)
def EV.val (K : PySem.W.Frag) : EV → Value
  | .own c => .ref (clK K c)
  | .bi T => .type T
inductive Qf where
  | glo (x : Str) | free (x : Str) | int (x : Str) (i : Int) | str (x z : Str)
  | cls (c : Nat)
  | slot (c : Nat) (f : Str) (i : Nat)
  | mkr (c : Nat)
  | meth (c : Nat) (m : Str)
  | isi (c : Nat)
  | eq (c : Nat)
  | call (c : Nat)
  | sta (c : Nat) (m : Str)
  | exc (c : Nat)
  | exq (c : Nat)
  | kits (c : Nat) (vs : List EV) (b : Bool)
  | kit (c : Nat) (v : EV) (b : Bool)
  | exm (c : Nat) (v : EV) (b : Bool)
  | exms (c : Nat) (vs : List EV) (b : Bool)
  | mul (c : Nat)
  | addc (c : Nat)
  | inc (c : Nat)
/-- an exception's base: ValueError, or LookupError -/
def exB (c : Nat) : String := if c ≤ 9 then "LookupError" else "ValueError"
def exN (c : Nat) : String := if c ≤ 9 then "LookupError.__new__" else "ValueError.__new__"
def exI (c : Nat) : String := if c ≤ 9 then "LookupError.__init__" else "ValueError.__init__"
def exM (c : Nat) : List Value := if c ≤ 9 then [.type "LookupError", .type "Exception", .type "BaseException", .type "object"] else [.type "ValueError", .type "Exception", .type "BaseException", .type "object"]
theorem ex_base (c : Nat) : ExcBaseFacts (exB c) (exN c) (exI c) (exM c) := by
  unfold exB exN exI exM
  split
  · exact F.excBase_LookupError
  · exact F.excBase_ValueError
theorem ex_kxs (c : Nat) : PySem.W.KxsFacts (exB c) (exI c) := by
  unfold exB exI
  split
  · exact PySem.W.kxs_LookupError
  · exact PySem.W.kxs_ValueError
/-- the code object's file, the cell of __class__ -/
def supIn (K : PySem.W.Frag) (C f : Addr) : Bool := match K.lookup f with
  | some ⟨_, _, .func fd, _⟩ => (match fd.code with
    | .ref cda => (match K.lookup cda with
      | some ⟨_, _, .fields vs, _⟩ => (match (vs[2]? : Option Value) with
        | some (.str z _) => z == ("/claim/cut.py" : Str)
        | _ => false)
      | _ => false)
    | _ => false) && (match fd.closure with
    | [(_, cc)] => (match K.lookup cc with
      | some ⟨_, _, .cell (some (.ref D)), _⟩ => decide (D = C)
      | _ => false)
    | _ => false)
  | _ => false
def staP (K : PySem.W.Frag) (C : Addr) (m : Str) : Addr := match PySem.W.findCls K (.ref C) (.type "type") m with
  | some (.get _ (.ref p) .none _) => p
  | _ => 0
/-- the def of a static method -/
def staA (K : PySem.W.Frag) (C : Addr) (m : Str) : Addr := match PySem.W.recIn K (staP K C m) "staticmethod" with
  | some (.ref g :: _) => g
  | _ => 0
def ob {α : Type} [DecidableEq α] (a b : α) : Bool := decide (a = b)
theorem ob_ok {α : Type} [DecidableEq α] {a b : α} (h : ob a b = true) : a = b := of_decide_eq_true h
def Qf.ok (K : PySem.W.Frag) : Qf → Bool
  | .glo x => (Fa.glo x).ok K
  | .free x => (Fa.free x).ok K
  | .int x i => (Fa.int x i).ok K
  | .str x z => (Fa.str x z).ok K
  | .cls c => He.eqO (PySem.W.nsIn K mainGlobals (clN c)) (some (some (.ref (clK K c)))) && (PySem.W.plainGet K (clK K c) Str.empty && (PySem.W.isClsIn K (clK K c) && (PySem.W.plainOver K (clK K c) && He.eqO (PySem.W.findIn K (.ref (clK K c)) "__setattr__") (some (some (.builtin "object.__setattr__"))))))
  | .slot c f i => let C := clK K c; let p := ma K C f; He.eqO (PySem.W.findIn K (.ref C) f) (some (some (.ref p))) && (He.eqO (PySem.W.specialIn K (.ref p) "__get__") (some (some (.builtin "member_descriptor.__get__"))) && (ob (PySem.W.takesIn K (.ref p)) (some true) && (ob (PySem.W.typeIn K (.ref p)) (some (.type "member_descriptor")) && (ob (PySem.W.slotIn K p C) (some i) && decide (i < 1000)))))
  | .mkr c => (Fa.mkr (clN c)).ok K
  | .meth c m => (Fa.meth (clN c) m).ok K
  | .isi c => let C := clK K c; He.eqO (PySem.W.findIn K (.ref C) "__class__") (some (some (.builtin "object.__class__"))) && (He.eqO (PySem.W.specialIn K (.builtin "object.__class__") "__get__") (some (some (.builtin "getset_descriptor.__get__"))) && (ob (PySem.W.takesIn K (.builtin "object.__class__")) (some true) && (ob (PySem.W.mroIn K C (.type "object")) (some true) &&
      (ob (PySem.W.kitOne K (.ref C) (.ref C)) (some true) && kinds.all fun t => ob (PySem.W.kitOne K (.type t) (.ref C)) (some false)))))
  | .eq c => let C := clK K c; let g := ma K C "__eq__"; He.eqO (PySem.W.findIn K (.ref C) "__eq__") (some (some (.ref g))) && (PySem.W.isFn K (.ref g) && (He.eqO (PySem.W.findIn K (.ref C) "__ne__") (some (some (.builtin "object.__ne__"))) && (ob (PySem.W.mroIn K C (.type "object")) (some true) && (PySem.W.notFirst K C (.ref C) && kinds.all fun t => PySem.W.notFirst K C (.type t)))))
  | .call c => let C := clK K c; let g := ma K C "__call__"; He.eqO (PySem.W.findIn K (.ref C) "__call__") (some (some (.ref g))) && (PySem.W.isFn K (.ref g) && PySem.W.fnIn K g)
  | .sta c m => let C := clK K c; PySem.W.readsIn K C (.type "type") && (He.eqO (PySem.W.specialIn K (.ref C) "__getattribute__") (some (some (.builtin "type.__getattribute__"))) && ((match PySem.W.findCls K (.ref C) (.type "type") m with
      | some (.get (.builtin g) (.ref p) .none (.ref D)) => ob g "staticmethod.__get__" && (ob p (staP K C m) && ob D C)
      | _ => false) && ((match PySem.W.recIn K (staP K C m) "staticmethod" with
      | some (.ref g :: _) => ob g (staA K C m)
      | _ => false) && PySem.W.keepIn K (.ref (staA K C m)))))
  | .exc c => let C := clK K c; let f := ma K C "__init__"; PySem.W.excInitIn K C (exM c) (exN c) && (He.eqO (PySem.W.findIn K (.ref C) "__init__") (some (some (.ref f))) && (ob (PySem.W.typeIn K (.ref f)) (some (.type "function")) && (supIn K C f && ((PySem.W.clsIn K C).isSome && (ob (PySem.W.mroIn K C (.ref C)) (some true) && (He.eqO (PySem.W.nsIn K mainGlobals "super") (some none) && (He.eqO (PySem.W.nsIn K cStatics "thirdparty.any") (some none) && (He.eqO (PySem.W.ks_superIn K C C "__init__") (some (some (.builtin (exI c)))) && (ob (PySem.W.subIn K (.ref C) (.type (exB c))) (some true) && (ob (PySem.W.subIn K (.ref C) (.type "BaseException")) (some true) && (ob (PySem.W.typeIn K (.ref C)) (some (.type "type")) && (PySem.W.keepIn K (.ref C) && (He.eqO (PySem.W.nsIn K mainGlobals (clN c)) (some (some (.ref C))))))))))))))))
  | .exq c => let C := clK K c; (PySem.W.clsIn K C).isSome && (He.eqO (PySem.W.findIn K (.ref C) "__getattribute__") (some (some (.builtin "BaseException.__getattribute__"))) && (He.eqO (PySem.W.findIn K (.ref C) "__getattr__") (some none) && (ob (PySem.W.subIn K (.ref C) (.type "BaseException")) (some true) && (He.eqO (PySem.W.findIn K (.ref C) "__class__") (some (some (.builtin "object.__class__"))) && (He.eqO (PySem.W.specialIn K (.builtin "object.__class__") "__get__") (some (some (.builtin "getset_descriptor.__get__"))) && (ob (PySem.W.takesIn K (.builtin "object.__class__")) (some true) && (ob (PySem.W.mroIn K C (.type "object")) (some true) && (He.eqO (PySem.W.nsIn K mainGlobals (clN c)) (some (some (.ref C)))))))))))
  | .kit c v b => ob (PySem.W.kitOne K (.ref (clK K c)) (v.val K)) (some b)
  | .kits c vs b => ob (PySem.W.kitAny K (.ref (clK K c)) (vs.map fun v => v.val K)) (some b)
  | .exm c v b => ob (PySem.W.exmOne K (.ref (clK K c)) (v.val K)) (some b)
  | .exms c vs b => ob (PySem.W.exmAny K (.ref (clK K c)) (vs.map fun v => v.val K)) (some b)
  | .mul c => let C := clK K c; PySem.W.selfFirst K C && (He.eqO (PySem.W.findIn K (.ref C) (dunder "mul")) (some (some (.ref (ma K C "__mul__")))) && (He.eqO (PySem.W.findIn K (.ref C) (dunderR "mul")) (some (some (.ref (ma K C "__rmul__")))) && (PySem.W.isFn K (.ref (ma K C "__mul__")) && (PySem.W.isFn K (.ref (ma K C "__rmul__")) && (ob (PySem.W.subIn K (.ref C) (.type "int")) (some false) && ((PySem.W.findIn K (.type "int") (dunder "mul")).isSome && ((PySem.W.findIn K (.type "int") (dunderR "mul")).isSome && ob (PySem.W.subIn K (.type "int") (.ref C)) (some false))))))))
  | .addc c => let C := clK K c; PySem.W.selfFirst K C && (He.eqO (PySem.W.findIn K (.ref C) (dunder "add")) (some (some (.ref (ma K C "__add__")))) && PySem.W.isFn K (.ref (ma K C "__add__")))
  | .inc c => let C := clK K c; He.eqO (PySem.W.findIn K (.ref C) "__contains__") (some (some (.ref (ma K C "__contains__")))) && PySem.W.isFn K (.ref (ma K C "__contains__"))
section
variable {K : PySem.W.Frag} {h : Heap} {mg : Str → Option Value} {c i : Nat} {f m : Str}
theorem qf_glo (X : K.In h) (G : h.Ns mainGlobals mg) {x : Str} (e : (Qf.glo x).ok K = true) : mg x = some (.ref (ga K x)) := glo_ok X G e
theorem qf_free (X : K.In h) (G : h.Ns mainGlobals mg) {x : Str} (e : (Qf.free x).ok K = true) : mg x = none := free_ok X G e
theorem qf_int (X : K.In h) (G : h.Ns mainGlobals mg) {x : Str} {i : Int} (e : (Qf.int x i).ok K = true) : ∃ t, mg x = some (.int i t) := int_ok X G e
theorem qf_str (X : K.In h) (G : h.Ns mainGlobals mg) {x z : Str} (e : (Qf.str x z).ok K = true) : ∃ t, mg x = some (.str z t) := str_ok X G e
theorem qf_cls (X : K.In h) (G : h.Ns mainGlobals mg) (e : (Qf.cls c).ok K = true) : mg (clN c) = some (.ref (clK K c)) ∧ SlX.SCls K (clK K c) := by
  obtain ⟨e0, e⟩ := ba e
  obtain ⟨e1, e⟩ := ba e
  obtain ⟨e2, e⟩ := ba e
  obtain ⟨e3, e4⟩ := ba e
  exact ⟨PySem.W.mg_of X G (He.eqO_ok e0), e1, e2, e3, He.eqO_ok e4⟩
theorem qf_slot (e : (Qf.slot c f i).ok K = true) : SlX.Slot1 K (clK K c) f (ma K (clK K c) f) i := by
  obtain ⟨e1, e⟩ := ba e
  obtain ⟨e2, e⟩ := ba e
  obtain ⟨e3, e⟩ := ba e
  obtain ⟨e4, e⟩ := ba e
  obtain ⟨e5, e6⟩ := ba e
  exact ⟨He.eqO_ok e1, He.eqO_ok e2, ob_ok e3, ob_ok e4, ob_ok e5, of_decide_eq_true e6⟩
theorem qf_mkr (e : (Qf.mkr c).ok K = true) : Mk K (clK K c) (ma K (clK K c) "__init__") := mkr_ok e
theorem qf_meth (e : (Qf.meth c m).ok K = true) : Meth K (clK K c) m (ma K (clK K c) m) := meth_ok e
structure IsiC (K : PySem.W.Frag) (C : Addr) : Prop where
  i : SlX.SIsi K C
  k : PySem.W.kitOne K (.ref C) (.ref C) = some true
  n : ∀ (S : Store) d, isOk S d = true → PySem.W.kitOne K (.type (tyN d)) (.ref C) = some false
theorem qf_isi (e : (Qf.isi c).ok K = true) : IsiC K (clK K c) := by
  obtain ⟨e1, e⟩ := ba e
  obtain ⟨e2, e⟩ := ba e
  obtain ⟨e3, e⟩ := ba e
  obtain ⟨e4, e⟩ := ba e
  obtain ⟨e5, e6⟩ := ba e
  exact ⟨⟨He.eqO_ok e1, He.eqO_ok e2, ob_ok e3, ob_ok e4⟩, ob_ok e5, fun _ d hd => ob_ok (List.all_eq_true.mp e6 _ (kinds_of hd))⟩
structure EqC (K : PySem.W.Frag) (C g : Addr) : Prop where
  at_ : PySem.W.findIn K (.ref C) "__eq__" = some (some (.ref g))
  fn : PySem.W.isFn K (.ref g) = true
  ne : NeC K C g
  nf : PySem.W.notFirst K C (.ref C) = true
  nk : ∀ (S : Store) d, isOk S d = true → PySem.W.notFirst K C (.type (tyN d)) = true
theorem qf_eq (e : (Qf.eq c).ok K = true) : EqC K (clK K c) (ma K (clK K c) "__eq__") := by
  obtain ⟨e1, e⟩ := ba e
  obtain ⟨e2, e⟩ := ba e
  obtain ⟨e3, e⟩ := ba e
  obtain ⟨e4, e⟩ := ba e
  obtain ⟨e5, e6⟩ := ba e
  exact ⟨He.eqO_ok e1, e2, ⟨He.eqO_ok e3, ob_ok e4, He.eqO_ok e1, e2⟩, e5, fun _ d hd => List.all_eq_true.mp e6 _ (kinds_of hd)⟩
theorem qf_call (e : (Qf.call c).ok K = true) : StX.CallO K (clK K c) (ma K (clK K c) "__call__") := by
  obtain ⟨e1, e⟩ := ba e
  obtain ⟨e2, e3⟩ := ba e
  exact ⟨He.eqO_ok e1, e2, e3⟩
theorem qf_sta (e : (Qf.sta c m).ok K = true) : StaC K (clK K c) m (staA K (clK K c) m) := by
  obtain ⟨e1, e⟩ := ba e
  obtain ⟨e2, e⟩ := ba e
  obtain ⟨e3, e⟩ := ba e
  obtain ⟨e4, e5⟩ := ba e
  refine ⟨e1, He.eqO_ok e2, ⟨staP K (clK K c) m, ?_, ?_⟩, e5⟩
  · clear e4
    split at e3
    · rename_i g p D q
      obtain ⟨k1, k⟩ := ba e3
      obtain ⟨k2, k3⟩ := ba k
      rw [q, ob_ok k1, ob_ok k2, ob_ok k3]
    · cases e3
  · split at e4
    · rename_i g r q
      exact ⟨r, by rw [q, ob_ok e4]⟩
    · cases e4
theorem qf_exq (X : K.In h) (G : h.Ns mainGlobals mg) (e : (Qf.exq c).ok K = true) : mg (clN c) = some (.ref (clK K c)) ∧ ExcQ K (clK K c) := by
  obtain ⟨e1, e⟩ := ba e
  obtain ⟨e2, e⟩ := ba e
  obtain ⟨e3, e⟩ := ba e
  obtain ⟨e4, e⟩ := ba e
  obtain ⟨e5, e⟩ := ba e
  obtain ⟨e6, e⟩ := ba e
  obtain ⟨e7, e⟩ := ba e
  obtain ⟨e8, e9⟩ := ba e
  exact ⟨PySem.W.mg_of X G (He.eqO_ok e9), e1, He.eqO_ok e2, He.eqO_ok e3, ob_ok e4, He.eqO_ok e5, He.eqO_ok e6, ob_ok e7, ob_ok e8⟩
theorem qf_mul (e : (Qf.mul c).ok K = true) : MulC K (clK K c) (ma K (clK K c) "__mul__") (ma K (clK K c) "__rmul__") ∧ MulI K (clK K c) := by
  obtain ⟨e1, e⟩ := ba e
  obtain ⟨e2, e⟩ := ba e
  obtain ⟨e3, e⟩ := ba e
  obtain ⟨e4, e⟩ := ba e
  obtain ⟨e5, e⟩ := ba e
  obtain ⟨e6, e⟩ := ba e
  obtain ⟨e7, e⟩ := ba e
  obtain ⟨e8, e9⟩ := ba e
  exact ⟨⟨e1, He.eqO_ok e2, He.eqO_ok e3, e4, e5, ob_ok e6⟩, ⟨Option.isSome_iff_exists.mp e7, Option.isSome_iff_exists.mp e8, ob_ok e9⟩⟩
theorem qf_rmulo (e : (Qf.mul c).ok K = true) : ∃ fa, MulC K (clK K c) fa (ma K (clK K c) "__rmul__") := ⟨_, (qf_mul e).1⟩
theorem qf_mulo (e : (Qf.mul c).ok K = true) : (∃ ga, MulC K (clK K c) (ma K (clK K c) "__mul__") ga) ∧ MulI K (clK K c) := ⟨⟨_, (qf_mul e).1⟩, (qf_mul e).2⟩
theorem qf_addc (e : (Qf.addc c).ok K = true) : AddC K (clK K c) (ma K (clK K c) "__add__") := by
  obtain ⟨e1, e⟩ := ba e
  obtain ⟨e2, e3⟩ := ba e
  exact ⟨e1, He.eqO_ok e2, e3⟩
theorem qf_inc (e : (Qf.inc c).ok K = true) : InC K (clK K c) (ma K (clK K c) "__contains__") := by
  obtain ⟨e1, e2⟩ := ba e
  exact ⟨He.eqO_ok e1, e2⟩
theorem qf_kit {v : EV} {b : Bool} (e : (Qf.kit c v b).ok K = true) : PySem.W.kitOne K (.ref (clK K c)) (v.val K) = some b := ob_ok e
theorem qf_kits {vs : List EV} {b : Bool} (e : (Qf.kits c vs b).ok K = true) : PySem.W.kitAny K (.ref (clK K c)) (vs.map fun v => v.val K) = some b := ob_ok e
theorem qf_exm {v : EV} {b : Bool} (e : (Qf.exm c v b).ok K = true) : PySem.W.exmOne K (.ref (clK K c)) (v.val K) = some b := ob_ok e
theorem qf_exms {vs : List EV} {b : Bool} (e : (Qf.exms c vs b).ok K = true) : PySem.W.exmAny K (.ref (clK K c)) (vs.map fun v => v.val K) = some b := ob_ok e
end
inductive Dat where
  | glo (x : Str) | meth (c : Nat) (m : Str) | sta (c : Nat) (m : Str) | exc (c : Nat)
/-- the names of its cells -/
def Dat.cn : Dat → List Str
  | .exc _ => ["__class__"]
  | _ => []
def Dat.ad (K : PySem.W.Frag) : Dat → Addr
  | .exc c => ma K (clK K c) "__init__"
  | .glo x => ga K x
  | .meth c m => ma K (clK K c) m
  | .sta c m => staA K (clK K c) m
structure DefQ where
  at_ : Dat
  name : Str
  qual : Str
  st : Stmt
abbrev FnQ : Type := Option (Str × Str × Arguments × FuncBody × Scope × Addr × List Str × Addr)
def fnQ (K : PySem.W.Frag) (d : DefQ) : FnQ := match K.lookup (d.at_.ad K) with
  | some ⟨_, _, .func fd, _⟩ => some (fd.name, fd.qualname, fd.params, fd.body, fd.scope, fd.globals, fd.closure.map (·.1), fd.builtins)
  | _ => none
def DefQ.val (d : DefQ) : FnQ := some (d.name, d.qual, defArgs d.st, .stmts (defBody d.st), defScope d.st, mainGlobals, d.at_.cn, builtinsNs)
def DefQ.ok (K : PySem.W.Frag) (d : DefQ) : Bool := PySem.W.keepIn K (.ref (d.at_.ad K)) && (match K.lookup (d.at_.ad K) with
  | some ⟨_, _, .func fd, _⟩ => PySem.W.codeIn K fd.code d.qual && (match fd.defaults with
    | .none => true
    | _ => false)
  | _ => false)
theorem DefQ.fun {K : PySem.W.Frag} {d : DefQ} (hn : d.at_.cn = []) (e : fnQ K d = d.val) (c : d.ok K = true) : ∃ fd, Fun K d.name d.qual d.st (d.at_.ad K) fd := by
  obtain ⟨kp, c2⟩ := ba c
  unfold fnQ at e
  cases q : K.lookup (d.at_.ad K) with
  | none =>
    rw [q] at c2
    cases c2
  | some o =>
    obtain ⟨oc, od, dt, osl⟩ := o
    rw [q] at c2 e
    cases dt with
    | func fd =>
      obtain ⟨n1, n2, n3, n4, n5, n6, n7, n8, n9, n10, n11, n12, n13, n14, n15⟩ := fd
      have e2 : (some (n1, n2, n3, n4, n5, n6, n7.map (·.1), n15) : FnQ) = some (d.name, d.qual, defArgs d.st, .stmts (defBody d.st), defScope d.st, mainGlobals, d.at_.cn, builtinsNs) := e
      rw [hn] at e2
      simp only [Option.some.injEq, Prod.mk.injEq, List.map_eq_nil_iff] at e2
      obtain ⟨h1, h2, h3, h4, h5, h6, h7, h8⟩ := e2
      subst h1 h2 h3 h4 h5 h6 h7 h8
      obtain ⟨k1, k2⟩ := ba c2
      have k3 : n8 = .none := by
        clear q k1 c2 kp
        dsimp only at k2
        cases n8 <;> first | rfl | cases k2
      subst k3
      exact ⟨_, ⟨⟨oc, od, n9, n10, n11, n12, n13, n14, osl, rfl, q, k1⟩, kp⟩⟩
    | _ => cases c2
/-- an exception's class by the head's facts -/
theorem DefQ.exu {P : Program} {h : Heap} {mg : Str → Option Value} {K : PySem.W.Frag} {d : DefQ} {c : Nat} (X : K.In h) (G : h.Ns mainGlobals mg) (hn : d.at_ = .exc c) (e : fnQ K d = d.val) (o : d.ok K = true) (q : (Qf.exc c).ok K = true) (hf : ((P.main.file : Str) == ("/claim/cut.py" : Str)) = true)
    (ht : (P.main.scope.names.lookup ("super" : Str)).isSome = false) : mg (clN c) = some (.ref (clK K c)) ∧ ExcU P K (clK K c) (ma K (clK K c) "__init__") (exB c) (exN c) (exI c) (exM c) d.st := by
  obtain ⟨q1, q⟩ := ba q
  obtain ⟨q2, q⟩ := ba q
  obtain ⟨q3, q⟩ := ba q
  obtain ⟨q4, q⟩ := ba q
  obtain ⟨q5, q⟩ := ba q
  obtain ⟨q6, q⟩ := ba q
  obtain ⟨q7, q⟩ := ba q
  obtain ⟨q8, q⟩ := ba q
  obtain ⟨q9, q⟩ := ba q
  obtain ⟨q10, q⟩ := ba q
  obtain ⟨q11, q⟩ := ba q
  obtain ⟨q12, q⟩ := ba q
  obtain ⟨q13, q14⟩ := ba q
  refine ⟨PySem.W.mg_of X G (He.eqO_ok q14), ex_base c, ex_kxs c, q1, He.eqO_ok q2, ob_ok q3, ?_, q5, ob_ok q6, He.eqO_ok q7, ht, He.eqO_ok q8, He.eqO_ok q9, ob_ok q10, ob_ok q11, ob_ok q12, q13⟩
  obtain ⟨kp, c2⟩ := ba o
  unfold fnQ at e
  rw [hn] at e c2
  simp only [Dat.ad] at e c2
  unfold supIn at q4
  cases ql : K.lookup (ma K (clK K c) "__init__") with
  | none =>
    rw [ql] at c2
    cases c2
  | some o =>
    obtain ⟨oc, od, dt, osl⟩ := o
    rw [ql] at c2 e q4
    cases dt with
    | func fd =>
      obtain ⟨n1, n2, n3, n4, n5, n6, n7, n8, n9, n10, n11, n12, n13, n14, n15⟩ := fd
      have e2 : (some (n1, n2, n3, n4, n5, n6, n7.map (·.1), n15) : FnQ) = some (d.name, d.qual, defArgs d.st, .stmts (defBody d.st), defScope d.st, mainGlobals, d.at_.cn, builtinsNs) := e
      rw [hn] at e2
      simp only [Option.some.injEq, Prod.mk.injEq, Dat.cn] at e2
      obtain ⟨h1, h2, h3, h4, h5, h6, h7, h8⟩ := e2
      obtain ⟨k1, k2⟩ := ba c2
      have k3 : n8 = .none := by
        clear ql k1 c2 kp q4
        dsimp only at k2
        cases n8 <;> first | rfl | cases k2
      obtain ⟨q41, q42⟩ := ba q4
      dsimp only at q41 q42 k1
      cases n7 with
      | nil => cases h7
      | cons p r =>
        obtain ⟨nm, cc⟩ := p
        cases r with
        | cons p' r' => simp at h7
        | nil =>
          simp only [List.map_cons, List.map_nil, List.cons.injEq, and_true] at h7
          subst h7
          cases n13 with
          | ref cda =>
            dsimp only at q41 q42
            split at q41
            · rename_i o1 o2 vs o3 hcd
              split at q41
              · rename_i z tf hv
                split at q42
                · rename_i y1 y2 D y3 hcc
                  have hD := of_decide_eq_true q42
                  subst hD
                  subst h1 h2 h3 h4 h5 h6 h8 k3
                  exact ⟨oc, od, _, _, _, _, _, _, _, osl, cc, cda, rfl, k1, ⟨_, _, vs, _, z, tf, hcd, hv, by rw [beq_iff_eq.mp q41]; exact hf⟩, _, _, _, hcc⟩
                · cases q42
              · cases q41
            · cases q41
          | _ => cases q41
    | _ => cases c2
def asQ (g : Addr → Option Obj) : Nat → List Addr
  | 0 => [mainGlobals, PySem.cStatics]
  | n + 1 => growD g (asQ g n)
abbrev AlQ : Type := Bool × List FnQ
def obsQ (fa : List Qf) (fn : List DefQ) (K : PySem.W.Frag) : AlQ := ((fa.all fun f => f.ok K) && fn.all fun d => d.ok K, fn.map fun d => fnQ K d)
def valQ (fn : List DefQ) : AlQ := (true, fn.map DefQ.val)
def SaysQ (fa : List Qf) (fn : List DefQ) (K : PySem.W.Frag) : Prop := obsQ fa fn K = valQ fn
def obsQG (n : Nat) (fa : List Qf) (fn : List DefQ) (g : Addr → Option Obj) : AlQ := obsQ fa fn (frG g (asQ g n))
def hookQ (n : Nat) (fa : List Qf) (fn : List DefQ) : PySem.W.Hook where
  α := AlQ
  obs := fun s => obsQG n fa fn s.heap.get?
  val := fun _ => valQ fn
  says := fun _ h => ∃ K : PySem.W.Frag, K.In h ∧ SaysQ fa fn K
  of := fun _ _ e => ⟨_, frG_in, e⟩
  keeps := fun _ _ _ ⟨K, hK, c⟩ k => ⟨K, PySem.W.Frag.In.keeps hK k, c⟩
theorem obsQG_eq {n : Nat} {fa : List Qf} {fn : List DefQ} {g : Addr → Option Obj} {s : Shared} (h : ∀ a, g a = s.heap.get? a) : obsQG n fa fn g = (hookQ n fa fn).obs s := by
  have e : g = s.heap.get? := funext h
  rw [e] <;> rfl
section
variable {fa : List Qf} {fn : List DefQ} {K : PySem.W.Frag}
theorem SaysQ.fact (c : SaysQ fa fn K) (i : Nat) {f : Qf} (h : fa[i]? = some f := by rfl) : f.ok K = true := by
  have c1 := (ba (show ((fa.all fun f => f.ok K) && fn.all fun d => d.ok K) = true from congrArg (fun z : AlQ => z.1) c)).1
  exact List.all_eq_true.mp c1 f (List.mem_of_getElem? h)
theorem SaysQ.both (c : SaysQ fa fn K) (i : Nat) {d : DefQ} (h : fn[i]? = some d := by rfl) : fnQ K d = d.val ∧ d.ok K = true := by
  have c2 := (ba (show ((fa.all fun f => f.ok K) && fn.all fun d => d.ok K) = true from congrArg (fun z : AlQ => z.1) c)).2
  have e : fn.map (fun d => fnQ K d) = fn.map DefQ.val := congrArg (fun z : AlQ => z.2) c
  have e2 : (fn.map fun d => fnQ K d)[i]? = (fn.map DefQ.val)[i]? := by rw [e]
  rw [List.getElem?_map, List.getElem?_map, h] at e2
  exact ⟨Option.some.inj e2, List.all_eq_true.mp c2 d (List.mem_of_getElem? h)⟩
theorem SaysQ.def_ (c : SaysQ fa fn K) (i : Nat) {d : DefQ} (h : fn[i]? = some d := by rfl) (hn : d.at_.cn = [] := by rfl) : ∃ fd, Fun K d.name d.qual d.st (d.at_.ad K) fd := DefQ.fun hn (c.both i h).1 (c.both i h).2
end
theorem bindsA0 {K : PySem.W.Frag} {x qual : Str} {st : Stmt} {f : Addr} {fd : FuncData} {us : List Value} {r : List (Str × Value)} (F : Fun K x qual st f fd)
    (h : ∀ (kV doc pm : Value) (an : Option Addr) (cdv ct : Value), bindArgs (PySem.W.fnOf x qual (defArgs st) (defBody st) (defScope st) .none kV doc pm an cdv ct) ⟨us, []⟩ = pure r) (s : Shared) : BindsTo s fd ⟨us, []⟩ r := by
  obtain ⟨oc, od, kV, doc, pm, an, cdv, ct, osl, rfl, lk, hcd⟩ := F.ex
  exact .of_eq (h kV doc pm an cdv ct)
end Q
namespace Lw
open PySem L2 Q
def m_l_cells : MS := (mSeq (mAsg (mOrV (mCall fListC (mCons (mSl (mVar 0) mNoO (mSoO (mVar 1))) mNil)) (mCell (mCons (mC (.int 0)) mNil))) (mgN 2))
  (mSeq (mFor (mEnum (mSl (mVar 0) (mSoO (mVar 1)) (mSoO (mC (.int 63))))) (mgTup 2 (mgCons (mgN 3) (mgCons (mgN 4) mgNil))) (mSeq (mAsg (mOp opModI (mCall fInt (mCons (mVar 3) mNil)) (mVar 1)) (mgN 5))
  (mAsg (mOp opAdd (mOp opIx (mVar 2) (mVar 5)) (mOp opMul (mVar 4) (mOp opAdd (mVar 3) (mC (.int 2))))) (mgSub (mVar 2) (mVar 5)))))
  (mRet (mFrz (mVar 2)))))
def f_l_cells : List D → Store → Res D := fnM 6 2 m_l_cells
def m_l_same (self : List D → Store → Res D) : MS := (mSeq (mIf (mTest (mIsi2 .list .tuple (mVar 1))) (mSeq (mIf (mOrT (mTB (mOp opNe (mIsi .list (mVar 0)) (mIsi .list (mVar 1)))) (mTB (mOp opNe (mIsi .tuple (mVar 0)) (mIsi .tuple (mVar 1))))) (mRet (mC (.bl false))) mSkip)
  (mRet (mAndV (mOp opEq (mCall fLen (mCons (mVar 0) mNil)) (mCall fLen (mCons (mVar 1) mNil))) (mCall fAll (mCons (mLc (mZip (mCons (mVar 0) (mCons (mVar 1) mNil))) (mgTup 2 (mgCons (mgN 2) (mgCons (mgN 3) mgNil))) mYes (mCall (fPure self) (mCons (mVar 2) (mCons (mVar 3) mNil))) [2, 3]) mNil))))) mSkip)
  (mSeq (mIf (mOrT (mTB (mIsN (mVar 1))) (mTest (mIsi2 .bool .str (mVar 1)))) (mRet (mAndV (mOp opEq (mVar 0) (mVar 1)) (mAndV (mOp opEq (mIsi .bool (mVar 0)) (mIsi .bool (mVar 1))) (mOp opEq (mIsN (mVar 0)) (mIsN (mVar 1)))))) mSkip)
  (mRet (mAndV (mIsi .int (mVar 0)) (mAndV (mNotV (mIsi .bool (mVar 0))) (mOp opEq (mVar 0) (mVar 1)))))))
def f_l_same : Nat → List D → Store → Res D
  | 0 => fun _ _ => .no
  | k + 1 => fnM 4 2 (m_l_same (f_l_same k))
def m_p_is_tuple : MS := (mRet (mAndV (mIsi .tuple (mVar 0)) (mOp opEq (mCall fLen (mCons (mVar 0) mNil)) (mVar 1))))
def f_p_is_tuple : List D → Store → Res D := fnM 2 2 m_p_is_tuple
def m_p_is_number : MS := (mRet (mAndV (mIsi .int (mVar 0)) (mAndV (mNotV (mIsi .bool (mVar 0))) (mOp opGe (mVar 0) (mVar 1)))))
def f_p_is_number : List D → Store → Res D := fnM 2 2 m_p_is_number
def m_p_is_limit : MS := (mRet (mAndV (mCall (fPure f_p_is_tuple) (mCons (mVar 0) (mCons (mC (.int 2)) mNil))) (mAndV (mCall (fPure f_p_is_number) (mCons (mOp opIx (mVar 0) (mC (.int 0))) (mCons (mC (.int 1)) mNil))) (mAndV (mCall (fPure f_p_is_number) (mCons (mOp opIx (mVar 0) (mC (.int 1))) (mCons (mC (.int 1)) mNil))) (mOp opLt (mOp opIx (mVar 0) (mC (.int 0))) (mOp opIx (mVar 0) (mC (.int 1))))))))
def f_p_is_limit : List D → Store → Res D := fnM 1 1 m_p_is_limit
def m_p_ascends : MS := (mRet (mCall fAll (mCons (mLc (mZip (mCons (mVar 0) (mCons (mSl (mVar 0) (mSoO (mC (.int 1))) mNoO) mNil))) (mgTup 2 (mgCons (mgN 1) (mgCons (mgN 2) mgNil))) mYes (mOp opLtA (mVar 1) (mVar 2)) [1, 2]) mNil)))
def f_p_ascends : List D → Store → Res D := fnM 3 1 m_p_ascends
def m_p_is_stretch : MS := (mSeq (mIf (mOrT (mNotT (mTest (mCall (fPure f_p_is_tuple) (mCons (mVar 1) (mCons (mC (.int 2)) mNil))))) (mOrT (mNotT (mTest (mCall (fPure f_p_is_number) (mCons (mOp opIx (mVar 1) (mC (.int 0))) (mCons (mC (.int 0)) mNil))))) (mNotT (mTest (mCall (fPure f_p_is_number) (mCons (mOp opIx (mVar 1) (mC (.int 1))) (mCons (mC (.int 0)) mNil))))))) (mRet (mC (.bl false))) mSkip)
  (mRet (mChain opLt opLe (mOp opIx (mVar 1) (mC (.int 0))) (mOp opIx (mVar 1) (mC (.int 1))) (mVar 0))))
def f_p_is_stretch : List D → Store → Res D := fnM 2 2 m_p_is_stretch
def m_p_are_looks : MS := (mRet (mAndV (mIsi .tuple (mVar 1)) (mAndV (mCall fAll (mCons (mLc (mItems (mVar 1)) (mgN 2) mYes (mCall (fPure f_p_is_stretch) (mCons (mVar 0) (mCons (mVar 2) mNil))) [2]) mNil)) (mCall (fPure f_p_ascends) (mCons (mVar 1) mNil)))))
def f_p_are_looks : List D → Store → Res D := fnM 3 2 m_p_are_looks
def m_p_is_book : MS := (mSeq (mIf (mOrT (mNotT (mTest (mCall (fPure f_p_is_tuple) (mCons (mVar 0) (mCons (mC (.int 3)) mNil))))) (mNotT (mTest (mCall (fPure f_p_is_number) (mCons (mOp opIx (mVar 0) (mC (.int 0))) (mCons (mC (.int 1)) mNil)))))) (mRet (mC (.bl false))) mSkip)
  (mRet (mAndV (mCall (fPure f_p_is_limit) (mCons (mOp opIx (mVar 0) (mC (.int 1))) mNil)) (mCall (fPure f_p_are_looks) (mCons (mOp opIx (mVar 0) (mC (.int 0))) (mCons (mOp opIx (mVar 0) (mC (.int 2))) mNil))))))
def f_p_is_book : List D → Store → Res D := fnM 1 1 m_p_is_book
def m_l_by_hand_right : MS := (mSeq (mAsg (mLst (mCons (mTup (mCons (mC (.int 3)) (mCons (mTup (mCons (mC (.int 1)) (mCons (mC (.int 10)) mNil))) (mCons (mTup (mCons (mTup (mCons (mC (.int 0)) (mCons (mC (.int 2)) mNil))) (mCons (mTup (mCons (mC (.int 1)) (mCons (mC (.int 3)) mNil))) mNil))) mNil)))) (mCons (mTup (mCons (mC (.int 1)) (mCons (mTup (mCons (mC (.int 1)) (mCons (mC (.int 2)) mNil))) (mCons (mTup mNil) mNil)))) (mCons (mTup (mCons (mC (.int 3)) (mCons (mTup (mCons (mC (.int 2)) (mCons (mC (.int 20)) mNil))) (mCons (mTup (mCons (mTup (mCons (mC (.int 0)) (mCons (mC (.int 3)) mNil))) mNil)) mNil)))) mNil)))) (mgN 0))
  (mSeq (mAsg (mOp opAdd (mVar 0) (mLst (mCons (mTup (mCons (mC (.int 60)) (mCons (mTup (mCons (mOp opPowI (mC (.int 10)) (mC (.int 60))) (mCons (mOp opPowI (mC (.int 10)) (mC (.int 61))) mNil))) (mCons (mTup (mCons (mTup (mCons (mC (.int 0)) (mCons (mC (.int 60)) mNil))) mNil)) mNil)))) mNil))) (mgN 0))
  (mSeq (mAsg (mLst (mCons (mTup (mCons (mC (.int 0)) (mCons (mTup (mCons (mC (.int 1)) (mCons (mC (.int 10)) mNil))) (mCons (mTup mNil) mNil)))) (mCons (mTup (mCons (mC (.int 3)) (mCons (mTup (mCons (mC (.int 0)) (mCons (mC (.int 10)) mNil))) (mCons (mTup mNil) mNil)))) (mCons (mTup (mCons (mC (.int 3)) (mCons (mTup (mCons (mC (.int 1)) (mCons (mC (.int 1)) mNil))) (mCons (mTup mNil) mNil)))) (mCons (mTup (mCons (mC (.int 3)) (mCons (mTup (mCons (mC (.int 2)) (mCons (mC (.int 1)) mNil))) (mCons (mTup mNil) mNil)))) (mCons (mTup (mCons (mC (.int 3)) (mCons (mTup (mCons (mC (.int 1)) (mCons (mC (.int 10)) mNil))) mNil))) (mCons (mTup (mCons (mC (.int 3)) (mCons (mTup (mCons (mC (.int 1)) (mCons (mC (.int 10)) mNil))) (mCons (mTup mNil) (mCons (mTup mNil) mNil))))) mNil))))))) (mgN 1))
  (mSeq (mAsg (mOp opAdd (mVar 1) (mLst (mCons (mTup (mCons (mC (.int 3)) (mCons (mTup (mCons (mC (.int 1)) (mCons (mC (.int 10)) mNil))) (mCons (mTup (mCons (mTup (mCons (mC (.int 0)) (mCons (mC (.int 2)) mNil))) (mCons (mTup (mCons (mC (.int 0)) (mCons (mC (.int 2)) mNil))) mNil))) mNil)))) (mCons (mTup (mCons (mC (.int 3)) (mCons (mTup (mCons (mC (.int 1)) (mCons (mC (.int 10)) mNil))) (mCons (mTup (mCons (mTup (mCons (mC (.int 1)) (mCons (mC (.int 3)) mNil))) (mCons (mTup (mCons (mC (.int 0)) (mCons (mC (.int 2)) mNil))) mNil))) mNil)))) (mCons (mTup (mCons (mC (.int 3)) (mCons (mTup (mCons (mC (.int 1)) (mCons (mC (.int 10)) mNil))) (mCons (mTup (mCons (mTup (mCons (mC (.int 0)) (mCons (mC (.int 4)) mNil))) mNil)) mNil)))) mNil))))) (mgN 1))
  (mSeq (mAsg (mOp opAdd (mVar 1) (mLst (mCons (mTup (mCons (mC (.int 3)) (mCons (mTup (mCons (mC (.int 1)) (mCons (mC (.int 10)) mNil))) (mCons (mTup (mCons (mTup (mCons (mC (.int 2)) (mCons (mC (.int 2)) mNil))) mNil)) mNil)))) (mCons (mTup (mCons (mC (.int 3)) (mCons (mTup (mCons (mC (.int 1)) (mCons (mC (.int 10)) mNil))) (mCons (mTup (mCons (mTup (mCons (mC (.int 2)) (mCons (mC (.int 1)) mNil))) mNil)) mNil)))) (mCons (mTup (mCons (mC (.int 3)) (mCons (mTup (mCons (mC (.int 1)) (mCons (mC (.int 10)) mNil))) (mCons (mTup (mCons (mTup (mCons (mNeg (mC (.int 1))) (mCons (mC (.int 1)) mNil))) mNil)) mNil)))) (mCons (mTup (mCons (mC (.int 3)) (mCons (mTup (mCons (mC (.int 1)) (mCons (mC (.int 10)) mNil))) (mCons (mLst (mCons (mTup (mCons (mC (.int 0)) (mCons (mC (.int 2)) mNil))) mNil)) mNil)))) mNil)))))) (mgN 1))
  (mSeq (mAsg (mOp opAdd (mVar 1) (mLst (mCons (mTup (mCons (mC (.int 3)) (mCons (mTup (mCons (mC (.int 1)) (mCons (mC (.int 10)) mNil))) (mCons (mTup (mCons (mLst (mCons (mC (.int 0)) (mCons (mC (.int 2)) mNil))) mNil)) mNil)))) (mCons (mTup (mCons (mC (.int 3)) (mCons (mLst (mCons (mC (.int 1)) (mCons (mC (.int 10)) mNil))) (mCons (mTup mNil) mNil)))) (mCons (mLst (mCons (mC (.int 3)) (mCons (mTup (mCons (mC (.int 1)) (mCons (mC (.int 10)) mNil))) (mCons (mTup mNil) mNil)))) (mCons (mTup (mCons (mC (.bl true)) (mCons (mTup (mCons (mC (.int 1)) (mCons (mC (.int 10)) mNil))) (mCons (mTup mNil) mNil)))) (mCons (mTup (mCons (mC (.int 3)) (mCons (mTup (mCons (mC (.bl true)) (mCons (mC (.int 10)) mNil))) (mCons (mTup mNil) mNil)))) mNil))))))) (mgN 1))
  (mSeq (mAsg (mOp opAdd (mVar 1) (mLst (mCons (mTup (mCons (mC (.int 3)) (mCons (mTup (mCons (mC (.int 1)) (mCons (mC (.int 10)) mNil))) (mCons (mTup (mCons (mTup (mCons (mC (.bl false)) (mCons (mC (.int 2)) mNil))) mNil)) mNil)))) (mCons (mTup (mCons (mC (.int 3)) (mCons (mTup (mCons (mC (.int 1)) (mCons (mC (.int 10)) mNil))) (mCons (mTup (mCons (mTup (mCons (mC (.int 0)) (mCons (mC (.bl true)) mNil))) mNil)) mNil)))) (mCons (mTup (mCons (mC (.int 3)) (mCons (mTup (mCons (mC (.int 1)) (mCons (mC (.int 10)) mNil))) (mCons (mTup (mCons (mC (.int 0)) (mCons (mC (.int 2)) mNil))) mNil)))) (mCons (mTup (mCons (mC (.int 3)) (mCons (mTup (mCons (mC (.int 1)) (mCons (mC (.int 10)) (mCons (mC (.int 2)) mNil)))) (mCons (mTup mNil) mNil)))) mNil)))))) (mgN 1))
  (mSeq (mAsg (mOp opAdd (mVar 1) (mLst (mCons (mC .non) (mCons (mTup mNil) (mCons (mC (.str "3 1/10")) (mCons (mC (.int 3)) (mCons (mC (.bl true)) (mCons (mTup (mCons (mC (.int 3)) (mCons (mTup (mCons (mC (.int 1)) (mCons (mC (.int 10)) mNil))) (mCons (mC .non) mNil)))) (mCons (mTup (mCons (mC (.int 3)) (mCons (mC .non) (mCons (mTup mNil) mNil)))) (mCons (mTup (mCons (mC (.str "3")) (mCons (mTup (mCons (mC (.int 1)) (mCons (mC (.int 10)) mNil))) (mCons (mTup mNil) mNil)))) mNil)))))))))) (mgN 1))
  (mSeq (mAsg (mOp opAdd (mVar 1) (mLst (mCons (mTup (mCons (mC (.int 3)) (mCons (mTup (mCons (mC (.int 1)) (mCons (mC (.int 10)) mNil))) (mCons (mTup (mCons (mTup (mCons (mC (.int 0)) mNil)) mNil)) mNil)))) mNil))) (mgN 1))
  (mSeq (mAsg (mOp opAdd (mLc (mItems (mVar 0)) (mgN 3) mYes (mCall (fPure f_p_is_book) (mCons (mVar 3) mNil)) [3]) (mLc (mItems (mVar 1)) (mgN 3) mYes (mCall (fPure f_p_is_book) (mCons (mVar 3) mNil)) [3])) (mgN 2))
  (mRet (mCall (fPure (f_l_same 30)) (mCons (mVar 2) (mCons (mOp opAdd (mOp opMul (mLst (mCons (mC (.bl true)) mNil)) (mCall fLen (mCons (mVar 0) mNil))) (mOp opMul (mLst (mCons (mC (.bl false)) mNil)) (mCall fLen (mCons (mVar 1) mNil)))) mNil))))))))))))))
def f_l_by_hand_right : List D → Store → Res D := fnM 4 0 m_l_by_hand_right
def m_l_take : MS := (mSeq (mIf (mTB (mOp opGt (mOp opIx (mVar 0) (mC (.int 0))) (mC (.int 0)))) (mSeq (mAsg (mOp opModI (mCall fInt (mCons (mOp opIx (mVar 0) (mC (.int 0))) mNil)) (mVar 1)) (mgN 2))
  (mSeq (mAsg (mOp opDivI (mOp opIx (mVar 0) (mC (.int 0))) (mVar 1)) (mgSub (mVar 0) (mC (.int 0))))
  (mRet (mVar 2)))) mSkip)
  (mSeq (mAsg (mOp opAdd (mOp opIx (mVar 0) (mC (.int 2))) (mC (.int 1))) (mgSub (mVar 0) (mC (.int 2))))
  (mSeq (mAsg (mOp opModI (mCall fInt (mCons (mOp opMul (mOp opAdd (mOp opIx (mVar 0) (mC (.int 1))) (mOp opMul (mC (.int 48271)) (mOp opIx (mVar 0) (mC (.int 2))))) (mOp opAdd (mC (.int 39373)) (mOp opIx (mVar 0) (mC (.int 2))))) mNil)) (mC (.int 2147483647))) (mgN 3))
  (mSeq (mAsg (mOp opAdd (mOp opModI (mCall fInt (mCons (mVar 3) mNil)) (mC (.int 40009))) (mC (.int 7))) (mgN 4))
  (mSeq (mAsg (mOp opModI (mCall fInt (mCons (mOp opMul (mOp opAdd (mOp opAdd (mVar 3) (mOp opIx (mVar 0) (mC (.int 2)))) (mOp opDivI (mOp opIx (mVar 0) (mC (.int 1))) (mC (.int 1000003)))) (mVar 4)) mNil)) (mC (.int 2147483629))) (mgN 5))
  (mRet (mOp opModI (mCall fInt (mCons (mOp opDivI (mOp opModI (mCall fInt (mCons (mOp opAdd (mOp opMul (mVar 5) (mC (.int 48271))) (mVar 3)) mNil)) (mC (.int 2147483587))) (mC (.int 64))) mNil)) (mVar 1))))))))
def f_l_take : List D → Store → Res D := fnM 6 2 m_l_take
def m_l_of : MS := (mRet (mOp opIx (mVar 1) (mCall (fCall f_l_take) (mCons (mVar 0) (mCons (mCall fLen (mCons (mVar 1) mNil)) mNil)))))
def f_l_of : List D → Store → Res D := fnM 2 2 m_l_of
def m_l_limit : MS := (mSeq (mAsg (mCall (fCall f_l_take) (mCons (mVar 0) (mCons (mC (.int 8)) mNil))) (mgN 1))
  (mSeq (mIf (mTB (mOp opEq (mVar 1) (mC (.int 0)))) (mRet (mTup (mCons (mOp opAdd (mC (.int 1)) (mCall (fCall f_l_take) (mCons (mVar 0) (mCons (mOp opPowI (mC (.int 10)) (mC (.int 18))) mNil)))) (mCons (mOp opAdd (mOp opAdd (mOp opPowI (mC (.int 10)) (mC (.int 18))) (mC (.int 1))) (mCall (fCall f_l_take) (mCons (mVar 0) (mCons (mOp opPowI (mC (.int 10)) (mC (.int 20))) mNil)))) mNil)))) mSkip)
  (mSeq (mIf (mTB (mOp opEq (mVar 1) (mC (.int 1)))) (mRet (mTup (mCons (mOp opAdd (mC (.int 2)) (mOp opMul (mCall (fCall f_l_take) (mCons (mVar 0) (mCons (mC (.int 3)) mNil))) (mC (.int 2)))) (mCons (mC (.int 20)) mNil)))) mSkip)
  (mRet (mCall (fCall f_l_of) (mCons (mVar 0) (mCons (mLst (mCons (mTup (mCons (mC (.int 1)) (mCons (mC (.int 10)) mNil))) (mCons (mTup (mCons (mC (.int 1)) (mCons (mC (.int 2)) mNil))) (mCons (mTup (mCons (mC (.int 1)) (mCons (mC (.int 100)) mNil))) (mCons (mTup (mCons (mC (.int 3)) (mCons (mC (.int 7)) mNil))) (mCons (mTup (mCons (mC (.int 99)) (mCons (mC (.int 100)) mNil))) (mCons (mTup (mCons (mC (.int 2)) (mCons (mC (.int 5)) mNil))) mNil))))))) mNil)))))))
def f_l_limit : List D → Store → Res D := fnM 2 1 m_l_limit
def m_l_looks : MS := (mSeq (mPar 3 4 (mCons (mCall (fCall f_l_take) (mCons (mVar 0) (mCons (mC (.int 4)) mNil))) (mCons (mCell mNil) mNil)))
  (mSeq (mAsg (mOp opAdd (mC (.int 1)) (mCall (fCall f_l_take) (mCons (mVar 0) (mCons (mCall fMin2 (mCons (mVar 1) (mCons (mC (.int 5)) mNil))) mNil)))) (mgN 5))
  (mSeq (mFor (mRange1 (mCall (fCall f_l_take) (mCons (mVar 0) (mCons (mOp opAdd (mVar 2) (mC (.int 1))) mNil)))) (mgN 6) (mSeq (mAsg (mCall (fCall f_l_take) (mCons (mVar 0) (mCons (mVar 1) mNil))) (mgN 7))
  (mIf (mTB (mOp opEq (mVar 3) (mC (.int 0)))) (mDrop (mApp (mVar 4) (mTup (mCons (mVar 7) (mCons (mOp opAdd (mOp opAdd (mVar 7) (mC (.int 1))) (mCall (fCall f_l_take) (mCons (mVar 0) (mCons (mOp opSubI (mVar 1) (mVar 7)) mNil)))) mNil))))) (mIf (mTB (mOp opEq (mVar 3) (mC (.int 1)))) (mDrop (mApp (mVar 4) (mTup (mCons (mVar 7) (mCons (mCall fMin2 (mCons (mVar 1) (mCons (mOp opAdd (mVar 7) (mVar 5)) mNil))) mNil))))) (mDrop (mApp (mVar 4) (mTup (mCons (mVar 7) (mCons (mCall fMin2 (mCons (mVar 1) (mCons (mOp opAdd (mOp opAdd (mVar 7) (mC (.int 1))) (mCall (fCall f_l_take) (mCons (mVar 0) (mCons (mC (.int 5)) mNil)))) mNil))) mNil)))))))))
  (mRet (mCall fTuple (mCons (mSortSet (mFrz (mVar 4))) mNil))))))
def f_l_looks : List D → Store → Res D := fnM 8 3 m_l_looks
def m_l_book : MS := (mSeq (mAsg (mOp opAdd (mC (.int 1)) (mCall (fCall f_l_take) (mCons (mVar 0) (mCons (mVar 1) mNil)))) (mgN 3))
  (mRet (mTup (mCons (mVar 3) (mCons (mCall (fCall f_l_limit) (mCons (mVar 0) mNil)) (mCons (mCall (fCall f_l_looks) (mCons (mVar 0) (mCons (mVar 3) (mCons (mVar 2) mNil)))) mNil))))))
def f_l_book : List D → Store → Res D := fnM 4 3 m_l_book
def m_l_lists (self : List D → Store → Res D) : MS := (mRet (mIfE (mTest (mIsi2 .list .tuple (mVar 0))) (mLc (mItems (mVar 0)) (mgN 1) mYes (mCall (fPure self) (mCons (mVar 1) mNil)) [1]) (mVar 0)))
def f_l_lists : Nat → List D → Store → Res D
  | 0 => fun _ _ => .no
  | k + 1 => fnM 2 1 (m_l_lists (f_l_lists k))
def m_l_bent (self : List D → Store → Res D) : MS := (mSeq (mIf (mAndT (mTest (mIsi .tuple (mVar 1))) (mAndT (mTB (mOp opNe (mVar 1) (mTup mNil))) (mTB (mOp opGt (mCall (fCall f_l_take) (mCons (mVar 0) (mCons (mC (.int 5)) mNil))) (mC (.int 0)))))) (mSeq (mAsg (mCall (fCall f_l_take) (mCons (mVar 0) (mCons (mCall fLen (mCons (mVar 1) mNil)) mNil))) (mgN 3))
  (mRet (mOp opAddM (mOp opAddM (mSl (mVar 1) mNoO (mSoO (mVar 3))) (mTup (mCons (mCall (fCall self) (mCons (mVar 0) (mCons (mOp opIx (mVar 1) (mVar 3)) (mCons (mVar 2) mNil)))) mNil))) (mSl (mVar 1) (mSoO (mOp opAddM (mVar 3) (mC (.int 1)))) mNoO)))) mSkip)
  (mSeq (mAsg (mOp opAddM (mLst (mCons (mC (.int 0)) (mCons (mC (.int 1)) (mCons (mNeg (mC (.int 1))) (mCons (mC (.int 2)) (mCons (mC .non) (mCons (mC (.bl true)) (mCons (mC (.bl false)) (mCons (mC (.str "")) (mCons (mC (.str "a")) (mCons (mTup mNil) (mCons (mLst mNil) (mCons (mTup (mCons (mC (.int 1)) (mCons (mC (.int 10)) mNil))) (mCons (mTup (mCons (mC (.int 0)) (mCons (mC (.int 1)) mNil))) (mCons (mOp opPowI (mC (.int 10)) (mC (.int 40))) mNil))))))))))))))) (mVar 2)) (mgN 4))
  (mSeq (mIf (mTest (mIsi .tuple (mVar 1))) (mAsg (mOp opAddM (mVar 4) (mLst (mCons (mCall fList (mCons (mVar 1) mNil)) (mCons (mSl (mVar 1) mNoO (mSoO (mNeg (mC (.int 1))))) (mCons (mOp opAddM (mVar 1) (mSl (mVar 1) (mSoO (mNeg (mC (.int 1)))) mNoO)) (mCons (mRev (mVar 1)) (mCons (mTup (mCons (mVar 1) mNil)) mNil))))))) (mgN 4)) mSkip)
  (mSeq (mIf (mTest (mIsi .int (mVar 1))) (mAsg (mOp opAddM (mVar 4) (mLst (mCons (mOp opAddM (mVar 1) (mC (.int 1))) (mCons (mOp opSubM (mVar 1) (mC (.int 1))) (mCons (mOp opSubM (mC (.int 0)) (mVar 1)) (mCons (mCall fStrM (mCons (mVar 1) mNil)) (mCons (mTup (mCons (mVar 1) mNil)) mNil))))))) (mgN 4)) mSkip)
  (mRet (mCall (fCall f_l_of) (mCons (mVar 0) (mCons (mVar 4) mNil))))))))
def f_l_bent : Nat → List D → Store → Res D
  | 0 => fun _ _ => .no
  | k + 1 => fnM 5 3 (m_l_bent (f_l_bent k))
def m_l_is_number : MS := (mRet (mAndV (mIsi .int (mVar 0)) (mAndV (mNotV (mIsi .bool (mVar 0))) (mOp opGe (mVar 0) (mVar 1)))))
def f_l_is_number : List D → Store → Res D := fnM 2 2 m_l_is_number
def m_l_is_pair : MS := (mSeq (mIf (mOrT (mNotT (mTest (mIsi .tuple (mVar 0)))) (mOrT (mTB (mOp opNe (mCall fLen (mCons (mVar 0) mNil)) (mC (.int 2)))) (mNotT (mTest (mCall fAll (mCons (mLc (mItems (mVar 0)) (mgN 2) mYes (mCall (fPure f_l_is_number) (mCons (mVar 2) (mCons (mVar 1) mNil))) [2]) mNil)))))) (mRet (mC (.bl false))) mSkip)
  (mRet (mOp opLt (mOp opIx (mVar 0) (mC (.int 0))) (mOp opIx (mVar 0) (mC (.int 1))))))
def f_l_is_pair : List D → Store → Res D := fnM 3 2 m_l_is_pair
def m_l_is_fine : MS := (mSeq (mIf (mOrT (mNotT (mTest (mIsi .tuple (mVar 0)))) (mOrT (mTB (mOp opNe (mCall fLen (mCons (mVar 0) mNil)) (mC (.int 3)))) (mOrT (mNotT (mTest (mCall (fPure f_l_is_number) (mCons (mOp opIx (mVar 0) (mC (.int 0))) (mCons (mC (.int 1)) mNil))))) (mNotT (mTest (mCall (fPure f_l_is_pair) (mCons (mOp opIx (mVar 0) (mC (.int 1))) (mCons (mC (.int 1)) mNil)))))))) (mRet (mC (.bl false))) mSkip)
  (mSeq (mIf (mOrT (mNotT (mTest (mIsi .tuple (mOp opIx (mVar 0) (mC (.int 2)))))) (mNotT (mTest (mCall fAll (mCons (mLc (mItems (mOp opIx (mVar 0) (mC (.int 2)))) (mgN 1) mYes (mAndV (mCall (fPure f_l_is_pair) (mCons (mVar 1) (mCons (mC (.int 0)) mNil))) (mOp opLe (mOp opIx (mVar 1) (mC (.int 1))) (mOp opIx (mVar 0) (mC (.int 0))))) [1]) mNil))))) (mRet (mC (.bl false))) mSkip)
  (mRet (mOp opEq (mLc (mRange2 (mC (.int 1)) (mCall fLen (mCons (mOp opIx (mVar 0) (mC (.int 2))) mNil))) (mgN 2) (mNotT (mTB (mOp opLtA (mOp opIx (mOp opIx (mVar 0) (mC (.int 2))) (mOp opSubI (mVar 2) (mC (.int 1)))) (mOp opIx (mOp opIx (mVar 0) (mC (.int 2))) (mVar 2))))) (mVar 2) [2]) (mLst mNil)))))
def f_l_is_fine : List D → Store → Res D := fnM 3 1 m_l_is_fine
def m_l_right : MS := (mSeq (mIf (mNotT (mTest (mCall (fPure f_l_by_hand_right) mNil))) (mRet (mC (.bl false))) mSkip)
  (mSeq (mFor (mRange1 (mC (.int 8))) (mgN 1) (mSeq (mAsg (mCall (fCall f_l_book) (mCons (mVar 0) (mCons (mC (.int 14)) (mCons (mC (.int 8)) mNil)))) (mgN 2))
  (mSeq (mAsg (mLst (mCons (mVar 2) (mCons (mCall (fPure (f_l_lists 30)) (mCons (mVar 2) mNil)) (mCons (mOp opAdd (mSl (mVar 2) mNoO (mSoO (mC (.int 2)))) (mTup (mCons (mCall fList (mCons (mOp opIx (mVar 2) (mC (.int 2))) mNil)) mNil))) (mCons (mOp opAdd (mSl (mVar 2) mNoO (mSoO (mC (.int 2)))) (mTup (mCons (mRev (mOp opIx (mVar 2) (mC (.int 2)))) mNil))) mNil))))) (mgN 3))
  (mSeq (mFor (mRange1 (mC (.int 4))) (mgN 4) (mSeq (mAsg (mCall (fCall (f_l_bent 30)) (mCons (mVar 0) (mCons (mVar 2) (mCons (mLst (mCons (mOp opIx (mVar 2) (mC (.int 0))) (mCons (mOp opIx (mVar 2) (mC (.int 1))) (mCons (mOp opIx (mVar 2) (mC (.int 2))) mNil)))) mNil)))) (mgN 5))
  (mAsg (mOp opAdd (mVar 3) (mLst (mCons (mVar 5) (mCons (mCall (fCall (f_l_bent 30)) (mCons (mVar 0) (mCons (mVar 5) (mCons (mLst (mCons (mVar 2) mNil)) mNil)))) mNil)))) (mgN 3))))
  (mFor (mItems (mVar 3)) (mgN 5) (mSeq (mPar 6 7 (mCons (mCall fRepr (mCons (mVar 5) mNil)) (mCons (mCall (fPure f_l_is_fine) (mCons (mVar 5) mNil)) mNil)))
  (mIf (mOrT (mNotT (mTest (mCall (fPure (f_l_same 30)) (mCons (mLst (mCons (mCall (fPure f_p_is_book) (mCons (mVar 5) mNil)) (mCons (mCallK (fPure f_p_is_book) 0 1 [0] mNil (mCons (mVar 5) mNil)) mNil))) (mCons (mLst (mCons (mVar 7) (mCons (mVar 7) mNil))) mNil))))) (mTB (mOp opNe (mCall fRepr (mCons (mVar 5) mNil)) (mVar 6)))) (mRet (mC (.bl false))) mSkip)))))))
  (mRet (mC (.bl true)))))
def f_l_right : List D → Store → Res D := fnM 8 1 m_l_right
def m_l_box : MS := (mSeq (mAsg (mIfE (mTB (mOp opLt (mVar 1) (mCall fLen (mCons (mVar 0) mNil)))) (mOp opIx (mVar 0) (mVar 1)) (mC (.int 0))) (mgN 2))
  (mRet (mCell (mCons (mOp opMul (mCall fAbs (mCons (mVar 2) mNil)) (mCall fInt (mCons (mOp opGe (mCall fAbs (mCons (mVar 2) mNil)) (mOp opPowI (mC (.int 10)) (mC (.int 18)))) mNil))) (mCons (mOp opAdd (mOp opAdd (mOp opModI (mCall fInt (mCons (mVar 2) mNil)) (mC (.int 2305843009213693951))) (mOp opMul (mC (.int 39373)) (mVar 1))) (mC (.int 810))) (mCons (mC (.int 0)) mNil))))))
def f_l_box : List D → Store → Res D := fnC 3 2 m_l_box
def m_l_law : MS := (mSeq (mAsg (mCall (fPure f_l_cells) (mCons (mVar 0) (mCons (mC (.int 3)) mNil))) (mgN 1))
  (mRet (mCall fAll (mCons (mLc (mRange1 (mCall fLen (mCons (mVar 1) mNil))) (mgN 2) mYes (mCall (fCall f_l_right) (mCons (mCall (fCall f_l_box) (mCons (mVar 1) (mCons (mVar 2) mNil))) mNil)) [2]) mNil))))
def f_l_law : List D → Store → Res D := fnM 3 1 m_l_law
end Lw
set_option exponentiation.threshold 10000
namespace Lw
open PySem L2 Q
/-! ### the source of draws -/
/-- the box: three numbers -/
abbrev box (a b c : Int) : Cell := .lst [.int a, .int b, .int c]
theorem mulOk_r {i j : Int} (h : -(2 ^ 64) < j ∧ j < 2 ^ 64) : mulOk i j = true := by
  have h2 : j.natAbs < 2 ^ 64 := by omega
  unfold mulOk
  rw [decide_eq_true h2]
  simp
theorem mulOk_l {i j : Int} (h : -(2 ^ 64) < i ∧ i < 2 ^ 64) : mulOk i j = true := by
  have h2 : i.natAbs < 2 ^ 64 := by omega
  unfold mulOk
  rw [decide_eq_true h2]
  simp
theorem log2_lt9000 {n : Int} (h0 : 0 ≤ n) (h : n < 2 ^ 8999) : n.natAbs.log2 < 9000 := by
  by_cases e : n.natAbs = 0
  · rw [e]; decide
  · have h2 : n.natAbs < 2 ^ 8999 := by
      have : (n.natAbs : Int) = n := by omega
      have h3 : (n.natAbs : Int) < ((2 ^ 8999 : Nat) : Int) := by rw [this]; exact_mod_cast h
      exact_mod_cast h3
    have := (Nat.log2_lt e).mpr h2
    omega
theorem divOk_of {i j : Int} (h0 : 0 < j) (h : j < 2 ^ 8999) : divOk i j = true := by
  unfold divOk
  exact decide_eq_true ⟨h0, log2_lt9000 (by omega) h⟩
theorem modOk_of {i j : Int} (h0 : 0 < j) : modOk i j = true := by
  unfold modOk
  exact decide_eq_true h0
/-- a box after at most N draws by mixing -/
def BoxC (x : Cell) (N : Nat) : Prop := ∃ a b c : Int, x = box a b c ∧ 0 ≤ a ∧ (0 ≤ b ∧ b < 2 ^ 63) ∧ 0 ≤ c ∧ c ≤ N
theorem BoxC.mono {x : Cell} {N M : Nat} (h : BoxC x N) (hl : N ≤ M) : BoxC x M := by
  obtain ⟨a, b, c, e, ha, hb, hc, hd⟩ := h
  exact ⟨a, b, c, e, ha, hb, hc, by omega⟩
/-- S is S0 but for the box at k, from which at most N draws were mixed -/
def BoxS (S0 : Store) (k N : Nat) (S : Store) : Prop := ∃ y, S = S0.set k y ∧ BoxC y N ∧ k < S0.length
theorem BoxS.len {S0 S : Store} {k N : Nat} (h : BoxS S0 k N S) : S.length = S0.length := by obtain ⟨y, rfl, _, _⟩ := h; simp
theorem BoxS.mono {S0 S : Store} {k N M : Nat} (h : BoxS S0 k N S) (hl : N ≤ M) : BoxS S0 k M S := by obtain ⟨y, e, hy, hk⟩ := h; exact ⟨y, e, hy.mono hl, hk⟩
theorem BoxS.start {S : Store} {k N : Nat} {x : Cell} (h : S[k]? = some x) (hx : BoxC x N) : BoxS S k N S := ⟨x, (set_self h).symm, hx, (List.getElem?_eq_some_iff.mp h).1⟩
theorem BoxS.other {S0 S : Store} {k N j : Nat} (h : BoxS S0 k N S) (hj : j ≠ k) : S[j]? = S0[j]? := by
  obtain ⟨y, rfl, _, _⟩ := h
  rw [List.getElem?_set_ne (fun e => hj e.symm)]
theorem BoxS.get {S0 S : Store} {k N : Nat} (h : BoxS S0 k N S) : ∃ x, S[k]? = some x ∧ BoxC x N := by
  obtain ⟨y, rfl, hy, hk⟩ := h
  exact ⟨y, List.getElem?_set_self hk, hy⟩
theorem BoxS.set {S0 S : Store} {k N M : Nat} {y : Cell} (h : BoxS S0 k N S) (hy : BoxC y M) : BoxS S0 k M (S.set k y) := by
  obtain ⟨x, rfl, _, hk⟩ := h
  exact ⟨y, by rw [List.set_set], hy, hk⟩
/-- a def that draws: from a box at k, however the other cells stand -/
theorem fin_len {n : Nat} {S : Store} {d : D} (h : S.length = n) : fin n d S = .ok d S := by unfold fin; rw [if_pos h]
def big : Int := 2 ^ 8000
theorem big_lt {n : Int} (h : n < big) : n < 2 ^ 8999 := Int.lt_trans h (by unfold big; decide)
theorem mulOk_big {i j : Int} (h0 : 0 ≤ i) (h1 : i < big) (h2 : 0 ≤ j) (h3 : j < big) : mulOk i j = true := by
  have lg : ∀ n : Int, 0 ≤ n → n < big → n.natAbs.log2 < 9000 := fun n a b => log2_lt9000 a (big_lt b)
  have a := lg i h0 h1
  have b := lg j h2 h3
  unfold mulOk
  rw [decide_eq_true (show i.natAbs.log2 + j.natAbs.log2 < 1000000 by omega)]
  simp
theorem bigN {x : Int} (hx : x ≤ 10 ^ 70) : x < big := Int.lt_of_le_of_lt hx (by unfold big; decide)
theorem range2_nat {i j : Nat} {S : Store} (hi : i < 2 ^ 60) (hj : j < 2 ^ 60) : r2K2 (.int i) (.int j) S = .ok (rangeD i (j - i)) S := by
  rw [r2K2_int, if_pos ⟨by omega, by omega⟩]
  congr 2
  omega
def once (b c : Int) : Int := ((b + 48271 * (c + 1)) * (39373 + (c + 1))) % 2147483647
def far (b c : Int) : Int := once b c % 40009 + 7
def twice (b c : Int) : Int := ((once b c + (c + 1) + b / 1000003) * far b c) % 2147483629
theorem take_eq1 (S : Store) (k : Nat) (a b c n : Int) (hk : S[k]? = some (box a b c)) (ha : 0 < a) (hn : 0 < n) (hn2 : n < 2 ^ 8999) :
    f_l_take [.ref k, .int n] S = .ok (.int (a % n)) (S.set k (box (a / n) b c)) := by
  simp [f_l_take, fnM, m_l_take, ix_refD _ hk, ha, modOk_of hn, divOk_of hn hn2, setIx, hk, ixN]
theorem take_eq2 (S : Store) (k : Nat) (a b c n : Int) (hk : S[k]? = some (box a b c)) (ha : ¬ 0 < a) (hn : 0 < n) (hb : 0 ≤ b ∧ b < 2 ^ 63) (hc : 0 ≤ c ∧ c < 2 ^ 40) :
    f_l_take [.ref k, .int n] S = .ok (.int ((twice b c * 48271 + once b c) % 2147483587 / 64 % n)) (S.set k (box a b (c + 1))) := by
  have hk2 : (S.set k (box a b (c + 1)))[k]? = some (box a b (c + 1)) := set_get hk
  have e1 : mulOk 48271 (c + 1) = true := mulOk_l (by decide)
  have e2 : mulOk (b + 48271 * (c + 1)) (39373 + (c + 1)) = true := mulOk_r (by omega)
  have e3 : ∀ x, mulOk x (far b c) = true := fun x => mulOk_r (by unfold far; omega)
  have e4 : ∀ x, mulOk x 48271 = true := fun x => mulOk_r (by decide)
  have f1 : ((b + 48271 * (c + 1)) * (39373 + (c + 1))) % 2147483647 = once b c := rfl
  have f2 : once b c % 40009 + 7 = far b c := rfl
  have f3 : ((once b c + (c + 1) + b / 1000003) * far b c) % 2147483629 = twice b c := rfl
  have g1 : divOk b 1000003 = true := divOk_of (by decide) (by decide)
  have g2 : ∀ x, divOk x 64 = true := fun x => divOk_of (by decide) (by decide)
  have g3 : ∀ x, modOk x n = true := fun x => modOk_of hn
  have g4 : ∀ x, modOk x 2147483647 = true := fun x => modOk_of (by decide)
  have g5 : ∀ x, modOk x 40009 = true := fun x => modOk_of (by decide)
  have g6 : ∀ x, modOk x 2147483629 = true := fun x => modOk_of (by decide)
  have g7 : ∀ x, modOk x 2147483587 = true := fun x => modOk_of (by decide)
  simp [f_l_take, fnM, m_l_take, ix_refD _ hk, ix_refD _ hk2, ha, setIx, hk, ixN, e1, e2, e3, e4, f1, f2, f3, g1, g2, g3, g4, g5, g6, g7]
theorem take_ok {S : Store} {k N : Nat} {x : Cell} {n : Int} (hk : S[k]? = some x) (hx : BoxC x N) (hN : N < 2 ^ 40) (hn : 0 < n) (hn2 : n < 2 ^ 8999) :
    ∃ r y, (0 ≤ r ∧ r < n) ∧ BoxC y (N + 1) ∧ f_l_take [.ref k, .int n] S = .ok (.int r) (S.set k y) := by
  obtain ⟨a, b, c, rfl, ha, hb, hc, hd⟩ := hx
  by_cases h : 0 < a
  · exact ⟨_, _, ⟨Int.emod_nonneg _ (by omega), Int.emod_lt_of_pos _ hn⟩, ⟨a / n, b, c, rfl, Int.ediv_nonneg ha (by omega), hb, hc, by omega⟩, take_eq1 S k a b c n hk h hn hn2⟩
  · exact ⟨_, _, ⟨Int.emod_nonneg _ (by omega), Int.emod_lt_of_pos _ hn⟩, ⟨a, b, c + 1, rfl, ha, hb, by omega, by omega⟩, take_eq2 S k a b c n hk h hn hb ⟨hc, by omega⟩⟩
theorem take_s {S0 S : Store} {k N : Nat} {n : Int} (h : BoxS S0 k N S) (hN : N < 2 ^ 40) (hn : 0 < n) (hn2 : n < 2 ^ 8999) :
    (f_l_take [.ref k, .int n] S).Sat fun d S' => ∃ r : Int, d = .int r ∧ 0 ≤ r ∧ r < n ∧ BoxS S0 k (N + 1) S' := by
  obtain ⟨x, hk, hx⟩ := h.get
  obtain ⟨r, y, hr, hy, e⟩ := take_ok hk hx hN hn hn2
  exact sat_of e ⟨r, rfl, hr.1, hr.2, h.set hy⟩
theorem of_s {S0 S : Store} {k N : Nat} {xs : List D} (h : BoxS S0 k N S) (hN : N < 2 ^ 40) (h0 : xs ≠ []) (h1 : xs.length < 2 ^ 60) :
    (f_l_of [.ref k, .lst xs] S).Sat fun d S' => d ∈ xs ∧ BoxS S0 k (N + 1) S' := by
  have hp : 0 < xs.length := List.length_pos_iff.mpr h0
  unfold f_l_of m_l_of
  rw [fnM_2]
  simp
  refine sat_step (take_s (n := (xs.length : Int)) h hN (by omega) (Int.lt_of_lt_of_le (show (xs.length : Int) < 2 ^ 60 by omega) (by decide))) ?_
  rintro _ S1 ⟨r, rfl, r0, r1, hS1⟩
  have hl : r.toNat < xs.length := by omega
  have hg : atI xs r = some xs[r.toNat] := by
    have e : ((r.toNat : Nat) : Int) = r := by omega
    have z := atI_get (List.getElem?_eq_getElem hl)
    rw [e] at z
    exact z
  simp [hg, fin_len (hS1.len.trans h.len.symm)]
  exact hS1
def IsLim (d : D) : Prop := ∃ p q : Int, d = .tup [.int p, .int q] ∧ 0 < p ∧ p < q ∧ q < 2 ^ 67
theorem limit_s {S0 S : Store} {k N : Nat} (h : BoxS S0 k N S) (hN : N + 3 < 2 ^ 40) : (f_l_limit [.ref k] S).Sat fun d S' => IsLim d ∧ BoxS S0 k (N + 3) S' := by
  unfold f_l_limit m_l_limit
  rw [fnM_1]
  simp
  refine sat_step (take_s (n := 8) h (by omega) (by decide) (by decide)) ?_
  rintro _ S1 ⟨r1, rfl, a1, b1, h1⟩
  have p1 : powOk 10 18 = true := by decide
  have p2 : powOk 10 20 = true := by decide
  by_cases e0 : r1 = 0
  · simp [e0, p1]
    refine sat_step (take_s (n := 1000000000000000000) h1 (by omega) (by decide) (by decide)) ?_
    rintro _ S2 ⟨r2, rfl, a2, b2, h2⟩
    simp [p1, p2]
    refine sat_step (take_s (n := 100000000000000000000) h2 (by omega) (by decide) (by decide)) ?_
    rintro _ S3 ⟨r3, rfl, a3, b3, h3⟩
    simp [fin_len (h3.len.trans h.len.symm)]
    exact ⟨⟨_, _, rfl, by omega, by omega, by omega⟩, h3⟩
  · by_cases e1 : r1 = 1
    · simp [e1]
      refine sat_step (take_s (n := 3) h1 (by omega) (by decide) (by decide)) ?_
      rintro _ S2 ⟨r2, rfl, a2, b2, h2⟩
      have m1 : mulOk r2 2 = true := mulOk_r (by decide)
      simp [m1, fin_len (h2.len.trans h.len.symm)]
      exact ⟨⟨_, _, rfl, by omega, by omega, by omega⟩, h2.mono (by omega)⟩
    · simp [e0, e1]
      refine sat_step (of_s h1 (by omega) (by simp) (by simp)) ?_
      rintro d S2 ⟨hd, h2⟩
      simp only [List.mem_cons, List.mem_nil_iff, or_false] at hd
      simp [fin_len (h2.len.trans h.len.symm)]
      refine ⟨?_, h2.mono (by omega)⟩
      rcases hd with rfl | rfl | rfl | rfl | rfl | rfl <;> exact ⟨_, _, rfl, by decide⟩
/-- through a comprehension that draws: what each item is; c draws an item at most, T in all -/
theorem lcL_draw {g : MG} {m : ME} {ρ : Q.Env} {S0 : Store} {k c T : Nat} {P : D → Prop} : ∀ (ds : List D) (N : Nat) (S : Store), BoxS S0 k N S → N + c * ds.length ≤ T →
    (∀ d ∈ ds, ∀ M S, BoxS S0 k M S → M + c ≤ T → ∃ ρ1, g d ρ S = .ok ρ1 S ∧ (m ρ1 S).Sat fun v S' => P v ∧ BoxS S0 k (M + c) S') →
    (lcL g mYes m ρ ds S).Sat fun vs S' => vs.length = ds.length ∧ (∀ v ∈ vs, P v) ∧ BoxS S0 k (N + c * ds.length) S'
  | [], N, S, h, _, _ => ⟨rfl, fun v hv => absurd hv (by simp), by simpa using h⟩
  | d :: ds, N, S, h, hT, turn => by
    rw [List.length_cons, Nat.mul_succ] at hT ⊢
    obtain ⟨ρ1, h1, h2⟩ := turn d (by simp) N S h (by omega)
    unfold lcL
    rw [h1]
    simp only [bind_ok, ap_yes]
    refine sat_step h2 fun v S1 ⟨hv, hS1⟩ => ?_
    refine sat_step (lcL_draw ds (N + c) S1 hS1 (by omega) fun e he => turn e (by simp [he])) fun vs S2 ⟨l, hvs, hS2⟩ => ?_
    refine ⟨by simp [l], fun w hw => ?_, hS2.mono (by omega)⟩
    rcases List.mem_cons.mp hw with rfl | hw
    · exact hv
    · exact hvs w hw
/-- strings of no great length, data of no great depth: what == says -/
theorem eq_plain {a b : D} {S : Store} (ha : shal 20 a = true) (hb : shal 20 b = true) : opEq a b S = .ok (.bl (deq a b)) S := by
  have da : ∀ d, shal 20 d = true → deref S d = d := fun d h => by cases d <;> first | rfl | simp [shal] at h
  have key : (if shal 20 (deref S a) && shal 20 (deref S b) then Res.ok (D.bl (deq (deref S a) (deref S b))) S else Res.no) = .ok (.bl (deq a b)) S := by
    rw [da a ha, da b hb, ha, hb]
    rfl
  cases a <;> cases b <;> first
    | exact key
    | (simp only [opEq, deq])
theorem ne_plain {a b : D} {S : Store} (ha : shal 20 a = true) (hb : shal 20 b = true) : opNe a b S = .ok (.bl (!deq a b)) S := by
  have da : ∀ d, shal 20 d = true → deref S d = d := fun d h => by cases d <;> first | rfl | simp [shal] at h
  have key : (if shal 20 (deref S a) && shal 20 (deref S b) then Res.ok (D.bl (!deq (deref S a) (deref S b))) S else Res.no) = .ok (.bl (!deq a b)) S := by
    rw [da a ha, da b hb, ha, hb]
    rfl
  cases a <;> cases b <;> first
    | exact key
    | (simp only [opNe, deq])
@[simp] theorem eq_non {S : Store} : opEq .non .non S = .ok (.bl true) S := eq_plain rfl rfl
/-- plain data, at most n levels deep, no long rows -/
def okD : Nat → D → Bool
  | _, .non => true
  | _, .bl _ => true
  | _, .int _ => true
  | _, .str _ => true
  | n + 1, .tup xs => decide (xs.length ≤ 100000) && xs.all (okD n)
  | n + 1, .lst xs => decide (xs.length ≤ 100000) && xs.all (okD n)
  | _, _ => false
@[simp] theorem okD_non (n : Nat) : okD n .non = true := by cases n <;> rfl
@[simp] theorem okD_bl (n : Nat) (b : Bool) : okD n (.bl b) = true := by cases n <;> rfl
@[simp] theorem okD_int (n : Nat) (b : Int) : okD n (.int b) = true := by cases n <;> rfl
@[simp] theorem okD_str (n : Nat) (b : Str) : okD n (.str b) = true := by cases n <;> rfl
@[simp] theorem okD_tup (n : Nat) (xs : List D) : okD (n + 1) (.tup xs) = (decide (xs.length ≤ 100000) && xs.all (okD n)) := rfl
@[simp] theorem okD_lst (n : Nat) (xs : List D) : okD (n + 1) (.lst xs) = (decide (xs.length ≤ 100000) && xs.all (okD n)) := rfl
theorem okD_pure : ∀ (n : Nat) (d : D), okD n d = true → pureD d = true
  | _, .non, _ => rfl
  | _, .bl _, _ => rfl
  | _, .int _, _ => rfl
  | _, .str _, _ => rfl
  | n + 1, .tup xs, h => by
    rw [okD_tup, Bool.and_eq_true] at h
    exact pureL_all.mpr fun d hd => okD_pure n d (List.all_eq_true.mp h.2 d hd)
  | n + 1, .lst xs, h => by
    rw [okD_lst, Bool.and_eq_true] at h
    exact pureL_all.mpr fun d hd => okD_pure n d (List.all_eq_true.mp h.2 d hd)
  | 0, .tup xs, h => by simp [okD] at h
  | 0, .lst xs, h => by simp [okD] at h
  | 0, .fro _, h => by simp [okD] at h
  | 0, .obj _ _, h => by simp [okD] at h
  | 0, .exn _ _, h => by simp [okD] at h
  | 0, .ref _, h => by simp [okD] at h
  | _ + 1, .fro _, h => by simp [okD] at h
  | _ + 1, .obj _ _, h => by simp [okD] at h
  | _ + 1, .exn _ _, h => by simp [okD] at h
  | _ + 1, .ref _, h => by simp [okD] at h
theorem zip_self (xs : List D) : zipD xs xs = xs.map fun x => .tup [x, x] := by
  unfold zipD
  induction xs with
  | nil => rfl
  | cons x xs ih => simp [ih]
theorem same_lc {k : Nat} {ρ : Q.Env} {f : List D → Store → Res D} (h2 : 3 < ρ.length) : ∀ (xs : List D) (S : Store), (∀ x ∈ xs, ∀ T, fPure f [x, x] T = .ok (.bl true) T) →
    lcL (mgTup 2 (mgCons (mgN 2) (mgCons (mgN 3) mgNil))) mYes (mCall (fPure f) (mCons (mVar 2) (mCons (mVar 3) mNil))) ρ (zipD xs xs) S = .ok (List.replicate xs.length (.bl true)) S := by
  intro xs S h
  rw [zip_self, lcL_map (f := fun _ => .bl true) (xs.map fun x => .tup [x, x]) S]
  · rw [List.map_map]
    show Res.ok (xs.map fun _ => D.bl true) S = _
    rw [List.map_const']
  · intro d hd
    obtain ⟨x, hx, rfl⟩ := List.mem_map.mp hd
    refine ⟨_, rfl, ?_⟩
    have e2 : ((ρ.set 2 (some x)).set 3 (some x))[2]? = some (some x) := by rw [List.getElem?_set_ne (by decide), List.getElem?_set_self (by omega)]
    have e3 : ((ρ.set 2 (some x)).set 3 (some x))[3]? = some (some x) := List.getElem?_set_self (by simpa using h2)
    simp only [ap_call, ap_cons, ap_var, e2, e3, varK_some, bind_ok, consK_ap, ap_nil, consK2_ap, h x hx S]
theorem same_self : ∀ (k n : Nat) (d : D) (S : Store), okD n d = true → n < k → f_l_same k [d, d] S = .ok (.bl true) S
  | 0, n, d, S, _, hk => absurd hk (by omega)
  | k + 1, n, d, S, h, hk => by
    have seq : ∀ xs : List D, (∀ x ∈ xs, okD (n - 1) x = true ∧ 0 < n) → ∀ x ∈ xs, ∀ T, fPure (f_l_same k) [x, x] T = .ok (.bl true) T := fun xs hx x hm T => by
      have p := okD_pure _ _ (hx x hm).1
      exact fPure_ap T (by simp [p]) (same_self k (n - 1) x [] (hx x hm).1 (by have := (hx x hm).2; omega))
    have all : ∀ (m : Nat) (S : Store), fAll [.lst (List.replicate m (.bl true))] S = .ok (.bl true) S := fun m S => by
      have hb : boolsD (List.replicate m (D.bl true)) = some (List.replicate m true) := by
        induction m with
        | zero => rfl
        | succ m ih => rw [List.replicate_succ, boolsD, ih]; rfl
      rw [all_lst hb]
      simp
    cases d with
    | non => simp [f_l_same, fnM, m_l_same, isTy]
    | bl b => simp [f_l_same, fnM, m_l_same, isTy]
    | int b => simp [f_l_same, fnM, m_l_same, isTy]
    | str b => simp [f_l_same, fnM, m_l_same, isTy]
    | tup xs =>
      cases n with
      | zero => simp [okD] at h
      | succ n =>
        rw [okD_tup, Bool.and_eq_true, decide_eq_true_eq] at h
        have hs := same_lc (k := k) (f := f_l_same k) (ρ := [some (.tup xs), some (.tup xs), none, none]) (by simp) xs S (seq xs fun x hx => ⟨List.all_eq_true.mp h.2 x hx, by omega⟩)
        have hl : (zipD xs xs).length ≤ 100000 := by rw [zip_self, List.length_map]; exact h.1
        simp [f_l_same, fnM, m_l_same, isTy, hl, hs, all]
    | lst xs =>
      cases n with
      | zero => simp [okD] at h
      | succ n =>
        rw [okD_lst, Bool.and_eq_true, decide_eq_true_eq] at h
        have hs := same_lc (k := k) (f := f_l_same k) (ρ := [some (.lst xs), some (.lst xs), none, none]) (by simp) xs S (seq xs fun x hx => ⟨List.all_eq_true.mp h.2 x hx, by omega⟩)
        have hl : (zipD xs xs).length ≤ 100000 := by rw [zip_self, List.length_map]; exact h.1
        simp [f_l_same, fnM, m_l_same, isTy, hl, hs, all]
    | fro xs => cases n <;> simp [okD] at h
    | obj c xs => cases n <;> simp [okD] at h
    | exn c xs => cases n <;> simp [okD] at h
    | ref j => cases n <;> simp [okD] at h
theorem sameP {d : D} (S : Store) (h : okD 20 d = true) : fPure (f_l_same 30) [d, d] S = .ok (.bl true) S := fPure_ap S (by simp [okD_pure 20 d h]) (same_self 30 20 d [] h (by decide))
theorem sameP2 {d e : D} (S : Store) (he : d = e) (h : okD 20 e = true) : fPure (f_l_same 30) [d, e] S = .ok (.bl true) S := by rw [he]; exact sameP S h
theorem deq_self : ∀ (n : Nat) (d : D), shal n d = true → deq d d = true
  | _, .non, _ => by simp [deq]
  | _, .bl b, _ => by simp [deq]
  | _, .int b, _ => by simp [deq]
  | _, .str b, _ => by simp [deq]
  | n + 1, .tup xs, h => by
    have h' : ∀ x ∈ xs, shal n x = true := by simpa [shal] using h
    have go : ∀ ys : List D, (∀ y ∈ ys, deq y y = true) → deqL ys ys = true := by
      intro ys
      induction ys with
      | nil => intro _; simp [deqL]
      | cons y ys ih => intro hy; simp [deqL, hy y (by simp), ih fun z hz => hy z (by simp [hz])]
    simpa [deq] using go xs fun x hx => deq_self n x (h' x hx)
  | n + 1, .lst xs, h => by
    have h' : ∀ x ∈ xs, shal n x = true := by simpa [shal] using h
    have go : ∀ ys : List D, (∀ y ∈ ys, deq y y = true) → deqL ys ys = true := by
      intro ys
      induction ys with
      | nil => intro _; simp [deqL]
      | cons y ys ih => intro hy; simp [deqL, hy y (by simp), ih fun z hz => hy z (by simp [hz])]
    simpa [deq] using go xs fun x hx => deq_self n x (h' x hx)
  | 0, .tup xs, h => by simp [shal] at h
  | 0, .lst xs, h => by simp [shal] at h
  | n, .fro _, h => by cases n <;> simp [shal] at h
  | n, .obj _ _, h => by cases n <;> simp [shal] at h
  | n, .exn _ _, h => by cases n <;> simp [shal] at h
  | n, .ref _, h => by cases n <;> simp [shal] at h
theorem eq_selfD {d : D} {S : Store} (h : shal 20 d = true) : opEq d d S = .ok (.bl true) S := by rw [eq_plain h h, deq_self 20 d h]
theorem ne_selfD {d : D} {S : Store} (h : shal 20 d = true) : opNe d d S = .ok (.bl false) S := by rw [ne_plain h h, deq_self 20 d h]; rfl
theorem eq_sameD {d e : D} {S : Store} (he : d = e) (h : shal 20 e = true) : opEq d e S = .ok (.bl true) S := by rw [he]; exact eq_selfD h
theorem ne_sameD {d e : D} {S : Store} (he : d = e) (h : shal 20 e = true) : opNe d e S = .ok (.bl false) S := by rw [he]; exact ne_selfD h
@[simp] theorem shal_int (n : Nat) (i : Int) : shal n (.int i) = true := by cases n <;> rfl
@[simp] theorem shal_bl (n : Nat) (i : Bool) : shal n (.bl i) = true := by cases n <;> rfl
@[simp] theorem shal_non (n : Nat) : shal n .non = true := by cases n <;> rfl
@[simp] theorem shal_tup (n : Nat) (xs : List D) : shal (n + 1) (.tup xs) = xs.all (shal n) := rfl
@[simp] theorem shal_lst (n : Nat) (xs : List D) : shal (n + 1) (.lst xs) = xs.all (shal n) := rfl
theorem shal_map {β : Type} {f : β → D} {n : Nat} (h : ∀ b, shal n (f b) = true) (xs : List β) : (xs.map f).all (shal n) = true := List.all_eq_true.mpr fun d hd => by
  obtain ⟨b, _, rfl⟩ := List.mem_map.mp hd
  exact h b
theorem in_lst {a : D} {xs : List D} {S : Store} (ha : shal 20 a = true) (hx : shal 20 (.lst xs) = true) : opIn a (.lst xs) S = .ok (.bl (inD xs a)) S := by
  show (if shal 20 a && shal 20 (.lst xs) then Res.ok (D.bl (inD xs a)) S else .no) = _
  rw [ha, hx]
  rfl
theorem in_tup {a : D} {xs : List D} {S : Store} (ha : shal 20 a = true) (hx : shal 20 (.tup xs) = true) : opIn a (.tup xs) S = .ok (.bl (inD xs a)) S := by
  show (if shal 20 a && shal 20 (.tup xs) then Res.ok (D.bl (inD xs a)) S else .no) = _
  rw [ha, hx]
  rfl
theorem nin_lst {a : D} {xs : List D} {S : Store} (ha : shal 20 a = true) (hx : shal 20 (.lst xs) = true) : opNin a (.lst xs) S = .ok (.bl (!inD xs a)) S := by
  show (if shal 20 a && shal 20 (.lst xs) then Res.ok (D.bl (!inD xs a)) S else .no) = _
  rw [ha, hx]
  rfl
theorem nin_tup {a : D} {xs : List D} {S : Store} (ha : shal 20 a = true) (hx : shal 20 (.tup xs) = true) : opNin a (.tup xs) S = .ok (.bl (!inD xs a)) S := by
  show (if shal 20 a && shal 20 (.tup xs) then Res.ok (D.bl (!inD xs a)) S else .no) = _
  rw [ha, hx]
  rfl
theorem cutD_take (xs : List D) (m : Nat) : cutD xs none (some (m : Int)) = xs.take m := by
  unfold cutD
  rw [HT.sIx_none, HT.sIx_nat]
  show List.take (min m xs.length - 0) (List.drop 0 xs) = _
  rw [List.drop_zero, Nat.sub_zero]
  by_cases h : m ≤ xs.length
  · rw [Nat.min_eq_left h]
  · rw [Nat.min_eq_right (by omega), List.take_of_length_le (Nat.le_refl _), List.take_of_length_le (by omega)]
theorem cutD_mid (xs : List D) (m n : Nat) : cutD xs (some (m : Int)) (some (n : Int)) = (xs.drop m).take (n - m) := by
  unfold cutD
  rw [HT.sIx_nat, HT.sIx_nat]
  by_cases h : m ≤ xs.length
  · rw [Nat.min_eq_left h]
    by_cases h2 : n ≤ xs.length
    · rw [Nat.min_eq_left h2]
    · rw [Nat.min_eq_right (by omega), List.take_of_length_le (by rw [List.length_drop]; omega), List.take_of_length_le (by rw [List.length_drop]; omega)]
  · rw [Nat.min_eq_right (show xs.length ≤ m by omega), List.drop_of_length_le (Nat.le_refl _), List.drop_of_length_le (by omega)]
    simp
theorem pure_ints (cs : List Int) : pureL (cs.map D.int) = true := pureL_all.mpr fun d hd => by
  obtain ⟨z, _, rfl⟩ := List.mem_map.mp hd
  rfl
/-- the loop's state -/
def CellsI (v0 : D) (m c n : Nat) (ds : List D) (ρ : Q.Env) (S : Store) : Prop := ∃ (cs : List Int) (i : Nat) (xs : List Int) (w3 w4 w5 : Option D), ds = enumD i (xs.map D.int) ∧ i + xs.length ≤ 63 ∧ cs.length = n ∧ (xs ≠ [] → n = m) ∧
  ρ = [some v0, some (.int m), some (.ref c), w3, w4, w5] ∧ S[c]? = some (.lst (cs.map D.int))
theorem cells_ok (ns : List Int) (hn : ns.length ≤ 63) (m : Nat) (hm : 0 < m) (hm2 : m ≤ 63) : ∃ cs : List Int, 0 < cs.length ∧ cs.length ≤ m ∧ f_l_cells [scriptD ns, .int (m : Nat)] [] = .ok (.lst (cs.map .int)) [] := by
  have c1 : cutD (ns.map D.int) none (some (m : Int)) = (ns.take m).map D.int := by rw [cutD_take, List.map_take]
  have c2 : cutD (ns.map D.int) (some (m : Int)) (some 63) = ((ns.drop m).take (63 - m)).map D.int := by
    have := cutD_mid (ns.map D.int) m 63
    rw [show ((63 : Nat) : Int) = 63 from rfl] at this
    rw [this, List.map_take, List.map_drop]
  have ht : (ns.take m).length = min m ns.length := List.length_take
  suffices h : (f_l_cells [scriptD ns, .int (m : Nat)] []).Sat fun d S => S = [] ∧ ∃ cs : List Int, 0 < cs.length ∧ cs.length ≤ m ∧ d = .lst (cs.map .int) by
    obtain ⟨d, S, e, rfl, cs, h1, h2, rfl⟩ := sat_eq h
    exact ⟨cs, h1, h2, e⟩
  have loop : ∀ (ys : List Int) (c : Nat) (cs0 : List Int) (S0 : Store), ys.length ≤ 63 → S0[c]? = some (.lst (cs0.map D.int)) → 0 < cs0.length → cs0.length ≤ m → (ys ≠ [] → cs0.length = m) →
      ((forL (mgTup 2 (mgCons (mgN 3) (mgCons (mgN 4) mgNil))) (mSeq (mAsg (mOp opModI (mCall fInt (mCons (mVar 3) mNil)) (mVar 1)) (mgN 5))
      (mAsg (mOp opAdd (mOp opIx (mVar 2) (mVar 5)) (mOp opMul (mVar 4) (mOp opAdd (mVar 3) (mC (.int 2))))) (mgSub (mVar 2) (mVar 5)))) (enumD 0 (ys.map D.int)) [some (.fro (ns.map D.int)), some (.int m), some (.ref c), none, none, none] S0).Sat
      fun f S => ∃ cs : List Int, 0 < cs.length ∧ cs.length ≤ m ∧ ∃ w3 w4 w5, f = .nx [some (.fro (ns.map D.int)), some (.int m), some (.ref c), w3, w4, w5] ∧ S[c]? = some (.lst (cs.map D.int))) := by
    intro ys c cs0 S0 hy h0 p0 p1 p2
    refine forL_sat (CellsI (.fro (ns.map D.int)) m c cs0.length) ?_ ?_ _ _ _ ⟨cs0, 0, ys, none, none, none, rfl, by omega, rfl, p2, rfl, h0⟩
    · rintro d ds ρ S ⟨cs, i, xs, w3, w4, w5, e, hi, hl, hnm, rfl, hS⟩
      cases xs with
      | nil => simp [enumD] at e
      | cons x xs =>
        simp only [List.map_cons, enumD, List.cons.injEq] at e
        obtain ⟨rfl, rfl⟩ := e
        rw [List.length_cons] at hi
        have hlm : cs.length = m := by rw [hl]; exact hnm (by simp)
        obtain ⟨j, hj, hjm⟩ : ∃ j : Nat, (i : Int) % (m : Int) = (j : Int) ∧ j < m := ⟨((i : Int) % (m : Int)).toNat, by
          have := Int.emod_nonneg (i : Int) (show (m : Int) ≠ 0 by omega)
          omega, by
          have := Int.emod_lt_of_pos (i : Int) (show (0 : Int) < m by omega)
          omega⟩
        have hlt : j < cs.length := by rw [hlm]; exact hjm
        have hg : (cs.map D.int)[j]? = some (.int cs[j]) := by rw [List.getElem?_map, List.getElem?_eq_getElem hlt]; rfl
        have ha := atI_get hg
        have hx : ixN cs.length (j : Int) = some j := by
          unfold ixN
          rw [if_pos (by omega), if_pos (by omega)]
          simp
        have hm1 : mulOk x ((i : Int) + 2) = true := mulOk_r (by omega)
        have hmo : modOk (i : Int) (m : Int) = true := modOk_of (by omega)
        refine ⟨[some (.fro (ns.map D.int)), some (.int m), some (.ref c), some (.int i), some (.int x), w5], S, by simp, ?_⟩
        simp [hmo, hj, ix_refD _ hS, ha, hm1, setIx, hS, hx]
        refine ⟨cs.set j (cs[j] + x * ((i : Int) + 2)), i + 1, xs, some (.int i), some (.int x), some (.int (j : Int)), rfl, by omega, by simpa using hl, fun _ => hnm (by simp), rfl, ?_⟩
        rw [List.map_set]
        exact set_get hS
    · rintro ρ S ⟨cs, i, xs, w3, w4, w5, e, hi, hl, hnm, rfl, hS⟩
      exact ⟨cs, by omega, by omega, w3, w4, w5, rfl, hS⟩
  unfold f_l_cells m_l_cells
  rw [fnM_2]
  by_cases h0 : ns = []
  · subst h0
    simp only [List.map_nil, List.take_nil, List.drop_nil] at c1 c2
    have e1 : ([Cell.lst [], Cell.lst [.int 0]] : Store)[1]? = some (.lst [.int 0]) := rfl
    have tr : truth [Cell.lst []] (.ref 0) = some false := rfl
    simp [scriptD, c1, c2, tr]
    refine sat_step (loop [] 1 [0] _ (by simp) rfl (by decide) hm (by simp)) ?_
    rintro _ S ⟨cs, q1, q2, w3, w4, w5, rfl, hS⟩
    simp [fz_ref hS, fin_nil, pure_ints]
    exact ⟨cs, q1, q2, rfl⟩
  · have hp : 0 < ns.length := List.length_pos_iff.mpr h0
    have hne : (ns.take m).isEmpty = false := by
      cases ns with
      | nil => exact absurd rfl h0
      | cons a t =>
        cases m with
        | zero => omega
        | succ m => rfl
    have hd : (ns.drop m).take (63 - m) ≠ [] → (ns.take m).length = m := fun h => by
      have : 0 < ((ns.drop m).take (63 - m)).length := List.length_pos_iff.mpr h
      rw [List.length_take, List.length_drop] at this
      rw [ht]
      omega
    have hy : ((ns.drop m).take (63 - m)).length ≤ 63 := by rw [List.length_take, List.length_drop]; omega
    have hl0 : 0 < (ns.take m).length := by rw [ht]; omega
    have hlm : (ns.take m).length ≤ m := by rw [ht]; omega
    generalize ns.take m = L at *
    generalize (ns.drop m).take (63 - m) = ys at *
    have e0 : ([Cell.lst (L.map D.int)] : Store)[0]? = some (.lst (L.map D.int)) := rfl
    have tr : truth [Cell.lst (L.map D.int)] (.ref 0) = some true := by rw [truth_ref e0, List.isEmpty_map, hne]; rfl
    simp [scriptD, c1, tr, c2]
    refine sat_step (loop ys 0 L _ hy e0 hl0 hlm hd) ?_
    rintro _ S ⟨cs, q1, q2, w3, w4, w5, rfl, hS⟩
    simp [fz_ref hS, fin_nil, pure_ints]
    exact ⟨cs, q1, q2, rfl⟩
theorem box_ok (S : Store) (cs : List Int) (k : Nat) (off : Int) (hk : k < cs.length) (hk3 : k < 100) (ho : 0 ≤ off ∧ off < 100000)
    (hm : m_l_box = (mSeq (mAsg (mIfE (mTB (mOp opLt (mVar 1) (mCall fLen (mCons (mVar 0) mNil)))) (mOp opIx (mVar 0) (mVar 1)) (mC (.int 0))) (mgN 2))
  (mRet (mCell (mCons (mOp opMul (mCall fAbs (mCons (mVar 2) mNil)) (mCall fInt (mCons (mOp opGe (mCall fAbs (mCons (mVar 2) mNil)) (mOp opPowI (mC (.int 10)) (mC (.int 18)))) mNil))) (mCons (mOp opAdd (mOp opAdd (mOp opModI (mCall fInt (mCons (mVar 2) mNil)) (mC (.int 2305843009213693951))) (mOp opMul (mC (.int 39373)) (mVar 1))) (mC (.int off))) (mCons (mC (.int 0)) mNil))))))) :
    ∃ x, BoxC x 0 ∧ f_l_box [.lst (cs.map .int), .int (k : Nat)] S = .ok (.ref S.length) (S ++ [x]) := by
  have hg : atI (cs.map D.int) (k : Int) = some (.int cs[k]) := atI_get (by rw [List.getElem?_map, List.getElem?_eq_getElem hk]; rfl)
  have p1 : powOk 10 18 = true := by decide
  have m2 : mulOk 39373 (k : Int) = true := mulOk_l (by decide)
  have g1 : ∀ u, modOk u 2305843009213693951 = true := fun u => modOk_of (by decide)
  have hlt : ((k : Int) < (cs.length : Int)) := by omega
  generalize cs[k] = z at *
  obtain ⟨u, hu, ha⟩ : ∃ u : Int, 0 ≤ u ∧ ∀ T, fAbs [.int z] T = .ok (.int u) T := ⟨if z < 0 then -z else z, by split <;> omega, fun _ => rfl⟩
  have m1 : mulOk u (if 1000000000000000000 ≤ u then 1 else 0) = true := mulOk_r (by split <;> decide)
  have q0 : (0 : Int) ≤ u * (if 1000000000000000000 ≤ u then 1 else 0) := by split <;> simp [hu]
  refine ⟨box (u * (if 1000000000000000000 ≤ u then 1 else 0)) (z % 2305843009213693951 + 39373 * (k : Int) + off) 0, ⟨_, _, _, rfl, q0, ?_, by decide, by decide⟩, ?_⟩
  · have h1 := Int.emod_nonneg z (show (2305843009213693951 : Int) ≠ 0 by decide)
    have h2 := Int.emod_lt_of_pos z (show (0 : Int) < 2305843009213693951 by decide)
    omega
  · unfold f_l_box
    rw [hm, fnC_2]
    simp [-abs_int, ha, hg, hlt, p1, m1, m2, g1]
def BoxOk : Prop := ∀ (S : Store) (cs : List Int) (k : Nat), k < cs.length → k < 100 → ∃ x, BoxC x 0 ∧ f_l_box [.lst (cs.map .int), .int (k : Nat)] S = .ok (.ref S.length) (S ++ [x])
theorem box_s {S : Store} {cs : List Int} {k : Nat} (hb : BoxOk) (hk : k < cs.length) (hk2 : k < 100) : (f_l_box [.lst (cs.map .int), .int (k : Nat)] S).Sat fun d S' => d = .ref S.length ∧ S.length + 1 = S'.length ∧ BoxS S' S.length 0 S' := by
  obtain ⟨x, hx, e⟩ := hb S cs k hk hk2
  exact sat_of e ⟨rfl, by simp, BoxS.start (x := x) (by simp) hx⟩
theorem BoxC.pure {x : Cell} {N : Nat} (h : BoxC x N) : x.pure = true := by
  obtain ⟨a, b, c, rfl, _⟩ := h
  rfl
theorem BoxS.pure {S0 S : Store} {k N : Nat} (h : BoxS S0 k N S) (hp : S0.all Cell.pure = true) : S.all Cell.pure = true := by
  obtain ⟨y, rfl, hy, hk⟩ := h
  refine List.all_eq_true.mpr fun c hc => ?_
  rcases List.mem_or_eq_of_mem_set hc with m | rfl
  · exact List.all_eq_true.mp hp c m
  · exact hy.pure
theorem lcL_mapx {β : Type} {u w : β → D} {g : MG} {m : ME} {ρ : Q.Env} : ∀ (xs : List β) (S : Store), (∀ x ∈ xs, ∃ ρ1, g (u x) ρ S = .ok ρ1 S ∧ m ρ1 S = .ok (w x) S) → lcL g mYes m ρ (xs.map u) S = .ok (xs.map w) S
  | [], S, _ => rfl
  | x :: xs, S, h => by
    obtain ⟨ρ1, h1, h2⟩ := h x (by simp)
    rw [List.map_cons]
    unfold lcL
    rw [h1]
    simp only [bind_ok, ap_yes]
    rw [h2]
    simp only [bind_ok]
    rw [lcL_mapx xs S fun y hy => h y (by simp [hy])]
    rfl
theorem zipD_map {β γ : Type} {f : β → D} {g : γ → D} : ∀ (xs : List β) (ys : List γ), zipD (xs.map f) (ys.map g) = (xs.zip ys).map fun p => .tup [f p.1, g p.2]
  | [], _ => rfl
  | _ :: _, [] => rfl
  | x :: xs, y :: ys => by
    show D.tup [f x, g y] :: zipD (xs.map f) (ys.map g) = _
    rw [zipD_map xs ys]
    rfl
theorem ne_refD {k : Nat} {xs : List D} {S : Store} (h : S[k]? = some (.lst xs)) (hs : shal 20 (.lst xs) = true) : opNe (.ref k) (.lst xs) S = .ok (.bl false) S := by
  have hd : deref S (.ref k) = .lst xs := by simp [deref, h]
  have hd2 : deref S (.lst xs) = .lst xs := rfl
  unfold opNe
  simp only [hd, hd2, hs, deq_self 20 _ hs]
  rfl
theorem eq_refD {k : Nat} {xs : List D} {S : Store} (h : S[k]? = some (.lst xs)) (hs : shal 20 (.lst xs) = true) : opEq (.ref k) (.lst xs) S = .ok (.bl true) S := by
  have hd : deref S (.ref k) = .lst xs := by simp [deref, h]
  have hd2 : deref S (.lst xs) = .lst xs := rfl
  unfold opEq
  simp only [hd, hd2, hs, deq_self 20 _ hs]
  rfl
theorem shal_ints (xs : List Int) : shal 20 (.lst (xs.map .int)) = true := by
  rw [shal_lst]
  exact shal_map (fun _ => shal_int _ _) xs
theorem lcL_filtermap {β : Type} {u w : β → D} {q : β → Bool} {g : MG} {t : MT} {m : ME} {ρ : Q.Env} : ∀ (xs : List β) (S : Store), (∀ x ∈ xs, ∃ ρ1, g (u x) ρ S = .ok ρ1 S ∧ t ρ1 S = .ok (q x) S ∧ m ρ1 S = .ok (w x) S) → lcL g t m ρ (xs.map u) S = .ok ((xs.filter q).map w) S
  | [], S, _ => rfl
  | x :: xs, S, h => by
    obtain ⟨ρ1, h1, h2, h3⟩ := h x (by simp)
    have ih := lcL_filtermap xs S fun y hy => h y (by simp [hy])
    rw [List.map_cons]
    unfold lcL
    rw [h1]
    simp only [bind_ok]
    rw [h2]
    simp only [bind_ok]
    cases e : q x with
    | true =>
      simp only [e, if_true, h3, bind_ok, ih, List.filter_cons]
      rfl
    | false =>
      simp only [e, ih, List.filter_cons]
      rfl
/-! ### a cell of one's own beside the box -/
theorem BoxS.lt {S0 S : Store} {k N : Nat} (h : BoxS S0 k N S) : k < S0.length := by obtain ⟨y, _, _, hk⟩ := h; exact hk
theorem BoxS.push {S0 S : Store} {k N : Nat} (c : Cell) (h : BoxS S0 k N S) : BoxS (S0 ++ [c]) k N (S ++ [c]) := by
  obtain ⟨y, rfl, hy, hk⟩ := h
  exact ⟨y, by rw [List.set_append_left _ _ hk], hy, by simp; omega⟩
theorem BoxS.last {S0 S : Store} {k N : Nat} {c : Cell} (h : BoxS (S0 ++ [c]) k N S) (hk : k < S0.length) : S[S0.length]? = some c := by
  obtain ⟨y, rfl, _, _⟩ := h
  rw [List.getElem?_set_ne (by omega)]
  simp
theorem BoxS.setLast {S0 S : Store} {k N : Nat} {c : Cell} (c' : Cell) (h : BoxS (S0 ++ [c]) k N S) (hk : k < S0.length) : BoxS (S0 ++ [c']) k N (S.set S0.length c') := by
  obtain ⟨y, rfl, hy, _⟩ := h
  refine ⟨y, ?_, hy, by simp; omega⟩
  rw [List.set_append_left _ _ hk, List.set_append_left _ _ hk]
  have e : (S0.set k y).length = S0.length := by simp
  rw [← e, List.set_append_right _ _ (Nat.le_refl _)]
  simp
theorem BoxS.cut {S0 S : Store} {k N : Nat} {c : Cell} (h : BoxS (S0 ++ [c]) k N S) (hk : k < S0.length) : S.length = S0.length + 1 ∧ BoxS S0 k N (S.take S0.length) := by
  obtain ⟨y, rfl, hy, _⟩ := h
  refine ⟨by simp, y, ?_, hy, hk⟩
  rw [List.set_append_left _ _ hk]
  exact List.take_left' (by simp)
/-- what a def with one cell of its own hands back -/
theorem fin_cut {S0 S : Store} {k N n : Nat} {c : Cell} {d : D} (h : BoxS (S0 ++ [c]) k N S) (hk : k < S0.length) (hn : n = S0.length) (hp : S0.all Cell.pure = true) (hd : pureD d = true) : ∃ S', fin n d S = .ok d S' ∧ BoxS S0 k N S' := by
  obtain ⟨hl, hb⟩ := h.cut hk
  refine ⟨S.take S0.length, ?_, hb⟩
  subst hn
  exact fin_ok (by omega) hd (hb.pure hp)
/-! ### several cells of one's own beside the box -/
theorem BoxS.pushes {S0 S : Store} {k N : Nat} (cs : List Cell) (h : BoxS S0 k N S) : BoxS (S0 ++ cs) k N (S ++ cs) := by
  obtain ⟨y, rfl, hy, hk⟩ := h
  exact ⟨y, by rw [List.set_append_left _ _ hk], hy, by simp; omega⟩
theorem BoxS.cuts {S0 S : Store} {cs : List Cell} {k N : Nat} (h : BoxS (S0 ++ cs) k N S) (hk : k < S0.length) : S.length = S0.length + cs.length ∧ BoxS S0 k N (S.take S0.length) := by
  obtain ⟨y, rfl, hy, _⟩ := h
  refine ⟨by simp, y, ?_, hy, hk⟩
  rw [List.set_append_left _ _ hk]
  exact List.take_left' (by simp)
theorem fin_cuts {S0 S : Store} {cs : List Cell} {k N n : Nat} {d : D} (h : BoxS (S0 ++ cs) k N S) (hk : k < S0.length) (hn : n = S0.length) (hp : S0.all Cell.pure = true) (hd : pureD d = true) : ∃ S', fin n d S = .ok d S' ∧ BoxS S0 k N S' := by
  obtain ⟨hl, hb⟩ := h.cuts hk
  subst hn
  by_cases h0 : cs.length = 0
  · refine ⟨S, by unfold fin; rw [if_pos (by omega)], ?_⟩
    rwa [List.take_of_length_le (by omega)] at hb
  · refine ⟨S.take S0.length, ?_, hb⟩
    exact fin_ok (by omega) hd (hb.pure hp)
/-- ascending STRETCHes of so many minutes -/
structure LooksOk (many : Int) (ps : List (Int × Int)) : Prop where
  up : ps.Pairwise plt
  ok : ∀ p ∈ ps, 0 ≤ p.1 ∧ p.1 < p.2 ∧ p.2 ≤ many
def looksD (ps : List (Int × Int)) : D := .tup (ps.map pairD)
theorem insU_len (x : Int × Int) : ∀ ys : List (Int × Int), (insU x ys).length ≤ ys.length + 1
  | [] => by simp [insU]
  | y :: ys => by
    unfold insU
    have := insU_len x ys
    split
    · simp
    · split
      · simp
      · simp; omega
theorem sortU_len : ∀ xs : List (Int × Int), (sortU xs).length ≤ xs.length
  | [] => by simp [sortU]
  | x :: xs => by
    unfold sortU
    have a := insU_len x (sortU xs)
    have b := sortU_len xs
    simp; omega
theorem min2_ok {a b : Int} {S : Store} : fMin2 [.int a, .int b] S = .ok (.int (if b < a then b else a)) S := rfl
def mLk : MS := (mSeq (mAsg (mCall (fCall f_l_take) (mCons (mVar 0) (mCons (mVar 1) mNil))) (mgN 7))
  (mIf (mTB (mOp opEq (mVar 3) (mC (.int 0)))) (mDrop (mApp (mVar 4) (mTup (mCons (mVar 7) (mCons (mOp opAdd (mOp opAdd (mVar 7) (mC (.int 1))) (mCall (fCall f_l_take) (mCons (mVar 0) (mCons (mOp opSubI (mVar 1) (mVar 7)) mNil)))) mNil))))) (mIf (mTB (mOp opEq (mVar 3) (mC (.int 1)))) (mDrop (mApp (mVar 4) (mTup (mCons (mVar 7) (mCons (mCall fMin2 (mCons (mVar 1) (mCons (mOp opAdd (mVar 7) (mVar 5)) mNil))) mNil))))) (mDrop (mApp (mVar 4) (mTup (mCons (mVar 7) (mCons (mCall fMin2 (mCons (mVar 1) (mCons (mOp opAdd (mOp opAdd (mVar 7) (mC (.int 1))) (mCall (fCall f_l_take) (mCons (mVar 0) (mCons (mC (.int 5)) mNil)))) mNil))) mNil))))))))
theorem looks_s {S0 S : Store} {k N : Nat} {many : Int} {most : Nat} (h : BoxS S0 k N S) (hp : S0.all Cell.pure = true) (hN : N + 2 * most + 10 < 2 ^ 40) (hm : 0 < many) (hm2 : many < lim) (hmost : most < 63) :
    (f_l_looks [.ref k, .int many, .int most] S).Sat fun d S' => ∃ ps, d = looksD ps ∧ LooksOk many ps ∧ ps.length ≤ most ∧ BoxS S0 k (N + 2 * most + 3) S' := by
  have hm3 : many < 2 ^ 8999 := Int.lt_trans hm2 (by decide)
  have hk := h.lt
  have turn : ∀ (way wide : Int) (v2 : Option D) (ps : List (Int × Int)) (v6 v7 : Option D) (M : Nat) (T : Store), 0 < wide → M + 2 < 2 ^ 40 → ps.length < 63 → (∀ p ∈ ps, 0 ≤ p.1 ∧ p.1 < p.2 ∧ p.2 ≤ many) → BoxS (S0 ++ [.lst (ps.map pairD)]) k M T →
      (mLk [some (.ref k), some (.int many), v2, some (.int way), some (.ref S0.length), some (.int wide), v6, v7] T).Sat fun f T' => ∃ p v7', f = .nx [some (.ref k), some (.int many), v2, some (.int way), some (.ref S0.length), some (.int wide), v6, v7'] ∧ (0 ≤ p.1 ∧ p.1 < p.2 ∧ p.2 ≤ many) ∧ BoxS (S0 ++ [.lst ((ps ++ [p]).map pairD)]) k (M + 2) T' := by
    intro way wide v2 ps v6 v7 M T hw hM hps hok hT
    have put : ∀ (M' : Nat) (T' : Store) (s e : Int), BoxS (S0 ++ [.lst (ps.map pairD)]) k M' T' → appTo S0.length (.tup [.int s, .int e]) T' = .ok .non (T'.set S0.length (.lst ((ps ++ [(s, e)]).map pairD))) := fun M' T' s e hb => by
      rw [appTo_ok _ (hb.last hk) (by simp; omega)]
      simp [pairD]
    have no : ∀ (M' : Nat) (T' : Store), BoxS (S0 ++ [.lst (ps.map pairD)]) k M' T' → notOb T' S0.length = true := fun M' T' hb => notOb_lst (hb.last hk)
    unfold mLk
    simp
    refine sat_step (take_s (n := many) hT (by omega) hm hm3) ?_
    rintro _ T1 ⟨s, rfl, a1, b1, h1⟩
    by_cases e0 : way = 0
    · simp [e0, no _ _ h1]
      refine sat_step (take_s (n := many - s) h1 (by omega) (by omega) (by omega)) ?_
      rintro _ T2 ⟨r, rfl, a2, b2, h2⟩
      simp [put _ _ _ _ h2]
      have z := (h2.setLast (.lst ((ps ++ [(s, s + 1 + r)]).map pairD)) hk).mono (show M + 1 + 1 ≤ M + 2 by omega)
      exact ⟨s, s + 1 + r, ⟨by omega, by omega, by omega⟩, by simpa using z⟩
    · by_cases e1 : way = 1
      · simp [e1, min2_ok, no _ _ h1, put _ _ _ _ h1]
        have z := (h1.setLast (.lst ((ps ++ [(s, if s + wide < many then s + wide else many)]).map pairD)) hk).mono (show M + 1 ≤ M + 2 by omega)
        exact ⟨s, if s + wide < many then s + wide else many, ⟨by omega, by split <;> omega, by split <;> omega⟩, by simpa using z⟩
      · simp [e0, e1, no _ _ h1]
        refine sat_step (take_s (n := 5) h1 (by omega) (by decide) (by decide)) ?_
        rintro _ T2 ⟨r, rfl, a2, b2, h2⟩
        simp [min2_ok, put _ _ _ _ h2]
        have z := (h2.setLast (.lst ((ps ++ [(s, if s + 1 + r < many then s + 1 + r else many)]).map pairD)) hk).mono (show M + 1 + 1 ≤ M + 2 by omega)
        exact ⟨s, if s + 1 + r < many then s + 1 + r else many, ⟨by omega, by split <;> omega, by split <;> omega⟩, by simpa using z⟩
  unfold f_l_looks m_l_looks
  rw [fnM_3]
  show (endM S.length (mSeq _ (mSeq _ (mSeq (mFor _ _ mLk) _)) _ _)).Sat _
  generalize mLk = mL at *
  simp
  refine sat_step (take_s (n := 4) h (by omega) (by decide) (by decide)) ?_
  rintro _ S1 ⟨way, rfl, a1, b1, h1⟩
  have hl1 : S1.length = S0.length := h1.len
  simp [min2_ok]
  refine sat_step (take_s (n := if 5 < many then 5 else many) (h1.push (.lst [])) (by omega) (by split <;> omega) (Int.lt_trans (show (if (5 : Int) < many then 5 else many) < 6 by split <;> omega) (by decide))) ?_
  rintro _ S2 ⟨w, rfl, a2, b2, h2⟩
  simp
  refine sat_step (take_s (n := (most : Int) + 1) h2 (by omega) (by omega) (Int.lt_trans (show (most : Int) + 1 < 100 by omega) (by decide))) ?_
  rintro _ S3 ⟨t, rfl, a3, b3, h3⟩
  obtain ⟨t, rfl⟩ := Int.eq_ofNat_of_zero_le a3
  simp [r1K_nat t (by omega)]
  refine sat_step (forL_sat (P := fun f S' => ∃ (ps : List (Int × Int)) (v6 v7 : Option D), f = .nx [some (.ref k), some (.int many), some (.int most), some (.int way), some (.ref S1.length), some (.int (1 + w)), v6, v7] ∧ ps.length = t ∧ (∀ p ∈ ps, 0 ≤ p.1 ∧ p.1 < p.2 ∧ p.2 ≤ many) ∧ BoxS (S0 ++ [.lst (ps.map pairD)]) k (N + 3 + 2 * ps.length) S')
    (fun ds ρ S' => ∃ (ps : List (Int × Int)) (v6 v7 : Option D), ρ = [some (.ref k), some (.int many), some (.int most), some (.int way), some (.ref S1.length), some (.int (1 + w)), v6, v7] ∧ ps.length + ds.length = t ∧ (∀ p ∈ ps, 0 ≤ p.1 ∧ p.1 < p.2 ∧ p.2 ≤ many) ∧ BoxS (S0 ++ [.lst (ps.map pairD)]) k (N + 3 + 2 * ps.length) S') ?_ ?_ _ _ _ ⟨[], none, none, rfl, by simp [rangeD_len], by simp, by simpa using h3⟩) ?_
  · rintro d ds ρ S' ⟨ps, v6, v7, rfl, hl, hok, hB⟩
    rw [List.length_cons] at hl
    refine ⟨_, S', rfl, ?_⟩
    rw [hl1]
    refine (turn way (1 + w) _ ps (some d) v7 _ S' (by omega) (by omega) (by omega) hok hB).mono ?_
    rintro _ T' ⟨p, v7', rfl, hpk, hB'⟩
    refine ⟨ps ++ [p], _, _, rfl, by simp; omega, fun q hq => ?_, by simpa [Nat.mul_add, Nat.add_assoc] using hB'⟩
    rcases List.mem_append.mp hq with m | m
    · exact hok q m
    · simp at m
      subst m
      exact hpk
  · rintro ρ S' ⟨ps, v6, v7, rfl, hl, hok, hB⟩
    exact ⟨ps, v6, v7, rfl, by simpa using hl, hok, hB⟩
  · rintro _ S' ⟨ps, v6, v7, rfl, hl, hok, hB⟩
    have pk : ∀ p ∈ ps, (0 ≤ p.1 ∧ p.1 < lim) ∧ 0 ≤ p.2 ∧ p.2 < lim := fun p hp => by
      have := hok p hp
      omega
    have ss := fun S => ssK_pairs (S := S) pk (by omega)
    have fr := fz_ref (hB.last hk)
    have hB2 := hB.setLast (.frz (ps.map pairD)) hk
    have len : ((sortU ps).map pairD).length ≤ 100000 := by have := sortU_len ps; simp; omega
    have pd : pureD (.tup ((sortU ps).map pairD)) = true := pureL_all.mpr fun d hd => by
      obtain ⟨p, _, rfl⟩ := List.mem_map.mp hd
      rfl
    obtain ⟨S4, e4, hB4⟩ := fin_cut (d := .tup ((sortU ps).map pairD)) hB2 hk h.len hp pd
    rw [hl1]
    generalize hR : (sortU ps).map pairD = R at *
    simp [fr, ss, hR, e4]
    exact ⟨sortU ps, by rw [looksD, hR], ⟨sortU_up ps, fun p hp => hok p (mem_sortU.mp hp)⟩, by have := sortU_len ps; omega, hB4.mono (by omega)⟩
def bookD (many a b : Int) (ps : List (Int × Int)) : D := .tup [.int many, .tup [.int a, .int b], looksD ps]
theorem book_s {S0 S : Store} {k N mm most : Nat} (h : BoxS S0 k N S) (hp : S0.all Cell.pure = true) (hN : N + 2 * most + 20 < 2 ^ 40) (hm : 0 < mm) (hm2 : mm < 1000) (hmost : most < 63) :
    (f_l_book [.ref k, .int mm, .int most] S).Sat fun d S' => ∃ (many : Nat) (a b : Int) (ps : List (Int × Int)), d = bookD many a b ps ∧ (0 < many ∧ many ≤ mm) ∧ (0 < a ∧ a < b ∧ b < 2 ^ 67) ∧ LooksOk many ps ∧ ps.length ≤ most ∧ BoxS S0 k (N + 2 * most + 7) S' := by
  unfold f_l_book m_l_book
  rw [fnM_3]
  simp
  refine sat_step (take_s (n := (mm : Int)) h (by omega) (by omega) (Int.lt_trans (show (mm : Int) < 1000 by omega) (by decide))) ?_
  rintro _ S1 ⟨r, rfl, a1, b1, h1⟩
  simp
  refine sat_step (limit_s h1 (by omega)) ?_
  rintro _ S2 ⟨⟨a, b, rfl, ha, hab, hb⟩, h2⟩
  simp
  refine sat_step (looks_s (many := 1 + r) (most := most) h2 hp (by omega) (by omega) (by unfold lim; omega) hmost) ?_
  rintro _ S3 ⟨ps, rfl, hl, hps, h3⟩
  obtain ⟨n, rfl⟩ := Int.eq_ofNat_of_zero_le a1
  simp [fin_len (h3.len.trans h.len.symm)]
  refine ⟨n + 1, a, b, ps, ?_, ⟨by omega, by omega⟩, ⟨ha, hab, hb⟩, ?_, hps, h3.mono (by omega)⟩
  · unfold bookD
    rw [show (((n + 1 : Nat)) : Int) = 1 + (n : Int) by omega]
  · rw [show (((n + 1 : Nat)) : Int) = 1 + (n : Int) by omega]
    exact hl
/-- the same with lists in the place of tuples -/
def lsD : Nat → D → D
  | n + 1, .tup xs => .lst (xs.map (lsD n))
  | n + 1, .lst xs => .lst (xs.map (lsD n))
  | _, d => d
theorem lists_ok : ∀ (k n : Nat) (d : D) (S : Store), okD n d = true → n < k → f_l_lists k [d] S = .ok (lsD n d) S
  | 0, n, d, S, _, hk => absurd hk (by omega)
  | k + 1, n, d, S, h, hk => by
    have seq : ∀ (m : Nat) (xs : List D), (∀ x ∈ xs, okD m x = true) → m < k → ∀ ρ : Q.Env, 1 < ρ.length → ∀ S, lcL (mgN 1) mYes (mCall (fPure (f_l_lists k)) (mCons (mVar 1) mNil)) ρ xs S = .ok (xs.map (lsD m)) S := fun m xs hx hm ρ hρ S => by
      refine lcL_map (f := lsD m) xs S fun x hxm => ⟨_, rfl, ?_⟩
      have p := okD_pure _ _ (hx x hxm)
      have e : (ρ.set 1 (some x))[1]? = some (some x) := List.getElem?_set_self hρ
      simp only [ap_call, ap_cons, ap_var, e, varK_some, bind_ok, consK_ap, ap_nil, consK2_ap]
      exact fPure_ap S (by simp [p]) (lists_ok k m x [] (hx x hxm) hm)
    cases d with
    | non => simp [f_l_lists, fnM, m_l_lists, isTy]; cases n <;> rfl
    | bl b => simp [f_l_lists, fnM, m_l_lists, isTy]; cases n <;> rfl
    | int b => simp [f_l_lists, fnM, m_l_lists, isTy]; cases n <;> rfl
    | str b => simp [f_l_lists, fnM, m_l_lists, isTy]; cases n <;> rfl
    | tup xs =>
      cases n with
      | zero => simp [okD] at h
      | succ n =>
        rw [okD_tup, Bool.and_eq_true, decide_eq_true_eq] at h
        have hs := fun ρ hρ S => seq n xs (fun x hx => List.all_eq_true.mp h.2 x hx) (by omega) ρ hρ S
        simp [f_l_lists, fnM, m_l_lists, isTy, h.1, hs, lsD]
    | lst xs =>
      cases n with
      | zero => simp [okD] at h
      | succ n =>
        rw [okD_lst, Bool.and_eq_true, decide_eq_true_eq] at h
        have hs := fun ρ hρ S => seq n xs (fun x hx => List.all_eq_true.mp h.2 x hx) (by omega) ρ hρ S
        simp [f_l_lists, fnM, m_l_lists, isTy, h.1, hs, lsD]
    | fro xs => cases n <;> simp [okD] at h
    | obj c xs => cases n <;> simp [okD] at h
    | exn c xs => cases n <;> simp [okD] at h
    | ref j => cases n <;> simp [okD] at h
theorem listsP {d : D} {n : Nat} (S : Store) (h : okD n d = true) (hn : n < 30) : fPure (f_l_lists 30) [d] S = .ok (lsD n d) S := fPure_ap S (by simp [okD_pure n d h]) (lists_ok 30 n d [] h hn)
/-! ### any data, not too great -/
mutual
def intsB (m : Nat) : D → Bool
  | .int i => decide (i.natAbs < m)
  | .tup xs => intsBL m xs
  | .lst xs => intsBL m xs
  | _ => true
def intsBL (m : Nat) : List D → Bool
  | [] => true
  | x :: xs => intsB m x && intsBL m xs
end
theorem intsBL_all {m : Nat} : ∀ {xs : List D}, intsBL m xs = true ↔ ∀ x ∈ xs, intsB m x = true
  | [] => by simp [intsBL]
  | x :: xs => by
    unfold intsBL
    rw [Bool.and_eq_true, intsBL_all]
    simp
mutual
theorem intsB_up {m m' : Nat} (h : m ≤ m') : ∀ d : D, intsB m d = true → intsB m' d = true
  | .int i, q => by
    unfold intsB at q ⊢
    rw [decide_eq_true_eq] at q ⊢
    omega
  | .tup xs, q => by
    unfold intsB at q ⊢
    exact intsBL_up h xs q
  | .lst xs, q => by
    unfold intsB at q ⊢
    exact intsBL_up h xs q
  | .non, _ => rfl
  | .bl _, _ => rfl
  | .str _, _ => rfl
  | .fro _, _ => rfl
  | .obj _ _, _ => rfl
  | .exn _ _, _ => rfl
  | .ref _, _ => rfl
theorem intsBL_up {m m' : Nat} (h : m ≤ m') : ∀ xs : List D, intsBL m xs = true → intsBL m' xs = true
  | [], _ => rfl
  | x :: xs, q => by
    unfold intsBL at q ⊢
    rw [Bool.and_eq_true] at q ⊢
    exact ⟨intsB_up h x q.1, intsBL_up h xs q.2⟩
end
theorem rpCL_app : ∀ (xs ys : List D), rpCL (xs ++ ys) = rpCL xs + rpCL ys
  | [], ys => by simp [rpCL]
  | x :: xs, ys => by
    have ih := rpCL_app xs ys
    rw [List.cons_append]
    simp only [rpCL] at *
    omega
theorem rpCL_len : ∀ xs : List D, xs.length ≤ rpCL xs
  | [] => Nat.zero_le _
  | x :: xs => by
    unfold rpCL
    have := rpCL_len xs
    rw [List.length_cons]
    omega
theorem rpCL_mem : ∀ {xs : List D} {x : D}, x ∈ xs → rpC x + 1 ≤ rpCL xs
  | y :: xs, x, h => by
    unfold rpCL
    rcases List.mem_cons.mp h with rfl | h
    · omega
    · have := rpCL_mem h
      omega
theorem rpCL_part (xs : List D) (i j : Nat) : rpCL ((xs.drop i).take j) ≤ rpCL xs := by
  have a : rpCL xs = rpCL (xs.take i) + rpCL (xs.drop i) := by rw [← rpCL_app, List.take_append_drop]
  have b : rpCL (xs.drop i) = rpCL ((xs.drop i).take j) + rpCL ((xs.drop i).drop j) := by rw [← rpCL_app, List.take_append_drop]
  omega
theorem rpCL_rev : ∀ xs : List D, rpCL xs.reverse = rpCL xs
  | [] => rfl
  | x :: xs => by
    rw [List.reverse_cons, rpCL_app, rpCL_rev xs]
    simp only [rpCL]
    omega
structure AnyD (n m c : Nat) (d : D) : Prop where
  sh : shal n d = true
  ib : intsB m d = true
  rp : rpC d ≤ c
theorem AnyD.mono {n m c n' m' c' : Nat} {d : D} (h : AnyD n m c d) (hn : n ≤ n') (hm : m ≤ m') (hc : c ≤ c') : AnyD n' m' c' d :=
  ⟨shal_up n n' d hn h.sh, intsB_up hm d h.ib, Nat.le_trans h.rp hc⟩
theorem shal_okD : ∀ (n : Nat) (d : D), shal n d = true → rpC d ≤ 100000 → okD n d = true
  | n, .non, _, _ => okD_non n
  | n, .bl b, _, _ => okD_bl n b
  | n, .int b, _, _ => okD_int n b
  | n, .str b, _, _ => okD_str n b
  | n + 1, .tup xs, h, q => by
    unfold rpC at q
    have len := rpCL_len xs
    rw [shal_tup] at h
    rw [okD_tup, Bool.and_eq_true, decide_eq_true_eq, List.all_eq_true]
    refine ⟨by omega, fun x hx => shal_okD n x ?_ (by have := rpCL_mem hx; omega)⟩
    exact List.all_eq_true.mp h x hx
  | n + 1, .lst xs, h, q => by
    unfold rpC at q
    have len := rpCL_len xs
    rw [shal_lst] at h
    rw [okD_lst, Bool.and_eq_true, decide_eq_true_eq, List.all_eq_true]
    refine ⟨by omega, fun x hx => shal_okD n x ?_ (by have := rpCL_mem hx; omega)⟩
    exact List.all_eq_true.mp h x hx
  | 0, .tup xs, h, _ => by simp [shal] at h
  | 0, .lst xs, h, _ => by simp [shal] at h
  | n, .fro _, h, _ => by cases n <;> simp [shal] at h
  | n, .obj _ _, h, _ => by cases n <;> simp [shal] at h
  | n, .exn _ _, h, _ => by cases n <;> simp [shal] at h
  | n, .ref _, h, _ => by cases n <;> simp [shal] at h
section
variable {n m c : Nat} {d x : D} {xs ys : List D}
theorem AnyD.ok (h : AnyD n m c d) (hc : c ≤ 100000) : okD n d = true := shal_okD n d h.sh (Nat.le_trans h.rp hc)
theorem AnyD.pure (h : AnyD n m c d) (hc : c ≤ 100000) : pureD d = true := okD_pure n d (h.ok hc)
theorem AnyD.repr (h : AnyD n m c d) (hn : n ≤ 18) (hc : c ≤ 65536) (S : Store) : fRepr [d] S = .ok (.str (textR d)) S := by
  refine repr_ok ?_ ?_
  · unfold okRp
    rw [Bool.and_eq_true, decide_eq_true_eq]
    exact ⟨shal_up n 18 d hn h.sh, Nat.le_trans h.rp hc⟩
  · have := h.sh
    cases d with
    | ref k => cases n <;> simp [shal] at this
    | _ => rfl
theorem AnyD.isok (h : AnyD n m c d) (S : Store) : isOk S d = true := by
  have := h.sh
  cases d with
  | ref k => cases n <;> simp [shal] at this
  | obj _ _ => cases n <;> simp [shal] at this
  | exn _ _ => cases n <;> simp [shal] at this
  | _ => rfl
theorem AnyD.tup (hs : ∀ x ∈ xs, shal n x = true) (hb : ∀ x ∈ xs, intsB m x = true) (hc : rpCL xs ≤ c) : AnyD (n + 1) m c (.tup xs) :=
  ⟨by rw [shal_tup]; exact List.all_eq_true.mpr hs, by unfold intsB; exact intsBL_all.mpr hb, by unfold rpC; exact hc⟩
theorem AnyD.lst (hs : ∀ x ∈ xs, shal n x = true) (hb : ∀ x ∈ xs, intsB m x = true) (hc : rpCL xs ≤ c) : AnyD (n + 1) m c (.lst xs) :=
  ⟨by rw [shal_lst]; exact List.all_eq_true.mpr hs, by unfold intsB; exact intsBL_all.mpr hb, by unfold rpC; exact hc⟩
theorem AnyD.inT (h : AnyD n m c (.tup xs)) : ∃ n', n = n' + 1 ∧ (∀ x ∈ xs, shal n' x = true) ∧ (∀ x ∈ xs, intsB m x = true) ∧ rpCL xs ≤ c := by
  cases n with
  | zero => have := h.sh; simp [shal] at this
  | succ n' =>
    refine ⟨n', rfl, ?_, ?_, ?_⟩
    · have := h.sh
      rw [shal_tup] at this
      exact List.all_eq_true.mp this
    · have := h.ib
      unfold intsB at this
      exact intsBL_all.mp this
    · have := h.rp
      unfold rpC at this
      exact this
theorem AnyD.item (h : AnyD (n + 1) m c (.tup xs)) (hx : x ∈ xs) : AnyD n m (c - 1) x := by
  obtain ⟨n', e, hs, hb, hr⟩ := h.inT
  cases e
  exact ⟨hs x hx, hb x hx, by have := rpCL_mem hx; omega⟩
theorem AnyD.len (h : AnyD n m c (.tup xs)) : xs.length ≤ c := by
  obtain ⟨_, _, _, _, hr⟩ := h.inT
  have := rpCL_len xs
  omega
theorem any_int {i : Int} (h : i.natAbs < m) (hm : m ≤ 10 ^ 200) : AnyD n m 0 (.int i) :=
  ⟨shal_int n i, by unfold intsB; exact decide_eq_true h, by unfold rpC; rw [if_pos (by omega)]; exact Nat.le_refl _⟩
theorem any_bl (b : Bool) : AnyD n m 0 (.bl b) := ⟨by cases n <;> rfl, rfl, Nat.le_refl _⟩
theorem any_non : AnyD n m 0 .non := ⟨by cases n <;> rfl, rfl, Nat.le_refl _⟩
theorem any_str {s : Str} (h : PyData.strOk s = true) (hc : s.cps.size ≤ c) : AnyD n m c (.str s) := ⟨by cases n <;> exact h, rfl, hc⟩
theorem cutD_parts (xs : List D) (a b : Option Int) : ∃ i j, cutD xs a b = (xs.drop i).take j := by
  unfold cutD
  exact ⟨_, _, rfl⟩
theorem part_mem {i j : Nat} (h : x ∈ (xs.drop i).take j) : x ∈ xs := List.mem_of_mem_drop (List.mem_of_mem_take h)
theorem AnyD.part (h : AnyD n m c (.tup xs)) (a b : Option Int) : AnyD n m c (.tup (cutD xs a b)) := by
  obtain ⟨n', rfl, hs, hb, hr⟩ := h.inT
  obtain ⟨i, j, e⟩ := cutD_parts xs a b
  rw [e]
  exact .tup (fun x hx => hs x (part_mem hx)) (fun x hx => hb x (part_mem hx)) (Nat.le_trans (rpCL_part xs i j) hr)
theorem AnyD.cat (h : AnyD n m c (.tup xs)) {c' : Nat} (h' : AnyD n m c' (.tup ys)) : AnyD n m (c + c') (.tup (xs ++ ys)) := by
  obtain ⟨n', rfl, hs, hb, hr⟩ := h.inT
  obtain ⟨n2, e, hs', hb', hr'⟩ := h'.inT
  cases e
  refine .tup (fun x hx => ?_) (fun x hx => ?_) (by rw [rpCL_app]; omega)
  · rcases List.mem_append.mp hx with hx | hx
    · exact hs x hx
    · exact hs' x hx
  · rcases List.mem_append.mp hx with hx | hx
    · exact hb x hx
    · exact hb' x hx
theorem AnyD.rev (h : AnyD n m c (.tup xs)) : AnyD n m c (.tup xs.reverse) := by
  obtain ⟨n', rfl, hs, hb, hr⟩ := h.inT
  exact .tup (fun x hx => hs x (List.mem_reverse.mp hx)) (fun x hx => hb x (List.mem_reverse.mp hx)) (by rw [rpCL_rev]; exact hr)
theorem AnyD.list (h : AnyD n m c (.tup xs)) : AnyD n m c (.lst xs) := by
  obtain ⟨n', rfl, hs, hb, hr⟩ := h.inT
  exact .lst hs hb hr
theorem AnyD.wrap (h : AnyD n m c d) : AnyD (n + 1) m (c + 1) (.tup [d]) :=
  .tup (fun x hx => by rw [List.mem_singleton.mp hx]; exact h.sh) (fun x hx => by rw [List.mem_singleton.mp hx]; exact h.ib) (by simp only [rpCL]; have := h.rp; omega)
theorem strOk_of' (x : String) : PyData.strOk (Str.ofString x) = true := by
  have e : (Str.ofString x).cps.toList = x.toList.map Char.toNat := by rw [PySem.Str.ofString_eq_toList]
  unfold PyData.strOk
  rw [← Array.all_toList, e, List.all_eq_true]
  intro c hc
  obtain ⟨ch, _, rfl⟩ := List.mem_map.mp hc
  rw [decide_eq_true_eq]
  have := ch.valid
  show ch.val.toNat < _
  unfold UInt32.isValidChar Nat.isValidChar at this
  omega
theorem any_strI {i : Int} (h : i.natAbs < 10 ^ 100) : AnyD n m 101 (.str (strI i)) :=
  any_str (strOk_of' _) (by
    have := int_text_length_le10 (k := 100) (by decide) h
    have e : (Str.ofString (toString i)).length = (toString i).length := PySem.ofString_length _
    show (Str.ofString (toString i)).length ≤ 101
    omega)
theorem any_lit (x : String) (h : (Str.ofString x).cps.size ≤ c) : AnyD n m c (.str (Str.ofString x)) := any_str (strOk_of' x) h
end
theorem seq_as (a b c : MS) (ρ : Q.Env) (S : Store) : mSeq a (mSeq b c) ρ S = mSeq (mSeq a b) c ρ S := by
  rw [ap_seq, ap_seq, ap_seq]
  cases a ρ S with
  | ok f S1 => cases f <;> rfl
  | ex e S1 => rfl
  | no => rfl
theorem seq_as3 (a b c d : MS) (ρ : Q.Env) (S : Store) : mSeq a (mSeq b (mSeq c d)) ρ S = mSeq (mSeq a (mSeq b c)) d ρ S := by
  have e : mSeq b (mSeq c d) = mSeq (mSeq b c) d := funext fun ρ => funext fun S => seq_as b c d ρ S
  rw [e, seq_as]
theorem sat_end {r : Res Fl} {P : Fl → Store → Prop} {Q : D → Store → Prop} {n : Nat} (h : r.Sat P) (hf : ∀ f S, P f S → (endM n (.ok f S)).Sat Q) : (endM n r).Sat Q := by
  cases r with
  | ok f S => exact hf f S h
  | ex e S => exact h.elim
  | no => exact h.elim
/-! ### l_bent: a value with one thing in it changed -/
def mBe0 (self : List D → Store → Res D) : MS := (mIf (mAndT (mTest (mIsi .tuple (mVar 1))) (mAndT (mTB (mOp opNe (mVar 1) (mTup mNil))) (mTB (mOp opGt (mCall (fCall f_l_take) (mCons (mVar 0) (mCons (mC (.int 5)) mNil))) (mC (.int 0)))))) (mSeq (mAsg (mCall (fCall f_l_take) (mCons (mVar 0) (mCons (mCall fLen (mCons (mVar 1) mNil)) mNil))) (mgN 3))
  (mRet (mOp opAddM (mOp opAddM (mSl (mVar 1) mNoO (mSoO (mVar 3))) (mTup (mCons (mCall (fCall self) (mCons (mVar 0) (mCons (mOp opIx (mVar 1) (mVar 3)) (mCons (mVar 2) mNil)))) mNil))) (mSl (mVar 1) (mSoO (mOp opAddM (mVar 3) (mC (.int 1)))) mNoO)))) mSkip)
def mBe1 : MS := (mAsg (mOp opAddM (mLst (mCons (mC (.int 0)) (mCons (mC (.int 1)) (mCons (mNeg (mC (.int 1))) (mCons (mC (.int 2)) (mCons (mC .non) (mCons (mC (.bl true)) (mCons (mC (.bl false)) (mCons (mC (.str "")) (mCons (mC (.str "a")) (mCons (mTup mNil) (mCons (mLst mNil) (mCons (mTup (mCons (mC (.int 1)) (mCons (mC (.int 10)) mNil))) (mCons (mTup (mCons (mC (.int 0)) (mCons (mC (.int 1)) mNil))) (mCons (mOp opPowI (mC (.int 10)) (mC (.int 40))) mNil))))))))))))))) (mVar 2)) (mgN 4))
def mBe2 : MS := (mIf (mTest (mIsi .tuple (mVar 1))) (mAsg (mOp opAddM (mVar 4) (mLst (mCons (mCall fList (mCons (mVar 1) mNil)) (mCons (mSl (mVar 1) mNoO (mSoO (mNeg (mC (.int 1))))) (mCons (mOp opAddM (mVar 1) (mSl (mVar 1) (mSoO (mNeg (mC (.int 1)))) mNoO)) (mCons (mRev (mVar 1)) (mCons (mTup (mCons (mVar 1) mNil)) mNil))))))) (mgN 4)) mSkip)
def mBe3 : MS := (mIf (mTest (mIsi .int (mVar 1))) (mAsg (mOp opAddM (mVar 4) (mLst (mCons (mOp opAddM (mVar 1) (mC (.int 1))) (mCons (mOp opSubM (mVar 1) (mC (.int 1))) (mCons (mOp opSubM (mC (.int 0)) (mVar 1)) (mCons (mCall fStrM (mCons (mVar 1) mNil)) (mCons (mTup (mCons (mVar 1) mNil)) mNil))))))) (mgN 4)) mSkip)
def mBe4 : MS := (mRet (mCall (fCall f_l_of) (mCons (mVar 0) (mCons (mVar 4) mNil))))
theorem form_bent (self : List D → Store → Res D) : m_l_bent self = mSeq (mBe0 self) (mSeq mBe1 (mSeq mBe2 (mSeq mBe3 mBe4))) := rfl
def Be14 : List D := [.int 0, .int 1, .int (-1), .int 2, .non, .bl true, .bl false, .str "", .str "a", .tup [], .lst [], .tup [.int 1, .int 10], .tup [.int 0, .int 1], .int 10000000000000000000000000000000000000000]
section
variable {S0 S : Store} {k N n m c w c' : Nat} {d : D} {L more : List D}
def LeafOk (n m c w c' : Nat) (L : List D) : Prop := L ≠ [] ∧ L.length ≤ 200 ∧ ∀ x ∈ L, AnyD (n + w + 1) (m + 1) (2 * c + c' + 150) x
theorem be14_ok (hm : 10 ^ 41 ≤ m) (hm2 : m < 10 ^ 200) : ∀ x ∈ Be14, AnyD (n + w + 1) (m + 1) (2 * c + c' + 150) x := by
  have z41 : (10 : Nat) ^ 41 = 100000000000000000000000000000000000000000 := by decide
  have i : ∀ i : Int, i.natAbs ≤ 10 ^ 40 → AnyD (n + w + 1) (m + 1) (2 * c + c' + 150) (.int i) := fun i h => by
    have z40 : (10 : Nat) ^ 40 = 10000000000000000000000000000000000000000 := by decide
    exact (any_int (n := n + w + 1) (m := m + 1) (by omega) (by omega)).mono (Nat.le_refl _) (Nat.le_refl _) (Nat.zero_le _)
  have p : ∀ a b : Int, a.natAbs ≤ 10 → b.natAbs ≤ 10 → AnyD (n + w + 1) (m + 1) (2 * c + c' + 150) (.tup [.int a, .int b]) := fun a b ha hb => by
    refine .tup (fun x hx => ?_) (fun x hx => ?_) ?_
    · simp only [List.mem_cons, List.not_mem_nil, or_false] at hx
      rcases hx with rfl | rfl <;> exact shal_int _ _
    · simp only [List.mem_cons, List.not_mem_nil, or_false] at hx
      rcases hx with rfl | rfl <;> (unfold intsB; exact decide_eq_true (by omega))
    · have r : ∀ z : Int, z.natAbs ≤ 10 → rpC (.int z) = 0 := fun z hz => by
        unfold rpC
        rw [if_pos (Nat.lt_of_le_of_lt hz (by decide +kernel))]
      simp only [rpCL, r a ha, r b hb]
      omega
  intro x hx
  unfold Be14 at hx
  simp only [List.mem_cons, List.not_mem_nil, or_false] at hx
  rcases hx with rfl | rfl | rfl | rfl | rfl | rfl | rfl | rfl | rfl | rfl | rfl | rfl | rfl | rfl
  · exact i 0 (by decide)
  · exact i 1 (by decide)
  · exact i (-1) (by decide)
  · exact i 2 (by decide)
  · exact any_non.mono (Nat.le_refl _) (Nat.le_refl _) (Nat.zero_le _)
  · exact (any_bl true).mono (Nat.le_refl _) (Nat.le_refl _) (Nat.zero_le _)
  · exact (any_bl false).mono (Nat.le_refl _) (Nat.le_refl _) (Nat.zero_le _)
  · exact (any_lit (c := 0) "" (by decide +kernel)).mono (Nat.le_refl _) (Nat.le_refl _) (Nat.zero_le _)
  · exact (any_lit (c := 1) "a" (by decide +kernel)).mono (Nat.le_refl _) (Nat.le_refl _) (by omega)
  · exact .tup (fun x hx => by cases hx) (fun x hx => by cases hx) (Nat.zero_le _)
  · exact .lst (fun x hx => by cases hx) (fun x hx => by cases hx) (Nat.zero_le _)
  · exact p 1 10 (by decide) (by decide)
  · exact p 0 1 (by decide) (by decide)
  · exact i _ (by decide)
/-- the first row of choices -/
theorem be1 (hm : 10 ^ 41 ≤ m) (hm2 : m < 10 ^ 200) (hL : more.length ≤ 100) (hq : ∀ x ∈ more, AnyD w m c' x) (d : D) (v3 v4 : Option D) (S : Store) :
    ∃ L, LeafOk n m c w c' L ∧ L.length ≤ 114 ∧ mBe1 [some (.ref k), some d, some (.lst more), v3, v4] S = .ok (.nx [some (.ref k), some d, some (.lst more), v3, some (.lst L)]) S := by
  have p40 : powOk 10 40 = true := by decide
  have z : ∀ S, opAdd (.lst Be14) (.lst more) S = .ok (.lst (Be14 ++ more)) S := fun S => by
    have : 14 + more.length ≤ 100000 := by omega
    unfold Be14
    simp [this]
  refine ⟨Be14 ++ more, ⟨by unfold Be14; simp, by rw [List.length_append]; show 14 + _ ≤ _; omega, fun x hx => ?_⟩, by rw [List.length_append]; show 14 + _ ≤ _; omega, ?_⟩
  · rcases List.mem_append.mp hx with hx | hx
    · exact be14_ok hm hm2 x hx
    · exact (hq x hx).mono (by omega) (by omega) (by omega)
  · unfold mBe1
    unfold Be14 at z ⊢
    generalize ([.int 0, .int 1, .int (-1), .int 2, .non, .bl true, .bl false, .str "", .str "a", .tup [], .lst [], .tup [.int 1, .int 10], .tup [.int 0, .int 1], .int 10000000000000000000000000000000000000000] ++ more : List D) = LL at *
    simp -implicitDefEqProofs [p40, z]
theorem cat_lst {xs ys : List D} (h : xs.length + ys.length ≤ 100000) (S : Store) : opAdd (.lst xs) (.lst ys) S = .ok (.lst (xs ++ ys)) S := by simp [h]
theorem cat_tup {xs ys : List D} (h : xs.length + ys.length ≤ 100000) (S : Store) : opAdd (.tup xs) (.tup ys) S = .ok (.tup (xs ++ ys)) S := by simp [h]
theorem LeafOk.add (h : LeafOk n m c w c' L) {ys : List D} (hl : L.length + ys.length ≤ 200) (hy : ∀ x ∈ ys, AnyD (n + w + 1) (m + 1) (2 * c + c' + 150) x) : LeafOk n m c w c' (L ++ ys) := by
  refine ⟨fun e => h.1 (List.append_eq_nil_iff.mp e).1, by rw [List.length_append]; omega, fun x hx => ?_⟩
  rcases List.mem_append.mp hx with hx | hx
  · exact h.2.2 x hx
  · exact hy x hx
theorem be2 (hd : AnyD n m c d) (hc : c ≤ 10000) (hL : LeafOk n m c w c' L) (hl : L.length ≤ 114) (v3 : Option D) (S : Store) :
    ∃ L', LeafOk n m c w c' L' ∧ L'.length ≤ 119 ∧ mBe2 [some (.ref k), some d, some (.lst more), v3, some (.lst L)] S = .ok (.nx [some (.ref k), some d, some (.lst more), v3, some (.lst L')]) S := by
  have other : isTy .tuple d = false → ∃ L', LeafOk n m c w c' L' ∧ L'.length ≤ 119 ∧ mBe2 [some (.ref k), some d, some (.lst more), v3, some (.lst L)] S = .ok (.nx [some (.ref k), some d, some (.lst more), v3, some (.lst L')]) S := fun e => by
    refine ⟨L, hL, by omega, ?_⟩
    have io := hd.isok S
    unfold mBe2
    simp -implicitDefEqProofs [e, io]
  cases d with
  | tup xs =>
    have len := hd.len
    obtain ⟨i1, j1, e1⟩ := cutD_parts xs none (some (-1))
    obtain ⟨i2, j2, e2⟩ := cutD_parts xs (some (-1)) none
    have p1 := hd.part none (some (-1))
    have p2 := hd.part (some (-1)) none
    have l2 : (cutD xs (some (-1)) none).length ≤ xs.length := by
      rw [e2, List.length_take, List.length_drop]
      omega
    have ys : ∀ x ∈ ([.lst xs, .tup (cutD xs none (some (-1))), .tup (xs ++ cutD xs (some (-1)) none), .tup xs.reverse, .tup [.tup xs]] : List D), AnyD (n + w + 1) (m + 1) (2 * c + c' + 150) x := fun x hx => by
      simp only [List.mem_cons, List.not_mem_nil, or_false] at hx
      rcases hx with rfl | rfl | rfl | rfl | rfl
      · exact hd.list.mono (by omega) (by omega) (by omega)
      · exact p1.mono (by omega) (by omega) (by omega)
      · exact (hd.cat p2).mono (by omega) (by omega) (by omega)
      · exact hd.rev.mono (by omega) (by omega) (by omega)
      · exact hd.wrap.mono (by omega) (by omega) (by omega)
    refine ⟨L ++ [.lst xs, .tup (cutD xs none (some (-1))), .tup (xs ++ cutD xs (some (-1)) none), .tup xs.reverse, .tup [.tup xs]], LeafOk.add hL (by simp; omega) ys, by simp; omega, ?_⟩
    have c1 : ∀ S, opAdd (.tup xs) (.tup (cutD xs (some (-1)) none)) S = .ok (.tup (xs ++ cutD xs (some (-1)) none)) S := cat_tup (by omega)
    have c2 : ∀ S, opAdd (.lst L) (.lst [.lst xs, .tup (cutD xs none (some (-1))), .tup (xs ++ cutD xs (some (-1)) none), .tup xs.reverse, .tup [.tup xs]]) S = .ok (.lst (L ++ [.lst xs, .tup (cutD xs none (some (-1))), .tup (xs ++ cutD xs (some (-1)) none), .tup xs.reverse, .tup [.tup xs]])) S := cat_lst (by simp; omega)
    have ls : ∀ S, fList [.tup xs] S = .ok (.lst xs) S := fun S => by simp [show xs.length ≤ 100000 by omega]
    have ty : isTy .tuple (.tup xs) = true := rfl
    generalize (L ++ [.lst xs, .tup (cutD xs none (some (-1))), .tup (xs ++ cutD xs (some (-1)) none), .tup xs.reverse, .tup [.tup xs]] : List D) = LL at *
    unfold mBe2
    simp -implicitDefEqProofs [ty, ls, c1, c2]
  | _ => exact other rfl
theorem be3 (hd : AnyD n m c d) (hm : 10 ^ 41 ≤ m) (hm2 : m < 10 ^ 100) (hL : LeafOk n m c w c' L) (hl : L.length ≤ 119) (v3 : Option D) (S : Store) :
    ∃ L', LeafOk n m c w c' L' ∧ mBe3 [some (.ref k), some d, some (.lst more), v3, some (.lst L)] S = .ok (.nx [some (.ref k), some d, some (.lst more), v3, some (.lst L')]) S := by
  have z100 : (10 : Nat) ^ 100 < 10 ^ 200 := by decide +kernel
  have z41 : (10 : Nat) ^ 41 = 100000000000000000000000000000000000000000 := by decide
  have other : isTy .int d = false → ∃ L', LeafOk n m c w c' L' ∧ mBe3 [some (.ref k), some d, some (.lst more), v3, some (.lst L)] S = .ok (.nx [some (.ref k), some d, some (.lst more), v3, some (.lst L')]) S := fun e => by
    refine ⟨L, hL, ?_⟩
    have io := hd.isok S
    unfold mBe3
    simp -implicitDefEqProofs [e, io]
  have ai : ∀ i : Int, i.natAbs < m + 1 → AnyD (n + w + 1) (m + 1) (2 * c + c' + 150) (.int i) := fun i h => (any_int (n := n + w + 1) (m := m + 1) h (by omega)).mono (Nat.le_refl _) (Nat.le_refl _) (Nat.zero_le _)
  have wr := hd.wrap
  cases d with
  | int i =>
    have ib : i.natAbs < m := by
      have := hd.ib
      unfold intsB at this
      exact of_decide_eq_true this
    have s19 : i.natAbs < 2 ^ 1900 := Nat.lt_trans ib (Nat.lt_trans hm2 (by decide +kernel))
    have ys : ∀ x ∈ ([.int (i + 1), .int (i - 1), .int (-i), .str (strI i), .tup [.int i]] : List D), AnyD (n + w + 1) (m + 1) (2 * c + c' + 150) x := fun x hx => by
      simp only [List.mem_cons, List.not_mem_nil, or_false] at hx
      rcases hx with rfl | rfl | rfl | rfl | rfl
      · exact ai _ (by omega)
      · exact ai _ (by omega)
      · exact ai _ (by omega)
      · exact (any_strI (Nat.lt_trans ib hm2)).mono (Nat.le_refl _) (Nat.le_refl _) (by omega)
      · exact wr.mono (by omega) (by omega) (by omega)
    refine ⟨L ++ [.int (i + 1), .int (i - 1), .int (-i), .str (strI i), .tup [.int i]], LeafOk.add hL (by simp; omega) ys, ?_⟩
    have c2 : ∀ S, opAdd (.lst L) (.lst [.int (i + 1), .int (i - 1), .int (-i), .str (strI i), .tup [.int i]]) S = .ok (.lst (L ++ [.int (i + 1), .int (i - 1), .int (-i), .str (strI i), .tup [.int i]])) S := cat_lst (by simp; omega)
    have st : ∀ S, fStrM [.int i] S = .ok (.str (strI i)) S := fun S => strM_int s19
    have ty : isTy .int (.int i) = true := rfl
    generalize (L ++ [.int (i + 1), .int (i - 1), .int (-i), .str (strI i), .tup [.int i]] : List D) = LL at *
    generalize strI i = SI at *
    unfold mBe3
    simp -implicitDefEqProofs [ty, st, c2]
  | bl b =>
    have ys : ∀ x ∈ ([.int (b01 b + 1), .int (b01 b - 1), .int (-b01 b), .str (strB b), .tup [.bl b]] : List D), AnyD (n + w + 1) (m + 1) (2 * c + c' + 150) x := fun x hx => by
      simp only [List.mem_cons, List.not_mem_nil, or_false] at hx
      have hb : (b01 b).natAbs ≤ 1 := by cases b <;> decide
      rcases hx with rfl | rfl | rfl | rfl | rfl
      · exact ai _ (by omega)
      · exact ai _ (by omega)
      · exact ai _ (by omega)
      · refine (any_str (c := 5) ?_ ?_).mono (Nat.le_refl _) (Nat.le_refl _) (by omega)
        · cases b
          · exact strOk_of' "False"
          · exact strOk_of' "True"
        · cases b <;> decide +kernel
      · exact wr.mono (by omega) (by omega) (by omega)
    refine ⟨L ++ [.int (b01 b + 1), .int (b01 b - 1), .int (-b01 b), .str (strB b), .tup [.bl b]], LeafOk.add hL (by simp; omega) ys, ?_⟩
    have c2 : ∀ S, opAdd (.lst L) (.lst [.int (b01 b + 1), .int (b01 b - 1), .int (-b01 b), .str (strB b), .tup [.bl b]]) S = .ok (.lst (L ++ [.int (b01 b + 1), .int (b01 b - 1), .int (-b01 b), .str (strB b), .tup [.bl b]])) S := cat_lst (by simp; omega)
    have ty : isTy .int (.bl b) = true := rfl
    generalize (L ++ [.int (b01 b + 1), .int (b01 b - 1), .int (-b01 b), .str (strB b), .tup [.bl b]] : List D) = LL at *
    unfold mBe3
    simp -implicitDefEqProofs [ty, c2]
  | _ => exact other rfl
def BtQ (S0 : Store) (k M n m c : Nat) (d : D) (S' : Store) : Prop := AnyD n m c d ∧ BoxS S0 k M S'
theorem BtQ.mono {S0 : Store} {k M n m c M' n' m' c' : Nat} {d : D} {S' : Store} (h : BtQ S0 k M n m c d S') (a : M ≤ M') (b : n ≤ n') (e : m ≤ m') (f : c ≤ c') : BtQ S0 k M' n' m' c' d S' := ⟨h.1.mono b e f, h.2.mono a⟩
/-- a leaf: one of the choices -/
theorem be_leaf (hd : AnyD n m c d) (hc : c ≤ 10000) (hm : 10 ^ 41 ≤ m) (hm2 : m < 10 ^ 100) (hL : more.length ≤ 100) (hq : ∀ x ∈ more, AnyD w m c' x) (hB : BoxS S0 k N S) (hN : N < 2 ^ 40) (v3 v4 : Option D) :
    (mSeq mBe1 (mSeq mBe2 (mSeq mBe3 mBe4)) [some (.ref k), some d, some (.lst more), v3, v4] S).Sat fun fl S' => ∃ y, fl = .rt y ∧ BtQ S0 k (N + 1) (n + w + 1) (m + 1) (2 * c + c' + 150) y S' := by
  have z : (10 : Nat) ^ 100 < 10 ^ 200 := by decide +kernel
  obtain ⟨L1, o1, l1, e1⟩ := be1 (k := k) (n := n) (c := c) hm (Nat.lt_trans hm2 z) hL hq d v3 v4 S
  obtain ⟨L2, o2, l2, e2⟩ := be2 (k := k) (more := more) hd hc o1 l1 v3 S
  obtain ⟨L3, o3, e3⟩ := be3 (k := k) (more := more) hd hm hm2 o2 l2 v3 S
  rw [ap_seq, e1, bind_ok, seqK_nx, ap_seq, e2, bind_ok, seqK_nx, ap_seq, e3, bind_ok, seqK_nx]
  have os := of_s hB hN o3.1 (Nat.lt_of_le_of_lt o3.2.1 (by decide))
  unfold mBe4
  generalize hP : (fun (fl : Fl) (S' : Store) => ∃ y, fl = .rt y ∧ BtQ S0 k (N + 1) (n + w + 1) (m + 1) (2 * c + c' + 150) y S') = PP
  have dn : ∀ y S', y ∈ L3 → BoxS S0 k (N + 1) S' → PP (.rt y) S' := fun y S' a b => by
    rw [← hP]
    exact ⟨y, rfl, o3.2.2 y a, b⟩
  clear hP
  simp -implicitDefEqProofs
  refine sat_step os ?_
  rintro y S1 ⟨hy, h1⟩
  simp -implicitDefEqProofs
  exact dn y S1 hy h1
/-- a value changed at one place -/
theorem bent_any (hm : 10 ^ 41 ≤ m) (hm2 : m < 10 ^ 100) (hL : more.length ≤ 100) (hq : ∀ x ∈ more, AnyD w m c' x) : ∀ (n f : Nat) (d : D) (c N : Nat) (S : Store), n < f → n ≤ 18 → AnyD n m c d → c ≤ 10000 → BoxS S0 k N S → N + 3 * n + 10 < 2 ^ 40 →
    (f_l_bent f [.ref k, d, .lst more] S).Sat (BtQ S0 k (N + 3 * n + 3) (n + w + 1) (m + 1) (3 * c + c' + 151))
  | n, 0, d, c, N, S, hf, _, _, _, _, _ => absurd hf (by omega)
  | n, f + 1, d, c, N, S, hf, hn18, hd, hc, hB, hN => by
    have fn : ∀ S' M d, BoxS S0 k M S' → fin S.length d S' = .ok d S' := fun S' M d h' => fin_len (h'.len.trans hB.len.symm)
    have leaf : ∀ (S1 : Store) (N1 : Nat) (v3 v4 : Option D), N1 ≤ N + 2 → BoxS S0 k N1 S1 → (mSeq mBe1 (mSeq mBe2 (mSeq mBe3 mBe4)) [some (.ref k), some d, some (.lst more), v3, v4] S1).Sat fun fl S' => ∃ y, fl = .rt y ∧ BtQ S0 k (N + 3 * n + 3) (n + w + 1) (m + 1) (3 * c + c' + 151) y S' := fun S1 N1 v3 v4 h1 hB1 => by
      have q := be_leaf hd hc hm hm2 hL hq hB1 (by omega) v3 v4
      cases hr : mSeq mBe1 (mSeq mBe2 (mSeq mBe3 mBe4)) [some (.ref k), some d, some (.lst more), v3, v4] S1 with
      | ok fl S2 =>
        rw [hr] at q
        obtain ⟨y, rfl, hy⟩ := q
        exact ⟨y, rfl, hy.mono (by omega) (Nat.le_refl _) (Nat.le_refl _) (by omega)⟩
      | ex e S2 => rw [hr] at q; exact q.elim
      | no => rw [hr] at q; exact q.elim
    show (fnM 5 3 (m_l_bent (f_l_bent f)) [.ref k, d, .lst more] S).Sat _
    rw [form_bent, fnM_3]
    show (endM S.length (mSeq (mBe0 (f_l_bent f)) (mSeq mBe1 (mSeq mBe2 (mSeq mBe3 mBe4))) [some (.ref k), some d, some (.lst more), none, none] S)).Sat _
    refine sat_end (P := fun fl S' => ∃ y, fl = .rt y ∧ BtQ S0 k (N + 3 * n + 3) (n + w + 1) (m + 1) (3 * c + c' + 151) y S') ?_ ?_
    · generalize mSeq mBe1 (mSeq mBe2 (mSeq mBe3 mBe4)) = REST at *
      have skip : isTy .tuple d = false → (mSeq (mBe0 (f_l_bent f)) REST [some (.ref k), some d, some (.lst more), none, none] S).Sat fun fl S' => ∃ y, fl = .rt y ∧ BtQ S0 k (N + 3 * n + 3) (n + w + 1) (m + 1) (3 * c + c' + 151) y S' := fun e => by
        have lf := leaf S N none none (by omega) hB
        generalize hP : (fun (fl : Fl) (S' : Store) => ∃ y, fl = .rt y ∧ BtQ S0 k (N + 3 * n + 3) (n + w + 1) (m + 1) (3 * c + c' + 151) y S') = PP at *
        have io := hd.isok S
        unfold mBe0
        simp -implicitDefEqProofs [e, io]
        exact lf
      cases d with
      | tup xs =>
        cases xs with
        | nil =>
          have lf := leaf S N none none (by omega) hB
          have ne : ∀ S, opNe (.tup []) (.tup []) S = .ok (.bl false) S := fun S => rfl
          have ty : isTy .tuple (.tup []) = true := rfl
          generalize hP : (fun (fl : Fl) (S' : Store) => ∃ y, fl = .rt y ∧ BtQ S0 k (N + 3 * n + 3) (n + w + 1) (m + 1) (3 * c + c' + 151) y S') = PP at *
          unfold mBe0
          simp -implicitDefEqProofs [ne, ty]
          exact lf
        | cons x0 xr =>
          have hne0 : (x0 :: xr) ≠ [] := by simp
          have len := hd.len
          obtain ⟨n', rfl, hs, hb, hr⟩ := hd.inT
          have ne : ∀ S, opNe (.tup (x0 :: xr)) (.tup []) S = .ok (.bl true) S := fun S => by
            rw [ne_plain (shal_up (n' + 1) 20 _ (by omega) hd.sh) rfl]
            rfl
          have ty : isTy .tuple (.tup (x0 :: xr)) = true := rfl
          have pos : 0 < (x0 :: xr).length := by simp
          have ln : ∀ S, fLen [.tup (x0 :: xr)] S = .ok (.int ((x0 :: xr).length : Nat)) S := fun S => by simp
          generalize hX : (x0 :: xr : List D) = xs at *
          have rec_ := fun (x : D) (hx : x ∈ xs) (S1 : Store) (h1 : BoxS S0 k (N + 2) S1) => bent_any hm hm2 hL hq n' f x (rpC x) (N + 2) S1 (by omega) (by omega) ⟨hs x hx, hb x hx, Nat.le_refl _⟩ (by have := rpCL_mem hx; omega) h1 (by omega)
          have done : ∀ (j : Nat) (y : D) (S2 : Store), j < xs.length → BtQ S0 k (N + 2 + 3 * n' + 3) (n' + w + 1) (m + 1) (3 * rpC (xs[j]?.getD .non) + c' + 151) y S2 → BtQ S0 k (N + 3 * (n' + 1) + 3) (n' + 1 + w + 1) (m + 1) (3 * c + c' + 151) (.tup (xs.take j ++ [y] ++ xs.drop (j + 1))) S2 := fun j y S2 hj hy => by
            refine ⟨?_, hy.2.mono (by omega)⟩
            have ej : xs[j]?.getD .non = xs[j] := by rw [List.getElem?_eq_getElem hj]; rfl
            have split : xs = xs.take j ++ [xs[j]] ++ xs.drop (j + 1) := by
              rw [List.append_assoc, List.singleton_append, ← List.drop_eq_getElem_cons hj, List.take_append_drop]
            have cost : rpCL xs = rpCL (xs.take j) + (rpC xs[j] + 1) + rpCL (xs.drop (j + 1)) := by
              have := congrArg rpCL split
              rw [rpCL_app, rpCL_app] at this
              simpa [rpCL] using this
            have cx := rpCL_mem (List.getElem_mem hj)
            rw [ej] at hy
            have y3 := hy.1.rp
            have e : n' + 1 + w + 1 = (n' + w + 1) + 1 := by omega
            rw [e]
            refine .tup (fun z hz => ?_) (fun z hz => ?_) ?_
            · rcases List.mem_append.mp hz with hz | hz
              · rcases List.mem_append.mp hz with hz | hz
                · exact shal_up n' _ z (by omega) (hs z (List.mem_of_mem_take hz))
                · rw [List.mem_singleton.mp hz]; exact hy.1.sh
              · exact shal_up n' _ z (by omega) (hs z (List.mem_of_mem_drop hz))
            · rcases List.mem_append.mp hz with hz | hz
              · rcases List.mem_append.mp hz with hz | hz
                · exact intsB_up (by omega) z (hb z (List.mem_of_mem_take hz))
                · rw [List.mem_singleton.mp hz]; exact hy.1.ib
              · exact intsB_up (by omega) z (hb z (List.mem_of_mem_drop hz))
            · rw [rpCL_app, rpCL_app]
              simp only [rpCL]
              omega
          generalize hP : (fun (fl : Fl) (S' : Store) => ∃ y, fl = .rt y ∧ BtQ S0 k (N + 3 * (n' + 1) + 3) (n' + 1 + w + 1) (m + 1) (3 * c + c' + 151) y S') = PP at *
          have dn : ∀ y S', BtQ S0 k (N + 3 * (n' + 1) + 3) (n' + 1 + w + 1) (m + 1) (3 * c + c' + 151) y S' → PP (.rt y) S' := fun y S' a => by
            rw [← hP]
            exact ⟨y, rfl, a⟩
          clear hP hX
          unfold mBe0
          simp -implicitDefEqProofs [ne, ty]
          refine sat_step (take_s (n := 5) hB (by omega) (by decide) (by decide)) ?_
          rintro _ S1 ⟨r1, rfl, a1, b1, h1⟩
          by_cases c1 : 0 < r1
          · simp -implicitDefEqProofs [c1, ln]
            refine sat_step (take_s (n := (xs.length : Int)) h1 (by omega) (by omega) (Int.lt_of_le_of_lt (show (xs.length : Int) ≤ 10000 by omega) (by decide))) ?_
            rintro _ S2 ⟨r2, rfl, a2, b2, h2⟩
            obtain ⟨j, rfl⟩ : ∃ j : Nat, r2 = j := ⟨r2.toNat, by omega⟩
            have hj : j < xs.length := by omega
            have ix : ∀ S, opIx (.tup xs) (.int (j : Nat)) S = .ok xs[j] S := fun S => by
              simp [atI_get (List.getElem?_eq_getElem hj)]
            have rc := rec_ xs[j] (List.getElem_mem hj) S2 h2
            have cp : cutD xs none (some (j : Int)) = xs.take j := cutD_take xs j
            have ce : cutD xs (some ((j : Int) + 1)) none = xs.drop (j + 1) := by
              unfold cutD
              rw [HT.sIx_none, show ((j : Int) + 1) = ((j + 1 : Nat) : Int) by omega, HT.sIx_nat, Nat.min_eq_left (by omega), List.take_of_length_le (by rw [List.length_drop]; omega)]
            have dj := fun y S2 => done j y S2 hj
            rw [List.getElem?_eq_getElem hj] at dj
            simp only [Option.getD_some] at dj
            have ai : ∀ S, opAdd (.int (j : Nat)) (.int 1) S = .ok (.int ((j : Int) + 1)) S := fun S => by simp
            have k1 : ∀ (y : D) S, opAdd (.tup (xs.take j)) (.tup [y]) S = .ok (.tup (xs.take j ++ [y])) S := fun y S => cat_tup (by rw [List.length_take]; simp; omega) S
            have k2 : ∀ (y : D) S, opAdd (.tup (xs.take j ++ [y])) (.tup (xs.drop (j + 1))) S = .ok (.tup (xs.take j ++ [y] ++ xs.drop (j + 1))) S := fun y S => cat_tup (by rw [List.length_append, List.length_take, List.length_drop]; simp; omega) S
            generalize xs[j] = xj at *
            simp -implicitDefEqProofs [ix, cp]
            refine sat_step rc ?_
            intro y S3 hy
            have hq2 := dn _ _ (dj y S3 hy)
            simp only [List.append_assoc] at k2 hq2
            have k1' := k1 y
            have k2' := k2 y
            generalize (xs.take j ++ ([y] ++ xs.drop (j + 1)) : List D) = R3 at *
            generalize (xs.take j ++ [y] : List D) = R2 at *
            simp -implicitDefEqProofs [k1', ai, ce, k2']
            exact hq2
          · have lf := leaf S1 (N + 1) none none (by omega) h1
            simp -implicitDefEqProofs [c1]
            exact lf
      | _ => exact skip rfl
    · rintro _ S' ⟨y, rfl, hy⟩
      exact sat_of (fn S' _ y hy.2) hy
end
/-! ### what kind a thing is, told of any data -/
abbrev Th (d : D) : Prop := AnyD 18 (10 ^ 100) 20000 d
section
variable {d a b : D} {xs : List D} {S : Store} {m l : Int}
theorem Th.item (h : Th (.tup xs)) {x : D} (hx : x ∈ xs) : Th x := by
  have h' : AnyD (17 + 1) (10 ^ 100) 20000 (.tup xs) := h
  exact (h'.item hx).mono (by omega) (Nat.le_refl _) (by omega)
theorem Th.pu (h : Th d) : pureD d = true := h.pure (by omega)
theorem Th.len (h : Th (.tup xs)) : xs.length ≤ 20000 := AnyD.len h
theorem Th.shal20 (h : Th d) : shal 20 d = true := shal_up 18 20 d (by omega) h.sh
theorem Th.ok20 (h : Th d) : okD 20 d = true := shal_okD 20 d h.shal20 (Nat.le_trans h.rp (by omega))
def numB (l : Int) : D → Bool
  | .int i => decide (l ≤ i)
  | _ => false
theorem numB_yes (h : numB l d = true) : ∃ i, d = .int i ∧ l ≤ i := by
  cases d with
  | int i => exact ⟨i, rfl, of_decide_eq_true h⟩
  | _ => cases h
def tupB (k : Nat) : D → Bool
  | .tup xs => decide (xs.length = k)
  | _ => false
theorem tupB_2 (h : tupB 2 d = true) : ∃ a b, d = .tup [a, b] := by
  cases d with
  | tup xs =>
    have h := of_decide_eq_true h
    match xs, h with
    | [a, b], _ => exact ⟨a, b, rfl⟩
  | _ => cases h
theorem tupB_3 (h : tupB 3 d = true) : ∃ a b c, d = .tup [a, b, c] := by
  cases d with
  | tup xs =>
    have h := of_decide_eq_true h
    match xs, h with
    | [a, b, c], _ => exact ⟨a, b, c, rfl⟩
  | _ => cases h
theorem numP (h : Th d) (l : Int) (S : Store) : fPure f_p_is_number [d, .int l] S = .ok (.bl (numB l d)) S := by
  refine fPure_ap S (by simp only [pureL_cons, pureD_int, h.pu, pureL_nil]; rfl) ?_
  have sh := h.sh
  unfold f_p_is_number m_p_is_number
  rw [fnM_2]
  cases d with
  | non => simp [fin_nil, isTy, numB]
  | bl b => simp [fin_nil, isTy, numB]
  | int x => simp [fin_nil, isTy, numB]
  | str x => simp [fin_nil, isTy, numB]
  | tup xs => simp [fin_nil, isTy, numB]
  | lst xs => simp [fin_nil, isTy, numB]
  | fro xs => simp [shal] at sh
  | obj c xs => simp [shal] at sh
  | exn c xs => simp [shal] at sh
  | ref k => simp [shal] at sh
theorem tupP (h : Th d) (k : Nat) (S : Store) : fPure f_p_is_tuple [d, .int (k : Nat)] S = .ok (.bl (tupB k d)) S := by
  refine fPure_ap S (by simp only [pureL_cons, pureD_int, h.pu, pureL_nil]; rfl) ?_
  have sh := h.sh
  unfold f_p_is_tuple m_p_is_tuple
  rw [fnM_2]
  cases d with
  | tup xs =>
    have hl := h.len
    have e : tupB k (.tup xs) = decide ((xs.length : Int) = (k : Int)) := by
      show decide (xs.length = k) = _
      by_cases q : xs.length = k
      · rw [decide_eq_true q, decide_eq_true (by omega)]
      · rw [decide_eq_false q, decide_eq_false (by omega)]
    rw [e]
    have ln : ∀ S, fLen [.tup xs] S = .ok (.int (xs.length : Nat)) S := fun S => by simp
    have ty : isTy .tuple (.tup xs) = true := rfl
    generalize (xs.length : Int) = L at *
    simp [ty, ln, fin_nil]
  | fro xs => simp [shal] at sh
  | obj c xs => simp [shal] at sh
  | exn c xs => simp [shal] at sh
  | ref k => simp [shal] at sh
  | _ => simp [fin_nil, isTy, tupB]
def pairOf : D → Option (Int × Int)
  | .tup [.int p, .int q] => some (p, q)
  | _ => none
theorem pairOf_some {p : Int × Int} (h : pairOf d = some p) : d = pairD p := by
  unfold pairOf at h
  split at h
  · cases h; rfl
  · cases h
theorem pairOf_pair (p : Int × Int) : pairOf (pairD p) = some p := rfl
/-- two numbers from l on, the first one less -/
def pairB (l : Int) (d : D) : Bool := match pairOf d with
  | some p => decide (l ≤ p.1) && (decide (l ≤ p.2) && decide (p.1 < p.2))
  | none => false
def lookB (m : Int) (d : D) : Bool := match pairOf d with
  | some p => decide (0 ≤ p.1) && (decide (0 ≤ p.2) && (decide (p.1 < p.2) && decide (p.2 ≤ m)))
  | none => false
theorem pairB_two : pairB l (.tup [a, b]) = (numB l a && (numB l b && (match a, b with | .int p, .int q => decide (p < q) | _, _ => false))) := by
  cases a with
  | int p =>
    cases b with
    | int q => rfl
    | _ => simp [pairB, pairOf, numB]
  | _ => rfl
theorem lookB_two : lookB m (.tup [a, b]) = (numB 0 a && (numB 0 b && (match a, b with | .int p, .int q => decide (p < q) && decide (q ≤ m) | _, _ => false))) := by
  cases a with
  | int p =>
    cases b with
    | int q => rfl
    | _ => simp [lookB, pairOf, numB]
  | _ => rfl
theorem pairOf_not2 (h : tupB 2 d = false) : pairOf d = none := by
  unfold pairOf
  split
  · simp [tupB] at h
  · rfl
theorem limitBP (h : Th d) (S : Store) : fPure f_p_is_limit [d] S = .ok (.bl (pairB 1 d)) S := by
  refine fPure_ap S (by simp only [pureL_cons, h.pu, pureL_nil]; rfl) ?_
  have t2 : ∀ S, fPure f_p_is_tuple [d, .int 2] S = .ok (.bl (tupB 2 d)) S := fun S => tupP h 2 S
  unfold f_p_is_limit m_p_is_limit
  rw [fnM_1]
  cases q : tupB 2 d with
  | false =>
    rw [q] at t2
    have e : pairB 1 d = false := by unfold pairB; rw [pairOf_not2 q]
    rw [e]
    simp [t2, fin_nil]
  | true =>
    rw [q] at t2
    obtain ⟨a, b, rfl⟩ := tupB_2 q
    have na := fun S => numP (h.item (x := a) (by simp)) 1 S
    have nb := fun S => numP (h.item (x := b) (by simp)) 1 S
    rw [pairB_two]
    cases qa : numB 1 a with
    | false => rw [qa] at na; simp [t2, na, fin_nil]
    | true =>
      obtain ⟨p, rfl, _⟩ := numB_yes qa
      cases qb : numB 1 b with
      | false => rw [qa] at na; rw [qb] at nb; simp [t2, na, nb, fin_nil]
      | true =>
        obtain ⟨r, rfl, _⟩ := numB_yes qb
        rw [qa] at na
        rw [qb] at nb
        simp [t2, na, nb, fin_nil]
theorem stretchBP (h : Th d) (m : Int) (S : Store) : fPure f_p_is_stretch [.int m, d] S = .ok (.bl (lookB m d)) S := by
  refine fPure_ap S (by simp only [pureL_cons, pureD_int, h.pu, pureL_nil]; rfl) ?_
  have t2 : ∀ S, fPure f_p_is_tuple [d, .int 2] S = .ok (.bl (tupB 2 d)) S := fun S => tupP h 2 S
  unfold f_p_is_stretch m_p_is_stretch
  rw [fnM_2]
  cases q : tupB 2 d with
  | false =>
    rw [q] at t2
    have e : lookB m d = false := by unfold lookB; rw [pairOf_not2 q]
    rw [e]
    simp [t2, fin_nil]
  | true =>
    rw [q] at t2
    obtain ⟨a, b, rfl⟩ := tupB_2 q
    have na := fun S => numP (h.item (x := a) (by simp)) 0 S
    have nb := fun S => numP (h.item (x := b) (by simp)) 0 S
    rw [lookB_two]
    cases qa : numB 0 a with
    | false => rw [qa] at na; simp [t2, na, fin_nil]
    | true =>
      obtain ⟨p, rfl, _⟩ := numB_yes qa
      cases qb : numB 0 b with
      | false => rw [qa] at na; rw [qb] at nb; simp [t2, na, nb, fin_nil]
      | true =>
        obtain ⟨r, rfl, _⟩ := numB_yes qb
        rw [qa] at na
        rw [qb] at nb
        by_cases c1 : p < r <;> by_cases c2 : r ≤ m <;> simp [t2, na, nb, c1, c2, fin_nil]
/-! rows of looks -/
def ltP (p q : Int × Int) : Bool := decide (p.1 < q.1 ∨ (p.1 = q.1 ∧ p.2 < q.2))
def ascB (ps : List (Int × Int)) : Bool := (ps.zip ps.tail).all fun x => ltP x.1 x.2
theorem ltA_pair (p q : Int × Int) (S : Store) : opLtA (pairD p) (pairD q) S = .ok (.bl (ltP p q)) S := opLtA_2
theorem vp_cut1' (xs : List D) : cutD xs (some 1) none = xs.drop 1 := by
  show cutD xs (some ((1 : Nat) : Int)) none = _
  unfold cutD
  rw [HT.sIx_none, HT.sIx_nat]
  by_cases h : 1 ≤ xs.length
  · rw [Nat.min_eq_left h, List.take_of_length_le (by rw [List.length_drop]; omega)]
  · rw [Nat.min_eq_right (by omega), List.drop_of_length_le (Nat.le_refl _), List.drop_of_length_le (by omega)]
    simp
theorem all_mapB' {β : Type} (q : β → Bool) (xs : List β) (S : Store) : fAll [.lst (xs.map fun x => D.bl (q x))] S = .ok (.bl (xs.all q)) S := by
  have bm : ∀ xs : List β, boolsD (xs.map fun x => D.bl (q x)) = some (xs.map q) := fun xs => by
    induction xs with
    | nil => rfl
    | cons x xs ih => rw [List.map_cons, boolsD, ih]; rfl
  rw [all_lst (bm xs), List.all_map]
  rfl
def pair2 (x : (Int × Int) × (Int × Int)) : D := .tup [pairD x.1, pairD x.2]
theorem ascendsPB {ps : List (Int × Int)} (hP : ps.length ≤ 90000) (S : Store) : fPure f_p_ascends [.tup (ps.map pairD)] S = .ok (.bl (ascB ps)) S := by
  refine fPure_ap S (by simp only [pureL_cons, pureD_tup, pureL_nil]; rw [show pureL (ps.map pairD) = true from pureL_all.mpr fun d hd => by obtain ⟨p, _, rfl⟩ := List.mem_map.mp hd; rfl]; rfl) ?_
  have lc : ∀ v0 S, lcL (mgTup 2 (mgCons (mgN 1) (mgCons (mgN 2) mgNil))) mYes (mOp opLtA (mVar 1) (mVar 2)) [v0, none, none] ((ps.zip ps.tail).map pair2) S = .ok ((ps.zip ps.tail).map fun x => D.bl (ltP x.1 x.2)) S := fun v0 S =>
    lcL_mapx (u := pair2) _ S fun x _ => ⟨[v0, some (pairD x.1), some (pairD x.2)], by simp [pair2], by simp [ltA_pair]⟩
  have al := fun S => all_mapB' (fun x : (Int × Int) × (Int × Int) => ltP x.1 x.2) (ps.zip ps.tail) S
  have zz : ∀ S, zipItems [.tup (ps.map pairD), .tup ((ps.map pairD).drop 1)] S = .ok ((ps.zip ps.tail).map pair2) S := fun S => by
    show Res.ok (zipD _ _) S = _
    have : (ps.map pairD).drop 1 = ps.tail.map pairD := by cases ps <;> rfl
    rw [this, zipD_map]
    rfl
  have pz : (ps.zip ps.tail).length ≤ ps.length := by rw [List.length_zip]; omega
  have hz : ((ps.zip ps.tail).map pair2).length ≤ 100000 := by rw [List.length_map]; omega
  have lz : (ps.map pairD).length ≤ 100000 := by rw [List.length_map]; omega
  have dz : ((ps.map pairD).drop 1).length ≤ 100000 := by rw [List.length_drop]; omega
  have c1 := vp_cut1' (ps.map pairD)
  unfold ascB
  generalize (ps.zip ps.tail).all (fun x => ltP x.1 x.2) = cc at *
  generalize (ps.zip ps.tail).map (fun x => D.bl (ltP x.1 x.2)) = TT at *
  generalize (ps.zip ps.tail).map pair2 = ZZ at *
  generalize hDD : (ps.map pairD).drop 1 = DD at *
  generalize ps.map pairD = LL at *
  unfold f_p_ascends m_p_ascends
  rw [fnM_1]
  simp [zz, hz, lz, dz, c1, lc, al, fin_nil, isTy]
def pairG (d : D) : Int × Int := (pairOf d).getD (0, 0)
theorem lookB_pair (h : lookB m d = true) : d = pairD (pairG d) := by
  unfold lookB at h
  unfold pairG
  cases q : pairOf d with
  | none => rw [q] at h; cases h
  | some p => exact pairOf_some q
theorem pairs_of (h : ∀ x ∈ xs, lookB m x = true) : xs = (xs.map pairG).map pairD := by
  rw [List.map_map]
  have e : xs.map (pairD ∘ pairG) = xs.map fun x => x := List.map_congr_left fun x hx => (lookB_pair (h x hx)).symm
  rw [e, List.map_id']
end
/-! ### lists in the place of tuples: no more, no less -/
theorem lsD_shal : ∀ (n m : Nat) (d : D), shal n d = true → shal n (lsD m d) = true
  | n, 0, d, h => by cases d <;> exact h
  | n, m + 1, .non, h => h
  | n, m + 1, .bl _, h => h
  | n, m + 1, .int _, h => h
  | n, m + 1, .str _, h => h
  | 0, m + 1, .tup xs, h => by simp [shal] at h
  | 0, m + 1, .lst xs, h => by simp [shal] at h
  | n + 1, m + 1, .tup xs, h => by
    rw [shal_tup] at h
    show shal (n + 1) (.lst (xs.map (lsD m))) = true
    rw [shal_lst, List.all_eq_true]
    intro y hy
    obtain ⟨x, hx, rfl⟩ := List.mem_map.mp hy
    exact lsD_shal n m x (List.all_eq_true.mp h x hx)
  | n + 1, m + 1, .lst xs, h => by
    rw [shal_lst] at h
    show shal (n + 1) (.lst (xs.map (lsD m))) = true
    rw [shal_lst, List.all_eq_true]
    intro y hy
    obtain ⟨x, hx, rfl⟩ := List.mem_map.mp hy
    exact lsD_shal n m x (List.all_eq_true.mp h x hx)
  | n, m + 1, .fro _, h => h
  | n, m + 1, .obj _ _, h => h
  | n, m + 1, .exn _ _, h => h
  | n, m + 1, .ref _, h => h
mutual
theorem lsD_ints (k : Nat) : ∀ (m : Nat) (d : D), intsB k (lsD m d) = intsB k d
  | 0, d => by cases d <;> rfl
  | m + 1, .tup xs => by
    show intsB k (.lst (xs.map (lsD m))) = _
    unfold intsB
    exact lsD_intsL k m xs
  | m + 1, .lst xs => by
    show intsB k (.lst (xs.map (lsD m))) = _
    unfold intsB
    exact lsD_intsL k m xs
  | m + 1, .non => rfl
  | m + 1, .bl _ => rfl
  | m + 1, .int _ => rfl
  | m + 1, .str _ => rfl
  | m + 1, .fro _ => rfl
  | m + 1, .obj _ _ => rfl
  | m + 1, .exn _ _ => rfl
  | m + 1, .ref _ => rfl
theorem lsD_intsL (k : Nat) : ∀ (m : Nat) (xs : List D), intsBL k (xs.map (lsD m)) = intsBL k xs
  | m, [] => rfl
  | m, x :: xs => by
    rw [List.map_cons]
    unfold intsBL
    rw [lsD_ints k m x, lsD_intsL k m xs]
end
mutual
theorem lsD_rp : ∀ (m : Nat) (d : D), rpC (lsD m d) = rpC d
  | 0, d => by cases d <;> rfl
  | m + 1, .tup xs => by
    show rpC (.lst (xs.map (lsD m))) = _
    unfold rpC
    exact lsD_rpL m xs
  | m + 1, .lst xs => by
    show rpC (.lst (xs.map (lsD m))) = _
    unfold rpC
    exact lsD_rpL m xs
  | m + 1, .non => rfl
  | m + 1, .bl _ => rfl
  | m + 1, .int _ => rfl
  | m + 1, .str _ => rfl
  | m + 1, .fro _ => rfl
  | m + 1, .obj _ _ => rfl
  | m + 1, .exn _ _ => rfl
  | m + 1, .ref _ => rfl
theorem lsD_rpL : ∀ (m : Nat) (xs : List D), rpCL (xs.map (lsD m)) = rpCL xs
  | m, [] => rfl
  | m, x :: xs => by
    rw [List.map_cons]
    unfold rpCL
    rw [lsD_rp m x, lsD_rpL m xs]
end
theorem AnyD.ls {d : D} {n m c : Nat} (h : AnyD n m c d) (j : Nat) : AnyD n m c (lsD j d) := ⟨lsD_shal n j d h.sh, by rw [lsD_ints]; exact h.ib, by rw [lsD_rp]; exact h.rp⟩
theorem th_of {d : D} {n m c : Nat} (h : AnyD n m c d) (hn : n ≤ 18) (hm : m ≤ 10 ^ 100) (hc : c ≤ 20000) : Th d := h.mono hn hm hc
/-! ### is_book and the law's own judge, of any data -/
section
variable {d a b : D} {xs : List D} {S : Store} {m l : Int}
def looksB (m : Int) : D → Bool
  | .tup xs => xs.all (lookB m) && ascB (xs.map pairG)
  | _ => false
def intG : D → Int
  | .int i => i
  | _ => 0
def bookB : D → Bool
  | .tup [n, l, k] => numB 1 n && (pairB 1 l && looksB (intG n) k)
  | _ => false
theorem areLooksBP (h : Th d) (m : Int) (S : Store) : fPure f_p_are_looks [.int m, d] S = .ok (.bl (looksB m d)) S := by
  refine fPure_ap S (by simp only [pureL_cons, pureD_int, h.pu, pureL_nil]; rfl) ?_
  have sh := h.sh
  have io := h.isok
  unfold f_p_are_looks m_p_are_looks
  rw [fnM_2]
  cases d with
  | tup xs =>
    have hl := h.len
    have lc : ∀ S, lcL (mgN 2) mYes (mCall (fPure f_p_is_stretch) (mCons (mVar 0) (mCons (mVar 2) mNil))) [some (.int m), some (.tup xs), none] xs S = .ok (xs.map fun x => D.bl (lookB m x)) S := fun S => by
      have := lcL_mapx (u := fun d : D => d) (w := fun x => D.bl (lookB m x)) (g := mgN 2) (m := mCall (fPure f_p_is_stretch) (mCons (mVar 0) (mCons (mVar 2) mNil))) (ρ := [some (.int m), some (.tup xs), none]) xs S fun x hx => by
        have sp := stretchBP (h.item hx) m
        exact ⟨[some (.int m), some (.tup xs), some x], rfl, by simp [sp]⟩
      rw [List.map_id'] at this
      exact this
    have al := fun S => all_mapB' (lookB m) xs S
    have ty : isTy .tuple (.tup xs) = true := rfl
    have e : looksB m (.tup xs) = (xs.all (lookB m) && ascB (xs.map pairG)) := rfl
    rw [e]
    cases q : xs.all (lookB m) with
    | false =>
      rw [q] at al
      generalize xs.map (fun x => D.bl (lookB m x)) = TT at *
      simp [ty, lc, al, fin_nil, show xs.length ≤ 100000 by omega]
    | true =>
      rw [q] at al
      have ps := pairs_of (List.all_eq_true.mp q)
      have as : ∀ S, fPure f_p_ascends [.tup xs] S = .ok (.bl (ascB (xs.map pairG))) S := fun S => by
        have := ascendsPB (ps := xs.map pairG) (by rw [List.length_map]; omega) S
        rw [← ps] at this
        exact this
      generalize xs.map (fun x => D.bl (lookB m x)) = TT at *
      generalize ascB (xs.map pairG) = AA at *
      simp [ty, lc, al, as, fin_nil, show xs.length ≤ 100000 by omega]
  | fro xs => simp [shal] at sh
  | obj c xs => simp [shal] at sh
  | exn c xs => simp [shal] at sh
  | ref k => simp [shal] at sh
  | _ => simp [fin_nil, isTy, looksB]
theorem bookB_not3 (h : tupB 3 d = false) : bookB d = false := by
  unfold bookB
  split
  · simp [tupB] at h
  · rfl
theorem isBookBP (h : Th d) (S : Store) : fPure f_p_is_book [d] S = .ok (.bl (bookB d)) S := by
  refine fPure_ap S (by simp only [pureL_cons, h.pu, pureL_nil]; rfl) ?_
  have t3 : ∀ S, fPure f_p_is_tuple [d, .int 3] S = .ok (.bl (tupB 3 d)) S := fun S => tupP h 3 S
  unfold f_p_is_book m_p_is_book
  rw [fnM_1]
  cases q : tupB 3 d with
  | false =>
    rw [q] at t3
    rw [bookB_not3 q]
    simp [t3, fin_nil]
  | true =>
    rw [q] at t3
    obtain ⟨n, l, k, rfl⟩ := tupB_3 q
    have nn := fun S => numP (h.item (x := n) (by simp)) 1 S
    have ll := fun S => limitBP (h.item (x := l) (by simp)) S
    have kk := fun i S => areLooksBP (h.item (x := k) (by simp)) i S
    have e : bookB (.tup [n, l, k]) = (numB 1 n && (pairB 1 l && looksB (intG n) k)) := rfl
    rw [e]
    cases qn : numB 1 n with
    | false => rw [qn] at nn; simp [t3, nn, fin_nil]
    | true =>
      obtain ⟨i, rfl, _⟩ := numB_yes qn
      rw [qn] at nn
      cases ql : pairB 1 l with
      | false => rw [ql] at ll; simp [t3, nn, ll, fin_nil]
      | true =>
        rw [ql] at ll
        have ki := kk i
        have eg : intG (.int i) = i := rfl
        rw [eg]
        generalize looksB i k = B at *
        simp [t3, nn, ll, ki, fin_nil]
theorem lnumP (h : Th d) (l : Int) (S : Store) : fPure f_l_is_number [d, .int l] S = .ok (.bl (numB l d)) S := by
  refine fPure_ap S (by simp only [pureL_cons, pureD_int, h.pu, pureL_nil]; rfl) ?_
  have sh := h.sh
  unfold f_l_is_number m_l_is_number
  rw [fnM_2]
  cases d with
  | non => simp [fin_nil, isTy, numB]
  | bl b => simp [fin_nil, isTy, numB]
  | int x => simp [fin_nil, isTy, numB]
  | str x => simp [fin_nil, isTy, numB]
  | tup xs => simp [fin_nil, isTy, numB]
  | lst xs => simp [fin_nil, isTy, numB]
  | fro xs => simp [shal] at sh
  | obj c xs => simp [shal] at sh
  | exn c xs => simp [shal] at sh
  | ref k => simp [shal] at sh
theorem len_ne {k : Nat} (xs : List D) (k : Nat) (S : Store) : opNe (.int (xs.length : Nat)) (.int (k : Nat)) S = .ok (.bl (!tupB k (.tup xs))) S := by
  have e : tupB k (.tup xs) = ((xs.length : Int) == (k : Int)) := by
    show decide (xs.length = k) = _
    by_cases q : xs.length = k
    · rw [decide_eq_true q, q]; simp
    · rw [decide_eq_false q]
      symm
      rw [beq_eq_false_iff_ne]
      omega
  rw [e]
  rfl
theorem lpairP (h : Th d) (l : Int) (S : Store) : fPure f_l_is_pair [d, .int l] S = .ok (.bl (pairB l d)) S := by
  refine fPure_ap S (by simp only [pureL_cons, pureD_int, h.pu, pureL_nil]; rfl) ?_
  have sh := h.sh
  unfold f_l_is_pair m_l_is_pair
  rw [fnM_2]
  cases d with
  | tup xs =>
    have hl := h.len
    have ty : isTy .tuple (.tup xs) = true := rfl
    have ln : ∀ S, fLen [.tup xs] S = .ok (.int (xs.length : Nat)) S := fun S => by simp
    have ne : ∀ S, opNe (.int (xs.length : Nat)) (.int 2) S = .ok (.bl (!tupB 2 (.tup xs))) S := fun S => len_ne (k := 2) xs 2 S
    cases q : tupB 2 (.tup xs) with
    | false =>
      rw [q] at ne
      have e : pairB l (.tup xs) = false := by unfold pairB; rw [pairOf_not2 q]
      rw [e]
      generalize (xs.length : Int) = L at *
      simp [ty, ln, ne, fin_nil]
    | true =>
      rw [q] at ne
      obtain ⟨a, b, e⟩ := tupB_2 q
      cases e
      have na := fun S => lnumP (h.item (x := a) (by simp)) l S
      have nb := fun S => lnumP (h.item (x := b) (by simp)) l S
      have al := fun S => all_lst (S := S) (xs := [.bl (numB l a), .bl (numB l b)]) (bs := [numB l a, numB l b]) rfl
      rw [pairB_two]
      cases qa : numB l a with
      | false => rw [qa] at na al; simp [ty, na, nb, al, fin_nil, lcL_cons, lcL_nil]
      | true =>
        obtain ⟨p, rfl, _⟩ := numB_yes qa
        cases qb : numB l b with
        | false => rw [qa] at na al; rw [qb] at nb al; simp [ty, na, nb, al, fin_nil, lcL_cons, lcL_nil]
        | true =>
          obtain ⟨r, rfl, _⟩ := numB_yes qb
          rw [qa] at na al
          rw [qb] at nb al
          simp [ty, na, nb, al, fin_nil, lcL_cons, lcL_nil]
  | fro xs => simp [shal] at sh
  | obj c xs => simp [shal] at sh
  | exn c xs => simp [shal] at sh
  | ref k => simp [shal] at sh
  | _ => simp [fin_nil, isTy, pairB, pairOf]
theorem lookB_eq : lookB m d = (pairB 0 d && decide ((pairG d).2 ≤ m)) := by
  unfold lookB pairB pairG
  cases pairOf d with
  | none => rfl
  | some p => simp [Bool.and_assoc]
theorem range_1 (n : Nat) : rangeD 1 n = (List.range n).map fun (k : Nat) => D.int (1 + (k : Int)) := rfl
theorem ascB_iff {ps : List (Int × Int)} : ascB ps = true ↔ ∀ k : Nat, (h : k + 1 < ps.length) → ltP ps[k] ps[k + 1] = true := by
  unfold ascB
  rw [List.all_eq_true]
  constructor
  · intro h k hk
    refine h (ps[k], ps[k + 1]) ?_
    have hz : k < (ps.zip ps.tail).length := by rw [List.length_zip, List.length_tail]; omega
    have e : (ps.zip ps.tail)[k] = (ps[k], ps[k + 1]) := by
      rw [List.getElem_zip, List.getElem_tail]
    rw [← e]
    exact List.getElem_mem hz
  · intro h x hx
    obtain ⟨k, hk, rfl⟩ := List.getElem_of_mem hx
    rw [List.length_zip, List.length_tail] at hk
    rw [List.getElem_zip, List.getElem_tail]
    exact h k (by omega)
/-- not rising anywhere -/
theorem badks {ps : List (Int × Int)} : ((List.range (ps.length - 1)).filter fun k => !ltP (ps[k]?.getD (0, 0)) (ps[k + 1]?.getD (0, 0))).isEmpty = ascB ps := by
  rw [Bool.eq_iff_iff, ascB_iff, List.isEmpty_iff, List.filter_eq_nil_iff]
  constructor
  · intro h k hk
    have := h k (List.mem_range.mpr (by omega))
    rw [List.getElem?_eq_getElem (show k < ps.length by omega), List.getElem?_eq_getElem hk] at this
    simpa using this
  · intro h k hk
    have hk := List.mem_range.mp hk
    rw [List.getElem?_eq_getElem (show k < ps.length by omega), List.getElem?_eq_getElem (show k + 1 < ps.length by omega)]
    have := h k (by omega)
    simpa using this
theorem eq_nilD (ks : List Nat) (f : Nat → D) (hs : ∀ k, shal 19 (f k) = true) (S : Store) : opEq (.lst (ks.map f)) (.lst []) S = .ok (.bl ks.isEmpty) S := by
  have sh : shal 20 (.lst (ks.map f)) = true := by
    rw [shal_lst]
    exact shal_map hs ks
  rw [eq_plain sh rfl]
  cases ks <;> rfl
/-- the row's third look -/
def mAsc (i : Nat) : ME := (mOp opEq (mLc (mRange2 (mC (.int 1)) (mCall fLen (mCons (mOp opIx (mVar 0) (mC (.int (i : Nat)))) mNil))) (mgN 2) (mNotT (mTB (mOp opLtA (mOp opIx (mOp opIx (mVar 0) (mC (.int (i : Nat)))) (mOp opSubI (mVar 2) (mC (.int 1)))) (mOp opIx (mOp opIx (mVar 0) (mC (.int (i : Nat)))) (mVar 2))))) (mVar 2) [2]) (mLst mNil))
theorem asc_law {ps : List (Int × Int)} {M : D} {i : Nat} {v1 : Option D} (hl : ps.length ≤ 20000) (hM : ∀ S, opIx M (.int (i : Nat)) S = .ok (.tup (ps.map pairD)) S) (S : Store) :
    mAsc i [some M, v1, none] S = .ok (.bl (ascB ps)) S := by
  have ln : ∀ S, fLen [.tup (ps.map pairD)] S = .ok (.int (ps.length : Nat)) S := fun S => by simp
  have r2 : ∀ S, r2K2 (.int 1) (.int (ps.length : Nat)) S = .ok ((List.range (ps.length - 1)).map fun (k : Nat) => D.int (1 + (k : Int))) S := fun S => by
    rw [← range_1]
    have e : ((ps.length : Int) - 1).toNat = ps.length - 1 := by omega
    show (if (1 : Int).natAbs < 2 ^ 62 ∧ (ps.length : Int).natAbs < 2 ^ 62 then Res.ok (rangeD 1 ((ps.length : Int) - 1).toNat) S else .no) = _
    have z : (2 : Nat) ^ 62 = 4611686018427387904 := by decide
    rw [if_pos (by omega), e]
  have lc : ∀ S, lcL (mgN 2) (mNotT (mTB (mOp opLtA (mOp opIx (mOp opIx (mVar 0) (mC (.int (i : Nat)))) (mOp opSubI (mVar 2) (mC (.int 1)))) (mOp opIx (mOp opIx (mVar 0) (mC (.int (i : Nat)))) (mVar 2))))) (mVar 2) [some M, v1, none] ((List.range (ps.length - 1)).map fun (k : Nat) => D.int (1 + (k : Int))) S = .ok (((List.range (ps.length - 1)).filter fun k => !ltP (ps[k]?.getD (0, 0)) (ps[k + 1]?.getD (0, 0))).map fun (k : Nat) => D.int (1 + (k : Int))) S := fun S => by
    refine lcL_filtermap (u := fun (k : Nat) => D.int (1 + (k : Int))) (w := fun (k : Nat) => D.int (1 + (k : Int))) _ S fun k hk => ⟨[some M, v1, some (.int (1 + (k : Int)))], rfl, ?_, by simp⟩
    have hk := List.mem_range.mp hk
    have k0 : k < ps.length := by omega
    have k1 : k + 1 < ps.length := by omega
    have i0 : ∀ S, opIx (.tup (ps.map pairD)) (.int (1 + (k : Int) - 1)) S = .ok (pairD ps[k]) S := fun S => by
      rw [show (1 + (k : Int) - 1) = (k : Int) by omega, ix_tupD, atI_get (x := pairD ps[k]) (by rw [List.getElem?_map, List.getElem?_eq_getElem k0]; rfl)]
      rfl
    have i1 : ∀ S, opIx (.tup (ps.map pairD)) (.int (1 + (k : Int))) S = .ok (pairD ps[k + 1]) S := fun S => by
      rw [show (1 + (k : Int)) = ((k + 1 : Nat) : Int) by omega, ix_tupD, atI_get (x := pairD ps[k + 1]) (by rw [List.getElem?_map, List.getElem?_eq_getElem k1]; rfl)]
      rfl
    rw [List.getElem?_eq_getElem k0, List.getElem?_eq_getElem k1]
    have lt := ltA_pair ps[k] ps[k + 1]
    generalize ps[k] = p0 at *
    generalize ps[k + 1] = p1 at *
    generalize ps.map pairD = LL at *
    generalize (1 + (k : Int)) = kk at *
    simp -implicitDefEqProofs [hM, i0, i1, lt]
  have nl := eq_nilD ((List.range (ps.length - 1)).filter fun k => !ltP (ps[k]?.getD (0, 0)) (ps[k + 1]?.getD (0, 0))) (fun (k : Nat) => D.int (1 + (k : Int))) (fun k => shal_int _ _)
  rw [badks] at nl
  have z : ((List.range (ps.length - 1)).map fun (k : Nat) => D.int (1 + (k : Int))).length ≤ 100000 := by rw [List.length_map, List.length_range]; omega
  have z2 : (((List.range (ps.length - 1)).filter fun k => !ltP (ps[k]?.getD (0, 0)) (ps[k + 1]?.getD (0, 0))).map fun (k : Nat) => D.int (1 + (k : Int))).length ≤ 100000 := by
    rw [List.length_map]
    have := List.length_filter_le (fun k => !ltP (ps[k]?.getD (0, 0)) (ps[k + 1]?.getD (0, 0))) (List.range (ps.length - 1))
    rw [List.length_range] at this
    omega
  unfold mAsc
  generalize (((List.range (ps.length - 1)).filter fun k => !ltP (ps[k]?.getD (0, 0)) (ps[k + 1]?.getD (0, 0))).map fun (k : Nat) => D.int (1 + (k : Int))) = RR at *
  generalize ((List.range (ps.length - 1)).map fun (k : Nat) => D.int (1 + (k : Int))) = KK at *
  generalize (ps.length : Int) = L at *
  generalize ps.map pairD = LL at *
  simp -implicitDefEqProofs [hM, ln, r2, lc, nl, z, z2]
end
/-! ### by hand, reckoned by the kernel -/
def isT (r : Res D) : Bool := match r with
  | .ok (.bl b) [] => b
  | _ => false
theorem isT_ok {r : Res D} (h : isT r = true) : r = .ok (.bl true) [] := by
  unfold isT at h
  split at h
  · rw [h]
  · cases h
/-! ### k10: the law's judge; by hand; a turn; the law -/
def mFi0 : MS := (mIf (mOrT (mNotT (mTest (mIsi .tuple (mVar 0)))) (mOrT (mTB (mOp opNe (mCall fLen (mCons (mVar 0) mNil)) (mC (.int 3)))) (mOrT (mNotT (mTest (mCall (fPure f_l_is_number) (mCons (mOp opIx (mVar 0) (mC (.int 0))) (mCons (mC (.int 1)) mNil))))) (mNotT (mTest (mCall (fPure f_l_is_pair) (mCons (mOp opIx (mVar 0) (mC (.int 1))) (mCons (mC (.int 1)) mNil)))))))) (mRet (mC (.bl false))) mSkip)
def mFi1 : MS := (mIf (mOrT (mNotT (mTest (mIsi .tuple (mOp opIx (mVar 0) (mC (.int 2)))))) (mNotT (mTest (mCall fAll (mCons (mLc (mItems (mOp opIx (mVar 0) (mC (.int 2)))) (mgN 1) mYes (mAndV (mCall (fPure f_l_is_pair) (mCons (mVar 1) (mCons (mC (.int 0)) mNil))) (mOp opLe (mOp opIx (mVar 1) (mC (.int 1))) (mOp opIx (mVar 0) (mC (.int 0))))) [1]) mNil))))) (mRet (mC (.bl false))) mSkip)
theorem form_fine : m_l_is_fine = mSeq mFi0 (mSeq mFi1 (mRet (mAsc 2))) := rfl
section
variable {d a b : D} {xs : List D} {S0 S : Store} {m l : Int} {k N : Nat}
theorem isFineBP (h : Th d) (S : Store) : fPure f_l_is_fine [d] S = .ok (.bl (bookB d)) S := by
  refine fPure_ap S (by simp only [pureL_cons, h.pu, pureL_nil]; rfl) ?_
  have sh := h.sh
  have io := h.isok
  unfold f_l_is_fine
  rw [form_fine, fnM_1]
  have fnF : fin 0 (.bl false) ([] : Store) = .ok (.bl false) [] := fin_nil rfl
  have fnB : ∀ b, fin 0 (.bl b) ([] : Store) = .ok (.bl b) [] := fun b => fin_nil rfl
  show endM 0 (mSeq mFi0 (mSeq mFi1 (mRet (mAsc 2))) [some d, none, none] []) = _
  have stop0 : mFi0 [some d, none, none] [] = .ok (.rt (.bl false)) [] → endM 0 (mSeq mFi0 (mSeq mFi1 (mRet (mAsc 2))) [some d, none, none] []) = .ok (.bl false) [] := fun e => by
    rw [ap_seq, e, bind_ok]
    exact fnF
  cases d with
  | tup xs =>
    have hl := h.len
    have ty : isTy .tuple (.tup xs) = true := rfl
    have ln : ∀ S, fLen [.tup xs] S = .ok (.int (xs.length : Nat)) S := fun S => by simp
    have ne : ∀ S, opNe (.int (xs.length : Nat)) (.int 3) S = .ok (.bl (!tupB 3 (.tup xs))) S := fun S => len_ne (k := 3) xs 3 S
    cases q : tupB 3 (.tup xs) with
    | false =>
      rw [q] at ne
      rw [bookB_not3 q]
      refine stop0 ?_
      unfold mFi0
      generalize (xs.length : Int) = L at *
      simp -implicitDefEqProofs [ty, ln, ne]
    | true =>
      rw [q] at ne
      obtain ⟨n, l, kk, e⟩ := tupB_3 q
      cases e
      have hk := h.item (x := kk) (by simp)
      have nn := fun S => lnumP (h.item (x := n) (by simp)) 1 S
      have ll := fun S => lpairP (h.item (x := l) (by simp)) 1 S
      have e : bookB (.tup [n, l, kk]) = (numB 1 n && (pairB 1 l && looksB (intG n) kk)) := rfl
      rw [e]
      cases qn : numB 1 n with
      | false =>
        rw [qn] at nn
        refine stop0 ?_
        unfold mFi0
        simp -implicitDefEqProofs [ty, nn]
      | true =>
        obtain ⟨i, rfl, _⟩ := numB_yes qn
        rw [qn] at nn
        cases ql : pairB 1 l with
        | false =>
          rw [ql] at ll
          refine stop0 ?_
          unfold mFi0
          simp -implicitDefEqProofs [ty, nn, ll]
        | true =>
          rw [ql] at ll
          have eg : intG (.int i) = i := rfl
          rw [eg]
          have go0 : mFi0 [some (.tup [.int i, l, kk]), none, none] [] = .ok (.nx [some (.tup [.int i, l, kk]), none, none]) [] := by
            unfold mFi0
            simp -implicitDefEqProofs [ty, nn, ll]
          rw [ap_seq, go0, bind_ok, seqK_nx]
          have stop1 : ∀ v1, mFi1 [some (.tup [.int i, l, kk]), none, none] [] = .ok (.rt (.bl false)) [] → endM 0 (mSeq mFi1 (mRet (mAsc 2)) [some (.tup [.int i, l, kk]), none, none] []) = .ok (.bl v1) [] ∨ v1 = true := fun v1 e => by
            cases v1 with
            | true => exact .inr rfl
            | false =>
              rw [ap_seq, e, bind_ok]
              exact .inl fnF
          have ik : ∀ S, opIx (.tup [.int i, l, kk]) (.int 2) S = .ok kk S := fun S => by simp
          have i0 : ∀ S, opIx (.tup [.int i, l, kk]) (.int 0) S = .ok (.int i) S := fun S => by simp
          have iok := hk.isok
          cases kk with
          | tup ys =>
            have yl := hk.len
            have tyy : isTy .tuple (.tup ys) = true := rfl
            have lc : ∀ S, lcL (mgN 1) mYes (mAndV (mCall (fPure f_l_is_pair) (mCons (mVar 1) (mCons (mC (.int 0)) mNil))) (mOp opLe (mOp opIx (mVar 1) (mC (.int 1))) (mOp opIx (mVar 0) (mC (.int 0))))) [some (.tup [.int i, l, .tup ys]), none, none] ys S = .ok (ys.map fun x => D.bl (lookB i x)) S := fun S => by
              have := lcL_mapx (u := fun d : D => d) (w := fun x => D.bl (lookB i x)) (g := mgN 1) (m := (mAndV (mCall (fPure f_l_is_pair) (mCons (mVar 1) (mCons (mC (.int 0)) mNil))) (mOp opLe (mOp opIx (mVar 1) (mC (.int 1))) (mOp opIx (mVar 0) (mC (.int 0)))))) (ρ := [some (.tup [.int i, l, .tup ys]), none, none]) ys S fun x hx => by
                refine ⟨[some (.tup [.int i, l, .tup ys]), some x, none], rfl, ?_⟩
                have pp := lpairP (hk.item hx) 0
                rw [lookB_eq]
                cases qp : pairB 0 x with
                | false =>
                  rw [qp] at pp
                  simp -implicitDefEqProofs [pp]
                | true =>
                  rw [qp] at pp
                  obtain ⟨p, ep⟩ : ∃ p, x = pairD p := by
                    unfold pairB at qp
                    cases z : pairOf x with
                    | none => rw [z] at qp; cases qp
                    | some p => exact ⟨p, pairOf_some z⟩
                  subst ep
                  have i1 : ∀ S, opIx (pairD p) (.int 1) S = .ok (.int p.2) S := fun S => by unfold pairD; simp
                  have pg : pairG (pairD p) = p := rfl
                  rw [pg]
                  generalize pairD p = PP at *
                  generalize D.tup ys = YS at *
                  simp -implicitDefEqProofs [pp, i1, i0]
              rw [List.map_id'] at this
              exact this
            have al := fun S => all_mapB' (lookB i) ys S
            have el : looksB i (.tup ys) = (ys.all (lookB i) && ascB (ys.map pairG)) := rfl
            rw [el]
            cases qy : ys.all (lookB i) with
            | false =>
              rw [qy] at al
              generalize ys.map (fun x => D.bl (lookB i x)) = TT at *
              have e1 : mFi1 [some (.tup [.int i, l, .tup ys]), none, none] [] = .ok (.rt (.bl false)) [] := by
                unfold mFi1
                generalize hM : D.tup [.int i, l, .tup ys] = MM at *
                simp -implicitDefEqProofs [ik, tyy, lc, al, show ys.length ≤ 100000 by omega]
              rcases stop1 false e1 with z | z
              · exact z
              · cases z
            | true =>
              rw [qy] at al
              have ps := pairs_of (List.all_eq_true.mp qy)
              have e1 : mFi1 [some (.tup [.int i, l, .tup ys]), none, none] [] = .ok (.nx [some (.tup [.int i, l, .tup ys]), none, none]) [] := by
                generalize ys.map (fun x => D.bl (lookB i x)) = TT at *
                unfold mFi1
                generalize hM : D.tup [.int i, l, .tup ys] = MM at *
                simp -implicitDefEqProofs [ik, tyy, lc, al, show ys.length ≤ 100000 by omega]
              rw [ap_seq, e1, bind_ok, seqK_nx]
              have ac := fun (v1 : Option D) S => asc_law (ps := ys.map pairG) (M := .tup [.int i, l, .tup ys]) (i := 2) (v1 := v1) (by rw [List.length_map]; exact yl) (fun S => by rw [← ps]; exact ik S) S
              generalize ascB (ys.map pairG) = AA at *
              generalize hM : D.tup [.int i, l, .tup ys] = MM at *
              have ac' := ac none
              generalize mAsc 2 = MA at *
              simp -implicitDefEqProofs [ac', fnB]
          | _ =>
            have e1 : ∀ kk, isTy .tuple kk = false → (∀ S, isOk S kk = true) → (∀ S, opIx (.tup [.int i, l, kk]) (.int 2) S = .ok kk S) → mFi1 [some (.tup [.int i, l, kk]), none, none] [] = .ok (.rt (.bl false)) [] := fun kk t o x => by
              unfold mFi1
              generalize D.tup [.int i, l, kk] = MM at *
              simp -implicitDefEqProofs [x, t, o]
            rcases stop1 false (e1 _ rfl iok ik) with z | z
            · exact z
            · cases z
  | fro xs => simp [shal] at sh
  | obj c xs => simp [shal] at sh
  | exn c xs => simp [shal] at sh
  | ref k => simp [shal] at sh
  | _ =>
    refine stop0 ?_
    have e0 : ∀ d, isTy .tuple d = false → (∀ S, isOk S d = true) → mFi0 [some d, none, none] [] = .ok (.rt (.bl false)) [] := fun d t o => by
      unfold mFi0
      simp -implicitDefEqProofs [t, o]
    exact e0 _ rfl io
theorem hand10 : isT (f_l_by_hand_right [] []) = true := by decide +kernel
theorem handR (S : Store) : fPure f_l_by_hand_right [] S = .ok (.bl true) S := fPure_ap S rfl (isT_ok hand10)
end
/-! ### the frame: cells; all([G(box(cells, k)) for k in range(len(cells))]), G any function of data -/
theorem bools_true : ∀ t, boolsD (List.replicate t (D.bl true)) = some (List.replicate t true)
  | 0 => rfl
  | t + 1 => by rw [List.replicate_succ, boolsD, bools_true t]; rfl
theorem all_trues {xs : List D} {S : Store} (h : ∀ d ∈ xs, d = .bl true) : fAll [.lst xs] S = .ok (.bl true) S := by
  rw [List.eq_replicate_iff.mpr ⟨rfl, h⟩, all_lst (bools_true _)]
  simp
theorem box_p {S : Store} {cs : List Int} {k : Nat} (hb : BoxOk) (hk : k < cs.length) (hk2 : k < 100) (hp : S.all Cell.pure = true) : (f_l_box [.lst (cs.map .int), .int (k : Nat)] S).Sat fun d S' => d = .ref S.length ∧ S.length + 1 = S'.length ∧ BoxS S' S.length 0 S' ∧ S'.all Cell.pure = true := by
  obtain ⟨x, hx, e⟩ := hb S cs k hk hk2
  exact sat_of e ⟨rfl, by simp, BoxS.start (x := x) (by simp) hx, by rw [List.all_append, hp]; simp [hx.pure]⟩
def RightG (G : List D → Store → Res D) (W : Nat) : Prop := ∀ (S0 S : Store) (k N : Nat), S0.all Cell.pure = true → BoxS S0 k N S → N + W < 1000000000000 → (G [.ref k] S).Sat fun d S' => d = .bl true ∧ BoxS S0 k (N + W) S'
def mLaw7 (G : List D → Store → Res D) (m : Nat) : MS := (mSeq (mAsg (mCall (fPure f_l_cells) (mCons (mVar 0) (mCons (mC (.int (m : Nat))) mNil))) (mgN 1))
  (mRet (mCall fAll (mCons (mLc (mRange1 (mCall fLen (mCons (mVar 1) mNil))) (mgN 2) mYes (mCall (fCall G) (mCons (mCall (fCall f_l_box) (mCons (mVar 1) (mCons (mVar 2) mNil))) mNil)) [2]) mNil))))
theorem law7_s (G : List D → Store → Res D) (m : Nat) (hm : 0 < m) (hm2 : m ≤ 63) (W : Nat) (hW : W ≤ 100000000) (hr : RightG G W) (hb : BoxOk)
    (ns : List Int) (hn : ns.length ≤ 63) : ∃ S, fnM 3 1 (mLaw7 G m) [scriptD ns] [] = .ok (.bl true) S := by
  obtain ⟨cs, h0, h1, hcs⟩ := cells_ok ns hn m hm hm2
  have hp : pureL [scriptD ns, .int (m : Nat)] = true := by simp only [pureL_cons, scriptD, pureD_fro, pure_ints, pureD_int, pureL_nil, Bool.and_self]
  have hc := fPure_ap (S := []) hp hcs
  have lc : ∀ ρ : Q.Env, 2 < ρ.length → ρ[1]? = some (some (.lst (cs.map .int))) → ∃ vs S1, lcL (mgN 2) mYes (mCall (fCall G) (mCons (mCall (fCall f_l_box) (mCons (mVar 1) (mCons (mVar 2) mNil))) mNil)) ρ (rangeD 0 cs.length) [] = .ok vs S1 ∧ ∀ d ∈ vs, d = .bl true := fun ρ hρ h => by
    obtain ⟨vs, S1, e, _, hP, _⟩ := lcL_ind (g := mgN 2) (m := mCall (fCall G) (mCons (mCall (fCall f_l_box) (mCons (mVar 1) (mCons (mVar 2) mNil))) mNil)) (ρ := ρ) (fun _ S => S.all Cell.pure = true) (fun _ d => d = .bl true) (rangeD 0 cs.length) [] rfl (by
      rintro k S d hd hS
      obtain ⟨hk, rfl⟩ := rangeD_get hd
      have e1 : (ρ.set 2 (some (.int (0 + (k : Int)))))[1]? = some (some (.lst (cs.map .int))) := by rw [List.getElem?_set_ne (by decide)]; exact h
      have e2 : (ρ.set 2 (some (.int (0 + (k : Int)))))[2]? = some (some (.int (0 + (k : Int)))) := List.getElem?_set_self hρ
      obtain ⟨d1, S2, eb, rfl, hl1, hB, hp1⟩ := sat_eq (box_p (S := S) hb hk (by omega) hS)
      obtain ⟨d2, S3, er, rfl, hB2⟩ := sat_eq (hr S2 S2 S.length 0 hp1 hB (by omega))
      refine ⟨_, .bl true, S3, rfl, ?_, rfl, hB2.pure hp1⟩
      have e0 : (0 : Int) + (k : Int) = (k : Nat) := by omega
      rw [e0] at e1 e2 ⊢
      generalize ρ.set 2 (some (.int ((k : Nat) : Int))) = ρ1 at *
      simp only [ap_call, ap_cons, ap_var, e1, e2, varK_some, bind_ok, consK_ap, ap_nil, consK2_ap, fCall_ap, eb, nox_ok, er])
    exact ⟨vs, S1, e, fun d hd => by
      obtain ⟨i, hi, rfl⟩ := List.getElem_of_mem hd
      exact hP i _ (List.getElem?_eq_getElem hi)⟩
  have hlen : (cs.map D.int).length = cs.length := List.length_map _
  have hl3 : cs.length ≤ 100000 := by omega
  obtain ⟨vs, S1, e, hv⟩ := lc [some (scriptD ns), some (.lst (cs.map .int)), none] (by simp) rfl
  have al := all_trues (S := S1) hv
  generalize cs.map D.int = L at *
  generalize scriptD ns = sc at *
  refine ⟨[], ?_⟩
  unfold mLaw7
  rw [fnM_1]
  simp [hc, hlen, r1K_nat cs.length (show cs.length < 2 ^ 60 by omega), rangeD_len, hl3, e, al, fin_nil (show pureD (.bl true) = true from rfl)]
/-! ### k10: a turn; the law -/
def mT100 : MS := (mAsg (mCall (fCall f_l_book) (mCons (mVar 0) (mCons (mC (.int 14)) (mCons (mC (.int 8)) mNil)))) (mgN 2))
def mT101 : MS := (mAsg (mLst (mCons (mVar 2) (mCons (mCall (fPure (f_l_lists 30)) (mCons (mVar 2) mNil)) (mCons (mOp opAdd (mSl (mVar 2) mNoO (mSoO (mC (.int 2)))) (mTup (mCons (mCall fList (mCons (mOp opIx (mVar 2) (mC (.int 2))) mNil)) mNil))) (mCons (mOp opAdd (mSl (mVar 2) mNoO (mSoO (mC (.int 2)))) (mTup (mCons (mRev (mOp opIx (mVar 2) (mC (.int 2)))) mNil))) mNil))))) (mgN 3))
def mLap10 : MS := (mSeq (mAsg (mCall (fCall (f_l_bent 30)) (mCons (mVar 0) (mCons (mVar 2) (mCons (mLst (mCons (mOp opIx (mVar 2) (mC (.int 0))) (mCons (mOp opIx (mVar 2) (mC (.int 1))) (mCons (mOp opIx (mVar 2) (mC (.int 2))) mNil)))) mNil)))) (mgN 5))
  (mAsg (mOp opAdd (mVar 3) (mLst (mCons (mVar 5) (mCons (mCall (fCall (f_l_bent 30)) (mCons (mVar 0) (mCons (mVar 5) (mCons (mLst (mCons (mVar 2) mNil)) mNil)))) mNil)))) (mgN 3)))
def mJud10 : MS := (mSeq (mPar 6 7 (mCons (mCall fRepr (mCons (mVar 5) mNil)) (mCons (mCall (fPure f_l_is_fine) (mCons (mVar 5) mNil)) mNil)))
  (mIf (mOrT (mNotT (mTest (mCall (fPure (f_l_same 30)) (mCons (mLst (mCons (mCall (fPure f_p_is_book) (mCons (mVar 5) mNil)) (mCons (mCallK (fPure f_p_is_book) 0 1 [0] mNil (mCons (mVar 5) mNil)) mNil))) (mCons (mLst (mCons (mVar 7) (mCons (mVar 7) mNil))) mNil))))) (mTB (mOp opNe (mCall fRepr (mCons (mVar 5) mNil)) (mVar 6)))) (mRet (mC (.bl false))) mSkip))
def mT10 : MS := mSeq mT100 (mSeq mT101 (mSeq (mFor (mRange1 (mC (.int 4))) (mgN 4) mLap10) (mFor (mItems (mVar 3)) (mgN 5) mJud10)))
def mR10 (bh : List D → Store → Res D) : MS := mSeq (mIf (mNotT (mTest (mCall bh mNil))) (mRet (mC (.bl false))) mSkip) (mSeq (mFor (mRange1 (mC (.int 8))) (mgN 1) mT10) (mRet (mC (.bl true))))
theorem form_R10 : m_l_right = mR10 (fPure f_l_by_hand_right) := rfl
section
variable {d : D} {S0 S : Store} {k N n : Nat} {a b : Int} {ps : List (Int × Int)} {X : List D}
theorem judge10 (h : Th d) (v0 v1 v2 v3 v4 v6 v7 : Option D) (S : Store) : ∃ w6 w7, mJud10 [v0, v1, v2, v3, v4, some d, v6, v7] S = .ok (.nx [v0, v1, v2, v3, v4, some d, w6, w7]) S := by
  have rp := h.repr (by omega) (by omega)
  have f := fun S => isFineBP h S
  have p := fun S => isBookBP h S
  have pl : place [0] [d] = [d] := rfl
  have sm := fun S => sameP (d := .lst [.bl (bookB d), .bl (bookB d)]) S rfl
  have ne : ∀ S, opNe (.str (textR d)) (.str (textR d)) S = .ok (.bl false) S := fun S => by simp [opNe]
  refine ⟨some (.str (textR d)), some (.bl (bookB d)), ?_⟩
  generalize textR d = TX at *
  generalize bookB d = B at *
  unfold mJud10
  simp -implicitDefEqProofs [rp, f, p, pl, sm, ne]
theorem judges10 (v0 v1 v2 v3 v4 : Option D) (S : Store) : ∀ (L : List D) (v5 v6 v7 : Option D), (∀ d ∈ L, Th d) → ∃ w5 w6 w7, forL (mgN 5) mJud10 L [v0, v1, v2, v3, v4, v5, v6, v7] S = .ok (.nx [v0, v1, v2, v3, v4, w5, w6, w7]) S
  | [], v5, v6, v7, _ => ⟨v5, v6, v7, rfl⟩
  | d :: L, v5, v6, v7, h => by
    obtain ⟨u6, u7, e⟩ := judge10 (h d (List.mem_cons_self ..)) v0 v1 v2 v3 v4 v6 v7 S
    obtain ⟨w5, w6, w7, ih⟩ := judges10 v0 v1 v2 v3 v4 S L (some d) u6 u7 fun x hx => h x (List.mem_cons_of_mem _ hx)
    refine ⟨w5, w6, w7, ?_⟩
    have g0 : mgN 5 d [v0, v1, v2, v3, v4, v5, v6, v7] S = .ok [v0, v1, v2, v3, v4, some d, v6, v7] S := rfl
    rw [forL_cons, g0, bind_ok]
    show (mJud10 _ S).bind (forK _) = _
    rw [e, bind_ok, forK_nx]
    exact ih
/-- a drawn BOOK -/
structure BkZ (n : Nat) (a b : Int) (ps : List (Int × Int)) : Prop where
  n0 : 0 < n ∧ n ≤ 14
  a0 : 0 < a ∧ a < b ∧ b < 2 ^ 67
  lk : LooksOk n ps
  len : ps.length ≤ 8
theorem pairs_rp (h : ∀ p ∈ ps, p.1.natAbs < 10 ^ 41 ∧ p.2.natAbs < 10 ^ 41) : (∀ x ∈ ps.map pairD, shal 1 x = true ∧ intsB (10 ^ 41) x = true ∧ rpC x = 2) := fun x hx => by
  obtain ⟨p, hp, rfl⟩ := List.mem_map.mp hx
  obtain ⟨h1, h2⟩ := h p hp
  have z : (10 : Nat) ^ 41 < 10 ^ 200 := by decide +kernel
  refine ⟨rfl, ?_, ?_⟩
  · unfold pairD
    simp only [intsB, intsBL, decide_eq_true h1, decide_eq_true h2, Bool.and_self]
  · unfold pairD
    simp only [rpC, rpCL]
    rw [if_pos (Nat.lt_trans h1 z), if_pos (Nat.lt_trans h2 z)]
theorem rp_pairs (h : ∀ x ∈ X, rpC x = 2) : rpCL X = 3 * X.length := by
  induction X with
  | nil => rfl
  | cons x X ih =>
    have e := ih fun y hy => h y (List.mem_cons_of_mem _ hy)
    have hx := h x (List.mem_cons_self ..)
    simp only [rpCL, List.length_cons]
    omega
theorem BkZ.small (h : BkZ n a b ps) : ∀ p ∈ ps, p.1.natAbs < 10 ^ 41 ∧ p.2.natAbs < 10 ^ 41 := fun p hp => by
  have := h.lk.ok p hp
  have := h.n0
  have z : (10 : Nat) ^ 41 = 100000000000000000000000000000000000000000 := by decide
  omega
theorem BkZ.looks (h : BkZ n a b ps) : AnyD 2 (10 ^ 41) 30 (looksD ps) := by
  have pr := pairs_rp h.small
  refine .tup (fun x hx => (pr x hx).1) (fun x hx => (pr x hx).2.1) ?_
  rw [rp_pairs fun x hx => (pr x hx).2.2, List.length_map]
  have := h.len
  omega
theorem BkZ.limit (h : BkZ n a b ps) : AnyD 2 (10 ^ 41) 30 (.tup [.int a, .int b]) := by
  have := h.a0
  have z : (10 : Nat) ^ 41 = 100000000000000000000000000000000000000000 := by decide
  have ia : AnyD 1 (10 ^ 41) 0 (.int a) := any_int (by omega) (by decide +kernel)
  have ib : AnyD 1 (10 ^ 41) 0 (.int b) := any_int (by omega) (by decide +kernel)
  refine .tup (fun x hx => ?_) (fun x hx => ?_) ?_
  · simp only [List.mem_cons, List.not_mem_nil, or_false] at hx
    rcases hx with rfl | rfl
    · exact ia.sh
    · exact ib.sh
  · simp only [List.mem_cons, List.not_mem_nil, or_false] at hx
    rcases hx with rfl | rfl
    · exact ia.ib
    · exact ib.ib
  · have := ia.rp
    have := ib.rp
    simp only [rpCL]
    omega
theorem BkZ.num (h : BkZ n a b ps) : AnyD 2 (10 ^ 41) 30 (.int (n : Nat)) := by
  have := h.n0
  have z : (10 : Nat) ^ 41 = 100000000000000000000000000000000000000000 := by decide
  exact (any_int (n := 2) (m := 10 ^ 41) (by omega) (by decide +kernel)).mono (Nat.le_refl _) (Nat.le_refl _) (by omega)
theorem any3 {n m c1 c2 c3 : Nat} {x y z : D} (hx : AnyD n m c1 x) (hy : AnyD n m c2 y) (hz : AnyD n m c3 z) : AnyD (n + 1) m (c1 + c2 + c3 + 3) (.tup [x, y, z]) := by
  refine .tup (fun w hw => ?_) (fun w hw => ?_) ?_
  · simp only [List.mem_cons, List.not_mem_nil, or_false] at hw
    rcases hw with rfl | rfl | rfl
    · exact hx.sh
    · exact hy.sh
    · exact hz.sh
  · simp only [List.mem_cons, List.not_mem_nil, or_false] at hw
    rcases hw with rfl | rfl | rfl
    · exact hx.ib
    · exact hy.ib
    · exact hz.ib
  · have := hx.rp
    have := hy.rp
    have := hz.rp
    simp only [rpCL]
    omega
theorem BkZ.book (h : BkZ n a b ps) : AnyD 3 (10 ^ 41) 100 (bookD n a b ps) := (any3 h.num h.limit h.looks).mono (Nat.le_refl _) (Nat.le_refl _) (by omega)
def Ths (X : List D) (l : Nat) : Prop := X.length ≤ l ∧ ∀ x ∈ X, Th x
theorem first10 (h : BkZ n a b ps) {v0 v1 v3 v4 v5 v6 v7 : Option D} (S : Store) : ∃ X, Ths X 4 ∧ mT101 [v0, v1, some (bookD n a b ps), v3, v4, v5, v6, v7] S = .ok (.nx [v0, v1, some (bookD n a b ps), some (.lst X), v4, v5, v6, v7]) S := by
  have z41 : (10 : Nat) ^ 41 ≤ 10 ^ 100 := by decide +kernel
  have hb := h.book
  have hl := h.looks
  have ls := fun S => listsP (d := bookD n a b ps) (n := 20) S (th_of hb (by omega) z41 (by omega)).ok20 (by decide)
  have i2 : ∀ S, opIx (bookD n a b ps) (.int 2) S = .ok (looksD ps) S := fun S => by unfold bookD; simp
  have sl : ∀ S, opSl (bookD n a b ps) none (some 2) S = .ok (.tup [.int n, .tup [.int a, .int b]]) S := fun S => by
    unfold bookD
    rw [sl_tupD]
    have := cutD_take [.int n, .tup [.int a, .int b], looksD ps] 2
    rw [show ((2 : Nat) : Int) = 2 from rfl] at this
    rw [this]
    rfl
  have len := h.len
  have fl : ∀ S, fList [looksD ps] S = .ok (.lst (ps.map pairD)) S := fun S => by unfold looksD; simp [show ps.length ≤ 100000 by omega]
  have rv : ∀ S, revK (looksD ps) S = .ok (.tup (ps.map pairD).reverse) S := fun S => rfl
  have l1 : AnyD 2 (10 ^ 41) 30 (.lst (ps.map pairD)) := AnyD.list hl
  have l2 : AnyD 2 (10 ^ 41) 30 (.tup (ps.map pairD).reverse) := AnyD.rev hl
  refine ⟨[bookD n a b ps, lsD 20 (bookD n a b ps), .tup [.int n, .tup [.int a, .int b], .lst (ps.map pairD)], .tup [.int n, .tup [.int a, .int b], .tup (ps.map pairD).reverse]], ⟨by simp, fun x hx => ?_⟩, ?_⟩
  · simp only [List.mem_cons, List.not_mem_nil, or_false] at hx
    rcases hx with rfl | rfl | rfl | rfl
    · exact th_of hb (by omega) z41 (by omega)
    · exact th_of (hb.ls 20) (by omega) z41 (by omega)
    · exact th_of (any3 h.num h.limit l1) (by omega) z41 (by omega)
    · exact th_of (any3 h.num h.limit l2) (by omega) z41 (by omega)
  · unfold mT101
    generalize lsD 20 (bookD n a b ps) = LB at *
    generalize bookD n a b ps = B at *
    generalize looksD ps = L at *
    generalize ps.map pairD = P at *
    simp -implicitDefEqProofs [ls, i2, sl, fl, rv]
def LapP (S0 : Store) (k M : Nat) (v0 v1 v2 v4 v6 v7 : Option D) (l : Nat) (f : Fl) (S' : Store) : Prop := ∃ X w5, Ths X l ∧ f = .nx [v0, v1, v2, some (.lst X), v4, w5, v6, v7] ∧ BoxS S0 k M S'
theorem lap10 (h : BkZ n a b ps) {l : Nat} (hX : Ths X l) (hl : l ≤ 100) (hB : BoxS S0 k N S) (hN : N + 100 < 2 ^ 40) {v1 v4 v5 v6 v7 : Option D} :
    (mLap10 [some (.ref k), v1, some (bookD n a b ps), some (.lst X), v4, v5, v6, v7] S).Sat (LapP S0 k (N + 33) (some (.ref k)) v1 (some (bookD n a b ps)) v4 v6 v7 (l + 2)) := by
  have z41 : (10 : Nat) ^ 41 = 100000000000000000000000000000000000000000 := by decide
  have z100 : (10 : Nat) ^ 41 + 2 < 10 ^ 100 := by decide +kernel
  have hb := h.book
  have i0 : ∀ S, opIx (bookD n a b ps) (.int 0) S = .ok (.int (n : Nat)) S := fun S => by unfold bookD; simp
  have i1 : ∀ S, opIx (bookD n a b ps) (.int 1) S = .ok (.tup [.int a, .int b]) S := fun S => by unfold bookD; simp
  have i2 : ∀ S, opIx (bookD n a b ps) (.int 2) S = .ok (looksD ps) S := fun S => by unfold bookD; simp
  have b1 := bent_any (S0 := S0) (k := k) (more := [.int (n : Nat), .tup [.int a, .int b], looksD ps]) (w := 2) (m := 10 ^ 41) (c' := 30) (Nat.le_refl _) (by omega) (by simp) (fun x hx => by
    simp only [List.mem_cons, List.not_mem_nil, or_false] at hx
    rcases hx with rfl | rfl | rfl
    · exact h.num
    · exact h.limit
    · exact h.looks) 3 30 (bookD n a b ps) 100 N S (by omega) (by omega) hb (by omega) hB (by omega)
  have b2 := fun d S1 (hd : AnyD 6 (10 ^ 41 + 1) 481 d) (h1 : BoxS S0 k (N + 12) S1) => bent_any (S0 := S0) (k := k) (more := [bookD n a b ps]) (w := 3) (m := 10 ^ 41 + 1) (c' := 100) (by omega) (by omega) (by simp) (fun x hx => by
    rw [List.mem_singleton.mp hx]
    exact hb.mono (Nat.le_refl _) (by omega) (Nat.le_refl _)) 6 30 d 481 (N + 12) S1 (by omega) (by omega) hd (by omega) h1 (by omega)
  have ap : ∀ (x y : D) S, opAdd (.lst X) (.lst [x, y]) S = .ok (.lst (X ++ [x, y])) S := fun x y S => cat_lst (by have := hX.1; simp; omega) S
  have fin : ∀ (x y : D) S', AnyD 6 (10 ^ 41 + 1) 481 x → BtQ S0 k (N + 33) 10 (10 ^ 41 + 2) 1694 y S' → LapP S0 k (N + 33) (some (.ref k)) v1 (some (bookD n a b ps)) v4 v6 v7 (l + 2) (.nx [some (.ref k), v1, some (bookD n a b ps), some (.lst (X ++ [x, y])), v4, some x, v6, v7]) S' := fun x y S' hx hy =>
    ⟨X ++ [x, y], some x, ⟨by have := hX.1; simp; omega, fun z hz => by
      rcases List.mem_append.mp hz with hz | hz
      · exact hX.2 z hz
      · simp only [List.mem_cons, List.not_mem_nil, or_false] at hz
        rcases hz with rfl | rfl
        · exact th_of hx (by omega) (by omega) (by omega)
        · exact th_of hy.1 (by omega) (by omega) (by omega)⟩, rfl, hy.2⟩
  generalize LapP S0 k (N + 33) (some (.ref k)) v1 (some (bookD n a b ps)) v4 v6 v7 (l + 2) = PP at *
  unfold mLap10
  generalize bookD n a b ps = B at *
  generalize looksD ps = L at *
  simp -implicitDefEqProofs [i0, i1, i2]
  refine sat_step b1 ?_
  rintro x S1 ⟨hx, h1⟩
  simp -implicitDefEqProofs
  refine sat_step (b2 x S1 hx h1) ?_
  intro y S2 hy
  have apx := ap x y
  have fx := fin x y S2 hx hy
  generalize (X ++ [x, y] : List D) = XX at *
  simp -implicitDefEqProofs [apx]
  exact fx
def TuP10 (S0 : Store) (k M : Nat) (v0 v1 : Option D) (f : Fl) (S' : Store) : Prop := (∃ w2 w3 w4 w5 w6 w7, f = .nx [v0, v1, w2, w3, w4, w5, w6, w7]) ∧ BoxS S0 k M S'
theorem turn10 (hp : S0.all Cell.pure = true) (hB : BoxS S0 k N S) (hN : N + 400 < 2 ^ 40) {v1 v2 v3 v4 v5 v6 v7 : Option D} :
    (mT10 [some (.ref k), v1, v2, v3, v4, v5, v6, v7] S).Sat (TuP10 S0 k (N + 200) (some (.ref k)) v1) := by
  have bk := book_s (mm := 14) (most := 8) hB hp (by omega) (by decide) (by decide) (by decide)
  have fin : ∀ w2 w3 w4 w5 w6 w7 S', BoxS S0 k (N + 200) S' → TuP10 S0 k (N + 200) (some (.ref k)) v1 (.nx [some (.ref k), v1, w2, w3, w4, w5, w6, w7]) S' := fun w2 w3 w4 w5 w6 w7 S' h => ⟨⟨w2, w3, w4, w5, w6, w7, rfl⟩, h⟩
  generalize TuP10 S0 k (N + 200) (some (.ref k)) v1 = PP at *
  have r4 : ∀ S, r1K (.int 4) S = .ok (rangeD 0 4) S := fun S => r1K_nat 4 (by decide)
  have rd : rangeD 0 4 = [.int 0, .int 1, .int 2, .int 3] := rfl
  unfold mT10
  have e0 : (mT100 [some (.ref k), v1, v2, v3, v4, v5, v6, v7] S).Sat fun f S' => ∃ (n : Nat) (a b : Int) (ps : List (Int × Int)), f = .nx [some (.ref k), v1, some (bookD n a b ps), v3, v4, v5, v6, v7] ∧ BkZ n a b ps ∧ BoxS S0 k (N + 23) S' := by
    generalize hQ : (fun (f : Fl) (S' : Store) => ∃ (n : Nat) (a b : Int) (ps : List (Int × Int)), f = .nx [some (.ref k), v1, some (bookD n a b ps), v3, v4, v5, v6, v7] ∧ BkZ n a b ps ∧ BoxS S0 k (N + 23) S') = QQ
    have dn : ∀ (n : Nat) (a b : Int) (ps : List (Int × Int)) S', BkZ n a b ps → BoxS S0 k (N + 23) S' → QQ (.nx [some (.ref k), v1, some (bookD n a b ps), v3, v4, v5, v6, v7]) S' := fun n a b ps S' x y => by
      rw [← hQ]
      exact ⟨n, a, b, ps, rfl, x, y⟩
    clear hQ
    unfold mT100
    simp -implicitDefEqProofs
    refine sat_step bk ?_
    rintro _ S1 ⟨n, a, b, ps, rfl, n0, a0, lk, ln, h1⟩
    have d1 := dn n a b ps S1 ⟨⟨n0.1, n0.2⟩, a0, lk, ln⟩ (h1.mono (by omega))
    generalize bookD n a b ps = B at *
    simp -implicitDefEqProofs
    exact d1
  rw [ap_seq]
  refine sat_step e0 ?_
  rintro _ S1 ⟨n, a, b, ps, rfl, hZ, h1⟩
  rw [seqK_nx]
  obtain ⟨X0, hX0, e1⟩ := first10 hZ (v0 := some (.ref k)) (v1 := v1) (v3 := v3) (v4 := v4) (v5 := v5) (v6 := v6) (v7 := v7) S1
  rw [ap_seq, e1, bind_ok, seqK_nx]
  have lp := fun (l N1 : Nat) (X : List D) (w4 w5 : Option D) S1 (hX : Ths X l) (hl : l ≤ 100) (h1 : BoxS S0 k N1 S1) (hN1 : N1 + 100 < 2 ^ 40) => lap10 hZ hX hl h1 hN1 (v1 := v1) (v4 := w4) (v5 := w5) (v6 := v6) (v7 := v7)
  have jd := fun (L : List D) (w4 w5 : Option D) S hL => judges10 (some (.ref k)) v1 (some (bookD n a b ps)) (some (.lst L)) w4 S L w5 v6 v7 hL
  generalize bookD n a b ps = B at *
  generalize mJud10 = JJ at *
  generalize mLap10 = LL at *
  simp -implicitDefEqProofs [r4, rd, forL_cons, forL_nil]
  refine sat_step (lp 4 (N + 23) X0 _ _ S1 hX0 (by omega) h1 (by omega)) ?_
  rintro _ S2 ⟨X1, u1, hX1, rfl, h2⟩
  simp -implicitDefEqProofs [forL_cons, forL_nil]
  refine sat_step (lp 6 _ X1 _ _ S2 hX1 (by omega) h2 (by omega)) ?_
  rintro _ S3 ⟨X2, u2, hX2, rfl, h3⟩
  simp -implicitDefEqProofs [forL_cons, forL_nil]
  refine sat_step (lp 8 _ X2 _ _ S3 hX2 (by omega) h3 (by omega)) ?_
  rintro _ S4 ⟨X3, u3, hX3, rfl, h4⟩
  simp -implicitDefEqProofs [forL_cons, forL_nil]
  refine sat_step (lp 10 _ X3 _ _ S4 hX3 (by omega) h4 (by omega)) ?_
  rintro _ S5 ⟨X4, u4, hX4, rfl, h5⟩
  obtain ⟨w5, w6, w7, ej⟩ := jd X4 (some (.int 3)) u4 S5 hX4.2
  have zl : X4.length ≤ 100000 := by have := hX4.1; omega
  simp -implicitDefEqProofs [forL_cons, forL_nil, ej, zl]
  exact fin _ _ _ _ _ _ S5 (h5.mono (by omega))
theorem right10 (bh : List D → Store → Res D) (hb : ∀ S, bh [] S = .ok (.bl true) S) : RightG (fnM 8 1 (mR10 bh)) 2000 := by
  intro S0 S k N hp h hN
  have ht := fun (S : Store) (M : Nat) v1 v2 v3 v4 v5 v6 v7 (h1 : BoxS S0 k M S) (hM : M + 400 < 2 ^ 40) => turn10 (v1 := v1) (v2 := v2) (v3 := v3) (v4 := v4) (v5 := v5) (v6 := v6) (v7 := v7) hp h1 hM
  have r8 : ∀ S, r1K (.int 8) S = .ok (rangeD 0 8) S := fun S => r1K_nat 8 (by decide)
  have fn : ∀ S' M, BoxS S0 k M S' → fin S.length (.bl true) S' = .ok (.bl true) S' := fun S' M h' => fin_len (h'.len.trans h.len.symm)
  have lp : ∀ (ds : List D) (M : Nat) (S1 : Store) v1 v2 v3 v4 v5 v6 v7, BoxS S0 k M S1 → M + 200 * ds.length + 400 < 2 ^ 40 → (forL (mgN 1) mT10 ds [some (.ref k), v1, v2, v3, v4, v5, v6, v7] S1).Sat fun f S' => (∃ w1 w2 w3 w4 w5 w6 w7, f = .nx [some (.ref k), w1, w2, w3, w4, w5, w6, w7]) ∧ BoxS S0 k (M + 200 * ds.length) S' := fun ds => by
    induction ds with
    | nil => exact fun M S1 v1 v2 v3 v4 v5 v6 v7 h1 _ => ⟨⟨v1, v2, v3, v4, v5, v6, v7, rfl⟩, h1⟩
    | cons d ds ih =>
      intro M S1 v1 v2 v3 v4 v5 v6 v7 h1 hM
      rw [List.length_cons] at hM
      have g0 : mgN 1 d [some (.ref k), v1, v2, v3, v4, v5, v6, v7] S1 = .ok [some (.ref k), some d, v2, v3, v4, v5, v6, v7] S1 := rfl
      rw [forL_cons, g0, bind_ok]
      show ((mT10 _ S1).bind (forK _)).Sat _
      refine sat_step (ht S1 M (some d) v2 v3 v4 v5 v6 v7 h1 (by omega)) ?_
      rintro _ S2 ⟨⟨w2, w3, w4, w5, w6, w7, rfl⟩, h2⟩
      rw [forK_nx]
      have := ih (M + 200) S2 (some d) w2 w3 w4 w5 w6 w7 h2 (by omega)
      have e : M + 200 + 200 * ds.length = M + 200 * (d :: ds).length := by rw [List.length_cons]; omega
      rw [e] at this
      exact this
  have l8 := lp (rangeD 0 8) N S none none none none none none none h (by rw [rangeD_len]; omega)
  rw [rangeD_len] at l8
  have z8 : (rangeD 0 8).length ≤ 100000 := by rw [rangeD_len]; omega
  unfold mR10
  generalize mT10 = T10 at *
  generalize rangeD 0 8 = RD at *
  rw [fnM_1]
  simp -implicitDefEqProofs [hb, r8, z8]
  refine sat_step l8 ?_
  rintro _ S1 ⟨⟨w1, w2, w3, w4, w5, w6, w7, rfl⟩, h1⟩
  simp -implicitDefEqProofs [fn _ _ h1]
  exact h1.mono (by omega)
end
theorem hl10 : m_l_law = mLaw7 (fnM 8 1 (mR10 (fPure f_l_by_hand_right))) 3 := by
  unfold m_l_law mLaw7
  rfl
theorem holds10 (G : List D → Store → Res D) (hr : RightG G 2000) : ∀ ns : List Int, ns.length ≤ 63 → ∃ S, fnM 3 1 (mLaw7 G 3) [scriptD ns] [] = .ok (.bl true) S :=
  fun ns hn => law7_s G 3 (by decide) (by decide) 2000 (by decide) hr (fun S cs k h h2 => box_ok S cs k 810 h h2 (by decide) rfl) ns hn
theorem holds10c (m : MS) (bh : List D → Store → Res D) (hb : ∀ S, bh [] S = .ok (.bl true) S) (e : m = mLaw7 (fnM 8 1 (mR10 bh)) 3) : ∀ ns : List Int, ns.length ≤ 63 → ∃ S, fnM 3 1 m [scriptD ns] [] = .ok (.bl true) S := by
  subst e
  exact holds10 (fnM 8 1 (mR10 bh)) (right10 bh hb)
theorem holds : ∀ ns : List Int, ns.length ≤ 63 → ∃ S, f_l_law [scriptD ns] [] = .ok (.bl true) S := holds10c m_l_law (fPure f_l_by_hand_right) handR hl10
end Lw
namespace Lw
open PySem L2 Q
def top (i : Nat) : Stmt := PySem.Challenge.pw_quietshare_k10_books_or_none.main.body.getD i (.Pass ⟨0, 0, 0, 0⟩)
abbrev s_l_cells : Stmt := top 15
abbrev N_l_cells : List Str := ["_law_script", "_law_most_so", "_law_cells_here", "_law_k", "_law_cell", "_law_at_so"]
theorem sc_l_cells : FnScope N_l_cells ["_law_script", "_law_most_so"] (defScope s_l_cells) := ⟨rfl, rfl, rfl, by decide +kernel, rfl, by decide +kernel, by decide +kernel⟩
abbrev s_l_same : Stmt := top 18
abbrev N_l_same : List Str := ["_law_got", "_law_due", "_law_mine", "_law_its"]
theorem sc_l_same : FnScope N_l_same ["_law_got", "_law_due"] (defScope s_l_same) := ⟨rfl, rfl, rfl, by decide +kernel, rfl, by decide +kernel, by decide +kernel⟩
abbrev s_p_is_tuple : Stmt := top 2
abbrev N_p_is_tuple : List Str := ["thing", "many"]
theorem sc_p_is_tuple : FnScope N_p_is_tuple ["thing", "many"] (defScope s_p_is_tuple) := ⟨rfl, rfl, rfl, by decide +kernel, rfl, by decide +kernel, by decide +kernel⟩
abbrev s_p_is_number : Stmt := top 1
abbrev N_p_is_number : List Str := ["thing", "least"]
theorem sc_p_is_number : FnScope N_p_is_number ["thing", "least"] (defScope s_p_is_number) := ⟨rfl, rfl, rfl, by decide +kernel, rfl, by decide +kernel, by decide +kernel⟩
abbrev s_p_is_limit : Stmt := top 5
abbrev N_p_is_limit : List Str := ["thing"]
theorem sc_p_is_limit : FnScope N_p_is_limit ["thing"] (defScope s_p_is_limit) := ⟨rfl, rfl, rfl, by decide +kernel, rfl, by decide +kernel, by decide +kernel⟩
abbrev s_p_ascends : Stmt := top 3
abbrev N_p_ascends : List Str := ["row", "one", "other"]
theorem sc_p_ascends : FnScope N_p_ascends ["row"] (defScope s_p_ascends) := ⟨rfl, rfl, rfl, by decide +kernel, rfl, by decide +kernel, by decide +kernel⟩
abbrev s_p_is_stretch : Stmt := top 7
abbrev N_p_is_stretch : List Str := ["many", "thing"]
theorem sc_p_is_stretch : FnScope N_p_is_stretch ["many", "thing"] (defScope s_p_is_stretch) := ⟨rfl, rfl, rfl, by decide +kernel, rfl, by decide +kernel, by decide +kernel⟩
abbrev s_p_are_looks : Stmt := top 10
abbrev N_p_are_looks : List Str := ["many", "thing", "look"]
theorem sc_p_are_looks : FnScope N_p_are_looks ["many", "thing"] (defScope s_p_are_looks) := ⟨rfl, rfl, rfl, by decide +kernel, rfl, by decide +kernel, by decide +kernel⟩
abbrev s_p_is_book : Stmt := top 11
abbrev N_p_is_book : List Str := ["thing"]
theorem sc_p_is_book : FnScope N_p_is_book ["thing"] (defScope s_p_is_book) := ⟨rfl, rfl, rfl, by decide +kernel, rfl, by decide +kernel, by decide +kernel⟩
abbrev s_l_by_hand_right : Stmt := top 26
abbrev N_l_by_hand_right : List Str := ["_law_some", "_law_odd", "_law_got", "_law_own"]
theorem sc_l_by_hand_right : FnScope N_l_by_hand_right [] (defScope s_l_by_hand_right) := ⟨rfl, rfl, rfl, by decide +kernel, rfl, by decide +kernel, by decide +kernel⟩
abbrev s_l_take : Stmt := top 14
abbrev N_l_take : List Str := ["_law_box_here", "_law_below", "_law_drawn", "_law_once", "_law_far", "_law_twice"]
theorem sc_l_take : FnScope N_l_take ["_law_box_here", "_law_below"] (defScope s_l_take) := ⟨rfl, rfl, rfl, by decide +kernel, rfl, by decide +kernel, by decide +kernel⟩
abbrev s_l_of : Stmt := top 16
abbrev N_l_of : List Str := ["_law_box_here", "_law_some"]
theorem sc_l_of : FnScope N_l_of ["_law_box_here", "_law_some"] (defScope s_l_of) := ⟨rfl, rfl, rfl, by decide +kernel, rfl, by decide +kernel, by decide +kernel⟩
abbrev s_l_limit : Stmt := top 19
abbrev N_l_limit : List Str := ["_law_box_here", "_law_way_so"]
theorem sc_l_limit : FnScope N_l_limit ["_law_box_here"] (defScope s_l_limit) := ⟨rfl, rfl, rfl, by decide +kernel, rfl, by decide +kernel, by decide +kernel⟩
abbrev s_l_looks : Stmt := top 20
abbrev N_l_looks : List Str := ["_law_box_here", "_law_many", "_law_most_so", "_law_way_so", "_law_found", "_law_wide", "_law_turn", "_law_start"]
theorem sc_l_looks : FnScope N_l_looks ["_law_box_here", "_law_many", "_law_most_so"] (defScope s_l_looks) := ⟨rfl, rfl, rfl, by decide +kernel, rfl, by decide +kernel, by decide +kernel⟩
abbrev s_l_book : Stmt := top 21
abbrev N_l_book : List Str := ["_law_box_here", "_law_most_minutes", "_law_most_looks", "_law_many"]
theorem sc_l_book : FnScope N_l_book ["_law_box_here", "_law_most_minutes", "_law_most_looks"] (defScope s_l_book) := ⟨rfl, rfl, rfl, by decide +kernel, rfl, by decide +kernel, by decide +kernel⟩
abbrev s_l_lists : Stmt := top 17
abbrev N_l_lists : List Str := ["_law_matter", "_law_bit"]
theorem sc_l_lists : FnScope N_l_lists ["_law_matter"] (defScope s_l_lists) := ⟨rfl, rfl, rfl, by decide +kernel, rfl, by decide +kernel, by decide +kernel⟩
abbrev s_l_bent : Stmt := top 22
abbrev N_l_bent : List Str := ["_law_box_here", "_law_part_so", "_law_more", "_law_k", "_law_some"]
theorem sc_l_bent : FnScope N_l_bent ["_law_box_here", "_law_part_so", "_law_more"] (defScope s_l_bent) := ⟨rfl, rfl, rfl, by decide +kernel, rfl, by decide +kernel, by decide +kernel⟩
abbrev s_l_is_number : Stmt := top 23
abbrev N_l_is_number : List Str := ["_law_mat", "_law_least_so"]
theorem sc_l_is_number : FnScope N_l_is_number ["_law_mat", "_law_least_so"] (defScope s_l_is_number) := ⟨rfl, rfl, rfl, by decide +kernel, rfl, by decide +kernel, by decide +kernel⟩
abbrev s_l_is_pair : Stmt := top 24
abbrev N_l_is_pair : List Str := ["_law_mat", "_law_least_so", "_law_bit"]
theorem sc_l_is_pair : FnScope N_l_is_pair ["_law_mat", "_law_least_so"] (defScope s_l_is_pair) := ⟨rfl, rfl, rfl, by decide +kernel, rfl, by decide +kernel, by decide +kernel⟩
abbrev s_l_is_fine : Stmt := top 25
abbrev N_l_is_fine : List Str := ["_law_mat", "_law_own", "_law_k"]
theorem sc_l_is_fine : FnScope N_l_is_fine ["_law_mat"] (defScope s_l_is_fine) := ⟨rfl, rfl, rfl, by decide +kernel, rfl, by decide +kernel, by decide +kernel⟩
abbrev s_l_right : Stmt := top 27
abbrev N_l_right : List Str := ["_law_box_here", "_law_turn", "_law_book_so", "_law_some", "_law_lap", "_law_part_so", "_law_was", "_law_due"]
theorem sc_l_right : FnScope N_l_right ["_law_box_here"] (defScope s_l_right) := ⟨rfl, rfl, rfl, by decide +kernel, rfl, by decide +kernel, by decide +kernel⟩
abbrev s_l_box : Stmt := top 13
abbrev N_l_box : List Str := ["_law_script", "_law_k", "_law_cell"]
theorem sc_l_box : FnScope N_l_box ["_law_script", "_law_k"] (defScope s_l_box) := ⟨rfl, rfl, rfl, by decide +kernel, rfl, by decide +kernel, by decide +kernel⟩
abbrev s_l_law : Stmt := top 28
abbrev N_l_law : List Str := ["_law_script", "_law_cells_here", "_law_k"]
theorem sc_l_law : FnScope N_l_law ["_law_script"] (defScope s_l_law) := ⟨rfl, rfl, rfl, by decide +kernel, rfl, by decide +kernel, by decide +kernel⟩
structure Txt (P : Program) (K : PySem.W.Frag) (mg : Str → Option Value) (cl : Nat → Addr) (sp_ : Nat → Str → Addr) (a : Nat → Addr) (d : Nat → FuncData) : Prop where
  F_l_cells : Fun K "_law_cells" "_law_cells" s_l_cells (a 0) (d 0)
  F_l_same : Fun K "_law_same" "_law_same" s_l_same (a 1) (d 1)
  F_p_is_tuple : Fun K "is_tuple" "is_tuple" s_p_is_tuple (a 2) (d 2)
  F_p_is_number : Fun K "is_number" "is_number" s_p_is_number (a 3) (d 3)
  F_p_is_limit : Fun K "is_limit" "is_limit" s_p_is_limit (a 4) (d 4)
  F_p_ascends : Fun K "ascends" "ascends" s_p_ascends (a 5) (d 5)
  F_p_is_stretch : Fun K "is_stretch" "is_stretch" s_p_is_stretch (a 6) (d 6)
  F_p_are_looks : Fun K "are_looks" "are_looks" s_p_are_looks (a 7) (d 7)
  F_p_is_book : Fun K "is_book" "is_book" s_p_is_book (a 8) (d 8)
  F_l_by_hand_right : Fun K "_law_by_hand_right" "_law_by_hand_right" s_l_by_hand_right (a 9) (d 9)
  F_l_take : Fun K "_law_take" "_law_take" s_l_take (a 10) (d 10)
  F_l_of : Fun K "_law_of" "_law_of" s_l_of (a 11) (d 11)
  F_l_limit : Fun K "_law_limit" "_law_limit" s_l_limit (a 12) (d 12)
  F_l_looks : Fun K "_law_looks" "_law_looks" s_l_looks (a 13) (d 13)
  F_l_book : Fun K "_law_book" "_law_book" s_l_book (a 14) (d 14)
  F_l_lists : Fun K "_law_lists" "_law_lists" s_l_lists (a 15) (d 15)
  F_l_bent : Fun K "_law_bent" "_law_bent" s_l_bent (a 16) (d 16)
  F_l_is_number : Fun K "_law_is_number" "_law_is_number" s_l_is_number (a 17) (d 17)
  F_l_is_pair : Fun K "_law_is_pair" "_law_is_pair" s_l_is_pair (a 18) (d 18)
  F_l_is_fine : Fun K "_law_is_fine" "_law_is_fine" s_l_is_fine (a 19) (d 19)
  F_l_right : Fun K "_law_right" "_law_right" s_l_right (a 20) (d 20)
  F_l_box : Fun K "_law_box" "_law_box" s_l_box (a 21) (d 21)
  F_l_law : Fun K "law" "law" s_l_law (a 22) (d 22)
  g_l_cells : mg "_law_cells" = some (.ref (a 0))
  g_l_same : mg "_law_same" = some (.ref (a 1))
  g_p_is_tuple : mg "is_tuple" = some (.ref (a 2))
  g_p_is_number : mg "is_number" = some (.ref (a 3))
  g_p_is_limit : mg "is_limit" = some (.ref (a 4))
  g_p_ascends : mg "ascends" = some (.ref (a 5))
  g_p_is_stretch : mg "is_stretch" = some (.ref (a 6))
  g_p_are_looks : mg "are_looks" = some (.ref (a 7))
  g_p_is_book : mg "is_book" = some (.ref (a 8))
  g_l_by_hand_right : mg "_law_by_hand_right" = some (.ref (a 9))
  g_l_take : mg "_law_take" = some (.ref (a 10))
  g_l_of : mg "_law_of" = some (.ref (a 11))
  g_l_limit : mg "_law_limit" = some (.ref (a 12))
  g_l_looks : mg "_law_looks" = some (.ref (a 13))
  g_l_book : mg "_law_book" = some (.ref (a 14))
  g_l_lists : mg "_law_lists" = some (.ref (a 15))
  g_l_bent : mg "_law_bent" = some (.ref (a 16))
  g_l_is_number : mg "_law_is_number" = some (.ref (a 17))
  g_l_is_pair : mg "_law_is_pair" = some (.ref (a 18))
  g_l_is_fine : mg "_law_is_fine" = some (.ref (a 19))
  g_l_right : mg "_law_right" = some (.ref (a 20))
  g_l_box : mg "_law_box" = some (.ref (a 21))
  g_l_law : mg "law" = some (.ref (a 22))
  c_PARTS : ∃ t, mg "PARTS" = some (.int 3 t)
  n_abs : mg "abs" = none
  n_all : mg "all" = none
  n_bool : mg "bool" = none
  n_enumerate : mg "enumerate" = none
  n_int : mg "int" = none
  n_isinstance : mg "isinstance" = none
  n_len : mg "len" = none
  n_list : mg "list" = none
  n_min : mg "min" = none
  n_range : mg "range" = none
  n_repr : mg "repr" = none
  n_set : mg "set" = none
  n_sorted : mg "sorted" = none
  n_str : mg "str" = none
  n_tuple : mg "tuple" = none
  n_zip : mg "zip" = none
section
variable {P : Program} {w : World} {K : PySem.W.Frag} {mg : Str → Option Value} {base : Heap} {cl : Nat → Addr} {sp_ : Nat → Str → Addr} {a : Nat → Addr} {d : Nat → FuncData}
theorem b_l_cells (T : Txt P K mg cl sp_ a d) : Binds K (d 0) ["_law_script", "_law_most_so"] [] := T.F_l_cells.binds (ps := ["_law_script", "_law_most_so"]) fun _ _ _ _ _ _ us hl => match us, hl with | [_, _], _ => rfl
theorem ok_l_cells (T : Txt P K mg cl sp_ a d) : FnOk P w K mg base CX0 1 (a 0) (d 0) ["_law_script", "_law_most_so"] (spM ⟨K, cl⟩ f_l_cells) :=
  fn_ok 6 2 (k := 0) T.F_l_cells sc_l_cells fun cdv A outer s H E hr =>
      (qss_cons (qs_set 2 (q_orV (q_callTy listCQ (by rfl) T.n_list (by decide +kernel) (q_cons (q_sl (q_var 0) q_noO (q_soO (q_var 1))) q_nil)) (q_oneV (q_cell (q_cons q_int q_nil)))) sc_l_cells.nd)
      (qss_cons (qs_for (qi_enum (q_sl (q_var 0) (q_soO (q_var 1)) (q_soO q_int)) (by rfl) T.n_enumerate) (qg_tup 2 (qgs_cons (qg_name 3 sc_l_cells.nd) (qgs_cons (qg_name 4 sc_l_cells.nd) qgs_nil))) (qss_cons (qs_set 5 (q_op modI (q_callTy intQ (by rfl) T.n_int (by decide +kernel) (q_cons (q_var 3) q_nil)) (q_var 1)) sc_l_cells.nd)
      (qss_one (qs_asg (q_op addQ (q_ix (q_var 2) (q_var 5)) (q_op mulQ (q_var 4) (q_op addQ (q_var 3) q_int))) (qg_sub (q_var 2) (q_var 5))))))
      (qss_one (qs_ret (q_frz (q_var 2))))))
theorem b_l_same (T : Txt P K mg cl sp_ a d) : Binds K (d 1) ["_law_got", "_law_due"] [] := T.F_l_same.binds (ps := ["_law_got", "_law_due"]) fun _ _ _ _ _ _ us hl => match us, hl with | [_, _], _ => rfl
theorem ok_l_same (T : Txt P K mg cl sp_ a d) (k : Nat) : FnOk P w K mg base CX0 (0 + k) (a 1) (d 1) ["_law_got", "_law_due"] (spM ⟨K, cl⟩ (f_l_same k)) := by
  induction k with
  | zero => exact fn_none
  | succ k ih =>
    exact fn_ok 4 2 (k := 0 + k) T.F_l_same sc_l_same fun cdv A outer s H E hr =>
      (qss_cons (qs_if (q_test (q_isi2 .list .tuple (q_var 1) (by rfl) T.n_isinstance (by rfl) T.n_list (by decide +kernel) (by rfl) T.n_tuple (by decide +kernel))) (qss_cons (qs_if (q_w (q_or (q_tcmp (neQ hr) (q_isi .list (q_var 0) (by rfl) T.n_isinstance (by rfl) T.n_list (by decide +kernel)) (q_isi .list (q_var 1) (by rfl) T.n_isinstance (by rfl) T.n_list (by decide +kernel))) (q_or1 (q_tcmp (neQ hr) (q_isi .tuple (q_var 0) (by rfl) T.n_isinstance (by rfl) T.n_tuple (by decide +kernel)) (q_isi .tuple (q_var 1) (by rfl) T.n_isinstance (by rfl) T.n_tuple (by decide +kernel)))))) (qss_one (qs_ret q_bl)) qss_nil)
      (qss_one (qs_ret (q_andV (q_cmp (eqQ hr) (q_callB lenQ (by rfl) T.n_len (by decide +kernel) (q_cons (q_var 0) q_nil)) (q_callB lenQ (by rfl) T.n_len (by decide +kernel) (q_cons (q_var 1) q_nil))) (q_oneV (q_callB allQ (by rfl) T.n_all (by decide +kernel) (q_cons (q_lc [("_law_mine", 2), ("_law_its", 3)] (qi_zip (q_cons (q_var 0) (q_cons (q_var 1) q_nil)) (by rfl) T.n_zip) sc_l_same.nd (blkOk_by (N := N_l_same) (sc := defScope s_l_same) (by decide +kernel)) (fun _ _ _ _ _ => (qg_tup 2 (qgs_cons (qg_name 2 sc_l_same.nd) (qgs_cons (qg_name 3 sc_l_same.nd) qgs_nil)))) (fun _ _ _ _ _ => (q_call ih (hr.mono (by omega)) (by rfl) T.g_l_same T.F_l_same.kp (b_l_same T) (q_cons (q_var 2) (q_cons (q_var 3) q_nil)) sp_pure))) q_nil))))))) qss_nil)
      (qss_cons (qs_if (q_w (q_or (q_tisN (q_var 1)) (q_or1 (q_test (q_isi2 .bool .str (q_var 1) (by rfl) T.n_isinstance (by rfl) T.n_bool (by decide +kernel) (by rfl) T.n_str (by decide +kernel)))))) (qss_one (qs_ret (q_andV (q_cmp (eqQ hr) (q_var 0) (q_var 1)) (q_andV (q_cmp (eqQ hr) (q_isi .bool (q_var 0) (by rfl) T.n_isinstance (by rfl) T.n_bool (by decide +kernel)) (q_isi .bool (q_var 1) (by rfl) T.n_isinstance (by rfl) T.n_bool (by decide +kernel))) (q_oneV (q_cmp (eqQ hr) (q_isN (q_var 0)) (q_isN (q_var 1)))))))) qss_nil)
      (qss_one (qs_ret (q_andV (q_isi .int (q_var 0) (by rfl) T.n_isinstance (by rfl) T.n_int (by decide +kernel)) (q_andV (q_notV (q_isi .bool (q_var 0) (by rfl) T.n_isinstance (by rfl) T.n_bool (by decide +kernel))) (q_oneV (q_cmp (eqQ hr) (q_var 0) (q_var 1)))))))))
theorem b_p_is_tuple (T : Txt P K mg cl sp_ a d) : Binds K (d 2) ["thing", "many"] [] := T.F_p_is_tuple.binds (ps := ["thing", "many"]) fun _ _ _ _ _ _ us hl => match us, hl with | [_, _], _ => rfl
theorem ok_p_is_tuple (T : Txt P K mg cl sp_ a d) : FnOk P w K mg base CX0 1 (a 2) (d 2) ["thing", "many"] (spM ⟨K, cl⟩ f_p_is_tuple) :=
  fn_ok 2 2 (k := 0) T.F_p_is_tuple sc_p_is_tuple fun cdv A outer s H E hr =>
      (qss_one (qs_ret (q_andV (q_isi .tuple (q_var 0) (by rfl) T.n_isinstance (by rfl) T.n_tuple (by decide +kernel)) (q_oneV (q_cmp (eqQ hr) (q_callB lenQ (by rfl) T.n_len (by decide +kernel) (q_cons (q_var 0) q_nil)) (q_var 1))))))
theorem b_p_is_number (T : Txt P K mg cl sp_ a d) : Binds K (d 3) ["thing", "least"] [] := T.F_p_is_number.binds (ps := ["thing", "least"]) fun _ _ _ _ _ _ us hl => match us, hl with | [_, _], _ => rfl
theorem ok_p_is_number (T : Txt P K mg cl sp_ a d) : FnOk P w K mg base CX0 1 (a 3) (d 3) ["thing", "least"] (spM ⟨K, cl⟩ f_p_is_number) :=
  fn_ok 2 2 (k := 0) T.F_p_is_number sc_p_is_number fun cdv A outer s H E hr =>
      (qss_one (qs_ret (q_andV (q_isi .int (q_var 0) (by rfl) T.n_isinstance (by rfl) T.n_int (by decide +kernel)) (q_andV (q_notV (q_isi .bool (q_var 0) (by rfl) T.n_isinstance (by rfl) T.n_bool (by decide +kernel))) (q_oneV (q_cmp geI (q_var 0) (q_var 1)))))))
theorem b_p_is_limit (T : Txt P K mg cl sp_ a d) : Binds K (d 4) ["thing"] [] := T.F_p_is_limit.binds (ps := ["thing"]) fun _ _ _ _ _ _ us hl => match us, hl with | [_], _ => rfl
theorem ok_p_is_limit (T : Txt P K mg cl sp_ a d) : FnOk P w K mg base CX0 2 (a 4) (d 4) ["thing"] (spM ⟨K, cl⟩ f_p_is_limit) :=
  fn_ok 1 1 (k := 1) T.F_p_is_limit sc_p_is_limit fun cdv A outer s H E hr =>
      (qss_one (qs_ret (q_andV (q_call (ok_p_is_tuple T) (hr.mono (by omega)) (by rfl) T.g_p_is_tuple T.F_p_is_tuple.kp (b_p_is_tuple T) (q_cons (q_var 0) (q_cons q_int q_nil)) sp_pure) (q_andV (q_call (ok_p_is_number T) (hr.mono (by omega)) (by rfl) T.g_p_is_number T.F_p_is_number.kp (b_p_is_number T) (q_cons (q_ix (q_var 0) q_int) (q_cons q_int q_nil)) sp_pure) (q_andV (q_call (ok_p_is_number T) (hr.mono (by omega)) (by rfl) T.g_p_is_number T.F_p_is_number.kp (b_p_is_number T) (q_cons (q_ix (q_var 0) q_int) (q_cons q_int q_nil)) sp_pure) (q_oneV (q_cmp ltI (q_ix (q_var 0) q_int) (q_ix (q_var 0) q_int))))))))
theorem b_p_ascends (T : Txt P K mg cl sp_ a d) : Binds K (d 5) ["row"] [] := T.F_p_ascends.binds (ps := ["row"]) fun _ _ _ _ _ _ us hl => match us, hl with | [_], _ => rfl
theorem ok_p_ascends (T : Txt P K mg cl sp_ a d) : FnOk P w K mg base CX0 1 (a 5) (d 5) ["row"] (spM ⟨K, cl⟩ f_p_ascends) :=
  fn_ok 3 1 (k := 0) T.F_p_ascends sc_p_ascends fun cdv A outer s H E hr =>
      (qss_one (qs_ret (q_callB allQ (by rfl) T.n_all (by decide +kernel) (q_cons (q_lc [("one", 1), ("other", 2)] (qi_zip (q_cons (q_var 0) (q_cons (q_sl (q_var 0) (q_soO q_int) q_noO) q_nil)) (by rfl) T.n_zip) sc_p_ascends.nd (blkOk_by (N := N_p_ascends) (sc := defScope s_p_ascends) (by decide +kernel)) (fun _ _ _ _ _ => (qg_tup 2 (qgs_cons (qg_name 1 sc_p_ascends.nd) (qgs_cons (qg_name 2 sc_p_ascends.nd) qgs_nil)))) (fun _ _ _ _ _ => (q_cmp (ltA hr) (q_var 1) (q_var 2)))) q_nil))))
theorem b_p_is_stretch (T : Txt P K mg cl sp_ a d) : Binds K (d 6) ["many", "thing"] [] := T.F_p_is_stretch.binds (ps := ["many", "thing"]) fun _ _ _ _ _ _ us hl => match us, hl with | [_, _], _ => rfl
theorem ok_p_is_stretch (T : Txt P K mg cl sp_ a d) : FnOk P w K mg base CX0 2 (a 6) (d 6) ["many", "thing"] (spM ⟨K, cl⟩ f_p_is_stretch) :=
  fn_ok 2 2 (k := 1) T.F_p_is_stretch sc_p_is_stretch fun cdv A outer s H E hr =>
      (qss_cons (qs_if (q_w (q_or (q_not (q_test (q_call (ok_p_is_tuple T) (hr.mono (by omega)) (by rfl) T.g_p_is_tuple T.F_p_is_tuple.kp (b_p_is_tuple T) (q_cons (q_var 1) (q_cons q_int q_nil)) sp_pure))) (q_or (q_not (q_test (q_call (ok_p_is_number T) (hr.mono (by omega)) (by rfl) T.g_p_is_number T.F_p_is_number.kp (b_p_is_number T) (q_cons (q_ix (q_var 1) q_int) (q_cons q_int q_nil)) sp_pure))) (q_or1 (q_not (q_test (q_call (ok_p_is_number T) (hr.mono (by omega)) (by rfl) T.g_p_is_number T.F_p_is_number.kp (b_p_is_number T) (q_cons (q_ix (q_var 1) q_int) (q_cons q_int q_nil)) sp_pure))))))) (qss_one (qs_ret q_bl)) qss_nil)
      (qss_one (qs_ret (q_chain ltI leI (q_ix (q_var 1) q_int) (q_ix (q_var 1) q_int) (q_var 0)))))
theorem b_p_are_looks (T : Txt P K mg cl sp_ a d) : Binds K (d 7) ["many", "thing"] [] := T.F_p_are_looks.binds (ps := ["many", "thing"]) fun _ _ _ _ _ _ us hl => match us, hl with | [_, _], _ => rfl
theorem ok_p_are_looks (T : Txt P K mg cl sp_ a d) : FnOk P w K mg base CX0 3 (a 7) (d 7) ["many", "thing"] (spM ⟨K, cl⟩ f_p_are_looks) :=
  fn_ok 3 2 (k := 2) T.F_p_are_looks sc_p_are_looks fun cdv A outer s H E hr =>
      (qss_one (qs_ret (q_andV (q_isi .tuple (q_var 1) (by rfl) T.n_isinstance (by rfl) T.n_tuple (by decide +kernel)) (q_andV (q_callB allQ (by rfl) T.n_all (by decide +kernel) (q_cons (q_lc [("look", 2)] (qi_items (q_var 1)) sc_p_are_looks.nd (blkOk_by (N := N_p_are_looks) (sc := defScope s_p_are_looks) (by decide +kernel)) (fun _ _ _ _ _ => (qg_name 2 sc_p_are_looks.nd)) (fun _ _ _ _ _ => (q_call (ok_p_is_stretch T) (hr.mono (by omega)) (by rfl) T.g_p_is_stretch T.F_p_is_stretch.kp (b_p_is_stretch T) (q_cons (q_var 0) (q_cons (q_var 2) q_nil)) sp_pure))) q_nil)) (q_oneV (q_call (ok_p_ascends T) (hr.mono (by omega)) (by rfl) T.g_p_ascends T.F_p_ascends.kp (b_p_ascends T) (q_cons (q_var 1) q_nil) sp_pure))))))
theorem b_p_is_book (T : Txt P K mg cl sp_ a d) : Binds K (d 8) ["thing"] [] := T.F_p_is_book.binds (ps := ["thing"]) fun _ _ _ _ _ _ us hl => match us, hl with | [_], _ => rfl
theorem ok_p_is_book (T : Txt P K mg cl sp_ a d) : FnOk P w K mg base CX0 4 (a 8) (d 8) ["thing"] (spM ⟨K, cl⟩ f_p_is_book) :=
  fn_ok 1 1 (k := 3) T.F_p_is_book sc_p_is_book fun cdv A outer s H E hr =>
      (qss_cons (qs_if (q_w (q_or (q_not (q_test (q_call (ok_p_is_tuple T) (hr.mono (by omega)) (by rfl) T.g_p_is_tuple T.F_p_is_tuple.kp (b_p_is_tuple T) (q_cons (q_var 0) (q_cons (q_globI (by rfl) T.c_PARTS.choose_spec) q_nil)) sp_pure))) (q_or1 (q_not (q_test (q_call (ok_p_is_number T) (hr.mono (by omega)) (by rfl) T.g_p_is_number T.F_p_is_number.kp (b_p_is_number T) (q_cons (q_ix (q_var 0) q_int) (q_cons q_int q_nil)) sp_pure)))))) (qss_one (qs_ret q_bl)) qss_nil)
      (qss_one (qs_ret (q_andV (q_call (ok_p_is_limit T) (hr.mono (by omega)) (by rfl) T.g_p_is_limit T.F_p_is_limit.kp (b_p_is_limit T) (q_cons (q_ix (q_var 0) q_int) q_nil) sp_pure) (q_oneV (q_call (ok_p_are_looks T) (hr.mono (by omega)) (by rfl) T.g_p_are_looks T.F_p_are_looks.kp (b_p_are_looks T) (q_cons (q_ix (q_var 0) q_int) (q_cons (q_ix (q_var 0) q_int) q_nil)) sp_pure))))))
theorem b_l_by_hand_right (T : Txt P K mg cl sp_ a d) : Binds K (d 9) [] [] := T.F_l_by_hand_right.binds (ps := []) fun _ _ _ _ _ _ us hl => match us, hl with | [], _ => rfl
theorem ok_l_by_hand_right (T : Txt P K mg cl sp_ a d) : FnOk P w K mg base CX0 32 (a 9) (d 9) [] (spM ⟨K, cl⟩ f_l_by_hand_right) :=
  fn_ok 4 0 (k := 31) T.F_l_by_hand_right sc_l_by_hand_right fun cdv A outer s H E hr =>
      (qss_cons (qs_set 0 (q_lst (q_cons (q_tup (q_cons q_int (q_cons (q_tup (q_cons q_int (q_cons q_int q_nil))) (q_cons (q_tup (q_cons (q_tup (q_cons q_int (q_cons q_int q_nil))) (q_cons (q_tup (q_cons q_int (q_cons q_int q_nil))) q_nil))) q_nil)))) (q_cons (q_tup (q_cons q_int (q_cons (q_tup (q_cons q_int (q_cons q_int q_nil))) (q_cons (q_tup q_nil) q_nil)))) (q_cons (q_tup (q_cons q_int (q_cons (q_tup (q_cons q_int (q_cons q_int q_nil))) (q_cons (q_tup (q_cons (q_tup (q_cons q_int (q_cons q_int q_nil))) q_nil)) q_nil)))) q_nil)))) sc_l_by_hand_right.nd)
      (qss_cons (qs_set 0 (q_op addQ (q_var 0) (q_lst (q_cons (q_tup (q_cons q_int (q_cons (q_tup (q_cons (q_op powI q_int q_int) (q_cons (q_op powI q_int q_int) q_nil))) (q_cons (q_tup (q_cons (q_tup (q_cons q_int (q_cons q_int q_nil))) q_nil)) q_nil)))) q_nil))) sc_l_by_hand_right.nd)
      (qss_cons (qs_set 1 (q_lst (q_cons (q_tup (q_cons q_int (q_cons (q_tup (q_cons q_int (q_cons q_int q_nil))) (q_cons (q_tup q_nil) q_nil)))) (q_cons (q_tup (q_cons q_int (q_cons (q_tup (q_cons q_int (q_cons q_int q_nil))) (q_cons (q_tup q_nil) q_nil)))) (q_cons (q_tup (q_cons q_int (q_cons (q_tup (q_cons q_int (q_cons q_int q_nil))) (q_cons (q_tup q_nil) q_nil)))) (q_cons (q_tup (q_cons q_int (q_cons (q_tup (q_cons q_int (q_cons q_int q_nil))) (q_cons (q_tup q_nil) q_nil)))) (q_cons (q_tup (q_cons q_int (q_cons (q_tup (q_cons q_int (q_cons q_int q_nil))) q_nil))) (q_cons (q_tup (q_cons q_int (q_cons (q_tup (q_cons q_int (q_cons q_int q_nil))) (q_cons (q_tup q_nil) (q_cons (q_tup q_nil) q_nil))))) q_nil))))))) sc_l_by_hand_right.nd)
      (qss_cons (qs_set 1 (q_op addQ (q_var 1) (q_lst (q_cons (q_tup (q_cons q_int (q_cons (q_tup (q_cons q_int (q_cons q_int q_nil))) (q_cons (q_tup (q_cons (q_tup (q_cons q_int (q_cons q_int q_nil))) (q_cons (q_tup (q_cons q_int (q_cons q_int q_nil))) q_nil))) q_nil)))) (q_cons (q_tup (q_cons q_int (q_cons (q_tup (q_cons q_int (q_cons q_int q_nil))) (q_cons (q_tup (q_cons (q_tup (q_cons q_int (q_cons q_int q_nil))) (q_cons (q_tup (q_cons q_int (q_cons q_int q_nil))) q_nil))) q_nil)))) (q_cons (q_tup (q_cons q_int (q_cons (q_tup (q_cons q_int (q_cons q_int q_nil))) (q_cons (q_tup (q_cons (q_tup (q_cons q_int (q_cons q_int q_nil))) q_nil)) q_nil)))) q_nil))))) sc_l_by_hand_right.nd)
      (qss_cons (qs_set 1 (q_op addQ (q_var 1) (q_lst (q_cons (q_tup (q_cons q_int (q_cons (q_tup (q_cons q_int (q_cons q_int q_nil))) (q_cons (q_tup (q_cons (q_tup (q_cons q_int (q_cons q_int q_nil))) q_nil)) q_nil)))) (q_cons (q_tup (q_cons q_int (q_cons (q_tup (q_cons q_int (q_cons q_int q_nil))) (q_cons (q_tup (q_cons (q_tup (q_cons q_int (q_cons q_int q_nil))) q_nil)) q_nil)))) (q_cons (q_tup (q_cons q_int (q_cons (q_tup (q_cons q_int (q_cons q_int q_nil))) (q_cons (q_tup (q_cons (q_tup (q_cons (q_neg q_int) (q_cons q_int q_nil))) q_nil)) q_nil)))) (q_cons (q_tup (q_cons q_int (q_cons (q_tup (q_cons q_int (q_cons q_int q_nil))) (q_cons (q_lst (q_cons (q_tup (q_cons q_int (q_cons q_int q_nil))) q_nil)) q_nil)))) q_nil)))))) sc_l_by_hand_right.nd)
      (qss_cons (qs_set 1 (q_op addQ (q_var 1) (q_lst (q_cons (q_tup (q_cons q_int (q_cons (q_tup (q_cons q_int (q_cons q_int q_nil))) (q_cons (q_tup (q_cons (q_lst (q_cons q_int (q_cons q_int q_nil))) q_nil)) q_nil)))) (q_cons (q_tup (q_cons q_int (q_cons (q_lst (q_cons q_int (q_cons q_int q_nil))) (q_cons (q_tup q_nil) q_nil)))) (q_cons (q_lst (q_cons q_int (q_cons (q_tup (q_cons q_int (q_cons q_int q_nil))) (q_cons (q_tup q_nil) q_nil)))) (q_cons (q_tup (q_cons q_bl (q_cons (q_tup (q_cons q_int (q_cons q_int q_nil))) (q_cons (q_tup q_nil) q_nil)))) (q_cons (q_tup (q_cons q_int (q_cons (q_tup (q_cons q_bl (q_cons q_int q_nil))) (q_cons (q_tup q_nil) q_nil)))) q_nil))))))) sc_l_by_hand_right.nd)
      (qss_cons (qs_set 1 (q_op addQ (q_var 1) (q_lst (q_cons (q_tup (q_cons q_int (q_cons (q_tup (q_cons q_int (q_cons q_int q_nil))) (q_cons (q_tup (q_cons (q_tup (q_cons q_bl (q_cons q_int q_nil))) q_nil)) q_nil)))) (q_cons (q_tup (q_cons q_int (q_cons (q_tup (q_cons q_int (q_cons q_int q_nil))) (q_cons (q_tup (q_cons (q_tup (q_cons q_int (q_cons q_bl q_nil))) q_nil)) q_nil)))) (q_cons (q_tup (q_cons q_int (q_cons (q_tup (q_cons q_int (q_cons q_int q_nil))) (q_cons (q_tup (q_cons q_int (q_cons q_int q_nil))) q_nil)))) (q_cons (q_tup (q_cons q_int (q_cons (q_tup (q_cons q_int (q_cons q_int (q_cons q_int q_nil)))) (q_cons (q_tup q_nil) q_nil)))) q_nil)))))) sc_l_by_hand_right.nd)
      (qss_cons (qs_set 1 (q_op addQ (q_var 1) (q_lst (q_cons q_non (q_cons (q_tup q_nil) (q_cons q_str (q_cons q_int (q_cons q_bl (q_cons (q_tup (q_cons q_int (q_cons (q_tup (q_cons q_int (q_cons q_int q_nil))) (q_cons q_non q_nil)))) (q_cons (q_tup (q_cons q_int (q_cons q_non (q_cons (q_tup q_nil) q_nil)))) (q_cons (q_tup (q_cons q_str (q_cons (q_tup (q_cons q_int (q_cons q_int q_nil))) (q_cons (q_tup q_nil) q_nil)))) q_nil)))))))))) sc_l_by_hand_right.nd)
      (qss_cons (qs_set 1 (q_op addQ (q_var 1) (q_lst (q_cons (q_tup (q_cons q_int (q_cons (q_tup (q_cons q_int (q_cons q_int q_nil))) (q_cons (q_tup (q_cons (q_tup (q_cons q_int q_nil)) q_nil)) q_nil)))) q_nil))) sc_l_by_hand_right.nd)
      (qss_cons (qs_set 2 (q_op addQ (q_lc [("_law_own", 3)] (qi_items (q_var 0)) sc_l_by_hand_right.nd (blkOk_by (N := N_l_by_hand_right) (sc := defScope s_l_by_hand_right) (by decide +kernel)) (fun _ _ _ _ _ => (qg_name 3 sc_l_by_hand_right.nd)) (fun _ _ _ _ _ => (q_call (ok_p_is_book T) (hr.mono (by omega)) (by rfl) T.g_p_is_book T.F_p_is_book.kp (b_p_is_book T) (q_cons (q_var 3) q_nil) sp_pure))) (q_lc [("_law_own", 3)] (qi_items (q_var 1)) sc_l_by_hand_right.nd (blkOk_by (N := N_l_by_hand_right) (sc := defScope s_l_by_hand_right) (by decide +kernel)) (fun _ _ _ _ _ => (qg_name 3 sc_l_by_hand_right.nd)) (fun _ _ _ _ _ => (q_call (ok_p_is_book T) (hr.mono (by omega)) (by rfl) T.g_p_is_book T.F_p_is_book.kp (b_p_is_book T) (q_cons (q_var 3) q_nil) sp_pure)))) sc_l_by_hand_right.nd)
      (qss_one (qs_ret (q_call (ok_l_same T 30) (hr.mono (by omega)) (by rfl) T.g_l_same T.F_l_same.kp (b_l_same T) (q_cons (q_var 2) (q_cons (q_op addQ (q_op mulQ (q_lst (q_cons q_bl q_nil)) (q_callB lenQ (by rfl) T.n_len (by decide +kernel) (q_cons (q_var 0) q_nil))) (q_op mulQ (q_lst (q_cons q_bl q_nil)) (q_callB lenQ (by rfl) T.n_len (by decide +kernel) (q_cons (q_var 1) q_nil)))) q_nil)) sp_pure)))))))))))))
theorem b_l_take (T : Txt P K mg cl sp_ a d) : Binds K (d 10) ["_law_box_here", "_law_below"] [] := T.F_l_take.binds (ps := ["_law_box_here", "_law_below"]) fun _ _ _ _ _ _ us hl => match us, hl with | [_, _], _ => rfl
theorem ok_l_take (T : Txt P K mg cl sp_ a d) : FnOk P w K mg base CX0 1 (a 10) (d 10) ["_law_box_here", "_law_below"] (spM ⟨K, cl⟩ f_l_take) :=
  fn_ok 6 2 (k := 0) T.F_l_take sc_l_take fun cdv A outer s H E hr =>
      (qss_cons (qs_if (q_tcmp gtI (q_ix (q_var 0) q_int) q_int) (qss_cons (qs_set 2 (q_op modI (q_callTy intQ (by rfl) T.n_int (by decide +kernel) (q_cons (q_ix (q_var 0) q_int) q_nil)) (q_var 1)) sc_l_take.nd)
      (qss_cons (qs_asg (q_op divI (q_ix (q_var 0) q_int) (q_var 1)) (qg_sub (q_var 0) q_int))
      (qss_one (qs_ret (q_var 2))))) qss_nil)
      (qss_cons (qs_asg (q_op addQ (q_ix (q_var 0) q_int) q_int) (qg_sub (q_var 0) q_int))
      (qss_cons (qs_set 3 (q_op modI (q_callTy intQ (by rfl) T.n_int (by decide +kernel) (q_cons (q_op mulQ (q_op addQ (q_ix (q_var 0) q_int) (q_op mulQ q_int (q_ix (q_var 0) q_int))) (q_op addQ q_int (q_ix (q_var 0) q_int))) q_nil)) q_int) sc_l_take.nd)
      (qss_cons (qs_set 4 (q_op addQ (q_op modI (q_callTy intQ (by rfl) T.n_int (by decide +kernel) (q_cons (q_var 3) q_nil)) q_int) q_int) sc_l_take.nd)
      (qss_cons (qs_set 5 (q_op modI (q_callTy intQ (by rfl) T.n_int (by decide +kernel) (q_cons (q_op mulQ (q_op addQ (q_op addQ (q_var 3) (q_ix (q_var 0) q_int)) (q_op divI (q_ix (q_var 0) q_int) q_int)) (q_var 4)) q_nil)) q_int) sc_l_take.nd)
      (qss_one (qs_ret (q_op modI (q_callTy intQ (by rfl) T.n_int (by decide +kernel) (q_cons (q_op divI (q_op modI (q_callTy intQ (by rfl) T.n_int (by decide +kernel) (q_cons (q_op addQ (q_op mulQ (q_var 5) q_int) (q_var 3)) q_nil)) q_int) q_int) q_nil)) (q_var 1)))))))))
theorem b_l_of (T : Txt P K mg cl sp_ a d) : Binds K (d 11) ["_law_box_here", "_law_some"] [] := T.F_l_of.binds (ps := ["_law_box_here", "_law_some"]) fun _ _ _ _ _ _ us hl => match us, hl with | [_, _], _ => rfl
theorem ok_l_of (T : Txt P K mg cl sp_ a d) : FnOk P w K mg base CX0 2 (a 11) (d 11) ["_law_box_here", "_law_some"] (spM ⟨K, cl⟩ f_l_of) :=
  fn_ok 2 2 (k := 1) T.F_l_of sc_l_of fun cdv A outer s H E hr =>
      (qss_one (qs_ret (q_ix (q_var 1) (q_call (ok_l_take T) (hr.mono (by omega)) (by rfl) T.g_l_take T.F_l_take.kp (b_l_take T) (q_cons (q_var 0) (q_cons (q_callB lenQ (by rfl) T.n_len (by decide +kernel) (q_cons (q_var 1) q_nil)) q_nil)) sp_call))))
theorem b_l_limit (T : Txt P K mg cl sp_ a d) : Binds K (d 12) ["_law_box_here"] [] := T.F_l_limit.binds (ps := ["_law_box_here"]) fun _ _ _ _ _ _ us hl => match us, hl with | [_], _ => rfl
theorem ok_l_limit (T : Txt P K mg cl sp_ a d) : FnOk P w K mg base CX0 3 (a 12) (d 12) ["_law_box_here"] (spM ⟨K, cl⟩ f_l_limit) :=
  fn_ok 2 1 (k := 2) T.F_l_limit sc_l_limit fun cdv A outer s H E hr =>
      (qss_cons (qs_set 1 (q_call (ok_l_take T) (hr.mono (by omega)) (by rfl) T.g_l_take T.F_l_take.kp (b_l_take T) (q_cons (q_var 0) (q_cons q_int q_nil)) sp_call) sc_l_limit.nd)
      (qss_cons (qs_if (q_tcmp (eqQ hr) (q_var 1) q_int) (qss_one (qs_ret (q_tup (q_cons (q_op addQ q_int (q_call (ok_l_take T) (hr.mono (by omega)) (by rfl) T.g_l_take T.F_l_take.kp (b_l_take T) (q_cons (q_var 0) (q_cons (q_op powI q_int q_int) q_nil)) sp_call)) (q_cons (q_op addQ (q_op addQ (q_op powI q_int q_int) q_int) (q_call (ok_l_take T) (hr.mono (by omega)) (by rfl) T.g_l_take T.F_l_take.kp (b_l_take T) (q_cons (q_var 0) (q_cons (q_op powI q_int q_int) q_nil)) sp_call)) q_nil))))) qss_nil)
      (qss_cons (qs_if (q_tcmp (eqQ hr) (q_var 1) q_int) (qss_one (qs_ret (q_tup (q_cons (q_op addQ q_int (q_op mulQ (q_call (ok_l_take T) (hr.mono (by omega)) (by rfl) T.g_l_take T.F_l_take.kp (b_l_take T) (q_cons (q_var 0) (q_cons q_int q_nil)) sp_call) q_int)) (q_cons q_int q_nil))))) qss_nil)
      (qss_one (qs_ret (q_call (ok_l_of T) (hr.mono (by omega)) (by rfl) T.g_l_of T.F_l_of.kp (b_l_of T) (q_cons (q_var 0) (q_cons (q_lst (q_cons (q_tup (q_cons q_int (q_cons q_int q_nil))) (q_cons (q_tup (q_cons q_int (q_cons q_int q_nil))) (q_cons (q_tup (q_cons q_int (q_cons q_int q_nil))) (q_cons (q_tup (q_cons q_int (q_cons q_int q_nil))) (q_cons (q_tup (q_cons q_int (q_cons q_int q_nil))) (q_cons (q_tup (q_cons q_int (q_cons q_int q_nil))) q_nil))))))) q_nil)) sp_call))))))
theorem b_l_looks (T : Txt P K mg cl sp_ a d) : Binds K (d 13) ["_law_box_here", "_law_many", "_law_most_so"] [] := T.F_l_looks.binds (ps := ["_law_box_here", "_law_many", "_law_most_so"]) fun _ _ _ _ _ _ us hl => match us, hl with | [_, _, _], _ => rfl
theorem ok_l_looks (T : Txt P K mg cl sp_ a d) : FnOk P w K mg base CX0 2 (a 13) (d 13) ["_law_box_here", "_law_many", "_law_most_so"] (spM ⟨K, cl⟩ f_l_looks) :=
  fn_ok 8 3 (k := 1) T.F_l_looks sc_l_looks fun cdv A outer s H E hr =>
      (qss_cons (qs_par 3 4 sc_l_looks.nd (q_cons (q_call (ok_l_take T) (hr.mono (by omega)) (by rfl) T.g_l_take T.F_l_take.kp (b_l_take T) (q_cons (q_var 0) (q_cons q_int q_nil)) sp_call) (q_cons (q_cell q_nil) q_nil)))
      (qss_cons (qs_set 5 (q_op addQ q_int (q_call (ok_l_take T) (hr.mono (by omega)) (by rfl) T.g_l_take T.F_l_take.kp (b_l_take T) (q_cons (q_var 0) (q_cons (q_callB min2Q (by rfl) T.n_min (by decide +kernel) (q_cons (q_var 1) (q_cons q_int q_nil))) q_nil)) sp_call)) sc_l_looks.nd)
      (qss_cons (qs_for (qi_range1 (q_call (ok_l_take T) (hr.mono (by omega)) (by rfl) T.g_l_take T.F_l_take.kp (b_l_take T) (q_cons (q_var 0) (q_cons (q_op addQ (q_var 2) q_int) q_nil)) sp_call) (by rfl) T.n_range) (qg_name 6 sc_l_looks.nd) (qss_cons (qs_set 7 (q_call (ok_l_take T) (hr.mono (by omega)) (by rfl) T.g_l_take T.F_l_take.kp (b_l_take T) (q_cons (q_var 0) (q_cons (q_var 1) q_nil)) sp_call) sc_l_looks.nd)
      (qss_one (qs_if (q_tcmp (eqQ hr) (q_var 3) q_int) (qss_one (qs_expr (q_app (q_var 4) (q_tup (q_cons (q_var 7) (q_cons (q_op addQ (q_op addQ (q_var 7) q_int) (q_call (ok_l_take T) (hr.mono (by omega)) (by rfl) T.g_l_take T.F_l_take.kp (b_l_take T) (q_cons (q_var 0) (q_cons (q_op subI (q_var 1) (q_var 7)) q_nil)) sp_call)) q_nil)))))) (qss_one (qs_if (q_tcmp (eqQ hr) (q_var 3) q_int) (qss_one (qs_expr (q_app (q_var 4) (q_tup (q_cons (q_var 7) (q_cons (q_callB min2Q (by rfl) T.n_min (by decide +kernel) (q_cons (q_var 1) (q_cons (q_op addQ (q_var 7) (q_var 5)) q_nil))) q_nil)))))) (qss_one (qs_expr (q_app (q_var 4) (q_tup (q_cons (q_var 7) (q_cons (q_callB min2Q (by rfl) T.n_min (by decide +kernel) (q_cons (q_var 1) (q_cons (q_op addQ (q_op addQ (q_var 7) q_int) (q_call (ok_l_take T) (hr.mono (by omega)) (by rfl) T.g_l_take T.F_l_take.kp (b_l_take T) (q_cons (q_var 0) (q_cons q_int q_nil)) sp_call)) q_nil))) q_nil))))))))))))
      (qss_one (qs_ret (q_callTy tupleQ (by rfl) T.n_tuple (by decide +kernel) (q_cons (q_sortset hr (q_frz (q_var 4)) (by rfl) T.n_sorted (by rfl) T.n_set) q_nil)))))))
theorem b_l_book (T : Txt P K mg cl sp_ a d) : Binds K (d 14) ["_law_box_here", "_law_most_minutes", "_law_most_looks"] [] := T.F_l_book.binds (ps := ["_law_box_here", "_law_most_minutes", "_law_most_looks"]) fun _ _ _ _ _ _ us hl => match us, hl with | [_, _, _], _ => rfl
theorem ok_l_book (T : Txt P K mg cl sp_ a d) : FnOk P w K mg base CX0 4 (a 14) (d 14) ["_law_box_here", "_law_most_minutes", "_law_most_looks"] (spM ⟨K, cl⟩ f_l_book) :=
  fn_ok 4 3 (k := 3) T.F_l_book sc_l_book fun cdv A outer s H E hr =>
      (qss_cons (qs_set 3 (q_op addQ q_int (q_call (ok_l_take T) (hr.mono (by omega)) (by rfl) T.g_l_take T.F_l_take.kp (b_l_take T) (q_cons (q_var 0) (q_cons (q_var 1) q_nil)) sp_call)) sc_l_book.nd)
      (qss_one (qs_ret (q_tup (q_cons (q_var 3) (q_cons (q_call (ok_l_limit T) (hr.mono (by omega)) (by rfl) T.g_l_limit T.F_l_limit.kp (b_l_limit T) (q_cons (q_var 0) q_nil) sp_call) (q_cons (q_call (ok_l_looks T) (hr.mono (by omega)) (by rfl) T.g_l_looks T.F_l_looks.kp (b_l_looks T) (q_cons (q_var 0) (q_cons (q_var 3) (q_cons (q_var 2) q_nil))) sp_call) q_nil)))))))
theorem b_l_lists (T : Txt P K mg cl sp_ a d) : Binds K (d 15) ["_law_matter"] [] := T.F_l_lists.binds (ps := ["_law_matter"]) fun _ _ _ _ _ _ us hl => match us, hl with | [_], _ => rfl
theorem ok_l_lists (T : Txt P K mg cl sp_ a d) (k : Nat) : FnOk P w K mg base CX0 (0 + k) (a 15) (d 15) ["_law_matter"] (spM ⟨K, cl⟩ (f_l_lists k)) := by
  induction k with
  | zero => exact fn_none
  | succ k ih =>
    exact fn_ok 2 1 (k := 0 + k) T.F_l_lists sc_l_lists fun cdv A outer s H E hr =>
      (qss_one (qs_ret (q_ifE (q_test (q_isi2 .list .tuple (q_var 0) (by rfl) T.n_isinstance (by rfl) T.n_list (by decide +kernel) (by rfl) T.n_tuple (by decide +kernel))) (q_lc [("_law_bit", 1)] (qi_items (q_var 0)) sc_l_lists.nd (blkOk_by (N := N_l_lists) (sc := defScope s_l_lists) (by decide +kernel)) (fun _ _ _ _ _ => (qg_name 1 sc_l_lists.nd)) (fun _ _ _ _ _ => (q_call ih (hr.mono (by omega)) (by rfl) T.g_l_lists T.F_l_lists.kp (b_l_lists T) (q_cons (q_var 1) q_nil) sp_pure))) (q_var 0))))
theorem b_l_bent (T : Txt P K mg cl sp_ a d) : Binds K (d 16) ["_law_box_here", "_law_part_so", "_law_more"] [] := T.F_l_bent.binds (ps := ["_law_box_here", "_law_part_so", "_law_more"]) fun _ _ _ _ _ _ us hl => match us, hl with | [_, _, _], _ => rfl
theorem ok_l_bent (T : Txt P K mg cl sp_ a d) (k : Nat) : FnOk P w K mg base CX0 (2 + k) (a 16) (d 16) ["_law_box_here", "_law_part_so", "_law_more"] (spM ⟨K, cl⟩ (f_l_bent k)) := by
  induction k with
  | zero => exact fn_none
  | succ k ih =>
    exact fn_ok 5 3 (k := 2 + k) T.F_l_bent sc_l_bent fun cdv A outer s H E hr =>
      (qss_cons (qs_if (q_w (q_and (q_test (q_isi .tuple (q_var 1) (by rfl) T.n_isinstance (by rfl) T.n_tuple (by decide +kernel))) (q_and (q_tcmp (neQ hr) (q_var 1) (q_tup q_nil)) (q_and1 (q_tcmp gtI (q_call (ok_l_take T) (hr.mono (by omega)) (by rfl) T.g_l_take T.F_l_take.kp (b_l_take T) (q_cons (q_var 0) (q_cons q_int q_nil)) sp_call) q_int))))) (qss_cons (qs_set 3 (q_call (ok_l_take T) (hr.mono (by omega)) (by rfl) T.g_l_take T.F_l_take.kp (b_l_take T) (q_cons (q_var 0) (q_cons (q_callB lenQ (by rfl) T.n_len (by decide +kernel) (q_cons (q_var 1) q_nil)) q_nil)) sp_call) sc_l_bent.nd)
      (qss_one (qs_ret (q_op addM (q_op addM (q_sl (q_var 1) q_noO (q_soO (q_var 3))) (q_tup (q_cons (q_call ih (hr.mono (by omega)) (by rfl) T.g_l_bent T.F_l_bent.kp (b_l_bent T) (q_cons (q_var 0) (q_cons (q_ix (q_var 1) (q_var 3)) (q_cons (q_var 2) q_nil))) sp_call) q_nil))) (q_sl (q_var 1) (q_soO (q_op addM (q_var 3) q_int)) q_noO))))) qss_nil)
      (qss_cons (qs_set 4 (q_op addM (q_lst (q_cons q_int (q_cons q_int (q_cons (q_neg q_int) (q_cons q_int (q_cons q_non (q_cons q_bl (q_cons q_bl (q_cons q_str (q_cons q_str (q_cons (q_tup q_nil) (q_cons (q_lst q_nil) (q_cons (q_tup (q_cons q_int (q_cons q_int q_nil))) (q_cons (q_tup (q_cons q_int (q_cons q_int q_nil))) (q_cons (q_op powI q_int q_int) q_nil))))))))))))))) (q_var 2)) sc_l_bent.nd)
      (qss_cons (qs_if (q_test (q_isi .tuple (q_var 1) (by rfl) T.n_isinstance (by rfl) T.n_tuple (by decide +kernel))) (qss_one (qs_set 4 (q_op addM (q_var 4) (q_lst (q_cons (q_callTy listQ (by rfl) T.n_list (by decide +kernel) (q_cons (q_var 1) q_nil)) (q_cons (q_sl (q_var 1) q_noO (q_soO (q_neg q_int))) (q_cons (q_op addM (q_var 1) (q_sl (q_var 1) (q_soO (q_neg q_int)) q_noO)) (q_cons (q_rev (q_var 1)) (q_cons (q_tup (q_cons (q_var 1) q_nil)) q_nil))))))) sc_l_bent.nd)) qss_nil)
      (qss_cons (qs_if (q_test (q_isi .int (q_var 1) (by rfl) T.n_isinstance (by rfl) T.n_int (by decide +kernel))) (qss_one (qs_set 4 (q_op addM (q_var 4) (q_lst (q_cons (q_op addM (q_var 1) q_int) (q_cons (q_op subM (q_var 1) q_int) (q_cons (q_op subM q_int (q_var 1)) (q_cons (q_callTy strMQ (by rfl) T.n_str (by decide +kernel) (q_cons (q_var 1) q_nil)) (q_cons (q_tup (q_cons (q_var 1) q_nil)) q_nil))))))) sc_l_bent.nd)) qss_nil)
      (qss_one (qs_ret (q_call (ok_l_of T) (hr.mono (by omega)) (by rfl) T.g_l_of T.F_l_of.kp (b_l_of T) (q_cons (q_var 0) (q_cons (q_var 4) q_nil)) sp_call)))))))
theorem b_l_is_number (T : Txt P K mg cl sp_ a d) : Binds K (d 17) ["_law_mat", "_law_least_so"] [] := T.F_l_is_number.binds (ps := ["_law_mat", "_law_least_so"]) fun _ _ _ _ _ _ us hl => match us, hl with | [_, _], _ => rfl
theorem ok_l_is_number (T : Txt P K mg cl sp_ a d) : FnOk P w K mg base CX0 1 (a 17) (d 17) ["_law_mat", "_law_least_so"] (spM ⟨K, cl⟩ f_l_is_number) :=
  fn_ok 2 2 (k := 0) T.F_l_is_number sc_l_is_number fun cdv A outer s H E hr =>
      (qss_one (qs_ret (q_andV (q_isi .int (q_var 0) (by rfl) T.n_isinstance (by rfl) T.n_int (by decide +kernel)) (q_andV (q_notV (q_isi .bool (q_var 0) (by rfl) T.n_isinstance (by rfl) T.n_bool (by decide +kernel))) (q_oneV (q_cmp geI (q_var 0) (q_var 1)))))))
theorem b_l_is_pair (T : Txt P K mg cl sp_ a d) : Binds K (d 18) ["_law_mat", "_law_least_so"] [] := T.F_l_is_pair.binds (ps := ["_law_mat", "_law_least_so"]) fun _ _ _ _ _ _ us hl => match us, hl with | [_, _], _ => rfl
theorem ok_l_is_pair (T : Txt P K mg cl sp_ a d) : FnOk P w K mg base CX0 2 (a 18) (d 18) ["_law_mat", "_law_least_so"] (spM ⟨K, cl⟩ f_l_is_pair) :=
  fn_ok 3 2 (k := 1) T.F_l_is_pair sc_l_is_pair fun cdv A outer s H E hr =>
      (qss_cons (qs_if (q_w (q_or (q_not (q_test (q_isi .tuple (q_var 0) (by rfl) T.n_isinstance (by rfl) T.n_tuple (by decide +kernel)))) (q_or (q_tcmp (neQ hr) (q_callB lenQ (by rfl) T.n_len (by decide +kernel) (q_cons (q_var 0) q_nil)) q_int) (q_or1 (q_not (q_test (q_callB allQ (by rfl) T.n_all (by decide +kernel) (q_cons (q_lc [("_law_bit", 2)] (qi_items (q_var 0)) sc_l_is_pair.nd (blkOk_by (N := N_l_is_pair) (sc := defScope s_l_is_pair) (by decide +kernel)) (fun _ _ _ _ _ => (qg_name 2 sc_l_is_pair.nd)) (fun _ _ _ _ _ => (q_call (ok_l_is_number T) (hr.mono (by omega)) (by rfl) T.g_l_is_number T.F_l_is_number.kp (b_l_is_number T) (q_cons (q_var 2) (q_cons (q_var 1) q_nil)) sp_pure))) q_nil)))))))) (qss_one (qs_ret q_bl)) qss_nil)
      (qss_one (qs_ret (q_cmp ltI (q_ix (q_var 0) q_int) (q_ix (q_var 0) q_int)))))
theorem b_l_is_fine (T : Txt P K mg cl sp_ a d) : Binds K (d 19) ["_law_mat"] [] := T.F_l_is_fine.binds (ps := ["_law_mat"]) fun _ _ _ _ _ _ us hl => match us, hl with | [_], _ => rfl
theorem ok_l_is_fine (T : Txt P K mg cl sp_ a d) : FnOk P w K mg base CX0 3 (a 19) (d 19) ["_law_mat"] (spM ⟨K, cl⟩ f_l_is_fine) :=
  fn_ok 3 1 (k := 2) T.F_l_is_fine sc_l_is_fine fun cdv A outer s H E hr =>
      (qss_cons (qs_if (q_w (q_or (q_not (q_test (q_isi .tuple (q_var 0) (by rfl) T.n_isinstance (by rfl) T.n_tuple (by decide +kernel)))) (q_or (q_tcmp (neQ hr) (q_callB lenQ (by rfl) T.n_len (by decide +kernel) (q_cons (q_var 0) q_nil)) q_int) (q_or (q_not (q_test (q_call (ok_l_is_number T) (hr.mono (by omega)) (by rfl) T.g_l_is_number T.F_l_is_number.kp (b_l_is_number T) (q_cons (q_ix (q_var 0) q_int) (q_cons q_int q_nil)) sp_pure))) (q_or1 (q_not (q_test (q_call (ok_l_is_pair T) (hr.mono (by omega)) (by rfl) T.g_l_is_pair T.F_l_is_pair.kp (b_l_is_pair T) (q_cons (q_ix (q_var 0) q_int) (q_cons q_int q_nil)) sp_pure)))))))) (qss_one (qs_ret q_bl)) qss_nil)
      (qss_cons (qs_if (q_w (q_or (q_not (q_test (q_isi .tuple (q_ix (q_var 0) q_int) (by rfl) T.n_isinstance (by rfl) T.n_tuple (by decide +kernel)))) (q_or1 (q_not (q_test (q_callB allQ (by rfl) T.n_all (by decide +kernel) (q_cons (q_lc [("_law_own", 1)] (qi_items (q_ix (q_var 0) q_int)) sc_l_is_fine.nd (blkOk_by (N := N_l_is_fine) (sc := defScope s_l_is_fine) (by decide +kernel)) (fun _ _ _ _ _ => (qg_name 1 sc_l_is_fine.nd)) (fun _ _ _ _ _ => (q_andV (q_call (ok_l_is_pair T) (hr.mono (by omega)) (by rfl) T.g_l_is_pair T.F_l_is_pair.kp (b_l_is_pair T) (q_cons (q_var 1) (q_cons q_int q_nil)) sp_pure) (q_oneV (q_cmp leI (q_ix (q_var 1) q_int) (q_ix (q_var 0) q_int)))))) q_nil))))))) (qss_one (qs_ret q_bl)) qss_nil)
      (qss_one (qs_ret (q_cmp (eqQ hr) (q_lcIf [("_law_k", 2)] (qi_range2 q_int (q_callB lenQ (by rfl) T.n_len (by decide +kernel) (q_cons (q_ix (q_var 0) q_int) q_nil)) (by rfl) T.n_range) sc_l_is_fine.nd (blkOk_by (N := N_l_is_fine) (sc := defScope s_l_is_fine) (by decide +kernel)) (fun _ _ _ _ _ => (qg_name 2 sc_l_is_fine.nd)) (fun _ _ _ _ _ => (q_not (q_tcmp (ltA hr) (q_ix (q_ix (q_var 0) q_int) (q_op subI (q_var 2) q_int)) (q_ix (q_ix (q_var 0) q_int) (q_var 2))))) (fun _ _ _ _ _ => (q_var 2))) (q_lst q_nil))))))
theorem b_l_right (T : Txt P K mg cl sp_ a d) : Binds K (d 20) ["_law_box_here"] [] := T.F_l_right.binds (ps := ["_law_box_here"]) fun _ _ _ _ _ _ us hl => match us, hl with | [_], _ => rfl
theorem ok_l_right (T : Txt P K mg cl sp_ a d) : FnG P w K mg base CX0 34 (a 20) (d 20) ["_law_box_here"] (spM ⟨K, cl⟩ f_l_right) :=
  fn_okG 8 1 (k := 33) T.F_l_right sc_l_right fun cdv A outer s H E gd hr =>
      (qss_cons (qs_if (q_not (q_test (q_call0 (ok_l_by_hand_right T) (hr.mono (by omega)) (by rfl) T.g_l_by_hand_right T.F_l_by_hand_right.kp (b_l_by_hand_right T) sp_pure))) (qss_one (qs_ret q_bl)) qss_nil)
      (qss_cons (qs_for (qi_range1 q_int (by rfl) T.n_range) (qg_name 1 sc_l_right.nd) (qss_cons (qs_set 2 (q_call (ok_l_book T) (hr.mono (by omega)) (by rfl) T.g_l_book T.F_l_book.kp (b_l_book T) (q_cons (q_var 0) (q_cons q_int (q_cons q_int q_nil))) sp_call) sc_l_right.nd)
      (qss_cons (qs_set 3 (q_lst (q_cons (q_var 2) (q_cons (q_call (ok_l_lists T 30) (hr.mono (by omega)) (by rfl) T.g_l_lists T.F_l_lists.kp (b_l_lists T) (q_cons (q_var 2) q_nil) sp_pure) (q_cons (q_op addQ (q_sl (q_var 2) q_noO (q_soO q_int)) (q_tup (q_cons (q_callTy listQ (by rfl) T.n_list (by decide +kernel) (q_cons (q_ix (q_var 2) q_int) q_nil)) q_nil))) (q_cons (q_op addQ (q_sl (q_var 2) q_noO (q_soO q_int)) (q_tup (q_cons (q_rev (q_ix (q_var 2) q_int)) q_nil))) q_nil))))) sc_l_right.nd)
      (qss_cons (qs_for (qi_range1 q_int (by rfl) T.n_range) (qg_name 4 sc_l_right.nd) (qss_cons (qs_set 5 (q_call (ok_l_bent T 30) (hr.mono (by omega)) (by rfl) T.g_l_bent T.F_l_bent.kp (b_l_bent T) (q_cons (q_var 0) (q_cons (q_var 2) (q_cons (q_lst (q_cons (q_ix (q_var 2) q_int) (q_cons (q_ix (q_var 2) q_int) (q_cons (q_ix (q_var 2) q_int) q_nil)))) q_nil))) sp_call) sc_l_right.nd)
      (qss_one (qs_set 3 (q_op addQ (q_var 3) (q_lst (q_cons (q_var 5) (q_cons (q_call (ok_l_bent T 30) (hr.mono (by omega)) (by rfl) T.g_l_bent T.F_l_bent.kp (b_l_bent T) (q_cons (q_var 0) (q_cons (q_var 5) (q_cons (q_lst (q_cons (q_var 2) q_nil)) q_nil))) sp_call) q_nil)))) sc_l_right.nd))))
      (qss_one (qs_for (qi_items (q_var 3)) (qg_name 5 sc_l_right.nd) (qss_cons (qs_par 6 7 sc_l_right.nd (q_cons (q_callB (reprQ gd hr) (by rfl) T.n_repr (by decide +kernel) (q_cons (q_var 5) q_nil)) (q_cons (q_call (ok_l_is_fine T) (hr.mono (by omega)) (by rfl) T.g_l_is_fine T.F_l_is_fine.kp (b_l_is_fine T) (q_cons (q_var 5) q_nil) sp_pure) q_nil)))
      (qss_one (qs_if (q_w (q_or (q_not (q_test (q_call (ok_l_same T 30) (hr.mono (by omega)) (by rfl) T.g_l_same T.F_l_same.kp (b_l_same T) (q_cons (q_lst (q_cons (q_call (ok_p_is_book T) (hr.mono (by omega)) (by rfl) T.g_p_is_book T.F_p_is_book.kp (b_p_is_book T) (q_cons (q_var 5) q_nil) sp_pure) (q_cons (q_callK0 (ok_p_is_book T) (hr.mono (by omega)) (by rfl) T.g_p_is_book T.F_p_is_book.kp (kbn T.F_p_is_book 0 [0] (ks := ["thing"]) (ps := ["thing"]) fun _ _ _ _ _ _ us ws h1 h2 => match us, ws, h1, h2 with | [], [_], _, _ => rfl) (qk_cons (q_var 5) qk_nil) sp_pure) q_nil))) (q_cons (q_lst (q_cons (q_var 7) (q_cons (q_var 7) q_nil))) q_nil)) sp_pure))) (q_or1 (q_tcmp (neQ hr) (q_callB (reprQ gd hr) (by rfl) T.n_repr (by decide +kernel) (q_cons (q_var 5) q_nil)) (q_var 6))))) (qss_one (qs_ret q_bl)) qss_nil)))))))))
      (qss_one (qs_ret q_bl))))
theorem b_l_box (T : Txt P K mg cl sp_ a d) : Binds K (d 21) ["_law_script", "_law_k"] [] := T.F_l_box.binds (ps := ["_law_script", "_law_k"]) fun _ _ _ _ _ _ us hl => match us, hl with | [_, _], _ => rfl
theorem ok_l_box (T : Txt P K mg cl sp_ a d) : FnOk P w K mg base CX0 1 (a 21) (d 21) ["_law_script", "_law_k"] (spM ⟨K, cl⟩ f_l_box) :=
  fn_okC 3 2 (k := 0) T.F_l_box sc_l_box fun cdv A outer s H E hr =>
      (qss_cons (qs_set 2 (q_ifE (q_tcmp ltI (q_var 1) (q_callB lenQ (by rfl) T.n_len (by decide +kernel) (q_cons (q_var 0) q_nil))) (q_ix (q_var 0) (q_var 1)) q_int) sc_l_box.nd)
      (qss_one (qs_ret (q_cell (q_cons (q_op mulQ (q_callB absQ (by rfl) T.n_abs (by decide +kernel) (q_cons (q_var 2) q_nil)) (q_callTy intQ (by rfl) T.n_int (by decide +kernel) (q_cons (q_cmp geI (q_callB absQ (by rfl) T.n_abs (by decide +kernel) (q_cons (q_var 2) q_nil)) (q_op powI q_int q_int)) q_nil))) (q_cons (q_op addQ (q_op addQ (q_op modI (q_callTy intQ (by rfl) T.n_int (by decide +kernel) (q_cons (q_var 2) q_nil)) q_int) (q_op mulQ q_int (q_var 1))) q_int) (q_cons q_int q_nil)))))))
theorem b_l_law (T : Txt P K mg cl sp_ a d) : Binds K (d 22) ["_law_script"] [] := T.F_l_law.binds (ps := ["_law_script"]) fun _ _ _ _ _ _ us hl => match us, hl with | [_], _ => rfl
theorem ok_l_law (T : Txt P K mg cl sp_ a d) : FnG P w K mg base CX0 35 (a 22) (d 22) ["_law_script"] (spM ⟨K, cl⟩ f_l_law) :=
  fn_okG 3 1 (k := 34) T.F_l_law sc_l_law fun cdv A outer s H E gd hr =>
      (qss_cons (qs_set 1 (q_call (ok_l_cells T) (hr.mono (by omega)) (by rfl) T.g_l_cells T.F_l_cells.kp (b_l_cells T) (q_cons (q_var 0) (q_cons q_int q_nil)) sp_pure) sc_l_law.nd)
      (qss_one (qs_ret (q_callB allQ (by rfl) T.n_all (by decide +kernel) (q_cons (q_lc [("_law_k", 2)] (qi_range1 (q_callB lenQ (by rfl) T.n_len (by decide +kernel) (q_cons (q_var 1) q_nil)) (by rfl) T.n_range) sc_l_law.nd (blkOk_by (N := N_l_law) (sc := defScope s_l_law) (by decide +kernel)) (fun _ _ _ _ _ => (qg_name 2 sc_l_law.nd)) (fun _ _ _ _ _ => (q_callG gd (ok_l_right T) (hr.mono (by omega)) (by rfl) T.g_l_right T.F_l_right.kp (b_l_right T) (q_cons (q_call (ok_l_box T) (hr.mono (by omega)) (by rfl) T.g_l_box T.F_l_box.kp (b_l_box T) (q_cons (q_var 1) (q_cons (q_var 2) q_nil)) sp_call) q_nil) sp_call))) q_nil)))))
end
def fns : List DefQ := [⟨.glo "_law_cells", "_law_cells", "_law_cells", s_l_cells⟩, ⟨.glo "_law_same", "_law_same", "_law_same", s_l_same⟩, ⟨.glo "is_tuple", "is_tuple", "is_tuple", s_p_is_tuple⟩, ⟨.glo "is_number", "is_number", "is_number", s_p_is_number⟩, ⟨.glo "is_limit", "is_limit", "is_limit", s_p_is_limit⟩, ⟨.glo "ascends", "ascends", "ascends", s_p_ascends⟩, ⟨.glo "is_stretch", "is_stretch", "is_stretch", s_p_is_stretch⟩, ⟨.glo "are_looks", "are_looks", "are_looks", s_p_are_looks⟩, ⟨.glo "is_book", "is_book", "is_book", s_p_is_book⟩, ⟨.glo "_law_by_hand_right", "_law_by_hand_right", "_law_by_hand_right", s_l_by_hand_right⟩, ⟨.glo "_law_take", "_law_take", "_law_take", s_l_take⟩, ⟨.glo "_law_of", "_law_of", "_law_of", s_l_of⟩, ⟨.glo "_law_limit", "_law_limit", "_law_limit", s_l_limit⟩, ⟨.glo "_law_looks", "_law_looks", "_law_looks", s_l_looks⟩, ⟨.glo "_law_book", "_law_book", "_law_book", s_l_book⟩, ⟨.glo "_law_lists", "_law_lists", "_law_lists", s_l_lists⟩, ⟨.glo "_law_bent", "_law_bent", "_law_bent", s_l_bent⟩, ⟨.glo "_law_is_number", "_law_is_number", "_law_is_number", s_l_is_number⟩, ⟨.glo "_law_is_pair", "_law_is_pair", "_law_is_pair", s_l_is_pair⟩, ⟨.glo "_law_is_fine", "_law_is_fine", "_law_is_fine", s_l_is_fine⟩, ⟨.glo "_law_right", "_law_right", "_law_right", s_l_right⟩, ⟨.glo "_law_box", "_law_box", "_law_box", s_l_box⟩, ⟨.glo "law", "law", "law", s_l_law⟩]
def fas : List Qf := [.glo "_law_cells", .glo "_law_same", .glo "is_tuple", .glo "is_number", .glo "is_limit", .glo "ascends", .glo "is_stretch", .glo "are_looks", .glo "is_book", .glo "_law_by_hand_right", .glo "_law_take", .glo "_law_of", .glo "_law_limit", .glo "_law_looks", .glo "_law_book", .glo "_law_lists", .glo "_law_bent", .glo "_law_is_number", .glo "_law_is_pair", .glo "_law_is_fine", .glo "_law_right", .glo "_law_box", .glo "law", .int "PARTS" 3, .free "abs", .free "all", .free "bool", .free "enumerate", .free "int", .free "isinstance", .free "len", .free "list", .free "min", .free "range", .free "repr", .free "set", .free "sorted", .free "str", .free "tuple", .free "zip"]
def loose : List PySem.Str := (["is_number", "is_tuple", "ascends", "is_limit", "is_stretch", "PARTS", "are_looks", "is_book", "_law_box", "_law_take", "_law_cells", "_law_of", "_law_lists", "_law_same", "_law_limit", "_law_looks", "_law_book", "_law_bent", "_law_is_number", "_law_is_pair"] : List PySem.Str) ++ (["_law_is_fine", "_law_by_hand_right", "_law_right"] : List PySem.Str)
abbrev RR : PySem.W.OpenRow := PySem.W.OpenLaw.row PySem.Challenge.rw_quietshare_k10_books_or_none
abbrev hkR : PySem.W.Hook := hookQ 5 fas fns
def obR (s : PySem.W.SharedT) : AlQ := obsQG 5 fas fns (HandSHeadRun.getT s)
theorem obR_eq (s : PySem.W.SharedT) : obR s = hkR.obs s.abs := obsQG_eq (HandSHeadRun.getT_eq s)
theorem runR (w : World) : HandSHeadRun.RunEq RR (PySem.W.view RR.prog [28]) hkR obR 3000 loose w := by
  intro os
  kernel_rfl
theorem factsR {P : Program} {w : World} {K : PySem.W.Frag} {h : Heap} {mg : Str → Option Value} {f : Addr} (X : K.In h) (G : h.Ns PySem.mainGlobals mg) (hfa : mg ("law" : Str) = some (.ref f)) (c : SaysQ fas fns K) :
    ∃ fd : FuncData, (∀ (s : Shared) (v : Value), BindsTo s fd ⟨[v], []⟩ [("_law_script", v)]) ∧ ∀ base : Heap, K.In base → base.Ns PySem.mainGlobals mg → FnG P w K mg base CX0 35 f fd ["_law_script"] (spLaw K) := by
  obtain ⟨fd0, F0⟩ := c.def_ 0 (d := ⟨.glo "_law_cells", "_law_cells", "_law_cells", s_l_cells⟩) rfl
  obtain ⟨fd1, F1⟩ := c.def_ 1 (d := ⟨.glo "_law_same", "_law_same", "_law_same", s_l_same⟩) rfl
  obtain ⟨fd2, F2⟩ := c.def_ 2 (d := ⟨.glo "is_tuple", "is_tuple", "is_tuple", s_p_is_tuple⟩) rfl
  obtain ⟨fd3, F3⟩ := c.def_ 3 (d := ⟨.glo "is_number", "is_number", "is_number", s_p_is_number⟩) rfl
  obtain ⟨fd4, F4⟩ := c.def_ 4 (d := ⟨.glo "is_limit", "is_limit", "is_limit", s_p_is_limit⟩) rfl
  obtain ⟨fd5, F5⟩ := c.def_ 5 (d := ⟨.glo "ascends", "ascends", "ascends", s_p_ascends⟩) rfl
  obtain ⟨fd6, F6⟩ := c.def_ 6 (d := ⟨.glo "is_stretch", "is_stretch", "is_stretch", s_p_is_stretch⟩) rfl
  obtain ⟨fd7, F7⟩ := c.def_ 7 (d := ⟨.glo "are_looks", "are_looks", "are_looks", s_p_are_looks⟩) rfl
  obtain ⟨fd8, F8⟩ := c.def_ 8 (d := ⟨.glo "is_book", "is_book", "is_book", s_p_is_book⟩) rfl
  obtain ⟨fd9, F9⟩ := c.def_ 9 (d := ⟨.glo "_law_by_hand_right", "_law_by_hand_right", "_law_by_hand_right", s_l_by_hand_right⟩) rfl
  obtain ⟨fd10, F10⟩ := c.def_ 10 (d := ⟨.glo "_law_take", "_law_take", "_law_take", s_l_take⟩) rfl
  obtain ⟨fd11, F11⟩ := c.def_ 11 (d := ⟨.glo "_law_of", "_law_of", "_law_of", s_l_of⟩) rfl
  obtain ⟨fd12, F12⟩ := c.def_ 12 (d := ⟨.glo "_law_limit", "_law_limit", "_law_limit", s_l_limit⟩) rfl
  obtain ⟨fd13, F13⟩ := c.def_ 13 (d := ⟨.glo "_law_looks", "_law_looks", "_law_looks", s_l_looks⟩) rfl
  obtain ⟨fd14, F14⟩ := c.def_ 14 (d := ⟨.glo "_law_book", "_law_book", "_law_book", s_l_book⟩) rfl
  obtain ⟨fd15, F15⟩ := c.def_ 15 (d := ⟨.glo "_law_lists", "_law_lists", "_law_lists", s_l_lists⟩) rfl
  obtain ⟨fd16, F16⟩ := c.def_ 16 (d := ⟨.glo "_law_bent", "_law_bent", "_law_bent", s_l_bent⟩) rfl
  obtain ⟨fd17, F17⟩ := c.def_ 17 (d := ⟨.glo "_law_is_number", "_law_is_number", "_law_is_number", s_l_is_number⟩) rfl
  obtain ⟨fd18, F18⟩ := c.def_ 18 (d := ⟨.glo "_law_is_pair", "_law_is_pair", "_law_is_pair", s_l_is_pair⟩) rfl
  obtain ⟨fd19, F19⟩ := c.def_ 19 (d := ⟨.glo "_law_is_fine", "_law_is_fine", "_law_is_fine", s_l_is_fine⟩) rfl
  obtain ⟨fd20, F20⟩ := c.def_ 20 (d := ⟨.glo "_law_right", "_law_right", "_law_right", s_l_right⟩) rfl
  obtain ⟨fd21, F21⟩ := c.def_ 21 (d := ⟨.glo "_law_box", "_law_box", "_law_box", s_l_box⟩) rfl
  obtain ⟨fd22, F22⟩ := c.def_ 22 (d := ⟨.glo "law", "law", "law", s_l_law⟩) rfl
  have e := hfa.symm.trans (qf_glo X G (c.fact 22 (f := .glo "law") rfl))
  cases e
  let aa : Nat → Addr := fun i => match i with | 0 => Dat.ad K (.glo "_law_cells") | 1 => Dat.ad K (.glo "_law_same") | 2 => Dat.ad K (.glo "is_tuple") | 3 => Dat.ad K (.glo "is_number") | 4 => Dat.ad K (.glo "is_limit") | 5 => Dat.ad K (.glo "ascends") | 6 => Dat.ad K (.glo "is_stretch") | 7 => Dat.ad K (.glo "are_looks") | 8 => Dat.ad K (.glo "is_book") | 9 => Dat.ad K (.glo "_law_by_hand_right") | 10 => Dat.ad K (.glo "_law_take") | 11 => Dat.ad K (.glo "_law_of") | 12 => Dat.ad K (.glo "_law_limit") | 13 => Dat.ad K (.glo "_law_looks") | 14 => Dat.ad K (.glo "_law_book") | 15 => Dat.ad K (.glo "_law_lists") | 16 => Dat.ad K (.glo "_law_bent") | 17 => Dat.ad K (.glo "_law_is_number") | 18 => Dat.ad K (.glo "_law_is_pair") | 19 => Dat.ad K (.glo "_law_is_fine") | 20 => Dat.ad K (.glo "_law_right") | 21 => Dat.ad K (.glo "_law_box") | 22 => Dat.ad K (.glo "law") | _ => 0
  let dd : Nat → FuncData := fun i => match i with | 0 => fd0 | 1 => fd1 | 2 => fd2 | 3 => fd3 | 4 => fd4 | 5 => fd5 | 6 => fd6 | 7 => fd7 | 8 => fd8 | 9 => fd9 | 10 => fd10 | 11 => fd11 | 12 => fd12 | 13 => fd13 | 14 => fd14 | 15 => fd15 | 16 => fd16 | 17 => fd17 | 18 => fd18 | 19 => fd19 | 20 => fd20 | 21 => fd21 | 22 => fd22 | _ => fd0
  have T : Txt P K mg (clK K) (fun c f => He.ma K (clK K c) f) aa dd := {
    F_l_cells := F0
    F_l_same := F1
    F_p_is_tuple := F2
    F_p_is_number := F3
    F_p_is_limit := F4
    F_p_ascends := F5
    F_p_is_stretch := F6
    F_p_are_looks := F7
    F_p_is_book := F8
    F_l_by_hand_right := F9
    F_l_take := F10
    F_l_of := F11
    F_l_limit := F12
    F_l_looks := F13
    F_l_book := F14
    F_l_lists := F15
    F_l_bent := F16
    F_l_is_number := F17
    F_l_is_pair := F18
    F_l_is_fine := F19
    F_l_right := F20
    F_l_box := F21
    F_l_law := F22
    g_l_cells := qf_glo X G (c.fact 0 (f := .glo "_law_cells") rfl)
    g_l_same := qf_glo X G (c.fact 1 (f := .glo "_law_same") rfl)
    g_p_is_tuple := qf_glo X G (c.fact 2 (f := .glo "is_tuple") rfl)
    g_p_is_number := qf_glo X G (c.fact 3 (f := .glo "is_number") rfl)
    g_p_is_limit := qf_glo X G (c.fact 4 (f := .glo "is_limit") rfl)
    g_p_ascends := qf_glo X G (c.fact 5 (f := .glo "ascends") rfl)
    g_p_is_stretch := qf_glo X G (c.fact 6 (f := .glo "is_stretch") rfl)
    g_p_are_looks := qf_glo X G (c.fact 7 (f := .glo "are_looks") rfl)
    g_p_is_book := qf_glo X G (c.fact 8 (f := .glo "is_book") rfl)
    g_l_by_hand_right := qf_glo X G (c.fact 9 (f := .glo "_law_by_hand_right") rfl)
    g_l_take := qf_glo X G (c.fact 10 (f := .glo "_law_take") rfl)
    g_l_of := qf_glo X G (c.fact 11 (f := .glo "_law_of") rfl)
    g_l_limit := qf_glo X G (c.fact 12 (f := .glo "_law_limit") rfl)
    g_l_looks := qf_glo X G (c.fact 13 (f := .glo "_law_looks") rfl)
    g_l_book := qf_glo X G (c.fact 14 (f := .glo "_law_book") rfl)
    g_l_lists := qf_glo X G (c.fact 15 (f := .glo "_law_lists") rfl)
    g_l_bent := qf_glo X G (c.fact 16 (f := .glo "_law_bent") rfl)
    g_l_is_number := qf_glo X G (c.fact 17 (f := .glo "_law_is_number") rfl)
    g_l_is_pair := qf_glo X G (c.fact 18 (f := .glo "_law_is_pair") rfl)
    g_l_is_fine := qf_glo X G (c.fact 19 (f := .glo "_law_is_fine") rfl)
    g_l_right := qf_glo X G (c.fact 20 (f := .glo "_law_right") rfl)
    g_l_box := qf_glo X G (c.fact 21 (f := .glo "_law_box") rfl)
    g_l_law := qf_glo X G (c.fact 22 (f := .glo "law") rfl)
    c_PARTS := qf_int X G (c.fact 23 (f := .int "PARTS" 3) rfl)
    n_abs := qf_free X G (c.fact 24 (f := .free "abs") rfl)
    n_all := qf_free X G (c.fact 25 (f := .free "all") rfl)
    n_bool := qf_free X G (c.fact 26 (f := .free "bool") rfl)
    n_enumerate := qf_free X G (c.fact 27 (f := .free "enumerate") rfl)
    n_int := qf_free X G (c.fact 28 (f := .free "int") rfl)
    n_isinstance := qf_free X G (c.fact 29 (f := .free "isinstance") rfl)
    n_len := qf_free X G (c.fact 30 (f := .free "len") rfl)
    n_list := qf_free X G (c.fact 31 (f := .free "list") rfl)
    n_min := qf_free X G (c.fact 32 (f := .free "min") rfl)
    n_range := qf_free X G (c.fact 33 (f := .free "range") rfl)
    n_repr := qf_free X G (c.fact 34 (f := .free "repr") rfl)
    n_set := qf_free X G (c.fact 35 (f := .free "set") rfl)
    n_sorted := qf_free X G (c.fact 36 (f := .free "sorted") rfl)
    n_str := qf_free X G (c.fact 37 (f := .free "str") rfl)
    n_tuple := qf_free X G (c.fact 38 (f := .free "tuple") rfl)
    n_zip := qf_free X G (c.fact 39 (f := .free "zip") rfl)
    }
  exact ⟨fd22, fun s v => bindsA0 F22 (fun _ _ _ _ _ _ => rfl) s, fun base _ _ => law_okG (ok_l_law T) holds⟩
end Lw
open PySem PySem.W PySem.Calls PyProof.Rows
set_option maxRecDepth 100000 in
set_option maxHeartbeats 0 in
theorem PySem.Challenge.cw_quietshare_k10_books_or_none_holds : PySem.Challenge.rw_quietshare_k10_books_or_none.Holds := by
  w_on; o_law
  refine HandSHeadRun.head_any (r := OpenLaw.row PySem.Challenge.rw_quietshare_k10_books_or_none) (q := view (OpenLaw.row PySem.Challenge.rw_quietshare_k10_books_or_none).prog [28]) (H := Lw.hkR) (ob := Lw.obR) (M := 3000) (loose := Lw.loose) (d := HandSHeadRun.topDef (OpenLaw.row PySem.Challenge.rw_quietshare_k10_books_or_none).prog 28) (kwd := []) Lw.obR_eq
    (by kernel_rfl) (fun s => by kernel_rfl) Lw.runR (by kernel_rfl) (by kernel_rfl) (by kernel_rfl) (by rfl) (by first | assumption | decide +kernel) (by decide +kernel) ⟨rfl, rfl, rfl, rfl, rfl, by decide +kernel⟩ ?hw ?hc
  case hw => w_witness2
  case hc =>
    refine Q.walk_ofG (l := PySem.Challenge.rw_quietshare_k10_books_or_none) (k := 35) (x := "_law_script") rfl (by kernel_rfl) ⟨rfl, by decide, by decide⟩ ?F
    intro w mg fa h Y G hmg0
    obtain ⟨K, KX, c⟩ := Y
    have hmg : mg ("law" : PySem.Str) = some (.ref fa) := by
      have e : (HandSHeadRun.topDef (OpenLaw.row PySem.Challenge.rw_quietshare_k10_books_or_none).prog 28).name = ("law" : PySem.Str) := by kernel_rfl
      rw [← e]
      exact hmg0
    obtain ⟨fd, hb, hF⟩ := Lw.factsR (P := (PySem.Challenge.rw_quietshare_k10_books_or_none).prog) (w := w) KX G hmg c
    exact ⟨K, fd, KX, hb, hF⟩
