import PyProof.Rows.All
import Wide.All
import OpenK.AllK
import Wide.FinOn
import HandS.Base
import HandS.Call
import HandS.List
import HandS.Slots
import HandS.Exc
import HandS.TupAny
import HandS.TupMul
import HandS.Wide
import HandS.Flow
import HandS.IsInst
import HandS.Deep
import HandS.Text
import HandS.Words
import HandS.Comp
import HandS.Iter
import HandS.Zip
import HandS.TryOnly
import HandS.Defaults
import HandS.SlotsOwn
import HandS.MakeKwOnly
import HandS.Style
import HandS.Star
import HandS.ClsMeth
import PyProof.InstNe
import HandS.TupSets
import HandS.SortInts
import HandS.SetFor
import HandS.Strs
import HandS.SortKw
import HandS.Dict
import HandS.Walk
import HandS.SortRule
import HandS.Small
import HandS.DictComp
import HandS.TupLen
import HandS.Conv
import PyProof.SetRoads
import HandS.ExcOwn
import HandS.ExcInit
import HandS.WordsExc
import KE.KExcSuper
import KE.KExcIs
import KE.KSuper
import HandS.ExcValue
import KE.KStateDown
import HandS.Head0
import HandS.Head1
import HandS.Head2
import HandS.HeadEnd
import HandS.HeadHook1
import HandS.HeadHook2
import HandS.ForMost
import PySem.Challenge.RW_quietshare_k51_walks_or_not
set_option Elab.async false
set_option linter.all false
set_option maxRecDepth 100000
set_option maxHeartbeats 4000000
namespace Q
open PySem L2
/-- data: what a Python value is worth; exn: an exception that was caught; ref k: the k-th mutable cell -/
inductive D where
  | non | bl (b : Bool) | int (i : Int) | str (x : Str) | tup (xs : List D) | lst (xs : List D) | fro (xs : List D) | obj (c : Nat) (fs : List D) | exn (c : Nat) (fs : List D) | ref (k : Nat)
/-- a mutable cell: a list that may be changed, a list that is changed no more, a dict by ints and texts, one by tuples of such (lk: locked by a walk), an instance with slots that changes -/
inductive Cell where
  | lst (xs : List D) | frz (xs : List D) | dk (lk : Bool) (kvs : List (Key × D)) | dt (lk : Bool) (kvs : List (List Key × D)) | ob (c : Nat) (fs : List (Option D))
def Cell.live : Cell → Bool
  | .lst _ => true
  | .frz _ => false
  | .dk lk _ => !lk
  | .dt lk _ => !lk
  | .ob _ _ => true
abbrev Store := List Cell
abbrev Env := List (Option D)
structure Exn where
  cls : Nat
  fs : List D
inductive Res (β : Type) where
  | ok (a : β) (S : Store) | ex (e : Exn) (S : Store) | no
def Res.bind {β γ : Type} (r : Res β) (f : β → Store → Res γ) : Res γ := match r with
  | .ok a S => f a S
  | .ex e S => .ex e S
  | .no => .no
@[simp] theorem bind_ok {β γ : Type} (a : β) (S : Store) (f : β → Store → Res γ) : (Res.ok a S).bind f = f a S := rfl
@[simp] theorem bind_no {β γ : Type} (f : β → Store → Res γ) : (Res.no : Res β).bind f = .no := rfl
@[simp] theorem bind_ex {β γ : Type} (e : Exn) (S : Store) (f : β → Store → Res γ) : (Res.ex e S : Res β).bind f = .ex e S := rfl
theorem bind_congr {β γ : Type} {r r' : Res β} (f : β → Store → Res γ) (h : r = r') : r.bind f = r'.bind f := by rw [h]
/-- the text's fragment and its classes by number -/
structure Gm where
  K : PySem.W.Frag
  cl : Nat → Addr
/-- an instance with slots, all of them filled, that changes no more -/
def ObAt (G : Hp) (a C : Addr) (vs : List V) : Prop := ∃ dx, G a = some (SlX.SlO a C dx (vs.map some)) ∧ G dx = some (.xd [])
/-- at a: an exception of a class, its dict at d -/
def ExK (cls : Value) (d : Option Addr) (a : Addr) : HO := .ext fun h => ∃ (oe : Obj) (ws : Array Value), h.get? a = some oe ∧ Zc cls d oe ∧ oe.data = .fields ws
/-- what an exception's dict holds: nothing, or one thing by its name -/
def ExF (G : Hp) (d : Option Addr) (vs : List V) : Prop := (vs = [] ∧ d = none) ∨ ∃ (nm : Str) (v : V) (dd : Addr), vs = [.str nm, v] ∧ d = some dd ∧ G dd = some (.xd [(nm, v)])
def ExAt (G : Hp) (a C : Addr) (vs : List V) : Prop := ∃ d, G a = some (ExK (.ref C) d a) ∧ ExF G d vs
theorem ExF.keep {G G' : Hp} (k : ∀ a fs, G a = some (.xd fs) → G' a = some (.xd fs)) {d : Option Addr} {vs : List V} (h : ExF G d vs) : ExF G' d vs := by
  rcases h with h | ⟨nm, v, dd, e1, e2, e3⟩
  · exact .inl h
  · exact .inr ⟨nm, v, dd, e1, e2, k _ _ e3⟩
section
variable (Γ : Gm) (α : List Addr) (G : Hp)
mutual
def Rep : D → V → Prop
  | .non, v => v = .non
  | .bl b, v => v = .bl b
  | .int i, v => v = .int i
  | .str s, v => v = .str s
  | .tup ds, v => ∃ a vs, v = .ref a ∧ G a = some (.tup vs) ∧ RepL ds vs
  | .lst ds, v => ∃ a vs, v = .ref a ∧ G a = some (.lst vs) ∧ RepL ds vs
  | .fro ds, v => ∃ a vs, v = .ref a ∧ SqL Γ.K G a vs ∧ RepL ds vs
  | .obj c fs, v => ∃ a vs, v = .ref a ∧ ObAt G a (Γ.cl c) vs ∧ RepL fs vs
  | .exn c fs, v => ∃ a vs, v = .ref a ∧ ExAt G a (Γ.cl c) vs ∧ RepL fs vs
  | .ref k, v => ∃ a, v = .ref a ∧ α[k]? = some a
def RepL : List D → List V → Prop
  | [], vs => vs = []
  | d :: ds, vs => ∃ v r, vs = v :: r ∧ Rep d v ∧ RepL ds r
end
end
/-- all of G is in H -/
def Sub (G H : Hp) : Prop := ∀ a o, G a = some o → H a = some o
theorem Sub.refl (G : Hp) : Sub G G := fun _ _ h => h
theorem Sub.trans {G H J : Hp} (a : Sub G H) (b : Sub H J) : Sub G J := fun x o h => b x o (a x o h)
theorem Sub.new {H : Hp} {p : Addr} {o : HO} (h : H p = none) : Sub H (upd H p o) := fun a u e => by
  rw [upd_ne (ne_of_none e h)]; exact e
theorem Sub.rd {G H : Hp} (s : Sub G H) {a : Addr} {u : HO} (h : Rd G a u) : Rd H a u := by
  rcases h with h | ⟨o, h⟩
  · exact .inl (s a _ h)
  · exact .inr ⟨o, s a _ h⟩
theorem Sub.sqL {K : PySem.W.Frag} {G H : Hp} (s : Sub G H) {a : Addr} {xs : List V} (h : SqL K G a xs) : SqL K H a xs := by
  rcases h with h | h
  · exact .inl (s.rd h)
  · exact .inr h
theorem Sub.sqT {K : PySem.W.Frag} {G H : Hp} (s : Sub G H) {a : Addr} {xs : List V} (h : SqT K G a xs) : SqT K H a xs := by
  rcases h with h | h
  · exact .inl (s.rd h)
  · exact .inr h
theorem Sub.none {G H : Hp} (s : Sub G H) {a : Addr} (h : H a = none) : G a = none := by
  cases q : G a with
  | none => rfl
  | some o => rw [s a o q] at h; cases h
section
variable {Γ : Gm} {α α' : List Addr} {G G' : Hp}
mutual
theorem Rep.mono (hp : ∃ β, α' = α ++ β) (hs : Sub G G') : ∀ (d : D) (v : V), Rep Γ α G d v → Rep Γ α' G' d v
  | .non, v, h => by simpa [Rep] using h
  | .bl b, v, h => by simpa [Rep] using h
  | .int i, v, h => by simpa [Rep] using h
  | .str s, v, h => by simpa [Rep] using h
  | .tup ds, v, h => by
    unfold Rep at h ⊢
    obtain ⟨a, vs, e, q, r⟩ := h
    exact ⟨a, vs, e, hs _ _ q, RepL.mono hp hs ds vs r⟩
  | .lst ds, v, h => by
    unfold Rep at h ⊢
    obtain ⟨a, vs, e, q, r⟩ := h
    exact ⟨a, vs, e, hs _ _ q, RepL.mono hp hs ds vs r⟩
  | .fro ds, v, h => by
    unfold Rep at h ⊢
    obtain ⟨a, vs, e, q, r⟩ := h
    exact ⟨a, vs, e, hs.sqL q, RepL.mono hp hs ds vs r⟩
  | .obj c fs, v, h => by
    unfold Rep at h ⊢
    obtain ⟨a, vs, e, ⟨dx, h1, h2⟩, r⟩ := h
    exact ⟨a, vs, e, ⟨dx, hs _ _ h1, hs _ _ h2⟩, RepL.mono hp hs fs vs r⟩
  | .exn c fs, v, h => by
    unfold Rep at h ⊢
    obtain ⟨a, vs, e, ⟨d, h1, h2⟩, r⟩ := h
    exact ⟨a, vs, e, ⟨d, hs _ _ h1, h2.keep fun _ _ z => hs _ _ z⟩, RepL.mono hp hs fs vs r⟩
  | .ref k, v, h => by
    unfold Rep at h ⊢
    obtain ⟨a, e, q⟩ := h
    obtain ⟨β, rfl⟩ := hp
    exact ⟨a, e, by rw [List.getElem?_append_left (List.getElem?_eq_some_iff.mp q).1]; exact q⟩
theorem RepL.mono (hp : ∃ β, α' = α ++ β) (hs : Sub G G') : ∀ (ds : List D) (vs : List V), RepL Γ α G ds vs → RepL Γ α' G' ds vs
  | [], vs, h => by simpa [RepL] using h
  | d :: ds, vs, h => by
    unfold RepL at h ⊢
    obtain ⟨v, r, e, h1, h2⟩ := h
    exact ⟨v, r, e, Rep.mono hp hs d v h1, RepL.mono hp hs ds r h2⟩
end
theorem RepL.length : ∀ {ds : List D} {vs : List V}, RepL Γ α G ds vs → ds.length = vs.length
  | [], vs, h => by unfold RepL at h; subst h; rfl
  | d :: ds, vs, h => by
    unfold RepL at h
    obtain ⟨v, r, rfl, _, h2⟩ := h
    simp [RepL.length h2]
theorem RepL.get : ∀ {ds : List D} {vs : List V} {i : Nat} {d : D}, RepL Γ α G ds vs → ds[i]? = some d → ∃ v, vs[i]? = some v ∧ Rep Γ α G d v
  | [], _, _, _, _, h => by simp at h
  | d :: ds, vs, 0, e, r, h => by
    unfold RepL at r
    obtain ⟨v, w, rfl, h1, _⟩ := r
    simp at h
    subst h
    exact ⟨v, rfl, h1⟩
  | d :: ds, vs, i + 1, e, r, h => by
    unfold RepL at r
    obtain ⟨v, w, rfl, _, h2⟩ := r
    simpa using RepL.get h2 (by simpa using h)
theorem RepL.append : ∀ {ds es : List D} {vs ws : List V}, RepL Γ α G ds vs → RepL Γ α G es ws → RepL Γ α G (ds ++ es) (vs ++ ws)
  | [], es, vs, ws, h, h' => by
    unfold RepL at h; subst h; exact h'
  | d :: ds, es, vs, ws, h, h' => by
    unfold RepL at h
    obtain ⟨v, r, rfl, h1, h2⟩ := h
    show RepL Γ α G (d :: (ds ++ es)) (v :: (r ++ ws))
    unfold RepL
    exact ⟨v, _, rfl, h1, RepL.append h2 h'⟩
theorem RepL.set : ∀ {ds : List D} {vs : List V} (i : Nat) {d : D} {v : V}, RepL Γ α G ds vs → Rep Γ α G d v → RepL Γ α G (ds.set i d) (vs.set i v)
  | [], vs, i, d, v, h, _ => by unfold RepL at h; subst h; simp [RepL]
  | e :: ds, vs, 0, d, v, h, hv => by
    unfold RepL at h
    obtain ⟨w, r, rfl, h1, h2⟩ := h
    show RepL Γ α G (d :: ds) (v :: r)
    unfold RepL
    exact ⟨v, r, rfl, hv, h2⟩
  | e :: ds, vs, i + 1, d, v, h, hv => by
    unfold RepL at h
    obtain ⟨w, r, rfl, h1, h2⟩ := h
    show RepL Γ α G (e :: ds.set i d) (w :: r.set i v)
    unfold RepL
    exact ⟨w, _, rfl, h1, RepL.set i h2 hv⟩
theorem RepL.take : ∀ {ds : List D} {vs : List V} (n : Nat), RepL Γ α G ds vs → RepL Γ α G (ds.take n) (vs.take n)
  | ds, vs, 0, h => by simp [RepL]
  | [], vs, n + 1, h => by unfold RepL at h; subst h; simp [RepL]
  | d :: ds, vs, n + 1, h => by
    unfold RepL at h
    obtain ⟨w, r, rfl, h1, h2⟩ := h
    show RepL Γ α G (d :: ds.take n) (w :: r.take n)
    unfold RepL
    exact ⟨w, _, rfl, h1, RepL.take n h2⟩
theorem RepL.drop : ∀ {ds : List D} {vs : List V} (n : Nat), RepL Γ α G ds vs → RepL Γ α G (ds.drop n) (vs.drop n)
  | ds, vs, 0, h => h
  | [], vs, n + 1, h => by unfold RepL at h; subst h; simp [RepL]
  | d :: ds, vs, n + 1, h => by
    unfold RepL at h
    obtain ⟨w, r, rfl, h1, h2⟩ := h
    exact RepL.drop n h2
end
/-- a dict's entries -/
def RepKV (Γ : Gm) (α : List Addr) (G : Hp) {κ : Type} : List (κ × D) → List (κ × V) → Prop
  | [], ws => ws = []
  | kd :: r, ws => ∃ v t, ws = (kd.1, v) :: t ∧ Rep Γ α G kd.2 v ∧ RepKV Γ α G r t
/-- the slots that are known -/
def RepO (Γ : Gm) (α : List Addr) (G : Hp) (fs : List (Option D)) (vs : List (Option V)) : Prop := ∀ (i : Nat) (d : D), fs[i]? = some (some d) → ∃ v, vs[i]? = some (some v) ∧ Rep Γ α G d v
/-- what stands there for a cell -/
def RepC (Γ : Gm) (α : List Addr) (G : Hp) (a : Addr) : Cell → HO → Prop
  | .lst ds, o => ∃ vs, o = .lst vs ∧ RepL Γ α G ds vs
  | .frz ds, o => ∃ vs, o = .lst vs ∧ RepL Γ α G ds vs
  | .dk lk kvs, o => ∃ ws, RepKV Γ α G kvs ws ∧ ((lk = false ∧ o = .dK ws) ∨ (lk = true ∧ ∃ od, o = .frz od (.dK ws)))
  | .dt lk kvs, o => ∃ ws, RepKV Γ α G kvs ws ∧ ((lk = false ∧ o = .dT ws) ∨ (lk = true ∧ ∃ od, o = .frz od (.dT ws)))
  | .ob c fs, o => ∃ dx vs, o = SlX.SlO a (Γ.cl c) dx vs ∧ G dx = some (.xd []) ∧ RepO Γ α G fs vs
/-- a cell lies at a -/
def CellOk (Γ : Gm) (α : List Addr) (G H : Hp) (a : Addr) (c : Cell) : Prop := ∃ o, RepC Γ α G a c o ∧ ((c.live = true ∧ H a = some o ∧ G a = none) ∨ (c.live = false ∧ G a = some o))
section
variable {Γ : Gm} {α α' : List Addr} {G G' H H' : Hp} {a : Addr}
theorem RepKV.mono {κ : Type} (hp : ∃ β, α' = α ++ β) (hs : Sub G G') : ∀ {kvs : List (κ × D)} {ws : List (κ × V)}, RepKV Γ α G kvs ws → RepKV Γ α' G' kvs ws
  | [], ws, h => by simpa [RepKV] using h
  | (k, d) :: r, ws, h => by
    unfold RepKV at h ⊢
    obtain ⟨v, t, e, h1, h2⟩ := h
    exact ⟨v, t, e, Rep.mono hp hs _ _ h1, RepKV.mono hp hs h2⟩
theorem RepO.mono (hp : ∃ β, α' = α ++ β) (hs : Sub G G') {fs : List (Option D)} {vs : List (Option V)} (h : RepO Γ α G fs vs) : RepO Γ α' G' fs vs := fun i d hd => by
  obtain ⟨v, e, r⟩ := h i d hd
  exact ⟨v, e, Rep.mono hp hs _ _ r⟩
theorem RepC.mono (hp : ∃ β, α' = α ++ β) (hs : Sub G G') {c : Cell} {o : HO} (h : RepC Γ α G a c o) : RepC Γ α' G' a c o := by
  cases c with
  | lst ds => obtain ⟨vs, e, r⟩ := h; exact ⟨vs, e, RepL.mono hp hs _ _ r⟩
  | frz ds => obtain ⟨vs, e, r⟩ := h; exact ⟨vs, e, RepL.mono hp hs _ _ r⟩
  | dk lk kvs => obtain ⟨ws, r, e⟩ := h; exact ⟨ws, r.mono hp hs, e⟩
  | dt lk kvs => obtain ⟨ws, r, e⟩ := h; exact ⟨ws, r.mono hp hs, e⟩
  | ob c fs => obtain ⟨dx, vs, e, hx, r⟩ := h; exact ⟨dx, vs, e, hs _ _ hx, r.mono hp hs⟩
theorem RepC.ntup {c : Cell} {o : HO} (h : RepC Γ α G a c o) : ∀ xs, o ≠ .tup xs := by
  intro xs z
  cases c with
  | lst ds => obtain ⟨vs, e, r⟩ := h; rw [e] at z; cases z
  | frz ds => obtain ⟨vs, e, r⟩ := h; rw [e] at z; cases z
  | dk lk kvs =>
    obtain ⟨ws, r, e⟩ := h
    rcases e with ⟨_, e⟩ | ⟨_, od, e⟩ <;> (rw [e] at z; cases z)
  | dt lk kvs =>
    obtain ⟨ws, r, e⟩ := h
    rcases e with ⟨_, e⟩ | ⟨_, od, e⟩ <;> (rw [e] at z; cases z)
  | ob c fs => obtain ⟨dx, vs, e, hx, r⟩ := h; rw [e] at z; unfold SlX.SlO at z; cases z
theorem CellOk.mono {c : Cell} (h : CellOk Γ α G H a c) (hp : ∃ β, α' = α ++ β) (hs : Sub G G') (hl : c.live = true → H' a = H a ∧ (G a = none → G' a = none)) : CellOk Γ α' G' H' a c := by
  obtain ⟨o, r, h⟩ := h
  refine ⟨o, r.mono hp hs, ?_⟩
  rcases h with ⟨l, h1, h2⟩ | ⟨l, h1⟩
  · exact .inl ⟨l, by rw [(hl l).1]; exact h1, (hl l).2 h2⟩
  · exact .inr ⟨l, hs _ _ h1⟩
theorem CellOk.ntup {c : Cell} (h : CellOk Γ α G H a c) (hs : Sub G H) : ∀ xs, H a ≠ some (.tup xs) := by
  intro xs z
  obtain ⟨o, r, h⟩ := h
  rcases h with ⟨_, h1, _⟩ | ⟨_, h1⟩
  · rw [h1] at z; exact r.ntup xs (Option.some.inj z)
  · rw [hs _ _ h1] at z; exact r.ntup xs (Option.some.inj z)
theorem CellOk.lst {ds : List D} (h : CellOk Γ α G H a (.lst ds)) : ∃ vs, H a = some (.lst vs) ∧ RepL Γ α G ds vs ∧ G a = none := by
  obtain ⟨o, ⟨vs, e, r⟩, h⟩ := h
  subst e
  rcases h with ⟨_, h1, h2⟩ | ⟨l, _⟩
  · exact ⟨vs, h1, r, h2⟩
  · cases l
theorem CellOk.frz {ds : List D} (h : CellOk Γ α G H a (.frz ds)) : ∃ vs, G a = some (.lst vs) ∧ RepL Γ α G ds vs := by
  obtain ⟨o, ⟨vs, e, r⟩, h⟩ := h
  subst e
  rcases h with ⟨l, _⟩ | ⟨_, h1⟩
  · cases l
  · exact ⟨vs, h1, r⟩
theorem CellOk.mkL {ds : List D} {vs : List V} (h1 : H a = some (.lst vs)) (r : RepL Γ α G ds vs) (h2 : G a = none) : CellOk Γ α G H a (.lst ds) := ⟨_, ⟨vs, rfl, r⟩, .inl ⟨rfl, h1, h2⟩⟩
theorem CellOk.mkF {ds : List D} {vs : List V} (h1 : G a = some (.lst vs)) (r : RepL Γ α G ds vs) : CellOk Γ α G H a (.frz ds) := ⟨_, ⟨vs, rfl, r⟩, .inr ⟨rfl, h1⟩⟩
end
/-- the state: the cells S lie at α, the data that change no more in G, both in H -/
structure Rl (Γ : Gm) (α : List Addr) (G : Hp) (S : Store) (H : Hp) : Prop where
  sub : Sub G H
  len : α.length = S.length
  nd : α.Nodup
  tr : ∀ a ∈ α, H a ≠ none
  ok : ∀ (k : Nat) (c : Cell) (a : Addr), S[k]? = some c → α[k]? = some a → CellOk Γ α G H a c
/-- from one state to a later one -/
structure Ext (α : List Addr) (G H : Hp) (α' : List Addr) (G' H' : Hp) : Prop where
  pre : ∃ β, α' = α ++ β
  sub : Sub G G'
  fr : ∀ a o, H a = some o → a ∉ α → H' a = some o
  na : ∀ a ∈ α', a ∈ α ∨ H a = none
  ng : ∀ a, G' a ≠ none → G a ≠ none ∨ a ∈ α ∨ H a = none ∨ ∃ xs, H a = some (.tup xs)
theorem Ext.refl (α : List Addr) (G H : Hp) : Ext α G H α G H := ⟨⟨[], by simp⟩, Sub.refl G, fun _ _ h _ => h, fun _ h => .inl h, fun _ h => .inl h⟩
theorem Ext.back {α α' : List Addr} {G H G' H' : Hp} (e : Ext α G H α' G' H') {a : Addr} (h : H' a = none) : a ∈ α ∨ H a = none := by
  by_cases m : a ∈ α
  · exact .inl m
  · cases q : H a with
    | none => exact .inr rfl
    | some o => rw [e.fr a o q m] at h; cases h
theorem Ext.mem {α α' : List Addr} {G H G' H' : Hp} (e : Ext α G H α' G' H') {a : Addr} (h : a ∈ α) : a ∈ α' := by
  obtain ⟨β, rfl⟩ := e.pre
  exact List.mem_append_left _ h
theorem Ext.trans {α α1 α2 : List Addr} {G H G1 H1 G2 H2 : Hp} (a : Ext α G H α1 G1 H1) (b : Ext α1 G1 H1 α2 G2 H2) : Ext α G H α2 G2 H2 := by
  refine ⟨?_, a.sub.trans b.sub, fun x o h m => ?_, fun x m => ?_, fun x h => ?_⟩
  · obtain ⟨β, rfl⟩ := a.pre
    obtain ⟨γ, rfl⟩ := b.pre
    exact ⟨β ++ γ, by simp⟩
  · refine b.fr x o (a.fr x o h m) fun m1 => ?_
    rcases a.na x m1 with z | z
    · exact m z
    · rw [z] at h; cases h
  · rcases b.na x m with z | z
    · exact a.na x z
    · exact a.back z
  · rcases b.ng x h with z | z | z | ⟨xs, z⟩
    · exact a.ng x z
    · rcases a.na x z with z | z
      · exact .inr (.inl z)
      · exact .inr (.inr (.inl z))
    · rcases a.back z with z | z
      · exact .inr (.inl z)
      · exact .inr (.inr (.inl z))
    · by_cases m : x ∈ α
      · exact .inr (.inl m)
      · cases q : H x with
        | none => exact .inr (.inr (.inl rfl))
        | some o =>
          have q2 := a.fr x o q m
          rw [z] at q2
          cases q2
          exact .inr (.inr (.inr ⟨xs, rfl⟩))
/-- how an exception in flight lies: its class, its dict -/
def ExR (Γ : Gm) (α : List Addr) (G : Hp) (e : Exn) (c : Value) (x : Option Addr) (H : Hp) : Prop := c = .ref (Γ.cl e.cls) ∧ ∃ vs, RepL Γ α G e.fs vs ∧ ExF G x vs
section
variable (Γ : Gm)
/-- what is wanted, by the result of the function of data -/
def Post {β γ : Type} (R : List Addr → Hp → β → γ → Prop) (α : List Addr) (G H : Hp) (r : Res β) (Q : γ → Hp → Prop) (E : XK) : Prop := match r with
  | .ok d S' => ∀ α' G' H' v, Ext α G H α' G' H' → Rl Γ α' G' S' H' → R α' G' d v → Q v H'
  | .ex e S' => ∀ α' G' H' c x, Ext α G H α' G' H' → Rl Γ α' G' S' H' → ExR Γ α' G' e c x H' → E c x H'
  | .no => False
end
section
variable {Γ : Gm} {β γ δ ε : Type} {R : List Addr → Hp → β → γ → Prop} {R' : List Addr → Hp → δ → ε → Prop} {α α1 : List Addr} {G H G1 H1 : Hp} {Q : γ → Hp → Prop} {Q' : ε → Hp → Prop} {E : XK}
theorem Post.mono {r : Res β} (h : Post Γ R α G H r Q E) (e : Ext α G H α1 G1 H1) : Post Γ R α1 G1 H1 r Q E := by
  cases r with
  | ok d S' => exact fun α' G' H' v x rl rp => h α' G' H' v (e.trans x) rl rp
  | ex d S' => exact fun α' G' H' c x y rl rp => h α' G' H' c x (e.trans y) rl rp
  | no => exact h
theorem post_bind {r : Res β} {f : β → Store → Res δ} (h : Post Γ R' α G H (r.bind f) Q' E)
    (k : ∀ a S1 α1 G1 H1 x, r = .ok a S1 → Ext α G H α1 G1 H1 → Rl Γ α1 G1 S1 H1 → R α1 G1 a x → Post Γ R' α1 G1 H1 (f a S1) Q' E → Q x H1) : Post Γ R α G H r Q E := by
  cases r with
  | ok d S' =>
    intro α' G' H' v e rl rp
    exact k d S' α' G' H' v rfl e rl rp (Post.mono h e)
  | ex e S' => exact h
  | no => exact h
theorem post_ok {a : β} {S : Store} {x : γ} (h : Post Γ R α G H (.ok a S) Q E) (rl : Rl Γ α G S H) (rp : R α G a x) : Q x H := h α G H x (Ext.refl α G H) rl rp
end
def EnvR (Γ : Gm) (α : List Addr) (G : Hp) (ρ : Env) (σ : L2.St) : Prop := ρ.length = σ.length ∧ ∀ (i : Nat) d, ρ[i]? = some (some d) → ∃ v, σ[i]? = some (some v) ∧ Rep Γ α G d v
theorem EnvR.mono {Γ : Gm} {α α' : List Addr} {G H G' H' : Hp} {ρ : Env} {σ : L2.St} (h : EnvR Γ α G ρ σ) (e : Ext α G H α' G' H') : EnvR Γ α' G' ρ σ :=
  ⟨h.1, fun i d hi => let ⟨v, a, b⟩ := h.2 i d hi; ⟨v, a, Rep.mono e.pre e.sub _ _ b⟩⟩
theorem EnvR.set {Γ : Gm} {α : List Addr} {G : Hp} {ρ : Env} {σ : L2.St} (h : EnvR Γ α G ρ σ) (i : Nat) {d : D} {v : V} (r : Rep Γ α G d v) : EnvR Γ α G (ρ.set i (some d)) (σ.set i (some v)) := by
  refine ⟨by simp [h.1], fun j e hj => ?_⟩
  by_cases hij : i = j
  · subst hij
    have hl : i < ρ.length := by
      have := (List.getElem?_eq_some_iff.mp hj).1
      simpa using this
    rw [List.getElem?_set_self hl] at hj
    cases hj
    exact ⟨v, List.getElem?_set_self (by rw [← h.1]; exact hl), r⟩
  · rw [List.getElem?_set_ne hij] at hj
    obtain ⟨w, h1, h2⟩ := h.2 j e hj
    exact ⟨w, by rw [List.getElem?_set_ne hij]; exact h1, h2⟩
abbrev ME := Env → Store → Res D
abbrev MT := Env → Store → Res Bool
abbrev MA := Env → Store → Res (List D)
inductive Fl where
  | nx (ρ : Env) | rt (d : D) | bk (ρ : Env) | ct (ρ : Env)
abbrev MS := Env → Store → Res Fl
def RB : List Addr → Hp → Bool → Bool → Prop := fun _ _ a b => a = b
section
variable (Γ : Gm) (E : XK)
def SndE (t : TE) (m : ME) : Prop := ∀ (ρ : Env) (S : Store) (σ : L2.St) (α : List Addr) (G H : Hp) (Q : VK), EnvR Γ α G ρ σ → Rl Γ α G S H → Post Γ (Rep Γ) α G H (m ρ S) Q E → t σ H Q
def SndT (t : TT) (m : MT) : Prop := ∀ (ρ : Env) (S : Store) (σ : L2.St) (α : List Addr) (G H : Hp) (Q : Bool → Hp → Prop), EnvR Γ α G ρ σ → Rl Γ α G S H → Post Γ RB α G H (m ρ S) Q E → t σ H Q
def SndA (t : TA) (m : MA) : Prop := ∀ (ρ : Env) (S : Store) (σ : L2.St) (α : List Addr) (G H : Hp) (Q : List V → Hp → Prop), EnvR Γ α G ρ σ → Rl Γ α G S H → Post Γ (RepL Γ) α G H (m ρ S) Q E → t σ H Q
def PostS (α : List Addr) (G H : Hp) (r : Res Fl) (Dn : Ends) : Prop := match r with
  | .ok (.nx ρ) S' => ∀ α' G' H' σ', Ext α G H α' G' H' → Rl Γ α' G' S' H' → EnvR Γ α' G' ρ σ' → Dn.nx σ' H'
  | .ok (.rt d) S' => ∀ α' G' H' v, Ext α G H α' G' H' → Rl Γ α' G' S' H' → Rep Γ α' G' d v → Dn.rt v H'
  | .ok (.bk ρ) S' => ∀ α' G' H' σ', Ext α G H α' G' H' → Rl Γ α' G' S' H' → EnvR Γ α' G' ρ σ' → Dn.bk σ' H'
  | .ok (.ct ρ) S' => ∀ α' G' H' σ', Ext α G H α' G' H' → Rl Γ α' G' S' H' → EnvR Γ α' G' ρ σ' → Dn.ct σ' H'
  | .ex e S' => ∀ α' G' H' c x, Ext α G H α' G' H' → Rl Γ α' G' S' H' → ExR Γ α' G' e c x H' → E c x H'
  | .no => False
def SndS (t : TS) (m : MS) : Prop := ∀ (ρ : Env) (S : Store) (σ : L2.St) (α : List Addr) (G H : Hp) (Dn : Ends), EnvR Γ α G ρ σ → Rl Γ α G S H → PostS Γ E α G H (m ρ S) Dn → t Dn σ H
end
theorem PostS.mono {Γ : Gm} {E : XK} {α α1 : List Addr} {G H G1 H1 : Hp} {r : Res Fl} {Dn : Ends} (h : PostS Γ E α G H r Dn) (e : Ext α G H α1 G1 H1) : PostS Γ E α1 G1 H1 r Dn := by
  cases r with
  | ok f S' => cases f <;> exact fun α' G' H' v x rl rp => h α' G' H' v (e.trans x) rl rp
  | ex d S' => exact fun α' G' H' c x y rl rp => h α' G' H' c x (e.trans y) rl rp
  | no => exact h
/-- behind an expression within a statement -/
theorem posts_bind {Γ : Gm} {E : XK} {β γ : Type} {R : List Addr → Hp → β → γ → Prop} {α : List Addr} {G H : Hp} {r : Res β} {f : β → Store → Res Fl} {Dn : Ends} {Q : γ → Hp → Prop} (h : PostS Γ E α G H (r.bind f) Dn)
    (k : ∀ a S1 α1 G1 H1 x, r = .ok a S1 → Ext α G H α1 G1 H1 → Rl Γ α1 G1 S1 H1 → R α1 G1 a x → PostS Γ E α1 G1 H1 (f a S1) Dn → Q x H1) : Post Γ R α G H r Q E := by
  cases r with
  | ok d S' =>
    intro α' G' H' v e rl rp
    exact k d S' α' G' H' v rfl e rl rp (PostS.mono h e)
  | ex e S' => exact h
  | no => exact h
structure QE (X : Cx) (cl : Nat → Addr) (E : XK) (e : Expr) (m : ME) : Prop where
  ex : ∃ t, PE X e t ∧ SndE ⟨X.K, cl⟩ E t m
structure QT (X : Cx) (cl : Nat → Addr) (E : XK) (e : Expr) (m : MT) : Prop where
  ex : ∃ t, PT X e t ∧ SndT ⟨X.K, cl⟩ E t m
structure QW (X : Cx) (cl : Nat → Addr) (E : XK) (e : Expr) (m : MT) : Prop where
  ex : ∃ t, PW X e t ∧ SndT ⟨X.K, cl⟩ E t m
structure QA (X : Cx) (cl : Nat → Addr) (E : XK) (es : List Expr) (m : MA) : Prop where
  ex : ∃ t, PA X es t ∧ SndA ⟨X.K, cl⟩ E t m
structure QS (X : Cx) (cl : Nat → Addr) (E : XK) (st : Stmt) (m : MS) : Prop where
  ex : ∃ t, PS X st t ∧ SndS ⟨X.K, cl⟩ E t m
structure QSs (X : Cx) (cl : Nat → Addr) (E : XK) (st : List Stmt) (m : MS) : Prop where
  ex : ∃ t, PSs X st t ∧ SndS ⟨X.K, cl⟩ E t m
end Q
namespace Q
open PySem L2
theorem sub_upd {G : Hp} {p : Addr} {o : HO} (h : G p = none) : Sub G (upd G p o) := Sub.new h
theorem Sub.upd2 {G H : Hp} (s : Sub G H) (p : Addr) (o : HO) : Sub (upd G p o) (upd H p o) := fun a u e => by
  by_cases h : a = p
  · subst h; rw [upd_same] at e ⊢; exact e
  · rw [upd_ne h] at e ⊢; exact s a u e
section
variable {Γ : Gm} {α : List Addr} {G H : Hp} {S : Store}
theorem Rl.ntup (R : Rl Γ α G S H) {a : Addr} (h : a ∈ α) : ∀ xs, H a ≠ some (.tup xs) := by
  obtain ⟨k, hk⟩ := List.mem_iff_getElem?.mp h
  have hl : k < S.length := by rw [← R.len]; exact (List.getElem?_eq_some_iff.mp hk).1
  exact (R.ok k S[k] a (List.getElem?_eq_getElem hl) hk).ntup R.sub
theorem Rl.gnone (R : Rl Γ α G S H) {p : Addr} (h : H p = none) : G p = none := R.sub.none h
theorem Rl.get (R : Rl Γ α G S H) {k : Nat} {c : Cell} (h : S[k]? = some c) : ∃ a, α[k]? = some a ∧ a ∈ α ∧ CellOk Γ α G H a c := by
  have hl : k < α.length := by rw [R.len]; exact (List.getElem?_eq_some_iff.mp h).1
  exact ⟨α[k], List.getElem?_eq_getElem hl, List.getElem_mem hl, R.ok k c _ h (List.getElem?_eq_getElem hl)⟩
/-- a new object that will change no more -/
theorem Rl.new (R : Rl Γ α G S H) {p : Addr} (hp : H p = none) (o : HO) : Rl Γ α (upd G p o) S (upd H p o) ∧ Ext α G H α (upd G p o) (upd H p o) := by
  have ne : ∀ a ∈ α, a ≠ p := fun a m e => by subst e; exact R.tr a m hp
  have sg : Sub G (upd G p o) := Sub.new (R.gnone hp)
  refine ⟨⟨R.sub.upd2 p o, R.len, R.nd, fun a m => by rw [upd_ne (ne a m)]; exact R.tr a m, fun k c a hc ha => ?_⟩, ⟨⟨[], by simp⟩, sg, fun a u e _ => ?_, fun a m => .inl m, fun a h => ?_⟩⟩
  · have hm : a ∈ α := List.mem_of_getElem? ha
    exact (R.ok k c a hc ha).mono ⟨[], by simp⟩ sg fun _ => ⟨upd_ne (ne a hm), fun h3 => by rw [upd_ne (ne a hm)]; exact h3⟩
  · rw [upd_ne (ne_of_none e hp)]; exact e
  · by_cases e : a = p
    · subst e; exact .inr (.inr (.inl hp))
    · rw [upd_ne e] at h; exact .inl h
/-- a new object that no data know of (a tuple that holds classes, ..) -/
theorem Rl.out (R : Rl Γ α G S H) {p : Addr} (hp : H p = none) (o : HO) : Rl Γ α G S (upd H p o) ∧ Ext α G H α G (upd H p o) := by
  have ne : ∀ a ∈ α, a ≠ p := fun a m e => by subst e; exact R.tr a m hp
  refine ⟨⟨R.sub.trans (Sub.new hp), R.len, R.nd, fun a m => by rw [upd_ne (ne a m)]; exact R.tr a m, fun k c a hc ha => ?_⟩, ⟨⟨[], by simp⟩, Sub.refl G, fun a u e _ => ?_, fun a m => .inl m, fun a h => .inl h⟩⟩
  · have hm : a ∈ α := List.mem_of_getElem? ha
    exact (R.ok k c a hc ha).mono ⟨[], by simp⟩ (Sub.refl G) fun _ => ⟨upd_ne (ne a hm), fun h3 => h3⟩
  · rw [upd_ne (ne_of_none e hp)]; exact e
/-- a new cell -/
theorem Rl.cellC (R : Rl Γ α G S H) {p : Addr} (hp : H p = none) {c0 : Cell} {o0 : HO} (hl : c0.live = true) (r : RepC Γ α G p c0 o0) :
    Rl Γ (α ++ [p]) G (S ++ [c0]) (upd H p o0) ∧ Ext α G H (α ++ [p]) G (upd H p o0) ∧ Rep Γ (α ++ [p]) G (.ref S.length) (.ref p) := by
  have ne : ∀ a ∈ α, a ≠ p := fun a m e => by subst e; exact R.tr a m hp
  refine ⟨⟨R.sub.trans (Sub.new hp), by simp [R.len], ?_, fun a m => ?_, fun k c a hc ha => ?_⟩, ⟨⟨[p], rfl⟩, Sub.refl G, fun a u e _ => by rw [upd_ne (ne_of_none e hp)]; exact e, fun a m => ?_, fun a h => .inl h⟩, ?_⟩
  · rw [List.nodup_append]
    exact ⟨R.nd, by simp, fun a m b mb => by simp at mb; subst mb; exact ne a m⟩
  · by_cases e : a = p
    · subst e; rw [upd_same]; simp
    · rw [upd_ne e]
      rcases List.mem_append.mp m with m | m
      · exact R.tr a m
      · simp at m; exact absurd m e
  · by_cases hk : k < α.length
    · rw [List.getElem?_append_left hk] at ha
      rw [List.getElem?_append_left (by rw [← R.len]; exact hk)] at hc
      have hm : a ∈ α := List.mem_of_getElem? ha
      exact (R.ok k c a hc ha).mono ⟨[p], rfl⟩ (Sub.refl G) fun _ => ⟨upd_ne (ne a hm), fun h3 => h3⟩
    · rw [List.getElem?_append_right (by omega)] at ha
      rw [List.getElem?_append_right (by rw [← R.len]; omega)] at hc
      have e1 : k - α.length = 0 := by
        have := (List.getElem?_eq_some_iff.mp ha).1
        simp at this
        omega
      have e2 : k - S.length = 0 := by rw [← R.len]; exact e1
      rw [e1] at ha
      rw [e2] at hc
      simp at ha hc
      subst ha
      subst hc
      exact ⟨o0, r.mono ⟨[_], rfl⟩ (Sub.refl G), .inl ⟨hl, upd_same, R.gnone hp⟩⟩
  · rcases List.mem_append.mp m with m | m
    · exact .inl m
    · simp at m; subst m; exact .inr hp
  · unfold Rep
    exact ⟨p, rfl, by rw [← R.len]; simp⟩
theorem Rl.cell (R : Rl Γ α G S H) {p : Addr} (hp : H p = none) {ds : List D} {vs : List V} (r : RepL Γ α G ds vs) :
    Rl Γ (α ++ [p]) G (S ++ [.lst ds]) (upd H p (.lst vs)) ∧ Ext α G H (α ++ [p]) G (upd H p (.lst vs)) ∧ Rep Γ (α ++ [p]) G (.ref S.length) (.ref p) := R.cellC hp rfl ⟨vs, rfl, r⟩
/-- a cell is changed -/
theorem Rl.putC (R : Rl Γ α G S H) {k : Nat} {a : Addr} {c0 c1 : Cell} {o1 : HO} (hk : S[k]? = some c0) (ha : α[k]? = some a) (hl : c0.live = true) (hl1 : c1.live = true) (r : RepC Γ α G a c1 o1) :
    Rl Γ α G (S.set k c1) (upd H a o1) ∧ Ext α G H α G (upd H a o1) := by
  have hm : a ∈ α := List.mem_of_getElem? ha
  have a3 : G a = none := by
    obtain ⟨o, _, h⟩ := R.ok k _ a hk ha
    rcases h with ⟨_, _, h⟩ | ⟨l, _⟩
    · exact h
    · rw [hl] at l; cases l
  refine ⟨⟨fun b o e => ?_, by simp [R.len], R.nd, fun b m => ?_, fun j c b hc hb => ?_⟩, ⟨⟨[], by simp⟩, Sub.refl G, fun b u e nb => ?_, fun b m => .inl m, fun b h => .inl h⟩⟩
  · have hb : b ≠ a := fun z => by subst z; rw [a3] at e; cases e
    rw [upd_ne hb]
    exact R.sub b o e
  · by_cases e : b = a
    · subst e; rw [upd_same]; simp
    · rw [upd_ne e]; exact R.tr b m
  · by_cases hjk : k = j
    · subst hjk
      rw [List.getElem?_set_self (List.getElem?_eq_some_iff.mp hk).1] at hc
      rw [ha] at hb
      cases hb
      cases hc
      exact ⟨o1, r, .inl ⟨hl1, upd_same, a3⟩⟩
    · rw [List.getElem?_set_ne hjk] at hc
      have hb' : b ≠ a := fun z => by
        subst z
        obtain ⟨h1, e1⟩ := List.getElem?_eq_some_iff.mp ha
        obtain ⟨h2, e2⟩ := List.getElem?_eq_some_iff.mp hb
        exact hjk ((List.getElem_inj R.nd).mp (e1.trans e2.symm))
      exact (R.ok j c b hc hb).mono ⟨[], by simp⟩ (Sub.refl G) fun _ => ⟨upd_ne hb', fun h3 => h3⟩
  · have hb : b ≠ a := fun z => by subst z; exact nb hm
    rw [upd_ne hb]
    exact e
theorem Rl.put (R : Rl Γ α G S H) {k : Nat} {a : Addr} {ds es : List D} {ws : List V} (hk : S[k]? = some (.lst ds)) (ha : α[k]? = some a) (r : RepL Γ α G es ws) :
    Rl Γ α G (S.set k (.lst es)) (upd H a (.lst ws)) ∧ Ext α G H α G (upd H a (.lst ws)) := R.putC hk ha rfl rfl ⟨ws, rfl, r⟩
/-- a cell changes no more -/
theorem Rl.freeze (R : Rl Γ α G S H) {k : Nat} {a : Addr} {ds : List D} (hk : S[k]? = some (.lst ds)) (ha : α[k]? = some a) :
    ∃ vs, RepL Γ α G ds vs ∧ Rl Γ α (upd G a (.lst vs)) (S.set k (.frz ds)) H ∧ Ext α G H α (upd G a (.lst vs)) H := by
  have hm : a ∈ α := List.mem_of_getElem? ha
  obtain ⟨vs, a1, a2, a3⟩ := (R.ok k _ a hk ha).lst
  have sg : Sub G (upd G a (.lst vs)) := Sub.new a3
  refine ⟨vs, a2, ⟨fun b o e => ?_, by simp [R.len], R.nd, R.tr, fun j c b hc hb => ?_⟩, ⟨⟨[], by simp⟩, sg, fun b u e _ => e, fun b m => .inl m, fun b h => ?_⟩⟩
  · by_cases e' : b = a
    · subst e'; rw [upd_same] at e; cases e; exact a1
    · rw [upd_ne e'] at e; exact R.sub b o e
  · by_cases hjk : k = j
    · subst hjk
      rw [List.getElem?_set_self (List.getElem?_eq_some_iff.mp hk).1] at hc
      rw [ha] at hb
      cases hb
      cases hc
      exact .mkF upd_same (RepL.mono ⟨[], by simp⟩ sg _ _ a2)
    · rw [List.getElem?_set_ne hjk] at hc
      have hb' : b ≠ a := fun z => by
        subst z
        obtain ⟨h1, e1⟩ := List.getElem?_eq_some_iff.mp ha
        obtain ⟨h2, e2⟩ := List.getElem?_eq_some_iff.mp hb
        exact hjk ((List.getElem_inj R.nd).mp (e1.trans e2.symm))
      exact (R.ok j c b hc hb).mono ⟨[], by simp⟩ sg fun _ => ⟨rfl, fun h3 => by rw [upd_ne hb']; exact h3⟩
  · by_cases e : b = a
    · subst e; exact .inr (.inl hm)
    · rw [upd_ne e] at h; exact .inl h
end
def lstOf (S : Store) : D → Option (List D)
  | .lst xs => some xs
  | .ref k => match S[k]? with
    | some (.lst xs) => some xs
    | some (.frz xs) => some xs
    | _ => none
  | _ => none
/-- a list, also one that is locked or written -/
def rdL (S : Store) : D → Option (List D)
  | .fro xs => some xs
  | d => lstOf S d
section
variable {Γ : Gm} {α : List Addr} {G H : Hp} {S : Store}
theorem lstOf_at (R : Rl Γ α G S H) {d : D} {v : V} {xs : List D} (r : Rep Γ α G d v) (h : lstOf S d = some xs) : ∃ a vs, v = .ref a ∧ H a = some (.lst vs) ∧ RepL Γ α G xs vs := by
  cases d with
  | lst ys =>
    have e : ys = xs := Option.some.inj h
    subst e
    unfold Rep at r
    obtain ⟨a, vs, e, q, r⟩ := r
    exact ⟨a, vs, e, R.sub _ _ q, r⟩
  | ref k =>
    unfold Rep at r
    obtain ⟨a, e, ha⟩ := r
    unfold lstOf at h
    cases hc : S[k]? with
    | none => simp [hc] at h
    | some c =>
      have z := R.ok k c a hc ha
      cases c with
      | lst ys =>
        simp [hc] at h
        subst h
        obtain ⟨vs, h1, h2, h3⟩ := z.lst
        exact ⟨a, vs, e, h1, h2⟩
      | frz ys =>
        simp [hc] at h
        subst h
        obtain ⟨vs, h1, h2⟩ := z.frz
        exact ⟨a, vs, e, R.sub _ _ h1, h2⟩
      | _ => simp [hc] at h
  | _ => simp [lstOf] at h
theorem rdL_at (R : Rl Γ α G S H) {d : D} {v : V} {xs : List D} (r : Rep Γ α G d v) (h : rdL S d = some xs) : ∃ a vs, v = .ref a ∧ SqL Γ.K H a vs ∧ RepL Γ α G xs vs := by
  have go : lstOf S d = some xs → ∃ a vs, v = .ref a ∧ SqL Γ.K H a vs ∧ RepL Γ α G xs vs := fun h => by
    obtain ⟨a, vs, e, q, r⟩ := lstOf_at R r h
    exact ⟨a, vs, e, .inl (.inl q), r⟩
  cases d with
  | fro ys =>
    have e : ys = xs := Option.some.inj h
    subst e
    unfold Rep at r
    obtain ⟨a, vs, e, q, r⟩ := r
    exact ⟨a, vs, e, R.sub.sqL q, r⟩
  | _ => exact go h
theorem tup_at (R : Rl Γ α G S H) {v : V} {xs : List D} (r : Rep Γ α G (.tup xs) v) : ∃ a vs, v = .ref a ∧ SqT Γ.K H a vs ∧ RepL Γ α G xs vs := by
  unfold Rep at r
  obtain ⟨a, vs, e, q, r⟩ := r
  exact ⟨a, vs, e, .inl (.inl (R.sub _ _ q)), r⟩
/-- .. and it is told to stand there -/
theorem tup_at2 (R : Rl Γ α G S H) {v : V} {xs : List D} (r : Rep Γ α G (.tup xs) v) : ∃ a vs, v = .ref a ∧ G a = some (.tup vs) ∧ H a = some (.tup vs) ∧ RepL Γ α G xs vs := by
  unfold Rep at r
  obtain ⟨a, vs, e, q, r⟩ := r
  exact ⟨a, vs, e, q, R.sub _ _ q, r⟩
theorem sz {n : Nat} (h : n ≤ 100000) : n ≤ sizeLine := Nat.le_trans h (by decide)
theorem rep_lst {p : Addr} {xs : List D} {vs : List V} (h : G p = some (.lst vs)) (r : RepL Γ α G xs vs) : Rep Γ α G (.lst xs) (.ref p) := by unfold Rep; exact ⟨p, vs, rfl, h, r⟩
theorem rep_tup {p : Addr} {xs : List D} {vs : List V} (h : G p = some (.tup vs)) (r : RepL Γ α G xs vs) : Rep Γ α G (.tup xs) (.ref p) := by unfold Rep; exact ⟨p, vs, rfl, h, r⟩
/-- a new list that will change no more is handed on -/
theorem post_lst {Q : VK} {E : XK} {xs : List D} {vs : List V} (R : Rl Γ α G S H) (r : RepL Γ α G xs vs) (h : Post Γ (Rep Γ) α G H (.ok (.lst xs) S) Q E) {p : Addr} (hp : H p = none) : Q (.ref p) (upd H p (.lst vs)) := by
  obtain ⟨R', e⟩ := R.new hp (.lst vs)
  exact h _ _ _ _ e R' (rep_lst upd_same (RepL.mono e.pre e.sub _ _ r))
theorem post_tup {Q : VK} {E : XK} {xs : List D} {vs : List V} (R : Rl Γ α G S H) (r : RepL Γ α G xs vs) (h : Post Γ (Rep Γ) α G H (.ok (.tup xs) S) Q E) {p : Addr} (hp : H p = none) : Q (.ref p) (upd H p (.tup vs)) := by
  obtain ⟨R', e⟩ := R.new hp (.tup vs)
  exact h _ _ _ _ e R' (rep_tup upd_same (RepL.mono e.pre e.sub _ _ r))
theorem post_cell {Q : VK} {E : XK} {xs : List D} {vs : List V} (R : Rl Γ α G S H) (r : RepL Γ α G xs vs) (h : Post Γ (Rep Γ) α G H (.ok (.ref S.length) (S ++ [.lst xs])) Q E) {p : Addr} (hp : H p = none) : Q (.ref p) (upd H p (.lst vs)) := by
  obtain ⟨R', e, r'⟩ := R.cell hp r
  exact h _ _ _ _ e R' r'
end
end Q
namespace Q
open PySem L2
def mVar (i : Nat) : ME := fun ρ S => match ρ[i]? with
  | some (some d) => .ok d S
  | _ => .no
def mC (d : D) : ME := fun _ S => .ok d S
section
variable {X : Cx} {cl : Nat → Addr} {E : XK} {a b c e : Expr} {ma mb mc m : ME} {pos : Pos}
theorem snd_var {Γ : Gm} (i : Nat) : SndE Γ E (tVar i) (mVar i) := fun ρ S σ α G H Q hρ hR h => by
  unfold mVar at h
  cases q : ρ[i]? with
  | none => simp [q, Post] at h
  | some o =>
    cases o with
    | none => simp [q, Post] at h
    | some d =>
      simp only [q] at h
      obtain ⟨v, hv, r⟩ := hρ.2 i d q
      exact ⟨v, hv, post_ok h hR r⟩
theorem snd_c {Γ : Gm} {v : V} {d : D} (hr : ∀ α G, Rep Γ α G d v) : SndE Γ E (tC v) (mC d) := fun ρ S σ α G H Q hρ hR h => post_ok h hR (hr _ _)
theorem q_var (i : Nat) {x : Str} {pos : Pos} (hN : X.N[i]? = some x := by rfl) (hv : Vis X.env.scope x := by first | exact Or.inl rfl | exact Or.inr (Or.inl rfl) | exact Or.inr (Or.inr rfl)) (hd : (x == ("__debug__" : Str)) = false := by decide)
    (hcd : (x == ("__classdict__" : Str)) = false := by decide) : QE X cl E (.Name x pos) (mVar i) := ⟨_, pe_var hN hv hd hcd, snd_var i⟩
theorem q_int {i j pos} : QE X cl E (.Constant (.int i) j pos) (mC (.int i)) := ⟨_, pe_int, snd_c fun _ _ => by simp [Rep]⟩
theorem q_bl {i j pos} : QE X cl E (.Constant (.bool i) j pos) (mC (.bl i)) := ⟨_, pe_bl, snd_c fun _ _ => by simp [Rep]⟩
theorem q_non {j pos} : QE X cl E (.Constant .none j pos) (mC .non) := ⟨_, pe_non, snd_c fun _ _ => by simp [Rep]⟩
theorem q_str {i j pos} : QE X cl E (.Constant (.str i) j pos) (mC (.str i)) := ⟨_, pe_str, snd_c fun _ _ => by simp [Rep]⟩
theorem q_globI {x : Str} {i : Int} {t : Tok} {pos : Pos} (hg : Gl X x) (hm : X.mg x = some (.int i t)) (hd : (x == ("__debug__" : Str)) = false := by decide) : QE X cl E (.Name x pos) (mC (.int i)) :=
  ⟨_, pe_glob (v := .int i) hg hm ⟨_, rfl⟩ hd, snd_c fun _ _ => by simp [Rep]⟩
def SndR (Γ : Gm) (E : XK) (r : R2) (f : D → D → Store → Res D) : Prop := ∀ (a b : D) (S : Store) (α : List Addr) (G H : Hp) (x y : V) (Q : VK), Rl Γ α G S H → Rep Γ α G a x → Rep Γ α G b y → Post Γ (Rep Γ) α G H (f a b S) Q E → r x y H Q
structure QR (X : Cx) (cl : Nat → Addr) (E : XK) (op : Value → Value → Sem Value) (f : D → D → Store → Res D) : Prop where
  ex : ∃ r, OpR X op r ∧ SndR ⟨X.K, cl⟩ E r f
def mOp (f : D → D → Store → Res D) (ma mb : ME) : ME := fun ρ S => (ma ρ S).bind fun x S1 => (mb ρ S1).bind fun y S2 => f x y S2
theorem snd_op {Γ : Gm} {r : R2} {f : D → D → Store → Res D} {ta tb : TE} (hr : SndR Γ E r f) (ha : SndE Γ E ta ma) (hb : SndE Γ E tb mb) : SndE Γ E (tOp r ta tb) (mOp f ma mb) := fun ρ S σ α G H Q hρ hR h =>
  ha ρ S σ α G H _ hρ hR (post_bind h fun x S1 α1 G1 H1 v _ e1 R1 r1 h1 =>
    hb ρ S1 σ α1 G1 H1 _ (hρ.mono e1) R1 (post_bind h1 fun y S2 α2 G2 H2 w _ e2 R2 r2 h2 =>
      hr x y S2 α2 G2 H2 v w Q R2 (Rep.mono e2.pre e2.sub _ _ r1) r2 h2))
theorem q_op {op : Operator} {f : D → D → Store → Res D} (ho : QR X cl E (binaryOp op) f) (ha : QE X cl E a ma) (hb : QE X cl E b mb) : QE X cl E (.BinOp a op b pos) (mOp f ma mb) := by
  obtain ⟨r, h1, h2⟩ := ho.ex
  obtain ⟨ta, a1, a2⟩ := ha.ex
  obtain ⟨tb, b1, b2⟩ := hb.ex
  exact ⟨_, pe_op h1 a1 b1, snd_op h2 a2 b2⟩
theorem q_cmp {op : CmpOp} {f : D → D → Store → Res D} (ho : QR X cl E (compareOp op) f) (ha : QE X cl E a ma) (hb : QE X cl E b mb) (hm : behindInMarks op b = false := by first | rfl | exact nomark _) : QE X cl E (.Compare a [op] [b] pos) (mOp f ma mb) := by
  obtain ⟨r, h1, h2⟩ := ho.ex
  obtain ⟨ta, a1, a2⟩ := ha.ex
  obtain ⟨tb, b1, b2⟩ := hb.ex
  exact ⟨_, pe_cmpR h1 a1 b1 hm, snd_op h2 a2 b2⟩
theorem OpR.or {f : Value → Value → Sem Value} {r r' : R2} (h : OpR X f r) (h' : OpR X f r') : OpR X f (fun x y H Q => r x y H Q ∨ r' x y H Q) := fun pins s σ H x y v u Q I rx ry q => by
  rcases q with q | q
  · exact h pins s σ H x y v u Q I rx ry q
  · exact h' pins s σ H x y v u Q I rx ry q
def Res.orE {β : Type} (r s : Res β) : Res β := match r with
  | .no => s
  | r => r
@[simp] theorem orE_ok {β : Type} (a : β) (S : Store) (s : Res β) : (Res.ok a S).orE s = .ok a S := rfl
@[simp] theorem orE_no {β : Type} (s : Res β) : (Res.no : Res β).orE s = s := rfl
theorem QR.or {op : Value → Value → Sem Value} {f g : D → D → Store → Res D} (h : QR X cl E op f) (h' : QR X cl E op g) : QR X cl E op (fun a b S => (f a b S).orE (g a b S)) := by
  obtain ⟨r, h1, h2⟩ := h.ex
  obtain ⟨r', h1', h2'⟩ := h'.ex
  refine ⟨_, h1.or h1', fun a b S α G H x y Q hR ra rb hp => ?_⟩
  simp only at hp
  cases q : f a b S with
  | no =>
    rw [q] at hp
    exact .inr (h2' a b S α G H x y Q hR ra rb hp)
  | ok d S' =>
    rw [q] at hp
    exact .inl (h2 a b S α G H x y Q hR ra rb (by rw [q]; exact hp))
  | ex d S' =>
    rw [q] at hp
    exact .inl (h2 a b S α G H x y Q hR ra rb (by rw [q]; exact hp))
/-- two ints -/
def fI (C : Int → Int → Bool) (g : Int → Int → D) : D → D → Store → Res D := fun a b S => match a, b with
  | .int i, .int j => if C i j = true then .ok (g i j) S else .no
  | _, _ => .no
def fI0 (g : Int → Int → D) : D → D → Store → Res D := fun a b S => match a, b with
  | .int i, .int j => .ok (g i j) S
  | _, _ => .no
theorem snd_I {Γ : Gm} {C : Int → Int → Prop} {C' : Int → Int → Bool} {g : Int → Int → V} {g' : Int → Int → D} (hc : ∀ i j, C' i j = true → C i j) (hg : ∀ α G i j, Rep Γ α G (g' i j) (g i j)) : SndR Γ E (rI C g) (fI C' g') := by
  intro a b S α G H x y Q hR ra rb h
  cases a <;> cases b <;> try exact h.elim
  rename_i i j
  simp only [Rep] at ra rb
  unfold fI at h
  simp only at h
  split at h
  · rename_i hh
    exact ⟨i, j, ra, rb, hc i j hh, post_ok h hR (hg _ _ _ _)⟩
  · exact h.elim
theorem snd_I0 {Γ : Gm} {g : Int → Int → V} {g' : Int → Int → D} (hg : ∀ α G i j, Rep Γ α G (g' i j) (g i j)) : SndR Γ E (rI0 g) (fI0 g') := by
  intro a b S α G H x y Q hR ra rb h
  cases a <;> cases b <;> try exact h.elim
  rename_i i j
  simp only [Rep] at ra rb
  exact ⟨i, j, ra, rb, post_ok (a := g' i j) h hR (hg _ _ _ _)⟩
def mulOk (i j : Int) : Bool := decide (i.natAbs < 2 ^ 64) || decide (j.natAbs < 2 ^ 64) || decide (i.natAbs.log2 + j.natAbs.log2 < 1000000)
def divOk (_ j : Int) : Bool := decide (0 < j ∧ j.natAbs.log2 < 9000)
def modOk (_ j : Int) : Bool := decide (0 < j)
def powOk (i j : Int) : Bool := decide (0 ≤ j ∧ j.natAbs ≤ 1000000 ∧ i.natAbs < 2 ^ 64)
def opAddI := fI0 fun i j => .int (i + j)
def opSubI := fI0 fun i j => .int (i - j)
def opMulI := fI mulOk fun i j => .int (i * j)
def opDivI := fI divOk fun i j => .int (i / j)
def opModI := fI modOk fun i j => .int (i % j)
def opPowI := fI powOk fun i j => .int (i ^ j.toNat)
theorem addI : QR X cl E (binaryOp .Add) opAddI := ⟨_, op_add, snd_I0 fun _ _ _ _ => by simp [Rep]⟩
theorem subI : QR X cl E (binaryOp .Sub) opSubI := ⟨_, op_sub, snd_I0 fun _ _ _ _ => by simp [Rep]⟩
theorem mulI : QR X cl E (binaryOp .Mult) opMulI := by
  refine ⟨_, OpR.or op_mul op_mulW, fun a b S α G H x y Q hR ra rb h => ?_⟩
  cases a <;> cases b <;> try exact h.elim
  rename_i i j
  simp only [Rep] at ra rb
  unfold opMulI fI at h
  simp only at h
  split at h
  · rename_i hh
    have q := post_ok (x := V.int (i * j)) h hR (by simp [Rep])
    unfold mulOk at hh
    simp only [Bool.or_eq_true, decide_eq_true_eq] at hh
    rcases hh with (hh | hh) | hh
    · exact .inl ⟨i, j, ra, rb, .inl (by omega), q⟩
    · exact .inl ⟨i, j, ra, rb, .inr (by omega), q⟩
    · exact .inr ⟨i, j, ra, rb, hh, q⟩
  · exact h.elim
theorem divI : QR X cl E (binaryOp .FloorDiv) opDivI := ⟨_, op_fdivW, snd_I (fun i j h => by simpa [divOk, CDivW] using h) fun _ _ _ _ => by simp [Rep]⟩
theorem modI : QR X cl E (binaryOp .Mod) opModI := ⟨_, op_mod, snd_I (fun i j h => by simpa [modOk] using h) fun _ _ _ _ => by simp [Rep]⟩
theorem powI : QR X cl E (binaryOp .Pow) opPowI := ⟨_, op_pow, snd_I (fun i j h => by
  have h2 : 0 ≤ j ∧ j.natAbs ≤ 1000000 ∧ i.natAbs < 2 ^ 64 := of_decide_eq_true h
  have h3 : 0 ≤ j ∧ j ≤ 1000000 ∧ i.natAbs < 2 ^ 64 := ⟨h2.1, by omega, h2.2.2⟩
  simpa [CPow] using h3) fun _ _ _ _ => by simp [Rep]⟩
def opLt := fI0 fun i j => .bl (decide (i < j))
def opLe := fI0 fun i j => .bl (decide (i ≤ j))
def opGt := fI0 fun i j => .bl (decide (j < i))
def opGe := fI0 fun i j => .bl (decide (j ≤ i))
theorem ltI : QR X cl E (compareOp .Lt) opLt := ⟨_, op_lt, snd_I0 fun _ _ _ _ => by simp [Rep]⟩
theorem leI : QR X cl E (compareOp .LtE) opLe := ⟨_, op_le, snd_I0 fun _ _ _ _ => by simp [Rep]⟩
theorem gtI : QR X cl E (compareOp .Gt) opGt := ⟨_, op_gt, snd_I0 fun _ _ _ _ => by simp [Rep]⟩
theorem geI : QR X cl E (compareOp .GtE) opGe := ⟨_, op_ge, snd_I0 fun _ _ _ _ => by simp [Rep]⟩
/-- text + text, tuple + tuple, list + list -/
def opCat : D → D → Store → Res D := fun a b S => match a, b with
  | .str s, .str t => if s.length + t.length ≤ 100000 then .ok (.str (s ++ t)) S else .no
  | .tup xs, .tup ys => if xs.length + ys.length ≤ 100000 then .ok (.tup (xs ++ ys)) S else .no
  | a, b => match lstOf S a, lstOf S b with
    | some xs, some ys => if xs.length + ys.length ≤ 100000 then .ok (.lst (xs ++ ys)) S else .no
    | _, _ => .no
theorem repL_nil {Γ : Gm} {α : List Addr} {G : Hp} {xs : List D} {vs : List V} (r : RepL Γ α G xs vs) : xs = [] ↔ vs = [] := by
  have := r.length
  constructor
  · intro h; subst h; simpa using this.symm
  · intro h; subst h; simpa using this
theorem catQ (hc : True) : QR X cl E (binaryOp .Add) opCat := by
  refine ⟨_, OpR.or op_add_str (OpR.or op_catA op_cat), fun a b S α G H x y Q hR ra rb h => ?_⟩
  have lists : (match lstOf S a, lstOf S b with
      | some xs, some ys => if xs.length + ys.length ≤ 100000 then Res.ok (.lst (xs ++ ys)) S else .no
      | _, _ => .no) = opCat a b S → rCat x y H Q := fun e => by
    rw [← e] at h
    cases h1 : lstOf S a with
    | none => simp [h1, Post] at h
    | some xs =>
      cases h2 : lstOf S b with
      | none => simp [h1, h2, Post] at h
      | some ys =>
        simp only [h1, h2] at h
        split at h
        · rename_i hs
          obtain ⟨p, vs, rfl, q1, r1⟩ := lstOf_at hR ra h1
          obtain ⟨p2, ws, rfl, q2, r2⟩ := lstOf_at hR rb h2
          exact ⟨p, p2, vs, ws, rfl, rfl, q1, q2, by rw [← r1.length, ← r2.length]; exact sz hs, fun z hz => post_lst hR (r1.append r2) h hz⟩
        · exact h.elim
  cases a <;> cases b <;> first
    | exact .inr (.inr (lists rfl))
    | skip
  · rename_i s t
    simp only [Rep] at ra rb
    simp only [opCat] at h
    split at h
    · rename_i hs
      exact .inl ⟨s, t, ra, rb, sz hs, post_ok h hR (by simp [Rep])⟩
    · exact h.elim
  · rename_i xs ys
    simp only [opCat] at h
    split at h
    · rename_i hs
      obtain ⟨p, vs, rfl, q1, r1⟩ := tup_at hR ra
      obtain ⟨p2, ws, rfl, q2, r2⟩ := tup_at hR rb
      refine .inr (.inl ⟨p, p2, vs, ws, rfl, rfl, q1, q2, by rw [← r1.length, ← r2.length]; exact sz hs, fun e => ?_, fun e e2 => ?_, fun e e2 z hz => post_tup hR (r1.append r2) h hz⟩)
      · have e' := (repL_nil r1).mpr e
        subst e'
        exact post_ok h hR rb
      · have e' := (repL_nil r2).mpr e2
        subst e'
        rw [List.append_nil] at h
        exact post_ok h hR ra
    · exact h.elim
def opAdd : D → D → Store → Res D := fun a b S => (opAddI a b S).orE (opCat a b S)
theorem addQ : QR X cl E (binaryOp .Add) opAdd := addI.or (catQ trivial)
/-- list * int -/
def opRep : D → D → Store → Res D := fun a b S => match lstOf S a, b with
  | some xs, .int k => if (-100000 ≤ k ∧ k ≤ 100000) ∧ xs.length * k.toNat ≤ 100000 then .ok (.lst (List.replicate k.toNat xs).flatten) S else .no
  | _, _ => .no
theorem RepL.flat {Γ : Gm} {α : List Addr} {G : Hp} {xs : List D} {vs : List V} (r : RepL Γ α G xs vs) : ∀ n : Nat, RepL Γ α G (List.replicate n xs).flatten (List.replicate n vs).flatten
  | 0 => by simp [RepL]
  | n + 1 => by
    simp only [List.replicate_succ, List.flatten_cons]
    exact r.append (RepL.flat r n)
theorem repQ : QR X cl E (binaryOp .Mult) opRep := by
  refine ⟨_, op_rep, fun a b S α G H x y Q hR ra rb h => ?_⟩
  unfold opRep at h
  cases h1 : lstOf S a with
  | none => simp [h1, Post] at h
  | some xs =>
    cases b <;> simp only [h1] at h <;> try exact h.elim
    rename_i k
    split at h
    · rename_i hs
      obtain ⟨p, vs, rfl, q1, r1⟩ := lstOf_at hR ra h1
      simp only [Rep] at rb
      refine ⟨p, k, vs, rfl, rb, q1, ?_, ?_, by rw [← r1.length]; exact sz hs.2, fun z hz => post_lst hR (r1.flat _) h hz⟩
      · have : (100000 : Int) < 2 ^ 63 := by decide
        omega
      · have : (100000 : Int) < 2 ^ 63 := by decide
        omega
    · exact h.elim
end
end Q
namespace L2
open PySem PySem.Spec PyProof.Rows
theorem tuple_mul_one (l : Addr) (items : Array Value) (n : Nat) (dd : Option Addr) (sl : Array (Option Value)) (x : Int) (u : Tok) (hx : x = 1) :
    Meets (Builtin.«tuple.__mul__» { pos := [.ref l, .int x u] }) fun _ R s => s.heap.get? l = some { cls := .type "tuple", dict := dd, data := .seq items n, slots := sl } ∧ R (.ok (.ret (.ref l))) s := by
  refine Meets.of_wp fun prog w A R s h => ?_
  obtain ⟨hl, h⟩ := h
  have ht : IsTup s.heap l items := ⟨_, hl, rfl, n, rfl⟩
  have hT : s.TypeIs (.ref l) "tuple" := ⟨_, hl, rfl⟩
  apply wpAny_bind (m := asIndex (.int x u))
  refine wpAny_bind (wpAny_pure (wpAny_pure ?_))
  refine wpAny_ite_false (by subst hx; decide) (wpAny_bind (tupleItemsOf_ ht ?_))
  refine wpAny_ite_true (by subst hx; simp) (wpAny_bind (wpAny_bind (wpAny_typeOf hT (wpAny_pure ?_))))
  refine wpAny_ite_true rfl (wpAny_bind (wpAny_rule ?_))
  exact wpAny_pure ⟨_, rfl, h⟩
theorem tuple_mul_none (l : Addr) (items : Array Value) (n : Nat) (dd : Option Addr) (sl : Array (Option Value)) (x : Int) (u : Tok) (hx : x ≤ 0) (hx2 : -(2 ^ 60) ≤ x) (hi : items.isEmpty = false) :
    Meets (Builtin.«tuple.__mul__» { pos := [.ref l, .int x u] }) fun _ R s => s.heap.get? l = some { cls := .type "tuple", dict := dd, data := .seq items n, slots := sl } ∧ R (.ok (.ret (.ref s.heap.objs.size))) { heap := s.heap.push { cls := .type "tuple", data := .seq #[] }, gens := s.gens, drawn := s.drawn, toks := s.toks, os := s.os } := by
  refine Meets.of_wp fun prog w A R s h => ?_
  obtain ⟨hl, h⟩ := h
  have ht : IsTup s.heap l items := ⟨_, hl, rfl, n, rfl⟩
  apply wpAny_bind (m := asIndex (.int x u))
  refine wpAny_bind (wpAny_pure (wpAny_pure ?_))
  refine wpAny_ite_false (by simp; omega) (wpAny_bind (tupleItemsOf_ ht ?_))
  have h1 : (x == 1) = false := by simp; omega
  refine wpAny_ite_false (by rw [hi, h1]; rfl) ?_
  refine wpAny_ite_true (by simp [hx]) (wpAny_bind ?_)
  refine wpAny_newObj_type ?_ (by show (0 : Nat) ≤ sizeLine; omega)
  exact wpAny_pure ⟨_, rfl, h⟩
def rRepT1 (K : PySem.W.Frag) : R2 := fun x y H Q => ∃ (l : Addr) (k : Int) (xs : List V), x = .ref l ∧ y = .int k ∧ SqT K H l xs ∧ xs ≠ [] ∧ -1000 ≤ k ∧ k ≤ 1 ∧ (k = 1 → Q (.ref l) H) ∧ (k ≤ 0 → ∀ p, H p = none → Q (.ref p) (upd H p (.tup [])))
theorem op_repT1 {X : Cx} : OpR X (binaryOp .Mult) (rRepT1 X.K) := by
  intro pins s σ H x y v u Q I rx ry h
  obtain ⟨l, k, xs, rfl, rfl, hx, hne, hk0, hk1, q1, q0⟩ := h
  cases rx
  obtain ⟨t, rfl⟩ := ry
  obtain ⟨its, r, ⟨o, ho, hc, n, hd⟩, hz⟩ := I.tuple hx
  obtain ⟨cls, dd, data, sl⟩ := o
  simp only at hc hd
  subst hc hd
  have hie : its.toArray.isEmpty = false := by
    cases its with
    | nil => cases r; exact absurd rfl hne
    | cons a b => rfl
  have go : wpAny (model X.prog X.w) X.A (call (.builtin "tuple.__mul__") [.ref l, .int k t]) (EP X pins σ Q) X.xe s := by
    by_cases h1 : k = 1
    · exact call_meets F.slot_tuple_mul ⟨_, ho, rfl⟩ F.entry_tuple_mul (F.args_tuple_mul_2 _ _) (tuple_mul_one l its.toArray n dd sl k t h1) ⟨ho, .ref l, H, I, rfl, q1 h1⟩
    · refine call_meets F.slot_tuple_mul ⟨_, ho, rfl⟩ F.entry_tuple_mul (F.args_tuple_mul_2 _ _) (tuple_mul_none l its.toArray n dd sl k t (by omega) (by omega) hie) ⟨ho, ?_⟩
      refine ⟨.ref _, upd H _ (.tup []), I.laid (fun b ob q => Heap.get?_push_of_some _ q) (Nat.le_refl _) ⟨by simp, [], .nil, ?_⟩, rfl, q0 (by omega) _ (I.hok.fresh (Nat.le_refl _))⟩
      exact IsTup.new _ _
  exact wpAny_binaryOp_repeat_ref (T := "tuple") (U := "int") (by decide) ⟨_, ho, rfl⟩ (fun s' => typeIs_int s' k t) noFill_tuple_mul F.fills_int_mul F.slot_int_rmul repeat_tuple F.slot_int_index.lookup
    (call_meets F.slot_int_rmul (typeIs_int s k t) F.entry_int_rmul (F.args_int_rmul_2 _ _) (int_rmul_tuple k t l its.toArray n dd sl) ⟨ho, rfl, ⟨_, ho, rfl⟩, go⟩)
end L2
namespace Q
open PySem L2
section
variable {X : Cx} {cl : Nat → Addr} {E : XK} {a b c e : Expr} {ma mb mc m : ME} {pos : Pos}
def opRepT : D → D → Store → Res D := fun a b S => match a, b with
  | .tup xs, .int k => if 0 < xs.length ∧ -1000 ≤ k ∧ k ≤ 1000 ∧ xs.length ≤ 1000 then .ok (.tup (List.replicate k.toNat xs).flatten) S else .no
  | _, _ => .no
theorem repTQ : QR X cl E (binaryOp .Mult) opRepT := by
  refine ⟨_, OpR.or op_repT op_repT1, fun a b S α G H x y Q hR ra rb h => ?_⟩
  cases a <;> cases b <;> try exact h.elim
  rename_i xs k
  simp only [opRepT] at h
  split at h
  · rename_i hs
    obtain ⟨p, vs, rfl, q1, r1⟩ := tup_at hR ra
    simp only [Rep] at rb
    have hne : vs ≠ [] := fun e => by
      have := (repL_nil r1).mpr e
      subst this
      simp at hs
    by_cases hk : 2 ≤ k
    · exact .inl ⟨p, k, vs, rfl, rb, q1, hne, hk, hs.2.2.1, by rw [← r1.length]; exact hs.2.2.2, fun z hz => post_tup hR (r1.flat _) h hz⟩
    · refine .inr ⟨p, k, vs, rfl, rb, q1, hne, hs.2.1, by omega, fun e => ?_, fun e z hz => ?_⟩
      · subst e
        have e2 : (List.replicate (1 : Int).toNat xs).flatten = xs := by
          show (List.replicate 1 xs).flatten = xs
          simp
        rw [e2] at h
        exact post_ok h hR ra
      · have e2 : (List.replicate k.toNat xs).flatten = [] := by
          rw [show k.toNat = 0 by omega]
          rfl
        rw [e2] at h
        exact post_tup hR (by simp [RepL]) h hz
  · exact h.elim
def opMul : D → D → Store → Res D := fun a b S => (opMulI a b S).orE ((opRep a b S).orE (opRepT a b S))
theorem mulQ : QR X cl E (binaryOp .Mult) opMul := mulI.or (repQ.or repTQ)
mutual
def deq : D → D → Bool
  | .non, .non => true
  | .bl a, .bl b => a == b
  | .bl a, .int j => (if a then 1 else 0) == j
  | .int i, .bl b => i == (if b then 1 else 0)
  | .int i, .int j => i == j
  | .str x, .str y => x == y
  | .tup xs, .tup ys => deqL xs ys
  | .lst xs, .lst ys => deqL xs ys
  | _, _ => false
def deqL : List D → List D → Bool
  | [], [] => true
  | x :: xs, y :: ys => deq x y && deqL xs ys
  | _, _ => false
end
mutual
def toPy : D → PyData
  | .non => .none
  | .bl b => .bool b
  | .int i => .int i
  | .str s => .str s
  | .tup xs => .tuple (toPyL xs)
  | .lst xs => .list (toPyL xs)
  | .fro _ | .obj _ _ | .exn _ _ | .ref _ => .none
def toPyL : List D → List PyData
  | [] => []
  | x :: xs => toPy x :: toPyL xs
end
/-- plain data, at most n levels deep -/
def shal : Nat → D → Bool
  | _, .non => true
  | _, .bl _ => true
  | _, .int _ => true
  | _, .str s => PyData.strOk s
  | n + 1, .tup xs => xs.all (shal n)
  | n + 1, .lst xs => xs.all (shal n)
  | _, _ => false
theorem toPyL_map : ∀ xs : List D, toPyL xs = xs.map toPy
  | [] => rfl
  | x :: xs => by simp [toPyL, toPyL_map xs]
theorem depthAll_le {n : Nat} : ∀ {xs : List PyData}, (∀ x ∈ xs, x.depth ≤ n) → PyData.depthAll xs ≤ n
  | [], _ => by simp [PyData.depthAll]
  | x :: xs, h => by
    simp only [PyData.depthAll]
    have h1 := h x (by simp)
    have h2 := depthAll_le (xs := xs) fun y hy => h y (by simp [hy])
    omega
theorem canLayAll {xs : List PyData} : (∀ x ∈ xs, x.canLay0 = true) → PyData.canLayAll0 xs = true := by
  induction xs with
  | nil => intro _; rfl
  | cons x xs ih =>
    intro h
    simp only [PyData.canLayAll0, Bool.and_eq_true]
    exact ⟨h x (by simp), ih fun y hy => h y (by simp [hy])⟩
theorem shal_lay : ∀ (n : Nat) (d : D), shal n d = true → (toPy d).canLay0 = true ∧ (toPy d).depth ≤ n
  | n, .non, _ => by simp [toPy, PyData.canLay0, PyData.depth]
  | n, .bl _, _ => by simp [toPy, PyData.canLay0, PyData.depth]
  | n, .int _, _ => by simp [toPy, PyData.canLay0, PyData.depth]
  | n, .str s, h => by
    have : PyData.strOk s = true := by cases n <;> simpa [shal] using h
    simp [toPy, PyData.canLay0, PyData.depth, this]
  | n + 1, .tup xs, h => by
    have h' : ∀ x ∈ xs, shal n x = true := by simpa [shal] using h
    have k : ∀ y ∈ toPyL xs, y.canLay0 = true ∧ y.depth ≤ n := fun y hy => by
      rw [toPyL_map] at hy
      obtain ⟨x, hx, rfl⟩ := List.mem_map.mp hy
      exact shal_lay n x (h' x hx)
    exact ⟨canLayAll fun y hy => (k y hy).1, by
      simp only [toPy, PyData.depth]
      have := depthAll_le fun y hy => (k y hy).2
      omega⟩
  | n + 1, .lst xs, h => by
    have h' : ∀ x ∈ xs, shal n x = true := by simpa [shal] using h
    have k : ∀ y ∈ toPyL xs, y.canLay0 = true ∧ y.depth ≤ n := fun y hy => by
      rw [toPyL_map] at hy
      obtain ⟨x, hx, rfl⟩ := List.mem_map.mp hy
      exact shal_lay n x (h' x hx)
    exact ⟨canLayAll fun y hy => (k y hy).1, by
      simp only [toPy, PyData.depth]
      have := depthAll_le fun y hy => (k y hy).2
      omega⟩
  | 0, .tup xs, h => by simp [shal] at h
  | 0, .lst xs, h => by simp [shal] at h
  | 0, .fro _, h => by simp [shal] at h
  | 0, .obj _ _, h => by simp [shal] at h
  | 0, .exn _ _, h => by simp [shal] at h
  | 0, .ref _, h => by simp [shal] at h
  | n + 1, .fro _, h => by simp [shal] at h
  | n + 1, .obj _ _, h => by simp [shal] at h
  | n + 1, .exn _ _, h => by simp [shal] at h
  | n + 1, .ref _, h => by simp [shal] at h
theorem shal_shaped {d : D} (h : shal 20 d = true) : SeqAt.shaped (toPy d) = true := by
  obtain ⟨h1, h2⟩ := shal_lay 20 d h
  unfold SeqAt.shaped
  rw [h1, decide_eq_true (by omega)]
  rfl
mutual
theorem deq_py : ∀ (n m : Nat) (a b : D), shal n a = true → shal m b = true → PyData.eqv (toPy a) (toPy b) = deq a b
  | n, m, a, b, ha, hb => by
    cases a <;> cases b <;> first
      | (simp only [toPy, deq, PyData.eqv]; done)
      | (cases n <;> simp [shal] at ha; done)
      | (cases m <;> simp [shal] at hb; done)
      | skip
    all_goals
      rename_i xs ys
      cases n with
      | zero => simp [shal] at ha
      | succ n =>
        cases m with
        | zero => simp [shal] at hb
        | succ m =>
          simp only [toPy, deq, PyData.eqv]
          exact deqL_py n m xs ys (by simpa [shal] using ha) (by simpa [shal] using hb)
theorem deqL_py : ∀ (n m : Nat) (a b : List D), (∀ x ∈ a, shal n x = true) → (∀ x ∈ b, shal m x = true) → PyData.eqvAll (toPyL a) (toPyL b) = deqL a b
  | n, m, [], [], _, _ => rfl
  | n, m, [], _ :: _, _, _ => rfl
  | n, m, _ :: _, [], _, _ => rfl
  | n, m, x :: xs, y :: ys, ha, hb => by
    simp only [toPyL, PyData.eqvAll, deqL]
    rw [deq_py n m x y (ha x (by simp)) (hb y (by simp)), deqL_py n m xs ys (fun z hz => ha z (by simp [hz])) (fun z hz => hb z (by simp [hz]))]
end
mutual
theorem rep_dp {Γ : Gm} {α : List Addr} {G H : Hp} (s : Sub G H) : ∀ (n : Nat) (d : D) (v : V), shal n d = true → Rep Γ α G d v → Dp Γ.K H v (toPy d)
  | n, .non, v, _, r => by simp only [Rep] at r; subst r; exact .non
  | n, .bl b, v, _, r => by simp only [Rep] at r; subst r; exact .bl b
  | n, .int b, v, _, r => by simp only [Rep] at r; subst r; exact .int b
  | n, .str b, v, _, r => by simp only [Rep] at r; subst r; exact .str b
  | n + 1, .tup xs, v, h, r => by
    unfold Rep at r
    obtain ⟨a, vs, rfl, q, r⟩ := r
    exact .tup (.inl (.inl (s _ _ q))) (repL_dp s n xs vs (by simpa [shal] using h) r)
  | n + 1, .lst xs, v, h, r => by
    unfold Rep at r
    obtain ⟨a, vs, rfl, q, r⟩ := r
    exact .lst (.inl (.inl (s _ _ q))) (repL_dp s n xs vs (by simpa [shal] using h) r)
  | 0, .tup xs, v, h, _ => by simp [shal] at h
  | 0, .lst xs, v, h, _ => by simp [shal] at h
  | n, .fro _, v, h, _ => by cases n <;> simp [shal] at h
  | n, .obj _ _, v, h, _ => by cases n <;> simp [shal] at h
  | n, .exn _ _, v, h, _ => by cases n <;> simp [shal] at h
  | n, .ref _, v, h, _ => by cases n <;> simp [shal] at h
theorem repL_dp {Γ : Gm} {α : List Addr} {G H : Hp} (s : Sub G H) : ∀ (n : Nat) (ds : List D) (vs : List V), (∀ x ∈ ds, shal n x = true) → RepL Γ α G ds vs → DpAll Γ.K H vs (toPyL ds)
  | n, [], vs, _, r => by unfold RepL at r; subst r; exact .nil
  | n, d :: ds, vs, h, r => by
    unfold RepL at r
    obtain ⟨v, w, rfl, h1, h2⟩ := r
    exact .cons (rep_dp s n d v (h d (by simp)) h1) (repL_dp s n ds w (fun z hz => h z (by simp [hz])) h2)
end
/-- what a name of a cell stands for -/
def deref (S : Store) (d : D) : D := match d with
  | .ref k => match S[k]? with
    | some (.lst xs) => .lst xs
    | some (.frz xs) => .lst xs
    | _ => d
  | d => d
theorem deref_dp {Γ : Gm} {α : List Addr} {G H : Hp} {S : Store} (R : Rl Γ α G S H) {d : D} {v : V} (h : shal 20 (deref S d) = true) (r : Rep Γ α G d v) : Dp Γ.K H v (toPy (deref S d)) := by
  cases d with
  | ref k =>
    cases q : lstOf S (.ref k) with
    | none =>
      have : deref S (.ref k) = .ref k := by
        unfold lstOf at q
        unfold deref
        cases hc : S[k]? with
        | none => simp [hc]
        | some c => cases c <;> simp [hc] at q ⊢
      rw [this] at h
      simp [shal] at h
    | some xs =>
      have e : deref S (.ref k) = .lst xs := by
        unfold lstOf at q
        unfold deref
        cases hc : S[k]? with
        | none => simp [hc] at q
        | some c => cases c <;> simp [hc] at q <;> subst q <;> simp [hc]
      obtain ⟨a, vs, rfl, q1, r1⟩ := lstOf_at R r q
      rw [e] at h ⊢
      have h' : ∀ x ∈ xs, shal 19 x = true := by simpa [shal] using h
      exact .lst (.inl (.inl q1)) (repL_dp R.sub 19 xs vs h' r1)
  | _ => exact rep_dp R.sub 20 _ v h r
def opEq : D → D → Store → Res D := fun a b S => match a, b with
  | .int i, .int j => .ok (.bl (i == j)) S
  | .str i, .str j => .ok (.bl (i == j)) S
  | .bl i, .bl j => .ok (.bl (i == j)) S
  | a, b => if shal 20 (deref S a) && shal 20 (deref S b) then .ok (.bl (deq (deref S a) (deref S b))) S else .no
def opNe : D → D → Store → Res D := fun a b S => match a, b with
  | .int i, .int j => .ok (.bl (!(i == j))) S
  | .str i, .str j => .ok (.bl (!(i == j))) S
  | .bl i, .bl j => .ok (.bl (!(i == j))) S
  | a, b => if shal 20 (deref S a) && shal 20 (deref S b) then .ok (.bl (!deq (deref S a) (deref S b))) S else .no
theorem eqQ {k : Nat} (hr : Room k X.A) : QR X cl E (compareOp .Eq) opEq := by
  refine ⟨_, OpR.or op_eq (op_eqD hr.units), fun a b S α G H x y Q hR ra rb h => ?_⟩
  have deep : (if shal 20 (deref S a) && shal 20 (deref S b) then Res.ok (.bl (deq (deref S a) (deref S b))) S else .no) = opEq a b S → rEqD X.K x y H Q := fun e => by
    rw [← e] at h
    split at h
    · rename_i hs
      rw [Bool.and_eq_true] at hs
      refine ⟨_, _, deref_dp (Γ := ⟨X.K, cl⟩) hR hs.1 ra, deref_dp (Γ := ⟨X.K, cl⟩) hR hs.2 rb, shal_shaped hs.1, shal_shaped hs.2, ?_⟩
      rw [deq_py 20 20 _ _ hs.1 hs.2]
      exact post_ok h hR (by simp [Rep])
    · exact h.elim
  cases a <;> cases b <;> first
    | exact .inr (deep rfl)
    | skip
  all_goals
    simp only [Rep] at ra rb
    subst ra rb
    refine .inl ⟨rfl, ?_⟩
    simp only [opEq] at h
    first | rw [dec_int] | rw [dec_bl] | rw [dec_str]
    exact post_ok h hR (by simp [Rep])
theorem neQ {k : Nat} (hr : Room k X.A) : QR X cl E (compareOp .NotEq) opNe := by
  refine ⟨_, OpR.or op_ne (op_neD hr.units), fun a b S α G H x y Q hR ra rb h => ?_⟩
  have deep : (if shal 20 (deref S a) && shal 20 (deref S b) then Res.ok (.bl (!deq (deref S a) (deref S b))) S else .no) = opNe a b S → rNeD X.K x y H Q := fun e => by
    rw [← e] at h
    split at h
    · rename_i hs
      rw [Bool.and_eq_true] at hs
      refine ⟨_, _, deref_dp (Γ := ⟨X.K, cl⟩) hR hs.1 ra, deref_dp (Γ := ⟨X.K, cl⟩) hR hs.2 rb, shal_shaped hs.1, shal_shaped hs.2, ?_⟩
      rw [deq_py 20 20 _ _ hs.1 hs.2]
      exact post_ok h hR (by simp [Rep])
    · exact h.elim
  cases a <;> cases b <;> first
    | exact .inr (deep rfl)
    | skip
  all_goals
    simp only [Rep] at ra rb
    subst ra rb
    refine .inl ⟨rfl, ?_⟩
    simp only [opNe] at h
    first | rw [dec_int] | rw [dec_bl] | rw [dec_str]
    exact post_ok h hR (by simp [Rep])
end
end Q
namespace Q
open PySem L2
section
variable {X : Cx} {cl : Nat → Addr} {E : XK} {a b c e : Expr} {ma mb mc m : ME} {mt mu : MT} {pos : Pos}
def truth (S : Store) : D → Option Bool
  | .non => some false
  | .bl b => some b
  | .int i => some (i != 0)
  | .tup xs => some (!xs.isEmpty)
  | .str s => if s.length ≤ 100000 then some ((s.length : Int) != 0) else none
  | .obj _ _ => none
  | .exn _ _ => none
  | d => (rdL S d).map fun xs => !xs.isEmpty
def oRes {β : Type} (o : Option β) (S : Store) : Res β := match o with
  | some b => .ok b S
  | none => .no
@[simp] theorem oRes_some {β : Type} (b : β) (S : Store) : oRes (some b) S = .ok b S := rfl
@[simp] theorem oRes_none {β : Type} (S : Store) : oRes (none : Option β) S = .no := rfl
def mTest (m : ME) : MT := fun ρ S => (m ρ S).bind fun d S1 => oRes (truth S1 d) S1
theorem isEmpty_rep {Γ : Gm} {α : List Addr} {G : Hp} {xs : List D} {vs : List V} (r : RepL Γ α G xs vs) : xs.isEmpty = vs.isEmpty := by
  have := r.length
  cases xs <;> cases vs <;> simp_all
theorem truth_at {Γ : Gm} {α : List Addr} {G H : Hp} {S : Store} (R : Rl Γ α G S H) {d : D} {v : V} {k : Bool} (r : Rep Γ α G d v) (h : truth S d = some k) : TruV Γ.K v H k := by
  have lists : (rdL S d).map (fun xs => !xs.isEmpty) = some k → TruV Γ.K v H k := fun h => by
    cases q : rdL S d with
    | none => simp [q] at h
    | some xs =>
      simp only [q, Option.map_some, Option.some.injEq] at h
      obtain ⟨p, vs, rfl, q1, r1⟩ := rdL_at R r q
      exact .inl ⟨vs, q1, by rw [← isEmpty_rep r1]; exact h.symm⟩
  cases d with
  | non => simp only [Rep] at r; subst r; simp only [truth, Option.some.injEq] at h; exact h.symm
  | bl b => simp only [Rep] at r; subst r; simp only [truth, Option.some.injEq] at h; exact h.symm
  | int i => simp only [Rep] at r; subst r; simp only [truth, Option.some.injEq] at h; exact h.symm
  | str i =>
    simp only [Rep] at r
    subst r
    simp only [truth] at h
    split at h
    · rename_i hs
      exact ⟨sz hs, (Option.some.inj h).symm⟩
    · cases h
  | tup xs =>
    obtain ⟨p, vs, rfl, q1, r1⟩ := tup_at R r
    simp only [truth, Option.some.injEq] at h
    exact .inr (.inl ⟨vs, q1, by rw [← isEmpty_rep r1]; exact h.symm⟩)
  | obj _ _ => simp [truth] at h
  | exn _ _ => simp [truth] at h
  | lst xs => exact lists h
  | fro xs => exact lists h
  | ref k => exact lists h
theorem q_test (h : QE X cl E e m) (he : ∀ whole, isTrue e X.env whole = (do let v ← whole; standAt e.pos; holding [v] (truthy v)) := by intro _; rfl) : QT X cl E e (mTest m) := by
  obtain ⟨t, h1, h2⟩ := h.ex
  refine ⟨_, pt_truth h1 he, fun ρ S σ α G H Q hρ hR hp => h2 ρ S σ α G H _ hρ hR (post_bind hp fun d S1 α1 G1 H1 v _ e1 R1 r1 hp1 => ?_)⟩
  cases q : truth S1 d with
  | none => simp [q, Post] at hp1
  | some k =>
    simp only [q, oRes_some] at hp1
    exact ⟨k, truth_at R1 r1 q, post_ok hp1 R1 rfl⟩
/-- a comparison as a test -/
def mTB (m : ME) : MT := fun ρ S => (m ρ S).bind fun d S1 => match d with
  | .bl b => .ok b S1
  | _ => .no
theorem snd_tb {Γ : Gm} {t : TE} (h : SndE Γ E t m) : SndT Γ E (tTest t) (mTB m) := fun ρ S σ α G H Q hρ hR hp => h ρ S σ α G H _ hρ hR (post_bind hp fun d S1 α1 G1 H1 v _ e1 R1 r1 hp1 => by
    cases d <;> first
      | (simp only [Post] at hp1; done)
      | skip
    simp only [Rep] at r1
    exact ⟨_, r1, post_ok hp1 R1 rfl⟩)
theorem q_tcmp {op : CmpOp} {f : D → D → Store → Res D} (ho : QR X cl E (compareOp op) f) (ha : QE X cl E a ma) (hb : QE X cl E b mb) (hm : behindInMarks op b = false := by first | rfl | exact nomark _) : QT X cl E (.Compare a [op] [b] pos) (mTB (mOp f ma mb)) := by
  obtain ⟨r, h1, h2⟩ := ho.ex
  obtain ⟨ta, a1, a2⟩ := ha.ex
  obtain ⟨tb, b1, b2⟩ := hb.ex
  exact ⟨_, pt_cmpR h1 a1 b1 hm, snd_tb (snd_op h2 a2 b2)⟩
def mNotT (m : MT) : MT := fun ρ S => (m ρ S).bind fun b S1 => .ok (!b) S1
def mAndT (m n : MT) : MT := fun ρ S => (m ρ S).bind fun b S1 => match b with
  | true => n ρ S1
  | false => .ok false S1
def mOrT (m n : MT) : MT := fun ρ S => (m ρ S).bind fun b S1 => match b with
  | true => .ok true S1
  | false => n ρ S1
theorem snd_notT {Γ : Gm} {t : TT} (h : SndT Γ E t mt) : SndT Γ E (tNot t) (mNotT mt) := fun ρ S σ α G H Q hρ hR hp => h ρ S σ α G H _ hρ hR (post_bind hp fun b S1 α1 G1 H1 v _ e1 R1 r1 hp1 => by
  have r1 : b = v := r1
  subst r1
  exact post_ok hp1 R1 rfl)
theorem snd_andT {Γ : Gm} {t u : TT} (h : SndT Γ E t mt) (k : SndT Γ E u mu) : SndT Γ E (tAnd t u) (mAndT mt mu) := fun ρ S σ α G H Q hρ hR hp => h ρ S σ α G H _ hρ hR (post_bind hp fun b S1 α1 G1 H1 v _ e1 R1 r1 hp1 => by
  have r1 : b = v := r1
  subst r1
  cases b with
  | true => exact iteT (k ρ S1 σ α1 G1 H1 Q (hρ.mono e1) R1 hp1)
  | false => exact iteF (post_ok hp1 R1 rfl))
theorem snd_orT {Γ : Gm} {t u : TT} (h : SndT Γ E t mt) (k : SndT Γ E u mu) : SndT Γ E (tOr t u) (mOrT mt mu) := fun ρ S σ α G H Q hρ hR hp => h ρ S σ α G H _ hρ hR (post_bind hp fun b S1 α1 G1 H1 v _ e1 R1 r1 hp1 => by
  have r1 : b = v := r1
  subst r1
  cases b with
  | true => exact iteT (post_ok hp1 R1 rfl)
  | false => exact iteF (k ρ S1 σ α1 G1 H1 Q (hρ.mono e1) R1 hp1))
theorem q_not (h : QT X cl E a mt) : QT X cl E (.UnaryOp .Not a pos) (mNotT mt) := by
  obtain ⟨t, h1, h2⟩ := h.ex
  exact ⟨_, pt_not h1, snd_notT h2⟩
theorem q_w (h : QW X cl E e mt) : QT X cl E e mt := by
  obtain ⟨t, h1, h2⟩ := h.ex
  exact ⟨_, h1.pt, h2⟩
theorem q_and1 (h : QT X cl E a mt) : QW X cl E (.BoolOp .And [a] pos) mt := by
  obtain ⟨t, h1, h2⟩ := h.ex
  exact ⟨_, pw_and1 h1, h2⟩
theorem q_or1 (h : QT X cl E a mt) : QW X cl E (.BoolOp .Or [a] pos) mt := by
  obtain ⟨t, h1, h2⟩ := h.ex
  exact ⟨_, pw_or1 h1, h2⟩
theorem q_and {rest : List Expr} (h : QT X cl E a mt) (k : QW X cl E (.BoolOp .And (b :: rest) pos) mu) : QW X cl E (.BoolOp .And (a :: b :: rest) pos) (mAndT mt mu) := by
  obtain ⟨t, h1, h2⟩ := h.ex
  obtain ⟨u, k1, k2⟩ := k.ex
  exact ⟨_, pw_and h1 k1, snd_andT h2 k2⟩
theorem q_or {rest : List Expr} (h : QT X cl E a mt) (k : QW X cl E (.BoolOp .Or (b :: rest) pos) mu) : QW X cl E (.BoolOp .Or (a :: b :: rest) pos) (mOrT mt mu) := by
  obtain ⟨t, h1, h2⟩ := h.ex
  obtain ⟨u, k1, k2⟩ := k.ex
  exact ⟨_, pw_or h1 k1, snd_orT h2 k2⟩
def mAndV (m n : ME) : ME := fun ρ S => (m ρ S).bind fun d S1 => (oRes (truth S1 d) S1).bind fun b S2 => match b with
  | true => n ρ S2
  | false => .ok d S2
def mOrV (m n : ME) : ME := fun ρ S => (m ρ S).bind fun d S1 => (oRes (truth S1 d) S1).bind fun b S2 => match b with
  | true => .ok d S2
  | false => n ρ S2
def mNotV (m : ME) : ME := fun ρ S => (m ρ S).bind fun d S1 => (oRes (truth S1 d) S1).bind fun b S2 => .ok (.bl (!b)) S2
theorem q_oneV {op : BoolOp} (h : QE X cl E a m) : QE X cl E (.BoolOp op [a] pos) m := by
  obtain ⟨t, h1, h2⟩ := h.ex
  exact ⟨_, pe_one h1, h2⟩
theorem q_andV {rest : List Expr} (h : QE X cl E a ma) (k : QE X cl E (.BoolOp .And (b :: rest) pos) mb) : QE X cl E (.BoolOp .And (a :: b :: rest) pos) (mAndV ma mb) := by
  obtain ⟨t, h1, h2⟩ := h.ex
  obtain ⟨u, k1, k2⟩ := k.ex
  refine ⟨_, pe_andT h1 k1, fun ρ S σ α G H Q hρ hR hp => h2 ρ S σ α G H _ hρ hR (post_bind hp fun d S1 α1 G1 H1 v _ e1 R1 r1 hp1 => ?_)⟩
  cases q : truth S1 d with
  | none => simp [q, Post] at hp1
  | some k =>
    simp only [q, oRes_some, bind_ok] at hp1
    refine ⟨k, truth_at R1 r1 q, ?_⟩
    cases k with
    | true => exact iteT (k2 ρ S1 σ α1 G1 H1 Q (hρ.mono e1) R1 hp1)
    | false => exact iteF (post_ok hp1 R1 r1)
theorem q_orV {rest : List Expr} (h : QE X cl E a ma) (k : QE X cl E (.BoolOp .Or (b :: rest) pos) mb) : QE X cl E (.BoolOp .Or (a :: b :: rest) pos) (mOrV ma mb) := by
  obtain ⟨t, h1, h2⟩ := h.ex
  obtain ⟨u, k1, k2⟩ := k.ex
  refine ⟨_, pe_orT h1 k1, fun ρ S σ α G H Q hρ hR hp => h2 ρ S σ α G H _ hρ hR (post_bind hp fun d S1 α1 G1 H1 v _ e1 R1 r1 hp1 => ?_)⟩
  cases q : truth S1 d with
  | none => simp [q, Post] at hp1
  | some k =>
    simp only [q, oRes_some, bind_ok] at hp1
    refine ⟨k, truth_at R1 r1 q, ?_⟩
    cases k with
    | true => exact iteT (post_ok hp1 R1 r1)
    | false => exact iteF (k2 ρ S1 σ α1 G1 H1 Q (hρ.mono e1) R1 hp1)
theorem q_notV (h : QE X cl E a ma) : QE X cl E (.UnaryOp .Not a pos) (mNotV ma) := by
  obtain ⟨t, h1, h2⟩ := h.ex
  refine ⟨_, pe_notT h1, fun ρ S σ α G H Q hρ hR hp => h2 ρ S σ α G H _ hρ hR (post_bind hp fun d S1 α1 G1 H1 v _ e1 R1 r1 hp1 => ?_)⟩
  cases q : truth S1 d with
  | none => simp [q, Post] at hp1
  | some k =>
    simp only [q, oRes_some, bind_ok] at hp1
    exact ⟨k, truth_at R1 r1 q, post_ok (x := V.bl (!k)) hp1 R1 (by simp [Rep])⟩
def mIfE (t : MT) (m n : ME) : ME := fun ρ S => (t ρ S).bind fun b S1 => match b with
  | true => m ρ S1
  | false => n ρ S1
theorem q_ifE {c : Expr} (hc : QT X cl E c mt) (ha : QE X cl E a ma) (hb : QE X cl E b mb) : QE X cl E (.IfExp c a b pos) (mIfE mt ma mb) := by
  obtain ⟨t, h1, h2⟩ := hc.ex
  obtain ⟨u, k1, k2⟩ := ha.ex
  obtain ⟨w, l1, l2⟩ := hb.ex
  refine ⟨_, pe_ifExp h1 k1 l1, fun ρ S σ α G H Q hρ hR hp => h2 ρ S σ α G H _ hρ hR (post_bind hp fun b S1 α1 G1 H1 v _ e1 R1 r1 hp1 => ?_)⟩
  have r1 : b = v := r1
  subst r1
  cases b with
  | true => exact iteT (k2 ρ S1 σ α1 G1 H1 Q (hρ.mono e1) R1 hp1)
  | false => exact iteF (l2 ρ S1 σ α1 G1 H1 Q (hρ.mono e1) R1 hp1)
def isNon : D → Bool
  | .non => true
  | _ => false
def mIsN (m : ME) : ME := fun ρ S => (m ρ S).bind fun d S1 => .ok (.bl (isNon d)) S1
def mNotN (m : ME) : ME := fun ρ S => (m ρ S).bind fun d S1 => .ok (.bl (!isNon d)) S1
theorem isNon_at {Γ : Gm} {α : List Addr} {G : Hp} {d : D} {v : V} (r : Rep Γ α G d v) : decide (v = .non) = isNon d := by
  cases d <;> (unfold Rep at r; first
    | (subst r; simp [isNon]; done)
    | (obtain ⟨a, vs, rfl, _⟩ := r; simp [isNon]; done)
    | (obtain ⟨a, rfl, _⟩ := r; simp [isNon]; done))
theorem snd_isN {Γ : Gm} {t : TE} (h : SndE Γ E t m) : SndE Γ E (tIsN t) (mIsN m) := fun ρ S σ α G H Q hρ hR hp => h ρ S σ α G H _ hρ hR (post_bind hp fun d S1 α1 G1 H1 v _ e1 R1 r1 hp1 => by
  rw [isNon_at r1]
  exact post_ok hp1 R1 (by simp [Rep]))
theorem snd_notN {Γ : Gm} {t : TE} (h : SndE Γ E t m) : SndE Γ E (tNotN t) (mNotN m) := fun ρ S σ α G H Q hρ hR hp => h ρ S σ α G H _ hρ hR (post_bind hp fun d S1 α1 G1 H1 v _ e1 R1 r1 hp1 => by
  rw [isNon_at r1]
  exact post_ok hp1 R1 (by simp [Rep]))
theorem q_isN {j pos'} (h : QE X cl E a m) : QE X cl E (.Compare a [.Is] [.Constant .none j pos'] pos) (mIsN m) := by
  obtain ⟨t, h1, h2⟩ := h.ex
  exact ⟨_, pe_cmp (pc_isN h1), snd_isN h2⟩
theorem q_notN {j pos'} (h : QE X cl E a m) : QE X cl E (.Compare a [.IsNot] [.Constant .none j pos'] pos) (mNotN m) := by
  obtain ⟨t, h1, h2⟩ := h.ex
  exact ⟨_, pe_cmp (pc_notN h1), snd_notN h2⟩
theorem snd_tB {Γ : Gm} {t : TE} (h : SndE Γ E t m) : SndT Γ E (tB t) (mTB m) := snd_tb h
theorem q_tisN {j pos'} (h : QE X cl E a m) : QT X cl E (.Compare a [.Is] [.Constant .none j pos'] pos) (mTB (mIsN m)) := by
  obtain ⟨t, h1, h2⟩ := h.ex
  exact ⟨_, pt_cmp (pc_isN h1), snd_tB (snd_isN h2)⟩
theorem q_tnotN {j pos'} (h : QE X cl E a m) : QT X cl E (.Compare a [.IsNot] [.Constant .none j pos'] pos) (mTB (mNotN m)) := by
  obtain ⟨t, h1, h2⟩ := h.ex
  exact ⟨_, pt_cmp (pc_notN h1), snd_tB (snd_notN h2)⟩
def mNil : MA := fun _ S => .ok [] S
def mCons (m : ME) (n : MA) : MA := fun ρ S => (m ρ S).bind fun d S1 => (n ρ S1).bind fun ds S2 => .ok (d :: ds) S2
theorem snd_nil {Γ : Gm} : SndA Γ E tNil mNil := fun ρ S σ α G H Q hρ hR hp => post_ok (x := ([] : List V)) hp hR (by simp [RepL])
theorem snd_cons {Γ : Gm} {t : TE} {u : TA} {n : MA} (h : SndE Γ E t m) (k : SndA Γ E u n) : SndA Γ E (tCons t u) (mCons m n) := fun ρ S σ α G H Q hρ hR hp =>
  h ρ S σ α G H _ hρ hR (post_bind hp fun d S1 α1 G1 H1 v _ e1 R1 r1 hp1 => k ρ S1 σ α1 G1 H1 _ (hρ.mono e1) R1 (post_bind hp1 fun ds S2 α2 G2 H2 vs _ e2 R2 r2 hp2 =>
    post_ok hp2 R2 (by show RepL _ _ _ (d :: ds) (v :: vs); unfold RepL; exact ⟨v, vs, rfl, Rep.mono e2.pre e2.sub _ _ r1, r2⟩)))
theorem q_nil : QA X cl E [] mNil := ⟨_, pa_nil, snd_nil⟩
theorem q_cons {es : List Expr} {n : MA} (h : QE X cl E e m) (k : QA X cl E es n) (hs : starEach (e :: es) X.env = (false, eval e X.env) :: starEach es X.env := by rfl) : QA X cl E (e :: es) (mCons m n) := by
  obtain ⟨t, h1, h2⟩ := h.ex
  obtain ⟨u, k1, k2⟩ := k.ex
  exact ⟨_, pa_cons h1 k1 hs, snd_cons h2 k2⟩
def mTup (n : MA) : ME := fun ρ S => (n ρ S).bind fun ds S1 => if ds.length ≤ 100000 then .ok (.tup ds) S1 else .no
def mLst (n : MA) : ME := fun ρ S => (n ρ S).bind fun ds S1 => if ds.length ≤ 100000 then .ok (.lst ds) S1 else .no
/-- a new cell -/
def mCell (n : MA) : ME := fun ρ S => (n ρ S).bind fun ds S1 => if ds.length ≤ 100000 then .ok (.ref S1.length) (S1 ++ [.lst ds]) else .no
theorem q_tup {es : List Expr} {n : MA} {x1} (h : QA X cl E es n) : QE X cl E (.Tuple es x1 pos) (mTup n) := by
  obtain ⟨t, h1, h2⟩ := h.ex
  refine ⟨_, pe_tup h1, fun ρ S σ α G H Q hρ hR hp => h2 ρ S σ α G H _ hρ hR (post_bind hp fun ds S1 α1 G1 H1 vs _ e1 R1 r1 hp1 => ?_)⟩
  split at hp1
  · rename_i hs
    exact ⟨by rw [← r1.length]; exact sz hs, fun p hz => post_tup R1 r1 hp1 hz⟩
  · exact hp1.elim
theorem q_lst {es : List Expr} {n : MA} (h : QA X cl E es n) : QE X cl E (.List es pos) (mLst n) := by
  obtain ⟨t, h1, h2⟩ := h.ex
  refine ⟨_, pe_lst h1, fun ρ S σ α G H Q hρ hR hp => h2 ρ S σ α G H _ hρ hR (post_bind hp fun ds S1 α1 G1 H1 vs _ e1 R1 r1 hp1 => ?_)⟩
  split at hp1
  · rename_i hs
    exact ⟨by rw [← r1.length]; exact sz hs, fun p hz => post_lst R1 r1 hp1 hz⟩
  · exact hp1.elim
theorem q_cell {es : List Expr} {n : MA} (h : QA X cl E es n) : QE X cl E (.List es pos) (mCell n) := by
  obtain ⟨t, h1, h2⟩ := h.ex
  refine ⟨_, pe_lst h1, fun ρ S σ α G H Q hρ hR hp => h2 ρ S σ α G H _ hρ hR (post_bind hp fun ds S1 α1 G1 H1 vs _ e1 R1 r1 hp1 => ?_)⟩
  split at hp1
  · rename_i hs
    exact ⟨by rw [← r1.length]; exact sz hs, fun p hz => post_cell R1 r1 hp1 hz⟩
  · exact hp1.elim
def fz (d : D) (S : Store) : Res D := match d with
  | .ref k => match S[k]? with
    | some (.lst xs) => .ok (.lst xs) (S.set k (.frz xs))
    | some (.frz xs) => .ok (.lst xs) S
    | _ => .no
  | d => .ok d S
def mFrz (m : ME) : ME := fun ρ S => (m ρ S).bind fz
theorem fz_at {Γ : Gm} {α : List Addr} {G H : Hp} {S : Store} {d : D} {v : V} {Q : VK} (R : Rl Γ α G S H) (r : Rep Γ α G d v) (hp : Post Γ (Rep Γ) α G H (fz d S) Q E) : Q v H := by
  cases d with
  | ref k =>
    simp only [fz] at hp
    unfold Rep at r
    obtain ⟨a, rfl, ha⟩ := r
    cases hc : S[k]? with
    | none => simp [hc, Post] at hp
    | some c =>
      cases c with
      | lst xs =>
        simp only [hc] at hp
        obtain ⟨vs, r1, R1, e1⟩ := R.freeze hc ha
        exact hp _ _ _ _ e1 R1 (rep_lst upd_same (RepL.mono e1.pre e1.sub _ _ r1))
      | frz xs =>
        simp only [hc] at hp
        obtain ⟨vs, h1, h2⟩ := (R.ok k _ a hc ha).frz
        exact post_ok hp R (rep_lst h1 h2)
      | _ => simp [hc, Post] at hp
  | _ => exact post_ok hp R r
theorem snd_frz {Γ : Gm} {t : TE} (h : SndE Γ E t m) : SndE Γ E t (mFrz m) := fun ρ S σ α G H Q hρ hR hp => h ρ S σ α G H _ hρ hR (post_bind hp fun d S1 α1 G1 H1 v _ e1 R1 r1 hp1 => fz_at R1 r1 hp1)
theorem q_frz (h : QE X cl E e m) : QE X cl E e (mFrz m) := by
  obtain ⟨t, h1, h2⟩ := h.ex
  exact ⟨t, h1, snd_frz h2⟩
def opIx : D → D → Store → Res D := fun a b S => match b with
  | .int i => match a with
    | .tup xs => oRes (atI xs i) S
    | .str s => if s.length ≤ 100000 then match atI s.cps.toList i with
        | some c => .ok (.str ⟨#[c]⟩) S
        | none => .no
      else .no
    | a => match rdL S a with
      | some xs => oRes (atI xs i) S
      | none => .no
  | _ => .no
theorem atI_rep {Γ : Gm} {α : List Addr} {G : Hp} {xs : List D} {vs : List V} {i : Int} {d : D} (r : RepL Γ α G xs vs) (h : atI xs i = some d) : ∃ v, atI vs i = some v ∧ Rep Γ α G d v := by
  unfold atI at h ⊢
  rw [r.length] at h
  cases q : ixN vs.length i with
  | none => simp [q] at h
  | some j =>
    simp only [q, Option.bind_some] at h ⊢
    exact r.get h
structure QIx (X : Cx) (cl : Nat → Addr) (E : XK) (f : D → D → Store → Res D) : Prop where
  ex : ∃ r, IxR X r ∧ SndR ⟨X.K, cl⟩ E r f
theorem ixQ : QIx X cl E opIx := by
  refine ⟨_, ix_seq, fun a b S α G H x y Q hR ra rb h => ?_⟩
  cases b <;> try exact h.elim
  rename_i i
  simp only [opIx] at h
  simp only [Rep] at rb
  have lists : ∀ o, rdL S a = o → Post ⟨X.K, cl⟩ (Rep ⟨X.K, cl⟩) α G H (match o with
      | some xs => oRes (atI xs i) S
      | none => .no) Q E → rIx X.K x y H Q := fun o q h => by
    cases o with
    | none => exact h.elim
    | some xs =>
      obtain ⟨p, vs, rfl, q1, r1⟩ := rdL_at hR ra q
      cases z : atI xs i with
      | none => simp [z, Post] at h
      | some d =>
        simp only [z, oRes_some] at h
        obtain ⟨v, e, rv⟩ := atI_rep r1 z
        exact .inl ⟨p, vs, i, v, rfl, rb, q1, e, post_ok h hR rv⟩
  cases a with
  | tup xs =>
    obtain ⟨p, vs, rfl, q1, r1⟩ := tup_at hR ra
    simp only at h
    cases z : atI xs i with
    | none => simp [z, Post] at h
    | some d =>
      simp only [z, oRes_some] at h
      obtain ⟨v, e, rv⟩ := atI_rep r1 z
      exact .inr (.inl ⟨p, vs, i, v, rfl, rb, q1, e, post_ok h hR rv⟩)
  | str s =>
    simp only at h
    simp only [Rep] at ra
    split at h
    · rename_i hs
      cases z : atI s.cps.toList i with
      | none => simp [z, Post] at h
      | some c =>
        simp only [z] at h
        exact .inr (.inr ⟨s, i, c, ra, rb, sz hs, z, post_ok h hR (by simp [Rep])⟩)
    · exact h.elim
  | _ => exact lists _ rfl h
theorem q_ix (ha : QE X cl E a ma) (hb : QE X cl E b mb) (hs : PlainIx b := by exact fun _ _ => rfl) : QE X cl E (.Subscript a b pos) (mOp opIx ma mb) := by
  obtain ⟨r, h1, h2⟩ := (ixQ (X := X) (cl := cl) (E := E)).ex
  obtain ⟨ta, a1, a2⟩ := ha.ex
  obtain ⟨tb, b1, b2⟩ := hb.ex
  exact ⟨_, pe_ix h1 a1 b1 hs, snd_op h2 a2 b2⟩
abbrev MO := Env → Store → Res (Option Int)
def RO : List Addr → Hp → Option Int → Option Int → Prop := fun _ _ a b => a = b
def SndO (Γ : Gm) (E : XK) (t : TO) (m : MO) : Prop := ∀ (ρ : Env) (S : Store) (σ : L2.St) (α : List Addr) (G H : Hp) (Q : Option Int → Hp → Prop), EnvR Γ α G ρ σ → Rl Γ α G S H → Post Γ RO α G H (m ρ S) Q E → t σ H Q
structure QO (X : Cx) (cl : Nat → Addr) (E : XK) (e : Option Expr) (m : MO) : Prop where
  ex : ∃ t, PO X e t ∧ SndO ⟨X.K, cl⟩ E t m
def mNoO : MO := fun _ S => .ok none S
def mSoO (m : ME) : MO := fun ρ S => (m ρ S).bind fun d S1 => match d with
  | .int i => .ok (some i) S1
  | _ => .no
theorem q_noO : QO X cl E none mNoO := ⟨_, po_none, fun ρ S σ α G H Q hρ hR hp => post_ok hp hR rfl⟩
theorem q_soO (h : QE X cl E e m) : QO X cl E (some e) (mSoO m) := by
  obtain ⟨t, h1, h2⟩ := h.ex
  refine ⟨_, po_some h1, fun ρ S σ α G H Q hρ hR hp => h2 ρ S σ α G H _ hρ hR (post_bind hp fun d S1 α1 G1 H1 v _ e1 R1 r1 hp1 => ?_)⟩
  cases d <;> try exact hp1.elim
  simp only [Rep] at r1
  exact ⟨_, r1, post_ok hp1 R1 rfl⟩
def cutD (xs : List D) (lo hi : Option Int) : List D := (xs.drop (HT.sIx xs.length 0 lo)).take (HT.sIx xs.length xs.length hi - HT.sIx xs.length 0 lo)
theorem cut_rep {Γ : Gm} {α : List Addr} {G : Hp} {xs : List D} {vs : List V} (r : RepL Γ α G xs vs) (lo hi : Option Int) : RepL Γ α G (cutD xs lo hi) (cutV vs lo hi) := by
  unfold cutD cutV
  rw [r.length]
  exact (r.drop _).take _
def opSl : D → Option Int → Option Int → Store → Res D := fun a lo hi S => match a with
  | .tup xs => .ok (.tup (cutD xs lo hi)) S
  | .str s => if s.length ≤ 100000 then .ok (.str (cutS s lo hi)) S else .no
  | a => match rdL S a with
    | some xs => .ok (.lst (cutD xs lo hi)) S
    | none => .no
def mSl (m : ME) (l h : MO) : ME := fun ρ S => (m ρ S).bind fun d S1 => (l ρ S1).bind fun lo S2 => (h ρ S2).bind fun hi S3 => opSl d lo hi S3
theorem cutD_whole {xs : List D} {lo hi : Option Int} (h : HT.sIx xs.length 0 lo = 0 ∧ HT.sIx xs.length xs.length hi = xs.length) : cutD xs lo hi = xs := by
  unfold cutD
  rw [h.1, h.2]
  simp
theorem snd_sl {Γ : Gm} : ∀ (d : D) (lo hi : Option Int) (S : Store) (α : List Addr) (G H : Hp) (x : V) (Q : VK), Rl Γ α G S H → Rep Γ α G d x → Post Γ (Rep Γ) α G H (opSl d lo hi S) Q E → (rSlL Γ.K x lo hi H Q ∨ rSlA Γ.K x lo hi H Q ∨ rSlS x lo hi H Q) := by
  intro d lo hi S α G H x Q hR ra h
  have lists : ∀ o, rdL S d = o → Post Γ (Rep Γ) α G H (match o with
      | some xs => Res.ok (.lst (cutD xs lo hi)) S
      | none => .no) Q E → rSlL Γ.K x lo hi H Q := fun o q h => by
    cases o with
    | none => exact h.elim
    | some xs =>
      obtain ⟨p, vs, rfl, q1, r1⟩ := rdL_at hR ra q
      exact ⟨p, vs, rfl, q1, fun z hz => post_lst hR (cut_rep r1 lo hi) h hz⟩
  cases d with
  | tup xs =>
    obtain ⟨p, vs, rfl, q1, r1⟩ := tup_at hR ra
    simp only [opSl] at h
    refine .inr (.inl ⟨p, vs, rfl, q1, fun w => ?_, fun _ z hz => post_tup hR (cut_rep r1 lo hi) h hz⟩)
    rw [← r1.length] at w
    rw [cutD_whole w] at h
    exact post_ok h hR ra
  | str s =>
    simp only [opSl] at h
    simp only [Rep] at ra
    split at h
    · rename_i hs
      exact .inr (.inr ⟨s, ra, sz hs, post_ok h hR (by simp [Rep])⟩)
    · exact h.elim
  | _ => exact .inl (lists _ rfl h)
theorem q_sl {lo hi : Option Expr} {l h : MO} {p2 : Pos} (ha : QE X cl E a ma) (hl : QO X cl E lo l) (hh : QO X cl E hi h) : QE X cl E (.Subscript a (.Slice lo hi none p2) pos) (mSl ma l h) := by
  obtain ⟨t, h1, h2⟩ := ha.ex
  obtain ⟨u, k1, k2⟩ := hl.ex
  obtain ⟨w, l1, l2⟩ := hh.ex
  refine ⟨_, pe_slice (sl_list.or (sl_tupA.or sl_str)) h1 k1 l1, fun ρ S σ α G H Q hρ hR hp => h2 ρ S σ α G H _ hρ hR (post_bind hp fun d S1 α1 G1 H1 v _ e1 R1 r1 hp1 => ?_)⟩
  refine k2 ρ S1 σ α1 G1 H1 _ (hρ.mono e1) R1 (post_bind hp1 fun o S2 α2 G2 H2 o' _ e2 R2 r2 hp2 => ?_)
  refine l2 ρ S2 σ α2 G2 H2 _ ((hρ.mono e1).mono e2) R2 (post_bind hp2 fun i S3 α3 G3 H3 i' _ e3 R3 r3 hp3 => ?_)
  have r2 : o = o' := r2
  have r3 : i = i' := r3
  subst r2 r3
  exact snd_sl d o i S3 α3 G3 H3 v Q R3 (Rep.mono e3.pre e3.sub _ _ (Rep.mono e2.pre e2.sub _ _ r1)) hp3
/-- -a -/
def mNeg (m : ME) : ME := fun ρ S => (m ρ S).bind fun d S1 => match d with
  | .int i => .ok (.int (-i)) S1
  | _ => .no
theorem q_neg (h : QE X cl E a m) : QE X cl E (.UnaryOp .USub a pos) (mNeg m) := by
  obtain ⟨t, h1, h2⟩ := h.ex
  refine ⟨_, pe_un un_neg h1, fun ρ S σ α G H Q hρ hR hp => h2 ρ S σ α G H _ hρ hR (post_bind hp fun d S1 α1 G1 H1 v _ e1 R1 r1 hp1 => ?_)⟩
  cases d <;> try exact hp1.elim
  simp only [Rep] at r1
  exact ⟨_, r1, post_ok hp1 R1 (by simp [Rep])⟩
end
end Q
namespace Q
open PySem L2
section
variable {X : Cx} {cl : Nat → Addr} {E : XK} {a b c e : Expr} {ma mb mc m : ME} {mt mu : MT} {pos : Pos}
def SndC (Γ : Gm) (E : XK) (r : List V → Hp → VK → Prop) (f : List D → Store → Res D) : Prop := ∀ (ds : List D) (S : Store) (α : List Addr) (G H : Hp) (vs : List V) (Q : VK), Rl Γ α G S H → RepL Γ α G ds vs → Post Γ (Rep Γ) α G H (f ds S) Q E → r vs H Q
structure QC (X : Cx) (cl : Nat → Addr) (E : XK) (v : Value) (f : List D → Store → Res D) : Prop where
  ex : ∃ r, CallR X v r ∧ SndC ⟨X.K, cl⟩ E r f
def mCall (f : List D → Store → Res D) (n : MA) : ME := fun ρ S => (n ρ S).bind f
theorem snd_cb {Γ : Gm} {r : List V → Hp → VK → Prop} {f : List D → Store → Res D} {n : MA} {t : TA} (hr : SndC Γ E r f) (h : SndA Γ E t n) : SndE Γ E (tCB r t) (mCall f n) := fun ρ S σ α G H Q hρ hR hp =>
  h ρ S σ α G H _ hρ hR (post_bind hp fun ds S1 α1 G1 H1 vs _ e1 R1 r1 hp1 => hr ds S1 α1 G1 H1 vs Q R1 r1 hp1)
theorem q_callB {x : Str} {p : Pos} {id : String} {es : List Expr} {n : MA} {f : List D → Store → Res D} (hc : QC X cl E (.builtin id) f) (hg : Gl X x) (hm : X.mg x = none) (hv : bootBuiltins x = some (.builtin id)) (ha : QA X cl E (e :: es) n) (hn : x ≠ "__name__" := by decide) (hdb : (x == ("__debug__" : Str)) = false := by decide)
    (he : starEach (e :: es) X.env = (false, eval e X.env) :: starEach es X.env := by rfl) (hpl : (backTo pos (starEach es X.env)).any (·.1) = false := by rfl) : QE X cl E (.Call (.Name x p) (e :: es) [] pos) (mCall f n) := by
  obtain ⟨r, h1, h2⟩ := hc.ex
  obtain ⟨t, k1, k2⟩ := ha.ex
  exact ⟨_, pe_callB h1 hg hm hv k1 hn hdb he hpl, snd_cb h2 k2⟩
theorem q_callTy {x : Str} {p : Pos} {T : String} {es : List Expr} {n : MA} {f : List D → Store → Res D} (hc : QC X cl E (.type T) f) (hg : Gl X x) (hm : X.mg x = none) (hv : bootBuiltins x = some (.type T)) (ha : QA X cl E (e :: es) n) (hn : x ≠ "__name__" := by decide) (hdb : (x == ("__debug__" : Str)) = false := by decide)
    (he : starEach (e :: es) X.env = (false, eval e X.env) :: starEach es X.env := by rfl) (hpl : (backTo pos (starEach es X.env)).any (·.1) = false := by rfl) : QE X cl E (.Call (.Name x p) (e :: es) [] pos) (mCall f n) := by
  obtain ⟨r, h1, h2⟩ := hc.ex
  obtain ⟨t, k1, k2⟩ := ha.ex
  exact ⟨_, pe_callTy h1 hg hm hv k1 hn hdb he hpl, snd_cb h2 k2⟩
theorem repL1 {Γ : Gm} {α : List Addr} {G : Hp} {d : D} {vs : List V} (r : RepL Γ α G [d] vs) : ∃ v, vs = [v] ∧ Rep Γ α G d v := by
  unfold RepL at r
  obtain ⟨v, w, rfl, h1, h2⟩ := r
  unfold RepL at h2
  subst h2
  exact ⟨v, rfl, h1⟩
theorem repL2 {Γ : Gm} {α : List Addr} {G : Hp} {d d' : D} {vs : List V} (r : RepL Γ α G [d, d'] vs) : ∃ v v', vs = [v, v'] ∧ Rep Γ α G d v ∧ Rep Γ α G d' v' := by
  unfold RepL at r
  obtain ⟨v, w, rfl, h1, h2⟩ := r
  obtain ⟨v', rfl, h3⟩ := repL1 h2
  exact ⟨v, v', rfl, h1, h3⟩
def un1 (g : D → Store → Res D) : List D → Store → Res D
  | [d], S => g d S
  | _, _ => .no
def un2 (g : D → D → Store → Res D) : List D → Store → Res D
  | [d, d'], S => g d d' S
  | _, _ => .no
theorem snd_un1 {Γ : Gm} {r : List V → Hp → VK → Prop} {g : D → Store → Res D} (h : ∀ d S α G H v Q, Rl Γ α G S H → Rep Γ α G d v → Post Γ (Rep Γ) α G H (g d S) Q E → r [v] H Q) : SndC Γ E r (un1 g) := fun ds S α G H vs Q hR rv hp => by
  cases ds with
  | nil => exact hp.elim
  | cons d ds =>
    cases ds with
    | nil =>
      obtain ⟨v, rfl, rv'⟩ := repL1 rv
      exact h d S α G H v Q hR rv' hp
    | cons _ _ => exact hp.elim
theorem snd_un2 {Γ : Gm} {r : List V → Hp → VK → Prop} {g : D → D → Store → Res D} (h : ∀ d d' S α G H v v' Q, Rl Γ α G S H → Rep Γ α G d v → Rep Γ α G d' v' → Post Γ (Rep Γ) α G H (g d d' S) Q E → r [v, v'] H Q) : SndC Γ E r (un2 g) := fun ds S α G H vs Q hR rv hp => by
  cases ds with
  | nil => exact hp.elim
  | cons d ds =>
    cases ds with
    | nil => exact hp.elim
    | cons d' ds =>
      cases ds with
      | cons _ _ => exact hp.elim
      | nil =>
        obtain ⟨v, v', rfl, r1, r2⟩ := repL2 rv
        exact h d d' S α G H v v' Q hR r1 r2 hp
/-- the items of a list or a tuple -/
def seqOf (S : Store) : D → Option (List D)
  | .tup xs => some xs
  | d => rdL S d
theorem seqOf_at {Γ : Gm} {α : List Addr} {G H : Hp} {S : Store} (R : Rl Γ α G S H) {d : D} {v : V} {xs : List D} (r : Rep Γ α G d v) (h : seqOf S d = some xs) : ∃ a vs, v = .ref a ∧ (SqL Γ.K H a vs ∨ SqT Γ.K H a vs) ∧ RepL Γ α G xs vs := by
  have go : rdL S d = some xs → ∃ a vs, v = .ref a ∧ (SqL Γ.K H a vs ∨ SqT Γ.K H a vs) ∧ RepL Γ α G xs vs := fun h => by
    obtain ⟨a, vs, e, q, r⟩ := rdL_at R r h
    exact ⟨a, vs, e, .inl q, r⟩
  cases d with
  | tup ys =>
    have e : ys = xs := Option.some.inj h
    subst e
    obtain ⟨a, vs, e, q, r⟩ := tup_at R r
    exact ⟨a, vs, e, .inr q, r⟩
  | _ => exact go h
def gLen : D → Store → Res D := fun d S => match d with
  | .str s => if s.length ≤ 100000 then .ok (.int s.length) S else .no
  | d => match seqOf S d with
    | some xs => .ok (.int xs.length) S
    | none => .no
def fLen := un1 gLen
theorem lenQ : QC X cl E (.builtin "len") fLen := by
  refine ⟨_, call_len, snd_un1 fun d S α G H v Q hR rv h => ?_⟩
  have seqs : ∀ o, seqOf S d = o → Post ⟨X.K, cl⟩ (Rep ⟨X.K, cl⟩) α G H (match o with
      | some xs => Res.ok (.int xs.length) S
      | none => .no) Q E → ∃ x n, [v] = [x] ∧ LenV X.K x H n ∧ Q (.int n) H := fun o q h => by
    cases o with
    | none => exact h.elim
    | some xs =>
      obtain ⟨p, ws, rfl, q1, r1⟩ := seqOf_at hR rv q
      refine ⟨.ref p, xs.length, rfl, ?_, post_ok h hR (by simp [Rep])⟩
      rcases q1 with q1 | q1
      · exact .inl ⟨ws, q1, r1.length⟩
      · exact .inr ⟨ws, q1, r1.length⟩
  cases d with
  | str s =>
    simp only [gLen] at h
    simp only [Rep] at rv
    split at h
    · rename_i hs
      exact ⟨v, s.length, rfl, by subst rv; exact ⟨sz hs, rfl⟩, post_ok h hR (by simp [Rep])⟩
    · exact h.elim
  | _ => exact seqs _ rfl h
def gAbs : D → Store → Res D := fun d S => match d with
  | .int i => .ok (.int (if i < 0 then -i else i)) S
  | _ => .no
def fAbs := un1 gAbs
theorem absQ : QC X cl E (.builtin "abs") fAbs := by
  refine ⟨_, call_abs, snd_un1 fun d S α G H v Q hR rv h => ?_⟩
  cases d <;> try exact h.elim
  rename_i i
  simp only [Rep] at rv
  subst rv
  exact ⟨i, rfl, post_ok (x := V.int (if i < 0 then -i else i)) h hR (by simp [Rep])⟩
def gInt : D → Store → Res D := fun d S => match d with
  | .int i => .ok (.int i) S
  | .bl b => .ok (.int (if b then 1 else 0)) S
  | _ => .no
def fInt := un1 gInt
theorem intQ : QC X cl E (.type "int") fInt := by
  refine ⟨_, call_int1, snd_un1 fun d S α G H v Q hR rv h => ?_⟩
  cases d <;> try exact h.elim
  · rename_i b
    simp only [Rep] at rv
    subst rv
    exact .inr ⟨b, rfl, post_ok (x := V.int (if b then 1 else 0)) h hR (by simp [Rep])⟩
  · rename_i i
    simp only [Rep] at rv
    subst rv
    exact .inl ⟨i, rfl, post_ok (x := V.int i) h hR (by simp [Rep])⟩
def gList : D → Store → Res D := fun d S => match seqOf S d with
  | some xs => .ok (.lst xs) S
  | none => .no
def gListC : D → Store → Res D := fun d S => match seqOf S d with
  | some xs => .ok (.ref S.length) (S ++ [.lst xs])
  | none => .no
def fList := un1 gList
def fListC := un1 gListC
theorem listQ : QC X cl E (.type "list") fList := by
  refine ⟨_, call_list_of, snd_un1 fun d S α G H v Q hR rv h => ?_⟩
  simp only [gList] at h
  cases q : seqOf S d with
  | none => simp [q, Post] at h
  | some xs =>
    simp only [q] at h
    obtain ⟨p, ws, rfl, q1, r1⟩ := seqOf_at hR rv q
    exact ⟨p, ws, rfl, q1, fun z hz => post_lst hR r1 h hz⟩
theorem listCQ : QC X cl E (.type "list") fListC := by
  refine ⟨_, call_list_of, snd_un1 fun d S α G H v Q hR rv h => ?_⟩
  simp only [gListC] at h
  cases q : seqOf S d with
  | none => simp [q, Post] at h
  | some xs =>
    simp only [q] at h
    obtain ⟨p, ws, rfl, q1, r1⟩ := seqOf_at hR rv q
    exact ⟨p, ws, rfl, q1, fun z hz => post_cell hR r1 h hz⟩
def gTuple : D → Store → Res D := fun d S => match d with
  | .tup xs => .ok (.tup xs) S
  | d => match rdL S d with
    | some xs => .ok (.tup xs) S
    | none => .no
def fTuple := un1 gTuple
theorem tupleQ : QC X cl E (.type "tuple") fTuple := by
  refine ⟨_, call_tuple_of, snd_un1 fun d S α G H v Q hR rv h => ?_⟩
  have lists : ∀ o, rdL S d = o → Post ⟨X.K, cl⟩ (Rep ⟨X.K, cl⟩) α G H (match o with
      | some xs => Res.ok (.tup xs) S
      | none => .no) Q E → ∃ p ys, [v] = [.ref p] ∧ ((SqL X.K H p ys ∧ ∀ l, H l = none → Q (.ref l) (upd H l (.tup ys))) ∨ (SqT X.K H p ys ∧ Q (.ref p) H)) := fun o q h => by
    cases o with
    | none => exact h.elim
    | some xs =>
      obtain ⟨p, ws, rfl, q1, r1⟩ := rdL_at hR rv q
      exact ⟨p, ws, rfl, .inl ⟨q1, fun z hz => post_tup hR r1 h hz⟩⟩
  cases d with
  | tup xs =>
    obtain ⟨p, ws, rfl, q1, r1⟩ := tup_at hR rv
    exact ⟨p, ws, rfl, .inr ⟨q1, post_ok h hR rv⟩⟩
  | _ => exact lists _ rfl h
/-- the truths of a list of True and False -/
def boolsD : List D → Option (List Bool)
  | [] => some []
  | .bl b :: ds => (boolsD ds).map (b :: ·)
  | _ => none
def intsD : List D → Option (List Int)
  | [] => some []
  | .int b :: ds => (intsD ds).map (b :: ·)
  | _ => none
theorem bools_rep {Γ : Gm} {α : List Addr} {G : Hp} : ∀ {ds : List D} {vs : List V} {bs : List Bool}, RepL Γ α G ds vs → boolsD ds = some bs → vs = bs.map V.bl
  | [], vs, bs, r, h => by
    unfold RepL at r
    simp only [boolsD, Option.some.injEq] at h
    subst r h
    rfl
  | d :: ds, vs, bs, r, h => by
    unfold RepL at r
    obtain ⟨v, w, rfl, h1, h2⟩ := r
    cases d <;> simp only [boolsD, reduceCtorEq] at h
    rename_i b
    simp only [Rep] at h1
    subst h1
    cases q : boolsD ds with
    | none => simp [q] at h
    | some cs =>
      simp only [q, Option.map_some, Option.some.injEq] at h
      subst h
      rw [bools_rep h2 q]
      rfl
theorem ints_rep {Γ : Gm} {α : List Addr} {G : Hp} : ∀ {ds : List D} {vs : List V} {bs : List Int}, RepL Γ α G ds vs → intsD ds = some bs → vs = bs.map V.int
  | [], vs, bs, r, h => by
    unfold RepL at r
    simp only [intsD, Option.some.injEq] at h
    subst r h
    rfl
  | d :: ds, vs, bs, r, h => by
    unfold RepL at r
    obtain ⟨v, w, rfl, h1, h2⟩ := r
    cases d <;> simp only [intsD, reduceCtorEq] at h
    rename_i b
    simp only [Rep] at h1
    subst h1
    cases q : intsD ds with
    | none => simp [q] at h
    | some cs =>
      simp only [q, Option.map_some, Option.some.injEq] at h
      subst h
      rw [ints_rep h2 q]
      rfl
def onBools (g : List Bool → D) := un1 fun d S => match (rdL S d).bind boolsD with
  | some bs => .ok (g bs) S
  | none => .no
def onInts (c : List Int → Bool) (g : List Int → D) := un1 fun d S => match (rdL S d).bind intsD with
  | some bs => if c bs then .ok (g bs) S else .no
  | none => .no
def fAll := onBools fun bs => .bl (bs.all id)
def fAny := onBools fun bs => .bl (bs.any id)
def fSum := onInts (fun _ => true) fun ns => .int ns.sum
def maxI : List Int → Int
  | [] => 0
  | [x] => x
  | x :: xs => if maxI xs > x then maxI xs else x
def minI : List Int → Int
  | [] => 0
  | [x] => x
  | x :: xs => if minI xs < x then minI xs else x
theorem maxI_ge : ∀ {ns : List Int} {y : Int}, y ∈ ns → y ≤ maxI ns
  | [x], y, h => by simp at h; subst h; simp [maxI]
  | x :: x' :: xs, y, h => by
    have ih : ∀ z ∈ x' :: xs, z ≤ maxI (x' :: xs) := fun z hz => maxI_ge hz
    rcases List.mem_cons.mp h with rfl | h
    · show y ≤ if maxI (x' :: xs) > y then maxI (x' :: xs) else y
      split <;> omega
    · have := ih y h
      show y ≤ if maxI (x' :: xs) > x then maxI (x' :: xs) else x
      split <;> omega
theorem minI_le : ∀ {ns : List Int} {y : Int}, y ∈ ns → minI ns ≤ y
  | [x], y, h => by simp at h; subst h; simp [minI]
  | x :: x' :: xs, y, h => by
    have ih : ∀ z ∈ x' :: xs, minI (x' :: xs) ≤ z := fun z hz => minI_le hz
    rcases List.mem_cons.mp h with rfl | h
    · show (if minI (x' :: xs) < y then minI (x' :: xs) else y) ≤ y
      split <;> omega
    · have := ih y h
      show (if minI (x' :: xs) < x then minI (x' :: xs) else x) ≤ y
      split <;> omega
theorem maxI_mem : ∀ {ns : List Int}, ns ≠ [] → maxI ns ∈ ns
  | [x], _ => by simp [maxI]
  | x :: x' :: xs, _ => by
    have ih : maxI (x' :: xs) ∈ x' :: xs := maxI_mem (by simp)
    show (if maxI (x' :: xs) > x then maxI (x' :: xs) else x) ∈ _
    split
    · exact List.mem_cons_of_mem _ ih
    · exact List.mem_cons_self
theorem minI_mem : ∀ {ns : List Int}, ns ≠ [] → minI ns ∈ ns
  | [x], _ => by simp [minI]
  | x :: x' :: xs, _ => by
    have ih : minI (x' :: xs) ∈ x' :: xs := minI_mem (by simp)
    show (if minI (x' :: xs) < x then minI (x' :: xs) else x) ∈ _
    split
    · exact List.mem_cons_of_mem _ ih
    · exact List.mem_cons_self
def fMax1 := onInts (fun ns => !ns.isEmpty) fun ns => .int (maxI ns)
def fMin1 := onInts (fun ns => !ns.isEmpty) fun ns => .int (minI ns)
theorem snd_bools {Γ : Gm} {g : List Bool → D} {g' : List Bool → V} (hg : ∀ α G bs, Rep Γ α G (g bs) (g' bs)) : SndC Γ E (fun vs H Q => ∃ (a : Addr) (bs : List Bool), vs = [V.ref a] ∧ SqL Γ.K H a (bs.map V.bl) ∧ Q (g' bs) H) (onBools g) := snd_un1 fun d S α G H v Q hR rv h => by
  cases q : rdL S d with
  | none => simp [q, Post] at h
  | some xs =>
    simp only [q, Option.bind_some] at h
    obtain ⟨p, ws, rfl, q1, r1⟩ := rdL_at hR rv q
    cases z : boolsD xs with
    | none => simp [z, Post] at h
    | some bs =>
      simp only [z] at h
      rw [bools_rep r1 z] at q1
      exact ⟨p, bs, rfl, q1, post_ok h hR (hg _ _ _)⟩
theorem allQ (hc : X.calm = true := by rfl) : QC X cl E (.builtin "all") fAll := ⟨_, cr_all hc, snd_bools (Γ := ⟨X.K, cl⟩) fun _ _ _ => by simp [Rep]⟩
theorem anyQ (hc : X.calm = true := by rfl) : QC X cl E (.builtin "any") fAny := ⟨_, cr_any hc, snd_bools (Γ := ⟨X.K, cl⟩) fun _ _ _ => by simp [Rep]⟩
theorem snd_ints {Γ : Gm} {c : List Int → Bool} {g : List Int → D} {r' : List V → Hp → VK → Prop} (hg : ∀ α G ns a H Q, c ns = true → SqL Γ.K H a (ns.map V.int) → (∀ v, Rep Γ α G (g ns) v → Q v H) → r' [.ref a] H Q) : SndC Γ E r' (onInts c g) := snd_un1 fun d S α G H v Q hR rv h => by
  cases q : rdL S d with
  | none => simp [q, Post] at h
  | some xs =>
    simp only [q, Option.bind_some] at h
    obtain ⟨p, ws, rfl, q1, r1⟩ := rdL_at hR rv q
    cases z : intsD xs with
    | none => simp [z, Post] at h
    | some bs =>
      simp only [z] at h
      rw [ints_rep r1 z] at q1
      split at h
      · rename_i hc
        exact hg α G bs p H Q hc q1 fun v rv => post_ok h hR rv
      · exact h.elim
theorem sumQ (hc : X.calm = true := by rfl) : QC X cl E (.builtin "sum") fSum := ⟨_, cr_sum hc, snd_ints (Γ := ⟨X.K, cl⟩) fun α G ns a H Q _ hs k => ⟨a, ns, rfl, hs, k _ (by simp [Rep])⟩⟩
theorem max1Q (hc : X.calm = true := by rfl) : QC X cl E (.builtin "max") fMax1 := ⟨_, cr_max hc, snd_ints (Γ := ⟨X.K, cl⟩) fun α G ns a H Q hn hs k => by
  have h0 : ns ≠ [] := by cases ns <;> simp at hn ⊢
  refine ⟨a, ns, rfl, hs, List.length_pos_iff.mpr h0, fun m hm hge => ?_⟩
  have e : m = maxI ns := Int.le_antisymm (maxI_ge hm) (hge _ (maxI_mem h0))
  subst e
  exact k _ (by simp [Rep])⟩
theorem min1Q (hc : X.calm = true := by rfl) : QC X cl E (.builtin "min") fMin1 := ⟨_, cr_min hc, snd_ints (Γ := ⟨X.K, cl⟩) fun α G ns a H Q hn hs k => by
  have h0 : ns ≠ [] := by cases ns <;> simp at hn ⊢
  refine ⟨a, ns, rfl, hs, List.length_pos_iff.mpr h0, fun m hm hge => ?_⟩
  have e : m = minI ns := Int.le_antisymm (hge _ (minI_mem h0)) (minI_le hm)
  subst e
  exact k _ (by simp [Rep])⟩
def gMax2 : D → D → Store → Res D := fun a b S => match a, b with
  | .int i, .int j => .ok (.int (if j > i then j else i)) S
  | _, _ => .no
def gMin2 : D → D → Store → Res D := fun a b S => match a, b with
  | .int i, .int j => .ok (.int (if j < i then j else i)) S
  | _, _ => .no
def fMax2 := un2 gMax2
def fMin2 := un2 gMin2
theorem max2Q (hc : X.calm = true := by rfl) : QC X cl E (.builtin "max") fMax2 := by
  refine ⟨_, call_max2 hc, snd_un2 fun a b S α G H v w Q hR rv rw' h => ?_⟩
  cases a <;> cases b <;> try exact h.elim
  rename_i i j
  simp only [Rep] at rv rw'
  subst rv rw'
  exact ⟨i, j, rfl, post_ok (x := V.int (if j > i then j else i)) h hR (by simp [Rep])⟩
theorem min2Q (hc : X.calm = true := by rfl) : QC X cl E (.builtin "min") fMin2 := by
  refine ⟨_, call_min2 hc, snd_un2 fun a b S α G H v w Q hR rv rw' h => ?_⟩
  cases a <;> cases b <;> try exact h.elim
  rename_i i j
  simp only [Rep] at rv rw'
  subst rv rw'
  exact ⟨i, j, rfl, post_ok (x := V.int (if j < i then j else i)) h hR (by simp [Rep])⟩
theorem op_inT {hu : X.A.units + 65 < cLine} : OpR X (compareOp .In) (fun x y H Q => ∃ d ds, Dp X.K H x d ∧ Dp X.K H y (.tuple ds) ∧ SeqAt.shaped d = true ∧ SeqAt.shaped (.tuple ds) = true ∧ Q (.bl (ds.any fun z => PyData.eqv z d)) H) := by
  intro pins s σ H x y v u Q I rx ry h
  obtain ⟨d, ds, hd, he, sd, se, q⟩ := h
  obtain ⟨as, r1⟩ := Dp.reads I d x v hd rx
  obtain ⟨bs, r2⟩ := Dp.reads I (.tuple ds) y u he ry
  exact SeqAt.in_tuple_reads r2 r1 (SeqAt.canLay_of_shaped se) (SeqAt.canLay_of_shaped sd) (PyProof.Rows.room_in_shaped sd hu) ⟨.bl _, H, I, rfl, q⟩
theorem op_ninT {hu : X.A.units + 65 < cLine} : OpR X (compareOp .NotIn) (fun x y H Q => ∃ d ds, Dp X.K H x d ∧ Dp X.K H y (.tuple ds) ∧ SeqAt.shaped d = true ∧ SeqAt.shaped (.tuple ds) = true ∧ Q (.bl (!ds.any fun z => PyData.eqv z d)) H) := by
  intro pins s σ H x y v u Q I rx ry h
  obtain ⟨d, ds, hd, he, sd, se, q⟩ := h
  obtain ⟨as, r1⟩ := Dp.reads I d x v hd rx
  obtain ⟨bs, r2⟩ := Dp.reads I (.tuple ds) y u he ry
  exact SeqAt.notIn_tuple_reads r2 r1 (SeqAt.canLay_of_shaped se) (SeqAt.canLay_of_shaped sd) (PyProof.Rows.room_in_shaped sd hu) ⟨.bl _, H, I, rfl, q⟩
def inD (xs : List D) (a : D) : Bool := xs.any fun z => deq z a
def opIn : D → D → Store → Res D := fun a b S => match deref S b with
  | .tup xs => if shal 20 a && shal 20 (.tup xs) then .ok (.bl (inD xs a)) S else .no
  | .lst xs => if shal 20 a && shal 20 (.lst xs) then .ok (.bl (inD xs a)) S else .no
  | _ => .no
def opNin : D → D → Store → Res D := fun a b S => match deref S b with
  | .tup xs => if shal 20 a && shal 20 (.tup xs) then .ok (.bl (!inD xs a)) S else .no
  | .lst xs => if shal 20 a && shal 20 (.lst xs) then .ok (.bl (!inD xs a)) S else .no
  | _ => .no
theorem any_py {xs : List D} {a : D} (h : ∀ x ∈ xs, shal 19 x = true) (ha : shal 20 a = true) : ((toPyL xs).any fun z => PyData.eqv z (toPy a)) = inD xs a := by
  rw [toPyL_map, List.any_map]
  unfold inD
  induction xs with
  | nil => rfl
  | cons x xs ih =>
    simp only [List.any_cons, Function.comp]
    rw [deq_py 19 20 x a (h x (by simp)) ha]
    have ih' := ih fun z hz => h z (by simp [hz])
    rw [ih']
theorem shal19 {xs : List D} (h : shal 20 (.tup xs) = true) : ∀ x ∈ xs, shal 19 x = true := by simpa [shal] using h
theorem shal19l {xs : List D} (h : shal 20 (.lst xs) = true) : ∀ x ∈ xs, shal 19 x = true := by simpa [shal] using h
theorem inQ {k : Nat} (hr : Room k X.A) : QR X cl E (compareOp .In) opIn := by
  have hu : X.A.units + 65 < cLine := by have := hr.un; omega
  refine ⟨_, OpR.or (op_inT (hu := hu)) (op_inD hu), fun a b S α G H x y Q hR ra rb h => ?_⟩
  unfold opIn at h
  have hd := @deref_dp (Γ := ⟨X.K, cl⟩) α G H S hR b y
  split at h
  · rename_i xs e
    rw [e] at hd
    split at h
    · rename_i hs
      rw [Bool.and_eq_true] at hs
      have s2 := shal_shaped hs.2
      have d2 := hd hs.2 rb
      simp only [toPy] at s2 d2
      exact .inl ⟨_, _, rep_dp (Γ := ⟨X.K, cl⟩) hR.sub 20 a x hs.1 ra, d2, shal_shaped hs.1, s2, by rw [any_py (shal19 hs.2) hs.1]; exact post_ok h hR (by simp [Rep])⟩
    · exact h.elim
  · rename_i xs e
    rw [e] at hd
    split at h
    · rename_i hs
      rw [Bool.and_eq_true] at hs
      have s2 := shal_shaped hs.2
      have d2 := hd hs.2 rb
      simp only [toPy] at s2 d2
      exact .inr ⟨_, _, rep_dp (Γ := ⟨X.K, cl⟩) hR.sub 20 a x hs.1 ra, d2, shal_shaped hs.1, s2, by rw [any_py (shal19l hs.2) hs.1]; exact post_ok h hR (by simp [Rep])⟩
    · exact h.elim
  · exact h.elim
theorem ninQ {k : Nat} (hr : Room k X.A) : QR X cl E (compareOp .NotIn) opNin := by
  have hu : X.A.units + 65 < cLine := by have := hr.un; omega
  refine ⟨_, OpR.or (op_ninT (hu := hu)) (op_notInD hu), fun a b S α G H x y Q hR ra rb h => ?_⟩
  unfold opNin at h
  have hd := @deref_dp (Γ := ⟨X.K, cl⟩) α G H S hR b y
  split at h
  · rename_i xs e
    rw [e] at hd
    split at h
    · rename_i hs
      rw [Bool.and_eq_true] at hs
      have s2 := shal_shaped hs.2
      have d2 := hd hs.2 rb
      simp only [toPy] at s2 d2
      exact .inl ⟨_, _, rep_dp (Γ := ⟨X.K, cl⟩) hR.sub 20 a x hs.1 ra, d2, shal_shaped hs.1, s2, by rw [any_py (shal19 hs.2) hs.1]; exact post_ok h hR (by simp [Rep])⟩
    · exact h.elim
  · rename_i xs e
    rw [e] at hd
    split at h
    · rename_i hs
      rw [Bool.and_eq_true] at hs
      have s2 := shal_shaped hs.2
      have d2 := hd hs.2 rb
      simp only [toPy] at s2 d2
      exact .inr ⟨_, _, rep_dp (Γ := ⟨X.K, cl⟩) hR.sub 20 a x hs.1 ra, d2, shal_shaped hs.1, s2, by rw [any_py (shal19l hs.2) hs.1]; exact post_ok h hR (by simp [Rep])⟩
    · exact h.elim
  · exact h.elim
inductive Ty where
  | int | bool | str | list | tuple
def Ty.nm : Ty → String
  | .int => "int" | .bool => "bool" | .str => "str" | .list => "list" | .tuple => "tuple"
/-- the type of data that is no instance of an own class -/
def tyN : D → String
  | .non => "NoneType" | .bl _ => "bool" | .int _ => "int" | .str _ => "str" | .tup _ => "tuple" | .lst _ => "list" | .fro _ => "list" | .ref _ => "list" | .obj _ _ => "object" | .exn _ _ => "object"
def isTy (T : Ty) : D → Bool
  | .bl _ => match T with | .int => true | .bool => true | _ => false
  | .int _ => match T with | .int => true | _ => false
  | .str _ => match T with | .str => true | _ => false
  | .tup _ => match T with | .tuple => true | _ => false
  | .lst _ | .fro _ | .ref _ => match T with | .list => true | _ => false
  | .non | .obj _ _ | .exn _ _ => false
def isOk (S : Store) : D → Bool
  | .obj _ _ => false
  | .exn _ _ => false
  | .ref k => (lstOf S (.ref k)).isSome
  | _ => true
theorem tyx_at {Γ : Gm} {α : List Addr} {G H : Hp} {S : Store} (R : Rl Γ α G S H) {d : D} {v : V} (r : Rep Γ α G d v) (h : isOk S d = true) : TyX Γ.K H v (.type (tyN d)) := by
  have lists : ∀ {a : Addr} {vs : List V}, SqL Γ.K H a vs → TyX Γ.K H (.ref a) (.type "list") := fun {a vs} q => by
    rcases q with (q | ⟨o, q⟩) | ⟨o, its, n, q, c, _⟩
    · exact .base (.lst q)
    · exact .base (.frz q)
    · exact .kList q c
  cases d with
  | non => simp only [Rep] at r; subst r; exact .base .non
  | bl b => simp only [Rep] at r; subst r; exact .base (.bl b)
  | int b => simp only [Rep] at r; subst r; exact .base (.int b)
  | str b => simp only [Rep] at r; subst r; exact .base (.str b)
  | tup xs =>
    obtain ⟨a, vs, rfl, q, _⟩ := tup_at R r
    rcases q with (q | ⟨o, q⟩) | ⟨o, its, n, q, c, _⟩
    · exact .base (.tup q)
    · exact .fTuple q
    · exact .kTuple q c
  | lst xs =>
    obtain ⟨a, vs, rfl, q, _⟩ := rdL_at R r (show rdL S (.lst xs) = some xs from rfl)
    exact lists q
  | fro xs =>
    obtain ⟨a, vs, rfl, q, _⟩ := rdL_at R r (show rdL S (.fro xs) = some xs from rfl)
    exact lists q
  | obj _ _ => simp [isOk] at h
  | exn _ _ => simp [isOk] at h
  | ref k =>
    obtain ⟨xs, hx⟩ := Option.isSome_iff_exists.mp h
    obtain ⟨a, vs, rfl, h1, _⟩ := lstOf_at R r hx
    exact lists (.inl (.inl h1))
theorem kit_at {S : Store} (T : Ty) (d : D) (h : isOk S d = true) {K : PySem.W.Frag} : PySem.W.kitOne K (.type (tyN d)) (.type T.nm) = some (isTy T d) := by
  cases d <;> first
    | (simp [isOk] at h; done)
    | (cases T <;> exact kit_ty (by dsimp only [tyN, isTy, Ty.nm]; decide +kernel))
def mIsi (T : Ty) (m : ME) : ME := fun ρ S => (m ρ S).bind fun d S1 => if isOk S1 d then .ok (.bl (isTy T d)) S1 else .no
/-- isinstance(e, T) -/
theorem q_isi (T : Ty) {x : Str} {p p2 : Pos} (h : QE X cl E a m) (hg : Gl X "isinstance") (hm : X.mg "isinstance" = none) (hg2 : Gl X x) (hm2 : X.mg x = none) (hv : bootBuiltins x = some (.type T.nm)) (hn : x ≠ "__name__" := by decide) (hdb : (x == ("__debug__" : Str)) = false := by decide)
    (hs1 : starEach [a, .Name x p2] X.env = (false, eval a X.env) :: starEach [.Name x p2] X.env := by rfl) (hs2 : starEach [.Name x p2] X.env = (false, eval (.Name x p2) X.env) :: starEach [] X.env := by rfl) (hpl : (backTo pos (starEach [.Name x p2] X.env)).any (·.1) = false := by rfl) :
    QE X cl E (.Call (.Name "isinstance" p) [a, .Name x p2] [] pos) (mIsi T m) := by
  obtain ⟨t, h1, h2⟩ := h.ex
  refine ⟨_, pe_callB call_isi hg hm (by decide +kernel) (pa_cons h1 (pa_cons (pe_bltn (v := .ty T.nm) hg2 hm2 hv rfl hn hdb) pa_nil hs2) hs1) (by decide) (by decide) hs1 hpl, fun ρ S σ α G H Q hρ hR hp => h2 ρ S σ α G H _ hρ hR (post_bind hp fun d S1 α1 G1 H1 v _ e1 R1 r1 hp1 => ?_)⟩
  split at hp1
  · rename_i hk
    exact ⟨v, .ty T.nm, .type (tyN d), .type T.nm, isTy T d, rfl, .ty _, tyx_at R1 r1 hk, kit_at T d hk, post_ok hp1 R1 (by simp [Rep])⟩
  · exact hp1.elim
def mIsi2 (T U : Ty) (m : ME) : ME := fun ρ S => (m ρ S).bind fun d S1 => if isOk S1 d then .ok (.bl (isTy T d || isTy U d)) S1 else .no
/-- isinstance(e, (T, U)) -/
theorem q_isi2 (T U : Ty) {x y : Str} {p p2 p3 p4 : Pos} {x1} (h : QE X cl E a m) (hg : Gl X "isinstance") (hm : X.mg "isinstance" = none) (hg2 : Gl X x) (hm2 : X.mg x = none) (hv : bootBuiltins x = some (.type T.nm)) (hg3 : Gl X y) (hm3 : X.mg y = none) (hv3 : bootBuiltins y = some (.type U.nm))
    (hn : x ≠ "__name__" := by decide) (hdb : (x == ("__debug__" : Str)) = false := by decide) (hn3 : y ≠ "__name__" := by decide) (hdb3 : (y == ("__debug__" : Str)) = false := by decide)
    (hs1 : starEach [a, .Tuple [.Name x p2, .Name y p3] x1 p4] X.env = (false, eval a X.env) :: starEach [.Tuple [.Name x p2, .Name y p3] x1 p4] X.env := by rfl) (hs2 : starEach [.Tuple [.Name x p2, .Name y p3] x1 p4] X.env = (false, eval (.Tuple [.Name x p2, .Name y p3] x1 p4) X.env) :: starEach [] X.env := by rfl)
    (hs3 : starEach [.Name x p2, .Name y p3] X.env = (false, eval (.Name x p2) X.env) :: starEach [.Name y p3] X.env := by rfl) (hs4 : starEach [.Name y p3] X.env = (false, eval (.Name y p3) X.env) :: starEach [] X.env := by rfl)
    (hpl : (backTo pos (starEach [.Tuple [.Name x p2, .Name y p3] x1 p4] X.env)).any (·.1) = false := by rfl) :
    QE X cl E (.Call (.Name "isinstance" p) [a, .Tuple [.Name x p2, .Name y p3] x1 p4] [] pos) (mIsi2 T U m) := by
  obtain ⟨t, h1, h2⟩ := h.ex
  refine ⟨_, pe_callB call_isiT hg hm (by decide +kernel) (pa_cons h1 (pa_cons (pe_tup (pa_cons (pe_bltn (v := .ty T.nm) hg2 hm2 hv rfl hn hdb) (pa_cons (pe_bltn (v := .ty U.nm) hg3 hm3 hv3 rfl hn3 hdb3) pa_nil hs4) hs3)) pa_nil hs2) hs1) (by decide) (by decide) hs1 hpl, fun ρ S σ α G H Q hρ hR hp => h2 ρ S σ α G H _ hρ hR (post_bind hp fun d S1 α1 G1 H1 v _ e1 R1 r1 hp1 => ?_)⟩
  split at hp1
  · rename_i hk
    refine ⟨sz (by simp), fun tp htp => ?_⟩
    obtain ⟨R2, e2⟩ := R1.out htp (.tup [.ty T.nm, .ty U.nm])
    refine ⟨v, tp, [.ty T.nm, .ty U.nm], .type (tyN d), [.type T.nm, .type U.nm], isTy T d || isTy U d, rfl, upd_same, .cons (.ty _) (.cons (.ty _) .nil), tyx_at R2 (Rep.mono e2.pre e2.sub _ _ r1) hk, ?_, hp1 _ _ _ _ e2 R2 (by simp [Rep])⟩
    refine kitAny_cons (kit_at T d hk) (fun e => ?_) (fun e => by rw [e]; rfl)
    refine kitAny_cons (kit_at U d hk) (fun e' => ?_) (fun e' => by rw [e']; simp)
    rw [e, e']
    exact kitAny_nil
  · exact hp1.elim
/-- the promise of a def by its function of data -/
def spM (Γ : Gm) (f : List D → Store → Res D) : Sp := fun vs H Q E => ∃ ds α G S, RepL Γ α G ds vs ∧ Rl Γ α G S H ∧ Post Γ (Rep Γ) α G H (f ds S) Q E
def nox {β : Type} : Res β → Res β
  | .ex _ _ => .no
  | r => r
@[simp] theorem nox_ok {β : Type} (a : β) (S : Store) : nox (Res.ok a S) = .ok a S := rfl
@[simp] theorem nox_no {β : Type} : nox (Res.no : Res β) = .no := rfl
/-- a def that lets no exception out, over the caller's cells -/
def fCall (f : List D → Store → Res D) : List D → Store → Res D := fun ds S => nox (f ds S)
mutual
def pureD : D → Bool
  | .ref _ => false
  | .tup xs => pureL xs
  | .lst xs => pureL xs
  | .fro xs => pureL xs
  | .obj _ fs => pureL fs
  | .exn _ fs => pureL fs
  | _ => true
def pureL : List D → Bool
  | [] => true
  | d :: ds => pureD d && pureL ds
end
/-- .. that sees no cell of the caller's -/
def fPure (f : List D → Store → Res D) : List D → Store → Res D := fun ds S => if pureL ds then match f ds [] with
  | .ok d [] => .ok d S
  | _ => .no
  else .no
mutual
theorem pure_rep {Γ : Gm} {α β : List Addr} {G : Hp} : ∀ (d : D) (v : V), pureD d = true → Rep Γ α G d v → Rep Γ β G d v
  | .non, v, _, h => by simpa [Rep] using h
  | .bl b, v, _, h => by simpa [Rep] using h
  | .int i, v, _, h => by simpa [Rep] using h
  | .str s, v, _, h => by simpa [Rep] using h
  | .tup ds, v, p, h => by
    unfold Rep at h ⊢
    obtain ⟨a, vs, e, q, r⟩ := h
    exact ⟨a, vs, e, q, pureL_rep ds vs (by simpa [pureD] using p) r⟩
  | .lst ds, v, p, h => by
    unfold Rep at h ⊢
    obtain ⟨a, vs, e, q, r⟩ := h
    exact ⟨a, vs, e, q, pureL_rep ds vs (by simpa [pureD] using p) r⟩
  | .fro ds, v, p, h => by
    unfold Rep at h ⊢
    obtain ⟨a, vs, e, q, r⟩ := h
    exact ⟨a, vs, e, q, pureL_rep ds vs (by simpa [pureD] using p) r⟩
  | .obj c ds, v, p, h => by
    unfold Rep at h ⊢
    obtain ⟨a, vs, e, q, r⟩ := h
    exact ⟨a, vs, e, q, pureL_rep ds vs (by simpa [pureD] using p) r⟩
  | .exn c ds, v, p, h => by
    unfold Rep at h ⊢
    obtain ⟨a, vs, e, q, r⟩ := h
    exact ⟨a, vs, e, q, pureL_rep ds vs (by simpa [pureD] using p) r⟩
  | .ref k, v, p, _ => by simp [pureD] at p
theorem pureL_rep {Γ : Gm} {α β : List Addr} {G : Hp} : ∀ (ds : List D) (vs : List V), pureL ds = true → RepL Γ α G ds vs → RepL Γ β G ds vs
  | [], vs, _, h => by simpa [RepL] using h
  | d :: ds, vs, p, h => by
    unfold RepL at h ⊢
    obtain ⟨v, r, e, h1, h2⟩ := h
    simp only [pureL, Bool.and_eq_true] at p
    exact ⟨v, r, e, pure_rep d v p.1 h1, pureL_rep ds r p.2 h2⟩
end
theorem nox_post {Γ : Gm} {α : List Addr} {G H : Hp} {r : Res D} {Q : VK} (h : Post Γ (Rep Γ) α G H (nox r) Q E) {E' : XK} : Post Γ (Rep Γ) α G H r Q E' := by
  cases r with
  | ok d S => exact h
  | ex e S => exact h.elim
  | no => exact h.elim
theorem sp_call {Γ : Gm} {f : List D → Store → Res D} : SndC Γ E (fun vs H Q => spM Γ f vs H Q E0) (fCall f) := fun ds S α G H vs Q hR r h => ⟨ds, α, G, S, r, hR, nox_post h⟩
/-- a state seen without its cells -/
theorem Rl.bare {Γ : Gm} {α : List Addr} {G H : Hp} {S : Store} (R : Rl Γ α G S H) : Rl Γ [] G [] H := ⟨R.sub, rfl, List.nodup_nil, fun a m => (by simp at m), fun k c a h => (by simp at h)⟩
theorem Rl.back {Γ : Gm} {α : List Addr} {G H G' H' : Hp} {S : Store} (R : Rl Γ α G S H) (R' : Rl Γ [] G' [] H') (e : Ext [] G H [] G' H') : Rl Γ α G' S H' ∧ Ext α G H α G' H' := by
  have keep : ∀ a o, H a = some o → H' a = some o := fun a o h => e.fr a o h (by simp)
  have gn : ∀ a, a ∈ α → G a = none → G' a = none := fun a m h => by
    cases q : G' a with
    | none => rfl
    | some o =>
      rcases e.ng a (by rw [q]; simp) with z | z | z | ⟨xs, z⟩
      · exact absurd h z
      · simp at z
      · exact absurd z (R.tr a m)
      · exact absurd z (R.ntup m xs)
  refine ⟨⟨R'.sub, R.len, R.nd, fun a m => ?_, fun k c a hc ha => ?_⟩, ⟨⟨[], by simp⟩, e.sub, fun a o h _ => keep a o h, fun a m => .inl m, fun a h => ?_⟩⟩
  · cases q : H a with
    | none => exact absurd q (R.tr a m)
    | some o => rw [keep a o q]; simp
  · have hm : a ∈ α := List.mem_of_getElem? ha
    refine (R.ok k c a hc ha).mono ⟨[], by simp⟩ e.sub fun _ => ⟨?_, gn a hm⟩
    cases q : H a with
    | none => exact absurd q (R.tr a hm)
    | some o => exact keep a o q
  · rcases e.ng a h with z | z | z
    · exact .inl z
    · simp at z
    · exact .inr (.inr z)
theorem sp_pure {Γ : Gm} {f : List D → Store → Res D} : SndC Γ E (fun vs H Q => spM Γ f vs H Q E0) (fPure f) := fun ds S α G H vs Q hR r h => by
  unfold fPure at h
  split at h
  · rename_i hp
    refine ⟨ds, [], G, [], pureL_rep ds vs hp r, hR.bare, ?_⟩
    cases q : f ds [] with
    | no => rw [q] at h; exact h.elim
    | ex e S' => rw [q] at h; exact h.elim
    | ok d S' =>
      rw [q] at h
      cases S' with
      | cons c T => exact h.elim
      | nil =>
        intro α' G' H' v e R' rv
        have ea : α' = [] := List.eq_nil_of_length_eq_zero (by rw [R'.len]; rfl)
        subst ea
        obtain ⟨R2, e2⟩ := hR.back R' e
        exact h α G' H' v e2 R2 (Rep.mono (α := []) ⟨α, by simp⟩ (Sub.refl _) _ _ rv)
  · exact h.elim
/-- f(e, ..), f a def of the module that lets no exception out -/
theorem q_call {g : List D → Store → Res D} {f : List D → Store → Res D} {k : Nat} {fa : Addr} {fd : FuncData} {ps : List Str} {x : Str} {p : Pos} {es : List Expr} {n : MA} (F : FnOk X.prog X.w X.K X.mg X.base CX0 k fa fd ps (spM ⟨X.K, cl⟩ f)) (hr : Room k X.A)
    (hg : Gl X x) (hm : X.mg x = some (.ref fa)) (hk : PySem.W.keepIn X.K (.ref fa) = true) (hb : Binds X.K fd ps []) (ha : QA X cl E (e :: es) n) (hf : SndC ⟨X.K, cl⟩ E (fun vs H Q => spM ⟨X.K, cl⟩ f vs H Q E0) g)
    (hdb : (x == ("__debug__" : Str)) = false := by decide) (he : starEach (e :: es) X.env = (false, eval e X.env) :: starEach es X.env := by rfl) (hpl : (backTo pos (starEach es X.env)).any (·.1) = false := by rfl) :
    QE X cl E (.Call (.Name x p) (e :: es) [] pos) (mCall g n) := by
  obtain ⟨t, h1, h2⟩ := ha.ex
  refine ⟨_, pe_call F hr hg hm hk hb .nil pass0 h1 hdb he hpl, fun ρ S σ α G H Q hρ hR hp => h2 ρ S σ α G H _ hρ hR (post_bind hp fun ds S1 α1 G1 H1 vs _ e1 R1 r1 hp1 => ?_)⟩
  rw [List.append_nil]
  exact hf ds S1 α1 G1 H1 vs Q R1 r1 hp1
theorem q_call0 {g : List D → Store → Res D} {f : List D → Store → Res D} {k : Nat} {fa : Addr} {fd : FuncData} {ps : List Str} {x : Str} {p : Pos} (F : FnOk X.prog X.w X.K X.mg X.base CX0 k fa fd ps (spM ⟨X.K, cl⟩ f)) (hr : Room k X.A)
    (hg : Gl X x) (hm : X.mg x = some (.ref fa)) (hk : PySem.W.keepIn X.K (.ref fa) = true) (hb : Binds X.K fd ps []) (hf : SndC ⟨X.K, cl⟩ E (fun vs H Q => spM ⟨X.K, cl⟩ f vs H Q E0) g)
    (hdb : (x == ("__debug__" : Str)) = false := by decide) :
    QE X cl E (.Call (.Name x p) [] [] pos) (mCall g mNil) := by
  refine ⟨_, pe_call0 F hr hg hm hk hb .nil pass0 hdb, fun ρ S σ α G H Q hρ hR hp => ?_⟩
  exact hf [] S α G H [] Q hR (by simp [RepL]) hp
end
end Q
namespace Q
open PySem L2
section
variable {X : Cx} {cl : Nat → Addr} {E : XK} {a b c e : Expr} {ma mb mc m : ME} {mt mu : MT} {pos : Pos} {st : Stmt} {rest : List Stmt} {n n' : MS}
def mSkip : MS := fun ρ S => .ok (.nx ρ) S
def mSeq (n n' : MS) : MS := fun ρ S => (n ρ S).bind fun f S1 => match f with
  | .nx ρ1 => n' ρ1 S1
  | f => .ok f S1
theorem snd_seq {Γ : Gm} {t u : TS} (h : SndS Γ E t n) (k : SndS Γ E u n') : SndS Γ E (tSeq t u) (mSeq n n') := fun ρ S σ α G H Dn hρ hR hp => by
  refine h ρ S σ α G H _ hρ hR ?_
  unfold mSeq at hp
  cases q : n ρ S with
  | no => rw [q] at hp; exact hp
  | ex e S' => rw [q] at hp; exact hp
  | ok f S' =>
    rw [q] at hp
    cases f with
    | nx ρ1 => exact fun α' G' H' σ' e1 R1 r1 => k ρ1 S' σ' α' G' H' Dn r1 R1 (PostS.mono hp e1)
    | rt d => exact hp
    | bk ρ1 => exact hp
    | ct ρ1 => exact hp
theorem qss_nil : QSs X cl E [] mSkip := ⟨_, pss_nil, fun ρ S σ α G H Dn hρ hR hp => hp α G H σ (Ext.refl _ _ _) hR hρ⟩
theorem qss_cons (h : QS X cl E st n) (k : QSs X cl E rest n') : QSs X cl E (st :: rest) (mSeq n n') := by
  obtain ⟨t, h1, h2⟩ := h.ex
  obtain ⟨u, k1, k2⟩ := k.ex
  exact ⟨_, pss_cons h1 k1, snd_seq h2 k2⟩
theorem qss_one (h : QS X cl E st n) : QSs X cl E [st] n := by
  obtain ⟨t, h1, h2⟩ := h.ex
  exact ⟨_, pss_one h1, h2⟩
theorem qs_pass : QS X cl E (.Pass pos) mSkip := ⟨_, ps_pass, fun ρ S σ α G H Dn hρ hR hp => hp α G H σ (Ext.refl _ _ _) hR hρ⟩
theorem qs_break : QS X cl E (.Break pos) (fun ρ S => .ok (.bk ρ) S) := ⟨_, ps_break, fun ρ S σ α G H Dn hρ hR hp => hp α G H σ (Ext.refl _ _ _) hR hρ⟩
theorem qs_continue : QS X cl E (.Continue pos) (fun ρ S => .ok (.ct ρ) S) := ⟨_, ps_continue, fun ρ S σ α G H Dn hρ hR hp => hp α G H σ (Ext.refl _ _ _) hR hρ⟩
def mDrop (m : ME) : MS := fun ρ S => (m ρ S).bind fun _ S1 => .ok (.nx ρ) S1
theorem qs_expr (h : QE X cl E e m) (hs : swapsWith e none pos.line X.env = pure false := by rfl) : QS X cl E (.Expr e pos) (mDrop m) := by
  obtain ⟨t, h1, h2⟩ := h.ex
  exact ⟨_, ps_expr h1 hs, fun ρ S σ α G H Dn hρ hR hp => h2 ρ S σ α G H _ hρ hR (posts_bind hp fun d S1 α1 G1 H1 v _ e1 R1 r1 hp1 => hp1 α1 G1 H1 σ (Ext.refl _ _ _) R1 (hρ.mono e1))⟩
def mRet (m : ME) : MS := fun ρ S => (m ρ S).bind fun d S1 => .ok (.rt d) S1
theorem qs_ret (h : QE X cl E e m) : QS X cl E (.Return (some e) pos) (mRet m) := by
  obtain ⟨t, h1, h2⟩ := h.ex
  exact ⟨_, ps_ret h1, fun ρ S σ α G H Dn hρ hR hp => h2 ρ S σ α G H _ hρ hR (posts_bind hp fun d S1 α1 G1 H1 v _ e1 R1 r1 hp1 => hp1 α1 G1 H1 v (Ext.refl _ _ _) R1 r1)⟩
theorem qs_retN : QS X cl E (.Return none pos) (fun ρ S => .ok (.rt .non) S) := ⟨_, ps_retN, fun ρ S σ α G H Dn hρ hR hp => hp α G H .non (Ext.refl _ _ _) hR (by simp [Rep])⟩
def mIf (t : MT) (n n' : MS) : MS := fun ρ S => (t ρ S).bind fun b S1 => match b with
  | true => n ρ S1
  | false => n' ρ S1
theorem qs_if {c : Expr} {sa sb : List Stmt} (hc : QT X cl E c mt) (ha : QSs X cl E sa n) (hb : QSs X cl E sb n') : QS X cl E (.If c sa sb pos) (mIf mt n n') := by
  obtain ⟨t, h1, h2⟩ := hc.ex
  obtain ⟨u, k1, k2⟩ := ha.ex
  obtain ⟨w, l1, l2⟩ := hb.ex
  refine ⟨_, ps_if h1 k1 l1, fun ρ S σ α G H Dn hρ hR hp => h2 ρ S σ α G H _ hρ hR (posts_bind hp fun b S1 α1 G1 H1 v _ e1 R1 r1 hp1 => ?_)⟩
  have r1 : b = v := r1
  subst r1
  cases b with
  | true => exact iteT (k2 ρ S1 σ α1 G1 H1 Dn (hρ.mono e1) R1 hp1)
  | false => exact iteF (l2 ρ S1 σ α1 G1 H1 Dn (hρ.mono e1) R1 hp1)
abbrev MG := D → Env → Store → Res Env
abbrev MGs := List D → Env → Store → Res Env
/-- js: the slots that the target stores -/
def SndG (Γ : Gm) (E : XK) (g : TG) (mg : MG) (js : List Nat) : Prop := ∀ (d : D) (ρ : Env) (S : Store) (σ : L2.St) (α : List Addr) (G H : Hp) (v : V) (Q : L2.St → Hp → Prop), EnvR Γ α G ρ σ → Rl Γ α G S H → Rep Γ α G d v →
  Post Γ (EnvR Γ) α G H (mg d ρ S) (fun σ' H' => σ'.length = σ.length ∧ (∀ i, i ∉ js → σ'[i]? = σ[i]?) → Q σ' H') E → g v σ H Q
def SndGs (Γ : Gm) (E : XK) (g : TGs) (mg : MGs) (js : List Nat) : Prop := ∀ (ds : List D) (ρ : Env) (S : Store) (σ : L2.St) (α : List Addr) (G H : Hp) (vs : List V) (Q : L2.St → Hp → Prop), EnvR Γ α G ρ σ → Rl Γ α G S H → RepL Γ α G ds vs →
  Post Γ (EnvR Γ) α G H (mg ds ρ S) (fun σ' H' => σ'.length = σ.length ∧ (∀ i, i ∉ js → σ'[i]? = σ[i]?) → Q σ' H') E → g vs σ H Q
structure QG (X : Cx) (cl : Nat → Addr) (E : XK) (tg : Expr) (mg : MG) (js : List Nat) : Prop where
  ex : ∃ g, PG X tg g ∧ SndG ⟨X.K, cl⟩ E g mg js
structure QGs (X : Cx) (cl : Nat → Addr) (E : XK) (tgs : List Expr) (mg : MGs) (js : List Nat) : Prop where
  ex : ∃ g, PGs X tgs g ∧ SndGs ⟨X.K, cl⟩ E g mg js
def mgN (i : Nat) : MG := fun d ρ S => .ok (ρ.set i (some d)) S
theorem qg_name (i : Nat) {x : Str} (hN : X.N.Nodup) (hi : X.N[i]? = some x := by rfl) (hx : Loc X.env.scope x := by first | exact .inl rfl | exact .inr rfl) (hf : X.fn x = true ∨ X.env.scope.names.lookup x = some .local := by first | exact .inl rfl | exact .inr rfl) : QG X cl E (.Name x pos) (mgN i) [i] := by
  refine ⟨_, pg_name hN hi hx hf, fun d ρ S σ α G H v Q hρ hR r hp => ?_⟩
  refine post_ok (x := σ.set i (some v)) hp hR (hρ.set i r) ⟨by simp, fun j hj => ?_⟩
  rw [List.getElem?_set_ne]
  simpa using fun e => hj (by simp [e])
def mgNil : MGs := fun ds ρ S => match ds with
  | [] => .ok ρ S
  | _ => .no
def mgCons (g : MG) (gs : MGs) : MGs := fun ds ρ S => match ds with
  | [] => .no
  | d :: ds => (g d ρ S).bind fun ρ1 S1 => gs ds ρ1 S1
theorem qgs_nil : QGs X cl E [] mgNil [] := by
  refine ⟨_, pgs_nil, fun ds ρ S σ α G H vs Q hρ hR r hp => ?_⟩
  cases ds with
  | cons d ds => exact hp.elim
  | nil =>
    unfold RepL at r
    exact ⟨r, post_ok (x := σ) hp hR hρ ⟨rfl, fun _ _ => rfl⟩⟩
theorem qgs_cons {tg : Expr} {tgs : List Expr} {g : MG} {gs : MGs} {js ks : List Nat} (h : QG X cl E tg g js) (k : QGs X cl E tgs gs ks) (hs : (assignEach (tg :: tgs) X.env).map (·.2) = assign tg X.env :: (assignEach tgs X.env).map (·.2) := by rfl) : QGs X cl E (tg :: tgs) (mgCons g gs) (js ++ ks) := by
  obtain ⟨t, h1, h2⟩ := h.ex
  obtain ⟨u, k1, k2⟩ := k.ex
  refine ⟨_, pgs_cons h1 k1 hs, fun ds ρ S σ α G H vs Q hρ hR r hp => ?_⟩
  cases ds with
  | nil => exact hp.elim
  | cons d ds =>
    unfold RepL at r
    obtain ⟨v, w, rfl, r1, r2⟩ := r
    refine ⟨v, w, rfl, h2 d ρ S σ α G H v _ hρ hR r1 (post_bind hp fun ρ1 S1 α1 G1 H1 σ1 _ e1 R1 q1 hp1 => fun ⟨l1, o1⟩ => ?_)⟩
    refine k2 ds ρ1 S1 σ1 α1 G1 H1 w _ q1 R1 (RepL.mono e1.pre e1.sub _ _ r2) ?_
    revert hp1
    cases gs ds ρ1 S1 with
    | no => exact id
    | ex e S' => exact id
    | ok ρ2 S2 => exact fun hp1 α' G' H' σ' e R r c => hp1 α' G' H' σ' e R r ⟨by rw [c.1, l1], fun i hi => by rw [c.2 i (fun z => hi (List.mem_append_right _ z)), o1 i (fun z => hi (List.mem_append_left _ z))]⟩
def mgTup (k : Nat) (gs : MGs) : MG := fun d ρ S => match seqOf S d with
  | some ds => if ds.length = k then gs ds ρ S else .no
  | none => .no
theorem PG.or {tg : Expr} {t u : TG} (h : PG X tg t) (h' : PG X tg u) : PG X tg (fun v σ H Q => t v σ H Q ∨ u v σ H Q) := ⟨fun pins s σ H v w Q I r q => q.elim (fun q => h.run pins s σ H v w Q I r q) (fun q => h'.run pins s σ H v w Q I r q)⟩
theorem qg_tup (k : Nat) {es : List Expr} {x1 : Nat} {gs : MGs} {js : List Nat} (h : QGs X cl E es gs js) (hc : X.calm = true := by rfl) (hn : (assignEach es X.env).length = k := by rfl) (hst : (assignEach es X.env).findIdx? (·.1) = none := by rfl) : QG X cl E (.Tuple es x1 pos) (mgTup k gs) js := by
  obtain ⟨t, h1, h2⟩ := h.ex
  refine ⟨_, PG.or (pg_tup hc h1 hn hst) (pg_lst hc h1 hn hst), fun d ρ S σ α G H v Q hρ hR r hp => ?_⟩
  unfold mgTup at hp
  cases q : seqOf S d with
  | none => simp [q, Post] at hp
  | some ds =>
    simp only [q] at hp
    split at hp
    · rename_i hk
      obtain ⟨p, vs, rfl, q1, r1⟩ := seqOf_at hR r q
      have hl : vs.length = k := by rw [← r1.length]; exact hk
      rcases q1 with q1 | q1
      · exact .inr ⟨p, vs, rfl, q1, hl, h2 ds ρ S σ α G H vs Q hρ hR r1 hp⟩
      · exact .inl ⟨p, vs, rfl, q1, hl, h2 ds ρ S σ α G H vs Q hρ hR r1 hp⟩
    · exact hp.elim
/-- cell[i] = .. -/
def setIx (o i : D) (d : D) (S : Store) : Res Unit := match o, i with
  | .ref k, .int j => match S[k]? with
    | some (.lst xs) => match ixN xs.length j with
      | some jj => .ok () (S.set k (.lst (xs.set jj d)))
      | none => .no
    | _ => .no
  | _, _ => .no
def mgSub (mo mi : ME) : MG := fun d ρ S => (mo ρ S).bind fun o S1 => (mi ρ S1).bind fun i S2 => (setIx o i d S2).bind fun _ S3 => .ok ρ S3
theorem qg_sub {o i : Expr} {mo mi : ME} (ho : QE X cl E o mo) (hi : QE X cl E i mi)
    (ha : ∀ v, assign (.Subscript o i pos) X.env v = (do
      let ov ← holding [v] (eval o X.env)
      let iv ← holding [v, ov] (eval i X.env)
      standAt pos
      holding [v, ov, iv] (setItem ov iv v)
      release [v, ov, iv] []) := by intro _; rfl) : QG X cl E (.Subscript o i pos) (mgSub mo mi) [] := by
  obtain ⟨t, h1, h2⟩ := ho.ex
  obtain ⟨u, k1, k2⟩ := hi.ex
  refine ⟨_, pg_sub h1 k1 set_list ha, fun d ρ S σ α G H v Q hρ hR r hp => ?_⟩
  refine h2 ρ S σ α G H _ hρ hR (post_bind hp fun od S1 α1 G1 H1 ov q1 e1 R1 r1 hp1 => ?_)
  clear q1
  refine k2 ρ S1 σ α1 G1 H1 _ (hρ.mono e1) R1 (post_bind hp1 fun id S2 α2 G2 H2 iv q2 e2 R2 r2 hp2 => ?_)
  clear q2
  have r0 : Rep ⟨X.K, cl⟩ α2 G2 d v := Rep.mono e2.pre e2.sub _ _ (Rep.mono e1.pre e1.sub _ _ r)
  have ro : Rep ⟨X.K, cl⟩ α2 G2 od ov := Rep.mono e2.pre e2.sub _ _ r1
  cases od <;> try exact hp2.elim
  rename_i kk
  cases id <;> try exact hp2.elim
  rename_i j
  simp only [setIx] at hp2
  unfold Rep at ro
  obtain ⟨p, rfl, hp'⟩ := ro
  simp only [Rep] at r2
  cases hc : S2[kk]? with
  | none => simp [hc, Post] at hp2
  | some c =>
    cases c with
    | frz xs => simp [hc, Post] at hp2
    | dk l xs => simp [hc, Post] at hp2
    | dt l xs => simp [hc, Post] at hp2
    | ob l xs => simp [hc, Post] at hp2
    | lst xs =>
      simp only [hc] at hp2
      cases hj : ixN xs.length j with
      | none => simp [hj, Post] at hp2
      | some jj =>
        simp only [hj, bind_ok] at hp2
        obtain ⟨vs, q1, q2, q3⟩ := (R2.ok kk _ p hc hp').lst
        obtain ⟨R3, e3⟩ := R2.put hc hp' (q2.set jj r0)
        refine ⟨p, vs, j, jj, rfl, r2, q1, by rw [← q2.length]; exact hj, ?_⟩
        exact hp2 _ _ _ σ e3 R3 (((hρ.mono e1).mono e2).mono e3) ⟨rfl, fun _ _ => rfl⟩
def mAsg (m : ME) (g : MG) : MS := fun ρ S => (m ρ S).bind fun d S1 => (g d ρ S1).bind fun ρ1 S2 => .ok (.nx ρ1) S2
theorem snd_asg {Γ : Gm} {t : TE} {g : TG} {mg : MG} {js : List Nat} (h : SndE Γ E t m) (k : SndG Γ E g mg js) : SndS Γ E (tAsg t g) (mAsg m mg) := fun ρ S σ α G H Dn hρ hR hp =>
  h ρ S σ α G H _ hρ hR (posts_bind hp fun d S1 α1 G1 H1 v _ e1 R1 r1 hp1 =>
    k d ρ S1 σ α1 G1 H1 v _ (hρ.mono e1) R1 r1 (posts_bind hp1 fun ρ1 S2 α2 G2 H2 σ2 _ e2 R2 q2 hp2 => fun _ => hp2 α2 G2 H2 σ2 (Ext.refl _ _ _) R2 q2))
theorem qs_asg {tg : Expr} {mg : MG} {js : List Nat} (h : QE X cl E e m) (k : QG X cl E tg mg js) (hs : swapsWithSole [tg] e pos.line X.env = pure false := by rfl) (hw : swappedStores [tg] e X.env = pure none := by rfl)
    (h1 : (assignEach [tg] X.env).map (·.2) = [assign tg X.env] := by rfl) : QS X cl E (.Assign [tg] e pos) (mAsg m mg) := by
  obtain ⟨t, a1, a2⟩ := h.ex
  obtain ⟨g, b1, b2⟩ := k.ex
  exact ⟨_, ps_asg a1 b1 hs hw h1, snd_asg a2 b2⟩
theorem sndg_name {Γ : Gm} (i : Nat) : SndG Γ E (gName i) (mgN i) [i] := fun d ρ S σ α G H v Q hρ hR r hp => by
  refine post_ok (x := σ.set i (some v)) hp hR (hρ.set i r) ⟨by simp, fun j hj => ?_⟩
  rw [List.getElem?_set_ne]
  simpa using fun e => hj (by simp [e])
theorem qs_set (i : Nat) {x : Str} {px : Pos} (h : QE X cl E e m) (hN : X.N.Nodup) (hi : X.N[i]? = some x := by rfl) (hx : Loc X.env.scope x := by first | exact .inl rfl | exact .inr rfl) (hs : swapsWith e (some (.Name x px)) pos.line X.env = pure false := by rfl) (hf : X.fn x = true ∨ X.env.scope.names.lookup x = some .local := by first | exact .inl rfl | exact .inr rfl) :
    QS X cl E (.Assign [.Name x px] e pos) (mAsg m (mgN i)) := by
  obtain ⟨t, a1, a2⟩ := h.ex
  exact ⟨_, ps_set hN hi hx a1 hs hf, snd_asg a2 (sndg_name i)⟩
/-- a, b = x, y with plain local names -/
def mPar (i j : Nat) (n : MA) : MS := fun ρ S => (n ρ S).bind fun ds S1 => match ds with
  | [d, d'] => .ok (.nx ((ρ.set i (some d)).set j (some d'))) S1
  | _ => .no
theorem qs_par (i j : Nat) {x y : Str} {px py pt : Pos} {kt k2 pt2} {na : MA} (hN : X.N.Nodup) (ha : QA X cl E [a, b] na) (hi : X.N[i]? = some x := by rfl) (hj : X.N[j]? = some y := by rfl) (hij : i ≠ j := by decide)
    (hx : X.env.scope.names.lookup x = some .local := by rfl) (hy : X.env.scope.names.lookup y = some .local := by rfl) (hw : swappedStores [.Tuple [.Name x px, .Name y py] kt pt] (.Tuple [a, b] k2 pt2) X.env = pure (some [x, y]) := by rfl)
    (hs : swapsWithSole [.Tuple [.Name x px, .Name y py] kt pt] (.Tuple [a, b] k2 pt2) pos.line X.env = pure false := by rfl) (hc : X.calm = true := by rfl) : QS X cl E (.Assign [.Tuple [.Name x px, .Name y py] kt pt] (.Tuple [a, b] k2 pt2) pos) (mPar i j na) := by
  obtain ⟨t, h1, h2⟩ := ha.ex
  refine ⟨_, ps_par hc hN hi hj hij hx hy h1 hw hs, fun ρ S σ α G H Dn hρ hR hp => h2 ρ S σ α G H _ hρ hR (posts_bind hp fun ds S1 α1 G1 H1 vs _ e1 R1 r1 hp1 => ?_)⟩
  match ds, hp1, r1 with
  | [d, d'], hp1, r1 =>
    obtain ⟨v, v', rfl, rv, rv'⟩ := repL2 r1
    exact ⟨v, v', rfl, hp1 α1 G1 H1 _ (Ext.refl _ _ _) R1 (((hρ.mono e1).set i rv).set j rv')⟩
  | [], hp1, _ => exact hp1.elim
  | [_], hp1, _ => exact hp1.elim
  | _ :: _ :: _ :: _, hp1, _ => exact hp1.elim
/-- x += e, ints -/
def mAugI (i : Nat) (f : Int → Int → Int) (m : ME) : MS := fun ρ S => match ρ[i]? with
  | some (some (.int x)) => (m ρ S).bind fun d S1 => match d with
    | .int y => .ok (.nx (ρ.set i (some (.int (f x y))))) S1
    | _ => .no
  | _ => .no
theorem qs_augI (i : Nat) {f : Int → Int → Int} {x : Str} {px : Pos} {op : Operator} (ho : PIp X op (ipI f)) (h : QE X cl E e m) (hN : X.N.Nodup) (hi : X.N[i]? = some x := by rfl) (hx : Loc X.env.scope x := by first | exact .inl rfl | exact .inr rfl) (hf : X.fn x = true ∨ X.env.scope.names.lookup x = some .local := by first | exact .inl rfl | exact .inr rfl) :
    QS X cl E (.AugAssign (.Name x px) op e pos) (mAugI i f m) := by
  obtain ⟨t, h1, h2⟩ := h.ex
  refine ⟨_, ps_aug hN hi hx h1 ho hf, fun ρ S σ α G H Dn hρ hR hp => ?_⟩
  unfold mAugI at hp
  split at hp
  · rename_i z q
    obtain ⟨v, hv, rv⟩ := hρ.2 i _ q
    simp only [Rep] at rv
    subst rv
    refine ⟨_, hv, h2 ρ S σ α G H _ hρ hR (posts_bind hp fun d S1 α1 G1 H1 w q1 e1 R1 r1 hp1 => ?_)⟩
    clear q1
    cases d <;> try exact hp1.elim
    rename_i y
    simp only [Rep] at r1
    exact ⟨z, y, rfl, r1, hp1 α1 G1 H1 _ (Ext.refl _ _ _) R1 ((hρ.mono e1).set i (by simp [Rep]))⟩
  · exact hp.elim
def appTo (k : Nat) (d : D) (S : Store) : Res D := match S[k]? with
  | some (.lst xs) => if xs.length < 100000 then .ok .non (S.set k (.lst (xs ++ [d]))) else .no
  | _ => .no
/-- the k-th cell is a list (if it is any) -/
def notOb (S : Store) (k : Nat) : Bool := match S[k]? with
  | some (.dk _ _) => false
  | some (.dt _ _) => false
  | some (.ob _ _) => false
  | _ => true
def mApp (mo m : ME) : ME := fun ρ S => (mo ρ S).bind fun o S1 => match o with
  | .ref k => if notOb S1 k = true then (m ρ S1).bind fun d S2 => appTo k d S2 else .no
  | _ => .no
theorem listy {Γ : Gm} {α : List Addr} {G H : Hp} {S : Store} (R : Rl Γ α G S H) {k : Nat} {v : V} (r : Rep Γ α G (.ref k) v) (h : notOb S k = true) : ∃ p, v = .ref p ∧ α[k]? = some p ∧ tyV Γ.K "list" (.ref p) H := by
  unfold Rep at r
  obtain ⟨p, rfl, hp'⟩ := r
  have hk : k < S.length := by rw [← R.len]; exact (List.getElem?_eq_some_iff.mp hp').1
  have hc : S[k]? = some S[k] := List.getElem?_eq_getElem hk
  have z := R.ok k S[k] p hc hp'
  unfold notOb at h
  rw [hc] at h
  cases q : S[k] with
  | lst xs =>
    rw [q] at z
    obtain ⟨vs, q1, _⟩ := z.lst
    exact ⟨p, rfl, hp', .inl ⟨rfl, vs, .inl (.inl q1)⟩⟩
  | frz xs =>
    rw [q] at z
    obtain ⟨vs, q1, _⟩ := z.frz
    exact ⟨p, rfl, hp', .inl ⟨rfl, vs, .inl (.inl (R.sub _ _ q1))⟩⟩
  | _ => rw [q] at h; cases h
theorem q_app {o : Expr} {mo : ME} {apos cpos : Pos} (ho : QE X cl E o mo) (he : QE X cl E e m) (hbase : attributeBase o "append" X.env (eval o X.env) = eval o X.env := by rfl)
    (hfew : ((backTo cpos (starEach [e] X.env)).all (fun x => !x.1) && (backToKw cpos (keywordEach [] X.env)).all (fun x => x.1.isSome)
      && decide (([e] : List Expr).length + ([] : List Keyword).length + (if ([] : List Keyword).isEmpty then 0 else 1) < 30)) = true := by rfl)
    (hline : (apos.endLine == cpos.line) = true := by rfl) (hs : starEach [e] X.env = (false, eval e X.env) :: starEach [] X.env := by rfl) (hplain : (backTo cpos (starEach [] X.env)).any (·.1) = false := by rfl) :
    QE X cl E (.Call (.Attribute o "append" apos) [e] [] cpos) (mApp mo m) := by
  obtain ⟨t, h1, h2⟩ := ho.ex
  obtain ⟨u, k1, k2⟩ := he.ex
  refine ⟨_, pe_bm PySem.F.plainAttrs_list PySem.F.slot_list_append PySem.F.type_list_append mt_append h1 (pa_cons k1 pa_nil hs) hbase hfew hline hs hplain, fun ρ S σ α G H Q hρ hR hp => ?_⟩
  refine h2 ρ S σ α G H _ hρ hR (post_bind hp fun od S1 α1 G1 H1 ov q1 e1 R1 r1 hp1 => ?_)
  clear q1
  cases od <;> try exact hp1.elim
  rename_i kk
  dsimp only at hp1
  split at hp1
  case isFalse => exact hp1.elim
  rename_i hno
  obtain ⟨p, rfl, ha1, htv⟩ := listy R1 r1 hno
  refine ⟨htv, ?_⟩
  refine k2 ρ S1 σ α1 G1 H1 _ (hρ.mono e1) R1 (post_bind hp1 fun d S2 α2 G2 H2 v q2 e2 R2 r2 hp2 => ?_)
  have hp' : α2[kk]? = some p := by
    obtain ⟨β, rfl⟩ := e2.pre
    rw [List.getElem?_append_left (List.getElem?_eq_some_iff.mp ha1).1]
    exact ha1
  unfold appTo at hp2
  cases hc : S2[kk]? with
  | none => simp [hc, Post] at hp2
  | some c =>
    cases c with
    | frz xs => simp [hc, Post] at hp2
    | dk l xs => simp [hc, Post] at hp2
    | dt l xs => simp [hc, Post] at hp2
    | ob l xs => simp [hc, Post] at hp2
    | lst xs =>
      simp only [hc] at hp2
      split at hp2
      · rename_i hl
        obtain ⟨vs, q1, q2, q3⟩ := (R2.ok kk _ p hc hp').lst
        obtain ⟨R3, e3⟩ := R2.put hc hp' (q2.append (show RepL ⟨X.K, cl⟩ α2 G2 [d] [v] by unfold RepL; exact ⟨v, [], rfl, r2, by simp [RepL]⟩))
        exact ⟨p, vs, v, rfl, rfl, q1, by rw [← q2.length]; exact Nat.lt_of_lt_of_le hl (by decide), hp2 _ _ _ .non e3 R3 (by simp [Rep])⟩
      · exact hp2.elim
def whileF (t : MT) (b : MS) : Nat → MS
  | 0 => fun _ _ => .no
  | k + 1 => fun ρ S => (t ρ S).bind fun c S1 => match c with
    | false => .ok (.nx ρ) S1
    | true => (b ρ S1).bind fun f S2 => match f with
      | .nx ρ1 => whileF t b k ρ1 S2
      | .ct ρ1 => whileF t b k ρ1 S2
      | .bk ρ1 => .ok (.nx ρ1) S2
      | .rt d => .ok (.rt d) S2
def mWhile (fuel : Env → Store → Nat) (t : MT) (b : MS) : MS := fun ρ S => whileF t b (fuel ρ S) ρ S
theorem snd_while {Γ : Gm} {fuel : Env → Store → Nat} {tc : TT} {tb : TS} (h : SndT Γ E tc mt) (k : SndS Γ E tb n) : SndS Γ E (tWhile tc tb) (mWhile fuel mt n) := fun ρ S σ α G H Dn hρ hR hp => by
  refine ⟨fun j σ H => ∃ ρ S α G, EnvR Γ α G ρ σ ∧ Rl Γ α G S H ∧ PostS Γ E α G H (whileF mt n j ρ S) Dn, ⟨_, ρ, S, α, G, hρ, hR, hp⟩, ?_⟩
  rintro j σ H ⟨ρ, S, α, G, hρ, hR, hp⟩
  cases j with
  | zero => exact hp.elim
  | succ j =>
    refine h ρ S σ α G H _ hρ hR (posts_bind hp fun c S1 α1 G1 H1 c' _ e1 R1 r1 hp1 => ?_)
    have r1 : c = c' := r1
    subst r1
    cases c with
    | false => exact iteF (hp1 α1 G1 H1 σ (Ext.refl _ _ _) R1 (hρ.mono e1))
    | true =>
      refine iteT ⟨fun σ' H' => ∃ m', m' < j + 1 ∧ ∃ ρ S α G, EnvR Γ α G ρ σ' ∧ Rl Γ α G S H' ∧ PostS Γ E α G H' (whileF mt n m' ρ S) Dn, fun σ' H' z => z, ?_⟩
      refine k ρ S1 σ α1 G1 H1 _ (hρ.mono e1) R1 ?_
      simp only at hp1
      cases q : n ρ S1 with
      | no => rw [q] at hp1; exact hp1
      | ex e S' => rw [q] at hp1; exact hp1
      | ok f S2 =>
        rw [q] at hp1
        cases f with
        | nx ρ1 => exact fun α2 G2 H2 σ2 e2 R2 r2 => ⟨j, Nat.lt_succ_self j, ρ1, S2, α2, G2, r2, R2, PostS.mono hp1 e2⟩
        | ct ρ1 => exact fun α2 G2 H2 σ2 e2 R2 r2 => ⟨j, Nat.lt_succ_self j, ρ1, S2, α2, G2, r2, R2, PostS.mono hp1 e2⟩
        | bk ρ1 => exact hp1
        | rt d => exact hp1
theorem qs_while (fuel : Env → Store → Nat) {c : Expr} {body : List Stmt} (hc : QT X cl E c mt) (hb : QSs X cl E body n) (hp : PassesOwn (model X.prog X.w) X.A X.env X.xe := by exact PassesOwn.never) : QS X cl E (.While c body [] pos) (mWhile fuel mt n) := by
  obtain ⟨t, h1, h2⟩ := hc.ex
  obtain ⟨u, k1, k2⟩ := hb.ex
  exact ⟨_, ps_while hp h1 k1, snd_while h2 k2⟩
/-- an iterator yields the data ds wherever the data of the start still stand -/
def Steps (Γ : Gm) (α : List Addr) (G : Hp) (ds : List D) (J : It) : Prop := ∀ (i : Nat) (α2 : List Addr) (G2 H2 : Hp) (S2 : Store), (∃ β, α2 = α ++ β) → Sub G G2 → Rl Γ α2 G2 S2 H2 →
  (ds.length ≤ i → J.stop i H2) ∧ ∀ d, ds[i]? = some d → J.go i H2 ∧ ∀ x H3, J.yld i H2 x H3 → ∃ G3, Rl Γ α2 G3 S2 H3 ∧ Ext α2 G2 H2 α2 G3 H3 ∧ Rep Γ α2 G3 d x
def PostI (Γ : Gm) (E : XK) (α : List Addr) (G H : Hp) (r : Res (List D)) (R : It → Hp → Prop) : Prop := match r with
  | .ok ds S' => ∀ α' G' H' J, Ext α G H α' G' H' → Rl Γ α' G' S' H' → Steps Γ α' G' ds J → R J H'
  | .ex e S' => ∀ α' G' H' c x, Ext α G H α' G' H' → Rl Γ α' G' S' H' → ExR Γ α' G' e c x H' → E c x H'
  | .no => False
theorem PostI.mono {Γ : Gm} {α α1 : List Addr} {G H G1 H1 : Hp} {r : Res (List D)} {R : It → Hp → Prop} (h : PostI Γ E α G H r R) (e : Ext α G H α1 G1 H1) : PostI Γ E α1 G1 H1 r R := by
  cases r with
  | ok d S' => exact fun α' G' H' v x rl rp => h α' G' H' v (e.trans x) rl rp
  | ex d S' => exact fun α' G' H' c x y rl rp => h α' G' H' c x (e.trans y) rl rp
  | no => exact h
theorem posti_bind {Γ : Gm} {β γ : Type} {R : List Addr → Hp → β → γ → Prop} {α : List Addr} {G H : Hp} {r : Res β} {f : β → Store → Res (List D)} {RI : It → Hp → Prop} {Q : γ → Hp → Prop} (h : PostI Γ E α G H (r.bind f) RI)
    (k : ∀ a S1 α1 G1 H1 x, r = .ok a S1 → Ext α G H α1 G1 H1 → Rl Γ α1 G1 S1 H1 → R α1 G1 a x → PostI Γ E α1 G1 H1 (f a S1) RI → Q x H1) : Post Γ R α G H r Q E := by
  cases r with
  | ok d S' =>
    intro α' G' H' v e rl rp
    exact k d S' α' G' H' v rfl e rl rp (PostI.mono h e)
  | ex e S' => exact h
  | no => exact h
def SndI (Γ : Gm) (E : XK) (wi : TI) (mi : MA) : Prop := ∀ (ρ : Env) (S : Store) (σ : L2.St) (α : List Addr) (G H : Hp) (R : It → Hp → Prop), EnvR Γ α G ρ σ → Rl Γ α G S H → PostI Γ E α G H (mi ρ S) R → wi σ H R
structure QI (X : Cx) (cl : Nat → Addr) (E : XK) (tg iter : Expr) (mi : MA) : Prop where
  ex : ∃ wi, PI X tg iter wi ∧ SndI ⟨X.K, cl⟩ E wi mi
theorem PI.or {tg it : Expr} {t u : TI} (h : PI X tg it t) (h' : PI X tg it u) : PI X tg it (fun σ H R => t σ H R ∨ u σ H R) := ⟨fun pins s σ H R I q => q.elim (fun q => h.run pins s σ H R I q) (fun q => h'.run pins s σ H R I q)⟩
/-- a list or a tuple that changes no more -/
def itemsOf : D → Store → Res (List D) := fun d S => match d with
  | .tup xs => .ok xs S
  | .lst xs => .ok xs S
  | .fro xs => .ok xs S
  | _ => .no
def mItems (m : ME) : MA := fun ρ S => (m ρ S).bind itemsOf
theorem steps_list {Γ : Gm} {α : List Addr} {G : Hp} {ds : List D} {a : Addr} {vs : List V} (h : SqL Γ.K G a vs) (r : RepL Γ α G ds vs) : Steps Γ α G ds (Itl Γ.K a) := fun i α2 G2 H2 S2 hp hs R2 => by
  have q : SqL Γ.K H2 a vs := (hs.trans R2.sub).sqL h
  have r2 : RepL Γ α2 G2 ds vs := RepL.mono hp hs _ _ r
  refine ⟨fun hl => ⟨vs, q, by rw [← r2.length]; exact hl⟩, fun d hd => ?_⟩
  obtain ⟨v, hv, rv⟩ := r2.get hd
  refine ⟨⟨vs, v, q, hv⟩, fun x H3 hy => ?_⟩
  obtain ⟨rfl, f⟩ := hy
  have e := f vs q
  rw [hv] at e
  cases e
  exact ⟨G2, R2, Ext.refl _ _ _, rv⟩
theorem steps_tup {Γ : Gm} {α : List Addr} {G : Hp} {ds : List D} {a : Addr} {vs : List V} (h : SqT Γ.K G a vs) (r : RepL Γ α G ds vs) : Steps Γ α G ds (Itt Γ.K a) := fun i α2 G2 H2 S2 hp hs R2 => by
  have q : SqT Γ.K H2 a vs := (hs.trans R2.sub).sqT h
  have r2 : RepL Γ α2 G2 ds vs := RepL.mono hp hs _ _ r
  refine ⟨fun hl => ⟨vs, q, by rw [← r2.length]; exact hl⟩, fun d hd => ?_⟩
  obtain ⟨v, hv, rv⟩ := r2.get hd
  refine ⟨⟨vs, v, q, hv⟩, fun x H3 hy => ?_⟩
  obtain ⟨rfl, f⟩ := hy
  have e := f vs q
  rw [hv] at e
  cases e
  exact ⟨G2, R2, Ext.refl _ _ _, rv⟩
theorem qi_items {tg it : Expr} (h : QE X cl E it m) : QI X cl E tg it (mItems m) := by
  obtain ⟨t, h1, h2⟩ := h.ex
  refine ⟨_, PI.or (pi_list h1) (pi_tup h1), fun ρ S σ α G H R hρ hR hp => ?_⟩
  have lists : ∀ xs S', m ρ S = .ok (.lst xs) S' → iList X.K t σ H R := fun xs S' q => by
    refine h2 ρ S σ α G H _ hρ hR (posti_bind hp fun d S1 α1 G1 H1 v q1 e1 R1 r1 hp1 => ?_)
    rw [q] at q1
    cases q1
    unfold Rep at r1
    obtain ⟨a, vs, rfl, q2, r2⟩ := r1
    exact ⟨a, rfl, ⟨vs, R1.sub.sqL (.inl (.inl q2))⟩, hp1 α1 G1 H1 _ (Ext.refl _ _ _) R1 (steps_list (Γ := ⟨X.K, cl⟩) (.inl (.inl q2)) r2)⟩
  have fros : ∀ xs S', m ρ S = .ok (.fro xs) S' → iList X.K t σ H R := fun xs S' q => by
    refine h2 ρ S σ α G H _ hρ hR (posti_bind hp fun d S1 α1 G1 H1 v q1 e1 R1 r1 hp1 => ?_)
    rw [q] at q1
    cases q1
    unfold Rep at r1
    obtain ⟨a, vs, rfl, q2, r2⟩ := r1
    exact ⟨a, rfl, ⟨vs, R1.sub.sqL q2⟩, hp1 α1 G1 H1 _ (Ext.refl _ _ _) R1 (steps_list (Γ := ⟨X.K, cl⟩) q2 r2)⟩
  have tups : ∀ xs S', m ρ S = .ok (.tup xs) S' → iTup X.K t σ H R := fun xs S' q => by
    refine h2 ρ S σ α G H _ hρ hR (posti_bind hp fun d S1 α1 G1 H1 v q1 e1 R1 r1 hp1 => ?_)
    rw [q] at q1
    cases q1
    unfold Rep at r1
    obtain ⟨a, vs, rfl, q2, r2⟩ := r1
    exact ⟨a, rfl, ⟨vs, .inl (.inl (R1.sub _ _ q2))⟩, hp1 α1 G1 H1 _ (Ext.refl _ _ _) R1 (steps_tup (Γ := ⟨X.K, cl⟩) (.inl (.inl q2)) r2)⟩
  cases q : m ρ S with
  | no => unfold mItems at hp; rw [q] at hp; exact hp.elim
  | ex e S' =>
    -- the exception comes ahead of the walk: either reading carries it
    refine .inl (h2 ρ S σ α G H _ hρ hR ?_)
    unfold mItems at hp
    rw [q] at hp ⊢
    exact hp
  | ok d S' =>
    cases d with
    | lst xs => exact .inl (lists xs S' q)
    | fro xs => exact .inl (fros xs S' q)
    | tup xs => exact .inr (tups xs S' q)
    | _ => (unfold mItems at hp; rw [q] at hp; exact hp.elim)
def rangeD (lo : Int) (k : Nat) : List D := (List.range k).map fun (i : Nat) => .int (lo + (i : Int))
theorem steps_range {Γ : Gm} {α : List Addr} {G : Hp} (lo : Int) (k : Nat) : Steps Γ α G (rangeD lo k) (Itr lo k) := fun i α2 G2 H2 S2 hp hs R2 => by
  refine ⟨fun hl => (by simpa [rangeD] using hl : k ≤ i), fun d hd => ?_⟩
  unfold rangeD at hd
  rw [List.getElem?_map] at hd
  cases q : (List.range k)[i]? with
  | none => simp [q] at hd
  | some j =>
    simp only [q, Option.map_some, Option.some.injEq] at hd
    have hi := List.getElem?_eq_some_iff.mp q
    obtain ⟨h1, h2⟩ := hi
    simp at h1 h2
    subst h2
    refine ⟨h1, fun x H3 hy => ?_⟩
    obtain ⟨rfl, rfl⟩ := hy
    exact ⟨G2, R2, Ext.refl _ _ _, by subst hd; simp [Rep]⟩
def mRange1 (m : ME) : MA := fun ρ S => (m ρ S).bind fun d S1 => match d with
  | .int j => if j.natAbs < 2 ^ 62 then .ok (rangeD 0 j.toNat) S1 else .no
  | _ => .no
def mRange2 (m m' : ME) : MA := fun ρ S => (m ρ S).bind fun d S1 => (m' ρ S1).bind fun d' S2 => match d, d' with
  | .int i, .int j => if i.natAbs < 2 ^ 62 ∧ j.natAbs < 2 ^ 62 then .ok (rangeD i (j - i).toNat) S2 else .no
  | _, _ => .no
theorem qi_range1 {tg a : Expr} {p pos : Pos} (h : QE X cl E a m) (hg : Gl X "range") (hm : X.mg "range" = none) (hs : starEach [a] X.env = [(false, eval a X.env)] := by rfl) : QI X cl E tg (.Call (.Name "range" p) [a] [] pos) (mRange1 m) := by
  obtain ⟨t, h1, h2⟩ := h.ex
  refine ⟨_, pi_range1 hg hm (pa_cons h1 pa_nil (by rw [hs]; rfl)) hs, fun ρ S σ α G H R hρ hR hp => h2 ρ S σ α G H _ hρ hR (posti_bind hp fun d S1 α1 G1 H1 v q1 e1 R1 r1 hp1 => ?_)⟩
  clear q1
  cases d <;> try exact hp1.elim
  rename_i j
  simp only at hp1
  simp only [Rep] at r1
  subst r1
  split at hp1
  · rename_i hb
    exact ⟨j, rfl, by omega, by omega, hp1 α1 G1 H1 _ (Ext.refl _ _ _) R1 (steps_range 0 j.toNat)⟩
  · exact hp1.elim
theorem qi_range2 {tg a b : Expr} {p pos : Pos} (h : QE X cl E a ma) (h' : QE X cl E b mb) (hg : Gl X "range") (hm : X.mg "range" = none) (hs : starEach [a, b] X.env = [(false, eval a X.env), (false, eval b X.env)] := by rfl) (hs2 : starEach [b] X.env = [(false, eval b X.env)] := by rfl) : QI X cl E tg (.Call (.Name "range" p) [a, b] [] pos) (mRange2 ma mb) := by
  obtain ⟨t, h1, h2⟩ := h.ex
  obtain ⟨u, k1, k2⟩ := h'.ex
  refine ⟨_, pi_range2 hg hm (pa_cons h1 (pa_cons k1 pa_nil (by rw [hs2]; rfl)) (by rw [hs, hs2])) hs hs2, fun ρ S σ α G H R hρ hR hp => h2 ρ S σ α G H _ hρ hR (posti_bind hp fun d S1 α1 G1 H1 v q1 e1 R1 r1 hp1 => ?_)⟩
  refine k2 ρ S1 σ α1 G1 H1 _ (hρ.mono e1) R1 (posti_bind hp1 fun d' S2 α2 G2 H2 w q2 e2 R2 r2 hp2 => ?_)
  clear q1 q2
  cases d <;> cases d' <;> try exact hp2.elim
  rename_i i j
  simp only at hp2
  simp only [Rep] at r1 r2
  subst r1 r2
  split at hp2
  · rename_i hb
    exact ⟨i, j, rfl, by omega, hp2 α2 G2 H2 _ (Ext.refl _ _ _) R2 (steps_range i _)⟩
  · exact hp2.elim
def forL (g : MG) (b : MS) : List D → MS
  | [] => fun ρ S => .ok (.nx ρ) S
  | d :: ds => fun ρ S => (g d ρ S).bind fun ρ1 S1 => (b ρ1 S1).bind fun f S2 => match f with
    | .nx ρ2 => forL g b ds ρ2 S2
    | .ct ρ2 => forL g b ds ρ2 S2
    | .bk ρ2 => .ok (.nx ρ2) S2
    | .rt d => .ok (.rt d) S2
def mFor (mi : MA) (g : MG) (b : MS) : MS := fun ρ S => (mi ρ S).bind fun ds S1 => forL g b ds ρ S1
theorem posts_i {Γ : Gm} {α : List Addr} {G H : Hp} {r : Res (List D)} {f : List D → Store → Res Fl} {Dn : Ends} {R : It → Hp → Prop} (h : PostS Γ E α G H (r.bind f) Dn)
    (k : ∀ ds S1 α1 G1 H1 J, Ext α G H α1 G1 H1 → Rl Γ α1 G1 S1 H1 → Steps Γ α1 G1 ds J → PostS Γ E α1 G1 H1 (f ds S1) Dn → R J H1) : PostI Γ E α G H r R := by
  cases r with
  | ok d S' =>
    intro α' G' H' v e rl rp
    exact k d S' α' G' H' v e rl rp (PostS.mono h e)
  | ex e S' => exact h
  | no => exact h
theorem snd_for {Γ : Gm} {wi : TI} {mi : MA} {g : TG} {mg : MG} {js : List Nat} {tb : TS} (hi : SndI Γ E wi mi) (hg : SndG Γ E g mg js) (hb : SndS Γ E tb n) : SndS Γ E (tFor wi g tb) (mFor mi mg n) := fun ρ S σ α G H Dn hρ hR hp => by
  refine hi ρ S σ α G H _ hρ hR (posts_i hp fun ds S1 α1 G1 H1 J e1 R1 st hp1 => ?_)
  refine ⟨fun i k σ H => k = ds.length - i ∧ i ≤ ds.length ∧ ∃ ρ S α2 G2, Ext α1 G1 H1 α2 G2 H ∧ EnvR Γ α2 G2 ρ σ ∧ Rl Γ α2 G2 S H ∧ PostS Γ E α2 G2 H (forL mg n (ds.drop i) ρ S) Dn, ⟨ds.length, by simp, Nat.zero_le _, ρ, S1, α1, G1, Ext.refl _ _ _, hρ.mono e1, R1, by simpa using hp1⟩, ?_⟩
  rintro i k σ2 H2 ⟨rfl, hle, ρ2, S2, α2, G2, e2, hρ2, R2, hp2⟩
  obtain ⟨stop, go⟩ := st i α2 G2 H2 S2 e2.pre e2.sub R2
  by_cases hlt : i < ds.length
  · have hd : ds[i]? = some ds[i] := List.getElem?_eq_getElem hlt
    obtain ⟨hgo, hy⟩ := go _ hd
    refine .inr ⟨hgo, fun σ' H' => ∃ ρ S α2 G2, Ext α1 G1 H1 α2 G2 H' ∧ EnvR Γ α2 G2 ρ σ' ∧ Rl Γ α2 G2 S H' ∧ PostS Γ E α2 G2 H' (forL mg n (ds.drop (i + 1)) ρ S) Dn, fun σ' H' z => ⟨ds.length - (i + 1), by omega, rfl, hlt, z⟩, fun x H3 y3 => ?_⟩
    obtain ⟨G3, R3, e3, rx⟩ := hy x H3 y3
    rw [List.drop_eq_getElem_cons hlt] at hp2
    have hp3 := PostS.mono hp2 e3
    refine hg ds[i] ρ2 S2 σ2 α2 G3 H3 x _ (hρ2.mono e3) R3 rx (posts_bind hp3 fun ρ4 S4 α4 G4 H4 σ4 q4 e4 R4 r4 hp4 => fun _ => ?_)
    refine hb ρ4 S4 σ4 α4 G4 H4 _ r4 R4 ?_
    clear q4
    have e14 : Ext α1 G1 H1 α4 G4 H4 := (e2.trans e3).trans e4
    cases q : n ρ4 S4 with
    | no => rw [q] at hp4; exact hp4
    | ex e S' => rw [q] at hp4; exact hp4
    | ok f S5 =>
      rw [q] at hp4
      cases f with
      | nx ρ5 => exact fun α5 G5 H5 σ5 e5 R5 r5 => ⟨ρ5, S5, α5, G5, e14.trans e5, r5, R5, PostS.mono hp4 e5⟩
      | ct ρ5 => exact fun α5 G5 H5 σ5 e5 R5 r5 => ⟨ρ5, S5, α5, G5, e14.trans e5, r5, R5, PostS.mono hp4 e5⟩
      | bk ρ5 => exact hp4
      | rt d => exact hp4
  · refine .inl ⟨stop (by omega), ?_⟩
    rw [List.drop_of_length_le (by omega)] at hp2
    exact hp2 α2 G2 H2 σ2 (Ext.refl _ _ _) R2 hρ2
theorem qs_for {tg it : Expr} {body : List Stmt} {mi : MA} {mg : MG} {js : List Nat} (hi : QI X cl E tg it mi) (hg : QG X cl E tg mg js) (hb : QSs X cl E body n) (hp : PassesOwn (model X.prog X.w) X.A X.env X.xe := by exact PassesOwn.never) (hc : X.calm = true := by rfl)
    (hs : ∀ x, foldedSetIterable it X.env x = pure x := by intro _; rfl) : QS X cl E (.For tg it body [] pos) (mFor mi mg n) := by
  obtain ⟨wi, h1, h2⟩ := hi.ex
  obtain ⟨g, k1, k2⟩ := hg.ex
  obtain ⟨tb, l1, l2⟩ := hb.ex
  exact ⟨_, ps_for hp hc h1 k1 l1 hs, snd_for h2 k2 l2⟩
/-- the slots of the block's own names forgotten -/
def wp (ρ : Env) : List Nat → Env
  | [] => ρ
  | v :: vs => (wp ρ vs).set v none
theorem wp_length (ρ : Env) : ∀ vs : List Nat, (wp ρ vs).length = ρ.length
  | [] => rfl
  | v :: vs => by unfold wp; rw [List.length_set, wp_length ρ vs]
theorem wipe_get {σ : L2.St} {i : Nat} : ∀ {vs : List Nat}, i ∉ vs → (wipe σ vs)[i]? = σ[i]?
  | [], _ => rfl
  | v :: vs, h => by
    unfold wipe
    rw [List.getElem?_set_ne (fun e => h (by simp [e]))]
    exact wipe_get fun z => h (List.mem_cons_of_mem _ z)
theorem wipe_in {σ : L2.St} {i : Nat} : ∀ {vs : List Nat}, i ∈ vs → i < σ.length → (wipe σ vs)[i]? = some none
  | v :: vs, h, hl => by
    unfold wipe
    by_cases e : v = i
    · subst e
      rw [List.getElem?_set_self (by rw [wipe_length]; exact hl)]
    · rw [List.getElem?_set_ne e]
      exact wipe_in ((List.mem_cons.mp h).resolve_left fun z => e z.symm) hl
/-- what a target of the block's own names stores is wiped again -/
theorem wipe_same {σ τ : L2.St} {vs js : List Nat} (hl : τ.length = (wipe σ vs).length) (ho : ∀ i, i ∉ js → τ[i]? = (wipe σ vs)[i]?) (hj : ∀ j ∈ js, j ∈ vs) : wipe τ vs = wipe σ vs := by
  rw [wipe_length] at hl
  apply List.ext_getElem?
  intro i
  by_cases hi : i ∈ vs
  · by_cases hb : i < σ.length
    · rw [wipe_in hi hb, wipe_in hi (by rw [hl]; exact hb)]
    · rw [List.getElem?_eq_none (by rw [wipe_length]; omega), List.getElem?_eq_none (by rw [wipe_length]; omega)]
  · rw [wipe_get hi, ho i fun z => hi (hj i z)]
theorem EnvR.wp {Γ : Gm} {α : List Addr} {G : Hp} {ρ : Env} {σ : L2.St} (h : EnvR Γ α G ρ σ) : ∀ vs : List Nat, EnvR Γ α G (wp ρ vs) (wipe σ vs)
  | [] => h
  | v :: vs => by
    have ih := EnvR.wp h vs
    unfold Q.wp wipe
    refine ⟨by simp [ih.1], fun i d hd => ?_⟩
    by_cases e : v = i
    · subst e
      have hl := (List.getElem?_eq_some_iff.mp hd).1
      rw [List.length_set] at hl
      rw [List.getElem?_set_self hl] at hd
      cases hd
    · rw [List.getElem?_set_ne e] at hd ⊢
      exact ih.2 i d hd
def lcL (g : MG) (t : MT) (m : ME) (ρ : Env) : List D → Store → Res (List D)
  | [], S => .ok [] S
  | d :: ds, S => (g d ρ S).bind fun ρ1 S1 => (t ρ1 S1).bind fun b S2 => match b with
    | true => (m ρ1 S2).bind fun v S3 => (lcL g t m ρ ds S3).bind fun vs S4 => .ok (v :: vs) S4
    | false => lcL g t m ρ ds S2
/-- [e for g in mi if t], a list that changes no more -/
def mLc (mi : MA) (g : MG) (t : MT) (m : ME) (vs : List Nat) : ME := fun ρ S => (mi ρ S).bind fun ds S1 => if ds.length ≤ 100000 then (lcL g t m (wp ρ vs) ds S1).bind fun xs S2 => .ok (.lst xs) S2 else .no
/-- .. a new cell -/
def mLcC (mi : MA) (g : MG) (t : MT) (m : ME) (vs : List Nat) : ME := fun ρ S => (mi ρ S).bind fun ds S1 => if ds.length ≤ 100000 then (lcL g t m (wp ρ vs) ds S1).bind fun xs S2 => .ok (.ref S2.length) (S2 ++ [.lst xs]) else .no
/-- a state beside which a list is being made -/
theorem Rl.patch {Γ : Gm} {α : List Addr} {G H : Hp} {S : Store} (R : Rl Γ α G S H) {p : Addr} (hp : p ∉ α) (hg : G p = none) (o : HO) : Rl Γ α G S (upd H p o) := by
  have ne : ∀ a ∈ α, a ≠ p := fun a m e => by subst e; exact hp m
  refine ⟨fun a u e => ?_, R.len, R.nd, fun a m => by rw [upd_ne (ne a m)]; exact R.tr a m, fun k c a hc ha => ?_⟩
  · rw [upd_ne (fun z => by subst z; rw [hg] at e; cases e)]; exact R.sub a u e
  · exact (R.ok k c a hc ha).mono ⟨[], by simp⟩ (Sub.refl G) fun _ => ⟨upd_ne (ne a (List.mem_of_getElem? ha)), fun h => h⟩
theorem Ext.patch {α α' : List Addr} {G G' H H' : Hp} (e : Ext α G H α' G' H') {p : Addr} (hp : H p = none) (o : HO) : Ext α G H α' G' (upd H' p o) :=
  ⟨e.pre, e.sub, fun a u h m => by rw [upd_ne (ne_of_none h hp)]; exact e.fr a u h m, e.na, e.ng⟩
/-- the state while the list at p holds vs so far -/
structure Mid (Γ : Gm) (α1 : List Addr) (G1 H1 : Hp) (p : Addr) (α : List Addr) (G : Hp) (S : Store) (H : Hp) (vs : List V) : Prop where
  ext : Ext α1 G1 H1 α G H
  rl : Rl Γ α G S H
  at_ : H p = some (.lst vs)
  na : p ∉ α
  ng : G p = none
theorem Mid.step {Γ : Gm} {α1 α α' : List Addr} {G1 H1 G H G' H' : Hp} {p : Addr} {S S' : Store} {vs : List V} (M : Mid Γ α1 G1 H1 p α G S H vs) (e : Ext α G H α' G' H') (R : Rl Γ α' G' S' H') : Mid Γ α1 G1 H1 p α' G' S' H' vs := by
  refine ⟨M.ext.trans e, R, e.fr p _ M.at_ M.na, fun m => ?_, ?_⟩
  · rcases e.na p m with z | z
    · exact M.na z
    · rw [M.at_] at z; cases z
  · cases q : G' p with
    | none => rfl
    | some o =>
      rcases e.ng p (by rw [q]; simp) with z | z | z | ⟨xs, z⟩
      · exact absurd M.ng z
      · exact absurd z M.na
      · rw [M.at_] at z; cases z
      · rw [M.at_] at z; cases z
theorem Mid.push {Γ : Gm} {α1 α : List Addr} {G1 H1 G H : Hp} {p : Addr} {S : Store} {vs : List V} (M : Mid Γ α1 G1 H1 p α G S H vs) (hp : H1 p = none) (ws : List V) : Mid Γ α1 G1 H1 p α G S (upd H p (.lst ws)) ws :=
  ⟨M.ext.patch hp _, M.rl.patch M.na M.ng _, upd_same, M.na, M.ng⟩
/-- the list is made: it changes no more -/
theorem Mid.done {Γ : Gm} {α1 α : List Addr} {G1 H1 G H : Hp} {p : Addr} {S : Store} {vs : List V} (M : Mid Γ α1 G1 H1 p α G S H vs) (hp : H1 p = none) : Rl Γ α (upd G p (.lst vs)) S H ∧ Ext α1 G1 H1 α (upd G p (.lst vs)) H := by
  have sg : Sub G (upd G p (.lst vs)) := Sub.new M.ng
  refine ⟨⟨fun a u e => ?_, M.rl.len, M.rl.nd, M.rl.tr, fun k c a hc ha => ?_⟩, ⟨M.ext.pre, M.ext.sub.trans sg, M.ext.fr, M.ext.na, fun a h => ?_⟩⟩
  · by_cases z : a = p
    · subst z; rw [upd_same] at e; cases e; exact M.at_
    · rw [upd_ne z] at e; exact M.rl.sub a u e
  · have ne : a ≠ p := fun z => by subst z; exact M.na (List.mem_of_getElem? ha)
    exact (M.rl.ok k c a hc ha).mono ⟨[], by simp⟩ sg fun _ => ⟨rfl, fun h3 => by rw [upd_ne ne]; exact h3⟩
  · by_cases z : a = p
    · subst z; exact .inr (.inr (.inl hp))
    · rw [upd_ne z] at h; exact M.ext.ng a h
/-- .. it is a new cell -/
theorem Mid.cell {Γ : Gm} {α1 α : List Addr} {G1 H1 G H : Hp} {p : Addr} {S : Store} {ds : List D} {vs : List V} (M : Mid Γ α1 G1 H1 p α G S H vs) (hp : H1 p = none) (r : RepL Γ α G ds vs) :
    Rl Γ (α ++ [p]) G (S ++ [.lst ds]) H ∧ Ext α1 G1 H1 (α ++ [p]) G H ∧ Rep Γ (α ++ [p]) G (.ref S.length) (.ref p) := by
  have mono : ∀ {ds vs}, RepL Γ α G ds vs → RepL Γ (α ++ [p]) G ds vs := fun {ds vs} h => RepL.mono ⟨[p], rfl⟩ (Sub.refl G) _ _ h
  refine ⟨⟨M.rl.sub, by simp [M.rl.len], ?_, fun a m => ?_, fun k c a hc ha => ?_⟩, ⟨?_, M.ext.sub, M.ext.fr, fun a m => ?_, M.ext.ng⟩, ?_⟩
  · rw [List.nodup_append]
    exact ⟨M.rl.nd, by simp, fun a m b mb => by simp at mb; subst mb; exact fun z => by subst z; exact M.na m⟩
  · rcases List.mem_append.mp m with m | m
    · exact M.rl.tr a m
    · simp at m; subst m; rw [M.at_]; simp
  · by_cases hk : k < α.length
    · rw [List.getElem?_append_left hk] at ha
      rw [List.getElem?_append_left (by rw [← M.rl.len]; exact hk)] at hc
      exact (M.rl.ok k c a hc ha).mono ⟨[p], rfl⟩ (Sub.refl G) fun _ => ⟨rfl, fun h => h⟩
    · rw [List.getElem?_append_right (by omega)] at ha
      rw [List.getElem?_append_right (by rw [← M.rl.len]; omega)] at hc
      have e1 : k - α.length = 0 := by
        have := (List.getElem?_eq_some_iff.mp ha).1
        simp at this
        omega
      have e2 : k - S.length = 0 := by rw [← M.rl.len]; exact e1
      rw [e1] at ha
      rw [e2] at hc
      simp at ha hc
      subst ha
      subst hc
      exact .mkL M.at_ (mono r) M.ng
  · obtain ⟨β, rfl⟩ := M.ext.pre
    exact ⟨β ++ [p], by simp⟩
  · rcases List.mem_append.mp m with m | m
    · exact M.ext.na a m
    · simp at m; subst m; exact .inr hp
  · unfold Rep
    exact ⟨p, rfl, by rw [← M.rl.len]; simp⟩
/-- what is wanted of the walk through the items: behind it, the list that was made -/
def PostL (Γ : Gm) (E : XK) (α1 : List Addr) (G1 H1 : Hp) (p : Addr) (acc : List D) (r : Res (List D)) (Q : VK) : Prop := match r with
  | .ok xs S' => ∀ α G H vs, Mid Γ α1 G1 H1 p α G S' H vs → RepL Γ α G (acc ++ xs) vs → Q (.ref p) H
  | .ex e S' => ∀ α G H c x, Ext α1 G1 H1 α G H → Rl Γ α G S' H → ExR Γ α G e c x H → E c x H
  | .no => False
theorem snd_lc {Γ : Gm} {wi : TI} {mi : MA} {g : TG} {mg : MG} {js vs : List Nat} {tt : TT} {te : TE} (hi : SndI Γ E wi mi) (hg : SndG Γ E g mg js) (ht : SndT Γ E tt mt) (he : SndE Γ E te m) (hj : ∀ j ∈ js, j ∈ vs) (cellQ : Bool) :
    SndE Γ E (tLc wi g tt te vs) (if cellQ then mLcC mi mg mt m vs else mLc mi mg mt m vs) := fun ρ S σ α G H Q hρ hR hp => by
  have main : ∀ ds S1 α1 G1 H1 J, Ext α G H α1 G1 H1 → Rl Γ α1 G1 S1 H1 → Steps Γ α1 G1 ds J → ds.length ≤ 100000 → ∀ p, H1 p = none → PostL Γ E α1 G1 H1 p [] (lcL mg mt m (wp ρ vs) ds S1) Q → ∃ W : Nat → Nat → Hp → Prop, (∃ m, W 0 m (upd H1 p (.lst []))) ∧ ∀ i m H, W i m H →
      (J.stop i H ∧ Q (.ref p) H) ∨ (J.go i H ∧ ∃ Nx : Hp → Prop, (∀ H', Nx H' → ∃ m', m' < m ∧ W (i + 1) m' H') ∧ ∀ x H', J.yld i H x H' → g x (wipe σ vs) H' fun σ2 H2 => wipe σ2 vs = wipe σ vs ∧ tt σ2 H2 fun b H3 =>
        if b = true then te σ2 H3 fun y H4 => ∃ acc, H4 p = some (.lst acc) ∧ acc.length < sizeLine ∧ Nx (upd H4 p (.lst (acc ++ [y]))) else Nx H3) := by
    intro ds S1 α1 G1 H1 J e1 R1 st hl p hp0 hq
    have hpa : p ∉ α1 := fun z => R1.tr p z hp0
    have hpg : G1 p = none := R1.gnone hp0
    refine ⟨fun i k H => k = ds.length - i ∧ i ≤ ds.length ∧ ∃ S2 α2 G2 acc ws, Mid Γ α1 G1 H1 p α2 G2 S2 H ws ∧ RepL Γ α2 G2 acc ws ∧ acc.length ≤ i ∧ PostL Γ E α1 G1 H1 p acc (lcL mg mt m (wp ρ vs) (ds.drop i) S2) Q,
      ⟨ds.length, by simp, Nat.zero_le _, S1, α1, G1, [], [], ⟨(Ext.refl _ _ _).patch hp0 _, R1.patch hpa hpg _, upd_same, hpa, hpg⟩, by simp [RepL], Nat.le_refl _, by simpa using hq⟩, ?_⟩
    rintro i k H2 ⟨rfl, hle, S2, α2, G2, acc, ws, M2, r2, ha2, hq2⟩
    obtain ⟨stop, go⟩ := st i α2 G2 H2 S2 M2.ext.pre M2.ext.sub M2.rl
    by_cases hlt : i < ds.length
    · have hd : ds[i]? = some ds[i] := List.getElem?_eq_getElem hlt
      obtain ⟨hgo, hy⟩ := go _ hd
      refine .inr ⟨hgo, fun H' => ∃ S2 α2 G2 acc ws, Mid Γ α1 G1 H1 p α2 G2 S2 H' ws ∧ RepL Γ α2 G2 acc ws ∧ acc.length ≤ i + 1 ∧ PostL Γ E α1 G1 H1 p acc (lcL mg mt m (wp ρ vs) (ds.drop (i + 1)) S2) Q, fun H' z => ⟨ds.length - (i + 1), by omega, rfl, hlt, z⟩, fun x H3 y3 => ?_⟩
      obtain ⟨G3, R3, e3, rx⟩ := hy x H3 y3
      have M3 := M2.step e3 R3
      rw [List.drop_eq_getElem_cons hlt] at hq2
      simp only [lcL] at hq2
      have hρ3 : EnvR Γ α2 G3 (wp ρ vs) (wipe σ vs) := by
        have := (hρ.mono e1).mono (M3.ext)
        exact this.wp vs
      refine hg ds[i] (wp ρ vs) S2 (wipe σ vs) α2 G3 H3 x _ hρ3 R3 rx ?_
      cases q4 : mg ds[i] (wp ρ vs) S2 with
      | no => rw [q4] at hq2; exact hq2.elim
      | ex e' S' =>
        rw [q4] at hq2
        exact fun α' G' H' c x e R r => hq2 α' G' H' c x (M3.ext.trans e) R r
      | ok ρ4 S4 =>
        rw [q4] at hq2
        dsimp only [Res.bind] at hq2
        intro α4 G4 H4 σ4 e4 R4 r4 ⟨l4, o4⟩
        have M4 := M3.step e4 R4
        refine ⟨wipe_same l4 o4 hj, ?_⟩
        refine ht ρ4 S4 σ4 α4 G4 H4 _ r4 R4 ?_
        cases q5 : mt ρ4 S4 with
        | no => rw [q5] at hq2; exact hq2.elim
        | ex e' S' =>
          rw [q5] at hq2
          exact fun α' G' H' c x e R r => hq2 α' G' H' c x (M4.ext.trans e) R r
        | ok b S5 =>
          rw [q5] at hq2
          dsimp only [Res.bind] at hq2
          intro α5 G5 H5 b' e5 R5 rb
          have rb : b = b' := rb
          subst rb
          have M5 := M4.step e5 R5
          have r5 : RepL Γ α5 G5 acc ws := RepL.mono e5.pre e5.sub _ _ (RepL.mono e4.pre e4.sub _ _ (RepL.mono e3.pre e3.sub _ _ r2))
          cases b with
          | false => exact iteF ⟨S5, α5, G5, acc, ws, M5, r5, by omega, hq2⟩
          | true =>
            refine iteT (he ρ4 S5 σ4 α5 G5 H5 _ (r4.mono e5) R5 ?_)
            cases q6 : m ρ4 S5 with
            | no => rw [q6] at hq2; exact hq2.elim
            | ex e' S' =>
              rw [q6] at hq2
              exact fun α' G' H' c x e R r => hq2 α' G' H' c x (M5.ext.trans e) R r
            | ok v S6 =>
              rw [q6] at hq2
              dsimp only [Res.bind] at hq2
              intro α6 G6 H6 y e6 R6 ry
              have M6 := M5.step e6 R6
              have r6 : RepL Γ α6 G6 acc ws := RepL.mono e6.pre e6.sub _ _ r5
              refine ⟨ws, M6.at_, ?_, S6, α6, G6, acc ++ [v], ws ++ [y], M6.push hp0 _, r6.append (by unfold RepL; exact ⟨y, [], rfl, ry, by simp [RepL]⟩), by simp; omega, ?_⟩
              · rw [← r6.length]
                exact Nat.lt_of_le_of_lt (by omega : acc.length ≤ 100000) (by decide)
              · cases q7 : lcL mg mt m (wp ρ vs) (ds.drop (i + 1)) S6 with
                | no => rw [q7] at hq2; exact hq2.elim
                | ex e' S' => rw [q7] at hq2; exact hq2
                | ok xs S7 =>
                  rw [q7] at hq2
                  intro α7 G7 H7 vs7 M7 r7
                  refine hq2 α7 G7 H7 vs7 M7 ?_
                  rw [List.append_assoc] at r7
                  exact r7
    · refine .inl ⟨stop (by omega), ?_⟩
      rw [List.drop_of_length_le (by omega)] at hq2
      exact hq2 α2 G2 H2 ws M2 (by simpa using r2)
  refine hi ρ S σ α G H _ hρ hR ?_
  cases cellQ with
  | false =>
    simp only [Bool.false_eq_true, if_false, mLc] at hp
    cases q : mi ρ S with
    | no => rw [q] at hp; exact hp
    | ex e S' => rw [q] at hp; exact hp
    | ok ds S1 =>
      rw [q] at hp
      intro α1 G1 H1 J e1 R1 st p hp0
      have hp := (show Post Γ (Rep Γ) α G H (if ds.length ≤ 100000 then _ else _) Q E from hp)
      split at hp
      · rename_i hl
        have hp1 := Post.mono hp e1
        refine main ds S1 α1 G1 H1 J e1 R1 st hl p hp0 ?_
        cases q2 : lcL mg mt m (wp ρ vs) ds S1 with
        | no => rw [q2] at hp1; exact hp1.elim
        | ex e S' => rw [q2] at hp1; exact hp1
        | ok xs S2 =>
          rw [q2] at hp1
          intro α2 G2 H2 ws M r
          obtain ⟨R3, e3⟩ := M.done hp0
          have r' : RepL Γ α2 (upd G2 p (.lst ws)) xs ws := RepL.mono (α := α2) ⟨[], by simp⟩ (Sub.new M.ng) xs ws (by simpa using r)
          exact hp1 α2 _ H2 (.ref p) e3 R3 (rep_lst upd_same r')
      · exact hp.elim
  | true =>
    simp only [if_true, mLcC] at hp
    cases q : mi ρ S with
    | no => rw [q] at hp; exact hp
    | ex e S' => rw [q] at hp; exact hp
    | ok ds S1 =>
      rw [q] at hp
      intro α1 G1 H1 J e1 R1 st p hp0
      have hp := (show Post Γ (Rep Γ) α G H (if ds.length ≤ 100000 then _ else _) Q E from hp)
      split at hp
      · rename_i hl
        have hp1 := Post.mono hp e1
        refine main ds S1 α1 G1 H1 J e1 R1 st hl p hp0 ?_
        cases q2 : lcL mg mt m (wp ρ vs) ds S1 with
        | no => rw [q2] at hp1; exact hp1.elim
        | ex e S' => rw [q2] at hp1; exact hp1
        | ok xs S2 =>
          rw [q2] at hp1
          intro α2 G2 H2 ws M r
          obtain ⟨R3, e3, r3⟩ := M.cell hp0 (by simpa using r)
          exact hp1 _ _ H2 (.ref p) e3 R3 r3
      · exact hp.elim
structure QTs (X : Cx) (cl : Nat → Addr) (E : XK) (ifs : List Expr) (m : MT) : Prop where
  ex : ∃ t, PTs X ifs t ∧ SndT ⟨X.K, cl⟩ E t m
def mYes : MT := fun _ S => .ok true S
theorem snd_yes {Γ : Gm} : SndT Γ E tYes mYes := fun ρ S σ α G H Q hρ hR hp => post_ok (x := true) hp hR rfl
end
section
variable {X : Cx} {cl : Nat → Addr} {E : XK} {m : ME} {mt : MT} {pos : Pos}
def tE (Γ : Gm) (E : XK) (m : ME) : TE := fun σ H Q => ∃ ρ S α G, EnvR Γ α G ρ σ ∧ Rl Γ α G S H ∧ Post Γ (Rep Γ) α G H (m ρ S) Q E
def tT (Γ : Gm) (E : XK) (m : MT) : TT := fun σ H Q => ∃ ρ S α G, EnvR Γ α G ρ σ ∧ Rl Γ α G S H ∧ Post Γ RB α G H (m ρ S) Q E
def tG (Γ : Gm) (E : XK) (mg : MG) (js : List Nat) : TG := fun v σ H Q => ∃ d ρ S α G, EnvR Γ α G ρ σ ∧ Rl Γ α G S H ∧ Rep Γ α G d v ∧ Post Γ (EnvR Γ) α G H (mg d ρ S) (fun σ' H' => σ'.length = σ.length ∧ (∀ i, i ∉ js → σ'[i]? = σ[i]?) → Q σ' H') E
theorem QE.can {e : Expr} (h : QE X cl E e m) : PE X e (tE ⟨X.K, cl⟩ E m) := by
  obtain ⟨t, h1, h2⟩ := h.ex
  exact ⟨fun pins s σ H Q I ⟨ρ, S, α, G, hρ, hR, hp⟩ => h1.run pins s σ H Q I (h2 ρ S σ α G H Q hρ hR hp)⟩
theorem QT.can {e : Expr} (h : QT X cl E e mt) : PT X e (tT ⟨X.K, cl⟩ E mt) := by
  obtain ⟨t, h1, h2⟩ := h.ex
  exact ⟨fun pins s σ H Q I ⟨ρ, S, α, G, hρ, hR, hp⟩ => h1.run pins s σ H Q I (h2 ρ S σ α G H Q hρ hR hp)⟩
theorem QG.can {e : Expr} {mg : MG} {js : List Nat} (h : QG X cl E e mg js) : PG X e (tG ⟨X.K, cl⟩ E mg js) := by
  obtain ⟨t, h1, h2⟩ := h.ex
  exact ⟨fun pins s σ H v u Q I r ⟨d, ρ, S, α, G, hρ, hR, rd, hp⟩ => h1.run pins s σ H v u Q I r (h2 d ρ S σ α G H v Q hρ hR rd hp)⟩
theorem snd_tE {Γ : Gm} : SndE Γ E (tE Γ E m) m := fun ρ S σ α G H Q hρ hR hp => ⟨ρ, S, α, G, hρ, hR, hp⟩
theorem snd_tT {Γ : Gm} : SndT Γ E (tT Γ E mt) mt := fun ρ S σ α G H Q hρ hR hp => ⟨ρ, S, α, G, hρ, hR, hp⟩
theorem snd_tG {Γ : Gm} {mg : MG} {js : List Nat} : SndG Γ E (tG Γ E mg js) mg js := fun d ρ S σ α G H v Q hρ hR rd hp => ⟨d, ρ, S, α, G, hρ, hR, rd, hp⟩
/-- the context of a comprehension's block -/
abbrev Blk (X : Cx) (scope : Scope) (s : Shared) (H : Hp) (C : Addr) (c : List (Str × Addr)) (fp : List Addr) : Cx := X.blk s H scope (compEnvC scope c C X.env) fp
variable {elt tg iter c : Expr} {scope : Scope} {mi : MA} {mg : MG} {js : List Nat}
/-- [elt for tg in iter] -/
theorem q_lc (own : List (Str × Nat)) (hi : QI X cl E tg iter mi) (hN : X.N.Nodup) (ok : BlkOk X.N X.env.scope scope own)
    (hg : ∀ (s : Shared) (H : Hp) (C : Addr) (c : List (Str × Addr)) (fp : List Addr), QG (Blk X scope s H C c fp) cl E tg mg js)
    (he : ∀ (s : Shared) (H : Hp) (C : Addr) (c : List (Str × Addr)) (fp : List Addr), QE (Blk X scope s H C c fp) cl E elt m)
    (hj : ∀ j ∈ js, j ∈ own.map (·.2) := by decide) (hc : X.calm = true := by rfl) (hs : ∀ x, foldedSetIterable iter X.env x = pure x := by intro _; rfl) :
    QE X cl E (.ListComp elt [⟨tg, iter, [], 0⟩] scope pos) (mLc mi mg mYes m (own.map (·.2))) := by
  obtain ⟨wi, h1, h2⟩ := hi.ex
  exact ⟨_, pe_lc hc hN h1 ok (fun s H C c fp => (hg s H C c fp).can) (fun _ _ _ _ _ => pts_nil) (fun s H C c fp => (he s H C c fp).can) hs, snd_lc (Γ := ⟨X.K, cl⟩) h2 snd_tG snd_yes snd_tE hj false⟩
theorem q_lcC (own : List (Str × Nat)) (hi : QI X cl E tg iter mi) (hN : X.N.Nodup) (ok : BlkOk X.N X.env.scope scope own)
    (hg : ∀ (s : Shared) (H : Hp) (C : Addr) (c : List (Str × Addr)) (fp : List Addr), QG (Blk X scope s H C c fp) cl E tg mg js)
    (he : ∀ (s : Shared) (H : Hp) (C : Addr) (c : List (Str × Addr)) (fp : List Addr), QE (Blk X scope s H C c fp) cl E elt m)
    (hj : ∀ j ∈ js, j ∈ own.map (·.2) := by decide) (hc : X.calm = true := by rfl) (hs : ∀ x, foldedSetIterable iter X.env x = pure x := by intro _; rfl) :
    QE X cl E (.ListComp elt [⟨tg, iter, [], 0⟩] scope pos) (mLcC mi mg mYes m (own.map (·.2))) := by
  obtain ⟨wi, h1, h2⟩ := hi.ex
  exact ⟨_, pe_lc hc hN h1 ok (fun s H C c fp => (hg s H C c fp).can) (fun _ _ _ _ _ => pts_nil) (fun s H C c fp => (he s H C c fp).can) hs, snd_lc (Γ := ⟨X.K, cl⟩) h2 snd_tG snd_yes snd_tE hj true⟩
/-- [elt for tg in iter if c] -/
theorem q_lcIf (own : List (Str × Nat)) (hi : QI X cl E tg iter mi) (hN : X.N.Nodup) (ok : BlkOk X.N X.env.scope scope own)
    (hg : ∀ (s : Shared) (H : Hp) (C : Addr) (c : List (Str × Addr)) (fp : List Addr), QG (Blk X scope s H C c fp) cl E tg mg js)
    (ht : ∀ (s : Shared) (H : Hp) (C : Addr) (c' : List (Str × Addr)) (fp : List Addr), QT (Blk X scope s H C c' fp) cl E c mt)
    (he : ∀ (s : Shared) (H : Hp) (C : Addr) (c : List (Str × Addr)) (fp : List Addr), QE (Blk X scope s H C c fp) cl E elt m)
    (hj : ∀ j ∈ js, j ∈ own.map (·.2) := by decide) (hc : X.calm = true := by rfl) (hs : ∀ x, foldedSetIterable iter X.env x = pure x := by intro _; rfl) :
    QE X cl E (.ListComp elt [⟨tg, iter, [c], 0⟩] scope pos) (mLc mi mg mt m (own.map (·.2))) := by
  obtain ⟨wi, h1, h2⟩ := hi.ex
  exact ⟨_, pe_lc hc hN h1 ok (fun s H C c fp => (hg s H C c fp).can) (fun s H C c fp => pts_one (ht s H C c fp).can) (fun s H C c fp => (he s H C c fp).can) hs, snd_lc (Γ := ⟨X.K, cl⟩) h2 snd_tG snd_tT snd_tE hj false⟩
theorem q_lcIfC (own : List (Str × Nat)) (hi : QI X cl E tg iter mi) (hN : X.N.Nodup) (ok : BlkOk X.N X.env.scope scope own)
    (hg : ∀ (s : Shared) (H : Hp) (C : Addr) (c : List (Str × Addr)) (fp : List Addr), QG (Blk X scope s H C c fp) cl E tg mg js)
    (ht : ∀ (s : Shared) (H : Hp) (C : Addr) (c' : List (Str × Addr)) (fp : List Addr), QT (Blk X scope s H C c' fp) cl E c mt)
    (he : ∀ (s : Shared) (H : Hp) (C : Addr) (c : List (Str × Addr)) (fp : List Addr), QE (Blk X scope s H C c fp) cl E elt m)
    (hj : ∀ j ∈ js, j ∈ own.map (·.2) := by decide) (hc : X.calm = true := by rfl) (hs : ∀ x, foldedSetIterable iter X.env x = pure x := by intro _; rfl) :
    QE X cl E (.ListComp elt [⟨tg, iter, [c], 0⟩] scope pos) (mLcC mi mg mt m (own.map (·.2))) := by
  obtain ⟨wi, h1, h2⟩ := hi.ex
  exact ⟨_, pe_lc hc hN h1 ok (fun s H C c fp => (hg s H C c fp).can) (fun s H C c fp => pts_one (ht s H C c fp).can) (fun s H C c fp => (he s H C c fp).can) hs, snd_lc (Γ := ⟨X.K, cl⟩) h2 snd_tG snd_tT snd_tE hj true⟩
/-- name = [elt for tg in iter ..], stored within the comprehension's own frame -/
theorem qs_setLc (i : Nat) {y : Str} {py spos : Pos} {ifs : List Expr} (own : List (Str × Nat)) (cellQ : Bool) (hi : QI X cl E tg iter mi) (hN : X.N.Nodup) (ok : BlkOk X.N X.env.scope scope own)
    (hg : ∀ (s : Shared) (H : Hp) (C : Addr) (c : List (Str × Addr)) (fp : List Addr), QG (Blk X scope s H C c fp) cl E tg mg js)
    (ht : ∀ (s : Shared) (H : Hp) (C : Addr) (c' : List (Str × Addr)) (fp : List Addr), PTs (Blk X scope s H C c' fp) ifs (tT ⟨X.K, cl⟩ E mt))
    (he : ∀ (s : Shared) (H : Hp) (C : Addr) (c : List (Str × Addr)) (fp : List Addr), QE (Blk X scope s H C c fp) cl E elt m)
    (hj : ∀ j ∈ js, j ∈ own.map (·.2) := by decide) (hy : X.N[i]? = some y := by rfl) (hyl : X.env.scope.names.lookup y = some .local := by rfl) (hc : X.calm = true := by rfl)
    (hsw : swapsWith (.ListComp elt [⟨tg, iter, ifs, 0⟩] scope pos) (some (.Name y py)) spos.line X.env = pure true := by exact sw_true rfl rfl rfl (by decide +kernel)) (hs : ∀ x, foldedSetIterable iter X.env x = pure x := by intro _; rfl) :
    QS X cl E (.Assign [.Name y py] (.ListComp elt [⟨tg, iter, ifs, 0⟩] scope pos) spos) (mAsg (if cellQ then mLcC mi mg mt m (own.map (·.2)) else mLc mi mg mt m (own.map (·.2))) (mgN i)) := by
  obtain ⟨wi, h1, h2⟩ := hi.ex
  exact ⟨_, ps_setLc hc hN hy hyl hsw h1 ok (fun s H C c fp => (hg s H C c fp).can) ht (fun s H C c fp => (he s H C c fp).can) hs, snd_asg (snd_lc (Γ := ⟨X.K, cl⟩) h2 snd_tG snd_tT snd_tE hj cellQ) (sndg_name i)⟩
theorem ts_nil : PTs X [] (tT ⟨X.K, cl⟩ E mYes) := ⟨fun pins s σ H Q I ⟨ρ, S, α, G, hρ, hR, hp⟩ => pts_nil.run pins s σ H Q I (snd_yes ρ S σ α G H Q hρ hR hp)⟩
theorem ts_one (h : QT X cl E c mt) : PTs X [c] (tT ⟨X.K, cl⟩ E mt) := pts_one h.can
end
mutual
/-- all cells that are named stand ahead of the n-th -/
def belowD (n : Nat) : D → Bool
  | .ref k => decide (k < n)
  | .tup xs => belowL n xs
  | .lst xs => belowL n xs
  | .fro xs => belowL n xs
  | .obj _ fs => belowL n fs
  | .exn _ fs => belowL n fs
  | .non => true
  | .bl _ => true
  | .int _ => true
  | .str _ => true
def belowL (n : Nat) : List D → Bool
  | [] => true
  | d :: ds => belowD n d && belowL n ds
end
mutual
theorem below_pure (n : Nat) : ∀ (d : D), pureD d = true → belowD n d = true
  | .non, _ => by simp [belowD]
  | .bl b, _ => by simp [belowD]
  | .int i, _ => by simp [belowD]
  | .str s, _ => by simp [belowD]
  | .tup ds, p => by simp only [belowD]; exact belowL_pure n ds (by simpa [pureD] using p)
  | .lst ds, p => by simp only [belowD]; exact belowL_pure n ds (by simpa [pureD] using p)
  | .fro ds, p => by simp only [belowD]; exact belowL_pure n ds (by simpa [pureD] using p)
  | .obj c ds, p => by simp only [belowD]; exact belowL_pure n ds (by simpa [pureD] using p)
  | .exn c ds, p => by simp only [belowD]; exact belowL_pure n ds (by simpa [pureD] using p)
  | .ref k, p => by simp [pureD] at p
theorem belowL_pure (n : Nat) : ∀ (ds : List D), pureL ds = true → belowL n ds = true
  | [], _ => by simp [belowL]
  | d :: ds, p => by
    simp only [pureL, Bool.and_eq_true] at p
    simp only [belowL, Bool.and_eq_true]
    exact ⟨below_pure n d p.1, belowL_pure n ds p.2⟩
end
mutual
theorem below_rep {Γ : Gm} {α β : List Addr} {G : Hp} : ∀ (d : D) (v : V), belowD α.length d = true → Rep Γ (α ++ β) G d v → Rep Γ α G d v
  | .non, v, _, h => by simpa [Rep] using h
  | .bl b, v, _, h => by simpa [Rep] using h
  | .int i, v, _, h => by simpa [Rep] using h
  | .str s, v, _, h => by simpa [Rep] using h
  | .tup ds, v, p, h => by
    unfold Rep at h ⊢
    obtain ⟨a, vs, e, q, r⟩ := h
    exact ⟨a, vs, e, q, belowL_rep ds vs (by simpa [belowD] using p) r⟩
  | .lst ds, v, p, h => by
    unfold Rep at h ⊢
    obtain ⟨a, vs, e, q, r⟩ := h
    exact ⟨a, vs, e, q, belowL_rep ds vs (by simpa [belowD] using p) r⟩
  | .fro ds, v, p, h => by
    unfold Rep at h ⊢
    obtain ⟨a, vs, e, q, r⟩ := h
    exact ⟨a, vs, e, q, belowL_rep ds vs (by simpa [belowD] using p) r⟩
  | .obj c ds, v, p, h => by
    unfold Rep at h ⊢
    obtain ⟨a, vs, e, q, r⟩ := h
    exact ⟨a, vs, e, q, belowL_rep ds vs (by simpa [belowD] using p) r⟩
  | .exn c ds, v, p, h => by
    unfold Rep at h ⊢
    obtain ⟨a, vs, e, q, r⟩ := h
    exact ⟨a, vs, e, q, belowL_rep ds vs (by simpa [belowD] using p) r⟩
  | .ref k, v, p, h => by
    unfold Rep at h ⊢
    obtain ⟨a, e, q⟩ := h
    have hk : k < α.length := by simpa [belowD] using p
    exact ⟨a, e, by rw [List.getElem?_append_left hk] at q; exact q⟩
theorem belowL_rep {Γ : Gm} {α β : List Addr} {G : Hp} : ∀ (ds : List D) (vs : List V), belowL α.length ds = true → RepL Γ (α ++ β) G ds vs → RepL Γ α G ds vs
  | [], vs, _, h => by simpa [RepL] using h
  | d :: ds, vs, p, h => by
    unfold RepL at h ⊢
    obtain ⟨v, r, e, h1, h2⟩ := h
    simp only [belowL, Bool.and_eq_true] at p
    exact ⟨v, r, e, below_rep d v p.1 h1, belowL_rep ds r p.2 h2⟩
end
/-- the cells that were changed hold data without cells -/
def Cell.pure : Cell → Bool
  | .lst ds => pureL ds
  | .frz ds => pureL ds
  | .dk _ kvs => kvs.all fun p => pureD p.2
  | .dt _ kvs => kvs.all fun p => pureD p.2
  | .ob _ fs => fs.all fun o => match o with
    | some d => pureD d
    | none => true
/-- .. or cells of the caller's -/
def Cell.below (n : Nat) : Cell → Bool
  | .lst ds => belowL n ds
  | .frz ds => belowL n ds
  | .dk _ kvs => kvs.all fun p => belowD n p.2
  | .dt _ kvs => kvs.all fun p => belowD n p.2
  | .ob _ fs => fs.all fun o => match o with
    | some d => belowD n d
    | none => true
theorem Cell.below_of {c : Cell} (n : Nat) (h : c.pure = true) : c.below n = true := by
  cases c with
  | lst ds => exact belowL_pure n ds h
  | frz ds => exact belowL_pure n ds h
  | dk l kvs => exact List.all_eq_true.mpr fun p hp => below_pure n _ (List.all_eq_true.mp h p hp)
  | dt l kvs => exact List.all_eq_true.mpr fun p hp => below_pure n _ (List.all_eq_true.mp h p hp)
  | ob l fs =>
    refine List.all_eq_true.mpr fun p hp => ?_
    have := List.all_eq_true.mp h p hp
    cases p with
    | none => rfl
    | some d => exact below_pure n d this
theorem below_all {S : Store} (n : Nat) (h : S.all Cell.pure = true) : S.all (Cell.below n) = true := List.all_eq_true.mpr fun c hc => Cell.below_of n (List.all_eq_true.mp h c hc)
/-- what a def hands back: its own cells are gone -/
def fin (n : Nat) (d : D) (S : Store) : Res D := if S.length = n then .ok d S else if belowD n d && (S.take n).all (Cell.below n) then .ok d (S.take n) else .no
theorem fin_ok {n : Nat} {d : D} {S : Store} (h : n < S.length) (hd : pureD d = true) (hp : (S.take n).all Cell.pure = true) : fin n d S = .ok d (S.take n) := by
  unfold fin
  rw [if_neg (by omega), below_pure n d hd, below_all n hp]
  rfl
def endM (n : Nat) (r : Res Fl) : Res D := match r with
  | .ok (.nx _) S => fin n .non S
  | .ok (.rt d) S => fin n d S
  | _ => .no
/-- a def's function of data: nN names, nP of them parameters -/
def fnM (nN nP : Nat) (n : MS) : List D → Store → Res D := fun ds S => if ds.length = nP then endM S.length (n (ds.map some ++ List.replicate (nN - nP) none) S) else .no
theorem repKV_below {Γ : Gm} {α β : List Addr} {G : Hp} {κ : Type} : ∀ (kvs : List (κ × D)) (ws : List (κ × V)), (kvs.all fun p => belowD α.length p.2) = true → RepKV Γ (α ++ β) G kvs ws → RepKV Γ α G kvs ws
  | [], ws, _, h => by simpa [RepKV] using h
  | (k, d) :: r, ws, p, h => by
    unfold RepKV at h ⊢
    obtain ⟨v, t, e, h1, h2⟩ := h
    rw [List.all_cons, Bool.and_eq_true] at p
    exact ⟨v, t, e, below_rep d v p.1 h1, repKV_below r t p.2 h2⟩
/-- a def's own cells are left behind -/
theorem Rl.cut {Γ : Gm} {α α' : List Addr} {G H G' H' : Hp} {S S' : Store} (e : Ext α G H α' G' H') (R : Rl Γ α' G' S' H') (R0 : Rl Γ α G S H) (hp : (S'.take S.length).all (Cell.below S.length) = true) : Rl Γ α G' (S'.take S.length) H' ∧ Ext α G H α G' H' := by
  obtain ⟨β, rfl⟩ := e.pre
  have hl : S.length ≤ S'.length := by rw [← R.len, ← R0.len]; simp
  refine ⟨⟨R.sub, by rw [R0.len, List.length_take]; omega, R0.nd, fun a m => R.tr a (List.mem_append_left _ m), fun k c a hc ha => ?_⟩, ⟨⟨[], by simp⟩, e.sub, e.fr, fun a m => .inl m, e.ng⟩⟩
  have hk : k < α.length := (List.getElem?_eq_some_iff.mp ha).1
  have hc' : S'[k]? = some c := by
    rw [List.getElem?_take_of_lt (by rw [← R0.len]; exact hk)] at hc
    exact hc
  obtain ⟨o, z, w⟩ := R.ok k c a hc' (by rw [List.getElem?_append_left hk]; exact ha)
  have pc : c.below α.length = true := by rw [R0.len]; exact List.all_eq_true.mp hp c (List.mem_of_getElem? hc)
  refine ⟨o, ?_, w⟩
  cases c with
  | lst ds =>
    obtain ⟨vs, h1, h2⟩ := z
    exact ⟨vs, h1, belowL_rep ds vs pc h2⟩
  | frz ds =>
    obtain ⟨vs, h1, h2⟩ := z
    exact ⟨vs, h1, belowL_rep ds vs pc h2⟩
  | dk l kvs =>
    obtain ⟨ws, h1, h2⟩ := z
    exact ⟨ws, repKV_below kvs ws pc h1, h2⟩
  | dt l kvs =>
    obtain ⟨ws, h1, h2⟩ := z
    exact ⟨ws, repKV_below kvs ws pc h1, h2⟩
  | ob l fs =>
    obtain ⟨dx, vs, h1, h2, h3⟩ := z
    refine ⟨dx, vs, h1, h2, fun i d hd => ?_⟩
    obtain ⟨v, e1, r1⟩ := h3 i d hd
    exact ⟨v, e1, below_rep d v (List.all_eq_true.mp pc _ (List.mem_of_getElem? hd)) r1⟩
theorem fin_post {Γ : Gm} {E : XK} {α : List Addr} {G H : Hp} {S : Store} {d : D} {S' : Store} {Q : VK} (R0 : Rl Γ α G S H) (hp : Post Γ (Rep Γ) α G H (fin S.length d S') Q E) : ∀ α' G' H' v, Ext α G H α' G' H' → Rl Γ α' G' S' H' → Rep Γ α' G' d v → Q v H' := by
  intro α' G' H' v e R r
  unfold fin at hp
  split at hp
  · exact hp α' G' H' v e R r
  · split at hp
    · rename_i hc
      rw [Bool.and_eq_true] at hc
      obtain ⟨R1, e1⟩ := Rl.cut e R R0 hc.2
      obtain ⟨β, rfl⟩ := e.pre
      exact hp α G' H' v e1 R1 (below_rep d v (by rw [R0.len]; exact hc.1) r)
    · exact hp.elim
section
variable {P : Program} {w : World} {K : PySem.W.Frag} {mg : Str → Option Value} {base : Heap}
theorem envR_start {Γ : Gm} {α : List Addr} {G : Hp} {ds : List D} {vs : List V} {N : List Str} (r : RepL Γ α G ds vs) : EnvR Γ α G (ds.map some ++ List.replicate (N.length - vs.length) none) (L2.start N vs) := by
  have hl := r.length
  unfold L2.start
  refine ⟨by simp [hl], fun i d hd => ?_⟩
  by_cases hi : i < ds.length
  · rw [List.getElem?_append_left (by simpa using hi), List.getElem?_map] at hd
    cases q : ds[i]? with
    | none => simp [q] at hd
    | some e =>
      simp only [q, Option.map_some, Option.some.injEq] at hd
      subst hd
      obtain ⟨v, hv, rv⟩ := r.get q
      exact ⟨v, by rw [List.getElem?_append_left (by simpa [← hl] using hi), List.getElem?_map, hv]; rfl, rv⟩
  · rw [List.getElem?_append_right (by simpa using hi), List.getElem?_replicate] at hd
    split at hd <;> cases hd
open PySem.Spec PyProof.Rows in
/-- THE RULE: a def that lets no exception out -/
theorem fn_ok {x qual : Str} {st : Stmt} {f : Addr} {fd : FuncData} {N ps : List Str} {k : Nat} {cl : Nat → Addr} (nN nP : Nat) {n : MS} (F : Fun K x qual st f fd) (S : FnScope N ps (defScope st))
    (hbody : ∀ (cdv : Value) (A : Around) (outer : List PySem.Env) (s : Shared) (H : Hp) (E : XK), Room k (A.deeper (envOfC qual (defScope st) s.heap.objs.size f cdv)) → QSs (cxOf CX0 P w K mg base N qual (defScope st) f cdv A outer s H E).nox cl E0 (defBody st) n)
    (hN : N.length = nN := by rfl) (hP : ps.length = nP := by rfl) : FnOk P w K mg base CX0 (k + 1) f fd ps (spM ⟨K, cl⟩ (fnM nN nP n)) := by
  refine F.ok S (fun vs H Q E h => ?_) (fun cdv A outer s H vs Q E hr h => ?_)
  · obtain ⟨ds, α, G, S, r, hR, hp⟩ := h
    unfold fnM at hp
    split at hp
    · rename_i e
      rw [← r.length, e, hP]
    · exact hp.elim
  · obtain ⟨ds, α, G, S', r, hR, hp⟩ := h
    obtain ⟨t, h1, h2⟩ := (hbody cdv A outer s H E hr).ex
    refine ⟨t, h1, ?_⟩
    unfold fnM at hp
    split at hp
    · rename_i e
      rw [← hN, ← hP, show ps.length = vs.length by rw [hP, ← e, r.length]] at hp
      refine h2 _ S' _ α G H _ (envR_start r) hR ?_
      revert hp
      cases n (ds.map some ++ List.replicate (N.length - vs.length) none) S' with
      | no => exact id
      | ex e S2 => exact fun hp => hp.elim
      | ok fl S2 =>
        cases fl with
        | nx ρ => exact fun hp α' G' H' σ' e R _ => fin_post hR hp α' G' H' .non e R (by simp [Rep])
        | rt d => exact fun hp α' G' H' v e R r => fin_post hR hp α' G' H' v e R r
        | bk ρ => exact fun hp => hp.elim
        | ct ρ => exact fun hp => hp.elim
    · exact hp.elim
/-- a def that may hand a new cell to its caller -/
def endC (r : Res Fl) : Res D := match r with
  | .ok (.nx _) S => .ok .non S
  | .ok (.rt d) S => .ok d S
  | _ => .no
def fnC (nN nP : Nat) (n : MS) : List D → Store → Res D := fun ds S => if ds.length = nP then endC (n (ds.map some ++ List.replicate (nN - nP) none) S) else .no
open PySem.Spec PyProof.Rows in
theorem fn_okC {x qual : Str} {st : Stmt} {f : Addr} {fd : FuncData} {N ps : List Str} {k : Nat} {cl : Nat → Addr} (nN nP : Nat) {n : MS} (F : Fun K x qual st f fd) (S : FnScope N ps (defScope st))
    (hbody : ∀ (cdv : Value) (A : Around) (outer : List PySem.Env) (s : Shared) (H : Hp) (E : XK), Room k (A.deeper (envOfC qual (defScope st) s.heap.objs.size f cdv)) → QSs (cxOf CX0 P w K mg base N qual (defScope st) f cdv A outer s H E).nox cl E0 (defBody st) n)
    (hN : N.length = nN := by rfl) (hP : ps.length = nP := by rfl) : FnOk P w K mg base CX0 (k + 1) f fd ps (spM ⟨K, cl⟩ (fnC nN nP n)) := by
  refine F.ok S (fun vs H Q E h => ?_) (fun cdv A outer s H vs Q E hr h => ?_)
  · obtain ⟨ds, α, G, S, r, hR, hp⟩ := h
    unfold fnC at hp
    split at hp
    · rename_i e
      rw [← r.length, e, hP]
    · exact hp.elim
  · obtain ⟨ds, α, G, S', r, hR, hp⟩ := h
    obtain ⟨t, h1, h2⟩ := (hbody cdv A outer s H E hr).ex
    refine ⟨t, h1, ?_⟩
    unfold fnC at hp
    split at hp
    · rename_i e
      rw [← hN, ← hP, show ps.length = vs.length by rw [hP, ← e, r.length]] at hp
      refine h2 _ S' _ α G H _ (envR_start r) hR ?_
      revert hp
      cases n (ds.map some ++ List.replicate (N.length - vs.length) none) S' with
      | no => exact id
      | ex e S2 => exact fun hp => hp.elim
      | ok fl S2 =>
        cases fl with
        | nx ρ => exact fun hp α' G' H' σ' e R _ => hp α' G' H' .non e R (by simp [Rep])
        | rt d => exact fun hp α' G' H' v e R r => hp α' G' H' v e R r
        | bk ρ => exact fun hp => hp.elim
        | ct ρ => exact fun hp => hp.elim
    · exact hp.elim
/-- a def without a promise: no fuel is left -/
theorem fn_none {CX : CXT} {f : Addr} {fd : FuncData} {ps : List Str} {k : Nat} {cl : Nat → Addr} : FnOk P w K mg base CX k f fd ps (spM ⟨K, cl⟩ fun _ _ => .no) :=
  ⟨fun vs H Q E ⟨_, _, _, _, _, _, h⟩ => h.elim, fun A outer s H args us vs Q E _ _ _ _ ⟨_, _, _, _, _, _, h⟩ => h.elim⟩
/-- the promise of the law itself -/
def spLaw (K : PySem.W.Frag) : Sp := fun vs H Q _ => ∃ (a : Addr) (ns : List Int), vs = [.ref a] ∧ SqL K H a (ns.map V.int) ∧ ns.length ≤ 63 ∧ ∀ H', Q (.bl true) H'
def scriptD (ns : List Int) : D := .fro (ns.map D.int)
theorem repL_ints {Γ : Gm} {α : List Addr} {G : Hp} : ∀ ns : List Int, RepL Γ α G (ns.map D.int) (ns.map V.int)
  | [] => by simp [RepL]
  | n :: ns => by
    show RepL Γ α G (.int n :: ns.map D.int) (.int n :: ns.map V.int)
    unfold RepL
    exact ⟨.int n, _, rfl, by simp [Rep], repL_ints ns⟩
theorem law_ok {CX : CXT} {k : Nat} {f : Addr} {fd : FuncData} {ps : List Str} {cl : Nat → Addr} {g : List D → Store → Res D} (F : FnOk P w K mg base CX k f fd ps (spM ⟨K, cl⟩ g)) (h : ∀ ns : List Int, ns.length ≤ 63 → ∃ S, g [scriptD ns] [] = .ok (.bl true) S) : FnOk P w K mg base CX k f fd ps (spLaw K) :=
  F.imp fun vs H Q E ⟨a, ns, e, hs, hl, q⟩ => by
    subst e
    obtain ⟨S, hg⟩ := h ns hl
    refine ⟨[scriptD ns], [], H, [], ?_, ⟨Sub.refl H, rfl, List.nodup_nil, fun a m => (by simp at m), fun k c a h => (by simp at h)⟩, ?_⟩
    · unfold RepL
      exact ⟨.ref a, [], rfl, by unfold scriptD Rep; exact ⟨a, _, rfl, hs, repL_ints ns⟩, by simp [RepL]⟩
    · rw [hg]
      intro α' G' H' v e R r
      simp only [Rep] at r
      subst r
      exact q H'
end
end Q
namespace Q
open PySem L2
section
variable {X : Cx} {cl : Nat → Addr} {E : XK} {a b c e : Expr} {ma mb mc m : ME} {mt mu : MT} {pos : Pos}
def mChain (f f' : D → D → Store → Res D) (ma mb mc : ME) : ME := fun ρ S => (ma ρ S).bind fun x S1 => (mb ρ S1).bind fun y S2 => (f x y S2).bind fun z S3 => match z with
  | .bl true => (mc ρ S3).bind fun w S4 => f' y w S4
  | .bl false => .ok (.bl false) S3
  | _ => .no
theorem snd_chain {Γ : Gm} {r r' : R2} {f f' : D → D → Store → Res D} {ta tb tc : TE} (hr : SndR Γ E r f) (hr' : SndR Γ E r' f') (ha : SndE Γ E ta ma) (hb : SndE Γ E tb mb) (hc : SndE Γ E tc mc) : SndE Γ E (tChain r r' ta tb tc) (mChain f f' ma mb mc) := fun ρ S σ α G H Q hρ hR h =>
  ha ρ S σ α G H _ hρ hR (post_bind h fun x S1 α1 G1 H1 v _ e1 R1 r1 h1 =>
    hb ρ S1 σ α1 G1 H1 _ (hρ.mono e1) R1 (post_bind h1 fun y S2 α2 G2 H2 w _ e2 R2 r2 h2 =>
      hr x y S2 α2 G2 H2 v w _ R2 (Rep.mono e2.pre e2.sub _ _ r1) r2 (post_bind h2 fun z S3 α3 G3 H3 u _ e3 R3 r3 h3 => by
        cases z <;> try exact h3.elim
        rename_i k _
        simp only [Rep] at r3
        refine ⟨k, r3, ?_⟩
        cases k with
        | false => exact iteF (post_ok h3 R3 (by simp [Rep]))
        | true => exact iteT (hc ρ S3 σ α3 G3 H3 _ (((hρ.mono e1).mono e2).mono e3) R3 (post_bind h3 fun q S4 α4 G4 H4 u4 _ e4 R4 r4 h4 =>
            hr' y q S4 α4 G4 H4 w u4 Q R4 (Rep.mono e4.pre e4.sub _ _ (Rep.mono e3.pre e3.sub _ _ r2)) r4 h4)))))
theorem q_chain {op op' : CmpOp} {f f' : D → D → Store → Res D} (ho : QR X cl E (compareOp op) f) (ho' : QR X cl E (compareOp op') f') (ha : QE X cl E a ma) (hb : QE X cl E b mb) (hc : QE X cl E c mc) (hm : lastMarks [op, op'] [b, c] = false := by with_unfolding_all rfl) :
    QE X cl E (.Compare a [op, op'] [b, c] pos) (mChain f f' ma mb mc) := by
  obtain ⟨r, h1, h2⟩ := ho.ex
  obtain ⟨r', h1', h2'⟩ := ho'.ex
  obtain ⟨ta, a1, a2⟩ := ha.ex
  obtain ⟨tb, b1, b2⟩ := hb.ex
  obtain ⟨tc, c1, c2⟩ := hc.ex
  exact ⟨_, pe_chain h1 h1' a1 b1 c1 hm, snd_chain h2 h2' a2 b2 c2⟩
theorem q_tchain {op op' : CmpOp} {f f' : D → D → Store → Res D} (ho : QR X cl E (compareOp op) f) (ho' : QR X cl E (compareOp op') f') (ha : QE X cl E a ma) (hb : QE X cl E b mb) (hc : QE X cl E c mc) (hm : lastMarks [op, op'] [b, c] = false := by with_unfolding_all rfl) :
    QT X cl E (.Compare a [op, op'] [b, c] pos) (mTB (mChain f f' ma mb mc)) := by
  obtain ⟨r, h1, h2⟩ := ho.ex
  obtain ⟨r', h1', h2'⟩ := ho'.ex
  obtain ⟨ta, a1, a2⟩ := ha.ex
  obtain ⟨tb, b1, b2⟩ := hb.ex
  obtain ⟨tc, c1, c2⟩ := hc.ex
  exact ⟨_, pt_chain h1 h1' a1 b1 c1 hm, snd_tb (snd_chain h2 h2' a2 b2 c2)⟩
/-- the i-th ones, in this order -/
def place {β : Type} (idx : List Nat) (xs : List β) : List β := idx.filterMap fun i => xs[i]?
theorem place_cons {β : Type} (i : Nat) (idx : List Nat) (xs : List β) : place (i :: idx) xs = match xs[i]? with
    | some x => x :: place idx xs
    | none => place idx xs := by
  unfold place
  rw [List.filterMap_cons]
  cases xs[i]? <;> rfl
theorem place_rep {Γ : Gm} {α : List Addr} {G : Hp} {ds : List D} {vs : List V} (r : RepL Γ α G ds vs) : ∀ idx : List Nat, RepL Γ α G (place idx ds) (place idx vs)
  | [] => by simp [place, RepL]
  | i :: idx => by
    rw [place_cons, place_cons]
    cases q : ds[i]? with
    | none =>
      have : vs[i]? = none := by
        rw [List.getElem?_eq_none_iff] at q ⊢
        rw [← r.length]; exact q
      rw [this]
      exact place_rep r idx
    | some d =>
      obtain ⟨v, hv, rv⟩ := r.get q
      rw [hv]
      simp only
      unfold RepL
      exact ⟨v, _, rfl, rv, place_rep r idx⟩
theorem place_vals {vs : List V} {us : List Value} (r : Vals vs us) : ∀ idx : List Nat, Vals (place idx vs) (place idx us)
  | [] => .nil
  | i :: idx => by
    rw [place_cons, place_cons]
    cases q : vs[i]? with
    | none =>
      rw [r.none_of q]
      exact place_vals r idx
    | some d =>
      obtain ⟨v, hv, rv⟩ := r.get q
      rw [hv]
      exact .cons rv (place_vals r idx)
theorem kbn {K : PySem.W.Frag} {x qual : Str} {st : Stmt} {f : Addr} {fd : FuncData} {ps ks : List Str} (F : Fun K x qual st f fd) (n : Nat) (idx : List Nat)
    (h : ∀ (kV doc pm : Value) (an : Option Addr) (cdv ct : Value) (us ws : List Value), us.length = n → ws.length = ks.length → bindArgs (PySem.W.fnOf x qual (defArgs st) (defBody st) (defScope st) .none kV doc pm an cdv ct) ⟨us, ks.zip ws⟩ = pure (ps.zip (place idx (us ++ ws)))) :
    KBn K fd ps n ks (fun us ws => place idx (us ++ ws)) (fun us ws => place idx (us ++ ws)) := by
  obtain ⟨oc, od, kV, doc, pm, an, cdv, ct, osl, rfl, lk, hcd⟩ := F.ex
  exact ⟨fun s us ws _ h1 h2 => .of_eq (h kV doc pm an cdv ct us ws h1 h2), fun r1 r2 => place_vals (r1.append r2) idx⟩
structure QK (X : Cx) (cl : Nat → Addr) (E : XK) (kws : List Keyword) (m : MA) : Prop where
  ex : ∃ t, PK X kws t ∧ SndA ⟨X.K, cl⟩ E t m
theorem qk_nil : QK X cl E [] mNil := ⟨_, pk_nil, snd_nil⟩
theorem qk_cons {kws : List Keyword} {n : MA} {nm : Option Str} {kpos : Pos} (h : QE X cl E e m) (k : QK X cl E kws n) : QK X cl E (⟨nm, e, kpos⟩ :: kws) (mCons m n) := by
  obtain ⟨t, h1, h2⟩ := h.ex
  obtain ⟨u, k1, k2⟩ := k.ex
  exact ⟨_, pk_cons h1 k1, snd_cons h2 k2⟩
def mCallK (g : List D → Store → Res D) (i j : Nat) (idx : List Nat) (n nk : MA) : ME := fun ρ S => (n ρ S).bind fun ds S1 => (nk ρ S1).bind fun zs S2 => if ds.length = i ∧ zs.length = j then g (place idx (ds ++ zs)) S2 else .no
theorem snd_callK {Γ : Gm} {sp : Sp} {E' : XK} {g : List D → Store → Res D} {i j : Nat} {idx : List Nat} {n nk : MA} {t tk : TA} (hf : SndC Γ E (fun vs H Q => sp vs H Q E') g) (h : SndA Γ E t n) (k : SndA Γ E tk nk) :
    SndE Γ E (tCallN i j sp (fun us ws => place idx (us ++ ws)) E' t tk) (mCallK g i j idx n nk) := fun ρ S σ α G H Q hρ hR hp =>
  h ρ S σ α G H _ hρ hR (post_bind hp fun ds S1 α1 G1 H1 vs _ e1 R1 r1 hp1 => k ρ S1 σ α1 G1 H1 _ (hρ.mono e1) R1 (post_bind hp1 fun zs S2 α2 G2 H2 ws _ e2 R2 r2 hp2 => by
    split at hp2
    · rename_i hl
      have r1' := RepL.mono e2.pre e2.sub _ _ r1
      exact ⟨by rw [← r1'.length]; exact hl.1, by rw [← r2.length]; exact hl.2, hf _ S2 α2 G2 H2 _ Q R2 (place_rep (r1'.append r2) idx) hp2⟩
    · exact hp2.elim))
/-- f(e, .., k = v, ..) -/
theorem q_callK {g f : List D → Store → Res D} {k i j : Nat} {idx : List Nat} {fa : Addr} {fd : FuncData} {ps ks : List Str} {x : Str} {p : Pos} {es : List Expr} {kws : List Keyword} {n nk : MA} (F : FnOk X.prog X.w X.K X.mg X.base CX0 k fa fd ps (spM ⟨X.K, cl⟩ f)) (hr : Room k X.A)
    (hg : Gl X x) (hm : X.mg x = some (.ref fa)) (hk : PySem.W.keepIn X.K (.ref fa) = true) (hb : KBn X.K fd ps i ks (fun us ws => place idx (us ++ ws)) (fun us ws => place idx (us ++ ws))) (ha : QA X cl E (e :: es) n) (hkw : QK X cl E kws nk) (hf : SndC ⟨X.K, cl⟩ E (fun vs H Q => spM ⟨X.K, cl⟩ f vs H Q E0) g)
    (hall : (backToKw pos (keywordEach kws X.env)).all (·.1.isSome) = true := by rfl) (hks : (backToKw pos (keywordEach kws X.env)).filterMap (·.1) = ks := by rfl)
    (hdb : (x == ("__debug__" : Str)) = false := by decide) (he : starEach (e :: es) X.env = (false, eval e X.env) :: starEach es X.env := by rfl)
    (hpl : ((backTo pos (starEach (e :: es) X.env)).any (·.1) || (backToKw pos (keywordEach kws X.env)).any (·.1.isNone)) = false := by rfl) (hj : ks.length = j := by rfl) :
    QE X cl E (.Call (.Name x p) (e :: es) kws pos) (mCallK g i j idx n nk) := by
  subst hj
  obtain ⟨t, h1, h2⟩ := ha.ex
  obtain ⟨u, k1, k2⟩ := hkw.ex
  exact ⟨_, pe_callN F hr hg hm hk hb pass0 h1 k1 hall hks hdb he hpl, snd_callK hf h2 k2⟩
theorem pe_callN0 {CX : CXT} {k : Nat} {f : Addr} {fd : FuncData} {ps ks : List Str} {sp : Sp} {x : Str} {p : Pos} {kws : List Keyword} {tk : TA} {g : List Value → List Value → List Value} {gV : List V → List V → List V} {E : XK} (F : FnOk X.prog X.w X.K X.mg X.base CX k f fd ps sp) (hr : Room k X.A) (hg : Gl X x) (hm : X.mg x = some (.ref f)) (hk : PySem.W.keepIn X.K (.ref f) = true) (hb : KBn X.K fd ps 0 ks g gV) (hx : Passes CX X E)
    (hkw : PK X kws tk) (hall : (backToKw pos (keywordEach kws X.env)).all (·.1.isSome) = true) (hks : (backToKw pos (keywordEach kws X.env)).filterMap (·.1) = ks)
    (hdb : (x == ("__debug__" : Str)) = false)
    (hpl : ((backTo pos (starEach [] X.env)).any (·.1) || (backToKw pos (keywordEach kws X.env)).any (·.1.isNone)) = false) :
    PE X (.Call (.Name x p) [] kws pos) (tCallN 0 ks.length sp gV E tNil tk) := by
  refine ⟨fun pins s σ H Q I h => ?_⟩
  refine wpAny_Call_Name_kw (ld_glob I hg hm ?_ hdb)
  refine PySem.W.callWith_KW0 (h₀ := X.base) I.ok.mod.kin hk hall ?_ hpl
  refine thn (hkw.run pos pins s σ H _ I h) fun ws s2 ⟨zs, H2, I2, rz, l1, l2, q2⟩ => ⟨I2.kIn, ?_⟩
  rw [hks]
  exact run_fnN F hr hb hx I2 .nil rz l1 l2 q2
/-- f(k = v, ..) -/
theorem q_callK0 {g f : List D → Store → Res D} {k j : Nat} {idx : List Nat} {fa : Addr} {fd : FuncData} {ps ks : List Str} {x : Str} {p : Pos} {kws : List Keyword} {nk : MA} (F : FnOk X.prog X.w X.K X.mg X.base CX0 k fa fd ps (spM ⟨X.K, cl⟩ f)) (hr : Room k X.A)
    (hg : Gl X x) (hm : X.mg x = some (.ref fa)) (hk : PySem.W.keepIn X.K (.ref fa) = true) (hb : KBn X.K fd ps 0 ks (fun us ws => place idx (us ++ ws)) (fun us ws => place idx (us ++ ws))) (hkw : QK X cl E kws nk) (hf : SndC ⟨X.K, cl⟩ E (fun vs H Q => spM ⟨X.K, cl⟩ f vs H Q E0) g)
    (hall : (backToKw pos (keywordEach kws X.env)).all (·.1.isSome) = true := by rfl) (hks : (backToKw pos (keywordEach kws X.env)).filterMap (·.1) = ks := by rfl)
    (hdb : (x == ("__debug__" : Str)) = false := by decide)
    (hpl : ((backTo pos (starEach [] X.env)).any (·.1) || (backToKw pos (keywordEach kws X.env)).any (·.1.isNone)) = false := by rfl) (hj : ks.length = j := by rfl) :
    QE X cl E (.Call (.Name x p) [] kws pos) (mCallK g 0 j idx mNil nk) := by
  subst hj
  obtain ⟨u, k1, k2⟩ := hkw.ex
  exact ⟨_, pe_callN0 F hr hg hm hk hb pass0 k1 hall hks hdb hpl, snd_callK hf snd_nil k2⟩
def zipD (xs ys : List D) : List D := List.zipWith (fun x y => .tup [x, y]) xs ys
def zipItems (ds : List D) (S : Store) : Res (List D) := match ds with
  | [.tup xs, .tup ys] => .ok (zipD xs ys) S
  | [.lst xs, .lst ys] => .ok (zipD xs ys) S
  | _ => .no
def mZip (n : MA) : MA := fun ρ S => (n ρ S).bind zipItems
theorem zipD_get {xs ys : List D} {i : Nat} {d : D} (h : (zipD xs ys)[i]? = some d) : ∃ x y, xs[i]? = some x ∧ ys[i]? = some y ∧ d = .tup [x, y] := by
  unfold zipD at h
  rw [List.getElem?_zipWith] at h
  cases q1 : xs[i]? with
  | none => simp [q1] at h
  | some x =>
    cases q2 : ys[i]? with
    | none => simp [q1, q2] at h
    | some y =>
      simp only [q1, q2, Option.some.injEq] at h
      exact ⟨x, y, rfl, rfl, h.symm⟩
theorem zipD_len {xs ys : List D} {i : Nat} (h : (zipD xs ys).length ≤ i) : xs.length ≤ i ∨ ys.length ≤ i := by
  unfold zipD at h
  rw [List.length_zipWith] at h
  omega
theorem steps_zip {Γ : Gm} {α : List Addr} {G : Hp} {xs ys : List D} {a b : Addr} {vs ws : List V} (h : SqL Γ.K G a vs) (r : RepL Γ α G xs vs) (h' : SqL Γ.K G b ws) (r' : RepL Γ α G ys ws) : Steps Γ α G (zipD xs ys) (Itz Γ.K a b) := fun i α2 G2 H2 S2 hp hs R2 => by
  have q : SqL Γ.K H2 a vs := (hs.trans R2.sub).sqL h
  have q' : SqL Γ.K H2 b ws := (hs.trans R2.sub).sqL h'
  have r2 : RepL Γ α2 G2 xs vs := RepL.mono hp hs _ _ r
  have r2' : RepL Γ α2 G2 ys ws := RepL.mono hp hs _ _ r'
  refine ⟨fun hl => ⟨vs, ws, q, q', by rw [← r2.length, ← r2'.length]; exact zipD_len hl⟩, fun d hd => ?_⟩
  obtain ⟨x, y, hx, hy, rfl⟩ := zipD_get hd
  obtain ⟨v, hv, rv⟩ := r2.get hx
  obtain ⟨w, hw, rw'⟩ := r2'.get hy
  refine ⟨⟨vs, ws, v, w, q, q', hv, hw⟩, fun z H3 hz => ?_⟩
  obtain ⟨T, x', y', rfl, hT, rfl, f1, f2⟩ := hz
  have e1 := f1 vs q
  have e2 := f2 ws q'
  rw [hv] at e1
  rw [hw] at e2
  cases e1
  cases e2
  obtain ⟨R3, e3⟩ := R2.new hT (.tup [v, w])
  exact ⟨_, R3, e3, rep_tup upd_same (RepL.mono e3.pre e3.sub _ _ (by unfold RepL; exact ⟨v, [w], rfl, rv, by unfold RepL; exact ⟨w, [], rfl, rw', by simp [RepL]⟩⟩))⟩
theorem steps_zipT {Γ : Gm} {α : List Addr} {G : Hp} {xs ys : List D} {a b : Addr} {vs ws : List V} (h : SqT Γ.K G a vs) (r : RepL Γ α G xs vs) (h' : SqT Γ.K G b ws) (r' : RepL Γ α G ys ws) : Steps Γ α G (zipD xs ys) (RZ.ItzT Γ.K a b) := fun i α2 G2 H2 S2 hp hs R2 => by
  have q : SqT Γ.K H2 a vs := (hs.trans R2.sub).sqT h
  have q' : SqT Γ.K H2 b ws := (hs.trans R2.sub).sqT h'
  have r2 : RepL Γ α2 G2 xs vs := RepL.mono hp hs _ _ r
  have r2' : RepL Γ α2 G2 ys ws := RepL.mono hp hs _ _ r'
  refine ⟨fun hl => ⟨vs, ws, q, q', by rw [← r2.length, ← r2'.length]; exact zipD_len hl⟩, fun d hd => ?_⟩
  obtain ⟨x, y, hx, hy, rfl⟩ := zipD_get hd
  obtain ⟨v, hv, rv⟩ := r2.get hx
  obtain ⟨w, hw, rw'⟩ := r2'.get hy
  refine ⟨⟨vs, ws, v, w, q, q', hv, hw⟩, fun z H3 hz => ?_⟩
  obtain ⟨T, x', y', rfl, hT, rfl, f1, f2⟩ := hz
  have e1 := f1 vs q
  have e2 := f2 ws q'
  rw [hv] at e1
  rw [hw] at e2
  cases e1
  cases e2
  obtain ⟨R3, e3⟩ := R2.new hT (.tup [v, w])
  exact ⟨_, R3, e3, rep_tup upd_same (RepL.mono e3.pre e3.sub _ _ (by unfold RepL; exact ⟨v, [w], rfl, rv, by unfold RepL; exact ⟨w, [], rfl, rw', by simp [RepL]⟩⟩))⟩
theorem qi_zip {elts : List Expr} {kk : Nat} {tpos p : Pos} {n : MA} (h : QA X cl E [a, b] n) (hg : Gl X "zip") (hm : X.mg "zip" = none)
    (hs : starEach [a, b] X.env = (false, eval a X.env) :: starEach [b] X.env := by rfl) (hpl : (backTo pos (starEach [b] X.env)).any (·.1) = false := by rfl) : QI X cl E (.Tuple elts kk tpos) (.Call (.Name "zip" p) [a, b] [] pos) (mZip n) := by
  obtain ⟨t, h1, h2⟩ := h.ex
  refine ⟨_, RZ.pi_zipA hg hm h1 hs hpl, fun ρ S σ α G H R hρ hR hp => h2 ρ S σ α G H _ hρ hR (posti_bind hp fun ds S1 α1 G1 H1 vs q1 e1 R1 r1 hp1 => ?_)⟩
  clear q1
  unfold zipItems at hp1
  split at hp1
  · rename_i xs ys
    obtain ⟨v, w, rfl, rv, rw'⟩ := repL2 r1
    unfold Rep at rv rw'
    obtain ⟨p1, vs, rfl, z1, k1⟩ := rv
    obtain ⟨p2, ws, rfl, z2, k2⟩ := rw'
    exact ⟨p1, p2, vs, ws, rfl, .inr ⟨.inl (.inl (R1.sub _ _ z1)), .inl (.inl (R1.sub _ _ z2)), hp1 α1 G1 H1 _ (Ext.refl _ _ _) R1 (steps_zipT (Γ := ⟨X.K, cl⟩) (.inl (.inl z1)) k1 (.inl (.inl z2)) k2)⟩⟩
  · rename_i xs ys
    obtain ⟨v, w, rfl, rv, rw'⟩ := repL2 r1
    unfold Rep at rv rw'
    obtain ⟨p1, vs, rfl, z1, k1⟩ := rv
    obtain ⟨p2, ws, rfl, z2, k2⟩ := rw'
    exact ⟨p1, p2, vs, ws, rfl, .inl ⟨R1.sub.sqL (.inl (.inl z1)), R1.sub.sqL (.inl (.inl z2)), hp1 α1 G1 H1 _ (Ext.refl _ _ _) R1 (steps_zip (Γ := ⟨X.K, cl⟩) (.inl (.inl z1)) k1 (.inl (.inl z2)) k2)⟩⟩
  · exact hp1.elim
/-- (0, x), (1, y), .. -/
def enumD (k : Nat) : List D → List D
  | [] => []
  | d :: ds => .tup [.int (k : Nat), d] :: enumD (k + 1) ds
theorem enumD_len : ∀ (k : Nat) (ds : List D), (enumD k ds).length = ds.length
  | _, [] => rfl
  | k, d :: ds => by simp [enumD, enumD_len (k + 1) ds]
theorem enumD_get : ∀ {k : Nat} {ds : List D} {i : Nat} {d : D}, (enumD k ds)[i]? = some d → ∃ x, ds[i]? = some x ∧ d = .tup [.int ((k + i : Nat) : Int), x]
  | _, [], _, _, h => by simp [enumD] at h
  | k, x :: ds, 0, d, h => by simp [enumD] at h; exact ⟨x, rfl, h.symm⟩
  | k, x :: ds, i + 1, d, h => by
    simp only [enumD, List.getElem?_cons_succ] at h
    obtain ⟨y, h1, h2⟩ := enumD_get h
    exact ⟨y, by simpa using h1, by rw [h2]; congr 3; omega⟩
def mEnum (m : ME) : MA := fun ρ S => (m ρ S).bind fun d S1 => match d with
  | .lst xs => .ok (enumD 0 xs) S1
  | .fro xs => .ok (enumD 0 xs) S1
  | _ => .no
theorem steps_enum {Γ : Gm} {α : List Addr} {G : Hp} {ds : List D} {a : Addr} {vs : List V} (h : SqL Γ.K G a vs) (r : RepL Γ α G ds vs) : Steps Γ α G (enumD 0 ds) (Ite Γ.K a) := fun i α2 G2 H2 S2 hp hs R2 => by
  have q : SqL Γ.K H2 a vs := (hs.trans R2.sub).sqL h
  have r2 : RepL Γ α2 G2 ds vs := RepL.mono hp hs _ _ r
  refine ⟨fun hl => ⟨vs, q, by rw [← r2.length, ← enumD_len 0]; exact hl⟩, fun d hd => ?_⟩
  obtain ⟨x, hx, rfl⟩ := enumD_get hd
  obtain ⟨v, hv, rv⟩ := r2.get hx
  refine ⟨⟨vs, v, q, hv⟩, fun z H3 hz => ?_⟩
  obtain ⟨T, x', rfl, hT, rfl, f1⟩ := hz
  have e1 := f1 vs q
  rw [hv] at e1
  cases e1
  obtain ⟨R3, e3⟩ := R2.new hT (.tup [.int (i : Nat), v])
  exact ⟨_, R3, e3, rep_tup upd_same (RepL.mono e3.pre e3.sub _ _ (by unfold RepL; exact ⟨.int (i : Nat), [v], rfl, by simp [Rep], by unfold RepL; exact ⟨v, [], rfl, rv, by simp [RepL]⟩⟩))⟩
theorem qi_enum {elts : List Expr} {kk : Nat} {tpos p : Pos} (h : QE X cl E a m) (hg : Gl X "enumerate") (hm : X.mg "enumerate" = none) (hs : starEach [a] X.env = [(false, eval a X.env)] := by rfl) : QI X cl E (.Tuple elts kk tpos) (.Call (.Name "enumerate" p) [a] [] pos) (mEnum m) := by
  obtain ⟨t, h1, h2⟩ := h.ex
  refine ⟨_, pi_enum hg hm (pa_cons h1 pa_nil (by rw [hs]; rfl)) hs, fun ρ S σ α G H R hρ hR hp => h2 ρ S σ α G H _ hρ hR (posti_bind hp fun d S1 α1 G1 H1 v q1 e1 R1 r1 hp1 => ?_)⟩
  clear q1
  cases d <;> try exact hp1.elim
  · rename_i xs
    unfold Rep at r1
    obtain ⟨p1, vs, rfl, z1, k1⟩ := r1
    exact ⟨p1, vs, rfl, R1.sub.sqL (.inl (.inl z1)), hp1 α1 G1 H1 _ (Ext.refl _ _ _) R1 (steps_enum (Γ := ⟨X.K, cl⟩) (.inl (.inl z1)) k1)⟩
  · rename_i xs
    unfold Rep at r1
    obtain ⟨p1, vs, rfl, z1, k1⟩ := r1
    exact ⟨p1, vs, rfl, R1.sub.sqL z1, hp1 α1 G1 H1 _ (Ext.refl _ _ _) R1 (steps_enum (Γ := ⟨X.K, cl⟩) z1 k1)⟩
end
end Q
namespace Q
open PySem L2
section
variable {X : Cx} {cl : Nat → Addr} {E : XK} {e : Expr} {m : ME} {f : Str} {pos : Pos}
def fldD (c i : Nat) (d : D) (S : Store) : Res D := match d with
  | .obj c' fs => if c' = c then oRes fs[i]? S else .no
  | _ => .no
def mFld (c i : Nat) (m : ME) : ME := fun ρ S => (m ρ S).bind (fldD c i)
theorem obj_slt {G H : Hp} (s : Sub G H) {a C : Addr} {vs : List V} (h : ObAt G a C vs) : ∃ dx, SlX.Slt H a C dx (vs.map some) := by
  obtain ⟨dx, h1, h2⟩ := h
  exact ⟨dx, .inr ⟨s _ _ h1, s _ _ h2⟩⟩
/-- e.f, f the i-th slot of the class c -/
theorem q_fld (c i : Nat) {p : Addr} (h : QE X cl E e m) (hc : SlX.SCls X.K (cl c)) (hs : SlX.Slot1 X.K (cl c) f p i) (hb : attributeBase e f X.env (eval e X.env) = eval e X.env := by rfl) : QE X cl E (.Attribute e f pos) (mFld c i m) := by
  obtain ⟨t, h1, h2⟩ := h.ex
  refine ⟨_, SlX.pe_sl h1 hb, fun ρ S σ α G H Q hρ hR hp => h2 ρ S σ α G H _ hρ hR (post_bind hp fun d S1 α1 G1 H1 v _ e1 R1 r1 hp1 => ?_)⟩
  cases d <;> try exact hp1.elim
  rename_i c' fs _
  unfold fldD at hp1
  simp only at hp1
  split at hp1
  · rename_i e
    subst e
    unfold Rep at r1
    obtain ⟨a, vs, rfl, ho, rl⟩ := r1
    obtain ⟨dx, hsl⟩ := obj_slt R1.sub ho
    cases q : fs[i]? with
    | none => rw [q] at hp1; exact hp1.elim
    | some d =>
      rw [q] at hp1
      obtain ⟨w, hw, rw'⟩ := RepL.get rl q
      exact ⟨a, _, dx, p, vs.map some, i, w, rfl, hsl, hc, hs, by rw [List.getElem?_map, hw]; rfl, post_ok hp1 R1 rw'⟩
  · exact hp1.elim
end
section
variable {X : Cx} {pos : Pos} {f : Str}
/-- o.f = value as a target -/
def gSl (K : PySem.W.Frag) (to : TE) (f : Str) : TG := fun y σ H Q => to σ H fun x H2 => ∃ a C dx p vs i, x = .ref a ∧ SlX.Slt H2 a C dx vs ∧ SlX.SCls K C ∧ SlX.Slot1 K C f p i ∧ Q σ (SlX.slH H2 a C dx (SlX.putS i y vs))
theorem pg_sl {o : Expr} {to : TE} (ho : PE X o to)
    (ha : ∀ v, assign (.Attribute o f pos) X.env v = (do
      let ov ← holding [v] (eval o X.env)
      standAt pos.atName
      holding [v, ov] (setAttr ov f v)
      release [v, ov] []) := by intro _; rfl) : PG X (.Attribute o f pos) (gSl X.K to f) := by
  refine ⟨fun pins s σ H v u Q I r h => ?_⟩
  rw [ha]
  refine wpAny_bind (wpAny_holding (thn (ho.run pins s σ H _ I h) fun ov s1 ⟨x, H1, I1, r1, a, C, dx, p, vs, i, ex, hsl, c, t, q1⟩ => ?_))
  subst ex
  obtain rfl : ov = Value.ref a := r1
  refine wpAny_bind (wpAny_standAt (wpAny_bind (wpAny_holding (SlX.setslot_ok I1 hsl c t r fun s3 I3 => ?_))))
  exact wpAny_release ⟨σ, _, I3, q1⟩
end
/-- a heap with two objects more, both data now -/
def put2 (G : Hp) (a dx C : Addr) (us : List V) : Hp := upd (upd G dx (.xd [])) a (SlX.SlO a C dx (us.map some))
/-- an instance has been made: it is data from now on -/
theorem new_obj {Γ : Gm} {α α' : List Addr} {G G' H H0 H' : Hp} {S S' : Store} {a dx : Addr} {c : Nat} {fs : List D} {us : List V} (R0 : Rl Γ α G S H0) (na : H0 a = none) (nd : H0 dx = none) (ne : dx ≠ a) (hH : H = upd (upd H0 dx (.own a)) a (.ins (Γ.cl c) dx []))
    (e : Ext α G H α' G' H') (R : Rl Γ α' G' S' H') (r : RepL Γ α' G' fs us) :
    Ext α G H0 α' (put2 G' a dx (Γ.cl c) us) (SlX.slH H' a (Γ.cl c) dx (us.map some)) ∧ Rl Γ α' (put2 G' a dx (Γ.cl c) us) S' (SlX.slH H' a (Γ.cl c) dx (us.map some)) ∧ Rep Γ α' (put2 G' a dx (Γ.cl c) us) (.obj c fs) (.ref a) := by
  have ha : H a = some (.ins (Γ.cl c) dx []) := by rw [hH, upd_same]
  have hd : H dx = some (.own a) := by rw [hH, upd_ne ne, upd_same]
  have up : ∀ b o, H0 b = some o → b ≠ a ∧ b ≠ dx ∧ H b = some o := fun b o h => by
    have h1 : b ≠ a := fun z => by rw [z, na] at h; cases h
    have h2 : b ≠ dx := fun z => by rw [z, nd] at h; cases h
    exact ⟨h1, h2, by rw [hH, upd_ne h1, upd_ne h2]; exact h⟩
  have ma : a ∉ α := fun m => R0.tr a m na
  have md : dx ∉ α := fun m => R0.tr dx m nd
  have ga : G' a = none := by
    cases q : G' a with
    | none => rfl
    | some o =>
      rcases e.ng a (by rw [q]; simp) with z | z | z | ⟨xs, z⟩
      · exact absurd (R0.sub.none na) z
      · exact absurd z ma
      · rw [ha] at z; cases z
      · rw [ha] at z; cases z
  have gd : G' dx = none := by
    cases q : G' dx with
    | none => rfl
    | some o =>
      rcases e.ng dx (by rw [q]; simp) with z | z | z | ⟨xs, z⟩
      · exact absurd (R0.sub.none nd) z
      · exact absurd z md
      · rw [hd] at z; cases z
      · rw [hd] at z; cases z
  have ka : H' a = some (.ins (Γ.cl c) dx []) := e.fr a _ ha ma
  have kd : H' dx = some (.own a) := e.fr dx _ hd md
  have sG : Sub G' (put2 G' a dx (Γ.cl c) us) := fun b o h => by
    have h1 : b ≠ a := fun z => by rw [z, ga] at h; cases h
    have h2 : b ≠ dx := fun z => by rw [z, gd] at h; cases h
    unfold put2
    rw [upd_ne h1, upd_ne h2]
    exact h
  have pG : ∀ b, b ≠ a → b ≠ dx → put2 G' a dx (Γ.cl c) us b = G' b := fun b h1 h2 => by unfold put2; rw [upd_ne h1, upd_ne h2]
  refine ⟨⟨e.pre, e.sub.trans sG, fun b o h m => ?_, fun b m => ?_, fun b h => ?_⟩, ⟨fun b o h => ?_, R.len, R.nd, fun b m => ?_, fun k cc b hc hb => ?_⟩, ?_⟩
  · obtain ⟨h1, h2, h3⟩ := up b o h
    rw [SlX.slH_ne h1 h2]
    exact e.fr b o h3 m
  · rcases e.na b m with z | z
    · exact .inl z
    · right
      cases q : H0 b with
      | none => rfl
      | some o => rw [(up b o q).2.2] at z; cases z
  · by_cases h1 : b = a
    · exact .inr (.inr (.inl (by rw [h1]; exact na)))
    · by_cases h2 : b = dx
      · exact .inr (.inr (.inl (by rw [h2]; exact nd)))
      · rw [pG b h1 h2] at h
        rcases e.ng b h with z | z | z | ⟨xs, z⟩
        · exact .inl z
        · exact .inr (.inl z)
        · right; right; left
          cases q : H0 b with
          | none => rfl
          | some o => rw [(up b o q).2.2] at z; cases z
        · right; right
          cases q : H0 b with
          | none => exact .inl rfl
          | some o => rw [(up b o q).2.2] at z; cases z; exact .inr ⟨xs, rfl⟩
  · by_cases h1 : b = a
    · subst h1
      unfold put2 at h
      rw [upd_same] at h
      unfold SlX.slH
      rw [upd_same]
      exact h
    · by_cases h2 : b = dx
      · subst h2
        unfold put2 at h
        rw [upd_ne h1, upd_same] at h
        unfold SlX.slH
        rw [upd_ne h1, upd_same]
        exact h
      · rw [pG b h1 h2] at h
        rw [SlX.slH_ne h1 h2]
        exact R.sub b o h
  · by_cases h1 : b = a
    · subst h1
      unfold SlX.slH
      rw [upd_same]
      simp
    · by_cases h2 : b = dx
      · subst h2
        unfold SlX.slH
        rw [upd_ne h1, upd_same]
        simp
      · rw [SlX.slH_ne h1 h2]
        exact R.tr b m
  · have hbm : b ∈ α' := List.mem_of_getElem? hb
    have h1 : b ≠ a := fun w => by
      subst w
      rcases e.na _ hbm with z | z
      · exact ma z
      · rw [ha] at z; cases z
    have h2 : b ≠ dx := fun w => by
      subst w
      rcases e.na _ hbm with z | z
      · exact md z
      · rw [hd] at z; cases z
    exact (R.ok k cc b hc hb).mono ⟨[], by simp⟩ sG fun _ => ⟨SlX.slH_ne h1 h2, fun h => by rw [pG b h1 h2]; exact h⟩
  · unfold Rep
    exact ⟨a, us, rfl, ⟨dx, by unfold put2; rw [upd_same], by unfold put2; rw [upd_ne ne, upd_same]⟩, RepL.mono ⟨[], by simp⟩ sG _ _ r⟩
/-- the promise of an __init__ that stores all slots at its end: what it stores, as a function of data -/
def spI (Γ : Gm) (c : Nat) (f : List D → Store → Res (List D)) : Sp := fun vs H Q _ => ∃ a dx ws ds α G S, vs = V.ref a :: ws ∧ H a = some (.ins (Γ.cl c) dx []) ∧ H dx = some (.own a) ∧ dx ≠ a ∧ a ∉ α ∧ dx ∉ α ∧ G a = none ∧ G dx = none ∧ RepL Γ α G ds ws ∧ Rl Γ α G S H ∧
  match f ds S with
  | .ok fs S' => ∀ α' G' H' us, Ext α G H α' G' H' → Rl Γ α' G' S' H' → RepL Γ α' G' fs us → Q .non (SlX.slH H' a (Γ.cl c) dx (us.map some))
  | _ => False
/-- C(e, ..) -/
def mMake (c : Nat) (f : List D → Store → Res (List D)) (n : MA) : ME := fun ρ S => (n ρ S).bind fun ds S1 => match f ds S1 with
  | .ok fs S2 => .ok (.obj c fs) S2
  | _ => .no
theorem make_post {Γ : Gm} {E : XK} {α : List Addr} {G H0 : Hp} {S : Store} {c : Nat} {f : List D → Store → Res (List D)} {ds : List D} {vs : List V} {Q : VK} (R0 : Rl Γ α G S H0) (r : RepL Γ α G ds vs)
    (hp : Post Γ (Rep Γ) α G H0 (match f ds S with | .ok fs S2 => .ok (.obj c fs) S2 | _ => .no) Q E) (a dx : Addr) (na : H0 a = none) (nd : H0 dx = none) (ne : dx ≠ a) :
    spI Γ c f (.ref a :: vs) (upd (upd H0 dx (.own a)) a (.ins (Γ.cl c) dx [])) (fun v H2 => v = .non ∧ Q (.ref a) H2) E0 := by
  obtain ⟨R1, e1⟩ := R0.out nd (.own a)
  have na1 : upd H0 dx (.own a) a = none := by rw [upd_ne (Ne.symm ne)]; exact na
  obtain ⟨R2, e2⟩ := R1.out na1 (.ins (Γ.cl c) dx [])
  refine ⟨a, dx, vs, ds, α, G, S, rfl, upd_same, by rw [upd_ne ne, upd_same], ne, fun m => R0.tr a m na, fun m => R0.tr dx m nd, R0.sub.none na, R0.sub.none nd, r, R2, ?_⟩
  revert hp
  cases f ds S with
  | no => exact fun h => h.elim
  | ex e S' => exact fun h => h.elim
  | ok fs S' =>
    intro hp α' G' H' us e R rf
    obtain ⟨e3, R3, r3⟩ := new_obj R0 na nd ne rfl e R rf
    exact ⟨rfl, hp _ _ _ _ e3 R3 r3⟩
section
variable {X : Cx} {cl : Nat → Addr} {E : XK} {pos : Pos}
theorem q_make {c k : Nat} {f : List D → Store → Res (List D)} {fa : Addr} {fd : FuncData} {ps : List Str} {x : Str} {p : Pos} {e : Expr} {es : List Expr} {n : MA} (M : Mk X.K (cl c) fa) (F : FnOk X.prog X.w X.K X.mg X.base CX0 k fa fd ps (spI ⟨X.K, cl⟩ c f)) (hr : Room (k + 1) X.A)
    (hg : Gl X x) (hm : X.mg x = some (.ref (cl c))) (hb : Binds X.K fd ps []) (ha : QA X cl E (e :: es) n)
    (hdb : (x == ("__debug__" : Str)) = false := by decide) (he : starEach (e :: es) X.env = (false, eval e X.env) :: starEach es X.env := by rfl) (hpl : (backTo pos (starEach es X.env)).any (·.1) = false := by rfl) :
    QE X cl E (.Call (.Name x p) (e :: es) [] pos) (mMake c f n) := by
  obtain ⟨t, h1, h2⟩ := ha.ex
  refine ⟨_, pe_make M F hr hg hm hb .nil pass0 h1 hdb he hpl, fun ρ S σ α G H Q hρ hR hp => h2 ρ S σ α G H _ hρ hR (post_bind hp fun ds S1 α1 G1 H1 vs _ e1 R1 r1 hp1 => ?_)⟩
  intro a dx na nd ne
  rw [List.append_nil]
  exact make_post R1 r1 hp1 a dx na nd ne
end
theorem envR_self {Γ : Gm} {α : List Addr} {G : Hp} {ds : List D} {vs : List V} {N : List Str} {v0 : V} (r : RepL Γ α G ds vs) : EnvR Γ α G (none :: (ds.map some ++ List.replicate (N.length - (vs.length + 1)) none)) (L2.start N (v0 :: vs)) := by
  have hl := r.length
  unfold L2.start
  refine ⟨by simp [hl], fun i d hd => ?_⟩
  cases i with
  | zero => simp at hd
  | succ i =>
    rw [List.getElem?_cons_succ] at hd
    by_cases hi : i < ds.length
    · rw [List.getElem?_append_left (by simpa using hi), List.getElem?_map] at hd
      cases q : ds[i]? with
      | none => simp [q] at hd
      | some e =>
        simp only [q, Option.map_some, Option.some.injEq] at hd
        subst hd
        obtain ⟨v, hv, rv⟩ := r.get q
        refine ⟨v, ?_, rv⟩
        rw [List.map_cons, List.cons_append, List.getElem?_cons_succ, List.getElem?_append_left (by simpa [← hl] using hi), List.getElem?_map, hv]
        rfl
    · rw [List.getElem?_append_right (by simpa using hi), List.getElem?_replicate] at hd
      split at hd <;> cases hd
def init2 (nN : Nat) (m : ME) : List D → Store → Res (List D) := fun ds S => match m (none :: (ds.map some ++ List.replicate (nN - (ds.length + 1)) none)) S with
  | .ok (.tup [x, y]) S' => .ok [x, y] S'
  | _ => .no
section
variable {P : Program} {w : World} {K : PySem.W.Frag} {mg : Str → Option Value} {base : Heap}
open PySem.Spec PyProof.Rows in
theorem init2_ok {x qual : Str} {st : Stmt} {f : Addr} {fd : FuncData} {N ps : List Str} {k c : Nat} {cl : Nat → Addr} (nN nP : Nat) {m : ME} {f1 f2 self : Str} {p1 p2 : Addr} {e : Expr} {n1 n2 a1 a2 tp pos : Pos} {kk : Nat} (F : Fun K x qual st f fd) (S : FnScope N ps (defScope st))
    (hc : SlX.SCls K (cl c)) (s1 : SlX.Slot1 K (cl c) f1 p1 0) (s2 : SlX.Slot1 K (cl c) f2 p2 1) (hb : defBody st = [.Assign [.Tuple [.Attribute (.Name self n1) f1 a1, .Attribute (.Name self n2) f2 a2] kk tp] e pos])
    (hbody : ∀ (cdv : Value) (A : Around) (outer : List PySem.Env) (s : Shared) (H : Hp) (E : XK), Room k (A.deeper (envOfC qual (defScope st) s.heap.objs.size f cdv)) → let X := (cxOf CX0 P w K mg base N qual (defScope st) f cdv A outer s H E).nox
      QE X cl E0 e m ∧ PG X (.Tuple [.Attribute (.Name self n1) f1 a1, .Attribute (.Name self n2) f2 a2] kk tp) (gTup K 2 (gCons (gSl K (tVar 0) f1) (gCons (gSl K (tVar 0) f2) gNil))) ∧
      swapsWithSole [.Tuple [.Attribute (.Name self n1) f1 a1, .Attribute (.Name self n2) f2 a2] kk tp] e pos.line X.env = pure false ∧ swappedStores [.Tuple [.Attribute (.Name self n1) f1 a1, .Attribute (.Name self n2) f2 a2] kk tp] e X.env = pure none ∧
      (assignEach [.Tuple [.Attribute (.Name self n1) f1 a1, .Attribute (.Name self n2) f2 a2] kk tp] X.env).map (·.2) = [assign (.Tuple [.Attribute (.Name self n1) f1 a1, .Attribute (.Name self n2) f2 a2] kk tp) X.env])
    (hN : N.length = nN := by rfl) (hP : ps.length = nP := by rfl) : FnOk P w K mg base CX0 (k + 1) f fd ps (spI ⟨K, cl⟩ c fun ds S => if ds.length + 1 = nP then init2 nN m ds S else .no) := by
  refine F.ok S (fun vs H Q E h => ?_) (fun cdv A outer s H vs Q E hr h => ?_)
  · obtain ⟨a, dx, ws, ds, α, G, S, rfl, _, _, _, _, _, _, _, r, _, hp⟩ := h
    split at hp
    · rename_i q
      dsimp only at q
      split at q
      · rename_i e
        rw [List.length_cons, ← r.length, e, hP]
      · cases q
    · exact hp.elim
  · obtain ⟨a, dx, ws, ds, α, G, S', rfl, ha, hd, ne, ma, md, ga, gd, r, hR, hp⟩ := h
    obtain ⟨he, hg, w1, w2, w3⟩ := hbody cdv A outer s H E hr
    obtain ⟨te, h1, h2⟩ := he.ex
    refine ⟨_, by rw [hb]; exact pss_one (ps_asg h1 hg w1 w2 w3), ?_⟩
    split at hp
    · rename_i fs S2 q
      dsimp only at q
      split at q
      · unfold init2 at q
        rw [show ds.length = ws.length from r.length, ← hN] at q
        refine h2 _ S' _ α G H _ (envR_self r) hR ?_
        split at q
        · rename_i dx' dy S3 qm
          cases q
          rw [qm]
          intro α' G' H' v e R rv
          unfold Rep at rv
          obtain ⟨b, xs, rfl, hq, rl⟩ := rv
          have hl := rl.length
          simp only [List.length_cons, List.length_nil] at hl
          obtain ⟨u1, u2, rfl⟩ : ∃ u1 u2, xs = [u1, u2] := by
            match xs, hl with
            | [u1, u2], _ => exact ⟨u1, u2, rfl⟩
          have ka : H' a = some (.ins (cl c) dx []) := e.fr a _ ha ma
          refine ⟨b, [u1, u2], rfl, .inl (.inl (R.sub _ _ hq)), rfl, u1, [u2], rfl, ?_⟩
          refine ⟨.ref a, rfl, a, cl c, dx, p1, [], 0, rfl, .inl ⟨ka, rfl⟩, hc, s1, u2, [], rfl, ?_⟩
          refine ⟨.ref a, rfl, a, cl c, dx, p2, _, 1, rfl, SlX.slH_slt ne, hc, s2, rfl, ?_⟩
          rw [SlX.slH_twice ne]
          exact hp α' G' H' [u1, u2] e R rl
        · cases q
      · cases q
    · exact hp.elim
end
def init2s (nN : Nat) (m : ME) : List D → Store → Res (List D) := fun ds S => match m (none :: (ds.map some ++ List.replicate (nN - (ds.length + 1)) none)) S with
  | .ok (.tup [x, y]) S' => .ok [y, x] S'
  | _ => .no
section
variable {P : Program} {w : World} {K : PySem.W.Frag} {mg : Str → Option Value} {base : Heap}
open PySem.Spec PyProof.Rows in
theorem init2s_ok {x qual : Str} {st : Stmt} {f : Addr} {fd : FuncData} {N ps : List Str} {k c : Nat} {cl : Nat → Addr} (nN nP : Nat) {m : ME} {f1 f2 self : Str} {p1 p2 : Addr} {e : Expr} {n1 n2 a1 a2 tp pos : Pos} {kk : Nat} (F : Fun K x qual st f fd) (S : FnScope N ps (defScope st))
    (hc : SlX.SCls K (cl c)) (s1 : SlX.Slot1 K (cl c) f1 p1 1) (s2 : SlX.Slot1 K (cl c) f2 p2 0) (hb : defBody st = [.Assign [.Tuple [.Attribute (.Name self n1) f1 a1, .Attribute (.Name self n2) f2 a2] kk tp] e pos])
    (hbody : ∀ (cdv : Value) (A : Around) (outer : List PySem.Env) (s : Shared) (H : Hp) (E : XK), Room k (A.deeper (envOfC qual (defScope st) s.heap.objs.size f cdv)) → let X := (cxOf CX0 P w K mg base N qual (defScope st) f cdv A outer s H E).nox
      QE X cl E0 e m ∧ PG X (.Tuple [.Attribute (.Name self n1) f1 a1, .Attribute (.Name self n2) f2 a2] kk tp) (gTup K 2 (gCons (gSl K (tVar 0) f1) (gCons (gSl K (tVar 0) f2) gNil))) ∧
      swapsWithSole [.Tuple [.Attribute (.Name self n1) f1 a1, .Attribute (.Name self n2) f2 a2] kk tp] e pos.line X.env = pure false ∧ swappedStores [.Tuple [.Attribute (.Name self n1) f1 a1, .Attribute (.Name self n2) f2 a2] kk tp] e X.env = pure none ∧
      (assignEach [.Tuple [.Attribute (.Name self n1) f1 a1, .Attribute (.Name self n2) f2 a2] kk tp] X.env).map (·.2) = [assign (.Tuple [.Attribute (.Name self n1) f1 a1, .Attribute (.Name self n2) f2 a2] kk tp) X.env])
    (hN : N.length = nN := by rfl) (hP : ps.length = nP := by rfl) : FnOk P w K mg base CX0 (k + 1) f fd ps (spI ⟨K, cl⟩ c fun ds S => if ds.length + 1 = nP then init2s nN m ds S else .no) := by
  refine F.ok S (fun vs H Q E h => ?_) (fun cdv A outer s H vs Q E hr h => ?_)
  · obtain ⟨a, dx, ws, ds, α, G, S, rfl, _, _, _, _, _, _, _, r, _, hp⟩ := h
    split at hp
    · rename_i q
      dsimp only at q
      split at q
      · rename_i e
        rw [List.length_cons, ← r.length, e, hP]
      · cases q
    · exact hp.elim
  · obtain ⟨a, dx, ws, ds, α, G, S', rfl, ha, hd, ne, ma, md, ga, gd, r, hR, hp⟩ := h
    obtain ⟨he, hg, w1, w2, w3⟩ := hbody cdv A outer s H E hr
    obtain ⟨te, h1, h2⟩ := he.ex
    refine ⟨_, by rw [hb]; exact pss_one (ps_asg h1 hg w1 w2 w3), ?_⟩
    split at hp
    · rename_i fs S2 q
      dsimp only at q
      split at q
      · unfold init2s at q
        rw [show ds.length = ws.length from r.length, ← hN] at q
        refine h2 _ S' _ α G H _ (envR_self r) hR ?_
        split at q
        · rename_i dx' dy S3 qm
          cases q
          rw [qm]
          intro α' G' H' v e R rv
          unfold Rep at rv
          obtain ⟨b, xs, rfl, hq, rl⟩ := rv
          have hl := rl.length
          simp only [List.length_cons, List.length_nil] at hl
          obtain ⟨u1, u2, rfl⟩ : ∃ u1 u2, xs = [u1, u2] := by
            match xs, hl with
            | [u1, u2], _ => exact ⟨u1, u2, rfl⟩
          have ka : H' a = some (.ins (cl c) dx []) := e.fr a _ ha ma
          refine ⟨b, [u1, u2], rfl, .inl (.inl (R.sub _ _ hq)), rfl, u1, [u2], rfl, ?_⟩
          refine ⟨.ref a, rfl, a, cl c, dx, p1, [], 1, rfl, .inl ⟨ka, rfl⟩, hc, s1, u2, [], rfl, ?_⟩
          refine ⟨.ref a, rfl, a, cl c, dx, p2, _, 0, rfl, SlX.slH_slt ne, hc, s2, rfl, ?_⟩
          rw [SlX.slH_twice ne]
          have rl2 : RepL ⟨K, cl⟩ α' G' [dy, dx'] [u2, u1] := by
            unfold RepL at rl
            obtain ⟨v1, w1, e1, k1, k2⟩ := rl
            cases e1
            obtain ⟨v2, e2, k3⟩ := repL1 k2
            cases e2
            unfold RepL
            exact ⟨u2, [u1], rfl, k3, by unfold RepL; exact ⟨u1, [], rfl, k1, by simp [RepL]⟩⟩
          exact hp α' G' H' [u2, u1] e R rl2
        · cases q
      · cases q
    · exact hp.elim
end
def isObj (c : Nat) : D → Bool
  | .obj c' _ => c' == c
  | _ => false
/-- o.m(e, ..) -/
def mMeth (c : Nat) (g : List D → Store → Res D) (m : ME) (n : MA) : ME := fun ρ S => (m ρ S).bind fun d S1 => if isObj c d then (n ρ S1).bind fun ds S2 => g (d :: ds) S2 else .no
theorem obj_at {Γ : Gm} {α : List Addr} {G H : Hp} {S : Store} {c : Nat} {d : D} {v : V} (R : Rl Γ α G S H) (h : isObj c d = true) (r : Rep Γ α G d v) : ∃ a dx vs, v = .ref a ∧ SlX.Slt H a (Γ.cl c) dx vs := by
  cases d <;> simp [isObj] at h
  subst h
  unfold Rep at r
  obtain ⟨a, vs, rfl, ho, _⟩ := r
  obtain ⟨dx, hs⟩ := obj_slt R.sub ho
  exact ⟨a, dx, _, rfl, hs⟩
section
variable {X : Cx} {cl : Nat → Addr} {E : XK} {pos apos : Pos} {o e : Expr} {es : List Expr} {f : Str} {mo : ME} {n : MA}
theorem q_meth {g : List D → Store → Res D} {fm : List D → Store → Res D} {k c : Nat} {fa : Addr} {pl : Sem Bool} (ho : QE X cl E o mo) (hc : SlX.SCls X.K (cl c)) (hm : Meth X.K (cl c) f fa) (F : FnR X.prog X.w X.K X.mg X.base CX0 k fa (spM ⟨X.K, cl⟩ fm)) (hr : Room k X.A)
    (ha : QA X cl E (e :: es) n) (hf : SndC ⟨X.K, cl⟩ E (fun vs H Q => spM ⟨X.K, cl⟩ fm vs H Q E0) g)
    (hst : starEach (e :: es) X.env = (false, eval e X.env) :: starEach es X.env := by rfl) (hpl : (backTo pos (starEach es X.env)).any (·.1) = false := by rfl)
    (ht : eval (.Call (.Attribute o f apos) (e :: es) [] pos) X.env = (do
      let ov ← eval o X.env
      standAt apos.atName
      let (f, first) ← holding [ov] (getMethod ov f pl)
      callWith pos f first (backTo pos (starEach (e :: es) X.env)) (backToKw pos (keywordEach [] X.env))) := by rfl) :
    QE X cl E (.Call (.Attribute o f apos) (e :: es) [] pos) (mMeth c g mo n) := by
  obtain ⟨t, h1, h2⟩ := ho.ex
  obtain ⟨u, k1, k2⟩ := ha.ex
  refine ⟨_, SlX.pe_methSl h1 hc hm F hr pass0 k1 hst hpl ht, fun ρ S σ α G H Q hρ hR hp => h2 ρ S σ α G H _ hρ hR (post_bind hp fun d S1 α1 G1 H1 v _ e1 R1 r1 hp1 => ?_)⟩
  split at hp1
  · rename_i hi
    obtain ⟨a, dx, vs, rfl, hs⟩ := obj_at R1 hi r1
    refine ⟨a, dx, vs, rfl, hs, k2 ρ S1 σ α1 G1 H1 _ (hρ.mono e1) R1 (post_bind hp1 fun ds S2 α2 G2 H2 ws _ e2 R2 r2 hp2 => ?_)⟩
    exact hf (d :: ds) S2 α2 G2 H2 (.ref a :: ws) Q R2 (by unfold RepL; exact ⟨.ref a, ws, rfl, Rep.mono e2.pre e2.sub _ _ r1, r2⟩) hp2
  · exact hp1.elim
theorem q_meth0 {g : List D → Store → Res D} {fm : List D → Store → Res D} {k c : Nat} {fa : Addr} {pl : Sem Bool} (ho : QE X cl E o mo) (hc : SlX.SCls X.K (cl c)) (hm : Meth X.K (cl c) f fa) (F : FnR X.prog X.w X.K X.mg X.base CX0 k fa (spM ⟨X.K, cl⟩ fm)) (hr : Room k X.A)
    (hf : SndC ⟨X.K, cl⟩ E (fun vs H Q => spM ⟨X.K, cl⟩ fm vs H Q E0) g)
    (ht : eval (.Call (.Attribute o f apos) [] [] pos) X.env = (do
      let ov ← eval o X.env
      standAt apos.atName
      let (f, first) ← holding [ov] (getMethod ov f pl)
      callWith pos f first (backTo pos (starEach [] X.env)) (backToKw pos (keywordEach [] X.env))) := by rfl) :
    QE X cl E (.Call (.Attribute o f apos) [] [] pos) (mMeth c g mo mNil) := by
  obtain ⟨t, h1, h2⟩ := ho.ex
  refine ⟨_, SlX.pe_methSl0 h1 hc hm F hr pass0 ht, fun ρ S σ α G H Q hρ hR hp => h2 ρ S σ α G H _ hρ hR (post_bind hp fun d S1 α1 G1 H1 v _ e1 R1 r1 hp1 => ?_)⟩
  split at hp1
  · rename_i hi
    obtain ⟨a, dx, vs, rfl, hs⟩ := obj_at R1 hi r1
    refine ⟨a, dx, vs, rfl, hs, ?_⟩
    exact hf [d] S1 α1 G1 H1 [.ref a] Q R1 (by unfold RepL; exact ⟨.ref a, [], rfl, r1, by simp [RepL]⟩) hp1
  · exact hp1.elim
end
section
open PySem.Spec PyProof.Rows
variable {X : Cx} {CX : CXT} {g : Addr} {C : Addr} {n : Nat} {sp : Sp} {E : XK}
/-- x op y, x an instance of the class at C whose def for op is at g; y of a built-in kind -/
def rOwnX (K : PySem.W.Frag) (C : Addr) (sp : Sp) (E : XK) : R2 := fun x y H Q => ∃ a dx vs t, x = .ref a ∧ SlX.Slt H a C dx vs ∧ TyX K H y t ∧ PySem.W.notFirst K C t = true ∧ sp [x, y] H Q E
theorem op_ownX {op : CmpOp} (hop : ∀ a b, compareOp op a b = richCompare op a b) (hs : PySem.W.findIn X.K (.ref C) (cmpInfo op).2.1 = some (some (.ref g))) (hf : PySem.W.isFn X.K (.ref g) = true) (F : FnR X.prog X.w X.K X.mg X.base CX n g sp)
    (hr : Room n X.A) (hx : Passes CX X E) : OpR X (compareOp op) (rOwnX X.K C sp E) := by
  intro pins s σ H x y v u Q I rx ry h
  obtain ⟨a, dx, vs, t, rfl, ha, ht, hn, q⟩ := h
  cases (show v = Value.ref a from rx)
  obtain ⟨sl, od, _, J, _⟩ := SlX.slt_inst I ha
  obtain ⟨P, hk, hP, _⟩ := kit_of I ry ht
  obtain ⟨m, hF⟩ := I.fr
  rw [hop]
  refine PySem.W.cmp_K (op := op) (tb := t) hr.units0 hF I.ok.mod.kin J (hk.ty _ _ I.kIn hP) hn hs hf ?_
  refine wpAny_mono (wpAny_call (run_fnR (us := [.ref a, u]) (vs := [.ref a, y]) F hr hx I (.cons rfl (.cons ry .nil)) q)) (fun w s' z => ?_) fun _ _ x => x
  obtain ⟨z', H', I', rz, qz⟩ := z
  exact SlX.cmpback rz ⟨z', H', I', rz, qz⟩
end
section
variable {X : Cx} {cl : Nat → Addr} {E : XK}
/-- ==, the left one may be an instance of the class c -/
def opOwn (c : Nat) (g : List D → Store → Res D) (f : D → D → Store → Res D) : D → D → Store → Res D := fun a b S => if isObj c a then (if isObj c b || isOk S b then g [a, b] S else .no) else f a b S
theorem eqO {g fm : List D → Store → Res D} {op : CmpOp} {f : D → D → Store → Res D} {k c : Nat} {fa : Addr} (hop : ∀ a b, compareOp op a b = richCompare op a b) (hs : PySem.W.findIn X.K (.ref (cl c)) (cmpInfo op).2.1 = some (some (.ref fa))) (hff : PySem.W.isFn X.K (.ref fa) = true)
    (F : FnR X.prog X.w X.K X.mg X.base CX0 k fa (spM ⟨X.K, cl⟩ fm)) (hr : Room k X.A) (hf : SndC ⟨X.K, cl⟩ E (fun vs H Q => spM ⟨X.K, cl⟩ fm vs H Q E0) g) (hn : PySem.W.notFirst X.K (cl c) (.ref (cl c)) = true) (hn2 : ∀ (S : Store) d, isOk S d = true → PySem.W.notFirst X.K (cl c) (.type (tyN d)) = true)
    (h0 : QR X cl E (compareOp op) f) : QR X cl E (compareOp op) (opOwn c g f) := by
  obtain ⟨r, h1, h2⟩ := h0.ex
  refine ⟨_, OpR.or (SlX.op_own (C := cl c) hop hs hff F hr pass0) (OpR.or (op_ownX (C := cl c) hop hs hff F hr pass0) h1), fun a b S α G H x y Q hR ra rb h => ?_⟩
  unfold opOwn at h
  split at h
  · rename_i ha
    obtain ⟨p, dx, vs, rfl, hsl⟩ := obj_at hR ha ra
    split at h
    · rename_i hb
      have call : spM ⟨X.K, cl⟩ fm [.ref p, y] H Q E0 := hf [a, b] S α G H [.ref p, y] Q hR (by unfold RepL; exact ⟨_, _, rfl, ra, by unfold RepL; exact ⟨_, _, rfl, rb, by simp [RepL]⟩⟩) h
      cases hc : isObj c b with
      | true =>
        obtain ⟨p2, dy, ws, rfl, hsl2⟩ := obj_at hR hc rb
        exact .inl ⟨p, dx, vs, p2, cl c, dy, ws, rfl, rfl, hsl, hsl2, hn, call⟩
      | false =>
        rw [hc, Bool.false_or] at hb
        exact .inr (.inl ⟨p, dx, vs, .type (tyN b), rfl, hsl, tyx_at hR rb hb, hn2 S b hb, call⟩)
    · exact h.elim
  · exact .inr (.inr (h2 a b S α G H x y Q hR ra rb h))
end
section
variable {X : Cx} {cl : Nat → Addr} {E : XK} {pos : Pos} {a : Expr} {m : ME}
def isC (c : Nat) (d : D) (S : Store) : Res D := if isObj c d then .ok (.bl true) S else if isOk S d then .ok (.bl false) S else .no
def mIsC (c : Nat) (m : ME) : ME := fun ρ S => (m ρ S).bind (isC c)
theorem q_isC (c : Nat) {x : Str} {p p2 : Pos} (h : QE X cl E a m) (hg : Gl X "isinstance") (hm : X.mg "isinstance" = none) (hg2 : Gl X x) (hm2 : X.mg x = some (.ref (cl c))) (hc : SlX.SCls X.K (cl c)) (hi : SlX.SIsi X.K (cl c)) (hk : PySem.W.kitOne X.K (.ref (cl c)) (.ref (cl c)) = some true) (hk2 : ∀ (S : Store) d, isOk S d = true → PySem.W.kitOne X.K (.type (tyN d)) (.ref (cl c)) = some false)
    (hdb : (x == ("__debug__" : Str)) = false := by decide)
    (hs1 : starEach [a, .Name x p2] X.env = (false, eval a X.env) :: starEach [.Name x p2] X.env := by rfl) (hs2 : starEach [.Name x p2] X.env = (false, eval (.Name x p2) X.env) :: starEach [] X.env := by rfl) (hpl : (backTo pos (starEach [.Name x p2] X.env)).any (·.1) = false := by rfl) :
    QE X cl E (.Call (.Name "isinstance" p) [a, .Name x p2] [] pos) (mIsC c m) := by
  obtain ⟨t, h1, h2⟩ := h.ex
  refine ⟨_, pe_callB (CallR.or (SlX.call_isiSl (.ref (cl c))) call_isi) hg hm (by decide +kernel) (pa_cons h1 (pa_cons (pe_glob (v := .ref (cl c)) hg2 hm2 rfl hdb) pa_nil hs2) hs1) (by decide) (by decide) hs1 hpl, fun ρ S σ α G H Q hρ hR hp => h2 ρ S σ α G H _ hρ hR (post_bind hp fun d S1 α1 G1 H1 v _ e1 R1 r1 hp1 => ?_)⟩
  unfold isC at hp1
  split at hp1
  · rename_i ho
    obtain ⟨b, dx, vs, rfl, hsl⟩ := obj_at R1 ho r1
    exact .inl ⟨b, cl c, dx, vs, .ref (cl c), true, rfl, rfl, fun w hw => hw, hsl, hc, hi, hk, post_ok hp1 R1 (by simp [Rep])⟩
  · split at hp1
    · rename_i ho
      exact .inr ⟨v, .ref (cl c), .type (tyN d), .ref (cl c), false, rfl, .own _, tyx_at R1 r1 ho, hk2 _ d ho, post_ok hp1 R1 (by simp [Rep])⟩
    · exact hp1.elim
end
/-- .. by names alone -/
def mMakeK (c : Nat) (f : List D → Store → Res (List D)) (j : Nat) (idx : List Nat) (nk : MA) : ME := fun ρ S => (nk ρ S).bind fun zs S1 => if zs.length = j then (match f (place idx zs) S1 with
  | .ok fs S2 => .ok (.obj c fs) S2
  | _ => .no) else .no
section
variable {X : Cx} {cl : Nat → Addr} {E : XK} {pos : Pos}
theorem q_makeK0 {c k : Nat} {f : List D → Store → Res (List D)} {fa : Addr} {fd : FuncData} {ps ks : List Str} {x : Str} {p : Pos} {kws : List Keyword} {nk : MA} (j : Nat) (idxF idx : List Nat) (M : Mk X.K (cl c) fa) (F : FnOk X.prog X.w X.K X.mg X.base CX0 k fa fd ps (spI ⟨X.K, cl⟩ c f)) (hr : Room (k + 1) X.A)
    (hg : Gl X x) (hm : X.mg x = some (.ref (cl c))) (hb : KBn X.K fd ps 1 ks (fun us ws => place idxF (us ++ ws)) (fun us ws => place idxF (us ++ ws))) (hkw : QK X cl E kws nk) (hi : ∀ (a : V) (zs : List V), zs.length = j → place idxF (a :: zs) = a :: place idx zs)
    (hj : ks.length = j := by rfl)
    (hall : (backToKw pos (keywordEach kws X.env)).all (·.1.isSome) = true := by rfl) (hks : (backToKw pos (keywordEach kws X.env)).filterMap (·.1) = ks := by rfl) (hdb : (x == ("__debug__" : Str)) = false := by decide)
    (hpl : ((backTo pos (starEach [] X.env)).any (·.1) || (backToKw pos (keywordEach kws X.env)).any (·.1.isNone)) = false := by rfl) :
    QE X cl E (.Call (.Name x p) [] kws pos) (mMakeK c f j idx nk) := by
  obtain ⟨t, h1, h2⟩ := hkw.ex
  refine ⟨_, pe_makeK0 M F hr hg hm hb pass0 h1 hall hks hdb hpl, fun ρ S σ α G H Q hρ hR hp => h2 ρ S σ α G H _ hρ hR (post_bind hp fun zs S1 α1 G1 H1 vs _ e1 R1 r1 hp1 => ?_)⟩
  split at hp1
  · rename_i hl
    have hv : vs.length = j := by rw [← r1.length]; exact hl
    refine ⟨rfl, by rw [hv, hj], fun a dx na nd ne => ?_⟩
    show spI _ c f (place idxF (V.ref a :: vs)) _ _ _
    rw [hi _ _ hv]
    exact make_post R1 (place_rep r1 idx) hp1 a dx na nd ne
  · exact hp1.elim
end
def opIsB : D → D → Store → Res D := fun a b S => match a, b with
  | .bl i, .bl j => .ok (.bl (decide (i = j))) S
  | _, _ => .no
section
variable {X : Cx} {cl : Nat → Addr} {E : XK}
theorem isB : QR X cl E (compareOp .Is) opIsB := by
  refine ⟨_, op_isBl, fun a b S α G H x y Q hR ra rb h => ?_⟩
  cases a <;> cases b <;> try exact h.elim
  rename_i i j
  simp only [Rep] at ra rb
  exact ⟨i, j, ra, rb, post_ok h hR (by simp [Rep])⟩
end
def tMethK (C : Addr) (j : Nat) (sp : Sp) (gV : List V → List V → List V) (E : XK) (ta : TE) (tk : TA) : TE := fun σ H Q => ta σ H fun x H1 => ∃ a dx vs, x = .ref a ∧ SlX.Slt H1 a C dx vs ∧ tk σ H1 fun zs H2 => zs.length = j ∧ sp (gV [x] zs) H2 Q E
def mMethK (c : Nat) (g : List D → Store → Res D) (j : Nat) (idx : List Nat) (m : ME) (nk : MA) : ME := fun ρ S => (m ρ S).bind fun d S1 => if isObj c d then (nk ρ S1).bind fun zs S2 => if zs.length = j then g (place idx (d :: zs)) S2 else .no else .no
section
open PySem.Spec PyProof.Rows
variable {X : Cx} {cl : Nat → Addr} {E : XK} {pos apos : Pos} {o : Expr} {f : Str} {mo : ME} {nk : MA}
theorem pe_methK0 {CX : CXT} {k : Nat} {C fa : Addr} {fd : FuncData} {ps ks : List Str} {sp : Sp} {kws : List Keyword} {ta : TE} {tk : TA} {g : List Value → List Value → List Value} {gV : List V → List V → List V} {pl : Sem Bool} (he : PE X o ta) (hc : SlX.SCls X.K C) (hm : Meth X.K C f fa) (F : FnOk X.prog X.w X.K X.mg X.base CX k fa fd ps sp) (hr : Room k X.A) (hb : KBn X.K fd ps 1 ks g gV) (hx : Passes CX X E)
    (hkw : PK X kws tk) (hall : (backToKw pos (keywordEach kws X.env)).all (·.1.isSome) = true) (hks : (backToKw pos (keywordEach kws X.env)).filterMap (·.1) = ks)
    (hpl : ((backTo pos (starEach [] X.env)).any (·.1) || (backToKw pos (keywordEach kws X.env)).any (·.1.isNone)) = false)
    (ht : eval (.Call (.Attribute o f apos) [] kws pos) X.env = (do
      let ov ← eval o X.env
      standAt apos.atName
      let (f, first) ← holding [ov] (getMethod ov f pl)
      callWith pos f first (backTo pos (starEach [] X.env)) (backToKw pos (keywordEach kws X.env)))) :
    PE X (.Call (.Attribute o f apos) [] kws pos) (tMethK C ks.length sp gV E ta tk) := by
  refine ⟨fun pins s σ H Q I h => ?_⟩
  refine PySem.W.methodCall_KW (pl := pl) (thn (he.run pins s σ H _ I h) fun u s1 ⟨x, H1, I1, rx, a, dx, vs, ex, hsl, q⟩ => ?_) ht
  subst ex
  obtain rfl : u = Value.ref a := rx
  refine SlX.getmethsl_ok I1 hsl hc hm ?_
  refine PySem.W.callWith_KW0 (first := [.ref a]) (h₀ := X.base) I1.ok.mod.kin hm.kp hall ?_ hpl
  refine thn (hkw.run pos pins s1 σ H1 _ I1 q) fun ws s2 ⟨zs, H2, I2, rz, l2, q2⟩ => ⟨I2.kIn, ?_⟩
  rw [hks]
  exact run_fnN (us := [.ref a]) (vs := [.ref a]) F hr hb hx I2 (.cons rfl .nil) rz rfl l2 q2
theorem q_methK0 {g fm : List D → Store → Res D} {k c j : Nat} {idx : List Nat} {fa : Addr} {fd : FuncData} {ps ks : List Str} {kws : List Keyword} {pl : Sem Bool} (ho : QE X cl E o mo) (hc : SlX.SCls X.K (cl c)) (hm : Meth X.K (cl c) f fa) (F : FnOk X.prog X.w X.K X.mg X.base CX0 k fa fd ps (spM ⟨X.K, cl⟩ fm)) (hr : Room k X.A)
    (hb : KBn X.K fd ps 1 ks (fun us ws => place idx (us ++ ws)) (fun us ws => place idx (us ++ ws))) (hkw : QK X cl E kws nk) (hf : SndC ⟨X.K, cl⟩ E (fun vs H Q => spM ⟨X.K, cl⟩ fm vs H Q E0) g)
    (hall : (backToKw pos (keywordEach kws X.env)).all (·.1.isSome) = true := by rfl) (hks : (backToKw pos (keywordEach kws X.env)).filterMap (·.1) = ks := by rfl)
    (hpl : ((backTo pos (starEach [] X.env)).any (·.1) || (backToKw pos (keywordEach kws X.env)).any (·.1.isNone)) = false := by rfl) (hj : ks.length = j := by rfl)
    (ht : eval (.Call (.Attribute o f apos) [] kws pos) X.env = (do
      let ov ← eval o X.env
      standAt apos.atName
      let (f, first) ← holding [ov] (getMethod ov f pl)
      callWith pos f first (backTo pos (starEach [] X.env)) (backToKw pos (keywordEach kws X.env))) := by rfl) :
    QE X cl E (.Call (.Attribute o f apos) [] kws pos) (mMethK c g j idx mo nk) := by
  subst hj
  obtain ⟨t, h1, h2⟩ := ho.ex
  obtain ⟨u, k1, k2⟩ := hkw.ex
  refine ⟨_, pe_methK0 h1 hc hm F hr hb pass0 k1 hall hks hpl ht, fun ρ S σ α G H Q hρ hR hp => h2 ρ S σ α G H _ hρ hR (post_bind hp fun d S1 α1 G1 H1 v _ e1 R1 r1 hp1 => ?_)⟩
  split at hp1
  · rename_i hi
    obtain ⟨a, dx, vs, rfl, hs⟩ := obj_at R1 hi r1
    refine ⟨a, dx, vs, rfl, hs, k2 ρ S1 σ α1 G1 H1 _ (hρ.mono e1) R1 (post_bind hp1 fun zs S2 α2 G2 H2 ws _ e2 R2 r2 hp2 => ?_)⟩
    split at hp2
    · rename_i hl
      refine ⟨by rw [← r2.length]; exact hl, ?_⟩
      exact hf (place idx (d :: zs)) S2 α2 G2 H2 (place idx (.ref a :: ws)) Q R2 (place_rep (by unfold RepL; exact ⟨.ref a, ws, rfl, Rep.mono e2.pre e2.sub _ _ r1, r2⟩) idx) hp2
    · exact hp2.elim
  · exact hp1.elim
end
end Q
namespace Q
open PySem L2
section
open PySem.W PySem.Calls PyProof.Rows
variable {prog : Program} {w : World} {A : Around} {E : Value → Shared → Prop} {s : Shared} {K : Frag} {x C L f : Addr} {h₀ : Heap} {m : Str → Option Value} {ox : Obj} {od : Option Obj} {b tb : Value}
/-- what the class must have -/
structure NeC (K : Frag) (C g : Addr) : Prop where
  ne : findIn K (.ref C) "__ne__" = some (some (.builtin "object.__ne__"))
  top : mroIn K C (.type "object") = some true
  eq : findIn K (.ref C) "__eq__" = some (some (.ref g))
  fn : isFn K (.ref g) = true
theorem objNe_K (X : K.In s.heap) (I : InstAt s.heap x ox C od) (c : NeC K C f) (hu : A.units < cLine) {Q : Fin → Shared → Prop}
    (hcall : wpAny (model prog w) A (call (.ref f) [.ref x, b]) (fun v s' => ∃ b, v = .bool b ∧ Q (.done (.ret (.bool (!b)))) s') E s) :
    wpAny (model prog w) A (Builtin.«object.__ne__» ⟨[.ref x, b], []⟩) Q E s := by
  unfold Builtin.«object.__ne__»
  repeat (first
    | with_reducible refine wpAny_cRoomFor hu ?_
    | (refine wpAny_bind (m := callSpecialIfBound? (.ref x) (Str.ofString "__eq__") [b])
        (ifBound_K X I c.eq c.fn (wpAny_mono hcall (fun r s' hr => by
          obtain ⟨b, rfl, hq⟩ := hr
          repeat (first | exact hq | exact wpAny_pure hq | exact wpAny_truthy_bool hq | (refine wpAny_bind (m := truthy (.bool _)) (wpAny_truthy_bool ?_)) | wp_step)) fun _ _ e => e)))
    | wp_step)
theorem ne_K {Q : Value → Shared → Prop} (hu : A.units + 1 < cLine) (F : Fr h₀ L s.heap m) (X₀ : K.In h₀) (I : InstAt s.heap x ox C od) (hb : Looks (model prog w) s.heap (typeOf b) tb) (hn : notFirst K C tb = true) (c : NeC K C f)
    (h : wpAny (model prog w) A.in1 (call (.ref f) [.ref x, b]) (fun v s' => ∃ b, v = .bool b ∧ Q (.bool (!b)) s') E s) : wpAny (model prog w) A (richCompare .NotEq (.ref x) b) Q E s := by
  have X := X₀.keeps F.keep
  have one : wpAny (model prog w) A (tryCompare (.ref x) "__ne__" b) (fun r s' => ∃ v, r = some v ∧ Q v s') E s := by
    unfold tryCompare
    refine wpAny_bind ?_
    simp only [callSpecialIfBound?, bindSpecialIfBound?]
    refine wpAny_holding (wpAny_bind (wpAny_bind (wpAny_bind (I.type.here ((looks_findIn X c.ne).here ?_)))))
    simp only [PySem.F.cmp_object.ne.bind]
    refine wpAny_bind (wpAny_askSetting (wpAny_ite ?_))
    have hi : Looks (model prog w) s.heap (isInstance (.ref x) (.type "object")) true := I.type.andThen (looks_mroIn X c.top)
    have fin : wpAny (model prog w) A (call (.builtin "object.__ne__") ([.ref x] ++ [b]) >>= fun v => pure (some v)) (fun r s' => wpAny (model prog w) A (match r with
        | some .notImplemented | none => pure none
        | some v => pure (some v)) (fun r s' => ∃ v, r = some v ∧ Q v s') E s') E s := by
      refine wpAny_bind (wpAny_call (codeAny_call_builtin PySem.F.cmp_object.ne.plain PySem.F.cmpEntry_ne
        (check_slot PySem.F.cmpKind_ne PySem.F.cmpSplit_ne hi (PySem.F.cmpArgs_ne _ _) (objNe_K (A := A.in1) X I c hu (wpAny_mono h (fun v s' hv => ?_) fun _ _ e => e)))))
      obtain ⟨r, rfl, hq⟩ := hv
      exact ⟨r, rfl, wpAny_pure (wpAny_pure ⟨_, rfl, hq⟩)⟩
    split
    · exact wpAny_bind (wpAny_pure (wpAny_pure fin))
    · exact wpAny_tryCatch (wpAny_bind (wpAny_pure (wpAny_pure fin)))
  unfold richCompare
  simp only [oneThing_ref]
  refine wpAny_holding (wpAny_bind (wpAny_cRoomFor (Nat.lt_of_succ_lt hu) ?_))
  refine wpAny_bind (I.type.here (wpAny_bind (hb.here ?_)))
  split
  · rename_i q
    have e : subIn K tb (.ref C) = some false := by
      rcases Bool.or_eq_true_iff.mp hn with e | e
      · rw [beq_iff_eq.mp e] at q; simp at q
      · exact beq_iff_eq.mp e
    refine wpAny_bind ((looks_subIn X e).here ?_)
    simp only [Bool.false_eq_true, if_false]
    refine wpAny_bind (wpAny_mono one (fun r s' z => ?_) fun _ _ e => e)
    obtain ⟨v, rfl, hq⟩ := z
    exact wpAny_pure hq
  · refine wpAny_bind (wpAny_pure ?_)
    simp only [Bool.false_eq_true, if_false]
    refine wpAny_bind (wpAny_mono one (fun r s' z => ?_) fun _ _ e => e)
    obtain ⟨v, rfl, hq⟩ := z
    exact wpAny_pure hq
end
section
open PySem.Spec PyProof.Rows
variable {X : Cx} {CX : CXT} {g : Addr} {C : Addr} {n : Nat} {sp : Sp} {E : XK}
/-- what follows the turning round of a truth -/
def notQ (Q : VK) : VK := fun v H => ∃ b, v = V.bl b ∧ Q (.bl (!b)) H
def rNeX (K : PySem.W.Frag) (C : Addr) (sp : Sp) (E : XK) : R2 := fun x y H Q => ∃ a dx vs, x = .ref a ∧ SlX.Slt H a C dx vs ∧ ((∃ t, TyX K H y t ∧ PySem.W.notFirst K C t = true) ∨ ∃ b C' dy ws, y = .ref b ∧ SlX.Slt H b C' dy ws ∧ PySem.W.notFirst K C (.ref C') = true) ∧ sp [x, y] H (notQ Q) E
theorem op_neX (c : NeC X.K C g) (F : FnR X.prog X.w X.K X.mg X.base CX n g sp) (hr : Room (n + 1) X.A) (hu : X.A.units + 1 < cLine) (hx : ∀ (H : Hp) (s : Shared) (e : Value) (s' : Shared), CX X.stack H s E e s' → False) : OpR X (compareOp .NotEq) (rNeX X.K C sp E) := by
  intro pins s σ H x y v u Q I rx ry h
  obtain ⟨a, dx, vs, rfl, ha, ht, q⟩ := h
  cases (show v = Value.ref a from rx)
  obtain ⟨sl, od, _, J, _⟩ := SlX.slt_inst I ha
  obtain ⟨m, hF⟩ := I.fr
  have call : wpAny (model X.prog X.w) X.A.in1 (call (.ref g) [.ref a, u]) (fun v s' => ∃ b, v = .bool b ∧ EP X pins σ Q (.bool (!b)) s') X.xe s := by
    refine wpAny_call (codeAny_mono (F X.A.in1 X.stack s H [.ref a, u] [.ref a, y] (notQ Q) E hr.in1 I.env0.in1 (.cons rfl (.cons ry .nil)) q) fun r s' hq => ?_)
    cases r with
    | error e => exact (hx _ _ _ _ hq).elim
    | ok fl =>
      cases fl with
      | ret r =>
        obtain ⟨z, H', I2, rv, b, e, hq2⟩ := I.after hq
        subst e
        cases (show r = Value.bool b from rv)
        exact ⟨b, rfl, ⟨.bl (!b), H', I2, rfl, hq2⟩⟩
      | next => exact False.elim hq
      | brk => exact False.elim hq
      | cont => exact False.elim hq
  rcases ht with ⟨t, ht, hn⟩ | ⟨b, C', dy, ws, rfl, hb, hn⟩
  · obtain ⟨P, hk, hP, _⟩ := kit_of I ry ht
    exact ne_K hu hF I.ok.mod.kin J (hk.ty _ _ I.kIn hP) hn c call
  · cases (show u = Value.ref b from ry)
    obtain ⟨sl', od', _, J', _⟩ := SlX.slt_inst I hb
    exact ne_K hu hF I.ok.mod.kin J J'.type hn c call
end
section
variable {X : Cx} {cl : Nat → Addr} {E : XK}
def notB (d : D) (S : Store) : Res D := match d with
  | .bl b => .ok (.bl (!b)) S
  | _ => .no
/-- !=, the left one may be an instance of the class c -/
def opOwnN (c : Nat) (g : List D → Store → Res D) (f : D → D → Store → Res D) : D → D → Store → Res D := fun a b S => if isObj c a then (if isObj c b || isOk S b then (g [a, b] S).bind notB else .no) else f a b S
theorem neO {g fm : List D → Store → Res D} {f : D → D → Store → Res D} {k c : Nat} {fa : Addr} (hc : NeC X.K (cl c) fa)
    (F : FnR X.prog X.w X.K X.mg X.base CX0 k fa (spM ⟨X.K, cl⟩ fm)) (hr : Room (k + 1) X.A) (hf : SndC ⟨X.K, cl⟩ E (fun vs H Q => spM ⟨X.K, cl⟩ fm vs H Q E0) g) (hn : PySem.W.notFirst X.K (cl c) (.ref (cl c)) = true) (hn2 : ∀ (S : Store) d, isOk S d = true → PySem.W.notFirst X.K (cl c) (.type (tyN d)) = true)
    (h0 : QR X cl E (compareOp .NotEq) f) : QR X cl E (compareOp .NotEq) (opOwnN c g f) := by
  have hu : X.A.units + 1 < cLine := by have := hr.un; omega
  obtain ⟨r, h1, h2⟩ := h0.ex
  refine ⟨_, OpR.or (op_neX (E := E0) hc F hr hu fun _ _ _ _ z => z) h1, fun a b S α G H x y Q hR ra rb h => ?_⟩
  unfold opOwnN at h
  split at h
  · rename_i ha
    obtain ⟨p, dx, vs, rfl, hsl⟩ := obj_at hR ha ra
    split at h
    · rename_i hb
      have call : spM ⟨X.K, cl⟩ fm [.ref p, y] H (notQ Q) E0 := hf [a, b] S α G H [.ref p, y] _ hR (by unfold RepL; exact ⟨_, _, rfl, ra, by unfold RepL; exact ⟨_, _, rfl, rb, by simp [RepL]⟩⟩) (post_bind h fun d S1 α1 G1 H1 v _ e1 R1 r1 hp1 => by
        cases d <;> try exact hp1.elim
        rename_i b _
        simp only [Rep] at r1
        exact ⟨b, r1, post_ok (x := V.bl (!b)) hp1 R1 (by simp [Rep])⟩)
      refine .inl ⟨p, dx, vs, rfl, hsl, ?_, call⟩
      cases hc : isObj c b with
      | true =>
        obtain ⟨p2, dy, ws, rfl, hsl2⟩ := obj_at hR hc rb
        exact .inr ⟨p2, cl c, dy, ws, rfl, hsl2, hn⟩
      | false =>
        rw [hc, Bool.false_or] at hb
        exact .inl ⟨.type (tyN b), tyx_at hR rb hb, hn2 S b hb⟩
    · exact h.elim
  · exact .inr (h2 a b S α G H x y Q hR ra rb h)
end
section
open PySem.Spec PyProof.Rows
variable {X : Cx} {cl : Nat → Addr} {E : XK} {pos : Pos} {o e : Expr} {es : List Expr} {mo : ME} {n : MA}
theorem q_callO {g fm : List D → Store → Res D} {k c : Nat} {fa : Addr} (ho : QE X cl E o mo) (hc : StX.CallO X.K (cl c) fa) (F : FnR X.prog X.w X.K X.mg X.base CX0 k fa (spM ⟨X.K, cl⟩ fm)) (hr : Room k X.A) (ha : QA X cl E (e :: es) n) (hf : SndC ⟨X.K, cl⟩ E (fun vs H Q => spM ⟨X.K, cl⟩ fm vs H Q E0) g)
    (ht : eval (.Call o (e :: es) [] pos) X.env = (do callWith pos (← eval o X.env) [] (backTo pos (starEach (e :: es) X.env)) (backToKw pos (keywordEach [] X.env))) := by rfl)
    (he : starEach (e :: es) X.env = (false, eval e X.env) :: starEach es X.env := by rfl) (hpl : (backTo pos (starEach es X.env)).any (·.1) = false := by rfl) : QE X cl E (.Call o (e :: es) [] pos) (mMeth c g mo n) := by
  obtain ⟨t, h1, h2⟩ := ho.ex
  obtain ⟨u, k1, k2⟩ := ha.ex
  refine ⟨_, StX.pe_callO h1 hc F hr pass0 k1 ht he hpl, fun ρ S σ α G H Q hρ hR hp => h2 ρ S σ α G H _ hρ hR (post_bind hp fun d S1 α1 G1 H1 v _ e1 R1 r1 hp1 => ?_)⟩
  split at hp1
  · rename_i hi
    obtain ⟨a, dx, vs, rfl, hs⟩ := obj_at R1 hi r1
    refine ⟨a, rfl, k2 ρ S1 σ α1 G1 H1 _ (hρ.mono e1) R1 (post_bind hp1 fun ds S2 α2 G2 H2 ws _ e2 R2 r2 hp2 => ?_)⟩
    have r1' := Rep.mono e2.pre e2.sub _ _ r1
    obtain ⟨a', dx', vs', e', hs'⟩ := obj_at R2 hi r1'
    cases e'
    exact ⟨.inl ⟨dx', vs', hs'⟩, hf (d :: ds) S2 α2 G2 H2 (.ref a :: ws) Q R2 (by unfold RepL; exact ⟨.ref a, ws, rfl, r1', r2⟩) hp2⟩
  · exact hp1.elim
def tCallOK (X : Cx) (C : Addr) (j : Nat) (sp : Sp) (gV : List V → List V → List V) (E : XK) (tf : TE) (tk : TA) : TE := fun σ H Q => tf σ H fun y H1 => ∃ a, y = V.ref a ∧ tk σ H1 fun zs H2 => StX.InsC X H2 a C ∧ zs.length = j ∧ sp (gV [y] zs) H2 Q E
theorem callO_kw {M : Model} {A : Around} {E : Value → Shared → Prop} {s : Shared} {a : Addr} {pos : Pos} {env : PySem.Env} {Q : Value → Shared → Prop} {kws : List Keyword} (hall : (backToKw pos (keywordEach kws env)).all (·.1.isSome) = true)
    (h : wpAny M A (evalAll ((backToKw pos (keywordEach kws env)).map (·.2))) (fun ks s₁ => (∃ C ox od, PySem.W.InstAt s₁.heap a ox C od ∧ ox.data = .plain) ∧ wpAny M A (call (.ref a) ([] ++ []) (((backToKw pos (keywordEach kws env)).filterMap (·.1)).zip ks)) Q E s₁) E s)
    (hpl : ((backTo pos (starEach [] env)).any (·.1) || (backToKw pos (keywordEach kws env)).any (·.1.isNone)) = false) : wpAny M A (callWith pos (.ref a) [] (backTo pos (starEach [] env)) (backToKw pos (keywordEach kws env))) Q E s := by
  unfold callWith
  refine wpAny_bind (wpAny_holding (wpAny_mono (evalArgs_kw2_nil (Q := fun z s₁ => (∃ C ox od, PySem.W.InstAt s₁.heap a ox C od ∧ ox.data = .plain) ∧ wpAny M A (call (.ref a) ([] ++ z.pos) z.kw) Q E s₁) hall h) (fun z s₁ h₁ => wpAny_bind (wpAny_standAt ?_)) fun _ _ y => y))
  obtain ⟨⟨C, ox, od, J, hd⟩, h₁⟩ := h₁
  have L := PySem.W.kco_keeper (M := M) J hd
  simp only [hpl]
  refine wpAny_bind (L.here ?_)
  have tail : ∀ {t : Sem Value}, wpAny M A t Q E s₁ → wpAny M A (t >>= fun r => holding [r] point >>= fun _ => pure r) Q E s₁ :=
    fun ht => wpAny_bind (wpAny_mono ht (fun r s₂ hr => wpAny_bind (wpAny_holding (wpAny_point (wpAny_pure hr)))) fun _ _ y => y)
  exact tail (wpAny_operateT h₁)
/-- o(k=e, ..) -/
theorem q_callOK {g fm : List D → Store → Res D} {k c j : Nat} {idx : List Nat} {fa : Addr} {fd : FuncData} {ps ks : List Str} {kws : List Keyword} {nk : MA} (ho : QE X cl E o mo) (hc : StX.CallO X.K (cl c) fa) (F : FnOk X.prog X.w X.K X.mg X.base CX0 k fa fd ps (spM ⟨X.K, cl⟩ fm)) (hr : Room k X.A)
    (hb : KBn X.K fd ps 1 ks (fun us ws => place idx (us ++ ws)) (fun us ws => place idx (us ++ ws))) (hkw : QK X cl E kws nk) (hf : SndC ⟨X.K, cl⟩ E (fun vs H Q => spM ⟨X.K, cl⟩ fm vs H Q E0) g)
    (hall : (backToKw pos (keywordEach kws X.env)).all (·.1.isSome) = true := by rfl) (hks : (backToKw pos (keywordEach kws X.env)).filterMap (·.1) = ks := by rfl)
    (hpl : ((backTo pos (starEach [] X.env)).any (·.1) || (backToKw pos (keywordEach kws X.env)).any (·.1.isNone)) = false := by rfl) (hj : ks.length = j := by rfl)
    (ht : eval (.Call o [] kws pos) X.env = (do callWith pos (← eval o X.env) [] (backTo pos (starEach [] X.env)) (backToKw pos (keywordEach kws X.env))) := by rfl) :
    QE X cl E (.Call o [] kws pos) (mMethK c g j idx mo nk) := by
  subst hj
  obtain ⟨t, h1, h2⟩ := ho.ex
  obtain ⟨u, k1, k2⟩ := hkw.ex
  have pe : PE X (.Call o [] kws pos) (tCallOK X (cl c) ks.length (spM ⟨X.K, cl⟩ fm) (fun us ws => place idx (us ++ ws)) E0 t u) := by
    refine ⟨fun pins s σ H Q I h => ?_⟩
    rw [ht]
    refine wpAny_bind (thn (h1.run pins s σ H _ I h) fun u1 s1 ⟨y, H1, I1, ry, a, ey, q⟩ => ?_)
    subst ey
    obtain rfl : u1 = Value.ref a := ry
    refine callO_kw hall (thn (k1.run pos pins s1 σ H1 _ I1 q) fun ws s2 ⟨zs, H2, I2, rz, hi, hl, q2⟩ => ?_) hpl
    obtain ⟨ox, od, J, hd⟩ := StX.insC_at I2 hi
    refine ⟨⟨cl c, ox, od, J, hd⟩, ?_⟩
    rw [hks]
    refine wpAny_call (PySem.W.kco_code I2.kIn J hd hc.at_ hc.fn hc.fi ?_)
    have rr := hb.rel (.cons (show RelV (.ref a) (.ref a) from rfl) .nil) rz
    refine codeAny_mono (F.run X.A X.stack s2 H2 ⟨[.ref a], ks.zip ws⟩ (place idx ([.ref a] ++ ws)) (place idx ([.ref a] ++ zs)) Q E0 hr I2.env0 (hb.to s2 [.ref a] ws I2.kIn rfl (rz.length.symm.trans hl)) rr q2) fun r s' hq => ?_
    cases r with
    | error e => exact pass0 pins σ H2 s2 e s' I2 hq
    | ok fl =>
      cases fl with
      | ret u => exact I2.after hq
      | next => exact False.elim hq
      | brk => exact False.elim hq
      | cont => exact False.elim hq
  refine ⟨_, pe, fun ρ S σ α G H Q hρ hR hp => h2 ρ S σ α G H _ hρ hR (post_bind hp fun d S1 α1 G1 H1 v _ e1 R1 r1 hp1 => ?_)⟩
  split at hp1
  · rename_i hi
    obtain ⟨a, dx, vs, rfl, hs⟩ := obj_at R1 hi r1
    refine ⟨a, rfl, k2 ρ S1 σ α1 G1 H1 _ (hρ.mono e1) R1 (post_bind hp1 fun zs S2 α2 G2 H2 ws _ e2 R2 r2 hp2 => ?_)⟩
    split at hp2
    · rename_i hl
      have r1' := Rep.mono e2.pre e2.sub _ _ r1
      obtain ⟨a', dx', vs', e', hs'⟩ := obj_at R2 hi r1'
      cases e'
      exact ⟨.inl ⟨dx', vs', hs'⟩, by rw [← r2.length]; exact hl, hf (place idx (d :: zs)) S2 α2 G2 H2 (place idx (.ref a :: ws)) Q R2 (place_rep (by unfold RepL; exact ⟨.ref a, ws, rfl, r1', r2⟩) idx) hp2⟩
    · exact hp2.elim
  · exact hp1.elim
end
structure StaC (K : PySem.W.Frag) (C : Addr) (m : Str) (g : Addr) : Prop where
  rd : PySem.W.readsIn K C (.type "type") = true
  ga : PySem.W.specialIn K (.ref C) "__getattribute__" = some (some (.builtin "type.__getattribute__"))
  at_ : ∃ p, PySem.W.findCls K (.ref C) (.type "type") m = some (.get (.builtin "staticmethod.__get__") (.ref p) .none (.ref C)) ∧ ∃ rest, PySem.W.recIn K p "staticmethod" = some (.ref g :: rest)
  kp : PySem.W.keepIn K (.ref g) = true
section
open PySem.Spec PyProof.Rows
variable {X : Cx} {cl : Nat → Addr} {E : XK} {pos apos p : Pos} {x : Str} {e : Expr} {es : List Expr} {f : Str} {n : MA}
theorem getsta_ok {A : Around} {EE : Value → Shared → Prop} {pins : List (Addr × Obj)} {σ : L2.St} {H : Hp} {s : Shared} {C g : Addr} {m : Str} {pl : Sem Bool} {Q : Value × List Value → Shared → Prop} (I : Inv X pins σ H s) (k : StaC X.K C m g)
    (h : ∀ s', Inv X pins σ H s' → Q (.ref g, []) s') : wpAny (model X.prog X.w) A (getMethod (.ref C) m pl) Q EE s := by
  obtain ⟨p, hp, rest, hr⟩ := k.at_
  refine PySem.W.method_cls I.kIn k.ga ?_
  refine PySem.W.cls_bind I.kIn k.rd hp ?_
  refine wpAny_call (PySem.W.sm_get (s := { s with toks := s.toks + 1 }) I.kIn hr (PySem.W.handed_on rfl ?_))
  exact h _ (I.tok _)
theorem q_sta {g fm : List D → Store → Res D} {k c : Nat} {fa : Addr} {pl : Sem Bool} (hg : Gl X x) (hm : X.mg x = some (.ref (cl c))) (hc : StaC X.K (cl c) f fa) (F : FnR X.prog X.w X.K X.mg X.base CX0 k fa (spM ⟨X.K, cl⟩ fm)) (hr : Room k X.A)
    (ha : QA X cl E (e :: es) n) (hf : SndC ⟨X.K, cl⟩ E (fun vs H Q => spM ⟨X.K, cl⟩ fm vs H Q E0) g) (hdb : (x == ("__debug__" : Str)) = false := by decide)
    (hst : starEach (e :: es) X.env = (false, eval e X.env) :: starEach es X.env := by rfl) (hpl : (backTo pos (starEach es X.env)).any (·.1) = false := by rfl)
    (ht : eval (.Call (.Attribute (.Name x p) f apos) (e :: es) [] pos) X.env = (do
      let ov ← eval (.Name x p) X.env
      standAt apos.atName
      let (f, first) ← holding [ov] (getMethod ov f pl)
      callWith pos f first (backTo pos (starEach (e :: es) X.env)) (backToKw pos (keywordEach [] X.env))) := by rfl) :
    QE X cl E (.Call (.Attribute (.Name x p) f apos) (e :: es) [] pos) (mCall g n) := by
  obtain ⟨u, k1, k2⟩ := ha.ex
  have he := pe_glob (pos := p) (v := .ref (cl c)) hg hm rfl hdb
  have pe : PE X (.Call (.Attribute (.Name x p) f apos) (e :: es) [] pos) (tCB (fun vs H Q => spM ⟨X.K, cl⟩ fm vs H Q E0) u) := by
    refine ⟨fun pins s σ H Q I h => ?_⟩
    refine PySem.W.methodCall_KW (pl := pl) (thn (he.run pins s σ H (fun v H' => v = .ref (cl c) ∧ H' = H) I ⟨rfl, rfl⟩) fun u s1 ⟨x, H1, I1, rx, ex, eH⟩ => ?_) ht
    subst ex eH
    obtain rfl : u = Value.ref (cl c) := rx
    refine getsta_ok I1 hc fun s2 I2 => ?_
    refine PySem.W.callWith_K (h₀ := X.base) (first := []) I2.ok.mod.kin hc.kp (thn (k1.run pos _ s2 σ _ _ I2 h) fun us s3 ⟨vs, H2, I3, rv, q2⟩ => ⟨I3.kIn, ?_⟩) hst hpl
    exact wpAny_call (run_fnR (us := us) (vs := vs) F hr pass0 I3 rv q2)
  exact ⟨_, pe, snd_cb hf k2⟩
theorem q_staK {g fm : List D → Store → Res D} {k c j : Nat} {idx : List Nat} {fa : Addr} {fd : FuncData} {ps ks : List Str} {kws : List Keyword} {nk : MA} {pl : Sem Bool} (hg : Gl X x) (hm : X.mg x = some (.ref (cl c))) (hc : StaC X.K (cl c) f fa) (F : FnOk X.prog X.w X.K X.mg X.base CX0 k fa fd ps (spM ⟨X.K, cl⟩ fm)) (hr : Room k X.A)
    (hb : KBn X.K fd ps 0 ks (fun us ws => place idx (us ++ ws)) (fun us ws => place idx (us ++ ws))) (hkw : QK X cl E kws nk) (hf : SndC ⟨X.K, cl⟩ E (fun vs H Q => spM ⟨X.K, cl⟩ fm vs H Q E0) g) (hdb : (x == ("__debug__" : Str)) = false := by decide)
    (hall : (backToKw pos (keywordEach kws X.env)).all (·.1.isSome) = true := by rfl) (hks : (backToKw pos (keywordEach kws X.env)).filterMap (·.1) = ks := by rfl)
    (hpl : ((backTo pos (starEach [] X.env)).any (·.1) || (backToKw pos (keywordEach kws X.env)).any (·.1.isNone)) = false := by rfl) (hj : ks.length = j := by rfl)
    (ht : eval (.Call (.Attribute (.Name x p) f apos) [] kws pos) X.env = (do
      let ov ← eval (.Name x p) X.env
      standAt apos.atName
      let (f, first) ← holding [ov] (getMethod ov f pl)
      callWith pos f first (backTo pos (starEach [] X.env)) (backToKw pos (keywordEach kws X.env))) := by rfl) :
    QE X cl E (.Call (.Attribute (.Name x p) f apos) [] kws pos) (mCallK g 0 j idx mNil nk) := by
  subst hj
  obtain ⟨u, k1, k2⟩ := hkw.ex
  have he := pe_glob (pos := p) (v := .ref (cl c)) hg hm rfl hdb
  have pe : PE X (.Call (.Attribute (.Name x p) f apos) [] kws pos) (tCallN 0 ks.length (spM ⟨X.K, cl⟩ fm) (fun us ws => place idx (us ++ ws)) E0 tNil u) := by
    refine ⟨fun pins s σ H Q I h => ?_⟩
    refine PySem.W.methodCall_KW (pl := pl) (thn (he.run pins s σ H (fun v H' => v = .ref (cl c) ∧ H' = H) I ⟨rfl, rfl⟩) fun u s1 ⟨x, H1, I1, rx, ex, eH⟩ => ?_) ht
    subst ex eH
    obtain rfl : u = Value.ref (cl c) := rx
    refine getsta_ok I1 hc fun s2 I2 => ?_
    refine PySem.W.callWith_KW0 (h₀ := X.base) (first := []) I2.ok.mod.kin hc.kp hall ?_ hpl
    refine thn (k1.run pos pins s2 σ _ _ I2 h) fun ws s3 ⟨zs, H2, I3, rz, l1, l2, q2⟩ => ⟨I3.kIn, ?_⟩
    rw [hks]
    exact run_fnN F hr hb pass0 I3 .nil rz l1 l2 q2
  exact ⟨_, pe, snd_callK hf snd_nil k2⟩
end
section
variable {P : Program} {w : World} {K : PySem.W.Frag} {mg : Str → Option Value} {base : Heap} {CX : CXT} {k : Nat} {f : Addr} {sp : Sp} {fd : FuncData} {ps : List Str}
theorem raw0 (F : FnOk P w K mg base CX k f fd ps sp) (hb : Binds K fd ps []) : FnR P w K mg base CX k f sp := (F.raw hb .nil).imp fun vs H Q E h => by rw [List.append_nil]; exact h
end
/-- the j-th statement of a class -/
def clsAt (st : Stmt) (j : Nat) : Stmt := match st with
  | .ClassDef _ _ _ body _ _ _ _ _ _ _ => body.getD j (.Pass ⟨0, 0, 0, 0⟩)
  | _ => .Pass ⟨0, 0, 0, 0⟩
end Q
namespace Q
open PySem L2
def Res.Sat {β : Type} (r : Res β) (P : β → Store → Prop) : Prop := match r with
  | .ok a S => P a S
  | _ => False
section
variable {β γ δ : Type} {P : β → Store → Prop} {Q : γ → Store → Prop}
@[simp] theorem sat_ok (a : β) (S : Store) : (Res.ok a S).Sat P = P a S := rfl
@[simp] theorem sat_no : (Res.no : Res β).Sat P = False := rfl
@[simp] theorem sat_ex (e : Exn) (S : Store) : (Res.ex e S : Res β).Sat P = False := rfl
theorem sat_step {r : Res γ} {K : γ → Store → Res β} (h : r.Sat Q) (k : ∀ a S, Q a S → (K a S).Sat P) : (r.bind K).Sat P := by
  cases r with
  | ok a S => exact k a S h
  | ex e S => exact h.elim
  | no => exact h.elim
theorem Res.Sat.mono {r : Res β} {P' : β → Store → Prop} (h : r.Sat P) (k : ∀ a S, P a S → P' a S) : r.Sat P' := by
  cases r with
  | ok a S => exact k a S h
  | ex e S => exact h.elim
  | no => exact h.elim
theorem sat_eq {r : Res β} (h : r.Sat P) : ∃ a S, r = .ok a S ∧ P a S := by
  cases r with
  | ok a S => exact ⟨a, S, rfl, h⟩
  | ex e S => exact h.elim
  | no => exact h.elim
theorem sat_of {r : Res β} {a : β} {S : Store} (e : r = .ok a S) (h : P a S) : r.Sat P := by rw [e]; exact h
def compK (k1 : β → Store → Res γ) (k2 : γ → Store → Res δ) : β → Store → Res δ := fun a S => (k1 a S).bind k2
@[simp] theorem compK_ap (k1 : β → Store → Res γ) (k2 : γ → Store → Res δ) (a : β) (S : Store) : compK k1 k2 a S = (k1 a S).bind k2 := rfl
@[simp] theorem bind_flat (r : Res β) (k1 : β → Store → Res γ) (k2 : γ → Store → Res δ) : (r.bind k1).bind k2 = r.bind (compK k1 k2) := by cases r <;> rfl
@[simp] theorem nox_sat (r : Res β) : (nox r).Sat P = r.Sat P := by cases r <;> rfl
@[simp] theorem nox_bind_sat (r : Res γ) (K : γ → Store → Res β) : ((nox r).bind K).Sat P = (r.bind K).Sat P := by cases r <;> rfl
end
section
variable {ρ : Env} {S : Store}
def varK (o : Option (Option D)) (S : Store) : Res D := match o with | some (some d) => .ok d S | _ => .no
@[simp] theorem varK_some (d : D) : varK (some (some d)) S = .ok d S := rfl
@[simp] theorem ap_var (i : Nat) : mVar i ρ S = varK ρ[i]? S := rfl
@[simp] theorem ap_c (d : D) : mC d ρ S = .ok d S := rfl
def opK (f : D → D → Store → Res D) (mb : ME) (ρ : Env) : D → Store → Res D := fun x S1 => (mb ρ S1).bind (f x)
@[simp] theorem opK_ap (f : D → D → Store → Res D) (mb : ME) (x : D) : opK f mb ρ x S = (mb ρ S).bind (f x) := rfl
@[simp] theorem ap_op (f : D → D → Store → Res D) (ma mb : ME) : mOp f ma mb ρ S = (ma ρ S).bind (opK f mb ρ) := rfl
def tstK (d : D) (S : Store) : Res Bool := oRes (truth S d) S
@[simp] theorem tstK_ap (d : D) : tstK d S = oRes (truth S d) S := rfl
@[simp] theorem ap_test (m : ME) : mTest m ρ S = (m ρ S).bind tstK := rfl
def asB (d : D) (S : Store) : Res Bool := match d with | .bl b => .ok b S | _ => .no
@[simp] theorem asB_bl (b : Bool) : asB (.bl b) S = .ok b S := rfl
@[simp] theorem ap_tb (m : ME) : mTB m ρ S = (m ρ S).bind asB := rfl
def notK (b : Bool) (S : Store) : Res Bool := .ok (!b) S
@[simp] theorem notK_ap (b : Bool) : notK b S = .ok (!b) S := rfl
@[simp] theorem ap_notT (m : MT) : mNotT m ρ S = (m ρ S).bind notK := rfl
def br {β : Type} (b : Bool) (x y : β) : β := match b with | true => x | false => y
@[simp] theorem br_t {β : Type} (x y : β) : br true x y = x := rfl
@[simp] theorem br_f {β : Type} (x y : β) : br false x y = y := rfl
theorem br_congr {β : Type} {b b' : Bool} (x y : β) (h : b = b') : br b x y = br b' x y := by rw [h]
def andK (n : MT) (ρ : Env) (b : Bool) (S : Store) : Res Bool := br b (n ρ S) (.ok false S)
def orK (n : MT) (ρ : Env) (b : Bool) (S : Store) : Res Bool := br b (.ok true S) (n ρ S)
@[simp] theorem andK_t (n : MT) : andK n ρ true S = n ρ S := rfl
@[simp] theorem andK_f (n : MT) : andK n ρ false S = .ok false S := rfl
@[simp] theorem orK_t (n : MT) : orK n ρ true S = .ok true S := rfl
@[simp] theorem orK_f (n : MT) : orK n ρ false S = n ρ S := rfl
@[simp] theorem ap_andT (m n : MT) : mAndT m n ρ S = (m ρ S).bind (andK n ρ) := rfl
@[simp] theorem ap_orT (m n : MT) : mOrT m n ρ S = (m ρ S).bind (orK n ρ) := rfl
def andVK2 (n : ME) (ρ : Env) (d : D) (b : Bool) (S : Store) : Res D := br b (n ρ S) (.ok d S)
def orVK2 (n : ME) (ρ : Env) (d : D) (b : Bool) (S : Store) : Res D := br b (.ok d S) (n ρ S)
def andVK (n : ME) (ρ : Env) (d : D) (S : Store) : Res D := (oRes (truth S d) S).bind (andVK2 n ρ d)
def orVK (n : ME) (ρ : Env) (d : D) (S : Store) : Res D := (oRes (truth S d) S).bind (orVK2 n ρ d)
@[simp] theorem andVK2_t (n : ME) (d : D) : andVK2 n ρ d true S = n ρ S := rfl
@[simp] theorem andVK2_f (n : ME) (d : D) : andVK2 n ρ d false S = .ok d S := rfl
@[simp] theorem orVK2_t (n : ME) (d : D) : orVK2 n ρ d true S = .ok d S := rfl
@[simp] theorem orVK2_f (n : ME) (d : D) : orVK2 n ρ d false S = n ρ S := rfl
@[simp] theorem andVK_ap (n : ME) (d : D) : andVK n ρ d S = (oRes (truth S d) S).bind (andVK2 n ρ d) := rfl
@[simp] theorem orVK_ap (n : ME) (d : D) : orVK n ρ d S = (oRes (truth S d) S).bind (orVK2 n ρ d) := rfl
@[simp] theorem ap_andV (m n : ME) : mAndV m n ρ S = (m ρ S).bind (andVK n ρ) := rfl
@[simp] theorem ap_orV (m n : ME) : mOrV m n ρ S = (m ρ S).bind (orVK n ρ) := rfl
def notVK2 (b : Bool) (S : Store) : Res D := .ok (.bl (!b)) S
@[simp] theorem notVK2_ap (b : Bool) : notVK2 b S = .ok (.bl (!b)) S := rfl
def notVK (d : D) (S : Store) : Res D := (oRes (truth S d) S).bind notVK2
@[simp] theorem notVK_ap (d : D) : notVK d S = (oRes (truth S d) S).bind notVK2 := rfl
@[simp] theorem ap_notV (m : ME) : mNotV m ρ S = (m ρ S).bind notVK := rfl
def ifEK (m n : ME) (ρ : Env) (b : Bool) (S : Store) : Res D := br b (m ρ S) (n ρ S)
@[simp] theorem ifEK_t (m n : ME) : ifEK m n ρ true S = m ρ S := rfl
@[simp] theorem ifEK_f (m n : ME) : ifEK m n ρ false S = n ρ S := rfl
@[simp] theorem ap_ifE (t : MT) (m n : ME) : mIfE t m n ρ S = (t ρ S).bind (ifEK m n ρ) := rfl
def isNK (d : D) (S : Store) : Res D := .ok (.bl (isNon d)) S
def notNK (d : D) (S : Store) : Res D := .ok (.bl (!isNon d)) S
@[simp] theorem isNK_ap (d : D) : isNK d S = .ok (.bl (isNon d)) S := rfl
@[simp] theorem notNK_ap (d : D) : notNK d S = .ok (.bl (!isNon d)) S := rfl
@[simp] theorem ap_isN (m : ME) : mIsN m ρ S = (m ρ S).bind isNK := rfl
@[simp] theorem ap_notN (m : ME) : mNotN m ρ S = (m ρ S).bind notNK := rfl
@[simp] theorem ap_nil : mNil ρ S = .ok [] S := rfl
def consK2 (d : D) (ds : List D) (S : Store) : Res (List D) := .ok (d :: ds) S
@[simp] theorem consK2_ap (d : D) (ds : List D) : consK2 d ds S = .ok (d :: ds) S := rfl
def consK (n : MA) (ρ : Env) (d : D) (S : Store) : Res (List D) := (n ρ S).bind (consK2 d)
@[simp] theorem consK_ap (n : MA) (d : D) : consK n ρ d S = (n ρ S).bind (consK2 d) := rfl
@[simp] theorem ap_cons (m : ME) (n : MA) : mCons m n ρ S = (m ρ S).bind (consK n ρ) := rfl
def tupK (ds : List D) (S : Store) : Res D := if ds.length ≤ 100000 then .ok (.tup ds) S else .no
def lstK (ds : List D) (S : Store) : Res D := if ds.length ≤ 100000 then .ok (.lst ds) S else .no
def cellK (ds : List D) (S : Store) : Res D := if ds.length ≤ 100000 then .ok (.ref S.length) (S ++ [.lst ds]) else .no
@[simp] theorem tupK_ap (ds : List D) : tupK ds S = if ds.length ≤ 100000 then .ok (.tup ds) S else .no := rfl
@[simp] theorem lstK_ap (ds : List D) : lstK ds S = if ds.length ≤ 100000 then .ok (.lst ds) S else .no := rfl
@[simp] theorem cellK_ap (ds : List D) : cellK ds S = if ds.length ≤ 100000 then .ok (.ref S.length) (S ++ [.lst ds]) else .no := rfl
@[simp] theorem ap_tup (n : MA) : mTup n ρ S = (n ρ S).bind tupK := rfl
@[simp] theorem ap_lst (n : MA) : mLst n ρ S = (n ρ S).bind lstK := rfl
@[simp] theorem ap_cell (n : MA) : mCell n ρ S = (n ρ S).bind cellK := rfl
@[simp] theorem ap_frz (m : ME) : mFrz m ρ S = (m ρ S).bind fz := rfl
@[simp] theorem fz_int (i : Int) : fz (.int i) S = .ok (.int i) S := rfl
@[simp] theorem fz_bl (i : Bool) : fz (.bl i) S = .ok (.bl i) S := rfl
@[simp] theorem fz_tup (i : List D) : fz (.tup i) S = .ok (.tup i) S := rfl
@[simp] theorem fz_lst (i : List D) : fz (.lst i) S = .ok (.lst i) S := rfl
@[simp] theorem fz_non : fz .non S = .ok .non S := rfl
theorem fz_ref {k : Nat} {xs : List D} (h : S[k]? = some (.lst xs)) : fz (.ref k) S = .ok (.lst xs) (S.set k (.frz xs)) := by simp [fz, h]
def slK (d : D) (lo hi : Option Int) (S : Store) : Res D := opSl d lo hi S
@[simp] theorem slK_ap (d : D) (lo hi : Option Int) : slK d lo hi S = opSl d lo hi S := rfl
def slK2 (h : MO) (ρ : Env) (d : D) (lo : Option Int) (S : Store) : Res D := (h ρ S).bind (slK d lo)
@[simp] theorem slK2_ap (h : MO) (d : D) (lo : Option Int) : slK2 h ρ d lo S = (h ρ S).bind (slK d lo) := rfl
def slK1 (l h : MO) (ρ : Env) (d : D) (S : Store) : Res D := (l ρ S).bind (slK2 h ρ d)
@[simp] theorem slK1_ap (l h : MO) (d : D) : slK1 l h ρ d S = (l ρ S).bind (slK2 h ρ d) := rfl
@[simp] theorem ap_sl (m : ME) (l h : MO) : mSl m l h ρ S = (m ρ S).bind (slK1 l h ρ) := rfl
@[simp] theorem ap_noO : mNoO ρ S = .ok none S := rfl
def asI (d : D) (S : Store) : Res (Option Int) := match d with | .int i => .ok (some i) S | _ => .no
@[simp] theorem asI_int (i : Int) : asI (.int i) S = .ok (some i) S := rfl
@[simp] theorem ap_soO (m : ME) : mSoO m ρ S = (m ρ S).bind asI := rfl
def negD (d : D) (S : Store) : Res D := match d with | .int i => .ok (.int (-i)) S | _ => .no
@[simp] theorem negD_int (i : Int) : negD (.int i) S = .ok (.int (-i)) S := rfl
@[simp] theorem ap_neg (m : ME) : mNeg m ρ S = (m ρ S).bind negD := rfl
@[simp] theorem ap_call (f : List D → Store → Res D) (n : MA) : mCall f n ρ S = (n ρ S).bind f := rfl
def ckK2 (g : List D → Store → Res D) (i j : Nat) (idx : List Nat) (ds zs : List D) (S : Store) : Res D := if ds.length = i ∧ zs.length = j then g (place idx (ds ++ zs)) S else .no
@[simp] theorem ckK2_ap (g : List D → Store → Res D) (i j : Nat) (idx : List Nat) (ds zs : List D) : ckK2 g i j idx ds zs S = if ds.length = i ∧ zs.length = j then g (place idx (ds ++ zs)) S else .no := rfl
def ckK (g : List D → Store → Res D) (i j : Nat) (idx : List Nat) (nk : MA) (ρ : Env) (ds : List D) (S : Store) : Res D := (nk ρ S).bind (ckK2 g i j idx ds)
@[simp] theorem ckK_ap (g : List D → Store → Res D) (i j : Nat) (idx : List Nat) (nk : MA) (ds : List D) : ckK g i j idx nk ρ ds S = (nk ρ S).bind (ckK2 g i j idx ds) := rfl
@[simp] theorem ap_callK (g : List D → Store → Res D) (i j : Nat) (idx : List Nat) (n nk : MA) : mCallK g i j idx n nk ρ S = (n ρ S).bind (ckK g i j idx nk ρ) := rfl
def isiK (T : Ty) (d : D) (S : Store) : Res D := if isOk S d then .ok (.bl (isTy T d)) S else .no
def isiK2 (T U : Ty) (d : D) (S : Store) : Res D := if isOk S d then .ok (.bl (isTy T d || isTy U d)) S else .no
@[simp] theorem isiK_ap (T : Ty) (d : D) : isiK T d S = if isOk S d then .ok (.bl (isTy T d)) S else .no := rfl
@[simp] theorem isiK2_ap (T U : Ty) (d : D) : isiK2 T U d S = if isOk S d then .ok (.bl (isTy T d || isTy U d)) S else .no := rfl
@[simp] theorem ap_isi (T : Ty) (m : ME) : mIsi T m ρ S = (m ρ S).bind (isiK T) := rfl
@[simp] theorem ap_isi2 (T U : Ty) (m : ME) : mIsi2 T U m ρ S = (m ρ S).bind (isiK2 T U) := rfl
def chK3 (f' : D → D → Store → Res D) (mc : ME) (ρ : Env) (y z : D) (S : Store) : Res D := match z with
  | .bl true => (mc ρ S).bind (f' y)
  | .bl false => .ok (.bl false) S
  | _ => .no
@[simp] theorem chK3_t (f' : D → D → Store → Res D) (mc : ME) (y : D) : chK3 f' mc ρ y (.bl true) S = (mc ρ S).bind (f' y) := rfl
@[simp] theorem chK3_f (f' : D → D → Store → Res D) (mc : ME) (y : D) : chK3 f' mc ρ y (.bl false) S = .ok (.bl false) S := rfl
def chK2 (f f' : D → D → Store → Res D) (mc : ME) (ρ : Env) (x y : D) (S : Store) : Res D := (f x y S).bind (chK3 f' mc ρ y)
@[simp] theorem chK2_ap (f f' : D → D → Store → Res D) (mc : ME) (x y : D) : chK2 f f' mc ρ x y S = (f x y S).bind (chK3 f' mc ρ y) := rfl
def chK1 (f f' : D → D → Store → Res D) (mb mc : ME) (ρ : Env) (x : D) (S : Store) : Res D := (mb ρ S).bind (chK2 f f' mc ρ x)
@[simp] theorem chK1_ap (f f' : D → D → Store → Res D) (mb mc : ME) (x : D) : chK1 f f' mb mc ρ x S = (mb ρ S).bind (chK2 f f' mc ρ x) := rfl
@[simp] theorem ap_chain (f f' : D → D → Store → Res D) (ma mb mc : ME) : mChain f f' ma mb mc ρ S = (ma ρ S).bind (chK1 f f' mb mc ρ) := rfl
-- statements
@[simp] theorem ap_skip : mSkip ρ S = .ok (.nx ρ) S := rfl
def seqK (n' : MS) (f : Fl) (S : Store) : Res Fl := match f with | .nx ρ1 => n' ρ1 S | f => .ok f S
@[simp] theorem seqK_nx (n' : MS) : seqK n' (.nx ρ) S = n' ρ S := rfl
@[simp] theorem seqK_rt (n' : MS) (d : D) : seqK n' (.rt d) S = .ok (.rt d) S := rfl
@[simp] theorem seqK_bk (n' : MS) : seqK n' (.bk ρ) S = .ok (.bk ρ) S := rfl
@[simp] theorem seqK_ct (n' : MS) : seqK n' (.ct ρ) S = .ok (.ct ρ) S := rfl
@[simp] theorem ap_seq (n n' : MS) : mSeq n n' ρ S = (n ρ S).bind (seqK n') := rfl
def nxK {β : Type} (ρ : Env) (_ : β) (S : Store) : Res Fl := .ok (.nx ρ) S
@[simp] theorem nxK_ap {β : Type} (d : β) : nxK ρ d S = .ok (.nx ρ) S := rfl
@[simp] theorem ap_drop (m : ME) : mDrop m ρ S = (m ρ S).bind (nxK ρ) := rfl
def rtK (d : D) (S : Store) : Res Fl := .ok (.rt d) S
@[simp] theorem rtK_ap (d : D) : rtK d S = .ok (.rt d) S := rfl
@[simp] theorem ap_ret (m : ME) : mRet m ρ S = (m ρ S).bind rtK := rfl
def ifK (n n' : MS) (ρ : Env) (b : Bool) (S : Store) : Res Fl := br b (n ρ S) (n' ρ S)
@[simp] theorem ifK_t (n n' : MS) : ifK n n' ρ true S = n ρ S := rfl
@[simp] theorem ifK_f (n n' : MS) : ifK n n' ρ false S = n' ρ S := rfl
@[simp] theorem ap_if (t : MT) (n n' : MS) : mIf t n n' ρ S = (t ρ S).bind (ifK n n' ρ) := rfl
def asgK2 (ρ1 : Env) (S : Store) : Res Fl := .ok (.nx ρ1) S
@[simp] theorem asgK2_ap (ρ1 : Env) : asgK2 ρ1 S = .ok (.nx ρ1) S := rfl
def asgK (g : MG) (ρ : Env) (d : D) (S : Store) : Res Fl := (g d ρ S).bind asgK2
@[simp] theorem asgK_ap (g : MG) (d : D) : asgK g ρ d S = (g d ρ S).bind asgK2 := rfl
@[simp] theorem ap_asg (m : ME) (g : MG) : mAsg m g ρ S = (m ρ S).bind (asgK g ρ) := rfl
@[simp] theorem ap_gN (i : Nat) (d : D) : mgN i d ρ S = .ok (ρ.set i (some d)) S := rfl
@[simp] theorem ap_gNil : mgNil [] ρ S = .ok ρ S := rfl
def gconsK (gs : MGs) (ds : List D) (ρ : Env) (S : Store) : Res Env := gs ds ρ S
@[simp] theorem gconsK_ap (gs : MGs) (ds : List D) : gconsK gs ds ρ S = gs ds ρ S := rfl
@[simp] theorem ap_gCons (g : MG) (gs : MGs) (d : D) (ds : List D) : mgCons g gs (d :: ds) ρ S = (g d ρ S).bind (gconsK gs ds) := rfl
@[simp] theorem ap_gTup (k : Nat) (gs : MGs) (ds : List D) : mgTup k gs (.tup ds) ρ S = if ds.length = k then gs ds ρ S else .no := rfl
@[simp] theorem ap_gTupL (k : Nat) (gs : MGs) (ds : List D) : mgTup k gs (.lst ds) ρ S = if ds.length = k then gs ds ρ S else .no := rfl
def okK {β γ : Type} (a : β) (_ : γ) (S : Store) : Res β := .ok a S
@[simp] theorem okK_ap {β γ : Type} (a : β) (z : γ) : okK a z S = .ok a S := rfl
def gsubK2 (ρ : Env) (d o i : D) (S : Store) : Res Env := (setIx o i d S).bind (okK ρ)
@[simp] theorem gsubK2_ap (d o i : D) : gsubK2 ρ d o i S = (setIx o i d S).bind (okK ρ) := rfl
def gsubK (mi : ME) (ρ : Env) (d o : D) (S : Store) : Res Env := (mi ρ S).bind (gsubK2 ρ d o)
@[simp] theorem gsubK_ap (mi : ME) (d o : D) : gsubK mi ρ d o S = (mi ρ S).bind (gsubK2 ρ d o) := rfl
@[simp] theorem ap_gSub (mo mi : ME) (d : D) : mgSub mo mi d ρ S = (mo ρ S).bind (gsubK mi ρ d) := rfl
def parK (i j : Nat) (ρ : Env) (ds : List D) (S : Store) : Res Fl := match ds with | [d, d'] => .ok (.nx ((ρ.set i (some d)).set j (some d'))) S | _ => .no
@[simp] theorem parK_2 (i j : Nat) (d d' : D) : parK i j ρ [d, d'] S = .ok (.nx ((ρ.set i (some d)).set j (some d'))) S := rfl
@[simp] theorem ap_par (i j : Nat) (n : MA) : mPar i j n ρ S = (n ρ S).bind (parK i j ρ) := rfl
def appK (m : ME) (ρ : Env) (o : D) (S : Store) : Res D := match o with | .ref k => if notOb S k = true then (m ρ S).bind (appTo k) else .no | _ => .no
@[simp] theorem appK_ref (m : ME) (k : Nat) (h : notOb S k = true) : appK m ρ (.ref k) S = (m ρ S).bind (appTo k) := by show (if notOb S k = true then _ else _) = _; rw [if_pos h]
theorem notOb_lst {k : Nat} {xs : List D} (h : S[k]? = some (.lst xs)) : notOb S k = true := by unfold notOb; rw [h]
@[simp] theorem notOb_0 (xs : List D) (T : Store) : notOb (.lst xs :: T) 0 = true := (Eq.refl _).trans rfl
@[simp] theorem notOb_S (c : Cell) (T : Store) (k : Nat) : notOb (c :: T) (k + 1) = notOb T k := (Eq.refl _).trans rfl
@[simp] theorem ap_app (mo m : ME) : mApp mo m ρ S = (mo ρ S).bind (appK m ρ) := rfl
theorem appTo_ok {k : Nat} {xs : List D} (d : D) (h : S[k]? = some (.lst xs)) (hl : xs.length < 100000) : appTo k d S = .ok .non (S.set k (.lst (xs ++ [d]))) := by simp [appTo, h, hl]
@[simp] theorem ap_items (m : ME) : mItems m ρ S = (m ρ S).bind itemsOf := rfl
@[simp] theorem items_tup (xs : List D) : itemsOf (.tup xs) S = .ok xs S := rfl
@[simp] theorem items_lst (xs : List D) : itemsOf (.lst xs) S = .ok xs S := rfl
@[simp] theorem items_fro (xs : List D) : itemsOf (.fro xs) S = .ok xs S := rfl
@[simp] theorem ap_zip (n : MA) : mZip n ρ S = (n ρ S).bind zipItems := rfl
@[simp] theorem zip_tup (xs ys : List D) : zipItems [.tup xs, .tup ys] S = .ok (zipD xs ys) S := rfl
@[simp] theorem zip_lst (xs ys : List D) : zipItems [.lst xs, .lst ys] S = .ok (zipD xs ys) S := rfl
def enumK (d : D) (S : Store) : Res (List D) := match d with | .lst xs => .ok (enumD 0 xs) S | .fro xs => .ok (enumD 0 xs) S | _ => .no
@[simp] theorem enumK_lst (xs : List D) : enumK (.lst xs) S = .ok (enumD 0 xs) S := rfl
@[simp] theorem enumK_fro (xs : List D) : enumK (.fro xs) S = .ok (enumD 0 xs) S := rfl
@[simp] theorem ap_enum (m : ME) : mEnum m ρ S = (m ρ S).bind enumK := rfl
def r1K (d : D) (S : Store) : Res (List D) := match d with | .int j => if j.natAbs < 2 ^ 62 then .ok (rangeD 0 j.toNat) S else .no | _ => .no
theorem r1K_int (j : Int) : r1K (.int j) S = if j.natAbs < 2 ^ 62 then .ok (rangeD 0 j.toNat) S else .no := rfl
theorem r1K_nat (j : Nat) (h : j < 2 ^ 60) : r1K (.int (j : Nat)) S = .ok (rangeD 0 j) S := by
  have h2 : (j : Int).natAbs < 2 ^ 62 := by omega
  rw [r1K_int, if_pos h2, Int.toNat_natCast]
@[simp] theorem ap_r1 (m : ME) : mRange1 m ρ S = (m ρ S).bind r1K := rfl
def r2K2 (d d' : D) (S : Store) : Res (List D) := match d, d' with
  | .int i, .int j => if i.natAbs < 2 ^ 62 ∧ j.natAbs < 2 ^ 62 then .ok (rangeD i (j - i).toNat) S else .no
  | _, _ => .no
theorem r2K2_int (i j : Int) : r2K2 (.int i) (.int j) S = if i.natAbs < 2 ^ 62 ∧ j.natAbs < 2 ^ 62 then .ok (rangeD i (j - i).toNat) S else .no := rfl
def r2K (m' : ME) (ρ : Env) (d : D) (S : Store) : Res (List D) := (m' ρ S).bind (r2K2 d)
@[simp] theorem r2K_ap (m' : ME) (d : D) : r2K m' ρ d S = (m' ρ S).bind (r2K2 d) := rfl
@[simp] theorem ap_r2 (m m' : ME) : mRange2 m m' ρ S = (m ρ S).bind (r2K m' ρ) := rfl
def forIK (g : MG) (b : MS) (ρ : Env) (ds : List D) (S : Store) : Res Fl := forL g b ds ρ S
@[simp] theorem forIK_ap (g : MG) (b : MS) (ds : List D) : forIK g b ρ ds S = forL g b ds ρ S := rfl
@[simp] theorem ap_for (mi : MA) (g : MG) (b : MS) : mFor mi g b ρ S = (mi ρ S).bind (forIK g b ρ) := rfl
def lcK2 (xs : List D) (S : Store) : Res D := .ok (.lst xs) S
@[simp] theorem lcK2_ap (xs : List D) : lcK2 xs S = .ok (.lst xs) S := rfl
def lcCK2 (xs : List D) (S : Store) : Res D := .ok (.ref S.length) (S ++ [.lst xs])
@[simp] theorem lcCK2_ap (xs : List D) : lcCK2 xs S = .ok (.ref S.length) (S ++ [.lst xs]) := rfl
def lcK (g : MG) (t : MT) (m : ME) (vs : List Nat) (ρ : Env) (ds : List D) (S : Store) : Res D := if ds.length ≤ 100000 then (lcL g t m (wp ρ vs) ds S).bind lcK2 else .no
def lcCK (g : MG) (t : MT) (m : ME) (vs : List Nat) (ρ : Env) (ds : List D) (S : Store) : Res D := if ds.length ≤ 100000 then (lcL g t m (wp ρ vs) ds S).bind lcCK2 else .no
@[simp] theorem lcK_ap (g : MG) (t : MT) (m : ME) (vs : List Nat) (ds : List D) : lcK g t m vs ρ ds S = if ds.length ≤ 100000 then (lcL g t m (wp ρ vs) ds S).bind lcK2 else .no := rfl
@[simp] theorem lcCK_ap (g : MG) (t : MT) (m : ME) (vs : List Nat) (ds : List D) : lcCK g t m vs ρ ds S = if ds.length ≤ 100000 then (lcL g t m (wp ρ vs) ds S).bind lcCK2 else .no := rfl
@[simp] theorem ap_lc (mi : MA) (g : MG) (t : MT) (m : ME) (vs : List Nat) : mLc mi g t m vs ρ S = (mi ρ S).bind (lcK g t m vs ρ) := rfl
@[simp] theorem ap_lcC (mi : MA) (g : MG) (t : MT) (m : ME) (vs : List Nat) : mLcC mi g t m vs ρ S = (mi ρ S).bind (lcCK g t m vs ρ) := rfl
@[simp] theorem ap_yes : mYes ρ S = .ok true S := rfl
@[simp] theorem wp_nil : wp ρ [] = ρ := rfl
@[simp] theorem wp_cons (v : Nat) (vs : List Nat) : wp ρ (v :: vs) = (wp ρ vs).set v none := rfl
-- operators
@[simp] theorem addI_int (i j : Int) : opAddI (.int i) (.int j) S = .ok (.int (i + j)) S := rfl
@[simp] theorem add_int (i j : Int) : opAdd (.int i) (.int j) S = .ok (.int (i + j)) S := rfl
@[simp] theorem add_lst (xs ys : List D) : opAdd (.lst xs) (.lst ys) S = if xs.length + ys.length ≤ 100000 then .ok (.lst (xs ++ ys)) S else .no := rfl
@[simp] theorem add_tup (xs ys : List D) : opAdd (.tup xs) (.tup ys) S = if xs.length + ys.length ≤ 100000 then .ok (.tup (xs ++ ys)) S else .no := rfl
theorem add_ref {k : Nat} {xs : List D} (ys : List D) (h : S[k]? = some (.lst xs)) : opAdd (.ref k) (.lst ys) S = if xs.length + ys.length ≤ 100000 then .ok (.lst (xs ++ ys)) S else .no := by
  simp [opAdd, opAddI, fI0, opCat, lstOf, h]
@[simp] theorem sub_int (i j : Int) : opSubI (.int i) (.int j) S = .ok (.int (i - j)) S := rfl
@[simp] theorem mul_intD (i j : Int) : opMul (.int i) (.int j) S = if mulOk i j = true then .ok (.int (i * j)) S else .no := by
  unfold opMul opMulI fI opRep opRepT
  by_cases h : mulOk i j = true <;> simp [h, lstOf]
@[simp] theorem div_int (i j : Int) : opDivI (.int i) (.int j) S = if divOk i j = true then .ok (.int (i / j)) S else .no := rfl
@[simp] theorem mod_int (i j : Int) : opModI (.int i) (.int j) S = if modOk i j = true then .ok (.int (i % j)) S else .no := rfl
@[simp] theorem pow_int (i j : Int) : opPowI (.int i) (.int j) S = if powOk i j = true then .ok (.int (i ^ j.toNat)) S else .no := rfl
@[simp] theorem lt_int (i j : Int) : opLt (.int i) (.int j) S = .ok (.bl (decide (i < j))) S := rfl
@[simp] theorem le_int (i j : Int) : opLe (.int i) (.int j) S = .ok (.bl (decide (i ≤ j))) S := rfl
@[simp] theorem gt_int (i j : Int) : opGt (.int i) (.int j) S = .ok (.bl (decide (j < i))) S := rfl
@[simp] theorem ge_int (i j : Int) : opGe (.int i) (.int j) S = .ok (.bl (decide (j ≤ i))) S := rfl
@[simp] theorem eq_intD (i j : Int) : opEq (.int i) (.int j) S = .ok (.bl (decide (i = j))) S := rfl
@[simp] theorem ne_intD (i j : Int) : opNe (.int i) (.int j) S = .ok (.bl (!decide (i = j))) S := rfl
@[simp] theorem eq_blD (i j : Bool) : opEq (.bl i) (.bl j) S = .ok (.bl (decide (i = j))) S := by cases i <;> cases j <;> rfl
@[simp] theorem ne_blD (i j : Bool) : opNe (.bl i) (.bl j) S = .ok (.bl (!decide (i = j))) S := by cases i <;> cases j <;> rfl
@[simp] theorem eq_strD (i j : Str) : opEq (.str i) (.str j) S = .ok (.bl (decide (i = j))) S := rfl
@[simp] theorem ix_tupD (xs : List D) (i : Int) : opIx (.tup xs) (.int i) S = oRes (atI xs i) S := rfl
@[simp] theorem ix_lstD (xs : List D) (i : Int) : opIx (.lst xs) (.int i) S = oRes (atI xs i) S := rfl
@[simp] theorem ix_froD (xs : List D) (i : Int) : opIx (.fro xs) (.int i) S = oRes (atI xs i) S := rfl
theorem ix_refD {k : Nat} {xs : List D} (i : Int) (h : S[k]? = some (.lst xs)) : opIx (.ref k) (.int i) S = oRes (atI xs i) S := by simp [opIx, rdL, lstOf, h]
theorem atI_get {α : Type} {xs : List α} {i : Nat} {x : α} (h : xs[i]? = some x) : atI xs (i : Int) = some x := by
  have hl := (List.getElem?_eq_some_iff.mp h).1
  unfold atI ixN
  rw [if_pos (by omega), if_pos (by omega)]
  simpa using h
@[simp] theorem atI_0 {α : Type} (x : α) (xs : List α) : atI (x :: xs) 0 = some x := by
  have h : (0 : Int) < (x :: xs).length := by simp
  simp [atI, ixN]
@[simp] theorem atI_1 {α : Type} (x y : α) (xs : List α) : atI (x :: y :: xs) 1 = some y := by
  exact atI_get (i := 1) rfl
@[simp] theorem atI_2 {α : Type} (x y z : α) (xs : List α) : atI (x :: y :: z :: xs) 2 = some z := by
  exact atI_get (i := 2) rfl
@[simp] theorem sl_tupD (xs : List D) (lo hi : Option Int) : opSl (.tup xs) lo hi S = .ok (.tup (cutD xs lo hi)) S := rfl
@[simp] theorem sl_lstD (xs : List D) (lo hi : Option Int) : opSl (.lst xs) lo hi S = .ok (.lst (cutD xs lo hi)) S := rfl
@[simp] theorem sl_froD (xs : List D) (lo hi : Option Int) : opSl (.fro xs) lo hi S = .ok (.lst (cutD xs lo hi)) S := rfl
@[simp] theorem truth_bl (b : Bool) : truth S (.bl b) = some b := (Eq.refl _).trans rfl
@[simp] theorem truth_int (b : Int) : truth S (.int b) = some (b != 0) := (Eq.refl _).trans rfl
@[simp] theorem truth_non : truth S .non = some false := (Eq.refl _).trans rfl
@[simp] theorem truth_tup (xs : List D) : truth S (.tup xs) = some (!xs.isEmpty) := (Eq.refl _).trans rfl
@[simp] theorem truth_lst (xs : List D) : truth S (.lst xs) = some (!xs.isEmpty) := (Eq.refl _).trans rfl
theorem truth_ref {k : Nat} {xs : List D} (h : S[k]? = some (.lst xs)) : truth S (.ref k) = some (!xs.isEmpty) := by simp [truth, rdL, lstOf, h]
-- built-ins
@[simp] theorem len_tup (xs : List D) : fLen [.tup xs] S = .ok (.int xs.length) S := rfl
@[simp] theorem len_lst (xs : List D) : fLen [.lst xs] S = .ok (.int xs.length) S := rfl
@[simp] theorem len_fro (xs : List D) : fLen [.fro xs] S = .ok (.int xs.length) S := rfl
@[simp] theorem abs_int (i : Int) : fAbs [.int i] S = .ok (.int (if i < 0 then -i else i)) S := rfl
@[simp] theorem int_int (i : Int) : fInt [.int i] S = .ok (.int i) S := rfl
@[simp] theorem int_bl (i : Bool) : fInt [.bl i] S = .ok (.int (if i then 1 else 0)) S := rfl
@[simp] theorem tuple_lst (xs : List D) : fTuple [.lst xs] S = .ok (.tup xs) S := rfl
@[simp] theorem tuple_tup (xs : List D) : fTuple [.tup xs] S = .ok (.tup xs) S := rfl
@[simp] theorem list_lst (xs : List D) : fList [.lst xs] S = .ok (.lst xs) S := rfl
@[simp] theorem list_tup (xs : List D) : fList [.tup xs] S = .ok (.lst xs) S := rfl
@[simp] theorem listC_lst (xs : List D) : fListC [.lst xs] S = .ok (.ref S.length) (S ++ [.lst xs]) := rfl
@[simp] theorem listC_tup (xs : List D) : fListC [.tup xs] S = .ok (.ref S.length) (S ++ [.lst xs]) := rfl
theorem all_lst {xs : List D} {bs : List Bool} (h : boolsD xs = some bs) : fAll [.lst xs] S = .ok (.bl (bs.all id)) S := by simp [fAll, onBools, un1, rdL, lstOf, h]
theorem any_lst {xs : List D} {bs : List Bool} (h : boolsD xs = some bs) : fAny [.lst xs] S = .ok (.bl (bs.any id)) S := by simp [fAny, onBools, un1, rdL, lstOf, h]
theorem sum_lst {xs : List D} {bs : List Int} (h : intsD xs = some bs) : fSum [.lst xs] S = .ok (.int bs.sum) S := by simp [fSum, onInts, un1, rdL, lstOf, h]
theorem bools_map {β : Type} (f : β → Bool) (xs : List β) : boolsD (xs.map fun x => D.bl (f x)) = some (xs.map f) := by
  induction xs with
  | nil => rfl
  | cons x xs ih => simp [boolsD, ih]
theorem ints_map {β : Type} (f : β → Int) (xs : List β) : intsD (xs.map fun x => D.int (f x)) = some (xs.map f) := by
  induction xs with
  | nil => rfl
  | cons x xs ih => simp [intsD, ih]
-- isinstance
@[simp] theorem isOk_non : isOk S .non = true := (Eq.refl _).trans rfl
@[simp] theorem isOk_bl (b : Bool) : isOk S (.bl b) = true := (Eq.refl _).trans rfl
@[simp] theorem isOk_int (b : Int) : isOk S (.int b) = true := (Eq.refl _).trans rfl
@[simp] theorem isOk_str (b : Str) : isOk S (.str b) = true := (Eq.refl _).trans rfl
@[simp] theorem isOk_tup (b : List D) : isOk S (.tup b) = true := (Eq.refl _).trans rfl
@[simp] theorem isOk_lst (b : List D) : isOk S (.lst b) = true := (Eq.refl _).trans rfl
@[simp] theorem isNon_non : isNon .non = true := (Eq.refl _).trans rfl
@[simp] theorem isNon_bl (b : Bool) : isNon (.bl b) = false := (Eq.refl _).trans rfl
@[simp] theorem isNon_int (b : Int) : isNon (.int b) = false := (Eq.refl _).trans rfl
@[simp] theorem isNon_str (b : Str) : isNon (.str b) = false := (Eq.refl _).trans rfl
@[simp] theorem isNon_tup (b : List D) : isNon (.tup b) = false := (Eq.refl _).trans rfl
@[simp] theorem isNon_lst (b : List D) : isNon (.lst b) = false := (Eq.refl _).trans rfl
end
-- objects
@[simp] theorem ap_fld (c i : Nat) (m : ME) : mFld c i m ρ S = (m ρ S).bind (fldD c i) := rfl
@[simp] theorem fld_obj (c i : Nat) (fs : List D) : fldD c i (.obj c fs) S = oRes fs[i]? S := by simp [fldD]
def methK2 (g : List D → Store → Res D) (d : D) (ds : List D) (S : Store) : Res D := g (d :: ds) S
@[simp] theorem methK2_ap (g : List D → Store → Res D) (d : D) (ds : List D) : methK2 g d ds S = g (d :: ds) S := rfl
def methK (c : Nat) (g : List D → Store → Res D) (n : MA) (ρ : Env) (d : D) (S : Store) : Res D := if isObj c d then (n ρ S).bind (methK2 g d) else .no
@[simp] theorem methK_ap (c : Nat) (g : List D → Store → Res D) (n : MA) (d : D) : methK c g n ρ d S = if isObj c d then (n ρ S).bind (methK2 g d) else .no := rfl
@[simp] theorem ap_meth (c : Nat) (g : List D → Store → Res D) (m : ME) (n : MA) : mMeth c g m n ρ S = (m ρ S).bind (methK c g n ρ) := rfl
def methKK2 (g : List D → Store → Res D) (j : Nat) (idx : List Nat) (d : D) (zs : List D) (S : Store) : Res D := if zs.length = j then g (place idx (d :: zs)) S else .no
@[simp] theorem methKK2_ap (g : List D → Store → Res D) (j : Nat) (idx : List Nat) (d : D) (zs : List D) : methKK2 g j idx d zs S = if zs.length = j then g (place idx (d :: zs)) S else .no := rfl
def methKK (c : Nat) (g : List D → Store → Res D) (j : Nat) (idx : List Nat) (n : MA) (ρ : Env) (d : D) (S : Store) : Res D := if isObj c d then (n ρ S).bind (methKK2 g j idx d) else .no
@[simp] theorem methKK_ap (c : Nat) (g : List D → Store → Res D) (j : Nat) (idx : List Nat) (n : MA) (d : D) : methKK c g j idx n ρ d S = if isObj c d then (n ρ S).bind (methKK2 g j idx d) else .no := rfl
@[simp] theorem ap_methK (c : Nat) (g : List D → Store → Res D) (j : Nat) (idx : List Nat) (m : ME) (nk : MA) : mMethK c g j idx m nk ρ S = (m ρ S).bind (methKK c g j idx nk ρ) := rfl
@[simp] theorem isObj_obj (c : Nat) (fs : List D) : isObj c (.obj c fs) = true := by simp [isObj]
@[simp] theorem isObj_non (c : Nat) : isObj c .non = false := (Eq.refl _).trans rfl
@[simp] theorem isObj_bl (c : Nat) (b : Bool) : isObj c (.bl b) = false := (Eq.refl _).trans rfl
@[simp] theorem isObj_int (c : Nat) (b : Int) : isObj c (.int b) = false := (Eq.refl _).trans rfl
@[simp] theorem isObj_str (c : Nat) (b : Str) : isObj c (.str b) = false := (Eq.refl _).trans rfl
@[simp] theorem isObj_tup (c : Nat) (b : List D) : isObj c (.tup b) = false := (Eq.refl _).trans rfl
@[simp] theorem isObj_lst (c : Nat) (b : List D) : isObj c (.lst b) = false := (Eq.refl _).trans rfl
@[simp] theorem isObj_ref (c : Nat) (b : Nat) : isObj c (.ref b) = false := (Eq.refl _).trans rfl
@[simp] theorem ap_isC (c : Nat) (m : ME) : mIsC c m ρ S = (m ρ S).bind (isC c) := rfl
@[simp] theorem isC_obj (c : Nat) (fs : List D) : isC c (.obj c fs) S = .ok (.bl true) S := by simp [isC]
@[simp] theorem isB_bl (a b : Bool) : opIsB (.bl a) (.bl b) S = .ok (.bl (decide (a = b))) S := rfl
@[simp] theorem notB_bl (a : Bool) : notB (.bl a) S = .ok (.bl (!a)) S := rfl
@[simp] theorem own_obj (c : Nat) (g : List D → Store → Res D) (f : D → D → Store → Res D) (fs : List D) (b : D) : opOwn c g f (.obj c fs) b S = if (isObj c b || isOk S b) = true then g [.obj c fs, b] S else .no := by
  unfold opOwn
  rw [isObj_obj, if_pos rfl]
@[simp] theorem ownN_obj (c : Nat) (g : List D → Store → Res D) (f : D → D → Store → Res D) (fs : List D) (b : D) : opOwnN c g f (.obj c fs) b S = if (isObj c b || isOk S b) = true then (g [.obj c fs, b] S).bind notB else .no := by
  unfold opOwnN
  rw [isObj_obj, if_pos rfl]
theorem own_plain {c : Nat} {g : List D → Store → Res D} {f : D → D → Store → Res D} {a b : D} (h : isObj c a = false) : opOwn c g f a b S = f a b S := by
  unfold opOwn
  rw [h]
  rfl
theorem ownN_plain {c : Nat} {g : List D → Store → Res D} {f : D → D → Store → Res D} {a b : D} (h : isObj c a = false) : opOwnN c g f a b S = f a b S := by
  unfold opOwnN
  rw [h]
  rfl
def mkK (c : Nat) (r : Res (List D)) : Res D := match r with
  | .ok fs S2 => .ok (.obj c fs) S2
  | _ => .no
@[simp] theorem mkK_ok (c : Nat) (fs : List D) : mkK c (.ok fs S) = .ok (.obj c fs) S := rfl
def makeK (c : Nat) (f : List D → Store → Res (List D)) (ds : List D) (S : Store) : Res D := mkK c (f ds S)
@[simp] theorem makeK_ap (c : Nat) (f : List D → Store → Res (List D)) (ds : List D) : makeK c f ds S = mkK c (f ds S) := rfl
def makeKK (c : Nat) (f : List D → Store → Res (List D)) (j : Nat) (idx : List Nat) (zs : List D) (S : Store) : Res D := if zs.length = j then mkK c (f (place idx zs) S) else .no
@[simp] theorem makeKK_ap (c : Nat) (f : List D → Store → Res (List D)) (j : Nat) (idx : List Nat) (zs : List D) : makeKK c f j idx zs S = if zs.length = j then mkK c (f (place idx zs) S) else .no := rfl
@[simp] theorem ap_make (c : Nat) (f : List D → Store → Res (List D)) (n : MA) : mMake c f n ρ S = (n ρ S).bind (makeK c f) := rfl
@[simp] theorem ap_makeK (c : Nat) (f : List D → Store → Res (List D)) (j : Nat) (idx : List Nat) (nk : MA) : mMakeK c f j idx nk ρ S = (nk ρ S).bind (makeKK c f j idx) := rfl
@[simp] theorem isC_non (c : Nat) : isC c .non S = .ok (.bl false) S := rfl
@[simp] theorem isC_bl (c : Nat) (b : Bool) : isC c (.bl b) S = .ok (.bl false) S := rfl
@[simp] theorem isC_int (c : Nat) (b : Int) : isC c (.int b) S = .ok (.bl false) S := rfl
@[simp] theorem isC_str (c : Nat) (b : Str) : isC c (.str b) S = .ok (.bl false) S := rfl
@[simp] theorem isC_tup (c : Nat) (b : List D) : isC c (.tup b) S = .ok (.bl false) S := rfl
@[simp] theorem isC_lst (c : Nat) (b : List D) : isC c (.lst b) S = .ok (.bl false) S := rfl
@[simp] theorem isNon_obj (c : Nat) (b : List D) : isNon (.obj c b) = false := (Eq.refl _).trans rfl
@[simp] theorem pureD_obj (c : Nat) (b : List D) : pureD (.obj c b) = pureL b := (Eq.refl _).trans rfl
@[simp] theorem fz_obj (c : Nat) (b : List D) : fz (.obj c b) S = .ok (.obj c b) S := rfl
@[simp] theorem place_nil {β : Type} (xs : List β) : place [] xs = [] := rfl
-- calls
@[simp] theorem fCall_ap (f : List D → Store → Res D) (ds : List D) (S : Store) : fCall f ds S = nox (f ds S) := rfl
theorem fPure_ap {f : List D → Store → Res D} {ds : List D} {d : D} (S : Store) (hp : pureL ds = true) (h : f ds [] = .ok d []) : fPure f ds S = .ok d S := by simp [fPure, hp, h]
@[simp] theorem pureL_nil : pureL [] = true := (Eq.refl _).trans rfl
@[simp] theorem pureL_cons (d : D) (ds : List D) : pureL (d :: ds) = (pureD d && pureL ds) := (Eq.refl _).trans rfl
@[simp] theorem pureD_non : pureD .non = true := (Eq.refl _).trans rfl
@[simp] theorem pureD_bl (b : Bool) : pureD (.bl b) = true := (Eq.refl _).trans rfl
@[simp] theorem pureD_int (b : Int) : pureD (.int b) = true := (Eq.refl _).trans rfl
@[simp] theorem pureD_str (b : Str) : pureD (.str b) = true := (Eq.refl _).trans rfl
@[simp] theorem pureD_tup (b : List D) : pureD (.tup b) = pureL b := (Eq.refl _).trans rfl
@[simp] theorem pureD_lst (b : List D) : pureD (.lst b) = pureL b := (Eq.refl _).trans rfl
@[simp] theorem pureD_fro (b : List D) : pureD (.fro b) = pureL b := (Eq.refl _).trans rfl
@[simp] theorem pureD_ref (b : Nat) : pureD (.ref b) = false := (Eq.refl _).trans rfl
theorem pureL_all {ds : List D} : pureL ds = true ↔ ∀ d ∈ ds, pureD d = true := by
  induction ds with
  | nil => simp
  | cons d ds ih => simp [ih]
@[simp] theorem fin_same {S S' : Store} {d : D} (h : S'.length = S.length) : fin S.length d S' = .ok d S' := by simp [fin, h]
theorem fin_nil {d : D} {S : Store} (h : pureD d = true) : fin 0 d S = .ok d [] := by
  unfold fin
  split
  · rename_i e
    rw [List.eq_nil_of_length_eq_zero e]
  · rw [below_pure 0 d h]; rfl
def endK (n : Nat) (f : Fl) (S : Store) : Res D := match f with
  | .nx _ => fin n .non S
  | .rt d => fin n d S
  | _ => .no
@[simp] theorem endK_nx (n : Nat) (ρ : Env) (S : Store) : endK n (.nx ρ) S = fin n .non S := rfl
@[simp] theorem endK_rt (n : Nat) (d : D) (S : Store) : endK n (.rt d) S = fin n d S := rfl
@[simp] theorem endM_nx {n : Nat} {ρ : Env} {S : Store} : endM n (.ok (.nx ρ) S) = fin n .non S := rfl
@[simp] theorem endM_rt {n : Nat} {d : D} {S : Store} : endM n (.ok (.rt d) S) = fin n d S := rfl
@[simp] theorem endC_nx {ρ : Env} {S : Store} : endC (.ok (.nx ρ) S) = .ok .non S := rfl
@[simp] theorem endC_rt {d : D} {S : Store} : endC (.ok (.rt d) S) = .ok d S := rfl
def endCK (f : Fl) (S : Store) : Res D := match f with
  | .nx _ => .ok .non S
  | .rt d => .ok d S
  | _ => .no
@[simp] theorem endCK_nx (ρ : Env) (S : Store) : endCK (.nx ρ) S = .ok .non S := rfl
@[simp] theorem endCK_rt (d : D) (S : Store) : endCK (.rt d) S = .ok d S := rfl
@[simp] theorem endM_sat {P : D → Store → Prop} (n : Nat) (r : Res Fl) : (endM n r).Sat P = (r.bind (endK n)).Sat P := by
  cases r with
  | ok f S => cases f <;> rfl
  | ex e S => rfl
  | no => rfl
@[simp] theorem endC_sat {P : D → Store → Prop} (r : Res Fl) : (endC r).Sat P = (r.bind endCK).Sat P := by
  cases r with
  | ok f S => cases f <;> rfl
  | ex e S => rfl
  | no => rfl
theorem set_get {S : Store} {k : Nat} {c c' : Cell} (h : S[k]? = some c) : (S.set k c')[k]? = some c' := List.getElem?_set_self (List.getElem?_eq_some_iff.mp h).1
def forK (k : MS) (f : Fl) (S : Store) : Res Fl := match f with
  | .nx ρ => k ρ S
  | .ct ρ => k ρ S
  | .bk ρ => .ok (.nx ρ) S
  | .rt d => .ok (.rt d) S
@[simp] theorem forK_nx (k : MS) (ρ : Env) (S : Store) : forK k (.nx ρ) S = k ρ S := rfl
@[simp] theorem forK_ct (k : MS) (ρ : Env) (S : Store) : forK k (.ct ρ) S = k ρ S := rfl
@[simp] theorem forK_bk (k : MS) (ρ : Env) (S : Store) : forK k (.bk ρ) S = .ok (.nx ρ) S := rfl
@[simp] theorem forK_rt (k : MS) (d : D) (S : Store) : forK k (.rt d) S = .ok (.rt d) S := rfl
def forBK (g : MG) (b : MS) (ds : List D) (ρ : Env) (S : Store) : Res Fl := (b ρ S).bind (forK (forL g b ds))
@[simp] theorem forBK_ap (g : MG) (b : MS) (ds : List D) (ρ : Env) (S : Store) : forBK g b ds ρ S = (b ρ S).bind (forK (forL g b ds)) := rfl
theorem forL_cons (g : MG) (b : MS) (d : D) (ds : List D) (ρ : Env) (S : Store) : forL g b (d :: ds) ρ S = (g d ρ S).bind (forBK g b ds) := rfl
theorem forL_nil (g : MG) (b : MS) (ρ : Env) (S : Store) : forL g b [] ρ S = .ok (.nx ρ) S := rfl
def whK (k : MS) (f : Fl) (S : Store) : Res Fl := match f with
  | .nx ρ => k ρ S
  | .ct ρ => k ρ S
  | .bk ρ => .ok (.nx ρ) S
  | .rt d => .ok (.rt d) S
@[simp] theorem whK_nx (k : MS) (ρ : Env) (S : Store) : whK k (.nx ρ) S = k ρ S := rfl
@[simp] theorem whK_ct (k : MS) (ρ : Env) (S : Store) : whK k (.ct ρ) S = k ρ S := rfl
@[simp] theorem whK_bk (k : MS) (ρ : Env) (S : Store) : whK k (.bk ρ) S = .ok (.nx ρ) S := rfl
@[simp] theorem whK_rt (k : MS) (d : D) (S : Store) : whK k (.rt d) S = .ok (.rt d) S := rfl
def whBK (t : MT) (b : MS) (k : Nat) (ρ : Env) (c : Bool) (S : Store) : Res Fl := br c ((b ρ S).bind (whK (whileF t b k))) (.ok (.nx ρ) S)
@[simp] theorem whBK_t (t : MT) (b : MS) (k : Nat) (ρ : Env) (S : Store) : whBK t b k ρ true S = (b ρ S).bind (whK (whileF t b k)) := rfl
@[simp] theorem whBK_f (t : MT) (b : MS) (k : Nat) (ρ : Env) (S : Store) : whBK t b k ρ false S = .ok (.nx ρ) S := rfl
theorem whF_succ (t : MT) (b : MS) (k : Nat) (ρ : Env) (S : Store) : whileF t b (k + 1) ρ S = (t ρ S).bind (whBK t b k ρ) := by
  show (t ρ S).bind _ = _
  congr 1
  funext c S1
  cases c with
  | false => rfl
  | true =>
    show (b ρ S1).bind _ = (b ρ S1).bind _
    congr 1
theorem fnM_0 {nN : Nat} {n : MS} {S : Store} : fnM nN 0 n [] S = endM S.length (n (List.replicate nN none) S) := rfl
theorem fnM_1 {nN : Nat} {n : MS} {a : D} {S : Store} : fnM nN 1 n [a] S = endM S.length (n (some a :: List.replicate (nN - 1) none) S) := rfl
theorem fnM_2 {nN : Nat} {n : MS} {a b : D} {S : Store} : fnM nN 2 n [a, b] S = endM S.length (n (some a :: some b :: List.replicate (nN - 2) none) S) := rfl
theorem fnM_3 {nN : Nat} {n : MS} {a b c : D} {S : Store} : fnM nN 3 n [a, b, c] S = endM S.length (n (some a :: some b :: some c :: List.replicate (nN - 3) none) S) := rfl
theorem fnM_4 {nN : Nat} {n : MS} {a b c d : D} {S : Store} : fnM nN 4 n [a, b, c, d] S = endM S.length (n (some a :: some b :: some c :: some d :: List.replicate (nN - 4) none) S) := rfl
theorem fnC_1 {nN : Nat} {n : MS} {a : D} {S : Store} : fnC nN 1 n [a] S = endC (n (some a :: List.replicate (nN - 1) none) S) := rfl
theorem fnC_2 {nN : Nat} {n : MS} {a b : D} {S : Store} : fnC nN 2 n [a, b] S = endC (n (some a :: some b :: List.replicate (nN - 2) none) S) := rfl
theorem set_self {S : Store} {k : Nat} {c : Cell} (h : S[k]? = some c) : S.set k c = S := by
  apply List.ext_getElem?
  intro i
  by_cases e : k = i
  · subst e; rw [set_get h, h]
  · rw [List.getElem?_set_ne e]
theorem forL_ind {g : MG} {b : MS} (Inv : List D → Env → Store → Prop) (turn : ∀ pre d ρ S, Inv pre ρ S → ∃ ρ1 S1 f S2, g d ρ S = .ok ρ1 S1 ∧ b ρ1 S1 = .ok f S2 ∧ ∃ ρ2, (f = .nx ρ2 ∨ f = .ct ρ2) ∧ Inv (pre ++ [d]) ρ2 S2) :
    ∀ (ds pre : List D) (ρ : Env) (S : Store), Inv pre ρ S → ∃ ρ2 S2, forL g b ds ρ S = .ok (.nx ρ2) S2 ∧ Inv (pre ++ ds) ρ2 S2
  | [], pre, ρ, S, h => ⟨ρ, S, rfl, by simpa using h⟩
  | d :: ds, pre, ρ, S, h => by
    obtain ⟨ρ1, S1, f, S2, h1, h2, ρ2, hf, h3⟩ := turn pre d ρ S h
    obtain ⟨ρ3, S3, h4, h5⟩ := forL_ind Inv turn ds (pre ++ [d]) ρ2 S2 h3
    refine ⟨ρ3, S3, ?_, by simpa using h5⟩
    unfold forL
    rw [h1]
    simp only [bind_ok]
    rw [h2]
    rcases hf with rfl | rfl <;> exact h4
/-- a comprehension without cells: a map -/
theorem lcL_map {g : MG} {m : ME} {ρ : Env} {f : D → D} : ∀ (ds : List D) (S : Store), (∀ d ∈ ds, ∃ ρ1, g d ρ S = .ok ρ1 S ∧ m ρ1 S = .ok (f d) S) → lcL g mYes m ρ ds S = .ok (ds.map f) S
  | [], S, _ => rfl
  | d :: ds, S, h => by
    obtain ⟨ρ1, h1, h2⟩ := h d (by simp)
    unfold lcL
    rw [h1]
    simp only [bind_ok, ap_yes]
    rw [h2]
    simp only [bind_ok]
    rw [lcL_map ds S fun e he => h e (by simp [he])]
    rfl
/-- .. with a test -/
theorem lcL_filter {g : MG} {m : ME} {t : MT} {ρ : Env} {f : D → D} {p : D → Bool} : ∀ (ds : List D) (S : Store), (∀ d ∈ ds, ∃ ρ1, g d ρ S = .ok ρ1 S ∧ t ρ1 S = .ok (p d) S ∧ (p d = true → m ρ1 S = .ok (f d) S)) → lcL g t m ρ ds S = .ok ((ds.filter p).map f) S
  | [], S, _ => rfl
  | d :: ds, S, h => by
    obtain ⟨ρ1, h1, h2, h3⟩ := h d (by simp)
    have ih := lcL_filter ds S fun e he => h e (by simp [he])
    unfold lcL
    rw [h1]
    simp only [bind_ok]
    rw [h2]
    simp only [bind_ok]
    cases hp : p d with
    | true =>
      simp only [List.filter_cons, hp, if_true, List.map_cons]
      rw [h3 hp]
      simp only [bind_ok]
      rw [ih]
      rfl
    | false =>
      simp only [List.filter_cons, hp]
      exact ih
/-- .. through changing cells -/
theorem lcL_indx {g : MG} {m : ME} {ρ : Env} {Inv : Nat → Store → Prop} {P : Nat → D → Prop} : ∀ (ds : List D) (i : Nat) (S : Store), Inv i S → (∀ j S d, ds[j]? = some d → Inv (i + j) S → ∃ ρ1 v S1, g d ρ S = .ok ρ1 S ∧ m ρ1 S = .ok v S1 ∧ P (i + j) v ∧ Inv (i + j + 1) S1) →
    ∃ vs S1, lcL g mYes m ρ ds S = .ok vs S1 ∧ vs.length = ds.length ∧ (∀ j v, vs[j]? = some v → P (i + j) v) ∧ Inv (i + ds.length) S1
  | [], i, S, h, _ => ⟨[], S, rfl, rfl, by simp, h⟩
  | d :: ds, i, S, h, turn => by
    obtain ⟨ρ1, v, S1, h1, h2, h3, h4⟩ := turn 0 S d rfl h
    obtain ⟨vs, S2, k1, k2, k3, k4⟩ := lcL_indx (P := P) ds (i + 1) S1 h4 fun j S e he hi => by
      have := turn (j + 1) S e (by simpa using he) (by rw [show i + (j + 1) = i + 1 + j by omega]; exact hi)
      rw [show i + (j + 1) = i + 1 + j by omega] at this
      exact this
    refine ⟨v :: vs, S2, ?_, by simp [k2], fun j w hw => ?_, by rw [List.length_cons, show i + (ds.length + 1) = i + 1 + ds.length by omega]; exact k4⟩
    · unfold lcL
      rw [h1]
      simp only [bind_ok, ap_yes]
      rw [h2]
      simp only [bind_ok]
      rw [k1]
      rfl
    · cases j with
      | zero => simp at hw; subst hw; exact h3
      | succ j =>
        have := k3 j w (by simpa using hw)
        rw [show i + (j + 1) = i + 1 + j by omega]
        exact this
theorem lcL_ind {g : MG} {m : ME} {ρ : Env} (Inv : Nat → Store → Prop) (P : Nat → D → Prop) (ds : List D) (S : Store) (h : Inv 0 S) (turn : ∀ j S d, ds[j]? = some d → Inv j S → ∃ ρ1 v S1, g d ρ S = .ok ρ1 S ∧ m ρ1 S = .ok v S1 ∧ P j v ∧ Inv (j + 1) S1) :
    ∃ vs S1, lcL g mYes m ρ ds S = .ok vs S1 ∧ vs.length = ds.length ∧ (∀ j v, vs[j]? = some v → P j v) ∧ Inv ds.length S1 := by
  have := lcL_indx (g := g) (m := m) (ρ := ρ) (Inv := Inv) (P := P) ds 0 S h (by simpa using turn)
  simpa using this
theorem rangeD_len (lo : Int) (n : Nat) : (rangeD lo n).length = n := by simp [rangeD]
theorem rangeD_get {lo : Int} {n i : Nat} {d : D} (h : (rangeD lo n)[i]? = some d) : i < n ∧ d = .int (lo + (i : Int)) := by
  unfold rangeD at h
  rw [List.getElem?_map] at h
  cases q : (List.range n)[i]? with
  | none => simp [q] at h
  | some j =>
    simp only [q, Option.map_some, Option.some.injEq] at h
    obtain ⟨h1, h2⟩ := List.getElem?_eq_some_iff.mp q
    simp at h1 h2
    subst h2
    exact ⟨h1, h.symm⟩
/-- a while that ends for want of its i-th name, a number that falls -/
def fuelI (i : Nat) : Env → Store → Nat := fun ρ _ => match ρ[i]? with
  | some (some (.int n)) => n.toNat + 1
  | _ => 0
section
variable {X : Cx} {cl : Nat → Addr} {E : XK}
theorem q_globS {x : Str} {i : Str} {t : Tok} {pos : Pos} (hg : Gl X x) (hm : ∃ t, X.mg x = some (.str i t)) (hd : (x == ("__debug__" : Str)) = false := by decide) : QE X cl E (.Name x pos) (mC (.str i)) :=
  let ⟨_, hm⟩ := hm
  ⟨_, pe_glob (v := .str i) hg hm ⟨_, rfl⟩ hd, snd_c fun _ _ => by simp [Rep]⟩
end
@[simp] theorem fin_00 (d : D) : fin 0 d [] = .ok d [] := rfl
/-- what a turn leaves: on to the next one, or out -/
def Turn (I : Env → Store → Prop) (P : Fl → Store → Prop) : Fl → Store → Prop := fun f S => match f with
  | .nx ρ => I ρ S
  | .ct ρ => I ρ S
  | .bk ρ => P (.nx ρ) S
  | .rt d => P (.rt d) S
section
variable {I : Env → Store → Prop} {P : Fl → Store → Prop} {ρ : Env} {S : Store}
@[simp] theorem turn_nx : Turn I P (.nx ρ) S = I ρ S := rfl
@[simp] theorem turn_ct : Turn I P (.ct ρ) S = I ρ S := rfl
@[simp] theorem turn_bk : Turn I P (.bk ρ) S = P (.nx ρ) S := rfl
@[simp] theorem turn_rt (d : D) : Turn I P (.rt d) S = P (.rt d) S := rfl
end
theorem forL_sat {g : MG} {b : MS} {P : Fl → Store → Prop} (Inv : List D → Env → Store → Prop) (turn : ∀ d ds ρ S, Inv (d :: ds) ρ S → ∃ ρ1 S1, g d ρ S = .ok ρ1 S1 ∧ (b ρ1 S1).Sat (Turn (Inv ds) P)) (last : ∀ ρ S, Inv [] ρ S → P (.nx ρ) S) :
    ∀ (ds : List D) (ρ : Env) (S : Store), Inv ds ρ S → (forL g b ds ρ S).Sat P
  | [], ρ, S, h => last ρ S h
  | d :: ds, ρ, S, h => by
    obtain ⟨ρ1, S1, e, h1⟩ := turn d ds ρ S h
    rw [forL_cons, e, bind_ok, forBK_ap]
    refine sat_step h1 fun f S2 h2 => ?_
    cases f with
    | nx ρ2 => exact forL_sat Inv turn last ds ρ2 S2 h2
    | ct ρ2 => exact forL_sat Inv turn last ds ρ2 S2 h2
    | bk ρ2 => exact h2
    | rt d => exact h2
theorem whileF_sat {t : MT} {b : MS} {P : Fl → Store → Prop} (Inv : Nat → Env → Store → Prop) (turn : ∀ n ρ S, Inv n ρ S → (t ρ S).Sat fun c S1 => match c with
      | false => P (.nx ρ) S1
      | true => (b ρ S1).Sat (Turn (fun ρ' S' => ∃ m, m < n ∧ Inv m ρ' S') P)) :
    ∀ (k n : Nat) (ρ : Env) (S : Store), n < k → Inv n ρ S → (whileF t b k ρ S).Sat P
  | 0, n, ρ, S, hk, _ => absurd hk (by omega)
  | k + 1, n, ρ, S, hk, h => by
    rw [whF_succ]
    refine sat_step (turn n ρ S h) fun c S1 h1 => ?_
    cases c with
    | false => exact h1
    | true =>
      rw [whBK_t]
      refine sat_step h1 fun f S2 h2 => ?_
      cases f with
      | nx ρ2 => obtain ⟨m, hm, hI⟩ := h2; exact whileF_sat Inv turn k m ρ2 S2 (by omega) hI
      | ct ρ2 => obtain ⟨m, hm, hI⟩ := h2; exact whileF_sat Inv turn k m ρ2 S2 (by omega) hI
      | bk ρ2 => exact h2
      | rt d => exact h2
def whIK (fuel : Env → Store → Nat) (t : MT) (b : MS) (ρ : Env) (S : Store) : Res Fl := whileF t b (fuel ρ S) ρ S
@[simp] theorem ap_while (fuel : Env → Store → Nat) (t : MT) (b : MS) (ρ : Env) (S : Store) : mWhile fuel t b ρ S = whileF t b (fuel ρ S) ρ S := rfl
section
variable {g : MG} {t : MT} {m : ME} {ρ0 : Env} {S : Store}
def lcB4 (v : D) (vs : List D) (S : Store) : Res (List D) := .ok (v :: vs) S
@[simp] theorem lcB4_ap (v : D) (vs : List D) : lcB4 v vs S = .ok (v :: vs) S := rfl
def lcB3 (g : MG) (t : MT) (m : ME) (ρ0 : Env) (ds : List D) (v : D) (S : Store) : Res (List D) := (lcL g t m ρ0 ds S).bind (lcB4 v)
@[simp] theorem lcB3_ap (ds : List D) (v : D) : lcB3 g t m ρ0 ds v S = (lcL g t m ρ0 ds S).bind (lcB4 v) := rfl
def lcB2 (g : MG) (t : MT) (m : ME) (ρ0 : Env) (ds : List D) (ρ1 : Env) (b : Bool) (S : Store) : Res (List D) := br b ((m ρ1 S).bind (lcB3 g t m ρ0 ds)) (lcL g t m ρ0 ds S)
@[simp] theorem lcB2_t (ds : List D) (ρ1 : Env) : lcB2 g t m ρ0 ds ρ1 true S = (m ρ1 S).bind (lcB3 g t m ρ0 ds) := rfl
@[simp] theorem lcB2_f (ds : List D) (ρ1 : Env) : lcB2 g t m ρ0 ds ρ1 false S = lcL g t m ρ0 ds S := rfl
def lcB1 (g : MG) (t : MT) (m : ME) (ρ0 : Env) (ds : List D) (ρ1 : Env) (S : Store) : Res (List D) := (t ρ1 S).bind (lcB2 g t m ρ0 ds ρ1)
@[simp] theorem lcB1_ap (ds : List D) (ρ1 : Env) : lcB1 g t m ρ0 ds ρ1 S = (t ρ1 S).bind (lcB2 g t m ρ0 ds ρ1) := rfl
theorem lcL_cons (d : D) (ds : List D) : lcL g t m ρ0 (d :: ds) S = (g d ρ0 S).bind (lcB1 g t m ρ0 ds) := by
  show (g d ρ0 S).bind _ = (g d ρ0 S).bind _
  congr 1
theorem lcL_nil : lcL g t m ρ0 [] S = .ok [] S := rfl
theorem all_ev (xs : List D) : fAll [.lst xs] S = oRes ((boolsD xs).map fun bs => D.bl (bs.all id)) S := by
  unfold fAll onBools un1 rdL lstOf
  cases h : boolsD xs <;> simp [h]
theorem any_ev (xs : List D) : fAny [.lst xs] S = oRes ((boolsD xs).map fun bs => D.bl (bs.any id)) S := by
  unfold fAny onBools un1 rdL lstOf
  cases h : boolsD xs <;> simp [h]
theorem sum_ev (xs : List D) : fSum [.lst xs] S = oRes ((intsD xs).map fun bs => D.int bs.sum) S := by
  unfold fSum onInts un1 rdL lstOf
  cases h : intsD xs <;> simp [h]
end
end Q
namespace Q
open PySem L2
variable {X : Cx} {cl : Nat → Addr} {E : XK}
theorem repL3 {Γ : Gm} {α : List Addr} {G : Hp} {d d' d'' : D} {vs : List V} (r : RepL Γ α G [d, d', d''] vs) : ∃ v v' v'', vs = [v, v', v''] ∧ Rep Γ α G d v ∧ Rep Γ α G d' v' ∧ Rep Γ α G d'' v'' := by
  unfold RepL at r
  obtain ⟨v, w, rfl, h1, h2⟩ := r
  obtain ⟨v', v'', rfl, h3, h4⟩ := repL2 h2
  exact ⟨v, v', v'', rfl, h1, h3, h4⟩
def mPar3 (i j l : Nat) (n : MA) : MS := fun ρ S => (n ρ S).bind fun ds S1 => match ds with
  | [d, d', d''] => .ok (.nx (((ρ.set i (some d)).set j (some d')).set l (some d''))) S1
  | _ => .no
theorem qs_par3 (i j l : Nat) {x y z : Str} {a b c : Expr} {px py pz pt pos : Pos} {kt k2 pt2} {na : MA} (hN : X.N.Nodup) (ha : QA X cl E [a, b, c] na) (hi : X.N[i]? = some x := by rfl) (hj : X.N[j]? = some y := by rfl) (hl : X.N[l]? = some z := by rfl) (hij : i ≠ j := by decide) (hil : i ≠ l := by decide) (hjl : j ≠ l := by decide)
    (hx : X.env.scope.names.lookup x = some .local := by rfl) (hy : X.env.scope.names.lookup y = some .local := by rfl) (hz : X.env.scope.names.lookup z = some .local := by rfl) (hw : swappedStores [.Tuple [.Name x px, .Name y py, .Name z pz] kt pt] (.Tuple [a, b, c] k2 pt2) X.env = pure (some [x, y, z]) := by rfl)
    (hs : swapsWithSole [.Tuple [.Name x px, .Name y py, .Name z pz] kt pt] (.Tuple [a, b, c] k2 pt2) pos.line X.env = pure false := by rfl) (hc : X.calm = true := by rfl) : QS X cl E (.Assign [.Tuple [.Name x px, .Name y py, .Name z pz] kt pt] (.Tuple [a, b, c] k2 pt2) pos) (mPar3 i j l na) := by
  obtain ⟨t, h1, h2⟩ := ha.ex
  refine ⟨_, ps_par3 hc hN hi hj hl hij hil hjl hx hy hz h1 hw hs, fun ρ S σ α G H Dn hρ hR hp => h2 ρ S σ α G H _ hρ hR (posts_bind hp fun ds S1 α1 G1 H1 vs _ e1 R1 r1 hp1 => ?_)⟩
  match ds, hp1, r1 with
  | [d, d', d''], hp1, r1 =>
    obtain ⟨v, v', v'', rfl, rv, rv', rv''⟩ := repL3 r1
    exact ⟨v, v', v'', rfl, hp1 α1 G1 H1 _ (Ext.refl _ _ _) R1 ((((hρ.mono e1).set i rv).set j rv').set l rv'')⟩
  | [], hp1, _ => exact hp1.elim
  | [_], hp1, _ => exact hp1.elim
  | [_, _], hp1, _ => exact hp1.elim
  | _ :: _ :: _ :: _ :: _, hp1, _ => exact hp1.elim
def par3K (i j l : Nat) (ρ : Env) (ds : List D) (S : Store) : Res Fl := match ds with | [d, d', d''] => .ok (.nx (((ρ.set i (some d)).set j (some d')).set l (some d''))) S | _ => .no
@[simp] theorem par3K_3 (ρ : Env) (S : Store) (i j l : Nat) (d d' d'' : D) : par3K i j l ρ [d, d', d''] S = .ok (.nx (((ρ.set i (some d)).set j (some d')).set l (some d''))) S := (Eq.refl _).trans rfl
@[simp] theorem ap_par3 (ρ : Env) (S : Store) (i j l : Nat) (n : MA) : mPar3 i j l n ρ S = (n ρ S).bind (par3K i j l ρ) := (Eq.refl _).trans rfl
end Q
namespace Q
open PySem L2
def snap : Nat → Store → D → D
  | 0, _, d => d
  | n + 1, S, .ref k => match S[k]? with
    | some (.lst xs) => .lst (xs.map (snap n S))
    | some (.frz xs) => .lst (xs.map (snap n S))
    | _ => .ref k
  | n + 1, S, .tup ds => .tup (ds.map (snap n S))
  | n + 1, S, .lst ds => .lst (ds.map (snap n S))
  | n + 1, S, .fro ds => .fro (ds.map (snap n S))
  | n + 1, S, .obj c fs => .obj c (fs.map (snap n S))
  | n + 1, S, .exn c fs => .exn c (fs.map (snap n S))
  | _ + 1, _, d => d
/-- what a name holds, without cells: data without cells stay as they are -/
def snapO (S : Store) (o : Option D) : Option D := o.bind fun d => if pureD d then some d else if pureD (snap 3 S d) then some (snap 3 S d) else none
def snapE (S : Store) (ρ : Env) : Env := ρ.map (snapO S)
def isSc : D → Bool
  | .non => true
  | .bl _ => true
  | .int _ => true
  | .str _ => true
  | _ => false
def borK (S : Store) : Res D → Res D
  | .ok d _ => if isSc d then .ok d S else .no
  | .ex e _ => .no
  | .no => .no
def mBor (m : ME) : ME := fun ρ S => borK S (m (snapE S ρ) [])
def borTK (S : Store) : Res Bool → Res Bool
  | .ok b _ => .ok b S
  | .ex e _ => .no
  | .no => .no
def mBorT (m : MT) : MT := fun ρ S => borTK S (m (snapE S ρ) [])
section
variable {Γ : Gm} {α : List Addr} {G H : Hp} {S : Store} {E : XK}
theorem repL_map {P : D → Prop} {f : D → D} (hf : ∀ d v, P d → pureD (f d) = true → Rep Γ α G d v → Rep Γ [] H (f d) v) : ∀ (ds : List D) (vs : List V), (∀ d ∈ ds, P d) → pureL (ds.map f) = true → RepL Γ α G ds vs → RepL Γ [] H (ds.map f) vs
  | [], vs, _, _, h => by simpa [RepL] using h
  | d :: ds, vs, hP, hp, h => by
    unfold RepL at h
    obtain ⟨v, r, rfl, h1, h2⟩ := h
    rw [List.map_cons] at hp ⊢
    unfold pureL at hp
    rw [Bool.and_eq_true] at hp
    unfold RepL
    exact ⟨v, r, rfl, hf d v (hP d (by simp)) hp.1 h1, repL_map hf ds r (fun d hd => hP d (by simp [hd])) hp.2 h2⟩
theorem pure_down (hs : Sub G H) (d : D) (v : V) (hp : pureD d = true) (r : Rep Γ α G d v) : Rep Γ [] H d v := by
  have r2 : Rep Γ ([] ++ α) H d v := Rep.mono ⟨[], by simp⟩ hs d v r
  exact pure_rep d v hp r2
theorem rep_down : ∀ (d : D) (v : V), pureD d = true → Sub G H → Rep Γ α G d v → Rep Γ [] H d v := fun d v hp hs r => pure_down hs d v hp r
theorem rep_snap (R : Rl Γ α G S H) : ∀ (n : Nat) (d : D) (v : V), pureD (snap n S d) = true → Rep Γ α G d v → Rep Γ [] H (snap n S d) v
  | 0, d, v, hp, r => rep_down d v hp R.sub r
  | n + 1, d, v, hp, r => by
    have L := fun ds vs hp r => repL_map (P := fun _ => True) (H := H) (fun d v _ h r => rep_snap R n d v h r) ds vs (fun _ _ => trivial) hp r
    cases d with
    | ref k =>
      unfold Rep at r
      obtain ⟨a, rfl, ha⟩ := r
      unfold snap at hp ⊢
      cases q : S[k]? with
      | none => rw [q] at hp; cases hp
      | some c =>
        have z := R.ok k c a q ha
        rw [q] at hp
        cases c with
        | lst xs =>
          obtain ⟨vs, h1, h2, _⟩ := z.lst
          unfold Rep
          exact ⟨a, vs, rfl, h1, L xs vs hp h2⟩
        | frz xs =>
          obtain ⟨vs, h1, h2⟩ := z.frz
          unfold Rep
          exact ⟨a, vs, rfl, R.sub _ _ h1, L xs vs hp h2⟩
        | _ => cases hp
    | tup ds =>
      unfold snap at hp ⊢
      unfold Rep at r ⊢
      obtain ⟨a, vs, e, q, r⟩ := r
      exact ⟨a, vs, e, R.sub _ _ q, L ds vs hp r⟩
    | lst ds =>
      unfold snap at hp ⊢
      unfold Rep at r ⊢
      obtain ⟨a, vs, e, q, r⟩ := r
      exact ⟨a, vs, e, R.sub _ _ q, L ds vs hp r⟩
    | fro ds =>
      unfold snap at hp ⊢
      unfold Rep at r ⊢
      obtain ⟨a, vs, e, q, r⟩ := r
      exact ⟨a, vs, e, R.sub.sqL q, L ds vs hp r⟩
    | obj c fs =>
      unfold snap at hp ⊢
      unfold Rep at r ⊢
      obtain ⟨a, vs, e, ⟨dx, h1, h2⟩, r⟩ := r
      exact ⟨a, vs, e, ⟨dx, R.sub _ _ h1, R.sub _ _ h2⟩, L fs vs hp r⟩
    | exn c fs =>
      unfold snap at hp ⊢
      unfold Rep at r ⊢
      obtain ⟨a, vs, e, ⟨d, h1, h2⟩, r⟩ := r
      exact ⟨a, vs, e, ⟨d, R.sub _ _ h1, h2.keep fun _ _ z => R.sub _ _ z⟩, L fs vs hp r⟩
    | non => unfold snap at hp ⊢; exact rep_down _ v hp R.sub r
    | bl b => unfold snap at hp ⊢; exact rep_down _ v hp R.sub r
    | int i => unfold snap at hp ⊢; exact rep_down _ v hp R.sub r
    | str s => unfold snap at hp ⊢; exact rep_down _ v hp R.sub r
theorem env_snap {ρ : Env} {σ : L2.St} (hρ : EnvR Γ α G ρ σ) (R : Rl Γ α G S H) : EnvR Γ [] H (snapE S ρ) σ := by
  refine ⟨by simp [snapE, hρ.1], fun i d hd => ?_⟩
  unfold snapE at hd
  rw [List.getElem?_map] at hd
  cases q : ρ[i]? with
  | none => rw [q] at hd; cases hd
  | some o =>
    rw [q] at hd
    cases o with
    | none => cases hd
    | some d0 =>
      obtain ⟨v, h1, h2⟩ := hρ.2 i d0 q
      refine ⟨v, h1, ?_⟩
      simp only [Option.map_some, Option.some.injEq, snapO, Option.bind_some] at hd
      split at hd
      · rename_i hp
        cases hd
        exact rep_down d v hp R.sub h2
      · split at hd
        · rename_i hp
          cases hd
          exact rep_snap R 3 d0 v hp h2
        · cases hd
theorem rl_bare : Rl Γ [] H [] H := ⟨Sub.refl H, rfl, List.Pairwise.nil, fun a m => by simp at m, fun k c a h _ => by simp at h⟩
theorem ext_back {α' : List Addr} {G' H' : Hp} (R : Rl Γ α G S H) (e : Ext [] H H α' G' H') : Ext α G H α G H' ∧ Rl Γ α G S H' := by
  have st : ∀ a o, H a = some o → H' a = some o := fun a o h => e.fr a o h (by simp)
  refine ⟨⟨⟨[], by simp⟩, Sub.refl G, fun a o h _ => st a o h, fun a m => .inl m, fun a h => .inl h⟩, ⟨fun a u h => st a u (R.sub a u h), R.len, R.nd, fun a m z => ?_, fun k c a hc ha => ?_⟩⟩
  · cases q : H a with
    | none => exact R.tr a m q
    | some o => rw [st a o q] at z; cases z
  · refine (R.ok k c a hc ha).mono ⟨[], by simp⟩ (Sub.refl G) fun _ => ⟨?_, fun h => h⟩
    cases q : H a with
    | none => exact absurd q (R.tr a (List.mem_of_getElem? ha))
    | some o => exact st a o q
theorem snd_bor {t : TE} {m : ME} (h : SndE Γ E t m) : SndE Γ E t (mBor m) := fun ρ S σ α G H Q hρ hR hp => by
  refine h _ [] σ [] H H Q (env_snap hρ hR) rl_bare ?_
  unfold mBor borK at hp
  split at hp
  · rename_i d S' q
    rw [q]
    intro α' G' H' v e R r
    split at hp
    · rename_i hs
      obtain ⟨e2, R2⟩ := ext_back hR e
      refine hp α G H' v e2 R2 ?_
      cases d <;> first | (simp [isSc] at hs; done) | (simp only [Rep] at r ⊢; exact r)
    · exact hp.elim
  · exact hp.elim
  · exact hp.elim
theorem snd_borT {t : TT} {m : MT} (h : SndT Γ E t m) : SndT Γ E t (mBorT m) := fun ρ S σ α G H Q hρ hR hp => by
  refine h _ [] σ [] H H Q (env_snap hρ hR) rl_bare ?_
  unfold mBorT borTK at hp
  split at hp
  · rename_i d S' q
    rw [q]
    intro α' G' H' v e R r
    obtain ⟨e2, R2⟩ := ext_back hR e
    exact hp α G H' v e2 R2 r
  · exact hp.elim
  · exact hp.elim
end
section
variable {X : Cx} {cl : Nat → Addr} {E : XK}
theorem q_bor {e : Expr} {m : ME} (h : QE X cl E e m) : QE X cl E e (mBor m) := by
  obtain ⟨t, h1, h2⟩ := h.ex
  exact ⟨t, h1, snd_bor h2⟩
theorem q_borT {e : Expr} {m : MT} (h : QT X cl E e m) : QT X cl E e (mBorT m) := by
  obtain ⟨t, h1, h2⟩ := h.ex
  exact ⟨t, h1, snd_borT h2⟩
end
section
variable {S : Store} {ρ : Env}
@[simp] theorem ap_bor (m : ME) : mBor m ρ S = borK S (m (snapE S ρ) []) := (Eq.refl _).trans rfl
@[simp] theorem ap_borT (m : MT) : mBorT m ρ S = borTK S (m (snapE S ρ) []) := (Eq.refl _).trans rfl
@[simp] theorem snapE_nil : snapE S [] = [] := (Eq.refl _).trans rfl
@[simp] theorem snapE_cons (o : Option D) : snapE S (o :: ρ) = snapO S o :: snapE S ρ := (Eq.refl _).trans rfl
@[simp] theorem snapO_none : snapO S none = none := (Eq.refl _).trans rfl
theorem snapO_pure {d : D} (h : pureD d = true) : snapO S (some d) = some d := by simp [snapO, h]
theorem snap_pure : ∀ (n : Nat) (d : D), pureD d = true → snap n S d = d
  | 0, _, _ => rfl
  | n + 1, d, h => by
    have L : ∀ ds : List D, pureL ds = true → ds.map (snap n S) = ds := fun ds => by
      induction ds with
      | nil => exact fun _ => rfl
      | cons d ds ih =>
        intro h
        unfold pureL at h
        rw [Bool.and_eq_true] at h
        rw [List.map_cons, snap_pure n d h.1, ih h.2]
    cases d with
    | ref k => cases h
    | tup ds => unfold snap; rw [L ds h]
    | lst ds => unfold snap; rw [L ds h]
    | fro ds => unfold snap; rw [L ds h]
    | obj c fs => unfold snap; rw [L fs h]
    | exn c fs => unfold snap; rw [L fs h]
    | _ => rfl
theorem snapO_ref {k : Nat} {xs : List D} (h : S[k]? = some (.lst xs)) (hp : pureL xs = true) : snapO S (some (.ref k)) = some (.lst xs) := by
  have e : snap 3 S (.ref k) = .lst xs := by
    unfold snap
    rw [h]
    show D.lst (xs.map (snap 2 S)) = _
    have := snap_pure (S := S) 3 (.lst xs) hp
    unfold snap at this
    exact this
  have e2 : pureD (.lst xs) = true := hp
  simp only [snapO, Option.bind_some, e, e2, if_true]
  rfl
@[simp] theorem borTK_ok (b : Bool) (S' : Store) : borTK S (.ok b S') = .ok b S := (Eq.refl _).trans rfl
@[simp] theorem borK_bl (b : Bool) (S' : Store) : borK S (.ok (.bl b) S') = .ok (.bl b) S := (Eq.refl _).trans rfl
@[simp] theorem borK_int (b : Int) (S' : Store) : borK S (.ok (.int b) S') = .ok (.int b) S := (Eq.refl _).trans rfl
@[simp] theorem borK_non (S' : Store) : borK S (.ok .non S') = .ok .non S := (Eq.refl _).trans rfl
@[simp] theorem borK_str (b : Str) (S' : Store) : borK S (.ok (.str b) S') = .ok (.str b) S := (Eq.refl _).trans rfl
end
end Q
namespace Q
open PySem L2
def lim : Int := 1000000
def pairsOf : List D → Option (List (Int × Int))
  | [] => some []
  | .tup [.int i, .int j] :: xs => if (0 ≤ i ∧ i < lim) ∧ 0 ≤ j ∧ j < lim then (pairsOf xs).map ((i, j) :: ·) else none
  | _ :: _ => none
def plt (a b : Int × Int) : Prop := a.1 < b.1 ∨ (a.1 = b.1 ∧ a.2 < b.2)
instance (a b : Int × Int) : Decidable (plt a b) := by unfold plt; infer_instance
theorem plt_irr (a : Int × Int) : ¬ plt a a := by unfold plt; omega
theorem plt_trans {a b c : Int × Int} (h : plt a b) (h' : plt b c) : plt a c := by unfold plt at *; omega
theorem plt_tri {a b : Int × Int} (h : a ≠ b) (h' : ¬ plt a b) : plt b a := by
  unfold plt at *
  by_cases e : a.1 = b.1
  · by_cases e2 : a.2 = b.2
    · exact absurd (Prod.ext e e2) h
    · omega
  · omega
def insU (x : Int × Int) : List (Int × Int) → List (Int × Int)
  | [] => [x]
  | y :: ys => if x = y then y :: ys else if plt x y then x :: y :: ys else y :: insU x ys
def sortU : List (Int × Int) → List (Int × Int)
  | [] => []
  | x :: xs => insU x (sortU xs)
theorem mem_insU {x z : Int × Int} : ∀ {ys : List (Int × Int)}, z ∈ insU x ys ↔ z = x ∨ z ∈ ys
  | [] => by simp [insU]
  | y :: ys => by
    unfold insU
    split
    · rename_i e
      subst e
      simp
    · split
      · simp
      · simp only [List.mem_cons, mem_insU (ys := ys)]
        constructor <;> (intro h; rcases h with h | h | h <;> simp [h])
theorem mem_sortU {z : Int × Int} : ∀ {xs : List (Int × Int)}, z ∈ sortU xs ↔ z ∈ xs
  | [] => by simp [sortU]
  | x :: xs => by
    unfold sortU
    rw [mem_insU, mem_sortU, List.mem_cons]
theorem insU_up {x : Int × Int} : ∀ {ys : List (Int × Int)}, ys.Pairwise plt → (insU x ys).Pairwise plt
  | [], _ => by simp [insU]
  | y :: ys, h => by
    have h' := List.pairwise_cons.mp h
    unfold insU
    split
    · exact h
    · rename_i hne
      split
      · rename_i hlt
        refine List.pairwise_cons.mpr ⟨fun z hz => ?_, h⟩
        rcases List.mem_cons.mp hz with rfl | m
        · exact hlt
        · exact plt_trans hlt (h'.1 z m)
      · rename_i hlt
        refine List.pairwise_cons.mpr ⟨fun z hz => ?_, insU_up h'.2⟩
        rcases mem_insU.mp hz with rfl | m
        · exact plt_tri hne hlt
        · exact h'.1 z m
theorem sortU_up : ∀ xs : List (Int × Int), (sortU xs).Pairwise plt
  | [] => by simp [sortU]
  | x :: xs => insU_up (sortU_up xs)
/-- rising lists of the same members are the same -/
theorem up_uniq : ∀ (xs ys : List (Int × Int)), xs.Pairwise plt → ys.Pairwise plt → (∀ z, z ∈ xs ↔ z ∈ ys) → xs = ys
  | [], [], _, _, _ => rfl
  | [], y :: ys, _, _, h => absurd ((h y).mpr (by simp)) (by simp)
  | x :: xs, [], _, _, h => absurd ((h x).mp (by simp)) (by simp)
  | x :: xs, y :: ys, hx, hy, h => by
    have hx' := List.pairwise_cons.mp hx
    have hy' := List.pairwise_cons.mp hy
    have e : x = y := by
      rcases List.mem_cons.mp ((h x).mp (by simp)) with e | m
      · exact e
      · rcases List.mem_cons.mp ((h y).mpr (by simp)) with e | m'
        · exact e.symm
        · exact absurd (plt_trans (hx'.1 y m') (hy'.1 x m)) (plt_irr x)
    subst e
    rw [up_uniq xs ys hx'.2 hy'.2 fun z => ⟨fun m => ?_, fun m => ?_⟩]
    · rcases List.mem_cons.mp ((h z).mp (by simp [m])) with e | m'
      · subst e; exact absurd (hx'.1 z m) (plt_irr z)
      · exact m'
    · rcases List.mem_cons.mp ((h z).mpr (by simp [m])) with e | m'
      · subst e; exact absurd (hy'.1 z m) (plt_irr z)
      · exact m'
def pairD (p : Int × Int) : D := .tup [.int p.1, .int p.2]
/-- what pairs lie as -/
theorem pairs_at {Γ : Gm} {α : List Addr} {G : Hp} : ∀ (xs : List D) (ps : List (Int × Int)) (vs : List V), pairsOf xs = some ps → RepL Γ α G xs vs →
    ∃ ks : List (Addr × List Int), vs = ks.map (fun p => V.ref p.1) ∧ (∀ p ∈ ks, G p.1 = some (.tup (p.2.map V.int))) ∧ ks.map (·.2) = ps.map (fun p => [p.1, p.2]) ∧ ∀ p ∈ ps, (0 ≤ p.1 ∧ p.1 < lim) ∧ 0 ≤ p.2 ∧ p.2 < lim
  | [], ps, vs, h, r => by
    unfold RepL at r
    subst r
    cases h
    exact ⟨[], rfl, by simp, rfl, by simp⟩
  | x :: xs, ps, vs, h, r => by
    unfold pairsOf at h
    split at h
    · rename_i e; cases e
    · rename_i i j ys e
      cases e
      split at h
      · rename_i hb
        cases q : pairsOf xs with
        | none => rw [q] at h; cases h
        | some qs =>
          rw [q] at h
          cases h
          unfold RepL at r
          obtain ⟨v, w, rfl, r1, r2⟩ := r
          obtain ⟨ks, rfl, h1, h2, h3⟩ := pairs_at xs qs w q r2
          unfold Rep at r1
          obtain ⟨a, us, rfl, s1, t1⟩ := r1
          have e : us = [V.int i, V.int j] := by
            obtain ⟨u, u', rfl, t2, t3⟩ := repL2 t1
            simp only [Rep] at t2 t3
            rw [t2, t3]
          subst e
          refine ⟨(a, [i, j]) :: ks, rfl, fun p hp => ?_, by simp [h2], fun p hp => ?_⟩
          · rcases List.mem_cons.mp hp with rfl | m
            · exact s1
            · exact h1 p m
          · rcases List.mem_cons.mp hp with rfl | m
            · exact hb
            · exact h3 p m
      · cases h
    · cases h
def pk (l : List Int) : Int × Int := (l.headD 0, (l.drop 1).headD 0)
theorem code2 (x y : Int) : TS.code lim [x, y] = x * lim + y := by
  show x * lim ^ 1 + (y * lim ^ 0 + 0) = x * lim + y
  have e1 : lim ^ 1 = lim := by decide
  have e0 : lim ^ 0 = 1 := by decide
  rw [e1, e0, Int.mul_one, Int.add_zero]
theorem rep_pairs {Γ : Gm} {α : List Addr} {G : Hp} : ∀ (L : List (Addr × List Int)), (∀ p ∈ L, G p.1 = some (.tup (p.2.map V.int))) → (∀ p ∈ L, ∃ i j, p.2 = [i, j]) → RepL Γ α G ((L.map fun p => pk p.2).map pairD) (L.map fun p => V.ref p.1)
  | [], _, _ => by simp [RepL]
  | p :: L, h, h2 => by
    obtain ⟨i, j, e⟩ := h2 p (by simp)
    have h1 := h p (by simp)
    rw [List.map_cons, List.map_cons, List.map_cons]
    unfold RepL
    refine ⟨_, _, rfl, ?_, rep_pairs L (fun q hq => h q (by simp [hq])) fun q hq => h2 q (by simp [hq])⟩
    rw [e] at h1 ⊢
    unfold pairD Rep
    exact ⟨p.1, [V.int i, V.int j], rfl, h1, by simp [RepL, Rep, pk]⟩
section
variable {X : Cx} {cl : Nat → Addr} {E : XK} {e : Expr} {m : ME} {pos : Pos}
theorem ss_pairs {xs : List D} {ps : List (Int × Int)} {v : V} {α1 : List Addr} {G1 H1 : Hp} {S1 : Store} {Q Q2 : VK} (R1 : Rl ⟨X.K, cl⟩ α1 G1 S1 H1) (r1 : Rep ⟨X.K, cl⟩ α1 G1 (.lst xs) v) (q : pairsOf xs = some ps) (hl : ps.length < 64)
    (hp1 : Post ⟨X.K, cl⟩ (Rep ⟨X.K, cl⟩) α1 G1 H1 (.ok (.lst ((sortU ps).map pairD)) S1) Q E) (hQ : ∀ x H2, rSortedT X.K X.prog X.w [x] H2 Q → Q2 x H2) : rSetOfT X.K X.prog X.w [v] H1 Q2 := by
  unfold Rep at r1
  obtain ⟨l, vs, rfl, s1, t1⟩ := r1
  obtain ⟨ks, rfl, k1, k2, k3⟩ := pairs_at xs ps vs q t1
  have hlen : ks.length = ps.length := by have := congrArg List.length k2; simpa using this
  have two : ∀ p ∈ ks, ∃ i j, p.2 = [i, j] ∧ (i, j) ∈ ps := fun p hp => by
    have : p.2 ∈ ps.map (fun p => [p.1, p.2]) := by rw [← k2]; exact List.mem_map.mpr ⟨p, hp, rfl⟩
    obtain ⟨u, hu, e⟩ := List.mem_map.mp this
    exact ⟨u.1, u.2, e.symm, hu⟩
  refine ⟨l, ks, rfl, R1.sub.sqL (.inl (.inl s1)), fun p hp => .inl (.inl (R1.sub _ _ (k1 p hp))), by rw [hlen]; exact hl, fun a L ha hL hL2 => ?_⟩
  obtain ⟨R2, e2⟩ := R1.new ha (SetTO X.prog X.w a L)
  refine hQ _ _ ?_
  refine ⟨a, L, 2, lim, rfl, upd_same, fun p hp => .inl (.inl (R2.sub _ _ (e2.sub _ _ (k1 p (hL p hp))))), by decide, fun p hp => ?_, fun L' b pm nd hf pw hb => ?_⟩
  · obtain ⟨i, j, e, hm⟩ := two p (hL p hp)
    have b := k3 _ hm
    refine ⟨by rw [e]; rfl, fun z hz => ?_⟩
    rw [e] at hz
    simp at hz
    rcases hz with rfl | rfl
    · exact b.1
    · exact b.2
  · have two' : ∀ p ∈ L', ∃ i j, p.2 = [i, j] ∧ (i, j) ∈ ps := fun p hp => two p (hL p (pm.subset hp))
    have eM : (L'.map fun p => pk p.2) = sortU ps := by
      refine up_uniq _ _ ?_ (sortU_up ps) fun z => ?_
      · rw [List.pairwise_map]
        have nd' : L'.Pairwise fun p q => p.2 ≠ q.2 := by
          have := nd
          unfold List.Nodup at this
          rwa [List.pairwise_map] at this
        refine (pw.and nd').imp_of_mem fun {p q} hp hq hpq => ?_
        obtain ⟨i, j, ep, mp⟩ := two' p hp
        obtain ⟨i', j', eq, mq⟩ := two' q hq
        have b := k3 _ mp
        have b' := k3 _ mq
        have c := hpq.1
        have ne := hpq.2
        rw [ep, eq, code2, code2] at c
        rw [ep, eq] at ne ⊢
        show plt (i, j) (i', j')
        unfold plt
        simp only at b b' ⊢
        unfold lim at *
        by_cases e : i = i'
        · by_cases e3 : j = j'
          · exact absurd (by rw [e, e3]) ne
          · right; omega
        · left; omega
      · rw [mem_sortU]
        constructor
        · intro hz
          obtain ⟨p, hp, rfl⟩ := List.mem_map.mp hz
          obtain ⟨i, j, ep, mp⟩ := two' p hp
          rw [ep]
          exact mp
        · intro hz
          have : [z.1, z.2] ∈ ks.map (·.2) := by rw [k2]; exact List.mem_map.mpr ⟨z, hz, rfl⟩
          obtain ⟨p, hp, e⟩ := List.mem_map.mp this
          obtain ⟨p', hp', e'⟩ := List.mem_map.mp (hL2 p hp)
          exact List.mem_map.mpr ⟨p', pm.mem_iff.mpr hp', by rw [e', e]; rfl⟩
    obtain ⟨R3, e3⟩ := R2.new hb (.lst (L'.map fun q => V.ref q.1))
    refine hp1 _ _ _ _ (e2.trans e3) R3 (rep_lst upd_same ?_)
    rw [← eM]
    exact rep_pairs L' (fun p hp => e3.sub _ _ (e2.sub _ _ (k1 p (hL p (pm.subset hp))))) fun p hp => by
      obtain ⟨i, j, e, _⟩ := two' p hp
      exact ⟨i, j, e⟩
end
section
variable {S : Store} {ρ : Env}
theorem pairsOf_map : ∀ (ps : List (Int × Int)), (∀ p ∈ ps, (0 ≤ p.1 ∧ p.1 < lim) ∧ 0 ≤ p.2 ∧ p.2 < lim) → pairsOf (ps.map pairD) = some ps
  | [], _ => rfl
  | p :: ps, h => by
    rw [List.map_cons]
    unfold pairD pairsOf
    rw [if_pos (h p (by simp)), show ps.map (fun p => D.tup [.int p.1, .int p.2]) = ps.map pairD from rfl, pairsOf_map ps fun q hq => h q (by simp [hq])]
    rfl
end
end Q
namespace L2
open PySem PySem.Spec PyProof.Rows
section
variable {P : Program} {w : World} {A : Around} {E : Value → Shared → Prop} {s : Shared}
/-- a set without members -/
abbrev bare (w : World) : Obj := { cls := .type "set", dict := none, data := .set #[] 0 (.fresh 0 0 (!w.params.followText "set-order")) }
abbrev walker (l : Addr) : Obj := { cls := .type "list_iterator", data := .fields #[.ref l, .int 0 0] }
/-- what filling it from a list of ints leaves -/
def Filled (w : World) (s : Shared) (ns : List Int) (s' : Shared) : Prop := ∃ h' tk c, s' = { s with heap := h', toks := tk } ∧ SetR w h' s.heap.objs.size (fun j => decide (j ∈ ns)) c ∧ c ≤ ns.length ∧ ∀ b o, s.heap.get? b = some o → h'.get? b = some o
theorem fill_list {l : Addr} {xs : Array Value} {ns : List Int} (hh : A.handled = none) (hl : s.heap.IsList l xs) (hi : IntsAre xs.toList ns) (hb : ns.length + 1 < scanBound) :
    codeAny (model P w) A (.call (.builtin "set.__init__") ⟨[.ref s.heap.objs.size, .ref l], []⟩) (wants (fun r s₂ => r = .none ∧ Filled w s ns s₂) E) { s with heap := s.heap.push (bare w) } := by
  have len : xs.size = ns.length := by simpa using IntsAre.length hi
  obtain ⟨o, ho, hc, k, hd⟩ := hl
  obtain ⟨oc, odi, oda, osl⟩ := o
  simp only at hc hd
  subst hc hd
  have lt0 : l < s.heap.objs.size := Heap.lt_size ho
  have sz : (s.heap.push (bare w)).objs.size = s.heap.objs.size + 1 := Heap.size_push ..
  have at_ : (s.heap.push (bare w)).get? l = some { cls := .type "list", dict := odi, data := .seq xs k, slots := osl } := Heap.get?_push_of_some _ ho
  have isl : (s.heap.push (bare w)).IsList l xs := ⟨_, at_, rfl, k, rfl⟩
  have ty : Shared.TypeIs { s with heap := s.heap.push (bare w) } (.ref s.heap.objs.size) "set" := ⟨_, Heap.get?_push_size _ rfl, rfl⟩
  refine codeAny_call_builtin F.called_set.init.plain F.entry_set_init (check_set_init_1 ty ?_)
  have f1 := F.sub_list_set
  have f2 := F.sub_list_frozenset
  have f3 : (Value.type "list" == Value.type "dict") = false := by decide
  unfold Builtin.«set.__init__» noKeywords Builtin.Frozenset.updateFrom
  generalize hit : pyIter = it
  wp_walk
  subst hit
  refine wpAny_pyIter_list isl (wpAny_bind (wpAny_runValue ?_))
  have away : l ≠ (s.heap.push (bare w)).objs.size := by rw [sz]; exact Nat.ne_of_lt (Nat.lt_succ_of_lt lt0)
  have away2 : s.heap.objs.size ∉ [(s.heap.push (bare w)).objs.size, l] := by simp [sz]; exact Nat.ne_of_gt lt0
  have val : ∀ (i : Nat) (v : Value), xs[i]? = some v → ∃ k t, ns[i]? = some k ∧ v = .int k t := fun i v hv => by
    have lt : i < ns.length := by have := (Array.getElem?_eq_some_iff.mp hv).1; omega
    obtain ⟨t, e⟩ := PyProof.Rows.IntsAre.int_at hi i v (by rw [Array.getElem?_toList]; exact hv)
    exact ⟨ns[i], t, List.getElem?_eq_getElem lt, by rw [e, List.getD_eq_getElem?_getD, List.getElem?_eq_getElem lt]; rfl⟩
  have g0 : ((s.heap.push (bare w)).push (walker l)).get? s.heap.objs.size = some (bare w) := Heap.get?_push_of_some _ (Heap.get?_push_size _ rfl)
  refine set_update_ints ((Walks.list (by simp [hh]) _ l away xs).toS) s.heap.objs.size away2 ns len hb val (xs.size - 0) 0 _ (by omega) (Nat.zero_le _) ⟨⟨_, Heap.get?_push_size _ rfl, rfl, rfl⟩, isl.push _⟩ ⟨0, Nat.le_refl 0, setR_new_at g0⟩ fun s' c hm hc hs => ?_
  obtain ⟨h', g', d', tk', os'⟩ := s'
  obtain rfl : g' = s.gens := hm.gens
  obtain rfl : d' = s.drawn := hm.drawn
  obtain rfl : os' = s.os := hm.os
  show wpAny _ _ _ _ _ _
  refine wpAny_pure ?_
  show wpAny _ _ (ret Value.none) _ _ _
  refine wpAny_pure ⟨rfl, h', tk', c, rfl, hs, by omega, fun b o e => ?_⟩
  have lb := Heap.lt_size e
  exact hm.heap b o (by simp [sz]; exact ⟨Nat.ne_of_lt lb, Nat.ne_of_lt (Nat.lt_succ_of_lt lb)⟩) (Heap.get?_push_of_some _ (Heap.get?_push_of_some _ e))
theorem set_ofL {l : Addr} {xs : Array Value} {ns : List Int} {Q : Value → Shared → Prop} (hh : A.handled = none) (hl : s.heap.IsList l xs) (hi : IntsAre xs.toList ns) (hb : ns.length + 1 < scanBound) (q : ∀ s', Filled w s ns s' → Q (.ref s.heap.objs.size) s') :
    wpAny (model P w) A (call (.type "set") [.ref l]) Q E s := by
  obtain ⟨c, tl, mro⟩ := F.called_set.mro
  have m1 := F.called_set.made
  have m2 := F.called_set.sub
  have m3 := F.called_set.notType
  have m4 := F.called_set.canCreate
  have m5 := F.typeCall_set_1 (.ref l)
  refine wpAny_call (codeAny_of_tree ?_)
  show wpAny _ _ (callAny (.type "set") _) _ _ _
  refine wpAny_pure ⟨Code.quiet_builtin _ (by decide +kernel), codeAny_builtin F.entry_type_call ?_⟩
  rw [Around.under_plain (weight_type_call_type "set" [.ref l] []) rfl]
  repeat (any_goals (first | assumption | wp_step))
  refine codeAny_mono (code_set_led1 (.ref l) (E := E) (Q₁ := fun o t => o = .ref s.heap.objs.size ∧ t = { s with heap := s.heap.push (bare w) }) ⟨rfl, rfl⟩) fun r t hr => ?_
  cases r with
  | error e => exact hr
  | ok fl =>
    cases fl with
    | ret obj =>
      obtain ⟨rfl, rfl⟩ := hr
      have i1 := F.called_set.init.lookup
      have i2 := F.called_set.init.bind (.ref s.heap.objs.size)
      have is : Shared.TypeIs { s with heap := s.heap.push (bare w) } (.ref s.heap.objs.size) "set" := ⟨_, Heap.get?_push_size _ rfl, rfl⟩
      repeat (any_goals (first | assumption | wp_step))
      refine codeAny_mono (fill_list (P := P) (E := E) (by simp [hh]) hl hi hb) fun r2 s2 hr2 => ?_
      cases r2 with
      | error e => exact hr2
      | ok fl2 =>
        cases fl2 with
        | ret r =>
          obtain ⟨rfl, hf⟩ := hr2
          repeat (any_goals (first | assumption | wp_step))
          exact q _ hf
        | _ => exact hr2.elim
    | _ => exact hr.elim
end
section
variable {X : Cx}
/-- set(xs), xs a list of ints -/
def rSetOfL (K : PySem.W.Frag) (w : World) : List V → Hp → VK → Prop := fun vs H Q => ∃ (l : Addr) (ns : List Int), vs = [V.ref l] ∧ SqL K H l (ns.map V.int) ∧ ns.length + 1 < scanBound ∧ ∀ a c, H a = none → c ≤ ns.length → Q (.ref a) (upd H a (SetO w a (fun j => decide (j ∈ ns)) c))
theorem cr_setL (hc : X.calm = true) : CallR X (.type "set") (rSetOfL X.K X.w) := by
  intro pins s σ H vs us Q I r h
  obtain ⟨l, ns, rfl, hl, hb, q⟩ := h
  obtain ⟨its, rv, li, hz⟩ := I.list hl
  rw [Vals.ref1 r]
  refine set_ofL (I.ok.hd hc) li.isList (by simpa using rv.ints) hb fun s' hf => ?_
  obtain ⟨h', tk, c, rfl, hs, hcl, keep⟩ := hf
  exact ⟨.ref _, upd H s.heap.objs.size (SetO X.w s.heap.objs.size (fun j => decide (j ∈ ns)) c), I.laid (t' := tk) keep (Nat.le_refl _) (setO_new hs), rfl, q _ c (I.hok.fresh (Nat.le_refl _)) hcl⟩
end
end L2
namespace Q
open PySem L2
def intsOf : List D → Option (List Int)
  | [] => some []
  | .int i :: xs => (intsOf xs).map (i :: ·)
  | _ :: _ => none
def insN (x : Int) : List Int → List Int
  | [] => [x]
  | y :: ys => if x = y then y :: ys else if x < y then x :: y :: ys else y :: insN x ys
def sortN : List Int → List Int
  | [] => []
  | x :: xs => insN x (sortN xs)
theorem mem_insN {x z : Int} : ∀ {ys : List Int}, z ∈ insN x ys ↔ z = x ∨ z ∈ ys
  | [] => by simp [insN]
  | y :: ys => by
    unfold insN
    split
    · rename_i e
      subst e
      simp
    · split
      · simp
      · simp only [List.mem_cons, mem_insN (ys := ys)]
        constructor <;> (intro h; rcases h with h | h | h <;> simp [h])
theorem mem_sortN {z : Int} : ∀ {xs : List Int}, z ∈ sortN xs ↔ z ∈ xs
  | [] => by simp [sortN]
  | x :: xs => by
    unfold sortN
    rw [mem_insN, mem_sortN, List.mem_cons]
theorem insN_up {x : Int} : ∀ {ys : List Int}, ys.Pairwise (· < ·) → (insN x ys).Pairwise (· < ·)
  | [], _ => by simp [insN]
  | y :: ys, h => by
    have h' := List.pairwise_cons.mp h
    unfold insN
    split
    · exact h
    · rename_i hne
      split
      · rename_i hlt
        refine List.pairwise_cons.mpr ⟨fun z hz => ?_, h⟩
        rcases List.mem_cons.mp hz with rfl | m
        · exact hlt
        · exact Int.lt_trans hlt (h'.1 z m)
      · rename_i hlt
        refine List.pairwise_cons.mpr ⟨fun z hz => ?_, insN_up h'.2⟩
        rcases mem_insN.mp hz with rfl | m
        · omega
        · exact h'.1 z m
theorem sortN_up : ∀ xs : List Int, (sortN xs).Pairwise (· < ·)
  | [] => by simp [sortN]
  | x :: xs => insN_up (sortN_up xs)
theorem upN_uniq : ∀ (xs ys : List Int), xs.Pairwise (· < ·) → ys.Pairwise (· < ·) → (∀ z, z ∈ xs ↔ z ∈ ys) → xs = ys
  | [], [], _, _, _ => rfl
  | [], y :: ys, _, _, h => absurd ((h y).mpr (by simp)) (by simp)
  | x :: xs, [], _, _, h => absurd ((h x).mp (by simp)) (by simp)
  | x :: xs, y :: ys, hx, hy, h => by
    have hx' := List.pairwise_cons.mp hx
    have hy' := List.pairwise_cons.mp hy
    have e : x = y := by
      rcases List.mem_cons.mp ((h x).mp (by simp)) with e | m
      · exact e
      · rcases List.mem_cons.mp ((h y).mpr (by simp)) with e | m'
        · exact e.symm
        · have a := hx'.1 y m'
          have b := hy'.1 x m
          omega
    subst e
    rw [upN_uniq xs ys hx'.2 hy'.2 fun z => ⟨fun m => ?_, fun m => ?_⟩]
    · rcases List.mem_cons.mp ((h z).mp (by simp [m])) with e | m'
      · have := hx'.1 z m; omega
      · exact m'
    · rcases List.mem_cons.mp ((h z).mpr (by simp [m])) with e | m'
      · have := hy'.1 z m; omega
      · exact m'
theorem ints_at {Γ : Gm} {α : List Addr} {G : Hp} : ∀ (xs : List D) (ns : List Int) (vs : List V), intsOf xs = some ns → RepL Γ α G xs vs → vs = ns.map V.int
  | [], ns, vs, h, r => by
    unfold RepL at r
    subst r
    cases h
    rfl
  | x :: xs, ns, vs, h, r => by
    unfold intsOf at h
    split at h
    · rename_i e; cases e
    · rename_i i ys e
      cases e
      cases q : intsOf xs with
      | none => rw [q] at h; cases h
      | some ms =>
        rw [q] at h
        cases h
        unfold RepL at r
        obtain ⟨v, w, rfl, r1, r2⟩ := r
        rw [ints_at xs ms w q r2]
        simp only [Rep] at r1
        rw [r1]
        rfl
    · cases h
theorem rep_ints {Γ : Gm} {α : List Addr} {G : Hp} : ∀ ns : List Int, RepL Γ α G (ns.map D.int) (ns.map V.int)
  | [] => by simp [RepL]
  | n :: ns => by
    rw [List.map_cons, List.map_cons]
    unfold RepL
    exact ⟨_, _, rfl, by simp [Rep], rep_ints ns⟩
/-- the members of a list, each once, ascending: pairs of small ints, or ints -/
def ssK (d : D) (S : Store) : Res D := match d with
  | .lst xs => match pairsOf xs with
    | some ps => if ps.length < 64 then .ok (.lst ((sortU ps).map pairD)) S else .no
    | none => match intsOf xs with
      | some ns => if ns.length < 64 then .ok (.lst ((sortN ns).map .int)) S else .no
      | none => .no
  | _ => .no
def mSortSet (m : ME) : ME := fun ρ S => (m ρ S).bind ssK
section
variable {X : Cx} {cl : Nat → Addr} {E : XK} {e : Expr} {m : ME} {pos : Pos}
theorem q_sortset {k : Nat} {p p1 p2 : Pos} (hr : Room k X.A) (h : QE X cl E e m) (hg : Gl X "sorted") (hm : X.mg "sorted" = none) (hg' : Gl X "set") (hm' : X.mg "set" = none) (hc : X.calm = true := by rfl)
    (he : starEach [e] X.env = (false, eval e X.env) :: starEach [] X.env := by rfl)
    (he2 : starEach [.Call (.Name "set" p1) [e] [] p2] X.env = (false, eval (.Call (.Name "set" p1) [e] [] p2) X.env) :: starEach [] X.env := by rfl)
    (hpl : (backTo p2 (starEach [] X.env)).any (·.1) = false := by rfl) (hpl2 : (backTo pos (starEach [] X.env)).any (·.1) = false := by rfl) :
    QE X cl E (.Call (.Name "sorted" p) [.Call (.Name "set" p1) [e] [] p2] [] pos) (mSortSet m) := by
  obtain ⟨t, h1, h2⟩ := h.ex
  have c1 := pe_callTy (pos := p2) (p := p1) ((cr_setOfT hc hr.units).or (cr_setL hc)) hg' hm' (by rfl) (pa_cons h1 pa_nil he) (by decide) (by decide) he hpl
  refine ⟨_, pe_callB ((cr_sortedT hc).or (cr_sortedSet hc)) hg hm (by rfl) (pa_cons c1 pa_nil he2) (by decide) (by decide) he2 hpl2, fun ρ S σ α G H Q hρ hR hp => ?_⟩
  refine h2 ρ S σ α G H _ hρ hR (post_bind hp fun d S1 α1 G1 H1 v _ e1 R1 r1 hp1 => ?_)
  cases d with
  | lst xs =>
    simp only [ssK] at hp1
    cases q : pairsOf xs with
    | some ps =>
      rw [q] at hp1
      simp only at hp1
      split at hp1
      · rename_i hl
        exact .inl (ss_pairs R1 r1 q hl hp1 fun x H2 z => .inl z)
      · exact hp1.elim
    | none =>
      rw [q] at hp1
      simp only at hp1
      cases q2 : intsOf xs with
      | none => rw [q2] at hp1; exact hp1.elim
      | some ns =>
        rw [q2] at hp1
        simp only at hp1
        split at hp1
        · rename_i hl
          unfold Rep at r1
          obtain ⟨l, vs, rfl, s1, t1⟩ := r1
          have ev := ints_at xs ns vs q2 t1
          subst ev
          refine .inr ⟨l, ns, rfl, R1.sub.sqL (.inl (.inl s1)), by unfold scanBound; omega, fun a c ha hcl => .inr ⟨a, _, c, rfl, upd_same, by omega, fun ns' b pw mem len hb => ?_⟩⟩
          have en : ns' = sortN ns := upN_uniq _ _ pw (sortN_up ns) fun z => by rw [mem_sortN, mem z]; exact decide_eq_true_iff
          subst en
          obtain ⟨R2, e2⟩ := R1.new ha (SetO X.w a (fun j => decide (j ∈ ns)) c)
          obtain ⟨R3, e3⟩ := R2.new hb (.lst ((sortN ns).map V.int))
          exact hp1 _ _ _ _ (e2.trans e3) R3 (rep_lst upd_same (rep_ints _))
        · exact hp1.elim
  | _ => exact hp1.elim
end
section
variable {S : Store} {ρ : Env}
@[simp] theorem ap_sortset (m : ME) : mSortSet m ρ S = (m ρ S).bind ssK := (Eq.refl _).trans rfl
theorem ssK_pairs {ps : List (Int × Int)} (h : ∀ p ∈ ps, (0 ≤ p.1 ∧ p.1 < lim) ∧ 0 ≤ p.2 ∧ p.2 < lim) (hl : ps.length < 64) : ssK (.lst (ps.map pairD)) S = .ok (.lst ((sortU ps).map pairD)) S := by
  simp only [ssK, pairsOf_map ps h, hl, if_true]
theorem intsOf_map : ∀ ns : List Int, intsOf (ns.map .int) = some ns
  | [] => rfl
  | n :: ns => by
    rw [List.map_cons]
    unfold intsOf
    rw [intsOf_map ns]
    rfl
theorem ssK_ints {ns : List Int} (hl : ns.length < 64) : ssK (.lst (ns.map .int)) S = .ok (.lst ((sortN ns).map .int)) S := by
  cases ns with
  | nil => rfl
  | cons n ns =>
    have e : pairsOf ((n :: ns).map D.int) = none := rfl
    simp only [ssK, e, intsOf_map, hl, if_true]
end
/-- a call with a plain answer, on copies of what the cells hold -/
def fBor (f : List D → Store → Res D) : List D → Store → Res D := fun ds S => if pureL (ds.map (snap 3 S)) then borK S (f (ds.map (snap 3 S)) []) else .no
theorem sp_bor {Γ : Gm} {E : XK} {f : List D → Store → Res D} : SndC Γ E (fun vs H Q => spM Γ f vs H Q E0) (fBor f) := fun ds S α G H vs Q hR r hp => by
  unfold fBor at hp
  split at hp
  · rename_i hq
    refine ⟨ds.map (snap 3 S), [], H, [], repL_map (P := fun _ => True) (fun d v _ h r => rep_snap hR 3 d v h r) ds vs (fun _ _ => trivial) hq r, rl_bare, ?_⟩
    unfold borK at hp
    split at hp
    · rename_i d S' q
      rw [q]
      intro α' G' H' v e R r
      split at hp
      · rename_i hs
        obtain ⟨e2, R2⟩ := ext_back hR e
        refine hp α G H' v e2 R2 ?_
        cases d <;> first | (simp [isSc] at hs; done) | (simp only [Rep] at r ⊢; exact r)
      · exact hp.elim
    · exact hp.elim
    · exact hp.elim
  · exact hp.elim
/-- ended with data alone: as a pure call -/
theorem fBor_pure {f : List D → Store → Res D} {ds : List D} {d : D} {S' : Store} (S : Store) (h : pureL ds = true) (hs : isSc d = true) (e : f ds [] = .ok d S') : fBor f ds S = .ok d S := by
  have m : ds.map (snap 3 S) = ds := by
    have := snap_pure (S := S) 4 (.lst ds) h
    unfold snap at this
    exact D.lst.inj this
  unfold fBor
  rw [m, if_pos h, e]
  show (if isSc d = true then Res.ok d S else .no) = _
  rw [if_pos hs]
/-- .. with cells among what is handed on: by their copies -/
theorem fBor_ap {f : List D → Store → Res D} {ds es : List D} {d : D} {S S' : Store} (m : ds.map (snap 3 S) = es) (h : pureL es = true) (hs : isSc d = true) (e : f es [] = .ok d S') : fBor f ds S = .ok d S := by
  unfold fBor
  rw [m, if_pos h, e]
  show (if isSc d = true then Res.ok d S else .no) = _
  rw [if_pos hs]
end Q
namespace L2
open PySem PySem.Spec PyProof.Rows
theorem perm_of_map {α β : Type} {f : α → β} {l m : List β} (h : l.Perm m) : ∀ ks : List α, m = ks.map f → ∃ L : List α, L.Perm ks ∧ l = L.map f := by
  induction h with
  | nil => exact fun ks e => ⟨[], by rw [List.map_eq_nil_iff.mp e.symm], rfl⟩
  | cons x _ ih =>
    intro ks e
    cases ks with
    | nil => cases e
    | cons k ks =>
      rw [List.map_cons] at e
      have i1 := (List.cons.inj e).1
      obtain ⟨L, p, e2⟩ := ih ks (List.cons.inj e).2
      exact ⟨k :: L, p.cons k, by rw [i1, e2]; rfl⟩
  | swap x y l =>
    intro ks e
    match ks, e with
    | a :: b :: ks, e =>
      rw [List.map_cons, List.map_cons] at e
      have i1 := (List.cons.inj e).1
      have i2 := (List.cons.inj (List.cons.inj e).2).1
      have i3 := (List.cons.inj (List.cons.inj e).2).2
      exact ⟨b :: a :: ks, List.Perm.swap a b ks, by rw [i1, i2, i3]; rfl⟩
    | [], e => cases e
    | [_], e => cases e
  | trans _ _ ih1 ih2 =>
    intro ks e
    obtain ⟨L, p, e2⟩ := ih2 ks e
    obtain ⟨M, q, e3⟩ := ih1 L e2
    exact ⟨M, q.trans p, e3⟩
theorem vrefs : ∀ {ks : List (Addr × Int × Int)} {us : List Value}, Vals (ks.map fun p => V.ref p.1) us → us = ks.map fun p => Value.ref p.1
  | [], _, .nil => rfl
  | k :: ks, _, .cons r t => by
    cases r
    rw [vrefs t]
    rfl
theorem refsv : ∀ ks : List (Addr × Int × Int), Vals (ks.map fun p => V.ref p.1) (ks.map fun p => Value.ref p.1)
  | [] => .nil
  | k :: ks => .cons rfl (refsv ks)
/-- the pair at u -/
def pairAt (h : Heap) (u : Value) : Int × Int := Q.pk (TS.intsOf h u)
section
variable {X : Cx}
def rSortedRP (K : PySem.W.Frag) : List V → List V → Hp → VK → Prop := fun vs zs H Q => ∃ (a : Addr) (ks : List (Addr × Int × Int)), vs = [V.ref a] ∧ zs = [.bl true] ∧ SqL K H a (ks.map fun p => V.ref p.1) ∧ (∀ p ∈ ks, SqT K H p.1 [.int p.2.1, .int p.2.2]) ∧
  ∀ (L : List (Addr × Int × Int)) (p : Addr), L.Perm ks → L.Pairwise (fun p q => q.2.1 < p.2.1 ∨ (q.2.1 = p.2.1 ∧ q.2.2 ≤ p.2.2)) → H p = none → Q (.ref p) (upd H p (.lst (L.map fun p => V.ref p.1)))
theorem cr_sortedRP : CallRK X (.builtin "sorted") [Str.ofString "reverse"] (rSortedRP X.K) := by
  intro pins s σ H vs zs us ws Q I r rz h
  obtain ⟨a, ks, rfl, rfl, hl, hk, q⟩ := h
  obtain rfl := Vals.ref1 r
  obtain ⟨w1, rfl, e1⟩ := vals1 rz
  obtain rfl : w1 = Value.bool true := e1
  obtain ⟨its, rv, pl, hz⟩ := I.list hl
  obtain rfl := vrefs rv
  have at_ : ∀ p ∈ ks, Srt.IsPair s.heap (.ref p.1) p.2.1 p.2.2 ∧ pairAt s.heap (.ref p.1) = p.2 := fun p hp => by
    obtain ⟨us, r2, ⟨o, ho, hc, n, hd⟩, _⟩ := I.tuple (hk p hp)
    obtain ⟨u1, u2, rfl, ri, rj⟩ := vals2 r2
    obtain ⟨t1, rfl⟩ := ri
    obtain ⟨t2, rfl⟩ := rj
    refine ⟨⟨_, o, t1, t2, n, rfl, ho, hc, hd⟩, ?_⟩
    have ti : TS.TupInts s.heap (.ref p.1) [p.2.1, p.2.2] := ⟨p.1, _, rfl, ⟨o, ho, hc, n, hd⟩, .cons _ _ (.cons _ _ .nil)⟩
    unfold pairAt
    rw [ti.ints]
    rfl
  have mem : ∀ v ∈ ks.map (fun p => Value.ref p.1), Srt.IsPair s.heap v (pairAt s.heap v).1 (pairAt s.heap v).2 := fun v hv => by
    obtain ⟨p, hp, rfl⟩ := List.mem_map.mp hv
    have z := at_ p hp
    rw [z.2]
    exact z.1
  have hz2 : (ks.map fun p => Value.ref p.1).length ≤ sizeLine := by simpa using hz
  refine SrtR.sorted_ordK (b := true) (fun _ => rfl) (PyProof.Rows.args_sorted_rev _ _) (fun _ => PyProof.Rows.args_list_sort_rev _ _) (SrtO.swo_lex (pairAt s.heap)) pl.isList hz2 (fun h2 h₁ a' g keep => ?_) fun out h1 h2 => ?_
  · refine SrtO.pairs_sortableO (by omega) (fun v hv => (mem v hv).keeps fun b o e _ => (keep b o e).2) fun o e => ?_
    rw [g] at e
    cases e
    exact fun z => by
      injection z with z3
      exact absurd z3 (by decide)
  · have pm : out.reverse.Perm (ks.map fun p => Value.ref p.1) := (List.reverse_perm out).trans (h2.perm.trans (List.reverse_perm _))
    obtain ⟨L, pL, eL⟩ := perm_of_map pm ks rfl
    obtain ⟨ep, he'⟩ := PyProof.Rows.sortedAll_at s.heap (ks.map fun p => Value.ref p.1) out.toArray.reverse
    have ea : out.toArray.reverse = (L.map fun p => Value.ref p.1).toArray := by rw [← eL]; simp
    rw [ea] at he'
    have hlen : (L.map fun p => V.ref p.1).length ≤ sizeLine := by
      rw [List.length_map, pL.length_eq]
      simpa using hz
    refine ⟨.ref _, upd H (s.heap.objs.size + 1) (.lst (L.map fun p => V.ref p.1)), I.laid (t' := s.toks) (fun _ _ => PyProof.Rows.sortedAll_old) (Nat.le_succ _) ⟨hlen, _, ep, refsv L, by simp only [if_true]; rw [ea]; exact he'⟩, rfl, q _ _ pL ?_ (I.hok.fresh (Nat.le_succ _))⟩
    have pw : out.reverse.Pairwise fun x y => SrtO.lexB (pairAt s.heap x) (pairAt s.heap y) = false := List.pairwise_reverse.mpr h1
    rw [eL, List.pairwise_map] at pw
    refine pw.imp_of_mem fun {x y} hx hy hxy => ?_
    rw [(at_ x (pL.subset hx)).2, (at_ y (pL.subset hy)).2, SrtO.lexB_no] at hxy
    by_cases e : y.2.1 = x.2.1
    · right; omega
    · left; omega
end
end L2
namespace Q
open PySem L2
def ple (a b : Int × Int) : Prop := a.1 < b.1 ∨ (a.1 = b.1 ∧ a.2 ≤ b.2)
instance (a b : Int × Int) : Decidable (ple a b) := by unfold ple; infer_instance
theorem ple_tot {a b : Int × Int} (h : ¬ ple a b) : ple b a := by unfold ple at *; omega
theorem ple_trans {a b c : Int × Int} (h : ple a b) (h' : ple b c) : ple a c := by unfold ple at *; omega
theorem ple_anti {a b : Int × Int} (h : ple a b) (h' : ple b a) : a = b := by
  unfold ple at *
  exact Prod.ext (by omega) (by omega)
def insD (x : Int × Int) : List (Int × Int) → List (Int × Int)
  | [] => [x]
  | y :: ys => if ple y x then x :: y :: ys else y :: insD x ys
/-- descending -/
def sortD : List (Int × Int) → List (Int × Int)
  | [] => []
  | x :: xs => insD x (sortD xs)
theorem insD_perm (x : Int × Int) : ∀ ys : List (Int × Int), (insD x ys).Perm (x :: ys)
  | [] => List.Perm.refl _
  | y :: ys => by
    unfold insD
    split
    · exact List.Perm.refl _
    · exact ((insD_perm x ys).cons y).trans (List.Perm.swap x y ys)
theorem sortD_perm : ∀ xs : List (Int × Int), (sortD xs).Perm xs
  | [] => List.Perm.refl _
  | x :: xs => (insD_perm x _).trans ((sortD_perm xs).cons x)
theorem insD_down {x : Int × Int} : ∀ {ys : List (Int × Int)}, ys.Pairwise (fun p q => ple q p) → (insD x ys).Pairwise fun p q => ple q p
  | [], _ => by simp [insD]
  | y :: ys, h => by
    have h' := List.pairwise_cons.mp h
    unfold insD
    split
    · rename_i hle
      refine List.pairwise_cons.mpr ⟨fun z hz => ?_, h⟩
      rcases List.mem_cons.mp hz with rfl | m
      · exact hle
      · exact ple_trans (h'.1 z m) hle
    · rename_i hle
      refine List.pairwise_cons.mpr ⟨fun z hz => ?_, insD_down h'.2⟩
      rcases List.mem_cons.mp ((insD_perm x ys).mem_iff.mp hz) with rfl | m
      · exact ple_tot hle
      · exact h'.1 z m
theorem sortD_down : ∀ xs : List (Int × Int), (sortD xs).Pairwise fun p q => ple q p
  | [] => by simp [sortD]
  | x :: xs => insD_down (sortD_down xs)
theorem down_uniq : ∀ (xs ys : List (Int × Int)), xs.Perm ys → xs.Pairwise (fun p q => ple q p) → ys.Pairwise (fun p q => ple q p) → xs = ys
  | [], ys, p, _, _ => p.nil_eq
  | x :: xs, [], p, _, _ => absurd p.length_eq (by simp)
  | x :: xs, y :: ys, p, hx, hy => by
    have hx' := List.pairwise_cons.mp hx
    have hy' := List.pairwise_cons.mp hy
    have e : x = y := by
      rcases List.mem_cons.mp (p.mem_iff.mp (by simp : x ∈ x :: xs)) with e | m
      · exact e
      · rcases List.mem_cons.mp (p.mem_iff.mpr (by simp : y ∈ y :: ys)) with e | m'
        · exact e.symm
        · exact ple_anti (hy'.1 x m) (hx'.1 y m')
    subst e
    rw [down_uniq xs ys (List.Perm.cons_inv p) hx'.2 hy'.2]
def srK (d : D) (S : Store) : Res D := match d with
  | .lst xs => match pairsOf xs with
    | some ps => .ok (.lst ((sortD ps).map pairD)) S
    | none => .no
  | _ => .no
def srK2 (d : D) (b : D) (S : Store) : Res D := match b with
  | .bl true => srK d S
  | _ => .no
def mSortRev (m m2 : ME) : ME := fun ρ S => (m ρ S).bind fun d S1 => (m2 ρ S1).bind (srK2 d)
section
variable {X : Cx} {cl : Nat → Addr} {E : XK} {e e2 : Expr} {m m2 : ME} {pos : Pos}
theorem q_sortrev {p kp : Pos} (h : QE X cl E e m) (h' : QE X cl E e2 m2) (hg : Gl X "sorted") (hm : X.mg "sorted" = none)
    (he0 : starEach [e] X.env = (false, eval e X.env) :: starEach [] X.env := by rfl)
    (he : backTo pos (starEach [e] X.env) = (false, eval e X.env) :: backTo pos (starEach [] X.env) := by rfl) (hpl : (backTo pos (starEach [e] X.env)).any (·.1) = false := by rfl)
    (hall : (backToKw pos (keywordEach [⟨some "reverse", e2, kp⟩] X.env)).all (·.1.isSome) = true := by rfl) (hnone : (backToKw pos (keywordEach [⟨some "reverse", e2, kp⟩] X.env)).any (·.1.isNone) = false := by rfl) (hks : (backToKw pos (keywordEach [⟨some "reverse", e2, kp⟩] X.env)).filterMap (·.1) = [Str.ofString "reverse"] := by rfl) :
    QE X cl E (.Call (.Name "sorted" p) [e] [⟨some "reverse", e2, kp⟩] pos) (mSortRev m m2) := by
  obtain ⟨t, h1, h2⟩ := h.ex
  obtain ⟨u, k1, k2⟩ := h'.ex
  refine ⟨_, pe_callBK cr_sortedRP hg hm (by rfl) (pa_cons h1 pa_nil he0) (pk_cons k1 pk_nil) (by decide) (by decide) he hpl hall hnone hks, fun ρ S σ α G H Q hρ hR hp => ?_⟩
  refine h2 ρ S σ α G H _ hρ hR (post_bind hp fun d S1 α1 G1 H1 v _ e1 R1 r1 hp1 => ?_)
  refine k2 ρ S1 σ α1 G1 H1 _ (hρ.mono e1) R1 (post_bind hp1 fun b S2 α2 G2 H2 w _ e2 R2 r2 hp2 => ?_)
  have r1' := Rep.mono e2.pre e2.sub _ _ r1
  unfold srK2 at hp2
  split at hp2
  · rename_i b1
    unfold srK at hp2
    split at hp2
    · rename_i xs _h0
      split at hp2
      · rename_i ps q
        unfold Rep at r1'
        obtain ⟨l, vs, rfl, s1, t1⟩ := r1'
        obtain ⟨ks, rfl, c1, c2, c3⟩ := pairs_at xs ps vs q t1
        simp only [Rep] at r2
        subst r2
        have two : ∀ p ∈ ks, p.2 = [(pk p.2).1, (pk p.2).2] := fun p hp => by
          have : p.2 ∈ ps.map (fun p => [p.1, p.2]) := by rw [← c2]; exact List.mem_map.mpr ⟨p, hp, rfl⟩
          obtain ⟨u, hu, e⟩ := List.mem_map.mp this
          rw [← e]
          rfl
        have eps : (ks.map fun p => pk p.2) = ps := by
          have := congrArg (List.map pk) c2
          rw [List.map_map, List.map_map] at this
          have e3 : (pk ∘ fun p : Int × Int => [p.1, p.2]) = id := by funext p; rfl
          rw [e3, List.map_id] at this
          exact this
        refine ⟨l, ks.map fun p => (p.1, pk p.2), rfl, rfl, ?_, fun p hp => ?_, fun L b pm pw hb => ?_⟩
        · rw [List.map_map]
          exact R2.sub.sqL (.inl (.inl s1))
        · obtain ⟨p0, hp0, rfl⟩ := List.mem_map.mp hp
          have := R2.sub _ _ (c1 p0 hp0)
          rw [two p0 hp0] at this
          exact .inl (.inl this)
        · have eL : L.map (·.2) = sortD ps := by
            refine down_uniq _ _ ?_ ?_ (sortD_down ps)
            · have := pm.map (·.2)
              rw [List.map_map] at this
              exact (this.trans (by rw [show ((fun p : Addr × Int × Int => p.2) ∘ fun p : Addr × List Int => (p.1, pk p.2)) = fun p => pk p.2 from rfl, eps])).trans (sortD_perm ps).symm
            · rw [List.pairwise_map]
              exact pw.imp fun {a b} h => h
          obtain ⟨R3, e3⟩ := R2.new hb (.lst (L.map fun p => V.ref p.1))
          refine hp2 _ _ _ _ e3 R3 (rep_lst upd_same ?_)
          rw [← eL]
          have sq : ∀ p ∈ L, G2 p.1 = some (.tup [.int p.2.1, .int p.2.2]) := fun p hp => by
            obtain ⟨p0, hp0, rfl⟩ := List.mem_map.mp (pm.subset hp)
            have := c1 p0 hp0
            rw [two p0 hp0] at this
            exact this
          have go : ∀ L : List (Addr × Int × Int), (∀ p ∈ L, G2 p.1 = some (.tup [.int p.2.1, .int p.2.2])) → RepL ⟨X.K, cl⟩ α2 (upd G2 b (.lst (L.map fun p => V.ref p.1))) [] [] → RepL ⟨X.K, cl⟩ α2 G2 ((L.map (·.2)).map pairD) (L.map fun p => V.ref p.1) := fun L => by
            induction L with
            | nil => intro _ _; simp [RepL]
            | cons p L ih =>
              intro hs _
              rw [List.map_cons, List.map_cons, List.map_cons]
              unfold RepL
              refine ⟨_, _, rfl, ?_, ih (fun q hq => hs q (by simp [hq])) (by simp [RepL])⟩
              unfold pairD Rep
              exact ⟨p.1, [V.int p.2.1, V.int p.2.2], rfl, hs p (by simp), by simp [RepL, Rep]⟩
          exact RepL.mono e3.pre e3.sub _ _ (go L sq (by simp [RepL]))
      · exact hp2.elim
    · exact hp2.elim
  · exact hp2.elim
end
section
variable {S : Store} {ρ : Env}
def srK1 (m2 : ME) (ρ : Env) (d : D) (S : Store) : Res D := (m2 ρ S).bind (srK2 d)
@[simp] theorem srK1_ap (m2 : ME) (d : D) : srK1 m2 ρ d S = (m2 ρ S).bind (srK2 d) := (Eq.refl _).trans rfl
@[simp] theorem ap_sortrev (m m2 : ME) : mSortRev m m2 ρ S = (m ρ S).bind (srK1 m2 ρ) := (Eq.refl _).trans rfl
@[simp] theorem srK2_tru (d : D) : srK2 d (.bl true) S = srK d S := (Eq.refl _).trans rfl
theorem srK_pairs {ps : List (Int × Int)} (h : ∀ p ∈ ps, (0 ≤ p.1 ∧ p.1 < lim) ∧ 0 ≤ p.2 ∧ p.2 < lim) : srK (.lst (ps.map pairD)) S = .ok (.lst ((sortD ps).map pairD)) S := by
  simp only [srK, pairsOf_map ps h]
end
end Q
namespace Q
open PySem L2
def insI (x : Int) : List Int → List Int
  | [] => [x]
  | y :: ys => if x ≤ y then x :: y :: ys else y :: insI x ys
def sortI : List Int → List Int
  | [] => []
  | x :: xs => insI x (sortI xs)
theorem insI_perm (x : Int) : ∀ ys : List Int, (insI x ys).Perm (x :: ys)
  | [] => List.Perm.refl _
  | y :: ys => by
    unfold insI
    split
    · exact List.Perm.refl _
    · exact ((insI_perm x ys).cons y).trans (List.Perm.swap x y ys)
theorem sortI_perm : ∀ xs : List Int, (sortI xs).Perm xs
  | [] => List.Perm.refl _
  | x :: xs => (insI_perm x _).trans ((sortI_perm xs).cons x)
theorem insI_up {x : Int} : ∀ {ys : List Int}, ys.Pairwise (· ≤ ·) → (insI x ys).Pairwise (· ≤ ·)
  | [], _ => by simp [insI]
  | y :: ys, h => by
    have h' := List.pairwise_cons.mp h
    unfold insI
    split
    · rename_i c
      refine List.pairwise_cons.mpr ⟨fun z hz => ?_, h⟩
      rcases List.mem_cons.mp hz with rfl | m
      · exact c
      · exact Int.le_trans c (h'.1 z m)
    · rename_i c
      refine List.pairwise_cons.mpr ⟨fun z hz => ?_, insI_up h'.2⟩
      rcases List.mem_cons.mp ((insI_perm x ys).mem_iff.mp hz) with rfl | m
      · omega
      · exact h'.1 z m
theorem sortI_up : ∀ xs : List Int, (sortI xs).Pairwise (· ≤ ·)
  | [] => List.Pairwise.nil
  | x :: xs => insI_up (sortI_up xs)
theorem sortI_uniq {xs ys : List Int} (hp : ys.Perm xs) (hu : ys.Pairwise (· ≤ ·)) : ys = sortI xs :=
  List.Perm.eq_of_pairwise (le := (· ≤ ·)) (fun a b _ _ h1 h2 => by omega) hu (sortI_up xs) (hp.trans (sortI_perm xs).symm)
def plStep (ks : List Int) (p : Int × Int) : List Int := if p.1 ∈ ks then (if p.2 ∈ ks then ks else ks ++ [p.2]) else ks
def plK (k : Int) (ps : List (Int × Int)) : List Int := sortI (ps.foldl plStep [k])
def pairsQ : List D → Option (List (Int × Int))
  | [] => some []
  | .tup [.int i, .int j] :: ds => (pairsQ ds).map ((i, j) :: ·)
  | _ :: _ => none
def plR (k : Int) (d : D) (S : Store) : Res Fl := match d with
  | .lst xs => match pairsQ xs with
    | some ps => if ps.length ≤ 1000 then .ok (.rt (.lst ((plK k ps).map .int))) S else .no
    | none => .no
  | _ => .no
def mPl (ip ifd b : Nat) (m : ME) : MS := fun ρ S => if b < ρ.length then match ρ[ip]? with
  | some (some (.int k)) => (m (ρ.set ifd none) S).bind (plR k)
  | _ => .no
  else .no
theorem upd2 {H : Hp} {p : Addr} (o o' : HO) : upd (upd H p o) p o' = upd H p o' := by
  funext a
  by_cases h : a = p
  · subst h; rw [upd_same, upd_same]
  · rw [upd_ne h, upd_ne h, upd_ne h]
theorem updS {H : Hp} {p : Addr} {o : HO} (h : H p = some o) : upd H p o = H := by
  funext a
  by_cases e : a = p
  · subst e; rw [upd_same, h]
  · rw [upd_ne e]
theorem updC {H : Hp} {p q : Addr} (h : p ≠ q) (o o' : HO) : upd (upd H p o) q o' = upd (upd H q o') p o := by
  funext a
  by_cases e : a = q
  · subst e; rw [upd_same, upd_ne (Ne.symm h), upd_same]
  · rw [upd_ne e]
    by_cases e2 : a = p
    · subst e2; rw [upd_same, upd_same]
    · rw [upd_ne e2, upd_ne e2, upd_ne e]
theorem EnvR.drop {Γ : Gm} {α : List Addr} {G : Hp} {ρ : Env} {σ : L2.St} (h : EnvR Γ α G ρ σ) (i : Nat) (o : Option V) : EnvR Γ α G (ρ.set i none) (σ.set i o) := by
  refine ⟨by simp [h.1], fun j e hj => ?_⟩
  by_cases hij : i = j
  · subst hij
    have hl : i < ρ.length := by
      have := (List.getElem?_eq_some_iff.mp hj).1
      simpa using this
    rw [List.getElem?_set_self hl] at hj
    cases hj
  · rw [List.getElem?_set_ne hij] at hj ⊢
    exact h.2 j e hj
theorem pairsQ_map : ∀ {xs : List D} {ps : List (Int × Int)}, pairsQ xs = some ps → xs = ps.map fun p => .tup [.int p.1, .int p.2]
  | [], ps, h => by simp [pairsQ] at h; subst h; rfl
  | d :: ds, ps, h => by
    unfold pairsQ at h
    split at h
    · rename_i e; cases e
    · rename_i i j ds' e
      cases e
      cases q : pairsQ ds with
      | none => rw [q] at h; cases h
      | some qs =>
        rw [q] at h
        cases h
        rw [pairsQ_map q]
        rfl
    · cases h
theorem repL_intsW {Γ : Gm} {α : List Addr} {G : Hp} : ∀ zs : List Int, RepL Γ α G (zs.map .int) (zs.map .int)
  | [] => by simp [RepL]
  | z :: zs => by
    rw [List.map_cons, List.map_cons]
    unfold RepL
    exact ⟨_, _, rfl, by simp [Rep], repL_intsW zs⟩
/-- the dict's entries -/
def kvT (ks : List Int) : List (Key × V) := ks.map fun k => (Sum.inl k, V.bl true)
theorem kvT_any (ks : List Int) (k : Int) : ((kvT ks).any fun kv => decide (kv.1 = (Sum.inl k : Key))) = decide (k ∈ ks) := by
  unfold kvT
  induction ks with
  | nil => rfl
  | cons x ks ih =>
    rw [List.map_cons, List.any_cons, ih]
    by_cases e : x = k
    · subst e; simp
    · have e2 : ¬ (Sum.inl x : Key) = Sum.inl k := fun z => e (Sum.inl.inj z)
      have e3 : ¬ k = x := fun z => e z.symm
      simp [e2, e3]
theorem kvT_get (ks : List Int) (k : Int) : (valV (kvT ks) (Sum.inl k : Key)).isSome = decide (k ∈ ks) := by
  rw [← kvT_any]
  unfold valV
  rw [Option.isSome_map, Bool.eq_iff_iff, List.find?_isSome, List.any_eq_true]
theorem kvT_put (ks : List Int) (k : Int) : putK (kvT ks) (Sum.inl k : Key) (V.bl true) = kvT (if k ∈ ks then ks else ks ++ [k]) := by
  unfold putK
  rw [kvT_any]
  by_cases h : k ∈ ks
  · rw [if_pos (by simpa using h), if_pos h]
    unfold kvT
    rw [List.map_map]
    refine List.map_congr_left fun x _ => ?_
    simp only [Function.comp_apply]
    split <;> rfl
  · rw [if_neg (by simpa using h), if_neg h]
    unfold kvT
    simp
theorem foldl_take {ps : List (Int × Int)} {i : Nat} {p : Int × Int} (h : ps[i]? = some p) (k : List Int) : (ps.take (i + 1)).foldl plStep k = plStep ((ps.take i).foldl plStep k) p := by
  rw [List.take_succ, h, List.foldl_append]
  rfl
theorem plStep_len (ks : List Int) (p : Int × Int) : (plStep ks p).length ≤ ks.length + 1 := by
  unfold plStep
  split
  · split
    · omega
    · simp
  · omega
theorem plF_len : ∀ (ps : List (Int × Int)) (ks : List Int), (ps.foldl plStep ks).length ≤ ks.length + ps.length
  | [], ks => by simp
  | p :: ps, ks => by
    have h1 := plF_len ps (plStep ks p)
    have h2 := plStep_len ks p
    rw [List.foldl_cons, List.length_cons]
    omega
section
variable {X : Cx} {cl : Nat → Addr} {E : XK}
theorem qss_places {ip ifd ie is_ io b : Nat} {m : ME} {st1 : Stmt} {eK tgP it tgO eltO : Expr} {xc xs xf xo : Str} {scope : Scope} {p1 p2 p3 p4 p5 p6 p7 p8 p9 q1 q2 q3 q4 q5 q6 q7 q8 : Pos} {j1 j2 : Nat}
    (hK : PE X eK (tVar ip)) (h1 : ∀ te, PE X (.Dict [some eK] [.Constant (.bool true) j1 p1] p2) te → PS X st1 (tAsg te (gName ifd)))
    (hi : QE X cl E it m) (hfs : ∀ x, foldedSetIterable it X.env x = pure x) (hg : PG X tgP (gTup X.K 2 (gCons (gName ie) (gCons (gName is_) gNil))))
    (hC : PE X (.Name xc q1) (tVar ie)) (hSt : PE X (.Name xs q2) (tVar is_)) (hF : PE X (.Name xf q3) (tVar ifd)) (hF2 : PE X (.Name xf q4) (tVar ifd)) (hF3 : PE X (.Name xf q5) (tVar ifd))
    (hN : X.N.Nodup) (hB : BlkOk X.N X.env.scope scope [(xo, io)])
    (hgo : ∀ (s : Shared) (H : Hp) (C : Addr) (c : List (Str × Addr)) (fp : List Addr), PG (X.blk s H scope (compEnvC scope c C X.env) fp) tgO (gName io))
    (heo : ∀ (s : Shared) (H : Hp) (C : Addr) (c : List (Str × Addr)) (fp : List Addr), PE (X.blk s H scope (compEnvC scope c C X.env) fp) eltO (tVar io))
    (hs : Gl X "sorted") (hms : X.mg "sorted" = none) (hu : X.A.units + 1 < cLine)
    (hne : ie ≠ is_ ∧ ifd ≠ ie ∧ ifd ≠ is_ ∧ ip ≠ ifd ∧ io ≠ ifd) (hlt : ie ≤ b ∧ is_ ≤ b ∧ ifd ≤ b ∧ io ≤ b)
    (hc : X.calm = true := by rfl) (hpo : PassesOwn (model X.prog X.w) X.A X.env X.xe := by exact PassesOwn.never) :
    QSs X cl E [st1, .For tgP it [.If (.Compare (.Name xc q1) [.In] [.Name xf q3] p3) [.Assign [.Subscript (.Name xf q4) (.Name xs q2) p4] (.Constant (.bool true) j2 p5) p6] [] p7] [] p8,
      .Return (some (.Call (.Name "sorted" p9) [.ListComp eltO [⟨tgO, .Name xf q5, [], 0⟩] scope q6] [] q7)) q8] (mPl ip ifd b m) := by
  obtain ⟨ti, hi1, hi2⟩ := hi.ex
  have b1 := h1 _ (pe_disp (pps_cons hK pe_bl pps_nil) rfl rfl (by simp) (by simp))
  have bIf := ps_if (pos := p7) (pt_cmp (pos := p3) (pc_din hu hC hF)) (pss_one (ps_asg (pos := p6) (pe_bl (b := true) (j := j2) (pos := p5)) (pg_sub (pos := p4) hF2 hSt (set_dict hu)))) pss_nil
  have b2 := ps_for (pos := p8) hpo hc (pi_list hi1) hg (pss_one bIf) hfs
  have b3 := ps_ret (pos := q8) (pe_callB (p := p9) (pos := q7) cr_sortedI hs hms rfl (pa_cons (pe_lock (pe_lc (pos := q6) hc hN (pi_keys hF3) hB hgo (fun _ _ _ _ _ => pts_nil) heo)) pa_nil))
  refine ⟨⟨_, pss_cons b1 (pss_cons b2 (pss_one b3)), fun ρ S σ α G H Dn hρ hR hp => ?_⟩⟩
  obtain ⟨n1, n2, n3, n4, n5⟩ := hne
  obtain ⟨l1, l2, l3, l4⟩ := hlt
  unfold mPl at hp
  split at hp
  case isFalse => exact hp.elim
  rename_i hbl
  have hσl : b < σ.length := by rw [← hρ.1]; exact hbl
  split at hp
  case h_2 => exact hp.elim
  rename_i k hk
  obtain ⟨v, hv, rv⟩ := hρ.2 ip _ hk
  simp only [Rep] at rv
  subst rv
  intro p hz
  refine ⟨.int k, hv, upd_same, [(Sum.inl k, .bl true)], rfl, by simp, ?_⟩
  have e1 : upd (upd H p (.dK [])) p (.dK (mergeK [] [(Sum.inl k, V.bl true)])) = upd H p (.dK (kvT [k])) := by
    rw [upd2]
    rfl
  rw [e1]
  obtain ⟨R0, e0⟩ := hR.out hz (.dK (kvT [k]))
  have hρ' := hρ.drop ifd (some (.ref p))
  have hpα : p ∉ α := fun z => hR.tr p z hz
  refine hi2 (ρ.set ifd none) S _ α G _ _ hρ' R0 ?_
  cases q : m (ρ.set ifd none) S with
  | no => rw [q] at hp; exact hp.elim
  | ex e S1 =>
    rw [q] at hp
    intro α' G' H' c x ex rl rr
    exact hp α' G' H' c x (e0.trans ex) rl rr
  | ok d S1 =>
    rw [q] at hp
    intro α1 G1 H1 v ex R1 r1
    have hp' : PostS ⟨X.K, cl⟩ E α G H (plR k d S1) Dn := hp
    unfold plR at hp'
    cases d <;> try exact hp'.elim
    rename_i xs0
    simp only at hp'
    split at hp'
    case h_2 => exact hp'.elim
    rename_i ps hps
    split at hp'
    case isFalse => exact hp'.elim
    rename_i hlen
    have hxs := pairsQ_map hps
    subst hxs
    unfold Rep at r1
    obtain ⟨a, vs, rfl, hGa, rL⟩ := r1
    have hvl : vs.length = ps.length := by rw [← rL.length, List.length_map]
    have hH1p : H1 p = some (.dK (kvT [k])) := ex.fr p _ upd_same hpα
    have hpα1 : p ∉ α1 := fun z => by
      rcases ex.na p z with w | w
      · exact hpα w
      · rw [upd_same] at w; cases w
    have hG1p : G1 p = none := by
      cases w : G1 p with
      | none => rfl
      | some o =>
        rcases ex.ng p (by rw [w]; simp) with z | z | z | ⟨_, z⟩
        · exact absurd (hR.gnone hz) z
        · exact absurd z hpα
        · rw [upd_same] at z; cases z
        · rw [upd_same] at z; cases z
    have Rp := fun o => R1.patch hpα1 hG1p o
    have kl : ∀ i, ((ps.take i).foldl plStep [k]).length ≤ 1001 := fun i => by
      have h1 := plF_len (ps.take i) [k]
      have h2 : (ps.take i).length ≤ ps.length := by rw [List.length_take]; omega
      simp at h1
      omega
    refine ⟨a, rfl, ⟨vs, R1.sub.sqL (.inl (.inl hGa))⟩, for_list (K := X.K) (a := a) (xs := vs) (fun i τ Hc => Hc = upd H1 p (.dK (kvT ((ps.take i).foldl plStep [k]))) ∧ τ[ifd]? = some (some (V.ref p)) ∧ τ.length = σ.length) ⟨by rw [List.take_zero]; exact (updS hH1p).symm, List.getElem?_set_self (by omega), by simp⟩ ?_ ?_ ?_⟩
    · rintro i τ _ _ ⟨rfl, _, _⟩
      exact (Rp _).sub.sqL (.inl (.inl hGa))
    · rintro i x τ _ hx ⟨rfl, hf, hl⟩
      have hil : i < ps.length := by rw [← hvl]; exact (List.getElem?_eq_some_iff.mp hx).1
      have hpi : ps[i]? = some ps[i] := List.getElem?_eq_getElem hil
      obtain ⟨w, hw, rw'⟩ := rL.get (show (ps.map fun p => D.tup [.int p.1, .int p.2])[i]? = some (.tup [.int ps[i].1, .int ps[i].2]) by rw [List.getElem?_map, hpi]; rfl)
      rw [hx] at hw
      cases hw
      obtain ⟨t, ws, rfl, qT, rW⟩ := tup_at (Rp (.dK (kvT ((ps.take i).foldl plStep [k])))) rw'
      have eW : ws = [.int ps[i].1, .int ps[i].2] := by
        simp only [RepL, Rep] at rW
        obtain ⟨_, _, rfl, rfl, _, _, rfl, rfl, rfl⟩ := rW
        rfl
      subst eW
      refine ⟨t, _, rfl, qT, rfl, _, _, rfl, _, _, rfl, rfl, ?_⟩
      have g1 : ((τ.set ie (some (V.int ps[i].1))).set is_ (some (V.int ps[i].2)))[ie]? = some (some (V.int ps[i].1)) := by
        rw [List.getElem?_set_ne (Ne.symm n1), List.getElem?_set_self (by omega)]
      have g2 : ((τ.set ie (some (V.int ps[i].1))).set is_ (some (V.int ps[i].2)))[is_]? = some (some (V.int ps[i].2)) := List.getElem?_set_self (by simp; omega)
      have g3 : ((τ.set ie (some (V.int ps[i].1))).set is_ (some (V.int ps[i].2)))[ifd]? = some (some (V.ref p)) := by
        rw [List.getElem?_set_ne (Ne.symm n3), List.getElem?_set_ne (Ne.symm n2)]
        exact hf
      refine ⟨.int ps[i].1, g1, .ref p, g3, p, _, rfl, DGet.k (k := Sum.inl ps[i].1) upd_same, _, rfl, ?_⟩
      have st := foldl_take hpi [k]
      have hk2 := kl i
      generalize (ps.take i).foldl plStep [k] = ks at *
      rw [kvT_get]
      show if decide (ps[i].1 ∈ ks) = true then _ else _
      by_cases he : ps[i].1 ∈ ks
      · rw [if_pos (by simpa using he)]
        refine ⟨.ref p, g3, .int ps[i].2, g2, p, _, rfl, DPut.k (k := Sum.inl ps[i].2) upd_same (by unfold kvT; rw [List.length_map]; exact Nat.lt_of_le_of_lt hk2 (by decide)), ?_, g3, by simp [hl]⟩
        rw [upd2, kvT_put, st]
        unfold plStep
        rw [if_pos he]
      · rw [if_neg (by simpa using he)]
        refine ⟨?_, g3, by simp [hl]⟩
        rw [st]
        unfold plStep
        rw [if_neg he]
    · rintro τ _ ⟨rfl, hf, hl⟩
      rw [hvl, List.take_of_length_le (Nat.le_refl _)]
      have hk2 := kl ps.length
      rw [List.take_of_length_le (Nat.le_refl _)] at hk2
      have hplK : plK k ps = sortI (ps.foldl plStep [k]) := rfl
      rw [hplK] at hp'
      generalize ps.foldl plStep [k] = ks at *
      refine ⟨p, .dK (kvT ks), upd_same, trivial, fun od => ?_⟩
      refine ⟨.ref p, hf, p, od, rfl, .inl ⟨kvT ks, upd_same, ?_⟩⟩
      intro Dd hD
      rw [upd2] at hD
      have hDp : Dd ≠ p := fun z => by subst z; rw [upd_same] at hD; cases hD
      have kvl : (kvT ks).length = ks.length := by unfold kvT; rw [List.length_map]
      refine lc_it walk_keys (fun i H' => H' = upd (upd (upd H1 p (.dK (kvT ks))) p (.frz od (.dK (kvT ks)))) Dd (.lst ((ks.take i).map V.int))) rfl ?_ ?_ ?_
      · rintro i _ _ rfl
        rw [upd_ne (Ne.symm hDp), upd_same]
      · rintro i x _ _ hi0 rfl ⟨rfl, kk, vv, hkk, rfl⟩
        have hik : i < ks.length := by omega
        have hki : ks[i]? = some ks[i] := List.getElem?_eq_getElem hik
        unfold kvT at hkk
        rw [List.getElem?_map, hki] at hkk
        cases hkk
        have wl : io < (wipe τ [io]).length := by rw [wipe_length]; omega
        refine ⟨?_, ?_⟩
        · show ((wipe τ [io]).set io (some (V.int ks[i]))).set io none = (τ.set io none)
          show ((τ.set io none).set io (some (V.int ks[i]))).set io none = (τ.set io none)
          rw [List.set_set, List.set_set]
        · show ∃ v, _
          refine ⟨.int ks[i], List.getElem?_set_self wl, _, upd_same, ?_, ?_⟩
          · rw [List.length_map, List.length_take]
            exact Nat.lt_of_le_of_lt (show min i ks.length ≤ 1001 by omega) (by decide)
          · have et : ks.take (i + 1) = ks.take i ++ [ks[i]] := by
              rw [List.take_succ, hki]
              rfl
            rw [upd2, et, List.map_append]
            rfl
      · rintro _ rfl
        rw [kvl, List.take_of_length_le (Nat.le_refl _)]
        refine ⟨by rw [upd_ne (Ne.symm hDp), upd_same], ?_⟩
        have eE : upd (upd (upd (upd H1 p (.dK (kvT ks))) p (.frz od (.dK (kvT ks)))) Dd (.lst (ks.map V.int))) p (.dK (kvT ks)) = upd (upd H1 p (.dK (kvT ks))) Dd (.lst (ks.map V.int)) := by
          rw [updC (Ne.symm hDp).symm, upd2, upd2]
        rw [eE]
        refine ⟨Dd, ks, rfl, .inl (.inl upd_same), fun ns' qq hpm hpw hq => ?_⟩
        have en := sortI_uniq hpm hpw
        subst en
        have hD' : upd H1 p (.dK (kvT ks)) Dd = none := by
          rw [upd_ne hDp] at hD ⊢
          exact hD
        obtain ⟨R2, e2⟩ := (Rp (.dK (kvT ks))).out hD' (.lst (ks.map V.int))
        obtain ⟨R3, e3⟩ := R2.new hq (.lst ((sortI ks).map V.int))
        refine hp' α1 _ _ (.ref qq) (((((e0.trans ex).patch hz (.dK (kvT ks))).trans e2)).trans e3) R3 (rep_lst upd_same (repL_intsW (sortI ks)))
end
end Q
namespace L2
open PySem PySem.Spec PyProof.Rows
section
variable {X : Cx}
def rSortedPP (K : PySem.W.Frag) : List V → Hp → VK → Prop := fun vs H Q => ∃ (a : Addr) (ks : List (Addr × Int × Int)), vs = [V.ref a] ∧ SqL K H a (ks.map fun p => V.ref p.1) ∧ (∀ p ∈ ks, SqT K H p.1 [.int p.2.1, .int p.2.2]) ∧
  ∀ (L : List (Addr × Int × Int)) (p : Addr), L.Perm ks → L.Pairwise (fun p q => p.2.1 < q.2.1 ∨ (p.2.1 = q.2.1 ∧ p.2.2 ≤ q.2.2)) → H p = none → Q (.ref p) (upd H p (.lst (L.map fun p => V.ref p.1)))
theorem cr_sortedPP : CallR X (.builtin "sorted") (rSortedPP X.K) := by
  intro pins s σ H vs us Q I r h
  obtain ⟨a, ks, rfl, hl, hk, q⟩ := h
  obtain rfl := Vals.ref1 r
  obtain ⟨its, rv, pl, hz⟩ := I.list hl
  obtain rfl := vrefs rv
  have at_ : ∀ p ∈ ks, Srt.IsPair s.heap (.ref p.1) p.2.1 p.2.2 ∧ pairAt s.heap (.ref p.1) = p.2 := fun p hp => by
    obtain ⟨us, r2, ⟨o, ho, hc, n, hd⟩, _⟩ := I.tuple (hk p hp)
    obtain ⟨u1, u2, rfl, ri, rj⟩ := vals2 r2
    obtain ⟨t1, rfl⟩ := ri
    obtain ⟨t2, rfl⟩ := rj
    refine ⟨⟨_, o, t1, t2, n, rfl, ho, hc, hd⟩, ?_⟩
    have ti : TS.TupInts s.heap (.ref p.1) [p.2.1, p.2.2] := ⟨p.1, _, rfl, ⟨o, ho, hc, n, hd⟩, .cons _ _ (.cons _ _ .nil)⟩
    unfold pairAt
    rw [ti.ints]
    rfl
  have mem : ∀ v ∈ ks.map (fun p => Value.ref p.1), Srt.IsPair s.heap v (pairAt s.heap v).1 (pairAt s.heap v).2 := fun v hv => by
    obtain ⟨p, hp, rfl⟩ := List.mem_map.mp hv
    have z := at_ p hp
    rw [z.2]
    exact z.1
  have hz2 : (ks.map fun p => Value.ref p.1).length ≤ sizeLine := by simpa using hz
  refine SrtO.sorted_pairsO (k := pairAt s.heap) pl.isList hz2 mem fun h' d out h1 h2 kp hd hn => ?_
  obtain ⟨n, hn⟩ := hn
  obtain ⟨L, pL, rfl⟩ := perm_of_map h2.perm ks rfl
  have hlen : (L.map fun p => V.ref p.1).length ≤ sizeLine := by
    rw [List.length_map, pL.length_eq]
    simpa using hz
  refine ⟨.ref d, upd H d (.lst (L.map fun p => V.ref p.1)), I.laid kp hd ⟨hlen, _, n, refsv L, hn⟩, rfl, q _ _ pL ?_ (I.hok.fresh hd)⟩
  have pw : (L.map fun p => Value.ref p.1).Pairwise fun x y => SrtO.lexB (pairAt s.heap y) (pairAt s.heap x) = false := h1
  rw [List.pairwise_map] at pw
  refine pw.imp_of_mem fun {x y} hx hy hxy => ?_
  rw [(at_ x (pL.subset hx)).2, (at_ y (pL.subset hy)).2, SrtO.lexB_no] at hxy
  by_cases e : x.2.1 = y.2.1
  · right; omega
  · left; omega
end
end L2
namespace Q
open PySem L2
def insP (x : Int × Int) : List (Int × Int) → List (Int × Int)
  | [] => [x]
  | y :: ys => if ple x y then x :: y :: ys else y :: insP x ys
/-- ascending, each as often as it stands there -/
def sortP : List (Int × Int) → List (Int × Int)
  | [] => []
  | x :: xs => insP x (sortP xs)
theorem insP_perm (x : Int × Int) : ∀ ys : List (Int × Int), (insP x ys).Perm (x :: ys)
  | [] => List.Perm.refl _
  | y :: ys => by
    unfold insP
    split
    · exact List.Perm.refl _
    · exact ((insP_perm x ys).cons y).trans (List.Perm.swap x y ys)
theorem sortP_perm : ∀ xs : List (Int × Int), (sortP xs).Perm xs
  | [] => List.Perm.refl _
  | x :: xs => (insP_perm x _).trans ((sortP_perm xs).cons x)
theorem insP_up {x : Int × Int} : ∀ {ys : List (Int × Int)}, ys.Pairwise ple → (insP x ys).Pairwise ple
  | [], _ => by simp [insP]
  | y :: ys, h => by
    have h' := List.pairwise_cons.mp h
    unfold insP
    split
    · rename_i hle
      refine List.pairwise_cons.mpr ⟨fun z hz => ?_, h⟩
      rcases List.mem_cons.mp hz with rfl | m
      · exact hle
      · exact ple_trans hle (h'.1 z m)
    · rename_i hle
      refine List.pairwise_cons.mpr ⟨fun z hz => ?_, insP_up h'.2⟩
      rcases List.mem_cons.mp ((insP_perm x ys).mem_iff.mp hz) with rfl | m
      · exact ple_tot hle
      · exact h'.1 z m
theorem sortP_up : ∀ xs : List (Int × Int), (sortP xs).Pairwise ple
  | [] => by simp [sortP]
  | x :: xs => insP_up (sortP_up xs)
theorem sortP_uniq {xs ys : List (Int × Int)} (hp : ys.Perm xs) (hu : ys.Pairwise ple) : ys = sortP xs :=
  List.Perm.eq_of_pairwise (le := ple) (fun a b _ _ h1 h2 => ple_anti h1 h2) hu (sortP_up xs) (hp.trans (sortP_perm xs).symm)
def intsQ : List D → Option (List Int)
  | [] => some []
  | .int i :: ds => (intsQ ds).map (i :: ·)
  | _ :: _ => none
theorem intsQ_map : ∀ {xs : List D} {ns : List Int}, intsQ xs = some ns → xs = ns.map .int
  | [], ns, h => by simp [intsQ] at h; subst h; rfl
  | d :: ds, ns, h => by
    unfold intsQ at h
    split at h
    · rename_i e; cases e
    · rename_i i ds' e
      cases e
      cases q : intsQ ds with
      | none => rw [q] at h; cases h
      | some qs =>
        rw [q] at h
        cases h
        rw [intsQ_map q]
        rfl
    · cases h
def skX (xs : List D) : Option (List D) := match intsQ xs with
  | some ns => some ((sortI ns).map .int)
  | none => (pairsQ xs).map fun ps => (sortP ps).map pairD
def skK (d : D) (S : Store) : Res D := match (rdL S d).bind skX with
  | some ys => .ok (.lst ys) S
  | none => .no
def skC (d : D) (S : Store) : Res D := match (rdL S d).bind skX with
  | some ys => .ok (.ref S.length) (S ++ [.lst ys])
  | none => .no
def mSortC (m : ME) : ME := fun ρ S => (m ρ S).bind skC
def mSortL (m : ME) : ME := fun ρ S => (m ρ S).bind skK
/-- cell.extend(e) -/
def extTo (k : Nat) (d : D) (S : Store) : Res D := match S[k]?, lstOf S d with
  | some (.lst xs), some ys => if xs.length + ys.length ≤ 100000 then .ok .non (S.set k (.lst (xs ++ ys))) else .no
  | _, _ => .no
def mExt (mo m : ME) : ME := fun ρ S => (mo ρ S).bind fun o S1 => match o with
  | .ref k => if notOb S1 k = true then (m ρ S1).bind fun d S2 => extTo k d S2 else .no
  | _ => .no
theorem ints_vals {Γ : Gm} {α : List Addr} {G : Hp} : ∀ {ns : List Int} {vs : List V}, RepL Γ α G (ns.map .int) vs → vs = ns.map .int
  | [], vs, h => by simpa [RepL] using h
  | n :: ns, vs, h => by
    rw [List.map_cons] at h
    unfold RepL at h
    obtain ⟨v, r, rfl, h1, h2⟩ := h
    simp only [Rep] at h1
    subst h1
    rw [ints_vals h2]
    rfl
theorem pairs_vals {Γ : Gm} {α : List Addr} {G : Hp} : ∀ {ps : List (Int × Int)} {vs : List V}, RepL Γ α G (ps.map fun p => .tup [.int p.1, .int p.2]) vs → ∃ ks : List (Addr × Int × Int), vs = ks.map (fun p => V.ref p.1) ∧ ks.map (·.2) = ps ∧ ∀ p ∈ ks, G p.1 = some (.tup [.int p.2.1, .int p.2.2])
  | [], vs, h => ⟨[], by simpa [RepL] using h, rfl, by simp⟩
  | p :: ps, vs, h => by
    rw [List.map_cons] at h
    unfold RepL at h
    obtain ⟨v, r, rfl, h1, h2⟩ := h
    obtain ⟨ks, rfl, e, hk⟩ := pairs_vals h2
    unfold Rep at h1
    obtain ⟨t, ws, rfl, q, rW⟩ := h1
    simp only [RepL, Rep] at rW
    obtain ⟨_, _, rfl, rfl, _, _, rfl, rfl, rfl⟩ := rW
    refine ⟨(t, p) :: ks, rfl, by rw [List.map_cons, e], fun z hz => ?_⟩
    rcases List.mem_cons.mp hz with rfl | m
    · exact q
    · exact hk z m
section
variable {X : Cx} {cl : Nat → Addr} {E : XK} {e : Expr} {m : ME} {pos : Pos}
theorem sk_core {Γ : Gm} {α : List Addr} {G H : Hp} {S : Store} {d : D} {v : V} {ys : List D} {Q : VK} (R1 : Rl Γ α G S H) (r1 : Rep Γ α G d v) (h : (rdL S d).bind skX = some ys)
    (k : ∀ us q, H q = none → RepL Γ α G ys us → Q (.ref q) (upd H q (.lst us))) : rSortedI Γ.K [v] H Q ∨ rSortedPP Γ.K [v] H Q := by
  cases hx : rdL S d with
  | none => rw [hx] at h; cases h
  | some xs =>
    rw [hx] at h
    have h : skX xs = some ys := h
    obtain ⟨a, vs, rfl, hs, rL⟩ := rdL_at R1 r1 hx
    unfold skX at h
    cases hn : intsQ xs with
    | some ns =>
      rw [hn] at h
      cases h
      have := intsQ_map hn
      subst this
      have := ints_vals rL
      subst this
      refine .inl ⟨a, ns, rfl, hs, fun ns' q hpm hpw hq => ?_⟩
      have en := sortI_uniq hpm hpw
      subst en
      exact k _ q hq (repL_intsW _)
    | none =>
      rw [hn] at h
      cases hps : pairsQ xs with
      | none => rw [hps] at h; cases h
      | some ps =>
        rw [hps] at h
        cases h
        have := pairsQ_map hps
        subst this
        obtain ⟨ks, rfl, ek, hk⟩ := pairs_vals rL
        refine .inr ⟨a, ks, rfl, hs, fun p hp => .inl (.inl (R1.sub _ _ (hk p hp))), fun L b pm pw hb => ?_⟩
        have eL : L.map (·.2) = sortP ps := by
          refine sortP_uniq ?_ ?_
          · rw [← ek]; exact pm.map (·.2)
          · rw [List.pairwise_map]
            exact pw.imp fun {a b} h => h
        refine k _ b hb ?_
        show RepL Γ α G ((sortP ps).map pairD) _
        rw [← eL]
        have sq : ∀ p ∈ L, G p.1 = some (.tup [.int p.2.1, .int p.2.2]) := fun p hp => hk p (pm.subset hp)
        have go : ∀ L : List (Addr × Int × Int), (∀ p ∈ L, G p.1 = some (.tup [.int p.2.1, .int p.2.2])) → RepL Γ α G ((L.map (·.2)).map pairD) (L.map fun p => V.ref p.1) := fun L => by
          induction L with
          | nil => intro _; simp [RepL]
          | cons p L ih =>
            intro hs
            rw [List.map_cons, List.map_cons, List.map_cons]
            unfold RepL
            refine ⟨_, _, rfl, ?_, ih (fun q hq => hs q (by simp [hq]))⟩
            unfold pairD Rep
            exact ⟨p.1, [V.int p.2.1, V.int p.2.2], rfl, hs p (by simp), by simp [RepL, Rep]⟩
        exact go L sq
theorem q_sortL {p : Pos} (h : QE X cl E e m) (hg : Gl X "sorted") (hm : X.mg "sorted" = none)
    (he0 : starEach [e] X.env = (false, eval e X.env) :: starEach [] X.env := by rfl) (hpl : (backTo pos (starEach [] X.env)).any (·.1) = false := by rfl) :
    QE X cl E (.Call (.Name "sorted" p) [e] [] pos) (mSortL m) := by
  obtain ⟨t, h1, h2⟩ := h.ex
  refine ⟨_, pe_callB (CallR.or cr_sortedI cr_sortedPP) hg hm rfl (pa_cons h1 pa_nil he0) (by decide) (by decide) he0 hpl, fun ρ S σ α G H Q hρ hR hp => ?_⟩
  refine h2 ρ S σ α G H _ hρ hR (post_bind hp fun d S1 α1 G1 H1 v _ e1 R1 r1 hp1 => ?_)
  unfold skK at hp1
  split at hp1
  case h_2 => exact hp1.elim
  rename_i ys hy
  exact sk_core (Γ := ⟨X.K, cl⟩) R1 r1 hy fun us q hq ru => post_lst R1 ru hp1 hq
/-- sorted(e) as a new cell -/
theorem q_sortC {p : Pos} (h : QE X cl E e m) (hg : Gl X "sorted") (hm : X.mg "sorted" = none)
    (he0 : starEach [e] X.env = (false, eval e X.env) :: starEach [] X.env := by rfl) (hpl : (backTo pos (starEach [] X.env)).any (·.1) = false := by rfl) :
    QE X cl E (.Call (.Name "sorted" p) [e] [] pos) (mSortC m) := by
  obtain ⟨t, h1, h2⟩ := h.ex
  refine ⟨_, pe_callB (CallR.or cr_sortedI cr_sortedPP) hg hm rfl (pa_cons h1 pa_nil he0) (by decide) (by decide) he0 hpl, fun ρ S σ α G H Q hρ hR hp => ?_⟩
  refine h2 ρ S σ α G H _ hρ hR (post_bind hp fun d S1 α1 G1 H1 v _ e1 R1 r1 hp1 => ?_)
  unfold skC at hp1
  split at hp1
  case h_2 => exact hp1.elim
  rename_i ys hy
  exact sk_core (Γ := ⟨X.K, cl⟩) R1 r1 hy fun us q hq ru => post_cell R1 ru hp1 hq
theorem q_ext {o : Expr} {mo : ME} {apos cpos : Pos} (ho : QE X cl E o mo) (he : QE X cl E e m) (hbase : attributeBase o "extend" X.env (eval o X.env) = eval o X.env := by rfl)
    (hfew : ((backTo cpos (starEach [e] X.env)).all (fun x => !x.1) && (backToKw cpos (keywordEach [] X.env)).all (fun x => x.1.isSome)
      && decide (([e] : List Expr).length + ([] : List Keyword).length + (if ([] : List Keyword).isEmpty then 0 else 1) < 30)) = true := by rfl)
    (hline : (apos.endLine == cpos.line) = true := by rfl) (hs : starEach [e] X.env = (false, eval e X.env) :: starEach [] X.env := by rfl) (hplain : (backTo cpos (starEach [] X.env)).any (·.1) = false := by rfl) :
    QE X cl E (.Call (.Attribute o "extend" apos) [e] [] cpos) (mExt mo m) := by
  obtain ⟨t, h1, h2⟩ := ho.ex
  obtain ⟨u, k1, k2⟩ := he.ex
  refine ⟨_, pe_bm PySem.F.plainAttrs_list PySem.F.slot_list_extend PySem.F.type_list_extend mt_extend h1 (pa_cons k1 pa_nil hs) hbase hfew hline hs hplain, fun ρ S σ α G H Q hρ hR hp => ?_⟩
  refine h2 ρ S σ α G H _ hρ hR (post_bind hp fun od S1 α1 G1 H1 ov q1 e1 R1 r1 hp1 => ?_)
  clear q1
  cases od <;> try exact hp1.elim
  rename_i kk
  dsimp only at hp1
  split at hp1
  case isFalse => exact hp1.elim
  rename_i hno
  obtain ⟨p, rfl, ha1, htv⟩ := listy R1 r1 hno
  refine ⟨htv, ?_⟩
  refine k2 ρ S1 σ α1 G1 H1 _ (hρ.mono e1) R1 (post_bind hp1 fun d S2 α2 G2 H2 v q2 e2 R2 r2 hp2 => ?_)
  have hp' : α2[kk]? = some p := by
    obtain ⟨β, rfl⟩ := e2.pre
    rw [List.getElem?_append_left (List.getElem?_eq_some_iff.mp ha1).1]
    exact ha1
  unfold extTo at hp2
  split at hp2
  case h_2 => exact hp2.elim
  rename_i xs ys hc hy
  split at hp2
  case isFalse => exact hp2.elim
  rename_i hl
  obtain ⟨b, ws, rfl, hb, rw'⟩ := lstOf_at R2 r2 hy
  obtain ⟨vs, q1, q2', q3⟩ := (R2.ok kk _ p hc hp').lst
  obtain ⟨R3, e3⟩ := R2.put hc hp' (q2'.append rw')
  exact ⟨p, b, vs, ws, rfl, rfl, q1, hb, by rw [← q2'.length, ← rw'.length]; exact sz hl, hp2 _ _ _ .non e3 R3 (by simp [Rep])⟩
end
section
variable {S : Store} {ρ : Env}
@[simp] theorem ap_sortL (m : ME) : mSortL m ρ S = (m ρ S).bind skK := (Eq.refl _).trans rfl
theorem intsQ_ints : ∀ ns : List Int, intsQ (ns.map .int) = some ns
  | [] => rfl
  | n :: ns => by rw [List.map_cons, intsQ, intsQ_ints ns]; rfl
theorem pairsQ_pairs : ∀ ps : List (Int × Int), pairsQ (ps.map pairD) = some ps
  | [] => rfl
  | p :: ps => by
    rw [List.map_cons]
    unfold pairD
    rw [pairsQ]
    have := pairsQ_pairs ps
    unfold pairD at this
    rw [this]
    rfl
theorem skX_ints (ns : List Int) : skX (ns.map .int) = some ((sortI ns).map .int) := by
  unfold skX
  rw [intsQ_ints]
theorem skX_pairs (ps : List (Int × Int)) : skX (ps.map pairD) = some ((sortP ps).map pairD) := by
  unfold skX
  cases ps with
  | nil => rfl
  | cons p ps =>
    have : intsQ ((p :: ps).map pairD) = none := rfl
    rw [this, pairsQ_pairs]
    rfl
@[simp] theorem ap_sortC (m : ME) : mSortC m ρ S = (m ρ S).bind skC := (Eq.refl _).trans rfl
theorem skK_ints {d : D} {ns : List Int} (h : rdL S d = some (ns.map .int)) : skK d S = .ok (.lst ((sortI ns).map .int)) S := by
  unfold skK
  rw [h, Option.bind_some, skX_ints]
theorem skK_pairs {d : D} {ps : List (Int × Int)} (h : rdL S d = some (ps.map pairD)) : skK d S = .ok (.lst ((sortP ps).map pairD)) S := by
  unfold skK
  rw [h, Option.bind_some, skX_pairs]
theorem skC_pairs {d : D} {ps : List (Int × Int)} (h : rdL S d = some (ps.map pairD)) : skC d S = .ok (.ref S.length) (S ++ [.lst ((sortP ps).map pairD)]) := by
  unfold skC
  rw [h, Option.bind_some, skX_pairs]
def extK (m : ME) (ρ : Env) (o : D) (S : Store) : Res D := match o with
  | .ref k => if notOb S k = true then (m ρ S).bind (extTo k) else .no
  | _ => .no
@[simp] theorem ap_ext (mo m : ME) : mExt mo m ρ S = (mo ρ S).bind (extK m ρ) := by
  unfold mExt
  congr 1
@[simp] theorem extK_ref (m : ME) (k : Nat) (h : notOb S k = true) : extK m ρ (.ref k) S = (m ρ S).bind (extTo k) := by show (if notOb S k = true then _ else _) = _; rw [if_pos h]
theorem extTo_ok {k : Nat} {d : D} {xs ys : List D} (h : S[k]? = some (.lst xs)) (hy : lstOf S d = some ys) (hl : xs.length + ys.length ≤ 100000) : extTo k d S = .ok .non (S.set k (.lst (xs ++ ys))) := by
  unfold extTo
  rw [h, hy]
  simp only [hl, if_true]
@[simp] theorem ap_pl (ip ifd b : Nat) (m : ME) : mPl ip ifd b m ρ S = if b < ρ.length then (match ρ[ip]? with
  | some (some (.int k)) => (m (ρ.set ifd none) S).bind (plR k)
  | _ => .no) else .no := rfl
theorem plR_ok {k : Int} {ps : List (Int × Int)} (h : ps.length ≤ 1000) : plR k (.lst (ps.map pairD)) S = .ok (.rt (.lst ((plK k ps).map .int))) S := by
  unfold plR
  simp only [pairsQ_pairs, h, if_true]
end
end Q
namespace L2
open PySem PySem.Spec PyProof.Rows
section
variable {prog : Program} {w : World} {A : Around} {E : Value → Shared → Prop} {s : Shared}
theorem adjust_back (n : Nat) : Builtin.Slice.sliceAdjust none none (-1) (n : Int) = ((n : Int) - 1, -1) := by
  simp [Builtin.Slice.sliceAdjust]
theorem places_back (n : Nat) : Builtin.Slice.slicePlaces ((n : Int) - 1) (-1) (-1) = n := by
  unfold Builtin.Slice.slicePlaces
  rw [if_neg (by decide)]
  by_cases h : n = 0
  · subst h; rfl
  · rw [if_pos (by omega), show (-(-1 : Int)) = 1 from rfl, Int.ediv_one]
    omega
theorem filterMap_cg {α β : Type} {f g : α → Option β} : ∀ l : List α, (∀ x ∈ l, f x = g x) → l.filterMap f = l.filterMap g
  | [], _ => rfl
  | x :: l, h => by rw [List.filterMap_cons, List.filterMap_cons, h x (by simp), filterMap_cg l fun y hy => h y (by simp [hy])]
theorem sliceApplied_back {sl : Addr} {vs : Value} {n : Nat} {Q : Int × Int × Nat → Shared → Prop} (hs : s.heap.IsSliceOf sl .none .none vs) (pv : IsPart vs (some (-1))) (h : Q ((n : Int) - 1, -1, n) s) :
    wpAny (model prog w) A (Builtin.Slice.sliceApplied (.ref sl) (pure (n : Int))) Q E s := by
  obtain ⟨os, hos, hcs, hds⟩ := hs
  refine wpAny_bind (wpAny_bind (wpAny_field hos hds rfl (wpAny_bind (wpAny_field hos hds rfl (wpAny_bind (wpAny_field hos hds rfl (wpAny_pure (wpAny_bind (HT.slicePart_ pv ?_)))))))))
  show wpAny _ _ (if ((-1 : Int) == 0) = true then _ else _) _ _ _
  rw [if_neg (by decide)]
  refine wpAny_bind (PyProof.Rows.slicePart_none (wpAny_bind (PyProof.Rows.slicePart_none (wpAny_bind (wpAny_pure ?_)))))
  show wpAny _ _ (match Builtin.Slice.sliceAdjust none none (-1) (n : Int) with | (lo, hi) => pure (lo, (-1 : Int), Builtin.Slice.slicePlaces lo hi (-1))) _ _ _
  rw [adjust_back]
  show wpAny _ _ (pure ((n : Int) - 1, (-1 : Int), Builtin.Slice.slicePlaces ((n : Int) - 1) (-1) (-1))) _ _ _
  rw [places_back]
  exact wpAny_pure h
theorem pick_back (xs : Array Value) : (List.filterMap (fun k : Nat => xs[((xs.size : Int) - 1 + (k : Int) * (-1)).toNat]?) (List.range xs.size)).toArray = xs.toList.reverse.toArray := by
  congr 1
  have e : List.filterMap (fun k : Nat => xs[((xs.size : Int) - 1 + (k : Int) * (-1)).toNat]?) (List.range xs.size) = List.filterMap (fun k : Nat => xs.toList.reverse[k]?) (List.range xs.size) := by
    refine filterMap_cg _ fun k hk => ?_
    have hk := List.mem_range.mp hk
    rw [List.getElem?_reverse (by simpa using hk)]
    rw [show ((xs.size : Int) - 1 + (k : Int) * (-1)).toNat = xs.size - 1 - k by omega]
    simp
  rw [e]
  have : xs.size = xs.toList.reverse.length := by simp
  rw [this]
  generalize xs.toList.reverse = ys
  induction ys with
  | nil => rfl
  | cons y ys ih =>
    rw [List.length_cons, List.range_succ_eq_map, List.filterMap_cons, List.filterMap_map]
    simp only [List.getElem?_cons_zero]
    congr 1
theorem getItem_tuple_back {t sl : Addr} {items : Array Value} {vs : Value} {Q : Value → Shared → Prop} (ht : IsTup s.heap t items) (hs : s.heap.IsSliceOf sl .none .none vs) (pv : IsPart vs (some (-1)))
    (h : Q (.ref s.heap.objs.size) { heap := s.heap.push { cls := .type "tuple", data := .seq items.toList.reverse.toArray }, gens := s.gens, drawn := s.drawn, toks := s.toks, os := s.os }) (hsz : items.size ≤ sizeLine) :
    wpAny (model prog w) A (getItem (.ref t) (.ref sl)) Q E s := by
  have hs' := hs
  obtain ⟨os, hos, hcs, hds⟩ := hs'
  have hT : s.TypeIs (.ref sl) "slice" := ⟨os, hos, hcs⟩
  refine wpAny_holding (wpAny_bind (wpAny_sequenceKey ht.typeIs (by decide) (wpAny_bind (wpAny_callSpecial?_slot ht.typeIs slot_tuple_getitem (wpAny_call_entry slot_tuple_getitem ht.typeIs entry_tuple_getitem ?_ (args_tuple_getitem _ _))))))
  show wpAny _ _ (Builtin.Tuple.tupleItemsOf (.ref t) >>= _) _ _ _
  refine wpAny_bind (tupleItemsOf_ ht (wpAny_bind (wpAny_typeOf hT ?_)))
  rw [if_pos (by decide)]
  refine wpAny_bind (sliceApplied_back hs pv ?_)
  show wpAny _ _ (if (((items.size : Int) - 1 == 0) && ((-1 : Int) == 1) && (items.size == items.size)) = true then _ else _) _ _ _
  rw [if_neg (by simp)]
  show wpAny _ _ (Builtin.Tuple.tupleExact _ >>= _) _ _ _
  rw [pick_back]
  refine wpAny_bind (wpAny_newObj_type ?_ (by show items.toList.reverse.toArray.size ≤ sizeLine; simpa using hsz))
  exact wpAny_pure ⟨_, rfl, wpAny_pure h⟩
end
def tRevT (K : PySem.W.Frag) (te : TE) : TE := fun σ H Q => te σ H fun x H1 => ∃ a xs, x = .ref a ∧ SqT K H1 a xs ∧ ∀ p, H1 p = none → Q (.ref p) (upd H1 p (.tup xs.reverse))
theorem pe_revT {X : Cx} {e : Expr} {te : TE} {k : Nat} {p1 p2 p3 pos : Pos} (he : PE X e te) : PE X (.Subscript e (.Slice none none (some (.UnaryOp .USub (.Constant (.int 1) k p1) p2)) p3) pos) (tRevT X.K te) := by
  refine ⟨fun pins s σ H Q I h => PyProof.Rows.Subscript_ (thn (he.run pins s σ H _ I h) ?_)⟩
  rintro v s1 ⟨x, H1, I1, r1, a, xs, rfl, hx, q⟩
  cases r1
  have hst := po_some (X := X) (pe_un un_neg (pe_int (X := X) (i := 1) (j := k) (pos := p1)) : PE X (.UnaryOp .USub (.Constant (.int 1) k p1) p2) _)
  refine wpAny_Slice (thn (po_none.run pins s1 σ H1 (fun o H2 => o = none ∧ H2 = H1) I1 ⟨rfl, rfl⟩) ?_)
  rintro vl s2 ⟨l, H2, I2, pl, rfl, rfl⟩
  refine thn (po_none.run pins s2 σ H2 (fun o H3 => o = none ∧ H3 = H2) I2 ⟨rfl, rfl⟩) ?_
  rintro vu s3 ⟨u, H3, I3, pu, rfl, rfl⟩
  refine thn (hst.run pins s3 σ H3 (fun o H4 => o = some (-1) ∧ H4 = H3) I3 ?_) ?_
  · exact ⟨1, rfl, -1, rfl, rfl, rfl⟩
  rintro vs s4 ⟨o, H4, I4, ps, rfl, rfl⟩
  cases pl
  cases pu
  have I5 := I4.kept (t' := s4.toks) (h' := s4.heap.push { cls := .type "slice", data := .fields #[Value.none, Value.none, vs] }) fun b ob q => Heap.get?_push_of_some _ q
  obtain ⟨its, r, ht, hz⟩ := I5.tuple hx
  refine tail_any ht.typeIs slot_tuple_getitem.lookup (getItem_tuple_back ht (Heap.IsSliceOf.new _ _ _ _) ps ?_ (by rw [List.size_toArray, r.length.symm]; exact hz)) rfl
  refine ⟨.ref _, upd H4 _ (.tup xs.reverse), I5.laid (fun b ob q => Heap.get?_push_of_some _ q) (Nat.le_refl _) ⟨by rw [List.length_reverse]; exact hz, its.reverse, r.reverse, ?_⟩, rfl, q _ (I5.hok.fresh (Nat.le_refl _))⟩
  exact IsTup.new _ _
end L2
namespace Q
open PySem L2
theorem PE.or {X : Cx} {e : Expr} {t u : TE} (h : PE X e t) (h' : PE X e u) : PE X e (fun σ H Q => t σ H Q ∨ u σ H Q) := ⟨fun pins s σ H Q I q => q.elim (fun q => h.run pins s σ H Q I q) (fun q => h'.run pins s σ H Q I q)⟩
theorem rep_rev {Γ : Gm} {α : List Addr} {G : Hp} : ∀ {ds : List D} {vs : List V}, RepL Γ α G ds vs → RepL Γ α G ds.reverse vs.reverse
  | [], vs, h => by
    have : vs = [] := by simpa [RepL] using h
    subst this
    simpa using h
  | d :: ds, vs, h => by
    unfold RepL at h
    obtain ⟨v, r, rfl, h1, h2⟩ := h
    rw [List.reverse_cons, List.reverse_cons]
    exact (rep_rev h2).append (show RepL Γ α G [d] [v] by unfold RepL; exact ⟨v, [], rfl, h1, by simp [RepL]⟩)
def revK (d : D) (S : Store) : Res D := match d with
  | .tup xs => .ok (.tup xs.reverse) S
  | .lst xs => .ok (.lst xs.reverse) S
  | _ => .no
def mRev (m : ME) : ME := fun ρ S => (m ρ S).bind revK
/-- what a star unpacks -/
def seqX (S : Store) : D → Option (List D)
  | .tup xs => some xs
  | d => rdL S d
def mStar (m : ME) (n : MA) : MA := fun ρ S => (m ρ S).bind fun d S1 => match seqX S1 d with
  | some xs => (n ρ S1).bind fun ys S2 => .ok (xs ++ ys) S2
  | none => .no
def popAt (k : Nat) (d : D) (S : Store) : Res D := match d, S[k]? with
  | .int i, some (.lst xs) => if 0 ≤ i ∧ i < 2 ^ 40 then (match xs[i.toNat]? with
    | some x => .ok x (S.set k (.lst (xs.eraseIdx i.toNat)))
    | none => .no) else .no
  | _, _ => .no
def mPopAt (mo m : ME) : ME := fun ρ S => (mo ρ S).bind fun o S1 => match o with
  | .ref k => if notOb S1 k = true then (m ρ S1).bind fun d S2 => popAt k d S2 else .no
  | _ => .no
def rangeC (i c : Int) (n : Nat) : List D := (List.range n).map fun (k : Nat) => .int (i + (k : Int) * c)
def mRange3 (m1 m2 m3 : ME) : MA := fun ρ S => (m1 ρ S).bind fun d1 S1 => (m2 ρ S1).bind fun d2 S2 => (m3 ρ S2).bind fun d3 S3 => match d1, d2, d3 with
  | .int i, .int j, .int c => if (0 ≤ i ∧ i < 2 ^ 40) ∧ (0 ≤ j ∧ j < 2 ^ 40) ∧ (0 < c ∧ c < 2 ^ 20) then .ok (rangeC i c (if i < j then ((j - i - 1) / c + 1).toNat else 0)) S3 else if (i.natAbs < 2 ^ 40 ∧ j.natAbs < 2 ^ 40) ∧ c = -1 then .ok (rangeC i (-1) (i - j).toNat) S3 else .no
  | _, _, _ => .no
section
variable {X : Cx} {cl : Nat → Addr} {E : XK} {e e1 e2 e3 : Expr} {m m1 m2 m3 : ME} {pos : Pos}
/-- a statement that is not reached -/
theorem qs_none {st : Stmt} : QS X cl E st (fun _ _ => .no) := ⟨⟨fun _ _ _ => False, ⟨fun _ _ _ _ _ _ h => h.elim⟩, fun _ _ _ _ _ _ _ _ _ hp => hp.elim⟩⟩
theorem q_rev {k : Nat} {p1 p2 p3 : Pos} (h : QE X cl E e m) : QE X cl E (.Subscript e (.Slice none none (some (.UnaryOp .USub (.Constant (.int 1) k p1) p2)) p3) pos) (mRev m) := by
  obtain ⟨t, h1, h2⟩ := h.ex
  refine ⟨_, PE.or (pe_revT h1) (pe_revL h1), fun ρ S σ α G H Q hρ hR hp => ?_⟩
  have tups : ∀ xs S', m ρ S = .ok (.tup xs) S' → tRevT X.K t σ H Q := fun xs S' q => by
    refine h2 ρ S σ α G H _ hρ hR (post_bind hp fun d S1 α1 G1 H1 v q1 e1 R1 r1 hp1 => ?_)
    rw [q] at q1
    cases q1
    obtain ⟨a, vs, rfl, q2, r2⟩ := tup_at R1 r1
    exact ⟨a, vs, rfl, q2, fun p hz => post_tup R1 (rep_rev r2) hp1 hz⟩
  have lists : ∀ xs S', m ρ S = .ok (.lst xs) S' → tRevL X.K t σ H Q := fun xs S' q => by
    refine h2 ρ S σ α G H _ hρ hR (post_bind hp fun d S1 α1 G1 H1 v q1 e1 R1 r1 hp1 => ?_)
    rw [q] at q1
    cases q1
    obtain ⟨a, vs, rfl, q2, r2⟩ := rdL_at R1 r1 (show rdL S' (.lst xs) = some xs from rfl)
    exact ⟨a, vs, rfl, q2, fun p hz => post_lst R1 (rep_rev r2) hp1 hz⟩
  cases q : m ρ S with
  | no => unfold mRev at hp; rw [q] at hp; exact hp.elim
  | ex e S' =>
    refine .inl (h2 ρ S σ α G H _ hρ hR ?_)
    unfold mRev at hp
    rw [q] at hp ⊢
    exact hp
  | ok d S' =>
    cases d with
    | tup xs => exact .inl (tups xs S' q)
    | lst xs => exact .inr (lists xs S' q)
    | _ => (unfold mRev at hp; rw [q] at hp; exact hp.elim)
theorem seqX_at {Γ : Gm} {α : List Addr} {G H : Hp} {S : Store} (R : Rl Γ α G S H) {d : D} {v : V} {xs : List D} (r : Rep Γ α G d v) (h : seqX S d = some xs) : ∃ a vs, v = .ref a ∧ (SqT Γ.K H a vs ∨ SqL Γ.K H a vs) ∧ RepL Γ α G xs vs := by
  have go : rdL S d = some xs → ∃ a vs, v = .ref a ∧ (SqT Γ.K H a vs ∨ SqL Γ.K H a vs) ∧ RepL Γ α G xs vs := fun h => by
    obtain ⟨a, vs, e, q, r⟩ := rdL_at R r h
    exact ⟨a, vs, e, .inr q, r⟩
  cases d with
  | tup ys =>
    have e : ys = xs := Option.some.inj h
    subst e
    obtain ⟨a, vs, rfl, q, r⟩ := tup_at R r
    exact ⟨a, vs, rfl, .inl q, r⟩
  | _ => exact go h
theorem q_star {es : List Expr} {n : MA} {p : Pos} (h : QE X cl E e m) (k : QA X cl E es n) (hs : starEach (.Starred e p :: es) X.env = (true, eval e X.env) :: starEach es X.env := by rfl) : QA X cl E (.Starred e p :: es) (mStar m n) := by
  obtain ⟨t, h1, h2⟩ := h.ex
  obtain ⟨u, k1, k2⟩ := k.ex
  refine ⟨_, StX.pa_star h1 k1 hs, fun ρ S σ α G H Q hρ hR hp => ?_⟩
  refine h2 ρ S σ α G H _ hρ hR (post_bind hp fun d S1 α1 G1 H1 v q1 e1 R1 r1 hp1 => ?_)
  clear q1
  split at hp1
  case h_2 => exact hp1.elim
  rename_i xs hx
  obtain ⟨a, vs, rfl, q, rL⟩ := seqX_at R1 r1 hx
  refine ⟨a, vs, rfl, q, k2 ρ S1 σ α1 G1 H1 _ (hρ.mono e1) R1 (post_bind hp1 fun ys S2 α2 G2 H2 ws q2 e2 R2 r2 hp2 => ?_)⟩
  exact post_ok hp2 R2 ((RepL.mono e2.pre e2.sub _ _ rL).append r2)
theorem erase_rep {Γ : Gm} {α : List Addr} {G : Hp} : ∀ (i : Nat) {ds : List D} {vs : List V}, RepL Γ α G ds vs → RepL Γ α G (ds.eraseIdx i) (vs.eraseIdx i)
  | i, [], vs, h => by
    have : vs = [] := by simpa [RepL] using h
    subst this
    simpa using h
  | 0, d :: ds, vs, h => by
    unfold RepL at h
    obtain ⟨v, r, rfl, h1, h2⟩ := h
    exact h2
  | i + 1, d :: ds, vs, h => by
    unfold RepL at h
    obtain ⟨v, r, rfl, h1, h2⟩ := h
    rw [List.eraseIdx_cons_succ, List.eraseIdx_cons_succ]
    unfold RepL
    exact ⟨v, _, rfl, h1, erase_rep i h2⟩
theorem seqIx (i : Int) (n : Nat) (h0 : 0 ≤ i) (h1 : i < n) : seqIndex? i n = some i.toNat := by
  unfold seqIndex?
  simp
  omega
theorem q_popAt {o : Expr} {mo : ME} {apos cpos : Pos} (ho : QE X cl E o mo) (he : QE X cl E e m) (hbase : attributeBase o "pop" X.env (eval o X.env) = eval o X.env := by rfl)
    (hfew : ((backTo cpos (starEach [e] X.env)).all (fun x => !x.1) && (backToKw cpos (keywordEach [] X.env)).all (fun x => x.1.isSome)
      && decide (([e] : List Expr).length + ([] : List Keyword).length + (if ([] : List Keyword).isEmpty then 0 else 1) < 30)) = true := by rfl)
    (hline : (apos.endLine == cpos.line) = true := by rfl) (hs : starEach [e] X.env = (false, eval e X.env) :: starEach [] X.env := by rfl) (hplain : (backTo cpos (starEach [] X.env)).any (·.1) = false := by rfl) :
    QE X cl E (.Call (.Attribute o "pop" apos) [e] [] cpos) (mPopAt mo m) := by
  obtain ⟨t, h1, h2⟩ := ho.ex
  obtain ⟨u, k1, k2⟩ := he.ex
  refine ⟨_, pe_bm PySem.F.plainAttrs_list PySem.F.slot_list_pop PySem.F.type_list_pop mt_popAt h1 (pa_cons k1 pa_nil hs) hbase hfew hline hs hplain, fun ρ S σ α G H Q hρ hR hp => ?_⟩
  refine h2 ρ S σ α G H _ hρ hR (post_bind hp fun od S1 α1 G1 H1 ov q1 e1 R1 r1 hp1 => ?_)
  clear q1
  cases od <;> try exact hp1.elim
  rename_i kk
  dsimp only at hp1
  split at hp1
  case isFalse => exact hp1.elim
  rename_i hno
  obtain ⟨p, rfl, ha1, htv⟩ := listy R1 r1 hno
  refine ⟨htv, ?_⟩
  refine k2 ρ S1 σ α1 G1 H1 _ (hρ.mono e1) R1 (post_bind hp1 fun d S2 α2 G2 H2 v q2 e2 R2 r2 hp2 => ?_)
  have hp' : α2[kk]? = some p := by
    obtain ⟨β, rfl⟩ := e2.pre
    rw [List.getElem?_append_left (List.getElem?_eq_some_iff.mp ha1).1]
    exact ha1
  unfold popAt at hp2
  split at hp2
  case h_2 => exact hp2.elim
  rename_i i xs hc
  split at hp2
  case isFalse => exact hp2.elim
  rename_i hi
  split at hp2
  case h_2 => exact hp2.elim
  rename_i x hx
  simp only [Rep] at r2
  subst r2
  obtain ⟨vs, a1, a2, a3⟩ := (R2.ok kk _ p hc hp').lst
  obtain ⟨y, hy, ry⟩ := a2.get hx
  have hl : i.toNat < xs.length := (List.getElem?_eq_some_iff.mp hx).1
  obtain ⟨R3, e3⟩ := R2.put hc hp' (erase_rep i.toNat a2)
  refine ⟨p, vs, i, i.toNat, y, rfl, rfl, a1, ?_, ?_, seqIx i vs.length hi.1 (by rw [← a2.length]; omega), hy, hp2 _ _ _ y e3 R3 (Rep.mono e3.pre e3.sub _ _ ry)⟩
  · have : -((2 : Int) ^ 63) ≤ 0 := by decide
    omega
  · have : (2 : Int) ^ 40 < 2 ^ 63 := by decide
    omega
theorem steps_rangeC {Γ : Gm} {α : List Addr} {G : Hp} (lo c : Int) (k : Nat) : Steps Γ α G (rangeC lo c k) (Itc lo c k) := fun i α2 G2 H2 S2 hp hs R2 => by
  refine ⟨fun hl => (by simpa [rangeC] using hl : k ≤ i), fun d hd => ?_⟩
  unfold rangeC at hd
  rw [List.getElem?_map] at hd
  cases q : (List.range k)[i]? with
  | none => simp [q] at hd
  | some j =>
    simp only [q, Option.map_some, Option.some.injEq] at hd
    obtain ⟨h1, h2⟩ := List.getElem?_eq_some_iff.mp q
    simp at h1 h2
    subst h2
    refine ⟨h1, fun x H3 hy => ?_⟩
    obtain ⟨rfl, rfl⟩ := hy
    exact ⟨G2, R2, Ext.refl _ _ _, by subst hd; simp [Rep]⟩
theorem rgC {i j c : Int} (hi : 0 ≤ i ∧ i < 2 ^ 40) (hj : 0 ≤ j ∧ j < 2 ^ 40) (hc : 0 < c ∧ c < 2 ^ 20) : RgC i j c (if i < j then ((j - i - 1) / c + 1).toNat else 0) := by
  have q : ∀ x : Int, -(2 ^ 50) < x → x < 2 ^ 50 → Builtin.Range.rangeFitsLong x = true := fun x a b => by
    have e1 : (2 : Int) ^ 50 < 2 ^ 63 := by decide
    unfold Builtin.Range.rangeFitsLong
    simp
    omega
  have s0 : Builtin.Range.rangeSize i j c = (((if i < j then ((j - i - 1) / c + 1).toNat else 0 : Nat)) : Int) := by
    unfold Builtin.Range.rangeSize
    rw [if_pos (by omega)]
    split
    · have : 0 ≤ (j - i - 1) / c := Int.ediv_nonneg (by omega) (by omega)
      omega
    · rfl
  have s1 : 0 ≤ Builtin.Range.rangeSize i j c ∧ Builtin.Range.rangeSize i j c < 2 ^ 41 := by
    unfold Builtin.Range.rangeSize
    rw [if_pos (by omega)]
    split
    · have h1 : 0 ≤ (j - i - 1) / c := Int.ediv_nonneg (by omega) (by omega)
      have h2 : (j - i - 1) / c ≤ j - i - 1 := Int.ediv_le_self _ (by omega)
      omega
    · omega
  refine ⟨by omega, by omega, ?_, s0⟩
  unfold Builtin.Range.small
  rw [q i (by omega) (by omega), q j (by omega) (by omega), q c (by omega) (by omega), q _ (by omega) (by omega), if_pos (by omega), q (j + (c - 1)) (by omega) (by omega)]
  simp
theorem qi_range3 {tg : Expr} {p : Pos} (h : QE X cl E e1 m1) (h' : QE X cl E e2 m2) (h'' : QE X cl E e3 m3) (hg : Gl X "range") (hm : X.mg "range" = none) (hs : starEach [e1, e2, e3] X.env = (false, eval e1 X.env) :: starEach [e2, e3] X.env := by rfl)
    (hs2 : starEach [e2, e3] X.env = (false, eval e2 X.env) :: starEach [e3] X.env := by rfl) (hs3 : starEach [e3] X.env = (false, eval e3 X.env) :: starEach [] X.env := by rfl) (hpl : ((backTo pos (starEach [e2, e3] X.env)).any fun x => x.1) = false := by rfl) : QI X cl E tg (.Call (.Name "range" p) [e1, e2, e3] [] pos) (mRange3 m1 m2 m3) := by
  obtain ⟨t, a1, a2⟩ := h.ex
  obtain ⟨u, b1, b2⟩ := h'.ex
  obtain ⟨x, c1, c2⟩ := h''.ex
  refine ⟨_, pi_range3 hg hm (pa_cons a1 (pa_cons b1 (pa_cons c1 pa_nil hs3) hs2) hs) hs hpl, fun ρ S σ α G H R hρ hR hp => a2 ρ S σ α G H _ hρ hR (posti_bind hp fun d1 S1 α1 G1 H1 v1 q1 e1 R1 r1 hp1 => ?_)⟩
  refine b2 ρ S1 σ α1 G1 H1 _ (hρ.mono e1) R1 (posti_bind hp1 fun d2 S2 α2 G2 H2 v2 q2 e2 R2 r2 hp2 => ?_)
  refine c2 ρ S2 σ α2 G2 H2 _ ((hρ.mono e1).mono e2) R2 (posti_bind hp2 fun d3 S3 α3 G3 H3 v3 q3 e3 R3 r3 hp3 => ?_)
  clear q1 q2 q3
  cases d1 <;> cases d2 <;> cases d3 <;> try exact hp3.elim
  rename_i i j c
  simp only at hp3
  simp only [Rep] at r1 r2 r3
  subst r1 r2 r3
  split at hp3
  · rename_i hb
    exact ⟨i, j, c, _, rfl, rgC hb.1 hb.2.1 hb.2.2, hp3 α3 G3 H3 _ (Ext.refl _ _ _) R3 (steps_rangeC i c _)⟩
  · split at hp3
    · rename_i hb
      obtain ⟨⟨h1, h2⟩, rfl⟩ := hb
      have z : (2 : Nat) ^ 40 < 2 ^ 62 := by decide
      have z2 : (2 : Int) ^ 40 < 2 ^ 62 := by decide
      exact ⟨i, j, -1, _, rfl, RgC.neg (by omega) (by omega) (by omega) (by omega), hp3 α3 G3 H3 _ (Ext.refl _ _ _) R3 (steps_rangeC i (-1) _)⟩
    · exact hp3.elim
end
section
variable {S : Store} {ρ : Env}
@[simp] theorem ap_rev (m : ME) : mRev m ρ S = (m ρ S).bind revK := (Eq.refl _).trans rfl
@[simp] theorem revK_tup (xs : List D) : revK (.tup xs) S = .ok (.tup xs.reverse) S := (Eq.refl _).trans rfl
@[simp] theorem revK_lst (xs : List D) : revK (.lst xs) S = .ok (.lst xs.reverse) S := (Eq.refl _).trans rfl
def starK2 (xs ys : List D) (S : Store) : Res (List D) := .ok (xs ++ ys) S
@[simp] theorem starK2_ap (xs ys : List D) : starK2 xs ys S = .ok (xs ++ ys) S := (Eq.refl _).trans rfl
def starK (n : MA) (ρ : Env) (d : D) (S : Store) : Res (List D) := match seqX S d with
  | some xs => (n ρ S).bind (starK2 xs)
  | none => .no
@[simp] theorem ap_star (m : ME) (n : MA) : mStar m n ρ S = (m ρ S).bind (starK n ρ) := (Eq.refl _).trans rfl
@[simp] theorem starK_tup (n : MA) (xs : List D) : starK n ρ (.tup xs) S = (n ρ S).bind (starK2 xs) := (Eq.refl _).trans rfl
@[simp] theorem starK_lst (n : MA) (xs : List D) : starK n ρ (.lst xs) S = (n ρ S).bind (starK2 xs) := (Eq.refl _).trans rfl
def popK (m : ME) (ρ : Env) (o : D) (S : Store) : Res D := match o with
  | .ref k => if notOb S k = true then (m ρ S).bind (popAt k) else .no
  | _ => .no
@[simp] theorem ap_popAt (mo m : ME) : mPopAt mo m ρ S = (mo ρ S).bind (popK m ρ) := (Eq.refl _).trans rfl
@[simp] theorem popK_ref (m : ME) (k : Nat) (h : notOb S k = true) : popK m ρ (.ref k) S = (m ρ S).bind (popAt k) := by show (if notOb S k = true then _ else _) = _; rw [if_pos h]
theorem popAt_ok {k : Nat} {xs : List D} {i : Int} {x : D} (h : S[k]? = some (.lst xs)) (h0 : 0 ≤ i ∧ i < 2 ^ 40) (hx : xs[i.toNat]? = some x) : popAt k (.int i) S = .ok x (S.set k (.lst (xs.eraseIdx i.toNat))) := by
  unfold popAt
  rw [h]
  simp only [if_pos h0, hx]
def r3K3 (d1 d2 d3 : D) (S : Store) : Res (List D) := match d1, d2, d3 with
  | .int i, .int j, .int c => if (0 ≤ i ∧ i < 2 ^ 40) ∧ (0 ≤ j ∧ j < 2 ^ 40) ∧ (0 < c ∧ c < 2 ^ 20) then .ok (rangeC i c (if i < j then ((j - i - 1) / c + 1).toNat else 0)) S else if (i.natAbs < 2 ^ 40 ∧ j.natAbs < 2 ^ 40) ∧ c = -1 then .ok (rangeC i (-1) (i - j).toNat) S else .no
  | _, _, _ => .no
def r3K2 (m3 : ME) (ρ : Env) (d1 d2 : D) (S : Store) : Res (List D) := (m3 ρ S).bind (r3K3 d1 d2)
@[simp] theorem r3K2_ap (m3 : ME) (d1 d2 : D) : r3K2 m3 ρ d1 d2 S = (m3 ρ S).bind (r3K3 d1 d2) := (Eq.refl _).trans rfl
def r3K1 (m2 m3 : ME) (ρ : Env) (d1 : D) (S : Store) : Res (List D) := (m2 ρ S).bind (r3K2 m3 ρ d1)
@[simp] theorem r3K1_ap (m2 m3 : ME) (d1 : D) : r3K1 m2 m3 ρ d1 S = (m2 ρ S).bind (r3K2 m3 ρ d1) := (Eq.refl _).trans rfl
@[simp] theorem ap_range3 (m1 m2 m3 : ME) : mRange3 m1 m2 m3 ρ S = (m1 ρ S).bind (r3K1 m2 m3 ρ) := (Eq.refl _).trans rfl
@[simp] theorem ap_none {β : Type} : (fun (_ : Env) (_ : Store) => (Res.no : Res β)) ρ S = .no := rfl
end
end Q
namespace Q
open PySem L2
def obOf (S : Store) (c : Nat) : D → Option (List (Option D))
  | .ref k => match S[k]? with
    | some (.ob c' fs) => if c' = c then some fs else none
    | _ => none
  | _ => none
theorem obOf_ref {S : Store} {k c : Nat} {fs : List (Option D)} (h : S[k]? = some (.ob c fs)) : obOf S c (.ref k) = some fs := by simp [obOf, h]
theorem obOf_at {Γ : Gm} {α : List Addr} {G H : Hp} {S : Store} {c : Nat} {d : D} {v : V} {fs : List (Option D)} (R : Rl Γ α G S H) (r : Rep Γ α G d v) (h : obOf S c d = some fs) :
    ∃ k a dx vs, d = .ref k ∧ S[k]? = some (.ob c fs) ∧ α[k]? = some a ∧ v = .ref a ∧ H a = some (SlX.SlO a (Γ.cl c) dx vs) ∧ G dx = some (.xd []) ∧ H dx = some (.xd []) ∧ RepO Γ α G fs vs := by
  cases d <;> try (simp [obOf] at h; done)
  rename_i k
  unfold Rep at r
  obtain ⟨a, rfl, ha⟩ := r
  unfold obOf at h
  cases q : S[k]? with
  | none => simp [q] at h
  | some cc =>
    cases cc <;> simp [q] at h
    rename_i c' fs'
    obtain ⟨rfl, rfl⟩ := h
    obtain ⟨o, ⟨dx, vs, e, hx, ro⟩, w⟩ := R.ok k _ a q ha
    subst e
    rcases w with ⟨_, w1, _⟩ | ⟨w, _⟩
    · exact ⟨k, a, dx, vs, rfl, q, ha, rfl, w1, hx, R.sub _ _ hx, ro⟩
    · cases w
def fldR (c i : Nat) (d : D) (S : Store) : Res D := match obOf S c d with
  | some fs => match fs[i]? with
    | some (some x) => .ok x S
    | _ => .no
  | none => .no
/-- o.f, the slot i of an instance that changes -/
def mFldR (c i : Nat) (m : ME) : ME := fun ρ S => (m ρ S).bind (fldR c i)
section
variable {X : Cx} {cl : Nat → Addr} {E : XK} {e : Expr} {m : ME} {f : Str} {pos : Pos}
theorem q_fldR (c i : Nat) {p : Addr} (h : QE X cl E e m) (hc : SlX.SCls X.K (cl c)) (hs : SlX.Slot1 X.K (cl c) f p i) (hb : attributeBase e f X.env (eval e X.env) = eval e X.env := by rfl) : QE X cl E (.Attribute e f pos) (mFldR c i m) := by
  obtain ⟨t, h1, h2⟩ := h.ex
  refine ⟨_, SlX.pe_sl h1 hb, fun ρ S σ α G H Q hρ hR hp => h2 ρ S σ α G H _ hρ hR (post_bind hp fun d S1 α1 G1 H1 v _ e1 R1 r1 hp1 => ?_)⟩
  unfold fldR at hp1
  cases q : obOf S1 c d with
  | none => rw [q] at hp1; exact hp1.elim
  | some fs =>
    rw [q] at hp1
    simp only at hp1
    split at hp1
    · rename_i x hx
      obtain ⟨k, a, dx, vs, rfl, hk, ha, rfl, hH, hG, hdx, ro⟩ := obOf_at R1 r1 q
      obtain ⟨w, hw, rw'⟩ := ro i x hx
      exact ⟨a, cl c, dx, p, vs, i, w, rfl, .inr ⟨hH, hdx⟩, hc, hs, hw, post_ok hp1 R1 rw'⟩
    · exact hp1.elim
end
def putO (i : Nat) (d : D) (fs : List (Option D)) : List (Option D) := (fs ++ List.replicate (i + 1 - fs.length) none).set i (some d)
theorem RepO.put {Γ : Gm} {α : List Addr} {G : Hp} {fs : List (Option D)} {vs : List (Option V)} (h : RepO Γ α G fs vs) (i : Nat) {d : D} {v : V} (r : Rep Γ α G d v) : RepO Γ α G (putO i d fs) (SlX.putS i v vs) := by
  intro j e he
  by_cases hj : j = i
  · subst hj
    refine ⟨v, SlX.putS_get j v vs, ?_⟩
    have : (putO j d fs)[j]? = some (some d) := by
      unfold putO
      exact List.getElem?_set_self (by simp only [List.length_append, List.length_replicate]; omega)
    rw [this] at he
    cases he
    exact r
  · have : fs[j]? = some (some e) := by
      unfold putO at he
      rw [List.getElem?_set_ne (Ne.symm hj)] at he
      by_cases hl : j < fs.length
      · rw [List.getElem?_append_left hl] at he
        exact he
      · rw [List.getElem?_append_right (by omega), List.getElem?_replicate] at he
        split at he <;> cases he
    obtain ⟨w, hw, rw'⟩ := h j e this
    exact ⟨w, (SlX.putS_ne hj).mpr hw, rw'⟩
/-- o.f = .. -/
def setFld (c i : Nat) (o d : D) (S : Store) : Res Unit := match o with
  | .ref k => match obOf S c (.ref k) with
    | some fs => .ok () (S.set k (.ob c (putO i d fs)))
    | none => .no
  | _ => .no
def mgFld (c i : Nat) (mo : ME) : MG := fun d ρ S => (mo ρ S).bind fun o S1 => (setFld c i o d S1).bind fun _ S2 => .ok ρ S2
theorem slH_same {H : Hp} {a C dx : Addr} {vs : List (Option V)} (h : H dx = some (.xd [])) : SlX.slH H a C dx vs = upd H a (SlX.SlO a C dx vs) := by
  unfold SlX.slH
  rw [updS h]
section
variable {X : Cx} {cl : Nat → Addr} {E : XK} {o : Expr} {mo : ME} {f : Str} {pos : Pos}
theorem qg_fld (c i : Nat) {p : Addr} (ho : QE X cl E o mo) (hc : SlX.SCls X.K (cl c)) (hs : SlX.Slot1 X.K (cl c) f p i)
    (ha : ∀ v, assign (.Attribute o f pos) X.env v = (do
      let ov ← holding [v] (eval o X.env)
      standAt pos.atName
      holding [v, ov] (setAttr ov f v)
      release [v, ov] []) := by intro _; rfl) : QG X cl E (.Attribute o f pos) (mgFld c i mo) [] := by
  obtain ⟨t, h1, h2⟩ := ho.ex
  refine ⟨_, pg_sl h1 ha, fun d ρ S σ α G H v Q hρ hR r hp => ?_⟩
  refine h2 ρ S σ α G H _ hρ hR (post_bind hp fun od S1 α1 G1 H1 ov q1 e1 R1 r1 hp1 => ?_)
  clear q1
  unfold setFld at hp1
  cases od <;> try exact hp1.elim
  rename_i k
  simp only at hp1
  cases q : obOf S1 c (.ref k) with
  | none => rw [q] at hp1; exact hp1.elim
  | some fs =>
    rw [q] at hp1
    obtain ⟨k', a, dx, vs, ek, hk, hα, rfl, hH, hG, hdx, ro⟩ := obOf_at R1 r1 q
    cases ek
    have r0 : Rep ⟨X.K, cl⟩ α1 G1 d v := Rep.mono e1.pre e1.sub _ _ r
    obtain ⟨R2, e2⟩ := R1.putC (c1 := .ob c (putO i d fs)) hk hα rfl rfl ⟨dx, _, rfl, hG, ro.put i r0⟩
    refine ⟨a, cl c, dx, p, vs, i, rfl, .inr ⟨hH, hdx⟩, hc, hs, ?_⟩
    rw [slH_same hdx]
    exact hp1 α1 G1 _ σ e2 R2 ((hρ.mono e1).mono e2) ⟨rfl, fun _ _ => rfl⟩
end
def mMethR (c : Nat) (g : List D → Store → Res D) (m : ME) (n : MA) : ME := fun ρ S => (m ρ S).bind fun d S1 => match obOf S1 c d with
  | some _ => (n ρ S1).bind fun ds S2 => g (d :: ds) S2
  | none => .no
section
variable {X : Cx} {cl : Nat → Addr} {E : XK} {pos apos : Pos} {o e : Expr} {es : List Expr} {f : Str} {mo : ME} {n : MA}
theorem q_methR {g : List D → Store → Res D} {fm : List D → Store → Res D} {k c : Nat} {fa : Addr} {pl : Sem Bool} (ho : QE X cl E o mo) (hc : SlX.SCls X.K (cl c)) (hm : Meth X.K (cl c) f fa) (F : FnR X.prog X.w X.K X.mg X.base CX0 k fa (spM ⟨X.K, cl⟩ fm)) (hr : Room k X.A)
    (ha : QA X cl E (e :: es) n) (hf : SndC ⟨X.K, cl⟩ E (fun vs H Q => spM ⟨X.K, cl⟩ fm vs H Q E0) g)
    (hst : starEach (e :: es) X.env = (false, eval e X.env) :: starEach es X.env := by rfl) (hpl : (backTo pos (starEach es X.env)).any (·.1) = false := by rfl)
    (ht : eval (.Call (.Attribute o f apos) (e :: es) [] pos) X.env = (do
      let ov ← eval o X.env
      standAt apos.atName
      let (f, first) ← holding [ov] (getMethod ov f pl)
      callWith pos f first (backTo pos (starEach (e :: es) X.env)) (backToKw pos (keywordEach [] X.env))) := by rfl) :
    QE X cl E (.Call (.Attribute o f apos) (e :: es) [] pos) (mMethR c g mo n) := by
  obtain ⟨t, h1, h2⟩ := ho.ex
  obtain ⟨u, k1, k2⟩ := ha.ex
  refine ⟨_, SlX.pe_methSl h1 hc hm F hr pass0 k1 hst hpl ht, fun ρ S σ α G H Q hρ hR hp => h2 ρ S σ α G H _ hρ hR (post_bind hp fun d S1 α1 G1 H1 v _ e1 R1 r1 hp1 => ?_)⟩
  cases q : obOf S1 c d with
  | none => simp only [q] at hp1; exact hp1.elim
  | some fs =>
    simp only [q] at hp1
    obtain ⟨k, a, dx, vs, rfl, hk, hα, rfl, hH, hG, hdx, ro⟩ := obOf_at R1 r1 q
    refine ⟨a, dx, vs, rfl, .inr ⟨hH, hdx⟩, k2 ρ S1 σ α1 G1 H1 _ (hρ.mono e1) R1 (post_bind hp1 fun ds S2 α2 G2 H2 ws _ e2 R2 r2 hp2 => ?_)⟩
    exact hf _ S2 α2 G2 H2 (.ref a :: ws) Q R2 (by unfold RepL; exact ⟨.ref a, ws, rfl, Rep.mono e2.pre e2.sub _ _ r1, r2⟩) hp2
theorem q_methR0 {g : List D → Store → Res D} {fm : List D → Store → Res D} {k c : Nat} {fa : Addr} {pl : Sem Bool} (ho : QE X cl E o mo) (hc : SlX.SCls X.K (cl c)) (hm : Meth X.K (cl c) f fa) (F : FnR X.prog X.w X.K X.mg X.base CX0 k fa (spM ⟨X.K, cl⟩ fm)) (hr : Room k X.A)
    (hf : SndC ⟨X.K, cl⟩ E (fun vs H Q => spM ⟨X.K, cl⟩ fm vs H Q E0) g)
    (ht : eval (.Call (.Attribute o f apos) [] [] pos) X.env = (do
      let ov ← eval o X.env
      standAt apos.atName
      let (f, first) ← holding [ov] (getMethod ov f pl)
      callWith pos f first (backTo pos (starEach [] X.env)) (backToKw pos (keywordEach [] X.env))) := by rfl) :
    QE X cl E (.Call (.Attribute o f apos) [] [] pos) (mMethR c g mo mNil) := by
  obtain ⟨t, h1, h2⟩ := ho.ex
  refine ⟨_, SlX.pe_methSl0 h1 hc hm F hr pass0 ht, fun ρ S σ α G H Q hρ hR hp => h2 ρ S σ α G H _ hρ hR (post_bind hp fun d S1 α1 G1 H1 v _ e1 R1 r1 hp1 => ?_)⟩
  cases q : obOf S1 c d with
  | none => simp only [q] at hp1; exact hp1.elim
  | some fs =>
    simp only [q] at hp1
    obtain ⟨k, a, dx, vs, rfl, hk, hα, rfl, hH, hG, hdx, ro⟩ := obOf_at R1 r1 q
    refine ⟨a, dx, vs, rfl, .inr ⟨hH, hdx⟩, ?_⟩
    exact hf _ S1 α1 G1 H1 [.ref a] Q R1 (by unfold RepL; exact ⟨.ref a, [], rfl, r1, by simp [RepL]⟩) hp1
end
/-- a reading of a block, told of the instance with its slots still unknown -/
def tInit (t : TS) : TS := fun Dn σ H => ∃ a C dx, H a = some (.ins C dx []) ∧ H dx = some (.own a) ∧ t Dn σ (SlX.slH H a C dx [])
theorem pss_init {X : Cx} {st : List Stmt} {t : TS} (h : PSs X st t) : PSs X st (tInit t) := by
  refine ⟨fun pins s σ H Dn I q => ?_⟩
  obtain ⟨a, C, dx, hi, ho, q⟩ := q
  have hs : SlX.Slt H a C dx [] := .inl ⟨hi, rfl⟩
  obtain ⟨ne, sl, mA, e, r, n, z⟩ := SlX.slt_at I hs
  have I2 := SlX.inv_slot (vs' := []) (sl' := sl) (h' := s.heap) (t' := s.toks) I hs (fun _ _ _ _ q => q) (fun _ q => q) e (SlX.SlR.nil sl)
  exact h.run pins s σ _ Dn I2 q
/-- the promise of an __init__ over a new cell -/
def spN (Γ : Gm) (c : Nat) (f : List D → Store → Res D) : Sp := fun vs H Q _ => ∃ a dx ws ds α G S, vs = V.ref a :: ws ∧ H a = some (.ins (Γ.cl c) dx []) ∧ H dx = some (.own a) ∧ dx ≠ a ∧ a ∉ α ∧ dx ∉ α ∧ G a = none ∧ G dx = none ∧ RepL Γ α G ds ws ∧ Rl Γ α G S H ∧
  match f (.ref S.length :: ds) (S ++ [.ob c []]) with
  | .ok .non S' => ∀ α' G' H', Ext (α ++ [a]) (upd G dx (.xd [])) (SlX.slH H a (Γ.cl c) dx []) α' G' H' → Rl Γ α' G' S' H' → Q .non H'
  | _ => False
/-- the new instance as a cell -/
theorem new_cell {Γ : Gm} {α : List Addr} {G H : Hp} {S : Store} {a dx : Addr} {c : Nat} (R : Rl Γ α G S H) (ha : H a = some (.ins (Γ.cl c) dx [])) (hd : H dx = some (.own a)) (ne : dx ≠ a) (ma : a ∉ α) (md : dx ∉ α) (ga : G a = none) (gd : G dx = none) :
    Rl Γ (α ++ [a]) (upd G dx (.xd [])) (S ++ [.ob c []]) (SlX.slH H a (Γ.cl c) dx []) := by
  have neα : ∀ b ∈ α, b ≠ a ∧ b ≠ dx := fun b m => ⟨fun z => by subst z; exact ma m, fun z => by subst z; exact md m⟩
  have sg : Sub G (upd G dx (.xd [])) := Sub.new gd
  refine ⟨fun b o h => ?_, by simp [R.len], ?_, fun b m => ?_, fun k cc b hc hb => ?_⟩
  · by_cases h2 : b = dx
    · subst h2
      rw [upd_same] at h
      cases h
      unfold SlX.slH
      rw [upd_ne ne, upd_same]
    · rw [upd_ne h2] at h
      have h1 : b ≠ a := fun z => by subst z; rw [ga] at h; cases h
      rw [SlX.slH_ne h1 h2]
      exact R.sub b o h
  · rw [List.nodup_append]
    exact ⟨R.nd, by simp, fun b m b' mb => by simp at mb; subst mb; exact (neα b m).1⟩
  · rcases List.mem_append.mp m with m | m
    · rw [SlX.slH_ne (neα b m).1 (neα b m).2]
      exact R.tr b m
    · simp at m
      subst m
      unfold SlX.slH
      rw [upd_same]
      simp
  · by_cases hk : k < α.length
    · rw [List.getElem?_append_left hk] at hb
      rw [List.getElem?_append_left (by rw [← R.len]; exact hk)] at hc
      have hm : b ∈ α := List.mem_of_getElem? hb
      exact (R.ok k cc b hc hb).mono ⟨[a], rfl⟩ sg fun _ => ⟨SlX.slH_ne (neα b hm).1 (neα b hm).2, fun h => by rw [upd_ne (neα b hm).2]; exact h⟩
    · rw [List.getElem?_append_right (by omega)] at hb
      rw [List.getElem?_append_right (by rw [← R.len]; omega)] at hc
      have e1 : k - α.length = 0 := by
        have := (List.getElem?_eq_some_iff.mp hb).1
        simp at this
        omega
      have e2 : k - S.length = 0 := by rw [← R.len]; exact e1
      rw [e1] at hb
      rw [e2] at hc
      simp at hb hc
      subst hb
      subst hc
      refine ⟨_, ⟨dx, [], rfl, upd_same, fun i d h => by simp at h⟩, .inl ⟨rfl, by unfold SlX.slH; rw [upd_same], by rw [upd_ne (Ne.symm ne)]; exact ga⟩⟩
section
variable {P : Program} {w : World} {K : PySem.W.Frag} {mg : Str → Option Value} {base : Heap}
/-- an __init__'s function of data -/
def fnN (nN nP : Nat) (n : MS) : List D → Store → Res D := fun ds S => if ds.length = nP then (match n (ds.map some ++ List.replicate (nN - nP) none) S with
  | .ok (.nx _) S' => .ok .non S'
  | _ => .no) else .no
open PySem.Spec PyProof.Rows in
theorem fn_okN {x qual : Str} {st : Stmt} {f : Addr} {fd : FuncData} {N ps : List Str} {k c : Nat} {cl : Nat → Addr} (nN nP : Nat) {n : MS} (F : Fun K x qual st f fd) (S : FnScope N ps (defScope st))
    (hbody : ∀ (cdv : Value) (A : Around) (outer : List PySem.Env) (s : Shared) (H : Hp) (E : XK), Room k (A.deeper (envOfC qual (defScope st) s.heap.objs.size f cdv)) → QSs (cxOf CX0 P w K mg base N qual (defScope st) f cdv A outer s H E).nox cl E0 (defBody st) n)
    (hN : N.length = nN := by rfl) (hP : ps.length = nP := by rfl) : FnOk P w K mg base CX0 (k + 1) f fd ps (spN ⟨K, cl⟩ c (fnN nN nP n)) := by
  refine F.ok S (fun vs H Q E h => ?_) (fun cdv A outer s H vs Q E hr h => ?_)
  · obtain ⟨a, dx, ws, ds, α, G, S, rfl, _, _, _, _, _, _, _, r, _, hp⟩ := h
    unfold fnN at hp
    split at hp
    · rename_i q
      split at q
      · rename_i e
        rw [List.length_cons, ← r.length, hP, ← e, List.length_cons]
      · cases q
    · exact hp.elim
  · obtain ⟨a, dx, ws, ds, α, G, S', rfl, ha, hd, ne, ma, md, ga, gd, r, hR, hp⟩ := h
    obtain ⟨t, h1, h2⟩ := (hbody cdv A outer s H E hr).ex
    refine ⟨_, pss_init h1, a, cl c, dx, ha, hd, ?_⟩
    have R2 := new_cell (Γ := ⟨K, cl⟩) hR ha hd ne ma md ga gd
    have sg : Sub G (upd G dx (.xd [])) := Sub.new gd
    have r2 : RepL ⟨K, cl⟩ (α ++ [a]) (upd G dx (.xd [])) (.ref S'.length :: ds) (V.ref a :: ws) := by
      unfold RepL
      refine ⟨_, _, rfl, ?_, RepL.mono ⟨[a], rfl⟩ sg _ _ r⟩
      unfold Rep
      exact ⟨a, rfl, by rw [← hR.len]; simp⟩
    unfold fnN at hp
    split at hp
    · rename_i S2 q
      split at q
      · rename_i e
        have hst : EnvR ⟨K, cl⟩ (α ++ [a]) (upd G dx (.xd [])) ((D.ref S'.length :: ds).map some ++ List.replicate (N.length - (V.ref a :: ws).length) none) (L2.start N (V.ref a :: ws)) := envR_start r2
        rw [show N.length - (V.ref a :: ws).length = nN - nP by rw [hN, List.length_cons, ← r.length, ← e, List.length_cons]] at hst
        refine h2 _ _ _ _ _ _ _ hst R2 ?_
        revert q
        cases n ((D.ref S'.length :: ds).map some ++ List.replicate (nN - nP) none) (S' ++ [.ob c []]) with
        | no => exact fun q => nomatch q
        | ex e S2 => exact fun q => nomatch q
        | ok fl S3 =>
          cases fl with
          | nx ρ =>
            intro q
            injection q with q1 q2
            subst q2
            exact fun α' G' H' σ' e R _ => hp α' G' H' e R
          | rt d => exact fun q => nomatch q
          | bk ρ => exact fun q => nomatch q
          | ct ρ => exact fun q => nomatch q
      · cases q
    · exact hp.elim
end
/-- C(e, ..): a new cell -/
def mMakeR (c : Nat) (f : List D → Store → Res D) (n : MA) : ME := fun ρ S => (n ρ S).bind fun ds S1 => match f (.ref S1.length :: ds) (S1 ++ [.ob c []]) with
  | .ok .non S2 => .ok (.ref S1.length) S2
  | _ => .no
theorem makeR_post {Γ : Gm} {E : XK} {α : List Addr} {G H0 : Hp} {S : Store} {c : Nat} {f : List D → Store → Res D} {ds : List D} {vs : List V} {Q : VK} (R0 : Rl Γ α G S H0) (r : RepL Γ α G ds vs)
    (hp : Post Γ (Rep Γ) α G H0 (match f (.ref S.length :: ds) (S ++ [.ob c []]) with | .ok .non S2 => .ok (.ref S.length) S2 | _ => .no) Q E) (a dx : Addr) (na : H0 a = none) (nd : H0 dx = none) (ne : dx ≠ a) :
    spN Γ c f (.ref a :: vs) (upd (upd H0 dx (.own a)) a (.ins (Γ.cl c) dx [])) (fun v H2 => v = .non ∧ Q (.ref a) H2) E0 := by
  obtain ⟨R1, e1⟩ := R0.out nd (.own a)
  have na1 : upd H0 dx (.own a) a = none := by rw [upd_ne (Ne.symm ne)]; exact na
  obtain ⟨R2, e2⟩ := R1.out na1 (.ins (Γ.cl c) dx [])
  have ma : a ∉ α := fun m => R0.tr a m na
  have md : dx ∉ α := fun m => R0.tr dx m nd
  refine ⟨a, dx, vs, ds, α, G, S, rfl, upd_same, by rw [upd_ne ne, upd_same], ne, ma, md, R0.sub.none na, R0.sub.none nd, r, R2, ?_⟩
  have eH : SlX.slH (upd (upd H0 dx (.own a)) a (.ins (Γ.cl c) dx [])) a (Γ.cl c) dx [] = upd (upd H0 dx (.xd [])) a (SlX.SlO a (Γ.cl c) dx []) := by
    unfold SlX.slH
    funext b
    by_cases h1 : b = a
    · subst h1; rw [upd_same, upd_same]
    · by_cases h2 : b = dx
      · subst h2; rw [upd_ne h1, upd_same, upd_ne h1, upd_same]
      · rw [upd_ne h1, upd_ne h2, upd_ne h1, upd_ne h2, upd_ne h1, upd_ne h2]
  revert hp
  generalize f (.ref S.length :: ds) (S ++ [.ob c []]) = res
  cases res with
  | no => exact fun h => h.elim
  | ex e S' => exact fun h => h.elim
  | ok d S' =>
    cases d <;> try exact fun h => h.elim
    intro hp α' G' H' e R
    rw [eH] at e
    have pa : α'[S.length]? = some a := by
      obtain ⟨β, rfl⟩ := e.pre
      rw [List.getElem?_append_left (by simp [R0.len]), ← R0.len]
      simp
    refine ⟨rfl, hp α' G' H' (.ref a) ⟨?_, ?_, fun b o h m => ?_, fun b m => ?_, fun b h => ?_⟩ R (by unfold Rep; exact ⟨a, rfl, pa⟩)⟩
    · obtain ⟨β, rfl⟩ := e.pre
      exact ⟨[a] ++ β, by simp⟩
    · exact (Sub.new (R0.sub.none nd)).trans e.sub
    · have h1 : b ≠ a := fun z => by subst z; rw [na] at h; cases h
      have h2 : b ≠ dx := fun z => by subst z; rw [nd] at h; cases h
      exact e.fr b o (by rw [upd_ne h1, upd_ne h2]; exact h) (fun z => by rcases List.mem_append.mp z with z | z; exact m z; simp at z; exact h1 z)
    · by_cases h1 : b = a
      · subst h1; exact .inr na
      · rcases e.na b m with z | z
        · rcases List.mem_append.mp z with z | z
          · exact .inl z
          · simp at z; exact absurd z h1
        · rw [upd_ne h1] at z
          by_cases h2 : b = dx
          · subst h2; exact .inr nd
          · rw [upd_ne h2] at z; exact .inr z
    · by_cases h1 : b = a
      · subst h1; exact .inr (.inr (.inl na))
      · by_cases h2 : b = dx
        · subst h2; exact .inr (.inr (.inl nd))
        · rcases e.ng b h with z | z | z | ⟨xs, z⟩
          · rw [upd_ne h2] at z; exact .inl z
          · rcases List.mem_append.mp z with z | z
            · exact .inr (.inl z)
            · simp at z; exact absurd z h1
          · rw [upd_ne h1, upd_ne h2] at z; exact .inr (.inr (.inl z))
          · rw [upd_ne h1, upd_ne h2] at z; exact .inr (.inr (.inr ⟨xs, z⟩))
section
variable {X : Cx} {cl : Nat → Addr} {E : XK} {pos : Pos}
theorem q_makeR {c k : Nat} {f : List D → Store → Res D} {fa : Addr} {fd : FuncData} {ps : List Str} {x : Str} {p : Pos} {e : Expr} {es : List Expr} {n : MA} (M : Mk X.K (cl c) fa) (F : FnOk X.prog X.w X.K X.mg X.base CX0 k fa fd ps (spN ⟨X.K, cl⟩ c f)) (hr : Room (k + 1) X.A)
    (hg : Gl X x) (hm : X.mg x = some (.ref (cl c))) (hb : Binds X.K fd ps []) (ha : QA X cl E (e :: es) n)
    (hdb : (x == ("__debug__" : Str)) = false := by decide) (he : starEach (e :: es) X.env = (false, eval e X.env) :: starEach es X.env := by rfl) (hpl : (backTo pos (starEach es X.env)).any (·.1) = false := by rfl) :
    QE X cl E (.Call (.Name x p) (e :: es) [] pos) (mMakeR c f n) := by
  obtain ⟨t, h1, h2⟩ := ha.ex
  refine ⟨_, pe_make M F hr hg hm hb .nil pass0 h1 hdb he hpl, fun ρ S σ α G H Q hρ hR hp => h2 ρ S σ α G H _ hρ hR (post_bind hp fun ds S1 α1 G1 H1 vs _ e1 R1 r1 hp1 => ?_)⟩
  intro a dx na nd ne
  rw [List.append_nil]
  exact makeR_post R1 r1 hp1 a dx na nd ne
end
end Q
namespace Q
open PySem L2
def keyD : D → Option Key
  | .int i => some (.inl i)
  | .str s => some (.inr s)
  | _ => none
def keysD : List D → Option (List Key)
  | [] => some []
  | d :: ds => match keyD d, keysD ds with
    | some k, some ks => some (k :: ks)
    | _, _ => none
def tkeyD : D → Option (List Key)
  | .tup xs => keysD xs
  | _ => none
def dKey : Key → D
  | .inl i => .int i
  | .inr s => .str s
theorem keyD_rep {Γ : Gm} {α : List Addr} {G : Hp} {d : D} {k : Key} {v : V} (h : keyD d = some k) (r : Rep Γ α G d v) : v = kV k := by
  cases d <;> simp [keyD] at h <;> subst h <;> simp only [Rep] at r <;> subst r <;> rfl
theorem keysD_rep {Γ : Gm} {α : List Addr} {G : Hp} : ∀ {ds : List D} {ks : List Key} {vs : List V}, keysD ds = some ks → RepL Γ α G ds vs → vs = ks.map kV
  | [], ks, vs, h, r => by simp [keysD] at h; subst h; simpa [RepL] using r
  | d :: ds, ks, vs, h, r => by
    unfold keysD at h
    unfold RepL at r
    obtain ⟨v, w, rfl, r1, r2⟩ := r
    split at h
    · rename_i k kk e1 e2
      cases h
      rw [keyD_rep e1 r1, keysD_rep e2 r2]
      rfl
    · cases h
theorem dKey_rep {Γ : Gm} {α : List Addr} {G : Hp} (k : Key) : Rep Γ α G (dKey k) (kV k) := by
  cases k <;> simp [dKey, kV, Rep]
theorem dKeys_rep {Γ : Gm} {α : List Addr} {G : Hp} : ∀ ks : List Key, RepL Γ α G (ks.map dKey) (ks.map kV)
  | [] => by simp [RepL]
  | k :: ks => by
    rw [List.map_cons, List.map_cons]
    unfold RepL
    exact ⟨_, _, rfl, dKey_rep k, dKeys_rep ks⟩
section
variable {κ : Type} [DecidableEq κ]
def valD (kvs : List (κ × D)) (k : κ) : Option D := (kvs.find? fun kv => decide (kv.1 = k)).map (·.2)
def putD (kvs : List (κ × D)) (k : κ) (d : D) : List (κ × D) := if (kvs.any fun kv => decide (kv.1 = k)) = true then kvs.map (fun kv => if kv.1 = k then (kv.1, d) else kv) else kvs ++ [(k, d)]
theorem valD_cons (p : κ × D) (r : List (κ × D)) (k : κ) : valD (p :: r) k = if p.1 = k then some p.2 else valD r k := by
  by_cases e : p.1 = k <;> simp [valD, List.find?_cons, e]
theorem valV_cons (p : κ × V) (r : List (κ × V)) (k : κ) : valV (p :: r) k = if p.1 = k then some p.2 else valV r k := by
  by_cases e : p.1 = k <;> simp [valV, List.find?_cons, e]
variable {Γ : Gm} {α : List Addr} {G : Hp}
theorem RepKV.val : ∀ {kvs : List (κ × D)} {ws : List (κ × V)} (k : κ), RepKV Γ α G kvs ws → (∀ d, valD kvs k = some d → ∃ v, valV ws k = some v ∧ Rep Γ α G d v) ∧ (valD kvs k = none → valV ws k = none)
  | [], ws, k, h => by
    unfold RepKV at h
    subst h
    exact ⟨fun d e => by simp [valD] at e, fun _ => rfl⟩
  | p :: r, ws, k, h => by
    unfold RepKV at h
    obtain ⟨v, t, rfl, h1, h2⟩ := h
    rw [valD_cons, valV_cons]
    by_cases e : p.1 = k
    · rw [if_pos e, if_pos e]
      exact ⟨fun d hd => ⟨v, rfl, by cases hd; exact h1⟩, fun hn => nomatch hn⟩
    · rw [if_neg e, if_neg e]
      exact RepKV.val k h2
theorem RepKV.length : ∀ {kvs : List (κ × D)} {ws : List (κ × V)}, RepKV Γ α G kvs ws → kvs.length = ws.length
  | [], ws, h => by unfold RepKV at h; subst h; rfl
  | p :: r, ws, h => by
    unfold RepKV at h
    obtain ⟨v, t, rfl, _, h2⟩ := h
    simp [RepKV.length h2]
theorem RepKV.any (k : κ) : ∀ {kvs : List (κ × D)} {ws : List (κ × V)}, RepKV Γ α G kvs ws → (kvs.any fun kv => decide (kv.1 = k)) = (ws.any fun kv => decide (kv.1 = k))
  | [], ws, h => by unfold RepKV at h; subst h; rfl
  | p :: r, ws, h => by
    unfold RepKV at h
    obtain ⟨v, t, rfl, _, h2⟩ := h
    simp [RepKV.any k h2]
theorem RepKV.upd {k : κ} {d : D} {v : V} (r0 : Rep Γ α G d v) : ∀ {kvs : List (κ × D)} {ws : List (κ × V)}, RepKV Γ α G kvs ws → RepKV Γ α G (kvs.map fun kv => if kv.1 = k then (kv.1, d) else kv) (ws.map fun kv => if kv.1 = k then (kv.1, v) else kv)
  | [], ws, h => by unfold RepKV at h; subst h; simp [RepKV]
  | p :: r, ws, h => by
    unfold RepKV at h
    obtain ⟨u, t, rfl, h1, h2⟩ := h
    rw [List.map_cons, List.map_cons]
    unfold RepKV
    by_cases e : p.1 = k
    · simp only [e, if_true]
      exact ⟨v, _, rfl, r0, RepKV.upd r0 h2⟩
    · simp only [e, if_false]
      exact ⟨u, _, rfl, h1, RepKV.upd r0 h2⟩
theorem RepKV.snoc {k : κ} {d : D} {v : V} (r0 : Rep Γ α G d v) : ∀ {kvs : List (κ × D)} {ws : List (κ × V)}, RepKV Γ α G kvs ws → RepKV Γ α G (kvs ++ [(k, d)]) (ws ++ [(k, v)])
  | [], ws, h => by
    unfold RepKV at h
    subst h
    show RepKV Γ α G [(k, d)] [(k, v)]
    unfold RepKV
    exact ⟨v, [], rfl, r0, by simp [RepKV]⟩
  | p :: r, ws, h => by
    unfold RepKV at h
    obtain ⟨u, t, rfl, h1, h2⟩ := h
    show RepKV Γ α G (p :: (r ++ [(k, d)])) ((p.1, u) :: (t ++ [(k, v)]))
    unfold RepKV
    exact ⟨u, _, rfl, h1, RepKV.snoc r0 h2⟩
theorem RepKV.put {k : κ} {d : D} {v : V} (r0 : Rep Γ α G d v) {kvs : List (κ × D)} {ws : List (κ × V)} (h : RepKV Γ α G kvs ws) : RepKV Γ α G (putD kvs k d) (putK ws k v) := by
  unfold putD putK
  rw [h.any k]
  split
  · exact h.upd r0
  · exact h.snoc r0
theorem RepKV.get : ∀ {kvs : List (κ × D)} {ws : List (κ × V)} {i : Nat} {k : κ} {v : V}, RepKV Γ α G kvs ws → ws[i]? = some (k, v) → ∃ d, kvs[i]? = some (k, d) ∧ Rep Γ α G d v
  | [], ws, i, k, v, h, hi => by unfold RepKV at h; subst h; simp at hi
  | p :: r, ws, 0, k, v, h, hi => by
    unfold RepKV at h
    obtain ⟨u, t, rfl, h1, h2⟩ := h
    simp at hi
    obtain ⟨rfl, rfl⟩ := hi
    exact ⟨p.2, rfl, h1⟩
  | p :: r, ws, i + 1, k, v, h, hi => by
    unfold RepKV at h
    obtain ⟨u, t, rfl, h1, h2⟩ := h
    simpa using RepKV.get h2 (by simpa using hi)
end
/-- what stands there: none = no dict, or no key of its kind -/
def dgetD (S : Store) (d key : D) : Option (Option D) := match d with
  | .ref k => match S[k]? with
    | some (.dk _ kvs) => (keyD key).map (valD kvs)
    | some (.dt _ kvs) => (tkeyD key).map (valD kvs)
    | _ => none
  | _ => none
theorem dk_at {Γ : Gm} {α : List Addr} {G H : Hp} {S : Store} {k : Nat} {a : Addr} {l : Bool} {kvs : List (Key × D)} (R : Rl Γ α G S H) (hk : S[k]? = some (.dk l kvs)) (ha : α[k]? = some a) : ∃ ws, RepKV Γ α G kvs ws ∧ Rd H a (.dK ws) := by
  obtain ⟨o, ⟨ws, r, e⟩, w⟩ := R.ok k _ a hk ha
  refine ⟨ws, r, ?_⟩
  rcases w with ⟨w, w1, _⟩ | ⟨w, w1⟩
  · rcases e with ⟨rfl, rfl⟩ | ⟨rfl, _⟩
    · exact .inl w1
    · cases w
  · rcases e with ⟨rfl, _⟩ | ⟨_, od, rfl⟩
    · cases w
    · exact .inr ⟨od, R.sub _ _ w1⟩
theorem dt_at {Γ : Gm} {α : List Addr} {G H : Hp} {S : Store} {k : Nat} {a : Addr} {l : Bool} {kvs : List (List Key × D)} (R : Rl Γ α G S H) (hk : S[k]? = some (.dt l kvs)) (ha : α[k]? = some a) : ∃ ws, RepKV Γ α G kvs ws ∧ Rd H a (.dT ws) := by
  obtain ⟨o, ⟨ws, r, e⟩, w⟩ := R.ok k _ a hk ha
  refine ⟨ws, r, ?_⟩
  rcases w with ⟨w, w1, _⟩ | ⟨w, w1⟩
  · rcases e with ⟨rfl, rfl⟩ | ⟨rfl, _⟩
    · exact .inl w1
    · cases w
  · rcases e with ⟨rfl, _⟩ | ⟨_, od, rfl⟩
    · cases w
    · exact .inr ⟨od, R.sub _ _ w1⟩
theorem tkey_at {Γ : Gm} {α : List Addr} {G H : Hp} {S : Store} {d : D} {y : V} {key : List Key} (R : Rl Γ α G S H) (h : tkeyD d = some key) (r : Rep Γ α G d y) : ∃ b, y = .ref b ∧ H b = some (.tup (key.map kV)) := by
  cases d <;> try (simp [tkeyD] at h; done)
  rename_i xs
  obtain ⟨b, vs, rfl, _, hb, rl⟩ := tup_at2 R r
  rw [keysD_rep (show keysD xs = some key from h) rl] at hb
  exact ⟨b, rfl, hb⟩
theorem dgetD_at {Γ : Gm} {α : List Addr} {G H : Hp} {S : Store} {d key : D} {v y : V} {o : Option D} (R : Rl Γ α G S H) (r : Rep Γ α G d v) (r2 : Rep Γ α G key y) (h : dgetD S d key = some o) :
    ∃ a ov, v = .ref a ∧ DGet H a y ov ∧ ov.isSome = o.isSome ∧ ∀ x, o = some x → ∃ w, ov = some w ∧ Rep Γ α G x w := by
  cases d <;> try (simp [dgetD] at h; done)
  rename_i k
  unfold Rep at r
  obtain ⟨a, rfl, ha⟩ := r
  unfold dgetD at h
  have fin : ∀ (ov : Option V) (o' : Option D), o' = o → ((∀ d, o' = some d → ∃ v, ov = some v ∧ Rep Γ α G d v) ∧ (o' = none → ov = none)) → ov.isSome = o.isSome ∧ ∀ x, o = some x → ∃ w, ov = some w ∧ Rep Γ α G x w := fun ov o' e z => by
    subst e
    refine ⟨?_, z.1⟩
    cases o' with
    | none => rw [z.2 rfl]; rfl
    | some x => obtain ⟨w, e, _⟩ := z.1 x rfl; rw [e]; rfl
  cases q : S[k]? with
  | none => simp [q] at h
  | some c =>
    cases c with
    | dk l kvs =>
      simp only [q, Option.map_eq_some_iff] at h
      obtain ⟨kk, hk, e⟩ := h
      obtain ⟨ws, rk, rd⟩ := dk_at R q ha
      exact ⟨a, valV ws kk, rfl, .inl ⟨ws, kk, rd, keyD_rep hk r2, rfl⟩, fin _ _ e (rk.val kk)⟩
    | dt l kvs =>
      simp only [q, Option.map_eq_some_iff] at h
      obtain ⟨kk, hk, e⟩ := h
      obtain ⟨ws, rk, rd⟩ := dt_at R q ha
      obtain ⟨b, rfl, hb⟩ := tkey_at R hk r2
      exact ⟨a, valV ws kk, rfl, .inr ⟨ws, kk, b, rd, rfl, hb, rfl⟩, fin _ _ e (rk.val kk)⟩
    | _ => simp [q] at h
def dgetK (d key : D) (S : Store) : Res D := match dgetD S d key with
  | some (some x) => .ok x S
  | _ => .no
/-- d[i] -/
def mDGet (mo mi : ME) : ME := fun ρ S => (mo ρ S).bind fun d S1 => (mi ρ S1).bind fun i S2 => dgetK d i S2
def dinK (y d : D) (S : Store) : Res D := match dgetD S d y with
  | some o => .ok (.bl o.isSome) S
  | none => .no
def dninK (y d : D) (S : Store) : Res D := match dgetD S d y with
  | some o => .ok (.bl (!o.isSome)) S
  | none => .no
/-- i in d -/
def mDIn (mi mo : ME) : ME := fun ρ S => (mi ρ S).bind fun y S1 => (mo ρ S1).bind fun d S2 => dinK y d S2
def mDNin (mi mo : ME) : ME := fun ρ S => (mi ρ S).bind fun y S1 => (mo ρ S1).bind fun d S2 => dninK y d S2
def dget2K (d y z : D) (S : Store) : Res D := match dgetD S d y with
  | some o => .ok (o.getD z) S
  | none => .no
/-- d.get(i, f) -/
def mDGet2 (mo mi mf : ME) : ME := fun ρ S => (mo ρ S).bind fun d S1 => if (isDictS S1 d) then (mi ρ S1).bind fun y S2 => (mf ρ S2).bind fun z S3 => dget2K d y z S3 else .no
where isDictS (S : Store) (d : D) : Bool := match d with
  | .ref k => match S[k]? with
    | some (.dk _ _) => true
    | some (.dt _ _) => true
    | _ => false
  | _ => false
theorem isDict_at {Γ : Gm} {α : List Addr} {G H : Hp} {S : Store} {d : D} {v : V} (R : Rl Γ α G S H) (r : Rep Γ α G d v) (h : mDGet2.isDictS S d = true) : ∃ a, v = .ref a ∧ IsD H a := by
  cases d <;> try (simp [mDGet2.isDictS] at h; done)
  rename_i k
  unfold Rep at r
  obtain ⟨a, rfl, ha⟩ := r
  unfold mDGet2.isDictS at h
  cases q : S[k]? with
  | none => simp [q] at h
  | some c =>
    cases c with
    | dk l kvs => obtain ⟨ws, _, rd⟩ := dk_at R q ha; exact ⟨a, rfl, .inl ⟨ws, rd⟩⟩
    | dt l kvs => obtain ⟨ws, _, rd⟩ := dt_at R q ha; exact ⟨a, rfl, .inr ⟨ws, rd⟩⟩
    | _ => simp [q] at h
section
variable {X : Cx} {cl : Nat → Addr} {E : XK} {o i f : Expr} {mo mi mf : ME} {pos : Pos}
theorem snd_dget {to ti : TE} (ho : SndE ⟨X.K, cl⟩ E to mo) (hi : SndE ⟨X.K, cl⟩ E ti mi) : SndE ⟨X.K, cl⟩ E (tDGet to ti) (mDGet mo mi) := fun ρ S σ α G H Q hρ hR hp =>
  ho ρ S σ α G H _ hρ hR (post_bind hp fun d S1 α1 G1 H1 v _ e1 R1 r1 hp1 => hi ρ S1 σ α1 G1 H1 _ (hρ.mono e1) R1 (post_bind hp1 fun y S2 α2 G2 H2 u _ e2 R2 r2 hp2 => by
    unfold dgetK at hp2
    split at hp2
    · rename_i x hx
      obtain ⟨a, ov, rfl, g, _, z⟩ := dgetD_at R2 (Rep.mono e2.pre e2.sub _ _ r1) r2 hx
      obtain ⟨w, rfl, rw'⟩ := z x rfl
      exact ⟨a, w, rfl, g, post_ok hp2 R2 rw'⟩
    · exact hp2.elim))
theorem q_dget (hu : X.A.units + 1 < cLine) (ho : QE X cl E o mo) (hi : QE X cl E i mi) (hs : NoSl i := by exact fun _ _ => rfl) : QE X cl E (.Subscript o i pos) (mDGet mo mi) := by
  obtain ⟨t, h1, h2⟩ := ho.ex
  obtain ⟨u, k1, k2⟩ := hi.ex
  exact ⟨_, pe_dget hu h1 k1 hs, snd_dget h2 k2⟩
theorem snd_din {to ti : TE} (hi : SndE ⟨X.K, cl⟩ E ti mi) (ho : SndE ⟨X.K, cl⟩ E to mo) : SndE ⟨X.K, cl⟩ E (tDIn ti to) (mDIn mi mo) := fun ρ S σ α G H Q hρ hR hp =>
  hi ρ S σ α G H _ hρ hR (post_bind hp fun y S1 α1 G1 H1 u _ e1 R1 r1 hp1 => ho ρ S1 σ α1 G1 H1 _ (hρ.mono e1) R1 (post_bind hp1 fun d S2 α2 G2 H2 v _ e2 R2 r2 hp2 => by
    unfold dinK at hp2
    split at hp2
    · rename_i ov hx
      obtain ⟨a, w, rfl, g, z, _⟩ := dgetD_at R2 r2 (Rep.mono e2.pre e2.sub _ _ r1) hx
      exact ⟨a, w, rfl, g, post_ok hp2 R2 (by simp [Rep, z])⟩
    · exact hp2.elim))
theorem snd_dnin {to ti : TE} (hi : SndE ⟨X.K, cl⟩ E ti mi) (ho : SndE ⟨X.K, cl⟩ E to mo) : SndE ⟨X.K, cl⟩ E (tDNotIn ti to) (mDNin mi mo) := fun ρ S σ α G H Q hρ hR hp =>
  hi ρ S σ α G H _ hρ hR (post_bind hp fun y S1 α1 G1 H1 u _ e1 R1 r1 hp1 => ho ρ S1 σ α1 G1 H1 _ (hρ.mono e1) R1 (post_bind hp1 fun d S2 α2 G2 H2 v _ e2 R2 r2 hp2 => by
    unfold dninK at hp2
    split at hp2
    · rename_i ov hx
      obtain ⟨a, w, rfl, g, z, _⟩ := dgetD_at R2 r2 (Rep.mono e2.pre e2.sub _ _ r1) hx
      exact ⟨a, w, rfl, g, post_ok hp2 R2 (by simp [Rep, z])⟩
    · exact hp2.elim))
theorem q_din (hu : X.A.units + 1 < cLine) (hi : QE X cl E i mi) (ho : QE X cl E o mo) (hb : behindInMarks .In o = false := by rfl) : QE X cl E (.Compare i [.In] [o] pos) (mDIn mi mo) := by
  obtain ⟨t, h1, h2⟩ := ho.ex
  obtain ⟨u, k1, k2⟩ := hi.ex
  exact ⟨_, pe_cmp (pc_din hu k1 h1) hb, snd_din k2 h2⟩
theorem q_dnin (hu : X.A.units + 1 < cLine) (hi : QE X cl E i mi) (ho : QE X cl E o mo) (hb : behindInMarks .NotIn o = false := by rfl) : QE X cl E (.Compare i [.NotIn] [o] pos) (mDNin mi mo) := by
  obtain ⟨t, h1, h2⟩ := ho.ex
  obtain ⟨u, k1, k2⟩ := hi.ex
  exact ⟨_, pe_cmp (pc_dnotin hu k1 h1) hb, snd_dnin k2 h2⟩
theorem q_tdin (hu : X.A.units + 1 < cLine) (hi : QE X cl E i mi) (ho : QE X cl E o mo) (hb : behindInMarks .In o = false := by rfl) : QT X cl E (.Compare i [.In] [o] pos) (mTB (mDIn mi mo)) := by
  obtain ⟨t, h1, h2⟩ := ho.ex
  obtain ⟨u, k1, k2⟩ := hi.ex
  exact ⟨_, pt_cmp (pc_din hu k1 h1) hb, snd_tB (snd_din k2 h2)⟩
theorem q_tdnin (hu : X.A.units + 1 < cLine) (hi : QE X cl E i mi) (ho : QE X cl E o mo) (hb : behindInMarks .NotIn o = false := by rfl) : QT X cl E (.Compare i [.NotIn] [o] pos) (mTB (mDNin mi mo)) := by
  obtain ⟨t, h1, h2⟩ := ho.ex
  obtain ⟨u, k1, k2⟩ := hi.ex
  exact ⟨_, pt_cmp (pc_dnotin hu k1 h1) hb, snd_tB (snd_dnin k2 h2)⟩
theorem q_dget2 {apos cpos : Pos} (hu : X.A.units + 1 < cLine) (ho : QE X cl E o mo) (hi : QE X cl E i mi) (hf : QE X cl E f mf) (m : M2 X o "get" apos i f cpos := by exact ⟨rfl, rfl, rfl, rfl⟩) : QE X cl E (.Call (.Attribute o "get" apos) [i, f] [] cpos) (mDGet2 mo mi mf) := by
  obtain ⟨t, h1, h2⟩ := ho.ex
  obtain ⟨u, k1, k2⟩ := hi.ex
  obtain ⟨w, l1, l2⟩ := hf.ex
  refine ⟨_, pe_dget2 hu h1 k1 l1 m, fun ρ S σ α G H Q hρ hR hp => h2 ρ S σ α G H _ hρ hR (post_bind hp fun d S1 α1 G1 H1 v _ e1 R1 r1 hp1 => ?_)⟩
  split at hp1
  · rename_i hd
    obtain ⟨a, rfl, hD⟩ := isDict_at R1 r1 hd
    refine ⟨a, rfl, hD, k2 ρ S1 σ α1 G1 H1 _ (hρ.mono e1) R1 (post_bind hp1 fun y S2 α2 G2 H2 u _ e2 R2 r2 hp2 => l2 ρ S2 σ α2 G2 H2 _ ((hρ.mono e1).mono e2) R2 (post_bind hp2 fun z S3 α3 G3 H3 w _ e3 R3 r3 hp3 => ?_))⟩
    unfold dget2K at hp3
    split at hp3
    · rename_i ov hx
      obtain ⟨a', w', ea, g, z1, z2⟩ := dgetD_at R3 (Rep.mono e3.pre e3.sub _ _ (Rep.mono e2.pre e2.sub _ _ r1)) (Rep.mono e3.pre e3.sub _ _ r2) hx
      cases ea
      refine ⟨w', g, ?_⟩
      cases ov with
      | none =>
        cases w' with
        | none => exact post_ok hp3 R3 r3
        | some _ => simp at z1
      | some x =>
        obtain ⟨w2, rfl, r4⟩ := z2 x rfl
        exact post_ok hp3 R3 r4
    · exact hp3.elim
  · exact hp1.elim
end
def dputD (S : Store) (o i d : D) : Option Store := match o with
  | .ref k => match S[k]? with
    | some (.dk false kvs) => match keyD i with
      | some key => if kvs.length ≤ 100000 then some (S.set k (.dk false (putD kvs key d))) else none
      | none => none
    | some (.dt false kvs) => match tkeyD i with
      | some key => if kvs.length ≤ 100000 then some (S.set k (.dt false (putD kvs key d))) else none
      | none => none
    | _ => none
  | _ => none
theorem dputD_at {Γ : Gm} {α : List Addr} {G H : Hp} {S S' : Store} {o i d : D} {v y w : V} (R : Rl Γ α G S H) (r : Rep Γ α G o v) (r2 : Rep Γ α G i y) (r3 : Rep Γ α G d w) (h : dputD S o i d = some S') :
    ∃ a H', v = .ref a ∧ DPut H a y w H' ∧ Rl Γ α G S' H' ∧ Ext α G H α G H' := by
  cases o <;> try (simp [dputD] at h; done)
  rename_i k
  unfold Rep at r
  obtain ⟨a, rfl, ha⟩ := r
  unfold dputD at h
  cases q : S[k]? with
  | none => simp [q] at h
  | some c =>
    cases c with
    | dk l kvs =>
      cases l <;> simp only [q] at h
      · cases hk : keyD i with
        | none => simp [hk] at h
        | some kk =>
          simp only [hk] at h
          split at h
          · rename_i hl
            cases h
            obtain ⟨o, ⟨ws, rk, e⟩, w1⟩ := R.ok k _ a q ha
            rcases e with ⟨_, rfl⟩ | ⟨e, _⟩
            · rcases w1 with ⟨_, w1, w2⟩ | ⟨w1, _⟩
              · obtain ⟨R2, e2⟩ := R.putC (c1 := .dk false (putD kvs kk d)) q ha rfl rfl ⟨_, rk.put r3, .inl ⟨rfl, rfl⟩⟩
                have := keyD_rep hk r2
                subst this
                exact ⟨a, _, rfl, DPut.k w1 (by rw [← rk.length]; exact Nat.lt_of_le_of_lt hl (by decide)), R2, e2⟩
              · cases w1
            · cases e
          · cases h
      · cases h
    | dt l kvs =>
      cases l <;> simp only [q] at h
      · cases hk : tkeyD i with
        | none => simp [hk] at h
        | some kk =>
          simp only [hk] at h
          split at h
          · rename_i hl
            cases h
            obtain ⟨o, ⟨ws, rk, e⟩, w1⟩ := R.ok k _ a q ha
            rcases e with ⟨_, rfl⟩ | ⟨e, _⟩
            · rcases w1 with ⟨_, w1, w2⟩ | ⟨w1, _⟩
              · obtain ⟨R2, e2⟩ := R.putC (c1 := .dt false (putD kvs kk d)) q ha rfl rfl ⟨_, rk.put r3, .inl ⟨rfl, rfl⟩⟩
                obtain ⟨b, rfl, hb⟩ := tkey_at R hk r2
                exact ⟨a, _, rfl, DPut.t w1 hb (by rw [← rk.length]; exact Nat.lt_of_le_of_lt hl (by decide)), R2, e2⟩
              · cases w1
            · cases e
          · cases h
      · cases h
    | _ => simp [q] at h
def dputK (o i d : D) (S : Store) : Res Unit := match dputD S o i d with
  | some S' => .ok () S'
  | none => .no
def mgDSub (mo mi : ME) : MG := fun d ρ S => (mo ρ S).bind fun o S1 => (mi ρ S1).bind fun i S2 => (dputK o i d S2).bind fun _ S3 => .ok ρ S3
section
variable {X : Cx} {cl : Nat → Addr} {E : XK} {o i e : Expr} {mo mi m : ME} {pos tpos : Pos}
/-- d[i] = .. -/
theorem qg_dsub (hu : X.A.units + 1 < cLine) (ho : QE X cl E o mo) (hi : QE X cl E i mi)
    (ha : ∀ v, assign (.Subscript o i pos) X.env v = (do
      let ov ← holding [v] (eval o X.env)
      let iv ← holding [v, ov] (eval i X.env)
      standAt pos
      holding [v, ov, iv] (setItem ov iv v)
      release [v, ov, iv] []) := by intro _; rfl) : QG X cl E (.Subscript o i pos) (mgDSub mo mi) [] := by
  obtain ⟨t, h1, h2⟩ := ho.ex
  obtain ⟨u, k1, k2⟩ := hi.ex
  refine ⟨_, pg_sub h1 k1 (set_dict hu) ha, fun d ρ S σ α G H v Q hρ hR r hp => ?_⟩
  refine h2 ρ S σ α G H _ hρ hR (post_bind hp fun od S1 α1 G1 H1 ov q1 e1 R1 r1 hp1 => ?_)
  clear q1
  refine k2 ρ S1 σ α1 G1 H1 _ (hρ.mono e1) R1 (post_bind hp1 fun id S2 α2 G2 H2 iv q2 e2 R2 r2 hp2 => ?_)
  clear q2
  have r0 : Rep ⟨X.K, cl⟩ α2 G2 d v := Rep.mono e2.pre e2.sub _ _ (Rep.mono e1.pre e1.sub _ _ r)
  have ro : Rep ⟨X.K, cl⟩ α2 G2 od ov := Rep.mono e2.pre e2.sub _ _ r1
  unfold dputK at hp2
  cases q : dputD S2 od id d with
  | none => rw [q] at hp2; exact hp2.elim
  | some S' =>
    rw [q] at hp2
    obtain ⟨a, H', rfl, g, R3, e3⟩ := dputD_at R2 ro r2 r0 q
    exact ⟨a, H', rfl, g, hp2 _ _ _ σ e3 R3 (((hρ.mono e1).mono e2).mono e3) ⟨rfl, fun _ _ => rfl⟩⟩
/-- d[i] op= e, of ints -/
def mDAugI (mo mi : ME) (f : Int → Int → Int) (m : ME) : MS := fun ρ S => (mo ρ S).bind fun d S1 => (mi ρ S1).bind fun i S2 => match dgetD S2 d i with
  | some (some (.int x)) => (m ρ S2).bind fun z S3 => match z with
    | .int y => (dputK d i (.int (f x y)) S3).bind fun _ S4 => .ok (.nx ρ) S4
    | _ => .no
  | _ => .no
theorem qs_daugI {op : Operator} {f : Int → Int → Int} (ip : PIp X op (ipI f)) (hu : X.A.units + 1 < cLine) (ho : QE X cl E o mo) (hi : QE X cl E i mi) (he : QE X cl E e m)
    (ha : ∀ ov iv new, augStore i ov iv new = (do holding [new, ov, iv] (setItem ov iv new); release [new, ov, iv] []; pure .next) := by intro _ _ _; rfl) : QS X cl E (.AugAssign (.Subscript o i tpos) op e pos) (mDAugI mo mi f m) := by
  obtain ⟨t, h1, h2⟩ := ho.ex
  obtain ⟨u, k1, k2⟩ := hi.ex
  obtain ⟨w, l1, l2⟩ := he.ex
  refine ⟨_, ps_daug hu h1 k1 l1 ip ha, fun ρ S σ α G H Dn hρ hR hp => h2 ρ S σ α G H _ hρ hR (posts_bind hp fun d S1 α1 G1 H1 v _ e1 R1 r1 hp1 => k2 ρ S1 σ α1 G1 H1 _ (hρ.mono e1) R1 (posts_bind hp1 fun y S2 α2 G2 H2 u _ e2 R2 r2 hp2 => ?_))⟩
  split at hp2
  · rename_i x hx
    obtain ⟨a, ov, rfl, g, _, z⟩ := dgetD_at R2 (Rep.mono e2.pre e2.sub _ _ r1) r2 hx
    obtain ⟨w0, rfl, rw0⟩ := z _ rfl
    simp only [Rep] at rw0
    subst rw0
    refine ⟨a, _, rfl, g, l2 ρ S2 σ α2 G2 H2 _ ((hρ.mono e1).mono e2) R2 (posts_bind hp2 fun z S3 α3 G3 H3 w3 _ e3 R3 r3 hp3 => ?_)⟩
    split at hp3
    · rename_i yy _
      simp only [Rep] at r3
      subst r3
      refine ⟨x, yy, rfl, rfl, ?_⟩
      unfold dputK at hp3
      cases q : dputD S3 d y (.int (f x yy)) with
      | none => rw [q] at hp3; exact hp3.elim
      | some S' =>
        rw [q] at hp3
        obtain ⟨a', H', ea, gp, R4, e4⟩ := dputD_at R3 (Rep.mono e3.pre e3.sub _ _ (Rep.mono e2.pre e2.sub _ _ r1)) (Rep.mono e3.pre e3.sub _ _ r2) (show Rep ⟨X.K, cl⟩ α3 G3 (.int (f x yy)) (.int (f x yy)) by simp [Rep]) q
        cases ea
        exact ⟨H', gp, hp3 _ _ _ σ e4 R4 ((((hρ.mono e1).mono e2).mono e3).mono e4)⟩
    · exact hp3.elim
  · exact hp2.elim
end
end Q
namespace Q
open PySem L2
theorem Rl.adopt {Γ : Gm} {α : List Addr} {G H : Hp} {S : Store} (R : Rl Γ α G S H) {p : Addr} {c0 : Cell} {o0 : HO} (hp : H p = some o0) (na : p ∉ α) (ng : G p = none) (hl : c0.live = true) (r : RepC Γ α G p c0 o0) :
    Rl Γ (α ++ [p]) G (S ++ [c0]) H ∧ Rep Γ (α ++ [p]) G (.ref S.length) (.ref p) := by
  let H0 : Hp := fun a => if a = p then none else H a
  have h0 : ∀ a, a ≠ p → H0 a = H a := fun a h => if_neg h
  have R0 : Rl Γ α G S H0 := by
    have ne : ∀ a ∈ α, a ≠ p := fun a m z => by subst z; exact na m
    refine ⟨fun a o e => ?_, R.len, R.nd, fun a m => by rw [h0 a (ne a m)]; exact R.tr a m, fun k c a hc ha => ?_⟩
    · rw [h0 a (fun z => by subst z; rw [ng] at e; cases e)]; exact R.sub a o e
    · exact (R.ok k c a hc ha).mono ⟨[], by simp⟩ (Sub.refl G) fun _ => ⟨h0 a (ne a (List.mem_of_getElem? ha)), fun h => h⟩
  obtain ⟨R1, _, r1⟩ := R0.cellC (show H0 p = none from if_pos rfl) hl r
  have e : upd H0 p o0 = H := by
    funext a
    by_cases h : a = p
    · subst h; rw [upd_same, hp]
    · rw [upd_ne h, h0 a h]
  rw [e] at R1
  exact ⟨R1, r1⟩
/-- the same, seen from the state in which the object did not stand yet -/
theorem Ext.adopt {α α' : List Addr} {G G' H H' : Hp} (e : Ext α G H α' G' H') {p : Addr} (hp : H p = none) : Ext α G H (α' ++ [p]) G' H' := by
  refine ⟨?_, e.sub, e.fr, fun b m => ?_, e.ng⟩
  · obtain ⟨β, rfl⟩ := e.pre
    exact ⟨β ++ [p], by simp⟩
  · rcases List.mem_append.mp m with m | m
    · exact e.na b m
    · simp at m; subst m; exact .inr hp
/-- an object that stands aside stays there -/
theorem Ext.aside {Γ : Gm} {α α' : List Addr} {G G' H H' : Hp} {S : Store} (e : Ext α G H α' G' H') {p : Addr} {o : HO} (hp : H p = some o) (na : p ∉ α) (ng : G p = none) (nt : ∀ xs, o ≠ .tup xs) : H' p = some o ∧ p ∉ α' ∧ G' p = none := by
  refine ⟨e.fr p o hp na, fun m => ?_, ?_⟩
  · rcases e.na p m with z | z
    · exact na z
    · rw [hp] at z; cases z
  · cases q : G' p with
    | none => rfl
    | some u =>
      rcases e.ng p (by rw [q]; simp) with z | z | z | ⟨xs, z⟩
      · exact absurd ng z
      · exact absurd z na
      · rw [hp] at z; cases z
      · rw [hp] at z; exact absurd (Option.some.inj z) (nt xs)
def mDNewK : ME := fun _ S => .ok (.ref S.length) (S ++ [.dk false []])
def mDNewT : ME := fun _ S => .ok (.ref S.length) (S ++ [.dt false []])
/-- {k: v}, a key that is an int or a text -/
def disp1K (k v : D) (S : Store) : Res D := match keyD k with
  | some key => .ok (.ref S.length) (S ++ [.dk false [(key, v)]])
  | none => .no
def mDDisp1 (mk mv : ME) : ME := fun ρ S => (mk ρ S).bind fun k S1 => (mv ρ S1).bind fun v S2 => disp1K k v S2
section
variable {X : Cx} {cl : Nat → Addr} {E : XK} {ek ev : Expr} {mk mv : ME} {pos : Pos}
theorem q_dnewK : QE X cl E (.Dict [] [] pos) mDNewK := ⟨_, pe_dnewK, fun ρ S σ α G H Q hρ hR hp p hz => by
  obtain ⟨R2, e2, r2⟩ := hR.cellC (c0 := .dk false []) hz rfl ⟨[], by simp [RepKV], .inl ⟨rfl, rfl⟩⟩
  exact hp _ _ _ _ e2 R2 r2⟩
theorem q_dnewT : QE X cl E (.Dict [] [] pos) mDNewT := ⟨_, pe_dnewT, fun ρ S σ α G H Q hρ hR hp p hz => by
  obtain ⟨R2, e2, r2⟩ := hR.cellC (c0 := .dt false []) hz rfl ⟨[], by simp [RepKV], .inl ⟨rfl, rfl⟩⟩
  exact hp _ _ _ _ e2 R2 r2⟩
theorem q_ddisp1 (hk : QE X cl E ek mk) (hv : QE X cl E ev mv) : QE X cl E (.Dict [some ek] [ev] pos) (mDDisp1 mk mv) := by
  obtain ⟨t, h1, h2⟩ := hk.ex
  obtain ⟨u, k1, k2⟩ := hv.ex
  refine ⟨_, pe_disp (pps_cons h1 k1 pps_nil) rfl rfl (by simp) (by simp), fun ρ S σ α G H Q hρ hR hp p hz => ?_⟩
  obtain ⟨R0, e0⟩ := hR.out hz (.dK [])
  have na : p ∉ α := fun m => hR.tr p m hz
  have ng : G p = none := hR.gnone hz
  refine h2 ρ S σ α G _ _ hρ R0 ?_
  revert hp
  unfold mDDisp1
  cases mk ρ S with
  | no => exact fun h => h.elim
  | ex e S' => exact fun h α' G' H' c x ex rl rp => h α' G' H' c x (e0.trans ex) rl rp
  | ok kd S1 =>
    intro hp α1 G1 H1 kv x1 R1 r1
    refine k2 ρ S1 σ α1 G1 H1 _ ((hρ.mono e0).mono x1) R1 ?_
    revert hp
    rw [bind_ok]
    cases mv ρ S1 with
    | no => exact fun h => h.elim
    | ex e S' => exact fun h α' G' H' c x ex rl rp => h α' G' H' c x ((e0.trans x1).trans ex) rl rp
    | ok vd S2 =>
      intro hp α2 G2 H2 vv x2 R2 r2
      obtain ⟨w1, w2, w3⟩ := (x1.trans x2).aside (Γ := ⟨X.K, cl⟩) (S := S) upd_same na ng (fun xs z => nomatch z)
      rw [bind_ok] at hp
      unfold disp1K at hp
      cases hk : keyD kd with
      | none => rw [hk] at hp; exact hp.elim
      | some key =>
        simp only [hk] at hp
        have hkv := keyD_rep hk r1
        subst hkv
        refine ⟨w1, [(key, vv)], rfl, by simp, ?_⟩
        have eM : mergeK [] [(key, vv)] = [(key, vv)] := rfl
        rw [eM]
        have R3 := R2.patch w2 w3 (.dK [(key, vv)])
        obtain ⟨R4, r4⟩ := R3.adopt (c0 := .dk false [(key, vd)]) upd_same w2 w3 rfl ⟨[(key, vv)], by
          unfold RepKV
          exact ⟨vv, [], rfl, r2, by simp [RepKV]⟩, .inl ⟨rfl, rfl⟩⟩
        exact hp _ _ _ _ ((((e0.trans x1).trans x2).patch hz _).adopt hz) R4 r4
end
mutual
theorem Rep.keeps {Γ : Gm} {α : List Addr} {G G' : Hp} (k : ∀ b o, G b = some o → (∀ od u, o = .frz od u → ∃ xs, u = .lst xs) → G' b = some o) : ∀ (d : D) (v : V), Rep Γ α G d v → Rep Γ α G' d v
  | .non, v, h => by simpa [Rep] using h
  | .bl b, v, h => by simpa [Rep] using h
  | .int i, v, h => by simpa [Rep] using h
  | .str s, v, h => by simpa [Rep] using h
  | .tup ds, v, h => by
    unfold Rep at h ⊢
    obtain ⟨a, vs, e, q, r⟩ := h
    exact ⟨a, vs, e, k _ _ q fun _ _ z => (nomatch z), RepL.keeps k ds vs r⟩
  | .lst ds, v, h => by
    unfold Rep at h ⊢
    obtain ⟨a, vs, e, q, r⟩ := h
    exact ⟨a, vs, e, k _ _ q fun _ _ z => (nomatch z), RepL.keeps k ds vs r⟩
  | .fro ds, v, h => by
    unfold Rep at h ⊢
    obtain ⟨a, vs, e, q, r⟩ := h
    refine ⟨a, vs, e, ?_, RepL.keeps k ds vs r⟩
    rcases q with (q | ⟨o, q⟩) | q
    · exact .inl (.inl (k _ _ q fun _ _ z => (nomatch z)))
    · exact .inl (.inr ⟨o, k _ _ q fun od u z => by cases z; exact ⟨vs, rfl⟩⟩)
    · exact .inr q
  | .obj c ds, v, h => by
    unfold Rep at h ⊢
    obtain ⟨a, vs, e, ⟨dx, h1, h2⟩, r⟩ := h
    exact ⟨a, vs, e, ⟨dx, k _ _ h1 (fun _ _ z => by unfold SlX.SlO at z; cases z), k _ _ h2 fun _ _ z => (nomatch z)⟩, RepL.keeps k ds vs r⟩
  | .exn c ds, v, h => by
    unfold Rep at h ⊢
    obtain ⟨a, vs, e, ⟨d, h1, h2⟩, r⟩ := h
    exact ⟨a, vs, e, ⟨d, k _ _ h1 (fun _ _ z => by unfold ExK at z; cases z), h2.keep fun _ _ z => k _ _ z fun _ _ y => (nomatch y)⟩, RepL.keeps k ds vs r⟩
  | .ref n, v, h => by
    unfold Rep at h ⊢
    exact h
theorem RepL.keeps {Γ : Gm} {α : List Addr} {G G' : Hp} (k : ∀ b o, G b = some o → (∀ od u, o = .frz od u → ∃ xs, u = .lst xs) → G' b = some o) : ∀ (ds : List D) (vs : List V), RepL Γ α G ds vs → RepL Γ α G' ds vs
  | [], vs, h => by simpa [RepL] using h
  | d :: ds, vs, h => by
    unfold RepL at h ⊢
    obtain ⟨v, r, e, h1, h2⟩ := h
    exact ⟨v, r, e, Rep.keeps k d v h1, RepL.keeps k ds r h2⟩
end
theorem RepKV.keeps {Γ : Gm} {α : List Addr} {G G' : Hp} {κ : Type} (k : ∀ b o, G b = some o → (∀ od u, o = .frz od u → ∃ xs, u = .lst xs) → G' b = some o) : ∀ {kvs : List (κ × D)} {ws : List (κ × V)}, RepKV Γ α G kvs ws → RepKV Γ α G' kvs ws
  | [], ws, h => by simpa [RepKV] using h
  | p :: r, ws, h => by
    unfold RepKV at h ⊢
    obtain ⟨v, t, e, h1, h2⟩ := h
    exact ⟨v, t, e, Rep.keeps k _ _ h1, RepKV.keeps k h2⟩
theorem RepC.keeps {Γ : Gm} {α : List Addr} {G G' : Hp} {a : Addr} {c : Cell} {o : HO} (k : ∀ b o, G b = some o → (∀ od u, o = .frz od u → ∃ xs, u = .lst xs) → G' b = some o) (h : RepC Γ α G a c o) : RepC Γ α G' a c o := by
  cases c with
  | lst ds => obtain ⟨vs, e, r⟩ := h; exact ⟨vs, e, RepL.keeps k _ _ r⟩
  | frz ds => obtain ⟨vs, e, r⟩ := h; exact ⟨vs, e, RepL.keeps k _ _ r⟩
  | dk lk kvs => obtain ⟨ws, r, e⟩ := h; exact ⟨ws, r.keeps k, e⟩
  | dt lk kvs => obtain ⟨ws, r, e⟩ := h; exact ⟨ws, r.keeps k, e⟩
  | ob c fs =>
    obtain ⟨dx, vs, e, hx, r⟩ := h
    refine ⟨dx, vs, e, k _ _ hx fun _ _ z => (nomatch z), fun i d hd => ?_⟩
    obtain ⟨v, e1, r1⟩ := r i d hd
    exact ⟨v, e1, Rep.keeps k _ _ r1⟩
def lockC : Cell → Option Cell
  | .dk false kvs => some (.dk true kvs)
  | .dt false kvs => some (.dt true kvs)
  | _ => none
def unlockC : Cell → Option Cell
  | .dk true kvs => some (.dk false kvs)
  | .dt true kvs => some (.dt false kvs)
  | _ => none
def er (G : Hp) (a : Addr) : Hp := fun b => if b = a then none else G b
section
variable {Γ : Gm} {α α' : List Addr} {G G' H H' : Hp} {S S' : Store} {k : Nat} {a : Addr} {c c1 c2 : Cell}
theorem Rl.lock (R : Rl Γ α G S H) (hk : S[k]? = some c) (hc : lockC c = some c1) (ha : α[k]? = some a) : ∃ u, H a = some u ∧ G a = none ∧ Mut (some u) ∧ (∀ xs, u ≠ .lst xs) ∧ (∀ xs, u ≠ .tup xs) ∧ ∀ od, Rl Γ α (upd G a (.frz od u)) (S.set k c1) (upd H a (.frz od u)) ∧ Ext α G H α (upd G a (.frz od u)) (upd H a (.frz od u)) := by
  have hm : a ∈ α := List.mem_of_getElem? ha
  obtain ⟨u, rc, w⟩ := R.ok k c a hk ha
  have nt : ∀ xs, u ≠ .tup xs := rc.ntup
  have key : c.live = true ∧ c1.live = false ∧ Mut (some u) ∧ (∀ xs, u ≠ .lst xs) ∧ ∀ G2 od, RepC Γ α G2 a c u → RepC Γ α G2 a c1 (.frz od u) := by
    cases c with
    | dk l kvs =>
      cases l
      · cases hc
        obtain ⟨ws, r, e⟩ := rc
        rcases e with ⟨_, rfl⟩ | ⟨e, _⟩
        · refine ⟨rfl, rfl, trivial, (fun _ z => nomatch z), fun G2 od h => ?_⟩
          obtain ⟨ws2, r2, e2⟩ := h
          rcases e2 with ⟨_, e2⟩ | ⟨e2, _⟩
          · cases e2; exact ⟨ws, r2, .inr ⟨rfl, od, rfl⟩⟩
          · cases e2
        · cases e
      · cases hc
    | dt l kvs =>
      cases l
      · cases hc
        obtain ⟨ws, r, e⟩ := rc
        rcases e with ⟨_, rfl⟩ | ⟨e, _⟩
        · refine ⟨rfl, rfl, trivial, (fun _ z => nomatch z), fun G2 od h => ?_⟩
          obtain ⟨ws2, r2, e2⟩ := h
          rcases e2 with ⟨_, e2⟩ | ⟨e2, _⟩
          · cases e2; exact ⟨ws, r2, .inr ⟨rfl, od, rfl⟩⟩
          · cases e2
        · cases e
      · cases hc
    | _ => cases hc
  obtain ⟨k1, k2, k3, k4, k5⟩ := key
  have hHG : H a = some u ∧ G a = none := by
    rcases w with ⟨_, w1, w2⟩ | ⟨w, _⟩
    · exact ⟨w1, w2⟩
    · rw [k1] at w; cases w
  refine ⟨u, hHG.1, hHG.2, k3, k4, nt, fun od => ?_⟩
  have sg : Sub G (upd G a (.frz od u)) := Sub.new hHG.2
  have nea : ∀ j b, α[j]? = some b → k ≠ j → b ≠ a := fun j b hb hjk z => by
    subst z
    obtain ⟨h1, e1⟩ := List.getElem?_eq_some_iff.mp ha
    obtain ⟨h2, e2⟩ := List.getElem?_eq_some_iff.mp hb
    exact hjk ((List.getElem_inj R.nd).mp (e1.trans e2.symm))
  refine ⟨⟨fun b o e => ?_, by simp [R.len], R.nd, fun b m => ?_, fun j cc b hcc hb => ?_⟩, ⟨⟨[], by simp⟩, sg, fun b o e m => ?_, fun b m => .inl m, fun b h => ?_⟩⟩
  · by_cases z : b = a
    · subst z; rw [upd_same] at e ⊢; exact e
    · rw [upd_ne z] at e ⊢; exact R.sub b o e
  · by_cases z : b = a
    · subst z; rw [upd_same]; simp
    · rw [upd_ne z]; exact R.tr b m
  · by_cases hjk : k = j
    · subst hjk
      rw [List.getElem?_set_self (List.getElem?_eq_some_iff.mp hk).1] at hcc
      rw [ha] at hb
      cases hb
      cases hcc
      exact ⟨_, k5 _ od (rc.mono ⟨[], by simp⟩ sg), .inr ⟨k2, upd_same⟩⟩
    · rw [List.getElem?_set_ne hjk] at hcc
      have ne := nea j b hb hjk
      exact (R.ok j cc b hcc hb).mono ⟨[], by simp⟩ sg fun _ => ⟨upd_ne ne, fun h => by rw [upd_ne ne]; exact h⟩
  · rw [upd_ne (fun z => by subst z; exact m hm)]; exact e
  · by_cases z : b = a
    · subst z; exact .inr (.inl hm)
    · rw [upd_ne z] at h; exact .inl h
theorem Rl.unlock {u : HO} {od : Obj} (ha : α[k]? = some a) (hH : H a = some u) (hG : G a = none) (nl : ∀ xs, u ≠ .lst xs) (e : Ext α (upd G a (.frz od u)) (upd H a (.frz od u)) α' G' H') (R : Rl Γ α' G' S' H') (hk : S'[k]? = some c) (hc : unlockC c = some c2) :
    H' a = some (.frz od u) ∧ (∀ b o, G' b = some o → (∀ od u, o = .frz od u → ∃ xs, u = .lst xs) → er G' a b = some o) ∧ Rl Γ α' (er G' a) (S'.set k c2) (upd H' a u) ∧ Ext α G H α' (er G' a) (upd H' a u) := by
  have hm : a ∈ α := List.mem_of_getElem? ha
  have ha' : α'[k]? = some a := by
    obtain ⟨β, rfl⟩ := e.pre
    rw [List.getElem?_append_left (List.getElem?_eq_some_iff.mp ha).1]
    exact ha
  have hm' : a ∈ α' := List.mem_of_getElem? ha'
  have hG' : G' a = some (.frz od u) := e.sub _ _ upd_same
  have hH' : H' a = some (.frz od u) := R.sub _ _ hG'
  have kp : ∀ b o, G' b = some o → (∀ od u, o = .frz od u → ∃ xs, u = .lst xs) → er G' a b = some o := fun b o h n => by
    have : b ≠ a := fun z => by
      subst z
      rw [hG'] at h
      cases h
      obtain ⟨xs, e⟩ := n od u rfl
      exact nl xs e
    unfold er
    rw [if_neg this, h]
  have erne : ∀ b, b ≠ a → er G' a b = G' b := fun b h => if_neg h
  have era : er G' a a = none := if_pos rfl
  refine ⟨hH', kp, ⟨fun b o h => ?_, by simp [R.len], R.nd, fun b m => ?_, fun j cc b hcc hb => ?_⟩, ⟨e.pre, fun b o h => ?_, fun b o h m => ?_, fun b m => ?_, fun b h => ?_⟩⟩
  · have ne : b ≠ a := fun z => by subst z; rw [era] at h; cases h
    rw [erne b ne] at h
    rw [upd_ne ne]
    exact R.sub b o h
  · by_cases z : b = a
    · subst z; rw [upd_same]; simp
    · rw [upd_ne z]; exact R.tr b m
  · by_cases hjk : k = j
    · subst hjk
      rw [List.getElem?_set_self (List.getElem?_eq_some_iff.mp hk).1] at hcc
      rw [ha'] at hb
      cases hb
      cases hcc
      obtain ⟨o, rc, w⟩ := R.ok k c a hk ha'
      cases c with
      | dk l kvs =>
        cases l
        · cases hc
        · cases hc
          rcases w with ⟨w, _⟩ | ⟨_, w⟩
          · cases w
          · rw [hG'] at w
            cases w
            obtain ⟨ws, r, e⟩ := rc
            rcases e with ⟨e, _⟩ | ⟨_, od', e⟩
            · cases e
            · cases e
              exact ⟨_, ⟨ws, r.keeps kp, .inl ⟨rfl, rfl⟩⟩, .inl ⟨rfl, upd_same, era⟩⟩
      | dt l kvs =>
        cases l
        · cases hc
        · cases hc
          rcases w with ⟨w, _⟩ | ⟨_, w⟩
          · cases w
          · rw [hG'] at w
            cases w
            obtain ⟨ws, r, e⟩ := rc
            rcases e with ⟨e, _⟩ | ⟨_, od', e⟩
            · cases e
            · cases e
              exact ⟨_, ⟨ws, r.keeps kp, .inl ⟨rfl, rfl⟩⟩, .inl ⟨rfl, upd_same, era⟩⟩
      | _ => cases hc
    · rw [List.getElem?_set_ne hjk] at hcc
      have ne : b ≠ a := fun z => by
        subst z
        obtain ⟨h1, e1⟩ := List.getElem?_eq_some_iff.mp ha'
        obtain ⟨h2, e2⟩ := List.getElem?_eq_some_iff.mp hb
        exact hjk ((List.getElem_inj R.nd).mp (e1.trans e2.symm))
      obtain ⟨o, rc, w⟩ := R.ok j cc b hcc hb
      refine ⟨o, rc.keeps kp, ?_⟩
      rw [upd_ne ne, erne b ne]
      exact w
  · have ne : b ≠ a := fun z => by subst z; rw [hG] at h; cases h
    rw [erne b ne]
    exact e.sub b o (by rw [upd_ne ne]; exact h)
  · have ne : b ≠ a := fun z => by subst z; exact m hm
    rw [upd_ne ne]
    exact e.fr b o (by rw [upd_ne ne]; exact h) m
  · rcases e.na b m with z | z
    · exact .inl z
    · by_cases ne : b = a
      · subst ne; exact .inl hm
      · rw [upd_ne ne] at z; exact .inr z
  · by_cases ne : b = a
    · subst ne; exact .inr (.inl hm)
    · rw [erne b ne] at h
      rcases e.ng b h with z | z | z | ⟨xs, z⟩
      · rw [upd_ne ne] at z; exact .inl z
      · exact .inr (.inl z)
      · rw [upd_ne ne] at z; exact .inr (.inr (.inl z))
      · rw [upd_ne ne] at z; exact .inr (.inr (.inr ⟨xs, z⟩))
end
theorem EnvR.keeps {Γ : Gm} {α : List Addr} {G G' : Hp} {ρ : Env} {σ : L2.St} (k : ∀ b o, G b = some o → (∀ od u, o = .frz od u → ∃ xs, u = .lst xs) → G' b = some o) (h : EnvR Γ α G ρ σ) : EnvR Γ α G' ρ σ :=
  ⟨h.1, fun i d hi => let ⟨v, a, b⟩ := h.2 i d hi; ⟨v, a, Rep.keeps k _ _ b⟩⟩
/-- the k-th cell, a dict, is locked while f runs -/
def lockAt {β : Type} (k : Nat) (S : Store) (f : Store → Res β) : Res β := match (S[k]?).bind lockC with
  | some c => (f (S.set k c)).bind fun d S2 => match (S2[k]?).bind unlockC with
    | some c2 => .ok d (S2.set k c2)
    | none => .no
  | none => .no
def mLockE (md m : ME) : ME := fun ρ S => match md ρ S with
  | .ok (.ref k) _ => lockAt k S (m ρ)
  | _ => .no
def mLockS (md : ME) (n : MS) : MS := fun ρ S => match md ρ S with
  | .ok (.ref k) _ => lockAt k S (n ρ)
  | _ => .no
section
variable {Γ : Gm} {E : XK} {md m : ME} {n : MS}
theorem snd_lockE {t : TE} (h : SndE Γ E t m) : SndE Γ E (tLockE t) (mLockE md m) := fun ρ S σ α G H Q hρ hR hp => by
  unfold mLockE at hp
  split at hp
  case h_2 => exact hp.elim
  rename_i k _ _
  unfold lockAt at hp
  cases hk : S[k]? with
  | none => rw [hk] at hp; exact hp.elim
  | some c =>
    rw [hk, Option.bind_some] at hp
    cases hc : lockC c with
    | none => rw [hc] at hp; exact hp.elim
    | some c1 =>
      rw [hc] at hp
      have hl : k < α.length := by rw [hR.len]; exact (List.getElem?_eq_some_iff.mp hk).1
      have ha : α[k]? = some α[k] := List.getElem?_eq_getElem hl
      obtain ⟨u, hH, hG, mu, nl, nt, rest⟩ := hR.lock hk hc ha
      refine ⟨α[k], u, hH, mu, fun od => ?_⟩
      obtain ⟨R1, e1⟩ := rest od
      refine h ρ _ σ α _ _ _ (hρ.mono e1) R1 ?_
      dsimp only at hp
      revert hp
      cases m ρ (S.set k c1) with
      | no => exact fun hp => hp
      | ex e S' => exact fun hp α' G' H' c x ex rl rp => hp α' G' H' c x (e1.trans ex) rl rp
      | ok d S2 =>
        intro hp α' G' H' v e R r
        dsimp only [Res.bind] at hp
        cases hk2 : S2[k]? with
        | none => rw [hk2] at hp; exact hp.elim
        | some c3 =>
          rw [hk2, Option.bind_some] at hp
          cases hc2 : unlockC c3 with
          | none => rw [hc2] at hp; exact hp.elim
          | some c4 =>
            rw [hc2] at hp
            obtain ⟨w1, kp, R2, e2⟩ := Rl.unlock ha hH hG nl e R hk2 hc2
            exact ⟨w1, hp α' _ _ v e2 R2 (Rep.keeps kp _ _ r)⟩
theorem snd_lockS {t : TS} (h : SndS Γ E t n) : SndS Γ E (tLock t) (mLockS md n) := fun ρ S σ α G H Dn hρ hR hp => by
  unfold mLockS at hp
  split at hp
  case h_2 => exact hp.elim
  rename_i k _ _
  unfold lockAt at hp
  cases hk : S[k]? with
  | none => rw [hk] at hp; exact hp.elim
  | some c =>
    rw [hk, Option.bind_some] at hp
    cases hc : lockC c with
    | none => rw [hc] at hp; exact hp.elim
    | some c1 =>
      rw [hc] at hp
      have hl : k < α.length := by rw [hR.len]; exact (List.getElem?_eq_some_iff.mp hk).1
      have ha : α[k]? = some α[k] := List.getElem?_eq_getElem hl
      obtain ⟨u, hH, hG, mu, nl, nt, rest⟩ := hR.lock hk hc ha
      refine ⟨α[k], u, hH, mu, fun od => ?_⟩
      obtain ⟨R1, e1⟩ := rest od
      refine h ρ _ σ α _ _ _ (hρ.mono e1) R1 ?_
      dsimp only at hp
      revert hp
      cases n ρ (S.set k c1) with
      | no => exact fun hp => hp
      | ex e S' => exact fun hp α' G' H' c x ex rl rp => hp α' G' H' c x (e1.trans ex) rl rp
      | ok f S2 =>
        intro hp
        dsimp only [Res.bind] at hp
        cases hk2 : S2[k]? with
        | none => rw [hk2] at hp; exact hp.elim
        | some c3 =>
          rw [hk2, Option.bind_some] at hp
          cases hc2 : unlockC c3 with
          | none => rw [hc2] at hp; exact hp.elim
          | some c4 =>
            rw [hc2] at hp
            cases f with
            | nx ρ1 => exact fun α' G' H' σ' e R r => let ⟨w1, kp, R2, e2⟩ := Rl.unlock ha hH hG nl e R hk2 hc2; ⟨w1, hp α' _ _ σ' e2 R2 (EnvR.keeps kp r)⟩
            | rt d => exact fun α' G' H' v e R r => let ⟨w1, kp, R2, e2⟩ := Rl.unlock ha hH hG nl e R hk2 hc2; ⟨w1, hp α' _ _ v e2 R2 (Rep.keeps kp _ _ r)⟩
            | bk ρ1 => exact fun α' G' H' σ' e R r => let ⟨w1, kp, R2, e2⟩ := Rl.unlock ha hH hG nl e R hk2 hc2; ⟨w1, hp α' _ _ σ' e2 R2 (EnvR.keeps kp r)⟩
            | ct ρ1 => exact fun α' G' H' σ' e R r => let ⟨w1, kp, R2, e2⟩ := Rl.unlock ha hH hG nl e R hk2 hc2; ⟨w1, hp α' _ _ σ' e2 R2 (EnvR.keeps kp r)⟩
end
def keysOf (d : D) (S : Store) : Res (List D) := match d with
  | .ref k => match S[k]? with
    | some (.dk true kvs) => .ok (kvs.map fun p => dKey p.1) S
    | some (.dt true kvs) => .ok (kvs.map fun p => .tup (p.1.map dKey)) S
    | _ => .no
  | _ => .no
def mKeys (m : ME) : MA := fun ρ S => (m ρ S).bind keysOf
section
variable {Γ : Gm} {α : List Addr} {G : Hp} {a : Addr} {od : Obj}
theorem steps_keys {kvs : List (Key × D)} {ws : List (Key × V)} (hG : G a = some (.frz od (.dK ws))) (r : RepKV Γ α G kvs ws) : Steps Γ α G (kvs.map fun p => dKey p.1) (Itk a od ws) := fun i α2 G2 H2 S2 hp hs R2 => by
  have q : H2 a = some (.frz od (.dK ws)) := R2.sub _ _ (hs _ _ hG)
  have hl := r.length
  refine ⟨fun h => ⟨q, by simp at h; omega⟩, fun d hd => ?_⟩
  have hi : i < kvs.length := by have := (List.getElem?_eq_some_iff.mp hd).1; simpa using this
  refine ⟨⟨q, by omega⟩, fun x H3 hy => ?_⟩
  obtain ⟨rfl, k, v, hk, rfl⟩ := hy
  obtain ⟨d0, h0, _⟩ := r.get hk
  rw [List.getElem?_map, h0] at hd
  cases hd
  exact ⟨G2, R2, Ext.refl _ _ _, dKey_rep k⟩
theorem steps_keysT {kvs : List (List Key × D)} {ws : List (List Key × V)} (hG : G a = some (.frz od (.dT ws))) (r : RepKV Γ α G kvs ws) : Steps Γ α G (kvs.map fun p => .tup (p.1.map dKey)) (Itkt a od ws) := fun i α2 G2 H2 S2 hp hs R2 => by
  have q : H2 a = some (.frz od (.dT ws)) := R2.sub _ _ (hs _ _ hG)
  have hl := r.length
  refine ⟨fun h => ⟨q, by simp at h; omega⟩, fun d hd => ?_⟩
  have hi : i < kvs.length := by have := (List.getElem?_eq_some_iff.mp hd).1; simpa using this
  refine ⟨⟨q, by omega⟩, fun x H3 hy => ?_⟩
  obtain ⟨rfl, k, v, b, hk, rfl, hb⟩ := hy
  obtain ⟨d0, h0, _⟩ := r.get hk
  rw [List.getElem?_map, h0] at hd
  cases hd
  cases z : G2 b with
  | some o =>
    have := R2.sub _ _ z
    rw [hb] at this
    cases this
    exact ⟨G2, R2, Ext.refl _ _ _, rep_tup z (dKeys_rep k)⟩
  | none =>
    have nb : b ∉ α2 := fun m => R2.ntup m _ hb
    have sg : Sub G2 (upd G2 b (.tup (k.map kV))) := Sub.new z
    refine ⟨upd G2 b (.tup (k.map kV)), ⟨fun c o h => ?_, R2.len, R2.nd, R2.tr, fun j cc c hc hα => ?_⟩, ⟨⟨[], by simp⟩, sg, fun c o h _ => h, fun c m => .inl m, fun c h => ?_⟩, rep_tup upd_same (dKeys_rep k)⟩
    · by_cases e : c = b
      · subst e; rw [upd_same] at h; cases h; exact hb
      · rw [upd_ne e] at h; exact R2.sub c o h
    · have ne : c ≠ b := fun e => by subst e; exact nb (List.mem_of_getElem? hα)
      exact (R2.ok j cc c hc hα).mono ⟨[], by simp⟩ sg fun _ => ⟨rfl, fun h => by rw [upd_ne ne]; exact h⟩
    · by_cases e : c = b
      · subst e; exact .inr (.inr (.inr ⟨_, hb⟩))
      · rw [upd_ne e] at h; exact .inl h
end
section
variable {X : Cx} {cl : Nat → Addr} {E : XK} {m md : ME} {n : MS} {e : Expr} {st : Stmt}
theorem qi_keys {tg it : Expr} (h : QE X cl E it m) : QI X cl E tg it (mKeys m) := by
  obtain ⟨t, h1, h2⟩ := h.ex
  refine ⟨_, pi_keys h1, fun ρ S σ α G H R hρ hR hp => ?_⟩
  refine h2 ρ S σ α G H _ hρ hR (posti_bind hp fun d S1 α1 G1 H1 v _ e1 R1 r1 hp1 => ?_)
  unfold keysOf at hp1
  cases d <;> try exact hp1.elim
  rename_i k _
  simp only at hp1
  unfold Rep at r1
  obtain ⟨a, rfl, ha⟩ := r1
  split at hp1
  · rename_i kvs hk
    obtain ⟨o, ⟨ws, r, e⟩, w⟩ := R1.ok k _ a hk ha
    rcases e with ⟨e, _⟩ | ⟨_, od, rfl⟩
    · cases e
    · rcases w with ⟨w, _⟩ | ⟨_, w⟩
      · cases w
      · exact ⟨a, od, rfl, .inl ⟨ws, R1.sub _ _ w, hp1 α1 G1 H1 _ (Ext.refl _ _ _) R1 (steps_keys w r)⟩⟩
  · rename_i kvs hk
    obtain ⟨o, ⟨ws, r, e⟩, w⟩ := R1.ok k _ a hk ha
    rcases e with ⟨e, _⟩ | ⟨_, od, rfl⟩
    · cases e
    · rcases w with ⟨w, _⟩ | ⟨_, w⟩
      · cases w
      · exact ⟨a, od, rfl, .inr ⟨ws, R1.sub _ _ w, hp1 α1 G1 H1 _ (Ext.refl _ _ _) R1 (steps_keysT w r)⟩⟩
  · exact hp1.elim
theorem q_lockE (md : ME) (h : QE X cl E e m) : QE X cl E e (mLockE md m) := by
  obtain ⟨t, h1, h2⟩ := h.ex
  exact ⟨_, pe_lock h1, snd_lockE h2⟩
theorem q_lockS (md : ME) (h : QS X cl E st n) : QS X cl E st (mLockS md n) := by
  obtain ⟨t, h1, h2⟩ := h.ex
  exact ⟨_, ps_lock h1, snd_lockS h2⟩
end
end Q
namespace Q
open PySem PySem.Spec PyProof.Rows L2
/-- the dict at hand takes one entry more, keys of either sort -/
theorem put_in {X : Cx} {pins : List (Addr × Obj)} {τ : L2.St} {J J' : Hp} {u : Shared} {Ex : Value → Shared → Prop} {N : Addr} {y z : V} {yv zv : Value} {R : Unit → Shared → Prop} (hu : X.A.units < cLine) (I : Inv X pins τ J u) (g : DPut J N y z J')
    (ry : RelV y yv) (rz : RelV z zv) (next : ∀ u', Inv X pins τ J' u' → R () u') : wpAny (model X.prog X.w) X.A (dictSet N yv zv) R Ex u := by
  rcases g with ⟨es, ky, eN, ey, room, eJ⟩ | ⟨es, ky, t, eN, ey, et, room, eJ⟩
  · subst ey
    subst eJ
    exact d_dictSet I eN room ry rz next
  · subst ey
    subst eJ
    obtain rfl : yv = Value.ref t := ry
    obtain ⟨bound, far, ps, rel, dd⟩ := dt_of I.hok eN
    have few : ps.length ≤ sizeLine := by rw [← Paired.length rel]; exact bound
    have few2 : (putK es ky z).length ≤ sizeLine := Nat.le_trans (length_putK es ky z) room
    refine wpAny_dictSet_heap (hsz := few) (show (tupleKind (mixKind X.prog X.w)).room X.A from hu) (key_of I.hok et) dd fun hp nd but => next _ ?_
    obtain ⟨ob, en, el, q0, q1, q2, q3, _, q4⟩ := nd
    refine d_write I (by rw [eN]; trivial) but ⟨ob, q0⟩ ⟨few2, far, _, (rel.put ky et rz).keeps fun c ys ec => ?_, ob, en, el, q0, q1, q2, q3, q4⟩
    have ne : c ≠ N := ne_of ec eN fun z => nomatch z
    rw [upd_ne ne, ec]
/-- the reading of such a comprehension: o0 is the empty dict of the sort of keys -/
def tDcx (o0 : HO) (wi : TI) (g : TG) (tt : TT) (tk tv : TE) (vs : List Nat) : TE := fun σ H Q => wi σ H fun It H1 => ∀ N, H1 N = none → ∃ W : Nat → Nat → Hp → Prop, (∃ m, W 0 m (upd H1 N o0)) ∧ ∀ i m J, W i m J →
  (It.stop i J ∧ Q (.ref N) J) ∨ (It.go i J ∧ ∃ On : Hp → Prop, (∀ J', On J' → ∃ m', m' < m ∧ W (i + 1) m' J') ∧ ∀ x J', It.yld i J x J' → g x (wipe σ vs) J' fun σ2 J2 => wipe σ2 vs = wipe σ vs ∧ tt σ2 J2 fun b J3 =>
    if b = true then tk σ2 J3 fun y J4 => tv σ2 J4 fun z J5 => ∃ J6, DPut J5 N y z J6 ∧ On J6 else On J3)
abbrev Bk (X : Cx) (scope : Scope) (u : Shared) (J : Hp) (C : Addr) (c : List (Str × Addr)) (fp : List Addr) : Cx := X.blk u J scope (compEnvC scope c C X.env) fp
section
variable {X : Cx} {pins : List (Addr × Obj)} {u0 : Shared} {τ : L2.St} {J0 : Hp} {Qv : VK} {kx vx tg iter : Expr} {ifs : List Expr} {scope : Scope} {own : List (Str × Nat)} {pos pos' : Pos} {wi : TI} {g : TG} {tt : TT} {tk tv : TE} {use : Option (Value → Sem Unit)} {Qf : Value → Shared → Prop} {o0 : HO}
theorem dcx_core (hu : X.A.units < cLine) (h0 : o0 = .dK [] ∨ o0 = .dT []) (calm : X.calm = true) (nod : X.N.Nodup) (I : Inv X pins τ J0 u0) (hit : PI X tg iter wi) (blk : BlkOk X.N X.env.scope scope own)
    (ptg : ∀ (u : Shared) (J : Hp) (C : Addr) (c : List (Str × Addr)) (fp : List Addr), PG (Bk X scope u J C c fp) tg g)
    (pts : ∀ (u : Shared) (J : Hp) (C : Addr) (c : List (Str × Addr)) (fp : List Addr), PTs (Bk X scope u J C c fp) ifs tt)
    (pky : ∀ (u : Shared) (J : Hp) (C : Addr) (c : List (Str × Addr)) (fp : List Addr), PE (Bk X scope u J C c fp) kx tk)
    (pvl : ∀ (u : Shared) (J : Hp) (C : Addr) (c : List (Str × Addr)) (fp : List Addr), PE (Bk X scope u J C c fp) vx tv) (fold : ∀ x, foldedSetIterable iter X.env x = pure x)
    (asked : tDcx o0 wi g tt tk tv (own.map (·.2)) τ J0 Qv)
    (close : ∀ N C u' m J', Inv X pins τ J' u' → Qv (.ref N) J' → u'.heap.Ns C m → FpOk X pins J' C → compPost (model X.prog X.w) X.A X.xe use Qf (.ref N) C (.ok .next) u') :
    wpAny (model X.prog X.w) X.A (comprehension (.DictComp kx vx [⟨tg, iter, ifs, 0⟩] scope pos) scope X.env pos' newDict false (eval iter X.env) use) Qf X.xe u0 := by
  have frees : ∀ y ∈ scope.names, y.2 = .free → ∃ c, X.env.cells.lookup y.1 = some c := fun y hy e => I.ok.has _ ((blk.free y hy e).elim .inl .inr)
  refine wpAny_comprehension_free (use := use) rfl fold (closure_ok frees) blk.kind (fun y hy e => by rw [blk.uniq y hy, e]) (thn (hit.run pins u0 τ J0 _ I asked) fun xv u1 hx => thn hx fun itv u2 h2 => ?_)
  obtain ⟨it, fp, tn, It, J2, e, I2, T, at2, fr2, q⟩ := h2
  subst e
  refine wpAny_newObj_type (newEnv_comp ?_)
  generalize eN : u2.heap.objs.size = N
  have nN : J2 N = none := I2.hok.fresh (Nat.le_of_eq eN)
  obtain ⟨W, ⟨mm, w0⟩, turn⟩ := q N nN
  generalize eu3 : ({ u2 with heap := u2.heap.push { cls := .type "dict", data := .dict #[] } } : Shared) = u3
  have eh3 : u3.heap = u2.heap.push { cls := .type "dict", data := .dict #[] } := by rw [← eu3]
  have I3 : Inv X pins τ (upd J2 N o0) u3 := by
    rw [← eu3]
    refine I2.laid (t' := u2.toks) (fun b o e => Heap.get?_push_of_some _ e) (Nat.le_of_eq eN) ?_
    rw [← eN]
    rcases h0 with rfl | rfl
    · exact dk_empty u2.heap I2.big
    · exact dt_empty u2.heap I2.big
  have fr3 : ∀ b ∈ fp, FpOk X pins (upd J2 N o0) b ∧ b < u3.heap.objs.size := fun b hb => by
    have lt : b < u2.heap.objs.size := let ⟨_, e, _⟩ := T.obj _ _ at2 b hb; Heap.lt_size e
    have ne : b ≠ N := by rw [← eN]; exact Nat.ne_of_lt lt
    exact ⟨⟨by rw [upd_ne ne]; exact (fr2 b hb).1, (fr2 b hb).2⟩, by rw [eh3, Heap.size_push]; exact Nat.lt_succ_of_lt lt⟩
  have at3 : tn 0 u3.heap := T.keep _ _ _ at2 fun b _ o e => eh3 ▸ Heap.get?_push_of_some _ e
  have I4 := block_start I3 blk nod fr3
  generalize eclo : cellsFrom (u3.heap.objs.size + 1) scope.names (cloFrom X.env.cells scope.names []) = clo at I4 ⊢
  have g1 := ptg u3 (upd J2 N o0) u3.heap.objs.size clo fp
  have g2 := pts u3 (upd J2 N o0) u3.heap.objs.size clo fp
  have g3 := pky u3 (upd J2 N o0) u3.heap.objs.size clo fp
  have g4 := pvl u3 (upd J2 N o0) u3.heap.objs.size clo fp
  show codeAny _ _ (.compStart (.DictComp kx vx [⟨tg, iter, ifs, 0⟩] scope pos) 0 (.ref it) (.ref N) (compEnvC scope clo u3.heap.objs.size X.env))
    (compPost (model X.prog X.w) X.A X.xe use Qf (.ref N) u3.heap.objs.size) { u3 with heap := pushCells (u3.heap.push { cls := .type "dict", data := .dict #[] }) scope.names }
  have free3 : ∀ b ∈ fp, (upd J2 N o0) b = none := fun b hb => (fr3 b hb).1.1
  unfold Bk at g1 g2 g3 g4
  generalize eenv : compEnvC scope clo u3.heap.objs.size X.env = env2 at I4 g1 g2 g3 g4 ⊢
  have loc2 : env2.locals = u3.heap.objs.size := by subst eenv; rfl
  generalize eJ3 : upd J2 N o0 = J3 at I3 I4 g1 g2 g3 g4 w0 free3 fr3
  generalize eu4 : ({ u3 with heap := pushCells (u3.heap.push { cls := .type "dict", data := .dict #[] }) scope.names } : Shared) = u4 at I4 ⊢
  have at4 : tn 0 u4.heap := T.keep _ _ _ at3 fun b _ o e => eu4 ▸ pushCells_keeps _ _ _ _ (Heap.get?_push_of_some _ e)
  have okf : ∀ {τ' : L2.St} {J' : Hp} {u' : Shared}, Inv (X.blk u3 J3 scope env2 fp) [] τ' J' u' → (∀ b ∈ fp, J' b = none) → ∀ b ∈ fp, FpOk (X.blk u3 J3 scope env2 fp) [] J' b := fun I' fr b hb =>
    ⟨fr b hb, (I'.ok.exf b hb).1, I'.ok.exfs b hb, .inl hb, fun x c e => (I'.ok.exf b hb).2 x c e, fun p hp => absurd (show p ∈ ([] : List (Addr × Obj)) ++ [] from hp) (by simp)⟩
  refine (fun run => codeAny_compStart_dict run (T.self X.A 0 _ _ _ at4 run)) (?_ : codeAny (model X.prog X.w) X.A (.compLoop (.DictComp kx vx [⟨tg, iter, ifs, 0⟩] scope pos) 0 (.ref it) (.ref N) env2) (compPost (model X.prog X.w) X.A X.xe use Qf (.ref N) u3.heap.objs.size) u4)
  refine compLoop_anyD (fun n u' => ∃ i J', Inv (X.blk u3 J3 scope env2 fp) [] (wipe τ (own.map (·.2))) J' u' ∧ tn i u'.heap ∧ (∀ b ∈ fp, J' b = none) ∧ W i n J') ?_ mm ⟨0, J3, I4, at4, free3, w0⟩
  rintro n u5 ⟨i, J5, I5, at5, free5, w5⟩
  rcases turn i n J5 w5 with ⟨stop, last⟩ | ⟨go, On, less, body⟩
  · refine thnF (T.done (X.blk u3 J3 scope env2 fp) rfl rfl rfl calm i [] u5 _ J5 (fun _ _ => False) I5 (okf I5 free5) at5 stop) fun r u6 ⟨hr, I6⟩ => ?_
    subst hr
    have back : Inv X pins τ J5 u6 := I3.call' (ch := fp) I6.os I6.base I6.hok I6.bare fun b hb => let z := (fr3 b hb).1; ⟨z.2.2.2.1, z.2.1, z.2.2.2.2.1, z.2.2.2.2.2⟩
    have noC : J5 u3.heap.objs.size = none := loc2 ▸ (I6.free : J5 env2.locals = none)
    obtain ⟨m, hn, _⟩ := I6.loc
    have hn2 : u6.heap.Ns env2.locals m := hn
    rw [loc2] at hn2
    exact close N u3.heap.objs.size u6 m J5 back last hn2 (I3.fpOk (Nat.le_refl _) noC)
  · refine thnF (T.item (X.blk u3 J3 scope env2 fp) rfl rfl rfl calm i [] u5 _ J5 (fun _ _ => False) I5 (okf I5 free5) at5 go) fun r u6 ⟨yy, hr, h6⟩ => ?_
    subst hr
    refine thnF h6 fun _ u7 ⟨x, J7, I7, r7, y7, at7, free7⟩ => ?_
    refine thnF (g1.run _ u7 _ J7 x yy _ (I7.pinned (okf I7 free7) (T.obj _ _ at7)) r7 (body x J7 y7)) fun _ u8 ⟨τ8, J8, I8, wiped, q8⟩ => ?_
    refine thnF (g2.run _ u8 τ8 J8 _ I8 q8) fun b u9 ⟨J9, I9, q9⟩ => ?_
    have turned : ∀ {u' : Shared} {J' : Hp}, Inv (X.blk u3 J3 scope env2 fp) ([] ++ pinsAt fp u7.heap) τ8 J' u' → On J' → ∃ m, m < n ∧ ∃ i J', Inv (X.blk u3 J3 scope env2 fp) [] (wipe τ (own.map (·.2))) J' u' ∧ tn i u'.heap ∧ (∀ b ∈ fp, J' b = none) ∧ W i m J' := fun {u' J'} I' on => by
      obtain ⟨m', hm, w'⟩ := less J' on
      have held : ∀ b ∈ fp, ∀ o, u7.heap.get? b = some o → u'.heap.get? b = some o ∧ J' b = none := fun b hb o e => let z := I'.pin (b, o) (List.mem_append_right _ (List.mem_append_right _ (mem_pinsAt hb e))); ⟨z.1, z.2.1⟩
      have len : (wipe τ (own.map (·.2))).length = τ8.length := by rw [← wiped, wipe_length]
      refine ⟨m', hm, i + 1, J', (I'.unpinned (pins := [])).weak len (fun j v e => (wipe_some (wiped ▸ e)).1), T.keep _ _ _ at7 fun b hb o e => (held b hb o e).1, fun b hb => ?_, w'⟩
      obtain ⟨o, e, _⟩ := T.obj _ _ at7 b hb
      exact (held b hb o e).2
    cases b with
    | false => exact turned I9 (by simpa using q9)
    | true =>
      simp only [if_true] at q9 ⊢
      refine thnF (g3.run _ u9 τ8 J9 _ I9 q9) fun kv u10 ⟨y, J10, I10, r10, q10⟩ => ?_
      refine thnF (g4.run _ u10 τ8 J10 _ I10 q10) fun vv u11 ⟨z, J11, I11, r11, J12, put, on⟩ => ?_
      exact put_in (X := X.blk u3 J3 scope env2 fp) hu I11 put r10 r11 fun u12 I12 => turned I12 on
/-- the comprehension as a value -/
theorem pe_dcx (hu : X.A.units < cLine) (h0 : o0 = .dK [] ∨ o0 = .dT []) (calm : X.calm = true) (nod : X.N.Nodup) (hit : PI X tg iter wi) (blk : BlkOk X.N X.env.scope scope own)
    (ptg : ∀ (u : Shared) (J : Hp) (C : Addr) (c : List (Str × Addr)) (fp : List Addr), PG (Bk X scope u J C c fp) tg g)
    (pts : ∀ (u : Shared) (J : Hp) (C : Addr) (c : List (Str × Addr)) (fp : List Addr), PTs (Bk X scope u J C c fp) ifs tt)
    (pky : ∀ (u : Shared) (J : Hp) (C : Addr) (c : List (Str × Addr)) (fp : List Addr), PE (Bk X scope u J C c fp) kx tk)
    (pvl : ∀ (u : Shared) (J : Hp) (C : Addr) (c : List (Str × Addr)) (fp : List Addr), PE (Bk X scope u J C c fp) vx tv) (fold : ∀ x, foldedSetIterable iter X.env x = pure x := by intro _; rfl) :
    PE X (.DictComp kx vx [⟨tg, iter, ifs, 0⟩] scope pos) (tDcx o0 wi g tt tk tv (own.map (·.2))) := ⟨fun pins u τ J Qw I asked => by
  rw [arm_eval_DictComp]
  refine dcx_core hu h0 calm nod I hit blk ptg pts pky pvl fold asked fun N C u' m J' I' q hn f => ⟨m, hn, fun hp but => ?_⟩
  obtain ⟨f0, f1, f2, f3, f4, f5⟩ := f
  exact ⟨.ref N, J', I'.turned (t' := u'.toks) (fun b o hb e => (but.2 b hb).trans e) f0 f1 f3 f4 f5, rfl, q⟩⟩
end
structure DSort (κ : Type) [DecidableEq κ] where
  kf : D → Option κ
  ho : List (κ × V) → HO
  ce : List (κ × D) → Cell
structure DSort.Ok {κ : Type} [DecidableEq κ] (s : DSort κ) : Prop where
  nil : s.ho [] = .dK [] ∨ s.ho [] = .dT []
  live : ∀ kvs, (s.ce kvs).live = true
  rep : ∀ (Γ : Gm) (α : List Addr) (G : Hp) (p : Addr) kvs ws, RepKV Γ α G kvs ws → RepC Γ α G p (s.ce kvs) (s.ho ws)
  ntup : ∀ ws xs, s.ho ws ≠ .tup xs
  put : ∀ (Γ : Gm) (α : List Addr) (G H : Hp) (S : Store) (d : D) k (y : V) (p : Addr) ws (z : V), Rl Γ α G S H → s.kf d = some k → Rep Γ α G d y → H p = some (s.ho ws) → ws.length < sizeLine → DPut H p y z (upd H p (s.ho (putK ws k z)))
def sortK : DSort Key := ⟨keyD, .dK, .dk false⟩
def sortT : DSort (List Key) := ⟨tkeyD, .dT, .dt false⟩
theorem sortK_ok : sortK.Ok := ⟨.inl rfl, fun _ => rfl, fun _ _ _ _ _ ws r => ⟨ws, r, .inl ⟨rfl, rfl⟩⟩, (fun _ _ z => nomatch z), fun _ _ _ _ _ _ _ _ _ _ _ _ hk r hp hl => by
  have := keyD_rep hk r
  subst this
  exact DPut.k hp hl⟩
theorem sortT_ok : sortT.Ok := ⟨.inr rfl, fun _ => rfl, fun _ _ _ _ _ ws r => ⟨ws, r, .inl ⟨rfl, rfl⟩⟩, (fun _ _ z => nomatch z), fun _ _ _ _ _ _ _ _ _ _ _ R hk r hp hl => by
  obtain ⟨b, rfl, hb⟩ := tkey_at R hk r
  exact DPut.t hp hb hl⟩
section
variable {κ : Type} [DecidableEq κ]
def dcL (s : DSort κ) (g : MG) (t : MT) (mk mv : ME) (ρ0 : Env) : List D → List (κ × D) → Store → Res (List (κ × D))
  | [], acc, S => .ok acc S
  | d :: ds, acc, S => (g d ρ0 S).bind fun ρ1 S1 => (t ρ1 S1).bind fun b S2 => match b with
    | true => (mk ρ1 S2).bind fun k S3 => (mv ρ1 S3).bind fun v S4 => match s.kf k with
      | some key => dcL s g t mk mv ρ0 ds (putD acc key v) S4
      | none => .no
    | false => dcL s g t mk mv ρ0 ds acc S2
/-- {k: v for g in mi if t}: a new cell -/
def mDc (s : DSort κ) (mi : MA) (g : MG) (t : MT) (mk mv : ME) (vs : List Nat) : ME := fun ρ S => (mi ρ S).bind fun ds S1 => if ds.length ≤ 100000 then (dcL s g t mk mv (wp ρ vs) ds [] S1).bind fun kvs S2 => .ok (.ref S2.length) (S2 ++ [s.ce kvs]) else .no
theorem putD_len (kvs : List (κ × D)) (k : κ) (d : D) : (putD kvs k d).length ≤ kvs.length + 1 := by
  unfold putD
  split <;> simp
structure MidX (Γ : Gm) (α1 : List Addr) (G1 H1 : Hp) (p : Addr) (α : List Addr) (G : Hp) (S : Store) (H : Hp) (o : HO) : Prop where
  ext : Ext α1 G1 H1 α G H
  rl : Rl Γ α G S H
  at_ : H p = some o
  na : p ∉ α
  ng : G p = none
variable {Γ : Gm} {α1 α α' : List Addr} {G1 H1 G H G' H' : Hp} {p : Addr} {S S' : Store} {o o' : HO}
theorem MidX.step (M : MidX Γ α1 G1 H1 p α G S H o) (nt : ∀ xs, o ≠ .tup xs) (e : Ext α G H α' G' H') (R : Rl Γ α' G' S' H') : MidX Γ α1 G1 H1 p α' G' S' H' o :=
  let ⟨w1, w2, w3⟩ := e.aside (Γ := Γ) (S := S) M.at_ M.na M.ng nt
  ⟨M.ext.trans e, R, w1, w2, w3⟩
theorem MidX.push (M : MidX Γ α1 G1 H1 p α G S H o) (hp : H1 p = none) (o' : HO) : MidX Γ α1 G1 H1 p α G S (upd H p o') o' :=
  ⟨M.ext.patch hp _, M.rl.patch M.na M.ng _, upd_same, M.na, M.ng⟩
def PostX (s : DSort κ) (Γ : Gm) (E : XK) (α1 : List Addr) (G1 H1 : Hp) (p : Addr) (r : Res (List (κ × D))) (Q : VK) : Prop := match r with
  | .ok kvs S' => ∀ α G H ws, MidX Γ α1 G1 H1 p α G S' H (s.ho ws) → RepKV Γ α G kvs ws → Q (.ref p) H
  | .ex e S' => ∀ α G H c x, Ext α1 G1 H1 α G H → Rl Γ α G S' H → ExR Γ α G e c x H → E c x H
  | .no => False
variable {E : XK} {wi : TI} {mi : MA} {g : TG} {mg : MG} {js vs : List Nat} {tt : TT} {mt : MT} {tk tv : TE} {mk mv : ME} {s : DSort κ}
theorem snd_dc (ok : s.Ok) (hi : SndI Γ E wi mi) (hg : SndG Γ E g mg js) (ht : SndT Γ E tt mt) (hk : SndE Γ E tk mk) (hv : SndE Γ E tv mv) (hj : ∀ j ∈ js, j ∈ vs) : SndE Γ E (tDcx (s.ho []) wi g tt tk tv vs) (mDc s mi mg mt mk mv vs) := fun ρ S σ α G H Qw hρ hR hp => by
  refine hi ρ S σ α G H _ hρ hR ?_
  unfold mDc at hp
  cases q : mi ρ S with
  | no => rw [q] at hp; exact hp
  | ex e S' => rw [q] at hp; exact hp
  | ok ds S1 =>
    rw [q] at hp
    intro α1 G1 H1 J e1 R1 st p hp0
    have hp := (show Post Γ (Rep Γ) α G H (if ds.length ≤ 100000 then _ else _) Qw E from hp)
    split at hp
    case isFalse => exact hp.elim
    rename_i hl
    have hp1 := Post.mono hp e1
    have hpa : p ∉ α1 := fun z => R1.tr p z hp0
    have hpg : G1 p = none := R1.gnone hp0
    have hq : PostX s Γ E α1 G1 H1 p (dcL s mg mt mk mv (wp ρ vs) ds [] S1) Qw := by
      revert hp1
      cases dcL s mg mt mk mv (wp ρ vs) ds [] S1 with
      | no => exact fun h => h
      | ex e S' => exact fun h => h
      | ok kvs S2 =>
        intro hp1 α2 G2 H2 ws M r
        obtain ⟨R3, r3⟩ := M.rl.adopt (c0 := s.ce kvs) M.at_ M.na M.ng (ok.live kvs) (ok.rep _ _ _ _ _ _ r)
        exact hp1 _ _ H2 (.ref p) (M.ext.adopt hp0) R3 r3
    refine ⟨fun i k H => k = ds.length - i ∧ i ≤ ds.length ∧ ∃ S2 α2 G2 acc ws, MidX Γ α1 G1 H1 p α2 G2 S2 H (s.ho ws) ∧ RepKV Γ α2 G2 acc ws ∧ acc.length ≤ i ∧ PostX s Γ E α1 G1 H1 p (dcL s mg mt mk mv (wp ρ vs) (ds.drop i) acc S2) Qw,
      ⟨ds.length, by simp, Nat.zero_le _, S1, α1, G1, [], [], ⟨(Ext.refl _ _ _).patch hp0 _, R1.patch hpa hpg _, upd_same, hpa, hpg⟩, by simp [RepKV], Nat.le_refl _, by simpa using hq⟩, ?_⟩
    rintro i k H2 ⟨rfl, hle, S2, α2, G2, acc, ws, M2, r2, ha2, hq2⟩
    obtain ⟨stop, go⟩ := st i α2 G2 H2 S2 M2.ext.pre M2.ext.sub M2.rl
    by_cases hlt : i < ds.length
    · have hd : ds[i]? = some ds[i] := List.getElem?_eq_getElem hlt
      obtain ⟨hgo, hy⟩ := go _ hd
      refine .inr ⟨hgo, fun H' => ∃ S2 α2 G2 acc ws, MidX Γ α1 G1 H1 p α2 G2 S2 H' (s.ho ws) ∧ RepKV Γ α2 G2 acc ws ∧ acc.length ≤ i + 1 ∧ PostX s Γ E α1 G1 H1 p (dcL s mg mt mk mv (wp ρ vs) (ds.drop (i + 1)) acc S2) Qw, fun H' z => ⟨ds.length - (i + 1), by omega, rfl, hlt, z⟩, fun x H3 y3 => ?_⟩
      obtain ⟨G3, R3, e3, rx⟩ := hy x H3 y3
      have M3 := M2.step (ok.ntup _) e3 R3
      rw [List.drop_eq_getElem_cons hlt] at hq2
      simp only [dcL] at hq2
      have hρ3 : EnvR Γ α2 G3 (wp ρ vs) (wipe σ vs) := by
        have := (hρ.mono e1).mono (M3.ext)
        exact this.wp vs
      refine hg ds[i] (wp ρ vs) S2 (wipe σ vs) α2 G3 H3 x _ hρ3 R3 rx ?_
      cases q4 : mg ds[i] (wp ρ vs) S2 with
      | no => rw [q4] at hq2; exact hq2.elim
      | ex e' S' =>
        rw [q4] at hq2
        exact fun α' G' H' c x e R r => hq2 α' G' H' c x (M3.ext.trans e) R r
      | ok ρ4 S4 =>
        rw [q4] at hq2
        dsimp only [Res.bind] at hq2
        intro α4 G4 H4 σ4 e4 R4 r4 ⟨l4, o4⟩
        have M4 := M3.step (ok.ntup _) e4 R4
        refine ⟨wipe_same l4 o4 hj, ?_⟩
        refine ht ρ4 S4 σ4 α4 G4 H4 _ r4 R4 ?_
        cases q5 : mt ρ4 S4 with
        | no => rw [q5] at hq2; exact hq2.elim
        | ex e' S' =>
          rw [q5] at hq2
          exact fun α' G' H' c x e R r => hq2 α' G' H' c x (M4.ext.trans e) R r
        | ok b S5 =>
          rw [q5] at hq2
          dsimp only [Res.bind] at hq2
          intro α5 G5 H5 b' e5 R5 rb
          have rb : b = b' := rb
          subst rb
          have M5 := M4.step (ok.ntup _) e5 R5
          have r5 : RepKV Γ α5 G5 acc ws := ((r2.mono e3.pre e3.sub).mono e4.pre e4.sub).mono e5.pre e5.sub
          cases b with
          | false => exact iteF ⟨S5, α5, G5, acc, ws, M5, r5, by omega, hq2⟩
          | true =>
            refine iteT (hk ρ4 S5 σ4 α5 G5 H5 _ (r4.mono e5) R5 ?_)
            cases q6 : mk ρ4 S5 with
            | no => rw [q6] at hq2; exact hq2.elim
            | ex e' S' =>
              rw [q6] at hq2
              exact fun α' G' H' c x e R r => hq2 α' G' H' c x (M5.ext.trans e) R r
            | ok kd S6 =>
              rw [q6] at hq2
              dsimp only [Res.bind] at hq2
              intro α6 G6 H6 y e6 R6 ry
              have M6 := M5.step (ok.ntup _) e6 R6
              refine hv ρ4 S6 σ4 α6 G6 H6 _ ((r4.mono e5).mono e6) R6 ?_
              cases q7 : mv ρ4 S6 with
              | no => rw [q7] at hq2; exact hq2.elim
              | ex e' S' =>
                rw [q7] at hq2
                exact fun α' G' H' c x e R r => hq2 α' G' H' c x (M6.ext.trans e) R r
              | ok vd S7 =>
                rw [q7] at hq2
                dsimp only [Res.bind] at hq2
                intro α7 G7 H7 z e7 R7 rz
                have M7 := M6.step (ok.ntup _) e7 R7
                cases hkf : s.kf kd with
                | none => rw [hkf] at hq2; exact hq2.elim
                | some key =>
                  rw [hkf] at hq2
                  have r7 : RepKV Γ α7 G7 acc ws := (r5.mono e6.pre e6.sub).mono e7.pre e7.sub
                  have hwl : ws.length < sizeLine := by
                    rw [← r7.length]
                    exact Nat.lt_of_le_of_lt (by omega : acc.length ≤ 100000) (by decide)
                  refine ⟨_, ok.put _ _ _ _ _ _ key y p ws z R7 hkf (Rep.mono e7.pre e7.sub _ _ ry) M7.at_ hwl, S7, α7, G7, putD acc key vd, putK ws key z, M7.push hp0 _, r7.put rz, ?_, hq2⟩
                  exact Nat.le_trans (putD_len acc key vd) (by omega)
    · refine .inl ⟨stop (by omega), ?_⟩
      rw [List.drop_of_length_le (by omega)] at hq2
      exact hq2 α2 G2 H2 ws M2 r2
end
section
variable {X : Cx} {cl : Nat → Addr} {E : XK} {κ : Type} [DecidableEq κ] {s : DSort κ} {kx vx tg iter : Expr} {ifs : List Expr} {scope : Scope} {pos : Pos} {mi : MA} {mg : MG} {mt : MT} {mk mv : ME} {js : List Nat}
theorem q_dc (ok : s.Ok) (own : List (Str × Nat)) (hu : X.A.units + 1 < cLine) (hi : QI X cl E tg iter mi) (hN : X.N.Nodup) (blk : BlkOk X.N X.env.scope scope own)
    (hg : ∀ (u : Shared) (J : Hp) (C : Addr) (c : List (Str × Addr)) (fp : List Addr), QG (Bk X scope u J C c fp) cl E tg mg js)
    (ht : ∀ (u : Shared) (J : Hp) (C : Addr) (c : List (Str × Addr)) (fp : List Addr), PTs (Bk X scope u J C c fp) ifs (tT ⟨X.K, cl⟩ E mt))
    (hk : ∀ (u : Shared) (J : Hp) (C : Addr) (c : List (Str × Addr)) (fp : List Addr), QE (Bk X scope u J C c fp) cl E kx mk)
    (hv : ∀ (u : Shared) (J : Hp) (C : Addr) (c : List (Str × Addr)) (fp : List Addr), QE (Bk X scope u J C c fp) cl E vx mv)
    (hj : ∀ j ∈ js, j ∈ own.map (·.2) := by decide) (hc : X.calm = true := by rfl) (hs : ∀ x, foldedSetIterable iter X.env x = pure x := by intro _; rfl) :
    QE X cl E (.DictComp kx vx [⟨tg, iter, ifs, 0⟩] scope pos) (mDc s mi mg mt mk mv (own.map (·.2))) := by
  obtain ⟨wi, h1, h2⟩ := hi.ex
  exact ⟨_, pe_dcx (Nat.lt_of_succ_lt hu) ok.nil hc hN h1 blk (fun s H C c fp => (hg s H C c fp).can) ht (fun s H C c fp => (hk s H C c fp).can) (fun s H C c fp => (hv s H C c fp).can) hs, snd_dc (Γ := ⟨X.K, cl⟩) ok h2 snd_tG snd_tT snd_tE snd_tE hj⟩
end
end Q
namespace Q
open PySem L2
def RPair : List Addr → Hp → Int × Int → Int × Int → Prop := fun _ _ a b => a = b
abbrev MRg := Env → Store → Res (Int × Int)
structure QRg (X : Cx) (cl : Nat → Addr) (E : XK) (e : Expr) (m : MRg) : Prop where
  ex : ∃ t, PRg X e t ∧ ∀ (ρ : Env) (S : Store) (σ : L2.St) (α : List Addr) (G H : Hp) (R : Int → Int → Hp → Prop), EnvR ⟨X.K, cl⟩ α G ρ σ → Rl ⟨X.K, cl⟩ α G S H → Post ⟨X.K, cl⟩ RPair α G H (m ρ S) (fun p H' => R p.1 p.2 H') E → t σ H R
def rgK1 (d : D) (S : Store) : Res (Int × Int) := match d with
  | .int n => .ok (0, n) S
  | _ => .no
def mRg1 (m : ME) : MRg := fun ρ S => (m ρ S).bind rgK1
def rgK2 (d d' : D) (S : Store) : Res (Int × Int) := match d, d' with
  | .int i, .int j => .ok (i, j) S
  | _, _ => .no
def mRg2 (m m' : ME) : MRg := fun ρ S => (m ρ S).bind fun d S1 => (m' ρ S1).bind fun d' S2 => rgK2 d d' S2
section
variable {X : Cx} {cl : Nat → Addr} {E : XK} {a b e : Expr} {ma mb : ME} {r : MRg}
theorem qrg_1 {p pos : Pos} (h : QE X cl E a ma) (hg : Gl X "range") (hm : X.mg "range" = none) (na : starEach [a] X.env = (false, eval a X.env) :: starEach [] X.env := by rfl) : QRg X cl E (.Call (.Name "range" p) [a] [] pos) (mRg1 ma) := by
  obtain ⟨t, h1, h2⟩ := h.ex
  refine ⟨_, prg_1 hg hm h1 na, fun ρ S σ α G H R hρ hR hp => h2 ρ S σ α G H _ hρ hR (post_bind hp fun d S1 α1 G1 H1 v _ e1 R1 r1 hp1 => ?_)⟩
  cases d <;> try exact hp1.elim
  rename_i n _
  simp only [Rep] at r1
  subst r1
  exact ⟨n, rfl, post_ok (x := (0, n)) hp1 R1 rfl⟩
theorem qrg_2 {p pos : Pos} (h : QE X cl E a ma) (h' : QE X cl E b mb) (hg : Gl X "range") (hm : X.mg "range" = none) (na : starEach [a, b] X.env = (false, eval a X.env) :: starEach [b] X.env := by rfl)
    (nb : starEach [b] X.env = (false, eval b X.env) :: starEach [] X.env := by rfl) (hp : (backTo pos (starEach [b] X.env)).any (·.1) = false := by rfl) : QRg X cl E (.Call (.Name "range" p) [a, b] [] pos) (mRg2 ma mb) := by
  obtain ⟨t, h1, h2⟩ := h.ex
  obtain ⟨u, k1, k2⟩ := h'.ex
  refine ⟨_, prg_2 hg hm h1 k1 na nb hp, fun ρ S σ α G H R hρ hR hp => h2 ρ S σ α G H _ hρ hR (post_bind hp fun d S1 α1 G1 H1 v _ e1 R1 r1 hp1 => k2 ρ S1 σ α1 G1 H1 _ (hρ.mono e1) R1 (post_bind hp1 fun d' S2 α2 G2 H2 w _ e2 R2 r2 hp2 => ?_))⟩
  cases d <;> cases d' <;> try exact hp2.elim
  rename_i i _ j _
  simp only [Rep] at r1 r2
  subst r1 r2
  exact ⟨i, j, rfl, rfl, post_ok (x := (i, j)) hp2 R2 rfl⟩
def rgOk (p : Int × Int) : Bool := decide (p.1.natAbs < 2 ^ 40) && decide (p.2.natAbs < 2 ^ 40) && decide ((p.2 - p.1).toNat ≤ 100000)
theorem rgOk_at {p : Int × Int} (h : rgOk p = true) : RgOk p.1 p.2 := by
  unfold rgOk at h
  simp only [Bool.and_eq_true, decide_eq_true_eq] at h
  exact ⟨by omega, by omega, by omega, by omega, by omega⟩
def rgD (p : Int × Int) : List D := rangeD p.1 (p.2 - p.1).toNat
theorem rg_rep {Γ : Gm} {α : List Addr} {G : Hp} (p : Int × Int) : RepL Γ α G (rgD p) (rgV p.1 p.2) := by
  unfold rgD rangeD rgV
  induction (p.2 - p.1).toNat with
  | zero => simp [RepL]
  | succ n ih =>
    rw [List.range_succ, List.map_append, List.map_append]
    exact ih.append (by simp [RepL, Rep])
def lstRgK (p : Int × Int) (S : Store) : Res D := if rgOk p then .ok (.lst (rgD p)) S else .no
def celRgK (p : Int × Int) (S : Store) : Res D := if rgOk p then .ok (.ref S.length) (S ++ [.lst (rgD p)]) else .no
def tupRgK (p : Int × Int) (S : Store) : Res D := if rgOk p then .ok (.tup (rgD p)) S else .no
def mLstRg (r : MRg) : ME := fun ρ S => (r ρ S).bind lstRgK
def mCelRg (r : MRg) : ME := fun ρ S => (r ρ S).bind celRgK
def mTupRg (r : MRg) : ME := fun ρ S => (r ρ S).bind tupRgK
theorem q_lstRg {p pos : Pos} (h : QRg X cl E e r) (hg : Gl X "list") (hm : X.mg "list" = none) (hc : X.calm = true := by rfl) (na : starEach [e] X.env = (false, eval e X.env) :: starEach [] X.env := by rfl) : QE X cl E (.Call (.Name "list" p) [e] [] pos) (mLstRg r) := by
  obtain ⟨t, h1, h2⟩ := h.ex
  refine ⟨_, pe_listRg hc hg hm h1 na, fun ρ S σ α G H Q hρ hR hp => h2 ρ S σ α G H _ hρ hR (post_bind hp fun d S1 α1 G1 H1 v _ e1 R1 r1 hp1 => ?_)⟩
  have r1 : d = v := r1
  subst r1
  unfold lstRgK at hp1
  split at hp1
  · rename_i hk
    exact ⟨rgOk_at hk, fun q hq => post_lst R1 (rg_rep d) hp1 hq⟩
  · exact hp1.elim
theorem q_celRg {p pos : Pos} (h : QRg X cl E e r) (hg : Gl X "list") (hm : X.mg "list" = none) (hc : X.calm = true := by rfl) (na : starEach [e] X.env = (false, eval e X.env) :: starEach [] X.env := by rfl) : QE X cl E (.Call (.Name "list" p) [e] [] pos) (mCelRg r) := by
  obtain ⟨t, h1, h2⟩ := h.ex
  refine ⟨_, pe_listRg hc hg hm h1 na, fun ρ S σ α G H Q hρ hR hp => h2 ρ S σ α G H _ hρ hR (post_bind hp fun d S1 α1 G1 H1 v _ e1 R1 r1 hp1 => ?_)⟩
  have r1 : d = v := r1
  subst r1
  unfold celRgK at hp1
  split at hp1
  · rename_i hk
    exact ⟨rgOk_at hk, fun q hq => post_cell R1 (rg_rep d) hp1 hq⟩
  · exact hp1.elim
theorem q_tupRg {p pos : Pos} (h : QRg X cl E e r) (hg : Gl X "tuple") (hm : X.mg "tuple" = none) (hc : X.calm = true := by rfl) (na : starEach [e] X.env = (false, eval e X.env) :: starEach [] X.env := by rfl) : QE X cl E (.Call (.Name "tuple" p) [e] [] pos) (mTupRg r) := by
  obtain ⟨t, h1, h2⟩ := h.ex
  refine ⟨_, pe_tupRg hc hg hm h1 na, fun ρ S σ α G H Q hρ hR hp => h2 ρ S σ α G H _ hρ hR (post_bind hp fun d S1 α1 G1 H1 v _ e1 R1 r1 hp1 => ?_)⟩
  have r1 : d = v := r1
  subst r1
  unfold tupRgK at hp1
  split at hp1
  · rename_i hk
    exact ⟨rgOk_at hk, fun q hq => post_tup R1 (rg_rep d) hp1 hq⟩
  · exact hp1.elim
end
section
variable {S : Store} {ρ : Env}
@[simp] theorem ap_fldR (c i : Nat) (m : ME) : mFldR c i m ρ S = (m ρ S).bind (fldR c i) := (Eq.refl _).trans rfl
theorem fldR_ok {c i k : Nat} {fs : List (Option D)} {x : D} (h : S[k]? = some (.ob c fs)) (hx : fs[i]? = some (some x)) : fldR c i (.ref k) S = .ok x S := by simp [fldR, obOf_ref h, hx]
def gFldK1 (c i : Nat) (d : D) (ρ : Env) (o : D) (S : Store) : Res Env := (setFld c i o d S).bind fun _ S2 => .ok ρ S2
@[simp] theorem ap_gfld (c i : Nat) (mo : ME) (d : D) : mgFld c i mo d ρ S = (mo ρ S).bind (gFldK1 c i d ρ) := (Eq.refl _).trans rfl
theorem gFld_ok {c i k : Nat} {fs : List (Option D)} {d : D} (h : S[k]? = some (.ob c fs)) : gFldK1 c i d ρ (.ref k) S = .ok ρ (S.set k (.ob c (putO i d fs))) := by simp [gFldK1, setFld, obOf_ref h]
def methRK2 (g : List D → Store → Res D) (d : D) (ds : List D) (S : Store) : Res D := g (d :: ds) S
@[simp] theorem methRK2_ap (g : List D → Store → Res D) (d : D) (ds : List D) : methRK2 g d ds S = g (d :: ds) S := (Eq.refl _).trans rfl
def methRK (c : Nat) (g : List D → Store → Res D) (n : MA) (ρ : Env) (d : D) (S : Store) : Res D := match obOf S c d with
  | some _ => (n ρ S).bind (methRK2 g d)
  | none => .no
@[simp] theorem ap_methR (c : Nat) (g : List D → Store → Res D) (m : ME) (n : MA) : mMethR c g m n ρ S = (m ρ S).bind (methRK c g n ρ) := (Eq.refl _).trans rfl
theorem methRK_ok {c k : Nat} {g : List D → Store → Res D} {n : MA} {fs : List (Option D)} (h : S[k]? = some (.ob c fs)) : methRK c g n ρ (.ref k) S = (n ρ S).bind (methRK2 g (.ref k)) := by simp [methRK, obOf_ref h]
def makeRK2 (r : D) : Res D → Res D
  | .ok .non S2 => .ok r S2
  | _ => .no
def makeRK (c : Nat) (f : List D → Store → Res D) (ds : List D) (S : Store) : Res D := makeRK2 (.ref S.length) (f (.ref S.length :: ds) (S ++ [.ob c []]))
@[simp] theorem makeRK2_ok (r : D) (T : Store) : makeRK2 r (.ok .non T) = .ok r T := (Eq.refl _).trans rfl
@[simp] theorem ap_makeR (c : Nat) (f : List D → Store → Res D) (n : MA) : mMakeR c f n ρ S = (n ρ S).bind (makeRK c f) := by
  unfold mMakeR
  congr 1
def dGetK1 (mi : ME) (ρ : Env) (d : D) (S : Store) : Res D := (mi ρ S).bind (dgetK d)
@[simp] theorem dGetK1_ap (mi : ME) (d : D) : dGetK1 mi ρ d S = (mi ρ S).bind (dgetK d) := (Eq.refl _).trans rfl
@[simp] theorem ap_dget (mo mi : ME) : mDGet mo mi ρ S = (mo ρ S).bind (dGetK1 mi ρ) := (Eq.refl _).trans rfl
def dInK1 (mo : ME) (ρ : Env) (y : D) (S : Store) : Res D := (mo ρ S).bind (dinK y)
@[simp] theorem dInK1_ap (mo : ME) (y : D) : dInK1 mo ρ y S = (mo ρ S).bind (dinK y) := (Eq.refl _).trans rfl
@[simp] theorem ap_din (mi mo : ME) : mDIn mi mo ρ S = (mi ρ S).bind (dInK1 mo ρ) := (Eq.refl _).trans rfl
def dNinK1 (mo : ME) (ρ : Env) (y : D) (S : Store) : Res D := (mo ρ S).bind (dninK y)
@[simp] theorem dNinK1_ap (mo : ME) (y : D) : dNinK1 mo ρ y S = (mo ρ S).bind (dninK y) := (Eq.refl _).trans rfl
@[simp] theorem ap_dnin (mi mo : ME) : mDNin mi mo ρ S = (mi ρ S).bind (dNinK1 mo ρ) := (Eq.refl _).trans rfl
theorem dgetD_k {k : Nat} {l : Bool} {kvs : List (Key × D)} {i : Int} (h : S[k]? = some (.dk l kvs)) : dgetD S (.ref k) (.int i) = some (valD kvs (.inl i)) := by simp [dgetD, h, keyD]
theorem dgetD_t {k : Nat} {l : Bool} {kvs : List (List Key × D)} {d : D} {key : List Key} (h : S[k]? = some (.dt l kvs)) (hk : tkeyD d = some key) : dgetD S (.ref k) d = some (valD kvs key) := by simp [dgetD, h, hk]
theorem dgetK_of {d y x : D} (h : dgetD S d y = some (some x)) : dgetK d y S = .ok x S := by simp [dgetK, h]
theorem dinK_of {d y : D} {o : Option D} (h : dgetD S d y = some o) : dinK y d S = .ok (.bl o.isSome) S := by simp [dinK, h]
theorem dninK_of {d y : D} {o : Option D} (h : dgetD S d y = some o) : dninK y d S = .ok (.bl (!o.isSome)) S := by simp [dninK, h]
def gDSubK2 (o d : D) (ρ : Env) (i : D) (S : Store) : Res Env := (dputK o i d S).bind fun _ S3 => .ok ρ S3
def gDSubK1 (mi : ME) (d : D) (ρ : Env) (o : D) (S : Store) : Res Env := (mi ρ S).bind (gDSubK2 o d ρ)
@[simp] theorem gDSubK1_ap (mi : ME) (d o : D) : gDSubK1 mi d ρ o S = (mi ρ S).bind (gDSubK2 o d ρ) := (Eq.refl _).trans rfl
@[simp] theorem ap_gdsub (mo mi : ME) (d : D) : mgDSub mo mi d ρ S = (mo ρ S).bind (gDSubK1 mi d ρ) := (Eq.refl _).trans rfl
theorem gDSub_of {o i d : D} {S' : Store} (h : dputD S o i d = some S') : gDSubK2 o d ρ i S = .ok ρ S' := by simp [gDSubK2, dputK, h]
theorem dputD_k {k : Nat} {kvs : List (Key × D)} {i : Int} {d : D} (h : S[k]? = some (.dk false kvs)) (hl : kvs.length ≤ 100000) : dputD S (.ref k) (.int i) d = some (S.set k (.dk false (putD kvs (.inl i) d))) := by simp [dputD, h, keyD, hl]
theorem dputD_t {k : Nat} {kvs : List (List Key × D)} {i d : D} {key : List Key} (h : S[k]? = some (.dt false kvs)) (hk : tkeyD i = some key) (hl : kvs.length ≤ 100000) : dputD S (.ref k) i d = some (S.set k (.dt false (putD kvs key d))) := by simp [dputD, h, hk, hl]
@[simp] theorem ap_dnewK : mDNewK ρ S = .ok (.ref S.length) (S ++ [.dk false []]) := (Eq.refl _).trans rfl
@[simp] theorem ap_dnewT : mDNewT ρ S = .ok (.ref S.length) (S ++ [.dt false []]) := (Eq.refl _).trans rfl
def disp1K1 (mv : ME) (ρ : Env) (k : D) (S : Store) : Res D := (mv ρ S).bind (disp1K k)
@[simp] theorem disp1K1_ap (mv : ME) (k : D) : disp1K1 mv ρ k S = (mv ρ S).bind (disp1K k) := (Eq.refl _).trans rfl
@[simp] theorem ap_disp1 (mk mv : ME) : mDDisp1 mk mv ρ S = (mk ρ S).bind (disp1K1 mv ρ) := (Eq.refl _).trans rfl
@[simp] theorem disp1K_int (i : Int) (v : D) : disp1K (.int i) v S = .ok (.ref S.length) (S ++ [.dk false [(.inl i, v)]]) := (Eq.refl _).trans rfl
@[simp] theorem ap_keys (m : ME) : mKeys m ρ S = (m ρ S).bind keysOf := (Eq.refl _).trans rfl
theorem keysOf_k {k : Nat} {kvs : List (Key × D)} (h : S[k]? = some (.dk true kvs)) : keysOf (.ref k) S = .ok (kvs.map fun p => dKey p.1) S := by simp [keysOf, h]
theorem keysOf_t {k : Nat} {kvs : List (List Key × D)} (h : S[k]? = some (.dt true kvs)) : keysOf (.ref k) S = .ok (kvs.map fun p => .tup (p.1.map dKey)) S := by simp [keysOf, h]
def unlK {β : Type} (k : Nat) (d : β) (S : Store) : Res β := match (S[k]?).bind unlockC with
  | some c2 => .ok d (S.set k c2)
  | none => .no
theorem lockE_ok {md m : ME} {k : Nat} {T : Store} {c c1 : Cell} (h : md ρ S = .ok (.ref k) T) (hk : S[k]? = some c) (hc : lockC c = some c1) : mLockE md m ρ S = (m ρ (S.set k c1)).bind (unlK k) := by
  unfold mLockE lockAt
  simp only [h, hk, Option.bind_some, hc]
  rfl
theorem lockS_ok {md : ME} {n : MS} {k : Nat} {T : Store} {c c1 : Cell} (h : md ρ S = .ok (.ref k) T) (hk : S[k]? = some c) (hc : lockC c = some c1) : mLockS md n ρ S = (n ρ (S.set k c1)).bind (unlK k) := by
  unfold mLockS lockAt
  simp only [h, hk, Option.bind_some, hc]
  rfl
theorem unlK_ok {β : Type} {k : Nat} {d : β} {c c2 : Cell} (hk : S[k]? = some c) (hc : unlockC c = some c2) : unlK k d S = .ok d (S.set k c2) := by simp [unlK, hk, hc]
@[simp] theorem ap_lstRg (r : MRg) : mLstRg r ρ S = (r ρ S).bind lstRgK := (Eq.refl _).trans rfl
@[simp] theorem ap_celRg (r : MRg) : mCelRg r ρ S = (r ρ S).bind celRgK := (Eq.refl _).trans rfl
@[simp] theorem ap_tupRg (r : MRg) : mTupRg r ρ S = (r ρ S).bind tupRgK := (Eq.refl _).trans rfl
@[simp] theorem ap_rg1 (m : ME) : mRg1 m ρ S = (m ρ S).bind rgK1 := (Eq.refl _).trans rfl
@[simp] theorem rgK1_int (n : Int) : rgK1 (.int n) S = .ok (0, n) S := (Eq.refl _).trans rfl
def rgK2a (m' : ME) (ρ : Env) (d : D) (S : Store) : Res (Int × Int) := (m' ρ S).bind (rgK2 d)
@[simp] theorem rgK2a_ap (m' : ME) (d : D) : rgK2a m' ρ d S = (m' ρ S).bind (rgK2 d) := (Eq.refl _).trans rfl
@[simp] theorem ap_rg2 (m m' : ME) : mRg2 m m' ρ S = (m ρ S).bind (rgK2a m' ρ) := (Eq.refl _).trans rfl
@[simp] theorem rgK2_int (i j : Int) : rgK2 (.int i) (.int j) S = .ok (i, j) S := (Eq.refl _).trans rfl
theorem rgOk_of {i j : Int} (h1 : i.natAbs < 2 ^ 40) (h2 : j.natAbs < 2 ^ 40) (h3 : (j - i).toNat ≤ 100000) : rgOk (i, j) = true := by simp only [rgOk, h1, h2, h3, decide_true, Bool.and_self]
end
end Q
namespace Q
open PySem PySem.Spec L2 PyProof.Rows
abbrev TC := L2.St → V → Hp → VK → Prop
abbrev MC := Env → D → Store → Res D
structure PC (X : Cx) (ops : List CmpOp) (es : List Expr) (t : TC) : Prop where
  run : ∀ (pos : Pos) (pins : List (Addr × Obj)) (s : Shared) (σ : L2.St) (H : Hp) (x : V) (v : Value) (Q : VK), Inv X pins σ H s → RelV x v → t σ x H Q →
    wpAny (model X.prog X.w) X.A (compareChain pos v ops (evalEach es X.env)) (EP X pins σ Q) X.xe s
  test : ∀ (pos : Pos) (pins : List (Addr × Obj)) (s : Shared) (σ : L2.St) (H : Hp) (x : V) (v : Value) (Q : Bool → Hp → Prop), Inv X pins σ H s → RelV x v → t σ x H (fun z H' => ∃ k, z = .bl k ∧ Q k H') →
    wpAny (model X.prog X.w) X.A (testChain pos v ops (evalEach es X.env)) (TP X pins σ Q) X.xe s
def tcLast (r : R2) (te : TE) : TC := fun σ x H Q => te σ H fun y H1 => r x y H1 Q
def tcCons (r : R2) (te : TE) (t : TC) : TC := fun σ x H Q => te σ H fun y H1 => r x y H1 fun z H2 => ∃ k, z = .bl k ∧ (if k = true then t σ y H2 Q else Q (.bl false) H2)
def tcAll (ta : TE) (t : TC) : TE := fun σ H Q => ta σ H fun x H1 => t σ x H1 Q
section
variable {X : Cx} {a e e' : Expr} {es : List Expr} {op op' : CmpOp} {ops : List CmpOp} {pos : Pos} {ta te : TE} {t : TC} {r : R2}
theorem pc_last (ho : OpR X (compareOp op) r) (he : PE X e te) : PC X [op] [e] (tcLast r te) :=
  ⟨fun pos pins s σ H x v Q I rv h => chain_last (thn (he.run pins s σ H _ I h) fun w s1 ⟨y, H1, I1, r1, q1⟩ => ho pins s1 σ H1 x y v w Q I1 rv r1 q1),
   fun pos pins s σ H x v Q I rv h => test_last (thn (he.run pins s σ H _ I h) fun w s1 ⟨y, H1, I1, r1, q1⟩ => thn (ho pins s1 σ H1 x y v w _ I1 rv r1 q1) fun c s2 ⟨z, H2, I2, r2, k, e, q2⟩ => by
     subst e
     cases r2
     exact wpAny_truthy_bool ⟨H2, I2, q2⟩)⟩
theorem pc_cons (ho : OpR X (compareOp op) r) (he : PE X e te) (ht : PC X (op' :: ops) (e' :: es) t) : PC X (op :: op' :: ops) (e :: e' :: es) (tcCons r te t) :=
  ⟨fun pos pins s σ H x v Q I rv h => chain_link (thn (he.run pins s σ H _ I h) fun w s1 ⟨y, H1, I1, r1, q1⟩ => thn (ho pins s1 σ H1 x y v w _ I1 rv r1 q1) fun c s2 ⟨z, H2, I2, r2, k, e, q2⟩ => by
     subst e
     cases r2
     refine wpAny_truthy_bool ?_
     cases k with
     | false => exact ite_ff ⟨.bl false, H2, I2, rfl, q2⟩
     | true => exact ite_tt (ht.run pos pins s2 σ H2 y w Q I2 r1 q2)),
   fun pos pins s σ H x v Q I rv h => test_link (thn (he.run pins s σ H _ I h) fun w s1 ⟨y, H1, I1, r1, q1⟩ => thn (ho pins s1 σ H1 x y v w _ I1 rv r1 q1) fun c s2 ⟨z, H2, I2, r2, k, e, q2⟩ => by
     subst e
     cases r2
     refine wpAny_truthy_bool ?_
     cases k with
     | false =>
       obtain ⟨k', e', q'⟩ := q2
       cases e'
       exact ite_ff ⟨H2, I2, q'⟩
     | true => exact ite_tt (ht.test pos pins s2 σ H2 y w Q I2 r1 q2))⟩
theorem pe_chainN {e2 : Expr} {op2 : CmpOp} (ha : PE X a ta) (ht : PC X (op :: op2 :: ops) (e :: e2 :: es) t) (hm : lastMarks (op :: op2 :: ops) (e :: e2 :: es) = false) : PE X (.Compare a (op :: op2 :: ops) (e :: e2 :: es) pos) (tcAll ta t) :=
  ⟨fun pins s σ H Q I h => Compare_chain (thn (ha.run pins s σ H _ I h) fun v s1 ⟨x, H1, I1, r1, q1⟩ => ht.run pos pins s1 σ H1 x v Q I1 r1 q1) hm⟩
theorem pt_chainN {e2 : Expr} {op2 : CmpOp} (ha : PE X a ta) (ht : PC X (op :: op2 :: ops) (e :: e2 :: es) t) (hm : lastMarks (op :: op2 :: ops) (e :: e2 :: es) = false) : PT X (.Compare a (op :: op2 :: ops) (e :: e2 :: es) pos) (tTest (tcAll ta t)) :=
  ⟨fun pins s σ H Q I h => isTrue_chain (thn (ha.run pins s σ H _ I h) fun v s1 ⟨x, H1, I1, r1, q1⟩ => ht.test pos pins s1 σ H1 x v Q I1 r1 q1) hm⟩
end
def SndCh (Γ : Gm) (E : XK) (t : TC) (m : MC) : Prop := ∀ (ρ : Env) (d : D) (S : Store) (σ : L2.St) (α : List Addr) (G H : Hp) (x : V) (Q : VK), EnvR Γ α G ρ σ → Rl Γ α G S H → Rep Γ α G d x → Post Γ (Rep Γ) α G H (m ρ d S) Q E → t σ x H Q
structure QCh (X : Cx) (cl : Nat → Addr) (E : XK) (ops : List CmpOp) (es : List Expr) (m : MC) : Prop where
  ex : ∃ t, PC X ops es t ∧ SndCh ⟨X.K, cl⟩ E t m
def mcLast (f : D → D → Store → Res D) (m : ME) : MC := fun ρ x S => (m ρ S).bind fun y S1 => f x y S1
def mcCons (f : D → D → Store → Res D) (m : ME) (c : MC) : MC := fun ρ x S => (m ρ S).bind fun y S1 => (f x y S1).bind fun z S2 => match z with
  | .bl true => c ρ y S2
  | .bl false => .ok (.bl false) S2
  | _ => .no
def mChainN (ma : ME) (c : MC) : ME := fun ρ S => (ma ρ S).bind fun x S1 => c ρ x S1
section
variable {X : Cx} {cl : Nat → Addr} {E : XK} {a e e' e2 : Expr} {es : List Expr} {op op' op2 : CmpOp} {ops : List CmpOp} {pos : Pos} {ma m : ME} {c : MC} {f : D → D → Store → Res D}
theorem qc_last (ho : QR X cl E (compareOp op) f) (he : QE X cl E e m) : QCh X cl E [op] [e] (mcLast f m) := by
  obtain ⟨r, h1, h2⟩ := ho.ex
  obtain ⟨t, a1, a2⟩ := he.ex
  exact ⟨_, pc_last h1 a1, fun ρ d S σ α G H x Q hρ hR hd h => a2 ρ S σ α G H _ hρ hR (post_bind h fun y S1 α1 G1 H1 v _ e1 R1 r1 h1 =>
    h2 d y S1 α1 G1 H1 x v Q R1 (Rep.mono e1.pre e1.sub _ _ hd) r1 h1)⟩
theorem qc_cons (ho : QR X cl E (compareOp op) f) (he : QE X cl E e m) (ht : QCh X cl E (op' :: ops) (e' :: es) c) : QCh X cl E (op :: op' :: ops) (e :: e' :: es) (mcCons f m c) := by
  obtain ⟨r, h1, h2⟩ := ho.ex
  obtain ⟨t, a1, a2⟩ := he.ex
  obtain ⟨u, b1, b2⟩ := ht.ex
  exact ⟨_, pc_cons h1 a1 b1, fun ρ d S σ α G H x Q hρ hR hd h => a2 ρ S σ α G H _ hρ hR (post_bind h fun y S1 α1 G1 H1 v _ e1 R1 r1 h1 =>
    h2 d y S1 α1 G1 H1 x v _ R1 (Rep.mono e1.pre e1.sub _ _ hd) r1 (post_bind h1 fun z S2 α2 G2 H2 w _ e2 R2 r2 h2 => by
      cases z <;> try exact h2.elim
      rename_i k _
      simp only [Rep] at r2
      refine ⟨k, r2, ?_⟩
      cases k with
      | false => exact iteF (post_ok h2 R2 (by simp [Rep]))
      | true => exact iteT (b2 ρ y S2 σ α2 G2 H2 v Q ((hρ.mono e1).mono e2) R2 (Rep.mono e2.pre e2.sub _ _ r1) h2)))⟩
theorem q_chainN (ha : QE X cl E a ma) (ht : QCh X cl E (op :: op2 :: ops) (e :: e2 :: es) c) (hm : lastMarks (op :: op2 :: ops) (e :: e2 :: es) = false := by with_unfolding_all rfl) : QE X cl E (.Compare a (op :: op2 :: ops) (e :: e2 :: es) pos) (mChainN ma c) := by
  obtain ⟨t, a1, a2⟩ := ha.ex
  obtain ⟨u, b1, b2⟩ := ht.ex
  exact ⟨_, pe_chainN a1 b1 hm, fun ρ S σ α G H Q hρ hR h => a2 ρ S σ α G H _ hρ hR (post_bind h fun x S1 α1 G1 H1 v _ e1 R1 r1 h1 => b2 ρ x S1 σ α1 G1 H1 v Q (hρ.mono e1) R1 r1 h1)⟩
theorem q_tchainN (ha : QE X cl E a ma) (ht : QCh X cl E (op :: op2 :: ops) (e :: e2 :: es) c) (hm : lastMarks (op :: op2 :: ops) (e :: e2 :: es) = false := by with_unfolding_all rfl) : QT X cl E (.Compare a (op :: op2 :: ops) (e :: e2 :: es) pos) (mTB (mChainN ma c)) := by
  obtain ⟨t, a1, a2⟩ := ha.ex
  obtain ⟨u, b1, b2⟩ := ht.ex
  exact ⟨_, pt_chainN a1 b1 hm, snd_tb fun ρ S σ α G H Q hρ hR h => a2 ρ S σ α G H _ hρ hR (post_bind h fun x S1 α1 G1 H1 v _ e1 R1 r1 h1 => b2 ρ x S1 σ α1 G1 H1 v Q (hρ.mono e1) R1 r1 h1)⟩
end
section
variable {f : D → D → Store → Res D} {m ma : ME} {c : MC} {ρ : Env} {x : D} {S : Store}
@[simp] theorem ap_mcLast : mcLast f m ρ x S = (m ρ S).bind (f x) := rfl
def mcK3 (c : MC) (ρ : Env) (y z : D) (S : Store) : Res D := match z with
  | .bl true => c ρ y S
  | .bl false => .ok (.bl false) S
  | _ => .no
@[simp] theorem mcK3_t (y : D) : mcK3 c ρ y (.bl true) S = c ρ y S := rfl
@[simp] theorem mcK3_f (y : D) : mcK3 c ρ y (.bl false) S = .ok (.bl false) S := rfl
def mcK2 (f : D → D → Store → Res D) (c : MC) (ρ : Env) (x y : D) (S : Store) : Res D := (f x y S).bind (mcK3 c ρ y)
@[simp] theorem mcK2_ap (y : D) : mcK2 f c ρ x y S = (f x y S).bind (mcK3 c ρ y) := rfl
@[simp] theorem ap_mcCons : mcCons f m c ρ x S = (m ρ S).bind (mcK2 f c ρ x) := rfl
@[simp] theorem ap_chainN : mChainN ma c ρ S = (ma ρ S).bind (c ρ) := rfl
end
end Q
namespace Q
open PySem L2
def opLtT (a b : D) (S : Store) : Res D := match a, b with
  | .tup xs, .tup ys => match intsD xs, intsD ys with
    | some ns, some ms => .ok (.bl (HT.lexLt ns ms)) S
    | _, _ => .no
  | _, _ => .no
theorem ltT {X : Cx} {cl : Nat → Addr} {E : XK} (hu : X.A.units + 1 < cLine) : QR X cl E (compareOp .Lt) opLtT := ⟨_, op_ltT (by omega), fun a b S α G H x y Q R ra rb h => by
  cases a with
  | tup xs =>
    cases b with
    | tup ys =>
      unfold opLtT at h
      cases e1 : intsD xs with
      | none => simp only [e1] at h; exact h.elim
      | some ns =>
        cases e2 : intsD ys with
        | none => simp only [e1, e2] at h; exact h.elim
        | some ms =>
          simp only [e1, e2] at h
          obtain ⟨p, vs, ex, s1, q1⟩ := tup_at R ra
          obtain ⟨p2, vs2, ey, s2, q2⟩ := tup_at R rb
          rw [ints_rep q1 e1] at s1
          rw [ints_rep q2 e2] at s2
          exact ⟨p, p2, ns, ms, ex, ey, s1, s2, post_ok h R (by simp [Rep])⟩
    | _ => exact h.elim
  | _ => exact h.elim⟩
theorem opLtT_2 {a b c d : Int} {S : Store} : opLtT (.tup [.int a, .int b]) (.tup [.int c, .int d]) S = .ok (.bl (decide (a < c ∨ (a = c ∧ b < d)))) S := by
  have : HT.lexLt [a, b] [c, d] = decide (a < c ∨ (a = c ∧ b < d)) := by
    rw [HT.lexLt_cons, HT.lexLt_cons, HT.lexLt_nil_nil]
    by_cases h : a = c
    · subst h
      by_cases h2 : b = d
      · subst h2; simp
      · simp [h2]
    · simp [h]
  show Res.ok (D.bl (HT.lexLt [a, b] [c, d])) S = _
  rw [this]
end Q
namespace Q
open PySem L2
section
variable {X : Cx} {cl : Nat → Addr} {E : XK} {pos : Pos}
/-- list + list: a new cell -/
def opCatC : D → D → Store → Res D := fun a b S => match lstOf S a, lstOf S b with
  | some xs, some ys => if xs.length + ys.length ≤ 100000 then .ok (.ref S.length) (S ++ [.lst (xs ++ ys)]) else .no
  | _, _ => .no
theorem catC : QR X cl E (binaryOp .Add) opCatC := by
  refine ⟨_, op_cat, fun a b S α G H x y Q hR ra rb h => ?_⟩
  unfold opCatC at h
  cases h1 : lstOf S a with
  | none => simp [h1, Post] at h
  | some xs =>
    cases h2 : lstOf S b with
    | none => simp [h1, h2, Post] at h
    | some ys =>
      simp only [h1, h2] at h
      split at h
      · rename_i hs
        obtain ⟨p, vs, rfl, q1, r1⟩ := lstOf_at hR ra h1
        obtain ⟨p2, ws, rfl, q2, r2⟩ := lstOf_at hR rb h2
        exact ⟨p, p2, vs, ws, rfl, rfl, q1, q2, by rw [← r1.length, ← r2.length]; exact sz hs, fun z hz => post_cell hR (r1.append r2) h hz⟩
      · exact h.elim
variable {o i : Expr} {mo mi : ME}
def dget1K (d y : D) (S : Store) : Res D := match dgetD S d y with
  | some o => .ok (o.getD .non) S
  | none => .no
/-- d.get(i) -/
def mDGet1 (mo mi : ME) : ME := fun ρ S => (mo ρ S).bind fun d S1 => if (mDGet2.isDictS S1 d) then (mi ρ S1).bind fun y S2 => dget1K d y S2 else .no
theorem q_dget1 {apos cpos : Pos} (hu : X.A.units + 1 < cLine) (ho : QE X cl E o mo) (hi : QE X cl E i mi) (m : M1 X o "get" apos i cpos := by exact ⟨rfl, rfl, rfl, rfl⟩) : QE X cl E (.Call (.Attribute o "get" apos) [i] [] cpos) (mDGet1 mo mi) := by
  obtain ⟨t, h1, h2⟩ := ho.ex
  obtain ⟨u, k1, k2⟩ := hi.ex
  refine ⟨_, pe_dget1 hu h1 k1 m, fun ρ S σ α G H Q hρ hR hp => h2 ρ S σ α G H _ hρ hR (post_bind hp fun d S1 α1 G1 H1 v _ e1 R1 r1 hp1 => ?_)⟩
  split at hp1
  · rename_i hd
    obtain ⟨a, rfl, hD⟩ := isDict_at R1 r1 hd
    refine ⟨a, rfl, hD, k2 ρ S1 σ α1 G1 H1 _ (hρ.mono e1) R1 (post_bind hp1 fun y S2 α2 G2 H2 u _ e2 R2 r2 hp2 => ?_)⟩
    unfold dget1K at hp2
    split at hp2
    · rename_i ov hx
      obtain ⟨a', w', ea, g, z1, z2⟩ := dgetD_at R2 (Rep.mono e2.pre e2.sub _ _ r1) r2 hx
      cases ea
      refine ⟨w', g, ?_⟩
      cases ov with
      | none =>
        cases w' with
        | none => exact post_ok hp2 R2 (by simp [Rep])
        | some _ => simp at z1
      | some x =>
        obtain ⟨w2, rfl, r4⟩ := z2 x rfl
        exact post_ok hp2 R2 r4
    · exact hp2.elim
  · exact hp1.elim
end
section
variable {S : Store} {ρ : Env}
theorem catC_ref {k : Nat} {xs : List D} (ys : List D) (h : S[k]? = some (.lst xs)) : opCatC (.ref k) (.lst ys) S = if xs.length + ys.length ≤ 100000 then .ok (.ref S.length) (S ++ [.lst (xs ++ ys)]) else .no := by
  unfold opCatC
  simp [lstOf, h]
def dGet1K2 (d : D) (y : D) (S : Store) : Res D := dget1K d y S
def dGet1K1 (mi : ME) (ρ : Env) (d : D) (S : Store) : Res D := if mDGet2.isDictS S d then (mi ρ S).bind (dGet1K2 d) else .no
@[simp] theorem ap_dget1 (mo mi : ME) : mDGet1 mo mi ρ S = (mo ρ S).bind (dGet1K1 mi ρ) := (Eq.refl _).trans rfl
theorem dGet1K1_k {k : Nat} {l : Bool} {kvs : List (Key × D)} {mi : ME} (h : S[k]? = some (.dk l kvs)) : dGet1K1 mi ρ (.ref k) S = (mi ρ S).bind (dGet1K2 (.ref k)) := by
  unfold dGet1K1 mDGet2.isDictS
  simp [h]
theorem dGet1K2_of {d y : D} {o : Option D} (h : dgetD S d y = some o) : dGet1K2 d y S = .ok (o.getD .non) S := by
  unfold dGet1K2 dget1K
  rw [h]
end
end Q
namespace L2
open PySem PySem.Spec PyProof.Rows
section
variable {prog : Program} {w : World} {A : Around} {E : Value → Shared → Prop} {s : Shared}
/-- the heap behind list(t) -/
def hpC (s : Shared) (vs : List Value) : Heap := (s.heap.push (seqObj "list" #[] 0)).update s.heap.objs.size (Obj.mapSeq (· ++ vs.toArray))
theorem collectT {l : Addr} {o : Obj} {vs : List Value} {n : Nat} {Q : List Value → Shared → Prop} (g1 : s.heap.get? l = some o) (g2 : o.cls = .type "tuple") (g3 : o.data = .seq vs.toArray n) (hz : vs.length ≤ sizeLine) (k : Q vs { s with heap := hpC s vs }) : wpAny (model prog w) A (collect (.ref l)) Q E s := by
  have g1' : (s.heap.push (seqObj "list" #[] 0)).get? l = some o := Heap.get?_push_of_some _ g1
  have g4 : (s.heap.push (seqObj "list" #[] 0)).get? s.heap.objs.size = some (seqObj "list" #[] 0) := Heap.get?_push_size _ rfl
  have ty : (Value.type "tuple" == Value.type "tuple") = true := by rfl
  have room : (#[] ++ vs.toArray).size ≤ sizeLine + 1 := by simp only [Array.size_append, List.size_toArray, List.length_nil]; omega
  unfold collect
  refine wpAny_bind (wpAny_runValue (codeAny_builtin entry_proto_collect' (wpAny_bind (wpAny_newList (wpAny_pure ⟨Code.quiet_builtin _ (by decide +kernel), codeAny_builtin entry_list_iadd' ?_⟩)))))
  show wpAny _ _ (Builtin.List.listExtendWith (.ref s.heap.objs.size) (.ref l) (.ref s.heap.objs.size)) _ _ _
  unfold Builtin.List.listExtendWith
  refine wpAny_bind (wpAny_typeOf (T := "tuple") ⟨o, g1', g2⟩ ?_); rw [if_pos (by rw [ty]; simp)]
  refine wpAny_bind (listItems_at g1' g3 (wpAny_bind (listItems_at (xs := #[]) (n := 0) g4 rfl ?_))); rw [if_neg (by simp)]
  refine wpAny_bind (listUpdate_at (xs := #[]) (n := 0) g4 rfl (wpAny_pure ?_) (Nat.zero_le _) room)
  refine wpAny_bind (wpAny_load (get?_update_seq g4 _) ?_)
  have fin : ((#[] : Array Value) ++ vs.toArray).toList = vs := by simp
  show wpAny _ _ (pure ((#[] : Array Value) ++ vs.toArray).toList) Q E _
  rw [fin]; exact wpAny_pure k
theorem sortedT {l : Addr} {o : Obj} {vs : List Value} {n : Nat} {key : Value → Int × Int} {Q : Value → Shared → Prop} (g1 : s.heap.get? l = some o) (g2 : o.cls = .type "tuple") (g3 : o.data = .seq vs.toArray n) (hz : vs.length ≤ sizeLine) (hp : ∀ v ∈ vs, Srt.IsPair s.heap v (key v).1 (key v).2)
    (k : ∀ (h' : Heap) (d : Addr) (out : List Value), SrtO.Srtd (fun v u => SrtO.lexB (key v) (key u)) out → SrtO.Stb (fun v u => SrtO.lexB (key v) (key u)) out vs → (∀ b c, s.heap.get? b = some c → h'.get? b = some c) → s.heap.objs.size ≤ d → (∃ m, h'.get? d = some (seqObj "list" out.toArray m)) → Q (.ref d) { s with heap := h' }) :
    wpAny (model prog w) A (call (.builtin "sorted") [.ref l]) Q E s := by
  have z1 : (hpC s vs).objs.size = s.heap.objs.size + 1 := by unfold hpC; rw [Heap.size_update, size_push']
  have z2 : ((hpC s vs).push (seqObj "list" vs.toArray 0)).get? (s.heap.objs.size + 1) = some (seqObj "list" vs.toArray 0) := by rw [← z1]; exact Heap.get?_push_size _ rfl
  have z3 : ∀ b c, s.heap.get? b = some c → b ≠ s.heap.objs.size + 1 ∧ ((hpC s vs).push (seqObj "list" vs.toArray 0)).get? b = some c := fun b c q => by
    have lt : b < s.heap.objs.size := Heap.lt_size q
    have q2 : (hpC s vs).get? b = some c := by unfold hpC; rw [Heap.get?_update_ne _ _ _ _ (Nat.ne_of_lt lt)]; exact Heap.get?_push_of_some _ q
    exact ⟨Nat.ne_of_lt (Nat.lt_succ_of_lt lt), Heap.get?_push_of_some _ q2⟩
  refine Calls.call_function_entry kind_sorted plain_sorted entry_sorted (args_sorted1 _) ?_; unfold Builtin.«sorted»
  refine wpAny_bind (m := checkCount "sorted" 1 1 _) (wpAny_pure (wpAny_bind (collectT g1 g2 g3 hz (wpAny_bind (wpAny_newList ?_ hz)))))
  show wpAny _ _ _ _ _ { s with heap := (hpC s vs).push (seqObj "list" vs.toArray 0) }
  dsimp only; rw [z1]
  refine wpAny_bind (wpAny_holding (wpAny_call_entry slot_list_sort ⟨_, z2, rfl⟩ entry_list_sort (SrtO.list_sort_ord (SrtO.swo_lex key) z2 hz (fun h2 => ?_) fun out hs hb => ⟨_, rfl, wpAny_pure ⟨_, rfl, ?_⟩⟩) (args_list_sort _)))
  · refine SrtO.pairs_sortableO (by omega) (fun v hv => (hp v hv).keeps fun b c e _ => (z3 b c e).2) fun c e => ?_
    rw [z2] at e
    cases e
    exact fun z => by
      injection z with z4
      exact absurd z4 (by decide)
  · exact k _ _ out hs hb (fun b c e => PyProof.Rows.sortedAll_old e) (Nat.le_succ _) (PyProof.Rows.sortedAll_at s.heap vs out.toArray)
end
section
variable {X : Cx}
def rSortedPT (K : PySem.W.Frag) : List V → Hp → VK → Prop := fun vs H Q => ∃ (a : Addr) (ks : List (Addr × Int × Int)), vs = [V.ref a] ∧ SqT K H a (ks.map fun p => V.ref p.1) ∧ (∀ p ∈ ks, SqT K H p.1 [.int p.2.1, .int p.2.2]) ∧
  ∀ (L : List (Addr × Int × Int)) (p : Addr), L.Perm ks → L.Pairwise (fun p q => p.2.1 < q.2.1 ∨ (p.2.1 = q.2.1 ∧ p.2.2 ≤ q.2.2)) → H p = none → Q (.ref p) (upd H p (.lst (L.map fun p => V.ref p.1)))
theorem cr_sortedPT : CallR X (.builtin "sorted") (rSortedPT X.K) := by
  intro pins s σ H vs us Q I r h
  obtain ⟨a, ks, rfl, hl, hk, q⟩ := h
  obtain rfl := Vals.ref1 r
  obtain ⟨its, rv, ⟨o0, g1, g2, n0, g3⟩, hz⟩ := I.tuple hl
  obtain rfl := vrefs rv
  have at_ : ∀ p ∈ ks, Srt.IsPair s.heap (.ref p.1) p.2.1 p.2.2 ∧ pairAt s.heap (.ref p.1) = p.2 := fun p hp => by
    obtain ⟨us, r2, ⟨o, ho, hc, n, hd⟩, _⟩ := I.tuple (hk p hp)
    obtain ⟨u1, u2, rfl, ri, rj⟩ := vals2 r2
    obtain ⟨t1, rfl⟩ := ri
    obtain ⟨t2, rfl⟩ := rj
    refine ⟨⟨_, o, t1, t2, n, rfl, ho, hc, hd⟩, ?_⟩
    have ti : TS.TupInts s.heap (.ref p.1) [p.2.1, p.2.2] := ⟨p.1, _, rfl, ⟨o, ho, hc, n, hd⟩, .cons _ _ (.cons _ _ .nil)⟩
    unfold pairAt
    rw [ti.ints]
    rfl
  have mem : ∀ v ∈ ks.map (fun p => Value.ref p.1), Srt.IsPair s.heap v (pairAt s.heap v).1 (pairAt s.heap v).2 := fun v hv => by
    obtain ⟨p, hp, rfl⟩ := List.mem_map.mp hv
    have z := at_ p hp
    rw [z.2]
    exact z.1
  have hz2 : (ks.map fun p => Value.ref p.1).length ≤ sizeLine := by simpa using hz
  refine sortedT (key := pairAt s.heap) g1 g2 g3 hz2 mem fun h' d out h1 h2 kp hd hn => ?_
  obtain ⟨n, hn⟩ := hn
  obtain ⟨L, pL, rfl⟩ := perm_of_map h2.perm ks rfl
  have hlen : (L.map fun p => V.ref p.1).length ≤ sizeLine := by
    rw [List.length_map, pL.length_eq]
    simpa using hz
  refine ⟨.ref d, upd H d (.lst (L.map fun p => V.ref p.1)), I.laid kp hd ⟨hlen, _, n, refsv L, hn⟩, rfl, q _ _ pL ?_ (I.hok.fresh hd)⟩
  have pw : (L.map fun p => Value.ref p.1).Pairwise fun x y => SrtO.lexB (pairAt s.heap y) (pairAt s.heap x) = false := h1
  rw [List.pairwise_map] at pw
  refine pw.imp_of_mem fun {x y} hx hy hxy => ?_
  rw [(at_ x (pL.subset hx)).2, (at_ y (pL.subset hy)).2, SrtO.lexB_no] at hxy
  by_cases e : x.2.1 = y.2.1
  · right; omega
  · left; omega
end
end L2
namespace Q
open PySem L2
def skT (d : D) (S : Store) : Res D := match d with
  | .tup xs => match pairsQ xs with
    | some ps => .ok (.lst ((sortP ps).map pairD)) S
    | none => .no
  | _ => .no
/-- sorted(t) of a tuple of pairs -/
def mSortT (m : ME) : ME := fun ρ S => (m ρ S).bind skT
section
variable {X : Cx} {cl : Nat → Addr} {E : XK} {e : Expr} {m : ME} {pos : Pos}
theorem q_sortT {p : Pos} (h : QE X cl E e m) (hg : Gl X "sorted") (hm : X.mg "sorted" = none)
    (he0 : starEach [e] X.env = (false, eval e X.env) :: starEach [] X.env := by rfl) (hpl : (backTo pos (starEach [] X.env)).any (·.1) = false := by rfl) :
    QE X cl E (.Call (.Name "sorted" p) [e] [] pos) (mSortT m) := by
  obtain ⟨t, h1, h2⟩ := h.ex
  refine ⟨_, pe_callB cr_sortedPT hg hm rfl (pa_cons h1 pa_nil he0) (by decide) (by decide) he0 hpl, fun ρ S σ α G H Q hρ hR hp => ?_⟩
  refine h2 ρ S σ α G H _ hρ hR (post_bind hp fun d S1 α1 G1 H1 v _ e1 R1 r1 hp1 => ?_)
  unfold skT at hp1
  split at hp1
  case h_2 => exact hp1.elim
  rename_i xs
  split at hp1
  case h_2 => exact hp1.elim
  rename_i ps hps
  obtain ⟨a, vs, rfl, q1, rL⟩ := tup_at R1 r1
  have := pairsQ_map hps
  subst this
  obtain ⟨ks, rfl, ek, hk⟩ := pairs_vals rL
  refine ⟨a, ks, rfl, q1, fun p hp => .inl (.inl (R1.sub _ _ (hk p hp))), fun L b pm pw hb => ?_⟩
  have eL : L.map (·.2) = sortP ps := by
    refine sortP_uniq ?_ ?_
    · rw [← ek]; exact pm.map (·.2)
    · rw [List.pairwise_map]
      exact pw.imp fun {a b} h => h
  refine post_lst R1 ?_ hp1 hb
  rw [← eL]
  have sq : ∀ p ∈ L, G1 p.1 = some (.tup [.int p.2.1, .int p.2.2]) := fun p hp => hk p (pm.subset hp)
  have go : ∀ L : List (Addr × Int × Int), (∀ p ∈ L, G1 p.1 = some (.tup [.int p.2.1, .int p.2.2])) → RepL ⟨X.K, cl⟩ α1 G1 ((L.map (·.2)).map pairD) (L.map fun p => V.ref p.1) := fun L => by
    induction L with
    | nil => intro _; simp [RepL]
    | cons p L ih =>
      intro hs
      rw [List.map_cons, List.map_cons, List.map_cons]
      unfold RepL
      refine ⟨_, _, rfl, ?_, ih (fun q hq => hs q (by simp [hq]))⟩
      unfold pairD Rep
      exact ⟨p.1, [V.int p.2.1, V.int p.2.2], rfl, hs p (by simp), by simp [RepL, Rep]⟩
  exact go L sq
end
section
variable {S : Store} {ρ : Env}
@[simp] theorem ap_sortT (m : ME) : mSortT m ρ S = (m ρ S).bind skT := (Eq.refl _).trans rfl
theorem skT_pairs (ps : List (Int × Int)) : skT (.tup (ps.map pairD)) S = .ok (.lst ((sortP ps).map pairD)) S := by
  unfold skT
  simp only [pairsQ_pairs]
end
end Q
namespace L2
open PySem PySem.Spec PyProof.Rows
theorem nodup_len_le : ∀ {xs ys : List Int}, xs.Nodup → (∀ x ∈ xs, x ∈ ys) → xs.length ≤ ys.length
  | [], _, _, _ => Nat.zero_le _
  | x :: xs, ys, nd, h => by
    obtain ⟨pre, suf, rfl⟩ := List.append_of_mem (h x (List.mem_cons_self ..))
    rw [List.nodup_cons] at nd
    have ih := nodup_len_le (xs := xs) (ys := pre ++ suf) nd.2 fun z hz => by
      have hz2 := h z (List.mem_cons_of_mem _ hz)
      rw [List.mem_append, List.mem_cons] at hz2
      rw [List.mem_append]
      rcases hz2 with h1 | rfl | h1
      · exact .inl h1
      · exact absurd hz nd.1
      · exact .inr h1
    simp only [List.length_append, List.length_cons] at ih ⊢
    omega
section
variable {X : Cx}
/-- len of a set of ints -/
def rLenSetI (w : World) : List V → Hp → VK → Prop := fun xs H Q => ∃ (a : Addr) (S : Int → Bool) (n : Nat) (L : List Int), xs = [V.ref a] ∧ H a = some (SetO w a S n) ∧ L.Nodup ∧ (∀ k, k ∈ L ↔ S k = true) ∧ Q (.int (L.length : Nat)) H
theorem cr_lenSetI : CallR X (.builtin "len") (rLenSetI X.w) := by
  intro pins s σ H vs us Q I r h
  obtain ⟨a, S, n, L, rfl, ha, nd, hm, q⟩ := h
  obtain ⟨o, es, ep, t, ho, hex, hd, _, nd2, hm2, hb, hf, hn, _, _⟩ := setO_get I ha
  have e : es.size = L.length := by
    have l1 := nodup_len_le nd fun k hk => (hm2 k).mp ((hm k).mp hk)
    have l2 := nodup_len_le nd2 fun k hk => (hm k).mpr ((hm2 k).mpr hk)
    have e0 : es.toList.length = es.size := Array.length_toList
    rw [List.length_map] at l1 l2
    omega
  rw [Vals.ref1 r]
  exact call_len_set ho hex hd hf (by unfold scanBound at hb; omega) ⟨.int (L.length : Nat), H, I.tok _, ⟨_, by rw [e]⟩, q⟩
end
end L2
namespace Q
open PySem L2
/-- how many members a list has, each once -/
def lsK (d : D) (S : Store) : Res D := match d with
  | .lst xs => match intsOf xs with
    | some ns => if ns.length < 64 then .ok (.int ((sortN ns).length : Nat)) S else .no
    | none => .no
  | _ => .no
def mLenSet (m : ME) : ME := fun ρ S => (m ρ S).bind lsK
section
variable {X : Cx} {cl : Nat → Addr} {E : XK} {e : Expr} {m : ME} {pos : Pos}
theorem q_lenset {p p1 p2 : Pos} (h : QE X cl E e m) (hg : Gl X "len") (hm : X.mg "len" = none) (hg' : Gl X "set") (hm' : X.mg "set" = none) (hc : X.calm = true := by rfl)
    (he : starEach [e] X.env = (false, eval e X.env) :: starEach [] X.env := by rfl)
    (he2 : starEach [.Call (.Name "set" p1) [e] [] p2] X.env = (false, eval (.Call (.Name "set" p1) [e] [] p2) X.env) :: starEach [] X.env := by rfl)
    (hpl : (backTo p2 (starEach [] X.env)).any (·.1) = false := by rfl) (hpl2 : (backTo pos (starEach [] X.env)).any (·.1) = false := by rfl) :
    QE X cl E (.Call (.Name "len" p) [.Call (.Name "set" p1) [e] [] p2] [] pos) (mLenSet m) := by
  obtain ⟨t, h1, h2⟩ := h.ex
  have c1 := pe_callTy (pos := p2) (p := p1) (cr_setL hc) hg' hm' (by rfl) (pa_cons h1 pa_nil he) (by decide) (by decide) he hpl
  refine ⟨_, pe_callB cr_lenSetI hg hm (by rfl) (pa_cons c1 pa_nil he2) (by decide) (by decide) he2 hpl2, fun ρ S σ α G H Q hρ hR hp => ?_⟩
  refine h2 ρ S σ α G H _ hρ hR (post_bind hp fun d S1 α1 G1 H1 v _ e1 R1 r1 hp1 => ?_)
  cases d with
  | lst xs =>
    simp only [lsK] at hp1
    cases q2 : intsOf xs with
    | none => rw [q2] at hp1; exact hp1.elim
    | some ns =>
      rw [q2] at hp1
      simp only at hp1
      split at hp1
      · rename_i hl
        unfold Rep at r1
        obtain ⟨l, vs, rfl, s1, t1⟩ := r1
        have ev := ints_at xs ns vs q2 t1
        subst ev
        refine ⟨l, ns, rfl, R1.sub.sqL (.inl (.inl s1)), by unfold scanBound; omega, fun a c ha hcl => ⟨a, _, c, sortN ns, rfl, upd_same, (sortN_up ns).imp fun h e => by omega, fun z => by rw [mem_sortN]; exact decide_eq_true_iff.symm, ?_⟩⟩
        obtain ⟨R2, e2⟩ := R1.new ha (SetO X.w a (fun j => decide (j ∈ ns)) c)
        exact hp1 _ _ _ _ e2 R2 (by simp [Rep])
      · exact hp1.elim
  | _ => exact hp1.elim
end
section
variable {S : Store} {ρ : Env}
@[simp] theorem ap_lenset (m : ME) : mLenSet m ρ S = (m ρ S).bind lsK := (Eq.refl _).trans rfl
theorem lsK_ints {ns : List Int} (hl : ns.length < 64) : lsK (.lst (ns.map .int)) S = .ok (.int ((sortN ns).length : Nat)) S := by
  simp only [lsK, intsOf_map, hl, if_true]
theorem sortN_nlen {ns : List Int} (h : ns.Nodup) : (sortN ns).length = ns.length :=
  Nat.le_antisymm (nodup_len_le ((sortN_up ns).imp fun h e => by omega) fun x hx => mem_sortN.mp hx) (nodup_len_le h fun x hx => mem_sortN.mpr hx)
end
end Q
namespace L2
open PySem PySem.Spec PyProof.Rows
section
variable {X : Cx}
/-- set(xs), xs a tuple of ints -/
def rSetOfI (K : PySem.W.Frag) (w : World) : List V → Hp → VK → Prop := fun vs H Q => ∃ (l : Addr) (ns : List Int), vs = [V.ref l] ∧ SqT K H l (ns.map V.int) ∧ ns.length + 1 < scanBound ∧ ∀ a c, H a = none → c ≤ ns.length → Q (.ref a) (upd H a (SetO w a (fun j => decide (j ∈ ns)) c))
theorem cr_setTI (hc : X.calm = true) : CallR X (.type "set") (rSetOfI X.K X.w) := by
  intro pins s σ H vs us Q I r h
  obtain ⟨l, ns, rfl, hl, hb, q⟩ := h
  obtain ⟨its, rv, pl, hz⟩ := I.tuple hl
  rw [Vals.ref1 r]
  refine call_set_tupI ns (I.ok.hd hc) pl (by simpa using rv.ints) hb fun h' tk c hs hcl keep => ?_
  exact ⟨.ref _, upd H s.heap.objs.size (SetO X.w s.heap.objs.size (fun j => decide (j ∈ ns)) c), I.laid (t' := tk) keep (Nat.le_refl _) (setO_new hs), rfl, q _ c (I.hok.fresh (Nat.le_refl _)) hcl⟩
end
end L2
namespace Q
open PySem L2
/-- as ssK, of a tuple of ints too -/
def ssK2 (d : D) (S : Store) : Res D := match d with
  | .tup xs => match intsOf xs with
    | some ns => if ns.length < 64 then .ok (.lst ((sortN ns).map .int)) S else .no
    | none => .no
  | _ => .no
def mSortSetI (m : ME) : ME := fun ρ S => (m ρ S).bind ssK2
section
variable {X : Cx} {cl : Nat → Addr} {E : XK} {e : Expr} {m : ME} {pos : Pos}
theorem q_sortsetI {p p1 p2 : Pos} (h : QE X cl E e m) (hg : Gl X "sorted") (hm : X.mg "sorted" = none) (hg' : Gl X "set") (hm' : X.mg "set" = none) (hc : X.calm = true := by rfl)
    (he : starEach [e] X.env = (false, eval e X.env) :: starEach [] X.env := by rfl)
    (he2 : starEach [.Call (.Name "set" p1) [e] [] p2] X.env = (false, eval (.Call (.Name "set" p1) [e] [] p2) X.env) :: starEach [] X.env := by rfl)
    (hpl : (backTo p2 (starEach [] X.env)).any (·.1) = false := by rfl) (hpl2 : (backTo pos (starEach [] X.env)).any (·.1) = false := by rfl) :
    QE X cl E (.Call (.Name "sorted" p) [.Call (.Name "set" p1) [e] [] p2] [] pos) (mSortSetI m) := by
  obtain ⟨t, h1, h2⟩ := h.ex
  have c1 := pe_callTy (pos := p2) (p := p1) (cr_setTI hc) hg' hm' (by rfl) (pa_cons h1 pa_nil he) (by decide) (by decide) he hpl
  refine ⟨_, pe_callB (cr_sortedSet hc) hg hm (by rfl) (pa_cons c1 pa_nil he2) (by decide) (by decide) he2 hpl2, fun ρ S σ α G H Q hρ hR hp => ?_⟩
  refine h2 ρ S σ α G H _ hρ hR (post_bind hp fun d S1 α1 G1 H1 v _ e1 R1 r1 hp1 => ?_)
  cases d with
  | tup xs =>
    simp only [ssK2] at hp1
    cases q2 : intsOf xs with
    | none => rw [q2] at hp1; exact hp1.elim
    | some ns =>
      rw [q2] at hp1
      simp only at hp1
      split at hp1
      · rename_i hl
        unfold Rep at r1
        obtain ⟨l, vs, rfl, s1, t1⟩ := r1
        have ev := ints_at xs ns vs q2 t1
        subst ev
        refine ⟨l, ns, rfl, R1.sub.sqT (.inl (.inl s1)), by unfold scanBound; omega, fun a c ha hcl => ⟨a, _, c, rfl, upd_same, by omega, fun ns' b pw mem len hb => ?_⟩⟩
        have en : ns' = sortN ns := upN_uniq _ _ pw (sortN_up ns) fun z => by rw [mem_sortN, mem z]; exact decide_eq_true_iff
        subst en
        obtain ⟨R2, e2⟩ := R1.new ha (SetO X.w a (fun j => decide (j ∈ ns)) c)
        obtain ⟨R3, e3⟩ := R2.new hb (.lst ((sortN ns).map V.int))
        exact hp1 _ _ _ _ (e2.trans e3) R3 (rep_lst upd_same (rep_ints _))
      · exact hp1.elim
  | _ => exact hp1.elim
end
section
variable {S : Store} {ρ : Env}
@[simp] theorem ap_sortsetI (m : ME) : mSortSetI m ρ S = (m ρ S).bind ssK2 := (Eq.refl _).trans rfl
theorem ssK2_ints {ns : List Int} (hl : ns.length < 64) : ssK2 (.tup (ns.map .int)) S = .ok (.lst ((sortN ns).map .int)) S := by
  simp only [ssK2, intsOf_map, hl, if_true]
end
end Q
namespace Q
open PySem L2
section
variable {E : XK} {mg mg1 : MG} {mt mt1 : MT} {m : ME} {mi1 : MA}
/-- [m for g in ds if t for g1 in mi1 if t1]; n: how many at most have been told so far -/
def lcL2 (g : MG) (t : MT) (mi1 : MA) (g1 : MG) (t1 : MT) (m : ME) (vs1 : List Nat) (ρ : Env) : List D → Nat → Store → Res (List D)
  | [], _, S => .ok [] S
  | d :: ds, n, S => (g d ρ S).bind fun ρ1 S1 => (t ρ1 S1).bind fun b S2 => match b with
    | true => (mi1 ρ1 S2).bind fun ds1 S3 => if n + ds1.length ≤ 100000 then (lcL g1 t1 m (wp ρ1 vs1) ds1 S3).bind fun xs S4 => (lcL2 g t mi1 g1 t1 m vs1 ρ ds (n + ds1.length) S4).bind fun ys S5 => .ok (xs ++ ys) S5 else .no
    | false => lcL2 g t mi1 g1 t1 m vs1 ρ ds n S2
def mLc2 (mi : MA) (g : MG) (t : MT) (mi1 : MA) (g1 : MG) (t1 : MT) (m : ME) (vs vs1 : List Nat) : ME := fun ρ S => (mi ρ S).bind fun ds S1 => (lcL2 g t mi1 g1 t1 m vs1 (wp ρ vs) ds 0 S1).bind fun xs S2 => .ok (.lst xs) S2
def cont2 (r : Store → Res (List D)) (xs : List D) (S : Store) : Res (List D) := (r S).bind fun ys S5 => .ok (xs ++ ys) S5
theorem cont2_nil (r : Store → Res (List D)) (S : Store) : cont2 r [] S = r S := by
  unfold cont2
  cases r S <;> rfl
theorem bind_cons (q : Res (List D)) (v : D) (r : Store → Res (List D)) : (q.bind fun vs S4 => .ok (v :: vs) S4).bind (cont2 r) = (q.bind (cont2 r)).bind fun zs S => .ok (v :: zs) S := by
  cases q with
  | no => rfl
  | ex e S => rfl
  | ok xs S =>
    show cont2 r (v :: xs) S = (cont2 r xs S).bind _
    unfold cont2
    cases r S <;> rfl
theorem PostL_cons {Γ : Gm} {α1 : List Addr} {G1 H1 : Hp} {p : Addr} {acc : List D} {v : D} {r : Res (List D)} {Q : VK} (h : PostL Γ E α1 G1 H1 p acc (r.bind fun zs S => .ok (v :: zs) S) Q) : PostL Γ E α1 G1 H1 p (acc ++ [v]) r Q := by
  cases r with
  | no => exact h.elim
  | ex e S => exact h
  | ok xs S => exact fun α G H vs M r => h α G H vs M (by rw [List.append_assoc] at r; exact r)
/-- the inner loop -/
theorem snd_in {Γ : Gm} {g1 : TG} {js1 vs1 : List Nat} {tt1 : TT} {te : TE} {α1 : List Addr} {G1 H1 : Hp} {p : Addr} (hp0 : H1 p = none) (hg : SndG Γ E g1 mg1 js1) (ht : SndT Γ E tt1 mt1) (he : SndE Γ E te m) (hj : ∀ j ∈ js1, j ∈ vs1) (r : Store → Res (List D)) {Q : VK}
    {ρ : Env} {σ : L2.St} {α0 : List Addr} {G0 H0 : Hp} (hρ0 : EnvR Γ α0 G0 ρ σ) (ds : List D) (S1 : Store) (J : It) {acc0 : List D} {ws0 : List V} (M0 : Mid Γ α1 G1 H1 p α0 G0 S1 H0 ws0) (ra0 : RepL Γ α0 G0 acc0 ws0) (st : Steps Γ α0 G0 ds J) (n : Nat) (hl0 : acc0.length ≤ n) (hl : n + ds.length ≤ 100000)
    (hq : PostL Γ E α1 G1 H1 p acc0 ((lcL mg1 mt1 m (wp ρ vs1) ds S1).bind (cont2 r)) Q) :
    ∃ W : Nat → Nat → Hp → Prop, (∃ m, W 0 m H0) ∧ ∀ i k H, W i k H →
      (J.stop i H ∧ ∃ S2 α2 G2 acc ws, Mid Γ α1 G1 H1 p α2 G2 S2 H ws ∧ RepL Γ α2 G2 acc ws ∧ acc.length ≤ n + ds.length ∧ PostL Γ E α1 G1 H1 p acc (r S2) Q) ∨ (J.go i H ∧ ∃ Nx : Hp → Prop, (∀ H', Nx H' → ∃ m', m' < k ∧ W (i + 1) m' H') ∧ ∀ x H', J.yld i H x H' → g1 x (wipe σ vs1) H' fun σ2 H2 => wipe σ2 vs1 = wipe σ vs1 ∧ tt1 σ2 H2 fun b H3 =>
        if b = true then te σ2 H3 fun y H4 => ∃ acc, H4 p = some (.lst acc) ∧ acc.length < sizeLine ∧ Nx (upd H4 p (.lst (acc ++ [y]))) else Nx H3) := by
  refine ⟨fun i k H => k = ds.length - i ∧ i ≤ ds.length ∧ ∃ S2 α2 G2 acc ws, Mid Γ α1 G1 H1 p α2 G2 S2 H ws ∧ RepL Γ α2 G2 acc ws ∧ acc.length ≤ n + i ∧ (∃ β, α2 = α0 ++ β) ∧ Sub G0 G2 ∧ PostL Γ E α1 G1 H1 p acc ((lcL mg1 mt1 m (wp ρ vs1) (ds.drop i) S2).bind (cont2 r)) Q,
    ⟨ds.length, by simp, Nat.zero_le _, S1, α0, G0, acc0, ws0, M0, ra0, by omega, ⟨[], by simp⟩, Sub.refl G0, by simpa using hq⟩, ?_⟩
  rintro i k H2 ⟨rfl, hle, S2, α2, G2, acc, ws, M2, r2, ha2, pre2, sub2, hq2⟩
  obtain ⟨stop, go⟩ := st i α2 G2 H2 S2 pre2 sub2 M2.rl
  by_cases hlt : i < ds.length
  · have hd : ds[i]? = some ds[i] := List.getElem?_eq_getElem hlt
    obtain ⟨hgo, hy⟩ := go _ hd
    refine .inr ⟨hgo, fun H' => ∃ S2 α2 G2 acc ws, Mid Γ α1 G1 H1 p α2 G2 S2 H' ws ∧ RepL Γ α2 G2 acc ws ∧ acc.length ≤ n + (i + 1) ∧ (∃ β, α2 = α0 ++ β) ∧ Sub G0 G2 ∧ PostL Γ E α1 G1 H1 p acc ((lcL mg1 mt1 m (wp ρ vs1) (ds.drop (i + 1)) S2).bind (cont2 r)) Q, fun H' z => ⟨ds.length - (i + 1), by omega, rfl, hlt, z⟩, fun x H3 y3 => ?_⟩
    obtain ⟨G3, R3, e3, rx⟩ := hy x H3 y3
    have M3 := M2.step e3 R3
    have tr : ∀ {α G H α' G' H'}, Ext α G H α' G' H' → (∃ β, α = α0 ++ β) → ∃ β, α' = α0 ++ β := fun e h => by
      obtain ⟨β, rfl⟩ := h
      obtain ⟨γ, e2⟩ := e.pre
      exact ⟨β ++ γ, by rw [e2, List.append_assoc]⟩
    have pre3 := tr e3 pre2
    have sub3 := sub2.trans e3.sub
    rw [List.drop_eq_getElem_cons hlt] at hq2
    simp only [lcL] at hq2
    have hρ3 : EnvR Γ α2 G3 (wp ρ vs1) (wipe σ vs1) := EnvR.wp ⟨hρ0.1, fun i d hi => let ⟨v, a, b⟩ := hρ0.2 i d hi; ⟨v, a, Rep.mono pre2 sub3 _ _ b⟩⟩ vs1
    refine hg ds[i] (wp ρ vs1) S2 (wipe σ vs1) α2 G3 H3 x _ hρ3 R3 rx ?_
    cases q4 : mg1 ds[i] (wp ρ vs1) S2 with
    | no => rw [q4] at hq2; exact hq2.elim
    | ex e' S' =>
      rw [q4] at hq2
      exact fun α' G' H' c x e R r => hq2 α' G' H' c x (M3.ext.trans e) R r
    | ok ρ4 S4 =>
      rw [q4] at hq2
      dsimp only [Res.bind] at hq2
      intro α4 G4 H4 σ4 e4 R4 r4 ⟨l4, o4⟩
      have M4 := M3.step e4 R4
      have pre4 := tr e4 pre3
      have sub4 := sub3.trans e4.sub
      refine ⟨wipe_same l4 o4 hj, ?_⟩
      refine ht ρ4 S4 σ4 α4 G4 H4 _ r4 R4 ?_
      cases q5 : mt1 ρ4 S4 with
      | no => rw [q5] at hq2; exact hq2.elim
      | ex e' S' =>
        rw [q5] at hq2
        exact fun α' G' H' c x e R r => hq2 α' G' H' c x (M4.ext.trans e) R r
      | ok b S5 =>
        rw [q5] at hq2
        dsimp only [Res.bind] at hq2
        intro α5 G5 H5 b' e5 R5 rb
        have rb : b = b' := rb
        subst rb
        have M5 := M4.step e5 R5
        have pre5 := tr e5 pre4
        have sub5 := sub4.trans e5.sub
        have r5 : RepL Γ α5 G5 acc ws := RepL.mono e5.pre e5.sub _ _ (RepL.mono e4.pre e4.sub _ _ (RepL.mono e3.pre e3.sub _ _ r2))
        cases b with
        | false => exact iteF ⟨S5, α5, G5, acc, ws, M5, r5, by omega, pre5, sub5, hq2⟩
        | true =>
          refine iteT (he ρ4 S5 σ4 α5 G5 H5 _ (r4.mono e5) R5 ?_)
          cases q6 : m ρ4 S5 with
          | no => rw [q6] at hq2; exact hq2.elim
          | ex e' S' =>
            rw [q6] at hq2
            exact fun α' G' H' c x e R r => hq2 α' G' H' c x (M5.ext.trans e) R r
          | ok v S6 =>
            rw [q6] at hq2
            have hq3 : PostL Γ E α1 G1 H1 p acc (((lcL mg1 mt1 m (wp ρ vs1) (ds.drop (i + 1)) S6).bind fun vs S4 => .ok (v :: vs) S4).bind (cont2 r)) Q := hq2
            rw [bind_cons] at hq3
            intro α6 G6 H6 y e6 R6 ry
            have M6 := M5.step e6 R6
            have r6 : RepL Γ α6 G6 acc ws := RepL.mono e6.pre e6.sub _ _ r5
            refine ⟨ws, M6.at_, ?_, S6, α6, G6, acc ++ [v], ws ++ [y], M6.push hp0 _, r6.append (by unfold RepL; exact ⟨y, [], rfl, ry, by simp [RepL]⟩), by simp; omega, tr e6 pre5, sub5.trans e6.sub, PostL_cons hq3⟩
            rw [← r6.length]
            exact Nat.lt_of_le_of_lt (by omega : acc.length ≤ 100000) (by decide)
  · refine .inl ⟨stop (by omega), S2, α2, G2, acc, ws, M2, r2, by omega, ?_⟩
    rw [List.drop_of_length_le (by omega)] at hq2
    have : PostL Γ E α1 G1 H1 p acc (cont2 r [] S2) Q := hq2
    rw [cont2_nil] at this
    exact this
theorem snd_lc2 {Γ : Gm} {wi wi1 : TI} {mi : MA} {g g1 : TG} {js vs js1 vs1 : List Nat} {tt tt1 : TT} {te : TE} (hi : SndI Γ E wi mi) (hg : SndG Γ E g mg js) (ht : SndT Γ E tt mt) (hi1 : SndI Γ E wi1 mi1) (hg1 : SndG Γ E g1 mg1 js1) (ht1 : SndT Γ E tt1 mt1) (he : SndE Γ E te m) (hj : ∀ j ∈ js, j ∈ vs) (hj1 : ∀ j ∈ js1, j ∈ vs1) :
    SndE Γ E (tLc2 wi g tt wi1 g1 tt1 te vs vs1) (mLc2 mi mg mt mi1 mg1 mt1 m vs vs1) := fun ρ S σ α G H Q hρ hR hp => by
  refine hi ρ S σ α G H _ hρ hR ?_
  unfold mLc2 at hp
  cases q : mi ρ S with
  | no => rw [q] at hp; exact hp
  | ex e S' => rw [q] at hp; exact hp
  | ok ds S1 =>
    rw [q] at hp
    intro α1 G1 H1 J e1 R1 st p hp0
    have hp1 := Post.mono (show Post Γ (Rep Γ) α G H ((lcL2 mg mt mi1 mg1 mt1 m vs1 (wp ρ vs) ds 0 S1).bind fun xs S2 => .ok (.lst xs) S2) Q E from hp) e1
    have hq : PostL Γ E α1 G1 H1 p [] (lcL2 mg mt mi1 mg1 mt1 m vs1 (wp ρ vs) ds 0 S1) Q := by
      cases q2 : lcL2 mg mt mi1 mg1 mt1 m vs1 (wp ρ vs) ds 0 S1 with
      | no => rw [q2] at hp1; exact hp1.elim
      | ex e S' => rw [q2] at hp1; exact hp1
      | ok xs S2 =>
        rw [q2] at hp1
        intro α2 G2 H2 ws M r
        obtain ⟨R3, e3⟩ := M.done hp0
        have r' : RepL Γ α2 (upd G2 p (.lst ws)) xs ws := RepL.mono (α := α2) ⟨[], by simp⟩ (Sub.new M.ng) xs ws (by simpa using r)
        exact hp1 α2 _ H2 (.ref p) e3 R3 (rep_lst upd_same r')
    have hpa : p ∉ α1 := fun z => R1.tr p z hp0
    have hpg : G1 p = none := R1.gnone hp0
    refine ⟨fun i k H => k = ds.length - i ∧ i ≤ ds.length ∧ ∃ S2 α2 G2 acc ws n, Mid Γ α1 G1 H1 p α2 G2 S2 H ws ∧ RepL Γ α2 G2 acc ws ∧ acc.length ≤ n ∧ PostL Γ E α1 G1 H1 p acc (lcL2 mg mt mi1 mg1 mt1 m vs1 (wp ρ vs) (ds.drop i) n S2) Q,
      ⟨ds.length, by simp, Nat.zero_le _, S1, α1, G1, [], [], 0, ⟨(Ext.refl _ _ _).patch hp0 _, R1.patch hpa hpg _, upd_same, hpa, hpg⟩, by simp [RepL], Nat.le_refl _, by simpa using hq⟩, ?_⟩
    rintro i k H2 ⟨rfl, hle, S2, α2, G2, acc, ws, n, M2, r2, ha2, hq2⟩
    obtain ⟨stop, go⟩ := st i α2 G2 H2 S2 M2.ext.pre M2.ext.sub M2.rl
    by_cases hlt : i < ds.length
    · have hd : ds[i]? = some ds[i] := List.getElem?_eq_getElem hlt
      obtain ⟨hgo, hy⟩ := go _ hd
      refine .inr ⟨hgo, fun H' => ∃ S2 α2 G2 acc ws n, Mid Γ α1 G1 H1 p α2 G2 S2 H' ws ∧ RepL Γ α2 G2 acc ws ∧ acc.length ≤ n ∧ PostL Γ E α1 G1 H1 p acc (lcL2 mg mt mi1 mg1 mt1 m vs1 (wp ρ vs) (ds.drop (i + 1)) n S2) Q, fun H' z => ⟨ds.length - (i + 1), by omega, rfl, hlt, z⟩, fun x H3 y3 => ?_⟩
      obtain ⟨G3, R3, e3, rx⟩ := hy x H3 y3
      have M3 := M2.step e3 R3
      rw [List.drop_eq_getElem_cons hlt] at hq2
      simp only [lcL2] at hq2
      have hρ3 : EnvR Γ α2 G3 (wp ρ vs) (wipe σ vs) := by
        have := (hρ.mono e1).mono (M3.ext)
        exact this.wp vs
      refine hg ds[i] (wp ρ vs) S2 (wipe σ vs) α2 G3 H3 x _ hρ3 R3 rx ?_
      cases q4 : mg ds[i] (wp ρ vs) S2 with
      | no => rw [q4] at hq2; exact hq2.elim
      | ex e' S' =>
        rw [q4] at hq2
        exact fun α' G' H' c x e R r => hq2 α' G' H' c x (M3.ext.trans e) R r
      | ok ρ4 S4 =>
        rw [q4] at hq2
        dsimp only [Res.bind] at hq2
        intro α4 G4 H4 σ4 e4 R4 r4 ⟨l4, o4⟩
        have M4 := M3.step e4 R4
        refine ⟨wipe_same l4 o4 hj, ?_⟩
        refine ht ρ4 S4 σ4 α4 G4 H4 _ r4 R4 ?_
        cases q5 : mt ρ4 S4 with
        | no => rw [q5] at hq2; exact hq2.elim
        | ex e' S' =>
          rw [q5] at hq2
          exact fun α' G' H' c x e R r => hq2 α' G' H' c x (M4.ext.trans e) R r
        | ok b S5 =>
          rw [q5] at hq2
          dsimp only [Res.bind] at hq2
          intro α5 G5 H5 b' e5 R5 rb
          have rb : b = b' := rb
          subst rb
          have M5 := M4.step e5 R5
          have r5 : RepL Γ α5 G5 acc ws := RepL.mono e5.pre e5.sub _ _ (RepL.mono e4.pre e4.sub _ _ (RepL.mono e3.pre e3.sub _ _ r2))
          cases b with
          | false => exact iteF ⟨S5, α5, G5, acc, ws, n, M5, r5, ha2, hq2⟩
          | true =>
            refine iteT (hi1 ρ4 S5 σ4 α5 G5 H5 _ (r4.mono e5) R5 ?_)
            cases q6 : mi1 ρ4 S5 with
            | no => rw [q6] at hq2; exact hq2.elim
            | ex e' S' =>
              rw [q6] at hq2
              exact fun α' G' H' c x e R r => hq2 α' G' H' c x (M5.ext.trans e) R r
            | ok ds1 S6 =>
              rw [q6] at hq2
              intro α6 G6 H6 J1 e6 R6 st6
              have hq3 := (show PostL Γ E α1 G1 H1 p acc (if n + ds1.length ≤ 100000 then _ else _) Q from hq2)
              split at hq3
              · rename_i hl
                obtain ⟨W, h0, hW⟩ := snd_in (mt1 := mt1) hp0 hg1 ht1 he hj1 (fun S => lcL2 mg mt mi1 mg1 mt1 m vs1 (wp ρ vs) (ds.drop (i + 1)) (n + ds1.length) S) ((r4.mono e5).mono e6) ds1 S6 J1 (M5.step e6 R6) (RepL.mono e6.pre e6.sub _ _ r5) st6 n ha2 hl hq3
                refine ⟨W, h0, fun j k H w => ?_⟩
                rcases hW j k H w with ⟨s1, S7, α7, G7, acc7, ws7, M7, r7, l7, q7⟩ | h
                · exact .inl ⟨s1, S7, α7, G7, acc7, ws7, _, M7, r7, l7, q7⟩
                · exact .inr h
              · exact hq3.elim
    · refine .inl ⟨stop (by omega), ?_⟩
      rw [List.drop_of_length_le (by omega)] at hq2
      exact hq2 α2 G2 H2 ws M2 (by simpa using r2)
end
section
variable {X : Cx} {cl : Nat → Addr} {E : XK} {m : ME} {mt1 : MT} {pos : Pos}
def tI (Γ : Gm) (E : XK) (mi : MA) : TI := fun σ H R => ∃ ρ S α G, EnvR Γ α G ρ σ ∧ Rl Γ α G S H ∧ PostI Γ E α G H (mi ρ S) R
theorem QI.can {tg iter : Expr} {mi : MA} (h : QI X cl E tg iter mi) : PI X tg iter (tI ⟨X.K, cl⟩ E mi) := by
  obtain ⟨t, h1, h2⟩ := h.ex
  exact ⟨fun pins s σ H R I ⟨ρ, S, α, G, hρ, hR, hp⟩ => h1.run pins s σ H R I (h2 ρ S σ α G H R hρ hR hp)⟩
theorem snd_tI {Γ : Gm} {mi : MA} : SndI Γ E (tI Γ E mi) mi := fun ρ S σ α G H R hρ hR hp => ⟨ρ, S, α, G, hρ, hR, hp⟩
variable {elt tg iter tg1 iter1 c : Expr} {scope : Scope} {mi mi1 : MA} {mg mg1 : MG} {js js1 : List Nat}
/-- [elt for tg in iter for tg1 in iter1] -/
theorem q_lc2 (own : List (Str × Nat)) (vs1 : List Nat) (hi : QI X cl E tg iter mi) (hN : X.N.Nodup) (ok : BlkOk X.N X.env.scope scope own)
    (hg : ∀ (s : Shared) (H : Hp) (C : Addr) (c : List (Str × Addr)) (fp : List Addr), QG (Blk X scope s H C c fp) cl E tg mg js)
    (hi1 : ∀ (s : Shared) (H : Hp) (C : Addr) (c : List (Str × Addr)) (fp : List Addr), QI (Blk X scope s H C c fp) cl E tg1 iter1 mi1)
    (hg1 : ∀ (s : Shared) (H : Hp) (C : Addr) (c : List (Str × Addr)) (fp : List Addr), QG (Blk X scope s H C c fp) cl E tg1 mg1 js1)
    (he : ∀ (s : Shared) (H : Hp) (C : Addr) (c : List (Str × Addr)) (fp : List Addr), QE (Blk X scope s H C c fp) cl E elt m)
    (hv : ∀ i ∈ vs1, i ∈ own.map (·.2) := by decide) (hj : ∀ j ∈ js, j ∈ own.map (·.2) := by decide) (hj1 : ∀ j ∈ js1, j ∈ vs1 := by decide) (hc : X.calm = true := by rfl) (hs : ∀ x, foldedSetIterable iter X.env x = pure x := by intro _; rfl) (hs1 : ∀ env x, foldedSetIterable iter1 env x = pure x := by intro _ _; rfl) :
    QE X cl E (.ListComp elt [⟨tg, iter, [], 0⟩, ⟨tg1, iter1, [], 0⟩] scope pos) (mLc2 mi mg mYes mi1 mg1 mYes m (own.map (·.2)) vs1) := by
  obtain ⟨wi, h1, h2⟩ := hi.ex
  exact ⟨_, pe_lc2 hc hN h1 ok hv (fun s H C c fp => (hg s H C c fp).can) (fun _ _ _ _ _ => pts_nil) (fun s H C c fp => (hi1 s H C c fp).can) (fun s H C c fp => (hg1 s H C c fp).can) (fun _ _ _ _ _ => pts_nil) (fun s H C c fp => (he s H C c fp).can) hs hs1, snd_lc2 (Γ := ⟨X.K, cl⟩) h2 snd_tG snd_yes snd_tI snd_tG snd_yes snd_tE hj hj1⟩
/-- [elt for tg in iter for tg1 in iter1 if c] -/
theorem q_lc2If (own : List (Str × Nat)) (vs1 : List Nat) (hi : QI X cl E tg iter mi) (hN : X.N.Nodup) (ok : BlkOk X.N X.env.scope scope own)
    (hg : ∀ (s : Shared) (H : Hp) (C : Addr) (c : List (Str × Addr)) (fp : List Addr), QG (Blk X scope s H C c fp) cl E tg mg js)
    (hi1 : ∀ (s : Shared) (H : Hp) (C : Addr) (c : List (Str × Addr)) (fp : List Addr), QI (Blk X scope s H C c fp) cl E tg1 iter1 mi1)
    (hg1 : ∀ (s : Shared) (H : Hp) (C : Addr) (c : List (Str × Addr)) (fp : List Addr), QG (Blk X scope s H C c fp) cl E tg1 mg1 js1)
    (ht1 : ∀ (s : Shared) (H : Hp) (C : Addr) (c' : List (Str × Addr)) (fp : List Addr), QT (Blk X scope s H C c' fp) cl E c mt1)
    (he : ∀ (s : Shared) (H : Hp) (C : Addr) (c : List (Str × Addr)) (fp : List Addr), QE (Blk X scope s H C c fp) cl E elt m)
    (hv : ∀ i ∈ vs1, i ∈ own.map (·.2) := by decide) (hj : ∀ j ∈ js, j ∈ own.map (·.2) := by decide) (hj1 : ∀ j ∈ js1, j ∈ vs1 := by decide) (hc : X.calm = true := by rfl) (hs : ∀ x, foldedSetIterable iter X.env x = pure x := by intro _; rfl) (hs1 : ∀ env x, foldedSetIterable iter1 env x = pure x := by intro _ _; rfl) :
    QE X cl E (.ListComp elt [⟨tg, iter, [], 0⟩, ⟨tg1, iter1, [c], 0⟩] scope pos) (mLc2 mi mg mYes mi1 mg1 mt1 m (own.map (·.2)) vs1) := by
  obtain ⟨wi, h1, h2⟩ := hi.ex
  exact ⟨_, pe_lc2 hc hN h1 ok hv (fun s H C c fp => (hg s H C c fp).can) (fun _ _ _ _ _ => pts_nil) (fun s H C c fp => (hi1 s H C c fp).can) (fun s H C c fp => (hg1 s H C c fp).can) (fun s H C c' fp => pts_one (ht1 s H C c' fp).can) (fun s H C c fp => (he s H C c fp).can) hs hs1, snd_lc2 (Γ := ⟨X.K, cl⟩) h2 snd_tG snd_yes snd_tI snd_tG snd_tT snd_tE hj hj1⟩
variable {mt : MT}
/-- name = [elt for tg in iter .. for tg1 in iter1 ..], stored within the comprehension's own frame -/
theorem qs_setLc2 (i : Nat) {y : Str} {py spos : Pos} {ifs ifs1 : List Expr} (own : List (Str × Nat)) (vs1 : List Nat) (hi : QI X cl E tg iter mi) (hN : X.N.Nodup) (ok : BlkOk X.N X.env.scope scope own)
    (hg : ∀ (s : Shared) (H : Hp) (C : Addr) (c : List (Str × Addr)) (fp : List Addr), QG (Blk X scope s H C c fp) cl E tg mg js)
    (ht : ∀ (s : Shared) (H : Hp) (C : Addr) (c' : List (Str × Addr)) (fp : List Addr), PTs (Blk X scope s H C c' fp) ifs (tT ⟨X.K, cl⟩ E mt))
    (hi1 : ∀ (s : Shared) (H : Hp) (C : Addr) (c : List (Str × Addr)) (fp : List Addr), QI (Blk X scope s H C c fp) cl E tg1 iter1 mi1)
    (hg1 : ∀ (s : Shared) (H : Hp) (C : Addr) (c : List (Str × Addr)) (fp : List Addr), QG (Blk X scope s H C c fp) cl E tg1 mg1 js1)
    (ht1 : ∀ (s : Shared) (H : Hp) (C : Addr) (c' : List (Str × Addr)) (fp : List Addr), PTs (Blk X scope s H C c' fp) ifs1 (tT ⟨X.K, cl⟩ E mt1))
    (he : ∀ (s : Shared) (H : Hp) (C : Addr) (c : List (Str × Addr)) (fp : List Addr), QE (Blk X scope s H C c fp) cl E elt m)
    (hv : ∀ i ∈ vs1, i ∈ own.map (·.2) := by decide) (hj : ∀ j ∈ js, j ∈ own.map (·.2) := by decide) (hj1 : ∀ j ∈ js1, j ∈ vs1 := by decide) (hy : X.N[i]? = some y := by rfl) (hyl : X.env.scope.names.lookup y = some .local := by rfl) (hc : X.calm = true := by rfl)
    (hsw : swapsWith (.ListComp elt [⟨tg, iter, ifs, 0⟩, ⟨tg1, iter1, ifs1, 0⟩] scope pos) (some (.Name y py)) spos.line X.env = pure true := by exact sw_true rfl rfl rfl (by decide +kernel)) (hs : ∀ x, foldedSetIterable iter X.env x = pure x := by intro _; rfl) (hs1 : ∀ env x, foldedSetIterable iter1 env x = pure x := by intro _ _; rfl) :
    QS X cl E (.Assign [.Name y py] (.ListComp elt [⟨tg, iter, ifs, 0⟩, ⟨tg1, iter1, ifs1, 0⟩] scope pos) spos) (mAsg (mLc2 mi mg mt mi1 mg1 mt1 m (own.map (·.2)) vs1) (mgN i)) := by
  obtain ⟨wi, h1, h2⟩ := hi.ex
  exact ⟨_, ps_setLc2 hc hN hy hyl hsw h1 ok hv (fun s H C c fp => (hg s H C c fp).can) ht (fun s H C c fp => (hi1 s H C c fp).can) (fun s H C c fp => (hg1 s H C c fp).can) ht1 (fun s H C c fp => (he s H C c fp).can) hs hs1, snd_asg (snd_lc2 (Γ := ⟨X.K, cl⟩) h2 snd_tG snd_tT snd_tI snd_tG snd_tT snd_tE hj hj1) (sndg_name i)⟩
end
section
variable {g g1 : MG} {t t1 : MT} {mi mi1 : MA} {m : ME} {vs vs1 : List Nat} {ρ : Env} {S : Store}
def lc2K (g : MG) (t : MT) (mi1 : MA) (g1 : MG) (t1 : MT) (m : ME) (vs vs1 : List Nat) (ρ : Env) (ds : List D) (S : Store) : Res D := (lcL2 g t mi1 g1 t1 m vs1 (wp ρ vs) ds 0 S).bind fun xs S2 => .ok (.lst xs) S2
@[simp] theorem ap_lc2 : mLc2 mi g t mi1 g1 t1 m vs vs1 ρ S = (mi ρ S).bind (lc2K g t mi1 g1 t1 m vs vs1 ρ) := (Eq.refl _).trans rfl
theorem lc2K_ok {ds xs : List D} {S2 : Store} (h : lcL2 g t mi1 g1 t1 m vs1 (wp ρ vs) ds 0 S = .ok xs S2) : lc2K g t mi1 g1 t1 m vs vs1 ρ ds S = .ok (.lst xs) S2 := by
  unfold lc2K
  rw [h]
  rfl
end
end Q
namespace L2
open PySem PySem.Spec PyProof.Rows
theorem nodup_len_leG {β : Type} : ∀ {xs ys : List β}, xs.Nodup → (∀ x ∈ xs, x ∈ ys) → xs.length ≤ ys.length
  | [], _, _, _ => Nat.zero_le _
  | x :: xs, ys, nd, h => by
    obtain ⟨pre, suf, rfl⟩ := List.append_of_mem (h x (List.mem_cons_self ..))
    rw [List.nodup_cons] at nd
    have ih := nodup_len_leG (xs := xs) (ys := pre ++ suf) nd.2 fun z hz => by
      have hz2 := h z (List.mem_cons_of_mem _ hz)
      rw [List.mem_append, List.mem_cons] at hz2
      rw [List.mem_append]
      rcases hz2 with h1 | rfl | h1
      · exact .inl h1
      · exact absurd hz nd.1
      · exact .inr h1
    simp only [List.length_append, List.length_cons] at ih ⊢
    omega
section
variable {X : Cx}
/-- len of a set of tuples of ints -/
def rLenSetT (K : PySem.W.Frag) (P : Program) (w : World) : List V → Hp → VK → Prop := fun xs H Q => ∃ (a : Addr) (L : List (Addr × List Int)), xs = [V.ref a] ∧ H a = some (SetTO P w a L) ∧ (∀ p ∈ L, SqT K H p.1 (p.2.map V.int)) ∧ ((L.map (·.2)).Nodup → Q (.int (L.length : Nat)) H)
theorem cr_lenSetT : CallR X (.builtin "len") (rLenSetT X.K X.prog X.w) := by
  intro pins s σ H vs us Q I r h
  obtain ⟨a, L, rfl, ha, hk, q⟩ := h
  have R0 : SetT0 X.prog X.w s.heap a L := (I.hok a _ ha).1
  obtain ⟨es, ep, t, R⟩ := R0.full fun p hp => I.isT (hk p hp)
  obtain ⟨o, ho, hex, hd⟩ := R.ob
  have e : es.size = L.length := R.size
  have hf := R.few
  rw [Vals.ref1 r]
  exact call_len_set ho hex hd R.fits (by omega) ⟨.int (L.length : Nat), H, I.tok _, ⟨_, by rw [e]⟩, q R.nd⟩
end
end L2
namespace Q
open PySem L2
/-- how many members a list of pairs has, each once -/
def lsKP (d : D) (S : Store) : Res D := match d with
  | .lst xs => match pairsOf xs with
    | some ps => if ps.length < 64 then .ok (.int ((sortU ps).length : Nat)) S else .no
    | none => .no
  | _ => .no
def mLenSetP (m : ME) : ME := fun ρ S => (m ρ S).bind lsKP
theorem sortU_nodup (ps : List (Int × Int)) : (sortU ps).Nodup := (sortU_up ps).imp fun {x y} h e => by
  subst e
  exact plt_irr _ h
section
variable {X : Cx} {cl : Nat → Addr} {E : XK} {e : Expr} {m : ME} {pos : Pos}
theorem ls_pairs {xs : List D} {ps : List (Int × Int)} {v : V} {α1 : List Addr} {G1 H1 : Hp} {S1 : Store} {Q Q2 : VK} (R1 : Rl ⟨X.K, cl⟩ α1 G1 S1 H1) (r1 : Rep ⟨X.K, cl⟩ α1 G1 (.lst xs) v) (q : pairsOf xs = some ps) (hl : ps.length < 64)
    (hp1 : Post ⟨X.K, cl⟩ (Rep ⟨X.K, cl⟩) α1 G1 H1 (.ok (.int ((sortU ps).length : Nat)) S1) Q E) (hQ : ∀ x H2, rLenSetT X.K X.prog X.w [x] H2 Q → Q2 x H2) : rSetOfT X.K X.prog X.w [v] H1 Q2 := by
  unfold Rep at r1
  obtain ⟨l, vs, rfl, s1, t1⟩ := r1
  obtain ⟨ks, rfl, k1, k2, k3⟩ := pairs_at xs ps vs q t1
  have hlen : ks.length = ps.length := by have := congrArg List.length k2; simpa using this
  have two : ∀ p ∈ ks, ∃ i j, p.2 = [i, j] ∧ (i, j) ∈ ps := fun p hp => by
    have : p.2 ∈ ps.map (fun p => [p.1, p.2]) := by rw [← k2]; exact List.mem_map.mpr ⟨p, hp, rfl⟩
    obtain ⟨u, hu, e⟩ := List.mem_map.mp this
    exact ⟨u.1, u.2, e.symm, hu⟩
  refine ⟨l, ks, rfl, R1.sub.sqL (.inl (.inl s1)), fun p hp => .inl (.inl (R1.sub _ _ (k1 p hp))), by rw [hlen]; exact hl, fun a L ha hL hL2 => ?_⟩
  obtain ⟨R2, e2⟩ := R1.new ha (SetTO X.prog X.w a L)
  refine hQ _ _ ⟨a, L, rfl, upd_same, fun p hp => .inl (.inl (R2.sub _ _ (e2.sub _ _ (k1 p (hL p hp))))), fun nd => ?_⟩
  have mem : ∀ z, z ∈ (L.map fun p => pk p.2) ↔ z ∈ ps := fun z => by
    constructor
    · intro hz
      obtain ⟨p, hp, rfl⟩ := List.mem_map.mp hz
      obtain ⟨i, j, ep, mp⟩ := two p (hL p hp)
      rw [ep]
      exact mp
    · intro hz
      have : [z.1, z.2] ∈ ks.map (·.2) := by rw [k2]; exact List.mem_map.mpr ⟨z, hz, rfl⟩
      obtain ⟨p, hp, e⟩ := List.mem_map.mp this
      obtain ⟨p', hp', e'⟩ := List.mem_map.mp (hL2 p hp)
      exact List.mem_map.mpr ⟨p', hp', by rw [e', e]; rfl⟩
  have ndM : (L.map fun p => pk p.2).Nodup := by
    unfold List.Nodup at nd ⊢
    rw [List.pairwise_map] at nd ⊢
    refine nd.imp_of_mem fun {p q} hp hq hpq h => ?_
    obtain ⟨i, j, ep, _⟩ := two p (hL p hp)
    obtain ⟨i', j', eq, _⟩ := two q (hL q hq)
    rw [ep, eq] at h hpq
    have h' : (i, j) = (i', j') := h
    cases h'
    exact hpq rfl
  have len : L.length = (sortU ps).length := by
    have l1 := nodup_len_leG ndM fun z hz => mem_sortU.mpr ((mem z).mp hz)
    have l2 := nodup_len_leG (sortU_nodup ps) fun z hz => (mem z).mpr (mem_sortU.mp hz)
    rw [List.length_map] at l1 l2
    omega
  rw [len]
  exact hp1 _ _ _ _ e2 R2 (by simp [Rep])
theorem q_lensetP {k : Nat} {p p1 p2 : Pos} (hr : Room k X.A) (h : QE X cl E e m) (hg : Gl X "len") (hm : X.mg "len" = none) (hg' : Gl X "set") (hm' : X.mg "set" = none) (hc : X.calm = true := by rfl)
    (he : starEach [e] X.env = (false, eval e X.env) :: starEach [] X.env := by rfl)
    (he2 : starEach [.Call (.Name "set" p1) [e] [] p2] X.env = (false, eval (.Call (.Name "set" p1) [e] [] p2) X.env) :: starEach [] X.env := by rfl)
    (hpl : (backTo p2 (starEach [] X.env)).any (·.1) = false := by rfl) (hpl2 : (backTo pos (starEach [] X.env)).any (·.1) = false := by rfl) :
    QE X cl E (.Call (.Name "len" p) [.Call (.Name "set" p1) [e] [] p2] [] pos) (mLenSetP m) := by
  obtain ⟨t, h1, h2⟩ := h.ex
  have c1 := pe_callTy (pos := p2) (p := p1) (cr_setOfT hc hr.units) hg' hm' (by rfl) (pa_cons h1 pa_nil he) (by decide) (by decide) he hpl
  refine ⟨_, pe_callB cr_lenSetT hg hm (by rfl) (pa_cons c1 pa_nil he2) (by decide) (by decide) he2 hpl2, fun ρ S σ α G H Q hρ hR hp => ?_⟩
  refine h2 ρ S σ α G H _ hρ hR (post_bind hp fun d S1 α1 G1 H1 v _ e1 R1 r1 hp1 => ?_)
  cases d with
  | lst xs =>
    simp only [lsKP] at hp1
    cases q : pairsOf xs with
    | none => rw [q] at hp1; exact hp1.elim
    | some ps =>
      rw [q] at hp1
      simp only at hp1
      split at hp1
      · rename_i hl
        exact ls_pairs R1 r1 q hl hp1 fun x H2 z => z
      · exact hp1.elim
  | _ => exact hp1.elim
end
section
variable {S : Store} {ρ : Env}
@[simp] theorem ap_lensetP (m : ME) : mLenSetP m ρ S = (m ρ S).bind lsKP := (Eq.refl _).trans rfl
theorem lsKP_pairs {ps : List (Int × Int)} (h : ∀ p ∈ ps, (0 ≤ p.1 ∧ p.1 < lim) ∧ 0 ≤ p.2 ∧ p.2 < lim) (hl : ps.length < 64) : lsKP (.lst (ps.map pairD)) S = .ok (.int ((sortU ps).length : Nat)) S := by
  simp only [lsKP, pairsOf_map ps h, hl, if_true]
theorem sortU_nlen {ps : List (Int × Int)} (h : ps.Nodup) : (sortU ps).length = ps.length :=
  Nat.le_antisymm (nodup_len_leG (sortU_nodup ps) fun x hx => mem_sortU.mp hx) (nodup_len_leG h fun x hx => mem_sortU.mpr hx)
end
end Q
namespace L2
open PySem PySem.Spec PyProof.Rows
section
variable {X : Cx}
def rCountD (K : PySem.W.Frag) : V → List V → Hp → VK → Prop := fun x xs H Q => ∃ (a : Addr) (y : V) (d : PyData) (ds : List PyData), x = V.ref a ∧ xs = [y] ∧ Dp K H (V.ref a) (.list ds) ∧ Dp K H y d ∧
  SeqAt.shaped (.list ds) = true ∧ SeqAt.shaped d = true ∧ Q (.int ((ds.countP fun z => PyData.eqv z d : Nat) : Int)) H
theorem mt_countD (hu : X.A.units + 65 < cLine) : MtR X "list.count" (rCountD X.K) := by
  intro pins s σ H x xs v us Q I rx rxs h
  obtain ⟨a, y, d, ds, rfl, rfl, hl, hy, sl, sd, q⟩ := h
  cases rx
  cases rxs with
  | cons ry rt =>
    rename_i uy ut
    cases rt
    obtain ⟨bs, r1⟩ := Dp.reads I d y uy hy ry
    have hxs : PyData.canLayAll0 ds = true := SeqAt.canLay_of_shaped sl
    have hroom : X.A.units + 1 + min (PyData.depthAll ds) d.depth < cLine := room_in_shaped sd hu
    cases hl with
    | lst hs ha =>
      obtain ⟨its, rv, ⟨⟨cls, dd, data, sls⟩, n, ho, hc, hdn, hdt⟩, hlen⟩ := I.list hs
      simp only at hc hdt
      subst hc hdt
      obtain ⟨as, h4⟩ := Dp.readsAll I ds _ its ha rv
      have hmap : its.map (SeqAt.readOf s.heap) = ds := SeqAt.readsAll_map ds its as hxs h4
      have e : its.countP (fun u => PyData.eqv (SeqAt.readOf s.heap u) d) = ds.countP fun z => PyData.eqv z d := by
        rw [← hmap, List.countP_map]
        rfl
      refine call_meets PySem.F.slot_list_count ⟨_, ho, rfl⟩ PySem.F.entry_list_count (PySem.F.args_list_count_2 _ _)
        (SeqAt.list_countAt a its.toArray n dd sls uy (fun u => PyData.eqv (SeqAt.readOf s.heap u) d)) ⟨ho, SeqAt.items_eqAt (vs := its.toArray) (show ReadsAll s.heap its.toArray.toList ds as from h4) r1 hxs (SeqAt.canLay_of_shaped sd) hroom, ?_⟩
      exact ⟨.int ((its.countP (fun u => PyData.eqv (SeqAt.readOf s.heap u) d) : Nat) : Int), H, I.tok _, ⟨_, rfl⟩, by rw [e]; exact q⟩
end
end L2
namespace Q
open PySem L2
def countD (xs : List D) (a : D) : Nat := xs.countP fun z => deq z a
def countK (d y : D) (S : Store) : Res D := match deref S d with
  | .lst xs => if shal 20 y && shal 20 (.lst xs) then .ok (.int (countD xs y : Nat)) S else .no
  | _ => .no
def isSeqS (S : Store) : D → Bool
  | .lst _ => true
  | .ref k => notOb S k
  | _ => false
/-- xs.count(x) -/
def mCount (mo m : ME) : ME := fun ρ S => (mo ρ S).bind fun o S1 => match o with
  | .lst xs => (m ρ S1).bind fun y S2 => countK (.lst xs) y S2
  | _ => .no
theorem count_py {xs : List D} {a : D} (h : ∀ x ∈ xs, shal 19 x = true) (ha : shal 20 a = true) : ((toPyL xs).countP fun z => PyData.eqv z (toPy a)) = countD xs a := by
  rw [toPyL_map, List.countP_map]
  unfold countD
  induction xs with
  | nil => rfl
  | cons x xs ih =>
    simp only [List.countP_cons, Function.comp]
    have ih' := ih fun z hz => h z (by simp [hz])
    simp only [deq_py 19 20 x a (h x (by simp)) ha, ih']
section
variable {X : Cx} {cl : Nat → Addr} {E : XK} {o e : Expr} {mo m : ME} {apos cpos : Pos}
theorem q_count {k : Nat} (hr : Room k X.A) (ho : QE X cl E o mo) (he : QE X cl E e m)
    (hbase : attributeBase o "count" X.env (eval o X.env) = eval o X.env := by rfl)
    (hfew : ((backTo cpos (starEach [e] X.env)).all (fun x => !x.1) && (backToKw cpos (keywordEach [] X.env)).all (fun x => x.1.isSome)
      && decide ([e].length + ([] : List Keyword).length + (if ([] : List Keyword).isEmpty then 0 else 1) < 30)) = true := by rfl)
    (hline : (apos.endLine == cpos.line) = true := by rfl) (hs : starEach [e] X.env = (false, eval e X.env) :: starEach [] X.env := by rfl) (hplain : (backTo cpos (starEach [] X.env)).any (·.1) = false := by rfl) :
    QE X cl E (.Call (.Attribute o "count" apos) [e] [] cpos) (mCount mo m) := by
  have hu : X.A.units + 65 < cLine := by have := hr.un; omega
  obtain ⟨t, h1, h2⟩ := ho.ex
  obtain ⟨u, k1, k2⟩ := he.ex
  refine ⟨_, pe_bm PySem.F.plainAttrs_list PySem.F.slot_list_count PySem.F.type_list_count (mt_countD hu) h1 (pa_cons k1 pa_nil hs) hbase hfew hline hs hplain, fun ρ S σ α G H Q hρ hR hp => ?_⟩
  refine h2 ρ S σ α G H _ hρ hR (post_bind hp fun d S1 α1 G1 H1 v _ e1 R1 r1 hp1 => ?_)
  cases d with
  | lst xs =>
    have r1' := r1
    unfold Rep at r1'
    obtain ⟨l, vs, rfl, s1, t1⟩ := r1'
    refine ⟨?_, k2 ρ S1 σ α1 G1 H1 _ (hρ.mono e1) R1 (post_bind hp1 fun y S2 α2 G2 H2 w _ e2 R2 r2 hp2 => ?_)⟩
    · exact .inl ⟨rfl, _, R1.sub.sqL (.inl (.inl s1))⟩
    · unfold countK at hp2
      simp only [deref] at hp2
      split at hp2
      · rename_i hs2
        rw [Bool.and_eq_true] at hs2
        have sx := shal_shaped hs2.2
        have dx := rep_dp (Γ := ⟨X.K, cl⟩) R2.sub 20 (.lst xs) (.ref l) hs2.2 (Rep.mono e2.pre e2.sub _ _ r1)
        simp only [toPy] at sx dx
        exact ⟨l, w, _, _, rfl, rfl, dx, rep_dp (Γ := ⟨X.K, cl⟩) R2.sub 20 y w hs2.1 r2, sx, shal_shaped hs2.1, by rw [count_py (shal19l hs2.2) hs2.1]; exact post_ok hp2 R2 (by simp [Rep])⟩
      · exact hp2.elim
  | _ => exact hp1.elim
end
section
variable {S : Store} {ρ : Env}
def countK1 (m : ME) (ρ : Env) (o : D) (S : Store) : Res D := match o with
  | .lst xs => (m ρ S).bind fun y S2 => countK (.lst xs) y S2
  | _ => .no
def countK2 (xs : List D) (y : D) (S : Store) : Res D := countK (.lst xs) y S
@[simp] theorem ap_count (mo m : ME) : mCount mo m ρ S = (mo ρ S).bind (countK1 m ρ) := (Eq.refl _).trans rfl
@[simp] theorem countK1_ap (m : ME) (xs : List D) : countK1 m ρ (.lst xs) S = (m ρ S).bind (countK2 xs) := (Eq.refl _).trans rfl
theorem countK2_of {xs : List D} {y : D} (h1 : shal 20 y = true) (h2 : shal 20 (.lst xs) = true) : countK2 xs y S = .ok (.int (countD xs y : Nat)) S := by
  unfold countK2 countK
  simp only [deref, h1, h2]
  rfl
end
end Q
set_option exponentiation.threshold 10000
namespace Q
open PySem L2
def strI (i : Int) : Str := toString i
def gStrI : D → Store → Res D := fun d S => match d with
  | .int i => if i.natAbs < 2 ^ 1900 then .ok (.str (strI i)) S else .no
  | _ => .no
def fStrI := un1 gStrI
theorem strIQ {X : Cx} {cl : Nat → Addr} {E : XK} : QC X cl E (.type "str") fStrI := by
  refine ⟨_, call_str_int, snd_un1 fun d S α G H v Q hR rv h => ?_⟩
  cases d <;> try exact h.elim
  rename_i i
  simp only [Rep] at rv
  subst rv
  unfold gStrI at h
  simp only at h
  split at h
  · rename_i hb
    refine ⟨i, rfl, ?_, post_ok (x := V.str (strI i)) h hR (by simp [Rep])⟩
    by_cases h0 : i.natAbs = 0
    · rw [h0]; decide
    · exact Nat.lt_of_lt_of_le ((Nat.log2_lt h0).mpr hb) (by decide)
  · exact h.elim
section
variable {S : Store}
theorem strI_int {i : Int} (h : i.natAbs < 2 ^ 1900) : fStrI [.int i] S = .ok (.str (strI i)) S := by
  show gStrI (.int i) S = _
  unfold gStrI
  simp only [h, if_true]
end
end Q
namespace Q
open PySem L2 PySem.Calls PyProof.Rows
/-- what the text says of such an __init__ -/
structure SupSrc (st : Stmt) (txt : Str) : Prop where
  body : ∃ (j : Nat) (p0 p1 p2 p3 p4 p5 : Pos), defBody st = [.Expr (.Call (.Attribute (.Call (.Name "super" p0) [] [] p1) "__init__" p2) [.Constant (.str txt) j p3] [] p4) p5] ∧
    ∀ (qual : Str) (L fa cc : Addr) (cd : Value), ∃ pl : Sem Bool, eval (.Call (.Attribute (.Call (.Name "super" p0) [] [] p1) "__init__" p2) [.Constant (.str txt) j p3] [] p4) (PySem.W.ksEnv qual (defScope st) L fa cd cc) = (do
      let ov ← attributeBase (.Call (.Name "super" p0) [] [] p1) "__init__" (PySem.W.ksEnv qual (defScope st) L fa cd cc) (eval (.Call (.Name "super" p0) [] [] p1) (PySem.W.ksEnv qual (defScope st) L fa cd cc))
      standAt p2.atName
      let (fn, first) ← holding [ov] (getMethod ov "__init__" pl)
      callWith p4 fn first (backTo p4 (starEach [.Constant (.str txt) j p3] (PySem.W.ksEnv qual (defScope st) L fa cd cc))) [])
  arg : ∃ ar : Arg, (defArgs st).posonlyargs ++ (defArgs st).args = [ar] ∧ ar.arg = ("self" : Str)
  ns : (defScope st).names.lookup ("super" : Str) = some .globalImplicit
  nc : (defScope st).names.lookup ("__class__" : Str) = some .free
  nl : (defScope st).names.lookup ("self" : Str) = some .local
  ki : (defScope st).kind = .function
  it : ∀ (qual : Str) (L fa cc : Addr) (cd : Value), interactive (PySem.W.ksEnv qual (defScope st) L fa cd cc) = false
  co : (defScope st).isCoroutine = false
  ge : (defScope st).isGenerator = false
  ce : ∀ x ∈ (defScope st).names, x.2 ≠ .cell
  bi : ∀ (cc : Addr) (x qual : Str) (kV doc pm : Value) (an : Option Addr) (cdv ct u : Value), bindArgs (PySem.W.ksFn x qual (defArgs st) (defBody st) (defScope st) .none kV doc pm an cdv ct cc) ⟨[u], []⟩ = pure [(("self" : Str), u)]
/-- what stands in the heap of the class at C, its __init__ at f; B: the class above it -/
structure ExcU (P : Program) (K : PySem.W.Frag) (C f : Addr) (B newId initId : String) (bmB : List Value) (st : Stmt) : Prop where
  fb : ExcBaseFacts B newId initId bmB
  kf : PySem.W.KxsFacts B initId
  ci : PySem.W.excInitIn K C bmB newId = true
  ini : PySem.W.findIn K (.ref C) "__init__" = some (some (.ref f))
  ty : PySem.W.typeIn K (.ref f) = some (.type "function")
  fn : ∃ (oc : Value) (od : Option Addr) (x qual : Str) (kV doc pm : Value) (an : Option Addr) (ct : Value) (osl : Array (Option Value)) (cc cda : Addr), K.lookup f = some ⟨oc, od, .func (PySem.W.ksFn x qual (defArgs st) (defBody st) (defScope st) .none kV doc pm an (.ref cda) ct cc), osl⟩ ∧ PySem.W.codeIn K (.ref cda) qual = true ∧
    (∃ ccl cdd vs ccs file tf, K.lookup cda = some ⟨ccl, cdd, .fields vs, ccs⟩ ∧ vs[2]? = some (.str file tf) ∧ ((P.main.file : Str) == file) = true) ∧ ∃ cl cld csl, K.lookup cc = some ⟨cl, cld, .cell (some (.ref C)), csl⟩
  cl : (PySem.W.clsIn K C).isSome = true
  ms : PySem.W.mroIn K C (.ref C) = some true
  nsu : PySem.W.nsIn K mainGlobals "super" = some none
  top : (P.main.scope.names.lookup ("super" : Str)).isSome = false
  any : PySem.W.nsIn K cStatics "thirdparty.any" = some none
  sup : PySem.W.ks_superIn K C C "__init__" = some (some (.builtin initId))
  sb : PySem.W.subIn K (.ref C) (.type B) = some true
  sbe : PySem.W.subIn K (.ref C) (.type "BaseException") = some true
  tyC : PySem.W.typeIn K (.ref C) = some (.type "type")
  kC : PySem.W.keepIn K (.ref C) = true
section
variable {P : Program} {w : World} {A : Around} {R : Result → Shared → Prop} {E : Value → Shared → Prop} {K : PySem.W.Frag} {C f x t0 : Addr} {h h0 : Heap} {g : Array GenState} {d : Drawn} {tk : Nat} {os : OsState} {B newId initId : String} {bmB : List Value} {st : Stmt} {txt : Str} {mg : Str → Option Value}
theorem sup_init (S : SupSrc st txt) (T : ExcU P K C f B newId initId bmB st) (hroom : A.depth < recursionLimit) (X0 : K.In h0) (hlim : h.NoLimit) (kk : ∀ b o, h0.get? b = some o → h.get? b = some o) (hle : h0.objs.size ≤ h.objs.size) (GG : h.Ns mainGlobals mg)
    (BB : ∃ mb, h.Ns builtinsNs mb ∧ ∀ y : Str, y ≠ "__name__" → mb y = bootBuiltins y) (hx : h.get? x = some (PySem.W.excObj C t0 none .none)) (hx0 : h0.get? x = none)
    (hq : ∀ h' tk' t1, (∀ b o, h0.get? b = some o → h'.get? b = some o) → h'.get? x = some (PySem.W.excObj C t1 none .none) → R (.ok (.ret .none)) ⟨h', g, d, tk', os⟩) :
    codeAny (model P w) A (.call (.ref f) ⟨[.ref x], []⟩) R ⟨h, g, d, tk, os⟩ := by
  have X : K.In h := X0.keeps kk
  obtain ⟨j, p0, p1, p2, p3, p4, p5, hb, hev⟩ := S.body
  obtain ⟨ar, har, hself⟩ := S.arg
  obtain ⟨oc, od, nm, qual, kV, doc, pm, an, ct, osl, cc, cda, lf, lcode, ⟨ccl, cdd, vs, ccs, file, tf, lcd, lvs, lfile⟩, cl, cld, csl, lcc⟩ := T.fn
  refine ks_codeAny_call_defAt (fd := PySem.W.ksFn nm qual (defArgs st) (defBody st) (defScope st) .none kV doc pm an (.ref cda) ct cc) (body := defBody st) (binds := [(("self" : Str), .ref x)]) hroom (X _ _ lf) rfl hlim (PySem.W.codeRec_of X lcode) rfl (.of_eq (S.bi cc nm qual kV doc pm an (.ref cda) ct (.ref x))) S.ce
    (fun y hy => ?_) (fun h₁ hns hk₁ => ?_) S.co S.ge S.ki
  · rcases List.mem_cons.mp hy with e | e
    · rw [e]; exact S.nl
    · cases e
  have env : callEnv (PySem.W.ksFn nm qual (defArgs st) (defBody st) (defScope st) .none kV doc pm an (.ref cda) ct cc) h.objs.size f = PySem.W.ksEnv qual (defScope st) h.objs.size f (.ref cda) cc := rfl
  rw [env]
  have X1 : K.In h₁ := X.keeps hk₁
  have F0 : Fr h0 h.objs.size h₁ (fun y => [(("self" : Str), Value.ref x)].reverse.lookup y) := ⟨hns, fun b o e => hk₁ b o (kk b o e), hle⟩
  have xs : x ≠ h.objs.size := Nat.ne_of_lt (Heap.lt_size hx)
  have N0 : News h0 h.objs.size h₁ [(x, PySem.W.excObj C t0 none .none)] := fun p hp => by
    rcases List.mem_cons.mp hp with e | e
    · subst e; exact ⟨hk₁ _ _ hx, xs, hx0⟩
    · cases e
  rw [hb]
  refine ks_wpAt_execs_cons (ks_wpAt_Expr_any ?_ (S.it _ _ _ _ _))
  obtain ⟨pl, hev⟩ := hev qual h.objs.size f cc (.ref cda)
  refine ks_wpAt_MethodCall ?_ hev
  have hkf : (PySem.W.ksEnv qual (defScope st) h.objs.size f (.ref cda) cc).scope.kind = .function := S.ki
  refine ks_wpAt_super_base S.ns S.nc (by decide) rfl (X1 _ _ lf) rfl (ar := ar) (by show ((defArgs st).posonlyargs ++ (defArgs st).args).head? = some ar; rw [har]; rfl) rfl (X1 _ _ lcd) rfl lvs lfile T.top ?_
  obtain ⟨mb, bn, bb⟩ := BB
  refine PySem.W.ks_loadName_global hkf S.ns (loadGlobal_builtin (show h₁.Ns mainGlobals mg from GG.keeps hk₁) (PySem.W.mg_none_of X GG T.nsu) (show h₁.Ns builtinsNs mb from bn.keeps hk₁) ((bb _ (by decide)).trans (by rfl)) ⟨rfl, ?_⟩)
  refine wpAny_loadName_free hkf S.nc rfl ⟨_, X1 _ _ lcc, rfl⟩ ?_
  rw [hself]
  refine wpAny_loadName_local hkf S.nl hns (by rfl) ?_
  obtain ⟨cdC, hcC⟩ := Option.isSome_iff_exists.mp T.cl
  obtain ⟨oD, hD1, hD2⟩ : ∃ oD, h₁.get? C = some oD ∧ oD.data = .cls cdC := by
    have z := hcC
    unfold PySem.W.clsIn at z
    split at z
    · rename_i q
      cases z
      exact ⟨_, X1 _ _ q, rfl⟩
    · cases z
  refine ks_wpAny_isType_cls hD1 hD2 ⟨rfl, ?_⟩
  have hx1 := hk₁ _ _ hx
  refine ks_wpAny_call_super hD1 hD2 hx1 rfl (fun c e => by cases e) (PySem.W.looks_mroIn X1 T.ms) (fun h2 e2 k2 => ?_)
  have X2 : K.In h2 := X1.keeps k2
  have I2 : PySem.W.InstAt h2 x (PySem.W.excObj C t0 none .none) C none := ⟨k2 _ _ hx1, rfl, rfl, trivial⟩
  have hne : x ≠ C := PySem.W.ks_ne X2 I2 hcC
  have hal := T.sup
  unfold PySem.W.ks_superIn at hal
  rw [hcC] at hal
  have hmro : PySem.W.Looks (model P w) h2 (mroOf (.ref C)) cdC.mro := fun A Q E s k q => wpAny_bind ((PySem.W.looks_clsIn X2 hcC) A _ E s k (wpAny_pure q))
  have hBx : PySem.W.Looks (model P w) h2 (isInstance (.ref x) (.type B)) true := I2.type.andThen (PySem.W.looks_subIn X2 T.sb)
  refine PySem.W.kxs_getMethod T.kf e2 (PySem.W.looks_opaque X2 T.any) hmro rfl X2 hal hBx hne (by decide) ?_
  -- the bound __init__ stands at u
  obtain ⟨u, hu⟩ : ∃ u, u = h2.objs.size := ⟨_, rfl⟩
  have k3 : ∀ b o, h2.get? b = some o → (h2.push (PySem.W.kxs_mw initId x)).get? b = some o := fun b o e => Heap.get?_push_of_some _ e
  have gu : (h2.push (PySem.W.kxs_mw initId x)).get? u = some (PySem.W.kxs_mw initId x) := by rw [hu]; exact Heap.get?_push_at rfl rfl
  rw [← hu]
  generalize h2.push (PySem.W.kxs_mw initId x) = h3 at k3 gu
  have kall : ∀ b o, h₁.get? b = some o → h3.get? b = some o := fun b o e => k3 b o (k2 b o e)
  have F3 : Fr h0 h.objs.size h3 (fun y => [(("self" : Str), Value.ref x)].reverse.lookup y) := ⟨hns.keeps kall, fun b o e => kall b o (F0.keep b o e), hle⟩
  have ux : u ≠ x := fun z => by
    rw [z, kall _ _ hx1] at gu
    cases gu
  have below : ∀ {b : Addr} {o : Obj}, h2.get? b = some o → u ≠ b := fun {b o} e z => by
    have l := Heap.lt_size e
    rw [← z, hu] at l
    exact absurd l (Nat.lt_irrefl _)
  have uL : u ≠ h.objs.size := by
    obtain ⟨o, _, _, eo, _⟩ := hns
    exact below (k2 _ _ eo)
  have u0 : h0.get? u = none := by
    cases z : h0.get? u with
    | none => rfl
    | some o => exact absurd rfl (below (k2 _ _ (hk₁ _ _ (kk _ _ z))))
  have N3 : News h0 h.objs.size h3 [(u, PySem.W.kxs_mw initId x), (x, PySem.W.excObj C t0 none .none)] := fun p hp => by
    rcases List.mem_cons.mp hp with e | e
    · subst e; exact ⟨gu, uL, u0⟩
    · rcases List.mem_cons.mp e with e | e
      · subst e; exact ⟨kall _ _ hx1, xs, hx0⟩
      · cases e
  have he : starEach [.Constant (.str txt) j p3] (PySem.W.ksEnv qual (defScope st) h.objs.size f (.ref cda) cc) = (false, eval (.Constant (.str txt) j p3) (PySem.W.ksEnv qual (defScope st) h.objs.size f (.ref cda) cc)) :: starEach [] (PySem.W.ksEnv qual (defScope st) h.objs.size f (.ref cda) cc) := by rfl
  refine PySem.W.kxs_callWith1 N3 (List.mem_cons_self ..) ?_ he (by rfl)
  rw [he]
  show wpAny _ _ (spliced ((false, eval (.Constant (.str txt) j p3) _) :: backTo p4 (starEach [] _))) _ _ _
  refine Calls.spliced_cons ?_
  refine wpAny_Constant_str ?_
  refine Calls.spliced_nil ⟨gu, ?_⟩
  refine PySem.W.kxs_call (rest := [_]) (s := { heap := h3, gens := g, drawn := d, toks := _, os := os }) ⟨F3.ns, F3.keep, F3.above⟩ X0 N3 T.fb T.ci (List.mem_cons_self ..) (.tail ux (.head fun _ z => nomatch z)) (by show 1 ≤ sizeLine; rw [sizeLine_eq]; omega) (fun t1 h4 F4 N4 _ => ?_)
  exact wpAt_of_wpAny (wpAny_execs_nil (hq _ _ t1 F4.keep (N4 (x, _) (by simp)).1))
end
/-- C() within a text, C a class of exceptions without a field -/
theorem pmk_u {X : Cx} {C f : Addr} {B newId initId : String} {bmB : List Value} {st : Stmt} {txt x : Str} {p pos : Pos} (S : SupSrc st txt) (T : ExcU X.prog X.K C f B newId initId bmB st) (hr : Room 1 X.A) (hg : Gl X x) (hm : X.mg x = some (.ref C)) (hdb : (x == ("__debug__" : Str)) = false := by decide) :
    PMk X (.Call (.Name x p) [] [] pos) (fun _ H Q => Q (.ref C) none H) := by
  intro pins s σ H Q I h
  obtain ⟨nm, N', qn, bs, bm, hdct, sn, sub, ab, col, dd, k0, k1, k2, k3, k5, hC, hT⟩ := PySem.W.excInit_of I.kIn T.ci
  refine wpAny_Call_Name_kw (ld_glob I hg hm ?_ hdb)
  refine PySem.W.callWith_K0 I.kIn T.kC ?_
  show wpAny _ _ (call (.ref C) []) _ _ _
  have I0 := I
  obtain ⟨hp, g, dr, tk, os⟩ := s
  have kk : ∀ b o, hp.get? b = some o → ((hp.push (PySem.W.kdv_tup [])).push (HandSPX.excO C hp.objs.size)).get? b = some o := fun b o e => Heap.get?_push_of_some _ (Heap.get?_push_of_some _ e)
  have gx : ((hp.push (PySem.W.kdv_tup [])).push (HandSPX.excO C hp.objs.size)).get? (hp.objs.size + 1) = some (HandSPX.excO C hp.objs.size) := by heap_get
  have fresh : hp.get? (hp.objs.size + 1) = none := by
    cases z : hp.get? (hp.objs.size + 1) with
    | none => rfl
    | some o => exact absurd (Nat.lt_of_succ_lt (Heap.lt_size z)) (Nat.lt_irrefl _)
  have lim : hp.NoLimit := I.ok.mod.nolimit.keeps I.bk
  obtain ⟨mb, bn, bb⟩ := I.ok.mod.blt
  refine wpAny_call (HandSPX.call_own T.fb hT hC (PySem.W.looks_findIn I.kIn T.ini) (fun self => PySem.W.bind_fn I.kIn self T.ty) (Nat.zero_le _) ?_)
  refine sup_init (h0 := hp) (mg := X.mg) S T (hr.make C [] []).depth I.kIn (lim.keeps kk) kk (by rw [Heap.size_push, Heap.size_push]; exact Nat.le_succ_of_le (Nat.le_succ _)) ((I.ok.mod.glob.keeps I.bk).keeps kk) ⟨mb, (bn.keeps I.bk).keeps kk, bb⟩ gx fresh (fun h' tk' t1 k' e' => ?_)
  refine ⟨rfl, ?_⟩
  refine ⟨hp.objs.size + 1, _, _, ⟨hp, g, dr, tk, os⟩, H, .ref C, none, rfl, I0, k', fresh, e', ⟨rfl, rfl⟩, rfl, rfl, I0.hok.fresh (Nat.le_succ _), rfl, I0.bare, raises_own T.sbe T.tyC, h⟩
end Q
namespace Q
open PySem L2
/-- the wish of a frame, seen with its slots -/
abbrev fw (E : XK) : WX := fun c d _ H => E c d H
/-- raise C(), C without a field -/
def mRaise (c : Nat) : MS := fun _ S => .ex ⟨c, []⟩ S
theorem qs_raise {X : Cx} {cl : Nat → Addr} {E : XK} (c : Nat) {f : Addr} {B newId initId : String} {bmB : List Value} {st : Stmt} {txt x : Str} {p p2 pos : Pos} (S0 : SupSrc st txt) (T : ExcU X.prog X.K (cl c) f B newId initId bmB st) (tk : Takes X (fw E)) (hr : Room 1 X.A) (hg : Gl X x) (hm : X.mg x = some (.ref (cl c)))
    (hc : X.calm = true := by rfl) (hdb : (x == ("__debug__" : Str)) = false := by decide) : QS X cl E (.Raise (some (.Call (.Name x p) [] [] p2)) none pos) (mRaise c) :=
  ⟨_, ps_raise hc tk (pmk_u S0 T hr hg hm hdb), fun ρ S σ α G H Dn hρ hR hp => hp α G H _ _ (Ext.refl _ _ _) hR ⟨rfl, [], by simp [RepL], .inl ⟨rfl, rfl⟩⟩⟩
/-- what a def that may raise hands back -/
def endX (n : Nat) (r : Res Fl) : Res D := match r with
  | .ok (.nx _) S => fin n .non S
  | .ok (.rt d) S => fin n d S
  | .ex e S => if pureL e.fs && (S.take n).all (Cell.below n) then .ex e (S.take n) else .no
  | _ => .no
def fnX (nN nP : Nat) (n : MS) : List D → Store → Res D := fun ds S => if ds.length = nP then endX S.length (n (ds.map some ++ List.replicate (nN - nP) none) S) else .no
section
variable {P : Program} {w : World} {K : PySem.W.Frag} {mg : Str → Option Value} {base : Heap}
open PySem.Spec PyProof.Rows in
/-- THE RULE for a def that may raise -/
theorem fn_okX {x qual : Str} {st : Stmt} {f : Addr} {fd : FuncData} {N ps : List Str} {k : Nat} {cl : Nat → Addr} (nN nP : Nat) {n : MS} (F : Fun K x qual st f fd) (S : FnScope N ps (defScope st))
    (hbody : ∀ (cdv : Value) (A : Around) (outer : List PySem.Env) (s : Shared) (H : Hp) (E : XK), Room k (A.deeper (envOfC qual (defScope st) s.heap.objs.size f cdv)) → Takes (cxOf (L2.CX P w) P w K mg base N qual (defScope st) f cdv A outer s H E) (fw E) →
      PassesOwn (model P w) (cxOf (L2.CX P w) P w K mg base N qual (defScope st) f cdv A outer s H E).A (cxOf (L2.CX P w) P w K mg base N qual (defScope st) f cdv A outer s H E).env (cxOf (L2.CX P w) P w K mg base N qual (defScope st) f cdv A outer s H E).xe → QSs (cxOf (L2.CX P w) P w K mg base N qual (defScope st) f cdv A outer s H E) cl E (defBody st) n)
    (hN : N.length = nN := by rfl) (hP : ps.length = nP := by rfl) : FnOk P w K mg base (L2.CX P w) (k + 1) f fd ps (spM ⟨K, cl⟩ (fnX nN nP n)) := by
  refine F.okX S (fun vs H Q E h => ?_) (fun cdv A outer s H vs Q E hr h => ?_)
  · obtain ⟨ds, α, G, S, r, hR, hp⟩ := h
    unfold fnX at hp
    split at hp
    · rename_i e
      rw [← r.length, e, hP]
    · exact hp.elim
  · obtain ⟨ds, α, G, S', r, hR, hp⟩ := h
    obtain ⟨t, h1, h2⟩ := (hbody cdv A outer s H E hr (takes_of rfl rfl rfl rfl) (passes_of rfl)).ex
    refine ⟨t, h1, ?_⟩
    unfold fnX at hp
    split at hp
    · rename_i e
      rw [← hN, ← hP, show ps.length = vs.length by rw [hP, ← e, r.length]] at hp
      refine h2 _ S' _ α G H _ (envR_start r) hR ?_
      revert hp
      cases n (ds.map some ++ List.replicate (N.length - vs.length) none) S' with
      | no => exact id
      | ex e S2 =>
        intro hp α' G' H' c x e1 R1 r1
        unfold endX at hp
        simp only at hp
        split at hp
        · rename_i hq
          rw [Bool.and_eq_true] at hq
          obtain ⟨R2, e2⟩ := Rl.cut e1 R1 hR hq.2
          obtain ⟨ec, ws, rw_, rf⟩ := r1
          exact hp α G' H' c x e2 R2 ⟨ec, ws, pureL_rep _ _ hq.1 rw_, rf⟩
        · exact hp.elim
      | ok fl S2 =>
        cases fl with
        | nx ρ => exact fun hp α' G' H' σ' e R _ => fin_post hR hp α' G' H' .non e R (by simp [Rep])
        | rt d => exact fun hp α' G' H' v e R r => fin_post hR hp α' G' H' v e R r
        | bk ρ => exact fun hp => hp.elim
        | ct ρ => exact fun hp => hp.elim
    · exact hp.elim
/-- the same def where no exception is let out -/
theorem fn_quiet {k nN nP : Nat} {f : Addr} {fd : FuncData} {ps : List Str} {cl : Nat → Addr} {n : MS} (F : FnOk P w K mg base (L2.CX P w) k f fd ps (spM ⟨K, cl⟩ (fnX nN nP n))) : FnOk P w K mg base CX0 k f fd ps (spM ⟨K, cl⟩ (fnM nN nP n)) := by
  have back : ∀ {vs H Q E}, spM ⟨K, cl⟩ (fnM nN nP n) vs H Q E → spM ⟨K, cl⟩ (fnX nN nP n) vs H Q E0 := fun {vs H Q E} ⟨ds, α, G, S, r, hR, hp⟩ => ⟨ds, α, G, S, r, hR, by
    unfold fnM at hp
    unfold fnX
    split at hp
    · rename_i hl
      rw [if_pos hl]
      revert hp
      cases n (ds.map some ++ List.replicate (nN - nP) none) S with
      | no => exact fun hp => hp.elim
      | ex e S2 => exact fun hp => hp.elim
      | ok fl S2 =>
        intro hp
        have quiet : ∀ {d : D}, Post ⟨K, cl⟩ (Rep ⟨K, cl⟩) α G H (fin S.length d S2) Q E → Post ⟨K, cl⟩ (Rep ⟨K, cl⟩) α G H (fin S.length d S2) Q E0 := fun {d} z => by
          unfold fin at z ⊢
          split at z
          · rename_i q; rw [if_pos q]; exact z
          · rename_i q
            rw [if_neg q]
            split at z
            · rename_i q2; rw [if_pos q2]; exact z
            · exact z.elim
        cases fl with
        | nx ρ => exact quiet hp
        | rt d => exact quiet hp
        | bk ρ => exact hp.elim
        | ct ρ => exact hp.elim
    · exact hp.elim⟩
  refine ⟨fun vs H Q E h => F.len vs H Q E0 (back h), fun A outer s H args us vs Q E hr e0 hb hv h => ?_⟩
  refine codeAny_mono (F.run A outer s H args us vs Q E0 hr e0 hb hv (back h)) fun r s' hq => ?_
  cases r with
  | error e =>
    obtain ⟨_, _, _, _, _, _, _, _, _, _, _, _, z⟩ := hq
    exact z.elim
  | ok fl => cases fl <;> exact hq
end
section
variable {X : Cx} {cl : Nat → Addr} {W : WX} {E : XK} {e a b c : Expr} {pos : Pos}
def SndEX (Γ : Gm) (W : WX) (t : TE) (m : ME) : Prop := ∀ (ρ : Env) (S : Store) (σ : L2.St) (α : List Addr) (G H : Hp) (Q : VK), EnvR Γ α G ρ σ → Rl Γ α G S H → Post Γ (Rep Γ) α G H (m ρ S) Q (fun c d H' => W c d σ H') → t σ H Q
/-- an expression of which an exception may come, with the slots as they are -/
structure QEX (X : Cx) (cl : Nat → Addr) (W : WX) (e : Expr) (m : ME) : Prop where
  ex : ∃ t, PE X e t ∧ SndEX ⟨X.K, cl⟩ W t m
theorem QEX.qe {m : ME} (h : QEX X cl (fw E) e m) : QE X cl E e m := h.ex.elim fun t ⟨h1, h2⟩ => ⟨t, h1, fun ρ S σ α G H Q hρ hR hp => h2 ρ S σ α G H Q hρ hR hp⟩
/-- .. with arguments of which none comes -/
def mCallX (g : List D → Store → Res D) (n : MA) : ME := fun ρ S => (nox (n ρ S)).bind g
theorem noxA_post {Γ : Gm} {β γ : Type} {R : List Addr → Hp → β → γ → Prop} {α : List Addr} {G H : Hp} {r : Res β} {Q : γ → Hp → Prop} {E' : XK} (h : Post Γ R α G H (nox r) Q E) : Post Γ R α G H r Q E' := by
  cases r with
  | ok d S => exact h
  | ex e S => exact h.elim
  | no => exact h.elim
/-- what a call of such a def needs of its function of data -/
def SndCX (Γ : Gm) (f g : List D → Store → Res D) : Prop := ∀ (E : XK) (ds : List D) (S : Store) (α : List Addr) (G H : Hp) (vs : List V) (Q : VK), Rl Γ α G S H → RepL Γ α G ds vs → Post Γ (Rep Γ) α G H (g ds S) Q E → spM Γ f vs H Q E
theorem spx_self {Γ : Gm} {f : List D → Store → Res D} : SndCX Γ f f := fun E ds S α G H vs Q R r h => ⟨ds, α, G, S, r, R, h⟩
/-- a def that may raise and sees no cell of the caller's -/
def fPureX (f : List D → Store → Res D) : List D → Store → Res D := fun ds S => if pureL ds then match f ds [] with
  | .ok d [] => .ok d S
  | .ex e [] => if pureL e.fs then .ex e S else .no
  | _ => .no
  else .no
theorem spx_pure {Γ : Gm} {f : List D → Store → Res D} : SndCX Γ f (fPureX f) := fun E ds S α G H vs Q hR r h => by
  unfold fPureX at h
  split at h
  · rename_i hp
    refine ⟨ds, [], G, [], pureL_rep ds vs hp r, hR.bare, ?_⟩
    cases q : f ds [] with
    | no => rw [q] at h; exact h.elim
    | ex e S' =>
      rw [q] at h
      cases S' with
      | cons c T => exact h.elim
      | nil =>
        simp only at h
        split at h
        · rename_i hf
          intro α' G' H' c x e1 R' rv
          have ea : α' = [] := List.eq_nil_of_length_eq_zero (by rw [R'.len]; rfl)
          subst ea
          obtain ⟨R2, e2⟩ := hR.back R' e1
          obtain ⟨ec, ws, rw_, rf⟩ := rv
          exact h α G' H' c x e2 R2 ⟨ec, ws, pureL_rep _ _ hf rw_, rf⟩
        · exact h.elim
    | ok d S' =>
      rw [q] at h
      cases S' with
      | cons c T => exact h.elim
      | nil =>
        intro α' G' H' v e R' rv
        have ea : α' = [] := List.eq_nil_of_length_eq_zero (by rw [R'.len]; rfl)
        subst ea
        obtain ⟨R2, e2⟩ := hR.back R' e
        exact h α G' H' v e2 R2 (Rep.mono (α := []) ⟨α, by simp⟩ (Sub.refl _) _ _ rv)
  · exact h.elim
theorem qx_call {f g : List D → Store → Res D} {k : Nat} {fa : Addr} {fd : FuncData} {ps : List Str} {x : Str} {p : Pos} {es : List Expr} {n : MA} (F : FnOk X.prog X.w X.K X.mg X.base (L2.CX X.prog X.w) k fa fd ps (spM ⟨X.K, cl⟩ f)) (tk : Takes X W) (hr : Room k X.A)
    (hg : Gl X x) (hm : X.mg x = some (.ref fa)) (hk : PySem.W.keepIn X.K (.ref fa) = true) (hb : Binds X.K fd ps []) (ha : QA X cl E0 (e :: es) n) (hf : SndCX ⟨X.K, cl⟩ f g)
    (hdb : (x == ("__debug__" : Str)) = false := by decide) (he : starEach (e :: es) X.env = (false, eval e X.env) :: starEach es X.env := by rfl) (hpl : (backTo pos (starEach es X.env)).any (·.1) = false := by rfl) :
    QEX X cl W (.Call (.Name x p) (e :: es) [] pos) (mCallX g n) := by
  obtain ⟨t, h1, h2⟩ := ha.ex
  refine ⟨_, pe_callS (E := fun σ c d H' => W c d σ H') F hr hg hm hk hb (fun σ => passAt tk σ) h1 hdb he hpl, fun ρ S σ α G H Q hρ hR hp => ?_⟩
  refine h2 ρ S σ α G H _ hρ hR (noxA_post (E := fun c d H' => W c d σ H') (post_bind hp fun ds S1 α1 G1 H1 vs _ e1 R1 r1 hp1 => ?_))
  exact hf _ ds S1 α1 G1 H1 vs Q R1 r1 hp1
/-- .. with keywords -/
theorem run_fnSN {pins : List (Addr × Obj)} {σ : St} {H : Hp} {s : Shared} {Q : VK} {ws us : List Value} {zs vs : List V} {k n : Nat} {f : Addr} {fd : FuncData} {ps ks : List Str} {sp : Sp} {E : XK} {gg : List Value → List Value → List Value} {gV : List V → List V → List V} (F : FnOk X.prog X.w X.K X.mg X.base (L2.CX X.prog X.w) k f fd ps sp) (hr : Room k X.A) (hb : KBn X.K fd ps n ks gg gV)
    (hx : ∀ (pins : List (Addr × Obj)) (H : Hp) (s : Shared) (e : Value) (s' : Shared), Inv X pins σ H s → L2.CX X.prog X.w X.stack H s E e s' → X.xe e s') (I : Inv X pins σ H s) (rv : Vals vs us) (rz : Vals zs ws) (hl : us.length = n) (hk : ws.length = ks.length) (h : sp (gV vs zs) H Q E) :
    wpAny (model X.prog X.w) X.A (call (.ref f) us (ks.zip ws)) (EP X pins σ Q) X.xe s := by
  refine wpAny_call (codeAny_mono (F.run X.A X.stack s H ⟨us, ks.zip ws⟩ (gg us ws) (gV vs zs) Q E hr I.env0 (hb.to s us ws I.kIn hl hk) (hb.rel rv rz) h) fun r s' hq => ?_)
  cases r with
  | error e => exact hx pins H s e s' I hq
  | ok fl =>
    cases fl with
    | ret u => exact I.after hq
    | next => exact False.elim hq
    | brk => exact False.elim hq
    | cont => exact False.elim hq
def mCallKX (g : List D → Store → Res D) (i j : Nat) (idx : List Nat) (n nk : MA) : ME := fun ρ S => (nox (n ρ S)).bind fun ds S1 => (nox (nk ρ S1)).bind fun zs S2 => if ds.length = i ∧ zs.length = j then g (place idx (ds ++ zs)) S2 else .no
def tCallKW (i j : Nat) (sp : Sp) (gV : List V → List V → List V) (W : WX) (t tk : TA) : TE := fun σ H Q => t σ H fun vs H1 => tk σ H1 fun zs H2 => vs.length = i ∧ zs.length = j ∧ sp (gV vs zs) H2 Q (fun c d H' => W c d σ H')
theorem snd_callKX {Γ : Gm} {f g : List D → Store → Res D} {i j : Nat} {idx : List Nat} {n nk : MA} {t u : TA} (hf : SndCX Γ f g) (h : SndA Γ E0 t n) (k : SndA Γ E0 u nk) : SndEX Γ W (tCallKW i j (spM Γ f) (fun us ws => place idx (us ++ ws)) W t u) (mCallKX g i j idx n nk) := fun ρ S σ α G H Q hρ hR hp =>
  h ρ S σ α G H _ hρ hR (noxA_post (E := fun c d H' => W c d σ H') (post_bind hp fun ds S1 α1 G1 H1 vs _ e1 R1 r1 hp1 => k ρ S1 σ α1 G1 H1 _ (hρ.mono e1) R1 (noxA_post (E := fun c d H' => W c d σ H') (post_bind hp1 fun zs S2 α2 G2 H2 ws _ e2 R2 r2 hp2 => by
    split at hp2
    · rename_i hl
      have r1' := RepL.mono e2.pre e2.sub _ _ r1
      exact ⟨by rw [← r1'.length]; exact hl.1, by rw [← r2.length]; exact hl.2, hf _ _ S2 α2 G2 H2 _ Q R2 (place_rep (r1'.append r2) idx) hp2⟩
    · exact hp2.elim))))
theorem qx_callK {f g : List D → Store → Res D} {k i j : Nat} {idx : List Nat} {fa : Addr} {fd : FuncData} {ps ks : List Str} {x : Str} {p : Pos} {es : List Expr} {kws : List Keyword} {n nk : MA} (F : FnOk X.prog X.w X.K X.mg X.base (L2.CX X.prog X.w) k fa fd ps (spM ⟨X.K, cl⟩ f)) (tk : Takes X W) (hr : Room k X.A)
    (hg : Gl X x) (hm : X.mg x = some (.ref fa)) (hk : PySem.W.keepIn X.K (.ref fa) = true) (hb : KBn X.K fd ps i ks (fun us ws => place idx (us ++ ws)) (fun us ws => place idx (us ++ ws))) (ha : QA X cl E0 (e :: es) n) (hkw : QK X cl E0 kws nk) (hf : SndCX ⟨X.K, cl⟩ f g)
    (hall : (backToKw pos (keywordEach kws X.env)).all (·.1.isSome) = true := by rfl) (hks : (backToKw pos (keywordEach kws X.env)).filterMap (·.1) = ks := by rfl)
    (hdb : (x == ("__debug__" : Str)) = false := by decide) (he : starEach (e :: es) X.env = (false, eval e X.env) :: starEach es X.env := by rfl)
    (hpl : ((backTo pos (starEach (e :: es) X.env)).any (·.1) || (backToKw pos (keywordEach kws X.env)).any (·.1.isNone)) = false := by rfl) (hj : ks.length = j := by rfl) :
    QEX X cl W (.Call (.Name x p) (e :: es) kws pos) (mCallKX g i j idx n nk) := by
  subst hj
  obtain ⟨t, h1, h2⟩ := ha.ex
  obtain ⟨u, k1, k2⟩ := hkw.ex
  refine ⟨tCallKW i ks.length (spM ⟨X.K, cl⟩ f) (fun us ws => place idx (us ++ ws)) W t u, ⟨fun pins s σ H Q I h => ?_⟩, snd_callKX hf h2 k2⟩
  refine wpAny_Call_Name_kw (ld_glob I hg hm ?_ hdb)
  refine PySem.W.callWith_KW (h₀ := X.base) I.ok.mod.kin hk hall (thn (h1.run pos pins s σ H _ I h) fun us s1 ⟨vs, H1, I1, r, q⟩ => ?_) hpl he
  refine thn (k1.run pos pins s1 σ H1 _ I1 q) fun ws s2 ⟨zs, H2, I2, rz, l1, l2, q2⟩ => ⟨I2.kIn, ?_⟩
  rw [hks]
  exact run_fnSN F hr hb (passAt tk σ) I2 r rz (r.length.symm.trans l1) (rz.length.symm.trans l2) q2
theorem qx_callK0 {f g : List D → Store → Res D} {k j : Nat} {idx : List Nat} {fa : Addr} {fd : FuncData} {ps ks : List Str} {x : Str} {p : Pos} {kws : List Keyword} {nk : MA} (F : FnOk X.prog X.w X.K X.mg X.base (L2.CX X.prog X.w) k fa fd ps (spM ⟨X.K, cl⟩ f)) (tk : Takes X W) (hr : Room k X.A)
    (hg : Gl X x) (hm : X.mg x = some (.ref fa)) (hk : PySem.W.keepIn X.K (.ref fa) = true) (hb : KBn X.K fd ps 0 ks (fun us ws => place idx (us ++ ws)) (fun us ws => place idx (us ++ ws))) (hkw : QK X cl E0 kws nk) (hf : SndCX ⟨X.K, cl⟩ f g)
    (hall : (backToKw pos (keywordEach kws X.env)).all (·.1.isSome) = true := by rfl) (hks : (backToKw pos (keywordEach kws X.env)).filterMap (·.1) = ks := by rfl)
    (hdb : (x == ("__debug__" : Str)) = false := by decide)
    (hpl : ((backTo pos (starEach [] X.env)).any (·.1) || (backToKw pos (keywordEach kws X.env)).any (·.1.isNone)) = false := by rfl) (hj : ks.length = j := by rfl) :
    QEX X cl W (.Call (.Name x p) [] kws pos) (mCallKX g 0 j idx mNil nk) := by
  subst hj
  obtain ⟨u, k1, k2⟩ := hkw.ex
  refine ⟨tCallKW 0 ks.length (spM ⟨X.K, cl⟩ f) (fun us ws => place idx (us ++ ws)) W tNil u, ⟨fun pins s σ H Q I h => ?_⟩, snd_callKX hf snd_nil k2⟩
  refine wpAny_Call_Name_kw (ld_glob I hg hm ?_ hdb)
  refine PySem.W.callWith_KW0 (h₀ := X.base) I.ok.mod.kin hk hall ?_ hpl
  refine thn (k1.run pos pins s σ H _ I h) fun ws s2 ⟨zs, H2, I2, rz, l1, l2, q2⟩ => ⟨I2.kIn, ?_⟩
  rw [hks]
  exact run_fnSN F hr hb (passAt tk σ) I2 .nil rz rfl (rz.length.symm.trans l2) q2
/-- an expression of which no exception comes -/
def mQuiet (m : ME) : ME := fun ρ S => nox (m ρ S)
theorem qx_of {m : ME} (h : QE X cl E0 e m) : QEX X cl W e (mQuiet m) := by
  obtain ⟨t, h1, h2⟩ := h.ex
  exact ⟨t, h1, fun ρ S σ α G H Q hρ hR hp => h2 ρ S σ α G H Q hρ hR (noxA_post hp)⟩
def mIfEX (t : MT) (m m' : ME) : ME := fun ρ S => (nox (t ρ S)).bind fun b S1 => match b with
  | true => m ρ S1
  | false => m' ρ S1
theorem qx_ifE {mt : MT} {ma mb : ME} (hc : QT X cl E0 c mt) (ha : QEX X cl W a ma) (hb : QEX X cl W b mb) : QEX X cl W (.IfExp c a b pos) (mIfEX mt ma mb) := by
  obtain ⟨t, h1, h2⟩ := hc.ex
  obtain ⟨u, k1, k2⟩ := ha.ex
  obtain ⟨v, l1, l2⟩ := hb.ex
  refine ⟨_, pe_ifExp h1 k1 l1, fun ρ S σ α G H Q hρ hR hp => h2 ρ S σ α G H _ hρ hR (noxA_post (E := fun c d H' => W c d σ H') (post_bind hp fun b S1 α1 G1 H1 v _ e1 R1 r1 hp1 => ?_))⟩
  have r1 : b = v := r1
  subst r1
  cases b with
  | true => exact iteT (k2 ρ S1 σ α1 G1 H1 Q (hρ.mono e1) R1 hp1)
  | false => exact iteF (l2 ρ S1 σ α1 G1 H1 Q (hρ.mono e1) R1 hp1)
def SndX (Γ : Gm) (W : WX) (t : TS) (n : MS) : Prop := ∀ (ρ : Env) (S : Store) (σ : L2.St) (α : List Addr) (G H : Hp) (Dn : Ends), EnvR Γ α G ρ σ → Rl Γ α G S H → PostS Γ (fun c d H' => W c d σ H') α G H (n ρ S) Dn → t Dn σ H
structure QX (X : Cx) (cl : Nat → Addr) (W : WX) (st : Stmt) (n : MS) : Prop where
  ex : ∃ t, PS X st t ∧ SndX ⟨X.K, cl⟩ W t n
structure QXs (X : Cx) (cl : Nat → Addr) (W : WX) (st : List Stmt) (n : MS) : Prop where
  ex : ∃ t, PSs X st t ∧ SndX ⟨X.K, cl⟩ W t n
/-- the reading that the function of data itself is -/
def tX (Γ : Gm) (W : WX) (n : MS) : TS := fun Dn σ H => ∃ ρ S α G, EnvR Γ α G ρ σ ∧ Rl Γ α G S H ∧ PostS Γ (fun c d H' => W c d σ H') α G H (n ρ S) Dn
theorem QXs.can {st : List Stmt} {n : MS} (h : QXs X cl W st n) : PSs X st (tX ⟨X.K, cl⟩ W n) := by
  obtain ⟨t, h1, h2⟩ := h.ex
  exact ⟨fun pins s σ H D I ⟨ρ, S, α, G, hρ, hR, hp⟩ => h1.run pins s σ H D I (h2 ρ S σ α G H D hρ hR hp)⟩
theorem qxs_one {st : Stmt} {n : MS} (h : QX X cl W st n) : QXs X cl W [st] n := by
  obtain ⟨t, h1, h2⟩ := h.ex
  exact ⟨_, pss_one h1, h2⟩
theorem qx_expr {m : ME} (h : QEX X cl W e m) (hs : swapsWith e none pos.line X.env = pure false := by rfl) : QX X cl W (.Expr e pos) (mDrop m) := by
  obtain ⟨t, h1, h2⟩ := h.ex
  exact ⟨_, ps_expr h1 hs, fun ρ S σ α G H Dn hρ hR hp => h2 ρ S σ α G H _ hρ hR (posts_bind hp fun d S1 α1 G1 H1 v _ e1 R1 r1 hp1 => hp1 α1 G1 H1 σ (Ext.refl _ _ _) R1 (hρ.mono e1))⟩
theorem qx_set (i : Nat) {x : Str} {px : Pos} {m : ME} (h : QEX X cl W e m) (hN : X.N.Nodup) (hi : X.N[i]? = some x := by rfl) (hx : Loc X.env.scope x := by first | exact .inl rfl | exact .inr rfl) (hs : swapsWith e (some (.Name x px)) pos.line X.env = pure false := by rfl) (hf : X.fn x = true ∨ X.env.scope.names.lookup x = some .local := by first | exact .inl rfl | exact .inr rfl) :
    QX X cl W (.Assign [.Name x px] e pos) (mAsg m (mgN i)) := by
  obtain ⟨t, a1, a2⟩ := h.ex
  refine ⟨_, ps_set hN hi hx a1 hs hf, fun ρ S σ α G H Dn hρ hR hp => a2 ρ S σ α G H _ hρ hR (posts_bind hp fun d S1 α1 G1 H1 v _ e1 R1 r1 hp1 => ?_)⟩
  exact hp1 α1 G1 H1 _ (Ext.refl _ _ _) R1 ((hρ.mono e1).set i r1)
def mIfX (t : MT) (n n' : MS) : MS := fun ρ S => (nox (t ρ S)).bind fun b S1 => match b with
  | true => n ρ S1
  | false => n' ρ S1
theorem qx_if {mt : MT} {n n' : MS} {sa sb : List Stmt} (hc : QT X cl E0 c mt) (ha : QXs X cl W sa n) (hb : QXs X cl W sb n') : QX X cl W (.If c sa sb pos) (mIfX mt n n') := by
  obtain ⟨t, h1, h2⟩ := hc.ex
  obtain ⟨u, k1, k2⟩ := ha.ex
  obtain ⟨w, l1, l2⟩ := hb.ex
  refine ⟨_, ps_if h1 k1 l1, fun ρ S σ α G H Dn hρ hR hp => h2 ρ S σ α G H _ hρ hR (noxA_post (E := fun c d H' => W c d σ H') (posts_bind hp fun b S1 α1 G1 H1 v _ e1 R1 r1 hp1 => ?_))⟩
  have r1 : b = v := r1
  subst r1
  cases b with
  | true => exact iteT (k2 ρ S1 σ α1 G1 H1 Dn (hρ.mono e1) R1 hp1)
  | false => exact iteF (l2 ρ S1 σ α1 G1 H1 Dn (hρ.mono e1) R1 hp1)
end
section
variable {ρ : Env} {S : Store}
@[simp] theorem nox_ex {β : Type} (e : Exn) : nox (Res.ex e S : Res β) = .no := rfl
@[simp] theorem ap_raise (c : Nat) : mRaise c ρ S = .ex ⟨c, []⟩ S := rfl
@[simp] theorem ap_callX (g : List D → Store → Res D) (n : MA) : mCallX g n ρ S = (nox (n ρ S)).bind g := rfl
def ckKX (g : List D → Store → Res D) (i j : Nat) (idx : List Nat) (nk : MA) (ρ : Env) : List D → Store → Res D := fun ds S1 => (nox (nk ρ S1)).bind fun zs S2 => if ds.length = i ∧ zs.length = j then g (place idx (ds ++ zs)) S2 else .no
def ckKX2 (g : List D → Store → Res D) (i j : Nat) (idx : List Nat) (ds : List D) : List D → Store → Res D := fun zs S2 => if ds.length = i ∧ zs.length = j then g (place idx (ds ++ zs)) S2 else .no
@[simp] theorem ckKX_ap (g : List D → Store → Res D) (i j : Nat) (idx : List Nat) (nk : MA) (ds : List D) : ckKX g i j idx nk ρ ds S = (nox (nk ρ S)).bind (ckKX2 g i j idx ds) := rfl
@[simp] theorem ckKX2_ap (g : List D → Store → Res D) (i j : Nat) (idx : List Nat) (ds zs : List D) : ckKX2 g i j idx ds zs S = if ds.length = i ∧ zs.length = j then g (place idx (ds ++ zs)) S else .no := rfl
@[simp] theorem ap_callKX (g : List D → Store → Res D) (i j : Nat) (idx : List Nat) (n nk : MA) : mCallKX g i j idx n nk ρ S = (nox (n ρ S)).bind (ckKX g i j idx nk ρ) := rfl
@[simp] theorem ap_quiet (m : ME) : mQuiet m ρ S = nox (m ρ S) := rfl
@[simp] theorem ap_ifEX (t : MT) (m m' : ME) : mIfEX t m m' ρ S = (nox (t ρ S)).bind (ifEK m m' ρ) := rfl
@[simp] theorem ap_ifX (t : MT) (n n' : MS) : mIfX t n n' ρ S = (nox (t ρ S)).bind (ifK n n' ρ) := rfl
@[simp] theorem endX_nx {n : Nat} : endX n (.ok (.nx ρ) S) = fin n .non S := rfl
@[simp] theorem endX_rt {n : Nat} {d : D} : endX n (.ok (.rt d) S) = fin n d S := rfl
theorem endX_ex {e : Exn} {S' : Store} (h : pureL e.fs = true) (hp : S.all Cell.pure = true) (hl : S'.take S.length = S) : endX S.length (.ex e S') = .ex e S := by
  unfold endX
  simp only [hl, h, below_all S.length hp, Bool.and_self, if_true]
theorem fnX_1 {nN : Nat} {n : MS} {a : D} : fnX nN 1 n [a] S = endX S.length (n (some a :: List.replicate (nN - 1) none) S) := rfl
theorem fnX_2 {nN : Nat} {n : MS} {a b : D} : fnX nN 2 n [a, b] S = endX S.length (n (some a :: some b :: List.replicate (nN - 2) none) S) := rfl
theorem fnX_3 {nN : Nat} {n : MS} {a b c : D} : fnX nN 3 n [a, b, c] S = endX S.length (n (some a :: some b :: some c :: List.replicate (nN - 3) none) S) := rfl
theorem fnX_ok {nN nP : Nat} {n : MS} {ds : List D} {d : D} {S' : Store} (h : fnM nN nP n ds S = .ok d S') : fnX nN nP n ds S = .ok d S' := by
  unfold fnM at h
  unfold fnX
  split at h
  · rename_i hl
    rw [if_pos hl]
    revert h
    cases n (ds.map some ++ List.replicate (nN - nP) none) S with
    | no => exact fun h => nomatch h
    | ex e S2 => exact fun h => nomatch h
    | ok fl S2 => cases fl <;> first | exact id | exact fun h => nomatch h
  · cases h
theorem fPX_of {nN nP : Nat} {n : MS} {ds : List D} {d : D} (h : fPure (fnM nN nP n) ds [] = .ok d []) : fPureX (fnX nN nP n) ds S = .ok d S := by
  unfold fPure at h
  split at h
  · rename_i hp
    unfold fPureX
    rw [if_pos hp]
    cases q : fnM nN nP n ds [] with
    | no => rw [q] at h; cases h
    | ex e S' => rw [q] at h; cases h
    | ok d' S' =>
      rw [q] at h
      cases S' with
      | cons c T => cases h
      | nil =>
        rw [fnX_ok q]
        simp only at h ⊢
        cases h
        rfl
  · cases h
theorem fPureX_ok {f : List D → Store → Res D} {ds : List D} {d : D} (hp : pureL ds = true) (h : f ds [] = .ok d []) : fPureX f ds S = .ok d S := by simp [fPureX, hp, h]
theorem fPureX_ex {f : List D → Store → Res D} {ds : List D} {e : Exn} (hp : pureL ds = true) (h : f ds [] = .ex e []) (he : pureL e.fs = true) : fPureX f ds S = .ex e S := by simp [fPureX, hp, h, he]
end
end Q
namespace Q
open PySem L2
/-- an object that stands already is tracked from now on -/
theorem Inv.follow {X : Cx} {pins : List (Addr × Obj)} {σ : St} {H : Hp} {s : Shared} {a : Addr} {cls : Value} {d : Option Addr} {oe : Obj} {ws : Array Value} (I : Inv X pins σ H s) (ha : s.heap.get? a = some oe) (hz : Zc cls d oe) (hd : oe.data = .fields ws) (na : H a = none)
    (n0 : X.s_0.heap.get? a = none) (nl : a ≠ X.env.locals) (np : ∀ p ∈ X.pn ++ pins, p.1 ≠ a) : Inv X pins σ (upd H a (ExK cls d a)) s := by
  have old : ∀ {b : Addr} {o : HO}, H b = some o → upd H a (ExK cls d a) b = some o := fun {b o} e => by rw [upd_ne (ne_of_none e na)]; exact e
  have new : ObjOk X.prog X.w (upd H a (ExK cls d a)) s.heap a (ExK cls d a) := ⟨⟨oe, ws, ha, hz, hd⟩, ⟨oe, ha⟩, fun _ _ ⟨o, v, q, r⟩ k => ⟨o, v, k o q, r⟩⟩
  refine ⟨I.ok, I.os, I.bare, ⟨I.base.keep, I.base.slot, fun b o e n hx => ?_, I.base.there, fun b xs e => old (I.base.tups b xs e), fun b o u e => old (I.base.frzs b o u e), fun b ps e => ?_⟩, I.loc, I.cell, ?_, fun x c e => ?_, fun p hp => ?_, I.hok.laidN (fun _ _ e => e) na new, I.len⟩
  · have hb : b ≠ a := fun z => by
      rw [z, n0] at e
      cases e
    rw [upd_ne hb]
    exact I.base.free b o e n hx
  · obtain ⟨m, e'⟩ := I.base.tbls b ps e
    exact ⟨m, old e'⟩
  · rw [upd_ne (Ne.symm nl)]
    exact I.free
  · have hc : c ≠ a := fun z => by
      obtain ⟨v, o, ho, hv⟩ := I.cell x c e
      rw [z, ha] at ho
      cases ho
      rw [hd] at hv
      cases hv
    rw [upd_ne hc]
    exact I.freeC x c e
  · obtain ⟨e1, e2, e3⟩ := I.pin p hp
    exact ⟨e1, by rw [upd_ne (np p hp)]; exact e2, e3⟩
/-- the class (or the classes) that a clause names, asked of an exception: cs tells the answer by the class's number -/
structure HdT (X : Cx) (cl : Nat → Addr) (ty : Expr) (cs : List (Nat × Bool)) : Prop where
  run : ∀ (a : Addr) (pn : List (Addr × Obj)) (σ : St) (H : Hp) (s : Shared) (oe : Obj) (c : Nat) (b : Bool) (Q : Bool → Shared → Prop) (E : Value → Shared → Prop), Inv (X.suite a pn) [] σ H s → s.heap.get? a = some oe → oe.cls = .ref (cl c) → cs.lookup c = some b →
    (∀ h' tk, (∀ b o, s.heap.get? b = some o → h'.get? b = some o) → Q b { s with heap := h', toks := tk }) → wpAny (model X.prog X.w) (X.A.mark (some (.ref a))) (eval ty X.env) (fun v s1 => wpAny (model X.prog X.w) (X.A.mark (some (.ref a))) (excMatches (.ref a) v) Q E s1) E s
theorem hdt_name {X : Cx} {cl : Nat → Addr} {x : Str} {np : Pos} {Cv : Value} {cs : List (Nat × Bool)} (hc : Names X x Cv) (hm : ∀ c b, cs.lookup c = some b → PySem.W.exmOne X.K (.ref (cl c)) Cv = some b) : HdT X cl (.Name x np) cs := by
  refine ⟨fun a pn σ H s oe c b Q E I ha hcls hl h => ?_⟩
  have LT : PySem.W.Looks (model X.prog X.w) s.heap (typeOf (.ref a)) (.ref (cl c)) := fun A Q E s' k q => wpAny_typeOf_ref (k _ _ ha) (by rw [hcls]; exact q)
  have LM := PySem.W.exm_one (M := model X.prog X.w) (I.kIn) LT (hm c b hl)
  have done : wpAny (model X.prog X.w) (X.A.mark (some (.ref a))) (excMatches (.ref a) Cv) Q E s := LM.here (h s.heap s.toks fun _ _ e => e)
  obtain ⟨hg, hdb, h1 | ⟨h1, hv, hn⟩⟩ := hc
  · exact ld_glob (X := X.suite a pn) I hg h1 done hdb
  · exact ld_blt (X := X.suite a pn) I hg h1 hv done hn hdb
theorem flying_keep {B h h' : Heap} {l : List PySem.Env} {a : Addr} {Z : Obj → Prop} (k : ∀ b o, h.get? b = some o → h'.get? b = some o) (f : HandSPX.FlyingZ B l a Z h) : HandSPX.FlyingZ B l a Z h' := by
  obtain ⟨f1, f2, f3, oe, vs, T, oT, ts, e1, e2, e3, e4, e5, e6, e7, e8⟩ := f
  exact ⟨fun b o e => k b o (f1 b o e), f2, Heap.FunFrames.of_keeps (fun b o e _ => ⟨o, k b o e, rfl⟩) f3, oe, vs, T, oT, ts, k _ _ e1, e2, e3, e4, e5, e6, k _ _ e7, e8⟩
/-- the suite's end: the clause's name is gone -/
def unN (j : Nat) : Fl → Store → Res Fl
  | .nx ρ, S => .ok (.nx (ρ.set j none)) S
  | .bk ρ, S => .ok (.bk (ρ.set j none)) S
  | .ct ρ, S => .ok (.ct (ρ.set j none)) S
  | .rt d, S => .ok (.rt d) S
/-- a clause: the classes that it tells, the slot of its name, its suite -/
structure Hd where
  cs : List (Nat × Bool)
  j : Nat
  ms : MS
def mHands : List Hd → Exn → MS
  | [], _ => fun _ _ => .no
  | h :: r, e => fun ρ S => match h.cs.lookup e.cls with
    | some true => (nox (h.ms (ρ.set h.j (some (.exn e.cls e.fs))) S)).bind (unN h.j)
    | some false => mHands r e ρ S
    | none => .no
def mTry (hs : List Hd) (mb : MS) : MS := fun ρ S => match mb ρ S with
  | .ex e S1 => mHands hs e ρ S1
  | r => r
/-- the body's result, told to the clauses -/
def tryK (hs : List Hd) (ρ : Env) : Res Fl → Res Fl
  | .ex e S1 => mHands hs e ρ S1
  | r => r
@[simp] theorem ap_try (hs : List Hd) (mb : MS) (ρ : Env) (S : Store) : mTry hs mb ρ S = tryK hs ρ (mb ρ S) := rfl
@[simp] theorem tryK_ok (hs : List Hd) (ρ : Env) (f : Fl) (S : Store) : tryK hs ρ (.ok f S) = .ok f S := rfl
@[simp] theorem tryK_ex (hs : List Hd) (ρ : Env) (e : Exn) (S : Store) : tryK hs ρ (.ex e S) = mHands hs e ρ S := rfl
theorem hands_yes (cs : List (Nat × Bool)) (j : Nat) (ms : MS) (r : List Hd) (e : Exn) (ρ : Env) (S : Store) (h : cs.lookup e.cls = some true) : mHands (⟨cs, j, ms⟩ :: r) e ρ S = (nox (ms (ρ.set j (some (.exn e.cls e.fs))) S)).bind (unN j) := by
  unfold mHands
  simp only [h]
theorem hands_no (cs : List (Nat × Bool)) (j : Nat) (ms : MS) (r : List Hd) (e : Exn) (ρ : Env) (S : Store) (h : cs.lookup e.cls = some false) : mHands (⟨cs, j, ms⟩ :: r) e ρ S = mHands r e ρ S := by
  conv => lhs; unfold mHands
  simp only [h]
@[simp] theorem unN_nx (j : Nat) (ρ : Env) (S : Store) : unN j (.nx ρ) S = .ok (.nx (ρ.set j none)) S := rfl
@[simp] theorem unN_rt (j : Nat) (d : D) (S : Store) : unN j (.rt d) S = .ok (.rt d) S := rfl
inductive HdsQ (X : Cx) (cl : Nat → Addr) : List ExceptHandler → List Hd → Prop
  | nil : HdsQ X cl [] []
  | cons {ty : Expr} {n : Str} {b₀ : Stmt} {suite : List Stmt} {pos : Pos} {cs : List (Nat × Bool)} {j : Nat} {ms : MS} {hds : List ExceptHandler} {r : List Hd} (hi : X.N[j]? = some n) (hln : X.env.kindOf n = some .local) (ht : HdT X cl ty cs)
      (hsu : ∀ (a : Addr) (pn : List (Addr × Obj)), QSs (X.suite a pn) cl E0 (b₀ :: suite) ms) (k : HdsQ X cl hds r) : HdsQ X cl (.ExceptHandler (some ty) (some n) (b₀ :: suite) pos :: hds) (⟨cs, j, ms⟩ :: r)
theorem EnvR.unset {Γ : Gm} {α : List Addr} {G : Hp} {ρ : Env} {σ : L2.St} (h : EnvR Γ α G ρ σ) (i : Nat) : EnvR Γ α G (ρ.set i none) (σ.set i none) := by
  refine ⟨by simp [h.1], fun j e hj => ?_⟩
  by_cases z : i = j
  · subst z
    have l := (List.getElem?_eq_some_iff.mp hj).1
    rw [List.length_set] at l
    rw [List.getElem?_set_self l] at hj
    cases hj
  · rw [List.getElem?_set_ne z] at hj ⊢
    exact h.2 j e hj
section
variable {X : Cx} {cl : Nat → Addr} {E : XK} {body : List Stmt} {pos : Pos}
/-- what the clauses want of an exception of the body -/
def wTry (Γ : Gm) (E : XK) (hs : List Hd) (Dn : Ends) : WX := fun cls d σ H => ∃ e ρ S α G, EnvR Γ α G ρ σ ∧ Rl Γ α G S H ∧ ExR Γ α G e cls d H ∧ PostS Γ E α G H (mHands hs e ρ S) Dn
theorem qs_try {h₀ : ExceptHandler} {hds : List ExceptHandler} {hs : List Hd} {mb : MS} (hst : X.stack = X.env :: X.outer) (hf : X.env.frame = some X.env.locals) (hex : X.ex = []) (hN : X.N.Nodup)
    (hb : ∀ (W : WX) (pn : List (Addr × Obj)) (xe : Value → Shared → Prop), Takes (X.tr pn xe) W → PassesOwn (model X.prog X.w) X.A X.env xe → QXs (X.tr pn xe) cl W body mb)
    (hh : HdsQ X cl (h₀ :: hds) hs) : QS X cl E (.Try body (h₀ :: hds) [] [] pos) (mTry hs mb) := by
  refine ⟨fun Dn σ H => ∃ ρ S α G, EnvR ⟨X.K, cl⟩ α G ρ σ ∧ Rl ⟨X.K, cl⟩ α G S H ∧ PostS ⟨X.K, cl⟩ E α G H (mTry hs mb ρ S) Dn, ⟨fun pins s σ H D I h => ?_⟩, fun ρ S σ α G H Dn hρ hR hp => ⟨ρ, S, α, G, hρ, hR, hp⟩⟩
  obtain ⟨ρ0, S0, α0, G0, hρ0, hR0, hp0⟩ := h
  have ok := I.ok
  have hfr : X.A.frames = some (X.env :: X.outer) := ok.frames.trans (congrArg some hst)
  have toTr : ∀ xe', Inv (X.tr (X.pn ++ pins) xe') [] σ H s := fun xe' => I.toTry xe'
  -- the body's reading
  have start : ∀ W : WX, (∀ cls d σ' H', wTry ⟨X.K, cl⟩ E hs D cls d σ' H' → W cls d σ' H') → tX ⟨X.K, cl⟩ W mb D σ H := fun W hW => by
    refine ⟨ρ0, S0, α0, G0, hρ0, hR0, ?_⟩
    unfold mTry at hp0
    cases q : mb ρ0 S0 with
    | no => rw [q] at hp0; exact hp0.elim
    | ok f S1 => rw [q] at hp0; cases f <;> exact hp0
    | ex e S1 =>
      rw [q] at hp0
      exact fun α' G' H' c x e1 R1 r1 => hW _ _ _ _ ⟨e, ρ0, S1, α', G', hρ0.mono e1, R1, r1, PostS.mono hp0 e1⟩
  refine wpAny_Try_except ?_
  have leave : ∀ (xe' : Value → Shared → Prop) (u : Value) (s' : Shared), XE (X.tr (X.pn ++ pins) xe') (wTry ⟨X.K, cl⟩ E hs D) u s' → wpAny (model X.prog X.w) X.A (noteFrame u X.env) (fun _ s₂ => wpAny (model X.prog X.w) X.A (setFlight u none) (fun _ s₃ =>
      wpAny (model X.prog X.w) X.A (handleBy u X.env (h₀ :: hds)) (SP X pins D) X.xe s₃) X.xe s₂) X.xe s' := by
    rintro xe' u s' ⟨a, B, sI, pins', τ, J, cls, d, rfl, Ja, nb, up, sky, na, eos, bare, e, ρ, S, α, G, hρ, hR, hx, hp⟩
    have Ib : Inv X pins τ J sI := Ja.ofTry ok
    refine Sky.land Zc.steady hfr hf (B := B) (by rw [← hst]; exact sky) fun h3 fl3 up3 => ?_
    -- the exception is no frame, and it is newer than what the def found
    have apart : ∀ {h : Heap}, HandSPX.FlyingZ B (X.env :: X.outer) a (Zc cls d) h → a ∉ frs (X.env :: X.outer) := fun {h} fl hm => by
      obtain ⟨oe, ws, e1, _, e2⟩ := fl.there
      obtain ⟨_, o2, e3, nf⟩ := fl.2.2.1.mem hm
      rw [e1] at e3
      cases e3
      exact nf _ e2
    have nfr := apart fl3
    have nl : a ≠ X.env.locals := fun z => nfr (by rw [z]; exact List.mem_filterMap.mpr ⟨X.env, .head _, hf⟩)
    have inB : ∀ {b : Addr} {o : Obj}, sI.heap.get? b = some o → b ∉ frs X.stack → b ≠ a := fun {b o} q n z => by
      have := nb b o q n
      rw [z, fl3.2.1] at this
      cases this
    have n0 : X.s_0.heap.get? a = none := by
      cases q : X.s_0.heap.get? a with
      | none => rfl
      | some o =>
        obtain ⟨o', q'⟩ := Ib.base.there a o q (by rw [hex]; exact fun z => nomatch z)
        exact absurd rfl (inB q' (by rw [hst]; exact nfr))
    have np : ∀ p ∈ X.pn ++ pins, p.1 ≠ a := fun p hp => by
      obtain ⟨q1, _, q3, q4, _⟩ := Ib.pin p hp
      refine inB q1 fun hm => ?_
      rw [hst] at hm
      obtain ⟨v, hv, hw⟩ := List.mem_filterMap.mp hm
      rcases List.mem_cons.mp hv with z | z
      · rw [z, hf] at hw
        exact q3 (Option.some.inj hw).symm
      · exact q4 (List.mem_filterMap.mpr ⟨v, z, hw⟩)
    obtain ⟨ec, vs, rfs, exf⟩ := hx
    have toSuite : ∀ {τ' : St} {J' : Hp} {u : Shared}, Inv X pins τ' J' u → Inv (X.suite a (X.pn ++ pins)) [] τ' J' u := fun {τ' J' u} I' =>
      ⟨I'.ok.suite _ _, I'.os, I'.bare, I'.base, I'.loc, I'.cell, I'.free, I'.freeC, fun p hp => I'.pin p (by simpa using hp), I'.hok, I'.len⟩
    have offSuite : ∀ {τ' : St} {J' : Hp} {u : Shared}, Inv (X.suite a (X.pn ++ pins)) [] τ' J' u → Inv X pins τ' J' u := fun {τ' J' u} I' =>
      ⟨ok, I'.os, I'.bare, I'.base, I'.loc, I'.cell, I'.free, I'.freeC, fun p hp => I'.pin p (by simpa using hp), I'.hok, I'.len⟩
    have go : ∀ {hds' : List ExceptHandler} {hs' : List Hd}, HdsQ X cl hds' hs' → ∀ (h : Heap) (tk : Nat), HandSPX.FlyingZ B (X.env :: X.outer) a (Zc cls d) h → sI.heap.UpToSlots h → PostS ⟨X.K, cl⟩ E α G J (mHands hs' e ρ S) D →
        wpAny (model X.prog X.w) X.A (handleBy (.ref a) X.env hds') (SP X pins D) X.xe { s' with heap := h, toks := tk } := by
      intro hds' hs' hk
      induction hk with
      | nil => exact fun h tk _ _ hp => hp.elim
      | @cons ty n b₀ suite pos cs j ms hds2 r hi hln ht hsu k ih =>
        intro h tk fl up hp
        have I3 : Inv X pins τ J { s' with heap := h, toks := tk } := Ib.landed nb fl.1 up eos bare
        obtain ⟨oe, ws, he, hz, hd⟩ := fl.there
        unfold mHands at hp
        cases hl : cs.lookup e.cls with
        | none => simp only [hl] at hp; exact hp.elim
        | some b =>
        simp only [hl] at hp
        refine wpAny_handleBy_cons (codeAny_handlers_test ?_) (by intro q; cases q)
        refine ht.run a (X.pn ++ pins) τ J _ oe e.cls b _ _ (toSuite I3) he (hz.1.trans ec) hl (fun h' tk' kh => ?_)
        have fl' := flying_keep kh fl
        have up' : sI.heap.UpToSlots h' := up.trans (Heap.UpToSlots.of_keeps kh)
        cases b with
        | false => exact ih h' tk' fl' up' hp
        | true =>
          refine codeAny_handlers_suite_as ?_
          refine HandSPX.lands_againZ fl' fun h4 fl4 up4 => ?_
          have I4 : Inv X pins τ J { s' with heap := h4, toks := tk' } := Ib.landed nb fl4.1 (up'.trans up4) eos bare
          obtain ⟨oe4, ws4, he4, hz4, hd4⟩ := fl4.there
          have I5 := Inv.follow (toSuite I4) he4 hz4 hd4 na n0 nl (by simpa using np)
          refine store_ok (X := X.suite a (X.pn ++ pins)) (v := .ref a) I5 hN hi (.inl hln) rfl (fun s6 I6 => ?_) (.inr hln)
          obtain ⟨R7, e7⟩ := hR.new na (ExK cls d a)
          have rex : Rep ⟨X.K, cl⟩ α (upd G a (ExK cls d a)) (.exn e.cls e.fs) (.ref a) := by
            unfold Rep
            exact ⟨a, vs, rfl, ⟨d, by rw [upd_same, ec], exf.keep fun b fs q => by rw [upd_ne (fun z => by rw [z, hR.gnone na] at q; cases q)]; exact q⟩, RepL.mono e7.pre e7.sub _ _ rfs⟩
          have hp7 := PostS.mono hp e7
          obtain ⟨t, h1, h2⟩ := (hsu a (X.pn ++ pins)).ex
          refine wpAny_mono (h1.run [] s6 _ _ { nx := fun σ' H' => D.nx (σ'.set j none) H', rt := D.rt, bk := fun σ' H' => D.bk (σ'.set j none) H', ct := fun σ' H' => D.ct (σ'.set j none) H' } I6 (h2 (ρ.set j (some (.exn e.cls e.fs))) S _ α _ _ _ ((hρ.mono e7).set j rex) R7 ?_)) (fun f s7 hsp => ?_) (fun _ _ z => False.elim z)
          · revert hp7
            cases ms (ρ.set j (some (.exn e.cls e.fs))) S with
            | no => exact fun hp7 => hp7.elim
            | ex e' S' => exact fun hp7 => hp7.elim
            | ok f S' =>
              intro hp7
              cases f with
              | nx ρ' => exact fun α' G' H' σ' e8 R8 r8 => hp7 α' G' H' _ e8 R8 (r8.unset j)
              | bk ρ' => exact fun α' G' H' σ' e8 R8 r8 => hp7 α' G' H' _ e8 R8 (r8.unset j)
              | ct ρ' => exact fun α' G' H' σ' e8 R8 r8 => hp7 α' G' H' _ e8 R8 (r8.unset j)
              | rt v => exact hp7
          · have end_ : ∀ {τ' : St} {J' : Hp} {Q : Shared → Prop}, Inv (X.suite a (X.pn ++ pins)) [] τ' J' s7 → (∀ s8, Inv X pins (τ'.set j none) J' s8 → Q s8) → wpAny (model X.prog X.w) X.A (do bindName X.env n .none; unbindBehindTheSuite X.env n pos) (fun _ s8 => Q s8) X.xe s7 :=
              fun {τ' J' Q} I' hq => gone_ok (offSuite I') hN hi hln hq
            cases f with
            | next =>
              obtain ⟨τ8, J8, I8, q8⟩ := hsp
              exact end_ I8 fun s8 I9 => ⟨_, _, I9, q8⟩
            | brk =>
              obtain ⟨τ8, J8, I8, q8⟩ := hsp
              exact end_ I8 fun s8 I9 => ⟨_, _, I9, q8⟩
            | cont =>
              obtain ⟨τ8, J8, I8, q8⟩ := hsp
              exact end_ I8 fun s8 I9 => ⟨_, _, I9, q8⟩
            | ret u =>
              obtain ⟨v8, τ8, J8, I8, r8, q8⟩ := hsp
              exact end_ I8 fun s8 I9 => ⟨_, _, _, I9, r8, q8⟩
    exact go hh h3 s'.toks fl3 (up.trans up3) hp
  refine wpAny_mono ((hb (wTry ⟨X.K, cl⟩ E hs D) (X.pn ++ pins) _ (leave _) PassesOwn.looking).can.run [] s σ H D (toTr _) (start _ fun _ _ _ _ z => z)) (fun f s1 hsp => ?_) (fun _ _ z => z)
  cases f with
  | next =>
    obtain ⟨τ, J, I1, q⟩ := hsp
    exact wpAny_execs_nil ⟨τ, J, I1.ofTry ok, q⟩
  | brk =>
    obtain ⟨τ, J, I1, q⟩ := hsp
    exact ⟨τ, J, I1.ofTry ok, q⟩
  | cont =>
    obtain ⟨τ, J, I1, q⟩ := hsp
    exact ⟨τ, J, I1.ofTry ok, q⟩
  | ret u =>
    obtain ⟨v, τ, J, I1, r, q⟩ := hsp
    exact ⟨v, τ, J, I1.ofTry ok, r, q⟩
end
end Q
namespace Q
open PySem L2
section
variable {M : Model} {A : Around} {E : Value → Shared → Prop} {s : Shared}
theorem loopU {f : Value → PUnit → Sem (ForInStep PUnit)} {Q : PUnit → Shared → Prop} : ∀ {cs : List Value}, (∀ c ∈ cs, ∀ {Q' : ForInStep PUnit → Shared → Prop}, Q' (.yield ⟨⟩) s → wpAny M A (f c ⟨⟩) Q' E s) → Q ⟨⟩ s → wpAny M A (forIn cs ⟨⟩ f) Q E s
  | [], _, q => by rw [List.forIn_nil]; exact wpAny_pure q
  | c :: cs, h, q => by
    rw [List.forIn_cons]
    exact wpAny_bind (h c (List.mem_cons_self ..) (loopU (fun c' hc => h c' (List.mem_cons_of_mem _ hc)) q))
theorem loopF {sub : Value → Bool} {f : Value → (Option Bool × PUnit) → Sem (ForInStep ((Option Bool × PUnit)))} {Q : (Option Bool × PUnit) → Shared → Prop} : ∀ {cs : List Value},
    (∀ c ∈ cs, ∀ {Q' : ForInStep ((Option Bool × PUnit)) → Shared → Prop}, Q' (if sub c = true then .done (some true, ⟨⟩) else .yield (none, ⟨⟩)) s → wpAny M A (f c (none, ⟨⟩)) Q' E s) → Q (if cs.any sub = true then some true else none, ⟨⟩) s → wpAny M A (forIn cs (none, ⟨⟩) f) Q E s
  | [], _, q => by rw [List.forIn_nil]; exact wpAny_pure q
  | c :: cs, h, q => by
    rw [List.forIn_cons]
    refine wpAny_bind (h c (List.mem_cons_self ..) ?_)
    cases z : sub c with
    | true =>
      rw [List.any_cons, z] at q
      exact wpAny_pure q
    | false =>
      rw [List.any_cons, z] at q
      exact loopF (sub := sub) (fun c' hc => h c' (List.mem_cons_of_mem _ hc)) q
end
theorem exmAny_all {K : PySem.W.Frag} {cls : Value} : ∀ {cs : List Value} {b : Bool}, PySem.W.exmAny K cls cs = some b → (∀ c ∈ cs, ∃ v, PySem.W.exmOne K cls c = some v) ∧ b = cs.any fun c => PySem.W.exmOne K cls c == some true
  | [], b, h => by
    unfold PySem.W.exmAny at h
    cases h
    exact ⟨fun c hc => (nomatch hc), rfl⟩
  | c :: cs, b, h => by
    obtain ⟨b1, d1, h1, h2, rfl⟩ := PySem.W.exmAny_cons h
    obtain ⟨i1, i2⟩ := exmAny_all h2
    refine ⟨fun c' hc => ?_, ?_⟩
    · rcases List.mem_cons.mp hc with z | z
      · exact ⟨b1, by rw [z]; exact h1⟩
      · exact i1 c' z
    · rw [List.any_cons, h1, ← i2]
      cases b1 <;> rfl
/-- an exception beside a tuple of classes, any length -/
theorem exm_tupN {M : Model} {K : PySem.W.Frag} {cs : List Value} {cls : Value} {tp e : Addr} {b : Bool} {h : Heap} (X : K.In h) (LT : PySem.W.Looks M h (typeOf (.ref e)) cls) (hp : h.get? tp = some { cls := .type "tuple", data := .seq cs.toArray }) (hx : PySem.W.exmAny K cls cs = some b) :
    PySem.W.Looks M h (excMatches (.ref e) (.ref tp)) b := by
  intro A Q E s k₀ q
  obtain ⟨hh, g, d, tk, os⟩ := s
  have k : ∀ b o, h.get? b = some o → hh.get? b = some o := k₀
  have LT0 : PySem.W.Looks M h (isInstance (.ref tp) (.type "tuple")) true := ((PySem.W.Looks.ld hp).andThen .now).andThen (PySem.W.Looks.of_pure isSubtype_tuple_tuple)
  obtain ⟨i1, i2⟩ := exmAny_all hx
  have hp' := k _ _ hp
  unfold excMatches
  refine wpAny_bind ((LT0.keeps k).at ?_)
  dsimp only
  rw [if_pos rfl]
  first
    | refine wpAny_bind (wpAny_seqItems hp' rfl ?_)
    | refine wpAny_bind (wpAny_bind (wpAny_seqItems hp' rfl (wpAny_pure ?_)))
  dsimp only [Option.getD_some, Option.getD]
  refine wpAny_bind (wpAny_pure ?_)
  refine wpAny_bind (loopU (cs := cs) (fun c hc Q' q' => ?_) ?_)
  · obtain ⟨v, hv⟩ := i1 c hc
    obtain ⟨L1, _⟩ := PySem.W.exm_cls (M := M) X hv
    refine wpAny_bind ((L1.keeps k).at ?_)
    exact wpAny_pure q'
  · refine wpAny_bind ((LT.keeps k).at ?_)
    refine wpAny_bind (loopF (cs := cs) (sub := fun c => PySem.W.exmOne K cls c == some true) (fun c hc Q' q' => ?_) ?_)
    · obtain ⟨v, hv⟩ := i1 c hc
      obtain ⟨_, L2⟩ := PySem.W.exm_cls (M := M) X hv
      refine wpAny_bind ((L2.keeps k).at ?_)
      rw [hv] at q'
      cases v <;> exact wpAny_pure q'
    · rw [← i2]
      cases b <;> exact wpAny_pure q
/-- names of classes, one after the other -/
inductive NamesL (X : Cx) : List Expr → List Value → Prop
  | nil : NamesL X [] []
  | cons {x : Str} {p : Pos} {c : Value} {es : List Expr} {cs : List Value} (h : Names X x c) (k : NamesL X es cs) : NamesL X (.Name x p :: es) (c :: cs)
theorem namesL_run {X : Cx} {es : List Expr} {cs : List Value} (hn : NamesL X es cs) {pos : Pos} {pins : List (Addr × Obj)} {σ : St} {H : Hp} {s : Shared} {E : Value → Shared → Prop} (I : Inv X pins σ H s) : ∀ {Q : List Value → Shared → Prop}, Q cs s → wpAny (model X.prog X.w) X.A (spliced (backTo pos (starEach es X.env))) Q E s := by
  induction hn with
  | nil => exact fun q => Calls.spliced_nil q
  | @cons x p c es cs h k ih =>
    intro Q q
    show wpAny _ _ (spliced ((false, eval (.Name x p) X.env) :: backTo pos (starEach es X.env))) _ _ _
    have rest : wpAny (model X.prog X.w) X.A (spliced (backTo pos (starEach es X.env))) (fun vs s' => Q (c :: vs) s') E s := ih q
    refine Calls.spliced_cons ?_
    obtain ⟨hg, hdb, h1 | ⟨h1, hv, hnn⟩⟩ := h
    · exact ld_glob I hg h1 rest hdb
    · exact ld_blt I hg h1 hv rest hnn hdb
theorem NamesL.suite {X : Cx} {es : List Expr} {cs : List Value} (h : NamesL X es cs) (a : Addr) (pn : List (Addr × Obj)) : NamesL (X.suite a pn) es cs := by
  induction h with
  | nil => exact .nil
  | cons h k ih => exact .cons h ih
theorem hdt_tup {X : Cx} {cl : Nat → Addr} {es : List Expr} {vs : List Value} {k : Nat} {np : Pos} {cs : List (Nat × Bool)} (hn : NamesL X es vs) (hz : vs.length ≤ 1000) (hm : ∀ c b, cs.lookup c = some b → PySem.W.exmAny X.K (.ref (cl c)) vs = some b) : HdT X cl (.Tuple es k np) cs := by
  refine ⟨fun a pn σ H s oe c b Q E I ha hcls hl h => ?_⟩
  refine wpAny_Tuple_spliced (namesL_run (hn.suite a pn) I ⟨Nat.le_of_lt (small1000 hz), ?_⟩)
  have k' : ∀ b o, s.heap.get? b = some o → (s.heap.push { cls := .type "tuple", data := .seq vs.toArray }).get? b = some o := fun b o e => Heap.get?_push_of_some _ e
  have LT : PySem.W.Looks (model X.prog X.w) (s.heap.push { cls := .type "tuple", data := .seq vs.toArray }) (typeOf (.ref a)) (.ref (cl c)) := fun A Q E s' k q => wpAny_typeOf_ref (k _ _ (k' _ _ ha)) (by rw [hcls]; exact q)
  have LM := exm_tupN (M := model X.prog X.w) (I.kIn.keeps k') LT (Heap.get?_push_size _ rfl) (hm c b hl)
  exact LM.here (s := { s with heap := s.heap.push { cls := .type "tuple", data := .seq vs.toArray } }) (h _ s.toks k')
/-- what the class at C must say, so that isinstance asks its instances rightly -/
structure ExcQ (K : PySem.W.Frag) (C : Addr) : Prop where
  cl : (PySem.W.clsIn K C).isSome = true
  ga : PySem.W.findIn K (.ref C) "__getattribute__" = some (some (.builtin "BaseException.__getattribute__"))
  gg : PySem.W.findIn K (.ref C) "__getattr__" = some none
  sb : PySem.W.subIn K (.ref C) (.type "BaseException") = some true
  ca : PySem.W.findIn K (.ref C) "__class__" = some (some (.builtin "object.__class__"))
  cn : PySem.W.specialIn K (.builtin "object.__class__") "__get__" = some (some (.builtin "getset_descriptor.__get__"))
  ct : PySem.W.takesIn K (.builtin "object.__class__") = some true
  ob : PySem.W.mroIn K C (.type "object") = some true
/-- at a: an exception of the class at C, its dict told -/
def ExH (H : Hp) (a C : Addr) : Prop := ∃ d, H a = some (ExK (.ref C) d a) ∧ (d = none ∨ ∃ dd fs, d = some dd ∧ H dd = some (.xd fs))
theorem exn_inst {X : Cx} {pins : List (Addr × Obj)} {σ : St} {H : Hp} {s : Shared} {a C : Addr} (I : Inv X pins σ H s) (h : ExH H a C) : ∃ oe od, PySem.W.InstAt s.heap a oe C od := by
  obtain ⟨d, ha, hd⟩ := h
  obtain ⟨⟨oe, ws, e1, z, e2⟩, _⟩ := (show ObjOk X.prog X.w H s.heap a (.ext _) from I.hok a _ ha)
  have nc : PySem.W.notCls oe = true := by unfold PySem.W.notCls; rw [e2] <;> rfl
  rcases hd with rfl | ⟨dd, fs, rfl, hdd⟩
  · exact ⟨oe, none, e1, z.1, nc, by rw [z.2]; trivial⟩
  · obtain ⟨_, ⟨od, _, _, e3, _⟩, _⟩ := (show ObjOk X.prog X.w H s.heap dd (.xd fs) from I.hok dd _ hdd)
    exact ⟨oe, some od, e1, z.1, nc, by rw [z.2]; exact e3⟩
def rIsX (K : PySem.W.Frag) : List V → Hp → VK → Prop := fun xs H Q => ∃ (a C : Addr) (c : V) (cv : Value) (b : Bool), xs = [.ref a, c] ∧ ClsV c cv ∧ ExH H a C ∧ ExcQ K C ∧ PySem.W.kitOne K (.ref C) cv = some b ∧ Q (.bl b) H
theorem call_isX {X : Cx} : CallR X (.builtin "isinstance") (rIsX X.K) := by
  intro pins s σ H xs us Q I r h
  obtain ⟨a, C, c, cv, b, rfl, k, hx, T, e, q⟩ := h
  obtain ⟨u1, u2, rfl, r1, r2⟩ := vals2 r
  have e2 := k.eq r2
  subst e2
  cases (show u1 = Value.ref a from r1)
  obtain ⟨oe, od, J⟩ := exn_inst I hx
  exact PySem.W.kia_one (PySem.W.kitx_exc T.cl T.ga T.gg T.sb T.ca T.cn T.ct T.ob) I.kIn J e (fun z => nomatch z) fun tk => ⟨.bl b, H, I.tok tk, rfl, q⟩
def rIsXT (K : PySem.W.Frag) : List V → Hp → VK → Prop := fun xs H Q => ∃ (a C tp : Addr) (cs : List V) (ws : List Value) (b : Bool), xs = [.ref a, .ref tp] ∧ H tp = some (.tup cs) ∧ Paired ClsV cs ws ∧ ExH H a C ∧ ExcQ K C ∧ PySem.W.kitAny K (.ref C) ws = some b ∧ Q (.bl b) H
theorem call_isXT {X : Cx} : CallR X (.builtin "isinstance") (rIsXT X.K) := by
  intro pins s σ H xs us Q I r h
  obtain ⟨a, C, tp, cs, ws, b, rfl, hT, k, hx, T, e, q⟩ := h
  obtain ⟨u1, u2, rfl, r1, r2⟩ := vals2 r
  cases (show u2 = Value.ref tp from r2)
  cases (show u1 = Value.ref a from r1)
  obtain ⟨oe, od, J⟩ := exn_inst I hx
  obtain ⟨_, its, rv, o, h1, h2, n, h3⟩ := (show ObjOk X.prog X.w H s.heap tp (.tup cs) from I.hok tp _ hT)
  have e3 := ClsV.all k rv
  subst e3
  obtain ⟨oc, od', dt, sl⟩ := o
  simp only at h2 h3
  subst h2 h3
  exact PySem.W.kia_tup (PySem.W.kitx_exc T.cl T.ga T.gg T.sb T.ca T.cn T.ct T.ob) I.kIn J h1 e (fun z => nomatch z) fun tk => ⟨.bl b, H, I.tok tk, rfl, q⟩
section
variable {X : Cx} {cl : Nat → Addr} {E : XK} {pos : Pos} {a : Expr} {m : ME}
theorem exn_at {Γ : Gm} {α : List Addr} {G H : Hp} {S : Store} (R : Rl Γ α G S H) {c : Nat} {fs : List D} {v : V} (r : Rep Γ α G (.exn c fs) v) : ∃ p, v = .ref p ∧ ExH H p (Γ.cl c) := by
  unfold Rep at r
  obtain ⟨p, vs, rfl, ⟨d, h1, h2⟩, _⟩ := r
  refine ⟨p, rfl, d, R.sub _ _ h1, ?_⟩
  rcases h2 with ⟨_, z⟩ | ⟨nm, v, dd, _, e2, e3⟩
  · exact .inl z
  · exact .inr ⟨dd, _, e2, R.sub _ _ e3⟩
def isX (tab : List (Nat × Bool)) (d : D) (S : Store) : Res D := match d with
  | .exn c _ => match tab.lookup c with
    | some b => .ok (.bl b) S
    | none => .no
  | _ => .no
/-- isinstance(e, C): tab tells the answer by the number of e's class -/
def mIsX (tab : List (Nat × Bool)) (m : ME) : ME := fun ρ S => (m ρ S).bind (isX tab)
theorem q_isX (tab : List (Nat × Bool)) {x : Str} {p p2 : Pos} {cv : V} {cw : Value} (h : QE X cl E a m) (hg : Gl X "isinstance") (hm : X.mg "isinstance" = none) (hc : PE X (.Name x p2) (tC cv)) (hcv : ClsV cv cw) (ht : ∀ c b, tab.lookup c = some b → ExcQ X.K (cl c) ∧ PySem.W.kitOne X.K (.ref (cl c)) cw = some b)
    (hs1 : starEach [a, .Name x p2] X.env = (false, eval a X.env) :: starEach [.Name x p2] X.env := by rfl) (hs2 : starEach [.Name x p2] X.env = (false, eval (.Name x p2) X.env) :: starEach [] X.env := by rfl) (hpl : (backTo pos (starEach [.Name x p2] X.env)).any (·.1) = false := by rfl) :
    QE X cl E (.Call (.Name "isinstance" p) [a, .Name x p2] [] pos) (mIsX tab m) := by
  obtain ⟨t, h1, h2⟩ := h.ex
  refine ⟨_, pe_callB call_isX hg hm (by decide +kernel) (pa_cons h1 (pa_cons hc pa_nil hs2) hs1) (by decide) (by decide) hs1 hpl, fun ρ S σ α G H Q hρ hR hp => h2 ρ S σ α G H _ hρ hR (post_bind hp fun d S1 α1 G1 H1 v _ e1 R1 r1 hp1 => ?_)⟩
  cases d <;> try exact hp1.elim
  rename_i c fs _
  simp only [isX] at hp1
  cases hl : tab.lookup c with
  | none => simp only [hl] at hp1; exact hp1.elim
  | some b =>
    simp only [hl] at hp1
    obtain ⟨p, rfl, hx⟩ := exn_at R1 r1
    obtain ⟨T, e⟩ := ht c b hl
    exact ⟨p, cl c, cv, cw, b, rfl, hcv, hx, T, e, post_ok hp1 R1 (by simp [Rep])⟩
/-- isinstance(e, (C, D, F)) -/
theorem q_isX3 (tab : List (Nat × Bool)) {x y z : Str} {p p2 p3 p4 p5 : Pos} {x1} {cv cv2 cv3 : V} {cw cw2 cw3 : Value} (h : QE X cl E a m) (hg : Gl X "isinstance") (hm : X.mg "isinstance" = none) (hc : PE X (.Name x p2) (tC cv)) (hcv : ClsV cv cw) (hc2 : PE X (.Name y p3) (tC cv2)) (hcv2 : ClsV cv2 cw2) (hc3 : PE X (.Name z p4) (tC cv3)) (hcv3 : ClsV cv3 cw3)
    (ht : ∀ c b, tab.lookup c = some b → ExcQ X.K (cl c) ∧ PySem.W.kitAny X.K (.ref (cl c)) [cw, cw2, cw3] = some b)
    (hs1 : starEach [a, .Tuple [.Name x p2, .Name y p3, .Name z p4] x1 p5] X.env = (false, eval a X.env) :: starEach [.Tuple [.Name x p2, .Name y p3, .Name z p4] x1 p5] X.env := by rfl) (hs2 : starEach [.Tuple [.Name x p2, .Name y p3, .Name z p4] x1 p5] X.env = (false, eval (.Tuple [.Name x p2, .Name y p3, .Name z p4] x1 p5) X.env) :: starEach [] X.env := by rfl)
    (hs3 : starEach [.Name x p2, .Name y p3, .Name z p4] X.env = (false, eval (.Name x p2) X.env) :: starEach [.Name y p3, .Name z p4] X.env := by rfl) (hs4 : starEach [.Name y p3, .Name z p4] X.env = (false, eval (.Name y p3) X.env) :: starEach [.Name z p4] X.env := by rfl) (hs5 : starEach [.Name z p4] X.env = (false, eval (.Name z p4) X.env) :: starEach [] X.env := by rfl)
    (hpl : (backTo pos (starEach [.Tuple [.Name x p2, .Name y p3, .Name z p4] x1 p5] X.env)).any (·.1) = false := by rfl) :
    QE X cl E (.Call (.Name "isinstance" p) [a, .Tuple [.Name x p2, .Name y p3, .Name z p4] x1 p5] [] pos) (mIsX tab m) := by
  obtain ⟨t, h1, h2⟩ := h.ex
  refine ⟨_, pe_callB call_isXT hg hm (by decide +kernel) (pa_cons h1 (pa_cons (pe_tup (pa_cons hc (pa_cons hc2 (pa_cons hc3 pa_nil hs5) hs4) hs3)) pa_nil hs2) hs1) (by decide) (by decide) hs1 hpl, fun ρ S σ α G H Q hρ hR hp => h2 ρ S σ α G H _ hρ hR (post_bind hp fun d S1 α1 G1 H1 v _ e1 R1 r1 hp1 => ?_)⟩
  cases d <;> try exact hp1.elim
  rename_i c fs _
  simp only [isX] at hp1
  cases hl : tab.lookup c with
  | none => simp only [hl] at hp1; exact hp1.elim
  | some b =>
    simp only [hl] at hp1
    refine ⟨sz (by simp), fun tp htp => ?_⟩
    obtain ⟨R2, e2⟩ := R1.out htp (.tup [cv, cv2, cv3])
    obtain ⟨p, rfl, hx⟩ := exn_at R2 (Rep.mono e2.pre e2.sub _ _ r1)
    obtain ⟨T, e⟩ := ht c b hl
    exact ⟨p, cl c, tp, [cv, cv2, cv3], [cw, cw2, cw3], b, rfl, upd_same, .cons hcv (.cons hcv2 (.cons hcv3 .nil)), hx, T, e, hp1 _ _ _ _ e2 R2 (by simp [Rep])⟩
end
@[simp] theorem ap_isX (tab : List (Nat × Bool)) (m : ME) (ρ : Env) (S : Store) : mIsX tab m ρ S = (m ρ S).bind (isX tab) := rfl
theorem isX_exn (tab : List (Nat × Bool)) (c : Nat) (fs : List D) (S : Store) {b : Bool} (h : tab.lookup c = some b) : isX tab (.exn c fs) S = .ok (.bl b) S := by
  unfold isX
  simp only [h]
@[simp] theorem isNon_exn (c : Nat) (fs : List D) : isNon (.exn c fs) = false := (Eq.refl _).trans rfl
@[simp] theorem pureD_exn (c : Nat) (fs : List D) : pureD (.exn c fs) = pureL fs := (Eq.refl _).trans rfl
/-- a table's answers, one by one -/
theorem tab_nil {P : Nat → Bool → Prop} : ∀ c b, ([] : List (Nat × Bool)).lookup c = some b → P c b := fun _ _ h => nomatch h
theorem tab_cons {P : Nat → Bool → Prop} {c : Nat} {b : Bool} {r : List (Nat × Bool)} (h : P c b) (k : ∀ c' b', r.lookup c' = some b' → P c' b') : ∀ c' b', ((c, b) :: r).lookup c' = some b' → P c' b' := fun c' b' e => by
  rw [List.lookup_cons] at e
  split at e
  · rename_i q
    have := eq_of_beq q
    subst this
    cases e
    exact h
  · exact k c' b' e
end Q
namespace Q
open PySem PySem.Spec PyProof.Rows L2 He
def clN : Nat → Str
  | 0 => "Share" | 1 => "Log" | 2 => "Flow" | 3 => "Net" | 4 => "Sums" | 5 => "Watch" | 6 => "Desk" | 7 => "NoMinute" | 8 => "NoWay" | 9 => "NothingDone" | 10 => "Unlike" | 11 => "TooMany" | 12 => "Contradiction" | 13 => "BadText" | 14 => "BadLine"
  | 15 => "Flow_walks" | 16 => "Flow_tracks"
  | _ => ""
def clK (K : PySem.W.Frag) (c : Nat) : Addr := ga K (clN c)
/-- plain kinds, by name -/
def kinds : List String := ["NoneType", "bool", "int", "str", "tuple", "list"]
theorem kinds_of {S : Store} {d : D} (h : isOk S d = true) : tyN d ∈ kinds := by cases d <;> first | (simp [isOk] at h; done) | (simp [tyN, kinds]; done)
/-- a class that is named: one of the text's, or a built-in one -/
inductive EV where
  | own (c : Nat) | bi (T : String)
def EV.val (K : PySem.W.Frag) : EV → Value
  | .own c => .ref (clK K c)
  | .bi T => .type T
inductive Qf where
  | glo (x : Str) | free (x : Str) | int (x : Str) (i : Int) | str (x z : Str)
  | cls (c : Nat)
  | slot (c : Nat) (f : Str) (i : Nat)
  | mkr (c : Nat)
  | meth (c : Nat) (m : Str)
  | isi (c : Nat)
  | eq (c : Nat)
  | call (c : Nat)
  | sta (c : Nat) (m : Str)
  | exc (c : Nat)
  | exq (c : Nat)
  | kits (c : Nat) (vs : List EV) (b : Bool)
  | kit (c : Nat) (v : EV) (b : Bool)
  | exm (c : Nat) (v : EV) (b : Bool)
  | exms (c : Nat) (vs : List EV) (b : Bool)
/-- an exception's base: ValueError, or LookupError -/
def exB (c : Nat) : String := if c ≤ 9 then "LookupError" else "ValueError"
def exN (c : Nat) : String := if c ≤ 9 then "LookupError.__new__" else "ValueError.__new__"
def exI (c : Nat) : String := if c ≤ 9 then "LookupError.__init__" else "ValueError.__init__"
def exM (c : Nat) : List Value := if c ≤ 9 then [.type "LookupError", .type "Exception", .type "BaseException", .type "object"] else [.type "ValueError", .type "Exception", .type "BaseException", .type "object"]
theorem ex_base (c : Nat) : ExcBaseFacts (exB c) (exN c) (exI c) (exM c) := by
  unfold exB exN exI exM
  split
  · exact F.excBase_LookupError
  · exact F.excBase_ValueError
theorem ex_kxs (c : Nat) : PySem.W.KxsFacts (exB c) (exI c) := by
  unfold exB exI
  split
  · exact PySem.W.kxs_LookupError
  · exact PySem.W.kxs_ValueError
/-- the code object's file, the cell of __class__ -/
def supIn (K : PySem.W.Frag) (C f : Addr) : Bool := match K.lookup f with
  | some ⟨_, _, .func fd, _⟩ => (match fd.code with
    | .ref cda => (match K.lookup cda with
      | some ⟨_, _, .fields vs, _⟩ => (match (vs[2]? : Option Value) with
        | some (.str z _) => z == ("/claim/cut.py" : Str)
        | _ => false)
      | _ => false)
    | _ => false) && (match fd.closure with
    | [(_, cc)] => (match K.lookup cc with
      | some ⟨_, _, .cell (some (.ref D)), _⟩ => decide (D = C)
      | _ => false)
    | _ => false)
  | _ => false
def staP (K : PySem.W.Frag) (C : Addr) (m : Str) : Addr := match PySem.W.findCls K (.ref C) (.type "type") m with
  | some (.get _ (.ref p) .none _) => p
  | _ => 0
/-- the def of a static method -/
def staA (K : PySem.W.Frag) (C : Addr) (m : Str) : Addr := match PySem.W.recIn K (staP K C m) "staticmethod" with
  | some (.ref g :: _) => g
  | _ => 0
def ob {α : Type} [DecidableEq α] (a b : α) : Bool := decide (a = b)
theorem ob_ok {α : Type} [DecidableEq α] {a b : α} (h : ob a b = true) : a = b := of_decide_eq_true h
def Qf.ok (K : PySem.W.Frag) : Qf → Bool
  | .glo x => (Fa.glo x).ok K
  | .free x => (Fa.free x).ok K
  | .int x i => (Fa.int x i).ok K
  | .str x z => (Fa.str x z).ok K
  | .cls c => He.eqO (PySem.W.nsIn K mainGlobals (clN c)) (some (some (.ref (clK K c)))) && (PySem.W.plainGet K (clK K c) Str.empty && (PySem.W.isClsIn K (clK K c) && (PySem.W.plainOver K (clK K c) && He.eqO (PySem.W.findIn K (.ref (clK K c)) "__setattr__") (some (some (.builtin "object.__setattr__"))))))
  | .slot c f i => let C := clK K c; let p := ma K C f; He.eqO (PySem.W.findIn K (.ref C) f) (some (some (.ref p))) && (He.eqO (PySem.W.specialIn K (.ref p) "__get__") (some (some (.builtin "member_descriptor.__get__"))) && (ob (PySem.W.takesIn K (.ref p)) (some true) && (ob (PySem.W.typeIn K (.ref p)) (some (.type "member_descriptor")) && (ob (PySem.W.slotIn K p C) (some i) && decide (i < 1000)))))
  | .mkr c => (Fa.mkr (clN c)).ok K
  | .meth c m => (Fa.meth (clN c) m).ok K
  | .isi c => let C := clK K c; He.eqO (PySem.W.findIn K (.ref C) "__class__") (some (some (.builtin "object.__class__"))) && (He.eqO (PySem.W.specialIn K (.builtin "object.__class__") "__get__") (some (some (.builtin "getset_descriptor.__get__"))) && (ob (PySem.W.takesIn K (.builtin "object.__class__")) (some true) && (ob (PySem.W.mroIn K C (.type "object")) (some true) &&
      (ob (PySem.W.kitOne K (.ref C) (.ref C)) (some true) && kinds.all fun t => ob (PySem.W.kitOne K (.type t) (.ref C)) (some false)))))
  | .eq c => let C := clK K c; let g := ma K C "__eq__"; He.eqO (PySem.W.findIn K (.ref C) "__eq__") (some (some (.ref g))) && (PySem.W.isFn K (.ref g) && (He.eqO (PySem.W.findIn K (.ref C) "__ne__") (some (some (.builtin "object.__ne__"))) && (ob (PySem.W.mroIn K C (.type "object")) (some true) && (PySem.W.notFirst K C (.ref C) && kinds.all fun t => PySem.W.notFirst K C (.type t)))))
  | .call c => let C := clK K c; let g := ma K C "__call__"; He.eqO (PySem.W.findIn K (.ref C) "__call__") (some (some (.ref g))) && (PySem.W.isFn K (.ref g) && PySem.W.fnIn K g)
  | .sta c m => let C := clK K c; PySem.W.readsIn K C (.type "type") && (He.eqO (PySem.W.specialIn K (.ref C) "__getattribute__") (some (some (.builtin "type.__getattribute__"))) && ((match PySem.W.findCls K (.ref C) (.type "type") m with
      | some (.get (.builtin g) (.ref p) .none (.ref D)) => ob g "staticmethod.__get__" && (ob p (staP K C m) && ob D C)
      | _ => false) && ((match PySem.W.recIn K (staP K C m) "staticmethod" with
      | some (.ref g :: _) => ob g (staA K C m)
      | _ => false) && PySem.W.keepIn K (.ref (staA K C m)))))
  | .exc c => let C := clK K c; let f := ma K C "__init__"; PySem.W.excInitIn K C (exM c) (exN c) && (He.eqO (PySem.W.findIn K (.ref C) "__init__") (some (some (.ref f))) && (ob (PySem.W.typeIn K (.ref f)) (some (.type "function")) && (supIn K C f && ((PySem.W.clsIn K C).isSome && (ob (PySem.W.mroIn K C (.ref C)) (some true) && (He.eqO (PySem.W.nsIn K mainGlobals "super") (some none) && (He.eqO (PySem.W.nsIn K cStatics "thirdparty.any") (some none) && (He.eqO (PySem.W.ks_superIn K C C "__init__") (some (some (.builtin (exI c)))) && (ob (PySem.W.subIn K (.ref C) (.type (exB c))) (some true) && (ob (PySem.W.subIn K (.ref C) (.type "BaseException")) (some true) && (ob (PySem.W.typeIn K (.ref C)) (some (.type "type")) && (PySem.W.keepIn K (.ref C) && (He.eqO (PySem.W.nsIn K mainGlobals (clN c)) (some (some (.ref C))))))))))))))))
  | .exq c => let C := clK K c; (PySem.W.clsIn K C).isSome && (He.eqO (PySem.W.findIn K (.ref C) "__getattribute__") (some (some (.builtin "BaseException.__getattribute__"))) && (He.eqO (PySem.W.findIn K (.ref C) "__getattr__") (some none) && (ob (PySem.W.subIn K (.ref C) (.type "BaseException")) (some true) && (He.eqO (PySem.W.findIn K (.ref C) "__class__") (some (some (.builtin "object.__class__"))) && (He.eqO (PySem.W.specialIn K (.builtin "object.__class__") "__get__") (some (some (.builtin "getset_descriptor.__get__"))) && (ob (PySem.W.takesIn K (.builtin "object.__class__")) (some true) && (ob (PySem.W.mroIn K C (.type "object")) (some true) && (He.eqO (PySem.W.nsIn K mainGlobals (clN c)) (some (some (.ref C)))))))))))
  | .kit c v b => ob (PySem.W.kitOne K (.ref (clK K c)) (v.val K)) (some b)
  | .kits c vs b => ob (PySem.W.kitAny K (.ref (clK K c)) (vs.map fun v => v.val K)) (some b)
  | .exm c v b => ob (PySem.W.exmOne K (.ref (clK K c)) (v.val K)) (some b)
  | .exms c vs b => ob (PySem.W.exmAny K (.ref (clK K c)) (vs.map fun v => v.val K)) (some b)
section
variable {K : PySem.W.Frag} {h : Heap} {mg : Str → Option Value} {c i : Nat} {f m : Str}
theorem qf_glo (X : K.In h) (G : h.Ns mainGlobals mg) {x : Str} (e : (Qf.glo x).ok K = true) : mg x = some (.ref (ga K x)) := glo_ok X G e
theorem qf_free (X : K.In h) (G : h.Ns mainGlobals mg) {x : Str} (e : (Qf.free x).ok K = true) : mg x = none := free_ok X G e
theorem qf_int (X : K.In h) (G : h.Ns mainGlobals mg) {x : Str} {i : Int} (e : (Qf.int x i).ok K = true) : ∃ t, mg x = some (.int i t) := int_ok X G e
theorem qf_str (X : K.In h) (G : h.Ns mainGlobals mg) {x z : Str} (e : (Qf.str x z).ok K = true) : ∃ t, mg x = some (.str z t) := str_ok X G e
theorem qf_cls (X : K.In h) (G : h.Ns mainGlobals mg) (e : (Qf.cls c).ok K = true) : mg (clN c) = some (.ref (clK K c)) ∧ SlX.SCls K (clK K c) := by
  obtain ⟨e0, e⟩ := ba e
  obtain ⟨e1, e⟩ := ba e
  obtain ⟨e2, e⟩ := ba e
  obtain ⟨e3, e4⟩ := ba e
  exact ⟨PySem.W.mg_of X G (He.eqO_ok e0), e1, e2, e3, He.eqO_ok e4⟩
theorem qf_slot (e : (Qf.slot c f i).ok K = true) : SlX.Slot1 K (clK K c) f (ma K (clK K c) f) i := by
  obtain ⟨e1, e⟩ := ba e
  obtain ⟨e2, e⟩ := ba e
  obtain ⟨e3, e⟩ := ba e
  obtain ⟨e4, e⟩ := ba e
  obtain ⟨e5, e6⟩ := ba e
  exact ⟨He.eqO_ok e1, He.eqO_ok e2, ob_ok e3, ob_ok e4, ob_ok e5, of_decide_eq_true e6⟩
theorem qf_mkr (e : (Qf.mkr c).ok K = true) : Mk K (clK K c) (ma K (clK K c) "__init__") := mkr_ok e
theorem qf_meth (e : (Qf.meth c m).ok K = true) : Meth K (clK K c) m (ma K (clK K c) m) := meth_ok e
structure IsiC (K : PySem.W.Frag) (C : Addr) : Prop where
  i : SlX.SIsi K C
  k : PySem.W.kitOne K (.ref C) (.ref C) = some true
  n : ∀ (S : Store) d, isOk S d = true → PySem.W.kitOne K (.type (tyN d)) (.ref C) = some false
theorem qf_isi (e : (Qf.isi c).ok K = true) : IsiC K (clK K c) := by
  obtain ⟨e1, e⟩ := ba e
  obtain ⟨e2, e⟩ := ba e
  obtain ⟨e3, e⟩ := ba e
  obtain ⟨e4, e⟩ := ba e
  obtain ⟨e5, e6⟩ := ba e
  exact ⟨⟨He.eqO_ok e1, He.eqO_ok e2, ob_ok e3, ob_ok e4⟩, ob_ok e5, fun _ d hd => ob_ok (List.all_eq_true.mp e6 _ (kinds_of hd))⟩
structure EqC (K : PySem.W.Frag) (C g : Addr) : Prop where
  at_ : PySem.W.findIn K (.ref C) "__eq__" = some (some (.ref g))
  fn : PySem.W.isFn K (.ref g) = true
  ne : NeC K C g
  nf : PySem.W.notFirst K C (.ref C) = true
  nk : ∀ (S : Store) d, isOk S d = true → PySem.W.notFirst K C (.type (tyN d)) = true
theorem qf_eq (e : (Qf.eq c).ok K = true) : EqC K (clK K c) (ma K (clK K c) "__eq__") := by
  obtain ⟨e1, e⟩ := ba e
  obtain ⟨e2, e⟩ := ba e
  obtain ⟨e3, e⟩ := ba e
  obtain ⟨e4, e⟩ := ba e
  obtain ⟨e5, e6⟩ := ba e
  exact ⟨He.eqO_ok e1, e2, ⟨He.eqO_ok e3, ob_ok e4, He.eqO_ok e1, e2⟩, e5, fun _ d hd => List.all_eq_true.mp e6 _ (kinds_of hd)⟩
theorem qf_call (e : (Qf.call c).ok K = true) : StX.CallO K (clK K c) (ma K (clK K c) "__call__") := by
  obtain ⟨e1, e⟩ := ba e
  obtain ⟨e2, e3⟩ := ba e
  exact ⟨He.eqO_ok e1, e2, e3⟩
theorem qf_sta (e : (Qf.sta c m).ok K = true) : StaC K (clK K c) m (staA K (clK K c) m) := by
  obtain ⟨e1, e⟩ := ba e
  obtain ⟨e2, e⟩ := ba e
  obtain ⟨e3, e⟩ := ba e
  obtain ⟨e4, e5⟩ := ba e
  refine ⟨e1, He.eqO_ok e2, ⟨staP K (clK K c) m, ?_, ?_⟩, e5⟩
  · clear e4
    split at e3
    · rename_i g p D q
      obtain ⟨k1, k⟩ := ba e3
      obtain ⟨k2, k3⟩ := ba k
      rw [q, ob_ok k1, ob_ok k2, ob_ok k3]
    · cases e3
  · split at e4
    · rename_i g r q
      exact ⟨r, by rw [q, ob_ok e4]⟩
    · cases e4
theorem qf_exq (X : K.In h) (G : h.Ns mainGlobals mg) (e : (Qf.exq c).ok K = true) : mg (clN c) = some (.ref (clK K c)) ∧ ExcQ K (clK K c) := by
  obtain ⟨e1, e⟩ := ba e
  obtain ⟨e2, e⟩ := ba e
  obtain ⟨e3, e⟩ := ba e
  obtain ⟨e4, e⟩ := ba e
  obtain ⟨e5, e⟩ := ba e
  obtain ⟨e6, e⟩ := ba e
  obtain ⟨e7, e⟩ := ba e
  obtain ⟨e8, e9⟩ := ba e
  exact ⟨PySem.W.mg_of X G (He.eqO_ok e9), e1, He.eqO_ok e2, He.eqO_ok e3, ob_ok e4, He.eqO_ok e5, He.eqO_ok e6, ob_ok e7, ob_ok e8⟩
theorem qf_kit {v : EV} {b : Bool} (e : (Qf.kit c v b).ok K = true) : PySem.W.kitOne K (.ref (clK K c)) (v.val K) = some b := ob_ok e
theorem qf_kits {vs : List EV} {b : Bool} (e : (Qf.kits c vs b).ok K = true) : PySem.W.kitAny K (.ref (clK K c)) (vs.map fun v => v.val K) = some b := ob_ok e
theorem qf_exm {v : EV} {b : Bool} (e : (Qf.exm c v b).ok K = true) : PySem.W.exmOne K (.ref (clK K c)) (v.val K) = some b := ob_ok e
theorem qf_exms {vs : List EV} {b : Bool} (e : (Qf.exms c vs b).ok K = true) : PySem.W.exmAny K (.ref (clK K c)) (vs.map fun v => v.val K) = some b := ob_ok e
end
inductive Dat where
  | glo (x : Str) | meth (c : Nat) (m : Str) | sta (c : Nat) (m : Str) | exc (c : Nat)
/-- the names of its cells -/
def Dat.cn : Dat → List Str
  | .exc _ => ["__class__"]
  | _ => []
def Dat.ad (K : PySem.W.Frag) : Dat → Addr
  | .exc c => ma K (clK K c) "__init__"
  | .glo x => ga K x
  | .meth c m => ma K (clK K c) m
  | .sta c m => staA K (clK K c) m
structure DefQ where
  at_ : Dat
  name : Str
  qual : Str
  st : Stmt
abbrev FnQ : Type := Option (Str × Str × Arguments × FuncBody × Scope × Addr × List Str × Addr)
def fnQ (K : PySem.W.Frag) (d : DefQ) : FnQ := match K.lookup (d.at_.ad K) with
  | some ⟨_, _, .func fd, _⟩ => some (fd.name, fd.qualname, fd.params, fd.body, fd.scope, fd.globals, fd.closure.map (·.1), fd.builtins)
  | _ => none
def DefQ.val (d : DefQ) : FnQ := some (d.name, d.qual, defArgs d.st, .stmts (defBody d.st), defScope d.st, mainGlobals, d.at_.cn, builtinsNs)
def DefQ.ok (K : PySem.W.Frag) (d : DefQ) : Bool := PySem.W.keepIn K (.ref (d.at_.ad K)) && (match K.lookup (d.at_.ad K) with
  | some ⟨_, _, .func fd, _⟩ => PySem.W.codeIn K fd.code d.qual && (match fd.defaults with
    | .none => true
    | _ => false)
  | _ => false)
theorem DefQ.fun {K : PySem.W.Frag} {d : DefQ} (hn : d.at_.cn = []) (e : fnQ K d = d.val) (c : d.ok K = true) : ∃ fd, Fun K d.name d.qual d.st (d.at_.ad K) fd := by
  obtain ⟨kp, c2⟩ := ba c
  unfold fnQ at e
  cases q : K.lookup (d.at_.ad K) with
  | none =>
    rw [q] at c2
    cases c2
  | some o =>
    obtain ⟨oc, od, dt, osl⟩ := o
    rw [q] at c2 e
    cases dt with
    | func fd =>
      obtain ⟨n1, n2, n3, n4, n5, n6, n7, n8, n9, n10, n11, n12, n13, n14, n15⟩ := fd
      have e2 : (some (n1, n2, n3, n4, n5, n6, n7.map (·.1), n15) : FnQ) = some (d.name, d.qual, defArgs d.st, .stmts (defBody d.st), defScope d.st, mainGlobals, d.at_.cn, builtinsNs) := e
      rw [hn] at e2
      simp only [Option.some.injEq, Prod.mk.injEq, List.map_eq_nil_iff] at e2
      obtain ⟨h1, h2, h3, h4, h5, h6, h7, h8⟩ := e2
      subst h1 h2 h3 h4 h5 h6 h7 h8
      obtain ⟨k1, k2⟩ := ba c2
      have k3 : n8 = .none := by
        clear q k1 c2 kp
        dsimp only at k2
        cases n8 <;> first | rfl | cases k2
      subst k3
      exact ⟨_, ⟨⟨oc, od, n9, n10, n11, n12, n13, n14, osl, rfl, q, k1⟩, kp⟩⟩
    | _ => cases c2
/-- an exception's class by the head's facts -/
theorem DefQ.exu {P : Program} {h : Heap} {mg : Str → Option Value} {K : PySem.W.Frag} {d : DefQ} {c : Nat} (X : K.In h) (G : h.Ns mainGlobals mg) (hn : d.at_ = .exc c) (e : fnQ K d = d.val) (o : d.ok K = true) (q : (Qf.exc c).ok K = true) (hf : ((P.main.file : Str) == ("/claim/cut.py" : Str)) = true)
    (ht : (P.main.scope.names.lookup ("super" : Str)).isSome = false) : mg (clN c) = some (.ref (clK K c)) ∧ ExcU P K (clK K c) (ma K (clK K c) "__init__") (exB c) (exN c) (exI c) (exM c) d.st := by
  obtain ⟨q1, q⟩ := ba q
  obtain ⟨q2, q⟩ := ba q
  obtain ⟨q3, q⟩ := ba q
  obtain ⟨q4, q⟩ := ba q
  obtain ⟨q5, q⟩ := ba q
  obtain ⟨q6, q⟩ := ba q
  obtain ⟨q7, q⟩ := ba q
  obtain ⟨q8, q⟩ := ba q
  obtain ⟨q9, q⟩ := ba q
  obtain ⟨q10, q⟩ := ba q
  obtain ⟨q11, q⟩ := ba q
  obtain ⟨q12, q⟩ := ba q
  obtain ⟨q13, q14⟩ := ba q
  refine ⟨PySem.W.mg_of X G (He.eqO_ok q14), ex_base c, ex_kxs c, q1, He.eqO_ok q2, ob_ok q3, ?_, q5, ob_ok q6, He.eqO_ok q7, ht, He.eqO_ok q8, He.eqO_ok q9, ob_ok q10, ob_ok q11, ob_ok q12, q13⟩
  obtain ⟨kp, c2⟩ := ba o
  unfold fnQ at e
  rw [hn] at e c2
  simp only [Dat.ad] at e c2
  unfold supIn at q4
  cases ql : K.lookup (ma K (clK K c) "__init__") with
  | none =>
    rw [ql] at c2
    cases c2
  | some o =>
    obtain ⟨oc, od, dt, osl⟩ := o
    rw [ql] at c2 e q4
    cases dt with
    | func fd =>
      obtain ⟨n1, n2, n3, n4, n5, n6, n7, n8, n9, n10, n11, n12, n13, n14, n15⟩ := fd
      have e2 : (some (n1, n2, n3, n4, n5, n6, n7.map (·.1), n15) : FnQ) = some (d.name, d.qual, defArgs d.st, .stmts (defBody d.st), defScope d.st, mainGlobals, d.at_.cn, builtinsNs) := e
      rw [hn] at e2
      simp only [Option.some.injEq, Prod.mk.injEq, Dat.cn] at e2
      obtain ⟨h1, h2, h3, h4, h5, h6, h7, h8⟩ := e2
      obtain ⟨k1, k2⟩ := ba c2
      have k3 : n8 = .none := by
        clear ql k1 c2 kp q4
        dsimp only at k2
        cases n8 <;> first | rfl | cases k2
      obtain ⟨q41, q42⟩ := ba q4
      dsimp only at q41 q42 k1
      cases n7 with
      | nil => cases h7
      | cons p r =>
        obtain ⟨nm, cc⟩ := p
        cases r with
        | cons p' r' => simp at h7
        | nil =>
          simp only [List.map_cons, List.map_nil, List.cons.injEq, and_true] at h7
          subst h7
          cases n13 with
          | ref cda =>
            dsimp only at q41 q42
            split at q41
            · rename_i o1 o2 vs o3 hcd
              split at q41
              · rename_i z tf hv
                split at q42
                · rename_i y1 y2 D y3 hcc
                  have hD := of_decide_eq_true q42
                  subst hD
                  subst h1 h2 h3 h4 h5 h6 h8 k3
                  exact ⟨oc, od, _, _, _, _, _, _, _, osl, cc, cda, rfl, k1, ⟨_, _, vs, _, z, tf, hcd, hv, by rw [beq_iff_eq.mp q41]; exact hf⟩, _, _, _, hcc⟩
                · cases q42
              · cases q41
            · cases q41
          | _ => cases q41
    | _ => cases c2
def asQ (g : Addr → Option Obj) : Nat → List Addr
  | 0 => [mainGlobals, PySem.cStatics]
  | n + 1 => growD g (asQ g n)
abbrev AlQ : Type := Bool × List FnQ
def obsQ (fa : List Qf) (fn : List DefQ) (K : PySem.W.Frag) : AlQ := ((fa.all fun f => f.ok K) && fn.all fun d => d.ok K, fn.map fun d => fnQ K d)
def valQ (fn : List DefQ) : AlQ := (true, fn.map DefQ.val)
def SaysQ (fa : List Qf) (fn : List DefQ) (K : PySem.W.Frag) : Prop := obsQ fa fn K = valQ fn
def obsQG (n : Nat) (fa : List Qf) (fn : List DefQ) (g : Addr → Option Obj) : AlQ := obsQ fa fn (frG g (asQ g n))
def hookQ (n : Nat) (fa : List Qf) (fn : List DefQ) : PySem.W.Hook where
  α := AlQ
  obs := fun s => obsQG n fa fn s.heap.get?
  val := fun _ => valQ fn
  says := fun _ h => ∃ K : PySem.W.Frag, K.In h ∧ SaysQ fa fn K
  of := fun _ _ e => ⟨_, frG_in, e⟩
  keeps := fun _ _ _ ⟨K, hK, c⟩ k => ⟨K, PySem.W.Frag.In.keeps hK k, c⟩
theorem obsQG_eq {n : Nat} {fa : List Qf} {fn : List DefQ} {g : Addr → Option Obj} {s : Shared} (h : ∀ a, g a = s.heap.get? a) : obsQG n fa fn g = (hookQ n fa fn).obs s := by
  have e : g = s.heap.get? := funext h
  rw [e] <;> rfl
section
variable {fa : List Qf} {fn : List DefQ} {K : PySem.W.Frag}
theorem SaysQ.fact (c : SaysQ fa fn K) (i : Nat) {f : Qf} (h : fa[i]? = some f := by rfl) : f.ok K = true := by
  have c1 := (ba (show ((fa.all fun f => f.ok K) && fn.all fun d => d.ok K) = true from congrArg (fun z : AlQ => z.1) c)).1
  exact List.all_eq_true.mp c1 f (List.mem_of_getElem? h)
theorem SaysQ.both (c : SaysQ fa fn K) (i : Nat) {d : DefQ} (h : fn[i]? = some d := by rfl) : fnQ K d = d.val ∧ d.ok K = true := by
  have c2 := (ba (show ((fa.all fun f => f.ok K) && fn.all fun d => d.ok K) = true from congrArg (fun z : AlQ => z.1) c)).2
  have e : fn.map (fun d => fnQ K d) = fn.map DefQ.val := congrArg (fun z : AlQ => z.2) c
  have e2 : (fn.map fun d => fnQ K d)[i]? = (fn.map DefQ.val)[i]? := by rw [e]
  rw [List.getElem?_map, List.getElem?_map, h] at e2
  exact ⟨Option.some.inj e2, List.all_eq_true.mp c2 d (List.mem_of_getElem? h)⟩
theorem SaysQ.def_ (c : SaysQ fa fn K) (i : Nat) {d : DefQ} (h : fn[i]? = some d := by rfl) (hn : d.at_.cn = [] := by rfl) : ∃ fd, Fun K d.name d.qual d.st (d.at_.ad K) fd := DefQ.fun hn (c.both i h).1 (c.both i h).2
end
theorem bindsA0 {K : PySem.W.Frag} {x qual : Str} {st : Stmt} {f : Addr} {fd : FuncData} {us : List Value} {r : List (Str × Value)} (F : Fun K x qual st f fd)
    (h : ∀ (kV doc pm : Value) (an : Option Addr) (cdv ct : Value), bindArgs (PySem.W.fnOf x qual (defArgs st) (defBody st) (defScope st) .none kV doc pm an cdv ct) ⟨us, []⟩ = pure r) (s : Shared) : BindsTo s fd ⟨us, []⟩ r := by
  obtain ⟨oc, od, kV, doc, pm, an, cdv, ct, osl, rfl, lk, hcd⟩ := F.ex
  exact .of_eq (h kV doc pm an cdv ct)
end Q
namespace Lw
open PySem L2 Q
def m_l_cells : MS := (mSeq (mAsg (mOrV (mCall fListC (mCons (mSl (mVar 0) mNoO (mSoO (mVar 1))) mNil)) (mCell (mCons (mC (.int 0)) mNil))) (mgN 2))
  (mSeq (mFor (mEnum (mSl (mVar 0) (mSoO (mVar 1)) (mSoO (mC (.int 63))))) (mgTup 2 (mgCons (mgN 3) (mgCons (mgN 4) mgNil))) (mSeq (mAsg (mOp opModI (mCall fInt (mCons (mVar 3) mNil)) (mVar 1)) (mgN 5))
  (mAsg (mOp opAdd (mOp opIx (mVar 2) (mVar 5)) (mOp opMul (mVar 4) (mOp opAdd (mVar 3) (mC (.int 2))))) (mgSub (mVar 2) (mVar 5)))))
  (mRet (mFrz (mVar 2)))))
def f_l_cells : List D → Store → Res D := fnM 6 2 m_l_cells
def m_l_is_walk : MS := (mSeq (mIf (mOrT (mTB (mOp opLt (mCall fLen (mCons (mVar 2) mNil)) (mC (.int 2)))) (mOrT (mTB (mOp opNe (mOp opIx (mVar 2) (mC (.int 0))) (mOp opIx (mVar 1) (mC (.int 1))))) (mTB (mOp opNe (mOp opIx (mVar 2) (mNeg (mC (.int 1)))) (mOp opIx (mVar 1) (mC (.int 0))))))) (mRet (mC (.bl false))) mSkip)
  (mRet (mCall fAll (mCons (mLc (mZip (mCons (mVar 2) (mCons (mSl (mVar 2) (mSoO (mC (.int 1))) mNoO) mNil))) (mgTup 2 (mgCons (mgN 3) (mgCons (mgN 4) mgNil))) mYes (mOrV (mOp opIn (mTup (mCons (mVar 4) (mCons (mVar 3) mNil))) (mVar 0)) (mOp opEq (mVar 4) (mOp opSubI (mVar 3) (mC (.int 1))))) [3, 4]) mNil))))
def f_l_is_walk : List D → Store → Res D := fnM 5 3 m_l_is_walk
def m_l_steps : MS := (mRet (mLc (mZip (mCons (mVar 1) (mCons (mSl (mVar 1) (mSoO (mC (.int 1))) mNoO) mNil))) (mgTup 2 (mgCons (mgN 2) (mgCons (mgN 3) mgNil))) (mTB (mOp opNin (mTup (mCons (mVar 3) (mCons (mVar 2) mNil))) (mVar 0))) (mVar 3) [2, 3]))
def f_l_steps : List D → Store → Res D := fnM 4 2 m_l_steps
def m_l_are_walks : MS := (mSeq (mAsg (mLst mNil) (mgN 3))
  (mSeq (mFor (mItems (mVar 2)) (mgN 4) (mSeq (mIf (mNotT (mTest (mCall (fPure f_l_is_walk) (mCons (mVar 0) (mCons (mVar 1) (mCons (mVar 4) mNil)))))) (mRet (mC (.bl false))) mSkip)
  (mAsg (mOp opAdd (mVar 3) (mCall (fPure f_l_steps) (mCons (mVar 0) (mCons (mVar 4) mNil)))) (mgN 3))))
  (mRet (mOp opEq (mLenSet (mVar 3)) (mCall fLen (mCons (mVar 3) mNil))))))
def f_l_are_walks : List D → Store → Res D := fnM 5 3 m_l_are_walks
def m_l_due : MS := (mSeq (mIf (mNotT (mTest (mIsi .tuple (mVar 2)))) (mRet (mC (.bl false))) mSkip)
  (mSeq (mFor (mItems (mVar 2)) (mgN 3) (mSeq (mIf (mNotT (mTest (mIsi .tuple (mVar 3)))) (mRet (mC (.bl false))) mSkip)
  (mIf (mTB (mOp opNe (mLc (mItems (mVar 3)) (mgN 4) (mOrT (mNotT (mTest (mIsi .int (mVar 4)))) (mTest (mIsi .bool (mVar 4)))) (mVar 4) [4]) (mLst mNil))) (mRet (mC (.bl false))) mSkip)))
  (mRet (mCall (fPure f_l_are_walks) (mCons (mVar 0) (mCons (mVar 1) (mCons (mVar 2) mNil)))))))
def f_l_due : List D → Store → Res D := fnM 5 3 m_l_due
def m_l_same (self : List D → Store → Res D) : MS := (mSeq (mIf (mTest (mIsi2 .list .tuple (mVar 1))) (mSeq (mIf (mOrT (mTB (mOp opNe (mIsi .list (mVar 0)) (mIsi .list (mVar 1)))) (mTB (mOp opNe (mIsi .tuple (mVar 0)) (mIsi .tuple (mVar 1))))) (mRet (mC (.bl false))) mSkip)
  (mRet (mAndV (mOp opEq (mCall fLen (mCons (mVar 0) mNil)) (mCall fLen (mCons (mVar 1) mNil))) (mCall fAll (mCons (mLc (mZip (mCons (mVar 0) (mCons (mVar 1) mNil))) (mgTup 2 (mgCons (mgN 2) (mgCons (mgN 3) mgNil))) mYes (mCall (fPure self) (mCons (mVar 2) (mCons (mVar 3) mNil))) [2, 3]) mNil))))) mSkip)
  (mSeq (mIf (mOrT (mTB (mIsN (mVar 1))) (mTest (mIsi2 .bool .str (mVar 1)))) (mRet (mAndV (mOp opEq (mVar 0) (mVar 1)) (mAndV (mOp opEq (mIsi .bool (mVar 0)) (mIsi .bool (mVar 1))) (mOp opEq (mIsN (mVar 0)) (mIsN (mVar 1)))))) mSkip)
  (mRet (mAndV (mIsi .int (mVar 0)) (mAndV (mNotV (mIsi .bool (mVar 0))) (mOp opEq (mVar 0) (mVar 1)))))))
def f_l_same : Nat → List D → Store → Res D
  | 0 => fun _ _ => .no
  | k + 1 => fnM 4 2 (m_l_same (f_l_same k))
def m_p_tupled (self : List D → Store → Res D) : MS := (mRet (mIfE (mTest (mIsi2 .list .tuple (mVar 0))) (mCall fTuple (mCons (mLc (mItems (mVar 0)) (mgN 1) mYes (mCall (fPure self) (mCons (mVar 1) mNil)) [1]) mNil)) (mVar 0)))
def f_p_tupled : Nat → List D → Store → Res D
  | 0 => fun _ _ => .no
  | k + 1 => fnM 2 1 (m_p_tupled (f_p_tupled k))
def m_p_looks_within : MS := (mSeq (mAsg (mCall (fPure (f_p_tupled 30)) (mCons (mVar 0) mNil)) (mgTup 3 (mgCons (mgN 2) (mgCons (mgN 3) (mgCons (mgN 4) mgNil)))))
  (mSeq (mAsg (mVar 1) (mgTup 2 (mgCons (mgN 5) (mgCons (mgN 6) mgNil))))
  (mRet (mLc (mItems (mVar 4)) (mgN 7) (mAndT (mTB (mOp opLe (mVar 5) (mOp opIx (mVar 7) (mC (.int 0))))) (mTB (mOp opLe (mOp opIx (mVar 7) (mC (.int 1))) (mVar 6)))) (mVar 7) [7]))))
def f_p_looks_within : List D → Store → Res D := fnM 8 2 m_p_looks_within
def m_p_moves_of : MS := (mRet (mLc (mRange1 (mOp opSubI (mCall fLen (mCons (mVar 0) mNil)) (mC (.int 1)))) (mgN 1) mYes (mTup (mCons (mOp opIx (mVar 0) (mOp opAdd (mVar 1) (mC (.int 1)))) (mCons (mOp opIx (mVar 0) (mVar 1)) mNil))) [1]))
def f_p_moves_of : List D → Store → Res D := fnM 2 1 m_p_moves_of
def m_p_is_number : MS := (mRet (mAndV (mIsi .int (mVar 0)) (mAndV (mNotV (mIsi .bool (mVar 0))) (mOp opGe (mVar 0) (mVar 1)))))
def f_p_is_number : List D → Store → Res D := fnM 2 2 m_p_is_number
def m_p_is_walk : MS := (mSeq (mAsg (mVar 1) (mgTup 2 (mgCons (mgN 3) (mgCons (mgN 4) mgNil))))
  (mSeq (mIf (mOrT (mNotT (mTest (mIsi .tuple (mVar 2)))) (mOrT (mTB (mOp opEq (mCall fLen (mCons (mVar 2) mNil)) (mC (.int 0)))) (mNotT (mTest (mCall fAll (mCons (mLc (mItems (mVar 2)) (mgN 6) mYes (mCall (fPure f_p_is_number) (mCons (mVar 6) (mCons (mC (.int 0)) mNil))) [6]) mNil)))))) (mRet (mC (.bl false))) mSkip)
  (mSeq (mIf (mOrT (mTB (mOp opNe (mOp opIx (mVar 2) (mC (.int 0))) (mVar 4))) (mTB (mOp opNe (mOp opIx (mVar 2) (mNeg (mC (.int 1)))) (mVar 3)))) (mRet (mC (.bl false))) mSkip)
  (mSeq (mAsg (mCall (fPure f_p_looks_within) (mCons (mVar 0) (mCons (mVar 1) mNil))) (mgN 5))
  (mRet (mCall fAll (mCons (mLc (mItems (mCall (fPure f_p_moves_of) (mCons (mVar 2) mNil))) (mgTup 2 (mgCons (mgN 7) (mgCons (mgN 8) mgNil))) mYes (mOrV (mOp opEq (mOp opAdd (mVar 7) (mC (.int 1))) (mVar 8)) (mOp opIn (mTup (mCons (mVar 7) (mCons (mVar 8) mNil))) (mVar 5))) [7, 8]) mNil)))))))
def f_p_is_walk : List D → Store → Res D := fnM 9 3 m_p_is_walk
def m_p_are_walks : MS := (mSeq (mAsg (mCall (fPure (f_p_tupled 30)) (mCons (mVar 1) mNil)) (mgN 3))
  (mSeq (mIf (mOrT (mNotT (mTest (mIsi .tuple (mVar 2)))) (mNotT (mTest (mCall fAll (mCons (mLc (mItems (mVar 2)) (mgN 6) mYes (mCall (fPure f_p_is_walk) (mCons (mVar 0) (mCons (mVar 3) (mCons (mVar 6) mNil)))) [6]) mNil))))) (mRet (mC (.bl false))) mSkip)
  (mSeq (mAsg (mCall (fPure f_p_looks_within) (mCons (mVar 0) (mCons (mVar 3) mNil))) (mgN 4))
  (mSeq (mAsg (mLc2 (mItems (mVar 2)) (mgN 7) mYes (mItems (mCall (fPure f_p_moves_of) (mCons (mVar 7) mNil))) (mgN 8) (mTB (mOp opNin (mVar 8) (mVar 4))) (mVar 8) [7, 8] [8]) (mgN 5))
  (mRet (mOp opEq (mLenSetP (mVar 5)) (mCall fLen (mCons (mVar 5) mNil))))))))
def f_p_are_walks : List D → Store → Res D := fnM 9 3 m_p_are_walks
def m_l_lists (self : List D → Store → Res D) : MS := (mRet (mIfE (mTest (mIsi2 .list .tuple (mVar 0))) (mLc (mItems (mVar 0)) (mgN 1) mYes (mCall (fPure self) (mCons (mVar 1) mNil)) [1]) (mVar 0)))
def f_l_lists : Nat → List D → Store → Res D
  | 0 => fun _ _ => .no
  | k + 1 => fnM 2 1 (m_l_lists (f_l_lists k))
def m_l_one_right : MS := (mSeq (mAsg (mCall (fPure f_l_due) (mCons (mOp opIx (mVar 0) (mC (.int 2))) (mCons (mVar 1) (mCons (mVar 2) mNil)))) (mgN 3))
  (mSeq (mAsg (mLst (mCons (mCall (fPure f_p_are_walks) (mCons (mVar 0) (mCons (mVar 1) (mCons (mVar 2) mNil)))) (mCons (mCallK (fPure f_p_are_walks) 0 3 [2, 1, 0] mNil (mCons (mVar 2) (mCons (mCall fList (mCons (mVar 1) mNil)) (mCons (mCall (fPure (f_l_lists 30)) (mCons (mVar 0) mNil)) mNil)))) mNil))) (mgN 4))
  (mRet (mCall (fPure (f_l_same 30)) (mCons (mVar 4) (mCons (mLst (mCons (mVar 3) (mCons (mVar 3) mNil))) mNil))))))
def f_l_one_right : List D → Store → Res D := fnM 5 3 m_l_one_right
def m_l_by_hand_right : MS := (mSeq (mAsg (mTup (mCons (mTup (mCons (mC (.int 9)) (mCons (mTup (mCons (mC (.int 1)) (mCons (mC (.int 10)) mNil))) (mCons (mTup (mCons (mTup (mCons (mC (.int 0)) (mCons (mC (.int 5)) mNil))) (mCons (mTup (mCons (mC (.int 2)) (mCons (mC (.int 7)) mNil))) (mCons (mTup (mCons (mC (.int 4)) (mCons (mC (.int 9)) mNil))) mNil)))) mNil)))) (mCons (mTup (mCons (mC (.int 0)) (mCons (mC (.int 9)) mNil))) mNil))) (mgTup 2 (mgCons (mgN 0) (mgCons (mgN 1) mgNil))))
  (mSeq (mAsg (mTup (mCons (mC (.int 5)) (mCons (mTup (mCons (mC (.int 1)) (mCons (mC (.int 10)) mNil))) (mCons (mTup (mCons (mTup (mCons (mC (.int 0)) (mCons (mC (.int 2)) mNil))) (mCons (mTup (mCons (mC (.int 1)) (mCons (mC (.int 3)) mNil))) (mCons (mTup (mCons (mC (.int 2)) (mCons (mC (.int 4)) mNil))) (mCons (mTup (mCons (mC (.int 3)) (mCons (mC (.int 5)) mNil))) mNil))))) mNil)))) (mgN 2))
  (mSeq (mAsg (mTup (mCons (mC (.int 2)) (mCons (mTup (mCons (mC (.int 1)) (mCons (mC (.int 10)) mNil))) (mCons (mTup (mCons (mTup (mCons (mC (.int 0)) (mCons (mC (.int 1)) mNil))) mNil)) mNil)))) (mgN 3))
  (mSeq (mAsg (mCell (mCons (mTup (mCons (mVar 0) (mCons (mVar 1) (mCons (mTup (mCons (mTup (mCons (mC (.int 9)) (mCons (mC (.int 4)) (mCons (mC (.int 3)) (mCons (mC (.int 2)) (mCons (mC (.int 1)) (mCons (mC (.int 0)) mNil))))))) (mCons (mTup (mCons (mC (.int 9)) (mCons (mC (.int 8)) (mCons (mC (.int 7)) (mCons (mC (.int 6)) (mCons (mC (.int 5)) (mCons (mC (.int 0)) mNil))))))) mNil))) (mCons (mC (.bl true)) mNil))))) (mCons (mTup (mCons (mVar 0) (mCons (mVar 1) (mCons (mTup mNil) (mCons (mC (.bl true)) mNil))))) mNil))) (mgN 4))
  (mSeq (mAsg (mOp opCatC (mVar 4) (mLst (mCons (mTup (mCons (mVar 0) (mCons (mVar 1) (mCons (mTup (mCons (mTup (mCons (mC (.int 9)) (mCons (mC (.int 4)) (mCons (mC (.int 3)) (mCons (mC (.int 2)) (mCons (mC (.int 1)) (mCons (mC (.int 0)) mNil))))))) (mCons (mTup (mCons (mC (.int 9)) (mCons (mC (.int 8)) (mCons (mC (.int 7)) (mCons (mC (.int 2)) (mCons (mC (.int 1)) (mCons (mC (.int 0)) mNil))))))) mNil))) (mCons (mC (.bl false)) mNil))))) (mCons (mTup (mCons (mVar 0) (mCons (mVar 1) (mCons (mTup (mCons (mTup (mCons (mC (.int 9)) (mCons (mC (.int 4)) (mCons (mC (.int 0)) mNil)))) mNil)) (mCons (mC (.bl false)) mNil))))) mNil)))) (mgN 4))
  (mSeq (mAsg (mOp opCatC (mVar 4) (mLst (mCons (mTup (mCons (mVar 2) (mCons (mTup (mCons (mC (.int 0)) (mCons (mC (.int 5)) mNil))) (mCons (mTup (mCons (mTup (mCons (mC (.int 5)) (mCons (mC (.int 3)) (mCons (mC (.int 1)) (mCons (mC (.int 0)) mNil))))) (mCons (mTup (mCons (mC (.int 5)) (mCons (mC (.int 4)) (mCons (mC (.int 2)) (mCons (mC (.int 0)) mNil))))) (mCons (mTup (mCons (mC (.int 5)) (mCons (mC (.int 3)) (mCons (mC (.int 2)) (mCons (mC (.int 0)) mNil))))) mNil)))) (mCons (mC (.bl true)) mNil))))) mNil))) (mgN 4))
  (mSeq (mDrop (mApp (mVar 4) (mTup (mCons (mVar 2) (mCons (mTup (mCons (mC (.int 0)) (mCons (mC (.int 5)) mNil))) (mCons (mTup (mCons (mTup (mCons (mC (.int 5)) (mCons (mC (.int 2)) (mCons (mC (.int 0)) mNil)))) mNil)) (mCons (mC (.bl false)) mNil)))))))
  (mSeq (mAsg (mOp opCatC (mVar 4) (mLst (mCons (mTup (mCons (mVar 2) (mCons (mTup (mCons (mC (.int 0)) (mCons (mC (.int 4)) mNil))) (mCons (mTup (mCons (mTup (mCons (mC (.int 4)) (mCons (mC (.int 2)) (mCons (mC (.int 0)) mNil)))) (mCons (mTup (mCons (mC (.int 4)) (mCons (mC (.int 2)) (mCons (mC (.int 0)) mNil)))) mNil))) (mCons (mC (.bl true)) mNil))))) (mCons (mTup (mCons (mVar 2) (mCons (mTup (mCons (mC (.int 0)) (mCons (mC (.int 4)) mNil))) (mCons (mTup (mCons (mTup (mCons (mC (.int 4)) (mCons (mC (.int 2)) (mCons (mC (.int 1)) (mCons (mC (.int 0)) mNil))))) (mCons (mTup (mCons (mC (.int 4)) (mCons (mC (.int 2)) (mCons (mC (.int 1)) (mCons (mC (.int 0)) mNil))))) mNil))) (mCons (mC (.bl false)) mNil))))) mNil)))) (mgN 4))
  (mSeq (mAsg (mOp opCatC (mVar 4) (mLst (mCons (mTup (mCons (mVar 2) (mCons (mTup (mCons (mC (.int 1)) (mCons (mC (.int 4)) mNil))) (mCons (mTup (mCons (mTup (mCons (mC (.int 4)) (mCons (mC (.int 2)) (mCons (mC (.int 1)) mNil)))) mNil)) (mCons (mC (.bl true)) mNil))))) (mCons (mTup (mCons (mVar 2) (mCons (mTup (mCons (mC (.int 1)) (mCons (mC (.int 4)) mNil))) (mCons (mTup (mCons (mTup (mCons (mC (.int 4)) (mCons (mC (.int 2)) (mCons (mC (.int 0)) mNil)))) mNil)) (mCons (mC (.bl false)) mNil))))) mNil)))) (mgN 4))
  (mSeq (mDrop (mApp (mVar 4) (mTup (mCons (mVar 2) (mCons (mTup (mCons (mC (.int 1)) (mCons (mC (.int 4)) mNil))) (mCons (mTup (mCons (mTup (mCons (mC (.int 4)) (mCons (mC (.int 3)) (mCons (mC (.int 1)) mNil)))) mNil)) (mCons (mC (.bl true)) mNil)))))))
  (mSeq (mAsg (mOp opCatC (mVar 4) (mLst (mCons (mTup (mCons (mVar 3) (mCons (mTup (mCons (mC (.int 0)) (mCons (mC (.int 2)) mNil))) (mCons (mTup (mCons (mTup (mCons (mC (.int 2)) (mCons (mC (.int 1)) (mCons (mC (.int 0)) mNil)))) (mCons (mTup (mCons (mC (.int 2)) (mCons (mC (.int 1)) (mCons (mC (.int 0)) mNil)))) mNil))) (mCons (mC (.bl false)) mNil))))) (mCons (mTup (mCons (mVar 3) (mCons (mTup (mCons (mC (.int 0)) (mCons (mC (.int 1)) mNil))) (mCons (mTup (mCons (mTup (mCons (mC (.int 1)) (mCons (mC (.int 0)) mNil))) (mCons (mTup (mCons (mC (.int 1)) (mCons (mC (.int 0)) mNil))) (mCons (mTup (mCons (mC (.int 1)) (mCons (mC (.int 0)) mNil))) mNil)))) (mCons (mC (.bl true)) mNil))))) mNil)))) (mgN 4))
  (mSeq (mAsg (mOp opCatC (mVar 4) (mLst (mCons (mTup (mCons (mVar 3) (mCons (mTup (mCons (mC (.int 1)) (mCons (mC (.int 2)) mNil))) (mCons (mTup (mCons (mTup (mCons (mC (.int 2)) (mCons (mC (.int 1)) mNil))) mNil)) (mCons (mC (.bl true)) mNil))))) (mCons (mTup (mCons (mVar 3) (mCons (mTup (mCons (mC (.int 1)) (mCons (mC (.int 2)) mNil))) (mCons (mTup (mCons (mTup (mCons (mC (.int 2)) (mCons (mC (.int 1)) mNil))) (mCons (mTup (mCons (mC (.int 2)) (mCons (mC (.int 1)) mNil))) mNil))) (mCons (mC (.bl false)) mNil))))) mNil)))) (mgN 4))
  (mSeq (mDrop (mApp (mVar 4) (mTup (mCons (mVar 3) (mCons (mTup (mCons (mC (.int 0)) (mCons (mC (.int 1)) mNil))) (mCons (mTup (mCons (mTup (mCons (mC (.int 1)) mNil)) mNil)) (mCons (mC (.bl false)) mNil)))))))
  (mSeq (mAsg (mOp opCatC (mVar 4) (mLst (mCons (mTup (mCons (mVar 3) (mCons (mTup (mCons (mC (.int 0)) (mCons (mC (.int 1)) mNil))) (mCons (mLst (mCons (mTup (mCons (mC (.int 1)) (mCons (mC (.int 0)) mNil))) mNil)) (mCons (mC (.bl false)) mNil))))) (mCons (mTup (mCons (mVar 3) (mCons (mTup (mCons (mC (.int 0)) (mCons (mC (.int 1)) mNil))) (mCons (mTup (mCons (mLst (mCons (mC (.int 1)) (mCons (mC (.int 0)) mNil))) mNil)) (mCons (mC (.bl false)) mNil))))) mNil)))) (mgN 4))
  (mSeq (mAsg (mOp opCatC (mVar 4) (mLst (mCons (mTup (mCons (mVar 3) (mCons (mTup (mCons (mC (.int 0)) (mCons (mC (.int 1)) mNil))) (mCons (mTup (mCons (mTup (mCons (mC (.bl true)) (mCons (mC (.int 0)) mNil))) mNil)) (mCons (mC (.bl false)) mNil))))) (mCons (mTup (mCons (mVar 3) (mCons (mTup (mCons (mC (.int 0)) (mCons (mC (.int 1)) mNil))) (mCons (mTup (mCons (mTup (mCons (mLst (mCons (mC (.int 1)) mNil)) (mCons (mC (.int 0)) mNil))) mNil)) (mCons (mC (.bl false)) mNil))))) mNil)))) (mgN 4))
  (mSeq (mAsg (mOp opCatC (mVar 4) (mLst (mCons (mTup (mCons (mVar 3) (mCons (mTup (mCons (mC (.int 0)) (mCons (mC (.int 1)) mNil))) (mCons (mTup (mCons (mTup (mCons (mTup (mCons (mC (.int 1)) mNil)) (mCons (mC (.int 0)) mNil))) mNil)) (mCons (mC (.bl false)) mNil))))) (mCons (mTup (mCons (mVar 3) (mCons (mTup (mCons (mC (.int 0)) (mCons (mC (.int 1)) mNil))) (mCons (mTup (mCons (mTup (mCons (mC (.str "1")) (mCons (mC (.int 0)) mNil))) mNil)) (mCons (mC (.bl false)) mNil))))) mNil)))) (mgN 4))
  (mSeq (mAsg (mOp opCatC (mVar 4) (mLst (mCons (mTup (mCons (mVar 3) (mCons (mTup (mCons (mC (.int 0)) (mCons (mC (.int 1)) mNil))) (mCons (mTup (mCons (mC (.int 1)) (mCons (mC (.int 0)) mNil))) (mCons (mC (.bl false)) mNil))))) (mCons (mTup (mCons (mVar 3) (mCons (mTup (mCons (mC (.int 0)) (mCons (mC (.int 1)) mNil))) (mCons (mC .non) (mCons (mC (.bl false)) mNil))))) (mCons (mTup (mCons (mVar 3) (mCons (mTup (mCons (mC (.int 0)) (mCons (mC (.int 1)) mNil))) (mCons (mC (.str "10")) (mCons (mC (.bl false)) mNil))))) mNil))))) (mgN 4))
  (mSeq (mAsg (mOp opCatC (mVar 4) (mLst (mCons (mTup (mCons (mVar 2) (mCons (mTup (mCons (mC (.int 0)) (mCons (mC (.int 5)) mNil))) (mCons (mTup (mCons (mTup (mCons (mC (.int 0)) (mCons (mC (.int 1)) (mCons (mC (.int 3)) (mCons (mC (.int 5)) mNil))))) mNil)) (mCons (mC (.bl false)) mNil))))) (mCons (mTup (mCons (mVar 2) (mCons (mTup (mCons (mC (.int 0)) (mCons (mC (.int 4)) mNil))) (mCons (mTup (mCons (mTup (mCons (mC (.int 4)) (mCons (mC (.int 5)) (mCons (mC (.int 3)) (mCons (mC (.int 1)) (mCons (mC (.int 0)) mNil)))))) mNil)) (mCons (mC (.bl false)) mNil))))) mNil)))) (mgN 4))
  (mSeq (mFor (mItems (mFrz (mVar 4))) (mgTup 4 (mgCons (mgN 5) (mgCons (mgN 6) (mgCons (mgN 7) (mgCons (mgN 8) mgNil))))) (mIf (mOrT (mTB (mOp opNe (mCall (fPure f_l_due) (mCons (mOp opIx (mVar 5) (mC (.int 2))) (mCons (mVar 6) (mCons (mVar 7) mNil)))) (mVar 8))) (mNotT (mTest (mCall (fPure f_l_one_right) (mCons (mVar 5) (mCons (mVar 6) (mCons (mVar 7) mNil))))))) (mRet (mC (.bl false))) mSkip))
  (mRet (mC (.bl true))))))))))))))))))))))
def f_l_by_hand_right : List D → Store → Res D := fnM 9 0 m_l_by_hand_right
def m_l_box : MS := (mSeq (mAsg (mIfE (mTB (mOp opLt (mVar 1) (mCall fLen (mCons (mVar 0) mNil)))) (mOp opIx (mVar 0) (mVar 1)) (mC (.int 0))) (mgN 2))
  (mRet (mCell (mCons (mOp opMul (mCall fAbs (mCons (mVar 2) mNil)) (mCall fInt (mCons (mOp opGe (mCall fAbs (mCons (mVar 2) mNil)) (mOp opPowI (mC (.int 10)) (mC (.int 18)))) mNil))) (mCons (mOp opAdd (mOp opAdd (mOp opModI (mCall fInt (mCons (mVar 2) mNil)) (mC (.int 2305843009213693951))) (mOp opMul (mC (.int 39373)) (mVar 1))) (mC (.int 851))) (mCons (mC (.int 0)) mNil))))))
def f_l_box : List D → Store → Res D := fnC 3 2 m_l_box
def m_l_take : MS := (mSeq (mIf (mTB (mOp opGt (mOp opIx (mVar 0) (mC (.int 0))) (mC (.int 0)))) (mSeq (mAsg (mOp opModI (mCall fInt (mCons (mOp opIx (mVar 0) (mC (.int 0))) mNil)) (mVar 1)) (mgN 2))
  (mSeq (mAsg (mOp opDivI (mOp opIx (mVar 0) (mC (.int 0))) (mVar 1)) (mgSub (mVar 0) (mC (.int 0))))
  (mRet (mVar 2)))) mSkip)
  (mSeq (mAsg (mOp opAdd (mOp opIx (mVar 0) (mC (.int 2))) (mC (.int 1))) (mgSub (mVar 0) (mC (.int 2))))
  (mSeq (mAsg (mOp opModI (mCall fInt (mCons (mOp opMul (mOp opAdd (mOp opIx (mVar 0) (mC (.int 1))) (mOp opMul (mC (.int 48271)) (mOp opIx (mVar 0) (mC (.int 2))))) (mOp opAdd (mC (.int 39373)) (mOp opIx (mVar 0) (mC (.int 2))))) mNil)) (mC (.int 2147483647))) (mgN 3))
  (mSeq (mAsg (mOp opAdd (mOp opModI (mCall fInt (mCons (mVar 3) mNil)) (mC (.int 40009))) (mC (.int 7))) (mgN 4))
  (mSeq (mAsg (mOp opModI (mCall fInt (mCons (mOp opMul (mOp opAdd (mOp opAdd (mVar 3) (mOp opIx (mVar 0) (mC (.int 2)))) (mOp opDivI (mOp opIx (mVar 0) (mC (.int 1))) (mC (.int 1000003)))) (mVar 4)) mNil)) (mC (.int 2147483629))) (mgN 5))
  (mRet (mOp opModI (mCall fInt (mCons (mOp opDivI (mOp opModI (mCall fInt (mCons (mOp opAdd (mOp opMul (mVar 5) (mC (.int 48271))) (mVar 3)) mNil)) (mC (.int 2147483587))) (mC (.int 64))) mNil)) (mVar 1))))))))
def f_l_take : List D → Store → Res D := fnM 6 2 m_l_take
def m_l_of : MS := (mRet (mOp opIx (mVar 1) (mCall (fCall f_l_take) (mCons (mVar 0) (mCons (mCall fLen (mCons (mVar 1) mNil)) mNil)))))
def f_l_of : List D → Store → Res D := fnM 2 2 m_l_of
def m_l_limit : MS := (mSeq (mAsg (mCall (fCall f_l_take) (mCons (mVar 0) (mCons (mC (.int 8)) mNil))) (mgN 1))
  (mSeq (mIf (mTB (mOp opEq (mVar 1) (mC (.int 0)))) (mRet (mTup (mCons (mOp opAdd (mC (.int 1)) (mCall (fCall f_l_take) (mCons (mVar 0) (mCons (mOp opPowI (mC (.int 10)) (mC (.int 18))) mNil)))) (mCons (mOp opAdd (mOp opAdd (mOp opPowI (mC (.int 10)) (mC (.int 18))) (mC (.int 1))) (mCall (fCall f_l_take) (mCons (mVar 0) (mCons (mOp opPowI (mC (.int 10)) (mC (.int 20))) mNil)))) mNil)))) mSkip)
  (mSeq (mIf (mTB (mOp opEq (mVar 1) (mC (.int 1)))) (mRet (mTup (mCons (mOp opAdd (mC (.int 2)) (mOp opMul (mCall (fCall f_l_take) (mCons (mVar 0) (mCons (mC (.int 3)) mNil))) (mC (.int 2)))) (mCons (mC (.int 20)) mNil)))) mSkip)
  (mRet (mCall (fCall f_l_of) (mCons (mVar 0) (mCons (mLst (mCons (mTup (mCons (mC (.int 1)) (mCons (mC (.int 10)) mNil))) (mCons (mTup (mCons (mC (.int 1)) (mCons (mC (.int 2)) mNil))) (mCons (mTup (mCons (mC (.int 1)) (mCons (mC (.int 100)) mNil))) (mCons (mTup (mCons (mC (.int 3)) (mCons (mC (.int 7)) mNil))) (mCons (mTup (mCons (mC (.int 99)) (mCons (mC (.int 100)) mNil))) (mCons (mTup (mCons (mC (.int 2)) (mCons (mC (.int 5)) mNil))) mNil))))))) mNil)))))))
def f_l_limit : List D → Store → Res D := fnM 2 1 m_l_limit
def m_l_looks : MS := (mSeq (mPar 3 4 (mCons (mCall (fCall f_l_take) (mCons (mVar 0) (mCons (mC (.int 4)) mNil))) (mCons (mCell mNil) mNil)))
  (mSeq (mAsg (mOp opAdd (mC (.int 1)) (mCall (fCall f_l_take) (mCons (mVar 0) (mCons (mCall fMin2 (mCons (mVar 1) (mCons (mC (.int 5)) mNil))) mNil)))) (mgN 5))
  (mSeq (mFor (mRange1 (mCall (fCall f_l_take) (mCons (mVar 0) (mCons (mOp opAdd (mVar 2) (mC (.int 1))) mNil)))) (mgN 6) (mSeq (mAsg (mCall (fCall f_l_take) (mCons (mVar 0) (mCons (mVar 1) mNil))) (mgN 7))
  (mIf (mTB (mOp opEq (mVar 3) (mC (.int 0)))) (mDrop (mApp (mVar 4) (mTup (mCons (mVar 7) (mCons (mOp opAdd (mOp opAdd (mVar 7) (mC (.int 1))) (mCall (fCall f_l_take) (mCons (mVar 0) (mCons (mOp opSubI (mVar 1) (mVar 7)) mNil)))) mNil))))) (mIf (mTB (mOp opEq (mVar 3) (mC (.int 1)))) (mDrop (mApp (mVar 4) (mTup (mCons (mVar 7) (mCons (mCall fMin2 (mCons (mVar 1) (mCons (mOp opAdd (mVar 7) (mVar 5)) mNil))) mNil))))) (mDrop (mApp (mVar 4) (mTup (mCons (mVar 7) (mCons (mCall fMin2 (mCons (mVar 1) (mCons (mOp opAdd (mOp opAdd (mVar 7) (mC (.int 1))) (mCall (fCall f_l_take) (mCons (mVar 0) (mCons (mC (.int 5)) mNil)))) mNil))) mNil)))))))))
  (mRet (mCall fTuple (mCons (mSortSet (mFrz (mVar 4))) mNil))))))
def f_l_looks : List D → Store → Res D := fnM 8 3 m_l_looks
def m_l_book : MS := (mSeq (mAsg (mOp opAdd (mC (.int 1)) (mCall (fCall f_l_take) (mCons (mVar 0) (mCons (mVar 1) mNil)))) (mgN 3))
  (mRet (mTup (mCons (mVar 3) (mCons (mCall (fCall f_l_limit) (mCons (mVar 0) mNil)) (mCons (mCall (fCall f_l_looks) (mCons (mVar 0) (mCons (mVar 3) (mCons (mVar 2) mNil)))) mNil))))))
def f_l_book : List D → Store → Res D := fnM 4 3 m_l_book
def m_l_stretch : MS := (mSeq (mIf (mTB (mOp opEq (mCall (fCall f_l_take) (mCons (mVar 0) (mCons (mC (.int 3)) mNil))) (mC (.int 0)))) (mRet (mTup (mCons (mC (.int 0)) (mCons (mVar 1) mNil)))) mSkip)
  (mSeq (mAsg (mCall (fCall f_l_take) (mCons (mVar 0) (mCons (mVar 1) mNil))) (mgN 2))
  (mRet (mTup (mCons (mVar 2) (mCons (mOp opAdd (mOp opAdd (mVar 2) (mC (.int 1))) (mCall (fCall f_l_take) (mCons (mVar 0) (mCons (mOp opSubI (mVar 1) (mVar 2)) mNil)))) mNil))))))
def f_l_stretch : List D → Store → Res D := fnM 3 2 m_l_stretch
def m_l_drawn_walk : MS := (mSeq (mAsg (mCell (mCons (mOp opIx (mVar 2) (mC (.int 1))) mNil)) (mgN 3))
  (mSeq (mFor (mRange1 (mOp opSubI (mOp opIx (mVar 2) (mC (.int 1))) (mOp opIx (mVar 2) (mC (.int 0))))) (mgN 4) (mSeq (mAsg (mLc (mItems (mVar 1)) (mgTup 2 (mgCons (mgN 6) (mgCons (mgN 7) mgNil))) (mAndT (mTB (mOp opEq (mVar 7) (mOp opIx (mVar 3) (mNeg (mC (.int 1)))))) (mTB (mOp opGe (mVar 6) (mOp opIx (mVar 2) (mC (.int 0)))))) (mVar 6) [6, 7]) (mgN 5))
  (mIf (mTB (mOp opGt (mOp opIx (mVar 3) (mNeg (mC (.int 1)))) (mOp opIx (mVar 2) (mC (.int 0))))) (mDrop (mApp (mVar 3) (mCall (fCall f_l_of) (mCons (mVar 0) (mCons (mOp opAdd (mOp opAdd (mVar 5) (mVar 5)) (mLst (mCons (mOp opSubI (mOp opIx (mVar 3) (mNeg (mC (.int 1)))) (mC (.int 1))) mNil))) mNil))))) mSkip)))
  (mRet (mCall fTuple (mCons (mVar 3) mNil)))))
def f_l_drawn_walk : List D → Store → Res D := fnM 8 3 m_l_drawn_walk
def m_l_bent : MS := (mSeq (mPar 2 3 (mCons (mCall (fCall f_l_take) (mCons (mVar 0) (mCons (mC (.int 10)) mNil))) (mCons (mCall fListC (mCons (mVar 1) mNil)) mNil)))
  (mSeq (mIf (mTB (mOp opEq (mVar 3) (mLst mNil))) (mRet (mCall (fCall f_l_of) (mCons (mVar 0) (mCons (mLst (mCons (mLst mNil) (mCons (mC .non) (mCons (mTup (mCons (mTup mNil) mNil)) (mCons (mC (.int 0)) (mCons (mC (.str "")) (mCons (mTup (mCons (mTup (mCons (mC (.int 0)) mNil)) mNil)) (mCons (mTup (mCons (mC (.int 0)) mNil)) (mCons (mC (.bl true)) mNil))))))))) mNil)))) mSkip)
  (mSeq (mAsg (mCall (fCall f_l_take) (mCons (mVar 0) (mCons (mCall fLen (mCons (mVar 3) mNil)) mNil))) (mgN 4))
  (mSeq (mAsg (mCall (fCall f_l_take) (mCons (mVar 0) (mCons (mCall fLen (mCons (mOp opIx (mVar 3) (mVar 4)) mNil)) mNil))) (mgN 5))
  (mSeq (mAsg (mOp opIx (mOp opIx (mVar 3) (mVar 4)) (mVar 5)) (mgN 6))
  (mSeq (mIf (mTB (mOp opEq (mVar 2) (mC (.int 8)))) (mRet (mFrz (mVar 3))) mSkip)
  (mSeq (mIf (mTB (mOp opEq (mVar 2) (mC (.int 9)))) (mSeq (mAsg (mCall fList (mCons (mOp opIx (mVar 3) (mVar 4)) mNil)) (mgSub (mVar 3) (mVar 4)))
  (mRet (mCall fTuple (mCons (mVar 3) mNil)))) mSkip)
  (mSeq (mAsg (mLst (mCons (mTup (mCons (mOp opAdd (mVar 6) (mC (.int 1))) mNil)) (mCons (mTup (mCons (mOp opSubI (mVar 6) (mC (.int 1))) mNil)) (mCons (mTup mNil) (mCons (mTup (mCons (mVar 6) (mCons (mVar 6) mNil))) (mCons (mTup (mCons (mOp opEq (mVar 6) (mC (.int 1))) mNil)) (mCons (mTup (mCons (mOp opSubI (mVar 6) (mC (.int 61))) mNil)) (mCons (mTup (mCons (mC .non) mNil)) (mCons (mTup (mCons (mCall fStrI (mCons (mVar 6) mNil)) mNil)) mNil))))))))) (mgN 7))
  (mSeq (mAsg (mOp opAdd (mOp opAdd (mSl (mOp opIx (mVar 3) (mVar 4)) mNoO (mSoO (mVar 5))) (mOp opIx (mVar 7) (mVar 2))) (mSl (mOp opIx (mVar 3) (mVar 4)) (mSoO (mOp opAdd (mVar 5) (mC (.int 1)))) mNoO)) (mgSub (mVar 3) (mVar 4)))
  (mRet (mCall fTuple (mCons (mVar 3) mNil))))))))))))
def f_l_bent : List D → Store → Res D := fnM 8 2 m_l_bent
def m_l_right : MS := (mSeq (mAsg (mCall (fCall f_l_book) (mCons (mVar 0) (mCons (mC (.int 10)) (mCons (mC (.int 10)) mNil)))) (mgN 1))
  (mSeq (mAsg (mCall (fCall f_l_stretch) (mCons (mVar 0) (mCons (mOp opIx (mVar 1) (mC (.int 0))) mNil))) (mgN 2))
  (mSeq (mAsg (mLcC (mRange1 (mCall (fCall f_l_take) (mCons (mVar 0) (mCons (mC (.int 5)) mNil)))) (mgN 5) mYes (mCall (fCall f_l_drawn_walk) (mCons (mVar 0) (mCons (mOp opIx (mVar 1) (mC (.int 2))) (mCons (mVar 2) mNil)))) [5]) (mgN 3))
  (mSeq (mIf (mAndT (mTB (mOp opNe (mVar 3) (mLst mNil))) (mTB (mOp opEq (mCall (fCall f_l_take) (mCons (mVar 0) (mCons (mC (.int 3)) mNil))) (mC (.int 0))))) (mDrop (mApp (mVar 3) (mOp opIx (mVar 3) (mC (.int 0))))) mSkip)
  (mSeq (mAsg (mCall fTuple (mCons (mVar 3) mNil)) (mgN 4))
  (mSeq (mIf (mNotT (mTest (mCall (fPure f_l_one_right) (mCons (mVar 1) (mCons (mVar 2) (mCons (mVar 4) mNil)))))) (mRet (mC (.bl false))) mSkip)
  (mRet (mCall fAll (mCons (mLc (mRange1 (mC (.int 8))) (mgN 5) mYes (mCall (fPure f_l_one_right) (mCons (mVar 1) (mCons (mVar 2) (mCons (mCall (fCall f_l_bent) (mCons (mVar 0) (mCons (mVar 4) mNil))) mNil)))) [5]) mNil)))))))))
def f_l_right : List D → Store → Res D := fnM 6 1 m_l_right
def m_l_law : MS := (mSeq (mIf (mNotT (mTest (mCall (fPure f_l_by_hand_right) mNil))) (mRet (mC (.bl false))) mSkip)
  (mSeq (mAsg (mCall (fPure f_l_cells) (mCons (mVar 0) (mCons (mC (.int 3)) mNil))) (mgN 1))
  (mSeq (mFor (mRange1 (mCall fLen (mCons (mVar 1) mNil))) (mgN 2) (mSeq (mAsg (mCall (fCall f_l_box) (mCons (mVar 1) (mCons (mVar 2) mNil))) (mgN 3))
  (mIf (mNotT (mTest (mCall fAll (mCons (mLc (mRange1 (mC (.int 3))) (mgN 4) mYes (mCall (fCall f_l_right) (mCons (mVar 3) mNil)) [4]) mNil)))) (mRet (mC (.bl false))) mSkip)))
  (mRet (mC (.bl true))))))
def f_l_law : List D → Store → Res D := fnM 5 1 m_l_law
end Lw
set_option exponentiation.threshold 10000
namespace Lw
open PySem L2 Q
/-! ### the source of draws -/
/-- the box: three numbers -/
abbrev box (a b c : Int) : Cell := .lst [.int a, .int b, .int c]
theorem mulOk_r {i j : Int} (h : -(2 ^ 64) < j ∧ j < 2 ^ 64) : mulOk i j = true := by
  have h2 : j.natAbs < 2 ^ 64 := by omega
  unfold mulOk
  rw [decide_eq_true h2]
  simp
theorem mulOk_l {i j : Int} (h : -(2 ^ 64) < i ∧ i < 2 ^ 64) : mulOk i j = true := by
  have h2 : i.natAbs < 2 ^ 64 := by omega
  unfold mulOk
  rw [decide_eq_true h2]
  simp
theorem log2_lt9000 {n : Int} (h0 : 0 ≤ n) (h : n < 2 ^ 8999) : n.natAbs.log2 < 9000 := by
  by_cases e : n.natAbs = 0
  · rw [e]; decide
  · have h2 : n.natAbs < 2 ^ 8999 := by
      have : (n.natAbs : Int) = n := by omega
      have h3 : (n.natAbs : Int) < ((2 ^ 8999 : Nat) : Int) := by rw [this]; exact_mod_cast h
      exact_mod_cast h3
    have := (Nat.log2_lt e).mpr h2
    omega
theorem divOk_of {i j : Int} (h0 : 0 < j) (h : j < 2 ^ 8999) : divOk i j = true := by
  unfold divOk
  exact decide_eq_true ⟨h0, log2_lt9000 (by omega) h⟩
theorem modOk_of {i j : Int} (h0 : 0 < j) : modOk i j = true := by
  unfold modOk
  exact decide_eq_true h0
/-- a box after at most N draws by mixing -/
def BoxC (x : Cell) (N : Nat) : Prop := ∃ a b c : Int, x = box a b c ∧ 0 ≤ a ∧ (0 ≤ b ∧ b < 2 ^ 63) ∧ 0 ≤ c ∧ c ≤ N
theorem BoxC.mono {x : Cell} {N M : Nat} (h : BoxC x N) (hl : N ≤ M) : BoxC x M := by
  obtain ⟨a, b, c, e, ha, hb, hc, hd⟩ := h
  exact ⟨a, b, c, e, ha, hb, hc, by omega⟩
/-- S is S0 but for the box at k, from which at most N draws were mixed -/
def BoxS (S0 : Store) (k N : Nat) (S : Store) : Prop := ∃ y, S = S0.set k y ∧ BoxC y N ∧ k < S0.length
theorem BoxS.len {S0 S : Store} {k N : Nat} (h : BoxS S0 k N S) : S.length = S0.length := by obtain ⟨y, rfl, _, _⟩ := h; simp
theorem BoxS.mono {S0 S : Store} {k N M : Nat} (h : BoxS S0 k N S) (hl : N ≤ M) : BoxS S0 k M S := by obtain ⟨y, e, hy, hk⟩ := h; exact ⟨y, e, hy.mono hl, hk⟩
theorem BoxS.start {S : Store} {k N : Nat} {x : Cell} (h : S[k]? = some x) (hx : BoxC x N) : BoxS S k N S := ⟨x, (set_self h).symm, hx, (List.getElem?_eq_some_iff.mp h).1⟩
theorem BoxS.other {S0 S : Store} {k N j : Nat} (h : BoxS S0 k N S) (hj : j ≠ k) : S[j]? = S0[j]? := by
  obtain ⟨y, rfl, _, _⟩ := h
  rw [List.getElem?_set_ne (fun e => hj e.symm)]
theorem BoxS.get {S0 S : Store} {k N : Nat} (h : BoxS S0 k N S) : ∃ x, S[k]? = some x ∧ BoxC x N := by
  obtain ⟨y, rfl, hy, hk⟩ := h
  exact ⟨y, List.getElem?_set_self hk, hy⟩
theorem BoxS.set {S0 S : Store} {k N M : Nat} {y : Cell} (h : BoxS S0 k N S) (hy : BoxC y M) : BoxS S0 k M (S.set k y) := by
  obtain ⟨x, rfl, _, hk⟩ := h
  exact ⟨y, by rw [List.set_set], hy, hk⟩
/-- a def that draws: from a box at k, however the other cells stand -/
theorem fin_len {n : Nat} {S : Store} {d : D} (h : S.length = n) : fin n d S = .ok d S := by unfold fin; rw [if_pos h]
def big : Int := 2 ^ 8000
theorem big_lt {n : Int} (h : n < big) : n < 2 ^ 8999 := Int.lt_trans h (by unfold big; decide)
theorem mulOk_big {i j : Int} (h0 : 0 ≤ i) (h1 : i < big) (h2 : 0 ≤ j) (h3 : j < big) : mulOk i j = true := by
  have lg : ∀ n : Int, 0 ≤ n → n < big → n.natAbs.log2 < 9000 := fun n a b => log2_lt9000 a (big_lt b)
  have a := lg i h0 h1
  have b := lg j h2 h3
  unfold mulOk
  rw [decide_eq_true (show i.natAbs.log2 + j.natAbs.log2 < 1000000 by omega)]
  simp
theorem bigN {x : Int} (hx : x ≤ 10 ^ 70) : x < big := Int.lt_of_le_of_lt hx (by unfold big; decide)
theorem range2_nat {i j : Nat} {S : Store} (hi : i < 2 ^ 60) (hj : j < 2 ^ 60) : r2K2 (.int i) (.int j) S = .ok (rangeD i (j - i)) S := by
  rw [r2K2_int, if_pos ⟨by omega, by omega⟩]
  congr 2
  omega
def once (b c : Int) : Int := ((b + 48271 * (c + 1)) * (39373 + (c + 1))) % 2147483647
def far (b c : Int) : Int := once b c % 40009 + 7
def twice (b c : Int) : Int := ((once b c + (c + 1) + b / 1000003) * far b c) % 2147483629
theorem take_eq1 (S : Store) (k : Nat) (a b c n : Int) (hk : S[k]? = some (box a b c)) (ha : 0 < a) (hn : 0 < n) (hn2 : n < 2 ^ 8999) :
    f_l_take [.ref k, .int n] S = .ok (.int (a % n)) (S.set k (box (a / n) b c)) := by
  simp [f_l_take, fnM, m_l_take, ix_refD _ hk, ha, modOk_of hn, divOk_of hn hn2, setIx, hk, ixN]
theorem take_eq2 (S : Store) (k : Nat) (a b c n : Int) (hk : S[k]? = some (box a b c)) (ha : ¬ 0 < a) (hn : 0 < n) (hb : 0 ≤ b ∧ b < 2 ^ 63) (hc : 0 ≤ c ∧ c < 2 ^ 40) :
    f_l_take [.ref k, .int n] S = .ok (.int ((twice b c * 48271 + once b c) % 2147483587 / 64 % n)) (S.set k (box a b (c + 1))) := by
  have hk2 : (S.set k (box a b (c + 1)))[k]? = some (box a b (c + 1)) := set_get hk
  have e1 : mulOk 48271 (c + 1) = true := mulOk_l (by decide)
  have e2 : mulOk (b + 48271 * (c + 1)) (39373 + (c + 1)) = true := mulOk_r (by omega)
  have e3 : ∀ x, mulOk x (far b c) = true := fun x => mulOk_r (by unfold far; omega)
  have e4 : ∀ x, mulOk x 48271 = true := fun x => mulOk_r (by decide)
  have f1 : ((b + 48271 * (c + 1)) * (39373 + (c + 1))) % 2147483647 = once b c := rfl
  have f2 : once b c % 40009 + 7 = far b c := rfl
  have f3 : ((once b c + (c + 1) + b / 1000003) * far b c) % 2147483629 = twice b c := rfl
  have g1 : divOk b 1000003 = true := divOk_of (by decide) (by decide)
  have g2 : ∀ x, divOk x 64 = true := fun x => divOk_of (by decide) (by decide)
  have g3 : ∀ x, modOk x n = true := fun x => modOk_of hn
  have g4 : ∀ x, modOk x 2147483647 = true := fun x => modOk_of (by decide)
  have g5 : ∀ x, modOk x 40009 = true := fun x => modOk_of (by decide)
  have g6 : ∀ x, modOk x 2147483629 = true := fun x => modOk_of (by decide)
  have g7 : ∀ x, modOk x 2147483587 = true := fun x => modOk_of (by decide)
  simp [f_l_take, fnM, m_l_take, ix_refD _ hk, ix_refD _ hk2, ha, setIx, hk, ixN, e1, e2, e3, e4, f1, f2, f3, g1, g2, g3, g4, g5, g6, g7]
theorem take_ok {S : Store} {k N : Nat} {x : Cell} {n : Int} (hk : S[k]? = some x) (hx : BoxC x N) (hN : N < 2 ^ 40) (hn : 0 < n) (hn2 : n < 2 ^ 8999) :
    ∃ r y, (0 ≤ r ∧ r < n) ∧ BoxC y (N + 1) ∧ f_l_take [.ref k, .int n] S = .ok (.int r) (S.set k y) := by
  obtain ⟨a, b, c, rfl, ha, hb, hc, hd⟩ := hx
  by_cases h : 0 < a
  · exact ⟨_, _, ⟨Int.emod_nonneg _ (by omega), Int.emod_lt_of_pos _ hn⟩, ⟨a / n, b, c, rfl, Int.ediv_nonneg ha (by omega), hb, hc, by omega⟩, take_eq1 S k a b c n hk h hn hn2⟩
  · exact ⟨_, _, ⟨Int.emod_nonneg _ (by omega), Int.emod_lt_of_pos _ hn⟩, ⟨a, b, c + 1, rfl, ha, hb, by omega, by omega⟩, take_eq2 S k a b c n hk h hn hb ⟨hc, by omega⟩⟩
theorem take_s {S0 S : Store} {k N : Nat} {n : Int} (h : BoxS S0 k N S) (hN : N < 2 ^ 40) (hn : 0 < n) (hn2 : n < 2 ^ 8999) :
    (f_l_take [.ref k, .int n] S).Sat fun d S' => ∃ r : Int, d = .int r ∧ 0 ≤ r ∧ r < n ∧ BoxS S0 k (N + 1) S' := by
  obtain ⟨x, hk, hx⟩ := h.get
  obtain ⟨r, y, hr, hy, e⟩ := take_ok hk hx hN hn hn2
  exact sat_of e ⟨r, rfl, hr.1, hr.2, h.set hy⟩
theorem of_s {S0 S : Store} {k N : Nat} {xs : List D} (h : BoxS S0 k N S) (hN : N < 2 ^ 40) (h0 : xs ≠ []) (h1 : xs.length < 2 ^ 60) :
    (f_l_of [.ref k, .lst xs] S).Sat fun d S' => d ∈ xs ∧ BoxS S0 k (N + 1) S' := by
  have hp : 0 < xs.length := List.length_pos_iff.mpr h0
  unfold f_l_of m_l_of
  rw [fnM_2]
  simp
  refine sat_step (take_s (n := (xs.length : Int)) h hN (by omega) (Int.lt_of_lt_of_le (show (xs.length : Int) < 2 ^ 60 by omega) (by decide))) ?_
  rintro _ S1 ⟨r, rfl, r0, r1, hS1⟩
  have hl : r.toNat < xs.length := by omega
  have hg : atI xs r = some xs[r.toNat] := by
    have e : ((r.toNat : Nat) : Int) = r := by omega
    have z := atI_get (List.getElem?_eq_getElem hl)
    rw [e] at z
    exact z
  simp [hg, fin_len (hS1.len.trans h.len.symm)]
  exact hS1
def IsLim (d : D) : Prop := ∃ p q : Int, d = .tup [.int p, .int q] ∧ 0 < p ∧ p < q ∧ q < 2 ^ 67
theorem limit_s {S0 S : Store} {k N : Nat} (h : BoxS S0 k N S) (hN : N + 3 < 2 ^ 40) : (f_l_limit [.ref k] S).Sat fun d S' => IsLim d ∧ BoxS S0 k (N + 3) S' := by
  unfold f_l_limit m_l_limit
  rw [fnM_1]
  simp
  refine sat_step (take_s (n := 8) h (by omega) (by decide) (by decide)) ?_
  rintro _ S1 ⟨r1, rfl, a1, b1, h1⟩
  have p1 : powOk 10 18 = true := by decide
  have p2 : powOk 10 20 = true := by decide
  by_cases e0 : r1 = 0
  · simp [e0, p1]
    refine sat_step (take_s (n := 1000000000000000000) h1 (by omega) (by decide) (by decide)) ?_
    rintro _ S2 ⟨r2, rfl, a2, b2, h2⟩
    simp [p1, p2]
    refine sat_step (take_s (n := 100000000000000000000) h2 (by omega) (by decide) (by decide)) ?_
    rintro _ S3 ⟨r3, rfl, a3, b3, h3⟩
    simp [fin_len (h3.len.trans h.len.symm)]
    exact ⟨⟨_, _, rfl, by omega, by omega, by omega⟩, h3⟩
  · by_cases e1 : r1 = 1
    · simp [e1]
      refine sat_step (take_s (n := 3) h1 (by omega) (by decide) (by decide)) ?_
      rintro _ S2 ⟨r2, rfl, a2, b2, h2⟩
      have m1 : mulOk r2 2 = true := mulOk_r (by decide)
      simp [m1, fin_len (h2.len.trans h.len.symm)]
      exact ⟨⟨_, _, rfl, by omega, by omega, by omega⟩, h2.mono (by omega)⟩
    · simp [e0, e1]
      refine sat_step (of_s h1 (by omega) (by simp) (by simp)) ?_
      rintro d S2 ⟨hd, h2⟩
      simp only [List.mem_cons, List.mem_nil_iff, or_false] at hd
      simp [fin_len (h2.len.trans h.len.symm)]
      refine ⟨?_, h2.mono (by omega)⟩
      rcases hd with rfl | rfl | rfl | rfl | rfl | rfl <;> exact ⟨_, _, rfl, by decide⟩
/-- through a comprehension that draws: what each item is; c draws an item at most, T in all -/
theorem lcL_draw {g : MG} {m : ME} {ρ : Q.Env} {S0 : Store} {k c T : Nat} {P : D → Prop} : ∀ (ds : List D) (N : Nat) (S : Store), BoxS S0 k N S → N + c * ds.length ≤ T →
    (∀ d ∈ ds, ∀ M S, BoxS S0 k M S → M + c ≤ T → ∃ ρ1, g d ρ S = .ok ρ1 S ∧ (m ρ1 S).Sat fun v S' => P v ∧ BoxS S0 k (M + c) S') →
    (lcL g mYes m ρ ds S).Sat fun vs S' => vs.length = ds.length ∧ (∀ v ∈ vs, P v) ∧ BoxS S0 k (N + c * ds.length) S'
  | [], N, S, h, _, _ => ⟨rfl, fun v hv => absurd hv (by simp), by simpa using h⟩
  | d :: ds, N, S, h, hT, turn => by
    rw [List.length_cons, Nat.mul_succ] at hT ⊢
    obtain ⟨ρ1, h1, h2⟩ := turn d (by simp) N S h (by omega)
    unfold lcL
    rw [h1]
    simp only [bind_ok, ap_yes]
    refine sat_step h2 fun v S1 ⟨hv, hS1⟩ => ?_
    refine sat_step (lcL_draw ds (N + c) S1 hS1 (by omega) fun e he => turn e (by simp [he])) fun vs S2 ⟨l, hvs, hS2⟩ => ?_
    refine ⟨by simp [l], fun w hw => ?_, hS2.mono (by omega)⟩
    rcases List.mem_cons.mp hw with rfl | hw
    · exact hv
    · exact hvs w hw
/-- strings of no great length, data of no great depth: what == says -/
theorem eq_plain {a b : D} {S : Store} (ha : shal 20 a = true) (hb : shal 20 b = true) : opEq a b S = .ok (.bl (deq a b)) S := by
  have da : ∀ d, shal 20 d = true → deref S d = d := fun d h => by cases d <;> first | rfl | simp [shal] at h
  have key : (if shal 20 (deref S a) && shal 20 (deref S b) then Res.ok (D.bl (deq (deref S a) (deref S b))) S else Res.no) = .ok (.bl (deq a b)) S := by
    rw [da a ha, da b hb, ha, hb]
    rfl
  cases a <;> cases b <;> first
    | exact key
    | (simp only [opEq, deq])
theorem ne_plain {a b : D} {S : Store} (ha : shal 20 a = true) (hb : shal 20 b = true) : opNe a b S = .ok (.bl (!deq a b)) S := by
  have da : ∀ d, shal 20 d = true → deref S d = d := fun d h => by cases d <;> first | rfl | simp [shal] at h
  have key : (if shal 20 (deref S a) && shal 20 (deref S b) then Res.ok (D.bl (!deq (deref S a) (deref S b))) S else Res.no) = .ok (.bl (!deq a b)) S := by
    rw [da a ha, da b hb, ha, hb]
    rfl
  cases a <;> cases b <;> first
    | exact key
    | (simp only [opNe, deq])
@[simp] theorem eq_non {S : Store} : opEq .non .non S = .ok (.bl true) S := eq_plain rfl rfl
/-- plain data, at most n levels deep, no long rows -/
def okD : Nat → D → Bool
  | _, .non => true
  | _, .bl _ => true
  | _, .int _ => true
  | _, .str _ => true
  | n + 1, .tup xs => decide (xs.length ≤ 100000) && xs.all (okD n)
  | n + 1, .lst xs => decide (xs.length ≤ 100000) && xs.all (okD n)
  | _, _ => false
@[simp] theorem okD_non (n : Nat) : okD n .non = true := by cases n <;> rfl
@[simp] theorem okD_bl (n : Nat) (b : Bool) : okD n (.bl b) = true := by cases n <;> rfl
@[simp] theorem okD_int (n : Nat) (b : Int) : okD n (.int b) = true := by cases n <;> rfl
@[simp] theorem okD_str (n : Nat) (b : Str) : okD n (.str b) = true := by cases n <;> rfl
@[simp] theorem okD_tup (n : Nat) (xs : List D) : okD (n + 1) (.tup xs) = (decide (xs.length ≤ 100000) && xs.all (okD n)) := rfl
@[simp] theorem okD_lst (n : Nat) (xs : List D) : okD (n + 1) (.lst xs) = (decide (xs.length ≤ 100000) && xs.all (okD n)) := rfl
theorem okD_pure : ∀ (n : Nat) (d : D), okD n d = true → pureD d = true
  | _, .non, _ => rfl
  | _, .bl _, _ => rfl
  | _, .int _, _ => rfl
  | _, .str _, _ => rfl
  | n + 1, .tup xs, h => by
    rw [okD_tup, Bool.and_eq_true] at h
    exact pureL_all.mpr fun d hd => okD_pure n d (List.all_eq_true.mp h.2 d hd)
  | n + 1, .lst xs, h => by
    rw [okD_lst, Bool.and_eq_true] at h
    exact pureL_all.mpr fun d hd => okD_pure n d (List.all_eq_true.mp h.2 d hd)
  | 0, .tup xs, h => by simp [okD] at h
  | 0, .lst xs, h => by simp [okD] at h
  | 0, .fro _, h => by simp [okD] at h
  | 0, .obj _ _, h => by simp [okD] at h
  | 0, .exn _ _, h => by simp [okD] at h
  | 0, .ref _, h => by simp [okD] at h
  | _ + 1, .fro _, h => by simp [okD] at h
  | _ + 1, .obj _ _, h => by simp [okD] at h
  | _ + 1, .exn _ _, h => by simp [okD] at h
  | _ + 1, .ref _, h => by simp [okD] at h
theorem zip_self (xs : List D) : zipD xs xs = xs.map fun x => .tup [x, x] := by
  unfold zipD
  induction xs with
  | nil => rfl
  | cons x xs ih => simp [ih]
theorem same_lc {k : Nat} {ρ : Q.Env} {f : List D → Store → Res D} (h2 : 3 < ρ.length) : ∀ (xs : List D) (S : Store), (∀ x ∈ xs, ∀ T, fPure f [x, x] T = .ok (.bl true) T) →
    lcL (mgTup 2 (mgCons (mgN 2) (mgCons (mgN 3) mgNil))) mYes (mCall (fPure f) (mCons (mVar 2) (mCons (mVar 3) mNil))) ρ (zipD xs xs) S = .ok (List.replicate xs.length (.bl true)) S := by
  intro xs S h
  rw [zip_self, lcL_map (f := fun _ => .bl true) (xs.map fun x => .tup [x, x]) S]
  · rw [List.map_map]
    show Res.ok (xs.map fun _ => D.bl true) S = _
    rw [List.map_const']
  · intro d hd
    obtain ⟨x, hx, rfl⟩ := List.mem_map.mp hd
    refine ⟨_, rfl, ?_⟩
    have e2 : ((ρ.set 2 (some x)).set 3 (some x))[2]? = some (some x) := by rw [List.getElem?_set_ne (by decide), List.getElem?_set_self (by omega)]
    have e3 : ((ρ.set 2 (some x)).set 3 (some x))[3]? = some (some x) := List.getElem?_set_self (by simpa using h2)
    simp only [ap_call, ap_cons, ap_var, e2, e3, varK_some, bind_ok, consK_ap, ap_nil, consK2_ap, h x hx S]
theorem same_self : ∀ (k n : Nat) (d : D) (S : Store), okD n d = true → n < k → f_l_same k [d, d] S = .ok (.bl true) S
  | 0, n, d, S, _, hk => absurd hk (by omega)
  | k + 1, n, d, S, h, hk => by
    have seq : ∀ xs : List D, (∀ x ∈ xs, okD (n - 1) x = true ∧ 0 < n) → ∀ x ∈ xs, ∀ T, fPure (f_l_same k) [x, x] T = .ok (.bl true) T := fun xs hx x hm T => by
      have p := okD_pure _ _ (hx x hm).1
      exact fPure_ap T (by simp [p]) (same_self k (n - 1) x [] (hx x hm).1 (by have := (hx x hm).2; omega))
    have all : ∀ (m : Nat) (S : Store), fAll [.lst (List.replicate m (.bl true))] S = .ok (.bl true) S := fun m S => by
      have hb : boolsD (List.replicate m (D.bl true)) = some (List.replicate m true) := by
        induction m with
        | zero => rfl
        | succ m ih => rw [List.replicate_succ, boolsD, ih]; rfl
      rw [all_lst hb]
      simp
    cases d with
    | non => simp [f_l_same, fnM, m_l_same, isTy]
    | bl b => simp [f_l_same, fnM, m_l_same, isTy]
    | int b => simp [f_l_same, fnM, m_l_same, isTy]
    | str b => simp [f_l_same, fnM, m_l_same, isTy]
    | tup xs =>
      cases n with
      | zero => simp [okD] at h
      | succ n =>
        rw [okD_tup, Bool.and_eq_true, decide_eq_true_eq] at h
        have hs := same_lc (k := k) (f := f_l_same k) (ρ := [some (.tup xs), some (.tup xs), none, none]) (by simp) xs S (seq xs fun x hx => ⟨List.all_eq_true.mp h.2 x hx, by omega⟩)
        have hl : (zipD xs xs).length ≤ 100000 := by rw [zip_self, List.length_map]; exact h.1
        simp [f_l_same, fnM, m_l_same, isTy, hl, hs, all]
    | lst xs =>
      cases n with
      | zero => simp [okD] at h
      | succ n =>
        rw [okD_lst, Bool.and_eq_true, decide_eq_true_eq] at h
        have hs := same_lc (k := k) (f := f_l_same k) (ρ := [some (.lst xs), some (.lst xs), none, none]) (by simp) xs S (seq xs fun x hx => ⟨List.all_eq_true.mp h.2 x hx, by omega⟩)
        have hl : (zipD xs xs).length ≤ 100000 := by rw [zip_self, List.length_map]; exact h.1
        simp [f_l_same, fnM, m_l_same, isTy, hl, hs, all]
    | fro xs => cases n <;> simp [okD] at h
    | obj c xs => cases n <;> simp [okD] at h
    | exn c xs => cases n <;> simp [okD] at h
    | ref j => cases n <;> simp [okD] at h
theorem sameP {d : D} (S : Store) (h : okD 20 d = true) : fPure (f_l_same 30) [d, d] S = .ok (.bl true) S := fPure_ap S (by simp [okD_pure 20 d h]) (same_self 30 20 d [] h (by decide))
theorem sameP2 {d e : D} (S : Store) (he : d = e) (h : okD 20 e = true) : fPure (f_l_same 30) [d, e] S = .ok (.bl true) S := by rw [he]; exact sameP S h
theorem deq_self : ∀ (n : Nat) (d : D), shal n d = true → deq d d = true
  | _, .non, _ => by simp [deq]
  | _, .bl b, _ => by simp [deq]
  | _, .int b, _ => by simp [deq]
  | _, .str b, _ => by simp [deq]
  | n + 1, .tup xs, h => by
    have h' : ∀ x ∈ xs, shal n x = true := by simpa [shal] using h
    have go : ∀ ys : List D, (∀ y ∈ ys, deq y y = true) → deqL ys ys = true := by
      intro ys
      induction ys with
      | nil => intro _; simp [deqL]
      | cons y ys ih => intro hy; simp [deqL, hy y (by simp), ih fun z hz => hy z (by simp [hz])]
    simpa [deq] using go xs fun x hx => deq_self n x (h' x hx)
  | n + 1, .lst xs, h => by
    have h' : ∀ x ∈ xs, shal n x = true := by simpa [shal] using h
    have go : ∀ ys : List D, (∀ y ∈ ys, deq y y = true) → deqL ys ys = true := by
      intro ys
      induction ys with
      | nil => intro _; simp [deqL]
      | cons y ys ih => intro hy; simp [deqL, hy y (by simp), ih fun z hz => hy z (by simp [hz])]
    simpa [deq] using go xs fun x hx => deq_self n x (h' x hx)
  | 0, .tup xs, h => by simp [shal] at h
  | 0, .lst xs, h => by simp [shal] at h
  | n, .fro _, h => by cases n <;> simp [shal] at h
  | n, .obj _ _, h => by cases n <;> simp [shal] at h
  | n, .exn _ _, h => by cases n <;> simp [shal] at h
  | n, .ref _, h => by cases n <;> simp [shal] at h
theorem eq_selfD {d : D} {S : Store} (h : shal 20 d = true) : opEq d d S = .ok (.bl true) S := by rw [eq_plain h h, deq_self 20 d h]
theorem ne_selfD {d : D} {S : Store} (h : shal 20 d = true) : opNe d d S = .ok (.bl false) S := by rw [ne_plain h h, deq_self 20 d h]; rfl
theorem eq_sameD {d e : D} {S : Store} (he : d = e) (h : shal 20 e = true) : opEq d e S = .ok (.bl true) S := by rw [he]; exact eq_selfD h
theorem ne_sameD {d e : D} {S : Store} (he : d = e) (h : shal 20 e = true) : opNe d e S = .ok (.bl false) S := by rw [he]; exact ne_selfD h
@[simp] theorem shal_int (n : Nat) (i : Int) : shal n (.int i) = true := by cases n <;> rfl
@[simp] theorem shal_bl (n : Nat) (i : Bool) : shal n (.bl i) = true := by cases n <;> rfl
@[simp] theorem shal_non (n : Nat) : shal n .non = true := by cases n <;> rfl
@[simp] theorem shal_tup (n : Nat) (xs : List D) : shal (n + 1) (.tup xs) = xs.all (shal n) := rfl
@[simp] theorem shal_lst (n : Nat) (xs : List D) : shal (n + 1) (.lst xs) = xs.all (shal n) := rfl
theorem shal_map {β : Type} {f : β → D} {n : Nat} (h : ∀ b, shal n (f b) = true) (xs : List β) : (xs.map f).all (shal n) = true := List.all_eq_true.mpr fun d hd => by
  obtain ⟨b, _, rfl⟩ := List.mem_map.mp hd
  exact h b
theorem in_lst {a : D} {xs : List D} {S : Store} (ha : shal 20 a = true) (hx : shal 20 (.lst xs) = true) : opIn a (.lst xs) S = .ok (.bl (inD xs a)) S := by
  show (if shal 20 a && shal 20 (.lst xs) then Res.ok (D.bl (inD xs a)) S else .no) = _
  rw [ha, hx]
  rfl
theorem in_tup {a : D} {xs : List D} {S : Store} (ha : shal 20 a = true) (hx : shal 20 (.tup xs) = true) : opIn a (.tup xs) S = .ok (.bl (inD xs a)) S := by
  show (if shal 20 a && shal 20 (.tup xs) then Res.ok (D.bl (inD xs a)) S else .no) = _
  rw [ha, hx]
  rfl
theorem nin_lst {a : D} {xs : List D} {S : Store} (ha : shal 20 a = true) (hx : shal 20 (.lst xs) = true) : opNin a (.lst xs) S = .ok (.bl (!inD xs a)) S := by
  show (if shal 20 a && shal 20 (.lst xs) then Res.ok (D.bl (!inD xs a)) S else .no) = _
  rw [ha, hx]
  rfl
theorem nin_tup {a : D} {xs : List D} {S : Store} (ha : shal 20 a = true) (hx : shal 20 (.tup xs) = true) : opNin a (.tup xs) S = .ok (.bl (!inD xs a)) S := by
  show (if shal 20 a && shal 20 (.tup xs) then Res.ok (D.bl (!inD xs a)) S else .no) = _
  rw [ha, hx]
  rfl
theorem cutD_take (xs : List D) (m : Nat) : cutD xs none (some (m : Int)) = xs.take m := by
  unfold cutD
  rw [HT.sIx_none, HT.sIx_nat]
  show List.take (min m xs.length - 0) (List.drop 0 xs) = _
  rw [List.drop_zero, Nat.sub_zero]
  by_cases h : m ≤ xs.length
  · rw [Nat.min_eq_left h]
  · rw [Nat.min_eq_right (by omega), List.take_of_length_le (Nat.le_refl _), List.take_of_length_le (by omega)]
theorem cutD_mid (xs : List D) (m n : Nat) : cutD xs (some (m : Int)) (some (n : Int)) = (xs.drop m).take (n - m) := by
  unfold cutD
  rw [HT.sIx_nat, HT.sIx_nat]
  by_cases h : m ≤ xs.length
  · rw [Nat.min_eq_left h]
    by_cases h2 : n ≤ xs.length
    · rw [Nat.min_eq_left h2]
    · rw [Nat.min_eq_right (by omega), List.take_of_length_le (by rw [List.length_drop]; omega), List.take_of_length_le (by rw [List.length_drop]; omega)]
  · rw [Nat.min_eq_right (show xs.length ≤ m by omega), List.drop_of_length_le (Nat.le_refl _), List.drop_of_length_le (by omega)]
    simp
theorem pure_ints (cs : List Int) : pureL (cs.map D.int) = true := pureL_all.mpr fun d hd => by
  obtain ⟨z, _, rfl⟩ := List.mem_map.mp hd
  rfl
/-- the loop's state -/
def CellsI (v0 : D) (m c n : Nat) (ds : List D) (ρ : Q.Env) (S : Store) : Prop := ∃ (cs : List Int) (i : Nat) (xs : List Int) (w3 w4 w5 : Option D), ds = enumD i (xs.map D.int) ∧ i + xs.length ≤ 63 ∧ cs.length = n ∧ (xs ≠ [] → n = m) ∧
  ρ = [some v0, some (.int m), some (.ref c), w3, w4, w5] ∧ S[c]? = some (.lst (cs.map D.int))
theorem cells_ok (ns : List Int) (hn : ns.length ≤ 63) (m : Nat) (hm : 0 < m) (hm2 : m ≤ 63) : ∃ cs : List Int, 0 < cs.length ∧ cs.length ≤ m ∧ f_l_cells [scriptD ns, .int (m : Nat)] [] = .ok (.lst (cs.map .int)) [] := by
  have c1 : cutD (ns.map D.int) none (some (m : Int)) = (ns.take m).map D.int := by rw [cutD_take, List.map_take]
  have c2 : cutD (ns.map D.int) (some (m : Int)) (some 63) = ((ns.drop m).take (63 - m)).map D.int := by
    have := cutD_mid (ns.map D.int) m 63
    rw [show ((63 : Nat) : Int) = 63 from rfl] at this
    rw [this, List.map_take, List.map_drop]
  have ht : (ns.take m).length = min m ns.length := List.length_take
  suffices h : (f_l_cells [scriptD ns, .int (m : Nat)] []).Sat fun d S => S = [] ∧ ∃ cs : List Int, 0 < cs.length ∧ cs.length ≤ m ∧ d = .lst (cs.map .int) by
    obtain ⟨d, S, e, rfl, cs, h1, h2, rfl⟩ := sat_eq h
    exact ⟨cs, h1, h2, e⟩
  have loop : ∀ (ys : List Int) (c : Nat) (cs0 : List Int) (S0 : Store), ys.length ≤ 63 → S0[c]? = some (.lst (cs0.map D.int)) → 0 < cs0.length → cs0.length ≤ m → (ys ≠ [] → cs0.length = m) →
      ((forL (mgTup 2 (mgCons (mgN 3) (mgCons (mgN 4) mgNil))) (mSeq (mAsg (mOp opModI (mCall fInt (mCons (mVar 3) mNil)) (mVar 1)) (mgN 5))
      (mAsg (mOp opAdd (mOp opIx (mVar 2) (mVar 5)) (mOp opMul (mVar 4) (mOp opAdd (mVar 3) (mC (.int 2))))) (mgSub (mVar 2) (mVar 5)))) (enumD 0 (ys.map D.int)) [some (.fro (ns.map D.int)), some (.int m), some (.ref c), none, none, none] S0).Sat
      fun f S => ∃ cs : List Int, 0 < cs.length ∧ cs.length ≤ m ∧ ∃ w3 w4 w5, f = .nx [some (.fro (ns.map D.int)), some (.int m), some (.ref c), w3, w4, w5] ∧ S[c]? = some (.lst (cs.map D.int))) := by
    intro ys c cs0 S0 hy h0 p0 p1 p2
    refine forL_sat (CellsI (.fro (ns.map D.int)) m c cs0.length) ?_ ?_ _ _ _ ⟨cs0, 0, ys, none, none, none, rfl, by omega, rfl, p2, rfl, h0⟩
    · rintro d ds ρ S ⟨cs, i, xs, w3, w4, w5, e, hi, hl, hnm, rfl, hS⟩
      cases xs with
      | nil => simp [enumD] at e
      | cons x xs =>
        simp only [List.map_cons, enumD, List.cons.injEq] at e
        obtain ⟨rfl, rfl⟩ := e
        rw [List.length_cons] at hi
        have hlm : cs.length = m := by rw [hl]; exact hnm (by simp)
        obtain ⟨j, hj, hjm⟩ : ∃ j : Nat, (i : Int) % (m : Int) = (j : Int) ∧ j < m := ⟨((i : Int) % (m : Int)).toNat, by
          have := Int.emod_nonneg (i : Int) (show (m : Int) ≠ 0 by omega)
          omega, by
          have := Int.emod_lt_of_pos (i : Int) (show (0 : Int) < m by omega)
          omega⟩
        have hlt : j < cs.length := by rw [hlm]; exact hjm
        have hg : (cs.map D.int)[j]? = some (.int cs[j]) := by rw [List.getElem?_map, List.getElem?_eq_getElem hlt]; rfl
        have ha := atI_get hg
        have hx : ixN cs.length (j : Int) = some j := by
          unfold ixN
          rw [if_pos (by omega), if_pos (by omega)]
          simp
        have hm1 : mulOk x ((i : Int) + 2) = true := mulOk_r (by omega)
        have hmo : modOk (i : Int) (m : Int) = true := modOk_of (by omega)
        refine ⟨[some (.fro (ns.map D.int)), some (.int m), some (.ref c), some (.int i), some (.int x), w5], S, by simp, ?_⟩
        simp [hmo, hj, ix_refD _ hS, ha, hm1, setIx, hS, hx]
        refine ⟨cs.set j (cs[j] + x * ((i : Int) + 2)), i + 1, xs, some (.int i), some (.int x), some (.int (j : Int)), rfl, by omega, by simpa using hl, fun _ => hnm (by simp), rfl, ?_⟩
        rw [List.map_set]
        exact set_get hS
    · rintro ρ S ⟨cs, i, xs, w3, w4, w5, e, hi, hl, hnm, rfl, hS⟩
      exact ⟨cs, by omega, by omega, w3, w4, w5, rfl, hS⟩
  unfold f_l_cells m_l_cells
  rw [fnM_2]
  by_cases h0 : ns = []
  · subst h0
    simp only [List.map_nil, List.take_nil, List.drop_nil] at c1 c2
    have e1 : ([Cell.lst [], Cell.lst [.int 0]] : Store)[1]? = some (.lst [.int 0]) := rfl
    have tr : truth [Cell.lst []] (.ref 0) = some false := rfl
    simp [scriptD, c1, c2, tr]
    refine sat_step (loop [] 1 [0] _ (by simp) rfl (by decide) hm (by simp)) ?_
    rintro _ S ⟨cs, q1, q2, w3, w4, w5, rfl, hS⟩
    simp [fz_ref hS, fin_nil, pure_ints]
    exact ⟨cs, q1, q2, rfl⟩
  · have hp : 0 < ns.length := List.length_pos_iff.mpr h0
    have hne : (ns.take m).isEmpty = false := by
      cases ns with
      | nil => exact absurd rfl h0
      | cons a t =>
        cases m with
        | zero => omega
        | succ m => rfl
    have hd : (ns.drop m).take (63 - m) ≠ [] → (ns.take m).length = m := fun h => by
      have : 0 < ((ns.drop m).take (63 - m)).length := List.length_pos_iff.mpr h
      rw [List.length_take, List.length_drop] at this
      rw [ht]
      omega
    have hy : ((ns.drop m).take (63 - m)).length ≤ 63 := by rw [List.length_take, List.length_drop]; omega
    have hl0 : 0 < (ns.take m).length := by rw [ht]; omega
    have hlm : (ns.take m).length ≤ m := by rw [ht]; omega
    generalize ns.take m = L at *
    generalize (ns.drop m).take (63 - m) = ys at *
    have e0 : ([Cell.lst (L.map D.int)] : Store)[0]? = some (.lst (L.map D.int)) := rfl
    have tr : truth [Cell.lst (L.map D.int)] (.ref 0) = some true := by rw [truth_ref e0, List.isEmpty_map, hne]; rfl
    simp [scriptD, c1, tr, c2]
    refine sat_step (loop ys 0 L _ hy e0 hl0 hlm hd) ?_
    rintro _ S ⟨cs, q1, q2, w3, w4, w5, rfl, hS⟩
    simp [fz_ref hS, fin_nil, pure_ints]
    exact ⟨cs, q1, q2, rfl⟩
theorem box_ok (S : Store) (cs : List Int) (k : Nat) (off : Int) (hk : k < cs.length) (hk3 : k < 100) (ho : 0 ≤ off ∧ off < 100000)
    (hm : m_l_box = (mSeq (mAsg (mIfE (mTB (mOp opLt (mVar 1) (mCall fLen (mCons (mVar 0) mNil)))) (mOp opIx (mVar 0) (mVar 1)) (mC (.int 0))) (mgN 2))
  (mRet (mCell (mCons (mOp opMul (mCall fAbs (mCons (mVar 2) mNil)) (mCall fInt (mCons (mOp opGe (mCall fAbs (mCons (mVar 2) mNil)) (mOp opPowI (mC (.int 10)) (mC (.int 18)))) mNil))) (mCons (mOp opAdd (mOp opAdd (mOp opModI (mCall fInt (mCons (mVar 2) mNil)) (mC (.int 2305843009213693951))) (mOp opMul (mC (.int 39373)) (mVar 1))) (mC (.int off))) (mCons (mC (.int 0)) mNil))))))) :
    ∃ x, BoxC x 0 ∧ f_l_box [.lst (cs.map .int), .int (k : Nat)] S = .ok (.ref S.length) (S ++ [x]) := by
  have hg : atI (cs.map D.int) (k : Int) = some (.int cs[k]) := atI_get (by rw [List.getElem?_map, List.getElem?_eq_getElem hk]; rfl)
  have p1 : powOk 10 18 = true := by decide
  have m2 : mulOk 39373 (k : Int) = true := mulOk_l (by decide)
  have g1 : ∀ u, modOk u 2305843009213693951 = true := fun u => modOk_of (by decide)
  have hlt : ((k : Int) < (cs.length : Int)) := by omega
  generalize cs[k] = z at *
  obtain ⟨u, hu, ha⟩ : ∃ u : Int, 0 ≤ u ∧ ∀ T, fAbs [.int z] T = .ok (.int u) T := ⟨if z < 0 then -z else z, by split <;> omega, fun _ => rfl⟩
  have m1 : mulOk u (if 1000000000000000000 ≤ u then 1 else 0) = true := mulOk_r (by split <;> decide)
  have q0 : (0 : Int) ≤ u * (if 1000000000000000000 ≤ u then 1 else 0) := by split <;> simp [hu]
  refine ⟨box (u * (if 1000000000000000000 ≤ u then 1 else 0)) (z % 2305843009213693951 + 39373 * (k : Int) + off) 0, ⟨_, _, _, rfl, q0, ?_, by decide, by decide⟩, ?_⟩
  · have h1 := Int.emod_nonneg z (show (2305843009213693951 : Int) ≠ 0 by decide)
    have h2 := Int.emod_lt_of_pos z (show (0 : Int) < 2305843009213693951 by decide)
    omega
  · unfold f_l_box
    rw [hm, fnC_2]
    simp [-abs_int, ha, hg, hlt, p1, m1, m2, g1]
def BoxOk : Prop := ∀ (S : Store) (cs : List Int) (k : Nat), k < cs.length → k < 100 → ∃ x, BoxC x 0 ∧ f_l_box [.lst (cs.map .int), .int (k : Nat)] S = .ok (.ref S.length) (S ++ [x])
theorem box_s {S : Store} {cs : List Int} {k : Nat} (hb : BoxOk) (hk : k < cs.length) (hk2 : k < 100) : (f_l_box [.lst (cs.map .int), .int (k : Nat)] S).Sat fun d S' => d = .ref S.length ∧ S.length + 1 = S'.length ∧ BoxS S' S.length 0 S' := by
  obtain ⟨x, hx, e⟩ := hb S cs k hk hk2
  exact sat_of e ⟨rfl, by simp, BoxS.start (x := x) (by simp) hx⟩
theorem BoxC.pure {x : Cell} {N : Nat} (h : BoxC x N) : x.pure = true := by
  obtain ⟨a, b, c, rfl, _⟩ := h
  rfl
theorem BoxS.pure {S0 S : Store} {k N : Nat} (h : BoxS S0 k N S) (hp : S0.all Cell.pure = true) : S.all Cell.pure = true := by
  obtain ⟨y, rfl, hy, hk⟩ := h
  refine List.all_eq_true.mpr fun c hc => ?_
  rcases List.mem_or_eq_of_mem_set hc with m | rfl
  · exact List.all_eq_true.mp hp c m
  · exact hy.pure
theorem bools_true : ∀ t, boolsD (List.replicate t (D.bl true)) = some (List.replicate t true)
  | 0 => rfl
  | t + 1 => by rw [List.replicate_succ, boolsD, bools_true t]; rfl
theorem all_trues {xs : List D} {S : Store} (h : ∀ d ∈ xs, d = .bl true) : fAll [.lst xs] S = .ok (.bl true) S := by
  rw [List.eq_replicate_iff.mpr ⟨rfl, h⟩, all_lst (bools_true _)]
  simp
/-- right draws W at most -/
def RightS (W : Nat) : Prop := ∀ (S0 S : Store) (k N : Nat), BoxS S0 k N S → N + W < 1000000000000 → (f_l_right [.ref k] S).Sat fun d S' => d = .bl true ∧ BoxS S0 k (N + W) S'
/-- .. where the other cells hold plain data -/
def RightP (W : Nat) : Prop := ∀ (S0 S : Store) (k N : Nat), S0.all Cell.pure = true → BoxS S0 k N S → N + W < 1000000000000 → (f_l_right [.ref k] S).Sat fun d S' => d = .bl true ∧ BoxS S0 k (N + W) S'
theorem RightS.p {W : Nat} (h : RightS W) : RightP W := fun S0 S k N _ hb hN => h S0 S k N hb hN
/-- [right(box) for turn in range(t)] -/
theorem rights_s {t W k N v vb : Nat} {S0 S : Store} {ρ : Q.Env} (ht : t ≤ 1000) (hW : W ≤ 100000000) (hr : RightP W) (hpu : S0.all Cell.pure = true) (h : BoxS S0 k N S) (hN : N ≤ 1000000) (hv : ∀ d, (ρ.set v d)[vb]? = some (some (.ref k))) :
    (lcL (mgN v) mYes (mCall (fCall f_l_right) (mCons (mVar vb) mNil)) ρ (rangeD 0 t) S).Sat fun vs S' => vs.length = t ∧ (∀ d ∈ vs, d = .bl true) ∧ BoxS S0 k (N + W * t) S' := by
  have hb := Nat.mul_le_mul hW ht
  have hl := lcL_draw (g := mgN v) (m := mCall (fCall f_l_right) (mCons (mVar vb) mNil)) (ρ := ρ) (S0 := S0) (k := k) (c := W) (T := N + W * t) (P := fun d => d = .bl true) (rangeD 0 t) N S h (by rw [rangeD_len]; exact Nat.le_refl _) (fun d hd M S1 h1 hM => by
    refine ⟨_, rfl, ?_⟩
    simp only [ap_call, ap_cons, ap_var, hv, varK_some, bind_ok, consK_ap, ap_nil, consK2_ap, fCall_ap, nox_sat]
    exact hr S0 S1 k M hpu h1 (by omega))
  rw [rangeD_len] at hl
  exact hl
theorem box_p {S : Store} {cs : List Int} {k : Nat} (hb : BoxOk) (hk : k < cs.length) (hk2 : k < 100) (hp : S.all Cell.pure = true) : (f_l_box [.lst (cs.map .int), .int (k : Nat)] S).Sat fun d S' => d = .ref S.length ∧ S.length + 1 = S'.length ∧ BoxS S' S.length 0 S' ∧ S'.all Cell.pure = true := by
  obtain ⟨x, hx, e⟩ := hb S cs k hk hk2
  exact sat_of e ⟨rfl, by simp, BoxS.start (x := x) (by simp) hx, by rw [List.all_append, hp]; simp [hx.pure]⟩
theorem lcL_mapx {β : Type} {u w : β → D} {g : MG} {m : ME} {ρ : Q.Env} : ∀ (xs : List β) (S : Store), (∀ x ∈ xs, ∃ ρ1, g (u x) ρ S = .ok ρ1 S ∧ m ρ1 S = .ok (w x) S) → lcL g mYes m ρ (xs.map u) S = .ok (xs.map w) S
  | [], S, _ => rfl
  | x :: xs, S, h => by
    obtain ⟨ρ1, h1, h2⟩ := h x (by simp)
    rw [List.map_cons]
    unfold lcL
    rw [h1]
    simp only [bind_ok, ap_yes]
    rw [h2]
    simp only [bind_ok]
    rw [lcL_mapx xs S fun y hy => h y (by simp [hy])]
    rfl
theorem zipD_map {β γ : Type} {f : β → D} {g : γ → D} : ∀ (xs : List β) (ys : List γ), zipD (xs.map f) (ys.map g) = (xs.zip ys).map fun p => .tup [f p.1, g p.2]
  | [], _ => rfl
  | _ :: _, [] => rfl
  | x :: xs, y :: ys => by
    show D.tup [f x, g y] :: zipD (xs.map f) (ys.map g) = _
    rw [zipD_map xs ys]
    rfl
theorem ne_refD {k : Nat} {xs : List D} {S : Store} (h : S[k]? = some (.lst xs)) (hs : shal 20 (.lst xs) = true) : opNe (.ref k) (.lst xs) S = .ok (.bl false) S := by
  have hd : deref S (.ref k) = .lst xs := by simp [deref, h]
  have hd2 : deref S (.lst xs) = .lst xs := rfl
  unfold opNe
  simp only [hd, hd2, hs, deq_self 20 _ hs]
  rfl
theorem eq_refD {k : Nat} {xs : List D} {S : Store} (h : S[k]? = some (.lst xs)) (hs : shal 20 (.lst xs) = true) : opEq (.ref k) (.lst xs) S = .ok (.bl true) S := by
  have hd : deref S (.ref k) = .lst xs := by simp [deref, h]
  have hd2 : deref S (.lst xs) = .lst xs := rfl
  unfold opEq
  simp only [hd, hd2, hs, deq_self 20 _ hs]
  rfl
theorem shal_ints (xs : List Int) : shal 20 (.lst (xs.map .int)) = true := by
  rw [shal_lst]
  exact shal_map (fun _ => shal_int _ _) xs
/-! ### rows -/
theorem unmap {β : Type} {f : β → D} {P : β → Prop} : ∀ (vs : List D), (∀ v ∈ vs, ∃ b, v = f b ∧ P b) → ∃ bs : List β, vs = bs.map f ∧ ∀ b ∈ bs, P b
  | [], _ => ⟨[], rfl, by simp⟩
  | v :: vs, h => by
    obtain ⟨b, rfl, hb⟩ := h v (by simp)
    obtain ⟨bs, rfl, hbs⟩ := unmap vs fun w hw => h w (by simp [hw])
    exact ⟨b :: bs, rfl, fun c hc => (List.mem_cons.mp hc).elim (fun e => by rw [e]; exact hb) (hbs c)⟩
theorem toN {r : Int} (h : 0 ≤ r) : ∃ n : Nat, r = (n : Int) := ⟨r.toNat, by omega⟩
theorem log_small {rows : List (Int × Int)} (h : rows.length ≤ 1000) : 2 * (10 ^ 30 * (rows.length : Int)) < big := by
  have : (10 : Int) ^ 30 * (rows.length : Int) ≤ 10 ^ 30 * 1000 := Int.mul_le_mul_of_nonneg_left (by omega) (by decide)
  exact bigN (by omega)
theorem pureL_map {β : Type} {f : β → D} (h : ∀ b, pureD (f b) = true) (xs : List β) : pureL (xs.map f) = true := pureL_all.mpr fun d hd => by
  obtain ⟨b, _, rfl⟩ := List.mem_map.mp hd
  exact h b
theorem lcL_filtermap {β : Type} {u w : β → D} {q : β → Bool} {g : MG} {t : MT} {m : ME} {ρ : Q.Env} : ∀ (xs : List β) (S : Store), (∀ x ∈ xs, ∃ ρ1, g (u x) ρ S = .ok ρ1 S ∧ t ρ1 S = .ok (q x) S ∧ m ρ1 S = .ok (w x) S) → lcL g t m ρ (xs.map u) S = .ok ((xs.filter q).map w) S
  | [], S, _ => rfl
  | x :: xs, S, h => by
    obtain ⟨ρ1, h1, h2, h3⟩ := h x (by simp)
    have ih := lcL_filtermap xs S fun y hy => h y (by simp [hy])
    rw [List.map_cons]
    unfold lcL
    rw [h1]
    simp only [bind_ok]
    rw [h2]
    simp only [bind_ok]
    cases e : q x with
    | true =>
      simp only [e, if_true, h3, bind_ok, ih, List.filter_cons]
      rfl
    | false =>
      simp only [e, ih, List.filter_cons]
      rfl
/-! ### a cell of one's own beside the box -/
theorem BoxS.lt {S0 S : Store} {k N : Nat} (h : BoxS S0 k N S) : k < S0.length := by obtain ⟨y, _, _, hk⟩ := h; exact hk
theorem BoxS.push {S0 S : Store} {k N : Nat} (c : Cell) (h : BoxS S0 k N S) : BoxS (S0 ++ [c]) k N (S ++ [c]) := by
  obtain ⟨y, rfl, hy, hk⟩ := h
  exact ⟨y, by rw [List.set_append_left _ _ hk], hy, by simp; omega⟩
theorem BoxS.last {S0 S : Store} {k N : Nat} {c : Cell} (h : BoxS (S0 ++ [c]) k N S) (hk : k < S0.length) : S[S0.length]? = some c := by
  obtain ⟨y, rfl, _, _⟩ := h
  rw [List.getElem?_set_ne (by omega)]
  simp
theorem BoxS.setLast {S0 S : Store} {k N : Nat} {c : Cell} (c' : Cell) (h : BoxS (S0 ++ [c]) k N S) (hk : k < S0.length) : BoxS (S0 ++ [c']) k N (S.set S0.length c') := by
  obtain ⟨y, rfl, hy, _⟩ := h
  refine ⟨y, ?_, hy, by simp; omega⟩
  rw [List.set_append_left _ _ hk, List.set_append_left _ _ hk]
  have e : (S0.set k y).length = S0.length := by simp
  rw [← e, List.set_append_right _ _ (Nat.le_refl _)]
  simp
theorem BoxS.cut {S0 S : Store} {k N : Nat} {c : Cell} (h : BoxS (S0 ++ [c]) k N S) (hk : k < S0.length) : S.length = S0.length + 1 ∧ BoxS S0 k N (S.take S0.length) := by
  obtain ⟨y, rfl, hy, _⟩ := h
  refine ⟨by simp, y, ?_, hy, hk⟩
  rw [List.set_append_left _ _ hk]
  exact List.take_left' (by simp)
/-- what a def with one cell of its own hands back -/
theorem fin_cut {S0 S : Store} {k N n : Nat} {c : Cell} {d : D} (h : BoxS (S0 ++ [c]) k N S) (hk : k < S0.length) (hn : n = S0.length) (hp : S0.all Cell.pure = true) (hd : pureD d = true) : ∃ S', fin n d S = .ok d S' ∧ BoxS S0 k N S' := by
  obtain ⟨hl, hb⟩ := h.cut hk
  refine ⟨S.take S0.length, ?_, hb⟩
  subst hn
  exact fin_ok (by omega) hd (hb.pure hp)
/-! ### several cells of one's own beside the box -/
theorem BoxS.pushes {S0 S : Store} {k N : Nat} (cs : List Cell) (h : BoxS S0 k N S) : BoxS (S0 ++ cs) k N (S ++ cs) := by
  obtain ⟨y, rfl, hy, hk⟩ := h
  exact ⟨y, by rw [List.set_append_left _ _ hk], hy, by simp; omega⟩
theorem BoxS.cuts {S0 S : Store} {cs : List Cell} {k N : Nat} (h : BoxS (S0 ++ cs) k N S) (hk : k < S0.length) : S.length = S0.length + cs.length ∧ BoxS S0 k N (S.take S0.length) := by
  obtain ⟨y, rfl, hy, _⟩ := h
  refine ⟨by simp, y, ?_, hy, hk⟩
  rw [List.set_append_left _ _ hk]
  exact List.take_left' (by simp)
theorem fin_cuts {S0 S : Store} {cs : List Cell} {k N n : Nat} {d : D} (h : BoxS (S0 ++ cs) k N S) (hk : k < S0.length) (hn : n = S0.length) (hp : S0.all Cell.pure = true) (hd : pureD d = true) : ∃ S', fin n d S = .ok d S' ∧ BoxS S0 k N S' := by
  obtain ⟨hl, hb⟩ := h.cuts hk
  subst hn
  by_cases h0 : cs.length = 0
  · refine ⟨S, by unfold fin; rw [if_pos (by omega)], ?_⟩
    rwa [List.take_of_length_le (by omega)] at hb
  · refine ⟨S.take S0.length, ?_, hb⟩
    exact fin_ok (by omega) hd (hb.pure hp)
/-- ascending STRETCHes of so many minutes -/
structure LooksOk (many : Int) (ps : List (Int × Int)) : Prop where
  up : ps.Pairwise plt
  ok : ∀ p ∈ ps, 0 ≤ p.1 ∧ p.1 < p.2 ∧ p.2 ≤ many
def looksD (ps : List (Int × Int)) : D := .tup (ps.map pairD)
theorem insU_len (x : Int × Int) : ∀ ys : List (Int × Int), (insU x ys).length ≤ ys.length + 1
  | [] => by simp [insU]
  | y :: ys => by
    unfold insU
    have := insU_len x ys
    split
    · simp
    · split
      · simp
      · simp; omega
theorem sortU_len : ∀ xs : List (Int × Int), (sortU xs).length ≤ xs.length
  | [] => by simp [sortU]
  | x :: xs => by
    unfold sortU
    have a := insU_len x (sortU xs)
    have b := sortU_len xs
    simp; omega
theorem min2_ok {a b : Int} {S : Store} : fMin2 [.int a, .int b] S = .ok (.int (if b < a then b else a)) S := rfl
def mLk : MS := (mSeq (mAsg (mCall (fCall f_l_take) (mCons (mVar 0) (mCons (mVar 1) mNil))) (mgN 7))
  (mIf (mTB (mOp opEq (mVar 3) (mC (.int 0)))) (mDrop (mApp (mVar 4) (mTup (mCons (mVar 7) (mCons (mOp opAdd (mOp opAdd (mVar 7) (mC (.int 1))) (mCall (fCall f_l_take) (mCons (mVar 0) (mCons (mOp opSubI (mVar 1) (mVar 7)) mNil)))) mNil))))) (mIf (mTB (mOp opEq (mVar 3) (mC (.int 1)))) (mDrop (mApp (mVar 4) (mTup (mCons (mVar 7) (mCons (mCall fMin2 (mCons (mVar 1) (mCons (mOp opAdd (mVar 7) (mVar 5)) mNil))) mNil))))) (mDrop (mApp (mVar 4) (mTup (mCons (mVar 7) (mCons (mCall fMin2 (mCons (mVar 1) (mCons (mOp opAdd (mOp opAdd (mVar 7) (mC (.int 1))) (mCall (fCall f_l_take) (mCons (mVar 0) (mCons (mC (.int 5)) mNil)))) mNil))) mNil))))))))
theorem looks_s {S0 S : Store} {k N : Nat} {many : Int} {most : Nat} (h : BoxS S0 k N S) (hp : S0.all Cell.pure = true) (hN : N + 2 * most + 10 < 2 ^ 40) (hm : 0 < many) (hm2 : many < lim) (hmost : most < 63) :
    (f_l_looks [.ref k, .int many, .int most] S).Sat fun d S' => ∃ ps, d = looksD ps ∧ LooksOk many ps ∧ ps.length ≤ most ∧ BoxS S0 k (N + 2 * most + 3) S' := by
  have hm3 : many < 2 ^ 8999 := Int.lt_trans hm2 (by decide)
  have hk := h.lt
  have turn : ∀ (way wide : Int) (v2 : Option D) (ps : List (Int × Int)) (v6 v7 : Option D) (M : Nat) (T : Store), 0 < wide → M + 2 < 2 ^ 40 → ps.length < 63 → (∀ p ∈ ps, 0 ≤ p.1 ∧ p.1 < p.2 ∧ p.2 ≤ many) → BoxS (S0 ++ [.lst (ps.map pairD)]) k M T →
      (mLk [some (.ref k), some (.int many), v2, some (.int way), some (.ref S0.length), some (.int wide), v6, v7] T).Sat fun f T' => ∃ p v7', f = .nx [some (.ref k), some (.int many), v2, some (.int way), some (.ref S0.length), some (.int wide), v6, v7'] ∧ (0 ≤ p.1 ∧ p.1 < p.2 ∧ p.2 ≤ many) ∧ BoxS (S0 ++ [.lst ((ps ++ [p]).map pairD)]) k (M + 2) T' := by
    intro way wide v2 ps v6 v7 M T hw hM hps hok hT
    have put : ∀ (M' : Nat) (T' : Store) (s e : Int), BoxS (S0 ++ [.lst (ps.map pairD)]) k M' T' → appTo S0.length (.tup [.int s, .int e]) T' = .ok .non (T'.set S0.length (.lst ((ps ++ [(s, e)]).map pairD))) := fun M' T' s e hb => by
      rw [appTo_ok _ (hb.last hk) (by simp; omega)]
      simp [pairD]
    have no : ∀ (M' : Nat) (T' : Store), BoxS (S0 ++ [.lst (ps.map pairD)]) k M' T' → notOb T' S0.length = true := fun M' T' hb => notOb_lst (hb.last hk)
    unfold mLk
    simp
    refine sat_step (take_s (n := many) hT (by omega) hm hm3) ?_
    rintro _ T1 ⟨s, rfl, a1, b1, h1⟩
    by_cases e0 : way = 0
    · simp [e0, no _ _ h1]
      refine sat_step (take_s (n := many - s) h1 (by omega) (by omega) (by omega)) ?_
      rintro _ T2 ⟨r, rfl, a2, b2, h2⟩
      simp [put _ _ _ _ h2]
      have z := (h2.setLast (.lst ((ps ++ [(s, s + 1 + r)]).map pairD)) hk).mono (show M + 1 + 1 ≤ M + 2 by omega)
      exact ⟨s, s + 1 + r, ⟨by omega, by omega, by omega⟩, by simpa using z⟩
    · by_cases e1 : way = 1
      · simp [e1, min2_ok, no _ _ h1, put _ _ _ _ h1]
        have z := (h1.setLast (.lst ((ps ++ [(s, if s + wide < many then s + wide else many)]).map pairD)) hk).mono (show M + 1 ≤ M + 2 by omega)
        exact ⟨s, if s + wide < many then s + wide else many, ⟨by omega, by split <;> omega, by split <;> omega⟩, by simpa using z⟩
      · simp [e0, e1, no _ _ h1]
        refine sat_step (take_s (n := 5) h1 (by omega) (by decide) (by decide)) ?_
        rintro _ T2 ⟨r, rfl, a2, b2, h2⟩
        simp [min2_ok, put _ _ _ _ h2]
        have z := (h2.setLast (.lst ((ps ++ [(s, if s + 1 + r < many then s + 1 + r else many)]).map pairD)) hk).mono (show M + 1 + 1 ≤ M + 2 by omega)
        exact ⟨s, if s + 1 + r < many then s + 1 + r else many, ⟨by omega, by split <;> omega, by split <;> omega⟩, by simpa using z⟩
  unfold f_l_looks m_l_looks
  rw [fnM_3]
  show (endM S.length (mSeq _ (mSeq _ (mSeq (mFor _ _ mLk) _)) _ _)).Sat _
  generalize mLk = mL at *
  simp
  refine sat_step (take_s (n := 4) h (by omega) (by decide) (by decide)) ?_
  rintro _ S1 ⟨way, rfl, a1, b1, h1⟩
  have hl1 : S1.length = S0.length := h1.len
  simp [min2_ok]
  refine sat_step (take_s (n := if 5 < many then 5 else many) (h1.push (.lst [])) (by omega) (by split <;> omega) (Int.lt_trans (show (if (5 : Int) < many then 5 else many) < 6 by split <;> omega) (by decide))) ?_
  rintro _ S2 ⟨w, rfl, a2, b2, h2⟩
  simp
  refine sat_step (take_s (n := (most : Int) + 1) h2 (by omega) (by omega) (Int.lt_trans (show (most : Int) + 1 < 100 by omega) (by decide))) ?_
  rintro _ S3 ⟨t, rfl, a3, b3, h3⟩
  obtain ⟨t, rfl⟩ := Int.eq_ofNat_of_zero_le a3
  simp [r1K_nat t (by omega)]
  refine sat_step (forL_sat (P := fun f S' => ∃ (ps : List (Int × Int)) (v6 v7 : Option D), f = .nx [some (.ref k), some (.int many), some (.int most), some (.int way), some (.ref S1.length), some (.int (1 + w)), v6, v7] ∧ ps.length = t ∧ (∀ p ∈ ps, 0 ≤ p.1 ∧ p.1 < p.2 ∧ p.2 ≤ many) ∧ BoxS (S0 ++ [.lst (ps.map pairD)]) k (N + 3 + 2 * ps.length) S')
    (fun ds ρ S' => ∃ (ps : List (Int × Int)) (v6 v7 : Option D), ρ = [some (.ref k), some (.int many), some (.int most), some (.int way), some (.ref S1.length), some (.int (1 + w)), v6, v7] ∧ ps.length + ds.length = t ∧ (∀ p ∈ ps, 0 ≤ p.1 ∧ p.1 < p.2 ∧ p.2 ≤ many) ∧ BoxS (S0 ++ [.lst (ps.map pairD)]) k (N + 3 + 2 * ps.length) S') ?_ ?_ _ _ _ ⟨[], none, none, rfl, by simp [rangeD_len], by simp, by simpa using h3⟩) ?_
  · rintro d ds ρ S' ⟨ps, v6, v7, rfl, hl, hok, hB⟩
    rw [List.length_cons] at hl
    refine ⟨_, S', rfl, ?_⟩
    rw [hl1]
    refine (turn way (1 + w) _ ps (some d) v7 _ S' (by omega) (by omega) (by omega) hok hB).mono ?_
    rintro _ T' ⟨p, v7', rfl, hpk, hB'⟩
    refine ⟨ps ++ [p], _, _, rfl, by simp; omega, fun q hq => ?_, by simpa [Nat.mul_add, Nat.add_assoc] using hB'⟩
    rcases List.mem_append.mp hq with m | m
    · exact hok q m
    · simp at m
      subst m
      exact hpk
  · rintro ρ S' ⟨ps, v6, v7, rfl, hl, hok, hB⟩
    exact ⟨ps, v6, v7, rfl, by simpa using hl, hok, hB⟩
  · rintro _ S' ⟨ps, v6, v7, rfl, hl, hok, hB⟩
    have pk : ∀ p ∈ ps, (0 ≤ p.1 ∧ p.1 < lim) ∧ 0 ≤ p.2 ∧ p.2 < lim := fun p hp => by
      have := hok p hp
      omega
    have ss := fun S => ssK_pairs (S := S) pk (by omega)
    have fr := fz_ref (hB.last hk)
    have hB2 := hB.setLast (.frz (ps.map pairD)) hk
    have len : ((sortU ps).map pairD).length ≤ 100000 := by have := sortU_len ps; simp; omega
    have pd : pureD (.tup ((sortU ps).map pairD)) = true := pureL_all.mpr fun d hd => by
      obtain ⟨p, _, rfl⟩ := List.mem_map.mp hd
      rfl
    obtain ⟨S4, e4, hB4⟩ := fin_cut (d := .tup ((sortU ps).map pairD)) hB2 hk h.len hp pd
    rw [hl1]
    generalize hR : (sortU ps).map pairD = R at *
    simp [fr, ss, hR, e4]
    exact ⟨sortU ps, by rw [looksD, hR], ⟨sortU_up ps, fun p hp => hok p (mem_sortU.mp hp)⟩, by have := sortU_len ps; omega, hB4.mono (by omega)⟩
def bookD (many a b : Int) (ps : List (Int × Int)) : D := .tup [.int many, .tup [.int a, .int b], looksD ps]
theorem book_s {S0 S : Store} {k N mm most : Nat} (h : BoxS S0 k N S) (hp : S0.all Cell.pure = true) (hN : N + 2 * most + 20 < 2 ^ 40) (hm : 0 < mm) (hm2 : mm < 1000) (hmost : most < 63) :
    (f_l_book [.ref k, .int mm, .int most] S).Sat fun d S' => ∃ (many : Nat) (a b : Int) (ps : List (Int × Int)), d = bookD many a b ps ∧ (0 < many ∧ many ≤ mm) ∧ (0 < a ∧ a < b ∧ b < 2 ^ 67) ∧ LooksOk many ps ∧ ps.length ≤ most ∧ BoxS S0 k (N + 2 * most + 7) S' := by
  unfold f_l_book m_l_book
  rw [fnM_3]
  simp
  refine sat_step (take_s (n := (mm : Int)) h (by omega) (by omega) (Int.lt_trans (show (mm : Int) < 1000 by omega) (by decide))) ?_
  rintro _ S1 ⟨r, rfl, a1, b1, h1⟩
  simp
  refine sat_step (limit_s h1 (by omega)) ?_
  rintro _ S2 ⟨⟨a, b, rfl, ha, hab, hb⟩, h2⟩
  simp
  refine sat_step (looks_s (many := 1 + r) (most := most) h2 hp (by omega) (by omega) (by unfold lim; omega) hmost) ?_
  rintro _ S3 ⟨ps, rfl, hl, hps, h3⟩
  obtain ⟨n, rfl⟩ := Int.eq_ofNat_of_zero_le a1
  simp [fin_len (h3.len.trans h.len.symm)]
  refine ⟨n + 1, a, b, ps, ?_, ⟨by omega, by omega⟩, ⟨ha, hab, hb⟩, ?_, hps, h3.mono (by omega)⟩
  · unfold bookD
    rw [show (((n + 1 : Nat)) : Int) = 1 + (n : Int) by omega]
  · rw [show (((n + 1 : Nat)) : Int) = 1 + (n : Int) by omega]
    exact hl
def IsStr (many : Int) (d : D) : Prop := ∃ s e : Int, d = .tup [.int s, .int e] ∧ 0 ≤ s ∧ s < e ∧ e ≤ many
theorem stretch_s {S0 S : Store} {k N : Nat} {many : Int} (h : BoxS S0 k N S) (hN : N + 3 < 2 ^ 40) (hm : 0 < many) (hm2 : many < 2 ^ 60) : (f_l_stretch [.ref k, .int many] S).Sat fun d S' => IsStr many d ∧ BoxS S0 k (N + 3) S' := by
  have big : many < 2 ^ 8999 := Int.lt_trans hm2 (by decide)
  unfold f_l_stretch m_l_stretch
  rw [fnM_2]
  simp
  refine sat_step (take_s (n := 3) h (by omega) (by decide) (by decide)) ?_
  rintro _ S1 ⟨r1, rfl, a1, b1, h1⟩
  by_cases e0 : r1 = 0
  · simp [e0, fin_len (h1.len.trans h.len.symm)]
    exact ⟨⟨_, _, rfl, by omega, by omega, by omega⟩, h1.mono (by omega)⟩
  · simp [e0]
    refine sat_step (take_s (n := many) h1 (by omega) hm big) ?_
    rintro _ S2 ⟨r2, rfl, a2, b2, h2⟩
    simp
    refine sat_step (take_s (n := many - r2) h2 (by omega) (by omega) (by omega)) ?_
    rintro _ S3 ⟨r3, rfl, a3, b3, h3⟩
    simp [fin_len (h3.len.trans h.len.symm)]
    exact ⟨⟨_, _, rfl, by omega, by omega, by omega⟩, h3⟩
/-! ### flows: looks with how often they are jumped, steps that are taken or not -/
abbrev Jmp := List ((Int × Int) × Int)
abbrev Stp := List (Int × Bool)
def sumI (xs : List Int) : Int := xs.foldr (· + ·) 0
@[simp] theorem sumI_nil : sumI [] = 0 := rfl
@[simp] theorem sumI_cons (x : Int) (xs : List Int) : sumI (x :: xs) = x + sumI xs := rfl
theorem sumI_append (xs ys : List Int) : sumI (xs ++ ys) = sumI xs + sumI ys := by
  induction xs with
  | nil => simp
  | cons x xs ih => simp [ih]; omega
theorem sumI_le {β : Type} {f g : β → Int} : ∀ {xs : List β}, (∀ x ∈ xs, f x ≤ g x) → sumI (xs.map f) ≤ sumI (xs.map g)
  | [], _ => by simp
  | x :: xs, h => by
    have h1 := h x (by simp)
    have h2 := sumI_le (xs := xs) fun y hy => h y (by simp [hy])
    simp only [List.map_cons, sumI_cons]
    omega
theorem sumI_congr {β : Type} {f g : β → Int} {xs : List β} (h : ∀ x ∈ xs, f x = g x) : sumI (xs.map f) = sumI (xs.map g) := by
  rw [List.map_congr_left h]
theorem sumI_zero {β : Type} {f : β → Int} : ∀ {xs : List β}, (∀ x ∈ xs, f x = 0) → sumI (xs.map f) = 0
  | [], _ => rfl
  | x :: xs, h => by
    simp only [List.map_cons, sumI_cons]
    rw [h x (by simp), sumI_zero fun y hy => h y (by simp [hy])]
    rfl
/-- a function's sum over the flow -/
def jW (χ : Int → Int) (J : Jmp) : Int := sumI (J.map fun x => x.2 * (χ x.1.2 - χ x.1.1))
def tW (χ : Int → Int) (T : Stp) : Int := sumI (T.map fun x => if x.2 then χ (x.1 + 1) - χ x.1 else 0)
def getT (T : Stp) (m : Int) : Option Bool := (T.find? fun x => decide (x.1 = m)).map (·.2)
def getJ (J : Jmp) (l : Int × Int) : Option Int := (J.find? fun x => decide (x.1 = l)).map (·.2)
def addJ (J : Jmp) (l : Int × Int) (d : Int) : Jmp := J.map fun x => if x.1 = l then (x.1, x.2 + d) else x
def setT (T : Stp) (m : Int) (b : Bool) : Stp := T.map fun x => if x.1 = m then (x.1, b) else x
theorem addJ_keys (J : Jmp) (l : Int × Int) (d : Int) : (addJ J l d).map (·.1) = J.map (·.1) := by
  unfold addJ
  rw [List.map_map]
  exact List.map_congr_left fun x _ => by simp only [Function.comp_apply]; split <;> rfl
theorem setT_keys (T : Stp) (m : Int) (b : Bool) : (setT T m b).map (·.1) = T.map (·.1) := by
  unfold setT
  rw [List.map_map]
  exact List.map_congr_left fun x _ => by simp only [Function.comp_apply]; split <;> rfl
theorem getJ_cons (x : (Int × Int) × Int) (J : Jmp) (l : Int × Int) : getJ (x :: J) l = if x.1 = l then some x.2 else getJ J l := by
  by_cases h : x.1 = l <;> simp [getJ, List.find?_cons, h]
theorem getT_cons (x : Int × Bool) (T : Stp) (m : Int) : getT (x :: T) m = if x.1 = m then some x.2 else getT T m := by
  by_cases h : x.1 = m <;> simp [getT, List.find?_cons, h]
theorem getJ_mem {l : Int × Int} {v : Int} : ∀ {J : Jmp}, getJ J l = some v → (l, v) ∈ J
  | [], h => by simp [getJ] at h
  | x :: J, h => by
    rw [getJ_cons] at h
    split at h
    · rename_i e; cases h; subst e; simp
    · exact List.mem_cons_of_mem _ (getJ_mem h)
theorem getT_mem {m : Int} {v : Bool} : ∀ {T : Stp}, getT T m = some v → (m, v) ∈ T
  | [], h => by simp [getT] at h
  | x :: T, h => by
    rw [getT_cons] at h
    split at h
    · rename_i e; cases h; subst e; simp
    · exact List.mem_cons_of_mem _ (getT_mem h)
theorem getJ_of {l : Int × Int} {v : Int} : ∀ {J : Jmp}, (J.map (·.1)).Nodup → (l, v) ∈ J → getJ J l = some v
  | [], _, h => by simp at h
  | x :: J, nd, h => by
    rw [List.map_cons, List.nodup_cons] at nd
    rw [getJ_cons]
    rcases List.mem_cons.mp h with e | m
    · subst e; simp
    · rw [if_neg, getJ_of nd.2 m]
      intro e
      exact nd.1 (e ▸ List.mem_map.mpr ⟨_, m, rfl⟩)
theorem getT_of {m : Int} {v : Bool} : ∀ {T : Stp}, (T.map (·.1)).Nodup → (m, v) ∈ T → getT T m = some v
  | [], _, h => by simp at h
  | x :: T, nd, h => by
    rw [List.map_cons, List.nodup_cons] at nd
    rw [getT_cons]
    rcases List.mem_cons.mp h with e | m
    · subst e; simp
    · rw [if_neg, getT_of nd.2 m]
      intro e
      exact nd.1 (e ▸ List.mem_map.mpr ⟨_, m, rfl⟩)
theorem getJ_none {l : Int × Int} : ∀ {J : Jmp}, l ∉ J.map (·.1) → getJ J l = none
  | [], _ => rfl
  | x :: J, h => by
    rw [List.map_cons, List.mem_cons, not_or] at h
    rw [getJ_cons, if_neg (fun e => h.1 e.symm), getJ_none h.2]
theorem getT_none {m : Int} : ∀ {T : Stp}, m ∉ T.map (·.1) → getT T m = none
  | [], _ => rfl
  | x :: T, h => by
    rw [List.map_cons, List.mem_cons, not_or] at h
    rw [getT_cons, if_neg (fun e => h.1 e.symm), getT_none h.2]
theorem getJ_key {l : Int × Int} : ∀ {J : Jmp}, l ∈ J.map (·.1) → ∃ v, getJ J l = some v
  | [], h => by simp at h
  | x :: J, h => by
    rw [getJ_cons]
    by_cases e : x.1 = l
    · exact ⟨_, if_pos e⟩
    · rw [if_neg e]
      rw [List.map_cons, List.mem_cons] at h
      exact getJ_key (h.resolve_left fun z => e z.symm)
theorem getT_key {m : Int} : ∀ {T : Stp}, m ∈ T.map (·.1) → ∃ v, getT T m = some v
  | [], h => by simp at h
  | x :: T, h => by
    rw [getT_cons]
    by_cases e : x.1 = m
    · exact ⟨_, if_pos e⟩
    · rw [if_neg e]
      rw [List.map_cons, List.mem_cons] at h
      exact getT_key (h.resolve_left fun z => e z.symm)
theorem getJ_add (J : Jmp) (l k : Int × Int) (d : Int) : getJ (addJ J l d) k = if k = l then (getJ J k).map (· + d) else getJ J k := by
  induction J with
  | nil => simp [getJ, addJ]
  | cons x J ih =>
    have e : addJ (x :: J) l d = (if x.1 = l then (x.1, x.2 + d) else x) :: addJ J l d := rfl
    rw [e, getJ_cons, ih, getJ_cons]
    by_cases h1 : x.1 = l
    · simp only [h1, if_true]
      by_cases h2 : l = k
      · subst h2; simp
      · have h3 : ¬ k = l := fun z => h2 z.symm
        simp [h2, h3]
    · simp only [h1, if_false]
      by_cases h2 : x.1 = k
      · have h3 : ¬ k = l := fun z => h1 (h2.trans z)
        simp [h2, h3]
      · simp [h2]
theorem getT_set (T : Stp) (m k : Int) (b : Bool) : getT (setT T m b) k = if k = m then (getT T k).map (fun _ => b) else getT T k := by
  induction T with
  | nil => simp [getT, setT]
  | cons x T ih =>
    have e : setT (x :: T) m b = (if x.1 = m then (x.1, b) else x) :: setT T m b := rfl
    rw [e, getT_cons, ih, getT_cons]
    by_cases h1 : x.1 = m
    · simp only [h1, if_true]
      by_cases h2 : m = k
      · subst h2; simp
      · have h3 : ¬ k = m := fun z => h2 z.symm
        simp [h2, h3]
    · simp only [h1, if_false]
      by_cases h2 : x.1 = k
      · have h3 : ¬ k = m := fun z => h1 (h2.trans z)
        simp [h2, h3]
      · simp [h2]
theorem jW_add (χ : Int → Int) (l : Int × Int) (d : Int) : ∀ (J : Jmp), (J.map (·.1)).Nodup → l ∈ J.map (·.1) → jW χ (addJ J l d) = jW χ J + d * (χ l.2 - χ l.1)
  | [], _, h => by simp at h
  | x :: J, nd, h => by
    rw [List.map_cons, List.nodup_cons] at nd
    have e : addJ (x :: J) l d = (if x.1 = l then (x.1, x.2 + d) else x) :: addJ J l d := rfl
    by_cases h1 : x.1 = l
    · have same : addJ J l d = J := by
        unfold addJ
        conv => rhs; rw [← List.map_id J]
        exact List.map_congr_left fun y hy => if_neg fun z => nd.1 (by rw [h1, ← z]; exact List.mem_map.mpr ⟨y, hy, rfl⟩)
      rw [e, if_pos h1, same]
      unfold jW
      simp only [List.map_cons, sumI_cons, h1]
      rw [Int.add_mul]
      omega
    · rw [List.map_cons, List.mem_cons] at h
      have ih := jW_add χ l d J nd.2 (h.resolve_left fun z => h1 z.symm)
      rw [e, if_neg h1]
      unfold jW at ih ⊢
      simp only [List.map_cons, sumI_cons]
      omega
theorem tW_set (χ : Int → Int) (m : Int) (b : Bool) : ∀ (T : Stp), (T.map (·.1)).Nodup → getT T m = some (!b) → tW χ (setT T m b) = tW χ T + (if b then χ (m + 1) - χ m else χ m - χ (m + 1))
  | [], _, h => by simp [getT] at h
  | x :: T, nd, h => by
    rw [List.map_cons, List.nodup_cons] at nd
    have e : setT (x :: T) m b = (if x.1 = m then (x.1, b) else x) :: setT T m b := rfl
    rw [getT_cons] at h
    by_cases h1 : x.1 = m
    · rw [if_pos h1] at h
      have hx : x.2 = !b := Option.some.inj h
      have same : setT T m b = T := by
        unfold setT
        conv => rhs; rw [← List.map_id T]
        exact List.map_congr_left fun y hy => if_neg fun z => nd.1 (by rw [h1, ← z]; exact List.mem_map.mpr ⟨y, hy, rfl⟩)
      rw [e, if_pos h1, same]
      unfold tW
      simp only [List.map_cons, sumI_cons, h1, hx]
      cases b <;> simp <;> omega
    · rw [if_neg h1] at h
      have ih := tW_set χ m b T nd.2 h
      rw [e, if_neg h1]
      unfold tW at ih ⊢
      simp only [List.map_cons, sumI_cons]
      omega
/-- the places to which one can come from a place -/
def ways (J : Jmp) (T : Stp) (p : Int) : List Int :=
  (J.filter fun x => decide (x.1.2 = p)).map (·.1.1) ++ (J.filter fun x => decide (x.1.1 = p) && decide (x.2 > 0)).map (·.1.2) ++ (if getT T (p - 1) = some false then [p - 1] else []) ++ (if getT T p = some true then [p + 1] else [])
theorem mem_ways {J : Jmp} {T : Stp} {p o : Int} : o ∈ ways J T p ↔ (∃ n, ((o, p), n) ∈ J) ∨ (∃ n, ((p, o), n) ∈ J ∧ n > 0) ∨ (o = p - 1 ∧ getT T (p - 1) = some false) ∨ (o = p + 1 ∧ getT T p = some true) := by
  unfold ways
  simp only [List.mem_append, List.mem_map, List.mem_filter, decide_eq_true_eq, Bool.and_eq_true]
  constructor
  · rintro (((⟨⟨⟨s, e⟩, n⟩, ⟨h1, h2⟩, h3⟩ | ⟨⟨⟨s, e⟩, n⟩, ⟨h1, h2, h3⟩, h4⟩) | h) | h)
    · simp only at h2 h3
      subst h2; subst h3
      exact .inl ⟨n, h1⟩
    · simp only at h2 h3 h4
      subst h2; subst h4
      exact .inr (.inl ⟨n, h1, h3⟩)
    · split at h
      · rename_i hg; simp at h; exact .inr (.inr (.inl ⟨h, hg⟩))
      · simp at h
    · split at h
      · rename_i hg; simp at h; exact .inr (.inr (.inr ⟨h, hg⟩))
      · simp at h
  · rintro (⟨n, h⟩ | ⟨n, h, hn⟩ | ⟨rfl, h⟩ | ⟨rfl, h⟩)
    · exact .inl (.inl (.inl ⟨_, ⟨h, rfl⟩, rfl⟩))
    · exact .inl (.inl (.inr ⟨_, ⟨h, rfl, hn⟩, rfl⟩))
    · exact .inl (.inr (by rw [if_pos h]; simp))
    · exact .inr (by rw [if_pos h]; simp)
/-- a move: down, or up again -/
def goJ (J : Jmp) (one other : Int) : Jmp := if other < one then addJ J (other, one) 1 else addJ J (one, other) (-1)
def goT (J : Jmp) (T : Stp) (one other : Int) : Stp := if other < one then (if (other, one) ∈ J.map (·.1) then T else setT T other true) else (if (one, other) ∈ J.map (·.1) then T else setT T one false)
/-- what is always so of a flow over a stretch -/
structure Fl0 (first last : Int) (J : Jmp) (T : Stp) : Prop where
  nj : (J.map (·.1)).Nodup
  nt : (T.map (·.1)).Nodup
  pos : ∀ x ∈ J, 0 ≤ x.2
  lk : ∀ x ∈ J, first ≤ x.1.1 ∧ x.1.1 < x.1.2 ∧ x.1.2 ≤ last
  st : ∀ m, m ∈ T.map (·.1) ↔ (first ≤ m ∧ m < last ∧ (m, m + 1) ∉ J.map (·.1))
theorem ways_in {first last : Int} {J : Jmp} {T : Stp} (h : Fl0 first last J T) {p o : Int} (ho : o ∈ ways J T p) : first ≤ o ∧ o ≤ last ∧ first ≤ p ∧ p ≤ last := by
  rcases mem_ways.mp ho with ⟨n, m⟩ | ⟨n, m, _⟩ | ⟨rfl, m⟩ | ⟨rfl, m⟩
  · have := h.lk _ m; simp at this; omega
  · have := h.lk _ m; simp at this; omega
  · have := (h.st (p - 1)).mp (List.mem_map.mpr ⟨_, getT_mem m, rfl⟩); omega
  · have := (h.st p).mp (List.mem_map.mpr ⟨_, getT_mem m, rfl⟩); omega
/-- places found one after the other, each by a way from one that was there -/
inductive Chain (J : Jmp) (T : Stp) (last : Int) : List (Int × Int) → Prop
  | base : Chain J T last [(last, last)]
  | snoc {ks : List (Int × Int)} {p q : Int} : Chain J T last ks → q ∈ ks.map (·.1) → p ∉ ks.map (·.1) → p ∈ ways J T q → Chain J T last (ks ++ [(p, q)])
theorem Chain.nodup {J : Jmp} {T : Stp} {last : Int} {ks : List (Int × Int)} (h : Chain J T last ks) : (ks.map (·.1)).Nodup := by
  induction h with
  | base => simp
  | snoc _ _ hp _ ih =>
    rw [List.map_append, List.nodup_append]
    refine ⟨ih, by simp, fun a ha b hb => ?_⟩
    simp at hb
    subst hb
    exact fun z => hp (z ▸ ha)
theorem Chain.last_in {J : Jmp} {T : Stp} {last : Int} {ks : List (Int × Int)} (h : Chain J T last ks) : last ∈ ks.map (·.1) := by
  induction h with
  | base => simp
  | snoc _ _ _ _ ih => rw [List.map_append]; exact List.mem_append_left _ ih
theorem Chain.within {first last : Int} {J : Jmp} {T : Stp} (hf : Fl0 first last J T) (hl : first < last) {ks : List (Int × Int)} (h : Chain J T last ks) : ∀ p ∈ ks.map (·.1), first ≤ p ∧ p ≤ last := by
  induction h with
  | base => intro p hp; simp at hp; omega
  | snoc _ _ _ hw ih =>
    intro p hp
    rw [List.map_append, List.mem_append] at hp
    rcases hp with hp | hp
    · exact ih p hp
    · simp at hp
      subst hp
      have := ways_in hf hw
      omega
/-- the end of a chain cut off -/
theorem Chain.cut {J : Jmp} {T : Stp} {last : Int} {ks : List (Int × Int)} (h : Chain J T last ks) : ∀ {pre suf : List (Int × Int)} {p q : Int}, ks = pre ++ (p, q) :: suf → p ≠ last → Chain J T last pre ∧ q ∈ pre.map (·.1) ∧ p ∉ pre.map (·.1) ∧ p ∈ ways J T q := by
  induction h with
  | base =>
    intro pre suf p q e hp
    cases pre with
    | nil => simp at e; exact absurd e.1.1.symm hp
    | cons a pre => simp at e
  | @snoc ks p0 q0 hc hq hp0 hw ih =>
    intro pre suf p q e hp
    rcases List.eq_nil_or_concat suf with rfl | ⟨suf', x, rfl⟩
    · have := List.append_inj' e rfl
      obtain ⟨rfl, e2⟩ := this
      simp at e2
      obtain ⟨rfl, rfl⟩ := e2
      exact ⟨hc, hq, hp0, hw⟩
    · have e' : ks ++ [(p0, q0)] = (pre ++ (p, q) :: suf') ++ [x] := by rw [e]; simp [List.concat_eq_append]
      exact ih (List.append_inj' e' rfl).1 hp
theorem addJ_none {J : Jmp} {l : Int × Int} {d : Int} (h : l ∉ J.map (·.1)) : addJ J l d = J := by
  unfold addJ
  conv => rhs; rw [← List.map_id J]
  exact List.map_congr_left fun y hy => if_neg fun z : y.1 = l => h (by rw [← z]; exact List.mem_map.mpr ⟨y, hy, rfl⟩)
theorem goJ_keys (J : Jmp) (a b : Int) : (goJ J a b).map (·.1) = J.map (·.1) := by
  unfold goJ; split <;> exact addJ_keys _ _ _
theorem goT_keys (J : Jmp) (T : Stp) (a b : Int) : (goT J T a b).map (·.1) = T.map (·.1) := by
  unfold goT
  split <;> split <;> first | rfl | exact setT_keys _ _ _
structure Agree (J : Jmp) (T : Stp) (J' : Jmp) (T' : Stp) (P : Int → Prop) : Prop where
  kj : J'.map (·.1) = J.map (·.1)
  kt : T'.map (·.1) = T.map (·.1)
  gj : ∀ l : Int × Int, P l.1 → P l.2 → getJ J' l = getJ J l
  gt : ∀ m, P m → P (m + 1) → getT T' m = getT T m
theorem step_ok {first last : Int} {J J' : Jmp} {T T' : Stp} {P : Int → Prop} {p q : Int} (h : Fl0 first last J T) (h' : Fl0 first last J' T') (ag : Agree J T J' T' fun x => x = p ∨ P x) (hq : P q) (hp : ¬ P p) (hw : p ∈ ways J T q) :
    Fl0 first last (goJ J' q p) (goT J' T' q p) ∧ Agree J T (goJ J' q p) (goT J' T' q p) P ∧ (∀ χ, jW χ (goJ J' q p) + tW χ (goT J' T' q p) = jW χ J' + tW χ T' + (χ q - χ p)) ∧ (p < q ∧ ((p, q) ∈ J'.map (·.1) ∨ getT T' p = some false) ∨ ¬ p < q ∧ ((q, p) ∈ J'.map (·.1) ∨ getT T' q = some true ∧ p = q + 1)) := by
  have hin := ways_in h hw
  -- which of the four
  have four : (p < q ∧ (p, q) ∈ J'.map (·.1)) ∨ (¬ p < q ∧ (q, p) ∈ J'.map (·.1) ∧ ∃ n, getJ J' (q, p) = some n ∧ n > 0) ∨ (p < q ∧ (p, q) ∉ J'.map (·.1) ∧ q = p + 1 ∧ getT T' p = some false) ∨ (¬ p < q ∧ (q, p) ∉ J'.map (·.1) ∧ p = q + 1 ∧ getT T' q = some true) := by
    rcases mem_ways.mp hw with ⟨n, m⟩ | ⟨n, m, hn⟩ | ⟨rfl, m⟩ | ⟨rfl, m⟩
    · have := h.lk _ m
      simp at this
      exact .inl ⟨by omega, by rw [ag.kj]; exact List.mem_map.mpr ⟨_, m, rfl⟩⟩
    · have := h.lk _ m
      simp at this
      refine .inr (.inl ⟨by omega, by rw [ag.kj]; exact List.mem_map.mpr ⟨_, m, rfl⟩, n, ?_, hn⟩)
      rw [ag.gj (q, p) (.inr hq) (.inl rfl)]
      exact getJ_of h.nj m
    · have k := (h.st (q - 1)).mp (List.mem_map.mpr ⟨_, getT_mem m, rfl⟩)
      rw [show q - 1 + 1 = q by omega] at k
      refine .inr (.inr (.inl ⟨by omega, by rw [ag.kj]; exact k.2.2, by omega, ?_⟩))
      rw [ag.gt (q - 1) (.inl rfl) (.inr (by rw [show q - 1 + 1 = q by omega]; exact hq))]
      exact m
    · have k := (h.st q).mp (List.mem_map.mpr ⟨_, getT_mem m, rfl⟩)
      refine .inr (.inr (.inr ⟨by omega, by rw [ag.kj]; exact k.2.2, rfl, ?_⟩))
      rw [ag.gt q (.inr hq) (.inl rfl)]
      exact m
  have keepJ : ∀ l : Int × Int, l = (p, q) ∨ l = (q, p) → ∀ d k, P k.1 → P k.2 → getJ (addJ J' l d) k = getJ J k := fun l hl d k h1 h2 => by
    rw [getJ_add, if_neg, ag.gj k (.inr h1) (.inr h2)]
    intro e
    subst e
    rcases hl with e | e
    · exact hp (by rw [e] at h1; exact h1)
    · exact hp (by rw [e] at h2; exact h2)
  have fl : ∀ J2 T2, J2.map (·.1) = J'.map (·.1) → T2.map (·.1) = T'.map (·.1) → (∀ x ∈ J2, 0 ≤ x.2) → Fl0 first last J2 T2 := fun J2 T2 e1 e2 hpos =>
    ⟨by rw [e1]; exact h'.nj, by rw [e2]; exact h'.nt, hpos, fun x hx => by
      have : x.1 ∈ J'.map (·.1) := by rw [← e1]; exact List.mem_map.mpr ⟨x, hx, rfl⟩
      obtain ⟨y, hy, e⟩ := List.mem_map.mp this
      rw [← e]; exact h'.lk y hy, fun m => by rw [e1, e2]; exact h'.st m⟩
  rcases four with ⟨hlt, hk⟩ | ⟨hlt, hk, n, hn, hn0⟩ | ⟨hlt, hk, rfl, ht⟩ | ⟨hlt, hk, rfl, ht⟩
  · have e1 : goJ J' q p = addJ J' (p, q) 1 := by unfold goJ; rw [if_pos hlt]
    have e2 : goT J' T' q p = T' := by unfold goT; rw [if_pos hlt, if_pos hk]
    rw [e1, e2]
    refine ⟨fl _ _ (addJ_keys _ _ _) rfl fun x hx => ?_, ⟨by rw [addJ_keys]; exact ag.kj, ag.kt, keepJ _ (.inl rfl) 1, fun m a b => ag.gt m (.inr a) (.inr b)⟩, fun χ => ?_, .inl ⟨hlt, .inl hk⟩⟩
    · obtain ⟨y, hy, e⟩ := List.mem_map.mp hx
      have := h'.pos y hy
      subst e
      split <;> simp <;> omega
    · rw [jW_add χ (p, q) 1 J' h'.nj hk]; simp; omega
  · have e1 : goJ J' q p = addJ J' (q, p) (-1) := by unfold goJ; rw [if_neg hlt]
    have e2 : goT J' T' q p = T' := by unfold goT; rw [if_neg hlt, if_pos hk]
    rw [e1, e2]
    refine ⟨fl _ _ (addJ_keys _ _ _) rfl fun x hx => ?_, ⟨by rw [addJ_keys]; exact ag.kj, ag.kt, keepJ _ (.inr rfl) (-1), fun m a b => ag.gt m (.inr a) (.inr b)⟩, fun χ => ?_, .inr ⟨hlt, .inl hk⟩⟩
    · obtain ⟨y, hy, e⟩ := List.mem_map.mp hx
      have h0 := h'.pos y hy
      subst e
      split
      · rename_i ey
        have : getJ J' (q, p) = some y.2 := by rw [← ey]; exact getJ_of h'.nj hy
        rw [hn] at this
        cases this
        simp; omega
      · exact h0
    · rw [jW_add χ (q, p) (-1) J' h'.nj hk]; simp; omega
  · have e1 : goJ J' (p + 1) p = J' := by unfold goJ; rw [if_pos hlt]; exact addJ_none hk
    have e2 : goT J' T' (p + 1) p = setT T' p true := by unfold goT; rw [if_pos hlt, if_neg hk]
    rw [e1, e2]
    refine ⟨fl _ _ rfl (setT_keys _ _ _) h'.pos, ⟨ag.kj, by rw [setT_keys]; exact ag.kt, fun l a b => ag.gj l (.inr a) (.inr b), fun m a b => ?_⟩, fun χ => ?_, .inl ⟨hlt, .inr ht⟩⟩
    · rw [getT_set, if_neg (fun e : m = p => hp (by rw [← e]; exact a))]; exact ag.gt m (.inr a) (.inr b)
    · rw [tW_set χ p true T' h'.nt ht]; simp; omega
  · have e1 : goJ J' q (q + 1) = J' := by unfold goJ; rw [if_neg hlt]; exact addJ_none hk
    have e2 : goT J' T' q (q + 1) = setT T' q false := by unfold goT; rw [if_neg hlt, if_neg hk]
    rw [e1, e2]
    refine ⟨fl _ _ rfl (setT_keys _ _ _) h'.pos, ⟨ag.kj, by rw [setT_keys]; exact ag.kt, fun l a b => ag.gj l (.inr a) (.inr b), fun m a b => ?_⟩, fun χ => ?_, .inr ⟨hlt, .inr ⟨ht, rfl⟩⟩⟩
    · rw [getT_set, if_neg (fun e : m = q => hp (by rw [← e]; exact b))]; exact ag.gt m (.inr a) (.inr b)
    · rw [tW_set χ q false T' h'.nt ht]; simp; omega
/-- a flow of so many walks -/
structure FlowOk (first last : Int) (J : Jmp) (T : Stp) (many : Int) : Prop where
  f0 : Fl0 first last J T
  eq : ∀ χ : Int → Int, jW χ J + tW χ T = many * (χ last - χ first)
/-- rises of places in a stretch -/
def riseB (P : Int → Bool) (m : Int) : Bool := !P m && P (m + 1)
def risesN (P : Int → Bool) (first last : Int) : Nat := (((List.range (last - first).toNat).map fun (i : Nat) => first + (i : Int)).filter (riseB P)).length
def chi (P : Int → Bool) (v : Int) : Int := if P v then 1 else 0
/-- the minutes of a stretch -/
def mins (first last : Int) : List Int := (List.range (last - first).toNat).map fun (i : Nat) => first + (i : Int)
theorem mem_mins {first last m : Int} : m ∈ mins first last ↔ first ≤ m ∧ m < last := by
  unfold mins
  simp only [List.mem_map, List.mem_range]
  constructor
  · rintro ⟨i, hi, rfl⟩; omega
  · rintro ⟨a, b⟩; exact ⟨(m - first).toNat, by omega, by omega⟩
theorem mins_nodup (first last : Int) : (mins first last).Nodup := by
  unfold mins
  unfold List.Nodup
  rw [List.pairwise_map]
  exact List.nodup_range.imp fun h e => h (by omega)
theorem sum_count {P : Int → Bool} (xs : List Int) : sumI (xs.map fun m => if P m then (1 : Int) else 0) = ((xs.filter P).length : Nat) := by
  induction xs with
  | nil => rfl
  | cons x xs ih =>
    simp only [List.map_cons, sumI_cons, ih, List.filter_cons]
    split <;> simp <;> omega
theorem nodup_le {xs ys : List Int} (nd : xs.Nodup) (h : ∀ x ∈ xs, x ∈ ys) : xs.length ≤ ys.length := List.Nodup.length_le_of_subset nd h
theorem closed_ge {first last many : Int} {J : Jmp} {T : Stp} (h : FlowOk first last J T many) {P : Int → Bool} (hc : ∀ x ∈ J, P x.1.2 = true → P x.1.1 = true) (h1 : P last = true) (h2 : P first = false) : many ≤ (risesN P first last : Nat) := by
  have e := h.eq (chi P)
  have ca : chi P last - chi P first = 1 := by simp [chi, h1, h2]
  rw [ca, Int.mul_one] at e
  have hj : jW (chi P) J ≤ 0 := by
    have : jW (chi P) J ≤ sumI (J.map fun _ => (0 : Int)) := sumI_le fun x hx => by
      have p := h.f0.pos x hx
      have c := hc x hx
      unfold chi
      cases a : P x.1.2 <;> cases b : P x.1.1 <;> simp <;> try omega
      · exact absurd (c a) (by rw [b]; simp)
    rw [sumI_zero (fun _ _ => rfl)] at this
    exact this
  have ht : tW (chi P) T ≤ sumI (T.map fun x => if riseB P x.1 then (1 : Int) else 0) := sumI_le fun x hx => by
    unfold chi riseB
    cases x.2 <;> cases a : P x.1 <;> cases b : P (x.1 + 1) <;> simp
  have hs : sumI (T.map fun x => if riseB P x.1 then (1 : Int) else 0) = sumI ((T.map (·.1)).map fun m => if riseB P m then (1 : Int) else 0) := by rw [List.map_map]; rfl
  rw [hs, sum_count] at ht
  have hl : ((T.map (·.1)).filter (riseB P)).length ≤ ((mins first last).filter (riseB P)).length := nodup_le (h.f0.nt.filter _) fun m hm => by
    rw [List.mem_filter] at hm ⊢
    have := (h.f0.st m).mp hm.1
    exact ⟨mem_mins.mpr ⟨this.1, this.2.1⟩, hm.2⟩
  have : risesN P first last = ((mins first last).filter (riseB P)).length := rfl
  omega
/-- places from which no way leads out: as many rises as walks -/
theorem closed_eq {first last many : Int} {J : Jmp} {T : Stp} (h : FlowOk first last J T many) {P : Int → Bool} (hc : ∀ p, P p = true → ∀ o ∈ ways J T p, P o = true) (h1 : P last = true) (h2 : P first = false) : (∀ x ∈ J, P x.1.2 = true → P x.1.1 = true) ∧ many = (risesN P first last : Nat) := by
  have cl : ∀ x ∈ J, P x.1.2 = true → P x.1.1 = true := fun x hx hp => hc _ hp _ (mem_ways.mpr (.inl ⟨x.2, hx⟩))
  refine ⟨cl, ?_⟩
  have e := h.eq (chi P)
  have ca : chi P last - chi P first = 1 := by simp [chi, h1, h2]
  rw [ca, Int.mul_one] at e
  have hj : jW (chi P) J = 0 := sumI_zero fun x hx => by
    have c := cl x hx
    unfold chi
    cases a : P x.1.2 <;> cases b : P x.1.1 <;> simp
    · have hn : ¬ x.2 > 0 := fun z => by
        have := hc _ b _ (mem_ways.mpr (.inr (.inl ⟨x.2, hx, z⟩)))
        rw [a] at this; cases this
      have := h.f0.pos x hx
      omega
    · exact absurd (c a) (by rw [b]; simp)
  have ht : tW (chi P) T = sumI (T.map fun x => if riseB P x.1 then (1 : Int) else 0) := sumI_congr fun x hx => by
    have g : getT T x.1 = some x.2 := getT_of h.f0.nt hx
    unfold chi riseB
    cases hb : x.2 <;> cases a : P x.1 <;> cases b : P (x.1 + 1) <;> simp
    · have := hc _ b x.1 (mem_ways.mpr (.inr (.inr (.inl ⟨by omega, by rw [show x.1 + 1 - 1 = x.1 by omega, g, hb]⟩))))
      rw [a] at this; cases this
    · have := hc _ a (x.1 + 1) (mem_ways.mpr (.inr (.inr (.inr ⟨rfl, by rw [g, hb]⟩))))
      rw [b] at this; cases this
  have hs : sumI (T.map fun x => if riseB P x.1 then (1 : Int) else 0) = sumI ((T.map (·.1)).map fun m => if riseB P m then (1 : Int) else 0) := by rw [List.map_map]; rfl
  rw [hs, sum_count] at ht
  have l1 : ((T.map (·.1)).filter (riseB P)).length ≤ ((mins first last).filter (riseB P)).length := nodup_le (h.f0.nt.filter _) fun m hm => by
    rw [List.mem_filter] at hm ⊢
    have := (h.f0.st m).mp hm.1
    exact ⟨mem_mins.mpr ⟨this.1, this.2.1⟩, hm.2⟩
  have l2 : ((mins first last).filter (riseB P)).length ≤ ((T.map (·.1)).filter (riseB P)).length := nodup_le ((mins_nodup _ _).filter _) fun m hm => by
    rw [List.mem_filter] at hm ⊢
    have hm1 := mem_mins.mp hm.1
    refine ⟨(h.f0.st m).mpr ⟨hm1.1, hm1.2, fun hk => ?_⟩, hm.2⟩
    obtain ⟨y, hy, ey⟩ := List.mem_map.mp hk
    have r := hm.2
    unfold riseB at r
    simp only [Bool.and_eq_true, Bool.not_eq_true'] at r
    have := cl y hy (by rw [ey]; exact r.2)
    rw [ey] at this
    simp only at this
    rw [r.1] at this; cases this
  have : risesN P first last = ((mins first last).filter (riseB P)).length := rfl
  omega
/-- the same with tuples in the place of lists -/
def tuD : Nat → D → D
  | n + 1, .tup xs => .tup (xs.map (tuD n))
  | n + 1, .lst xs => .tup (xs.map (tuD n))
  | _, d => d
theorem tupled_ok : ∀ (k n : Nat) (d : D) (S : Store), okD n d = true → n < k → f_p_tupled k [d] S = .ok (tuD n d) S
  | 0, n, d, S, _, hk => absurd hk (by omega)
  | k + 1, n, d, S, h, hk => by
    have seq : ∀ (m : Nat) (xs : List D), (∀ x ∈ xs, okD m x = true) → m < k → ∀ ρ : Q.Env, 1 < ρ.length → ∀ S, lcL (mgN 1) mYes (mCall (fPure (f_p_tupled k)) (mCons (mVar 1) mNil)) ρ xs S = .ok (xs.map (tuD m)) S := fun m xs hx hm ρ hρ S => by
      refine lcL_map (f := tuD m) xs S fun x hxm => ⟨_, rfl, ?_⟩
      have p := okD_pure _ _ (hx x hxm)
      have e : (ρ.set 1 (some x))[1]? = some (some x) := List.getElem?_set_self hρ
      simp only [ap_call, ap_cons, ap_var, e, varK_some, bind_ok, consK_ap, ap_nil, consK2_ap]
      exact fPure_ap S (by simp [p]) (tupled_ok k m x [] (hx x hxm) hm)
    cases d with
    | non => simp [f_p_tupled, fnM, m_p_tupled, isTy]; cases n <;> rfl
    | bl b => simp [f_p_tupled, fnM, m_p_tupled, isTy]; cases n <;> rfl
    | int b => simp [f_p_tupled, fnM, m_p_tupled, isTy]; cases n <;> rfl
    | str b => simp [f_p_tupled, fnM, m_p_tupled, isTy]; cases n <;> rfl
    | tup xs =>
      cases n with
      | zero => simp [okD] at h
      | succ n =>
        rw [okD_tup, Bool.and_eq_true, decide_eq_true_eq] at h
        have hs := fun ρ hρ S => seq n xs (fun x hx => List.all_eq_true.mp h.2 x hx) (by omega) ρ hρ S
        simp [f_p_tupled, fnM, m_p_tupled, isTy, h.1, hs, tuD]
    | lst xs =>
      cases n with
      | zero => simp [okD] at h
      | succ n =>
        rw [okD_lst, Bool.and_eq_true, decide_eq_true_eq] at h
        have hs := fun ρ hρ S => seq n xs (fun x hx => List.all_eq_true.mp h.2 x hx) (by omega) ρ hρ S
        simp [f_p_tupled, fnM, m_p_tupled, isTy, h.1, hs, tuD]
    | fro xs => cases n <;> simp [okD] at h
    | obj c xs => cases n <;> simp [okD] at h
    | exn c xs => cases n <;> simp [okD] at h
    | ref j => cases n <;> simp [okD] at h
theorem tupledP {d : D} {n : Nat} (S : Store) (h : okD n d = true) (hn : n < 30) : fPure (f_p_tupled 30) [d] S = .ok (tuD n d) S := fPure_ap S (by simp [okD_pure n d h]) (tupled_ok 30 n d [] h hn)
inductive Til (ps : List (Int × Int)) (k : Int) : Int → Prop
  | here : Til ps k k
  | look {p : Int × Int} (h : p ∈ ps) (t : Til ps k p.2) : Til ps k p.1
section
variable {ps qs : List (Int × Int)} {k x m : Int}
theorem Til.trans (h : Til ps k m) (t : Til ps m x) : Til ps k x := by
  induction t with
  | here => exact h
  | look hp _ ih => exact Til.look hp ih
theorem Til.one {p : Int × Int} (h : p ∈ ps) : Til ps p.2 p.1 := Til.look h Til.here
theorem Til.le (hlt : ∀ p ∈ ps, p.1 < p.2) (t : Til ps k x) : x ≤ k := by
  induction t with
  | here => exact Int.le_refl _
  | look hp _ ih => have := hlt _ hp; omega
theorem til_map_in {f : Int → Int} (hlt : ∀ p ∈ ps, p.1 < p.2) (t : Til ps k x) (h : ∀ q ∈ ps, x ≤ q.1 → q.2 ≤ k → Til qs (f q.2) (f q.1)) : Til qs (f k) (f x) := by
  induction t with
  | here => exact Til.here
  | @look p hp t ih =>
    have l := hlt p hp
    exact (ih fun q hq h1 h2 => h q hq (by omega) h2).trans (h p hp (Int.le_refl _) (t.le hlt))
/-- a tiling's last look -/
theorem til_last (t : Til ps k x) (h : x ≠ k) : ∃ q ∈ ps, q.2 = k ∧ Til ps q.1 x := by
  induction t with
  | here => exact absurd rfl h
  | @look p hp t ih =>
    by_cases e : p.2 = k
    · exact ⟨p, hp, e, Til.here⟩
    · obtain ⟨q, hq, h1, h2⟩ := ih e
      exact ⟨q, hq, h1, Til.look hp h2⟩
end
/-- the looks within a stretch -/
def inB (s e : Int) (p : Int × Int) : Bool := decide (s ≤ p.1) && decide (p.2 ≤ e)
def inL (s e : Int) (ps : List (Int × Int)) : List (Int × Int) := ps.filter (inB s e)
def spD (s e : Int) : D := .tup [.int s, .int e]
theorem mem_inL {s e : Int} {ps : List (Int × Int)} {p : Int × Int} : p ∈ inL s e ps ↔ p ∈ ps ∧ s ≤ p.1 ∧ p.2 ≤ e := by
  unfold inL inB
  rw [List.mem_filter, Bool.and_eq_true, decide_eq_true_eq, decide_eq_true_eq]
theorem book_okD {many a b : Int} {ps : List (Int × Int)} (hl : ps.length ≤ 100000) : okD 5 (bookD many a b ps) = true := by
  unfold bookD looksD
  have : (ps.map pairD).all (okD 3) = true := List.all_eq_true.mpr fun d hd => by
    obtain ⟨p, _, rfl⟩ := List.mem_map.mp hd
    rfl
  simp [okD_tup, hl]
  exact fun _ _ _ => rfl
theorem tuD_book {many a b : Int} {ps : List (Int × Int)} : tuD 5 (bookD many a b ps) = bookD many a b ps := by
  unfold bookD looksD
  have : (ps.map pairD).map (tuD 3) = ps.map pairD := by
    rw [List.map_map]
    exact List.map_congr_left fun p _ => rfl
  simp [tuD]
  exact fun _ _ _ => rfl
theorem book_tup {many a b : Int} {ps : List (Int × Int)} (S : Store) (hl : ps.length ≤ 100000) : fPure (f_p_tupled 30) [bookD many a b ps] S = .ok (bookD many a b ps) S := by
  rw [tupledP S (book_okD hl) (by omega), tuD_book]
theorem str_tup {s e : Int} (S : Store) : fPure (f_p_tupled 30) [spD s e] S = .ok (spD s e) S := by
  rw [tupledP (n := 2) S rfl (by omega)]
  rfl
/-- what tupled() makes a book of: the book itself, or its lists -/
structure IsBook (B : D) (many a b : Int) (ps : List (Int × Int)) : Prop where
  tup : ∀ S, fPure (f_p_tupled 30) [B] S = .ok (bookD many a b ps) S
  pure : pureD B = true
/-- what tupled() makes a STRETCH of -/
structure IsSp (T : D) (s e : Int) : Prop where
  tup : ∀ S, fPure (f_p_tupled 30) [T] S = .ok (spD s e) S
  pure : pureD T = true
theorem isBook {many a b : Int} {ps : List (Int × Int)} (hl : ps.length ≤ 100000) : IsBook (bookD many a b ps) many a b ps := ⟨fun S => book_tup S hl, okD_pure _ _ (book_okD hl)⟩
theorem isSp (s e : Int) : IsSp (spD s e) s e := ⟨fun S => str_tup S, rfl⟩
theorem within_ok {B : D} {many a b s e : Int} {ps : List (Int × Int)} {S : Store} (hB : IsBook B many a b ps) (hl : ps.length ≤ 100000) : f_p_looks_within [B, spD s e] S = .ok (.lst ((inL s e ps).map pairD)) S := by
  have h := fun (S : Store) (v2 v3 v4 : Option D) (d0 d1 : D) => lcL_filtermap (u := pairD) (w := pairD) (q := inB s e) (g := mgN 7) (t := mAndT (mTB (mOp opLe (mVar 5) (mOp opIx (mVar 7) (mC (.int 0))))) (mTB (mOp opLe (mOp opIx (mVar 7) (mC (.int 1))) (mVar 6)))) (m := mVar 7) (ρ := [some d0, some d1, v2, v3, v4, some (.int s), some (.int e), none]) ps S fun p _ => ⟨_, rfl, by
    by_cases h : s ≤ p.1 <;> simp [pairD, h, inB], by simp⟩
  have hf : (inL s e ps).length ≤ 100000 := Nat.le_trans (List.length_filter_le _ _) hl
  unfold f_p_looks_within m_p_looks_within
  rw [fnM_2]
  have t := hB.tup
  unfold bookD looksD at *
  unfold spD
  simp [t, h, hl]
  rfl
theorem withinP {B : D} {many a b s e : Int} {ps : List (Int × Int)} {S : Store} (hB : IsBook B many a b ps) (hl : ps.length ≤ 100000) : fPure f_p_looks_within [B, spD s e] S = .ok (.lst ((inL s e ps).map pairD)) S := fPure_ap S (by
  have := hB.pure
  simp only [pureL_cons, this, pureL_nil]
  rfl) (within_ok hB hl)
/-! ### places, rises, falls -/
def placesD (P : List Int) : D := .tup (P.map .int)
theorem inD_ints {P : List Int} {m : Int} : inD (P.map .int) (.int m) = decide (m ∈ P) := by
  induction P with
  | nil => simp [inD]
  | cons x P ih =>
    have e : inD ((x :: P).map D.int) (.int m) = (deq (.int x) (.int m) || inD (P.map .int) (.int m)) := by simp [inD]
    rw [e, ih]
    show ((x == m) || decide (m ∈ P)) = _
    by_cases h : m = x
    · subst h; simp
    · have h' : ¬ x = m := fun z => h z.symm
      simp [h, h']
theorem shal_places (P : List Int) : shal 20 (placesD P) = true := by
  unfold placesD
  show (P.map D.int).all (shal 19) = true
  exact shal_map (fun _ => shal_int _ _) P
theorem in_places {P : List Int} {m : Int} {S : Store} : opIn (.int m) (placesD P) S = .ok (.bl (decide (m ∈ P))) S := by
  rw [placesD, in_tup (shal_int _ _) (shal_places P), inD_ints]
theorem nin_places {P : List Int} {m : Int} {S : Store} : opNin (.int m) (placesD P) S = .ok (.bl (!decide (m ∈ P))) S := by
  rw [placesD, nin_tup (shal_int _ _) (shal_places P), inD_ints]
theorem in_ints {P : List Int} {m : Int} {S : Store} : opIn (.int m) (.lst (P.map .int)) S = .ok (.bl (decide (m ∈ P))) S := by
  rw [in_lst (shal_int _ _) (shal_ints P), inD_ints]
theorem nin_ints {P : List Int} {m : Int} {S : Store} : opNin (.int m) (.lst (P.map .int)) S = .ok (.bl (!decide (m ∈ P))) S := by
  rw [nin_lst (shal_int _ _) (shal_ints P), inD_ints]
def isRise (P : List Int) (m : Int) : Bool := decide (m + 1 ∈ P) && !decide (m ∈ P)
def isFall (P : List Int) (m : Int) : Bool := decide (m ∈ P) && !decide (m + 1 ∈ P)
def minutes (n : Nat) : List Int := (List.range n).map fun (i : Nat) => (i : Int)
theorem rangeD_minutes (n : Nat) : rangeD 0 n = (minutes n).map .int := by
  unfold rangeD minutes
  rw [List.map_map]
  refine List.map_congr_left fun i _ => ?_
  simp
theorem mem_minutes {n : Nat} {m : Int} : m ∈ minutes n ↔ 0 ≤ m ∧ m < n := by
  unfold minutes
  rw [List.mem_map]
  constructor
  · rintro ⟨i, hi, rfl⟩
    have := List.mem_range.mp hi
    omega
  · intro h
    exact ⟨m.toNat, List.mem_range.mpr (by omega), by omega⟩
theorem lcL_filterx {u : Int → D} {q : Int → Bool} {g : MG} {t : MT} {m : ME} {ρ : Q.Env} : ∀ (xs : List Int) (S : Store), (∀ x ∈ xs, ∃ ρ1, g (u x) ρ S = .ok ρ1 S ∧ t ρ1 S = .ok (q x) S ∧ m ρ1 S = .ok (u x) S) → lcL g t m ρ (xs.map u) S = .ok ((xs.filter q).map u) S
  | [], S, _ => rfl
  | x :: xs, S, h => by
    obtain ⟨ρ1, h1, h2, h3⟩ := h x (by simp)
    have ih := lcL_filterx xs S fun y hy => h y (by simp [hy])
    rw [List.map_cons]
    unfold lcL
    rw [h1]
    simp only [bind_ok]
    rw [h2]
    simp only [bind_ok]
    cases e : q x with
    | true =>
      simp only [e, if_true, h3, bind_ok, ih, List.filter_cons]
      rfl
    | false =>
      simp only [e, ih, List.filter_cons]
      rfl
/-! ### walks, plain (parts of v_walk2, v_walks2, v_flowof; for laws without Flow) -/
def prs (L : List Int) : List (Int × Int) := L.zip L.tail
theorem prs_snoc (M : List Int) (p q : Int) : prs (M ++ [p] ++ [q]) = prs (M ++ [p]) ++ [(p, q)] := by
  induction M with
  | nil => rfl
  | cons a M ih =>
    cases M with
    | nil => rfl
    | cons b M =>
      show (a, b) :: prs (b :: (M ++ [p]) ++ [q]) = (a, b) :: (prs (b :: (M ++ [p])) ++ [(p, q)])
      exact congrArg _ ih
def stp (K : List (Int × Int)) (L : List Int) : List Int := ((prs L).filter fun x => !decide ((x.2, x.1) ∈ K)).map (·.2)
theorem stp_snoc (K : List (Int × Int)) (M : List Int) (p q : Int) : stp K (M ++ [p] ++ [q]) = stp K (M ++ [p]) ++ (if (q, p) ∈ K then [] else [q]) := by
  unfold stp
  rw [prs_snoc, List.filter_append, List.map_append]
  congr 1
  by_cases h : (q, p) ∈ K <;> simp [h]
structure WayOk (K : List (Int × Int)) (p q : Int) (L : List Int) : Prop where
  hd : ∃ M, L = p :: M
  lt : ∃ M, L = M ++ [q]
  pr : ∀ x ∈ prs L, (x.2, x.1) ∈ K ∨ x.2 = x.1 - 1
theorem WayOk.step {K : List (Int × Int)} {p q r : Int} {M : List Int} (h : WayOk K p q (M ++ [q])) (hr : (r, q) ∈ K ∨ r = q - 1) : WayOk K p r (M ++ [q] ++ [r]) := by
  obtain ⟨M', e⟩ := h.hd
  refine ⟨⟨M' ++ [r], by rw [e]; rfl⟩, ⟨_, rfl⟩, fun x hx => ?_⟩
  rw [prs_snoc] at hx
  rcases List.mem_append.mp hx with m | m
  · exact h.pr x m
  · simp at m
    subst m
    exact hr
def wayD (L : List Int) : D := .tup (L.map .int)
structure LaneOk (K : List (Int × Int)) (s e : Int) (L : List Int) : Prop where
  way : WayOk K e s L
  len : L.length ≤ 1000
  ins : ∀ x ∈ L, s ≤ x ∧ x ≤ e
theorem pure_ways (Ls : List (List Int)) : pureL (Ls.map wayD) = true := pureL_all.mpr fun d hd => by
  obtain ⟨L, _, rfl⟩ := List.mem_map.mp hd
  exact pure_ints L
theorem pure_str {s e : Int} : pureD (spD s e) = true := rfl
/-! ### the law's own look at walks -/
section
variable {S : Store}
theorem inD_pairs {xs : List (Int × Int)} {p : Int × Int} : inD (xs.map pairD) (pairD p) = decide (p ∈ xs) := by
  induction xs with
  | nil => simp [inD]
  | cons x xs ih =>
    have e : inD ((x :: xs).map pairD) (pairD p) = (deq (pairD x) (pairD p) || inD (xs.map pairD) (pairD p)) := by simp [inD]
    rw [e, ih]
    have e2 : deq (pairD x) (pairD p) = decide (p = x) := by
      have : deq (pairD x) (pairD p) = ((x.1 == p.1) && ((x.2 == p.2) && true)) := rfl
      rw [this]
      by_cases h : p = x
      · subst h; simp
      · have h2 : ¬ (x.1 = p.1 ∧ x.2 = p.2) := fun z => h (Prod.ext z.1.symm z.2.symm)
        rw [decide_eq_false h]
        by_cases h3 : x.1 = p.1
        · have h4 : ¬ x.2 = p.2 := fun z => h2 ⟨h3, z⟩
          simp [h3, h4]
        · simp [h3]
    rw [e2]
    simp
theorem shal_looks (ps : List (Int × Int)) : shal 20 (looksD ps) = true := by
  show (ps.map pairD).all (shal 19) = true
  exact shal_map (fun _ => rfl) ps
theorem in_looks {ps : List (Int × Int)} {p : Int × Int} : opIn (.tup [.int p.1, .int p.2]) (looksD ps) S = .ok (.bl (decide (p ∈ ps))) S := by
  unfold looksD
  rw [in_tup (a := .tup [.int p.1, .int p.2]) rfl (shal_looks ps)]
  exact congrArg (fun b => Res.ok (D.bl b) S) inD_pairs
theorem nin_looks {ps : List (Int × Int)} {p : Int × Int} : opNin (.tup [.int p.1, .int p.2]) (looksD ps) S = .ok (.bl (!decide (p ∈ ps))) S := by
  unfold looksD
  rw [nin_tup (a := .tup [.int p.1, .int p.2]) rfl (shal_looks ps)]
  exact congrArg (fun b => Res.ok (D.bl (!b)) S) inD_pairs
theorem cutD_suf1 (xs : List D) : cutD xs (some 1) none = xs.drop 1 := by
  show cutD xs (some ((1 : Nat) : Int)) none = _
  unfold cutD
  rw [HT.sIx_none, HT.sIx_nat]
  by_cases h : 1 ≤ xs.length
  · rw [Nat.min_eq_left h, List.take_of_length_le (by rw [List.length_drop]; omega)]
  · rw [Nat.min_eq_right (by omega), List.drop_of_length_le (Nat.le_refl _), List.drop_of_length_le (by omega)]
    simp
theorem zip_prs (L : List Int) : zipD (L.map .int) ((L.map .int).drop 1) = (prs L).map pairD := by
  have : (L.map D.int).drop 1 = L.tail.map .int := by cases L <;> rfl
  rw [this, zipD_map]
  rfl
theorem prs_len (L : List Int) : (prs L).length ≤ L.length := by
  unfold prs
  rw [List.length_zip]
  omega
end
/-- K stands for the looks, where the walk goes -/
theorem stp_eq {ps : List (Int × Int)} {s e : Int} {L : List Int} (h : ∀ x ∈ L, s ≤ x ∧ x ≤ e) : stp (inL s e ps) L = ((prs L).filter fun x => !decide ((x.2, x.1) ∈ ps)).map (·.2) := by
  unfold stp
  congr 1
  refine List.filter_congr fun x hx => ?_
  have h1 : x.1 ∈ L := (List.of_mem_zip hx).1
  have h2 : x.2 ∈ L := List.mem_of_mem_tail (List.of_mem_zip hx).2
  congr 1
  rw [decide_eq_decide, mem_inL]
  exact ⟨fun z => z.1, fun z => ⟨z, (h _ h2).1, (h _ h1).2⟩⟩
section
variable {ps : List (Int × Int)} {s e : Int} {L : List Int}
theorem boolsD_trues : ∀ (n : Nat), boolsD (List.replicate n (D.bl true)) = some (List.replicate n true) := bools_true
theorem isWalk (h : LaneOk (inL s e ps) s e L) (hse : s < e) (S : Store) : fPure f_l_is_walk [looksD ps, pairD (s, e), wayD L] S = .ok (.bl true) S := by
  have p0 : pureL [looksD ps, pairD (s, e), wayD L] = true := by
    have a1 : pureD (looksD ps) = true := pureL_map (fun _ => rfl) ps
    have a2 : pureD (wayD L) = true := pure_ints L
    have a3 : pureD (pairD (s, e)) = true := rfl
    simp only [pureL_cons, a1, a2, a3, pureL_nil]
    rfl
  refine fPure_ap S p0 ?_
  obtain ⟨M, e1⟩ := h.way.hd
  obtain ⟨M2, e2⟩ := h.way.lt
  have hl : 2 ≤ L.length := by
    cases M with
    | cons x M => rw [e1]; simp
    | nil =>
      rw [e1] at e2
      cases M2 with
      | nil => simp at e2; omega
      | cons y M2 => simp at e2
  have i0 : ∀ S, opIx (.tup (L.map .int)) (.int 0) S = .ok (.int e) S := fun S => by
    show oRes (atI (L.map D.int) 0) S = _
    rw [e1, List.map_cons, atI_0]
    rfl
  have i1 : ∀ S, opIx (.tup (L.map .int)) (.int (-1)) S = .ok (.int s) S := fun S => by
    show oRes (atI (L.map D.int) (-1)) S = _
    rw [e2, List.map_append, List.map_cons, List.map_nil, atI_last]
    rfl
  have pz : (prs L).length ≤ 1000 := Nat.le_trans (prs_len L) h.len
  have lc : ∀ v2 S, lcL (mgTup 2 (mgCons (mgN 3) (mgCons (mgN 4) mgNil))) mYes (mOrV (mOp opIn (mTup (mCons (mVar 4) (mCons (mVar 3) mNil))) (mVar 0)) (mOp opEq (mVar 4) (mOp opSubI (mVar 3) (mC (.int 1))))) [some (looksD ps), some (pairD (s, e)), v2, none, none] ((prs L).map pairD) S = .ok ((prs L).map fun _ => D.bl true) S := fun v2 S => lcL_mapx _ S fun x hx => ⟨[some (looksD ps), some (pairD (s, e)), v2, some (.int x.1), some (.int x.2)], by simp [pairD], by
    have il := in_looks (S := S) (ps := ps) (p := (x.2, x.1))
    have h1 : x.1 ∈ L := (List.of_mem_zip hx).1
    have h2 : x.2 ∈ L := List.mem_of_mem_tail (List.of_mem_zip hx).2
    generalize looksD ps = K at *
    generalize pairD (s, e) = Y at *
    by_cases hm : (x.2, x.1) ∈ ps
    · rw [decide_eq_true hm] at il
      simp [il]
    · rw [decide_eq_false hm] at il
      have hq : x.2 = x.1 - 1 := (h.way.pr x hx).resolve_left fun z => hm (mem_inL.mp z).1
      have eqi : opEq (.int x.2) (.int (x.1 - 1)) S = .ok (.bl true) S := by
        rw [eq_plain rfl rfl, hq]
        show Res.ok (D.bl (x.1 - 1 == x.1 - 1)) S = _
        simp
      simp [il, eqi]⟩
  have al : ∀ S, fAll [.lst ((prs L).map fun _ => D.bl true)] S = .ok (.bl true) S := fun S => all_trues fun d hd => by
    obtain ⟨_, _, rfl⟩ := List.mem_map.mp hd
    rfl
  have zz : ∀ S, zipItems [.tup (L.map .int), .tup ((L.map .int).drop 1)] S = .ok ((prs L).map pairD) S := fun S => by
    show Res.ok (zipD _ _) S = _
    rw [zip_prs]
  have hz : ((prs L).map pairD).length ≤ 100000 := by rw [List.length_map]; omega
  have lz : (L.map D.int).length ≤ 100000 := by rw [List.length_map]; have := h.len; omega
  have dz : ((L.map D.int).drop 1).length ≤ 100000 := by rw [List.length_drop]; omega
  have c1 := cutD_suf1 (L.map .int)
  have hl2 : ¬ (((L.map D.int).length : Int) < 2) := by rw [List.length_map]; omega
  have y0 : pairD (s, e) = .tup [.int s, .int e] := rfl
  unfold wayD
  generalize (prs L).map pairD = ZZ at *
  generalize ((prs L).map fun _ => D.bl true) = TT at *
  generalize hDD : (L.map D.int).drop 1 = DD at *
  generalize L.map D.int = LL at *
  unfold f_l_is_walk m_l_is_walk
  rw [fnM_3]
  rw [y0] at lc ⊢
  generalize looksD ps = K at *
  simp [hl2, i0, i1, zz, hz, lz, dz, c1, lc, al, fin_nil]
theorem stepsW (h : LaneOk (inL s e ps) s e L) (S : Store) : fPure f_l_steps [looksD ps, wayD L] S = .ok (.lst ((stp (inL s e ps) L).map .int)) S := by
  have p0 : pureL [looksD ps, wayD L] = true := by
    have a1 : pureD (looksD ps) = true := pureL_map (fun _ => rfl) ps
    have a2 : pureD (wayD L) = true := pure_ints L
    simp only [pureL_cons, a1, a2, pureL_nil]
    rfl
  refine fPure_ap S p0 ?_
  have pz : (prs L).length ≤ 1000 := Nat.le_trans (prs_len L) h.len
  have lc : ∀ v1 S, lcL (mgTup 2 (mgCons (mgN 2) (mgCons (mgN 3) mgNil))) (mTB (mOp opNin (mTup (mCons (mVar 3) (mCons (mVar 2) mNil))) (mVar 0))) (mVar 3) [some (looksD ps), v1, none, none] ((prs L).map pairD) S = .ok ((stp (inL s e ps) L).map .int) S := fun v1 S => by
    rw [stp_eq h.ins, List.map_map]
    exact lcL_filtermap (u := pairD) (w := D.int ∘ fun x => x.2) (prs L) S fun x hx => ⟨[some (looksD ps), v1, some (.int x.1), some (.int x.2)], by simp [pairD], by
      have nl := nin_looks (S := S) (ps := ps) (p := (x.2, x.1))
      generalize looksD ps = K at *
      simp [nl], by simp⟩
  have zz : ∀ S, zipItems [.tup (L.map .int), .tup ((L.map .int).drop 1)] S = .ok ((prs L).map pairD) S := fun S => by
    show Res.ok (zipD _ _) S = _
    rw [zip_prs]
  have hz : ((prs L).map pairD).length ≤ 100000 := by rw [List.length_map]; omega
  have lz : (L.map D.int).length ≤ 100000 := by rw [List.length_map]; have := h.len; omega
  have dz : ((L.map D.int).drop 1).length ≤ 100000 := by rw [List.length_drop]; omega
  have c1 := cutD_suf1 (L.map .int)
  have pd : pureL ((stp (inL s e ps) L).map D.int) = true := pure_ints _
  unfold wayD
  generalize (prs L).map pairD = ZZ at *
  generalize (stp (inL s e ps) L).map D.int = TT at *
  generalize hDD : (L.map D.int).drop 1 = DD at *
  generalize L.map D.int = LL at *
  unfold f_l_steps m_l_steps
  rw [fnM_2]
  generalize looksD ps = K at *
  simp [zz, hz, lz, dz, c1, lc, fin_nil, pd]
end
/-! ### the program's moves of a walk: behind v_walks2 -/
def mvs (L : List Int) : List (Int × Int) := (prs L).map fun x => (x.2, x.1)
theorem mvs_len (L : List Int) : (mvs L).length = L.length - 1 := by
  unfold mvs prs
  rw [List.length_map, List.length_zip, List.length_tail]
  omega
theorem moves_ok {L : List Int} (hl : L.length ≤ 1000) (h0 : 1 ≤ L.length) (S : Store) : fPure f_p_moves_of [wayD L] S = .ok (.lst ((mvs L).map pairD)) S := by
  have a2 : pureD (wayD L) = true := pure_ints L
  refine fPure_ap S (by simp only [pureL_cons, a2, pureL_nil]; rfl) ?_
  have r : ∀ S, r1K (.int ((L.length : Int) - 1)) S = .ok (rangeD 0 (L.length - 1)) S := fun S => by
    have := r1K_nat (S := S) (L.length - 1) (by omega)
    rw [show (((L.length - 1 : Nat)) : Int) = (L.length : Int) - 1 by omega] at this
    exact this
  have ix : ∀ (k : Nat) (x : Int) S, L[k]? = some x → opIx (.tup (L.map .int)) (.int (k : Nat)) S = .ok (.int x) S := fun k x S h => by
    show oRes (atI (L.map D.int) ((k : Nat) : Int)) S = _
    rw [atI_nat (v := D.int x) (by rw [List.getElem?_map, h]; rfl)]
    rfl
  have lc : ∀ S, lcL (mgN 1) mYes (mTup (mCons (mOp opIx (mVar 0) (mOp opAdd (mVar 1) (mC (.int 1)))) (mCons (mOp opIx (mVar 0) (mVar 1)) mNil))) [some (wayD L), none] (rangeD 0 (L.length - 1)) S = .ok ((mvs L).map pairD) S := fun S => by
    have e : rangeD 0 (L.length - 1) = (List.range (L.length - 1)).map fun k => D.int (k : Nat) := by
      unfold rangeD
      exact List.map_congr_left fun k _ => by rw [Int.zero_add]
    have e2 : (mvs L).map pairD = (List.range (L.length - 1)).map fun k => pairD ((L[k + 1]?).getD 0, (L[k]?).getD 0) := by
      refine List.ext_getElem? fun k => ?_
      unfold mvs prs
      rw [List.getElem?_map, List.getElem?_map, List.getElem?_map]
      by_cases hk : k < L.length - 1
      · have g1 : L[k]? = some L[k] := List.getElem?_eq_getElem (by omega)
        have g2 : L[k + 1]? = some L[k + 1] := List.getElem?_eq_getElem (by omega)
        rw [List.getElem?_range hk]
        have z : (L.zip L.tail)[k]? = some (L[k], L[k + 1]) := by
          rw [List.getElem?_zip_eq_some]
          exact ⟨g1, by rw [List.getElem?_tail, g2]⟩
        rw [z]
        simp [g1, g2]
      · have z : (L.zip L.tail)[k]? = none := List.getElem?_eq_none (by rw [List.length_zip, List.length_tail]; omega)
        have z2 : (List.range (L.length - 1))[k]? = none := List.getElem?_eq_none (by rw [List.length_range]; omega)
        rw [z, z2]
        rfl
    rw [e, e2]
    refine lcL_mapx _ S fun k hk => ⟨[some (wayD L), some (.int (k : Nat))], rfl, ?_⟩
    have hk := List.mem_range.mp hk
    have g1 := ix k L[k] S (List.getElem?_eq_getElem (by omega))
    have g2 := ix (k + 1) L[k + 1] S (List.getElem?_eq_getElem (by omega))
    rw [show (((k + 1 : Nat)) : Int) = (k : Int) + 1 by omega] at g2
    rw [List.getElem?_eq_getElem (show k < L.length by omega), List.getElem?_eq_getElem (show k + 1 < L.length by omega)]
    show _ = Res.ok (pairD (L[k + 1], L[k])) S
    unfold wayD
    generalize L.map D.int = LL at *
    simp [g1, g2, pairD]
  have hz : (rangeD 0 (L.length - 1)).length ≤ 100000 := by rw [rangeD_len]; omega
  have lz : (L.map D.int).length ≤ 100000 := by rw [List.length_map]; omega
  have ll : (L.map D.int).length = L.length := List.length_map _
  have pd : pureL ((mvs L).map pairD) = true := pureL_map (fun _ => rfl) _
  unfold f_p_moves_of m_p_moves_of
  rw [fnM_1]
  unfold wayD at *
  generalize (mvs L).map pairD = M at *
  generalize hLL : L.map D.int = LL at *
  simp [ll, lz, r, hz, lc, fin_nil, pd]
/-! ### the program's judges of walks and places, on tuples of ints (behind v_moves, c_ins; inD_pairs, shal_pairs from t_nin or k50_a) -/
section
variable {S : Store} {many a b s e : Int} {ps : List (Int × Int)}
theorem boolsD_map {β : Type} (q : β → Bool) : ∀ xs : List β, boolsD (xs.map fun x => D.bl (q x)) = some (xs.map q)
  | [] => rfl
  | x :: xs => by
    rw [List.map_cons, List.map_cons]
    unfold boolsD
    rw [boolsD_map q xs]
    rfl
theorem all_map {β : Type} (q : β → Bool) (xs : List β) (S : Store) : fAll [.lst (xs.map fun x => D.bl (q x))] S = .ok (.bl (xs.all q)) S := by
  rw [all_lst (boolsD_map q xs), List.all_map]
  rfl
theorem vp_shal (xs : List (Int × Int)) : shal 20 (.lst (xs.map pairD)) = true := by
  rw [shal_lst]
  exact shal_map (fun _ => rfl) xs
theorem in_pairsL {xs : List (Int × Int)} {p : Int × Int} (S : Store) : opIn (pairD p) (.lst (xs.map pairD)) S = .ok (.bl (decide (p ∈ xs))) S := by
  rw [in_lst (a := pairD p) rfl (vp_shal xs), inD_pairs]
theorem nin_pairsL {xs : List (Int × Int)} {p : Int × Int} (S : Store) : opNin (pairD p) (.lst (xs.map pairD)) S = .ok (.bl (!decide (p ∈ xs))) S := by
  rw [nin_lst (a := pairD p) rfl (vp_shal xs), inD_pairs]
theorem numP (x y : Int) (S : Store) : fPure f_p_is_number [.int x, .int y] S = .ok (.bl (decide (y ≤ x))) S := fPure_ap S rfl (by
  unfold f_p_is_number m_p_is_number
  rw [fnM_2]
  simp [fin_nil, isTy])
/-- what the program's is_walk tells of a tuple of ints -/
def walkB (K : List (Int × Int)) (s e : Int) (L : List Int) : Bool := !L.isEmpty && L.all (fun x => decide (0 ≤ x)) && decide (L.head? = some e) && decide (L.getLast? = some s) && (mvs L).all fun p => decide (p.1 + 1 = p.2) || decide (p ∈ K)
theorem isWalkP {B : D} (hB : IsBook B many a b ps) (hl : ps.length ≤ 100000) {L : List Int} (hL : L.length ≤ 1000) (S : Store) : fPure f_p_is_walk [B, spD s e, wayD L] S = .ok (.bl (walkB (inL s e ps) s e L)) S := by
  have pB := hB.pure
  have pL : pureD (wayD L) = true := pure_ints L
  refine fPure_ap S (by simp only [pureL_cons, pB, pure_str, pL, pureL_nil]; rfl) ?_
  have lcN : ∀ (ρ : Q.Env) S, 6 < ρ.length → lcL (mgN 6) mYes (mCall (fPure f_p_is_number) (mCons (mVar 6) (mCons (mC (.int 0)) mNil))) ρ (L.map .int) S = .ok (L.map fun x => D.bl (decide (0 ≤ x))) S := fun ρ S hρ => lcL_mapx (u := D.int) (w := fun x => D.bl (decide (0 ≤ x))) L S fun x _ => ⟨ρ.set 6 (some (.int x)), rfl, by
    have e6 : (ρ.set 6 (some (.int x)))[6]? = some (some (.int x)) := List.getElem?_set_self hρ
    have np := numP x 0 S
    generalize ρ.set 6 (some (.int x)) = ρ1 at *
    simp [e6, np]⟩
  have alN := fun S => all_map (fun x => decide (0 ≤ x)) L S
  have wi := fun S => withinP (S := S) (s := s) (e := e) hB hl
  have hz : (L.map D.int).length ≤ 100000 := by rw [List.length_map]; omega
  cases hLL : L with
  | nil =>
    unfold f_p_is_walk m_p_is_walk
    rw [fnM_3]
    unfold wayD spD
    simp [walkB, fin_nil, isTy]
  | cons x0 M =>
    have h0 : ¬ L.map D.int = [] := by rw [hLL]; simp
    have i0 : ∀ S, opIx (.tup (L.map .int)) (.int 0) S = .ok (.int x0) S := fun S => by
      show oRes (atI (L.map D.int) 0) S = _
      rw [hLL, List.map_cons, atI_0]
      rfl
    obtain ⟨M2, xl, e2⟩ : ∃ M2 xl, L = M2 ++ [xl] := ⟨L.dropLast, L.getLast (by rw [hLL]; simp), (List.dropLast_concat_getLast _).symm⟩
    have i1 : ∀ S, opIx (.tup (L.map .int)) (.int (-1)) S = .ok (.int xl) S := fun S => by
      show oRes (atI (L.map D.int) (-1)) S = _
      rw [e2, List.map_append, List.map_cons, List.map_nil, atI_last]
      rfl
    have mo := fun S => moves_ok (L := L) hL (by rw [hLL]; simp) S
    have lcM : ∀ v6 S, lcL (mgTup 2 (mgCons (mgN 7) (mgCons (mgN 8) mgNil))) mYes (mOrV (mOp opEq (mOp opAdd (mVar 7) (mC (.int 1))) (mVar 8)) (mOp opIn (mTup (mCons (mVar 7) (mCons (mVar 8) mNil))) (mVar 5))) [some B, some (spD s e), some (wayD L), some (.int s), some (.int e), some (.lst ((inL s e ps).map pairD)), v6, none, none] ((mvs L).map pairD) S = .ok ((mvs L).map fun p => D.bl (decide (p.1 + 1 = p.2) || decide (p ∈ inL s e ps))) S := fun v6 S =>
      lcL_mapx (u := pairD) _ S fun p _ => ⟨[some B, some (spD s e), some (wayD L), some (.int s), some (.int e), some (.lst ((inL s e ps).map pairD)), v6, some (.int p.1), some (.int p.2)], by simp [pairD], by
        have il := in_pairsL (xs := inL s e ps) (p := p) S
        have pp : pairD p = .tup [.int p.1, .int p.2] := rfl
        rw [pp] at il
        have eqi : opEq (.int (p.1 + 1)) (.int p.2) S = .ok (.bl (decide (p.1 + 1 = p.2))) S := by
          rw [eq_plain rfl rfl]
          show Res.ok (D.bl (p.1 + 1 == p.2)) S = _
          rfl
        generalize inL s e ps = K at *
        generalize K.map pairD = KD at *
        by_cases h : p.1 + 1 = p.2 <;> simp [h, il, eqi]⟩
    have alM := fun S => all_map (fun p : Int × Int => decide (p.1 + 1 = p.2) || decide (p ∈ inL s e ps)) (mvs L) S
    have mz : ((mvs L).map pairD).length ≤ 100000 := by rw [List.length_map, mvs_len]; omega
    have hd : L.head? = some x0 := by rw [hLL]; rfl
    have lt : L.getLast? = some xl := by rw [e2]; simp
    have ne : L.isEmpty = false := by rw [hLL]; rfl
    have nei : ∀ (x y : Int) S, opNe (.int x) (.int y) S = .ok (.bl (!decide (x = y))) S := fun x y S => by
      rw [ne_plain rfl rfl]
      show Res.ok (D.bl (!(x == y))) S = _
      rfl
    rw [← hLL]
    unfold walkB
    rw [hd, lt, ne]
    clear hd lt ne e2 hLL
    unfold wayD at *
    generalize hA : L.all (fun x => decide (0 ≤ x)) = cA at *
    generalize hM : (mvs L).all (fun p : Int × Int => decide (p.1 + 1 = p.2) || decide (p ∈ inL s e ps)) = cM at *
    generalize (mvs L).map (fun p => D.bl (decide (p.1 + 1 = p.2) || decide (p ∈ inL s e ps))) = MM at *
    generalize (mvs L).map pairD = MP at *
    generalize (inL s e ps).map pairD = KD at *
    generalize L.map (fun x => D.bl (decide (0 ≤ x))) = LN at *
    generalize L.map D.int = LL at *
    unfold f_p_is_walk m_p_is_walk
    rw [fnM_3]
    unfold spD at *
    cases cA with
    | false => simp [h0, hz, lcN, alN, fin_nil, isTy]
    | true =>
      by_cases h1 : x0 = e
      · by_cases h2 : xl = s
        · simp [h0, hz, lcN, alN, i0, i1, nei, h1, h2, wi, mo, mz, lcM, alM, fin_nil, isTy]
        · simp [h0, hz, lcN, alN, i0, i1, nei, h1, h2, fin_nil, isTy]
      · simp [h0, hz, lcN, alN, i0, i1, nei, h1, fin_nil, isTy]
def stepsB (K : List (Int × Int)) (L : List Int) : List (Int × Int) := (mvs L).filter fun p => !decide (p ∈ K)
theorem lc2_steps {K : List (Int × Int)} {B T W : D} {v3 v5 v6 : Option D} : ∀ (Ls : List (List Int)) (n : Nat) (S : Store), (∀ L ∈ Ls, L.length ≤ 1000 ∧ 1 ≤ L.length) → n + 1000 * Ls.length ≤ 100000 →
    lcL2 (mgN 7) mYes (mItems (mCall (fPure f_p_moves_of) (mCons (mVar 7) mNil))) (mgN 8) (mTB (mOp opNin (mVar 8) (mVar 4))) (mVar 8) [8] [some B, some T, some W, v3, some (.lst (K.map pairD)), v5, v6, none, none] (Ls.map wayD) n S = .ok ((Ls.flatMap (stepsB K)).map pairD) S
  | [], n, S, _, _ => rfl
  | L :: Ls, n, S, h, hn => by
    have h1 := h L (List.mem_cons_self ..)
    have ml := mvs_len L
    have ih := lc2_steps (K := K) (B := B) (T := T) (W := W) (v3 := v3) (v5 := v5) (v6 := v6) Ls (n + ((mvs L).map pairD).length) S (fun M hM => h M (List.mem_cons_of_mem _ hM)) (by rw [List.length_map, ml]; rw [List.length_cons] at hn; omega)
    have mo := fun S => moves_ok (L := L) h1.1 h1.2 S
    have lc : lcL (mgN 8) (mTB (mOp opNin (mVar 8) (mVar 4))) (mVar 8) [some B, some T, some W, v3, some (.lst (K.map pairD)), v5, v6, some (wayD L), none] ((mvs L).map pairD) S = .ok ((stepsB K L).map pairD) S :=
      lcL_filtermap (u := pairD) (w := pairD) (q := fun p => !decide (p ∈ K)) (mvs L) S fun p _ => ⟨[some B, some T, some W, v3, some (.lst (K.map pairD)), v5, v6, some (wayD L), some (pairD p)], rfl, by
        have nl := nin_pairsL (xs := K) (p := p) S
        generalize K.map pairD = KD at *
        generalize pairD p = pp at *
        simp [nl], by simp⟩
    have hc : n + ((mvs L).map pairD).length ≤ 100000 := by rw [List.length_map, ml]; rw [List.length_cons] at hn; omega
    rw [List.map_cons]
    unfold lcL2
    have g0 : mgN 7 (wayD L) [some B, some T, some W, v3, some (.lst (K.map pairD)), v5, v6, none, none] S = .ok [some B, some T, some W, v3, some (.lst (K.map pairD)), v5, v6, some (wayD L), none] S := rfl
    rw [g0, bind_ok]
    have hz : ((mvs L).map pairD).length ≤ 100000 := by omega
    have it : mItems (mCall (fPure f_p_moves_of) (mCons (mVar 7) mNil)) [some B, some T, some W, v3, some (.lst (K.map pairD)), v5, v6, some (wayD L), none] S = .ok ((mvs L).map pairD) S := by
      generalize K.map pairD = KD at *
      generalize (mvs L).map pairD = MP at *
      generalize wayD L = w at *
      simp [mo, hz]
    have wpe : wp [some B, some T, some W, v3, some (.lst (K.map pairD)), v5, v6, some (wayD L), none] [8] = [some B, some T, some W, v3, some (.lst (K.map pairD)), v5, v6, some (wayD L), none] := rfl
    simp only [ap_yes, bind_ok]
    rw [it, bind_ok, if_pos hc, wpe, lc, bind_ok, ih, bind_ok, List.flatMap_cons, List.map_append]
/-- what the program's are_walks tells of a tuple of such -/
def walksB (K : List (Int × Int)) (s e : Int) (Ls : List (List Int)) : Bool := Ls.all (walkB K s e) && decide ((Ls.flatMap (stepsB K)).length = (sortU (Ls.flatMap (stepsB K))).length)
theorem areWalksP {B T : D} (hB : IsBook B many a b ps) (hT : IsSp T s e) (hl : ps.length ≤ 100000) {Ls : List (List Int)} (hLs : Ls.length ≤ 90) (hL : ∀ L ∈ Ls, L.length ≤ 1000)
    (hb : Ls.all (walkB (inL s e ps) s e) = true → (Ls.flatMap (stepsB (inL s e ps))).length < 64 ∧ ∀ p ∈ Ls.flatMap (stepsB (inL s e ps)), (0 ≤ p.1 ∧ p.1 < lim) ∧ 0 ≤ p.2 ∧ p.2 < lim) (S : Store) : fPure f_p_are_walks [B, T, .tup (Ls.map wayD)] S = .ok (.bl (walksB (inL s e ps) s e Ls)) S := by
  have pB := hB.pure
  have pT := hT.pure
  have pL := pure_ways Ls
  refine fPure_ap S (by simp only [pureL_cons, pureD_tup, pB, pT, pL, pureL_nil]; rfl) ?_
  have tT := hT.tup
  have wi := fun S => withinP (S := S) (s := s) (e := e) hB hl
  have lcW : ∀ v4 v5 S, lcL (mgN 6) mYes (mCall (fPure f_p_is_walk) (mCons (mVar 0) (mCons (mVar 3) (mCons (mVar 6) mNil)))) [some B, some T, some (.tup (Ls.map wayD)), some (spD s e), v4, v5, none, none, none] (Ls.map wayD) S = .ok (Ls.map fun L => D.bl (walkB (inL s e ps) s e L)) S := fun v4 v5 S =>
    lcL_mapx (u := wayD) Ls S fun L hm => ⟨[some B, some T, some (.tup (Ls.map wayD)), some (spD s e), v4, v5, some (wayD L), none, none], rfl, by
      have iw := isWalkP hB hl (s := s) (e := e) (hL L hm) S
      generalize Ls.map wayD = W at *
      generalize spD s e = Y at *
      generalize wayD L = w at *
      simp [iw]⟩
  have alW := fun S => all_map (walkB (inL s e ps) s e) Ls S
  have hz : (Ls.map wayD).length ≤ 100000 := by rw [List.length_map]; omega
  cases hc : Ls.all (walkB (inL s e ps) s e) with
  | false =>
    unfold walksB
    rw [hc] at alW ⊢
    generalize (Ls.map fun L => D.bl (walkB (inL s e ps) s e L)) = ZZ at *
    generalize Ls.map wayD = W at *
    generalize spD s e = Y at *
    unfold f_p_are_walks m_p_are_walks
    rw [fnM_3]
    simp [tT, hz, lcW, alW, fin_nil, isTy]
  | true =>
    obtain ⟨h1, h2⟩ := hb hc
    have hne : ∀ L ∈ Ls, L.length ≤ 1000 ∧ 1 ≤ L.length := fun L hm => by
      refine ⟨hL L hm, ?_⟩
      have := List.all_eq_true.mp hc L hm
      cases L with
      | nil => simp [walkB] at this
      | cons => simp
    have l2 := fun v3 v5 v6 S => lc2_steps (K := inL s e ps) (B := B) (T := T) (W := .tup (Ls.map wayD)) (v3 := v3) (v5 := v5) (v6 := v6) Ls 0 S hne (by omega)
    have l2k : ∀ v3 v5 v6 S, lc2K (mgN 7) mYes (mItems (mCall (fPure f_p_moves_of) (mCons (mVar 7) mNil))) (mgN 8) (mTB (mOp opNin (mVar 8) (mVar 4))) (mVar 8) [7, 8] [8] [some B, some T, some (.tup (Ls.map wayD)), v3, some (.lst ((inL s e ps).map pairD)), v5, v6, none, none] (Ls.map wayD) S = .ok (.lst ((Ls.flatMap (stepsB (inL s e ps))).map pairD)) S := fun v3 v5 v6 S => lc2K_ok (l2 v3 v5 v6 S)
    have ls := fun S => lsKP_pairs (S := S) h2 h1
    have ll : ((Ls.flatMap (stepsB (inL s e ps))).map pairD).length = (Ls.flatMap (stepsB (inL s e ps))).length := List.length_map _
    have zz : ((Ls.flatMap (stepsB (inL s e ps))).map pairD).length ≤ 100000 := by omega
    have eqn : ∀ (x y : Nat) S, opEq (.int (x : Nat)) (.int (y : Nat)) S = .ok (.bl (decide (y = x))) S := fun x y S => by
      rw [eq_plain rfl rfl]
      show Res.ok (D.bl (((x : Nat) : Int) == ((y : Nat) : Int))) S = _
      congr 2
      by_cases h : y = x
      · subst h; simp
      · have : ¬ ((x : Nat) : Int) = ((y : Nat) : Int) := fun z => h (by omega)
        simp [h, this]
    unfold walksB
    rw [hc] at alW ⊢
    generalize (Ls.map fun L => D.bl (walkB (inL s e ps) s e L)) = ZZ at *
    generalize (sortU (Ls.flatMap (stepsB (inL s e ps)))).length = n2 at *
    generalize (Ls.flatMap (stepsB (inL s e ps))).length = n1 at *
    generalize (Ls.flatMap (stepsB (inL s e ps))).map pairD = SS at *
    generalize (inL s e ps).map pairD = KD at *
    generalize Ls.map wayD = W at *
    generalize spD s e = Y at *
    unfold f_p_are_walks m_p_are_walks
    rw [fnM_3]
    simp [tT, hz, lcW, alW, wi, l2k, ls, ll, zz, eqn, fin_nil, isTy]
end
/-- the same with lists in the place of tuples -/
def lsD : Nat → D → D
  | n + 1, .tup xs => .lst (xs.map (lsD n))
  | n + 1, .lst xs => .lst (xs.map (lsD n))
  | _, d => d
theorem lists_ok : ∀ (k n : Nat) (d : D) (S : Store), okD n d = true → n < k → f_l_lists k [d] S = .ok (lsD n d) S
  | 0, n, d, S, _, hk => absurd hk (by omega)
  | k + 1, n, d, S, h, hk => by
    have seq : ∀ (m : Nat) (xs : List D), (∀ x ∈ xs, okD m x = true) → m < k → ∀ ρ : Q.Env, 1 < ρ.length → ∀ S, lcL (mgN 1) mYes (mCall (fPure (f_l_lists k)) (mCons (mVar 1) mNil)) ρ xs S = .ok (xs.map (lsD m)) S := fun m xs hx hm ρ hρ S => by
      refine lcL_map (f := lsD m) xs S fun x hxm => ⟨_, rfl, ?_⟩
      have p := okD_pure _ _ (hx x hxm)
      have e : (ρ.set 1 (some x))[1]? = some (some x) := List.getElem?_set_self hρ
      simp only [ap_call, ap_cons, ap_var, e, varK_some, bind_ok, consK_ap, ap_nil, consK2_ap]
      exact fPure_ap S (by simp [p]) (lists_ok k m x [] (hx x hxm) hm)
    cases d with
    | non => simp [f_l_lists, fnM, m_l_lists, isTy]; cases n <;> rfl
    | bl b => simp [f_l_lists, fnM, m_l_lists, isTy]; cases n <;> rfl
    | int b => simp [f_l_lists, fnM, m_l_lists, isTy]; cases n <;> rfl
    | str b => simp [f_l_lists, fnM, m_l_lists, isTy]; cases n <;> rfl
    | tup xs =>
      cases n with
      | zero => simp [okD] at h
      | succ n =>
        rw [okD_tup, Bool.and_eq_true, decide_eq_true_eq] at h
        have hs := fun ρ hρ S => seq n xs (fun x hx => List.all_eq_true.mp h.2 x hx) (by omega) ρ hρ S
        simp [f_l_lists, fnM, m_l_lists, isTy, h.1, hs, lsD]
    | lst xs =>
      cases n with
      | zero => simp [okD] at h
      | succ n =>
        rw [okD_lst, Bool.and_eq_true, decide_eq_true_eq] at h
        have hs := fun ρ hρ S => seq n xs (fun x hx => List.all_eq_true.mp h.2 x hx) (by omega) ρ hρ S
        simp [f_l_lists, fnM, m_l_lists, isTy, h.1, hs, lsD]
    | fro xs => cases n <;> simp [okD] at h
    | obj c xs => cases n <;> simp [okD] at h
    | exn c xs => cases n <;> simp [okD] at h
    | ref j => cases n <;> simp [okD] at h
theorem listsP {d : D} {n : Nat} (S : Store) (h : okD n d = true) (hn : n < 30) : fPure (f_l_lists 30) [d] S = .ok (lsD n d) S := fPure_ap S (by simp [okD_pure n d h]) (lists_ok 30 n d [] h hn)
/-! ### books and STRETCHes as lists -/
def pairL (p : Int × Int) : D := .lst [.int p.1, .int p.2]
def bookLD (many a b : Int) (ps : List (Int × Int)) : D := .lst [.int many, .lst [.int a, .int b], .lst (ps.map pairL)]
def spLD (s e : Int) : D := .lst [.int s, .int e]
theorem bookL_okD {many a b : Int} {ps : List (Int × Int)} (hl : ps.length ≤ 100000) : okD 5 (bookLD many a b ps) = true := by
  unfold bookLD
  have : (ps.map pairL).all (okD 3) = true := List.all_eq_true.mpr fun d hd => by
    obtain ⟨p, _, rfl⟩ := List.mem_map.mp hd
    rfl
  simp [okD_lst, hl]
  exact fun _ _ _ => rfl
theorem tuD_bookL {many a b : Int} {ps : List (Int × Int)} : tuD 5 (bookLD many a b ps) = bookD many a b ps := by
  unfold bookLD bookD looksD
  have : (ps.map pairL).map (tuD 3) = ps.map pairD := by
    rw [List.map_map]
    exact List.map_congr_left fun p _ => rfl
  simp [tuD]
  exact fun _ _ _ => rfl
theorem isBookL {many a b : Int} {ps : List (Int × Int)} (hl : ps.length ≤ 100000) : IsBook (bookLD many a b ps) many a b ps := ⟨fun S => by rw [tupledP S (bookL_okD hl) (by omega), tuD_bookL], okD_pure _ _ (bookL_okD hl)⟩
theorem isSpL (s e : Int) : IsSp (spLD s e) s e := ⟨fun S => by
  rw [tupledP (n := 2) S rfl (by omega)]
  rfl, rfl⟩
theorem lists_book {n a b : Int} {ps : List (Int × Int)} (S : Store) (hl : ps.length ≤ 100000) : fPure (f_l_lists 30) [bookD n a b ps] S = .ok (bookLD n a b ps) S := by
  rw [listsP S (book_okD hl) (by omega)]
  unfold bookLD bookD looksD
  have : (ps.map pairD).map (lsD 3) = ps.map pairL := by
    rw [List.map_map]
    exact List.map_congr_left fun p _ => rfl
  simp [lsD]
  exact fun _ _ _ => rfl
/-! ### things and walks (parts of k52_a, k52_b, k52_c) -/
section
variable {S : Store} {n a b s e : Int} {ps : List (Int × Int)} {P : List Int} {Ls : List (List Int)}
theorem deqL_ints : ∀ P Q : List Int, deqL (P.map .int) (Q.map .int) = decide (P = Q)
  | [], [] => rfl
  | [], y :: Q => by simp [deqL]
  | x :: P, [] => by simp [deqL]
  | x :: P, y :: Q => by
    rw [List.map_cons, List.map_cons]
    have e : deqL (.int x :: P.map .int) (.int y :: Q.map .int) = ((x == y) && deqL (P.map .int) (Q.map .int)) := by simp [deqL, deq]
    rw [e, deqL_ints P Q]
    by_cases h : x = y
    · subst h
      by_cases h2 : P = Q <;> simp [h2]
    · simp [h]
theorem eq_intsL (P Q : List Int) (S : Store) : opEq (.lst (P.map .int)) (.lst (Q.map .int)) S = .ok (.bl (decide (P = Q))) S := by
  rw [eq_plain (shal_ints P) (shal_ints Q)]
  have e : deq (.lst (P.map .int)) (.lst (Q.map .int)) = deqL (P.map .int) (Q.map .int) := by simp [deq]
  rw [e, deqL_ints]
def numOf : D → Bool
  | .int x => decide (0 ≤ x)
  | _ => false
def isNum : D → Bool
  | .int _ => true
  | _ => false
def okish (d : D) : Bool := okD 15 d && shal 19 d
theorem numPD {d : D} (h : okish d = true) (S : Store) : fPure f_p_is_number [d, .int 0] S = .ok (.bl (numOf d)) S := by
  unfold okish at h
  rw [Bool.and_eq_true] at h
  have pd := okD_pure 15 d h.1
  refine fPure_ap S (by simp only [pureL_cons, pureD_int, pd, pureL_nil]; rfl) ?_
  unfold f_p_is_number m_p_is_number
  rw [fnM_2]
  cases d with
  | non => simp [fin_nil, isTy, numOf]
  | bl b => simp [fin_nil, isTy, numOf]
  | int x => simp [fin_nil, isTy, numOf]
  | str x => simp [fin_nil, isTy, numOf]
  | tup xs => simp [fin_nil, isTy, numOf]
  | lst xs => simp [fin_nil, isTy, numOf]
  | fro xs => simp [okD] at h
  | obj c xs => simp [okD] at h
  | exn c xs => simp [okD] at h
  | ref k => simp [okD] at h
theorem stepsB_stp {K : List (Int × Int)} {L : List Int} {p q : Int} (h : WayOk K p q L) : stepsB K L = (stp K L).map fun m => (m, m + 1) := by
  unfold stepsB mvs stp
  rw [List.filter_map, List.map_map]
  have e1 : (prs L).filter ((fun p => !decide (p ∈ K)) ∘ fun x : Int × Int => (x.2, x.1)) = (prs L).filter fun x => !decide ((x.2, x.1) ∈ K) := rfl
  rw [e1]
  refine List.map_congr_left fun x hx => ?_
  obtain ⟨h1, h2⟩ := List.mem_filter.mp hx
  have h3 := (h.pr x h1).resolve_left (by simpa using h2)
  show (x.2, x.1) = (x.2, x.2 + 1)
  rw [show x.2 + 1 = x.1 by omega]
theorem flat_steps {K : List (Int × Int)} {p q : Int} : ∀ {Ls : List (List Int)}, (∀ L ∈ Ls, WayOk K p q L) → Ls.flatMap (stepsB K) = (Ls.flatMap (stp K)).map fun m => (m, m + 1)
  | [], _ => rfl
  | L :: Ls, h => by
    rw [List.flatMap_cons, List.flatMap_cons, List.map_append, stepsB_stp (h L (List.mem_cons_self ..)), flat_steps fun M hM => h M (List.mem_cons_of_mem _ hM)]
theorem WayOk.ne_nil {K : List (Int × Int)} {p q : Int} {L : List Int} (h : WayOk K p q L) : L ≠ [] := by
  obtain ⟨M, rfl⟩ := h.hd
  simp
theorem walkB_of {K : List (Int × Int)} {L : List Int} (h : WayOk K e s L) (hi : ∀ x ∈ L, s ≤ x ∧ x ≤ e) (hs0 : 0 ≤ s) : walkB K s e L = true := by
  have hn := h.ne_nil
  obtain ⟨M, e1⟩ := h.hd
  obtain ⟨M2, e2⟩ := h.lt
  have a1 : L.isEmpty = false := by
    cases L with
    | nil => exact absurd rfl hn
    | cons => rfl
  have a2 : L.all (fun x => decide (0 ≤ x)) = true := List.all_eq_true.mpr fun x hx => decide_eq_true (by have := hi x hx; omega)
  have a3 : L.head? = some e := by rw [e1]; rfl
  have a4 : L.getLast? = some s := by rw [e2]; simp
  have a5 : ((mvs L).all fun p => decide (p.1 + 1 = p.2) || decide (p ∈ K)) = true := List.all_eq_true.mpr fun p hp => by
    unfold mvs at hp
    obtain ⟨x, hx, rfl⟩ := List.mem_map.mp hp
    rcases h.pr x hx with h1 | h1
    · rw [decide_eq_true h1, Bool.or_true]
    · rw [decide_eq_true (show x.2 + 1 = x.1 by omega), Bool.true_or]
  unfold walkB
  rw [a1, a2, a3, a4, a5]
  simp
def mAw : MS := (mSeq (mIf (mNotT (mTest (mCall (fPure f_l_is_walk) (mCons (mVar 0) (mCons (mVar 1) (mCons (mVar 4) mNil)))))) (mRet (mC (.bl false))) mSkip)
  (mAsg (mOp opAdd (mVar 3) (mCall (fPure f_l_steps) (mCons (mVar 0) (mCons (mVar 4) mNil)))) (mgN 3)))
theorem aw_loop (hse : s < e) {v2 : Option D} {S : Store} : ∀ (Ls : List (List Int)) (acc : List Int) (v4 : Option D), (∀ L ∈ Ls, LaneOk (inL s e ps) s e L) → acc.length + (Ls.flatMap (stp (inL s e ps))).length ≤ 100000 →
    ∃ w4, forL (mgN 4) mAw (Ls.map wayD) [some (looksD ps), some (pairD (s, e)), v2, some (.lst (acc.map .int)), v4] S = .ok (.nx [some (looksD ps), some (pairD (s, e)), v2, some (.lst ((acc ++ Ls.flatMap (stp (inL s e ps))).map .int)), w4]) S
  | [], acc, v4, _, _ => ⟨v4, by simp [forL_nil]⟩
  | L :: Ls, acc, v4, h, hl => by
    rw [List.flatMap_cons, List.length_append] at hl
    have h1 := h L (List.mem_cons_self ..)
    obtain ⟨w4, ih⟩ := aw_loop hse (v2 := v2) (S := S) Ls (acc ++ stp (inL s e ps) L) (some (wayD L)) (fun M hM => h M (List.mem_cons_of_mem _ hM)) (by rw [List.length_append]; omega)
    refine ⟨w4, ?_⟩
    have iw := isWalk h1 hse S
    have sw := stepsW h1 S
    have al : (acc.map D.int).length + ((stp (inL s e ps) L).map D.int).length ≤ 100000 := by simp only [List.length_map]; omega
    rw [List.append_assoc] at ih
    have e1 : (acc ++ stp (inL s e ps) L).map D.int = acc.map .int ++ (stp (inL s e ps) L).map .int := List.map_append
    rw [e1] at ih
    rw [List.map_cons, forL_cons, List.flatMap_cons]
    have hb : mAw [some (looksD ps), some (pairD (s, e)), v2, some (.lst (acc.map .int)), some (wayD L)] S = .ok (.nx [some (looksD ps), some (pairD (s, e)), v2, some (.lst (acc.map .int ++ (stp (inL s e ps) L).map .int)), some (wayD L)]) S := by
      unfold mAw
      generalize (stp (inL s e ps) L).map D.int = ZZ at *
      generalize acc.map D.int = AA at *
      generalize wayD L = W at *
      generalize looksD ps = K at *
      generalize pairD (s, e) = Y at *
      simp [iw, sw, al]
    have h0 : mgN 4 (wayD L) [some (looksD ps), some (pairD (s, e)), v2, some (.lst (acc.map .int)), v4] S = .ok [some (looksD ps), some (pairD (s, e)), v2, some (.lst (acc.map .int)), some (wayD L)] S := rfl
    rw [h0, bind_ok, forBK_ap, hb, bind_ok]
    exact ih
theorem dup_or : ∀ (ys : List Int), ys.Nodup ∨ ∃ zs : List Int, zs.length < ys.length ∧ ∀ y ∈ ys, y ∈ zs
  | [] => .inl List.nodup_nil
  | y :: ys => by
    by_cases h : y ∈ ys
    · exact .inr ⟨ys, by simp, fun z hz => (List.mem_cons.mp hz).elim (fun e => e ▸ h) id⟩
    · rcases dup_or ys with nd | ⟨zs, hl, hz⟩
      · exact .inl (List.nodup_cons.mpr ⟨h, nd⟩)
      · exact .inr ⟨y :: zs, by simp only [List.length_cons]; omega, fun z hm => (List.mem_cons.mp hm).elim (fun e => e ▸ List.mem_cons_self ..) fun m => List.mem_cons_of_mem _ (hz z m)⟩
theorem sortN_len_iff {ns : List Int} : (sortN ns).length = ns.length ↔ ns.Nodup := by
  constructor
  · intro h
    rcases dup_or ns with nd | ⟨zs, hl, hz⟩
    · exact nd
    · have := nodup_len_le ((sortN_up ns).imp fun {x y} h e => absurd h (by omega)) (fun x hx => hz x (mem_sortN.mp hx))
      omega
  · exact sortN_nlen
theorem areWalksT (hse : s < e) {Ls : List (List Int)} (hLl : Ls.length ≤ 1000) (h : ∀ L ∈ Ls, LaneOk (inL s e ps) s e L) (hn : (Ls.flatMap (stp (inL s e ps))).length < 64) (S : Store) : fPure f_l_are_walks [looksD ps, pairD (s, e), .tup (Ls.map wayD)] S = .ok (.bl (decide ((Ls.flatMap (stp (inL s e ps))).Nodup))) S := by
  have a1 : pureD (looksD ps) = true := pureL_map (fun _ => rfl) ps
  have a2 := pure_ways Ls
  have a3 : pureD (pairD (s, e)) = true := rfl
  refine fPure_ap S (by simp only [pureL_cons, pureD_tup, a1, a2, a3, pureL_nil]; rfl) ?_
  obtain ⟨w4, lp⟩ := aw_loop (v2 := some (.tup (Ls.map wayD))) (S := []) hse Ls [] none h (by simp only [List.length_nil]; omega)
  rw [List.nil_append] at lp
  have ls := lsK_ints (S := []) (ns := Ls.flatMap (stp (inL s e ps))) hn
  have hz : (Ls.map wayD).length ≤ 100000 := by rw [List.length_map]; omega
  have ll : ((Ls.flatMap (stp (inL s e ps))).map D.int).length = (Ls.flatMap (stp (inL s e ps))).length := List.length_map _
  have zz : ((Ls.flatMap (stp (inL s e ps))).map D.int).length ≤ 100000 := by omega
  have eqi : opEq (.int ((sortN (Ls.flatMap (stp (inL s e ps)))).length : Nat)) (.int ((Ls.flatMap (stp (inL s e ps))).length : Nat)) [] = .ok (.bl (decide ((Ls.flatMap (stp (inL s e ps))).Nodup))) [] := by
    rw [eq_plain rfl rfl]
    show Res.ok (D.bl (_ == _)) [] = _
    congr 2
    by_cases nd : (Ls.flatMap (stp (inL s e ps))).Nodup
    · rw [decide_eq_true nd, sortN_len_iff.mpr nd]
      simp
    · have h' : ¬ (sortN (Ls.flatMap (stp (inL s e ps)))).length = (Ls.flatMap (stp (inL s e ps))).length := fun z => nd (sortN_len_iff.mp z)
      rw [decide_eq_false nd]
      have h2 : ¬ (((sortN (Ls.flatMap (stp (inL s e ps)))).length : Nat) : Int) = (((Ls.flatMap (stp (inL s e ps))).length : Nat) : Int) := fun z => h' (by omega)
      rw [beq_eq_false_iff_ne]
      exact h2
  have e0 : ([] : List Int).map D.int = [] := rfl
  rw [e0] at lp
  have lli : ((((Ls.flatMap (stp (inL s e ps))).map D.int).length : Nat) : Int) = (((Ls.flatMap (stp (inL s e ps))).length : Nat) : Int) := by rw [ll]
  generalize decide ((Ls.flatMap (stp (inL s e ps))).Nodup) = bb at *
  unfold f_l_are_walks m_l_are_walks
  rw [fnM_3]
  show endM _ ((mSeq _ (mSeq (mFor _ _ mAw) _)) _ _) = _
  generalize mAw = M at *
  generalize Ls.map wayD = W at *
  generalize (((sortN (Ls.flatMap (stp (inL s e ps)))).length : Nat) : Int) = n1 at *
  generalize (((Ls.flatMap (stp (inL s e ps))).length : Nat) : Int) = n2 at *
  generalize (Ls.flatMap (stp (inL s e ps))).map D.int = ZZ at *
  generalize looksD ps = K at *
  generalize pairD (s, e) = Y at *
  simp -implicitDefEqProofs [hz, lp, ls, lli, zz, eqi, fin_nil]
theorem dup_orP : ∀ (ys : List (Int × Int)), ys.Nodup ∨ ∃ zs : List (Int × Int), zs.length < ys.length ∧ ∀ y ∈ ys, y ∈ zs
  | [] => .inl List.nodup_nil
  | y :: ys => by
    by_cases h : y ∈ ys
    · exact .inr ⟨ys, by simp, fun z hz => (List.mem_cons.mp hz).elim (fun e => e ▸ h) id⟩
    · rcases dup_orP ys with nd | ⟨zs, hl, hz⟩
      · exact .inl (List.nodup_cons.mpr ⟨h, nd⟩)
      · exact .inr ⟨y :: zs, by simp only [List.length_cons]; omega, fun z hm => (List.mem_cons.mp hm).elim (fun e => e ▸ List.mem_cons_self ..) fun m => List.mem_cons_of_mem _ (hz z m)⟩
theorem sortU_len_iff {qs : List (Int × Int)} : qs.length = (sortU qs).length ↔ qs.Nodup := by
  constructor
  · intro h
    rcases dup_orP qs with nd | ⟨zs, hl, hz⟩
    · exact nd
    · have := nodup_len_leG (sortU_nodup qs) (fun x hx => hz x (mem_sortU.mp hx))
      omega
  · exact fun h => (sortU_nlen h).symm
structure Lanes (ps : List (Int × Int)) (s e : Int) (Ls : List (List Int)) : Prop where
  lane : ∀ L ∈ Ls, LaneOk (inL s e ps) s e L
  few : (Ls.flatMap (stp (inL s e ps))).length < 64
  len : Ls.length ≤ 90
def freeB (ps : List (Int × Int)) (s e : Int) (Ls : List (List Int)) : Bool := decide ((Ls.flatMap (stp (inL s e ps))).Nodup)
theorem walksB_lanes (h : Lanes ps s e Ls) (hs : 0 ≤ s) : walksB (inL s e ps) s e Ls = freeB ps s e Ls := by
  unfold walksB freeB
  have a1 : Ls.all (walkB (inL s e ps) s e) = true := List.all_eq_true.mpr fun L hL => walkB_of (h.lane L hL).way (h.lane L hL).ins hs
  rw [a1, Bool.true_and, flat_steps fun L hL => (h.lane L hL).way, decide_eq_decide, sortU_len_iff]
  unfold List.Nodup
  rw [List.pairwise_map]
  constructor
  · exact fun z => z.imp fun h e => h (by rw [e])
  · exact fun z => z.imp fun h e => h (congrArg Prod.fst e)
theorem stp_in {L : List Int} (h : LaneOk (inL s e ps) s e L) : ∀ x ∈ stp (inL s e ps) L, s ≤ x ∧ x ≤ e := fun x hx => by
  unfold stp at hx
  obtain ⟨y, hy, rfl⟩ := List.mem_map.mp hx
  exact h.ins _ (List.mem_of_mem_tail (List.of_mem_zip (List.mem_filter.mp hy).1).2)
theorem pwalks {B Y : D} (hB : IsBook B n a b ps) (hY : IsSp Y s e) (hl : ps.length ≤ 1000) (h : Lanes ps s e Ls) (hs : 0 ≤ s) (he : e ≤ 1000) (S : Store) : fPure f_p_are_walks [B, Y, .tup (Ls.map wayD)] S = .ok (.bl (freeB ps s e Ls)) S := by
  rw [← walksB_lanes h hs]
  refine areWalksP hB hY (by omega) h.len (fun L hL => (h.lane L hL).len) (fun _ => ?_) S
  rw [flat_steps fun L hL => (h.lane L hL).way]
  refine ⟨by rw [List.length_map]; exact h.few, fun p hp => ?_⟩
  obtain ⟨m, hm, rfl⟩ := List.mem_map.mp hp
  obtain ⟨L, hL, hx⟩ := List.mem_flatMap.mp hm
  have := stp_in (h.lane L hL) m hx
  unfold lim
  dsimp only
  omega
end
/-! ### k51: walks of any ints; rows of things; the matter judged -/
section
variable {S : Store} {n a b s e : Int} {ps : List (Int × Int)} {L : List Int} {Ls : List (List Int)}
theorem down_ins : ∀ (L : List Int) (x q : Int), (∀ p ∈ prs (x :: L), p.2 < p.1) → (x :: L).getLast? = some q → (∀ y ∈ x :: L, q ≤ y ∧ y ≤ x) ∧ ((x :: L).length : Int) ≤ x - q + 1
  | [], x, q, _, h => by
    simp at h
    subst h
    simp
  | y :: L, x, q, h, hq => by
    have h1 : y < x := h (x, y) (by show (x, y) ∈ (x, y) :: prs (y :: L); exact List.mem_cons_self ..)
    have ih := down_ins L y q (fun p hp => h p (by show p ∈ (x, y) :: prs (y :: L); exact List.mem_cons_of_mem _ hp)) (by rw [List.getLast?_cons_cons] at hq; exact hq)
    refine ⟨fun z hz => ?_, ?_⟩
    · rcases List.mem_cons.mp hz with rfl | hz
      · have := (ih.1 y (List.mem_cons_self ..)).1
        omega
      · have := ih.1 z hz
        omega
    · have := ih.2
      rw [List.length_cons] at this ⊢
      omega
def lwalkB (ps : List (Int × Int)) (s e : Int) (L : List Int) : Bool := decide (2 ≤ L.length) && decide (L.head? = some e) && decide (L.getLast? = some s) && (prs L).all fun x => decide ((x.2, x.1) ∈ ps) || decide (x.2 = x.1 - 1)
theorem lane_way (hlt : ∀ p ∈ ps, p.1 < p.2) (h1 : L.head? = some e) (h2 : L.getLast? = some s) (h3 : ∀ x ∈ prs L, (x.2, x.1) ∈ ps ∨ x.2 = x.1 - 1) (hl : L.length ≤ 1000) : LaneOk (inL s e ps) s e L ∧ (L.length : Int) ≤ e - s + 1 := by
  cases hL : L with
  | nil => rw [hL] at h1; cases h1
  | cons x M =>
    rw [hL] at h1 h2 h3 hl
    obtain rfl : x = e := by simpa using h1
    obtain ⟨d1, d2⟩ := down_ins M x s (fun p hp => by
      rcases h3 p hp with z | z
      · exact hlt _ z
      · omega) h2
    refine ⟨⟨⟨⟨M, rfl⟩, ?_, fun y hy => ?_⟩, hl, d1⟩, d2⟩
    · obtain ⟨M2, e2⟩ := List.getLast?_eq_some_iff.mp h2
      exact ⟨M2, e2⟩
    · refine (h3 y hy).imp (fun z => mem_inL.mpr ⟨z, ?_, ?_⟩) id
      · exact (d1 _ (List.mem_of_mem_tail (List.of_mem_zip hy).2)).1
      · exact (d1 _ (List.of_mem_zip hy).1).2
theorem lwalk_lane (hlt : ∀ p ∈ ps, p.1 < p.2) (hl : L.length ≤ 1000) (h : lwalkB ps s e L = true) : LaneOk (inL s e ps) s e L ∧ (L.length : Int) ≤ e - s + 1 := by
  unfold lwalkB at h
  simp only [Bool.and_eq_true, decide_eq_true_eq, List.all_eq_true, Bool.or_eq_true] at h
  exact lane_way hlt h.1.1.2 h.1.2 h.2 hl
theorem lane_lwalk (hse : s < e) (h : LaneOk (inL s e ps) s e L) : lwalkB ps s e L = true := by
  obtain ⟨M, e1⟩ := h.way.hd
  obtain ⟨M2, e2⟩ := h.way.lt
  have hl : 2 ≤ L.length := by
    cases M with
    | cons x M => rw [e1]; simp
    | nil =>
      rw [e1] at e2
      cases M2 with
      | nil => simp at e2; omega
      | cons y M2 => simp at e2
  unfold lwalkB
  simp only [Bool.and_eq_true, decide_eq_true_eq, List.all_eq_true, Bool.or_eq_true]
  exact ⟨⟨⟨hl, by rw [e1]; rfl⟩, by rw [e2]; simp⟩, fun x hx => (h.way.pr x hx).imp (fun z => (mem_inL.mp z).1) id⟩
theorem mvs_prs (L : List Int) : mvs L = (prs L).map fun x => (x.2, x.1) := rfl
theorem walk_lane (hlt : ∀ p ∈ ps, p.1 < p.2) (hl : L.length ≤ 1000) (h : walkB (inL s e ps) s e L = true) : LaneOk (inL s e ps) s e L := by
  unfold walkB at h
  simp only [Bool.and_eq_true, decide_eq_true_eq, List.all_eq_true, Bool.or_eq_true] at h
  refine (lane_way hlt h.1.1.2 h.1.2 (fun x hx => ?_) hl).1
  have := h.2 (x.2, x.1) (by rw [mvs_prs]; exact List.mem_map.mpr ⟨x, hx, rfl⟩)
  rcases this with z | z
  · right
    dsimp only at z
    omega
  · exact .inl (mem_inL.mp z).1
theorem lwalk_eq (hlt : ∀ p ∈ ps, p.1 < p.2) (hs : 0 ≤ s) (hse : s < e) (hl : L.length ≤ 1000) : walkB (inL s e ps) s e L = lwalkB ps s e L := by
  rw [Bool.eq_iff_iff]
  constructor
  · exact fun h => lane_lwalk hse (walk_lane hlt hl h)
  · intro h
    have := (lwalk_lane hlt hl h).1
    exact walkB_of this.way this.ins hs
/-- the law's is_walk on any ints -/
theorem isWalkL (hL : L.length ≤ 1000) (S : Store) : fPure f_l_is_walk [looksD ps, pairD (s, e), wayD L] S = .ok (.bl (lwalkB ps s e L)) S := by
  have p0 : pureL [looksD ps, pairD (s, e), wayD L] = true := by
    have a1 : pureD (looksD ps) = true := pureL_map (fun _ => rfl) ps
    have a2 : pureD (wayD L) = true := pure_ints L
    have a3 : pureD (pairD (s, e)) = true := rfl
    simp only [pureL_cons, a1, a2, a3, pureL_nil]
    rfl
  refine fPure_ap S p0 ?_
  have y0 : pairD (s, e) = .tup [.int s, .int e] := rfl
  cases hLL : L with
  | nil =>
    unfold f_l_is_walk m_l_is_walk
    rw [fnM_3, y0]
    unfold wayD
    generalize looksD ps = K at *
    simp [lwalkB, fin_nil]
  | cons x0 M =>
    rw [← hLL]
    have i0 : ∀ S, opIx (.tup (L.map .int)) (.int 0) S = .ok (.int x0) S := fun S => by
      show oRes (atI (L.map D.int) 0) S = _
      rw [hLL, List.map_cons, atI_0]
      rfl
    obtain ⟨M2, xl, e2⟩ : ∃ M2 xl, L = M2 ++ [xl] := ⟨L.dropLast, L.getLast (by rw [hLL]; simp), (List.dropLast_concat_getLast _).symm⟩
    have i1 : ∀ S, opIx (.tup (L.map .int)) (.int (-1)) S = .ok (.int xl) S := fun S => by
      show oRes (atI (L.map D.int) (-1)) S = _
      rw [e2, List.map_append, List.map_cons, List.map_nil, atI_last]
      rfl
    have pz : (prs L).length ≤ 1000 := Nat.le_trans (prs_len L) hL
    have lc : ∀ v2 S, lcL (mgTup 2 (mgCons (mgN 3) (mgCons (mgN 4) mgNil))) mYes (mOrV (mOp opIn (mTup (mCons (mVar 4) (mCons (mVar 3) mNil))) (mVar 0)) (mOp opEq (mVar 4) (mOp opSubI (mVar 3) (mC (.int 1))))) [some (looksD ps), some (pairD (s, e)), v2, none, none] ((prs L).map pairD) S = .ok ((prs L).map fun x => D.bl (decide ((x.2, x.1) ∈ ps) || decide (x.2 = x.1 - 1))) S := fun v2 S => lcL_mapx _ S fun x hx => ⟨[some (looksD ps), some (pairD (s, e)), v2, some (.int x.1), some (.int x.2)], by simp [pairD], by
      have il := in_looks (S := S) (ps := ps) (p := (x.2, x.1))
      have eqi : opEq (.int x.2) (.int (x.1 - 1)) S = .ok (.bl (decide (x.2 = x.1 - 1))) S := by
        rw [eq_plain rfl rfl]
        show Res.ok (D.bl (x.2 == x.1 - 1)) S = _
        rfl
      generalize looksD ps = K at *
      generalize pairD (s, e) = Y at *
      by_cases hm : (x.2, x.1) ∈ ps
      · rw [decide_eq_true hm] at il ⊢
        simp [il]
      · rw [decide_eq_false hm] at il ⊢
        simp [il, eqi]⟩
    have al := fun S => all_map (fun x : Int × Int => decide ((x.2, x.1) ∈ ps) || decide (x.2 = x.1 - 1)) (prs L) S
    have zz : ∀ S, zipItems [.tup (L.map .int), .tup ((L.map .int).drop 1)] S = .ok ((prs L).map pairD) S := fun S => by
      show Res.ok (zipD _ _) S = _
      rw [zip_prs]
    have hz : ((prs L).map pairD).length ≤ 100000 := by rw [List.length_map]; omega
    have lz : (L.map D.int).length ≤ 100000 := by rw [List.length_map]; omega
    have dz : ((L.map D.int).drop 1).length ≤ 100000 := by rw [List.length_drop]; omega
    have c1 := cutD_suf1 (L.map .int)
    have nei : ∀ (x y : Int) S, opNe (.int x) (.int y) S = .ok (.bl (!decide (x = y))) S := fun x y S => by
      rw [ne_plain rfl rfl]
      show Res.ok (D.bl (!(x == y))) S = _
      rfl
    have hd : L.head? = some x0 := by rw [hLL]; rfl
    have lt : L.getLast? = some xl := by rw [e2]; simp
    have hlen : (((L.map D.int).length : Nat) : Int) = ((L.length : Nat) : Int) := by rw [List.length_map]
    unfold lwalkB
    rw [hd, lt]
    unfold wayD
    clear hLL e2 hd lt
    generalize hM : (prs L).all (fun x => decide ((x.2, x.1) ∈ ps) || decide (x.2 = x.1 - 1)) = cM at *
    generalize ((prs L).map fun x => D.bl (decide ((x.2, x.1) ∈ ps) || decide (x.2 = x.1 - 1))) = TT at *
    generalize (prs L).map pairD = ZZ at *
    generalize hDD : (L.map D.int).drop 1 = DD at *
    generalize L.map D.int = LL at *
    unfold f_l_is_walk m_l_is_walk
    rw [fnM_3]
    rw [y0] at lc ⊢
    generalize looksD ps = K at *
    by_cases h2 : 2 ≤ L.length
    · have hl2 : ¬ (((L.length : Nat) : Int) < 2) := by omega
      by_cases h0 : x0 = e
      · by_cases h1 : xl = s
        · simp [hlen, hl2, h2, i0, i1, nei, h0, h1, zz, hz, lz, dz, c1, lc, al, fin_nil]
        · simp [hlen, hl2, h2, i0, i1, nei, h0, h1, fin_nil]
      · simp [hlen, hl2, h2, i0, nei, h0, fin_nil]
    · have hl2 : ((L.length : Nat) : Int) < 2 := by omega
      simp [hlen, hl2, h2, fin_nil]
theorem aw_bad (hlt : ∀ p ∈ ps, p.1 < p.2) {v2 : Option D} {S : Store} : ∀ (Ls : List (List Int)) (acc : List Int) (v4 : Option D), (∀ L ∈ Ls, L.length ≤ 1000) → Ls.all (lwalkB ps s e) = false → acc.length + 1000 * Ls.length ≤ 100000 →
    forL (mgN 4) mAw (Ls.map wayD) [some (looksD ps), some (pairD (s, e)), v2, some (.lst (acc.map .int)), v4] S = .ok (.rt (.bl false)) S
  | [], acc, v4, _, h, _ => by simp at h
  | L :: Ls, acc, v4, hl, h, hn => by
    have l1 := hl L (List.mem_cons_self ..)
    have iw := isWalkL (ps := ps) (s := s) (e := e) l1 S
    rw [List.length_cons] at hn
    rw [List.map_cons, forL_cons]
    have h0 : mgN 4 (wayD L) [some (looksD ps), some (pairD (s, e)), v2, some (.lst (acc.map .int)), v4] S = .ok [some (looksD ps), some (pairD (s, e)), v2, some (.lst (acc.map .int)), some (wayD L)] S := rfl
    rw [h0, bind_ok, forBK_ap]
    cases hc : lwalkB ps s e L with
    | false =>
      rw [hc] at iw
      have hb : mAw [some (looksD ps), some (pairD (s, e)), v2, some (.lst (acc.map .int)), some (wayD L)] S = .ok (.rt (.bl false)) S := by
        unfold mAw
        generalize wayD L = W at *
        generalize looksD ps = K at *
        generalize pairD (s, e) = Y at *
        simp [iw]
      rw [hb, bind_ok]
      rfl
    | true =>
      rw [hc] at iw
      obtain ⟨lane, _⟩ := lwalk_lane hlt l1 hc
      have sl : (stp (inL s e ps) L).length ≤ 1000 := by
        unfold stp
        rw [List.length_map]
        exact Nat.le_trans (List.length_filter_le _ _) (Nat.le_trans (prs_len L) l1)
      have h' : Ls.all (lwalkB ps s e) = false := by rw [List.all_cons, hc, Bool.true_and] at h; exact h
      have ih := aw_bad hlt (v2 := v2) (S := S) Ls (acc ++ stp (inL s e ps) L) (some (wayD L)) (fun M hM => hl M (List.mem_cons_of_mem _ hM)) h' (by rw [List.length_append]; omega)
      have sw := stepsW lane S
      have al : (acc.map D.int).length + ((stp (inL s e ps) L).map D.int).length ≤ 100000 := by simp only [List.length_map]; omega
      have e1 : (acc ++ stp (inL s e ps) L).map D.int = acc.map .int ++ (stp (inL s e ps) L).map .int := List.map_append
      rw [e1] at ih
      have hb : mAw [some (looksD ps), some (pairD (s, e)), v2, some (.lst (acc.map .int)), some (wayD L)] S = .ok (.nx [some (looksD ps), some (pairD (s, e)), v2, some (.lst (acc.map .int ++ (stp (inL s e ps) L).map .int)), some (wayD L)]) S := by
        unfold mAw
        generalize (stp (inL s e ps) L).map D.int = ZZ at *
        generalize acc.map D.int = AA at *
        generalize wayD L = W at *
        generalize looksD ps = K at *
        generalize pairD (s, e) = Y at *
        simp [iw, sw, al]
      rw [hb, bind_ok]
      exact ih
/-- the law's are_walks on rows of ints -/
def rowsB (ps : List (Int × Int)) (s e : Int) (Ls : List (List Int)) : Bool := Ls.all (lwalkB ps s e) && freeB ps s e Ls
theorem stp_len (h : (L.length : Int) ≤ e - s + 1) (hne : L ≠ []) (K : List (Int × Int)) : ((stp K L).length : Int) ≤ e - s := by
  have h1 : (stp K L).length ≤ (prs L).length := by
    unfold stp
    rw [List.length_map]
    exact List.length_filter_le _ _
  have h2 : (prs L).length = min L.length (L.length - 1) := by
    unfold prs
    rw [List.length_zip, List.length_tail]
  have h3 : 0 < L.length := List.length_pos_iff.mpr hne
  omega
theorem few_of (hlt : ∀ p ∈ ps, p.1 < p.2) : ∀ (Ls : List (List Int)), (∀ L ∈ Ls, L.length ≤ 1000) → Ls.all (lwalkB ps s e) = true → ((Ls.flatMap (stp (inL s e ps))).length : Int) ≤ (e - s) * Ls.length
  | [], _, _ => by simp
  | L :: Ls, hl, h => by
    rw [List.all_cons, Bool.and_eq_true] at h
    have ih := few_of hlt Ls (fun M hM => hl M (List.mem_cons_of_mem _ hM)) h.2
    obtain ⟨lane, len⟩ := lwalk_lane hlt (hl L (List.mem_cons_self ..)) h.1
    have := stp_len len lane.way.ne_nil (inL s e ps)
    rw [List.flatMap_cons, List.length_append, List.length_cons]
    have e1 : (e - s) * ((Ls.length + 1 : Nat) : Int) = (e - s) * (Ls.length : Int) + (e - s) := by rw [Int.natCast_add, Int.mul_add]; simp
    omega
theorem lanes_of (hlt : ∀ p ∈ ps, p.1 < p.2) (hl : ∀ L ∈ Ls, L.length ≤ 1000) (h : Ls.all (lwalkB ps s e) = true) (hr : e - s ≤ 10) (hse : s < e) (h5 : Ls.length ≤ 6) : Lanes ps s e Ls := by
  have f := few_of hlt Ls hl h
  refine ⟨fun L hL => (lwalk_lane hlt (hl L hL) (List.all_eq_true.mp h L hL)).1, ?_, by omega⟩
  have : (e - s) * (Ls.length : Int) ≤ 10 * 6 := Int.mul_le_mul hr (by omega) (by omega) (by omega)
  omega
theorem l_rows (hlt : ∀ p ∈ ps, p.1 < p.2) (hr : e - s ≤ 10) (hse : s < e) (hl : ∀ L ∈ Ls, L.length ≤ 1000) (h5 : Ls.length ≤ 6) (S : Store) : fPure f_l_are_walks [looksD ps, pairD (s, e), .tup (Ls.map wayD)] S = .ok (.bl (rowsB ps s e Ls)) S := by
  unfold rowsB
  cases h : Ls.all (lwalkB ps s e) with
  | true =>
    have la := lanes_of hlt hl h hr hse h5
    rw [Bool.true_and]
    exact areWalksT hse (by omega) la.lane la.few S
  | false =>
    have a1 : pureD (looksD ps) = true := pureL_map (fun _ => rfl) ps
    have a2 := pure_ways Ls
    have a3 : pureD (pairD (s, e)) = true := rfl
    refine fPure_ap S (by simp only [pureL_cons, pureD_tup, a1, a2, a3, pureL_nil]; rfl) ?_
    have lp := aw_bad (v2 := some (.tup (Ls.map wayD))) (S := []) (s := s) (e := e) hlt Ls [] none hl h (by simp only [List.length_nil]; omega)
    have hz : (Ls.map wayD).length ≤ 100000 := by rw [List.length_map]; omega
    rw [List.map_nil] at lp
    unfold f_l_are_walks m_l_are_walks
    rw [fnM_3]
    show endM _ ((mSeq _ (mSeq (mFor _ _ mAw) _)) _ _) = _
    generalize mAw = M at *
    generalize Ls.map wayD = W at *
    generalize looksD ps = K at *
    generalize pairD (s, e) = Y at *
    simp -implicitDefEqProofs [hz, lp, fin_nil]
theorem p_rows {B Y : D} (hB : IsBook B n a b ps) (hY : IsSp Y s e) (hpl : ps.length ≤ 1000) (hlt : ∀ p ∈ ps, p.1 < p.2) (hs : 0 ≤ s) (he : e ≤ 1000) (hr : e - s ≤ 10) (hse : s < e) (hl : ∀ L ∈ Ls, L.length ≤ 1000) (h5 : Ls.length ≤ 6) (S : Store) : fPure f_p_are_walks [B, Y, .tup (Ls.map wayD)] S = .ok (.bl (rowsB ps s e Ls)) S := by
  have eq : Ls.all (walkB (inL s e ps) s e) = Ls.all (lwalkB ps s e) := by
    rw [Bool.eq_iff_iff, List.all_eq_true, List.all_eq_true]
    exact ⟨fun h L hL => by rw [← lwalk_eq hlt hs hse (hl L hL)]; exact h L hL, fun h L hL => by rw [lwalk_eq hlt hs hse (hl L hL)]; exact h L hL⟩
  unfold rowsB
  cases h : Ls.all (lwalkB ps s e) with
  | true =>
    rw [Bool.true_and]
    exact pwalks hB hY hpl (lanes_of hlt hl h hr hse h5) hs he S
  | false =>
    have := areWalksP hB hY (by omega) (Ls := Ls) (by omega) hl (fun z => by rw [eq, h] at z; cases z) S
    rw [this]
    unfold walksB
    rw [eq, h, Bool.false_and, Bool.false_and]
/-- a thing that is no tuple -/
def noTup : D → Bool
  | .tup _ => false
  | _ => true
/-- what the rows may be: walks of ints, rows with a thing that is no int, or no rows at all -/
inductive Row : D → Prop
  | nums (L : List Int) (h : L.length ≤ 1000) : Row (wayD L)
  | bad (xs : List D) (hx : ∀ d ∈ xs, okish d = true) (hl : xs.length ≤ 1000) (hb : ∃ d ∈ xs, isNum d = false) : Row (.tup xs)
  | odd (d : D) (h : noTup d = true) (hp : okish d = true) : Row d
def IsInts (d : D) : Prop := ∃ L : List Int, d = wayD L ∧ L.length ≤ 1000
theorem okish_pure {d : D} (h : okish d = true) : pureD d = true := by
  unfold okish at h
  rw [Bool.and_eq_true] at h
  exact okD_pure 15 d h.1
theorem Row.pure {d : D} (h : Row d) : pureD d = true := by
  cases h with
  | nums L h => exact pure_ints L
  | bad xs hx hl hb => exact pureL_all.mpr fun d hd => okish_pure (hx d hd)
  | odd d h hp => exact okish_pure hp
/-- the program's is_walk on a row -/
theorem rowP {B : D} (hB : IsBook B n a b ps) (hpl : ps.length ≤ 1000) {d : D} (h : Row d) (hno : ¬ IsInts d) (S : Store) : fPure f_p_is_walk [B, spD s e, d] S = .ok (.bl false) S := by
  have pB := hB.pure
  have pd := h.pure
  refine fPure_ap S (by simp only [pureL_cons, pB, pure_str, pd, pureL_nil]; rfl) ?_
  unfold f_p_is_walk m_p_is_walk
  rw [fnM_3]
  cases h with
  | nums L h => exact absurd ⟨L, rfl, h⟩ hno
  | bad xs hx hl hb =>
    obtain ⟨d0, hd0, hn0⟩ := hb
    have hz : xs.length ≤ 100000 := by omega
    have lc : ∀ v0 v1 v3 v4 v5 S, lcL (mgN 6) mYes (mCall (fPure f_p_is_number) (mCons (mVar 6) (mCons (mC (.int 0)) mNil))) [v0, v1, some (.tup xs), v3, v4, v5, none, none, none] xs S = .ok (xs.map fun d => D.bl (numOf d)) S := fun v0 v1 v3 v4 v5 S => by
      refine lcL_map xs S fun d hd => ⟨[v0, v1, some (.tup xs), v3, v4, v5, some d, none, none], rfl, ?_⟩
      have np := numPD (hx d hd) S
      simp [np]
    have al := fun S => all_map numOf xs S
    have af : xs.all numOf = false := by
      rw [List.all_eq_false]
      exact ⟨d0, hd0, by cases d0 <;> first | (simp [numOf]; done) | (simp [isNum] at hn0; done)⟩
    have ne : xs ≠ [] := fun z => by rw [z] at hd0; cases hd0
    rw [af] at al
    generalize (xs.map fun d => D.bl (numOf d)) = ZZ at *
    unfold spD
    simp -implicitDefEqProofs [hz, lc, al, fin_nil, isTy, ne]
  | odd d h hp =>
    unfold okish at hp
    unfold spD
    cases d with
    | tup xs => cases h
    | non => simp [fin_nil, isTy]
    | bl b => simp [fin_nil, isTy]
    | int x => simp [fin_nil, isTy]
    | str x => simp [fin_nil, isTy]
    | lst xs => simp [fin_nil, isTy]
    | fro xs => simp [okD] at hp
    | obj c xs => simp [okD] at hp
    | exn c xs => simp [okD] at hp
    | ref k => simp [okD] at hp
open Classical in
noncomputable def rowV (ps : List (Int × Int)) (s e : Int) (d : D) : Bool := if h : IsInts d then walkB (inL s e ps) s e (Classical.choose h) else false
open Classical in
theorem rowV_ok {B : D} (hB : IsBook B n a b ps) (hpl : ps.length ≤ 1000) {d : D} (h : Row d) (S : Store) : fPure f_p_is_walk [B, spD s e, d] S = .ok (.bl (rowV ps s e d)) S := by
  unfold rowV
  by_cases hi : IsInts d
  · rw [dif_pos hi]
    have c := Classical.choose_spec hi
    generalize Classical.choose hi = L at *
    rw [c.1]
    exact isWalkP hB (by omega) c.2 S
  · rw [dif_neg hi]
    exact rowP hB hpl h hi S
/-- a row that is not of ints: are_walks tells no -/
theorem p_odd {B Y : D} (hB : IsBook B n a b ps) (hY : IsSp Y s e) (hpl : ps.length ≤ 1000) {ds : List D} (hd : ∀ d ∈ ds, Row d) (hl : ds.length ≤ 1000) (hno : ∃ d ∈ ds, ¬ IsInts d) (S : Store) : fPure f_p_are_walks [B, Y, .tup ds] S = .ok (.bl false) S := by
  have pB := hB.pure
  have pY := hY.pure
  have pd : pureL ds = true := pureL_all.mpr fun d h => (hd d h).pure
  refine fPure_ap S (by simp only [pureL_cons, pB, pY, pureD_tup, pd, pureL_nil]; rfl) ?_
  have tY := hY.tup
  have hz : ds.length ≤ 100000 := by omega
  have lc : ∀ v4 v5 S, lcL (mgN 6) mYes (mCall (fPure f_p_is_walk) (mCons (mVar 0) (mCons (mVar 3) (mCons (mVar 6) mNil)))) [some B, some Y, some (.tup ds), some (spD s e), v4, v5, none, none, none] ds S = .ok (ds.map fun d => D.bl (rowV ps s e d)) S := fun v4 v5 S => by
    refine lcL_map ds S fun d h => ⟨[some B, some Y, some (.tup ds), some (spD s e), v4, v5, some d, none, none], rfl, ?_⟩
    have iw := rowV_ok (s := s) (e := e) hB hpl (hd d h) S
    generalize spD s e = Z at *
    simp [iw]
  have al := fun S => all_map (rowV ps s e) ds S
  have af : ds.all (rowV ps s e) = false := by
    obtain ⟨d, h, hn⟩ := hno
    rw [List.all_eq_false]
    refine ⟨d, h, ?_⟩
    unfold rowV
    rw [dif_neg hn]
    simp
  rw [af] at al
  generalize (ds.map fun d => D.bl (rowV ps s e d)) = ZZ at *
  unfold f_p_are_walks m_p_are_walks
  rw [fnM_3]
  generalize spD s e = Z at *
  simp -implicitDefEqProofs [tY, hz, lc, al, fin_nil, isTy]
theorem p_not {B Y T : D} (hB : IsBook B n a b ps) (hY : IsSp Y s e) (h : noTup T = true) (hp : okish T = true) (S : Store) : fPure f_p_are_walks [B, Y, T] S = .ok (.bl false) S := by
  have pB := hB.pure
  have pY := hY.pure
  have pT := okish_pure hp
  refine fPure_ap S (by simp only [pureL_cons, pB, pY, pT, pureL_nil]; rfl) ?_
  have tY := hY.tup
  unfold okish at hp
  unfold f_p_are_walks m_p_are_walks
  rw [fnM_3]
  generalize spD s e = Z at *
  cases T with
  | tup xs => cases h
  | non => simp [tY, fin_nil, isTy]
  | bl b => simp [tY, fin_nil, isTy]
  | int x => simp [tY, fin_nil, isTy]
  | str x => simp [tY, fin_nil, isTy]
  | lst xs => simp [tY, fin_nil, isTy]
  | fro xs => simp [okD] at hp
  | obj c xs => simp [okD] at hp
  | exn c xs => simp [okD] at hp
  | ref k => simp [okD] at hp
end
/-! ### k51: what the law says is due; both judges agree -/
def mDue : MS := (mSeq (mIf (mNotT (mTest (mIsi .tuple (mVar 3)))) (mRet (mC (.bl false))) mSkip)
  (mIf (mTB (mOp opNe (mLc (mItems (mVar 3)) (mgN 4) (mOrT (mNotT (mTest (mIsi .int (mVar 4)))) (mTest (mIsi .bool (mVar 4)))) (mVar 4) [4]) (mLst mNil))) (mRet (mC (.bl false))) mSkip))
section
variable {S : Store} {n a b s e : Int} {ps : List (Int × Int)} {v0 v1 v2 : Option D}
def nNum (d : D) : Bool := !isNum d
theorem nNumT {d : D} (h : okish d = true) (v0 v1 v2 v3 : Option D) (S : Store) : (mOrT (mNotT (mTest (mIsi .int (mVar 4)))) (mTest (mIsi .bool (mVar 4)))) [v0, v1, v2, v3, some d] S = .ok (nNum d) S := by
  unfold okish at h
  cases d with
  | non => simp [isTy, nNum, isNum]
  | bl b => simp [isTy, nNum, isNum]
  | int x => simp [isTy, nNum, isNum]
  | str x => simp [isTy, nNum, isNum]
  | tup xs => simp [isTy, nNum, isNum]
  | lst xs => simp [isTy, nNum, isNum]
  | fro xs => simp [okD] at h
  | obj c xs => simp [okD] at h
  | exn c xs => simp [okD] at h
  | ref k => simp [okD] at h
theorem due_row {xs : List D} (hx : ∀ d ∈ xs, okish d = true) (hl : xs.length ≤ 1000) (S : Store) : mDue [v0, v1, v2, some (.tup xs), none] S = if xs.any nNum then .ok (.rt (.bl false)) S else .ok (.nx [v0, v1, v2, some (.tup xs), none]) S := by
  have hz : xs.length ≤ 100000 := by omega
  have lf : lcL (mgN 4) (mOrT (mNotT (mTest (mIsi .int (mVar 4)))) (mTest (mIsi .bool (mVar 4)))) (mVar 4) [v0, v1, v2, some (.tup xs), none] xs S = .ok (xs.filter nNum) S := by
    have := lcL_filtermap (u := fun d : D => d) (w := fun d : D => d) (q := nNum) (g := mgN 4) (t := mOrT (mNotT (mTest (mIsi .int (mVar 4)))) (mTest (mIsi .bool (mVar 4)))) (m := mVar 4) (ρ := [v0, v1, v2, some (.tup xs), none]) xs S fun d hd => ⟨[v0, v1, v2, some (.tup xs), some d], rfl, nNumT (hx d hd) v0 v1 v2 _ S, by simp⟩
    rw [List.map_id', List.map_id'] at this
    exact this
  have sh : shal 20 (.lst (xs.filter nNum)) = true := by
    rw [shal_lst, List.all_eq_true]
    intro d hd
    have := hx d (List.mem_filter.mp hd).1
    unfold okish at this
    rw [Bool.and_eq_true] at this
    exact this.2
  have neF : opNe (.lst (xs.filter nNum)) (.lst []) S = .ok (.bl (xs.any nNum)) S := by
    rw [ne_plain sh rfl]
    cases hc : xs.filter nNum with
    | nil =>
      have : xs.any nNum = false := by
        rw [List.any_eq_false]
        intro x hx
        rw [List.filter_eq_nil_iff] at hc
        exact hc x hx
      rw [this]
      rfl
    | cons x ys =>
      have : xs.any nNum = true := by
        have hm : x ∈ xs.filter nNum := by rw [hc]; exact List.mem_cons_self ..
        obtain ⟨h1, h2⟩ := List.mem_filter.mp hm
        exact List.any_eq_true.mpr ⟨x, h1, h2⟩
      rw [this]
      rfl
  unfold mDue
  generalize xs.filter nNum = F at *
  generalize xs.any nNum = bb at *
  cases bb <;> simp -implicitDefEqProofs [hz, lf, neF, isTy]
theorem okish_int (x : Int) : okish (.int x) = true := by
  unfold okish
  simp
theorem due_ints {L : List Int} (hl : L.length ≤ 1000) (S : Store) : mDue [v0, v1, v2, some (wayD L), none] S = .ok (.nx [v0, v1, v2, some (wayD L), none]) S := by
  have := due_row (v0 := v0) (v1 := v1) (v2 := v2) (xs := L.map .int) (fun d hd => by
    obtain ⟨x, _, rfl⟩ := List.mem_map.mp hd
    exact okish_int x) (by rw [List.length_map]; exact hl) S
  have e : (L.map D.int).any nNum = false := by
    rw [List.any_eq_false]
    intro d hd
    obtain ⟨x, _, rfl⟩ := List.mem_map.mp hd
    simp [nNum, isNum]
  rw [e] at this
  exact this
theorem due_not {d : D} (h : Row d) (hno : ¬ IsInts d) (S : Store) : mDue [v0, v1, v2, some d, none] S = .ok (.rt (.bl false)) S := by
  cases h with
  | nums L h => exact absurd ⟨L, rfl, h⟩ hno
  | bad xs hx hl hb =>
    rw [due_row hx hl S]
    have : xs.any nNum = true := by
      obtain ⟨d, h1, h2⟩ := hb
      exact List.any_eq_true.mpr ⟨d, h1, by rw [nNum, h2]; rfl⟩
    rw [this]
    rfl
  | odd d h hp =>
    unfold okish at hp
    unfold mDue
    cases d with
    | tup xs => cases h
    | non => simp [isTy]
    | bl b => simp [isTy]
    | int x => simp [isTy]
    | str x => simp [isTy]
    | lst xs => simp [isTy]
    | fro xs => simp [okD] at hp
    | obj c xs => simp [okD] at hp
    | exn c xs => simp [okD] at hp
    | ref k => simp [okD] at hp
theorem due_all : ∀ (Ls : List (List Int)) (v3 : Option D), (∀ L ∈ Ls, L.length ≤ 1000) → ∃ w3, forL (mgN 3) mDue (Ls.map wayD) [v0, v1, v2, v3, none] S = .ok (.nx [v0, v1, v2, w3, none]) S
  | [], v3, _ => ⟨v3, rfl⟩
  | L :: Ls, v3, h => by
    obtain ⟨w3, ih⟩ := due_all Ls (some (wayD L)) fun M hM => h M (List.mem_cons_of_mem _ hM)
    refine ⟨w3, ?_⟩
    have st := due_ints (v0 := v0) (v1 := v1) (v2 := v2) (h L (List.mem_cons_self ..)) S
    have h0 : mgN 3 (wayD L) [v0, v1, v2, v3, none] S = .ok [v0, v1, v2, some (wayD L), none] S := rfl
    rw [List.map_cons, forL_cons, h0, bind_ok, forBK_ap, st, bind_ok]
    exact ih
theorem due_some : ∀ (ds : List D) (v3 : Option D), (∀ d ∈ ds, Row d) → (∃ d ∈ ds, ¬ IsInts d) → forL (mgN 3) mDue ds [v0, v1, v2, v3, none] S = .ok (.rt (.bl false)) S
  | [], v3, _, h => by obtain ⟨d, h, _⟩ := h; cases h
  | d :: ds, v3, h, hno => by
    have h0 : mgN 3 d [v0, v1, v2, v3, none] S = .ok [v0, v1, v2, some d, none] S := rfl
    rw [forL_cons, h0, bind_ok, forBK_ap]
    by_cases hi : IsInts d
    · obtain ⟨L, rfl, hL⟩ := hi
      rw [due_ints hL S, bind_ok]
      refine due_some ds (some (wayD L)) (fun x hx => h x (List.mem_cons_of_mem _ hx)) ?_
      obtain ⟨x, hx, hn⟩ := hno
      rcases List.mem_cons.mp hx with rfl | hx
      · exact absurd ⟨L, rfl, hL⟩ hn
      · exact ⟨x, hx, hn⟩
    · rw [due_not (h d (List.mem_cons_self ..)) hi S, bind_ok]
      rfl
/-- both judges tell v -/
structure Jdg (n a b s e : Int) (ps : List (Int × Int)) (M : D) (v : Bool) : Prop where
  law : ∀ S, fPure f_l_due [looksD ps, pairD (s, e), M] S = .ok (.bl v) S
  prog : ∀ B Y, IsBook B n a b ps → IsSp Y s e → ∀ S, fPure f_p_are_walks [B, Y, M] S = .ok (.bl v) S
  pure : pureD M = true
theorem pure_looks (ps : List (Int × Int)) : pureD (looksD ps) = true := pureL_map (fun _ => rfl) ps
theorem jdg_rows (hlt : ∀ p ∈ ps, p.1 < p.2) (hpl : ps.length ≤ 1000) (hs : 0 ≤ s) (he : e ≤ 1000) (hr : e - s ≤ 10) (hse : s < e) {Ls : List (List Int)} (hl : ∀ L ∈ Ls, L.length ≤ 1000) (h5 : Ls.length ≤ 6) : Jdg n a b s e ps (.tup (Ls.map wayD)) (rowsB ps s e Ls) := by
  refine ⟨fun S => fPure_ap S (by simp only [pureL_cons, pureD_tup, pure_looks, pure_ways, pureL_nil]; rfl) ?_, fun B Y hB hY S => p_rows hB hY hpl hlt hs he hr hse hl h5 S, pure_ways Ls⟩
  have ar := fun S => l_rows (s := s) (e := e) hlt hr hse hl h5 S
  obtain ⟨w3, lp⟩ := due_all (S := []) (v0 := some (looksD ps)) (v1 := some (pairD (s, e))) (v2 := some (.tup (Ls.map wayD))) Ls none hl
  have hz : (Ls.map wayD).length ≤ 100000 := by rw [List.length_map]; omega
  unfold f_l_due m_l_due
  rw [fnM_3]
  show endM _ ((mSeq _ (mSeq (mFor _ _ mDue) _)) _ _) = _
  generalize mDue = M at *
  generalize Ls.map wayD = W at *
  generalize looksD ps = K at *
  generalize pairD (s, e) = Y at *
  simp -implicitDefEqProofs [hz, lp, ar, fin_nil, isTy]
theorem jdg_odd (hpl : ps.length ≤ 1000) {ds : List D} (hd : ∀ d ∈ ds, Row d) (hl : ds.length ≤ 1000) (hno : ∃ d ∈ ds, ¬ IsInts d) : Jdg n a b s e ps (.tup ds) false := by
  have pd : pureL ds = true := pureL_all.mpr fun d h => (hd d h).pure
  refine ⟨fun S => fPure_ap S (by simp only [pureL_cons, pureD_tup, pure_looks, pd, pureL_nil]; rfl) ?_, fun B Y hB hY S => p_odd hB hY hpl hd hl hno S, pd⟩
  have lp := due_some (S := []) (v0 := some (looksD ps)) (v1 := some (pairD (s, e))) (v2 := some (.tup ds)) ds none hd hno
  have hz : ds.length ≤ 100000 := by omega
  unfold f_l_due m_l_due
  rw [fnM_3]
  show endM _ ((mSeq _ (mSeq (mFor _ _ mDue) _)) _ _) = _
  generalize mDue = M at *
  generalize looksD ps = K at *
  generalize pairD (s, e) = Y at *
  simp -implicitDefEqProofs [hz, lp, fin_nil, isTy]
theorem jdg_not {M : D} (h : noTup M = true) (hp : okish M = true) : Jdg n a b s e ps M false := by
  have pM := okish_pure hp
  refine ⟨fun S => fPure_ap S (by simp only [pureL_cons, pM, pure_looks, pureL_nil]; rfl) ?_, fun B Y hB hY S => p_not hB hY h hp S, pM⟩
  unfold okish at hp
  unfold f_l_due m_l_due
  rw [fnM_3]
  generalize looksD ps = K at *
  generalize pairD (s, e) = Y at *
  cases M with
  | tup xs => cases h
  | non => simp [fin_nil, isTy]
  | bl b => simp [fin_nil, isTy]
  | int x => simp [fin_nil, isTy]
  | str x => simp [fin_nil, isTy]
  | lst xs => simp [fin_nil, isTy]
  | fro xs => simp [okD] at hp
  | obj c xs => simp [okD] at hp
  | exn c xs => simp [okD] at hp
  | ref k => simp [okD] at hp
/-- the matter -/
inductive Matter : D → Prop
  | rows (ds : List D) (h : ∀ d ∈ ds, Row d) (hl : ds.length ≤ 6) : Matter (.tup ds)
  | odd (M : D) (h : noTup M = true) (hp : okish M = true) : Matter M
theorem ints_rows : ∀ (ds : List D), (∀ d ∈ ds, IsInts d) → ∃ Ls : List (List Int), ds = Ls.map wayD ∧ ∀ L ∈ Ls, L.length ≤ 1000
  | [], _ => ⟨[], rfl, by simp⟩
  | d :: ds, h => by
    obtain ⟨L, rfl, hL⟩ := h d (List.mem_cons_self ..)
    obtain ⟨Ls, rfl, hLs⟩ := ints_rows ds fun x hx => h x (List.mem_cons_of_mem _ hx)
    exact ⟨L :: Ls, rfl, fun M hM => (List.mem_cons.mp hM).elim (fun z => z ▸ hL) (hLs M)⟩
theorem Matter.jdg {M : D} (h : Matter M) (hlt : ∀ p ∈ ps, p.1 < p.2) (hpl : ps.length ≤ 1000) (hs : 0 ≤ s) (he : e ≤ 1000) (hr : e - s ≤ 10) (hse : s < e) : ∃ v, Jdg n a b s e ps M v := by
  cases h with
  | odd M h hp => exact ⟨_, jdg_not h hp⟩
  | rows ds h hl =>
    by_cases hi : ∃ d ∈ ds, ¬ IsInts d
    · exact ⟨_, jdg_odd hpl h (by omega) hi⟩
    · obtain ⟨Ls, rfl, hLs⟩ := ints_rows ds fun d hd => Classical.byContradiction fun z => hi ⟨d, hd, z⟩
      rw [List.length_map] at hl
      exact ⟨_, jdg_rows hlt hpl hs he hr hse hLs hl⟩
theorem oneR {M : D} {v : Bool} (h : Jdg n a b s e ps M v) (hpl : ps.length ≤ 1000) (S : Store) : fPure f_l_one_right [bookD n a b ps, pairD (s, e), M] S = .ok (.bl true) S := by
  have hB := isBook (many := n) (a := a) (b := b) (ps := ps) (by omega)
  have hL := isBookL (many := n) (a := a) (b := b) (ps := ps) (by omega)
  have pB := hB.pure
  have pM := h.pure
  have y0 : pairD (s, e) = .tup [.int s, .int e] := rfl
  refine fPure_ap S (by simp only [pureL_cons, pB, pM, pureL_nil]; rfl) ?_
  have k1 := h.law
  have k2 := h.prog _ _ hB (isSp s e)
  have k3 := h.prog _ _ hL (isSpL s e)
  have ls := fun S => lists_book (n := n) (a := a) (b := b) (ps := ps) S (by omega)
  have i2 : ∀ S, opIx (bookD n a b ps) (.int 2) S = .ok (looksD ps) S := fun S => rfl
  have sm := sameP (d := .lst [.bl v, .bl v]) [] rfl
  unfold spLD at k3
  unfold spD at k2
  rw [y0] at k1 ⊢
  generalize bookLD n a b ps = BL at *
  generalize bookD n a b ps = BD at *
  generalize looksD ps = K at *
  unfold f_l_one_right m_l_one_right
  rw [fnM_3]
  simp -implicitDefEqProofs [i2, k1, k2, k3, ls, sm, place, fin_nil]
end
/-! ### k51: a drawn walk -/
def mDw : MS := (mSeq (mAsg (mLc (mItems (mVar 1)) (mgTup 2 (mgCons (mgN 6) (mgCons (mgN 7) mgNil))) (mAndT (mTB (mOp opEq (mVar 7) (mOp opIx (mVar 3) (mNeg (mC (.int 1)))))) (mTB (mOp opGe (mVar 6) (mOp opIx (mVar 2) (mC (.int 0)))))) (mVar 6) [6, 7]) (mgN 5))
  (mIf (mTB (mOp opGt (mOp opIx (mVar 3) (mNeg (mC (.int 1)))) (mOp opIx (mVar 2) (mC (.int 0))))) (mDrop (mApp (mVar 3) (mCall (fCall f_l_of) (mCons (mVar 0) (mCons (mOp opAdd (mOp opAdd (mVar 5) (mVar 5)) (mLst (mCons (mOp opSubI (mOp opIx (mVar 3) (mNeg (mC (.int 1)))) (mC (.int 1))) mNil))) mNil))))) mSkip))
section
variable {S0 S T : Store} {k N : Nat} {ps : List (Int × Int)} {s e p : Int} {M : List Int}
def DwP (S0 : Store) (k N : Nat) (ps : List (Int × Int)) (s e p : Int) (M : List Int) (v4 : Option D) (f : Fl) (T' : Store) : Prop := ∃ w5, (p ≤ s ∧ f = .nx [some (.ref k), some (looksD ps), some (pairD (s, e)), some (.ref S0.length), v4, w5, none, none] ∧ BoxS (S0 ++ [.lst ((M ++ [p]).map .int)]) k N T') ∨
      (s < p ∧ ∃ q, (((q, p) ∈ ps ∧ s ≤ q) ∨ q = p - 1) ∧ f = .nx [some (.ref k), some (looksD ps), some (pairD (s, e)), some (.ref S0.length), v4, w5, none, none] ∧ BoxS (S0 ++ [.lst ((M ++ [p] ++ [q]).map .int)]) k (N + 1) T')
theorem turn_dw {v4 v5 : Option D} (hk : k < S0.length) (h : BoxS (S0 ++ [.lst ((M ++ [p]).map .int)]) k N T) (hN : N + 10 < 2 ^ 40) (hM : M.length < 1000) (hl : ps.length ≤ 1000) :
    (mDw [some (.ref k), some (looksD ps), some (pairD (s, e)), some (.ref S0.length), v4, v5, none, none] T).Sat (DwP S0 k N ps s e p M v4) := by
  have dn : ∀ (w5 : Option D) (T' : Store), p ≤ s → BoxS (S0 ++ [.lst ((M ++ [p]).map .int)]) k N T' → DwP S0 k N ps s e p M v4 (.nx [some (.ref k), some (looksD ps), some (pairD (s, e)), some (.ref S0.length), v4, w5, none, none]) T' := fun w5 T' a b => ⟨w5, .inl ⟨a, rfl, b⟩⟩
  have up : ∀ (w5 : Option D) (T' : Store) (q : Int), s < p → (((q, p) ∈ ps ∧ s ≤ q) ∨ q = p - 1) → BoxS (S0 ++ [.lst ((M ++ [p] ++ [q]).map .int)]) k (N + 1) T' → DwP S0 k N ps s e p M v4 (.nx [some (.ref k), some (looksD ps), some (pairD (s, e)), some (.ref S0.length), v4, w5, none, none]) T' := fun w5 T' q a b c => ⟨w5, .inr ⟨a, q, b, rfl, c⟩⟩
  generalize DwP S0 k N ps s e p M v4 = PP0 at *
  have g := h.last hk
  have ix : opIx (.ref S0.length) (.int (-1)) T = .ok (.int p) T := by
    rw [ix_refD (-1) g, List.map_append, List.map_cons, List.map_nil, atI_last]
    rfl
  have eqi : ∀ (x y : Int) S, opEq (.int x) (.int y) S = .ok (.bl (decide (x = y))) S := fun x y S => by
    rw [eq_plain rfl rfl]
    show Res.ok (D.bl (x == y)) S = _
    rfl
  have lc : lcL (mgTup 2 (mgCons (mgN 6) (mgCons (mgN 7) mgNil))) (mAndT (mTB (mOp opEq (mVar 7) (mOp opIx (mVar 3) (mNeg (mC (.int 1)))))) (mTB (mOp opGe (mVar 6) (mOp opIx (mVar 2) (mC (.int 0)))))) (mVar 6) [some (.ref k), some (looksD ps), some (pairD (s, e)), some (.ref S0.length), v4, v5, none, none] (ps.map pairD) T = .ok ((ps.filter fun x => decide (x.2 = p) && decide (s ≤ x.1)).map fun x => .int x.1) T :=
    lcL_filtermap (u := pairD) ps T fun x _ => ⟨[some (.ref k), some (looksD ps), some (pairD (s, e)), some (.ref S0.length), v4, v5, some (.int x.1), some (.int x.2)], by simp [pairD], by
      have t0 : ∀ S, opIx (pairD (s, e)) (.int 0) S = .ok (.int s) S := fun S => rfl
      generalize looksD ps = K at *
      generalize pairD (s, e) = Y at *
      by_cases c : x.2 = p
      · simp [ix, eqi, t0, c]
      · simp [ix, eqi, t0, c], by simp⟩
  have hz : (ps.map pairD).length ≤ 100000 := by rw [List.length_map]; omega
  have t0 : ∀ S, opIx (pairD (s, e)) (.int 0) S = .ok (.int s) S := fun S => rfl
  have it : itemsOf (looksD ps) T = .ok (ps.map pairD) T := rfl
  have no : notOb T S0.length = true := notOb_lst g
  by_cases hp : s < p
  · have fl : ((ps.filter fun x => decide (x.2 = p) && decide (s ≤ x.1)).map fun x => D.int x.1).length ≤ 1000 := by
      rw [List.length_map]
      exact Nat.le_trans (List.length_filter_le _ _) hl
    have put : ∀ (q : Int) (T' : Store) (n : Nat), BoxS (S0 ++ [.lst ((M ++ [p]).map .int)]) k n T' → appTo S0.length (.int q) T' = .ok .non (T'.set S0.length (.lst ((M ++ [p] ++ [q]).map .int))) ∧ notOb T' S0.length = true := fun q T' n h' => by
      have g' := h'.last hk
      refine ⟨?_, notOb_lst g'⟩
      rw [appTo_ok (xs := (M ++ [p]).map .int) _ g' (by rw [List.length_map, List.length_append]; simp only [List.length_cons, List.length_nil]; omega)]
      simp
    have of := of_s (xs := (ps.filter fun x => decide (x.2 = p) && decide (s ≤ x.1)).map (fun x => D.int x.1) ++ (ps.filter fun x => decide (x.2 = p) && decide (s ≤ x.1)).map (fun x => D.int x.1) ++ [.int (p - 1)]) h (by omega) (by simp) (by simp only [List.length_append, List.length_cons, List.length_nil]; omega)
    have mem : ∀ d ∈ (ps.filter fun x => decide (x.2 = p) && decide (s ≤ x.1)).map (fun x => D.int x.1) ++ (ps.filter fun x => decide (x.2 = p) && decide (s ≤ x.1)).map (fun x => D.int x.1) ++ [.int (p - 1)], ∃ q, d = .int q ∧ (((q, p) ∈ ps ∧ s ≤ q) ∨ q = p - 1) := fun d hd => by
      have one : d ∈ (ps.filter fun x => decide (x.2 = p) && decide (s ≤ x.1)).map (fun x => D.int x.1) → ∃ q, d = .int q ∧ (((q, p) ∈ ps ∧ s ≤ q) ∨ q = p - 1) := fun hd => by
        obtain ⟨x, hx, rfl⟩ := List.mem_map.mp hd
        obtain ⟨h1, h2⟩ := List.mem_filter.mp hx
        rw [Bool.and_eq_true, decide_eq_true_eq, decide_eq_true_eq] at h2
        exact ⟨x.1, rfl, .inl ⟨by rw [← h2.1]; exact h1, h2.2⟩⟩
      rcases List.mem_append.mp hd with hd | hd
      · rcases List.mem_append.mp hd with hd | hd
        · exact one hd
        · exact one hd
      · rw [List.mem_singleton] at hd
        exact ⟨_, hd, .inr rfl⟩
    unfold mDw
    generalize looksD ps = K at *
    generalize pairD (s, e) = Y at *
    generalize hFF : (ps.filter fun x => decide (x.2 = p) && decide (s ≤ x.1)).map (fun x => D.int x.1) = FF at *
    generalize ps.map pairD = PP at *
    have f2 : FF.length + FF.length ≤ 100000 := by omega
    have f3 : FF.length + FF.length + 1 ≤ 100000 := by omega
    simp only [List.append_assoc] at of
    simp -implicitDefEqProofs [it, hz, lc, ix, t0, hp, no, f2, f3]
    refine sat_step of ?_
    rintro d T1 ⟨hd, h1⟩
    obtain ⟨q, rfl, hq⟩ := mem d (by simpa using hd)
    obtain ⟨pt, no1⟩ := put q T1 (N + 1) h1
    have z := up (some (.lst FF)) _ q hp hq (h1.setLast (.lst ((M ++ [p] ++ [q]).map .int)) hk)
    generalize ((M ++ [p] ++ [q]).map D.int) = QQ at *
    simp -implicitDefEqProofs [pt]
    exact z
  · unfold mDw
    generalize looksD ps = K at *
    generalize pairD (s, e) = Y at *
    generalize (ps.filter fun x => decide (x.2 = p) && decide (s ≤ x.1)).map (fun x => D.int x.1) = FF at *
    generalize ps.map pairD = PP at *
    have z := dn (some (.lst FF)) T (by omega) h
    simp -implicitDefEqProofs [it, hz, lc, ix, t0, hp]
    exact z
end
/-! ### drawn walks and rows of them -/
theorem tup_refL {S : Store} {k : Nat} {xs : List D} (h : S[k]? = some (.lst xs)) (hl : xs.length ≤ 100000) : fTuple [.ref k] S = .ok (.tup xs) S := by simp [fTuple, un1, gTuple, seqOf, rdL, lstOf, h, hl]
section
variable {S0 S T : Store} {k N : Nat} {ps : List (Int × Int)} {s e p : Int} {M : List Int}
def DrP (S0 : Store) (k N : Nat) (ps : List (Int × Int)) (s e : Int) (d : D) (S' : Store) : Prop := ∃ L, d = wayD L ∧ LaneOk (inL s e ps) s e L ∧ 1 ≤ L.length ∧ (L.length : Int) ≤ e - s + 1 ∧ BoxS S0 k (N + 100) S'
theorem drawn_s (h : BoxS S0 k N S) (hp : S0.all Cell.pure = true) (hN : N + 200 < 2 ^ 40) (hse : s < e) (hr : e - s ≤ 90) (hl : ps.length ≤ 1000) (hlt : ∀ p ∈ ps, p.1 < p.2) : (f_l_drawn_walk [.ref k, looksD ps, pairD (s, e)] S).Sat (DrP S0 k N ps s e) := by
  have hk := h.lt
  obtain ⟨n, en⟩ := toN (r := e - s) (by omega)
  have i1 : ∀ S, opIx (pairD (s, e)) (.int 1) S = .ok (.int e) S := fun S => rfl
  have i0 : ∀ S, opIx (pairD (s, e)) (.int 0) S = .ok (.int s) S := fun S => rfl
  have rl : (rangeD 0 n).length ≤ 100000 := by rw [rangeD_len]; omega
  have lp : (forL (mgN 4) mDw (rangeD 0 n) [some (.ref k), some (looksD ps), some (pairD (s, e)), some (.ref S0.length), none, none, none, none] (S ++ [.lst [.int e]])).Sat fun f S' => ∃ (M : List Int) (w4 w5 : Option D), f = .nx [some (.ref k), some (looksD ps), some (pairD (s, e)), some (.ref S0.length), w4, w5, none, none] ∧ BoxS (S0 ++ [.lst ((M ++ [s]).map .int)]) k (N + 100) S' ∧ WayOk (inL s e ps) e s (M ++ [s]) ∧ (∀ x ∈ M ++ [s], s ≤ x ∧ x ≤ e) ∧ M.length ≤ n := by
    refine forL_sat (fun ds ρ S' => ∃ (M : List Int) (p : Int) (w4 w5 : Option D) (N' : Nat), ρ = [some (.ref k), some (looksD ps), some (pairD (s, e)), some (.ref S0.length), w4, w5, none, none] ∧ BoxS (S0 ++ [.lst ((M ++ [p]).map .int)]) k N' S' ∧ N' + ds.length ≤ N + n ∧ WayOk (inL s e ps) e p (M ++ [p]) ∧ (∀ x ∈ M ++ [p], s ≤ x ∧ x ≤ e) ∧ p ≤ s + (ds.length : Int) ∧ M.length + ds.length ≤ n) ?_ ?_ _ _ _ ⟨[], e, none, none, N, rfl, h.push _, by rw [rangeD_len]; omega, ⟨⟨[], rfl⟩, ⟨[], rfl⟩, fun x hx => absurd hx List.not_mem_nil⟩, fun x hx => by simp at hx; omega, by rw [rangeD_len]; omega, by rw [rangeD_len]; simp⟩
    · rintro d ds ρ S' ⟨M, p, w4, w5, N', rfl, hB, hN', hW, hin, hpp, hM⟩
      rw [List.length_cons] at hN' hpp hM
      refine ⟨_, S', rfl, (turn_dw (v4 := some d) (v5 := w5) hk hB (by omega) (by omega) hl).mono ?_⟩
      have hpin := hin p (List.mem_append.mpr (.inr (List.mem_singleton.mpr rfl)))
      rintro _ S2 ⟨w5', ⟨hps, rfl, hB2⟩ | ⟨hsp, q, hq, rfl, hB2⟩⟩
      · exact ⟨M, p, _, _, N', rfl, hB2, by omega, hW, hin, by omega, by omega⟩
      · have hq2 : (q, p) ∈ inL s e ps ∨ q = p - 1 := hq.imp (fun z => mem_inL.mpr ⟨z.1, z.2, hpin.2⟩) id
        have hq3 : s ≤ q ∧ q < p := by
          rcases hq with z | z
          · exact ⟨z.2, hlt _ z.1⟩
          · omega
        refine ⟨M ++ [p], q, _, _, N' + 1, rfl, hB2, by omega, hW.step hq2, fun x hx => ?_, by omega, by rw [List.length_append]; simp only [List.length_cons, List.length_nil]; omega⟩
        rcases List.mem_append.mp hx with m | m
        · exact hin x m
        · rw [List.mem_singleton] at m
          omega
    · rintro ρ S' ⟨M, p, w4, w5, N', rfl, hB, hN', hW, hin, hpp, hM⟩
      simp only [List.length_nil] at hN' hpp hM
      have hpin := hin p (List.mem_append.mpr (.inr (List.mem_singleton.mpr rfl)))
      have : p = s := by omega
      subst this
      exact ⟨M, w4, w5, rfl, hB.mono (by omega), hW, hin, by omega⟩
  have it : itemsOf (looksD ps) S = .ok (ps.map pairD) S := rfl
  have hlen : S.length = S0.length := h.len
  have dn : ∀ (M : List Int) (S' : Store), BoxS S0 k (N + 100) S' → WayOk (inL s e ps) e s (M ++ [s]) → (∀ x ∈ M ++ [s], s ≤ x ∧ x ≤ e) → M.length ≤ n → DrP S0 k N ps s e (wayD (M ++ [s])) S' := fun M S' a b c d => ⟨M ++ [s], rfl, ⟨b, by rw [List.length_append]; simp only [List.length_cons, List.length_nil]; omega, c⟩, by simp, by rw [List.length_append]; simp only [List.length_cons, List.length_nil]; omega, a⟩
  generalize DrP S0 k N ps s e = PP0 at *
  unfold f_l_drawn_walk m_l_drawn_walk
  rw [fnM_3]
  show (endM S.length ((mSeq _ (mSeq (mFor _ _ mDw) _)) _ _)).Sat _
  generalize mDw = MW at *
  generalize looksD ps = K at *
  generalize pairD (s, e) = Y at *
  have i0' := i0
  have i1' := i1
  simp -implicitDefEqProofs [i0', i1', en, r1K_nat n (show n < 2 ^ 60 by omega), rl, hlen]
  refine sat_step lp ?_
  rintro _ S2 ⟨M, w4, w5, rfl, hB, hW, hin, hM⟩
  have g := hB.last hk
  have ml : ((M ++ [s]).map D.int).length ≤ 100000 := by rw [List.length_map, List.length_append]; simp only [List.length_cons, List.length_nil]; omega
  have tu := tup_refL g ml
  obtain ⟨S4, e4, hB4⟩ := fin_cut (n := S0.length) (d := wayD (M ++ [s])) hB hk rfl hp (pure_ints _)
  have z := dn M S4 hB4 hW hin hM
  have ew : wayD (M ++ [s]) = .tup ((M ++ [s]).map .int) := rfl
  rw [ew] at z e4
  generalize (M ++ [s]).map D.int = MM at *
  simp -implicitDefEqProofs [tu, e4]
  exact z
end
/-! ### k51: bent rows -/
theorem cut_pre (xs : List D) (m : Nat) : cutD xs none (some (m : Int)) = xs.take m := cutD_take xs m
theorem cut_suf (xs : List D) (m : Nat) : cutD xs (some (m : Int)) none = xs.drop m := by
  unfold cutD
  rw [HT.sIx_none, HT.sIx_nat]
  by_cases h : m ≤ xs.length
  · rw [Nat.min_eq_left h, List.take_of_length_le (by rw [List.length_drop]; omega)]
  · rw [Nat.min_eq_right (by omega), List.drop_of_length_le (Nat.le_refl _), List.drop_of_length_le (by omega)]
    simp
theorem len_refL {S : Store} {k : Nat} {xs : List D} (h : S[k]? = some (.lst xs)) : fLen [.ref k] S = .ok (.int (xs.length : Nat)) S := by simp [fLen, un1, gLen, seqOf, rdL, lstOf, h]
theorem eq_refN {k : Nat} {xs : List D} {S : Store} (h : S[k]? = some (.lst xs)) (hs : shal 20 (.lst xs) = true) (hne : xs ≠ []) : opEq (.ref k) (.lst []) S = .ok (.bl false) S := by
  have hd : deref S (.ref k) = .lst xs := by simp [deref, h]
  have hd2 : deref S (.lst []) = .lst [] := rfl
  have e : deq (.lst xs) (.lst []) = false := by
    cases xs with
    | nil => exact absurd rfl hne
    | cons x xs => rfl
  unfold opEq
  simp only [hd, hd2, hs, e]
  rfl
theorem ne_refN {k : Nat} {xs : List D} {S : Store} (h : S[k]? = some (.lst xs)) (hs : shal 20 (.lst xs) = true) (hne : xs ≠ []) : opNe (.ref k) (.lst []) S = .ok (.bl true) S := by
  have hd : deref S (.ref k) = .lst xs := by simp [deref, h]
  have hd2 : deref S (.lst []) = .lst [] := rfl
  have e : deq (.lst xs) (.lst []) = false := by
    cases xs with
    | nil => exact absurd rfl hne
    | cons x xs => rfl
  unfold opNe
  simp only [hd, hd2, hs, e]
  rfl
theorem isNum_ints : ∀ (xs : List D), (∀ d ∈ xs, isNum d = true) → ∃ L : List Int, xs = L.map .int
  | [], _ => ⟨[], rfl⟩
  | d :: xs, h => by
    obtain ⟨L, rfl⟩ := isNum_ints xs fun x hx => h x (List.mem_cons_of_mem _ hx)
    have := h d (List.mem_cons_self ..)
    cases d with
    | int x => exact ⟨x :: L, rfl⟩
    | _ => simp [isNum] at this
theorem row_of {xs : List D} (hx : ∀ d ∈ xs, okish d = true) (hl : xs.length ≤ 1000) : Row (.tup xs) := by
  by_cases h : ∃ d ∈ xs, isNum d = false
  · exact .bad xs hx hl h
  · obtain ⟨L, rfl⟩ := isNum_ints xs fun d hd => by
      cases e : isNum d with
      | true => rfl
      | false => exact absurd ⟨d, hd, e⟩ h
    rw [List.length_map] at hl
    exact .nums L hl
theorem okish_bl (b : Bool) : okish (.bl b) = true := by unfold okish; simp
theorem okish_non : okish .non = true := rfl
theorem strOk_of (x : String) : PyData.strOk (Str.ofString x) = true := by
  have e : (Str.ofString x).cps.toList = x.toList.map Char.toNat := by rw [PySem.Str.ofString_eq_toList]
  unfold PyData.strOk
  rw [← Array.all_toList, e, List.all_eq_true]
  intro c hc
  obtain ⟨ch, _, rfl⟩ := List.mem_map.mp hc
  rw [decide_eq_true_eq]
  have := ch.valid
  show ch.val.toNat < _
  unfold UInt32.isValidChar Nat.isValidChar at this
  omega
theorem okish_str (x : String) : okish (.str (Str.ofString x)) = true := by
  unfold okish
  rw [okD_str, Bool.true_and]
  unfold shal
  exact strOk_of x
theorem shal_way (L : List Int) (n : Nat) : shal (n + 1) (wayD L) = true := by
  unfold wayD
  rw [shal_tup]
  exact shal_map (fun _ => shal_int _ _) L
theorem shal_ways (Ls : List (List Int)) : shal 20 (.lst (Ls.map wayD)) = true := by
  rw [shal_lst]
  exact shal_map (fun L => shal_way L 18) Ls
theorem okD_way (L : List Int) (hl : L.length ≤ 100000) (n : Nat) : okD (n + 1) (wayD L) = true := by
  unfold wayD
  rw [okD_tup, List.length_map, decide_eq_true hl, Bool.true_and, List.all_eq_true]
  intro d hd
  obtain ⟨x, _, rfl⟩ := List.mem_map.mp hd
  exact okD_int _ _
theorem okish_ways {Ls : List (List Int)} (h : ∀ L ∈ Ls, L.length ≤ 1000) (hl : Ls.length ≤ 1000) : okish (.lst (Ls.map wayD)) = true := by
  unfold okish
  rw [Bool.and_eq_true, okD_lst, List.length_map, decide_eq_true (by omega), Bool.true_and, List.all_eq_true, shal_lst]
  refine ⟨fun d hd => ?_, shal_map (fun L => shal_way L 17) Ls⟩
  obtain ⟨L, hL, rfl⟩ := List.mem_map.mp hd
  exact okD_way L (by have := h L hL; omega) 13
theorem okish_row (L : List Int) (hl : L.length ≤ 1000) : okish (.lst (L.map .int)) = true := by
  unfold okish
  rw [Bool.and_eq_true, okD_lst, List.length_map, decide_eq_true (by omega), Bool.true_and, List.all_eq_true, shal_lst]
  refine ⟨fun d hd => ?_, shal_map (fun _ => shal_int _ _) L⟩
  obtain ⟨x, _, rfl⟩ := List.mem_map.mp hd
  exact okD_int _ _
/-- rows of walks as they are drawn -/
structure Rows (Ls : List (List Int)) : Prop where
  few : Ls.length ≤ 6
  len : ∀ L ∈ Ls, 1 ≤ L.length ∧ L.length ≤ 100
  low : ∀ L ∈ Ls, ∀ x ∈ L, 0 ≤ x ∧ x ≤ 1000
def mat8 : List D := [.lst [], .non, .tup [.tup []], .int 0, .str "", .tup [.tup [.int 0]], .tup [.int 0], .bl true]
theorem mat8_ok : ∀ d ∈ mat8, Matter d ∧ pureD d = true := by
  have w0 : Row (.tup []) := .nums [] (by simp)
  have w1 : Row (.tup [.int 0]) := .nums [0] (by simp)
  have w2 : Row (.int 0) := .odd _ rfl (okish_int 0)
  intro d hd
  unfold mat8 at hd
  simp only [List.mem_cons, List.not_mem_nil, or_false] at hd
  rcases hd with rfl | rfl | rfl | rfl | rfl | rfl | rfl | rfl
  · exact ⟨.odd _ rfl rfl, rfl⟩
  · exact ⟨.odd _ rfl rfl, rfl⟩
  · exact ⟨.rows _ (fun d h => by rw [List.mem_singleton] at h; exact h ▸ w0) (by simp), rfl⟩
  · exact ⟨.odd _ rfl (okish_int 0), rfl⟩
  · exact ⟨.odd _ rfl (okish_str _), rfl⟩
  · exact ⟨.rows _ (fun d h => by rw [List.mem_singleton] at h; exact h ▸ w1) (by simp), rfl⟩
  · exact ⟨.rows _ (fun d h => by rw [List.mem_singleton] at h; exact h ▸ w2) (by simp), rfl⟩
  · exact ⟨.odd _ rfl (okish_bl true), rfl⟩
theorem Matter.pure {d : D} (h : Matter d) : pureD d = true := by
  cases h with
  | rows ds h hl => exact pureL_all.mpr fun d hd => (h d hd).pure
  | odd M h hp => exact okish_pure hp
theorem rows_set {Ls : List (List Int)} (h : Rows Ls) (i : Nat) {r : D} (hr : Row r) : Matter (.tup ((Ls.map wayD).set i r)) := by
  refine .rows _ (fun d hd => ?_) (by rw [List.length_set, List.length_map]; exact h.few)
  rcases List.mem_or_eq_of_mem_set hd with hd | rfl
  · obtain ⟨L, hL, rfl⟩ := List.mem_map.mp hd
    exact .nums L (by have := h.len L hL; omega)
  · exact hr
theorem setIx_ok {S : Store} {j i : Nat} {xs : List D} (h : S[j]? = some (.lst xs)) (hi : i < xs.length) (d : D) : setIx (.ref j) (.int (i : Nat)) d S = .ok () (S.set j (.lst (xs.set i d))) := by
  have e : ixN xs.length (i : Nat) = some i := by
    unfold ixN
    rw [if_pos (by omega), if_pos (by omega)]
    simp
  unfold setIx
  simp only [h, e]
section
variable {S0 S T : Store} {k N : Nat} {Ls : List (List Int)}
def BeP (S0 : Store) (k N : Nat) (d : D) (S' : Store) : Prop := Matter d ∧ BoxS S0 k (N + 3) S'
def some8 (x : Int) : List (List D) := [[.int (x + 1)], [.int (x - 1)], [], [.int x, .int x], [.bl (decide (x = 1))], [.int (x - 61)], [.non], [.str (strI x)]]
theorem bent_s (h : BoxS S0 k N S) (hp : S0.all Cell.pure = true) (hN : N + 20 < 2 ^ 40) (hR : Rows Ls) : (f_l_bent [.ref k, .tup (Ls.map wayD)] S).Sat (BeP S0 k N) := by
  have hk := h.lt
  have hl := h.len
  have wl : (Ls.map wayD).length ≤ 6 := by rw [List.length_map]; exact hR.few
  have hz : (Ls.map wayD).length ≤ 100000 := by omega
  have sh := shal_ways Ls
  have m8 := mat8_ok
  have dn : ∀ (d : D) (S' : Store), Matter d → BoxS S0 k (N + 3) S' → BeP S0 k N d S' := fun d S' a b => ⟨a, b⟩
  have fc : ∀ (c : Cell) (d : D) (M : Nat) (T : Store), M ≤ N + 3 → Matter d → BoxS (S0 ++ [c]) k M T → ∃ S', fin S0.length d T = .ok d S' ∧ BeP S0 k N d S' := fun c d M T hM hd hB => by
    obtain ⟨S', e, hB'⟩ := fin_cut hB hk rfl hp hd.pure
    exact ⟨S', e, dn d S' hd (hB'.mono hM)⟩
  generalize BeP S0 k N = PP0 at *
  unfold f_l_bent m_l_bent
  rw [fnM_2]
  simp -implicitDefEqProofs
  refine sat_step (take_s (n := 10) h (by omega) (by decide) (by decide)) ?_
  rintro _ S1 ⟨r, rfl, r0, r10, h1⟩
  have hl1 : S1.length = S0.length := h1.len
  have h2 : BoxS (S0 ++ [.lst (Ls.map wayD)]) k (N + 1) (S1 ++ [.lst (Ls.map wayD)]) := h1.push _
  have g := h2.last hk
  simp -implicitDefEqProofs [hl1, hl]
  generalize S1 ++ [Cell.lst (Ls.map wayD)] = T at *
  by_cases hnil : Ls = []
  · subst hnil
    have eqn : opEq (.ref S0.length) (.lst []) T = .ok (.bl true) T := eq_refD (xs := []) g rfl
    have of := of_s (xs := mat8) h2 (by omega) (by simp [mat8]) (by decide)
    unfold mat8 at of m8
    simp -implicitDefEqProofs [eqn]
    refine sat_step of ?_
    rintro d T1 ⟨hd, hT1⟩
    obtain ⟨S', e, z⟩ := fc _ d _ T1 (by omega) (m8 d hd).1 hT1
    simp -implicitDefEqProofs [e]
    exact z
  · have hne : Ls.map wayD ≠ [] := fun z => hnil (List.map_eq_nil_iff.mp z)
    have eqn := eq_refN g sh hne
    have ln := len_refL g
    have lp : 0 < (Ls.map wayD).length := List.length_pos_iff.mpr hne
    simp -implicitDefEqProofs [eqn, ln]
    have wle : (Ls.map wayD).length = Ls.length := List.length_map _
    refine sat_step (take_s (n := (Ls.length : Nat)) h2 (by omega) (by omega) (Int.lt_of_lt_of_le (show ((Ls.length : Nat) : Int) < 2 ^ 60 by omega) (by decide))) ?_
    rintro _ T1 ⟨i', rfl, i0, i1, h3⟩
    obtain ⟨i, rfl⟩ := toN (r := i') i0
    have hi : i < (Ls.map wayD).length := by omega
    obtain ⟨L, hLm, hLi⟩ : ∃ L ∈ Ls, (Ls.map wayD)[i]? = some (wayD L) := by
      rw [List.length_map] at hi
      exact ⟨Ls[i], List.getElem_mem _, by rw [List.getElem?_map, List.getElem?_eq_getElem hi]; rfl⟩
    have g1 := h3.last hk
    have ix : ∀ T', T'[S0.length]? = some (.lst (Ls.map wayD)) → opIx (.ref S0.length) (.int (i : Nat)) T' = .ok (wayD L) T' := fun T' g' => by
      rw [ix_refD _ g', atI_get hLi]
      rfl
    obtain ⟨L1, L2⟩ := hR.len L hLm
    have LL : (L.map D.int).length = L.length := List.length_map _
    have lz : (L.map D.int).length ≤ 100000 := by omega
    have lw : ∀ T', fLen [wayD L] T' = .ok (.int ((L.map D.int).length : Nat)) T' := fun T' => rfl
    have ix1 := ix T1 g1
    have lw1 := lw T1
    simp -implicitDefEqProofs [ix1, lw1]
    refine sat_step (take_s (n := (L.length : Nat)) h3 (by omega) (by omega) (Int.lt_of_lt_of_le (show ((L.length : Nat) : Int) < 2 ^ 60 by omega) (by decide))) ?_
    rintro _ T2 ⟨j', rfl, j0, j1, h4⟩
    obtain ⟨j, rfl⟩ := toN (r := j') j0
    have hj : j < L.length := by omega
    obtain ⟨x, hx, hxj⟩ : ∃ x ∈ L, (L.map D.int)[j]? = some (.int x) := ⟨L[j], List.getElem_mem _, by rw [List.getElem?_map, List.getElem?_eq_getElem hj]; rfl⟩
    have hxb := hR.low L hLm x hx
    have g2 := h4.last hk
    have ix2 := ix T2 g2
    have ixw : ∀ T', opIx (wayD L) (.int (j : Nat)) T' = .ok (.int x) T' := fun T' => by
      show oRes (atI (L.map D.int) (j : Nat)) T' = _
      rw [atI_get hxj]
      rfl
    have ixw2 := ixw T2
    have eqi : ∀ (x y : Int) S, opEq (.int x) (.int y) S = .ok (.bl (decide (x = y))) S := fun x y S => by
      rw [eq_plain rfl rfl]
      show Res.ok (D.bl (x == y)) S = _
      rfl
    have e8 := eqi r 8 T2
    have e9 := eqi r 9 T2
    by_cases a8 : r = 8
    · rw [decide_eq_true a8] at e8
      have fr : fz (.ref S0.length) T2 = .ok (.lst (Ls.map wayD)) (T2.set S0.length (.frz (Ls.map wayD))) := fz_ref g2
      have ok := okish_ways (fun L hL => by have := hR.len L hL; omega) (by have := hR.few; omega) (Ls := Ls)
      obtain ⟨S', e, z⟩ := fc (.frz (Ls.map wayD)) (.lst (Ls.map wayD)) _ _ (by omega) (.odd _ rfl ok) (h4.setLast (.frz (Ls.map wayD)) hk)
      generalize Ls.map wayD = W at *
      generalize wayD L = w at *
      simp -implicitDefEqProofs [ix2, ixw2, e8, fr, e]
      exact z
    · rw [decide_eq_false a8] at e8
      by_cases a9 : r = 9
      · rw [decide_eq_true a9] at e9
        have st := setIx_ok g2 hi (.lst (L.map .int))
        have h5 := h4.setLast (.lst ((Ls.map wayD).set i (.lst (L.map .int)))) hk
        have g3 := h5.last hk
        have tu := tup_refL g3 (by rw [List.length_set]; exact hz)
        have fl : ∀ T', fList [wayD L] T' = .ok (.lst (L.map .int)) T' := fun T' => rfl
        have fl2 := fl T2
        obtain ⟨S', e, z⟩ := fc _ _ _ _ (by omega) (rows_set hR i (.odd _ rfl (okish_row L (by omega)))) h5
        generalize (Ls.map wayD).set i (.lst (L.map .int)) = W2 at *
        generalize Ls.map wayD = W at *
        generalize wayD L = w at *
        generalize L.map D.int = LI at *
        simp -implicitDefEqProofs [ix2, ixw2, e8, e9, fl2, lz, st, tu, e]
        exact z
      · rw [decide_eq_false a9] at e9
        have r8 : r < 8 := by omega
        obtain ⟨q, hq⟩ := toN (r := r) r0
        have q8 : q < 8 := by omega
        subst hq
        have si := strI_int (S := T2) (i := x) (Nat.lt_of_le_of_lt (show x.natAbs ≤ 1000 by omega) (by decide))
        have hx1 := eqi x 1 T2
        have c1 := cut_pre (L.map .int) j
        have c2 : cutD (L.map D.int) (some ((j : Int) + 1)) none = (L.map D.int).drop (j + 1) := by
          have := cut_suf (L.map .int) (j + 1)
          rwa [show (((j + 1 : Nat)) : Int) = (j : Int) + 1 by omega] at this
        obtain ⟨w, hw, hwl, hwo, at8⟩ : ∃ w : List D, atI ((some8 x).map D.tup) (q : Nat) = some (.tup w) ∧ w.length ≤ 2 ∧ (∀ d ∈ w, okish d = true) ∧ (some8 x)[q]? = some w := by
          have : q < (some8 x).length := by simp [some8]; omega
          refine ⟨(some8 x)[q], atI_get (by rw [List.getElem?_map, List.getElem?_eq_getElem this]; rfl), ?_, ?_, List.getElem?_eq_getElem this⟩
          · have hm := List.getElem_mem this
            generalize (some8 x)[q] = w at *
            unfold some8 at hm
            simp only [List.mem_cons, List.not_mem_nil, or_false] at hm
            rcases hm with rfl | rfl | rfl | rfl | rfl | rfl | rfl | rfl <;> simp
          · have hm := List.getElem_mem this
            generalize (some8 x)[q] = w at *
            unfold some8 at hm
            simp only [List.mem_cons, List.not_mem_nil, or_false] at hm
            rcases hm with rfl | rfl | rfl | rfl | rfl | rfl | rfl | rfl <;> intro d hd <;> simp at hd
            · subst hd; exact okish_int _
            · subst hd; exact okish_int _
            · subst hd; exact okish_int _
            · subst hd; exact okish_bl _
            · subst hd; exact okish_int _
            · subst hd; rfl
            · subst hd; exact okish_str _
        have ro : Row (.tup ((L.map .int).take j ++ (w ++ (L.map .int).drop (j + 1)))) := by
          refine row_of (fun d hd => ?_) (by simp only [List.length_append, List.length_take, List.length_drop]; omega)
          have int : ∀ d ∈ L.map D.int, okish d = true := fun d hd => by
            obtain ⟨x, _, rfl⟩ := List.mem_map.mp hd
            exact okish_int x
          rcases List.mem_append.mp hd with hd | hd
          · exact int d (List.mem_of_mem_take hd)
          · rcases List.mem_append.mp hd with hd | hd
            · exact hwo d hd
            · exact int d (List.mem_of_mem_drop hd)
        have s1 : ((L.map D.int).take j).length + w.length ≤ 100000 := by rw [List.length_take]; omega
        have s2 : ((L.map D.int).take j).length + w.length + ((L.map D.int).drop (j + 1)).length ≤ 100000 := by simp only [List.length_take, List.length_drop]; omega
        have tl : ((L.map D.int).take j).length ≤ 100000 := by rw [List.length_take]; omega
        have dl : ((L.map D.int).drop (j + 1)).length ≤ 100000 := by rw [List.length_drop]; omega
        have st := setIx_ok g2 hi (.tup ((L.map .int).take j ++ (w ++ (L.map .int).drop (j + 1))))
        have h5 := h4.setLast (.lst ((Ls.map wayD).set i (.tup ((L.map .int).take j ++ (w ++ (L.map .int).drop (j + 1)))))) hk
        have g3 := h5.last hk
        have tu := tup_refL g3 (by rw [List.length_set]; exact hz)
        obtain ⟨S', e, z⟩ := fc _ _ _ _ (by omega) (rows_set hR i ro) h5
        have sl1 : ∀ T', opSl (wayD L) none (some ((j : Nat) : Int)) T' = .ok (.tup ((L.map D.int).take j)) T' := fun T' => by
          show Res.ok (D.tup (cutD (L.map D.int) none (some ((j : Nat) : Int)))) T' = _
          rw [c1]
        have sl2 : ∀ T', opSl (wayD L) (some ((j : Int) + 1)) none T' = .ok (.tup ((L.map D.int).drop (j + 1))) T' := fun T' => by
          show Res.ok (D.tup (cutD (L.map D.int) (some ((j : Int) + 1)) none)) T' = _
          rw [c2]
        have sl1' := sl1 T2
        have sl2' := sl2 T2
        have hw' : opIx (.lst ((some8 x).map D.tup)) (.int (q : Nat)) T2 = .ok (.tup w) T2 := by
          show oRes (atI ((some8 x).map D.tup) (q : Nat)) T2 = _
          rw [hw]
          rfl
        unfold some8 at hw'
        simp only [List.map_cons, List.map_nil] at hw'
        clear ix ixw lw hw at8 c1 c2 sl1 sl2
        generalize (Ls.map wayD).set i (.tup ((L.map .int).take j ++ (w ++ (L.map .int).drop (j + 1)))) = W2 at *
        generalize Ls.map wayD = W at *
        generalize hTT : (L.map D.int).take j = TT at *
        generalize hDD : (L.map D.int).drop (j + 1) = DD at *
        generalize wayD L = wy at *
        simp -implicitDefEqProofs [ix2, ixw2, e8, e9, hx1, si, sl1', sl2', hw', s1, s2, st, tu, e]
        exact z
end
/-! ### k51: right -/
section
variable {S0 S : Store} {k N : Nat}
def DrQ (ps : List (Int × Int)) (s e : Int) (d : D) : Prop := ∃ L, d = wayD L ∧ LaneOk (inL s e ps) s e L ∧ 1 ≤ L.length ∧ (L.length : Int) ≤ e - s + 1
theorem right51 : RightP 1000 := by
  intro S0 S k N hp h hN
  have hk := h.lt
  have hl := h.len
  unfold f_l_right m_l_right
  rw [fnM_1]
  simp -implicitDefEqProofs
  refine sat_step (book_s (mm := 10) (most := 10) h hp (by omega) (by omega) (by omega) (by omega)) ?_
  rintro _ S1 ⟨n, a, b, ps, rfl, ⟨n0, n10⟩, ⟨ha, hab, hb⟩, ok1, len1, h1⟩
  have i0 : ∀ S, opIx (bookD n a b ps) (.int 0) S = .ok (.int n) S := fun S => rfl
  have i2 : ∀ S, opIx (bookD n a b ps) (.int 2) S = .ok (looksD ps) S := fun S => rfl
  have hlt : ∀ p ∈ ps, p.1 < p.2 := fun p hp => (ok1.ok p hp).2.1
  have i0' := i0 S1
  have one := fun s e M v (hj : Jdg n a b s e ps M v) S => oneR hj (by omega) S
  have jd := fun s e M (hM : Matter M) hs he hr hse => hM.jdg (n := n) (a := a) (b := b) (s := s) (e := e) (ps := ps) hlt (by omega) hs he hr hse
  generalize bookD n a b ps = X1 at *
  simp -implicitDefEqProofs [i0']
  refine sat_step (stretch_s h1 (by omega) (show 0 < ((n : Nat) : Int) by omega) (show ((n : Nat) : Int) < 2 ^ 60 by omega)) ?_
  rintro _ S2 ⟨⟨s, e, rfl, s0, se, en⟩, h2⟩
  have ey : D.tup [.int s, .int e] = pairD (s, e) := rfl
  rw [ey]
  simp -implicitDefEqProofs
  refine sat_step (take_s (n := 5) h2 (by omega) (by decide) (by decide)) ?_
  rintro _ S3 ⟨t', rfl, t0, t5, h3⟩
  obtain ⟨t, rfl⟩ := toN (r := t') t0
  have hdr := lcL_draw (g := mgN 5) (m := mCall (fCall f_l_drawn_walk) (mCons (mVar 0) (mCons (mOp opIx (mVar 1) (mC (.int 2))) (mCons (mVar 2) mNil)))) (ρ := [some (.ref k), some X1, some (pairD (s, e)), none, none, none]) (S0 := S0) (k := k) (c := 100) (T := N + 700) (P := DrQ ps s e) (rangeD 0 t) _ S3 h3 (by rw [rangeD_len]; omega) (fun d hd M S4 h4 hM => by
    refine ⟨_, rfl, ?_⟩
    have i2' := i2 S4
    have dw := drawn_s (s := s) (e := e) h4 hp (by omega) se (by omega) (by omega) hlt
    generalize looksD ps = K at *
    generalize pairD (s, e) = Y at *
    simp -implicitDefEqProofs [i2']
    refine dw.mono ?_
    rintro v S5 ⟨L, e1, e2, e3, e4, h5⟩
    exact ⟨⟨L, e1, e2, e3, e4⟩, h5⟩)
  have r1 : r1K (.int (t : Nat)) S3 = .ok (rangeD 0 t) S3 := r1K_nat t (by omega)
  have rl : (rangeD 0 t).length ≤ 100000 := by rw [rangeD_len]; omega
  simp -implicitDefEqProofs [r1, rl]
  refine sat_step hdr ?_
  rintro vs S4 ⟨vl, hvs, h4⟩
  rw [rangeD_len] at vl h4
  obtain ⟨Ls, rfl, hLs⟩ := unmap (f := wayD) (P := fun L => LaneOk (inL s e ps) s e L ∧ 1 ≤ L.length ∧ (L.length : Int) ≤ e - s + 1) vs (fun v hv => by
    obtain ⟨L, e1, e2, e3, e4⟩ := hvs v hv
    exact ⟨L, e1, e2, e3, e4⟩)
  clear hvs hdr
  rw [List.length_map] at vl
  have hl4 : S4.length = S0.length := h4.len
  have h5 : BoxS (S0 ++ [.lst (Ls.map wayD)]) k (N + 500) (S4 ++ [.lst (Ls.map wayD)]) := (h4.mono (by omega)).push _
  have g5 := h5.last hk
  have rowsOf : ∀ Ms : List (List Int), Ms.length ≤ 6 → (∀ L ∈ Ms, L ∈ Ls) → Rows Ms := fun Ms hM hm => ⟨hM, fun L hL => by
    have := hLs L (hm L hL)
    omega, fun L hL x hx => by
    have := (hLs L (hm L hL)).1.ins x hx
    omega⟩
  -- what is left once the rows are there
  have rest : ∀ (Ms : List (List Int)) (T : Store) (v5 : Option D), Rows Ms → BoxS (S0 ++ [.lst (Ms.map wayD)]) k (N + 600) T →
      ((mSeq (mAsg (mCall fTuple (mCons (mVar 3) mNil)) (mgN 4))
  (mSeq (mIf (mNotT (mTest (mCall (fPure f_l_one_right) (mCons (mVar 1) (mCons (mVar 2) (mCons (mVar 4) mNil)))))) (mRet (mC (.bl false))) mSkip)
  (mRet (mCall fAll (mCons (mLc (mRange1 (mC (.int 8))) (mgN 5) mYes (mCall (fPure f_l_one_right) (mCons (mVar 1) (mCons (mVar 2) (mCons (mCall (fCall f_l_bent) (mCons (mVar 0) (mCons (mVar 4) mNil))) mNil)))) [5]) mNil))))) [some (.ref k), some X1, some (pairD (s, e)), some (.ref S0.length), none, v5] T).Sat fun f S' => f = .rt (.bl true) ∧ BoxS (S0 ++ [.lst (Ms.map wayD)]) k (N + 700) S' := by
    intro Ms T v5 hM hT
    have g := hT.last hk
    have tu := tup_refL g (by rw [List.length_map]; have := hM.few; omega)
    have mt : Matter (.tup (Ms.map wayD)) := .rows _ (fun d hd => by
      obtain ⟨L, hL, rfl⟩ := List.mem_map.mp hd
      exact .nums L (by have := hM.len L hL; omega)) (by rw [List.length_map]; exact hM.few)
    obtain ⟨v, jv⟩ := jd s e _ mt s0 (by omega) (by omega) se
    have o1 := one s e _ v jv T
    have hpT : (S0 ++ [Cell.lst (Ms.map wayD)]).all Cell.pure = true := by
      rw [List.all_append, hp]
      simp only [List.all_cons, List.all_nil, Bool.and_true, Bool.true_and]
      exact pure_ways Ms
    have bd := lcL_draw (g := mgN 5) (m := mCall (fPure f_l_one_right) (mCons (mVar 1) (mCons (mVar 2) (mCons (mCall (fCall f_l_bent) (mCons (mVar 0) (mCons (mVar 4) mNil))) mNil)))) (ρ := [some (.ref k), some X1, some (pairD (s, e)), some (.ref S0.length), some (.tup (Ms.map wayD)), v5]) (S0 := S0 ++ [.lst (Ms.map wayD)]) (k := k) (c := 3) (T := N + 700) (P := fun d => d = .bl true) (rangeD 0 8) _ T hT (by rw [rangeD_len]; omega) (fun d hd M S4 h4 hMM => by
      refine ⟨_, rfl, ?_⟩
      have bs := bent_s (Ls := Ms) h4 hpT (by omega) hM
      generalize hWW : Ms.map wayD = W at *
      generalize hYY : pairD (s, e) = Y at *
      simp -implicitDefEqProofs
      refine sat_step bs ?_
      rintro d2 S5 ⟨hmat, h6⟩
      obtain ⟨v2, j2⟩ := jd s e d2 hmat s0 (by omega) (by omega) se
      have o2 := one s e _ v2 j2 S5
      rw [hYY] at o2
      simp -implicitDefEqProofs [o2]
      exact h6)
    rw [rangeD_len] at bd
    have r8 : ∀ S, r1K (.int 8) S = .ok (rangeD 0 8) S := fun S => r1K_nat 8 (by decide)
    have rl8 : (rangeD 0 8).length ≤ 100000 := by rw [rangeD_len]; decide
    generalize Ms.map wayD = W at *
    generalize pairD (s, e) = Y at *
    simp -implicitDefEqProofs [tu, o1, r8, rl8]
    refine sat_step bd ?_
    rintro ws T2 ⟨wl, hw, hT2⟩
    have al := all_trues (S := T2) hw
    simp -implicitDefEqProofs [al]
    exact hT2.mono (by omega)
  obtain ⟨mR, hmR⟩ : ∃ m : MS, m = (mSeq (mAsg (mCall fTuple (mCons (mVar 3) mNil)) (mgN 4))
  (mSeq (mIf (mNotT (mTest (mCall (fPure f_l_one_right) (mCons (mVar 1) (mCons (mVar 2) (mCons (mVar 4) mNil)))))) (mRet (mC (.bl false))) mSkip)
  (mRet (mCall fAll (mCons (mLc (mRange1 (mC (.int 8))) (mgN 5) mYes (mCall (fPure f_l_one_right) (mCons (mVar 1) (mCons (mVar 2) (mCons (mCall (fCall f_l_bent) (mCons (mVar 0) (mCons (mVar 4) mNil))) mNil)))) [5]) mNil))))) := ⟨_, rfl⟩
  have fc : ∀ (c : Cell) (M : Nat) (T : Store), M ≤ N + 1000 → BoxS (S0 ++ [c]) k M T → ∃ S', fin S0.length (.bl true) T = .ok (.bl true) S' ∧ BoxS S0 k (N + 1000) S' := fun c M T hM hB => by
    obtain ⟨S', e, hB'⟩ := fin_cut (d := .bl true) hB hk rfl hp rfl
    exact ⟨S', e, hB'.mono hM⟩
  simp only [← hmR] at rest ⊢
  clear hmR jd one
  simp -implicitDefEqProofs [hl4, hl]
  generalize S4 ++ [Cell.lst (Ls.map wayD)] = T at *
  by_cases hnil : Ls = []
  · have rs := rest Ls T none (rowsOf Ls (by omega) fun L h => h) (h5.mono (by omega))
    have nen : opNe (.ref S0.length) (.lst []) T = .ok (.bl false) T := by
      subst hnil
      exact ne_refD (xs := []) g5 rfl
    clear rest
    generalize Ls.map wayD = W at *
    generalize pairD (s, e) = Y at *
    simp -implicitDefEqProofs [nen]
    refine sat_step rs ?_
    rintro _ T2 ⟨rfl, hT2⟩
    obtain ⟨S', e, z⟩ := fc _ _ T2 (by omega) hT2
    simp -implicitDefEqProofs [e]
    exact z
  · have hne : Ls.map wayD ≠ [] := fun z => hnil (List.map_eq_nil_iff.mp z)
    have nen := ne_refN g5 (shal_ways Ls) hne
    have tk := take_s (n := 3) h5 (by omega) (by decide) (by decide)
    have eqi : ∀ (x y : Int) S, opEq (.int x) (.int y) S = .ok (.bl (decide (x = y))) S := fun x y S => by
      rw [eq_plain rfl rfl]
      show Res.ok (D.bl (x == y)) S = _
      rfl
    have k2 : ∀ (r : Int) (T1 : Store), BoxS (S0 ++ [.lst (Ls.map wayD)]) k (N + 501) T1 → ((mSeq (mIf (mC (.bl (decide (r = 0))) |> mTB) (mDrop (mApp (mVar 3) (mOp opIx (mVar 3) (mC (.int 0))))) mSkip) mR) [some (.ref k), some X1, some (pairD (s, e)), some (.ref S0.length), none, none] T1).Sat fun f S' => f = .rt (.bl true) ∧ ∃ c, BoxS (S0 ++ [c]) k (N + 700) S' := by
      intro r T1 hT1
      by_cases hr : r = 0
      · have g := hT1.last hk
        obtain ⟨L0, Ls', hc⟩ : ∃ L0 Ls', Ls = L0 :: Ls' := by
          cases Ls with
          | nil => exact absurd rfl hnil
          | cons a b => exact ⟨a, b, rfl⟩
        have ix : opIx (.ref S0.length) (.int 0) T1 = .ok (wayD L0) T1 := by
          rw [ix_refD _ g, hc, List.map_cons, atI_0]
          rfl
        have ap := appTo_ok (wayD L0) g (by rw [List.length_map]; omega)
        have no := notOb_lst g
        have em : Ls.map wayD ++ [wayD L0] = (Ls ++ [L0]).map wayD := by simp
        rw [em] at ap
        have h6 := hT1.setLast (.lst ((Ls ++ [L0]).map wayD)) hk
        have rs := rest (Ls ++ [L0]) _ none (rowsOf (Ls ++ [L0]) (by rw [List.length_append]; simp only [List.length_cons, List.length_nil]; omega) fun L h => by
          rcases List.mem_append.mp h with h | h
          · exact h
          · rw [List.mem_singleton] at h
            rw [h, hc]
            exact List.mem_cons_self ..) (h6.mono (by omega))
        clear rest em hc
        generalize (Ls ++ [L0]).map wayD = W2 at *
        generalize Ls.map wayD = W at *
        generalize pairD (s, e) = Y at *
        generalize wayD L0 = w0 at *
        simp -implicitDefEqProofs [hr, ix, ap, no]
        refine rs.mono ?_
        rintro f T2 ⟨rfl, hT2⟩
        exact ⟨rfl, _, hT2⟩
      · have rs := rest Ls T1 none (rowsOf Ls (by omega) fun L h => h) (hT1.mono (by omega))
        clear rest
        generalize Ls.map wayD = W at *
        generalize pairD (s, e) = Y at *
        simp -implicitDefEqProofs [hr]
        refine rs.mono ?_
        rintro f T2 ⟨rfl, hT2⟩
        exact ⟨rfl, _, hT2⟩
    clear rest
    generalize Ls.map wayD = W at *
    generalize pairD (s, e) = Y at *
    simp -implicitDefEqProofs [nen]
    refine sat_step tk ?_
    rintro _ T1 ⟨r, rfl, r0, r3, hT1⟩
    have kk := k2 r T1 hT1
    have er := eqi r 0 T1
    simp -implicitDefEqProofs at kk
    simp -implicitDefEqProofs [er]
    rw [← bind_flat]
    refine sat_step kk ?_
    rintro _ T2 ⟨rfl, c, hT2⟩
    obtain ⟨S', e, z⟩ := fc _ _ T2 (by omega) hT2
    simp -implicitDefEqProofs [e]
    exact z
end
/-! ### l_by_hand_right, in pieces -/
def mH0 : MS := (mAsg (mTup (mCons (mTup (mCons (mC (.int 9)) (mCons (mTup (mCons (mC (.int 1)) (mCons (mC (.int 10)) mNil))) (mCons (mTup (mCons (mTup (mCons (mC (.int 0)) (mCons (mC (.int 5)) mNil))) (mCons (mTup (mCons (mC (.int 2)) (mCons (mC (.int 7)) mNil))) (mCons (mTup (mCons (mC (.int 4)) (mCons (mC (.int 9)) mNil))) mNil)))) mNil)))) (mCons (mTup (mCons (mC (.int 0)) (mCons (mC (.int 9)) mNil))) mNil))) (mgTup 2 (mgCons (mgN 0) (mgCons (mgN 1) mgNil))))
def mH1 : MS := (mAsg (mTup (mCons (mC (.int 5)) (mCons (mTup (mCons (mC (.int 1)) (mCons (mC (.int 10)) mNil))) (mCons (mTup (mCons (mTup (mCons (mC (.int 0)) (mCons (mC (.int 2)) mNil))) (mCons (mTup (mCons (mC (.int 1)) (mCons (mC (.int 3)) mNil))) (mCons (mTup (mCons (mC (.int 2)) (mCons (mC (.int 4)) mNil))) (mCons (mTup (mCons (mC (.int 3)) (mCons (mC (.int 5)) mNil))) mNil))))) mNil)))) (mgN 2))
def mH2 : MS := (mAsg (mTup (mCons (mC (.int 2)) (mCons (mTup (mCons (mC (.int 1)) (mCons (mC (.int 10)) mNil))) (mCons (mTup (mCons (mTup (mCons (mC (.int 0)) (mCons (mC (.int 1)) mNil))) mNil)) mNil)))) (mgN 3))
def mH3 : MS := (mAsg (mCell (mCons (mTup (mCons (mVar 0) (mCons (mVar 1) (mCons (mTup (mCons (mTup (mCons (mC (.int 9)) (mCons (mC (.int 4)) (mCons (mC (.int 3)) (mCons (mC (.int 2)) (mCons (mC (.int 1)) (mCons (mC (.int 0)) mNil))))))) (mCons (mTup (mCons (mC (.int 9)) (mCons (mC (.int 8)) (mCons (mC (.int 7)) (mCons (mC (.int 6)) (mCons (mC (.int 5)) (mCons (mC (.int 0)) mNil))))))) mNil))) (mCons (mC (.bl true)) mNil))))) (mCons (mTup (mCons (mVar 0) (mCons (mVar 1) (mCons (mTup mNil) (mCons (mC (.bl true)) mNil))))) mNil))) (mgN 4))
def mH4 : MS := (mAsg (mOp opCatC (mVar 4) (mLst (mCons (mTup (mCons (mVar 0) (mCons (mVar 1) (mCons (mTup (mCons (mTup (mCons (mC (.int 9)) (mCons (mC (.int 4)) (mCons (mC (.int 3)) (mCons (mC (.int 2)) (mCons (mC (.int 1)) (mCons (mC (.int 0)) mNil))))))) (mCons (mTup (mCons (mC (.int 9)) (mCons (mC (.int 8)) (mCons (mC (.int 7)) (mCons (mC (.int 2)) (mCons (mC (.int 1)) (mCons (mC (.int 0)) mNil))))))) mNil))) (mCons (mC (.bl false)) mNil))))) (mCons (mTup (mCons (mVar 0) (mCons (mVar 1) (mCons (mTup (mCons (mTup (mCons (mC (.int 9)) (mCons (mC (.int 4)) (mCons (mC (.int 0)) mNil)))) mNil)) (mCons (mC (.bl false)) mNil))))) mNil)))) (mgN 4))
def mH5 : MS := (mAsg (mOp opCatC (mVar 4) (mLst (mCons (mTup (mCons (mVar 2) (mCons (mTup (mCons (mC (.int 0)) (mCons (mC (.int 5)) mNil))) (mCons (mTup (mCons (mTup (mCons (mC (.int 5)) (mCons (mC (.int 3)) (mCons (mC (.int 1)) (mCons (mC (.int 0)) mNil))))) (mCons (mTup (mCons (mC (.int 5)) (mCons (mC (.int 4)) (mCons (mC (.int 2)) (mCons (mC (.int 0)) mNil))))) (mCons (mTup (mCons (mC (.int 5)) (mCons (mC (.int 3)) (mCons (mC (.int 2)) (mCons (mC (.int 0)) mNil))))) mNil)))) (mCons (mC (.bl true)) mNil))))) mNil))) (mgN 4))
def mH6 : MS := (mDrop (mApp (mVar 4) (mTup (mCons (mVar 2) (mCons (mTup (mCons (mC (.int 0)) (mCons (mC (.int 5)) mNil))) (mCons (mTup (mCons (mTup (mCons (mC (.int 5)) (mCons (mC (.int 2)) (mCons (mC (.int 0)) mNil)))) mNil)) (mCons (mC (.bl false)) mNil)))))))
def mH7 : MS := (mAsg (mOp opCatC (mVar 4) (mLst (mCons (mTup (mCons (mVar 2) (mCons (mTup (mCons (mC (.int 0)) (mCons (mC (.int 4)) mNil))) (mCons (mTup (mCons (mTup (mCons (mC (.int 4)) (mCons (mC (.int 2)) (mCons (mC (.int 0)) mNil)))) (mCons (mTup (mCons (mC (.int 4)) (mCons (mC (.int 2)) (mCons (mC (.int 0)) mNil)))) mNil))) (mCons (mC (.bl true)) mNil))))) (mCons (mTup (mCons (mVar 2) (mCons (mTup (mCons (mC (.int 0)) (mCons (mC (.int 4)) mNil))) (mCons (mTup (mCons (mTup (mCons (mC (.int 4)) (mCons (mC (.int 2)) (mCons (mC (.int 1)) (mCons (mC (.int 0)) mNil))))) (mCons (mTup (mCons (mC (.int 4)) (mCons (mC (.int 2)) (mCons (mC (.int 1)) (mCons (mC (.int 0)) mNil))))) mNil))) (mCons (mC (.bl false)) mNil))))) mNil)))) (mgN 4))
def mH8 : MS := (mAsg (mOp opCatC (mVar 4) (mLst (mCons (mTup (mCons (mVar 2) (mCons (mTup (mCons (mC (.int 1)) (mCons (mC (.int 4)) mNil))) (mCons (mTup (mCons (mTup (mCons (mC (.int 4)) (mCons (mC (.int 2)) (mCons (mC (.int 1)) mNil)))) mNil)) (mCons (mC (.bl true)) mNil))))) (mCons (mTup (mCons (mVar 2) (mCons (mTup (mCons (mC (.int 1)) (mCons (mC (.int 4)) mNil))) (mCons (mTup (mCons (mTup (mCons (mC (.int 4)) (mCons (mC (.int 2)) (mCons (mC (.int 0)) mNil)))) mNil)) (mCons (mC (.bl false)) mNil))))) mNil)))) (mgN 4))
def mH9 : MS := (mDrop (mApp (mVar 4) (mTup (mCons (mVar 2) (mCons (mTup (mCons (mC (.int 1)) (mCons (mC (.int 4)) mNil))) (mCons (mTup (mCons (mTup (mCons (mC (.int 4)) (mCons (mC (.int 3)) (mCons (mC (.int 1)) mNil)))) mNil)) (mCons (mC (.bl true)) mNil)))))))
def mH10 : MS := (mAsg (mOp opCatC (mVar 4) (mLst (mCons (mTup (mCons (mVar 3) (mCons (mTup (mCons (mC (.int 0)) (mCons (mC (.int 2)) mNil))) (mCons (mTup (mCons (mTup (mCons (mC (.int 2)) (mCons (mC (.int 1)) (mCons (mC (.int 0)) mNil)))) (mCons (mTup (mCons (mC (.int 2)) (mCons (mC (.int 1)) (mCons (mC (.int 0)) mNil)))) mNil))) (mCons (mC (.bl false)) mNil))))) (mCons (mTup (mCons (mVar 3) (mCons (mTup (mCons (mC (.int 0)) (mCons (mC (.int 1)) mNil))) (mCons (mTup (mCons (mTup (mCons (mC (.int 1)) (mCons (mC (.int 0)) mNil))) (mCons (mTup (mCons (mC (.int 1)) (mCons (mC (.int 0)) mNil))) (mCons (mTup (mCons (mC (.int 1)) (mCons (mC (.int 0)) mNil))) mNil)))) (mCons (mC (.bl true)) mNil))))) mNil)))) (mgN 4))
def mH11 : MS := (mAsg (mOp opCatC (mVar 4) (mLst (mCons (mTup (mCons (mVar 3) (mCons (mTup (mCons (mC (.int 1)) (mCons (mC (.int 2)) mNil))) (mCons (mTup (mCons (mTup (mCons (mC (.int 2)) (mCons (mC (.int 1)) mNil))) mNil)) (mCons (mC (.bl true)) mNil))))) (mCons (mTup (mCons (mVar 3) (mCons (mTup (mCons (mC (.int 1)) (mCons (mC (.int 2)) mNil))) (mCons (mTup (mCons (mTup (mCons (mC (.int 2)) (mCons (mC (.int 1)) mNil))) (mCons (mTup (mCons (mC (.int 2)) (mCons (mC (.int 1)) mNil))) mNil))) (mCons (mC (.bl false)) mNil))))) mNil)))) (mgN 4))
def mH12 : MS := (mDrop (mApp (mVar 4) (mTup (mCons (mVar 3) (mCons (mTup (mCons (mC (.int 0)) (mCons (mC (.int 1)) mNil))) (mCons (mTup (mCons (mTup (mCons (mC (.int 1)) mNil)) mNil)) (mCons (mC (.bl false)) mNil)))))))
def mH13 : MS := (mAsg (mOp opCatC (mVar 4) (mLst (mCons (mTup (mCons (mVar 3) (mCons (mTup (mCons (mC (.int 0)) (mCons (mC (.int 1)) mNil))) (mCons (mLst (mCons (mTup (mCons (mC (.int 1)) (mCons (mC (.int 0)) mNil))) mNil)) (mCons (mC (.bl false)) mNil))))) (mCons (mTup (mCons (mVar 3) (mCons (mTup (mCons (mC (.int 0)) (mCons (mC (.int 1)) mNil))) (mCons (mTup (mCons (mLst (mCons (mC (.int 1)) (mCons (mC (.int 0)) mNil))) mNil)) (mCons (mC (.bl false)) mNil))))) mNil)))) (mgN 4))
def mH14 : MS := (mAsg (mOp opCatC (mVar 4) (mLst (mCons (mTup (mCons (mVar 3) (mCons (mTup (mCons (mC (.int 0)) (mCons (mC (.int 1)) mNil))) (mCons (mTup (mCons (mTup (mCons (mC (.bl true)) (mCons (mC (.int 0)) mNil))) mNil)) (mCons (mC (.bl false)) mNil))))) (mCons (mTup (mCons (mVar 3) (mCons (mTup (mCons (mC (.int 0)) (mCons (mC (.int 1)) mNil))) (mCons (mTup (mCons (mTup (mCons (mLst (mCons (mC (.int 1)) mNil)) (mCons (mC (.int 0)) mNil))) mNil)) (mCons (mC (.bl false)) mNil))))) mNil)))) (mgN 4))
def mH15 : MS := (mAsg (mOp opCatC (mVar 4) (mLst (mCons (mTup (mCons (mVar 3) (mCons (mTup (mCons (mC (.int 0)) (mCons (mC (.int 1)) mNil))) (mCons (mTup (mCons (mTup (mCons (mTup (mCons (mC (.int 1)) mNil)) (mCons (mC (.int 0)) mNil))) mNil)) (mCons (mC (.bl false)) mNil))))) (mCons (mTup (mCons (mVar 3) (mCons (mTup (mCons (mC (.int 0)) (mCons (mC (.int 1)) mNil))) (mCons (mTup (mCons (mTup (mCons (mC (.str "1")) (mCons (mC (.int 0)) mNil))) mNil)) (mCons (mC (.bl false)) mNil))))) mNil)))) (mgN 4))
def mH16 : MS := (mAsg (mOp opCatC (mVar 4) (mLst (mCons (mTup (mCons (mVar 3) (mCons (mTup (mCons (mC (.int 0)) (mCons (mC (.int 1)) mNil))) (mCons (mTup (mCons (mC (.int 1)) (mCons (mC (.int 0)) mNil))) (mCons (mC (.bl false)) mNil))))) (mCons (mTup (mCons (mVar 3) (mCons (mTup (mCons (mC (.int 0)) (mCons (mC (.int 1)) mNil))) (mCons (mC .non) (mCons (mC (.bl false)) mNil))))) (mCons (mTup (mCons (mVar 3) (mCons (mTup (mCons (mC (.int 0)) (mCons (mC (.int 1)) mNil))) (mCons (mC (.str "10")) (mCons (mC (.bl false)) mNil))))) mNil))))) (mgN 4))
def mH17 : MS := (mAsg (mOp opCatC (mVar 4) (mLst (mCons (mTup (mCons (mVar 2) (mCons (mTup (mCons (mC (.int 0)) (mCons (mC (.int 5)) mNil))) (mCons (mTup (mCons (mTup (mCons (mC (.int 0)) (mCons (mC (.int 1)) (mCons (mC (.int 3)) (mCons (mC (.int 5)) mNil))))) mNil)) (mCons (mC (.bl false)) mNil))))) (mCons (mTup (mCons (mVar 2) (mCons (mTup (mCons (mC (.int 0)) (mCons (mC (.int 4)) mNil))) (mCons (mTup (mCons (mTup (mCons (mC (.int 4)) (mCons (mC (.int 5)) (mCons (mC (.int 3)) (mCons (mC (.int 1)) (mCons (mC (.int 0)) mNil)))))) mNil)) (mCons (mC (.bl false)) mNil))))) mNil)))) (mgN 4))
def mH18 : MS := (mFor (mItems (mFrz (mVar 4))) (mgTup 4 (mgCons (mgN 5) (mgCons (mgN 6) (mgCons (mgN 7) (mgCons (mgN 8) mgNil))))) (mIf (mOrT (mTB (mOp opNe (mCall (fPure f_l_due) (mCons (mOp opIx (mVar 5) (mC (.int 2))) (mCons (mVar 6) (mCons (mVar 7) mNil)))) (mVar 8))) (mNotT (mTest (mCall (fPure f_l_one_right) (mCons (mVar 5) (mCons (mVar 6) (mCons (mVar 7) mNil))))))) (mRet (mC (.bl false))) mSkip))
def mH19 : MS := (mRet (mC (.bl true)))
theorem hand_form : m_l_by_hand_right = mSeq mH0 (mSeq mH1 (mSeq mH2 (mSeq mH3 (mSeq mH4 (mSeq mH5 (mSeq mH6 (mSeq mH7 (mSeq mH8 (mSeq mH9 (mSeq mH10 (mSeq mH11 (mSeq mH12 (mSeq mH13 (mSeq mH14 (mSeq mH15 (mSeq mH16 (mSeq mH17 (mSeq mH18 (mH19))))))))))))))))))) := rfl
def nineP : List (Int × Int) := [(0, 5), (2, 7), (4, 9)]
def fiveP : List (Int × Int) := [(0, 2), (1, 3), (2, 4), (3, 5)]
def oneP : List (Int × Int) := [(0, 1)]
def caseD (n : Int) (ps : List (Int × Int)) (s e : Int) (M : D) (v : Bool) : D := .tup [bookD n 1 10 ps, pairD (s, e), M, .bl v]
def CaseW (d : D) : Prop := ∃ (n s e : Int) (ps : List (Int × Int)) (M : D) (v : Bool), d = caseD n ps s e M v ∧ Jdg n 1 10 s e ps M v ∧ ps.length ≤ 1000
section
variable {n s e : Int} {ps : List (Int × Int)} {v : Bool}
theorem c_ints (Ls : List (List Int)) (hlt : ∀ p ∈ ps, p.1 < p.2) (hpl : ps.length ≤ 1000) (hs : 0 ≤ s ∧ s < e ∧ e - s ≤ 10 ∧ e ≤ 1000) (hl : ∀ L ∈ Ls, L.length ≤ 1000) (h5 : Ls.length ≤ 6) (hv : rowsB ps s e Ls = v) : CaseW (caseD n ps s e (.tup (Ls.map wayD)) v) := ⟨n, s, e, ps, _, v, rfl, hv ▸ jdg_rows hlt hpl hs.1 hs.2.2.2 hs.2.2.1 hs.2.1 hl h5, hpl⟩
def rowOk : D → Bool
  | .tup xs => xs.all okish && decide (xs.length ≤ 1000)
  | d => okish d
def notInts : D → Bool
  | .tup xs => xs.any nNum
  | _ => true
theorem rowOk_row {d : D} (h : rowOk d = true) : Row d := by
  cases d with
  | tup xs =>
    unfold rowOk at h
    simp only [Bool.and_eq_true, decide_eq_true_eq, List.all_eq_true] at h
    exact row_of h.1 h.2
  | _ => exact .odd _ rfl h
theorem notInts_not {d : D} (h : notInts d = true) : ¬ IsInts d := by
  rintro ⟨L, rfl, _⟩
  unfold wayD notInts at h
  obtain ⟨d, hd, hn⟩ := List.any_eq_true.mp h
  obtain ⟨x, _, rfl⟩ := List.mem_map.mp hd
  simp [nNum, isNum] at hn
theorem c_odd (ds : List D) (hpl : ps.length ≤ 1000) (h : ds.all rowOk = true) (hl : ds.length ≤ 1000) (hn : ds.any notInts = true) : CaseW (caseD n ps s e (.tup ds) false) := ⟨n, s, e, ps, _, false, rfl, jdg_odd hpl (fun d hd => rowOk_row (List.all_eq_true.mp h d hd)) hl (by
  obtain ⟨d, hd, hn⟩ := List.any_eq_true.mp hn
  exact ⟨d, hd, notInts_not hn⟩), hpl⟩
theorem c_not (M : D) (hpl : ps.length ≤ 1000) (h : noTup M = true) (hp : okish M = true) : CaseW (caseD n ps s e M false) := ⟨n, s, e, ps, _, false, rfl, jdg_not h hp, hpl⟩
end
theorem hc0 : CaseW (caseD 9 nineP 0 9 (.tup [.tup [.int 9, .int 4, .int 3, .int 2, .int 1, .int 0], .tup [.int 9, .int 8, .int 7, .int 6, .int 5, .int 0]]) true) := c_ints [[9, 4, 3, 2, 1, 0], [9, 8, 7, 6, 5, 0]] (by decide) (by decide) (by decide) (by decide) (by decide) (by decide)
theorem hc1 : CaseW (caseD 9 nineP 0 9 (.tup []) true) := c_ints [] (by decide) (by decide) (by decide) (by decide) (by decide) (by decide)
theorem hc2 : CaseW (caseD 9 nineP 0 9 (.tup [.tup [.int 9, .int 4, .int 3, .int 2, .int 1, .int 0], .tup [.int 9, .int 8, .int 7, .int 2, .int 1, .int 0]]) false) := c_ints [[9, 4, 3, 2, 1, 0], [9, 8, 7, 2, 1, 0]] (by decide) (by decide) (by decide) (by decide) (by decide) (by decide)
theorem hc3 : CaseW (caseD 9 nineP 0 9 (.tup [.tup [.int 9, .int 4, .int 0]]) false) := c_ints [[9, 4, 0]] (by decide) (by decide) (by decide) (by decide) (by decide) (by decide)
theorem hc4 : CaseW (caseD 5 fiveP 0 5 (.tup [.tup [.int 5, .int 3, .int 1, .int 0], .tup [.int 5, .int 4, .int 2, .int 0], .tup [.int 5, .int 3, .int 2, .int 0]]) true) := c_ints [[5, 3, 1, 0], [5, 4, 2, 0], [5, 3, 2, 0]] (by decide) (by decide) (by decide) (by decide) (by decide) (by decide)
theorem hc5 : CaseW (caseD 5 fiveP 0 5 (.tup [.tup [.int 5, .int 2, .int 0]]) false) := c_ints [[5, 2, 0]] (by decide) (by decide) (by decide) (by decide) (by decide) (by decide)
theorem hc6 : CaseW (caseD 5 fiveP 0 4 (.tup [.tup [.int 4, .int 2, .int 0], .tup [.int 4, .int 2, .int 0]]) true) := c_ints [[4, 2, 0], [4, 2, 0]] (by decide) (by decide) (by decide) (by decide) (by decide) (by decide)
theorem hc7 : CaseW (caseD 5 fiveP 0 4 (.tup [.tup [.int 4, .int 2, .int 1, .int 0], .tup [.int 4, .int 2, .int 1, .int 0]]) false) := c_ints [[4, 2, 1, 0], [4, 2, 1, 0]] (by decide) (by decide) (by decide) (by decide) (by decide) (by decide)
theorem hc8 : CaseW (caseD 5 fiveP 1 4 (.tup [.tup [.int 4, .int 2, .int 1]]) true) := c_ints [[4, 2, 1]] (by decide) (by decide) (by decide) (by decide) (by decide) (by decide)
theorem hc9 : CaseW (caseD 5 fiveP 1 4 (.tup [.tup [.int 4, .int 2, .int 0]]) false) := c_ints [[4, 2, 0]] (by decide) (by decide) (by decide) (by decide) (by decide) (by decide)
theorem hc10 : CaseW (caseD 5 fiveP 1 4 (.tup [.tup [.int 4, .int 3, .int 1]]) true) := c_ints [[4, 3, 1]] (by decide) (by decide) (by decide) (by decide) (by decide) (by decide)
theorem hc11 : CaseW (caseD 2 oneP 0 2 (.tup [.tup [.int 2, .int 1, .int 0], .tup [.int 2, .int 1, .int 0]]) false) := c_ints [[2, 1, 0], [2, 1, 0]] (by decide) (by decide) (by decide) (by decide) (by decide) (by decide)
theorem hc12 : CaseW (caseD 2 oneP 0 1 (.tup [.tup [.int 1, .int 0], .tup [.int 1, .int 0], .tup [.int 1, .int 0]]) true) := c_ints [[1, 0], [1, 0], [1, 0]] (by decide) (by decide) (by decide) (by decide) (by decide) (by decide)
theorem hc13 : CaseW (caseD 2 oneP 1 2 (.tup [.tup [.int 2, .int 1]]) true) := c_ints [[2, 1]] (by decide) (by decide) (by decide) (by decide) (by decide) (by decide)
theorem hc14 : CaseW (caseD 2 oneP 1 2 (.tup [.tup [.int 2, .int 1], .tup [.int 2, .int 1]]) false) := c_ints [[2, 1], [2, 1]] (by decide) (by decide) (by decide) (by decide) (by decide) (by decide)
theorem hc15 : CaseW (caseD 2 oneP 0 1 (.tup [.tup [.int 1]]) false) := c_ints [[1]] (by decide) (by decide) (by decide) (by decide) (by decide) (by decide)
theorem hc16 : CaseW (caseD 2 oneP 0 1 (.lst [.tup [.int 1, .int 0]]) false) := c_not _ (by decide) rfl (by first | rfl | decide +kernel)
theorem hc17 : CaseW (caseD 2 oneP 0 1 (.tup [.lst [.int 1, .int 0]]) false) := c_odd _ (by decide) (by first | rfl | decide +kernel) (by decide) (by first | rfl | decide +kernel)
theorem hc18 : CaseW (caseD 2 oneP 0 1 (.tup [.tup [.bl true, .int 0]]) false) := c_odd _ (by decide) (by first | rfl | decide +kernel) (by decide) (by first | rfl | decide +kernel)
theorem hc19 : CaseW (caseD 2 oneP 0 1 (.tup [.tup [.lst [.int 1], .int 0]]) false) := c_odd _ (by decide) (by first | rfl | decide +kernel) (by decide) (by first | rfl | decide +kernel)
theorem hc20 : CaseW (caseD 2 oneP 0 1 (.tup [.tup [.tup [.int 1], .int 0]]) false) := c_odd _ (by decide) (by first | rfl | decide +kernel) (by decide) (by first | rfl | decide +kernel)
theorem hc21 : CaseW (caseD 2 oneP 0 1 (.tup [.tup [.str "1", .int 0]]) false) := c_odd _ (by decide) (by first | rfl | decide +kernel) (by decide) (by first | rfl | decide +kernel)
theorem hc22 : CaseW (caseD 2 oneP 0 1 (.tup [.int 1, .int 0]) false) := c_odd _ (by decide) (by first | rfl | decide +kernel) (by decide) (by first | rfl | decide +kernel)
theorem hc23 : CaseW (caseD 2 oneP 0 1 (.non) false) := c_not _ (by decide) rfl (by first | rfl | decide +kernel)
theorem hc24 : CaseW (caseD 2 oneP 0 1 (.str "10") false) := c_not _ (by decide) rfl (by first | rfl | decide +kernel)
theorem hc25 : CaseW (caseD 5 fiveP 0 5 (.tup [.tup [.int 0, .int 1, .int 3, .int 5]]) false) := c_ints [[0, 1, 3, 5]] (by decide) (by decide) (by decide) (by decide) (by decide) (by decide)
theorem hc26 : CaseW (caseD 5 fiveP 0 4 (.tup [.tup [.int 4, .int 5, .int 3, .int 1, .int 0]]) false) := c_ints [[4, 5, 3, 1, 0]] (by decide) (by decide) (by decide) (by decide) (by decide) (by decide)
def env51 (v4 v5 v6 v7 v8 : Option D) : Q.Env := [some (bookD 9 1 10 nineP), some (pairD (0, 9)), some (bookD 5 1 10 fiveP), some (bookD 2 1 10 oneP), v4, v5, v6, v7, v8]
def envJ (j : Nat) : Q.Env := env51 (some (.ref j)) none none none none
def Inv (c j : Nat) (S : Store) : Prop := ∃ L, S[j]? = some (.lst L) ∧ (∀ d ∈ L, CaseW d) ∧ L.length ≤ c
theorem cat_step {me : ME} {ds : List D} {c j : Nat} {S : Store} (hme : ∀ j S, me (envJ j) S = .ok (.lst ds) S) (hd : ∀ d ∈ ds, CaseW d) (hl : ds.length ≤ 3) (hc : c ≤ 1000) (h : Inv c j S) : ∃ S' j', mAsg (mOp opCatC (mVar 4) me) (mgN 4) (envJ j) S = .ok (.nx (envJ j')) S' ∧ Inv (c + 3) j' S' := by
  obtain ⟨L, g, hL, hl2⟩ := h
  have ct := catC_ref ds g
  rw [if_pos (by omega)] at ct
  have m1 := hme j S
  have e4 : (envJ j)[4]? = some (some (.ref j)) := rfl
  have es : ∀ x, (envJ j).set 4 (some x) = env51 (some x) none none none none := fun x => rfl
  refine ⟨S ++ [.lst (L ++ ds)], S.length, ?_, L ++ ds, by simp, fun d h => (List.mem_append.mp h).elim (hL d) (hd d), by rw [List.length_append]; omega⟩
  generalize envJ j = E at *
  simp [e4, m1, ct, es]
  rfl
theorem app_step {me : ME} {d : D} {c j : Nat} {S : Store} (hme : ∀ j S, me (envJ j) S = .ok d S) (hd : CaseW d) (hc : c ≤ 1000) (h : Inv c j S) : ∃ S', mDrop (mApp (mVar 4) me) (envJ j) S = .ok (.nx (envJ j)) S' ∧ Inv (c + 3) j S' := by
  obtain ⟨L, g, hL, hl2⟩ := h
  have put := appTo_ok d g (by omega)
  have no := notOb_lst g
  have m1 := hme j S
  have e4 : (envJ j)[4]? = some (some (.ref j)) := rfl
  have hj := (List.getElem?_eq_some_iff.mp g).1
  refine ⟨S.set j (.lst (L ++ [d])), ?_, L ++ [d], by rw [List.getElem?_set_self hj], fun x h => (List.mem_append.mp h).elim (hL x) (fun z => by rw [List.mem_singleton] at z; exact z ▸ hd), by rw [List.length_append, List.length_singleton]; omega⟩
  generalize envJ j = E at *
  simp [e4, m1, put, no]
def mHB : MS := (mIf (mOrT (mTB (mOp opNe (mCall (fPure f_l_due) (mCons (mOp opIx (mVar 5) (mC (.int 2))) (mCons (mVar 6) (mCons (mVar 7) mNil)))) (mVar 8))) (mNotT (mTest (mCall (fPure f_l_one_right) (mCons (mVar 5) (mCons (mVar 6) (mCons (mVar 7) mNil))))))) (mRet (mC (.bl false))) mSkip)
theorem hb_loop {v4 : Option D} {S : Store} : ∀ (ds : List D) (v5 v6 v7 v8 : Option D), (∀ d ∈ ds, CaseW d) →
    ∃ w5 w6 w7 w8, forL (mgTup 4 (mgCons (mgN 5) (mgCons (mgN 6) (mgCons (mgN 7) (mgCons (mgN 8) mgNil))))) mHB ds (env51 v4 v5 v6 v7 v8) S = .ok (.nx (env51 v4 w5 w6 w7 w8)) S
  | [], v5, v6, v7, v8, _ => ⟨v5, v6, v7, v8, by simp [forL_nil]⟩
  | d :: ds, v5, v6, v7, v8, h => by
    obtain ⟨n, s, e, ps, M, v, rfl, hJ, hl⟩ := h d (List.mem_cons_self ..)
    obtain ⟨w5, w6, w7, w8, ih⟩ := hb_loop (v4 := v4) (S := S) ds (some (bookD n 1 10 ps)) (some (pairD (s, e))) (some M) (some (.bl v)) fun d hd => h d (List.mem_cons_of_mem _ hd)
    refine ⟨w5, w6, w7, w8, ?_⟩
    have du := hJ.law S
    have on := oneR hJ hl S
    have i2 : opIx (bookD n 1 10 ps) (.int 2) S = .ok (looksD ps) S := rfl
    have ne : opNe (.bl v) (.bl v) S = .ok (.bl false) S := by
      show Res.ok (D.bl (!(v == v))) S = _
      simp
    unfold env51 at ih ⊢
    have hb : ∀ N Y F O : Option D, mHB [N, Y, F, O, v4, some (bookD n 1 10 ps), some (pairD (s, e)), some M, some (.bl v)] S = .ok (.nx [N, Y, F, O, v4, some (bookD n 1 10 ps), some (pairD (s, e)), some M, some (.bl v)]) S := fun N Y F O => by
      unfold mHB
      generalize bookD n 1 10 ps = B at *
      generalize pairD (s, e) = Y at *
      generalize D.bl v = V at *
      simp [i2, du, on, ne]
    have g0 : ∀ N Y F O : Option D, mgTup 4 (mgCons (mgN 5) (mgCons (mgN 6) (mgCons (mgN 7) (mgCons (mgN 8) mgNil)))) (caseD n ps s e M v) [N, Y, F, O, v4, v5, v6, v7, v8] S = .ok [N, Y, F, O, v4, some (bookD n 1 10 ps), some (pairD (s, e)), some M, some (.bl v)] S := fun N Y F O => by
      unfold caseD
      generalize bookD n 1 10 ps = B at *
      generalize pairD (s, e) = Y at *
      simp
    rw [forL_cons, g0, bind_ok, forBK_ap, hb, bind_ok]
    exact ih
theorem g0_ok (S : Store) : mSeq mH0 (mSeq mH1 mH2) [none, none, none, none, none, none, none, none, none] S = .ok (.nx (env51 none none none none none)) S := rfl
theorem g3_ok : ∃ S j, mH3 (env51 none none none none none) [] = .ok (.nx (envJ j)) S ∧ Inv 2 j S := ⟨[.lst [caseD 9 nineP 0 9 (.tup [.tup [.int 9, .int 4, .int 3, .int 2, .int 1, .int 0], .tup [.int 9, .int 8, .int 7, .int 6, .int 5, .int 0]]) true, caseD 9 nineP 0 9 (.tup []) true]], 0, rfl, _, rfl, fun d h => by
  simp only [List.mem_cons, List.not_mem_nil, or_false] at h
  rcases h with rfl | rfl
  · exact hc0
  · exact hc1, by simp⟩
theorem g4_ok {c j : Nat} {S : Store} (hc : c ≤ 1000) (h : Inv c j S) : ∃ S' j', mH4 (envJ j) S = .ok (.nx (envJ j')) S' ∧ Inv (c + 3) j' S' := cat_step (ds := [caseD 9 nineP 0 9 (.tup [.tup [.int 9, .int 4, .int 3, .int 2, .int 1, .int 0], .tup [.int 9, .int 8, .int 7, .int 2, .int 1, .int 0]]) false, caseD 9 nineP 0 9 (.tup [.tup [.int 9, .int 4, .int 0]]) false]) (fun j S => rfl) (fun d h => by
  simp only [List.mem_cons, List.not_mem_nil, or_false] at h
  rcases h with rfl | rfl
  · exact hc2
  · exact hc3) (by simp) hc h
theorem g5_ok {c j : Nat} {S : Store} (hc : c ≤ 1000) (h : Inv c j S) : ∃ S' j', mH5 (envJ j) S = .ok (.nx (envJ j')) S' ∧ Inv (c + 3) j' S' := cat_step (ds := [caseD 5 fiveP 0 5 (.tup [.tup [.int 5, .int 3, .int 1, .int 0], .tup [.int 5, .int 4, .int 2, .int 0], .tup [.int 5, .int 3, .int 2, .int 0]]) true]) (fun j S => rfl) (fun d h => by
  simp only [List.mem_cons, List.not_mem_nil, or_false] at h
  subst h
  exact hc4) (by simp) hc h
theorem g6_ok {c j : Nat} {S : Store} (hc : c ≤ 1000) (h : Inv c j S) : ∃ S' j', mH6 (envJ j) S = .ok (.nx (envJ j')) S' ∧ Inv (c + 3) j' S' := by
  obtain ⟨S', e, h'⟩ := app_step (me := (mTup (mCons (mVar 2) (mCons (mTup (mCons (mC (.int 0)) (mCons (mC (.int 5)) mNil))) (mCons (mTup (mCons (mTup (mCons (mC (.int 5)) (mCons (mC (.int 2)) (mCons (mC (.int 0)) mNil)))) mNil)) (mCons (mC (.bl false)) mNil)))))) (d := caseD 5 fiveP 0 5 (.tup [.tup [.int 5, .int 2, .int 0]]) false) (fun j S => rfl) hc5 hc h
  exact ⟨S', j, e, h'⟩
theorem g7_ok {c j : Nat} {S : Store} (hc : c ≤ 1000) (h : Inv c j S) : ∃ S' j', mH7 (envJ j) S = .ok (.nx (envJ j')) S' ∧ Inv (c + 3) j' S' := cat_step (ds := [caseD 5 fiveP 0 4 (.tup [.tup [.int 4, .int 2, .int 0], .tup [.int 4, .int 2, .int 0]]) true, caseD 5 fiveP 0 4 (.tup [.tup [.int 4, .int 2, .int 1, .int 0], .tup [.int 4, .int 2, .int 1, .int 0]]) false]) (fun j S => rfl) (fun d h => by
  simp only [List.mem_cons, List.not_mem_nil, or_false] at h
  rcases h with rfl | rfl
  · exact hc6
  · exact hc7) (by simp) hc h
theorem g8_ok {c j : Nat} {S : Store} (hc : c ≤ 1000) (h : Inv c j S) : ∃ S' j', mH8 (envJ j) S = .ok (.nx (envJ j')) S' ∧ Inv (c + 3) j' S' := cat_step (ds := [caseD 5 fiveP 1 4 (.tup [.tup [.int 4, .int 2, .int 1]]) true, caseD 5 fiveP 1 4 (.tup [.tup [.int 4, .int 2, .int 0]]) false]) (fun j S => rfl) (fun d h => by
  simp only [List.mem_cons, List.not_mem_nil, or_false] at h
  rcases h with rfl | rfl
  · exact hc8
  · exact hc9) (by simp) hc h
theorem g9_ok {c j : Nat} {S : Store} (hc : c ≤ 1000) (h : Inv c j S) : ∃ S' j', mH9 (envJ j) S = .ok (.nx (envJ j')) S' ∧ Inv (c + 3) j' S' := by
  obtain ⟨S', e, h'⟩ := app_step (me := (mTup (mCons (mVar 2) (mCons (mTup (mCons (mC (.int 1)) (mCons (mC (.int 4)) mNil))) (mCons (mTup (mCons (mTup (mCons (mC (.int 4)) (mCons (mC (.int 3)) (mCons (mC (.int 1)) mNil)))) mNil)) (mCons (mC (.bl true)) mNil)))))) (d := caseD 5 fiveP 1 4 (.tup [.tup [.int 4, .int 3, .int 1]]) true) (fun j S => rfl) hc10 hc h
  exact ⟨S', j, e, h'⟩
theorem g10_ok {c j : Nat} {S : Store} (hc : c ≤ 1000) (h : Inv c j S) : ∃ S' j', mH10 (envJ j) S = .ok (.nx (envJ j')) S' ∧ Inv (c + 3) j' S' := cat_step (ds := [caseD 2 oneP 0 2 (.tup [.tup [.int 2, .int 1, .int 0], .tup [.int 2, .int 1, .int 0]]) false, caseD 2 oneP 0 1 (.tup [.tup [.int 1, .int 0], .tup [.int 1, .int 0], .tup [.int 1, .int 0]]) true]) (fun j S => rfl) (fun d h => by
  simp only [List.mem_cons, List.not_mem_nil, or_false] at h
  rcases h with rfl | rfl
  · exact hc11
  · exact hc12) (by simp) hc h
theorem g11_ok {c j : Nat} {S : Store} (hc : c ≤ 1000) (h : Inv c j S) : ∃ S' j', mH11 (envJ j) S = .ok (.nx (envJ j')) S' ∧ Inv (c + 3) j' S' := cat_step (ds := [caseD 2 oneP 1 2 (.tup [.tup [.int 2, .int 1]]) true, caseD 2 oneP 1 2 (.tup [.tup [.int 2, .int 1], .tup [.int 2, .int 1]]) false]) (fun j S => rfl) (fun d h => by
  simp only [List.mem_cons, List.not_mem_nil, or_false] at h
  rcases h with rfl | rfl
  · exact hc13
  · exact hc14) (by simp) hc h
theorem g12_ok {c j : Nat} {S : Store} (hc : c ≤ 1000) (h : Inv c j S) : ∃ S' j', mH12 (envJ j) S = .ok (.nx (envJ j')) S' ∧ Inv (c + 3) j' S' := by
  obtain ⟨S', e, h'⟩ := app_step (me := (mTup (mCons (mVar 3) (mCons (mTup (mCons (mC (.int 0)) (mCons (mC (.int 1)) mNil))) (mCons (mTup (mCons (mTup (mCons (mC (.int 1)) mNil)) mNil)) (mCons (mC (.bl false)) mNil)))))) (d := caseD 2 oneP 0 1 (.tup [.tup [.int 1]]) false) (fun j S => rfl) hc15 hc h
  exact ⟨S', j, e, h'⟩
theorem g13_ok {c j : Nat} {S : Store} (hc : c ≤ 1000) (h : Inv c j S) : ∃ S' j', mH13 (envJ j) S = .ok (.nx (envJ j')) S' ∧ Inv (c + 3) j' S' := cat_step (ds := [caseD 2 oneP 0 1 (.lst [.tup [.int 1, .int 0]]) false, caseD 2 oneP 0 1 (.tup [.lst [.int 1, .int 0]]) false]) (fun j S => rfl) (fun d h => by
  simp only [List.mem_cons, List.not_mem_nil, or_false] at h
  rcases h with rfl | rfl
  · exact hc16
  · exact hc17) (by simp) hc h
theorem g14_ok {c j : Nat} {S : Store} (hc : c ≤ 1000) (h : Inv c j S) : ∃ S' j', mH14 (envJ j) S = .ok (.nx (envJ j')) S' ∧ Inv (c + 3) j' S' := cat_step (ds := [caseD 2 oneP 0 1 (.tup [.tup [.bl true, .int 0]]) false, caseD 2 oneP 0 1 (.tup [.tup [.lst [.int 1], .int 0]]) false]) (fun j S => rfl) (fun d h => by
  simp only [List.mem_cons, List.not_mem_nil, or_false] at h
  rcases h with rfl | rfl
  · exact hc18
  · exact hc19) (by simp) hc h
theorem g15_ok {c j : Nat} {S : Store} (hc : c ≤ 1000) (h : Inv c j S) : ∃ S' j', mH15 (envJ j) S = .ok (.nx (envJ j')) S' ∧ Inv (c + 3) j' S' := cat_step (ds := [caseD 2 oneP 0 1 (.tup [.tup [.tup [.int 1], .int 0]]) false, caseD 2 oneP 0 1 (.tup [.tup [.str "1", .int 0]]) false]) (fun j S => rfl) (fun d h => by
  simp only [List.mem_cons, List.not_mem_nil, or_false] at h
  rcases h with rfl | rfl
  · exact hc20
  · exact hc21) (by simp) hc h
theorem g16_ok {c j : Nat} {S : Store} (hc : c ≤ 1000) (h : Inv c j S) : ∃ S' j', mH16 (envJ j) S = .ok (.nx (envJ j')) S' ∧ Inv (c + 3) j' S' := cat_step (ds := [caseD 2 oneP 0 1 (.tup [.int 1, .int 0]) false, caseD 2 oneP 0 1 (.non) false, caseD 2 oneP 0 1 (.str "10") false]) (fun j S => rfl) (fun d h => by
  simp only [List.mem_cons, List.not_mem_nil, or_false] at h
  rcases h with rfl | rfl | rfl
  · exact hc22
  · exact hc23
  · exact hc24) (by simp) hc h
theorem g17_ok {c j : Nat} {S : Store} (hc : c ≤ 1000) (h : Inv c j S) : ∃ S' j', mH17 (envJ j) S = .ok (.nx (envJ j')) S' ∧ Inv (c + 3) j' S' := cat_step (ds := [caseD 5 fiveP 0 5 (.tup [.tup [.int 0, .int 1, .int 3, .int 5]]) false, caseD 5 fiveP 0 4 (.tup [.tup [.int 4, .int 5, .int 3, .int 1, .int 0]]) false]) (fun j S => rfl) (fun d h => by
  simp only [List.mem_cons, List.not_mem_nil, or_false] at h
  rcases h with rfl | rfl
  · exact hc25
  · exact hc26) (by simp) hc h
theorem g18_ok {c j : Nat} {S : Store} (hc : c ≤ 1000) (h : Inv c j S) : ∃ S' w5 w6 w7 w8, mH18 (envJ j) S = .ok (.nx (env51 (some (.ref j)) w5 w6 w7 w8)) S' := by
  obtain ⟨L, g, hL, hl⟩ := h
  have fr := fz_ref g
  obtain ⟨w5, w6, w7, w8, lp⟩ := hb_loop (v4 := some (.ref j)) (S := S.set j (.frz L)) L none none none none hL
  refine ⟨S.set j (.frz L), w5, w6, w7, w8, ?_⟩
  have hz : L.length ≤ 100000 := by omega
  show mFor _ _ mHB _ _ = _
  unfold envJ
  generalize mHB = M at *
  unfold env51 at lp ⊢
  generalize bookD 9 1 10 nineP = N at *
  generalize pairD (0, 9) = Y at *
  generalize bookD 5 1 10 fiveP = F at *
  generalize bookD 2 1 10 oneP = O at *
  simp -implicitDefEqProofs [fr, hz, lp]
theorem hand51 (S : Store) : fPure f_l_by_hand_right [] S = .ok (.bl true) S := by
  refine fPure_ap S rfl ?_
  unfold f_l_by_hand_right
  rw [hand_form, fnM_0, show (List.replicate 9 none : Q.Env) = [none, none, none, none, none, none, none, none, none] from rfl]
  have g0 : ∀ r, mSeq mH0 (mSeq mH1 (mSeq mH2 r)) [none, none, none, none, none, none, none, none, none] [] = r (env51 none none none none none) [] := fun r => rfl
  obtain ⟨S3, j3, e3, i3⟩ := g3_ok
  obtain ⟨S4, j4, e4, i4⟩ := g4_ok (by omega) i3
  obtain ⟨S5, j5, e5, i5⟩ := g5_ok (by omega) i4
  obtain ⟨S6, j6, e6, i6⟩ := g6_ok (by omega) i5
  obtain ⟨S7, j7, e7, i7⟩ := g7_ok (by omega) i6
  obtain ⟨S8, j8, e8, i8⟩ := g8_ok (by omega) i7
  obtain ⟨S9, j9, e9, i9⟩ := g9_ok (by omega) i8
  obtain ⟨S10, j10, e10, i10⟩ := g10_ok (by omega) i9
  obtain ⟨S11, j11, e11, i11⟩ := g11_ok (by omega) i10
  obtain ⟨S12, j12, e12, i12⟩ := g12_ok (by omega) i11
  obtain ⟨S13, j13, e13, i13⟩ := g13_ok (by omega) i12
  obtain ⟨S14, j14, e14, i14⟩ := g14_ok (by omega) i13
  obtain ⟨S15, j15, e15, i15⟩ := g15_ok (by omega) i14
  obtain ⟨S16, j16, e16, i16⟩ := g16_ok (by omega) i15
  obtain ⟨S17, j17, e17, i17⟩ := g17_ok (by omega) i16
  obtain ⟨S18, w5, w6, w7, w8, e18⟩ := g18_ok (by omega) i17
  generalize mH3 = m3 at *
  generalize mH4 = m4 at *
  generalize mH5 = m5 at *
  generalize mH6 = m6 at *
  generalize mH7 = m7 at *
  generalize mH8 = m8 at *
  generalize mH9 = m9 at *
  generalize mH10 = m10 at *
  generalize mH11 = m11 at *
  generalize mH12 = m12 at *
  generalize mH13 = m13 at *
  generalize mH14 = m14 at *
  generalize mH15 = m15 at *
  generalize mH16 = m16 at *
  generalize mH17 = m17 at *
  generalize mH18 = m18 at *
  rw [g0]
  rw [ap_seq, e3, bind_ok, seqK_nx, ap_seq, e4, bind_ok, seqK_nx, ap_seq, e5, bind_ok, seqK_nx, ap_seq, e6, bind_ok, seqK_nx, ap_seq, e7, bind_ok, seqK_nx, ap_seq, e8, bind_ok, seqK_nx, ap_seq, e9, bind_ok, seqK_nx, ap_seq, e10, bind_ok, seqK_nx, ap_seq, e11, bind_ok, seqK_nx, ap_seq, e12, bind_ok, seqK_nx, ap_seq, e13, bind_ok, seqK_nx, ap_seq, e14, bind_ok, seqK_nx, ap_seq, e15, bind_ok, seqK_nx, ap_seq, e16, bind_ok, seqK_nx, ap_seq, e17, bind_ok, seqK_nx, ap_seq, e18, bind_ok, seqK_nx]
  exact fin_nil rfl
def mTurn (t : Nat) : MS := (mSeq (mAsg (mCall (fCall f_l_box) (mCons (mVar 1) (mCons (mVar 2) mNil))) (mgN 3))
  (mIf (mNotT (mTest (mCall fAll (mCons (mLc (mRange1 (mC (.int (t : Nat)))) (mgN 4) mYes (mCall (fCall f_l_right) (mCons (mVar 3) mNil)) [4]) mNil)))) (mRet (mC (.bl false))) mSkip))
theorem turn_s {t W k : Nat} (ht : t ≤ 1000) (hW : W ≤ 100000000) (hr : RightP W) (hb : BoxOk) {cs : List Int} {v0 : D} {v3 v4 : Option D} (hk : k < cs.length) (hk2 : k < 100) (S : Store) (hpu : S.all Cell.pure = true) :
    (mTurn t [some v0, some (.lst (cs.map .int)), some (.int (k : Nat)), v3, v4] S).Sat fun f S' => S'.all Cell.pure = true ∧ ∃ w3, f = .nx [some v0, some (.lst (cs.map .int)), some (.int (k : Nat)), w3, v4] := by
  have hl : t ≤ 100000 := by omega
  have hbs := @box_p S cs k hb hk hk2 hpu
  generalize cs.map D.int = L at *
  unfold mTurn
  simp
  refine sat_step hbs ?_
  rintro _ S1 ⟨rfl, hl1, h1, hp1⟩
  simp [r1K_nat t (show t < 2 ^ 60 by omega), rangeD_len, hl]
  refine sat_step (rights_s (v := 4) (vb := 3) ht hW hr hp1 h1 (by omega) (fun d => rfl)) ?_
  rintro vs S2 ⟨hvl, hvs, h2⟩
  simp [all_trues hvs]
  exact List.all_eq_true.mp (h2.pure hp1)
def mLaw6 (bm : ME) (m t : Nat) : MS := (mSeq (mIf (mNotT (mTest bm)) (mRet (mC (.bl false))) mSkip) (mSeq (mAsg (mCall (fPure f_l_cells) (mCons (mVar 0) (mCons (mC (.int (m : Nat))) mNil))) (mgN 1)) (mSeq (mFor (mRange1 (mCall fLen (mCons (mVar 1) mNil))) (mgN 2) (mTurn t)) (mRet (mC (.bl true))))))
theorem law6_s (bm : ME) (m t : Nat) (hm : 0 < m) (hm2 : m ≤ 63) (ht : t ≤ 1000) (W : Nat) (hW : W ≤ 100000000) (hr : RightP W) (hb : BoxOk) (bh : ∀ ρ, bm ρ [] = .ok (.bl true) [])
    (ns : List Int) (hn : ns.length ≤ 63) : ∃ S, fnM 5 1 (mLaw6 bm m t) [scriptD ns] [] = .ok (.bl true) S := by
  obtain ⟨cs, h0, h1, hcs⟩ := cells_ok ns hn m hm hm2
  have hp : pureL [scriptD ns, .int (m : Nat)] = true := by simp only [pureL_cons, scriptD, pureD_fro, pure_ints, pureD_int, pureL_nil, Bool.and_self]
  have hc := fPure_ap (S := []) hp hcs
  suffices h : (fnM 5 1 (mLaw6 bm m t) [scriptD ns] []).Sat fun d _ => d = .bl true by
    obtain ⟨d, S, e, rfl⟩ := sat_eq h
    exact ⟨S, e⟩
  have hts := fun k v3 v4 S (hk : k < cs.length) hpu => @turn_s t W k ht hW hr hb cs (scriptD ns) v3 v4 hk (by omega) S hpu
  have hlen : (cs.map D.int).length = cs.length := List.length_map _
  generalize hL : cs.map D.int = L at *
  generalize scriptD ns = sc at *
  generalize hT : mTurn t = T at *
  unfold mLaw6
  rw [hT, fnM_1]
  simp [bh, hc, hlen, r1K_nat cs.length (show cs.length < 2 ^ 60 by omega)]
  refine sat_step (forL_sat (P := fun f S => ∃ v2 v3 v4, f = .nx [some sc, some (.lst L), v2, v3, v4]) (fun ds ρ S' => S'.all Cell.pure = true ∧ (∀ d ∈ ds, ∃ k : Nat, d = .int (k : Nat) ∧ k < cs.length) ∧ ∃ v2 v3 v4, ρ = [some sc, some (.lst L), v2, v3, v4]) ?_ ?_ _ _ _ ⟨rfl, fun d hd => ?_, none, none, none, rfl⟩) ?_
  · rintro d ds ρ S ⟨hpu, hd, v2, v3, v4, rfl⟩
    obtain ⟨k, rfl, hk⟩ := hd d (List.mem_cons_self ..)
    refine ⟨_, S, rfl, (hts k v3 v4 S hk hpu).mono ?_⟩
    rintro _ S2 ⟨hp2, w3, rfl⟩
    exact ⟨hp2, fun e he => hd e (List.mem_cons_of_mem _ he), _, _, _, rfl⟩
  · rintro ρ S ⟨_, _, v2, v3, v4, rfl⟩
    exact ⟨_, _, _, rfl⟩
  · obtain ⟨i, hi, e⟩ := List.getElem_of_mem hd
    obtain ⟨hi2, e2⟩ := rangeD_get (show (rangeD 0 cs.length)[i]? = some d by rw [← e]; exact List.getElem?_eq_getElem hi)
    exact ⟨i, by rw [e2, Int.zero_add], hi2⟩
  · rintro _ S ⟨v2, v3, v4, rfl⟩
    simp [fin_nil (show pureD (.bl true) = true from rfl)]
theorem hl51 : m_l_law = mLaw6 (mCall (fPure f_l_by_hand_right) mNil) 3 3 := by
  unfold m_l_law mLaw6 mTurn
  rfl
theorem callN (f : List D → Store → Res D) (bh : ∀ S, f [] S = .ok (.bl true) S) (ρ : Q.Env) : mCall f mNil ρ [] = .ok (.bl true) [] := by simp [bh]
theorem law51 (bm : ME) (bh : ∀ ρ, bm ρ [] = .ok (.bl true) []) : ∀ ns : List Int, ns.length ≤ 63 → ∃ S, fnM 5 1 (mLaw6 bm 3 3) [scriptD ns] [] = .ok (.bl true) S :=
  fun ns hn => law6_s bm 3 3 (by decide) (by decide) (by decide) 1000 (by decide) right51 (fun S cs k h h2 => box_ok S cs k 851 h h2 (by decide) rfl) bh ns hn
theorem holds51 (bh : ∀ S, fPure f_l_by_hand_right [] S = .ok (.bl true) S) : ∀ ns : List Int, ns.length ≤ 63 → ∃ S, f_l_law [scriptD ns] [] = .ok (.bl true) S := by
  have e : f_l_law = fnM 5 1 m_l_law := rfl
  rw [e, hl51]
  exact law51 _ (callN _ bh)
theorem holds : ∀ ns : List Int, ns.length ≤ 63 → ∃ S, f_l_law [scriptD ns] [] = .ok (.bl true) S := holds51 hand51
end Lw
namespace Lw
open PySem L2 Q
def top (i : Nat) : Stmt := PySem.Challenge.pw_quietshare_k51_walks_or_not.main.body.getD i (.Pass ⟨0, 0, 0, 0⟩)
abbrev s_l_cells : Stmt := top 11
abbrev N_l_cells : List Str := ["_law_script", "_law_most_so", "_law_cells_here", "_law_k", "_law_cell", "_law_at_so"]
theorem sc_l_cells : FnScope N_l_cells ["_law_script", "_law_most_so"] (defScope s_l_cells) := ⟨rfl, rfl, rfl, by decide +kernel, rfl, by decide +kernel, by decide +kernel⟩
abbrev s_l_is_walk : Stmt := top 19
abbrev N_l_is_walk : List Str := ["_law_looks_so", "_law_span", "_law_walk_so", "_law_mine", "_law_its"]
theorem sc_l_is_walk : FnScope N_l_is_walk ["_law_looks_so", "_law_span", "_law_walk_so"] (defScope s_l_is_walk) := ⟨rfl, rfl, rfl, by decide +kernel, rfl, by decide +kernel, by decide +kernel⟩
abbrev s_l_steps : Stmt := top 20
abbrev N_l_steps : List Str := ["_law_looks_so", "_law_walk_so", "_law_mine", "_law_its"]
theorem sc_l_steps : FnScope N_l_steps ["_law_looks_so", "_law_walk_so"] (defScope s_l_steps) := ⟨rfl, rfl, rfl, by decide +kernel, rfl, by decide +kernel, by decide +kernel⟩
abbrev s_l_are_walks : Stmt := top 21
abbrev N_l_are_walks : List Str := ["_law_looks_so", "_law_span", "_law_walks_so", "_law_steps_so", "_law_walk_so"]
theorem sc_l_are_walks : FnScope N_l_are_walks ["_law_looks_so", "_law_span", "_law_walks_so"] (defScope s_l_are_walks) := ⟨rfl, rfl, rfl, by decide +kernel, rfl, by decide +kernel, by decide +kernel⟩
abbrev s_l_due : Stmt := top 24
abbrev N_l_due : List Str := ["_law_looks_so", "_law_span", "_law_matter", "_law_own", "_law_place"]
theorem sc_l_due : FnScope N_l_due ["_law_looks_so", "_law_span", "_law_matter"] (defScope s_l_due) := ⟨rfl, rfl, rfl, by decide +kernel, rfl, by decide +kernel, by decide +kernel⟩
abbrev s_l_same : Stmt := top 14
abbrev N_l_same : List Str := ["_law_got", "_law_due_here", "_law_mine", "_law_its"]
theorem sc_l_same : FnScope N_l_same ["_law_got", "_law_due_here"] (defScope s_l_same) := ⟨rfl, rfl, rfl, by decide +kernel, rfl, by decide +kernel, by decide +kernel⟩
abbrev s_p_tupled : Stmt := top 1
abbrev N_p_tupled : List Str := ["thing", "part"]
theorem sc_p_tupled : FnScope N_p_tupled ["thing"] (defScope s_p_tupled) := ⟨rfl, rfl, rfl, by decide +kernel, rfl, by decide +kernel, by decide +kernel⟩
abbrev s_p_looks_within : Stmt := top 4
abbrev N_p_looks_within : List Str := ["book", "stretch", "minutes", "limit", "looks", "first", "last", "look"]
theorem sc_p_looks_within : FnScope N_p_looks_within ["book", "stretch"] (defScope s_p_looks_within) := ⟨rfl, rfl, rfl, by decide +kernel, rfl, by decide +kernel, by decide +kernel⟩
abbrev s_p_moves_of : Stmt := top 5
abbrev N_p_moves_of : List Str := ["walk", "k"]
theorem sc_p_moves_of : FnScope N_p_moves_of ["walk"] (defScope s_p_moves_of) := ⟨rfl, rfl, rfl, by decide +kernel, rfl, by decide +kernel, by decide +kernel⟩
abbrev s_p_is_number : Stmt := top 2
abbrev N_p_is_number : List Str := ["thing", "least"]
theorem sc_p_is_number : FnScope N_p_is_number ["thing", "least"] (defScope s_p_is_number) := ⟨rfl, rfl, rfl, by decide +kernel, rfl, by decide +kernel, by decide +kernel⟩
abbrev s_p_is_walk : Stmt := top 6
abbrev N_p_is_walk : List Str := ["book", "stretch", "thing", "first", "last", "looks", "place", "low", "high"]
theorem sc_p_is_walk : FnScope N_p_is_walk ["book", "stretch", "thing"] (defScope s_p_is_walk) := ⟨rfl, rfl, rfl, by decide +kernel, rfl, by decide +kernel, by decide +kernel⟩
abbrev s_p_are_walks : Stmt := top 7
abbrev N_p_are_walks : List Str := ["book", "stretch", "thing", "span", "looks", "steps", "own", "walk", "move"]
theorem sc_p_are_walks : FnScope N_p_are_walks ["book", "stretch", "thing"] (defScope s_p_are_walks) := ⟨rfl, rfl, rfl, by decide +kernel, rfl, by decide +kernel, by decide +kernel⟩
abbrev s_l_lists : Stmt := top 13
abbrev N_l_lists : List Str := ["_law_matter", "_law_bit"]
theorem sc_l_lists : FnScope N_l_lists ["_law_matter"] (defScope s_l_lists) := ⟨rfl, rfl, rfl, by decide +kernel, rfl, by decide +kernel, by decide +kernel⟩
abbrev s_l_one_right : Stmt := top 25
abbrev N_l_one_right : List Str := ["_law_book_so", "_law_span", "_law_matter", "_law_due_here", "_law_got"]
theorem sc_l_one_right : FnScope N_l_one_right ["_law_book_so", "_law_span", "_law_matter"] (defScope s_l_one_right) := ⟨rfl, rfl, rfl, by decide +kernel, rfl, by decide +kernel, by decide +kernel⟩
abbrev s_l_by_hand_right : Stmt := top 26
abbrev N_l_by_hand_right : List Str := ["_law_nine", "_law_span", "_law_five", "_law_ones", "_law_cases", "_law_book_so", "_law_own", "_law_matter", "_law_due_here"]
theorem sc_l_by_hand_right : FnScope N_l_by_hand_right [] (defScope s_l_by_hand_right) := ⟨rfl, rfl, rfl, by decide +kernel, rfl, by decide +kernel, by decide +kernel⟩
abbrev s_l_box : Stmt := top 9
abbrev N_l_box : List Str := ["_law_script", "_law_k", "_law_cell"]
theorem sc_l_box : FnScope N_l_box ["_law_script", "_law_k"] (defScope s_l_box) := ⟨rfl, rfl, rfl, by decide +kernel, rfl, by decide +kernel, by decide +kernel⟩
abbrev s_l_take : Stmt := top 10
abbrev N_l_take : List Str := ["_law_box_here", "_law_below", "_law_drawn", "_law_once", "_law_far", "_law_twice"]
theorem sc_l_take : FnScope N_l_take ["_law_box_here", "_law_below"] (defScope s_l_take) := ⟨rfl, rfl, rfl, by decide +kernel, rfl, by decide +kernel, by decide +kernel⟩
abbrev s_l_of : Stmt := top 12
abbrev N_l_of : List Str := ["_law_box_here", "_law_some"]
theorem sc_l_of : FnScope N_l_of ["_law_box_here", "_law_some"] (defScope s_l_of) := ⟨rfl, rfl, rfl, by decide +kernel, rfl, by decide +kernel, by decide +kernel⟩
abbrev s_l_limit : Stmt := top 15
abbrev N_l_limit : List Str := ["_law_box_here", "_law_way_so"]
theorem sc_l_limit : FnScope N_l_limit ["_law_box_here"] (defScope s_l_limit) := ⟨rfl, rfl, rfl, by decide +kernel, rfl, by decide +kernel, by decide +kernel⟩
abbrev s_l_looks : Stmt := top 16
abbrev N_l_looks : List Str := ["_law_box_here", "_law_many", "_law_most_so", "_law_way_so", "_law_found", "_law_wide", "_law_turn", "_law_start"]
theorem sc_l_looks : FnScope N_l_looks ["_law_box_here", "_law_many", "_law_most_so"] (defScope s_l_looks) := ⟨rfl, rfl, rfl, by decide +kernel, rfl, by decide +kernel, by decide +kernel⟩
abbrev s_l_book : Stmt := top 17
abbrev N_l_book : List Str := ["_law_box_here", "_law_most_minutes", "_law_most_looks", "_law_many"]
theorem sc_l_book : FnScope N_l_book ["_law_box_here", "_law_most_minutes", "_law_most_looks"] (defScope s_l_book) := ⟨rfl, rfl, rfl, by decide +kernel, rfl, by decide +kernel, by decide +kernel⟩
abbrev s_l_stretch : Stmt := top 18
abbrev N_l_stretch : List Str := ["_law_box_here", "_law_many", "_law_start"]
theorem sc_l_stretch : FnScope N_l_stretch ["_law_box_here", "_law_many"] (defScope s_l_stretch) := ⟨rfl, rfl, rfl, by decide +kernel, rfl, by decide +kernel, by decide +kernel⟩
abbrev s_l_drawn_walk : Stmt := top 22
abbrev N_l_drawn_walk : List Str := ["_law_box_here", "_law_looks_so", "_law_span", "_law_found", "_law_turn", "_law_some", "_law_start", "_law_end"]
theorem sc_l_drawn_walk : FnScope N_l_drawn_walk ["_law_box_here", "_law_looks_so", "_law_span"] (defScope s_l_drawn_walk) := ⟨rfl, rfl, rfl, by decide +kernel, rfl, by decide +kernel, by decide +kernel⟩
abbrev s_l_bent : Stmt := top 23
abbrev N_l_bent : List Str := ["_law_box_here", "_law_walks_so", "_law_way_so", "_law_rows", "_law_k", "_law_n", "_law_own", "_law_some"]
theorem sc_l_bent : FnScope N_l_bent ["_law_box_here", "_law_walks_so"] (defScope s_l_bent) := ⟨rfl, rfl, rfl, by decide +kernel, rfl, by decide +kernel, by decide +kernel⟩
abbrev s_l_right : Stmt := top 27
abbrev N_l_right : List Str := ["_law_box_here", "_law_book_so", "_law_span", "_law_rows", "_law_matter", "_law_turn"]
theorem sc_l_right : FnScope N_l_right ["_law_box_here"] (defScope s_l_right) := ⟨rfl, rfl, rfl, by decide +kernel, rfl, by decide +kernel, by decide +kernel⟩
abbrev s_l_law : Stmt := top 28
abbrev N_l_law : List Str := ["_law_script", "_law_cells_here", "_law_k", "_law_box_here", "_law_turn"]
theorem sc_l_law : FnScope N_l_law ["_law_script"] (defScope s_l_law) := ⟨rfl, rfl, rfl, by decide +kernel, rfl, by decide +kernel, by decide +kernel⟩
structure Txt (P : Program) (K : PySem.W.Frag) (mg : Str → Option Value) (cl : Nat → Addr) (sp_ : Nat → Str → Addr) (a : Nat → Addr) (d : Nat → FuncData) : Prop where
  F_l_cells : Fun K "_law_cells" "_law_cells" s_l_cells (a 0) (d 0)
  F_l_is_walk : Fun K "_law_is_walk" "_law_is_walk" s_l_is_walk (a 1) (d 1)
  F_l_steps : Fun K "_law_steps" "_law_steps" s_l_steps (a 2) (d 2)
  F_l_are_walks : Fun K "_law_are_walks" "_law_are_walks" s_l_are_walks (a 3) (d 3)
  F_l_due : Fun K "_law_due" "_law_due" s_l_due (a 4) (d 4)
  F_l_same : Fun K "_law_same" "_law_same" s_l_same (a 5) (d 5)
  F_p_tupled : Fun K "tupled" "tupled" s_p_tupled (a 6) (d 6)
  F_p_looks_within : Fun K "looks_within" "looks_within" s_p_looks_within (a 7) (d 7)
  F_p_moves_of : Fun K "moves_of" "moves_of" s_p_moves_of (a 8) (d 8)
  F_p_is_number : Fun K "is_number" "is_number" s_p_is_number (a 9) (d 9)
  F_p_is_walk : Fun K "is_walk" "is_walk" s_p_is_walk (a 10) (d 10)
  F_p_are_walks : Fun K "are_walks" "are_walks" s_p_are_walks (a 11) (d 11)
  F_l_lists : Fun K "_law_lists" "_law_lists" s_l_lists (a 12) (d 12)
  F_l_one_right : Fun K "_law_one_right" "_law_one_right" s_l_one_right (a 13) (d 13)
  F_l_by_hand_right : Fun K "_law_by_hand_right" "_law_by_hand_right" s_l_by_hand_right (a 14) (d 14)
  F_l_box : Fun K "_law_box" "_law_box" s_l_box (a 15) (d 15)
  F_l_take : Fun K "_law_take" "_law_take" s_l_take (a 16) (d 16)
  F_l_of : Fun K "_law_of" "_law_of" s_l_of (a 17) (d 17)
  F_l_limit : Fun K "_law_limit" "_law_limit" s_l_limit (a 18) (d 18)
  F_l_looks : Fun K "_law_looks" "_law_looks" s_l_looks (a 19) (d 19)
  F_l_book : Fun K "_law_book" "_law_book" s_l_book (a 20) (d 20)
  F_l_stretch : Fun K "_law_stretch" "_law_stretch" s_l_stretch (a 21) (d 21)
  F_l_drawn_walk : Fun K "_law_drawn_walk" "_law_drawn_walk" s_l_drawn_walk (a 22) (d 22)
  F_l_bent : Fun K "_law_bent" "_law_bent" s_l_bent (a 23) (d 23)
  F_l_right : Fun K "_law_right" "_law_right" s_l_right (a 24) (d 24)
  F_l_law : Fun K "law" "law" s_l_law (a 25) (d 25)
  g_l_cells : mg "_law_cells" = some (.ref (a 0))
  g_l_is_walk : mg "_law_is_walk" = some (.ref (a 1))
  g_l_steps : mg "_law_steps" = some (.ref (a 2))
  g_l_are_walks : mg "_law_are_walks" = some (.ref (a 3))
  g_l_due : mg "_law_due" = some (.ref (a 4))
  g_l_same : mg "_law_same" = some (.ref (a 5))
  g_p_tupled : mg "tupled" = some (.ref (a 6))
  g_p_looks_within : mg "looks_within" = some (.ref (a 7))
  g_p_moves_of : mg "moves_of" = some (.ref (a 8))
  g_p_is_number : mg "is_number" = some (.ref (a 9))
  g_p_is_walk : mg "is_walk" = some (.ref (a 10))
  g_p_are_walks : mg "are_walks" = some (.ref (a 11))
  g_l_lists : mg "_law_lists" = some (.ref (a 12))
  g_l_one_right : mg "_law_one_right" = some (.ref (a 13))
  g_l_by_hand_right : mg "_law_by_hand_right" = some (.ref (a 14))
  g_l_box : mg "_law_box" = some (.ref (a 15))
  g_l_take : mg "_law_take" = some (.ref (a 16))
  g_l_of : mg "_law_of" = some (.ref (a 17))
  g_l_limit : mg "_law_limit" = some (.ref (a 18))
  g_l_looks : mg "_law_looks" = some (.ref (a 19))
  g_l_book : mg "_law_book" = some (.ref (a 20))
  g_l_stretch : mg "_law_stretch" = some (.ref (a 21))
  g_l_drawn_walk : mg "_law_drawn_walk" = some (.ref (a 22))
  g_l_bent : mg "_law_bent" = some (.ref (a 23))
  g_l_right : mg "_law_right" = some (.ref (a 24))
  g_l_law : mg "law" = some (.ref (a 25))
  n_abs : mg "abs" = none
  n_all : mg "all" = none
  n_bool : mg "bool" = none
  n_enumerate : mg "enumerate" = none
  n_int : mg "int" = none
  n_isinstance : mg "isinstance" = none
  n_len : mg "len" = none
  n_list : mg "list" = none
  n_min : mg "min" = none
  n_range : mg "range" = none
  n_set : mg "set" = none
  n_sorted : mg "sorted" = none
  n_str : mg "str" = none
  n_tuple : mg "tuple" = none
  n_zip : mg "zip" = none
section
variable {P : Program} {w : World} {K : PySem.W.Frag} {mg : Str → Option Value} {base : Heap} {cl : Nat → Addr} {sp_ : Nat → Str → Addr} {a : Nat → Addr} {d : Nat → FuncData}
theorem b_l_cells (T : Txt P K mg cl sp_ a d) : Binds K (d 0) ["_law_script", "_law_most_so"] [] := T.F_l_cells.binds (ps := ["_law_script", "_law_most_so"]) fun _ _ _ _ _ _ us hl => match us, hl with | [_, _], _ => rfl
theorem ok_l_cells (T : Txt P K mg cl sp_ a d) : FnOk P w K mg base CX0 1 (a 0) (d 0) ["_law_script", "_law_most_so"] (spM ⟨K, cl⟩ f_l_cells) :=
  fn_ok 6 2 (k := 0) T.F_l_cells sc_l_cells fun cdv A outer s H E hr =>
      (qss_cons (qs_set 2 (q_orV (q_callTy listCQ (by rfl) T.n_list (by decide +kernel) (q_cons (q_sl (q_var 0) q_noO (q_soO (q_var 1))) q_nil)) (q_oneV (q_cell (q_cons q_int q_nil)))) sc_l_cells.nd)
      (qss_cons (qs_for (qi_enum (q_sl (q_var 0) (q_soO (q_var 1)) (q_soO q_int)) (by rfl) T.n_enumerate) (qg_tup 2 (qgs_cons (qg_name 3 sc_l_cells.nd) (qgs_cons (qg_name 4 sc_l_cells.nd) qgs_nil))) (qss_cons (qs_set 5 (q_op modI (q_callTy intQ (by rfl) T.n_int (by decide +kernel) (q_cons (q_var 3) q_nil)) (q_var 1)) sc_l_cells.nd)
      (qss_one (qs_asg (q_op addQ (q_ix (q_var 2) (q_var 5)) (q_op mulQ (q_var 4) (q_op addQ (q_var 3) q_int))) (qg_sub (q_var 2) (q_var 5))))))
      (qss_one (qs_ret (q_frz (q_var 2))))))
theorem b_l_is_walk (T : Txt P K mg cl sp_ a d) : Binds K (d 1) ["_law_looks_so", "_law_span", "_law_walk_so"] [] := T.F_l_is_walk.binds (ps := ["_law_looks_so", "_law_span", "_law_walk_so"]) fun _ _ _ _ _ _ us hl => match us, hl with | [_, _, _], _ => rfl
theorem ok_l_is_walk (T : Txt P K mg cl sp_ a d) : FnOk P w K mg base CX0 1 (a 1) (d 1) ["_law_looks_so", "_law_span", "_law_walk_so"] (spM ⟨K, cl⟩ f_l_is_walk) :=
  fn_ok 5 3 (k := 0) T.F_l_is_walk sc_l_is_walk fun cdv A outer s H E hr =>
      (qss_cons (qs_if (q_w (q_or (q_tcmp ltI (q_callB lenQ (by rfl) T.n_len (by decide +kernel) (q_cons (q_var 2) q_nil)) q_int) (q_or (q_tcmp (neQ hr) (q_ix (q_var 2) q_int) (q_ix (q_var 1) q_int)) (q_or1 (q_tcmp (neQ hr) (q_ix (q_var 2) (q_neg q_int)) (q_ix (q_var 1) q_int)))))) (qss_one (qs_ret q_bl)) qss_nil)
      (qss_one (qs_ret (q_callB allQ (by rfl) T.n_all (by decide +kernel) (q_cons (q_lc [("_law_mine", 3), ("_law_its", 4)] (qi_zip (q_cons (q_var 2) (q_cons (q_sl (q_var 2) (q_soO q_int) q_noO) q_nil)) (by rfl) T.n_zip) sc_l_is_walk.nd (blkOk_by (N := N_l_is_walk) (sc := defScope s_l_is_walk) (by decide +kernel)) (fun _ _ _ _ _ => (qg_tup 2 (qgs_cons (qg_name 3 sc_l_is_walk.nd) (qgs_cons (qg_name 4 sc_l_is_walk.nd) qgs_nil)))) (fun _ _ _ _ _ => (q_orV (q_cmp (inQ hr) (q_tup (q_cons (q_var 4) (q_cons (q_var 3) q_nil))) (q_var 0)) (q_oneV (q_cmp (eqQ hr) (q_var 4) (q_op subI (q_var 3) q_int)))))) q_nil)))))
theorem b_l_steps (T : Txt P K mg cl sp_ a d) : Binds K (d 2) ["_law_looks_so", "_law_walk_so"] [] := T.F_l_steps.binds (ps := ["_law_looks_so", "_law_walk_so"]) fun _ _ _ _ _ _ us hl => match us, hl with | [_, _], _ => rfl
theorem ok_l_steps (T : Txt P K mg cl sp_ a d) : FnOk P w K mg base CX0 1 (a 2) (d 2) ["_law_looks_so", "_law_walk_so"] (spM ⟨K, cl⟩ f_l_steps) :=
  fn_ok 4 2 (k := 0) T.F_l_steps sc_l_steps fun cdv A outer s H E hr =>
      (qss_one (qs_ret (q_lcIf [("_law_mine", 2), ("_law_its", 3)] (qi_zip (q_cons (q_var 1) (q_cons (q_sl (q_var 1) (q_soO q_int) q_noO) q_nil)) (by rfl) T.n_zip) sc_l_steps.nd (blkOk_by (N := N_l_steps) (sc := defScope s_l_steps) (by decide +kernel)) (fun _ _ _ _ _ => (qg_tup 2 (qgs_cons (qg_name 2 sc_l_steps.nd) (qgs_cons (qg_name 3 sc_l_steps.nd) qgs_nil)))) (fun _ _ _ _ _ => (q_tcmp (ninQ hr) (q_tup (q_cons (q_var 3) (q_cons (q_var 2) q_nil))) (q_var 0))) (fun _ _ _ _ _ => (q_var 3)))))
theorem b_l_are_walks (T : Txt P K mg cl sp_ a d) : Binds K (d 3) ["_law_looks_so", "_law_span", "_law_walks_so"] [] := T.F_l_are_walks.binds (ps := ["_law_looks_so", "_law_span", "_law_walks_so"]) fun _ _ _ _ _ _ us hl => match us, hl with | [_, _, _], _ => rfl
theorem ok_l_are_walks (T : Txt P K mg cl sp_ a d) : FnOk P w K mg base CX0 2 (a 3) (d 3) ["_law_looks_so", "_law_span", "_law_walks_so"] (spM ⟨K, cl⟩ f_l_are_walks) :=
  fn_ok 5 3 (k := 1) T.F_l_are_walks sc_l_are_walks fun cdv A outer s H E hr =>
      (qss_cons (qs_set 3 (q_lst q_nil) sc_l_are_walks.nd)
      (qss_cons (qs_for (qi_items (q_var 2)) (qg_name 4 sc_l_are_walks.nd) (qss_cons (qs_if (q_not (q_test (q_call (ok_l_is_walk T) (hr.mono (by omega)) (by rfl) T.g_l_is_walk T.F_l_is_walk.kp (b_l_is_walk T) (q_cons (q_var 0) (q_cons (q_var 1) (q_cons (q_var 4) q_nil))) sp_pure))) (qss_one (qs_ret q_bl)) qss_nil)
      (qss_one (qs_set 3 (q_op addQ (q_var 3) (q_call (ok_l_steps T) (hr.mono (by omega)) (by rfl) T.g_l_steps T.F_l_steps.kp (b_l_steps T) (q_cons (q_var 0) (q_cons (q_var 4) q_nil)) sp_pure)) sc_l_are_walks.nd))))
      (qss_one (qs_ret (q_cmp (eqQ hr) (q_lenset (q_var 3) (by rfl) T.n_len (by rfl) T.n_set) (q_callB lenQ (by rfl) T.n_len (by decide +kernel) (q_cons (q_var 3) q_nil)))))))
theorem b_l_due (T : Txt P K mg cl sp_ a d) : Binds K (d 4) ["_law_looks_so", "_law_span", "_law_matter"] [] := T.F_l_due.binds (ps := ["_law_looks_so", "_law_span", "_law_matter"]) fun _ _ _ _ _ _ us hl => match us, hl with | [_, _, _], _ => rfl
theorem ok_l_due (T : Txt P K mg cl sp_ a d) : FnOk P w K mg base CX0 3 (a 4) (d 4) ["_law_looks_so", "_law_span", "_law_matter"] (spM ⟨K, cl⟩ f_l_due) :=
  fn_ok 5 3 (k := 2) T.F_l_due sc_l_due fun cdv A outer s H E hr =>
      (qss_cons (qs_if (q_not (q_test (q_isi .tuple (q_var 2) (by rfl) T.n_isinstance (by rfl) T.n_tuple (by decide +kernel)))) (qss_one (qs_ret q_bl)) qss_nil)
      (qss_cons (qs_for (qi_items (q_var 2)) (qg_name 3 sc_l_due.nd) (qss_cons (qs_if (q_not (q_test (q_isi .tuple (q_var 3) (by rfl) T.n_isinstance (by rfl) T.n_tuple (by decide +kernel)))) (qss_one (qs_ret q_bl)) qss_nil)
      (qss_one (qs_if (q_tcmp (neQ hr) (q_lcIf [("_law_place", 4)] (qi_items (q_var 3)) sc_l_due.nd (blkOk_by (N := N_l_due) (sc := defScope s_l_due) (by decide +kernel)) (fun _ _ _ _ _ => (qg_name 4 sc_l_due.nd)) (fun _ _ _ _ _ => (q_w (q_or (q_not (q_test (q_isi .int (q_var 4) (by rfl) T.n_isinstance (by rfl) T.n_int (by decide +kernel)))) (q_or1 (q_test (q_isi .bool (q_var 4) (by rfl) T.n_isinstance (by rfl) T.n_bool (by decide +kernel))))))) (fun _ _ _ _ _ => (q_var 4))) (q_lst q_nil)) (qss_one (qs_ret q_bl)) qss_nil))))
      (qss_one (qs_ret (q_call (ok_l_are_walks T) (hr.mono (by omega)) (by rfl) T.g_l_are_walks T.F_l_are_walks.kp (b_l_are_walks T) (q_cons (q_var 0) (q_cons (q_var 1) (q_cons (q_var 2) q_nil))) sp_pure)))))
theorem b_l_same (T : Txt P K mg cl sp_ a d) : Binds K (d 5) ["_law_got", "_law_due_here"] [] := T.F_l_same.binds (ps := ["_law_got", "_law_due_here"]) fun _ _ _ _ _ _ us hl => match us, hl with | [_, _], _ => rfl
theorem ok_l_same (T : Txt P K mg cl sp_ a d) (k : Nat) : FnOk P w K mg base CX0 (0 + k) (a 5) (d 5) ["_law_got", "_law_due_here"] (spM ⟨K, cl⟩ (f_l_same k)) := by
  induction k with
  | zero => exact fn_none
  | succ k ih =>
    exact fn_ok 4 2 (k := 0 + k) T.F_l_same sc_l_same fun cdv A outer s H E hr =>
      (qss_cons (qs_if (q_test (q_isi2 .list .tuple (q_var 1) (by rfl) T.n_isinstance (by rfl) T.n_list (by decide +kernel) (by rfl) T.n_tuple (by decide +kernel))) (qss_cons (qs_if (q_w (q_or (q_tcmp (neQ hr) (q_isi .list (q_var 0) (by rfl) T.n_isinstance (by rfl) T.n_list (by decide +kernel)) (q_isi .list (q_var 1) (by rfl) T.n_isinstance (by rfl) T.n_list (by decide +kernel))) (q_or1 (q_tcmp (neQ hr) (q_isi .tuple (q_var 0) (by rfl) T.n_isinstance (by rfl) T.n_tuple (by decide +kernel)) (q_isi .tuple (q_var 1) (by rfl) T.n_isinstance (by rfl) T.n_tuple (by decide +kernel)))))) (qss_one (qs_ret q_bl)) qss_nil)
      (qss_one (qs_ret (q_andV (q_cmp (eqQ hr) (q_callB lenQ (by rfl) T.n_len (by decide +kernel) (q_cons (q_var 0) q_nil)) (q_callB lenQ (by rfl) T.n_len (by decide +kernel) (q_cons (q_var 1) q_nil))) (q_oneV (q_callB allQ (by rfl) T.n_all (by decide +kernel) (q_cons (q_lc [("_law_mine", 2), ("_law_its", 3)] (qi_zip (q_cons (q_var 0) (q_cons (q_var 1) q_nil)) (by rfl) T.n_zip) sc_l_same.nd (blkOk_by (N := N_l_same) (sc := defScope s_l_same) (by decide +kernel)) (fun _ _ _ _ _ => (qg_tup 2 (qgs_cons (qg_name 2 sc_l_same.nd) (qgs_cons (qg_name 3 sc_l_same.nd) qgs_nil)))) (fun _ _ _ _ _ => (q_call ih (hr.mono (by omega)) (by rfl) T.g_l_same T.F_l_same.kp (b_l_same T) (q_cons (q_var 2) (q_cons (q_var 3) q_nil)) sp_pure))) q_nil))))))) qss_nil)
      (qss_cons (qs_if (q_w (q_or (q_tisN (q_var 1)) (q_or1 (q_test (q_isi2 .bool .str (q_var 1) (by rfl) T.n_isinstance (by rfl) T.n_bool (by decide +kernel) (by rfl) T.n_str (by decide +kernel)))))) (qss_one (qs_ret (q_andV (q_cmp (eqQ hr) (q_var 0) (q_var 1)) (q_andV (q_cmp (eqQ hr) (q_isi .bool (q_var 0) (by rfl) T.n_isinstance (by rfl) T.n_bool (by decide +kernel)) (q_isi .bool (q_var 1) (by rfl) T.n_isinstance (by rfl) T.n_bool (by decide +kernel))) (q_oneV (q_cmp (eqQ hr) (q_isN (q_var 0)) (q_isN (q_var 1)))))))) qss_nil)
      (qss_one (qs_ret (q_andV (q_isi .int (q_var 0) (by rfl) T.n_isinstance (by rfl) T.n_int (by decide +kernel)) (q_andV (q_notV (q_isi .bool (q_var 0) (by rfl) T.n_isinstance (by rfl) T.n_bool (by decide +kernel))) (q_oneV (q_cmp (eqQ hr) (q_var 0) (q_var 1)))))))))
theorem b_p_tupled (T : Txt P K mg cl sp_ a d) : Binds K (d 6) ["thing"] [] := T.F_p_tupled.binds (ps := ["thing"]) fun _ _ _ _ _ _ us hl => match us, hl with | [_], _ => rfl
theorem ok_p_tupled (T : Txt P K mg cl sp_ a d) (k : Nat) : FnOk P w K mg base CX0 (0 + k) (a 6) (d 6) ["thing"] (spM ⟨K, cl⟩ (f_p_tupled k)) := by
  induction k with
  | zero => exact fn_none
  | succ k ih =>
    exact fn_ok 2 1 (k := 0 + k) T.F_p_tupled sc_p_tupled fun cdv A outer s H E hr =>
      (qss_one (qs_ret (q_ifE (q_test (q_isi2 .list .tuple (q_var 0) (by rfl) T.n_isinstance (by rfl) T.n_list (by decide +kernel) (by rfl) T.n_tuple (by decide +kernel))) (q_callTy tupleQ (by rfl) T.n_tuple (by decide +kernel) (q_cons (q_lc [("part", 1)] (qi_items (q_var 0)) sc_p_tupled.nd (blkOk_by (N := N_p_tupled) (sc := defScope s_p_tupled) (by decide +kernel)) (fun _ _ _ _ _ => (qg_name 1 sc_p_tupled.nd)) (fun _ _ _ _ _ => (q_call ih (hr.mono (by omega)) (by rfl) T.g_p_tupled T.F_p_tupled.kp (b_p_tupled T) (q_cons (q_var 1) q_nil) sp_pure))) q_nil)) (q_var 0))))
theorem b_p_looks_within (T : Txt P K mg cl sp_ a d) : Binds K (d 7) ["book", "stretch"] [] := T.F_p_looks_within.binds (ps := ["book", "stretch"]) fun _ _ _ _ _ _ us hl => match us, hl with | [_, _], _ => rfl
theorem ok_p_looks_within (T : Txt P K mg cl sp_ a d) : FnOk P w K mg base CX0 32 (a 7) (d 7) ["book", "stretch"] (spM ⟨K, cl⟩ f_p_looks_within) :=
  fn_ok 8 2 (k := 31) T.F_p_looks_within sc_p_looks_within fun cdv A outer s H E hr =>
      (qss_cons (qs_asg (q_call (ok_p_tupled T 30) (hr.mono (by omega)) (by rfl) T.g_p_tupled T.F_p_tupled.kp (b_p_tupled T) (q_cons (q_var 0) q_nil) sp_pure) (qg_tup 3 (qgs_cons (qg_name 2 sc_p_looks_within.nd) (qgs_cons (qg_name 3 sc_p_looks_within.nd) (qgs_cons (qg_name 4 sc_p_looks_within.nd) qgs_nil)))))
      (qss_cons (qs_asg (q_var 1) (qg_tup 2 (qgs_cons (qg_name 5 sc_p_looks_within.nd) (qgs_cons (qg_name 6 sc_p_looks_within.nd) qgs_nil))))
      (qss_one (qs_ret (q_lcIf [("look", 7)] (qi_items (q_var 4)) sc_p_looks_within.nd (blkOk_by (N := N_p_looks_within) (sc := defScope s_p_looks_within) (by decide +kernel)) (fun _ _ _ _ _ => (qg_name 7 sc_p_looks_within.nd)) (fun _ _ _ _ _ => (q_w (q_and (q_tcmp leI (q_var 5) (q_ix (q_var 7) q_int)) (q_and1 (q_tcmp leI (q_ix (q_var 7) q_int) (q_var 6)))))) (fun _ _ _ _ _ => (q_var 7)))))))
theorem b_p_moves_of (T : Txt P K mg cl sp_ a d) : Binds K (d 8) ["walk"] [] := T.F_p_moves_of.binds (ps := ["walk"]) fun _ _ _ _ _ _ us hl => match us, hl with | [_], _ => rfl
theorem ok_p_moves_of (T : Txt P K mg cl sp_ a d) : FnOk P w K mg base CX0 1 (a 8) (d 8) ["walk"] (spM ⟨K, cl⟩ f_p_moves_of) :=
  fn_ok 2 1 (k := 0) T.F_p_moves_of sc_p_moves_of fun cdv A outer s H E hr =>
      (qss_one (qs_ret (q_lc [("k", 1)] (qi_range1 (q_op subI (q_callB lenQ (by rfl) T.n_len (by decide +kernel) (q_cons (q_var 0) q_nil)) q_int) (by rfl) T.n_range) sc_p_moves_of.nd (blkOk_by (N := N_p_moves_of) (sc := defScope s_p_moves_of) (by decide +kernel)) (fun _ _ _ _ _ => (qg_name 1 sc_p_moves_of.nd)) (fun _ _ _ _ _ => (q_tup (q_cons (q_ix (q_var 0) (q_op addQ (q_var 1) q_int)) (q_cons (q_ix (q_var 0) (q_var 1)) q_nil)))))))
theorem b_p_is_number (T : Txt P K mg cl sp_ a d) : Binds K (d 9) ["thing", "least"] [] := T.F_p_is_number.binds (ps := ["thing", "least"]) fun _ _ _ _ _ _ us hl => match us, hl with | [_, _], _ => rfl
theorem ok_p_is_number (T : Txt P K mg cl sp_ a d) : FnOk P w K mg base CX0 1 (a 9) (d 9) ["thing", "least"] (spM ⟨K, cl⟩ f_p_is_number) :=
  fn_ok 2 2 (k := 0) T.F_p_is_number sc_p_is_number fun cdv A outer s H E hr =>
      (qss_one (qs_ret (q_andV (q_isi .int (q_var 0) (by rfl) T.n_isinstance (by rfl) T.n_int (by decide +kernel)) (q_andV (q_notV (q_isi .bool (q_var 0) (by rfl) T.n_isinstance (by rfl) T.n_bool (by decide +kernel))) (q_oneV (q_cmp geI (q_var 0) (q_var 1)))))))
theorem b_p_is_walk (T : Txt P K mg cl sp_ a d) : Binds K (d 10) ["book", "stretch", "thing"] [] := T.F_p_is_walk.binds (ps := ["book", "stretch", "thing"]) fun _ _ _ _ _ _ us hl => match us, hl with | [_, _, _], _ => rfl
theorem ok_p_is_walk (T : Txt P K mg cl sp_ a d) : FnOk P w K mg base CX0 33 (a 10) (d 10) ["book", "stretch", "thing"] (spM ⟨K, cl⟩ f_p_is_walk) :=
  fn_ok 9 3 (k := 32) T.F_p_is_walk sc_p_is_walk fun cdv A outer s H E hr =>
      (qss_cons (qs_asg (q_var 1) (qg_tup 2 (qgs_cons (qg_name 3 sc_p_is_walk.nd) (qgs_cons (qg_name 4 sc_p_is_walk.nd) qgs_nil))))
      (qss_cons (qs_if (q_w (q_or (q_not (q_test (q_isi .tuple (q_var 2) (by rfl) T.n_isinstance (by rfl) T.n_tuple (by decide +kernel)))) (q_or (q_tcmp (eqQ hr) (q_callB lenQ (by rfl) T.n_len (by decide +kernel) (q_cons (q_var 2) q_nil)) q_int) (q_or1 (q_not (q_test (q_callB allQ (by rfl) T.n_all (by decide +kernel) (q_cons (q_lc [("place", 6)] (qi_items (q_var 2)) sc_p_is_walk.nd (blkOk_by (N := N_p_is_walk) (sc := defScope s_p_is_walk) (by decide +kernel)) (fun _ _ _ _ _ => (qg_name 6 sc_p_is_walk.nd)) (fun _ _ _ _ _ => (q_call (ok_p_is_number T) (hr.mono (by omega)) (by rfl) T.g_p_is_number T.F_p_is_number.kp (b_p_is_number T) (q_cons (q_var 6) (q_cons q_int q_nil)) sp_pure))) q_nil)))))))) (qss_one (qs_ret q_bl)) qss_nil)
      (qss_cons (qs_if (q_w (q_or (q_tcmp (neQ hr) (q_ix (q_var 2) q_int) (q_var 4)) (q_or1 (q_tcmp (neQ hr) (q_ix (q_var 2) (q_neg q_int)) (q_var 3))))) (qss_one (qs_ret q_bl)) qss_nil)
      (qss_cons (qs_set 5 (q_call (ok_p_looks_within T) (hr.mono (by omega)) (by rfl) T.g_p_looks_within T.F_p_looks_within.kp (b_p_looks_within T) (q_cons (q_var 0) (q_cons (q_var 1) q_nil)) sp_pure) sc_p_is_walk.nd)
      (qss_one (qs_ret (q_callB allQ (by rfl) T.n_all (by decide +kernel) (q_cons (q_lc [("low", 7), ("high", 8)] (qi_items (q_call (ok_p_moves_of T) (hr.mono (by omega)) (by rfl) T.g_p_moves_of T.F_p_moves_of.kp (b_p_moves_of T) (q_cons (q_var 2) q_nil) sp_pure)) sc_p_is_walk.nd (blkOk_by (N := N_p_is_walk) (sc := defScope s_p_is_walk) (by decide +kernel)) (fun _ _ _ _ _ => (qg_tup 2 (qgs_cons (qg_name 7 sc_p_is_walk.nd) (qgs_cons (qg_name 8 sc_p_is_walk.nd) qgs_nil)))) (fun _ _ _ _ _ => (q_orV (q_cmp (eqQ hr) (q_op addQ (q_var 7) q_int) (q_var 8)) (q_oneV (q_cmp (inQ hr) (q_tup (q_cons (q_var 7) (q_cons (q_var 8) q_nil))) (q_var 5)))))) q_nil))))))))
theorem b_p_are_walks (T : Txt P K mg cl sp_ a d) : Binds K (d 11) ["book", "stretch", "thing"] [] := T.F_p_are_walks.binds (ps := ["book", "stretch", "thing"]) fun _ _ _ _ _ _ us hl => match us, hl with | [_, _, _], _ => rfl
theorem ok_p_are_walks (T : Txt P K mg cl sp_ a d) : FnOk P w K mg base CX0 34 (a 11) (d 11) ["book", "stretch", "thing"] (spM ⟨K, cl⟩ f_p_are_walks) :=
  fn_ok 9 3 (k := 33) T.F_p_are_walks sc_p_are_walks fun cdv A outer s H E hr =>
      (qss_cons (qs_set 3 (q_call (ok_p_tupled T 30) (hr.mono (by omega)) (by rfl) T.g_p_tupled T.F_p_tupled.kp (b_p_tupled T) (q_cons (q_var 1) q_nil) sp_pure) sc_p_are_walks.nd)
      (qss_cons (qs_if (q_w (q_or (q_not (q_test (q_isi .tuple (q_var 2) (by rfl) T.n_isinstance (by rfl) T.n_tuple (by decide +kernel)))) (q_or1 (q_not (q_test (q_callB allQ (by rfl) T.n_all (by decide +kernel) (q_cons (q_lc [("own", 6)] (qi_items (q_var 2)) sc_p_are_walks.nd (blkOk_by (N := N_p_are_walks) (sc := defScope s_p_are_walks) (by decide +kernel)) (fun _ _ _ _ _ => (qg_name 6 sc_p_are_walks.nd)) (fun _ _ _ _ _ => (q_call (ok_p_is_walk T) (hr.mono (by omega)) (by rfl) T.g_p_is_walk T.F_p_is_walk.kp (b_p_is_walk T) (q_cons (q_var 0) (q_cons (q_var 3) (q_cons (q_var 6) q_nil))) sp_pure))) q_nil))))))) (qss_one (qs_ret q_bl)) qss_nil)
      (qss_cons (qs_set 4 (q_call (ok_p_looks_within T) (hr.mono (by omega)) (by rfl) T.g_p_looks_within T.F_p_looks_within.kp (b_p_looks_within T) (q_cons (q_var 0) (q_cons (q_var 3) q_nil)) sp_pure) sc_p_are_walks.nd)
      (qss_cons (qs_setLc2 5 [("walk", 7), ("move", 8)] [8] (qi_items (q_var 2)) sc_p_are_walks.nd (blkOk_by (N := N_p_are_walks) (sc := defScope s_p_are_walks) (by decide +kernel)) (fun _ _ _ _ _ => (qg_name 7 sc_p_are_walks.nd)) (fun _ _ _ _ _ => ts_nil) (fun _ _ _ _ _ => (qi_items (q_call (ok_p_moves_of T) (hr.mono (by omega)) (by rfl) T.g_p_moves_of T.F_p_moves_of.kp (b_p_moves_of T) (q_cons (q_var 7) q_nil) sp_pure))) (fun _ _ _ _ _ => (qg_name 8 sc_p_are_walks.nd)) (fun _ _ _ _ _ => (ts_one (q_tcmp (ninQ hr) (q_var 8) (q_var 4)))) (fun _ _ _ _ _ => (q_var 8)))
      (qss_one (qs_ret (q_cmp (eqQ hr) (q_lensetP hr (q_var 5) (by rfl) T.n_len (by rfl) T.n_set) (q_callB lenQ (by rfl) T.n_len (by decide +kernel) (q_cons (q_var 5) q_nil)))))))))
theorem b_l_lists (T : Txt P K mg cl sp_ a d) : Binds K (d 12) ["_law_matter"] [] := T.F_l_lists.binds (ps := ["_law_matter"]) fun _ _ _ _ _ _ us hl => match us, hl with | [_], _ => rfl
theorem ok_l_lists (T : Txt P K mg cl sp_ a d) (k : Nat) : FnOk P w K mg base CX0 (0 + k) (a 12) (d 12) ["_law_matter"] (spM ⟨K, cl⟩ (f_l_lists k)) := by
  induction k with
  | zero => exact fn_none
  | succ k ih =>
    exact fn_ok 2 1 (k := 0 + k) T.F_l_lists sc_l_lists fun cdv A outer s H E hr =>
      (qss_one (qs_ret (q_ifE (q_test (q_isi2 .list .tuple (q_var 0) (by rfl) T.n_isinstance (by rfl) T.n_list (by decide +kernel) (by rfl) T.n_tuple (by decide +kernel))) (q_lc [("_law_bit", 1)] (qi_items (q_var 0)) sc_l_lists.nd (blkOk_by (N := N_l_lists) (sc := defScope s_l_lists) (by decide +kernel)) (fun _ _ _ _ _ => (qg_name 1 sc_l_lists.nd)) (fun _ _ _ _ _ => (q_call ih (hr.mono (by omega)) (by rfl) T.g_l_lists T.F_l_lists.kp (b_l_lists T) (q_cons (q_var 1) q_nil) sp_pure))) (q_var 0))))
theorem b_l_one_right (T : Txt P K mg cl sp_ a d) : Binds K (d 13) ["_law_book_so", "_law_span", "_law_matter"] [] := T.F_l_one_right.binds (ps := ["_law_book_so", "_law_span", "_law_matter"]) fun _ _ _ _ _ _ us hl => match us, hl with | [_, _, _], _ => rfl
theorem ok_l_one_right (T : Txt P K mg cl sp_ a d) : FnOk P w K mg base CX0 35 (a 13) (d 13) ["_law_book_so", "_law_span", "_law_matter"] (spM ⟨K, cl⟩ f_l_one_right) :=
  fn_ok 5 3 (k := 34) T.F_l_one_right sc_l_one_right fun cdv A outer s H E hr =>
      (qss_cons (qs_set 3 (q_call (ok_l_due T) (hr.mono (by omega)) (by rfl) T.g_l_due T.F_l_due.kp (b_l_due T) (q_cons (q_ix (q_var 0) q_int) (q_cons (q_var 1) (q_cons (q_var 2) q_nil))) sp_pure) sc_l_one_right.nd)
      (qss_cons (qs_set 4 (q_lst (q_cons (q_call (ok_p_are_walks T) (hr.mono (by omega)) (by rfl) T.g_p_are_walks T.F_p_are_walks.kp (b_p_are_walks T) (q_cons (q_var 0) (q_cons (q_var 1) (q_cons (q_var 2) q_nil))) sp_pure) (q_cons (q_callK0 (ok_p_are_walks T) (hr.mono (by omega)) (by rfl) T.g_p_are_walks T.F_p_are_walks.kp (kbn T.F_p_are_walks 0 [2, 1, 0] (ks := ["thing", "stretch", "book"]) (ps := ["book", "stretch", "thing"]) fun _ _ _ _ _ _ us ws h1 h2 => match us, ws, h1, h2 with | [], [_, _, _], _, _ => rfl) (qk_cons (q_var 2) (qk_cons (q_callTy listQ (by rfl) T.n_list (by decide +kernel) (q_cons (q_var 1) q_nil)) (qk_cons (q_call (ok_l_lists T 30) (hr.mono (by omega)) (by rfl) T.g_l_lists T.F_l_lists.kp (b_l_lists T) (q_cons (q_var 0) q_nil) sp_pure) qk_nil))) sp_pure) q_nil))) sc_l_one_right.nd)
      (qss_one (qs_ret (q_call (ok_l_same T 30) (hr.mono (by omega)) (by rfl) T.g_l_same T.F_l_same.kp (b_l_same T) (q_cons (q_var 4) (q_cons (q_lst (q_cons (q_var 3) (q_cons (q_var 3) q_nil))) q_nil)) sp_pure)))))
theorem b_l_by_hand_right (T : Txt P K mg cl sp_ a d) : Binds K (d 14) [] [] := T.F_l_by_hand_right.binds (ps := []) fun _ _ _ _ _ _ us hl => match us, hl with | [], _ => rfl
theorem ok_l_by_hand_right (T : Txt P K mg cl sp_ a d) : FnOk P w K mg base CX0 36 (a 14) (d 14) [] (spM ⟨K, cl⟩ f_l_by_hand_right) :=
  fn_ok 9 0 (k := 35) T.F_l_by_hand_right sc_l_by_hand_right fun cdv A outer s H E hr =>
      (qss_cons (qs_asg (q_tup (q_cons (q_tup (q_cons q_int (q_cons (q_tup (q_cons q_int (q_cons q_int q_nil))) (q_cons (q_tup (q_cons (q_tup (q_cons q_int (q_cons q_int q_nil))) (q_cons (q_tup (q_cons q_int (q_cons q_int q_nil))) (q_cons (q_tup (q_cons q_int (q_cons q_int q_nil))) q_nil)))) q_nil)))) (q_cons (q_tup (q_cons q_int (q_cons q_int q_nil))) q_nil))) (qg_tup 2 (qgs_cons (qg_name 0 sc_l_by_hand_right.nd) (qgs_cons (qg_name 1 sc_l_by_hand_right.nd) qgs_nil))))
      (qss_cons (qs_set 2 (q_tup (q_cons q_int (q_cons (q_tup (q_cons q_int (q_cons q_int q_nil))) (q_cons (q_tup (q_cons (q_tup (q_cons q_int (q_cons q_int q_nil))) (q_cons (q_tup (q_cons q_int (q_cons q_int q_nil))) (q_cons (q_tup (q_cons q_int (q_cons q_int q_nil))) (q_cons (q_tup (q_cons q_int (q_cons q_int q_nil))) q_nil))))) q_nil)))) sc_l_by_hand_right.nd)
      (qss_cons (qs_set 3 (q_tup (q_cons q_int (q_cons (q_tup (q_cons q_int (q_cons q_int q_nil))) (q_cons (q_tup (q_cons (q_tup (q_cons q_int (q_cons q_int q_nil))) q_nil)) q_nil)))) sc_l_by_hand_right.nd)
      (qss_cons (qs_set 4 (q_cell (q_cons (q_tup (q_cons (q_var 0) (q_cons (q_var 1) (q_cons (q_tup (q_cons (q_tup (q_cons q_int (q_cons q_int (q_cons q_int (q_cons q_int (q_cons q_int (q_cons q_int q_nil))))))) (q_cons (q_tup (q_cons q_int (q_cons q_int (q_cons q_int (q_cons q_int (q_cons q_int (q_cons q_int q_nil))))))) q_nil))) (q_cons q_bl q_nil))))) (q_cons (q_tup (q_cons (q_var 0) (q_cons (q_var 1) (q_cons (q_tup q_nil) (q_cons q_bl q_nil))))) q_nil))) sc_l_by_hand_right.nd)
      (qss_cons (qs_set 4 (q_op catC (q_var 4) (q_lst (q_cons (q_tup (q_cons (q_var 0) (q_cons (q_var 1) (q_cons (q_tup (q_cons (q_tup (q_cons q_int (q_cons q_int (q_cons q_int (q_cons q_int (q_cons q_int (q_cons q_int q_nil))))))) (q_cons (q_tup (q_cons q_int (q_cons q_int (q_cons q_int (q_cons q_int (q_cons q_int (q_cons q_int q_nil))))))) q_nil))) (q_cons q_bl q_nil))))) (q_cons (q_tup (q_cons (q_var 0) (q_cons (q_var 1) (q_cons (q_tup (q_cons (q_tup (q_cons q_int (q_cons q_int (q_cons q_int q_nil)))) q_nil)) (q_cons q_bl q_nil))))) q_nil)))) sc_l_by_hand_right.nd)
      (qss_cons (qs_set 4 (q_op catC (q_var 4) (q_lst (q_cons (q_tup (q_cons (q_var 2) (q_cons (q_tup (q_cons q_int (q_cons q_int q_nil))) (q_cons (q_tup (q_cons (q_tup (q_cons q_int (q_cons q_int (q_cons q_int (q_cons q_int q_nil))))) (q_cons (q_tup (q_cons q_int (q_cons q_int (q_cons q_int (q_cons q_int q_nil))))) (q_cons (q_tup (q_cons q_int (q_cons q_int (q_cons q_int (q_cons q_int q_nil))))) q_nil)))) (q_cons q_bl q_nil))))) q_nil))) sc_l_by_hand_right.nd)
      (qss_cons (qs_expr (q_app (q_var 4) (q_tup (q_cons (q_var 2) (q_cons (q_tup (q_cons q_int (q_cons q_int q_nil))) (q_cons (q_tup (q_cons (q_tup (q_cons q_int (q_cons q_int (q_cons q_int q_nil)))) q_nil)) (q_cons q_bl q_nil)))))))
      (qss_cons (qs_set 4 (q_op catC (q_var 4) (q_lst (q_cons (q_tup (q_cons (q_var 2) (q_cons (q_tup (q_cons q_int (q_cons q_int q_nil))) (q_cons (q_tup (q_cons (q_tup (q_cons q_int (q_cons q_int (q_cons q_int q_nil)))) (q_cons (q_tup (q_cons q_int (q_cons q_int (q_cons q_int q_nil)))) q_nil))) (q_cons q_bl q_nil))))) (q_cons (q_tup (q_cons (q_var 2) (q_cons (q_tup (q_cons q_int (q_cons q_int q_nil))) (q_cons (q_tup (q_cons (q_tup (q_cons q_int (q_cons q_int (q_cons q_int (q_cons q_int q_nil))))) (q_cons (q_tup (q_cons q_int (q_cons q_int (q_cons q_int (q_cons q_int q_nil))))) q_nil))) (q_cons q_bl q_nil))))) q_nil)))) sc_l_by_hand_right.nd)
      (qss_cons (qs_set 4 (q_op catC (q_var 4) (q_lst (q_cons (q_tup (q_cons (q_var 2) (q_cons (q_tup (q_cons q_int (q_cons q_int q_nil))) (q_cons (q_tup (q_cons (q_tup (q_cons q_int (q_cons q_int (q_cons q_int q_nil)))) q_nil)) (q_cons q_bl q_nil))))) (q_cons (q_tup (q_cons (q_var 2) (q_cons (q_tup (q_cons q_int (q_cons q_int q_nil))) (q_cons (q_tup (q_cons (q_tup (q_cons q_int (q_cons q_int (q_cons q_int q_nil)))) q_nil)) (q_cons q_bl q_nil))))) q_nil)))) sc_l_by_hand_right.nd)
      (qss_cons (qs_expr (q_app (q_var 4) (q_tup (q_cons (q_var 2) (q_cons (q_tup (q_cons q_int (q_cons q_int q_nil))) (q_cons (q_tup (q_cons (q_tup (q_cons q_int (q_cons q_int (q_cons q_int q_nil)))) q_nil)) (q_cons q_bl q_nil)))))))
      (qss_cons (qs_set 4 (q_op catC (q_var 4) (q_lst (q_cons (q_tup (q_cons (q_var 3) (q_cons (q_tup (q_cons q_int (q_cons q_int q_nil))) (q_cons (q_tup (q_cons (q_tup (q_cons q_int (q_cons q_int (q_cons q_int q_nil)))) (q_cons (q_tup (q_cons q_int (q_cons q_int (q_cons q_int q_nil)))) q_nil))) (q_cons q_bl q_nil))))) (q_cons (q_tup (q_cons (q_var 3) (q_cons (q_tup (q_cons q_int (q_cons q_int q_nil))) (q_cons (q_tup (q_cons (q_tup (q_cons q_int (q_cons q_int q_nil))) (q_cons (q_tup (q_cons q_int (q_cons q_int q_nil))) (q_cons (q_tup (q_cons q_int (q_cons q_int q_nil))) q_nil)))) (q_cons q_bl q_nil))))) q_nil)))) sc_l_by_hand_right.nd)
      (qss_cons (qs_set 4 (q_op catC (q_var 4) (q_lst (q_cons (q_tup (q_cons (q_var 3) (q_cons (q_tup (q_cons q_int (q_cons q_int q_nil))) (q_cons (q_tup (q_cons (q_tup (q_cons q_int (q_cons q_int q_nil))) q_nil)) (q_cons q_bl q_nil))))) (q_cons (q_tup (q_cons (q_var 3) (q_cons (q_tup (q_cons q_int (q_cons q_int q_nil))) (q_cons (q_tup (q_cons (q_tup (q_cons q_int (q_cons q_int q_nil))) (q_cons (q_tup (q_cons q_int (q_cons q_int q_nil))) q_nil))) (q_cons q_bl q_nil))))) q_nil)))) sc_l_by_hand_right.nd)
      (qss_cons (qs_expr (q_app (q_var 4) (q_tup (q_cons (q_var 3) (q_cons (q_tup (q_cons q_int (q_cons q_int q_nil))) (q_cons (q_tup (q_cons (q_tup (q_cons q_int q_nil)) q_nil)) (q_cons q_bl q_nil)))))))
      (qss_cons (qs_set 4 (q_op catC (q_var 4) (q_lst (q_cons (q_tup (q_cons (q_var 3) (q_cons (q_tup (q_cons q_int (q_cons q_int q_nil))) (q_cons (q_lst (q_cons (q_tup (q_cons q_int (q_cons q_int q_nil))) q_nil)) (q_cons q_bl q_nil))))) (q_cons (q_tup (q_cons (q_var 3) (q_cons (q_tup (q_cons q_int (q_cons q_int q_nil))) (q_cons (q_tup (q_cons (q_lst (q_cons q_int (q_cons q_int q_nil))) q_nil)) (q_cons q_bl q_nil))))) q_nil)))) sc_l_by_hand_right.nd)
      (qss_cons (qs_set 4 (q_op catC (q_var 4) (q_lst (q_cons (q_tup (q_cons (q_var 3) (q_cons (q_tup (q_cons q_int (q_cons q_int q_nil))) (q_cons (q_tup (q_cons (q_tup (q_cons q_bl (q_cons q_int q_nil))) q_nil)) (q_cons q_bl q_nil))))) (q_cons (q_tup (q_cons (q_var 3) (q_cons (q_tup (q_cons q_int (q_cons q_int q_nil))) (q_cons (q_tup (q_cons (q_tup (q_cons (q_lst (q_cons q_int q_nil)) (q_cons q_int q_nil))) q_nil)) (q_cons q_bl q_nil))))) q_nil)))) sc_l_by_hand_right.nd)
      (qss_cons (qs_set 4 (q_op catC (q_var 4) (q_lst (q_cons (q_tup (q_cons (q_var 3) (q_cons (q_tup (q_cons q_int (q_cons q_int q_nil))) (q_cons (q_tup (q_cons (q_tup (q_cons (q_tup (q_cons q_int q_nil)) (q_cons q_int q_nil))) q_nil)) (q_cons q_bl q_nil))))) (q_cons (q_tup (q_cons (q_var 3) (q_cons (q_tup (q_cons q_int (q_cons q_int q_nil))) (q_cons (q_tup (q_cons (q_tup (q_cons q_str (q_cons q_int q_nil))) q_nil)) (q_cons q_bl q_nil))))) q_nil)))) sc_l_by_hand_right.nd)
      (qss_cons (qs_set 4 (q_op catC (q_var 4) (q_lst (q_cons (q_tup (q_cons (q_var 3) (q_cons (q_tup (q_cons q_int (q_cons q_int q_nil))) (q_cons (q_tup (q_cons q_int (q_cons q_int q_nil))) (q_cons q_bl q_nil))))) (q_cons (q_tup (q_cons (q_var 3) (q_cons (q_tup (q_cons q_int (q_cons q_int q_nil))) (q_cons q_non (q_cons q_bl q_nil))))) (q_cons (q_tup (q_cons (q_var 3) (q_cons (q_tup (q_cons q_int (q_cons q_int q_nil))) (q_cons q_str (q_cons q_bl q_nil))))) q_nil))))) sc_l_by_hand_right.nd)
      (qss_cons (qs_set 4 (q_op catC (q_var 4) (q_lst (q_cons (q_tup (q_cons (q_var 2) (q_cons (q_tup (q_cons q_int (q_cons q_int q_nil))) (q_cons (q_tup (q_cons (q_tup (q_cons q_int (q_cons q_int (q_cons q_int (q_cons q_int q_nil))))) q_nil)) (q_cons q_bl q_nil))))) (q_cons (q_tup (q_cons (q_var 2) (q_cons (q_tup (q_cons q_int (q_cons q_int q_nil))) (q_cons (q_tup (q_cons (q_tup (q_cons q_int (q_cons q_int (q_cons q_int (q_cons q_int (q_cons q_int q_nil)))))) q_nil)) (q_cons q_bl q_nil))))) q_nil)))) sc_l_by_hand_right.nd)
      (qss_cons (qs_for (qi_items (q_frz (q_var 4))) (qg_tup 4 (qgs_cons (qg_name 5 sc_l_by_hand_right.nd) (qgs_cons (qg_name 6 sc_l_by_hand_right.nd) (qgs_cons (qg_name 7 sc_l_by_hand_right.nd) (qgs_cons (qg_name 8 sc_l_by_hand_right.nd) qgs_nil))))) (qss_one (qs_if (q_w (q_or (q_tcmp (neQ hr) (q_call (ok_l_due T) (hr.mono (by omega)) (by rfl) T.g_l_due T.F_l_due.kp (b_l_due T) (q_cons (q_ix (q_var 5) q_int) (q_cons (q_var 6) (q_cons (q_var 7) q_nil))) sp_pure) (q_var 8)) (q_or1 (q_not (q_test (q_call (ok_l_one_right T) (hr.mono (by omega)) (by rfl) T.g_l_one_right T.F_l_one_right.kp (b_l_one_right T) (q_cons (q_var 5) (q_cons (q_var 6) (q_cons (q_var 7) q_nil))) sp_pure)))))) (qss_one (qs_ret q_bl)) qss_nil)))
      (qss_one (qs_ret q_bl)))))))))))))))))))))
theorem b_l_box (T : Txt P K mg cl sp_ a d) : Binds K (d 15) ["_law_script", "_law_k"] [] := T.F_l_box.binds (ps := ["_law_script", "_law_k"]) fun _ _ _ _ _ _ us hl => match us, hl with | [_, _], _ => rfl
theorem ok_l_box (T : Txt P K mg cl sp_ a d) : FnOk P w K mg base CX0 1 (a 15) (d 15) ["_law_script", "_law_k"] (spM ⟨K, cl⟩ f_l_box) :=
  fn_okC 3 2 (k := 0) T.F_l_box sc_l_box fun cdv A outer s H E hr =>
      (qss_cons (qs_set 2 (q_ifE (q_tcmp ltI (q_var 1) (q_callB lenQ (by rfl) T.n_len (by decide +kernel) (q_cons (q_var 0) q_nil))) (q_ix (q_var 0) (q_var 1)) q_int) sc_l_box.nd)
      (qss_one (qs_ret (q_cell (q_cons (q_op mulQ (q_callB absQ (by rfl) T.n_abs (by decide +kernel) (q_cons (q_var 2) q_nil)) (q_callTy intQ (by rfl) T.n_int (by decide +kernel) (q_cons (q_cmp geI (q_callB absQ (by rfl) T.n_abs (by decide +kernel) (q_cons (q_var 2) q_nil)) (q_op powI q_int q_int)) q_nil))) (q_cons (q_op addQ (q_op addQ (q_op modI (q_callTy intQ (by rfl) T.n_int (by decide +kernel) (q_cons (q_var 2) q_nil)) q_int) (q_op mulQ q_int (q_var 1))) q_int) (q_cons q_int q_nil)))))))
theorem b_l_take (T : Txt P K mg cl sp_ a d) : Binds K (d 16) ["_law_box_here", "_law_below"] [] := T.F_l_take.binds (ps := ["_law_box_here", "_law_below"]) fun _ _ _ _ _ _ us hl => match us, hl with | [_, _], _ => rfl
theorem ok_l_take (T : Txt P K mg cl sp_ a d) : FnOk P w K mg base CX0 1 (a 16) (d 16) ["_law_box_here", "_law_below"] (spM ⟨K, cl⟩ f_l_take) :=
  fn_ok 6 2 (k := 0) T.F_l_take sc_l_take fun cdv A outer s H E hr =>
      (qss_cons (qs_if (q_tcmp gtI (q_ix (q_var 0) q_int) q_int) (qss_cons (qs_set 2 (q_op modI (q_callTy intQ (by rfl) T.n_int (by decide +kernel) (q_cons (q_ix (q_var 0) q_int) q_nil)) (q_var 1)) sc_l_take.nd)
      (qss_cons (qs_asg (q_op divI (q_ix (q_var 0) q_int) (q_var 1)) (qg_sub (q_var 0) q_int))
      (qss_one (qs_ret (q_var 2))))) qss_nil)
      (qss_cons (qs_asg (q_op addQ (q_ix (q_var 0) q_int) q_int) (qg_sub (q_var 0) q_int))
      (qss_cons (qs_set 3 (q_op modI (q_callTy intQ (by rfl) T.n_int (by decide +kernel) (q_cons (q_op mulQ (q_op addQ (q_ix (q_var 0) q_int) (q_op mulQ q_int (q_ix (q_var 0) q_int))) (q_op addQ q_int (q_ix (q_var 0) q_int))) q_nil)) q_int) sc_l_take.nd)
      (qss_cons (qs_set 4 (q_op addQ (q_op modI (q_callTy intQ (by rfl) T.n_int (by decide +kernel) (q_cons (q_var 3) q_nil)) q_int) q_int) sc_l_take.nd)
      (qss_cons (qs_set 5 (q_op modI (q_callTy intQ (by rfl) T.n_int (by decide +kernel) (q_cons (q_op mulQ (q_op addQ (q_op addQ (q_var 3) (q_ix (q_var 0) q_int)) (q_op divI (q_ix (q_var 0) q_int) q_int)) (q_var 4)) q_nil)) q_int) sc_l_take.nd)
      (qss_one (qs_ret (q_op modI (q_callTy intQ (by rfl) T.n_int (by decide +kernel) (q_cons (q_op divI (q_op modI (q_callTy intQ (by rfl) T.n_int (by decide +kernel) (q_cons (q_op addQ (q_op mulQ (q_var 5) q_int) (q_var 3)) q_nil)) q_int) q_int) q_nil)) (q_var 1)))))))))
theorem b_l_of (T : Txt P K mg cl sp_ a d) : Binds K (d 17) ["_law_box_here", "_law_some"] [] := T.F_l_of.binds (ps := ["_law_box_here", "_law_some"]) fun _ _ _ _ _ _ us hl => match us, hl with | [_, _], _ => rfl
theorem ok_l_of (T : Txt P K mg cl sp_ a d) : FnOk P w K mg base CX0 2 (a 17) (d 17) ["_law_box_here", "_law_some"] (spM ⟨K, cl⟩ f_l_of) :=
  fn_ok 2 2 (k := 1) T.F_l_of sc_l_of fun cdv A outer s H E hr =>
      (qss_one (qs_ret (q_ix (q_var 1) (q_call (ok_l_take T) (hr.mono (by omega)) (by rfl) T.g_l_take T.F_l_take.kp (b_l_take T) (q_cons (q_var 0) (q_cons (q_callB lenQ (by rfl) T.n_len (by decide +kernel) (q_cons (q_var 1) q_nil)) q_nil)) sp_call))))
theorem b_l_limit (T : Txt P K mg cl sp_ a d) : Binds K (d 18) ["_law_box_here"] [] := T.F_l_limit.binds (ps := ["_law_box_here"]) fun _ _ _ _ _ _ us hl => match us, hl with | [_], _ => rfl
theorem ok_l_limit (T : Txt P K mg cl sp_ a d) : FnOk P w K mg base CX0 3 (a 18) (d 18) ["_law_box_here"] (spM ⟨K, cl⟩ f_l_limit) :=
  fn_ok 2 1 (k := 2) T.F_l_limit sc_l_limit fun cdv A outer s H E hr =>
      (qss_cons (qs_set 1 (q_call (ok_l_take T) (hr.mono (by omega)) (by rfl) T.g_l_take T.F_l_take.kp (b_l_take T) (q_cons (q_var 0) (q_cons q_int q_nil)) sp_call) sc_l_limit.nd)
      (qss_cons (qs_if (q_tcmp (eqQ hr) (q_var 1) q_int) (qss_one (qs_ret (q_tup (q_cons (q_op addQ q_int (q_call (ok_l_take T) (hr.mono (by omega)) (by rfl) T.g_l_take T.F_l_take.kp (b_l_take T) (q_cons (q_var 0) (q_cons (q_op powI q_int q_int) q_nil)) sp_call)) (q_cons (q_op addQ (q_op addQ (q_op powI q_int q_int) q_int) (q_call (ok_l_take T) (hr.mono (by omega)) (by rfl) T.g_l_take T.F_l_take.kp (b_l_take T) (q_cons (q_var 0) (q_cons (q_op powI q_int q_int) q_nil)) sp_call)) q_nil))))) qss_nil)
      (qss_cons (qs_if (q_tcmp (eqQ hr) (q_var 1) q_int) (qss_one (qs_ret (q_tup (q_cons (q_op addQ q_int (q_op mulQ (q_call (ok_l_take T) (hr.mono (by omega)) (by rfl) T.g_l_take T.F_l_take.kp (b_l_take T) (q_cons (q_var 0) (q_cons q_int q_nil)) sp_call) q_int)) (q_cons q_int q_nil))))) qss_nil)
      (qss_one (qs_ret (q_call (ok_l_of T) (hr.mono (by omega)) (by rfl) T.g_l_of T.F_l_of.kp (b_l_of T) (q_cons (q_var 0) (q_cons (q_lst (q_cons (q_tup (q_cons q_int (q_cons q_int q_nil))) (q_cons (q_tup (q_cons q_int (q_cons q_int q_nil))) (q_cons (q_tup (q_cons q_int (q_cons q_int q_nil))) (q_cons (q_tup (q_cons q_int (q_cons q_int q_nil))) (q_cons (q_tup (q_cons q_int (q_cons q_int q_nil))) (q_cons (q_tup (q_cons q_int (q_cons q_int q_nil))) q_nil))))))) q_nil)) sp_call))))))
theorem b_l_looks (T : Txt P K mg cl sp_ a d) : Binds K (d 19) ["_law_box_here", "_law_many", "_law_most_so"] [] := T.F_l_looks.binds (ps := ["_law_box_here", "_law_many", "_law_most_so"]) fun _ _ _ _ _ _ us hl => match us, hl with | [_, _, _], _ => rfl
theorem ok_l_looks (T : Txt P K mg cl sp_ a d) : FnOk P w K mg base CX0 2 (a 19) (d 19) ["_law_box_here", "_law_many", "_law_most_so"] (spM ⟨K, cl⟩ f_l_looks) :=
  fn_ok 8 3 (k := 1) T.F_l_looks sc_l_looks fun cdv A outer s H E hr =>
      (qss_cons (qs_par 3 4 sc_l_looks.nd (q_cons (q_call (ok_l_take T) (hr.mono (by omega)) (by rfl) T.g_l_take T.F_l_take.kp (b_l_take T) (q_cons (q_var 0) (q_cons q_int q_nil)) sp_call) (q_cons (q_cell q_nil) q_nil)))
      (qss_cons (qs_set 5 (q_op addQ q_int (q_call (ok_l_take T) (hr.mono (by omega)) (by rfl) T.g_l_take T.F_l_take.kp (b_l_take T) (q_cons (q_var 0) (q_cons (q_callB min2Q (by rfl) T.n_min (by decide +kernel) (q_cons (q_var 1) (q_cons q_int q_nil))) q_nil)) sp_call)) sc_l_looks.nd)
      (qss_cons (qs_for (qi_range1 (q_call (ok_l_take T) (hr.mono (by omega)) (by rfl) T.g_l_take T.F_l_take.kp (b_l_take T) (q_cons (q_var 0) (q_cons (q_op addQ (q_var 2) q_int) q_nil)) sp_call) (by rfl) T.n_range) (qg_name 6 sc_l_looks.nd) (qss_cons (qs_set 7 (q_call (ok_l_take T) (hr.mono (by omega)) (by rfl) T.g_l_take T.F_l_take.kp (b_l_take T) (q_cons (q_var 0) (q_cons (q_var 1) q_nil)) sp_call) sc_l_looks.nd)
      (qss_one (qs_if (q_tcmp (eqQ hr) (q_var 3) q_int) (qss_one (qs_expr (q_app (q_var 4) (q_tup (q_cons (q_var 7) (q_cons (q_op addQ (q_op addQ (q_var 7) q_int) (q_call (ok_l_take T) (hr.mono (by omega)) (by rfl) T.g_l_take T.F_l_take.kp (b_l_take T) (q_cons (q_var 0) (q_cons (q_op subI (q_var 1) (q_var 7)) q_nil)) sp_call)) q_nil)))))) (qss_one (qs_if (q_tcmp (eqQ hr) (q_var 3) q_int) (qss_one (qs_expr (q_app (q_var 4) (q_tup (q_cons (q_var 7) (q_cons (q_callB min2Q (by rfl) T.n_min (by decide +kernel) (q_cons (q_var 1) (q_cons (q_op addQ (q_var 7) (q_var 5)) q_nil))) q_nil)))))) (qss_one (qs_expr (q_app (q_var 4) (q_tup (q_cons (q_var 7) (q_cons (q_callB min2Q (by rfl) T.n_min (by decide +kernel) (q_cons (q_var 1) (q_cons (q_op addQ (q_op addQ (q_var 7) q_int) (q_call (ok_l_take T) (hr.mono (by omega)) (by rfl) T.g_l_take T.F_l_take.kp (b_l_take T) (q_cons (q_var 0) (q_cons q_int q_nil)) sp_call)) q_nil))) q_nil))))))))))))
      (qss_one (qs_ret (q_callTy tupleQ (by rfl) T.n_tuple (by decide +kernel) (q_cons (q_sortset hr (q_frz (q_var 4)) (by rfl) T.n_sorted (by rfl) T.n_set) q_nil)))))))
theorem b_l_book (T : Txt P K mg cl sp_ a d) : Binds K (d 20) ["_law_box_here", "_law_most_minutes", "_law_most_looks"] [] := T.F_l_book.binds (ps := ["_law_box_here", "_law_most_minutes", "_law_most_looks"]) fun _ _ _ _ _ _ us hl => match us, hl with | [_, _, _], _ => rfl
theorem ok_l_book (T : Txt P K mg cl sp_ a d) : FnOk P w K mg base CX0 4 (a 20) (d 20) ["_law_box_here", "_law_most_minutes", "_law_most_looks"] (spM ⟨K, cl⟩ f_l_book) :=
  fn_ok 4 3 (k := 3) T.F_l_book sc_l_book fun cdv A outer s H E hr =>
      (qss_cons (qs_set 3 (q_op addQ q_int (q_call (ok_l_take T) (hr.mono (by omega)) (by rfl) T.g_l_take T.F_l_take.kp (b_l_take T) (q_cons (q_var 0) (q_cons (q_var 1) q_nil)) sp_call)) sc_l_book.nd)
      (qss_one (qs_ret (q_tup (q_cons (q_var 3) (q_cons (q_call (ok_l_limit T) (hr.mono (by omega)) (by rfl) T.g_l_limit T.F_l_limit.kp (b_l_limit T) (q_cons (q_var 0) q_nil) sp_call) (q_cons (q_call (ok_l_looks T) (hr.mono (by omega)) (by rfl) T.g_l_looks T.F_l_looks.kp (b_l_looks T) (q_cons (q_var 0) (q_cons (q_var 3) (q_cons (q_var 2) q_nil))) sp_call) q_nil)))))))
theorem b_l_stretch (T : Txt P K mg cl sp_ a d) : Binds K (d 21) ["_law_box_here", "_law_many"] [] := T.F_l_stretch.binds (ps := ["_law_box_here", "_law_many"]) fun _ _ _ _ _ _ us hl => match us, hl with | [_, _], _ => rfl
theorem ok_l_stretch (T : Txt P K mg cl sp_ a d) : FnOk P w K mg base CX0 2 (a 21) (d 21) ["_law_box_here", "_law_many"] (spM ⟨K, cl⟩ f_l_stretch) :=
  fn_ok 3 2 (k := 1) T.F_l_stretch sc_l_stretch fun cdv A outer s H E hr =>
      (qss_cons (qs_if (q_tcmp (eqQ hr) (q_call (ok_l_take T) (hr.mono (by omega)) (by rfl) T.g_l_take T.F_l_take.kp (b_l_take T) (q_cons (q_var 0) (q_cons q_int q_nil)) sp_call) q_int) (qss_one (qs_ret (q_tup (q_cons q_int (q_cons (q_var 1) q_nil))))) qss_nil)
      (qss_cons (qs_set 2 (q_call (ok_l_take T) (hr.mono (by omega)) (by rfl) T.g_l_take T.F_l_take.kp (b_l_take T) (q_cons (q_var 0) (q_cons (q_var 1) q_nil)) sp_call) sc_l_stretch.nd)
      (qss_one (qs_ret (q_tup (q_cons (q_var 2) (q_cons (q_op addQ (q_op addQ (q_var 2) q_int) (q_call (ok_l_take T) (hr.mono (by omega)) (by rfl) T.g_l_take T.F_l_take.kp (b_l_take T) (q_cons (q_var 0) (q_cons (q_op subI (q_var 1) (q_var 2)) q_nil)) sp_call)) q_nil)))))))
theorem b_l_drawn_walk (T : Txt P K mg cl sp_ a d) : Binds K (d 22) ["_law_box_here", "_law_looks_so", "_law_span"] [] := T.F_l_drawn_walk.binds (ps := ["_law_box_here", "_law_looks_so", "_law_span"]) fun _ _ _ _ _ _ us hl => match us, hl with | [_, _, _], _ => rfl
theorem ok_l_drawn_walk (T : Txt P K mg cl sp_ a d) : FnOk P w K mg base CX0 3 (a 22) (d 22) ["_law_box_here", "_law_looks_so", "_law_span"] (spM ⟨K, cl⟩ f_l_drawn_walk) :=
  fn_ok 8 3 (k := 2) T.F_l_drawn_walk sc_l_drawn_walk fun cdv A outer s H E hr =>
      (qss_cons (qs_set 3 (q_cell (q_cons (q_ix (q_var 2) q_int) q_nil)) sc_l_drawn_walk.nd)
      (qss_cons (qs_for (qi_range1 (q_op subI (q_ix (q_var 2) q_int) (q_ix (q_var 2) q_int)) (by rfl) T.n_range) (qg_name 4 sc_l_drawn_walk.nd) (qss_cons (qs_setLc 5 [("_law_start", 6), ("_law_end", 7)] false (qi_items (q_var 1)) sc_l_drawn_walk.nd (blkOk_by (N := N_l_drawn_walk) (sc := defScope s_l_drawn_walk) (by decide +kernel)) (fun _ _ _ _ _ => (qg_tup 2 (qgs_cons (qg_name 6 sc_l_drawn_walk.nd) (qgs_cons (qg_name 7 sc_l_drawn_walk.nd) qgs_nil)))) (fun _ _ _ _ _ => (ts_one (q_w (q_and (q_tcmp (eqQ hr) (q_var 7) (q_ix (q_var 3) (q_neg q_int))) (q_and1 (q_tcmp geI (q_var 6) (q_ix (q_var 2) q_int))))))) (fun _ _ _ _ _ => (q_var 6)))
      (qss_one (qs_if (q_tcmp gtI (q_ix (q_var 3) (q_neg q_int)) (q_ix (q_var 2) q_int)) (qss_one (qs_expr (q_app (q_var 3) (q_call (ok_l_of T) (hr.mono (by omega)) (by rfl) T.g_l_of T.F_l_of.kp (b_l_of T) (q_cons (q_var 0) (q_cons (q_op addQ (q_op addQ (q_var 5) (q_var 5)) (q_lst (q_cons (q_op subI (q_ix (q_var 3) (q_neg q_int)) q_int) q_nil))) q_nil)) sp_call)))) qss_nil))))
      (qss_one (qs_ret (q_callTy tupleQ (by rfl) T.n_tuple (by decide +kernel) (q_cons (q_var 3) q_nil))))))
theorem b_l_bent (T : Txt P K mg cl sp_ a d) : Binds K (d 23) ["_law_box_here", "_law_walks_so"] [] := T.F_l_bent.binds (ps := ["_law_box_here", "_law_walks_so"]) fun _ _ _ _ _ _ us hl => match us, hl with | [_, _], _ => rfl
theorem ok_l_bent (T : Txt P K mg cl sp_ a d) : FnOk P w K mg base CX0 3 (a 23) (d 23) ["_law_box_here", "_law_walks_so"] (spM ⟨K, cl⟩ f_l_bent) :=
  fn_ok 8 2 (k := 2) T.F_l_bent sc_l_bent fun cdv A outer s H E hr =>
      (qss_cons (qs_par 2 3 sc_l_bent.nd (q_cons (q_call (ok_l_take T) (hr.mono (by omega)) (by rfl) T.g_l_take T.F_l_take.kp (b_l_take T) (q_cons (q_var 0) (q_cons q_int q_nil)) sp_call) (q_cons (q_callTy listCQ (by rfl) T.n_list (by decide +kernel) (q_cons (q_var 1) q_nil)) q_nil)))
      (qss_cons (qs_if (q_tcmp (eqQ hr) (q_var 3) (q_lst q_nil)) (qss_one (qs_ret (q_call (ok_l_of T) (hr.mono (by omega)) (by rfl) T.g_l_of T.F_l_of.kp (b_l_of T) (q_cons (q_var 0) (q_cons (q_lst (q_cons (q_lst q_nil) (q_cons q_non (q_cons (q_tup (q_cons (q_tup q_nil) q_nil)) (q_cons q_int (q_cons q_str (q_cons (q_tup (q_cons (q_tup (q_cons q_int q_nil)) q_nil)) (q_cons (q_tup (q_cons q_int q_nil)) (q_cons q_bl q_nil))))))))) q_nil)) sp_call))) qss_nil)
      (qss_cons (qs_set 4 (q_call (ok_l_take T) (hr.mono (by omega)) (by rfl) T.g_l_take T.F_l_take.kp (b_l_take T) (q_cons (q_var 0) (q_cons (q_callB lenQ (by rfl) T.n_len (by decide +kernel) (q_cons (q_var 3) q_nil)) q_nil)) sp_call) sc_l_bent.nd)
      (qss_cons (qs_set 5 (q_call (ok_l_take T) (hr.mono (by omega)) (by rfl) T.g_l_take T.F_l_take.kp (b_l_take T) (q_cons (q_var 0) (q_cons (q_callB lenQ (by rfl) T.n_len (by decide +kernel) (q_cons (q_ix (q_var 3) (q_var 4)) q_nil)) q_nil)) sp_call) sc_l_bent.nd)
      (qss_cons (qs_set 6 (q_ix (q_ix (q_var 3) (q_var 4)) (q_var 5)) sc_l_bent.nd)
      (qss_cons (qs_if (q_tcmp (eqQ hr) (q_var 2) q_int) (qss_one (qs_ret (q_frz (q_var 3)))) qss_nil)
      (qss_cons (qs_if (q_tcmp (eqQ hr) (q_var 2) q_int) (qss_cons (qs_asg (q_callTy listQ (by rfl) T.n_list (by decide +kernel) (q_cons (q_ix (q_var 3) (q_var 4)) q_nil)) (qg_sub (q_var 3) (q_var 4)))
      (qss_one (qs_ret (q_callTy tupleQ (by rfl) T.n_tuple (by decide +kernel) (q_cons (q_var 3) q_nil))))) qss_nil)
      (qss_cons (qs_set 7 (q_lst (q_cons (q_tup (q_cons (q_op addQ (q_var 6) q_int) q_nil)) (q_cons (q_tup (q_cons (q_op subI (q_var 6) q_int) q_nil)) (q_cons (q_tup q_nil) (q_cons (q_tup (q_cons (q_var 6) (q_cons (q_var 6) q_nil))) (q_cons (q_tup (q_cons (q_cmp (eqQ hr) (q_var 6) q_int) q_nil)) (q_cons (q_tup (q_cons (q_op subI (q_var 6) q_int) q_nil)) (q_cons (q_tup (q_cons q_non q_nil)) (q_cons (q_tup (q_cons (q_callTy strIQ (by rfl) T.n_str (by decide +kernel) (q_cons (q_var 6) q_nil)) q_nil)) q_nil))))))))) sc_l_bent.nd)
      (qss_cons (qs_asg (q_op addQ (q_op addQ (q_sl (q_ix (q_var 3) (q_var 4)) q_noO (q_soO (q_var 5))) (q_ix (q_var 7) (q_var 2))) (q_sl (q_ix (q_var 3) (q_var 4)) (q_soO (q_op addQ (q_var 5) q_int)) q_noO)) (qg_sub (q_var 3) (q_var 4)))
      (qss_one (qs_ret (q_callTy tupleQ (by rfl) T.n_tuple (by decide +kernel) (q_cons (q_var 3) q_nil)))))))))))))
theorem b_l_right (T : Txt P K mg cl sp_ a d) : Binds K (d 24) ["_law_box_here"] [] := T.F_l_right.binds (ps := ["_law_box_here"]) fun _ _ _ _ _ _ us hl => match us, hl with | [_], _ => rfl
theorem ok_l_right (T : Txt P K mg cl sp_ a d) : FnOk P w K mg base CX0 36 (a 24) (d 24) ["_law_box_here"] (spM ⟨K, cl⟩ f_l_right) :=
  fn_ok 6 1 (k := 35) T.F_l_right sc_l_right fun cdv A outer s H E hr =>
      (qss_cons (qs_set 1 (q_call (ok_l_book T) (hr.mono (by omega)) (by rfl) T.g_l_book T.F_l_book.kp (b_l_book T) (q_cons (q_var 0) (q_cons q_int (q_cons q_int q_nil))) sp_call) sc_l_right.nd)
      (qss_cons (qs_set 2 (q_call (ok_l_stretch T) (hr.mono (by omega)) (by rfl) T.g_l_stretch T.F_l_stretch.kp (b_l_stretch T) (q_cons (q_var 0) (q_cons (q_ix (q_var 1) q_int) q_nil)) sp_call) sc_l_right.nd)
      (qss_cons (qs_setLc 3 [("_law_turn", 5)] true (qi_range1 (q_call (ok_l_take T) (hr.mono (by omega)) (by rfl) T.g_l_take T.F_l_take.kp (b_l_take T) (q_cons (q_var 0) (q_cons q_int q_nil)) sp_call) (by rfl) T.n_range) sc_l_right.nd (blkOk_by (N := N_l_right) (sc := defScope s_l_right) (by decide +kernel)) (fun _ _ _ _ _ => (qg_name 5 sc_l_right.nd)) (fun _ _ _ _ _ => ts_nil) (fun _ _ _ _ _ => (q_call (ok_l_drawn_walk T) (hr.mono (by omega)) (by rfl) T.g_l_drawn_walk T.F_l_drawn_walk.kp (b_l_drawn_walk T) (q_cons (q_var 0) (q_cons (q_ix (q_var 1) q_int) (q_cons (q_var 2) q_nil))) sp_call)))
      (qss_cons (qs_if (q_w (q_and (q_tcmp (neQ hr) (q_var 3) (q_lst q_nil)) (q_and1 (q_tcmp (eqQ hr) (q_call (ok_l_take T) (hr.mono (by omega)) (by rfl) T.g_l_take T.F_l_take.kp (b_l_take T) (q_cons (q_var 0) (q_cons q_int q_nil)) sp_call) q_int)))) (qss_one (qs_expr (q_app (q_var 3) (q_ix (q_var 3) q_int)))) qss_nil)
      (qss_cons (qs_set 4 (q_callTy tupleQ (by rfl) T.n_tuple (by decide +kernel) (q_cons (q_var 3) q_nil)) sc_l_right.nd)
      (qss_cons (qs_if (q_not (q_test (q_call (ok_l_one_right T) (hr.mono (by omega)) (by rfl) T.g_l_one_right T.F_l_one_right.kp (b_l_one_right T) (q_cons (q_var 1) (q_cons (q_var 2) (q_cons (q_var 4) q_nil))) sp_pure))) (qss_one (qs_ret q_bl)) qss_nil)
      (qss_one (qs_ret (q_callB allQ (by rfl) T.n_all (by decide +kernel) (q_cons (q_lc [("_law_turn", 5)] (qi_range1 q_int (by rfl) T.n_range) sc_l_right.nd (blkOk_by (N := N_l_right) (sc := defScope s_l_right) (by decide +kernel)) (fun _ _ _ _ _ => (qg_name 5 sc_l_right.nd)) (fun _ _ _ _ _ => (q_call (ok_l_one_right T) (hr.mono (by omega)) (by rfl) T.g_l_one_right T.F_l_one_right.kp (b_l_one_right T) (q_cons (q_var 1) (q_cons (q_var 2) (q_cons (q_call (ok_l_bent T) (hr.mono (by omega)) (by rfl) T.g_l_bent T.F_l_bent.kp (b_l_bent T) (q_cons (q_var 0) (q_cons (q_var 4) q_nil)) sp_call) q_nil))) sp_pure))) q_nil))))))))))
theorem b_l_law (T : Txt P K mg cl sp_ a d) : Binds K (d 25) ["_law_script"] [] := T.F_l_law.binds (ps := ["_law_script"]) fun _ _ _ _ _ _ us hl => match us, hl with | [_], _ => rfl
theorem ok_l_law (T : Txt P K mg cl sp_ a d) : FnOk P w K mg base CX0 37 (a 25) (d 25) ["_law_script"] (spM ⟨K, cl⟩ f_l_law) :=
  fn_ok 5 1 (k := 36) T.F_l_law sc_l_law fun cdv A outer s H E hr =>
      (qss_cons (qs_if (q_not (q_test (q_call0 (ok_l_by_hand_right T) (hr.mono (by omega)) (by rfl) T.g_l_by_hand_right T.F_l_by_hand_right.kp (b_l_by_hand_right T) sp_pure))) (qss_one (qs_ret q_bl)) qss_nil)
      (qss_cons (qs_set 1 (q_call (ok_l_cells T) (hr.mono (by omega)) (by rfl) T.g_l_cells T.F_l_cells.kp (b_l_cells T) (q_cons (q_var 0) (q_cons q_int q_nil)) sp_pure) sc_l_law.nd)
      (qss_cons (qs_for (qi_range1 (q_callB lenQ (by rfl) T.n_len (by decide +kernel) (q_cons (q_var 1) q_nil)) (by rfl) T.n_range) (qg_name 2 sc_l_law.nd) (qss_cons (qs_set 3 (q_call (ok_l_box T) (hr.mono (by omega)) (by rfl) T.g_l_box T.F_l_box.kp (b_l_box T) (q_cons (q_var 1) (q_cons (q_var 2) q_nil)) sp_call) sc_l_law.nd)
      (qss_one (qs_if (q_not (q_test (q_callB allQ (by rfl) T.n_all (by decide +kernel) (q_cons (q_lc [("_law_turn", 4)] (qi_range1 q_int (by rfl) T.n_range) sc_l_law.nd (blkOk_by (N := N_l_law) (sc := defScope s_l_law) (by decide +kernel)) (fun _ _ _ _ _ => (qg_name 4 sc_l_law.nd)) (fun _ _ _ _ _ => (q_call (ok_l_right T) (hr.mono (by omega)) (by rfl) T.g_l_right T.F_l_right.kp (b_l_right T) (q_cons (q_var 3) q_nil) sp_call))) q_nil)))) (qss_one (qs_ret q_bl)) qss_nil))))
      (qss_one (qs_ret q_bl)))))
end
def fns : List DefQ := [⟨.glo "_law_cells", "_law_cells", "_law_cells", s_l_cells⟩, ⟨.glo "_law_is_walk", "_law_is_walk", "_law_is_walk", s_l_is_walk⟩, ⟨.glo "_law_steps", "_law_steps", "_law_steps", s_l_steps⟩, ⟨.glo "_law_are_walks", "_law_are_walks", "_law_are_walks", s_l_are_walks⟩, ⟨.glo "_law_due", "_law_due", "_law_due", s_l_due⟩, ⟨.glo "_law_same", "_law_same", "_law_same", s_l_same⟩, ⟨.glo "tupled", "tupled", "tupled", s_p_tupled⟩, ⟨.glo "looks_within", "looks_within", "looks_within", s_p_looks_within⟩, ⟨.glo "moves_of", "moves_of", "moves_of", s_p_moves_of⟩, ⟨.glo "is_number", "is_number", "is_number", s_p_is_number⟩, ⟨.glo "is_walk", "is_walk", "is_walk", s_p_is_walk⟩, ⟨.glo "are_walks", "are_walks", "are_walks", s_p_are_walks⟩, ⟨.glo "_law_lists", "_law_lists", "_law_lists", s_l_lists⟩, ⟨.glo "_law_one_right", "_law_one_right", "_law_one_right", s_l_one_right⟩, ⟨.glo "_law_by_hand_right", "_law_by_hand_right", "_law_by_hand_right", s_l_by_hand_right⟩, ⟨.glo "_law_box", "_law_box", "_law_box", s_l_box⟩, ⟨.glo "_law_take", "_law_take", "_law_take", s_l_take⟩, ⟨.glo "_law_of", "_law_of", "_law_of", s_l_of⟩, ⟨.glo "_law_limit", "_law_limit", "_law_limit", s_l_limit⟩, ⟨.glo "_law_looks", "_law_looks", "_law_looks", s_l_looks⟩, ⟨.glo "_law_book", "_law_book", "_law_book", s_l_book⟩, ⟨.glo "_law_stretch", "_law_stretch", "_law_stretch", s_l_stretch⟩, ⟨.glo "_law_drawn_walk", "_law_drawn_walk", "_law_drawn_walk", s_l_drawn_walk⟩, ⟨.glo "_law_bent", "_law_bent", "_law_bent", s_l_bent⟩, ⟨.glo "_law_right", "_law_right", "_law_right", s_l_right⟩, ⟨.glo "law", "law", "law", s_l_law⟩]
def fas : List Qf := [.glo "_law_cells", .glo "_law_is_walk", .glo "_law_steps", .glo "_law_are_walks", .glo "_law_due", .glo "_law_same", .glo "tupled", .glo "looks_within", .glo "moves_of", .glo "is_number", .glo "is_walk", .glo "are_walks", .glo "_law_lists", .glo "_law_one_right", .glo "_law_by_hand_right", .glo "_law_box", .glo "_law_take", .glo "_law_of", .glo "_law_limit", .glo "_law_looks", .glo "_law_book", .glo "_law_stretch", .glo "_law_drawn_walk", .glo "_law_bent", .glo "_law_right", .glo "law", .free "abs", .free "all", .free "bool", .free "enumerate", .free "int", .free "isinstance", .free "len", .free "list", .free "min", .free "range", .free "set", .free "sorted", .free "str", .free "tuple", .free "zip"]
def loose : List PySem.Str := (["tupled", "is_number", "looks_within", "moves_of", "is_walk", "are_walks", "_law_box", "_law_take", "_law_cells", "_law_of", "_law_lists", "_law_same", "_law_limit", "_law_looks", "_law_book", "_law_stretch", "_law_is_walk", "_law_steps", "_law_are_walks", "_law_drawn_walk"] : List PySem.Str) ++ (["_law_bent", "_law_due", "_law_one_right", "_law_by_hand_right", "_law_right"] : List PySem.Str)
abbrev RR : PySem.W.OpenRow := PySem.W.OpenLaw.row PySem.Challenge.rw_quietshare_k51_walks_or_not
abbrev hkR : PySem.W.Hook := hookQ 5 fas fns
def obR (s : PySem.W.SharedT) : AlQ := obsQG 5 fas fns (HandSHeadRun.getT s)
theorem obR_eq (s : PySem.W.SharedT) : obR s = hkR.obs s.abs := obsQG_eq (HandSHeadRun.getT_eq s)
theorem runR (w : World) : HandSHeadRun.RunEq RR (PySem.W.view RR.prog [28]) hkR obR 3000 loose w := by
  intro os
  kernel_rfl
theorem factsR {P : Program} {w : World} {K : PySem.W.Frag} {h : Heap} {mg : Str → Option Value} {f : Addr} (X : K.In h) (G : h.Ns PySem.mainGlobals mg) (hfa : mg ("law" : Str) = some (.ref f)) (c : SaysQ fas fns K) :
    ∃ fd : FuncData, (∀ (s : Shared) (v : Value), BindsTo s fd ⟨[v], []⟩ [("_law_script", v)]) ∧ ∀ base : Heap, K.In base → base.Ns PySem.mainGlobals mg → FnOk P w K mg base CX0 37 f fd ["_law_script"] (spLaw K) := by
  obtain ⟨fd0, F0⟩ := c.def_ 0 (d := ⟨.glo "_law_cells", "_law_cells", "_law_cells", s_l_cells⟩) rfl
  obtain ⟨fd1, F1⟩ := c.def_ 1 (d := ⟨.glo "_law_is_walk", "_law_is_walk", "_law_is_walk", s_l_is_walk⟩) rfl
  obtain ⟨fd2, F2⟩ := c.def_ 2 (d := ⟨.glo "_law_steps", "_law_steps", "_law_steps", s_l_steps⟩) rfl
  obtain ⟨fd3, F3⟩ := c.def_ 3 (d := ⟨.glo "_law_are_walks", "_law_are_walks", "_law_are_walks", s_l_are_walks⟩) rfl
  obtain ⟨fd4, F4⟩ := c.def_ 4 (d := ⟨.glo "_law_due", "_law_due", "_law_due", s_l_due⟩) rfl
  obtain ⟨fd5, F5⟩ := c.def_ 5 (d := ⟨.glo "_law_same", "_law_same", "_law_same", s_l_same⟩) rfl
  obtain ⟨fd6, F6⟩ := c.def_ 6 (d := ⟨.glo "tupled", "tupled", "tupled", s_p_tupled⟩) rfl
  obtain ⟨fd7, F7⟩ := c.def_ 7 (d := ⟨.glo "looks_within", "looks_within", "looks_within", s_p_looks_within⟩) rfl
  obtain ⟨fd8, F8⟩ := c.def_ 8 (d := ⟨.glo "moves_of", "moves_of", "moves_of", s_p_moves_of⟩) rfl
  obtain ⟨fd9, F9⟩ := c.def_ 9 (d := ⟨.glo "is_number", "is_number", "is_number", s_p_is_number⟩) rfl
  obtain ⟨fd10, F10⟩ := c.def_ 10 (d := ⟨.glo "is_walk", "is_walk", "is_walk", s_p_is_walk⟩) rfl
  obtain ⟨fd11, F11⟩ := c.def_ 11 (d := ⟨.glo "are_walks", "are_walks", "are_walks", s_p_are_walks⟩) rfl
  obtain ⟨fd12, F12⟩ := c.def_ 12 (d := ⟨.glo "_law_lists", "_law_lists", "_law_lists", s_l_lists⟩) rfl
  obtain ⟨fd13, F13⟩ := c.def_ 13 (d := ⟨.glo "_law_one_right", "_law_one_right", "_law_one_right", s_l_one_right⟩) rfl
  obtain ⟨fd14, F14⟩ := c.def_ 14 (d := ⟨.glo "_law_by_hand_right", "_law_by_hand_right", "_law_by_hand_right", s_l_by_hand_right⟩) rfl
  obtain ⟨fd15, F15⟩ := c.def_ 15 (d := ⟨.glo "_law_box", "_law_box", "_law_box", s_l_box⟩) rfl
  obtain ⟨fd16, F16⟩ := c.def_ 16 (d := ⟨.glo "_law_take", "_law_take", "_law_take", s_l_take⟩) rfl
  obtain ⟨fd17, F17⟩ := c.def_ 17 (d := ⟨.glo "_law_of", "_law_of", "_law_of", s_l_of⟩) rfl
  obtain ⟨fd18, F18⟩ := c.def_ 18 (d := ⟨.glo "_law_limit", "_law_limit", "_law_limit", s_l_limit⟩) rfl
  obtain ⟨fd19, F19⟩ := c.def_ 19 (d := ⟨.glo "_law_looks", "_law_looks", "_law_looks", s_l_looks⟩) rfl
  obtain ⟨fd20, F20⟩ := c.def_ 20 (d := ⟨.glo "_law_book", "_law_book", "_law_book", s_l_book⟩) rfl
  obtain ⟨fd21, F21⟩ := c.def_ 21 (d := ⟨.glo "_law_stretch", "_law_stretch", "_law_stretch", s_l_stretch⟩) rfl
  obtain ⟨fd22, F22⟩ := c.def_ 22 (d := ⟨.glo "_law_drawn_walk", "_law_drawn_walk", "_law_drawn_walk", s_l_drawn_walk⟩) rfl
  obtain ⟨fd23, F23⟩ := c.def_ 23 (d := ⟨.glo "_law_bent", "_law_bent", "_law_bent", s_l_bent⟩) rfl
  obtain ⟨fd24, F24⟩ := c.def_ 24 (d := ⟨.glo "_law_right", "_law_right", "_law_right", s_l_right⟩) rfl
  obtain ⟨fd25, F25⟩ := c.def_ 25 (d := ⟨.glo "law", "law", "law", s_l_law⟩) rfl
  have e := hfa.symm.trans (qf_glo X G (c.fact 25 (f := .glo "law") rfl))
  cases e
  let aa : Nat → Addr := fun i => match i with | 0 => Dat.ad K (.glo "_law_cells") | 1 => Dat.ad K (.glo "_law_is_walk") | 2 => Dat.ad K (.glo "_law_steps") | 3 => Dat.ad K (.glo "_law_are_walks") | 4 => Dat.ad K (.glo "_law_due") | 5 => Dat.ad K (.glo "_law_same") | 6 => Dat.ad K (.glo "tupled") | 7 => Dat.ad K (.glo "looks_within") | 8 => Dat.ad K (.glo "moves_of") | 9 => Dat.ad K (.glo "is_number") | 10 => Dat.ad K (.glo "is_walk") | 11 => Dat.ad K (.glo "are_walks") | 12 => Dat.ad K (.glo "_law_lists") | 13 => Dat.ad K (.glo "_law_one_right") | 14 => Dat.ad K (.glo "_law_by_hand_right") | 15 => Dat.ad K (.glo "_law_box") | 16 => Dat.ad K (.glo "_law_take") | 17 => Dat.ad K (.glo "_law_of") | 18 => Dat.ad K (.glo "_law_limit") | 19 => Dat.ad K (.glo "_law_looks") | 20 => Dat.ad K (.glo "_law_book") | 21 => Dat.ad K (.glo "_law_stretch") | 22 => Dat.ad K (.glo "_law_drawn_walk") | 23 => Dat.ad K (.glo "_law_bent") | 24 => Dat.ad K (.glo "_law_right") | 25 => Dat.ad K (.glo "law") | _ => 0
  let dd : Nat → FuncData := fun i => match i with | 0 => fd0 | 1 => fd1 | 2 => fd2 | 3 => fd3 | 4 => fd4 | 5 => fd5 | 6 => fd6 | 7 => fd7 | 8 => fd8 | 9 => fd9 | 10 => fd10 | 11 => fd11 | 12 => fd12 | 13 => fd13 | 14 => fd14 | 15 => fd15 | 16 => fd16 | 17 => fd17 | 18 => fd18 | 19 => fd19 | 20 => fd20 | 21 => fd21 | 22 => fd22 | 23 => fd23 | 24 => fd24 | 25 => fd25 | _ => fd0
  have T : Txt P K mg (clK K) (fun c f => He.ma K (clK K c) f) aa dd := {
    F_l_cells := F0
    F_l_is_walk := F1
    F_l_steps := F2
    F_l_are_walks := F3
    F_l_due := F4
    F_l_same := F5
    F_p_tupled := F6
    F_p_looks_within := F7
    F_p_moves_of := F8
    F_p_is_number := F9
    F_p_is_walk := F10
    F_p_are_walks := F11
    F_l_lists := F12
    F_l_one_right := F13
    F_l_by_hand_right := F14
    F_l_box := F15
    F_l_take := F16
    F_l_of := F17
    F_l_limit := F18
    F_l_looks := F19
    F_l_book := F20
    F_l_stretch := F21
    F_l_drawn_walk := F22
    F_l_bent := F23
    F_l_right := F24
    F_l_law := F25
    g_l_cells := qf_glo X G (c.fact 0 (f := .glo "_law_cells") rfl)
    g_l_is_walk := qf_glo X G (c.fact 1 (f := .glo "_law_is_walk") rfl)
    g_l_steps := qf_glo X G (c.fact 2 (f := .glo "_law_steps") rfl)
    g_l_are_walks := qf_glo X G (c.fact 3 (f := .glo "_law_are_walks") rfl)
    g_l_due := qf_glo X G (c.fact 4 (f := .glo "_law_due") rfl)
    g_l_same := qf_glo X G (c.fact 5 (f := .glo "_law_same") rfl)
    g_p_tupled := qf_glo X G (c.fact 6 (f := .glo "tupled") rfl)
    g_p_looks_within := qf_glo X G (c.fact 7 (f := .glo "looks_within") rfl)
    g_p_moves_of := qf_glo X G (c.fact 8 (f := .glo "moves_of") rfl)
    g_p_is_number := qf_glo X G (c.fact 9 (f := .glo "is_number") rfl)
    g_p_is_walk := qf_glo X G (c.fact 10 (f := .glo "is_walk") rfl)
    g_p_are_walks := qf_glo X G (c.fact 11 (f := .glo "are_walks") rfl)
    g_l_lists := qf_glo X G (c.fact 12 (f := .glo "_law_lists") rfl)
    g_l_one_right := qf_glo X G (c.fact 13 (f := .glo "_law_one_right") rfl)
    g_l_by_hand_right := qf_glo X G (c.fact 14 (f := .glo "_law_by_hand_right") rfl)
    g_l_box := qf_glo X G (c.fact 15 (f := .glo "_law_box") rfl)
    g_l_take := qf_glo X G (c.fact 16 (f := .glo "_law_take") rfl)
    g_l_of := qf_glo X G (c.fact 17 (f := .glo "_law_of") rfl)
    g_l_limit := qf_glo X G (c.fact 18 (f := .glo "_law_limit") rfl)
    g_l_looks := qf_glo X G (c.fact 19 (f := .glo "_law_looks") rfl)
    g_l_book := qf_glo X G (c.fact 20 (f := .glo "_law_book") rfl)
    g_l_stretch := qf_glo X G (c.fact 21 (f := .glo "_law_stretch") rfl)
    g_l_drawn_walk := qf_glo X G (c.fact 22 (f := .glo "_law_drawn_walk") rfl)
    g_l_bent := qf_glo X G (c.fact 23 (f := .glo "_law_bent") rfl)
    g_l_right := qf_glo X G (c.fact 24 (f := .glo "_law_right") rfl)
    g_l_law := qf_glo X G (c.fact 25 (f := .glo "law") rfl)
    n_abs := qf_free X G (c.fact 26 (f := .free "abs") rfl)
    n_all := qf_free X G (c.fact 27 (f := .free "all") rfl)
    n_bool := qf_free X G (c.fact 28 (f := .free "bool") rfl)
    n_enumerate := qf_free X G (c.fact 29 (f := .free "enumerate") rfl)
    n_int := qf_free X G (c.fact 30 (f := .free "int") rfl)
    n_isinstance := qf_free X G (c.fact 31 (f := .free "isinstance") rfl)
    n_len := qf_free X G (c.fact 32 (f := .free "len") rfl)
    n_list := qf_free X G (c.fact 33 (f := .free "list") rfl)
    n_min := qf_free X G (c.fact 34 (f := .free "min") rfl)
    n_range := qf_free X G (c.fact 35 (f := .free "range") rfl)
    n_set := qf_free X G (c.fact 36 (f := .free "set") rfl)
    n_sorted := qf_free X G (c.fact 37 (f := .free "sorted") rfl)
    n_str := qf_free X G (c.fact 38 (f := .free "str") rfl)
    n_tuple := qf_free X G (c.fact 39 (f := .free "tuple") rfl)
    n_zip := qf_free X G (c.fact 40 (f := .free "zip") rfl)
    }
  exact ⟨fd25, fun s v => bindsA0 F25 (fun _ _ _ _ _ _ => rfl) s, fun base _ _ => law_ok (ok_l_law T) holds⟩
end Lw
open PySem PySem.W PySem.Calls PyProof.Rows
set_option maxRecDepth 100000 in
set_option maxHeartbeats 0 in
theorem PySem.Challenge.cw_quietshare_k51_walks_or_not_holds : PySem.Challenge.rw_quietshare_k51_walks_or_not.Holds := by
  w_on; o_law
  refine HandSHeadRun.head_any (r := OpenLaw.row PySem.Challenge.rw_quietshare_k51_walks_or_not) (q := view (OpenLaw.row PySem.Challenge.rw_quietshare_k51_walks_or_not).prog [28]) (H := Lw.hkR) (ob := Lw.obR) (M := 3000) (loose := Lw.loose) (d := HandSHeadRun.topDef (OpenLaw.row PySem.Challenge.rw_quietshare_k51_walks_or_not).prog 28) (kwd := []) Lw.obR_eq
    (by kernel_rfl) (fun s => by kernel_rfl) Lw.runR (by kernel_rfl) (by kernel_rfl) (by kernel_rfl) (by rfl) (by first | assumption | decide +kernel) (by decide +kernel) ⟨rfl, rfl, rfl, rfl, rfl, by decide +kernel⟩ ?hw ?hc
  case hw => w_witness2
  case hc =>
    refine L2.walk_ofE (l := PySem.Challenge.rw_quietshare_k51_walks_or_not) (n := 63) (k := 37) (x := "_law_script") (CX := L2.CX0) rfl (by decide) (by kernel_rfl) ⟨rfl, by decide, by decide⟩ ?F (fun _ _ _ _ z => z)
    intro w mg fa h Y G hmg0
    obtain ⟨K, KX, c⟩ := Y
    have hmg : mg ("law" : PySem.Str) = some (.ref fa) := by
      have e : (HandSHeadRun.topDef (OpenLaw.row PySem.Challenge.rw_quietshare_k51_walks_or_not).prog 28).name = ("law" : PySem.Str) := by kernel_rfl
      rw [← e]
      exact hmg0
    obtain ⟨fd, hb, hF⟩ := Lw.factsR (P := (PySem.Challenge.rw_quietshare_k51_walks_or_not).prog) (w := w) KX G hmg c
    exact ⟨K, fd, Q.spLaw K, KX, hb, fun H a ns hl _ hS => ⟨a, ns, rfl, hS, hl, fun _ => rfl⟩, hF⟩
