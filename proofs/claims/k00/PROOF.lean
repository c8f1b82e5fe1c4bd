import PyProof.Rows.All
import Wide.All
import OpenK.AllK
import Wide.FinOn
import HandS.Base
import HandS.Call
import HandS.List
import HandS.Slots
import HandS.TupAny
import HandS.Wide
import HandS.Flow
import HandS.IsInst
import HandS.Deep
import HandS.Text
import HandS.Words
import HandS.Comp
import HandS.Iter
import HandS.Zip
import HandS.TryOnly
import HandS.Defaults
import HandS.ForMost
import PySem.Challenge.RW_quietshare_k00_limits_logs_stretches_or
set_option Elab.async false
set_option linter.all false
set_option maxRecDepth 100000
set_option maxHeartbeats 4000000
namespace Q
open PySem L2
/-- data: what a Python value is worth; ref k: the k-th mutable cell -/
inductive D where
  | non | bl (b : Bool) | int (i : Int) | str (x : Str) | tup (xs : List D) | lst (xs : List D) | fro (xs : List D) | obj (c : Nat) (fs : List D) | ref (k : Nat)
/-- a mutable cell: a list that may be changed, a list that is changed no more -/
inductive Cell where
  | lst (xs : List D) | frz (xs : List D)
abbrev Store := List Cell
abbrev Env := List (Option D)
structure Exn where
  cls : Nat
  fs : List (Str × D)
inductive Res (β : Type) where
  | ok (a : β) (S : Store) | ex (e : Exn) (S : Store) | no
def Res.bind {β γ : Type} (r : Res β) (f : β → Store → Res γ) : Res γ := match r with
  | .ok a S => f a S
  | .ex e S => .ex e S
  | .no => .no
@[simp] theorem bind_ok {β γ : Type} (a : β) (S : Store) (f : β → Store → Res γ) : (Res.ok a S).bind f = f a S := rfl
@[simp] theorem bind_no {β γ : Type} (f : β → Store → Res γ) : (Res.no : Res β).bind f = .no := rfl
@[simp] theorem bind_ex {β γ : Type} (e : Exn) (S : Store) (f : β → Store → Res γ) : (Res.ex e S : Res β).bind f = .ex e S := rfl
theorem bind_congr {β γ : Type} {r r' : Res β} (f : β → Store → Res γ) (h : r = r') : r.bind f = r'.bind f := by rw [h]
/-- the text's fragment and its classes by number -/
structure Gm where
  K : PySem.W.Frag
  cl : Nat → Addr
/-- an instance with slots, all of them filled, that changes no more -/
def ObAt (G : Hp) (a C : Addr) (vs : List V) : Prop := ∃ dx, G a = some (SlX.SlO a C dx (vs.map some)) ∧ G dx = some (.xd [])
section
variable (Γ : Gm) (α : List Addr) (G : Hp)
mutual
def Rep : D → V → Prop
  | .non, v => v = .non
  | .bl b, v => v = .bl b
  | .int i, v => v = .int i
  | .str s, v => v = .str s
  | .tup ds, v => ∃ a vs, v = .ref a ∧ SqT Γ.K G a vs ∧ RepL ds vs
  | .lst ds, v => ∃ a vs, v = .ref a ∧ G a = some (.lst vs) ∧ RepL ds vs
  | .fro ds, v => ∃ a vs, v = .ref a ∧ SqL Γ.K G a vs ∧ RepL ds vs
  | .obj c fs, v => ∃ a vs, v = .ref a ∧ ObAt G a (Γ.cl c) vs ∧ RepL fs vs
  | .ref k, v => ∃ a, v = .ref a ∧ α[k]? = some a
def RepL : List D → List V → Prop
  | [], vs => vs = []
  | d :: ds, vs => ∃ v r, vs = v :: r ∧ Rep d v ∧ RepL ds r
end
end
/-- all of G is in H -/
def Sub (G H : Hp) : Prop := ∀ a o, G a = some o → H a = some o
theorem Sub.refl (G : Hp) : Sub G G := fun _ _ h => h
theorem Sub.trans {G H J : Hp} (a : Sub G H) (b : Sub H J) : Sub G J := fun x o h => b x o (a x o h)
theorem Sub.new {H : Hp} {p : Addr} {o : HO} (h : H p = none) : Sub H (upd H p o) := fun a u e => by
  rw [upd_ne (ne_of_none e h)]; exact e
theorem Sub.rd {G H : Hp} (s : Sub G H) {a : Addr} {u : HO} (h : Rd G a u) : Rd H a u := by
  rcases h with h | ⟨o, h⟩
  · exact .inl (s a _ h)
  · exact .inr ⟨o, s a _ h⟩
theorem Sub.sqL {K : PySem.W.Frag} {G H : Hp} (s : Sub G H) {a : Addr} {xs : List V} (h : SqL K G a xs) : SqL K H a xs := by
  rcases h with h | h
  · exact .inl (s.rd h)
  · exact .inr h
theorem Sub.sqT {K : PySem.W.Frag} {G H : Hp} (s : Sub G H) {a : Addr} {xs : List V} (h : SqT K G a xs) : SqT K H a xs := by
  rcases h with h | h
  · exact .inl (s.rd h)
  · exact .inr h
theorem Sub.none {G H : Hp} (s : Sub G H) {a : Addr} (h : H a = none) : G a = none := by
  cases q : G a with
  | none => rfl
  | some o => rw [s a o q] at h; cases h
section
variable {Γ : Gm} {α α' : List Addr} {G G' : Hp}
mutual
theorem Rep.mono (hp : ∃ β, α' = α ++ β) (hs : Sub G G') : ∀ (d : D) (v : V), Rep Γ α G d v → Rep Γ α' G' d v
  | .non, v, h => by simpa [Rep] using h
  | .bl b, v, h => by simpa [Rep] using h
  | .int i, v, h => by simpa [Rep] using h
  | .str s, v, h => by simpa [Rep] using h
  | .tup ds, v, h => by
    unfold Rep at h ⊢
    obtain ⟨a, vs, e, q, r⟩ := h
    exact ⟨a, vs, e, hs.sqT q, RepL.mono hp hs ds vs r⟩
  | .lst ds, v, h => by
    unfold Rep at h ⊢
    obtain ⟨a, vs, e, q, r⟩ := h
    exact ⟨a, vs, e, hs _ _ q, RepL.mono hp hs ds vs r⟩
  | .fro ds, v, h => by
    unfold Rep at h ⊢
    obtain ⟨a, vs, e, q, r⟩ := h
    exact ⟨a, vs, e, hs.sqL q, RepL.mono hp hs ds vs r⟩
  | .obj c fs, v, h => by
    unfold Rep at h ⊢
    obtain ⟨a, vs, e, ⟨dx, h1, h2⟩, r⟩ := h
    exact ⟨a, vs, e, ⟨dx, hs _ _ h1, hs _ _ h2⟩, RepL.mono hp hs fs vs r⟩
  | .ref k, v, h => by
    unfold Rep at h ⊢
    obtain ⟨a, e, q⟩ := h
    obtain ⟨β, rfl⟩ := hp
    exact ⟨a, e, by rw [List.getElem?_append_left (List.getElem?_eq_some_iff.mp q).1]; exact q⟩
theorem RepL.mono (hp : ∃ β, α' = α ++ β) (hs : Sub G G') : ∀ (ds : List D) (vs : List V), RepL Γ α G ds vs → RepL Γ α' G' ds vs
  | [], vs, h => by simpa [RepL] using h
  | d :: ds, vs, h => by
    unfold RepL at h ⊢
    obtain ⟨v, r, e, h1, h2⟩ := h
    exact ⟨v, r, e, Rep.mono hp hs d v h1, RepL.mono hp hs ds r h2⟩
end
theorem RepL.length : ∀ {ds : List D} {vs : List V}, RepL Γ α G ds vs → ds.length = vs.length
  | [], vs, h => by unfold RepL at h; subst h; rfl
  | d :: ds, vs, h => by
    unfold RepL at h
    obtain ⟨v, r, rfl, _, h2⟩ := h
    simp [RepL.length h2]
theorem RepL.get : ∀ {ds : List D} {vs : List V} {i : Nat} {d : D}, RepL Γ α G ds vs → ds[i]? = some d → ∃ v, vs[i]? = some v ∧ Rep Γ α G d v
  | [], _, _, _, _, h => by simp at h
  | d :: ds, vs, 0, e, r, h => by
    unfold RepL at r
    obtain ⟨v, w, rfl, h1, _⟩ := r
    simp at h
    subst h
    exact ⟨v, rfl, h1⟩
  | d :: ds, vs, i + 1, e, r, h => by
    unfold RepL at r
    obtain ⟨v, w, rfl, _, h2⟩ := r
    simpa using RepL.get h2 (by simpa using h)
theorem RepL.append : ∀ {ds es : List D} {vs ws : List V}, RepL Γ α G ds vs → RepL Γ α G es ws → RepL Γ α G (ds ++ es) (vs ++ ws)
  | [], es, vs, ws, h, h' => by
    unfold RepL at h; subst h; exact h'
  | d :: ds, es, vs, ws, h, h' => by
    unfold RepL at h
    obtain ⟨v, r, rfl, h1, h2⟩ := h
    show RepL Γ α G (d :: (ds ++ es)) (v :: (r ++ ws))
    unfold RepL
    exact ⟨v, _, rfl, h1, RepL.append h2 h'⟩
theorem RepL.set : ∀ {ds : List D} {vs : List V} (i : Nat) {d : D} {v : V}, RepL Γ α G ds vs → Rep Γ α G d v → RepL Γ α G (ds.set i d) (vs.set i v)
  | [], vs, i, d, v, h, _ => by unfold RepL at h; subst h; simp [RepL]
  | e :: ds, vs, 0, d, v, h, hv => by
    unfold RepL at h
    obtain ⟨w, r, rfl, h1, h2⟩ := h
    show RepL Γ α G (d :: ds) (v :: r)
    unfold RepL
    exact ⟨v, r, rfl, hv, h2⟩
  | e :: ds, vs, i + 1, d, v, h, hv => by
    unfold RepL at h
    obtain ⟨w, r, rfl, h1, h2⟩ := h
    show RepL Γ α G (e :: ds.set i d) (w :: r.set i v)
    unfold RepL
    exact ⟨w, _, rfl, h1, RepL.set i h2 hv⟩
theorem RepL.take : ∀ {ds : List D} {vs : List V} (n : Nat), RepL Γ α G ds vs → RepL Γ α G (ds.take n) (vs.take n)
  | ds, vs, 0, h => by simp [RepL]
  | [], vs, n + 1, h => by unfold RepL at h; subst h; simp [RepL]
  | d :: ds, vs, n + 1, h => by
    unfold RepL at h
    obtain ⟨w, r, rfl, h1, h2⟩ := h
    show RepL Γ α G (d :: ds.take n) (w :: r.take n)
    unfold RepL
    exact ⟨w, _, rfl, h1, RepL.take n h2⟩
theorem RepL.drop : ∀ {ds : List D} {vs : List V} (n : Nat), RepL Γ α G ds vs → RepL Γ α G (ds.drop n) (vs.drop n)
  | ds, vs, 0, h => h
  | [], vs, n + 1, h => by unfold RepL at h; subst h; simp [RepL]
  | d :: ds, vs, n + 1, h => by
    unfold RepL at h
    obtain ⟨w, r, rfl, h1, h2⟩ := h
    exact RepL.drop n h2
end
/-- a cell lies at a -/
def CellOk (Γ : Gm) (α : List Addr) (G H : Hp) (a : Addr) : Cell → Prop
  | .lst ds => ∃ vs, H a = some (.lst vs) ∧ RepL Γ α G ds vs ∧ G a = none
  | .frz ds => ∃ vs, G a = some (.lst vs) ∧ RepL Γ α G ds vs
/-- the state: the cells S lie at α, the data that change no more in G, both in H -/
structure Rl (Γ : Gm) (α : List Addr) (G : Hp) (S : Store) (H : Hp) : Prop where
  sub : Sub G H
  len : α.length = S.length
  nd : α.Nodup
  tr : ∀ a ∈ α, H a ≠ none
  ok : ∀ (k : Nat) (c : Cell) (a : Addr), S[k]? = some c → α[k]? = some a → CellOk Γ α G H a c
/-- from one state to a later one -/
structure Ext (α : List Addr) (G H : Hp) (α' : List Addr) (G' H' : Hp) : Prop where
  pre : ∃ β, α' = α ++ β
  sub : Sub G G'
  fr : ∀ a o, H a = some o → a ∉ α → H' a = some o
  na : ∀ a ∈ α', a ∈ α ∨ H a = none
  ng : ∀ a, G' a ≠ none → G a ≠ none ∨ a ∈ α ∨ H a = none
theorem Ext.refl (α : List Addr) (G H : Hp) : Ext α G H α G H := ⟨⟨[], by simp⟩, Sub.refl G, fun _ _ h _ => h, fun _ h => .inl h, fun _ h => .inl h⟩
theorem Ext.back {α α' : List Addr} {G H G' H' : Hp} (e : Ext α G H α' G' H') {a : Addr} (h : H' a = none) : a ∈ α ∨ H a = none := by
  by_cases m : a ∈ α
  · exact .inl m
  · cases q : H a with
    | none => exact .inr rfl
    | some o => rw [e.fr a o q m] at h; cases h
theorem Ext.mem {α α' : List Addr} {G H G' H' : Hp} (e : Ext α G H α' G' H') {a : Addr} (h : a ∈ α) : a ∈ α' := by
  obtain ⟨β, rfl⟩ := e.pre
  exact List.mem_append_left _ h
theorem Ext.trans {α α1 α2 : List Addr} {G H G1 H1 G2 H2 : Hp} (a : Ext α G H α1 G1 H1) (b : Ext α1 G1 H1 α2 G2 H2) : Ext α G H α2 G2 H2 := by
  refine ⟨?_, a.sub.trans b.sub, fun x o h m => ?_, fun x m => ?_, fun x h => ?_⟩
  · obtain ⟨β, rfl⟩ := a.pre
    obtain ⟨γ, rfl⟩ := b.pre
    exact ⟨β ++ γ, by simp⟩
  · refine b.fr x o (a.fr x o h m) fun m1 => ?_
    rcases a.na x m1 with z | z
    · exact m z
    · rw [z] at h; cases h
  · rcases b.na x m with z | z
    · exact a.na x z
    · exact a.back z
  · rcases b.ng x h with z | z | z
    · exact a.ng x z
    · rcases a.na x z with z | z
      · exact .inr (.inl z)
      · exact .inr (.inr z)
    · exact .inr (a.back z)
/-- how an exception lies: filled in where exceptions are served -/
def ExR (Γ : Gm) (α : List Addr) (G : Hp) (e : Exn) (c : Value) (x : Option Addr) (H : Hp) : Prop := True
section
variable (Γ : Gm)
/-- what is wanted, by the result of the function of data -/
def Post {β γ : Type} (R : List Addr → Hp → β → γ → Prop) (α : List Addr) (G H : Hp) (r : Res β) (Q : γ → Hp → Prop) (E : XK) : Prop := match r with
  | .ok d S' => ∀ α' G' H' v, Ext α G H α' G' H' → Rl Γ α' G' S' H' → R α' G' d v → Q v H'
  | .ex e S' => ∀ α' G' H' c x, Ext α G H α' G' H' → Rl Γ α' G' S' H' → ExR Γ α' G' e c x H' → E c x H'
  | .no => False
end
section
variable {Γ : Gm} {β γ δ ε : Type} {R : List Addr → Hp → β → γ → Prop} {R' : List Addr → Hp → δ → ε → Prop} {α α1 : List Addr} {G H G1 H1 : Hp} {Q : γ → Hp → Prop} {Q' : ε → Hp → Prop} {E : XK}
theorem Post.mono {r : Res β} (h : Post Γ R α G H r Q E) (e : Ext α G H α1 G1 H1) : Post Γ R α1 G1 H1 r Q E := by
  cases r with
  | ok d S' => exact fun α' G' H' v x rl rp => h α' G' H' v (e.trans x) rl rp
  | ex d S' => exact fun α' G' H' c x y rl rp => h α' G' H' c x (e.trans y) rl rp
  | no => exact h
theorem post_bind {r : Res β} {f : β → Store → Res δ} (h : Post Γ R' α G H (r.bind f) Q' E)
    (k : ∀ a S1 α1 G1 H1 x, r = .ok a S1 → Ext α G H α1 G1 H1 → Rl Γ α1 G1 S1 H1 → R α1 G1 a x → Post Γ R' α1 G1 H1 (f a S1) Q' E → Q x H1) : Post Γ R α G H r Q E := by
  cases r with
  | ok d S' =>
    intro α' G' H' v e rl rp
    exact k d S' α' G' H' v rfl e rl rp (Post.mono h e)
  | ex e S' => exact h
  | no => exact h
theorem post_ok {a : β} {S : Store} {x : γ} (h : Post Γ R α G H (.ok a S) Q E) (rl : Rl Γ α G S H) (rp : R α G a x) : Q x H := h α G H x (Ext.refl α G H) rl rp
end
def EnvR (Γ : Gm) (α : List Addr) (G : Hp) (ρ : Env) (σ : L2.St) : Prop := ρ.length = σ.length ∧ ∀ (i : Nat) d, ρ[i]? = some (some d) → ∃ v, σ[i]? = some (some v) ∧ Rep Γ α G d v
theorem EnvR.mono {Γ : Gm} {α α' : List Addr} {G H G' H' : Hp} {ρ : Env} {σ : L2.St} (h : EnvR Γ α G ρ σ) (e : Ext α G H α' G' H') : EnvR Γ α' G' ρ σ :=
  ⟨h.1, fun i d hi => let ⟨v, a, b⟩ := h.2 i d hi; ⟨v, a, Rep.mono e.pre e.sub _ _ b⟩⟩
theorem EnvR.set {Γ : Gm} {α : List Addr} {G : Hp} {ρ : Env} {σ : L2.St} (h : EnvR Γ α G ρ σ) (i : Nat) {d : D} {v : V} (r : Rep Γ α G d v) : EnvR Γ α G (ρ.set i (some d)) (σ.set i (some v)) := by
  refine ⟨by simp [h.1], fun j e hj => ?_⟩
  by_cases hij : i = j
  · subst hij
    have hl : i < ρ.length := by
      have := (List.getElem?_eq_some_iff.mp hj).1
      simpa using this
    rw [List.getElem?_set_self hl] at hj
    cases hj
    exact ⟨v, List.getElem?_set_self (by rw [← h.1]; exact hl), r⟩
  · rw [List.getElem?_set_ne hij] at hj
    obtain ⟨w, h1, h2⟩ := h.2 j e hj
    exact ⟨w, by rw [List.getElem?_set_ne hij]; exact h1, h2⟩
abbrev ME := Env → Store → Res D
abbrev MT := Env → Store → Res Bool
abbrev MA := Env → Store → Res (List D)
inductive Fl where
  | nx (ρ : Env) | rt (d : D) | bk (ρ : Env) | ct (ρ : Env)
abbrev MS := Env → Store → Res Fl
def RB : List Addr → Hp → Bool → Bool → Prop := fun _ _ a b => a = b
section
variable (Γ : Gm) (E : XK)
def SndE (t : TE) (m : ME) : Prop := ∀ (ρ : Env) (S : Store) (σ : L2.St) (α : List Addr) (G H : Hp) (Q : VK), EnvR Γ α G ρ σ → Rl Γ α G S H → Post Γ (Rep Γ) α G H (m ρ S) Q E → t σ H Q
def SndT (t : TT) (m : MT) : Prop := ∀ (ρ : Env) (S : Store) (σ : L2.St) (α : List Addr) (G H : Hp) (Q : Bool → Hp → Prop), EnvR Γ α G ρ σ → Rl Γ α G S H → Post Γ RB α G H (m ρ S) Q E → t σ H Q
def SndA (t : TA) (m : MA) : Prop := ∀ (ρ : Env) (S : Store) (σ : L2.St) (α : List Addr) (G H : Hp) (Q : List V → Hp → Prop), EnvR Γ α G ρ σ → Rl Γ α G S H → Post Γ (RepL Γ) α G H (m ρ S) Q E → t σ H Q
def PostS (α : List Addr) (G H : Hp) (r : Res Fl) (Dn : Ends) : Prop := match r with
  | .ok (.nx ρ) S' => ∀ α' G' H' σ', Ext α G H α' G' H' → Rl Γ α' G' S' H' → EnvR Γ α' G' ρ σ' → Dn.nx σ' H'
  | .ok (.rt d) S' => ∀ α' G' H' v, Ext α G H α' G' H' → Rl Γ α' G' S' H' → Rep Γ α' G' d v → Dn.rt v H'
  | .ok (.bk ρ) S' => ∀ α' G' H' σ', Ext α G H α' G' H' → Rl Γ α' G' S' H' → EnvR Γ α' G' ρ σ' → Dn.bk σ' H'
  | .ok (.ct ρ) S' => ∀ α' G' H' σ', Ext α G H α' G' H' → Rl Γ α' G' S' H' → EnvR Γ α' G' ρ σ' → Dn.ct σ' H'
  | .ex e S' => ∀ α' G' H' c x, Ext α G H α' G' H' → Rl Γ α' G' S' H' → ExR Γ α' G' e c x H' → E c x H'
  | .no => False
def SndS (t : TS) (m : MS) : Prop := ∀ (ρ : Env) (S : Store) (σ : L2.St) (α : List Addr) (G H : Hp) (Dn : Ends), EnvR Γ α G ρ σ → Rl Γ α G S H → PostS Γ E α G H (m ρ S) Dn → t Dn σ H
end
theorem PostS.mono {Γ : Gm} {E : XK} {α α1 : List Addr} {G H G1 H1 : Hp} {r : Res Fl} {Dn : Ends} (h : PostS Γ E α G H r Dn) (e : Ext α G H α1 G1 H1) : PostS Γ E α1 G1 H1 r Dn := by
  cases r with
  | ok f S' => cases f <;> exact fun α' G' H' v x rl rp => h α' G' H' v (e.trans x) rl rp
  | ex d S' => exact fun α' G' H' c x y rl rp => h α' G' H' c x (e.trans y) rl rp
  | no => exact h
/-- behind an expression within a statement -/
theorem posts_bind {Γ : Gm} {E : XK} {β γ : Type} {R : List Addr → Hp → β → γ → Prop} {α : List Addr} {G H : Hp} {r : Res β} {f : β → Store → Res Fl} {Dn : Ends} {Q : γ → Hp → Prop} (h : PostS Γ E α G H (r.bind f) Dn)
    (k : ∀ a S1 α1 G1 H1 x, r = .ok a S1 → Ext α G H α1 G1 H1 → Rl Γ α1 G1 S1 H1 → R α1 G1 a x → PostS Γ E α1 G1 H1 (f a S1) Dn → Q x H1) : Post Γ R α G H r Q E := by
  cases r with
  | ok d S' =>
    intro α' G' H' v e rl rp
    exact k d S' α' G' H' v rfl e rl rp (PostS.mono h e)
  | ex e S' => exact h
  | no => exact h
structure QE (X : Cx) (cl : Nat → Addr) (E : XK) (e : Expr) (m : ME) : Prop where
  ex : ∃ t, PE X e t ∧ SndE ⟨X.K, cl⟩ E t m
structure QT (X : Cx) (cl : Nat → Addr) (E : XK) (e : Expr) (m : MT) : Prop where
  ex : ∃ t, PT X e t ∧ SndT ⟨X.K, cl⟩ E t m
structure QW (X : Cx) (cl : Nat → Addr) (E : XK) (e : Expr) (m : MT) : Prop where
  ex : ∃ t, PW X e t ∧ SndT ⟨X.K, cl⟩ E t m
structure QA (X : Cx) (cl : Nat → Addr) (E : XK) (es : List Expr) (m : MA) : Prop where
  ex : ∃ t, PA X es t ∧ SndA ⟨X.K, cl⟩ E t m
structure QS (X : Cx) (cl : Nat → Addr) (E : XK) (st : Stmt) (m : MS) : Prop where
  ex : ∃ t, PS X st t ∧ SndS ⟨X.K, cl⟩ E t m
structure QSs (X : Cx) (cl : Nat → Addr) (E : XK) (st : List Stmt) (m : MS) : Prop where
  ex : ∃ t, PSs X st t ∧ SndS ⟨X.K, cl⟩ E t m
end Q
namespace Q
open PySem L2
theorem sub_upd {G : Hp} {p : Addr} {o : HO} (h : G p = none) : Sub G (upd G p o) := Sub.new h
theorem Sub.upd2 {G H : Hp} (s : Sub G H) (p : Addr) (o : HO) : Sub (upd G p o) (upd H p o) := fun a u e => by
  by_cases h : a = p
  · subst h; rw [upd_same] at e ⊢; exact e
  · rw [upd_ne h] at e ⊢; exact s a u e
section
variable {Γ : Gm} {α : List Addr} {G H : Hp} {S : Store}
theorem Rl.gnone (R : Rl Γ α G S H) {p : Addr} (h : H p = none) : G p = none := R.sub.none h
theorem Rl.get (R : Rl Γ α G S H) {k : Nat} {c : Cell} (h : S[k]? = some c) : ∃ a, α[k]? = some a ∧ a ∈ α ∧ CellOk Γ α G H a c := by
  have hl : k < α.length := by rw [R.len]; exact (List.getElem?_eq_some_iff.mp h).1
  exact ⟨α[k], List.getElem?_eq_getElem hl, List.getElem_mem hl, R.ok k c _ h (List.getElem?_eq_getElem hl)⟩
/-- a new object that will change no more -/
theorem Rl.new (R : Rl Γ α G S H) {p : Addr} (hp : H p = none) (o : HO) : Rl Γ α (upd G p o) S (upd H p o) ∧ Ext α G H α (upd G p o) (upd H p o) := by
  have ne : ∀ a ∈ α, a ≠ p := fun a m e => by subst e; exact R.tr a m hp
  have sg : Sub G (upd G p o) := Sub.new (R.gnone hp)
  refine ⟨⟨R.sub.upd2 p o, R.len, R.nd, fun a m => by rw [upd_ne (ne a m)]; exact R.tr a m, fun k c a hc ha => ?_⟩, ⟨⟨[], by simp⟩, sg, fun a u e _ => ?_, fun a m => .inl m, fun a h => ?_⟩⟩
  · have hm : a ∈ α := List.mem_of_getElem? ha
    have z := R.ok k c a hc ha
    cases c with
    | lst ds =>
      obtain ⟨vs, h1, h2, h3⟩ := z
      exact ⟨vs, by rw [upd_ne (ne a hm)]; exact h1, RepL.mono ⟨[], by simp⟩ sg _ _ h2, by rw [upd_ne (ne a hm)]; exact h3⟩
    | frz ds =>
      obtain ⟨vs, h1, h2⟩ := z
      exact ⟨vs, sg _ _ h1, RepL.mono ⟨[], by simp⟩ sg _ _ h2⟩
  · rw [upd_ne (ne_of_none e hp)]; exact e
  · by_cases e : a = p
    · subst e; exact .inr (.inr hp)
    · rw [upd_ne e] at h; exact .inl h
/-- a new object that no data know of (a tuple that holds classes, ..) -/
theorem Rl.out (R : Rl Γ α G S H) {p : Addr} (hp : H p = none) (o : HO) : Rl Γ α G S (upd H p o) ∧ Ext α G H α G (upd H p o) := by
  have ne : ∀ a ∈ α, a ≠ p := fun a m e => by subst e; exact R.tr a m hp
  refine ⟨⟨R.sub.trans (Sub.new hp), R.len, R.nd, fun a m => by rw [upd_ne (ne a m)]; exact R.tr a m, fun k c a hc ha => ?_⟩, ⟨⟨[], by simp⟩, Sub.refl G, fun a u e _ => ?_, fun a m => .inl m, fun a h => .inl h⟩⟩
  · have hm : a ∈ α := List.mem_of_getElem? ha
    have z := R.ok k c a hc ha
    cases c with
    | lst ds =>
      obtain ⟨vs, h1, h2, h3⟩ := z
      exact ⟨vs, by rw [upd_ne (ne a hm)]; exact h1, h2, h3⟩
    | frz ds => exact z
  · rw [upd_ne (ne_of_none e hp)]; exact e
/-- a new cell -/
theorem Rl.cell (R : Rl Γ α G S H) {p : Addr} (hp : H p = none) {ds : List D} {vs : List V} (r : RepL Γ α G ds vs) :
    Rl Γ (α ++ [p]) G (S ++ [.lst ds]) (upd H p (.lst vs)) ∧ Ext α G H (α ++ [p]) G (upd H p (.lst vs)) ∧ Rep Γ (α ++ [p]) G (.ref S.length) (.ref p) := by
  have ne : ∀ a ∈ α, a ≠ p := fun a m e => by subst e; exact R.tr a m hp
  have mono : ∀ {ds vs}, RepL Γ α G ds vs → RepL Γ (α ++ [p]) G ds vs := fun {ds vs} h => RepL.mono ⟨[p], rfl⟩ (Sub.refl G) _ _ h
  refine ⟨⟨R.sub.trans (Sub.new hp), by simp [R.len], ?_, fun a m => ?_, fun k c a hc ha => ?_⟩, ⟨⟨[p], rfl⟩, Sub.refl G, fun a u e _ => by rw [upd_ne (ne_of_none e hp)]; exact e, fun a m => ?_, fun a h => .inl h⟩, ?_⟩
  · rw [List.nodup_append]
    exact ⟨R.nd, by simp, fun a m b mb => by simp at mb; subst mb; exact ne a m⟩
  · by_cases e : a = p
    · subst e; rw [upd_same]; simp
    · rw [upd_ne e]
      rcases List.mem_append.mp m with m | m
      · exact R.tr a m
      · simp at m; exact absurd m e
  · by_cases hk : k < α.length
    · rw [List.getElem?_append_left hk] at ha
      rw [List.getElem?_append_left (by rw [← R.len]; exact hk)] at hc
      have hm : a ∈ α := List.mem_of_getElem? ha
      have z := R.ok k c a hc ha
      cases c with
      | lst ds =>
        obtain ⟨vs, h1, h2, h3⟩ := z
        exact ⟨vs, by rw [upd_ne (ne a hm)]; exact h1, mono h2, h3⟩
      | frz ds =>
        obtain ⟨vs, h1, h2⟩ := z
        exact ⟨vs, h1, mono h2⟩
    · rw [List.getElem?_append_right (by omega)] at ha
      rw [List.getElem?_append_right (by rw [← R.len]; omega)] at hc
      have e1 : k - α.length = 0 := by
        have := (List.getElem?_eq_some_iff.mp ha).1
        simp at this
        omega
      have e2 : k - S.length = 0 := by rw [← R.len]; exact e1
      rw [e1] at ha
      rw [e2] at hc
      simp at ha hc
      subst ha
      subst hc
      exact ⟨vs, upd_same, mono r, R.gnone hp⟩
  · rcases List.mem_append.mp m with m | m
    · exact .inl m
    · simp at m; subst m; exact .inr hp
  · unfold Rep
    exact ⟨p, rfl, by rw [← R.len]; simp⟩
/-- a cell is changed -/
theorem Rl.put (R : Rl Γ α G S H) {k : Nat} {a : Addr} {ds es : List D} {ws : List V} (hk : S[k]? = some (.lst ds)) (ha : α[k]? = some a) (r : RepL Γ α G es ws) :
    Rl Γ α G (S.set k (.lst es)) (upd H a (.lst ws)) ∧ Ext α G H α G (upd H a (.lst ws)) := by
  have hm : a ∈ α := List.mem_of_getElem? ha
  obtain ⟨vs0, a1, a2, a3⟩ := R.ok k _ a hk ha
  refine ⟨⟨fun b o e => ?_, by simp [R.len], R.nd, fun b m => ?_, fun j c b hc hb => ?_⟩, ⟨⟨[], by simp⟩, Sub.refl G, fun b u e nb => ?_, fun b m => .inl m, fun b h => .inl h⟩⟩
  · have hb : b ≠ a := fun z => by subst z; rw [a3] at e; cases e
    rw [upd_ne hb]
    exact R.sub b o e
  · by_cases e : b = a
    · subst e; rw [upd_same]; simp
    · rw [upd_ne e]; exact R.tr b m
  · by_cases hjk : k = j
    · subst hjk
      rw [List.getElem?_set_self (List.getElem?_eq_some_iff.mp hk).1] at hc
      rw [ha] at hb
      cases hb
      cases hc
      exact ⟨ws, upd_same, r, a3⟩
    · rw [List.getElem?_set_ne hjk] at hc
      have hb' : b ≠ a := fun z => by
        subst z
        obtain ⟨h1, e1⟩ := List.getElem?_eq_some_iff.mp ha
        obtain ⟨h2, e2⟩ := List.getElem?_eq_some_iff.mp hb
        exact hjk ((List.getElem_inj R.nd).mp (e1.trans e2.symm))
      have z := R.ok j c b hc hb
      cases c with
      | lst ds =>
        obtain ⟨vs, h1, h2, h3⟩ := z
        exact ⟨vs, by rw [upd_ne hb']; exact h1, h2, h3⟩
      | frz ds => exact z
  · have hb : b ≠ a := fun z => by subst z; exact nb hm
    rw [upd_ne hb]
    exact e
/-- a cell changes no more -/
theorem Rl.freeze (R : Rl Γ α G S H) {k : Nat} {a : Addr} {ds : List D} (hk : S[k]? = some (.lst ds)) (ha : α[k]? = some a) :
    ∃ vs, RepL Γ α G ds vs ∧ Rl Γ α (upd G a (.lst vs)) (S.set k (.frz ds)) H ∧ Ext α G H α (upd G a (.lst vs)) H := by
  have hm : a ∈ α := List.mem_of_getElem? ha
  obtain ⟨vs, a1, a2, a3⟩ := R.ok k _ a hk ha
  have sg : Sub G (upd G a (.lst vs)) := Sub.new a3
  refine ⟨vs, a2, ⟨fun b o e => ?_, by simp [R.len], R.nd, R.tr, fun j c b hc hb => ?_⟩, ⟨⟨[], by simp⟩, sg, fun b u e _ => e, fun b m => .inl m, fun b h => ?_⟩⟩
  · by_cases e' : b = a
    · subst e'; rw [upd_same] at e; cases e; exact a1
    · rw [upd_ne e'] at e; exact R.sub b o e
  · by_cases hjk : k = j
    · subst hjk
      rw [List.getElem?_set_self (List.getElem?_eq_some_iff.mp hk).1] at hc
      rw [ha] at hb
      cases hb
      cases hc
      exact ⟨vs, upd_same, RepL.mono ⟨[], by simp⟩ sg _ _ a2⟩
    · rw [List.getElem?_set_ne hjk] at hc
      have hb' : b ≠ a := fun z => by
        subst z
        obtain ⟨h1, e1⟩ := List.getElem?_eq_some_iff.mp ha
        obtain ⟨h2, e2⟩ := List.getElem?_eq_some_iff.mp hb
        exact hjk ((List.getElem_inj R.nd).mp (e1.trans e2.symm))
      have z := R.ok j c b hc hb
      cases c with
      | lst ds =>
        obtain ⟨vs, h1, h2, h3⟩ := z
        exact ⟨vs, h1, RepL.mono ⟨[], by simp⟩ sg _ _ h2, by rw [upd_ne hb']; exact h3⟩
      | frz ds =>
        obtain ⟨vs, h1, h2⟩ := z
        exact ⟨vs, sg _ _ h1, RepL.mono ⟨[], by simp⟩ sg _ _ h2⟩
  · by_cases e : b = a
    · subst e; exact .inr (.inl hm)
    · rw [upd_ne e] at h; exact .inl h
end
def lstOf (S : Store) : D → Option (List D)
  | .lst xs => some xs
  | .ref k => match S[k]? with
    | some (.lst xs) => some xs
    | some (.frz xs) => some xs
    | none => none
  | _ => none
/-- a list, also one that is locked or written -/
def rdL (S : Store) : D → Option (List D)
  | .fro xs => some xs
  | d => lstOf S d
section
variable {Γ : Gm} {α : List Addr} {G H : Hp} {S : Store}
theorem lstOf_at (R : Rl Γ α G S H) {d : D} {v : V} {xs : List D} (r : Rep Γ α G d v) (h : lstOf S d = some xs) : ∃ a vs, v = .ref a ∧ H a = some (.lst vs) ∧ RepL Γ α G xs vs := by
  cases d with
  | lst ys =>
    have e : ys = xs := Option.some.inj h
    subst e
    unfold Rep at r
    obtain ⟨a, vs, e, q, r⟩ := r
    exact ⟨a, vs, e, R.sub _ _ q, r⟩
  | ref k =>
    unfold Rep at r
    obtain ⟨a, e, ha⟩ := r
    unfold lstOf at h
    cases hc : S[k]? with
    | none => simp [hc] at h
    | some c =>
      have z := R.ok k c a hc ha
      cases c with
      | lst ys =>
        simp [hc] at h
        subst h
        obtain ⟨vs, h1, h2, h3⟩ := z
        exact ⟨a, vs, e, h1, h2⟩
      | frz ys =>
        simp [hc] at h
        subst h
        obtain ⟨vs, h1, h2⟩ := z
        exact ⟨a, vs, e, R.sub _ _ h1, h2⟩
  | _ => simp [lstOf] at h
theorem rdL_at (R : Rl Γ α G S H) {d : D} {v : V} {xs : List D} (r : Rep Γ α G d v) (h : rdL S d = some xs) : ∃ a vs, v = .ref a ∧ SqL Γ.K H a vs ∧ RepL Γ α G xs vs := by
  have go : lstOf S d = some xs → ∃ a vs, v = .ref a ∧ SqL Γ.K H a vs ∧ RepL Γ α G xs vs := fun h => by
    obtain ⟨a, vs, e, q, r⟩ := lstOf_at R r h
    exact ⟨a, vs, e, .inl (.inl q), r⟩
  cases d with
  | fro ys =>
    have e : ys = xs := Option.some.inj h
    subst e
    unfold Rep at r
    obtain ⟨a, vs, e, q, r⟩ := r
    exact ⟨a, vs, e, R.sub.sqL q, r⟩
  | _ => exact go h
theorem tup_at (R : Rl Γ α G S H) {v : V} {xs : List D} (r : Rep Γ α G (.tup xs) v) : ∃ a vs, v = .ref a ∧ SqT Γ.K H a vs ∧ RepL Γ α G xs vs := by
  unfold Rep at r
  obtain ⟨a, vs, e, q, r⟩ := r
  exact ⟨a, vs, e, R.sub.sqT q, r⟩
theorem sz {n : Nat} (h : n ≤ 100000) : n ≤ sizeLine := Nat.le_trans h (by decide)
theorem rep_lst {p : Addr} {xs : List D} {vs : List V} (h : G p = some (.lst vs)) (r : RepL Γ α G xs vs) : Rep Γ α G (.lst xs) (.ref p) := by unfold Rep; exact ⟨p, vs, rfl, h, r⟩
theorem rep_tup {p : Addr} {xs : List D} {vs : List V} (h : G p = some (.tup vs)) (r : RepL Γ α G xs vs) : Rep Γ α G (.tup xs) (.ref p) := by unfold Rep; exact ⟨p, vs, rfl, .inl (.inl h), r⟩
/-- a new list that will change no more is handed on -/
theorem post_lst {Q : VK} {E : XK} {xs : List D} {vs : List V} (R : Rl Γ α G S H) (r : RepL Γ α G xs vs) (h : Post Γ (Rep Γ) α G H (.ok (.lst xs) S) Q E) {p : Addr} (hp : H p = none) : Q (.ref p) (upd H p (.lst vs)) := by
  obtain ⟨R', e⟩ := R.new hp (.lst vs)
  exact h _ _ _ _ e R' (rep_lst upd_same (RepL.mono e.pre e.sub _ _ r))
theorem post_tup {Q : VK} {E : XK} {xs : List D} {vs : List V} (R : Rl Γ α G S H) (r : RepL Γ α G xs vs) (h : Post Γ (Rep Γ) α G H (.ok (.tup xs) S) Q E) {p : Addr} (hp : H p = none) : Q (.ref p) (upd H p (.tup vs)) := by
  obtain ⟨R', e⟩ := R.new hp (.tup vs)
  exact h _ _ _ _ e R' (rep_tup upd_same (RepL.mono e.pre e.sub _ _ r))
theorem post_cell {Q : VK} {E : XK} {xs : List D} {vs : List V} (R : Rl Γ α G S H) (r : RepL Γ α G xs vs) (h : Post Γ (Rep Γ) α G H (.ok (.ref S.length) (S ++ [.lst xs])) Q E) {p : Addr} (hp : H p = none) : Q (.ref p) (upd H p (.lst vs)) := by
  obtain ⟨R', e, r'⟩ := R.cell hp r
  exact h _ _ _ _ e R' r'
end
end Q
namespace Q
open PySem L2
def mVar (i : Nat) : ME := fun ρ S => match ρ[i]? with
  | some (some d) => .ok d S
  | _ => .no
def mC (d : D) : ME := fun _ S => .ok d S
section
variable {X : Cx} {cl : Nat → Addr} {E : XK} {a b c e : Expr} {ma mb mc m : ME} {pos : Pos}
theorem snd_var {Γ : Gm} (i : Nat) : SndE Γ E (tVar i) (mVar i) := fun ρ S σ α G H Q hρ hR h => by
  unfold mVar at h
  cases q : ρ[i]? with
  | none => simp [q, Post] at h
  | some o =>
    cases o with
    | none => simp [q, Post] at h
    | some d =>
      simp only [q] at h
      obtain ⟨v, hv, r⟩ := hρ.2 i d q
      exact ⟨v, hv, post_ok h hR r⟩
theorem snd_c {Γ : Gm} {v : V} {d : D} (hr : ∀ α G, Rep Γ α G d v) : SndE Γ E (tC v) (mC d) := fun ρ S σ α G H Q hρ hR h => post_ok h hR (hr _ _)
theorem q_var (i : Nat) {x : Str} {pos : Pos} (hN : X.N[i]? = some x := by rfl) (hv : Vis X.env.scope x := by first | exact Or.inl rfl | exact Or.inr (Or.inl rfl) | exact Or.inr (Or.inr rfl)) (hd : (x == ("__debug__" : Str)) = false := by decide)
    (hcd : (x == ("__classdict__" : Str)) = false := by decide) : QE X cl E (.Name x pos) (mVar i) := ⟨_, pe_var hN hv hd hcd, snd_var i⟩
theorem q_int {i j pos} : QE X cl E (.Constant (.int i) j pos) (mC (.int i)) := ⟨_, pe_int, snd_c fun _ _ => by simp [Rep]⟩
theorem q_bl {i j pos} : QE X cl E (.Constant (.bool i) j pos) (mC (.bl i)) := ⟨_, pe_bl, snd_c fun _ _ => by simp [Rep]⟩
theorem q_non {j pos} : QE X cl E (.Constant .none j pos) (mC .non) := ⟨_, pe_non, snd_c fun _ _ => by simp [Rep]⟩
theorem q_str {i j pos} : QE X cl E (.Constant (.str i) j pos) (mC (.str i)) := ⟨_, pe_str, snd_c fun _ _ => by simp [Rep]⟩
theorem q_globI {x : Str} {i : Int} {t : Tok} {pos : Pos} (hg : Gl X x) (hm : X.mg x = some (.int i t)) (hd : (x == ("__debug__" : Str)) = false := by decide) : QE X cl E (.Name x pos) (mC (.int i)) :=
  ⟨_, pe_glob (v := .int i) hg hm ⟨_, rfl⟩ hd, snd_c fun _ _ => by simp [Rep]⟩
def SndR (Γ : Gm) (E : XK) (r : R2) (f : D → D → Store → Res D) : Prop := ∀ (a b : D) (S : Store) (α : List Addr) (G H : Hp) (x y : V) (Q : VK), Rl Γ α G S H → Rep Γ α G a x → Rep Γ α G b y → Post Γ (Rep Γ) α G H (f a b S) Q E → r x y H Q
structure QR (X : Cx) (cl : Nat → Addr) (E : XK) (op : Value → Value → Sem Value) (f : D → D → Store → Res D) : Prop where
  ex : ∃ r, OpR X op r ∧ SndR ⟨X.K, cl⟩ E r f
def mOp (f : D → D → Store → Res D) (ma mb : ME) : ME := fun ρ S => (ma ρ S).bind fun x S1 => (mb ρ S1).bind fun y S2 => f x y S2
theorem snd_op {Γ : Gm} {r : R2} {f : D → D → Store → Res D} {ta tb : TE} (hr : SndR Γ E r f) (ha : SndE Γ E ta ma) (hb : SndE Γ E tb mb) : SndE Γ E (tOp r ta tb) (mOp f ma mb) := fun ρ S σ α G H Q hρ hR h =>
  ha ρ S σ α G H _ hρ hR (post_bind h fun x S1 α1 G1 H1 v _ e1 R1 r1 h1 =>
    hb ρ S1 σ α1 G1 H1 _ (hρ.mono e1) R1 (post_bind h1 fun y S2 α2 G2 H2 w _ e2 R2 r2 h2 =>
      hr x y S2 α2 G2 H2 v w Q R2 (Rep.mono e2.pre e2.sub _ _ r1) r2 h2))
theorem q_op {op : Operator} {f : D → D → Store → Res D} (ho : QR X cl E (binaryOp op) f) (ha : QE X cl E a ma) (hb : QE X cl E b mb) : QE X cl E (.BinOp a op b pos) (mOp f ma mb) := by
  obtain ⟨r, h1, h2⟩ := ho.ex
  obtain ⟨ta, a1, a2⟩ := ha.ex
  obtain ⟨tb, b1, b2⟩ := hb.ex
  exact ⟨_, pe_op h1 a1 b1, snd_op h2 a2 b2⟩
theorem q_cmp {op : CmpOp} {f : D → D → Store → Res D} (ho : QR X cl E (compareOp op) f) (ha : QE X cl E a ma) (hb : QE X cl E b mb) (hm : behindInMarks op b = false := by first | rfl | exact nomark _) : QE X cl E (.Compare a [op] [b] pos) (mOp f ma mb) := by
  obtain ⟨r, h1, h2⟩ := ho.ex
  obtain ⟨ta, a1, a2⟩ := ha.ex
  obtain ⟨tb, b1, b2⟩ := hb.ex
  exact ⟨_, pe_cmpR h1 a1 b1 hm, snd_op h2 a2 b2⟩
theorem OpR.or {f : Value → Value → Sem Value} {r r' : R2} (h : OpR X f r) (h' : OpR X f r') : OpR X f (fun x y H Q => r x y H Q ∨ r' x y H Q) := fun pins s σ H x y v u Q I rx ry q => by
  rcases q with q | q
  · exact h pins s σ H x y v u Q I rx ry q
  · exact h' pins s σ H x y v u Q I rx ry q
def Res.orE {β : Type} (r s : Res β) : Res β := match r with
  | .no => s
  | r => r
@[simp] theorem orE_ok {β : Type} (a : β) (S : Store) (s : Res β) : (Res.ok a S).orE s = .ok a S := rfl
@[simp] theorem orE_no {β : Type} (s : Res β) : (Res.no : Res β).orE s = s := rfl
theorem QR.or {op : Value → Value → Sem Value} {f g : D → D → Store → Res D} (h : QR X cl E op f) (h' : QR X cl E op g) : QR X cl E op (fun a b S => (f a b S).orE (g a b S)) := by
  obtain ⟨r, h1, h2⟩ := h.ex
  obtain ⟨r', h1', h2'⟩ := h'.ex
  refine ⟨_, h1.or h1', fun a b S α G H x y Q hR ra rb hp => ?_⟩
  simp only at hp
  cases q : f a b S with
  | no =>
    rw [q] at hp
    exact .inr (h2' a b S α G H x y Q hR ra rb hp)
  | ok d S' =>
    rw [q] at hp
    exact .inl (h2 a b S α G H x y Q hR ra rb (by rw [q]; exact hp))
  | ex d S' =>
    rw [q] at hp
    exact .inl (h2 a b S α G H x y Q hR ra rb (by rw [q]; exact hp))
/-- two ints -/
def fI (C : Int → Int → Bool) (g : Int → Int → D) : D → D → Store → Res D := fun a b S => match a, b with
  | .int i, .int j => if C i j = true then .ok (g i j) S else .no
  | _, _ => .no
def fI0 (g : Int → Int → D) : D → D → Store → Res D := fun a b S => match a, b with
  | .int i, .int j => .ok (g i j) S
  | _, _ => .no
theorem snd_I {Γ : Gm} {C : Int → Int → Prop} {C' : Int → Int → Bool} {g : Int → Int → V} {g' : Int → Int → D} (hc : ∀ i j, C' i j = true → C i j) (hg : ∀ α G i j, Rep Γ α G (g' i j) (g i j)) : SndR Γ E (rI C g) (fI C' g') := by
  intro a b S α G H x y Q hR ra rb h
  cases a <;> cases b <;> try exact h.elim
  rename_i i j
  simp only [Rep] at ra rb
  unfold fI at h
  simp only at h
  split at h
  · rename_i hh
    exact ⟨i, j, ra, rb, hc i j hh, post_ok h hR (hg _ _ _ _)⟩
  · exact h.elim
theorem snd_I0 {Γ : Gm} {g : Int → Int → V} {g' : Int → Int → D} (hg : ∀ α G i j, Rep Γ α G (g' i j) (g i j)) : SndR Γ E (rI0 g) (fI0 g') := by
  intro a b S α G H x y Q hR ra rb h
  cases a <;> cases b <;> try exact h.elim
  rename_i i j
  simp only [Rep] at ra rb
  exact ⟨i, j, ra, rb, post_ok (a := g' i j) h hR (hg _ _ _ _)⟩
def mulOk (i j : Int) : Bool := decide (i.natAbs < 2 ^ 64) || decide (j.natAbs < 2 ^ 64) || decide (i.natAbs.log2 + j.natAbs.log2 < 1000000)
def divOk (_ j : Int) : Bool := decide (0 < j ∧ j.natAbs.log2 < 9000)
def modOk (_ j : Int) : Bool := decide (0 < j)
def powOk (i j : Int) : Bool := decide (0 ≤ j ∧ j.natAbs ≤ 1000000 ∧ i.natAbs < 2 ^ 64)
def opAddI := fI0 fun i j => .int (i + j)
def opSubI := fI0 fun i j => .int (i - j)
def opMulI := fI mulOk fun i j => .int (i * j)
def opDivI := fI divOk fun i j => .int (i / j)
def opModI := fI modOk fun i j => .int (i % j)
def opPowI := fI powOk fun i j => .int (i ^ j.toNat)
theorem addI : QR X cl E (binaryOp .Add) opAddI := ⟨_, op_add, snd_I0 fun _ _ _ _ => by simp [Rep]⟩
theorem subI : QR X cl E (binaryOp .Sub) opSubI := ⟨_, op_sub, snd_I0 fun _ _ _ _ => by simp [Rep]⟩
theorem mulI : QR X cl E (binaryOp .Mult) opMulI := by
  refine ⟨_, OpR.or op_mul op_mulW, fun a b S α G H x y Q hR ra rb h => ?_⟩
  cases a <;> cases b <;> try exact h.elim
  rename_i i j
  simp only [Rep] at ra rb
  unfold opMulI fI at h
  simp only at h
  split at h
  · rename_i hh
    have q := post_ok (x := V.int (i * j)) h hR (by simp [Rep])
    unfold mulOk at hh
    simp only [Bool.or_eq_true, decide_eq_true_eq] at hh
    rcases hh with (hh | hh) | hh
    · exact .inl ⟨i, j, ra, rb, .inl (by omega), q⟩
    · exact .inl ⟨i, j, ra, rb, .inr (by omega), q⟩
    · exact .inr ⟨i, j, ra, rb, hh, q⟩
  · exact h.elim
theorem divI : QR X cl E (binaryOp .FloorDiv) opDivI := ⟨_, op_fdivW, snd_I (fun i j h => by simpa [divOk, CDivW] using h) fun _ _ _ _ => by simp [Rep]⟩
theorem modI : QR X cl E (binaryOp .Mod) opModI := ⟨_, op_mod, snd_I (fun i j h => by simpa [modOk] using h) fun _ _ _ _ => by simp [Rep]⟩
theorem powI : QR X cl E (binaryOp .Pow) opPowI := ⟨_, op_pow, snd_I (fun i j h => by
  have h2 : 0 ≤ j ∧ j.natAbs ≤ 1000000 ∧ i.natAbs < 2 ^ 64 := of_decide_eq_true h
  have h3 : 0 ≤ j ∧ j ≤ 1000000 ∧ i.natAbs < 2 ^ 64 := ⟨h2.1, by omega, h2.2.2⟩
  simpa [CPow] using h3) fun _ _ _ _ => by simp [Rep]⟩
def opLt := fI0 fun i j => .bl (decide (i < j))
def opLe := fI0 fun i j => .bl (decide (i ≤ j))
def opGt := fI0 fun i j => .bl (decide (j < i))
def opGe := fI0 fun i j => .bl (decide (j ≤ i))
theorem ltI : QR X cl E (compareOp .Lt) opLt := ⟨_, op_lt, snd_I0 fun _ _ _ _ => by simp [Rep]⟩
theorem leI : QR X cl E (compareOp .LtE) opLe := ⟨_, op_le, snd_I0 fun _ _ _ _ => by simp [Rep]⟩
theorem gtI : QR X cl E (compareOp .Gt) opGt := ⟨_, op_gt, snd_I0 fun _ _ _ _ => by simp [Rep]⟩
theorem geI : QR X cl E (compareOp .GtE) opGe := ⟨_, op_ge, snd_I0 fun _ _ _ _ => by simp [Rep]⟩
/-- text + text, tuple + tuple, list + list -/
def opCat : D → D → Store → Res D := fun a b S => match a, b with
  | .str s, .str t => if s.length + t.length ≤ 100000 then .ok (.str (s ++ t)) S else .no
  | .tup xs, .tup ys => if xs.length + ys.length ≤ 100000 then .ok (.tup (xs ++ ys)) S else .no
  | a, b => match lstOf S a, lstOf S b with
    | some xs, some ys => if xs.length + ys.length ≤ 100000 then .ok (.lst (xs ++ ys)) S else .no
    | _, _ => .no
theorem repL_nil {Γ : Gm} {α : List Addr} {G : Hp} {xs : List D} {vs : List V} (r : RepL Γ α G xs vs) : xs = [] ↔ vs = [] := by
  have := r.length
  constructor
  · intro h; subst h; simpa using this.symm
  · intro h; subst h; simpa using this
theorem catQ (hc : True) : QR X cl E (binaryOp .Add) opCat := by
  refine ⟨_, OpR.or op_add_str (OpR.or op_catA op_cat), fun a b S α G H x y Q hR ra rb h => ?_⟩
  have lists : (match lstOf S a, lstOf S b with
      | some xs, some ys => if xs.length + ys.length ≤ 100000 then Res.ok (.lst (xs ++ ys)) S else .no
      | _, _ => .no) = opCat a b S → rCat x y H Q := fun e => by
    rw [← e] at h
    cases h1 : lstOf S a with
    | none => simp [h1, Post] at h
    | some xs =>
      cases h2 : lstOf S b with
      | none => simp [h1, h2, Post] at h
      | some ys =>
        simp only [h1, h2] at h
        split at h
        · rename_i hs
          obtain ⟨p, vs, rfl, q1, r1⟩ := lstOf_at hR ra h1
          obtain ⟨p2, ws, rfl, q2, r2⟩ := lstOf_at hR rb h2
          exact ⟨p, p2, vs, ws, rfl, rfl, q1, q2, by rw [← r1.length, ← r2.length]; exact sz hs, fun z hz => post_lst hR (r1.append r2) h hz⟩
        · exact h.elim
  cases a <;> cases b <;> first
    | exact .inr (.inr (lists rfl))
    | skip
  · rename_i s t
    simp only [Rep] at ra rb
    simp only [opCat] at h
    split at h
    · rename_i hs
      exact .inl ⟨s, t, ra, rb, sz hs, post_ok h hR (by simp [Rep])⟩
    · exact h.elim
  · rename_i xs ys
    simp only [opCat] at h
    split at h
    · rename_i hs
      obtain ⟨p, vs, rfl, q1, r1⟩ := tup_at hR ra
      obtain ⟨p2, ws, rfl, q2, r2⟩ := tup_at hR rb
      refine .inr (.inl ⟨p, p2, vs, ws, rfl, rfl, q1, q2, by rw [← r1.length, ← r2.length]; exact sz hs, fun e => ?_, fun e e2 => ?_, fun e e2 z hz => post_tup hR (r1.append r2) h hz⟩)
      · have e' := (repL_nil r1).mpr e
        subst e'
        exact post_ok h hR rb
      · have e' := (repL_nil r2).mpr e2
        subst e'
        rw [List.append_nil] at h
        exact post_ok h hR ra
    · exact h.elim
def opAdd : D → D → Store → Res D := fun a b S => (opAddI a b S).orE (opCat a b S)
theorem addQ : QR X cl E (binaryOp .Add) opAdd := addI.or (catQ trivial)
/-- list * int -/
def opRep : D → D → Store → Res D := fun a b S => match lstOf S a, b with
  | some xs, .int k => if (-100000 ≤ k ∧ k ≤ 100000) ∧ xs.length * k.toNat ≤ 100000 then .ok (.lst (List.replicate k.toNat xs).flatten) S else .no
  | _, _ => .no
theorem RepL.flat {Γ : Gm} {α : List Addr} {G : Hp} {xs : List D} {vs : List V} (r : RepL Γ α G xs vs) : ∀ n : Nat, RepL Γ α G (List.replicate n xs).flatten (List.replicate n vs).flatten
  | 0 => by simp [RepL]
  | n + 1 => by
    simp only [List.replicate_succ, List.flatten_cons]
    exact r.append (RepL.flat r n)
theorem repQ : QR X cl E (binaryOp .Mult) opRep := by
  refine ⟨_, op_rep, fun a b S α G H x y Q hR ra rb h => ?_⟩
  unfold opRep at h
  cases h1 : lstOf S a with
  | none => simp [h1, Post] at h
  | some xs =>
    cases b <;> simp only [h1] at h <;> try exact h.elim
    rename_i k
    split at h
    · rename_i hs
      obtain ⟨p, vs, rfl, q1, r1⟩ := lstOf_at hR ra h1
      simp only [Rep] at rb
      refine ⟨p, k, vs, rfl, rb, q1, ?_, ?_, by rw [← r1.length]; exact sz hs.2, fun z hz => post_lst hR (r1.flat _) h hz⟩
      · have : (100000 : Int) < 2 ^ 63 := by decide
        omega
      · have : (100000 : Int) < 2 ^ 63 := by decide
        omega
    · exact h.elim
def opMul : D → D → Store → Res D := fun a b S => (opMulI a b S).orE (opRep a b S)
theorem mulQ : QR X cl E (binaryOp .Mult) opMul := mulI.or repQ
mutual
def deq : D → D → Bool
  | .non, .non => true
  | .bl a, .bl b => a == b
  | .bl a, .int j => (if a then 1 else 0) == j
  | .int i, .bl b => i == (if b then 1 else 0)
  | .int i, .int j => i == j
  | .str x, .str y => x == y
  | .tup xs, .tup ys => deqL xs ys
  | .lst xs, .lst ys => deqL xs ys
  | _, _ => false
def deqL : List D → List D → Bool
  | [], [] => true
  | x :: xs, y :: ys => deq x y && deqL xs ys
  | _, _ => false
end
mutual
def toPy : D → PyData
  | .non => .none
  | .bl b => .bool b
  | .int i => .int i
  | .str s => .str s
  | .tup xs => .tuple (toPyL xs)
  | .lst xs => .list (toPyL xs)
  | .fro _ | .obj _ _ | .ref _ => .none
def toPyL : List D → List PyData
  | [] => []
  | x :: xs => toPy x :: toPyL xs
end
/-- plain data, at most n levels deep -/
def shal : Nat → D → Bool
  | _, .non => true
  | _, .bl _ => true
  | _, .int _ => true
  | _, .str s => PyData.strOk s
  | n + 1, .tup xs => xs.all (shal n)
  | n + 1, .lst xs => xs.all (shal n)
  | _, _ => false
theorem toPyL_map : ∀ xs : List D, toPyL xs = xs.map toPy
  | [] => rfl
  | x :: xs => by simp [toPyL, toPyL_map xs]
theorem depthAll_le {n : Nat} : ∀ {xs : List PyData}, (∀ x ∈ xs, x.depth ≤ n) → PyData.depthAll xs ≤ n
  | [], _ => by simp [PyData.depthAll]
  | x :: xs, h => by
    simp only [PyData.depthAll]
    have h1 := h x (by simp)
    have h2 := depthAll_le (xs := xs) fun y hy => h y (by simp [hy])
    omega
theorem canLayAll {xs : List PyData} : (∀ x ∈ xs, x.canLay0 = true) → PyData.canLayAll0 xs = true := by
  induction xs with
  | nil => intro _; rfl
  | cons x xs ih =>
    intro h
    simp only [PyData.canLayAll0, Bool.and_eq_true]
    exact ⟨h x (by simp), ih fun y hy => h y (by simp [hy])⟩
theorem shal_lay : ∀ (n : Nat) (d : D), shal n d = true → (toPy d).canLay0 = true ∧ (toPy d).depth ≤ n
  | n, .non, _ => by simp [toPy, PyData.canLay0, PyData.depth]
  | n, .bl _, _ => by simp [toPy, PyData.canLay0, PyData.depth]
  | n, .int _, _ => by simp [toPy, PyData.canLay0, PyData.depth]
  | n, .str s, h => by
    have : PyData.strOk s = true := by cases n <;> simpa [shal] using h
    simp [toPy, PyData.canLay0, PyData.depth, this]
  | n + 1, .tup xs, h => by
    have h' : ∀ x ∈ xs, shal n x = true := by simpa [shal] using h
    have k : ∀ y ∈ toPyL xs, y.canLay0 = true ∧ y.depth ≤ n := fun y hy => by
      rw [toPyL_map] at hy
      obtain ⟨x, hx, rfl⟩ := List.mem_map.mp hy
      exact shal_lay n x (h' x hx)
    exact ⟨canLayAll fun y hy => (k y hy).1, by
      simp only [toPy, PyData.depth]
      have := depthAll_le fun y hy => (k y hy).2
      omega⟩
  | n + 1, .lst xs, h => by
    have h' : ∀ x ∈ xs, shal n x = true := by simpa [shal] using h
    have k : ∀ y ∈ toPyL xs, y.canLay0 = true ∧ y.depth ≤ n := fun y hy => by
      rw [toPyL_map] at hy
      obtain ⟨x, hx, rfl⟩ := List.mem_map.mp hy
      exact shal_lay n x (h' x hx)
    exact ⟨canLayAll fun y hy => (k y hy).1, by
      simp only [toPy, PyData.depth]
      have := depthAll_le fun y hy => (k y hy).2
      omega⟩
  | 0, .tup xs, h => by simp [shal] at h
  | 0, .lst xs, h => by simp [shal] at h
  | 0, .fro _, h => by simp [shal] at h
  | 0, .obj _ _, h => by simp [shal] at h
  | 0, .ref _, h => by simp [shal] at h
  | n + 1, .fro _, h => by simp [shal] at h
  | n + 1, .obj _ _, h => by simp [shal] at h
  | n + 1, .ref _, h => by simp [shal] at h
theorem shal_shaped {d : D} (h : shal 20 d = true) : SeqAt.shaped (toPy d) = true := by
  obtain ⟨h1, h2⟩ := shal_lay 20 d h
  unfold SeqAt.shaped
  rw [h1, decide_eq_true (by omega)]
  rfl
mutual
theorem deq_py : ∀ (n m : Nat) (a b : D), shal n a = true → shal m b = true → PyData.eqv (toPy a) (toPy b) = deq a b
  | n, m, a, b, ha, hb => by
    cases a <;> cases b <;> first
      | (simp only [toPy, deq, PyData.eqv]; done)
      | (cases n <;> simp [shal] at ha; done)
      | (cases m <;> simp [shal] at hb; done)
      | skip
    all_goals
      rename_i xs ys
      cases n with
      | zero => simp [shal] at ha
      | succ n =>
        cases m with
        | zero => simp [shal] at hb
        | succ m =>
          simp only [toPy, deq, PyData.eqv]
          exact deqL_py n m xs ys (by simpa [shal] using ha) (by simpa [shal] using hb)
theorem deqL_py : ∀ (n m : Nat) (a b : List D), (∀ x ∈ a, shal n x = true) → (∀ x ∈ b, shal m x = true) → PyData.eqvAll (toPyL a) (toPyL b) = deqL a b
  | n, m, [], [], _, _ => rfl
  | n, m, [], _ :: _, _, _ => rfl
  | n, m, _ :: _, [], _, _ => rfl
  | n, m, x :: xs, y :: ys, ha, hb => by
    simp only [toPyL, PyData.eqvAll, deqL]
    rw [deq_py n m x y (ha x (by simp)) (hb y (by simp)), deqL_py n m xs ys (fun z hz => ha z (by simp [hz])) (fun z hz => hb z (by simp [hz]))]
end
mutual
theorem rep_dp {Γ : Gm} {α : List Addr} {G H : Hp} (s : Sub G H) : ∀ (n : Nat) (d : D) (v : V), shal n d = true → Rep Γ α G d v → Dp Γ.K H v (toPy d)
  | n, .non, v, _, r => by simp only [Rep] at r; subst r; exact .non
  | n, .bl b, v, _, r => by simp only [Rep] at r; subst r; exact .bl b
  | n, .int b, v, _, r => by simp only [Rep] at r; subst r; exact .int b
  | n, .str b, v, _, r => by simp only [Rep] at r; subst r; exact .str b
  | n + 1, .tup xs, v, h, r => by
    unfold Rep at r
    obtain ⟨a, vs, rfl, q, r⟩ := r
    exact .tup (s.sqT q) (repL_dp s n xs vs (by simpa [shal] using h) r)
  | n + 1, .lst xs, v, h, r => by
    unfold Rep at r
    obtain ⟨a, vs, rfl, q, r⟩ := r
    exact .lst (.inl (.inl (s _ _ q))) (repL_dp s n xs vs (by simpa [shal] using h) r)
  | 0, .tup xs, v, h, _ => by simp [shal] at h
  | 0, .lst xs, v, h, _ => by simp [shal] at h
  | n, .fro _, v, h, _ => by cases n <;> simp [shal] at h
  | n, .obj _ _, v, h, _ => by cases n <;> simp [shal] at h
  | n, .ref _, v, h, _ => by cases n <;> simp [shal] at h
theorem repL_dp {Γ : Gm} {α : List Addr} {G H : Hp} (s : Sub G H) : ∀ (n : Nat) (ds : List D) (vs : List V), (∀ x ∈ ds, shal n x = true) → RepL Γ α G ds vs → DpAll Γ.K H vs (toPyL ds)
  | n, [], vs, _, r => by unfold RepL at r; subst r; exact .nil
  | n, d :: ds, vs, h, r => by
    unfold RepL at r
    obtain ⟨v, w, rfl, h1, h2⟩ := r
    exact .cons (rep_dp s n d v (h d (by simp)) h1) (repL_dp s n ds w (fun z hz => h z (by simp [hz])) h2)
end
/-- what a name of a cell stands for -/
def deref (S : Store) (d : D) : D := match d with
  | .ref k => match S[k]? with
    | some (.lst xs) => .lst xs
    | some (.frz xs) => .lst xs
    | none => d
  | d => d
theorem deref_dp {Γ : Gm} {α : List Addr} {G H : Hp} {S : Store} (R : Rl Γ α G S H) {d : D} {v : V} (h : shal 20 (deref S d) = true) (r : Rep Γ α G d v) : Dp Γ.K H v (toPy (deref S d)) := by
  cases d with
  | ref k =>
    cases q : lstOf S (.ref k) with
    | none =>
      have : deref S (.ref k) = .ref k := by
        unfold lstOf at q
        unfold deref
        cases hc : S[k]? with
        | none => simp [hc]
        | some c => cases c <;> simp [hc] at q
      rw [this] at h
      simp [shal] at h
    | some xs =>
      have e : deref S (.ref k) = .lst xs := by
        unfold lstOf at q
        unfold deref
        cases hc : S[k]? with
        | none => simp [hc] at q
        | some c => cases c <;> simp [hc] at q <;> subst q <;> simp [hc]
      obtain ⟨a, vs, rfl, q1, r1⟩ := lstOf_at R r q
      rw [e] at h ⊢
      have h' : ∀ x ∈ xs, shal 19 x = true := by simpa [shal] using h
      exact .lst (.inl (.inl q1)) (repL_dp R.sub 19 xs vs h' r1)
  | _ => exact rep_dp R.sub 20 _ v h r
def opEq : D → D → Store → Res D := fun a b S => match a, b with
  | .int i, .int j => .ok (.bl (i == j)) S
  | .str i, .str j => .ok (.bl (i == j)) S
  | .bl i, .bl j => .ok (.bl (i == j)) S
  | a, b => if shal 20 (deref S a) && shal 20 (deref S b) then .ok (.bl (deq (deref S a) (deref S b))) S else .no
def opNe : D → D → Store → Res D := fun a b S => match a, b with
  | .int i, .int j => .ok (.bl (!(i == j))) S
  | .str i, .str j => .ok (.bl (!(i == j))) S
  | .bl i, .bl j => .ok (.bl (!(i == j))) S
  | a, b => if shal 20 (deref S a) && shal 20 (deref S b) then .ok (.bl (!deq (deref S a) (deref S b))) S else .no
theorem eqQ {k : Nat} (hr : Room k X.A) : QR X cl E (compareOp .Eq) opEq := by
  refine ⟨_, OpR.or op_eq (op_eqD hr.units), fun a b S α G H x y Q hR ra rb h => ?_⟩
  have deep : (if shal 20 (deref S a) && shal 20 (deref S b) then Res.ok (.bl (deq (deref S a) (deref S b))) S else .no) = opEq a b S → rEqD X.K x y H Q := fun e => by
    rw [← e] at h
    split at h
    · rename_i hs
      rw [Bool.and_eq_true] at hs
      refine ⟨_, _, deref_dp (Γ := ⟨X.K, cl⟩) hR hs.1 ra, deref_dp (Γ := ⟨X.K, cl⟩) hR hs.2 rb, shal_shaped hs.1, shal_shaped hs.2, ?_⟩
      rw [deq_py 20 20 _ _ hs.1 hs.2]
      exact post_ok h hR (by simp [Rep])
    · exact h.elim
  cases a <;> cases b <;> first
    | exact .inr (deep rfl)
    | skip
  all_goals
    simp only [Rep] at ra rb
    subst ra rb
    refine .inl ⟨rfl, ?_⟩
    simp only [opEq] at h
    first | rw [dec_int] | rw [dec_bl] | rw [dec_str]
    exact post_ok h hR (by simp [Rep])
theorem neQ {k : Nat} (hr : Room k X.A) : QR X cl E (compareOp .NotEq) opNe := by
  refine ⟨_, OpR.or op_ne (op_neD hr.units), fun a b S α G H x y Q hR ra rb h => ?_⟩
  have deep : (if shal 20 (deref S a) && shal 20 (deref S b) then Res.ok (.bl (!deq (deref S a) (deref S b))) S else .no) = opNe a b S → rNeD X.K x y H Q := fun e => by
    rw [← e] at h
    split at h
    · rename_i hs
      rw [Bool.and_eq_true] at hs
      refine ⟨_, _, deref_dp (Γ := ⟨X.K, cl⟩) hR hs.1 ra, deref_dp (Γ := ⟨X.K, cl⟩) hR hs.2 rb, shal_shaped hs.1, shal_shaped hs.2, ?_⟩
      rw [deq_py 20 20 _ _ hs.1 hs.2]
      exact post_ok h hR (by simp [Rep])
    · exact h.elim
  cases a <;> cases b <;> first
    | exact .inr (deep rfl)
    | skip
  all_goals
    simp only [Rep] at ra rb
    subst ra rb
    refine .inl ⟨rfl, ?_⟩
    simp only [opNe] at h
    first | rw [dec_int] | rw [dec_bl] | rw [dec_str]
    exact post_ok h hR (by simp [Rep])
end
end Q
namespace Q
open PySem L2
section
variable {X : Cx} {cl : Nat → Addr} {E : XK} {a b c e : Expr} {ma mb mc m : ME} {mt mu : MT} {pos : Pos}
def truth (S : Store) : D → Option Bool
  | .non => some false
  | .bl b => some b
  | .int i => some (i != 0)
  | .tup xs => some (!xs.isEmpty)
  | .str s => if s.length ≤ 100000 then some ((s.length : Int) != 0) else none
  | .obj _ _ => none
  | d => (rdL S d).map fun xs => !xs.isEmpty
def oRes {β : Type} (o : Option β) (S : Store) : Res β := match o with
  | some b => .ok b S
  | none => .no
@[simp] theorem oRes_some {β : Type} (b : β) (S : Store) : oRes (some b) S = .ok b S := rfl
@[simp] theorem oRes_none {β : Type} (S : Store) : oRes (none : Option β) S = .no := rfl
def mTest (m : ME) : MT := fun ρ S => (m ρ S).bind fun d S1 => oRes (truth S1 d) S1
theorem isEmpty_rep {Γ : Gm} {α : List Addr} {G : Hp} {xs : List D} {vs : List V} (r : RepL Γ α G xs vs) : xs.isEmpty = vs.isEmpty := by
  have := r.length
  cases xs <;> cases vs <;> simp_all
theorem truth_at {Γ : Gm} {α : List Addr} {G H : Hp} {S : Store} (R : Rl Γ α G S H) {d : D} {v : V} {k : Bool} (r : Rep Γ α G d v) (h : truth S d = some k) : TruV Γ.K v H k := by
  have lists : (rdL S d).map (fun xs => !xs.isEmpty) = some k → TruV Γ.K v H k := fun h => by
    cases q : rdL S d with
    | none => simp [q] at h
    | some xs =>
      simp only [q, Option.map_some, Option.some.injEq] at h
      obtain ⟨p, vs, rfl, q1, r1⟩ := rdL_at R r q
      exact .inl ⟨vs, q1, by rw [← isEmpty_rep r1]; exact h.symm⟩
  cases d with
  | non => simp only [Rep] at r; subst r; simp only [truth, Option.some.injEq] at h; exact h.symm
  | bl b => simp only [Rep] at r; subst r; simp only [truth, Option.some.injEq] at h; exact h.symm
  | int i => simp only [Rep] at r; subst r; simp only [truth, Option.some.injEq] at h; exact h.symm
  | str i =>
    simp only [Rep] at r
    subst r
    simp only [truth] at h
    split at h
    · rename_i hs
      exact ⟨sz hs, (Option.some.inj h).symm⟩
    · cases h
  | tup xs =>
    obtain ⟨p, vs, rfl, q1, r1⟩ := tup_at R r
    simp only [truth, Option.some.injEq] at h
    exact .inr (.inl ⟨vs, q1, by rw [← isEmpty_rep r1]; exact h.symm⟩)
  | obj _ _ => simp [truth] at h
  | lst xs => exact lists h
  | fro xs => exact lists h
  | ref k => exact lists h
theorem q_test (h : QE X cl E e m) (he : ∀ whole, isTrue e X.env whole = (do let v ← whole; standAt e.pos; holding [v] (truthy v)) := by intro _; rfl) : QT X cl E e (mTest m) := by
  obtain ⟨t, h1, h2⟩ := h.ex
  refine ⟨_, pt_truth h1 he, fun ρ S σ α G H Q hρ hR hp => h2 ρ S σ α G H _ hρ hR (post_bind hp fun d S1 α1 G1 H1 v _ e1 R1 r1 hp1 => ?_)⟩
  cases q : truth S1 d with
  | none => simp [q, Post] at hp1
  | some k =>
    simp only [q, oRes_some] at hp1
    exact ⟨k, truth_at R1 r1 q, post_ok hp1 R1 rfl⟩
/-- a comparison as a test -/
def mTB (m : ME) : MT := fun ρ S => (m ρ S).bind fun d S1 => match d with
  | .bl b => .ok b S1
  | _ => .no
theorem snd_tb {Γ : Gm} {t : TE} (h : SndE Γ E t m) : SndT Γ E (tTest t) (mTB m) := fun ρ S σ α G H Q hρ hR hp => h ρ S σ α G H _ hρ hR (post_bind hp fun d S1 α1 G1 H1 v _ e1 R1 r1 hp1 => by
    cases d <;> first
      | (simp only [Post] at hp1; done)
      | skip
    simp only [Rep] at r1
    exact ⟨_, r1, post_ok hp1 R1 rfl⟩)
theorem q_tcmp {op : CmpOp} {f : D → D → Store → Res D} (ho : QR X cl E (compareOp op) f) (ha : QE X cl E a ma) (hb : QE X cl E b mb) (hm : behindInMarks op b = false := by first | rfl | exact nomark _) : QT X cl E (.Compare a [op] [b] pos) (mTB (mOp f ma mb)) := by
  obtain ⟨r, h1, h2⟩ := ho.ex
  obtain ⟨ta, a1, a2⟩ := ha.ex
  obtain ⟨tb, b1, b2⟩ := hb.ex
  exact ⟨_, pt_cmpR h1 a1 b1 hm, snd_tb (snd_op h2 a2 b2)⟩
def mNotT (m : MT) : MT := fun ρ S => (m ρ S).bind fun b S1 => .ok (!b) S1
def mAndT (m n : MT) : MT := fun ρ S => (m ρ S).bind fun b S1 => match b with
  | true => n ρ S1
  | false => .ok false S1
def mOrT (m n : MT) : MT := fun ρ S => (m ρ S).bind fun b S1 => match b with
  | true => .ok true S1
  | false => n ρ S1
theorem snd_notT {Γ : Gm} {t : TT} (h : SndT Γ E t mt) : SndT Γ E (tNot t) (mNotT mt) := fun ρ S σ α G H Q hρ hR hp => h ρ S σ α G H _ hρ hR (post_bind hp fun b S1 α1 G1 H1 v _ e1 R1 r1 hp1 => by
  have r1 : b = v := r1
  subst r1
  exact post_ok hp1 R1 rfl)
theorem snd_andT {Γ : Gm} {t u : TT} (h : SndT Γ E t mt) (k : SndT Γ E u mu) : SndT Γ E (tAnd t u) (mAndT mt mu) := fun ρ S σ α G H Q hρ hR hp => h ρ S σ α G H _ hρ hR (post_bind hp fun b S1 α1 G1 H1 v _ e1 R1 r1 hp1 => by
  have r1 : b = v := r1
  subst r1
  cases b with
  | true => exact iteT (k ρ S1 σ α1 G1 H1 Q (hρ.mono e1) R1 hp1)
  | false => exact iteF (post_ok hp1 R1 rfl))
theorem snd_orT {Γ : Gm} {t u : TT} (h : SndT Γ E t mt) (k : SndT Γ E u mu) : SndT Γ E (tOr t u) (mOrT mt mu) := fun ρ S σ α G H Q hρ hR hp => h ρ S σ α G H _ hρ hR (post_bind hp fun b S1 α1 G1 H1 v _ e1 R1 r1 hp1 => by
  have r1 : b = v := r1
  subst r1
  cases b with
  | true => exact iteT (post_ok hp1 R1 rfl)
  | false => exact iteF (k ρ S1 σ α1 G1 H1 Q (hρ.mono e1) R1 hp1))
theorem q_not (h : QT X cl E a mt) : QT X cl E (.UnaryOp .Not a pos) (mNotT mt) := by
  obtain ⟨t, h1, h2⟩ := h.ex
  exact ⟨_, pt_not h1, snd_notT h2⟩
theorem q_w (h : QW X cl E e mt) : QT X cl E e mt := by
  obtain ⟨t, h1, h2⟩ := h.ex
  exact ⟨_, h1.pt, h2⟩
theorem q_and1 (h : QT X cl E a mt) : QW X cl E (.BoolOp .And [a] pos) mt := by
  obtain ⟨t, h1, h2⟩ := h.ex
  exact ⟨_, pw_and1 h1, h2⟩
theorem q_or1 (h : QT X cl E a mt) : QW X cl E (.BoolOp .Or [a] pos) mt := by
  obtain ⟨t, h1, h2⟩ := h.ex
  exact ⟨_, pw_or1 h1, h2⟩
theorem q_and {rest : List Expr} (h : QT X cl E a mt) (k : QW X cl E (.BoolOp .And (b :: rest) pos) mu) : QW X cl E (.BoolOp .And (a :: b :: rest) pos) (mAndT mt mu) := by
  obtain ⟨t, h1, h2⟩ := h.ex
  obtain ⟨u, k1, k2⟩ := k.ex
  exact ⟨_, pw_and h1 k1, snd_andT h2 k2⟩
theorem q_or {rest : List Expr} (h : QT X cl E a mt) (k : QW X cl E (.BoolOp .Or (b :: rest) pos) mu) : QW X cl E (.BoolOp .Or (a :: b :: rest) pos) (mOrT mt mu) := by
  obtain ⟨t, h1, h2⟩ := h.ex
  obtain ⟨u, k1, k2⟩ := k.ex
  exact ⟨_, pw_or h1 k1, snd_orT h2 k2⟩
def mAndV (m n : ME) : ME := fun ρ S => (m ρ S).bind fun d S1 => (oRes (truth S1 d) S1).bind fun b S2 => match b with
  | true => n ρ S2
  | false => .ok d S2
def mOrV (m n : ME) : ME := fun ρ S => (m ρ S).bind fun d S1 => (oRes (truth S1 d) S1).bind fun b S2 => match b with
  | true => .ok d S2
  | false => n ρ S2
def mNotV (m : ME) : ME := fun ρ S => (m ρ S).bind fun d S1 => (oRes (truth S1 d) S1).bind fun b S2 => .ok (.bl (!b)) S2
theorem q_oneV {op : BoolOp} (h : QE X cl E a m) : QE X cl E (.BoolOp op [a] pos) m := by
  obtain ⟨t, h1, h2⟩ := h.ex
  exact ⟨_, pe_one h1, h2⟩
theorem q_andV {rest : List Expr} (h : QE X cl E a ma) (k : QE X cl E (.BoolOp .And (b :: rest) pos) mb) : QE X cl E (.BoolOp .And (a :: b :: rest) pos) (mAndV ma mb) := by
  obtain ⟨t, h1, h2⟩ := h.ex
  obtain ⟨u, k1, k2⟩ := k.ex
  refine ⟨_, pe_andT h1 k1, fun ρ S σ α G H Q hρ hR hp => h2 ρ S σ α G H _ hρ hR (post_bind hp fun d S1 α1 G1 H1 v _ e1 R1 r1 hp1 => ?_)⟩
  cases q : truth S1 d with
  | none => simp [q, Post] at hp1
  | some k =>
    simp only [q, oRes_some, bind_ok] at hp1
    refine ⟨k, truth_at R1 r1 q, ?_⟩
    cases k with
    | true => exact iteT (k2 ρ S1 σ α1 G1 H1 Q (hρ.mono e1) R1 hp1)
    | false => exact iteF (post_ok hp1 R1 r1)
theorem q_orV {rest : List Expr} (h : QE X cl E a ma) (k : QE X cl E (.BoolOp .Or (b :: rest) pos) mb) : QE X cl E (.BoolOp .Or (a :: b :: rest) pos) (mOrV ma mb) := by
  obtain ⟨t, h1, h2⟩ := h.ex
  obtain ⟨u, k1, k2⟩ := k.ex
  refine ⟨_, pe_orT h1 k1, fun ρ S σ α G H Q hρ hR hp => h2 ρ S σ α G H _ hρ hR (post_bind hp fun d S1 α1 G1 H1 v _ e1 R1 r1 hp1 => ?_)⟩
  cases q : truth S1 d with
  | none => simp [q, Post] at hp1
  | some k =>
    simp only [q, oRes_some, bind_ok] at hp1
    refine ⟨k, truth_at R1 r1 q, ?_⟩
    cases k with
    | true => exact iteT (post_ok hp1 R1 r1)
    | false => exact iteF (k2 ρ S1 σ α1 G1 H1 Q (hρ.mono e1) R1 hp1)
theorem q_notV (h : QE X cl E a ma) : QE X cl E (.UnaryOp .Not a pos) (mNotV ma) := by
  obtain ⟨t, h1, h2⟩ := h.ex
  refine ⟨_, pe_notT h1, fun ρ S σ α G H Q hρ hR hp => h2 ρ S σ α G H _ hρ hR (post_bind hp fun d S1 α1 G1 H1 v _ e1 R1 r1 hp1 => ?_)⟩
  cases q : truth S1 d with
  | none => simp [q, Post] at hp1
  | some k =>
    simp only [q, oRes_some, bind_ok] at hp1
    exact ⟨k, truth_at R1 r1 q, post_ok (x := V.bl (!k)) hp1 R1 (by simp [Rep])⟩
def mIfE (t : MT) (m n : ME) : ME := fun ρ S => (t ρ S).bind fun b S1 => match b with
  | true => m ρ S1
  | false => n ρ S1
theorem q_ifE {c : Expr} (hc : QT X cl E c mt) (ha : QE X cl E a ma) (hb : QE X cl E b mb) : QE X cl E (.IfExp c a b pos) (mIfE mt ma mb) := by
  obtain ⟨t, h1, h2⟩ := hc.ex
  obtain ⟨u, k1, k2⟩ := ha.ex
  obtain ⟨w, l1, l2⟩ := hb.ex
  refine ⟨_, pe_ifExp h1 k1 l1, fun ρ S σ α G H Q hρ hR hp => h2 ρ S σ α G H _ hρ hR (post_bind hp fun b S1 α1 G1 H1 v _ e1 R1 r1 hp1 => ?_)⟩
  have r1 : b = v := r1
  subst r1
  cases b with
  | true => exact iteT (k2 ρ S1 σ α1 G1 H1 Q (hρ.mono e1) R1 hp1)
  | false => exact iteF (l2 ρ S1 σ α1 G1 H1 Q (hρ.mono e1) R1 hp1)
def isNon : D → Bool
  | .non => true
  | _ => false
def mIsN (m : ME) : ME := fun ρ S => (m ρ S).bind fun d S1 => .ok (.bl (isNon d)) S1
def mNotN (m : ME) : ME := fun ρ S => (m ρ S).bind fun d S1 => .ok (.bl (!isNon d)) S1
theorem isNon_at {Γ : Gm} {α : List Addr} {G : Hp} {d : D} {v : V} (r : Rep Γ α G d v) : decide (v = .non) = isNon d := by
  cases d <;> (unfold Rep at r; first
    | (subst r; simp [isNon]; done)
    | (obtain ⟨a, vs, rfl, _⟩ := r; simp [isNon]; done)
    | (obtain ⟨a, rfl, _⟩ := r; simp [isNon]; done))
theorem snd_isN {Γ : Gm} {t : TE} (h : SndE Γ E t m) : SndE Γ E (tIsN t) (mIsN m) := fun ρ S σ α G H Q hρ hR hp => h ρ S σ α G H _ hρ hR (post_bind hp fun d S1 α1 G1 H1 v _ e1 R1 r1 hp1 => by
  rw [isNon_at r1]
  exact post_ok hp1 R1 (by simp [Rep]))
theorem snd_notN {Γ : Gm} {t : TE} (h : SndE Γ E t m) : SndE Γ E (tNotN t) (mNotN m) := fun ρ S σ α G H Q hρ hR hp => h ρ S σ α G H _ hρ hR (post_bind hp fun d S1 α1 G1 H1 v _ e1 R1 r1 hp1 => by
  rw [isNon_at r1]
  exact post_ok hp1 R1 (by simp [Rep]))
theorem q_isN {j pos'} (h : QE X cl E a m) : QE X cl E (.Compare a [.Is] [.Constant .none j pos'] pos) (mIsN m) := by
  obtain ⟨t, h1, h2⟩ := h.ex
  exact ⟨_, pe_cmp (pc_isN h1), snd_isN h2⟩
theorem q_notN {j pos'} (h : QE X cl E a m) : QE X cl E (.Compare a [.IsNot] [.Constant .none j pos'] pos) (mNotN m) := by
  obtain ⟨t, h1, h2⟩ := h.ex
  exact ⟨_, pe_cmp (pc_notN h1), snd_notN h2⟩
theorem snd_tB {Γ : Gm} {t : TE} (h : SndE Γ E t m) : SndT Γ E (tB t) (mTB m) := snd_tb h
theorem q_tisN {j pos'} (h : QE X cl E a m) : QT X cl E (.Compare a [.Is] [.Constant .none j pos'] pos) (mTB (mIsN m)) := by
  obtain ⟨t, h1, h2⟩ := h.ex
  exact ⟨_, pt_cmp (pc_isN h1), snd_tB (snd_isN h2)⟩
theorem q_tnotN {j pos'} (h : QE X cl E a m) : QT X cl E (.Compare a [.IsNot] [.Constant .none j pos'] pos) (mTB (mNotN m)) := by
  obtain ⟨t, h1, h2⟩ := h.ex
  exact ⟨_, pt_cmp (pc_notN h1), snd_tB (snd_notN h2)⟩
def mNil : MA := fun _ S => .ok [] S
def mCons (m : ME) (n : MA) : MA := fun ρ S => (m ρ S).bind fun d S1 => (n ρ S1).bind fun ds S2 => .ok (d :: ds) S2
theorem snd_nil {Γ : Gm} : SndA Γ E tNil mNil := fun ρ S σ α G H Q hρ hR hp => post_ok (x := ([] : List V)) hp hR (by simp [RepL])
theorem snd_cons {Γ : Gm} {t : TE} {u : TA} {n : MA} (h : SndE Γ E t m) (k : SndA Γ E u n) : SndA Γ E (tCons t u) (mCons m n) := fun ρ S σ α G H Q hρ hR hp =>
  h ρ S σ α G H _ hρ hR (post_bind hp fun d S1 α1 G1 H1 v _ e1 R1 r1 hp1 => k ρ S1 σ α1 G1 H1 _ (hρ.mono e1) R1 (post_bind hp1 fun ds S2 α2 G2 H2 vs _ e2 R2 r2 hp2 =>
    post_ok hp2 R2 (by show RepL _ _ _ (d :: ds) (v :: vs); unfold RepL; exact ⟨v, vs, rfl, Rep.mono e2.pre e2.sub _ _ r1, r2⟩)))
theorem q_nil : QA X cl E [] mNil := ⟨_, pa_nil, snd_nil⟩
theorem q_cons {es : List Expr} {n : MA} (h : QE X cl E e m) (k : QA X cl E es n) (hs : starEach (e :: es) X.env = (false, eval e X.env) :: starEach es X.env := by rfl) : QA X cl E (e :: es) (mCons m n) := by
  obtain ⟨t, h1, h2⟩ := h.ex
  obtain ⟨u, k1, k2⟩ := k.ex
  exact ⟨_, pa_cons h1 k1 hs, snd_cons h2 k2⟩
def mTup (n : MA) : ME := fun ρ S => (n ρ S).bind fun ds S1 => if ds.length ≤ 100000 then .ok (.tup ds) S1 else .no
def mLst (n : MA) : ME := fun ρ S => (n ρ S).bind fun ds S1 => if ds.length ≤ 100000 then .ok (.lst ds) S1 else .no
/-- a new cell -/
def mCell (n : MA) : ME := fun ρ S => (n ρ S).bind fun ds S1 => if ds.length ≤ 100000 then .ok (.ref S1.length) (S1 ++ [.lst ds]) else .no
theorem q_tup {es : List Expr} {n : MA} {x1} (h : QA X cl E es n) : QE X cl E (.Tuple es x1 pos) (mTup n) := by
  obtain ⟨t, h1, h2⟩ := h.ex
  refine ⟨_, pe_tup h1, fun ρ S σ α G H Q hρ hR hp => h2 ρ S σ α G H _ hρ hR (post_bind hp fun ds S1 α1 G1 H1 vs _ e1 R1 r1 hp1 => ?_)⟩
  split at hp1
  · rename_i hs
    exact ⟨by rw [← r1.length]; exact sz hs, fun p hz => post_tup R1 r1 hp1 hz⟩
  · exact hp1.elim
theorem q_lst {es : List Expr} {n : MA} (h : QA X cl E es n) : QE X cl E (.List es pos) (mLst n) := by
  obtain ⟨t, h1, h2⟩ := h.ex
  refine ⟨_, pe_lst h1, fun ρ S σ α G H Q hρ hR hp => h2 ρ S σ α G H _ hρ hR (post_bind hp fun ds S1 α1 G1 H1 vs _ e1 R1 r1 hp1 => ?_)⟩
  split at hp1
  · rename_i hs
    exact ⟨by rw [← r1.length]; exact sz hs, fun p hz => post_lst R1 r1 hp1 hz⟩
  · exact hp1.elim
theorem q_cell {es : List Expr} {n : MA} (h : QA X cl E es n) : QE X cl E (.List es pos) (mCell n) := by
  obtain ⟨t, h1, h2⟩ := h.ex
  refine ⟨_, pe_lst h1, fun ρ S σ α G H Q hρ hR hp => h2 ρ S σ α G H _ hρ hR (post_bind hp fun ds S1 α1 G1 H1 vs _ e1 R1 r1 hp1 => ?_)⟩
  split at hp1
  · rename_i hs
    exact ⟨by rw [← r1.length]; exact sz hs, fun p hz => post_cell R1 r1 hp1 hz⟩
  · exact hp1.elim
def fz (d : D) (S : Store) : Res D := match d with
  | .ref k => match S[k]? with
    | some (.lst xs) => .ok (.lst xs) (S.set k (.frz xs))
    | some (.frz xs) => .ok (.lst xs) S
    | none => .no
  | d => .ok d S
def mFrz (m : ME) : ME := fun ρ S => (m ρ S).bind fz
theorem fz_at {Γ : Gm} {α : List Addr} {G H : Hp} {S : Store} {d : D} {v : V} {Q : VK} (R : Rl Γ α G S H) (r : Rep Γ α G d v) (hp : Post Γ (Rep Γ) α G H (fz d S) Q E) : Q v H := by
  cases d with
  | ref k =>
    simp only [fz] at hp
    unfold Rep at r
    obtain ⟨a, rfl, ha⟩ := r
    cases hc : S[k]? with
    | none => simp [hc, Post] at hp
    | some c =>
      cases c with
      | lst xs =>
        simp only [hc] at hp
        obtain ⟨vs, r1, R1, e1⟩ := R.freeze hc ha
        exact hp _ _ _ _ e1 R1 (rep_lst upd_same (RepL.mono e1.pre e1.sub _ _ r1))
      | frz xs =>
        simp only [hc] at hp
        obtain ⟨vs, h1, h2⟩ := R.ok k _ a hc ha
        exact post_ok hp R (rep_lst h1 h2)
  | _ => exact post_ok hp R r
theorem snd_frz {Γ : Gm} {t : TE} (h : SndE Γ E t m) : SndE Γ E t (mFrz m) := fun ρ S σ α G H Q hρ hR hp => h ρ S σ α G H _ hρ hR (post_bind hp fun d S1 α1 G1 H1 v _ e1 R1 r1 hp1 => fz_at R1 r1 hp1)
theorem q_frz (h : QE X cl E e m) : QE X cl E e (mFrz m) := by
  obtain ⟨t, h1, h2⟩ := h.ex
  exact ⟨t, h1, snd_frz h2⟩
def opIx : D → D → Store → Res D := fun a b S => match b with
  | .int i => match a with
    | .tup xs => oRes (atI xs i) S
    | .str s => if s.length ≤ 100000 then match atI s.cps.toList i with
        | some c => .ok (.str ⟨#[c]⟩) S
        | none => .no
      else .no
    | a => match rdL S a with
      | some xs => oRes (atI xs i) S
      | none => .no
  | _ => .no
theorem atI_rep {Γ : Gm} {α : List Addr} {G : Hp} {xs : List D} {vs : List V} {i : Int} {d : D} (r : RepL Γ α G xs vs) (h : atI xs i = some d) : ∃ v, atI vs i = some v ∧ Rep Γ α G d v := by
  unfold atI at h ⊢
  rw [r.length] at h
  cases q : ixN vs.length i with
  | none => simp [q] at h
  | some j =>
    simp only [q, Option.bind_some] at h ⊢
    exact r.get h
structure QIx (X : Cx) (cl : Nat → Addr) (E : XK) (f : D → D → Store → Res D) : Prop where
  ex : ∃ r, IxR X r ∧ SndR ⟨X.K, cl⟩ E r f
theorem ixQ : QIx X cl E opIx := by
  refine ⟨_, ix_seq, fun a b S α G H x y Q hR ra rb h => ?_⟩
  cases b <;> try exact h.elim
  rename_i i
  simp only [opIx] at h
  simp only [Rep] at rb
  have lists : ∀ o, rdL S a = o → Post ⟨X.K, cl⟩ (Rep ⟨X.K, cl⟩) α G H (match o with
      | some xs => oRes (atI xs i) S
      | none => .no) Q E → rIx X.K x y H Q := fun o q h => by
    cases o with
    | none => exact h.elim
    | some xs =>
      obtain ⟨p, vs, rfl, q1, r1⟩ := rdL_at hR ra q
      cases z : atI xs i with
      | none => simp [z, Post] at h
      | some d =>
        simp only [z, oRes_some] at h
        obtain ⟨v, e, rv⟩ := atI_rep r1 z
        exact .inl ⟨p, vs, i, v, rfl, rb, q1, e, post_ok h hR rv⟩
  cases a with
  | tup xs =>
    obtain ⟨p, vs, rfl, q1, r1⟩ := tup_at hR ra
    simp only at h
    cases z : atI xs i with
    | none => simp [z, Post] at h
    | some d =>
      simp only [z, oRes_some] at h
      obtain ⟨v, e, rv⟩ := atI_rep r1 z
      exact .inr (.inl ⟨p, vs, i, v, rfl, rb, q1, e, post_ok h hR rv⟩)
  | str s =>
    simp only at h
    simp only [Rep] at ra
    split at h
    · rename_i hs
      cases z : atI s.cps.toList i with
      | none => simp [z, Post] at h
      | some c =>
        simp only [z] at h
        exact .inr (.inr ⟨s, i, c, ra, rb, sz hs, z, post_ok h hR (by simp [Rep])⟩)
    · exact h.elim
  | _ => exact lists _ rfl h
theorem q_ix (ha : QE X cl E a ma) (hb : QE X cl E b mb) (hs : PlainIx b := by exact fun _ _ => rfl) : QE X cl E (.Subscript a b pos) (mOp opIx ma mb) := by
  obtain ⟨r, h1, h2⟩ := (ixQ (X := X) (cl := cl) (E := E)).ex
  obtain ⟨ta, a1, a2⟩ := ha.ex
  obtain ⟨tb, b1, b2⟩ := hb.ex
  exact ⟨_, pe_ix h1 a1 b1 hs, snd_op h2 a2 b2⟩
abbrev MO := Env → Store → Res (Option Int)
def RO : List Addr → Hp → Option Int → Option Int → Prop := fun _ _ a b => a = b
def SndO (Γ : Gm) (E : XK) (t : TO) (m : MO) : Prop := ∀ (ρ : Env) (S : Store) (σ : L2.St) (α : List Addr) (G H : Hp) (Q : Option Int → Hp → Prop), EnvR Γ α G ρ σ → Rl Γ α G S H → Post Γ RO α G H (m ρ S) Q E → t σ H Q
structure QO (X : Cx) (cl : Nat → Addr) (E : XK) (e : Option Expr) (m : MO) : Prop where
  ex : ∃ t, PO X e t ∧ SndO ⟨X.K, cl⟩ E t m
def mNoO : MO := fun _ S => .ok none S
def mSoO (m : ME) : MO := fun ρ S => (m ρ S).bind fun d S1 => match d with
  | .int i => .ok (some i) S1
  | _ => .no
theorem q_noO : QO X cl E none mNoO := ⟨_, po_none, fun ρ S σ α G H Q hρ hR hp => post_ok hp hR rfl⟩
theorem q_soO (h : QE X cl E e m) : QO X cl E (some e) (mSoO m) := by
  obtain ⟨t, h1, h2⟩ := h.ex
  refine ⟨_, po_some h1, fun ρ S σ α G H Q hρ hR hp => h2 ρ S σ α G H _ hρ hR (post_bind hp fun d S1 α1 G1 H1 v _ e1 R1 r1 hp1 => ?_)⟩
  cases d <;> try exact hp1.elim
  simp only [Rep] at r1
  exact ⟨_, r1, post_ok hp1 R1 rfl⟩
def cutD (xs : List D) (lo hi : Option Int) : List D := (xs.drop (HT.sIx xs.length 0 lo)).take (HT.sIx xs.length xs.length hi - HT.sIx xs.length 0 lo)
theorem cut_rep {Γ : Gm} {α : List Addr} {G : Hp} {xs : List D} {vs : List V} (r : RepL Γ α G xs vs) (lo hi : Option Int) : RepL Γ α G (cutD xs lo hi) (cutV vs lo hi) := by
  unfold cutD cutV
  rw [r.length]
  exact (r.drop _).take _
def opSl : D → Option Int → Option Int → Store → Res D := fun a lo hi S => match a with
  | .tup xs => .ok (.tup (cutD xs lo hi)) S
  | .str s => if s.length ≤ 100000 then .ok (.str (cutS s lo hi)) S else .no
  | a => match rdL S a with
    | some xs => .ok (.lst (cutD xs lo hi)) S
    | none => .no
def mSl (m : ME) (l h : MO) : ME := fun ρ S => (m ρ S).bind fun d S1 => (l ρ S1).bind fun lo S2 => (h ρ S2).bind fun hi S3 => opSl d lo hi S3
theorem cutD_whole {xs : List D} {lo hi : Option Int} (h : HT.sIx xs.length 0 lo = 0 ∧ HT.sIx xs.length xs.length hi = xs.length) : cutD xs lo hi = xs := by
  unfold cutD
  rw [h.1, h.2]
  simp
theorem snd_sl {Γ : Gm} : ∀ (d : D) (lo hi : Option Int) (S : Store) (α : List Addr) (G H : Hp) (x : V) (Q : VK), Rl Γ α G S H → Rep Γ α G d x → Post Γ (Rep Γ) α G H (opSl d lo hi S) Q E → (rSlL Γ.K x lo hi H Q ∨ rSlA Γ.K x lo hi H Q ∨ rSlS x lo hi H Q) := by
  intro d lo hi S α G H x Q hR ra h
  have lists : ∀ o, rdL S d = o → Post Γ (Rep Γ) α G H (match o with
      | some xs => Res.ok (.lst (cutD xs lo hi)) S
      | none => .no) Q E → rSlL Γ.K x lo hi H Q := fun o q h => by
    cases o with
    | none => exact h.elim
    | some xs =>
      obtain ⟨p, vs, rfl, q1, r1⟩ := rdL_at hR ra q
      exact ⟨p, vs, rfl, q1, fun z hz => post_lst hR (cut_rep r1 lo hi) h hz⟩
  cases d with
  | tup xs =>
    obtain ⟨p, vs, rfl, q1, r1⟩ := tup_at hR ra
    simp only [opSl] at h
    refine .inr (.inl ⟨p, vs, rfl, q1, fun w => ?_, fun _ z hz => post_tup hR (cut_rep r1 lo hi) h hz⟩)
    rw [← r1.length] at w
    rw [cutD_whole w] at h
    exact post_ok h hR ra
  | str s =>
    simp only [opSl] at h
    simp only [Rep] at ra
    split at h
    · rename_i hs
      exact .inr (.inr ⟨s, ra, sz hs, post_ok h hR (by simp [Rep])⟩)
    · exact h.elim
  | _ => exact .inl (lists _ rfl h)
theorem q_sl {lo hi : Option Expr} {l h : MO} {p2 : Pos} (ha : QE X cl E a ma) (hl : QO X cl E lo l) (hh : QO X cl E hi h) : QE X cl E (.Subscript a (.Slice lo hi none p2) pos) (mSl ma l h) := by
  obtain ⟨t, h1, h2⟩ := ha.ex
  obtain ⟨u, k1, k2⟩ := hl.ex
  obtain ⟨w, l1, l2⟩ := hh.ex
  refine ⟨_, pe_slice (sl_list.or (sl_tupA.or sl_str)) h1 k1 l1, fun ρ S σ α G H Q hρ hR hp => h2 ρ S σ α G H _ hρ hR (post_bind hp fun d S1 α1 G1 H1 v _ e1 R1 r1 hp1 => ?_)⟩
  refine k2 ρ S1 σ α1 G1 H1 _ (hρ.mono e1) R1 (post_bind hp1 fun o S2 α2 G2 H2 o' _ e2 R2 r2 hp2 => ?_)
  refine l2 ρ S2 σ α2 G2 H2 _ ((hρ.mono e1).mono e2) R2 (post_bind hp2 fun i S3 α3 G3 H3 i' _ e3 R3 r3 hp3 => ?_)
  have r2 : o = o' := r2
  have r3 : i = i' := r3
  subst r2 r3
  exact snd_sl d o i S3 α3 G3 H3 v Q R3 (Rep.mono e3.pre e3.sub _ _ (Rep.mono e2.pre e2.sub _ _ r1)) hp3
/-- -a -/
def mNeg (m : ME) : ME := fun ρ S => (m ρ S).bind fun d S1 => match d with
  | .int i => .ok (.int (-i)) S1
  | _ => .no
theorem q_neg (h : QE X cl E a m) : QE X cl E (.UnaryOp .USub a pos) (mNeg m) := by
  obtain ⟨t, h1, h2⟩ := h.ex
  refine ⟨_, pe_un un_neg h1, fun ρ S σ α G H Q hρ hR hp => h2 ρ S σ α G H _ hρ hR (post_bind hp fun d S1 α1 G1 H1 v _ e1 R1 r1 hp1 => ?_)⟩
  cases d <;> try exact hp1.elim
  simp only [Rep] at r1
  exact ⟨_, r1, post_ok hp1 R1 (by simp [Rep])⟩
end
end Q
namespace Q
open PySem L2
section
variable {X : Cx} {cl : Nat → Addr} {E : XK} {a b c e : Expr} {ma mb mc m : ME} {mt mu : MT} {pos : Pos}
def SndC (Γ : Gm) (E : XK) (r : List V → Hp → VK → Prop) (f : List D → Store → Res D) : Prop := ∀ (ds : List D) (S : Store) (α : List Addr) (G H : Hp) (vs : List V) (Q : VK), Rl Γ α G S H → RepL Γ α G ds vs → Post Γ (Rep Γ) α G H (f ds S) Q E → r vs H Q
structure QC (X : Cx) (cl : Nat → Addr) (E : XK) (v : Value) (f : List D → Store → Res D) : Prop where
  ex : ∃ r, CallR X v r ∧ SndC ⟨X.K, cl⟩ E r f
def mCall (f : List D → Store → Res D) (n : MA) : ME := fun ρ S => (n ρ S).bind f
theorem snd_cb {Γ : Gm} {r : List V → Hp → VK → Prop} {f : List D → Store → Res D} {n : MA} {t : TA} (hr : SndC Γ E r f) (h : SndA Γ E t n) : SndE Γ E (tCB r t) (mCall f n) := fun ρ S σ α G H Q hρ hR hp =>
  h ρ S σ α G H _ hρ hR (post_bind hp fun ds S1 α1 G1 H1 vs _ e1 R1 r1 hp1 => hr ds S1 α1 G1 H1 vs Q R1 r1 hp1)
theorem q_callB {x : Str} {p : Pos} {id : String} {es : List Expr} {n : MA} {f : List D → Store → Res D} (hc : QC X cl E (.builtin id) f) (hg : Gl X x) (hm : X.mg x = none) (hv : bootBuiltins x = some (.builtin id)) (ha : QA X cl E (e :: es) n) (hn : x ≠ "__name__" := by decide) (hdb : (x == ("__debug__" : Str)) = false := by decide)
    (he : starEach (e :: es) X.env = (false, eval e X.env) :: starEach es X.env := by rfl) (hpl : (backTo pos (starEach es X.env)).any (·.1) = false := by rfl) : QE X cl E (.Call (.Name x p) (e :: es) [] pos) (mCall f n) := by
  obtain ⟨r, h1, h2⟩ := hc.ex
  obtain ⟨t, k1, k2⟩ := ha.ex
  exact ⟨_, pe_callB h1 hg hm hv k1 hn hdb he hpl, snd_cb h2 k2⟩
theorem q_callTy {x : Str} {p : Pos} {T : String} {es : List Expr} {n : MA} {f : List D → Store → Res D} (hc : QC X cl E (.type T) f) (hg : Gl X x) (hm : X.mg x = none) (hv : bootBuiltins x = some (.type T)) (ha : QA X cl E (e :: es) n) (hn : x ≠ "__name__" := by decide) (hdb : (x == ("__debug__" : Str)) = false := by decide)
    (he : starEach (e :: es) X.env = (false, eval e X.env) :: starEach es X.env := by rfl) (hpl : (backTo pos (starEach es X.env)).any (·.1) = false := by rfl) : QE X cl E (.Call (.Name x p) (e :: es) [] pos) (mCall f n) := by
  obtain ⟨r, h1, h2⟩ := hc.ex
  obtain ⟨t, k1, k2⟩ := ha.ex
  exact ⟨_, pe_callTy h1 hg hm hv k1 hn hdb he hpl, snd_cb h2 k2⟩
theorem repL1 {Γ : Gm} {α : List Addr} {G : Hp} {d : D} {vs : List V} (r : RepL Γ α G [d] vs) : ∃ v, vs = [v] ∧ Rep Γ α G d v := by
  unfold RepL at r
  obtain ⟨v, w, rfl, h1, h2⟩ := r
  unfold RepL at h2
  subst h2
  exact ⟨v, rfl, h1⟩
theorem repL2 {Γ : Gm} {α : List Addr} {G : Hp} {d d' : D} {vs : List V} (r : RepL Γ α G [d, d'] vs) : ∃ v v', vs = [v, v'] ∧ Rep Γ α G d v ∧ Rep Γ α G d' v' := by
  unfold RepL at r
  obtain ⟨v, w, rfl, h1, h2⟩ := r
  obtain ⟨v', rfl, h3⟩ := repL1 h2
  exact ⟨v, v', rfl, h1, h3⟩
def un1 (g : D → Store → Res D) : List D → Store → Res D
  | [d], S => g d S
  | _, _ => .no
def un2 (g : D → D → Store → Res D) : List D → Store → Res D
  | [d, d'], S => g d d' S
  | _, _ => .no
theorem snd_un1 {Γ : Gm} {r : List V → Hp → VK → Prop} {g : D → Store → Res D} (h : ∀ d S α G H v Q, Rl Γ α G S H → Rep Γ α G d v → Post Γ (Rep Γ) α G H (g d S) Q E → r [v] H Q) : SndC Γ E r (un1 g) := fun ds S α G H vs Q hR rv hp => by
  cases ds with
  | nil => exact hp.elim
  | cons d ds =>
    cases ds with
    | nil =>
      obtain ⟨v, rfl, rv'⟩ := repL1 rv
      exact h d S α G H v Q hR rv' hp
    | cons _ _ => exact hp.elim
theorem snd_un2 {Γ : Gm} {r : List V → Hp → VK → Prop} {g : D → D → Store → Res D} (h : ∀ d d' S α G H v v' Q, Rl Γ α G S H → Rep Γ α G d v → Rep Γ α G d' v' → Post Γ (Rep Γ) α G H (g d d' S) Q E → r [v, v'] H Q) : SndC Γ E r (un2 g) := fun ds S α G H vs Q hR rv hp => by
  cases ds with
  | nil => exact hp.elim
  | cons d ds =>
    cases ds with
    | nil => exact hp.elim
    | cons d' ds =>
      cases ds with
      | cons _ _ => exact hp.elim
      | nil =>
        obtain ⟨v, v', rfl, r1, r2⟩ := repL2 rv
        exact h d d' S α G H v v' Q hR r1 r2 hp
/-- the items of a list or a tuple -/
def seqOf (S : Store) : D → Option (List D)
  | .tup xs => some xs
  | d => rdL S d
theorem seqOf_at {Γ : Gm} {α : List Addr} {G H : Hp} {S : Store} (R : Rl Γ α G S H) {d : D} {v : V} {xs : List D} (r : Rep Γ α G d v) (h : seqOf S d = some xs) : ∃ a vs, v = .ref a ∧ (SqL Γ.K H a vs ∨ SqT Γ.K H a vs) ∧ RepL Γ α G xs vs := by
  have go : rdL S d = some xs → ∃ a vs, v = .ref a ∧ (SqL Γ.K H a vs ∨ SqT Γ.K H a vs) ∧ RepL Γ α G xs vs := fun h => by
    obtain ⟨a, vs, e, q, r⟩ := rdL_at R r h
    exact ⟨a, vs, e, .inl q, r⟩
  cases d with
  | tup ys =>
    have e : ys = xs := Option.some.inj h
    subst e
    obtain ⟨a, vs, e, q, r⟩ := tup_at R r
    exact ⟨a, vs, e, .inr q, r⟩
  | _ => exact go h
def gLen : D → Store → Res D := fun d S => match d with
  | .str s => if s.length ≤ 100000 then .ok (.int s.length) S else .no
  | d => match seqOf S d with
    | some xs => .ok (.int xs.length) S
    | none => .no
def fLen := un1 gLen
theorem lenQ : QC X cl E (.builtin "len") fLen := by
  refine ⟨_, call_len, snd_un1 fun d S α G H v Q hR rv h => ?_⟩
  have seqs : ∀ o, seqOf S d = o → Post ⟨X.K, cl⟩ (Rep ⟨X.K, cl⟩) α G H (match o with
      | some xs => Res.ok (.int xs.length) S
      | none => .no) Q E → ∃ x n, [v] = [x] ∧ LenV X.K x H n ∧ Q (.int n) H := fun o q h => by
    cases o with
    | none => exact h.elim
    | some xs =>
      obtain ⟨p, ws, rfl, q1, r1⟩ := seqOf_at hR rv q
      refine ⟨.ref p, xs.length, rfl, ?_, post_ok h hR (by simp [Rep])⟩
      rcases q1 with q1 | q1
      · exact .inl ⟨ws, q1, r1.length⟩
      · exact .inr ⟨ws, q1, r1.length⟩
  cases d with
  | str s =>
    simp only [gLen] at h
    simp only [Rep] at rv
    split at h
    · rename_i hs
      exact ⟨v, s.length, rfl, by subst rv; exact ⟨sz hs, rfl⟩, post_ok h hR (by simp [Rep])⟩
    · exact h.elim
  | _ => exact seqs _ rfl h
def gAbs : D → Store → Res D := fun d S => match d with
  | .int i => .ok (.int (if i < 0 then -i else i)) S
  | _ => .no
def fAbs := un1 gAbs
theorem absQ : QC X cl E (.builtin "abs") fAbs := by
  refine ⟨_, call_abs, snd_un1 fun d S α G H v Q hR rv h => ?_⟩
  cases d <;> try exact h.elim
  rename_i i
  simp only [Rep] at rv
  subst rv
  exact ⟨i, rfl, post_ok (x := V.int (if i < 0 then -i else i)) h hR (by simp [Rep])⟩
def gInt : D → Store → Res D := fun d S => match d with
  | .int i => .ok (.int i) S
  | .bl b => .ok (.int (if b then 1 else 0)) S
  | _ => .no
def fInt := un1 gInt
theorem intQ : QC X cl E (.type "int") fInt := by
  refine ⟨_, call_int1, snd_un1 fun d S α G H v Q hR rv h => ?_⟩
  cases d <;> try exact h.elim
  · rename_i b
    simp only [Rep] at rv
    subst rv
    exact .inr ⟨b, rfl, post_ok (x := V.int (if b then 1 else 0)) h hR (by simp [Rep])⟩
  · rename_i i
    simp only [Rep] at rv
    subst rv
    exact .inl ⟨i, rfl, post_ok (x := V.int i) h hR (by simp [Rep])⟩
def gList : D → Store → Res D := fun d S => match seqOf S d with
  | some xs => .ok (.lst xs) S
  | none => .no
def gListC : D → Store → Res D := fun d S => match seqOf S d with
  | some xs => .ok (.ref S.length) (S ++ [.lst xs])
  | none => .no
def fList := un1 gList
def fListC := un1 gListC
theorem listQ : QC X cl E (.type "list") fList := by
  refine ⟨_, call_list_of, snd_un1 fun d S α G H v Q hR rv h => ?_⟩
  simp only [gList] at h
  cases q : seqOf S d with
  | none => simp [q, Post] at h
  | some xs =>
    simp only [q] at h
    obtain ⟨p, ws, rfl, q1, r1⟩ := seqOf_at hR rv q
    exact ⟨p, ws, rfl, q1, fun z hz => post_lst hR r1 h hz⟩
theorem listCQ : QC X cl E (.type "list") fListC := by
  refine ⟨_, call_list_of, snd_un1 fun d S α G H v Q hR rv h => ?_⟩
  simp only [gListC] at h
  cases q : seqOf S d with
  | none => simp [q, Post] at h
  | some xs =>
    simp only [q] at h
    obtain ⟨p, ws, rfl, q1, r1⟩ := seqOf_at hR rv q
    exact ⟨p, ws, rfl, q1, fun z hz => post_cell hR r1 h hz⟩
def gTuple : D → Store → Res D := fun d S => match d with
  | .tup xs => .ok (.tup xs) S
  | d => match rdL S d with
    | some xs => .ok (.tup xs) S
    | none => .no
def fTuple := un1 gTuple
theorem tupleQ : QC X cl E (.type "tuple") fTuple := by
  refine ⟨_, call_tuple_of, snd_un1 fun d S α G H v Q hR rv h => ?_⟩
  have lists : ∀ o, rdL S d = o → Post ⟨X.K, cl⟩ (Rep ⟨X.K, cl⟩) α G H (match o with
      | some xs => Res.ok (.tup xs) S
      | none => .no) Q E → ∃ p ys, [v] = [.ref p] ∧ ((SqL X.K H p ys ∧ ∀ l, H l = none → Q (.ref l) (upd H l (.tup ys))) ∨ (SqT X.K H p ys ∧ Q (.ref p) H)) := fun o q h => by
    cases o with
    | none => exact h.elim
    | some xs =>
      obtain ⟨p, ws, rfl, q1, r1⟩ := rdL_at hR rv q
      exact ⟨p, ws, rfl, .inl ⟨q1, fun z hz => post_tup hR r1 h hz⟩⟩
  cases d with
  | tup xs =>
    obtain ⟨p, ws, rfl, q1, r1⟩ := tup_at hR rv
    exact ⟨p, ws, rfl, .inr ⟨q1, post_ok h hR rv⟩⟩
  | _ => exact lists _ rfl h
/-- the truths of a list of True and False -/
def boolsD : List D → Option (List Bool)
  | [] => some []
  | .bl b :: ds => (boolsD ds).map (b :: ·)
  | _ => none
def intsD : List D → Option (List Int)
  | [] => some []
  | .int b :: ds => (intsD ds).map (b :: ·)
  | _ => none
theorem bools_rep {Γ : Gm} {α : List Addr} {G : Hp} : ∀ {ds : List D} {vs : List V} {bs : List Bool}, RepL Γ α G ds vs → boolsD ds = some bs → vs = bs.map V.bl
  | [], vs, bs, r, h => by
    unfold RepL at r
    simp only [boolsD, Option.some.injEq] at h
    subst r h
    rfl
  | d :: ds, vs, bs, r, h => by
    unfold RepL at r
    obtain ⟨v, w, rfl, h1, h2⟩ := r
    cases d <;> simp only [boolsD, reduceCtorEq] at h
    rename_i b
    simp only [Rep] at h1
    subst h1
    cases q : boolsD ds with
    | none => simp [q] at h
    | some cs =>
      simp only [q, Option.map_some, Option.some.injEq] at h
      subst h
      rw [bools_rep h2 q]
      rfl
theorem ints_rep {Γ : Gm} {α : List Addr} {G : Hp} : ∀ {ds : List D} {vs : List V} {bs : List Int}, RepL Γ α G ds vs → intsD ds = some bs → vs = bs.map V.int
  | [], vs, bs, r, h => by
    unfold RepL at r
    simp only [intsD, Option.some.injEq] at h
    subst r h
    rfl
  | d :: ds, vs, bs, r, h => by
    unfold RepL at r
    obtain ⟨v, w, rfl, h1, h2⟩ := r
    cases d <;> simp only [intsD, reduceCtorEq] at h
    rename_i b
    simp only [Rep] at h1
    subst h1
    cases q : intsD ds with
    | none => simp [q] at h
    | some cs =>
      simp only [q, Option.map_some, Option.some.injEq] at h
      subst h
      rw [ints_rep h2 q]
      rfl
def onBools (g : List Bool → D) := un1 fun d S => match (rdL S d).bind boolsD with
  | some bs => .ok (g bs) S
  | none => .no
def onInts (c : List Int → Bool) (g : List Int → D) := un1 fun d S => match (rdL S d).bind intsD with
  | some bs => if c bs then .ok (g bs) S else .no
  | none => .no
def fAll := onBools fun bs => .bl (bs.all id)
def fAny := onBools fun bs => .bl (bs.any id)
def fSum := onInts (fun _ => true) fun ns => .int ns.sum
def maxI : List Int → Int
  | [] => 0
  | [x] => x
  | x :: xs => if maxI xs > x then maxI xs else x
def minI : List Int → Int
  | [] => 0
  | [x] => x
  | x :: xs => if minI xs < x then minI xs else x
theorem maxI_ge : ∀ {ns : List Int} {y : Int}, y ∈ ns → y ≤ maxI ns
  | [x], y, h => by simp at h; subst h; simp [maxI]
  | x :: x' :: xs, y, h => by
    have ih : ∀ z ∈ x' :: xs, z ≤ maxI (x' :: xs) := fun z hz => maxI_ge hz
    rcases List.mem_cons.mp h with rfl | h
    · show y ≤ if maxI (x' :: xs) > y then maxI (x' :: xs) else y
      split <;> omega
    · have := ih y h
      show y ≤ if maxI (x' :: xs) > x then maxI (x' :: xs) else x
      split <;> omega
theorem minI_le : ∀ {ns : List Int} {y : Int}, y ∈ ns → minI ns ≤ y
  | [x], y, h => by simp at h; subst h; simp [minI]
  | x :: x' :: xs, y, h => by
    have ih : ∀ z ∈ x' :: xs, minI (x' :: xs) ≤ z := fun z hz => minI_le hz
    rcases List.mem_cons.mp h with rfl | h
    · show (if minI (x' :: xs) < y then minI (x' :: xs) else y) ≤ y
      split <;> omega
    · have := ih y h
      show (if minI (x' :: xs) < x then minI (x' :: xs) else x) ≤ y
      split <;> omega
theorem maxI_mem : ∀ {ns : List Int}, ns ≠ [] → maxI ns ∈ ns
  | [x], _ => by simp [maxI]
  | x :: x' :: xs, _ => by
    have ih : maxI (x' :: xs) ∈ x' :: xs := maxI_mem (by simp)
    show (if maxI (x' :: xs) > x then maxI (x' :: xs) else x) ∈ _
    split
    · exact List.mem_cons_of_mem _ ih
    · exact List.mem_cons_self
theorem minI_mem : ∀ {ns : List Int}, ns ≠ [] → minI ns ∈ ns
  | [x], _ => by simp [minI]
  | x :: x' :: xs, _ => by
    have ih : minI (x' :: xs) ∈ x' :: xs := minI_mem (by simp)
    show (if minI (x' :: xs) < x then minI (x' :: xs) else x) ∈ _
    split
    · exact List.mem_cons_of_mem _ ih
    · exact List.mem_cons_self
def fMax1 := onInts (fun ns => !ns.isEmpty) fun ns => .int (maxI ns)
def fMin1 := onInts (fun ns => !ns.isEmpty) fun ns => .int (minI ns)
theorem snd_bools {Γ : Gm} {g : List Bool → D} {g' : List Bool → V} (hg : ∀ α G bs, Rep Γ α G (g bs) (g' bs)) : SndC Γ E (fun vs H Q => ∃ (a : Addr) (bs : List Bool), vs = [V.ref a] ∧ SqL Γ.K H a (bs.map V.bl) ∧ Q (g' bs) H) (onBools g) := snd_un1 fun d S α G H v Q hR rv h => by
  cases q : rdL S d with
  | none => simp [q, Post] at h
  | some xs =>
    simp only [q, Option.bind_some] at h
    obtain ⟨p, ws, rfl, q1, r1⟩ := rdL_at hR rv q
    cases z : boolsD xs with
    | none => simp [z, Post] at h
    | some bs =>
      simp only [z] at h
      rw [bools_rep r1 z] at q1
      exact ⟨p, bs, rfl, q1, post_ok h hR (hg _ _ _)⟩
theorem allQ (hc : X.calm = true := by rfl) : QC X cl E (.builtin "all") fAll := ⟨_, cr_all hc, snd_bools (Γ := ⟨X.K, cl⟩) fun _ _ _ => by simp [Rep]⟩
theorem anyQ (hc : X.calm = true := by rfl) : QC X cl E (.builtin "any") fAny := ⟨_, cr_any hc, snd_bools (Γ := ⟨X.K, cl⟩) fun _ _ _ => by simp [Rep]⟩
theorem snd_ints {Γ : Gm} {c : List Int → Bool} {g : List Int → D} {r' : List V → Hp → VK → Prop} (hg : ∀ α G ns a H Q, c ns = true → SqL Γ.K H a (ns.map V.int) → (∀ v, Rep Γ α G (g ns) v → Q v H) → r' [.ref a] H Q) : SndC Γ E r' (onInts c g) := snd_un1 fun d S α G H v Q hR rv h => by
  cases q : rdL S d with
  | none => simp [q, Post] at h
  | some xs =>
    simp only [q, Option.bind_some] at h
    obtain ⟨p, ws, rfl, q1, r1⟩ := rdL_at hR rv q
    cases z : intsD xs with
    | none => simp [z, Post] at h
    | some bs =>
      simp only [z] at h
      rw [ints_rep r1 z] at q1
      split at h
      · rename_i hc
        exact hg α G bs p H Q hc q1 fun v rv => post_ok h hR rv
      · exact h.elim
theorem sumQ (hc : X.calm = true := by rfl) : QC X cl E (.builtin "sum") fSum := ⟨_, cr_sum hc, snd_ints (Γ := ⟨X.K, cl⟩) fun α G ns a H Q _ hs k => ⟨a, ns, rfl, hs, k _ (by simp [Rep])⟩⟩
theorem max1Q (hc : X.calm = true := by rfl) : QC X cl E (.builtin "max") fMax1 := ⟨_, cr_max hc, snd_ints (Γ := ⟨X.K, cl⟩) fun α G ns a H Q hn hs k => by
  have h0 : ns ≠ [] := by cases ns <;> simp at hn ⊢
  refine ⟨a, ns, rfl, hs, List.length_pos_iff.mpr h0, fun m hm hge => ?_⟩
  have e : m = maxI ns := Int.le_antisymm (maxI_ge hm) (hge _ (maxI_mem h0))
  subst e
  exact k _ (by simp [Rep])⟩
theorem min1Q (hc : X.calm = true := by rfl) : QC X cl E (.builtin "min") fMin1 := ⟨_, cr_min hc, snd_ints (Γ := ⟨X.K, cl⟩) fun α G ns a H Q hn hs k => by
  have h0 : ns ≠ [] := by cases ns <;> simp at hn ⊢
  refine ⟨a, ns, rfl, hs, List.length_pos_iff.mpr h0, fun m hm hge => ?_⟩
  have e : m = minI ns := Int.le_antisymm (hge _ (minI_mem h0)) (minI_le hm)
  subst e
  exact k _ (by simp [Rep])⟩
def gMax2 : D → D → Store → Res D := fun a b S => match a, b with
  | .int i, .int j => .ok (.int (if j > i then j else i)) S
  | _, _ => .no
def gMin2 : D → D → Store → Res D := fun a b S => match a, b with
  | .int i, .int j => .ok (.int (if j < i then j else i)) S
  | _, _ => .no
def fMax2 := un2 gMax2
def fMin2 := un2 gMin2
theorem max2Q (hc : X.calm = true := by rfl) : QC X cl E (.builtin "max") fMax2 := by
  refine ⟨_, call_max2 hc, snd_un2 fun a b S α G H v w Q hR rv rw' h => ?_⟩
  cases a <;> cases b <;> try exact h.elim
  rename_i i j
  simp only [Rep] at rv rw'
  subst rv rw'
  exact ⟨i, j, rfl, post_ok (x := V.int (if j > i then j else i)) h hR (by simp [Rep])⟩
theorem min2Q (hc : X.calm = true := by rfl) : QC X cl E (.builtin "min") fMin2 := by
  refine ⟨_, call_min2 hc, snd_un2 fun a b S α G H v w Q hR rv rw' h => ?_⟩
  cases a <;> cases b <;> try exact h.elim
  rename_i i j
  simp only [Rep] at rv rw'
  subst rv rw'
  exact ⟨i, j, rfl, post_ok (x := V.int (if j < i then j else i)) h hR (by simp [Rep])⟩
theorem op_inT {hu : X.A.units + 65 < cLine} : OpR X (compareOp .In) (fun x y H Q => ∃ d ds, Dp X.K H x d ∧ Dp X.K H y (.tuple ds) ∧ SeqAt.shaped d = true ∧ SeqAt.shaped (.tuple ds) = true ∧ Q (.bl (ds.any fun z => PyData.eqv z d)) H) := by
  intro pins s σ H x y v u Q I rx ry h
  obtain ⟨d, ds, hd, he, sd, se, q⟩ := h
  obtain ⟨as, r1⟩ := Dp.reads I d x v hd rx
  obtain ⟨bs, r2⟩ := Dp.reads I (.tuple ds) y u he ry
  exact SeqAt.in_tuple_reads r2 r1 (SeqAt.canLay_of_shaped se) (SeqAt.canLay_of_shaped sd) (PyProof.Rows.room_in_shaped sd hu) ⟨.bl _, H, I, rfl, q⟩
theorem op_ninT {hu : X.A.units + 65 < cLine} : OpR X (compareOp .NotIn) (fun x y H Q => ∃ d ds, Dp X.K H x d ∧ Dp X.K H y (.tuple ds) ∧ SeqAt.shaped d = true ∧ SeqAt.shaped (.tuple ds) = true ∧ Q (.bl (!ds.any fun z => PyData.eqv z d)) H) := by
  intro pins s σ H x y v u Q I rx ry h
  obtain ⟨d, ds, hd, he, sd, se, q⟩ := h
  obtain ⟨as, r1⟩ := Dp.reads I d x v hd rx
  obtain ⟨bs, r2⟩ := Dp.reads I (.tuple ds) y u he ry
  exact SeqAt.notIn_tuple_reads r2 r1 (SeqAt.canLay_of_shaped se) (SeqAt.canLay_of_shaped sd) (PyProof.Rows.room_in_shaped sd hu) ⟨.bl _, H, I, rfl, q⟩
def inD (xs : List D) (a : D) : Bool := xs.any fun z => deq z a
def opIn : D → D → Store → Res D := fun a b S => match deref S b with
  | .tup xs => if shal 20 a && shal 20 (.tup xs) then .ok (.bl (inD xs a)) S else .no
  | .lst xs => if shal 20 a && shal 20 (.lst xs) then .ok (.bl (inD xs a)) S else .no
  | _ => .no
def opNin : D → D → Store → Res D := fun a b S => match deref S b with
  | .tup xs => if shal 20 a && shal 20 (.tup xs) then .ok (.bl (!inD xs a)) S else .no
  | .lst xs => if shal 20 a && shal 20 (.lst xs) then .ok (.bl (!inD xs a)) S else .no
  | _ => .no
theorem any_py {xs : List D} {a : D} (h : ∀ x ∈ xs, shal 19 x = true) (ha : shal 20 a = true) : ((toPyL xs).any fun z => PyData.eqv z (toPy a)) = inD xs a := by
  rw [toPyL_map, List.any_map]
  unfold inD
  induction xs with
  | nil => rfl
  | cons x xs ih =>
    simp only [List.any_cons, Function.comp]
    rw [deq_py 19 20 x a (h x (by simp)) ha]
    have ih' := ih fun z hz => h z (by simp [hz])
    rw [ih']
theorem shal19 {xs : List D} (h : shal 20 (.tup xs) = true) : ∀ x ∈ xs, shal 19 x = true := by simpa [shal] using h
theorem shal19l {xs : List D} (h : shal 20 (.lst xs) = true) : ∀ x ∈ xs, shal 19 x = true := by simpa [shal] using h
theorem inQ {k : Nat} (hr : Room k X.A) : QR X cl E (compareOp .In) opIn := by
  have hu : X.A.units + 65 < cLine := by have := hr.un; omega
  refine ⟨_, OpR.or (op_inT (hu := hu)) (op_inD hu), fun a b S α G H x y Q hR ra rb h => ?_⟩
  unfold opIn at h
  have hd := @deref_dp (Γ := ⟨X.K, cl⟩) α G H S hR b y
  split at h
  · rename_i xs e
    rw [e] at hd
    split at h
    · rename_i hs
      rw [Bool.and_eq_true] at hs
      have s2 := shal_shaped hs.2
      have d2 := hd hs.2 rb
      simp only [toPy] at s2 d2
      exact .inl ⟨_, _, rep_dp (Γ := ⟨X.K, cl⟩) hR.sub 20 a x hs.1 ra, d2, shal_shaped hs.1, s2, by rw [any_py (shal19 hs.2) hs.1]; exact post_ok h hR (by simp [Rep])⟩
    · exact h.elim
  · rename_i xs e
    rw [e] at hd
    split at h
    · rename_i hs
      rw [Bool.and_eq_true] at hs
      have s2 := shal_shaped hs.2
      have d2 := hd hs.2 rb
      simp only [toPy] at s2 d2
      exact .inr ⟨_, _, rep_dp (Γ := ⟨X.K, cl⟩) hR.sub 20 a x hs.1 ra, d2, shal_shaped hs.1, s2, by rw [any_py (shal19l hs.2) hs.1]; exact post_ok h hR (by simp [Rep])⟩
    · exact h.elim
  · exact h.elim
theorem ninQ {k : Nat} (hr : Room k X.A) : QR X cl E (compareOp .NotIn) opNin := by
  have hu : X.A.units + 65 < cLine := by have := hr.un; omega
  refine ⟨_, OpR.or (op_ninT (hu := hu)) (op_notInD hu), fun a b S α G H x y Q hR ra rb h => ?_⟩
  unfold opNin at h
  have hd := @deref_dp (Γ := ⟨X.K, cl⟩) α G H S hR b y
  split at h
  · rename_i xs e
    rw [e] at hd
    split at h
    · rename_i hs
      rw [Bool.and_eq_true] at hs
      have s2 := shal_shaped hs.2
      have d2 := hd hs.2 rb
      simp only [toPy] at s2 d2
      exact .inl ⟨_, _, rep_dp (Γ := ⟨X.K, cl⟩) hR.sub 20 a x hs.1 ra, d2, shal_shaped hs.1, s2, by rw [any_py (shal19 hs.2) hs.1]; exact post_ok h hR (by simp [Rep])⟩
    · exact h.elim
  · rename_i xs e
    rw [e] at hd
    split at h
    · rename_i hs
      rw [Bool.and_eq_true] at hs
      have s2 := shal_shaped hs.2
      have d2 := hd hs.2 rb
      simp only [toPy] at s2 d2
      exact .inr ⟨_, _, rep_dp (Γ := ⟨X.K, cl⟩) hR.sub 20 a x hs.1 ra, d2, shal_shaped hs.1, s2, by rw [any_py (shal19l hs.2) hs.1]; exact post_ok h hR (by simp [Rep])⟩
    · exact h.elim
  · exact h.elim
inductive Ty where
  | int | bool | str | list | tuple
def Ty.nm : Ty → String
  | .int => "int" | .bool => "bool" | .str => "str" | .list => "list" | .tuple => "tuple"
/-- the type of data that is no instance of an own class -/
def tyN : D → String
  | .non => "NoneType" | .bl _ => "bool" | .int _ => "int" | .str _ => "str" | .tup _ => "tuple" | .lst _ => "list" | .fro _ => "list" | .ref _ => "list" | .obj _ _ => "object"
def isTy (T : Ty) : D → Bool
  | .bl _ => match T with | .int => true | .bool => true | _ => false
  | .int _ => match T with | .int => true | _ => false
  | .str _ => match T with | .str => true | _ => false
  | .tup _ => match T with | .tuple => true | _ => false
  | .lst _ | .fro _ | .ref _ => match T with | .list => true | _ => false
  | .non | .obj _ _ => false
def isOk : D → Bool
  | .obj _ _ => false
  | _ => true
theorem tyx_at {Γ : Gm} {α : List Addr} {G H : Hp} {S : Store} (R : Rl Γ α G S H) {d : D} {v : V} (r : Rep Γ α G d v) (h : isOk d = true) : TyX Γ.K H v (.type (tyN d)) := by
  have lists : ∀ {a : Addr} {vs : List V}, SqL Γ.K H a vs → TyX Γ.K H (.ref a) (.type "list") := fun {a vs} q => by
    rcases q with (q | ⟨o, q⟩) | ⟨o, its, n, q, c, _⟩
    · exact .base (.lst q)
    · exact .base (.frz q)
    · exact .kList q c
  cases d with
  | non => simp only [Rep] at r; subst r; exact .base .non
  | bl b => simp only [Rep] at r; subst r; exact .base (.bl b)
  | int b => simp only [Rep] at r; subst r; exact .base (.int b)
  | str b => simp only [Rep] at r; subst r; exact .base (.str b)
  | tup xs =>
    obtain ⟨a, vs, rfl, q, _⟩ := tup_at R r
    rcases q with (q | ⟨o, q⟩) | ⟨o, its, n, q, c, _⟩
    · exact .base (.tup q)
    · exact .fTuple q
    · exact .kTuple q c
  | lst xs =>
    obtain ⟨a, vs, rfl, q, _⟩ := rdL_at R r (show rdL S (.lst xs) = some xs from rfl)
    exact lists q
  | fro xs =>
    obtain ⟨a, vs, rfl, q, _⟩ := rdL_at R r (show rdL S (.fro xs) = some xs from rfl)
    exact lists q
  | obj _ _ => simp [isOk] at h
  | ref k =>
    unfold Rep at r
    obtain ⟨a, rfl, ha⟩ := r
    have hk : k < S.length := by rw [← R.len]; exact (List.getElem?_eq_some_iff.mp ha).1
    have hc : S[k]? = some S[k] := List.getElem?_eq_getElem hk
    have z := R.ok k S[k] a hc ha
    cases q : S[k] with
    | lst xs =>
      rw [q] at z
      obtain ⟨vs, h1, _⟩ := z
      exact lists (.inl (.inl h1))
    | frz xs =>
      rw [q] at z
      obtain ⟨vs, h1, _⟩ := z
      exact lists (.inl (.inl (R.sub _ _ h1)))
theorem kit_at (T : Ty) (d : D) (h : isOk d = true) {K : PySem.W.Frag} : PySem.W.kitOne K (.type (tyN d)) (.type T.nm) = some (isTy T d) := by
  cases d <;> first
    | (simp [isOk] at h; done)
    | (cases T <;> exact kit_ty (by dsimp only [tyN, isTy, Ty.nm]; decide +kernel))
def mIsi (T : Ty) (m : ME) : ME := fun ρ S => (m ρ S).bind fun d S1 => if isOk d then .ok (.bl (isTy T d)) S1 else .no
/-- isinstance(e, T) -/
theorem q_isi (T : Ty) {x : Str} {p p2 : Pos} (h : QE X cl E a m) (hg : Gl X "isinstance") (hm : X.mg "isinstance" = none) (hg2 : Gl X x) (hm2 : X.mg x = none) (hv : bootBuiltins x = some (.type T.nm)) (hn : x ≠ "__name__" := by decide) (hdb : (x == ("__debug__" : Str)) = false := by decide)
    (hs1 : starEach [a, .Name x p2] X.env = (false, eval a X.env) :: starEach [.Name x p2] X.env := by rfl) (hs2 : starEach [.Name x p2] X.env = (false, eval (.Name x p2) X.env) :: starEach [] X.env := by rfl) (hpl : (backTo pos (starEach [.Name x p2] X.env)).any (·.1) = false := by rfl) :
    QE X cl E (.Call (.Name "isinstance" p) [a, .Name x p2] [] pos) (mIsi T m) := by
  obtain ⟨t, h1, h2⟩ := h.ex
  refine ⟨_, pe_callB call_isi hg hm (by decide +kernel) (pa_cons h1 (pa_cons (pe_bltn (v := .ty T.nm) hg2 hm2 hv rfl hn hdb) pa_nil hs2) hs1) (by decide) (by decide) hs1 hpl, fun ρ S σ α G H Q hρ hR hp => h2 ρ S σ α G H _ hρ hR (post_bind hp fun d S1 α1 G1 H1 v _ e1 R1 r1 hp1 => ?_)⟩
  split at hp1
  · rename_i hk
    exact ⟨v, .ty T.nm, .type (tyN d), .type T.nm, isTy T d, rfl, .ty _, tyx_at R1 r1 hk, kit_at T d hk, post_ok hp1 R1 (by simp [Rep])⟩
  · exact hp1.elim
def mIsi2 (T U : Ty) (m : ME) : ME := fun ρ S => (m ρ S).bind fun d S1 => if isOk d then .ok (.bl (isTy T d || isTy U d)) S1 else .no
/-- isinstance(e, (T, U)) -/
theorem q_isi2 (T U : Ty) {x y : Str} {p p2 p3 p4 : Pos} {x1} (h : QE X cl E a m) (hg : Gl X "isinstance") (hm : X.mg "isinstance" = none) (hg2 : Gl X x) (hm2 : X.mg x = none) (hv : bootBuiltins x = some (.type T.nm)) (hg3 : Gl X y) (hm3 : X.mg y = none) (hv3 : bootBuiltins y = some (.type U.nm))
    (hn : x ≠ "__name__" := by decide) (hdb : (x == ("__debug__" : Str)) = false := by decide) (hn3 : y ≠ "__name__" := by decide) (hdb3 : (y == ("__debug__" : Str)) = false := by decide)
    (hs1 : starEach [a, .Tuple [.Name x p2, .Name y p3] x1 p4] X.env = (false, eval a X.env) :: starEach [.Tuple [.Name x p2, .Name y p3] x1 p4] X.env := by rfl) (hs2 : starEach [.Tuple [.Name x p2, .Name y p3] x1 p4] X.env = (false, eval (.Tuple [.Name x p2, .Name y p3] x1 p4) X.env) :: starEach [] X.env := by rfl)
    (hs3 : starEach [.Name x p2, .Name y p3] X.env = (false, eval (.Name x p2) X.env) :: starEach [.Name y p3] X.env := by rfl) (hs4 : starEach [.Name y p3] X.env = (false, eval (.Name y p3) X.env) :: starEach [] X.env := by rfl)
    (hpl : (backTo pos (starEach [.Tuple [.Name x p2, .Name y p3] x1 p4] X.env)).any (·.1) = false := by rfl) :
    QE X cl E (.Call (.Name "isinstance" p) [a, .Tuple [.Name x p2, .Name y p3] x1 p4] [] pos) (mIsi2 T U m) := by
  obtain ⟨t, h1, h2⟩ := h.ex
  refine ⟨_, pe_callB call_isiT hg hm (by decide +kernel) (pa_cons h1 (pa_cons (pe_tup (pa_cons (pe_bltn (v := .ty T.nm) hg2 hm2 hv rfl hn hdb) (pa_cons (pe_bltn (v := .ty U.nm) hg3 hm3 hv3 rfl hn3 hdb3) pa_nil hs4) hs3)) pa_nil hs2) hs1) (by decide) (by decide) hs1 hpl, fun ρ S σ α G H Q hρ hR hp => h2 ρ S σ α G H _ hρ hR (post_bind hp fun d S1 α1 G1 H1 v _ e1 R1 r1 hp1 => ?_)⟩
  split at hp1
  · rename_i hk
    refine ⟨sz (by simp), fun tp htp => ?_⟩
    obtain ⟨R2, e2⟩ := R1.out htp (.tup [.ty T.nm, .ty U.nm])
    refine ⟨v, tp, [.ty T.nm, .ty U.nm], .type (tyN d), [.type T.nm, .type U.nm], isTy T d || isTy U d, rfl, upd_same, .cons (.ty _) (.cons (.ty _) .nil), tyx_at R2 (Rep.mono e2.pre e2.sub _ _ r1) hk, ?_, hp1 _ _ _ _ e2 R2 (by simp [Rep])⟩
    refine kitAny_cons (kit_at T d hk) (fun e => ?_) (fun e => by rw [e]; rfl)
    refine kitAny_cons (kit_at U d hk) (fun e' => ?_) (fun e' => by rw [e']; simp)
    rw [e, e']
    exact kitAny_nil
  · exact hp1.elim
/-- the promise of a def by its function of data -/
def spM (Γ : Gm) (f : List D → Store → Res D) : Sp := fun vs H Q E => ∃ ds α G S, RepL Γ α G ds vs ∧ Rl Γ α G S H ∧ Post Γ (Rep Γ) α G H (f ds S) Q E
def nox {β : Type} : Res β → Res β
  | .ex _ _ => .no
  | r => r
@[simp] theorem nox_ok {β : Type} (a : β) (S : Store) : nox (Res.ok a S) = .ok a S := rfl
@[simp] theorem nox_no {β : Type} : nox (Res.no : Res β) = .no := rfl
/-- a def that lets no exception out, over the caller's cells -/
def fCall (f : List D → Store → Res D) : List D → Store → Res D := fun ds S => nox (f ds S)
mutual
def pureD : D → Bool
  | .ref _ => false
  | .tup xs => pureL xs
  | .lst xs => pureL xs
  | .fro xs => pureL xs
  | .obj _ fs => pureL fs
  | _ => true
def pureL : List D → Bool
  | [] => true
  | d :: ds => pureD d && pureL ds
end
/-- .. that sees no cell of the caller's -/
def fPure (f : List D → Store → Res D) : List D → Store → Res D := fun ds S => if pureL ds then match f ds [] with
  | .ok d [] => .ok d S
  | _ => .no
  else .no
mutual
theorem pure_rep {Γ : Gm} {α β : List Addr} {G : Hp} : ∀ (d : D) (v : V), pureD d = true → Rep Γ α G d v → Rep Γ β G d v
  | .non, v, _, h => by simpa [Rep] using h
  | .bl b, v, _, h => by simpa [Rep] using h
  | .int i, v, _, h => by simpa [Rep] using h
  | .str s, v, _, h => by simpa [Rep] using h
  | .tup ds, v, p, h => by
    unfold Rep at h ⊢
    obtain ⟨a, vs, e, q, r⟩ := h
    exact ⟨a, vs, e, q, pureL_rep ds vs (by simpa [pureD] using p) r⟩
  | .lst ds, v, p, h => by
    unfold Rep at h ⊢
    obtain ⟨a, vs, e, q, r⟩ := h
    exact ⟨a, vs, e, q, pureL_rep ds vs (by simpa [pureD] using p) r⟩
  | .fro ds, v, p, h => by
    unfold Rep at h ⊢
    obtain ⟨a, vs, e, q, r⟩ := h
    exact ⟨a, vs, e, q, pureL_rep ds vs (by simpa [pureD] using p) r⟩
  | .obj c ds, v, p, h => by
    unfold Rep at h ⊢
    obtain ⟨a, vs, e, q, r⟩ := h
    exact ⟨a, vs, e, q, pureL_rep ds vs (by simpa [pureD] using p) r⟩
  | .ref k, v, p, _ => by simp [pureD] at p
theorem pureL_rep {Γ : Gm} {α β : List Addr} {G : Hp} : ∀ (ds : List D) (vs : List V), pureL ds = true → RepL Γ α G ds vs → RepL Γ β G ds vs
  | [], vs, _, h => by simpa [RepL] using h
  | d :: ds, vs, p, h => by
    unfold RepL at h ⊢
    obtain ⟨v, r, e, h1, h2⟩ := h
    simp only [pureL, Bool.and_eq_true] at p
    exact ⟨v, r, e, pure_rep d v p.1 h1, pureL_rep ds r p.2 h2⟩
end
theorem nox_post {Γ : Gm} {α : List Addr} {G H : Hp} {r : Res D} {Q : VK} (h : Post Γ (Rep Γ) α G H (nox r) Q E) {E' : XK} : Post Γ (Rep Γ) α G H r Q E' := by
  cases r with
  | ok d S => exact h
  | ex e S => exact h.elim
  | no => exact h.elim
theorem sp_call {Γ : Gm} {f : List D → Store → Res D} : SndC Γ E (fun vs H Q => spM Γ f vs H Q E0) (fCall f) := fun ds S α G H vs Q hR r h => ⟨ds, α, G, S, r, hR, nox_post h⟩
/-- a state seen without its cells -/
theorem Rl.bare {Γ : Gm} {α : List Addr} {G H : Hp} {S : Store} (R : Rl Γ α G S H) : Rl Γ [] G [] H := ⟨R.sub, rfl, List.nodup_nil, fun a m => (by simp at m), fun k c a h => (by simp at h)⟩
theorem Rl.back {Γ : Gm} {α : List Addr} {G H G' H' : Hp} {S : Store} (R : Rl Γ α G S H) (R' : Rl Γ [] G' [] H') (e : Ext [] G H [] G' H') : Rl Γ α G' S H' ∧ Ext α G H α G' H' := by
  have keep : ∀ a o, H a = some o → H' a = some o := fun a o h => e.fr a o h (by simp)
  have gn : ∀ a, a ∈ α → G a = none → G' a = none := fun a m h => by
    cases q : G' a with
    | none => rfl
    | some o =>
      rcases e.ng a (by rw [q]; simp) with z | z | z
      · exact absurd h z
      · simp at z
      · exact absurd z (R.tr a m)
  refine ⟨⟨R'.sub, R.len, R.nd, fun a m => ?_, fun k c a hc ha => ?_⟩, ⟨⟨[], by simp⟩, e.sub, fun a o h _ => keep a o h, fun a m => .inl m, fun a h => ?_⟩⟩
  · cases q : H a with
    | none => exact absurd q (R.tr a m)
    | some o => rw [keep a o q]; simp
  · have z := R.ok k c a hc ha
    cases c with
    | lst ds =>
      obtain ⟨vs, h1, h2, h3⟩ := z
      exact ⟨vs, keep _ _ h1, RepL.mono ⟨[], by simp⟩ e.sub _ _ h2, gn a (List.mem_of_getElem? ha) h3⟩
    | frz ds =>
      obtain ⟨vs, h1, h2⟩ := z
      exact ⟨vs, e.sub _ _ h1, RepL.mono ⟨[], by simp⟩ e.sub _ _ h2⟩
  · rcases e.ng a h with z | z | z
    · exact .inl z
    · simp at z
    · exact .inr (.inr z)
theorem sp_pure {Γ : Gm} {f : List D → Store → Res D} : SndC Γ E (fun vs H Q => spM Γ f vs H Q E0) (fPure f) := fun ds S α G H vs Q hR r h => by
  unfold fPure at h
  split at h
  · rename_i hp
    refine ⟨ds, [], G, [], pureL_rep ds vs hp r, hR.bare, ?_⟩
    cases q : f ds [] with
    | no => rw [q] at h; exact h.elim
    | ex e S' => rw [q] at h; exact h.elim
    | ok d S' =>
      rw [q] at h
      cases S' with
      | cons c T => exact h.elim
      | nil =>
        intro α' G' H' v e R' rv
        have ea : α' = [] := List.eq_nil_of_length_eq_zero (by rw [R'.len]; rfl)
        subst ea
        obtain ⟨R2, e2⟩ := hR.back R' e
        exact h α G' H' v e2 R2 (Rep.mono (α := []) ⟨α, by simp⟩ (Sub.refl _) _ _ rv)
  · exact h.elim
/-- f(e, ..), f a def of the module that lets no exception out -/
theorem q_call {g : List D → Store → Res D} {f : List D → Store → Res D} {k : Nat} {fa : Addr} {fd : FuncData} {ps : List Str} {x : Str} {p : Pos} {es : List Expr} {n : MA} (F : FnOk X.prog X.w X.K X.mg X.base CX0 k fa fd ps (spM ⟨X.K, cl⟩ f)) (hr : Room k X.A)
    (hg : Gl X x) (hm : X.mg x = some (.ref fa)) (hk : PySem.W.keepIn X.K (.ref fa) = true) (hb : Binds X.K fd ps []) (ha : QA X cl E (e :: es) n) (hf : SndC ⟨X.K, cl⟩ E (fun vs H Q => spM ⟨X.K, cl⟩ f vs H Q E0) g)
    (hdb : (x == ("__debug__" : Str)) = false := by decide) (he : starEach (e :: es) X.env = (false, eval e X.env) :: starEach es X.env := by rfl) (hpl : (backTo pos (starEach es X.env)).any (·.1) = false := by rfl) :
    QE X cl E (.Call (.Name x p) (e :: es) [] pos) (mCall g n) := by
  obtain ⟨t, h1, h2⟩ := ha.ex
  refine ⟨_, pe_call F hr hg hm hk hb .nil pass0 h1 hdb he hpl, fun ρ S σ α G H Q hρ hR hp => h2 ρ S σ α G H _ hρ hR (post_bind hp fun ds S1 α1 G1 H1 vs _ e1 R1 r1 hp1 => ?_)⟩
  rw [List.append_nil]
  exact hf ds S1 α1 G1 H1 vs Q R1 r1 hp1
theorem q_call0 {g : List D → Store → Res D} {f : List D → Store → Res D} {k : Nat} {fa : Addr} {fd : FuncData} {ps : List Str} {x : Str} {p : Pos} (F : FnOk X.prog X.w X.K X.mg X.base CX0 k fa fd ps (spM ⟨X.K, cl⟩ f)) (hr : Room k X.A)
    (hg : Gl X x) (hm : X.mg x = some (.ref fa)) (hk : PySem.W.keepIn X.K (.ref fa) = true) (hb : Binds X.K fd ps []) (hf : SndC ⟨X.K, cl⟩ E (fun vs H Q => spM ⟨X.K, cl⟩ f vs H Q E0) g)
    (hdb : (x == ("__debug__" : Str)) = false := by decide) :
    QE X cl E (.Call (.Name x p) [] [] pos) (mCall g mNil) := by
  refine ⟨_, pe_call0 F hr hg hm hk hb .nil pass0 hdb, fun ρ S σ α G H Q hρ hR hp => ?_⟩
  exact hf [] S α G H [] Q hR (by simp [RepL]) hp
end
end Q
namespace Q
open PySem L2
section
variable {X : Cx} {cl : Nat → Addr} {E : XK} {a b c e : Expr} {ma mb mc m : ME} {mt mu : MT} {pos : Pos} {st : Stmt} {rest : List Stmt} {n n' : MS}
def mSkip : MS := fun ρ S => .ok (.nx ρ) S
def mSeq (n n' : MS) : MS := fun ρ S => (n ρ S).bind fun f S1 => match f with
  | .nx ρ1 => n' ρ1 S1
  | f => .ok f S1
theorem snd_seq {Γ : Gm} {t u : TS} (h : SndS Γ E t n) (k : SndS Γ E u n') : SndS Γ E (tSeq t u) (mSeq n n') := fun ρ S σ α G H Dn hρ hR hp => by
  refine h ρ S σ α G H _ hρ hR ?_
  unfold mSeq at hp
  cases q : n ρ S with
  | no => rw [q] at hp; exact hp
  | ex e S' => rw [q] at hp; exact hp
  | ok f S' =>
    rw [q] at hp
    cases f with
    | nx ρ1 => exact fun α' G' H' σ' e1 R1 r1 => k ρ1 S' σ' α' G' H' Dn r1 R1 (PostS.mono hp e1)
    | rt d => exact hp
    | bk ρ1 => exact hp
    | ct ρ1 => exact hp
theorem qss_nil : QSs X cl E [] mSkip := ⟨_, pss_nil, fun ρ S σ α G H Dn hρ hR hp => hp α G H σ (Ext.refl _ _ _) hR hρ⟩
theorem qss_cons (h : QS X cl E st n) (k : QSs X cl E rest n') : QSs X cl E (st :: rest) (mSeq n n') := by
  obtain ⟨t, h1, h2⟩ := h.ex
  obtain ⟨u, k1, k2⟩ := k.ex
  exact ⟨_, pss_cons h1 k1, snd_seq h2 k2⟩
theorem qss_one (h : QS X cl E st n) : QSs X cl E [st] n := by
  obtain ⟨t, h1, h2⟩ := h.ex
  exact ⟨_, pss_one h1, h2⟩
theorem qs_pass : QS X cl E (.Pass pos) mSkip := ⟨_, ps_pass, fun ρ S σ α G H Dn hρ hR hp => hp α G H σ (Ext.refl _ _ _) hR hρ⟩
theorem qs_break : QS X cl E (.Break pos) (fun ρ S => .ok (.bk ρ) S) := ⟨_, ps_break, fun ρ S σ α G H Dn hρ hR hp => hp α G H σ (Ext.refl _ _ _) hR hρ⟩
theorem qs_continue : QS X cl E (.Continue pos) (fun ρ S => .ok (.ct ρ) S) := ⟨_, ps_continue, fun ρ S σ α G H Dn hρ hR hp => hp α G H σ (Ext.refl _ _ _) hR hρ⟩
def mDrop (m : ME) : MS := fun ρ S => (m ρ S).bind fun _ S1 => .ok (.nx ρ) S1
theorem qs_expr (h : QE X cl E e m) (hs : swapsWith e none pos.line X.env = pure false := by rfl) : QS X cl E (.Expr e pos) (mDrop m) := by
  obtain ⟨t, h1, h2⟩ := h.ex
  exact ⟨_, ps_expr h1 hs, fun ρ S σ α G H Dn hρ hR hp => h2 ρ S σ α G H _ hρ hR (posts_bind hp fun d S1 α1 G1 H1 v _ e1 R1 r1 hp1 => hp1 α1 G1 H1 σ (Ext.refl _ _ _) R1 (hρ.mono e1))⟩
def mRet (m : ME) : MS := fun ρ S => (m ρ S).bind fun d S1 => .ok (.rt d) S1
theorem qs_ret (h : QE X cl E e m) : QS X cl E (.Return (some e) pos) (mRet m) := by
  obtain ⟨t, h1, h2⟩ := h.ex
  exact ⟨_, ps_ret h1, fun ρ S σ α G H Dn hρ hR hp => h2 ρ S σ α G H _ hρ hR (posts_bind hp fun d S1 α1 G1 H1 v _ e1 R1 r1 hp1 => hp1 α1 G1 H1 v (Ext.refl _ _ _) R1 r1)⟩
theorem qs_retN : QS X cl E (.Return none pos) (fun ρ S => .ok (.rt .non) S) := ⟨_, ps_retN, fun ρ S σ α G H Dn hρ hR hp => hp α G H .non (Ext.refl _ _ _) hR (by simp [Rep])⟩
def mIf (t : MT) (n n' : MS) : MS := fun ρ S => (t ρ S).bind fun b S1 => match b with
  | true => n ρ S1
  | false => n' ρ S1
theorem qs_if {c : Expr} {sa sb : List Stmt} (hc : QT X cl E c mt) (ha : QSs X cl E sa n) (hb : QSs X cl E sb n') : QS X cl E (.If c sa sb pos) (mIf mt n n') := by
  obtain ⟨t, h1, h2⟩ := hc.ex
  obtain ⟨u, k1, k2⟩ := ha.ex
  obtain ⟨w, l1, l2⟩ := hb.ex
  refine ⟨_, ps_if h1 k1 l1, fun ρ S σ α G H Dn hρ hR hp => h2 ρ S σ α G H _ hρ hR (posts_bind hp fun b S1 α1 G1 H1 v _ e1 R1 r1 hp1 => ?_)⟩
  have r1 : b = v := r1
  subst r1
  cases b with
  | true => exact iteT (k2 ρ S1 σ α1 G1 H1 Dn (hρ.mono e1) R1 hp1)
  | false => exact iteF (l2 ρ S1 σ α1 G1 H1 Dn (hρ.mono e1) R1 hp1)
abbrev MG := D → Env → Store → Res Env
abbrev MGs := List D → Env → Store → Res Env
/-- js: the slots that the target stores -/
def SndG (Γ : Gm) (E : XK) (g : TG) (mg : MG) (js : List Nat) : Prop := ∀ (d : D) (ρ : Env) (S : Store) (σ : L2.St) (α : List Addr) (G H : Hp) (v : V) (Q : L2.St → Hp → Prop), EnvR Γ α G ρ σ → Rl Γ α G S H → Rep Γ α G d v →
  Post Γ (EnvR Γ) α G H (mg d ρ S) (fun σ' H' => σ'.length = σ.length ∧ (∀ i, i ∉ js → σ'[i]? = σ[i]?) → Q σ' H') E → g v σ H Q
def SndGs (Γ : Gm) (E : XK) (g : TGs) (mg : MGs) (js : List Nat) : Prop := ∀ (ds : List D) (ρ : Env) (S : Store) (σ : L2.St) (α : List Addr) (G H : Hp) (vs : List V) (Q : L2.St → Hp → Prop), EnvR Γ α G ρ σ → Rl Γ α G S H → RepL Γ α G ds vs →
  Post Γ (EnvR Γ) α G H (mg ds ρ S) (fun σ' H' => σ'.length = σ.length ∧ (∀ i, i ∉ js → σ'[i]? = σ[i]?) → Q σ' H') E → g vs σ H Q
structure QG (X : Cx) (cl : Nat → Addr) (E : XK) (tg : Expr) (mg : MG) (js : List Nat) : Prop where
  ex : ∃ g, PG X tg g ∧ SndG ⟨X.K, cl⟩ E g mg js
structure QGs (X : Cx) (cl : Nat → Addr) (E : XK) (tgs : List Expr) (mg : MGs) (js : List Nat) : Prop where
  ex : ∃ g, PGs X tgs g ∧ SndGs ⟨X.K, cl⟩ E g mg js
def mgN (i : Nat) : MG := fun d ρ S => .ok (ρ.set i (some d)) S
theorem qg_name (i : Nat) {x : Str} (hN : X.N.Nodup) (hi : X.N[i]? = some x := by rfl) (hx : Loc X.env.scope x := by first | exact .inl rfl | exact .inr rfl) (hf : X.fn x = true ∨ X.env.scope.names.lookup x = some .local := by first | exact .inl rfl | exact .inr rfl) : QG X cl E (.Name x pos) (mgN i) [i] := by
  refine ⟨_, pg_name hN hi hx hf, fun d ρ S σ α G H v Q hρ hR r hp => ?_⟩
  refine post_ok (x := σ.set i (some v)) hp hR (hρ.set i r) ⟨by simp, fun j hj => ?_⟩
  rw [List.getElem?_set_ne]
  simpa using fun e => hj (by simp [e])
def mgNil : MGs := fun ds ρ S => match ds with
  | [] => .ok ρ S
  | _ => .no
def mgCons (g : MG) (gs : MGs) : MGs := fun ds ρ S => match ds with
  | [] => .no
  | d :: ds => (g d ρ S).bind fun ρ1 S1 => gs ds ρ1 S1
theorem qgs_nil : QGs X cl E [] mgNil [] := by
  refine ⟨_, pgs_nil, fun ds ρ S σ α G H vs Q hρ hR r hp => ?_⟩
  cases ds with
  | cons d ds => exact hp.elim
  | nil =>
    unfold RepL at r
    exact ⟨r, post_ok (x := σ) hp hR hρ ⟨rfl, fun _ _ => rfl⟩⟩
theorem qgs_cons {tg : Expr} {tgs : List Expr} {g : MG} {gs : MGs} {js ks : List Nat} (h : QG X cl E tg g js) (k : QGs X cl E tgs gs ks) (hs : (assignEach (tg :: tgs) X.env).map (·.2) = assign tg X.env :: (assignEach tgs X.env).map (·.2) := by rfl) : QGs X cl E (tg :: tgs) (mgCons g gs) (js ++ ks) := by
  obtain ⟨t, h1, h2⟩ := h.ex
  obtain ⟨u, k1, k2⟩ := k.ex
  refine ⟨_, pgs_cons h1 k1 hs, fun ds ρ S σ α G H vs Q hρ hR r hp => ?_⟩
  cases ds with
  | nil => exact hp.elim
  | cons d ds =>
    unfold RepL at r
    obtain ⟨v, w, rfl, r1, r2⟩ := r
    refine ⟨v, w, rfl, h2 d ρ S σ α G H v _ hρ hR r1 (post_bind hp fun ρ1 S1 α1 G1 H1 σ1 _ e1 R1 q1 hp1 => fun ⟨l1, o1⟩ => ?_)⟩
    refine k2 ds ρ1 S1 σ1 α1 G1 H1 w _ q1 R1 (RepL.mono e1.pre e1.sub _ _ r2) ?_
    revert hp1
    cases gs ds ρ1 S1 with
    | no => exact id
    | ex e S' => exact id
    | ok ρ2 S2 => exact fun hp1 α' G' H' σ' e R r c => hp1 α' G' H' σ' e R r ⟨by rw [c.1, l1], fun i hi => by rw [c.2 i (fun z => hi (List.mem_append_right _ z)), o1 i (fun z => hi (List.mem_append_left _ z))]⟩
def mgTup (k : Nat) (gs : MGs) : MG := fun d ρ S => match seqOf S d with
  | some ds => if ds.length = k then gs ds ρ S else .no
  | none => .no
theorem PG.or {tg : Expr} {t u : TG} (h : PG X tg t) (h' : PG X tg u) : PG X tg (fun v σ H Q => t v σ H Q ∨ u v σ H Q) := ⟨fun pins s σ H v w Q I r q => q.elim (fun q => h.run pins s σ H v w Q I r q) (fun q => h'.run pins s σ H v w Q I r q)⟩
theorem qg_tup (k : Nat) {es : List Expr} {x1 : Nat} {gs : MGs} {js : List Nat} (h : QGs X cl E es gs js) (hc : X.calm = true := by rfl) (hn : (assignEach es X.env).length = k := by rfl) (hst : (assignEach es X.env).findIdx? (·.1) = none := by rfl) : QG X cl E (.Tuple es x1 pos) (mgTup k gs) js := by
  obtain ⟨t, h1, h2⟩ := h.ex
  refine ⟨_, PG.or (pg_tup hc h1 hn hst) (pg_lst hc h1 hn hst), fun d ρ S σ α G H v Q hρ hR r hp => ?_⟩
  unfold mgTup at hp
  cases q : seqOf S d with
  | none => simp [q, Post] at hp
  | some ds =>
    simp only [q] at hp
    split at hp
    · rename_i hk
      obtain ⟨p, vs, rfl, q1, r1⟩ := seqOf_at hR r q
      have hl : vs.length = k := by rw [← r1.length]; exact hk
      rcases q1 with q1 | q1
      · exact .inr ⟨p, vs, rfl, q1, hl, h2 ds ρ S σ α G H vs Q hρ hR r1 hp⟩
      · exact .inl ⟨p, vs, rfl, q1, hl, h2 ds ρ S σ α G H vs Q hρ hR r1 hp⟩
    · exact hp.elim
/-- cell[i] = .. -/
def setIx (o i : D) (d : D) (S : Store) : Res Unit := match o, i with
  | .ref k, .int j => match S[k]? with
    | some (.lst xs) => match ixN xs.length j with
      | some jj => .ok () (S.set k (.lst (xs.set jj d)))
      | none => .no
    | _ => .no
  | _, _ => .no
def mgSub (mo mi : ME) : MG := fun d ρ S => (mo ρ S).bind fun o S1 => (mi ρ S1).bind fun i S2 => (setIx o i d S2).bind fun _ S3 => .ok ρ S3
theorem qg_sub {o i : Expr} {mo mi : ME} (ho : QE X cl E o mo) (hi : QE X cl E i mi)
    (ha : ∀ v, assign (.Subscript o i pos) X.env v = (do
      let ov ← holding [v] (eval o X.env)
      let iv ← holding [v, ov] (eval i X.env)
      standAt pos
      holding [v, ov, iv] (setItem ov iv v)
      release [v, ov, iv] []) := by intro _; rfl) : QG X cl E (.Subscript o i pos) (mgSub mo mi) [] := by
  obtain ⟨t, h1, h2⟩ := ho.ex
  obtain ⟨u, k1, k2⟩ := hi.ex
  refine ⟨_, pg_sub h1 k1 set_list ha, fun d ρ S σ α G H v Q hρ hR r hp => ?_⟩
  refine h2 ρ S σ α G H _ hρ hR (post_bind hp fun od S1 α1 G1 H1 ov q1 e1 R1 r1 hp1 => ?_)
  clear q1
  refine k2 ρ S1 σ α1 G1 H1 _ (hρ.mono e1) R1 (post_bind hp1 fun id S2 α2 G2 H2 iv q2 e2 R2 r2 hp2 => ?_)
  clear q2
  have r0 : Rep ⟨X.K, cl⟩ α2 G2 d v := Rep.mono e2.pre e2.sub _ _ (Rep.mono e1.pre e1.sub _ _ r)
  have ro : Rep ⟨X.K, cl⟩ α2 G2 od ov := Rep.mono e2.pre e2.sub _ _ r1
  cases od <;> try exact hp2.elim
  rename_i kk
  cases id <;> try exact hp2.elim
  rename_i j
  simp only [setIx] at hp2
  unfold Rep at ro
  obtain ⟨p, rfl, hp'⟩ := ro
  simp only [Rep] at r2
  cases hc : S2[kk]? with
  | none => simp [hc, Post] at hp2
  | some c =>
    cases c with
    | frz xs => simp [hc, Post] at hp2
    | lst xs =>
      simp only [hc] at hp2
      cases hj : ixN xs.length j with
      | none => simp [hj, Post] at hp2
      | some jj =>
        simp only [hj, bind_ok] at hp2
        obtain ⟨vs, q1, q2, q3⟩ := R2.ok kk _ p hc hp'
        obtain ⟨R3, e3⟩ := R2.put hc hp' (q2.set jj r0)
        refine ⟨p, vs, j, jj, rfl, r2, q1, by rw [← q2.length]; exact hj, ?_⟩
        exact hp2 _ _ _ σ e3 R3 (((hρ.mono e1).mono e2).mono e3) ⟨rfl, fun _ _ => rfl⟩
def mAsg (m : ME) (g : MG) : MS := fun ρ S => (m ρ S).bind fun d S1 => (g d ρ S1).bind fun ρ1 S2 => .ok (.nx ρ1) S2
theorem snd_asg {Γ : Gm} {t : TE} {g : TG} {mg : MG} {js : List Nat} (h : SndE Γ E t m) (k : SndG Γ E g mg js) : SndS Γ E (tAsg t g) (mAsg m mg) := fun ρ S σ α G H Dn hρ hR hp =>
  h ρ S σ α G H _ hρ hR (posts_bind hp fun d S1 α1 G1 H1 v _ e1 R1 r1 hp1 =>
    k d ρ S1 σ α1 G1 H1 v _ (hρ.mono e1) R1 r1 (posts_bind hp1 fun ρ1 S2 α2 G2 H2 σ2 _ e2 R2 q2 hp2 => fun _ => hp2 α2 G2 H2 σ2 (Ext.refl _ _ _) R2 q2))
theorem qs_asg {tg : Expr} {mg : MG} {js : List Nat} (h : QE X cl E e m) (k : QG X cl E tg mg js) (hs : swapsWithSole [tg] e pos.line X.env = pure false := by rfl) (hw : swappedStores [tg] e X.env = pure none := by rfl)
    (h1 : (assignEach [tg] X.env).map (·.2) = [assign tg X.env] := by rfl) : QS X cl E (.Assign [tg] e pos) (mAsg m mg) := by
  obtain ⟨t, a1, a2⟩ := h.ex
  obtain ⟨g, b1, b2⟩ := k.ex
  exact ⟨_, ps_asg a1 b1 hs hw h1, snd_asg a2 b2⟩
theorem sndg_name {Γ : Gm} (i : Nat) : SndG Γ E (gName i) (mgN i) [i] := fun d ρ S σ α G H v Q hρ hR r hp => by
  refine post_ok (x := σ.set i (some v)) hp hR (hρ.set i r) ⟨by simp, fun j hj => ?_⟩
  rw [List.getElem?_set_ne]
  simpa using fun e => hj (by simp [e])
theorem qs_set (i : Nat) {x : Str} {px : Pos} (h : QE X cl E e m) (hN : X.N.Nodup) (hi : X.N[i]? = some x := by rfl) (hx : Loc X.env.scope x := by first | exact .inl rfl | exact .inr rfl) (hs : swapsWith e (some (.Name x px)) pos.line X.env = pure false := by rfl) (hf : X.fn x = true ∨ X.env.scope.names.lookup x = some .local := by first | exact .inl rfl | exact .inr rfl) :
    QS X cl E (.Assign [.Name x px] e pos) (mAsg m (mgN i)) := by
  obtain ⟨t, a1, a2⟩ := h.ex
  exact ⟨_, ps_set hN hi hx a1 hs hf, snd_asg a2 (sndg_name i)⟩
/-- a, b = x, y with plain local names -/
def mPar (i j : Nat) (n : MA) : MS := fun ρ S => (n ρ S).bind fun ds S1 => match ds with
  | [d, d'] => .ok (.nx ((ρ.set i (some d)).set j (some d'))) S1
  | _ => .no
theorem qs_par (i j : Nat) {x y : Str} {px py pt : Pos} {kt k2 pt2} {na : MA} (hN : X.N.Nodup) (ha : QA X cl E [a, b] na) (hi : X.N[i]? = some x := by rfl) (hj : X.N[j]? = some y := by rfl) (hij : i ≠ j := by decide)
    (hx : X.env.scope.names.lookup x = some .local := by rfl) (hy : X.env.scope.names.lookup y = some .local := by rfl) (hw : swappedStores [.Tuple [.Name x px, .Name y py] kt pt] (.Tuple [a, b] k2 pt2) X.env = pure (some [x, y]) := by rfl)
    (hs : swapsWithSole [.Tuple [.Name x px, .Name y py] kt pt] (.Tuple [a, b] k2 pt2) pos.line X.env = pure false := by rfl) (hc : X.calm = true := by rfl) : QS X cl E (.Assign [.Tuple [.Name x px, .Name y py] kt pt] (.Tuple [a, b] k2 pt2) pos) (mPar i j na) := by
  obtain ⟨t, h1, h2⟩ := ha.ex
  refine ⟨_, ps_par hc hN hi hj hij hx hy h1 hw hs, fun ρ S σ α G H Dn hρ hR hp => h2 ρ S σ α G H _ hρ hR (posts_bind hp fun ds S1 α1 G1 H1 vs _ e1 R1 r1 hp1 => ?_)⟩
  match ds, hp1, r1 with
  | [d, d'], hp1, r1 =>
    obtain ⟨v, v', rfl, rv, rv'⟩ := repL2 r1
    exact ⟨v, v', rfl, hp1 α1 G1 H1 _ (Ext.refl _ _ _) R1 (((hρ.mono e1).set i rv).set j rv')⟩
  | [], hp1, _ => exact hp1.elim
  | [_], hp1, _ => exact hp1.elim
  | _ :: _ :: _ :: _, hp1, _ => exact hp1.elim
/-- x += e, ints -/
def mAugI (i : Nat) (f : Int → Int → Int) (m : ME) : MS := fun ρ S => match ρ[i]? with
  | some (some (.int x)) => (m ρ S).bind fun d S1 => match d with
    | .int y => .ok (.nx (ρ.set i (some (.int (f x y))))) S1
    | _ => .no
  | _ => .no
theorem qs_augI (i : Nat) {f : Int → Int → Int} {x : Str} {px : Pos} {op : Operator} (ho : PIp X op (ipI f)) (h : QE X cl E e m) (hN : X.N.Nodup) (hi : X.N[i]? = some x := by rfl) (hx : Loc X.env.scope x := by first | exact .inl rfl | exact .inr rfl) (hf : X.fn x = true ∨ X.env.scope.names.lookup x = some .local := by first | exact .inl rfl | exact .inr rfl) :
    QS X cl E (.AugAssign (.Name x px) op e pos) (mAugI i f m) := by
  obtain ⟨t, h1, h2⟩ := h.ex
  refine ⟨_, ps_aug hN hi hx h1 ho hf, fun ρ S σ α G H Dn hρ hR hp => ?_⟩
  unfold mAugI at hp
  split at hp
  · rename_i z q
    obtain ⟨v, hv, rv⟩ := hρ.2 i _ q
    simp only [Rep] at rv
    subst rv
    refine ⟨_, hv, h2 ρ S σ α G H _ hρ hR (posts_bind hp fun d S1 α1 G1 H1 w q1 e1 R1 r1 hp1 => ?_)⟩
    clear q1
    cases d <;> try exact hp1.elim
    rename_i y
    simp only [Rep] at r1
    exact ⟨z, y, rfl, r1, hp1 α1 G1 H1 _ (Ext.refl _ _ _) R1 ((hρ.mono e1).set i (by simp [Rep]))⟩
  · exact hp.elim
def appTo (k : Nat) (d : D) (S : Store) : Res D := match S[k]? with
  | some (.lst xs) => if xs.length < 100000 then .ok .non (S.set k (.lst (xs ++ [d]))) else .no
  | _ => .no
def mApp (mo m : ME) : ME := fun ρ S => (mo ρ S).bind fun o S1 => match o with
  | .ref k => (m ρ S1).bind fun d S2 => appTo k d S2
  | _ => .no
theorem listy {Γ : Gm} {α : List Addr} {G H : Hp} {S : Store} (R : Rl Γ α G S H) {k : Nat} {v : V} (r : Rep Γ α G (.ref k) v) : ∃ p, v = .ref p ∧ α[k]? = some p ∧ tyV Γ.K "list" (.ref p) H := by
  unfold Rep at r
  obtain ⟨p, rfl, hp'⟩ := r
  have hk : k < S.length := by rw [← R.len]; exact (List.getElem?_eq_some_iff.mp hp').1
  have z := R.ok k S[k] p (List.getElem?_eq_getElem hk) hp'
  cases q : S[k] with
  | lst xs =>
    rw [q] at z
    obtain ⟨vs, q1, _⟩ := z
    exact ⟨p, rfl, hp', .inl ⟨rfl, vs, .inl (.inl q1)⟩⟩
  | frz xs =>
    rw [q] at z
    obtain ⟨vs, q1, _⟩ := z
    exact ⟨p, rfl, hp', .inl ⟨rfl, vs, .inl (.inl (R.sub _ _ q1))⟩⟩
theorem q_app {o : Expr} {mo : ME} {apos cpos : Pos} (ho : QE X cl E o mo) (he : QE X cl E e m) (hbase : attributeBase o "append" X.env (eval o X.env) = eval o X.env := by rfl)
    (hfew : ((backTo cpos (starEach [e] X.env)).all (fun x => !x.1) && (backToKw cpos (keywordEach [] X.env)).all (fun x => x.1.isSome)
      && decide (([e] : List Expr).length + ([] : List Keyword).length + (if ([] : List Keyword).isEmpty then 0 else 1) < 30)) = true := by rfl)
    (hline : (apos.endLine == cpos.line) = true := by rfl) (hs : starEach [e] X.env = (false, eval e X.env) :: starEach [] X.env := by rfl) (hplain : (backTo cpos (starEach [] X.env)).any (·.1) = false := by rfl) :
    QE X cl E (.Call (.Attribute o "append" apos) [e] [] cpos) (mApp mo m) := by
  obtain ⟨t, h1, h2⟩ := ho.ex
  obtain ⟨u, k1, k2⟩ := he.ex
  refine ⟨_, pe_bm PySem.F.plainAttrs_list PySem.F.slot_list_append PySem.F.type_list_append mt_append h1 (pa_cons k1 pa_nil hs) hbase hfew hline hs hplain, fun ρ S σ α G H Q hρ hR hp => ?_⟩
  refine h2 ρ S σ α G H _ hρ hR (post_bind hp fun od S1 α1 G1 H1 ov q1 e1 R1 r1 hp1 => ?_)
  clear q1
  cases od <;> try exact hp1.elim
  rename_i kk
  obtain ⟨p, rfl, ha1, htv⟩ := listy R1 r1
  refine ⟨htv, ?_⟩
  refine k2 ρ S1 σ α1 G1 H1 _ (hρ.mono e1) R1 (post_bind hp1 fun d S2 α2 G2 H2 v q2 e2 R2 r2 hp2 => ?_)
  have hp' : α2[kk]? = some p := by
    obtain ⟨β, rfl⟩ := e2.pre
    rw [List.getElem?_append_left (List.getElem?_eq_some_iff.mp ha1).1]
    exact ha1
  unfold appTo at hp2
  cases hc : S2[kk]? with
  | none => simp [hc, Post] at hp2
  | some c =>
    cases c with
    | frz xs => simp [hc, Post] at hp2
    | lst xs =>
      simp only [hc] at hp2
      split at hp2
      · rename_i hl
        obtain ⟨vs, q1, q2, q3⟩ := R2.ok kk _ p hc hp'
        obtain ⟨R3, e3⟩ := R2.put hc hp' (q2.append (show RepL ⟨X.K, cl⟩ α2 G2 [d] [v] by unfold RepL; exact ⟨v, [], rfl, r2, by simp [RepL]⟩))
        exact ⟨p, vs, v, rfl, rfl, q1, by rw [← q2.length]; exact Nat.lt_of_lt_of_le hl (by decide), hp2 _ _ _ .non e3 R3 (by simp [Rep])⟩
      · exact hp2.elim
def whileF (t : MT) (b : MS) : Nat → MS
  | 0 => fun _ _ => .no
  | k + 1 => fun ρ S => (t ρ S).bind fun c S1 => match c with
    | false => .ok (.nx ρ) S1
    | true => (b ρ S1).bind fun f S2 => match f with
      | .nx ρ1 => whileF t b k ρ1 S2
      | .ct ρ1 => whileF t b k ρ1 S2
      | .bk ρ1 => .ok (.nx ρ1) S2
      | .rt d => .ok (.rt d) S2
def mWhile (fuel : Env → Store → Nat) (t : MT) (b : MS) : MS := fun ρ S => whileF t b (fuel ρ S) ρ S
theorem snd_while {Γ : Gm} {fuel : Env → Store → Nat} {tc : TT} {tb : TS} (h : SndT Γ E tc mt) (k : SndS Γ E tb n) : SndS Γ E (tWhile tc tb) (mWhile fuel mt n) := fun ρ S σ α G H Dn hρ hR hp => by
  refine ⟨fun j σ H => ∃ ρ S α G, EnvR Γ α G ρ σ ∧ Rl Γ α G S H ∧ PostS Γ E α G H (whileF mt n j ρ S) Dn, ⟨_, ρ, S, α, G, hρ, hR, hp⟩, ?_⟩
  rintro j σ H ⟨ρ, S, α, G, hρ, hR, hp⟩
  cases j with
  | zero => exact hp.elim
  | succ j =>
    refine h ρ S σ α G H _ hρ hR (posts_bind hp fun c S1 α1 G1 H1 c' _ e1 R1 r1 hp1 => ?_)
    have r1 : c = c' := r1
    subst r1
    cases c with
    | false => exact iteF (hp1 α1 G1 H1 σ (Ext.refl _ _ _) R1 (hρ.mono e1))
    | true =>
      refine iteT ⟨fun σ' H' => ∃ m', m' < j + 1 ∧ ∃ ρ S α G, EnvR Γ α G ρ σ' ∧ Rl Γ α G S H' ∧ PostS Γ E α G H' (whileF mt n m' ρ S) Dn, fun σ' H' z => z, ?_⟩
      refine k ρ S1 σ α1 G1 H1 _ (hρ.mono e1) R1 ?_
      simp only at hp1
      cases q : n ρ S1 with
      | no => rw [q] at hp1; exact hp1
      | ex e S' => rw [q] at hp1; exact hp1
      | ok f S2 =>
        rw [q] at hp1
        cases f with
        | nx ρ1 => exact fun α2 G2 H2 σ2 e2 R2 r2 => ⟨j, Nat.lt_succ_self j, ρ1, S2, α2, G2, r2, R2, PostS.mono hp1 e2⟩
        | ct ρ1 => exact fun α2 G2 H2 σ2 e2 R2 r2 => ⟨j, Nat.lt_succ_self j, ρ1, S2, α2, G2, r2, R2, PostS.mono hp1 e2⟩
        | bk ρ1 => exact hp1
        | rt d => exact hp1
theorem qs_while (fuel : Env → Store → Nat) {c : Expr} {body : List Stmt} (hc : QT X cl E c mt) (hb : QSs X cl E body n) (hp : PassesOwn (model X.prog X.w) X.A X.env X.xe := by exact PassesOwn.never) : QS X cl E (.While c body [] pos) (mWhile fuel mt n) := by
  obtain ⟨t, h1, h2⟩ := hc.ex
  obtain ⟨u, k1, k2⟩ := hb.ex
  exact ⟨_, ps_while hp h1 k1, snd_while h2 k2⟩
/-- an iterator yields the data ds wherever the data of the start still stand -/
def Steps (Γ : Gm) (α : List Addr) (G : Hp) (ds : List D) (J : It) : Prop := ∀ (i : Nat) (α2 : List Addr) (G2 H2 : Hp) (S2 : Store), (∃ β, α2 = α ++ β) → Sub G G2 → Rl Γ α2 G2 S2 H2 →
  (ds.length ≤ i → J.stop i H2) ∧ ∀ d, ds[i]? = some d → J.go i H2 ∧ ∀ x H3, J.yld i H2 x H3 → ∃ G3, Rl Γ α2 G3 S2 H3 ∧ Ext α2 G2 H2 α2 G3 H3 ∧ Rep Γ α2 G3 d x
def PostI (Γ : Gm) (E : XK) (α : List Addr) (G H : Hp) (r : Res (List D)) (R : It → Hp → Prop) : Prop := match r with
  | .ok ds S' => ∀ α' G' H' J, Ext α G H α' G' H' → Rl Γ α' G' S' H' → Steps Γ α' G' ds J → R J H'
  | .ex e S' => ∀ α' G' H' c x, Ext α G H α' G' H' → Rl Γ α' G' S' H' → ExR Γ α' G' e c x H' → E c x H'
  | .no => False
theorem PostI.mono {Γ : Gm} {α α1 : List Addr} {G H G1 H1 : Hp} {r : Res (List D)} {R : It → Hp → Prop} (h : PostI Γ E α G H r R) (e : Ext α G H α1 G1 H1) : PostI Γ E α1 G1 H1 r R := by
  cases r with
  | ok d S' => exact fun α' G' H' v x rl rp => h α' G' H' v (e.trans x) rl rp
  | ex d S' => exact fun α' G' H' c x y rl rp => h α' G' H' c x (e.trans y) rl rp
  | no => exact h
theorem posti_bind {Γ : Gm} {β γ : Type} {R : List Addr → Hp → β → γ → Prop} {α : List Addr} {G H : Hp} {r : Res β} {f : β → Store → Res (List D)} {RI : It → Hp → Prop} {Q : γ → Hp → Prop} (h : PostI Γ E α G H (r.bind f) RI)
    (k : ∀ a S1 α1 G1 H1 x, r = .ok a S1 → Ext α G H α1 G1 H1 → Rl Γ α1 G1 S1 H1 → R α1 G1 a x → PostI Γ E α1 G1 H1 (f a S1) RI → Q x H1) : Post Γ R α G H r Q E := by
  cases r with
  | ok d S' =>
    intro α' G' H' v e rl rp
    exact k d S' α' G' H' v rfl e rl rp (PostI.mono h e)
  | ex e S' => exact h
  | no => exact h
def SndI (Γ : Gm) (E : XK) (wi : TI) (mi : MA) : Prop := ∀ (ρ : Env) (S : Store) (σ : L2.St) (α : List Addr) (G H : Hp) (R : It → Hp → Prop), EnvR Γ α G ρ σ → Rl Γ α G S H → PostI Γ E α G H (mi ρ S) R → wi σ H R
structure QI (X : Cx) (cl : Nat → Addr) (E : XK) (tg iter : Expr) (mi : MA) : Prop where
  ex : ∃ wi, PI X tg iter wi ∧ SndI ⟨X.K, cl⟩ E wi mi
theorem PI.or {tg it : Expr} {t u : TI} (h : PI X tg it t) (h' : PI X tg it u) : PI X tg it (fun σ H R => t σ H R ∨ u σ H R) := ⟨fun pins s σ H R I q => q.elim (fun q => h.run pins s σ H R I q) (fun q => h'.run pins s σ H R I q)⟩
/-- a list or a tuple that changes no more -/
def itemsOf : D → Store → Res (List D) := fun d S => match d with
  | .tup xs => .ok xs S
  | .lst xs => .ok xs S
  | .fro xs => .ok xs S
  | _ => .no
def mItems (m : ME) : MA := fun ρ S => (m ρ S).bind itemsOf
theorem steps_list {Γ : Gm} {α : List Addr} {G : Hp} {ds : List D} {a : Addr} {vs : List V} (h : SqL Γ.K G a vs) (r : RepL Γ α G ds vs) : Steps Γ α G ds (Itl Γ.K a) := fun i α2 G2 H2 S2 hp hs R2 => by
  have q : SqL Γ.K H2 a vs := (hs.trans R2.sub).sqL h
  have r2 : RepL Γ α2 G2 ds vs := RepL.mono hp hs _ _ r
  refine ⟨fun hl => ⟨vs, q, by rw [← r2.length]; exact hl⟩, fun d hd => ?_⟩
  obtain ⟨v, hv, rv⟩ := r2.get hd
  refine ⟨⟨vs, v, q, hv⟩, fun x H3 hy => ?_⟩
  obtain ⟨rfl, f⟩ := hy
  have e := f vs q
  rw [hv] at e
  cases e
  exact ⟨G2, R2, Ext.refl _ _ _, rv⟩
theorem steps_tup {Γ : Gm} {α : List Addr} {G : Hp} {ds : List D} {a : Addr} {vs : List V} (h : SqT Γ.K G a vs) (r : RepL Γ α G ds vs) : Steps Γ α G ds (Itt Γ.K a) := fun i α2 G2 H2 S2 hp hs R2 => by
  have q : SqT Γ.K H2 a vs := (hs.trans R2.sub).sqT h
  have r2 : RepL Γ α2 G2 ds vs := RepL.mono hp hs _ _ r
  refine ⟨fun hl => ⟨vs, q, by rw [← r2.length]; exact hl⟩, fun d hd => ?_⟩
  obtain ⟨v, hv, rv⟩ := r2.get hd
  refine ⟨⟨vs, v, q, hv⟩, fun x H3 hy => ?_⟩
  obtain ⟨rfl, f⟩ := hy
  have e := f vs q
  rw [hv] at e
  cases e
  exact ⟨G2, R2, Ext.refl _ _ _, rv⟩
theorem qi_items {tg it : Expr} (h : QE X cl E it m) : QI X cl E tg it (mItems m) := by
  obtain ⟨t, h1, h2⟩ := h.ex
  refine ⟨_, PI.or (pi_list h1) (pi_tup h1), fun ρ S σ α G H R hρ hR hp => ?_⟩
  have lists : ∀ xs S', m ρ S = .ok (.lst xs) S' → iList X.K t σ H R := fun xs S' q => by
    refine h2 ρ S σ α G H _ hρ hR (posti_bind hp fun d S1 α1 G1 H1 v q1 e1 R1 r1 hp1 => ?_)
    rw [q] at q1
    cases q1
    unfold Rep at r1
    obtain ⟨a, vs, rfl, q2, r2⟩ := r1
    exact ⟨a, rfl, ⟨vs, R1.sub.sqL (.inl (.inl q2))⟩, hp1 α1 G1 H1 _ (Ext.refl _ _ _) R1 (steps_list (Γ := ⟨X.K, cl⟩) (.inl (.inl q2)) r2)⟩
  have fros : ∀ xs S', m ρ S = .ok (.fro xs) S' → iList X.K t σ H R := fun xs S' q => by
    refine h2 ρ S σ α G H _ hρ hR (posti_bind hp fun d S1 α1 G1 H1 v q1 e1 R1 r1 hp1 => ?_)
    rw [q] at q1
    cases q1
    unfold Rep at r1
    obtain ⟨a, vs, rfl, q2, r2⟩ := r1
    exact ⟨a, rfl, ⟨vs, R1.sub.sqL q2⟩, hp1 α1 G1 H1 _ (Ext.refl _ _ _) R1 (steps_list (Γ := ⟨X.K, cl⟩) q2 r2)⟩
  have tups : ∀ xs S', m ρ S = .ok (.tup xs) S' → iTup X.K t σ H R := fun xs S' q => by
    refine h2 ρ S σ α G H _ hρ hR (posti_bind hp fun d S1 α1 G1 H1 v q1 e1 R1 r1 hp1 => ?_)
    rw [q] at q1
    cases q1
    unfold Rep at r1
    obtain ⟨a, vs, rfl, q2, r2⟩ := r1
    exact ⟨a, rfl, ⟨vs, R1.sub.sqT q2⟩, hp1 α1 G1 H1 _ (Ext.refl _ _ _) R1 (steps_tup (Γ := ⟨X.K, cl⟩) q2 r2)⟩
  cases q : m ρ S with
  | no => unfold mItems at hp; rw [q] at hp; exact hp.elim
  | ex e S' =>
    -- the exception comes ahead of the walk: either reading carries it
    refine .inl (h2 ρ S σ α G H _ hρ hR ?_)
    unfold mItems at hp
    rw [q] at hp ⊢
    exact hp
  | ok d S' =>
    cases d with
    | lst xs => exact .inl (lists xs S' q)
    | fro xs => exact .inl (fros xs S' q)
    | tup xs => exact .inr (tups xs S' q)
    | _ => (unfold mItems at hp; rw [q] at hp; exact hp.elim)
def rangeD (lo : Int) (k : Nat) : List D := (List.range k).map fun (i : Nat) => .int (lo + (i : Int))
theorem steps_range {Γ : Gm} {α : List Addr} {G : Hp} (lo : Int) (k : Nat) : Steps Γ α G (rangeD lo k) (Itr lo k) := fun i α2 G2 H2 S2 hp hs R2 => by
  refine ⟨fun hl => (by simpa [rangeD] using hl : k ≤ i), fun d hd => ?_⟩
  unfold rangeD at hd
  rw [List.getElem?_map] at hd
  cases q : (List.range k)[i]? with
  | none => simp [q] at hd
  | some j =>
    simp only [q, Option.map_some, Option.some.injEq] at hd
    have hi := List.getElem?_eq_some_iff.mp q
    obtain ⟨h1, h2⟩ := hi
    simp at h1 h2
    subst h2
    refine ⟨h1, fun x H3 hy => ?_⟩
    obtain ⟨rfl, rfl⟩ := hy
    exact ⟨G2, R2, Ext.refl _ _ _, by subst hd; simp [Rep]⟩
def mRange1 (m : ME) : MA := fun ρ S => (m ρ S).bind fun d S1 => match d with
  | .int j => if j.natAbs < 2 ^ 62 then .ok (rangeD 0 j.toNat) S1 else .no
  | _ => .no
def mRange2 (m m' : ME) : MA := fun ρ S => (m ρ S).bind fun d S1 => (m' ρ S1).bind fun d' S2 => match d, d' with
  | .int i, .int j => if i.natAbs < 2 ^ 62 ∧ j.natAbs < 2 ^ 62 then .ok (rangeD i (j - i).toNat) S2 else .no
  | _, _ => .no
theorem qi_range1 {tg a : Expr} {p pos : Pos} (h : QE X cl E a m) (hg : Gl X "range") (hm : X.mg "range" = none) (hs : starEach [a] X.env = [(false, eval a X.env)] := by rfl) : QI X cl E tg (.Call (.Name "range" p) [a] [] pos) (mRange1 m) := by
  obtain ⟨t, h1, h2⟩ := h.ex
  refine ⟨_, pi_range1 hg hm (pa_cons h1 pa_nil (by rw [hs]; rfl)) hs, fun ρ S σ α G H R hρ hR hp => h2 ρ S σ α G H _ hρ hR (posti_bind hp fun d S1 α1 G1 H1 v q1 e1 R1 r1 hp1 => ?_)⟩
  clear q1
  cases d <;> try exact hp1.elim
  rename_i j
  simp only at hp1
  simp only [Rep] at r1
  subst r1
  split at hp1
  · rename_i hb
    exact ⟨j, rfl, by omega, by omega, hp1 α1 G1 H1 _ (Ext.refl _ _ _) R1 (steps_range 0 j.toNat)⟩
  · exact hp1.elim
theorem qi_range2 {tg a b : Expr} {p pos : Pos} (h : QE X cl E a ma) (h' : QE X cl E b mb) (hg : Gl X "range") (hm : X.mg "range" = none) (hs : starEach [a, b] X.env = [(false, eval a X.env), (false, eval b X.env)] := by rfl) (hs2 : starEach [b] X.env = [(false, eval b X.env)] := by rfl) : QI X cl E tg (.Call (.Name "range" p) [a, b] [] pos) (mRange2 ma mb) := by
  obtain ⟨t, h1, h2⟩ := h.ex
  obtain ⟨u, k1, k2⟩ := h'.ex
  refine ⟨_, pi_range2 hg hm (pa_cons h1 (pa_cons k1 pa_nil (by rw [hs2]; rfl)) (by rw [hs, hs2])) hs hs2, fun ρ S σ α G H R hρ hR hp => h2 ρ S σ α G H _ hρ hR (posti_bind hp fun d S1 α1 G1 H1 v q1 e1 R1 r1 hp1 => ?_)⟩
  refine k2 ρ S1 σ α1 G1 H1 _ (hρ.mono e1) R1 (posti_bind hp1 fun d' S2 α2 G2 H2 w q2 e2 R2 r2 hp2 => ?_)
  clear q1 q2
  cases d <;> cases d' <;> try exact hp2.elim
  rename_i i j
  simp only at hp2
  simp only [Rep] at r1 r2
  subst r1 r2
  split at hp2
  · rename_i hb
    exact ⟨i, j, rfl, by omega, hp2 α2 G2 H2 _ (Ext.refl _ _ _) R2 (steps_range i _)⟩
  · exact hp2.elim
def forL (g : MG) (b : MS) : List D → MS
  | [] => fun ρ S => .ok (.nx ρ) S
  | d :: ds => fun ρ S => (g d ρ S).bind fun ρ1 S1 => (b ρ1 S1).bind fun f S2 => match f with
    | .nx ρ2 => forL g b ds ρ2 S2
    | .ct ρ2 => forL g b ds ρ2 S2
    | .bk ρ2 => .ok (.nx ρ2) S2
    | .rt d => .ok (.rt d) S2
def mFor (mi : MA) (g : MG) (b : MS) : MS := fun ρ S => (mi ρ S).bind fun ds S1 => forL g b ds ρ S1
theorem posts_i {Γ : Gm} {α : List Addr} {G H : Hp} {r : Res (List D)} {f : List D → Store → Res Fl} {Dn : Ends} {R : It → Hp → Prop} (h : PostS Γ E α G H (r.bind f) Dn)
    (k : ∀ ds S1 α1 G1 H1 J, Ext α G H α1 G1 H1 → Rl Γ α1 G1 S1 H1 → Steps Γ α1 G1 ds J → PostS Γ E α1 G1 H1 (f ds S1) Dn → R J H1) : PostI Γ E α G H r R := by
  cases r with
  | ok d S' =>
    intro α' G' H' v e rl rp
    exact k d S' α' G' H' v e rl rp (PostS.mono h e)
  | ex e S' => exact h
  | no => exact h
theorem snd_for {Γ : Gm} {wi : TI} {mi : MA} {g : TG} {mg : MG} {js : List Nat} {tb : TS} (hi : SndI Γ E wi mi) (hg : SndG Γ E g mg js) (hb : SndS Γ E tb n) : SndS Γ E (tFor wi g tb) (mFor mi mg n) := fun ρ S σ α G H Dn hρ hR hp => by
  refine hi ρ S σ α G H _ hρ hR (posts_i hp fun ds S1 α1 G1 H1 J e1 R1 st hp1 => ?_)
  refine ⟨fun i k σ H => k = ds.length - i ∧ i ≤ ds.length ∧ ∃ ρ S α2 G2, Ext α1 G1 H1 α2 G2 H ∧ EnvR Γ α2 G2 ρ σ ∧ Rl Γ α2 G2 S H ∧ PostS Γ E α2 G2 H (forL mg n (ds.drop i) ρ S) Dn, ⟨ds.length, by simp, Nat.zero_le _, ρ, S1, α1, G1, Ext.refl _ _ _, hρ.mono e1, R1, by simpa using hp1⟩, ?_⟩
  rintro i k σ2 H2 ⟨rfl, hle, ρ2, S2, α2, G2, e2, hρ2, R2, hp2⟩
  obtain ⟨stop, go⟩ := st i α2 G2 H2 S2 e2.pre e2.sub R2
  by_cases hlt : i < ds.length
  · have hd : ds[i]? = some ds[i] := List.getElem?_eq_getElem hlt
    obtain ⟨hgo, hy⟩ := go _ hd
    refine .inr ⟨hgo, fun σ' H' => ∃ ρ S α2 G2, Ext α1 G1 H1 α2 G2 H' ∧ EnvR Γ α2 G2 ρ σ' ∧ Rl Γ α2 G2 S H' ∧ PostS Γ E α2 G2 H' (forL mg n (ds.drop (i + 1)) ρ S) Dn, fun σ' H' z => ⟨ds.length - (i + 1), by omega, rfl, hlt, z⟩, fun x H3 y3 => ?_⟩
    obtain ⟨G3, R3, e3, rx⟩ := hy x H3 y3
    rw [List.drop_eq_getElem_cons hlt] at hp2
    have hp3 := PostS.mono hp2 e3
    refine hg ds[i] ρ2 S2 σ2 α2 G3 H3 x _ (hρ2.mono e3) R3 rx (posts_bind hp3 fun ρ4 S4 α4 G4 H4 σ4 q4 e4 R4 r4 hp4 => fun _ => ?_)
    refine hb ρ4 S4 σ4 α4 G4 H4 _ r4 R4 ?_
    clear q4
    have e14 : Ext α1 G1 H1 α4 G4 H4 := (e2.trans e3).trans e4
    cases q : n ρ4 S4 with
    | no => rw [q] at hp4; exact hp4
    | ex e S' => rw [q] at hp4; exact hp4
    | ok f S5 =>
      rw [q] at hp4
      cases f with
      | nx ρ5 => exact fun α5 G5 H5 σ5 e5 R5 r5 => ⟨ρ5, S5, α5, G5, e14.trans e5, r5, R5, PostS.mono hp4 e5⟩
      | ct ρ5 => exact fun α5 G5 H5 σ5 e5 R5 r5 => ⟨ρ5, S5, α5, G5, e14.trans e5, r5, R5, PostS.mono hp4 e5⟩
      | bk ρ5 => exact hp4
      | rt d => exact hp4
  · refine .inl ⟨stop (by omega), ?_⟩
    rw [List.drop_of_length_le (by omega)] at hp2
    exact hp2 α2 G2 H2 σ2 (Ext.refl _ _ _) R2 hρ2
theorem qs_for {tg it : Expr} {body : List Stmt} {mi : MA} {mg : MG} {js : List Nat} (hi : QI X cl E tg it mi) (hg : QG X cl E tg mg js) (hb : QSs X cl E body n) (hp : PassesOwn (model X.prog X.w) X.A X.env X.xe := by exact PassesOwn.never) (hc : X.calm = true := by rfl)
    (hs : ∀ x, foldedSetIterable it X.env x = pure x := by intro _; rfl) : QS X cl E (.For tg it body [] pos) (mFor mi mg n) := by
  obtain ⟨wi, h1, h2⟩ := hi.ex
  obtain ⟨g, k1, k2⟩ := hg.ex
  obtain ⟨tb, l1, l2⟩ := hb.ex
  exact ⟨_, ps_for hp hc h1 k1 l1 hs, snd_for h2 k2 l2⟩
/-- the slots of the block's own names forgotten -/
def wp (ρ : Env) : List Nat → Env
  | [] => ρ
  | v :: vs => (wp ρ vs).set v none
theorem wp_length (ρ : Env) : ∀ vs : List Nat, (wp ρ vs).length = ρ.length
  | [] => rfl
  | v :: vs => by unfold wp; rw [List.length_set, wp_length ρ vs]
theorem wipe_get {σ : L2.St} {i : Nat} : ∀ {vs : List Nat}, i ∉ vs → (wipe σ vs)[i]? = σ[i]?
  | [], _ => rfl
  | v :: vs, h => by
    unfold wipe
    rw [List.getElem?_set_ne (fun e => h (by simp [e]))]
    exact wipe_get fun z => h (List.mem_cons_of_mem _ z)
theorem wipe_in {σ : L2.St} {i : Nat} : ∀ {vs : List Nat}, i ∈ vs → i < σ.length → (wipe σ vs)[i]? = some none
  | v :: vs, h, hl => by
    unfold wipe
    by_cases e : v = i
    · subst e
      rw [List.getElem?_set_self (by rw [wipe_length]; exact hl)]
    · rw [List.getElem?_set_ne e]
      exact wipe_in ((List.mem_cons.mp h).resolve_left fun z => e z.symm) hl
/-- what a target of the block's own names stores is wiped again -/
theorem wipe_same {σ τ : L2.St} {vs js : List Nat} (hl : τ.length = (wipe σ vs).length) (ho : ∀ i, i ∉ js → τ[i]? = (wipe σ vs)[i]?) (hj : ∀ j ∈ js, j ∈ vs) : wipe τ vs = wipe σ vs := by
  rw [wipe_length] at hl
  apply List.ext_getElem?
  intro i
  by_cases hi : i ∈ vs
  · by_cases hb : i < σ.length
    · rw [wipe_in hi hb, wipe_in hi (by rw [hl]; exact hb)]
    · rw [List.getElem?_eq_none (by rw [wipe_length]; omega), List.getElem?_eq_none (by rw [wipe_length]; omega)]
  · rw [wipe_get hi, ho i fun z => hi (hj i z)]
theorem EnvR.wp {Γ : Gm} {α : List Addr} {G : Hp} {ρ : Env} {σ : L2.St} (h : EnvR Γ α G ρ σ) : ∀ vs : List Nat, EnvR Γ α G (wp ρ vs) (wipe σ vs)
  | [] => h
  | v :: vs => by
    have ih := EnvR.wp h vs
    unfold Q.wp wipe
    refine ⟨by simp [ih.1], fun i d hd => ?_⟩
    by_cases e : v = i
    · subst e
      have hl := (List.getElem?_eq_some_iff.mp hd).1
      rw [List.length_set] at hl
      rw [List.getElem?_set_self hl] at hd
      cases hd
    · rw [List.getElem?_set_ne e] at hd ⊢
      exact ih.2 i d hd
def lcL (g : MG) (t : MT) (m : ME) (ρ : Env) : List D → Store → Res (List D)
  | [], S => .ok [] S
  | d :: ds, S => (g d ρ S).bind fun ρ1 S1 => (t ρ1 S1).bind fun b S2 => match b with
    | true => (m ρ1 S2).bind fun v S3 => (lcL g t m ρ ds S3).bind fun vs S4 => .ok (v :: vs) S4
    | false => lcL g t m ρ ds S2
/-- [e for g in mi if t], a list that changes no more -/
def mLc (mi : MA) (g : MG) (t : MT) (m : ME) (vs : List Nat) : ME := fun ρ S => (mi ρ S).bind fun ds S1 => if ds.length ≤ 100000 then (lcL g t m (wp ρ vs) ds S1).bind fun xs S2 => .ok (.lst xs) S2 else .no
/-- .. a new cell -/
def mLcC (mi : MA) (g : MG) (t : MT) (m : ME) (vs : List Nat) : ME := fun ρ S => (mi ρ S).bind fun ds S1 => if ds.length ≤ 100000 then (lcL g t m (wp ρ vs) ds S1).bind fun xs S2 => .ok (.ref S2.length) (S2 ++ [.lst xs]) else .no
/-- a state beside which a list is being made -/
theorem Rl.patch {Γ : Gm} {α : List Addr} {G H : Hp} {S : Store} (R : Rl Γ α G S H) {p : Addr} (hp : p ∉ α) (hg : G p = none) (o : HO) : Rl Γ α G S (upd H p o) := by
  have ne : ∀ a ∈ α, a ≠ p := fun a m e => by subst e; exact hp m
  refine ⟨fun a u e => ?_, R.len, R.nd, fun a m => by rw [upd_ne (ne a m)]; exact R.tr a m, fun k c a hc ha => ?_⟩
  · rw [upd_ne (fun z => by subst z; rw [hg] at e; cases e)]; exact R.sub a u e
  · have z := R.ok k c a hc ha
    cases c with
    | lst ds =>
      obtain ⟨vs, h1, h2, h3⟩ := z
      exact ⟨vs, by rw [upd_ne (ne a (List.mem_of_getElem? ha))]; exact h1, h2, h3⟩
    | frz ds => exact z
theorem Ext.patch {α α' : List Addr} {G G' H H' : Hp} (e : Ext α G H α' G' H') {p : Addr} (hp : H p = none) (o : HO) : Ext α G H α' G' (upd H' p o) :=
  ⟨e.pre, e.sub, fun a u h m => by rw [upd_ne (ne_of_none h hp)]; exact e.fr a u h m, e.na, e.ng⟩
/-- the state while the list at p holds vs so far -/
structure Mid (Γ : Gm) (α1 : List Addr) (G1 H1 : Hp) (p : Addr) (α : List Addr) (G : Hp) (S : Store) (H : Hp) (vs : List V) : Prop where
  ext : Ext α1 G1 H1 α G H
  rl : Rl Γ α G S H
  at_ : H p = some (.lst vs)
  na : p ∉ α
  ng : G p = none
theorem Mid.step {Γ : Gm} {α1 α α' : List Addr} {G1 H1 G H G' H' : Hp} {p : Addr} {S S' : Store} {vs : List V} (M : Mid Γ α1 G1 H1 p α G S H vs) (e : Ext α G H α' G' H') (R : Rl Γ α' G' S' H') : Mid Γ α1 G1 H1 p α' G' S' H' vs := by
  refine ⟨M.ext.trans e, R, e.fr p _ M.at_ M.na, fun m => ?_, ?_⟩
  · rcases e.na p m with z | z
    · exact M.na z
    · rw [M.at_] at z; cases z
  · cases q : G' p with
    | none => rfl
    | some o =>
      rcases e.ng p (by rw [q]; simp) with z | z | z
      · exact absurd M.ng z
      · exact absurd z M.na
      · rw [M.at_] at z; cases z
theorem Mid.push {Γ : Gm} {α1 α : List Addr} {G1 H1 G H : Hp} {p : Addr} {S : Store} {vs : List V} (M : Mid Γ α1 G1 H1 p α G S H vs) (hp : H1 p = none) (ws : List V) : Mid Γ α1 G1 H1 p α G S (upd H p (.lst ws)) ws :=
  ⟨M.ext.patch hp _, M.rl.patch M.na M.ng _, upd_same, M.na, M.ng⟩
/-- the list is made: it changes no more -/
theorem Mid.done {Γ : Gm} {α1 α : List Addr} {G1 H1 G H : Hp} {p : Addr} {S : Store} {vs : List V} (M : Mid Γ α1 G1 H1 p α G S H vs) (hp : H1 p = none) : Rl Γ α (upd G p (.lst vs)) S H ∧ Ext α1 G1 H1 α (upd G p (.lst vs)) H := by
  have sg : Sub G (upd G p (.lst vs)) := Sub.new M.ng
  refine ⟨⟨fun a u e => ?_, M.rl.len, M.rl.nd, M.rl.tr, fun k c a hc ha => ?_⟩, ⟨M.ext.pre, M.ext.sub.trans sg, M.ext.fr, M.ext.na, fun a h => ?_⟩⟩
  · by_cases z : a = p
    · subst z; rw [upd_same] at e; cases e; exact M.at_
    · rw [upd_ne z] at e; exact M.rl.sub a u e
  · have ne : a ≠ p := fun z => by subst z; exact M.na (List.mem_of_getElem? ha)
    have z := M.rl.ok k c a hc ha
    cases c with
    | lst ds =>
      obtain ⟨vs, h1, h2, h3⟩ := z
      exact ⟨vs, h1, RepL.mono ⟨[], by simp⟩ sg _ _ h2, by rw [upd_ne ne]; exact h3⟩
    | frz ds =>
      obtain ⟨vs, h1, h2⟩ := z
      exact ⟨vs, sg _ _ h1, RepL.mono ⟨[], by simp⟩ sg _ _ h2⟩
  · by_cases z : a = p
    · subst z; exact .inr (.inr hp)
    · rw [upd_ne z] at h; exact M.ext.ng a h
/-- .. it is a new cell -/
theorem Mid.cell {Γ : Gm} {α1 α : List Addr} {G1 H1 G H : Hp} {p : Addr} {S : Store} {ds : List D} {vs : List V} (M : Mid Γ α1 G1 H1 p α G S H vs) (hp : H1 p = none) (r : RepL Γ α G ds vs) :
    Rl Γ (α ++ [p]) G (S ++ [.lst ds]) H ∧ Ext α1 G1 H1 (α ++ [p]) G H ∧ Rep Γ (α ++ [p]) G (.ref S.length) (.ref p) := by
  have mono : ∀ {ds vs}, RepL Γ α G ds vs → RepL Γ (α ++ [p]) G ds vs := fun {ds vs} h => RepL.mono ⟨[p], rfl⟩ (Sub.refl G) _ _ h
  refine ⟨⟨M.rl.sub, by simp [M.rl.len], ?_, fun a m => ?_, fun k c a hc ha => ?_⟩, ⟨?_, M.ext.sub, M.ext.fr, fun a m => ?_, M.ext.ng⟩, ?_⟩
  · rw [List.nodup_append]
    exact ⟨M.rl.nd, by simp, fun a m b mb => by simp at mb; subst mb; exact fun z => by subst z; exact M.na m⟩
  · rcases List.mem_append.mp m with m | m
    · exact M.rl.tr a m
    · simp at m; subst m; rw [M.at_]; simp
  · by_cases hk : k < α.length
    · rw [List.getElem?_append_left hk] at ha
      rw [List.getElem?_append_left (by rw [← M.rl.len]; exact hk)] at hc
      have z := M.rl.ok k c a hc ha
      cases c with
      | lst ds =>
        obtain ⟨vs, h1, h2, h3⟩ := z
        exact ⟨vs, h1, mono h2, h3⟩
      | frz ds =>
        obtain ⟨vs, h1, h2⟩ := z
        exact ⟨vs, h1, mono h2⟩
    · rw [List.getElem?_append_right (by omega)] at ha
      rw [List.getElem?_append_right (by rw [← M.rl.len]; omega)] at hc
      have e1 : k - α.length = 0 := by
        have := (List.getElem?_eq_some_iff.mp ha).1
        simp at this
        omega
      have e2 : k - S.length = 0 := by rw [← M.rl.len]; exact e1
      rw [e1] at ha
      rw [e2] at hc
      simp at ha hc
      subst ha
      subst hc
      exact ⟨vs, M.at_, mono r, M.ng⟩
  · obtain ⟨β, rfl⟩ := M.ext.pre
    exact ⟨β ++ [p], by simp⟩
  · rcases List.mem_append.mp m with m | m
    · exact M.ext.na a m
    · simp at m; subst m; exact .inr hp
  · unfold Rep
    exact ⟨p, rfl, by rw [← M.rl.len]; simp⟩
/-- what is wanted of the walk through the items: behind it, the list that was made -/
def PostL (Γ : Gm) (E : XK) (α1 : List Addr) (G1 H1 : Hp) (p : Addr) (acc : List D) (r : Res (List D)) (Q : VK) : Prop := match r with
  | .ok xs S' => ∀ α G H vs, Mid Γ α1 G1 H1 p α G S' H vs → RepL Γ α G (acc ++ xs) vs → Q (.ref p) H
  | .ex e S' => ∀ α G H c x, Ext α1 G1 H1 α G H → Rl Γ α G S' H → ExR Γ α G e c x H → E c x H
  | .no => False
theorem snd_lc {Γ : Gm} {wi : TI} {mi : MA} {g : TG} {mg : MG} {js vs : List Nat} {tt : TT} {te : TE} (hi : SndI Γ E wi mi) (hg : SndG Γ E g mg js) (ht : SndT Γ E tt mt) (he : SndE Γ E te m) (hj : ∀ j ∈ js, j ∈ vs) (cellQ : Bool) :
    SndE Γ E (tLc wi g tt te vs) (if cellQ then mLcC mi mg mt m vs else mLc mi mg mt m vs) := fun ρ S σ α G H Q hρ hR hp => by
  have main : ∀ ds S1 α1 G1 H1 J, Ext α G H α1 G1 H1 → Rl Γ α1 G1 S1 H1 → Steps Γ α1 G1 ds J → ds.length ≤ 100000 → ∀ p, H1 p = none → PostL Γ E α1 G1 H1 p [] (lcL mg mt m (wp ρ vs) ds S1) Q → ∃ W : Nat → Nat → Hp → Prop, (∃ m, W 0 m (upd H1 p (.lst []))) ∧ ∀ i m H, W i m H →
      (J.stop i H ∧ Q (.ref p) H) ∨ (J.go i H ∧ ∃ Nx : Hp → Prop, (∀ H', Nx H' → ∃ m', m' < m ∧ W (i + 1) m' H') ∧ ∀ x H', J.yld i H x H' → g x (wipe σ vs) H' fun σ2 H2 => wipe σ2 vs = wipe σ vs ∧ tt σ2 H2 fun b H3 =>
        if b = true then te σ2 H3 fun y H4 => ∃ acc, H4 p = some (.lst acc) ∧ acc.length < sizeLine ∧ Nx (upd H4 p (.lst (acc ++ [y]))) else Nx H3) := by
    intro ds S1 α1 G1 H1 J e1 R1 st hl p hp0 hq
    have hpa : p ∉ α1 := fun z => R1.tr p z hp0
    have hpg : G1 p = none := R1.gnone hp0
    refine ⟨fun i k H => k = ds.length - i ∧ i ≤ ds.length ∧ ∃ S2 α2 G2 acc ws, Mid Γ α1 G1 H1 p α2 G2 S2 H ws ∧ RepL Γ α2 G2 acc ws ∧ acc.length ≤ i ∧ PostL Γ E α1 G1 H1 p acc (lcL mg mt m (wp ρ vs) (ds.drop i) S2) Q,
      ⟨ds.length, by simp, Nat.zero_le _, S1, α1, G1, [], [], ⟨(Ext.refl _ _ _).patch hp0 _, R1.patch hpa hpg _, upd_same, hpa, hpg⟩, by simp [RepL], Nat.le_refl _, by simpa using hq⟩, ?_⟩
    rintro i k H2 ⟨rfl, hle, S2, α2, G2, acc, ws, M2, r2, ha2, hq2⟩
    obtain ⟨stop, go⟩ := st i α2 G2 H2 S2 M2.ext.pre M2.ext.sub M2.rl
    by_cases hlt : i < ds.length
    · have hd : ds[i]? = some ds[i] := List.getElem?_eq_getElem hlt
      obtain ⟨hgo, hy⟩ := go _ hd
      refine .inr ⟨hgo, fun H' => ∃ S2 α2 G2 acc ws, Mid Γ α1 G1 H1 p α2 G2 S2 H' ws ∧ RepL Γ α2 G2 acc ws ∧ acc.length ≤ i + 1 ∧ PostL Γ E α1 G1 H1 p acc (lcL mg mt m (wp ρ vs) (ds.drop (i + 1)) S2) Q, fun H' z => ⟨ds.length - (i + 1), by omega, rfl, hlt, z⟩, fun x H3 y3 => ?_⟩
      obtain ⟨G3, R3, e3, rx⟩ := hy x H3 y3
      have M3 := M2.step e3 R3
      rw [List.drop_eq_getElem_cons hlt] at hq2
      simp only [lcL] at hq2
      have hρ3 : EnvR Γ α2 G3 (wp ρ vs) (wipe σ vs) := by
        have := (hρ.mono e1).mono (M3.ext)
        exact this.wp vs
      refine hg ds[i] (wp ρ vs) S2 (wipe σ vs) α2 G3 H3 x _ hρ3 R3 rx ?_
      cases q4 : mg ds[i] (wp ρ vs) S2 with
      | no => rw [q4] at hq2; exact hq2.elim
      | ex e' S' =>
        rw [q4] at hq2
        exact fun α' G' H' c x e R r => hq2 α' G' H' c x (M3.ext.trans e) R r
      | ok ρ4 S4 =>
        rw [q4] at hq2
        dsimp only [Res.bind] at hq2
        intro α4 G4 H4 σ4 e4 R4 r4 ⟨l4, o4⟩
        have M4 := M3.step e4 R4
        refine ⟨wipe_same l4 o4 hj, ?_⟩
        refine ht ρ4 S4 σ4 α4 G4 H4 _ r4 R4 ?_
        cases q5 : mt ρ4 S4 with
        | no => rw [q5] at hq2; exact hq2.elim
        | ex e' S' =>
          rw [q5] at hq2
          exact fun α' G' H' c x e R r => hq2 α' G' H' c x (M4.ext.trans e) R r
        | ok b S5 =>
          rw [q5] at hq2
          dsimp only [Res.bind] at hq2
          intro α5 G5 H5 b' e5 R5 rb
          have rb : b = b' := rb
          subst rb
          have M5 := M4.step e5 R5
          have r5 : RepL Γ α5 G5 acc ws := RepL.mono e5.pre e5.sub _ _ (RepL.mono e4.pre e4.sub _ _ (RepL.mono e3.pre e3.sub _ _ r2))
          cases b with
          | false => exact iteF ⟨S5, α5, G5, acc, ws, M5, r5, by omega, hq2⟩
          | true =>
            refine iteT (he ρ4 S5 σ4 α5 G5 H5 _ (r4.mono e5) R5 ?_)
            cases q6 : m ρ4 S5 with
            | no => rw [q6] at hq2; exact hq2.elim
            | ex e' S' =>
              rw [q6] at hq2
              exact fun α' G' H' c x e R r => hq2 α' G' H' c x (M5.ext.trans e) R r
            | ok v S6 =>
              rw [q6] at hq2
              dsimp only [Res.bind] at hq2
              intro α6 G6 H6 y e6 R6 ry
              have M6 := M5.step e6 R6
              have r6 : RepL Γ α6 G6 acc ws := RepL.mono e6.pre e6.sub _ _ r5
              refine ⟨ws, M6.at_, ?_, S6, α6, G6, acc ++ [v], ws ++ [y], M6.push hp0 _, r6.append (by unfold RepL; exact ⟨y, [], rfl, ry, by simp [RepL]⟩), by simp; omega, ?_⟩
              · rw [← r6.length]
                exact Nat.lt_of_le_of_lt (by omega : acc.length ≤ 100000) (by decide)
              · cases q7 : lcL mg mt m (wp ρ vs) (ds.drop (i + 1)) S6 with
                | no => rw [q7] at hq2; exact hq2.elim
                | ex e' S' => rw [q7] at hq2; exact hq2
                | ok xs S7 =>
                  rw [q7] at hq2
                  intro α7 G7 H7 vs7 M7 r7
                  refine hq2 α7 G7 H7 vs7 M7 ?_
                  rw [List.append_assoc] at r7
                  exact r7
    · refine .inl ⟨stop (by omega), ?_⟩
      rw [List.drop_of_length_le (by omega)] at hq2
      exact hq2 α2 G2 H2 ws M2 (by simpa using r2)
  refine hi ρ S σ α G H _ hρ hR ?_
  cases cellQ with
  | false =>
    simp only [Bool.false_eq_true, if_false, mLc] at hp
    cases q : mi ρ S with
    | no => rw [q] at hp; exact hp
    | ex e S' => rw [q] at hp; exact hp
    | ok ds S1 =>
      rw [q] at hp
      intro α1 G1 H1 J e1 R1 st p hp0
      have hp := (show Post Γ (Rep Γ) α G H (if ds.length ≤ 100000 then _ else _) Q E from hp)
      split at hp
      · rename_i hl
        have hp1 := Post.mono hp e1
        refine main ds S1 α1 G1 H1 J e1 R1 st hl p hp0 ?_
        cases q2 : lcL mg mt m (wp ρ vs) ds S1 with
        | no => rw [q2] at hp1; exact hp1.elim
        | ex e S' => rw [q2] at hp1; exact hp1
        | ok xs S2 =>
          rw [q2] at hp1
          intro α2 G2 H2 ws M r
          obtain ⟨R3, e3⟩ := M.done hp0
          have r' : RepL Γ α2 (upd G2 p (.lst ws)) xs ws := RepL.mono (α := α2) ⟨[], by simp⟩ (Sub.new M.ng) xs ws (by simpa using r)
          exact hp1 α2 _ H2 (.ref p) e3 R3 (rep_lst upd_same r')
      · exact hp.elim
  | true =>
    simp only [if_true, mLcC] at hp
    cases q : mi ρ S with
    | no => rw [q] at hp; exact hp
    | ex e S' => rw [q] at hp; exact hp
    | ok ds S1 =>
      rw [q] at hp
      intro α1 G1 H1 J e1 R1 st p hp0
      have hp := (show Post Γ (Rep Γ) α G H (if ds.length ≤ 100000 then _ else _) Q E from hp)
      split at hp
      · rename_i hl
        have hp1 := Post.mono hp e1
        refine main ds S1 α1 G1 H1 J e1 R1 st hl p hp0 ?_
        cases q2 : lcL mg mt m (wp ρ vs) ds S1 with
        | no => rw [q2] at hp1; exact hp1.elim
        | ex e S' => rw [q2] at hp1; exact hp1
        | ok xs S2 =>
          rw [q2] at hp1
          intro α2 G2 H2 ws M r
          obtain ⟨R3, e3, r3⟩ := M.cell hp0 (by simpa using r)
          exact hp1 _ _ H2 (.ref p) e3 R3 r3
      · exact hp.elim
structure QTs (X : Cx) (cl : Nat → Addr) (E : XK) (ifs : List Expr) (m : MT) : Prop where
  ex : ∃ t, PTs X ifs t ∧ SndT ⟨X.K, cl⟩ E t m
def mYes : MT := fun _ S => .ok true S
theorem snd_yes {Γ : Gm} : SndT Γ E tYes mYes := fun ρ S σ α G H Q hρ hR hp => post_ok (x := true) hp hR rfl
end
section
variable {X : Cx} {cl : Nat → Addr} {E : XK} {m : ME} {mt : MT} {pos : Pos}
def tE (Γ : Gm) (E : XK) (m : ME) : TE := fun σ H Q => ∃ ρ S α G, EnvR Γ α G ρ σ ∧ Rl Γ α G S H ∧ Post Γ (Rep Γ) α G H (m ρ S) Q E
def tT (Γ : Gm) (E : XK) (m : MT) : TT := fun σ H Q => ∃ ρ S α G, EnvR Γ α G ρ σ ∧ Rl Γ α G S H ∧ Post Γ RB α G H (m ρ S) Q E
def tG (Γ : Gm) (E : XK) (mg : MG) (js : List Nat) : TG := fun v σ H Q => ∃ d ρ S α G, EnvR Γ α G ρ σ ∧ Rl Γ α G S H ∧ Rep Γ α G d v ∧ Post Γ (EnvR Γ) α G H (mg d ρ S) (fun σ' H' => σ'.length = σ.length ∧ (∀ i, i ∉ js → σ'[i]? = σ[i]?) → Q σ' H') E
theorem QE.can {e : Expr} (h : QE X cl E e m) : PE X e (tE ⟨X.K, cl⟩ E m) := by
  obtain ⟨t, h1, h2⟩ := h.ex
  exact ⟨fun pins s σ H Q I ⟨ρ, S, α, G, hρ, hR, hp⟩ => h1.run pins s σ H Q I (h2 ρ S σ α G H Q hρ hR hp)⟩
theorem QT.can {e : Expr} (h : QT X cl E e mt) : PT X e (tT ⟨X.K, cl⟩ E mt) := by
  obtain ⟨t, h1, h2⟩ := h.ex
  exact ⟨fun pins s σ H Q I ⟨ρ, S, α, G, hρ, hR, hp⟩ => h1.run pins s σ H Q I (h2 ρ S σ α G H Q hρ hR hp)⟩
theorem QG.can {e : Expr} {mg : MG} {js : List Nat} (h : QG X cl E e mg js) : PG X e (tG ⟨X.K, cl⟩ E mg js) := by
  obtain ⟨t, h1, h2⟩ := h.ex
  exact ⟨fun pins s σ H v u Q I r ⟨d, ρ, S, α, G, hρ, hR, rd, hp⟩ => h1.run pins s σ H v u Q I r (h2 d ρ S σ α G H v Q hρ hR rd hp)⟩
theorem snd_tE {Γ : Gm} : SndE Γ E (tE Γ E m) m := fun ρ S σ α G H Q hρ hR hp => ⟨ρ, S, α, G, hρ, hR, hp⟩
theorem snd_tT {Γ : Gm} : SndT Γ E (tT Γ E mt) mt := fun ρ S σ α G H Q hρ hR hp => ⟨ρ, S, α, G, hρ, hR, hp⟩
theorem snd_tG {Γ : Gm} {mg : MG} {js : List Nat} : SndG Γ E (tG Γ E mg js) mg js := fun d ρ S σ α G H v Q hρ hR rd hp => ⟨d, ρ, S, α, G, hρ, hR, rd, hp⟩
/-- the context of a comprehension's block -/
abbrev Blk (X : Cx) (scope : Scope) (s : Shared) (H : Hp) (C : Addr) (c : List (Str × Addr)) (fp : List Addr) : Cx := X.blk s H scope (compEnvC scope c C X.env) fp
variable {elt tg iter c : Expr} {scope : Scope} {mi : MA} {mg : MG} {js : List Nat}
/-- [elt for tg in iter] -/
theorem q_lc (own : List (Str × Nat)) (hi : QI X cl E tg iter mi) (hN : X.N.Nodup) (ok : BlkOk X.N X.env.scope scope own)
    (hg : ∀ (s : Shared) (H : Hp) (C : Addr) (c : List (Str × Addr)) (fp : List Addr), QG (Blk X scope s H C c fp) cl E tg mg js)
    (he : ∀ (s : Shared) (H : Hp) (C : Addr) (c : List (Str × Addr)) (fp : List Addr), QE (Blk X scope s H C c fp) cl E elt m)
    (hj : ∀ j ∈ js, j ∈ own.map (·.2) := by decide) (hc : X.calm = true := by rfl) (hs : ∀ x, foldedSetIterable iter X.env x = pure x := by intro _; rfl) :
    QE X cl E (.ListComp elt [⟨tg, iter, [], 0⟩] scope pos) (mLc mi mg mYes m (own.map (·.2))) := by
  obtain ⟨wi, h1, h2⟩ := hi.ex
  exact ⟨_, pe_lc hc hN h1 ok (fun s H C c fp => (hg s H C c fp).can) (fun _ _ _ _ _ => pts_nil) (fun s H C c fp => (he s H C c fp).can) hs, snd_lc (Γ := ⟨X.K, cl⟩) h2 snd_tG snd_yes snd_tE hj false⟩
theorem q_lcC (own : List (Str × Nat)) (hi : QI X cl E tg iter mi) (hN : X.N.Nodup) (ok : BlkOk X.N X.env.scope scope own)
    (hg : ∀ (s : Shared) (H : Hp) (C : Addr) (c : List (Str × Addr)) (fp : List Addr), QG (Blk X scope s H C c fp) cl E tg mg js)
    (he : ∀ (s : Shared) (H : Hp) (C : Addr) (c : List (Str × Addr)) (fp : List Addr), QE (Blk X scope s H C c fp) cl E elt m)
    (hj : ∀ j ∈ js, j ∈ own.map (·.2) := by decide) (hc : X.calm = true := by rfl) (hs : ∀ x, foldedSetIterable iter X.env x = pure x := by intro _; rfl) :
    QE X cl E (.ListComp elt [⟨tg, iter, [], 0⟩] scope pos) (mLcC mi mg mYes m (own.map (·.2))) := by
  obtain ⟨wi, h1, h2⟩ := hi.ex
  exact ⟨_, pe_lc hc hN h1 ok (fun s H C c fp => (hg s H C c fp).can) (fun _ _ _ _ _ => pts_nil) (fun s H C c fp => (he s H C c fp).can) hs, snd_lc (Γ := ⟨X.K, cl⟩) h2 snd_tG snd_yes snd_tE hj true⟩
/-- [elt for tg in iter if c] -/
theorem q_lcIf (own : List (Str × Nat)) (hi : QI X cl E tg iter mi) (hN : X.N.Nodup) (ok : BlkOk X.N X.env.scope scope own)
    (hg : ∀ (s : Shared) (H : Hp) (C : Addr) (c : List (Str × Addr)) (fp : List Addr), QG (Blk X scope s H C c fp) cl E tg mg js)
    (ht : ∀ (s : Shared) (H : Hp) (C : Addr) (c' : List (Str × Addr)) (fp : List Addr), QT (Blk X scope s H C c' fp) cl E c mt)
    (he : ∀ (s : Shared) (H : Hp) (C : Addr) (c : List (Str × Addr)) (fp : List Addr), QE (Blk X scope s H C c fp) cl E elt m)
    (hj : ∀ j ∈ js, j ∈ own.map (·.2) := by decide) (hc : X.calm = true := by rfl) (hs : ∀ x, foldedSetIterable iter X.env x = pure x := by intro _; rfl) :
    QE X cl E (.ListComp elt [⟨tg, iter, [c], 0⟩] scope pos) (mLc mi mg mt m (own.map (·.2))) := by
  obtain ⟨wi, h1, h2⟩ := hi.ex
  exact ⟨_, pe_lc hc hN h1 ok (fun s H C c fp => (hg s H C c fp).can) (fun s H C c fp => pts_one (ht s H C c fp).can) (fun s H C c fp => (he s H C c fp).can) hs, snd_lc (Γ := ⟨X.K, cl⟩) h2 snd_tG snd_tT snd_tE hj false⟩
theorem q_lcIfC (own : List (Str × Nat)) (hi : QI X cl E tg iter mi) (hN : X.N.Nodup) (ok : BlkOk X.N X.env.scope scope own)
    (hg : ∀ (s : Shared) (H : Hp) (C : Addr) (c : List (Str × Addr)) (fp : List Addr), QG (Blk X scope s H C c fp) cl E tg mg js)
    (ht : ∀ (s : Shared) (H : Hp) (C : Addr) (c' : List (Str × Addr)) (fp : List Addr), QT (Blk X scope s H C c' fp) cl E c mt)
    (he : ∀ (s : Shared) (H : Hp) (C : Addr) (c : List (Str × Addr)) (fp : List Addr), QE (Blk X scope s H C c fp) cl E elt m)
    (hj : ∀ j ∈ js, j ∈ own.map (·.2) := by decide) (hc : X.calm = true := by rfl) (hs : ∀ x, foldedSetIterable iter X.env x = pure x := by intro _; rfl) :
    QE X cl E (.ListComp elt [⟨tg, iter, [c], 0⟩] scope pos) (mLcC mi mg mt m (own.map (·.2))) := by
  obtain ⟨wi, h1, h2⟩ := hi.ex
  exact ⟨_, pe_lc hc hN h1 ok (fun s H C c fp => (hg s H C c fp).can) (fun s H C c fp => pts_one (ht s H C c fp).can) (fun s H C c fp => (he s H C c fp).can) hs, snd_lc (Γ := ⟨X.K, cl⟩) h2 snd_tG snd_tT snd_tE hj true⟩
/-- name = [elt for tg in iter ..], stored within the comprehension's own frame -/
theorem qs_setLc (i : Nat) {y : Str} {py spos : Pos} {ifs : List Expr} (own : List (Str × Nat)) (cellQ : Bool) (hi : QI X cl E tg iter mi) (hN : X.N.Nodup) (ok : BlkOk X.N X.env.scope scope own)
    (hg : ∀ (s : Shared) (H : Hp) (C : Addr) (c : List (Str × Addr)) (fp : List Addr), QG (Blk X scope s H C c fp) cl E tg mg js)
    (ht : ∀ (s : Shared) (H : Hp) (C : Addr) (c' : List (Str × Addr)) (fp : List Addr), PTs (Blk X scope s H C c' fp) ifs (tT ⟨X.K, cl⟩ E mt))
    (he : ∀ (s : Shared) (H : Hp) (C : Addr) (c : List (Str × Addr)) (fp : List Addr), QE (Blk X scope s H C c fp) cl E elt m)
    (hj : ∀ j ∈ js, j ∈ own.map (·.2) := by decide) (hy : X.N[i]? = some y := by rfl) (hyl : X.env.scope.names.lookup y = some .local := by rfl) (hc : X.calm = true := by rfl)
    (hsw : swapsWith (.ListComp elt [⟨tg, iter, ifs, 0⟩] scope pos) (some (.Name y py)) spos.line X.env = pure true := by exact sw_true rfl rfl rfl (by decide +kernel)) (hs : ∀ x, foldedSetIterable iter X.env x = pure x := by intro _; rfl) :
    QS X cl E (.Assign [.Name y py] (.ListComp elt [⟨tg, iter, ifs, 0⟩] scope pos) spos) (mAsg (if cellQ then mLcC mi mg mt m (own.map (·.2)) else mLc mi mg mt m (own.map (·.2))) (mgN i)) := by
  obtain ⟨wi, h1, h2⟩ := hi.ex
  exact ⟨_, ps_setLc hc hN hy hyl hsw h1 ok (fun s H C c fp => (hg s H C c fp).can) ht (fun s H C c fp => (he s H C c fp).can) hs, snd_asg (snd_lc (Γ := ⟨X.K, cl⟩) h2 snd_tG snd_tT snd_tE hj cellQ) (sndg_name i)⟩
theorem ts_nil : PTs X [] (tT ⟨X.K, cl⟩ E mYes) := ⟨fun pins s σ H Q I ⟨ρ, S, α, G, hρ, hR, hp⟩ => pts_nil.run pins s σ H Q I (snd_yes ρ S σ α G H Q hρ hR hp)⟩
theorem ts_one (h : QT X cl E c mt) : PTs X [c] (tT ⟨X.K, cl⟩ E mt) := pts_one h.can
end
/-- the cells of the caller that were changed hold data without cells -/
def Cell.pure : Cell → Bool
  | .lst ds => pureL ds
  | .frz ds => pureL ds
/-- what a def hands back: its own cells are gone -/
def fin (n : Nat) (d : D) (S : Store) : Res D := if S.length = n then .ok d S else if pureD d && (S.take n).all Cell.pure then .ok d (S.take n) else .no
def endM (n : Nat) (r : Res Fl) : Res D := match r with
  | .ok (.nx _) S => fin n .non S
  | .ok (.rt d) S => fin n d S
  | _ => .no
/-- a def's function of data: nN names, nP of them parameters -/
def fnM (nN nP : Nat) (n : MS) : List D → Store → Res D := fun ds S => if ds.length = nP then endM S.length (n (ds.map some ++ List.replicate (nN - nP) none) S) else .no
/-- a def's own cells are left behind -/
theorem Rl.cut {Γ : Gm} {α α' : List Addr} {G H G' H' : Hp} {S S' : Store} (e : Ext α G H α' G' H') (R : Rl Γ α' G' S' H') (R0 : Rl Γ α G S H) (hp : (S'.take S.length).all Cell.pure = true) : Rl Γ α G' (S'.take S.length) H' ∧ Ext α G H α G' H' := by
  obtain ⟨β, rfl⟩ := e.pre
  have hl : S.length ≤ S'.length := by rw [← R.len, ← R0.len]; simp
  refine ⟨⟨R.sub, by rw [R0.len, List.length_take]; omega, R0.nd, fun a m => R.tr a (List.mem_append_left _ m), fun k c a hc ha => ?_⟩, ⟨⟨[], by simp⟩, e.sub, e.fr, fun a m => .inl m, e.ng⟩⟩
  have hk : k < α.length := (List.getElem?_eq_some_iff.mp ha).1
  have hc' : S'[k]? = some c := by
    rw [List.getElem?_take_of_lt (by rw [← R0.len]; exact hk)] at hc
    exact hc
  have z := R.ok k c a hc' (by rw [List.getElem?_append_left hk]; exact ha)
  have pc : c.pure = true := List.all_eq_true.mp hp c (List.mem_of_getElem? hc)
  cases c with
  | lst ds =>
    obtain ⟨vs, h1, h2, h3⟩ := z
    exact ⟨vs, h1, pureL_rep ds vs pc h2, h3⟩
  | frz ds =>
    obtain ⟨vs, h1, h2⟩ := z
    exact ⟨vs, h1, pureL_rep ds vs pc h2⟩
theorem fin_post {Γ : Gm} {E : XK} {α : List Addr} {G H : Hp} {S : Store} {d : D} {S' : Store} {Q : VK} (R0 : Rl Γ α G S H) (hp : Post Γ (Rep Γ) α G H (fin S.length d S') Q E) : ∀ α' G' H' v, Ext α G H α' G' H' → Rl Γ α' G' S' H' → Rep Γ α' G' d v → Q v H' := by
  intro α' G' H' v e R r
  unfold fin at hp
  split at hp
  · exact hp α' G' H' v e R r
  · split at hp
    · rename_i hc
      rw [Bool.and_eq_true] at hc
      obtain ⟨R1, e1⟩ := Rl.cut e R R0 hc.2
      exact hp α G' H' v e1 R1 (pure_rep d v hc.1 r)
    · exact hp.elim
section
variable {P : Program} {w : World} {K : PySem.W.Frag} {mg : Str → Option Value} {base : Heap}
theorem envR_start {Γ : Gm} {α : List Addr} {G : Hp} {ds : List D} {vs : List V} {N : List Str} (r : RepL Γ α G ds vs) : EnvR Γ α G (ds.map some ++ List.replicate (N.length - vs.length) none) (L2.start N vs) := by
  have hl := r.length
  unfold L2.start
  refine ⟨by simp [hl], fun i d hd => ?_⟩
  by_cases hi : i < ds.length
  · rw [List.getElem?_append_left (by simpa using hi), List.getElem?_map] at hd
    cases q : ds[i]? with
    | none => simp [q] at hd
    | some e =>
      simp only [q, Option.map_some, Option.some.injEq] at hd
      subst hd
      obtain ⟨v, hv, rv⟩ := r.get q
      exact ⟨v, by rw [List.getElem?_append_left (by simpa [← hl] using hi), List.getElem?_map, hv]; rfl, rv⟩
  · rw [List.getElem?_append_right (by simpa using hi), List.getElem?_replicate] at hd
    split at hd <;> cases hd
open PySem.Spec PyProof.Rows in
/-- THE RULE: a def that lets no exception out -/
theorem fn_ok {x qual : Str} {st : Stmt} {f : Addr} {fd : FuncData} {N ps : List Str} {k : Nat} {cl : Nat → Addr} (nN nP : Nat) {n : MS} (F : Fun K x qual st f fd) (S : FnScope N ps (defScope st))
    (hbody : ∀ (cdv : Value) (A : Around) (outer : List PySem.Env) (s : Shared) (H : Hp) (E : XK), Room k (A.deeper (envOfC qual (defScope st) s.heap.objs.size f cdv)) → QSs (cxOf CX0 P w K mg base N qual (defScope st) f cdv A outer s H E).nox cl E0 (defBody st) n)
    (hN : N.length = nN := by rfl) (hP : ps.length = nP := by rfl) : FnOk P w K mg base CX0 (k + 1) f fd ps (spM ⟨K, cl⟩ (fnM nN nP n)) := by
  refine F.ok S (fun vs H Q E h => ?_) (fun cdv A outer s H vs Q E hr h => ?_)
  · obtain ⟨ds, α, G, S, r, hR, hp⟩ := h
    unfold fnM at hp
    split at hp
    · rename_i e
      rw [← r.length, e, hP]
    · exact hp.elim
  · obtain ⟨ds, α, G, S', r, hR, hp⟩ := h
    obtain ⟨t, h1, h2⟩ := (hbody cdv A outer s H E hr).ex
    refine ⟨t, h1, ?_⟩
    unfold fnM at hp
    split at hp
    · rename_i e
      rw [← hN, ← hP, show ps.length = vs.length by rw [hP, ← e, r.length]] at hp
      refine h2 _ S' _ α G H _ (envR_start r) hR ?_
      revert hp
      cases n (ds.map some ++ List.replicate (N.length - vs.length) none) S' with
      | no => exact id
      | ex e S2 => exact fun hp => hp.elim
      | ok fl S2 =>
        cases fl with
        | nx ρ => exact fun hp α' G' H' σ' e R _ => fin_post hR hp α' G' H' .non e R (by simp [Rep])
        | rt d => exact fun hp α' G' H' v e R r => fin_post hR hp α' G' H' v e R r
        | bk ρ => exact fun hp => hp.elim
        | ct ρ => exact fun hp => hp.elim
    · exact hp.elim
/-- a def that may hand a new cell to its caller -/
def endC (r : Res Fl) : Res D := match r with
  | .ok (.nx _) S => .ok .non S
  | .ok (.rt d) S => .ok d S
  | _ => .no
def fnC (nN nP : Nat) (n : MS) : List D → Store → Res D := fun ds S => if ds.length = nP then endC (n (ds.map some ++ List.replicate (nN - nP) none) S) else .no
open PySem.Spec PyProof.Rows in
theorem fn_okC {x qual : Str} {st : Stmt} {f : Addr} {fd : FuncData} {N ps : List Str} {k : Nat} {cl : Nat → Addr} (nN nP : Nat) {n : MS} (F : Fun K x qual st f fd) (S : FnScope N ps (defScope st))
    (hbody : ∀ (cdv : Value) (A : Around) (outer : List PySem.Env) (s : Shared) (H : Hp) (E : XK), Room k (A.deeper (envOfC qual (defScope st) s.heap.objs.size f cdv)) → QSs (cxOf CX0 P w K mg base N qual (defScope st) f cdv A outer s H E).nox cl E0 (defBody st) n)
    (hN : N.length = nN := by rfl) (hP : ps.length = nP := by rfl) : FnOk P w K mg base CX0 (k + 1) f fd ps (spM ⟨K, cl⟩ (fnC nN nP n)) := by
  refine F.ok S (fun vs H Q E h => ?_) (fun cdv A outer s H vs Q E hr h => ?_)
  · obtain ⟨ds, α, G, S, r, hR, hp⟩ := h
    unfold fnC at hp
    split at hp
    · rename_i e
      rw [← r.length, e, hP]
    · exact hp.elim
  · obtain ⟨ds, α, G, S', r, hR, hp⟩ := h
    obtain ⟨t, h1, h2⟩ := (hbody cdv A outer s H E hr).ex
    refine ⟨t, h1, ?_⟩
    unfold fnC at hp
    split at hp
    · rename_i e
      rw [← hN, ← hP, show ps.length = vs.length by rw [hP, ← e, r.length]] at hp
      refine h2 _ S' _ α G H _ (envR_start r) hR ?_
      revert hp
      cases n (ds.map some ++ List.replicate (N.length - vs.length) none) S' with
      | no => exact id
      | ex e S2 => exact fun hp => hp.elim
      | ok fl S2 =>
        cases fl with
        | nx ρ => exact fun hp α' G' H' σ' e R _ => hp α' G' H' .non e R (by simp [Rep])
        | rt d => exact fun hp α' G' H' v e R r => hp α' G' H' v e R r
        | bk ρ => exact fun hp => hp.elim
        | ct ρ => exact fun hp => hp.elim
    · exact hp.elim
/-- a def without a promise: no fuel is left -/
theorem fn_none {CX : CXT} {f : Addr} {fd : FuncData} {ps : List Str} {k : Nat} {cl : Nat → Addr} : FnOk P w K mg base CX k f fd ps (spM ⟨K, cl⟩ fun _ _ => .no) :=
  ⟨fun vs H Q E ⟨_, _, _, _, _, _, h⟩ => h.elim, fun A outer s H args us vs Q E _ _ _ _ ⟨_, _, _, _, _, _, h⟩ => h.elim⟩
/-- the promise of the law itself -/
def spLaw (K : PySem.W.Frag) : Sp := fun vs H Q _ => ∃ (a : Addr) (ns : List Int), vs = [.ref a] ∧ SqL K H a (ns.map V.int) ∧ ns.length ≤ 63 ∧ ∀ H', Q (.bl true) H'
def scriptD (ns : List Int) : D := .fro (ns.map D.int)
theorem repL_ints {Γ : Gm} {α : List Addr} {G : Hp} : ∀ ns : List Int, RepL Γ α G (ns.map D.int) (ns.map V.int)
  | [] => by simp [RepL]
  | n :: ns => by
    show RepL Γ α G (.int n :: ns.map D.int) (.int n :: ns.map V.int)
    unfold RepL
    exact ⟨.int n, _, rfl, by simp [Rep], repL_ints ns⟩
theorem law_ok {CX : CXT} {k : Nat} {f : Addr} {fd : FuncData} {ps : List Str} {cl : Nat → Addr} {g : List D → Store → Res D} (F : FnOk P w K mg base CX k f fd ps (spM ⟨K, cl⟩ g)) (h : ∀ ns : List Int, ns.length ≤ 63 → ∃ S, g [scriptD ns] [] = .ok (.bl true) S) : FnOk P w K mg base CX k f fd ps (spLaw K) :=
  F.imp fun vs H Q E ⟨a, ns, e, hs, hl, q⟩ => by
    subst e
    obtain ⟨S, hg⟩ := h ns hl
    refine ⟨[scriptD ns], [], H, [], ?_, ⟨Sub.refl H, rfl, List.nodup_nil, fun a m => (by simp at m), fun k c a h => (by simp at h)⟩, ?_⟩
    · unfold RepL
      exact ⟨.ref a, [], rfl, by unfold scriptD Rep; exact ⟨a, _, rfl, hs, repL_ints ns⟩, by simp [RepL]⟩
    · rw [hg]
      intro α' G' H' v e R r
      simp only [Rep] at r
      subst r
      exact q H'
end
end Q
namespace Q
open PySem L2
section
variable {X : Cx} {cl : Nat → Addr} {E : XK} {a b c e : Expr} {ma mb mc m : ME} {mt mu : MT} {pos : Pos}
def mChain (f f' : D → D → Store → Res D) (ma mb mc : ME) : ME := fun ρ S => (ma ρ S).bind fun x S1 => (mb ρ S1).bind fun y S2 => (f x y S2).bind fun z S3 => match z with
  | .bl true => (mc ρ S3).bind fun w S4 => f' y w S4
  | .bl false => .ok (.bl false) S3
  | _ => .no
theorem snd_chain {Γ : Gm} {r r' : R2} {f f' : D → D → Store → Res D} {ta tb tc : TE} (hr : SndR Γ E r f) (hr' : SndR Γ E r' f') (ha : SndE Γ E ta ma) (hb : SndE Γ E tb mb) (hc : SndE Γ E tc mc) : SndE Γ E (tChain r r' ta tb tc) (mChain f f' ma mb mc) := fun ρ S σ α G H Q hρ hR h =>
  ha ρ S σ α G H _ hρ hR (post_bind h fun x S1 α1 G1 H1 v _ e1 R1 r1 h1 =>
    hb ρ S1 σ α1 G1 H1 _ (hρ.mono e1) R1 (post_bind h1 fun y S2 α2 G2 H2 w _ e2 R2 r2 h2 =>
      hr x y S2 α2 G2 H2 v w _ R2 (Rep.mono e2.pre e2.sub _ _ r1) r2 (post_bind h2 fun z S3 α3 G3 H3 u _ e3 R3 r3 h3 => by
        cases z <;> try exact h3.elim
        rename_i k _
        simp only [Rep] at r3
        refine ⟨k, r3, ?_⟩
        cases k with
        | false => exact iteF (post_ok h3 R3 (by simp [Rep]))
        | true => exact iteT (hc ρ S3 σ α3 G3 H3 _ (((hρ.mono e1).mono e2).mono e3) R3 (post_bind h3 fun q S4 α4 G4 H4 u4 _ e4 R4 r4 h4 =>
            hr' y q S4 α4 G4 H4 w u4 Q R4 (Rep.mono e4.pre e4.sub _ _ (Rep.mono e3.pre e3.sub _ _ r2)) r4 h4)))))
theorem q_chain {op op' : CmpOp} {f f' : D → D → Store → Res D} (ho : QR X cl E (compareOp op) f) (ho' : QR X cl E (compareOp op') f') (ha : QE X cl E a ma) (hb : QE X cl E b mb) (hc : QE X cl E c mc) (hm : lastMarks [op, op'] [b, c] = false := by with_unfolding_all rfl) :
    QE X cl E (.Compare a [op, op'] [b, c] pos) (mChain f f' ma mb mc) := by
  obtain ⟨r, h1, h2⟩ := ho.ex
  obtain ⟨r', h1', h2'⟩ := ho'.ex
  obtain ⟨ta, a1, a2⟩ := ha.ex
  obtain ⟨tb, b1, b2⟩ := hb.ex
  obtain ⟨tc, c1, c2⟩ := hc.ex
  exact ⟨_, pe_chain h1 h1' a1 b1 c1 hm, snd_chain h2 h2' a2 b2 c2⟩
theorem q_tchain {op op' : CmpOp} {f f' : D → D → Store → Res D} (ho : QR X cl E (compareOp op) f) (ho' : QR X cl E (compareOp op') f') (ha : QE X cl E a ma) (hb : QE X cl E b mb) (hc : QE X cl E c mc) (hm : lastMarks [op, op'] [b, c] = false := by with_unfolding_all rfl) :
    QT X cl E (.Compare a [op, op'] [b, c] pos) (mTB (mChain f f' ma mb mc)) := by
  obtain ⟨r, h1, h2⟩ := ho.ex
  obtain ⟨r', h1', h2'⟩ := ho'.ex
  obtain ⟨ta, a1, a2⟩ := ha.ex
  obtain ⟨tb, b1, b2⟩ := hb.ex
  obtain ⟨tc, c1, c2⟩ := hc.ex
  exact ⟨_, pt_chain h1 h1' a1 b1 c1 hm, snd_tb (snd_chain h2 h2' a2 b2 c2)⟩
/-- the i-th ones, in this order -/
def place {β : Type} (idx : List Nat) (xs : List β) : List β := idx.filterMap fun i => xs[i]?
theorem place_cons {β : Type} (i : Nat) (idx : List Nat) (xs : List β) : place (i :: idx) xs = match xs[i]? with
    | some x => x :: place idx xs
    | none => place idx xs := by
  unfold place
  rw [List.filterMap_cons]
  cases xs[i]? <;> rfl
theorem place_rep {Γ : Gm} {α : List Addr} {G : Hp} {ds : List D} {vs : List V} (r : RepL Γ α G ds vs) : ∀ idx : List Nat, RepL Γ α G (place idx ds) (place idx vs)
  | [] => by simp [place, RepL]
  | i :: idx => by
    rw [place_cons, place_cons]
    cases q : ds[i]? with
    | none =>
      have : vs[i]? = none := by
        rw [List.getElem?_eq_none_iff] at q ⊢
        rw [← r.length]; exact q
      rw [this]
      exact place_rep r idx
    | some d =>
      obtain ⟨v, hv, rv⟩ := r.get q
      rw [hv]
      simp only
      unfold RepL
      exact ⟨v, _, rfl, rv, place_rep r idx⟩
theorem place_vals {vs : List V} {us : List Value} (r : Vals vs us) : ∀ idx : List Nat, Vals (place idx vs) (place idx us)
  | [] => .nil
  | i :: idx => by
    rw [place_cons, place_cons]
    cases q : vs[i]? with
    | none =>
      rw [r.none_of q]
      exact place_vals r idx
    | some d =>
      obtain ⟨v, hv, rv⟩ := r.get q
      rw [hv]
      exact .cons rv (place_vals r idx)
theorem kbn {K : PySem.W.Frag} {x qual : Str} {st : Stmt} {f : Addr} {fd : FuncData} {ps ks : List Str} (F : Fun K x qual st f fd) (n : Nat) (idx : List Nat)
    (h : ∀ (kV doc pm : Value) (an : Option Addr) (cdv ct : Value) (us ws : List Value), us.length = n → ws.length = ks.length → bindArgs (PySem.W.fnOf x qual (defArgs st) (defBody st) (defScope st) .none kV doc pm an cdv ct) ⟨us, ks.zip ws⟩ = pure (ps.zip (place idx (us ++ ws)))) :
    KBn K fd ps n ks (fun us ws => place idx (us ++ ws)) (fun us ws => place idx (us ++ ws)) := by
  obtain ⟨oc, od, kV, doc, pm, an, cdv, ct, osl, rfl, lk, hcd⟩ := F.ex
  exact ⟨fun s us ws _ h1 h2 => .of_eq (h kV doc pm an cdv ct us ws h1 h2), fun r1 r2 => place_vals (r1.append r2) idx⟩
structure QK (X : Cx) (cl : Nat → Addr) (E : XK) (kws : List Keyword) (m : MA) : Prop where
  ex : ∃ t, PK X kws t ∧ SndA ⟨X.K, cl⟩ E t m
theorem qk_nil : QK X cl E [] mNil := ⟨_, pk_nil, snd_nil⟩
theorem qk_cons {kws : List Keyword} {n : MA} {nm : Option Str} {kpos : Pos} (h : QE X cl E e m) (k : QK X cl E kws n) : QK X cl E (⟨nm, e, kpos⟩ :: kws) (mCons m n) := by
  obtain ⟨t, h1, h2⟩ := h.ex
  obtain ⟨u, k1, k2⟩ := k.ex
  exact ⟨_, pk_cons h1 k1, snd_cons h2 k2⟩
def mCallK (g : List D → Store → Res D) (i j : Nat) (idx : List Nat) (n nk : MA) : ME := fun ρ S => (n ρ S).bind fun ds S1 => (nk ρ S1).bind fun zs S2 => if ds.length = i ∧ zs.length = j then g (place idx (ds ++ zs)) S2 else .no
theorem snd_callK {Γ : Gm} {sp : Sp} {E' : XK} {g : List D → Store → Res D} {i j : Nat} {idx : List Nat} {n nk : MA} {t tk : TA} (hf : SndC Γ E (fun vs H Q => sp vs H Q E') g) (h : SndA Γ E t n) (k : SndA Γ E tk nk) :
    SndE Γ E (tCallN i j sp (fun us ws => place idx (us ++ ws)) E' t tk) (mCallK g i j idx n nk) := fun ρ S σ α G H Q hρ hR hp =>
  h ρ S σ α G H _ hρ hR (post_bind hp fun ds S1 α1 G1 H1 vs _ e1 R1 r1 hp1 => k ρ S1 σ α1 G1 H1 _ (hρ.mono e1) R1 (post_bind hp1 fun zs S2 α2 G2 H2 ws _ e2 R2 r2 hp2 => by
    split at hp2
    · rename_i hl
      have r1' := RepL.mono e2.pre e2.sub _ _ r1
      exact ⟨by rw [← r1'.length]; exact hl.1, by rw [← r2.length]; exact hl.2, hf _ S2 α2 G2 H2 _ Q R2 (place_rep (r1'.append r2) idx) hp2⟩
    · exact hp2.elim))
/-- f(e, .., k = v, ..) -/
theorem q_callK {g f : List D → Store → Res D} {k i j : Nat} {idx : List Nat} {fa : Addr} {fd : FuncData} {ps ks : List Str} {x : Str} {p : Pos} {es : List Expr} {kws : List Keyword} {n nk : MA} (F : FnOk X.prog X.w X.K X.mg X.base CX0 k fa fd ps (spM ⟨X.K, cl⟩ f)) (hr : Room k X.A)
    (hg : Gl X x) (hm : X.mg x = some (.ref fa)) (hk : PySem.W.keepIn X.K (.ref fa) = true) (hb : KBn X.K fd ps i ks (fun us ws => place idx (us ++ ws)) (fun us ws => place idx (us ++ ws))) (ha : QA X cl E (e :: es) n) (hkw : QK X cl E kws nk) (hf : SndC ⟨X.K, cl⟩ E (fun vs H Q => spM ⟨X.K, cl⟩ f vs H Q E0) g)
    (hall : (backToKw pos (keywordEach kws X.env)).all (·.1.isSome) = true := by rfl) (hks : (backToKw pos (keywordEach kws X.env)).filterMap (·.1) = ks := by rfl)
    (hdb : (x == ("__debug__" : Str)) = false := by decide) (he : starEach (e :: es) X.env = (false, eval e X.env) :: starEach es X.env := by rfl)
    (hpl : ((backTo pos (starEach (e :: es) X.env)).any (·.1) || (backToKw pos (keywordEach kws X.env)).any (·.1.isNone)) = false := by rfl) (hj : ks.length = j := by rfl) :
    QE X cl E (.Call (.Name x p) (e :: es) kws pos) (mCallK g i j idx n nk) := by
  subst hj
  obtain ⟨t, h1, h2⟩ := ha.ex
  obtain ⟨u, k1, k2⟩ := hkw.ex
  exact ⟨_, pe_callN F hr hg hm hk hb pass0 h1 k1 hall hks hdb he hpl, snd_callK hf h2 k2⟩
theorem pe_callN0 {CX : CXT} {k : Nat} {f : Addr} {fd : FuncData} {ps ks : List Str} {sp : Sp} {x : Str} {p : Pos} {kws : List Keyword} {tk : TA} {g : List Value → List Value → List Value} {gV : List V → List V → List V} {E : XK} (F : FnOk X.prog X.w X.K X.mg X.base CX k f fd ps sp) (hr : Room k X.A) (hg : Gl X x) (hm : X.mg x = some (.ref f)) (hk : PySem.W.keepIn X.K (.ref f) = true) (hb : KBn X.K fd ps 0 ks g gV) (hx : Passes CX X E)
    (hkw : PK X kws tk) (hall : (backToKw pos (keywordEach kws X.env)).all (·.1.isSome) = true) (hks : (backToKw pos (keywordEach kws X.env)).filterMap (·.1) = ks)
    (hdb : (x == ("__debug__" : Str)) = false)
    (hpl : ((backTo pos (starEach [] X.env)).any (·.1) || (backToKw pos (keywordEach kws X.env)).any (·.1.isNone)) = false) :
    PE X (.Call (.Name x p) [] kws pos) (tCallN 0 ks.length sp gV E tNil tk) := by
  refine ⟨fun pins s σ H Q I h => ?_⟩
  refine wpAny_Call_Name_kw (ld_glob I hg hm ?_ hdb)
  refine PySem.W.callWith_KW0 (h₀ := X.base) I.ok.mod.kin hk hall ?_ hpl
  refine thn (hkw.run pos pins s σ H _ I h) fun ws s2 ⟨zs, H2, I2, rz, l1, l2, q2⟩ => ⟨I2.kIn, ?_⟩
  rw [hks]
  exact run_fnN F hr hb hx I2 .nil rz l1 l2 q2
/-- f(k = v, ..) -/
theorem q_callK0 {g f : List D → Store → Res D} {k j : Nat} {idx : List Nat} {fa : Addr} {fd : FuncData} {ps ks : List Str} {x : Str} {p : Pos} {kws : List Keyword} {nk : MA} (F : FnOk X.prog X.w X.K X.mg X.base CX0 k fa fd ps (spM ⟨X.K, cl⟩ f)) (hr : Room k X.A)
    (hg : Gl X x) (hm : X.mg x = some (.ref fa)) (hk : PySem.W.keepIn X.K (.ref fa) = true) (hb : KBn X.K fd ps 0 ks (fun us ws => place idx (us ++ ws)) (fun us ws => place idx (us ++ ws))) (hkw : QK X cl E kws nk) (hf : SndC ⟨X.K, cl⟩ E (fun vs H Q => spM ⟨X.K, cl⟩ f vs H Q E0) g)
    (hall : (backToKw pos (keywordEach kws X.env)).all (·.1.isSome) = true := by rfl) (hks : (backToKw pos (keywordEach kws X.env)).filterMap (·.1) = ks := by rfl)
    (hdb : (x == ("__debug__" : Str)) = false := by decide)
    (hpl : ((backTo pos (starEach [] X.env)).any (·.1) || (backToKw pos (keywordEach kws X.env)).any (·.1.isNone)) = false := by rfl) (hj : ks.length = j := by rfl) :
    QE X cl E (.Call (.Name x p) [] kws pos) (mCallK g 0 j idx mNil nk) := by
  subst hj
  obtain ⟨u, k1, k2⟩ := hkw.ex
  exact ⟨_, pe_callN0 F hr hg hm hk hb pass0 k1 hall hks hdb hpl, snd_callK hf snd_nil k2⟩
def zipD (xs ys : List D) : List D := List.zipWith (fun x y => .tup [x, y]) xs ys
def zipItems (ds : List D) (S : Store) : Res (List D) := match ds with
  | [.tup xs, .tup ys] => .ok (zipD xs ys) S
  | [.lst xs, .lst ys] => .ok (zipD xs ys) S
  | _ => .no
def mZip (n : MA) : MA := fun ρ S => (n ρ S).bind zipItems
theorem zipD_get {xs ys : List D} {i : Nat} {d : D} (h : (zipD xs ys)[i]? = some d) : ∃ x y, xs[i]? = some x ∧ ys[i]? = some y ∧ d = .tup [x, y] := by
  unfold zipD at h
  rw [List.getElem?_zipWith] at h
  cases q1 : xs[i]? with
  | none => simp [q1] at h
  | some x =>
    cases q2 : ys[i]? with
    | none => simp [q1, q2] at h
    | some y =>
      simp only [q1, q2, Option.some.injEq] at h
      exact ⟨x, y, rfl, rfl, h.symm⟩
theorem zipD_len {xs ys : List D} {i : Nat} (h : (zipD xs ys).length ≤ i) : xs.length ≤ i ∨ ys.length ≤ i := by
  unfold zipD at h
  rw [List.length_zipWith] at h
  omega
theorem steps_zip {Γ : Gm} {α : List Addr} {G : Hp} {xs ys : List D} {a b : Addr} {vs ws : List V} (h : SqL Γ.K G a vs) (r : RepL Γ α G xs vs) (h' : SqL Γ.K G b ws) (r' : RepL Γ α G ys ws) : Steps Γ α G (zipD xs ys) (Itz Γ.K a b) := fun i α2 G2 H2 S2 hp hs R2 => by
  have q : SqL Γ.K H2 a vs := (hs.trans R2.sub).sqL h
  have q' : SqL Γ.K H2 b ws := (hs.trans R2.sub).sqL h'
  have r2 : RepL Γ α2 G2 xs vs := RepL.mono hp hs _ _ r
  have r2' : RepL Γ α2 G2 ys ws := RepL.mono hp hs _ _ r'
  refine ⟨fun hl => ⟨vs, ws, q, q', by rw [← r2.length, ← r2'.length]; exact zipD_len hl⟩, fun d hd => ?_⟩
  obtain ⟨x, y, hx, hy, rfl⟩ := zipD_get hd
  obtain ⟨v, hv, rv⟩ := r2.get hx
  obtain ⟨w, hw, rw'⟩ := r2'.get hy
  refine ⟨⟨vs, ws, v, w, q, q', hv, hw⟩, fun z H3 hz => ?_⟩
  obtain ⟨T, x', y', rfl, hT, rfl, f1, f2⟩ := hz
  have e1 := f1 vs q
  have e2 := f2 ws q'
  rw [hv] at e1
  rw [hw] at e2
  cases e1
  cases e2
  obtain ⟨R3, e3⟩ := R2.new hT (.tup [v, w])
  exact ⟨_, R3, e3, rep_tup upd_same (RepL.mono e3.pre e3.sub _ _ (by unfold RepL; exact ⟨v, [w], rfl, rv, by unfold RepL; exact ⟨w, [], rfl, rw', by simp [RepL]⟩⟩))⟩
theorem steps_zipT {Γ : Gm} {α : List Addr} {G : Hp} {xs ys : List D} {a b : Addr} {vs ws : List V} (h : SqT Γ.K G a vs) (r : RepL Γ α G xs vs) (h' : SqT Γ.K G b ws) (r' : RepL Γ α G ys ws) : Steps Γ α G (zipD xs ys) (RZ.ItzT Γ.K a b) := fun i α2 G2 H2 S2 hp hs R2 => by
  have q : SqT Γ.K H2 a vs := (hs.trans R2.sub).sqT h
  have q' : SqT Γ.K H2 b ws := (hs.trans R2.sub).sqT h'
  have r2 : RepL Γ α2 G2 xs vs := RepL.mono hp hs _ _ r
  have r2' : RepL Γ α2 G2 ys ws := RepL.mono hp hs _ _ r'
  refine ⟨fun hl => ⟨vs, ws, q, q', by rw [← r2.length, ← r2'.length]; exact zipD_len hl⟩, fun d hd => ?_⟩
  obtain ⟨x, y, hx, hy, rfl⟩ := zipD_get hd
  obtain ⟨v, hv, rv⟩ := r2.get hx
  obtain ⟨w, hw, rw'⟩ := r2'.get hy
  refine ⟨⟨vs, ws, v, w, q, q', hv, hw⟩, fun z H3 hz => ?_⟩
  obtain ⟨T, x', y', rfl, hT, rfl, f1, f2⟩ := hz
  have e1 := f1 vs q
  have e2 := f2 ws q'
  rw [hv] at e1
  rw [hw] at e2
  cases e1
  cases e2
  obtain ⟨R3, e3⟩ := R2.new hT (.tup [v, w])
  exact ⟨_, R3, e3, rep_tup upd_same (RepL.mono e3.pre e3.sub _ _ (by unfold RepL; exact ⟨v, [w], rfl, rv, by unfold RepL; exact ⟨w, [], rfl, rw', by simp [RepL]⟩⟩))⟩
theorem qi_zip {elts : List Expr} {kk : Nat} {tpos p : Pos} {n : MA} (h : QA X cl E [a, b] n) (hg : Gl X "zip") (hm : X.mg "zip" = none)
    (hs : starEach [a, b] X.env = (false, eval a X.env) :: starEach [b] X.env := by rfl) (hpl : (backTo pos (starEach [b] X.env)).any (·.1) = false := by rfl) : QI X cl E (.Tuple elts kk tpos) (.Call (.Name "zip" p) [a, b] [] pos) (mZip n) := by
  obtain ⟨t, h1, h2⟩ := h.ex
  refine ⟨_, RZ.pi_zipA hg hm h1 hs hpl, fun ρ S σ α G H R hρ hR hp => h2 ρ S σ α G H _ hρ hR (posti_bind hp fun ds S1 α1 G1 H1 vs q1 e1 R1 r1 hp1 => ?_)⟩
  clear q1
  unfold zipItems at hp1
  split at hp1
  · rename_i xs ys
    obtain ⟨v, w, rfl, rv, rw'⟩ := repL2 r1
    unfold Rep at rv rw'
    obtain ⟨p1, vs, rfl, z1, k1⟩ := rv
    obtain ⟨p2, ws, rfl, z2, k2⟩ := rw'
    exact ⟨p1, p2, vs, ws, rfl, .inr ⟨R1.sub.sqT z1, R1.sub.sqT z2, hp1 α1 G1 H1 _ (Ext.refl _ _ _) R1 (steps_zipT (Γ := ⟨X.K, cl⟩) z1 k1 z2 k2)⟩⟩
  · rename_i xs ys
    obtain ⟨v, w, rfl, rv, rw'⟩ := repL2 r1
    unfold Rep at rv rw'
    obtain ⟨p1, vs, rfl, z1, k1⟩ := rv
    obtain ⟨p2, ws, rfl, z2, k2⟩ := rw'
    exact ⟨p1, p2, vs, ws, rfl, .inl ⟨R1.sub.sqL (.inl (.inl z1)), R1.sub.sqL (.inl (.inl z2)), hp1 α1 G1 H1 _ (Ext.refl _ _ _) R1 (steps_zip (Γ := ⟨X.K, cl⟩) (.inl (.inl z1)) k1 (.inl (.inl z2)) k2)⟩⟩
  · exact hp1.elim
/-- (0, x), (1, y), .. -/
def enumD (k : Nat) : List D → List D
  | [] => []
  | d :: ds => .tup [.int (k : Nat), d] :: enumD (k + 1) ds
theorem enumD_len : ∀ (k : Nat) (ds : List D), (enumD k ds).length = ds.length
  | _, [] => rfl
  | k, d :: ds => by simp [enumD, enumD_len (k + 1) ds]
theorem enumD_get : ∀ {k : Nat} {ds : List D} {i : Nat} {d : D}, (enumD k ds)[i]? = some d → ∃ x, ds[i]? = some x ∧ d = .tup [.int ((k + i : Nat) : Int), x]
  | _, [], _, _, h => by simp [enumD] at h
  | k, x :: ds, 0, d, h => by simp [enumD] at h; exact ⟨x, rfl, h.symm⟩
  | k, x :: ds, i + 1, d, h => by
    simp only [enumD, List.getElem?_cons_succ] at h
    obtain ⟨y, h1, h2⟩ := enumD_get h
    exact ⟨y, by simpa using h1, by rw [h2]; congr 3; omega⟩
def mEnum (m : ME) : MA := fun ρ S => (m ρ S).bind fun d S1 => match d with
  | .lst xs => .ok (enumD 0 xs) S1
  | .fro xs => .ok (enumD 0 xs) S1
  | _ => .no
theorem steps_enum {Γ : Gm} {α : List Addr} {G : Hp} {ds : List D} {a : Addr} {vs : List V} (h : SqL Γ.K G a vs) (r : RepL Γ α G ds vs) : Steps Γ α G (enumD 0 ds) (Ite Γ.K a) := fun i α2 G2 H2 S2 hp hs R2 => by
  have q : SqL Γ.K H2 a vs := (hs.trans R2.sub).sqL h
  have r2 : RepL Γ α2 G2 ds vs := RepL.mono hp hs _ _ r
  refine ⟨fun hl => ⟨vs, q, by rw [← r2.length, ← enumD_len 0]; exact hl⟩, fun d hd => ?_⟩
  obtain ⟨x, hx, rfl⟩ := enumD_get hd
  obtain ⟨v, hv, rv⟩ := r2.get hx
  refine ⟨⟨vs, v, q, hv⟩, fun z H3 hz => ?_⟩
  obtain ⟨T, x', rfl, hT, rfl, f1⟩ := hz
  have e1 := f1 vs q
  rw [hv] at e1
  cases e1
  obtain ⟨R3, e3⟩ := R2.new hT (.tup [.int (i : Nat), v])
  exact ⟨_, R3, e3, rep_tup upd_same (RepL.mono e3.pre e3.sub _ _ (by unfold RepL; exact ⟨.int (i : Nat), [v], rfl, by simp [Rep], by unfold RepL; exact ⟨v, [], rfl, rv, by simp [RepL]⟩⟩))⟩
theorem qi_enum {elts : List Expr} {kk : Nat} {tpos p : Pos} (h : QE X cl E a m) (hg : Gl X "enumerate") (hm : X.mg "enumerate" = none) (hs : starEach [a] X.env = [(false, eval a X.env)] := by rfl) : QI X cl E (.Tuple elts kk tpos) (.Call (.Name "enumerate" p) [a] [] pos) (mEnum m) := by
  obtain ⟨t, h1, h2⟩ := h.ex
  refine ⟨_, pi_enum hg hm (pa_cons h1 pa_nil (by rw [hs]; rfl)) hs, fun ρ S σ α G H R hρ hR hp => h2 ρ S σ α G H _ hρ hR (posti_bind hp fun d S1 α1 G1 H1 v q1 e1 R1 r1 hp1 => ?_)⟩
  clear q1
  cases d <;> try exact hp1.elim
  · rename_i xs
    unfold Rep at r1
    obtain ⟨p1, vs, rfl, z1, k1⟩ := r1
    exact ⟨p1, vs, rfl, R1.sub.sqL (.inl (.inl z1)), hp1 α1 G1 H1 _ (Ext.refl _ _ _) R1 (steps_enum (Γ := ⟨X.K, cl⟩) (.inl (.inl z1)) k1)⟩
  · rename_i xs
    unfold Rep at r1
    obtain ⟨p1, vs, rfl, z1, k1⟩ := r1
    exact ⟨p1, vs, rfl, R1.sub.sqL z1, hp1 α1 G1 H1 _ (Ext.refl _ _ _) R1 (steps_enum (Γ := ⟨X.K, cl⟩) z1 k1)⟩
end
end Q
namespace Q
open PySem L2
section
variable {ρ : Env} {S : Store}
@[simp] theorem ap_var (i : Nat) : mVar i ρ S = match ρ[i]? with | some (some d) => .ok d S | _ => .no := rfl
@[simp] theorem ap_c (d : D) : mC d ρ S = .ok d S := rfl
@[simp] theorem ap_op (f : D → D → Store → Res D) (ma mb : ME) : mOp f ma mb ρ S = (ma ρ S).bind fun x S1 => (mb ρ S1).bind fun y S2 => f x y S2 := rfl
@[simp] theorem ap_test (m : ME) : mTest m ρ S = (m ρ S).bind fun d S1 => oRes (truth S1 d) S1 := rfl
def asB (d : D) (S : Store) : Res Bool := match d with | .bl b => .ok b S | _ => .no
@[simp] theorem asB_bl (b : Bool) : asB (.bl b) S = .ok b S := rfl
@[simp] theorem ap_tb (m : ME) : mTB m ρ S = (m ρ S).bind asB := rfl
@[simp] theorem ap_notT (m : MT) : mNotT m ρ S = (m ρ S).bind fun b S1 => .ok (!b) S1 := rfl
def br {β : Type} (b : Bool) (x y : β) : β := match b with | true => x | false => y
@[simp] theorem br_t {β : Type} (x y : β) : br true x y = x := rfl
@[simp] theorem br_f {β : Type} (x y : β) : br false x y = y := rfl
theorem br_congr {β : Type} {b b' : Bool} (x y : β) (h : b = b') : br b x y = br b' x y := by rw [h]
@[simp] theorem ap_andT (m n : MT) : mAndT m n ρ S = (m ρ S).bind fun b S1 => br b (n ρ S1) (.ok false S1) := rfl
@[simp] theorem ap_orT (m n : MT) : mOrT m n ρ S = (m ρ S).bind fun b S1 => br b (.ok true S1) (n ρ S1) := rfl
@[simp] theorem ap_andV (m n : ME) : mAndV m n ρ S = (m ρ S).bind fun d S1 => (oRes (truth S1 d) S1).bind fun b S2 => br b (n ρ S2) (.ok d S2) := rfl
@[simp] theorem ap_orV (m n : ME) : mOrV m n ρ S = (m ρ S).bind fun d S1 => (oRes (truth S1 d) S1).bind fun b S2 => br b (.ok d S2) (n ρ S2) := rfl
@[simp] theorem ap_notV (m : ME) : mNotV m ρ S = (m ρ S).bind fun d S1 => (oRes (truth S1 d) S1).bind fun b S2 => .ok (.bl (!b)) S2 := rfl
@[simp] theorem ap_ifE (t : MT) (m n : ME) : mIfE t m n ρ S = (t ρ S).bind fun b S1 => br b (m ρ S1) (n ρ S1) := rfl
@[simp] theorem ap_isN (m : ME) : mIsN m ρ S = (m ρ S).bind fun d S1 => .ok (.bl (isNon d)) S1 := rfl
@[simp] theorem ap_notN (m : ME) : mNotN m ρ S = (m ρ S).bind fun d S1 => .ok (.bl (!isNon d)) S1 := rfl
@[simp] theorem ap_nil : mNil ρ S = .ok [] S := rfl
@[simp] theorem ap_cons (m : ME) (n : MA) : mCons m n ρ S = (m ρ S).bind fun d S1 => (n ρ S1).bind fun ds S2 => .ok (d :: ds) S2 := rfl
@[simp] theorem ap_tup (n : MA) : mTup n ρ S = (n ρ S).bind fun ds S1 => if ds.length ≤ 100000 then .ok (.tup ds) S1 else .no := rfl
@[simp] theorem ap_lst (n : MA) : mLst n ρ S = (n ρ S).bind fun ds S1 => if ds.length ≤ 100000 then .ok (.lst ds) S1 else .no := rfl
@[simp] theorem ap_cell (n : MA) : mCell n ρ S = (n ρ S).bind fun ds S1 => if ds.length ≤ 100000 then .ok (.ref S1.length) (S1 ++ [.lst ds]) else .no := rfl
@[simp] theorem ap_frz (m : ME) : mFrz m ρ S = (m ρ S).bind fz := rfl
@[simp] theorem fz_int (i : Int) : fz (.int i) S = .ok (.int i) S := rfl
@[simp] theorem fz_bl (i : Bool) : fz (.bl i) S = .ok (.bl i) S := rfl
@[simp] theorem fz_tup (i : List D) : fz (.tup i) S = .ok (.tup i) S := rfl
@[simp] theorem fz_lst (i : List D) : fz (.lst i) S = .ok (.lst i) S := rfl
@[simp] theorem fz_non : fz .non S = .ok .non S := rfl
theorem fz_ref {k : Nat} {xs : List D} (h : S[k]? = some (.lst xs)) : fz (.ref k) S = .ok (.lst xs) (S.set k (.frz xs)) := by simp [fz, h]
@[simp] theorem ap_sl (m : ME) (l h : MO) : mSl m l h ρ S = (m ρ S).bind fun d S1 => (l ρ S1).bind fun lo S2 => (h ρ S2).bind fun hi S3 => opSl d lo hi S3 := rfl
@[simp] theorem ap_noO : mNoO ρ S = .ok none S := rfl
def asI (d : D) (S : Store) : Res (Option Int) := match d with | .int i => .ok (some i) S | _ => .no
@[simp] theorem asI_int (i : Int) : asI (.int i) S = .ok (some i) S := rfl
@[simp] theorem ap_soO (m : ME) : mSoO m ρ S = (m ρ S).bind asI := rfl
def negD (d : D) (S : Store) : Res D := match d with | .int i => .ok (.int (-i)) S | _ => .no
@[simp] theorem negD_int (i : Int) : negD (.int i) S = .ok (.int (-i)) S := rfl
@[simp] theorem ap_neg (m : ME) : mNeg m ρ S = (m ρ S).bind negD := rfl
@[simp] theorem ap_call (f : List D → Store → Res D) (n : MA) : mCall f n ρ S = (n ρ S).bind f := rfl
@[simp] theorem ap_callK (g : List D → Store → Res D) (i j : Nat) (idx : List Nat) (n nk : MA) : mCallK g i j idx n nk ρ S = (n ρ S).bind fun ds S1 => (nk ρ S1).bind fun zs S2 => if ds.length = i ∧ zs.length = j then g (place idx (ds ++ zs)) S2 else .no := rfl
@[simp] theorem ap_isi (T : Ty) (m : ME) : mIsi T m ρ S = (m ρ S).bind fun d S1 => if isOk d then .ok (.bl (isTy T d)) S1 else .no := rfl
@[simp] theorem ap_isi2 (T U : Ty) (m : ME) : mIsi2 T U m ρ S = (m ρ S).bind fun d S1 => if isOk d then .ok (.bl (isTy T d || isTy U d)) S1 else .no := rfl
def chainK (f' : D → D → Store → Res D) (mc : ME) (ρ : Env) (y z : D) (S : Store) : Res D := match z with
  | .bl true => (mc ρ S).bind fun w S4 => f' y w S4
  | .bl false => .ok (.bl false) S
  | _ => .no
@[simp] theorem chainK_t (f' : D → D → Store → Res D) (mc : ME) (y : D) : chainK f' mc ρ y (.bl true) S = (mc ρ S).bind fun w S4 => f' y w S4 := rfl
@[simp] theorem chainK_f (f' : D → D → Store → Res D) (mc : ME) (y : D) : chainK f' mc ρ y (.bl false) S = .ok (.bl false) S := rfl
@[simp] theorem ap_chain (f f' : D → D → Store → Res D) (ma mb mc : ME) : mChain f f' ma mb mc ρ S = (ma ρ S).bind fun x S1 => (mb ρ S1).bind fun y S2 => (f x y S2).bind fun z S3 => chainK f' mc ρ y z S3 := rfl
-- statements
@[simp] theorem ap_skip : mSkip ρ S = .ok (.nx ρ) S := rfl
def seqK (n' : MS) (f : Fl) (S : Store) : Res Fl := match f with | .nx ρ1 => n' ρ1 S | f => .ok f S
@[simp] theorem seqK_nx (n' : MS) : seqK n' (.nx ρ) S = n' ρ S := rfl
@[simp] theorem seqK_rt (n' : MS) (d : D) : seqK n' (.rt d) S = .ok (.rt d) S := rfl
@[simp] theorem seqK_bk (n' : MS) : seqK n' (.bk ρ) S = .ok (.bk ρ) S := rfl
@[simp] theorem seqK_ct (n' : MS) : seqK n' (.ct ρ) S = .ok (.ct ρ) S := rfl
@[simp] theorem ap_seq (n n' : MS) : mSeq n n' ρ S = (n ρ S).bind (seqK n') := rfl
@[simp] theorem ap_drop (m : ME) : mDrop m ρ S = (m ρ S).bind fun _ S1 => .ok (.nx ρ) S1 := rfl
@[simp] theorem ap_ret (m : ME) : mRet m ρ S = (m ρ S).bind fun d S1 => .ok (.rt d) S1 := rfl
@[simp] theorem ap_if (t : MT) (n n' : MS) : mIf t n n' ρ S = (t ρ S).bind fun b S1 => br b (n ρ S1) (n' ρ S1) := rfl
@[simp] theorem ap_asg (m : ME) (g : MG) : mAsg m g ρ S = (m ρ S).bind fun d S1 => (g d ρ S1).bind fun ρ1 S2 => .ok (.nx ρ1) S2 := rfl
@[simp] theorem ap_gN (i : Nat) (d : D) : mgN i d ρ S = .ok (ρ.set i (some d)) S := rfl
@[simp] theorem ap_gNil : mgNil [] ρ S = .ok ρ S := rfl
@[simp] theorem ap_gCons (g : MG) (gs : MGs) (d : D) (ds : List D) : mgCons g gs (d :: ds) ρ S = (g d ρ S).bind fun ρ1 S1 => gs ds ρ1 S1 := rfl
@[simp] theorem ap_gTup (k : Nat) (gs : MGs) (ds : List D) : mgTup k gs (.tup ds) ρ S = if ds.length = k then gs ds ρ S else .no := rfl
@[simp] theorem ap_gTupL (k : Nat) (gs : MGs) (ds : List D) : mgTup k gs (.lst ds) ρ S = if ds.length = k then gs ds ρ S else .no := rfl
@[simp] theorem ap_gSub (mo mi : ME) (d : D) : mgSub mo mi d ρ S = (mo ρ S).bind fun o S1 => (mi ρ S1).bind fun i S2 => (setIx o i d S2).bind fun _ S3 => .ok ρ S3 := rfl
def parK (i j : Nat) (ρ : Env) (ds : List D) (S : Store) : Res Fl := match ds with | [d, d'] => .ok (.nx ((ρ.set i (some d)).set j (some d'))) S | _ => .no
@[simp] theorem parK_2 (i j : Nat) (d d' : D) : parK i j ρ [d, d'] S = .ok (.nx ((ρ.set i (some d)).set j (some d'))) S := rfl
@[simp] theorem ap_par (i j : Nat) (n : MA) : mPar i j n ρ S = (n ρ S).bind (parK i j ρ) := rfl
@[simp] theorem ap_app (mo m : ME) : mApp mo m ρ S = (mo ρ S).bind fun o S1 => match o with | .ref k => (m ρ S1).bind fun d S2 => appTo k d S2 | _ => .no := rfl
@[simp] theorem ap_items (m : ME) : mItems m ρ S = (m ρ S).bind itemsOf := rfl
@[simp] theorem items_tup (xs : List D) : itemsOf (.tup xs) S = .ok xs S := rfl
@[simp] theorem items_lst (xs : List D) : itemsOf (.lst xs) S = .ok xs S := rfl
@[simp] theorem items_fro (xs : List D) : itemsOf (.fro xs) S = .ok xs S := rfl
@[simp] theorem ap_zip (n : MA) : mZip n ρ S = (n ρ S).bind zipItems := rfl
@[simp] theorem zip_tup (xs ys : List D) : zipItems [.tup xs, .tup ys] S = .ok (zipD xs ys) S := rfl
@[simp] theorem zip_lst (xs ys : List D) : zipItems [.lst xs, .lst ys] S = .ok (zipD xs ys) S := rfl
def enumK (d : D) (S : Store) : Res (List D) := match d with | .lst xs => .ok (enumD 0 xs) S | .fro xs => .ok (enumD 0 xs) S | _ => .no
@[simp] theorem enumK_lst (xs : List D) : enumK (.lst xs) S = .ok (enumD 0 xs) S := rfl
@[simp] theorem enumK_fro (xs : List D) : enumK (.fro xs) S = .ok (enumD 0 xs) S := rfl
@[simp] theorem ap_enum (m : ME) : mEnum m ρ S = (m ρ S).bind enumK := rfl
def r1K (d : D) (S : Store) : Res (List D) := match d with | .int j => if j.natAbs < 2 ^ 62 then .ok (rangeD 0 j.toNat) S else .no | _ => .no
@[simp] theorem r1K_int (j : Int) : r1K (.int j) S = if j.natAbs < 2 ^ 62 then .ok (rangeD 0 j.toNat) S else .no := rfl
@[simp] theorem ap_r1 (m : ME) : mRange1 m ρ S = (m ρ S).bind r1K := rfl
@[simp] theorem ap_for (mi : MA) (g : MG) (b : MS) : mFor mi g b ρ S = (mi ρ S).bind fun ds S1 => forL g b ds ρ S1 := rfl
@[simp] theorem ap_lc (mi : MA) (g : MG) (t : MT) (m : ME) (vs : List Nat) : mLc mi g t m vs ρ S = (mi ρ S).bind fun ds S1 => if ds.length ≤ 100000 then (lcL g t m (wp ρ vs) ds S1).bind fun xs S2 => .ok (.lst xs) S2 else .no := rfl
@[simp] theorem ap_yes : mYes ρ S = .ok true S := rfl
-- operators
@[simp] theorem addI_int (i j : Int) : opAddI (.int i) (.int j) S = .ok (.int (i + j)) S := rfl
@[simp] theorem add_int (i j : Int) : opAdd (.int i) (.int j) S = .ok (.int (i + j)) S := rfl
@[simp] theorem add_lst (xs ys : List D) : opAdd (.lst xs) (.lst ys) S = if xs.length + ys.length ≤ 100000 then .ok (.lst (xs ++ ys)) S else .no := rfl
@[simp] theorem add_tup (xs ys : List D) : opAdd (.tup xs) (.tup ys) S = if xs.length + ys.length ≤ 100000 then .ok (.tup (xs ++ ys)) S else .no := rfl
theorem add_ref {k : Nat} {xs : List D} (ys : List D) (h : S[k]? = some (.lst xs)) : opAdd (.ref k) (.lst ys) S = if xs.length + ys.length ≤ 100000 then .ok (.lst (xs ++ ys)) S else .no := by
  simp [opAdd, opAddI, fI0, opCat, lstOf, h]
@[simp] theorem sub_int (i j : Int) : opSubI (.int i) (.int j) S = .ok (.int (i - j)) S := rfl
@[simp] theorem mul_intD (i j : Int) : opMul (.int i) (.int j) S = if mulOk i j = true then .ok (.int (i * j)) S else .no := by
  unfold opMul opMulI fI opRep
  by_cases h : mulOk i j = true <;> simp [h, lstOf]
@[simp] theorem div_int (i j : Int) : opDivI (.int i) (.int j) S = if divOk i j = true then .ok (.int (i / j)) S else .no := rfl
@[simp] theorem mod_int (i j : Int) : opModI (.int i) (.int j) S = if modOk i j = true then .ok (.int (i % j)) S else .no := rfl
@[simp] theorem pow_int (i j : Int) : opPowI (.int i) (.int j) S = if powOk i j = true then .ok (.int (i ^ j.toNat)) S else .no := rfl
@[simp] theorem lt_int (i j : Int) : opLt (.int i) (.int j) S = .ok (.bl (decide (i < j))) S := rfl
@[simp] theorem le_int (i j : Int) : opLe (.int i) (.int j) S = .ok (.bl (decide (i ≤ j))) S := rfl
@[simp] theorem gt_int (i j : Int) : opGt (.int i) (.int j) S = .ok (.bl (decide (j < i))) S := rfl
@[simp] theorem ge_int (i j : Int) : opGe (.int i) (.int j) S = .ok (.bl (decide (j ≤ i))) S := rfl
@[simp] theorem eq_intD (i j : Int) : opEq (.int i) (.int j) S = .ok (.bl (decide (i = j))) S := rfl
@[simp] theorem ne_intD (i j : Int) : opNe (.int i) (.int j) S = .ok (.bl (!decide (i = j))) S := rfl
@[simp] theorem eq_blD (i j : Bool) : opEq (.bl i) (.bl j) S = .ok (.bl (decide (i = j))) S := by cases i <;> cases j <;> rfl
@[simp] theorem ne_blD (i j : Bool) : opNe (.bl i) (.bl j) S = .ok (.bl (!decide (i = j))) S := by cases i <;> cases j <;> rfl
@[simp] theorem eq_strD (i j : Str) : opEq (.str i) (.str j) S = .ok (.bl (decide (i = j))) S := rfl
@[simp] theorem ix_tupD (xs : List D) (i : Int) : opIx (.tup xs) (.int i) S = oRes (atI xs i) S := rfl
@[simp] theorem ix_lstD (xs : List D) (i : Int) : opIx (.lst xs) (.int i) S = oRes (atI xs i) S := rfl
@[simp] theorem ix_froD (xs : List D) (i : Int) : opIx (.fro xs) (.int i) S = oRes (atI xs i) S := rfl
theorem ix_refD {k : Nat} {xs : List D} (i : Int) (h : S[k]? = some (.lst xs)) : opIx (.ref k) (.int i) S = oRes (atI xs i) S := by simp [opIx, rdL, lstOf, h]
theorem atI_get {α : Type} {xs : List α} {i : Nat} {x : α} (h : xs[i]? = some x) : atI xs (i : Int) = some x := by
  have hl := (List.getElem?_eq_some_iff.mp h).1
  unfold atI ixN
  rw [if_pos (by omega), if_pos (by omega)]
  simpa using h
@[simp] theorem atI_0 {α : Type} (x : α) (xs : List α) : atI (x :: xs) 0 = some x := by
  have h : (0 : Int) < (x :: xs).length := by simp
  simp [atI, ixN]
@[simp] theorem atI_1 {α : Type} (x y : α) (xs : List α) : atI (x :: y :: xs) 1 = some y := by
  exact atI_get (i := 1) rfl
@[simp] theorem atI_2 {α : Type} (x y z : α) (xs : List α) : atI (x :: y :: z :: xs) 2 = some z := by
  exact atI_get (i := 2) rfl
@[simp] theorem sl_tupD (xs : List D) (lo hi : Option Int) : opSl (.tup xs) lo hi S = .ok (.tup (cutD xs lo hi)) S := rfl
@[simp] theorem sl_lstD (xs : List D) (lo hi : Option Int) : opSl (.lst xs) lo hi S = .ok (.lst (cutD xs lo hi)) S := rfl
@[simp] theorem sl_froD (xs : List D) (lo hi : Option Int) : opSl (.fro xs) lo hi S = .ok (.lst (cutD xs lo hi)) S := rfl
@[simp] theorem truth_bl (b : Bool) : truth S (.bl b) = some b := rfl
@[simp] theorem truth_int (b : Int) : truth S (.int b) = some (b != 0) := rfl
@[simp] theorem truth_non : truth S .non = some false := rfl
@[simp] theorem truth_tup (xs : List D) : truth S (.tup xs) = some (!xs.isEmpty) := rfl
@[simp] theorem truth_lst (xs : List D) : truth S (.lst xs) = some (!xs.isEmpty) := rfl
theorem truth_ref {k : Nat} {xs : List D} (h : S[k]? = some (.lst xs)) : truth S (.ref k) = some (!xs.isEmpty) := by simp [truth, rdL, lstOf, h]
-- built-ins
@[simp] theorem len_tup (xs : List D) : fLen [.tup xs] S = .ok (.int xs.length) S := rfl
@[simp] theorem len_lst (xs : List D) : fLen [.lst xs] S = .ok (.int xs.length) S := rfl
@[simp] theorem len_fro (xs : List D) : fLen [.fro xs] S = .ok (.int xs.length) S := rfl
@[simp] theorem abs_int (i : Int) : fAbs [.int i] S = .ok (.int (if i < 0 then -i else i)) S := rfl
@[simp] theorem int_int (i : Int) : fInt [.int i] S = .ok (.int i) S := rfl
@[simp] theorem int_bl (i : Bool) : fInt [.bl i] S = .ok (.int (if i then 1 else 0)) S := rfl
@[simp] theorem tuple_lst (xs : List D) : fTuple [.lst xs] S = .ok (.tup xs) S := rfl
@[simp] theorem tuple_tup (xs : List D) : fTuple [.tup xs] S = .ok (.tup xs) S := rfl
@[simp] theorem list_lst (xs : List D) : fList [.lst xs] S = .ok (.lst xs) S := rfl
@[simp] theorem list_tup (xs : List D) : fList [.tup xs] S = .ok (.lst xs) S := rfl
@[simp] theorem listC_lst (xs : List D) : fListC [.lst xs] S = .ok (.ref S.length) (S ++ [.lst xs]) := rfl
@[simp] theorem listC_tup (xs : List D) : fListC [.tup xs] S = .ok (.ref S.length) (S ++ [.lst xs]) := rfl
theorem all_lst {xs : List D} {bs : List Bool} (h : boolsD xs = some bs) : fAll [.lst xs] S = .ok (.bl (bs.all id)) S := by simp [fAll, onBools, un1, rdL, lstOf, h]
theorem any_lst {xs : List D} {bs : List Bool} (h : boolsD xs = some bs) : fAny [.lst xs] S = .ok (.bl (bs.any id)) S := by simp [fAny, onBools, un1, rdL, lstOf, h]
theorem sum_lst {xs : List D} {bs : List Int} (h : intsD xs = some bs) : fSum [.lst xs] S = .ok (.int bs.sum) S := by simp [fSum, onInts, un1, rdL, lstOf, h]
theorem bools_map {β : Type} (f : β → Bool) (xs : List β) : boolsD (xs.map fun x => D.bl (f x)) = some (xs.map f) := by
  induction xs with
  | nil => rfl
  | cons x xs ih => simp [boolsD, ih]
theorem ints_map {β : Type} (f : β → Int) (xs : List β) : intsD (xs.map fun x => D.int (f x)) = some (xs.map f) := by
  induction xs with
  | nil => rfl
  | cons x xs ih => simp [intsD, ih]
-- isinstance
@[simp] theorem isOk_non : isOk .non = true := rfl
@[simp] theorem isOk_bl (b : Bool) : isOk (.bl b) = true := rfl
@[simp] theorem isOk_int (b : Int) : isOk (.int b) = true := rfl
@[simp] theorem isOk_str (b : Str) : isOk (.str b) = true := rfl
@[simp] theorem isOk_tup (b : List D) : isOk (.tup b) = true := rfl
@[simp] theorem isOk_lst (b : List D) : isOk (.lst b) = true := rfl
@[simp] theorem isNon_non : isNon .non = true := rfl
@[simp] theorem isNon_bl (b : Bool) : isNon (.bl b) = false := rfl
@[simp] theorem isNon_int (b : Int) : isNon (.int b) = false := rfl
@[simp] theorem isNon_str (b : Str) : isNon (.str b) = false := rfl
@[simp] theorem isNon_tup (b : List D) : isNon (.tup b) = false := rfl
@[simp] theorem isNon_lst (b : List D) : isNon (.lst b) = false := rfl
end
-- calls
@[simp] theorem fCall_ap (f : List D → Store → Res D) (ds : List D) (S : Store) : fCall f ds S = nox (f ds S) := rfl
theorem fPure_ap {f : List D → Store → Res D} {ds : List D} {d : D} (S : Store) (hp : pureL ds = true) (h : f ds [] = .ok d []) : fPure f ds S = .ok d S := by simp [fPure, hp, h]
@[simp] theorem pureL_nil : pureL [] = true := rfl
@[simp] theorem pureL_cons (d : D) (ds : List D) : pureL (d :: ds) = (pureD d && pureL ds) := rfl
@[simp] theorem pureD_non : pureD .non = true := rfl
@[simp] theorem pureD_bl (b : Bool) : pureD (.bl b) = true := rfl
@[simp] theorem pureD_int (b : Int) : pureD (.int b) = true := rfl
@[simp] theorem pureD_str (b : Str) : pureD (.str b) = true := rfl
@[simp] theorem pureD_tup (b : List D) : pureD (.tup b) = pureL b := rfl
@[simp] theorem pureD_lst (b : List D) : pureD (.lst b) = pureL b := rfl
@[simp] theorem pureD_fro (b : List D) : pureD (.fro b) = pureL b := rfl
@[simp] theorem pureD_ref (b : Nat) : pureD (.ref b) = false := rfl
theorem pureL_all {ds : List D} : pureL ds = true ↔ ∀ d ∈ ds, pureD d = true := by
  induction ds with
  | nil => simp
  | cons d ds ih => simp [ih]
@[simp] theorem fin_same {S S' : Store} {d : D} (h : S'.length = S.length) : fin S.length d S' = .ok d S' := by simp [fin, h]
theorem fin_nil {d : D} {S : Store} (h : pureD d = true) : fin 0 d S = .ok d [] := by
  unfold fin
  split
  · rename_i e
    rw [List.eq_nil_of_length_eq_zero e]
  · simp [h]
@[simp] theorem endM_nx {n : Nat} {ρ : Env} {S : Store} : endM n (.ok (.nx ρ) S) = fin n .non S := rfl
@[simp] theorem endM_rt {n : Nat} {d : D} {S : Store} : endM n (.ok (.rt d) S) = fin n d S := rfl
@[simp] theorem endC_nx {ρ : Env} {S : Store} : endC (.ok (.nx ρ) S) = .ok .non S := rfl
@[simp] theorem endC_rt {d : D} {S : Store} : endC (.ok (.rt d) S) = .ok d S := rfl
theorem set_get {S : Store} {k : Nat} {c c' : Cell} (h : S[k]? = some c) : (S.set k c')[k]? = some c' := List.getElem?_set_self (List.getElem?_eq_some_iff.mp h).1
def forK (k : MS) (f : Fl) (S : Store) : Res Fl := match f with
  | .nx ρ => k ρ S
  | .ct ρ => k ρ S
  | .bk ρ => .ok (.nx ρ) S
  | .rt d => .ok (.rt d) S
@[simp] theorem forK_nx (k : MS) (ρ : Env) (S : Store) : forK k (.nx ρ) S = k ρ S := rfl
@[simp] theorem forK_ct (k : MS) (ρ : Env) (S : Store) : forK k (.ct ρ) S = k ρ S := rfl
@[simp] theorem forK_bk (k : MS) (ρ : Env) (S : Store) : forK k (.bk ρ) S = .ok (.nx ρ) S := rfl
@[simp] theorem forK_rt (k : MS) (d : D) (S : Store) : forK k (.rt d) S = .ok (.rt d) S := rfl
theorem forL_cons (g : MG) (b : MS) (d : D) (ds : List D) (ρ : Env) (S : Store) : forL g b (d :: ds) ρ S = (g d ρ S).bind fun ρ1 S1 => (b ρ1 S1).bind (forK (forL g b ds)) := rfl
theorem forL_nil (g : MG) (b : MS) (ρ : Env) (S : Store) : forL g b [] ρ S = .ok (.nx ρ) S := rfl
def whK (k : MS) (f : Fl) (S : Store) : Res Fl := match f with
  | .nx ρ => k ρ S
  | .ct ρ => k ρ S
  | .bk ρ => .ok (.nx ρ) S
  | .rt d => .ok (.rt d) S
@[simp] theorem whK_nx (k : MS) (ρ : Env) (S : Store) : whK k (.nx ρ) S = k ρ S := rfl
@[simp] theorem whK_ct (k : MS) (ρ : Env) (S : Store) : whK k (.ct ρ) S = k ρ S := rfl
@[simp] theorem whK_bk (k : MS) (ρ : Env) (S : Store) : whK k (.bk ρ) S = .ok (.nx ρ) S := rfl
@[simp] theorem whK_rt (k : MS) (d : D) (S : Store) : whK k (.rt d) S = .ok (.rt d) S := rfl
theorem whF_succ (t : MT) (b : MS) (k : Nat) (ρ : Env) (S : Store) : whileF t b (k + 1) ρ S = (t ρ S).bind fun c S1 => br c ((b ρ S1).bind (whK (whileF t b k))) (.ok (.nx ρ) S1) := by
  show (t ρ S).bind _ = _
  congr 1
  funext c S1
  cases c with
  | false => rfl
  | true =>
    show (b ρ S1).bind _ = (b ρ S1).bind _
    congr 1
theorem fnM_0 {nN : Nat} {n : MS} {S : Store} : fnM nN 0 n [] S = endM S.length (n (List.replicate nN none) S) := rfl
theorem fnM_1 {nN : Nat} {n : MS} {a : D} {S : Store} : fnM nN 1 n [a] S = endM S.length (n (some a :: List.replicate (nN - 1) none) S) := rfl
theorem fnM_2 {nN : Nat} {n : MS} {a b : D} {S : Store} : fnM nN 2 n [a, b] S = endM S.length (n (some a :: some b :: List.replicate (nN - 2) none) S) := rfl
theorem fnM_3 {nN : Nat} {n : MS} {a b c : D} {S : Store} : fnM nN 3 n [a, b, c] S = endM S.length (n (some a :: some b :: some c :: List.replicate (nN - 3) none) S) := rfl
theorem fnM_4 {nN : Nat} {n : MS} {a b c d : D} {S : Store} : fnM nN 4 n [a, b, c, d] S = endM S.length (n (some a :: some b :: some c :: some d :: List.replicate (nN - 4) none) S) := rfl
theorem fnC_1 {nN : Nat} {n : MS} {a : D} {S : Store} : fnC nN 1 n [a] S = endC (n (some a :: List.replicate (nN - 1) none) S) := rfl
theorem fnC_2 {nN : Nat} {n : MS} {a b : D} {S : Store} : fnC nN 2 n [a, b] S = endC (n (some a :: some b :: List.replicate (nN - 2) none) S) := rfl
theorem set_self {S : Store} {k : Nat} {c : Cell} (h : S[k]? = some c) : S.set k c = S := by
  apply List.ext_getElem?
  intro i
  by_cases e : k = i
  · subst e; rw [set_get h, h]
  · rw [List.getElem?_set_ne e]
theorem forL_ind {g : MG} {b : MS} (Inv : List D → Env → Store → Prop) (turn : ∀ pre d ρ S, Inv pre ρ S → ∃ ρ1 S1 f S2, g d ρ S = .ok ρ1 S1 ∧ b ρ1 S1 = .ok f S2 ∧ ∃ ρ2, (f = .nx ρ2 ∨ f = .ct ρ2) ∧ Inv (pre ++ [d]) ρ2 S2) :
    ∀ (ds pre : List D) (ρ : Env) (S : Store), Inv pre ρ S → ∃ ρ2 S2, forL g b ds ρ S = .ok (.nx ρ2) S2 ∧ Inv (pre ++ ds) ρ2 S2
  | [], pre, ρ, S, h => ⟨ρ, S, rfl, by simpa using h⟩
  | d :: ds, pre, ρ, S, h => by
    obtain ⟨ρ1, S1, f, S2, h1, h2, ρ2, hf, h3⟩ := turn pre d ρ S h
    obtain ⟨ρ3, S3, h4, h5⟩ := forL_ind Inv turn ds (pre ++ [d]) ρ2 S2 h3
    refine ⟨ρ3, S3, ?_, by simpa using h5⟩
    unfold forL
    rw [h1]
    simp only [bind_ok]
    rw [h2]
    rcases hf with rfl | rfl <;> exact h4
/-- a comprehension without cells: a map -/
theorem lcL_map {g : MG} {m : ME} {ρ : Env} {f : D → D} : ∀ (ds : List D) (S : Store), (∀ d ∈ ds, ∃ ρ1, g d ρ S = .ok ρ1 S ∧ m ρ1 S = .ok (f d) S) → lcL g mYes m ρ ds S = .ok (ds.map f) S
  | [], S, _ => rfl
  | d :: ds, S, h => by
    obtain ⟨ρ1, h1, h2⟩ := h d (by simp)
    unfold lcL
    rw [h1]
    simp only [bind_ok, ap_yes]
    rw [h2]
    simp only [bind_ok]
    rw [lcL_map ds S fun e he => h e (by simp [he])]
    rfl
/-- .. with a test -/
theorem lcL_filter {g : MG} {m : ME} {t : MT} {ρ : Env} {f : D → D} {p : D → Bool} : ∀ (ds : List D) (S : Store), (∀ d ∈ ds, ∃ ρ1, g d ρ S = .ok ρ1 S ∧ t ρ1 S = .ok (p d) S ∧ (p d = true → m ρ1 S = .ok (f d) S)) → lcL g t m ρ ds S = .ok ((ds.filter p).map f) S
  | [], S, _ => rfl
  | d :: ds, S, h => by
    obtain ⟨ρ1, h1, h2, h3⟩ := h d (by simp)
    have ih := lcL_filter ds S fun e he => h e (by simp [he])
    unfold lcL
    rw [h1]
    simp only [bind_ok]
    rw [h2]
    simp only [bind_ok]
    cases hp : p d with
    | true =>
      simp only [List.filter_cons, hp, if_true, List.map_cons]
      rw [h3 hp]
      simp only [bind_ok]
      rw [ih]
      rfl
    | false =>
      simp only [List.filter_cons, hp]
      exact ih
/-- .. through changing cells -/
theorem lcL_indx {g : MG} {m : ME} {ρ : Env} {Inv : Nat → Store → Prop} {P : Nat → D → Prop} : ∀ (ds : List D) (i : Nat) (S : Store), Inv i S → (∀ j S d, ds[j]? = some d → Inv (i + j) S → ∃ ρ1 v S1, g d ρ S = .ok ρ1 S ∧ m ρ1 S = .ok v S1 ∧ P (i + j) v ∧ Inv (i + j + 1) S1) →
    ∃ vs S1, lcL g mYes m ρ ds S = .ok vs S1 ∧ vs.length = ds.length ∧ (∀ j v, vs[j]? = some v → P (i + j) v) ∧ Inv (i + ds.length) S1
  | [], i, S, h, _ => ⟨[], S, rfl, rfl, by simp, h⟩
  | d :: ds, i, S, h, turn => by
    obtain ⟨ρ1, v, S1, h1, h2, h3, h4⟩ := turn 0 S d rfl h
    obtain ⟨vs, S2, k1, k2, k3, k4⟩ := lcL_indx (P := P) ds (i + 1) S1 h4 fun j S e he hi => by
      have := turn (j + 1) S e (by simpa using he) (by rw [show i + (j + 1) = i + 1 + j by omega]; exact hi)
      rw [show i + (j + 1) = i + 1 + j by omega] at this
      exact this
    refine ⟨v :: vs, S2, ?_, by simp [k2], fun j w hw => ?_, by rw [List.length_cons, show i + (ds.length + 1) = i + 1 + ds.length by omega]; exact k4⟩
    · unfold lcL
      rw [h1]
      simp only [bind_ok, ap_yes]
      rw [h2]
      simp only [bind_ok]
      rw [k1]
      rfl
    · cases j with
      | zero => simp at hw; subst hw; exact h3
      | succ j =>
        have := k3 j w (by simpa using hw)
        rw [show i + (j + 1) = i + 1 + j by omega]
        exact this
theorem lcL_ind {g : MG} {m : ME} {ρ : Env} (Inv : Nat → Store → Prop) (P : Nat → D → Prop) (ds : List D) (S : Store) (h : Inv 0 S) (turn : ∀ j S d, ds[j]? = some d → Inv j S → ∃ ρ1 v S1, g d ρ S = .ok ρ1 S ∧ m ρ1 S = .ok v S1 ∧ P j v ∧ Inv (j + 1) S1) :
    ∃ vs S1, lcL g mYes m ρ ds S = .ok vs S1 ∧ vs.length = ds.length ∧ (∀ j v, vs[j]? = some v → P j v) ∧ Inv ds.length S1 := by
  have := lcL_indx (g := g) (m := m) (ρ := ρ) (Inv := Inv) (P := P) ds 0 S h (by simpa using turn)
  simpa using this
theorem rangeD_len (lo : Int) (n : Nat) : (rangeD lo n).length = n := by simp [rangeD]
theorem rangeD_get {lo : Int} {n i : Nat} {d : D} (h : (rangeD lo n)[i]? = some d) : i < n ∧ d = .int (lo + (i : Int)) := by
  unfold rangeD at h
  rw [List.getElem?_map] at h
  cases q : (List.range n)[i]? with
  | none => simp [q] at h
  | some j =>
    simp only [q, Option.map_some, Option.some.injEq] at h
    obtain ⟨h1, h2⟩ := List.getElem?_eq_some_iff.mp q
    simp at h1 h2
    subst h2
    exact ⟨h1, h.symm⟩
end Q
namespace Lw
open PySem L2 Q
def m_l_cells : MS := (mSeq (mAsg (mOrV (mCall fListC (mCons (mSl (mVar 0) mNoO (mSoO (mVar 1))) mNil)) (mCell (mCons (mC (.int 0)) mNil))) (mgN 2))
  (mSeq (mFor (mEnum (mSl (mVar 0) (mSoO (mVar 1)) (mSoO (mC (.int 63))))) (mgTup 2 (mgCons (mgN 3) (mgCons (mgN 4) mgNil))) (mSeq (mAsg (mOp opModI (mCall fInt (mCons (mVar 3) mNil)) (mVar 1)) (mgN 5))
  (mAsg (mOp opAdd (mOp opIx (mVar 2) (mVar 5)) (mOp opMul (mVar 4) (mOp opAdd (mVar 3) (mC (.int 2))))) (mgSub (mVar 2) (mVar 5)))))
  (mRet (mFrz (mVar 2)))))
def f_l_cells : List D → Store → Res D := fnM 6 2 m_l_cells
def m_l_box : MS := (mSeq (mAsg (mIfE (mTB (mOp opLt (mVar 1) (mCall fLen (mCons (mVar 0) mNil)))) (mOp opIx (mVar 0) (mVar 1)) (mC (.int 0))) (mgN 2))
  (mRet (mCell (mCons (mOp opMul (mCall fAbs (mCons (mVar 2) mNil)) (mCall fInt (mCons (mOp opGe (mCall fAbs (mCons (mVar 2) mNil)) (mOp opPowI (mC (.int 10)) (mC (.int 18)))) mNil))) (mCons (mOp opAdd (mOp opAdd (mOp opModI (mCall fInt (mCons (mVar 2) mNil)) (mC (.int 2305843009213693951))) (mOp opMul (mC (.int 39373)) (mVar 1))) (mC (.int 800))) (mCons (mC (.int 0)) mNil))))))
def f_l_box : List D → Store → Res D := fnC 3 2 m_l_box
def m_l_take : MS := (mSeq (mIf (mTB (mOp opGt (mOp opIx (mVar 0) (mC (.int 0))) (mC (.int 0)))) (mSeq (mAsg (mOp opModI (mCall fInt (mCons (mOp opIx (mVar 0) (mC (.int 0))) mNil)) (mVar 1)) (mgN 2))
  (mSeq (mAsg (mOp opDivI (mOp opIx (mVar 0) (mC (.int 0))) (mVar 1)) (mgSub (mVar 0) (mC (.int 0))))
  (mRet (mVar 2)))) mSkip)
  (mSeq (mAsg (mOp opAdd (mOp opIx (mVar 0) (mC (.int 2))) (mC (.int 1))) (mgSub (mVar 0) (mC (.int 2))))
  (mSeq (mAsg (mOp opModI (mCall fInt (mCons (mOp opMul (mOp opAdd (mOp opIx (mVar 0) (mC (.int 1))) (mOp opMul (mC (.int 48271)) (mOp opIx (mVar 0) (mC (.int 2))))) (mOp opAdd (mC (.int 39373)) (mOp opIx (mVar 0) (mC (.int 2))))) mNil)) (mC (.int 2147483647))) (mgN 3))
  (mSeq (mAsg (mOp opAdd (mOp opModI (mCall fInt (mCons (mVar 3) mNil)) (mC (.int 40009))) (mC (.int 7))) (mgN 4))
  (mSeq (mAsg (mOp opModI (mCall fInt (mCons (mOp opMul (mOp opAdd (mOp opAdd (mVar 3) (mOp opIx (mVar 0) (mC (.int 2)))) (mOp opDivI (mOp opIx (mVar 0) (mC (.int 1))) (mC (.int 1000003)))) (mVar 4)) mNil)) (mC (.int 2147483629))) (mgN 5))
  (mRet (mOp opModI (mCall fInt (mCons (mOp opDivI (mOp opModI (mCall fInt (mCons (mOp opAdd (mOp opMul (mVar 5) (mC (.int 48271))) (mVar 3)) mNil)) (mC (.int 2147483587))) (mC (.int 64))) mNil)) (mVar 1))))))))
def f_l_take : List D → Store → Res D := fnM 6 2 m_l_take
def m_l_of : MS := (mRet (mOp opIx (mVar 1) (mCall (fCall f_l_take) (mCons (mVar 0) (mCons (mCall fLen (mCons (mVar 1) mNil)) mNil)))))
def f_l_of : List D → Store → Res D := fnM 2 2 m_l_of
def m_l_from : MS := (mRet (mAndV (mIsi .int (mVar 0)) (mAndV (mNotV (mIsi .bool (mVar 0))) (mOp opGe (mVar 0) (mVar 1)))))
def f_l_from : List D → Store → Res D := fnM 2 2 m_l_from
def m_l_is_pair : MS := (mSeq (mIf (mOrT (mNotT (mTest (mIsi .tuple (mVar 0)))) (mTB (mOp opNe (mCall fLen (mCons (mVar 0) mNil)) (mC (.int 2))))) (mRet (mC (.bl false))) mSkip)
  (mRet (mAndV (mCall (fPure f_l_from) (mCons (mOp opIx (mVar 0) (mC (.int 0))) (mCons (mC (.int 0)) mNil))) (mCall (fPure f_l_from) (mCons (mOp opIx (mVar 0) (mC (.int 1))) (mCons (mC (.int 0)) mNil))))))
def f_l_is_pair : List D → Store → Res D := fnM 1 1 m_l_is_pair
def m_l_due : MS := (mSeq (mAsg (mCall (fPure f_l_is_pair) (mCons (mVar 1) mNil)) (mgN 2))
  (mSeq (mAsg (mCell (mCons (mAndV (mVar 2) (mChain opLt opLt (mC (.int 0)) (mOp opIx (mVar 1) (mC (.int 0))) (mOp opIx (mVar 1) (mC (.int 1))))) mNil)) (mgN 3))
  (mSeq (mDrop (mApp (mVar 3) (mAndV (mIsi .tuple (mVar 1)) (mAndV (mOp opGt (mCall fLen (mCons (mVar 1) mNil)) (mC (.int 0))) (mCall fAll (mCons (mLc (mItems (mVar 1)) (mgN 4) mYes (mCall (fPure f_l_is_pair) (mCons (mVar 4) mNil)) [4]) mNil))))))
  (mRet (mOp opAdd (mVar 3) (mLst (mCons (mAndV (mVar 2) (mChain opLt opLe (mOp opIx (mVar 1) (mC (.int 0))) (mOp opIx (mVar 1) (mC (.int 1))) (mVar 0))) mNil)))))))
def f_l_due : List D → Store → Res D := fnM 5 2 m_l_due
def m_p_is_tuple : MS := (mRet (mAndV (mIsi .tuple (mVar 0)) (mOp opEq (mCall fLen (mCons (mVar 0) mNil)) (mVar 1))))
def f_p_is_tuple : List D → Store → Res D := fnM 2 2 m_p_is_tuple
def m_p_is_number : MS := (mRet (mAndV (mIsi .int (mVar 0)) (mAndV (mNotV (mIsi .bool (mVar 0))) (mOp opGe (mVar 0) (mVar 1)))))
def f_p_is_number : List D → Store → Res D := fnM 2 2 m_p_is_number
def m_p_is_limit : MS := (mRet (mAndV (mCall (fPure f_p_is_tuple) (mCons (mVar 0) (mCons (mC (.int 2)) mNil))) (mAndV (mCall (fPure f_p_is_number) (mCons (mOp opIx (mVar 0) (mC (.int 0))) (mCons (mC (.int 1)) mNil))) (mAndV (mCall (fPure f_p_is_number) (mCons (mOp opIx (mVar 0) (mC (.int 1))) (mCons (mC (.int 1)) mNil))) (mOp opLt (mOp opIx (mVar 0) (mC (.int 0))) (mOp opIx (mVar 0) (mC (.int 1))))))))
def f_p_is_limit : List D → Store → Res D := fnM 1 1 m_p_is_limit
def m_p_is_minute : MS := (mRet (mAndV (mCall (fPure f_p_is_tuple) (mCons (mVar 0) (mCons (mC (.int 2)) mNil))) (mAndV (mCall (fPure f_p_is_number) (mCons (mOp opIx (mVar 0) (mC (.int 0))) (mCons (mC (.int 0)) mNil))) (mCall (fPure f_p_is_number) (mCons (mOp opIx (mVar 0) (mC (.int 1))) (mCons (mC (.int 0)) mNil))))))
def f_p_is_minute : List D → Store → Res D := fnM 1 1 m_p_is_minute
def m_p_is_log : MS := (mRet (mAndV (mIsi .tuple (mVar 0)) (mAndV (mOp opGt (mCall fLen (mCons (mVar 0) mNil)) (mC (.int 0))) (mCall fAll (mCons (mLc (mItems (mVar 0)) (mgN 1) mYes (mCall (fPure f_p_is_minute) (mCons (mVar 1) mNil)) [1]) mNil)))))
def f_p_is_log : List D → Store → Res D := fnM 2 1 m_p_is_log
def m_p_is_stretch : MS := (mSeq (mIf (mOrT (mNotT (mTest (mCall (fPure f_p_is_tuple) (mCons (mVar 1) (mCons (mC (.int 2)) mNil))))) (mOrT (mNotT (mTest (mCall (fPure f_p_is_number) (mCons (mOp opIx (mVar 1) (mC (.int 0))) (mCons (mC (.int 0)) mNil))))) (mNotT (mTest (mCall (fPure f_p_is_number) (mCons (mOp opIx (mVar 1) (mC (.int 1))) (mCons (mC (.int 0)) mNil))))))) (mRet (mC (.bl false))) mSkip)
  (mRet (mChain opLt opLe (mOp opIx (mVar 1) (mC (.int 0))) (mOp opIx (mVar 1) (mC (.int 1))) (mVar 0))))
def f_p_is_stretch : List D → Store → Res D := fnM 2 2 m_p_is_stretch
def m_l_same (self : List D → Store → Res D) : MS := (mSeq (mIf (mTest (mIsi2 .list .tuple (mVar 1))) (mSeq (mIf (mOrT (mTB (mOp opNe (mIsi .list (mVar 0)) (mIsi .list (mVar 1)))) (mTB (mOp opNe (mIsi .tuple (mVar 0)) (mIsi .tuple (mVar 1))))) (mRet (mC (.bl false))) mSkip)
  (mRet (mAndV (mOp opEq (mCall fLen (mCons (mVar 0) mNil)) (mCall fLen (mCons (mVar 1) mNil))) (mCall fAll (mCons (mLc (mZip (mCons (mVar 0) (mCons (mVar 1) mNil))) (mgTup 2 (mgCons (mgN 2) (mgCons (mgN 3) mgNil))) mYes (mCall (fPure self) (mCons (mVar 2) (mCons (mVar 3) mNil))) [2, 3]) mNil))))) mSkip)
  (mSeq (mIf (mOrT (mTB (mIsN (mVar 1))) (mTest (mIsi2 .bool .str (mVar 1)))) (mRet (mAndV (mOp opEq (mVar 0) (mVar 1)) (mAndV (mOp opEq (mIsi .bool (mVar 0)) (mIsi .bool (mVar 1))) (mOp opEq (mIsN (mVar 0)) (mIsN (mVar 1)))))) mSkip)
  (mRet (mAndV (mIsi .int (mVar 0)) (mAndV (mNotV (mIsi .bool (mVar 0))) (mOp opEq (mVar 0) (mVar 1)))))))
def f_l_same : Nat → List D → Store → Res D
  | 0 => fun _ _ => .no
  | k + 1 => fnM 4 2 (m_l_same (f_l_same k))
def m_l_asked_right : MS := (mSeq (mAsg (mLst (mCons (mCall (fPure f_p_is_limit) (mCons (mVar 1) mNil)) (mCons (mCall (fPure f_p_is_log) (mCons (mVar 1) mNil)) (mCons (mCall (fPure f_p_is_stretch) (mCons (mVar 0) (mCons (mVar 1) mNil))) mNil)))) (mgN 2))
  (mSeq (mAsg (mLst (mCons (mCallK (fPure f_p_is_limit) 0 1 [0] mNil (mCons (mVar 1) mNil)) (mCons (mCallK (fPure f_p_is_log) 0 1 [0] mNil (mCons (mVar 1) mNil)) (mCons (mCallK (fPure f_p_is_stretch) 0 2 [1, 0] mNil (mCons (mVar 1) (mCons (mVar 0) mNil))) mNil)))) (mgN 3))
  (mSeq (mAsg (mCall (fPure f_l_due) (mCons (mVar 0) (mCons (mVar 1) mNil))) (mgN 4))
  (mRet (mAndV (mCall (fPure (f_l_same 30)) (mCons (mVar 2) (mCons (mVar 4) mNil))) (mCall (fPure (f_l_same 30)) (mCons (mVar 3) (mCons (mVar 4) mNil))))))))
def f_l_asked_right : List D → Store → Res D := fnM 5 2 m_l_asked_right
def m_l_by_hand_right : MS := (mSeq (mAsg (mLst (mCons (mTup (mCons (mC (.int 1)) (mCons (mC (.int 10)) mNil))) (mCons (mTup (mCons (mC (.int 0)) (mCons (mC (.int 10)) mNil))) (mCons (mTup (mCons (mC (.int 1)) (mCons (mC (.int 1)) mNil))) (mCons (mTup (mCons (mC (.int 2)) (mCons (mC (.int 1)) mNil))) (mCons (mTup (mCons (mC (.int 1)) (mCons (mC (.int 2)) (mCons (mC (.int 3)) mNil)))) (mCons (mTup (mCons (mC (.int 1)) mNil)) (mCons (mLst (mCons (mC (.int 1)) (mCons (mC (.int 10)) mNil))) (mCons (mTup (mCons (mC (.bl true)) (mCons (mC (.int 10)) mNil))) (mCons (mTup (mCons (mC (.int 1)) (mCons (mC .non) mNil))) (mCons (mC (.str "ab")) (mCons (mTup (mCons (mC (.int 0)) (mCons (mC (.int 9)) mNil))) (mCons (mTup (mCons (mC (.int 4)) (mCons (mC (.int 4)) mNil))) mNil))))))))))))) (mgN 0))
  (mSeq (mAsg (mOp opAdd (mVar 0) (mLst (mCons (mTup (mCons (mC (.int 4)) (mCons (mC (.int 10)) mNil))) (mCons (mTup (mCons (mNeg (mC (.int 1))) (mCons (mC (.int 3)) mNil))) (mCons (mTup (mCons (mTup (mCons (mC (.int 0)) (mCons (mC (.int 0)) mNil))) mNil)) (mCons (mTup (mCons (mTup (mCons (mC (.int 0)) (mCons (mC (.int 0)) mNil))) (mCons (mTup (mCons (mC (.int 1)) (mCons (mNeg (mC (.int 1))) mNil))) mNil))) (mCons (mTup mNil) (mCons (mLst (mCons (mTup (mCons (mC (.int 0)) (mCons (mC (.int 0)) mNil))) mNil)) (mCons (mTup (mCons (mTup (mCons (mC (.int 0)) (mCons (mC (.bl true)) mNil))) mNil)) (mCons (mTup (mCons (mTup (mCons (mC (.int 0)) (mCons (mC (.int 0)) mNil))) (mCons (mLst (mCons (mC (.int 0)) (mCons (mC (.int 0)) mNil))) mNil))) (mCons (mC (.int 7)) mNil))))))))))) (mgN 0))
  (mSeq (mAsg (mOp opAdd (mVar 0) (mLst (mCons (mTup (mCons (mTup (mCons (mC (.int 0)) (mCons (mC (.int 0)) mNil))) (mCons (mTup (mCons (mC (.int 5)) (mCons (mOp opPowI (mC (.int 10)) (mC (.int 60))) mNil))) mNil))) (mCons (mTup (mCons (mOp opPowI (mC (.int 10)) (mC (.int 40))) (mCons (mOp opPowI (mC (.int 10)) (mC (.int 60))) mNil))) (mCons (mTup (mCons (mTup (mCons (mC (.int 0)) (mCons (mC (.int 0)) (mCons (mC (.int 0)) mNil)))) mNil)) (mCons (mC .non) (mCons (mC (.bl false)) (mCons (mTup (mCons (mC (.int 0)) (mCons (mC (.str "9")) mNil))) (mCons (mTup (mCons (mTup mNil) (mCons (mTup mNil) mNil))) mNil))))))))) (mgN 0))
  (mRet (mCall fAll (mCons (mLc (mItems (mVar 0)) (mgN 1) mYes (mCall (fPure f_l_asked_right) (mCons (mC (.int 9)) (mCons (mVar 1) mNil))) [1]) mNil))))))
def f_l_by_hand_right : List D → Store → Res D := fnM 2 0 m_l_by_hand_right
def m_l_limit : MS := (mSeq (mAsg (mCall (fCall f_l_take) (mCons (mVar 0) (mCons (mC (.int 8)) mNil))) (mgN 1))
  (mSeq (mIf (mTB (mOp opEq (mVar 1) (mC (.int 0)))) (mRet (mTup (mCons (mOp opAdd (mC (.int 1)) (mCall (fCall f_l_take) (mCons (mVar 0) (mCons (mOp opPowI (mC (.int 10)) (mC (.int 18))) mNil)))) (mCons (mOp opAdd (mOp opAdd (mOp opPowI (mC (.int 10)) (mC (.int 18))) (mC (.int 1))) (mCall (fCall f_l_take) (mCons (mVar 0) (mCons (mOp opPowI (mC (.int 10)) (mC (.int 20))) mNil)))) mNil)))) mSkip)
  (mSeq (mIf (mTB (mOp opEq (mVar 1) (mC (.int 1)))) (mRet (mTup (mCons (mOp opAdd (mC (.int 2)) (mOp opMul (mCall (fCall f_l_take) (mCons (mVar 0) (mCons (mC (.int 3)) mNil))) (mC (.int 2)))) (mCons (mC (.int 20)) mNil)))) mSkip)
  (mRet (mCall (fCall f_l_of) (mCons (mVar 0) (mCons (mLst (mCons (mTup (mCons (mC (.int 1)) (mCons (mC (.int 10)) mNil))) (mCons (mTup (mCons (mC (.int 1)) (mCons (mC (.int 2)) mNil))) (mCons (mTup (mCons (mC (.int 1)) (mCons (mC (.int 100)) mNil))) (mCons (mTup (mCons (mC (.int 3)) (mCons (mC (.int 7)) mNil))) (mCons (mTup (mCons (mC (.int 99)) (mCons (mC (.int 100)) mNil))) (mCons (mTup (mCons (mC (.int 2)) (mCons (mC (.int 5)) mNil))) mNil))))))) mNil)))))))
def f_l_limit : List D → Store → Res D := fnM 2 1 m_l_limit
def m_l_number : MS := (mSeq (mAsg (mCall (fCall f_l_take) (mCons (mVar 0) (mCons (mC (.int 6)) mNil))) (mgN 1))
  (mSeq (mIf (mTB (mOp opLt (mVar 1) (mC (.int 2)))) (mRet (mC (.int 0))) mSkip)
  (mSeq (mIf (mTB (mOp opLt (mVar 1) (mC (.int 4)))) (mRet (mOp opAdd (mC (.int 1)) (mCall (fCall f_l_take) (mCons (mVar 0) (mCons (mC (.int 12)) mNil))))) mSkip)
  (mRet (mIfE (mTB (mOp opEq (mVar 1) (mC (.int 4)))) (mCall (fCall f_l_take) (mCons (mVar 0) (mCons (mC (.int 1000)) mNil))) (mCall (fCall f_l_take) (mCons (mVar 0) (mCons (mOp opPowI (mC (.int 10)) (mC (.int 30))) mNil))))))))
def f_l_number : List D → Store → Res D := fnM 2 1 m_l_number
def m_l_log : MS := (mRet (mCall fTuple (mCons (mLc (mRange1 (mVar 1)) (mgN 2) mYes (mTup (mCons (mCall (fCall f_l_number) (mCons (mVar 0) mNil)) (mCons (mCall (fCall f_l_number) (mCons (mVar 0) mNil)) mNil))) [2]) mNil)))
def f_l_log : List D → Store → Res D := fnM 3 2 m_l_log
def m_l_stretch : MS := (mSeq (mIf (mTB (mOp opEq (mCall (fCall f_l_take) (mCons (mVar 0) (mCons (mC (.int 3)) mNil))) (mC (.int 0)))) (mRet (mTup (mCons (mC (.int 0)) (mCons (mVar 1) mNil)))) mSkip)
  (mSeq (mAsg (mCall (fCall f_l_take) (mCons (mVar 0) (mCons (mVar 1) mNil))) (mgN 2))
  (mRet (mTup (mCons (mVar 2) (mCons (mOp opAdd (mOp opAdd (mVar 2) (mC (.int 1))) (mCall (fCall f_l_take) (mCons (mVar 0) (mCons (mOp opSubI (mVar 1) (mVar 2)) mNil)))) mNil))))))
def f_l_stretch : List D → Store → Res D := fnM 3 2 m_l_stretch
def m_l_bent (self : List D → Store → Res D) : MS := (mSeq (mIf (mAndT (mTest (mIsi .tuple (mVar 1))) (mAndT (mTB (mOp opGt (mCall fLen (mCons (mVar 1) mNil)) (mC (.int 0)))) (mTB (mOp opGt (mCall (fCall f_l_take) (mCons (mVar 0) (mCons (mC (.int 3)) mNil))) (mC (.int 0)))))) (mSeq (mAsg (mCall (fCall f_l_take) (mCons (mVar 0) (mCons (mCall fLen (mCons (mVar 1) mNil)) mNil))) (mgN 2))
  (mRet (mOp opAdd (mOp opAdd (mSl (mVar 1) mNoO (mSoO (mVar 2))) (mTup (mCons (mCall (fCall self) (mCons (mVar 0) (mCons (mOp opIx (mVar 1) (mVar 2)) mNil))) mNil))) (mSl (mVar 1) (mSoO (mOp opAdd (mVar 2) (mC (.int 1)))) mNoO)))) mSkip)
  (mSeq (mAsg (mLst (mCons (mC .non) (mCons (mC (.bl true)) (mCons (mC (.bl false)) (mCons (mC (.str "")) (mCons (mC (.str "1")) (mCons (mNeg (mC (.int 1))) (mCons (mC (.int 0)) (mCons (mTup mNil) (mCons (mLst mNil) (mCons (mTup (mCons (mC (.int 1)) mNil)) (mCons (mTup (mCons (mC (.int 0)) (mCons (mC (.int 1)) (mCons (mC (.int 2)) mNil)))) (mCons (mLst (mCons (mC (.int 1)) (mCons (mC (.int 2)) mNil))) (mCons (mTup (mCons (mTup (mCons (mC (.int 1)) (mCons (mC (.int 2)) mNil))) mNil)) (mCons (mOp opPowI (mC (.int 10)) (mC (.int 40))) mNil))))))))))))))) (mgN 3))
  (mSeq (mAsg (mCall (fCall f_l_take) (mCons (mVar 0) (mCons (mOp opAdd (mCall fLen (mCons (mVar 3) mNil)) (mC (.int 4))) mNil))) (mgN 4))
  (mSeq (mIf (mTB (mOp opLt (mVar 4) (mCall fLen (mCons (mVar 3) mNil)))) (mRet (mOp opIx (mVar 3) (mVar 4))) mSkip)
  (mSeq (mIf (mAndT (mTest (mIsi .tuple (mVar 1))) (mTB (mOp opLt (mVar 4) (mOp opAdd (mCall fLen (mCons (mVar 3) mNil)) (mC (.int 2)))))) (mRet (mIfE (mTB (mOp opEq (mVar 4) (mCall fLen (mCons (mVar 3) mNil)))) (mCall fList (mCons (mVar 1) mNil)) (mOp opAdd (mVar 1) (mSl (mVar 1) mNoO (mSoO (mC (.int 1))))))) mSkip)
  (mRet (mIfE (mTest (mCall (fPure f_l_from) (mCons (mVar 1) (mCons (mC (.int 0)) mNil)))) (mOp opSubI (mVar 1) (mC (.int 1))) (mTup (mCons (mVar 1) mNil)))))))))
def f_l_bent : Nat → List D → Store → Res D
  | 0 => fun _ _ => .no
  | k + 1 => fnM 5 2 (m_l_bent (f_l_bent k))
def m_l_right : MS := (mSeq (mIf (mNotT (mTest (mCall (fPure f_l_by_hand_right) mNil))) (mRet (mC (.bl false))) mSkip)
  (mSeq (mAsg (mOp opAdd (mC (.int 1)) (mCall (fCall f_l_take) (mCons (mVar 0) (mCons (mC (.int 9)) mNil)))) (mgN 1))
  (mSeq (mAsg (mLst (mCons (mCall (fCall f_l_limit) (mCons (mVar 0) mNil)) (mCons (mCall (fCall f_l_log) (mCons (mVar 0) (mCons (mVar 1) mNil))) (mCons (mCall (fCall f_l_stretch) (mCons (mVar 0) (mCons (mVar 1) mNil))) mNil)))) (mgN 2))
  (mSeq (mAsg (mCall (fCall f_l_of) (mCons (mVar 0) (mCons (mVar 2) mNil))) (mgN 3))
  (mSeq (mFor (mRange1 (mC (.int 3))) (mgN 4) (mSeq (mIf (mOrT (mNotT (mTest (mCall (fPure f_l_asked_right) (mCons (mVar 1) (mCons (mVar 3) mNil))))) (mNotT (mTest (mCall (fPure f_l_asked_right) (mCons (mOp opAdd (mC (.int 1)) (mCall (fCall f_l_take) (mCons (mVar 0) (mCons (mC (.int 9)) mNil)))) (mCons (mVar 3) mNil)))))) (mRet (mC (.bl false))) mSkip)
  (mAsg (mCall (fCall (f_l_bent 30)) (mCons (mVar 0) (mCons (mVar 3) mNil))) (mgN 3))))
  (mRet (mC (.bl true))))))))
def f_l_right : List D → Store → Res D := fnM 5 1 m_l_right
def m_l_law : MS := (mSeq (mAsg (mCall (fPure f_l_cells) (mCons (mVar 0) (mCons (mC (.int 3)) mNil))) (mgN 1))
  (mSeq (mFor (mRange1 (mCall fLen (mCons (mVar 1) mNil))) (mgN 2) (mSeq (mAsg (mCall (fCall f_l_box) (mCons (mVar 1) (mCons (mVar 2) mNil))) (mgN 3))
  (mIf (mNotT (mTest (mCall fAll (mCons (mLc (mRange1 (mC (.int 4))) (mgN 4) mYes (mCall (fCall f_l_right) (mCons (mVar 3) mNil)) [4]) mNil)))) (mRet (mC (.bl false))) mSkip)))
  (mRet (mC (.bl true)))))
def f_l_law : List D → Store → Res D := fnM 5 1 m_l_law
end Lw
set_option exponentiation.threshold 10000
namespace Lw
open PySem L2 Q
/-! ### the source of draws -/
/-- the box: three numbers -/
abbrev box (a b c : Int) : Cell := .lst [.int a, .int b, .int c]
theorem mulOk_r {i j : Int} (h : -(2 ^ 64) < j ∧ j < 2 ^ 64) : mulOk i j = true := by
  have h2 : j.natAbs < 2 ^ 64 := by omega
  unfold mulOk
  rw [decide_eq_true h2]
  simp
theorem mulOk_l {i j : Int} (h : -(2 ^ 64) < i ∧ i < 2 ^ 64) : mulOk i j = true := by
  have h2 : i.natAbs < 2 ^ 64 := by omega
  unfold mulOk
  rw [decide_eq_true h2]
  simp
theorem log2_lt9000 {n : Int} (h0 : 0 ≤ n) (h : n < 2 ^ 8999) : n.natAbs.log2 < 9000 := by
  by_cases e : n.natAbs = 0
  · rw [e]; decide
  · have h2 : n.natAbs < 2 ^ 8999 := by
      have : (n.natAbs : Int) = n := by omega
      have h3 : (n.natAbs : Int) < ((2 ^ 8999 : Nat) : Int) := by rw [this]; exact_mod_cast h
      exact_mod_cast h3
    have := (Nat.log2_lt e).mpr h2
    omega
theorem divOk_of {i j : Int} (h0 : 0 < j) (h : j < 2 ^ 8999) : divOk i j = true := by
  unfold divOk
  exact decide_eq_true ⟨h0, log2_lt9000 (by omega) h⟩
theorem modOk_of {i j : Int} (h0 : 0 < j) : modOk i j = true := by
  unfold modOk
  exact decide_eq_true h0
/-- a box after at most N draws by mixing -/
def BoxC (x : Cell) (N : Nat) : Prop := ∃ a b c : Int, x = box a b c ∧ 0 ≤ a ∧ (0 ≤ b ∧ b < 2 ^ 63) ∧ 0 ≤ c ∧ c ≤ N
theorem BoxC.mono {x : Cell} {N M : Nat} (h : BoxC x N) (hl : N ≤ M) : BoxC x M := by
  obtain ⟨a, b, c, e, ha, hb, hc, hd⟩ := h
  exact ⟨a, b, c, e, ha, hb, hc, by omega⟩
def once (b c : Int) : Int := ((b + 48271 * (c + 1)) * (39373 + (c + 1))) % 2147483647
def far (b c : Int) : Int := once b c % 40009 + 7
def twice (b c : Int) : Int := ((once b c + (c + 1) + b / 1000003) * far b c) % 2147483629
theorem take_eq1 (S : Store) (k : Nat) (a b c n : Int) (hk : S[k]? = some (box a b c)) (ha : 0 < a) (hn : 0 < n) (hn2 : n < 2 ^ 8999) :
    f_l_take [.ref k, .int n] S = .ok (.int (a % n)) (S.set k (box (a / n) b c)) := by
  simp [f_l_take, fnM, m_l_take, ix_refD _ hk, ha, modOk_of hn, divOk_of hn hn2, setIx, hk, ixN]
theorem take_eq2 (S : Store) (k : Nat) (a b c n : Int) (hk : S[k]? = some (box a b c)) (ha : ¬ 0 < a) (hn : 0 < n) (hb : 0 ≤ b ∧ b < 2 ^ 63) (hc : 0 ≤ c ∧ c < 2 ^ 40) :
    f_l_take [.ref k, .int n] S = .ok (.int ((twice b c * 48271 + once b c) % 2147483587 / 64 % n)) (S.set k (box a b (c + 1))) := by
  have hk2 : (S.set k (box a b (c + 1)))[k]? = some (box a b (c + 1)) := set_get hk
  have e1 : mulOk 48271 (c + 1) = true := mulOk_l (by decide)
  have e2 : mulOk (b + 48271 * (c + 1)) (39373 + (c + 1)) = true := mulOk_r (by omega)
  have e3 : ∀ x, mulOk x (far b c) = true := fun x => mulOk_r (by unfold far; omega)
  have e4 : ∀ x, mulOk x 48271 = true := fun x => mulOk_r (by decide)
  have f1 : ((b + 48271 * (c + 1)) * (39373 + (c + 1))) % 2147483647 = once b c := rfl
  have f2 : once b c % 40009 + 7 = far b c := rfl
  have f3 : ((once b c + (c + 1) + b / 1000003) * far b c) % 2147483629 = twice b c := rfl
  have g1 : divOk b 1000003 = true := divOk_of (by decide) (by decide)
  have g2 : ∀ x, divOk x 64 = true := fun x => divOk_of (by decide) (by decide)
  have g3 : ∀ x, modOk x n = true := fun x => modOk_of hn
  have g4 : ∀ x, modOk x 2147483647 = true := fun x => modOk_of (by decide)
  have g5 : ∀ x, modOk x 40009 = true := fun x => modOk_of (by decide)
  have g6 : ∀ x, modOk x 2147483629 = true := fun x => modOk_of (by decide)
  have g7 : ∀ x, modOk x 2147483587 = true := fun x => modOk_of (by decide)
  simp [f_l_take, fnM, m_l_take, ix_refD _ hk, ix_refD _ hk2, ha, setIx, hk, ixN, e1, e2, e3, e4, f1, f2, f3, g1, g2, g3, g4, g5, g6, g7]
theorem take_ok {S : Store} {k N : Nat} {x : Cell} {n : Int} (hk : S[k]? = some x) (hx : BoxC x N) (hN : N < 2 ^ 40) (hn : 0 < n) (hn2 : n < 2 ^ 8999) :
    ∃ r y, (0 ≤ r ∧ r < n) ∧ BoxC y (N + 1) ∧ f_l_take [.ref k, .int n] S = .ok (.int r) (S.set k y) := by
  obtain ⟨a, b, c, rfl, ha, hb, hc, hd⟩ := hx
  by_cases h : 0 < a
  · exact ⟨_, _, ⟨Int.emod_nonneg _ (by omega), Int.emod_lt_of_pos _ hn⟩, ⟨a / n, b, c, rfl, Int.ediv_nonneg ha (by omega), hb, hc, by omega⟩, take_eq1 S k a b c n hk h hn hn2⟩
  · exact ⟨_, _, ⟨Int.emod_nonneg _ (by omega), Int.emod_lt_of_pos _ hn⟩, ⟨a, b, c + 1, rfl, ha, hb, by omega, by omega⟩, take_eq2 S k a b c n hk h hn hb ⟨hc, by omega⟩⟩
theorem of_ok {S : Store} {k N : Nat} {x : Cell} {xs : List D} (hk : S[k]? = some x) (hx : BoxC x N) (hN : N < 2 ^ 40) (h0 : xs ≠ []) (h1 : xs.length < 2 ^ 60) :
    ∃ d y, d ∈ xs ∧ BoxC y (N + 1) ∧ f_l_of [.ref k, .lst xs] S = .ok d (S.set k y) := by
  have hp : 0 < xs.length := List.length_pos_iff.mpr h0
  obtain ⟨r, y, hr, hy, h⟩ := take_ok (n := (xs.length : Int)) hk hx hN (by omega) (Int.lt_of_lt_of_le (show (xs.length : Int) < 2 ^ 60 by omega) (by decide))
  have hl : r.toNat < xs.length := by omega
  have hg : atI xs r = some xs[r.toNat] := by
    have e : ((r.toNat : Nat) : Int) = r := by omega
    have z := atI_get (List.getElem?_eq_getElem hl)
    rw [e] at z
    exact z
  refine ⟨xs[r.toNat], y, List.getElem_mem hl, hy, ?_⟩
  simp [f_l_of, fnM, m_l_of, h, hg]
theorem limit_ok {S : Store} {k N : Nat} {x : Cell} (hk : S[k]? = some x) (hx : BoxC x N) (hN : N + 3 < 2 ^ 40) :
    ∃ p q y, (0 < p ∧ p < q ∧ q < 2 ^ 67) ∧ BoxC y (N + 3) ∧ f_l_limit [.ref k] S = .ok (.tup [.int p, .int q]) (S.set k y) := by
  obtain ⟨r1, y1, hr1, hy1, h1⟩ := take_ok (n := 8) hk hx (by omega) (by decide) (by decide)
  have hk1 := set_get (c' := y1) hk
  by_cases e0 : r1 = 0
  · obtain ⟨r2, y2, hr2, hy2, h2⟩ := take_ok (n := 1000000000000000000) hk1 hy1 (by omega) (by decide) (by decide)
    have hk2 := set_get (c' := y2) hk
    rw [List.set_set] at h2
    obtain ⟨r3, y3, hr3, hy3, h3⟩ := take_ok (n := 100000000000000000000) hk2 hy2 (by omega) (by decide) (by decide)
    rw [List.set_set] at h3
    refine ⟨1 + r2, 1000000000000000001 + r3, y3, ⟨by omega, by omega, by omega⟩, hy3, ?_⟩
    have p1 : powOk 10 18 = true := by decide
    have p2 : powOk 10 20 = true := by decide
    simp [f_l_limit, fnM, m_l_limit, h1, e0, p1, p2, h2, h3]
  · by_cases e1 : r1 = 1
    · obtain ⟨r2, y2, hr2, hy2, h2⟩ := take_ok (n := 3) hk1 hy1 (by omega) (by decide) (by decide)
      rw [List.set_set] at h2
      refine ⟨2 + r2 * 2, 20, y2, ⟨by omega, by omega, by omega⟩, hy2.mono (by omega), ?_⟩
      have m1 : mulOk r2 2 = true := mulOk_r (by decide)
      simp [f_l_limit, fnM, m_l_limit, h1, e0, e1, h2, m1]
    · obtain ⟨d, y2, hd, hy2, h2⟩ := of_ok (xs := [.tup [.int 1, .int 10], .tup [.int 1, .int 2], .tup [.int 1, .int 100], .tup [.int 3, .int 7], .tup [.int 99, .int 100], .tup [.int 2, .int 5]]) hk1 hy1 (by omega) (by simp) (by simp)
      rw [List.set_set] at h2
      have hd' : ∃ p q : Int, (0 < p ∧ p < q ∧ q < 2 ^ 67) ∧ d = .tup [.int p, .int q] := by
        simp only [List.mem_cons, List.mem_nil_iff, or_false] at hd
        rcases hd with rfl | rfl | rfl | rfl | rfl | rfl <;> exact ⟨_, _, by decide, rfl⟩
      obtain ⟨p, q, hpq, rfl⟩ := hd'
      refine ⟨p, q, y2, hpq, hy2.mono (by omega), ?_⟩
      simp [f_l_limit, fnM, m_l_limit, h1, e0, e1, h2]
theorem number_ok {S : Store} {k N : Nat} {x : Cell} (hk : S[k]? = some x) (hx : BoxC x N) (hN : N + 2 < 2 ^ 40) :
    ∃ v y, (0 ≤ v ∧ v < 10 ^ 30) ∧ BoxC y (N + 2) ∧ f_l_number [.ref k] S = .ok (.int v) (S.set k y) := by
  obtain ⟨r1, y1, hr1, hy1, h1⟩ := take_ok (n := 6) hk hx (by omega) (by decide) (by decide)
  have hk1 := set_get (c' := y1) hk
  by_cases e0 : r1 < 2
  · exact ⟨0, y1, by decide, hy1.mono (by omega), by simp [f_l_number, fnM, m_l_number, h1, e0]⟩
  · by_cases e1 : r1 < 4
    · obtain ⟨r2, y2, hr2, hy2, h2⟩ := take_ok (n := 12) hk1 hy1 (by omega) (by decide) (by decide)
      rw [List.set_set] at h2
      exact ⟨1 + r2, y2, ⟨by omega, by omega⟩, hy2, by simp [f_l_number, fnM, m_l_number, h1, e0, e1, h2]⟩
    · by_cases e2 : r1 = 4
      · obtain ⟨r2, y2, hr2, hy2, h2⟩ := take_ok (n := 1000) hk1 hy1 (by omega) (by decide) (by decide)
        rw [List.set_set] at h2
        exact ⟨r2, y2, ⟨by omega, by omega⟩, hy2, by simp [f_l_number, fnM, m_l_number, h1, e2, h2]⟩
      · obtain ⟨r2, y2, hr2, hy2, h2⟩ := take_ok (n := 1000000000000000000000000000000) hk1 hy1 (by omega) (by decide) (by decide)
        rw [List.set_set] at h2
        have p1 : powOk 10 30 = true := by decide
        refine ⟨r2, y2, ⟨by omega, by omega⟩, hy2, ?_⟩
        simp [f_l_number, fnM, m_l_number, h1, e0, e1, e2, p1, h2]
theorem stretch_ok {S : Store} {k N : Nat} {x : Cell} {many : Int} (hk : S[k]? = some x) (hx : BoxC x N) (hN : N + 3 < 2 ^ 40) (hm : 0 < many) (hm2 : many < 2 ^ 60) :
    ∃ s e y, (0 ≤ s ∧ s < e ∧ e ≤ many) ∧ BoxC y (N + 3) ∧ f_l_stretch [.ref k, .int many] S = .ok (.tup [.int s, .int e]) (S.set k y) := by
  have big : many < 2 ^ 8999 := Int.lt_trans hm2 (by decide)
  obtain ⟨r1, y1, hr1, hy1, h1⟩ := take_ok (n := 3) hk hx (by omega) (by decide) (by decide)
  have hk1 := set_get (c' := y1) hk
  by_cases e0 : r1 = 0
  · exact ⟨0, many, y1, ⟨by omega, by omega, by omega⟩, hy1.mono (by omega), by simp [f_l_stretch, fnM, m_l_stretch, h1, e0]⟩
  · obtain ⟨r2, y2, hr2, hy2, h2⟩ := take_ok (n := many) hk1 hy1 (by omega) hm big
    have hk2 := set_get (c' := y2) hk
    rw [List.set_set] at h2
    obtain ⟨r3, y3, hr3, hy3, h3⟩ := take_ok (n := many - r2) hk2 hy2 (by omega) (by omega) (by omega)
    rw [List.set_set] at h3
    exact ⟨r2, r2 + 1 + r3, y3, ⟨by omega, by omega, by omega⟩, hy3, by simp [f_l_stretch, fnM, m_l_stretch, h1, e0, h2, h3]⟩
/-- a LOG's data -/
def IsRow (d : D) : Prop := ∃ g f : Int, d = .tup [.int g, .int f] ∧ (0 ≤ g ∧ g < 10 ^ 30) ∧ 0 ≤ f ∧ f < 10 ^ 30
theorem log_ok {S : Store} {k N : Nat} {x : Cell} {many : Int} (hk : S[k]? = some x) (hx : BoxC x N) (hm : 0 ≤ many) (hm2 : many ≤ 60) (hN : N + 240 < 2 ^ 40) :
    ∃ rows y, rows.length = many.toNat ∧ (∀ d ∈ rows, IsRow d) ∧ BoxC y (N + 4 * many.toNat) ∧ f_l_log [.ref k, .int many] S = .ok (.tup rows) (S.set k y) := by
  obtain ⟨rows, S1, h1, h2, h3, y, rfl, hy⟩ := lcL_ind (g := mgN 2) (m := (mTup (mCons (mCall (fCall f_l_number) (mCons (mVar 0) mNil)) (mCons (mCall (fCall f_l_number) (mCons (mVar 0) mNil)) mNil)))) (ρ := [some (.ref k), some (.int many), none])
    (fun i T => ∃ y, T = S.set k y ∧ BoxC y (N + 4 * i)) (fun _ => IsRow) (rangeD 0 many.toNat) S ⟨x, (set_self hk).symm, by simpa using hx⟩ (by
      rintro i T d hd ⟨y, rfl, hy⟩
      obtain ⟨hi, rfl⟩ := rangeD_get hd
      have hk1 := set_get (c' := y) hk
      obtain ⟨v1, y1, hv1, hy1, h1⟩ := number_ok hk1 hy (by omega)
      have hk2 := set_get (c' := y1) hk1
      obtain ⟨v2, y2, hv2, hy2, h2⟩ := number_ok hk2 hy1 (by omega)
      rw [List.set_set] at h1
      rw [List.set_set, List.set_set] at h2
      exact ⟨_, .tup [.int v1, .int v2], S.set k y2, rfl, by simp [h1, h2], ⟨v1, v2, rfl, hv1, hv2⟩, y2, rfl, hy2.mono (by omega)⟩)
  rw [rangeD_len] at h2 hy
  refine ⟨rows, y, h2, fun d hd => ?_, hy, ?_⟩
  · obtain ⟨i, hi, e⟩ := List.getElem_of_mem hd
    exact h3 i d (by rw [← e]; exact List.getElem?_eq_getElem hi)
  · have hb : many.natAbs < 4611686018427387904 := by omega
    have hl : many.toNat ≤ 100000 := by omega
    simp [f_l_log, fnM, m_l_log, hb, rangeD_len, hl, wp, h1]
theorem cells_loop (m : Nat) (hm : 0 < m) (hm2 : m ≤ 63) (v0 : D) (xs : List Int) : ∀ (i : Nat) (v3 v4 v5 : Option D) (cs : List Int), cs.length = m → i + xs.length ≤ 63 → ∃ cs' : List Int, cs'.length = m ∧ ∃ w3 w4 w5,
    forL (mgTup 2 (mgCons (mgN 3) (mgCons (mgN 4) mgNil))) (mSeq (mAsg (mOp opModI (mCall fInt (mCons (mVar 3) mNil)) (mVar 1)) (mgN 5))
      (mAsg (mOp opAdd (mOp opIx (mVar 2) (mVar 5)) (mOp opMul (mVar 4) (mOp opAdd (mVar 3) (mC (.int 2))))) (mgSub (mVar 2) (mVar 5)))) (enumD i (xs.map D.int)) [some v0, some (.int m), some (.ref 0), v3, v4, v5] [.lst (cs.map D.int)]
    = .ok (.nx [some v0, some (.int m), some (.ref 0), w3, w4, w5]) [.lst (cs'.map D.int)] := by
  induction xs with
  | nil => exact fun i v3 v4 v5 cs hl _ => ⟨cs, hl, v3, v4, v5, rfl⟩
  | cons x xs ih =>
    intro i v3 v4 v5 cs hl hi
    rw [List.length_cons] at hi
    obtain ⟨j, hj, hjm⟩ : ∃ j : Nat, (i : Int) % (m : Int) = (j : Int) ∧ j < m := ⟨((i : Int) % (m : Int)).toNat, by
      have := Int.emod_nonneg (i : Int) (show (m : Int) ≠ 0 by omega)
      omega, by
      have := Int.emod_lt_of_pos (i : Int) (show (0 : Int) < m by omega)
      omega⟩
    have hlt : j < cs.length := by rw [hl]; exact hjm
    have hg : (cs.map D.int)[j]? = some (.int cs[j]) := by rw [List.getElem?_map, List.getElem?_eq_getElem hlt]; rfl
    have ha := atI_get hg
    have hx : ixN (cs.map D.int).length (j : Int) = some j := by
      unfold ixN
      rw [if_pos (by omega), if_pos (by rw [List.length_map]; omega)]
      simp
    have hm1 : mulOk x ((i : Int) + 2) = true := mulOk_r (by omega)
    have hmo : modOk (i : Int) (m : Int) = true := modOk_of (by omega)
    obtain ⟨cs', h1, w3, w4, w5, h2⟩ := ih (i + 1) (some (.int i)) (some (.int x)) (some (.int (j : Int))) (cs.set j (cs[j] + x * ((i : Int) + 2))) (by simp [hl]) (by omega)
    refine ⟨cs', h1, w3, w4, w5, ?_⟩
    rw [← h2]
    have hr : (.lst ((cs.set j (cs[j] + x * ((i : Int) + 2))).map D.int) : Cell) = .lst ((cs.map D.int).set j (.int (cs[j] + x * ((i : Int) + 2)))) := by rw [List.map_set]
    rw [hr]
    have e0 : ([Cell.lst (cs.map D.int)] : Store)[0]? = some (.lst (cs.map D.int)) := rfl
    rw [List.map_cons, enumD, forL_cons]
    generalize hG : forL (mgTup 2 (mgCons (mgN 3) (mgCons (mgN 4) mgNil))) (mSeq (mAsg (mOp opModI (mCall fInt (mCons (mVar 3) mNil)) (mVar 1)) (mgN 5))
      (mAsg (mOp opAdd (mOp opIx (mVar 2) (mVar 5)) (mOp opMul (mVar 4) (mOp opAdd (mVar 3) (mC (.int 2))))) (mgSub (mVar 2) (mVar 5)))) (enumD (i + 1) (xs.map D.int)) = W
    generalize cs.map D.int = L at *
    simp [hmo, hj, ix_refD _ e0, ha, hm1, setIx, hx]
theorem cutD_take (xs : List D) (m : Nat) : cutD xs none (some (m : Int)) = xs.take m := by
  unfold cutD
  rw [HT.sIx_none, HT.sIx_nat]
  show List.take (min m xs.length - 0) (List.drop 0 xs) = _
  rw [List.drop_zero, Nat.sub_zero]
  by_cases h : m ≤ xs.length
  · rw [Nat.min_eq_left h]
  · rw [Nat.min_eq_right (by omega), List.take_of_length_le (Nat.le_refl _), List.take_of_length_le (by omega)]
theorem cutD_mid (xs : List D) (m n : Nat) : cutD xs (some (m : Int)) (some (n : Int)) = (xs.drop m).take (n - m) := by
  unfold cutD
  rw [HT.sIx_nat, HT.sIx_nat]
  by_cases h : m ≤ xs.length
  · rw [Nat.min_eq_left h]
    by_cases h2 : n ≤ xs.length
    · rw [Nat.min_eq_left h2]
    · rw [Nat.min_eq_right (by omega), List.take_of_length_le (by rw [List.length_drop]; omega), List.take_of_length_le (by rw [List.length_drop]; omega)]
  · rw [Nat.min_eq_right (show xs.length ≤ m by omega), List.drop_of_length_le (Nat.le_refl _), List.drop_of_length_le (by omega)]
    simp
theorem pure_ints (cs : List Int) : pureL (cs.map D.int) = true := pureL_all.mpr fun d hd => by
  obtain ⟨z, _, rfl⟩ := List.mem_map.mp hd
  rfl
theorem cells_end (ns : List Int) (m : Nat) (cs : List Int) (hm : 0 < m) (hm2 : m ≤ 63) (hl : (ns.drop m) ≠ [] → cs.length = m) (hn : ns.length ≤ 63)
    (start : (mOrV (mCall fListC (mCons (mSl (mVar 0) mNoO (mSoO (mVar 1))) mNil)) (mCell (mCons (mC (.int 0)) mNil))) [some (scriptD ns), some (.int (m : Nat)), none, none, none, none] [] = .ok (.ref 0) [.lst (cs.map D.int)]) :
    ∃ cs' : List Int, cs'.length = cs.length ∧ f_l_cells [scriptD ns, .int (m : Nat)] [] = .ok (.lst (cs'.map .int)) [] := by
  have c2 : cutD (ns.map D.int) (some (m : Int)) (some 63) = ((ns.drop m).take (63 - m)).map D.int := by
    have := cutD_mid (ns.map D.int) m 63
    rw [show ((63 : Nat) : Int) = 63 from rfl] at this
    rw [this, List.map_take, List.map_drop]
  obtain ⟨cs', h1, w3, w4, w5, h2⟩ : ∃ cs' : List Int, cs'.length = cs.length ∧ ∃ w3 w4 w5,
    forL (mgTup 2 (mgCons (mgN 3) (mgCons (mgN 4) mgNil))) (mSeq (mAsg (mOp opModI (mCall fInt (mCons (mVar 3) mNil)) (mVar 1)) (mgN 5))
      (mAsg (mOp opAdd (mOp opIx (mVar 2) (mVar 5)) (mOp opMul (mVar 4) (mOp opAdd (mVar 3) (mC (.int 2))))) (mgSub (mVar 2) (mVar 5)))) (enumD 0 (((ns.drop m).take (63 - m)).map D.int)) [some (scriptD ns), some (.int m), some (.ref 0), none, none, none] [.lst (cs.map D.int)]
    = .ok (.nx [some (scriptD ns), some (.int m), some (.ref 0), w3, w4, w5]) [.lst (cs'.map D.int)] := by
    by_cases h : ns.drop m = []
    · rw [h]
      exact ⟨cs, rfl, none, none, none, by simp [enumD, forL_nil]⟩
    · have hlm := hl h
      obtain ⟨cs', h1, r⟩ := cells_loop m hm hm2 (scriptD ns) ((ns.drop m).take (63 - m)) 0 none none none cs hlm (by
        rw [List.length_take, List.length_drop]
        omega)
      exact ⟨cs', by rw [h1, hlm], r⟩
  refine ⟨cs', h1, ?_⟩
  have e0 : ([Cell.lst (cs'.map D.int)] : Store)[0]? = some (.lst (cs'.map D.int)) := rfl
  have pc := pure_ints cs'
  unfold f_l_cells m_l_cells
  rw [fnM_2]
  show endM 0 (mSeq _ _ [some (scriptD ns), some (.int (m : Nat)), none, none, none, none] []) = _
  rw [ap_seq, ap_asg, start]
  simp only [bind_ok, ap_gN, seqK_nx, List.set_cons_succ, List.set_cons_zero]
  rw [ap_seq, ap_for, ap_enum, ap_sl]
  simp only [ap_var, List.getElem?_cons_zero, List.getElem?_cons_succ, bind_ok, ap_soO, ap_c, asI_int, scriptD, sl_froD, c2, enumK_lst]
  have h2' := h2
  unfold scriptD at h2'
  rw [h2']
  generalize cs'.map D.int = L at *
  simp [fz_ref e0, fin, pc]
theorem cells_ok (ns : List Int) (hn : ns.length ≤ 63) (m : Nat) (hm : 0 < m) (hm2 : m ≤ 63) : ∃ cs : List Int, 0 < cs.length ∧ cs.length ≤ m ∧ f_l_cells [scriptD ns, .int (m : Nat)] [] = .ok (.lst (cs.map .int)) [] := by
  have c1 : cutD (ns.map D.int) none (some (m : Int)) = (ns.take m).map D.int := by rw [cutD_take, List.map_take]
  by_cases h0 : ns = []
  · subst h0
    refine ⟨[0], by decide, hm, ?_⟩
    simp only [List.map_nil, List.take_nil] at c1
    have c2 : cutD [] (some (m : Int)) (some 63) = [] := by
      have := cutD_mid [] m 63
      simpa using this
    have tr : truth [Cell.lst []] (.ref 0) = some false := rfl
    have e1 : ([Cell.lst [], Cell.lst [.int 0]] : Store)[1]? = some (.lst [.int 0]) := rfl
    unfold f_l_cells m_l_cells
    rw [fnM_2]
    simp [scriptD, c1, c2, tr, enumD, forL_nil, fz_ref e1, fin, Cell.pure]
  · have hp : 0 < ns.length := List.length_pos_iff.mpr h0
    have hne : (ns.take m).isEmpty = false := by
      cases ns with
      | nil => exact absurd rfl h0
      | cons a t =>
        cases m with
        | zero => omega
        | succ m => rfl
    have ht : (ns.take m).length = min m ns.length := List.length_take
    obtain ⟨cs', h1, h2⟩ := cells_end ns m (ns.take m) hm hm2 (fun h => by
      have : 0 < (ns.drop m).length := List.length_pos_iff.mpr h
      rw [List.length_drop] at this
      rw [ht]
      omega) hn (by
      have e0 : ([Cell.lst ((ns.take m).map D.int)] : Store)[0]? = some (.lst ((ns.take m).map D.int)) := rfl
      have tr : truth [Cell.lst ((ns.take m).map D.int)] (.ref 0) = some true := by rw [truth_ref e0, List.isEmpty_map, hne]; rfl
      rw [ap_orV, ap_call, ap_cons, ap_sl]
      simp only [ap_var, List.getElem?_cons_zero, List.getElem?_cons_succ, bind_ok, ap_noO, ap_soO, asI_int, scriptD, sl_froD, c1, ap_nil, listC_lst, List.length_nil, List.nil_append, tr, oRes_some, br_t])
    exact ⟨cs', by rw [h1, ht]; omega, by rw [h1, ht]; omega, h2⟩
theorem box_ok (S : Store) (cs : List Int) (k : Nat) (off : Int) (hk : k < cs.length) (hk3 : k < 100) (ho : 0 ≤ off ∧ off < 100000)
    (hm : m_l_box = (mSeq (mAsg (mIfE (mTB (mOp opLt (mVar 1) (mCall fLen (mCons (mVar 0) mNil)))) (mOp opIx (mVar 0) (mVar 1)) (mC (.int 0))) (mgN 2))
  (mRet (mCell (mCons (mOp opMul (mCall fAbs (mCons (mVar 2) mNil)) (mCall fInt (mCons (mOp opGe (mCall fAbs (mCons (mVar 2) mNil)) (mOp opPowI (mC (.int 10)) (mC (.int 18)))) mNil))) (mCons (mOp opAdd (mOp opAdd (mOp opModI (mCall fInt (mCons (mVar 2) mNil)) (mC (.int 2305843009213693951))) (mOp opMul (mC (.int 39373)) (mVar 1))) (mC (.int off))) (mCons (mC (.int 0)) mNil))))))) :
    ∃ x, BoxC x 0 ∧ f_l_box [.lst (cs.map .int), .int (k : Nat)] S = .ok (.ref S.length) (S ++ [x]) := by
  have hg : atI (cs.map D.int) (k : Int) = some (.int cs[k]) := atI_get (by rw [List.getElem?_map, List.getElem?_eq_getElem hk]; rfl)
  have p1 : powOk 10 18 = true := by decide
  have m2 : mulOk 39373 (k : Int) = true := mulOk_l (by decide)
  have g1 : ∀ u, modOk u 2305843009213693951 = true := fun u => modOk_of (by decide)
  have hlt : ((k : Int) < (cs.length : Int)) := by omega
  generalize cs[k] = z at *
  obtain ⟨u, hu, ha⟩ : ∃ u : Int, 0 ≤ u ∧ ∀ T, fAbs [.int z] T = .ok (.int u) T := ⟨if z < 0 then -z else z, by split <;> omega, fun _ => rfl⟩
  have m1 : mulOk u (if 1000000000000000000 ≤ u then 1 else 0) = true := mulOk_r (by split <;> decide)
  have q0 : (0 : Int) ≤ u * (if 1000000000000000000 ≤ u then 1 else 0) := by split <;> simp [hu]
  refine ⟨box (u * (if 1000000000000000000 ≤ u then 1 else 0)) (z % 2305843009213693951 + 39373 * (k : Int) + off) 0, ⟨_, _, _, rfl, q0, ?_, by decide, by decide⟩, ?_⟩
  · have h1 := Int.emod_nonneg z (show (2305843009213693951 : Int) ≠ 0 by decide)
    have h2 := Int.emod_lt_of_pos z (show (0 : Int) < 2305843009213693951 by decide)
    omega
  · unfold f_l_box
    rw [hm, fnC_2]
    simp [-abs_int, ha, hg, hlt, p1, m1, m2, g1]
theorem r1K_small (j : Nat) (S : Store) (h : j ≤ 100000000) : r1K (.int (j : Nat)) S = .ok (rangeD 0 j) S := by
  have h2 : (j : Int).natAbs < 2 ^ 62 := by omega
  rw [r1K_int, if_pos h2, Int.toNat_natCast]
/-- the law's turn and its end, by its right -/
def mTurn (t : Nat) : MS := (mSeq (mAsg (mCall (fCall f_l_box) (mCons (mVar 1) (mCons (mVar 2) mNil))) (mgN 3))
  (mIf (mNotT (mTest (mCall fAll (mCons (mLc (mRange1 (mC (.int (t : Nat)))) (mgN 4) mYes (mCall (fCall f_l_right) (mCons (mVar 3) mNil)) [4]) mNil)))) (mRet (mC (.bl false))) mSkip))
def RightOk (W : Nat) : Prop := ∀ (S : Store) (k N : Nat) (x : Cell), S[k]? = some x → BoxC x N → N + W < 1000000000000 → ∃ y, BoxC y (N + W) ∧ f_l_right [.ref k] S = .ok (.bl true) (S.set k y)
def BoxOk : Prop := ∀ (S : Store) (cs : List Int) (k : Nat), k < cs.length → k < 100 → ∃ x, BoxC x 0 ∧ f_l_box [.lst (cs.map .int), .int (k : Nat)] S = .ok (.ref S.length) (S ++ [x])
theorem rights_ok (t W : Nat) (ht : t ≤ 1000) (hW : W ≤ 100000000) (hr : RightOk W) (ρ : Q.Env) (S : Store) (k : Nat) (x : Cell) (hk : S[k]? = some x) (hx : BoxC x 0) (hv : (wp ρ [4])[3]? = some (some (.ref k))) :
    ∃ y vs, S.set k y = S.set k y ∧ lcL (mgN 4) mYes (mCall (fCall f_l_right) (mCons (mVar 3) mNil)) (wp ρ [4]) (rangeD 0 t) S = .ok vs (S.set k y) ∧ vs = List.replicate t (.bl true) := by
  have hset : ∀ d, ((wp ρ [4]).set 4 d)[3]? = some (some (.ref k)) := fun d => by rw [List.getElem?_set_ne (by decide)]; exact hv
  generalize wp ρ [4] = ρ0 at *
  obtain ⟨vs, S1, h1, h2, h3, y, rfl, hy⟩ := lcL_ind (g := mgN 4) (m := mCall (fCall f_l_right) (mCons (mVar 3) mNil)) (ρ := ρ0)
    (fun i T => ∃ y, T = S.set k y ∧ BoxC y (i * W)) (fun _ d => d = .bl true) (rangeD 0 t) S ⟨x, (set_self hk).symm, hx.mono (by omega)⟩ (by
      rintro i T d hd ⟨y, rfl, hy⟩
      obtain ⟨hi, rfl⟩ := rangeD_get hd
      have hk1 := set_get (c' := y) hk
      have hb : i * W + W < 1000000000000 := by
        have := Nat.mul_le_mul (show i ≤ 1000 by omega) hW
        omega
      obtain ⟨y1, hy1, h1⟩ := hr _ k _ y hk1 hy hb
      rw [List.set_set] at h1
      refine ⟨_, _, _, rfl, ?_, rfl, y1, rfl, by rw [Nat.succ_mul]; exact hy1⟩
      rw [ap_call, ap_cons, ap_var, hset]
      simp only [bind_ok, ap_nil, fCall_ap, h1]
      rfl)
  rw [rangeD_len] at h2
  exact ⟨y, vs, rfl, h1, List.eq_replicate_iff.mpr ⟨h2, fun d hd => by
    obtain ⟨i, hi, e⟩ := List.getElem_of_mem hd
    exact h3 i d (by rw [← e]; exact List.getElem?_eq_getElem hi)⟩⟩
theorem bools_true : ∀ t, boolsD (List.replicate t (D.bl true)) = some (List.replicate t true)
  | 0 => rfl
  | t + 1 => by rw [List.replicate_succ, boolsD, bools_true t]; rfl
theorem turn_ok (t W : Nat) (ht : t ≤ 1000) (hW : W ≤ 100000000) (hr : RightOk W) (hb : BoxOk) (cs : List Int) (v0 : D) (v3 v4 : Option D) (k : Nat) (hk : k < cs.length) (hk2 : k < 100) (S : Store) :
    ∃ w3 S2, mTurn t [some v0, some (.lst (cs.map .int)), some (.int (k : Nat)), v3, v4] S = .ok (.nx [some v0, some (.lst (cs.map .int)), some (.int (k : Nat)), w3, v4]) S2 := by
  obtain ⟨x, hx, h1⟩ := hb S cs k hk hk2
  have hk0 : (S ++ [x])[S.length]? = some x := by simp
  obtain ⟨y, vs, -, h2, rfl⟩ := rights_ok t W ht hW hr [some v0, some (.lst (cs.map .int)), some (.int (k : Nat)), some (.ref S.length), v4] (S ++ [x]) S.length x hk0 hx (by simp [wp])
  refine ⟨some (.ref S.length), (S ++ [x]).set S.length y, ?_⟩
  have hbt : ∀ T : Store, fAll [.lst (List.replicate t (.bl true))] T = .ok (.bl true) T := fun T => by rw [all_lst (bools_true t)]; congr 2; simp
  have hl : t ≤ 100000 := by omega
  generalize cs.map D.int = L at *
  unfold mTurn
  rw [ap_seq, ap_asg, ap_call, ap_cons]
  simp only [ap_var, List.getElem?_cons_zero, List.getElem?_cons_succ, bind_ok, ap_cons, ap_nil, fCall_ap, h1, nox, ap_gN, seqK_nx, List.set_cons_succ, List.set_cons_zero]
  rw [ap_if, ap_notT, ap_test, ap_call, ap_cons, ap_lc, ap_r1]
  simp only [ap_c, bind_ok]
  rw [r1K_small t _ (by omega)]
  simp only [bind_ok, rangeD_len, hl, if_true, h2, ap_nil, hbt, truth_bl, oRes_some, Bool.not_true, br_f, ap_skip]
theorem law_go (m t : Nat) (hm : 0 < m) (hm2 : m ≤ 63) (ht : t ≤ 1000) (W : Nat) (hW : W ≤ 100000000) (hr : RightOk W) (hb : BoxOk)
    (hl : m_l_law = (mSeq (mAsg (mCall (fPure f_l_cells) (mCons (mVar 0) (mCons (mC (.int (m : Nat))) mNil))) (mgN 1)) (mSeq (mFor (mRange1 (mCall fLen (mCons (mVar 1) mNil))) (mgN 2) (mTurn t)) (mRet (mC (.bl true))))))
    (ns : List Int) (hn : ns.length ≤ 63) : ∃ S, f_l_law [scriptD ns] [] = .ok (.bl true) S := by
  obtain ⟨cs, h0, h1, hcs⟩ := cells_ok ns hn m hm hm2
  have hp : pureL [scriptD ns, .int (m : Nat)] = true := by simp only [pureL_cons, scriptD, pureD_fro, pure_ints, pureD_int, pureL_nil, Bool.and_self]
  have hc := fPure_ap (S := []) hp hcs
  obtain ⟨ρ2, S2, h2, v2, v3, v4, rfl⟩ : ∃ ρ2 S2, forL (mgN 2) (mTurn t) (rangeD 0 cs.length) [some (scriptD ns), some (.lst (cs.map .int)), none, none, none] [] = .ok (.nx ρ2) S2 ∧ ∃ v2 v3 v4, ρ2 = [some (scriptD ns), some (.lst (cs.map .int)), v2, v3, v4] := by
    have go : ∀ (ds : List D), (∀ d ∈ ds, ∃ k : Nat, d = .int (k : Nat) ∧ k < cs.length) → ∀ (v2 v3 v4 : Option D) (S : Store), ∃ ρ2 S2, forL (mgN 2) (mTurn t) ds [some (scriptD ns), some (.lst (cs.map .int)), v2, v3, v4] S = .ok (.nx ρ2) S2 ∧ ∃ v2 v3 v4, ρ2 = [some (scriptD ns), some (.lst (cs.map .int)), v2, v3, v4] := by
      intro ds
      induction ds with
      | nil => exact fun _ v2 v3 v4 S => ⟨_, S, rfl, v2, v3, v4, rfl⟩
      | cons d ds ih =>
        intro hd v2 v3 v4 S
        obtain ⟨k, rfl, hk⟩ := hd d (List.mem_cons_self ..)
        obtain ⟨w3, S1, e1⟩ := turn_ok t W ht hW hr hb cs (scriptD ns) v3 v4 k hk (by omega) S
        obtain ⟨ρ2, S2, e2, e3⟩ := ih (fun e he => hd e (List.mem_cons_of_mem _ he)) (some (.int (k : Nat))) w3 v4 S1
        refine ⟨ρ2, S2, ?_, e3⟩
        rw [forL_cons, ap_gN]
        simp only [bind_ok, List.set_cons_succ, List.set_cons_zero]
        rw [e1]
        simp only [bind_ok, forK_nx]
        exact e2
    refine go (rangeD 0 cs.length) (fun d hd => ?_) none none none []
    obtain ⟨i, hi, e⟩ := List.getElem_of_mem hd
    obtain ⟨hi2, e2⟩ := rangeD_get (show (rangeD 0 cs.length)[i]? = some d by rw [← e]; exact List.getElem?_eq_getElem hi)
    exact ⟨i, by rw [e2, Int.zero_add], hi2⟩
  have hf : ∃ S, f_l_law [scriptD ns] [] = endM 0 (.ok (.rt (.bl true)) S) := by
    refine ⟨S2, ?_⟩
    unfold f_l_law
    rw [hl, fnM_1]
    show endM 0 (mSeq _ _ [some (scriptD ns), none, none, none, none] []) = _
    rw [ap_seq, ap_asg, ap_call, ap_cons]
    simp only [ap_var, List.getElem?_cons_zero, List.getElem?_cons_succ, bind_ok, ap_cons, ap_c, ap_nil]
    rw [hc]
    simp only [bind_ok, ap_gN, seqK_nx, List.set_cons_succ, List.set_cons_zero]
    rw [ap_seq, ap_for, ap_r1, ap_call, ap_cons]
    simp only [ap_var, List.getElem?_cons_zero, List.getElem?_cons_succ, bind_ok, ap_nil, len_lst, List.length_map]
    rw [r1K_small _ _ (by omega)]
    simp only [bind_ok]
    rw [h2]
    simp only [bind_ok, seqK_nx, ap_ret, ap_c]
  obtain ⟨S, e⟩ := hf
  exact ⟨[], by rw [e, endM_rt, fin_nil rfl]⟩
/-! ### what k00 asks -/
mutual
def plD (B : Nat) : D → Bool
  | .non => true
  | .bl _ => true
  | .int _ => true
  | .str _ => true
  | .tup xs => decide (xs.length ≤ B) && plL B xs
  | .lst xs => decide (xs.length ≤ B) && plL B xs
  | _ => false
def plL (B : Nat) : List D → Bool
  | [] => true
  | d :: ds => plD B d && plL B ds
end
theorem plL_all {B : Nat} {ds : List D} : plL B ds = true ↔ ∀ d ∈ ds, plD B d = true := by
  induction ds with
  | nil => simp [plL]
  | cons d ds ih => simp [plL, ih]
mutual
theorem plD_pure {B : Nat} : ∀ d : D, plD B d = true → pureD d = true
  | .non, _ => rfl
  | .bl _, _ => rfl
  | .int _, _ => rfl
  | .str _, _ => rfl
  | .tup xs, h => by
    simp only [plD, Bool.and_eq_true] at h
    exact plL_pure xs h.2
  | .lst xs, h => by
    simp only [plD, Bool.and_eq_true] at h
    exact plL_pure xs h.2
  | .fro _, h => by simp [plD] at h
  | .obj _ _, h => by simp [plD] at h
  | .ref _, h => by simp [plD] at h
theorem plL_pure {B : Nat} : ∀ ds : List D, plL B ds = true → pureL ds = true
  | [], _ => rfl
  | d :: ds, h => by
    simp only [plL, Bool.and_eq_true] at h
    simp [plD_pure d h.1, plL_pure ds h.2]
end
theorem plD_ok {B : Nat} {d : D} (h : plD B d = true) : isOk d = true := by cases d <;> first | rfl | simp [plD] at h
def tupN (d : D) (n : Int) : Bool := match d with | .tup xs => decide ((xs.length : Int) = n) | _ => false
def numD (d : D) (n : Int) : Bool := match d with | .int i => decide (n ≤ i) | _ => false
def pairD (d : D) : Bool := match d with | .tup [.int p, .int q] => decide (0 ≤ p) && decide (0 ≤ q) | _ => false
def limD (d : D) : Bool := match d with | .tup [.int p, .int q] => decide (0 ≤ p) && decide (0 ≤ q) && (decide (0 < p) && decide (p < q)) | _ => false
def logD (d : D) : Bool := match d with | .tup xs => decide (0 < xs.length) && xs.all pairD | _ => false
def strD (many : Int) (d : D) : Bool := match d with | .tup [.int p, .int q] => decide (0 ≤ p) && decide (0 ≤ q) && (decide (p < q) && decide (q ≤ many)) | _ => false
section
variable {S : Store} {d : D} {n : Int} {B : Nat}
theorem istup (h : isOk d = true) : f_p_is_tuple [d, .int n] S = .ok (.bl (tupN d n)) S := by
  cases d <;> simp [isOk] at h <;> simp [f_p_is_tuple, fnM, m_p_is_tuple, isTy, isOk, tupN]
theorem isnum (h : isOk d = true) : f_p_is_number [d, .int n] S = .ok (.bl (numD d n)) S := by
  cases d <;> simp [isOk] at h <;> simp [f_p_is_number, fnM, m_p_is_number, isTy, isOk, numD]
theorem isfrom (h : isOk d = true) : f_l_from [d, .int n] S = .ok (.bl (numD d n)) S := by
  cases d <;> simp [isOk] at h <;> simp [f_l_from, fnM, m_l_from, isTy, isOk, numD]
theorem istupP (h : plD B d = true) : fPure f_p_is_tuple [d, .int n] S = .ok (.bl (tupN d n)) S := fPure_ap S (by simp [plD_pure d h]) (istup (plD_ok h))
theorem isnumP (h : plD B d = true) : fPure f_p_is_number [d, .int n] S = .ok (.bl (numD d n)) S := fPure_ap S (by simp [plD_pure d h]) (isnum (plD_ok h))
theorem isfromP (h : plD B d = true) : fPure f_l_from [d, .int n] S = .ok (.bl (numD d n)) S := fPure_ap S (by simp [plD_pure d h]) (isfrom (plD_ok h))
end
theorem two {xs : List D} (h : xs.length = 2) : ∃ a b, xs = [a, b] := by
  match xs, h with
  | [a, b], _ => exact ⟨a, b, rfl⟩
section
variable {S : Store} {d : D} {n : Int} {B : Nat}
theorem ispair (h : plD B d = true) : f_l_is_pair [d] S = .ok (.bl (pairD d)) S := by
  cases d <;> try (simp [plD] at h; done)
  case tup xs =>
    by_cases hl : xs.length = 2
    · obtain ⟨a, b, rfl⟩ := two hl
      simp only [plD, plL, Bool.and_eq_true] at h
      obtain ⟨-, ha, hb, -⟩ := h
      have i1 := isfromP (n := 0) (S := S) ha
      have i2 := isfromP (n := 0) (S := S) hb
      cases a with
      | int p =>
        cases b with
        | int q => by_cases h0 : 0 ≤ p <;> simp [f_l_is_pair, fnM, m_l_is_pair, isTy, i1, i2, pairD, numD, h0]
        | _ => by_cases h0 : 0 ≤ p <;> simp [f_l_is_pair, fnM, m_l_is_pair, isTy, i1, i2, pairD, numD, h0]
      | _ => simp [f_l_is_pair, fnM, m_l_is_pair, isTy, i1, i2, pairD, numD]
    · have : pairD (.tup xs) = false := by
        unfold pairD
        split
        · rename_i e
          rw [D.tup.injEq] at e
          subst e
          exact absurd rfl hl
        · rfl
      rw [this]
      have h2 : ¬ (xs.length : Int) = 2 := by omega
      simp [f_l_is_pair, fnM, m_l_is_pair, isTy, h2]
  all_goals simp [f_l_is_pair, fnM, m_l_is_pair, isTy, pairD]
end
theorem pair_shape {d : D} (h : pairD d = true) : ∃ p q : Int, d = .tup [.int p, .int q] ∧ 0 ≤ p ∧ 0 ≤ q := by
  unfold pairD at h
  split at h
  · rename_i p q
    simp only [Bool.and_eq_true, decide_eq_true_eq] at h
    exact ⟨p, q, rfl, h.1, h.2⟩
  · cases h
theorem lim_pair {d : D} (h : pairD d = false) : limD d = false := by
  unfold limD
  split
  · simp only [pairD] at h
    simp [h]
  · rfl
theorem str_pair {d : D} {m : Int} (h : pairD d = false) : strD m d = false := by
  unfold strD
  split
  · simp only [pairD] at h
    simp [h]
  · rfl
section
variable {S : Store} {d : D} {n : Int} {B : Nat}
theorem ispairP (h : plD B d = true) : fPure f_l_is_pair [d] S = .ok (.bl (pairD d)) S := fPure_ap S (by simp [plD_pure d h]) (ispair h)
theorem isminute (h : plD B d = true) : f_p_is_minute [d] S = .ok (.bl (pairD d)) S := by
  have i0 := fun T => istupP (n := 2) (S := T) h
  cases d <;> try (simp [plD] at h; done)
  case tup xs =>
    by_cases hl : xs.length = 2
    · obtain ⟨a, b, rfl⟩ := two hl
      simp only [plD, plL, Bool.and_eq_true] at h
      obtain ⟨-, ha, hb, -⟩ := h
      have i1 := isnumP (n := 0) (S := S) ha
      have i2 := isnumP (n := 0) (S := S) hb
      cases a with
      | int p =>
        cases b with
        | int q => by_cases h0 : 0 ≤ p <;> simp [f_p_is_minute, fnM, m_p_is_minute, i0, tupN, i1, i2, pairD, numD, h0]
        | _ => by_cases h0 : 0 ≤ p <;> simp [f_p_is_minute, fnM, m_p_is_minute, i0, tupN, i1, i2, pairD, numD, h0]
      | _ => simp [f_p_is_minute, fnM, m_p_is_minute, i0, tupN, i1, i2, pairD, numD]
    · have : pairD (.tup xs) = false := by
        cases q : pairD (.tup xs) with
        | false => rfl
        | true =>
          obtain ⟨p, q, e, _⟩ := pair_shape q
          rw [D.tup.injEq] at e
          subst e
          exact absurd rfl hl
      rw [this]
      have h2 : ¬ (xs.length : Int) = 2 := by omega
      simp [f_p_is_minute, fnM, m_p_is_minute, i0, tupN, h2]
  all_goals simp [f_p_is_minute, fnM, m_p_is_minute, i0, tupN, pairD]
theorem isminuteP (h : plD B d = true) : fPure f_p_is_minute [d] S = .ok (.bl (pairD d)) S := fPure_ap S (by simp [plD_pure d h]) (isminute h)
theorem islimit (h : plD B d = true) : f_p_is_limit [d] S = .ok (.bl (limD d)) S := by
  have i0 := fun T => istupP (n := 2) (S := T) h
  cases d <;> try (simp [plD] at h; done)
  case tup xs =>
    by_cases hl : xs.length = 2
    · obtain ⟨a, b, rfl⟩ := two hl
      simp only [plD, plL, Bool.and_eq_true] at h
      obtain ⟨-, ha, hb, -⟩ := h
      have i1 := isnumP (n := 1) (S := S) ha
      have i2 := isnumP (n := 1) (S := S) hb
      cases a with
      | int p =>
        cases b with
        | int q =>
          by_cases h0 : 1 ≤ p
          · by_cases h1 : 1 ≤ q
            · have a1 : 0 ≤ p := by omega
              have a2 : 0 ≤ q := by omega
              have a3 : 0 < p := by omega
              simp [f_p_is_limit, fnM, m_p_is_limit, i0, tupN, i1, i2, limD, numD, h0, h1, a1, a2, a3]
            · have a1 : ¬ p < q := by omega
              simp [f_p_is_limit, fnM, m_p_is_limit, i0, tupN, i1, i2, limD, numD, h0, h1, a1]
          · have a1 : ¬ 0 < p := by omega
            simp [f_p_is_limit, fnM, m_p_is_limit, i0, tupN, i1, i2, limD, numD, h0, a1]
        | _ => by_cases h0 : 1 ≤ p <;> simp [f_p_is_limit, fnM, m_p_is_limit, i0, tupN, i1, i2, limD, numD, h0]
      | _ => simp [f_p_is_limit, fnM, m_p_is_limit, i0, tupN, i1, i2, limD, numD]
    · have : limD (.tup xs) = false := lim_pair (by
        cases q : pairD (.tup xs) with
        | false => rfl
        | true =>
          obtain ⟨p, q, e, _⟩ := pair_shape q
          rw [D.tup.injEq] at e
          subst e
          exact absurd rfl hl)
      rw [this]
      have h2 : ¬ (xs.length : Int) = 2 := by omega
      simp [f_p_is_limit, fnM, m_p_is_limit, i0, tupN, h2]
  all_goals simp [f_p_is_limit, fnM, m_p_is_limit, i0, tupN, limD]
theorem islimitP (h : plD B d = true) : fPure f_p_is_limit [d] S = .ok (.bl (limD d)) S := fPure_ap S (by simp [plD_pure d h]) (islimit h)
theorem isstretch (h : plD B d = true) : f_p_is_stretch [.int n, d] S = .ok (.bl (strD n d)) S := by
  have i0 := fun T => istupP (n := 2) (S := T) h
  cases d <;> try (simp [plD] at h; done)
  case tup xs =>
    by_cases hl : xs.length = 2
    · obtain ⟨a, b, rfl⟩ := two hl
      simp only [plD, plL, Bool.and_eq_true] at h
      obtain ⟨-, ha, hb, -⟩ := h
      have i1 := isnumP (n := 0) (S := S) ha
      have i2 := isnumP (n := 0) (S := S) hb
      cases a with
      | int p =>
        cases b with
        | int q => by_cases h0 : 0 ≤ p <;> by_cases h1 : 0 ≤ q <;> by_cases h2 : p < q <;> simp [f_p_is_stretch, fnM, m_p_is_stretch, i0, tupN, i1, i2, strD, numD, h0, h1, h2]
        | _ => by_cases h0 : 0 ≤ p <;> simp [f_p_is_stretch, fnM, m_p_is_stretch, i0, tupN, i1, i2, strD, numD, h0]
      | _ => simp [f_p_is_stretch, fnM, m_p_is_stretch, i0, tupN, i1, i2, strD, numD]
    · have : strD n (.tup xs) = false := str_pair (by
        cases q : pairD (.tup xs) with
        | false => rfl
        | true =>
          obtain ⟨p, q, e, _⟩ := pair_shape q
          rw [D.tup.injEq] at e
          subst e
          exact absurd rfl hl)
      rw [this]
      have h2 : ¬ (xs.length : Int) = 2 := by omega
      simp [f_p_is_stretch, fnM, m_p_is_stretch, i0, tupN, h2]
  all_goals simp [f_p_is_stretch, fnM, m_p_is_stretch, i0, tupN, strD]
theorem isstretchP (h : plD B d = true) : fPure f_p_is_stretch [.int n, d] S = .ok (.bl (strD n d)) S := fPure_ap S (by simp [plD_pure d h]) (isstretch h)
theorem pairs_lc {f : List D → Store → Res D} (hf : ∀ d T, plD B d = true → fPure f [d] T = .ok (.bl (pairD d)) T) (v : Nat) (ρ : Q.Env) (hv : v < ρ.length) : ∀ (xs : List D) (S : Store), plL B xs = true → lcL (mgN v) mYes (mCall (fPure f) (mCons (mVar v) mNil)) ρ xs S = .ok (xs.map fun x => .bl (pairD x)) S := by
  intro xs S h
  refine lcL_map (f := fun x => .bl (pairD x)) xs S fun d hd => ⟨_, rfl, ?_⟩
  have hp := plL_all.mp h d hd
  rw [ap_call, ap_cons, ap_var, List.getElem?_set_self hv]
  simp only [bind_ok, ap_nil, hf d S hp]
theorem all_bools (f : D → Bool) (xs : List D) (S : Store) : fAll [.lst (xs.map fun x => .bl (f x))] S = .ok (.bl (xs.all f)) S := by
  rw [all_lst (bools_map f xs), List.all_map]
  rfl
theorem islog (h : plD B d = true) (hB : B ≤ 100000) : f_p_is_log [d] S = .ok (.bl (logD d)) S := by
  cases d <;> try (simp [plD] at h; done)
  case tup xs =>
    simp only [plD, Bool.and_eq_true, decide_eq_true_eq] at h
    have hl : xs.length ≤ 100000 := by omega
    have h1 := pairs_lc (f := f_p_is_minute) (fun d T hd => isminuteP hd) 1 (wp [some (.tup xs), none] [1]) (by simp [wp_length]) xs S h.2
    have h2 := fun T => all_bools pairD xs T
    by_cases h0 : 0 < xs.length
    · simp [f_p_is_log, fnM, m_p_is_log, isTy, h0, hl, h1, h2, logD]
    · simp [f_p_is_log, fnM, m_p_is_log, isTy, h0, logD]
  all_goals simp [f_p_is_log, fnM, m_p_is_log, isTy, logD]
theorem islogP (h : plD B d = true) (hB : B ≤ 100000) : fPure f_p_is_log [d] S = .ok (.bl (logD d)) S := fPure_ap S (by simp [plD_pure d h]) (islog h hB)
end
section
variable {S : Store} {d : D} {n : Int} {B : Nat}
/-- the comprehension of _law_due in its place -/
theorem due_log (h : plD B d = true) (hB : B ≤ 100000) (v0 v2 v3 v4 : Option D) :
    mAndV (mIsi .tuple (mVar 1)) (mAndV (mOp opGt (mCall fLen (mCons (mVar 1) mNil)) (mC (.int 0))) (mCall fAll (mCons (mLc (mItems (mVar 1)) (mgN 4) mYes (mCall (fPure f_l_is_pair) (mCons (mVar 4) mNil)) [4]) mNil))) [v0, some d, v2, v3, v4] S = .ok (.bl (logD d)) S := by
  cases d <;> try (simp [plD] at h; done)
  case tup xs =>
    simp only [plD, Bool.and_eq_true, decide_eq_true_eq] at h
    have hl : xs.length ≤ 100000 := by omega
    have h1 := pairs_lc (f := f_l_is_pair) (fun d T hd => ispairP hd) 4 (wp [v0, some (.tup xs), v2, v3, v4] [4]) (by simp [wp_length]) xs S h.2
    have h2 := fun T => all_bools pairD xs T
    by_cases h0 : 0 < xs.length
    · simp [isTy, h0, hl, h1, h2, logD]
    · simp [isTy, h0, logD]
  all_goals simp [isTy, logD]
theorem due_ok (h : plD B d = true) (hB : B ≤ 100000) : f_l_due [.int n, d] [] = .ok (.lst [.bl (limD d), .bl (logD d), .bl (strD n d)]) [] := by
  have i0 := fun T => ispairP (S := T) h
  have i1 := fun T v0 v2 v3 v4 => due_log (S := T) h hB v0 v2 v3 v4
  unfold f_l_due m_l_due
  rw [fnM_2]
  generalize hG : mAndV (mIsi .tuple (mVar 1)) (mAndV (mOp opGt (mCall fLen (mCons (mVar 1) mNil)) (mC (.int 0))) (mCall fAll (mCons (mLc (mItems (mVar 1)) (mgN 4) mYes (mCall (fPure f_l_is_pair) (mCons (mVar 4) mNil)) [4]) mNil))) = G at *
  have e1 : ∀ a b : D, opAdd (.ref 0) (.lst [a]) [.lst [b, .bl (logD d)]] = .ok (.lst [b, .bl (logD d), a]) [.lst [b, .bl (logD d)]] := fun a b => by rw [add_ref (xs := [b, .bl (logD d)]) [a] rfl]; simp
  cases hp : pairD d with
  | false =>
    rw [hp] at i0
    simp [i0, i1, appTo, e1, lim_pair hp, str_pair hp, fin]
  | true =>
    rw [hp] at i0
    obtain ⟨p, q, rfl, h1, h2⟩ := pair_shape hp
    by_cases h3 : 0 < p <;> by_cases h4 : p < q <;> simp [i0, i1, appTo, e1, limD, strD, h1, h2, h3, h4, fin]
theorem same_bl (k : Nat) (a b : Bool) : f_l_same (k + 1) [.bl a, .bl b] S = .ok (.bl (decide (a = b))) S := by
  cases a <;> cases b <;> simp [f_l_same, m_l_same, fnM, isTy]
theorem same_3 (k : Nat) (a b c : Bool) : fPure (f_l_same (k + 2)) [.lst [.bl a, .bl b, .bl c], .lst [.bl a, .bl b, .bl c]] S = .ok (.bl true) S := by
  refine fPure_ap S rfl ?_
  have h1 : ∀ (a b : Bool) (T : Store), fPure (f_l_same (k + 1)) [.bl a, .bl b] T = .ok (.bl (decide (a = b))) T := fun a b T => fPure_ap T rfl (same_bl k a b)
  have h2 : lcL (mgTup 2 (mgCons (mgN 2) (mgCons (mgN 3) mgNil))) mYes (mCall (fPure (f_l_same (k + 1))) (mCons (mVar 2) (mCons (mVar 3) mNil))) [some (.lst [.bl a, .bl b, .bl c]), some (.lst [.bl a, .bl b, .bl c]), none, none] (zipD [.bl a, .bl b, .bl c] [.bl a, .bl b, .bl c]) [] = .ok [.bl true, .bl true, .bl true] [] := by
    simp [zipD, lcL, h1]
  have h3 : (zipD [.bl a, .bl b, .bl c] [.bl a, .bl b, .bl c]).length = 3 := rfl
  have h4 : fAll [.lst [.bl true, .bl true, .bl true]] [] = .ok (.bl true) [] := rfl
  show fnM 4 2 (m_l_same (f_l_same (k + 1))) _ [] = _
  simp [m_l_same, fnM, isTy, wp, h2, h3, h4, fin]
theorem asked_ok (h : plD B d = true) (hB : B ≤ 100000) : f_l_asked_right [.int n, d] [] = .ok (.bl true) [] := by
  have hp := plD_pure d h
  have i1 := fun T => islimitP (S := T) h
  have i2 := fun T => islogP (S := T) h hB
  have i3 := fun T => isstretchP (S := T) (n := n) h
  have i4 := fun T => fPure_ap (f := f_l_due) (ds := [.int n, d]) T (by simp [hp]) (due_ok (n := n) h hB)
  have i5 := fun T => same_3 (S := T) 28 (limD d) (logD d) (strD n d)
  simp [f_l_asked_right, m_l_asked_right, fnM, i1, i2, i3, i4, i5, place, fin]
theorem askedP (h : plD B d = true) (hB : B ≤ 100000) : fPure f_l_asked_right [.int n, d] S = .ok (.bl true) S := fPure_ap S (by simp [plD_pure d h]) (asked_ok h hB)
end
theorem cutD_drop (xs : List D) (m : Nat) : cutD xs (some (m : Int)) none = xs.drop m := by
  unfold cutD
  rw [HT.sIx_none, HT.sIx_nat]
  by_cases h : m ≤ xs.length
  · rw [Nat.min_eq_left h, List.take_of_length_le (by rw [List.length_drop]; omega)]
  · rw [Nat.min_eq_right (by omega), List.drop_of_length_le (Nat.le_refl _), List.drop_of_length_le (by omega)]
    simp
mutual
def dep : D → Nat
  | .tup xs => 1 + depL xs
  | .lst xs => 1 + depL xs
  | _ => 0
def depL : List D → Nat
  | [] => 0
  | d :: ds => max (dep d) (depL ds)
end
theorem depL_le {n : Nat} {ds : List D} : depL ds ≤ n ↔ ∀ d ∈ ds, dep d ≤ n := by
  induction ds with
  | nil => simp [depL]
  | cons d ds ih =>
    simp only [depL, List.mem_cons, forall_eq_or_imp, ← ih]
    omega
mutual
theorem plD_mono {B C : Nat} (h : B ≤ C) : ∀ d : D, plD B d = true → plD C d = true
  | .non, _ => rfl
  | .bl _, _ => rfl
  | .int _, _ => rfl
  | .str _, _ => rfl
  | .tup xs, p => by
    simp only [plD, Bool.and_eq_true, decide_eq_true_eq] at p ⊢
    exact ⟨by omega, plL_mono h xs p.2⟩
  | .lst xs, p => by
    simp only [plD, Bool.and_eq_true, decide_eq_true_eq] at p ⊢
    exact ⟨by omega, plL_mono h xs p.2⟩
  | .fro _, p => by simp [plD] at p
  | .obj _ _, p => by simp [plD] at p
  | .ref _, p => by simp [plD] at p
theorem plL_mono {B C : Nat} (h : B ≤ C) : ∀ ds : List D, plL B ds = true → plL C ds = true
  | [], _ => rfl
  | d :: ds, p => by
    simp only [plL, Bool.and_eq_true] at p ⊢
    exact ⟨plD_mono h d p.1, plL_mono h ds p.2⟩
end
def oddL : List D := [.non, .bl true, .bl false, .str "", .str "1", .int (-1), .int 0, .tup [], .lst [], .tup [.int 1], .tup [.int 0, .int 1, .int 2], .lst [.int 1, .int 2], .tup [.tup [.int 1, .int 2]], .int (10 ^ 40)]
theorem odd_pl : ∀ d ∈ oddL, plD 3 d = true ∧ dep d ≤ 3 := by
  intro d hd
  simp only [oddL, List.mem_cons, List.mem_nil_iff, or_false] at hd
  rcases hd with rfl | rfl | rfl | rfl | rfl | rfl | rfl | rfl | rfl | rfl | rfl | rfl | rfl | rfl <;> exact ⟨rfl, by decide⟩
def mBentRest : MS := (mSeq (mAsg (mLst (mCons (mC .non) (mCons (mC (.bl true)) (mCons (mC (.bl false)) (mCons (mC (.str "")) (mCons (mC (.str "1")) (mCons (mNeg (mC (.int 1))) (mCons (mC (.int 0)) (mCons (mTup mNil) (mCons (mLst mNil) (mCons (mTup (mCons (mC (.int 1)) mNil)) (mCons (mTup (mCons (mC (.int 0)) (mCons (mC (.int 1)) (mCons (mC (.int 2)) mNil)))) (mCons (mLst (mCons (mC (.int 1)) (mCons (mC (.int 2)) mNil))) (mCons (mTup (mCons (mTup (mCons (mC (.int 1)) (mCons (mC (.int 2)) mNil))) mNil)) (mCons (mOp opPowI (mC (.int 10)) (mC (.int 40))) mNil))))))))))))))) (mgN 3))
  (mSeq (mAsg (mCall (fCall f_l_take) (mCons (mVar 0) (mCons (mOp opAdd (mCall fLen (mCons (mVar 3) mNil)) (mC (.int 4))) mNil))) (mgN 4))
  (mSeq (mIf (mTB (mOp opLt (mVar 4) (mCall fLen (mCons (mVar 3) mNil)))) (mRet (mOp opIx (mVar 3) (mVar 4))) mSkip)
  (mSeq (mIf (mAndT (mTest (mIsi .tuple (mVar 1))) (mTB (mOp opLt (mVar 4) (mOp opAdd (mCall fLen (mCons (mVar 3) mNil)) (mC (.int 2)))))) (mRet (mIfE (mTB (mOp opEq (mVar 4) (mCall fLen (mCons (mVar 3) mNil)))) (mCall fList (mCons (mVar 1) mNil)) (mOp opAdd (mVar 1) (mSl (mVar 1) mNoO (mSoO (mC (.int 1))))))) mSkip)
  (mRet (mIfE (mTest (mCall (fPure f_l_from) (mCons (mVar 1) (mCons (mC (.int 0)) mNil)))) (mOp opSubI (mVar 1) (mC (.int 1))) (mTup (mCons (mVar 1) mNil))))))))
theorem bentRest_ok {B : Nat} (hB : 3 ≤ B ∧ B ≤ 1000) {d : D} (hd : plD B d = true) {S : Store} {b N : Nat} {x : Cell} (hk : S[b]? = some x) (hx : BoxC x N) (hN : N < 1000000000000) :
    ∃ r y, plD (B + 1) r = true ∧ dep r ≤ dep d + 3 ∧ BoxC y (N + 1) ∧ mBentRest [some (.ref b), some d, none, none, none] S = .ok (.rt r) (S.set b y) := by
  obtain ⟨a, y, ha, hy, h1⟩ := take_ok (n := 18) hk hx (by omega) (by decide) (by decide)
  have p1 : powOk 10 40 = true := by decide
  have e0 : ∀ ρ T, mLst (mCons (mC .non) (mCons (mC (.bl true)) (mCons (mC (.bl false)) (mCons (mC (.str "")) (mCons (mC (.str "1")) (mCons (mNeg (mC (.int 1))) (mCons (mC (.int 0)) (mCons (mTup mNil) (mCons (mLst mNil) (mCons (mTup (mCons (mC (.int 1)) mNil)) (mCons (mTup (mCons (mC (.int 0)) (mCons (mC (.int 1)) (mCons (mC (.int 2)) mNil)))) (mCons (mLst (mCons (mC (.int 1)) (mCons (mC (.int 2)) mNil))) (mCons (mTup (mCons (mTup (mCons (mC (.int 1)) (mCons (mC (.int 2)) mNil))) mNil)) (mCons (mOp opPowI (mC (.int 10)) (mC (.int 40))) mNil)))))))))))))) ρ T = .ok (.lst oddL) T := by
    intro ρ T
    simp [p1, oddL]
  have el : oddL.length = 14 := rfl
  unfold mBentRest
  rw [ap_seq, ap_asg, e0]
  simp only [bind_ok, ap_gN, seqK_nx, List.set_cons_succ, List.set_cons_zero]
  by_cases c1 : a < 14
  · have hl : a.toNat < oddL.length := by rw [el]; omega
    have hg : atI oddL a = some oddL[a.toNat] := by
      have e : ((a.toNat : Nat) : Int) = a := by omega
      have z := atI_get (List.getElem?_eq_getElem hl)
      rw [e] at z
      exact z
    have q := odd_pl _ (List.getElem_mem hl)
    refine ⟨oddL[a.toNat], y, plD_mono (by omega) _ q.1, by omega, hy, ?_⟩
    generalize oddL[a.toNat] = z at *
    generalize oddL = L at *
    simp [el, h1, c1, hg]
  · generalize oddL = L at *
    cases d with
    | tup xs =>
      simp only [plD, Bool.and_eq_true, decide_eq_true_eq] at hd
      by_cases c2 : a < 16
      · by_cases c3 : a = 14
        · refine ⟨.lst xs, y, ?_, by simp [dep], hy, by simp [el, h1, c1, c2, c3, isTy]⟩
          simp only [plD, Bool.and_eq_true, decide_eq_true_eq]
          exact ⟨by omega, plL_mono (by omega) _ hd.2⟩
        · have c : cutD xs none (some 1) = xs.take 1 := cutD_take xs 1
          have hl : (xs.take 1).length ≤ 1 := by rw [List.length_take]; omega
          have hl2 : xs.length + (xs.take 1).length ≤ 100000 := by omega
          refine ⟨.tup (xs ++ xs.take 1), y, ?_, ?_, hy, ?_⟩
          · simp only [plD, Bool.and_eq_true, decide_eq_true_eq, List.length_append]
            refine ⟨by omega, plL_all.mpr fun e he => ?_⟩
            rcases List.mem_append.mp he with he | he
            · exact plD_mono (by omega) _ (plL_all.mp hd.2 e he)
            · exact plD_mono (by omega) _ (plL_all.mp hd.2 e (List.mem_of_mem_take he))
          · have : depL (xs ++ xs.take 1) ≤ depL xs := depL_le.mpr fun e he => by
              rcases List.mem_append.mp he with he | he
              · exact depL_le.mp (Nat.le_refl _) e he
              · exact depL_le.mp (Nat.le_refl _) e (List.mem_of_mem_take he)
            simp only [dep]
            omega
          · generalize xs.take 1 = zs at *
            simp [el, h1, c1, c2, c3, isTy, c, hl2]
      · have i0 := fun T => isfromP (S := T) (n := 0) (B := B) (d := .tup xs) (by simp only [plD, Bool.and_eq_true, decide_eq_true_eq]; exact hd)
        refine ⟨.tup [.tup xs], y, ?_, by simp [dep, depL]; omega, hy, by simp [el, h1, c1, c2, isTy, i0, numD]⟩
        simp only [plD, plL, Bool.and_eq_true, decide_eq_true_eq, List.length_singleton, and_true]
        exact ⟨by omega, by omega, plL_mono (by omega) _ hd.2⟩
    | int i =>
      have i0 := fun T => isfromP (S := T) (n := 0) (B := B) (d := .int i) rfl
      by_cases c2 : 0 ≤ i
      · exact ⟨.int (i - 1), y, rfl, by simp [dep], hy, by simp [el, h1, c1, isTy, i0, numD, c2]⟩
      · exact ⟨.tup [.int i], y, by simp [plD, plL], by simp [dep, depL], hy, by simp [el, h1, c1, isTy, i0, numD, c2]⟩
    | fro _ => simp [plD] at hd
    | obj _ _ => simp [plD] at hd
    | ref _ => simp [plD] at hd
    | lst xs =>
      have i0 := fun T => isfromP (S := T) (n := 0) hd
      refine ⟨.tup [.lst xs], y, ?_, by simp [dep, depL]; omega, hy, by simp [el, h1, c1, isTy, i0, numD]⟩
      simp only [plD, plL, Bool.and_eq_true, decide_eq_true_eq, List.length_singleton, and_true] at hd ⊢
      exact ⟨by omega, by omega, plL_mono (by omega) _ hd.2⟩
    | non =>
      have i0 := fun T => isfromP (S := T) (n := 0) hd
      exact ⟨.tup [.non], y, by simp [plD, plL], by simp [dep, depL], hy, by simp [el, h1, c1, isTy, i0, numD]⟩
    | bl v =>
      have i0 := fun T => isfromP (S := T) (n := 0) hd
      exact ⟨.tup [.bl v], y, by simp [plD, plL], by simp [dep, depL], hy, by simp [el, h1, c1, isTy, i0, numD]⟩
    | str v =>
      have i0 := fun T => isfromP (S := T) (n := 0) hd
      exact ⟨.tup [.str v], y, by simp [plD, plL], by simp [dep, depL], hy, by simp [el, h1, c1, isTy, i0, numD]⟩
theorem bent_unf (k : Nat) (b : Nat) (d : D) (S : Store) : f_l_bent (k + 1) [.ref b, d] S = endM S.length ((mSeq (mIf (mAndT (mTest (mIsi .tuple (mVar 1))) (mAndT (mTB (mOp opGt (mCall fLen (mCons (mVar 1) mNil)) (mC (.int 0)))) (mTB (mOp opGt (mCall (fCall f_l_take) (mCons (mVar 0) (mCons (mC (.int 3)) mNil))) (mC (.int 0)))))) (mSeq (mAsg (mCall (fCall f_l_take) (mCons (mVar 0) (mCons (mCall fLen (mCons (mVar 1) mNil)) mNil))) (mgN 2))
  (mRet (mOp opAdd (mOp opAdd (mSl (mVar 1) mNoO (mSoO (mVar 2))) (mTup (mCons (mCall (fCall (f_l_bent k)) (mCons (mVar 0) (mCons (mOp opIx (mVar 1) (mVar 2)) mNil))) mNil))) (mSl (mVar 1) (mSoO (mOp opAdd (mVar 2) (mC (.int 1)))) mNoO)))) mSkip) mBentRest) [some (.ref b), some d, none, none, none] S) := rfl
theorem bent_ok {B : Nat} (hB : 3 ≤ B ∧ B ≤ 1000) {b : Nat} : ∀ (k : Nat) (d : D) (N : Nat) (S : Store) (x : Cell), dep d < k → plD B d = true → S[b]? = some x → BoxC x N → N + 3 * k < 1000000000000 →
    ∃ r y, plD (B + 1) r = true ∧ dep r ≤ dep d + 3 ∧ BoxC y (N + 3 * k) ∧ f_l_bent k [.ref b, d] S = .ok r (S.set b y)
  | 0, d, N, S, x, h, _, _, _, _ => by omega
  | k + 1, d, N, S, x, h, hd, hk, hx, hN => by
    rw [bent_unf]
    have plain : isTy .tuple d = false → ∃ r y, plD (B + 1) r = true ∧ dep r ≤ dep d + 3 ∧ BoxC y (N + 3 * (k + 1)) ∧ endM S.length ((mSeq (mIf (mAndT (mTest (mIsi .tuple (mVar 1))) (mAndT (mTB (mOp opGt (mCall fLen (mCons (mVar 1) mNil)) (mC (.int 0)))) (mTB (mOp opGt (mCall (fCall f_l_take) (mCons (mVar 0) (mCons (mC (.int 3)) mNil))) (mC (.int 0)))))) (mSeq (mAsg (mCall (fCall f_l_take) (mCons (mVar 0) (mCons (mCall fLen (mCons (mVar 1) mNil)) mNil))) (mgN 2))
  (mRet (mOp opAdd (mOp opAdd (mSl (mVar 1) mNoO (mSoO (mVar 2))) (mTup (mCons (mCall (fCall (f_l_bent k)) (mCons (mVar 0) (mCons (mOp opIx (mVar 1) (mVar 2)) mNil))) mNil))) (mSl (mVar 1) (mSoO (mOp opAdd (mVar 2) (mC (.int 1)))) mNoO)))) mSkip) mBentRest) [some (.ref b), some d, none, none, none] S) = .ok r (S.set b y) := by
      intro ht
      obtain ⟨r, y, h1, h2, h3, h4⟩ := bentRest_ok hB hd hk hx (by omega)
      refine ⟨r, y, h1, h2, h3.mono (by omega), ?_⟩
      have ho := plD_ok hd
      generalize mBentRest = R at *
      simp [ho, ht, h4]
    by_cases ht : isTy .tuple d = true
    · cases d <;> simp [isTy] at ht
      rename_i xs
      have hd0 := hd
      simp only [plD, Bool.and_eq_true, decide_eq_true_eq] at hd
      clear plain
      by_cases hl : 0 < xs.length
      · obtain ⟨a1, y1, ha1, hy1, h1⟩ := take_ok (n := 3) hk hx (by omega) (by decide) (by decide)
        have hk1 := set_get (c' := y1) hk
        by_cases c1 : 0 < a1
        · have hlen : (xs.length : Int) < 2 ^ 8999 := Int.lt_trans (show (xs.length : Int) < 2 ^ 60 by omega) (by decide)
          obtain ⟨a2, y2, ha2, hy2, h2⟩ := take_ok (n := (xs.length : Int)) hk1 hy1 (by omega) (by omega) hlen
          have hk2 := set_get (c' := y2) hk1
          obtain ⟨i, rfl⟩ : ∃ i : Nat, a2 = (i : Int) := ⟨a2.toNat, by omega⟩
          have hi : i < xs.length := by omega
          have hg : atI xs (i : Int) = some xs[i] := atI_get (List.getElem?_eq_getElem hi)
          have hm : xs[i] ∈ xs := List.getElem_mem hi
          have hdep : dep xs[i] ≤ depL xs := depL_le.mp (Nat.le_refl _) _ hm
          simp only [dep] at h
          obtain ⟨r, y3, q1, q2, q3, q4⟩ := bent_ok hB k xs[i] (N + 1 + 1) _ y2 (by omega) (plL_all.mp hd.2 _ hm) hk2 hy2 (by omega)
          have t1 : cutD xs none (some (i : Int)) = xs.take i := cutD_take xs i
          have t2 : cutD xs (some ((i : Int) + 1)) none = xs.drop (i + 1) := cutD_drop xs (i + 1)
          have l1 : (xs.take i).length = i := by rw [List.length_take]; omega
          have l2 : (xs.drop (i + 1)).length = xs.length - (i + 1) := List.length_drop
          refine ⟨.tup (xs.take i ++ [r] ++ xs.drop (i + 1)), y3, ?_, ?_, q3.mono (by omega), ?_⟩
          · simp only [plD, Bool.and_eq_true, decide_eq_true_eq, List.length_append, List.length_singleton, l1, l2]
            refine ⟨by omega, plL_all.mpr fun e he => ?_⟩
            rcases List.mem_append.mp he with he | he
            · rcases List.mem_append.mp he with he | he
              · exact plD_mono (by omega) _ (plL_all.mp hd.2 e (List.mem_of_mem_take he))
              · rw [List.mem_singleton.mp he]; exact q1
            · exact plD_mono (by omega) _ (plL_all.mp hd.2 e (List.mem_of_mem_drop he))
          · have : depL (xs.take i ++ [r] ++ xs.drop (i + 1)) ≤ depL xs + 3 := depL_le.mpr fun e he => by
              rcases List.mem_append.mp he with he | he
              · rcases List.mem_append.mp he with he | he
                · have := depL_le.mp (Nat.le_refl _) e (List.mem_of_mem_take he)
                  omega
                · rw [List.mem_singleton.mp he]; omega
              · have := depL_le.mp (Nat.le_refl _) e (List.mem_of_mem_drop he)
                omega
            simp only [dep]
            omega
          · have g1 : (xs.take i).length + 1 ≤ 100000 := by omega
            have g2 : (xs.take i).length + 1 + (xs.drop (i + 1)).length ≤ 100000 := by omega
            simp only [List.set_set] at h2 q4
            generalize mBentRest = R at *
            generalize hA : xs.take i = A at *
            generalize hZ : xs.drop (i + 1) = Z at *
            generalize hE : xs[i] = e at *
            have g3 : A.length + (1 + Z.length) ≤ 100000 := by omega
            simp [isTy, hl, h1, c1, h2, hg, q4, t1, t2, g1, g2, g3]
        · obtain ⟨r, y, q1, q2, q3, q4⟩ := bentRest_ok hB hd0 hk1 hy1 (by omega)
          refine ⟨r, y, q1, q2, q3.mono (by omega), ?_⟩
          rw [List.set_set] at q4
          generalize mBentRest = R at *
          simp [isTy, hl, h1, c1, q4]
      · obtain ⟨r, y, q1, q2, q3, q4⟩ := bentRest_ok hB hd0 hk hx (by omega)
        refine ⟨r, y, q1, q2, q3.mono (by omega), ?_⟩
        generalize mBentRest = R at *
        simp [isTy, hl, q4]
    · exact plain (by simpa using ht)
theorem asked_lc (n : Int) {B : Nat} (hB : B ≤ 100000) (ρ : Q.Env) (hv : 1 < ρ.length) (xs : List D) (S : Store) (h : plL B xs = true) : lcL (mgN 1) mYes (mCall (fPure f_l_asked_right) (mCons (mC (.int n)) (mCons (mVar 1) mNil))) ρ xs S = .ok (xs.map fun _ => .bl true) S := by
  refine lcL_map (f := fun _ => .bl true) xs S fun d hd => ⟨_, rfl, ?_⟩
  have hp := plL_all.mp h d hd
  rw [ap_call, ap_cons, ap_c]
  simp only [bind_ok]
  rw [ap_cons, ap_var, List.getElem?_set_self hv]
  simp only [bind_ok, ap_nil, askedP hp hB]
theorem all_true (xs : List D) (S : Store) : fAll [.lst (xs.map fun _ => .bl true)] S = .ok (.bl true) S := by
  rw [all_bools (fun _ => true) xs S]
  simp
/-- the end of _law_by_hand_right, at any list of plain things -/
theorem hand_end (xs : List D) (h : plL 30 xs = true) (hl : xs.length ≤ 100000) : (mRet (mCall fAll (mCons (mLc (mItems (mVar 0)) (mgN 1) mYes (mCall (fPure f_l_asked_right) (mCons (mC (.int 9)) (mCons (mVar 1) mNil))) [1]) mNil))) [some (.lst xs), none] [] = .ok (.rt (.bl true)) [] := by
  have h1 := asked_lc 9 (by omega) [some (.lst xs), none] (by simp) xs [] h
  rw [ap_ret, ap_call, ap_cons, ap_lc, ap_items, ap_var]
  simp only [List.getElem?_cons_zero, bind_ok, items_lst, hl, if_true, wp, List.set_cons_succ, List.set_cons_zero, h1, ap_nil, all_true]
theorem by_hand : f_l_by_hand_right [] [] = .ok (.bl true) [] := by
  have p1 : powOk 10 60 = true := by decide
  have p2 : powOk 10 40 = true := by decide
  unfold f_l_by_hand_right m_l_by_hand_right
  rw [fnM_0]
  have he := fun xs h hl => hand_end xs h hl
  generalize hE : (mRet (mCall fAll (mCons (mLc (mItems (mVar 0)) (mgN 1) mYes (mCall (fPure f_l_asked_right) (mCons (mC (.int 9)) (mCons (mVar 1) mNil))) [1]) mNil))) = E at *
  have hf : ∀ xs, plL 30 xs = true → xs.length ≤ 100000 → endM 0 (E [some (.lst xs), none] []) = .ok (.bl true) [] := fun xs h hl => by rw [he xs h hl, endM_rt, fin_nil rfl]
  simp [p1, p2]
  exact hf _ (by simp [plL, plD]) (by simp)
theorem by_handP (S : Store) : fPure f_l_by_hand_right [] S = .ok (.bl true) S := fPure_ap S rfl by_hand
def mRightTurn : MS := (mSeq (mIf (mOrT (mNotT (mTest (mCall (fPure f_l_asked_right) (mCons (mVar 1) (mCons (mVar 3) mNil))))) (mNotT (mTest (mCall (fPure f_l_asked_right) (mCons (mOp opAdd (mC (.int 1)) (mCall (fCall f_l_take) (mCons (mVar 0) (mCons (mC (.int 9)) mNil)))) (mCons (mVar 3) mNil)))))) (mRet (mC (.bl false))) mSkip)
  (mAsg (mCall (fCall (f_l_bent 30)) (mCons (mVar 0) (mCons (mVar 3) mNil))) (mgN 3)))
theorem rightTurn_ok {B : Nat} (hB : 3 ≤ B ∧ B ≤ 1000) {b : Nat} {d : D} {N : Nat} {S : Store} {x : Cell} (hdep : dep d < 30) (hd : plD B d = true) (hk : S[b]? = some x) (hx : BoxC x N) (hN : N + 91 < 1000000000000) (n : Int) (v2 v4 : Option D) :
    ∃ r y, plD (B + 1) r = true ∧ dep r ≤ dep d + 3 ∧ BoxC y (N + 91) ∧ mRightTurn [some (.ref b), some (.int n), v2, some d, v4] S = .ok (.nx [some (.ref b), some (.int n), v2, some r, v4]) (S.set b y) := by
  obtain ⟨a1, y1, ha1, hy1, h1⟩ := take_ok (n := 9) hk hx (by omega) (by decide) (by decide)
  have hk1 := set_get (c' := y1) hk
  obtain ⟨r, y, q1, q2, q3, q4⟩ := bent_ok hB 30 d (N + 1) _ y1 hdep hd hk1 hy1 (by omega)
  refine ⟨r, y, q1, q2, q3.mono (by omega), ?_⟩
  have i1 := fun (m : Int) (T : Store) => askedP (n := m) (S := T) hd (by omega)
  rw [List.set_set] at q4
  unfold mRightTurn
  simp [i1, h1, q4]
theorem rightLoop_ok {b : Nat} {n : Int} {v2 : Option D} : ∀ (ds : List D) (i : Nat) (d : D) (N : Nat) (S : Store) (x : Cell) (v4 : Option D), i + ds.length ≤ 3 → plD (20 + i) d = true → dep d ≤ 3 + 3 * i → S[b]? = some x → BoxC x N → N + 91 * ds.length < 1000000000000 →
    ∃ r w4 y, BoxC y (N + 91 * ds.length) ∧ forL (mgN 4) mRightTurn ds [some (.ref b), some (.int n), v2, some d, v4] S = .ok (.nx [some (.ref b), some (.int n), v2, some r, w4]) (S.set b y)
  | [], i, d, N, S, x, v4, _, _, _, hk, hx, _ => ⟨d, v4, x, hx, by rw [forL_nil, set_self hk]⟩
  | e :: ds, i, d, N, S, x, v4, hi, hd, hdep, hk, hx, hN => by
    simp only [List.length_cons] at hi hN ⊢
    obtain ⟨r, y, q1, q2, q3, q4⟩ := rightTurn_ok (by omega) (by omega) hd hk hx (by omega) n v2 (some e)
    have hk1 := set_get (c' := y) hk
    obtain ⟨r2, w4, y2, p1, p2⟩ := rightLoop_ok ds (i + 1) r (N + 91) _ y (some e) (by omega) (by rw [show 20 + (i + 1) = 20 + i + 1 by omega]; exact q1) (by omega) hk1 q3 (by omega)
    refine ⟨r2, w4, y2, p1.mono (by omega), ?_⟩
    rw [List.set_set] at p2
    rw [forL_cons, ap_gN]
    simp only [bind_ok, List.set_cons_succ, List.set_cons_zero]
    rw [q4]
    simp only [bind_ok, forK_nx]
    exact p2
theorem right_ok : RightOk 400 := by
  intro S k N x hk hx hN
  obtain ⟨a1, y1, ha1, hy1, h1⟩ := take_ok (n := 9) hk hx (by omega) (by decide) (by decide)
  have hk1 := set_get (c' := y1) hk
  obtain ⟨p, q, y2, hpq, hy2, h2⟩ := limit_ok hk1 hy1 (by omega)
  have hk2 := set_get (c' := y2) hk
  rw [List.set_set] at h2
  obtain ⟨rows, y3, hrl, hrows, hy3, h3⟩ := log_ok (many := 1 + a1) hk2 hy2 (by omega) (by omega) (by omega)
  have hk3 := set_get (c' := y3) hk
  rw [List.set_set] at h3
  obtain ⟨s, e, y4, hse, hy4, h4⟩ := stretch_ok (many := 1 + a1) hk3 hy3 (by omega) (by omega) (by omega)
  have hk4 := set_get (c' := y4) hk
  rw [List.set_set] at h4
  obtain ⟨d, y5, hd, hy5, h5⟩ := of_ok (xs := [.tup [.int p, .int q], .tup rows, .tup [.int s, .int e]]) hk4 hy4 (by omega) (by simp) (by simp)
  have hk5 := set_get (c' := y5) hk
  rw [List.set_set] at h5
  have hd2 : plD (20 + 0) d = true ∧ dep d ≤ 3 + 3 * 0 := by
    simp only [List.mem_cons, List.mem_nil_iff, or_false] at hd
    rcases hd with rfl | rfl | rfl
    · exact ⟨rfl, by simp [dep, depL]⟩
    · constructor
      · simp only [plD, Bool.and_eq_true, decide_eq_true_eq]
        refine ⟨by omega, plL_all.mpr fun z hz => ?_⟩
        obtain ⟨g, f, rfl, _⟩ := hrows z hz
        rfl
      · have : depL rows ≤ 1 := depL_le.mpr fun z hz => by
          obtain ⟨g, f, rfl, _⟩ := hrows z hz
          simp [dep, depL]
        simp only [dep]
        omega
    · exact ⟨rfl, by simp [dep, depL]⟩
  obtain ⟨r, w4, y6, hy6, h6⟩ := rightLoop_ok (n := 1 + a1) (v2 := some (.lst [.tup [.int p, .int q], .tup rows, .tup [.int s, .int e]])) (rangeD 0 3) 0 d _ _ y5 none (by rw [rangeD_len]; decide) hd2.1 hd2.2 hk5 hy5 (by rw [rangeD_len]; omega)
  rw [rangeD_len] at hy6
  rw [List.set_set] at h6
  refine ⟨y6, hy6.mono (by omega), ?_⟩
  have bh := fun T => by_handP T
  have hr : ∀ T, r1K (.int 3) T = .ok (rangeD 0 3) T := fun T => r1K_small 3 T (by decide)
  unfold f_l_right m_l_right
  rw [fnM_1]
  show endM S.length (mSeq _ (mSeq _ (mSeq _ (mSeq _ (mSeq (mFor (mRange1 (mC (.int 3))) (mgN 4) mRightTurn) _)))) [some (.ref k), none, none, none, none] S) = _
  generalize mRightTurn = M at *
  generalize rangeD 0 3 = rg at *
  simp [-r1K_int, bh, h1, h2, h3, h4, h5, hr, h6]
theorem holds : ∀ ns : List Int, ns.length ≤ 63 → ∃ S, f_l_law [scriptD ns] [] = .ok (.bl true) S :=
  fun ns hn => law_go 3 4 (by decide) (by decide) (by decide) 400 (by decide) right_ok (fun S cs k h h2 => box_ok S cs k 800 h h2 (by decide) rfl) rfl ns hn
end Lw
namespace Lw
open PySem L2 Q
def top (i : Nat) : Stmt := PySem.Challenge.pw_quietshare_k00_limits_logs_stretches_or.main.body.getD i (.Pass ⟨0, 0, 0, 0⟩)
abbrev s_l_cells : Stmt := top 12
abbrev N_l_cells : List Str := ["_law_script", "_law_most_so", "_law_cells_here", "_law_k", "_law_cell", "_law_at_so"]
theorem sc_l_cells : FnScope N_l_cells ["_law_script", "_law_most_so"] (defScope s_l_cells) := ⟨rfl, rfl, rfl, by decide +kernel, rfl, by decide +kernel, by decide +kernel⟩
abbrev s_l_box : Stmt := top 10
abbrev N_l_box : List Str := ["_law_script", "_law_k", "_law_cell"]
theorem sc_l_box : FnScope N_l_box ["_law_script", "_law_k"] (defScope s_l_box) := ⟨rfl, rfl, rfl, by decide +kernel, rfl, by decide +kernel, by decide +kernel⟩
abbrev s_l_take : Stmt := top 11
abbrev N_l_take : List Str := ["_law_box_here", "_law_below", "_law_drawn", "_law_once", "_law_far", "_law_twice"]
theorem sc_l_take : FnScope N_l_take ["_law_box_here", "_law_below"] (defScope s_l_take) := ⟨rfl, rfl, rfl, by decide +kernel, rfl, by decide +kernel, by decide +kernel⟩
abbrev s_l_of : Stmt := top 13
abbrev N_l_of : List Str := ["_law_box_here", "_law_some"]
theorem sc_l_of : FnScope N_l_of ["_law_box_here", "_law_some"] (defScope s_l_of) := ⟨rfl, rfl, rfl, by decide +kernel, rfl, by decide +kernel, by decide +kernel⟩
abbrev s_l_from : Stmt := top 19
abbrev N_l_from : List Str := ["_law_thing_so", "_law_least_so"]
theorem sc_l_from : FnScope N_l_from ["_law_thing_so", "_law_least_so"] (defScope s_l_from) := ⟨rfl, rfl, rfl, by decide +kernel, rfl, by decide +kernel, by decide +kernel⟩
abbrev s_l_is_pair : Stmt := top 20
abbrev N_l_is_pair : List Str := ["_law_thing_so"]
theorem sc_l_is_pair : FnScope N_l_is_pair ["_law_thing_so"] (defScope s_l_is_pair) := ⟨rfl, rfl, rfl, by decide +kernel, rfl, by decide +kernel, by decide +kernel⟩
abbrev s_l_due : Stmt := top 21
abbrev N_l_due : List Str := ["_law_many_so", "_law_thing_so", "_law_pair_so", "_law_found", "_law_own"]
theorem sc_l_due : FnScope N_l_due ["_law_many_so", "_law_thing_so"] (defScope s_l_due) := ⟨rfl, rfl, rfl, by decide +kernel, rfl, by decide +kernel, by decide +kernel⟩
abbrev s_p_is_tuple : Stmt := top 2
abbrev N_p_is_tuple : List Str := ["thing", "many"]
theorem sc_p_is_tuple : FnScope N_p_is_tuple ["thing", "many"] (defScope s_p_is_tuple) := ⟨rfl, rfl, rfl, by decide +kernel, rfl, by decide +kernel, by decide +kernel⟩
abbrev s_p_is_number : Stmt := top 1
abbrev N_p_is_number : List Str := ["thing", "least"]
theorem sc_p_is_number : FnScope N_p_is_number ["thing", "least"] (defScope s_p_is_number) := ⟨rfl, rfl, rfl, by decide +kernel, rfl, by decide +kernel, by decide +kernel⟩
abbrev s_p_is_limit : Stmt := top 4
abbrev N_p_is_limit : List Str := ["thing"]
theorem sc_p_is_limit : FnScope N_p_is_limit ["thing"] (defScope s_p_is_limit) := ⟨rfl, rfl, rfl, by decide +kernel, rfl, by decide +kernel, by decide +kernel⟩
abbrev s_p_is_minute : Stmt := top 6
abbrev N_p_is_minute : List Str := ["thing"]
theorem sc_p_is_minute : FnScope N_p_is_minute ["thing"] (defScope s_p_is_minute) := ⟨rfl, rfl, rfl, by decide +kernel, rfl, by decide +kernel, by decide +kernel⟩
abbrev s_p_is_log : Stmt := top 7
abbrev N_p_is_log : List Str := ["thing", "part"]
theorem sc_p_is_log : FnScope N_p_is_log ["thing"] (defScope s_p_is_log) := ⟨rfl, rfl, rfl, by decide +kernel, rfl, by decide +kernel, by decide +kernel⟩
abbrev s_p_is_stretch : Stmt := top 8
abbrev N_p_is_stretch : List Str := ["many", "thing"]
theorem sc_p_is_stretch : FnScope N_p_is_stretch ["many", "thing"] (defScope s_p_is_stretch) := ⟨rfl, rfl, rfl, by decide +kernel, rfl, by decide +kernel, by decide +kernel⟩
abbrev s_l_same : Stmt := top 14
abbrev N_l_same : List Str := ["_law_got", "_law_due_here", "_law_mine", "_law_its"]
theorem sc_l_same : FnScope N_l_same ["_law_got", "_law_due_here"] (defScope s_l_same) := ⟨rfl, rfl, rfl, by decide +kernel, rfl, by decide +kernel, by decide +kernel⟩
abbrev s_l_asked_right : Stmt := top 23
abbrev N_l_asked_right : List Str := ["_law_many_so", "_law_thing_so", "_law_got", "_law_its", "_law_due_here"]
theorem sc_l_asked_right : FnScope N_l_asked_right ["_law_many_so", "_law_thing_so"] (defScope s_l_asked_right) := ⟨rfl, rfl, rfl, by decide +kernel, rfl, by decide +kernel, by decide +kernel⟩
abbrev s_l_by_hand_right : Stmt := top 24
abbrev N_l_by_hand_right : List Str := ["_law_some", "_law_thing_so"]
theorem sc_l_by_hand_right : FnScope N_l_by_hand_right [] (defScope s_l_by_hand_right) := ⟨rfl, rfl, rfl, by decide +kernel, rfl, by decide +kernel, by decide +kernel⟩
abbrev s_l_limit : Stmt := top 15
abbrev N_l_limit : List Str := ["_law_box_here", "_law_way_so"]
theorem sc_l_limit : FnScope N_l_limit ["_law_box_here"] (defScope s_l_limit) := ⟨rfl, rfl, rfl, by decide +kernel, rfl, by decide +kernel, by decide +kernel⟩
abbrev s_l_number : Stmt := top 17
abbrev N_l_number : List Str := ["_law_box_here", "_law_way_so"]
theorem sc_l_number : FnScope N_l_number ["_law_box_here"] (defScope s_l_number) := ⟨rfl, rfl, rfl, by decide +kernel, rfl, by decide +kernel, by decide +kernel⟩
abbrev s_l_log : Stmt := top 18
abbrev N_l_log : List Str := ["_law_box_here", "_law_many_so", "_law_turn"]
theorem sc_l_log : FnScope N_l_log ["_law_box_here", "_law_many_so"] (defScope s_l_log) := ⟨rfl, rfl, rfl, by decide +kernel, rfl, by decide +kernel, by decide +kernel⟩
abbrev s_l_stretch : Stmt := top 16
abbrev N_l_stretch : List Str := ["_law_box_here", "_law_many_so", "_law_start"]
theorem sc_l_stretch : FnScope N_l_stretch ["_law_box_here", "_law_many_so"] (defScope s_l_stretch) := ⟨rfl, rfl, rfl, by decide +kernel, rfl, by decide +kernel, by decide +kernel⟩
abbrev s_l_bent : Stmt := top 22
abbrev N_l_bent : List Str := ["_law_box_here", "_law_thing_so", "_law_spot", "_law_some", "_law_way_so"]
theorem sc_l_bent : FnScope N_l_bent ["_law_box_here", "_law_thing_so"] (defScope s_l_bent) := ⟨rfl, rfl, rfl, by decide +kernel, rfl, by decide +kernel, by decide +kernel⟩
abbrev s_l_right : Stmt := top 25
abbrev N_l_right : List Str := ["_law_box_here", "_law_many_so", "_law_some", "_law_thing_so", "_law_turn"]
theorem sc_l_right : FnScope N_l_right ["_law_box_here"] (defScope s_l_right) := ⟨rfl, rfl, rfl, by decide +kernel, rfl, by decide +kernel, by decide +kernel⟩
abbrev s_l_law : Stmt := top 26
abbrev N_l_law : List Str := ["_law_script", "_law_cells_here", "_law_k", "_law_box_here", "_law_turn"]
theorem sc_l_law : FnScope N_l_law ["_law_script"] (defScope s_l_law) := ⟨rfl, rfl, rfl, by decide +kernel, rfl, by decide +kernel, by decide +kernel⟩
structure Txt (K : PySem.W.Frag) (mg : Str → Option Value) (a : Nat → Addr) (d : Nat → FuncData) : Prop where
  F_l_cells : Fun K "_law_cells" "_law_cells" s_l_cells (a 0) (d 0)
  g_l_cells : mg "_law_cells" = some (.ref (a 0))
  F_l_box : Fun K "_law_box" "_law_box" s_l_box (a 1) (d 1)
  g_l_box : mg "_law_box" = some (.ref (a 1))
  F_l_take : Fun K "_law_take" "_law_take" s_l_take (a 2) (d 2)
  g_l_take : mg "_law_take" = some (.ref (a 2))
  F_l_of : Fun K "_law_of" "_law_of" s_l_of (a 3) (d 3)
  g_l_of : mg "_law_of" = some (.ref (a 3))
  F_l_from : Fun K "_law_from" "_law_from" s_l_from (a 4) (d 4)
  g_l_from : mg "_law_from" = some (.ref (a 4))
  F_l_is_pair : Fun K "_law_is_pair" "_law_is_pair" s_l_is_pair (a 5) (d 5)
  g_l_is_pair : mg "_law_is_pair" = some (.ref (a 5))
  F_l_due : Fun K "_law_due" "_law_due" s_l_due (a 6) (d 6)
  g_l_due : mg "_law_due" = some (.ref (a 6))
  F_p_is_tuple : Fun K "is_tuple" "is_tuple" s_p_is_tuple (a 7) (d 7)
  g_p_is_tuple : mg "is_tuple" = some (.ref (a 7))
  F_p_is_number : Fun K "is_number" "is_number" s_p_is_number (a 8) (d 8)
  g_p_is_number : mg "is_number" = some (.ref (a 8))
  F_p_is_limit : Fun K "is_limit" "is_limit" s_p_is_limit (a 9) (d 9)
  g_p_is_limit : mg "is_limit" = some (.ref (a 9))
  F_p_is_minute : Fun K "is_minute" "is_minute" s_p_is_minute (a 10) (d 10)
  g_p_is_minute : mg "is_minute" = some (.ref (a 10))
  F_p_is_log : Fun K "is_log" "is_log" s_p_is_log (a 11) (d 11)
  g_p_is_log : mg "is_log" = some (.ref (a 11))
  F_p_is_stretch : Fun K "is_stretch" "is_stretch" s_p_is_stretch (a 12) (d 12)
  g_p_is_stretch : mg "is_stretch" = some (.ref (a 12))
  F_l_same : Fun K "_law_same" "_law_same" s_l_same (a 13) (d 13)
  g_l_same : mg "_law_same" = some (.ref (a 13))
  F_l_asked_right : Fun K "_law_asked_right" "_law_asked_right" s_l_asked_right (a 14) (d 14)
  g_l_asked_right : mg "_law_asked_right" = some (.ref (a 14))
  F_l_by_hand_right : Fun K "_law_by_hand_right" "_law_by_hand_right" s_l_by_hand_right (a 15) (d 15)
  g_l_by_hand_right : mg "_law_by_hand_right" = some (.ref (a 15))
  F_l_limit : Fun K "_law_limit" "_law_limit" s_l_limit (a 16) (d 16)
  g_l_limit : mg "_law_limit" = some (.ref (a 16))
  F_l_number : Fun K "_law_number" "_law_number" s_l_number (a 17) (d 17)
  g_l_number : mg "_law_number" = some (.ref (a 17))
  F_l_log : Fun K "_law_log" "_law_log" s_l_log (a 18) (d 18)
  g_l_log : mg "_law_log" = some (.ref (a 18))
  F_l_stretch : Fun K "_law_stretch" "_law_stretch" s_l_stretch (a 19) (d 19)
  g_l_stretch : mg "_law_stretch" = some (.ref (a 19))
  F_l_bent : Fun K "_law_bent" "_law_bent" s_l_bent (a 20) (d 20)
  g_l_bent : mg "_law_bent" = some (.ref (a 20))
  F_l_right : Fun K "_law_right" "_law_right" s_l_right (a 21) (d 21)
  g_l_right : mg "_law_right" = some (.ref (a 21))
  F_l_law : Fun K "law" "law" s_l_law (a 22) (d 22)
  g_l_law : mg "law" = some (.ref (a 22))
  n_abs : mg "abs" = none
  n_all : mg "all" = none
  n_bool : mg "bool" = none
  n_enumerate : mg "enumerate" = none
  n_int : mg "int" = none
  n_isinstance : mg "isinstance" = none
  n_len : mg "len" = none
  n_list : mg "list" = none
  n_range : mg "range" = none
  n_str : mg "str" = none
  n_tuple : mg "tuple" = none
  n_zip : mg "zip" = none
section
variable {P : Program} {w : World} {K : PySem.W.Frag} {mg : Str → Option Value} {base : Heap} {cl : Nat → Addr} {a : Nat → Addr} {d : Nat → FuncData}
theorem b_l_cells (T : Txt K mg a d) : Binds K (d 0) ["_law_script", "_law_most_so"] [] := T.F_l_cells.binds (ps := ["_law_script", "_law_most_so"]) fun _ _ _ _ _ _ us hl => match us, hl with | [_, _], _ => rfl
theorem ok_l_cells (T : Txt K mg a d) : FnOk P w K mg base CX0 1 (a 0) (d 0) ["_law_script", "_law_most_so"] (spM ⟨K, cl⟩ f_l_cells) :=
  fn_ok 6 2 (k := 0) T.F_l_cells sc_l_cells fun cdv A outer s H E hr =>
      (qss_cons (qs_set 2 (q_orV (q_callTy listCQ (by rfl) T.n_list (by decide +kernel) (q_cons (q_sl (q_var 0) q_noO (q_soO (q_var 1))) q_nil)) (q_oneV (q_cell (q_cons q_int q_nil)))) sc_l_cells.nd)
      (qss_cons (qs_for (qi_enum (q_sl (q_var 0) (q_soO (q_var 1)) (q_soO q_int)) (by rfl) T.n_enumerate) (qg_tup 2 (qgs_cons (qg_name 3 sc_l_cells.nd) (qgs_cons (qg_name 4 sc_l_cells.nd) qgs_nil))) (qss_cons (qs_set 5 (q_op modI (q_callTy intQ (by rfl) T.n_int (by decide +kernel) (q_cons (q_var 3) q_nil)) (q_var 1)) sc_l_cells.nd)
      (qss_one (qs_asg (q_op addQ (q_ix (q_var 2) (q_var 5)) (q_op mulQ (q_var 4) (q_op addQ (q_var 3) q_int))) (qg_sub (q_var 2) (q_var 5))))))
      (qss_one (qs_ret (q_frz (q_var 2))))))
theorem b_l_box (T : Txt K mg a d) : Binds K (d 1) ["_law_script", "_law_k"] [] := T.F_l_box.binds (ps := ["_law_script", "_law_k"]) fun _ _ _ _ _ _ us hl => match us, hl with | [_, _], _ => rfl
theorem ok_l_box (T : Txt K mg a d) : FnOk P w K mg base CX0 1 (a 1) (d 1) ["_law_script", "_law_k"] (spM ⟨K, cl⟩ f_l_box) :=
  fn_okC 3 2 (k := 0) T.F_l_box sc_l_box fun cdv A outer s H E hr =>
      (qss_cons (qs_set 2 (q_ifE (q_tcmp ltI (q_var 1) (q_callB lenQ (by rfl) T.n_len (by decide +kernel) (q_cons (q_var 0) q_nil))) (q_ix (q_var 0) (q_var 1)) q_int) sc_l_box.nd)
      (qss_one (qs_ret (q_cell (q_cons (q_op mulQ (q_callB absQ (by rfl) T.n_abs (by decide +kernel) (q_cons (q_var 2) q_nil)) (q_callTy intQ (by rfl) T.n_int (by decide +kernel) (q_cons (q_cmp geI (q_callB absQ (by rfl) T.n_abs (by decide +kernel) (q_cons (q_var 2) q_nil)) (q_op powI q_int q_int)) q_nil))) (q_cons (q_op addQ (q_op addQ (q_op modI (q_callTy intQ (by rfl) T.n_int (by decide +kernel) (q_cons (q_var 2) q_nil)) q_int) (q_op mulQ q_int (q_var 1))) q_int) (q_cons q_int q_nil)))))))
theorem b_l_take (T : Txt K mg a d) : Binds K (d 2) ["_law_box_here", "_law_below"] [] := T.F_l_take.binds (ps := ["_law_box_here", "_law_below"]) fun _ _ _ _ _ _ us hl => match us, hl with | [_, _], _ => rfl
theorem ok_l_take (T : Txt K mg a d) : FnOk P w K mg base CX0 1 (a 2) (d 2) ["_law_box_here", "_law_below"] (spM ⟨K, cl⟩ f_l_take) :=
  fn_ok 6 2 (k := 0) T.F_l_take sc_l_take fun cdv A outer s H E hr =>
      (qss_cons (qs_if (q_tcmp gtI (q_ix (q_var 0) q_int) q_int) (qss_cons (qs_set 2 (q_op modI (q_callTy intQ (by rfl) T.n_int (by decide +kernel) (q_cons (q_ix (q_var 0) q_int) q_nil)) (q_var 1)) sc_l_take.nd)
      (qss_cons (qs_asg (q_op divI (q_ix (q_var 0) q_int) (q_var 1)) (qg_sub (q_var 0) q_int))
      (qss_one (qs_ret (q_var 2))))) qss_nil)
      (qss_cons (qs_asg (q_op addQ (q_ix (q_var 0) q_int) q_int) (qg_sub (q_var 0) q_int))
      (qss_cons (qs_set 3 (q_op modI (q_callTy intQ (by rfl) T.n_int (by decide +kernel) (q_cons (q_op mulQ (q_op addQ (q_ix (q_var 0) q_int) (q_op mulQ q_int (q_ix (q_var 0) q_int))) (q_op addQ q_int (q_ix (q_var 0) q_int))) q_nil)) q_int) sc_l_take.nd)
      (qss_cons (qs_set 4 (q_op addQ (q_op modI (q_callTy intQ (by rfl) T.n_int (by decide +kernel) (q_cons (q_var 3) q_nil)) q_int) q_int) sc_l_take.nd)
      (qss_cons (qs_set 5 (q_op modI (q_callTy intQ (by rfl) T.n_int (by decide +kernel) (q_cons (q_op mulQ (q_op addQ (q_op addQ (q_var 3) (q_ix (q_var 0) q_int)) (q_op divI (q_ix (q_var 0) q_int) q_int)) (q_var 4)) q_nil)) q_int) sc_l_take.nd)
      (qss_one (qs_ret (q_op modI (q_callTy intQ (by rfl) T.n_int (by decide +kernel) (q_cons (q_op divI (q_op modI (q_callTy intQ (by rfl) T.n_int (by decide +kernel) (q_cons (q_op addQ (q_op mulQ (q_var 5) q_int) (q_var 3)) q_nil)) q_int) q_int) q_nil)) (q_var 1)))))))))
theorem b_l_of (T : Txt K mg a d) : Binds K (d 3) ["_law_box_here", "_law_some"] [] := T.F_l_of.binds (ps := ["_law_box_here", "_law_some"]) fun _ _ _ _ _ _ us hl => match us, hl with | [_, _], _ => rfl
theorem ok_l_of (T : Txt K mg a d) : FnOk P w K mg base CX0 2 (a 3) (d 3) ["_law_box_here", "_law_some"] (spM ⟨K, cl⟩ f_l_of) :=
  fn_ok 2 2 (k := 1) T.F_l_of sc_l_of fun cdv A outer s H E hr =>
      (qss_one (qs_ret (q_ix (q_var 1) (q_call (ok_l_take T) (hr.mono (by omega)) (by rfl) T.g_l_take T.F_l_take.kp (b_l_take T) (q_cons (q_var 0) (q_cons (q_callB lenQ (by rfl) T.n_len (by decide +kernel) (q_cons (q_var 1) q_nil)) q_nil)) sp_call))))
theorem b_l_from (T : Txt K mg a d) : Binds K (d 4) ["_law_thing_so", "_law_least_so"] [] := T.F_l_from.binds (ps := ["_law_thing_so", "_law_least_so"]) fun _ _ _ _ _ _ us hl => match us, hl with | [_, _], _ => rfl
theorem ok_l_from (T : Txt K mg a d) : FnOk P w K mg base CX0 1 (a 4) (d 4) ["_law_thing_so", "_law_least_so"] (spM ⟨K, cl⟩ f_l_from) :=
  fn_ok 2 2 (k := 0) T.F_l_from sc_l_from fun cdv A outer s H E hr =>
      (qss_one (qs_ret (q_andV (q_isi .int (q_var 0) (by rfl) T.n_isinstance (by rfl) T.n_int (by decide +kernel)) (q_andV (q_notV (q_isi .bool (q_var 0) (by rfl) T.n_isinstance (by rfl) T.n_bool (by decide +kernel))) (q_oneV (q_cmp geI (q_var 0) (q_var 1)))))))
theorem b_l_is_pair (T : Txt K mg a d) : Binds K (d 5) ["_law_thing_so"] [] := T.F_l_is_pair.binds (ps := ["_law_thing_so"]) fun _ _ _ _ _ _ us hl => match us, hl with | [_], _ => rfl
theorem ok_l_is_pair (T : Txt K mg a d) : FnOk P w K mg base CX0 2 (a 5) (d 5) ["_law_thing_so"] (spM ⟨K, cl⟩ f_l_is_pair) :=
  fn_ok 1 1 (k := 1) T.F_l_is_pair sc_l_is_pair fun cdv A outer s H E hr =>
      (qss_cons (qs_if (q_w (q_or (q_not (q_test (q_isi .tuple (q_var 0) (by rfl) T.n_isinstance (by rfl) T.n_tuple (by decide +kernel)))) (q_or1 (q_tcmp (neQ hr) (q_callB lenQ (by rfl) T.n_len (by decide +kernel) (q_cons (q_var 0) q_nil)) q_int)))) (qss_one (qs_ret q_bl)) qss_nil)
      (qss_one (qs_ret (q_andV (q_call (ok_l_from T) (hr.mono (by omega)) (by rfl) T.g_l_from T.F_l_from.kp (b_l_from T) (q_cons (q_ix (q_var 0) q_int) (q_cons q_int q_nil)) sp_pure) (q_oneV (q_call (ok_l_from T) (hr.mono (by omega)) (by rfl) T.g_l_from T.F_l_from.kp (b_l_from T) (q_cons (q_ix (q_var 0) q_int) (q_cons q_int q_nil)) sp_pure))))))
theorem b_l_due (T : Txt K mg a d) : Binds K (d 6) ["_law_many_so", "_law_thing_so"] [] := T.F_l_due.binds (ps := ["_law_many_so", "_law_thing_so"]) fun _ _ _ _ _ _ us hl => match us, hl with | [_, _], _ => rfl
theorem ok_l_due (T : Txt K mg a d) : FnOk P w K mg base CX0 3 (a 6) (d 6) ["_law_many_so", "_law_thing_so"] (spM ⟨K, cl⟩ f_l_due) :=
  fn_ok 5 2 (k := 2) T.F_l_due sc_l_due fun cdv A outer s H E hr =>
      (qss_cons (qs_set 2 (q_call (ok_l_is_pair T) (hr.mono (by omega)) (by rfl) T.g_l_is_pair T.F_l_is_pair.kp (b_l_is_pair T) (q_cons (q_var 1) q_nil) sp_pure) sc_l_due.nd)
      (qss_cons (qs_set 3 (q_cell (q_cons (q_andV (q_var 2) (q_oneV (q_chain ltI ltI q_int (q_ix (q_var 1) q_int) (q_ix (q_var 1) q_int)))) q_nil)) sc_l_due.nd)
      (qss_cons (qs_expr (q_app (q_var 3) (q_andV (q_isi .tuple (q_var 1) (by rfl) T.n_isinstance (by rfl) T.n_tuple (by decide +kernel)) (q_andV (q_cmp gtI (q_callB lenQ (by rfl) T.n_len (by decide +kernel) (q_cons (q_var 1) q_nil)) q_int) (q_oneV (q_callB allQ (by rfl) T.n_all (by decide +kernel) (q_cons (q_lc [("_law_own", 4)] (qi_items (q_var 1)) sc_l_due.nd (blkOk_by (N := N_l_due) (sc := defScope s_l_due) (by decide +kernel)) (fun _ _ _ _ _ => (qg_name 4 sc_l_due.nd)) (fun _ _ _ _ _ => (q_call (ok_l_is_pair T) (hr.mono (by omega)) (by rfl) T.g_l_is_pair T.F_l_is_pair.kp (b_l_is_pair T) (q_cons (q_var 4) q_nil) sp_pure))) q_nil)))))))
      (qss_one (qs_ret (q_op addQ (q_var 3) (q_lst (q_cons (q_andV (q_var 2) (q_oneV (q_chain ltI leI (q_ix (q_var 1) q_int) (q_ix (q_var 1) q_int) (q_var 0)))) q_nil))))))))
theorem b_p_is_tuple (T : Txt K mg a d) : Binds K (d 7) ["thing", "many"] [] := T.F_p_is_tuple.binds (ps := ["thing", "many"]) fun _ _ _ _ _ _ us hl => match us, hl with | [_, _], _ => rfl
theorem ok_p_is_tuple (T : Txt K mg a d) : FnOk P w K mg base CX0 1 (a 7) (d 7) ["thing", "many"] (spM ⟨K, cl⟩ f_p_is_tuple) :=
  fn_ok 2 2 (k := 0) T.F_p_is_tuple sc_p_is_tuple fun cdv A outer s H E hr =>
      (qss_one (qs_ret (q_andV (q_isi .tuple (q_var 0) (by rfl) T.n_isinstance (by rfl) T.n_tuple (by decide +kernel)) (q_oneV (q_cmp (eqQ hr) (q_callB lenQ (by rfl) T.n_len (by decide +kernel) (q_cons (q_var 0) q_nil)) (q_var 1))))))
theorem b_p_is_number (T : Txt K mg a d) : Binds K (d 8) ["thing", "least"] [] := T.F_p_is_number.binds (ps := ["thing", "least"]) fun _ _ _ _ _ _ us hl => match us, hl with | [_, _], _ => rfl
theorem ok_p_is_number (T : Txt K mg a d) : FnOk P w K mg base CX0 1 (a 8) (d 8) ["thing", "least"] (spM ⟨K, cl⟩ f_p_is_number) :=
  fn_ok 2 2 (k := 0) T.F_p_is_number sc_p_is_number fun cdv A outer s H E hr =>
      (qss_one (qs_ret (q_andV (q_isi .int (q_var 0) (by rfl) T.n_isinstance (by rfl) T.n_int (by decide +kernel)) (q_andV (q_notV (q_isi .bool (q_var 0) (by rfl) T.n_isinstance (by rfl) T.n_bool (by decide +kernel))) (q_oneV (q_cmp geI (q_var 0) (q_var 1)))))))
theorem b_p_is_limit (T : Txt K mg a d) : Binds K (d 9) ["thing"] [] := T.F_p_is_limit.binds (ps := ["thing"]) fun _ _ _ _ _ _ us hl => match us, hl with | [_], _ => rfl
theorem ok_p_is_limit (T : Txt K mg a d) : FnOk P w K mg base CX0 2 (a 9) (d 9) ["thing"] (spM ⟨K, cl⟩ f_p_is_limit) :=
  fn_ok 1 1 (k := 1) T.F_p_is_limit sc_p_is_limit fun cdv A outer s H E hr =>
      (qss_one (qs_ret (q_andV (q_call (ok_p_is_tuple T) (hr.mono (by omega)) (by rfl) T.g_p_is_tuple T.F_p_is_tuple.kp (b_p_is_tuple T) (q_cons (q_var 0) (q_cons q_int q_nil)) sp_pure) (q_andV (q_call (ok_p_is_number T) (hr.mono (by omega)) (by rfl) T.g_p_is_number T.F_p_is_number.kp (b_p_is_number T) (q_cons (q_ix (q_var 0) q_int) (q_cons q_int q_nil)) sp_pure) (q_andV (q_call (ok_p_is_number T) (hr.mono (by omega)) (by rfl) T.g_p_is_number T.F_p_is_number.kp (b_p_is_number T) (q_cons (q_ix (q_var 0) q_int) (q_cons q_int q_nil)) sp_pure) (q_oneV (q_cmp ltI (q_ix (q_var 0) q_int) (q_ix (q_var 0) q_int))))))))
theorem b_p_is_minute (T : Txt K mg a d) : Binds K (d 10) ["thing"] [] := T.F_p_is_minute.binds (ps := ["thing"]) fun _ _ _ _ _ _ us hl => match us, hl with | [_], _ => rfl
theorem ok_p_is_minute (T : Txt K mg a d) : FnOk P w K mg base CX0 2 (a 10) (d 10) ["thing"] (spM ⟨K, cl⟩ f_p_is_minute) :=
  fn_ok 1 1 (k := 1) T.F_p_is_minute sc_p_is_minute fun cdv A outer s H E hr =>
      (qss_one (qs_ret (q_andV (q_call (ok_p_is_tuple T) (hr.mono (by omega)) (by rfl) T.g_p_is_tuple T.F_p_is_tuple.kp (b_p_is_tuple T) (q_cons (q_var 0) (q_cons q_int q_nil)) sp_pure) (q_andV (q_call (ok_p_is_number T) (hr.mono (by omega)) (by rfl) T.g_p_is_number T.F_p_is_number.kp (b_p_is_number T) (q_cons (q_ix (q_var 0) q_int) (q_cons q_int q_nil)) sp_pure) (q_oneV (q_call (ok_p_is_number T) (hr.mono (by omega)) (by rfl) T.g_p_is_number T.F_p_is_number.kp (b_p_is_number T) (q_cons (q_ix (q_var 0) q_int) (q_cons q_int q_nil)) sp_pure))))))
theorem b_p_is_log (T : Txt K mg a d) : Binds K (d 11) ["thing"] [] := T.F_p_is_log.binds (ps := ["thing"]) fun _ _ _ _ _ _ us hl => match us, hl with | [_], _ => rfl
theorem ok_p_is_log (T : Txt K mg a d) : FnOk P w K mg base CX0 3 (a 11) (d 11) ["thing"] (spM ⟨K, cl⟩ f_p_is_log) :=
  fn_ok 2 1 (k := 2) T.F_p_is_log sc_p_is_log fun cdv A outer s H E hr =>
      (qss_one (qs_ret (q_andV (q_isi .tuple (q_var 0) (by rfl) T.n_isinstance (by rfl) T.n_tuple (by decide +kernel)) (q_andV (q_cmp gtI (q_callB lenQ (by rfl) T.n_len (by decide +kernel) (q_cons (q_var 0) q_nil)) q_int) (q_oneV (q_callB allQ (by rfl) T.n_all (by decide +kernel) (q_cons (q_lc [("part", 1)] (qi_items (q_var 0)) sc_p_is_log.nd (blkOk_by (N := N_p_is_log) (sc := defScope s_p_is_log) (by decide +kernel)) (fun _ _ _ _ _ => (qg_name 1 sc_p_is_log.nd)) (fun _ _ _ _ _ => (q_call (ok_p_is_minute T) (hr.mono (by omega)) (by rfl) T.g_p_is_minute T.F_p_is_minute.kp (b_p_is_minute T) (q_cons (q_var 1) q_nil) sp_pure))) q_nil)))))))
theorem b_p_is_stretch (T : Txt K mg a d) : Binds K (d 12) ["many", "thing"] [] := T.F_p_is_stretch.binds (ps := ["many", "thing"]) fun _ _ _ _ _ _ us hl => match us, hl with | [_, _], _ => rfl
theorem ok_p_is_stretch (T : Txt K mg a d) : FnOk P w K mg base CX0 2 (a 12) (d 12) ["many", "thing"] (spM ⟨K, cl⟩ f_p_is_stretch) :=
  fn_ok 2 2 (k := 1) T.F_p_is_stretch sc_p_is_stretch fun cdv A outer s H E hr =>
      (qss_cons (qs_if (q_w (q_or (q_not (q_test (q_call (ok_p_is_tuple T) (hr.mono (by omega)) (by rfl) T.g_p_is_tuple T.F_p_is_tuple.kp (b_p_is_tuple T) (q_cons (q_var 1) (q_cons q_int q_nil)) sp_pure))) (q_or (q_not (q_test (q_call (ok_p_is_number T) (hr.mono (by omega)) (by rfl) T.g_p_is_number T.F_p_is_number.kp (b_p_is_number T) (q_cons (q_ix (q_var 1) q_int) (q_cons q_int q_nil)) sp_pure))) (q_or1 (q_not (q_test (q_call (ok_p_is_number T) (hr.mono (by omega)) (by rfl) T.g_p_is_number T.F_p_is_number.kp (b_p_is_number T) (q_cons (q_ix (q_var 1) q_int) (q_cons q_int q_nil)) sp_pure))))))) (qss_one (qs_ret q_bl)) qss_nil)
      (qss_one (qs_ret (q_chain ltI leI (q_ix (q_var 1) q_int) (q_ix (q_var 1) q_int) (q_var 0)))))
theorem b_l_same (T : Txt K mg a d) : Binds K (d 13) ["_law_got", "_law_due_here"] [] := T.F_l_same.binds (ps := ["_law_got", "_law_due_here"]) fun _ _ _ _ _ _ us hl => match us, hl with | [_, _], _ => rfl
theorem ok_l_same (T : Txt K mg a d) (k : Nat) : FnOk P w K mg base CX0 (0 + k) (a 13) (d 13) ["_law_got", "_law_due_here"] (spM ⟨K, cl⟩ (f_l_same k)) := by
  induction k with
  | zero => exact fn_none
  | succ k ih =>
    exact fn_ok 4 2 (k := 0 + k) T.F_l_same sc_l_same fun cdv A outer s H E hr =>
      (qss_cons (qs_if (q_test (q_isi2 .list .tuple (q_var 1) (by rfl) T.n_isinstance (by rfl) T.n_list (by decide +kernel) (by rfl) T.n_tuple (by decide +kernel))) (qss_cons (qs_if (q_w (q_or (q_tcmp (neQ hr) (q_isi .list (q_var 0) (by rfl) T.n_isinstance (by rfl) T.n_list (by decide +kernel)) (q_isi .list (q_var 1) (by rfl) T.n_isinstance (by rfl) T.n_list (by decide +kernel))) (q_or1 (q_tcmp (neQ hr) (q_isi .tuple (q_var 0) (by rfl) T.n_isinstance (by rfl) T.n_tuple (by decide +kernel)) (q_isi .tuple (q_var 1) (by rfl) T.n_isinstance (by rfl) T.n_tuple (by decide +kernel)))))) (qss_one (qs_ret q_bl)) qss_nil)
      (qss_one (qs_ret (q_andV (q_cmp (eqQ hr) (q_callB lenQ (by rfl) T.n_len (by decide +kernel) (q_cons (q_var 0) q_nil)) (q_callB lenQ (by rfl) T.n_len (by decide +kernel) (q_cons (q_var 1) q_nil))) (q_oneV (q_callB allQ (by rfl) T.n_all (by decide +kernel) (q_cons (q_lc [("_law_mine", 2), ("_law_its", 3)] (qi_zip (q_cons (q_var 0) (q_cons (q_var 1) q_nil)) (by rfl) T.n_zip) sc_l_same.nd (blkOk_by (N := N_l_same) (sc := defScope s_l_same) (by decide +kernel)) (fun _ _ _ _ _ => (qg_tup 2 (qgs_cons (qg_name 2 sc_l_same.nd) (qgs_cons (qg_name 3 sc_l_same.nd) qgs_nil)))) (fun _ _ _ _ _ => (q_call ih (hr.mono (by omega)) (by rfl) T.g_l_same T.F_l_same.kp (b_l_same T) (q_cons (q_var 2) (q_cons (q_var 3) q_nil)) sp_pure))) q_nil))))))) qss_nil)
      (qss_cons (qs_if (q_w (q_or (q_tisN (q_var 1)) (q_or1 (q_test (q_isi2 .bool .str (q_var 1) (by rfl) T.n_isinstance (by rfl) T.n_bool (by decide +kernel) (by rfl) T.n_str (by decide +kernel)))))) (qss_one (qs_ret (q_andV (q_cmp (eqQ hr) (q_var 0) (q_var 1)) (q_andV (q_cmp (eqQ hr) (q_isi .bool (q_var 0) (by rfl) T.n_isinstance (by rfl) T.n_bool (by decide +kernel)) (q_isi .bool (q_var 1) (by rfl) T.n_isinstance (by rfl) T.n_bool (by decide +kernel))) (q_oneV (q_cmp (eqQ hr) (q_isN (q_var 0)) (q_isN (q_var 1)))))))) qss_nil)
      (qss_one (qs_ret (q_andV (q_isi .int (q_var 0) (by rfl) T.n_isinstance (by rfl) T.n_int (by decide +kernel)) (q_andV (q_notV (q_isi .bool (q_var 0) (by rfl) T.n_isinstance (by rfl) T.n_bool (by decide +kernel))) (q_oneV (q_cmp (eqQ hr) (q_var 0) (q_var 1)))))))))
theorem b_l_asked_right (T : Txt K mg a d) : Binds K (d 14) ["_law_many_so", "_law_thing_so"] [] := T.F_l_asked_right.binds (ps := ["_law_many_so", "_law_thing_so"]) fun _ _ _ _ _ _ us hl => match us, hl with | [_, _], _ => rfl
theorem ok_l_asked_right (T : Txt K mg a d) : FnOk P w K mg base CX0 32 (a 14) (d 14) ["_law_many_so", "_law_thing_so"] (spM ⟨K, cl⟩ f_l_asked_right) :=
  fn_ok 5 2 (k := 31) T.F_l_asked_right sc_l_asked_right fun cdv A outer s H E hr =>
      (qss_cons (qs_set 2 (q_lst (q_cons (q_call (ok_p_is_limit T) (hr.mono (by omega)) (by rfl) T.g_p_is_limit T.F_p_is_limit.kp (b_p_is_limit T) (q_cons (q_var 1) q_nil) sp_pure) (q_cons (q_call (ok_p_is_log T) (hr.mono (by omega)) (by rfl) T.g_p_is_log T.F_p_is_log.kp (b_p_is_log T) (q_cons (q_var 1) q_nil) sp_pure) (q_cons (q_call (ok_p_is_stretch T) (hr.mono (by omega)) (by rfl) T.g_p_is_stretch T.F_p_is_stretch.kp (b_p_is_stretch T) (q_cons (q_var 0) (q_cons (q_var 1) q_nil)) sp_pure) q_nil)))) sc_l_asked_right.nd)
      (qss_cons (qs_set 3 (q_lst (q_cons (q_callK0 (ok_p_is_limit T) (hr.mono (by omega)) (by rfl) T.g_p_is_limit T.F_p_is_limit.kp (kbn T.F_p_is_limit 0 [0] (ks := ["thing"]) (ps := ["thing"]) fun _ _ _ _ _ _ us ws h1 h2 => match us, ws, h1, h2 with | [], [_], _, _ => rfl) (qk_cons (q_var 1) qk_nil) sp_pure) (q_cons (q_callK0 (ok_p_is_log T) (hr.mono (by omega)) (by rfl) T.g_p_is_log T.F_p_is_log.kp (kbn T.F_p_is_log 0 [0] (ks := ["thing"]) (ps := ["thing"]) fun _ _ _ _ _ _ us ws h1 h2 => match us, ws, h1, h2 with | [], [_], _, _ => rfl) (qk_cons (q_var 1) qk_nil) sp_pure) (q_cons (q_callK0 (ok_p_is_stretch T) (hr.mono (by omega)) (by rfl) T.g_p_is_stretch T.F_p_is_stretch.kp (kbn T.F_p_is_stretch 0 [1, 0] (ks := ["thing", "many"]) (ps := ["many", "thing"]) fun _ _ _ _ _ _ us ws h1 h2 => match us, ws, h1, h2 with | [], [_, _], _, _ => rfl) (qk_cons (q_var 1) (qk_cons (q_var 0) qk_nil)) sp_pure) q_nil)))) sc_l_asked_right.nd)
      (qss_cons (qs_set 4 (q_call (ok_l_due T) (hr.mono (by omega)) (by rfl) T.g_l_due T.F_l_due.kp (b_l_due T) (q_cons (q_var 0) (q_cons (q_var 1) q_nil)) sp_pure) sc_l_asked_right.nd)
      (qss_one (qs_ret (q_andV (q_call (ok_l_same T 30) (hr.mono (by omega)) (by rfl) T.g_l_same T.F_l_same.kp (b_l_same T) (q_cons (q_var 2) (q_cons (q_var 4) q_nil)) sp_pure) (q_oneV (q_call (ok_l_same T 30) (hr.mono (by omega)) (by rfl) T.g_l_same T.F_l_same.kp (b_l_same T) (q_cons (q_var 3) (q_cons (q_var 4) q_nil)) sp_pure))))))))
theorem b_l_by_hand_right (T : Txt K mg a d) : Binds K (d 15) [] [] := T.F_l_by_hand_right.binds (ps := []) fun _ _ _ _ _ _ us hl => match us, hl with | [], _ => rfl
theorem ok_l_by_hand_right (T : Txt K mg a d) : FnOk P w K mg base CX0 33 (a 15) (d 15) [] (spM ⟨K, cl⟩ f_l_by_hand_right) :=
  fn_ok 2 0 (k := 32) T.F_l_by_hand_right sc_l_by_hand_right fun cdv A outer s H E hr =>
      (qss_cons (qs_set 0 (q_lst (q_cons (q_tup (q_cons q_int (q_cons q_int q_nil))) (q_cons (q_tup (q_cons q_int (q_cons q_int q_nil))) (q_cons (q_tup (q_cons q_int (q_cons q_int q_nil))) (q_cons (q_tup (q_cons q_int (q_cons q_int q_nil))) (q_cons (q_tup (q_cons q_int (q_cons q_int (q_cons q_int q_nil)))) (q_cons (q_tup (q_cons q_int q_nil)) (q_cons (q_lst (q_cons q_int (q_cons q_int q_nil))) (q_cons (q_tup (q_cons q_bl (q_cons q_int q_nil))) (q_cons (q_tup (q_cons q_int (q_cons q_non q_nil))) (q_cons q_str (q_cons (q_tup (q_cons q_int (q_cons q_int q_nil))) (q_cons (q_tup (q_cons q_int (q_cons q_int q_nil))) q_nil))))))))))))) sc_l_by_hand_right.nd)
      (qss_cons (qs_set 0 (q_op addQ (q_var 0) (q_lst (q_cons (q_tup (q_cons q_int (q_cons q_int q_nil))) (q_cons (q_tup (q_cons (q_neg q_int) (q_cons q_int q_nil))) (q_cons (q_tup (q_cons (q_tup (q_cons q_int (q_cons q_int q_nil))) q_nil)) (q_cons (q_tup (q_cons (q_tup (q_cons q_int (q_cons q_int q_nil))) (q_cons (q_tup (q_cons q_int (q_cons (q_neg q_int) q_nil))) q_nil))) (q_cons (q_tup q_nil) (q_cons (q_lst (q_cons (q_tup (q_cons q_int (q_cons q_int q_nil))) q_nil)) (q_cons (q_tup (q_cons (q_tup (q_cons q_int (q_cons q_bl q_nil))) q_nil)) (q_cons (q_tup (q_cons (q_tup (q_cons q_int (q_cons q_int q_nil))) (q_cons (q_lst (q_cons q_int (q_cons q_int q_nil))) q_nil))) (q_cons q_int q_nil))))))))))) sc_l_by_hand_right.nd)
      (qss_cons (qs_set 0 (q_op addQ (q_var 0) (q_lst (q_cons (q_tup (q_cons (q_tup (q_cons q_int (q_cons q_int q_nil))) (q_cons (q_tup (q_cons q_int (q_cons (q_op powI q_int q_int) q_nil))) q_nil))) (q_cons (q_tup (q_cons (q_op powI q_int q_int) (q_cons (q_op powI q_int q_int) q_nil))) (q_cons (q_tup (q_cons (q_tup (q_cons q_int (q_cons q_int (q_cons q_int q_nil)))) q_nil)) (q_cons q_non (q_cons q_bl (q_cons (q_tup (q_cons q_int (q_cons q_str q_nil))) (q_cons (q_tup (q_cons (q_tup q_nil) (q_cons (q_tup q_nil) q_nil))) q_nil))))))))) sc_l_by_hand_right.nd)
      (qss_one (qs_ret (q_callB allQ (by rfl) T.n_all (by decide +kernel) (q_cons (q_lc [("_law_thing_so", 1)] (qi_items (q_var 0)) sc_l_by_hand_right.nd (blkOk_by (N := N_l_by_hand_right) (sc := defScope s_l_by_hand_right) (by decide +kernel)) (fun _ _ _ _ _ => (qg_name 1 sc_l_by_hand_right.nd)) (fun _ _ _ _ _ => (q_call (ok_l_asked_right T) (hr.mono (by omega)) (by rfl) T.g_l_asked_right T.F_l_asked_right.kp (b_l_asked_right T) (q_cons q_int (q_cons (q_var 1) q_nil)) sp_pure))) q_nil)))))))
theorem b_l_limit (T : Txt K mg a d) : Binds K (d 16) ["_law_box_here"] [] := T.F_l_limit.binds (ps := ["_law_box_here"]) fun _ _ _ _ _ _ us hl => match us, hl with | [_], _ => rfl
theorem ok_l_limit (T : Txt K mg a d) : FnOk P w K mg base CX0 3 (a 16) (d 16) ["_law_box_here"] (spM ⟨K, cl⟩ f_l_limit) :=
  fn_ok 2 1 (k := 2) T.F_l_limit sc_l_limit fun cdv A outer s H E hr =>
      (qss_cons (qs_set 1 (q_call (ok_l_take T) (hr.mono (by omega)) (by rfl) T.g_l_take T.F_l_take.kp (b_l_take T) (q_cons (q_var 0) (q_cons q_int q_nil)) sp_call) sc_l_limit.nd)
      (qss_cons (qs_if (q_tcmp (eqQ hr) (q_var 1) q_int) (qss_one (qs_ret (q_tup (q_cons (q_op addQ q_int (q_call (ok_l_take T) (hr.mono (by omega)) (by rfl) T.g_l_take T.F_l_take.kp (b_l_take T) (q_cons (q_var 0) (q_cons (q_op powI q_int q_int) q_nil)) sp_call)) (q_cons (q_op addQ (q_op addQ (q_op powI q_int q_int) q_int) (q_call (ok_l_take T) (hr.mono (by omega)) (by rfl) T.g_l_take T.F_l_take.kp (b_l_take T) (q_cons (q_var 0) (q_cons (q_op powI q_int q_int) q_nil)) sp_call)) q_nil))))) qss_nil)
      (qss_cons (qs_if (q_tcmp (eqQ hr) (q_var 1) q_int) (qss_one (qs_ret (q_tup (q_cons (q_op addQ q_int (q_op mulQ (q_call (ok_l_take T) (hr.mono (by omega)) (by rfl) T.g_l_take T.F_l_take.kp (b_l_take T) (q_cons (q_var 0) (q_cons q_int q_nil)) sp_call) q_int)) (q_cons q_int q_nil))))) qss_nil)
      (qss_one (qs_ret (q_call (ok_l_of T) (hr.mono (by omega)) (by rfl) T.g_l_of T.F_l_of.kp (b_l_of T) (q_cons (q_var 0) (q_cons (q_lst (q_cons (q_tup (q_cons q_int (q_cons q_int q_nil))) (q_cons (q_tup (q_cons q_int (q_cons q_int q_nil))) (q_cons (q_tup (q_cons q_int (q_cons q_int q_nil))) (q_cons (q_tup (q_cons q_int (q_cons q_int q_nil))) (q_cons (q_tup (q_cons q_int (q_cons q_int q_nil))) (q_cons (q_tup (q_cons q_int (q_cons q_int q_nil))) q_nil))))))) q_nil)) sp_call))))))
theorem b_l_number (T : Txt K mg a d) : Binds K (d 17) ["_law_box_here"] [] := T.F_l_number.binds (ps := ["_law_box_here"]) fun _ _ _ _ _ _ us hl => match us, hl with | [_], _ => rfl
theorem ok_l_number (T : Txt K mg a d) : FnOk P w K mg base CX0 2 (a 17) (d 17) ["_law_box_here"] (spM ⟨K, cl⟩ f_l_number) :=
  fn_ok 2 1 (k := 1) T.F_l_number sc_l_number fun cdv A outer s H E hr =>
      (qss_cons (qs_set 1 (q_call (ok_l_take T) (hr.mono (by omega)) (by rfl) T.g_l_take T.F_l_take.kp (b_l_take T) (q_cons (q_var 0) (q_cons q_int q_nil)) sp_call) sc_l_number.nd)
      (qss_cons (qs_if (q_tcmp ltI (q_var 1) q_int) (qss_one (qs_ret q_int)) qss_nil)
      (qss_cons (qs_if (q_tcmp ltI (q_var 1) q_int) (qss_one (qs_ret (q_op addQ q_int (q_call (ok_l_take T) (hr.mono (by omega)) (by rfl) T.g_l_take T.F_l_take.kp (b_l_take T) (q_cons (q_var 0) (q_cons q_int q_nil)) sp_call)))) qss_nil)
      (qss_one (qs_ret (q_ifE (q_tcmp (eqQ hr) (q_var 1) q_int) (q_call (ok_l_take T) (hr.mono (by omega)) (by rfl) T.g_l_take T.F_l_take.kp (b_l_take T) (q_cons (q_var 0) (q_cons q_int q_nil)) sp_call) (q_call (ok_l_take T) (hr.mono (by omega)) (by rfl) T.g_l_take T.F_l_take.kp (b_l_take T) (q_cons (q_var 0) (q_cons (q_op powI q_int q_int) q_nil)) sp_call)))))))
theorem b_l_log (T : Txt K mg a d) : Binds K (d 18) ["_law_box_here", "_law_many_so"] [] := T.F_l_log.binds (ps := ["_law_box_here", "_law_many_so"]) fun _ _ _ _ _ _ us hl => match us, hl with | [_, _], _ => rfl
theorem ok_l_log (T : Txt K mg a d) : FnOk P w K mg base CX0 3 (a 18) (d 18) ["_law_box_here", "_law_many_so"] (spM ⟨K, cl⟩ f_l_log) :=
  fn_ok 3 2 (k := 2) T.F_l_log sc_l_log fun cdv A outer s H E hr =>
      (qss_one (qs_ret (q_callTy tupleQ (by rfl) T.n_tuple (by decide +kernel) (q_cons (q_lc [("_law_turn", 2)] (qi_range1 (q_var 1) (by rfl) T.n_range) sc_l_log.nd (blkOk_by (N := N_l_log) (sc := defScope s_l_log) (by decide +kernel)) (fun _ _ _ _ _ => (qg_name 2 sc_l_log.nd)) (fun _ _ _ _ _ => (q_tup (q_cons (q_call (ok_l_number T) (hr.mono (by omega)) (by rfl) T.g_l_number T.F_l_number.kp (b_l_number T) (q_cons (q_var 0) q_nil) sp_call) (q_cons (q_call (ok_l_number T) (hr.mono (by omega)) (by rfl) T.g_l_number T.F_l_number.kp (b_l_number T) (q_cons (q_var 0) q_nil) sp_call) q_nil))))) q_nil))))
theorem b_l_stretch (T : Txt K mg a d) : Binds K (d 19) ["_law_box_here", "_law_many_so"] [] := T.F_l_stretch.binds (ps := ["_law_box_here", "_law_many_so"]) fun _ _ _ _ _ _ us hl => match us, hl with | [_, _], _ => rfl
theorem ok_l_stretch (T : Txt K mg a d) : FnOk P w K mg base CX0 2 (a 19) (d 19) ["_law_box_here", "_law_many_so"] (spM ⟨K, cl⟩ f_l_stretch) :=
  fn_ok 3 2 (k := 1) T.F_l_stretch sc_l_stretch fun cdv A outer s H E hr =>
      (qss_cons (qs_if (q_tcmp (eqQ hr) (q_call (ok_l_take T) (hr.mono (by omega)) (by rfl) T.g_l_take T.F_l_take.kp (b_l_take T) (q_cons (q_var 0) (q_cons q_int q_nil)) sp_call) q_int) (qss_one (qs_ret (q_tup (q_cons q_int (q_cons (q_var 1) q_nil))))) qss_nil)
      (qss_cons (qs_set 2 (q_call (ok_l_take T) (hr.mono (by omega)) (by rfl) T.g_l_take T.F_l_take.kp (b_l_take T) (q_cons (q_var 0) (q_cons (q_var 1) q_nil)) sp_call) sc_l_stretch.nd)
      (qss_one (qs_ret (q_tup (q_cons (q_var 2) (q_cons (q_op addQ (q_op addQ (q_var 2) q_int) (q_call (ok_l_take T) (hr.mono (by omega)) (by rfl) T.g_l_take T.F_l_take.kp (b_l_take T) (q_cons (q_var 0) (q_cons (q_op subI (q_var 1) (q_var 2)) q_nil)) sp_call)) q_nil)))))))
theorem b_l_bent (T : Txt K mg a d) : Binds K (d 20) ["_law_box_here", "_law_thing_so"] [] := T.F_l_bent.binds (ps := ["_law_box_here", "_law_thing_so"]) fun _ _ _ _ _ _ us hl => match us, hl with | [_, _], _ => rfl
theorem ok_l_bent (T : Txt K mg a d) (k : Nat) : FnOk P w K mg base CX0 (1 + k) (a 20) (d 20) ["_law_box_here", "_law_thing_so"] (spM ⟨K, cl⟩ (f_l_bent k)) := by
  induction k with
  | zero => exact fn_none
  | succ k ih =>
    exact fn_ok 5 2 (k := 1 + k) T.F_l_bent sc_l_bent fun cdv A outer s H E hr =>
      (qss_cons (qs_if (q_w (q_and (q_test (q_isi .tuple (q_var 1) (by rfl) T.n_isinstance (by rfl) T.n_tuple (by decide +kernel))) (q_and (q_tcmp gtI (q_callB lenQ (by rfl) T.n_len (by decide +kernel) (q_cons (q_var 1) q_nil)) q_int) (q_and1 (q_tcmp gtI (q_call (ok_l_take T) (hr.mono (by omega)) (by rfl) T.g_l_take T.F_l_take.kp (b_l_take T) (q_cons (q_var 0) (q_cons q_int q_nil)) sp_call) q_int))))) (qss_cons (qs_set 2 (q_call (ok_l_take T) (hr.mono (by omega)) (by rfl) T.g_l_take T.F_l_take.kp (b_l_take T) (q_cons (q_var 0) (q_cons (q_callB lenQ (by rfl) T.n_len (by decide +kernel) (q_cons (q_var 1) q_nil)) q_nil)) sp_call) sc_l_bent.nd)
      (qss_one (qs_ret (q_op addQ (q_op addQ (q_sl (q_var 1) q_noO (q_soO (q_var 2))) (q_tup (q_cons (q_call ih (hr.mono (by omega)) (by rfl) T.g_l_bent T.F_l_bent.kp (b_l_bent T) (q_cons (q_var 0) (q_cons (q_ix (q_var 1) (q_var 2)) q_nil)) sp_call) q_nil))) (q_sl (q_var 1) (q_soO (q_op addQ (q_var 2) q_int)) q_noO))))) qss_nil)
      (qss_cons (qs_set 3 (q_lst (q_cons q_non (q_cons q_bl (q_cons q_bl (q_cons q_str (q_cons q_str (q_cons (q_neg q_int) (q_cons q_int (q_cons (q_tup q_nil) (q_cons (q_lst q_nil) (q_cons (q_tup (q_cons q_int q_nil)) (q_cons (q_tup (q_cons q_int (q_cons q_int (q_cons q_int q_nil)))) (q_cons (q_lst (q_cons q_int (q_cons q_int q_nil))) (q_cons (q_tup (q_cons (q_tup (q_cons q_int (q_cons q_int q_nil))) q_nil)) (q_cons (q_op powI q_int q_int) q_nil))))))))))))))) sc_l_bent.nd)
      (qss_cons (qs_set 4 (q_call (ok_l_take T) (hr.mono (by omega)) (by rfl) T.g_l_take T.F_l_take.kp (b_l_take T) (q_cons (q_var 0) (q_cons (q_op addQ (q_callB lenQ (by rfl) T.n_len (by decide +kernel) (q_cons (q_var 3) q_nil)) q_int) q_nil)) sp_call) sc_l_bent.nd)
      (qss_cons (qs_if (q_tcmp ltI (q_var 4) (q_callB lenQ (by rfl) T.n_len (by decide +kernel) (q_cons (q_var 3) q_nil))) (qss_one (qs_ret (q_ix (q_var 3) (q_var 4)))) qss_nil)
      (qss_cons (qs_if (q_w (q_and (q_test (q_isi .tuple (q_var 1) (by rfl) T.n_isinstance (by rfl) T.n_tuple (by decide +kernel))) (q_and1 (q_tcmp ltI (q_var 4) (q_op addQ (q_callB lenQ (by rfl) T.n_len (by decide +kernel) (q_cons (q_var 3) q_nil)) q_int))))) (qss_one (qs_ret (q_ifE (q_tcmp (eqQ hr) (q_var 4) (q_callB lenQ (by rfl) T.n_len (by decide +kernel) (q_cons (q_var 3) q_nil))) (q_callTy listQ (by rfl) T.n_list (by decide +kernel) (q_cons (q_var 1) q_nil)) (q_op addQ (q_var 1) (q_sl (q_var 1) q_noO (q_soO q_int)))))) qss_nil)
      (qss_one (qs_ret (q_ifE (q_test (q_call (ok_l_from T) (hr.mono (by omega)) (by rfl) T.g_l_from T.F_l_from.kp (b_l_from T) (q_cons (q_var 1) (q_cons q_int q_nil)) sp_pure)) (q_op subI (q_var 1) q_int) (q_tup (q_cons (q_var 1) q_nil))))))))))
theorem b_l_right (T : Txt K mg a d) : Binds K (d 21) ["_law_box_here"] [] := T.F_l_right.binds (ps := ["_law_box_here"]) fun _ _ _ _ _ _ us hl => match us, hl with | [_], _ => rfl
theorem ok_l_right (T : Txt K mg a d) : FnOk P w K mg base CX0 34 (a 21) (d 21) ["_law_box_here"] (spM ⟨K, cl⟩ f_l_right) :=
  fn_ok 5 1 (k := 33) T.F_l_right sc_l_right fun cdv A outer s H E hr =>
      (qss_cons (qs_if (q_not (q_test (q_call0 (ok_l_by_hand_right T) (hr.mono (by omega)) (by rfl) T.g_l_by_hand_right T.F_l_by_hand_right.kp (b_l_by_hand_right T) sp_pure))) (qss_one (qs_ret q_bl)) qss_nil)
      (qss_cons (qs_set 1 (q_op addQ q_int (q_call (ok_l_take T) (hr.mono (by omega)) (by rfl) T.g_l_take T.F_l_take.kp (b_l_take T) (q_cons (q_var 0) (q_cons q_int q_nil)) sp_call)) sc_l_right.nd)
      (qss_cons (qs_set 2 (q_lst (q_cons (q_call (ok_l_limit T) (hr.mono (by omega)) (by rfl) T.g_l_limit T.F_l_limit.kp (b_l_limit T) (q_cons (q_var 0) q_nil) sp_call) (q_cons (q_call (ok_l_log T) (hr.mono (by omega)) (by rfl) T.g_l_log T.F_l_log.kp (b_l_log T) (q_cons (q_var 0) (q_cons (q_var 1) q_nil)) sp_call) (q_cons (q_call (ok_l_stretch T) (hr.mono (by omega)) (by rfl) T.g_l_stretch T.F_l_stretch.kp (b_l_stretch T) (q_cons (q_var 0) (q_cons (q_var 1) q_nil)) sp_call) q_nil)))) sc_l_right.nd)
      (qss_cons (qs_set 3 (q_call (ok_l_of T) (hr.mono (by omega)) (by rfl) T.g_l_of T.F_l_of.kp (b_l_of T) (q_cons (q_var 0) (q_cons (q_var 2) q_nil)) sp_call) sc_l_right.nd)
      (qss_cons (qs_for (qi_range1 q_int (by rfl) T.n_range) (qg_name 4 sc_l_right.nd) (qss_cons (qs_if (q_w (q_or (q_not (q_test (q_call (ok_l_asked_right T) (hr.mono (by omega)) (by rfl) T.g_l_asked_right T.F_l_asked_right.kp (b_l_asked_right T) (q_cons (q_var 1) (q_cons (q_var 3) q_nil)) sp_pure))) (q_or1 (q_not (q_test (q_call (ok_l_asked_right T) (hr.mono (by omega)) (by rfl) T.g_l_asked_right T.F_l_asked_right.kp (b_l_asked_right T) (q_cons (q_op addQ q_int (q_call (ok_l_take T) (hr.mono (by omega)) (by rfl) T.g_l_take T.F_l_take.kp (b_l_take T) (q_cons (q_var 0) (q_cons q_int q_nil)) sp_call)) (q_cons (q_var 3) q_nil)) sp_pure)))))) (qss_one (qs_ret q_bl)) qss_nil)
      (qss_one (qs_set 3 (q_call (ok_l_bent T 30) (hr.mono (by omega)) (by rfl) T.g_l_bent T.F_l_bent.kp (b_l_bent T) (q_cons (q_var 0) (q_cons (q_var 3) q_nil)) sp_call) sc_l_right.nd))))
      (qss_one (qs_ret q_bl)))))))
theorem b_l_law (T : Txt K mg a d) : Binds K (d 22) ["_law_script"] [] := T.F_l_law.binds (ps := ["_law_script"]) fun _ _ _ _ _ _ us hl => match us, hl with | [_], _ => rfl
theorem ok_l_law (T : Txt K mg a d) : FnOk P w K mg base CX0 35 (a 22) (d 22) ["_law_script"] (spM ⟨K, cl⟩ f_l_law) :=
  fn_ok 5 1 (k := 34) T.F_l_law sc_l_law fun cdv A outer s H E hr =>
      (qss_cons (qs_set 1 (q_call (ok_l_cells T) (hr.mono (by omega)) (by rfl) T.g_l_cells T.F_l_cells.kp (b_l_cells T) (q_cons (q_var 0) (q_cons q_int q_nil)) sp_pure) sc_l_law.nd)
      (qss_cons (qs_for (qi_range1 (q_callB lenQ (by rfl) T.n_len (by decide +kernel) (q_cons (q_var 1) q_nil)) (by rfl) T.n_range) (qg_name 2 sc_l_law.nd) (qss_cons (qs_set 3 (q_call (ok_l_box T) (hr.mono (by omega)) (by rfl) T.g_l_box T.F_l_box.kp (b_l_box T) (q_cons (q_var 1) (q_cons (q_var 2) q_nil)) sp_call) sc_l_law.nd)
      (qss_one (qs_if (q_not (q_test (q_callB allQ (by rfl) T.n_all (by decide +kernel) (q_cons (q_lc [("_law_turn", 4)] (qi_range1 q_int (by rfl) T.n_range) sc_l_law.nd (blkOk_by (N := N_l_law) (sc := defScope s_l_law) (by decide +kernel)) (fun _ _ _ _ _ => (qg_name 4 sc_l_law.nd)) (fun _ _ _ _ _ => (q_call (ok_l_right T) (hr.mono (by omega)) (by rfl) T.g_l_right T.F_l_right.kp (b_l_right T) (q_cons (q_var 3) q_nil) sp_call))) q_nil)))) (qss_one (qs_ret q_bl)) qss_nil))))
      (qss_one (qs_ret q_bl))))
end
theorem all_mk {l : PySem.W.OpenLaw} {w : World} {K : PySem.W.Frag} {h : Heap} {mg : Str → Option Value} {fa : Addr} (X : K.In h) (G : h.Ns mainGlobals mg) (hfa : mg "law" = some (.ref fa))
    {f0 : Addr} {od0 an0 : Option Addr} {sl0 : Array (Option Value)} {oc0 kV0 dc0 pm0 cd0 ct0 : Value}
    (a0 : PySem.W.nsIn K mainGlobals "_law_cells" = some (some (.ref f0))) (l0 : K.lookup f0 = some ⟨oc0, od0, .func (PySem.W.fnOf "_law_cells" "_law_cells" (defArgs s_l_cells) (defBody s_l_cells) (defScope s_l_cells) .none kV0 dc0 pm0 an0 cd0 ct0), sl0⟩) (c0 : PySem.W.codeIn K cd0 "_law_cells" = true) (k0 : PySem.W.keepIn K (.ref f0) = true)
    {f1 : Addr} {od1 an1 : Option Addr} {sl1 : Array (Option Value)} {oc1 kV1 dc1 pm1 cd1 ct1 : Value}
    (a1 : PySem.W.nsIn K mainGlobals "_law_box" = some (some (.ref f1))) (l1 : K.lookup f1 = some ⟨oc1, od1, .func (PySem.W.fnOf "_law_box" "_law_box" (defArgs s_l_box) (defBody s_l_box) (defScope s_l_box) .none kV1 dc1 pm1 an1 cd1 ct1), sl1⟩) (c1 : PySem.W.codeIn K cd1 "_law_box" = true) (k1 : PySem.W.keepIn K (.ref f1) = true)
    {f2 : Addr} {od2 an2 : Option Addr} {sl2 : Array (Option Value)} {oc2 kV2 dc2 pm2 cd2 ct2 : Value}
    (a2 : PySem.W.nsIn K mainGlobals "_law_take" = some (some (.ref f2))) (l2 : K.lookup f2 = some ⟨oc2, od2, .func (PySem.W.fnOf "_law_take" "_law_take" (defArgs s_l_take) (defBody s_l_take) (defScope s_l_take) .none kV2 dc2 pm2 an2 cd2 ct2), sl2⟩) (c2 : PySem.W.codeIn K cd2 "_law_take" = true) (k2 : PySem.W.keepIn K (.ref f2) = true)
    {f3 : Addr} {od3 an3 : Option Addr} {sl3 : Array (Option Value)} {oc3 kV3 dc3 pm3 cd3 ct3 : Value}
    (a3 : PySem.W.nsIn K mainGlobals "_law_of" = some (some (.ref f3))) (l3 : K.lookup f3 = some ⟨oc3, od3, .func (PySem.W.fnOf "_law_of" "_law_of" (defArgs s_l_of) (defBody s_l_of) (defScope s_l_of) .none kV3 dc3 pm3 an3 cd3 ct3), sl3⟩) (c3 : PySem.W.codeIn K cd3 "_law_of" = true) (k3 : PySem.W.keepIn K (.ref f3) = true)
    {f4 : Addr} {od4 an4 : Option Addr} {sl4 : Array (Option Value)} {oc4 kV4 dc4 pm4 cd4 ct4 : Value}
    (a4 : PySem.W.nsIn K mainGlobals "_law_from" = some (some (.ref f4))) (l4 : K.lookup f4 = some ⟨oc4, od4, .func (PySem.W.fnOf "_law_from" "_law_from" (defArgs s_l_from) (defBody s_l_from) (defScope s_l_from) .none kV4 dc4 pm4 an4 cd4 ct4), sl4⟩) (c4 : PySem.W.codeIn K cd4 "_law_from" = true) (k4 : PySem.W.keepIn K (.ref f4) = true)
    {f5 : Addr} {od5 an5 : Option Addr} {sl5 : Array (Option Value)} {oc5 kV5 dc5 pm5 cd5 ct5 : Value}
    (a5 : PySem.W.nsIn K mainGlobals "_law_is_pair" = some (some (.ref f5))) (l5 : K.lookup f5 = some ⟨oc5, od5, .func (PySem.W.fnOf "_law_is_pair" "_law_is_pair" (defArgs s_l_is_pair) (defBody s_l_is_pair) (defScope s_l_is_pair) .none kV5 dc5 pm5 an5 cd5 ct5), sl5⟩) (c5 : PySem.W.codeIn K cd5 "_law_is_pair" = true) (k5 : PySem.W.keepIn K (.ref f5) = true)
    {f6 : Addr} {od6 an6 : Option Addr} {sl6 : Array (Option Value)} {oc6 kV6 dc6 pm6 cd6 ct6 : Value}
    (a6 : PySem.W.nsIn K mainGlobals "_law_due" = some (some (.ref f6))) (l6 : K.lookup f6 = some ⟨oc6, od6, .func (PySem.W.fnOf "_law_due" "_law_due" (defArgs s_l_due) (defBody s_l_due) (defScope s_l_due) .none kV6 dc6 pm6 an6 cd6 ct6), sl6⟩) (c6 : PySem.W.codeIn K cd6 "_law_due" = true) (k6 : PySem.W.keepIn K (.ref f6) = true)
    {f7 : Addr} {od7 an7 : Option Addr} {sl7 : Array (Option Value)} {oc7 kV7 dc7 pm7 cd7 ct7 : Value}
    (a7 : PySem.W.nsIn K mainGlobals "is_tuple" = some (some (.ref f7))) (l7 : K.lookup f7 = some ⟨oc7, od7, .func (PySem.W.fnOf "is_tuple" "is_tuple" (defArgs s_p_is_tuple) (defBody s_p_is_tuple) (defScope s_p_is_tuple) .none kV7 dc7 pm7 an7 cd7 ct7), sl7⟩) (c7 : PySem.W.codeIn K cd7 "is_tuple" = true) (k7 : PySem.W.keepIn K (.ref f7) = true)
    {f8 : Addr} {od8 an8 : Option Addr} {sl8 : Array (Option Value)} {oc8 kV8 dc8 pm8 cd8 ct8 : Value}
    (a8 : PySem.W.nsIn K mainGlobals "is_number" = some (some (.ref f8))) (l8 : K.lookup f8 = some ⟨oc8, od8, .func (PySem.W.fnOf "is_number" "is_number" (defArgs s_p_is_number) (defBody s_p_is_number) (defScope s_p_is_number) .none kV8 dc8 pm8 an8 cd8 ct8), sl8⟩) (c8 : PySem.W.codeIn K cd8 "is_number" = true) (k8 : PySem.W.keepIn K (.ref f8) = true)
    {f9 : Addr} {od9 an9 : Option Addr} {sl9 : Array (Option Value)} {oc9 kV9 dc9 pm9 cd9 ct9 : Value}
    (a9 : PySem.W.nsIn K mainGlobals "is_limit" = some (some (.ref f9))) (l9 : K.lookup f9 = some ⟨oc9, od9, .func (PySem.W.fnOf "is_limit" "is_limit" (defArgs s_p_is_limit) (defBody s_p_is_limit) (defScope s_p_is_limit) .none kV9 dc9 pm9 an9 cd9 ct9), sl9⟩) (c9 : PySem.W.codeIn K cd9 "is_limit" = true) (k9 : PySem.W.keepIn K (.ref f9) = true)
    {f10 : Addr} {od10 an10 : Option Addr} {sl10 : Array (Option Value)} {oc10 kV10 dc10 pm10 cd10 ct10 : Value}
    (a10 : PySem.W.nsIn K mainGlobals "is_minute" = some (some (.ref f10))) (l10 : K.lookup f10 = some ⟨oc10, od10, .func (PySem.W.fnOf "is_minute" "is_minute" (defArgs s_p_is_minute) (defBody s_p_is_minute) (defScope s_p_is_minute) .none kV10 dc10 pm10 an10 cd10 ct10), sl10⟩) (c10 : PySem.W.codeIn K cd10 "is_minute" = true) (k10 : PySem.W.keepIn K (.ref f10) = true)
    {f11 : Addr} {od11 an11 : Option Addr} {sl11 : Array (Option Value)} {oc11 kV11 dc11 pm11 cd11 ct11 : Value}
    (a11 : PySem.W.nsIn K mainGlobals "is_log" = some (some (.ref f11))) (l11 : K.lookup f11 = some ⟨oc11, od11, .func (PySem.W.fnOf "is_log" "is_log" (defArgs s_p_is_log) (defBody s_p_is_log) (defScope s_p_is_log) .none kV11 dc11 pm11 an11 cd11 ct11), sl11⟩) (c11 : PySem.W.codeIn K cd11 "is_log" = true) (k11 : PySem.W.keepIn K (.ref f11) = true)
    {f12 : Addr} {od12 an12 : Option Addr} {sl12 : Array (Option Value)} {oc12 kV12 dc12 pm12 cd12 ct12 : Value}
    (a12 : PySem.W.nsIn K mainGlobals "is_stretch" = some (some (.ref f12))) (l12 : K.lookup f12 = some ⟨oc12, od12, .func (PySem.W.fnOf "is_stretch" "is_stretch" (defArgs s_p_is_stretch) (defBody s_p_is_stretch) (defScope s_p_is_stretch) .none kV12 dc12 pm12 an12 cd12 ct12), sl12⟩) (c12 : PySem.W.codeIn K cd12 "is_stretch" = true) (k12 : PySem.W.keepIn K (.ref f12) = true)
    {f13 : Addr} {od13 an13 : Option Addr} {sl13 : Array (Option Value)} {oc13 kV13 dc13 pm13 cd13 ct13 : Value}
    (a13 : PySem.W.nsIn K mainGlobals "_law_same" = some (some (.ref f13))) (l13 : K.lookup f13 = some ⟨oc13, od13, .func (PySem.W.fnOf "_law_same" "_law_same" (defArgs s_l_same) (defBody s_l_same) (defScope s_l_same) .none kV13 dc13 pm13 an13 cd13 ct13), sl13⟩) (c13 : PySem.W.codeIn K cd13 "_law_same" = true) (k13 : PySem.W.keepIn K (.ref f13) = true)
    {f14 : Addr} {od14 an14 : Option Addr} {sl14 : Array (Option Value)} {oc14 kV14 dc14 pm14 cd14 ct14 : Value}
    (a14 : PySem.W.nsIn K mainGlobals "_law_asked_right" = some (some (.ref f14))) (l14 : K.lookup f14 = some ⟨oc14, od14, .func (PySem.W.fnOf "_law_asked_right" "_law_asked_right" (defArgs s_l_asked_right) (defBody s_l_asked_right) (defScope s_l_asked_right) .none kV14 dc14 pm14 an14 cd14 ct14), sl14⟩) (c14 : PySem.W.codeIn K cd14 "_law_asked_right" = true) (k14 : PySem.W.keepIn K (.ref f14) = true)
    {f15 : Addr} {od15 an15 : Option Addr} {sl15 : Array (Option Value)} {oc15 kV15 dc15 pm15 cd15 ct15 : Value}
    (a15 : PySem.W.nsIn K mainGlobals "_law_by_hand_right" = some (some (.ref f15))) (l15 : K.lookup f15 = some ⟨oc15, od15, .func (PySem.W.fnOf "_law_by_hand_right" "_law_by_hand_right" (defArgs s_l_by_hand_right) (defBody s_l_by_hand_right) (defScope s_l_by_hand_right) .none kV15 dc15 pm15 an15 cd15 ct15), sl15⟩) (c15 : PySem.W.codeIn K cd15 "_law_by_hand_right" = true) (k15 : PySem.W.keepIn K (.ref f15) = true)
    {f16 : Addr} {od16 an16 : Option Addr} {sl16 : Array (Option Value)} {oc16 kV16 dc16 pm16 cd16 ct16 : Value}
    (a16 : PySem.W.nsIn K mainGlobals "_law_limit" = some (some (.ref f16))) (l16 : K.lookup f16 = some ⟨oc16, od16, .func (PySem.W.fnOf "_law_limit" "_law_limit" (defArgs s_l_limit) (defBody s_l_limit) (defScope s_l_limit) .none kV16 dc16 pm16 an16 cd16 ct16), sl16⟩) (c16 : PySem.W.codeIn K cd16 "_law_limit" = true) (k16 : PySem.W.keepIn K (.ref f16) = true)
    {f17 : Addr} {od17 an17 : Option Addr} {sl17 : Array (Option Value)} {oc17 kV17 dc17 pm17 cd17 ct17 : Value}
    (a17 : PySem.W.nsIn K mainGlobals "_law_number" = some (some (.ref f17))) (l17 : K.lookup f17 = some ⟨oc17, od17, .func (PySem.W.fnOf "_law_number" "_law_number" (defArgs s_l_number) (defBody s_l_number) (defScope s_l_number) .none kV17 dc17 pm17 an17 cd17 ct17), sl17⟩) (c17 : PySem.W.codeIn K cd17 "_law_number" = true) (k17 : PySem.W.keepIn K (.ref f17) = true)
    {f18 : Addr} {od18 an18 : Option Addr} {sl18 : Array (Option Value)} {oc18 kV18 dc18 pm18 cd18 ct18 : Value}
    (a18 : PySem.W.nsIn K mainGlobals "_law_log" = some (some (.ref f18))) (l18 : K.lookup f18 = some ⟨oc18, od18, .func (PySem.W.fnOf "_law_log" "_law_log" (defArgs s_l_log) (defBody s_l_log) (defScope s_l_log) .none kV18 dc18 pm18 an18 cd18 ct18), sl18⟩) (c18 : PySem.W.codeIn K cd18 "_law_log" = true) (k18 : PySem.W.keepIn K (.ref f18) = true)
    {f19 : Addr} {od19 an19 : Option Addr} {sl19 : Array (Option Value)} {oc19 kV19 dc19 pm19 cd19 ct19 : Value}
    (a19 : PySem.W.nsIn K mainGlobals "_law_stretch" = some (some (.ref f19))) (l19 : K.lookup f19 = some ⟨oc19, od19, .func (PySem.W.fnOf "_law_stretch" "_law_stretch" (defArgs s_l_stretch) (defBody s_l_stretch) (defScope s_l_stretch) .none kV19 dc19 pm19 an19 cd19 ct19), sl19⟩) (c19 : PySem.W.codeIn K cd19 "_law_stretch" = true) (k19 : PySem.W.keepIn K (.ref f19) = true)
    {f20 : Addr} {od20 an20 : Option Addr} {sl20 : Array (Option Value)} {oc20 kV20 dc20 pm20 cd20 ct20 : Value}
    (a20 : PySem.W.nsIn K mainGlobals "_law_bent" = some (some (.ref f20))) (l20 : K.lookup f20 = some ⟨oc20, od20, .func (PySem.W.fnOf "_law_bent" "_law_bent" (defArgs s_l_bent) (defBody s_l_bent) (defScope s_l_bent) .none kV20 dc20 pm20 an20 cd20 ct20), sl20⟩) (c20 : PySem.W.codeIn K cd20 "_law_bent" = true) (k20 : PySem.W.keepIn K (.ref f20) = true)
    {f21 : Addr} {od21 an21 : Option Addr} {sl21 : Array (Option Value)} {oc21 kV21 dc21 pm21 cd21 ct21 : Value}
    (a21 : PySem.W.nsIn K mainGlobals "_law_right" = some (some (.ref f21))) (l21 : K.lookup f21 = some ⟨oc21, od21, .func (PySem.W.fnOf "_law_right" "_law_right" (defArgs s_l_right) (defBody s_l_right) (defScope s_l_right) .none kV21 dc21 pm21 an21 cd21 ct21), sl21⟩) (c21 : PySem.W.codeIn K cd21 "_law_right" = true) (k21 : PySem.W.keepIn K (.ref f21) = true)
    {f22 : Addr} {od22 an22 : Option Addr} {sl22 : Array (Option Value)} {oc22 kV22 dc22 pm22 cd22 ct22 : Value}
    (a22 : PySem.W.nsIn K mainGlobals "law" = some (some (.ref f22))) (l22 : K.lookup f22 = some ⟨oc22, od22, .func (PySem.W.fnOf "law" "law" (defArgs s_l_law) (defBody s_l_law) (defScope s_l_law) .none kV22 dc22 pm22 an22 cd22 ct22), sl22⟩) (c22 : PySem.W.codeIn K cd22 "law" = true) (k22 : PySem.W.keepIn K (.ref f22) = true)
    (z_abs : PySem.W.nsIn K mainGlobals "abs" = some none)
    (z_all : PySem.W.nsIn K mainGlobals "all" = some none)
    (z_bool : PySem.W.nsIn K mainGlobals "bool" = some none)
    (z_enumerate : PySem.W.nsIn K mainGlobals "enumerate" = some none)
    (z_int : PySem.W.nsIn K mainGlobals "int" = some none)
    (z_isinstance : PySem.W.nsIn K mainGlobals "isinstance" = some none)
    (z_len : PySem.W.nsIn K mainGlobals "len" = some none)
    (z_list : PySem.W.nsIn K mainGlobals "list" = some none)
    (z_range : PySem.W.nsIn K mainGlobals "range" = some none)
    (z_str : PySem.W.nsIn K mainGlobals "str" = some none)
    (z_tuple : PySem.W.nsIn K mainGlobals "tuple" = some none)
    (z_zip : PySem.W.nsIn K mainGlobals "zip" = some none)
    : ∃ fd : FuncData, (∀ (s : Shared) (v : Value), BindsTo s fd ⟨[v], []⟩ [("_law_script", v)]) ∧ ∀ base : Heap, K.In base → base.Ns mainGlobals mg → FnOk l.prog w K mg base CX0 35 fa fd ["_law_script"] (spLaw K) := by
  have e := hfa.symm.trans (PySem.W.mg_of X G a22)
  cases e
  let aa : Nat → Addr := fun i => match i with | 0 => f0 | 1 => f1 | 2 => f2 | 3 => f3 | 4 => f4 | 5 => f5 | 6 => f6 | 7 => f7 | 8 => f8 | 9 => f9 | 10 => f10 | 11 => f11 | 12 => f12 | 13 => f13 | 14 => f14 | 15 => f15 | 16 => f16 | 17 => f17 | 18 => f18 | 19 => f19 | 20 => f20 | 21 => f21 | 22 => fa | _ => 0
  let dd : Nat → FuncData := fun i => match i with | 0 => PySem.W.fnOf "_law_cells" "_law_cells" (defArgs s_l_cells) (defBody s_l_cells) (defScope s_l_cells) .none kV0 dc0 pm0 an0 cd0 ct0 | 1 => PySem.W.fnOf "_law_box" "_law_box" (defArgs s_l_box) (defBody s_l_box) (defScope s_l_box) .none kV1 dc1 pm1 an1 cd1 ct1 | 2 => PySem.W.fnOf "_law_take" "_law_take" (defArgs s_l_take) (defBody s_l_take) (defScope s_l_take) .none kV2 dc2 pm2 an2 cd2 ct2 | 3 => PySem.W.fnOf "_law_of" "_law_of" (defArgs s_l_of) (defBody s_l_of) (defScope s_l_of) .none kV3 dc3 pm3 an3 cd3 ct3 | 4 => PySem.W.fnOf "_law_from" "_law_from" (defArgs s_l_from) (defBody s_l_from) (defScope s_l_from) .none kV4 dc4 pm4 an4 cd4 ct4 | 5 => PySem.W.fnOf "_law_is_pair" "_law_is_pair" (defArgs s_l_is_pair) (defBody s_l_is_pair) (defScope s_l_is_pair) .none kV5 dc5 pm5 an5 cd5 ct5 | 6 => PySem.W.fnOf "_law_due" "_law_due" (defArgs s_l_due) (defBody s_l_due) (defScope s_l_due) .none kV6 dc6 pm6 an6 cd6 ct6 | 7 => PySem.W.fnOf "is_tuple" "is_tuple" (defArgs s_p_is_tuple) (defBody s_p_is_tuple) (defScope s_p_is_tuple) .none kV7 dc7 pm7 an7 cd7 ct7 | 8 => PySem.W.fnOf "is_number" "is_number" (defArgs s_p_is_number) (defBody s_p_is_number) (defScope s_p_is_number) .none kV8 dc8 pm8 an8 cd8 ct8 | 9 => PySem.W.fnOf "is_limit" "is_limit" (defArgs s_p_is_limit) (defBody s_p_is_limit) (defScope s_p_is_limit) .none kV9 dc9 pm9 an9 cd9 ct9 | 10 => PySem.W.fnOf "is_minute" "is_minute" (defArgs s_p_is_minute) (defBody s_p_is_minute) (defScope s_p_is_minute) .none kV10 dc10 pm10 an10 cd10 ct10 | 11 => PySem.W.fnOf "is_log" "is_log" (defArgs s_p_is_log) (defBody s_p_is_log) (defScope s_p_is_log) .none kV11 dc11 pm11 an11 cd11 ct11 | 12 => PySem.W.fnOf "is_stretch" "is_stretch" (defArgs s_p_is_stretch) (defBody s_p_is_stretch) (defScope s_p_is_stretch) .none kV12 dc12 pm12 an12 cd12 ct12 | 13 => PySem.W.fnOf "_law_same" "_law_same" (defArgs s_l_same) (defBody s_l_same) (defScope s_l_same) .none kV13 dc13 pm13 an13 cd13 ct13 | 14 => PySem.W.fnOf "_law_asked_right" "_law_asked_right" (defArgs s_l_asked_right) (defBody s_l_asked_right) (defScope s_l_asked_right) .none kV14 dc14 pm14 an14 cd14 ct14 | 15 => PySem.W.fnOf "_law_by_hand_right" "_law_by_hand_right" (defArgs s_l_by_hand_right) (defBody s_l_by_hand_right) (defScope s_l_by_hand_right) .none kV15 dc15 pm15 an15 cd15 ct15 | 16 => PySem.W.fnOf "_law_limit" "_law_limit" (defArgs s_l_limit) (defBody s_l_limit) (defScope s_l_limit) .none kV16 dc16 pm16 an16 cd16 ct16 | 17 => PySem.W.fnOf "_law_number" "_law_number" (defArgs s_l_number) (defBody s_l_number) (defScope s_l_number) .none kV17 dc17 pm17 an17 cd17 ct17 | 18 => PySem.W.fnOf "_law_log" "_law_log" (defArgs s_l_log) (defBody s_l_log) (defScope s_l_log) .none kV18 dc18 pm18 an18 cd18 ct18 | 19 => PySem.W.fnOf "_law_stretch" "_law_stretch" (defArgs s_l_stretch) (defBody s_l_stretch) (defScope s_l_stretch) .none kV19 dc19 pm19 an19 cd19 ct19 | 20 => PySem.W.fnOf "_law_bent" "_law_bent" (defArgs s_l_bent) (defBody s_l_bent) (defScope s_l_bent) .none kV20 dc20 pm20 an20 cd20 ct20 | 21 => PySem.W.fnOf "_law_right" "_law_right" (defArgs s_l_right) (defBody s_l_right) (defScope s_l_right) .none kV21 dc21 pm21 an21 cd21 ct21 | 22 => PySem.W.fnOf "law" "law" (defArgs s_l_law) (defBody s_l_law) (defScope s_l_law) .none kV22 dc22 pm22 an22 cd22 ct22 | _ => PySem.W.fnOf "_law_cells" "_law_cells" (defArgs s_l_cells) (defBody s_l_cells) (defScope s_l_cells) .none kV0 dc0 pm0 an0 cd0 ct0
  have T : Txt K mg aa dd := {
    F_l_cells := fun_mk (st := s_l_cells) l0 c0 k0
    g_l_cells := PySem.W.mg_of X G a0
    F_l_box := fun_mk (st := s_l_box) l1 c1 k1
    g_l_box := PySem.W.mg_of X G a1
    F_l_take := fun_mk (st := s_l_take) l2 c2 k2
    g_l_take := PySem.W.mg_of X G a2
    F_l_of := fun_mk (st := s_l_of) l3 c3 k3
    g_l_of := PySem.W.mg_of X G a3
    F_l_from := fun_mk (st := s_l_from) l4 c4 k4
    g_l_from := PySem.W.mg_of X G a4
    F_l_is_pair := fun_mk (st := s_l_is_pair) l5 c5 k5
    g_l_is_pair := PySem.W.mg_of X G a5
    F_l_due := fun_mk (st := s_l_due) l6 c6 k6
    g_l_due := PySem.W.mg_of X G a6
    F_p_is_tuple := fun_mk (st := s_p_is_tuple) l7 c7 k7
    g_p_is_tuple := PySem.W.mg_of X G a7
    F_p_is_number := fun_mk (st := s_p_is_number) l8 c8 k8
    g_p_is_number := PySem.W.mg_of X G a8
    F_p_is_limit := fun_mk (st := s_p_is_limit) l9 c9 k9
    g_p_is_limit := PySem.W.mg_of X G a9
    F_p_is_minute := fun_mk (st := s_p_is_minute) l10 c10 k10
    g_p_is_minute := PySem.W.mg_of X G a10
    F_p_is_log := fun_mk (st := s_p_is_log) l11 c11 k11
    g_p_is_log := PySem.W.mg_of X G a11
    F_p_is_stretch := fun_mk (st := s_p_is_stretch) l12 c12 k12
    g_p_is_stretch := PySem.W.mg_of X G a12
    F_l_same := fun_mk (st := s_l_same) l13 c13 k13
    g_l_same := PySem.W.mg_of X G a13
    F_l_asked_right := fun_mk (st := s_l_asked_right) l14 c14 k14
    g_l_asked_right := PySem.W.mg_of X G a14
    F_l_by_hand_right := fun_mk (st := s_l_by_hand_right) l15 c15 k15
    g_l_by_hand_right := PySem.W.mg_of X G a15
    F_l_limit := fun_mk (st := s_l_limit) l16 c16 k16
    g_l_limit := PySem.W.mg_of X G a16
    F_l_number := fun_mk (st := s_l_number) l17 c17 k17
    g_l_number := PySem.W.mg_of X G a17
    F_l_log := fun_mk (st := s_l_log) l18 c18 k18
    g_l_log := PySem.W.mg_of X G a18
    F_l_stretch := fun_mk (st := s_l_stretch) l19 c19 k19
    g_l_stretch := PySem.W.mg_of X G a19
    F_l_bent := fun_mk (st := s_l_bent) l20 c20 k20
    g_l_bent := PySem.W.mg_of X G a20
    F_l_right := fun_mk (st := s_l_right) l21 c21 k21
    g_l_right := PySem.W.mg_of X G a21
    F_l_law := fun_mk (st := s_l_law) l22 c22 k22
    g_l_law := PySem.W.mg_of X G a22
    n_abs := PySem.W.mg_none_of X G z_abs
    n_all := PySem.W.mg_none_of X G z_all
    n_bool := PySem.W.mg_none_of X G z_bool
    n_enumerate := PySem.W.mg_none_of X G z_enumerate
    n_int := PySem.W.mg_none_of X G z_int
    n_isinstance := PySem.W.mg_none_of X G z_isinstance
    n_len := PySem.W.mg_none_of X G z_len
    n_list := PySem.W.mg_none_of X G z_list
    n_range := PySem.W.mg_none_of X G z_range
    n_str := PySem.W.mg_none_of X G z_str
    n_tuple := PySem.W.mg_none_of X G z_tuple
    n_zip := PySem.W.mg_none_of X G z_zip
    }
  exact ⟨dd 22, fun s v => .of_eq rfl, fun base _ _ => law_ok (ok_l_law (cl := fun _ => 0) T) holds⟩
theorem walk {l : PySem.W.OpenLaw} {q : Program} {loose : List Str} {XP : (Str → Option Value) → Heap → Prop} {YP : World → Heap → Prop} {d : DefRec} {K : Params → PySem.W.Frag} (hn : l.most = some 63) (hdf : d.params.defaults = [])
    (hY : ∀ (w : World) (h : Heap), YP w h → (K w.params).In h)
    (F : ∀ (w : World) (mg : Str → Option Value) (fa : Addr) (h : Heap), (K w.params).In h → h.Ns mainGlobals mg → mg d.name = some (.ref fa) →
      ∃ fd : FuncData, (∀ (s : Shared) (u : Value), BindsTo s fd ⟨[u], []⟩ [("_law_script", u)]) ∧ ∀ base : Heap, (K w.params).In base → base.Ns mainGlobals mg → FnOk l.prog w (K w.params) mg base CX0 35 fa fd ["_law_script"] (spLaw (K w.params))) :
    PySem.W.WalkO q loose XP YP l.row.toRowW d [] (fun f vs => PySem.call f vs) :=
  L2.walk_of (n := 63) (k := 35) (x := "_law_script") (CX := fun _ => CX0) (sp := fun w => spLaw (K w.params)) hn (by decide) hdf ⟨rfl, by decide, by decide⟩ hY F (fun _ _ a ns hl _ hS => ⟨a, ns, rfl, hS, hl, fun _ => rfl⟩) fun _ _ _ _ _ z => z
end Lw
open PySem PySem.W PyProof.Rows
set_option maxRecDepth 100000 in
set_option maxHeartbeats 0 in
theorem PySem.Challenge.cw_quietshare_k00_limits_logs_stretches_or_holds : PySem.Challenge.rw_quietshare_k00_limits_logs_stretches_or.Holds := by
  w_on; o_law; k_head; (case hw => w_witness2)
  k_fill
  refine Lw.walk (l := PySem.Challenge.rw_quietshare_k00_limits_logs_stretches_or) rfl rfl (fun w h Y => PySem.W.kIn_of Y) ?F
  case F =>
    intro w mg fa h KX G hmg
    refine' Lw.all_mk KX G hmg ?a0 ?l0 ?c0 ?k0 ?a1 ?l1 ?c1 ?k1 ?a2 ?l2 ?c2 ?k2 ?a3 ?l3 ?c3 ?k3 ?a4 ?l4 ?c4 ?k4 ?a5 ?l5 ?c5 ?k5 ?a6 ?l6 ?c6 ?k6 ?a7 ?l7 ?c7 ?k7 ?a8 ?l8 ?c8 ?k8 ?a9 ?l9 ?c9 ?k9 ?a10 ?l10 ?c10 ?k10 ?a11 ?l11 ?c11 ?k11 ?a12 ?l12 ?c12 ?k12 ?a13 ?l13 ?c13 ?k13 ?a14 ?l14 ?c14 ?k14 ?a15 ?l15 ?c15 ?k15 ?a16 ?l16 ?c16 ?k16 ?a17 ?l17 ?c17 ?k17 ?a18 ?l18 ?c18 ?k18 ?a19 ?l19 ?c19 ?k19 ?a20 ?l20 ?c20 ?k20 ?a21 ?l21 ?c21 ?k21 ?a22 ?l22 ?c22 ?k22 ?z_abs ?z_all ?z_bool ?z_enumerate ?z_int ?z_isinstance ?z_len ?z_list ?z_range ?z_str ?z_tuple ?z_zip
    (case a0 => k_is); (case l0 => k_is); (case c0 => k_is); (case k0 => k_is); (case a1 => k_is); (case l1 => k_is)
    (case c1 => k_is); (case k1 => k_is); (case a2 => k_is); (case l2 => k_is); (case c2 => k_is); (case k2 => k_is)
    (case a3 => k_is); (case l3 => k_is); (case c3 => k_is); (case k3 => k_is); (case a4 => k_is); (case l4 => k_is)
    (case c4 => k_is); (case k4 => k_is); (case a5 => k_is); (case l5 => k_is); (case c5 => k_is); (case k5 => k_is)
    (case a6 => k_is); (case l6 => k_is); (case c6 => k_is); (case k6 => k_is); (case a7 => k_is); (case l7 => k_is)
    (case c7 => k_is); (case k7 => k_is); (case a8 => k_is); (case l8 => k_is); (case c8 => k_is); (case k8 => k_is)
    (case a9 => k_is); (case l9 => k_is); (case c9 => k_is); (case k9 => k_is); (case a10 => k_is); (case l10 => k_is)
    (case c10 => k_is); (case k10 => k_is); (case a11 => k_is); (case l11 => k_is); (case c11 => k_is); (case k11 => k_is)
    (case a12 => k_is); (case l12 => k_is); (case c12 => k_is); (case k12 => k_is); (case a13 => k_is); (case l13 => k_is)
    (case c13 => k_is); (case k13 => k_is); (case a14 => k_is); (case l14 => k_is); (case c14 => k_is); (case k14 => k_is)
    (case a15 => k_is); (case l15 => k_is); (case c15 => k_is); (case k15 => k_is); (case a16 => k_is); (case l16 => k_is)
    (case c16 => k_is); (case k16 => k_is); (case a17 => k_is); (case l17 => k_is); (case c17 => k_is); (case k17 => k_is)
    (case a18 => k_is); (case l18 => k_is); (case c18 => k_is); (case k18 => k_is); (case a19 => k_is); (case l19 => k_is)
    (case c19 => k_is); (case k19 => k_is); (case a20 => k_is); (case l20 => k_is); (case c20 => k_is); (case k20 => k_is)
    (case a21 => k_is); (case l21 => k_is); (case c21 => k_is); (case k21 => k_is); (case a22 => k_is); (case l22 => k_is)
    (case c22 => k_is); (case k22 => k_is); (case z_abs => k_is); (case z_all => k_is); (case z_bool => k_is); (case z_enumerate => k_is)
    (case z_int => k_is); (case z_isinstance => k_is); (case z_len => k_is); (case z_list => k_is); (case z_range => k_is); (case z_str => k_is)
    (case z_tuple => k_is); (case z_zip => k_is)
