import PyProof.Rows.All
import Wide.All
import OpenK.AllK
import Wide.FinOn
import HandS.ForMost
import HandS.ForExc
import HandS.IsInst
import HandS.Wide
import HandS.TupAny
import HandS.SortInts
import HandS.Small
import HandS.Style
import HandS.Conv
import HandS.SetFor
import HandS.Flt
import KE.KExcSuper
import HandS.Exc
import HandS.ExcOwn
import HandS.ExcField
import HandS.ExcInit
import HandS.WordsExc
import HandS.CallSlots
import HandS.Strs
import HandS.SetKeys
import PySem.Challenge.RW_fairwire_k13_streams_that_share_a_wire
set_option Elab.async false
set_option linter.all false
set_option maxRecDepth 100000
set_option maxHeartbeats 4000000
/-! DL, part 1: data, the store, what stands for what; outcomes; judgements; how they are joined. -/
namespace DL
open PySem L2

/-- data: what never changes by value; ref n: the n-th changing object of the store; fz: a list that is locked; ty: a built-in class; adr: an object of the module -/
inductive D where
  | non | bl (b : Bool) | int (i : Int) | str (s : Str) | lst (ds : List D) | tup (ds : List D) | fz (t : Bool) (ds : List D) | ref (n : Nat) | ty (n : String) | adr (a : Addr)

/-- an object that changes -/
inductive SO where
  | dead | lst (ds : List D) | dct (kvs : List (Key × D)) | dcT (kvs : List (List Key × D)) | ins (C : Addr) (fl : List (Str × D)) | lkd (kvs : List (Key × D)) | lkT (kvs : List (List Key × D))
abbrev Store := List SO
abbrev Sg := List (Option D)

mutual
def Rep (K : PySem.W.Frag) (F : Hp) (fs : List Addr) : D → V → Prop
  | .non, v => v = .non
  | .bl b, v => v = .bl b
  | .int i, v => v = .int i
  | .str s, v => v = .str s
  | .lst ds, v => ∃ a xs, v = .ref a ∧ F a = some (.lst xs) ∧ RepL K F fs ds xs
  | .tup ds, v => ∃ a xs, v = .ref a ∧ F a = some (.tup xs) ∧ RepL K F fs ds xs
  | .fz t ds, v => ∃ a xs, v = .ref a ∧ (if t then SqT K F a xs else SqL K F a xs) ∧ RepL K F fs ds xs
  | .ref n, v => ∃ a, v = .ref a ∧ fs[n]? = some a
  | .ty n, v => v = .ty n
  | .adr a, v => v = .ref a
def RepL (K : PySem.W.Frag) (F : Hp) (fs : List Addr) : List D → List V → Prop
  | [], xs => xs = []
  | d :: ds, xs => ∃ x xr, xs = x :: xr ∧ Rep K F fs d x ∧ RepL K F fs ds xr
end
def RepKV {κ : Type} (K : PySem.W.Frag) (F : Hp) (fs : List Addr) : List (κ × D) → List (κ × V) → Prop
  | [], xs => xs = []
  | p :: ps, xs => ∃ x xr, xs = (p.1, x) :: xr ∧ Rep K F fs p.2 x ∧ RepKV K F fs ps xr
def RepO (K : PySem.W.Frag) (F : Hp) (fs : List Addr) (H : Hp) (a : Addr) : SO → Prop
  | .dead => True
  | .lst ds => ∃ xs, H a = some (.lst xs) ∧ RepL K F fs ds xs
  | .dct kvs => ∃ vs, H a = some (.dK vs) ∧ RepKV K F fs kvs vs
  | .dcT kvs => ∃ vs, H a = some (.dT vs) ∧ RepKV K F fs kvs vs
  | .ins C fl => ∃ dx vs, H a = some (.ins C dx vs) ∧ RepKV K F fs fl vs
  | .lkd _ => False
  | .lkT _ => False
/-- a dict that is locked: read, not written -/
def RepK (K : PySem.W.Frag) (F : Hp) (fs : List Addr) (a : Addr) : SO → Prop
  | .lkd kvs => ∃ od vs, F a = some (.frz od (.dK vs)) ∧ RepKV K F fs kvs vs
  | .lkT kvs => ∃ od vs, F a = some (.frz od (.dT vs)) ∧ RepKV K F fs kvs vs
  | _ => False
def SO.locked : SO → Bool
  | .lkd _ => true
  | .lkT _ => true
  | _ => false
def SO.live : SO → Bool
  | .dead => false
  | .lkd _ => false
  | .lkT _ => false
  | _ => true
structure RepS (K : PySem.W.Frag) (F : Hp) (fs : List Addr) (σ : Sg) (σv : St) : Prop where
  len : σ.length = σv.length
  at' : ∀ (i : Nat) (d : D), σ[i]? = some (some d) → ∃ v, σv[i]? = some (some v) ∧ Rep K F fs d v
/-- the heap H bears the store S at the addresses fs; F: the part that never changes -/
structure Mt (K : PySem.W.Frag) (fs : List Addr) (S : Store) (F H : Hp) : Prop where
  len : S.length = fs.length
  le : ∀ a o, F a = some o → H a = some o
  ob : ∀ (n : Nat) (so : SO), S[n]? = some so → so.live = true → ∃ a, fs[n]? = some a ∧ F a = none ∧ RepO K F fs H a so
  inj : ∀ (n m : Nat) (a : Addr) (so so' : SO), S[n]? = some so → so.live = true → S[m]? = some so' → so'.live = true → fs[n]? = some a → fs[m]? = some a → n = m
  dom : ∀ a, a ∈ fs → H a ≠ none
  lk : ∀ (n : Nat) (so : SO), S[n]? = some so → so.locked = true → ∃ a, fs[n]? = some a ∧ RepK K F fs a so
  lki : ∀ (n m : Nat) (a : Addr) (so so' : SO), S[n]? = some so → so.locked = true → S[m]? = some so' → so'.locked = true → fs[n]? = some a → fs[m]? = some a → n = m
structure Gr (fs : List Addr) (F H : Hp) (fs' : List Addr) (F' H' : Hp) : Prop where
  pre : ∃ more, fs' = fs ++ more
  le : ∀ a o, F a = some o → F' a = some o
  new : ∀ a, a ∈ fs' → a ∈ fs ∨ H a = none
  newF : ∀ a o, F' a = some o → F a = some o ∨ H a = none ∨ a ∈ fs
  keep : ∀ a o, H a = some o → a ∉ fs → H' a = some o
  dom : ∀ a, H' a = none → H a = none

theorem Gr.refl (fs : List Addr) (F H : Hp) : Gr fs F H fs F H :=
  ⟨⟨[], by simp⟩, fun _ _ h => h, fun _ h => .inl h, fun _ _ h => .inl h, fun _ _ h _ => h, fun _ h => h⟩
theorem Gr.trans {fs fs1 fs2 : List Addr} {F F1 F2 H H1 H2 : Hp} (a : Gr fs F H fs1 F1 H1) (b : Gr fs1 F1 H1 fs2 F2 H2) : Gr fs F H fs2 F2 H2 where
  pre := by obtain ⟨m, e⟩ := a.pre; obtain ⟨m', e'⟩ := b.pre; exact ⟨m ++ m', by rw [e', e, List.append_assoc]⟩
  le := fun c o h => b.le c o (a.le c o h)
  new := fun c h => by
    rcases b.new c h with h | h
    · exact a.new c h
    · exact .inr (a.dom c h)
  newF := fun c o h => by
    rcases b.newF c o h with h | h | h
    · exact a.newF c o h
    · exact .inr (.inl (a.dom c h))
    · rcases a.new c h with h | h
      · exact .inr (.inr h)
      · exact .inr (.inl h)
  keep := fun c o h n => b.keep c o (a.keep c o h n) fun m => by
    rcases a.new c m with m | m
    · exact n m
    · rw [h] at m; cases m
  dom := fun c h => a.dom c (b.dom c h)
theorem Gr.get {fs fs' : List Addr} {F F' H H' : Hp} (g : Gr fs F H fs' F' H') {n : Nat} {a : Addr} (h : fs[n]? = some a) : fs'[n]? = some a := by
  obtain ⟨m, e⟩ := g.pre
  have hl : n < fs.length := (List.getElem?_eq_some_iff.mp h).1
  rw [e, List.getElem?_append_left hl]; exact h
theorem SqT.mono {K : PySem.W.Frag} {F F' : Hp} {a : Addr} {xs : List V} (le : ∀ a o, F a = some o → F' a = some o) (h : SqT K F a xs) : SqT K F' a xs := by
  rcases h with (h | ⟨o, h⟩) | h
  · exact .inl (.inl (le _ _ h))
  · exact .inl (.inr ⟨o, le _ _ h⟩)
  · exact .inr h
theorem SqL.mono {K : PySem.W.Frag} {F F' : Hp} {a : Addr} {xs : List V} (le : ∀ a o, F a = some o → F' a = some o) (h : SqL K F a xs) : SqL K F' a xs := by
  rcases h with (h | ⟨o, h⟩) | h
  · exact .inl (.inl (le _ _ h))
  · exact .inl (.inr ⟨o, le _ _ h⟩)
  · exact .inr h
section
variable {K : PySem.W.Frag} {F F' : Hp} {fs fs' : List Addr} (le : ∀ a o, F a = some o → F' a = some o) (pre : ∀ (n : Nat) (a : Addr), fs[n]? = some a → fs'[n]? = some a)
include le pre
mutual
theorem Rep.mono' : ∀ (d : D) {v : V}, Rep K F fs d v → Rep K F' fs' d v
  | .non, _, h => by rw [Rep] at h ⊢; exact h
  | .bl _, _, h => by rw [Rep] at h ⊢; exact h
  | .int _, _, h => by rw [Rep] at h ⊢; exact h
  | .str _, _, h => by rw [Rep] at h ⊢; exact h
  | .lst ds, _, h => by
    rw [Rep] at h ⊢
    obtain ⟨a, xs, e, h1, h2⟩ := h
    exact ⟨a, xs, e, le _ _ h1, RepL.mono' ds h2⟩
  | .tup ds, _, h => by
    rw [Rep] at h ⊢
    obtain ⟨a, xs, e, h1, h2⟩ := h
    exact ⟨a, xs, e, le _ _ h1, RepL.mono' ds h2⟩
  | .fz t ds, _, h => by
    rw [Rep] at h ⊢
    obtain ⟨a, xs, e, h1, h2⟩ := h
    refine ⟨a, xs, e, ?_, RepL.mono' ds h2⟩
    cases t with
    | true => exact SqT.mono le h1
    | false => exact SqL.mono le h1
  | .ref n, _, h => by
    rw [Rep] at h ⊢
    obtain ⟨a, e, h1⟩ := h
    exact ⟨a, e, pre _ _ h1⟩
  | .ty _, _, h => by rw [Rep] at h ⊢; exact h
  | .adr _, _, h => by rw [Rep] at h ⊢; exact h
theorem RepL.mono' : ∀ (ds : List D) {xs : List V}, RepL K F fs ds xs → RepL K F' fs' ds xs
  | [], _, h => by rw [RepL] at h ⊢; exact h
  | d :: ds, _, h => by
    rw [RepL] at h ⊢
    obtain ⟨x, xr, e, h1, h2⟩ := h
    exact ⟨x, xr, e, Rep.mono' d h1, RepL.mono' ds h2⟩
end
theorem RepKV.mono' {κ : Type} : ∀ (ps : List (κ × D)) {xs : List (κ × V)}, RepKV K F fs ps xs → RepKV K F' fs' ps xs
  | [], _, h => h
  | p :: ps, _, ⟨x, xr, e, h1, h2⟩ => ⟨x, xr, e, Rep.mono' le pre p.2 h1, RepKV.mono' ps h2⟩
end
section
variable {K : PySem.W.Frag} {F F' H H' : Hp} {fs fs' : List Addr} (g : Gr fs F H fs' F' H')
include g
theorem Rep.mono {d : D} {v : V} (h : Rep K F fs d v) : Rep K F' fs' d v := Rep.mono' g.le (fun _ _ => g.get) d h
theorem RepL.mono {d : List D} {v : List V} (h : RepL K F fs d v) : RepL K F' fs' d v := RepL.mono' g.le (fun _ _ => g.get) d h
theorem RepKV.mono {κ : Type} {d : List (κ × D)} {v : List (κ × V)} (h : RepKV K F fs d v) : RepKV K F' fs' d v := RepKV.mono' g.le (fun _ _ => g.get) d h
theorem RepS.mono {d : Sg} {v : St} (h : RepS K F fs d v) : RepS K F' fs' d v := ⟨h.len, fun i x e => let ⟨v, e1, r⟩ := h.at' i x e; ⟨v, e1, r.mono g⟩⟩
end
theorem RepL.length {K : PySem.W.Frag} {F : Hp} {fs : List Addr} : ∀ {ds : List D} {xs : List V}, RepL K F fs ds xs → xs.length = ds.length
  | [], _, h => by rw [RepL] at h; rw [h]; rfl
  | d :: ds, _, h => by
    rw [RepL] at h
    obtain ⟨x, xr, e, _, h2⟩ := h
    rw [e, List.length_cons, List.length_cons, RepL.length h2]
theorem RepL.get {K : PySem.W.Frag} {F : Hp} {fs : List Addr} : ∀ {ds : List D} {xs : List V} {i : Nat} {d : D}, RepL K F fs ds xs → ds[i]? = some d → ∃ x, xs[i]? = some x ∧ Rep K F fs d x
  | [], _, _, _, _, e => by simp at e
  | d :: ds, _, 0, _, h, e => by
    rw [RepL] at h
    obtain ⟨x, xr, rfl, h1, _⟩ := h
    simp at e; subst e
    exact ⟨x, rfl, h1⟩
  | d :: ds, _, i + 1, _, h, e => by
    rw [RepL] at h
    obtain ⟨x, xr, rfl, _, h2⟩ := h
    obtain ⟨y, e1, r⟩ := RepL.get (i := i) h2 (by simpa using e)
    exact ⟨y, by simpa using e1, r⟩
theorem RepL.nil {K : PySem.W.Frag} {F : Hp} {fs : List Addr} : RepL K F fs [] [] := by rw [RepL]
theorem RepL.cons {K : PySem.W.Frag} {F : Hp} {fs : List Addr} {d : D} {ds : List D} {x : V} {xs : List V} (h : Rep K F fs d x) (t : RepL K F fs ds xs) : RepL K F fs (d :: ds) (x :: xs) := by rw [RepL]; exact ⟨x, xs, rfl, h, t⟩
theorem RepL.append {K : PySem.W.Frag} {F : Hp} {fs : List Addr} : ∀ {ds es : List D} {xs ys : List V}, RepL K F fs ds xs → RepL K F fs es ys → RepL K F fs (ds ++ es) (xs ++ ys)
  | [], _, _, _, h, t => by rw [RepL] at h; subst h; exact t
  | d :: ds, _, _, _, h, t => by
    rw [RepL] at h
    obtain ⟨x, xr, rfl, h1, h2⟩ := h
    exact RepL.cons h1 (RepL.append h2 t)
theorem RepL.take {K : PySem.W.Frag} {F : Hp} {fs : List Addr} : ∀ {ds : List D} {xs : List V} (n : Nat), RepL K F fs ds xs → RepL K F fs (ds.take n) (xs.take n)
  | _, _, 0, _ => by simpa using RepL.nil
  | [], _, n + 1, h => by rw [RepL] at h; subst h; simpa using RepL.nil
  | d :: ds, _, n + 1, h => by
    rw [RepL] at h
    obtain ⟨x, xr, rfl, h1, h2⟩ := h
    exact RepL.cons h1 (RepL.take n h2)
theorem RepL.drop {K : PySem.W.Frag} {F : Hp} {fs : List Addr} : ∀ {ds : List D} {xs : List V} (n : Nat), RepL K F fs ds xs → RepL K F fs (ds.drop n) (xs.drop n)
  | _, _, 0, h => h
  | [], _, n + 1, h => by rw [RepL] at h; subst h; simpa using RepL.nil
  | d :: ds, _, n + 1, h => by
    rw [RepL] at h
    obtain ⟨x, xr, rfl, _, h2⟩ := h
    exact RepL.drop n h2
theorem RepL.set {K : PySem.W.Frag} {F : Hp} {fs : List Addr} : ∀ {ds : List D} {xs : List V} {d : D} {v : V} (n : Nat), Rep K F fs d v → RepL K F fs ds xs → RepL K F fs (ds.set n d) (xs.set n v)
  | [], _, _, _, _, _, h => by rw [RepL] at h; subst h; simpa using RepL.nil
  | _ :: _, _, _, _, 0, r, h => by
    rw [RepL] at h
    obtain ⟨x, xr, rfl, _, h2⟩ := h
    exact RepL.cons r h2
  | _ :: _, _, _, _, n + 1, r, h => by
    rw [RepL] at h
    obtain ⟨x, xr, rfl, h1, h2⟩ := h
    exact RepL.cons h1 (RepL.set n r h2)
theorem RepL.reverse {K : PySem.W.Frag} {F : Hp} {fs : List Addr} : ∀ {ds : List D} {xs : List V}, RepL K F fs ds xs → RepL K F fs ds.reverse xs.reverse
  | [], _, h => by rw [RepL] at h; subst h; simpa using RepL.nil
  | _ :: _, _, h => by
    rw [RepL] at h
    obtain ⟨x, xr, rfl, h1, h2⟩ := h
    rw [List.reverse_cons, List.reverse_cons]
    exact RepL.append (RepL.reverse h2) (RepL.cons h1 RepL.nil)

/-! ### outcomes -/
inductive Out (α : Type) where
  | stuck | ok (a : α) (S : Store) | exc (C : Addr) (d : D) (S : Store)
def Out.bind {α β : Type} (o : Out α) (k : α → Store → Out β) : Out β :=
  match o with
  | .stuck => .stuck
  | .ok a S => k a S
  | .exc C d S => .exc C d S
@[simp] theorem Out.bind_ok {α β : Type} (a : α) (S : Store) (k : α → Store → Out β) : (Out.ok a S).bind k = k a S := rfl
@[simp] theorem Out.bind_stuck {α β : Type} (k : α → Store → Out β) : (Out.stuck : Out α).bind k = .stuck := rfl
@[simp] theorem Out.bind_exc {α β : Type} (C : Addr) (d : D) (S : Store) (k : α → Store → Out β) : (Out.exc C d S : Out α).bind k = .exc C d S := rfl
abbrev EvE := Sg → Store → Out D
abbrev EvB := Sg → Store → Out Bool
abbrev EvL := Sg → Store → Out (List D)
inductive OutS where
  | stuck | nx (σ : Sg) (S : Store) | ret (d : D) (S : Store) | bk (σ : Sg) (S : Store) | ct (σ : Sg) (S : Store) | exc (C : Addr) (d : D) (σ : Sg) (S : Store)
abbrev EvS := Sg → Store → OutS
/-- an expression within a statement -/
def Out.stm {α : Type} (o : Out α) (σ : Sg) (k : α → Store → OutS) : OutS :=
  match o with
  | .stuck => .stuck
  | .ok a S => k a S
  | .exc C d S => .exc C d σ S
@[simp] theorem Out.stm_ok {α : Type} (a : α) (S : Store) (σ : Sg) (k : α → Store → OutS) : (Out.ok a S).stm σ k = k a S := rfl
@[simp] theorem Out.stm_stuck {α : Type} (σ : Sg) (k : α → Store → OutS) : (Out.stuck : Out α).stm σ k = .stuck := rfl
@[simp] theorem Out.stm_exc {α : Type} (C : Addr) (d : D) (S : Store) (σ : Sg) (k : α → Store → OutS) : (Out.exc C d S : Out α).stm σ k = .exc C d σ S := rfl
def OutS.bind (o : OutS) (k : EvS) : OutS :=
  match o with
  | .nx σ S => k σ S
  | o => o

/-- what is wanted behind an exception -/
def PostX (K : PySem.W.Frag) (Ex : Value → Option Addr → Hp → Prop) (C : Addr) (d : D) (S' : Store) (fs : List Addr) (F H : Hp) : Prop :=
  ∀ fs' F' H' dx v, Gr fs F H fs' F' H' → Mt K fs' S' F' H' → H' dx = some (.xd [("at", v)]) → Rep K F' fs' d v → Ex (.ref C) (some dx) H'
/-- R: how an answer stands for a value -/
def PostG {α β : Type} (K : PySem.W.Frag) (R : Hp → List Addr → α → β → Prop) (Ex : Value → Option Addr → Hp → Prop) (o : Out α) (fs : List Addr) (F H : Hp) (Q : β → Hp → Prop) : Prop :=
  match o with
  | .stuck => False
  | .ok a S' => ∀ fs' F' H' v, Gr fs F H fs' F' H' → Mt K fs' S' F' H' → R F' fs' a v → Q v H'
  | .exc C d S' => PostX K Ex C d S' fs F H
def RB : Hp → List Addr → Bool → Bool → Prop := fun _ _ a b => a = b
theorem PostX.grow {K : PySem.W.Frag} {Ex : Value → Option Addr → Hp → Prop} {C : Addr} {d : D} {S' : Store} {fs fs1 : List Addr} {F H F1 H1 : Hp} (h : PostX K Ex C d S' fs F H) (g : Gr fs F H fs1 F1 H1) : PostX K Ex C d S' fs1 F1 H1 :=
  fun fs' F' H' dx v g' m e r => h fs' F' H' dx v (g.trans g') m e r
theorem PostG.grow {α β : Type} {K : PySem.W.Frag} {R : Hp → List Addr → α → β → Prop} {Ex : Value → Option Addr → Hp → Prop} {o : Out α} {fs fs1 : List Addr} {F H F1 H1 : Hp} {Q : β → Hp → Prop}
    (h : PostG K R Ex o fs F H Q) (g : Gr fs F H fs1 F1 H1) : PostG K R Ex o fs1 F1 H1 Q := by
  cases o with
  | stuck => exact h
  | ok a S' => exact fun fs' F' H' v g' m r => h fs' F' H' v (g.trans g') m r
  | exc C d S' => exact PostX.grow h g
/-- the reading of an outcome -/
def tG {α β : Type} (K : PySem.W.Frag) (R : Hp → List Addr → α → β → Prop) (W : WX) (ev : Sg → Store → Out α) : St → Hp → (β → Hp → Prop) → Prop := fun σv H Q =>
  ∃ fs F σ S, RepS K F fs σ σv ∧ Mt K fs S F H ∧ PostG K R (fun c d H' => W c d σv H') (ev σ S) fs F H Q
abbrev tE (K : PySem.W.Frag) (W : WX) (ev : EvE) : TE := tG K (Rep K) W ev
abbrev tT (K : PySem.W.Frag) (W : WX) (ev : EvB) : TT := tG K RB W ev
abbrev tA (K : PySem.W.Frag) (W : WX) (ev : EvL) : TA := tG K (RepL K) W ev
theorem tG.bind {α β γ δ : Type} {K : PySem.W.Frag} {R : Hp → List Addr → α → β → Prop} {R2 : Hp → List Addr → γ → δ → Prop} {W : WX} {ev : Sg → Store → Out α} {k : α → Store → Out γ} {σ : Sg} {σv : St} {S : Store} {fs : List Addr} {F H : Hp} {Q1 : β → Hp → Prop} {Q : δ → Hp → Prop}
    (rs : RepS K F fs σ σv) (m : Mt K fs S F H) (h : PostG K R2 (fun c d H' => W c d σv H') ((ev σ S).bind k) fs F H Q)
    (cont : ∀ a S1 fs1 F1 H1 v, RepS K F1 fs1 σ σv → Mt K fs1 S1 F1 H1 → Gr fs F H fs1 F1 H1 → R F1 fs1 a v → PostG K R2 (fun c d H' => W c d σv H') (k a S1) fs1 F1 H1 Q → Q1 v H1) : tG K R W ev σv H Q1 := by
  refine ⟨fs, F, σ, S, rs, m, ?_⟩
  cases e : ev σ S with
  | stuck => rw [e] at h; exact h
  | ok a S1 =>
    rw [e] at h
    exact fun fs1 F1 H1 v g m1 r => cont a S1 fs1 F1 H1 v (rs.mono g) m1 g r (PostG.grow h g)
  | exc C d S' => rw [e] at h; exact h
/-- statements -/
def PostS (K : PySem.W.Frag) (W : WX) (D : Ends) (o : OutS) (fs : List Addr) (F H : Hp) : Prop :=
  match o with
  | .stuck => False
  | .nx σ' S' => ∀ fs' F' H' σv', Gr fs F H fs' F' H' → Mt K fs' S' F' H' → RepS K F' fs' σ' σv' → D.nx σv' H'
  | .bk σ' S' => ∀ fs' F' H' σv', Gr fs F H fs' F' H' → Mt K fs' S' F' H' → RepS K F' fs' σ' σv' → D.bk σv' H'
  | .ct σ' S' => ∀ fs' F' H' σv', Gr fs F H fs' F' H' → Mt K fs' S' F' H' → RepS K F' fs' σ' σv' → D.ct σv' H'
  | .ret d S' => ∀ fs' F' H' v, Gr fs F H fs' F' H' → Mt K fs' S' F' H' → Rep K F' fs' d v → D.rt v H'
  | .exc C d σ' S' => ∀ fs' F' H' σv' dx v, Gr fs F H fs' F' H' → Mt K fs' S' F' H' → RepS K F' fs' σ' σv' → H' dx = some (.xd [("at", v)]) → Rep K F' fs' d v → W (.ref C) (some dx) σv' H'
theorem PostS.grow {K : PySem.W.Frag} {W : WX} {D : Ends} {o : OutS} {fs fs1 : List Addr} {F H F1 H1 : Hp} (h : PostS K W D o fs F H) (g : Gr fs F H fs1 F1 H1) : PostS K W D o fs1 F1 H1 := by
  cases o with
  | stuck => exact h
  | nx σ S' => exact fun fs' F' H' v g' m r => h fs' F' H' v (g.trans g') m r
  | bk σ S' => exact fun fs' F' H' v g' m r => h fs' F' H' v (g.trans g') m r
  | ct σ S' => exact fun fs' F' H' v g' m r => h fs' F' H' v (g.trans g') m r
  | ret σ S' => exact fun fs' F' H' v g' m r => h fs' F' H' v (g.trans g') m r
  | exc C d σ S' => exact fun fs' F' H' σv' dx v g' m r e q => h fs' F' H' σv' dx v (g.trans g') m r e q
def tS (K : PySem.W.Frag) (W : WX) (ev : EvS) : TS := fun D σv H => ∃ fs F σ S, RepS K F fs σ σv ∧ Mt K fs S F H ∧ PostS K W D (ev σ S) fs F H
/-- an expression within a statement -/
theorem tG.stm {α β : Type} {K : PySem.W.Frag} {R : Hp → List Addr → α → β → Prop} {W : WX} {ev : Sg → Store → Out α} {k : α → Store → OutS} {σ : Sg} {σv : St} {S : Store} {fs : List Addr} {F H : Hp} {Q1 : β → Hp → Prop} {D : Ends}
    (rs : RepS K F fs σ σv) (m : Mt K fs S F H) (h : PostS K W D ((ev σ S).stm σ k) fs F H)
    (cont : ∀ a S1 fs1 F1 H1 v, RepS K F1 fs1 σ σv → Mt K fs1 S1 F1 H1 → Gr fs F H fs1 F1 H1 → R F1 fs1 a v → PostS K W D (k a S1) fs1 F1 H1 → Q1 v H1) : tG K R W ev σv H Q1 := by
  refine ⟨fs, F, σ, S, rs, m, ?_⟩
  cases e : ev σ S with
  | stuck => rw [e] at h; exact h
  | ok a S1 =>
    rw [e] at h
    exact fun fs1 F1 H1 v g m1 r => cont a S1 fs1 F1 H1 v (rs.mono g) m1 g r (PostS.grow h g)
  | exc C d S' =>
    rw [e] at h
    exact fun fs' F' H' dx v g m' e r => h fs' F' H' σv dx v g m' (rs.mono g) e r
/-- the judgements -/
abbrev JE (X : Cx) (W : WX) (e : Expr) (ev : EvE) : Prop := PE X e (tE X.K W ev)
abbrev JT (X : Cx) (W : WX) (e : Expr) (ev : EvB) : Prop := PT X e (tT X.K W ev)
abbrev JA (X : Cx) (W : WX) (es : List Expr) (ev : EvL) : Prop := PA X es (tA X.K W ev)
abbrev JS (X : Cx) (W : WX) (st : Stmt) (ev : EvS) : Prop := PS X st (tS X.K W ev)
abbrev JSs (X : Cx) (W : WX) (st : List Stmt) (ev : EvS) : Prop := PSs X st (tS X.K W ev)
theorem PE.imp {X : Cx} {e : Expr} {t t' : TE} (h : PE X e t) (i : ∀ σ H Q, t' σ H Q → t σ H Q) : PE X e t' := ⟨fun pins s σ H Q I q => h.run pins s σ H Q I (i σ H Q q)⟩
theorem PT.imp {X : Cx} {e : Expr} {t t' : TT} (h : PT X e t) (i : ∀ σ H Q, t' σ H Q → t σ H Q) : PT X e t' := ⟨fun pins s σ H Q I q => h.run pins s σ H Q I (i σ H Q q)⟩
theorem PW.imp {X : Cx} {e : Expr} {t t' : TT} (h : PW X e t) (i : ∀ σ H Q, t' σ H Q → t σ H Q) : PW X e t' := ⟨fun wh pins s σ H Q I q => h.run wh pins s σ H Q I (i σ H Q q)⟩
theorem PA.imp {X : Cx} {e : List Expr} {t t' : TA} (h : PA X e t) (i : ∀ σ H Q, t' σ H Q → t σ H Q) : PA X e t' := ⟨fun pos pins s σ H Q I q => h.run pos pins s σ H Q I (i σ H Q q)⟩
theorem PS.imp {X : Cx} {e : Stmt} {t t' : TS} (h : PS X e t) (i : ∀ D σ H, t' D σ H → t D σ H) : PS X e t' := ⟨fun pins s σ H D I q => h.run pins s σ H D I (i D σ H q)⟩
theorem PSs.imp {X : Cx} {e : List Stmt} {t t' : TS} (h : PSs X e t) (i : ∀ D σ H, t' D σ H → t D σ H) : PSs X e t' := ⟨fun pins s σ H D I q => h.run pins s σ H D I (i D σ H q)⟩

/-! ### the heap and the store change together -/
section
variable {K : PySem.W.Frag} {fs : List Addr} {S : Store} {F H : Hp} {p : Addr}
theorem F_none (m : Mt K fs S F H) (hp : H p = none) : F p = none := by
  cases e : F p with
  | none => rfl
  | some o => rw [m.le p o e] at hp; cases hp
theorem fs_none (m : Mt K fs S F H) (hp : H p = none) : p ∉ fs := fun h => m.dom p h hp
theorem RepO.keep {so : SO} {a : Addr} {F' H' : Hp} {fs' : List Addr} (le : ∀ a o, F a = some o → F' a = some o) (pre : ∀ (n : Nat) (a : Addr), fs[n]? = some a → fs'[n]? = some a) (hk : H' a = H a) (h : RepO K F fs H a so) : RepO K F' fs' H' a so := by
  cases so with
  | dead => trivial
  | lst ds => obtain ⟨xs, e, r⟩ := h; exact ⟨xs, hk.trans e, RepL.mono' le pre ds r⟩
  | dct ds => obtain ⟨xs, e, r⟩ := h; exact ⟨xs, hk.trans e, RepKV.mono' le pre ds r⟩
  | dcT ds => obtain ⟨xs, e, r⟩ := h; exact ⟨xs, hk.trans e, RepKV.mono' le pre ds r⟩
  | ins C ds => obtain ⟨dx, xs, e, r⟩ := h; exact ⟨dx, xs, hk.trans e, RepKV.mono' le pre ds r⟩
  | lkd ds => exact h.elim
  | lkT ds => exact h.elim
theorem RepK.keep {so : SO} {a : Addr} {F' : Hp} {fs' : List Addr} (le : ∀ a o, F a = some o → F' a = some o) (pre : ∀ (n : Nat) (a : Addr), fs[n]? = some a → fs'[n]? = some a) (h : RepK K F fs a so) : RepK K F' fs' a so := by
  cases so with
  | lkd ds => obtain ⟨od, xs, e, r⟩ := h; exact ⟨od, xs, le _ _ e, RepKV.mono' le pre ds r⟩
  | lkT ds => obtain ⟨od, xs, e, r⟩ := h; exact ⟨od, xs, le _ _ e, RepKV.mono' le pre ds r⟩
  | _ => exact h.elim
theorem lk_of_rep {so : SO} {a : Addr} {H' : Hp} (h : RepO K F fs H' a so) : so.locked = false := by
  cases so with
  | lkd ds => exact h.elim
  | lkT ds => exact h.elim
  | _ => rfl
/-- a new thing that never changes -/
theorem mt_frz (m : Mt K fs S F H) (hp : H p = none) (o : HO) : Mt K fs S (upd F p o) (upd H p o) ∧ Gr fs F H fs (upd F p o) (upd H p o) := by
  have hF := F_none m hp
  have le : ∀ a o', F a = some o' → upd F p o a = some o' := fun a o' h => by rw [upd_ne (fun z => by subst z; rw [hF] at h; cases h)]; exact h
  refine ⟨⟨m.len, fun a o' h => ?_, fun n so hs hl => ?_, m.inj, fun a h => ?_, fun n so hs hl => let ⟨a, e, r⟩ := m.lk n so hs hl; ⟨a, e, r.keep le fun _ _ h => h⟩, m.lki⟩, ⟨⟨[], by simp⟩, le, fun _ h => .inl h, fun a o' h => ?_, fun a o' h _ => ?_, fun a h => ?_⟩⟩
  · by_cases e : a = p
    · subst e; rw [upd_same] at h ⊢; exact h
    · rw [upd_ne e] at h ⊢; exact m.le a o' h
  · obtain ⟨a, e1, e2, r⟩ := m.ob n so hs hl
    have ne : a ≠ p := fun z => fs_none m hp (z ▸ List.mem_of_getElem? e1)
    exact ⟨a, e1, by rw [upd_ne ne]; exact e2, r.keep le (fun _ _ h => h) (upd_ne ne)⟩
  · by_cases e : a = p
    · subst e; rw [upd_same]; simp
    · rw [upd_ne e]; exact m.dom a h
  · by_cases e : a = p
    · subst e; exact .inr (.inl hp)
    · rw [upd_ne e] at h; exact .inl h
  · rw [upd_ne (fun z => by subst z; rw [hp] at h; cases h)]; exact h
  · by_cases e : a = p
    · subst e; exact hp
    · rw [upd_ne e] at h; exact h
/-- a new thing that changes; H1: the heap with it (and perhaps with what else is new) -/
theorem mt_new {H1 : Hp} {so : SO} (m : Mt K fs S F H) (hp : H p = none) (hk : ∀ a o, H a = some o → H1 a = some o) (hr : RepO K F fs H1 p so) (h1 : H1 p ≠ none) : Mt K (fs ++ [p]) (S ++ [so]) F H1 ∧ Gr fs F H (fs ++ [p]) F H1 := by
  have hF := F_none m hp
  have pre : ∀ (n : Nat) (a : Addr), fs[n]? = some a → (fs ++ [p])[n]? = some a := fun n a h => by
    rw [List.getElem?_append_left (List.getElem?_eq_some_iff.mp h).1]; exact h
  have at1 : ∀ (n : Nat) (s : SO), (S ++ [so])[n]? = some s → (S[n]? = some s ∧ n < fs.length) ∨ (n = fs.length ∧ s = so) := fun n s h => by
    by_cases hn : n < S.length
    · rw [List.getElem?_append_left hn] at h; exact .inl ⟨h, by rw [← m.len]; exact hn⟩
    · rw [List.getElem?_append_right (Nat.le_of_not_lt hn)] at h
      have : n - S.length = 0 := by
        cases q : n - S.length with
        | zero => rfl
        | succ k => rw [q] at h; simp at h
      rw [this] at h; simp at h
      exact .inr ⟨by rw [← m.len]; omega, h.symm⟩
  have atp : (fs ++ [p])[fs.length]? = some p := by simp
  have lks : ∀ (n : Nat) (s : SO), (S ++ [so])[n]? = some s → s.locked = true → S[n]? = some s ∧ n < fs.length := fun n s hs hl => by
    rcases at1 n s hs with h | ⟨_, e⟩
    · exact h
    · rw [e, lk_of_rep hr] at hl; cases hl
  have oldp : ∀ (n : Nat) (b : Addr), n < fs.length → (fs ++ [p])[n]? = some b → fs[n]? = some b := fun n b h e => by
    rw [List.getElem?_append_left h] at e; exact e
  refine ⟨⟨by simp [m.len], fun a o h => hk a o (m.le a o h), fun n s hs hl => ?_, fun n k a s s' hs hl hs' hl' e1 e2 => ?_, fun a h => ?_, fun n s hs hl => let ⟨a, e, r⟩ := m.lk n s (lks n s hs hl).1 hl; ⟨a, pre n a e, r.keep (fun _ _ h => h) pre⟩, fun n k a s s' hs hl hs' hl' e1 e2 => m.lki n k a s s' (lks n s hs hl).1 hl (lks k s' hs' hl').1 hl' (oldp n a (lks n s hs hl).2 e1) (oldp k a (lks k s' hs' hl').2 e2)⟩, ⟨⟨[p], rfl⟩, fun _ _ h => h, fun a h => ?_, fun a o h => .inl h, fun a o h _ => hk a o h, fun a h => ?_⟩⟩
  · rcases at1 n s hs with ⟨hs, _⟩ | ⟨rfl, rfl⟩
    · obtain ⟨a, e1, e2, r⟩ := m.ob n s hs hl
      refine ⟨a, pre n a e1, e2, r.keep (fun _ _ h => h) pre ?_⟩
      cases q : H a with
      | none => exact absurd q (m.dom a (List.mem_of_getElem? e1))
      | some o => exact hk a o q
    · exact ⟨p, atp, hF, hr.keep (fun _ _ h => h) pre rfl⟩
  · have old : ∀ (n : Nat) (s : SO), S[n]? = some s ∧ n < fs.length → (fs ++ [p])[n]? = some a → fs[n]? = some a := fun n s h e => by
      rw [List.getElem?_append_left h.2] at e; exact e
    rcases at1 n s hs with h1 | ⟨rfl, rfl⟩
    · rcases at1 k s' hs' with h2 | ⟨rfl, rfl⟩
      · exact m.inj n k a s s' h1.1 hl h2.1 hl' (old n s h1 e1) (old k s' h2 e2)
      · rw [atp] at e2; cases e2
        exact absurd (List.mem_of_getElem? (old n s h1 e1)) (fs_none m hp)
    · rcases at1 k s' hs' with h2 | ⟨rfl, rfl⟩
      · rw [atp] at e1; cases e1
        exact absurd (List.mem_of_getElem? (old k s' h2 e2)) (fs_none m hp)
      · rfl
  · rcases List.mem_append.mp h with h | h
    · cases q : H a with
      | none => exact absurd q (m.dom a h)
      | some o => rw [hk a o q]; simp
    · rw [List.mem_singleton.mp h]; exact h1
  · rcases List.mem_append.mp h with h | h
    · exact .inl h
    · rw [List.mem_singleton.mp h]; exact .inr hp
  · cases q : H a with
    | none => rfl
    | some o => rw [hk a o q] at h; cases h
/-- the n-th object is another one -/
theorem mt_set {n : Nat} {so so' : SO} {o : HO} (m : Mt K fs S F H) (hs : S[n]? = some so) (hl : so.live = true) (he : fs[n]? = some p) (hr : RepO K F fs (upd H p o) p so') : Mt K fs (S.set n so') F (upd H p o) ∧ Gr fs F H fs F (upd H p o) := by
  obtain ⟨a, e1, e2, r⟩ := m.ob n so hs hl
  rw [he] at e1; cases e1
  have hn : n < S.length := (List.getElem?_eq_some_iff.mp hs).1
  have ap : p ∈ fs := List.mem_of_getElem? he
  have le : ∀ b o', F b = some o' → upd H p o b = some o' := fun b o' h => by rw [upd_ne (fun z => by subst z; rw [e2] at h; cases h)]; exact m.le b o' h
  have sets : ∀ (k : Nat) (s : SO), (S.set n so')[k]? = some s → (k = n ∧ s = so') ∨ (k ≠ n ∧ S[k]? = some s) := fun k s h => by
    by_cases hk : k = n
    · subst hk; rw [List.getElem?_set_self hn] at h; cases h; exact .inl ⟨rfl, rfl⟩
    · rw [List.getElem?_set_ne (Ne.symm hk)] at h; exact .inr ⟨hk, h⟩
  have lks : ∀ (k : Nat) (s : SO), (S.set n so')[k]? = some s → s.locked = true → S[k]? = some s := fun k s hk hv => by
    rcases sets k s hk with ⟨_, e⟩ | ⟨_, h⟩
    · rw [e, lk_of_rep hr] at hv; cases hv
    · exact h
  refine ⟨⟨by rw [List.length_set]; exact m.len, le, fun k s hk hv => ?_, fun i k b s s' hi hv hk hv' e1 e2 => ?_, fun b h => ?_, fun k s hk hv => m.lk k s (lks k s hk hv) hv, fun i k b s s' hi hv hk hv' e1 e2 => m.lki i k b s s' (lks i s hi hv) hv (lks k s' hk hv') hv' e1 e2⟩, ⟨⟨[], by simp⟩, fun _ _ h => h, fun _ h => .inl h, fun _ _ h => .inl h, fun b o' h nb => ?_, fun b h => ?_⟩⟩
  · rcases sets k s hk with ⟨rfl, rfl⟩ | ⟨hkn, hk⟩
    · exact ⟨p, he, e2, hr⟩
    · obtain ⟨b, f1, f2, r'⟩ := m.ob k s hk hv
      have nb : b ≠ p := fun z => by subst z; exact hkn (m.inj k n b s so hk hv hs hl f1 he)
      exact ⟨b, f1, f2, r'.keep (fun _ _ h => h) (fun _ _ h => h) (upd_ne nb)⟩
  · rcases sets i s hi with ⟨a1, a2⟩ | ⟨a1, a2⟩
    · rcases sets k s' hk with ⟨b1, b2⟩ | ⟨b1, b2⟩
      · rw [a1, b1]
      · rw [a1] at e1 ⊢; exact m.inj n k b so s' hs hl b2 hv' e1 e2
    · rcases sets k s' hk with ⟨b1, b2⟩ | ⟨b1, b2⟩
      · rw [b1] at e2 ⊢; exact m.inj i n b s so a2 hv hs hl e1 e2
      · exact m.inj i k b s s' a2 hv b2 hv' e1 e2
  · by_cases e : b = p
    · subst e; rw [upd_same]; simp
    · rw [upd_ne e]; exact m.dom b h
  · rw [upd_ne (fun z => by subst z; exact nb ap)]; exact h
  · by_cases e : b = p
    · subst e; rw [upd_same] at h; cases h
    · rw [upd_ne e] at h; exact h
/-- a list of the store is let go as data -/
theorem mt_let {n : Nat} {ds : List D} (m : Mt K fs S F H) (hs : S[n]? = some (.lst ds)) : ∃ a xs, fs[n]? = some a ∧ H a = some (.lst xs) ∧ RepL K F fs ds xs ∧ Mt K fs (S.set n .dead) (upd F a (.lst xs)) H ∧ Gr fs F H fs (upd F a (.lst xs)) H := by
  obtain ⟨a, e1, e2, xs, e3, r⟩ := m.ob n _ hs rfl
  have hn : n < S.length := (List.getElem?_eq_some_iff.mp hs).1
  have le : ∀ b o', F b = some o' → upd F a (.lst xs) b = some o' := fun b o' h => by rw [upd_ne (fun z => by subst z; rw [e2] at h; cases h)]; exact h
  have sets : ∀ (k : Nat) (s : SO), (S.set n .dead)[k]? = some s → s.live = true → (k ≠ n ∧ S[k]? = some s) := fun k s h hv => by
    by_cases hk : k = n
    · subst hk; rw [List.getElem?_set_self hn] at h; cases h; cases hv
    · rw [List.getElem?_set_ne (Ne.symm hk)] at h; exact ⟨hk, h⟩
  have lks : ∀ (k : Nat) (s : SO), (S.set n .dead)[k]? = some s → s.locked = true → S[k]? = some s := fun k s h hv => by
    by_cases hk : k = n
    · subst hk; rw [List.getElem?_set_self hn] at h; cases h; cases hv
    · rw [List.getElem?_set_ne (Ne.symm hk)] at h; exact h
  refine ⟨a, xs, e1, e3, r, ⟨by rw [List.length_set]; exact m.len, fun b o' h => ?_, fun k s hk hv => ?_, fun i k b s s' hi hv hk hv' f1 f2 => ?_, m.dom, fun k s hk hv => let ⟨b, e, r⟩ := m.lk k s (lks k s hk hv) hv; ⟨b, e, r.keep le fun _ _ h => h⟩, fun i k b s s' hi hv hk hv' f1 f2 => m.lki i k b s s' (lks i s hi hv) hv (lks k s' hk hv') hv' f1 f2⟩, ⟨⟨[], by simp⟩, le, fun _ h => .inl h, fun b o' h => ?_, fun b o' h _ => h, fun b h => h⟩⟩
  · by_cases e : b = a
    · subst e; rw [upd_same] at h; cases h; exact e3
    · rw [upd_ne e] at h; exact m.le b o' h
  · obtain ⟨hkn, hk⟩ := sets k s hk hv
    obtain ⟨b, f1, f2, r'⟩ := m.ob k s hk hv
    have nb : b ≠ a := fun z => by subst z; exact hkn (m.inj k n b s _ hk hv hs rfl f1 e1)
    exact ⟨b, f1, by rw [upd_ne nb]; exact f2, r'.keep le (fun _ _ h => h) rfl⟩
  · exact m.inj i k b s s' (sets i s hi hv).2 hv (sets k s' hk hv').2 hv' f1 f2
  · by_cases e : b = a
    · subst e; exact .inr (.inr (List.mem_of_getElem? e1))
    · rw [upd_ne e] at h; exact .inl h
end
end DL
/-! DL, part 2: expressions. -/
namespace DL
open PySem L2
section
variable {K : PySem.W.Frag} {Ex : Value → Option Addr → Hp → Prop} {F H : Hp} {fs : List Addr} {S : Store} {Q : V → Hp → Prop}

theorem PostG.val {d : D} {v : V} (p : PostG K (Rep K) Ex (.ok d S) fs F H Q) (m : Mt K fs S F H) (r : Rep K F fs d v) : Q v H := p fs F H v (Gr.refl _ _ _) m r
/-- a condition on sizes -/
def gd {α : Type} (c : Prop) [Decidable c] (o : Out α) : Out α := if c then o else .stuck
theorem gd_pos {α : Type} {c : Prop} [Decidable c] {o : Out α} (h : c) : gd c o = o := if_pos h
theorem PostG.gd {α β : Type} {R : Hp → List Addr → α → β → Prop} {c : Prop} [Decidable c] {o : Out α} {Q : β → Hp → Prop} (p : PostG K R Ex (gd c o) fs F H Q) : c ∧ PostG K R Ex o fs F H Q := by
  unfold DL.gd at p
  by_cases h : c
  · rw [if_pos h] at p; exact ⟨h, p⟩
  · rw [if_neg h] at p; exact False.elim p
/-- a new list: as data, or in the store -/
def mkL (b : Bool) (ds : List D) (S : Store) : Out D := if b then .ok (.ref S.length) (S ++ [.lst ds]) else .ok (.lst ds) S
theorem fresh_lst {b : Bool} {ds : List D} {xs : List V} {a : Addr} (m : Mt K fs S F H) (p : PostG K (Rep K) Ex (mkL b ds S) fs F H Q) (r : RepL K F fs ds xs) (ha : H a = none) : Q (.ref a) (upd H a (.lst xs)) := by
  cases b with
  | false =>
    obtain ⟨m', g⟩ := mt_frz m ha (.lst xs)
    exact p _ _ _ _ g m' (by rw [Rep]; exact ⟨a, xs, rfl, upd_same, r.mono g⟩)
  | true =>
    obtain ⟨m', g⟩ := mt_new (so := .lst ds) (H1 := upd H a (.lst xs)) m ha (fun b o h => by rw [upd_ne (ne_of_none h ha)]; exact h) ⟨xs, upd_same, r⟩ (by rw [upd_same]; simp)
    exact p _ _ _ _ g m' (by rw [Rep]; exact ⟨a, rfl, by rw [m.len]; simp⟩)
theorem fresh_tup {ds : List D} {xs : List V} {a : Addr} (m : Mt K fs S F H) (p : PostG K (Rep K) Ex (.ok (.tup ds) S) fs F H Q) (r : RepL K F fs ds xs) (ha : H a = none) : Q (.ref a) (upd H a (.tup xs)) := by
  obtain ⟨m', g⟩ := mt_frz m ha (.tup xs)
  exact p _ _ _ _ g m' (by rw [Rep]; exact ⟨a, xs, rfl, upd_same, r.mono g⟩)
/-- a list that is tracked: data or of the store -/
def asL (d : D) (S : Store) : Option (List D) :=
  match d with
  | .lst ds => some ds
  | .ref n => match S[n]? with
    | some (.lst ds) => some ds
    | _ => none
  | _ => none
theorem asL_ok {d : D} {v : V} {ds : List D} (m : Mt K fs S F H) (r : Rep K F fs d v) (e : asL d S = some ds) : ∃ a xs, v = .ref a ∧ H a = some (.lst xs) ∧ RepL K F fs ds xs := by
  cases d with
  | lst es =>
    rw [Rep] at r; obtain ⟨a, xs, h1, h2, h3⟩ := r
    cases (show some es = some ds from e)
    exact ⟨a, xs, h1, m.le _ _ h2, h3⟩
  | ref n =>
    rw [Rep] at r; obtain ⟨a, h1, h2⟩ := r
    cases q : S[n]? with
    | none => simp [asL, q] at e
    | some so =>
      simp only [asL, q] at e
      cases so with
      | lst es =>
        cases (show some es = some ds from e)
        obtain ⟨b, f1, _, xs, f2, f3⟩ := m.ob n _ q rfl
        rw [h2] at f1; cases f1
        exact ⟨a, xs, h1, f2, f3⟩
      | _ => cases e
  | _ => cases e
/-- a sequence that is read -/
def asSeq (d : D) (S : Store) : Option (List D) :=
  match d with
  | .tup ds => some ds
  | .fz _ ds => some ds
  | d => asL d S
theorem asSeq_ok {d : D} {v : V} {ds : List D} (m : Mt K fs S F H) (r : Rep K F fs d v) (e : asSeq d S = some ds) : ∃ a xs, v = .ref a ∧ (SqL K H a xs ∨ SqT K H a xs) ∧ RepL K F fs ds xs := by
  have lst : asL d S = some ds → ∃ a xs, v = .ref a ∧ (SqL K H a xs ∨ SqT K H a xs) ∧ RepL K F fs ds xs := fun e => by
    obtain ⟨a, xs, h1, h2, h3⟩ := asL_ok m r e
    exact ⟨a, xs, h1, .inl (SqL.of h2), h3⟩
  cases d with
  | tup es =>
    rw [Rep] at r; obtain ⟨a, xs, h1, h2, h3⟩ := r
    cases (show some es = some ds from e)
    exact ⟨a, xs, h1, .inr (SqT.of (m.le _ _ h2)), h3⟩
  | fz t es =>
    rw [Rep] at r; obtain ⟨a, xs, h1, h2, h3⟩ := r
    cases (show some es = some ds from e)
    cases t with
    | true => exact ⟨a, xs, h1, .inr (SqT.mono m.le h2), h3⟩
    | false => exact ⟨a, xs, h1, .inl (SqL.mono m.le h2), h3⟩
  | _ => exact lst e
/-- a dict -/
def asD (d : D) (S : Store) : Option (List (Key × D)) :=
  match d with
  | .ref n => match S[n]? with
    | some (.dct kvs) => some kvs
    | _ => none
  | _ => none
def asDT (d : D) (S : Store) : Option (List (List Key × D)) :=
  match d with
  | .ref n => match S[n]? with
    | some (.dcT kvs) => some kvs
    | _ => none
  | _ => none
theorem asD_ok {d : D} {v : V} {kvs : List (Key × D)} (m : Mt K fs S F H) (r : Rep K F fs d v) (e : asD d S = some kvs) : ∃ a vs, v = .ref a ∧ H a = some (.dK vs) ∧ RepKV K F fs kvs vs := by
  cases d with
  | ref n =>
    rw [Rep] at r; obtain ⟨a, h1, h2⟩ := r
    cases q : S[n]? with
    | none => simp [asD, q] at e
    | some so =>
      simp only [asD, q] at e
      cases so with
      | dct es =>
        cases (show some es = some kvs from e)
        obtain ⟨b, f1, _, xs, f2, f3⟩ := m.ob n _ q rfl
        rw [h2] at f1; cases f1
        exact ⟨a, xs, h1, f2, f3⟩
      | _ => cases e
  | _ => cases e
theorem asDT_ok {d : D} {v : V} {kvs : List (List Key × D)} (m : Mt K fs S F H) (r : Rep K F fs d v) (e : asDT d S = some kvs) : ∃ a vs, v = .ref a ∧ H a = some (.dT vs) ∧ RepKV K F fs kvs vs := by
  cases d with
  | ref n =>
    rw [Rep] at r; obtain ⟨a, h1, h2⟩ := r
    cases q : S[n]? with
    | none => simp [asDT, q] at e
    | some so =>
      simp only [asDT, q] at e
      cases so with
      | dcT es =>
        cases (show some es = some kvs from e)
        obtain ⟨b, f1, _, xs, f2, f3⟩ := m.ob n _ q rfl
        rw [h2] at f1; cases f1
        exact ⟨a, xs, h1, f2, f3⟩
      | _ => cases e
  | _ => cases e
/-- what a dict has at a key; with a value stored; without a key -/
def lk {κ : Type} [DecidableEq κ] (kvs : List (κ × D)) (k : κ) : Option D := (kvs.find? fun kv => decide (kv.1 = k)).map (·.2)
def putD {κ : Type} [DecidableEq κ] (kvs : List (κ × D)) (k : κ) (v : D) : List (κ × D) :=
  if (kvs.any fun kv => decide (kv.1 = k)) = true then kvs.map (fun kv => if kv.1 = k then (kv.1, v) else kv) else kvs ++ [(k, v)]
def dropD {κ : Type} [DecidableEq κ] (kvs : List (κ × D)) (k : κ) : List (κ × D) := kvs.filter fun kv => decide (kv.1 ≠ k)
def RepOp (K : PySem.W.Frag) (F : Hp) (fs : List Addr) : Option D → Option V → Prop
  | none, o => o = none
  | some d, o => ∃ v, o = some v ∧ Rep K F fs d v
theorem RepKV.lk {κ : Type} [DecidableEq κ] (k : κ) : ∀ {kvs : List (κ × D)} {vs : List (κ × V)}, RepKV K F fs kvs vs → RepOp K F fs (lk kvs k) (valV vs k)
  | [], _, h => by cases (show _ = [] from h); rfl
  | p :: ps, _, ⟨x, xr, e, r, t⟩ => by
    subst e
    have ih := RepKV.lk k t
    by_cases e : p.1 = k
    · have h1 : DL.lk (p :: ps) k = some p.2 := by simp [DL.lk, List.find?_cons, e]
      rw [h1]
      exact ⟨x, valV_pos e, r⟩
    · have h1 : DL.lk (p :: ps) k = DL.lk ps k := by simp [DL.lk, List.find?_cons, e]
      rw [h1, valV_neg (p := (p.1, x)) e]
      exact ih
theorem RepKV.keys {κ : Type} : ∀ {kvs : List (κ × D)} {vs : List (κ × V)}, RepKV K F fs kvs vs → vs.map (·.1) = kvs.map (·.1)
  | [], _, h => by cases (show _ = [] from h); rfl
  | p :: ps, _, ⟨x, xr, e, r, t⟩ => by subst e; simp [RepKV.keys t]
theorem RepKV.length {κ : Type} {kvs : List (κ × D)} {vs : List (κ × V)} (h : RepKV K F fs kvs vs) : vs.length = kvs.length := by
  have := congrArg List.length h.keys
  simpa using this
theorem RepKV.append {κ : Type} : ∀ {kvs ls : List (κ × D)} {vs ws : List (κ × V)}, RepKV K F fs kvs vs → RepKV K F fs ls ws → RepKV K F fs (kvs ++ ls) (vs ++ ws)
  | [], _, _, _, h, t => by cases (show _ = [] from h); exact t
  | p :: ps, _, _, _, ⟨x, xr, e, r, t⟩, t' => by subst e; exact ⟨x, xr ++ _, rfl, r, RepKV.append t t'⟩
theorem RepKV.map {κ : Type} [DecidableEq κ] {k : κ} {d : D} {v : V} (rv : Rep K F fs d v) : ∀ {kvs : List (κ × D)} {vs : List (κ × V)}, RepKV K F fs kvs vs → RepKV K F fs (kvs.map fun kv => if kv.1 = k then (kv.1, d) else kv) (vs.map fun kv => if kv.1 = k then (kv.1, v) else kv)
  | [], _, h => by cases (show _ = [] from h); rfl
  | p :: ps, _, ⟨x, xr, e, r, t⟩ => by
    subst e
    have ih := RepKV.map (k := k) rv t
    rw [List.map_cons, List.map_cons]
    by_cases e : p.1 = k
    · rw [if_pos e, if_pos (show (p.1, x).1 = k from e)]; exact ⟨v, _, rfl, rv, ih⟩
    · rw [if_neg e, if_neg (show ¬ (p.1, x).1 = k from e)]; exact ⟨x, _, rfl, r, ih⟩
theorem any_keys {κ : Type} [DecidableEq κ] {β : Type} (k : κ) (kvs : List (κ × β)) : (kvs.any fun kv => decide (kv.1 = k)) = (kvs.map (·.1)).any fun j => decide (j = k) := by
  rw [List.any_map]; rfl
theorem RepKV.put {κ : Type} [DecidableEq κ] {k : κ} {d : D} {v : V} {kvs : List (κ × D)} {vs : List (κ × V)} (rv : Rep K F fs d v) (h : RepKV K F fs kvs vs) : RepKV K F fs (putD kvs k d) (putK vs k v) := by
  unfold putD putK
  rw [any_keys k kvs, any_keys k vs, h.keys]
  split
  · exact RepKV.map rv h
  · exact RepKV.append h ⟨v, [], rfl, rv, rfl⟩
theorem RepKV.drop {κ : Type} [DecidableEq κ] {k : κ} : ∀ {kvs : List (κ × D)} {vs : List (κ × V)}, RepKV K F fs kvs vs → RepKV K F fs (dropD kvs k) (dropK vs k)
  | [], _, h => by cases (show _ = [] from h); rfl
  | p :: ps, _, ⟨x, xr, e, r, t⟩ => by
    subst e
    have ih := RepKV.drop (k := k) t
    unfold dropD dropK at *
    rw [List.filter_cons, List.filter_cons]
    by_cases e : p.1 = k
    · rw [if_neg (by simp [e]), if_neg (by simp [e])]; exact ih
    · rw [if_pos (by simp [e]), if_pos (by simp [e])]; exact ⟨x, _, rfl, r, ih⟩
/-- a key -/
def keyD : D → Option Key
  | .int i => some (.inl i)
  | .str s => some (.inr s)
  | _ => none
theorem keyD_ok {d : D} {v : V} {k : Key} (r : Rep K F fs d v) (e : keyD d = some k) : v = kV k := by
  cases d with
  | int i => rw [Rep] at r; cases (show some (Sum.inl i) = some k from e); exact r
  | str i => rw [Rep] at r; cases (show some (Sum.inr i) = some k from e); exact r
  | _ => cases e
def keysD : List D → Option (List Key)
  | [] => some []
  | d :: ds => match keyD d, keysD ds with
    | some k, some ks => some (k :: ks)
    | _, _ => none
theorem keysD_ok : ∀ {ds : List D} {xs : List V} {ks : List Key}, RepL K F fs ds xs → keysD ds = some ks → xs = ks.map kV
  | [], _, _, r, e => by
    rw [RepL] at r; subst r
    cases (show some [] = some _ from e); rfl
  | d :: ds, _, ks, r, e => by
    rw [RepL] at r; obtain ⟨x, xr, rfl, h1, h2⟩ := r
    unfold keysD at e
    cases e1 : keyD d with
    | none => rw [e1] at e; cases e
    | some k =>
      cases e2 : keysD ds with
      | none => rw [e1, e2] at e; cases e
      | some ks' =>
        rw [e1, e2] at e; cases e
        rw [keyD_ok h1 e1, keysD_ok h2 e2]; rfl
def keyT : D → Option (List Key)
  | .tup ds => keysD ds
  | _ => none
theorem keyT_ok {d : D} {v : V} {k : List Key} (m : Mt K fs S F H) (r : Rep K F fs d v) (e : keyT d = some k) : ∃ b, v = .ref b ∧ H b = some (.tup (k.map kV)) := by
  cases d with
  | tup ds =>
    rw [Rep] at r; obtain ⟨a, xs, h1, h2, h3⟩ := r
    have := keysD_ok h3 e
    subst this
    exact ⟨a, h1, m.le _ _ h2⟩
  | _ => cases e
/-- a dict to be read, locked or not -/
def asDr (d : D) (S : Store) : Option (List (Key × D)) :=
  match d with
  | .ref n => match S[n]? with
    | some (.dct kvs) => some kvs
    | some (.lkd kvs) => some kvs
    | _ => none
  | _ => none
def asDTr (d : D) (S : Store) : Option (List (List Key × D)) :=
  match d with
  | .ref n => match S[n]? with
    | some (.dcT kvs) => some kvs
    | some (.lkT kvs) => some kvs
    | _ => none
  | _ => none
theorem asDr_ok {d : D} {v : V} {kvs : List (Key × D)} (m : Mt K fs S F H) (r : Rep K F fs d v) (e : asDr d S = some kvs) : ∃ a vs, v = .ref a ∧ Rd H a (.dK vs) ∧ RepKV K F fs kvs vs := by
  cases d with
  | ref n =>
    rw [Rep] at r; obtain ⟨a, h1, h2⟩ := r
    cases q : S[n]? with
    | none => simp [asDr, q] at e
    | some so =>
      simp only [asDr, q] at e
      cases so with
      | dct es =>
        cases (show some es = some kvs from e)
        obtain ⟨b, f1, _, xs, f2, f3⟩ := m.ob n _ q rfl
        rw [h2] at f1; cases f1
        exact ⟨a, xs, h1, .inl f2, f3⟩
      | lkd es =>
        cases (show some es = some kvs from e)
        obtain ⟨b, f1, od, xs, f2, f3⟩ := m.lk n _ q rfl
        rw [h2] at f1; cases f1
        exact ⟨a, xs, h1, .inr ⟨od, m.le _ _ f2⟩, f3⟩
      | _ => cases e
  | _ => cases e
theorem asDTr_ok {d : D} {v : V} {kvs : List (List Key × D)} (m : Mt K fs S F H) (r : Rep K F fs d v) (e : asDTr d S = some kvs) : ∃ a vs, v = .ref a ∧ Rd H a (.dT vs) ∧ RepKV K F fs kvs vs := by
  cases d with
  | ref n =>
    rw [Rep] at r; obtain ⟨a, h1, h2⟩ := r
    cases q : S[n]? with
    | none => simp [asDTr, q] at e
    | some so =>
      simp only [asDTr, q] at e
      cases so with
      | dcT es =>
        cases (show some es = some kvs from e)
        obtain ⟨b, f1, _, xs, f2, f3⟩ := m.ob n _ q rfl
        rw [h2] at f1; cases f1
        exact ⟨a, xs, h1, .inl f2, f3⟩
      | lkT es =>
        cases (show some es = some kvs from e)
        obtain ⟨b, f1, od, xs, f2, f3⟩ := m.lk n _ q rfl
        rw [h2] at f1; cases f1
        exact ⟨a, xs, h1, .inr ⟨od, m.le _ _ f2⟩, f3⟩
      | _ => cases e
  | _ => cases e
/-- what stands at a key; none: no dict, or no key of its kind -/
def dGet (d k : D) (S : Store) : Option (Option D) :=
  match asDr d S, asDTr d S with
  | some kvs, _ => (keyD k).map fun j => lk kvs j
  | _, some kvs => (keyT k).map fun j => lk kvs j
  | _, _ => none
theorem dGet_ok {d k : D} {v u : V} {o : Option D} (m : Mt K fs S F H) (r : Rep K F fs d v) (q : Rep K F fs k u) (e : dGet d k S = some o) : ∃ a ov, v = .ref a ∧ DGet H a u ov ∧ RepOp K F fs o ov := by
  unfold dGet at e
  cases e1 : asDr d S with
  | some kvs =>
    rw [e1] at e
    obtain ⟨a, vs, h1, h2, h3⟩ := asDr_ok m r e1
    cases e2 : keyD k with
    | none => rw [e2] at e; cases e
    | some j =>
      rw [e2] at e
      cases (show some (lk kvs j) = some o from e)
      have := keyD_ok q e2
      subst this
      exact ⟨a, _, h1, (.inl ⟨vs, j, h2, rfl, rfl⟩), h3.lk j⟩
  | none =>
    cases e1' : asDTr d S with
    | none => rw [e1, e1'] at e; cases e
    | some kvs =>
      rw [e1, e1'] at e
      obtain ⟨a, vs, h1, h2, h3⟩ := asDTr_ok m r e1'
      cases e2 : keyT k with
      | none => rw [e2] at e; cases e
      | some j =>
        rw [e2] at e
        cases (show some (lk kvs j) = some o from e)
        obtain ⟨b, rfl, hb⟩ := keyT_ok m q e2
        exact ⟨a, valV vs j, h1, (.inr ⟨vs, j, b, h2, rfl, hb, rfl⟩), h3.lk j⟩
/-- flat data -/
def flat : D → Option V
  | .non => some .non
  | .bl b => some (.bl b)
  | .int i => some (.int i)
  | .str s => some (.str s)
  | _ => none
theorem flat_ok {d : D} {v x : V} (r : Rep K F fs d v) (e : flat d = some x) : v = x := by
  cases d with
  | non => rw [Rep] at r; cases (show some V.non = some x from e); exact r
  | bl b => rw [Rep] at r; cases (show some (V.bl b) = some x from e); exact r
  | int i => rw [Rep] at r; cases (show some (V.int i) = some x from e); exact r
  | str i => rw [Rep] at r; cases (show some (V.str i) = some x from e); exact r
  | _ => cases e
theorem flat_flat {d : D} {x : V} (e : flat d = some x) : flatV x = true := by
  cases d with
  | non => cases (show some V.non = some x from e); rfl
  | bl b => cases (show some (V.bl b) = some x from e); rfl
  | int i => cases (show some (V.int i) = some x from e); rfl
  | str i => cases (show some (V.str i) = some x from e); rfl
  | _ => cases e
def flats : List D → Option (List V)
  | [] => some []
  | d :: ds => match flat d, flats ds with
    | some k, some ks => some (k :: ks)
    | _, _ => none
theorem flats_ok : ∀ {ds : List D} {xs ks : List V}, RepL K F fs ds xs → flats ds = some ks → xs = ks ∧ ks.all flatV = true
  | [], _, _, r, e => by
    rw [RepL] at r; subst r
    cases (show some [] = some _ from e); exact ⟨rfl, rfl⟩
  | d :: ds, _, ks, r, e => by
    rw [RepL] at r; obtain ⟨x, xr, rfl, h1, h2⟩ := r
    unfold flats at e
    cases e1 : flat d with
    | none => rw [e1] at e; cases e
    | some k =>
      cases e2 : flats ds with
      | none => rw [e1, e2] at e; cases e
      | some ks' =>
        rw [e1, e2] at e; cases e
        obtain ⟨a, b⟩ := flats_ok h2 e2
        rw [flat_ok h1 e1, a]
        exact ⟨rfl, by rw [List.all_cons, flat_flat e1, b]; rfl⟩
end

/-! ### operations by values -/
structure OpD (K : PySem.W.Frag) (r : R2) (op : D → D → Store → Out D) : Prop where
  run : ∀ (Ex : Value → Option Addr → Hp → Prop) (fs : List Addr) (F : Hp) (S : Store) (H : Hp) (d1 d2 : D) (v1 v2 : V) (Q : VK), Mt K fs S F H → Rep K F fs d1 v1 → Rep K F fs d2 v2 → PostG K (Rep K) Ex (op d1 d2 S) fs F H Q → r v1 v2 H Q
structure OpL (K : PySem.W.Frag) (r : List V → Hp → VK → Prop) (op : List D → Store → Out D) : Prop where
  run : ∀ (Ex : Value → Option Addr → Hp → Prop) (fs : List Addr) (F : Hp) (S : Store) (H : Hp) (ds : List D) (vs : List V) (Q : VK), Mt K fs S F H → RepL K F fs ds vs → PostG K (Rep K) Ex (op ds S) fs F H Q → r vs H Q
def ev2 (op : D → D → Store → Out D) (f g : EvE) : EvE := fun σ S => (f σ S).bind fun a S1 => (g σ S1).bind fun b S2 => op a b S2
def ev1 (op : D → Store → Out D) (f : EvE) : EvE := fun σ S => (f σ S).bind op
def evL (op : List D → Store → Out D) (f : EvL) : EvE := fun σ S => (f σ S).bind op
def evB (f : EvE) : EvB := fun σ S => (f σ S).bind fun d S1 => match d with
  | .bl b => .ok b S1
  | _ => .stuck
theorem tOp_of {K : PySem.W.Frag} {W : WX} {r : R2} {op : D → D → Store → Out D} {f g : EvE} {σ : St} {H : Hp} {Q : VK} (hd : OpD K r op) (h : tE K W (ev2 op f g) σ H Q) : tOp r (tE K W f) (tE K W g) σ H Q := by
  obtain ⟨fs, F, σ', S, rs, m, p⟩ := h
  exact tG.bind rs m p fun a S1 fs1 F1 H1 v rs1 m1 g1 r1 p1 => tG.bind rs1 m1 p1 fun b S2 fs2 F2 H2 u rs2 m2 g2 r2 p2 => hd.run _ _ _ _ _ _ _ _ _ _ m2 (r1.mono g2) r2 p2
theorem tCB_of {K : PySem.W.Frag} {W : WX} {r : List V → Hp → VK → Prop} {op : List D → Store → Out D} {f : EvL} {σ : St} {H : Hp} {Q : VK} (hd : OpL K r op) (h : tE K W (evL op f) σ H Q) : tCB r (tA K W f) σ H Q := by
  obtain ⟨fs, F, σ', S, rs, m, p⟩ := h
  exact tG.bind rs m p fun a S1 fs1 F1 H1 v rs1 m1 g1 r1 p1 => hd.run _ _ _ _ _ _ _ _ m1 r1 p1
theorem tTest_of {K : PySem.W.Frag} {W : WX} {f : EvE} {σ : St} {H : Hp} {Q : Bool → Hp → Prop} (h : tT K W (evB f) σ H Q) : tE K W f σ H fun x H' => ∃ k, x = .bl k ∧ Q k H' := by
  obtain ⟨fs, F, σ', S, rs, m, p⟩ := h
  refine tG.bind rs m p fun a S1 fs1 F1 H1 v rs1 m1 g1 r1 p1 => ?_
  cases a with
  | bl b => rw [Rep] at r1; exact ⟨b, r1, p1 _ _ _ _ (Gr.refl _ _ _) m1 rfl⟩
  | _ => exact False.elim p1

section
variable {X : Cx} {W : WX} {e a b c : Expr} {es : List Expr} {f g h' : EvE} {pos : Pos}
def evVar (i : Nat) : EvE := fun σ S => match σ[i]? with
  | some (some d) => .ok d S
  | _ => .stuck
theorem je_var {i : Nat} (h : PE X e (tVar i)) : JE X W e (evVar i) := PE.imp h fun σv H Q ⟨fs, F, σ, S, rs, m, p⟩ => by
  unfold evVar at p
  cases q : σ[i]? with
  | none => rw [q] at p; exact False.elim p
  | some o =>
    cases o with
    | none => rw [q] at p; exact False.elim p
    | some d =>
      rw [q] at p
      obtain ⟨v, e1, r⟩ := rs.at' i d q
      exact ⟨v, e1, p.val m r⟩
/-- a list that a def has filled is let go as data -/
def evLet (i : Nat) : EvE := fun σ S => match σ[i]? with
  | some (some (.ref n)) => match S[n]? with
    | some (.lst ds) => .ok (.lst ds) (S.set n .dead)
    | _ => .stuck
  | _ => .stuck
theorem je_let {i : Nat} (h : PE X e (tVar i)) : JE X W e (evLet i) := PE.imp h fun σv H Q ⟨fs, F, σ, S, rs, m, p⟩ => by
  unfold evLet at p
  cases q : σ[i]? with
  | none => rw [q] at p; exact False.elim p
  | some o =>
    cases o with
    | none => rw [q] at p; exact False.elim p
    | some d =>
      cases d with
      | ref n =>
        rw [q] at p
        cases q2 : S[n]? with
        | none => simp only [q2] at p; exact False.elim p
        | some so =>
          cases so with
          | lst ds =>
            simp only [q2] at p
            obtain ⟨v, e1, r⟩ := rs.at' i _ q
            obtain ⟨a, xs, h1, h2, h3, h4, h5⟩ := mt_let m q2
            rw [Rep] at r
            obtain ⟨a', rfl, r2⟩ := r
            rw [h1] at r2; cases r2
            exact ⟨_, e1, p _ _ _ _ h5 h4 (by rw [Rep]; exact ⟨a, xs, rfl, upd_same, h3.mono h5⟩)⟩
          | _ => simp only [q2] at p; exact False.elim p
      | _ => rw [q] at p; exact False.elim p
def evC (d : D) : EvE := fun _ S => .ok d S
theorem je_c {v : V} {d : D} (h : PE X e (tC v)) (r : ∀ F fs, Rep X.K F fs d v) : JE X W e (evC d) := PE.imp h fun σv H Q ⟨fs, F, σ, S, rs, m, p⟩ => p.val m (r F fs)
theorem je_int {i : Int} {j : Nat} : JE X W (.Constant (.int i) j pos) (evC (.int i)) := je_c pe_int fun _ _ => by rw [Rep]
theorem je_bl {i : Bool} {j : Nat} : JE X W (.Constant (.bool i) j pos) (evC (.bl i)) := je_c pe_bl fun _ _ => by rw [Rep]
theorem je_str {i : Str} {j : Nat} : JE X W (.Constant (.str i) j pos) (evC (.str i)) := je_c pe_str fun _ _ => by rw [Rep]
theorem je_non {j : Nat} : JE X W (.Constant .none j pos) (evC .non) := je_c pe_non fun _ _ => by rw [Rep]
theorem je_gint {i : Int} (h : PE X e (tC (.int i))) : JE X W e (evC (.int i)) := je_c h fun _ _ => by rw [Rep]
theorem je_gstr {i : Str} (h : PE X e (tC (.str i))) : JE X W e (evC (.str i)) := je_c h fun _ _ => by rw [Rep]
theorem je_gty {n : String} (h : PE X e (tC (.ty n))) : JE X W e (evC (.ty n)) := je_c h fun _ _ => by rw [Rep]
theorem je_gadr {a : Addr} (h : PE X e (tC (.ref a))) : JE X W e (evC (.adr a)) := je_c h fun _ _ => by rw [Rep]
def evNil : EvL := fun _ S => .ok [] S
def evCons (f : EvE) (g : EvL) : EvL := fun σ S => (f σ S).bind fun a S1 => (g σ S1).bind fun b S2 => .ok (a :: b) S2
theorem ja_nil : JA X W [] evNil := PA.imp pa_nil fun σv H Q ⟨fs, F, σ, S, rs, m, p⟩ => p fs F H [] (Gr.refl _ _ _) m RepL.nil
theorem ja_cons {gl : EvL} (h1 : JE X W e f) (h2 : JA X W es gl) (hs : starEach (e :: es) X.env = (false, eval e X.env) :: starEach es X.env := by rfl) : JA X W (e :: es) (evCons f gl) :=
  PA.imp (pa_cons h1 h2 hs) fun σv H Q ⟨fs, F, σ, S, rs, m, p⟩ => tG.bind rs m p fun a S1 fs1 F1 H1 v rs1 m1 g1 r1 p1 => tG.bind rs1 m1 p1 fun b S2 fs2 F2 H2 u rs2 m2 g2 r2 p2 =>
    p2 _ _ _ _ (Gr.refl _ _ _) m2 (RepL.cons (r1.mono g2) r2)
def opLst (m : Bool) (ds : List D) (S : Store) : Out D := gd (ds.length ≤ sizeLine) (mkL m ds S)
def opTup (ds : List D) (S : Store) : Out D := gd (ds.length ≤ sizeLine) (.ok (.tup ds) S)
theorem je_lst {gl : EvL} (mm : Bool) (h : JA X W es gl) : JE X W (.List es pos) (evL (opLst mm) gl) :=
  PE.imp (pe_lst h) fun σv H Q ⟨fs, F, σ, S, rs, m, p⟩ => tG.bind rs m p fun a S1 fs1 F1 H1 v rs1 m1 g1 r1 p1 => by
    obtain ⟨hz, p2⟩ := p1.gd
    exact ⟨by rw [r1.length]; exact hz, fun q hq => fresh_lst m1 p2 r1 hq⟩
theorem je_tup {gl : EvL} {x1} (h : JA X W es gl) : JE X W (.Tuple es x1 pos) (evL opTup gl) :=
  PE.imp (pe_tup h) fun σv H Q ⟨fs, F, σ, S, rs, m, p⟩ => tG.bind rs m p fun a S1 fs1 F1 H1 v rs1 m1 g1 r1 p1 => by
    obtain ⟨hz, p2⟩ := p1.gd
    exact ⟨by rw [r1.length]; exact hz, fun q hq => fresh_tup m1 p2 r1 hq⟩
theorem je_op {op : Operator} {r : R2} {od : D → D → Store → Out D} (ho : OpR X (binaryOp op) r) (hd : OpD X.K r od) (ha : JE X W a f) (hb : JE X W b g) : JE X W (.BinOp a op b pos) (ev2 od f g) :=
  PE.imp (pe_op ho ha hb) fun _ _ _ q => tOp_of hd q
theorem je_cmp {op : CmpOp} {r : R2} {od : D → D → Store → Out D} (ho : OpR X (compareOp op) r) (hd : OpD X.K r od) (ha : JE X W a f) (hb : JE X W b g) (hm : behindInMarks op b = false) : JE X W (.Compare a [op] [b] pos) (ev2 od f g) :=
  PE.imp (pe_cmpR ho ha hb hm) fun _ _ _ q => tOp_of hd q
theorem jt_cmp {op : CmpOp} {r : R2} {od : D → D → Store → Out D} (ho : OpR X (compareOp op) r) (hd : OpD X.K r od) (ha : JE X W a f) (hb : JE X W b g) (hm : behindInMarks op b = false) : JT X W (.Compare a [op] [b] pos) (evB (ev2 od f g)) :=
  PT.imp (pt_cmpR ho ha hb hm) fun _ _ _ q => tOp_of hd (tTest_of q)
theorem jt_val (h : JE X W e f) (he : ∀ whole, isTrue e X.env whole = (do let v ← whole; standAt e.pos; holding [v] (truthy v)) := by intro _; rfl) : JT X W e (evB f) :=
  PT.imp (pt_val h he) fun _ _ _ q => tTest_of q
/-- a op1 b op2 c -/
def evChain (o1 o2 : D → D → Store → Out D) (f g h : EvE) : EvE := fun σ S => (f σ S).bind fun a S1 => (g σ S1).bind fun b S2 => (o1 a b S2).bind fun t S3 => match t with
  | .bl true => (h σ S3).bind fun c S4 => o2 b c S4
  | .bl false => .ok (.bl false) S3
  | _ => .stuck
/-- an operation's outcome goes on -/
theorem OpD.bind {K : PySem.W.Frag} {r : R2} {op : D → D → Store → Out D} (hd : OpD K r op) {Ex : Value → Option Addr → Hp → Prop} {fs : List Addr} {F : Hp} {S : Store} {H : Hp} {d1 d2 : D} {v1 v2 : V} {Q Q' : VK} {k : D → Store → Out D}
    (m : Mt K fs S F H) (r1 : Rep K F fs d1 v1) (r2 : Rep K F fs d2 v2) (p : PostG K (Rep K) Ex ((op d1 d2 S).bind k) fs F H Q')
    (cont : ∀ a S1 fs1 F1 H1 v, Mt K fs1 S1 F1 H1 → Gr fs F H fs1 F1 H1 → Rep K F1 fs1 a v → PostG K (Rep K) Ex (k a S1) fs1 F1 H1 Q' → Q v H1) : r v1 v2 H Q := by
  refine hd.run Ex fs F S H d1 d2 v1 v2 Q m r1 r2 ?_
  cases e : op d1 d2 S with
  | stuck => rw [e] at p; exact p
  | ok x S1 => rw [e] at p; exact fun fs1 F1 H1 v g1 m1 r1 => cont x S1 fs1 F1 H1 v m1 g1 r1 (PostG.grow p g1)
  | exc C d S1 => rw [e] at p; exact p
theorem tChain_of {K : PySem.W.Frag} {r r' : R2} {o1 o2 : D → D → Store → Out D} (hd : OpD K r o1) (hd' : OpD K r' o2) {f g h : EvE} {σ : St} {H : Hp} {Q : VK} (q : tE K W (evChain o1 o2 f g h) σ H Q) : tChain r r' (tE K W f) (tE K W g) (tE K W h) σ H Q := by
  obtain ⟨fs, F, σ', S, rs, m, p⟩ := q
  refine tG.bind rs m p fun x S1 fs1 F1 H1 v rs1 m1 g1 r1 p1 => tG.bind rs1 m1 p1 fun y S2 fs2 F2 H2 u rs2 m2 g2 r2 p2 => ?_
  refine hd.bind m2 (r1.mono g2) r2 p2 fun t S3 fs3 F3 H3 w m3 g3 r3 p3 => ?_
  cases t with
  | bl k =>
    rw [Rep] at r3
    refine ⟨k, r3, ?_⟩
    cases k with
    | true =>
      rw [if_pos rfl]
      exact tG.bind (rs2.mono g3) m3 p3 fun z S4 fs4 F4 H4 w4 rs4 m4 g4 r4 p4 => hd'.run _ _ _ _ _ _ _ _ _ _ m4 ((r2.mono g3).mono g4) r4 p4
    | false =>
      rw [if_neg Bool.false_ne_true]
      exact p3.val m3 (by rw [Rep])
  | _ => exact False.elim p3
theorem je_chain {op op' : CmpOp} {r r' : R2} {o1 o2 : D → D → Store → Out D} (ho : OpR X (compareOp op) r) (hd : OpD X.K r o1) (ho' : OpR X (compareOp op') r') (hd' : OpD X.K r' o2) (ha : JE X W a f) (hb : JE X W b g) (hc : JE X W c h')
    (hm : lastMarks [op, op'] [b, c] = false := by with_unfolding_all rfl) : JE X W (.Compare a [op, op'] [b, c] pos) (evChain o1 o2 f g h') :=
  PE.imp (pe_chain ho ho' ha hb hc hm) fun _ _ _ q => tChain_of hd hd' q
theorem jt_chain {op op' : CmpOp} {r r' : R2} {o1 o2 : D → D → Store → Out D} (ho : OpR X (compareOp op) r) (hd : OpD X.K r o1) (ho' : OpR X (compareOp op') r') (hd' : OpD X.K r' o2) (ha : JE X W a f) (hb : JE X W b g) (hc : JE X W c h')
    (hm : lastMarks [op, op'] [b, c] = false := by with_unfolding_all rfl) : JT X W (.Compare a [op, op'] [b, c] pos) (evB (evChain o1 o2 f g h')) :=
  PT.imp (pt_chain ho ho' ha hb hc hm) fun _ _ _ q => tChain_of hd hd' (tTest_of q)

/-! ### and, or, not, if -/
def evAnd (f g : EvB) : EvB := fun σ S => (f σ S).bind fun b S1 => match b with
  | true => g σ S1
  | false => .ok false S1
def evOr (f g : EvB) : EvB := fun σ S => (f σ S).bind fun b S1 => match b with
  | true => .ok true S1
  | false => g σ S1
def evNot (f : EvB) : EvB := fun σ S => (f σ S).bind fun b S1 => .ok (!b) S1
abbrev JW (X : Cx) (W : WX) (e : Expr) (ev : EvB) : Prop := PW X e (tT X.K W ev)
variable {rest : List Expr} {F1 G1 : EvB}
theorem jw_and1 (h : JT X W a F1) : JW X W (.BoolOp .And [a] pos) F1 := pw_and1 h
theorem jw_or1 (h : JT X W a F1) : JW X W (.BoolOp .Or [a] pos) F1 := pw_or1 h
theorem jw_and (h : JT X W a F1) (t : JW X W (.BoolOp .And (b :: rest) pos) G1) : JW X W (.BoolOp .And (a :: b :: rest) pos) (evAnd F1 G1) :=
  PW.imp (pw_and h t) fun σv H Q ⟨fs, F, σ, S, rs, m, p⟩ => tG.bind rs m p fun x S1 fs1 F1 H1 v rs1 m1 g1 r1 p1 => by
    cases (show x = v from r1)
    cases x with
    | true => rw [if_pos rfl]; exact ⟨_, _, _, _, rs1, m1, p1⟩
    | false => rw [if_neg Bool.false_ne_true]; exact p1 _ _ _ _ (Gr.refl _ _ _) m1 rfl
theorem jw_or (h : JT X W a F1) (t : JW X W (.BoolOp .Or (b :: rest) pos) G1) : JW X W (.BoolOp .Or (a :: b :: rest) pos) (evOr F1 G1) :=
  PW.imp (pw_or h t) fun σv H Q ⟨fs, F, σ, S, rs, m, p⟩ => tG.bind rs m p fun x S1 fs1 F1 H1 v rs1 m1 g1 r1 p1 => by
    cases (show x = v from r1)
    cases x with
    | true => rw [if_pos rfl]; exact p1 _ _ _ _ (Gr.refl _ _ _) m1 rfl
    | false => rw [if_neg Bool.false_ne_true]; exact ⟨_, _, _, _, rs1, m1, p1⟩
theorem jt_w (h : JW X W e F1) : JT X W e F1 := h.pt
theorem jt_not (h : JT X W a F1) : JT X W (.UnaryOp .Not a pos) (evNot F1) :=
  PT.imp (pt_not h) fun σv H Q ⟨fs, F, σ, S, rs, m, p⟩ => tG.bind rs m p fun x S1 fs1 F1 H1 v rs1 m1 g1 r1 p1 => by
    cases (show x = v from r1)
    exact p1 _ _ _ _ (Gr.refl _ _ _) m1 rfl
/-- .. as values -/
def evAndV (f g : EvE) : EvE := fun σ S => (f σ S).bind fun d S1 => match d with
  | .bl true => g σ S1
  | .bl false => .ok (.bl false) S1
  | _ => .stuck
def evOrV (f g : EvE) : EvE := fun σ S => (f σ S).bind fun d S1 => match d with
  | .bl true => .ok (.bl true) S1
  | .bl false => g σ S1
  | _ => .stuck
def evNotV (f : EvE) : EvE := fun σ S => (f σ S).bind fun d S1 => match d with
  | .bl b => .ok (.bl (!b)) S1
  | _ => .stuck
theorem je_one {op : BoolOp} (h : JE X W a f) : JE X W (.BoolOp op [a] pos) f := pe_one h
theorem je_and (h : JE X W a f) (t : JE X W (.BoolOp .And (b :: rest) pos) g) : JE X W (.BoolOp .And (a :: b :: rest) pos) (evAndV f g) :=
  PE.imp (pe_and h t) fun σv H Q ⟨fs, F, σ, S, rs, m, p⟩ => tG.bind rs m p fun x S1 fs1 F1 H1 v rs1 m1 g1 r1 p1 => by
    cases x with
    | bl k =>
      rw [Rep] at r1
      refine ⟨k, r1, ?_⟩
      cases k with
      | true => rw [if_pos rfl]; exact ⟨_, _, _, _, rs1, m1, p1⟩
      | false => rw [if_neg Bool.false_ne_true]; exact p1.val m1 (by rw [Rep])
    | _ => exact False.elim p1
theorem je_or (h : JE X W a f) (t : JE X W (.BoolOp .Or (b :: rest) pos) g) : JE X W (.BoolOp .Or (a :: b :: rest) pos) (evOrV f g) :=
  PE.imp (pe_or h t) fun σv H Q ⟨fs, F, σ, S, rs, m, p⟩ => tG.bind rs m p fun x S1 fs1 F1 H1 v rs1 m1 g1 r1 p1 => by
    cases x with
    | bl k =>
      rw [Rep] at r1
      refine ⟨k, r1, ?_⟩
      cases k with
      | true => rw [if_pos rfl]; exact p1.val m1 (by rw [Rep])
      | false => rw [if_neg Bool.false_ne_true]; exact ⟨_, _, _, _, rs1, m1, p1⟩
    | _ => exact False.elim p1
theorem je_not (h : JE X W a f) : JE X W (.UnaryOp .Not a pos) (evNotV f) :=
  PE.imp (pe_not h) fun σv H Q ⟨fs, F, σ, S, rs, m, p⟩ => tG.bind rs m p fun x S1 fs1 F1 H1 v rs1 m1 g1 r1 p1 => by
    cases x with
    | bl k => rw [Rep] at r1; exact ⟨k, r1, p1.val m1 (by rw [Rep])⟩
    | _ => exact False.elim p1
def evIf (t : EvB) (f g : EvE) : EvE := fun σ S => (t σ S).bind fun b S1 => match b with
  | true => f σ S1
  | false => g σ S1
theorem je_if (h : JT X W c F1) (ha : JE X W a f) (hb : JE X W b g) : JE X W (.IfExp c a b pos) (evIf F1 f g) :=
  PE.imp (pe_ifExp h ha hb) fun σv H Q ⟨fs, F, σ, S, rs, m, p⟩ => tG.bind rs m p fun x S1 fs1 F1 H1 v rs1 m1 g1 r1 p1 => by
    cases (show x = v from r1)
    cases x with
    | true => rw [if_pos rfl]; exact ⟨_, _, _, _, rs1, m1, p1⟩
    | false => rw [if_neg Bool.false_ne_true]; exact ⟨_, _, _, _, rs1, m1, p1⟩
end
end DL
/-! DL, part 3: operations. -/
namespace DL
open PySem L2
section
variable {K : PySem.W.Frag} {Ex : Value → Option Addr → Hp → Prop} {F H : Hp} {fs : List Addr} {S : Store} {Q : V → Hp → Prop}
theorem rep_int {i : Int} {v : V} (h : Rep K F fs (.int i) v) : v = .int i := by rw [Rep] at h; exact h
theorem rep_bl {i : Bool} {v : V} (h : Rep K F fs (.bl i) v) : v = .bl i := by rw [Rep] at h; exact h
theorem rep_str {i : Str} {v : V} (h : Rep K F fs (.str i) v) : v = .str i := by rw [Rep] at h; exact h
theorem rep_non {v : V} (h : Rep K F fs .non v) : v = .non := by rw [Rep] at h; exact h
theorem int_rep {i : Int} : Rep K F fs (.int i) (.int i) := by rw [Rep]
theorem bl_rep {i : Bool} : Rep K F fs (.bl i) (.bl i) := by rw [Rep]
theorem str_rep {i : Str} : Rep K F fs (.str i) (.str i) := by rw [Rep]
theorem non_rep : Rep K F fs .non .non := by rw [Rep]
theorem repL1 {d : D} {vs : List V} (h : RepL K F fs [d] vs) : ∃ v, vs = [v] ∧ Rep K F fs d v := by
  rw [RepL] at h; obtain ⟨x, xr, rfl, r, h⟩ := h
  rw [RepL] at h; subst h
  exact ⟨x, rfl, r⟩
theorem repL2 {d d' : D} {vs : List V} (h : RepL K F fs [d, d'] vs) : ∃ v v', vs = [v, v'] ∧ Rep K F fs d v ∧ Rep K F fs d' v' := by
  rw [RepL] at h; obtain ⟨x, xr, rfl, r, h⟩ := h
  obtain ⟨y, rfl, r'⟩ := repL1 h
  exact ⟨x, y, rfl, r, r'⟩
end
/-! ### numbers -/
def opI (g : Int → Int → Int) (a b : D) (S : Store) : Out D := match a, b with
  | .int i, .int j => .ok (.int (g i j)) S
  | _, _ => .stuck
def opIC (C : Int → Int → Prop) [∀ i j, Decidable (C i j)] (g : Int → Int → Int) (a b : D) (S : Store) : Out D := match a, b with
  | .int i, .int j => gd (C i j) (.ok (.int (g i j)) S)
  | _, _ => .stuck
def opB (g : Int → Int → Bool) (a b : D) (S : Store) : Out D := match a, b with
  | .int i, .int j => .ok (.bl (g i j)) S
  | _, _ => .stuck
theorem od_I {K : PySem.W.Frag} {g : Int → Int → Int} : OpD K (rI0 fun i j => .int (g i j)) (opI g) := ⟨fun Ex fs F S H d1 d2 v1 v2 Q m r1 r2 p => by
  unfold opI at p
  split at p
  · exact ⟨_, _, rep_int r1, rep_int r2, p.val m int_rep⟩
  · exact False.elim p⟩
theorem od_IC {K : PySem.W.Frag} {C : Int → Int → Prop} [∀ i j, Decidable (C i j)] {g : Int → Int → Int} : OpD K (rI C fun i j => .int (g i j)) (opIC C g) := ⟨fun Ex fs F S H d1 d2 v1 v2 Q m r1 r2 p => by
  unfold opIC at p
  split at p
  · obtain ⟨h, p⟩ := p.gd
    exact ⟨_, _, rep_int r1, rep_int r2, h, p.val m int_rep⟩
  · exact False.elim p⟩
theorem od_B {K : PySem.W.Frag} {g : Int → Int → Bool} : OpD K (rI0 fun i j => .bl (g i j)) (opB g) := ⟨fun Ex fs F S H d1 d2 v1 v2 Q m r1 r2 p => by
  unfold opB at p
  split at p
  · exact ⟨_, _, rep_int r1, rep_int r2, p.val m bl_rep⟩
  · exact False.elim p⟩
instance decMul (i j : Int) : Decidable (CMul i j) := by unfold CMul; exact inferInstance
instance decDiv (i j : Int) : Decidable (CDiv i j) := by unfold CDiv; exact inferInstance
instance decPow (i j : Int) : Decidable (CPow i j) := by unfold CPow; exact inferInstance
instance decMod (i j : Int) : Decidable ((fun _ j => (0 : Int) < j) i j) := inferInstanceAs (Decidable ((0 : Int) < j))
abbrev opSub := opI fun i j => i - j
abbrev opMod := opIC (fun _ j => 0 < j) fun i j => i % j
abbrev opFdiv := opIC CDiv fun i j => i / j
abbrev opPow := opIC CPow fun i j => i ^ j.toNat
abbrev opShl := opIC CPow fun i j => i * 2 ^ j.toNat
abbrev opLt := opB fun i j => decide (i < j)
abbrev opLe := opB fun i j => decide (i ≤ j)
abbrev opGt := opB fun i j => decide (j < i)
abbrev opGe := opB fun i j => decide (j ≤ i)
/-- a + b: ints, lists, tuples -/
def opAdd (mm : Bool) (a b : D) (S : Store) : Out D := match a, b with
  | .int i, .int j => .ok (.int (i + j)) S
  | .tup xs, .tup ys => gd (xs.length + ys.length ≤ sizeLine) (match xs, ys with
    | [], ys => .ok (.tup ys) S
    | xs, [] => .ok (.tup xs) S
    | xs, ys => .ok (.tup (xs ++ ys)) S)
  | a, b => match asL a S, asL b S with
    | some xs, some ys => gd (xs.length + ys.length ≤ sizeLine) (mkL mm (xs ++ ys) S)
    | _, _ => .stuck
def rAddA (K : PySem.W.Frag) : R2 := fun x y H Q => rI0 (fun i j => .int (i + j)) x y H Q ∨ rCatA K x y H Q ∨ rCat x y H Q
theorem op_addA {X : Cx} : OpR X (binaryOp .Add) (rAddA X.K) := op_add.or (op_catA.or op_cat)
theorem nil_rep {K : PySem.W.Frag} {F : Hp} {fs : List Addr} {ds : List D} {xs : List V} (h : RepL K F fs ds xs) : xs = [] ↔ ds = [] := by
  have := h.length
  constructor
  · intro e; subst e; exact List.length_eq_zero_iff.mp this.symm
  · intro e; subst e; exact List.length_eq_zero_iff.mp this
theorem od_addA {K : PySem.W.Frag} {mm : Bool} : OpD K (rAddA K) (opAdd mm) := ⟨fun Ex fs F S H d1 d2 v1 v2 Q m r1 r2 p => by
  unfold opAdd at p
  split at p
  · exact .inl ⟨_, _, rep_int r1, rep_int r2, p.val m int_rep⟩
  · rename_i xs ys
    obtain ⟨h, p⟩ := p.gd
    obtain ⟨a, us, h1, h2, h3⟩ := (show ∃ a us, v1 = V.ref a ∧ F a = some (.tup us) ∧ RepL K F fs xs us by rw [Rep] at r1; exact r1)
    obtain ⟨b, ws, g1, g2, g3⟩ := (show ∃ a us, v2 = V.ref a ∧ F a = some (.tup us) ∧ RepL K F fs ys us by rw [Rep] at r2; exact r2)
    refine .inr (.inl ⟨a, b, us, ws, h1, g1, SqT.of (m.le _ _ h2), SqT.of (m.le _ _ g2), by rw [h3.length, g3.length]; exact h, fun e => ?_, fun e e' => ?_, fun e e' q hq => ?_⟩)
    · have e2 := (nil_rep h3).mp e
      subst e2
      exact p.val m (g1 ▸ r2)
    · have e2 := (nil_rep g3).mp e'
      have e3 : xs ≠ [] := fun z => e ((nil_rep h3).mpr z)
      subst e2
      cases xs with
      | nil => exact absurd rfl e3
      | cons x xr => exact p.val m (h1 ▸ r1)
    · have e2 : ys ≠ [] := fun z => e' ((nil_rep g3).mpr z)
      have e3 : xs ≠ [] := fun z => e ((nil_rep h3).mpr z)
      cases xs with
      | nil => exact absurd rfl e3
      | cons x xr =>
        cases ys with
        | nil => exact absurd rfl e2
        | cons y yr => exact fresh_tup m p (h3.append g3) hq
  · split at p
    · rename_i xs ys e1 e2
      obtain ⟨h, p⟩ := p.gd
      obtain ⟨a, us, h1, h2, h3⟩ := asL_ok m r1 e1
      obtain ⟨b, ws, g1, g2, g3⟩ := asL_ok m r2 e2
      exact .inr (.inr ⟨a, b, us, ws, h1, g1, h2, g2, by rw [h3.length, g3.length]; exact h, fun q hq => fresh_lst m p (h3.append g3) hq⟩)
    · exact False.elim p⟩
/-- a * b: ints, a list many times -/
def opMul (mm : Bool) (a b : D) (S : Store) : Out D := match a, b with
  | .int i, .int j => gd (CMul i j) (.ok (.int (i * j)) S)
  | a, .int k => match asL a S with
    | some xs => gd ((-(2 ^ 63) ≤ k ∧ k < 2 ^ 63) ∧ xs.length * k.toNat ≤ sizeLine) (mkL mm (List.replicate k.toNat xs).flatten S)
    | _ => .stuck
  | _, _ => .stuck
def rMulA : R2 := fun x y H Q => rI CMul (fun i j => .int (i * j)) x y H Q ∨ rRep x y H Q
theorem op_mulA {X : Cx} : OpR X (binaryOp .Mult) rMulA := op_mul.or op_rep
theorem RepL.rep {K : PySem.W.Frag} {F : Hp} {fs : List Addr} {ds : List D} {xs : List V} (h : RepL K F fs ds xs) : ∀ k : Nat, RepL K F fs (List.replicate k ds).flatten (List.replicate k xs).flatten
  | 0 => by simpa using RepL.nil
  | k + 1 => by rw [List.replicate_succ, List.replicate_succ, List.flatten_cons, List.flatten_cons]; exact h.append (RepL.rep h k)
theorem od_mulA {K : PySem.W.Frag} {mm : Bool} : OpD K rMulA (opMul mm) := ⟨fun Ex fs F S H d1 d2 v1 v2 Q m r1 r2 p => by
  unfold opMul at p
  split at p
  · obtain ⟨h, p⟩ := p.gd
    exact .inl ⟨_, _, rep_int r1, rep_int r2, h, p.val m int_rep⟩
  · split at p
    · rename_i xs e1
      obtain ⟨⟨⟨h0, h0'⟩, h⟩, p⟩ := p.gd
      obtain ⟨a, us, h1, h2, h3⟩ := asL_ok m r1 e1
      exact .inr ⟨a, _, us, h1, rep_int r2, h2, h0, h0', by rw [h3.length]; exact h, fun q hq => fresh_lst m p (h3.rep _) hq⟩
    · exact False.elim p
  · exact False.elim p⟩
/-! ### ==, is None, in -/
def opEqF (neg : Bool) (a b : D) (S : Store) : Out D := match flat a, flat b with
  | some x, some y => gd (scal x y = true) (.ok (.bl (if neg then !decide (x = y) else decide (x = y))) S)
  | _, _ => .stuck
theorem od_eqF {K : PySem.W.Frag} : OpD K rEq (opEqF false) := ⟨fun Ex fs F S H d1 d2 v1 v2 Q m r1 r2 p => by
  unfold opEqF at p
  split at p
  · rename_i x y e1 e2
    obtain ⟨h, p⟩ := p.gd
    rw [flat_ok r1 e1, flat_ok r2 e2]
    exact ⟨h, p.val m bl_rep⟩
  · exact False.elim p⟩
theorem od_neF {K : PySem.W.Frag} : OpD K rNe (opEqF true) := ⟨fun Ex fs F S H d1 d2 v1 v2 Q m r1 r2 p => by
  unfold opEqF at p
  split at p
  · rename_i x y e1 e2
    obtain ⟨h, p⟩ := p.gd
    rw [flat_ok r1 e1, flat_ok r2 e2]
    exact ⟨h, p.val m bl_rep⟩
  · exact False.elim p⟩
def D.isNon : D → Bool
  | .non => true
  | _ => false
theorem isNon_ok {K : PySem.W.Frag} {F : Hp} {fs : List Addr} {d : D} {v : V} (r : Rep K F fs d v) : decide (v = .non) = d.isNon := by
  cases d <;> rw [Rep] at r <;> first
    | (subst r; rfl)
    | (obtain ⟨_, _, rfl, _⟩ := r; rfl)
    | (obtain ⟨_, rfl, _⟩ := r; rfl)
def opIs (neg : Bool) (a b : D) (S : Store) : Out D := match b with
  | .non => .ok (.bl (if neg then !a.isNon else a.isNon)) S
  | _ => .stuck
def rIsN (neg : Bool) : R2 := fun x y H Q => y = .non ∧ Q (.bl (if neg then !decide (x = .non) else decide (x = .non))) H
theorem op_isA {X : Cx} : OpR X (compareOp .Is) (rIsN false) := op_isN
theorem op_isNotA {X : Cx} : OpR X (compareOp .IsNot) (rIsN true) := op_notN
theorem od_is {K : PySem.W.Frag} {neg : Bool} : OpD K (rIsN neg) (opIs neg) := ⟨fun Ex fs F S H d1 d2 v1 v2 Q m r1 r2 p => by
  unfold opIs at p
  split at p
  · refine ⟨rep_non r2, ?_⟩
    rw [isNon_ok r1]
    exact p.val m bl_rep
  · exact False.elim p⟩
def opIn (neg : Bool) (a b : D) (S : Store) : Out D := match flat a, (asSeq b S).bind flats with
  | some x, some ys => .ok (.bl (if neg then !inV x ys else inV x ys)) S
  | _, _ => .stuck
theorem od_in {K : PySem.W.Frag} {neg : Bool} : OpD K (rIn K neg) (opIn neg) := ⟨fun Ex fs F S H d1 d2 v1 v2 Q m r1 r2 p => by
  unfold opIn at p
  split at p
  · rename_i x ys e1 e2
    cases e3 : asSeq d2 S with
    | none => rw [e3] at e2; cases e2
    | some ds =>
      rw [e3] at e2
      have e2 : flats ds = some ys := e2
      obtain ⟨a, us, h1, h2, h3⟩ := asSeq_ok m r2 e3
      obtain ⟨g1, g2⟩ := flats_ok h3 e2
      subst g1
      rw [flat_ok r1 e1]
      exact ⟨a, us, h1, h2, flat_flat e1, g2, p.val m bl_rep⟩
  · exact False.elim p⟩
/-! ### subscripts -/
def opIxS (a b : D) (S : Store) : Out D := match asSeq a S, b with
  | some ds, .int i => match atI ds i with
    | some d => .ok d S
    | none => .stuck
  | _, _ => .stuck
theorem ixN_rep {K : PySem.W.Frag} {F : Hp} {fs : List Addr} {ds : List D} {xs : List V} {i : Int} {d : D} (r : RepL K F fs ds xs) (e : atI ds i = some d) : ∃ x, atI xs i = some x ∧ Rep K F fs d x := by
  unfold atI at e ⊢
  rw [r.length]
  cases q : ixN ds.length i with
  | none => rw [q] at e; cases e
  | some j =>
    rw [q] at e
    exact r.get e
theorem od_ixS {K : PySem.W.Frag} : OpD K (rIx K) opIxS := ⟨fun Ex fs F S H d1 d2 v1 v2 Q m r1 r2 p => by
  unfold opIxS at p
  split at p
  · rename_i ds i e1
    split at p
    · rename_i d e2
      obtain ⟨a, us, h1, h2, h3⟩ := asSeq_ok m r1 e1
      obtain ⟨x, g1, g2⟩ := ixN_rep h3 e2
      rcases h2 with h2 | h2
      · exact .inl ⟨a, us, i, x, h1, rep_int r2, h2, g1, p.val m g2⟩
      · exact .inr (.inl ⟨a, us, i, x, h1, rep_int r2, h2, g1, p.val m g2⟩)
    · exact False.elim p
  · exact False.elim p⟩
def opDGet (a b : D) (S : Store) : Out D := match dGet a b S with
  | some (some d) => .ok d S
  | _ => .stuck
def opIx (a b : D) (S : Store) : Out D := match asSeq a S with
  | some _ => opIxS a b S
  | none => opDGet a b S
theorem PE.or {X : Cx} {e : Expr} {t t' : TE} (h : PE X e t) (h' : PE X e t') : PE X e (fun σ H Q => t σ H Q ∨ t' σ H Q) := ⟨fun pins s σ H Q I q => q.elim (h.run pins s σ H Q I) (h'.run pins s σ H Q I)⟩
theorem PT.or {X : Cx} {e : Expr} {t t' : TT} (h : PT X e t) (h' : PT X e t') : PT X e (fun σ H Q => t σ H Q ∨ t' σ H Q) := ⟨fun pins s σ H Q I q => q.elim (h.run pins s σ H Q I) (h'.run pins s σ H Q I)⟩
theorem PS.or {X : Cx} {e : Stmt} {t t' : TS} (h : PS X e t) (h' : PS X e t') : PS X e (fun D σ H => t D σ H ∨ t' D σ H) := ⟨fun pins s σ H D I q => q.elim (h.run pins s σ H D I) (h'.run pins s σ H D I)⟩
/-- which of two ways is known ahead -/
theorem ev2_or {K : PySem.W.Frag} {W : WX} {op o1 o2 : D → D → Store → Out D} {f g : EvE} {σ : St} {H : Hp} {Q : VK} (hc : ∀ a b S, op a b S = o1 a b S ∨ op a b S = o2 a b S) (q : tE K W (ev2 op f g) σ H Q) :
    tE K W (ev2 o1 f g) σ H Q ∨ tE K W (ev2 o2 f g) σ H Q := by
  obtain ⟨fs, F, σ', S, rs, m, p⟩ := q
  unfold ev2 at p
  cases e1 : f σ' S with
  | stuck => rw [e1] at p; exact False.elim p
  | exc C d S1 => rw [e1] at p; exact .inl ⟨fs, F, σ', S, rs, m, by unfold ev2; rw [e1]; exact p⟩
  | ok a S1 =>
    rw [e1] at p
    have p : PostG K (Rep K) _ ((g σ' S1).bind fun b S2 => op a b S2) fs F H Q := p
    cases e2 : g σ' S1 with
    | stuck => rw [e2] at p; exact False.elim p
    | exc C d S2 => rw [e2] at p; exact .inl ⟨fs, F, σ', S, rs, m, by unfold ev2; rw [e1]; show PostG K (Rep K) _ ((g σ' S1).bind fun b S2 => o1 a b S2) fs F H Q; rw [e2]; exact p⟩
    | ok b S2 =>
      rw [e2] at p
      have p : PostG K (Rep K) _ (op a b S2) fs F H Q := p
      rcases hc a b S2 with h | h
      · exact .inl ⟨fs, F, σ', S, rs, m, by unfold ev2; rw [e1]; show PostG K (Rep K) _ ((g σ' S1).bind fun b S2 => o1 a b S2) fs F H Q; rw [e2, Out.bind_ok, ← h]; exact p⟩
      · exact .inr ⟨fs, F, σ', S, rs, m, by unfold ev2; rw [e1]; show PostG K (Rep K) _ ((g σ' S1).bind fun b S2 => o2 a b S2) fs F H Q; rw [e2, Out.bind_ok, ← h]; exact p⟩
section
variable {X : Cx} {W : WX} {e a b c : Expr} {es : List Expr} {f g h' : EvE} {pos : Pos}
theorem je_dget (hu : X.A.units + 1 < cLine) (ha : JE X W a f) (hb : JE X W b g) (hs : NoSl b) : JE X W (.Subscript a b pos) (ev2 opDGet f g) :=
  PE.imp (pe_dget hu ha hb hs) fun σ H Q q => by
    obtain ⟨fs, F, σ', S, rs, m, p⟩ := q
    refine tG.bind rs m p fun x S1 fs1 F1 H1 v rs1 m1 g1 r1 p1 => tG.bind rs1 m1 p1 fun y S2 fs2 F2 H2 u rs2 m2 g2 r2 p2 => ?_
    unfold opDGet at p2
    split at p2
    · rename_i d e1
      obtain ⟨q, ov, h1, h2, v2, h3, h4⟩ := dGet_ok m2 (r1.mono g2) r2 e1
      rw [h3] at h2
      exact ⟨q, v2, h1, h2, p2.val m2 h4⟩
    · exact False.elim p2
theorem je_ix (hu : X.A.units + 1 < cLine) (ha : JE X W a f) (hb : JE X W b g) (hs : PlainIx b) (hs' : NoSl b) : JE X W (.Subscript a b pos) (ev2 opIx f g) :=
  PE.imp (PE.or (PE.imp (pe_ix ix_seq ha hb hs) fun _ _ _ q => tOp_of (K := X.K) (W := W) od_ixS q) (je_dget hu ha hb hs')) fun σ H Q q =>
    ev2_or (fun a b S => by unfold opIx; cases asSeq a S with | some _ => exact .inl rfl | none => exact .inr rfl) q
/-! ### slices -/
def evPart : Option EvE → Sg → Store → Out (Option Int)
  | none => fun _ S => .ok none S
  | some f => fun σ S => (f σ S).bind fun d S1 => match d with
    | .int i => .ok (some i) S1
    | _ => .stuck
def RO : Hp → List Addr → Option Int → Option Int → Prop := fun _ _ a b => a = b
abbrev JO (X : Cx) (W : WX) (e : Option Expr) (ev : Option EvE) : Prop := PO X e (tG X.K RO W (evPart ev))
theorem PO.imp {X : Cx} {e : Option Expr} {t t' : TO} (h : PO X e t) (i : ∀ σ H Q, t' σ H Q → t σ H Q) : PO X e t' := ⟨fun pins s σ H Q I q => h.run pins s σ H Q I (i σ H Q q)⟩
theorem jo_none : JO X W none none := PO.imp po_none fun σ H Q ⟨fs, F, σ', S, rs, m, p⟩ => p _ _ _ _ (Gr.refl _ _ _) m rfl
theorem jo_some (h : JE X W e f) : JO X W (some e) (some f) := PO.imp (po_some h) fun σ H Q ⟨fs, F, σ', S, rs, m, p⟩ => tG.bind rs m p fun x S1 fs1 F1 H1 v rs1 m1 g1 r1 p1 => by
  cases x with
  | int i => exact ⟨i, rep_int r1, p1 _ _ _ _ (Gr.refl _ _ _) m1 rfl⟩
  | _ => exact False.elim p1
def cutD (ds : List D) (lo hi : Option Int) : List D := (ds.drop (HT.sIx ds.length 0 lo)).take (HT.sIx ds.length ds.length hi - HT.sIx ds.length 0 lo)
theorem cutD_rep {K : PySem.W.Frag} {F : Hp} {fs : List Addr} {ds : List D} {xs : List V} (r : RepL K F fs ds xs) (lo hi : Option Int) : RepL K F fs (cutD ds lo hi) (cutV xs lo hi) := by
  unfold cutD cutV
  rw [r.length]
  exact (r.drop _).take _
def opSl (mm : Bool) (d : D) (lo hi : Option Int) (S : Store) : Out D := match d with
  | .tup ds => .ok (.tup (cutD ds lo hi)) S
  | .fz true _ => .stuck
  | .fz false ds => mkL mm (cutD ds lo hi) S
  | d => match asL d S with
    | some ds => mkL mm (cutD ds lo hi) S
    | none => .stuck
def rSlAny (K : PySem.W.Frag) : V → Option Int → Option Int → Hp → VK → Prop := fun x lo hi H Q => rSlL K x lo hi H Q ∨ rSlA K x lo hi H Q
theorem sl_any {X : Cx} : SlR X (rSlAny X.K) := sl_list.or sl_tupA
theorem cut_whole {ds : List D} {lo hi : Option Int} (h : HT.sIx ds.length 0 lo = 0 ∧ HT.sIx ds.length ds.length hi = ds.length) : cutD ds lo hi = ds := by
  unfold cutD; rw [h.1, h.2]; simp
theorem sl_ok {K : PySem.W.Frag} {Ex : Value → Option Addr → Hp → Prop} {F H : Hp} {fs : List Addr} {S : Store} {Q : V → Hp → Prop} {mm : Bool} {d : D} {v : V} {lo hi : Option Int} (m : Mt K fs S F H) (r : Rep K F fs d v)
    (p : PostG K (Rep K) Ex (opSl mm d lo hi S) fs F H Q) : rSlAny K v lo hi H Q := by
  have lst : (∃ ds, asL d S = some ds ∧ PostG K (Rep K) Ex (mkL mm (cutD ds lo hi) S) fs F H Q) → rSlAny K v lo hi H Q := fun ⟨ds, e, p⟩ => by
    obtain ⟨a, us, h1, h2, h3⟩ := asL_ok m r e
    exact .inl ⟨a, us, h1, SqL.of h2, fun q hq => fresh_lst m p (cutD_rep h3 _ _) hq⟩
  unfold opSl at p
  split at p
  · rename_i ds
    obtain ⟨a, us, h1, h2, h3⟩ := (show ∃ a us, v = V.ref a ∧ F a = some (.tup us) ∧ RepL K F fs ds us by rw [Rep] at r; exact r)
    refine .inr ⟨a, us, h1, SqT.of (m.le _ _ h2), fun hw => ?_, fun _ q hq => fresh_tup m p (cutD_rep h3 _ _) hq⟩
    rw [h3.length] at hw
    rw [cut_whole hw] at p
    exact p.val m (h1 ▸ r)
  · exact False.elim p
  · rename_i ds
    obtain ⟨a, us, h1, h2, h3⟩ := (show ∃ a us, v = V.ref a ∧ SqL K F a us ∧ RepL K F fs ds us by rw [Rep] at r; exact r)
    exact .inl ⟨a, us, h1, SqL.mono m.le h2, fun q hq => fresh_lst m p (cutD_rep h3 _ _) hq⟩
  · split at p
    · rename_i ds e
      exact lst ⟨ds, e, p⟩
    · exact False.elim p
def evSl (mm : Bool) (f : EvE) (lo hi : Option EvE) : EvE := fun σ S => (f σ S).bind fun d S1 => (evPart lo σ S1).bind fun l S2 => (evPart hi σ S2).bind fun h S3 => opSl mm d l h S3
theorem je_sl (mm : Bool) {lo hi : Option Expr} {fl fh : Option EvE} {p2 : Pos} (he : JE X W e f) (hl : JO X W lo fl) (hh : JO X W hi fh) : JE X W (.Subscript e (.Slice lo hi none p2) pos) (evSl mm f fl fh) :=
  PE.imp (pe_slice sl_any he hl hh) fun σ H Q ⟨fs, F, σ', S, rs, m, p⟩ => tG.bind rs m p fun x S1 fs1 F1 H1 v rs1 m1 g1 r1 p1 => tG.bind rs1 m1 p1 fun y S2 fs2 F2 H2 u rs2 m2 g2 r2 p2 =>
    tG.bind rs2 m2 p2 fun z S3 fs3 F3 H3 w rs3 m3 g3 r3 p3 => by
      cases (show y = u from r2)
      cases (show z = w from r3)
      exact sl_ok m3 ((r1.mono g2).mono g3) p3
/-! ### calls of built-in things -/
theorem je_callB {id : String} {x : Str} {p : Pos} {gl : EvL} {r : List V → Hp → VK → Prop} {od : List D → Store → Out D} (hc : CallR X (.builtin id) r) (hd : OpL X.K r od) (hg : Gl X x) (hm : X.mg x = none) (hv : bootBuiltins x = some (.builtin id)) (ha : JA X W (e :: es) gl)
    (hn : x ≠ "__name__" := by decide) (hdb : (x == ("__debug__" : Str)) = false := by decide)
    (he : starEach (e :: es) X.env = (false, eval e X.env) :: starEach es X.env := by rfl) (hpl : (backTo pos (starEach es X.env)).any (·.1) = false := by rfl) : JE X W (.Call (.Name x p) (e :: es) [] pos) (evL od gl) :=
  PE.imp (pe_callB hc hg hm hv ha hn hdb he hpl) fun _ _ _ q => tCB_of hd q
theorem je_callTy {T : String} {x : Str} {p : Pos} {gl : EvL} {r : List V → Hp → VK → Prop} {od : List D → Store → Out D} (hc : CallR X (.type T) r) (hd : OpL X.K r od) (hg : Gl X x) (hm : X.mg x = none) (hv : bootBuiltins x = some (.type T)) (ha : JA X W (e :: es) gl)
    (hn : x ≠ "__name__" := by decide) (hdb : (x == ("__debug__" : Str)) = false := by decide)
    (he : starEach (e :: es) X.env = (false, eval e X.env) :: starEach es X.env := by rfl) (hpl : (backTo pos (starEach es X.env)).any (·.1) = false := by rfl) : JE X W (.Call (.Name x p) (e :: es) [] pos) (evL od gl) :=
  PE.imp (pe_callTy hc hg hm hv ha hn hdb he hpl) fun _ _ _ q => tCB_of hd q
end
def opInt (ds : List D) (S : Store) : Out D := match ds with
  | [.int i] => .ok (.int i) S
  | [.bl k] => .ok (.int (if k then 1 else 0)) S
  | _ => .stuck
theorem ol_int {K : PySem.W.Frag} : OpL K (fun xs H Q => (∃ i, xs = [.int i] ∧ Q (.int i) H) ∨ ∃ k, xs = [.bl k] ∧ Q (.int (if k then 1 else 0)) H) opInt := ⟨fun Ex fs F S H ds vs Q m r0 p => by
  unfold opInt at p
  split at p
  · obtain ⟨v, rfl, r⟩ := repL1 r0
    exact .inl ⟨_, by rw [rep_int r], p.val m int_rep⟩
  · obtain ⟨v, rfl, r⟩ := repL1 r0
    exact .inr ⟨_, by rw [rep_bl r], p.val m int_rep⟩
  · exact False.elim p⟩
def opMax (ds : List D) (S : Store) : Out D := match ds with
  | [.int i, .int j] => .ok (.int (if j > i then j else i)) S
  | _ => .stuck
def opMin (ds : List D) (S : Store) : Out D := match ds with
  | [.int i, .int j] => .ok (.int (if j < i then j else i)) S
  | _ => .stuck
theorem ol_max {K : PySem.W.Frag} : OpL K (fun xs H Q => ∃ i j, xs = [.int i, .int j] ∧ Q (.int (if j > i then j else i)) H) opMax := ⟨fun Ex fs F S H ds vs Q m r0 p => by
  unfold opMax at p
  split at p
  · obtain ⟨v, v', rfl, r, r'⟩ := repL2 r0
    exact ⟨_, _, by rw [rep_int r, rep_int r'], p.val m int_rep⟩
  · exact False.elim p⟩
theorem ol_min {K : PySem.W.Frag} : OpL K (fun xs H Q => ∃ i j, xs = [.int i, .int j] ∧ Q (.int (if j < i then j else i)) H) opMin := ⟨fun Ex fs F S H ds vs Q m r0 p => by
  unfold opMin at p
  split at p
  · obtain ⟨v, v', rfl, r, r'⟩ := repL2 r0
    exact ⟨_, _, by rw [rep_int r, rep_int r'], p.val m int_rep⟩
  · exact False.elim p⟩
/-- len: sequences, dicts -/
def opLen (ds : List D) (S : Store) : Out D := match ds with
  | [d] => match asSeq d S, asD d S with
    | some xs, _ => .ok (.int xs.length) S
    | none, some kvs => .ok (.int kvs.length) S
    | none, none => .stuck
  | _ => .stuck
def rLenA (K : PySem.W.Frag) : List V → Hp → VK → Prop := fun xs H Q => (∃ p ys, xs = [.ref p] ∧ (SqL K H p ys ∨ SqT K H p ys) ∧ Q (.int ys.length) H) ∨ (∃ a kvs, xs = [V.ref a] ∧ H a = some (.dK kvs) ∧ Q (.int kvs.length) H)
theorem call_lenA {X : Cx} : CallR X (.builtin "len") (rLenA X.K) := call_len_seq.or call_lenD
theorem ol_len {K : PySem.W.Frag} : OpL K (rLenA K) opLen := ⟨fun Ex fs F S H ds vs Q m r0 p => by
  unfold opLen at p
  split at p
  · obtain ⟨v, rfl, r⟩ := repL1 r0
    split at p
    · rename_i xs _ e1
      obtain ⟨a, us, h1, h2, h3⟩ := asSeq_ok m r e1
      exact .inl ⟨a, us, by rw [h1], h2, by rw [h3.length]; exact p.val m int_rep⟩
    · rename_i kvs _ e1
      obtain ⟨a, us, h1, h2, h3⟩ := asD_ok m r e1
      exact .inr ⟨a, us, by rw [h1], h2, by rw [h3.length]; exact p.val m int_rep⟩
    · exact False.elim p
  · exact False.elim p⟩
/-- list(x), tuple(x) of a sequence -/
def opList (mm : Bool) (ds : List D) (S : Store) : Out D := match ds with
  | [d] => match asSeq d S with
    | some xs => mkL mm xs S
    | none => .stuck
  | _ => .stuck
theorem ol_list {K : PySem.W.Frag} {mm : Bool} : OpL K (fun xs H Q => ∃ p ys, xs = [.ref p] ∧ (SqL K H p ys ∨ SqT K H p ys) ∧ ∀ l, H l = none → Q (.ref l) (upd H l (.lst ys))) (opList mm) := ⟨fun Ex fs F S H ds vs Q m r0 p => by
  unfold opList at p
  split at p
  · obtain ⟨v, rfl, r⟩ := repL1 r0
    split at p
    · rename_i xs e1
      obtain ⟨a, us, h1, h2, h3⟩ := asSeq_ok m r e1
      exact ⟨a, us, by rw [h1], h2, fun l hl => fresh_lst m p h3 hl⟩
    · exact False.elim p
  · exact False.elim p⟩
def opTuple (ds : List D) (S : Store) : Out D := match ds with
  | [.tup xs] => .ok (.tup xs) S
  | [.fz true xs] => .ok (.fz true xs) S
  | [.fz false xs] => .ok (.tup xs) S
  | [d] => match asL d S with
    | some xs => .ok (.tup xs) S
    | none => .stuck
  | _ => .stuck
theorem ol_tuple {K : PySem.W.Frag} : OpL K (fun xs H Q => ∃ p ys, xs = [.ref p] ∧ ((SqL K H p ys ∧ ∀ l, H l = none → Q (.ref l) (upd H l (.tup ys))) ∨ (SqT K H p ys ∧ Q (.ref p) H))) opTuple := ⟨fun Ex fs F S H ds vs Q m r0 p => by
  unfold opTuple at p
  split at p
  · obtain ⟨v, rfl, r⟩ := repL1 r0
    rename_i xs
    obtain ⟨a, us, h1, h2, h3⟩ := (show ∃ a us, v = V.ref a ∧ F a = some (.tup us) ∧ RepL K F fs xs us by rw [Rep] at r; exact r)
    exact ⟨a, us, by rw [h1], .inr ⟨SqT.of (m.le _ _ h2), p.val m (h1 ▸ r)⟩⟩
  · obtain ⟨v, rfl, r⟩ := repL1 r0
    rename_i xs
    obtain ⟨a, us, h1, h2, h3⟩ := (show ∃ a us, v = V.ref a ∧ SqT K F a us ∧ RepL K F fs xs us by rw [Rep] at r; exact r)
    exact ⟨a, us, by rw [h1], .inr ⟨SqT.mono m.le h2, p.val m (h1 ▸ r)⟩⟩
  · obtain ⟨v, rfl, r⟩ := repL1 r0
    rename_i xs
    obtain ⟨a, us, h1, h2, h3⟩ := (show ∃ a us, v = V.ref a ∧ SqL K F a us ∧ RepL K F fs xs us by rw [Rep] at r; exact r)
    exact ⟨a, us, by rw [h1], .inl ⟨SqL.mono m.le h2, fun l hl => fresh_tup m p h3 hl⟩⟩
  · obtain ⟨v, rfl, r⟩ := repL1 r0
    split at p
    · rename_i xs e1
      obtain ⟨a, us, h1, h2, h3⟩ := asL_ok m r e1
      exact ⟨a, us, by rw [h1], .inl ⟨SqL.of h2, fun l hl => fresh_tup m p h3 hl⟩⟩
    · exact False.elim p
  · exact False.elim p⟩
/-- a row of ints; of bools -/
def intsD : List D → Option (List Int)
  | [] => some []
  | .int i :: ds => (intsD ds).map (i :: ·)
  | _ :: _ => none
theorem intsD_ok {K : PySem.W.Frag} {F : Hp} {fs : List Addr} : ∀ {ds : List D} {xs : List V} {ns : List Int}, RepL K F fs ds xs → intsD ds = some ns → xs = ns.map V.int
  | [], _, _, r, e => by rw [RepL] at r; subst r; cases (show some [] = some _ from e); rfl
  | d :: ds, _, ns, r, e => by
    rw [RepL] at r; obtain ⟨x, xr, rfl, h1, h2⟩ := r
    cases d with
    | int i =>
      have e : (intsD ds).map (i :: ·) = some ns := e
      cases e1 : intsD ds with
      | none => rw [e1] at e; cases e
      | some ns' => rw [e1] at e; cases e; rw [rep_int h1, intsD_ok h2 e1]; rfl
    | _ => cases e
def blsD : List D → Option (List Bool)
  | [] => some []
  | .bl i :: ds => (blsD ds).map (i :: ·)
  | _ :: _ => none
theorem blsD_ok {K : PySem.W.Frag} {F : Hp} {fs : List Addr} : ∀ {ds : List D} {xs : List V} {ns : List Bool}, RepL K F fs ds xs → blsD ds = some ns → xs = ns.map V.bl
  | [], _, _, r, e => by rw [RepL] at r; subst r; cases (show some [] = some _ from e); rfl
  | d :: ds, _, ns, r, e => by
    rw [RepL] at r; obtain ⟨x, xr, rfl, h1, h2⟩ := r
    cases d with
    | bl i =>
      have e : (blsD ds).map (i :: ·) = some ns := e
      cases e1 : blsD ds with
      | none => rw [e1] at e; cases e
      | some ns' => rw [e1] at e; cases e; rw [rep_bl h1, blsD_ok h2 e1]; rfl
    | _ => cases e
def opAnyAll (al : Bool) (ds : List D) (S : Store) : Out D := match ds with
  | [d] => match (asL d S).bind blsD with
    | some bs => .ok (.bl (if al then bs.all id else bs.any id)) S
    | none => .stuck
  | _ => .stuck
theorem ol_all {K : PySem.W.Frag} : OpL K (rAll K) (opAnyAll true) := ⟨fun Ex fs F S H ds vs Q m r0 p => by
  unfold opAnyAll at p
  split at p
  · obtain ⟨v, rfl, r⟩ := repL1 r0
    split at p
    · rename_i d _ bs e1
      cases e2 : asL d S with
      | none => rw [e2] at e1; cases e1
      | some xs =>
        rw [e2] at e1
        have e1 : blsD xs = some bs := e1
        obtain ⟨a, us, h1, h2, h3⟩ := asL_ok m r e2
        have := blsD_ok h3 e1
        subst this
        exact ⟨a, bs, by rw [h1], SqL.of h2, p.val m bl_rep⟩
    · exact False.elim p
  · exact False.elim p⟩
theorem ol_any {K : PySem.W.Frag} : OpL K (rAny K) (opAnyAll false) := ⟨fun Ex fs F S H ds vs Q m r0 p => by
  unfold opAnyAll at p
  split at p
  · obtain ⟨v, rfl, r⟩ := repL1 r0
    split at p
    · rename_i d _ bs e1
      cases e2 : asL d S with
      | none => rw [e2] at e1; cases e1
      | some xs =>
        rw [e2] at e1
        have e1 : blsD xs = some bs := e1
        obtain ⟨a, us, h1, h2, h3⟩ := asL_ok m r e2
        have := blsD_ok h3 e1
        subst this
        exact ⟨a, bs, by rw [h1], SqL.of h2, p.val m bl_rep⟩
    · exact False.elim p
  · exact False.elim p⟩
def opSum (ds : List D) (S : Store) : Out D := match ds with
  | [d] => match (asL d S).bind intsD with
    | some ns => .ok (.int ns.sum) S
    | none => .stuck
  | _ => .stuck
theorem ol_sum {K : PySem.W.Frag} : OpL K (rSum K) opSum := ⟨fun Ex fs F S H ds vs Q m r0 p => by
  unfold opSum at p
  split at p
  · obtain ⟨v, rfl, r⟩ := repL1 r0
    split at p
    · rename_i d _ bs e1
      cases e2 : asL d S with
      | none => rw [e2] at e1; cases e1
      | some xs =>
        rw [e2] at e1
        have e1 : intsD xs = some bs := e1
        obtain ⟨a, us, h1, h2, h3⟩ := asL_ok m r e2
        have := intsD_ok h3 e1
        subst this
        exact ⟨a, bs, by rw [h1], SqL.of h2, p.val m int_rep⟩
    · exact False.elim p
  · exact False.elim p⟩
/-! ### isinstance -/
def tyD (d : D) (S : Store) : Option String := match d with
  | .non => some "NoneType"
  | .bl _ => some "bool"
  | .int _ => some "int"
  | .str _ => some "str"
  | .lst _ => some "list"
  | .tup _ => some "tuple"
  | .ref n => match S[n]? with
    | some (.lst _) => some "list"
    | some (.dct _) => some "dict"
    | some (.dcT _) => some "dict"
    | some (.lkd _) => some "dict"
    | _ => none
  | _ => none
theorem tyD_ok {K : PySem.W.Frag} {F H : Hp} {fs : List Addr} {S : Store} {d : D} {v : V} {t : String} (m : Mt K fs S F H) (r : Rep K F fs d v) (e : tyD d S = some t) : TyX K H v (.type t) := by
  cases d with
  | non => cases e; rw [rep_non r]; exact .base .non
  | bl b => cases e; rw [rep_bl r]; exact .base (.bl b)
  | int b => cases e; rw [rep_int r]; exact .base (.int b)
  | str b => cases e; rw [rep_str r]; exact .base (.str b)
  | lst ds => cases e; rw [Rep] at r; obtain ⟨a, xs, rfl, h, _⟩ := r; exact .base (.lst (m.le _ _ h))
  | tup ds => cases e; rw [Rep] at r; obtain ⟨a, xs, rfl, h, _⟩ := r; exact .base (.tup (m.le _ _ h))
  | ref n =>
    rw [Rep] at r; obtain ⟨a, rfl, h2⟩ := r
    cases q : S[n]? with
    | none => simp [tyD, q] at e
    | some so =>
      simp only [tyD, q] at e
      cases so with
      | lst ds => cases e; obtain ⟨b, f1, _, xs, f2, _⟩ := m.ob n _ q rfl; rw [h2] at f1; cases f1; exact .base (.lst f2)
      | dct ds => cases e; obtain ⟨b, f1, _, xs, f2, _⟩ := m.ob n _ q rfl; rw [h2] at f1; cases f1; exact .base (.dK f2)
      | dcT ds => cases e; obtain ⟨b, f1, _, xs, f2, _⟩ := m.ob n _ q rfl; rw [h2] at f1; cases f1; exact .base (.dT f2)
      | lkd ds => cases e; obtain ⟨b, f1, od, xs, f2, _⟩ := m.lk n _ q rfl; rw [h2] at f1; cases f1; exact .fDict (m.le _ _ f2)
      | _ => cases e
  | _ => cases e
def tysD : List D → Option (List String)
  | [] => some []
  | .ty n :: ds => (tysD ds).map (n :: ·)
  | _ :: _ => none
theorem tysD_ok {K : PySem.W.Frag} {F : Hp} {fs : List Addr} : ∀ {ds : List D} {xs : List V} {ns : List String}, RepL K F fs ds xs → tysD ds = some ns → Paired ClsV xs (ns.map Value.type)
  | [], _, _, r, e => by rw [RepL] at r; subst r; cases (show some [] = some _ from e); exact .nil
  | d :: ds, _, ns, r, e => by
    rw [RepL] at r; obtain ⟨x, xr, rfl, h1, h2⟩ := r
    cases d with
    | ty i =>
      have e : (tysD ds).map (i :: ·) = some ns := e
      cases e1 : tysD ds with
      | none => rw [e1] at e; cases e
      | some ns' => rw [e1] at e; cases e; rw [Rep] at h1; subst h1; exact .cons (.ty i) (tysD_ok h2 e1)
    | _ => cases e
/-- which built-in type is under which -/
def subTy (t c : String) : Bool := t == c || (t == "bool" && c == "int")
def goodTy (t : String) : Bool := ["NoneType", "bool", "int", "str", "list", "tuple", "dict"].contains t
def goodC (t : String) : Bool := ["bool", "int", "str", "list", "tuple", "dict"].contains t
theorem kitB_ok {t c : String} (h : goodTy t = true) (h' : goodC c = true) : kitB t c = some (subTy t c) := by
  simp only [goodTy, goodC, List.contains_cons, List.contains_nil, Bool.or_false, Bool.or_eq_true, beq_iff_eq] at h h'
  rcases h with rfl | rfl | rfl | rfl | rfl | rfl | rfl <;> rcases h' with rfl | rfl | rfl | rfl | rfl | rfl <;> decide +kernel
theorem kitAny_ok {K : PySem.W.Frag} {t : String} (h : goodTy t = true) : ∀ {cs : List String}, cs.all goodC = true → PySem.W.kitAny K (.type t) (cs.map Value.type) = some (cs.any (subTy t))
  | [], _ => rfl
  | c :: cs, h' => by
    rw [List.all_cons, Bool.and_eq_true] at h'
    refine kitAny_cons (kit_ty (kitB_ok h h'.1)) (fun e => ?_) fun e => ?_
    · rw [kitAny_ok h h'.2, List.any_cons, e]; rfl
    · rw [List.any_cons, e]; rfl
def opIsi (ds : List D) (S : Store) : Out D := match ds with
  | [d, .ty c] => match tyD d S with
    | some t => gd (goodTy t = true ∧ goodC c = true) (.ok (.bl (subTy t c)) S)
    | none => .stuck
  | [d, .tup cs] => match tyD d S, tysD cs with
    | some t, some ns => gd (goodTy t = true ∧ ns.all goodC = true) (.ok (.bl (ns.any (subTy t))) S)
    | _, _ => .stuck
  | _ => .stuck
def rIsiA (K : PySem.W.Frag) : List V → Hp → VK → Prop := fun xs H Q => rIsi K xs H Q ∨ rIsiT K xs H Q
theorem call_isiA {X : Cx} : CallR X (.builtin "isinstance") (rIsiA X.K) := call_isi.or call_isiT
theorem ol_isi {K : PySem.W.Frag} : OpL K (rIsiA K) opIsi := ⟨fun Ex fs F S H ds vs Q m r0 p => by
  unfold opIsi at p
  split at p
  · obtain ⟨v, v', rfl, r, r'⟩ := repL2 r0
    split at p
    · rename_i c _ t e
      obtain ⟨⟨h1, h2⟩, p⟩ := p.gd
      rw [Rep] at r'; subst r'
      exact .inl ⟨v, _, .type t, .type c, _, rfl, .ty c, tyD_ok m r e, kit_ty (kitB_ok h1 h2), p.val m bl_rep⟩
    · exact False.elim p
  · obtain ⟨v, v', rfl, r, r'⟩ := repL2 r0
    split at p
    · rename_i cs t ns e e'
      obtain ⟨⟨h1, h2⟩, p⟩ := p.gd
      rw [Rep] at r'
      obtain ⟨a, us, rfl, g2, g3⟩ := r'
      exact .inr ⟨v, a, us, .type t, _, _, rfl, m.le _ _ g2, tysD_ok g3 e', tyD_ok m r e, kitAny_ok h1 h2, p.val m bl_rep⟩
    · exact False.elim p
  · exact False.elim p⟩
end DL
/-! DL, part 4: attributes, calls, statements, loops, comprehensions. -/
namespace DL
open PySem L2
/-! ### attributes -/
def putFD (f : Str) (v : D) : List (Str × D) → List (Str × D)
  | [] => [(f, v)]
  | (g, x) :: r => if g = f then (g, v) :: r else (g, x) :: putFD f v r
section
variable {K : PySem.W.Frag} {F H : Hp} {fs : List Addr}
theorem RepKV.putF {f : Str} {d : D} {v : V} (rv : Rep K F fs d v) : ∀ {fl : List (Str × D)} {vs : List (Str × V)}, RepKV K F fs fl vs → RepKV K F fs (putFD f d fl) (L2.putF f v vs)
  | [], _, h => by cases (show _ = [] from h); exact ⟨v, [], rfl, rv, rfl⟩
  | (g, y) :: ps, _, ⟨x, xr, e, r, t⟩ => by
    subst e
    unfold putFD L2.putF
    by_cases e : g = f
    · rw [if_pos e, if_pos (show (g, y).1 = f from e)]; exact ⟨v, xr, rfl, rv, t⟩
    · rw [if_neg e, if_neg (show ¬ (g, y).1 = f from e)]; exact ⟨x, _, rfl, r, RepKV.putF rv t⟩
theorem RepKV.look {f : Str} {d : D} : ∀ {fl : List (Str × D)} {vs : List (Str × V)}, RepKV K F fs fl vs → fl.lookup f = some d → ∃ v, vs.lookup f = some v ∧ Rep K F fs d v
  | [], _, _, e => by simp at e
  | (g, y) :: ps, _, ⟨x, xr, e, r, t⟩, h => by
    subst e
    rw [List.lookup_cons] at h ⊢
    show ∃ v, (match f == g with | true => some x | false => xr.lookup f) = some v ∧ _
    cases q : f == g with
    | true => rw [q] at h; cases (show some y = some d from h); exact ⟨x, rfl, r⟩
    | false => rw [q] at h; exact RepKV.look t h
theorem RepKV.look_none {f : Str} : ∀ {fl : List (Str × D)} {vs : List (Str × V)}, RepKV K F fs fl vs → fl.lookup f = none → vs.lookup f = none
  | [], _, h, _ => by cases (show _ = [] from h); rfl
  | (g, y) :: ps, _, ⟨x, xr, e, r, t⟩, h => by
    subst e
    rw [List.lookup_cons] at h ⊢
    show (match f == g with | true => some x | false => xr.lookup f) = none
    cases q : f == g with
    | true => rw [q] at h; cases h
    | false => rw [q] at h; exact RepKV.look_none t h
end
/-- an instance: where it is in the store, its class, its attributes -/
def asI (d : D) (S : Store) : Option (Nat × Addr × List (Str × D)) := match d with
  | .ref n => match S[n]? with
    | some (.ins C fl) => some (n, C, fl)
    | _ => none
  | _ => none
theorem asI_ok {K : PySem.W.Frag} {F H : Hp} {fs : List Addr} {S : Store} {d : D} {v : V} {n : Nat} {C : Addr} {fl : List (Str × D)} (m : Mt K fs S F H) (r : Rep K F fs d v) (e : asI d S = some (n, C, fl)) :
    d = .ref n ∧ S[n]? = some (.ins C fl) ∧ ∃ a dx vs, v = .ref a ∧ fs[n]? = some a ∧ H a = some (.ins C dx vs) ∧ RepKV K F fs fl vs := by
  cases d with
  | ref k =>
    rw [Rep] at r; obtain ⟨a, h1, h2⟩ := r
    cases q : S[k]? with
    | none => simp [asI, q] at e
    | some so =>
      simp only [asI, q] at e
      cases so with
      | ins C' fl' =>
        cases e
        obtain ⟨b, f1, _, dx, vs, f2, f3⟩ := m.ob _ _ q rfl
        rw [h2] at f1; cases f1
        exact ⟨rfl, q, a, dx, vs, h1, h2, f2, f3⟩
      | _ => cases e
  | _ => cases e
def opFld (Cs : List Addr) (f : Str) (d : D) (S : Store) : Out D := match asI d S with
  | some (_, C, fl) => gd (C ∈ Cs) (match fl.lookup f with
    | some x => .ok x S
    | none => .stuck)
  | none => .stuck
section
variable {X : Cx} {W : WX} {e a b c o : Expr} {es : List Expr} {f g h' : EvE} {pos pos' apos p : Pos} {nm m : Str}
theorem je_fld {Cs : List Addr} (hC : ∀ C ∈ Cs, Cls X.K C ∧ NoAttr X.K C nm) (he : JE X W e f) (hb : attributeBase e nm X.env (eval e X.env) = eval e X.env := by rfl) : JE X W (.Attribute e nm pos) (ev1 (opFld Cs nm) f) :=
  PE.imp (pe_fld he hb) fun σ H Q ⟨fs, F, σ', S, rs, m, q⟩ => tG.bind rs m q fun x S1 fs1 F1 H1 v rs1 m1 g1 r1 p1 => by
    unfold opFld at p1
    split at p1
    · rename_i n C fl e1
      obtain ⟨hc, p1⟩ := p1.gd
      split at p1
      · rename_i y e2
        obtain ⟨rfl, _, q, dx, vs, h1, h2, h3, h4⟩ := asI_ok m1 r1 e1
        obtain ⟨v', h5, h6⟩ := h4.look e2
        exact ⟨q, C, dx, vs, v', h1, h3, (hC C hc).1, (hC C hc).2, h5, p1.val m1 h6⟩
      · exact False.elim p1
    · exact False.elim p1
/-! ### what a def promises -/
def spD (K : PySem.W.Frag) (np : Nat) (fn : List D → Store → Out D) : Sp := fun vs H Q E => vs.length = np ∧ ∃ fs F ds S, RepL K F fs ds vs ∧ Mt K fs S F H ∧ PostG K (Rep K) E (fn ds S) fs F H Q
/-- a call that raises has no place here -/
def Out.calm {α : Type} : Out α → Out α
  | .exc _ _ _ => .stuck
  | o => o
theorem PostG.calm {α β : Type} {K : PySem.W.Frag} {R : Hp → List Addr → α → β → Prop} {Ex Ex' : Value → Option Addr → Hp → Prop} {o : Out α} {fs : List Addr} {F H : Hp} {Q : β → Hp → Prop} (p : PostG K R Ex o.calm fs F H Q) : PostG K R Ex' o fs F H Q := by
  cases o with
  | stuck => exact p
  | ok a S => exact p
  | exc C d S => exact False.elim p
def opCall (np : Nat) (fn : List D → Store → Out D) (ds : List D) (S : Store) : Out D := gd (ds.length = np) (fn ds S).calm
theorem je_call {k : Nat} {fa : Addr} {fd : FuncData} {ps : List Str} {np : Nat} {fn : List D → Store → Out D} {x : Str} {gl : EvL} (G : FnOk X.prog X.w X.K X.mg X.base CX0 k fa fd ps (spD X.K np fn)) (hr : Room k X.A) (hg : Gl X x) (hm : X.mg x = some (.ref fa)) (hk : PySem.W.keepIn X.K (.ref fa) = true) (hb : Binds X.K fd ps [])
    (ha : JA X W (e :: es) gl) (hdb : (x == ("__debug__" : Str)) = false := by decide) (he : starEach (e :: es) X.env = (false, eval e X.env) :: starEach es X.env := by rfl) (hpl : (backTo pos (starEach es X.env)).any (·.1) = false := by rfl) :
    JE X W (.Call (.Name x p) (e :: es) [] pos) (evL (opCall np fn) gl) :=
  PE.imp (pe_call G hr hg hm hk hb .nil pass0 ha hdb he hpl) fun σ H Q ⟨fs, F, σ', S, rs, m, q⟩ => tG.bind rs m q fun x S1 fs1 F1 H1 v rs1 m1 g1 r1 p1 => by
    obtain ⟨h, p1⟩ := p1.gd
    show spD X.K np fn (v ++ []) H1 Q E0
    rw [List.append_nil]
    exact ⟨by rw [r1.length]; exact h, fs1, F1, x, S1, r1, m1, p1.calm⟩
theorem je_call0 {k : Nat} {fa : Addr} {fd : FuncData} {ps : List Str} {fn : List D → Store → Out D} {x : Str} (G : FnOk X.prog X.w X.K X.mg X.base CX0 k fa fd ps (spD X.K 0 fn)) (hr : Room k X.A) (hg : Gl X x) (hm : X.mg x = some (.ref fa)) (hk : PySem.W.keepIn X.K (.ref fa) = true) (hb : Binds X.K fd ps [])
    (hdb : (x == ("__debug__" : Str)) = false := by decide) : JE X W (.Call (.Name x p) [] [] pos) (evL (opCall 0 fn) evNil) :=
  PE.imp (pe_call0 G hr hg hm hk hb .nil pass0 hdb) fun σ H Q ⟨fs, F, σ', S, rs, m, q⟩ => by
    have q : PostG X.K (Rep X.K) _ (gd (([] : List D).length = 0) (fn [] S).calm) fs F H Q := q
    obtain ⟨h, p1⟩ := PostG.gd q
    exact ⟨rfl, fs, F, [], S, RepL.nil, m, p1.calm⟩
/-- o.m(..) -/
def evMeth (C : Addr) (m : Str) (np : Nat) (fn : List D → Store → Out D) (f : EvE) (gl : EvL) : EvE := fun σ S => (f σ S).bind fun d S1 => match asI d S1 with
  | some (_, C', fl) => gd (C' = C ∧ fl.lookup m = none) ((gl σ S1).bind fun ds S2 => gd (ds.length + 1 = np) (fn (d :: ds) S2).calm)
  | none => .stuck
theorem meth_of {C : Addr} {np : Nat} {fn : List D → Store → Out D} {gl : EvL} {σ : St} {H : Hp} {Q : VK} (q : tE X.K W (evMeth C m np fn f gl) σ H Q) : tMeth C m (spD X.K np fn) [] E0 (tE X.K W f) (tA X.K W gl) σ H Q := by
  obtain ⟨fs, F, σ', S, rs, mt, q⟩ := q
  refine tG.bind rs mt q fun x S1 fs1 F1 H1 v rs1 m1 g1 r1 p1 => ?_
  split at p1
  · rename_i n C' fl e1
    obtain ⟨⟨hC, hl⟩, p1'⟩ := p1.gd
    obtain ⟨hx, _, a, dx, vs, h1, h2, h3, h4⟩ := asI_ok m1 r1 e1
    subst hC
    refine ⟨a, dx, vs, h1, h3, h4.look_none hl, ?_⟩
    refine tG.bind rs1 m1 p1' fun ds S2 fs2 F2 H2 us rs2 m2 g2 r2 p2 => ?_
    obtain ⟨h, p2⟩ := p2.gd
    show spD X.K np fn (v :: (us ++ [])) H2 Q E0
    rw [List.append_nil]
    exact ⟨by rw [List.length_cons, r2.length]; exact h, fs2, F2, _, S2, RepL.cons (r1.mono g2) r2, m2, p2.calm⟩
  · exact False.elim p1
theorem je_meth {C : Addr} {k : Nat} {fa : Addr} {fd : FuncData} {ps : List Str} {np : Nat} {fn : List D → Store → Out D} {gl : EvL} {pl : Sem Bool} (c : Cls X.K C) (hm : Meth X.K C m fa) (G : FnOk X.prog X.w X.K X.mg X.base CX0 k fa fd ps (spD X.K np fn)) (hr : Room k X.A) (hb : Binds X.K fd ps [])
    (ho : JE X W o f) (ha : JA X W (e :: es) gl)
    (hst : starEach (e :: es) X.env = (false, eval e X.env) :: starEach es X.env := by rfl) (hpl : (backTo pos (starEach es X.env)).any (·.1) = false := by rfl)
    (ht : eval (.Call (.Attribute o m apos) (e :: es) [] pos) X.env = (do
      let ov ← eval o X.env
      standAt apos.atName
      let (f, first) ← holding [ov] (getMethod ov m pl)
      callWith pos f first (backTo pos (starEach (e :: es) X.env)) (backToKw pos (keywordEach [] X.env))) := by rfl) :
    JE X W (.Call (.Attribute o m apos) (e :: es) [] pos) (evMeth C m np fn f gl) :=
  PE.imp (pe_meth ho c hm G hr hb .nil pass0 ha hst hpl ht) fun _ _ _ q => meth_of q
theorem je_meth0 {C : Addr} {k : Nat} {fa : Addr} {fd : FuncData} {ps : List Str} {np : Nat} {fn : List D → Store → Out D} {pl : Sem Bool} (c : Cls X.K C) (hm : Meth X.K C m fa) (G : FnOk X.prog X.w X.K X.mg X.base CX0 k fa fd ps (spD X.K np fn)) (hr : Room k X.A) (hb : Binds X.K fd ps [])
    (ho : JE X W o f)
    (ht : eval (.Call (.Attribute o m apos) [] [] pos) X.env = (do
      let ov ← eval o X.env
      standAt apos.atName
      let (f, first) ← holding [ov] (getMethod ov m pl)
      callWith pos f first (backTo pos (starEach [] X.env)) (backToKw pos (keywordEach [] X.env))) := by rfl) :
    JE X W (.Call (.Attribute o m apos) [] [] pos) (evMeth C m np fn f evNil) :=
  PE.imp (pe_meth0 ho c hm G hr hb .nil pass0 ht) fun σ H Q ⟨fs, F, σ', S, rs, mt, q⟩ => by
    refine tG.bind rs mt q fun x S1 fs1 F1 H1 v rs1 m1 g1 r1 p1 => ?_
    split at p1
    · rename_i n C' fl e1
      obtain ⟨⟨hC, hl⟩, p1'⟩ := p1.gd
      obtain ⟨hx, _, a, dx, vs, h1, h2, h3, h4⟩ := asI_ok m1 r1 e1
      subst hC
      refine ⟨a, dx, vs, h1, h3, h4.look_none hl, ?_⟩
      have p1 : PostG X.K (Rep X.K) _ (gd (([] : List D).length + 1 = np) (fn [x] S1).calm) fs1 F1 H1 Q := p1'
      obtain ⟨h, p2⟩ := p1.gd
      exact ⟨h, fs1, F1, _, S1, RepL.cons r1 RepL.nil, m1, p2.calm⟩
    · exact False.elim p1
/-- C(..) -/
def retRef (n : Nat) (r : D) (S : Store) : Out D := match r with
  | .non => .ok (.ref n) S
  | _ => .stuck
def opMake (C : Addr) (np : Nat) (fn : List D → Store → Out D) (ds : List D) (S : Store) : Out D :=
  gd (ds.length + 1 = np) ((fn (.ref S.length :: ds) (S ++ [.ins C []])).calm.bind (retRef S.length))
theorem make_of {C : Addr} {np : Nat} {fn : List D → Store → Out D} {fs : List Addr} {F H : Hp} {S : Store} {ds : List D} {us : List V} {Q : VK} {Ex : Value → Option Addr → Hp → Prop} (m1 : Mt X.K fs S F H) (r1 : RepL X.K F fs ds us) (p1 : PostG X.K (Rep X.K) Ex (opMake C np fn ds S) fs F H Q) :
    ∀ x dx, H x = none → H dx = none → dx ≠ x → spD X.K np fn (.ref x :: (us ++ [])) (upd (upd H dx (.own x)) x (.ins C dx [])) (fun v H2 => v = .non ∧ Q (.ref x) H2) E0 := by
  intro x dx nx nd ne
  obtain ⟨h, p2⟩ := p1.gd
  rw [List.append_nil]
  have hk : ∀ a o, H a = some o → (upd (upd H dx (.own x)) x (.ins C dx [])) a = some o := fun a o q => by
    rw [upd_ne (ne_of_none q nx), upd_ne (ne_of_none q nd)]; exact q
  obtain ⟨m2, g2⟩ := mt_new (so := .ins C []) m1 nx hk ⟨dx, [], upd_same, rfl⟩ (by rw [upd_same]; simp)
  have rn : ∀ {F' : Hp} {fs' : List Addr} {H' : Hp}, Gr (fs ++ [x]) F (upd (upd H dx (.own x)) x (.ins C dx [])) fs' F' H' → Rep X.K F' fs' (.ref S.length) (.ref x) := fun g => by
    rw [Rep]; exact ⟨x, rfl, g.get (by rw [m1.len]; simp)⟩
  refine ⟨by rw [List.length_cons, r1.length]; exact h, fs ++ [x], F, _, _, RepL.cons (rn (Gr.refl _ _ _)) (r1.mono g2), m2, ?_⟩
  cases e1 : fn (.ref S.length :: ds) (S ++ [.ins C []]) with
  | stuck => rw [e1] at p2; exact p2
  | exc C d S' => rw [e1] at p2; exact False.elim p2
  | ok r S2 =>
    rw [e1] at p2
    intro fs3 F3 H3 v g3 m3 r3
    have p3 : PostG X.K (Rep X.K) Ex (retRef S.length r S2) fs F H Q := p2
    unfold retRef at p3
    split at p3
    · exact ⟨rep_non r3, p3 _ _ _ _ (g2.trans g3) m3 (rn g3)⟩
    · exact False.elim p3
theorem je_make {C : Addr} {k : Nat} {fa : Addr} {fd : FuncData} {ps : List Str} {np : Nat} {fn : List D → Store → Out D} {x : Str} {gl : EvL} (M : Mk X.K C fa) (G : FnOk X.prog X.w X.K X.mg X.base CX0 k fa fd ps (spD X.K np fn)) (hr : Room (k + 1) X.A) (hg : Gl X x) (hm : X.mg x = some (.ref C)) (hb : Binds X.K fd ps [])
    (ha : JA X W (e :: es) gl) (hdb : (x == ("__debug__" : Str)) = false := by decide) (he : starEach (e :: es) X.env = (false, eval e X.env) :: starEach es X.env := by rfl) (hpl : (backTo pos (starEach es X.env)).any (·.1) = false := by rfl) :
    JE X W (.Call (.Name x p) (e :: es) [] pos) (evL (opMake C np fn) gl) :=
  PE.imp (pe_make M G hr hg hm hb .nil pass0 ha hdb he hpl) fun σ H Q ⟨fs, F, σ', S, rs, m, q⟩ => tG.bind rs m q fun x S1 fs1 F1 H1 v rs1 m1 g1 r1 p1 => make_of m1 r1 p1
theorem je_make0 {C : Addr} {k : Nat} {fa : Addr} {fd : FuncData} {ps : List Str} {np : Nat} {fn : List D → Store → Out D} {x : Str} (M : Mk X.K C fa) (G : FnOk X.prog X.w X.K X.mg X.base CX0 k fa fd ps (spD X.K np fn)) (hr : Room (k + 1) X.A) (hg : Gl X x) (hm : X.mg x = some (.ref C)) (hb : Binds X.K fd ps [])
    (hdb : (x == ("__debug__" : Str)) = false := by decide) : JE X W (.Call (.Name x p) [] [] pos) (evL (opMake C np fn) evNil) :=
  PE.imp (pe_make0 M G hr hg hm hb .nil pass0 hdb) fun σ H Q ⟨fs, F, σ', S, rs, m, q⟩ => make_of (us := []) m RepL.nil q

/-! ### statements -/
variable {st : Stmt} {sts body : List Stmt} {s t u : EvS}
theorem RepS.set {K : PySem.W.Frag} {F : Hp} {fs : List Addr} {σ : Sg} {σv : St} {d : D} {v : V} (h : RepS K F fs σ σv) (r : Rep K F fs d v) (i : Nat) : RepS K F fs (σ.set i (some d)) (σv.set i (some v)) :=
  ⟨by rw [List.length_set, List.length_set]; exact h.len, fun j x e => by
    by_cases hj : j = i
    · subst hj
      have hl : j < σ.length := by
        have := (List.getElem?_eq_some_iff.mp e).1
        rwa [List.length_set] at this
      rw [List.getElem?_set_self hl] at e; cases e
      exact ⟨v, by rw [List.getElem?_set_self (by rw [← h.len]; exact hl)], r⟩
    · rw [List.getElem?_set_ne (Ne.symm hj)] at e ⊢
      exact h.at' j x e⟩
theorem RepS.clr {K : PySem.W.Frag} {F : Hp} {fs : List Addr} {σ : Sg} {σv : St} (h : RepS K F fs σ σv) (i : Nat) : RepS K F fs (σ.set i none) (σv.set i none) :=
  ⟨by rw [List.length_set, List.length_set]; exact h.len, fun j x e => by
    by_cases hj : j = i
    · subst hj
      have hl : j < σ.length := by
        have := (List.getElem?_eq_some_iff.mp e).1
        rwa [List.length_set] at this
      rw [List.getElem?_set_self hl] at e; cases e
    · rw [List.getElem?_set_ne (Ne.symm hj)] at e ⊢
      exact h.at' j x e⟩
def evNop : EvS := fun σ S => .nx σ S
def evSeq (s t : EvS) : EvS := fun σ S => (s σ S).bind t
theorem jss_nil : JSs X W [] evNop := PSs.imp pss_nil fun D σv H ⟨fs, F, σ, S, rs, m, p⟩ => p _ _ _ _ (Gr.refl _ _ _) m rs
theorem PostS.bind {K : PySem.W.Frag} {D : Ends} {o : OutS} {k : EvS} {fs : List Addr} {F H : Hp} (p : PostS K W D (o.bind k) fs F H) : PostS K W { D with nx := tS K W k D } o fs F H := by
  cases o with
  | nx σ S => exact fun fs' F' H' σv' g m r => ⟨fs', F', σ, S, r, m, PostS.grow p g⟩
  | stuck => exact p
  | ret d S => exact p
  | bk σ S => exact p
  | ct σ S => exact p
  | exc C d σ S => exact p
theorem jss_cons (h1 : JS X W st s) (h2 : JSs X W sts t) : JSs X W (st :: sts) (evSeq s t) :=
  PSs.imp (pss_cons h1 h2) fun D σv H ⟨fs, F, σ, S, rs, m, p⟩ => ⟨fs, F, σ, S, rs, m, p.bind⟩
theorem jss_one (h1 : JS X W st s) : JSs X W [st] s := pss_one h1
def evPass : EvS := fun σ S => .nx σ S
theorem js_pass : JS X W (.Pass pos) evPass := PS.imp ps_pass fun D σv H ⟨fs, F, σ, S, rs, m, p⟩ => p _ _ _ _ (Gr.refl _ _ _) m rs
def evBreak : EvS := fun σ S => .bk σ S
theorem js_break : JS X W (.Break pos) evBreak := PS.imp ps_break fun D σv H ⟨fs, F, σ, S, rs, m, p⟩ => p _ _ _ _ (Gr.refl _ _ _) m rs
def evCont : EvS := fun σ S => .ct σ S
theorem js_cont : JS X W (.Continue pos) evCont := PS.imp ps_continue fun D σv H ⟨fs, F, σ, S, rs, m, p⟩ => p _ _ _ _ (Gr.refl _ _ _) m rs
theorem js_doc {x j} : JS X W (.Expr (.Constant (.str x) j pos) pos') evPass := PS.imp ps_doc fun D σv H ⟨fs, F, σ, S, rs, m, p⟩ => p _ _ _ _ (Gr.refl _ _ _) m rs
def evSet (i : Nat) (f : EvE) : EvS := fun σ S => (f σ S).stm σ fun d S1 => .nx (σ.set i (some d)) S1
theorem js_set {i : Nat} {x : Str} {p' : Pos} (hN : X.N.Nodup) (hi : X.N[i]? = some x) (hx : Loc X.env.scope x) (he : JE X W e f) (hs : swapsWith e (some (.Name x p')) pos.line X.env = pure false := by rfl) (hf : X.fn x = true ∨ X.env.scope.names.lookup x = some .local := by first | exact .inl rfl | exact .inr rfl | assumption) :
    JS X W (.Assign [.Name x p'] e pos) (evSet i f) :=
  PS.imp (ps_set hN hi hx he hs hf) fun D σv H ⟨fs, F, σ, S, rs, m, q⟩ => tG.stm rs m q fun x S1 fs1 F1 H1 v rs1 m1 g1 r1 p1 => p1 _ _ _ _ (Gr.refl _ _ _) m1 (rs1.set r1 i)
/-- a name that a comprehension is stored at -/
theorem js_setLc {i : Nat} {x : Str} {p' : Pos} {te : TE} (h : PS X (.Assign [.Name x p'] e pos) (tAsg te (gName i))) (hi : ∀ σ H Q, tE X.K W f σ H Q → te σ H Q) : JS X W (.Assign [.Name x p'] e pos) (evSet i f) :=
  PS.imp h fun D σv H ⟨fs, F, σ, S, rs, m, q⟩ => hi _ _ _ (tG.stm rs m q fun x S1 fs1 F1 H1 v rs1 m1 g1 r1 p1 => p1 _ _ _ _ (Gr.refl _ _ _) m1 (rs1.set r1 i))
def evExpr (f : EvE) : EvS := fun σ S => (f σ S).stm σ fun _ S1 => .nx σ S1
theorem js_expr (he : JE X W e f) (hs : swapsWith e none pos.line X.env = pure false := by rfl) : JS X W (.Expr e pos) (evExpr f) :=
  PS.imp (ps_expr he hs) fun D σv H ⟨fs, F, σ, S, rs, m, q⟩ => tG.stm rs m q fun x S1 fs1 F1 H1 v rs1 m1 g1 r1 p1 => p1 _ _ _ _ (Gr.refl _ _ _) m1 rs1
def evRet (f : EvE) : EvS := fun σ S => (f σ S).stm σ fun d S1 => .ret d S1
theorem js_ret (he : JE X W e f) : JS X W (.Return (some e) pos) (evRet f) :=
  PS.imp (ps_ret he) fun D σv H ⟨fs, F, σ, S, rs, m, q⟩ => tG.stm rs m q fun x S1 fs1 F1 H1 v rs1 m1 g1 r1 p1 => p1 _ _ _ _ (Gr.refl _ _ _) m1 r1
def evRetN : EvS := fun σ S => .ret .non S
theorem js_retN : JS X W (.Return none pos) evRetN := PS.imp ps_retN fun D σv H ⟨fs, F, σ, S, rs, m, p⟩ => p _ _ _ _ (Gr.refl _ _ _) m non_rep
def evIfS (c : EvB) (s t : EvS) : EvS := fun σ S => (c σ S).stm σ fun b S1 => match b with
  | true => s σ S1
  | false => t σ S1
theorem js_if {c : Expr} {F1 : EvB} {x y : List Stmt} (hc : JT X W c F1) (h1 : JSs X W x s) (h2 : JSs X W y t) : JS X W (.If c x y pos) (evIfS F1 s t) :=
  PS.imp (ps_if hc h1 h2) fun D σv H ⟨fs, F, σ, S, rs, m, q⟩ => tG.stm rs m q fun b S1 fs1 F1 H1 v rs1 m1 g1 r1 p1 => by
    cases (show b = v from r1)
    cases b with
    | true => rw [if_pos rfl]; exact ⟨_, _, _, _, rs1, m1, p1⟩
    | false => rw [if_neg Bool.false_ne_true]; exact ⟨_, _, _, _, rs1, m1, p1⟩
/-- a, b = x, y -/
def evPar (i j : Nat) (gl : EvL) : EvS := fun σ S => (gl σ S).stm σ fun ds S1 => match ds with
  | [a, b] => .nx ((σ.set i (some a)).set j (some b)) S1
  | _ => .stuck
theorem js_par {i j : Nat} {x y : Str} {gl : EvL} {px py pt : Pos} {kt k2 pt2} (hc : X.calm = true) (hN : X.N.Nodup) (hi : X.N[i]? = some x) (hj : X.N[j]? = some y) (hij : i ≠ j)
    (hx : X.env.scope.names.lookup x = some .local) (hy : X.env.scope.names.lookup y = some .local) (ha : JA X W [a, b] gl)
    (hw : swappedStores [.Tuple [.Name x px, .Name y py] kt pt] (.Tuple [a, b] k2 pt2) X.env = pure (some [x, y]))
    (hs : swapsWithSole [.Tuple [.Name x px, .Name y py] kt pt] (.Tuple [a, b] k2 pt2) pos.line X.env = pure false := by rfl) :
    JS X W (.Assign [.Tuple [.Name x px, .Name y py] kt pt] (.Tuple [a, b] k2 pt2) pos) (evPar i j gl) :=
  PS.imp (ps_par hc hN hi hj hij hx hy ha hw hs) fun D σv H ⟨fs, F, σ, S, rs, m, q⟩ => tG.stm rs m q fun ds S1 fs1 F1 H1 v rs1 m1 g1 r1 p1 => by
    split at p1
    · rename_i d d'
      obtain ⟨v1, v2, rfl, r, r'⟩ := repL2 r1
      exact ⟨v1, v2, rfl, p1 _ _ _ _ (Gr.refl _ _ _) m1 ((rs1.set r i).set r' j)⟩
    · exact False.elim p1
/-- o.f = e -/
def evFldS (Cs : List Addr) (nm : Str) (f g : EvE) : EvS := fun σ S => (g σ S).stm σ fun y S1 => (f σ S1).stm σ fun d S2 => match asI d S2 with
  | some (n, C, fl) => if C ∈ Cs ∧ fl.length < 1000 then .nx σ (S2.set n (.ins C (putFD nm y fl))) else .stuck
  | none => .stuck
theorem js_fld {Cs : List Addr} (hC : ∀ C ∈ Cs, Cls X.K C ∧ NoAttr X.K C nm) (ho : JE X W o f) (he : JE X W e g) (hs : swapsWith e (some (.Attribute o nm pos')) pos.line X.env = pure false := by rfl) : JS X W (.Assign [.Attribute o nm pos'] e pos) (evFldS Cs nm f g) :=
  PS.imp (ps_fld ho he hs) fun D σv H ⟨fs, F, σ, S, rs, m, q⟩ => tG.stm rs m q fun y S1 fs1 F1 H1 v rs1 m1 g1 r1 p1 => tG.stm rs1 m1 p1 fun d S2 fs2 F2 H2 w rs2 m2 g2 r2 p2 => by
    split at p2
    · rename_i n C fl e1
      split at p2
      · rename_i hc
        obtain ⟨rfl, hS, a, dx, vs, h1, h2, h3, h4⟩ := asI_ok m2 r2 e1
        have hl := h4.length
        refine ⟨a, C, dx, vs, h1, h3, (hC C hc.1).1, (hC C hc.1).2, by rw [hl]; exact hc.2, ?_⟩
        obtain ⟨m3, g3⟩ := mt_set (o := .ins C dx (L2.putF nm v vs)) (so' := .ins C (putFD nm y fl)) m2 hS rfl h2 ⟨dx, _, upd_same, RepKV.putF (r1.mono g2) h4⟩
        exact p2 _ _ _ _ g3 m3 (rs2.mono g3)
      · exact False.elim p2
    · exact False.elim p2
/-- o[i] = e: a dict, a list of the store -/
def evPut (f g h : EvE) : EvS := fun σ S => (h σ S).stm σ fun y S1 => (f σ S1).stm σ fun d S2 => (g σ S2).stm σ fun k S3 => match d with
  | .ref n => match S3[n]? with
    | some (.dct kvs) => match keyD k with
      | some j => if kvs.length < sizeLine then .nx σ (S3.set n (.dct (putD kvs j y))) else .stuck
      | none => .stuck
    | some (.dcT kvs) => match keyT k with
      | some j => if kvs.length < sizeLine then .nx σ (S3.set n (.dcT (putD kvs j y))) else .stuck
      | none => .stuck
    | some (.lst ds) => match k with
      | .int i => match ixN ds.length i with
        | some j => .nx σ (S3.set n (.lst (ds.set j y)))
        | none => .stuck
      | _ => .stuck
    | _ => .stuck
  | _ => .stuck
theorem putK_len {κ : Type} [DecidableEq κ] (kvs : List (κ × V)) (k : κ) (v : V) : True := True.intro
theorem js_put {i : Expr} (hu : X.A.units + 1 < cLine) (ho : JE X W o f) (hi : JE X W i g) (he : JE X W e h')
    (hs : swapsWith e (some (.Subscript o i pos')) pos.line X.env = pure false := by rfl)
    (ha : ∀ v, assign (.Subscript o i pos') X.env v = (do
      let ov ← holding [v] (eval o X.env)
      let iv ← holding [v, ov] (eval i X.env)
      standAt pos'
      holding [v, ov, iv] (setItem ov iv v)
      release [v, ov, iv] []) := by intro _; rfl)
    (hs2 : swapsWithSole [.Subscript o i pos'] e pos.line X.env = pure false := by rfl) (hw : swappedStores [.Subscript o i pos'] e X.env = pure none := by rfl)
    (h1 : (assignEach [.Subscript o i pos'] X.env).map (·.2) = [assign (.Subscript o i pos') X.env] := by rfl) : JS X W (.Assign [.Subscript o i pos'] e pos) (evPut f g h') :=
  PS.imp (PS.or (ps_dput hu ho hi he hs) (ps_asg he (pg_sub ho hi set_list ha) hs2 hw h1)) fun Dn σv H ⟨fs, F, σ, S, rs, m, q⟩ => by
    have dput : ∀ (S3 : Store) fs3 F3 H3 (d k y : D) (v w z : V), RepS X.K F3 fs3 σ σv → Mt X.K fs3 S3 F3 H3 → Rep X.K F3 fs3 y v → Rep X.K F3 fs3 d w → Rep X.K F3 fs3 k z →
        (∃ n, d = .ref n ∧ ((∃ kvs j, S3[n]? = some (.dct kvs) ∧ keyD k = some j ∧ kvs.length < sizeLine ∧ PostS X.K W Dn (.nx σ (S3.set n (.dct (putD kvs j y)))) fs3 F3 H3) ∨
          (∃ kvs j, S3[n]? = some (.dcT kvs) ∧ keyT k = some j ∧ kvs.length < sizeLine ∧ PostS X.K W Dn (.nx σ (S3.set n (.dcT (putD kvs j y)))) fs3 F3 H3))) →
        ∃ a H4, w = .ref a ∧ DPut H3 a z v H4 ∧ Dn.nx σv H4 := by
      intro S3 fs3 F3 H3 d k y v w z rs3 m3 r1 r2 r3 ⟨n, ed, h⟩
      subst ed
      rw [Rep] at r2
      obtain ⟨a, rfl, ha⟩ := r2
      rcases h with ⟨kvs, j, hS, hk, hl, p3⟩ | ⟨kvs, j, hS, hk, hl, p3⟩
      · obtain ⟨b, f1, _, vs, f2, f3⟩ := m3.ob n _ hS rfl
        rw [ha] at f1; cases f1
        have hz := keyD_ok r3 hk
        subst hz
        obtain ⟨m4, g4⟩ := mt_set (o := .dK (putK vs j v)) (so' := .dct (putD kvs j y)) m3 hS rfl ha ⟨_, upd_same, RepKV.put r1 f3⟩
        exact ⟨a, _, rfl, DPut.k f2 (by rw [f3.length]; exact hl), p3 _ _ _ _ g4 m4 (rs3.mono g4)⟩
      · obtain ⟨b, f1, _, vs, f2, f3⟩ := m3.ob n _ hS rfl
        rw [ha] at f1; cases f1
        obtain ⟨b, rfl, hb⟩ := keyT_ok m3 r3 hk
        obtain ⟨m4, g4⟩ := mt_set (o := .dT (putK vs j v)) (so' := .dcT (putD kvs j y)) m3 hS rfl ha ⟨_, upd_same, RepKV.put r1 f3⟩
        exact ⟨a, _, rfl, .inr ⟨vs, j, b, f2, rfl, hb, by rw [f3.length]; exact hl, rfl⟩, p3 _ _ _ _ g4 m4 (rs3.mono g4)⟩
    -- which way: by what the three parts give
    unfold evPut at q
    cases e1 : h' σ S with
    | stuck => rw [e1] at q; exact False.elim q
    | exc C d S1 => rw [e1] at q; exact .inl (tG.stm (R := Rep X.K) rs m (k := fun _ _ => .stuck) (by rw [e1]; exact q) fun a S1 fs1 F1 H1 v rs1 m1 g1 r1 p1 => False.elim p1)
    | ok y S1 =>
      rw [e1] at q
      have q : PostS X.K W Dn ((f σ S1).stm σ _) fs F H := q
      cases e2 : f σ S1 with
      | stuck => rw [e2] at q; exact False.elim q
      | exc C d S2 => rw [e2] at q; exact .inl (tG.stm (R := Rep X.K) rs m (k := fun _ S1 => (f σ S1).stm σ fun _ _ => .stuck) (by rw [e1]; show PostS X.K W Dn ((f σ S1).stm σ _) fs F H; rw [e2]; exact q) fun a S1 fs1 F1 H1 v rs1 m1 g1 r1 p1 => tG.stm rs1 m1 p1 fun a S1 fs1 F1 H1 v rs1 m1 g1 r1 p1 => False.elim p1)
      | ok d S2 =>
        rw [e2] at q
        have q : PostS X.K W Dn ((g σ S2).stm σ _) fs F H := q
        cases e3 : g σ S2 with
        | stuck => rw [e3] at q; exact False.elim q
        | exc C d' S3 => rw [e3] at q; exact .inl (tG.stm (R := Rep X.K) rs m (k := fun _ S1 => (f σ S1).stm σ fun _ S2 => (g σ S2).stm σ fun _ _ => .stuck) (by rw [e1]; show PostS X.K W Dn ((f σ S1).stm σ _) fs F H; rw [e2]; show PostS X.K W Dn ((g σ S2).stm σ _) fs F H; rw [e3]; exact q) fun a S1 fs1 F1 H1 v rs1 m1 g1 r1 p1 => tG.stm rs1 m1 p1 fun a S1 fs1 F1 H1 v rs1 m1 g1 r1 p1 => tG.stm rs1 m1 p1 fun a S1 fs1 F1 H1 v rs1 m1 g1 r1 p1 => False.elim p1)
        | ok k S3 =>
          rw [e3] at q
          simp only [Out.stm_ok] at q
          have go : ∀ {P : V → V → V → Hp → Prop}, (∀ fs3 F3 H3 v w z, RepS X.K F3 fs3 σ σv → Mt X.K fs3 S3 F3 H3 → Gr fs F H fs3 F3 H3 → Rep X.K F3 fs3 y v → Rep X.K F3 fs3 d w → Rep X.K F3 fs3 k z → P v w z H3) →
              tE X.K W h' σv H fun v H1 => tE X.K W f σv H1 fun w H2 => tE X.K W g σv H2 fun z H3 => P v w z H3 := fun {P} hh => by
            refine ⟨fs, F, σ, S, rs, m, ?_⟩
            rw [e1]
            intro fs1 F1 H1 v g1 m1 r1
            refine ⟨fs1, F1, σ, S1, rs.mono g1, m1, ?_⟩
            rw [e2]
            intro fs2 F2 H2 w g2 m2 r2
            refine ⟨fs2, F2, σ, S2, (rs.mono g1).mono g2, m2, ?_⟩
            rw [e3]
            intro fs3 F3 H3 z g3 m3 r3
            exact hh fs3 F3 H3 v w z (((rs.mono g1).mono g2).mono g3) m3 ((g1.trans g2).trans g3) ((r1.mono g2).mono g3) (r2.mono g3) r3
          cases d with
          | ref n =>
            cases e4 : S3[n]? with
            | none => simp only [e4] at q; exact False.elim q
            | some so =>
              cases so with
              | dct kvs =>
                simp only [e4] at q
                cases e5 : keyD k with
                | none => simp only [e5] at q; exact False.elim q
                | some j =>
                  simp only [e5] at q
                  split at q
                  · rename_i hl
                    exact .inl (go fun fs3 F3 H3 v w z rs3 m3 g3 r1 r2 r3 => dput S3 fs3 F3 H3 _ _ _ v w z rs3 m3 r1 r2 r3 ⟨n, rfl, .inl ⟨kvs, j, e4, e5, hl, PostS.grow q g3⟩⟩)
                  · exact False.elim q
              | dcT kvs =>
                simp only [e4] at q
                cases e5 : keyT k with
                | none => simp only [e5] at q; exact False.elim q
                | some j =>
                  simp only [e5] at q
                  split at q
                  · rename_i hl
                    exact .inl (go fun fs3 F3 H3 v w z rs3 m3 g3 r1 r2 r3 => dput S3 fs3 F3 H3 _ _ _ v w z rs3 m3 r1 r2 r3 ⟨n, rfl, .inr ⟨kvs, j, e4, e5, hl, PostS.grow q g3⟩⟩)
                  · exact False.elim q
              | lst ds =>
                simp only [e4] at q
                cases k with
                | int i =>
                  simp only at q
                  cases e5 : ixN ds.length i with
                  | none => simp only [e5] at q; exact False.elim q
                  | some j =>
                    simp only [e5] at q
                    refine .inr (go fun fs3 F3 H3 v w z rs3 m3 g3 r1 r2 r3 => ?_)
                    rw [Rep] at r2
                    obtain ⟨a, rfl, ha⟩ := r2
                    obtain ⟨b, f1, _, xs, f2, f3⟩ := m3.ob n _ e4 rfl
                    rw [ha] at f1; cases f1
                    obtain ⟨m4, g4⟩ := mt_set (o := .lst (xs.set j v)) (so' := .lst (ds.set j y)) m3 e4 rfl ha ⟨_, upd_same, RepL.set j r1 f3⟩
                    exact ⟨a, xs, i, j, rfl, rep_int r3, f2, by rw [f3.length]; exact e5, PostS.grow q g3 _ _ _ _ g4 m4 (rs3.mono g4)⟩
                | _ => exact False.elim q
              | _ => simp only [e4] at q; exact False.elim q
          | _ => exact False.elim q
end
end DL
/-! DL, part 5: targets, loops, comprehensions, a def by its body. -/
namespace DL
open PySem L2
/-! ### targets -/
abbrev EvT := D → Sg → Store → Option (Sg × Store)
def tGt (K : PySem.W.Frag) (g : EvT) : TG := fun v σv H Q => ∃ fs F σ S d, RepS K F fs σ σv ∧ Mt K fs S F H ∧ Rep K F fs d v ∧ ∃ σ' S', g d σ S = some (σ', S') ∧
  ∀ fs' F' H' σv', Gr fs F H fs' F' H' → Mt K fs' S' F' H' → RepS K F' fs' σ' σv' → Q σv' H'
abbrev JG (X : Cx) (tg : Expr) (g : EvT) : Prop := PG X tg (tGt X.K g)
theorem PG.imp {X : Cx} {e : Expr} {t t' : TG} (h : PG X e t) (i : ∀ v σ H Q, t' v σ H Q → t v σ H Q) : PG X e t' := ⟨fun pins s σ H v u Q I r q => h.run pins s σ H v u Q I r (i v σ H Q q)⟩
def gtName (i : Nat) : EvT := fun d σ S => some (σ.set i (some d), S)
/-- a tuple's items at names -/
def gtNames (is : List Nat) : EvT := fun d σ S => match d with
  | .tup ds => if ds.length = is.length then some ((ds.zip is).foldl (fun σ p => σ.set p.2 (some p.1)) σ, S) else none
  | .fz true ds => if ds.length = is.length then some ((ds.zip is).foldl (fun σ p => σ.set p.2 (some p.1)) σ, S) else none
  | _ => none
section
variable {X : Cx} {W : WX} {e a b c o tg : Expr} {es : List Expr} {f g h' : EvE} {pos pos' apos p : Pos} {nm m : Str} {body : List Stmt} {s t u : EvS} {gt : EvT}
theorem jg_name {i : Nat} {x : Str} (hN : X.N.Nodup) (hi : X.N[i]? = some x) (hx : Loc X.env.scope x) (hf : X.fn x = true ∨ X.env.scope.names.lookup x = some .local := by first | exact .inl rfl | exact .inr rfl | assumption) : JG X (.Name x pos) (gtName i) :=
  PG.imp (pg_name hN hi hx hf) fun v σv H Q ⟨fs, F, σ, S, d, rs, mt, r, σ', S', e, q⟩ => by
    cases (show some (σ.set i (some d), S) = some (σ', S') from e)
    exact q _ _ _ _ (Gr.refl _ _ _) mt (rs.set r i)
/-- the names of a tuple, as a chain of targets -/
def gsOf : List Nat → TGs
  | [] => gNil
  | i :: is => gCons (gName i) (gsOf is)
def setAll (σ : St) : List (V × Nat) → St
  | [] => σ
  | p :: ps => setAll (σ.set p.2 (some p.1)) ps
theorem gsOf_run {H : Hp} {Q : St → Hp → Prop} : ∀ {is : List Nat} {xs : List V} {σ : St}, xs.length = is.length → Q (setAll σ (xs.zip is)) H → gsOf is xs σ H Q
  | [], [], _, _, q => ⟨rfl, q⟩
  | i :: is, x :: xs, σ, hl, q => ⟨x, xs, rfl, gsOf_run (by simpa using hl) q⟩
  | [], _ :: _, _, hl, _ => by simp at hl
  | _ :: _, [], _, hl, _ => by simp at hl
theorem RepS.setAll {K : PySem.W.Frag} {F : Hp} {fs : List Addr} : ∀ {is : List Nat} {ds : List D} {xs : List V} {σ : Sg} {σv : St}, RepS K F fs σ σv → RepL K F fs ds xs → RepS K F fs ((ds.zip is).foldl (fun σ p => σ.set p.2 (some p.1)) σ) (DL.setAll σv (xs.zip is))
  | [], ds, xs, σ, σv, h, r => by simpa [DL.setAll] using h
  | i :: is, [], xs, σ, σv, h, r => by rw [RepL] at r; subst r; simpa [DL.setAll] using h
  | i :: is, d :: ds, xs, σ, σv, h, r => by
    rw [RepL] at r
    obtain ⟨x, xr, rfl, h1, h2⟩ := r
    show RepS K F fs ((ds.zip is).foldl _ (σ.set i (some d))) (DL.setAll (σv.set i (some x)) (xr.zip is))
    exact RepS.setAll (h.set h1 i) h2
theorem jg_names {is : List Nat} {k : Nat} (hc : X.calm = true) (h : PGs X es (gsOf is)) (hn : (assignEach es X.env).length = is.length := by rfl) (hst : (assignEach es X.env).findIdx? (·.1) = none := by rfl) : JG X (.Tuple es k pos) (gtNames is) :=
  PG.imp (pg_tup hc h hn hst) fun v σv H Q ⟨fs, F, σ, S, d, rs, mt, r, σ', S', e, q⟩ => by
    unfold gtNames at e
    split at e
    · rename_i ds
      split at e
      · rename_i hl
        cases e
        obtain ⟨a, xs, h1, h2, h3⟩ := (show ∃ a us, v = V.ref a ∧ F a = some (.tup us) ∧ RepL X.K F fs ds us by rw [Rep] at r; exact r)
        exact ⟨a, xs, h1, SqT.of (mt.le _ _ h2), by rw [h3.length]; exact hl, gsOf_run (by rw [h3.length]; exact hl) (q _ _ _ _ (Gr.refl _ _ _) mt (rs.setAll h3))⟩
      · cases e
    · rename_i ds
      split at e
      · rename_i hl
        cases e
        obtain ⟨a, xs, h1, h2, h3⟩ := (show ∃ a us, v = V.ref a ∧ SqT X.K F a us ∧ RepL X.K F fs ds us by rw [Rep] at r; exact r)
        exact ⟨a, xs, h1, SqT.mono mt.le h2, by rw [h3.length]; exact hl, gsOf_run (by rw [h3.length]; exact hl) (q _ _ _ _ (Gr.refl _ _ _) mt (rs.setAll h3))⟩
      · cases e
    · cases e
/-- target = value -/
def evAsg (gt : EvT) (f : EvE) : EvS := fun σ S => (f σ S).stm σ fun d S1 => match gt d σ S1 with
  | some (σ', S2) => .nx σ' S2
  | none => .stuck
theorem js_asg (he : JE X W e f) (hg : JG X tg gt) (hs : swapsWithSole [tg] e pos.line X.env = pure false := by rfl) (hw : swappedStores [tg] e X.env = pure none := by rfl)
    (h1 : (assignEach [tg] X.env).map (·.2) = [assign tg X.env] := by rfl) : JS X W (.Assign [tg] e pos) (evAsg gt f) :=
  PS.imp (ps_asg he hg hs hw h1) fun Dn σv H ⟨fs, F, σ, S, rs, m, q⟩ => tG.stm rs m q fun x S1 fs1 F1 H1 v rs1 m1 g1 r1 p1 => by
    split at p1
    · rename_i σ' S2 e1
      exact ⟨fs1, F1, σ, S1, x, rs1, m1, r1, σ', S2, e1, p1⟩
    · exact False.elim p1
/-! ### for -/
def loopD (gt : EvT) (body : EvS) : List D → EvS
  | [], σ, S => .nx σ S
  | d :: ds, σ, S => match gt d σ S with
    | none => .stuck
    | some (σ1, S1) => match body σ1 S1 with
      | .nx σ2 S2 => loopD gt body ds σ2 S2
      | .ct σ2 S2 => loopD gt body ds σ2 S2
      | .bk σ2 S2 => .nx σ2 S2
      | o => o
/-- one turn -/
theorem loop_turn {K : PySem.W.Frag} {W : WX} {gt : EvT} {body : EvS} {d : D} {ds : List D} {x : V} {Dn : Ends} {fs0 fs : List Addr} {F0 H0 F H : Hp} {σ : Sg} {σv : St} {S : Store} (g0 : Gr fs0 F0 H0 fs F H) (rs : RepS K F fs σ σv) (m : Mt K fs S F H) (r : Rep K F fs d x)
    (q : PostS K W Dn (loopD gt body (d :: ds) σ S) fs F H) {N : St → Hp → Prop}
    (hN : ∀ fs' F' H' σ' S' σv', Gr fs0 F0 H0 fs' F' H' → Gr fs F H fs' F' H' → RepS K F' fs' σ' σv' → Mt K fs' S' F' H' → PostS K W Dn (loopD gt body ds σ' S') fs' F' H' → N σv' H') :
    tGt K gt x σv H fun σ2 H2 => tS K W body { Dn with nx := N, ct := N, bk := Dn.nx } σ2 H2 := by
  unfold loopD at q
  cases e1 : gt d σ S with
  | none => rw [e1] at q; exact False.elim q
  | some p =>
    obtain ⟨σ1, S1⟩ := p
    rw [e1] at q
    refine ⟨fs, F, σ, S, d, rs, m, r, σ1, S1, e1, fun fs1 F1 H1 σv1 g1 m1 rs1 => ⟨fs1, F1, σ1, S1, rs1, m1, ?_⟩⟩
    have q : PostS K W Dn (match body σ1 S1 with
      | .nx σ2 S2 => loopD gt body ds σ2 S2
      | .ct σ2 S2 => loopD gt body ds σ2 S2
      | .bk σ2 S2 => .nx σ2 S2
      | o => o) fs F H := q
    cases e2 : body σ1 S1 with
    | nx σ2 S2 => rw [e2] at q; exact fun fs2 F2 H2 σv2 g2 m2 rs2 => hN fs2 F2 H2 σ2 S2 σv2 ((g0.trans g1).trans g2) (g1.trans g2) rs2 m2 (PostS.grow q (g1.trans g2))
    | ct σ2 S2 => rw [e2] at q; exact fun fs2 F2 H2 σv2 g2 m2 rs2 => hN fs2 F2 H2 σ2 S2 σv2 ((g0.trans g1).trans g2) (g1.trans g2) rs2 m2 (PostS.grow q (g1.trans g2))
    | bk σ2 S2 => rw [e2] at q; exact fun fs2 F2 H2 σv2 g2 m2 rs2 => q _ _ _ _ (g1.trans g2) m2 rs2
    | ret d' S2 => rw [e2] at q; exact fun fs2 F2 H2 σv2 g2 m2 rs2 => q _ _ _ _ (g1.trans g2) m2 rs2
    | exc C d' σ2 S2 => rw [e2] at q; exact fun fs2 F2 H2 σv2 dx v g2 m2 rs2 e r => q _ _ _ _ _ _ (g1.trans g2) m2 rs2 e r
    | stuck => rw [e2] at q; exact q
/-- what a loop that stands at its i-th item knows -/
def PvD (K : PySem.W.Frag) (W : WX) (gt : EvT) (body : EvS) (Dn : Ends) (ds : List D) (xs : List V) (fs0 : List Addr) (F0 H0 : Hp) (i : Nat) (σv : St) (H : Hp) : Prop :=
  ∃ fs F σ S, Gr fs0 F0 H0 fs F H ∧ RepS K F fs σ σv ∧ Mt K fs S F H ∧ RepL K F fs ds xs ∧ PostS K W Dn (loopD gt body (ds.drop i) σ S) fs F H
theorem pv_turn {K : PySem.W.Frag} {W : WX} {gt : EvT} {body : EvS} {Dn : Ends} {ds : List D} {xs : List V} {fs0 : List Addr} {F0 H0 : Hp} {i : Nat} {σv : St} {H : Hp} {x : V} (hx : xs[i]? = some x) (h : PvD K W gt body Dn ds xs fs0 F0 H0 i σv H) :
    tGt K gt x σv H fun σ2 H2 => tS K W body { Dn with nx := PvD K W gt body Dn ds xs fs0 F0 H0 (i + 1), ct := PvD K W gt body Dn ds xs fs0 F0 H0 (i + 1), bk := Dn.nx } σ2 H2 := by
  obtain ⟨fs, F, σ, S, g, rs, m, rl, q⟩ := h
  have hl : i < ds.length := by
    have := (List.getElem?_eq_some_iff.mp hx).1
    rwa [rl.length] at this
  have ed : ds.drop i = ds[i] :: ds.drop (i + 1) := List.drop_eq_getElem_cons hl
  rw [ed] at q
  obtain ⟨y, e1, r1⟩ := rl.get (List.getElem?_eq_getElem hl)
  rw [hx] at e1; cases e1
  exact loop_turn g rs m r1 q fun fs' F' H' σ' S' σv' g' g'' rs' m' q' => ⟨fs', F', σ', S', g', rs', m', rl.mono g'', q'⟩
theorem pv_done {K : PySem.W.Frag} {W : WX} {gt : EvT} {body : EvS} {Dn : Ends} {ds : List D} {xs : List V} {fs0 : List Addr} {F0 H0 : Hp} {σv : St} {H : Hp} (h : PvD K W gt body Dn ds xs fs0 F0 H0 xs.length σv H) : Dn.nx σv H := by
  obtain ⟨fs, F, σ, S, g, rs, m, rl, q⟩ := h
  rw [rl.length, List.drop_length] at q
  exact q _ _ _ _ (Gr.refl _ _ _) m rs
/-- what is walked: data -/
def itemsD : D → Option (Bool × List D)
  | .lst ds => some (false, ds)
  | .tup ds => some (true, ds)
  | .fz t ds => some (t, ds)
  | _ => none
def evFor (f : EvE) (gt : EvT) (body : EvS) : EvS := fun σ S => (f σ S).stm σ fun d S1 => match itemsD d with
  | some (_, ds) => loopD gt body ds σ S1
  | none => .stuck
theorem PI.or {X : Cx} {tg it : Expr} {w w' : TI} (h : PI X tg it w) (h' : PI X tg it w') : PI X tg it (fun σ H R => w σ H R ∨ w' σ H R) := ⟨fun pins s σ H R I q => q.elim (h.run pins s σ H R I) (h'.run pins s σ H R I)⟩
theorem items_ok {K : PySem.W.Frag} {F H : Hp} {fs : List Addr} {S : Store} {d : D} {v : V} {t : Bool} {ds : List D} (m : Mt K fs S F H) (r : Rep K F fs d v) (e : itemsD d = some (t, ds)) :
    ∃ a xs, v = .ref a ∧ RepL K F fs ds xs ∧ ∀ fs' F' H' S', Gr fs F H fs' F' H' → Mt K fs' S' F' H' → if t then SqT K H' a xs else SqL K H' a xs := by
  cases d with
  | lst es =>
    cases e; rw [Rep] at r; obtain ⟨a, xs, h1, h2, h3⟩ := r
    exact ⟨a, xs, h1, h3, fun fs' F' H' S' g m' => SqL.of (m'.le _ _ (g.le _ _ h2))⟩
  | tup es =>
    cases e; rw [Rep] at r; obtain ⟨a, xs, h1, h2, h3⟩ := r
    exact ⟨a, xs, h1, h3, fun fs' F' H' S' g m' => SqT.of (m'.le _ _ (g.le _ _ h2))⟩
  | fz t es =>
    cases e; rw [Rep] at r; obtain ⟨a, xs, h1, h2, h3⟩ := r
    refine ⟨a, xs, h1, h3, fun fs' F' H' S' g m' => ?_⟩
    cases t with
    | true => exact SqT.mono m'.le (SqT.mono g.le h2)
    | false => exact SqL.mono m'.le (SqL.mono g.le h2)
  | _ => cases e
theorem js_for (hp : PassesOwn (model X.prog X.w) X.A X.env X.xe) (hc : X.calm = true) (he : JE X W e f) (hg : JG X tg gt) (hb : JSs X W body s) (hs : ∀ x, foldedSetIterable e X.env x = pure x := by intro _; rfl) :
    JS X W (.For tg e body [] pos) (evFor f gt s) :=
  PS.imp (ps_for hp hc (PI.or (pi_list he) (pi_tup he)) hg hb hs) fun Dn σv H ⟨fs, F, σ, S, rs, m, q⟩ => by
    unfold evFor at q
    cases e1 : f σ S with
    | stuck => rw [e1] at q; exact False.elim q
    | exc C d S1 => rw [e1] at q; exact .inl (tG.stm (R := Rep X.K) rs m (k := fun _ _ => .stuck) (by rw [e1]; exact q) fun a S1 fs1 F1 H1 v rs1 m1 g1 r1 p1 => False.elim p1)
    | ok d S1 =>
      rw [e1] at q
      simp only [Out.stm_ok] at q
      cases e2 : itemsD d with
      | none => simp only [e2] at q; exact False.elim q
      | some p =>
        obtain ⟨t, ds⟩ := p
        simp only [e2] at q
        have pre : ∀ {fs1 F1 H1 v}, Gr fs F H fs1 F1 H1 → Mt X.K fs1 S1 F1 H1 → Rep X.K F1 fs1 d v → ∃ a xs, v = .ref a ∧ PvD X.K W gt s Dn ds xs fs1 F1 H1 0 σv H1 ∧ ∀ i σ' H', PvD X.K W gt s Dn ds xs fs1 F1 H1 i σ' H' → if t then SqT X.K H' a xs else SqL X.K H' a xs := fun {fs1 F1 H1 v} g1 m1 r1 => by
          obtain ⟨a, xs, h1, h2, h3⟩ := items_ok m1 r1 e2
          exact ⟨a, xs, h1, ⟨fs1, F1, σ, S1, Gr.refl _ _ _, rs.mono g1, m1, h2, PostS.grow q g1⟩, fun i σ' H' ⟨fs', F', _, S', g', _, m', _, _⟩ => h3 fs' F' H' S' g' m'⟩
        cases t with
        | false =>
          refine .inl ⟨fs, F, σ, S, rs, m, ?_⟩
          rw [e1]
          intro fs1 F1 H1 v g1 m1 r1
          obtain ⟨a, xs, h1, h2, h3⟩ := pre g1 m1 r1
          exact ⟨a, h1, ⟨xs, h3 0 σv H1 h2⟩, for_list (PvD X.K W gt s Dn ds xs fs1 F1 H1) h2 (fun i σ' H' _ h => h3 i σ' H' h) (fun i x σ' H' hx h => pv_turn hx h) fun σ' H' h => pv_done h⟩
        | true =>
          refine .inr ⟨fs, F, σ, S, rs, m, ?_⟩
          rw [e1]
          intro fs1 F1 H1 v g1 m1 r1
          obtain ⟨a, xs, h1, h2, h3⟩ := pre g1 m1 r1
          exact ⟨a, h1, ⟨xs, h3 0 σv H1 h2⟩, for_tup (PvD X.K W gt s Dn ds xs fs1 F1 H1) h2 (fun i σ' H' _ h => h3 i σ' H' h) (fun i x σ' H' hx h => pv_turn hx h) fun σ' H' h => pv_done h⟩
/-- the ints of a range -/
def rangeD (lo : Int) : Nat → List D
  | 0 => []
  | n + 1 => .int lo :: rangeD (lo + 1) n
theorem rangeD_length : ∀ (n : Nat) (lo : Int), (rangeD lo n).length = n
  | 0, _ => rfl
  | n + 1, lo => by simp [rangeD, rangeD_length n]
theorem rangeD_get : ∀ (n : Nat) (lo : Int) (i : Nat), i < n → (rangeD lo n)[i]? = some (.int (lo + i))
  | 0, _, _, h => absurd h (Nat.not_lt_zero _)
  | n + 1, lo, 0, _ => by simp [rangeD]
  | n + 1, lo, i + 1, h => by
    rw [rangeD, List.getElem?_cons_succ, rangeD_get n (lo + 1) i (by omega)]
    congr 2
    push_cast
    omega
theorem rangeD_drop {n i : Nat} {lo : Int} (h : i < n) : (rangeD lo n).drop i = .int (lo + i) :: (rangeD lo n).drop (i + 1) := by
  have hl : i < (rangeD lo n).length := by rw [rangeD_length]; exact h
  rw [List.drop_eq_getElem_cons hl]
  have := rangeD_get n lo i h
  rw [List.getElem?_eq_getElem hl] at this
  rw [Option.some.inj this]
def PvR (K : PySem.W.Frag) (W : WX) (gt : EvT) (body : EvS) (Dn : Ends) (lo : Int) (n : Nat) (fs0 : List Addr) (F0 H0 : Hp) (i : Nat) (σv : St) (H : Hp) : Prop :=
  ∃ fs F σ S, Gr fs0 F0 H0 fs F H ∧ RepS K F fs σ σv ∧ Mt K fs S F H ∧ PostS K W Dn (loopD gt body ((rangeD lo n).drop i) σ S) fs F H
theorem pvr_turn {K : PySem.W.Frag} {W : WX} {gt : EvT} {body : EvS} {Dn : Ends} {lo : Int} {n : Nat} {fs0 : List Addr} {F0 H0 : Hp} {i : Nat} {σv : St} {H : Hp} (hi : i < n) (h : PvR K W gt body Dn lo n fs0 F0 H0 i σv H) :
    tGt K gt (.int (lo + i)) σv H fun σ2 H2 => tS K W body { Dn with nx := PvR K W gt body Dn lo n fs0 F0 H0 (i + 1), ct := PvR K W gt body Dn lo n fs0 F0 H0 (i + 1), bk := Dn.nx } σ2 H2 := by
  obtain ⟨fs, F, σ, S, g, rs, m, q⟩ := h
  rw [rangeD_drop hi] at q
  exact loop_turn g rs m int_rep q fun fs' F' H' σ' S' σv' g' g'' rs' m' q' => ⟨fs', F', σ', S', g', rs', m', q'⟩
theorem pvr_done {K : PySem.W.Frag} {W : WX} {gt : EvT} {body : EvS} {Dn : Ends} {lo : Int} {n : Nat} {fs0 : List Addr} {F0 H0 : Hp} {σv : St} {H : Hp} (h : PvR K W gt body Dn lo n fs0 F0 H0 n σv H) : Dn.nx σv H := by
  obtain ⟨fs, F, σ, S, g, rs, m, q⟩ := h
  have : (rangeD lo n).drop n = [] := List.drop_eq_nil_of_le (by rw [rangeD_length]; exact Nat.le_refl _)
  rw [this] at q
  exact q _ _ _ _ (Gr.refl _ _ _) m rs
/-- range(n), range(a, b) -/
def rng1 : List D → Option (Int × Nat)
  | [.int j] => if -(2 ^ 62) ≤ j ∧ j < 2 ^ 62 then some (0, j.toNat) else none
  | _ => none
def rng2 : List D → Option (Int × Nat)
  | [.int i, .int j] => if -(2 ^ 62) ≤ i ∧ i < 2 ^ 62 ∧ -(2 ^ 62) ≤ j ∧ j < 2 ^ 62 then some (i, (j - i).toNat) else none
  | _ => none
def evForR (rng : List D → Option (Int × Nat)) (gl : EvL) (gt : EvT) (body : EvS) : EvS := fun σ S => (gl σ S).stm σ fun ds S1 => match rng ds with
  | some (lo, n) => loopD gt body (rangeD lo n) σ S1
  | none => .stuck
theorem js_for1 {gl : EvL} (hp : PassesOwn (model X.prog X.w) X.A X.env X.xe) (hc : X.calm = true) (hgr : Gl X "range") (hm : X.mg "range" = none) (he : JA X W [e] gl) (hg : JG X tg gt) (hb : JSs X W body s)
    (hst : starEach [e] X.env = [(false, eval e X.env)] := by rfl) (hs : ∀ x, foldedSetIterable (.Call (.Name "range" p) [e] [] pos') X.env x = pure x := by intro _; rfl) :
    JS X W (.For tg (.Call (.Name "range" p) [e] [] pos') body [] pos) (evForR rng1 gl gt s) :=
  PS.imp (ps_for hp hc (pi_range1 hgr hm he hst) hg hb hs) fun Dn σv H ⟨fs, F, σ, S, rs, m, q⟩ => tG.stm rs m q fun ds S1 fs1 F1 H1 v rs1 m1 g1 r1 p1 => by
    cases e1 : rng1 ds with
    | none => rw [e1] at p1; exact False.elim p1
    | some q =>
      obtain ⟨lo, n⟩ := q
      rw [e1] at p1
      unfold rng1 at e1
      split at e1
      · split at e1
        · rename_i j hj
          cases e1
          obtain ⟨w, rfl, r⟩ := repL1 r1
          exact ⟨j, by rw [rep_int r], hj.1, hj.2, for_range (PvR X.K W gt s Dn 0 j.toNat fs1 F1 H1) ⟨fs1, F1, σ, S1, Gr.refl _ _ _, rs1, m1, p1⟩ (fun i σ' H' hi h => pvr_turn hi h) fun σ' H' h => pvr_done h⟩
        · cases e1
      · cases e1
theorem js_for2 {e2 : Expr} {gl : EvL} (hp : PassesOwn (model X.prog X.w) X.A X.env X.xe) (hc : X.calm = true) (hgr : Gl X "range") (hm : X.mg "range" = none) (he : JA X W [e, e2] gl) (hg : JG X tg gt) (hb : JSs X W body s)
    (hst : starEach [e, e2] X.env = [(false, eval e X.env), (false, eval e2 X.env)] := by rfl) (hst2 : starEach [e2] X.env = [(false, eval e2 X.env)] := by rfl) (hs : ∀ x, foldedSetIterable (.Call (.Name "range" p) [e, e2] [] pos') X.env x = pure x := by intro _; rfl) :
    JS X W (.For tg (.Call (.Name "range" p) [e, e2] [] pos') body [] pos) (evForR rng2 gl gt s) :=
  PS.imp (ps_for hp hc (pi_range2 hgr hm he hst hst2) hg hb hs) fun Dn σv H ⟨fs, F, σ, S, rs, m, q⟩ => tG.stm rs m q fun ds S1 fs1 F1 H1 v rs1 m1 g1 r1 p1 => by
    cases e1 : rng2 ds with
    | none => rw [e1] at p1; exact False.elim p1
    | some q =>
      obtain ⟨lo, n⟩ := q
      rw [e1] at p1
      unfold rng2 at e1
      split at e1
      · split at e1
        · rename_i i j hj
          cases e1
          obtain ⟨w, w', rfl, r, r'⟩ := repL2 r1
          exact ⟨lo, j, by rw [rep_int r, rep_int r'], hj, for_range (PvR X.K W gt s Dn lo (j - lo).toNat fs1 F1 H1) ⟨fs1, F1, σ, S1, Gr.refl _ _ _, rs1, m1, p1⟩ (fun i σ' H' hi h => pvr_turn hi h) fun σ' H' h => pvr_done h⟩
        · cases e1
      · cases e1
/-! ### while -/
/-- so many turns at most -/
def whileN (c : EvB) (body : EvS) : Nat → EvS
  | 0, _, _ => .stuck
  | n + 1, σ, S => (c σ S).stm σ fun b S1 => match b with
    | false => .nx σ S1
    | true => match body σ S1 with
      | .nx σ2 S2 => whileN c body n σ2 S2
      | .ct σ2 S2 => whileN c body n σ2 S2
      | .bk σ2 S2 => .nx σ2 S2
      | o => o
def evWhile (fuel : Sg → Store → Nat) (c : EvB) (body : EvS) : EvS := fun σ S => whileN c body (fuel σ S) σ S
theorem js_while {c : Expr} {ev : EvB} (fuel : Sg → Store → Nat) (hp : PassesOwn (model X.prog X.w) X.A X.env X.xe) (hc : JT X W c ev) (hb : JSs X W body s) : JS X W (.While c body [] pos) (evWhile fuel ev s) :=
  PS.imp (ps_while hp hc hb) fun Dn σv H ⟨fs, F, σ, S, rs, m, q⟩ => by
    refine ⟨fun n σv' H' => ∃ fs' F' σ' S', Gr fs F H fs' F' H' ∧ RepS X.K F' fs' σ' σv' ∧ Mt X.K fs' S' F' H' ∧ PostS X.K W Dn (whileN ev s n σ' S') fs' F' H', ⟨fuel σ S, fs, F, σ, S, Gr.refl _ _ _, rs, m, q⟩, ?_⟩
    rintro n σv1 H1 ⟨fs1, F1, σ1, S1, g1, rs1, m1, q1⟩
    cases n with
    | zero => exact False.elim q1
    | succ n =>
      refine tG.stm rs1 m1 q1 fun b S2 fs2 F2 H2 v rs2 m2 g2 r2 p2 => ?_
      cases (show b = v from r2)
      cases b with
      | false => rw [if_neg Bool.false_ne_true]; exact p2 _ _ _ _ (Gr.refl _ _ _) m2 rs2
      | true =>
        rw [if_pos rfl]
        refine ⟨fun σv' H' => ∃ fs' F' σ' S', Gr fs F H fs' F' H' ∧ RepS X.K F' fs' σ' σv' ∧ Mt X.K fs' S' F' H' ∧ PostS X.K W Dn (whileN ev s n σ' S') fs' F' H', fun σv' H' h => ⟨n, Nat.lt_succ_self n, h⟩, fs2, F2, σ1, S2, rs2, m2, ?_⟩
        have p2 : PostS X.K W Dn (match s σ1 S2 with
          | .nx σ2 S2 => whileN ev s n σ2 S2
          | .ct σ2 S2 => whileN ev s n σ2 S2
          | .bk σ2 S2 => .nx σ2 S2
          | o => o) fs2 F2 H2 := p2
        have g12 := g1.trans g2
        cases e2 : s σ1 S2 with
        | nx σ3 S3 => rw [e2] at p2; exact fun fs3 F3 H3 σv3 g3 m3 rs3 => ⟨fs3, F3, σ3, S3, g12.trans g3, rs3, m3, PostS.grow p2 g3⟩
        | ct σ3 S3 => rw [e2] at p2; exact fun fs3 F3 H3 σv3 g3 m3 rs3 => ⟨fs3, F3, σ3, S3, g12.trans g3, rs3, m3, PostS.grow p2 g3⟩
        | bk σ3 S3 => rw [e2] at p2; exact fun fs3 F3 H3 σv3 g3 m3 rs3 => p2 _ _ _ _ g3 m3 rs3
        | ret d' S3 => rw [e2] at p2; exact fun fs3 F3 H3 σv3 g3 m3 rs3 => p2 _ _ _ _ g3 m3 rs3
        | exc C d' σ3 S3 => rw [e2] at p2; exact fun fs3 F3 H3 σv3 dx v g3 m3 rs3 e r => p2 _ _ _ _ _ _ g3 m3 rs3 e r
        | stuck => rw [e2] at p2; exact p2
end
end DL
/-! DL, part 6: comprehensions, dict displays, append, a def by its body. -/
namespace DL
open PySem L2
section
variable {K : PySem.W.Frag} {fs fs0 : List Addr} {S : Store} {F F0 H H0 : Hp} {p : Addr} {o : HO}
/-- a thing that stands beside -/
theorem mt_side (m : Mt K fs S F H) (hF : F p = none) (hp : p ∉ fs) (o : HO) : Mt K fs S F (upd H p o) := by
  refine ⟨m.len, fun a o' h => by rw [upd_ne (fun z => by subst z; rw [hF] at h; cases h)]; exact m.le a o' h, fun n so hs hl => ?_, m.inj, fun a h => ?_, m.lk, m.lki⟩
  · obtain ⟨a, e1, e2, r⟩ := m.ob n so hs hl
    have ne : a ≠ p := fun z => hp (z ▸ List.mem_of_getElem? e1)
    exact ⟨a, e1, e2, r.keep (fun _ _ h => h) (fun _ _ h => h) (upd_ne ne)⟩
  · rw [upd_ne (fun (z : a = p) => hp (by rw [← z]; exact h))]; exact m.dom a h
theorem gr_side (g : Gr fs0 F0 H0 fs F H) (hp : H0 p = none) (o : HO) : Gr fs0 F0 H0 fs F (upd H p o) :=
  ⟨g.pre, g.le, g.new, g.newF, fun a o' h n => by rw [upd_ne (ne_of_none h hp)]; exact g.keep a o' h n, fun a h => by
    by_cases e : a = p
    · rw [e]; exact hp
    · rw [upd_ne e] at h; exact g.dom a h⟩
/-- .. is let go as data -/
theorem mt_adopt (m : Mt K fs S F H) (hF : F p = none) (hp : p ∉ fs) (ho : H p = some o) : Mt K fs S (upd F p o) H := by
  have le : ∀ a o', F a = some o' → upd F p o a = some o' := fun a o' h => by rw [upd_ne (fun z => by subst z; rw [hF] at h; cases h)]; exact h
  refine ⟨m.len, fun a o' h => ?_, fun n so hs hl => ?_, m.inj, m.dom, fun n so hs hl => let ⟨a, e, r⟩ := m.lk n so hs hl; ⟨a, e, r.keep le fun _ _ h => h⟩, m.lki⟩
  · by_cases e : a = p
    · subst e; rw [upd_same] at h; cases h; exact ho
    · rw [upd_ne e] at h; exact m.le a o' h
  · obtain ⟨a, e1, e2, r⟩ := m.ob n so hs hl
    have ne : a ≠ p := fun z => hp (z ▸ List.mem_of_getElem? e1)
    exact ⟨a, e1, by rw [upd_ne ne]; exact e2, r.keep le (fun _ _ h => h) rfl⟩
theorem gr_adopt (g : Gr fs0 F0 H0 fs F H) (hF : F p = none) (hp : H0 p = none) (o : HO) : Gr fs0 F0 H0 fs (upd F p o) H :=
  ⟨g.pre, fun a o' h => by
    have := g.le a o' h
    rw [upd_ne (fun z => by subst z; rw [hF] at this; cases this)]; exact this, g.new, fun a o' h => by
    by_cases e : a = p
    · subst e; exact .inr (.inl hp)
    · rw [upd_ne e] at h; exact g.newF a o' h, g.keep, g.dom⟩
/-- .. becomes a thing of the store -/
theorem mt_add {so : SO} (m : Mt K fs S F H) (hF : F p = none) (hp : p ∉ fs) (hr : RepO K F fs (upd H p o) p so) : Mt K (fs ++ [p]) (S ++ [so]) F (upd H p o) := by
  have pre : ∀ (n : Nat) (a : Addr), fs[n]? = some a → (fs ++ [p])[n]? = some a := fun n a h => by
    rw [List.getElem?_append_left (List.getElem?_eq_some_iff.mp h).1]; exact h
  have at1 : ∀ (n : Nat) (s : SO), (S ++ [so])[n]? = some s → (S[n]? = some s ∧ n < fs.length) ∨ (n = fs.length ∧ s = so) := fun n s h => by
    by_cases hn : n < S.length
    · rw [List.getElem?_append_left hn] at h; exact .inl ⟨h, by rw [← m.len]; exact hn⟩
    · rw [List.getElem?_append_right (Nat.le_of_not_lt hn)] at h
      have : n - S.length = 0 := by
        cases q : n - S.length with
        | zero => rfl
        | succ k => rw [q] at h; simp at h
      rw [this] at h; simp at h
      exact .inr ⟨by rw [← m.len]; omega, h.symm⟩
  have atp : (fs ++ [p])[fs.length]? = some p := by simp
  have m2 := mt_side m hF hp o
  have lks : ∀ (n : Nat) (s : SO), (S ++ [so])[n]? = some s → s.locked = true → S[n]? = some s ∧ n < fs.length := fun n s hs hl => by
    rcases at1 n s hs with h | ⟨_, e⟩
    · exact h
    · rw [e, lk_of_rep hr] at hl; cases hl
  have oldp : ∀ (n : Nat) (b : Addr), n < fs.length → (fs ++ [p])[n]? = some b → fs[n]? = some b := fun n b h e => by
    rw [List.getElem?_append_left h] at e; exact e
  refine ⟨by simp [m.len], m2.le, fun n s hs hl => ?_, fun n k a s s' hs hl hs' hl' e1 e2 => ?_, fun a h => ?_, fun n s hs hl => let ⟨a, e, r⟩ := m.lk n s (lks n s hs hl).1 hl; ⟨a, pre n a e, r.keep (fun _ _ h => h) pre⟩, fun n k a s s' hs hl hs' hl' e1 e2 => m.lki n k a s s' (lks n s hs hl).1 hl (lks k s' hs' hl').1 hl' (oldp n a (lks n s hs hl).2 e1) (oldp k a (lks k s' hs' hl').2 e2)⟩
  · rcases at1 n s hs with ⟨hs, _⟩ | ⟨rfl, rfl⟩
    · obtain ⟨a, e1, e2, r⟩ := m2.ob n s hs hl
      exact ⟨a, pre n a e1, e2, r.keep (fun _ _ h => h) pre rfl⟩
    · exact ⟨p, atp, hF, hr.keep (fun _ _ h => h) pre rfl⟩
  · have old : ∀ (n : Nat) (s : SO), S[n]? = some s ∧ n < fs.length → (fs ++ [p])[n]? = some a → fs[n]? = some a := fun n s h e => by
      rw [List.getElem?_append_left h.2] at e; exact e
    rcases at1 n s hs with h1 | ⟨rfl, rfl⟩
    · rcases at1 k s' hs' with h2 | ⟨rfl, rfl⟩
      · exact m.inj n k a s s' h1.1 hl h2.1 hl' (old n s h1 e1) (old k s' h2 e2)
      · rw [atp] at e2; cases e2
        exact absurd (List.mem_of_getElem? (old n s h1 e1)) hp
    · rcases at1 k s' hs' with h2 | ⟨rfl, rfl⟩
      · rw [atp] at e1; cases e1
        exact absurd (List.mem_of_getElem? (old k s' h2 e2)) hp
      · rfl
  · rcases List.mem_append.mp h with h | h
    · exact m2.dom a h
    · rw [List.mem_singleton.mp h, upd_same]; simp
theorem gr_add (g : Gr fs0 F0 H0 fs F H) (hp : H0 p = none) (o : HO) : Gr fs0 F0 H0 (fs ++ [p]) F (upd H p o) := by
  have g2 := gr_side g hp o
  refine ⟨?_, g2.le, fun a h => ?_, g2.newF, g2.keep, g2.dom⟩
  · obtain ⟨m, e⟩ := g.pre; exact ⟨m ++ [p], by rw [e, List.append_assoc]⟩
  · rcases List.mem_append.mp h with h | h
    · exact g.new a h
    · rw [List.mem_singleton.mp h]; exact .inr hp
/-- what stands beside stays, unknown to what was done -/
theorem side_keep (g : Gr fs F H fs0 F0 H0) (hF : F p = none) (hp : p ∉ fs) (ho : H p = some o) : H0 p = some o ∧ F0 p = none ∧ p ∉ fs0 := by
  refine ⟨g.keep p o ho hp, ?_, fun h => ?_⟩
  · cases e : F0 p with
    | none => rfl
    | some o' =>
      rcases g.newF p o' e with h | h | h
      · rw [hF] at h; cases h
      · rw [ho] at h; cases h
      · exact absurd h hp
  · rcases g.new p h with h | h
    · exact hp h
    · rw [ho] at h; cases h
end
/-! ### comprehensions -/
def wipeD (σ : Sg) : List Nat → Sg
  | [] => σ
  | v :: vs => (wipeD σ vs).set v none
theorem RepS.wipe {K : PySem.W.Frag} {F : Hp} {fs : List Addr} {σ : Sg} {σv : St} (h : RepS K F fs σ σv) : ∀ vs : List Nat, RepS K F fs (wipeD σ vs) (L2.wipe σv vs)
  | [] => h
  | v :: vs => (RepS.wipe h vs).clr v
theorem wipe_get (σ : St) (j : Nat) : ∀ vs : List Nat, (L2.wipe σ vs)[j]? = if j ∈ vs ∧ j < σ.length then some none else σ[j]?
  | [] => by simp [L2.wipe]
  | v :: vs => by
    show ((L2.wipe σ vs).set v none)[j]? = _
    have ih := wipe_get σ j vs
    by_cases e : v = j
    · subst e
      by_cases hl : v < σ.length
      · rw [List.getElem?_set_self (by rw [wipe_length]; exact hl)]; simp [hl]
      · have h1 : ((L2.wipe σ vs).set v none)[v]? = none := List.getElem?_eq_none_iff.mpr (by rw [List.length_set, wipe_length]; omega)
        have h2 : σ[v]? = none := List.getElem?_eq_none_iff.mpr (by omega)
        rw [h1, h2]; simp [hl]
    · rw [List.getElem?_set_ne e, ih]
      have e' : ¬ j = v := fun z => e z.symm
      simp [e']
theorem wipe_set (σ : St) (i : Nat) (x : Option V) (vs : List Nat) (h : i ∈ vs) : L2.wipe (σ.set i x) vs = L2.wipe σ vs := by
  refine List.ext_getElem? fun j => ?_
  rw [wipe_get, wipe_get, List.length_set]
  by_cases e : i = j
  · subst e
    by_cases hl : i < σ.length
    · simp [h, hl]
    · have h2 : σ[i]? = none := List.getElem?_eq_none_iff.mpr (by omega)
      have h1 : (σ.set i x)[i]? = none := List.getElem?_eq_none_iff.mpr (by rw [List.length_set]; omega)
      rw [h1, h2]
  · rw [List.getElem?_set_ne e]
theorem wipe_idem (σ : St) (vs : List Nat) : L2.wipe (L2.wipe σ vs) vs = L2.wipe σ vs := by
  refine List.ext_getElem? fun j => ?_
  rw [wipe_get, wipe_length, wipe_get]
  split <;> rfl
/-- a target of a comprehension: names of its own -/
structure TGok (K : PySem.W.Frag) (tg : TG) (gt : EvT) (vs : List Nat) : Prop where
  run : ∀ (fs : List Addr) (F H : Hp) (d : D) (x : V) (σ σ' : Sg) (σv : St) (S S' : Store) (Q : St → Hp → Prop), Mt K fs S F H → Rep K F fs d x → RepS K F fs σ σv → gt d σ S = some (σ', S') →
    (∀ σv', RepS K F fs σ' σv' → L2.wipe σv' vs = L2.wipe σv vs → Q σv' H) → tg x σv H Q
  st : ∀ (d : D) (σ σ' : Sg) (S S' : Store), gt d σ S = some (σ', S') → S' = S
theorem tgok_name {K : PySem.W.Frag} (i : Nat) {vs : List Nat} (h : i ∈ vs) : TGok K (gName i) (gtName i) vs := ⟨fun fs F H d x σ σ' σv S S' Q m r rs e q => by
  cases (show some (σ.set i (some d), S) = some (σ', S') from e)
  exact q _ (rs.set r i) (wipe_set _ _ _ _ h), fun d σ σ' S S' e => by cases (show some (σ.set i (some d), S) = some (σ', S') from e); rfl⟩
theorem wipe_setAll (vs : List Nat) : ∀ (ps : List (V × Nat)) (σ : St), (∀ p ∈ ps, p.2 ∈ vs) → L2.wipe (setAll σ ps) vs = L2.wipe σ vs
  | [], _, _ => rfl
  | p :: ps, σ, h => by
    show L2.wipe (setAll (σ.set p.2 (some p.1)) ps) vs = _
    rw [wipe_setAll vs ps _ fun q hq => h q (List.mem_cons_of_mem _ hq), wipe_set _ _ _ _ (h p List.mem_cons_self)]
theorem tgok_names_run {K : PySem.W.Frag} (is : List Nat) {vs : List Nat} (h : ∀ i ∈ is, i ∈ vs) (fs : List Addr) (F H : Hp) (d : D) (x : V) (σ σ' : Sg) (σv : St) (S S' : Store) (Q : St → Hp → Prop) (m : Mt K fs S F H) (r : Rep K F fs d x) (rs : RepS K F fs σ σv)
    (e : gtNames is d σ S = some (σ', S')) (q : ∀ σv', RepS K F fs σ' σv' → L2.wipe σv' vs = L2.wipe σv vs → Q σv' H) : gTup K is.length (gsOf is) x σv H Q := by
  have fin : ∀ {ds : List D} {xs : List V}, RepL K F fs ds xs → σ' = (ds.zip is).foldl (fun σ p => σ.set p.2 (some p.1)) σ → Q (setAll σv (xs.zip is)) H := fun {ds xs} h3 e => by
    subst e
    exact q _ (rs.setAll h3) (wipe_setAll vs _ _ fun p hp => h _ (List.of_mem_zip hp).2)
  unfold gtNames at e
  split at e
  · rename_i ds
    split at e
    · rename_i hl
      cases e
      obtain ⟨a, xs, h1, h2, h3⟩ := (show ∃ a us, x = V.ref a ∧ F a = some (.tup us) ∧ RepL K F fs ds us by rw [Rep] at r; exact r)
      exact ⟨a, xs, h1, SqT.of (m.le _ _ h2), by rw [h3.length]; exact hl, gsOf_run (by rw [h3.length]; exact hl) (fin h3 rfl)⟩
    · cases e
  · rename_i ds
    split at e
    · rename_i hl
      cases e
      obtain ⟨a, xs, h1, h2, h3⟩ := (show ∃ a us, x = V.ref a ∧ SqT K F a us ∧ RepL K F fs ds us by rw [Rep] at r; exact r)
      exact ⟨a, xs, h1, SqT.mono m.le h2, by rw [h3.length]; exact hl, gsOf_run (by rw [h3.length]; exact hl) (fin h3 rfl)⟩
    · cases e
  · cases e
theorem gtNames_st (is : List Nat) (d : D) (σ σ' : Sg) (S S' : Store) (e : gtNames is d σ S = some (σ', S')) : S' = S := by
  unfold gtNames at e
  split at e
  · split at e
    · cases e; rfl
    · cases e
  · split at e
    · cases e; rfl
    · cases e
  · cases e
theorem tgok_names {K : PySem.W.Frag} (is : List Nat) {vs : List Nat} (h : ∀ i ∈ is, i ∈ vs) : TGok K (gTup K is.length (gsOf is)) (gtNames is) vs :=
  ⟨tgok_names_run is h, gtNames_st is⟩
def compD (gt : EvT) (tt : EvB) (te : EvE) (σ0 : Sg) : List D → List D → Store → Out (List D)
  | [], acc, S => .ok acc S
  | d :: ds, acc, S => match gt d σ0 S with
    | none => .stuck
    | some (σ1, S1) => (tt σ1 S1).calm.bind fun b S2 => match b with
      | false => compD gt tt te σ0 ds acc S2
      | true => (te σ1 S2).calm.bind fun y S3 => gd (acc.length < sizeLine) (compD gt tt te σ0 ds (acc ++ [y]) S3)
def evYes : EvB := fun _ S => .ok true S
abbrev W0 : WX := fun _ _ _ _ => False
section
variable {K : PySem.W.Frag} {Ex : Value → Option Addr → Hp → Prop} {gt : EvT} {tt : EvB} {te : EvE} {tg : TG} {vs : List Nat} {σ : Sg} {σv : St} {ds : List D} {xs : List V} {fs0 : List Addr} {F0 H0 : Hp} {mm : Bool} {Q : VK} {Dd : Addr} {i : Nat} {H : Hp}
/-- the end of a comprehension -/
theorem comp_fin {acc : List D} {accv : List V} {fs : List Addr} {F : Hp} {S : Store} (g : Gr fs0 F0 H0 fs F H) (m : Mt K fs S F H) (hD : H Dd = some (.lst accv)) (hF : F Dd = none) (hf : Dd ∉ fs) (h0 : H0 Dd = none) (r : RepL K F fs acc accv)
    (p : PostG K (Rep K) Ex (mkL mm acc S) fs0 F0 H0 Q) : Q (.ref Dd) H := by
  have eH : upd H Dd (.lst accv) = H := by
    funext b
    by_cases e : b = Dd
    · rw [e, upd_same, hD]
    · rw [upd_ne e]
  cases mm with
  | false =>
    have m' := mt_adopt (o := .lst accv) m hF hf hD
    have g' := gr_adopt g hF h0 (.lst accv)
    refine p _ _ _ _ g' m' ?_
    rw [Rep]
    exact ⟨Dd, accv, rfl, upd_same, RepL.mono' (fun a o' h => by rw [upd_ne (fun z => by subst z; rw [hF] at h; cases h)]; exact h) (fun _ _ h => h) _ r⟩
  | true =>
    have m' := mt_add (o := .lst accv) (so := .lst acc) m hF hf ⟨accv, upd_same, r⟩
    have g' := gr_add g h0 (.lst accv)
    rw [eH] at m' g'
    exact p _ _ _ _ g' m' (by rw [Rep]; exact ⟨Dd, rfl, by rw [m.len]; simp⟩)
/-- what a comprehension that stands at its i-th item knows; ys: what is left -/
def PvC (K : PySem.W.Frag) (Ex : Value → Option Addr → Hp → Prop) (gt : EvT) (tt : EvB) (te : EvE) (vs : List Nat) (σ : Sg) (σv : St) (ds : List D) (xs : List V) (fs0 : List Addr) (F0 H0 : Hp) (mm : Bool) (Q : VK) (Dd : Addr) (i : Nat) (H : Hp) : Prop :=
  ∃ fs F S acc accv, Gr fs0 F0 H0 fs F H ∧ Mt K fs S F H ∧ RepS K F fs σ σv ∧ RepL K F fs ds xs ∧ H Dd = some (.lst accv) ∧ F Dd = none ∧ Dd ∉ fs ∧ RepL K F fs acc accv ∧
    PostG K (Rep K) Ex ((compD gt tt te (wipeD σ vs) (ds.drop i) acc S).bind (mkL mm)) fs0 F0 H0 Q
theorem comp_step {d : D} {x : V} {rest : List D} {acc : List D} {accv : List V} {fs : List Addr} {F : Hp} {S : Store} {Nx : Hp → Prop} (T : TGok K tg gt vs) (g : Gr fs0 F0 H0 fs F H) (m : Mt K fs S F H) (rs : RepS K F fs σ σv) (hD : H Dd = some (.lst accv)) (hF : F Dd = none) (hf : Dd ∉ fs) (h0 : H0 Dd = none)
    (r : RepL K F fs acc accv) (rd : Rep K F fs d x) (p : PostG K (Rep K) Ex ((compD gt tt te (wipeD σ vs) (d :: rest) acc S).bind (mkL mm)) fs0 F0 H0 Q)
    (hN : ∀ fs' F' H' S' acc' accv', Gr fs0 F0 H0 fs' F' H' → (∀ a o, F a = some o → F' a = some o) → (∀ (n : Nat) a, fs[n]? = some a → fs'[n]? = some a) → Mt K fs' S' F' H' → RepS K F' fs' σ σv → H' Dd = some (.lst accv') → F' Dd = none → Dd ∉ fs' → RepL K F' fs' acc' accv' →
      PostG K (Rep K) Ex ((compD gt tt te (wipeD σ vs) rest acc' S').bind (mkL mm)) fs0 F0 H0 Q → Nx H') :
    tg x (L2.wipe σv vs) H fun σ2 H2 => L2.wipe σ2 vs = L2.wipe σv vs ∧ tT K W0 tt σ2 H2 fun b H3 => if b = true then tE K W0 te σ2 H3 fun y H4 => ∃ acc, H4 Dd = some (.lst acc) ∧ acc.length < sizeLine ∧ Nx (upd H4 Dd (.lst (acc ++ [y]))) else Nx H3 := by
  unfold compD at p
  cases e1 : gt d (wipeD σ vs) S with
  | none => rw [e1] at p; exact False.elim p
  | some q =>
    obtain ⟨σ1, S1⟩ := q
    rw [e1] at p
    have eS := T.st _ _ _ _ _ e1
    subst eS
    refine T.run fs F H d x (wipeD σ vs) σ1 _ _ _ _ m rd (rs.wipe vs) e1 fun σv1 rs1 hw => ⟨by rw [hw, wipe_idem], fs, F, σ1, _, rs1, m, ?_⟩
    cases e2 : tt σ1 S1 with
    | stuck => simp only [e2] at p; exact False.elim p
    | exc C d' S2 => simp only [e2] at p; exact False.elim p
    | ok b S2 =>
      simp only [e2] at p
      intro fs2 F2 H2 b' g2 m2 rb
      cases (show b = b' from rb)
      obtain ⟨hD2, hF2, hf2⟩ := side_keep g2 hF hf hD
      cases b with
      | false =>
        rw [if_neg Bool.false_ne_true]
        exact hN fs2 F2 H2 S2 acc accv (g.trans g2) g2.le (fun _ _ h => g2.get h) m2 (rs.mono g2) hD2 hF2 hf2 (r.mono g2) p
      | true =>
        rw [if_pos rfl]
        refine ⟨fs2, F2, σ1, S2, rs1.mono g2, m2, ?_⟩
        cases e3 : te σ1 S2 with
        | stuck => simp [e3, Out.calm, Out.bind] at p; exact False.elim p
        | exc C d' S3 => simp [e3, Out.calm, Out.bind] at p; exact False.elim p
        | ok y S3 =>
          have p : PostG K (Rep K) Ex ((((te σ1 S2).calm.bind fun y S3 => gd (acc.length < sizeLine) (compD gt tt te (wipeD σ vs) rest (acc ++ [y]) S3))).bind (mkL mm)) fs0 F0 H0 Q := p
          rw [e3] at p
          have p : PostG K (Rep K) Ex ((gd (acc.length < sizeLine) (compD gt tt te (wipeD σ vs) rest (acc ++ [y]) S3)).bind (mkL mm)) fs0 F0 H0 Q := p
          intro fs3 F3 H3 yv g3 m3 ry
          obtain ⟨hD3, hF3, hf3⟩ := side_keep g3 hF2 hf2 hD2
          unfold gd at p
          split at p
          · rename_i hz
            refine ⟨accv, hD3, by rw [r.length]; exact hz, ?_⟩
            exact hN fs3 F3 _ S3 (acc ++ [y]) (accv ++ [yv]) (gr_side ((g.trans g2).trans g3) h0 _) (fun a o h => g3.le _ _ (g2.le _ _ h)) (fun _ _ h => g3.get (g2.get h)) (mt_side m3 hF3 hf3 _) ((rs.mono g2).mono g3) upd_same hF3 hf3 (((r.mono g2).mono g3).append (RepL.cons ry RepL.nil)) p
          · exact False.elim p
theorem pvc_turn {x : V} {Nx : Hp → Prop} (T : TGok K tg gt vs) (h0 : H0 Dd = none) (hx : xs[i]? = some x) (h : PvC K Ex gt tt te vs σ σv ds xs fs0 F0 H0 mm Q Dd i H) :
    tg x (L2.wipe σv vs) H fun σ2 H2 => L2.wipe σ2 vs = L2.wipe σv vs ∧ tT K W0 tt σ2 H2 fun b H3 => if b = true then tE K W0 te σ2 H3 fun y H4 => ∃ acc, H4 Dd = some (.lst acc) ∧ acc.length < sizeLine ∧ PvC K Ex gt tt te vs σ σv ds xs fs0 F0 H0 mm Q Dd (i + 1) (upd H4 Dd (.lst (acc ++ [y]))) else PvC K Ex gt tt te vs σ σv ds xs fs0 F0 H0 mm Q Dd (i + 1) H3 := by
  obtain ⟨fs, F, S, acc, accv, g, m, rs, rl, hD, hF, hf, r, p⟩ := h
  have hl : i < ds.length := by
    have := (List.getElem?_eq_some_iff.mp hx).1
    rwa [rl.length] at this
  rw [List.drop_eq_getElem_cons hl] at p
  obtain ⟨y, e1, r1⟩ := rl.get (List.getElem?_eq_getElem hl)
  rw [hx] at e1; cases e1
  exact comp_step T g m rs hD hF hf h0 r r1 p fun fs' F' H' S' acc' accv' g' le pre m' rs' hD' hF' hf' r' p' => ⟨fs', F', S', acc', accv', g', m', rs', RepL.mono' le pre _ rl, hD', hF', hf', r', p'⟩
theorem pvc_done (h0 : H0 Dd = none) (h : PvC K Ex gt tt te vs σ σv ds xs fs0 F0 H0 mm Q Dd xs.length H) : Q (.ref Dd) H := by
  obtain ⟨fs, F, S, acc, accv, g, m, rs, rl, hD, hF, hf, r, p⟩ := h
  rw [rl.length, List.drop_length] at p
  exact comp_fin g m hD hF hf h0 r p
end
def evLc (mm : Bool) (f : EvE) (vs : List Nat) (gt : EvT) (tt : EvB) (te : EvE) : EvE := fun σ S => (f σ S).bind fun d S1 => match itemsD d with
  | some (_, ds) => (compD gt tt te (wipeD σ vs) ds [] S1).bind (mkL mm)
  | none => .stuck
section
variable {X : Cx} {W : WX} {e a b c o target : Expr} {es ifs : List Expr} {f g h' : EvE} {pos pos' apos p p' : Pos} {nm m : Str} {gt : EvT} {tg : TG} {tt : EvB} {te : EvE} {vs : List Nat}
/-- the reading of a comprehension over data -/
theorem lc_of (mm : Bool) (T : TGok X.K tg gt vs) {σv : St} {H : Hp} {Q : VK} (q : tE X.K W (evLc mm f vs gt tt te) σv H Q) :
    tLc (fun σ H R => iList X.K (tE X.K W f) σ H R ∨ iTup X.K (tE X.K W f) σ H R) tg (tT X.K W0 tt) (tE X.K W0 te) vs σv H Q := by
  obtain ⟨fs, F, σ, S, rs, m, q⟩ := q
  unfold evLc at q
  cases e1 : f σ S with
  | stuck => rw [e1] at q; exact False.elim q
  | exc C d S1 => rw [e1] at q; exact .inl (tG.bind (R := Rep X.K) (R2 := Rep X.K) (Q := Q) rs m (k := fun _ _ => .stuck) (by rw [e1]; exact q) fun a S1 fs1 F1 H1 v rs1 m1 g1 r1 p1 => False.elim p1)
  | ok d S1 =>
    rw [e1] at q
    simp only [Out.bind_ok] at q
    cases e2 : itemsD d with
    | none => simp only [e2] at q; exact False.elim q
    | some p =>
      obtain ⟨t, ds⟩ := p
      simp only [e2] at q
      have pre : ∀ {fs1 F1 H1 v}, Gr fs F H fs1 F1 H1 → Mt X.K fs1 S1 F1 H1 → Rep X.K F1 fs1 d v → ∃ a xs, v = .ref a ∧ (∀ Dd, H1 Dd = none → PvC X.K (fun c d H' => W c d σv H') gt tt te vs σ σv ds xs fs1 F1 H1 mm Q Dd 0 (upd H1 Dd (.lst []))) ∧
          (∀ Dd i H', PvC X.K (fun c d H' => W c d σv H') gt tt te vs σ σv ds xs fs1 F1 H1 mm Q Dd i H' → if t then SqT X.K H' a xs else SqL X.K H' a xs) ∧ (if t then SqT X.K H1 a xs else SqL X.K H1 a xs) := fun {fs1 F1 H1 v} g1 m1 r1 => by
        obtain ⟨a, xs, h1, h2, h3⟩ := items_ok m1 r1 e2
        refine ⟨a, xs, h1, fun Dd hD => ?_, fun Dd i H' ⟨fs', F', S', _, _, g', m', _⟩ => h3 fs' F' H' S' g' m', h3 _ _ _ _ (Gr.refl _ _ _) m1⟩
        have hF := F_none m1 hD
        have hf := fs_none m1 hD
        exact ⟨fs1, F1, S1, [], [], gr_side (Gr.refl _ _ _) hD _, mt_side m1 hF hf _, rs.mono g1, h2, upd_same, hF, hf, RepL.nil, PostG.grow q g1⟩
      cases t with
      | false =>
        refine .inl ⟨fs, F, σ, S, rs, m, ?_⟩
        rw [e1]
        intro fs1 F1 H1 v g1 m1 r1
        obtain ⟨a, xs, h1, h2, h3, h4⟩ := pre g1 m1 r1
        exact ⟨a, h1, ⟨xs, h4⟩, fun Dd hD => lc_list (PvC X.K (fun c d H' => W c d σv H') gt tt te vs σ σv ds xs fs1 F1 H1 mm Q Dd) (h2 Dd hD) (fun i H' _ h => h3 Dd i H' h) (fun i x H' hx h => pvc_turn (Nx := PvC X.K (fun c d H' => W c d σv H') gt tt te vs σ σv ds xs fs1 F1 H1 mm Q Dd (i + 1)) T hD hx h) fun H' h => pvc_done hD h⟩
      | true =>
        refine .inr ⟨fs, F, σ, S, rs, m, ?_⟩
        rw [e1]
        intro fs1 F1 H1 v g1 m1 r1
        obtain ⟨a, xs, h1, h2, h3, h4⟩ := pre g1 m1 r1
        exact ⟨a, h1, ⟨xs, h4⟩, fun Dd hD => lc_tup (PvC X.K (fun c d H' => W c d σv H') gt tt te vs σ σv ds xs fs1 F1 H1 mm Q Dd) (h2 Dd hD) (fun i H' _ h => h3 Dd i H' h) (fun i x H' hx h => pvc_turn (Nx := PvC X.K (fun c d H' => W c d σv H') gt tt te vs σ σv ds xs fs1 F1 H1 mm Q Dd (i + 1)) T hD hx h) fun H' h => pvc_done hD h⟩
abbrev JTs (X : Cx) (ifs : List Expr) (tt : EvB) : Prop := PTs X ifs (tT X.K W0 tt)
theorem jts_nil : JTs X [] evYes := ⟨fun pins s σ H Q I h => by
  obtain ⟨fs, F, σ', S, rs, m, p⟩ := h
  exact pts_nil.run pins s σ H Q I (p _ _ _ _ (Gr.refl _ _ _) m rfl)⟩
theorem jts_one (h : JT X W0 c tt) : JTs X [c] tt := pts_one h
/-- [elt for target in it if ..] -/
theorem je_lc (mm : Bool) {elt : Expr} {scope : Scope} {own : List (Str × Nat)} (T : TGok X.K tg gt (own.map (·.2))) (hc : X.calm = true) (hN : X.N.Nodup) (he : JE X W e f) (hB : BlkOk X.N X.env.scope scope own)
    (hg : ∀ (s : Shared) (H : Hp) (C : Addr) (cl : List (Str × Addr)) (fp : List Addr), PG (X.blk s H scope (compEnvC scope cl C X.env) fp) target tg)
    (ht : ∀ (s : Shared) (H : Hp) (C : Addr) (cl : List (Str × Addr)) (fp : List Addr), JTs (X.blk s H scope (compEnvC scope cl C X.env) fp) ifs tt)
    (hv : ∀ (s : Shared) (H : Hp) (C : Addr) (cl : List (Str × Addr)) (fp : List Addr), JE (X.blk s H scope (compEnvC scope cl C X.env) fp) W0 elt te)
    (hs : ∀ x, foldedSetIterable e X.env x = pure x := by intro _; rfl) :
    JE X W (.ListComp elt [{ target := target, iter := e, ifs := ifs, is_async := 0 }] scope pos) (evLc mm f (own.map (·.2)) gt tt te) :=
  PE.imp (pe_lc hc hN (PI.or (pi_list he) (pi_tup he)) hB hg ht hv hs) fun _ _ _ q => lc_of mm T q
/-- x = [elt for ..] -/
theorem js_lcSet (mm : Bool) {i : Nat} {y : Str} {py spos : Pos} {elt : Expr} {scope : Scope} {own : List (Str × Nat)} (T : TGok X.K tg gt (own.map (·.2))) (hc : X.calm = true) (hN : X.N.Nodup) (hi : X.N[i]? = some y) (hl : X.env.scope.names.lookup y = some .local)
    (hsw : swapsWith (.ListComp elt [{ target := target, iter := e, ifs := ifs, is_async := 0 }] scope pos) (some (.Name y py)) spos.line X.env = pure true) (he : JE X W e f) (hB : BlkOk X.N X.env.scope scope own)
    (hg : ∀ (s : Shared) (H : Hp) (C : Addr) (cl : List (Str × Addr)) (fp : List Addr), PG (X.blk s H scope (compEnvC scope cl C X.env) fp) target tg)
    (ht : ∀ (s : Shared) (H : Hp) (C : Addr) (cl : List (Str × Addr)) (fp : List Addr), JTs (X.blk s H scope (compEnvC scope cl C X.env) fp) ifs tt)
    (hv : ∀ (s : Shared) (H : Hp) (C : Addr) (cl : List (Str × Addr)) (fp : List Addr), JE (X.blk s H scope (compEnvC scope cl C X.env) fp) W0 elt te)
    (hs : ∀ x, foldedSetIterable e X.env x = pure x := by intro _; rfl) :
    JS X W (.Assign [.Name y py] (.ListComp elt [{ target := target, iter := e, ifs := ifs, is_async := 0 }] scope pos) spos) (evSet i (evLc mm f (own.map (·.2)) gt tt te)) :=
  js_setLc (ps_setLc hc hN hi hl hsw (PI.or (pi_list he) (pi_tup he)) hB hg ht hv hs) fun _ _ _ q => lc_of mm T q
/-! ### dict displays -/
def evPairs : List (EvE × EvE) → Sg → Store → Out (List (D × D))
  | [], _, S => .ok [] S
  | (k, v) :: r, σ, S => (k σ S).bind fun x S1 => (v σ S1).bind fun y S2 => (evPairs r σ S2).bind fun ps S3 => .ok ((x, y) :: ps) S3
def RP (K : PySem.W.Frag) : Hp → List Addr → List (D × D) → List (V × V) → Prop := fun F fs ds vs => RepL K F fs (ds.map (·.1)) (vs.map (·.1)) ∧ RepL K F fs (ds.map (·.2)) (vs.map (·.2))
theorem pairs_of {K : PySem.W.Frag} : ∀ (prs : List (EvE × EvE)) {σ : Sg} {σv : St} {S : Store} {fs : List Addr} {F H : Hp} {Q : List (V × V) → Hp → Prop}, RepS K F fs σ σv → Mt K fs S F H → PostG K (RP K) (fun c d H' => W c d σv H') (evPairs prs σ S) fs F H Q →
    tPairs (prs.map fun p => (tE K W p.1, tE K W p.2)) σv H Q
  | [], σ, σv, S, fs, F, H, Q, rs, m, p => p _ _ _ _ (Gr.refl _ _ _) m ⟨RepL.nil, RepL.nil⟩
  | (k, v) :: r, σ, σv, S, fs, F, H, Q, rs, m, p => by
    refine tG.bind rs m p fun x S1 fs1 F1 H1 xv rs1 m1 g1 r1 p1 => tG.bind rs1 m1 p1 fun y S2 fs2 F2 H2 yv rs2 m2 g2 r2 p2 => ?_
    refine pairs_of r rs2 m2 ?_
    cases e : evPairs r σ S2 with
    | stuck => rw [e] at p2; exact p2
    | exc C d S3 => rw [e] at p2; exact p2
    | ok ps S3 =>
      rw [e] at p2
      intro fs3 F3 H3 vs g3 m3 r3
      exact p2 _ _ _ _ g3 m3 ⟨RepL.cons ((r1.mono g2).mono g3) r3.1, RepL.cons (r2.mono g3) r3.2⟩
def keyPs : List (D × D) → Option (List (Key × D))
  | [] => some []
  | (k, v) :: r => match keyD k, keyPs r with
    | some j, some js => some ((j, v) :: js)
    | _, _ => none
def mergeD (kvs more : List (Key × D)) : List (Key × D) := more.foldl (fun acc kv => putD acc kv.1 kv.2) kvs
theorem keyPs_ok {K : PySem.W.Frag} {F : Hp} {fs : List Addr} : ∀ {ds : List (D × D)} {vs : List (V × V)} {kvs : List (Key × D)}, RP K F fs ds vs → keyPs ds = some kvs → ∃ us : List (Key × V), vs = us.map (fun kv => (kV kv.1, kv.2)) ∧ RepKV K F fs kvs us
  | [], vs, kvs, h, e => by
    cases (show some [] = some kvs from e)
    have := h.1.length
    have : vs = [] := List.length_eq_zero_iff.mp (by simpa using this)
    subst this
    exact ⟨[], rfl, rfl⟩
  | (k, v) :: r, vs, kvs, h, e => by
    unfold keyPs at e
    cases vs with
    | nil => have := h.1.length; simp at this
    | cons p vr =>
      obtain ⟨h1, h2⟩ := h
      rw [List.map_cons, List.map_cons, RepL] at h1 h2
      obtain ⟨x, xr, e1, r1, t1⟩ := h1
      obtain ⟨y, yr, e2, r2, t2⟩ := h2
      cases e1; cases e2
      cases q1 : keyD k with
      | none => rw [q1] at e; cases e
      | some j =>
        cases q2 : keyPs r with
        | none => rw [q1, q2] at e; cases e
        | some js =>
          rw [q1, q2] at e; cases e
          obtain ⟨us, eu, ru⟩ := keyPs_ok ⟨t1, t2⟩ q2
          have hk := keyD_ok r1 q1
          refine ⟨(j, p.2) :: us, ?_, p.2, us, rfl, r2, ru⟩
          rw [List.map_cons, ← eu, ← hk]
theorem RepKV.merge {K : PySem.W.Frag} {F : Hp} {fs : List Addr} : ∀ {more : List (Key × D)} {us : List (Key × V)} {kvs : List (Key × D)} {vs : List (Key × V)}, RepKV K F fs more us → RepKV K F fs kvs vs → RepKV K F fs (mergeD kvs more) (mergeK vs us)
  | [], _, _, _, h, h' => by cases (show _ = [] from h); exact h'
  | p :: ps, _, _, _, ⟨x, xr, e, r, t⟩, h' => by
    subst e
    show RepKV K F fs (mergeD (putD _ p.1 p.2) ps) (mergeK (putK _ p.1 x) xr)
    exact RepKV.merge t (RepKV.put r h')
def evDisp (prs : List (EvE × EvE)) : EvE := fun σ S => (evPairs prs σ S).bind fun ds S1 => match keyPs ds with
  | some kvs => gd (kvs.length ≤ 15) (.ok (.ref S1.length) (S1 ++ [.dct (mergeD [] kvs)]))
  | none => .stuck
theorem jps_nil {p : Pos} : PPs X p [] [] (([] : List (EvE × EvE)).map fun p => (tE X.K W p.1, tE X.K W p.2)) := pps_nil
theorem jps_cons {p : Pos} {k v : Expr} {ks : List (Option Expr)} {vs : List Expr} {prs : List (EvE × EvE)} (hk : JE X W k f) (hv : JE X W v g) (hr : PPs X p ks vs (prs.map fun p => (tE X.K W p.1, tE X.K W p.2))) :
    PPs X p (some k :: ks) (v :: vs) (((f, g) :: prs).map fun p => (tE X.K W p.1, tE X.K W p.2)) := pps_cons hk hv hr
theorem je_disp {keys : List (Option Expr)} {values : List Expr} {prs : List (EvE × EvE)} (h : PPs X pos keys values (prs.map fun p => (tE X.K W p.1, tE X.K W p.2))) (hall : keys.all (·.isSome) = true := by rfl) (hl : keys.length = values.length := by rfl) (h0 : keys ≠ [] := by exact fun z => by cases z)
    (h15 : keys.length ≤ 15 := by decide) : JE X W (.Dict keys values pos) (evDisp prs) :=
  PE.imp (pe_disp h hall hl h0 h15) fun σv H Q ⟨fs, F, σ, S, rs, m, q⟩ q' hq' => by
    have hF := F_none m hq'
    have hf := fs_none m hq'
    refine pairs_of (W := W) prs rs (mt_side m hF hf (.dK [])) ?_
    unfold evDisp at q
    cases e : evPairs prs σ S with
    | stuck => rw [e] at q; exact q
    | exc C d S1 => rw [e] at q; exact PostX.grow (show PostX X.K (fun c d H' => W c d σv H') C d S1 fs F H from q) (gr_side (Gr.refl _ _ _) hq' _)
    | ok ds S1 =>
      rw [e] at q
      intro fs1 F1 H1 vs g1 m1 r1
      simp only [Out.bind_ok] at q
      cases e2 : keyPs ds with
      | none => simp only [e2] at q; exact False.elim q
      | some kvs =>
        simp only [e2] at q
        obtain ⟨hz, q⟩ := PostG.gd q
        obtain ⟨us, eu, ru⟩ := keyPs_ok r1 e2
        obtain ⟨h1, h2, h3⟩ := side_keep g1 hF hf upd_same
        refine ⟨h1, us, eu, by rw [ru.length]; exact hz, ?_⟩
        exact q _ _ _ _ (gr_add ((gr_side (Gr.refl _ _ _) hq' _).trans g1) hq' _) (mt_add (o := .dK (mergeK [] us)) m1 h2 h3 ⟨_, upd_same, RepKV.merge ru rfl⟩) (by rw [Rep]; exact ⟨_, rfl, by rw [m1.len]; simp⟩)
def evNewK : EvE := fun _ S => .ok (.ref S.length) (S ++ [.dct []])
def evNewT : EvE := fun _ S => .ok (.ref S.length) (S ++ [.dcT []])
theorem je_newK : JE X W (.Dict [] [] pos) evNewK := PE.imp pe_dnewK fun σv H Q ⟨fs, F, σ, S, rs, m, q⟩ q' hq' => by
  obtain ⟨m', g'⟩ := mt_new (so := .dct []) (H1 := upd H q' (.dK [])) m hq' (fun b o h => by rw [upd_ne (ne_of_none h hq')]; exact h) ⟨[], upd_same, rfl⟩ (by rw [upd_same]; simp)
  exact q _ _ _ _ g' m' (by rw [Rep]; exact ⟨_, rfl, by rw [m.len]; simp⟩)
theorem je_newT : JE X W (.Dict [] [] pos) evNewT := PE.imp pe_dnewT fun σv H Q ⟨fs, F, σ, S, rs, m, q⟩ q' hq' => by
  obtain ⟨m', g'⟩ := mt_new (so := .dcT []) (H1 := upd H q' (.dT [])) m hq' (fun b o h => by rw [upd_ne (ne_of_none h hq')]; exact h) ⟨[], upd_same, rfl⟩ (by rw [upd_same]; simp)
  exact q _ _ _ _ g' m' (by rw [Rep]; exact ⟨_, rfl, by rw [m.len]; simp⟩)
/-! ### xs.append(e) -/
def evAppend (f g : EvE) : EvE := fun σ S => (f σ S).bind fun d S1 => match d with
  | .ref n => match S1[n]? with
    | some (.lst _) => (g σ S1).bind fun y S2 => match S2[n]? with
      | some (.lst ds) => gd (ds.length < sizeLine) (.ok .non (S2.set n (.lst (ds ++ [y]))))
      | _ => .stuck
    | _ => .stuck
  | _ => .stuck
theorem je_append (t : PE X (.Call (.Attribute o "append" apos) [e] [] pos) (tBM X.K "list" rAppend (tE X.K W f) (tCons (tE X.K W g) tNil))) :
    JE X W (.Call (.Attribute o "append" apos) [e] [] pos) (evAppend f g) :=
  PE.imp t fun σv H Q ⟨fs, F, σ, S, rs, m, q⟩ => tG.bind rs m q fun d S1 fs1 F1 H1 v rs1 m1 g1 r1 p1 => by
    cases d with
    | ref n =>
      cases e1 : S1[n]? with
      | none => simp only [e1] at p1; exact False.elim p1
      | some so =>
        cases so with
        | lst ds =>
          simp only [e1] at p1
          rw [Rep] at r1
          obtain ⟨a, rfl, ha⟩ := r1
          obtain ⟨b, f1, _, xs, f2, f3⟩ := m1.ob n _ e1 rfl
          rw [ha] at f1; cases f1
          refine ⟨.inl ⟨rfl, _, .inl (.inl f2)⟩, ?_⟩
          refine tG.bind rs1 m1 p1 fun y S2 fs2 F2 H2 w rs2 m2 g2 r2 p2 => ?_
          cases e2 : S2[n]? with
          | none => simp only [e2] at p2; exact False.elim p2
          | some so =>
            cases so with
            | lst ds2 =>
              simp only [e2] at p2
              obtain ⟨hz, p3⟩ := p2.gd
              have ha2 := g2.get ha
              obtain ⟨b, f1, _, xs2, f4, f5⟩ := m2.ob n _ e2 rfl
              rw [ha2] at f1; cases f1
              obtain ⟨m3, g3⟩ := mt_set (o := .lst (xs2 ++ [w])) (so' := .lst (ds2 ++ [y])) m2 e2 rfl ha2 ⟨_, upd_same, f5.append (RepL.cons r2 RepL.nil)⟩
              exact ⟨a, xs2, w, rfl, rfl, f4, by rw [f5.length]; exact hz, p3 _ _ _ _ g3 m3 non_rep⟩
            | _ => simp only [e2] at p2; exact False.elim p2
        | _ => simp only [e1] at p1; exact False.elim p1
    | _ => exact False.elim p1
end
/-! ### a def by its body -/
def fnOf (n : Nat) (ev : EvS) (ds : List D) (S : Store) : Out D := match ev (ds.map some ++ List.replicate (n - ds.length) none) S with
  | .nx _ S' => .ok .non S'
  | .ret d S' => .ok d S'
  | _ => .stuck
theorem reps_start {K : PySem.W.Frag} {F : Hp} {fs : List Addr} {ds : List D} {vs : List V} (n : Nat) (r : RepL K F fs ds vs) : RepS K F fs (ds.map some ++ List.replicate (n - ds.length) none) (vs.map some ++ List.replicate (n - vs.length) none) := by
  refine ⟨by simp [r.length], fun i d e => ?_⟩
  by_cases h : i < ds.length
  · rw [List.getElem?_append_left (by simpa using h), List.getElem?_map] at e
    cases q : ds[i]? with
    | none => rw [q] at e; cases e
    | some d' =>
      rw [q] at e; cases e
      obtain ⟨x, e1, r1⟩ := r.get q
      exact ⟨x, by rw [List.getElem?_append_left (by rw [List.length_map, r.length]; exact h), List.getElem?_map, e1]; rfl, r1⟩
  · rw [List.getElem?_append_right (by simpa using h), List.getElem?_replicate] at e
    split at e <;> cases e
section
variable {P : Program} {w : World} {K : PySem.W.Frag} {mg : Str → Option Value} {base : Heap}
theorem fun_ok {x qual : Str} {st : Stmt} {f : Addr} {fd : FuncData} {N ps : List Str} {k np : Nat} {ev : EvS} (Fn : Fun K x qual st f fd) (Sc : FnScope N ps (defScope st)) (hnp : ps.length = np)
    (hb : ∀ (cdv : Value) (A : Around) (outer : List Env) (s : Shared) (H : Hp) (E : XK), Room k (A.deeper (PyProof.Rows.envOfC qual (defScope st) s.heap.objs.size f cdv)) → JSs (cxOf CX0 P w K mg base N qual (defScope st) f cdv A outer s H E).nox W0 (defBody st) ev) :
    FnOk P w K mg base CX0 (k + 1) f fd ps (spD K np (fnOf N.length ev)) :=
  Fn.ok Sc (fun vs H Q E h => h.1.trans hnp.symm) fun cdv A outer s H vs Q E hr ⟨hl, fs, F, ds, S, r, m, p⟩ =>
    ⟨tS K W0 ev, hb cdv A outer s H E hr, fs, F, _, S, reps_start N.length r, m, by
      unfold fnOf at p
      split at p
      · rename_i e; rw [e]; exact fun fs' F' H' σv' g m' rs' => p _ _ _ _ g m' non_rep
      · rename_i e; rw [e]; exact fun fs' F' H' v g m' r' => p _ _ _ _ g m' r'
      · exact False.elim p⟩
end
end DL
/-! DL, part 7: more targets, comprehensions over ranges, what may be called. -/
namespace DL
open PySem L2
/-! ### targets that are places; rows of targets -/
/-- o[i] = d, on the store -/
def storeAt (d k y : D) (S : Store) : Option Store := match d with
  | .ref n => match S[n]? with
    | some (.dct kvs) => match keyD k with
      | some j => if kvs.length < sizeLine then some (S.set n (.dct (putD kvs j y))) else none
      | none => none
    | some (.dcT kvs) => match keyT k with
      | some j => if kvs.length < sizeLine then some (S.set n (.dcT (putD kvs j y))) else none
      | none => none
    | some (.lst ds) => match k with
      | .int i => match ixN ds.length i with
        | some j => some (S.set n (.lst (ds.set j y)))
        | none => none
      | _ => none
    | _ => none
  | _ => none
def rSetA : TSet := fun o i v H Q => rSetL o i v H Q ∨ rSetD o i v H Q
theorem set_any {X : Cx} (hu : X.A.units + 1 < cLine) : PSet X rSetA := by
  intro pins s σ H o i v ov iv u Q I ro ri rv h
  rcases h with h | h
  · exact set_list pins s σ H o i v ov iv u Q I ro ri rv h
  · exact set_dict hu pins s σ H o i v ov iv u Q I ro ri rv h
theorem storeAt_ok {K : PySem.W.Frag} {fs : List Addr} {F H : Hp} {S S' : Store} {d k y : D} {w z v : V} {Q : Hp → Prop} (m : Mt K fs S F H) (r1 : Rep K F fs y v) (r2 : Rep K F fs d w) (r3 : Rep K F fs k z) (e : storeAt d k y S = some S')
    (q : ∀ H', Gr fs F H fs F H' → Mt K fs S' F H' → Q H') : rSetA w z v H Q := by
  cases d with
  | ref n =>
    rw [Rep] at r2
    obtain ⟨a, rfl, ha⟩ := r2
    cases e4 : S[n]? with
    | none => simp [storeAt, e4] at e
    | some so =>
      cases so with
      | dct kvs =>
        simp only [storeAt, e4] at e
        cases e5 : keyD k with
        | none => simp [e5] at e
        | some j =>
          simp only [e5] at e
          split at e
          · rename_i hl
            cases e
            obtain ⟨b, f1, _, vs, f2, f3⟩ := m.ob n _ e4 rfl
            rw [ha] at f1; cases f1
            have hz := keyD_ok r3 e5
            subst hz
            obtain ⟨m4, g4⟩ := mt_set (o := .dK (putK vs j v)) (so' := .dct (putD kvs j y)) m e4 rfl ha ⟨_, upd_same, RepKV.put r1 f3⟩
            exact .inr ⟨a, _, rfl, DPut.k f2 (by rw [f3.length]; exact hl), q _ g4 m4⟩
          · cases e
      | dcT kvs =>
        simp only [storeAt, e4] at e
        cases e5 : keyT k with
        | none => simp [e5] at e
        | some j =>
          simp only [e5] at e
          split at e
          · rename_i hl
            cases e
            obtain ⟨b, f1, _, vs, f2, f3⟩ := m.ob n _ e4 rfl
            rw [ha] at f1; cases f1
            obtain ⟨b, rfl, hb⟩ := keyT_ok m r3 e5
            obtain ⟨m4, g4⟩ := mt_set (o := .dT (putK vs j v)) (so' := .dcT (putD kvs j y)) m e4 rfl ha ⟨_, upd_same, RepKV.put r1 f3⟩
            exact .inr ⟨a, _, rfl, .inr ⟨vs, j, b, f2, rfl, hb, by rw [f3.length]; exact hl, rfl⟩, q _ g4 m4⟩
          · cases e
      | lst ds =>
        simp only [storeAt, e4] at e
        cases k with
        | int i =>
          simp only at e
          cases e5 : ixN ds.length i with
          | none => simp [e5] at e
          | some j =>
            simp only [e5] at e
            cases e
            obtain ⟨b, f1, _, xs, f2, f3⟩ := m.ob n _ e4 rfl
            rw [ha] at f1; cases f1
            obtain ⟨m4, g4⟩ := mt_set (o := .lst (xs.set j v)) (so' := .lst (ds.set j y)) m e4 rfl ha ⟨_, upd_same, RepL.set j r1 f3⟩
            exact .inl ⟨a, xs, i, j, rfl, rep_int r3, f2, by rw [f3.length]; exact e5, q _ g4 m4⟩
        | _ => cases e
      | _ => simp [storeAt, e4] at e
  | _ => cases e
/-- o[i] as a target -/
def gtSub (f g : EvE) : EvT := fun y σ S => match f σ S with
  | .ok d S1 => match g σ S1 with
    | .ok k S2 => (storeAt d k y S2).map fun S' => (σ, S')
    | _ => none
  | _ => none
def runTs : List EvT → List D → Sg → Store → Option (Sg × Store)
  | [], [], σ, S => some (σ, S)
  | g :: gs, d :: ds, σ, S => match g d σ S with
    | some (σ', S') => runTs gs ds σ' S'
    | none => none
  | _, _, _, _ => none
def tGsD (K : PySem.W.Frag) (gs : List EvT) : TGs := fun vs σv H Q => ∃ fs F σ S ds, RepS K F fs σ σv ∧ Mt K fs S F H ∧ RepL K F fs ds vs ∧ ∃ σ' S', runTs gs ds σ S = some (σ', S') ∧
  ∀ fs' F' H' σv', Gr fs F H fs' F' H' → Mt K fs' S' F' H' → RepS K F' fs' σ' σv' → Q σv' H'
abbrev JGs (X : Cx) (ts : List Expr) (gs : List EvT) : Prop := PGs X ts (tGsD X.K gs)
def gtTup (gs : List EvT) : EvT := fun d σ S => match d with
  | .tup ds => if ds.length = gs.length then runTs gs ds σ S else none
  | .fz true ds => if ds.length = gs.length then runTs gs ds σ S else none
  | _ => none
theorem PGs.imp {X : Cx} {e : List Expr} {t t' : TGs} (h : PGs X e t) (i : ∀ v σ H Q, t' v σ H Q → t v σ H Q) : PGs X e t' := ⟨fun pins s σ H v u Q I r q => h.run pins s σ H v u Q I r (i v σ H Q q)⟩
section
variable {X : Cx} {W : WX} {e a b c o i target : Expr} {es ifs ts : List Expr} {f g h' : EvE} {pos pos' apos p p' : Pos} {nm m : Str} {gt : EvT} {gs : List EvT} {tg : TG} {tt : EvB} {te : EvE} {vs : List Nat}
theorem jg_sub (hu : X.A.units + 1 < cLine) (ho : JE X W0 o f) (hi : JE X W0 i g) (ha : ∀ v, assign (.Subscript o i pos) X.env v = (do
      let ov ← holding [v] (eval o X.env)
      let iv ← holding [v, ov] (eval i X.env)
      standAt pos
      holding [v, ov, iv] (setItem ov iv v)
      release [v, ov, iv] []) := by intro _; rfl) : JG X (.Subscript o i pos) (gtSub f g) :=
  PG.imp (pg_sub ho hi (set_any hu) ha) fun v σv H Q ⟨fs, F, σ, S, d, rs, mt, r, σ', S', e, q⟩ => by
    unfold gtSub at e
    cases e1 : f σ S with
    | stuck => simp [e1] at e
    | exc C d' S1 => simp [e1] at e
    | ok d1 S1 =>
      simp only [e1] at e
      cases e2 : g σ S1 with
      | stuck => simp [e2] at e
      | exc C d' S2 => simp [e2] at e
      | ok k S2 =>
        simp only [e2] at e
        cases e3 : storeAt d1 k d S2 with
        | none => simp [e3] at e
        | some S3 =>
          simp only [e3, Option.map_some] at e
          cases e
          refine ⟨fs, F, σ, S, rs, mt, ?_⟩
          rw [e1]
          intro fs1 F1 H1 w g1 m1 r1
          refine ⟨fs1, F1, σ, S1, rs.mono g1, m1, ?_⟩
          rw [e2]
          intro fs2 F2 H2 z g2 m2 r2
          exact storeAt_ok m2 ((r.mono g1).mono g2) (r1.mono g2) r2 e3 fun H' g3 m3 => q _ _ _ _ ((g1.trans g2).trans g3) m3 (((rs.mono g1).mono g2).mono g3)
theorem jgs_nil : JGs X [] [] := PGs.imp pgs_nil fun vs σv H Q ⟨fs, F, σ, S, ds, rs, m, r, σ', S', e, q⟩ => by
  cases ds with
  | nil => rw [RepL] at r; cases e; exact ⟨r, q _ _ _ _ (Gr.refl _ _ _) m rs⟩
  | cons d ds => cases e
theorem jgs_cons (h1 : JG X e gt) (h2 : JGs X es gs) (hs : (assignEach (e :: es) X.env).map (·.2) = assign e X.env :: (assignEach es X.env).map (·.2) := by rfl) : JGs X (e :: es) (gt :: gs) :=
  PGs.imp (pgs_cons h1 h2 hs) fun vs σv H Q ⟨fs, F, σ, S, ds, rs, m, r, σ', S', e, q⟩ => by
    cases ds with
    | nil => cases e
    | cons d ds =>
      rw [RepL] at r
      obtain ⟨x, xr, rfl, r1, r2⟩ := r
      unfold runTs at e
      cases e1 : gt d σ S with
      | none => rw [e1] at e; cases e
      | some p =>
        obtain ⟨σ1, S1⟩ := p
        rw [e1] at e
        exact ⟨x, xr, rfl, fs, F, σ, S, d, rs, m, r1, σ1, S1, e1, fun fs1 F1 H1 σv1 g1 m1 rs1 => ⟨fs1, F1, σ1, S1, ds, rs1, m1, r2.mono g1, σ', S', e, fun fs2 F2 H2 σv2 g2 m2 rs2 => q _ _ _ _ (g1.trans g2) m2 rs2⟩⟩
theorem jg_tup {k : Nat} (hc : X.calm = true) (h : JGs X es gs) (hn : (assignEach es X.env).length = gs.length := by rfl) (hst : (assignEach es X.env).findIdx? (·.1) = none := by rfl) : JG X (.Tuple es k pos) (gtTup gs) :=
  PG.imp (pg_tup hc h hn hst) fun v σv H Q ⟨fs, F, σ, S, d, rs, mt, r, σ', S', e, q⟩ => by
    unfold gtTup at e
    split at e
    · rename_i ds
      split at e
      · rename_i hl
        obtain ⟨a, xs, h1, h2, h3⟩ := (show ∃ a us, v = V.ref a ∧ F a = some (.tup us) ∧ RepL X.K F fs ds us by rw [Rep] at r; exact r)
        exact ⟨a, xs, h1, SqT.of (mt.le _ _ h2), by rw [h3.length]; exact hl, fs, F, σ, S, ds, rs, mt, h3, σ', S', e, q⟩
      · cases e
    · rename_i ds
      split at e
      · rename_i hl
        obtain ⟨a, xs, h1, h2, h3⟩ := (show ∃ a us, v = V.ref a ∧ SqT X.K F a us ∧ RepL X.K F fs ds us by rw [Rep] at r; exact r)
        exact ⟨a, xs, h1, SqT.mono mt.le h2, by rw [h3.length]; exact hl, fs, F, σ, S, ds, rs, mt, h3, σ', S', e, q⟩
      · cases e
    · cases e
/-- a, b, c = x, y, z -/
def evPar3 (i j l : Nat) (gl : EvL) : EvS := fun σ S => (gl σ S).stm σ fun ds S1 => match ds with
  | [a, b, c] => .nx (((σ.set i (some a)).set j (some b)).set l (some c)) S1
  | _ => .stuck
theorem repL3 {K : PySem.W.Frag} {F : Hp} {fs : List Addr} {d d' d'' : D} {vs : List V} (h : RepL K F fs [d, d', d''] vs) : ∃ v v' v'', vs = [v, v', v''] ∧ Rep K F fs d v ∧ Rep K F fs d' v' ∧ Rep K F fs d'' v'' := by
  rw [RepL] at h; obtain ⟨x, xr, rfl, r, h⟩ := h
  obtain ⟨y, y', rfl, r', r''⟩ := repL2 h
  exact ⟨x, y, y', rfl, r, r', r''⟩
theorem js_par3 {i j l : Nat} {x y z : Str} {gl : EvL} {px py pz pt : Pos} {kt k2 pt2} (hc : X.calm = true) (hN : X.N.Nodup) (hi : X.N[i]? = some x) (hj : X.N[j]? = some y) (hl : X.N[l]? = some z) (hij : i ≠ j) (hil : i ≠ l) (hjl : j ≠ l)
    (hx : X.env.scope.names.lookup x = some .local) (hy : X.env.scope.names.lookup y = some .local) (hz : X.env.scope.names.lookup z = some .local) (ha : JA X W [a, b, c] gl)
    (hw : swappedStores [.Tuple [.Name x px, .Name y py, .Name z pz] kt pt] (.Tuple [a, b, c] k2 pt2) X.env = pure (some [x, y, z]))
    (hs : swapsWithSole [.Tuple [.Name x px, .Name y py, .Name z pz] kt pt] (.Tuple [a, b, c] k2 pt2) pos.line X.env = pure false := by rfl) :
    JS X W (.Assign [.Tuple [.Name x px, .Name y py, .Name z pz] kt pt] (.Tuple [a, b, c] k2 pt2) pos) (evPar3 i j l gl) :=
  PS.imp (ps_par3 hc hN hi hj hl hij hil hjl hx hy hz ha hw hs) fun Dn σv H ⟨fs, F, σ, S, rs, m, q⟩ => tG.stm rs m q fun ds S1 fs1 F1 H1 v rs1 m1 g1 r1 p1 => by
    split at p1
    · obtain ⟨v1, v2, v3, rfl, r, r', r''⟩ := repL3 r1
      exact ⟨v1, v2, v3, rfl, p1 _ _ _ _ (Gr.refl _ _ _) m1 (((rs1.set r i).set r' j).set r'' l)⟩
    · exact False.elim p1
/-- code that is never reached -/
def evNever : EvS := fun _ _ => .stuck
theorem js_never {st : Stmt} : JS X W st evNever := PS.imp ps_never fun D σv H ⟨fs, F, σ, S, rs, m, p⟩ => p
theorem jss_never {st : List Stmt} : JSs X W st evNever := PSs.imp pss_never fun D σv H ⟨fs, F, σ, S, rs, m, p⟩ => p
/-- name op= e, ints -/
def evAug (i : Nat) (op : D → D → Store → Out D) (f : EvE) : EvS := fun σ S => match σ[i]? with
  | some (some a) => (f σ S).stm σ fun b S1 => (op a b S1).stm σ fun d S2 => .nx (σ.set i (some d)) S2
  | _ => .stuck
/-! ### comprehensions over a range -/
def evLcR (mm : Bool) (rng : List D → Option (Int × Nat)) (gl : EvL) (vs : List Nat) (gt : EvT) (tt : EvB) (te : EvE) : EvE := fun σ S => (gl σ S).bind fun ds S1 => match rng ds with
  | some (lo, n) => (compD gt tt te (wipeD σ vs) (rangeD lo n) [] S1).bind (mkL mm)
  | none => .stuck
def PvCR (K : PySem.W.Frag) (Ex : Value → Option Addr → Hp → Prop) (gt : EvT) (tt : EvB) (te : EvE) (vs : List Nat) (σ : Sg) (σv : St) (lo : Int) (n : Nat) (fs0 : List Addr) (F0 H0 : Hp) (mm : Bool) (Q : VK) (Dd : Addr) (i : Nat) (H : Hp) : Prop :=
  ∃ fs F S acc accv, Gr fs0 F0 H0 fs F H ∧ Mt K fs S F H ∧ RepS K F fs σ σv ∧ H Dd = some (.lst accv) ∧ F Dd = none ∧ Dd ∉ fs ∧ RepL K F fs acc accv ∧
    PostG K (Rep K) Ex ((compD gt tt te (wipeD σ vs) ((rangeD lo n).drop i) acc S).bind (mkL mm)) fs0 F0 H0 Q
theorem lcr_core (mm : Bool) (T : TGok X.K tg gt vs) {σ : Sg} {σv : St} {fs : List Addr} {F H : Hp} {S : Store} {Q : VK} {lo : Int} {n : Nat} (rs : RepS X.K F fs σ σv) (m : Mt X.K fs S F H)
    (q : PostG X.K (Rep X.K) (fun c d H' => W c d σv H') ((compD gt tt te (wipeD σ vs) (rangeD lo n) [] S).bind (mkL mm)) fs F H Q) : ∀ Dd, H Dd = none → 
      ∃ W' : Nat → Nat → Hp → Prop, (∃ m, W' 0 m (upd H Dd (.lst []))) ∧ ∀ (i m : Nat) (H' : Hp), W' i m H' → (Itr lo n).stop i H' ∧ Q (.ref Dd) H' ∨ (Itr lo n).go i H' ∧ ∃ Nx : Hp → Prop, (∀ H'', Nx H'' → ∃ m', m' < m ∧ W' (i + 1) m' H'') ∧ ∀ x H'', (Itr lo n).yld i H' x H'' →
        tg x (L2.wipe σv vs) H'' fun σ2 H2 => L2.wipe σ2 vs = L2.wipe σv vs ∧ tT X.K W0 tt σ2 H2 fun b H3 => if b = true then tE X.K W0 te σ2 H3 fun y H4 => ∃ acc, H4 Dd = some (.lst acc) ∧ acc.length < sizeLine ∧ Nx (upd H4 Dd (.lst (acc ++ [y]))) else Nx H3 := fun Dd hD => by
  have hF := F_none m hD
  have hf := fs_none m hD
  refine lc_range (PvCR X.K (fun c d H' => W c d σv H') gt tt te vs σ σv lo n fs F H mm Q Dd) ⟨fs, F, S, [], [], gr_side (Gr.refl _ _ _) hD _, mt_side m hF hf _, rs, upd_same, hF, hf, RepL.nil, q⟩ (fun i H' hi h => ?_) fun H' h => ?_
  · obtain ⟨fs1, F1, S1, acc, accv, g1, m1, rs1, hD1, hF1, hf1, r1, p1⟩ := h
    rw [rangeD_drop hi] at p1
    exact comp_step (Nx := PvCR X.K (fun c d H' => W c d σv H') gt tt te vs σ σv lo n fs F H mm Q Dd (i + 1)) T g1 m1 rs1 hD1 hF1 hf1 hD r1 int_rep p1 fun fs' F' H' S' acc' accv' g' le pre m' rs' hD' hF' hf' r' p' => ⟨fs', F', S', acc', accv', g', m', rs', hD', hF', hf', r', p'⟩
  · obtain ⟨fs1, F1, S1, acc, accv, g1, m1, rs1, hD1, hF1, hf1, r1, p1⟩ := h
    have : (rangeD lo n).drop n = [] := List.drop_eq_nil_of_le (by rw [rangeD_length]; exact Nat.le_refl _)
    rw [this] at p1
    exact comp_fin g1 m1 hD1 hF1 hf1 hD r1 p1
theorem lcr1_of (mm : Bool) {gl : EvL} (T : TGok X.K tg gt vs) {σv : St} {H : Hp} {Q : VK} (q : tE X.K W (evLcR mm rng1 gl vs gt tt te) σv H Q) : tLc (iRng1 (tA X.K W gl)) tg (tT X.K W0 tt) (tE X.K W0 te) vs σv H Q := by
  obtain ⟨fs, F, σ, S, rs, m, q⟩ := q
  refine tG.bind rs m q fun ds S1 fs1 F1 H1 v rs1 m1 g1 r1 p1 => ?_
  cases e1 : rng1 ds with
  | none => rw [e1] at p1; exact False.elim p1
  | some q =>
    obtain ⟨lo, n⟩ := q
    rw [e1] at p1
    unfold rng1 at e1
    split at e1
    · split at e1
      · rename_i j hj
        cases e1
        obtain ⟨w, rfl, r⟩ := repL1 r1
        exact ⟨j, by rw [rep_int r], hj.1, hj.2, lcr_core mm T rs1 m1 p1⟩
      · cases e1
    · cases e1
theorem lcr2_of (mm : Bool) {gl : EvL} (T : TGok X.K tg gt vs) {σv : St} {H : Hp} {Q : VK} (q : tE X.K W (evLcR mm rng2 gl vs gt tt te) σv H Q) : tLc (iRng2 (tA X.K W gl)) tg (tT X.K W0 tt) (tE X.K W0 te) vs σv H Q := by
  obtain ⟨fs, F, σ, S, rs, m, q⟩ := q
  refine tG.bind rs m q fun ds S1 fs1 F1 H1 v rs1 m1 g1 r1 p1 => ?_
  cases e1 : rng2 ds with
  | none => rw [e1] at p1; exact False.elim p1
  | some q =>
    obtain ⟨lo, n⟩ := q
    rw [e1] at p1
    unfold rng2 at e1
    split at e1
    · split at e1
      · rename_i j hj
        cases e1
        obtain ⟨w, w', rfl, r, r'⟩ := repL2 r1
        exact ⟨lo, j, by rw [rep_int r, rep_int r'], hj, lcr_core mm T rs1 m1 p1⟩
      · cases e1
    · cases e1
theorem je_lcR1 (mm : Bool) {elt : Expr} {scope : Scope} {own : List (Str × Nat)} {gl : EvL} (T : TGok X.K tg gt (own.map (·.2))) (hc : X.calm = true) (hN : X.N.Nodup) (hgr : Gl X "range") (hm : X.mg "range" = none) (he : JA X W [e] gl) (hB : BlkOk X.N X.env.scope scope own)
    (hg : ∀ (s : Shared) (H : Hp) (C : Addr) (cl : List (Str × Addr)) (fp : List Addr), PG (X.blk s H scope (compEnvC scope cl C X.env) fp) target tg)
    (ht : ∀ (s : Shared) (H : Hp) (C : Addr) (cl : List (Str × Addr)) (fp : List Addr), JTs (X.blk s H scope (compEnvC scope cl C X.env) fp) ifs tt)
    (hv : ∀ (s : Shared) (H : Hp) (C : Addr) (cl : List (Str × Addr)) (fp : List Addr), JE (X.blk s H scope (compEnvC scope cl C X.env) fp) W0 elt te)
    (hst : starEach [e] X.env = [(false, eval e X.env)] := by rfl) (hs : ∀ x, foldedSetIterable (.Call (.Name "range" p) [e] [] p') X.env x = pure x := by intro _; rfl) :
    JE X W (.ListComp elt [{ target := target, iter := (.Call (.Name "range" p) [e] [] p'), ifs := ifs, is_async := 0 }] scope pos) (evLcR mm rng1 gl (own.map (·.2)) gt tt te) :=
  PE.imp (pe_lc hc hN (pi_range1 hgr hm he hst) hB hg ht hv hs) fun _ _ _ q => lcr1_of mm T q
theorem js_lcSetR1 (mm : Bool) {i : Nat} {y : Str} {py spos : Pos} {elt : Expr} {scope : Scope} {own : List (Str × Nat)} {gl : EvL} (T : TGok X.K tg gt (own.map (·.2))) (hc : X.calm = true) (hN : X.N.Nodup) (hi : X.N[i]? = some y) (hl : X.env.scope.names.lookup y = some .local)
    (hsw : swapsWith (.ListComp elt [{ target := target, iter := (.Call (.Name "range" p) [e] [] p'), ifs := ifs, is_async := 0 }] scope pos) (some (.Name y py)) spos.line X.env = pure true) (hgr : Gl X "range") (hm : X.mg "range" = none) (he : JA X W [e] gl) (hB : BlkOk X.N X.env.scope scope own)
    (hg : ∀ (s : Shared) (H : Hp) (C : Addr) (cl : List (Str × Addr)) (fp : List Addr), PG (X.blk s H scope (compEnvC scope cl C X.env) fp) target tg)
    (ht : ∀ (s : Shared) (H : Hp) (C : Addr) (cl : List (Str × Addr)) (fp : List Addr), JTs (X.blk s H scope (compEnvC scope cl C X.env) fp) ifs tt)
    (hv : ∀ (s : Shared) (H : Hp) (C : Addr) (cl : List (Str × Addr)) (fp : List Addr), JE (X.blk s H scope (compEnvC scope cl C X.env) fp) W0 elt te)
    (hst : starEach [e] X.env = [(false, eval e X.env)] := by rfl) (hs : ∀ x, foldedSetIterable (.Call (.Name "range" p) [e] [] p') X.env x = pure x := by intro _; rfl) :
    JS X W (.Assign [.Name y py] (.ListComp elt [{ target := target, iter := (.Call (.Name "range" p) [e] [] p'), ifs := ifs, is_async := 0 }] scope pos) spos) (evSet i (evLcR mm rng1 gl (own.map (·.2)) gt tt te)) :=
  js_setLc (ps_setLc hc hN hi hl hsw (pi_range1 hgr hm he hst) hB hg ht hv hs) fun _ _ _ q => lcr1_of mm T q
theorem je_lcR2 (mm : Bool) {e2 elt : Expr} {scope : Scope} {own : List (Str × Nat)} {gl : EvL} (T : TGok X.K tg gt (own.map (·.2))) (hc : X.calm = true) (hN : X.N.Nodup) (hgr : Gl X "range") (hm : X.mg "range" = none) (he : JA X W [e, e2] gl) (hB : BlkOk X.N X.env.scope scope own)
    (hg : ∀ (s : Shared) (H : Hp) (C : Addr) (cl : List (Str × Addr)) (fp : List Addr), PG (X.blk s H scope (compEnvC scope cl C X.env) fp) target tg)
    (ht : ∀ (s : Shared) (H : Hp) (C : Addr) (cl : List (Str × Addr)) (fp : List Addr), JTs (X.blk s H scope (compEnvC scope cl C X.env) fp) ifs tt)
    (hv : ∀ (s : Shared) (H : Hp) (C : Addr) (cl : List (Str × Addr)) (fp : List Addr), JE (X.blk s H scope (compEnvC scope cl C X.env) fp) W0 elt te)
    (hst : starEach [e, e2] X.env = [(false, eval e X.env), (false, eval e2 X.env)] := by rfl) (hst2 : starEach [e2] X.env = [(false, eval e2 X.env)] := by rfl) (hs : ∀ x, foldedSetIterable (.Call (.Name "range" p) [e, e2] [] p') X.env x = pure x := by intro _; rfl) :
    JE X W (.ListComp elt [{ target := target, iter := (.Call (.Name "range" p) [e, e2] [] p'), ifs := ifs, is_async := 0 }] scope pos) (evLcR mm rng2 gl (own.map (·.2)) gt tt te) :=
  PE.imp (pe_lc hc hN (pi_range2 hgr hm he hst hst2) hB hg ht hv hs) fun _ _ _ q => lcr2_of mm T q
end
def opNeg (d : D) (S : Store) : Out D := match d with
  | .int i => .ok (.int (-i)) S
  | _ => .stuck
theorem je_neg {X : Cx} {W : WX} {e : Expr} {f : EvE} {pos : Pos} (h : JE X W e f) : JE X W (.UnaryOp .USub e pos) (ev1 opNeg f) :=
  PE.imp (pe_un un_neg h) fun σ H Q ⟨fs, F, σ', S, rs, m, q⟩ => tG.bind rs m q fun x S1 fs1 F1 H1 v rs1 m1 g1 r1 p1 => by
    unfold opNeg at p1
    split at p1
    · exact ⟨_, rep_int r1, p1.val m1 int_rep⟩
    · exact False.elim p1
/-! ### what may be called -/
structure DCal (P : Program) (w : World) (K : PySem.W.Frag) (mg : Str → Option Value) (base : Heap) (k : Nat) (x : Str) (np : Nat) (fn : List D → Store → Out D) : Prop where
  ex : ∃ f fd ps, FnOk P w K mg base CX0 k f fd ps (spD K np fn) ∧ mg x = some (.ref f) ∧ PySem.W.keepIn K (.ref f) = true ∧ Binds K fd ps []
structure DMet (P : Program) (w : World) (K : PySem.W.Frag) (mg : Str → Option Value) (base : Heap) (k : Nat) (C : Addr) (m : Str) (np : Nat) (fn : List D → Store → Out D) : Prop where
  ex : ∃ f fd ps, Cls K C ∧ Meth K C m f ∧ FnOk P w K mg base CX0 k f fd ps (spD K np fn) ∧ Binds K fd ps []
structure DMak (P : Program) (w : World) (K : PySem.W.Frag) (mg : Str → Option Value) (base : Heap) (k : Nat) (x : Str) (C : Addr) (np : Nat) (fn : List D → Store → Out D) : Prop where
  ex : ∃ f fd ps, Mk K C f ∧ FnOk P w K mg base CX0 k f fd ps (spD K np fn) ∧ mg x = some (.ref C) ∧ Binds K fd ps []
section
variable {X : Cx} {W : WX} {e o : Expr} {es : List Expr} {f : EvE} {gl : EvL} {pos apos p : Pos} {x m : Str} {C : Addr} {k j np : Nat} {fn : List D → Store → Out D}
theorem jc_call (c : DCal X.prog X.w X.K X.mg X.base k x np fn) (hr : Room j X.A) (hk : k ≤ j) (hg : Gl X x) (ha : JA X W (e :: es) gl)
    (hdb : (x == ("__debug__" : Str)) = false := by decide) (he : starEach (e :: es) X.env = (false, eval e X.env) :: starEach es X.env := by rfl) (hpl : (backTo pos (starEach es X.env)).any (·.1) = false := by rfl) :
    JE X W (.Call (.Name x p) (e :: es) [] pos) (evL (opCall np fn) gl) := by
  obtain ⟨fa, fd, ps, G, hm, hkp, hb⟩ := c.ex
  exact je_call G (hr.mono hk) hg hm hkp hb ha hdb he hpl
theorem jc_call0 (c : DCal X.prog X.w X.K X.mg X.base k x 0 fn) (hr : Room j X.A) (hk : k ≤ j) (hg : Gl X x) (hdb : (x == ("__debug__" : Str)) = false := by decide) : JE X W (.Call (.Name x p) [] [] pos) (evL (opCall 0 fn) evNil) := by
  obtain ⟨fa, fd, ps, G, hm, hkp, hb⟩ := c.ex
  exact je_call0 G (hr.mono hk) hg hm hkp hb hdb
theorem jc_make (c : DMak X.prog X.w X.K X.mg X.base k x C np fn) (hr : Room j X.A) (hk : k + 1 ≤ j) (hg : Gl X x) (ha : JA X W (e :: es) gl)
    (hdb : (x == ("__debug__" : Str)) = false := by decide) (he : starEach (e :: es) X.env = (false, eval e X.env) :: starEach es X.env := by rfl) (hpl : (backTo pos (starEach es X.env)).any (·.1) = false := by rfl) :
    JE X W (.Call (.Name x p) (e :: es) [] pos) (evL (opMake C np fn) gl) := by
  obtain ⟨fa, fd, ps, M, G, hm, hb⟩ := c.ex
  exact je_make M G (hr.mono hk) hg hm hb ha hdb he hpl
theorem jc_make0 (c : DMak X.prog X.w X.K X.mg X.base k x C np fn) (hr : Room j X.A) (hk : k + 1 ≤ j) (hg : Gl X x) (hdb : (x == ("__debug__" : Str)) = false := by decide) : JE X W (.Call (.Name x p) [] [] pos) (evL (opMake C np fn) evNil) := by
  obtain ⟨fa, fd, ps, M, G, hm, hb⟩ := c.ex
  exact je_make0 M G (hr.mono hk) hg hm hb hdb
theorem jc_meth {pl : Sem Bool} (c : DMet X.prog X.w X.K X.mg X.base k C m np fn) (hr : Room j X.A) (hk : k ≤ j) (ho : JE X W o f) (ha : JA X W (e :: es) gl)
    (hst : starEach (e :: es) X.env = (false, eval e X.env) :: starEach es X.env := by rfl) (hpl : (backTo pos (starEach es X.env)).any (·.1) = false := by rfl)
    (ht : eval (.Call (.Attribute o m apos) (e :: es) [] pos) X.env = (do
      let ov ← eval o X.env
      standAt apos.atName
      let (f, first) ← holding [ov] (getMethod ov m pl)
      callWith pos f first (backTo pos (starEach (e :: es) X.env)) (backToKw pos (keywordEach [] X.env))) := by rfl) :
    JE X W (.Call (.Attribute o m apos) (e :: es) [] pos) (evMeth C m np fn f gl) := by
  obtain ⟨fa, fd, ps, c1, hm, G, hb⟩ := c.ex
  exact je_meth c1 hm G (hr.mono hk) hb ho ha hst hpl ht
theorem jc_meth0 {pl : Sem Bool} (c : DMet X.prog X.w X.K X.mg X.base k C m np fn) (hr : Room j X.A) (hk : k ≤ j) (ho : JE X W o f)
    (ht : eval (.Call (.Attribute o m apos) [] [] pos) X.env = (do
      let ov ← eval o X.env
      standAt apos.atName
      let (f, first) ← holding [ov] (getMethod ov m pl)
      callWith pos f first (backTo pos (starEach [] X.env)) (backToKw pos (keywordEach [] X.env))) := by rfl) :
    JE X W (.Call (.Attribute o m apos) [] [] pos) (evMeth C m np fn f evNil) := by
  obtain ⟨fa, fd, ps, c1, hm, G, hb⟩ := c.ex
  exact je_meth0 c1 hm G (hr.mono hk) hb ho ht
end
theorem in1 {K : PySem.W.Frag} {C : Addr} {nm : Str} (c : Cls K C) (n : NoAttr K C nm) : ∀ C' ∈ [C], Cls K C' ∧ NoAttr K C' nm := fun C' h => by
  rw [List.mem_singleton.mp h]; exact ⟨c, n⟩
/-! ### a def, a class as they stand behind the top -/
structure DefF (K : PySem.W.Frag) (mg : Str → Option Value) (x : Str) (st : Stmt) (ps : List Str) : Prop where
  ex : ∃ f fd, Fun K x x st f fd ∧ mg x = some (.ref f) ∧ Binds K fd ps []
structure MetF (K : PySem.W.Frag) (C : Addr) (m qual : Str) (st : Stmt) (ps : List Str) : Prop where
  ex : ∃ f fd, Meth K C m f ∧ Fun K m qual st f fd ∧ Binds K fd ps []
structure MakF (K : PySem.W.Frag) (C : Addr) (qual : Str) (st : Stmt) (ps : List Str) : Prop where
  ex : ∃ f fd, Mk K C f ∧ Fun K "__init__" qual st f fd ∧ Binds K fd ps []
section
variable {K : PySem.W.Frag} {h : Heap} {mg : Str → Option Value} {x m qual : Str} {st : Stmt} {C f : Addr} {od an : Option Addr} {osl : Array (Option Value)} {oc kV doc pm cdv ct : Value} {ps : List Str}
theorem deff_mk (X : K.In h) (G : h.Ns mainGlobals mg) (a : PySem.W.nsIn K mainGlobals x = some (some (.ref f))) (l : K.lookup f = some ⟨oc, od, .func (PySem.W.fnOf x x (defArgs st) (defBody st) (defScope st) .none kV doc pm an cdv ct), osl⟩)
    (c : PySem.W.codeIn K cdv x = true) (k : PySem.W.keepIn K (.ref f) = true)
    (b : ∀ (kV doc pm : Value) (an : Option Addr) (cdv ct : Value) (us : List Value), us.length = ps.length → bindArgs (PySem.W.fnOf x x (defArgs st) (defBody st) (defScope st) .none kV doc pm an cdv ct) ⟨us, []⟩ = pure (ps.zip us)) : DefF K mg x st ps :=
  ⟨f, _, fun_mk l c k, PySem.W.mg_of X G a, (fun_mk l c k).binds b⟩
theorem metf_mk (a : PySem.W.findIn K (.ref C) m = some (some (.ref f))) (i : PySem.W.isFn K (.ref f) = true) (l : K.lookup f = some ⟨oc, od, .func (PySem.W.fnOf m qual (defArgs st) (defBody st) (defScope st) .none kV doc pm an cdv ct), osl⟩)
    (c : PySem.W.codeIn K cdv qual = true) (k : PySem.W.keepIn K (.ref f) = true)
    (b : ∀ (kV doc pm : Value) (an : Option Addr) (cdv ct : Value) (us : List Value), us.length = ps.length → bindArgs (PySem.W.fnOf m qual (defArgs st) (defBody st) (defScope st) .none kV doc pm an cdv ct) ⟨us, []⟩ = pure (ps.zip us)) : MetF K C m qual st ps :=
  ⟨f, _, ⟨a, i, k⟩, fun_mk l c k, (fun_mk l c k).binds b⟩
theorem makf_mk (mk : PySem.W.makesIn K C = true) (kc : PySem.W.keepIn K (.ref C) = true) (a : PySem.W.findIn K (.ref C) "__init__" = some (some (.ref f))) (i : PySem.W.isFn K (.ref f) = true)
    (l : K.lookup f = some ⟨oc, od, .func (PySem.W.fnOf "__init__" qual (defArgs st) (defBody st) (defScope st) .none kV doc pm an cdv ct), osl⟩)
    (c : PySem.W.codeIn K cdv qual = true) (k : PySem.W.keepIn K (.ref f) = true)
    (b : ∀ (kV doc pm : Value) (an : Option Addr) (cdv ct : Value) (us : List Value), us.length = ps.length → bindArgs (PySem.W.fnOf "__init__" qual (defArgs st) (defBody st) (defScope st) .none kV doc pm an cdv ct) ⟨us, []⟩ = pure (ps.zip us)) : MakF K C qual st ps :=
  ⟨f, _, ⟨mk, a, i, kc⟩, fun_mk l c k, (fun_mk l c k).binds b⟩
end
/-- a promise of nothing -/
theorem fn_none {P : Program} {w : World} {K : PySem.W.Frag} {mg : Str → Option Value} {base : Heap} {CX : CXT} {k np : Nat} {f : Addr} {fd : FuncData} {ps : List Str} : ps.length = np → FnOk P w K mg base CX k f fd ps (spD K np fun _ _ => .stuck) := fun hl =>
  ⟨fun vs H Q E h => h.1.trans hl.symm, fun A outer s H args us vs Q E hr he hb hv ⟨_, fs, F, ds, S, _, _, p⟩ => False.elim p⟩
end DL
/-! DL, part 8: terms are reckoned. -/
namespace DL
open PySem L2
section
variable {σ : Sg} {S : Store} {α β : Type}
@[simp] theorem calm_ok (a : α) (S : Store) : (Out.ok a S).calm = .ok a S := rfl
@[simp] theorem calm_stuck : (Out.stuck : Out α).calm = .stuck := rfl
@[simp] theorem obind_nx (σ : Sg) (S : Store) (k : EvS) : (OutS.nx σ S).bind k = k σ S := rfl
@[simp] theorem obind_ret (d : D) (S : Store) (k : EvS) : (OutS.ret d S).bind k = .ret d S := rfl
@[simp] theorem obind_bk (σ : Sg) (S : Store) (k : EvS) : (OutS.bk σ S).bind k = .bk σ S := rfl
@[simp] theorem obind_ct (σ : Sg) (S : Store) (k : EvS) : (OutS.ct σ S).bind k = .ct σ S := rfl
@[simp] theorem obind_stuck (k : EvS) : (OutS.stuck).bind k = .stuck := rfl
@[simp] theorem gd_true {c : Prop} [Decidable c] {o : Out α} (h : c) : gd c o = o := if_pos h
@[simp] theorem evSeq_d (s t : EvS) : evSeq s t σ S = (s σ S).bind t := rfl
@[simp] theorem evNop_d : evNop σ S = .nx σ S := rfl
@[simp] theorem evPass_d : evPass σ S = .nx σ S := rfl
@[simp] theorem evSet_d (i : Nat) (f : EvE) : evSet i f σ S = (f σ S).stm σ fun d S1 => .nx (σ.set i (some d)) S1 := rfl
@[simp] theorem evExpr_d (f : EvE) : evExpr f σ S = (f σ S).stm σ fun _ S1 => .nx σ S1 := rfl
@[simp] theorem evRet_d (f : EvE) : evRet f σ S = (f σ S).stm σ fun d S1 => .ret d S1 := rfl
@[simp] theorem evRetN_d : evRetN σ S = .ret .non S := rfl
/-- the two ways -/
def br {γ : Type} (b : Bool) (x y : γ) : γ := match b with
  | true => x
  | false => y
@[simp] theorem br_t {γ : Type} (x y : γ) : br true x y = x := rfl
@[simp] theorem br_f {γ : Type} (x y : γ) : br false x y = y := rfl
@[simp] theorem evIfS_d (c : EvB) (s t : EvS) : evIfS c s t σ S = (c σ S).stm σ fun b S1 => br b (s σ S1) (t σ S1) := by
  unfold evIfS
  refine congrArg _ (funext fun b => funext fun S1 => ?_)
  cases b <;> rfl
@[simp] theorem evIf_d (c : EvB) (f g : EvE) : evIf c f g σ S = (c σ S).bind fun b S1 => br b (f σ S1) (g σ S1) := by
  unfold evIf
  refine congrArg _ (funext fun b => funext fun S1 => ?_)
  cases b <;> rfl
@[simp] theorem evVar_some {i : Nat} {d : D} (h : σ[i]? = some (some d)) : evVar i σ S = .ok d S := by unfold evVar; rw [h]
@[simp] theorem evC_d (d : D) : evC d σ S = .ok d S := rfl
@[simp] theorem evNil_d : evNil σ S = .ok [] S := rfl
@[simp] theorem evCons_d (f : EvE) (g : EvL) : evCons f g σ S = (f σ S).bind fun a S1 => (g σ S1).bind fun b S2 => .ok (a :: b) S2 := rfl
@[simp] theorem ev1_d (op : D → Store → Out D) (f : EvE) : ev1 op f σ S = (f σ S).bind op := rfl
@[simp] theorem ev2_d (op : D → D → Store → Out D) (f g : EvE) : ev2 op f g σ S = (f σ S).bind fun a S1 => (g σ S1).bind fun b S2 => op a b S2 := rfl
@[simp] theorem evL_d (op : List D → Store → Out D) (f : EvL) : evL op f σ S = (f σ S).bind op := rfl
/-- a value as a truth -/
def asB (d : D) (S : Store) : Out Bool := match d with
  | .bl b => .ok b S
  | _ => .stuck
@[simp] theorem asB_bl (b : Bool) : asB (.bl b) S = .ok b S := rfl
@[simp] theorem evB_d (f : EvE) : evB f σ S = (f σ S).bind asB := rfl
@[simp] theorem evAnd_d (f g : EvB) : evAnd f g σ S = (f σ S).bind fun b S1 => br b (g σ S1) (.ok false S1) := by
  unfold evAnd
  refine congrArg _ (funext fun b => funext fun S1 => ?_)
  cases b <;> rfl
@[simp] theorem evOr_d (f g : EvB) : evOr f g σ S = (f σ S).bind fun b S1 => br b (.ok true S1) (g σ S1) := by
  unfold evOr
  refine congrArg _ (funext fun b => funext fun S1 => ?_)
  cases b <;> rfl
@[simp] theorem evNot_d (f : EvB) : evNot f σ S = (f σ S).bind fun b S1 => .ok (!b) S1 := rfl
/-- a truth that goes on -/
def onB {γ : Type} (d : D) (x y : Out γ) : Out γ := match d with
  | .bl b => br b x y
  | _ => .stuck
@[simp] theorem onB_bl {γ : Type} (b : Bool) (x y : Out γ) : onB (.bl b) x y = br b x y := rfl
@[simp] theorem evAndV_d (f g : EvE) : evAndV f g σ S = (f σ S).bind fun d S1 => onB d (g σ S1) (.ok (.bl false) S1) := by
  unfold evAndV
  congr 1
  funext d S1
  cases d with
  | bl b => cases b <;> rfl
  | _ => rfl
@[simp] theorem evOrV_d (f g : EvE) : evOrV f g σ S = (f σ S).bind fun d S1 => onB d (.ok (.bl true) S1) (g σ S1) := by
  unfold evOrV
  congr 1
  funext d S1
  cases d with
  | bl b => cases b <;> rfl
  | _ => rfl
@[simp] theorem evNotV_d (f : EvE) : evNotV f σ S = (f σ S).bind fun d S1 => onB d (.ok (.bl false) S1) (.ok (.bl true) S1) := by
  unfold evNotV
  congr 1
  funext d S1
  cases d with
  | bl b => cases b <;> rfl
  | _ => rfl
@[simp] theorem evChain_d (o1 o2 : D → D → Store → Out D) (f g h : EvE) : evChain o1 o2 f g h σ S = (f σ S).bind fun a S1 => (g σ S1).bind fun b S2 => (o1 a b S2).bind fun t S3 => onB t ((h σ S3).bind fun c S4 => o2 b c S4) (.ok (.bl false) S3) := by
  unfold evChain
  congr 1
  funext a S1
  congr 1
  funext b S2
  congr 1
  funext t S3
  cases t with
  | bl b => cases b <;> rfl
  | _ => rfl
@[simp] theorem opI_d (g : Int → Int → Int) (i j : Int) : opI g (.int i) (.int j) S = .ok (.int (g i j)) S := rfl
@[simp] theorem opIC_d (C : Int → Int → Prop) [∀ i j, Decidable (C i j)] (g : Int → Int → Int) (i j : Int) : opIC C g (.int i) (.int j) S = gd (C i j) (.ok (.int (g i j)) S) := rfl
@[simp] theorem opB_d (g : Int → Int → Bool) (i j : Int) : opB g (.int i) (.int j) S = .ok (.bl (g i j)) S := rfl
@[simp] theorem opAdd_int (mm : Bool) (i j : Int) : opAdd mm (.int i) (.int j) S = .ok (.int (i + j)) S := rfl
@[simp] theorem opMul_int (mm : Bool) (i j : Int) : opMul mm (.int i) (.int j) S = gd (CMul i j) (.ok (.int (i * j)) S) := rfl
@[simp] theorem opNeg_int (i : Int) : opNeg (.int i) S = .ok (.int (-i)) S := rfl
@[simp] theorem opEqF_int (neg : Bool) (i j : Int) : opEqF neg (.int i) (.int j) S = .ok (.bl (if neg then !decide (i = j) else decide (i = j))) S := by
  unfold opEqF flat
  show gd (scal (.int i) (.int j) = true) _ = _
  rw [gd_pos (show scal (.int i) (.int j) = true from rfl)]
  have e : decide (V.int i = V.int j) = decide (i = j) := by rw [Bool.eq_iff_iff]; simp
  rw [e]
@[simp] theorem opEqF_bl (neg : Bool) (i j : Bool) : opEqF neg (.bl i) (.bl j) S = .ok (.bl (if neg then !decide (i = j) else decide (i = j))) S := by
  unfold opEqF flat
  show gd (scal (.bl i) (.bl j) = true) _ = _
  rw [gd_pos (show scal (.bl i) (.bl j) = true from rfl)]
  have e : decide (V.bl i = V.bl j) = decide (i = j) := by rw [Bool.eq_iff_iff]; simp
  rw [e]
@[simp] theorem opEqF_str (neg : Bool) (i j : Str) : opEqF neg (.str i) (.str j) S = .ok (.bl (if neg then !decide (i = j) else decide (i = j))) S := by
  unfold opEqF flat
  show gd (scal (.str i) (.str j) = true) _ = _
  rw [gd_pos (show scal (.str i) (.str j) = true from rfl)]
  have e : decide (V.str i = V.str j) = decide (i = j) := by rw [Bool.eq_iff_iff]; simp
  rw [e]
@[simp] theorem opEqF_non (neg : Bool) : opEqF neg .non .non S = .ok (.bl (!neg)) S := by cases neg <;> rfl
@[simp] theorem opEqF_int_non (neg : Bool) (i : Int) : opEqF neg (.int i) .non S = .ok (.bl neg) S := by cases neg <;> rfl
@[simp] theorem opEqF_non_int (neg : Bool) (i : Int) : opEqF neg .non (.int i) S = .ok (.bl neg) S := by cases neg <;> rfl
@[simp] theorem opIs_d (neg : Bool) (a : D) : opIs neg a .non S = .ok (.bl (if neg then !a.isNon else a.isNon)) S := rfl
@[simp] theorem isNon_non : D.isNon .non = true := rfl
@[simp] theorem isNon_int (i : Int) : D.isNon (.int i) = false := rfl
@[simp] theorem isNon_bl (i : Bool) : D.isNon (.bl i) = false := rfl
@[simp] theorem isNon_str (i : Str) : D.isNon (.str i) = false := rfl
@[simp] theorem isNon_lst (i : List D) : D.isNon (.lst i) = false := rfl
@[simp] theorem isNon_tup (i : List D) : D.isNon (.tup i) = false := rfl
@[simp] theorem isNon_ref (i : Nat) : D.isNon (.ref i) = false := rfl
@[simp] theorem opInt_int (i : Int) : opInt [.int i] S = .ok (.int i) S := rfl
@[simp] theorem opMax_d (i j : Int) : opMax [.int i, .int j] S = .ok (.int (max i j)) S := by
  unfold opMax
  show Out.ok (D.int (if j > i then j else i)) S = _
  congr 2
  omega
@[simp] theorem opMin_d (i j : Int) : opMin [.int i, .int j] S = .ok (.int (min i j)) S := by
  unfold opMin
  show Out.ok (D.int (if j < i then j else i)) S = _
  congr 2
  omega
@[simp] theorem opLst_d (mm : Bool) (ds : List D) : opLst mm ds S = gd (ds.length ≤ sizeLine) (mkL mm ds S) := rfl
@[simp] theorem opTup_d (ds : List D) : opTup ds S = gd (ds.length ≤ sizeLine) (.ok (.tup ds) S) := rfl
@[simp] theorem mkL_f (ds : List D) : mkL false ds S = .ok (.lst ds) S := rfl
@[simp] theorem mkL_t (ds : List D) : mkL true ds S = .ok (.ref S.length) (S ++ [.lst ds]) := rfl
@[simp] theorem opCall_d (np : Nat) (fn : List D → Store → Out D) (ds : List D) : opCall np fn ds S = gd (ds.length = np) (fn ds S).calm := rfl
@[simp] theorem asSeq_lst (ds : List D) : asSeq (.lst ds) S = some ds := rfl
@[simp] theorem asSeq_tup (ds : List D) : asSeq (.tup ds) S = some ds := rfl
@[simp] theorem asSeq_fz (t : Bool) (ds : List D) : asSeq (.fz t ds) S = some ds := rfl
@[simp] theorem asL_lst (ds : List D) : asL (.lst ds) S = some ds := rfl
theorem asL_ref {n : Nat} {ds : List D} (h : S[n]? = some (.lst ds)) : asL (.ref n) S = some ds := by simp [asL, h]
theorem asSeq_ref {n : Nat} {ds : List D} (h : S[n]? = some (.lst ds)) : asSeq (.ref n) S = some ds := by show asL (.ref n) S = _; exact asL_ref h
theorem asSeq_dct {n : Nat} {ds : List (Key × D)} (h : S[n]? = some (.dct ds)) : asSeq (.ref n) S = none := by show asL (.ref n) S = _; simp [asL, h]
theorem asSeq_dcT {n : Nat} {ds : List (List Key × D)} (h : S[n]? = some (.dcT ds)) : asSeq (.ref n) S = none := by show asL (.ref n) S = _; simp [asL, h]
theorem asD_ref {n : Nat} {ds : List (Key × D)} (h : S[n]? = some (.dct ds)) : asD (.ref n) S = some ds := by simp [asD, h]
theorem asI_ref {n : Nat} {C : Addr} {fl : List (Str × D)} (h : S[n]? = some (.ins C fl)) : asI (.ref n) S = some (n, C, fl) := by simp [asI, h]
/-- d[k], k an int or a text -/
theorem opIx_dct {n : Nat} {kvs : List (Key × D)} {k : D} {j : Key} {d : D} (h : S[n]? = some (.dct kvs)) (hk : keyD k = some j) (hl : lk kvs j = some d) : opIx (.ref n) k S = .ok d S := by
  unfold opIx
  rw [asSeq_dct h]
  show opDGet (.ref n) k S = _
  unfold opDGet dGet
  rw [show asDr (.ref n) S = some kvs by simp [asDr, h]]
  simp [hk, hl]
/-- a place of a sequence -/
theorem opIx_seq {d y : D} {ds : List D} {i : Int} (h : asSeq d S = some ds) (hi : atI ds i = some y) : opIx d (.int i) S = .ok y S := by
  unfold opIx opIxS
  simp [h, hi]
theorem atI_in {ds : List D} {i : Int} (h0 : 0 ≤ i) (h1 : i < ds.length) : ∃ d, d ∈ ds ∧ atI ds i = some d ∧ ds[i.toNat]? = some d := by
  have hn : i.toNat < ds.length := by omega
  refine ⟨ds[i.toNat], List.getElem_mem hn, ?_, List.getElem?_eq_getElem hn⟩
  unfold atI ixN
  rw [if_pos h0, if_pos h1]
  show ds[i.toNat]? = _
  exact List.getElem?_eq_getElem hn
@[simp] theorem fld_some {Cs : List Addr} {f : Str} {n : Nat} {C : Addr} {fl : List (Str × D)} {d : D} (h : S[n]? = some (.ins C fl)) (hC : C ∈ Cs) (hl : fl.lookup f = some d) : opFld Cs f (.ref n) S = .ok d S := by
  unfold opFld
  rw [asI_ref h]
  simp [hC, hl]
theorem fldS_some {Cs : List Addr} {nm : Str} {f g : EvE} {S1 S2 : Store} {y : D} {n : Nat} {C : Addr} {fl : List (Str × D)} (hg : g σ S = .ok y S1) (hf : f σ S1 = .ok (.ref n) S2) (h : S2[n]? = some (.ins C fl)) (hC : C ∈ Cs) (hl : fl.length < 1000) : evFldS Cs nm f g σ S = .nx σ (S2.set n (.ins C (putFD nm y fl))) := by
  unfold evFldS
  simp [hg, hf, asI_ref h, hC, hl]
end
/-! ### what follows: a calculus of wishes -/
def WE {α : Type} (o : Out α) (Q : α → Store → Prop) : Prop := match o with
  | .ok a S => Q a S
  | _ => False
def WS (o : OutS) (N B C : Sg → Store → Prop) (R : D → Store → Prop) : Prop := match o with
  | .nx σ S => N σ S
  | .bk σ S => B σ S
  | .ct σ S => C σ S
  | .ret d S => R d S
  | _ => False
theorem WE.ex {α : Type} {o : Out α} {Q : α → Store → Prop} (h : WE o Q) : ∃ a S, o = .ok a S ∧ Q a S := by
  cases o with
  | ok a S => exact ⟨a, S, rfl, h⟩
  | _ => exact False.elim h
theorem WE.mono {α : Type} {o : Out α} {Q Q' : α → Store → Prop} (h : WE o Q) (i : ∀ a S, Q a S → Q' a S) : WE o Q' := by
  cases o with
  | ok a S => exact i a S h
  | _ => exact h
theorem WS.mono {o : OutS} {N B C N' B' C' : Sg → Store → Prop} {R R' : D → Store → Prop} (h : WS o N B C R) (i : ∀ a S, N a S → N' a S) (ib : ∀ a S, B a S → B' a S) (ic : ∀ a S, C a S → C' a S) (ir : ∀ a S, R a S → R' a S) : WS o N' B' C' R' := by
  cases o with
  | nx a S => exact i a S h
  | bk a S => exact ib a S h
  | ct a S => exact ic a S h
  | ret a S => exact ir a S h
  | _ => exact h
section
variable {σ : Sg} {S : Store} {α β : Type} {N B C : Sg → Store → Prop} {R : D → Store → Prop} {Q : D → Store → Prop} {QB : Bool → Store → Prop} {QL : List D → Store → Prop}
theorem w_ok {a : α} {Q : α → Store → Prop} (h : Q a S) : WE (.ok a S) Q := h
theorem w_bind {o : Out α} {k : α → Store → Out β} {Q : β → Store → Prop} (h : WE o fun a S => WE (k a S) Q) : WE (o.bind k) Q := by
  cases o with
  | ok a S => exact h
  | _ => exact h
theorem w_calm {o : Out α} {Q : α → Store → Prop} (h : WE o Q) : WE o.calm Q := by
  cases o with
  | ok a S => exact h
  | _ => exact h
theorem w_gd {c : Prop} [Decidable c] {o : Out α} {Q : α → Store → Prop} (hc : c) (h : WE o Q) : WE (gd c o) Q := by rw [gd_pos hc]; exact h
theorem w_stm {o : Out α} {k : α → Store → OutS} (h : WE o fun a S => WS (k a S) N B C R) : WS (o.stm σ k) N B C R := by
  cases o with
  | ok a S => exact h
  | _ => exact h
theorem w_obind {o : OutS} {k : EvS} (h : WS o (fun σ S => WS (k σ S) N B C R) B C R) : WS (o.bind k) N B C R := by
  cases o with
  | nx a S => exact h
  | _ => exact h
theorem w_seq {s t : EvS} (h : WS (s σ S) (fun σ S => WS (t σ S) N B C R) B C R) : WS (evSeq s t σ S) N B C R := w_obind h
theorem w_nop (h : N σ S) : WS (evNop σ S) N B C R := h
theorem w_pass (h : N σ S) : WS (evPass σ S) N B C R := h
theorem w_break (h : B σ S) : WS (evBreak σ S) N B C R := h
theorem w_cont (h : C σ S) : WS (evCont σ S) N B C R := h
theorem w_set {i : Nat} {f : EvE} (h : WE (f σ S) fun d S1 => N (σ.set i (some d)) S1) : WS (evSet i f σ S) N B C R := w_stm h
theorem w_expr {f : EvE} (h : WE (f σ S) fun _ S1 => N σ S1) : WS (evExpr f σ S) N B C R := w_stm h
theorem w_ret {f : EvE} (h : WE (f σ S) R) : WS (evRet f σ S) N B C R := w_stm h
theorem w_retN (h : R .non S) : WS (evRetN σ S) N B C R := h
theorem w_if {c : EvB} {s t : EvS} (h : WE (c σ S) fun b S1 => (b = true → WS (s σ S1) N B C R) ∧ (b = false → WS (t σ S1) N B C R)) : WS (evIfS c s t σ S) N B C R := by
  rw [evIfS_d]
  refine w_stm (h.mono fun b S1 q => ?_)
  cases b with
  | true => exact q.1 rfl
  | false => exact q.2 rfl
theorem w_par {i j : Nat} {gl : EvL} (h : WE (gl σ S) fun ds S1 => ∃ a b, ds = [a, b] ∧ N ((σ.set i (some a)).set j (some b)) S1) : WS (evPar i j gl σ S) N B C R := w_stm (h.mono fun ds S1 ⟨a, b, e, q⟩ => by subst e; exact q)
theorem w_par3 {i j l : Nat} {gl : EvL} (h : WE (gl σ S) fun ds S1 => ∃ a b c, ds = [a, b, c] ∧ N (((σ.set i (some a)).set j (some b)).set l (some c)) S1) : WS (evPar3 i j l gl σ S) N B C R := w_stm (h.mono fun ds S1 ⟨a, b, c, e, q⟩ => by subst e; exact q)
theorem w_var {i : Nat} {d : D} (e : σ[i]? = some (some d)) (h : Q d S) : WE (evVar i σ S) Q := by rw [evVar_some e]; exact h
theorem w_c {d : D} (h : Q d S) : WE (evC d σ S) Q := h
theorem w_nil (h : QL [] S) : WE (evNil σ S) QL := h
theorem w_cons {f : EvE} {g : EvL} (h : WE (f σ S) fun a S1 => WE (g σ S1) fun b S2 => QL (a :: b) S2) : WE (evCons f g σ S) QL := w_bind (h.mono fun a S1 q => w_bind (q.mono fun b S2 q => q))
theorem w_1 {op : D → Store → Out D} {f : EvE} (h : WE (f σ S) fun a S1 => WE (op a S1) Q) : WE (ev1 op f σ S) Q := w_bind h
theorem w_2 {op : D → D → Store → Out D} {f g : EvE} (h : WE (f σ S) fun a S1 => WE (g σ S1) fun b S2 => WE (op a b S2) Q) : WE (ev2 op f g σ S) Q := w_bind (h.mono fun a S1 q => w_bind q)
theorem w_L {op : List D → Store → Out D} {f : EvL} (h : WE (f σ S) fun a S1 => WE (op a S1) Q) : WE (evL op f σ S) Q := w_bind h
theorem w_B {f : EvE} (h : WE (f σ S) fun d S1 => ∃ b, d = .bl b ∧ QB b S1) : WE (evB f σ S) QB := w_bind (h.mono fun d S1 ⟨b, e, q⟩ => by subst e; exact q)
theorem w_ifE {c : EvB} {f g : EvE} (h : WE (c σ S) fun b S1 => (b = true → WE (f σ S1) Q) ∧ (b = false → WE (g σ S1) Q)) : WE (evIf c f g σ S) Q := by
  rw [evIf_d]
  refine w_bind (h.mono fun b S1 q => ?_)
  cases b with
  | true => exact q.1 rfl
  | false => exact q.2 rfl
theorem w_and {f g : EvB} (h : WE (f σ S) fun b S1 => (b = true → WE (g σ S1) QB) ∧ (b = false → QB false S1)) : WE (evAnd f g σ S) QB := by
  rw [evAnd_d]
  refine w_bind (h.mono fun b S1 q => ?_)
  cases b with
  | true => exact q.1 rfl
  | false => exact q.2 rfl
theorem w_or {f g : EvB} (h : WE (f σ S) fun b S1 => (b = true → QB true S1) ∧ (b = false → WE (g σ S1) QB)) : WE (evOr f g σ S) QB := by
  rw [evOr_d]
  refine w_bind (h.mono fun b S1 q => ?_)
  cases b with
  | true => exact q.1 rfl
  | false => exact q.2 rfl
theorem w_not {f : EvB} (h : WE (f σ S) fun b S1 => QB (!b) S1) : WE (evNot f σ S) QB := w_bind h
theorem w_andV {f g : EvE} (h : WE (f σ S) fun d S1 => ∃ b, d = .bl b ∧ (b = true → WE (g σ S1) Q) ∧ (b = false → Q (.bl false) S1)) : WE (evAndV f g σ S) Q := by
  rw [evAndV_d]
  refine w_bind (h.mono fun d S1 ⟨b, e, q⟩ => ?_)
  subst e
  cases b with
  | true => exact q.1 rfl
  | false => exact q.2 rfl
theorem w_orV {f g : EvE} (h : WE (f σ S) fun d S1 => ∃ b, d = .bl b ∧ (b = true → Q (.bl true) S1) ∧ (b = false → WE (g σ S1) Q)) : WE (evOrV f g σ S) Q := by
  rw [evOrV_d]
  refine w_bind (h.mono fun d S1 ⟨b, e, q⟩ => ?_)
  subst e
  cases b with
  | true => exact q.1 rfl
  | false => exact q.2 rfl
theorem w_notV {f : EvE} (h : WE (f σ S) fun d S1 => ∃ b, d = .bl b ∧ Q (.bl (!b)) S1) : WE (evNotV f σ S) Q := by
  unfold evNotV
  refine w_bind (h.mono fun d S1 ⟨b, e, q⟩ => ?_)
  subst e
  exact q
theorem w_chain {o1 o2 : D → D → Store → Out D} {f g h' : EvE} (h : WE (f σ S) fun a S1 => WE (g σ S1) fun b S2 => WE (o1 a b S2) fun t S3 => ∃ k, t = .bl k ∧ (k = true → WE (h' σ S3) fun c S4 => WE (o2 b c S4) Q) ∧ (k = false → Q (.bl false) S3)) : WE (evChain o1 o2 f g h' σ S) Q := by
  rw [evChain_d]
  refine w_bind (h.mono fun a S1 q => w_bind (q.mono fun b S2 q => w_bind (q.mono fun t S3 ⟨k, e, q⟩ => ?_)))
  subst e
  cases k with
  | true => exact w_bind (q.1 rfl)
  | false => exact q.2 rfl
theorem w_I {g : Int → Int → Int} {i j : Int} (h : Q (.int (g i j)) S) : WE (opI g (.int i) (.int j) S) Q := h
theorem w_IC {P : Int → Int → Prop} [∀ i j, Decidable (P i j)] {g : Int → Int → Int} {i j : Int} (c : P i j) (h : Q (.int (g i j)) S) : WE (opIC P g (.int i) (.int j) S) Q := w_gd c h
theorem w_opB {g : Int → Int → Bool} {i j : Int} (h : Q (.bl (g i j)) S) : WE (opB g (.int i) (.int j) S) Q := h
theorem w_add {mm : Bool} {i j : Int} (h : Q (.int (i + j)) S) : WE (opAdd mm (.int i) (.int j) S) Q := h
theorem w_mul {mm : Bool} {i j : Int} (c : CMul i j) (h : Q (.int (i * j)) S) : WE (opMul mm (.int i) (.int j) S) Q := w_gd c h
theorem w_neg {i : Int} (h : Q (.int (-i)) S) : WE (opNeg (.int i) S) Q := h
theorem w_eqI {neg : Bool} {i j : Int} (h : Q (.bl (if neg then !decide (i = j) else decide (i = j))) S) : WE (opEqF neg (.int i) (.int j) S) Q := by rw [opEqF_int]; exact h
theorem w_eqB {neg : Bool} {i j : Bool} (h : Q (.bl (if neg then !decide (i = j) else decide (i = j))) S) : WE (opEqF neg (.bl i) (.bl j) S) Q := by rw [opEqF_bl]; exact h
theorem w_eqS {neg : Bool} {i j : Str} (h : Q (.bl (if neg then !decide (i = j) else decide (i = j))) S) : WE (opEqF neg (.str i) (.str j) S) Q := by rw [opEqF_str]; exact h
theorem w_is {neg : Bool} {a : D} (h : Q (.bl (if neg then !a.isNon else a.isNon)) S) : WE (opIs neg a .non S) Q := h
theorem w_int {i : Int} (h : Q (.int i) S) : WE (opInt [.int i] S) Q := h
theorem w_max {i j : Int} (h : Q (.int (max i j)) S) : WE (opMax [.int i, .int j] S) Q := by rw [opMax_d]; exact h
theorem w_min {i j : Int} (h : Q (.int (min i j)) S) : WE (opMin [.int i, .int j] S) Q := by rw [opMin_d]; exact h
theorem w_lst {mm : Bool} {ds : List D} (c : ds.length ≤ sizeLine) (h : WE (mkL mm ds S) Q) : WE (opLst mm ds S) Q := w_gd c h
theorem w_mkf {ds : List D} (h : Q (.lst ds) S) : WE (mkL false ds S) Q := h
theorem w_mkt {ds : List D} (h : Q (.ref S.length) (S ++ [.lst ds])) : WE (mkL true ds S) Q := h
theorem w_tup {ds : List D} (c : ds.length ≤ sizeLine) (h : Q (.tup ds) S) : WE (opTup ds S) Q := w_gd c h
theorem w_call {np : Nat} {fn : List D → Store → Out D} {ds : List D} (c : ds.length = np) (h : WE (fn ds S) Q) : WE (opCall np fn ds S) Q := w_gd c (w_calm h)
theorem w_fld {Cs : List Addr} {f : Str} {n : Nat} {C : Addr} {fl : List (Str × D)} {d : D} (hS : S[n]? = some (.ins C fl)) (hC : C ∈ Cs) (hl : fl.lookup f = some d) (h : Q d S) : WE (opFld Cs f (.ref n) S) Q := by rw [fld_some hS hC hl]; exact h
theorem w_ixD {n : Nat} {kvs : List (Key × D)} {k : D} {j : Key} {d : D} (hS : S[n]? = some (.dct kvs)) (hk : keyD k = some j) (hl : lk kvs j = some d) (h : Q d S) : WE (opIx (.ref n) k S) Q := by rw [opIx_dct hS hk hl]; exact h
theorem w_ix {d y : D} {ds : List D} {i : Int} (e : asSeq d S = some ds) (hi : atI ds i = some y) (h : Q y S) : WE (opIx d (.int i) S) Q := by rw [opIx_seq e hi]; exact h
/-- any item of a written list, by a drawn place -/
theorem w_pick {ds : List D} {i : Int} (h0 : 0 ≤ i) (h1 : i < ds.length) (h : ∀ d, d ∈ ds → Q d S) : WE (opIx (.lst ds) (.int i) S) Q := by
  obtain ⟨d, hd, e, _⟩ := atI_in h0 h1
  exact w_ix rfl e (h d hd)
theorem w_meth {C' : Addr} {m : Str} {np : Nat} {fn : List D → Store → Out D} {f : EvE} {gl : EvL} (h : WE (f σ S) fun d S1 => ∃ n fl, d = .ref n ∧ S1[n]? = some (.ins C' fl) ∧ fl.lookup m = none ∧ WE (gl σ S1) fun ds S2 => ds.length + 1 = np ∧ WE (fn (d :: ds) S2) Q) : WE (evMeth C' m np fn f gl σ S) Q :=
  w_bind (h.mono fun d S1 ⟨n, fl, e, hS, hl, q⟩ => by
    subst e
    rw [asI_ref hS]
    exact w_gd ⟨rfl, hl⟩ (w_bind (q.mono fun ds S2 ⟨hn, q⟩ => w_gd hn (w_calm q))))
theorem w_make {C' : Addr} {np : Nat} {fn : List D → Store → Out D} {ds : List D} (c : ds.length + 1 = np) (h : WE (fn (.ref S.length :: ds) (S ++ [.ins C' []])) fun r S2 => r = .non ∧ Q (.ref S.length) S2) : WE (opMake C' np fn ds S) Q :=
  w_gd c (w_bind (w_calm (h.mono fun r S2 ⟨e, q⟩ => by subst e; exact q)))
theorem w_fldS {Cs : List Addr} {nm : Str} {f g : EvE} (h : WE (g σ S) fun y S1 => WE (f σ S1) fun d S2 => ∃ n C' fl, d = .ref n ∧ S2[n]? = some (.ins C' fl) ∧ C' ∈ Cs ∧ fl.length < 1000 ∧ N σ (S2.set n (.ins C' (putFD nm y fl)))) : WS (evFldS Cs nm f g σ S) N B C R :=
  w_stm (h.mono fun y S1 q => w_stm (q.mono fun d S2 ⟨n, C', fl, e, hS, hC, hl, q⟩ => by
    subst e
    rw [asI_ref hS]
    show WS (if C' ∈ Cs ∧ fl.length < 1000 then _ else _) N B C R
    rw [if_pos ⟨hC, hl⟩]
    exact q))
theorem w_put {f g h' : EvE} (h : WE (h' σ S) fun y S1 => WE (f σ S1) fun d S2 => WE (g σ S2) fun k S3 => ∃ S4, storeAt d k y S3 = some S4 ∧ N σ S4) : WS (evPut f g h' σ S) N B C R := by
  refine w_stm (h.mono fun y S1 q => w_stm (q.mono fun d S2 q => w_stm (q.mono fun k S3 ⟨S4, e, q⟩ => ?_)))
  cases d with
  | ref n =>
    cases e1 : S3[n]? with
    | none => simp [storeAt, e1] at e
    | some so =>
      cases so with
      | dct kvs =>
        simp only [storeAt, e1] at e
        cases e2 : keyD k with
        | none => simp [e2] at e
        | some j =>
          simp only [e2] at e
          split at e
          · rename_i hl
            cases e
            simp only [e1, e2, hl, if_true]
            exact q
          · cases e
      | dcT kvs =>
        simp only [storeAt, e1] at e
        cases e2 : keyT k with
        | none => simp [e2] at e
        | some j =>
          simp only [e2] at e
          split at e
          · rename_i hl
            cases e
            simp only [e1, e2, hl, if_true]
            exact q
          · cases e
      | lst ds =>
        simp only [storeAt, e1] at e
        cases k with
        | int i =>
          simp only at e
          cases e2 : ixN ds.length i with
          | none => simp [e2] at e
          | some j =>
            simp only [e2] at e
            cases e
            simp only [e1, e2]
            exact q
        | _ => cases e
      | _ => simp [storeAt, e1] at e
  | _ => cases e
theorem storeAt_dct {n : Nat} {kvs : List (Key × D)} {k y : D} {j : Key} (h : S[n]? = some (.dct kvs)) (hk : keyD k = some j) (hl : kvs.length < sizeLine) : storeAt (.ref n) k y S = some (S.set n (.dct (putD kvs j y))) := by
  simp [storeAt, h, hk, hl]
theorem w_asg {gt : EvT} {f : EvE} (h : WE (f σ S) fun d S1 => ∃ σ' S', gt d σ S1 = some (σ', S') ∧ N σ' S') : WS (evAsg gt f σ S) N B C R :=
  w_stm (h.mono fun d S1 ⟨σ', S', e, q⟩ => by rw [e]; exact q)
theorem w_disp {prs : List (EvE × EvE)} (h : WE (evPairs prs σ S) fun ds S1 => ∃ kvs, keyPs ds = some kvs ∧ kvs.length ≤ 15 ∧ Q (.ref S1.length) (S1 ++ [.dct (mergeD [] kvs)])) : WE (evDisp prs σ S) Q :=
  w_bind (h.mono fun ds S1 ⟨kvs, e, hl, q⟩ => by rw [e]; exact w_gd hl q)
theorem w_pnil {Q : List (D × D) → Store → Prop} (h : Q [] S) : WE (evPairs [] σ S) Q := h
theorem w_pcons {k v : EvE} {r : List (EvE × EvE)} {Q : List (D × D) → Store → Prop} (h : WE (k σ S) fun x S1 => WE (v σ S1) fun y S2 => WE (evPairs r σ S2) fun ps S3 => Q ((x, y) :: ps) S3) : WE (evPairs ((k, v) :: r) σ S) Q :=
  w_bind (h.mono fun x S1 q => w_bind (q.mono fun y S2 q => w_bind (q.mono fun ps S3 q => q)))
/-- a loop, by what holds between its turns; i: the turn -/
theorem w_loop {gt : EvT} {body : EvS} (P : Nat → Sg → Store → Prop) : ∀ (ds : List D) (i : Nat) (σ : Sg) (S : Store), P i σ S →
    (∀ j d σ S, ds[j]? = some d → P (i + j) σ S → ∃ σ1 S1, gt d σ S = some (σ1, S1) ∧ WS (body σ1 S1) (P (i + j + 1)) N (P (i + j + 1)) R) → (∀ σ S, P (i + ds.length) σ S → N σ S) → WS (loopD gt body ds σ S) N B C R
  | [], i, σ, S, h0, _, hd => hd σ S h0
  | d :: ds, i, σ, S, h0, hs, hd => by
    obtain ⟨σ1, S1, e, w⟩ := hs 0 d σ S rfl h0
    have again : ∀ σ2 S2, P (i + 0 + 1) σ2 S2 → WS (loopD gt body ds σ2 S2) N B C R := fun σ2 S2 h2 => w_loop P ds (i + 1) σ2 S2 h2 (fun j d σ S hj hp => by
      have := hs (j + 1) d σ S (by simpa using hj) (by rw [show i + (j + 1) = i + 1 + j by omega]; exact hp)
      rw [show i + 1 + j + 1 = i + (j + 1) + 1 by omega]; exact this) fun σ S h => hd σ S (by rw [List.length_cons, show i + (ds.length + 1) = i + 1 + ds.length by omega]; exact h)
    unfold loopD
    rw [e]
    show WS (match body σ1 S1 with
      | .nx σ2 S2 => loopD gt body ds σ2 S2
      | .ct σ2 S2 => loopD gt body ds σ2 S2
      | .bk σ2 S2 => .nx σ2 S2
      | o => o) N B C R
    cases e2 : body σ1 S1 with
    | nx σ2 S2 => rw [e2] at w; exact again σ2 S2 w
    | ct σ2 S2 => rw [e2] at w; exact again σ2 S2 w
    | bk σ2 S2 => rw [e2] at w; exact w
    | ret d' S2 => rw [e2] at w; exact w
    | exc C d' σ2 S2 => rw [e2] at w; exact w
    | stuck => rw [e2] at w; exact w
theorem w_for {f : EvE} {gt : EvT} {body : EvS} (h : WE (f σ S) fun d S1 => ∃ t ds, itemsD d = some (t, ds) ∧ WS (loopD gt body ds σ S1) N B C R) : WS (evFor f gt body σ S) N B C R :=
  w_stm (h.mono fun d S1 ⟨t, ds, e, q⟩ => by rw [e]; exact q)
theorem w_forR {rng : List D → Option (Int × Nat)} {gl : EvL} {gt : EvT} {body : EvS} (h : WE (gl σ S) fun ds S1 => ∃ lo n, rng ds = some (lo, n) ∧ WS (loopD gt body (rangeD lo n) σ S1) N B C R) : WS (evForR rng gl gt body σ S) N B C R :=
  w_stm (h.mono fun d S1 ⟨lo, n, e, q⟩ => by rw [e]; exact q)
theorem w_fn {n : Nat} {ev : EvS} {ds : List D} (h : WS (ev (ds.map some ++ List.replicate (n - ds.length) none) S) (fun _ S' => Q .non S') (fun _ _ => False) (fun _ _ => False) Q) : WE (fnOf n ev ds S) Q := by
  unfold fnOf
  cases e : ev (ds.map some ++ List.replicate (n - ds.length) none) S with
  | nx σ S' => rw [e] at h; exact h
  | ret d S' => rw [e] at h; exact h
  | bk σ S' => rw [e] at h; exact h.elim
  | ct σ S' => rw [e] at h; exact h.elim
  | exc C d σ S' => rw [e] at h; exact h.elim
  | stuck => rw [e] at h; exact h.elim
end
end DL
/-! DL, part 9: more of the calculus; draws. -/
namespace DL
open PySem L2
section
variable {σ : Sg} {S : Store} {α β : Type} {N B C : Sg → Store → Prop} {R : D → Store → Prop} {Q : D → Store → Prop} {QB : Bool → Store → Prop} {QL : List D → Store → Prop}
theorem w_mod {i j : Int} (c : 0 < j) (h : Q (.int (i % j)) S) : WE (opMod (.int i) (.int j) S) Q := w_gd c h
theorem w_fdiv {i j : Int} (c : 0 < j) (c' : j < 1073741824) (h : Q (.int (i / j)) S) : WE (opFdiv (.int i) (.int j) S) Q := w_gd (show CDiv i j from ⟨c, c'⟩) h
theorem w_pow {i j : Int} (c : CPow i j) (h : Q (.int (i ^ j.toNat)) S) : WE (opPow (.int i) (.int j) S) Q := w_gd c h
theorem mulL {i j : Int} (h : -18446744073709551616 < i) (h' : i < 18446744073709551616) : CMul i j := .inl ⟨h, h'⟩
theorem mulR {i j : Int} (h : -18446744073709551616 < j) (h' : j < 18446744073709551616) : CMul i j := .inr ⟨h, h'⟩
theorem w_dec {p : Prop} [Decidable p] {A B : Prop} (h : p → A) (h' : ¬ p → B) : (decide p = true → A) ∧ (decide p = false → B) := ⟨fun e => h (of_decide_eq_true e), fun e => h' (of_decide_eq_false e)⟩
theorem w_ndec {p : Prop} [Decidable p] {A B : Prop} (h : ¬ p → A) (h' : p → B) : ((!decide p) = true → A) ∧ ((!decide p) = false → B) := by
  by_cases e : p
  · rw [decide_eq_true e]; exact ⟨fun z => Bool.noConfusion z, fun _ => h' e⟩
  · rw [decide_eq_false e]; exact ⟨fun _ => h e, fun z => Bool.noConfusion z⟩
theorem w_t {A B : Prop} (h : A) : (true = true → A) ∧ (true = false → B) := ⟨fun _ => h, fun z => Bool.noConfusion z⟩
theorem w_f {A B : Prop} (h : B) : (false = true → A) ∧ (false = false → B) := ⟨fun z => Bool.noConfusion z, fun _ => h⟩
theorem w_any {b : Bool} {A B : Prop} (h : b = true → A) (h' : b = false → B) : (b = true → A) ∧ (b = false → B) := ⟨h, h'⟩
end
/-! ### what became of the store -/
/-- the n-th object is so now, all else as it was -/
structure Up (n : Nat) (so : SO) (S S' : Store) : Prop where
  at_ : S'[n]? = some so
  ne : ∀ (m : Nat), m ≠ n → S'[m]? = S[m]?
  len : S'.length = S.length
theorem up_set {n : Nat} {so : SO} {S : Store} (h : n < S.length) : Up n so S (S.set n so) := ⟨List.getElem?_set_self h, fun m hm => List.getElem?_set_ne (Ne.symm hm), by simp⟩
/-- a new object -/
structure Ad (so : SO) (S S' : Store) : Prop where
  at_ : S'[S.length]? = some so
  old : ∀ (m : Nat) (so' : SO), S[m]? = some so' → S'[m]? = some so'
  len : S'.length = S.length + 1
theorem ad_app {so : SO} {S : Store} : Ad so S (S ++ [so]) := ⟨by simp, fun m so' h => by rw [List.getElem?_append_left (List.getElem?_eq_some_iff.mp h).1]; exact h, by simp⟩
theorem lt_of_get {S : Store} {n : Nat} {so : SO} (h : S[n]? = some so) : n < S.length := (List.getElem?_eq_some_iff.mp h).1
theorem ne_of_get {S : Store} {n m : Nat} {so so' : SO} (h : S[n]? = some so) (h' : S[m]? = some so') (ne : so ≠ so') : n ≠ m := fun e => by subst e; rw [h] at h'; exact ne (Option.some.inj h')
end DL
/-! DL, part 10: more of the calculus. -/
namespace DL
open PySem L2
section
variable {σ : Sg} {S S' : Store} {α β : Type} {N B C : Sg → Store → Prop} {R : D → Store → Prop} {Q : D → Store → Prop} {QB : Bool → Store → Prop} {QL : List D → Store → Prop}
theorem ex_b {b : Bool} {P : Bool → Prop} (h : P b) : ∃ b', D.bl b = .bl b' ∧ P b' := ⟨b, rfl, h⟩
theorem ex_2 {x y : D} {P : D → D → Prop} (h : P x y) : ∃ a b, [x, y] = [a, b] ∧ P a b := ⟨x, y, rfl, h⟩
theorem ex_3 {x y z : D} {P : D → D → D → Prop} (h : P x y z) : ∃ a b c, [x, y, z] = [a, b, c] ∧ P a b c := ⟨x, y, z, rfl, h⟩
theorem ex_m {n : Nat} {C : Addr} {m : Str} {fl : List (Str × D)} {P : Prop} (hS : S[n]? = some (.ins C fl)) (hl : fl.lookup m = none) (h : P) : ∃ n' fl', D.ref n = .ref n' ∧ S[n']? = some (.ins C fl') ∧ fl'.lookup m = none ∧ P := ⟨n, fl, rfl, hS, hl, h⟩
theorem ex_f {n : Nat} {C : Addr} {Cs : List Addr} {fl : List (Str × D)} {P : Nat → Addr → List (Str × D) → Prop} (hS : S[n]? = some (.ins C fl)) (hC : C ∈ Cs) (hl : fl.length < 1000) (h : P n C fl) : ∃ n' C' fl', D.ref n = .ref n' ∧ S[n']? = some (.ins C' fl') ∧ C' ∈ Cs ∧ fl'.length < 1000 ∧ P n' C' fl' := ⟨n, C, fl, rfl, hS, hC, hl, h⟩
theorem ex_i {ds : List D} {P : Bool → List D → Prop} (h : P false ds) : ∃ t ds', itemsD (.lst ds) = some (t, ds') ∧ P t ds' := ⟨false, ds, rfl, h⟩
theorem ex_it {ds : List D} {P : Bool → List D → Prop} (h : P true ds) : ∃ t ds', itemsD (.tup ds) = some (t, ds') ∧ P t ds' := ⟨true, ds, rfl, h⟩
theorem ex_r1 {j : Int} {P : Int → Nat → Prop} (h0 : -4611686018427387904 ≤ j) (h1 : j < 4611686018427387904) (h : P 0 j.toNat) : ∃ lo n, rng1 [.int j] = some (lo, n) ∧ P lo n := ⟨0, j.toNat, if_pos ⟨h0, h1⟩, h⟩
theorem ex_put {n : Nat} {kvs : List (Key × D)} {k y : D} {j : Key} {P : Store → Prop} (h : S[n]? = some (.dct kvs)) (hk : keyD k = some j) (hl : kvs.length < sizeLine) (q : P (S.set n (.dct (putD kvs j y)))) : ∃ S4, storeAt (.ref n) k y S = some S4 ∧ P S4 := ⟨_, storeAt_dct h hk hl, q⟩
theorem w_cB {b : Bool} (h : QB b S) : WE (evB (evC (.bl b)) σ S) QB := h
/-- len -/
theorem w_len {d : D} {ds : List D} (h : asSeq d S = some ds) (q : Q (.int ds.length) S) : WE (opLen [d] S) Q := by
  unfold opLen
  simp only [h]
  exact q
theorem w_isi {d : D} {t c : String} {b : Bool} (h : tyD d S = some t) (hg : goodTy t = true ∧ goodC c = true) (hb : subTy t c = b) (q : Q (.bl b) S) : WE (opIsi [d, .ty c] S) Q := by
  unfold opIsi
  simp only [h]
  exact w_gd hg (by rw [hb]; exact q)
theorem w_isis {d : D} {t : String} {cs : List D} {ns : List String} {b : Bool} (h : tyD d S = some t) (h' : tysD cs = some ns) (hg : goodTy t = true ∧ ns.all goodC = true) (hb : ns.any (subTy t) = b) (q : Q (.bl b) S) : WE (opIsi [d, .tup cs] S) Q := by
  unfold opIsi
  simp only [h, h']
  exact w_gd hg (by rw [hb]; exact q)
/-- a comprehension over a range, all of whose items come out as f tells -/
theorem w_lcR {mm : Bool} {rng : List D → Option (Int × Nat)} {gl : EvL} {vs : List Nat} {i : Nat} {tt : EvB} {te : EvE} (h : WE (gl σ S) fun ds S1 => ∃ lo n, rng ds = some (lo, n) ∧ WE (compD (gtName i) tt te (wipeD σ vs) (rangeD lo n) [] S1) fun acc S2 => WE (mkL mm acc S2) Q) :
    WE (evLcR mm rng gl vs (gtName i) tt te σ S) Q := by
  unfold evLcR
  refine w_bind (h.mono fun ds S1 ⟨lo, n, e, q⟩ => ?_)
  rw [e]
  exact w_bind q
theorem w_lc {mm : Bool} {f : EvE} {vs : List Nat} {gt : EvT} {tt : EvB} {te : EvE} (h : WE (f σ S) fun d S1 => ∃ t ds, itemsD d = some (t, ds) ∧ WE (compD gt tt te (wipeD σ vs) ds [] S1) fun acc S2 => WE (mkL mm acc S2) Q) :
    WE (evLc mm f vs gt tt te σ S) Q := by
  unfold evLc
  refine w_bind (h.mono fun d S1 ⟨t, ds, e, q⟩ => ?_)
  rw [e]
  exact w_bind q
/-- a comprehension, by what holds between its turns -/
theorem w_comp {gt : EvT} {tt : EvB} {te : EvE} {σ0 : Sg} (P : Nat → List D → Store → Prop) : ∀ (ds : List D) (i : Nat) (acc : List D) (S : Store), acc.length + ds.length ≤ sizeLine → P i acc S →
    (∀ j d acc S, ds[j]? = some d → P (i + j) acc S → ∃ σ1 S1, gt d σ0 S = some (σ1, S1) ∧ WE (tt σ1 S1) fun b S2 => (b = false → P (i + j + 1) acc S2) ∧ (b = true → WE (te σ1 S2) fun y S3 => P (i + j + 1) (acc ++ [y]) S3)) →
    (∀ acc S, P (i + ds.length) acc S → QL acc S) → WE (compD gt tt te σ0 ds acc S) QL
  | [], i, acc, S, _, h0, _, hd => hd acc S h0
  | d :: ds, i, acc, S, hl, h0, hs, hd => by
    rw [List.length_cons] at hl
    obtain ⟨σ1, S1, e, w⟩ := hs 0 d acc S rfl h0
    have again : ∀ acc2 S2, acc2.length + ds.length ≤ sizeLine → P (i + 0 + 1) acc2 S2 → WE (compD gt tt te σ0 ds acc2 S2) QL := fun acc2 S2 hl2 h2 => w_comp P ds (i + 1) acc2 S2 hl2 h2 (fun j d acc S hj hp => by
      have := hs (j + 1) d acc S (by simpa using hj) (by rw [show i + (j + 1) = i + 1 + j by omega]; exact hp)
      rw [show i + 1 + j + 1 = i + (j + 1) + 1 by omega]; exact this) fun acc S h => hd acc S (by rw [List.length_cons, show i + (ds.length + 1) = i + 1 + ds.length by omega]; exact h)
    unfold compD
    rw [e]
    refine w_bind (w_calm (w.mono fun b S2 q => ?_))
    cases b with
    | false => exact again acc S2 (by omega) (q.1 rfl)
    | true =>
      refine w_bind (w_calm ((q.2 rfl).mono fun y S3 q => ?_))
      exact w_gd (by omega) (again _ S3 (by rw [List.length_append]; simp; omega) q)
theorem w_yes {QB : Bool → Store → Prop} (h : QB true S) : WE (evYes σ S) QB := h
theorem blsD_map : ∀ bs : List Bool, blsD (bs.map D.bl) = some bs
  | [] => rfl
  | b :: bs => by simp [blsD, blsD_map bs]
theorem intsD_map : ∀ bs : List Int, intsD (bs.map D.int) = some bs
  | [] => rfl
  | b :: bs => by simp [intsD, intsD_map bs]
theorem w_all {ds : List D} {bs : List Bool} (e : ds = bs.map D.bl) (h : Q (.bl (bs.all id)) S) : WE (opAnyAll true [.lst ds] S) Q := by
  unfold opAnyAll
  subst e
  show WE (match (some (bs.map D.bl)).bind blsD with
    | some bs => Out.ok (.bl (if (true : Bool) then bs.all id else bs.any id)) S
    | none => .stuck) Q
  rw [Option.bind_some, blsD_map]
  exact h
theorem w_sum {ds : List D} {bs : List Int} (e : ds = bs.map D.int) (h : Q (.int bs.sum) S) : WE (opSum [.lst ds] S) Q := by
  unfold opSum
  subst e
  show WE (match (some (bs.map D.int)).bind intsD with
    | some ns => Out.ok (.int ns.sum) S
    | none => .stuck) Q
  rw [Option.bind_some, intsD_map]
  exact h
theorem w_append {f g : EvE} (h : WE (f σ S) fun d S1 => ∃ n, d = .ref n ∧ (∃ es, S1[n]? = some (.lst es)) ∧ WE (g σ S1) fun y S2 => ∃ ds, S2[n]? = some (.lst ds) ∧ ds.length < sizeLine ∧ Q .non (S2.set n (.lst (ds ++ [y])))) : WE (evAppend f g σ S) Q := by
  unfold evAppend
  refine w_bind (h.mono fun d S1 ⟨n, e, ⟨es, he⟩, q⟩ => ?_)
  subst e
  simp only [he]
  refine w_bind (q.mono fun y S2 ⟨ds, hs, hl, q⟩ => ?_)
  rw [hs]
  exact w_gd hl q
theorem w_eqI0 {i j : Int} (h : Q (.bl (decide (i = j))) S) : WE (opEqF false (.int i) (.int j) S) Q := w_eqI h
theorem w_eqI1 {i j : Int} (h : Q (.bl (!decide (i = j))) S) : WE (opEqF true (.int i) (.int j) S) Q := w_eqI h
theorem w_eqB0 {i j : Bool} (h : Q (.bl (decide (i = j))) S) : WE (opEqF false (.bl i) (.bl j) S) Q := w_eqB h
theorem w_eqB1 {i j : Bool} (h : Q (.bl (!decide (i = j))) S) : WE (opEqF true (.bl i) (.bl j) S) Q := w_eqB h
theorem w_eqS0 {i j : Str} (h : Q (.bl (decide (i = j))) S) : WE (opEqF false (.str i) (.str j) S) Q := w_eqS h
theorem w_eqS1 {i j : Str} (h : Q (.bl (!decide (i = j))) S) : WE (opEqF true (.str i) (.str j) S) Q := w_eqS h
theorem w_is0 {a : D} {b : Bool} (e : a.isNon = b) (h : Q (.bl b) S) : WE (opIs false a .non S) Q := by rw [← e] at h; exact h
theorem w_is1 {a : D} {b : Bool} (e : a.isNon = b) (h : Q (.bl (!b)) S) : WE (opIs true a .non S) Q := by rw [← e] at h; exact h
theorem w_tc {A B : Prop} (h : B) : (true = false → A) ∧ (true = true → B) := ⟨fun z => Bool.noConfusion z, fun _ => h⟩
theorem w_fc {A B : Prop} (h : A) : (false = false → A) ∧ (false = true → B) := ⟨fun _ => h, fun z => Bool.noConfusion z⟩
theorem w_decR {α : Type} [DecidableEq α] {x : α} {A B : Prop} (h : A) : (decide (x = x) = true → A) ∧ (decide (x = x) = false → B) := ⟨fun _ => h, fun z => absurd rfl (of_decide_eq_false z)⟩
theorem w_ndecR {α : Type} [DecidableEq α] {x : α} {A B : Prop} (h : B) : ((!decide (x = x)) = true → A) ∧ ((!decide (x = x)) = false → B) := w_ndec (fun e => absurd rfl e) fun _ => h
theorem w_ntt {A B : Prop} (h : B) : ((!true) = true → A) ∧ ((!true) = false → B) := ⟨fun z => Bool.noConfusion z, fun _ => h⟩
theorem w_ntf {A B : Prop} (h : A) : ((!false) = true → A) ∧ ((!false) = false → B) := ⟨fun _ => h, fun z => Bool.noConfusion z⟩
theorem w_not2 {b : Bool} {A B : Prop} (h : (b = true → B) ∧ (b = false → A)) : ((!b) = true → A) ∧ ((!b) = false → B) := by cases b with
  | true => exact ⟨fun z => Bool.noConfusion z, fun _ => h.1 rfl⟩
  | false => exact ⟨fun _ => h.2 rfl, fun z => Bool.noConfusion z⟩
/-- the value at a key, plainly -/
def lkv (j : Key) : List (Key × D) → Option D
  | [] => none
  | (k, d) :: r => if k = j then some d else lkv j r
theorem lkv_ok (j : Key) : ∀ kvs, lkv j kvs = lk kvs j
  | [] => rfl
  | (k, d) :: r => by
    unfold lkv lk
    rw [List.find?_cons]
    by_cases e : k = j
    · simp [e]
    · simp only [e, if_false, decide_false]
      exact lkv_ok j r
theorem w_ixv {n : Nat} {kvs : List (Key × D)} {k : D} {j : Key} {d : D} (hS : S[n]? = some (.dct kvs)) (hk : keyD k = some j) (hl : lkv j kvs = some d) (h : Q d S) : WE (opIx (.ref n) k S) Q := w_ixD hS hk (by rw [← lkv_ok]; exact hl) h
theorem range_at {n : Nat} {lo : Int} {i : Nat} {d : D} (h : (rangeD lo n)[i]? = some d) : i < n ∧ d = .int (lo + i) := by
  have hi : i < n := by have := (List.getElem?_eq_some_iff.mp h).1; rwa [rangeD_length] at this
  rw [rangeD_get _ _ _ hi] at h
  exact ⟨hi, (Option.some.inj h).symm⟩
/-- a loop over a range -/
theorem w_rng {i n : Nat} {lo : Int} {body : EvS} (P : Nat → Sg → Store → Prop) (h0 : P 0 σ S) (hs : ∀ j σ S, j < n → P j σ S → WS (body (σ.set i (some (.int (lo + j)))) S) (P (j + 1)) N (P (j + 1)) R) (hd : ∀ σ S, P n σ S → N σ S) : WS (loopD (gtName i) body (rangeD lo n) σ S) N B C R :=
  w_loop P (rangeD lo n) 0 σ S h0 (fun j d σ S hj hp => by
    obtain ⟨hl, rfl⟩ := range_at hj
    rw [Nat.zero_add] at hp ⊢
    exact ⟨_, _, rfl, hs j σ S hl hp⟩) fun σ S hp => by
    rw [Nat.zero_add, rangeD_length] at hp
    exact hd σ S hp
/-- a loop over data -/
theorem w_each {i : Nat} {ds : List D} {body : EvS} (P : Nat → Sg → Store → Prop) (h0 : P 0 σ S) (hs : ∀ j d σ S, ds[j]? = some d → P j σ S → WS (body (σ.set i (some d)) S) (P (j + 1)) N (P (j + 1)) R) (hd : ∀ σ S, P ds.length σ S → N σ S) : WS (loopD (gtName i) body ds σ S) N B C R :=
  w_loop P ds 0 σ S h0 (fun j d σ S hj hp => by
    rw [Nat.zero_add] at hp ⊢
    exact ⟨_, _, rfl, hs j d σ S hj hp⟩) fun σ S hp => by
    rw [Nat.zero_add] at hp
    exact hd σ S hp
/-! the store -/
theorem st_last {x : SO} : (S ++ [x])[S.length]? = some x := by simp
theorem st_app {n : Nat} {x y : SO} (h : S[n]? = some y) : (S ++ [x])[n]? = some y := by rw [List.getElem?_append_left (List.getElem?_eq_some_iff.mp h).1]; exact h
theorem st_same {n : Nat} {x y : SO} (h : S[n]? = some y) : (S.set n x)[n]? = some x := List.getElem?_set_self (List.getElem?_eq_some_iff.mp h).1
theorem st_ne {n m : Nat} {x y : SO} (h : m ≠ n) (e : S[m]? = some y) : (S.set n x)[m]? = some y := by rw [List.getElem?_set_ne (Ne.symm h)]; exact e
/-- all but the first two objects are as they were -/
structure Nx (S S' : Store) : Prop where
  eq : ∀ m : Nat, 2 ≤ m → S'[m]? = S[m]?
  len : S'.length = S.length
theorem st_nx {n : Nat} {y : SO} (h : Nx S S') (hn : 2 ≤ n) (e : S[n]? = some y) : S'[n]? = some y := (h.eq n hn).trans e
/-- plain data, n deep -/
def Pl : Nat → D → Prop
  | 0, _ => False
  | _ + 1, .non => True
  | _ + 1, .bl _ => True
  | _ + 1, .int _ => True
  | _ + 1, .str _ => True
  | n + 1, .lst ds => ds.length ≤ sizeLine ∧ ∀ d ∈ ds, Pl n d
  | n + 1, .tup ds => ds.length ≤ sizeLine ∧ ∀ d ∈ ds, Pl n d
  | _ + 1, _ => False
theorem set_last {x y : SO} : (S ++ [x]).set S.length y = S ++ [y] := by simp
/-- two places of a dict by one assignment -/
theorem ex_tup2 {n n' : Nat} {fo fi go gi : EvE} {x y : D} {k k' : D} {j j' : Key} {kvs kvs' : List (Key × D)} {P : Sg → Store → Prop} (h1 : fo σ S = .ok (.ref n) S) (h2 : fi σ S = .ok k S) (h3 : S[n]? = some (.dct kvs)) (h4 : keyD k = some j) (h5 : kvs.length < sizeLine)
    (h6 : go σ (S.set n (.dct (putD kvs j x))) = .ok (.ref n') (S.set n (.dct (putD kvs j x)))) (h7 : gi σ (S.set n (.dct (putD kvs j x))) = .ok k' (S.set n (.dct (putD kvs j x)))) (h8 : (S.set n (.dct (putD kvs j x)))[n']? = some (.dct kvs')) (h9 : keyD k' = some j') (h10 : kvs'.length < sizeLine)
    (q : P σ ((S.set n (.dct (putD kvs j x))).set n' (.dct (putD kvs' j' y)))) : ∃ σ' S', gtTup [gtSub fo fi, gtSub go gi] (.tup [x, y]) σ S = some (σ', S') ∧ P σ' S' := by
  refine ⟨_, _, ?_, q⟩
  show runTs [gtSub fo fi, gtSub go gi] [x, y] σ S = _
  have e1 : gtSub fo fi x σ S = some (σ, S.set n (.dct (putD kvs j x))) := by
    unfold gtSub
    rw [h1]
    show (match fi σ S with
      | .ok k S2 => (storeAt (.ref n) k x S2).map fun S' => (σ, S')
      | _ => none) = _
    rw [h2]
    show (storeAt (.ref n) k x S).map (fun S' => (σ, S')) = _
    rw [storeAt_dct h3 h4 h5]
    rfl
  have e2 : gtSub go gi y σ (S.set n (.dct (putD kvs j x))) = some (σ, (S.set n (.dct (putD kvs j x))).set n' (.dct (putD kvs' j' y))) := by
    unfold gtSub
    rw [h6]
    show (match gi σ (S.set n (.dct (putD kvs j x))) with
      | .ok k S2 => (storeAt (.ref n') k y S2).map fun S' => (σ, S')
      | _ => none) = _
    rw [h7]
    show (storeAt (.ref n') k' y (S.set n (.dct (putD kvs j x)))).map (fun S' => (σ, S')) = _
    rw [storeAt_dct h8 h9 h10]
    rfl
  unfold runTs
  rw [e1]
  show (match gtSub go gi y σ (S.set n (.dct (putD kvs j x))) with
    | some (σ', S') => runTs [] [] σ' S'
    | none => none) = _
  rw [e2]
  rfl
theorem w_shl {i j : Int} (c : CPow i j) (h : Q (.int (i * 2 ^ j.toNat)) S) : WE (opShl (.int i) (.int j) S) Q := w_gd c h
theorem w_shr {i j : Int} (c : CPow i j) (h : Q (.int (i * 2 ^ j.toNat)) S) : WE (opShl (.int i) (.int j) S) Q := w_gd c h
/-! slices -/
theorem w_sl00 {mm : Bool} {f : EvE} (h : WE (f σ S) fun d S1 => WE (opSl mm d none none S1) Q) : WE (evSl mm f none none σ S) Q := w_bind (h.mono fun d S1 q => q)
theorem w_sl01 {mm : Bool} {f g : EvE} (h : WE (f σ S) fun d S1 => WE (g σ S1) fun e S2 => ∃ k, e = .int k ∧ WE (opSl mm d none (some k) S2) Q) : WE (evSl mm f none (some g) σ S) Q :=
  w_bind (h.mono fun d S1 q => w_bind (show WE (Out.ok none S1) _ from w_bind (w_bind (q.mono fun e S2 ⟨k, e1, q⟩ => by subst e1; exact q))))
theorem w_sl10 {mm : Bool} {f g : EvE} (h : WE (f σ S) fun d S1 => WE (g σ S1) fun e S2 => ∃ k, e = .int k ∧ WE (opSl mm d (some k) none S2) Q) : WE (evSl mm f (some g) none σ S) Q :=
  w_bind (h.mono fun d S1 q => w_bind (w_bind (q.mono fun e S2 ⟨k, e1, q⟩ => by subst e1; exact q)))
theorem w_sl11 {mm : Bool} {f g g' : EvE} (h : WE (f σ S) fun d S1 => WE (g σ S1) fun e S2 => ∃ k, e = .int k ∧ WE (g' σ S2) fun e S3 => ∃ k', e = .int k' ∧ WE (opSl mm d (some k) (some k') S3) Q) : WE (evSl mm f (some g) (some g') σ S) Q :=
  w_bind (h.mono fun d S1 q => w_bind (w_bind (q.mono fun e S2 ⟨k, e1, q⟩ => by subst e1; exact w_bind (w_bind (q.mono fun e S3 ⟨k', e2, q⟩ => by subst e2; exact q)))))
theorem ex_int {i : Int} {P : Int → Prop} (h : P i) : ∃ k, D.int i = .int k ∧ P k := ⟨i, rfl, h⟩
theorem w_cutF {mm : Bool} {ds : List D} {lo hi : Option Int} (h : WE (mkL mm (cutD ds lo hi) S) Q) : WE (opSl mm (.fz false ds) lo hi S) Q := h
theorem w_cutL {mm : Bool} {ds : List D} {lo hi : Option Int} (h : WE (mkL mm (cutD ds lo hi) S) Q) : WE (opSl mm (.lst ds) lo hi S) Q := h
theorem w_cutT {mm : Bool} {ds : List D} {lo hi : Option Int} (h : Q (.tup (cutD ds lo hi)) S) : WE (opSl mm (.tup ds) lo hi S) Q := h
theorem w_cutR {mm : Bool} {n : Nat} {ds : List D} {lo hi : Option Int} (e : S[n]? = some (.lst ds)) (h : WE (mkL mm (cutD ds lo hi) S) Q) : WE (opSl mm (.ref n) lo hi S) Q := by
  unfold opSl
  simp only [asL_ref e]
  exact h
theorem sIx_in {n d : Nat} {k : Int} (h : 0 ≤ k) : HT.sIx n d (some k) = min k.toNat n := by
  unfold HT.sIx
  simp only
  split <;> omega
theorem cut_to {ds : List D} {k : Int} (h : 0 ≤ k) : cutD ds none (some k) = ds.take k.toNat := by
  unfold cutD
  rw [sIx_in h]
  show (ds.drop 0).take (min k.toNat ds.length - 0) = _
  rw [List.drop_zero, Nat.sub_zero, ← List.take_eq_take_min]
theorem cut_from {ds : List D} {k : Int} (h : 0 ≤ k) : cutD ds (some k) none = ds.drop k.toNat := by
  unfold cutD
  rw [sIx_in h]
  show (ds.drop (min k.toNat ds.length)).take (ds.length - min k.toNat ds.length) = _
  by_cases hl : k.toNat ≤ ds.length
  · rw [Nat.min_eq_left hl, List.take_of_length_le (by simp)]
  · rw [Nat.min_eq_right (by omega), List.drop_of_length_le (Nat.le_refl _), List.drop_of_length_le (by omega), List.take_nil]
theorem cut_all {ds : List D} : cutD ds none none = ds := by
  unfold cutD
  show (ds.drop 0).take (ds.length - 0) = ds
  simp
theorem cut_mid {ds : List D} {k j : Int} (h : 0 ≤ k) (h' : 0 ≤ j) : cutD ds (some k) (some j) = (ds.drop k.toNat).take (j.toNat - k.toNat) := by
  unfold cutD
  rw [sIx_in h, sIx_in h']
  by_cases hl : k.toNat ≤ ds.length
  · rw [Nat.min_eq_left hl]
    by_cases hj : j.toNat ≤ ds.length
    · rw [Nat.min_eq_left hj]
    · rw [Nat.min_eq_right (by omega), List.take_of_length_le (by simp), List.take_of_length_le (by simp; omega)]
  · rw [Nat.min_eq_right (show ds.length ≤ k.toNat by omega), List.drop_of_length_le (Nat.le_refl _), List.drop_of_length_le (by omega), List.take_nil, List.take_nil]
theorem w_cat {mm : Bool} {xs ys : List D} (hl : xs.length + ys.length ≤ sizeLine) (h : WE (mkL mm (xs ++ ys) S) Q) : WE (opAdd mm (.lst xs) (.lst ys) S) Q := by
  unfold opAdd
  exact w_gd hl h
end
end DL
/-! DL, part 11: loops, membership, lists. -/
namespace DL
open PySem L2
section
variable {σ : Sg} {S S' : Store} {α β : Type} {N B C : Sg → Store → Prop} {R : D → Store → Prop} {Q : D → Store → Prop} {QB : Bool → Store → Prop} {QL : List D → Store → Prop}
/-- while, by what holds before each test; n: a bound of what is left -/
theorem w_whileN {c : EvB} {body : EvS} (P : Nat → Sg → Store → Prop) (hs : ∀ n σ S, P n σ S → WE (c σ S) fun b S1 => (b = true → ∃ m, m < n ∧ WS (body σ S1) (P m) N (P m) R) ∧ (b = false → N σ S1)) : ∀ F n σ S, n < F → P n σ S → WS (whileN c body F σ S) N B C R
  | 0, n, _, _, h, _ => absurd h (Nat.not_lt_zero _)
  | F + 1, n, σ, S, h, hp => by
    unfold whileN
    refine w_stm ((hs n σ S hp).mono fun b S1 q => ?_)
    cases b with
    | false => exact q.2 rfl
    | true =>
      obtain ⟨m, hm, w⟩ := q.1 rfl
      show WS (match body σ S1 with
        | .nx σ2 S2 => whileN c body F σ2 S2
        | .ct σ2 S2 => whileN c body F σ2 S2
        | .bk σ2 S2 => .nx σ2 S2
        | o => o) N B C R
      cases e2 : body σ S1 with
      | nx σ2 S2 => rw [e2] at w; exact w_whileN P hs F m σ2 S2 (by omega) w
      | ct σ2 S2 => rw [e2] at w; exact w_whileN P hs F m σ2 S2 (by omega) w
      | bk σ2 S2 => rw [e2] at w; exact w
      | ret d' S2 => rw [e2] at w; exact w
      | exc C d' σ2 S2 => rw [e2] at w; exact w
      | stuck => rw [e2] at w; exact w
theorem w_while {c : EvB} {body : EvS} {F : Nat} (P : Nat → Sg → Store → Prop) (n : Nat) (hn : n < F) (h0 : P n σ S) (hs : ∀ n σ S, P n σ S → WE (c σ S) fun b S1 => (b = true → ∃ m, m < n ∧ WS (body σ S1) (P m) N (P m) R) ∧ (b = false → N σ S1)) : WS (evWhile (fun _ _ => F) c body σ S) N B C R :=
  w_whileN P hs F n σ S hn h0
/-- a loop over whole numbers that folds -/
theorem w_foldI {i : Nat} {body : EvS} (f : β → Int → β) (P : β → Sg → Store → Prop) : ∀ (xs : List Int) (b : β) (σ : Sg) (S : Store), P b σ S → (∀ b x σ S, x ∈ xs → P b σ S → WS (body (σ.set i (some (.int x))) S) (P (f b x)) N (P (f b x)) R) → (∀ σ S, P (xs.foldl f b) σ S → N σ S) → WS (loopD (gtName i) body (xs.map D.int) σ S) N B C R
  | [], b, σ, S, h0, _, hd => hd σ S h0
  | x :: xs, b, σ, S, h0, hs, hd => by
    have w := hs b x σ S (List.mem_cons_self ..) h0
    have again : ∀ σ2 S2, P (f b x) σ2 S2 → WS (loopD (gtName i) body (xs.map D.int) σ2 S2) N B C R := fun σ2 S2 h2 => w_foldI f P xs (f b x) σ2 S2 h2 (fun b y σ S hy hp => hs b y σ S (List.mem_cons_of_mem _ hy) hp) hd
    show WS (match body (σ.set i (some (.int x))) S with
      | .nx σ2 S2 => loopD (gtName i) body (xs.map D.int) σ2 S2
      | .ct σ2 S2 => loopD (gtName i) body (xs.map D.int) σ2 S2
      | .bk σ2 S2 => .nx σ2 S2
      | o => o) N B C R
    cases e2 : body (σ.set i (some (.int x))) S with
    | nx σ2 S2 => rw [e2] at w; exact again σ2 S2 w
    | ct σ2 S2 => rw [e2] at w; exact again σ2 S2 w
    | bk σ2 S2 =>
      rw [e2] at w
      exact w
    | ret d' S2 => rw [e2] at w; exact w
    | exc C d' σ2 S2 => rw [e2] at w; exact w
    | stuck => rw [e2] at w; exact w
theorem flats_ints : ∀ xs : List Int, flats (xs.map D.int) = some (xs.map V.int)
  | [] => rfl
  | x :: xs => by
    have := flats_ints xs
    simp [flats, flat, this]
theorem inV_ints (i : Int) : ∀ xs : List Int, inV (.int i) (xs.map V.int) = decide (i ∈ xs)
  | [] => by simp [inV]
  | x :: xs => by
    have := inV_ints i xs
    unfold inV at this ⊢
    rw [List.map_cons, List.any_cons, this]
    by_cases e : x = i
    · subst e; simp [eqV]
    · have e' : ¬ i = x := fun h => e h.symm
      simp [eqV, e, e']
/-- a whole number in a sequence of such -/
theorem w_inI {neg : Bool} {i : Int} {b : D} {xs : List Int} (e : asSeq b S = some (xs.map D.int)) (h : Q (.bl (if neg then !decide (i ∈ xs) else decide (i ∈ xs))) S) : WE (opIn neg (.int i) b S) Q := by
  unfold opIn
  rw [e]
  show WE (match (some (V.int i)), (some (xs.map D.int)).bind flats with
    | some x, some ys => .ok (.bl (if neg then !inV x ys else inV x ys)) S
    | _, _ => .stuck) Q
  rw [Option.bind_some, flats_ints]
  show Q (.bl (if neg then !inV (.int i) (xs.map V.int) else inV (.int i) (xs.map V.int))) S
  rw [inV_ints]
  exact h
theorem w_inI0 {i : Int} {b : D} (xs : List Int) (e : asSeq b S = some (xs.map D.int)) (h : Q (.bl (decide (i ∈ xs))) S) : WE (opIn false (.int i) b S) Q := w_inI e h
theorem w_inI1 {i : Int} {b : D} (xs : List Int) (e : asSeq b S = some (xs.map D.int)) (h : Q (.bl (!decide (i ∈ xs))) S) : WE (opIn true (.int i) b S) Q := w_inI e h
theorem w_powC {i j v : Int} (c : CPow i j) (e : i ^ j.toNat = v) (h : Q (.int v) S) : WE (opPow (.int i) (.int j) S) Q := by rw [← e] at h; exact w_gd c h
theorem w_list {mm : Bool} {d : D} {ds : List D} (e : asSeq d S = some ds) (h : WE (mkL mm ds S) Q) : WE (opList mm [d] S) Q := by
  unfold opList
  simp only [e]
  exact h
theorem ex_putL {n : Nat} {ds : List D} {i : Int} {y : D} {P : Store → Prop} (h : S[n]? = some (.lst ds)) (h0 : 0 ≤ i) (h1 : i < ds.length) (q : P (S.set n (.lst (ds.set i.toNat y)))) : ∃ S4, storeAt (.ref n) (.int i) y S = some S4 ∧ P S4 := by
  refine ⟨_, ?_, q⟩
  unfold storeAt ixN
  simp [h, h0, h1]
/-- a place of a stored list -/
theorem w_ixL {n : Nat} {ds : List D} {i : Int} {y : D} (h : S[n]? = some (.lst ds)) (hi : atI ds i = some y) (q : Q y S) : WE (opIx (.ref n) (.int i) S) Q := w_ix (asSeq_ref h) hi q
theorem set_get {n : Nat} {x : SO} (h : S[n]? = some x) : S.set n x = S := by
  apply List.ext_getElem?
  intro i
  by_cases e : n = i
  · subst e
    rw [List.getElem?_set_self (List.getElem?_eq_some_iff.mp h).1, h]
  · rw [List.getElem?_set_ne e]
/-- targets, one by one -/
theorem ex_tup {gs : List EvT} {ds : List D} {P : Sg → Store → Prop} (hl : ds.length = gs.length) (h : ∃ σ' S', runTs gs ds σ S = some (σ', S') ∧ P σ' S') : ∃ σ' S', gtTup gs (.tup ds) σ S = some (σ', S') ∧ P σ' S' := by
  unfold gtTup
  simp only [hl, if_true]
  exact h
theorem ex_tnil {P : Sg → Store → Prop} (h : P σ S) : ∃ σ' S', runTs [] [] σ S = some (σ', S') ∧ P σ' S' := ⟨_, _, rfl, h⟩
theorem ex_tname {i : Nat} {d : D} {ds : List D} {gs : List EvT} {P : Sg → Store → Prop} (h : ∃ σ' S', runTs gs ds (σ.set i (some d)) S = some (σ', S') ∧ P σ' S') : ∃ σ' S', runTs (gtName i :: gs) (d :: ds) σ S = some (σ', S') ∧ P σ' S' := h
theorem ex_gsub {f g : EvE} {y : D} {P : Sg → Store → Prop} (h : WE (f σ S) fun d S1 => WE (g σ S1) fun k S2 => ∃ S3, storeAt d k y S2 = some S3 ∧ P σ S3) : ∃ σ' S', gtSub f g y σ S = some (σ', S') ∧ P σ' S' := by
  obtain ⟨d, S1, e1, q1⟩ := h.ex
  obtain ⟨k, S2, e2, S3, e3, q⟩ := q1.ex
  refine ⟨σ, S3, ?_, q⟩
  unfold gtSub
  rw [e1]
  show (match g σ S1 with
    | .ok k S2 => (storeAt d k y S2).map fun S' => (σ, S')
    | _ => none) = _
  rw [e2]
  show (storeAt d k y S2).map (fun S' => (σ, S')) = _
  rw [e3]
  rfl
theorem ex_tsub {f g : EvE} {y : D} {ds : List D} {gs : List EvT} {P : Sg → Store → Prop} (h : WE (f σ S) fun d S1 => WE (g σ S1) fun k S2 => ∃ S3, storeAt d k y S2 = some S3 ∧ ∃ σ' S', runTs gs ds σ S3 = some (σ', S') ∧ P σ' S') : ∃ σ' S', runTs (gtSub f g :: gs) (y :: ds) σ S = some (σ', S') ∧ P σ' S' := by
  obtain ⟨σ1, S1, e, σ2, S2, e2, q⟩ := ex_gsub (P := fun σ S3 => ∃ σ' S', runTs gs ds σ S3 = some (σ', S') ∧ P σ' S') h
  refine ⟨σ2, S2, ?_, q⟩
  unfold runTs
  rw [e]
  exact e2
theorem w_eqIN0 {i : Int} (h : Q (.bl false) S) : WE (opEqF false (.int i) .non S) Q := h
theorem w_eqIN1 {i : Int} (h : Q (.bl true) S) : WE (opEqF true (.int i) .non S) Q := h
theorem w_eqNI0 {i : Int} (h : Q (.bl false) S) : WE (opEqF false .non (.int i) S) Q := h
theorem w_eqNI1 {i : Int} (h : Q (.bl true) S) : WE (opEqF true .non (.int i) S) Q := h
/-- all but the first object are as they were -/
structure Nx1 (S S' : Store) : Prop where
  eq : ∀ m : Nat, 1 ≤ m → S'[m]? = S[m]?
  len : S'.length = S.length
theorem st_nx1 {n : Nat} {y : SO} (h : Nx1 S S') (hn : 1 ≤ n) (e : S[n]? = some y) : S'[n]? = some y := (h.eq n hn).trans e
end
/-- a number's last octets, the high one first -/
def be : Nat → Int → List Int
  | 0, _ => []
  | k + 1, n => be k (n / 256) ++ [n % 256]
theorem be_top : ∀ (k : Nat) (n : Int), be (k + 1) n = (n / 256 ^ k % 256) :: be k n
  | 0, n => by simp [be]
  | k + 1, n => by
    rw [be, be_top k (n / 256), List.cons_append]
    congr 1
    rw [Int.ediv_ediv_of_nonneg (by omega), Int.pow_succ, Int.mul_comm]
theorem be_length : ∀ (k : Nat) (n : Int), (be k n).length = k
  | 0, _ => rfl
  | k + 1, n => by rw [be, List.length_append, be_length k]; rfl
theorem be_in : ∀ (k : Nat) (n : Int) (x : Int), x ∈ be k n → 0 ≤ x ∧ x < 256
  | 0, _, _, h => by cases h
  | k + 1, n, x, h => by
    rw [be] at h
    rcases List.mem_append.mp h with h | h
    · exact be_in k _ x h
    · rw [List.mem_singleton.mp h]; omega
/-- a number's octets, without leading noughts -/
def octs (n : Int) (acc : List Int) : List Int := if 0 < n then octs (n / 256) (n % 256 :: acc) else acc
termination_by n.toNat
decreasing_by omega
theorem octs_pos {n : Int} {acc : List Int} (h : 0 < n) : octs n acc = octs (n / 256) (n % 256 :: acc) := by rw [octs, if_pos h]
theorem octs_not {n : Int} {acc : List Int} (h : ¬ 0 < n) : octs n acc = acc := by rw [octs, if_neg h]
end DL
/-! DL, part 12: sorted. -/
namespace DL
open PySem PySem.Spec PyProof.Rows L2
/-- two lists of the same things in the same order are the same -/
theorem perm_eq {α : Type} {le : α → α → Prop} (anti : ∀ a b, le a b → le b a → a = b) : ∀ {l m : List α}, l.Perm m → l.Pairwise le → m.Pairwise le → l = m
  | [], m, p, _, _ => (List.nil_perm.mp p).symm ▸ rfl
  | a :: l, [], p, _, _ => absurd p.length_eq (by simp)
  | a :: l, b :: m, p, h1, h2 => by
    have hab : a = b := by
      have ha : a ∈ b :: m := p.mem_iff.mp (List.mem_cons_self ..)
      have hb : b ∈ a :: l := p.mem_iff.mpr (List.mem_cons_self ..)
      rcases List.mem_cons.mp ha with e | ha
      · exact e
      · rcases List.mem_cons.mp hb with e | hb
        · exact e.symm
        · exact anti _ _ ((List.pairwise_cons.mp h1).1 _ hb) ((List.pairwise_cons.mp h2).1 _ ha)
    subst hab
    rw [perm_eq anti p.cons_inv (List.pairwise_cons.mp h1).2 (List.pairwise_cons.mp h2).2]
def insI (n : Int) : List Int → List Int
  | [] => [n]
  | m :: ms => if n ≤ m then n :: m :: ms else m :: insI n ms
def srtI : List Int → List Int
  | [] => []
  | n :: ns => insI n (srtI ns)
theorem insI_perm (n : Int) : ∀ ms, (insI n ms).Perm (n :: ms)
  | [] => List.Perm.refl _
  | m :: ms => by
    unfold insI
    split
    · exact List.Perm.refl _
    · exact ((insI_perm n ms).cons m).trans (List.Perm.swap n m ms)
theorem srtI_perm : ∀ ms, (srtI ms).Perm ms
  | [] => List.Perm.refl _
  | m :: ms => (insI_perm m _).trans ((srtI_perm ms).cons m)
theorem insI_srt (n : Int) : ∀ {ms : List Int}, ms.Pairwise (· ≤ ·) → (insI n ms).Pairwise (· ≤ ·)
  | [], _ => List.pairwise_singleton _ _
  | m :: ms, h => by
    have h' := List.pairwise_cons.mp h
    unfold insI
    split
    · rename_i c
      refine List.pairwise_cons.mpr ⟨fun x hx => ?_, h⟩
      rcases List.mem_cons.mp hx with e | hx
      · omega
      · have := h'.1 x hx
        omega
    · rename_i c
      refine List.pairwise_cons.mpr ⟨fun x hx => ?_, insI_srt n h'.2⟩
      rcases List.mem_cons.mp ((insI_perm n ms).mem_iff.mp hx) with e | hx
      · omega
      · exact h'.1 x hx
theorem srtI_srt : ∀ ms : List Int, (srtI ms).Pairwise (· ≤ ·)
  | [] => List.Pairwise.nil
  | m :: ms => insI_srt m (srtI_srt ms)
theorem srtI_eq {ns ms : List Int} (p : ms.Perm ns) (h : ms.Pairwise (· ≤ ·)) : ms = srtI ns :=
  perm_eq (fun a b h1 h2 => by omega) (p.trans (srtI_perm ns).symm) h (srtI_srt ns)
/-! pairs -/
def leP (p q : Int × Int) : Prop := ¬ (q.1 < p.1 ∨ (q.1 = p.1 ∧ q.2 < p.2))
instance (p q : Int × Int) : Decidable (leP p q) := by unfold leP; exact inferInstance
def insP (n : Int × Int) : List (Int × Int) → List (Int × Int)
  | [] => [n]
  | m :: ms => if leP n m then n :: m :: ms else m :: insP n ms
def srtP : List (Int × Int) → List (Int × Int)
  | [] => []
  | n :: ns => insP n (srtP ns)
theorem insP_perm (n : Int × Int) : ∀ ms, (insP n ms).Perm (n :: ms)
  | [] => List.Perm.refl _
  | m :: ms => by
    unfold insP
    split
    · exact List.Perm.refl _
    · exact ((insP_perm n ms).cons m).trans (List.Perm.swap n m ms)
theorem srtP_perm : ∀ ms, (srtP ms).Perm ms
  | [] => List.Perm.refl _
  | m :: ms => (insP_perm m _).trans ((srtP_perm ms).cons m)
theorem leP_trans {p q r : Int × Int} (h1 : leP p q) (h2 : leP q r) : leP p r := by
  unfold leP at *
  omega
theorem insP_srt (n : Int × Int) : ∀ {ms : List (Int × Int)}, ms.Pairwise leP → (insP n ms).Pairwise leP
  | [], _ => List.pairwise_singleton _ _
  | m :: ms, h => by
    have h' := List.pairwise_cons.mp h
    unfold insP
    split
    · rename_i c
      refine List.pairwise_cons.mpr ⟨fun x hx => ?_, h⟩
      rcases List.mem_cons.mp hx with e | hx
      · rw [e]; exact c
      · exact leP_trans c (h'.1 x hx)
    · rename_i c
      refine List.pairwise_cons.mpr ⟨fun x hx => ?_, insP_srt n h'.2⟩
      rcases List.mem_cons.mp ((insP_perm n ms).mem_iff.mp hx) with e | hx
      · rw [e]
        unfold leP at *
        omega
      · exact h'.1 x hx
theorem srtP_srt : ∀ ms : List (Int × Int), (srtP ms).Pairwise leP
  | [] => List.Pairwise.nil
  | m :: ms => insP_srt m (srtP_srt ms)
theorem srtP_eq {ns ms : List (Int × Int)} (p : ms.Perm ns) (h : ms.Pairwise leP) : ms = srtP ns :=
  perm_eq (fun a b h1 h2 => by
    obtain ⟨a1, a2⟩ := a
    obtain ⟨b1, b2⟩ := b
    unfold leP at *
    simp only at h1 h2
    have e1 : a1 = b1 := by omega
    have e2 : a2 = b2 := by omega
    rw [e1, e2]) (p.trans (srtP_perm ns).symm) h (srtP_srt ns)
/-! sorted, as an operation -/
def pD (p : Int × Int) : D := .tup [.int p.1, .int p.2]
def prsD : List D → Option (List (Int × Int))
  | [] => some []
  | .tup [.int i, .int j] :: ds => (prsD ds).map ((i, j) :: ·)
  | _ :: _ => none
def opSorted (mm : Bool) (ds : List D) (S : Store) : Out D := match ds with
  | [d] => match asL d S with
    | none => .stuck
    | some xs => match intsD xs with
      | some ns => mkL mm ((srtI ns).map D.int) S
      | none => match prsD xs with
        | some ps => mkL mm ((srtP ps).map pD) S
        | none => .stuck
  | _ => .stuck
section
variable {K : PySem.W.Frag} {F : Hp} {fs : List Addr}
theorem ints_repD : ∀ ns : List Int, RepL K F fs (ns.map D.int) (ns.map V.int)
  | [] => RepL.nil
  | n :: ns => RepL.cons int_rep (ints_repD ns)
/-- which pair it is -/
def pK (H : Hp) : V → Int × Int
  | .ref t => match H t with
    | some (.tup [.int i, .int j]) => (i, j)
    | _ => (0, 0)
  | _ => (0, 0)
theorem prs_rep {H : Hp} (le : ∀ a o, F a = some o → H a = some o) : ∀ {ds : List D} {xs : List V} {ps : List (Int × Int)}, RepL K F fs ds xs → prsD ds = some ps → xs.map (pK H) = ps ∧ ∀ x ∈ xs, (∃ t, x = V.ref t ∧ H t = some (.tup [.int (pK H x).1, .int (pK H x).2])) ∧ Rep K F fs (pD (pK H x)) x
  | [], _, ps, r, e => by
    rw [RepL] at r; subst r
    cases (show some [] = some ps from e)
    exact ⟨rfl, fun x hx => by cases hx⟩
  | d :: ds, _, ps, r, e => by
    rw [RepL] at r; obtain ⟨x, xr, rfl, h1, h2⟩ := r
    unfold prsD at e
    split at e
    · rename_i h0
      cases h0
    · rename_i i j ds' e0
      cases e0
      cases e1 : prsD ds with
      | none => rw [e1] at e; cases e
      | some ps' =>
        rw [e1] at e
        cases (show some ((i, j) :: ps') = some ps from e)
        obtain ⟨g1, g2⟩ := prs_rep le h2 e1
        have h1' := h1
        rw [Rep] at h1; obtain ⟨a, us, k1, k2, k3⟩ := h1
        rw [RepL] at k3; obtain ⟨y, yr, rfl, k4, k5⟩ := k3
        rw [RepL] at k5; obtain ⟨z, zr, rfl, k6, k7⟩ := k5
        rw [RepL] at k7; subst k7
        obtain rfl := rep_int k4
        obtain rfl := rep_int k6
        subst k1
        have ek : pK H (.ref a) = (i, j) := by
          show (match H a with
            | some (.tup [.int i, .int j]) => (i, j)
            | _ => (0, 0)) = _
          rw [le _ _ k2]
        refine ⟨by rw [List.map_cons, ek, g1], fun x hx => ?_⟩
        rcases List.mem_cons.mp hx with e | hx
        · subst e
          rw [ek]
          exact ⟨⟨a, rfl, le _ _ k2⟩, h1'⟩
        · exact g2 x hx
    · cases e
theorem reps_of {H : Hp} : ∀ {ys : List V}, (∀ y ∈ ys, Rep K F fs (pD (pK H y)) y) → RepL K F fs ((ys.map (pK H)).map pD) ys
  | [], _ => RepL.nil
  | y :: ys, h => RepL.cons (h y (List.mem_cons_self ..)) (reps_of fun z hz => h z (List.mem_cons_of_mem _ hz))
end
def rSortedA (K : PySem.W.Frag) : List V → Hp → VK → Prop := fun xs H Q => rSortedI K xs H Q ∨ rSortedPO K xs H Q
theorem call_sortedA {X : Cx} : CallR X (.builtin "sorted") (rSortedA X.K) := cr_sortedI.or cr_sortedPO
theorem ol_sorted {K : PySem.W.Frag} {mm : Bool} : OpL K (rSortedA K) (opSorted mm) := ⟨fun Ex fs F S H ds vs Q m r0 p => by
  unfold opSorted at p
  split at p
  · obtain ⟨v, rfl, r⟩ := repL1 r0
    rename_i d
    cases e1 : asL d S with
    | none => rw [e1] at p; exact False.elim p
    | some xs =>
      simp only [e1] at p
      obtain ⟨a, us, h1, h2, h3⟩ := asL_ok m r e1
      cases e2 : intsD xs with
      | some ns =>
        simp only [e2] at p
        refine .inl ⟨a, ns, by rw [h1], ?_, fun ns' l hp hs hl => ?_⟩
        · rw [← intsD_ok h3 e2]
          exact SqL.of h2
        · rw [srtI_eq hp hs]
          exact fresh_lst m p (ints_repD _) hl
      | none =>
        simp only [e2] at p
        cases e3 : prsD xs with
        | none => rw [e3] at p; exact False.elim p
        | some ps =>
          simp only [e3] at p
          obtain ⟨g1, g2⟩ := prs_rep m.le h3 e3
          refine .inr ⟨a, us, pK H, by rw [h1], SqL.of h2, fun x hx => (g2 x hx).1, fun ys l hs hb hl => ?_⟩
          have ey : ys.map (pK H) = srtP ps := srtP_eq (by rw [← g1]; exact hb.perm.map _) (List.pairwise_map.mpr (hs.imp fun {x y} h => SrtO.lexB_no.mp h))
          refine fresh_lst m p ?_ hl
          rw [← ey]
          exact reps_of fun y hy => (g2 y (hb.perm.mem_iff.mp hy)).2
  · exact False.elim p⟩
section
variable {S : Store} {Q : D → Store → Prop}
theorem prsD_map : ∀ ps : List (Int × Int), prsD (ps.map pD) = some ps
  | [] => rfl
  | p :: ps => by
    show (prsD (ps.map pD)).map ((p.1, p.2) :: ·) = _
    rw [prsD_map ps]
    rfl
theorem w_sortI {mm : Bool} {d : D} {ns : List Int} (e : asL d S = some (ns.map D.int)) (h : WE (mkL mm ((srtI ns).map D.int) S) Q) : WE (opSorted mm [d] S) Q := by
  unfold opSorted
  simp only [e, intsD_map]
  exact h
theorem w_sortP {mm : Bool} {d : D} {ps : List (Int × Int)} (e : asL d S = some (ps.map pD)) (h : WE (mkL mm ((srtP ps).map pD) S) Q) : WE (opSorted mm [d] S) Q := by
  unfold opSorted
  cases ps with
  | nil =>
    have e' : asL d S = some [] := e
    simp only [e', intsD]
    exact h
  | cons p ps =>
    have e2 : intsD ((p :: ps).map pD) = none := rfl
    simp only [e, e2, prsD_map]
    exact h
end
end DL
/-! DL, part 13: list(range(..)). -/
namespace DL
open PySem L2
section
variable {X : Cx} {W : WX} {e a b : Expr} {f g : EvE} {pos p p' q : Pos}
theorem rg_rep {K : PySem.W.Frag} {F : Hp} {fs : List Addr} : ∀ (n : Nat) (lo : Int), RepL K F fs (rangeD lo n) ((List.range n).map fun i => V.int (lo + (i : Nat)))
  | 0, _ => RepL.nil
  | n + 1, lo => by
    rw [List.range_succ_eq_map, List.map_cons, List.map_map]
    refine RepL.cons (by rw [Rep]; simp) ?_
    have h := rg_rep (K := K) (F := F) (fs := fs) n (lo + 1)
    have e : ((fun i : Nat => V.int (lo + (i : Int))) ∘ Nat.succ) = fun i : Nat => V.int (lo + 1 + (i : Int)) := by
      funext i
      show V.int (lo + ((i + 1 : Nat) : Int)) = _
      congr 1
      omega
    rw [e]
    exact h
def evListR2 (mm : Bool) (f g : EvE) : EvE := fun σ S => (f σ S).bind fun x S1 => (g σ S1).bind fun y S2 => match x, y with
  | .int i, .int j => gd (-(2 ^ 62) ≤ i ∧ i < 2 ^ 62 ∧ -(2 ^ 62) ≤ j ∧ j < 2 ^ 62 ∧ (j - i).toNat ≤ 2 ^ 24) (mkL mm (rangeD i (j - i).toNat) S2)
  | _, _ => .stuck
theorem je_listR2 (mm : Bool) (hc : X.calm = true) (hl : Gl X "list") (hml : X.mg "list" = none) (hr : Gl X "range") (hmr : X.mg "range" = none) (ha : JE X W a f) (hb : JE X W b g)
    (na : starEach [a, b] X.env = (false, eval a X.env) :: starEach [b] X.env := by rfl) (nb : starEach [b] X.env = (false, eval b X.env) :: starEach [] X.env := by rfl) (hp : (backTo p' (starEach [b] X.env)).any (·.1) = false := by rfl)
    (ne : starEach [.Call (.Name "range" p) [a, b] [] p'] X.env = (false, eval (.Call (.Name "range" p) [a, b] [] p') X.env) :: starEach [] X.env := by rfl) :
    JE X W (.Call (.Name "list" q) [.Call (.Name "range" p) [a, b] [] p'] [] pos) (evListR2 mm f g) :=
  PE.imp (pe_listRg hc hl hml (prg_2 hr hmr ha hb na nb hp) ne) fun σv H Q ⟨fs, F, σ, S, rs, m, q⟩ => tG.bind rs m q fun x S1 fs1 F1 H1 v rs1 m1 g1 r1 p1 => tG.bind rs1 m1 p1 fun y S2 fs2 F2 H2 u rs2 m2 g2 r2 p2 => by
    cases x with
    | int i =>
      cases y with
      | int j =>
        obtain rfl := rep_int (r1)
        obtain rfl := rep_int r2
        simp only at p2
        obtain ⟨c, p2⟩ := p2.gd
        exact ⟨i, j, rfl, rfl, c, fun l hl => fresh_lst m2 p2 (rg_rep _ _) hl⟩
      | _ => exact False.elim p2
    | _ => exact False.elim p2
def evListR1 (mm : Bool) (f : EvE) : EvE := fun σ S => (f σ S).bind fun y S2 => match y with
  | .int j => gd (-(2 ^ 62) ≤ (0 : Int) ∧ (0 : Int) < 2 ^ 62 ∧ -(2 ^ 62) ≤ j ∧ j < 2 ^ 62 ∧ (j - 0).toNat ≤ 2 ^ 24) (mkL mm (rangeD 0 (j - 0).toNat) S2)
  | _ => .stuck
theorem je_listR1 (mm : Bool) (hc : X.calm = true) (hl : Gl X "list") (hml : X.mg "list" = none) (hr : Gl X "range") (hmr : X.mg "range" = none) (ha : JE X W a f)
    (na : starEach [a] X.env = (false, eval a X.env) :: starEach [] X.env := by rfl)
    (ne : starEach [.Call (.Name "range" p) [a] [] p'] X.env = (false, eval (.Call (.Name "range" p) [a] [] p') X.env) :: starEach [] X.env := by rfl) :
    JE X W (.Call (.Name "list" q) [.Call (.Name "range" p) [a] [] p'] [] pos) (evListR1 mm f) :=
  PE.imp (pe_listRg hc hl hml (prg_1 hr hmr ha na) ne) fun σv H Q ⟨fs, F, σ, S, rs, m, q⟩ => tG.bind rs m q fun x S1 fs1 F1 H1 v rs1 m1 g1 r1 p1 => by
    cases x with
    | int i =>
      obtain rfl := rep_int (r1)
      obtain ⟨c, p1⟩ := p1.gd
      exact ⟨i, rfl, c, fun l hl => fresh_lst m1 p1 (rg_rep _ _) hl⟩
    | _ => exact False.elim p1
end
section
variable {σ : Sg} {S : Store} {Q : D → Store → Prop}
theorem w_listR2 {mm : Bool} {f g : EvE} (h : WE (f σ S) fun x S1 => WE (g σ S1) fun y S2 => ∃ i j, x = .int i ∧ y = .int j ∧ (-(2 ^ 62) ≤ i ∧ i < 2 ^ 62 ∧ -(2 ^ 62) ≤ j ∧ j < 2 ^ 62 ∧ (j - i).toNat ≤ 2 ^ 24) ∧ WE (mkL mm (rangeD i (j - i).toNat) S2) Q) : WE (evListR2 mm f g σ S) Q :=
  w_bind (h.mono fun x S1 q => w_bind (q.mono fun y S2 ⟨i, j, e1, e2, c, q2⟩ => by rw [e1, e2]; exact w_gd c q2))
theorem w_listR1 {mm : Bool} {f : EvE} (h : WE (f σ S) fun y S2 => ∃ j, y = .int j ∧ (-(2 ^ 62) ≤ j ∧ j < 2 ^ 62 ∧ j.toNat ≤ 2 ^ 24) ∧ WE (mkL mm (rangeD 0 j.toNat) S2) Q) : WE (evListR1 mm f σ S) Q :=
  w_bind (h.mono fun y S2 ⟨j, e2, c, q⟩ => by
    subst e2
    exact w_gd ⟨by decide, by decide, c.1, c.2.1, by rw [Int.sub_zero]; exact c.2.2⟩ (by rw [Int.sub_zero]; exact q))
end
end DL
/-! DL, part 14: sorted(set(..)) of a list of ints. -/
namespace DL
open PySem PySem.Spec PyProof.Rows L2
section
variable {P : Program} {w : World} {A : Around} {E : Value → Shared → Prop} {s : Shared} {a : Addr}
theorem sortSet {St : Int → Bool} {n : Nat} {Q : Value → Shared → Prop} (R : SetR w s.heap a St n) (hh : A.handled = none) (hn : n ≤ 40000)
    (hQ : ∀ s' p (out : List Value) (c : Nat) (ns : List Int), (∀ b o, s.heap.get? b = some o → s'.heap.get? b = some o) → s'.gens = s.gens → s'.os = s.os → s.heap.objs.size ≤ p →
      s'.heap.get? p = some (seqObj "list" out.toArray c) → IntsAre out ns → ns.Pairwise (· ≤ ·) → ns.Nodup → (∀ k, k ∈ ns ↔ St k = true) → Q (.ref p) s') :
    wpAny (model P w) A (call (.builtin "sorted") [.ref a]) Q E s := by
  obtain ⟨o, es, ep, t, h1, h2, h3, h4, h5, h6, h7, h8, h9, h10, h11⟩ := R
  apply Calls.call_function_entry kind_sorted plain_sorted entry_sorted (args_sorted1 _)
  unfold Builtin.«sorted»
  apply wpAny_bind (m := checkCount "sorted" 1 1 _)
  apply wpAny_pure
  apply wpAny_bind
  apply collect_set (A := A.in1) hh ⟨o, h1, h2.1, h3⟩ h8 h7 h10 h11
  intro s1 vs k1 k2 k3 k4 k5
  have kl : vs.length = n := by
    have := k5.length_eq
    simp only [List.length_map, Array.length_toList] at this
    rw [this]; exact h9
  have kI : ∀ v ∈ vs, ∃ i t, v = Value.int i t := by
    intro v hv
    obtain ⟨e, he, rfl⟩ := List.mem_map.mp (k5.mem_iff.mp hv)
    obtain ⟨k, tk, q1, _⟩ := h4 e he
    exact ⟨k, tk, q1⟩
  have hsz : vs.length ≤ sizeLine := by rw [kl, sizeLine_eq]; omega
  apply wpAny_bind
  apply wpAny_newList _ hsz
  have ho := Heap.get?_push_size s1.heap (o := seqObj "list" vs.toArray 0) rfl
  apply wpAny_bind
  apply wpAny_holding
  have kJ := SrtO.ints_iv kI
  refine wpAny_call_entry slot_list_sort ⟨_, ho, rfl⟩ entry_list_sort ?_ (args_list_sort _)
  refine SrtO.list_sort_ord SrtO.swo_int ho hsz (fun h2 => SrtO.ints_sortable kJ h2) fun out q1 q2 => ⟨_, rfl, ?_⟩
  obtain ⟨m1, m2, m3⟩ := SrtO.ints_out kJ q1 q2
  obtain ⟨c, hc⟩ := sortedHeap_at (vs := vs) (out := out.toArray) ho
  have kp : (out.map SrtO.iv).Perm (es.toList.map keyOf) := by
    refine m2.trans ?_
    have := k5.map SrtO.iv
    rw [List.map_map] at this
    exact this
  refine wpAny_pure ⟨_, rfl, hQ _ _ out c _ (fun b u e => ?_) k3 k4 k2 hc m1 m3 ?_ fun k => ?_⟩
  · have g := k1 b u e
    have gl := Heap.lt_size g
    show (sortedHeap _ _ vs out.toArray).get? b = _
    rw [sortedHeap_old (Nat.ne_of_lt gl) (by
      rw [size_push']
      exact Nat.lt_succ_of_lt gl)]
    exact Heap.get?_push_of_some _ g
  · rw [kp.nodup_iff]
    exact h5
  · rw [kp.mem_iff]
    exact (h6 k).symm
/-- a new, empty set -/
abbrev set0 (w : World) : Obj := { cls := .type "set", dict := none, data := .set #[] 0 (.fresh 0 0 (!w.params.followText "set-order")) }
/-- what set(list of ints) leaves behind -/
abbrev Left (w : World) (s : Shared) (ns : List Int) (h' : Heap) : Prop :=
  (∃ c, SetR w h' s.heap.objs.size (fun j => decide (j ∈ ns)) c ∧ c ≤ ns.length) ∧ ∀ b o, s.heap.get? b = some o → h'.get? b = some o
theorem setOfL {l : Addr} {xs : Array Value} (ns : List Int) {Q : Value → Shared → Prop} (hh : A.handled = none) (hl : s.heap.IsList l xs) (hI : IntsAre xs.toList ns) (hz : ns.length + 1 < scanBound)
    (h : ∀ (h' : Heap) (tk : Nat), Left w s ns h' → Q (.ref s.heap.objs.size) { s with heap := h', toks := tk }) : wpAny (model P w) A (call (.type "set") [.ref l]) Q E s := by
  have en : xs.size = ns.length := by
    have := IntsAre.length hI
    rwa [Array.length_toList] at this
  obtain ⟨_, _, f0⟩ := F.called_set.mro
  have f1 := F.called_set.made
  have f2 := F.called_set.sub
  apply wpAny_call
  apply codeAny_of_tree
  show wpAny _ _ (callAny (.type "set") _) _ _ _
  apply wpAny_pure
  refine ⟨Code.quiet_builtin _ (by decide +kernel), ?_⟩
  apply codeAny_builtin F.entry_type_call
  rw [Around.under_plain (weight_type_call_type "set" [.ref l] []) rfl]
  have f3 := F.called_set.notType
  have f4 := F.called_set.canCreate
  have f5 := F.typeCall_set_1 (.ref l)
  repeat
    any_goals (first | assumption | wp_step)
  refine codeAny_mono (code_set_led1 (.ref l) (E := E) (Q₁ := fun v s1 => v = .ref s.heap.objs.size ∧ s1 = { s with heap := s.heap.push (set0 w) }) ⟨rfl, rfl⟩) fun r s1 hr => ?_
  cases r with
  | error e => exact hr
  | ok fl =>
    cases fl with
    | ret v =>
      obtain ⟨rfl, rfl⟩ := hr
      have hS : (s.heap.push (set0 w)).get? s.heap.objs.size = some (set0 w) := Heap.get?_push_size _ rfl
      have hT : Shared.TypeIs { s with heap := s.heap.push (set0 w) } (.ref s.heap.objs.size) "set" := ⟨_, hS, rfl⟩
      have f6 := F.called_set.init.lookup
      have f7 := F.called_set.init.bind (.ref s.heap.objs.size)
      repeat
        any_goals (first | assumption | wp_step)
      refine codeAny_mono (codeAny_call_builtin (R := wants (fun r s2 => r = .none ∧ ∃ h' tk, s2 = { s with heap := h', toks := tk } ∧ Left w s ns h') E) F.called_set.init.plain F.entry_set_init (check_set_init_1 hT ?_)) fun r2 s2 hr2 => ?_
      · obtain ⟨ob, g1, g2, nl, g3⟩ := hl
        obtain ⟨oc, od, oa, oz⟩ := ob
        simp only at g2 g3
        subst g2
        subst g3
        have g4 : (s.heap.push (set0 w)).get? l = some { cls := .type "list", dict := od, data := .seq xs nl, slots := oz } := Heap.get?_push_of_some _ g1
        have g5 := F.sub_list_set
        have g6 := F.sub_list_frozenset
        have g7 : (Value.type "list" == Value.type "dict") = false := by
          decide
        have g8 : (s.heap.push (set0 w)).IsList l xs := ⟨_, g4, rfl, nl, rfl⟩
        unfold Builtin.«set.__init__» noKeywords Builtin.Frozenset.updateFrom
        generalize gI : pyIter = PI
        wp_walk
        subst gI
        apply wpAny_pyIter_list g8
        apply wpAny_bind
        apply wpAny_runValue
        have lS : l < s.heap.objs.size := Heap.lt_size g1
        have zS : (s.heap.push (set0 w)).objs.size = s.heap.objs.size + 1 := size_push' _ _
        have hd3 : A.in1.in1.in1.handled = none := by simp [hh]
        have lI : l ≠ (s.heap.push (set0 w)).objs.size := by
          rw [zS]
          intro z
          exact absurd (z ▸ lS) (Nat.not_lt.mpr (Nat.le_succ _))
        have nf : s.heap.objs.size ∉ [(s.heap.push (set0 w)).objs.size, l] := by
          rw [zS]
          intro z
          rcases List.mem_cons.mp z with z | z
          · exact absurd z (Nat.ne_of_lt (Nat.lt_succ_self _))
          · exact absurd (List.mem_singleton.mp z) (Nat.ne_of_gt lS)
        have vals : ∀ (i : Nat) (v : Value), xs[i]? = some v → ∃ k t, ns[i]? = some k ∧ v = .int k t := by
          intro i v q
          obtain ⟨hi, _⟩ := Array.getElem?_eq_some_iff.mp q
          rw [en] at hi
          obtain ⟨t, e⟩ := hI.get i ns[i] (List.getElem?_eq_getElem hi)
          rw [Array.getElem?_toList, q] at e
          cases e
          exact ⟨_, t, List.getElem?_eq_getElem hi, rfl⟩
        refine set_update_ints (Walks.list hd3 _ l lI xs).toS s.heap.objs.size nf ns en hz vals (xs.size - 0) 0 _ (by omega) (by omega) ⟨⟨_, Heap.get?_push_size _ rfl, rfl, rfl⟩, g8.push _⟩ ?s0 ?sR
        · exact ⟨0, Nat.le_refl 0, setR_new_at (Heap.get?_push_of_some _ hS)⟩
        · intro s9 c9 m9 l9 r9
          obtain ⟨h9, gn9, dr9, tk9, os9⟩ := s9
          have e1 : gn9 = s.gens := m9.gens
          have e2 : dr9 = s.drawn := m9.drawn
          have e3 : os9 = s.os := m9.os
          subst e1 e2 e3
          show wpAny _ _ _ _ _ _
          apply wpAny_pure
          show wpAny _ _ (ret Value.none) _ _ _
          apply wpAny_pure
          refine ⟨rfl, h9, tk9, rfl, ⟨c9, r9, by omega⟩, fun b o e => ?_⟩
          have lb := Heap.lt_size e
          refine m9.heap b o (fun z => ?_) (Heap.get?_push_of_some _ (Heap.get?_push_of_some _ e))
          rcases List.mem_cons.mp z with z | z
          · exact absurd z (Nat.ne_of_lt lb)
          · have z2 := List.mem_singleton.mp z
            rw [zS] at z2
            exact absurd z2 (Nat.ne_of_lt (Nat.lt_succ_of_lt lb))
      · cases r2 with
        | error e => exact hr2
        | ok fl2 =>
          cases fl2 with
          | ret r =>
            obtain ⟨rfl, h', tk, rfl, hL⟩ := hr2
            repeat
              any_goals (first | assumption | wp_step)
            exact h _ _ hL
          | _ => exact hr2.elim
    | _ => exact hr.elim
end
/-! sorted(set(e)) of a list of ints -/
/-- each once -/
def ddI : List Int → List Int
  | [] => []
  | n :: ns => if n ∈ ns then ddI ns else n :: ddI ns
theorem ddI_mem {k : Int} : ∀ {ns : List Int}, k ∈ ddI ns ↔ k ∈ ns
  | [] => Iff.rfl
  | n :: ns => by
    have ih := ddI_mem (k := k) (ns := ns)
    unfold ddI
    split
    · rename_i c
      rw [ih, List.mem_cons]
      exact ⟨.inr, fun h => h.elim (fun e => by rw [e]; exact c) id⟩
    · rw [List.mem_cons, List.mem_cons, ih]
theorem ddI_nd : ∀ ns : List Int, (ddI ns).Nodup
  | [] => List.nodup_nil
  | n :: ns => by
    unfold ddI
    split
    · exact ddI_nd ns
    · rename_i c
      exact List.nodup_cons.mpr ⟨fun h => c (ddI_mem.mp h), ddI_nd ns⟩
theorem ddI_len : ∀ ns : List Int, (ddI ns).length ≤ ns.length
  | [] => Nat.le_refl _
  | n :: ns => by
    have ih := ddI_len ns
    unfold ddI
    split
    · exact Nat.le_succ_of_le ih
    · exact Nat.succ_le_succ ih
def srtU (ns : List Int) : List Int := srtI (ddI ns)
theorem srtU_mem {k : Int} {ns : List Int} : k ∈ srtU ns ↔ k ∈ ns := (srtI_perm _).mem_iff.trans ddI_mem
theorem asc_of : ∀ {ns : List Int}, ns.Pairwise (· ≤ ·) → ns.Nodup → ns.Pairwise (· < ·)
  | [], _, _ => List.Pairwise.nil
  | n :: ns, h1, h2 => by
    have h1' := List.pairwise_cons.mp h1
    have h2' := List.nodup_cons.mp h2
    refine List.pairwise_cons.mpr ⟨fun x hx => ?_, asc_of h1'.2 h2'.2⟩
    have := h1'.1 x hx
    have : n ≠ x := fun e => h2'.1 (e ▸ hx)
    omega
theorem srtU_asc (ns : List Int) : (srtU ns).Pairwise (· < ·) := asc_of (srtI_srt _) ((srtI_perm _).nodup_iff.mpr (ddI_nd ns))
/-- ascending lists of the same things are the same -/
theorem asc_eq : ∀ {l m : List Int}, l.Pairwise (· < ·) → m.Pairwise (· < ·) → (∀ k, k ∈ l ↔ k ∈ m) → l = m
  | [], [], _, _, _ => rfl
  | [], b :: m, _, _, h => absurd ((h b).mpr (List.mem_cons_self ..)) (by simp)
  | a :: l, [], _, _, h => absurd ((h a).mp (List.mem_cons_self ..)) (by simp)
  | a :: l, b :: m, h1, h2, h => by
    have h1' := List.pairwise_cons.mp h1
    have h2' := List.pairwise_cons.mp h2
    have e : a = b := by
      rcases List.mem_cons.mp ((h a).mp (List.mem_cons_self ..)) with e | q
      · exact e
      · rcases List.mem_cons.mp ((h b).mpr (List.mem_cons_self ..)) with e | q2
        · exact e.symm
        · have := h1'.1 b q2
          have := h2'.1 a q
          omega
    subst e
    rw [asc_eq h1'.2 h2'.2 fun k => ⟨fun q => ?_, fun q => ?_⟩]
    · rcases List.mem_cons.mp ((h k).mp (List.mem_cons_of_mem _ q)) with e | q2
      · have := h1'.1 k q
        omega
      · exact q2
    · rcases List.mem_cons.mp ((h k).mpr (List.mem_cons_of_mem _ q)) with e | q2
      · have := h2'.1 k q
        omega
      · exact q2
theorem srtU_eq {ms ns : List Int} (h : ms.Pairwise (· < ·)) (m : ∀ k, k ∈ ms ↔ k ∈ ns) : ms = srtU ns :=
  asc_eq h (srtU_asc ns) fun k => (m k).trans srtU_mem.symm
section
variable {X : Cx}
def tSrtSet (K : PySem.W.Frag) (ta : TE) : TE := fun σ H Q => ta σ H fun x H1 => ∃ (l : Addr) (ns : List Int), x = V.ref l ∧ SqL K H1 l (ns.map V.int) ∧ ns.length ≤ 4000 ∧ ∀ p : Addr, H1 p = none → Q (.ref p) (upd H1 p (.lst ((srtU ns).map V.int)))
theorem pe_srtSet {a : Expr} {ta : TE} {p p2 q pos : Pos} (hc : X.calm = true) (hg : Gl X "sorted") (hm : X.mg "sorted" = none) (hg2 : Gl X "set") (hm2 : X.mg "set" = none) (ha : PE X a ta)
    (na : starEach [a] X.env = (false, eval a X.env) :: starEach [] X.env := by rfl) : PE X (.Call (.Name "sorted" p) [.Call (.Name "set" p2) [a] [] q] [] pos) (tSrtSet X.K ta) := by
  refine ⟨fun pins s σ H Q I h => ?_⟩
  refine Call_ ?_
  apply ld_blt I hg hm boot_sorted
  apply PyProof.Rows.callWith_builtin1 (PyProof.Rows.args_cons ?_ rfl) rfl rfl
  refine Call_ ?_
  apply ld_blt I hg2 hm2 PyProof.Rows.boot_set
  refine PyProof.Rows.callWith_type1 (PyProof.Rows.args_cons (thn (ha.run pins s σ H _ I h) fun v s1 hv => PyProof.Rows.args_nil ?_) na) na rfl
  obtain ⟨x, H1, I1, r1, l, ns, rfl, hq, hz, q1⟩ := hv
  cases r1
  obtain ⟨its, r, pl, _⟩ := I1.list hq
  refine setOfL ns (I1.ok.hd hc) pl.isList (by simpa using r.ints) (by unfold scanBound; omega) fun h' tk hL => ?_
  obtain ⟨⟨c, R, hcz⟩, hk⟩ := hL
  refine PyProof.Rows.args_nil ?_
  have I2 : Inv X pins σ H1 { s1 with heap := h', toks := tk } := I1.kept hk
  refine sortSet R (I2.ok.hd hc) (by omega) fun s3 p3 out c3 ms k3 g3 o3 z3 e3 i3 w3 n3 m3 => ?_
  have em : ms = srtU ns := srtU_eq (asc_of w3 n3) fun k => (m3 k).trans (by rw [decide_eq_true_eq])
  subst em
  have hln : (srtU ns).length ≤ 4000 := Nat.le_trans (by
    unfold srtU
    rw [(srtI_perm _).length_eq]
    exact ddI_len ns) hz
  have hlen : ((srtU ns).map V.int).length ≤ sizeLine := by
    rw [List.length_map, sizeLine_eq]
    omega
  have zz : s1.heap.objs.size ≤ p3 := by
    obtain ⟨o, _, _, _, ho, _⟩ := R
    exact Nat.le_trans (Nat.le_of_lt (Heap.lt_size ho)) z3
  have ka : ∀ b u, s1.heap.get? b = some u → s3.heap.get? b = some u := fun b u e => k3 b u (hk b u e)
  have hn : H1 p3 = none := I2.hok.fresh z3
  have J : Inv X pins σ (upd H1 p3 (.lst ((srtU ns).map V.int))) { s1 with heap := s3.heap, gens := s3.gens, drawn := s3.drawn, toks := s3.toks } :=
    I1.call (ch := []) (Un.laid ka zz hn) (I1.hok.laid ka zz ⟨hlen, out, c3, vals_of_ints i3, e3⟩) (by rw [g3]; exact I1.bare) (fun _ z => nomatch z)
  have e : s3 = { s1 with heap := s3.heap, gens := s3.gens, drawn := s3.drawn, toks := s3.toks } := by
    cases s3
    cases s1
    cases o3
    rfl
  rw [e]
  exact ⟨.ref p3, _, J, rfl, q1 p3 hn⟩
def evSrtSet (mm : Bool) (f : EvE) : EvE := fun σ S => (f σ S).bind fun x S1 => match asL x S1 with
  | none => .stuck
  | some xs => match intsD xs with
    | none => .stuck
    | some ns => gd (ns.length ≤ 4000) (mkL mm ((srtU ns).map D.int) S1)
variable {W : WX} {e a b : Expr} {f g : EvE} {pos p p' q : Pos}
theorem je_srtSet (mm : Bool) (hc : X.calm = true) (hl : Gl X "sorted") (hml : X.mg "sorted" = none) (hr : Gl X "set") (hmr : X.mg "set" = none) (ha : JE X W a f)
    (na : starEach [a] X.env = (false, eval a X.env) :: starEach [] X.env := by rfl) :
    JE X W (.Call (.Name "sorted" q) [.Call (.Name "set" p) [a] [] p'] [] pos) (evSrtSet mm f) :=
  PE.imp (pe_srtSet hc hl hml hr hmr ha na) fun σv H Q ⟨fs, F, σ, S, rs, m, q⟩ => tG.bind rs m q fun x S1 fs1 F1 H1 v rs1 m1 g1 r1 p1 => by
    cases e1 : asL x S1 with
    | none => rw [e1] at p1; exact False.elim p1
    | some xs =>
      simp only [e1] at p1
      cases e2 : intsD xs with
      | none => rw [e2] at p1; exact False.elim p1
      | some ns =>
        simp only [e2] at p1
        obtain ⟨c, p1⟩ := p1.gd
        obtain ⟨a, us, h1, h2, h3⟩ := asL_ok m1 r1 e1
        refine ⟨a, ns, h1, ?_, c, fun l hl => fresh_lst m1 p1 (ints_repD _) hl⟩
        rw [← intsD_ok h3 e2]
        exact SqL.of h2
end
section
variable {σ : Sg} {S : Store} {Q : D → Store → Prop}
theorem w_srtSet {mm : Bool} {f : EvE} (h : WE (f σ S) fun x S1 => ∃ ns, asL x S1 = some (ns.map D.int) ∧ ns.length ≤ 4000 ∧ WE (mkL mm ((srtU ns).map D.int) S1) Q) : WE (evSrtSet mm f σ S) Q :=
  w_bind (h.mono fun x S1 ⟨ns, e, c, q⟩ => by
    simp only [e, intsD_map]
    exact w_gd c q)
end
end DL
/-! DL, part 15: loops by what is done, comprehensions that map and choose, ends of lists. -/
namespace DL
open PySem L2
/-- what was there is there; there may be more -/
structure Gw (S S' : Store) : Prop where
  eq : ∀ m : Nat, m < S.length → S'[m]? = S[m]?
  len : S.length ≤ S'.length
theorem Gw.refl (S : Store) : Gw S S := ⟨fun _ _ => rfl, Nat.le_refl _⟩
theorem Gw.trans {S T U : Store} (h : Gw S T) (h' : Gw T U) : Gw S U := ⟨fun m hm => (h'.eq m (Nat.lt_of_lt_of_le hm h.len)).trans (h.eq m hm), Nat.le_trans h.len h'.len⟩
theorem Gw.app {S T : Store} (h : Gw S T) (x : SO) : Gw S (T ++ [x]) := ⟨fun m hm => by rw [List.getElem?_append_left (Nat.lt_of_lt_of_le hm h.len)]; exact h.eq m hm, by have := h.len; simp; omega⟩
theorem Gw.set {S T : Store} {n : Nat} {x : SO} (h : Gw S T) (hn : S.length ≤ n) : Gw S (T.set n x) := ⟨fun m hm => by rw [List.getElem?_set_ne (by omega)]; exact h.eq m hm, by have := h.len; simpa using this⟩
theorem Gw.get {S T : Store} {n : Nat} {y : SO} (h : Gw S T) (e : S[n]? = some y) : T[n]? = some y := (h.eq n (List.getElem?_eq_some_iff.mp e).1).trans e
section
variable {σ : Sg} {S S' : Store} {α β γ : Type} {N B C : Sg → Store → Prop} {R : D → Store → Prop} {Q : D → Store → Prop} {QB : Bool → Store → Prop} {QL : List D → Store → Prop}
/-- a loop, by what of its list is done -/
theorem w_pre {gt : EvT} {body : EvS} (emb : γ → D) (P : List γ → Sg → Store → Prop) {xs : List γ} (h0 : P [] σ S)
    (hs : ∀ pre x post σ S, xs = pre ++ x :: post → P pre σ S → ∃ σ1 S1, gt (emb x) σ S = some (σ1, S1) ∧ WS (body σ1 S1) (P (pre ++ [x])) N (P (pre ++ [x])) R) (hd : ∀ σ S, P xs σ S → N σ S) : WS (loopD gt body (xs.map emb) σ S) N B C R := by
  refine w_loop (fun i σ S => ∃ pre post, xs = pre ++ post ∧ pre.length = i ∧ P pre σ S) (xs.map emb) 0 σ S ⟨[], xs, rfl, rfl, h0⟩ (fun j d σ S hj hp => ?_) fun σ S hp => ?_
  · obtain ⟨pre, post, e1, e2, hp⟩ := hp
    rw [Nat.zero_add] at e2
    subst e1
    cases post with
    | nil =>
      rw [List.append_nil, List.getElem?_map] at hj
      rw [List.getElem?_eq_none (by omega)] at hj
      cases hj
    | cons x post =>
      rw [List.getElem?_map, List.getElem?_append_right (by omega), e2, Nat.sub_self] at hj
      cases hj
      obtain ⟨σ1, S1, e3, w⟩ := hs pre x post σ S rfl hp
      refine ⟨σ1, S1, e3, w.mono ?_ (fun _ _ h => h) ?_ fun _ _ h => h⟩
      · exact fun σ S h => ⟨pre ++ [x], post, by simp, by simp [e2], h⟩
      · exact fun σ S h => ⟨pre ++ [x], post, by simp, by simp [e2], h⟩
  · obtain ⟨pre, post, e1, e2, hp⟩ := hp
    subst e1
    rw [Nat.zero_add, List.length_map, List.length_append] at e2
    have : post = [] := List.length_eq_zero_iff.mp (by omega)
    subst this
    rw [List.append_nil] at hd
    exact hd σ S hp
/-- a comprehension that chooses and maps -/
theorem w_compF {gt : EvT} {tt : EvB} {te : EvE} {σ0 : Sg} (emb : γ → D) (p : γ → Bool) (g : γ → D) : ∀ (xs : List γ) (acc : List D), acc.length + xs.length ≤ sizeLine →
    (∀ x ∈ xs, ∃ σ1, gt (emb x) σ0 S = some (σ1, S) ∧ WE (tt σ1 S) (fun b S2 => b = p x ∧ S2 = S) ∧ (p x = true → WE (te σ1 S) fun y S3 => y = g x ∧ S3 = S)) →
    QL (acc ++ (xs.filter p).map g) S → WE (compD gt tt te σ0 (xs.map emb) acc S) QL
  | [], acc, _, _, h => by
    rw [List.filter_nil, List.map_nil, List.append_nil] at h
    exact h
  | x :: xs, acc, hl, hs, h => by
    rw [List.length_cons] at hl
    obtain ⟨σ1, e, w, w2⟩ := hs x (List.mem_cons_self ..)
    have hs' := fun y hy => hs y (List.mem_cons_of_mem _ hy)
    rw [List.map_cons]
    unfold compD
    rw [e]
    refine w_bind (w_calm (w.mono fun b S2 q => ?_))
    obtain ⟨q1, q2⟩ := q
    rw [q2]
    cases b with
    | false =>
      rw [List.filter_cons, ← q1] at h
      exact w_compF emb p g xs acc (by omega) hs' h
    | true =>
      rw [List.filter_cons, ← q1, if_pos rfl, List.map_cons] at h
      refine w_bind (w_calm ((w2 q1.symm).mono fun y S3 q => ?_))
      obtain ⟨q3, q4⟩ := q
      rw [q3, q4]
      exact w_gd (by omega) (w_compF emb p g xs _ (by rw [List.length_append]; simp; omega) hs' (by rw [List.append_assoc]; exact h))
theorem filter_yes (xs : List γ) : (xs.filter fun _ => true) = xs := List.filter_eq_self.mpr fun _ _ => rfl
theorem w_compM {gt : EvT} {te : EvE} {σ0 : Sg} (emb : γ → D) (g : γ → D) (xs : List γ) (hl : xs.length ≤ sizeLine) (hs : ∀ x ∈ xs, ∃ σ1, gt (emb x) σ0 S = some (σ1, S) ∧ WE (te σ1 S) fun y S3 => y = g x ∧ S3 = S) (h : QL (xs.map g) S) : WE (compD gt evYes te σ0 (xs.map emb) [] S) QL :=
  w_compF emb (fun _ => true) g xs [] (by rw [List.length_nil, Nat.zero_add]; exact hl) (fun x hx => let ⟨σ1, e, w⟩ := hs x hx; ⟨σ1, e, ⟨rfl, rfl⟩, fun _ => w⟩) (by rw [filter_yes, List.nil_append]; exact h)
theorem w_anyL {ds : List D} {bs : List Bool} (e : ds = bs.map D.bl) (h : Q (.bl (bs.any id)) S) : WE (opAnyAll false [.lst ds] S) Q := by
  unfold opAnyAll
  subst e
  show WE (match (some (bs.map D.bl)).bind blsD with
    | some bs => Out.ok (.bl (if (false : Bool) then bs.all id else bs.any id)) S
    | none => .stuck) Q
  rw [Option.bind_some, blsD_map]
  exact h
theorem w_tupL {ds : List D} (h : Q (.tup ds) S) : WE (opTuple [.lst ds] S) Q := h
/-- the lists of two references or data, one behind the other -/
theorem w_catL {mm : Bool} {n : Nat} {xs ys : List D} (e : S[n]? = some (.lst xs)) (hl : xs.length + ys.length ≤ sizeLine) (h : WE (mkL mm (xs ++ ys) S) Q) : WE (opAdd mm (.ref n) (.lst ys) S) Q := by
  unfold opAdd
  simp only [asL_ref e, asL_lst]
  exact w_gd hl h
theorem atI_last {xs : List D} {y : D} : atI (xs ++ [y]) (-1) = some y := by
  unfold atI ixN
  rw [if_neg (by omega), List.length_append]
  rw [if_pos (by simp; omega)]
  show (xs ++ [y])[((-1 : Int) + ((xs.length + [y].length : Nat) : Int)).toNat]? = _
  rw [show ((-1 : Int) + ((xs.length + [y].length : Nat) : Int)).toNat = xs.length by simp; omega]
  simp
theorem cut_init {xs : List D} {y : D} : cutD (xs ++ [y]) none (some (-1)) = xs := by
  unfold cutD HT.sIx
  simp only
  rw [if_pos (by omega), List.drop_zero, Nat.sub_zero]
  rw [show ((-1 : Int) + ((xs ++ [y]).length : Int)).toNat = xs.length by simp; omega]
  simp
theorem w_let {i n : Nat} {ds : List D} (e : σ[i]? = some (some (.ref n))) (e2 : S[n]? = some (.lst ds)) (h : Q (.lst ds) (S.set n .dead)) : WE (evLet i σ S) Q := by
  unfold evLet
  rw [e]
  simp only [e2]
  exact h
theorem w_rngI {i n : Nat} {lo : Int} {body : EvS} (P : Nat → Sg → Store → Prop) (h0 : P 0 σ S) (hs : ∀ j σ S, j < n → P j σ S → WS (body (σ.set i (some (.int (lo + j)))) S) (P (j + 1)) N (P (j + 1)) R) (hd : ∀ σ S, P n σ S → N σ S) : WS (loopD (gtName i) body (rangeD lo n) σ S) N B C R := w_rng P h0 hs hd
end
/-- the whole numbers of a range -/
def rgI (lo : Int) : Nat → List Int
  | 0 => []
  | n + 1 => lo :: rgI (lo + 1) n
theorem rgI_map : ∀ (n : Nat) (lo : Int), (rgI lo n).map D.int = rangeD lo n
  | 0, _ => rfl
  | n + 1, lo => by
    show D.int lo :: (rgI (lo + 1) n).map D.int = _
    rw [rgI_map n (lo + 1)]
    rfl
theorem rgI_mem : ∀ {n : Nat} {lo k : Int}, k ∈ rgI lo n ↔ lo ≤ k ∧ k < lo + n
  | 0, lo, k => by
    show k ∈ [] ↔ _
    simp
  | n + 1, lo, k => by
    show k ∈ lo :: rgI (lo + 1) n ↔ _
    rw [List.mem_cons, rgI_mem]
    omega
theorem rgI_asc : ∀ (n : Nat) (lo : Int), (rgI lo n).Pairwise (· < ·)
  | 0, _ => List.Pairwise.nil
  | n + 1, lo => List.pairwise_cons.mpr ⟨fun x hx => by have := rgI_mem.mp hx; omega, rgI_asc n (lo + 1)⟩
theorem rgI_len : ∀ (n : Nat) (lo : Int), (rgI lo n).length = n
  | 0, _ => rfl
  | n + 1, lo => by
    show (rgI (lo + 1) n).length + 1 = _
    rw [rgI_len n]
end DL
/-! DL, part 16: keys in dicts, equality of nested data, list.pop(i), o.f += e. -/
namespace DL
open PySem PySem.Spec PyProof.Rows L2
/-! k in d -/
def opDIn (neg : Bool) (k d : D) (S : Store) : Out D := match dGet d k S with
  | some o => .ok (.bl (if neg then !o.isSome else o.isSome)) S
  | none => .stuck
def rDIn (neg : Bool) : R2 := fun y x H Q => ∃ a o, x = .ref a ∧ DGet H a y o ∧ Q (.bl (if neg then !o.isSome else o.isSome)) H
theorem op_din {X : Cx} (hu : X.A.units + 1 < cLine) : OpR X (compareOp .In) (rDIn false) := by
  intro pins s σ H x y v u Q I rx ry h
  obtain ⟨a, o, rfl, g, q⟩ := h
  cases ry
  exact d_in hu I g rx fun s3 I3 => ⟨.bl o.isSome, H, I3, rfl, q⟩
theorem op_dnin {X : Cx} (hu : X.A.units + 1 < cLine) : OpR X (compareOp .NotIn) (rDIn true) := by
  intro pins s σ H x y v u Q I rx ry h
  obtain ⟨a, o, rfl, g, q⟩ := h
  cases ry
  exact d_notIn hu I g rx fun s3 I3 => ⟨.bl (!o.isSome), H, I3, rfl, q⟩
theorem od_din {K : PySem.W.Frag} {neg : Bool} : OpD K (rDIn neg) (opDIn neg) := ⟨fun Ex fs F S H d1 d2 v1 v2 Q m r1 r2 p => by
  unfold opDIn at p
  cases e : dGet d2 d1 S with
  | none => rw [e] at p; exact False.elim p
  | some o =>
    rw [e] at p
    obtain ⟨a, ov, h1, h2, h3⟩ := dGet_ok m r2 r1 e
    have eo : ov.isSome = o.isSome := by
      cases o with
      | none => rw [show ov = none from h3] <;> rfl
      | some d => obtain ⟨v, h4, _⟩ := h3; rw [h4] <;> rfl
    refine ⟨a, ov, h1, h2, ?_⟩
    rw [eo]
    exact p.val m bl_rep⟩
/-! a == b of nested data -/
mutual
def toPy : D → Option PyData
  | .non => some .none
  | .bl b => some (.bool b)
  | .int i => some (.int i)
  | .str s => some (.str s)
  | .lst ds => (toPyL ds).map .list
  | .tup ds => (toPyL ds).map .tuple
  | .fz t ds => (toPyL ds).map (if t then .tuple else .list)
  | _ => none
def toPyL : List D → Option (List PyData)
  | [] => some []
  | d :: ds => (toPy d).bind fun p => (toPyL ds).map (p :: ·)
end
section
variable {K : PySem.W.Frag} {F H : Hp} {fs : List Addr}
mutual
theorem toPy_ok (le : ∀ a o, F a = some o → H a = some o) : ∀ (d : D) {v : V} {p : PyData}, Rep K F fs d v → toPy d = some p → Dp K H v p
  | .non, v, p, r, e => by
    rw [Rep] at r; subst r
    unfold toPy at e
    cases e
    exact Dp.non
  | .bl b, v, p, r, e => by
    rw [Rep] at r; subst r
    unfold toPy at e
    cases e
    exact Dp.bl b
  | .int b, v, p, r, e => by
    rw [Rep] at r; subst r
    unfold toPy at e
    cases e
    exact Dp.int b
  | .str b, v, p, r, e => by
    rw [Rep] at r; subst r
    unfold toPy at e
    cases e
    exact Dp.str b
  | .lst ds, v, p, r, e => by
    rw [Rep] at r; obtain ⟨a, xs, rfl, h1, h2⟩ := r
    unfold toPy at e
    cases e1 : toPyL ds with
    | none => rw [e1] at e; cases e
    | some ps => rw [e1] at e; cases e; exact Dp.lst (SqL.of (le _ _ h1)) (toPyL_ok le ds h2 e1)
  | .tup ds, v, p, r, e => by
    rw [Rep] at r; obtain ⟨a, xs, rfl, h1, h2⟩ := r
    unfold toPy at e
    cases e1 : toPyL ds with
    | none => rw [e1] at e; cases e
    | some ps => rw [e1] at e; cases e; exact Dp.tup (.inl (.inl (le _ _ h1))) (toPyL_ok le ds h2 e1)
  | .fz t ds, v, p, r, e => by
    rw [Rep] at r; obtain ⟨a, xs, rfl, h1, h2⟩ := r
    unfold toPy at e
    cases e1 : toPyL ds with
    | none => rw [e1] at e; cases e
    | some ps =>
      rw [e1] at e
      cases t with
      | true => cases e; exact Dp.tup (SqT.mono le h1) (toPyL_ok le ds h2 e1)
      | false => cases e; exact Dp.lst (SqL.mono le h1) (toPyL_ok le ds h2 e1)
  | .ref _, v, p, r, e => by unfold toPy at e; cases e
  | .ty _, v, p, r, e => by unfold toPy at e; cases e
  | .adr _, v, p, r, e => by unfold toPy at e; cases e
theorem toPyL_ok (le : ∀ a o, F a = some o → H a = some o) : ∀ (ds : List D) {xs : List V} {ps : List PyData}, RepL K F fs ds xs → toPyL ds = some ps → DpAll K H xs ps
  | [], xs, ps, r, e => by
    rw [RepL] at r; subst r
    unfold toPyL at e
    cases e
    exact DpAll.nil
  | d :: ds, xs, ps, r, e => by
    rw [RepL] at r; obtain ⟨x, xr, rfl, h1, h2⟩ := r
    unfold toPyL at e
    cases e1 : toPy d with
    | none => rw [e1] at e; cases e
    | some p =>
      rw [e1] at e
      cases e2 : toPyL ds with
      | none => rw [e2] at e; cases e
      | some qs => rw [e2] at e; cases e; exact DpAll.cons (toPy_ok le d h1 e1) (toPyL_ok le ds h2 e2)
end
end
def opEqD (neg : Bool) (a b : D) (S : Store) : Out D := match toPy a, toPy b with
  | some p, some q => gd (SeqAt.shaped p = true ∧ SeqAt.shaped q = true) (.ok (.bl (if neg then !PyData.eqv p q else PyData.eqv p q)) S)
  | _, _ => .stuck
theorem od_eqD {K : PySem.W.Frag} : OpD K (rEqD K) (opEqD false) := ⟨fun Ex fs F S H d1 d2 v1 v2 Q m r1 r2 p => by
  unfold opEqD at p
  cases e1 : toPy d1 with
  | none => rw [e1] at p; exact False.elim p
  | some x =>
    cases e2 : toPy d2 with
    | none => rw [e1, e2] at p; exact False.elim p
    | some y =>
      rw [e1, e2] at p
      obtain ⟨h, p⟩ := p.gd
      exact ⟨x, y, toPy_ok m.le d1 r1 e1, toPy_ok m.le d2 r2 e2, h.1, h.2, p.val m bl_rep⟩⟩
theorem od_neD {K : PySem.W.Frag} : OpD K (rNeD K) (opEqD true) := ⟨fun Ex fs F S H d1 d2 v1 v2 Q m r1 r2 p => by
  unfold opEqD at p
  cases e1 : toPy d1 with
  | none => rw [e1] at p; exact False.elim p
  | some x =>
    cases e2 : toPy d2 with
    | none => rw [e1, e2] at p; exact False.elim p
    | some y =>
      rw [e1, e2] at p
      obtain ⟨h, p⟩ := p.gd
      exact ⟨x, y, toPy_ok m.le d1 r1 e1, toPy_ok m.le d2 r2 e2, h.1, h.2, p.val m bl_rep⟩⟩
/-! l.pop(i) -/
section
variable {X : Cx} {W : WX} {e o : Expr} {f g : EvE} {apos pos tpos : Pos} {nm : Str}
theorem RepL.erase {K : PySem.W.Frag} {F : Hp} {fs : List Addr} : ∀ {ds : List D} {xs : List V} (k : Nat), RepL K F fs ds xs → RepL K F fs (ds.eraseIdx k) (xs.eraseIdx k)
  | [], xs, k, r => by
    rw [RepL] at r; subst r
    exact RepL.nil
  | d :: ds, _, 0, r => by
    rw [RepL] at r; obtain ⟨x, xr, rfl, h1, h2⟩ := r
    exact h2
  | d :: ds, _, k + 1, r => by
    rw [RepL] at r; obtain ⟨x, xr, rfl, h1, h2⟩ := r
    exact RepL.cons h1 (RepL.erase k h2)
theorem RepL.at' {K : PySem.W.Frag} {F : Hp} {fs : List Addr} : ∀ {ds : List D} {xs : List V} {k : Nat} {d : D}, RepL K F fs ds xs → ds[k]? = some d → ∃ x, xs[k]? = some x ∧ Rep K F fs d x
  | [], _, _, _, _, e => by cases e
  | d :: ds, _, 0, d', r, e => by
    rw [RepL] at r; obtain ⟨x, xr, rfl, h1, h2⟩ := r
    cases e
    exact ⟨x, rfl, h1⟩
  | d :: ds, _, k + 1, d', r, e => by
    rw [RepL] at r; obtain ⟨x, xr, rfl, h1, h2⟩ := r
    obtain ⟨y, e2, r2⟩ := RepL.at' (k := k) h2 e
    exact ⟨y, e2, r2⟩
def evPopAt (f g : EvE) : EvE := fun σ S => (f σ S).bind fun d S1 => match d with
  | .ref n => match S1[n]? with
    | some (.lst _) => (g σ S1).bind fun y S2 => match y with
      | .int i => match S2[n]? with
        | some (.lst ds) => match ds[i.toNat]? with
          | some z => gd (0 ≤ i ∧ i < 1000000) (.ok z (S2.set n (.lst (ds.eraseIdx i.toNat))))
          | none => .stuck
        | _ => .stuck
      | _ => .stuck
    | _ => .stuck
  | _ => .stuck
theorem je_popAt (t : PE X (.Call (.Attribute o "pop" apos) [e] [] pos) (tBM X.K "list" rPopAt (tE X.K W f) (tCons (tE X.K W g) tNil))) :
    JE X W (.Call (.Attribute o "pop" apos) [e] [] pos) (evPopAt f g) :=
  PE.imp t fun σv H Q ⟨fs, F, σ, S, rs, m, q⟩ => tG.bind rs m q fun d S1 fs1 F1 H1 v rs1 m1 g1 r1 p1 => by
    cases d with
    | ref n =>
      cases e1 : S1[n]? with
      | none => simp only [e1] at p1; exact False.elim p1
      | some so =>
        cases so with
        | lst ds =>
          simp only [e1] at p1
          rw [Rep] at r1
          obtain ⟨a, rfl, ha⟩ := r1
          obtain ⟨b, f1, _, xs, f2, f3⟩ := m1.ob n _ e1 rfl
          rw [ha] at f1; cases f1
          refine ⟨.inl ⟨rfl, _, .inl (.inl f2)⟩, ?_⟩
          refine tG.bind rs1 m1 p1 fun y S2 fs2 F2 H2 w rs2 m2 g2 r2 p2 => ?_
          cases y with
          | int i =>
            simp only at p2
            cases e2 : S2[n]? with
            | none => simp only [e2] at p2; exact False.elim p2
            | some so =>
              cases so with
              | lst ds2 =>
                simp only [e2] at p2
                cases e3 : ds2[i.toNat]? with
                | none => simp only [e3] at p2; exact False.elim p2
                | some z =>
                  simp only [e3] at p2
                  obtain ⟨hz, p3⟩ := p2.gd
                  have ha2 := g2.get ha
                  obtain ⟨b, f1, _, xs2, f4, f5⟩ := m2.ob n _ e2 rfl
                  rw [ha2] at f1; cases f1
                  obtain ⟨z', e4, r4⟩ := RepL.at' f5 e3
                  obtain ⟨m3, g3⟩ := mt_set (o := .lst (xs2.eraseIdx i.toNat)) (so' := .lst (ds2.eraseIdx i.toNat)) m2 e2 rfl ha2 ⟨_, upd_same, RepL.erase _ f5⟩
                  obtain rfl := rep_int r2
                  have hk : seqIndex? i xs2.length = some i.toNat := by
                    have hl := (List.getElem?_eq_some_iff.mp e4).1
                    have h0 : ¬ i < 0 := by omega
                    have h9 : i < (xs2.length : Int) := by omega
                    unfold seqIndex?
                    simp [h0, hz.1, h9]
                  exact ⟨a, xs2, i, i.toNat, z', rfl, rfl, f4, by omega, by omega, hk, e4, p3 _ _ _ _ g3 m3 r4⟩
              | _ => simp only [e2] at p2; exact False.elim p2
          | _ => exact False.elim p2
        | _ => simp only [e1] at p1; exact False.elim p1
    | _ => exact False.elim p1
/-! o.f += e, of ints -/
def evFldA (Cs : List Addr) (nm : Str) (f g : EvE) : EvS := fun σ S => (f σ S).stm σ fun d S1 => match asI d S1 with
  | some (n, C, fl) => match fl.lookup nm with
    | some (.int i) => if C ∈ Cs then (g σ S1).stm σ fun y S2 => match y with
      | .int j => match asI (.ref n) S2 with
        | some (_, C', fl') => if C' = C ∧ fl'.length < 1000 then .nx σ (S2.set n (.ins C (putFD nm (.int (i + j)) fl'))) else .stuck
        | none => .stuck
      | _ => .stuck
      else .stuck
    | _ => .stuck
  | none => .stuck
theorem js_fldA {Cs : List Addr} (hC : ∀ C ∈ Cs, Cls X.K C ∧ NoAttr X.K C nm) (ho : JE X W o f) (he : JE X W e g) : JS X W (.AugAssign (.Attribute o nm tpos) .Add e pos) (evFldA Cs nm f g) :=
  PS.imp (ps_fldaug ho he in_add) fun D σv H ⟨fs, F, σ, S, rs, m, q⟩ => tG.stm rs m q fun d S1 fs1 F1 H1 v rs1 m1 g1 r1 p1 => by
    split at p1
    · rename_i n C fl e1
      split at p1
      · rename_i i e2
        split at p1
        · rename_i hc
          obtain ⟨rfl, hS, a, dx, vs, h1, h2, h3, h4⟩ := asI_ok m1 r1 e1
          obtain ⟨vi, e3, r3⟩ : ∃ vi, vs.lookup nm = some vi ∧ Rep X.K F1 fs1 (.int i) vi := by
            exact RepKV.look h4 e2
          obtain rfl := rep_int r3
          refine ⟨a, C, dx, vs, .int i, h1, h3, (hC C hc).1, (hC C hc).2, e3, ?_⟩
          refine tG.stm rs1 m1 p1 fun y S2 fs2 F2 H2 w rs2 m2 g2 r2 p2 => ?_
          split at p2
          · rename_i j
            obtain rfl := rep_int r2
            split at p2
            · rename_i n' C' fl' e4
              split at p2
              · rename_i hc2
                obtain ⟨rfl, hz⟩ := hc2
                have ha2 := g2.get h2
                obtain ⟨en, hS2, a2, dx2, vs2, k1, k2, k3, k4⟩ := asI_ok m2 (show Rep X.K F2 fs2 (.ref n) (.ref a) by rw [Rep]; exact ⟨a, rfl, ha2⟩) e4
                cases k1
                cases en
                refine ⟨i, j, rfl, rfl, ?_⟩
                obtain ⟨m3, g3⟩ := mt_set (o := .ins C' dx2 (L2.putF nm (.int (i + j)) vs2)) (so' := .ins C' (putFD nm (.int (i + j)) fl')) m2 hS2 rfl k2 ⟨dx2, _, upd_same, RepKV.putF int_rep k4⟩
                exact ⟨dx2, vs2, k3, by rw [k4.length]; exact hz, p2 _ _ _ _ g3 m3 (rs2.mono g3)⟩
              · exact False.elim p2
            · exact False.elim p2
          · exact False.elim p2
        · exact False.elim p1
      · exact False.elim p1
    · exact False.elim p1
end
/-! in the calculus -/
section
variable {σ : Sg} {S : Store} {N B C : Sg → Store → Prop} {R : D → Store → Prop} {Q : D → Store → Prop}
theorem w_din {neg : Bool} {n : Nat} {kvs : List (Key × D)} {k : D} {j : Key} (hS : S[n]? = some (.dct kvs)) (hk : keyD k = some j) (h : Q (.bl (if neg then !(lk kvs j).isSome else (lk kvs j).isSome)) S) : WE (opDIn neg k (.ref n) S) Q := by
  unfold opDIn dGet
  rw [show asDr (.ref n) S = some kvs by simp [asDr, hS]]
  simp only [hk, Option.map_some]
  exact h
theorem w_eqD {neg : Bool} {a b : D} {p q : PyData} (e1 : toPy a = some p) (e2 : toPy b = some q) (h1 : SeqAt.shaped p = true) (h2 : SeqAt.shaped q = true) (h : Q (.bl (if neg then !PyData.eqv p q else PyData.eqv p q)) S) : WE (opEqD neg a b S) Q := by
  unfold opEqD
  simp only [e1, e2]
  exact w_gd ⟨h1, h2⟩ h
theorem w_popAt {f g : EvE} (h : WE (f σ S) fun d S1 => ∃ n, d = .ref n ∧ (∃ es, S1[n]? = some (.lst es)) ∧ WE (g σ S1) fun y S2 => ∃ i ds z, y = .int i ∧ S2[n]? = some (.lst ds) ∧ 0 ≤ i ∧ i < 1000000 ∧ ds[i.toNat]? = some z ∧ Q z (S2.set n (.lst (ds.eraseIdx i.toNat)))) : WE (evPopAt f g σ S) Q := by
  unfold evPopAt
  refine w_bind (h.mono fun d S1 ⟨n, e, ⟨es, he⟩, q⟩ => ?_)
  subst e
  simp only [he]
  refine w_bind (q.mono fun y S2 ⟨i, ds, z, e1, e2, h0, h1, e3, q⟩ => ?_)
  subst e1
  simp only [e2, e3]
  exact w_gd ⟨h0, h1⟩ q
theorem w_fldA {Cs : List Addr} {nm : Str} {f g : EvE} (h : WE (f σ S) fun d S1 => ∃ n C' fl i, d = .ref n ∧ S1[n]? = some (.ins C' fl) ∧ C' ∈ Cs ∧ fl.lookup nm = some (.int i) ∧ WE (g σ S1) fun y S2 => ∃ j fl', y = .int j ∧ S2[n]? = some (.ins C' fl') ∧ fl'.length < 1000 ∧ N σ (S2.set n (.ins C' (putFD nm (.int (i + j)) fl')))) : WS (evFldA Cs nm f g σ S) N B C R :=
  w_stm (h.mono fun d S1 ⟨n, C', fl, i, e, hS, hC, hl, q⟩ => by
    subst e
    rw [asI_ref hS]
    simp only [hl]
    rw [if_pos hC]
    refine w_stm (q.mono fun y S2 ⟨j, fl', e2, hS2, hz, q⟩ => ?_)
    subst e2
    simp only [asI_ref hS2]
    rw [if_pos ⟨trivial, hz⟩]
    exact q)
theorem flats_strs : ∀ xs : List Str, flats (xs.map D.str) = some (xs.map V.str)
  | [] => rfl
  | x :: xs => by
    have := flats_strs xs
    simp [flats, flat, this]
theorem inV_strs (i : Str) : ∀ xs : List Str, inV (.str i) (xs.map V.str) = decide (i ∈ xs)
  | [] => by simp [inV]
  | x :: xs => by
    have := inV_strs i xs
    unfold inV at this ⊢
    rw [List.map_cons, List.any_cons, this]
    by_cases e : x = i
    · subst e; simp [eqV]
    · have e' : ¬ i = x := fun h => e h.symm
      simp [eqV, e, e']
/-- a text in a sequence of such -/
theorem w_inS {neg : Bool} {i : Str} {b : D} (xs : List Str) (e : asSeq b S = some (xs.map D.str)) (h : Q (.bl (if neg then !decide (i ∈ xs) else decide (i ∈ xs))) S) : WE (opIn neg (.str i) b S) Q := by
  unfold opIn
  rw [e]
  show WE (match (some (V.str i)), (some (xs.map D.str)).bind flats with
    | some x, some ys => .ok (.bl (if neg then !inV x ys else inV x ys)) S
    | _, _ => .stuck) Q
  rw [Option.bind_some, flats_strs]
  show Q (.bl (if neg then !inV (.str i) (xs.map V.str) else inV (.str i) (xs.map V.str))) S
  rw [inV_strs]
  exact h
end
end DL
/-! DL, part 17: min of three. -/
namespace DL
open PySem PySem.Spec PyProof.Rows L2
def m3 (i j k : Int) : Int := if k < (if j < i then j else i) then k else if j < i then j else i
theorem m3_is (i j k : Int) : m3 i j k = min (min i j) k := by
  unfold m3
  split <;> split at * <;> omega
def opMin3 (ds : List D) (S : Store) : Out D := match ds with
  | [.int i, .int j, .int k] => .ok (.int (m3 i j k)) S
  | _ => .stuck
theorem nu2 (i j : Int) : nuMin2 (.int i) (.int j) = some (.int (if j < i then j else i)) := by
  show (some (decide (j < i))).map (fun c => if c = true then V.int j else V.int i) = _
  by_cases c : j < i
  · rw [if_pos c, decide_eq_true c] <;> rfl
  · rw [if_neg c, decide_eq_false c] <;> rfl
theorem nu3 (i j k : Int) : nuMin3 (.int i) (.int j) (.int k) = some (.int (m3 i j k)) := by
  show (nuMin2 (.int i) (.int j)).bind (fun m => nuMin2 m (.int k)) = _
  rw [nu2]
  show nuMin2 (.int (if j < i then j else i)) (.int k) = _
  rw [nu2]
  rfl
theorem ol_min3 {K : PySem.W.Frag} : OpL K (rNuC3 nuMin3) opMin3 := ⟨fun Ex fs F S H ds vs Q m r0 p => by
  unfold opMin3 at p
  split at p
  · rename_i i j k
    rw [RepL] at r0; obtain ⟨x, xr, rfl, h1, r0⟩ := r0
    rw [RepL] at r0; obtain ⟨y, yr, rfl, h2, r0⟩ := r0
    rw [RepL] at r0; obtain ⟨z, zr, rfl, h3, r0⟩ := r0
    rw [RepL] at r0; subst r0
    obtain rfl := rep_int h1
    obtain rfl := rep_int h2
    obtain rfl := rep_int h3
    exact ⟨_, _, _, _, rfl, nu3 i j k, p.val m int_rep⟩
  · exact False.elim p⟩
theorem w_min3 {i j k : Int} {S : Store} {Q : D → Store → Prop} (h : Q (.int (min (min i j) k)) S) : WE (opMin3 [.int i, .int j, .int k] S) Q := by
  rw [← m3_is] at h
  exact h
section
variable {X : Cx} {W : WX} {e a b c o target : Expr} {es ifs : List Expr} {f g h' : EvE} {pos pos' apos p p' : Pos} {nm m : Str} {gt : EvT} {tg : TG} {tt : EvB} {te : EvE} {vs : List Nat}
theorem js_lcSetR2 (mm : Bool) {i : Nat} {y : Str} {py spos : Pos} {e2 elt : Expr} {scope : Scope} {own : List (Str × Nat)} {gl : EvL} (T : TGok X.K tg gt (own.map (·.2))) (hc : X.calm = true) (hN : X.N.Nodup) (hi : X.N[i]? = some y) (hl : X.env.scope.names.lookup y = some .local)
    (hsw : swapsWith (.ListComp elt [{ target := target, iter := (.Call (.Name "range" p) [e, e2] [] p'), ifs := ifs, is_async := 0 }] scope pos) (some (.Name y py)) spos.line X.env = pure true) (hgr : Gl X "range") (hm : X.mg "range" = none) (he : JA X W [e, e2] gl) (hB : BlkOk X.N X.env.scope scope own)
    (hg : ∀ (s : Shared) (H : Hp) (C : Addr) (cl : List (Str × Addr)) (fp : List Addr), PG (X.blk s H scope (compEnvC scope cl C X.env) fp) target tg)
    (ht : ∀ (s : Shared) (H : Hp) (C : Addr) (cl : List (Str × Addr)) (fp : List Addr), JTs (X.blk s H scope (compEnvC scope cl C X.env) fp) ifs tt)
    (hv : ∀ (s : Shared) (H : Hp) (C : Addr) (cl : List (Str × Addr)) (fp : List Addr), JE (X.blk s H scope (compEnvC scope cl C X.env) fp) W0 elt te)
    (hst : starEach [e, e2] X.env = [(false, eval e X.env), (false, eval e2 X.env)] := by rfl) (hst2 : starEach [e2] X.env = [(false, eval e2 X.env)] := by rfl) (hs : ∀ x, foldedSetIterable (.Call (.Name "range" p) [e, e2] [] p') X.env x = pure x := by intro _; rfl) :
    JS X W (.Assign [.Name y py] (.ListComp elt [{ target := target, iter := (.Call (.Name "range" p) [e, e2] [] p'), ifs := ifs, is_async := 0 }] scope pos) spos) (evSet i (evLcR mm rng2 gl (own.map (·.2)) gt tt te)) :=
  js_setLc (ps_setLc hc hN hi hl hsw (pi_range2 hgr hm he hst hst2) hB hg ht hv hs) fun _ _ _ q => lcr2_of mm T q
end
section
variable {σ : Sg} {S : Store} {N B C : Sg → Store → Prop} {R : D → Store → Prop} {Q : D → Store → Prop}
theorem w_newK (h : Q (.ref S.length) (S ++ [.dct []])) : WE (evNewK σ S) Q := h
theorem ex_r2 {i j : Int} {P : Int → Nat → Prop} (h0 : -4611686018427387904 ≤ i ∧ i < 4611686018427387904 ∧ -4611686018427387904 ≤ j ∧ j < 4611686018427387904) (h : P i (j - i).toNat) : ∃ lo n, rng2 [.int i, .int j] = some (lo, n) ∧ P lo n := ⟨i, (j - i).toNat, if_pos h0, h⟩
theorem w_lcR' {mm : Bool} {rng : List D → Option (Int × Nat)} {gl : EvL} {vs : List Nat} {gt : EvT} {tt : EvB} {te : EvE} (h : WE (gl σ S) fun ds S1 => ∃ lo n, rng ds = some (lo, n) ∧ WE (compD gt tt te (wipeD σ vs) (rangeD lo n) [] S1) fun acc S2 => WE (mkL mm acc S2) Q) :
    WE (evLcR mm rng gl vs gt tt te σ S) Q := by
  unfold evLcR
  refine w_bind (h.mono fun ds S1 ⟨lo, n, e, q⟩ => ?_)
  rw [e]
  exact w_bind q
end
end DL
/-! DL, part 18: dicts: sorted(d), list(d), d.pop(k), del d[k], what is summed over a dict. -/
namespace DL
open PySem PySem.Spec PyProof.Rows L2
section
variable {X : Cx}
def rSortDO : List V → Hp → VK → Prop := fun xs H Q => ∃ (a : Addr) (kvs : List (Key × V)) (ks : List Int), xs = [V.ref a] ∧ Rd H a (.dK kvs) ∧ kvs.map (·.1) = ks.map Sum.inl ∧ ks.length ≤ 100000 ∧
  ∀ (ys : List Int) (p : Addr), ys.Perm ks → ys.Pairwise (· ≤ ·) → H p = none → Q (.ref p) (upd H p (.lst (ys.map V.int)))
theorem call_sortDO (hc : X.calm = true) : CallR X (.builtin "sorted") rSortDO := by
  intro pins s σ H xs us Q I r q
  obtain ⟨a, kvs, ks, rfl, hd, hks, hz, q⟩ := q
  obtain ⟨u, rfl, rx⟩ := vals1 r
  cases rx
  obtain ⟨z, lo, vs, rel, dd⟩ := dk_rd I.hok hd
  obtain ⟨ep, hat⟩ := dd.dictAt
  have hk1 : vs.map (·.1) = ks.map Sum.inl := rel.keys.symm.trans hks
  have hl : vs.length = ks.length := by simpa using congrArg List.length hk1
  have hv : vs.length ≤ sizeLine := by rw [hl, sizeLine_eq]; omega
  apply Calls.call_function_entry kind_sorted plain_sorted entry_sorted (args_sorted1 _)
  unfold Builtin.«sorted»
  apply wpAny_bind (m := checkCount "sorted" 1 1 _)
  apply wpAny_pure
  apply wpAny_bind
  apply PySem.W.kdu_collect (A := X.A.in1) (PySem.W.kdl_dict (knd := mixKind X.prog X.w) (kvs := vs) (ep := ep) lo) (I.ok.hd hc) hat hv
  intro h' tk acc hk hacc
  have hn : acc.toList.length = ks.length := by rw [Array.length_toList, hacc.1, hl]
  have hI : IntsAre acc.toList ks := ints_each hn fun j v e => by
    obtain ⟨k, x, e1, e2⟩ := hacc.2 j v (by rw [← Array.getElem?_toList]; exact e)
    have e3 := congrArg (fun l => l[j]?) hk1
    simp only [List.getElem?_map, e1] at e3
    cases e4 : ks[j]? with
    | none => rw [e4] at e3; cases e3
    | some y =>
      rw [e4] at e3
      have e5 : k = Sum.inl y := Option.some.inj e3
      subst e5
      have e6 : keyIs (Sum.inl y) v = true := e2
      rcases keyIs_shape e6 with ⟨i, t, ek, ev⟩ | ⟨w, t, ek, ev⟩
      · cases ek
        exact ⟨y, t, rfl, ev⟩
      · cases ek
  have I1 : Inv X pins σ H { s with heap := h', toks := tk } := I.kept hk
  have hsz : acc.toList.length ≤ sizeLine := by rw [hn, sizeLine_eq]; omega
  apply wpAny_bind
  apply wpAny_newList _ hsz
  have ho : (h'.push (seqObj "list" acc.toList.toArray 0)).get? h'.objs.size = some (seqObj "list" acc.toList.toArray 0) := Heap.get?_push_size _ rfl
  apply wpAny_bind
  apply wpAny_holding
  have kI : ∀ v ∈ acc.toList, ∃ i t, v = Value.int i t := by
    intro v hv
    obtain ⟨j, hj⟩ := List.getElem?_of_mem hv
    have hjn : j < ks.length := by rw [← hn]; exact (List.getElem?_eq_some_iff.mp hj).1
    obtain ⟨t, e⟩ := hI.get j ks[j] (List.getElem?_eq_getElem hjn)
    rw [hj] at e
    cases e
    exact ⟨_, t, rfl⟩
  have kJ := SrtO.ints_iv kI
  have ev : acc.toList.map SrtO.iv = ks := by
    clear hacc ho hn hsz kI kJ
    generalize acc.toList = al at hI
    clear hk1 hks hl hv hz rel dd q
    induction hI with
    | nil => rfl
    | cons n t _ ih => rw [List.map_cons, ih]; rfl
  refine wpAny_call_entry slot_list_sort ⟨_, ho, rfl⟩ entry_list_sort ?_ (args_list_sort _)
  refine SrtO.list_sort_ord (s := { s with heap := h'.push (seqObj "list" acc.toList.toArray 0), toks := tk }) SrtO.swo_int ho hsz (fun h2 => SrtO.ints_sortable kJ h2) fun out q1 q2 => ⟨_, rfl, ?_⟩
  obtain ⟨m1, m2, m3⟩ := SrtO.ints_out kJ q1 q2
  rw [ev] at m2
  obtain ⟨c, hc2⟩ := sortedHeap_at (vs := acc.toList) (out := out.toArray) ho
  have hlen : ((out.map SrtO.iv).map V.int).length ≤ sizeLine := by
    rw [List.length_map, m2.length_eq, sizeLine_eq]
    omega
  refine wpAny_pure ⟨_, rfl, .ref h'.objs.size, upd H h'.objs.size (.lst ((out.map SrtO.iv).map V.int)), I1.laid (t' := tk) (fun b u e => ?_) (Nat.le_refl _) (show ObjOk X.prog X.w _ _ _ (.lst ((out.map SrtO.iv).map V.int)) from ⟨hlen, out, c, vals_of_ints m1, hc2⟩), rfl, q _ _ m2 m3 (I1.hok.fresh (Nat.le_refl _))⟩
  have gl := Heap.lt_size e
  show (sortedHeap _ _ acc.toList out.toArray).get? b = _
  rw [sortedHeap_old (Nat.ne_of_lt gl) (by
    rw [size_push']
    exact Nat.lt_succ_of_lt gl)]
  exact Heap.get?_push_of_some _ e
/-! the keys, as data -/
def kD : Key → D
  | .inl i => .int i
  | .inr s => .str s
theorem kD_rep {K : PySem.W.Frag} {F : Hp} {fs : List Addr} (k : Key) : Rep K F fs (kD k) (kV k) := by
  cases k with
  | inl i => exact int_rep
  | inr s => exact str_rep
theorem kDs_rep {K : PySem.W.Frag} {F : Hp} {fs : List Addr} : ∀ ks : List Key, RepL K F fs (ks.map kD) (ks.map kV)
  | [] => RepL.nil
  | k :: ks => RepL.cons (kD_rep k) (kDs_rep ks)
def keyI : List Key → Option (List Int)
  | [] => some []
  | .inl i :: ks => (keyI ks).map (i :: ·)
  | .inr _ :: _ => none
theorem keyI_ok : ∀ {ks : List Key} {ns : List Int}, keyI ks = some ns → ks = ns.map Sum.inl
  | [], ns, e => by cases e; rfl
  | .inl i :: ks, ns, e => by
    unfold keyI at e
    cases e1 : keyI ks with
    | none => rw [e1] at e; cases e
    | some ms =>
      rw [e1] at e
      cases e
      rw [keyI_ok e1]
      rfl
  | .inr _ :: _, _, e => by cases e
theorem keyI_map : ∀ ns : List Int, keyI (ns.map Sum.inl) = some ns
  | [] => rfl
  | n :: ns => by
    show (keyI (ns.map Sum.inl)).map (n :: ·) = _
    rw [keyI_map ns]
    rfl
def opSortD (mm : Bool) (ds : List D) (S : Store) : Out D := match ds with
  | [d] => match asD d S with
    | some kvs => match keyI (kvs.map (·.1)) with
      | some ns => gd (ns.length ≤ 100000) (mkL mm ((srtI ns).map D.int) S)
      | none => .stuck
    | none => .stuck
  | _ => .stuck
theorem ol_sortD {K : PySem.W.Frag} {mm : Bool} : OpL K rSortDO (opSortD mm) := ⟨fun Ex fs F S H ds vs Q m r0 p => by
  unfold opSortD at p
  split at p
  · obtain ⟨v, rfl, r⟩ := repL1 r0
    rename_i d
    cases e1 : asD d S with
    | none => rw [e1] at p; exact False.elim p
    | some kvs =>
      simp only [e1] at p
      cases e2 : keyI (kvs.map (·.1)) with
      | none => rw [e2] at p; exact False.elim p
      | some ns =>
        simp only [e2] at p
        obtain ⟨hz, p⟩ := p.gd
        obtain ⟨a, us, h1, h2, h3⟩ := asD_ok m r e1
        refine ⟨a, us, ns, by rw [h1], .inl h2, (h3.keys).trans (keyI_ok e2), hz, fun ys l hp hs hl => ?_⟩
        rw [srtI_eq hp hs]
        exact fresh_lst m p (ints_repD _) hl
  · exact False.elim p⟩
def opListD (mm : Bool) (ds : List D) (S : Store) : Out D := match ds with
  | [d] => match asD d S with
    | some kvs => mkL mm ((kvs.map (·.1)).map kD) S
    | none => .stuck
  | _ => .stuck
def rListD : List V → Hp → VK → Prop := fun xs H Q => ∃ (a : Addr) (kvs : List (Key × V)), xs = [.ref a] ∧ Rd H a (.dK kvs) ∧ ∀ p, H p = none → Q (.ref p) (upd H p (.lst (kvs.map fun kv => kV kv.1)))
theorem ol_listD {K : PySem.W.Frag} {mm : Bool} : OpL K rListD (opListD mm) := ⟨fun Ex fs F S H ds vs Q m r0 p => by
  unfold opListD at p
  split at p
  · obtain ⟨v, rfl, r⟩ := repL1 r0
    rename_i d
    cases e1 : asD d S with
    | none => rw [e1] at p; exact False.elim p
    | some kvs =>
      simp only [e1] at p
      obtain ⟨a, us, h1, h2, h3⟩ := asD_ok m r e1
      refine ⟨a, us, by rw [h1], .inl h2, fun l hl => fresh_lst m p ?_ hl⟩
      have e : us.map (fun kv => kV kv.1) = (kvs.map (·.1)).map kV := by
        rw [← h3.keys, List.map_map]
        rfl
      rw [e]
      exact kDs_rep _
  · exact False.elim p⟩
theorem call_listDX (hc : X.calm = true) : CallR X (.type "list") rListD := call_listD hc
end
/-! d.pop(k), del d[k] -/
section
variable {X : Cx} {W : WX} {e o : Expr} {f g : EvE} {apos pos tpos : Pos}
def evDPop (f g : EvE) : EvE := fun σ S => (f σ S).bind fun d S1 => match asD d S1 with
  | some _ => (g σ S1).bind fun y S2 => match d with
    | .ref n => match S2[n]? with
      | some (.dct kvs) => match keyD y with
        | some j => match lk kvs j with
          | some z => .ok z (S2.set n (.dct (dropD kvs j)))
          | none => .stuck
        | none => .stuck
      | _ => .stuck
    | _ => .stuck
  | none => .stuck
theorem je_dpop (ho : JE X W o f) (he : JE X W e g) (m1 : M1 X o "pop" apos e pos) : JE X W (.Call (.Attribute o "pop" apos) [e] [] pos) (evDPop f g) :=
  PE.imp (pe_dpop1 ho he m1) fun σv H Q ⟨fs, F, σ, S, rs, m, q⟩ => tG.bind rs m q fun d S1 fs1 F1 H1 v rs1 m1 g1 r1 p1 => by
    cases e1 : asD d S1 with
    | none => simp only [e1] at p1; exact False.elim p1
    | some kvs0 =>
      simp only [e1] at p1
      obtain ⟨a, us, h1, h2, h3⟩ := asD_ok m1 r1 e1
      refine ⟨a, h1, .inl ⟨us, .inl h2⟩, ?_⟩
      refine tG.bind rs1 m1 p1 fun y S2 fs2 F2 H2 w rs2 m2 g2 r2 p2 => ?_
      cases d with
      | ref n =>
        simp only at p2
        cases e2 : S2[n]? with
        | none => simp only [e2] at p2; exact False.elim p2
        | some so =>
          cases so with
          | dct kvs =>
            simp only [e2] at p2
            cases e3 : keyD y with
            | none => simp only [e3] at p2; exact False.elim p2
            | some j =>
              simp only [e3] at p2
              cases e4 : lk kvs j with
              | none => simp only [e4] at p2; exact False.elim p2
              | some z =>
                simp only [e4] at p2
                rw [Rep] at r1
                obtain ⟨b, q1, ha⟩ := r1
                rw [h1] at q1; cases q1
                have ha2 := g2.get ha
                obtain ⟨c, f1, _, vs2, f2, f3⟩ := m2.ob n _ e2 rfl
                rw [ha2] at f1; cases f1
                obtain ⟨zv, e5, r5⟩ : ∃ zv, valV vs2 j = some zv ∧ Rep X.K F2 fs2 z zv := by
                  have := RepKV.lk j f3
                  rw [e4] at this
                  exact this
                obtain ⟨m3, g3⟩ := mt_set (o := .dK (dropK vs2 j)) (so' := .dct (dropD kvs j)) m2 e2 rfl ha2 ⟨_, upd_same, RepKV.drop f3⟩
                exact ⟨vs2, j, zv, f2, keyD_ok r2 e3, e5, p2 _ _ _ _ g3 m3 r5⟩
          | _ => simp only [e2] at p2; exact False.elim p2
      | _ => exact False.elim p2
def evDDel (f g : EvE) : EvS := fun σ S => (f σ S).stm σ fun d S1 => (g σ S1).stm σ fun y S2 => match d with
  | .ref n => match S2[n]? with
    | some (.dct kvs) => match keyD y with
      | some j => if (lk kvs j).isSome = true then .nx σ (S2.set n (.dct (dropD kvs j))) else .stuck
      | none => .stuck
    | _ => .stuck
  | _ => .stuck
theorem js_ddel (ho : JE X W o f) (he : JE X W e g) : JS X W (.Delete [.Subscript o e tpos] pos) (evDDel f g) :=
  PS.imp (ps_ddel ho he) fun Dn σv H ⟨fs, F, σ, S, rs, m, q⟩ => tG.stm rs m q fun d S1 fs1 F1 H1 v rs1 m1 g1 r1 p1 => tG.stm rs1 m1 p1 fun y S2 fs2 F2 H2 w rs2 m2 g2 r2 p2 => by
    cases d with
    | ref n =>
      simp only at p2
      cases e2 : S2[n]? with
      | none => simp only [e2] at p2; exact False.elim p2
      | some so =>
        cases so with
        | dct kvs =>
          simp only [e2] at p2
          cases e3 : keyD y with
          | none => simp only [e3] at p2; exact False.elim p2
          | some j =>
            simp only [e3] at p2
            split at p2
            · rename_i hs
              rw [Rep] at r1
              obtain ⟨b, rfl, ha⟩ := r1
              have ha2 := g2.get ha
              obtain ⟨c, f1, _, vs2, f2, f3⟩ := m2.ob n _ e2 rfl
              rw [ha2] at f1; cases f1
              obtain ⟨m3, g3⟩ := mt_set (o := .dK (dropK vs2 j)) (so' := .dct (dropD kvs j)) m2 e2 rfl ha2 ⟨_, upd_same, RepKV.drop f3⟩
              refine ⟨b, vs2, j, rfl, f2, keyD_ok r2 e3, ?_, p2 _ _ _ _ g3 m3 (rs2.mono g3)⟩
              have := RepKV.lk j f3
              cases e4 : lk kvs j with
              | none => rw [e4] at hs; cases hs
              | some z =>
                rw [e4] at this
                obtain ⟨zv, e5, _⟩ := this
                rw [e5] <;> rfl
            · exact False.elim p2
        | _ => simp only [e2] at p2; exact False.elim p2
    | _ => exact False.elim p2
end
/-! in the calculus -/
section
variable {σ : Sg} {S : Store} {N B C : Sg → Store → Prop} {R : D → Store → Prop} {Q : D → Store → Prop}
theorem w_sortD {mm : Bool} {n : Nat} {kvs : List (Key × D)} (ns : List Int) (hS : S[n]? = some (.dct kvs)) (hk : kvs.map (·.1) = ns.map Sum.inl) (hz : ns.length ≤ 100000) (h : WE (mkL mm ((srtI ns).map D.int) S) Q) : WE (opSortD mm [.ref n] S) Q := by
  unfold opSortD
  simp only [asD_ref hS, hk, keyI_map]
  exact w_gd hz h
theorem w_listD {mm : Bool} {n : Nat} {kvs : List (Key × D)} (ns : List Int) (hS : S[n]? = some (.dct kvs)) (hk : kvs.map (·.1) = ns.map Sum.inl) (h : WE (mkL mm (ns.map D.int) S) Q) : WE (opListD mm [.ref n] S) Q := by
  unfold opListD
  have e : (ns.map Sum.inl).map kD = ns.map D.int := by
    rw [List.map_map]
    rfl
  simp only [asD_ref hS, hk, e]
  exact h
theorem w_dpop {f g : EvE} (h : WE (f σ S) fun d S1 => ∃ n kvs0, d = .ref n ∧ S1[n]? = some (.dct kvs0) ∧ WE (g σ S1) fun y S2 => ∃ kvs j z, S2[n]? = some (.dct kvs) ∧ keyD y = some j ∧ lk kvs j = some z ∧ Q z (S2.set n (.dct (dropD kvs j)))) : WE (evDPop f g σ S) Q := by
  unfold evDPop
  refine w_bind (h.mono fun d S1 ⟨n, kvs0, e, he, q⟩ => ?_)
  subst e
  rw [asD_ref he]
  refine w_bind (q.mono fun y S2 ⟨kvs, j, z, e1, e2, e3, q⟩ => ?_)
  simp only [e1, e2, e3]
  exact q
theorem w_ddel {f g : EvE} (h : WE (f σ S) fun d S1 => WE (g σ S1) fun y S2 => ∃ n kvs j, d = .ref n ∧ S2[n]? = some (.dct kvs) ∧ keyD y = some j ∧ (lk kvs j).isSome = true ∧ N σ (S2.set n (.dct (dropD kvs j)))) : WS (evDDel f g σ S) N B C R :=
  w_stm (h.mono fun d S1 q => w_stm (q.mono fun y S2 ⟨n, kvs, j, e, e1, e2, e3, q4⟩ => by
    subst e
    simp only [e1, e2]
    rw [if_pos e3]
    exact q4))
end
end DL
/-! DL, part 19: [m[k][x][j] for x in m[k]]. -/
namespace DL
open PySem PySem.Spec PyProof.Rows L2
/-- the j-th items of the tuples that a dict has -/
def colI (j : Nat) : List (Key × D) → Option (List Int)
  | [] => some []
  | (_, .tup ds) :: r => match ds[j]? with
    | some (.int z) => (colI j r).map (z :: ·)
    | _ => none
  | _ :: _ => none
theorem colI_len {j : Nat} : ∀ {kvs : List (Key × D)} {zs : List Int}, colI j kvs = some zs → zs.length = kvs.length
  | [], zs, e => by cases e; rfl
  | (k, d) :: r, zs, e => by
    unfold colI at e
    split at e
    · rename_i h; cases h
    · rename_i h
      cases h
      split at e
      · rename_i e1
        cases e2 : colI j r with
        | none => rw [e2] at e; cases e
        | some ms =>
          rw [e2] at e
          cases e
          rw [List.length_cons, List.length_cons, colI_len e2]
      · cases e
    · cases e
theorem colI_ok {K : PySem.W.Frag} {F : Hp} {fs : List Addr} {j : Nat} : ∀ {kvs : List (Key × D)} {us : List (Key × V)} {zs : List Int}, RepKV K F fs kvs us → colI j kvs = some zs →
    ∀ (i : Nat) (k : Key) (v : V), us[i]? = some (k, v) → ∃ (t : Addr) (ys : List V) (z : Int), v = V.ref t ∧ F t = some (.tup ys) ∧ ys[j]? = some (.int z) ∧ zs[i]? = some z
  | [], us, zs, r, e, i, k, v, h => by
    rw [show us = [] from r] at h
    cases h
  | (k0, d) :: r, us, zs, h0, e, i, k, v, h => by
    obtain ⟨x, xr, e0, h1, h2⟩ := h0
    subst e0
    unfold colI at e
    split at e
    · rename_i h; cases h
    · rename_i hh
      cases hh
      split at e
      · rename_i z e1
        cases e2 : colI j r with
        | none => rw [e2] at e; cases e
        | some ms =>
          rw [e2] at e
          cases e
          cases i with
          | zero =>
            cases h
            have h1 : Rep K F fs (.tup _) v := h1
            rw [Rep] at h1
            obtain ⟨t, ys, f1, f2, f3⟩ := h1
            obtain ⟨y, f4, f5⟩ := RepL.at' f3 e1
            obtain rfl := rep_int f5
            exact ⟨t, ys, z, f1, f2, f4, rfl⟩
          | succ i =>
            obtain ⟨t, ys, z', f1, f2, f3, f4⟩ := colI_ok h2 e2 i k v h
            exact ⟨t, ys, z', f1, f2, f3, f4⟩
      · cases e
    · cases e
def evDCol (slot : Nat) (key : Str) (i0 j : Nat) : EvE := fun σ S => match σ[slot]? with
  | some (some (.ref nm)) => match S[nm]? with
    | some (.dct mk) => match lk mk (.inr key) with
      | some (.ref n) => match S[n]? with
        | some (.dct kvs) => match colI j kvs with
          | some zs => gd ((n ≠ nm ∧ (kvs.map (·.1)).Nodup ∧ zs.length ≤ 100000) ∧ i0 ≠ slot ∧ i0 < σ.length) (mkL false (zs.map D.int) S)
          | none => .stuck
        | _ => .stuck
      | _ => .stuck
    | _ => .stuck
  | _ => .stuck
theorem valV_at {κ : Type} [DecidableEq κ] : ∀ {us : List (κ × V)} {i : Nat} {k : κ} {v : V}, (us.map (·.1)).Nodup → us[i]? = some (k, v) → valV us k = some v
  | [], _, _, _, _, h => by cases h
  | p :: us, 0, k, v, _, h => by
    cases h
    unfold valV
    simp
  | p :: us, i + 1, k, v, n, h => by
    have n' := List.nodup_cons.mp n
    have ih := valV_at (us := us) (i := i) n'.2 h
    have ne : p.1 ≠ k := fun e => n'.1 (by show p.1 ∈ _; rw [e]; exact List.mem_map.mpr ⟨(k, v), List.mem_of_getElem? h, rfl⟩)
    unfold valV at ih ⊢
    rw [List.find?_cons]
    simp only [ne, decide_false]
    exact ih
theorem dcol_of {K : PySem.W.Frag} {W : WX} {slot i0 j : Nat} {key : Str} {σv : L2.St} {H : Hp} {Q : VK} (q : tE K W (evDCol slot key i0 j) σv H Q) :
    tLockE (tLc (iKeys (tDGet (tVar slot) (tC (.str key)))) (gName i0) tYes (tOp (rIx K) (tDGet (tDGet (tVar slot) (tC (.str key))) (tVar i0)) (tC (.int j))) [i0]) σv H Q := by
  obtain ⟨fs, F, σ, S, rs, m, p⟩ := q
  unfold evDCol at p
  split at p
  · rename_i nm e1
    split at p
    · rename_i mk e2
      split at p
      · rename_i n e3
        split at p
        · rename_i kvs e4
          split at p
          · rename_i zs e5
            obtain ⟨⟨⟨hne, hnd, hz⟩, hi, hl⟩, p⟩ := p.gd
            rw [rs.len] at hl
            obtain ⟨v, hσ, r⟩ := rs.at' slot _ e1
            rw [Rep] at r
            obtain ⟨ma, rfl, hma⟩ := r
            obtain ⟨ma', q1, hFm, mv, hHm, rm⟩ := m.ob nm _ e2 rfl
            rw [hma] at q1; cases q1
            obtain ⟨dv, hdv, rd⟩ : ∃ dv, valV mv (Sum.inr key) = some dv ∧ Rep K F fs (.ref n) dv := by
              have := RepKV.lk (Sum.inr key) rm
              rw [e3] at this
              exact this
            rw [Rep] at rd
            obtain ⟨d, rfl, hd⟩ := rd
            obtain ⟨d', q2, hFd, us, hHd, ru⟩ := m.ob n _ e4 rfl
            rw [hd] at q2; cases q2
            have hdm : d ≠ ma := fun e => hne (m.inj n nm d _ _ e4 rfl e2 rfl hd (by rw [e]; exact hma))
            have hlen : zs.length = us.length := by rw [colI_len e5, ru.length]
            have hnu : (us.map (·.1)).Nodup := by rw [ru.keys]; exact hnd
            refine ⟨d, .dK us, hHd, trivial, fun od => ?_⟩
            generalize hH1 : upd H d (.frz od (.dK us)) = H1
            have h1d : H1 d = some (.frz od (.dK us)) := by rw [← hH1]; exact upd_same
            have h1n : ∀ b, b ≠ d → H1 b = H b := fun b hb => by rw [← hH1]; exact upd_ne hb
            have gm : ∀ H2 : Hp, H2 ma = H1 ma → DGet H2 ma (.str key) (some (.ref d)) := fun H2 h => .inl ⟨mv, Sum.inr key, .inl (by rw [h, h1n ma (Ne.symm hdm)]; exact hHm), rfl, hdv.symm⟩
            refine ⟨_, hσ, ma, _, rfl, gm H1 rfl, d, od, rfl, .inl ⟨us, h1d, fun Dd hDd => ?_⟩⟩
            have hDne : Dd ≠ d := fun e => by rw [e, h1d] at hDd; cases hDd
            have hDH : H Dd = none := by rw [← h1n Dd hDne]; exact hDd
            have hDm : Dd ≠ ma := fun e => by rw [e, hHm] at hDH; cases hDH
            refine ⟨fun i mm H' => H' = upd H1 Dd (.lst ((zs.take i).map V.int)) ∧ i ≤ us.length ∧ mm = us.length - i, ⟨us.length, rfl, Nat.zero_le _, rfl⟩, fun i mm H' ⟨eH, hiu, em⟩ => ?_⟩
            have hHd' : H' d = some (.frz od (.dK us)) := by rw [eH, upd_ne (Ne.symm hDne)]; exact h1d
            have le' : ∀ a o, F a = some o → H' a = some o := fun a o h => by
              have ha := m.le a o h
              have n1 : a ≠ d := fun e => by rw [e, hFd] at h; cases h
              have n2 : a ≠ Dd := fun e => by rw [e, hDH] at ha; cases ha
              rw [eH, upd_ne n2, h1n a n1]
              exact ha
            by_cases hlt : i < us.length
            · refine .inr ⟨⟨hHd', hlt⟩, fun H'' => H'' = upd H1 Dd (.lst ((zs.take (i + 1)).map V.int)), fun H'' h => ⟨us.length - (i + 1), by omega, h, hlt, rfl⟩, fun x H'' hy => ?_⟩
              obtain ⟨eH2, k, v, hu, ex⟩ := hy
              subst ex
              obtain ⟨t, ys, z, rfl, ft, fy, fz⟩ := colI_ok ru e5 i k v hu
              have ls : (L2.wipe σv [i0]).length = σv.length := wipe_length _ _
              have s1 : ((L2.wipe σv [i0]).set i0 (some (kV k)))[slot]? = some (some (V.ref ma)) := by
                rw [List.getElem?_set_ne hi]
                show (σv.set i0 none)[slot]? = _
                rw [List.getElem?_set_ne hi]
                exact hσ
              have s2 : ((L2.wipe σv [i0]).set i0 (some (kV k)))[i0]? = some (some (kV k)) := List.getElem?_set_self (by rw [ls]; exact hl)
              refine ⟨?_, ?_⟩
              · show ((σv.set i0 none).set i0 (some (kV k))).set i0 none = σv.set i0 none
                rw [List.set_set, List.set_set]
              · simp only [tYes, if_true]
                rw [eH2]
                refine ⟨_, s1, ma, _, rfl, gm H' (by rw [eH, upd_ne (Ne.symm hDm)]), _, s2, d, V.ref t, rfl, .inl ⟨us, k, .inr ⟨od, hHd'⟩, rfl, (valV_at hnu hu).symm⟩, .inr (.inl ⟨t, ys, j, .int z, rfl, rfl, .inl (.inl (le' _ _ ft)), ?_, ?_⟩)⟩
                · have hj := (List.getElem?_eq_some_iff.mp fy).1
                  unfold atI ixN
                  rw [if_pos (by omega), if_pos (by omega)]
                  show ys[((j : Int)).toNat]? = _
                  rw [Int.toNat_natCast]
                  exact fy
                · refine ⟨(zs.take i).map V.int, by rw [eH]; exact upd_same, ?_, ?_⟩
                  · rw [List.length_map, List.length_take]
                    exact Nat.lt_of_le_of_lt (show min i zs.length ≤ 100000 by omega) (by decide)
                  · have et : zs.take (i + 1) = zs.take i ++ [z] := by
                      rw [List.take_add_one, fz]
                      rfl
                    rw [et, List.map_append, eH]
                    funext b
                    by_cases hb : b = Dd
                    · rw [hb, upd_same, upd_same]
                      rfl
                    · rw [upd_ne hb, upd_ne hb, upd_ne hb]
            · have ei : i = us.length := by omega
              refine .inl ⟨⟨hHd', by omega⟩, hHd', ?_⟩
              have e6 : upd H' d (.dK us) = upd H Dd (.lst (zs.map V.int)) := by
                funext b
                by_cases hb : b = d
                · rw [hb, upd_same, upd_ne (Ne.symm hDne)]
                  exact hHd.symm
                · rw [upd_ne hb, eH]
                  by_cases hb2 : b = Dd
                  · rw [hb2, upd_same, upd_same, ei, ← hlen, List.take_length]
                  · rw [upd_ne hb2, upd_ne hb2, h1n b hb]
              rw [e6]
              exact fresh_lst m p (ints_repD zs) hDH
          · exact False.elim p
        · exact False.elim p
      · exact False.elim p
    · exact False.elim p
  · exact False.elim p
section
variable {X : Cx} {W : WX} {target : Expr}
theorem je_dcol {slot i0 j : Nat} {key : Str} {iter elt : Expr} {scope : Scope} {own : List (Str × Nat)} {pos : Pos} (ho : own.map (·.2) = [i0]) (hc : X.calm = true) (hN : X.N.Nodup) (hM : PE X iter (tDGet (tVar slot) (tC (.str key)))) (hB : BlkOk X.N X.env.scope scope own)
    (hg : ∀ (s : Shared) (H : Hp) (C : Addr) (cl : List (Str × Addr)) (fp : List Addr), PG (X.blk s H scope (compEnvC scope cl C X.env) fp) target (gName i0))
    (hE : ∀ (s : Shared) (H : Hp) (C : Addr) (cl : List (Str × Addr)) (fp : List Addr), PE (X.blk s H scope (compEnvC scope cl C X.env) fp) elt (tOp (rIx X.K) (tDGet (tDGet (tVar slot) (tC (.str key))) (tVar i0)) (tC (.int j))))
    (hs : ∀ x, foldedSetIterable iter X.env x = pure x := by intro _; rfl) :
    JE X W (.ListComp elt [{ target := target, iter := iter, ifs := [], is_async := 0 }] scope pos) (evDCol slot key i0 j) :=
  PE.imp (pe_lock (pe_lc hc hN (pi_keys hM) hB hg (fun _ _ _ _ _ => pts_nil) hE hs)) fun σ H Q q => by
    rw [ho]
    exact dcol_of q
end
section
variable {σ : Sg} {S : Store} {Q : D → Store → Prop}
theorem w_dcol {slot i0 j nm n : Nat} {key : Str} {mk kvs : List (Key × D)} {zs : List Int} (e1 : σ[slot]? = some (some (.ref nm))) (e2 : S[nm]? = some (.dct mk)) (e3 : lk mk (.inr key) = some (.ref n)) (e4 : S[n]? = some (.dct kvs)) (e5 : colI j kvs = some zs)
    (hn : n ≠ nm) (hd : (kvs.map (·.1)).Nodup) (hz : zs.length ≤ 100000) (hi : i0 ≠ slot) (hl : i0 < σ.length) (h : Q (.lst (zs.map D.int)) S) : WE (evDCol slot key i0 j σ S) Q := by
  unfold evDCol
  simp only [e1, e2, e3, e4, e5]
  exact w_gd ⟨⟨hn, hd, hz⟩, hi, hl⟩ h
end
end DL
/-! DX, part 1: an exception class whose __init__ says super().__init__(at); self.at = at. -/
namespace DL
open PySem L2
section
open PySem.W PySem.Calls PyProof.Rows
/-- the body of such an __init__ -/
def wiBody (p0 p1 p2 p3 p4 p5 p6 p7 p8 p9 : Pos) : List Stmt :=
  [.Expr (.Call (.Attribute (.Call (.Name "super" p0) [] [] p1) "__init__" p2) [.Name "at" p3] [] p4) p5, .Assign [.Attribute (.Name "self" p6) "at" p7] (.Name "at" p8) p9]
/-- its scope and its parameters -/
def wiScope : Scope := { kind := .function, names := [("self", .local), ("at", .local), ("__class__", .free), ("super", .globalImplicit)], isGenerator := false, isCoroutine := false, more := [] }
def wiPars (pa pb : Pos) : Arguments := { posonlyargs := [], args := [{ arg := "self", annotation := none, pos := pa }, { arg := "at", annotation := none, pos := pb }], vararg := none, kwonlyargs := [], kw_defaults := [], kwarg := none, defaults := [] }
/-- what hangs on the places in the text -/
structure WiPos (qual : Str) (p0 p1 p2 p3 p4 p5 p6 p7 p8 p9 : Pos) : Prop where
  call : ∀ (L fa cc : Addr) (cd : Value), ∃ pl : Sem Bool, eval (.Call (.Attribute (.Call (.Name "super" p0) [] [] p1) "__init__" p2) [.Name "at" p3] [] p4) (ksEnv qual wiScope L fa cd cc) = (do
      let ov ← attributeBase (.Call (.Name "super" p0) [] [] p1) "__init__" (ksEnv qual wiScope L fa cd cc) (eval (.Call (.Name "super" p0) [] [] p1) (ksEnv qual wiScope L fa cd cc))
      standAt p2.atName
      let (f, first) ← holding [ov] (getMethod ov "__init__" pl)
      callWith p4 f first (backTo p4 (starEach [.Name "at" p3] (ksEnv qual wiScope L fa cd cc))) [])
  swap : ∀ (L fa cc : Addr) (cd : Value), swapsWith (.Name "at" p8) (some (.Attribute (.Name "self" p6) "at" p7)) p9.line (ksEnv qual wiScope L fa cd cc) = pure false
/-- the def of such an __init__ as it stands behind the top -/
structure WiFn (P : Program) (K : Frag) (D fI : Addr) : Prop where
  ex : ∃ (cc cda : Addr) (qual : Str) (pa pb p0 p1 p2 p3 p4 p5 p6 p7 p8 p9 : Pos) (oc kV doc pm ct : Value) (od an : Option Addr) (osl : Array (Option Value)) (vs : Array Value) (file : Str) (tf : Tok) (ccl cl : Value) (cdd cld : Option Addr) (ccs csl : Array (Option Value)) (cdD : ClassData),
    WiPos qual p0 p1 p2 p3 p4 p5 p6 p7 p8 p9 ∧ K.lookup fI = some ⟨oc, od, .func (ksFn "__init__" qual (wiPars pa pb) (wiBody p0 p1 p2 p3 p4 p5 p6 p7 p8 p9) wiScope .none kV doc pm an (.ref cda) ct cc), osl⟩ ∧ codeIn K (.ref cda) qual = true ∧
    K.lookup cda = some ⟨ccl, cdd, .fields vs, ccs⟩ ∧ vs[2]? = some (.str file tf) ∧ ((P.main.file : Str) == file) = true ∧ (P.main.scope.names.lookup ("super" : Str)).isSome = false ∧
    K.lookup cc = some ⟨cl, cld, .cell (some (.ref D)), csl⟩ ∧ clsIn K D = some cdD
/-- a class that is made by it -/
structure WiCl (K : Frag) (D C fI : Addr) : Prop where
  cls : OexC K C
  init : findIn K (.ref C) "__init__" = some (some (.ref fI))
  typ : typeIn K (.ref fI) = some (.type "function")
  sub : mroIn K C (.ref D) = some true
  opq : nsIn K cStatics "thirdparty.any" = some none
  sup : ks_superIn K C D "__init__" = some (some (.builtin "ValueError.__init__"))
  subV : subIn K (.ref C) (.type "ValueError") = some true
  noat : findIn K (.ref C) "at" = some none
theorem wi_call {P : Program} {w : World} {K : Frag} {mg : Str → Option Value} {A : Around} {s : Shared} {R : Result → Shared → Prop} {D C fI e t : Addr} {u : Value} (W : WiFn P K D fI) (T : WiCl K D C fI) (KX : K.In s.heap) (G : s.heap.Ns mainGlobals mg) (hsup : mg "super" = none)
    (B : ∃ mb, s.heap.Ns builtinsNs mb ∧ ∀ x : Str, x ≠ "__name__" → mb x = bootBuiltins x) (lim : s.heap.NoLimit) (hroom : A.depth < recursionLimit) (hKe : ∀ a o, K.lookup a = some o → a ≠ e) (he : s.heap.get? e = some (HandSPX.excO C t))
    (h : ∀ h' tk' dx t1, (∀ b o, b ≠ e → s.heap.get? b = some o → h'.get? b = some o) → s.heap.objs.size ≤ dx → dx ≠ e →
      h'.get? e = some { cls := .ref C, dict := some dx, data := .fields #[.ref t1, .none, .none, .none, .bool false, .none] } → h'.Ns1 dx (fun y => if y = "at" then some u else none) → R (.ok (.ret .none)) { s with heap := h', toks := tk' }) :
    codeAny (model P w) A (.call (.ref fI) ⟨[.ref e, u], []⟩) R s := by
  obtain ⟨cc, cda, qual, pa, pb, p0, p1, p2, p3, p4, p5, p6, p7, p8, p9, oc, kV, doc, pm, ct, od, an, osl, vs, file, tf, ccl, cl, cdd, cld, ccs, csl, cdD, PP, lk, hcd, lcd, hvs, hfile, htop, lcc, hD⟩ := W.ex
  obtain ⟨nm, q, N, bs, bm, sn, sb, ab, col, dd, k0, k1, k2, k3, k5, hC, hbm⟩ := T.cls.cls
  have hcl : clsIn K C = some { name := nm, bases := bs, mro := .ref C :: bm, ns := N, qualname := q, hasDict := true, slotNames := sn, subclasses := sb, abstract := ab, collection := col, hasDel := false } := by unfold clsIn; rw [hC] <;> rfl
  refine ks_codeAny_call_defAt (binds := [(("self" : Str), .ref e), (("at" : Str), u)]) hroom (KX _ _ lk) rfl lim (codeRec_of KX hcd) rfl (BindsTo.of_eq rfl) (show ∀ x ∈ wiScope.names, x.2 ≠ .cell by decide +kernel) (fun y hy => ?_) (fun h₁ hns kk1 => ?_) rfl rfl rfl
  · rcases List.mem_cons.mp hy with rfl | hy
    · rfl
    · rw [List.mem_singleton.mp hy]; rfl
  obtain ⟨hp, g, d, tk, os⟩ := s
  have X1 : K.In h₁ := fun a o l => kk1 _ _ (KX a o l)
  obtain ⟨mb, mb1, mb2⟩ := B
  have he1 := kk1 _ _ he
  have hL : hp.objs.size < h₁.objs.size := hns.lt
  have heL : e ≠ hp.objs.size := Nat.ne_of_lt (Heap.lt_size he)
  obtain ⟨oD, hD1, hD2⟩ : ∃ oD, h₁.get? D = some oD ∧ oD.data = .cls cdD := by
    unfold clsIn at hD
    split at hD
    · rename_i c d cd' sl ho
      cases hD
      exact ⟨_, X1 _ _ ho, rfl⟩
    · cases hD
  have eC : e ≠ C := by
    rintro rfl
    have z := X1 _ _ hC
    rw [he1] at z
    cases z
  show PySem.wpAt (model P w) (A.deeper (ksEnv qual wiScope hp.objs.size fI (.ref cda) cc)) (.func _ (ksEnv qual wiScope hp.objs.size fI (.ref cda) cc)) (execs (wiBody p0 p1 p2 p3 p4 p5 p6 p7 p8 p9) (ksEnv qual wiScope hp.objs.size fI (.ref cda) cc)) _ _ _
  obtain ⟨pl, hpl⟩ := PP.call hp.objs.size fI cc (.ref cda)
  refine ks_wpAt_execs_cons (ks_wpAt_Expr_any (ks_wpAt_MethodCall ?_ hpl))
  refine ks_wpAt_super_base (env := ksEnv qual wiScope hp.objs.size fI (.ref cda) cc) rfl rfl (by decide) rfl (X1 _ _ lk) rfl rfl rfl (X1 _ _ lcd) rfl hvs hfile htop ?_
  refine ks_loadName_global rfl rfl (loadGlobal_builtin (env := ksEnv qual wiScope hp.objs.size fI (.ref cda) cc) (G.keeps kk1) hsup (mb1.keeps kk1) ((mb2 _ (by decide)).trans (by decide +kernel)) ⟨rfl, ?_⟩)
  refine wpAny_loadName_free rfl rfl rfl ⟨_, X1 _ _ lcc, rfl⟩ ?_
  refine wpAny_loadName_local (env := ksEnv qual wiScope hp.objs.size fI (.ref cda) cc) rfl rfl hns rfl ?_
  refine ks_wpAny_isType_cls hD1 hD2 ⟨rfl, ?_⟩
  refine ks_wpAny_call_super hD1 hD2 he1 rfl (fun c z => by cases z) (looks_mroIn X1 T.sub) (fun h2 e2 kk2 => ?_)
  have X2 : K.In h2 := fun a o l => kk2 _ _ (X1 a o l)
  have hf := T.sup
  unfold ks_superIn at hf
  rw [hcl] at hf
  have he2 := kk2 _ _ he1
  have I2 : InstAt h2 e (HandSPX.excO C t) C none := ⟨he2, rfl, rfl, trivial⟩
  refine kxs_getMethod kxs_ValueError e2 (looks_opaque X2 T.opq) (l₀ := .ref C :: bm) (fun A Q E s k q => wpAny_bind ((looks_clsIn X2 hcl) A _ E s k (wpAny_pure q))) rfl X2 hf (I2.type.andThen (looks_subIn X2 T.subV)) eC (by decide) ?_
  have kk3 : ∀ b o, h2.get? b = some o → (h2.push (kxs_mw "ValueError.__init__" e)).get? b = some o := fun b o z => Heap.get?_push_of_some _ z
  have hns3 : (h2.push (kxs_mw "ValueError.__init__" e)).Ns hp.objs.size (fun x => [(("self" : Str), Value.ref e), (("at" : Str), u)].reverse.lookup x) := (hns.keeps kk2).keeps kk3
  have mw3 : (h2.push (kxs_mw "ValueError.__init__" e)).get? h2.objs.size = some (kxs_mw "ValueError.__init__" e) := Heap.get?_push_at rfl rfl
  refine kxs_callWith (i := "ValueError.__init__") (x := e) rfl (evalArgs_plain (spliced_cons (wpAny_Name (wpAny_loadName_local (env := ksEnv qual wiScope hp.objs.size fI (.ref cda) cc) rfl rfl hns3 rfl ?_) (by decide))))
  refine spliced_nil ⟨mw3, ?_⟩
  have he3 := kk3 _ _ he2
  have X3 : K.In (h2.push (kxs_mw "ValueError.__init__" e)) := fun a o l => kk3 _ _ (X2 a o l)
  refine wpAny_call (codeAny_of_tree ?_)
  show wpAny _ _ (callAny (.ref h2.objs.size) ⟨[u], []⟩) _ _ _
  simp only [callAny]
  refine wpAny_bind (wpAny_load mw3 ?_)
  simp only [kxs_mw, show (Value.type "method-wrapper" == Value.type "method" || Value.type "method-wrapper" == Value.type "builtin_function_or_method" || Value.type "method-wrapper" == Value.type "method-wrapper") = true by decide, if_true]
  refine KFB.if_so (by decide) ?_
  refine wpAny_bind (check_bound_init F.excBase_ValueError.toExcCallFacts (X3 _ _ hC) he3 rfl ?_)
  refine wpAny_bind (wpAny_pure (wpAny_pure ?_))
  refine ⟨plainId_quiet F.excBase_ValueError.init.plain _, codeAny_builtin F.excBase_ValueError.initEntry ?_⟩
  refine exc_init_tree (cls := .ref C) (t0 := t) (dv := none) (c2 := .none) (c3 := .none) (b4 := .bool false) he3 (by rw [sizeLine_eq]; exact Nat.le_of_ble_eq_true rfl) fun h4 kk4 he4 ht4 => ?_
  have up : ∀ b o, b ≠ e → h₁.get? b = some o → h4.get? b = some o := fun b o nb z => kk4 b o nb (kk3 _ _ (kk2 _ _ z))
  have X4 : K.In h4 := fun a o l => up _ _ (hKe a o l) (X1 a o l)
  show PySem.wpAt (model P w) (A.deeper (ksEnv qual wiScope hp.objs.size fI (.ref cda) cc)) (.func _ (ksEnv qual wiScope hp.objs.size fI (.ref cda) cc)) (execs [.Assign [.Attribute (.Name "self" p6) "at" p7] (.Name "at" p8) p9] (ksEnv qual wiScope hp.objs.size fI (.ref cda) cc)) _ _ _
  refine ks_wpAt_execs_cons (ks_wpAt_Assign_Attr ?_ (PP.swap _ _ _ _))
  have hns4 : h4.Ns hp.objs.size (fun x => [(("self" : Str), Value.ref e), (("at" : Str), u)].reverse.lookup x) := by
    obtain ⟨oL, es, ep, hL, r⟩ := hns
    exact ⟨oL, es, ep, up _ _ heL.symm hL, r⟩
  refine wpAt_of_wpAny (wpAny_Name (wpAny_loadName_local (env := ksEnv qual wiScope hp.objs.size fI (.ref cda) cc) rfl rfl hns4 rfl ?_) (by decide))
  refine wpAny_Name (wpAny_loadName_local (env := ksEnv qual wiScope hp.objs.size fI (.ref cda) cc) rfl rfl hns4 rfl ?_) (by decide)
  refine set_plain X4 (ox := HandSPX.excO C (h2.push (kxs_mw "ValueError.__init__" e)).objs.size) (od := none) ⟨he4, rfl, rfl, trivial⟩ T.cls.sa ?_
  refine HandSPX.exc_osa X4 he4 hcl (show HandSPX.refsVE (.ref C :: bm) = true from hbm) rfl T.noat (fun h5 tk5 dx kk5 dn dne he5 hns5 => ?_)
  show PySem.wpAt _ _ _ (execs [] _) _ _ _
  refine wpAt_of_wpAny (wpAny_execs_nil ?_)
  refine h h5 tk5 dx _ (fun b o nb z => kk5 b o nb (up b o nb (kk1 b o z))) ?_ dne he5 hns5
  have l1 := Heap.lt_size e2
  have l2 := Heap.lt_size mw3
  have l3 := Heap.lt_size ht4
  exact Nat.le_trans (Nat.le_of_lt (Nat.lt_trans (Nat.lt_trans (Nat.lt_trans hL l1) l2) l3)) dn

variable {X : Cx}
/-- C(e) -/
theorem pmk_wi {x : Str} {p pos : Pos} {a : Expr} {te : TE} {k : Nat} {D C fI : Addr} (W : WiFn X.prog X.K D fI) (T : WiCl X.K D C fI) (hsup : X.mg "super" = none) (hr : Room (k + 2) X.A) (hg : Gl X x) (hm : X.mg x = some (.ref C)) (ha : PE X a te)
    (hdb : (x == ("__debug__" : Str)) = false := by decide) (he : starEach [a] X.env = (false, eval a X.env) :: starEach [] X.env := by rfl) :
    PMk X (.Call (.Name x p) [a] [] pos) (fun σ H Q => te σ H fun v H1 => ∀ d, H1 d = none → Q (.ref C) (some d) (upd H1 d (.xd [("at", v)]))) := by
  intro pins s σ H Q I h
  obtain ⟨nm, q, N, bs, bm, sn, sub, ab, col, dd, k0, k1, k2, k3, k5, hC, hbm⟩ := T.cls.cls
  refine wpAny_Call_Name_kw (ld_glob I hg hm ?_ hdb)
  have hA : PA X [a] (tCons te tNil) := pa_cons ha pa_nil he
  refine PySem.W.callWith_K (h₀ := X.base) I.ok.mod.kin T.cls.kC (thn (hA.run pos pins s σ H (fun vs H1 => match vs with | [v] => ∀ d, H1 d = none → Q (.ref C) (some d) (upd H1 d (.xd [("at", v)])) | _ => False) I h) fun us s1 hh => ?_) he rfl
  obtain ⟨vs, H1, I1, r1, q1⟩ := hh
  refine ⟨I1.kIn, ?_⟩
  cases r1 with
  | nil => exact False.elim q1
  | cons ru rn =>
   rename_i v u vs' us'
   cases rn with
   | cons _ _ => exact False.elim q1
   | nil =>
    have q1 : ∀ d, H1 d = none → Q (.ref C) (some d) (upd H1 d (.xd [("at", v)])) := q1
    show wpAny _ _ (call (.ref C) [u]) _ _ _
    have X1 := I1.kIn
    have G1 : s1.heap.Ns mainGlobals X.mg := I1.mod.glob.keeps I1.bk
    have B1 : ∃ mb, s1.heap.Ns builtinsNs mb ∧ ∀ x : Str, x ≠ "__name__" → mb x = bootBuiltins x := by
      obtain ⟨mb, h1, h2⟩ := I1.mod.blt
      exact ⟨mb, h1.keeps I1.bk, h2⟩
    have L1 : s1.heap.NoLimit := I1.ok.mod.nolimit.keeps I1.bk
    have hKe : ∀ a o, X.K.lookup a = some o → a ≠ s1.heap.objs.size + 1 := fun a o l z => by
      have y := Heap.lt_size (X1 _ _ l)
      rw [z] at y
      exact absurd y (Nat.not_lt.mpr (Nat.le_succ _))
    obtain ⟨hp, g, dr, tk, os⟩ := s1
    have kk : ∀ b o, hp.get? b = some o → ((hp.push (PySem.W.kdv_tup [u])).push (PySem.HandSPX.excO C hp.objs.size)).get? b = some o := fun b o e => Heap.get?_push_of_some _ (Heap.get?_push_of_some _ e)
    have hget : ((hp.push (PySem.W.kdv_tup [u])).push (PySem.HandSPX.excO C hp.objs.size)).get? (hp.objs.size + 1) = some (PySem.HandSPX.excO C hp.objs.size) := by heap_get
    refine wpAny_call (PySem.HandSPX.call_own F.excBase_ValueError (fun Y => PySem.HandSPX.refsVE_contains Y bm hbm) (X1 _ _ hC) (PySem.W.looks_findIn X1 T.init) (fun self => PySem.W.bind_fn X1 self T.typ) (by rw [sizeLine_eq]; exact Nat.le_of_ble_eq_true rfl)
      (wi_call W T (fun a o l => kk _ _ (X1 a o l)) (G1.keeps kk) hsup (let ⟨mb, b1, b2⟩ := B1; ⟨mb, b1.keeps kk, b2⟩) (L1.keeps kk) (hr.make C [u] []).depth hKe hget fun h' tk' dx t1 k' dn dne he' hns' => ?_))
    have nea : ∀ {b : Addr} {o : Obj}, hp.get? b = some o → b ≠ hp.objs.size + 1 := fun {b o} z => Nat.ne_of_lt (Nat.lt_of_lt_of_le (Heap.lt_size z) (Nat.le_succ _))
    obtain ⟨Gp, g1', g2'⟩ := restrict h' fun b => decide (b ≠ hp.objs.size + 1)
    have gk : ∀ b, b ≠ hp.objs.size + 1 → Gp.get? b = h'.get? b := fun b hb => g1' b (decide_eq_true hb)
    have ge : Gp.get? (hp.objs.size + 1) = none := g2' _ (by simp)
    have hdx : hp.objs.size ≤ dx := Nat.le_trans (by simp [Heap.size_push]; omega) dn
    have J : Inv X pins σ (upd H1 dx (.xd [("at", v)])) ⟨Gp, g, dr, tk', os⟩ := I1.laid (t' := tk') (h' := Gp) (fun b o z => (gk b (nea z)).trans (k' b o (nea z) (kk b o z))) hdx
      ⟨_, hns'.at fun o y => (gk dx dne).trans y, fun f => relO_put (fs := []) (mA := fun _ => none) ru (fun g => True.intro) f⟩
    have na : (upd H1 dx (.xd [("at", v)])) (hp.objs.size + 1) = none := by
      rw [upd_ne (Ne.symm dne)]
      exact I1.hok.fresh (Nat.le_succ _)
    have hd1 : H1 dx = none := I1.hok.fresh hdx
    refine ⟨rfl, ?_⟩
    exact ⟨hp.objs.size + 1, _, _, ⟨Gp, g, dr, tk', os⟩, _, .ref C, some dx, rfl, J, fun b o z => by
      by_cases hb : b = hp.objs.size + 1
      · rw [hb, ge] at z; cases z
      · exact (gk b hb).symm.trans z, ge, he', ⟨rfl, rfl⟩, rfl, rfl, na, rfl, I1.bare, raises_own T.cls.exC T.cls.tyC, q1 dx hd1⟩
end
end DL
/-! DX, part 2: raise; calls that raise; a def that raises, by its body. -/
namespace DL
open PySem L2
section
variable {X : Cx} {W : WX} {e a b c o : Expr} {es : List Expr} {f g h' : EvE} {gl : EvL} {pos pos' apos p : Pos} {nm m x : Str} {k j np : Nat} {fn : List D → Store → Out D} {C : Addr}
/-- raise C(e) -/
def evRaise (C : Addr) (f : EvE) : EvS := fun σ S => (f σ S).stm σ fun d S1 => .exc C d σ S1
theorem js_raise {D' fI : Addr} (Wf : WiFn X.prog X.K D' fI) (T : WiCl X.K D' C fI) (hsup : X.mg "super" = none) (hm : X.mg x = some (.ref C)) (hr : Room (k + 2) X.A) (hg : Gl X x) (hc : X.calm = true) (tk : Takes X W) (ha : JE X W a f)
    (hdb : (x == ("__debug__" : Str)) = false := by decide) (he : starEach [a] X.env = (false, eval a X.env) :: starEach [] X.env := by rfl) : JS X W (.Raise (some (.Call (.Name x p) [a] [] pos')) none pos) (evRaise C f) :=
  PS.imp (ps_raise hc tk (pmk_wi Wf T hsup hr hg hm ha hdb he)) fun Dn σv H ⟨fs, F, σ, S, rs, m, q⟩ => tG.stm rs m q fun d S1 fs1 F1 H1 v rs1 m1 g1 r1 p1 => fun dx hdx =>
    p1 fs1 F1 _ σv dx v (gr_side (Gr.refl _ _ _) hdx _) (mt_side m1 (F_none m1 hdx) (fs_none m1 hdx) _) rs1 upd_same r1
/-! ### calls whose exceptions go on -/
def opCallX (np : Nat) (fn : List D → Store → Out D) (ds : List D) (S : Store) : Out D := gd (ds.length = np) (fn ds S)
theorem je_callX {fa : Addr} {fd : FuncData} {ps : List Str} (tk : Takes X W) (G : FnOk X.prog X.w X.K X.mg X.base (L2.CX X.prog X.w) k fa fd ps (spD X.K np fn)) (hr : Room k X.A) (hg : Gl X x) (hm : X.mg x = some (.ref fa)) (hk : PySem.W.keepIn X.K (.ref fa) = true) (hb : Binds X.K fd ps [])
    (ha : JA X W (e :: es) gl) (hdb : (x == ("__debug__" : Str)) = false := by decide) (he : starEach (e :: es) X.env = (false, eval e X.env) :: starEach es X.env := by rfl) (hpl : (backTo pos (starEach es X.env)).any (·.1) = false := by rfl) :
    JE X W (.Call (.Name x p) (e :: es) [] pos) (evL (opCallX np fn) gl) :=
  PE.imp (pe_callS (E := L2.WE W) G hr hg hm hk hb (passAt tk) ha hdb he hpl) fun σ H Q ⟨fs, F, σ', S, rs, m, q⟩ => tG.bind rs m q fun x S1 fs1 F1 H1 v rs1 m1 g1 r1 p1 => by
    obtain ⟨h, p1⟩ := p1.gd
    exact ⟨by rw [r1.length]; exact h, fs1, F1, x, S1, r1, m1, p1⟩
/-- the reading of o.m(..), with the wish at the slots -/
def tMethX (C : Addr) (m : Str) (sp : Sp) (E : St → XK) (ta : TE) (t : TA) : TE := fun σ H Q => ta σ H fun x H1 => ∃ a dx fs, x = .ref a ∧ H1 a = some (.ins C dx fs) ∧ fs.lookup m = none ∧ t σ H1 fun vs H2 => sp (.ref a :: vs) H2 Q (E σ)
theorem pe_methX {CX : CXT} {fa : Addr} {fd : FuncData} {ps : List Str} {sp : Sp} {E : St → XK} {ta : TE} {t : TA} {pl : Sem Bool} (he : PE X o ta) (cl : Cls X.K C) (hm : Meth X.K C m fa) (G : FnOk X.prog X.w X.K X.mg X.base CX k fa fd ps sp) (hr : Room k X.A) (hb : Binds X.K fd ps []) (hx : ∀ σ, PassesAt CX X σ (E σ)) (ha : PA X (e :: es) t)
    (hst : starEach (e :: es) X.env = (false, eval e X.env) :: starEach es X.env := by rfl) (hpl : (backTo pos (starEach es X.env)).any (·.1) = false := by rfl)
    (ht : eval (.Call (.Attribute o m apos) (e :: es) [] pos) X.env = (do
      let ov ← eval o X.env
      standAt apos.atName
      let (f, first) ← holding [ov] (getMethod ov m pl)
      callWith pos f first (backTo pos (starEach (e :: es) X.env)) (backToKw pos (keywordEach [] X.env))) := by rfl) :
    PE X (.Call (.Attribute o m apos) (e :: es) [] pos) (tMethX C m sp E ta t) := by
  refine ⟨fun pins s0 σ H Q I0 h0 => PySem.W.methodCall_KW (pl := pl) (thn (he.run pins s0 σ H _ I0 h0) fun u s1 ⟨x, H1, I1, rx, a, dx, fs, ex, ea, l, q⟩ => ?_) ht⟩
  cases ex
  cases (show u = Value.ref a from rx)
  refine getmeth_ok I1 ea cl hm l (PySem.W.callWith_K (first := [.ref a]) (h₀ := X.base) I1.ok.mod.kin hm.kp (thn (ha.run pos pins s1 σ H1 _ I1 q) fun us s2 ⟨vs, H2, I2, r, q2⟩ => ⟨I2.kIn, ?_⟩) hst hpl)
  exact run_fnS (us := .ref a :: us) (vs := .ref a :: vs) G hr hb (hx σ) I2 (.cons rfl r) q2
theorem pe_methX0 {CX : CXT} {fa : Addr} {fd : FuncData} {ps : List Str} {sp : Sp} {E : St → XK} {ta : TE} {pl : Sem Bool} (he : PE X o ta) (cl : Cls X.K C) (hm : Meth X.K C m fa) (G : FnOk X.prog X.w X.K X.mg X.base CX k fa fd ps sp) (hr : Room k X.A) (hb : Binds X.K fd ps []) (hx : ∀ σ, PassesAt CX X σ (E σ))
    (ht : eval (.Call (.Attribute o m apos) [] [] pos) X.env = (do
      let ov ← eval o X.env
      standAt apos.atName
      let (f, first) ← holding [ov] (getMethod ov m pl)
      callWith pos f first (backTo pos (starEach [] X.env)) (backToKw pos (keywordEach [] X.env))) := by rfl) :
    PE X (.Call (.Attribute o m apos) [] [] pos) (tMethX C m sp E ta tNil) := by
  refine ⟨fun pins s0 σ H Q I0 h0 => PySem.W.methodCall_KW (pl := pl) (thn (he.run pins s0 σ H _ I0 h0) fun u s1 ⟨x, H1, I1, rx, a, dx, fs, ex, ea, l, q⟩ => ?_) ht⟩
  cases ex
  cases (show u = Value.ref a from rx)
  exact getmeth_ok I1 ea cl hm l (PySem.W.callWith_K0 (first := [.ref a]) I1.kIn hm.kp (run_fnS (us := [.ref a]) (vs := [.ref a]) G hr hb (hx σ) I1 (.cons rfl .nil) q))
def evMethX (C : Addr) (m : Str) (np : Nat) (fn : List D → Store → Out D) (f : EvE) (gl : EvL) : EvE := fun σ S => (f σ S).bind fun d S1 => match asI d S1 with
  | some (_, C', fl) => gd (C' = C ∧ fl.lookup m = none) ((gl σ S1).bind fun ds S2 => gd (ds.length + 1 = np) (fn (d :: ds) S2))
  | none => .stuck
theorem meth_ofX {σ : St} {H : Hp} {Q : VK} (q : tE X.K W (evMethX C m np fn f gl) σ H Q) : tMethX C m (spD X.K np fn) (L2.WE W) (tE X.K W f) (tA X.K W gl) σ H Q := by
  obtain ⟨fs, F, σ', S, rs, mt, q⟩ := q
  refine tG.bind rs mt q fun x S1 fs1 F1 H1 v rs1 m1 g1 r1 p1 => ?_
  split at p1
  · rename_i n C' fl e1
    obtain ⟨⟨hC, hl⟩, p1'⟩ := p1.gd
    obtain ⟨hx, _, a, dx, vs, h1, h2, h3, h4⟩ := asI_ok m1 r1 e1
    subst hC
    refine ⟨a, dx, vs, h1, h3, h4.look_none hl, tG.bind rs1 m1 p1' fun ds S2 fs2 F2 H2 us rs2 m2 g2 r2 p2 => ?_⟩
    obtain ⟨h, p2⟩ := p2.gd
    subst h1
    exact ⟨by rw [List.length_cons, r2.length]; exact h, fs2, F2, _, S2, RepL.cons (r1.mono g2) r2, m2, p2⟩
  · exact False.elim p1
theorem je_methX {fa : Addr} {fd : FuncData} {ps : List Str} {pl : Sem Bool} (tk : Takes X W) (cl : Cls X.K C) (hm : Meth X.K C m fa) (G : FnOk X.prog X.w X.K X.mg X.base (L2.CX X.prog X.w) k fa fd ps (spD X.K np fn)) (hr : Room k X.A) (hb : Binds X.K fd ps []) (ho : JE X W o f) (ha : JA X W (e :: es) gl)
    (hst : starEach (e :: es) X.env = (false, eval e X.env) :: starEach es X.env := by rfl) (hpl : (backTo pos (starEach es X.env)).any (·.1) = false := by rfl)
    (ht : eval (.Call (.Attribute o m apos) (e :: es) [] pos) X.env = (do
      let ov ← eval o X.env
      standAt apos.atName
      let (f, first) ← holding [ov] (getMethod ov m pl)
      callWith pos f first (backTo pos (starEach (e :: es) X.env)) (backToKw pos (keywordEach [] X.env))) := by rfl) :
    JE X W (.Call (.Attribute o m apos) (e :: es) [] pos) (evMethX C m np fn f gl) :=
  PE.imp (pe_methX ho cl hm G hr hb (passAt tk) ha hst hpl ht) fun _ _ _ q => meth_ofX q
theorem je_methX0 {fa : Addr} {fd : FuncData} {ps : List Str} {pl : Sem Bool} (tk : Takes X W) (cl : Cls X.K C) (hm : Meth X.K C m fa) (G : FnOk X.prog X.w X.K X.mg X.base (L2.CX X.prog X.w) k fa fd ps (spD X.K np fn)) (hr : Room k X.A) (hb : Binds X.K fd ps []) (ho : JE X W o f)
    (ht : eval (.Call (.Attribute o m apos) [] [] pos) X.env = (do
      let ov ← eval o X.env
      standAt apos.atName
      let (f, first) ← holding [ov] (getMethod ov m pl)
      callWith pos f first (backTo pos (starEach [] X.env)) (backToKw pos (keywordEach [] X.env))) := by rfl) :
    JE X W (.Call (.Attribute o m apos) [] [] pos) (evMethX C m np fn f evNil) :=
  PE.imp (pe_methX0 ho cl hm G hr hb (passAt tk) ht) fun σ H Q q => by
    obtain ⟨fs, F, σ', S, rs, mt, q⟩ := q
    refine tG.bind rs mt q fun x S1 fs1 F1 H1 v rs1 m1 g1 r1 p1 => ?_
    split at p1
    · rename_i n C' fl e1
      obtain ⟨⟨hC, hl⟩, p1'⟩ := p1.gd
      obtain ⟨hx, _, a, dx, vs, h1, h2, h3, h4⟩ := asI_ok m1 r1 e1
      subst hC
      refine ⟨a, dx, vs, h1, h3, h4.look_none hl, ?_⟩
      have p1 : PostG X.K (Rep X.K) _ (gd (([] : List D).length + 1 = np) (fn [x] S1)) fs1 F1 H1 Q := p1'
      obtain ⟨h, p2⟩ := p1.gd
      subst h1
      exact ⟨h, fs1, F1, _, S1, RepL.cons r1 RepL.nil, m1, p2⟩
    · exact False.elim p1
/-- C(..) -/
def tMakeX (C : Addr) (sp : Sp) (E : St → XK) (t : TA) : TE := fun σ H Q => t σ H fun vs H1 => ∀ x dx, H1 x = none → H1 dx = none → dx ≠ x → sp (.ref x :: vs) (upd (upd H1 dx (.own x)) x (.ins C dx [])) (fun v H2 => v = .non ∧ Q (.ref x) H2) (E σ)
theorem pe_makeX {CX : CXT} {fa : Addr} {fd : FuncData} {ps : List Str} {sp : Sp} {E : St → XK} {t : TA} (M : Mk X.K C fa) (G : FnOk X.prog X.w X.K X.mg X.base CX k fa fd ps sp) (hr : Room (k + 1) X.A) (hg : Gl X x) (hm : X.mg x = some (.ref C)) (hb : Binds X.K fd ps []) (hx : ∀ σ, PassesAt CX X σ (E σ))
    (ha : PA X (e :: es) t) (hdb : (x == ("__debug__" : Str)) = false := by decide) (he : starEach (e :: es) X.env = (false, eval e X.env) :: starEach es X.env := by rfl) (hpl : (backTo pos (starEach es X.env)).any (·.1) = false := by rfl) :
    PE X (.Call (.Name x p) (e :: es) [] pos) (tMakeX C sp E t) := by
  refine ⟨fun pins s0 σ H Q I0 h0 => wpAny_Call_Name_kw (ld_glob I0 hg hm (PySem.W.callWith_K (h₀ := X.base) I0.ok.mod.kin M.kp (thn (ha.run pos pins s0 σ H _ I0 h0) fun us s ⟨vs, H1, I, r, q⟩ => ⟨I.kIn, ?_⟩) he hpl) hdb)⟩
  have hq := q (s.heap.objs.size + 1) s.heap.objs.size (I.hok.fresh (Nat.le_succ _)) (I.hok.fresh (Nat.le_refl _)) (Nat.ne_of_lt (Nat.lt_succ_self _))
  have I2 := Inv.made (C := C) I
  have r2 : Vals (V.ref (s.heap.objs.size + 1) :: vs) (Value.ref (s.heap.objs.size + 1) :: us) := .cons rfl r
  have hl : (Value.ref (s.heap.objs.size + 1) :: us).length = ps.length := r2.length.symm.trans (G.len _ _ _ _ hq)
  have b := hb _ (Value.ref (s.heap.objs.size + 1) :: us) I2.kIn (by rw [List.append_nil]; exact hl)
  rw [List.append_nil] at b
  refine wpAny_call (make_map (f := fa) I.kIn M.makes M.init (beq_iff_eq.mp M.fn) (codeAny_mono (G.run _ X.stack _ _ ⟨Value.ref (s.heap.objs.size + 1) :: us, []⟩ _ _ _ (E σ) (hr.make C us []) (I2.env0.make C us []) b r2 hq) fun rs s' hq' => ?_))
  cases rs with
  | error er => exact hx σ pins _ _ er s' I2 hq'
  | ok fl =>
    cases fl with
    | ret u =>
      obtain ⟨v, H', I3, rv, ev, q3⟩ := I2.after hq'
      cases ev
      exact ⟨rv, V.ref (s.heap.objs.size + 1), H', I3, rfl, q3⟩
    | _ => exact False.elim hq'
def opMakeX (C : Addr) (np : Nat) (fn : List D → Store → Out D) (ds : List D) (S : Store) : Out D :=
  gd (ds.length + 1 = np) ((fn (.ref S.length :: ds) (S ++ [.ins C []])).bind (retRef S.length))
theorem je_makeX {fa : Addr} {fd : FuncData} {ps : List Str} (tk : Takes X W) (M : Mk X.K C fa) (G : FnOk X.prog X.w X.K X.mg X.base (L2.CX X.prog X.w) k fa fd ps (spD X.K np fn)) (hr : Room (k + 1) X.A) (hg : Gl X x) (hm : X.mg x = some (.ref C)) (hb : Binds X.K fd ps [])
    (ha : JA X W (e :: es) gl) (hdb : (x == ("__debug__" : Str)) = false := by decide) (he : starEach (e :: es) X.env = (false, eval e X.env) :: starEach es X.env := by rfl) (hpl : (backTo pos (starEach es X.env)).any (·.1) = false := by rfl) :
    JE X W (.Call (.Name x p) (e :: es) [] pos) (evL (opMakeX C np fn) gl) :=
  PE.imp (pe_makeX M G hr hg hm hb (passAt tk) ha hdb he hpl) fun σ H Q ⟨fs, F, σ', S, rs, m, q⟩ => tG.bind rs m q fun ds S1 fs1 F1 H1 us rs1 m1 g1 r1 p1 => by
    intro x dx nx nd ne
    obtain ⟨h, p2⟩ := p1.gd
    have hk : ∀ a o, H1 a = some o → (upd (upd H1 dx (.own x)) x (.ins C dx [])) a = some o := fun a o q => by
      rw [upd_ne (ne_of_none q nx), upd_ne (ne_of_none q nd)]; exact q
    obtain ⟨m2, g2⟩ := mt_new (so := .ins C []) m1 nx hk ⟨dx, [], upd_same, rfl⟩ (by rw [upd_same]; simp)
    have rn : ∀ {F' : Hp} {fs' : List Addr} {H' : Hp}, Gr (fs1 ++ [x]) F1 (upd (upd H1 dx (.own x)) x (.ins C dx [])) fs' F' H' → Rep X.K F' fs' (.ref S1.length) (.ref x) := fun g => by
      rw [Rep]; exact ⟨x, rfl, g.get (by rw [m1.len]; simp)⟩
    refine ⟨by rw [List.length_cons, r1.length]; exact h, fs1 ++ [x], F1, _, _, RepL.cons (rn (Gr.refl _ _ _)) (r1.mono g2), m2, ?_⟩
    cases e1 : fn (.ref S1.length :: ds) (S1 ++ [.ins C []]) with
    | stuck => rw [e1] at p2; exact p2
    | exc C' d S' => rw [e1] at p2; exact PostX.grow p2 g2
    | ok r S2 =>
      rw [e1] at p2
      intro fs3 F3 H3 v g3 m3 r3
      have p3 : PostG X.K (Rep X.K) _ (retRef S1.length r S2) fs1 F1 H1 Q := p2
      unfold retRef at p3
      split at p3
      · exact ⟨rep_non r3, p3 _ _ _ _ (g2.trans g3) m3 (rn g3)⟩
      · exact False.elim p3
/-! ### calls of what may raise, where it does not -/
theorem je_callC {fa : Addr} {fd : FuncData} {ps : List Str} (G : FnOk X.prog X.w X.K X.mg X.base (L2.CX X.prog X.w) k fa fd ps (spD X.K np fn)) (hr : Room k X.A) (hg : Gl X x) (hm : X.mg x = some (.ref fa)) (hk : PySem.W.keepIn X.K (.ref fa) = true) (hb : Binds X.K fd ps [])
    (ha : JA X W (e :: es) gl) (hdb : (x == ("__debug__" : Str)) = false := by decide) (he : starEach (e :: es) X.env = (false, eval e X.env) :: starEach es X.env := by rfl) (hpl : (backTo pos (starEach es X.env)).any (·.1) = false := by rfl) :
    JE X W (.Call (.Name x p) (e :: es) [] pos) (evL (opCall np fn) gl) :=
  PE.imp (pe_call G hr hg hm hk hb .nil passL ha hdb he hpl) fun σ H Q ⟨fs, F, σ', S, rs, m, q⟩ => tG.bind rs m q fun x S1 fs1 F1 H1 v rs1 m1 g1 r1 p1 => by
    obtain ⟨h, p1⟩ := p1.gd
    show spD X.K np fn (v ++ []) H1 Q E0
    rw [List.append_nil]
    exact ⟨by rw [r1.length]; exact h, fs1, F1, x, S1, r1, m1, p1.calm⟩
theorem je_methC {fa : Addr} {fd : FuncData} {ps : List Str} {pl : Sem Bool} (cl : Cls X.K C) (hm : Meth X.K C m fa) (G : FnOk X.prog X.w X.K X.mg X.base (L2.CX X.prog X.w) k fa fd ps (spD X.K np fn)) (hr : Room k X.A) (hb : Binds X.K fd ps []) (ho : JE X W o f) (ha : JA X W (e :: es) gl)
    (hst : starEach (e :: es) X.env = (false, eval e X.env) :: starEach es X.env := by rfl) (hpl : (backTo pos (starEach es X.env)).any (·.1) = false := by rfl)
    (ht : eval (.Call (.Attribute o m apos) (e :: es) [] pos) X.env = (do
      let ov ← eval o X.env
      standAt apos.atName
      let (f, first) ← holding [ov] (getMethod ov m pl)
      callWith pos f first (backTo pos (starEach (e :: es) X.env)) (backToKw pos (keywordEach [] X.env))) := by rfl) :
    JE X W (.Call (.Attribute o m apos) (e :: es) [] pos) (evMeth C m np fn f gl) :=
  PE.imp (pe_meth ho cl hm G hr hb .nil passL ha hst hpl ht) fun _ _ _ q => meth_of q
theorem je_methC0 {fa : Addr} {fd : FuncData} {ps : List Str} {pl : Sem Bool} (cl : Cls X.K C) (hm : Meth X.K C m fa) (G : FnOk X.prog X.w X.K X.mg X.base (L2.CX X.prog X.w) k fa fd ps (spD X.K np fn)) (hr : Room k X.A) (hb : Binds X.K fd ps []) (ho : JE X W o f)
    (ht : eval (.Call (.Attribute o m apos) [] [] pos) X.env = (do
      let ov ← eval o X.env
      standAt apos.atName
      let (f, first) ← holding [ov] (getMethod ov m pl)
      callWith pos f first (backTo pos (starEach [] X.env)) (backToKw pos (keywordEach [] X.env))) := by rfl) :
    JE X W (.Call (.Attribute o m apos) [] [] pos) (evMeth C m np fn f evNil) :=
  PE.imp (pe_meth0 ho cl hm G hr hb .nil passL ht) fun σ H Q ⟨fs, F, σ', S, rs, mt, q⟩ => by
    refine tG.bind rs mt q fun x S1 fs1 F1 H1 v rs1 m1 g1 r1 p1 => ?_
    split at p1
    · rename_i n C' fl e1
      obtain ⟨⟨hC, hl⟩, p1'⟩ := p1.gd
      obtain ⟨hx, _, a, dx, vs, h1, h2, h3, h4⟩ := asI_ok m1 r1 e1
      subst hC
      refine ⟨a, dx, vs, h1, h3, h4.look_none hl, ?_⟩
      have p1 : PostG X.K (Rep X.K) _ (gd (([] : List D).length + 1 = np) (fn [x] S1).calm) fs1 F1 H1 Q := p1'
      obtain ⟨h, p2⟩ := p1.gd
      exact ⟨h, fs1, F1, _, S1, RepL.cons r1 RepL.nil, m1, p2.calm⟩
    · exact False.elim p1
theorem je_makeC {fa : Addr} {fd : FuncData} {ps : List Str} (M : Mk X.K C fa) (G : FnOk X.prog X.w X.K X.mg X.base (L2.CX X.prog X.w) k fa fd ps (spD X.K np fn)) (hr : Room (k + 1) X.A) (hg : Gl X x) (hm : X.mg x = some (.ref C)) (hb : Binds X.K fd ps [])
    (ha : JA X W (e :: es) gl) (hdb : (x == ("__debug__" : Str)) = false := by decide) (he : starEach (e :: es) X.env = (false, eval e X.env) :: starEach es X.env := by rfl) (hpl : (backTo pos (starEach es X.env)).any (·.1) = false := by rfl) :
    JE X W (.Call (.Name x p) (e :: es) [] pos) (evL (opMake C np fn) gl) :=
  PE.imp (pe_make M G hr hg hm hb .nil passL ha hdb he hpl) fun σ H Q ⟨fs, F, σ', S, rs, m, q⟩ => tG.bind rs m q fun x S1 fs1 F1 H1 v rs1 m1 g1 r1 p1 => make_of m1 r1 p1
end
/-! ### a def that may raise, by its body -/
def fnOfX (n : Nat) (ev : EvS) (ds : List D) (S : Store) : Out D := match ev (ds.map some ++ List.replicate (n - ds.length) none) S with
  | .nx _ S' => .ok .non S'
  | .ret d S' => .ok d S'
  | .exc C d _ S' => .exc C d S'
  | _ => .stuck
abbrev WK (E : XK) : WX := fun c d _ H => E c d H
section
variable {P : Program} {w : World} {K : PySem.W.Frag} {mg : Str → Option Value} {base : Heap}
theorem fun_okX {x qual : Str} {st : Stmt} {f : Addr} {fd : FuncData} {N ps : List Str} {k np : Nat} {ev : EvS} (Fn : Fun K x qual st f fd) (Sc : FnScope N ps (defScope st)) (hnp : ps.length = np)
    (hb : ∀ (cdv : Value) (A : Around) (outer : List Env) (s : Shared) (H : Hp) (E : XK), Room k (A.deeper (PyProof.Rows.envOfC qual (defScope st) s.heap.objs.size f cdv)) → Takes (cxOf (L2.CX P w) P w K mg base N qual (defScope st) f cdv A outer s H E) (WK E) →
      PassesOwn (model P w) (A.deeper (PyProof.Rows.envOfC qual (defScope st) s.heap.objs.size f cdv)) (PyProof.Rows.envOfC qual (defScope st) s.heap.objs.size f cdv) (cxOf (L2.CX P w) P w K mg base N qual (defScope st) f cdv A outer s H E).xe →
      JSs (cxOf (L2.CX P w) P w K mg base N qual (defScope st) f cdv A outer s H E) (WK E) (defBody st) ev) :
    FnOk P w K mg base (L2.CX P w) (k + 1) f fd ps (spD K np (fnOfX N.length ev)) :=
  Fn.okX Sc (fun vs H Q E h => h.1.trans hnp.symm) fun cdv A outer s H vs Q E hr ⟨hl, fs, F, ds, S, r, m, p⟩ =>
    ⟨tS K (WK E) ev, hb cdv A outer s H E hr (takes_of rfl rfl rfl rfl) (passes_of rfl), fs, F, _, S, reps_start N.length r, m, by
      unfold fnOfX at p
      split at p
      · rename_i e; rw [e]; exact fun fs' F' H' σv' g m' rs' => p _ _ _ _ g m' non_rep
      · rename_i e; rw [e]; exact fun fs' F' H' v g m' r' => p _ _ _ _ g m' r'
      · rename_i e; rw [e]; exact fun fs' F' H' σv' dx v g m' rs' e' r' => p _ _ _ _ _ g m' e' r'
      · exact False.elim p⟩
end
end DL
/-! DX, part 3: try .. except X as e: return ('word', e.at), one clause or more. -/
namespace DL
open PySem L2
/-- the wish of clauses 'except X as n', from the first to the last; slot i is n's -/
def wAsN (K : PySem.W.Frag) (i : Nat) (Wout : WX) (Dn : Ends) : List (Value × (Addr → Value → Option Addr → TS)) → WX
  | [] => Wout
  | (c, ts) :: l => fun cls d σ H => ∃ b, PySem.W.exmOne K cls c = some b ∧
      (b = true → ∀ a, H a = none → ts a cls d { nx := fun s1 h1 => Dn.nx (s1.set i none) h1, rt := Dn.rt, bk := fun s1 h1 => Dn.bk (s1.set i none) h1, ct := fun s1 h1 => Dn.ct (s1.set i none) h1 } (σ.set i (some (.ref a))) H) ∧
      (b = false → wAsN K i Wout Dn l cls d σ H)
inductive HdsAs (X : Cx) (n : Str) : List ExceptHandler → List (Value × (Addr → Value → Option Addr → TS)) → Prop
  | nil : HdsAs X n [] []
  | cons {x : Str} {c : Value} {ts : Addr → Value → Option Addr → TS} {b0 : Stmt} {suite : List Stmt} {np hpos : Pos} {hds : List ExceptHandler} {l : List (Value × (Addr → Value → Option Addr → TS))} (hc : Names X x c)
      (hsu : ∀ (a : Addr) (oe : Obj) (cls : Value) (d : Option Addr) (pn : List (Addr × Obj)), Zc cls d oe → (∃ vs, oe.data = .fields vs) → PSs (X.suite a ((a, oe) :: pn)) (b0 :: suite) (ts a cls d)) (r : HdsAs X n hds l) :
      HdsAs X n (.ExceptHandler (some (.Name x np)) (some n) (b0 :: suite) hpos :: hds) ((c, ts) :: l)
section
variable {X : Cx} {n : Str} {i : Nat} {body : List Stmt} {hd0 : ExceptHandler} {hds : List ExceptHandler} {l : List (Value × (Addr → Value → Option Addr → TS))} {pos : Pos} {tb : WX → TS} {Wout : WX}
theorem ps_try_asN (hs : X.stack = X.env :: X.outer) (hf : X.env.frame = some X.env.locals) (hN : X.N.Nodup) (hi : X.N[i]? = some n) (hln : X.env.kindOf n = some .local) (tk : Takes X Wout)
    (hb : ∀ (W : WX) (pn : List (Addr × Obj)) (xe : Value → Shared → Prop), Takes (X.tr pn xe) W → PassesOwn (model X.prog X.w) X.A X.env xe → PSs (X.tr pn xe) body (tb W)) (hh : HdsAs X n (hd0 :: hds) l) :
    PS X (.Try body (hd0 :: hds) [] [] pos) (fun Dn σ H => tb (wAsN X.K i Wout Dn l) Dn σ H) := by
  refine ⟨fun pins s0 σ0 H0 Dn I0 w0 => ?_⟩
  have okX := I0.ok
  have frX : X.A.frames = some (X.env :: X.outer) := okX.frames.trans (by rw [hs])
  have locX : Loc X.env.scope n := .inl hln
  refine wpAny_Try_except (wpAny_mono ((hb (wAsN X.K i Wout Dn l) (X.pn ++ pins) (fun ev t1 => wpAny (model X.prog X.w) X.A (noteFrame ev X.env) (fun _ t2 => wpAny (model X.prog X.w) X.A (setFlight ev none) (fun _ t3 =>
    wpAny (model X.prog X.w) X.A (handleBy ev X.env (hd0 :: hds)) (SP X pins Dn) X.xe t3) X.xe t2) X.xe t1) (fun ev t1 air => ?_) PassesOwn.looking).run [] s0 σ0 H0 Dn (I0.toTry _) w0) (fun fl t1 hsp => ?_) (fun ev t1 z => z))
  · obtain ⟨ax, Bx, sx, pinx, σx, Hx, clx, dx, rfl, Jx, nbx, upx, skyx, nax, osx, agx, wx⟩ := air
    have Ix : Inv X pins σx Hx sx := Jx.ofTry okX
    have sky2 : Sky Bx (X.env :: X.outer) ax (Zc clx dx) X.env.locals t1.heap := hs ▸ skyx
    show wpAny (model X.prog X.w) X.A (noteFrame (.ref ax) X.env) _ _ _
    refine Sky.land Zc.steady frX hf sky2 fun hA flA upA => ?_
    have IA : Inv X pins σx Hx { t1 with heap := hA } := Ix.landed nbx flA.1 (upx.trans upA) osx agx
    obtain ⟨oA, vA, eA, zA, dA⟩ := flA.there
    have nfr : ax ∉ frs (X.env :: X.outer) := fun hm => by
      obtain ⟨_, oq, eq, hnf⟩ := flA.2.2.1.mem hm
      rw [eA] at eq
      cases eq
      exact hnf _ dA
    have nL : ax ≠ X.env.locals := fun z => nfr (List.mem_filterMap.mpr ⟨X.env, List.mem_cons_self, hf.trans (by rw [z])⟩)
    have nF : ax ∉ X.fs := fun hm => by
      obtain ⟨en, hen, q⟩ := List.mem_filterMap.mp hm
      exact nfr (List.mem_filterMap.mpr ⟨en, List.mem_cons_of_mem _ hen, q⟩)
    have SA := IA.suite eA dA nax nL nF
    have go : ∀ {hs2 : List ExceptHandler} {l2 : List (Value × (Addr → Value → Option Addr → TS))}, HdsAs X n hs2 l2 → wAsN X.K i Wout Dn l2 clx dx σx Hx →
        wpAny (model X.prog X.w) X.A (handleBy (.ref ax) X.env hs2) (SP X pins Dn) X.xe { t1 with heap := hA } := by
      intro hs2 l2 hk
      induction hk with
      | nil =>
        intro w
        refine wpAny_handleBy_nil ?_
        obtain ⟨k1, k2, k3, oq, vq, T, oT, tq, eq, zq, dq, hq1, hqr⟩ := id flA
        unfold PySem.passOn
        refine wpAny_bind (wpAny_field eq dq hq1 ?_)
        rw [if_neg (show ¬ ((Value.ref T == Value.none) = true) from by simp)]
        have fin : wpAny (model X.prog X.w) X.A (setFlight (.ref ax) X.env.frame) (fun _ t4 => wpAny (model X.prog X.w) X.A (throw (.ref ax) : Sem Flow) (SP X pins Dn) X.xe t4) X.xe { t1 with heap := hA } := by
          rw [hf]
          refine HandSPX.setFlight_upZ flA fun hB hhB upB => wpAny_throw (tk _ _ ?_)
          exact ⟨ax, Bx, sx, pins, σx, Hx, clx, dx, rfl, Ix, nbx, (upx.trans upA).trans upB, .inr (.inr (by rw [hs]; exact hhB)), nax, osx, agx, w⟩
        first
          | exact wpAny_bind (wpAny_pure (wpAny_bind fin))
          | exact wpAny_bind fin
      | @cons x c ts b0 suite np hpos hs3 l3 hc hsu r ih =>
        intro w
        obtain ⟨b, hb1, yes, no⟩ := w
        refine wpAny_handleBy_cons (codeAny_handlers_test ?_) (by intro q; cases q)
        have LT : PySem.W.Looks (model X.prog X.w) hA (typeOf (.ref ax)) clx := fun A Q E s k q => wpAny_typeOf_ref (k _ _ eA) (by rw [zA.1]; exact q)
        have LM := PySem.W.exm_one (M := model X.prog X.w) (IA.kIn) LT hb1
        have test : ∀ {Q E : Value → Shared → Prop}, Q c { t1 with heap := hA } → wpAny (model X.prog X.w) (X.A.mark (some (.ref ax))) (eval (.Name x np) X.env) Q E { t1 with heap := hA } := fun {Q E} q => by
          obtain ⟨hg, hdbg, hm | ⟨hm, hv, hnn⟩⟩ := hc
          · exact ld_glob (X := X.suite ax ((ax, oA) :: (X.pn ++ pins))) SA hg hm q hdbg
          · exact ld_blt (X := X.suite ax ((ax, oA) :: (X.pn ++ pins))) SA hg hm hv q hnn hdbg
        refine test (LM.here ?_)
        cases b with
        | true =>
          refine codeAny_handlers_suite_as (HandSPX.lands_againZ flA fun hB flB upB => ?_)
          have IB : Inv X pins σx Hx { t1 with heap := hB } := Ix.landed nbx flB.1 ((upx.trans upA).trans upB) osx agx
          obtain ⟨oB, vB, eB, zB, dB⟩ := flB.there
          have SB := IB.suite eB dB nax nL nF
          refine store_ok (X := X.suite ax ((ax, oB) :: (X.pn ++ pins))) (v := .ref ax) SB hN hi locX rfl (fun t5 S5 => ?_) (.inr hln)
          refine wpAny_mono ((hsu ax oB clx dx (X.pn ++ pins) zB ⟨_, dB⟩).run [] t5 _ Hx _ S5 (yes rfl ax nax)) (fun fl t6 hsp => ?_) (fun _ _ z => False.elim z)
          have last : ∀ {σ6 : St} {H6 : Hp} {Q : Shared → Prop}, Inv (X.suite ax ((ax, oB) :: (X.pn ++ pins))) [] σ6 H6 t6 → (∀ t7, Inv X pins (σ6.set i none) H6 t7 → Q t7) →
              wpAny (model X.prog X.w) X.A (do bindName X.env n .none; unbindBehindTheSuite X.env n hpos) (fun _ t7 => Q t7) X.xe t6 := fun {σ6 H6 Q} S6 hq => gone_ok (S6.unsuite okX) hN hi hln hq
          cases fl with
          | ret u =>
            obtain ⟨v6, σ6, H6, S6, r6, q6⟩ := hsp
            exact last S6 fun t7 J7 => ⟨_, _, _, J7, r6, q6⟩
          | next =>
            obtain ⟨σ6, H6, S6, q6⟩ := hsp
            exact last S6 fun t7 J7 => ⟨_, _, J7, q6⟩
          | brk =>
            obtain ⟨σ6, H6, S6, q6⟩ := hsp
            exact last S6 fun t7 J7 => ⟨_, _, J7, q6⟩
          | cont =>
            obtain ⟨σ6, H6, S6, q6⟩ := hsp
            exact last S6 fun t7 J7 => ⟨_, _, J7, q6⟩
        | false =>
          show wpAny _ X.A (handleBy (.ref ax) X.env hs3) _ _ _
          exact ih (no rfl)
    exact go hh wx
  · cases fl with
    | ret u =>
      obtain ⟨v, σ1, H1, J1, r1, q1⟩ := hsp
      exact ⟨v, σ1, H1, J1.ofTry okX, r1, q1⟩
    | next =>
      obtain ⟨σ1, H1, J1, q1⟩ := hsp
      exact wpAny_execs_nil ⟨σ1, H1, J1.ofTry okX, q1⟩
    | brk =>
      obtain ⟨σ1, H1, J1, q1⟩ := hsp
      exact ⟨σ1, H1, J1.ofTry okX, q1⟩
    | cont =>
      obtain ⟨σ1, H1, J1, q1⟩ := hsp
      exact ⟨σ1, H1, J1.ofTry okX, q1⟩
end
/-! ### the clauses of the laws: return ('word', n.at) -/
/-- the reading of such a suite -/
def tCatch (cat : List Addr) (i : Nat) (wd : Str) (a : Addr) (cls : Value) (d : Option Addr) : TS := fun Dn σ H => ∃ C, C ∈ cat ∧ cls = .ref C ∧ σ[i]? = some (some (.ref a)) ∧ ∃ dd v fs, d = some dd ∧ H dd = some (.xd fs) ∧ List.lookup ("at" : Str) fs = some v ∧
  ∀ p, H p = none → Dn.rt (.ref p) (upd H p (.tup [.str wd, v]))
theorem suite_ret {X : Cx} {n wd : Str} {i j : Nat} {p1 p2 p3 p4 p5 : Pos} {x1} {cat : List Addr} (hi : X.N[i]? = some n) (hv : Vis X.env.scope n) (hC : ∀ C ∈ cat, XfC X.K C ∧ PySem.W.findIn X.K (.ref C) "at" = some none)
    (hd1 : (n == ("__debug__" : Str)) = false := by decide) (hd2 : (n == ("__classdict__" : Str)) = false := by decide) :
    ∀ (a : Addr) (oe : Obj) (cls : Value) (d : Option Addr) (pn : List (Addr × Obj)), Zc cls d oe → (∃ vs, oe.data = .fields vs) →
      PSs (X.suite a ((a, oe) :: pn)) [.Return (some (.Tuple [.Constant (.str wd) j p1, .Attribute (.Name n p2) "at" p3] x1 p4)) p5] (tCatch cat i wd a cls d) := fun a oe cls d pn hz hf => by
  by_cases hc : ∃ C, C ∈ cat ∧ cls = .ref C
  · obtain ⟨C, hm, rfl⟩ := hc
    obtain ⟨T, hno⟩ := hC C hm
    refine PSs.imp (pss_one (ps_ret (pe_tup (pa_cons pe_str (pa_cons (pe_xf T hno hz hf (pe_var (X := X.suite a ((a, oe) :: pn)) (i := i) hi hv hd1 hd2)) pa_nil))))) fun Dn σ H q => ?_
    obtain ⟨C', hm', ec, hs, dd, v, fs, ed, hx, hl, q⟩ := q
    exact ⟨_, hs, rfl, rfl, dd, fs, v, ed, hx, hl, show _ ≤ sizeLine by rw [sizeLine_eq]; exact Nat.le_of_ble_eq_true rfl, q⟩
  · exact ⟨fun pins s σ H Dn I q => absurd (let ⟨C, h1, h2, _⟩ := q; ⟨C, h1, h2⟩) hc⟩
/-- a clause: the class it names; classes that it takes, and lets by; the word -/
structure Hd where
  x : Addr
  cat : List Addr
  mis : List Addr
  wd : Str
def pickH (d : D) (S : Store) (C : Addr) : List Hd → OutS
  | [] => .stuck
  | h :: r => if C ∈ h.cat then .ret (.tup [.str h.wd, d]) S else if C ∈ h.mis then pickH d S C r else .stuck
def evTry (i : Nat) (hs : List Hd) (s : EvS) : EvS := fun σ S => match s σ S with
  | .exc C d σ' S' => if i < σ'.length then pickH d S' C hs else .stuck
  | o => o
structure HdOk (K : PySem.W.Frag) (h : Hd) : Prop where
  cat : ∀ C ∈ h.cat, PySem.W.exmOne K (.ref C) (.ref h.x) = some true
  mis : ∀ C ∈ h.mis, PySem.W.exmOne K (.ref C) (.ref h.x) = some false
theorem pick_ok {K : PySem.W.Frag} {W : WX} {Dn : Ends} {i : Nat} {C : Addr} {d : D} {S : Store} {fs fs' : List Addr} {F F' H H' : Hp} {σv : St} {dx : Addr} {v : V} (hl : i < σv.length) (g : Gr fs F H fs' F' H') (m : Mt K fs' S F' H') (he : H' dx = some (.xd [("at", v)])) (r : Rep K F' fs' d v) :
    ∀ {hs : List Hd}, (∀ h ∈ hs, HdOk K h) → PostS K W Dn (pickH d S C hs) fs F H → wAsN K i W0 Dn (hs.map fun h => (.ref h.x, tCatch h.cat i h.wd)) (.ref C) (some dx) σv H'
  | [], _, q => False.elim q
  | h :: hs, ok, q => by
    unfold pickH at q
    by_cases h1 : C ∈ h.cat
    · rw [if_pos h1] at q
      refine ⟨true, (ok h List.mem_cons_self).cat C h1, fun _ a ha => ⟨C, h1, rfl, List.getElem?_set_self hl, dx, v, _, rfl, he, rfl, fun p hp => ?_⟩, (fun z => by cases z)⟩
      obtain ⟨m2, g2⟩ := mt_frz m hp (.tup [.str h.wd, v])
      refine q _ _ _ _ (g.trans g2) m2 ?_
      rw [Rep]
      exact ⟨p, _, rfl, upd_same, RepL.cons str_rep (RepL.cons (r.mono g2) RepL.nil)⟩
    · rw [if_neg h1] at q
      by_cases h2 : C ∈ h.mis
      · rw [if_pos h2] at q
        exact ⟨false, (ok h List.mem_cons_self).mis C h2, (fun z => by cases z), fun _ => pick_ok hl g m he r (fun h' hm => ok h' (List.mem_cons_of_mem _ hm)) q⟩
      · rw [if_neg h2] at q
        exact False.elim q
theorem js_try {X : Cx} {W : WX} {n : Str} {i : Nat} {body : List Stmt} {hd0 : ExceptHandler} {hds : List ExceptHandler} {hs : List Hd} {s : EvS} {pos : Pos} (hst : X.stack = X.env :: X.outer) (hf : X.env.frame = some X.env.locals) (hN : X.N.Nodup) (hi : X.N[i]? = some n) (hln : X.env.kindOf n = some .local)
    (hb : ∀ (W : WX) (pn : List (Addr × Obj)) (xe : Value → Shared → Prop), Takes (X.tr pn xe) W → PassesOwn (model X.prog X.w) X.A X.env xe → JSs (X.tr pn xe) W body s)
    (hh : HdsAs X n (hd0 :: hds) (hs.map fun h => (.ref h.x, tCatch h.cat i h.wd))) (ok : ∀ h ∈ hs, HdOk X.K h) : JS X W (.Try body (hd0 :: hds) [] [] pos) (evTry i hs s) :=
  PS.imp (ps_try_asN (tb := fun W' => tS X.K W' s) hst hf hN hi hln takes0 hb hh) fun Dn σv H ⟨fs, F, σ, S, rs, m, q⟩ => ⟨fs, F, σ, S, rs, m, by
    unfold evTry at q
    cases e : s σ S with
    | stuck => rw [e] at q; exact q
    | nx σ' S' => rw [e] at q; exact q
    | ret d S' => rw [e] at q; exact q
    | bk σ' S' => rw [e] at q; exact q
    | ct σ' S' => rw [e] at q; exact q
    | exc C d σ' S' =>
      rw [e] at q
      have q : PostS X.K W Dn (if i < σ'.length then pickH d S' C hs else .stuck) fs F H := q
      by_cases hl : i < σ'.length
      · rw [if_pos hl] at q
        exact fun fs' F' H' σv' dx v g m' rs' he r => pick_ok (by rw [← rs'.len]; exact hl) g m' he r ok q
      · rw [if_neg hl] at q
        exact False.elim q⟩
end DL
/-! DX, part 4: what may be called and raises; xs[::-1]. -/
namespace DL
open PySem L2
structure DCalX (P : Program) (w : World) (K : PySem.W.Frag) (mg : Str → Option Value) (base : Heap) (k : Nat) (x : Str) (np : Nat) (fn : List D → Store → Out D) : Prop where
  ex : ∃ f fd ps, FnOk P w K mg base (L2.CX P w) k f fd ps (spD K np fn) ∧ mg x = some (.ref f) ∧ PySem.W.keepIn K (.ref f) = true ∧ Binds K fd ps []
structure DMetX (P : Program) (w : World) (K : PySem.W.Frag) (mg : Str → Option Value) (base : Heap) (k : Nat) (C : Addr) (m : Str) (np : Nat) (fn : List D → Store → Out D) : Prop where
  ex : ∃ f fd ps, Cls K C ∧ Meth K C m f ∧ FnOk P w K mg base (L2.CX P w) k f fd ps (spD K np fn) ∧ Binds K fd ps []
structure DMakX (P : Program) (w : World) (K : PySem.W.Frag) (mg : Str → Option Value) (base : Heap) (k : Nat) (x : Str) (C : Addr) (np : Nat) (fn : List D → Store → Out D) : Prop where
  ex : ∃ f fd ps, Mk K C f ∧ FnOk P w K mg base (L2.CX P w) k f fd ps (spD K np fn) ∧ mg x = some (.ref C) ∧ Binds K fd ps []
section
variable {X : Cx} {W : WX} {e o : Expr} {es : List Expr} {f : EvE} {gl : EvL} {pos apos p : Pos} {x m : Str} {C : Addr} {k j np : Nat} {fn : List D → Store → Out D}
theorem jc_callX (tk : Takes X W) (c : DCalX X.prog X.w X.K X.mg X.base k x np fn) (hr : Room j X.A) (hk : k ≤ j) (hg : Gl X x) (ha : JA X W (e :: es) gl)
    (hdb : (x == ("__debug__" : Str)) = false := by decide) (he : starEach (e :: es) X.env = (false, eval e X.env) :: starEach es X.env := by rfl) (hpl : (backTo pos (starEach es X.env)).any (·.1) = false := by rfl) :
    JE X W (.Call (.Name x p) (e :: es) [] pos) (evL (opCallX np fn) gl) := by
  obtain ⟨fa, fd, ps, G, hm, hkp, hb⟩ := c.ex
  exact je_callX tk G (hr.mono hk) hg hm hkp hb ha hdb he hpl
theorem jc_callC (c : DCalX X.prog X.w X.K X.mg X.base k x np fn) (hr : Room j X.A) (hk : k ≤ j) (hg : Gl X x) (ha : JA X W (e :: es) gl)
    (hdb : (x == ("__debug__" : Str)) = false := by decide) (he : starEach (e :: es) X.env = (false, eval e X.env) :: starEach es X.env := by rfl) (hpl : (backTo pos (starEach es X.env)).any (·.1) = false := by rfl) :
    JE X W (.Call (.Name x p) (e :: es) [] pos) (evL (opCall np fn) gl) := by
  obtain ⟨fa, fd, ps, G, hm, hkp, hb⟩ := c.ex
  exact je_callC G (hr.mono hk) hg hm hkp hb ha hdb he hpl
theorem jc_makeX (tk : Takes X W) (c : DMakX X.prog X.w X.K X.mg X.base k x C np fn) (hr : Room j X.A) (hk : k + 1 ≤ j) (hg : Gl X x) (ha : JA X W (e :: es) gl)
    (hdb : (x == ("__debug__" : Str)) = false := by decide) (he : starEach (e :: es) X.env = (false, eval e X.env) :: starEach es X.env := by rfl) (hpl : (backTo pos (starEach es X.env)).any (·.1) = false := by rfl) :
    JE X W (.Call (.Name x p) (e :: es) [] pos) (evL (opMakeX C np fn) gl) := by
  obtain ⟨fa, fd, ps, M, G, hm, hb⟩ := c.ex
  exact je_makeX tk M G (hr.mono hk) hg hm hb ha hdb he hpl
theorem jc_makeC (c : DMakX X.prog X.w X.K X.mg X.base k x C np fn) (hr : Room j X.A) (hk : k + 1 ≤ j) (hg : Gl X x) (ha : JA X W (e :: es) gl)
    (hdb : (x == ("__debug__" : Str)) = false := by decide) (he : starEach (e :: es) X.env = (false, eval e X.env) :: starEach es X.env := by rfl) (hpl : (backTo pos (starEach es X.env)).any (·.1) = false := by rfl) :
    JE X W (.Call (.Name x p) (e :: es) [] pos) (evL (opMake C np fn) gl) := by
  obtain ⟨fa, fd, ps, M, G, hm, hb⟩ := c.ex
  exact je_makeC M G (hr.mono hk) hg hm hb ha hdb he hpl
theorem jc_methX {pl : Sem Bool} (tk : Takes X W) (c : DMetX X.prog X.w X.K X.mg X.base k C m np fn) (hr : Room j X.A) (hk : k ≤ j) (ho : JE X W o f) (ha : JA X W (e :: es) gl)
    (hst : starEach (e :: es) X.env = (false, eval e X.env) :: starEach es X.env := by rfl) (hpl : (backTo pos (starEach es X.env)).any (·.1) = false := by rfl)
    (ht : eval (.Call (.Attribute o m apos) (e :: es) [] pos) X.env = (do
      let ov ← eval o X.env
      standAt apos.atName
      let (f, first) ← holding [ov] (getMethod ov m pl)
      callWith pos f first (backTo pos (starEach (e :: es) X.env)) (backToKw pos (keywordEach [] X.env))) := by rfl) :
    JE X W (.Call (.Attribute o m apos) (e :: es) [] pos) (evMethX C m np fn f gl) := by
  obtain ⟨fa, fd, ps, c1, hm, G, hb⟩ := c.ex
  exact je_methX tk c1 hm G (hr.mono hk) hb ho ha hst hpl ht
theorem jc_methC {pl : Sem Bool} (c : DMetX X.prog X.w X.K X.mg X.base k C m np fn) (hr : Room j X.A) (hk : k ≤ j) (ho : JE X W o f) (ha : JA X W (e :: es) gl)
    (hst : starEach (e :: es) X.env = (false, eval e X.env) :: starEach es X.env := by rfl) (hpl : (backTo pos (starEach es X.env)).any (·.1) = false := by rfl)
    (ht : eval (.Call (.Attribute o m apos) (e :: es) [] pos) X.env = (do
      let ov ← eval o X.env
      standAt apos.atName
      let (f, first) ← holding [ov] (getMethod ov m pl)
      callWith pos f first (backTo pos (starEach (e :: es) X.env)) (backToKw pos (keywordEach [] X.env))) := by rfl) :
    JE X W (.Call (.Attribute o m apos) (e :: es) [] pos) (evMeth C m np fn f gl) := by
  obtain ⟨fa, fd, ps, c1, hm, G, hb⟩ := c.ex
  exact je_methC c1 hm G (hr.mono hk) hb ho ha hst hpl ht
theorem jc_methX0 {pl : Sem Bool} (tk : Takes X W) (c : DMetX X.prog X.w X.K X.mg X.base k C m np fn) (hr : Room j X.A) (hk : k ≤ j) (ho : JE X W o f)
    (ht : eval (.Call (.Attribute o m apos) [] [] pos) X.env = (do
      let ov ← eval o X.env
      standAt apos.atName
      let (f, first) ← holding [ov] (getMethod ov m pl)
      callWith pos f first (backTo pos (starEach [] X.env)) (backToKw pos (keywordEach [] X.env))) := by rfl) :
    JE X W (.Call (.Attribute o m apos) [] [] pos) (evMethX C m np fn f evNil) := by
  obtain ⟨fa, fd, ps, c1, hm, G, hb⟩ := c.ex
  exact je_methX0 tk c1 hm G (hr.mono hk) hb ho ht
theorem jc_methC0 {pl : Sem Bool} (c : DMetX X.prog X.w X.K X.mg X.base k C m np fn) (hr : Room j X.A) (hk : k ≤ j) (ho : JE X W o f)
    (ht : eval (.Call (.Attribute o m apos) [] [] pos) X.env = (do
      let ov ← eval o X.env
      standAt apos.atName
      let (f, first) ← holding [ov] (getMethod ov m pl)
      callWith pos f first (backTo pos (starEach [] X.env)) (backToKw pos (keywordEach [] X.env))) := by rfl) :
    JE X W (.Call (.Attribute o m apos) [] [] pos) (evMeth C m np fn f evNil) := by
  obtain ⟨fa, fd, ps, c1, hm, G, hb⟩ := c.ex
  exact je_methC0 c1 hm G (hr.mono hk) hb ho ht
/-! ### xs[::-1] -/
def opRev (mm : Bool) (d : D) (S : Store) : Out D := match asL d S with
  | some xs => mkL mm xs.reverse S
  | none => .stuck
theorem RepL.rev {K : PySem.W.Frag} {F : Hp} {fs : List Addr} : ∀ {ds : List D} {xs : List V}, RepL K F fs ds xs → RepL K F fs ds.reverse xs.reverse
  | [], _, h => by rw [RepL] at h; subst h; exact RepL.nil
  | d :: ds, _, h => by
    rw [RepL] at h
    obtain ⟨x, xr, rfl, h1, h2⟩ := h
    rw [List.reverse_cons, List.reverse_cons]
    exact (RepL.rev h2).append (RepL.cons h1 RepL.nil)
theorem je_rev {k : Nat} {p1 p2 p3 : Pos} (mm : Bool) (h : JE X W e f) : JE X W (.Subscript e (.Slice none none (some (.UnaryOp .USub (.Constant (.int 1) k p1) p2)) p3) pos) (ev1 (opRev mm) f) :=
  PE.imp (pe_revL h) fun σ H Q ⟨fs, F, σ', S, rs, m, q⟩ => tG.bind rs m q fun x S1 fs1 F1 H1 v rs1 m1 g1 r1 p1 => by
    unfold opRev at p1
    split at p1
    · rename_i xs e1
      obtain ⟨a, us, h1, h2, h3⟩ := asL_ok m1 r1 e1
      exact ⟨a, us, h1, SqL.of h2, fun l hl => fresh_lst m1 p1 h3.rev hl⟩
    · exact False.elim p1
end
end DL
/-! DX, part 5: terms that raise are reckoned. -/
namespace DL
open PySem L2
/-- it raises -/
def XE {α : Type} (o : Out α) (P : Addr → D → Store → Prop) : Prop := match o with
  | .exc C d S => P C d S
  | _ => False
def XS (o : OutS) (P : Addr → D → Sg → Store → Prop) : Prop := match o with
  | .exc C d σ S => P C d σ S
  | _ => False
section
variable {σ : Sg} {S : Store} {α : Type} {P : Addr → D → Store → Prop} {PS' : Addr → D → Sg → Store → Prop} {C C' : Addr} {f : EvE} {gl : EvL} {np n i : Nat} {fn : List D → Store → Out D} {ds : List D} {m : Str} {Q : D → Store → Prop} {N B Cc : Sg → Store → Prop} {R : D → Store → Prop} {s t : EvS}
theorem XE.ex {o : Out α} (h : XE o P) : ∃ C d S, o = .exc C d S ∧ P C d S := by
  cases o with
  | exc C d S => exact ⟨C, d, S, rfl, h⟩
  | ok a S => exact False.elim h
  | stuck => exact False.elim h
theorem XS.ex {o : OutS} (h : XS o PS') : ∃ C d σ S, o = .exc C d σ S ∧ PS' C d σ S := by
  cases o with
  | exc C d σ S => exact ⟨C, d, σ, S, rfl, h⟩
  | _ => exact False.elim h
theorem XE.mono {o : Out α} {P' : Addr → D → Store → Prop} (h : XE o P) (i : ∀ C d S, P C d S → P' C d S) : XE o P' := by
  obtain ⟨C, d, S, rfl, h⟩ := h.ex
  exact i _ _ _ h
theorem x_raise (h : WE (f σ S) fun d S1 => PS' C d σ S1) : XS (evRaise C f σ S) PS' := by
  obtain ⟨d, S1, e, q⟩ := h.ex
  unfold evRaise
  rw [e]
  exact q
theorem x_seq1 (h : XS (s σ S) PS') : XS (evSeq s t σ S) PS' := by
  obtain ⟨C, d, σ1, S1, e, q⟩ := h.ex
  rw [evSeq_d, e]
  exact q
theorem x_seq2 (h : WS (s σ S) (fun σ1 S1 => XS (t σ1 S1) PS') (fun _ _ => False) (fun _ _ => False) (fun _ _ => False)) : XS (evSeq s t σ S) PS' := by
  rw [evSeq_d]
  cases e : s σ S with
  | nx σ1 S1 => rw [e] at h; exact h
  | _ => rw [e] at h; exact False.elim h
theorem x_if {c : EvB} (h : WE (c σ S) fun b S1 => (b = true → XS (s σ S1) PS') ∧ (b = false → XS (t σ S1) PS')) : XS (evIfS c s t σ S) PS' := by
  obtain ⟨b, S1, e, q⟩ := h.ex
  rw [evIfS_d, e]
  cases b with
  | true => exact q.1 rfl
  | false => exact q.2 rfl
theorem x_ret (h : XE (f σ S) fun C d S1 => PS' C d σ S1) : XS (evRet f σ S) PS' := by
  obtain ⟨C, d, S1, e, q⟩ := h.ex
  rw [evRet_d, e]
  exact q
theorem x_set (h : XE (f σ S) fun C d S1 => PS' C d σ S1) : XS (evSet i f σ S) PS' := by
  obtain ⟨C, d, S1, e, q⟩ := h.ex
  rw [evSet_d, e]
  exact q
theorem x_expr (h : XE (f σ S) fun C d S1 => PS' C d σ S1) : XS (evExpr f σ S) PS' := by
  obtain ⟨C, d, S1, e, q⟩ := h.ex
  rw [evExpr_d, e]
  exact q
theorem x_fn {ev : EvS} (h : XS (ev (ds.map some ++ List.replicate (n - ds.length) none) S) fun C d _ S1 => P C d S1) : XE (fnOfX n ev ds S) P := by
  obtain ⟨C, d, σ1, S1, e, q⟩ := h.ex
  unfold fnOfX
  rw [e]
  exact q
theorem w_fnX {ev : EvS} (h : WS (ev (ds.map some ++ List.replicate (n - ds.length) none) S) (fun _ S' => Q .non S') (fun _ _ => False) (fun _ _ => False) Q) : WE (fnOfX n ev ds S) Q := by
  unfold fnOfX
  cases e : ev (ds.map some ++ List.replicate (n - ds.length) none) S with
  | nx σ1 S1 => rw [e] at h; exact h
  | ret d S1 => rw [e] at h; exact h
  | _ => rw [e] at h; exact False.elim h
theorem x_call (c : ds.length = np) (h : XE (fn ds S) P) : XE (opCallX np fn ds S) P := by
  unfold opCallX
  rw [gd_pos c]
  exact h
theorem w_callX (c : ds.length = np) (h : WE (fn ds S) Q) : WE (opCallX np fn ds S) Q := w_gd c h
theorem x_L {op : List D → Store → Out D} (h : WE (gl σ S) fun ds S1 => XE (op ds S1) P) : XE (evL op gl σ S) P := by
  obtain ⟨ds, S1, e, q⟩ := h.ex
  rw [evL_d, e]
  exact q
theorem x_LA {op : List D → Store → Out D} (h : XE (gl σ S) P) : XE (evL op gl σ S) P := by
  obtain ⟨C, d, S1, e, q⟩ := h.ex
  rw [evL_d, e]
  exact q
theorem x_cons1 (h : XE (f σ S) P) : XE (evCons f gl σ S) P := by
  obtain ⟨C, d, S1, e, q⟩ := h.ex
  rw [evCons_d, e]
  exact q
theorem x_cons2 (h : WE (f σ S) fun _ S1 => XE (gl σ S1) P) : XE (evCons f gl σ S) P := by
  obtain ⟨a, S1, e, q⟩ := h.ex
  obtain ⟨C, d, S2, e2, q2⟩ := q.ex
  rw [evCons_d, e]
  show XE ((gl σ S1).bind _) P
  rw [e2]
  exact q2
theorem x_ifE {c : EvB} {g : EvE} (h : WE (c σ S) fun b S1 => (b = true → XE (f σ S1) P) ∧ (b = false → XE (g σ S1) P)) : XE (evIf c f g σ S) P := by
  obtain ⟨b, S1, e, q⟩ := h.ex
  rw [evIf_d, e]
  cases b with
  | true => exact q.1 rfl
  | false => exact q.2 rfl
theorem x_meth (h : WE (f σ S) fun d S1 => ∃ n fl, d = .ref n ∧ S1[n]? = some (.ins C' fl) ∧ fl.lookup m = none ∧ WE (gl σ S1) fun ds S2 => ds.length + 1 = np ∧ XE (fn (d :: ds) S2) P) : XE (evMethX C' m np fn f gl σ S) P := by
  obtain ⟨d, S1, e, n, fl, ed, hS, hl, q⟩ := h.ex
  subst ed
  obtain ⟨ds, S2, e2, hn, q2⟩ := q.ex
  unfold evMethX
  rw [e]
  show XE (match asI (.ref n) S1 with | some (_, C', fl) => _ | none => _) P
  rw [asI_ref hS]
  show XE (gd _ _) P
  rw [gd_pos ⟨rfl, hl⟩, e2]
  show XE (gd _ _) P
  rw [gd_pos hn]
  exact q2
theorem w_methX (h : WE (f σ S) fun d S1 => ∃ n fl, d = .ref n ∧ S1[n]? = some (.ins C' fl) ∧ fl.lookup m = none ∧ WE (gl σ S1) fun ds S2 => ds.length + 1 = np ∧ WE (fn (d :: ds) S2) Q) : WE (evMethX C' m np fn f gl σ S) Q := by
  obtain ⟨d, S1, e, n, fl, ed, hS, hl, q⟩ := h.ex
  subst ed
  obtain ⟨ds, S2, e2, hn, q2⟩ := q.ex
  unfold evMethX
  rw [e]
  show WE (match asI (.ref n) S1 with | some (_, C', fl) => _ | none => _) Q
  rw [asI_ref hS]
  show WE (gd _ _) Q
  rw [gd_pos ⟨rfl, hl⟩, e2]
  show WE (gd _ _) Q
  rw [gd_pos hn]
  exact q2
/-- the object itself is not made -/
theorem x_methO (h : XE (f σ S) P) : XE (evMeth C' m np fn f gl σ S) P := by
  obtain ⟨C, d, S1, e, q⟩ := h.ex
  unfold evMeth
  rw [e]
  exact q
theorem x_make (c : ds.length + 1 = np) (h : XE (fn (.ref S.length :: ds) (S ++ [.ins C []])) P) : XE (opMakeX C np fn ds S) P := by
  obtain ⟨C1, d, S1, e, q⟩ := h.ex
  unfold opMakeX
  rw [gd_pos c, e]
  exact q
theorem w_makeX (c : ds.length + 1 = np) (h : WE (fn (.ref S.length :: ds) (S ++ [.ins C []])) fun d S' => d = .non ∧ Q (.ref S.length) S') : WE (opMakeX C np fn ds S) Q := by
  obtain ⟨d, S1, e, rfl, q⟩ := h.ex
  unfold opMakeX
  rw [gd_pos c, e]
  exact q
theorem w_try {hs : List Hd} (h : WS (s σ S) N B Cc R) : WS (evTry i hs s σ S) N B Cc R := by
  unfold evTry
  cases e : s σ S with
  | exc C d σ1 S1 => rw [e] at h; exact False.elim h
  | _ => rw [e] at h; exact h
theorem x_try {hs : List Hd} (h : XS (s σ S) fun C d σ1 S1 => i < σ1.length ∧ WS (pickH d S1 C hs) N B Cc R) : WS (evTry i hs s σ S) N B Cc R := by
  obtain ⟨C, d, σ1, S1, e, hi, q⟩ := h.ex
  unfold evTry
  rw [e]
  show WS (if i < σ1.length then _ else _) N B Cc R
  rw [if_pos hi]
  exact q
theorem x_pick {d : D} {h : Hd} {r : List Hd} (hm : C ∈ h.cat) (q : R (.tup [.str h.wd, d]) S) : WS (pickH d S C (h :: r)) N B Cc R := by
  unfold pickH
  rw [if_pos hm]
  exact q
theorem x_next {d : D} {h : Hd} {r : List Hd} (hm : C ∉ h.cat) (hm2 : C ∈ h.mis) (q : WS (pickH d S C r) N B Cc R) : WS (pickH d S C (h :: r)) N B Cc R := by
  unfold pickH
  rw [if_neg hm, if_pos hm2]
  exact q
end
end DL
/-! DX, part 6: rows that begin with ints, sorted. -/
namespace DL
open PySem L2
/-! the order of rows -/
def lexL : List Int → List Int → Bool
  | [], [] => false
  | [], _ :: _ => true
  | _ :: _, [] => false
  | x :: xs, y :: ys => if x = y then lexL xs ys else decide (x < y)
theorem lexL_asym : ∀ {a b : List Int}, lexL a b = true → lexL b a = false
  | [], [], h => by cases h
  | [], _ :: _, _ => rfl
  | _ :: _, [], h => by cases h
  | x :: xs, y :: ys, h => by
    unfold lexL at h ⊢
    by_cases e : x = y
    · rw [if_pos e] at h
      rw [if_pos e.symm]
      exact lexL_asym h
    · rw [if_neg e] at h
      rw [if_neg (Ne.symm e)]
      have := of_decide_eq_true h
      exact decide_eq_false (by omega)
theorem lexL_tr : ∀ {a b c : List Int}, lexL b a = false → lexL c b = false → lexL c a = false
  | [], [], [], _, _ => rfl
  | [], [], _ :: _, _, h => rfl
  | [], _ :: _, [], h, _ => rfl
  | [], _ :: _, _ :: _, h, _ => rfl
  | _ :: _, [], [], h, _ => by cases h
  | _ :: _, [], _ :: _, h, _ => by cases h
  | _ :: _, _ :: _, [], _, h => by cases h
  | x :: xs, y :: ys, z :: zs, h1, h2 => by
    unfold lexL at h1 h2 ⊢
    by_cases e1 : y = x
    · rw [if_pos e1] at h1
      by_cases e2 : z = y
      · rw [if_pos e2] at h2
        rw [if_pos (e2.trans e1)]
        exact lexL_tr h1 h2
      · rw [if_neg e2] at h2
        rw [if_neg (by omega)]
        have := of_decide_eq_false h2
        exact decide_eq_false (by omega)
    · rw [if_neg e1] at h1
      have a1 := of_decide_eq_false h1
      by_cases e2 : z = y
      · rw [if_neg (by omega)]
        exact decide_eq_false (by omega)
      · rw [if_neg e2] at h2
        have := of_decide_eq_false h2
        rw [if_neg (by omega)]
        exact decide_eq_false (by omega)
theorem lexL_refl : ∀ a : List Int, lexL a a = false
  | [] => rfl
  | x :: xs => by
    unfold lexL
    rw [if_pos rfl]
    exact lexL_refl xs
theorem lexL_eq : ∀ {a b : List Int}, lexL a b = false → lexL b a = false → a = b
  | [], [], _, _ => rfl
  | [], _ :: _, h, _ => by cases h
  | _ :: _, [], _, h => by cases h
  | x :: xs, y :: ys, h1, h2 => by
    unfold lexL at h1 h2
    by_cases e : x = y
    · rw [if_pos e] at h1
      rw [if_pos e.symm] at h2
      rw [e, lexL_eq h1 h2]
    · rw [if_neg e] at h1
      rw [if_neg (Ne.symm e)] at h2
      have := of_decide_eq_false h1
      have := of_decide_eq_false h2
      omega
theorem swo_lexL {α : Type} (k : α → List Int) : SrtO.Swo fun v u => lexL (k v) (k u) := ⟨fun _ _ h => lexL_asym h, fun _ _ _ h1 h2 => lexL_tr h1 h2⟩
/-! the plain sort -/
section
variable {α β : Type}
def insB (lt : α → α → Bool) (n : α) : List α → List α
  | [] => [n]
  | m :: ms => if lt m n then m :: insB lt n ms else n :: m :: ms
def isort (lt : α → α → Bool) : List α → List α
  | [] => []
  | n :: ns => insB lt n (isort lt ns)
theorem insB_stb {lt : α → α → Bool} (O : SrtO.Swo lt) (n : α) : ∀ ms, SrtO.Stb lt (insB lt n ms) (n :: ms)
  | [] => SrtO.Stb.refl _
  | m :: ms => by
    unfold insB
    by_cases c : lt m n = true
    · rw [if_pos c]
      have h1 : SrtO.Stb lt (m :: insB lt n ms) (m :: n :: ms) := (SrtO.Stb.refl [m]).app (insB_stb O n ms)
      have h2 : SrtO.Stb lt ([m] ++ [n]) ([n] ++ [m]) := SrtO.Stb.swap O fun a ha b hb => by rw [List.mem_singleton.mp ha, List.mem_singleton.mp hb]; exact c
      exact h1.trans (h2.app (SrtO.Stb.refl ms))
    · rw [if_neg c]
      exact SrtO.Stb.refl _
theorem isort_stb {lt : α → α → Bool} (O : SrtO.Swo lt) : ∀ ms, SrtO.Stb lt (isort lt ms) ms
  | [] => SrtO.Stb.refl _
  | m :: ms => (insB_stb O m _).trans ((SrtO.Stb.refl [m]).app (isort_stb O ms))
theorem isort_perm {lt : α → α → Bool} (O : SrtO.Swo lt) (ms : List α) : (isort lt ms).Perm ms := (isort_stb O ms).perm
theorem insB_srt {lt : α → α → Bool} (O : SrtO.Swo lt) (n : α) : ∀ {ms : List α}, SrtO.Srtd lt ms → SrtO.Srtd lt (insB lt n ms)
  | [], _ => List.pairwise_singleton _ _
  | m :: ms, h => by
    have h' := List.pairwise_cons.mp h
    unfold insB
    by_cases c : lt m n = true
    · rw [if_pos c]
      refine List.pairwise_cons.mpr ⟨fun x hx => ?_, insB_srt O n h'.2⟩
      rcases List.mem_cons.mp ((insB_stb O n ms).perm.mem_iff.mp hx) with e | hx
      · rw [e]; exact O.asym _ _ c
      · exact h'.1 x hx
    · rw [if_neg c]
      refine List.pairwise_cons.mpr ⟨fun x hx => ?_, h⟩
      have c' : lt m n = false := by simpa using c
      rcases List.mem_cons.mp hx with e | hx
      · rw [e]; exact c'
      · exact O.tr n m x c' (h'.1 x hx)
theorem isort_srt {lt : α → α → Bool} (O : SrtO.Swo lt) : ∀ ms : List α, SrtO.Srtd lt (isort lt ms)
  | [] => List.Pairwise.nil
  | m :: ms => insB_srt O m (isort_srt O ms)
theorem isort_uniq {lt : α → α → Bool} (O : SrtO.Swo lt) {ys xs : List α} (h1 : SrtO.Srtd lt ys) (h2 : SrtO.Stb lt ys xs) : ys = isort lt xs :=
  SrtO.stb_uniq O h1 (isort_srt O xs) (h2.trans ⟨(isort_stb O xs).perm.symm, fun x => ((isort_stb O xs).cls x).symm⟩)
theorem insB_map {lt : β → β → Bool} (f : α → β) (n : α) : ∀ ms : List α, (insB (fun a b => lt (f a) (f b)) n ms).map f = insB lt (f n) (ms.map f)
  | [] => rfl
  | m :: ms => by
    unfold insB
    rw [List.map_cons]
    by_cases c : lt (f m) (f n) = true
    · rw [if_pos c]
      simp only [List.map_cons, insB_map f n ms]
      rw [if_pos c]
    · rw [if_neg c]
      simp only [List.map_cons]
      rw [if_neg c]
theorem isort_map {lt : β → β → Bool} (f : α → β) : ∀ ms : List α, (isort (fun a b => lt (f a) (f b)) ms).map f = isort lt (ms.map f)
  | [] => rfl
  | m :: ms => by
    show (insB _ m (isort _ ms)).map f = insB lt (f m) (isort lt (ms.map f))
    rw [insB_map, isort_map f ms]
end
end DL
/-! ### as a rule of the layer -/
namespace L2
open PySem PySem.Spec PyProof.Rows
/-- a tuple that begins with these ints -/
def RowK (h : Heap) (v : Value) (ks : List Int) : Prop := ∃ (a : Addr) (o : Obj) (its : Array Value) (n : Nat) (us ws : List Value), v = .ref a ∧ h.get? a = some o ∧ o.cls = .type "tuple" ∧ o.data = .seq its n ∧ its.toList = us ++ ws ∧ Vals (ks.map V.int) us
theorem RowK.keeps {h h' : Heap} {v : Value} {ks : List Int} (p : RowK h v ks) (k : ∀ b o, h.get? b = some o → o.cls = .type "tuple" → h'.get? b = some o) : RowK h' v ks := by
  obtain ⟨a, o, its, n, us, ws, e, ho, hc, hd, r⟩ := p
  exact ⟨a, o, its, n, us, ws, e, k _ _ ho hc, hc, hd, r⟩
theorem rowk_firsts {h : Heap} {k : Value → List Int} : ∀ {vs : List Value}, (∀ v ∈ vs, RowK h v (k v) ∧ k v ≠ []) → ∃ fs : List Value, PySem.W.KatTups h vs fs ∧ fs.length = vs.length ∧ ∀ f ∈ fs, ∃ x t, f = Value.int x t
  | [], _ => ⟨[], PySem.W.KatTups.nil, rfl, fun _ hm => by simp at hm⟩
  | v :: vs, hp => by
    obtain ⟨fs, h1, h2, h3⟩ := rowk_firsts (vs := vs) fun v' hm => hp v' (List.mem_cons_of_mem _ hm)
    obtain ⟨⟨a, o, its, n, us, ws, e, ho, hc, hd, hi, hr⟩, ne⟩ := hp v (List.mem_cons_self ..)
    cases ek : k v with
    | nil => exact absurd ek ne
    | cons i r =>
      rw [ek] at hr
      cases hr with
      | cons r1 r2 =>
        rename_i u us'
        obtain ⟨t, rfl⟩ := r1
        refine ⟨.int i t :: fs, by rw [e]; exact PySem.W.KatTups.cons ho hc hd (by have z := congrArg (fun l : List Value => l[0]?) hi; simpa using z) h1, by rw [List.length_cons, List.length_cons, h2], fun f hm => ?_⟩
        · rcases List.mem_cons.mp hm with rfl | hm
          · exact ⟨i, t, rfl⟩
          · exact h3 f hm
section
variable {prog : Program} {w : World} {A : Around} {s : Shared}
/-- equal rows -/
theorem kat_same {b fin : Bool} {Q : Bool → Shared → Prop} (hQ : Q fin s) : ∀ (us : List Value) (i : Nat), PySem.W.KatLex prog w A b fin Q (us.zip us) i s
  | [], i => PySem.W.kat_nil hQ
  | u :: us, i => by
    rw [List.zip_cons_cons]
    exact PySem.W.kat_cons (SeqAt.EqAt.same u prog w _ _ (PySem.W.kat_yes (kat_same hQ us (i + 1))))
/-- rows that differ within their keys -/
theorem kat_keys {fin : Bool} {Q : Bool → Shared → Prop} : ∀ (ks ls : List Int) (us us' ws ws' : List Value) (i : Nat), Vals (ks.map V.int) us → Vals (ls.map V.int) us' → ks.length = ls.length → ks ≠ ls → Q (DL.lexL ks ls) s → PySem.W.KatLex prog w A true fin Q ((us ++ ws).zip (us' ++ ws')) i s
  | [], [], _, _, _, _, _, _, _, _, ne, _ => absurd rfl ne
  | [], _ :: _, _, _, _, _, _, _, _, hl, _, _ => by cases hl
  | _ :: _, [], _, _, _, _, _, _, _, hl, _, _ => by cases hl
  | x :: ks, y :: ls, us, us', ws, ws', i, h1, h2, hl, ne, hQ => by
    cases h1 with
    | cons r1 h1 =>
      cases h2 with
      | cons r2 h2 =>
        obtain ⟨t, rfl⟩ := r1
        obtain ⟨t', rfl⟩ := r2
        rw [List.cons_append, List.cons_append, List.zip_cons_cons]
        refine PySem.W.kat_cons (SeqAt.EqAt.int_int x t y t' prog w _ _ ?_)
        unfold DL.lexL at hQ
        refine PySem.W.kat_go (fun e1 => ?_) (fun e1 => ?_)
        · have ex : x = y := by simpa using e1
          rw [if_pos ex] at hQ
          exact PySem.W.kat_yes (kat_keys ks ls _ _ ws ws' (i + 1) h1 h2 (by simpa using hl) (fun z => ne (by rw [ex, z])) hQ)
        · have ex : ¬ x = y := by simpa using e1
          rw [if_neg ex] at hQ
          cases i with
          | zero => exact PySem.W.kat_no (oneLt_int hQ)
          | succ i => exact PySem.W.kat_no (PySem.W.kat_one _ _ (PyProof.Rows.lt_int hQ))
theorem rowk_cmp {vs : List Value} {k : Value → List Int} {m : Nat} (hp : ∀ v ∈ vs, RowK s.heap v (k v) ∧ (k v).length = m) (hu : ∀ v ∈ vs, ∀ u ∈ vs, k v = k u → v = u) : SrtO.Cmp prog w A s (tuples' true) (fun p => p.1 ∈ vs) (SrtO.lt2 fun v u => DL.lexL (k v) (k u)) := by
  intro p q hm hm'
  obtain ⟨h1, l1⟩ := hp _ hm
  obtain ⟨h2, l2⟩ := hp _ hm'
  show wpAny (model prog w) A (keyLt' (tuples' true) p.1 q.1) (fun r s' => s' = s ∧ r = DL.lexL (k p.1) (k q.1)) (fun _ _ => False) s
  obtain ⟨a, o, its, n, us, ws, e, ho, hc, hd, hi, hr⟩ := h1
  obtain ⟨a', o', its', n', us', ws', e', ho', hc', hd', hi', hr'⟩ := h2
  by_cases ek : k p.1 = k q.1
  · have eu := hu _ hm _ hm' ek
    rw [ek, DL.lexL_refl]
    rw [e, e'] at eu
    cases eu
    rw [ho] at ho'
    cases ho'
    rw [hd] at hd'
    cases hd'
    rw [e, e']
    refine PySem.W.kat_lt ho hd ho hd ?_
    rw [show decide (its.size < its.size) = false from decide_eq_false (Nat.lt_irrefl _)]
    exact kat_same (Q := fun r s' => s' = s ∧ r = false) ⟨rfl, rfl⟩ _ 0
  · rw [e, e']
    refine PySem.W.kat_lt ho hd ho' hd' ?_
    rw [hi, hi']
    have q2 := kat_keys (prog := prog) (w := w) (A := A) (s := s) (fin := decide (its.size < its'.size)) (Q := fun r s' => s' = s ∧ r = DL.lexL (k p.1) (k q.1)) (k p.1) (k q.1) us us' ws ws' 0 hr hr' (l1.trans l2.symm) ek ⟨rfl, rfl⟩
    rw [e, e'] at q2
    exact q2
theorem rowk_sortable {a : Addr} {vs : List Value} {k : Value → List Int} {m : Nat} (h0 : 0 < vs.length) (hm : 1 ≤ m) (hp : ∀ v ∈ vs, RowK s.heap v (k v) ∧ (k v).length = m) (hu : ∀ v ∈ vs, ∀ u ∈ vs, k v = k u → v = u) (ha : ∀ o, s.heap.get? a = some o → o.cls ≠ .type "tuple") :
    SrtO.SortableO prog w A s a vs fun v u => DL.lexL (k v) (k u) := by
  intro h' keep
  have hp' : ∀ v ∈ vs, RowK h' v (k v) ∧ (k v).length = m := fun v hv => ⟨(hp v hv).1.keeps fun b o e c => keep b o (fun z => by subst z; exact ha o e c) e, (hp v hv).2⟩
  obtain ⟨fs, h1, h2, h3⟩ := rowk_firsts (k := k) fun v hv => ⟨(hp' v hv).1, fun z => by have := (hp' v hv).2; rw [z, List.length_nil] at this; omega⟩
  refine ⟨tuples' true, fun Q E hq => ?_, rowk_cmp (s := { s with heap := h' }) hp' hu⟩
  refine PySem.W.kat_kind (T := .type "int") h1 (by omega) (fun f hf => ?_) (by rfl) ?_
  · obtain ⟨x, t, rfl⟩ := h3 f hf
    exact PySem.W.Looks.now
  · have e : (Value.type "int" != Value.type "tuple") = true := by first | decide +kernel | rfl | decide
    rw [e]
    exact hq
theorem sorted_rowk {E : Value → Shared → Prop} {l : Addr} {vs : List Value} {k : Value → List Int} {m : Nat} {Q : Value → Shared → Prop} (hm : 1 ≤ m) (hl : s.heap.IsList l vs.toArray) (hz : vs.length ≤ sizeLine) (hp : ∀ v ∈ vs, RowK s.heap v (k v) ∧ (k v).length = m) (hu : ∀ v ∈ vs, ∀ u ∈ vs, k v = k u → v = u)
    (h : ∀ (h' : Heap) (d : Addr) (out : List Value), SrtO.Srtd (fun v u => DL.lexL (k v) (k u)) out → SrtO.Stb (fun v u => DL.lexL (k v) (k u)) out vs → (∀ b o, s.heap.get? b = some o → h'.get? b = some o) → s.heap.objs.size ≤ d → (∃ n, h'.get? d = some (seqObj "list" out.toArray n)) → Q (.ref d) { s with heap := h' }) :
    wpAny (model prog w) A (call (.builtin "sorted") [.ref l]) Q E s := by
  refine SrtO.sorted_ord (DL.swo_lexL k) hl hz (fun h2 h₁ a ha kk => ?_) fun out hs hb => ?_
  · refine rowk_sortable (s := { s with heap := h₁ }) (by omega) hm (fun v hv => ⟨(hp v hv).1.keeps fun b o e _ => (kk b o e).2, (hp v hv).2⟩) hu fun o e => ?_
    have e' : some o = some (seqObj "list" vs.toArray 0) := e.symm.trans ha
    cases e'
    intro c
    exact absurd (Value.type.inj c) (by decide)
  · exact h _ _ out hs hb (fun b o e => sortedAll_old e) (Nat.le_succ _) (sortedAll_at s.heap vs out.toArray)
end
/-- x before y: by the ints that they begin with -/
abbrev ltK (k : V → List Int) (x y : V) : Bool := DL.lexL (k x) (k y)
def rSortKO (K : PySem.W.Frag) : List V → Hp → VK → Prop := fun vs H Q => ∃ (a : Addr) (xs : List V) (k : V → List Int) (m : Nat), vs = [V.ref a] ∧ 1 ≤ m ∧ SqL K H a xs ∧ (∀ x ∈ xs, ∃ t r, x = V.ref t ∧ H t = some (.tup ((k x).map V.int ++ r)) ∧ (k x).length = m) ∧ (∀ x ∈ xs, ∀ y ∈ xs, k x = k y → x = y) ∧
  ∀ ys p, SrtO.Srtd (ltK k) ys → SrtO.Stb (ltK k) ys xs → H p = none → Q (.ref p) (upd H p (.lst ys))
theorem paired_app {as bs : List V} : ∀ {cs : List Value}, Vals (as ++ bs) cs → ∃ us ws, cs = us ++ ws ∧ Vals as us ∧ Vals bs ws := by
  induction as with
  | nil => intro cs h; exact ⟨[], cs, rfl, .nil, h⟩
  | cons a as ih =>
    intro cs h
    cases h with
    | cons r h =>
      obtain ⟨us, ws, rfl, h1, h2⟩ := ih h
      exact ⟨_ :: us, ws, rfl, .cons r h1, h2⟩
section
variable {X : Cx}
theorem cr_sortKO : CallR X (.builtin "sorted") (rSortKO X.K) := by
  intro pins s σ H vs us Q I r h
  obtain ⟨a, xs, k, m, rfl, hm, hs, hx, hu, q⟩ := h
  obtain ⟨its, rv, hl, hz⟩ := I.list hs
  obtain ⟨u, rfl, ru⟩ := vals1 r
  obtain rfl : u = Value.ref a := ru
  obtain ⟨e1, e2⟩ := refs_back rv fun x m => by
    obtain ⟨t, r, e, _⟩ := hx x m
    exact ⟨t, e⟩
  have mem : ∀ t, Value.ref t ∈ its → V.ref t ∈ xs := fun t hv => by rw [e1]; exact List.mem_map.mpr ⟨_, hv, rfl⟩
  refine sorted_rowk (k := fun u => k (backV u)) hm hl.isList (by rw [← rv.length]; exact hz) (fun v hv => ?_) (fun v hv u hu' ek => ?_) fun h' d out h1 h2 kp hd hn => ?_
  · obtain ⟨t, rfl⟩ := e2 v hv
    obtain ⟨t', r', e, ht, hlen⟩ := hx _ (mem t hv)
    cases e
    obtain ⟨_, its2, r2, o, ho, hc, n, hd⟩ := I.hok _ _ ht
    obtain ⟨us, ws, e3, h1, h2⟩ := paired_app r2
    exact ⟨⟨t, o, its2.toArray, n, us, ws, rfl, ho, hc, hd, e3, h1⟩, hlen⟩
  · obtain ⟨t, rfl⟩ := e2 v hv
    obtain ⟨t', rfl⟩ := e2 u hu'
    have := hu _ (mem t hv) _ (mem t' hu') ek
    cases this
    rfl
  · have h3 : ∀ u ∈ out, ∃ a, u = Value.ref a := fun u hu => e2 u (h2.perm.mem_iff.mp hu)
    obtain ⟨n, hn⟩ := hn
    have hb : SrtO.Stb (ltK k) (out.map backV) xs := by
      rw [e1]
      exact SrtO.Stb.map (DL.swo_lexL k) backV h2
    refine ⟨.ref d, upd H d (.lst (out.map backV)), I.laid (t' := s.toks) kp hd ⟨?_, out, n, vals_back h3, hn⟩, rfl, q _ d (SrtO.srtd_map h1) hb (I.hok.fresh hd)⟩
    rw [hb.len]
    exact hz
end
end L2
namespace DL
open PySem L2
/-! ### as an operation -/
def keyNO (m : Nat) : D → Option (List Int)
  | .tup ds => if m ≤ ds.length then intsD (ds.take m) else none
  | _ => none
def keyN (m : Nat) (d : D) : List Int := (keyNO m d).getD []
abbrev ltN (m : Nat) (x y : D) : Bool := lexL (keyN m x) (keyN m y)
/-- sorted(xs), xs a list of tuples that begin with m ints that no two share -/
def opSortK (m : Nat) (mm : Bool) (ds : List D) (S : Store) : Out D := match ds with
  | [d] => match asL d S with
    | some xs => gd (1 ≤ m ∧ (xs.all fun x => (keyNO m x).isSome) = true ∧ (xs.map (keyN m)).Nodup) (mkL mm (isort (ltN m) xs) S)
    | none => .stuck
  | _ => .stuck
def vInt : V → Option Int
  | .int i => some i
  | _ => none
def keyV (m : Nat) (H : Hp) : V → List Int
  | .ref t => match H t with
    | some (.tup vs) => (vs.take m).filterMap vInt
    | _ => []
  | _ => []
theorem intsD_len : ∀ {ds : List D} {ns : List Int}, intsD ds = some ns → ns.length = ds.length
  | [], _, e => by cases (show some [] = some _ from e); rfl
  | d :: ds, ns, e => by
    unfold intsD at e
    split at e
    · rename_i h; cases h
    · rename_i i ds' e0
      cases e0
      cases e1 : intsD ds with
      | none => rw [e1] at e; cases e
      | some ns' =>
        rw [e1] at e
        cases (show some (i :: ns') = some ns from e)
        rw [List.length_cons, List.length_cons, intsD_len e1]
    · cases e
theorem vints_map : ∀ ks : List Int, (ks.map V.int).filterMap vInt = ks
  | [] => rfl
  | k :: ks => by
    rw [List.map_cons, List.filterMap_cons]
    show k :: (ks.map V.int).filterMap vInt = _
    rw [vints_map ks]
section
variable {K : PySem.W.Frag} {F : Hp} {fs : List Addr}
theorem key_rep {H : Hp} (le : ∀ a o, F a = some o → H a = some o) {m : Nat} {d : D} {x : V} {ks : List Int} (r : Rep K F fs d x) (e : keyNO m d = some ks) : ∃ t w, x = .ref t ∧ H t = some (.tup (ks.map V.int ++ w)) ∧ ks.length = m ∧ keyV m H x = ks := by
  unfold keyNO at e
  split at e
  · rename_i ds
    split at e
    · rename_i hm
      rw [Rep] at r
      obtain ⟨t, us, rfl, k2, k3⟩ := r
      have k4 := intsD_ok (k3.take m) e
      have kl : ks.length = m := by rw [intsD_len e, List.length_take]; omega
      have k5 : us = ks.map V.int ++ us.drop m := by rw [← k4, List.take_append_drop]
      have k6 := le _ _ k2
      rw [k5] at k6
      refine ⟨t, us.drop m, rfl, k6, kl, ?_⟩
      show (match H t with
        | some (.tup vs) => (vs.take m).filterMap vInt
        | _ => []) = _
      rw [le _ _ k2]
      show (us.take m).filterMap vInt = ks
      rw [k4, vints_map]
    · cases e
  · cases e
theorem repL_zip : ∀ {ds : List D} {xs : List V}, RepL K F fs ds xs → ∃ ps : List (D × V), ps.map (·.1) = ds ∧ ps.map (·.2) = xs ∧ ∀ p ∈ ps, Rep K F fs p.1 p.2
  | [], _, r => by rw [RepL] at r; subst r; exact ⟨[], rfl, rfl, fun _ h => by cases h⟩
  | d :: ds, _, r => by
    rw [RepL] at r
    obtain ⟨x, xr, rfl, h1, h2⟩ := r
    obtain ⟨ps, e1, e2, q⟩ := repL_zip h2
    refine ⟨(d, x) :: ps, by rw [List.map_cons, e1], by rw [List.map_cons, e2], fun p hp => ?_⟩
    rcases List.mem_cons.mp hp with e | hp
    · rw [e]; exact h1
    · exact q p hp
theorem repL_unzip : ∀ {ps : List (D × V)}, (∀ p ∈ ps, Rep K F fs p.1 p.2) → RepL K F fs (ps.map (·.1)) (ps.map (·.2))
  | [], _ => RepL.nil
  | p :: ps, h => RepL.cons (h p (List.mem_cons_self ..)) (repL_unzip fun q hq => h q (List.mem_cons_of_mem _ hq))
end
section
variable {α β : Type}
theorem insB_congr {lt lt' : α → α → Bool} (n : α) : ∀ {ms : List α}, (∀ m ∈ ms, lt m n = lt' m n) → insB lt n ms = insB lt' n ms
  | [], _ => rfl
  | m :: ms, h => by
    unfold insB
    rw [h m (List.mem_cons_self ..), insB_congr n fun x hx => h x (List.mem_cons_of_mem _ hx)]
theorem isort_congr {lt lt' : α → α → Bool} (O : SrtO.Swo lt') : ∀ {ms : List α}, (∀ x ∈ ms, ∀ y ∈ ms, lt x y = lt' x y) → isort lt ms = isort lt' ms
  | [], _ => rfl
  | m :: ms, h => by
    show insB lt m (isort lt ms) = insB lt' m (isort lt' ms)
    rw [isort_congr O fun x hx y hy => h x (List.mem_cons_of_mem _ hx) y (List.mem_cons_of_mem _ hy)]
    exact insB_congr m fun x hx => h x (List.mem_cons_of_mem _ ((isort_perm O ms).mem_iff.mp hx)) m (List.mem_cons_self ..)
theorem nodup_inj {k : α → β} : ∀ {l : List α}, (l.map k).Nodup → ∀ x ∈ l, ∀ y ∈ l, k x = k y → x = y
  | [], _, _, h, _, _, _ => by cases h
  | a :: l, n, x, hx, y, hy, e => by
    rw [List.map_cons] at n
    have n' := List.nodup_cons.mp n
    rcases List.mem_cons.mp hx with ex | hx
    · rcases List.mem_cons.mp hy with ey | hy
      · rw [ex, ey]
      · rw [ex] at e
        exact absurd (List.mem_map.mpr ⟨y, hy, e.symm⟩) n'.1
    · rcases List.mem_cons.mp hy with ey | hy
      · rw [ey] at e
        exact absurd (List.mem_map.mpr ⟨x, hx, e⟩) n'.1
      · exact nodup_inj n'.2 x hx y hy e
end
theorem ol_sortK {K : PySem.W.Frag} {m : Nat} {mm : Bool} : OpL K (rSortKO K) (opSortK m mm) := ⟨fun Ex fs F S H ds vs Q ml r0 p => by
  unfold opSortK at p
  split at p
  · obtain ⟨v, rfl, r⟩ := repL1 r0
    rename_i d
    cases e1 : asL d S with
    | none => rw [e1] at p; exact False.elim p
    | some xs =>
      simp only [e1] at p
      obtain ⟨⟨hm, hk, hn⟩, p⟩ := p.gd
      obtain ⟨a, us, h1, h2, h3⟩ := asL_ok ml r e1
      obtain ⟨ps, z1, z2, zr⟩ := repL_zip h3
      have kk : ∀ q ∈ ps, ∃ t w, q.2 = V.ref t ∧ H t = some (.tup ((keyV m H q.2).map V.int ++ w)) ∧ (keyV m H q.2).length = m ∧ keyV m H q.2 = keyN m q.1 := fun q hq => by
        have hs : (keyNO m q.1).isSome = true := List.all_eq_true.mp hk _ (by rw [← z1]; exact List.mem_map.mpr ⟨q, hq, rfl⟩)
        obtain ⟨ks, hks⟩ := Option.isSome_iff_exists.mp hs
        obtain ⟨t, w, g1, g2, g3, g4⟩ := key_rep ml.le (zr q hq) hks
        refine ⟨t, w, g1, by rw [g4]; exact g2, by rw [g4]; exact g3, ?_⟩
        rw [g4]
        unfold keyN
        rw [hks]
        rfl
      have ek : us.map (keyV m H) = xs.map (keyN m) := by
        rw [← z1, ← z2, List.map_map, List.map_map]
        refine List.map_congr_left fun q hq => ?_
        obtain ⟨_, _, _, _, _, g⟩ := kk q hq
        exact g
      refine ⟨a, us, keyV m H, m, by rw [h1], hm, SqL.of h2, fun x hx => ?_, nodup_inj (by rw [ek]; exact hn), fun ys l hs hb hl => ?_⟩
      · rw [← z2] at hx
        obtain ⟨q, hq, rfl⟩ := List.mem_map.mp hx
        obtain ⟨t, w, g1, g2, g3, _⟩ := kk q hq
        exact ⟨t, w, g1, g2, g3⟩
      · have ey := isort_uniq (swo_lexL (keyV m H)) hs hb
        have e5 : isort (fun p q : D × V => ltN m p.1 q.1) ps = isort (fun p q : D × V => ltK (keyV m H) p.2 q.2) ps := isort_congr (swo_lexL fun p : D × V => keyV m H p.2) fun x hx y hy => by
          obtain ⟨_, _, _, _, _, g1⟩ := kk x hx
          obtain ⟨_, _, _, _, _, g2⟩ := kk y hy
          show lexL _ _ = lexL _ _
          rw [g1, g2]
        refine fresh_lst ml p ?_ hl
        have q1 := isort_map (lt := ltN m) (fun p : D × V => p.1) ps
        have q2 := isort_map (lt := ltK (keyV m H)) (fun p : D × V => p.2) ps
        rw [z1] at q1
        rw [z2] at q2
        rw [ey, ← q1, ← q2, e5]
        exact repL_unzip fun p hp => zr p ((isort_perm (swo_lexL fun p : D × V => keyV m H p.2) ps).mem_iff.mp hp)
  · exact False.elim p⟩
section
variable {S : Store} {Q : D → Store → Prop}
theorem w_sortK {m : Nat} {mm : Bool} {d : D} {xs : List D} (e : asL d S = some xs) (hm : 1 ≤ m) (hk : ∀ x ∈ xs, (keyNO m x).isSome = true) (hn : (xs.map (keyN m)).Nodup) (h : WE (mkL mm (isort (ltN m) xs) S) Q) : WE (opSortK m mm [d] S) Q := by
  unfold opSortK
  simp only [e]
  exact w_gd ⟨hm, List.all_eq_true.mpr hk, hn⟩ h
end
end DL
/-! DX, part 7: a dict that is read key by key is locked meanwhile. -/
namespace DL
open PySem PySem.Spec PyProof.Rows L2
def del (F : Hp) (a : Addr) : Hp := fun b => if b = a then none else F b
theorem del_ne {F : Hp} {a b : Addr} (h : b ≠ a) : del F a b = F b := if_neg h
theorem del_same {F : Hp} {a : Addr} : del F a a = none := if_pos rfl
/-- a locked thing that is no list and no tuple -/
def LkAt (F : Hp) (a : Addr) : Prop := ∃ od u, F a = some (.frz od u) ∧ (∀ xs, u ≠ HO.lst xs) ∧ ∀ xs, u ≠ HO.tup xs
theorem LkAt.dK {F : Hp} {a : Addr} {od : Obj} {us : List (Key × V)} (h : F a = some (.frz od (.dK us))) : LkAt F a := ⟨od, _, h, (fun _ z => by cases z), (fun _ z => by cases z)⟩
theorem LkAt.dT {F : Hp} {a : Addr} {od : Obj} {us : List (List Key × V)} (h : F a = some (.frz od (.dT us))) : LkAt F a := ⟨od, _, h, (fun _ z => by cases z), (fun _ z => by cases z)⟩
section
variable {K : PySem.W.Frag} {F : Hp} {fs : List Addr} {p : Addr} (hp : LkAt F p)
include hp
theorem del_lst {b : Addr} {xs : List V} (h : F b = some (.lst xs)) : del F p b = some (.lst xs) := by
  obtain ⟨od, u, e, n1, n2⟩ := hp
  rw [del_ne (fun z => by rw [z, e] at h; cases h)]; exact h
theorem del_tup {b : Addr} {xs : List V} (h : F b = some (.tup xs)) : del F p b = some (.tup xs) := by
  obtain ⟨od, u, e, n1, n2⟩ := hp
  rw [del_ne (fun z => by rw [z, e] at h; cases h)]; exact h
theorem del_sqL {b : Addr} {xs : List V} (h : SqL K F b xs) : SqL K (del F p) b xs := by
  have hp' := hp
  obtain ⟨od, u, e, n1, n2⟩ := hp
  rcases h with (h | ⟨o, h⟩) | h
  · exact .inl (.inl (del_lst hp' h))
  · refine .inl (.inr ⟨o, ?_⟩)
    rw [del_ne (fun z => by rw [z, e] at h; cases h; exact n1 _ rfl)]; exact h
  · exact .inr h
theorem del_sqT {b : Addr} {xs : List V} (h : SqT K F b xs) : SqT K (del F p) b xs := by
  have hp' := hp
  obtain ⟨od, u, e, n1, n2⟩ := hp
  rcases h with (h | ⟨o, h⟩) | h
  · exact .inl (.inl (del_tup hp' h))
  · refine .inl (.inr ⟨o, ?_⟩)
    rw [del_ne (fun z => by rw [z, e] at h; cases h; exact n2 _ rfl)]; exact h
  · exact .inr h
mutual
theorem Rep.del : ∀ (d : D) {v : V}, Rep K F fs d v → Rep K (del F p) fs d v
  | .non, _, h => by rw [Rep] at h ⊢; exact h
  | .bl _, _, h => by rw [Rep] at h ⊢; exact h
  | .int _, _, h => by rw [Rep] at h ⊢; exact h
  | .str _, _, h => by rw [Rep] at h ⊢; exact h
  | .lst ds, _, h => by
    rw [Rep] at h ⊢
    obtain ⟨a, xs, e, h1, h2⟩ := h
    exact ⟨a, xs, e, del_lst hp h1, RepL.del ds h2⟩
  | .tup ds, _, h => by
    rw [Rep] at h ⊢
    obtain ⟨a, xs, e, h1, h2⟩ := h
    exact ⟨a, xs, e, del_tup hp h1, RepL.del ds h2⟩
  | .fz t ds, _, h => by
    rw [Rep] at h ⊢
    obtain ⟨a, xs, e, h1, h2⟩ := h
    refine ⟨a, xs, e, ?_, RepL.del ds h2⟩
    cases t with
    | true => exact del_sqT hp h1
    | false => exact del_sqL hp h1
  | .ref n, _, h => by rw [Rep] at h ⊢; exact h
  | .ty n, _, h => by rw [Rep] at h ⊢; exact h
  | .adr a, _, h => by rw [Rep] at h ⊢; exact h
theorem RepL.del : ∀ (ds : List D) {xs : List V}, RepL K F fs ds xs → RepL K (del F p) fs ds xs
  | [], _, h => by rw [RepL] at h ⊢; exact h
  | d :: ds, _, h => by
    rw [RepL] at h ⊢
    obtain ⟨x, xr, e, h1, h2⟩ := h
    exact ⟨x, xr, e, Rep.del d h1, RepL.del ds h2⟩
end
theorem RepKV.del {κ : Type} : ∀ (ps : List (κ × D)) {xs : List (κ × V)}, RepKV K F fs ps xs → RepKV K (del F p) fs ps xs
  | [], _, h => h
  | q :: ps, _, ⟨x, xr, e, h1, h2⟩ => ⟨x, xr, e, Rep.del hp _ h1, RepKV.del ps h2⟩
theorem RepO.del {so : SO} {b : Addr} {H H' : Hp} (hk : H' b = H b) (h : RepO K F fs H b so) : RepO K (del F p) fs H' b so := by
  cases so with
  | dead => trivial
  | lst ds => obtain ⟨xs, e, r⟩ := h; exact ⟨xs, hk.trans e, RepL.del hp ds r⟩
  | dct ds => obtain ⟨xs, e, r⟩ := h; exact ⟨xs, hk.trans e, RepKV.del hp ds r⟩
  | dcT ds => obtain ⟨xs, e, r⟩ := h; exact ⟨xs, hk.trans e, RepKV.del hp ds r⟩
  | ins C ds => obtain ⟨dx, xs, e, r⟩ := h; exact ⟨dx, xs, hk.trans e, RepKV.del hp ds r⟩
  | lkd ds => exact h.elim
  | lkT ds => exact h.elim
theorem RepK.del {so : SO} {b : Addr} (hb : b ≠ p) (h : RepK K F fs b so) : RepK K (del F p) fs b so := by
  cases so with
  | lkd ds => obtain ⟨od, xs, e, r⟩ := h; exact ⟨od, xs, by rw [del_ne hb]; exact e, RepKV.del hp ds r⟩
  | lkT ds => obtain ⟨od, xs, e, r⟩ := h; exact ⟨od, xs, by rw [del_ne hb]; exact e, RepKV.del hp ds r⟩
  | _ => exact h.elim
end
/-- what a dict of the store is, and what it is locked -/
inductive Lks : SO → SO → HO → Prop
  | dK {kvs us} : Lks (.dct kvs) (.lkd kvs) (.dK us)
  | dT {kvs us} : Lks (.dcT kvs) (.lkT kvs) (.dT us)
section
variable {K : PySem.W.Frag} {fs : List Addr} {S : Store} {F H : Hp}
/-- a dict is locked -/
theorem mt_lock {n : Nat} {so sl : SO} {a : Addr} {u : HO} {od : Obj} (m : Mt K fs S F H) (hs : S[n]? = some so) (hv : so.live = true) (ha : fs[n]? = some a) (hF : F a = none) (hH : H a = some u) (hL : sl.live = false) (hR : RepK K (upd F a (.frz od u)) fs a sl) :
    Mt K fs (S.set n sl) (upd F a (.frz od u)) (upd H a (.frz od u)) ∧ Gr fs F H fs (upd F a (.frz od u)) (upd H a (.frz od u)) := by
  have hn : n < S.length := (List.getElem?_eq_some_iff.mp hs).1
  have le : ∀ b o', F b = some o' → upd F a (.frz od u) b = some o' := fun b o' h => by rw [upd_ne (fun z => by subst z; rw [hF] at h; cases h)]; exact h
  have sets : ∀ (k : Nat) (s : SO), (S.set n sl)[k]? = some s → (k = n ∧ s = sl) ∨ (k ≠ n ∧ S[k]? = some s) := fun k s h => by
    by_cases hk : k = n
    · subst hk; rw [List.getElem?_set_self hn] at h; cases h; exact .inl ⟨rfl, rfl⟩
    · rw [List.getElem?_set_ne (Ne.symm hk)] at h; exact .inr ⟨hk, h⟩
  have lives : ∀ (k : Nat) (s : SO), (S.set n sl)[k]? = some s → s.live = true → k ≠ n ∧ S[k]? = some s := fun k s h hl => by
    rcases sets k s h with ⟨_, e⟩ | h
    · rw [e, hL] at hl; cases hl
    · exact h
  have oth : ∀ (k : Nat) (s : SO) (b : Addr), S[k]? = some s → s.locked = true → fs[k]? = some b → b ≠ a := fun k s b h hl e z => by
    obtain ⟨b', e', r⟩ := m.lk k s h hl
    rw [e] at e'; cases e'
    subst z
    cases s with
    | lkd ds => obtain ⟨_, _, q, _⟩ := r; rw [hF] at q; cases q
    | lkT ds => obtain ⟨_, _, q, _⟩ := r; rw [hF] at q; cases q
    | _ => exact r.elim
  refine ⟨⟨by rw [List.length_set]; exact m.len, fun b o' h => ?_, fun k s hk hl => ?_, fun i k b s s' hi hl hk hl' e1 e2 => m.inj i k b s s' (lives i s hi hl).2 hl (lives k s' hk hl').2 hl' e1 e2, fun b h => ?_, fun k s hk hl => ?_, fun i k b s s' hi hl hk hl' e1 e2 => ?_⟩,
    ⟨⟨[], by simp⟩, le, fun _ h => .inl h, fun b o' h => ?_, fun b o' h nb => ?_, fun b h => ?_⟩⟩
  · by_cases e : b = a
    · subst e; rw [upd_same] at h ⊢; exact h
    · rw [upd_ne e] at h ⊢; exact m.le b o' h
  · obtain ⟨kn, hk⟩ := lives k s hk hl
    obtain ⟨b, e1, e2, r⟩ := m.ob k s hk hl
    have ne : b ≠ a := fun z => kn (m.inj k n b s so hk hl hs hv e1 (by rw [z]; exact ha))
    exact ⟨b, e1, by rw [upd_ne ne]; exact e2, r.keep le (fun _ _ h => h) (upd_ne ne)⟩
  · by_cases e : b = a
    · subst e; rw [upd_same]; simp
    · rw [upd_ne e]; exact m.dom b h
  · rcases sets k s hk with ⟨rfl, rfl⟩ | ⟨_, hk⟩
    · exact ⟨a, ha, hR⟩
    · obtain ⟨b, e, r⟩ := m.lk k s hk hl
      exact ⟨b, e, r.keep le fun _ _ h => h⟩
  · rcases sets i s hi with ⟨a1, a2⟩ | ⟨a1, a2⟩
    · rcases sets k s' hk with ⟨b1, b2⟩ | ⟨b1, b2⟩
      · rw [a1, b1]
      · rw [a1, ha] at e1; cases e1
        exact absurd rfl (oth k s' a b2 hl' e2)
    · rcases sets k s' hk with ⟨b1, b2⟩ | ⟨b1, b2⟩
      · rw [b1, ha] at e2; cases e2
        exact absurd rfl (oth i s a a2 hl e1)
      · exact m.lki i k b s s' a2 hl b2 hl' e1 e2
  · by_cases e : b = a
    · subst e; exact .inr (.inr (List.mem_of_getElem? ha))
    · rw [upd_ne e] at h; exact .inl h
  · rw [upd_ne (fun z => nb (by rw [z]; exact List.mem_of_getElem? ha))]; exact h
  · by_cases e : b = a
    · subst e; rw [upd_same] at h; cases h
    · rw [upd_ne e] at h; exact h
/-- .. and let go -/
theorem mt_unlock {n : Nat} {so sl : SO} {a : Addr} {u : HO} (m : Mt K fs S F H) (hs : S[n]? = some sl) (hL : sl.locked = true) (hv : so.live = true) (hv2 : so.locked = false) (ha : fs[n]? = some a) (hp : LkAt F a) (hR : RepO K (del F a) fs (upd H a u) a so) : Mt K fs (S.set n so) (del F a) (upd H a u) := by
  have hn : n < S.length := (List.getElem?_eq_some_iff.mp hs).1
  have sets : ∀ (k : Nat) (s : SO), (S.set n so)[k]? = some s → (k = n ∧ s = so) ∨ (k ≠ n ∧ S[k]? = some s) := fun k s h => by
    by_cases hk : k = n
    · subst hk; rw [List.getElem?_set_self hn] at h; cases h; exact .inl ⟨rfl, rfl⟩
    · rw [List.getElem?_set_ne (Ne.symm hk)] at h; exact .inr ⟨hk, h⟩
  have lcks : ∀ (k : Nat) (s : SO), (S.set n so)[k]? = some s → s.locked = true → k ≠ n ∧ S[k]? = some s := fun k s h hl => by
    rcases sets k s h with ⟨_, e⟩ | h
    · rw [e, hv2] at hl; cases hl
    · exact h
  have obne : ∀ (k : Nat) (s : SO), S[k]? = some s → s.live = true → ∃ b, fs[k]? = some b ∧ F b = none ∧ RepO K F fs H b s ∧ b ≠ a := fun k s hk hl => by
    obtain ⟨b, e1, e2, r⟩ := m.ob k s hk hl
    refine ⟨b, e1, e2, r, fun z => ?_⟩
    obtain ⟨od, w, e, _⟩ := hp
    rw [z, e] at e2; cases e2
  refine ⟨by rw [List.length_set]; exact m.len, fun b o' h => ?_, fun k s hk hl => ?_, fun i k b s s' hi hl hk hl' e1 e2 => ?_, fun b h => ?_, fun k s hk hl => ?_, fun i k b s s' hi hl hk hl' e1 e2 => m.lki i k b s s' (lcks i s hi hl).2 hl (lcks k s' hk hl').2 hl' e1 e2⟩
  · by_cases e : b = a
    · subst e; rw [del_same] at h; cases h
    · rw [del_ne e] at h; rw [upd_ne e]; exact m.le b o' h
  · rcases sets k s hk with ⟨rfl, rfl⟩ | ⟨hkn, hk⟩
    · exact ⟨a, ha, del_same, hR⟩
    · obtain ⟨b, e1, e2, r, ne⟩ := obne k s hk hl
      exact ⟨b, e1, by rw [del_ne ne]; exact e2, r.del hp (upd_ne ne)⟩
  · rcases sets i s hi with ⟨a1, a2⟩ | ⟨a1, a2⟩
    · rcases sets k s' hk with ⟨b1, b2⟩ | ⟨b1, b2⟩
      · rw [a1, b1]
      · rw [a1, ha] at e1; cases e1
        obtain ⟨b', f1, _, _, ne⟩ := obne k s' b2 hl'
        rw [e2] at f1; cases f1
        exact absurd rfl ne
    · rcases sets k s' hk with ⟨b1, b2⟩ | ⟨b1, b2⟩
      · rw [b1, ha] at e2; cases e2
        obtain ⟨b', f1, _, _, ne⟩ := obne i s a2 hl
        rw [e1] at f1; cases f1
        exact absurd rfl ne
      · exact m.inj i k b s s' a2 hl b2 hl' e1 e2
  · by_cases e : b = a
    · subst e; rw [upd_same]; simp
    · rw [upd_ne e]; exact m.dom b h
  · obtain ⟨kn, hk⟩ := lcks k s hk hl
    obtain ⟨b, e, r⟩ := m.lk k s hk hl
    have ne : b ≠ a := fun z => kn (m.lki k n b s sl hk hl hs hL e (by rw [z]; exact ha))
    exact ⟨b, e, r.del hp ne⟩
theorem gr_unlock {fs0 : List Addr} {F0 H0 : Hp} {a : Addr} {u : HO} {od : Obj} (g : Gr fs0 (upd F0 a (.frz od u)) (upd H0 a (.frz od u)) fs F H) (hF : F0 a = none) (hH : H0 a = some u) (ha : a ∈ fs0) : Gr fs0 F0 H0 fs (del F a) (upd H a u) := by
  refine ⟨g.pre, fun b o h => ?_, fun b h => ?_, fun b o h => ?_, fun b o h nb => ?_, fun b h => ?_⟩
  · have ne : b ≠ a := fun z => by rw [z, hF] at h; cases h
    rw [del_ne ne]
    exact g.le b o (by rw [upd_ne ne]; exact h)
  · rcases g.new b h with h | h
    · exact .inl h
    · by_cases e : b = a
      · rw [e]; exact .inl ha
      · rw [upd_ne e] at h; exact .inr h
  · by_cases e : b = a
    · rw [e]; exact .inr (.inr ha)
    · rw [del_ne e] at h
      rcases g.newF b o h with h | h | h
      · rw [upd_ne e] at h; exact .inl h
      · rw [upd_ne e] at h; exact .inr (.inl h)
      · exact .inr (.inr h)
  · have ne : b ≠ a := fun z => nb (by rw [z]; exact ha)
    rw [upd_ne ne]
    exact g.keep b o (by rw [upd_ne ne]; exact h) nb
  · by_cases e : b = a
    · rw [e, upd_same] at h; cases h
    · rw [upd_ne e] at h
      have := g.dom b h
      rwa [upd_ne e] at this
end
/-! ### the outcome of what ran under the lock -/
def unlockS (n : Nat) (S : Store) : Option Store := match S[n]? with
  | some (.lkd kvs) => some (S.set n (.dct kvs))
  | some (.lkT kvs) => some (S.set n (.dcT kvs))
  | _ => none
def unlockO (n : Nat) : Out D → Out D
  | .ok d S => match unlockS n S with
    | some S' => .ok d S'
    | none => .stuck
  | _ => .stuck
section
variable {K : PySem.W.Frag} {fs : List Addr} {S : Store} {F H : Hp} {a : Addr} {u : HO} {od : Obj} {n : Nat}
/-- which things are locked -/
def isDct : HO → Prop
  | .dK _ => True
  | .dT _ => True
  | _ => False
theorem unlock_mt {fs' : List Addr} {F' H' : Hp} {S3 S4 : Store} (hu : isDct u) (hF : F a = none) (hH : H a = some u) (ha : fs[n]? = some a) (g : Gr fs (upd F a (.frz od u)) (upd H a (.frz od u)) fs' F' H') (m : Mt K fs' S3 F' H') (e : unlockS n S3 = some S4) :
    H' a = some (.frz od u) ∧ LkAt F' a ∧ Gr fs F H fs' (del F' a) (upd H' a u) ∧ Mt K fs' S4 (del F' a) (upd H' a u) := by
  have hF' : F' a = some (.frz od u) := g.le _ _ upd_same
  have g2 := gr_unlock g hF hH (List.mem_of_getElem? ha)
  unfold unlockS at e
  split at e
  · rename_i kvs q
    cases e
    obtain ⟨a', f1, od', us, f2, f3⟩ := m.lk n _ q rfl
    rw [g.get ha] at f1; cases f1
    rw [hF'] at f2; cases f2
    have hp := LkAt.dK hF'
    exact ⟨m.le _ _ hF', hp, g2, mt_unlock m q rfl rfl rfl (g.get ha) hp ⟨us, upd_same, RepKV.del hp _ f3⟩⟩
  · rename_i kvs q
    cases e
    obtain ⟨a', f1, od', us, f2, f3⟩ := m.lk n _ q rfl
    rw [g.get ha] at f1; cases f1
    rw [hF'] at f2; cases f2
    have hp := LkAt.dT hF'
    exact ⟨m.le _ _ hF', hp, g2, mt_unlock m q rfl rfl rfl (g.get ha) hp ⟨us, upd_same, RepKV.del hp _ f3⟩⟩
  · cases e
theorem unlock_post {Ex Ex' : Value → Option Addr → Hp → Prop} {o : Out D} {Q : VK} (hu : isDct u) (hF : F a = none) (hH : H a = some u) (ha : fs[n]? = some a) (p : PostG K (Rep K) Ex (unlockO n o) fs F H Q) :
    PostG K (Rep K) Ex' o fs (upd F a (.frz od u)) (upd H a (.frz od u)) (fun v H' => H' a = some (.frz od u) ∧ Q v (upd H' a u)) := by
  cases o with
  | stuck => exact p
  | exc C d S3 => exact False.elim p
  | ok d S3 =>
    unfold unlockO at p
    cases e : unlockS n S3 with
    | none => simp only [e] at p; exact False.elim p
    | some S4 =>
      simp only [e] at p
      intro fs' F' H' v g m r
      obtain ⟨h1, h2, h3, h4⟩ := unlock_mt hu hF hH ha g m e
      exact ⟨h1, p _ _ _ _ h3 h4 (Rep.del h2 _ r)⟩
end
/-- over the keys of a locked dict -/
theorem lc_keys {a : Addr} {o : Obj} {kvs : List (Key × V)} {g : TG} {tt : TT} {te : TE} {vs : List Nat} {σ : L2.St} {H1 : Hp} {D : Addr} {Qd : Hp → Prop} (Pv : Nat → Hp → Prop) (h0 : Pv 0 (upd H1 D (.lst []))) (hl : ∀ i H, Pv i H → H a = some (.frz o (.dK kvs)))
    (hs : ∀ i x H, (kvs.map fun kv => kV kv.1)[i]? = some x → Pv i H → g x (L2.wipe σ vs) H fun σ2 H2 => L2.wipe σ2 vs = L2.wipe σ vs ∧ tt σ2 H2 fun b H3 =>
      if b = true then te σ2 H3 fun y H4 => ∃ acc, H4 D = some (.lst acc) ∧ acc.length < sizeLine ∧ Pv (i + 1) (upd H4 D (.lst (acc ++ [y]))) else Pv (i + 1) H3) (hd : ∀ H, Pv kvs.length H → Qd H) :
    ∃ W : Nat → Nat → Hp → Prop, (∃ m, W 0 m (upd H1 D (.lst []))) ∧ ∀ i m H, W i m H →
      ((Itk a o kvs).stop i H ∧ Qd H) ∨ ((Itk a o kvs).go i H ∧ ∃ Nx : Hp → Prop, (∀ H', Nx H' → ∃ m', m' < m ∧ W (i + 1) m' H') ∧ ∀ x H', (Itk a o kvs).yld i H x H' → g x (L2.wipe σ vs) H' fun σ2 H2 => L2.wipe σ2 vs = L2.wipe σ vs ∧ tt σ2 H2 fun b H3 =>
        if b = true then te σ2 H3 fun y H4 => ∃ acc, H4 D = some (.lst acc) ∧ acc.length < sizeLine ∧ Nx (upd H4 D (.lst (acc ++ [y]))) else Nx H3) := by
  refine ⟨fun i m H => m = kvs.length - i ∧ i ≤ kvs.length ∧ Pv i H, ⟨kvs.length, by simp, Nat.zero_le _, h0⟩, ?_⟩
  rintro i m H ⟨rfl, hi, p⟩
  have q := hl i H p
  by_cases hlt : i < kvs.length
  · refine .inr ⟨⟨q, hlt⟩, Pv (i + 1), fun H' p' => ⟨kvs.length - (i + 1), by omega, rfl, hlt, p'⟩, fun x H' y => ?_⟩
    obtain ⟨e, k, v, y1, y2⟩ := y
    subst e
    exact hs i x _ (by rw [List.getElem?_map, y1, y2]; rfl) p
  · have e : i = kvs.length := by omega
    subst e
    exact .inl ⟨⟨q, Nat.le_refl _⟩, hd H p⟩
theorem keys_repL {K : PySem.W.Frag} {F : Hp} {fs : List Addr} : ∀ {kvs : List (Key × D)} {us : List (Key × V)}, RepKV K F fs kvs us → RepL K F fs (kvs.map fun kv => kD kv.1) (us.map fun kv => kV kv.1)
  | [], _, h => by rw [show _ = [] from h]; exact RepL.nil
  | p :: ps, _, ⟨x, xr, e, h1, h2⟩ => by
    subst e
    exact RepL.cons (kD_rep p.1) (keys_repL h2)
/-- [te for gt in f if tt], f a dict with int or text keys -/
def evLcK (mm : Bool) (f : EvE) (vs : List Nat) (gt : EvT) (tt : EvB) (te : EvE) : EvE := fun σ S => match f σ S with
  | .ok (.ref n) _ => match S[n]? with
    | some (.dct kvs) => match f σ (S.set n (.lkd kvs)) with
      | .ok (.ref n') S1 => gd (n' = n) (unlockO n ((compD gt tt te (wipeD σ vs) (kvs.map fun kv => kD kv.1) [] S1).bind (mkL mm)))
      | _ => .stuck
    | _ => .stuck
  | _ => .stuck
section
variable {X : Cx} {W : WX} {e target : Expr} {ifs : List Expr} {f : EvE} {pos : Pos} {gt : EvT} {tg : TG} {tt : EvB} {te : EvE} {vs : List Nat}
theorem lck_of (mm : Bool) (T : TGok X.K tg gt vs) {σv : L2.St} {H : Hp} {Q : VK} (q : tE X.K W (evLcK mm f vs gt tt te) σv H Q) :
    tLockE (tLc (iKeys (tE X.K W f)) tg (tT X.K W0 tt) (tE X.K W0 te) vs) σv H Q := by
  obtain ⟨fs, F, σ, S, rs, m, q⟩ := q
  unfold evLcK at q
  split at q
  · rename_i n _ e1
    split at q
    · rename_i kvs e2
      split at q
      · rename_i n' S1 e3
        obtain ⟨rfl, q⟩ := q.gd
        obtain ⟨a, ha, hF, us, hH, ru⟩ := m.ob n' _ e2 rfl
        refine ⟨a, .dK us, hH, trivial, fun od => ?_⟩
        have le1 : ∀ b o', F b = some o' → upd F a (.frz od (.dK us)) b = some o' := fun b o' h => by rw [upd_ne (fun z => by subst z; rw [hF] at h; cases h)]; exact h
        obtain ⟨m1, g1⟩ := mt_lock (sl := .lkd kvs) (od := od) m e2 rfl ha hF hH rfl ⟨od, us, upd_same, RepKV.mono' le1 (fun _ _ h => h) _ ru⟩
        have q1 := unlock_post (od := od) (Ex' := fun c d H' => W c d σv H') (u := .dK us) trivial hF hH ha q
        refine ⟨fs, _, σ, _, rs.mono g1, m1, ?_⟩
        rw [e3]
        intro fs2 F2 H2 v g2 m2 r2
        rw [Rep] at r2
        obtain ⟨a2, rfl, h2⟩ := r2
        rw [g2.get ha] at h2; cases h2
        have hF2 : F2 a = some (.frz od (.dK us)) := g2.le _ _ upd_same
        refine ⟨a, od, rfl, .inl ⟨us, m2.le _ _ hF2, fun Dd hD => ?_⟩⟩
        have hFD := F_none m2 hD
        have hfD := fs_none m2 hD
        have rk := RepKV.mono' le1 (fun _ _ h => h) _ ru
        have rl := RepL.mono g2 (keys_repL rk)
        have eln : (us.map fun kv => kV kv.1).length = us.length := List.length_map _
        refine lc_keys (PvC X.K (fun c d H' => W c d σv H') gt tt te vs σ σv (kvs.map fun (kv : Key × D) => kD kv.1) (us.map fun (kv : Key × V) => kV kv.1) fs2 F2 H2 mm (fun v H' => H' a = some (.frz od (.dK us)) ∧ Q v (upd H' a (.dK us))) Dd) ⟨fs2, F2, S1, [], [], gr_side (Gr.refl _ _ _) hD _, mt_side m2 hFD hfD _, (rs.mono g1).mono g2, rl, upd_same, hFD, hfD, RepL.nil, PostG.grow q1 g2⟩ (fun i H' ⟨fs', F', S', _, _, g', m', _⟩ => m'.le _ _ (g'.le _ _ hF2)) (fun i x H' hx h => pvc_turn (Nx := PvC X.K (fun c d H' => W c d σv H') gt tt te vs σ σv (kvs.map fun (kv : Key × D) => kD kv.1) (us.map fun (kv : Key × V) => kV kv.1) fs2 F2 H2 mm (fun v H' => H' a = some (.frz od (.dK us)) ∧ Q v (upd H' a (.dK us))) Dd (i + 1)) T hD hx h) fun H' h => ?_
        rw [← eln] at h
        exact pvc_done hD h
      · exact False.elim q
    · exact False.elim q
  · exact False.elim q
theorem je_lcK (mm : Bool) {elt : Expr} {scope : Scope} {own : List (Str × Nat)} (T : TGok X.K tg gt (own.map (·.2))) (hc : X.calm = true) (hN : X.N.Nodup) (he : JE X W e f) (hB : BlkOk X.N X.env.scope scope own)
    (hg : ∀ (s : Shared) (H : Hp) (C : Addr) (cl : List (Str × Addr)) (fp : List Addr), PG (X.blk s H scope (compEnvC scope cl C X.env) fp) target tg)
    (ht : ∀ (s : Shared) (H : Hp) (C : Addr) (cl : List (Str × Addr)) (fp : List Addr), JTs (X.blk s H scope (compEnvC scope cl C X.env) fp) ifs tt)
    (hv : ∀ (s : Shared) (H : Hp) (C : Addr) (cl : List (Str × Addr)) (fp : List Addr), JE (X.blk s H scope (compEnvC scope cl C X.env) fp) W0 elt te)
    (hs : ∀ x, foldedSetIterable e X.env x = pure x := by intro _; rfl) :
    JE X W (.ListComp elt [{ target := target, iter := e, ifs := ifs, is_async := 0 }] scope pos) (evLcK mm f (own.map (·.2)) gt tt te) :=
  PE.imp (pe_lock (pe_lc hc hN (pi_keys he) hB hg ht hv hs)) fun _ _ _ q => lck_of mm T q
end
section
variable {σ : Sg} {S : Store} {Q : D → Store → Prop}
theorem w_lcK {mm : Bool} {f : EvE} {vs : List Nat} {gt : EvT} {tt : EvB} {te : EvE} {n : Nat} {kvs : List (Key × D)} (hS : S[n]? = some (.dct kvs)) (h1 : f σ S = .ok (.ref n) S) (h2 : f σ (S.set n (.lkd kvs)) = .ok (.ref n) (S.set n (.lkd kvs)))
    (h : WE (compD gt tt te (wipeD σ vs) (kvs.map fun kv => kD kv.1) [] (S.set n (.lkd kvs))) fun acc S2 => WE (mkL mm acc S2) fun d S3 => ∃ S4, unlockS n S3 = some S4 ∧ Q d S4) : WE (evLcK mm f vs gt tt te σ S) Q := by
  unfold evLcK
  simp only [h1, hS, h2]
  refine w_gd trivial ?_
  obtain ⟨acc, S2, e, q⟩ := h.ex
  obtain ⟨d, S3, e2, S4, e3, q⟩ := q.ex
  rw [e]
  show WE (unlockO n (mkL mm acc S2)) Q
  rw [e2]
  show WE (match unlockS n S3 with | some S' => .ok d S' | none => .stuck) Q
  rw [e3]
  exact q
theorem unlock_same {n : Nat} {kvs : List (Key × D)} (hS : S[n]? = some (.dct kvs)) : unlockS n (S.set n (.lkd kvs)) = some S := by
  unfold unlockS
  rw [st_same hS]
  show some ((S.set n (.lkd kvs)).set n (.dct kvs)) = some S
  rw [List.set_set]
  congr 1
  apply List.ext_getElem?
  intro i
  by_cases e : i = n
  · rw [e, st_same hS, hS]
  · rw [List.getElem?_set_ne (Ne.symm e)]
end
end DL
/-! DX, part 8: d.get(k, x), d.pop(k, x). -/
namespace DL
open PySem PySem.Spec PyProof.Rows L2
def isDr (d : D) (S : Store) : Bool := (asDr d S).isSome || (asDTr d S).isSome
def evDGet2 (f g h : EvE) : EvE := fun σ S => (f σ S).bind fun d S1 => gd (isDr d S1 = true) ((g σ S1).bind fun y S2 => (h σ S2).bind fun z S3 => match dGet d y S3 with
  | some (some w) => .ok w S3
  | some none => .ok z S3
  | none => .stuck)
def evDPop2 (f g h : EvE) : EvE := fun σ S => (f σ S).bind fun d S1 => match asD d S1 with
  | some _ => (g σ S1).bind fun y S2 => (h σ S2).bind fun z S3 => match d with
    | .ref n => match S3[n]? with
      | some (.dct kvs) => match keyD y with
        | some j => match lk kvs j with
          | some w => .ok w (S3.set n (.dct (dropD kvs j)))
          | none => .ok z S3
        | none => .stuck
      | _ => .stuck
    | _ => .stuck
  | none => .stuck
section
variable {X : Cx} {W : WX} {o e e2 : Expr} {f g h : EvE} {apos pos : Pos}
theorem isDr_ok {K : PySem.W.Frag} {fs : List Addr} {S : Store} {F H : Hp} {d : D} {v : V} (m : Mt K fs S F H) (r : Rep K F fs d v) (e : isDr d S = true) : ∃ a, v = .ref a ∧ IsD H a := by
  unfold isDr at e
  cases e1 : asDr d S with
  | some kvs =>
    obtain ⟨a, us, h1, h2, _⟩ := asDr_ok m r e1
    exact ⟨a, h1, .inl ⟨us, h2⟩⟩
  | none =>
    cases e2 : asDTr d S with
    | some kvs =>
      obtain ⟨a, us, h1, h2, _⟩ := asDTr_ok m r e2
      exact ⟨a, h1, .inr ⟨us, h2⟩⟩
    | none => rw [e1, e2] at e; cases e
theorem je_dget2 (hu : X.A.units + 1 < cLine) (ho : JE X W o f) (he : JE X W e g) (hf : JE X W e2 h) (m2 : M2 X o "get" apos e e2 pos) : JE X W (.Call (.Attribute o "get" apos) [e, e2] [] pos) (evDGet2 f g h) :=
  PE.imp (pe_dget2 hu ho he hf m2) fun σv H Q ⟨fs, F, σ, S, rs, m, q⟩ => tG.bind rs m q fun d S1 fs1 F1 H1 v rs1 m1 g1 r1 p1 => by
    obtain ⟨hd, p1⟩ := p1.gd
    obtain ⟨a, h1, h2⟩ := isDr_ok m1 r1 hd
    refine ⟨a, h1, h2, ?_⟩
    refine tG.bind rs1 m1 p1 fun y S2 fs2 F2 H2 w rs2 m2 g2 r2 p2 => ?_
    refine tG.bind rs2 m2 p2 fun z S3 fs3 F3 H3 u rs3 m3 g3 r3 p3 => ?_
    cases e3 : dGet d y S3 with
    | none => simp only [e3] at p3; exact False.elim p3
    | some ow =>
      obtain ⟨b, ov, k1, k2, k3⟩ := dGet_ok m3 ((r1.mono g2).mono g3) (r2.mono g3) e3
      rw [h1] at k1; cases k1
      refine ⟨ov, k2, ?_⟩
      cases ow with
      | none =>
        simp only [e3] at p3
        cases (show ov = none from k3)
        exact p3 _ _ _ _ (Gr.refl _ _ _) m3 r3
      | some w' =>
        simp only [e3] at p3
        obtain ⟨x, rfl, k4⟩ := k3
        exact p3 _ _ _ _ (Gr.refl _ _ _) m3 k4
theorem je_dpop2 (ho : JE X W o f) (he : JE X W e g) (hf : JE X W e2 h) (m2 : M2 X o "pop" apos e e2 pos) : JE X W (.Call (.Attribute o "pop" apos) [e, e2] [] pos) (evDPop2 f g h) :=
  PE.imp (pe_dpop2 ho he hf m2) fun σv H Q ⟨fs, F, σ, S, rs, m, q⟩ => tG.bind rs m q fun d S1 fs1 F1 H1 v rs1 m1 g1 r1 p1 => by
    cases e1 : asD d S1 with
    | none => simp only [e1] at p1; exact False.elim p1
    | some kvs0 =>
      simp only [e1] at p1
      obtain ⟨a, us, h1, h2, h3⟩ := asD_ok m1 r1 e1
      refine ⟨a, h1, .inl ⟨us, .inl h2⟩, ?_⟩
      refine tG.bind rs1 m1 p1 fun y S2 fs2 F2 H2 w rs2 m2 g2 r2 p2 => ?_
      refine tG.bind rs2 m2 p2 fun z S3 fs3 F3 H3 u rs3 m3 g3 r3 p3 => ?_
      cases d with
      | ref n =>
        simp only at p3
        cases e2 : S3[n]? with
        | none => simp only [e2] at p3; exact False.elim p3
        | some so =>
          cases so with
          | dct kvs =>
            simp only [e2] at p3
            cases e3 : keyD y with
            | none => simp only [e3] at p3; exact False.elim p3
            | some j =>
              simp only [e3] at p3
              rw [Rep] at r1
              obtain ⟨b, q1, ha⟩ := r1
              rw [h1] at q1; cases q1
              have ha2 := g3.get (g2.get ha)
              obtain ⟨c, f1, _, vs2, f2, f3⟩ := m3.ob n _ e2 rfl
              rw [ha2] at f1; cases f1
              have lkr := RepKV.lk j f3
              cases e4 : lk kvs j with
              | none =>
                simp only [e4] at p3
                rw [e4] at lkr
                have lkr : valV vs2 j = none := lkr
                exact ⟨vs2, j, f2, keyD_ok (r2.mono g3) e3, (fun v hv => by rw [lkr] at hv; cases hv), fun _ => p3 _ _ _ _ (Gr.refl _ _ _) m3 r3⟩
              | some z' =>
                simp only [e4] at p3
                rw [e4] at lkr
                obtain ⟨zv, e5, r5⟩ : ∃ zv, valV vs2 j = some zv ∧ Rep X.K F3 fs3 z' zv := lkr
                obtain ⟨m4, g4⟩ := mt_set (o := .dK (dropK vs2 j)) (so' := .dct (dropD kvs j)) m3 e2 rfl ha2 ⟨_, upd_same, RepKV.drop f3⟩
                refine ⟨vs2, j, f2, keyD_ok (r2.mono g3) e3, (fun v hv => ?_), (fun hv => by rw [e5] at hv; cases hv)⟩
                rw [e5] at hv; cases hv
                exact p3 _ _ _ _ g4 m4 r5
          | _ => simp only [e2] at p3; exact False.elim p3
      | _ => exact False.elim p3
end
section
variable {σ : Sg} {S : Store} {Q : D → Store → Prop}
theorem w_dget2 {f g h : EvE} (q : WE (f σ S) fun d S1 => ∃ n kvs0, d = .ref n ∧ S1[n]? = some (.dct kvs0) ∧ WE (g σ S1) fun y S2 => WE (h σ S2) fun z S3 => ∃ kvs j, S3[n]? = some (.dct kvs) ∧ keyD y = some j ∧ Q ((lk kvs j).getD z) S3) : WE (evDGet2 f g h σ S) Q := by
  unfold evDGet2
  refine w_bind (q.mono fun d S1 ⟨n, kvs0, e1, e2, q1⟩ => ?_)
  subst e1
  refine w_gd (by simp [isDr, asDr, e2]) (w_bind (q1.mono fun y S2 q2 => w_bind (q2.mono fun z S3 ⟨kvs, j, e3, e4, q3⟩ => ?_)))
  have e5 : dGet (.ref n) y S3 = some (lk kvs j) := by
    unfold dGet
    rw [show asDr (.ref n) S3 = some kvs by simp [asDr, e3]]
    simp [e4]
  rw [e5]
  cases e6 : lk kvs j with
  | none => rw [e6] at q3; exact q3
  | some w => rw [e6] at q3; exact q3
theorem w_dpop2 {f g h : EvE} (q : WE (f σ S) fun d S1 => ∃ n kvs0, d = .ref n ∧ S1[n]? = some (.dct kvs0) ∧ WE (g σ S1) fun y S2 => WE (h σ S2) fun z S3 => ∃ kvs j, S3[n]? = some (.dct kvs) ∧ keyD y = some j ∧
    (∀ w, lk kvs j = some w → Q w (S3.set n (.dct (dropD kvs j)))) ∧ (lk kvs j = none → Q z S3)) : WE (evDPop2 f g h σ S) Q := by
  unfold evDPop2
  refine w_bind (q.mono fun d S1 ⟨n, kvs0, e1, e2, q1⟩ => ?_)
  subst e1
  rw [asD_ref e2]
  refine w_bind (q1.mono fun y S2 q2 => w_bind (q2.mono fun z S3 ⟨kvs, j, e3, e4, q3, q4⟩ => ?_))
  simp only [e3, e4]
  cases e6 : lk kvs j with
  | none => exact q4 e6
  | some w => exact q3 w e6
end
end DL
/-! DX, part 9: [.. for k in range(i, j, -1)], max and min of a list of ints. -/
namespace DL
open PySem PySem.Spec PyProof.Rows L2
def downD (lo : Int) (n : Nat) : List D := (List.range n).map fun (i : Nat) => D.int (lo + (i : Int) * (-1))
def downV (lo : Int) (n : Nat) : List V := (List.range n).map fun (i : Nat) => V.int (lo + (i : Int) * (-1))
def rng3 (ds : List D) : Option (Int × Nat) := match ds with
  | [.int i, .int j, .int c] => if c = -1 ∧ (-(2 ^ 62) ≤ i ∧ i < 2 ^ 62 ∧ -(2 ^ 62) ≤ j ∧ j < 2 ^ 62) then some (i, (i - j).toNat) else none
  | _ => none
theorem downs_rep {K : PySem.W.Frag} {F : Hp} {fs : List Addr} (lo : Int) : ∀ l : List Nat, RepL K F fs (l.map fun (i : Nat) => D.int (lo + (i : Int) * (-1))) (l.map fun (i : Nat) => V.int (lo + (i : Int) * (-1)))
  | [] => RepL.nil
  | i :: l => RepL.cons int_rep (downs_rep lo l)
def evLcR3 (mm : Bool) (gl : EvL) (vs : List Nat) (gt : EvT) (tt : EvB) (te : EvE) : EvE := fun σ S => (gl σ S).bind fun ds S1 => match rng3 ds with
  | some (lo, n) => (compD gt tt te (wipeD σ vs) (downD lo n) [] S1).bind (mkL mm)
  | none => .stuck
theorem lc_rangeC {lo c : Int} {n : Nat} {g : TG} {tt : TT} {te : TE} {vs : List Nat} {σ : L2.St} {H1 : Hp} {D : Addr} {Qd : Hp → Prop} (Pv : Nat → Hp → Prop) (h0 : Pv 0 (upd H1 D (.lst [])))
    (hs : ∀ i H, i < n → Pv i H → g (.int (lo + (i : Nat) * c)) (L2.wipe σ vs) H fun σ2 H2 => L2.wipe σ2 vs = L2.wipe σ vs ∧ tt σ2 H2 fun b H3 =>
      if b = true then te σ2 H3 fun y H4 => ∃ acc, H4 D = some (.lst acc) ∧ acc.length < sizeLine ∧ Pv (i + 1) (upd H4 D (.lst (acc ++ [y]))) else Pv (i + 1) H3) (hd : ∀ H, Pv n H → Qd H) :
    ∃ W : Nat → Nat → Hp → Prop, (∃ m, W 0 m (upd H1 D (.lst []))) ∧ ∀ i m H, W i m H →
      ((Itc lo c n).stop i H ∧ Qd H) ∨ ((Itc lo c n).go i H ∧ ∃ Nx : Hp → Prop, (∀ H', Nx H' → ∃ m', m' < m ∧ W (i + 1) m' H') ∧ ∀ x H', (Itc lo c n).yld i H x H' → g x (L2.wipe σ vs) H' fun σ2 H2 => L2.wipe σ2 vs = L2.wipe σ vs ∧ tt σ2 H2 fun b H3 =>
        if b = true then te σ2 H3 fun y H4 => ∃ acc, H4 D = some (.lst acc) ∧ acc.length < sizeLine ∧ Nx (upd H4 D (.lst (acc ++ [y]))) else Nx H3) := by
  refine ⟨fun i m H => m = n - i ∧ i ≤ n ∧ Pv i H, ⟨n, by simp, Nat.zero_le _, h0⟩, ?_⟩
  rintro i m H ⟨rfl, hi, p⟩
  by_cases hlt : i < n
  · refine .inr ⟨hlt, Pv (i + 1), fun H' p' => ⟨n - (i + 1), by omega, rfl, hlt, p'⟩, fun x H' y => ?_⟩
    obtain ⟨e, y⟩ := y
    subst e y
    exact hs i _ hlt p
  · have e : i = n := by omega
    subst e
    exact .inl ⟨Nat.le_refl _, hd H p⟩
section
variable {X : Cx} {W : WX} {e e2 e3 target : Expr} {ifs : List Expr} {p p' pos : Pos} {gt : EvT} {tg : TG} {tt : EvB} {te : EvE} {vs : List Nat}
theorem lcr3_of (mm : Bool) {gl : EvL} (T : TGok X.K tg gt vs) {σv : L2.St} {H : Hp} {Q : VK} (q : tE X.K W (evLcR3 mm gl vs gt tt te) σv H Q) : tLc (iRng3 (tA X.K W gl)) tg (tT X.K W0 tt) (tE X.K W0 te) vs σv H Q := by
  obtain ⟨fs, F, σ, S, rs, m, q⟩ := q
  refine tG.bind rs m q fun ds S1 fs1 F1 H1 v rs1 m1 g1 r1 p1 => ?_
  cases e1 : rng3 ds with
  | none => rw [e1] at p1; exact False.elim p1
  | some q =>
    obtain ⟨lo, n⟩ := q
    rw [e1] at p1
    unfold rng3 at e1
    split at e1
    · split at e1
      · rename_i j c hj
        cases e1
        obtain ⟨ec, h1, h2, h3, h4⟩ := hj
        subst ec
        obtain ⟨w, w', w'', rfl, r, r', r''⟩ := repL3 r1
        refine ⟨lo, j, -1, (lo - j).toNat, by rw [rep_int r, rep_int r', rep_int r''], RgC.neg h1 h2 h3 h4, fun Dd hD => ?_⟩
        have hF := F_none m1 hD
        have hf := fs_none m1 hD
        refine lc_rangeC (PvC X.K (fun c d H' => W c d σv H') gt tt te vs σ σv (downD lo (lo - j).toNat) (downV lo (lo - j).toNat) fs1 F1 H1 mm Q Dd) ⟨fs1, F1, S1, [], [], gr_side (Gr.refl _ _ _) hD _, mt_side m1 hF hf _, rs1, downs_rep lo _, upd_same, hF, hf, RepL.nil, p1⟩ (fun i H' hi h => ?_) fun H' h => ?_
        · refine pvc_turn (Nx := PvC X.K (fun c d H' => W c d σv H') gt tt te vs σ σv (downD lo (lo - j).toNat) (downV lo (lo - j).toNat) fs1 F1 H1 mm Q Dd (i + 1)) T hD ?_ h
          unfold downV
          rw [List.getElem?_map, List.getElem?_range hi]
          rfl
        · have el : (downV lo (lo - j).toNat).length = (lo - j).toNat := by unfold downV; rw [List.length_map, List.length_range]
          have hx : PvC X.K (fun c d H' => W c d σv H') gt tt te vs σ σv (downD lo (lo - j).toNat) (downV lo (lo - j).toNat) fs1 F1 H1 mm Q Dd (downV lo (lo - j).toNat).length H' := by
            rw [el]
            exact h
          exact pvc_done hD hx
      · cases e1
    · cases e1
theorem je_lcR3 (mm : Bool) {elt : Expr} {scope : Scope} {own : List (Str × Nat)} {gl : EvL} (T : TGok X.K tg gt (own.map (·.2))) (hc : X.calm = true) (hN : X.N.Nodup) (hgr : Gl X "range") (hm : X.mg "range" = none) (he : JA X W [e, e2, e3] gl) (hB : BlkOk X.N X.env.scope scope own)
    (hg : ∀ (s : Shared) (H : Hp) (C : Addr) (cl : List (Str × Addr)) (fp : List Addr), PG (X.blk s H scope (compEnvC scope cl C X.env) fp) target tg)
    (ht : ∀ (s : Shared) (H : Hp) (C : Addr) (cl : List (Str × Addr)) (fp : List Addr), JTs (X.blk s H scope (compEnvC scope cl C X.env) fp) ifs tt)
    (hv : ∀ (s : Shared) (H : Hp) (C : Addr) (cl : List (Str × Addr)) (fp : List Addr), JE (X.blk s H scope (compEnvC scope cl C X.env) fp) W0 elt te)
    (hst : starEach [e, e2, e3] X.env = (false, eval e X.env) :: starEach [e2, e3] X.env := by rfl) (hpl : (backTo p' (starEach [e2, e3] X.env)).any (·.1) = false := by rfl) (hs : ∀ x, foldedSetIterable (.Call (.Name "range" p) [e, e2, e3] [] p') X.env x = pure x := by intro _; rfl) :
    JE X W (.ListComp elt [{ target := target, iter := (.Call (.Name "range" p) [e, e2, e3] [] p'), ifs := ifs, is_async := 0 }] scope pos) (evLcR3 mm gl (own.map (·.2)) gt tt te) :=
  PE.imp (pe_lc hc hN (pi_range3 hgr hm he hst hpl) hB hg ht hv hs) fun _ _ _ q => lcr3_of mm T q
end
section
variable {σ : Sg} {S : Store} {Q : D → Store → Prop}
theorem w_lcR3 {mm : Bool} {gl : EvL} {vs : List Nat} {gt : EvT} {tt : EvB} {te : EvE} (h : WE (gl σ S) fun ds S1 => ∃ lo n, rng3 ds = some (lo, n) ∧ WE (compD gt tt te (wipeD σ vs) (downD lo n) [] S1) fun acc S2 => WE (mkL mm acc S2) Q) : WE (evLcR3 mm gl vs gt tt te σ S) Q :=
  w_bind (h.mono fun ds S1 ⟨lo, n, e, q⟩ => by
    rw [e]
    exact w_bind q)
end
def mxI (n : Int) (ns : List Int) : Int := ns.foldl max n
def mnI (n : Int) (ns : List Int) : Int := ns.foldl min n
theorem mxI_is : ∀ (ns : List Int) (n m : Int), m ∈ n :: ns → (∀ y ∈ n :: ns, y ≤ m) → mxI n ns = m
  | [], n, m, h, _ => (List.mem_singleton.mp h).symm
  | x :: ns, n, m, h, u => by
    show mxI (max n x) ns = m
    refine mxI_is ns (max n x) m ?_ fun y hy => ?_
    · rcases List.mem_cons.mp h with e | h
      · have := u x (List.mem_cons_of_mem _ (List.mem_cons_self ..))
        rw [show max n x = m by omega]
        exact List.mem_cons_self ..
      · rcases List.mem_cons.mp h with e | h
        · have := u n (List.mem_cons_self ..)
          rw [show max n x = m by omega]
          exact List.mem_cons_self ..
        · exact List.mem_cons_of_mem _ h
    · rcases List.mem_cons.mp hy with e | hy
      · have h1 := u n (List.mem_cons_self ..)
        have h2 := u x (List.mem_cons_of_mem _ (List.mem_cons_self ..))
        omega
      · exact u y (List.mem_cons_of_mem _ (List.mem_cons_of_mem _ hy))
theorem mnI_is : ∀ (ns : List Int) (n m : Int), m ∈ n :: ns → (∀ y ∈ n :: ns, m ≤ y) → mnI n ns = m
  | [], n, m, h, _ => (List.mem_singleton.mp h).symm
  | x :: ns, n, m, h, u => by
    show mnI (min n x) ns = m
    refine mnI_is ns (min n x) m ?_ fun y hy => ?_
    · rcases List.mem_cons.mp h with e | h
      · have := u x (List.mem_cons_of_mem _ (List.mem_cons_self ..))
        rw [show min n x = m by omega]
        exact List.mem_cons_self ..
      · rcases List.mem_cons.mp h with e | h
        · have := u n (List.mem_cons_self ..)
          rw [show min n x = m by omega]
          exact List.mem_cons_self ..
        · exact List.mem_cons_of_mem _ h
    · rcases List.mem_cons.mp hy with e | hy
      · have h1 := u n (List.mem_cons_self ..)
        have h2 := u x (List.mem_cons_of_mem _ (List.mem_cons_self ..))
        omega
      · exact u y (List.mem_cons_of_mem _ (List.mem_cons_of_mem _ hy))
def opMaxL (ds : List D) (S : Store) : Out D := match ds with
  | [d] => match asL d S with
    | some xs => match intsD xs with
      | some (n :: ns) => .ok (.int (mxI n ns)) S
      | _ => .stuck
    | none => .stuck
  | _ => .stuck
def opMinL (ds : List D) (S : Store) : Out D := match ds with
  | [d] => match asL d S with
    | some xs => match intsD xs with
      | some (n :: ns) => .ok (.int (mnI n ns)) S
      | _ => .stuck
    | none => .stuck
  | _ => .stuck
theorem ol_maxL {K : PySem.W.Frag} : OpL K (rMax K) opMaxL := ⟨fun Ex fs F S H ds vs Q m r0 p => by
  unfold opMaxL at p
  split at p
  · obtain ⟨v, rfl, r⟩ := repL1 r0
    rename_i d
    cases e1 : asL d S with
    | none => rw [e1] at p; exact False.elim p
    | some xs =>
      simp only [e1] at p
      obtain ⟨a, us, h1, h2, h3⟩ := asL_ok m r e1
      cases e2 : intsD xs with
      | none => simp only [e2] at p; exact False.elim p
      | some nn =>
        cases nn with
        | nil => simp only [e2] at p; exact False.elim p
        | cons n ns =>
          simp only [e2] at p
          refine ⟨a, n :: ns, by rw [h1], ?_, by simp, fun k hk hu => ?_⟩
          · rw [← intsD_ok h3 e2]
            exact SqL.of h2
          · rw [← mxI_is ns n k hk hu]
            exact p.val m int_rep
  · exact False.elim p⟩
theorem ol_minL {K : PySem.W.Frag} : OpL K (rMin K) opMinL := ⟨fun Ex fs F S H ds vs Q m r0 p => by
  unfold opMinL at p
  split at p
  · obtain ⟨v, rfl, r⟩ := repL1 r0
    rename_i d
    cases e1 : asL d S with
    | none => rw [e1] at p; exact False.elim p
    | some xs =>
      simp only [e1] at p
      obtain ⟨a, us, h1, h2, h3⟩ := asL_ok m r e1
      cases e2 : intsD xs with
      | none => simp only [e2] at p; exact False.elim p
      | some nn =>
        cases nn with
        | nil => simp only [e2] at p; exact False.elim p
        | cons n ns =>
          simp only [e2] at p
          refine ⟨a, n :: ns, by rw [h1], ?_, by simp, fun k hk hu => ?_⟩
          · rw [← intsD_ok h3 e2]
            exact SqL.of h2
          · rw [← mnI_is ns n k hk hu]
            exact p.val m int_rep
  · exact False.elim p⟩
section
variable {S : Store} {Q : D → Store → Prop}
theorem w_maxL {d : D} {n : Int} {ns : List Int} (e : asL d S = some ((n :: ns).map D.int)) (h : Q (.int (mxI n ns)) S) : WE (opMaxL [d] S) Q := by
  unfold opMaxL
  simp only [e, intsD_map]
  exact h
theorem w_minL {d : D} {n : Int} {ns : List Int} (e : asL d S = some ((n :: ns).map D.int)) (h : Q (.int (mnI n ns)) S) : WE (opMinL [d] S) Q := by
  unfold opMinL
  simp only [e, intsD_map]
  exact h
end
end DL
/-! DX, part 10: xs.index(s) of texts, d.get(k), tuples of the module. -/
namespace DL
open PySem PySem.Spec PyProof.Rows L2
def txtsD : List D → Option (List Str)
  | [] => some []
  | .str s :: ds => (txtsD ds).map (s :: ·)
  | _ :: _ => none
theorem txtsD_ok {K : PySem.W.Frag} {F : Hp} {fs : List Addr} : ∀ {ds : List D} {xs : List V} {ss : List Str}, RepL K F fs ds xs → txtsD ds = some ss → xs = ss.map V.str
  | [], _, ss, r, e => by rw [RepL] at r; subst r; cases (show some [] = some ss from e); rfl
  | d :: ds, _, ss, r, e => by
    rw [RepL] at r
    obtain ⟨x, xr, rfl, h1, h2⟩ := r
    unfold txtsD at e
    split at e
    · rename_i h; cases h
    · rename_i s ds' e0
      cases e0
      cases e1 : txtsD ds with
      | none => rw [e1] at e; cases e
      | some ss' =>
        rw [e1] at e
        cases (show some (s :: ss') = some ss from e)
        rw [List.map_cons, rep_str h1, txtsD_ok h2 e1]
    · cases e
theorem txtsD_map : ∀ ss : List Str, txtsD (ss.map D.str) = some ss
  | [] => rfl
  | s :: ss => by
    show (txtsD (ss.map D.str)).map (s :: ·) = _
    rw [txtsD_map ss]
    rfl
/-- the first place -/
def plc (z : Str) : List Str → Option Nat
  | [] => none
  | y :: ys => if y = z then some 0 else (plc z ys).map (· + 1)
theorem plc_ok {z : Str} : ∀ {ys : List Str} {j : Nat}, plc z ys = some j → ys[j]? = some z ∧ ∀ m, m < j → ys[m]? ≠ some z
  | [], _, h => by cases h
  | y :: ys, j, h => by
    unfold plc at h
    by_cases c : y = z
    · rw [if_pos c] at h
      cases h
      exact ⟨by rw [c]; rfl, fun m hm => absurd hm (Nat.not_lt_zero _)⟩
    · rw [if_neg c] at h
      cases e : plc z ys with
      | none => rw [e] at h; cases h
      | some k =>
        rw [e] at h
        cases h
        obtain ⟨h1, h2⟩ := plc_ok e
        refine ⟨h1, fun m hm => ?_⟩
        cases m with
        | zero => intro q; exact c (Option.some.inj q)
        | succ m =>
          have hm : m + 1 < k + 1 := hm
          exact h2 m (by omega)
/-- T.index(s), T a tuple of texts among the module's names -/
def evIdxG (ss : List Str) (g : EvE) : EvE := fun σ S => (g σ S).bind fun y S2 => match y with
  | .str z => match plc z ss with
    | some j => .ok (.int (j : Int)) S2
    | none => .stuck
  | _ => .stuck
/-- [..].index(s), a list of texts -/
def evIdxL (f g : EvE) : EvE := fun σ S => (f σ S).bind fun d S1 => match d with
  | .lst ds => match txtsD ds with
    | some ss => (g σ S1).bind fun y S2 => match y with
      | .str z => match plc z ss with
        | some j => .ok (.int (j : Int)) S2
        | none => .stuck
      | _ => .stuck
    | none => .stuck
  | _ => .stuck
/-- a tuple of the module -/
structure GTup (K : PySem.W.Frag) (mg : Str → Option Value) (x : Str) (vs : List V) : Prop where
  ex : ∃ A o its n, mg x = some (.ref A) ∧ K.lookup A = some o ∧ o.cls = .type "tuple" ∧ o.dict = none ∧ o.data = .seq its n ∧ its.size ≤ sizeLine ∧ Vals vs its.toList
theorem GTup.sq {K : PySem.W.Frag} {mg : Str → Option Value} {x : Str} {vs : List V} (h : GTup K mg x vs) : ∃ A, mg x = some (.ref A) ∧ ∀ F, SqT K F A vs := by
  obtain ⟨A, o, its, n, h1, h2, h3, h4, h5, h6, h7⟩ := h.ex
  exact ⟨A, h1, fun F => .inr ⟨o, its, n, h2, h3, h5, h6, h7⟩⟩
section
variable {X : Cx} {W : WX} {o e : Expr} {f g : EvE} {apos pos : Pos} {x : Str}
abbrev rIdxT (K : PySem.W.Frag) : V → List V → Hp → VK → Prop := fun x xs H Q => ∃ p, ∃ ys : List Str, ∃ z j, x = .ref p ∧ xs = [.str z] ∧ SqT K H p (ys.map V.str) ∧ ys[j]? = some z ∧ (∀ m, m < j → ys[m]? ≠ some z) ∧ Q (.int (j : Nat)) H
theorem je_idxG {p : Pos} {ss : List Str} (hg : Gl X x) (h : GTup X.K X.mg x (ss.map V.str)) (he : JE X W e g) (hd : (x == ("__debug__" : Str)) = false := by decide)
    (t : ∀ A : Addr, X.mg x = some (.ref A) → PE X (.Call (.Attribute (.Name x p) "index" apos) [e] [] pos) (tBM X.K "tuple" (rIdxT X.K) (tC (.ref A)) (tCons (tE X.K W g) tNil))) :
    JE X W (.Call (.Attribute (.Name x p) "index" apos) [e] [] pos) (evIdxG ss g) := by
  obtain ⟨A, o, its, n, h1, h2, h3, h4, h5, h6, h7⟩ := h.ex
  refine PE.imp (t A h1) fun σv H Q q => ⟨.inr (.inl ⟨rfl, o, h2, h3, h4⟩), ?_⟩
  obtain ⟨fs, F, σ, S, rs, m, q⟩ := q
  refine tG.bind rs m q fun y S2 fs2 F2 H2 w rs2 m2 g2 r2 p2 => ?_
  cases y with
  | str z =>
    simp only at p2
    cases e3 : plc z ss with
    | none => simp only [e3] at p2; exact False.elim p2
    | some j =>
      simp only [e3] at p2
      obtain ⟨k1, k2⟩ := plc_ok e3
      exact ⟨A, ss, z, j, rfl, by rw [rep_str r2], .inr ⟨o, its, n, h2, h3, h5, h6, h7⟩, k1, k2, p2.val m2 int_rep⟩
  | _ => exact False.elim p2
theorem flatV_strs : ∀ ss : List Str, (ss.map V.str).all flatV = true
  | [] => rfl
  | s :: ss => by
    rw [List.map_cons, List.all_cons, flatV_strs ss]
    rfl
theorem je_idxL (t : PE X (.Call (.Attribute o "index" apos) [e] [] pos) (tBM X.K "list" (rIndex X.K) (tE X.K W f) (tCons (tE X.K W g) tNil))) :
    JE X W (.Call (.Attribute o "index" apos) [e] [] pos) (evIdxL f g) :=
  PE.imp t fun σv H Q ⟨fs, F, σ, S, rs, m, q⟩ => tG.bind rs m q fun d S1 fs1 F1 H1 v rs1 m1 g1 r1 p1 => by
    cases d with
    | lst ds =>
      simp only at p1
      cases e1 : txtsD ds with
      | none => simp only [e1] at p1; exact False.elim p1
      | some ss =>
        simp only [e1] at p1
        rw [Rep] at r1
        obtain ⟨a, xs, rfl, h2, h3⟩ := r1
        have ex := txtsD_ok h3 e1
        subst ex
        refine ⟨.inl ⟨rfl, _, .inl (.inl (m1.le _ _ h2))⟩, ?_⟩
        refine tG.bind rs1 m1 p1 fun y S2 fs2 F2 H2 w rs2 m2 g2 r2 p2 => ?_
        cases y with
        | str z =>
          simp only at p2
          cases e3 : plc z ss with
          | none => simp only [e3] at p2; exact False.elim p2
          | some j =>
            simp only [e3] at p2
            obtain ⟨k1, k2⟩ := plc_ok e3
            refine ⟨a, ss.map V.str, .str z, j, .str z, rfl, by rw [rep_str r2], .inl (.inl (m2.le _ _ (g2.le _ _ h2))), rfl, flatV_strs ss, by rw [List.getElem?_map, k1]; rfl, ?_, fun k z' hk hz => ?_, p2.val m2 int_rep⟩
            · simp [eqV]
            · rw [List.getElem?_map] at hz
              cases e4 : ss[k]? with
              | none => rw [e4] at hz; cases hz
              | some y =>
                rw [e4] at hz
                cases hz
                have := k2 k hk
                rw [e4] at this
                have ne : y ≠ z := fun q => this (by rw [q])
                simp [eqV, ne]
        | _ => exact False.elim p2
    | _ => exact False.elim p1
/-- a tuple among the module's names -/
theorem je_gtup {p : Pos} {ds : List D} {vs : List V} (hg : Gl X x) (h0 : GTup X.K X.mg x vs) (hr : ∀ F fs, RepL X.K F fs ds vs) (hd : (x == ("__debug__" : Str)) = false := by decide) : JE X W (.Name x p) (evC (.fz true ds)) := by
  obtain ⟨A, hm, hq⟩ := h0.sq
  exact je_c (pe_glob (v := .ref A) hg hm rfl hd) fun F fs => by
    rw [Rep]
    exact ⟨A, vs, rfl, hq F, hr F fs⟩
theorem gtup_mk {K : PySem.W.Frag} {mg : Str → Option Value} {A : Addr} {its : Array Value} {n : Nat} {sl : Array (Option Value)} {vs : List V} (hm : mg x = some (.ref A)) (h : K.lookup A = some ⟨.type "tuple", none, .seq its n, sl⟩) (hz : its.size ≤ sizeLine) (hv : Vals vs its.toList) : GTup K mg x vs :=
  ⟨A, _, its, n, hm, h, rfl, rfl, rfl, hz, hv⟩
end
section
variable {σ : Sg} {S : Store} {Q : D → Store → Prop}
theorem w_idxG {ss : List Str} {g : EvE} (h : WE (g σ S) fun y S2 => ∃ z j, y = .str z ∧ plc z ss = some j ∧ Q (.int (j : Int)) S2) : WE (evIdxG ss g σ S) Q := by
  unfold evIdxG
  refine w_bind (h.mono fun y S2 ⟨z, j, e2, e3, q⟩ => ?_)
  subst e2
  simp only [e3]
  exact q
theorem w_idxL {f g : EvE} (h : WE (f σ S) fun d S1 => ∃ ss : List Str, d = .lst (ss.map D.str) ∧ WE (g σ S1) fun y S2 => ∃ z j, y = .str z ∧ plc z ss = some j ∧ Q (.int (j : Int)) S2) : WE (evIdxL f g σ S) Q := by
  unfold evIdxL
  refine w_bind (h.mono fun d S1 ⟨ss, e1, q⟩ => ?_)
  subst e1
  simp only [txtsD_map]
  refine w_bind (q.mono fun y S2 ⟨z, j, e2, e3, q⟩ => ?_)
  subst e2
  simp only [e3]
  exact q
end
/-! ### d.get(k) -/
def evDGet1 (f g : EvE) : EvE := fun σ S => (f σ S).bind fun d S1 => gd (isDr d S1 = true) ((g σ S1).bind fun y S2 => match dGet d y S2 with
  | some (some w) => .ok w S2
  | some none => .ok .non S2
  | none => .stuck)
section
variable {X : Cx} {W : WX} {o e : Expr} {f g : EvE} {apos pos : Pos}
theorem je_dget1 (hu : X.A.units + 1 < cLine) (ho : JE X W o f) (he : JE X W e g) (m1 : M1 X o "get" apos e pos) : JE X W (.Call (.Attribute o "get" apos) [e] [] pos) (evDGet1 f g) :=
  PE.imp (pe_dget1 hu ho he m1) fun σv H Q ⟨fs, F, σ, S, rs, m, q⟩ => tG.bind rs m q fun d S1 fs1 F1 H1 v rs1 m1 g1 r1 p1 => by
    obtain ⟨hd, p1⟩ := p1.gd
    obtain ⟨a, h1, h2⟩ := isDr_ok m1 r1 hd
    refine ⟨a, h1, h2, ?_⟩
    refine tG.bind rs1 m1 p1 fun y S2 fs2 F2 H2 w rs2 m2 g2 r2 p2 => ?_
    cases e3 : dGet d y S2 with
    | none => simp only [e3] at p2; exact False.elim p2
    | some ow =>
      obtain ⟨b, ov, k1, k2, k3⟩ := dGet_ok m2 (r1.mono g2) r2 e3
      rw [h1] at k1; cases k1
      refine ⟨ov, k2, ?_⟩
      cases ow with
      | none =>
        simp only [e3] at p2
        cases (show ov = none from k3)
        exact p2 _ _ _ _ (Gr.refl _ _ _) m2 (by rw [Rep]; rfl)
      | some w' =>
        simp only [e3] at p2
        obtain ⟨x, rfl, k4⟩ := k3
        exact p2 _ _ _ _ (Gr.refl _ _ _) m2 k4
end
section
variable {σ : Sg} {S : Store} {Q : D → Store → Prop}
theorem w_dget1 {f g : EvE} (q : WE (f σ S) fun d S1 => ∃ n kvs0, d = .ref n ∧ S1[n]? = some (.dct kvs0) ∧ WE (g σ S1) fun y S2 => ∃ kvs j, S2[n]? = some (.dct kvs) ∧ keyD y = some j ∧ Q ((lk kvs j).getD .non) S2) : WE (evDGet1 f g σ S) Q := by
  unfold evDGet1
  refine w_bind (q.mono fun d S1 ⟨n, kvs0, e1, e2, q1⟩ => ?_)
  subst e1
  refine w_gd (by simp [isDr, asDr, e2]) (w_bind (q1.mono fun y S2 ⟨kvs, j, e3, e4, q3⟩ => ?_))
  have e5 : dGet (.ref n) y S2 = some (lk kvs j) := by
    unfold dGet
    rw [show asDr (.ref n) S2 = some kvs by simp [asDr, e3]]
    simp [e4]
  rw [e5]
  cases e6 : lk kvs j with
  | none => rw [e6] at q3; exact q3
  | some w => rw [e6] at q3; exact q3
end
end DL
/-! DX, part 11: d.setdefault(k, x). -/
namespace DL
open PySem PySem.Spec PyProof.Rows L2
def evDSetd (f g h : EvE) : EvE := fun σ S => (f σ S).bind fun d S1 => match asD d S1 with
  | some _ => (g σ S1).bind fun y S2 => (h σ S2).bind fun z S3 => match d with
    | .ref n => match S3[n]? with
      | some (.dct kvs) => match keyD y with
        | some j => gd (kvs.length < sizeLine) (match lk kvs j with
          | some w => .ok w S3
          | none => .ok z (S3.set n (.dct (putD kvs j z))))
        | none => .stuck
      | _ => .stuck
    | _ => .stuck
  | none => .stuck
section
variable {X : Cx} {W : WX} {o e e2 : Expr} {f g h : EvE} {apos pos : Pos}
theorem je_dsetd (ho : JE X W o f) (he : JE X W e g) (hf : JE X W e2 h) (m2 : M2 X o "setdefault" apos e e2 pos) : JE X W (.Call (.Attribute o "setdefault" apos) [e, e2] [] pos) (evDSetd f g h) :=
  PE.imp (pe_dsetd ho he hf m2) fun σv H Q ⟨fs, F, σ, S, rs, m, q⟩ => tG.bind rs m q fun d S1 fs1 F1 H1 v rs1 m1 g1 r1 p1 => by
    cases e1 : asD d S1 with
    | none => simp only [e1] at p1; exact False.elim p1
    | some kvs0 =>
      simp only [e1] at p1
      obtain ⟨a, us, h1, h2, h3⟩ := asD_ok m1 r1 e1
      refine ⟨a, h1, .inl ⟨us, .inl h2⟩, ?_⟩
      refine tG.bind rs1 m1 p1 fun y S2 fs2 F2 H2 w rs2 m2 g2 r2 p2 => ?_
      refine tG.bind rs2 m2 p2 fun z S3 fs3 F3 H3 u rs3 m3 g3 r3 p3 => ?_
      cases d with
      | ref n =>
        simp only at p3
        cases e2 : S3[n]? with
        | none => simp only [e2] at p3; exact False.elim p3
        | some so =>
          cases so with
          | dct kvs =>
            simp only [e2] at p3
            cases e3 : keyD y with
            | none => simp only [e3] at p3; exact False.elim p3
            | some j =>
              simp only [e3] at p3
              obtain ⟨hz, p3⟩ := p3.gd
              rw [Rep] at r1
              obtain ⟨b, q1, ha⟩ := r1
              rw [h1] at q1; cases q1
              have ha2 := g3.get (g2.get ha)
              obtain ⟨c, f1, _, vs2, f2, f3⟩ := m3.ob n _ e2 rfl
              rw [ha2] at f1; cases f1
              have lkr := RepKV.lk j f3
              have hl : vs2.length = kvs.length := RepKV.length f3
              cases e4 : lk kvs j with
              | none =>
                simp only [e4] at p3
                rw [e4] at lkr
                have lkr : valV vs2 j = none := lkr
                obtain ⟨m4, g4⟩ := mt_set (o := .dK (putK vs2 j u)) (so' := .dct (putD kvs j z)) m3 e2 rfl ha2 ⟨_, upd_same, RepKV.put r3 f3⟩
                exact ⟨vs2, j, f2, keyD_ok (r2.mono g3) e3, by rw [hl]; exact hz, (fun v hv => by rw [lkr] at hv; cases hv), fun _ => p3 _ _ _ _ g4 m4 (r3.mono g4)⟩
              | some z' =>
                simp only [e4] at p3
                rw [e4] at lkr
                obtain ⟨zv, e5, r5⟩ : ∃ zv, valV vs2 j = some zv ∧ Rep X.K F3 fs3 z' zv := lkr
                refine ⟨vs2, j, f2, keyD_ok (r2.mono g3) e3, by rw [hl]; exact hz, (fun v hv => ?_), (fun hv => by rw [e5] at hv; cases hv)⟩
                rw [e5] at hv; cases hv
                exact p3 _ _ _ _ (Gr.refl _ _ _) m3 r5
          | _ => simp only [e2] at p3; exact False.elim p3
      | _ => exact False.elim p3
end
section
variable {σ : Sg} {S : Store} {Q : D → Store → Prop}
theorem w_dsetd {f g h : EvE} (q : WE (f σ S) fun d S1 => ∃ n kvs0, d = .ref n ∧ S1[n]? = some (.dct kvs0) ∧ WE (g σ S1) fun y S2 => WE (h σ S2) fun z S3 => ∃ kvs j, S3[n]? = some (.dct kvs) ∧ keyD y = some j ∧ kvs.length < sizeLine ∧
    (∀ w, lk kvs j = some w → Q w S3) ∧ (lk kvs j = none → Q z (S3.set n (.dct (putD kvs j z))))) : WE (evDSetd f g h σ S) Q := by
  unfold evDSetd
  refine w_bind (q.mono fun d S1 ⟨n, kvs0, e1, e2, q1⟩ => ?_)
  subst e1
  rw [asD_ref e2]
  refine w_bind (q1.mono fun y S2 q2 => w_bind (q2.mono fun z S3 ⟨kvs, j, e3, e4, hz, q3, q4⟩ => ?_))
  simp only [e3, e4]
  refine w_gd hz ?_
  cases e6 : lk kvs j with
  | none => exact q4 e6
  | some w => exact q3 w e6
end
end DL
/-! DX, part 12: a list of the store that is not changed any more becomes a plain one. -/
namespace DL
open PySem PySem.Spec PyProof.Rows L2
def evFrz (i : Nat) (s : EvS) : EvS := fun σ S => match σ[i]? with
  | some (some (.ref n)) => match S[n]? with
    | some (.lst ds) => s (σ.set i (some (.lst ds))) (S.set n .dead)
    | _ => .stuck
  | _ => .stuck
section
variable {X : Cx} {W : WX} {st : Stmt} {s : EvS} {i : Nat}
theorem js_frz (h : JS X W st s) : JS X W st (evFrz i s) := PS.imp h fun D σv H ⟨fs, F, σ, S, rs, m, p⟩ => by
  unfold evFrz at p
  cases q : σ[i]? with
  | none => rw [q] at p; exact False.elim p
  | some o =>
    cases o with
    | none => rw [q] at p; exact False.elim p
    | some d =>
      cases d with
      | ref n =>
        rw [q] at p
        cases q2 : S[n]? with
        | none => simp only [q2] at p; exact False.elim p
        | some so =>
          cases so with
          | lst ds =>
            simp only [q2] at p
            obtain ⟨v, e1, r⟩ := rs.at' i _ q
            obtain ⟨a, xs, h1, h2, h3, h4, h5⟩ := mt_let m q2
            rw [Rep] at r
            obtain ⟨a', rfl, r2⟩ := r
            rw [h1] at r2; cases r2
            have rs2 := rs.mono h5
            refine ⟨fs, upd F a (.lst xs), σ.set i (some (.lst ds)), S.set n .dead, ⟨by rw [List.length_set]; exact rs2.len, fun j d e => ?_⟩, h4, PostS.grow p h5⟩
            by_cases c : j = i
            · subst c
              rw [List.getElem?_set_self (List.getElem?_eq_some_iff.mp q).1] at e
              cases e
              exact ⟨_, e1, by rw [Rep]; exact ⟨a, xs, rfl, upd_same, h3.mono h5⟩⟩
            · rw [List.getElem?_set_ne (Ne.symm c)] at e
              exact rs2.at' j d e
          | _ => simp only [q2] at p; exact False.elim p
      | _ => rw [q] at p; exact False.elim p
end
section
variable {σ : Sg} {S : Store} {N B C : Sg → Store → Prop} {R : D → Store → Prop}
theorem w_frz {i n : Nat} {ds : List D} {s : EvS} (e : σ[i]? = some (some (.ref n))) (e2 : S[n]? = some (.lst ds)) (h : WS (s (σ.set i (some (.lst ds))) (S.set n .dead)) N B C R) : WS (evFrz i s σ S) N B C R := by
  unfold evFrz
  simp only [e, e2]
  exact h
end
end DL
namespace L13
open PySem L2 DL
def top (i : Nat) : Stmt := PySem.Challenge.pw_fairwire_k13_streams_that_share_a_wire.main.body.getD i (.Pass ⟨0, 0, 0, 0⟩)
abbrev s_wall : Stmt := top 0
abbrev s_is_number : Stmt := top 6
abbrev s_Turns_init : Stmt := inClass (top 9) 0
abbrev s_Turns_add : Stmt := inClass (top 9) 1
abbrev s_Turns_drop : Stmt := inClass (top 9) 2
abbrev s_Turns_order : Stmt := inClass (top 9) 3
abbrev s_Turns_served : Stmt := inClass (top 9) 4
abbrev s_Turns_first : Stmt := inClass (top 9) 5
abbrev s_Turns_urgency_of : Stmt := inClass (top 9) 6
abbrev s_put_range : Stmt := top 11
abbrev s_drop_range : Stmt := top 12
abbrev s_gaps : Stmt := top 13
abbrev s_drop_all : Stmt := top 14
abbrev s_Incoming_init : Stmt := inClass (top 16) 0
abbrev s_Incoming_wrong : Stmt := inClass (top 16) 1
abbrev s_Incoming_take : Stmt := inClass (top 16) 2
abbrev s_Incoming_ready : Stmt := inClass (top 16) 3
abbrev s_Incoming_read : Stmt := inClass (top 16) 4
abbrev s_Incoming_grown : Stmt := inClass (top 16) 5
abbrev s_Incoming_let : Stmt := inClass (top 16) 6
abbrev s_Incoming_is_over : Stmt := inClass (top 16) 7
abbrev s_Incoming_is_whole : Stmt := inClass (top 16) 8
abbrev s_Incoming_memory : Stmt := inClass (top 16) 9
abbrev s_Outgoing_init : Stmt := inClass (top 19) 0
abbrev s_Outgoing_write : Stmt := inClass (top 19) 1
abbrev s_Outgoing_finish : Stmt := inClass (top 19) 2
abbrev s_Outgoing_next : Stmt := inClass (top 19) 3
abbrev s_Outgoing_piece : Stmt := inClass (top 19) 4
abbrev s_Outgoing_got : Stmt := inClass (top 19) 5
abbrev s_Outgoing_lost : Stmt := inClass (top 19) 6
abbrev s_Outgoing_is_done : Stmt := inClass (top 19) 7
abbrev s_Outgoing_is_due : Stmt := inClass (top 19) 8
abbrev s_Outgoing_memory : Stmt := inClass (top 19) 9
abbrev s_law_draws : Stmt := top 21
abbrev s_law_draw : Stmt := top 22
abbrev s_law_same : Stmt := top 23
abbrev s_law_copy : Stmt := top 24
abbrev s_law : Stmt := top 25
/-- where the classes stand -/
structure CA where
  cTurns : Addr
  cIncoming : Addr
  cOutgoing : Addr
/-- the exception classes are not one another -/
def CA.Ok (a : CA) : Prop := True
structure Txt (P : Program) (K : PySem.W.Frag) (mg : Str → Option Value) (a : CA) : Prop where
  b_all : mg "all" = none
  b_any : mg "any" = none
  b_bool : mg "bool" = none
  b_dict : mg "dict" = none
  b_int : mg "int" = none
  b_isinstance : mg "isinstance" = none
  b_len : mg "len" = none
  b_list : mg "list" = none
  b_max : mg "max" = none
  b_min : mg "min" = none
  b_range : mg "range" = none
  b_sorted : mg "sorted" = none
  b_str : mg "str" = none
  b_sum : mg "sum" = none
  b_tuple : mg "tuple" = none
  g_FURTHEST : ∃ t, mg "FURTHEST" = some (.int 16777215 t)
  g_LAST : ∃ t, mg "LAST" = some (.int 3 t)
  cl_Turns : Cls K a.cTurns
  na_Turns_rows : NoAttr K a.cTurns "rows"
  mg_Turns : mg "Turns" = some (.ref a.cTurns)
  cl_Incoming : Cls K a.cIncoming
  na_Incoming_stream : NoAttr K a.cIncoming "stream"
  na_Incoming_room : NoAttr K a.cIncoming "room"
  na_Incoming_upto : NoAttr K a.cIncoming "upto"
  na_Incoming_read_upto : NoAttr K a.cIncoming "read_upto"
  na_Incoming_greatest : NoAttr K a.cIncoming "greatest"
  na_Incoming_end : NoAttr K a.cIncoming "end"
  na_Incoming_come : NoAttr K a.cIncoming "come"
  na_Incoming_parts : NoAttr K a.cIncoming "parts"
  mg_Incoming : mg "Incoming" = some (.ref a.cIncoming)
  cl_Outgoing : Cls K a.cOutgoing
  na_Outgoing_stream : NoAttr K a.cOutgoing "stream"
  na_Outgoing_keep : NoAttr K a.cOutgoing "keep"
  na_Outgoing_base : NoAttr K a.cOutgoing "base"
  na_Outgoing_kept : NoAttr K a.cOutgoing "kept"
  na_Outgoing_taken : NoAttr K a.cOutgoing "taken"
  na_Outgoing_sent : NoAttr K a.cOutgoing "sent"
  na_Outgoing_got_ranges : NoAttr K a.cOutgoing "got_ranges"
  na_Outgoing_lost_ranges : NoAttr K a.cOutgoing "lost_ranges"
  na_Outgoing_finished : NoAttr K a.cOutgoing "finished"
  na_Outgoing_last : NoAttr K a.cOutgoing "last"
  mg_Outgoing : mg "Outgoing" = some (.ref a.cOutgoing)
  df_wall : DefF K mg "_wall" s_wall ["k"]
  df_is_number : DefF K mg "is_number" s_is_number ["thing", "low", "high"]
  df_Turns_init : MakF K a.cTurns "Turns.__init__" s_Turns_init ["self"]
  df_Turns_add : MetF K a.cTurns "add" "Turns.add" s_Turns_add ["self", "stream", "urgency"]
  df_Turns_drop : MetF K a.cTurns "drop" "Turns.drop" s_Turns_drop ["self", "stream"]
  df_Turns_order : MetF K a.cTurns "order" "Turns.order" s_Turns_order ["self"]
  df_Turns_served : MetF K a.cTurns "served" "Turns.served" s_Turns_served ["self", "stream"]
  df_Turns_first : MetF K a.cTurns "first" "Turns.first" s_Turns_first ["self", "ready"]
  df_Turns_urgency_of : MetF K a.cTurns "urgency_of" "Turns.urgency_of" s_Turns_urgency_of ["self", "stream"]
  df_put_range : DefF K mg "put_range" s_put_range ["ranges", "low", "high"]
  df_drop_range : DefF K mg "drop_range" s_drop_range ["ranges", "low", "high"]
  df_gaps : DefF K mg "gaps" s_gaps ["ranges", "low", "high"]
  df_drop_all : DefF K mg "drop_all" s_drop_all ["ranges", "others"]
  df_Incoming_init : MakF K a.cIncoming "Incoming.__init__" s_Incoming_init ["self", "stream", "room"]
  df_Incoming_wrong : MetF K a.cIncoming "wrong" "Incoming.wrong" s_Incoming_wrong ["self", "piece"]
  df_Incoming_take : MetF K a.cIncoming "take" "Incoming.take" s_Incoming_take ["self", "piece"]
  df_Incoming_ready : MetF K a.cIncoming "ready" "Incoming.ready" s_Incoming_ready ["self"]
  df_Incoming_read : MetF K a.cIncoming "read" "Incoming.read" s_Incoming_read ["self", "most"]
  df_Incoming_grown : MetF K a.cIncoming "grown" "Incoming.grown" s_Incoming_grown ["self"]
  df_Incoming_let : MetF K a.cIncoming "let" "Incoming.let" s_Incoming_let ["self", "upto"]
  df_Incoming_is_over : MetF K a.cIncoming "is_over" "Incoming.is_over" s_Incoming_is_over ["self"]
  df_Incoming_is_whole : MetF K a.cIncoming "is_whole" "Incoming.is_whole" s_Incoming_is_whole ["self"]
  df_Incoming_memory : MetF K a.cIncoming "memory" "Incoming.memory" s_Incoming_memory ["self"]
  df_Outgoing_init : MakF K a.cOutgoing "Outgoing.__init__" s_Outgoing_init ["self", "stream", "keep"]
  df_Outgoing_write : MetF K a.cOutgoing "write" "Outgoing.write" s_Outgoing_write ["self", "octets"]
  df_Outgoing_finish : MetF K a.cOutgoing "finish" "Outgoing.finish" s_Outgoing_finish ["self"]
  df_Outgoing_next : MetF K a.cOutgoing "next" "Outgoing.next" s_Outgoing_next ["self", "most", "upto"]
  df_Outgoing_piece : MetF K a.cOutgoing "piece" "Outgoing.piece" s_Outgoing_piece ["self", "low", "high"]
  df_Outgoing_got : MetF K a.cOutgoing "got" "Outgoing.got" s_Outgoing_got ["self", "piece"]
  df_Outgoing_lost : MetF K a.cOutgoing "lost" "Outgoing.lost" s_Outgoing_lost ["self", "piece"]
  df_Outgoing_is_done : MetF K a.cOutgoing "is_done" "Outgoing.is_done" s_Outgoing_is_done ["self"]
  df_Outgoing_is_due : MetF K a.cOutgoing "is_due" "Outgoing.is_due" s_Outgoing_is_due ["self", "upto"]
  df_Outgoing_memory : MetF K a.cOutgoing "memory" "Outgoing.memory" s_Outgoing_memory ["self"]
  df_law_draws : DefF K mg "_law_draws" s_law_draws ["script"]
  df_law_draw : DefF K mg "_law_draw" s_law_draw ["draws", "limit"]
  df_law_same : DefF K mg "_law_same" s_law_same ["x", "due"]
  df_law_copy : DefF K mg "_law_copy" s_law_copy ["thing"]
section
variable {P : Program} {w : World} {K : PySem.W.Frag} {mg : Str → Option Value} {base : Heap} {a : CA}
/-! ### _wall -/
theorem sc_wall : FnScope ["k"] ["k"] (defScope s_wall) := ⟨rfl, rfl, rfl, by decide +kernel, rfl, by decide +kernel, by decide +kernel⟩
def ev_wall (a : CA) : EvS := (evWhile (fun _ _ => 1000) (evB (evC (.bl true))) evPass)
def fn_wall (a : CA) : List D → Store → Out D := fnOf 1 (ev_wall a)
theorem ok_wall (T : Txt P K mg a) : DCal P w K mg base 1 "_wall" 1 (fn_wall a) := by
  obtain ⟨f, fd, F, hm, b⟩ := T.df_wall.ex
  refine ⟨f, fd, _, fun_ok (k := 0) F sc_wall rfl fun cdv A outer s H E hr => ?_, hm, F.kp, b⟩
  have hu := hu_of hr
  unfold ev_wall
  exact (jss_one (js_while (fun _ _ => 1000) PassesOwn.never (jt_val je_bl) (jss_one js_pass)))
/-! ### is_number -/
theorem sc_is_number : FnScope ["thing", "low", "high"] ["thing", "low", "high"] (defScope s_is_number) := ⟨rfl, rfl, rfl, by decide +kernel, rfl, by decide +kernel, by decide +kernel⟩
def ev_is_number (a : CA) : EvS := (evRet (evAndV (evL opIsi (evCons (evVar 0) (evCons (evC (.ty "int")) evNil))) (evAndV (evNotV (evL opIsi (evCons (evVar 0) (evCons (evC (.ty "bool")) evNil)))) (evChain opLe opLe (evVar 1) (evVar 0) (evVar 2)))))
def fn_is_number (a : CA) : List D → Store → Out D := fnOf 3 (ev_is_number a)
theorem ok_is_number (T : Txt P K mg a) : DCal P w K mg base 1 "is_number" 3 (fn_is_number a) := by
  obtain ⟨f, fd, F, hm, b⟩ := T.df_is_number.ex
  refine ⟨f, fd, _, fun_ok (k := 0) F sc_is_number rfl fun cdv A outer s H E hr => ?_, hm, F.kp, b⟩
  have hu := hu_of hr
  unfold ev_is_number
  exact (jss_one (js_ret (je_and (je_callB call_isiA ol_isi (by rfl) T.b_isinstance (by decide +kernel) (ja_cons (je_var (pv 0)) (ja_cons (je_gty (pe_bltn (by rfl) T.b_int (by decide +kernel) rfl)) ja_nil))) (je_and (je_not (je_callB call_isiA ol_isi (by rfl) T.b_isinstance (by decide +kernel) (ja_cons (je_var (pv 0)) (ja_cons (je_gty (pe_bltn (by rfl) T.b_bool (by decide +kernel) rfl)) ja_nil)))) (je_one (je_chain op_le od_B op_le od_B (je_var (pv 1)) (je_var (pv 0)) (je_var (pv 2))))))))
/-! ### Turns.__init__ -/
theorem sc_Turns_init : FnScope ["self"] ["self"] (defScope s_Turns_init) := ⟨rfl, rfl, rfl, by decide +kernel, rfl, by decide +kernel, by decide +kernel⟩
def ev_Turns_init (a : CA) : EvS := (evFldS [a.cTurns] "rows" (evVar 0) (evL (opLst false) evNil))
def fn_Turns_init (a : CA) : List D → Store → Out D := fnOf 1 (ev_Turns_init a)
theorem ok_Turns_init (T : Txt P K mg a) : DMak P w K mg base 1 "Turns" a.cTurns 1 (fn_Turns_init a) := by
  obtain ⟨f, fd, M, F, b⟩ := T.df_Turns_init.ex
  refine ⟨f, fd, _, M, fun_ok (k := 0) F sc_Turns_init rfl fun cdv A outer s H E hr => ?_, T.mg_Turns, b⟩
  have hu := hu_of hr
  unfold ev_Turns_init
  exact (jss_one (js_fld (in1 T.cl_Turns T.na_Turns_rows) (je_var (pv 0)) (je_lst false ja_nil)))
/-! ### Turns.order -/
theorem sc_Turns_order : FnScope ["self", "found", "urgency", "row"] ["self"] (defScope s_Turns_order) := ⟨rfl, rfl, rfl, by decide +kernel, rfl, by decide +kernel, by decide +kernel⟩
def ev_Turns_order (a : CA) : EvS := (evSeq (evSet 1 (evL (opLst false) evNil)) (evSeq (evForR rng1 (evCons (ev2 (opAdd false) (evC (.int 3)) (evC (.int 1))) evNil) (gtName 2) (evSet 1 (ev2 (opAdd false) (evVar 1) (evLc false (ev1 (opFld [a.cTurns] "rows") (evVar 0)) [3] (gtName 3) (evB (ev2 (opEqF false) (ev2 opIx (evVar 3) (evC (.int 0))) (evVar 2))) (ev2 opIx (evVar 3) (evC (.int 1))))))) (evRet (evVar 1))))
def fn_Turns_order (a : CA) : List D → Store → Out D := fnOf 4 (ev_Turns_order a)
theorem ok_Turns_order (T : Txt P K mg a) : DMet P w K mg base 1 a.cTurns "order" 1 (fn_Turns_order a) := by
  obtain ⟨f, fd, M, F, b⟩ := T.df_Turns_order.ex
  refine ⟨f, fd, _, T.cl_Turns, M, fun_ok (k := 0) F sc_Turns_order rfl fun cdv A outer s H E hr => ?_, b⟩
  have hu := hu_of hr
  unfold ev_Turns_order
  exact (jss_cons (js_set (i := 1) sc_Turns_order.nd rfl (.inl rfl) (je_lst false ja_nil)) (jss_cons (js_for1 PassesOwn.never rfl (by rfl) T.b_range (ja_cons (je_op op_addA (od_addA (mm := false)) (je_gint (pe_glob (by rfl) T.g_LAST.choose_spec ⟨_, rfl⟩)) je_int) ja_nil) (jg_name (i := 2) sc_Turns_order.nd rfl (.inr rfl)) (jss_one (js_set (i := 1) sc_Turns_order.nd rfl (.inl rfl) (je_op op_addA (od_addA (mm := false)) (je_var (pv 1)) (je_lc false (own := [("row", 3)]) (tgok_name 3 (by decide)) rfl sc_Turns_order.nd (je_fld (in1 T.cl_Turns T.na_Turns_rows) (je_var (pv 0))) (blkOk_by (own := [("row", 3)]) (N := ["self", "found", "urgency", "row"]) (sc := defScope s_Turns_order) (by decide +kernel)) (fun _ _ _ _ _ => pg_name (i := 3) sc_Turns_order.nd rfl (.inl rfl)) (fun _ _ _ _ _ => jts_one (jt_cmp op_eq od_eqF (je_ix hu (je_var (pv 3)) je_int (fun _ _ => rfl) (fun _ _ => rfl)) (je_var (pv 2)) (nomark _))) (fun _ _ _ _ _ => (je_ix hu (je_var (pv 3)) je_int (fun _ _ => rfl) (fun _ _ => rfl)))))))) (jss_one (js_ret (je_var (pv 1))))))
/-! ### Turns.add -/
theorem sc_Turns_add : FnScope ["self", "stream", "urgency"] ["self", "stream", "urgency"] (defScope s_Turns_add) := ⟨rfl, rfl, rfl, by decide +kernel, rfl, by decide +kernel, by decide +kernel⟩
def ev_Turns_add (a : CA) : EvS := (evSeq (evIfS (evNot (evB (evL (opCall 3 (fn_is_number a)) (evCons (evVar 2) (evCons (evC (.int 0)) (evCons (evC (.int 3)) evNil)))))) evNever evNop) (evSeq (evIfS (evB (ev2 (opIn false) (evVar 1) (evMeth a.cTurns "order" 1 (fn_Turns_order a) (evVar 0) evNil))) evNever evNop) (evFldS [a.cTurns] "rows" (evVar 0) (ev2 (opAdd false) (ev1 (opFld [a.cTurns] "rows") (evVar 0)) (evL (opLst false) (evCons (evL opTup (evCons (evVar 2) (evCons (evVar 1) evNil))) evNil))))))
def fn_Turns_add (a : CA) : List D → Store → Out D := fnOf 3 (ev_Turns_add a)
theorem ok_Turns_add (T : Txt P K mg a) : DMet P w K mg base 2 a.cTurns "add" 3 (fn_Turns_add a) := by
  obtain ⟨f, fd, M, F, b⟩ := T.df_Turns_add.ex
  refine ⟨f, fd, _, T.cl_Turns, M, fun_ok (k := 1) F sc_Turns_add rfl fun cdv A outer s H E hr => ?_, b⟩
  have hu := hu_of hr
  unfold ev_Turns_add
  exact (jss_cons (js_if (jt_not (jt_val (jc_call (ok_is_number T) hr (by decide) (by rfl) (ja_cons (je_var (pv 2)) (ja_cons je_int (ja_cons (je_gint (pe_glob (by rfl) T.g_LAST.choose_spec ⟨_, rfl⟩)) ja_nil)))))) (jss_one js_never) jss_nil) (jss_cons (js_if (jt_cmp op_in_seq od_in (je_var (pv 1)) (jc_meth0 (ok_Turns_order T) hr (by decide) (je_var (pv 0))) (by rfl)) (jss_one js_never) jss_nil) (jss_one (js_fld (in1 T.cl_Turns T.na_Turns_rows) (je_var (pv 0)) (je_op op_addA (od_addA (mm := false)) (je_fld (in1 T.cl_Turns T.na_Turns_rows) (je_var (pv 0))) (je_lst false (ja_cons (je_tup (ja_cons (je_var (pv 2)) (ja_cons (je_var (pv 1)) ja_nil))) ja_nil)))))))
/-! ### Turns.drop -/
theorem sc_Turns_drop : FnScope ["self", "stream"] ["self", "stream"] (defScope s_Turns_drop) := ⟨rfl, rfl, rfl, by decide +kernel, rfl, by decide +kernel, by decide +kernel⟩
def ev_Turns_drop (a : CA) : EvS := (evExpr (evL (opCall 1 (fn_wall a)) (evCons (evC (.int 0)) evNil)))
def fn_Turns_drop (a : CA) : List D → Store → Out D := fnOf 2 (ev_Turns_drop a)
theorem ok_Turns_drop (T : Txt P K mg a) : DMet P w K mg base 2 a.cTurns "drop" 2 (fn_Turns_drop a) := by
  obtain ⟨f, fd, M, F, b⟩ := T.df_Turns_drop.ex
  refine ⟨f, fd, _, T.cl_Turns, M, fun_ok (k := 1) F sc_Turns_drop rfl fun cdv A outer s H E hr => ?_, b⟩
  have hu := hu_of hr
  unfold ev_Turns_drop
  exact (jss_one (js_expr (jc_call (ok_wall T) hr (by decide) (by rfl) (ja_cons je_int ja_nil))))
/-! ### Turns.served -/
theorem sc_Turns_served : FnScope ["self", "stream", "mine", "row"] ["self", "stream"] (defScope s_Turns_served) := ⟨rfl, rfl, rfl, by decide +kernel, rfl, by decide +kernel, by decide +kernel⟩
def ev_Turns_served (a : CA) : EvS := (evSeq (evIfS (evB (ev2 (opIn true) (evVar 1) (evMeth a.cTurns "order" 1 (fn_Turns_order a) (evVar 0) evNil))) evNever evNop) (evSeq (evSet 2 (evLc false (ev1 (opFld [a.cTurns] "rows") (evVar 0)) [3] (gtName 3) (evB (ev2 (opEqF false) (ev2 opIx (evVar 3) (evC (.int 1))) (evVar 1))) (evVar 3))) (evFldS [a.cTurns] "rows" (evVar 0) (ev2 (opAdd false) (evLc false (ev1 (opFld [a.cTurns] "rows") (evVar 0)) [3] (gtName 3) (evB (ev2 (opEqF true) (ev2 opIx (evVar 3) (evC (.int 1))) (evVar 1))) (evVar 3)) (evVar 2)))))
def fn_Turns_served (a : CA) : List D → Store → Out D := fnOf 4 (ev_Turns_served a)
theorem ok_Turns_served (T : Txt P K mg a) : DMet P w K mg base 2 a.cTurns "served" 2 (fn_Turns_served a) := by
  obtain ⟨f, fd, M, F, b⟩ := T.df_Turns_served.ex
  refine ⟨f, fd, _, T.cl_Turns, M, fun_ok (k := 1) F sc_Turns_served rfl fun cdv A outer s H E hr => ?_, b⟩
  have hu := hu_of hr
  unfold ev_Turns_served
  exact (jss_cons (js_if (jt_cmp op_notIn_seq od_in (je_var (pv 1)) (jc_meth0 (ok_Turns_order T) hr (by decide) (je_var (pv 0))) (by rfl)) (jss_one js_never) jss_nil) (jss_cons (js_lcSet false (own := [("row", 3)]) (i := 2) (tgok_name 3 (by decide)) rfl sc_Turns_served.nd rfl rfl (sw_true rfl rfl rfl (by decide +kernel)) (je_fld (in1 T.cl_Turns T.na_Turns_rows) (je_var (pv 0))) (blkOk_by (own := [("row", 3)]) (N := ["self", "stream", "mine", "row"]) (sc := defScope s_Turns_served) (by decide +kernel)) (fun _ _ _ _ _ => pg_name (i := 3) sc_Turns_served.nd rfl (.inl rfl)) (fun _ _ _ _ _ => jts_one (jt_cmp op_eq od_eqF (je_ix hu (je_var (pv 3)) je_int (fun _ _ => rfl) (fun _ _ => rfl)) (je_var (pv 1)) (nomark _))) (fun _ _ _ _ _ => (je_var (pv 3)))) (jss_one (js_fld (in1 T.cl_Turns T.na_Turns_rows) (je_var (pv 0)) (je_op op_addA (od_addA (mm := false)) (je_lc false (own := [("row", 3)]) (tgok_name 3 (by decide)) rfl sc_Turns_served.nd (je_fld (in1 T.cl_Turns T.na_Turns_rows) (je_var (pv 0))) (blkOk_by (own := [("row", 3)]) (N := ["self", "stream", "mine", "row"]) (sc := defScope s_Turns_served) (by decide +kernel)) (fun _ _ _ _ _ => pg_name (i := 3) sc_Turns_served.nd rfl (.inl rfl)) (fun _ _ _ _ _ => jts_one (jt_cmp op_ne od_neF (je_ix hu (je_var (pv 3)) je_int (fun _ _ => rfl) (fun _ _ => rfl)) (je_var (pv 1)) (nomark _))) (fun _ _ _ _ _ => (je_var (pv 3)))) (je_var (pv 2)))))))
/-! ### Turns.first -/
theorem sc_Turns_first : FnScope ["self", "ready", "some", "stream"] ["self", "ready"] (defScope s_Turns_first) := ⟨rfl, rfl, rfl, by decide +kernel, rfl, by decide +kernel, by decide +kernel⟩
def ev_Turns_first (a : CA) : EvS := (evSeq (evSet 2 (evLc false (evMeth a.cTurns "order" 1 (fn_Turns_order a) (evVar 0) evNil) [3] (gtName 3) (evB (ev2 (opIn false) (evVar 3) (evVar 1))) (evVar 3))) (evRet (evIf (evB (ev2 opGt (evL opLen (evCons (evVar 2) evNil)) (evC (.int 0)))) (ev2 opIx (evVar 2) (evC (.int 0))) (evC .non))))
def fn_Turns_first (a : CA) : List D → Store → Out D := fnOf 4 (ev_Turns_first a)
theorem ok_Turns_first (T : Txt P K mg a) : DMet P w K mg base 2 a.cTurns "first" 2 (fn_Turns_first a) := by
  obtain ⟨f, fd, M, F, b⟩ := T.df_Turns_first.ex
  refine ⟨f, fd, _, T.cl_Turns, M, fun_ok (k := 1) F sc_Turns_first rfl fun cdv A outer s H E hr => ?_, b⟩
  have hu := hu_of hr
  unfold ev_Turns_first
  exact (jss_cons (js_lcSet false (own := [("stream", 3)]) (i := 2) (tgok_name 3 (by decide)) rfl sc_Turns_first.nd rfl rfl (sw_true rfl rfl rfl (by decide +kernel)) (jc_meth0 (ok_Turns_order T) hr (by decide) (je_var (pv 0))) (blkOk_by (own := [("stream", 3)]) (N := ["self", "ready", "some", "stream"]) (sc := defScope s_Turns_first) (by decide +kernel)) (fun _ _ _ _ _ => pg_name (i := 3) sc_Turns_first.nd rfl (.inl rfl)) (fun _ _ _ _ _ => jts_one (jt_cmp op_in_seq od_in (je_var (pv 3)) (je_var (pv 1)) (by rfl))) (fun _ _ _ _ _ => (je_var (pv 3)))) (jss_one (js_ret (je_if (jt_cmp op_gt od_B (je_callB call_lenA ol_len (by rfl) T.b_len (by decide +kernel) (ja_cons (je_var (pv 2)) ja_nil)) je_int (nomark _)) (je_ix hu (je_var (pv 2)) je_int (fun _ _ => rfl) (fun _ _ => rfl)) je_non))))
/-! ### Turns.urgency_of -/
theorem sc_Turns_urgency_of : FnScope ["self", "stream"] ["self", "stream"] (defScope s_Turns_urgency_of) := ⟨rfl, rfl, rfl, by decide +kernel, rfl, by decide +kernel, by decide +kernel⟩
def ev_Turns_urgency_of (a : CA) : EvS := (evExpr (evL (opCall 1 (fn_wall a)) (evCons (evC (.int 1)) evNil)))
def fn_Turns_urgency_of (a : CA) : List D → Store → Out D := fnOf 2 (ev_Turns_urgency_of a)
theorem ok_Turns_urgency_of (T : Txt P K mg a) : DMet P w K mg base 2 a.cTurns "urgency_of" 2 (fn_Turns_urgency_of a) := by
  obtain ⟨f, fd, M, F, b⟩ := T.df_Turns_urgency_of.ex
  refine ⟨f, fd, _, T.cl_Turns, M, fun_ok (k := 1) F sc_Turns_urgency_of rfl fun cdv A outer s H E hr => ?_, b⟩
  have hu := hu_of hr
  unfold ev_Turns_urgency_of
  exact (jss_one (js_expr (jc_call (ok_wall T) hr (by decide) (by rfl) (ja_cons je_int ja_nil))))
/-! ### put_range -/
theorem sc_put_range : FnScope ["ranges", "low", "high", "found", "one", "other"] ["ranges", "low", "high"] (defScope s_put_range) := ⟨rfl, rfl, rfl, by decide +kernel, rfl, by decide +kernel, by decide +kernel⟩
def ev_put_range (a : CA) : EvS := (evSeq (evSet 3 (evL (opLst true) evNil)) (evSeq (evFor (evVar 0) (gtTup [(gtName 4), (gtName 5)]) (evIfS (evOr (evB (ev2 opLt (ev2 (opAdd false) (evVar 5) (evC (.int 1))) (evVar 1))) (evB (ev2 opLt (ev2 (opAdd false) (evVar 2) (evC (.int 1))) (evVar 4)))) (evExpr (evAppend (evVar 3) (evL opTup (evCons (evVar 4) (evCons (evVar 5) evNil))))) (evPar 1 2 (evCons (evL opMin (evCons (evVar 1) (evCons (evVar 4) evNil))) (evCons (evL opMax (evCons (evVar 2) (evCons (evVar 5) evNil))) evNil))))) (evRet (evL (opSorted false) (evCons (ev2 (opAdd false) (evVar 3) (evL (opLst false) (evCons (evL opTup (evCons (evVar 1) (evCons (evVar 2) evNil))) evNil))) evNil)))))
def fn_put_range (a : CA) : List D → Store → Out D := fnOf 6 (ev_put_range a)
theorem ok_put_range (T : Txt P K mg a) : DCal P w K mg base 1 "put_range" 3 (fn_put_range a) := by
  obtain ⟨f, fd, F, hm, b⟩ := T.df_put_range.ex
  refine ⟨f, fd, _, fun_ok (k := 0) F sc_put_range rfl fun cdv A outer s H E hr => ?_, hm, F.kp, b⟩
  have hu := hu_of hr
  unfold ev_put_range
  exact (jss_cons (js_set (i := 3) sc_put_range.nd rfl (.inl rfl) (je_lst true ja_nil)) (jss_cons (js_for PassesOwn.never rfl (je_var (pv 0)) (jg_tup rfl (jgs_cons (jg_name (i := 4) sc_put_range.nd rfl (.inl rfl)) (jgs_cons (jg_name (i := 5) sc_put_range.nd rfl (.inl rfl)) jgs_nil))) (jss_one (js_if (jt_w (jw_or (jt_cmp op_lt od_B (je_op op_addA (od_addA (mm := false)) (je_var (pv 5)) je_int) (je_var (pv 1)) (nomark _)) (jw_or1 (jt_cmp op_lt od_B (je_op op_addA (od_addA (mm := false)) (je_var (pv 2)) je_int) (je_var (pv 4)) (nomark _))))) (jss_one (js_expr (je_append (pe_bm PySem.F.plainAttrs_list PySem.F.slot_list_append PySem.F.type_list_append mt_append (je_var (pv 3)) (pa_cons (je_tup (ja_cons (je_var (pv 4)) (ja_cons (je_var (pv 5)) ja_nil))) pa_nil))))) (jss_one (js_par (i := 1) (j := 2) rfl sc_put_range.nd rfl rfl (by decide) rfl rfl (ja_cons (je_callB (call_min2 rfl) ol_min (by rfl) T.b_min (by decide +kernel) (ja_cons (je_var (pv 1)) (ja_cons (je_var (pv 4)) ja_nil))) (ja_cons (je_callB (call_max2 rfl) ol_max (by rfl) T.b_max (by decide +kernel) (ja_cons (je_var (pv 2)) (ja_cons (je_var (pv 5)) ja_nil))) ja_nil)) (by rfl)))))) (jss_one (js_ret (je_callB call_sortedA ol_sorted (by rfl) T.b_sorted (by decide +kernel) (ja_cons (je_op op_addA (od_addA (mm := false)) (je_var (pv 3)) (je_lst false (ja_cons (je_tup (ja_cons (je_var (pv 1)) (ja_cons (je_var (pv 2)) ja_nil))) ja_nil))) ja_nil))))))
/-! ### drop_range -/
theorem sc_drop_range : FnScope ["ranges", "low", "high", "found", "one", "other", "pair"] ["ranges", "low", "high"] (defScope s_drop_range) := ⟨rfl, rfl, rfl, by decide +kernel, rfl, by decide +kernel, by decide +kernel⟩
def ev_drop_range (a : CA) : EvS := (evSeq (evSet 3 (evL (opLst true) evNil)) (evSeq (evFor (evVar 0) (gtTup [(gtName 4), (gtName 5)]) (evSeq (evIfS (evB (ev2 opLt (evVar 4) (evVar 1))) (evExpr (evAppend (evVar 3) (evL opTup (evCons (evVar 4) (evCons (evL opMin (evCons (evVar 5) (evCons (ev2 opSub (evVar 1) (evC (.int 1))) evNil))) evNil))))) evNop) (evIfS (evB (ev2 opGt (evVar 5) (evVar 2))) (evExpr (evAppend (evVar 3) (evL opTup (evCons (evL opMax (evCons (evVar 4) (evCons (ev2 (opAdd false) (evVar 2) (evC (.int 1))) evNil))) (evCons (evVar 5) evNil))))) evNop))) (evRet (evLc false (evLet 3) [6] (gtName 6) (evB (ev2 opLe (ev2 opIx (evVar 6) (evC (.int 0))) (ev2 opIx (evVar 6) (evC (.int 1))))) (evVar 6)))))
def fn_drop_range (a : CA) : List D → Store → Out D := fnOf 7 (ev_drop_range a)
theorem ok_drop_range (T : Txt P K mg a) : DCal P w K mg base 1 "drop_range" 3 (fn_drop_range a) := by
  obtain ⟨f, fd, F, hm, b⟩ := T.df_drop_range.ex
  refine ⟨f, fd, _, fun_ok (k := 0) F sc_drop_range rfl fun cdv A outer s H E hr => ?_, hm, F.kp, b⟩
  have hu := hu_of hr
  unfold ev_drop_range
  exact (jss_cons (js_set (i := 3) sc_drop_range.nd rfl (.inl rfl) (je_lst true ja_nil)) (jss_cons (js_for PassesOwn.never rfl (je_var (pv 0)) (jg_tup rfl (jgs_cons (jg_name (i := 4) sc_drop_range.nd rfl (.inl rfl)) (jgs_cons (jg_name (i := 5) sc_drop_range.nd rfl (.inl rfl)) jgs_nil))) (jss_cons (js_if (jt_cmp op_lt od_B (je_var (pv 4)) (je_var (pv 1)) (nomark _)) (jss_one (js_expr (je_append (pe_bm PySem.F.plainAttrs_list PySem.F.slot_list_append PySem.F.type_list_append mt_append (je_var (pv 3)) (pa_cons (je_tup (ja_cons (je_var (pv 4)) (ja_cons (je_callB (call_min2 rfl) ol_min (by rfl) T.b_min (by decide +kernel) (ja_cons (je_var (pv 5)) (ja_cons (je_op op_sub od_I (je_var (pv 1)) je_int) ja_nil))) ja_nil))) pa_nil))))) jss_nil) (jss_one (js_if (jt_cmp op_gt od_B (je_var (pv 5)) (je_var (pv 2)) (nomark _)) (jss_one (js_expr (je_append (pe_bm PySem.F.plainAttrs_list PySem.F.slot_list_append PySem.F.type_list_append mt_append (je_var (pv 3)) (pa_cons (je_tup (ja_cons (je_callB (call_max2 rfl) ol_max (by rfl) T.b_max (by decide +kernel) (ja_cons (je_var (pv 4)) (ja_cons (je_op op_addA (od_addA (mm := false)) (je_var (pv 2)) je_int) ja_nil))) (ja_cons (je_var (pv 5)) ja_nil))) pa_nil))))) jss_nil)))) (jss_one (js_ret (je_lc false (own := [("pair", 6)]) (tgok_name 6 (by decide)) rfl sc_drop_range.nd (je_let (pv 3)) (blkOk_by (own := [("pair", 6)]) (N := ["ranges", "low", "high", "found", "one", "other", "pair"]) (sc := defScope s_drop_range) (by decide +kernel)) (fun _ _ _ _ _ => pg_name (i := 6) sc_drop_range.nd rfl (.inl rfl)) (fun _ _ _ _ _ => jts_one (jt_cmp op_le od_B (je_ix hu (je_var (pv 6)) je_int (fun _ _ => rfl) (fun _ _ => rfl)) (je_ix hu (je_var (pv 6)) je_int (fun _ _ => rfl) (fun _ _ => rfl)) (nomark _))) (fun _ _ _ _ _ => (je_var (pv 6))))))))
/-! ### drop_all -/
theorem sc_drop_all : FnScope ["ranges", "others", "low", "high"] ["ranges", "others"] (defScope s_drop_all) := ⟨rfl, rfl, rfl, by decide +kernel, rfl, by decide +kernel, by decide +kernel⟩
def ev_drop_all (a : CA) : EvS := (evSeq (evFor (evVar 1) (gtTup [(gtName 2), (gtName 3)]) (evSet 0 (evL (opCall 3 (fn_drop_range a)) (evCons (evVar 0) (evCons (evVar 2) (evCons (evVar 3) evNil)))))) (evRet (evVar 0)))
def fn_drop_all (a : CA) : List D → Store → Out D := fnOf 4 (ev_drop_all a)
theorem ok_drop_all (T : Txt P K mg a) : DCal P w K mg base 2 "drop_all" 2 (fn_drop_all a) := by
  obtain ⟨f, fd, F, hm, b⟩ := T.df_drop_all.ex
  refine ⟨f, fd, _, fun_ok (k := 1) F sc_drop_all rfl fun cdv A outer s H E hr => ?_, hm, F.kp, b⟩
  have hu := hu_of hr
  unfold ev_drop_all
  exact (jss_cons (js_for PassesOwn.never rfl (je_var (pv 1)) (jg_tup rfl (jgs_cons (jg_name (i := 2) sc_drop_all.nd rfl (.inl rfl)) (jgs_cons (jg_name (i := 3) sc_drop_all.nd rfl (.inl rfl)) jgs_nil))) (jss_one (js_set (i := 0) sc_drop_all.nd rfl (.inl rfl) (jc_call (ok_drop_range T) hr (by decide) (by rfl) (ja_cons (je_var (pv 0)) (ja_cons (je_var (pv 2)) (ja_cons (je_var (pv 3)) ja_nil))))))) (jss_one (js_ret (je_var (pv 0)))))
/-! ### gaps -/
theorem sc_gaps : FnScope ["ranges", "low", "high"] ["ranges", "low", "high"] (defScope s_gaps) := ⟨rfl, rfl, rfl, by decide +kernel, rfl, by decide +kernel, by decide +kernel⟩
def ev_gaps (a : CA) : EvS := (evRet (evIf (evB (ev2 opLe (evVar 1) (evVar 2))) (evL (opCall 2 (fn_drop_all a)) (evCons (evL (opLst false) (evCons (evL opTup (evCons (evVar 1) (evCons (evVar 2) evNil))) evNil)) (evCons (evVar 0) evNil))) (evL (opLst false) evNil)))
def fn_gaps (a : CA) : List D → Store → Out D := fnOf 3 (ev_gaps a)
theorem ok_gaps (T : Txt P K mg a) : DCal P w K mg base 3 "gaps" 3 (fn_gaps a) := by
  obtain ⟨f, fd, F, hm, b⟩ := T.df_gaps.ex
  refine ⟨f, fd, _, fun_ok (k := 2) F sc_gaps rfl fun cdv A outer s H E hr => ?_, hm, F.kp, b⟩
  have hu := hu_of hr
  unfold ev_gaps
  exact (jss_one (js_ret (je_if (jt_cmp op_le od_B (je_var (pv 1)) (je_var (pv 2)) (nomark _)) (jc_call (ok_drop_all T) hr (by decide) (by rfl) (ja_cons (je_lst false (ja_cons (je_tup (ja_cons (je_var (pv 1)) (ja_cons (je_var (pv 2)) ja_nil))) ja_nil)) (ja_cons (je_var (pv 0)) ja_nil))) (je_lst false ja_nil))))
/-! ### Incoming.__init__ -/
theorem sc_Incoming_init : FnScope ["self", "stream", "room"] ["self", "stream", "room"] (defScope s_Incoming_init) := ⟨rfl, rfl, rfl, by decide +kernel, rfl, by decide +kernel, by decide +kernel⟩
def ev_Incoming_init (a : CA) : EvS := (evSeq (evIfS (evOr (evNot (evB (evL opIsi (evCons (evVar 2) (evCons (evC (.ty "int")) evNil))))) (evOr (evB (evL opIsi (evCons (evVar 2) (evCons (evC (.ty "bool")) evNil)))) (evB (ev2 opLt (evVar 2) (evC (.int 1)))))) evNever evNop) (evSeq (evFldS [a.cIncoming] "stream" (evVar 0) (evVar 1)) (evSeq (evFldS [a.cIncoming] "room" (evVar 0) (evVar 2)) (evSeq (evFldS [a.cIncoming] "upto" (evVar 0) (evVar 2)) (evSeq (evFldS [a.cIncoming] "read_upto" (evVar 0) (evC (.int 0))) (evSeq (evFldS [a.cIncoming] "greatest" (evVar 0) (evC (.int 0))) (evSeq (evFldS [a.cIncoming] "end" (evVar 0) (evC .non)) (evSeq (evFldS [a.cIncoming] "come" (evVar 0) (evL (opLst false) evNil)) (evFldS [a.cIncoming] "parts" (evVar 0) (evL (opLst false) evNil))))))))))
def fn_Incoming_init (a : CA) : List D → Store → Out D := fnOf 3 (ev_Incoming_init a)
theorem ok_Incoming_init (T : Txt P K mg a) : DMak P w K mg base 1 "Incoming" a.cIncoming 3 (fn_Incoming_init a) := by
  obtain ⟨f, fd, M, F, b⟩ := T.df_Incoming_init.ex
  refine ⟨f, fd, _, M, fun_ok (k := 0) F sc_Incoming_init rfl fun cdv A outer s H E hr => ?_, T.mg_Incoming, b⟩
  have hu := hu_of hr
  unfold ev_Incoming_init
  exact (jss_cons (js_if (jt_w (jw_or (jt_not (jt_val (je_callB call_isiA ol_isi (by rfl) T.b_isinstance (by decide +kernel) (ja_cons (je_var (pv 2)) (ja_cons (je_gty (pe_bltn (by rfl) T.b_int (by decide +kernel) rfl)) ja_nil))))) (jw_or (jt_val (je_callB call_isiA ol_isi (by rfl) T.b_isinstance (by decide +kernel) (ja_cons (je_var (pv 2)) (ja_cons (je_gty (pe_bltn (by rfl) T.b_bool (by decide +kernel) rfl)) ja_nil)))) (jw_or1 (jt_cmp op_lt od_B (je_var (pv 2)) je_int (nomark _)))))) (jss_one js_never) jss_nil) (jss_cons (js_fld (in1 T.cl_Incoming T.na_Incoming_stream) (je_var (pv 0)) (je_var (pv 1))) (jss_cons (js_fld (in1 T.cl_Incoming T.na_Incoming_room) (je_var (pv 0)) (je_var (pv 2))) (jss_cons (js_fld (in1 T.cl_Incoming T.na_Incoming_upto) (je_var (pv 0)) (je_var (pv 2))) (jss_cons (js_fld (in1 T.cl_Incoming T.na_Incoming_read_upto) (je_var (pv 0)) je_int) (jss_cons (js_fld (in1 T.cl_Incoming T.na_Incoming_greatest) (je_var (pv 0)) je_int) (jss_cons (js_fld (in1 T.cl_Incoming T.na_Incoming_end) (je_var (pv 0)) je_non) (jss_cons (js_fld (in1 T.cl_Incoming T.na_Incoming_come) (je_var (pv 0)) (je_lst false ja_nil)) (jss_one (js_fld (in1 T.cl_Incoming T.na_Incoming_parts) (je_var (pv 0)) (je_lst false ja_nil)))))))))))
/-! ### Incoming.wrong -/
theorem sc_Incoming_wrong : FnScope ["self", "piece", "high"] ["self", "piece"] (defScope s_Incoming_wrong) := ⟨rfl, rfl, rfl, by decide +kernel, rfl, by decide +kernel, by decide +kernel⟩
def ev_Incoming_wrong (a : CA) : EvS := (evSeq (evSet 2 (ev2 (opAdd false) (ev2 opIx (evVar 1) (evC (.int 2))) (evL opLen (evCons (ev2 opIx (evVar 1) (evC (.int 3))) evNil)))) (evSeq (evIfS (evB (ev2 opGt (evVar 2) (ev1 (opFld [a.cIncoming] "upto") (evVar 0)))) (evRet (evC (.str "room"))) evNop) (evSeq (evIfS (evAnd (evB (ev2 (opEqF false) (ev2 opIx (evVar 1) (evC (.int 4))) (evC (.int 1)))) (evOr (evB (ev2 opLt (evVar 2) (ev1 (opFld [a.cIncoming] "greatest") (evVar 0)))) (evAnd (evB (ev2 (opIs true) (ev1 (opFld [a.cIncoming] "end") (evVar 0)) (evC .non))) (evB (ev2 (opEqF true) (evVar 2) (ev1 (opFld [a.cIncoming] "end") (evVar 0))))))) (evRet (evC (.str "last"))) evNop) (evSeq (evIfS (evAnd (evB (ev2 (opIs true) (ev1 (opFld [a.cIncoming] "end") (evVar 0)) (evC .non))) (evB (ev2 opGt (evVar 2) (ev1 (opFld [a.cIncoming] "end") (evVar 0))))) (evRet (evC (.str "last"))) evNop) (evRet (evC .non))))))
def fn_Incoming_wrong (a : CA) : List D → Store → Out D := fnOf 3 (ev_Incoming_wrong a)
theorem ok_Incoming_wrong (T : Txt P K mg a) : DMet P w K mg base 1 a.cIncoming "wrong" 2 (fn_Incoming_wrong a) := by
  obtain ⟨f, fd, M, F, b⟩ := T.df_Incoming_wrong.ex
  refine ⟨f, fd, _, T.cl_Incoming, M, fun_ok (k := 0) F sc_Incoming_wrong rfl fun cdv A outer s H E hr => ?_, b⟩
  have hu := hu_of hr
  unfold ev_Incoming_wrong
  exact (jss_cons (js_set (i := 2) sc_Incoming_wrong.nd rfl (.inl rfl) (je_op op_addA (od_addA (mm := false)) (je_ix hu (je_var (pv 1)) je_int (fun _ _ => rfl) (fun _ _ => rfl)) (je_callB call_lenA ol_len (by rfl) T.b_len (by decide +kernel) (ja_cons (je_ix hu (je_var (pv 1)) je_int (fun _ _ => rfl) (fun _ _ => rfl)) ja_nil)))) (jss_cons (js_if (jt_cmp op_gt od_B (je_var (pv 2)) (je_fld (in1 T.cl_Incoming T.na_Incoming_upto) (je_var (pv 0))) (nomark _)) (jss_one (js_ret je_str)) jss_nil) (jss_cons (js_if (jt_w (jw_and (jt_cmp op_eq od_eqF (je_ix hu (je_var (pv 1)) je_int (fun _ _ => rfl) (fun _ _ => rfl)) je_int (nomark _)) (jw_and1 (jt_w (jw_or (jt_cmp op_lt od_B (je_var (pv 2)) (je_fld (in1 T.cl_Incoming T.na_Incoming_greatest) (je_var (pv 0))) (nomark _)) (jw_or1 (jt_w (jw_and (jt_cmp op_isNotA od_is (je_fld (in1 T.cl_Incoming T.na_Incoming_end) (je_var (pv 0))) je_non (nomark _)) (jw_and1 (jt_cmp op_ne od_neF (je_var (pv 2)) (je_fld (in1 T.cl_Incoming T.na_Incoming_end) (je_var (pv 0))) (nomark _))))))))))) (jss_one (js_ret je_str)) jss_nil) (jss_cons (js_if (jt_w (jw_and (jt_cmp op_isNotA od_is (je_fld (in1 T.cl_Incoming T.na_Incoming_end) (je_var (pv 0))) je_non (nomark _)) (jw_and1 (jt_cmp op_gt od_B (je_var (pv 2)) (je_fld (in1 T.cl_Incoming T.na_Incoming_end) (je_var (pv 0))) (nomark _))))) (jss_one (js_ret je_str)) jss_nil) (jss_one (js_ret je_non))))))
/-! ### Incoming.take -/
theorem sc_Incoming_take : FnScope ["self", "piece", "word", "low", "high", "one", "other"] ["self", "piece"] (defScope s_Incoming_take) := ⟨rfl, rfl, rfl, by decide +kernel, rfl, by decide +kernel, by decide +kernel⟩
def ev_Incoming_take (a : CA) : EvS := (evSeq (evSet 2 (evMeth a.cIncoming "wrong" 2 (fn_Incoming_wrong a) (evVar 0) (evCons (evVar 1) evNil))) (evSeq (evIfS (evB (ev2 (opIs true) (evVar 2) (evC .non))) (evRet (evVar 2)) evNop) (evSeq (evPar 3 4 (evCons (ev2 opIx (evVar 1) (evC (.int 2))) (evCons (ev2 (opAdd false) (ev2 opIx (evVar 1) (evC (.int 2))) (evL opLen (evCons (ev2 opIx (evVar 1) (evC (.int 3))) evNil))) evNil))) (evSeq (evFldS [a.cIncoming] "greatest" (evVar 0) (evL opMax (evCons (ev1 (opFld [a.cIncoming] "greatest") (evVar 0)) (evCons (evVar 4) evNil)))) (evSeq (evIfS (evB (ev2 (opEqF false) (ev2 opIx (evVar 1) (evC (.int 4))) (evC (.int 1)))) (evFldS [a.cIncoming] "end" (evVar 0) (evVar 4)) evNop) (evSeq (evFor (evL (opCall 3 (fn_gaps a)) (evCons (ev1 (opFld [a.cIncoming] "come") (evVar 0)) (evCons (evL opMax (evCons (evVar 3) (evCons (ev1 (opFld [a.cIncoming] "read_upto") (evVar 0)) evNil))) (evCons (ev2 opSub (evVar 4) (evC (.int 1))) evNil)))) (gtTup [(gtName 5), (gtName 6)]) (evSeq (evFldS [a.cIncoming] "parts" (evVar 0) (evL (opSortK 1 false) (evCons (ev2 (opAdd false) (ev1 (opFld [a.cIncoming] "parts") (evVar 0)) (evL (opLst false) (evCons (evL opTup (evCons (evVar 5) (evCons (evL opTuple (evCons (evSl false (ev2 opIx (evVar 1) (evC (.int 3))) (some (ev2 opSub (evVar 5) (evVar 3))) (some (ev2 opSub (ev2 (opAdd false) (evVar 6) (evC (.int 1))) (evVar 3)))) evNil)) evNil))) evNil))) evNil))) (evFldS [a.cIncoming] "come" (evVar 0) (evL (opCall 3 (fn_put_range a)) (evCons (ev1 (opFld [a.cIncoming] "come") (evVar 0)) (evCons (evVar 5) (evCons (evVar 6) evNil))))))) (evRet (evC .non))))))))
def fn_Incoming_take (a : CA) : List D → Store → Out D := fnOf 7 (ev_Incoming_take a)
theorem ok_Incoming_take (T : Txt P K mg a) : DMet P w K mg base 4 a.cIncoming "take" 2 (fn_Incoming_take a) := by
  obtain ⟨f, fd, M, F, b⟩ := T.df_Incoming_take.ex
  refine ⟨f, fd, _, T.cl_Incoming, M, fun_ok (k := 3) F sc_Incoming_take rfl fun cdv A outer s H E hr => ?_, b⟩
  have hu := hu_of hr
  unfold ev_Incoming_take
  exact (jss_cons (js_set (i := 2) sc_Incoming_take.nd rfl (.inl rfl) (jc_meth (ok_Incoming_wrong T) hr (by decide) (je_var (pv 0)) (ja_cons (je_var (pv 1)) ja_nil))) (jss_cons (js_if (jt_cmp op_isNotA od_is (je_var (pv 2)) je_non (nomark _)) (jss_one (js_ret (je_var (pv 2)))) jss_nil) (jss_cons (js_par (i := 3) (j := 4) rfl sc_Incoming_take.nd rfl rfl (by decide) rfl rfl (ja_cons (je_ix hu (je_var (pv 1)) je_int (fun _ _ => rfl) (fun _ _ => rfl)) (ja_cons (je_op op_addA (od_addA (mm := false)) (je_ix hu (je_var (pv 1)) je_int (fun _ _ => rfl) (fun _ _ => rfl)) (je_callB call_lenA ol_len (by rfl) T.b_len (by decide +kernel) (ja_cons (je_ix hu (je_var (pv 1)) je_int (fun _ _ => rfl) (fun _ _ => rfl)) ja_nil))) ja_nil)) (by rfl)) (jss_cons (js_fld (in1 T.cl_Incoming T.na_Incoming_greatest) (je_var (pv 0)) (je_callB (call_max2 rfl) ol_max (by rfl) T.b_max (by decide +kernel) (ja_cons (je_fld (in1 T.cl_Incoming T.na_Incoming_greatest) (je_var (pv 0))) (ja_cons (je_var (pv 4)) ja_nil)))) (jss_cons (js_if (jt_cmp op_eq od_eqF (je_ix hu (je_var (pv 1)) je_int (fun _ _ => rfl) (fun _ _ => rfl)) je_int (nomark _)) (jss_one (js_fld (in1 T.cl_Incoming T.na_Incoming_end) (je_var (pv 0)) (je_var (pv 4)))) jss_nil) (jss_cons (js_for PassesOwn.never rfl (jc_call (ok_gaps T) hr (by decide) (by rfl) (ja_cons (je_fld (in1 T.cl_Incoming T.na_Incoming_come) (je_var (pv 0))) (ja_cons (je_callB (call_max2 rfl) ol_max (by rfl) T.b_max (by decide +kernel) (ja_cons (je_var (pv 3)) (ja_cons (je_fld (in1 T.cl_Incoming T.na_Incoming_read_upto) (je_var (pv 0))) ja_nil))) (ja_cons (je_op op_sub od_I (je_var (pv 4)) je_int) ja_nil)))) (jg_tup rfl (jgs_cons (jg_name (i := 5) sc_Incoming_take.nd rfl (.inl rfl)) (jgs_cons (jg_name (i := 6) sc_Incoming_take.nd rfl (.inl rfl)) jgs_nil))) (jss_cons (js_fld (in1 T.cl_Incoming T.na_Incoming_parts) (je_var (pv 0)) (je_callB cr_sortKO ol_sortK (by rfl) T.b_sorted (by decide +kernel) (ja_cons (je_op op_addA (od_addA (mm := false)) (je_fld (in1 T.cl_Incoming T.na_Incoming_parts) (je_var (pv 0))) (je_lst false (ja_cons (je_tup (ja_cons (je_var (pv 5)) (ja_cons (je_callTy call_tuple_of ol_tuple (by rfl) T.b_tuple (by decide +kernel) (ja_cons (je_sl false (je_ix hu (je_var (pv 1)) je_int (fun _ _ => rfl) (fun _ _ => rfl)) (jo_some (je_op op_sub od_I (je_var (pv 5)) (je_var (pv 3)))) (jo_some (je_op op_sub od_I (je_op op_addA (od_addA (mm := false)) (je_var (pv 6)) je_int) (je_var (pv 3))))) ja_nil)) ja_nil))) ja_nil))) ja_nil))) (jss_one (js_fld (in1 T.cl_Incoming T.na_Incoming_come) (je_var (pv 0)) (jc_call (ok_put_range T) hr (by decide) (by rfl) (ja_cons (je_fld (in1 T.cl_Incoming T.na_Incoming_come) (je_var (pv 0))) (ja_cons (je_var (pv 5)) (ja_cons (je_var (pv 6)) ja_nil)))))))) (jss_one (js_ret je_non))))))))
/-! ### Incoming.ready -/
theorem sc_Incoming_ready : FnScope ["self"] ["self"] (defScope s_Incoming_ready) := ⟨rfl, rfl, rfl, by decide +kernel, rfl, by decide +kernel, by decide +kernel⟩
def ev_Incoming_ready (a : CA) : EvS := (evSeq (evIfS (evAnd (evB (ev2 opGt (evL opLen (evCons (ev1 (opFld [a.cIncoming] "come") (evVar 0)) evNil)) (evC (.int 0)))) (evB (ev2 (opEqF false) (ev2 opIx (ev2 opIx (ev1 (opFld [a.cIncoming] "come") (evVar 0)) (evC (.int 0))) (evC (.int 0))) (ev1 (opFld [a.cIncoming] "read_upto") (evVar 0))))) (evRet (ev2 opSub (ev2 (opAdd false) (ev2 opIx (ev2 opIx (ev1 (opFld [a.cIncoming] "come") (evVar 0)) (evC (.int 0))) (evC (.int 1))) (evC (.int 1))) (ev1 (opFld [a.cIncoming] "read_upto") (evVar 0)))) evNop) (evRet (evC (.int 0))))
def fn_Incoming_ready (a : CA) : List D → Store → Out D := fnOf 1 (ev_Incoming_ready a)
theorem ok_Incoming_ready (T : Txt P K mg a) : DMet P w K mg base 1 a.cIncoming "ready" 1 (fn_Incoming_ready a) := by
  obtain ⟨f, fd, M, F, b⟩ := T.df_Incoming_ready.ex
  refine ⟨f, fd, _, T.cl_Incoming, M, fun_ok (k := 0) F sc_Incoming_ready rfl fun cdv A outer s H E hr => ?_, b⟩
  have hu := hu_of hr
  unfold ev_Incoming_ready
  exact (jss_cons (js_if (jt_w (jw_and (jt_cmp op_gt od_B (je_callB call_lenA ol_len (by rfl) T.b_len (by decide +kernel) (ja_cons (je_fld (in1 T.cl_Incoming T.na_Incoming_come) (je_var (pv 0))) ja_nil)) je_int (nomark _)) (jw_and1 (jt_cmp op_eq od_eqF (je_ix hu (je_ix hu (je_fld (in1 T.cl_Incoming T.na_Incoming_come) (je_var (pv 0))) je_int (fun _ _ => rfl) (fun _ _ => rfl)) je_int (fun _ _ => rfl) (fun _ _ => rfl)) (je_fld (in1 T.cl_Incoming T.na_Incoming_read_upto) (je_var (pv 0))) (nomark _))))) (jss_one (js_ret (je_op op_sub od_I (je_op op_addA (od_addA (mm := false)) (je_ix hu (je_ix hu (je_fld (in1 T.cl_Incoming T.na_Incoming_come) (je_var (pv 0))) je_int (fun _ _ => rfl) (fun _ _ => rfl)) je_int (fun _ _ => rfl) (fun _ _ => rfl)) je_int) (je_fld (in1 T.cl_Incoming T.na_Incoming_read_upto) (je_var (pv 0)))))) jss_nil) (jss_one (js_ret je_int)))
/-! ### Incoming.read -/
theorem sc_Incoming_read : FnScope ["self", "most", "many", "found", "low", "octets", "some", "rest", "high"] ["self", "most"] (defScope s_Incoming_read) := ⟨rfl, rfl, rfl, by decide +kernel, rfl, by decide +kernel, by decide +kernel⟩
def ev_Incoming_read (a : CA) : EvS := (evSeq (evIfS (evB (ev2 opLt (evVar 1) (evC (.int 0)))) evNever evNop) (evSeq (evSet 2 (evL opMin (evCons (evVar 1) (evCons (evMeth a.cIncoming "ready" 1 (fn_Incoming_ready a) (evVar 0) evNil) evNil)))) (evSeq (evSet 3 (evL (opLst false) evNil)) (evSeq (evWhile (fun _ _ => 1000) (evB (ev2 opLt (evL opLen (evCons (evVar 3) evNil)) (evVar 2))) (evSeq (evAsg (gtTup [(gtName 4), (gtName 5)]) (ev2 opIx (ev1 (opFld [a.cIncoming] "parts") (evVar 0)) (evC (.int 0)))) (evSeq (evSet 6 (evSl false (evVar 5) none (some (ev2 opSub (evVar 2) (evL opLen (evCons (evVar 3) evNil)))))) (evSeq (evSet 3 (ev2 (opAdd false) (evVar 3) (evL (opList false) (evCons (evVar 6) evNil)))) (evSeq (evSet 7 (evIf (evB (ev2 opLt (evL opLen (evCons (evVar 6) evNil)) (evL opLen (evCons (evVar 5) evNil)))) (evL (opLst false) (evCons (evL opTup (evCons (ev2 (opAdd false) (evVar 4) (evL opLen (evCons (evVar 6) evNil))) (evCons (evSl false (evVar 5) (some (evL opLen (evCons (evVar 6) evNil))) none) evNil))) evNil)) (evL (opLst false) evNil))) (evFldS [a.cIncoming] "parts" (evVar 0) (ev2 (opAdd false) (evVar 7) (evSl false (ev1 (opFld [a.cIncoming] "parts") (evVar 0)) (some (evC (.int 1))) none)))))))) (evSeq (evFldA [a.cIncoming] "read_upto" (evVar 0) (evVar 2)) (evSeq (evFldS [a.cIncoming] "come" (evVar 0) (evLc false (ev1 (opFld [a.cIncoming] "come") (evVar 0)) [4, 8] (gtNames [4, 8]) (evB (ev2 opGe (evVar 8) (ev1 (opFld [a.cIncoming] "read_upto") (evVar 0)))) (evL opTup (evCons (evL opMax (evCons (evVar 4) (evCons (ev1 (opFld [a.cIncoming] "read_upto") (evVar 0)) evNil))) (evCons (evVar 8) evNil))))) (evRet (evVar 3))))))))
def fn_Incoming_read (a : CA) : List D → Store → Out D := fnOf 9 (ev_Incoming_read a)
theorem ok_Incoming_read (T : Txt P K mg a) : DMet P w K mg base 2 a.cIncoming "read" 2 (fn_Incoming_read a) := by
  obtain ⟨f, fd, M, F, b⟩ := T.df_Incoming_read.ex
  refine ⟨f, fd, _, T.cl_Incoming, M, fun_ok (k := 1) F sc_Incoming_read rfl fun cdv A outer s H E hr => ?_, b⟩
  have hu := hu_of hr
  unfold ev_Incoming_read
  exact (jss_cons (js_if (jt_cmp op_lt od_B (je_var (pv 1)) je_int (nomark _)) (jss_one js_never) jss_nil) (jss_cons (js_set (i := 2) sc_Incoming_read.nd rfl (.inl rfl) (je_callB (call_min2 rfl) ol_min (by rfl) T.b_min (by decide +kernel) (ja_cons (je_var (pv 1)) (ja_cons (jc_meth0 (ok_Incoming_ready T) hr (by decide) (je_var (pv 0))) ja_nil)))) (jss_cons (js_set (i := 3) sc_Incoming_read.nd rfl (.inl rfl) (je_lst false ja_nil)) (jss_cons (js_while (fun _ _ => 1000) PassesOwn.never (jt_cmp op_lt od_B (je_callB call_lenA ol_len (by rfl) T.b_len (by decide +kernel) (ja_cons (je_var (pv 3)) ja_nil)) (je_var (pv 2)) (nomark _)) (jss_cons (js_asg (je_ix hu (je_fld (in1 T.cl_Incoming T.na_Incoming_parts) (je_var (pv 0))) je_int (fun _ _ => rfl) (fun _ _ => rfl)) (jg_tup rfl (jgs_cons (jg_name (i := 4) sc_Incoming_read.nd rfl (.inl rfl)) (jgs_cons (jg_name (i := 5) sc_Incoming_read.nd rfl (.inl rfl)) jgs_nil)))) (jss_cons (js_set (i := 6) sc_Incoming_read.nd rfl (.inl rfl) (je_sl false (je_var (pv 5)) jo_none (jo_some (je_op op_sub od_I (je_var (pv 2)) (je_callB call_lenA ol_len (by rfl) T.b_len (by decide +kernel) (ja_cons (je_var (pv 3)) ja_nil)))))) (jss_cons (js_set (i := 3) sc_Incoming_read.nd rfl (.inl rfl) (je_op op_addA (od_addA (mm := false)) (je_var (pv 3)) (je_callTy call_list_of (ol_list (mm := false)) (by rfl) T.b_list (by decide +kernel) (ja_cons (je_var (pv 6)) ja_nil)))) (jss_cons (js_set (i := 7) sc_Incoming_read.nd rfl (.inl rfl) (je_if (jt_cmp op_lt od_B (je_callB call_lenA ol_len (by rfl) T.b_len (by decide +kernel) (ja_cons (je_var (pv 6)) ja_nil)) (je_callB call_lenA ol_len (by rfl) T.b_len (by decide +kernel) (ja_cons (je_var (pv 5)) ja_nil)) (nomark _)) (je_lst false (ja_cons (je_tup (ja_cons (je_op op_addA (od_addA (mm := false)) (je_var (pv 4)) (je_callB call_lenA ol_len (by rfl) T.b_len (by decide +kernel) (ja_cons (je_var (pv 6)) ja_nil))) (ja_cons (je_sl false (je_var (pv 5)) (jo_some (je_callB call_lenA ol_len (by rfl) T.b_len (by decide +kernel) (ja_cons (je_var (pv 6)) ja_nil))) jo_none) ja_nil))) ja_nil)) (je_lst false ja_nil))) (jss_one (js_fld (in1 T.cl_Incoming T.na_Incoming_parts) (je_var (pv 0)) (je_op op_addA (od_addA (mm := false)) (je_var (pv 7)) (je_sl false (je_fld (in1 T.cl_Incoming T.na_Incoming_parts) (je_var (pv 0))) (jo_some je_int) jo_none))))))))) (jss_cons (js_fldA (in1 T.cl_Incoming T.na_Incoming_read_upto) (je_var (pv 0)) (je_var (pv 2))) (jss_cons (js_fld (in1 T.cl_Incoming T.na_Incoming_come) (je_var (pv 0)) (je_lc false (own := [("low", 4), ("high", 8)]) (tgok_names [4, 8] (by decide)) rfl sc_Incoming_read.nd (je_fld (in1 T.cl_Incoming T.na_Incoming_come) (je_var (pv 0))) (blkOk_by (own := [("low", 4), ("high", 8)]) (N := ["self", "most", "many", "found", "low", "octets", "some", "rest", "high"]) (sc := defScope s_Incoming_read) (by decide +kernel)) (fun _ _ _ _ _ => pg_tup rfl (pgs_cons (pg_name (i := 4) sc_Incoming_read.nd rfl (.inl rfl)) (pgs_cons (pg_name (i := 8) sc_Incoming_read.nd rfl (.inl rfl)) pgs_nil))) (fun _ _ _ _ _ => jts_one (jt_cmp op_ge od_B (je_var (pv 8)) (je_fld (in1 T.cl_Incoming T.na_Incoming_read_upto) (je_var (pv 0))) (nomark _))) (fun _ _ _ _ _ => (je_tup (ja_cons (je_callB (call_max2 rfl) ol_max (by rfl) T.b_max (by decide +kernel) (ja_cons (je_var (pv 4)) (ja_cons (je_fld (in1 T.cl_Incoming T.na_Incoming_read_upto) (je_var (pv 0))) ja_nil))) (ja_cons (je_var (pv 8)) ja_nil)))))) (jss_one (js_ret (je_var (pv 3))))))))))
/-! ### Incoming.grown -/
theorem sc_Incoming_grown : FnScope ["self"] ["self"] (defScope s_Incoming_grown) := ⟨rfl, rfl, rfl, by decide +kernel, rfl, by decide +kernel, by decide +kernel⟩
def ev_Incoming_grown (a : CA) : EvS := (evExpr (evL (opCall 1 (fn_wall a)) (evCons (evC (.int 2)) evNil)))
def fn_Incoming_grown (a : CA) : List D → Store → Out D := fnOf 1 (ev_Incoming_grown a)
theorem ok_Incoming_grown (T : Txt P K mg a) : DMet P w K mg base 2 a.cIncoming "grown" 1 (fn_Incoming_grown a) := by
  obtain ⟨f, fd, M, F, b⟩ := T.df_Incoming_grown.ex
  refine ⟨f, fd, _, T.cl_Incoming, M, fun_ok (k := 1) F sc_Incoming_grown rfl fun cdv A outer s H E hr => ?_, b⟩
  have hu := hu_of hr
  unfold ev_Incoming_grown
  exact (jss_one (js_expr (jc_call (ok_wall T) hr (by decide) (by rfl) (ja_cons je_int ja_nil))))
/-! ### Incoming.let -/
theorem sc_Incoming_let : FnScope ["self", "upto"] ["self", "upto"] (defScope s_Incoming_let) := ⟨rfl, rfl, rfl, by decide +kernel, rfl, by decide +kernel, by decide +kernel⟩
def ev_Incoming_let (a : CA) : EvS := (evSeq (evIfS (evB (ev2 opLt (evVar 1) (ev1 (opFld [a.cIncoming] "upto") (evVar 0)))) evNever evNop) (evFldS [a.cIncoming] "upto" (evVar 0) (evVar 1)))
def fn_Incoming_let (a : CA) : List D → Store → Out D := fnOf 2 (ev_Incoming_let a)
theorem ok_Incoming_let (T : Txt P K mg a) : DMet P w K mg base 1 a.cIncoming "let" 2 (fn_Incoming_let a) := by
  obtain ⟨f, fd, M, F, b⟩ := T.df_Incoming_let.ex
  refine ⟨f, fd, _, T.cl_Incoming, M, fun_ok (k := 0) F sc_Incoming_let rfl fun cdv A outer s H E hr => ?_, b⟩
  have hu := hu_of hr
  unfold ev_Incoming_let
  exact (jss_cons (js_if (jt_cmp op_lt od_B (je_var (pv 1)) (je_fld (in1 T.cl_Incoming T.na_Incoming_upto) (je_var (pv 0))) (nomark _)) (jss_one js_never) jss_nil) (jss_one (js_fld (in1 T.cl_Incoming T.na_Incoming_upto) (je_var (pv 0)) (je_var (pv 1)))))
/-! ### Incoming.is_over -/
theorem sc_Incoming_is_over : FnScope ["self"] ["self"] (defScope s_Incoming_is_over) := ⟨rfl, rfl, rfl, by decide +kernel, rfl, by decide +kernel, by decide +kernel⟩
def ev_Incoming_is_over (a : CA) : EvS := (evRet (evAndV (ev2 (opIs true) (ev1 (opFld [a.cIncoming] "end") (evVar 0)) (evC .non)) (ev2 (opEqF false) (ev1 (opFld [a.cIncoming] "read_upto") (evVar 0)) (ev1 (opFld [a.cIncoming] "end") (evVar 0)))))
def fn_Incoming_is_over (a : CA) : List D → Store → Out D := fnOf 1 (ev_Incoming_is_over a)
theorem ok_Incoming_is_over (T : Txt P K mg a) : DMet P w K mg base 1 a.cIncoming "is_over" 1 (fn_Incoming_is_over a) := by
  obtain ⟨f, fd, M, F, b⟩ := T.df_Incoming_is_over.ex
  refine ⟨f, fd, _, T.cl_Incoming, M, fun_ok (k := 0) F sc_Incoming_is_over rfl fun cdv A outer s H E hr => ?_, b⟩
  have hu := hu_of hr
  unfold ev_Incoming_is_over
  exact (jss_one (js_ret (je_and (je_cmp op_isNotA od_is (je_fld (in1 T.cl_Incoming T.na_Incoming_end) (je_var (pv 0))) je_non (nomark _)) (je_one (je_cmp op_eq od_eqF (je_fld (in1 T.cl_Incoming T.na_Incoming_read_upto) (je_var (pv 0))) (je_fld (in1 T.cl_Incoming T.na_Incoming_end) (je_var (pv 0))) (nomark _))))))
/-! ### Incoming.is_whole -/
theorem sc_Incoming_is_whole : FnScope ["self"] ["self"] (defScope s_Incoming_is_whole) := ⟨rfl, rfl, rfl, by decide +kernel, rfl, by decide +kernel, by decide +kernel⟩
def ev_Incoming_is_whole (a : CA) : EvS := (evExpr (evL (opCall 1 (fn_wall a)) (evCons (evC (.int 3)) evNil)))
def fn_Incoming_is_whole (a : CA) : List D → Store → Out D := fnOf 1 (ev_Incoming_is_whole a)
theorem ok_Incoming_is_whole (T : Txt P K mg a) : DMet P w K mg base 2 a.cIncoming "is_whole" 1 (fn_Incoming_is_whole a) := by
  obtain ⟨f, fd, M, F, b⟩ := T.df_Incoming_is_whole.ex
  refine ⟨f, fd, _, T.cl_Incoming, M, fun_ok (k := 1) F sc_Incoming_is_whole rfl fun cdv A outer s H E hr => ?_, b⟩
  have hu := hu_of hr
  unfold ev_Incoming_is_whole
  exact (jss_one (js_expr (jc_call (ok_wall T) hr (by decide) (by rfl) (ja_cons je_int ja_nil))))
/-! ### Incoming.memory -/
theorem sc_Incoming_memory : FnScope ["self"] ["self"] (defScope s_Incoming_memory) := ⟨rfl, rfl, rfl, by decide +kernel, rfl, by decide +kernel, by decide +kernel⟩
def ev_Incoming_memory (a : CA) : EvS := (evExpr (evL (opCall 1 (fn_wall a)) (evCons (evC (.int 4)) evNil)))
def fn_Incoming_memory (a : CA) : List D → Store → Out D := fnOf 1 (ev_Incoming_memory a)
theorem ok_Incoming_memory (T : Txt P K mg a) : DMet P w K mg base 2 a.cIncoming "memory" 1 (fn_Incoming_memory a) := by
  obtain ⟨f, fd, M, F, b⟩ := T.df_Incoming_memory.ex
  refine ⟨f, fd, _, T.cl_Incoming, M, fun_ok (k := 1) F sc_Incoming_memory rfl fun cdv A outer s H E hr => ?_, b⟩
  have hu := hu_of hr
  unfold ev_Incoming_memory
  exact (jss_one (js_expr (jc_call (ok_wall T) hr (by decide) (by rfl) (ja_cons je_int ja_nil))))
/-! ### Outgoing.__init__ -/
theorem sc_Outgoing_init : FnScope ["self", "stream", "keep"] ["self", "stream", "keep"] (defScope s_Outgoing_init) := ⟨rfl, rfl, rfl, by decide +kernel, rfl, by decide +kernel, by decide +kernel⟩
def ev_Outgoing_init (a : CA) : EvS := (evSeq (evIfS (evOr (evNot (evB (evL opIsi (evCons (evVar 2) (evCons (evC (.ty "int")) evNil))))) (evOr (evB (evL opIsi (evCons (evVar 2) (evCons (evC (.ty "bool")) evNil)))) (evB (ev2 opLt (evVar 2) (evC (.int 1)))))) evNever evNop) (evSeq (evFldS [a.cOutgoing] "stream" (evVar 0) (evVar 1)) (evSeq (evFldS [a.cOutgoing] "keep" (evVar 0) (evVar 2)) (evSeq (evFldS [a.cOutgoing] "base" (evVar 0) (evC (.int 0))) (evSeq (evFldS [a.cOutgoing] "kept" (evVar 0) (evL (opLst false) evNil)) (evSeq (evFldS [a.cOutgoing] "taken" (evVar 0) (evC (.int 0))) (evSeq (evFldS [a.cOutgoing] "sent" (evVar 0) (evC (.int 0))) (evSeq (evFldS [a.cOutgoing] "got_ranges" (evVar 0) (evL (opLst false) evNil)) (evSeq (evFldS [a.cOutgoing] "lost_ranges" (evVar 0) (evL (opLst false) evNil)) (evSeq (evFldS [a.cOutgoing] "finished" (evVar 0) (evC (.bl false))) (evFldS [a.cOutgoing] "last" (evVar 0) (evC (.str "unsent")))))))))))))
def fn_Outgoing_init (a : CA) : List D → Store → Out D := fnOf 3 (ev_Outgoing_init a)
theorem ok_Outgoing_init (T : Txt P K mg a) : DMak P w K mg base 1 "Outgoing" a.cOutgoing 3 (fn_Outgoing_init a) := by
  obtain ⟨f, fd, M, F, b⟩ := T.df_Outgoing_init.ex
  refine ⟨f, fd, _, M, fun_ok (k := 0) F sc_Outgoing_init rfl fun cdv A outer s H E hr => ?_, T.mg_Outgoing, b⟩
  have hu := hu_of hr
  unfold ev_Outgoing_init
  exact (jss_cons (js_if (jt_w (jw_or (jt_not (jt_val (je_callB call_isiA ol_isi (by rfl) T.b_isinstance (by decide +kernel) (ja_cons (je_var (pv 2)) (ja_cons (je_gty (pe_bltn (by rfl) T.b_int (by decide +kernel) rfl)) ja_nil))))) (jw_or (jt_val (je_callB call_isiA ol_isi (by rfl) T.b_isinstance (by decide +kernel) (ja_cons (je_var (pv 2)) (ja_cons (je_gty (pe_bltn (by rfl) T.b_bool (by decide +kernel) rfl)) ja_nil)))) (jw_or1 (jt_cmp op_lt od_B (je_var (pv 2)) je_int (nomark _)))))) (jss_one js_never) jss_nil) (jss_cons (js_fld (in1 T.cl_Outgoing T.na_Outgoing_stream) (je_var (pv 0)) (je_var (pv 1))) (jss_cons (js_fld (in1 T.cl_Outgoing T.na_Outgoing_keep) (je_var (pv 0)) (je_var (pv 2))) (jss_cons (js_fld (in1 T.cl_Outgoing T.na_Outgoing_base) (je_var (pv 0)) je_int) (jss_cons (js_fld (in1 T.cl_Outgoing T.na_Outgoing_kept) (je_var (pv 0)) (je_lst false ja_nil)) (jss_cons (js_fld (in1 T.cl_Outgoing T.na_Outgoing_taken) (je_var (pv 0)) je_int) (jss_cons (js_fld (in1 T.cl_Outgoing T.na_Outgoing_sent) (je_var (pv 0)) je_int) (jss_cons (js_fld (in1 T.cl_Outgoing T.na_Outgoing_got_ranges) (je_var (pv 0)) (je_lst false ja_nil)) (jss_cons (js_fld (in1 T.cl_Outgoing T.na_Outgoing_lost_ranges) (je_var (pv 0)) (je_lst false ja_nil)) (jss_cons (js_fld (in1 T.cl_Outgoing T.na_Outgoing_finished) (je_var (pv 0)) je_bl) (jss_one (js_fld (in1 T.cl_Outgoing T.na_Outgoing_last) (je_var (pv 0)) je_str))))))))))))
/-! ### Outgoing.write -/
theorem sc_Outgoing_write : FnScope ["self", "octets", "many"] ["self", "octets"] (defScope s_Outgoing_write) := ⟨rfl, rfl, rfl, by decide +kernel, rfl, by decide +kernel, by decide +kernel⟩
def ev_Outgoing_write (a : CA) : EvS := (evSeq (evIfS (evB (ev1 (opFld [a.cOutgoing] "finished") (evVar 0))) evNever evNop) (evSeq (evSet 2 (evL opMin3 (evCons (evL opLen (evCons (evVar 1) evNil)) (evCons (ev2 opSub (ev2 (opAdd false) (ev1 (opFld [a.cOutgoing] "base") (evVar 0)) (ev1 (opFld [a.cOutgoing] "keep") (evVar 0))) (ev1 (opFld [a.cOutgoing] "taken") (evVar 0))) (evCons (ev2 opSub (evC (.int 16777215)) (ev1 (opFld [a.cOutgoing] "taken") (evVar 0))) evNil))))) (evSeq (evFldS [a.cOutgoing] "kept" (evVar 0) (ev2 (opAdd false) (ev1 (opFld [a.cOutgoing] "kept") (evVar 0)) (evL (opList false) (evCons (evSl false (evVar 1) none (some (evVar 2))) evNil)))) (evSeq (evFldA [a.cOutgoing] "taken" (evVar 0) (evVar 2)) (evRet (evVar 2))))))
def fn_Outgoing_write (a : CA) : List D → Store → Out D := fnOf 3 (ev_Outgoing_write a)
theorem ok_Outgoing_write (T : Txt P K mg a) : DMet P w K mg base 1 a.cOutgoing "write" 2 (fn_Outgoing_write a) := by
  obtain ⟨f, fd, M, F, b⟩ := T.df_Outgoing_write.ex
  refine ⟨f, fd, _, T.cl_Outgoing, M, fun_ok (k := 0) F sc_Outgoing_write rfl fun cdv A outer s H E hr => ?_, b⟩
  have hu := hu_of hr
  unfold ev_Outgoing_write
  exact (jss_cons (js_if (jt_val (je_fld (in1 T.cl_Outgoing T.na_Outgoing_finished) (je_var (pv 0)))) (jss_one js_never) jss_nil) (jss_cons (js_set (i := 2) sc_Outgoing_write.nd rfl (.inl rfl) (je_callB (call_min3Nu rfl) ol_min3 (by rfl) T.b_min (by decide +kernel) (ja_cons (je_callB call_lenA ol_len (by rfl) T.b_len (by decide +kernel) (ja_cons (je_var (pv 1)) ja_nil)) (ja_cons (je_op op_sub od_I (je_op op_addA (od_addA (mm := false)) (je_fld (in1 T.cl_Outgoing T.na_Outgoing_base) (je_var (pv 0))) (je_fld (in1 T.cl_Outgoing T.na_Outgoing_keep) (je_var (pv 0)))) (je_fld (in1 T.cl_Outgoing T.na_Outgoing_taken) (je_var (pv 0)))) (ja_cons (je_op op_sub od_I (je_gint (pe_glob (by rfl) T.g_FURTHEST.choose_spec ⟨_, rfl⟩)) (je_fld (in1 T.cl_Outgoing T.na_Outgoing_taken) (je_var (pv 0)))) ja_nil))))) (jss_cons (js_fld (in1 T.cl_Outgoing T.na_Outgoing_kept) (je_var (pv 0)) (je_op op_addA (od_addA (mm := false)) (je_fld (in1 T.cl_Outgoing T.na_Outgoing_kept) (je_var (pv 0))) (je_callTy call_list_of (ol_list (mm := false)) (by rfl) T.b_list (by decide +kernel) (ja_cons (je_sl false (je_var (pv 1)) jo_none (jo_some (je_var (pv 2)))) ja_nil)))) (jss_cons (js_fldA (in1 T.cl_Outgoing T.na_Outgoing_taken) (je_var (pv 0)) (je_var (pv 2))) (jss_one (js_ret (je_var (pv 2))))))))
/-! ### Outgoing.finish -/
theorem sc_Outgoing_finish : FnScope ["self"] ["self"] (defScope s_Outgoing_finish) := ⟨rfl, rfl, rfl, by decide +kernel, rfl, by decide +kernel, by decide +kernel⟩
def ev_Outgoing_finish (a : CA) : EvS := (evSeq (evIfS (evB (ev1 (opFld [a.cOutgoing] "finished") (evVar 0))) evNever evNop) (evFldS [a.cOutgoing] "finished" (evVar 0) (evC (.bl true))))
def fn_Outgoing_finish (a : CA) : List D → Store → Out D := fnOf 1 (ev_Outgoing_finish a)
theorem ok_Outgoing_finish (T : Txt P K mg a) : DMet P w K mg base 1 a.cOutgoing "finish" 1 (fn_Outgoing_finish a) := by
  obtain ⟨f, fd, M, F, b⟩ := T.df_Outgoing_finish.ex
  refine ⟨f, fd, _, T.cl_Outgoing, M, fun_ok (k := 0) F sc_Outgoing_finish rfl fun cdv A outer s H E hr => ?_, b⟩
  have hu := hu_of hr
  unfold ev_Outgoing_finish
  exact (jss_cons (js_if (jt_val (je_fld (in1 T.cl_Outgoing T.na_Outgoing_finished) (je_var (pv 0)))) (jss_one js_never) jss_nil) (jss_one (js_fld (in1 T.cl_Outgoing T.na_Outgoing_finished) (je_var (pv 0)) je_bl)))
/-! ### Outgoing.piece -/
theorem sc_Outgoing_piece : FnScope ["self", "low", "high", "is_last"] ["self", "low", "high"] (defScope s_Outgoing_piece) := ⟨rfl, rfl, rfl, by decide +kernel, rfl, by decide +kernel, by decide +kernel⟩
def ev_Outgoing_piece (a : CA) : EvS := (evSeq (evFldS [a.cOutgoing] "lost_ranges" (evVar 0) (evIf (evB (ev2 opGt (evVar 2) (evVar 1))) (evL (opCall 3 (fn_drop_range a)) (evCons (ev1 (opFld [a.cOutgoing] "lost_ranges") (evVar 0)) (evCons (evVar 1) (evCons (ev2 opSub (evVar 2) (evC (.int 1))) evNil)))) (ev1 (opFld [a.cOutgoing] "lost_ranges") (evVar 0)))) (evSeq (evFldS [a.cOutgoing] "sent" (evVar 0) (evL opMax (evCons (ev1 (opFld [a.cOutgoing] "sent") (evVar 0)) (evCons (evVar 2) evNil)))) (evSeq (evSet 3 (evAndV (ev1 (opFld [a.cOutgoing] "finished") (evVar 0)) (ev2 (opEqF false) (evVar 2) (ev1 (opFld [a.cOutgoing] "taken") (evVar 0))))) (evSeq (evIfS (evAnd (evB (evVar 3)) (evB (ev2 (opEqF true) (ev1 (opFld [a.cOutgoing] "last") (evVar 0)) (evC (.str "got"))))) (evFldS [a.cOutgoing] "last" (evVar 0) (evC (.str "flying"))) evNop) (evRet (evL opTup (evCons (evC (.str "data")) (evCons (ev1 (opFld [a.cOutgoing] "stream") (evVar 0)) (evCons (evVar 1) (evCons (evL opTuple (evCons (evSl false (ev1 (opFld [a.cOutgoing] "kept") (evVar 0)) (some (ev2 opSub (evVar 1) (ev1 (opFld [a.cOutgoing] "base") (evVar 0)))) (some (ev2 opSub (evVar 2) (ev1 (opFld [a.cOutgoing] "base") (evVar 0))))) evNil)) (evCons (evIf (evB (evVar 3)) (evC (.int 1)) (evC (.int 0))) evNil)))))))))))
def fn_Outgoing_piece (a : CA) : List D → Store → Out D := fnOf 4 (ev_Outgoing_piece a)
theorem ok_Outgoing_piece (T : Txt P K mg a) : DMet P w K mg base 2 a.cOutgoing "piece" 3 (fn_Outgoing_piece a) := by
  obtain ⟨f, fd, M, F, b⟩ := T.df_Outgoing_piece.ex
  refine ⟨f, fd, _, T.cl_Outgoing, M, fun_ok (k := 1) F sc_Outgoing_piece rfl fun cdv A outer s H E hr => ?_, b⟩
  have hu := hu_of hr
  unfold ev_Outgoing_piece
  exact (jss_cons (js_fld (in1 T.cl_Outgoing T.na_Outgoing_lost_ranges) (je_var (pv 0)) (je_if (jt_cmp op_gt od_B (je_var (pv 2)) (je_var (pv 1)) (nomark _)) (jc_call (ok_drop_range T) hr (by decide) (by rfl) (ja_cons (je_fld (in1 T.cl_Outgoing T.na_Outgoing_lost_ranges) (je_var (pv 0))) (ja_cons (je_var (pv 1)) (ja_cons (je_op op_sub od_I (je_var (pv 2)) je_int) ja_nil)))) (je_fld (in1 T.cl_Outgoing T.na_Outgoing_lost_ranges) (je_var (pv 0))))) (jss_cons (js_fld (in1 T.cl_Outgoing T.na_Outgoing_sent) (je_var (pv 0)) (je_callB (call_max2 rfl) ol_max (by rfl) T.b_max (by decide +kernel) (ja_cons (je_fld (in1 T.cl_Outgoing T.na_Outgoing_sent) (je_var (pv 0))) (ja_cons (je_var (pv 2)) ja_nil)))) (jss_cons (js_set (i := 3) sc_Outgoing_piece.nd rfl (.inl rfl) (je_and (je_fld (in1 T.cl_Outgoing T.na_Outgoing_finished) (je_var (pv 0))) (je_one (je_cmp op_eq od_eqF (je_var (pv 2)) (je_fld (in1 T.cl_Outgoing T.na_Outgoing_taken) (je_var (pv 0))) (nomark _))))) (jss_cons (js_if (jt_w (jw_and (jt_val (je_var (pv 3))) (jw_and1 (jt_cmp op_ne od_neF (je_fld (in1 T.cl_Outgoing T.na_Outgoing_last) (je_var (pv 0))) je_str (nomark _))))) (jss_one (js_fld (in1 T.cl_Outgoing T.na_Outgoing_last) (je_var (pv 0)) je_str)) jss_nil) (jss_one (js_ret (je_tup (ja_cons je_str (ja_cons (je_fld (in1 T.cl_Outgoing T.na_Outgoing_stream) (je_var (pv 0))) (ja_cons (je_var (pv 1)) (ja_cons (je_callTy call_tuple_of ol_tuple (by rfl) T.b_tuple (by decide +kernel) (ja_cons (je_sl false (je_fld (in1 T.cl_Outgoing T.na_Outgoing_kept) (je_var (pv 0))) (jo_some (je_op op_sub od_I (je_var (pv 1)) (je_fld (in1 T.cl_Outgoing T.na_Outgoing_base) (je_var (pv 0))))) (jo_some (je_op op_sub od_I (je_var (pv 2)) (je_fld (in1 T.cl_Outgoing T.na_Outgoing_base) (je_var (pv 0)))))) ja_nil)) (ja_cons (je_if (jt_val (je_var (pv 3))) je_int je_int) ja_nil))))))))))))
/-! ### Outgoing.next -/
theorem sc_Outgoing_next : FnScope ["self", "most", "upto", "low", "high"] ["self", "most", "upto"] (defScope s_Outgoing_next) := ⟨rfl, rfl, rfl, by decide +kernel, rfl, by decide +kernel, by decide +kernel⟩
def ev_Outgoing_next (a : CA) : EvS := (evSeq (evIfS (evB (ev2 opLt (evVar 1) (evC (.int 0)))) (evRet (evC .non)) evNop) (evSeq (evIfS (evAnd (evB (ev2 opGt (evL opLen (evCons (ev1 (opFld [a.cOutgoing] "lost_ranges") (evVar 0)) evNil)) (evC (.int 0)))) (evB (ev2 opGt (evVar 1) (evC (.int 0))))) (evSeq (evAsg (gtTup [(gtName 3), (gtName 4)]) (ev2 opIx (ev1 (opFld [a.cOutgoing] "lost_ranges") (evVar 0)) (evC (.int 0)))) (evRet (evMeth a.cOutgoing "piece" 3 (fn_Outgoing_piece a) (evVar 0) (evCons (evVar 3) (evCons (evL opMin (evCons (ev2 (opAdd false) (evVar 4) (evC (.int 1))) (evCons (ev2 (opAdd false) (evVar 3) (evVar 1)) evNil))) evNil))))) evNop) (evSeq (evSet 4 (evL opMin3 (evCons (ev1 (opFld [a.cOutgoing] "taken") (evVar 0)) (evCons (evVar 2) (evCons (ev2 (opAdd false) (ev1 (opFld [a.cOutgoing] "sent") (evVar 0)) (evVar 1)) evNil))))) (evSeq (evIfS (evB (ev2 opGt (evVar 4) (ev1 (opFld [a.cOutgoing] "sent") (evVar 0)))) (evRet (evMeth a.cOutgoing "piece" 3 (fn_Outgoing_piece a) (evVar 0) (evCons (ev1 (opFld [a.cOutgoing] "sent") (evVar 0)) (evCons (evVar 4) evNil)))) evNop) (evSeq (evIfS (evAnd (evB (ev1 (opFld [a.cOutgoing] "finished") (evVar 0))) (evAnd (evB (ev2 (opIn false) (ev1 (opFld [a.cOutgoing] "last") (evVar 0)) (evL opTup (evCons (evC (.str "unsent")) (evCons (evC (.str "lost")) evNil))))) (evB (ev2 (opEqF false) (ev1 (opFld [a.cOutgoing] "sent") (evVar 0)) (ev1 (opFld [a.cOutgoing] "taken") (evVar 0)))))) (evRet (evMeth a.cOutgoing "piece" 3 (fn_Outgoing_piece a) (evVar 0) (evCons (ev1 (opFld [a.cOutgoing] "taken") (evVar 0)) (evCons (ev1 (opFld [a.cOutgoing] "taken") (evVar 0)) evNil)))) evNop) (evRet (evC .non)))))))
def fn_Outgoing_next (a : CA) : List D → Store → Out D := fnOf 5 (ev_Outgoing_next a)
theorem ok_Outgoing_next (T : Txt P K mg a) : DMet P w K mg base 3 a.cOutgoing "next" 3 (fn_Outgoing_next a) := by
  obtain ⟨f, fd, M, F, b⟩ := T.df_Outgoing_next.ex
  refine ⟨f, fd, _, T.cl_Outgoing, M, fun_ok (k := 2) F sc_Outgoing_next rfl fun cdv A outer s H E hr => ?_, b⟩
  have hu := hu_of hr
  unfold ev_Outgoing_next
  exact (jss_cons (js_if (jt_cmp op_lt od_B (je_var (pv 1)) je_int (nomark _)) (jss_one (js_ret je_non)) jss_nil) (jss_cons (js_if (jt_w (jw_and (jt_cmp op_gt od_B (je_callB call_lenA ol_len (by rfl) T.b_len (by decide +kernel) (ja_cons (je_fld (in1 T.cl_Outgoing T.na_Outgoing_lost_ranges) (je_var (pv 0))) ja_nil)) je_int (nomark _)) (jw_and1 (jt_cmp op_gt od_B (je_var (pv 1)) je_int (nomark _))))) (jss_cons (js_asg (je_ix hu (je_fld (in1 T.cl_Outgoing T.na_Outgoing_lost_ranges) (je_var (pv 0))) je_int (fun _ _ => rfl) (fun _ _ => rfl)) (jg_tup rfl (jgs_cons (jg_name (i := 3) sc_Outgoing_next.nd rfl (.inl rfl)) (jgs_cons (jg_name (i := 4) sc_Outgoing_next.nd rfl (.inl rfl)) jgs_nil)))) (jss_one (js_ret (jc_meth (ok_Outgoing_piece T) hr (by decide) (je_var (pv 0)) (ja_cons (je_var (pv 3)) (ja_cons (je_callB (call_min2 rfl) ol_min (by rfl) T.b_min (by decide +kernel) (ja_cons (je_op op_addA (od_addA (mm := false)) (je_var (pv 4)) je_int) (ja_cons (je_op op_addA (od_addA (mm := false)) (je_var (pv 3)) (je_var (pv 1))) ja_nil))) ja_nil)))))) jss_nil) (jss_cons (js_set (i := 4) sc_Outgoing_next.nd rfl (.inl rfl) (je_callB (call_min3Nu rfl) ol_min3 (by rfl) T.b_min (by decide +kernel) (ja_cons (je_fld (in1 T.cl_Outgoing T.na_Outgoing_taken) (je_var (pv 0))) (ja_cons (je_var (pv 2)) (ja_cons (je_op op_addA (od_addA (mm := false)) (je_fld (in1 T.cl_Outgoing T.na_Outgoing_sent) (je_var (pv 0))) (je_var (pv 1))) ja_nil))))) (jss_cons (js_if (jt_cmp op_gt od_B (je_var (pv 4)) (je_fld (in1 T.cl_Outgoing T.na_Outgoing_sent) (je_var (pv 0))) (nomark _)) (jss_one (js_ret (jc_meth (ok_Outgoing_piece T) hr (by decide) (je_var (pv 0)) (ja_cons (je_fld (in1 T.cl_Outgoing T.na_Outgoing_sent) (je_var (pv 0))) (ja_cons (je_var (pv 4)) ja_nil))))) jss_nil) (jss_cons (js_if (jt_w (jw_and (jt_val (je_fld (in1 T.cl_Outgoing T.na_Outgoing_finished) (je_var (pv 0)))) (jw_and (jt_cmp op_in_seq od_in (je_fld (in1 T.cl_Outgoing T.na_Outgoing_last) (je_var (pv 0))) (je_tup (ja_cons je_str (ja_cons je_str ja_nil))) (by rfl)) (jw_and1 (jt_cmp op_eq od_eqF (je_fld (in1 T.cl_Outgoing T.na_Outgoing_sent) (je_var (pv 0))) (je_fld (in1 T.cl_Outgoing T.na_Outgoing_taken) (je_var (pv 0))) (nomark _)))))) (jss_one (js_ret (jc_meth (ok_Outgoing_piece T) hr (by decide) (je_var (pv 0)) (ja_cons (je_fld (in1 T.cl_Outgoing T.na_Outgoing_taken) (je_var (pv 0))) (ja_cons (je_fld (in1 T.cl_Outgoing T.na_Outgoing_taken) (je_var (pv 0))) ja_nil))))) jss_nil) (jss_one (js_ret je_non)))))))
/-! ### Outgoing.got -/
theorem sc_Outgoing_got : FnScope ["self", "piece", "low", "high", "here"] ["self", "piece"] (defScope s_Outgoing_got) := ⟨rfl, rfl, rfl, by decide +kernel, rfl, by decide +kernel, by decide +kernel⟩
def ev_Outgoing_got (a : CA) : EvS := (evSeq (evPar 2 3 (evCons (ev2 opIx (evVar 1) (evC (.int 2))) (evCons (ev2 opSub (ev2 (opAdd false) (ev2 opIx (evVar 1) (evC (.int 2))) (evL opLen (evCons (ev2 opIx (evVar 1) (evC (.int 3))) evNil))) (evC (.int 1))) evNil))) (evSeq (evIfS (evB (ev2 opGe (evVar 3) (evVar 2))) (evSeq (evFldS [a.cOutgoing] "lost_ranges" (evVar 0) (evL (opCall 3 (fn_drop_range a)) (evCons (ev1 (opFld [a.cOutgoing] "lost_ranges") (evVar 0)) (evCons (evVar 2) (evCons (evVar 3) evNil))))) (evIfS (evB (ev2 opGe (evVar 3) (ev1 (opFld [a.cOutgoing] "base") (evVar 0)))) (evFldS [a.cOutgoing] "got_ranges" (evVar 0) (evL (opCall 3 (fn_put_range a)) (evCons (ev1 (opFld [a.cOutgoing] "got_ranges") (evVar 0)) (evCons (evL opMax (evCons (evVar 2) (evCons (ev1 (opFld [a.cOutgoing] "base") (evVar 0)) evNil))) (evCons (evVar 3) evNil))))) evNop)) evNop) (evSeq (evIfS (evB (ev2 (opEqF false) (ev2 opIx (evVar 1) (evC (.int 4))) (evC (.int 1)))) (evFldS [a.cOutgoing] "last" (evVar 0) (evC (.str "got"))) evNop) (evIfS (evAnd (evB (ev2 opGt (evL opLen (evCons (ev1 (opFld [a.cOutgoing] "got_ranges") (evVar 0)) evNil)) (evC (.int 0)))) (evB (ev2 (opEqF false) (ev2 opIx (ev2 opIx (ev1 (opFld [a.cOutgoing] "got_ranges") (evVar 0)) (evC (.int 0))) (evC (.int 0))) (ev1 (opFld [a.cOutgoing] "base") (evVar 0))))) (evSeq (evSet 4 (ev2 (opAdd false) (ev2 opIx (ev2 opIx (ev1 (opFld [a.cOutgoing] "got_ranges") (evVar 0)) (evC (.int 0))) (evC (.int 1))) (evC (.int 1)))) (evSeq (evFldS [a.cOutgoing] "kept" (evVar 0) (evSl false (ev1 (opFld [a.cOutgoing] "kept") (evVar 0)) (some (ev2 opSub (evVar 4) (ev1 (opFld [a.cOutgoing] "base") (evVar 0)))) none)) (evSeq (evFldS [a.cOutgoing] "base" (evVar 0) (evVar 4)) (evFldS [a.cOutgoing] "got_ranges" (evVar 0) (evSl false (ev1 (opFld [a.cOutgoing] "got_ranges") (evVar 0)) (some (evC (.int 1))) none))))) evNop))))
def fn_Outgoing_got (a : CA) : List D → Store → Out D := fnOf 5 (ev_Outgoing_got a)
theorem ok_Outgoing_got (T : Txt P K mg a) : DMet P w K mg base 2 a.cOutgoing "got" 2 (fn_Outgoing_got a) := by
  obtain ⟨f, fd, M, F, b⟩ := T.df_Outgoing_got.ex
  refine ⟨f, fd, _, T.cl_Outgoing, M, fun_ok (k := 1) F sc_Outgoing_got rfl fun cdv A outer s H E hr => ?_, b⟩
  have hu := hu_of hr
  unfold ev_Outgoing_got
  exact (jss_cons (js_par (i := 2) (j := 3) rfl sc_Outgoing_got.nd rfl rfl (by decide) rfl rfl (ja_cons (je_ix hu (je_var (pv 1)) je_int (fun _ _ => rfl) (fun _ _ => rfl)) (ja_cons (je_op op_sub od_I (je_op op_addA (od_addA (mm := false)) (je_ix hu (je_var (pv 1)) je_int (fun _ _ => rfl) (fun _ _ => rfl)) (je_callB call_lenA ol_len (by rfl) T.b_len (by decide +kernel) (ja_cons (je_ix hu (je_var (pv 1)) je_int (fun _ _ => rfl) (fun _ _ => rfl)) ja_nil))) je_int) ja_nil)) (by rfl)) (jss_cons (js_if (jt_cmp op_ge od_B (je_var (pv 3)) (je_var (pv 2)) (nomark _)) (jss_cons (js_fld (in1 T.cl_Outgoing T.na_Outgoing_lost_ranges) (je_var (pv 0)) (jc_call (ok_drop_range T) hr (by decide) (by rfl) (ja_cons (je_fld (in1 T.cl_Outgoing T.na_Outgoing_lost_ranges) (je_var (pv 0))) (ja_cons (je_var (pv 2)) (ja_cons (je_var (pv 3)) ja_nil))))) (jss_one (js_if (jt_cmp op_ge od_B (je_var (pv 3)) (je_fld (in1 T.cl_Outgoing T.na_Outgoing_base) (je_var (pv 0))) (nomark _)) (jss_one (js_fld (in1 T.cl_Outgoing T.na_Outgoing_got_ranges) (je_var (pv 0)) (jc_call (ok_put_range T) hr (by decide) (by rfl) (ja_cons (je_fld (in1 T.cl_Outgoing T.na_Outgoing_got_ranges) (je_var (pv 0))) (ja_cons (je_callB (call_max2 rfl) ol_max (by rfl) T.b_max (by decide +kernel) (ja_cons (je_var (pv 2)) (ja_cons (je_fld (in1 T.cl_Outgoing T.na_Outgoing_base) (je_var (pv 0))) ja_nil))) (ja_cons (je_var (pv 3)) ja_nil)))))) jss_nil))) jss_nil) (jss_cons (js_if (jt_cmp op_eq od_eqF (je_ix hu (je_var (pv 1)) je_int (fun _ _ => rfl) (fun _ _ => rfl)) je_int (nomark _)) (jss_one (js_fld (in1 T.cl_Outgoing T.na_Outgoing_last) (je_var (pv 0)) je_str)) jss_nil) (jss_one (js_if (jt_w (jw_and (jt_cmp op_gt od_B (je_callB call_lenA ol_len (by rfl) T.b_len (by decide +kernel) (ja_cons (je_fld (in1 T.cl_Outgoing T.na_Outgoing_got_ranges) (je_var (pv 0))) ja_nil)) je_int (nomark _)) (jw_and1 (jt_cmp op_eq od_eqF (je_ix hu (je_ix hu (je_fld (in1 T.cl_Outgoing T.na_Outgoing_got_ranges) (je_var (pv 0))) je_int (fun _ _ => rfl) (fun _ _ => rfl)) je_int (fun _ _ => rfl) (fun _ _ => rfl)) (je_fld (in1 T.cl_Outgoing T.na_Outgoing_base) (je_var (pv 0))) (nomark _))))) (jss_cons (js_set (i := 4) sc_Outgoing_got.nd rfl (.inl rfl) (je_op op_addA (od_addA (mm := false)) (je_ix hu (je_ix hu (je_fld (in1 T.cl_Outgoing T.na_Outgoing_got_ranges) (je_var (pv 0))) je_int (fun _ _ => rfl) (fun _ _ => rfl)) je_int (fun _ _ => rfl) (fun _ _ => rfl)) je_int)) (jss_cons (js_fld (in1 T.cl_Outgoing T.na_Outgoing_kept) (je_var (pv 0)) (je_sl false (je_fld (in1 T.cl_Outgoing T.na_Outgoing_kept) (je_var (pv 0))) (jo_some (je_op op_sub od_I (je_var (pv 4)) (je_fld (in1 T.cl_Outgoing T.na_Outgoing_base) (je_var (pv 0))))) jo_none)) (jss_cons (js_fld (in1 T.cl_Outgoing T.na_Outgoing_base) (je_var (pv 0)) (je_var (pv 4))) (jss_one (js_fld (in1 T.cl_Outgoing T.na_Outgoing_got_ranges) (je_var (pv 0)) (je_sl false (je_fld (in1 T.cl_Outgoing T.na_Outgoing_got_ranges) (je_var (pv 0))) (jo_some je_int) jo_none)))))) jss_nil)))))
/-! ### Outgoing.lost -/
theorem sc_Outgoing_lost : FnScope ["self", "piece", "low", "high", "due", "one", "other"] ["self", "piece"] (defScope s_Outgoing_lost) := ⟨rfl, rfl, rfl, by decide +kernel, rfl, by decide +kernel, by decide +kernel⟩
def ev_Outgoing_lost (a : CA) : EvS := (evSeq (evPar 2 3 (evCons (evL opMax (evCons (ev2 opIx (evVar 1) (evC (.int 2))) (evCons (ev1 (opFld [a.cOutgoing] "base") (evVar 0)) evNil))) (evCons (ev2 opSub (ev2 (opAdd false) (ev2 opIx (evVar 1) (evC (.int 2))) (evL opLen (evCons (ev2 opIx (evVar 1) (evC (.int 3))) evNil))) (evC (.int 1))) evNil))) (evSeq (evSet 4 (evIf (evB (ev2 opGe (evVar 3) (evVar 2))) (evL (opCall 2 (fn_drop_all a)) (evCons (evL (opLst false) (evCons (evL opTup (evCons (evVar 2) (evCons (evVar 3) evNil))) evNil)) (evCons (ev1 (opFld [a.cOutgoing] "got_ranges") (evVar 0)) evNil))) (evL (opLst false) evNil))) (evSeq (evFor (evVar 4) (gtTup [(gtName 5), (gtName 6)]) (evFldS [a.cOutgoing] "lost_ranges" (evVar 0) (evL (opCall 3 (fn_put_range a)) (evCons (ev1 (opFld [a.cOutgoing] "lost_ranges") (evVar 0)) (evCons (evVar 5) (evCons (evVar 6) evNil)))))) (evSeq (evIfS (evAnd (evB (ev2 (opEqF false) (ev2 opIx (evVar 1) (evC (.int 4))) (evC (.int 1)))) (evB (ev2 (opEqF false) (ev1 (opFld [a.cOutgoing] "last") (evVar 0)) (evC (.str "flying"))))) (evSeq (evFldS [a.cOutgoing] "last" (evVar 0) (evC (.str "lost"))) (evRet (evC (.bl true)))) evNop) (evRet (ev2 opGt (evL opLen (evCons (evVar 4) evNil)) (evC (.int 0))))))))
def fn_Outgoing_lost (a : CA) : List D → Store → Out D := fnOf 7 (ev_Outgoing_lost a)
theorem ok_Outgoing_lost (T : Txt P K mg a) : DMet P w K mg base 3 a.cOutgoing "lost" 2 (fn_Outgoing_lost a) := by
  obtain ⟨f, fd, M, F, b⟩ := T.df_Outgoing_lost.ex
  refine ⟨f, fd, _, T.cl_Outgoing, M, fun_ok (k := 2) F sc_Outgoing_lost rfl fun cdv A outer s H E hr => ?_, b⟩
  have hu := hu_of hr
  unfold ev_Outgoing_lost
  exact (jss_cons (js_par (i := 2) (j := 3) rfl sc_Outgoing_lost.nd rfl rfl (by decide) rfl rfl (ja_cons (je_callB (call_max2 rfl) ol_max (by rfl) T.b_max (by decide +kernel) (ja_cons (je_ix hu (je_var (pv 1)) je_int (fun _ _ => rfl) (fun _ _ => rfl)) (ja_cons (je_fld (in1 T.cl_Outgoing T.na_Outgoing_base) (je_var (pv 0))) ja_nil))) (ja_cons (je_op op_sub od_I (je_op op_addA (od_addA (mm := false)) (je_ix hu (je_var (pv 1)) je_int (fun _ _ => rfl) (fun _ _ => rfl)) (je_callB call_lenA ol_len (by rfl) T.b_len (by decide +kernel) (ja_cons (je_ix hu (je_var (pv 1)) je_int (fun _ _ => rfl) (fun _ _ => rfl)) ja_nil))) je_int) ja_nil)) (by rfl)) (jss_cons (js_set (i := 4) sc_Outgoing_lost.nd rfl (.inl rfl) (je_if (jt_cmp op_ge od_B (je_var (pv 3)) (je_var (pv 2)) (nomark _)) (jc_call (ok_drop_all T) hr (by decide) (by rfl) (ja_cons (je_lst false (ja_cons (je_tup (ja_cons (je_var (pv 2)) (ja_cons (je_var (pv 3)) ja_nil))) ja_nil)) (ja_cons (je_fld (in1 T.cl_Outgoing T.na_Outgoing_got_ranges) (je_var (pv 0))) ja_nil))) (je_lst false ja_nil))) (jss_cons (js_for PassesOwn.never rfl (je_var (pv 4)) (jg_tup rfl (jgs_cons (jg_name (i := 5) sc_Outgoing_lost.nd rfl (.inl rfl)) (jgs_cons (jg_name (i := 6) sc_Outgoing_lost.nd rfl (.inl rfl)) jgs_nil))) (jss_one (js_fld (in1 T.cl_Outgoing T.na_Outgoing_lost_ranges) (je_var (pv 0)) (jc_call (ok_put_range T) hr (by decide) (by rfl) (ja_cons (je_fld (in1 T.cl_Outgoing T.na_Outgoing_lost_ranges) (je_var (pv 0))) (ja_cons (je_var (pv 5)) (ja_cons (je_var (pv 6)) ja_nil))))))) (jss_cons (js_if (jt_w (jw_and (jt_cmp op_eq od_eqF (je_ix hu (je_var (pv 1)) je_int (fun _ _ => rfl) (fun _ _ => rfl)) je_int (nomark _)) (jw_and1 (jt_cmp op_eq od_eqF (je_fld (in1 T.cl_Outgoing T.na_Outgoing_last) (je_var (pv 0))) je_str (nomark _))))) (jss_cons (js_fld (in1 T.cl_Outgoing T.na_Outgoing_last) (je_var (pv 0)) je_str) (jss_one (js_ret je_bl))) jss_nil) (jss_one (js_ret (je_cmp op_gt od_B (je_callB call_lenA ol_len (by rfl) T.b_len (by decide +kernel) (ja_cons (je_var (pv 4)) ja_nil)) je_int (nomark _))))))))
/-! ### Outgoing.is_done -/
theorem sc_Outgoing_is_done : FnScope ["self"] ["self"] (defScope s_Outgoing_is_done) := ⟨rfl, rfl, rfl, by decide +kernel, rfl, by decide +kernel, by decide +kernel⟩
def ev_Outgoing_is_done (a : CA) : EvS := (evRet (evAndV (ev1 (opFld [a.cOutgoing] "finished") (evVar 0)) (evAndV (ev2 (opEqF false) (ev1 (opFld [a.cOutgoing] "last") (evVar 0)) (evC (.str "got"))) (ev2 (opEqF false) (ev1 (opFld [a.cOutgoing] "base") (evVar 0)) (ev1 (opFld [a.cOutgoing] "taken") (evVar 0))))))
def fn_Outgoing_is_done (a : CA) : List D → Store → Out D := fnOf 1 (ev_Outgoing_is_done a)
theorem ok_Outgoing_is_done (T : Txt P K mg a) : DMet P w K mg base 1 a.cOutgoing "is_done" 1 (fn_Outgoing_is_done a) := by
  obtain ⟨f, fd, M, F, b⟩ := T.df_Outgoing_is_done.ex
  refine ⟨f, fd, _, T.cl_Outgoing, M, fun_ok (k := 0) F sc_Outgoing_is_done rfl fun cdv A outer s H E hr => ?_, b⟩
  have hu := hu_of hr
  unfold ev_Outgoing_is_done
  exact (jss_one (js_ret (je_and (je_fld (in1 T.cl_Outgoing T.na_Outgoing_finished) (je_var (pv 0))) (je_and (je_cmp op_eq od_eqF (je_fld (in1 T.cl_Outgoing T.na_Outgoing_last) (je_var (pv 0))) je_str (nomark _)) (je_one (je_cmp op_eq od_eqF (je_fld (in1 T.cl_Outgoing T.na_Outgoing_base) (je_var (pv 0))) (je_fld (in1 T.cl_Outgoing T.na_Outgoing_taken) (je_var (pv 0))) (nomark _)))))))
/-! ### Outgoing.is_due -/
theorem sc_Outgoing_is_due : FnScope ["self", "upto"] ["self", "upto"] (defScope s_Outgoing_is_due) := ⟨rfl, rfl, rfl, by decide +kernel, rfl, by decide +kernel, by decide +kernel⟩
def ev_Outgoing_is_due (a : CA) : EvS := (evSeq (evIfS (evOr (evB (ev2 opGt (evL opLen (evCons (ev1 (opFld [a.cOutgoing] "lost_ranges") (evVar 0)) evNil)) (evC (.int 0)))) (evB (ev2 opGt (evL opMin (evCons (ev1 (opFld [a.cOutgoing] "taken") (evVar 0)) (evCons (evVar 1) evNil))) (ev1 (opFld [a.cOutgoing] "sent") (evVar 0))))) (evRet (evC (.bl true))) evNop) (evRet (evAndV (ev1 (opFld [a.cOutgoing] "finished") (evVar 0)) (evAndV (ev2 (opIn false) (ev1 (opFld [a.cOutgoing] "last") (evVar 0)) (evL opTup (evCons (evC (.str "unsent")) (evCons (evC (.str "lost")) evNil)))) (ev2 (opEqF false) (ev1 (opFld [a.cOutgoing] "sent") (evVar 0)) (ev1 (opFld [a.cOutgoing] "taken") (evVar 0)))))))
def fn_Outgoing_is_due (a : CA) : List D → Store → Out D := fnOf 2 (ev_Outgoing_is_due a)
theorem ok_Outgoing_is_due (T : Txt P K mg a) : DMet P w K mg base 1 a.cOutgoing "is_due" 2 (fn_Outgoing_is_due a) := by
  obtain ⟨f, fd, M, F, b⟩ := T.df_Outgoing_is_due.ex
  refine ⟨f, fd, _, T.cl_Outgoing, M, fun_ok (k := 0) F sc_Outgoing_is_due rfl fun cdv A outer s H E hr => ?_, b⟩
  have hu := hu_of hr
  unfold ev_Outgoing_is_due
  exact (jss_cons (js_if (jt_w (jw_or (jt_cmp op_gt od_B (je_callB call_lenA ol_len (by rfl) T.b_len (by decide +kernel) (ja_cons (je_fld (in1 T.cl_Outgoing T.na_Outgoing_lost_ranges) (je_var (pv 0))) ja_nil)) je_int (nomark _)) (jw_or1 (jt_cmp op_gt od_B (je_callB (call_min2 rfl) ol_min (by rfl) T.b_min (by decide +kernel) (ja_cons (je_fld (in1 T.cl_Outgoing T.na_Outgoing_taken) (je_var (pv 0))) (ja_cons (je_var (pv 1)) ja_nil))) (je_fld (in1 T.cl_Outgoing T.na_Outgoing_sent) (je_var (pv 0))) (nomark _))))) (jss_one (js_ret je_bl)) jss_nil) (jss_one (js_ret (je_and (je_fld (in1 T.cl_Outgoing T.na_Outgoing_finished) (je_var (pv 0))) (je_and (je_cmp op_in_seq od_in (je_fld (in1 T.cl_Outgoing T.na_Outgoing_last) (je_var (pv 0))) (je_tup (ja_cons je_str (ja_cons je_str ja_nil))) (by rfl)) (je_one (je_cmp op_eq od_eqF (je_fld (in1 T.cl_Outgoing T.na_Outgoing_sent) (je_var (pv 0))) (je_fld (in1 T.cl_Outgoing T.na_Outgoing_taken) (je_var (pv 0))) (nomark _))))))))
/-! ### Outgoing.memory -/
theorem sc_Outgoing_memory : FnScope ["self"] ["self"] (defScope s_Outgoing_memory) := ⟨rfl, rfl, rfl, by decide +kernel, rfl, by decide +kernel, by decide +kernel⟩
def ev_Outgoing_memory (a : CA) : EvS := (evExpr (evL (opCall 1 (fn_wall a)) (evCons (evC (.int 5)) evNil)))
def fn_Outgoing_memory (a : CA) : List D → Store → Out D := fnOf 1 (ev_Outgoing_memory a)
theorem ok_Outgoing_memory (T : Txt P K mg a) : DMet P w K mg base 2 a.cOutgoing "memory" 1 (fn_Outgoing_memory a) := by
  obtain ⟨f, fd, M, F, b⟩ := T.df_Outgoing_memory.ex
  refine ⟨f, fd, _, T.cl_Outgoing, M, fun_ok (k := 1) F sc_Outgoing_memory rfl fun cdv A outer s H E hr => ?_, b⟩
  have hu := hu_of hr
  unfold ev_Outgoing_memory
  exact (jss_one (js_expr (jc_call (ok_wall T) hr (by decide) (by rfl) (ja_cons je_int ja_nil))))
/-! ### _law_draws -/
theorem sc_law_draws : FnScope ["script"] ["script"] (defScope s_law_draws) := ⟨rfl, rfl, rfl, by decide +kernel, rfl, by decide +kernel, by decide +kernel⟩
def ev_law_draws (a : CA) : EvS := (evRet (evL (opLst true) (evCons (evL (opList false) (evCons (evVar 0) evNil)) (evCons (evC (.int 0)) (evCons (evC (.int 0)) (evCons (evC (.int 1)) evNil))))))
def fn_law_draws (a : CA) : List D → Store → Out D := fnOf 1 (ev_law_draws a)
theorem ok_law_draws (T : Txt P K mg a) : DCal P w K mg base 1 "_law_draws" 1 (fn_law_draws a) := by
  obtain ⟨f, fd, F, hm, b⟩ := T.df_law_draws.ex
  refine ⟨f, fd, _, fun_ok (k := 0) F sc_law_draws rfl fun cdv A outer s H E hr => ?_, hm, F.kp, b⟩
  have hu := hu_of hr
  unfold ev_law_draws
  exact (jss_one (js_ret (je_lst true (ja_cons (je_callTy call_list_of (ol_list (mm := false)) (by rfl) T.b_list (by decide +kernel) (ja_cons (je_var (pv 0)) ja_nil)) (ja_cons je_int (ja_cons je_int (ja_cons je_int ja_nil)))))))
/-! ### _law_draw -/
theorem sc_law_draw : FnScope ["draws", "limit", "cell", "value"] ["draws", "limit"] (defScope s_law_draw) := ⟨rfl, rfl, rfl, by decide +kernel, rfl, by decide +kernel, by decide +kernel⟩
def ev_law_draw (a : CA) : EvS := (evSeq (evIfS (evAnd (evB (ev2 (opEqF false) (ev2 opIx (evVar 0) (evC (.int 2))) (evC (.int 0)))) (evB (ev2 opLt (ev2 opIx (evVar 0) (evC (.int 1))) (evL opLen (evCons (ev2 opIx (evVar 0) (evC (.int 0))) evNil))))) (evSeq (evSet 2 (ev2 opIx (ev2 opIx (evVar 0) (evC (.int 0))) (ev2 opIx (evVar 0) (evC (.int 1))))) (evSeq (evPut (evVar 0) (evC (.int 1)) (ev2 (opAdd false) (ev2 opIx (evVar 0) (evC (.int 1))) (evC (.int 1)))) (evSeq (evIfS (evB (ev2 opGe (evVar 2) (ev2 opPow (evC (.int 10)) (evC (.int 18))))) (evPut (evVar 0) (evC (.int 2)) (evVar 2)) evNop) (evPut (evVar 0) (evC (.int 3)) (ev2 opMod (evL opInt (evCons (ev2 (opAdd false) (ev2 (opAdd false) (ev2 (opMul false) (ev2 opIx (evVar 0) (evC (.int 3))) (evC (.int 48271))) (evVar 2)) (evC (.int 13))) evNil)) (evC (.int 2147483647))))))) evNop) (evSeq (evIfS (evB (ev2 opGt (ev2 opIx (evVar 0) (evC (.int 2))) (evC (.int 0)))) (evSeq (evSet 3 (ev2 opMod (evL opInt (evCons (ev2 opIx (evVar 0) (evC (.int 2))) evNil)) (evVar 1))) (evSeq (evPut (evVar 0) (evC (.int 2)) (ev2 opFdiv (ev2 opIx (evVar 0) (evC (.int 2))) (evVar 1))) (evRet (evVar 3)))) evNop) (evSeq (evPut (evVar 0) (evC (.int 3)) (ev2 opMod (evL opInt (evCons (ev2 (opAdd false) (ev2 (opMul false) (ev2 opIx (evVar 0) (evC (.int 3))) (evC (.int 69621))) (evC (.int 7))) evNil)) (evC (.int 2147483629)))) (evRet (ev2 opMod (evL opInt (evCons (ev2 opFdiv (ev2 opIx (evVar 0) (evC (.int 3))) (evC (.int 11))) evNil)) (evVar 1))))))
def fn_law_draw (a : CA) : List D → Store → Out D := fnOf 4 (ev_law_draw a)
theorem ok_law_draw (T : Txt P K mg a) : DCal P w K mg base 1 "_law_draw" 2 (fn_law_draw a) := by
  obtain ⟨f, fd, F, hm, b⟩ := T.df_law_draw.ex
  refine ⟨f, fd, _, fun_ok (k := 0) F sc_law_draw rfl fun cdv A outer s H E hr => ?_, hm, F.kp, b⟩
  have hu := hu_of hr
  unfold ev_law_draw
  exact (jss_cons (js_if (jt_w (jw_and (jt_cmp op_eq od_eqF (je_ix hu (je_var (pv 0)) je_int (fun _ _ => rfl) (fun _ _ => rfl)) je_int (nomark _)) (jw_and1 (jt_cmp op_lt od_B (je_ix hu (je_var (pv 0)) je_int (fun _ _ => rfl) (fun _ _ => rfl)) (je_callB call_lenA ol_len (by rfl) T.b_len (by decide +kernel) (ja_cons (je_ix hu (je_var (pv 0)) je_int (fun _ _ => rfl) (fun _ _ => rfl)) ja_nil)) (nomark _))))) (jss_cons (js_set (i := 2) sc_law_draw.nd rfl (.inl rfl) (je_ix hu (je_ix hu (je_var (pv 0)) je_int (fun _ _ => rfl) (fun _ _ => rfl)) (je_ix hu (je_var (pv 0)) je_int (fun _ _ => rfl) (fun _ _ => rfl)) (fun _ _ => rfl) (fun _ _ => rfl))) (jss_cons (js_put hu (je_var (pv 0)) je_int (je_op op_addA (od_addA (mm := false)) (je_ix hu (je_var (pv 0)) je_int (fun _ _ => rfl) (fun _ _ => rfl)) je_int)) (jss_cons (js_if (jt_cmp op_ge od_B (je_var (pv 2)) (je_op op_pow od_IC je_int je_int) (nomark _)) (jss_one (js_put hu (je_var (pv 0)) je_int (je_var (pv 2)))) jss_nil) (jss_one (js_put hu (je_var (pv 0)) je_int (je_op op_mod od_IC (je_callTy call_int1 ol_int (by rfl) T.b_int (by decide +kernel) (ja_cons (je_op op_addA (od_addA (mm := false)) (je_op op_addA (od_addA (mm := false)) (je_op op_mulA (od_mulA (mm := false)) (je_ix hu (je_var (pv 0)) je_int (fun _ _ => rfl) (fun _ _ => rfl)) je_int) (je_var (pv 2))) je_int) ja_nil)) je_int)))))) jss_nil) (jss_cons (js_if (jt_cmp op_gt od_B (je_ix hu (je_var (pv 0)) je_int (fun _ _ => rfl) (fun _ _ => rfl)) je_int (nomark _)) (jss_cons (js_set (i := 3) sc_law_draw.nd rfl (.inl rfl) (je_op op_mod od_IC (je_callTy call_int1 ol_int (by rfl) T.b_int (by decide +kernel) (ja_cons (je_ix hu (je_var (pv 0)) je_int (fun _ _ => rfl) (fun _ _ => rfl)) ja_nil)) (je_var (pv 1)))) (jss_cons (js_put hu (je_var (pv 0)) je_int (je_op op_fdiv od_IC (je_ix hu (je_var (pv 0)) je_int (fun _ _ => rfl) (fun _ _ => rfl)) (je_var (pv 1)))) (jss_one (js_ret (je_var (pv 3)))))) jss_nil) (jss_cons (js_put hu (je_var (pv 0)) je_int (je_op op_mod od_IC (je_callTy call_int1 ol_int (by rfl) T.b_int (by decide +kernel) (ja_cons (je_op op_addA (od_addA (mm := false)) (je_op op_mulA (od_mulA (mm := false)) (je_ix hu (je_var (pv 0)) je_int (fun _ _ => rfl) (fun _ _ => rfl)) je_int) je_int) ja_nil)) je_int)) (jss_one (js_ret (je_op op_mod od_IC (je_callTy call_int1 ol_int (by rfl) T.b_int (by decide +kernel) (ja_cons (je_op op_fdiv od_IC (je_ix hu (je_var (pv 0)) je_int (fun _ _ => rfl) (fun _ _ => rfl)) je_int) ja_nil)) (je_var (pv 1))))))))
/-! ### _law_same -/
theorem sc_law_same : FnScope ["x", "due", "right", "key", "at"] ["x", "due"] (defScope s_law_same) := ⟨rfl, rfl, rfl, by decide +kernel, rfl, by decide +kernel, by decide +kernel⟩
def ev_law_same (a : CA) (fr : List D → Store → Out D) : EvS := (evSeq (evIfS (evB (ev2 (opIs false) (evVar 1) (evC .non))) (evRet (ev2 (opIs false) (evVar 0) (evC .non))) evNop) (evSeq (evIfS (evB (evL opIsi (evCons (evVar 1) (evCons (evC (.ty "bool")) evNil)))) (evRet (evAndV (evL opIsi (evCons (evVar 0) (evCons (evC (.ty "bool")) evNil))) (ev2 (opEqF false) (evVar 0) (evVar 1)))) evNop) (evSeq (evIfS (evB (evL opIsi (evCons (evVar 1) (evCons (evC (.ty "int")) evNil)))) (evRet (evAndV (evL opIsi (evCons (evVar 0) (evCons (evC (.ty "int")) evNil))) (evAndV (evNotV (evL opIsi (evCons (evVar 0) (evCons (evC (.ty "bool")) evNil)))) (ev2 (opEqF false) (evVar 0) (evVar 1))))) evNop) (evSeq (evIfS (evB (evL opIsi (evCons (evVar 1) (evCons (evC (.ty "str")) evNil)))) (evRet (evAndV (evL opIsi (evCons (evVar 0) (evCons (evC (.ty "str")) evNil))) (ev2 (opEqF false) (evVar 0) (evVar 1)))) evNop) (evSeq (evIfS (evB (evL opIsi (evCons (evVar 1) (evCons (evC (.ty "dict")) evNil)))) (evSeq (evIfS (evOr (evNot (evB (evL opIsi (evCons (evVar 0) (evCons (evC (.ty "dict")) evNil))))) (evOr (evB (ev2 (opEqF true) (evL opLen (evCons (evVar 0) evNil)) (evL opLen (evCons (evVar 1) evNil)))) (evNot (evB (evL (opAnyAll true) (evCons (evLc false (evVar 1) [3] (gtName 3) evYes (ev2 (opIn false) (evVar 3) (evVar 0))) evNil)))))) (evRet (evC (.bl false))) evNop) (evRet (evL (opAnyAll true) (evCons (evLc false (evVar 1) [3] (gtName 3) evYes (evL (opCall 2 fr) (evCons (ev2 opIx (evVar 0) (evVar 3)) (evCons (ev2 opIx (evVar 1) (evVar 3)) evNil)))) evNil)))) evNop) (evSeq (evIfS (evB (evL opIsi (evCons (evVar 1) (evCons (evC (.ty "list")) evNil)))) (evSet 2 (evL opIsi (evCons (evVar 0) (evCons (evC (.ty "list")) evNil)))) (evSet 2 (evL opIsi (evCons (evVar 0) (evCons (evC (.ty "tuple")) evNil))))) (evRet (evAndV (evVar 2) (evAndV (ev2 (opEqF false) (evL opLen (evCons (evVar 0) evNil)) (evL opLen (evCons (evVar 1) evNil))) (evL (opAnyAll true) (evCons (evLcR false rng1 (evCons (evL opLen (evCons (evVar 1) evNil)) evNil) [4] (gtName 4) evYes (evL (opCall 2 fr) (evCons (ev2 opIx (evVar 0) (evVar 4)) (evCons (ev2 opIx (evVar 1) (evVar 4)) evNil)))) evNil)))))))))))
def fn_law_same (a : CA) : Nat → List D → Store → Out D
  | 0 => fun _ _ => .stuck
  | n + 1 => fnOf 5 (ev_law_same a (fn_law_same a n))
theorem ok_law_same (T : Txt P K mg a) : ∀ n : Nat, DCal P w K mg base (n + 1) "_law_same" 2 (fn_law_same a n)
  | 0 => by
    obtain ⟨f, fd, F, hm, b⟩ := T.df_law_same.ex
    exact ⟨f, fd, _, fn_none rfl, hm, F.kp, b⟩
  | n + 1 => by
    have ih := ok_law_same T n
    obtain ⟨f, fd, F, hm, b⟩ := T.df_law_same.ex
    refine ⟨f, fd, _, (fun_ok (np := 2) F sc_law_same rfl fun cdv A outer s H E hr => ?_).mono (j := (n + 1) + 1) (by omega), hm, F.kp, b⟩
    have hu := hu_of hr
    unfold ev_law_same
    exact (jss_cons (js_if (jt_cmp op_isA od_is (je_var (pv 1)) je_non (nomark _)) (jss_one (js_ret (je_cmp op_isA od_is (je_var (pv 0)) je_non (nomark _)))) jss_nil) (jss_cons (js_if (jt_val (je_callB call_isiA ol_isi (by rfl) T.b_isinstance (by decide +kernel) (ja_cons (je_var (pv 1)) (ja_cons (je_gty (pe_bltn (by rfl) T.b_bool (by decide +kernel) rfl)) ja_nil)))) (jss_one (js_ret (je_and (je_callB call_isiA ol_isi (by rfl) T.b_isinstance (by decide +kernel) (ja_cons (je_var (pv 0)) (ja_cons (je_gty (pe_bltn (by rfl) T.b_bool (by decide +kernel) rfl)) ja_nil))) (je_one (je_cmp op_eq od_eqF (je_var (pv 0)) (je_var (pv 1)) (nomark _)))))) jss_nil) (jss_cons (js_if (jt_val (je_callB call_isiA ol_isi (by rfl) T.b_isinstance (by decide +kernel) (ja_cons (je_var (pv 1)) (ja_cons (je_gty (pe_bltn (by rfl) T.b_int (by decide +kernel) rfl)) ja_nil)))) (jss_one (js_ret (je_and (je_callB call_isiA ol_isi (by rfl) T.b_isinstance (by decide +kernel) (ja_cons (je_var (pv 0)) (ja_cons (je_gty (pe_bltn (by rfl) T.b_int (by decide +kernel) rfl)) ja_nil))) (je_and (je_not (je_callB call_isiA ol_isi (by rfl) T.b_isinstance (by decide +kernel) (ja_cons (je_var (pv 0)) (ja_cons (je_gty (pe_bltn (by rfl) T.b_bool (by decide +kernel) rfl)) ja_nil)))) (je_one (je_cmp op_eq od_eqF (je_var (pv 0)) (je_var (pv 1)) (nomark _))))))) jss_nil) (jss_cons (js_if (jt_val (je_callB call_isiA ol_isi (by rfl) T.b_isinstance (by decide +kernel) (ja_cons (je_var (pv 1)) (ja_cons (je_gty (pe_bltn (by rfl) T.b_str (by decide +kernel) rfl)) ja_nil)))) (jss_one (js_ret (je_and (je_callB call_isiA ol_isi (by rfl) T.b_isinstance (by decide +kernel) (ja_cons (je_var (pv 0)) (ja_cons (je_gty (pe_bltn (by rfl) T.b_str (by decide +kernel) rfl)) ja_nil))) (je_one (je_cmp op_eq od_eqF (je_var (pv 0)) (je_var (pv 1)) (nomark _)))))) jss_nil) (jss_cons (js_if (jt_val (je_callB call_isiA ol_isi (by rfl) T.b_isinstance (by decide +kernel) (ja_cons (je_var (pv 1)) (ja_cons (je_gty (pe_bltn (by rfl) T.b_dict (by decide +kernel) rfl)) ja_nil)))) (jss_cons (js_if (jt_w (jw_or (jt_not (jt_val (je_callB call_isiA ol_isi (by rfl) T.b_isinstance (by decide +kernel) (ja_cons (je_var (pv 0)) (ja_cons (je_gty (pe_bltn (by rfl) T.b_dict (by decide +kernel) rfl)) ja_nil))))) (jw_or (jt_cmp op_ne od_neF (je_callB call_lenA ol_len (by rfl) T.b_len (by decide +kernel) (ja_cons (je_var (pv 0)) ja_nil)) (je_callB call_lenA ol_len (by rfl) T.b_len (by decide +kernel) (ja_cons (je_var (pv 1)) ja_nil)) (nomark _)) (jw_or1 (jt_not (jt_val (je_callB (cr_all rfl) ol_all (by rfl) T.b_all (by decide +kernel) (ja_cons (je_lc false (own := [("key", 3)]) (tgok_name 3 (by decide)) rfl sc_law_same.nd (je_var (pv 1)) (blkOk_by (own := [("key", 3)]) (N := ["x", "due", "right", "key", "at"]) (sc := defScope s_law_same) (by decide +kernel)) (fun _ _ _ _ _ => pg_name (i := 3) sc_law_same.nd rfl (.inl rfl)) (fun _ _ _ _ _ => jts_nil) (fun _ _ _ _ _ => (je_cmp op_in_seq od_in (je_var (pv 3)) (je_var (pv 0)) (by rfl)))) ja_nil)))))))) (jss_one (js_ret je_bl)) jss_nil) (jss_one (js_ret (je_callB (cr_all rfl) ol_all (by rfl) T.b_all (by decide +kernel) (ja_cons (je_lc false (own := [("key", 3)]) (tgok_name 3 (by decide)) rfl sc_law_same.nd (je_var (pv 1)) (blkOk_by (own := [("key", 3)]) (N := ["x", "due", "right", "key", "at"]) (sc := defScope s_law_same) (by decide +kernel)) (fun _ _ _ _ _ => pg_name (i := 3) sc_law_same.nd rfl (.inl rfl)) (fun _ _ _ _ _ => jts_nil) (fun _ _ _ _ _ => (jc_call ih hr (Nat.le_refl _) (by rfl) (ja_cons (je_ix hu (je_var (pv 0)) (je_var (pv 3)) (fun _ _ => rfl) (fun _ _ => rfl)) (ja_cons (je_ix hu (je_var (pv 1)) (je_var (pv 3)) (fun _ _ => rfl) (fun _ _ => rfl)) ja_nil))))) ja_nil))))) jss_nil) (jss_cons (js_if (jt_val (je_callB call_isiA ol_isi (by rfl) T.b_isinstance (by decide +kernel) (ja_cons (je_var (pv 1)) (ja_cons (je_gty (pe_bltn (by rfl) T.b_list (by decide +kernel) rfl)) ja_nil)))) (jss_one (js_set (i := 2) sc_law_same.nd rfl (.inl rfl) (je_callB call_isiA ol_isi (by rfl) T.b_isinstance (by decide +kernel) (ja_cons (je_var (pv 0)) (ja_cons (je_gty (pe_bltn (by rfl) T.b_list (by decide +kernel) rfl)) ja_nil))))) (jss_one (js_set (i := 2) sc_law_same.nd rfl (.inl rfl) (je_callB call_isiA ol_isi (by rfl) T.b_isinstance (by decide +kernel) (ja_cons (je_var (pv 0)) (ja_cons (je_gty (pe_bltn (by rfl) T.b_tuple (by decide +kernel) rfl)) ja_nil)))))) (jss_one (js_ret (je_and (je_var (pv 2)) (je_and (je_cmp op_eq od_eqF (je_callB call_lenA ol_len (by rfl) T.b_len (by decide +kernel) (ja_cons (je_var (pv 0)) ja_nil)) (je_callB call_lenA ol_len (by rfl) T.b_len (by decide +kernel) (ja_cons (je_var (pv 1)) ja_nil)) (nomark _)) (je_one (je_callB (cr_all rfl) ol_all (by rfl) T.b_all (by decide +kernel) (ja_cons (je_lcR1 false (own := [("at", 4)]) (tgok_name 4 (by decide)) rfl sc_law_same.nd (by rfl) T.b_range (ja_cons (je_callB call_lenA ol_len (by rfl) T.b_len (by decide +kernel) (ja_cons (je_var (pv 1)) ja_nil)) ja_nil) (blkOk_by (own := [("at", 4)]) (N := ["x", "due", "right", "key", "at"]) (sc := defScope s_law_same) (by decide +kernel)) (fun _ _ _ _ _ => pg_name (i := 4) sc_law_same.nd rfl (.inl rfl)) (fun _ _ _ _ _ => jts_nil) (fun _ _ _ _ _ => (jc_call ih hr (Nat.le_refl _) (by rfl) (ja_cons (je_ix hu (je_var (pv 0)) (je_var (pv 4)) (fun _ _ => rfl) (fun _ _ => rfl)) (ja_cons (je_ix hu (je_var (pv 1)) (je_var (pv 4)) (fun _ _ => rfl) (fun _ _ => rfl)) ja_nil))))) ja_nil)))))))))))))
/-! ### _law_copy -/
theorem sc_law_copy : FnScope ["thing", "found", "key", "part"] ["thing"] (defScope s_law_copy) := ⟨rfl, rfl, rfl, by decide +kernel, rfl, by decide +kernel, by decide +kernel⟩
def ev_law_copy (a : CA) (fr : List D → Store → Out D) : EvS := (evSeq (evIfS (evB (evL opIsi (evCons (evVar 0) (evCons (evC (.ty "list")) evNil)))) (evRet (evLc false (evVar 0) [3] (gtName 3) evYes (evL (opCall 1 fr) (evCons (evVar 3) evNil)))) evNop) (evSeq (evIfS (evB (evL opIsi (evCons (evVar 0) (evCons (evC (.ty "tuple")) evNil)))) (evRet (evL opTuple (evCons (evLc false (evVar 0) [3] (gtName 3) evYes (evL (opCall 1 fr) (evCons (evVar 3) evNil))) evNil))) evNop) (evSeq (evIfS (evB (evL opIsi (evCons (evVar 0) (evCons (evC (.ty "dict")) evNil)))) (evSeq (evSet 1 evNewK) (evSeq (evFor (evVar 0) (gtName 2) (evPut (evVar 1) (evVar 2) (evL (opCall 1 fr) (evCons (ev2 opIx (evVar 0) (evVar 2)) evNil)))) (evRet (evVar 1)))) evNop) (evRet (evVar 0)))))
def fn_law_copy (a : CA) : Nat → List D → Store → Out D
  | 0 => fun _ _ => .stuck
  | n + 1 => fnOf 4 (ev_law_copy a (fn_law_copy a n))
theorem ok_law_copy (T : Txt P K mg a) : ∀ n : Nat, DCal P w K mg base (n + 1) "_law_copy" 1 (fn_law_copy a n)
  | 0 => by
    obtain ⟨f, fd, F, hm, b⟩ := T.df_law_copy.ex
    exact ⟨f, fd, _, fn_none rfl, hm, F.kp, b⟩
  | n + 1 => by
    have ih := ok_law_copy T n
    obtain ⟨f, fd, F, hm, b⟩ := T.df_law_copy.ex
    refine ⟨f, fd, _, (fun_ok (np := 1) F sc_law_copy rfl fun cdv A outer s H E hr => ?_).mono (j := (n + 1) + 1) (by omega), hm, F.kp, b⟩
    have hu := hu_of hr
    unfold ev_law_copy
    exact (jss_cons (js_if (jt_val (je_callB call_isiA ol_isi (by rfl) T.b_isinstance (by decide +kernel) (ja_cons (je_var (pv 0)) (ja_cons (je_gty (pe_bltn (by rfl) T.b_list (by decide +kernel) rfl)) ja_nil)))) (jss_one (js_ret (je_lc false (own := [("part", 3)]) (tgok_name 3 (by decide)) rfl sc_law_copy.nd (je_var (pv 0)) (blkOk_by (own := [("part", 3)]) (N := ["thing", "found", "key", "part"]) (sc := defScope s_law_copy) (by decide +kernel)) (fun _ _ _ _ _ => pg_name (i := 3) sc_law_copy.nd rfl (.inl rfl)) (fun _ _ _ _ _ => jts_nil) (fun _ _ _ _ _ => (jc_call ih hr (Nat.le_refl _) (by rfl) (ja_cons (je_var (pv 3)) ja_nil)))))) jss_nil) (jss_cons (js_if (jt_val (je_callB call_isiA ol_isi (by rfl) T.b_isinstance (by decide +kernel) (ja_cons (je_var (pv 0)) (ja_cons (je_gty (pe_bltn (by rfl) T.b_tuple (by decide +kernel) rfl)) ja_nil)))) (jss_one (js_ret (je_callTy call_tuple_of ol_tuple (by rfl) T.b_tuple (by decide +kernel) (ja_cons (je_lc false (own := [("part", 3)]) (tgok_name 3 (by decide)) rfl sc_law_copy.nd (je_var (pv 0)) (blkOk_by (own := [("part", 3)]) (N := ["thing", "found", "key", "part"]) (sc := defScope s_law_copy) (by decide +kernel)) (fun _ _ _ _ _ => pg_name (i := 3) sc_law_copy.nd rfl (.inl rfl)) (fun _ _ _ _ _ => jts_nil) (fun _ _ _ _ _ => (jc_call ih hr (Nat.le_refl _) (by rfl) (ja_cons (je_var (pv 3)) ja_nil)))) ja_nil)))) jss_nil) (jss_cons (js_if (jt_val (je_callB call_isiA ol_isi (by rfl) T.b_isinstance (by decide +kernel) (ja_cons (je_var (pv 0)) (ja_cons (je_gty (pe_bltn (by rfl) T.b_dict (by decide +kernel) rfl)) ja_nil)))) (jss_cons (js_set (i := 1) sc_law_copy.nd rfl (.inl rfl) je_newK) (jss_cons (js_for PassesOwn.never rfl (je_var (pv 0)) (jg_name (i := 2) sc_law_copy.nd rfl (.inl rfl)) (jss_one (js_put hu (je_var (pv 1)) (je_var (pv 2)) (jc_call ih hr (Nat.le_refl _) (by rfl) (ja_cons (je_ix hu (je_var (pv 0)) (je_var (pv 2)) (fun _ _ => rfl) (fun _ _ => rfl)) ja_nil))))) (jss_one (js_ret (je_var (pv 1)))))) jss_nil) (jss_one (js_ret (je_var (pv 0)))))))
/-! ### law -/
theorem sc_law : FnScope ["script", "draws", "many", "size", "turns", "outs", "intos", "texts", "urgencies", "k", "served", "lossy", "total", "now", "ready", "first", "others", "piece", "read", "into", "j", "text"] ["script"] (defScope s_law) := ⟨rfl, rfl, rfl, by decide +kernel, rfl, by decide +kernel, by decide +kernel⟩
def ev_law (a : CA) : EvS := (evSeq (evSet 1 (evL (opCall 1 (fn_law_draws a)) (evCons (evVar 0) evNil))) (evSeq (evAsg (gtTup [(gtName 2), (gtName 3)]) (evL opTup (evCons (ev2 (opAdd false) (evC (.int 2)) (evL (opCall 2 (fn_law_draw a)) (evCons (evVar 1) (evCons (evC (.int 4)) evNil)))) (evCons (ev2 opIx (evL (opLst false) (evCons (evC (.int 1)) (evCons (evC (.int 3)) (evCons (evC (.int 20)) evNil)))) (evL (opCall 2 (fn_law_draw a)) (evCons (evVar 1) (evCons (evC (.int 3)) evNil)))) evNil)))) (evSeq (evAsg (gtTup [(gtName 4), (gtName 5), (gtName 6), (gtName 7), (gtName 8)]) (evL opTup (evCons (evL (opMake a.cTurns 1 (fn_Turns_init a)) evNil) (evCons (evL (opLst true) evNil) (evCons (evL (opLst true) evNil) (evCons (evL (opLst true) evNil) (evCons (evL (opLst true) evNil) evNil))))))) (evSeq (evForR rng1 (evCons (evVar 2) evNil) (gtName 9) (evSeq (evExpr (evAppend (evVar 7) (evLcR false rng1 (evCons (evL (opCall 2 (fn_law_draw a)) (evCons (evVar 1) (evCons (evC (.int 25)) evNil))) evNil) [20] (gtName 20) evYes (evL (opCall 2 (fn_law_draw a)) (evCons (evVar 1) (evCons (evC (.int 256)) evNil)))))) (evSeq (evExpr (evAppend (evVar 8) (evL (opCall 2 (fn_law_draw a)) (evCons (evVar 1) (evCons (evC (.int 4)) evNil))))) (evSeq (evExpr (evAppend (evVar 5) (evL (opMake a.cOutgoing 3 (fn_Outgoing_init a)) (evCons (evVar 9) (evCons (evC (.int 5000)) evNil))))) (evSeq (evExpr (evAppend (evVar 6) (evL (opMake a.cIncoming 3 (fn_Incoming_init a)) (evCons (evVar 9) (evCons (evC (.int 5000)) evNil))))) (evSeq (evExpr (evMeth a.cTurns "add" 3 (fn_Turns_add a) (evVar 4) (evCons (evVar 9) (evCons (ev2 opIx (evVar 8) (evVar 9)) evNil)))) (evSeq (evExpr (evMeth a.cOutgoing "write" 2 (fn_Outgoing_write a) (ev2 opIx (evVar 5) (evVar 9)) (evCons (evL (opList false) (evCons (ev2 opIx (evVar 7) (evVar 9)) evNil)) evNil))) (evExpr (evMeth a.cOutgoing "finish" 1 (fn_Outgoing_finish a) (ev2 opIx (evVar 5) (evVar 9)) evNil))))))))) (evSeq (evFrz 8 (evFrz 7 (evFrz 6 (evFrz 5 (evSet 10 (evLcR true rng1 (evCons (evVar 2) evNil) [9] (gtName 9) evYes (ev2 opSub (evVar 9) (evVar 2)))))))) (evSeq (evPar 11 12 (evCons (evL (opCall 2 (fn_law_draw a)) (evCons (evVar 1) (evCons (evC (.int 30)) evNil))) (evCons (evL opSum (evCons (evLc false (evVar 7) [21] (gtName 21) evYes (evL opLen (evCons (evVar 21) evNil))) evNil)) evNil))) (evSeq (evForR rng1 (evCons (ev2 (opAdd false) (ev2 (opAdd false) (ev2 (opAdd false) (evVar 11) (evVar 12)) (evVar 2)) (evC (.int 1))) evNil) (gtName 13) (evSeq (evSet 14 (evLcR false rng1 (evCons (evVar 2) evNil) [9] (gtName 9) (evB (evMeth a.cOutgoing "is_due" 2 (fn_Outgoing_is_due a) (ev2 opIx (evVar 5) (evVar 9)) (evCons (ev2 opPow (evC (.int 10)) (evC (.int 6))) evNil))) (evVar 9))) (evSeq (evSet 15 (evMeth a.cTurns "first" 2 (fn_Turns_first a) (evVar 4) (evCons (evL (opList false) (evCons (evVar 14) evNil)) evNil))) (evSeq (evIfS (evB (ev2 (opIs false) (evVar 15) (evC .non))) (evSeq (evIfS (evB (ev2 opGt (evL opLen (evCons (evVar 14) evNil)) (evC (.int 0)))) (evRet (evC (.bl false))) evNop) evCont) evNop) (evSeq (evIfS (evOr (evB (ev2 (opIn true) (evVar 15) (evVar 14))) (evB (evL (opAnyAll false) (evCons (evLc false (evVar 14) [9] (gtName 9) evYes (ev2 opLt (ev2 opIx (evVar 8) (evVar 9)) (ev2 opIx (evVar 8) (evVar 15)))) evNil)))) (evRet (evC (.bl false))) evNop) (evSeq (evSet 16 (evLc false (evVar 14) [9] (gtName 9) (evAnd (evB (ev2 (opEqF false) (ev2 opIx (evVar 8) (evVar 9)) (ev2 opIx (evVar 8) (evVar 15)))) (evB (ev2 (opEqF true) (evVar 9) (evVar 15)))) (evVar 9))) (evSeq (evIfS (evB (evL (opAnyAll false) (evCons (evLc false (evVar 16) [9] (gtName 9) evYes (ev2 opLt (ev2 opIx (evVar 10) (evVar 9)) (ev2 opIx (evVar 10) (evVar 15)))) evNil))) (evRet (evC (.bl false))) evNop) (evSeq (evPut (evVar 10) (evVar 15) (evVar 13)) (evSeq (evSet 17 (evMeth a.cOutgoing "next" 3 (fn_Outgoing_next a) (ev2 opIx (evVar 5) (evVar 15)) (evCons (evVar 3) (evCons (ev2 opPow (evC (.int 10)) (evC (.int 6))) evNil)))) (evSeq (evIfS (evOr (evB (ev2 (opIs false) (evVar 17) (evC .non))) (evOr (evB (ev2 (opEqF true) (ev2 opIx (evVar 17) (evC (.int 1))) (evVar 15))) (evB (ev2 opGt (evL opLen (evCons (ev2 opIx (evVar 17) (evC (.int 3))) evNil)) (evVar 3))))) (evRet (evC (.bl false))) evNop) (evSeq (evExpr (evMeth a.cTurns "served" 2 (fn_Turns_served a) (evVar 4) (evCons (evVar 15) evNil))) (evIfS (evAnd (evB (ev2 opLt (evVar 13) (evVar 11))) (evB (ev2 (opEqF false) (evL (opCall 2 (fn_law_draw a)) (evCons (evVar 1) (evCons (evC (.int 3)) evNil))) (evC (.int 0))))) (evExpr (evMeth a.cOutgoing "lost" 2 (fn_Outgoing_lost a) (ev2 opIx (evVar 5) (evVar 15)) (evCons (evVar 17) evNil))) (evSeq (evExpr (evMeth a.cOutgoing "got" 2 (fn_Outgoing_got a) (ev2 opIx (evVar 5) (evVar 15)) (evCons (evVar 17) evNil))) (evIfS (evB (ev2 (opIs true) (evMeth a.cIncoming "take" 2 (fn_Incoming_take a) (ev2 opIx (evVar 6) (evVar 15)) (evCons (evL (opCall 1 (fn_law_copy a 4)) (evCons (evVar 17) evNil)) evNil)) (evC .non))) (evRet (evC (.bl false))) evNop)))))))))))))) (evSeq (evSet 18 (evLc false (evVar 6) [19] (gtName 19) evYes (evMeth a.cIncoming "read" 2 (fn_Incoming_read a) (evVar 19) (evCons (evC (.int 5000)) evNil)))) (evRet (evAndV (evL (opCall 2 (fn_law_same a 5)) (evCons (evVar 18) (evCons (evVar 7) evNil))) (evL (opAnyAll true) (evCons (evLcR false rng1 (evCons (evVar 2) evNil) [9] (gtName 9) evYes (evAndV (evMeth a.cOutgoing "is_done" 1 (fn_Outgoing_is_done a) (ev2 opIx (evVar 5) (evVar 9)) evNil) (evMeth a.cIncoming "is_over" 1 (fn_Incoming_is_over a) (ev2 opIx (evVar 6) (evVar 9)) evNil))) evNil))))))))))))
def fn_law (a : CA) : List D → Store → Out D := fnOf 22 (ev_law a)
theorem ok_law {f : Addr} {fd : FuncData} (T : Txt P K mg a) (F : Fun K "law" "law" s_law f fd) : FnOk P w K mg base CX0 7 f fd ["script"] (spD K 1 (fn_law a)) := by
  refine fun_ok (k := 6) F sc_law rfl fun cdv A outer s H E hr => ?_
  have hu := hu_of hr
  unfold ev_law
  exact (jss_cons (js_set (i := 1) sc_law.nd rfl (.inr rfl) (jc_call (ok_law_draws T) hr (by decide) (by rfl) (ja_cons (je_var (pv 0)) ja_nil))) (jss_cons (js_asg (je_tup (ja_cons (je_op op_addA (od_addA (mm := false)) je_int (jc_call (ok_law_draw T) hr (by decide) (by rfl) (ja_cons (je_var (pv 1)) (ja_cons je_int ja_nil)))) (ja_cons (je_ix hu (je_lst false (ja_cons je_int (ja_cons je_int (ja_cons je_int ja_nil)))) (jc_call (ok_law_draw T) hr (by decide) (by rfl) (ja_cons (je_var (pv 1)) (ja_cons je_int ja_nil))) (fun _ _ => rfl) (fun _ _ => rfl)) ja_nil))) (jg_tup rfl (jgs_cons (jg_name (i := 2) sc_law.nd rfl (.inr rfl)) (jgs_cons (jg_name (i := 3) sc_law.nd rfl (.inl rfl)) jgs_nil)))) (jss_cons (js_asg (je_tup (ja_cons (jc_make0 (ok_Turns_init T) hr (by decide) (by rfl)) (ja_cons (je_lst true ja_nil) (ja_cons (je_lst true ja_nil) (ja_cons (je_lst true ja_nil) (ja_cons (je_lst true ja_nil) ja_nil)))))) (jg_tup rfl (jgs_cons (jg_name (i := 4) sc_law.nd rfl (.inl rfl)) (jgs_cons (jg_name (i := 5) sc_law.nd rfl (.inr rfl)) (jgs_cons (jg_name (i := 6) sc_law.nd rfl (.inr rfl)) (jgs_cons (jg_name (i := 7) sc_law.nd rfl (.inl rfl)) (jgs_cons (jg_name (i := 8) sc_law.nd rfl (.inr rfl)) jgs_nil))))))) (jss_cons (js_for1 PassesOwn.never rfl (by rfl) T.b_range (ja_cons (je_var (pv 2)) ja_nil) (jg_name (i := 9) sc_law.nd rfl (.inl rfl)) (jss_cons (js_expr (je_append (pe_bm PySem.F.plainAttrs_list PySem.F.slot_list_append PySem.F.type_list_append mt_append (je_var (pv 7)) (pa_cons (je_lcR1 false (own := [("j", 20)]) (tgok_name 20 (by decide)) rfl sc_law.nd (by rfl) T.b_range (ja_cons (jc_call (ok_law_draw T) hr (by decide) (by rfl) (ja_cons (je_var (pv 1)) (ja_cons je_int ja_nil))) ja_nil) (blkOk_by (own := [("j", 20)]) (N := ["script", "draws", "many", "size", "turns", "outs", "intos", "texts", "urgencies", "k", "served", "lossy", "total", "now", "ready", "first", "others", "piece", "read", "into", "j", "text"]) (sc := defScope s_law) (by decide +kernel)) (fun _ _ _ _ _ => pg_name (i := 20) sc_law.nd rfl (.inl rfl)) (fun _ _ _ _ _ => jts_nil) (fun _ _ _ _ _ => (jc_call (ok_law_draw T) hr (by decide) (by rfl) (ja_cons (je_var (pv 1)) (ja_cons je_int ja_nil))))) pa_nil)))) (jss_cons (js_expr (je_append (pe_bm PySem.F.plainAttrs_list PySem.F.slot_list_append PySem.F.type_list_append mt_append (je_var (pv 8)) (pa_cons (jc_call (ok_law_draw T) hr (by decide) (by rfl) (ja_cons (je_var (pv 1)) (ja_cons je_int ja_nil))) pa_nil)))) (jss_cons (js_expr (je_append (pe_bm PySem.F.plainAttrs_list PySem.F.slot_list_append PySem.F.type_list_append mt_append (je_var (pv 5)) (pa_cons (jc_make (ok_Outgoing_init T) hr (by decide) (by rfl) (ja_cons (je_var (pv 9)) (ja_cons je_int ja_nil))) pa_nil)))) (jss_cons (js_expr (je_append (pe_bm PySem.F.plainAttrs_list PySem.F.slot_list_append PySem.F.type_list_append mt_append (je_var (pv 6)) (pa_cons (jc_make (ok_Incoming_init T) hr (by decide) (by rfl) (ja_cons (je_var (pv 9)) (ja_cons je_int ja_nil))) pa_nil)))) (jss_cons (js_expr (jc_meth (ok_Turns_add T) hr (by decide) (je_var (pv 4)) (ja_cons (je_var (pv 9)) (ja_cons (je_ix hu (je_var (pv 8)) (je_var (pv 9)) (fun _ _ => rfl) (fun _ _ => rfl)) ja_nil)))) (jss_cons (js_expr (jc_meth (ok_Outgoing_write T) hr (by decide) (je_ix hu (je_var (pv 5)) (je_var (pv 9)) (fun _ _ => rfl) (fun _ _ => rfl)) (ja_cons (je_callTy call_list_of (ol_list (mm := false)) (by rfl) T.b_list (by decide +kernel) (ja_cons (je_ix hu (je_var (pv 7)) (je_var (pv 9)) (fun _ _ => rfl) (fun _ _ => rfl)) ja_nil)) ja_nil))) (jss_one (js_expr (jc_meth0 (ok_Outgoing_finish T) hr (by decide) (je_ix hu (je_var (pv 5)) (je_var (pv 9)) (fun _ _ => rfl) (fun _ _ => rfl)))))))))))) (jss_cons (js_frz (js_frz (js_frz (js_frz (js_set (i := 10) sc_law.nd rfl (.inr rfl) (je_lcR1 true (own := [("k", 9)]) (tgok_name 9 (by decide)) rfl sc_law.nd (by rfl) T.b_range (ja_cons (je_var (pv 2)) ja_nil) (blkOk_by (own := [("k", 9)]) (N := ["script", "draws", "many", "size", "turns", "outs", "intos", "texts", "urgencies", "k", "served", "lossy", "total", "now", "ready", "first", "others", "piece", "read", "into", "j", "text"]) (sc := defScope s_law) (by decide +kernel)) (fun _ _ _ _ _ => pg_name (i := 9) sc_law.nd rfl (.inl rfl)) (fun _ _ _ _ _ => jts_nil) (fun _ _ _ _ _ => (je_op op_sub od_I (je_var (pv 9)) (je_var (pv 2)))))))))) (jss_cons (js_par (i := 11) (j := 12) rfl sc_law.nd rfl rfl (by decide) rfl rfl (ja_cons (jc_call (ok_law_draw T) hr (by decide) (by rfl) (ja_cons (je_var (pv 1)) (ja_cons je_int ja_nil))) (ja_cons (je_callB (cr_sum rfl) ol_sum (by rfl) T.b_sum (by decide +kernel) (ja_cons (je_lc false (own := [("text", 21)]) (tgok_name 21 (by decide)) rfl sc_law.nd (je_var (pv 7)) (blkOk_by (own := [("text", 21)]) (N := ["script", "draws", "many", "size", "turns", "outs", "intos", "texts", "urgencies", "k", "served", "lossy", "total", "now", "ready", "first", "others", "piece", "read", "into", "j", "text"]) (sc := defScope s_law) (by decide +kernel)) (fun _ _ _ _ _ => pg_name (i := 21) sc_law.nd rfl (.inl rfl)) (fun _ _ _ _ _ => jts_nil) (fun _ _ _ _ _ => (je_callB call_lenA ol_len (by rfl) T.b_len (by decide +kernel) (ja_cons (je_var (pv 21)) ja_nil)))) ja_nil)) ja_nil)) (by rfl)) (jss_cons (js_for1 PassesOwn.never rfl (by rfl) T.b_range (ja_cons (je_op op_addA (od_addA (mm := false)) (je_op op_addA (od_addA (mm := false)) (je_op op_addA (od_addA (mm := false)) (je_var (pv 11)) (je_var (pv 12))) (je_var (pv 2))) je_int) ja_nil) (jg_name (i := 13) sc_law.nd rfl (.inl rfl)) (jss_cons (js_lcSetR1 false (own := [("k", 9)]) (i := 14) (tgok_name 9 (by decide)) rfl sc_law.nd rfl rfl (sw_true rfl rfl rfl (by decide +kernel)) (by rfl) T.b_range (ja_cons (je_var (pv 2)) ja_nil) (blkOk_by (own := [("k", 9)]) (N := ["script", "draws", "many", "size", "turns", "outs", "intos", "texts", "urgencies", "k", "served", "lossy", "total", "now", "ready", "first", "others", "piece", "read", "into", "j", "text"]) (sc := defScope s_law) (by decide +kernel)) (fun _ _ _ _ _ => pg_name (i := 9) sc_law.nd rfl (.inl rfl)) (fun _ _ _ _ _ => jts_one (jt_val (jc_meth (ok_Outgoing_is_due T) hr (by decide) (je_ix hu (je_var (pv 5)) (je_var (pv 9)) (fun _ _ => rfl) (fun _ _ => rfl)) (ja_cons (je_op op_pow od_IC je_int je_int) ja_nil)))) (fun _ _ _ _ _ => (je_var (pv 9)))) (jss_cons (js_set (i := 15) sc_law.nd rfl (.inr rfl) (jc_meth (ok_Turns_first T) hr (by decide) (je_var (pv 4)) (ja_cons (je_callTy call_list_of (ol_list (mm := false)) (by rfl) T.b_list (by decide +kernel) (ja_cons (je_var (pv 14)) ja_nil)) ja_nil))) (jss_cons (js_if (jt_cmp op_isA od_is (je_var (pv 15)) je_non (nomark _)) (jss_cons (js_if (jt_cmp op_gt od_B (je_callB call_lenA ol_len (by rfl) T.b_len (by decide +kernel) (ja_cons (je_var (pv 14)) ja_nil)) je_int (nomark _)) (jss_one (js_ret je_bl)) jss_nil) (jss_one js_cont)) jss_nil) (jss_cons (js_if (jt_w (jw_or (jt_cmp op_notIn_seq od_in (je_var (pv 15)) (je_var (pv 14)) (by rfl)) (jw_or1 (jt_val (je_callB (cr_any rfl) ol_any (by rfl) T.b_any (by decide +kernel) (ja_cons (je_lc false (own := [("k", 9)]) (tgok_name 9 (by decide)) rfl sc_law.nd (je_var (pv 14)) (blkOk_by (own := [("k", 9)]) (N := ["script", "draws", "many", "size", "turns", "outs", "intos", "texts", "urgencies", "k", "served", "lossy", "total", "now", "ready", "first", "others", "piece", "read", "into", "j", "text"]) (sc := defScope s_law) (by decide +kernel)) (fun _ _ _ _ _ => pg_name (i := 9) sc_law.nd rfl (.inl rfl)) (fun _ _ _ _ _ => jts_nil) (fun _ _ _ _ _ => (je_cmp op_lt od_B (je_ix hu (je_var (pv 8)) (je_var (pv 9)) (fun _ _ => rfl) (fun _ _ => rfl)) (je_ix hu (je_var (pv 8)) (je_var (pv 15)) (fun _ _ => rfl) (fun _ _ => rfl)) (nomark _)))) ja_nil)))))) (jss_one (js_ret je_bl)) jss_nil) (jss_cons (js_lcSet false (own := [("k", 9)]) (i := 16) (tgok_name 9 (by decide)) rfl sc_law.nd rfl rfl (sw_true rfl rfl rfl (by decide +kernel)) (je_var (pv 14)) (blkOk_by (own := [("k", 9)]) (N := ["script", "draws", "many", "size", "turns", "outs", "intos", "texts", "urgencies", "k", "served", "lossy", "total", "now", "ready", "first", "others", "piece", "read", "into", "j", "text"]) (sc := defScope s_law) (by decide +kernel)) (fun _ _ _ _ _ => pg_name (i := 9) sc_law.nd rfl (.inl rfl)) (fun _ _ _ _ _ => jts_one (jt_w (jw_and (jt_cmp op_eq od_eqF (je_ix hu (je_var (pv 8)) (je_var (pv 9)) (fun _ _ => rfl) (fun _ _ => rfl)) (je_ix hu (je_var (pv 8)) (je_var (pv 15)) (fun _ _ => rfl) (fun _ _ => rfl)) (nomark _)) (jw_and1 (jt_cmp op_ne od_neF (je_var (pv 9)) (je_var (pv 15)) (nomark _)))))) (fun _ _ _ _ _ => (je_var (pv 9)))) (jss_cons (js_if (jt_val (je_callB (cr_any rfl) ol_any (by rfl) T.b_any (by decide +kernel) (ja_cons (je_lc false (own := [("k", 9)]) (tgok_name 9 (by decide)) rfl sc_law.nd (je_var (pv 16)) (blkOk_by (own := [("k", 9)]) (N := ["script", "draws", "many", "size", "turns", "outs", "intos", "texts", "urgencies", "k", "served", "lossy", "total", "now", "ready", "first", "others", "piece", "read", "into", "j", "text"]) (sc := defScope s_law) (by decide +kernel)) (fun _ _ _ _ _ => pg_name (i := 9) sc_law.nd rfl (.inl rfl)) (fun _ _ _ _ _ => jts_nil) (fun _ _ _ _ _ => (je_cmp op_lt od_B (je_ix hu (je_var (pv 10)) (je_var (pv 9)) (fun _ _ => rfl) (fun _ _ => rfl)) (je_ix hu (je_var (pv 10)) (je_var (pv 15)) (fun _ _ => rfl) (fun _ _ => rfl)) (nomark _)))) ja_nil))) (jss_one (js_ret je_bl)) jss_nil) (jss_cons (js_put hu (je_var (pv 10)) (je_var (pv 15)) (je_var (pv 13))) (jss_cons (js_set (i := 17) sc_law.nd rfl (.inl rfl) (jc_meth (ok_Outgoing_next T) hr (by decide) (je_ix hu (je_var (pv 5)) (je_var (pv 15)) (fun _ _ => rfl) (fun _ _ => rfl)) (ja_cons (je_var (pv 3)) (ja_cons (je_op op_pow od_IC je_int je_int) ja_nil)))) (jss_cons (js_if (jt_w (jw_or (jt_cmp op_isA od_is (je_var (pv 17)) je_non (nomark _)) (jw_or (jt_cmp op_ne od_neF (je_ix hu (je_var (pv 17)) je_int (fun _ _ => rfl) (fun _ _ => rfl)) (je_var (pv 15)) (nomark _)) (jw_or1 (jt_cmp op_gt od_B (je_callB call_lenA ol_len (by rfl) T.b_len (by decide +kernel) (ja_cons (je_ix hu (je_var (pv 17)) je_int (fun _ _ => rfl) (fun _ _ => rfl)) ja_nil)) (je_var (pv 3)) (nomark _)))))) (jss_one (js_ret je_bl)) jss_nil) (jss_cons (js_expr (jc_meth (ok_Turns_served T) hr (by decide) (je_var (pv 4)) (ja_cons (je_var (pv 15)) ja_nil))) (jss_one (js_if (jt_w (jw_and (jt_cmp op_lt od_B (je_var (pv 13)) (je_var (pv 11)) (nomark _)) (jw_and1 (jt_cmp op_eq od_eqF (jc_call (ok_law_draw T) hr (by decide) (by rfl) (ja_cons (je_var (pv 1)) (ja_cons je_int ja_nil))) je_int (nomark _))))) (jss_one (js_expr (jc_meth (ok_Outgoing_lost T) hr (by decide) (je_ix hu (je_var (pv 5)) (je_var (pv 15)) (fun _ _ => rfl) (fun _ _ => rfl)) (ja_cons (je_var (pv 17)) ja_nil)))) (jss_cons (js_expr (jc_meth (ok_Outgoing_got T) hr (by decide) (je_ix hu (je_var (pv 5)) (je_var (pv 15)) (fun _ _ => rfl) (fun _ _ => rfl)) (ja_cons (je_var (pv 17)) ja_nil))) (jss_one (js_if (jt_cmp op_isNotA od_is (jc_meth (ok_Incoming_take T) hr (by decide) (je_ix hu (je_var (pv 6)) (je_var (pv 15)) (fun _ _ => rfl) (fun _ _ => rfl)) (ja_cons (jc_call (ok_law_copy T 4) hr (by decide) (by rfl) (ja_cons (je_var (pv 17)) ja_nil)) ja_nil)) je_non (nomark _)) (jss_one (js_ret je_bl)) jss_nil)))))))))))))))) (jss_cons (js_lcSet false (own := [("into", 19)]) (i := 18) (tgok_name 19 (by decide)) rfl sc_law.nd rfl rfl (sw_true rfl rfl rfl (by decide +kernel)) (je_var (pv 6)) (blkOk_by (own := [("into", 19)]) (N := ["script", "draws", "many", "size", "turns", "outs", "intos", "texts", "urgencies", "k", "served", "lossy", "total", "now", "ready", "first", "others", "piece", "read", "into", "j", "text"]) (sc := defScope s_law) (by decide +kernel)) (fun _ _ _ _ _ => pg_name (i := 19) sc_law.nd rfl (.inl rfl)) (fun _ _ _ _ _ => jts_nil) (fun _ _ _ _ _ => (jc_meth (ok_Incoming_read T) hr (by decide) (je_var (pv 19)) (ja_cons je_int ja_nil)))) (jss_one (js_ret (je_and (jc_call (ok_law_same T 5) hr (by decide) (by rfl) (ja_cons (je_var (pv 18)) (ja_cons (je_var (pv 7)) ja_nil))) (je_one (je_callB (cr_all rfl) ol_all (by rfl) T.b_all (by decide +kernel) (ja_cons (je_lcR1 false (own := [("k", 9)]) (tgok_name 9 (by decide)) rfl sc_law.nd (by rfl) T.b_range (ja_cons (je_var (pv 2)) ja_nil) (blkOk_by (own := [("k", 9)]) (N := ["script", "draws", "many", "size", "turns", "outs", "intos", "texts", "urgencies", "k", "served", "lossy", "total", "now", "ready", "first", "others", "piece", "read", "into", "j", "text"]) (sc := defScope s_law) (by decide +kernel)) (fun _ _ _ _ _ => pg_name (i := 9) sc_law.nd rfl (.inl rfl)) (fun _ _ _ _ _ => jts_nil) (fun _ _ _ _ _ => (je_and (jc_meth0 (ok_Outgoing_is_done T) hr (by decide) (je_ix hu (je_var (pv 5)) (je_var (pv 9)) (fun _ _ => rfl) (fun _ _ => rfl))) (je_one (jc_meth0 (ok_Incoming_is_over T) hr (by decide) (je_ix hu (je_var (pv 6)) (je_var (pv 9)) (fun _ _ => rfl) (fun _ _ => rfl))))))) ja_nil))))))))))))))
end
theorem all_mk {l : PySem.W.OpenLaw} {w : World} {K : PySem.W.Frag} {h : Heap} {mg : Str → Option Value} {fa CTurns CIncoming COutgoing f1 f2 f3 f4 f5 f6 f7 f8 f9 f10 f11 f12 f13 f14 f15 f16 f17 f18 f19 f20 f21 f22 f23 f24 f25 f26 f27 f28 f29 f30 f31 f32 f33 f34 f35 f36 f37 f38 : Addr} (X : K.In h) (G : h.Ns mainGlobals mg) (hfa : mg "law" = some (.ref fa))
    {od1 an1 od2 an2 od3 an3 od4 an4 od5 an5 od6 an6 od7 an7 od8 an8 od9 an9 od10 an10 od11 an11 od12 an12 od13 an13 od14 an14 od15 an15 od16 an16 od17 an17 od18 an18 od19 an19 od20 an20 od21 an21 od22 an22 od23 an23 od24 an24 od25 an25 od26 an26 od27 an27 od28 an28 od29 an29 od30 an30 od31 an31 od32 an32 od33 an33 od34 an34 od35 an35 od36 an36 od37 an37 od38 an38 : Option Addr} {sl1 sl2 sl3 sl4 sl5 sl6 sl7 sl8 sl9 sl10 sl11 sl12 sl13 sl14 sl15 sl16 sl17 sl18 sl19 sl20 sl21 sl22 sl23 sl24 sl25 sl26 sl27 sl28 sl29 sl30 sl31 sl32 sl33 sl34 sl35 sl36 sl37 sl38 : Array (Option Value)} {oc1 kV1 dc1 pm1 cd1 ct1 oc2 kV2 dc2 pm2 cd2 ct2 oc3 kV3 dc3 pm3 cd3 ct3 oc4 kV4 dc4 pm4 cd4 ct4 oc5 kV5 dc5 pm5 cd5 ct5 oc6 kV6 dc6 pm6 cd6 ct6 oc7 kV7 dc7 pm7 cd7 ct7 oc8 kV8 dc8 pm8 cd8 ct8 oc9 kV9 dc9 pm9 cd9 ct9 oc10 kV10 dc10 pm10 cd10 ct10 oc11 kV11 dc11 pm11 cd11 ct11 oc12 kV12 dc12 pm12 cd12 ct12 oc13 kV13 dc13 pm13 cd13 ct13 oc14 kV14 dc14 pm14 cd14 ct14 oc15 kV15 dc15 pm15 cd15 ct15 oc16 kV16 dc16 pm16 cd16 ct16 oc17 kV17 dc17 pm17 cd17 ct17 oc18 kV18 dc18 pm18 cd18 ct18 oc19 kV19 dc19 pm19 cd19 ct19 oc20 kV20 dc20 pm20 cd20 ct20 oc21 kV21 dc21 pm21 cd21 ct21 oc22 kV22 dc22 pm22 cd22 ct22 oc23 kV23 dc23 pm23 cd23 ct23 oc24 kV24 dc24 pm24 cd24 ct24 oc25 kV25 dc25 pm25 cd25 ct25 oc26 kV26 dc26 pm26 cd26 ct26 oc27 kV27 dc27 pm27 cd27 ct27 oc28 kV28 dc28 pm28 cd28 ct28 oc29 kV29 dc29 pm29 cd29 ct29 oc30 kV30 dc30 pm30 cd30 ct30 oc31 kV31 dc31 pm31 cd31 ct31 oc32 kV32 dc32 pm32 cd32 ct32 oc33 kV33 dc33 pm33 cd33 ct33 oc34 kV34 dc34 pm34 cd34 ct34 oc35 kV35 dc35 pm35 cd35 ct35 oc36 kV36 dc36 pm36 cd36 ct36 oc37 kV37 dc37 pm37 cd37 ct37 oc38 kV38 dc38 pm38 cd38 ct38 : Value} {tk_FURTHEST tk_LAST : Tok}
    (aC_Turns : PySem.W.nsIn K mainGlobals "Turns" = some (some (.ref CTurns)))
    (pg_Turns : PySem.W.plainGet K CTurns Str.empty = true)
    (hd_Turns : PySem.W.hasDictIn K CTurns = true)
    (po_Turns : PySem.W.plainOver K CTurns = true)
    (sa_Turns : PySem.W.findIn K (.ref CTurns) "__setattr__" = some (some (.builtin "object.__setattr__")))
    (mk_Turns : PySem.W.makesIn K CTurns = true)
    (kc_Turns : PySem.W.keepIn K (.ref CTurns) = true)
    (n_Turns_rows : PySem.W.findIn K (.ref CTurns) "rows" = some none)
    (aC_Incoming : PySem.W.nsIn K mainGlobals "Incoming" = some (some (.ref CIncoming)))
    (pg_Incoming : PySem.W.plainGet K CIncoming Str.empty = true)
    (hd_Incoming : PySem.W.hasDictIn K CIncoming = true)
    (po_Incoming : PySem.W.plainOver K CIncoming = true)
    (sa_Incoming : PySem.W.findIn K (.ref CIncoming) "__setattr__" = some (some (.builtin "object.__setattr__")))
    (mk_Incoming : PySem.W.makesIn K CIncoming = true)
    (kc_Incoming : PySem.W.keepIn K (.ref CIncoming) = true)
    (n_Incoming_stream : PySem.W.findIn K (.ref CIncoming) "stream" = some none)
    (n_Incoming_room : PySem.W.findIn K (.ref CIncoming) "room" = some none)
    (n_Incoming_upto : PySem.W.findIn K (.ref CIncoming) "upto" = some none)
    (n_Incoming_read_upto : PySem.W.findIn K (.ref CIncoming) "read_upto" = some none)
    (n_Incoming_greatest : PySem.W.findIn K (.ref CIncoming) "greatest" = some none)
    (n_Incoming_end : PySem.W.findIn K (.ref CIncoming) "end" = some none)
    (n_Incoming_come : PySem.W.findIn K (.ref CIncoming) "come" = some none)
    (n_Incoming_parts : PySem.W.findIn K (.ref CIncoming) "parts" = some none)
    (aC_Outgoing : PySem.W.nsIn K mainGlobals "Outgoing" = some (some (.ref COutgoing)))
    (pg_Outgoing : PySem.W.plainGet K COutgoing Str.empty = true)
    (hd_Outgoing : PySem.W.hasDictIn K COutgoing = true)
    (po_Outgoing : PySem.W.plainOver K COutgoing = true)
    (sa_Outgoing : PySem.W.findIn K (.ref COutgoing) "__setattr__" = some (some (.builtin "object.__setattr__")))
    (mk_Outgoing : PySem.W.makesIn K COutgoing = true)
    (kc_Outgoing : PySem.W.keepIn K (.ref COutgoing) = true)
    (n_Outgoing_stream : PySem.W.findIn K (.ref COutgoing) "stream" = some none)
    (n_Outgoing_keep : PySem.W.findIn K (.ref COutgoing) "keep" = some none)
    (n_Outgoing_base : PySem.W.findIn K (.ref COutgoing) "base" = some none)
    (n_Outgoing_kept : PySem.W.findIn K (.ref COutgoing) "kept" = some none)
    (n_Outgoing_taken : PySem.W.findIn K (.ref COutgoing) "taken" = some none)
    (n_Outgoing_sent : PySem.W.findIn K (.ref COutgoing) "sent" = some none)
    (n_Outgoing_got_ranges : PySem.W.findIn K (.ref COutgoing) "got_ranges" = some none)
    (n_Outgoing_lost_ranges : PySem.W.findIn K (.ref COutgoing) "lost_ranges" = some none)
    (n_Outgoing_finished : PySem.W.findIn K (.ref COutgoing) "finished" = some none)
    (n_Outgoing_last : PySem.W.findIn K (.ref COutgoing) "last" = some none)
    (a1 : PySem.W.nsIn K mainGlobals "_wall" = some (some (.ref f1)))
    (l1 : K.lookup f1 = some ⟨oc1, od1, .func (PySem.W.fnOf "_wall" "_wall" (defArgs s_wall) (defBody s_wall) (defScope s_wall) .none kV1 dc1 pm1 an1 cd1 ct1), sl1⟩)
    (c1 : PySem.W.codeIn K cd1 "_wall" = true)
    (k1 : PySem.W.keepIn K (.ref f1) = true)
    (a2 : PySem.W.nsIn K mainGlobals "is_number" = some (some (.ref f2)))
    (l2 : K.lookup f2 = some ⟨oc2, od2, .func (PySem.W.fnOf "is_number" "is_number" (defArgs s_is_number) (defBody s_is_number) (defScope s_is_number) .none kV2 dc2 pm2 an2 cd2 ct2), sl2⟩)
    (c2 : PySem.W.codeIn K cd2 "is_number" = true)
    (k2 : PySem.W.keepIn K (.ref f2) = true)
    (a3 : PySem.W.findIn K (.ref CTurns) "__init__" = some (some (.ref f3)))
    (i3 : PySem.W.isFn K (.ref f3) = true)
    (l3 : K.lookup f3 = some ⟨oc3, od3, .func (PySem.W.fnOf "__init__" "Turns.__init__" (defArgs s_Turns_init) (defBody s_Turns_init) (defScope s_Turns_init) .none kV3 dc3 pm3 an3 cd3 ct3), sl3⟩)
    (c3 : PySem.W.codeIn K cd3 "Turns.__init__" = true)
    (k3 : PySem.W.keepIn K (.ref f3) = true)
    (a4 : PySem.W.findIn K (.ref CTurns) "add" = some (some (.ref f4)))
    (i4 : PySem.W.isFn K (.ref f4) = true)
    (l4 : K.lookup f4 = some ⟨oc4, od4, .func (PySem.W.fnOf "add" "Turns.add" (defArgs s_Turns_add) (defBody s_Turns_add) (defScope s_Turns_add) .none kV4 dc4 pm4 an4 cd4 ct4), sl4⟩)
    (c4 : PySem.W.codeIn K cd4 "Turns.add" = true)
    (k4 : PySem.W.keepIn K (.ref f4) = true)
    (a5 : PySem.W.findIn K (.ref CTurns) "drop" = some (some (.ref f5)))
    (i5 : PySem.W.isFn K (.ref f5) = true)
    (l5 : K.lookup f5 = some ⟨oc5, od5, .func (PySem.W.fnOf "drop" "Turns.drop" (defArgs s_Turns_drop) (defBody s_Turns_drop) (defScope s_Turns_drop) .none kV5 dc5 pm5 an5 cd5 ct5), sl5⟩)
    (c5 : PySem.W.codeIn K cd5 "Turns.drop" = true)
    (k5 : PySem.W.keepIn K (.ref f5) = true)
    (a6 : PySem.W.findIn K (.ref CTurns) "order" = some (some (.ref f6)))
    (i6 : PySem.W.isFn K (.ref f6) = true)
    (l6 : K.lookup f6 = some ⟨oc6, od6, .func (PySem.W.fnOf "order" "Turns.order" (defArgs s_Turns_order) (defBody s_Turns_order) (defScope s_Turns_order) .none kV6 dc6 pm6 an6 cd6 ct6), sl6⟩)
    (c6 : PySem.W.codeIn K cd6 "Turns.order" = true)
    (k6 : PySem.W.keepIn K (.ref f6) = true)
    (a7 : PySem.W.findIn K (.ref CTurns) "served" = some (some (.ref f7)))
    (i7 : PySem.W.isFn K (.ref f7) = true)
    (l7 : K.lookup f7 = some ⟨oc7, od7, .func (PySem.W.fnOf "served" "Turns.served" (defArgs s_Turns_served) (defBody s_Turns_served) (defScope s_Turns_served) .none kV7 dc7 pm7 an7 cd7 ct7), sl7⟩)
    (c7 : PySem.W.codeIn K cd7 "Turns.served" = true)
    (k7 : PySem.W.keepIn K (.ref f7) = true)
    (a8 : PySem.W.findIn K (.ref CTurns) "first" = some (some (.ref f8)))
    (i8 : PySem.W.isFn K (.ref f8) = true)
    (l8 : K.lookup f8 = some ⟨oc8, od8, .func (PySem.W.fnOf "first" "Turns.first" (defArgs s_Turns_first) (defBody s_Turns_first) (defScope s_Turns_first) .none kV8 dc8 pm8 an8 cd8 ct8), sl8⟩)
    (c8 : PySem.W.codeIn K cd8 "Turns.first" = true)
    (k8 : PySem.W.keepIn K (.ref f8) = true)
    (a9 : PySem.W.findIn K (.ref CTurns) "urgency_of" = some (some (.ref f9)))
    (i9 : PySem.W.isFn K (.ref f9) = true)
    (l9 : K.lookup f9 = some ⟨oc9, od9, .func (PySem.W.fnOf "urgency_of" "Turns.urgency_of" (defArgs s_Turns_urgency_of) (defBody s_Turns_urgency_of) (defScope s_Turns_urgency_of) .none kV9 dc9 pm9 an9 cd9 ct9), sl9⟩)
    (c9 : PySem.W.codeIn K cd9 "Turns.urgency_of" = true)
    (k9 : PySem.W.keepIn K (.ref f9) = true)
    (a10 : PySem.W.nsIn K mainGlobals "put_range" = some (some (.ref f10)))
    (l10 : K.lookup f10 = some ⟨oc10, od10, .func (PySem.W.fnOf "put_range" "put_range" (defArgs s_put_range) (defBody s_put_range) (defScope s_put_range) .none kV10 dc10 pm10 an10 cd10 ct10), sl10⟩)
    (c10 : PySem.W.codeIn K cd10 "put_range" = true)
    (k10 : PySem.W.keepIn K (.ref f10) = true)
    (a11 : PySem.W.nsIn K mainGlobals "drop_range" = some (some (.ref f11)))
    (l11 : K.lookup f11 = some ⟨oc11, od11, .func (PySem.W.fnOf "drop_range" "drop_range" (defArgs s_drop_range) (defBody s_drop_range) (defScope s_drop_range) .none kV11 dc11 pm11 an11 cd11 ct11), sl11⟩)
    (c11 : PySem.W.codeIn K cd11 "drop_range" = true)
    (k11 : PySem.W.keepIn K (.ref f11) = true)
    (a12 : PySem.W.nsIn K mainGlobals "gaps" = some (some (.ref f12)))
    (l12 : K.lookup f12 = some ⟨oc12, od12, .func (PySem.W.fnOf "gaps" "gaps" (defArgs s_gaps) (defBody s_gaps) (defScope s_gaps) .none kV12 dc12 pm12 an12 cd12 ct12), sl12⟩)
    (c12 : PySem.W.codeIn K cd12 "gaps" = true)
    (k12 : PySem.W.keepIn K (.ref f12) = true)
    (a13 : PySem.W.nsIn K mainGlobals "drop_all" = some (some (.ref f13)))
    (l13 : K.lookup f13 = some ⟨oc13, od13, .func (PySem.W.fnOf "drop_all" "drop_all" (defArgs s_drop_all) (defBody s_drop_all) (defScope s_drop_all) .none kV13 dc13 pm13 an13 cd13 ct13), sl13⟩)
    (c13 : PySem.W.codeIn K cd13 "drop_all" = true)
    (k13 : PySem.W.keepIn K (.ref f13) = true)
    (a14 : PySem.W.findIn K (.ref CIncoming) "__init__" = some (some (.ref f14)))
    (i14 : PySem.W.isFn K (.ref f14) = true)
    (l14 : K.lookup f14 = some ⟨oc14, od14, .func (PySem.W.fnOf "__init__" "Incoming.__init__" (defArgs s_Incoming_init) (defBody s_Incoming_init) (defScope s_Incoming_init) .none kV14 dc14 pm14 an14 cd14 ct14), sl14⟩)
    (c14 : PySem.W.codeIn K cd14 "Incoming.__init__" = true)
    (k14 : PySem.W.keepIn K (.ref f14) = true)
    (a15 : PySem.W.findIn K (.ref CIncoming) "wrong" = some (some (.ref f15)))
    (i15 : PySem.W.isFn K (.ref f15) = true)
    (l15 : K.lookup f15 = some ⟨oc15, od15, .func (PySem.W.fnOf "wrong" "Incoming.wrong" (defArgs s_Incoming_wrong) (defBody s_Incoming_wrong) (defScope s_Incoming_wrong) .none kV15 dc15 pm15 an15 cd15 ct15), sl15⟩)
    (c15 : PySem.W.codeIn K cd15 "Incoming.wrong" = true)
    (k15 : PySem.W.keepIn K (.ref f15) = true)
    (a16 : PySem.W.findIn K (.ref CIncoming) "take" = some (some (.ref f16)))
    (i16 : PySem.W.isFn K (.ref f16) = true)
    (l16 : K.lookup f16 = some ⟨oc16, od16, .func (PySem.W.fnOf "take" "Incoming.take" (defArgs s_Incoming_take) (defBody s_Incoming_take) (defScope s_Incoming_take) .none kV16 dc16 pm16 an16 cd16 ct16), sl16⟩)
    (c16 : PySem.W.codeIn K cd16 "Incoming.take" = true)
    (k16 : PySem.W.keepIn K (.ref f16) = true)
    (a17 : PySem.W.findIn K (.ref CIncoming) "ready" = some (some (.ref f17)))
    (i17 : PySem.W.isFn K (.ref f17) = true)
    (l17 : K.lookup f17 = some ⟨oc17, od17, .func (PySem.W.fnOf "ready" "Incoming.ready" (defArgs s_Incoming_ready) (defBody s_Incoming_ready) (defScope s_Incoming_ready) .none kV17 dc17 pm17 an17 cd17 ct17), sl17⟩)
    (c17 : PySem.W.codeIn K cd17 "Incoming.ready" = true)
    (k17 : PySem.W.keepIn K (.ref f17) = true)
    (a18 : PySem.W.findIn K (.ref CIncoming) "read" = some (some (.ref f18)))
    (i18 : PySem.W.isFn K (.ref f18) = true)
    (l18 : K.lookup f18 = some ⟨oc18, od18, .func (PySem.W.fnOf "read" "Incoming.read" (defArgs s_Incoming_read) (defBody s_Incoming_read) (defScope s_Incoming_read) .none kV18 dc18 pm18 an18 cd18 ct18), sl18⟩)
    (c18 : PySem.W.codeIn K cd18 "Incoming.read" = true)
    (k18 : PySem.W.keepIn K (.ref f18) = true)
    (a19 : PySem.W.findIn K (.ref CIncoming) "grown" = some (some (.ref f19)))
    (i19 : PySem.W.isFn K (.ref f19) = true)
    (l19 : K.lookup f19 = some ⟨oc19, od19, .func (PySem.W.fnOf "grown" "Incoming.grown" (defArgs s_Incoming_grown) (defBody s_Incoming_grown) (defScope s_Incoming_grown) .none kV19 dc19 pm19 an19 cd19 ct19), sl19⟩)
    (c19 : PySem.W.codeIn K cd19 "Incoming.grown" = true)
    (k19 : PySem.W.keepIn K (.ref f19) = true)
    (a20 : PySem.W.findIn K (.ref CIncoming) "let" = some (some (.ref f20)))
    (i20 : PySem.W.isFn K (.ref f20) = true)
    (l20 : K.lookup f20 = some ⟨oc20, od20, .func (PySem.W.fnOf "let" "Incoming.let" (defArgs s_Incoming_let) (defBody s_Incoming_let) (defScope s_Incoming_let) .none kV20 dc20 pm20 an20 cd20 ct20), sl20⟩)
    (c20 : PySem.W.codeIn K cd20 "Incoming.let" = true)
    (k20 : PySem.W.keepIn K (.ref f20) = true)
    (a21 : PySem.W.findIn K (.ref CIncoming) "is_over" = some (some (.ref f21)))
    (i21 : PySem.W.isFn K (.ref f21) = true)
    (l21 : K.lookup f21 = some ⟨oc21, od21, .func (PySem.W.fnOf "is_over" "Incoming.is_over" (defArgs s_Incoming_is_over) (defBody s_Incoming_is_over) (defScope s_Incoming_is_over) .none kV21 dc21 pm21 an21 cd21 ct21), sl21⟩)
    (c21 : PySem.W.codeIn K cd21 "Incoming.is_over" = true)
    (k21 : PySem.W.keepIn K (.ref f21) = true)
    (a22 : PySem.W.findIn K (.ref CIncoming) "is_whole" = some (some (.ref f22)))
    (i22 : PySem.W.isFn K (.ref f22) = true)
    (l22 : K.lookup f22 = some ⟨oc22, od22, .func (PySem.W.fnOf "is_whole" "Incoming.is_whole" (defArgs s_Incoming_is_whole) (defBody s_Incoming_is_whole) (defScope s_Incoming_is_whole) .none kV22 dc22 pm22 an22 cd22 ct22), sl22⟩)
    (c22 : PySem.W.codeIn K cd22 "Incoming.is_whole" = true)
    (k22 : PySem.W.keepIn K (.ref f22) = true)
    (a23 : PySem.W.findIn K (.ref CIncoming) "memory" = some (some (.ref f23)))
    (i23 : PySem.W.isFn K (.ref f23) = true)
    (l23 : K.lookup f23 = some ⟨oc23, od23, .func (PySem.W.fnOf "memory" "Incoming.memory" (defArgs s_Incoming_memory) (defBody s_Incoming_memory) (defScope s_Incoming_memory) .none kV23 dc23 pm23 an23 cd23 ct23), sl23⟩)
    (c23 : PySem.W.codeIn K cd23 "Incoming.memory" = true)
    (k23 : PySem.W.keepIn K (.ref f23) = true)
    (a24 : PySem.W.findIn K (.ref COutgoing) "__init__" = some (some (.ref f24)))
    (i24 : PySem.W.isFn K (.ref f24) = true)
    (l24 : K.lookup f24 = some ⟨oc24, od24, .func (PySem.W.fnOf "__init__" "Outgoing.__init__" (defArgs s_Outgoing_init) (defBody s_Outgoing_init) (defScope s_Outgoing_init) .none kV24 dc24 pm24 an24 cd24 ct24), sl24⟩)
    (c24 : PySem.W.codeIn K cd24 "Outgoing.__init__" = true)
    (k24 : PySem.W.keepIn K (.ref f24) = true)
    (a25 : PySem.W.findIn K (.ref COutgoing) "write" = some (some (.ref f25)))
    (i25 : PySem.W.isFn K (.ref f25) = true)
    (l25 : K.lookup f25 = some ⟨oc25, od25, .func (PySem.W.fnOf "write" "Outgoing.write" (defArgs s_Outgoing_write) (defBody s_Outgoing_write) (defScope s_Outgoing_write) .none kV25 dc25 pm25 an25 cd25 ct25), sl25⟩)
    (c25 : PySem.W.codeIn K cd25 "Outgoing.write" = true)
    (k25 : PySem.W.keepIn K (.ref f25) = true)
    (a26 : PySem.W.findIn K (.ref COutgoing) "finish" = some (some (.ref f26)))
    (i26 : PySem.W.isFn K (.ref f26) = true)
    (l26 : K.lookup f26 = some ⟨oc26, od26, .func (PySem.W.fnOf "finish" "Outgoing.finish" (defArgs s_Outgoing_finish) (defBody s_Outgoing_finish) (defScope s_Outgoing_finish) .none kV26 dc26 pm26 an26 cd26 ct26), sl26⟩)
    (c26 : PySem.W.codeIn K cd26 "Outgoing.finish" = true)
    (k26 : PySem.W.keepIn K (.ref f26) = true)
    (a27 : PySem.W.findIn K (.ref COutgoing) "next" = some (some (.ref f27)))
    (i27 : PySem.W.isFn K (.ref f27) = true)
    (l27 : K.lookup f27 = some ⟨oc27, od27, .func (PySem.W.fnOf "next" "Outgoing.next" (defArgs s_Outgoing_next) (defBody s_Outgoing_next) (defScope s_Outgoing_next) .none kV27 dc27 pm27 an27 cd27 ct27), sl27⟩)
    (c27 : PySem.W.codeIn K cd27 "Outgoing.next" = true)
    (k27 : PySem.W.keepIn K (.ref f27) = true)
    (a28 : PySem.W.findIn K (.ref COutgoing) "piece" = some (some (.ref f28)))
    (i28 : PySem.W.isFn K (.ref f28) = true)
    (l28 : K.lookup f28 = some ⟨oc28, od28, .func (PySem.W.fnOf "piece" "Outgoing.piece" (defArgs s_Outgoing_piece) (defBody s_Outgoing_piece) (defScope s_Outgoing_piece) .none kV28 dc28 pm28 an28 cd28 ct28), sl28⟩)
    (c28 : PySem.W.codeIn K cd28 "Outgoing.piece" = true)
    (k28 : PySem.W.keepIn K (.ref f28) = true)
    (a29 : PySem.W.findIn K (.ref COutgoing) "got" = some (some (.ref f29)))
    (i29 : PySem.W.isFn K (.ref f29) = true)
    (l29 : K.lookup f29 = some ⟨oc29, od29, .func (PySem.W.fnOf "got" "Outgoing.got" (defArgs s_Outgoing_got) (defBody s_Outgoing_got) (defScope s_Outgoing_got) .none kV29 dc29 pm29 an29 cd29 ct29), sl29⟩)
    (c29 : PySem.W.codeIn K cd29 "Outgoing.got" = true)
    (k29 : PySem.W.keepIn K (.ref f29) = true)
    (a30 : PySem.W.findIn K (.ref COutgoing) "lost" = some (some (.ref f30)))
    (i30 : PySem.W.isFn K (.ref f30) = true)
    (l30 : K.lookup f30 = some ⟨oc30, od30, .func (PySem.W.fnOf "lost" "Outgoing.lost" (defArgs s_Outgoing_lost) (defBody s_Outgoing_lost) (defScope s_Outgoing_lost) .none kV30 dc30 pm30 an30 cd30 ct30), sl30⟩)
    (c30 : PySem.W.codeIn K cd30 "Outgoing.lost" = true)
    (k30 : PySem.W.keepIn K (.ref f30) = true)
    (a31 : PySem.W.findIn K (.ref COutgoing) "is_done" = some (some (.ref f31)))
    (i31 : PySem.W.isFn K (.ref f31) = true)
    (l31 : K.lookup f31 = some ⟨oc31, od31, .func (PySem.W.fnOf "is_done" "Outgoing.is_done" (defArgs s_Outgoing_is_done) (defBody s_Outgoing_is_done) (defScope s_Outgoing_is_done) .none kV31 dc31 pm31 an31 cd31 ct31), sl31⟩)
    (c31 : PySem.W.codeIn K cd31 "Outgoing.is_done" = true)
    (k31 : PySem.W.keepIn K (.ref f31) = true)
    (a32 : PySem.W.findIn K (.ref COutgoing) "is_due" = some (some (.ref f32)))
    (i32 : PySem.W.isFn K (.ref f32) = true)
    (l32 : K.lookup f32 = some ⟨oc32, od32, .func (PySem.W.fnOf "is_due" "Outgoing.is_due" (defArgs s_Outgoing_is_due) (defBody s_Outgoing_is_due) (defScope s_Outgoing_is_due) .none kV32 dc32 pm32 an32 cd32 ct32), sl32⟩)
    (c32 : PySem.W.codeIn K cd32 "Outgoing.is_due" = true)
    (k32 : PySem.W.keepIn K (.ref f32) = true)
    (a33 : PySem.W.findIn K (.ref COutgoing) "memory" = some (some (.ref f33)))
    (i33 : PySem.W.isFn K (.ref f33) = true)
    (l33 : K.lookup f33 = some ⟨oc33, od33, .func (PySem.W.fnOf "memory" "Outgoing.memory" (defArgs s_Outgoing_memory) (defBody s_Outgoing_memory) (defScope s_Outgoing_memory) .none kV33 dc33 pm33 an33 cd33 ct33), sl33⟩)
    (c33 : PySem.W.codeIn K cd33 "Outgoing.memory" = true)
    (k33 : PySem.W.keepIn K (.ref f33) = true)
    (a34 : PySem.W.nsIn K mainGlobals "_law_draws" = some (some (.ref f34)))
    (l34 : K.lookup f34 = some ⟨oc34, od34, .func (PySem.W.fnOf "_law_draws" "_law_draws" (defArgs s_law_draws) (defBody s_law_draws) (defScope s_law_draws) .none kV34 dc34 pm34 an34 cd34 ct34), sl34⟩)
    (c34 : PySem.W.codeIn K cd34 "_law_draws" = true)
    (k34 : PySem.W.keepIn K (.ref f34) = true)
    (a35 : PySem.W.nsIn K mainGlobals "_law_draw" = some (some (.ref f35)))
    (l35 : K.lookup f35 = some ⟨oc35, od35, .func (PySem.W.fnOf "_law_draw" "_law_draw" (defArgs s_law_draw) (defBody s_law_draw) (defScope s_law_draw) .none kV35 dc35 pm35 an35 cd35 ct35), sl35⟩)
    (c35 : PySem.W.codeIn K cd35 "_law_draw" = true)
    (k35 : PySem.W.keepIn K (.ref f35) = true)
    (a36 : PySem.W.nsIn K mainGlobals "_law_same" = some (some (.ref f36)))
    (l36 : K.lookup f36 = some ⟨oc36, od36, .func (PySem.W.fnOf "_law_same" "_law_same" (defArgs s_law_same) (defBody s_law_same) (defScope s_law_same) .none kV36 dc36 pm36 an36 cd36 ct36), sl36⟩)
    (c36 : PySem.W.codeIn K cd36 "_law_same" = true)
    (k36 : PySem.W.keepIn K (.ref f36) = true)
    (a37 : PySem.W.nsIn K mainGlobals "_law_copy" = some (some (.ref f37)))
    (l37 : K.lookup f37 = some ⟨oc37, od37, .func (PySem.W.fnOf "_law_copy" "_law_copy" (defArgs s_law_copy) (defBody s_law_copy) (defScope s_law_copy) .none kV37 dc37 pm37 an37 cd37 ct37), sl37⟩)
    (c37 : PySem.W.codeIn K cd37 "_law_copy" = true)
    (k37 : PySem.W.keepIn K (.ref f37) = true)
    (a38 : PySem.W.nsIn K mainGlobals "law" = some (some (.ref f38)))
    (l38 : K.lookup f38 = some ⟨oc38, od38, .func (PySem.W.fnOf "law" "law" (defArgs s_law) (defBody s_law) (defScope s_law) .none kV38 dc38 pm38 an38 cd38 ct38), sl38⟩)
    (c38 : PySem.W.codeIn K cd38 "law" = true)
    (k38 : PySem.W.keepIn K (.ref f38) = true)
    (z_all : PySem.W.nsIn K mainGlobals "all" = some none)
    (z_any : PySem.W.nsIn K mainGlobals "any" = some none)
    (z_bool : PySem.W.nsIn K mainGlobals "bool" = some none)
    (z_dict : PySem.W.nsIn K mainGlobals "dict" = some none)
    (z_int : PySem.W.nsIn K mainGlobals "int" = some none)
    (z_isinstance : PySem.W.nsIn K mainGlobals "isinstance" = some none)
    (z_len : PySem.W.nsIn K mainGlobals "len" = some none)
    (z_list : PySem.W.nsIn K mainGlobals "list" = some none)
    (z_max : PySem.W.nsIn K mainGlobals "max" = some none)
    (z_min : PySem.W.nsIn K mainGlobals "min" = some none)
    (z_range : PySem.W.nsIn K mainGlobals "range" = some none)
    (z_sorted : PySem.W.nsIn K mainGlobals "sorted" = some none)
    (z_str : PySem.W.nsIn K mainGlobals "str" = some none)
    (z_sum : PySem.W.nsIn K mainGlobals "sum" = some none)
    (z_tuple : PySem.W.nsIn K mainGlobals "tuple" = some none)
    (g_FURTHEST : PySem.W.nsIn K mainGlobals "FURTHEST" = some (some (.int 16777215 tk_FURTHEST)))
    (g_LAST : PySem.W.nsIn K mainGlobals "LAST" = some (some (.int 3 tk_LAST))) :
    ∃ (fd : FuncData) (a : CA), a.Ok ∧ (∀ (s : Shared) (v : Value), BindsTo s fd ⟨[v], []⟩ [("script", v)]) ∧ ∀ base : Heap, K.In base → base.Ns mainGlobals mg → FnOk l.prog w K mg base CX0 7 fa fd ["script"] (spD K 1 (fn_law a)) := by
  have e := hfa.symm.trans (PySem.W.mg_of X G a38)
  cases e
  have T : Txt l.prog K mg ⟨CTurns, CIncoming, COutgoing⟩ := {
    b_all := PySem.W.mg_none_of X G z_all
    b_any := PySem.W.mg_none_of X G z_any
    b_bool := PySem.W.mg_none_of X G z_bool
    b_dict := PySem.W.mg_none_of X G z_dict
    b_int := PySem.W.mg_none_of X G z_int
    b_isinstance := PySem.W.mg_none_of X G z_isinstance
    b_len := PySem.W.mg_none_of X G z_len
    b_list := PySem.W.mg_none_of X G z_list
    b_max := PySem.W.mg_none_of X G z_max
    b_min := PySem.W.mg_none_of X G z_min
    b_range := PySem.W.mg_none_of X G z_range
    b_sorted := PySem.W.mg_none_of X G z_sorted
    b_str := PySem.W.mg_none_of X G z_str
    b_sum := PySem.W.mg_none_of X G z_sum
    b_tuple := PySem.W.mg_none_of X G z_tuple
    g_FURTHEST := ⟨_, PySem.W.mg_of X G g_FURTHEST⟩
    g_LAST := ⟨_, PySem.W.mg_of X G g_LAST⟩
    cl_Turns := ⟨pg_Turns, hd_Turns, po_Turns, sa_Turns⟩
    na_Turns_rows := n_Turns_rows
    mg_Turns := PySem.W.mg_of X G aC_Turns
    cl_Incoming := ⟨pg_Incoming, hd_Incoming, po_Incoming, sa_Incoming⟩
    na_Incoming_stream := n_Incoming_stream
    na_Incoming_room := n_Incoming_room
    na_Incoming_upto := n_Incoming_upto
    na_Incoming_read_upto := n_Incoming_read_upto
    na_Incoming_greatest := n_Incoming_greatest
    na_Incoming_end := n_Incoming_end
    na_Incoming_come := n_Incoming_come
    na_Incoming_parts := n_Incoming_parts
    mg_Incoming := PySem.W.mg_of X G aC_Incoming
    cl_Outgoing := ⟨pg_Outgoing, hd_Outgoing, po_Outgoing, sa_Outgoing⟩
    na_Outgoing_stream := n_Outgoing_stream
    na_Outgoing_keep := n_Outgoing_keep
    na_Outgoing_base := n_Outgoing_base
    na_Outgoing_kept := n_Outgoing_kept
    na_Outgoing_taken := n_Outgoing_taken
    na_Outgoing_sent := n_Outgoing_sent
    na_Outgoing_got_ranges := n_Outgoing_got_ranges
    na_Outgoing_lost_ranges := n_Outgoing_lost_ranges
    na_Outgoing_finished := n_Outgoing_finished
    na_Outgoing_last := n_Outgoing_last
    mg_Outgoing := PySem.W.mg_of X G aC_Outgoing
    df_wall := deff_mk X G a1 l1 c1 k1 (fun _ _ _ _ _ _ us hl => match us, hl with | [_], _ => rfl)
    df_is_number := deff_mk X G a2 l2 c2 k2 (fun _ _ _ _ _ _ us hl => match us, hl with | [_, _, _], _ => rfl)
    df_Turns_init := makf_mk mk_Turns kc_Turns a3 i3 l3 c3 k3 (fun _ _ _ _ _ _ us hl => match us, hl with | [_], _ => rfl)
    df_Turns_add := metf_mk a4 i4 l4 c4 k4 (fun _ _ _ _ _ _ us hl => match us, hl with | [_, _, _], _ => rfl)
    df_Turns_drop := metf_mk a5 i5 l5 c5 k5 (fun _ _ _ _ _ _ us hl => match us, hl with | [_, _], _ => rfl)
    df_Turns_order := metf_mk a6 i6 l6 c6 k6 (fun _ _ _ _ _ _ us hl => match us, hl with | [_], _ => rfl)
    df_Turns_served := metf_mk a7 i7 l7 c7 k7 (fun _ _ _ _ _ _ us hl => match us, hl with | [_, _], _ => rfl)
    df_Turns_first := metf_mk a8 i8 l8 c8 k8 (fun _ _ _ _ _ _ us hl => match us, hl with | [_, _], _ => rfl)
    df_Turns_urgency_of := metf_mk a9 i9 l9 c9 k9 (fun _ _ _ _ _ _ us hl => match us, hl with | [_, _], _ => rfl)
    df_put_range := deff_mk X G a10 l10 c10 k10 (fun _ _ _ _ _ _ us hl => match us, hl with | [_, _, _], _ => rfl)
    df_drop_range := deff_mk X G a11 l11 c11 k11 (fun _ _ _ _ _ _ us hl => match us, hl with | [_, _, _], _ => rfl)
    df_gaps := deff_mk X G a12 l12 c12 k12 (fun _ _ _ _ _ _ us hl => match us, hl with | [_, _, _], _ => rfl)
    df_drop_all := deff_mk X G a13 l13 c13 k13 (fun _ _ _ _ _ _ us hl => match us, hl with | [_, _], _ => rfl)
    df_Incoming_init := makf_mk mk_Incoming kc_Incoming a14 i14 l14 c14 k14 (fun _ _ _ _ _ _ us hl => match us, hl with | [_, _, _], _ => rfl)
    df_Incoming_wrong := metf_mk a15 i15 l15 c15 k15 (fun _ _ _ _ _ _ us hl => match us, hl with | [_, _], _ => rfl)
    df_Incoming_take := metf_mk a16 i16 l16 c16 k16 (fun _ _ _ _ _ _ us hl => match us, hl with | [_, _], _ => rfl)
    df_Incoming_ready := metf_mk a17 i17 l17 c17 k17 (fun _ _ _ _ _ _ us hl => match us, hl with | [_], _ => rfl)
    df_Incoming_read := metf_mk a18 i18 l18 c18 k18 (fun _ _ _ _ _ _ us hl => match us, hl with | [_, _], _ => rfl)
    df_Incoming_grown := metf_mk a19 i19 l19 c19 k19 (fun _ _ _ _ _ _ us hl => match us, hl with | [_], _ => rfl)
    df_Incoming_let := metf_mk a20 i20 l20 c20 k20 (fun _ _ _ _ _ _ us hl => match us, hl with | [_, _], _ => rfl)
    df_Incoming_is_over := metf_mk a21 i21 l21 c21 k21 (fun _ _ _ _ _ _ us hl => match us, hl with | [_], _ => rfl)
    df_Incoming_is_whole := metf_mk a22 i22 l22 c22 k22 (fun _ _ _ _ _ _ us hl => match us, hl with | [_], _ => rfl)
    df_Incoming_memory := metf_mk a23 i23 l23 c23 k23 (fun _ _ _ _ _ _ us hl => match us, hl with | [_], _ => rfl)
    df_Outgoing_init := makf_mk mk_Outgoing kc_Outgoing a24 i24 l24 c24 k24 (fun _ _ _ _ _ _ us hl => match us, hl with | [_, _, _], _ => rfl)
    df_Outgoing_write := metf_mk a25 i25 l25 c25 k25 (fun _ _ _ _ _ _ us hl => match us, hl with | [_, _], _ => rfl)
    df_Outgoing_finish := metf_mk a26 i26 l26 c26 k26 (fun _ _ _ _ _ _ us hl => match us, hl with | [_], _ => rfl)
    df_Outgoing_next := metf_mk a27 i27 l27 c27 k27 (fun _ _ _ _ _ _ us hl => match us, hl with | [_, _, _], _ => rfl)
    df_Outgoing_piece := metf_mk a28 i28 l28 c28 k28 (fun _ _ _ _ _ _ us hl => match us, hl with | [_, _, _], _ => rfl)
    df_Outgoing_got := metf_mk a29 i29 l29 c29 k29 (fun _ _ _ _ _ _ us hl => match us, hl with | [_, _], _ => rfl)
    df_Outgoing_lost := metf_mk a30 i30 l30 c30 k30 (fun _ _ _ _ _ _ us hl => match us, hl with | [_, _], _ => rfl)
    df_Outgoing_is_done := metf_mk a31 i31 l31 c31 k31 (fun _ _ _ _ _ _ us hl => match us, hl with | [_], _ => rfl)
    df_Outgoing_is_due := metf_mk a32 i32 l32 c32 k32 (fun _ _ _ _ _ _ us hl => match us, hl with | [_, _], _ => rfl)
    df_Outgoing_memory := metf_mk a33 i33 l33 c33 k33 (fun _ _ _ _ _ _ us hl => match us, hl with | [_], _ => rfl)
    df_law_draws := deff_mk X G a34 l34 c34 k34 (fun _ _ _ _ _ _ us hl => match us, hl with | [_], _ => rfl)
    df_law_draw := deff_mk X G a35 l35 c35 k35 (fun _ _ _ _ _ _ us hl => match us, hl with | [_, _], _ => rfl)
    df_law_same := deff_mk X G a36 l36 c36 k36 (fun _ _ _ _ _ _ us hl => match us, hl with | [_, _], _ => rfl)
    df_law_copy := deff_mk X G a37 l37 c37 k37 (fun _ _ _ _ _ _ us hl => match us, hl with | [_], _ => rfl) }
  exact ⟨_, ⟨CTurns, CIncoming, COutgoing⟩, True.intro, fun s v => .of_eq rfl, fun base _ _ => ok_law T (fun_mk (st := s_law) l38 c38 k38)⟩
/-- what is left to be shown: the law's term is True at every script -/
def Goal : Prop := ∀ (a : CA), a.Ok → ∀ (ns : List Int), ns.length ≤ 63 → ∃ S', fn_law a [.fz false (ns.map D.int)] [] = .ok (.bl true) S'
theorem ints_rep {K : PySem.W.Frag} {F : Hp} {fs : List Addr} : ∀ ns : List Int, RepL K F fs (ns.map D.int) (ns.map V.int)
  | [] => RepL.nil
  | n :: ns => RepL.cons int_rep (ints_rep ns)
theorem law_sp {K : PySem.W.Frag} {a : CA} (ha : a.Ok) (hG : Goal) {H : Hp} {ad : Addr} {ns : List Int} (hl : ns.length ≤ 63) (hS : SqL K H ad (ns.map V.int)) : spD K 1 (fn_law a) [.ref ad] H (fun v _ => v = .bl true) (fun _ _ _ => False) := by
  obtain ⟨S', e⟩ := hG a ha ns hl
  refine ⟨rfl, [], H, [.fz false (ns.map D.int)], [], RepL.cons (by rw [Rep]; exact ⟨ad, ns.map V.int, rfl, hS, ints_rep ns⟩) RepL.nil, ⟨rfl, fun _ _ h => h, fun n so h => by simp at h, fun n m a so so' h => by simp at h, fun a h => by simp at h, fun n so h => by simp at h, fun n m a so so' h => by simp at h⟩, ?_⟩
  rw [e]
  exact fun fs' F' H' v g m r => rep_bl r
theorem walk {l : PySem.W.OpenLaw} {q : Program} {loose : List Str} {XP : (Str → Option Value) → Heap → Prop} {YP : World → Heap → Prop} {d : DefRec} {K : Params → PySem.W.Frag} (hG : Goal) (hn : l.most = some 63) (hdf : d.params.defaults = [])
    (hY : ∀ (w : World) (h : Heap), YP w h → (K w.params).In h)
    (F : ∀ (w : World) (mg : Str → Option Value) (fa : Addr) (h : Heap), (K w.params).In h → h.Ns mainGlobals mg → mg d.name = some (.ref fa) →
      ∃ (fd : FuncData) (a : CA), a.Ok ∧ (∀ (s : Shared) (u : Value), BindsTo s fd ⟨[u], []⟩ [("script", u)]) ∧ ∀ base : Heap, (K w.params).In base → base.Ns mainGlobals mg → FnOk l.prog w (K w.params) mg base CX0 7 fa fd ["script"] (spD (K w.params) 1 (fn_law a))) :
    PySem.W.WalkO q loose XP YP l.row.toRowW d [] (fun f vs => PySem.call f vs) :=
  L2.walk_of (n := 63) (k := 7) (x := "script") (CX := fun _ => CX0) (sp := fun w vs H Q E => vs.length = 1 ∧ ∀ a : CA, a.Ok → spD (K w.params) 1 (fn_law a) vs H Q E) hn (by decide) hdf ⟨rfl, by decide, by decide⟩ hY
    (fun w mg fa h x g m => let ⟨fd, a, ha, b, f⟩ := F w mg fa h x g m; ⟨fd, b, fun base kb gb => (f base kb gb).imp fun vs H Q E h => h.2 a ha⟩) (fun _ H ad ns hl _ hS => ⟨rfl, fun a ha => law_sp ha hG hl hS⟩) fun _ _ _ _ _ z => z
end L13
namespace L13
open PySem L2 DL
local macro_rules | `(tactic| walk_at "st") => `(tactic| repeat (first | assumption | with_reducible exact st_last | ((with_reducible refine st_same (y := ?_) ?_); rotate_left) | with_reducible refine st_ne ?_ ?_ | with_reducible refine st_app ?_ | ((with_reducible refine st_nx (S := ?_) ?_ ?_ ?_); rotate_left; assumption) | ((with_reducible refine st_nx1 (S := ?_) ?_ ?_ ?_); rotate_left; assumption) | omega))
local macro_rules | `(tactic| walk_at "dr") => `(tactic| repeat (first | assumption | with_reducible refine drw_set ?_ ?_ | with_reducible refine drw_app ?_ | omega))
local macro_rules | `(tactic| walk_at "go1") => `(tactic| (with_reducible first
  | refine w_seq ?_ | refine w_set ?_ | refine w_c ?_ | refine w_cons ?_ | refine w_nil ?_ | refine w_2 ?_ | refine w_L ?_ | refine w_1 ?_
  | refine w_ret ?_ | refine w_expr ?_ | refine w_nop ?_ | refine w_pass ?_ | refine w_retN ?_
  | refine w_if ?_ | refine w_ifE ?_ | refine w_cB ?_ | refine w_B ?_ | refine w_and ?_ | refine w_or ?_ | refine w_not ?_ | refine w_andV ?_ | refine w_orV ?_ | refine w_notV ?_ | refine w_chain ?_
  | refine w_opB ?_ | refine w_add ?_ | refine w_I ?_ | refine w_neg ?_ | refine w_eqI0 ?_ | refine w_eqI1 ?_ | refine w_eqB0 ?_ | refine w_eqB1 ?_ | refine w_eqS0 ?_ | refine w_eqS1 ?_ | refine w_int ?_ | refine w_max ?_ | refine w_min ?_ | refine w_min3 ?_ | refine w_tupL ?_ | refine w_newK ?_
  | refine w_mkf ?_ | refine w_mkt ?_ | refine w_par ?_ | refine w_par3 ?_
  | refine w_disp ?_ | refine w_pnil ?_ | refine w_pcons ?_ | refine w_asg ?_ | refine w_put ?_ | refine w_fldS ?_ | refine w_meth ?_ | refine w_methX ?_
  | refine w_for ?_ | refine w_forR ?_ | refine w_break ?_ | refine w_cont ?_ | refine w_lcR ?_ | refine w_lc ?_ | refine w_yes ?_ | refine w_append ?_ | refine w_sl00 ?_ | refine w_sl01 ?_ | refine w_sl10 ?_ | refine w_sl11 ?_ | refine ex_int ?_ | refine ex_tnil ?_ | refine ex_tname ?_ | refine ex_tsub ?_ | refine ex_gsub ?_ | refine w_eqIN0 ?_ | refine w_eqIN1 ?_ | refine w_eqNI0 ?_ | refine w_eqNI1 ?_ | refine w_cutF ?_ | refine w_cutL ?_ | refine w_cutT ?_
  | refine ex_b ?_ | refine ex_2 ?_ | refine ex_3 ?_ | refine ex_i ?_ | refine ex_it ?_ | refine w_t ?_ | refine w_f ?_ | refine w_tc ?_ | refine w_fc ?_ | refine w_ntt ?_ | refine w_ntf ?_ | refine w_decR ?_ | refine w_ndecR ?_))
local macro_rules | `(tactic| walk_at "go2") => `(tactic| (first
  | walk_at "go1"
  | ((with_reducible refine w_var (d := ?_) ?_ ?_); rotate_left; exact rfl)
  | ((with_reducible refine w_lst ?_ ?_); exact Nat.le_of_ble_eq_true rfl)
  | ((with_reducible refine w_tup ?_ ?_); exact Nat.le_of_ble_eq_true rfl)
  | ((with_reducible refine w_call ?_ ?_); exact rfl)
  | ((with_reducible refine ex_tup ?_ ?_); exact rfl)
  | ((with_reducible refine w_fld (C := ?_) (fl := ?_) (d := ?_) ?_ ?_ ?_ ?_); rotate_left 3; (walk_at "st"); exact List.mem_singleton.mpr rfl; exact rfl)
  | ((with_reducible refine ex_f (C := ?_) (fl := ?_) ?_ ?_ ?_ ?_); rotate_left 2; (walk_at "st"); exact List.mem_singleton.mpr rfl; exact Nat.le_of_ble_eq_true rfl)
  | ((with_reducible refine w_ixv (kvs := ?_) (j := ?_) (d := ?_) ?_ ?_ ?_ ?_); rotate_left 3; (walk_at "st"); exact rfl; exact rfl)
  | ((with_reducible refine ex_put (kvs := ?_) (j := ?_) ?_ ?_ ?_ ?_); rotate_left 2; (walk_at "st"); exact rfl; exact Nat.le_of_ble_eq_true rfl)
  | ((with_reducible refine w_is0 (b := true) ?_ ?_); exact rfl) | ((with_reducible refine w_is0 (b := false) ?_ ?_); exact rfl) | ((with_reducible refine w_is1 (b := true) ?_ ?_); exact rfl) | ((with_reducible refine w_is1 (b := false) ?_ ?_); exact rfl)
  | ((with_reducible refine w_isi (t := ?_) (b := true) ?_ ?_ ?_ ?_); rotate_left; exact rfl; decide +kernel; decide +kernel)
  | ((with_reducible refine w_isi (t := ?_) (b := false) ?_ ?_ ?_ ?_); rotate_left; exact rfl; decide +kernel; decide +kernel)
  | ((with_reducible refine w_isis (t := ?_) (ns := ?_) (b := true) ?_ ?_ ?_ ?_ ?_); rotate_left 2; exact rfl; exact rfl; decide +kernel; decide +kernel)
  | ((with_reducible refine w_isis (t := ?_) (ns := ?_) (b := false) ?_ ?_ ?_ ?_ ?_); rotate_left 2; exact rfl; exact rfl; decide +kernel; decide +kernel)
  | with_reducible refine w_mod (by omega) ?_ | with_reducible refine w_fdiv (by omega) (by omega) ?_
  | with_reducible refine w_mul (mulL (by omega) (by omega)) ?_ | with_reducible refine w_mul (mulR (by omega) (by omega)) ?_))
local macro_rules | `(tactic| walk_at "go") => `(tactic| repeat (walk_at "go2"))
local macro_rules | `(tactic| walk_at "all") => `(tactic| repeat' (first | walk_at "go2" | with_reducible refine w_dec (fun _ => ?_) (fun _ => ?_) | with_reducible refine w_ndec (fun _ => ?_) (fun _ => ?_) | with_reducible refine w_any (fun _ => ?_) (fun _ => ?_)))

/-! draws -/
structure Drw (S : Store) : Prop where
  ex : ∃ (ns : List Int) (i v s : Int), S[0]? = some (.lst [.lst (ns.map D.int), .int i, .int v, .int s]) ∧ 0 ≤ i ∧ 0 ≤ v ∧ 0 ≤ s
theorem drw_set {S : Store} {n : Nat} {x : SO} (h : Drw S) (hn : 1 ≤ n) : Drw (S.set n x) := by
  obtain ⟨ns, i, v, s, h0, h1⟩ := h.ex
  exact ⟨ns, i, v, s, st_ne (by omega) h0, h1⟩
theorem drw_app {S : Store} {x : SO} (h : Drw S) : Drw (S ++ [x]) := by
  obtain ⟨ns, i, v, s, h0, h1⟩ := h.ex
  exact ⟨ns, i, v, s, st_app h0, h1⟩
section
variable {a : CA} {S : Store} {Q : D → Store → Prop}
theorem w_draws {ns : List Int} (h : ∀ S', Drw S' → S'.length = 1 → Q (.ref 0) S') : WE (fn_law_draws a [.fz false (ns.map D.int)] []) Q := by
  refine w_fn ?_
  unfold ev_law_draws
  walk_at "go"
  refine w_list rfl ?_
  walk_at "go"
  exact h _ ⟨ns, 0, 0, 1, rfl, by omega, by omega, by omega⟩ rfl
theorem w_draw {b : Int} (hd : Drw S) (hb : 0 < b) (hb' : b < 1073741824) (h : ∀ r S', Drw S' → Nx1 S S' → 0 ≤ r → r < b → Q (.int r) S') : WE (fn_law_draw a [.ref 0, .int b] S) Q := by
  obtain ⟨ns, i, v, s, h0, h1, h2, h3⟩ := hd.ex
  have hlt0 := lt_of_get h0
  have nx : ∀ {T : Store} {x : SO}, Nx1 S T → Nx1 S (T.set 0 x) := fun {T x} hT => ⟨fun m hm => by rw [List.getElem?_set_ne (by omega)]; exact hT.eq m hm, by simp [hT.len]⟩
  have n0 : Nx1 S S := ⟨fun _ _ => rfl, rfl⟩
  refine w_fn ?_
  unfold ev_law_draw
  /- the rest, once the first part is over -/
  have rest : ∀ (T : Store) (i v s : Int) (o2 o3 : Option D), T[0]? = some (.lst [.lst (ns.map D.int), .int i, .int v, .int s]) → Nx1 S T → 0 ≤ i → 0 ≤ v → 0 ≤ s →
      WS ((evSeq (evIfS (evB (ev2 opGt (ev2 opIx (evVar 0) (evC (.int 2))) (evC (.int 0)))) (evSeq (evSet 3 (ev2 opMod (evL opInt (evCons (ev2 opIx (evVar 0) (evC (.int 2))) evNil)) (evVar 1))) (evSeq (evPut (evVar 0) (evC (.int 2)) (ev2 opFdiv (ev2 opIx (evVar 0) (evC (.int 2))) (evVar 1))) (evRet (evVar 3)))) evNop) (evSeq (evPut (evVar 0) (evC (.int 3)) (ev2 opMod (evL opInt (evCons (ev2 (opAdd false) (ev2 (opMul false) (ev2 opIx (evVar 0) (evC (.int 3))) (evC (.int 69621))) (evC (.int 7))) evNil)) (evC (.int 2147483629)))) (evRet (ev2 opMod (evL opInt (evCons (ev2 opFdiv (ev2 opIx (evVar 0) (evC (.int 3))) (evC (.int 11))) evNil)) (evVar 1))))) [some (.ref 0), some (.int b), o2, o3] T) (fun _ S' => Q .non S') (fun _ _ => False) (fun _ _ => False) Q := fun T i v s o2 o3 h0 hx h1 h2 h3 => by
    walk_at "go"
    refine w_ixL h0 (i := 2) rfl ?_
    walk_at "go"
    refine w_dec (fun hc => ?_) (fun hc => ?_)
    · walk_at "go"
      refine w_ixL h0 (i := 2) rfl ?_
      walk_at "go"
      refine w_ixL h0 (i := 2) rfl ?_
      walk_at "go"
      refine ex_putL h0 (by omega) (by simp) ?_
      walk_at "go"
      exact h _ _ ⟨ns, i, v / b, s, st_same h0, h1, Int.ediv_nonneg h2 (by omega), h3⟩ (nx hx) (Int.emod_nonneg _ (by omega)) (Int.emod_lt_of_pos _ hb)
    · walk_at "go"
      refine w_ixL h0 (i := 3) rfl ?_
      walk_at "go"
      refine ex_putL h0 (by omega) (by simp) ?_
      walk_at "go"
      refine w_ixL (st_same h0) (i := 3) rfl ?_
      walk_at "go"
      exact h _ _ ⟨ns, i, v, _, st_same h0, h1, h2, Int.emod_nonneg _ (by omega)⟩ (nx hx) (Int.emod_nonneg _ (by omega)) (Int.emod_lt_of_pos _ hb)
  walk_at "go"
  refine w_ixL h0 (i := 2) rfl ?_
  walk_at "go"
  refine w_dec (fun hc => ?_) (fun hc => ?_)
  · walk_at "go"
    refine w_ixL h0 (i := 1) rfl ?_
    walk_at "go"
    refine w_ixL h0 (i := 0) rfl ?_
    walk_at "go"
    refine w_len rfl ?_
    rw [List.length_map]
    walk_at "go"
    refine w_dec (fun hi => ?_) (fun hi => ?_)
    · obtain ⟨d, hd', hat, _⟩ := atI_in (ds := ns.map D.int) h1 (by rw [List.length_map]; exact hi)
      obtain ⟨x, hx, rfl⟩ := List.mem_map.mp hd'
      walk_at "go"
      refine w_ixL h0 (i := 0) rfl ?_
      walk_at "go"
      refine w_ixL h0 (i := 1) rfl ?_
      refine w_ix rfl hat ?_
      walk_at "go"
      refine w_ixL h0 (i := 1) rfl ?_
      walk_at "go"
      refine ex_putL h0 (by omega) (by simp) ?_
      walk_at "go"
      refine w_pow (by decide) ?_
      walk_at "go"
      have h4 := st_same (x := .lst [.lst (ns.map D.int), .int (i + 1), .int v, .int s]) h0
      refine w_dec (fun hx => ?_) (fun hx => ?_)
      · have hx : 1000000000000000000 ≤ x := hx
        walk_at "go"
        refine ex_putL h4 (by omega) (by simp) ?_
        walk_at "go"
        refine w_ixL (st_same h4) (i := 3) rfl ?_
        walk_at "go"
        refine ex_putL (st_same h4) (by omega) (by simp) ?_
        exact rest _ (i + 1) x _ _ _ (st_same (st_same h4)) (nx (nx (nx n0))) (by omega) (by omega) (Int.emod_nonneg _ (by omega))
      · walk_at "go"
        refine w_ixL h4 (i := 3) rfl ?_
        walk_at "go"
        refine ex_putL h4 (by omega) (by simp) ?_
        exact rest _ (i + 1) v _ _ _ (st_same h4) (nx (nx n0)) (by omega) h2 (Int.emod_nonneg _ (by omega))
    · walk_at "go1"
      exact rest _ i v s _ _ h0 n0 h1 h2 h3
  · walk_at "go1"
    exact rest _ i v s _ _ h0 n0 h1 h2 h3
/-! the same data -/
theorem w_same : ∀ (n : Nat) (d : D) (S : Store) (Q : D → Store → Prop), Pl n d → Q (.bl true) S → WE (fn_law_same a n [d, d] S) Q
  | 0, _, _, _, hp, _ => False.elim hp
  | n + 1, d, S, Q, hp, h => by
    show WE (fnOf 5 (ev_law_same a (fn_law_same a n)) [d, d] S) Q
    refine w_fn ?_
    show WS (ev_law_same a (fn_law_same a n) [some d, some d, none, none, none] S) _ _ _ _
    unfold ev_law_same
    have hseq : ∀ (ds : List D) (QL : List D → Store → Prop) (o2 : Option D), ds.length ≤ sizeLine → (∀ x ∈ ds, Pl n x) → asSeq d S = some ds → (∀ bs : List Bool, bs.all id = true → QL (bs.map D.bl) S) →
        WE (compD (gtName 4) evYes (evL (opCall 2 (fn_law_same a n)) (evCons (ev2 opIx (evVar 0) (evVar 4)) (evCons (ev2 opIx (evVar 1) (evVar 4)) evNil))) (wipeD [some d, some d, o2, none, none] [4]) (rangeD 0 ((ds.length : Int)).toNat) [] S) QL := fun ds QL o2 hl hds hs hQ => by
      refine w_comp (fun i acc S' => acc = List.replicate i (.bl true) ∧ S' = S) _ 0 [] S (by rw [rangeD_length]; show 0 + _ ≤ _; rw [Int.toNat_natCast, Nat.zero_add]; exact hl) ⟨rfl, rfl⟩ (fun j e acc S' hj ⟨e1, e2⟩ => ?_) fun acc S' ⟨e1, e2⟩ => ?_
      · subst e1; subst e2
        obtain ⟨hj', rfl⟩ := range_at hj
        rw [Int.toNat_natCast] at hj'
        refine ⟨_, _, rfl, ?_⟩
        walk_at "go"
        have hat : atI ds (0 + (j : Int)) = some ds[j] := by
          obtain ⟨d', _, e3, e4⟩ := atI_in (ds := ds) (i := 0 + (j : Int)) (by omega) (by omega)
          rw [e3, ← e4, show (0 + (j : Int)).toNat = j by omega, List.getElem?_eq_getElem hj']
        refine w_ix hs hat ?_
        walk_at "go"
        refine w_ix hs hat ?_
        walk_at "go"
        refine w_same n _ _ _ (hds _ (List.getElem_mem hj')) ⟨?_, rfl⟩
        rw [Nat.zero_add]
        exact List.replicate_succ'.symm
      · subst e1; subst e2
        have := hQ (List.replicate (0 + (rangeD 0 ((ds.length : Int)).toNat).length) true) (by simp)
        rwa [List.map_replicate] at this
    cases d with
    | lst ds =>
      have hp : ds.length ≤ sizeLine ∧ ∀ x ∈ ds, Pl n x := by simp only [Pl] at hp; exact hp
      have hl : ds.length ≤ 16777216 := hp.1
      walk_at "go"
      refine w_len rfl ?_
      walk_at "go"
      refine w_len rfl ?_
      walk_at "go"
      refine w_len rfl ?_
      walk_at "go"
      refine ex_r1 (by omega) (by omega) ?_
      refine hseq ds _ _ hp.1 hp.2 rfl fun bs hb => ?_
      walk_at "go"
      refine w_all rfl ?_
      rw [hb]
      exact h
    | tup ds =>
      have hp : ds.length ≤ sizeLine ∧ ∀ x ∈ ds, Pl n x := by simp only [Pl] at hp; exact hp
      have hl : ds.length ≤ 16777216 := hp.1
      walk_at "go"
      refine w_len rfl ?_
      walk_at "go"
      refine w_len rfl ?_
      walk_at "go"
      refine w_len rfl ?_
      walk_at "go"
      refine ex_r1 (by omega) (by omega) ?_
      refine hseq ds _ _ hp.1 hp.2 rfl fun bs hb => ?_
      walk_at "go"
      refine w_all rfl ?_
      rw [hb]
      exact h
    | int i =>
      walk_at "go"
      rw [decide_eq_true rfl]
      exact h
    | bl i =>
      walk_at "go"
      rw [decide_eq_true rfl]
      exact h
    | str i =>
      walk_at "go"
      rw [decide_eq_true rfl]
      exact h
    | non =>
      walk_at "go"
      exact h
    | _ => exact False.elim hp
end

/-! sets of numbers as ranges -/
abbrev Rg := Int × Int
def memR (k : Int) (rs : List Rg) : Prop := ∃ r ∈ rs, r.1 ≤ k ∧ k ≤ r.2
def apt (a b : Rg) : Prop := a.2 + 1 < b.1
structure Can (rs : List Rg) : Prop where
  ap : rs.Pairwise apt
  le : ∀ r ∈ rs, r.1 ≤ r.2
theorem can_nil : Can [] := ⟨List.Pairwise.nil, fun _ h => by cases h⟩
theorem memR_nil {k : Int} : ¬ memR k [] := fun ⟨_, h, _⟩ => by cases h
theorem memR_cons {k : Int} {r : Rg} {rs : List Rg} : memR k (r :: rs) ↔ (r.1 ≤ k ∧ k ≤ r.2) ∨ memR k rs := by
  constructor
  · rintro ⟨s, hs, h⟩
    rcases List.mem_cons.mp hs with e | hs
    · subst e; exact .inl h
    · exact .inr ⟨s, hs, h⟩
  · rintro (h | ⟨s, hs, h⟩)
    · exact ⟨r, List.mem_cons_self .., h⟩
    · exact ⟨s, List.mem_cons_of_mem _ hs, h⟩
theorem memR_app {k : Int} {rs ss : List Rg} : memR k (rs ++ ss) ↔ memR k rs ∨ memR k ss := by
  constructor
  · rintro ⟨s, hs, h⟩
    rcases List.mem_append.mp hs with hs | hs
    · exact .inl ⟨s, hs, h⟩
    · exact .inr ⟨s, hs, h⟩
  · rintro (⟨s, hs, h⟩ | ⟨s, hs, h⟩)
    · exact ⟨s, List.mem_append.mpr (.inl hs), h⟩
    · exact ⟨s, List.mem_append.mpr (.inr hs), h⟩
theorem memR_one {k : Int} {r : Rg} : memR k [r] ↔ r.1 ≤ k ∧ k ≤ r.2 := by
  rw [memR_cons]
  exact ⟨fun h => h.elim id fun h => (memR_nil h).elim, .inl⟩
theorem Can.tail {r : Rg} {rs : List Rg} (h : Can (r :: rs)) : Can rs := ⟨(List.pairwise_cons.mp h.ap).2, fun s hs => h.le s (List.mem_cons_of_mem _ hs)⟩
theorem Can.head {r : Rg} {rs : List Rg} (h : Can (r :: rs)) {k : Int} (m : memR k rs) : r.2 + 1 < k := by
  obtain ⟨s, hs, h1, h2⟩ := m
  have := (List.pairwise_cons.mp h.ap).1 s hs
  unfold apt at this
  omega
theorem Can.first {r : Rg} {rs : List Rg} (h : Can (r :: rs)) {k : Int} (m : memR k (r :: rs)) : r.1 ≤ k := by
  have h1 := h.le r (List.mem_cons_self ..)
  rcases memR_cons.mp m with m | m
  · exact m.1
  · have := h.head m
    omega
/-- the ranges of a set are told by it -/
theorem can_eq : ∀ {rs ss : List Rg}, Can rs → Can ss → (∀ k, memR k rs ↔ memR k ss) → rs = ss
  | [], [], _, _, _ => rfl
  | [], b :: s, _, h2, h => absurd ((h b.1).mpr (memR_cons.mpr (.inl ⟨Int.le_refl _, h2.le b (List.mem_cons_self ..)⟩))) memR_nil
  | a :: r, [], h1, _, h => absurd ((h a.1).mp (memR_cons.mpr (.inl ⟨Int.le_refl _, h1.le a (List.mem_cons_self ..)⟩))) memR_nil
  | a :: r, b :: s, h1, h2, h => by
    have la := h1.le a (List.mem_cons_self ..)
    have lb := h2.le b (List.mem_cons_self ..)
    have e1 : a.1 = b.1 := by
      have q1 := h2.first ((h a.1).mp (memR_cons.mpr (.inl ⟨Int.le_refl _, la⟩)))
      have q2 := h1.first ((h b.1).mpr (memR_cons.mpr (.inl ⟨Int.le_refl _, lb⟩)))
      omega
    have e2 : a.2 = b.2 := by
      apply Classical.byContradiction
      intro ne
      rcases Int.lt_or_gt_of_ne ne with c | c
      · have q := (h (a.2 + 1)).mpr (memR_cons.mpr (.inl ⟨by omega, by omega⟩))
        rcases memR_cons.mp q with q | q
        · omega
        · have := h1.head q
          omega
      · have q := (h (b.2 + 1)).mp (memR_cons.mpr (.inl ⟨by omega, by omega⟩))
        rcases memR_cons.mp q with q | q
        · omega
        · have := h2.head q
          omega
    have e : a = b := by
      obtain ⟨a1, a2⟩ := a
      obtain ⟨b1, b2⟩ := b
      simp only at e1 e2
      rw [e1, e2]
    subst e
    rw [can_eq h1.tail h2.tail fun k => ⟨fun m => ?_, fun m => ?_⟩]
    · have q := h1.head m
      rcases memR_cons.mp ((h k).mp (memR_cons.mpr (.inr m))) with q2 | q2
      · omega
      · exact q2
    · have q := h2.head m
      rcases memR_cons.mp ((h k).mpr (memR_cons.mpr (.inr m))) with q2 | q2
      · omega
      · exact q2
/-! the ranges of numbers -/
def stepR (f : List Rg) (n : Int) : List Rg := match f.getLast? with
  | some l => if l.2 + 1 = n then f.dropLast ++ [(l.1, n)] else f ++ [(n, n)]
  | none => f ++ [(n, n)]
theorem stepR_nil (n : Int) : stepR [] n = [(n, n)] := rfl
theorem stepR_app (f : List Rg) (l : Rg) (n : Int) : stepR (f ++ [l]) n = if l.2 + 1 = n then f ++ [(l.1, n)] else (f ++ [l]) ++ [(n, n)] := by
  unfold stepR
  rw [List.getLast?_concat]
  simp only [List.dropLast_concat]
def sizeR (rs : List Rg) : Int := (rs.map fun r => r.2 - r.1 + 1).sum
theorem sizeR_app (rs ss : List Rg) : sizeR (rs ++ ss) = sizeR rs + sizeR ss := by
  unfold sizeR
  rw [List.map_append, List.sum_append]
theorem sizeR_one (r : Rg) : sizeR [r] = r.2 - r.1 + 1 := by simp [sizeR]
theorem rof_inv : ∀ (ns ms : List Int) (f : List Rg), (ms ++ ns).Pairwise (· < ·) → Can f → (∀ k, memR k f ↔ k ∈ ms) → sizeR f = ms.length →
    Can (ns.foldl stepR f) ∧ (∀ k, memR k (ns.foldl stepR f) ↔ k ∈ ms ++ ns) ∧ sizeR (ns.foldl stepR f) = (ms ++ ns).length
  | [], ms, f, _, h, m, z => by simpa using ⟨h, m, z⟩
  | n :: ns, ms, f, a, h, m, z => by
    have lt : ∀ k, memR k f → k < n := fun k q => (List.pairwise_append.mp a).2.2 k ((m k).mp q) n (List.mem_cons_self ..)
    have a' : ((ms ++ [n]) ++ ns).Pairwise (· < ·) := by simpa using a
    have go : ∀ g : List Rg, Can g → (∀ k, memR k g ↔ memR k f ∨ k = n) → sizeR g = sizeR f + 1 → Can (ns.foldl stepR g) ∧ (∀ k, memR k (ns.foldl stepR g) ↔ k ∈ ms ++ n :: ns) ∧ sizeR (ns.foldl stepR g) = (ms ++ n :: ns).length := fun g c q s => by
      have := rof_inv ns (ms ++ [n]) g a' c (fun k => by rw [q, m]; simp) (by rw [s, z]; simp)
      simpa using this
    show Can (ns.foldl stepR (stepR f n)) ∧ (∀ k, memR k (ns.foldl stepR (stepR f n)) ↔ k ∈ ms ++ n :: ns) ∧ sizeR (ns.foldl stepR (stepR f n)) = (ms ++ n :: ns).length
    rcases List.eq_nil_or_concat f with e | ⟨g, l, e⟩
    · subst e
      rw [stepR_nil]
      refine go _ ⟨List.pairwise_singleton _ _, fun r hr => ?_⟩ (fun k => ?_) (by simp [sizeR])
      · rw [List.mem_singleton.mp hr]; exact Int.le_refl _
      · rw [memR_one]
        constructor
        · intro q; exact .inr (by simp only at q; omega)
        · rintro (q | q)
          · exact (memR_nil q).elim
          · subst q; exact ⟨Int.le_refl _, Int.le_refl _⟩
    · rw [List.concat_eq_append] at e
      subst e
      rw [stepR_app]
      obtain ⟨p1, p2, p3⟩ := List.pairwise_append.mp h.ap
      have hl := h.le l (by simp)
      have ll : l.2 < n := lt l.2 (memR_app.mpr (.inr (memR_one.mpr ⟨hl, Int.le_refl _⟩)))
      split
      · rename_i c
        refine go _ ⟨List.pairwise_append.mpr ⟨p1, List.pairwise_singleton _ _, fun x hx y hy => ?_⟩, fun r hr => ?_⟩ (fun k => ?_) ?_
        · rw [List.mem_singleton.mp hy]
          exact p3 x hx l (List.mem_singleton.mpr rfl)
        · rcases List.mem_append.mp hr with hr | hr
          · exact h.le r (List.mem_append.mpr (.inl hr))
          · rw [List.mem_singleton.mp hr]
            show l.1 ≤ n
            omega
        · rw [memR_app, memR_app, memR_one, memR_one, or_assoc]
          simp only
          constructor
          · rintro (q | q)
            · exact .inl q
            · refine .inr ?_
              omega
          · rintro (q | q)
            · exact .inl q
            · refine .inr ?_
              omega
        · rw [sizeR_app, sizeR_app, sizeR_one, sizeR_one]
          simp only
          omega
      · rename_i c
        refine go _ ⟨List.pairwise_append.mpr ⟨h.ap, List.pairwise_singleton _ _, fun x hx y hy => ?_⟩, fun r hr => ?_⟩ (fun k => ?_) ?_
        · rw [List.mem_singleton.mp hy]
          show x.2 + 1 < n
          rcases List.mem_append.mp hx with hx | hx
          · have := p3 x hx l (List.mem_singleton.mpr rfl)
            unfold apt at this
            omega
          · rw [List.mem_singleton.mp hx]
            omega
        · rcases List.mem_append.mp hr with hr | hr
          · exact h.le r hr
          · rw [List.mem_singleton.mp hr]
            exact Int.le_refl _
        · rw [memR_app (ss := [(n, n)]), memR_one]
          simp only
          constructor
          · rintro (q | q)
            · exact .inl q
            · exact .inr (by omega)
          · rintro (q | q)
            · exact .inl q
            · exact .inr (by omega)
        · rw [sizeR_app (ss := [(n, n)]), sizeR_one]
          simp only
          omega
def rof (ns : List Int) : List Rg := (srtU ns).foldl stepR []
theorem rof_all (ns : List Int) : Can (rof ns) ∧ (∀ k, memR k (rof ns) ↔ k ∈ ns) ∧ sizeR (rof ns) = (srtU ns).length := by
  have h := rof_inv (srtU ns) [] [] (by simpa using srtU_asc ns) can_nil (fun k => ⟨fun q => (memR_nil q).elim, fun q => by cases q⟩) (by simp [sizeR])
  exact ⟨h.1, fun k => by rw [show rof ns = (srtU ns).foldl stepR [] from rfl, h.2.1 k]; simpa using srtU_mem, by have := h.2.2; simpa [rof] using this⟩
theorem rof_can (ns : List Int) : Can (rof ns) := (rof_all ns).1
theorem rof_mem (ns : List Int) (k : Int) : memR k (rof ns) ↔ k ∈ ns := (rof_all ns).2.1 k
theorem rof_size {ns : List Int} (h : ns.Pairwise (· < ·)) : sizeR (rof ns) = ns.length := by
  rw [(rof_all ns).2.2, ← srtU_eq h fun k => Iff.rfl]
theorem rof_eq {ns : List Int} {rs : List Rg} (h : Can rs) (m : ∀ k, memR k rs ↔ k ∈ ns) : rs = rof ns := can_eq h (rof_can ns) fun k => (m k).trans (rof_mem ns k).symm
/-! ranges that lie apart, sorted -/
def sep (a b : Rg) : Prop := apt a b ∨ apt b a
theorem can_srt {rs : List Rg} (h : rs.Pairwise sep) (l : ∀ r ∈ rs, r.1 ≤ r.2) : Can (srtP rs) := by
  have p := srtP_perm rs
  have h2 : (srtP rs).Pairwise sep := (p.pairwise_iff fun {a b} => Or.symm).mpr h
  have l2 : ∀ r ∈ srtP rs, r.1 ≤ r.2 := fun r hr => l r (p.mem_iff.mp hr)
  refine ⟨?_, l2⟩
  have h3 := srtP_srt rs
  have h4 := h2.and h3
  refine h4.imp_of_mem fun {a b} ha hb q => ?_
  obtain ⟨q1, q2⟩ := q
  rcases q1 with q1 | q1
  · exact q1
  · exfalso
    have := l2 a ha
    have := l2 b hb
    unfold leP at q2
    unfold apt at q1
    omega
theorem memR_perm {k : Int} {rs ss : List Rg} (p : rs.Perm ss) : memR k rs ↔ memR k ss :=
  ⟨fun ⟨r, h, q⟩ => ⟨r, p.mem_iff.mp h, q⟩, fun ⟨r, h, q⟩ => ⟨r, p.mem_iff.mpr h, q⟩⟩
theorem memR_srt {k : Int} {rs : List Rg} : memR k (srtP rs) ↔ memR k rs := memR_perm (srtP_perm rs)
/-! put -/
def putSt (t : List Rg × Rg) (r : Rg) : List Rg × Rg := if r.2 + 1 < t.2.1 ∨ t.2.2 + 1 < r.1 then (t.1 ++ [r], t.2) else (t.1, (min t.2.1 r.1, max t.2.2 r.2))
def putR (rs : List Rg) (low high : Int) : List Rg := srtP ((rs.foldl putSt ([], (low, high))).1 ++ [(rs.foldl putSt ([], (low, high))).2])
theorem put_inv : ∀ (rs f : List Rg) (g : Rg), Can rs → (∀ x ∈ f, ∀ y ∈ rs, apt x y) → (∀ x ∈ f, sep x g) → f.Pairwise apt → (∀ x ∈ f, x.1 ≤ x.2) → g.1 ≤ g.2 →
    let t := rs.foldl putSt (f, g)
    (∀ x ∈ t.1, sep x t.2) ∧ t.1.Pairwise apt ∧ (∀ x ∈ t.1, x.1 ≤ x.2) ∧ t.2.1 ≤ t.2.2 ∧ ∀ k, memR k (t.1 ++ [t.2]) ↔ memR k (f ++ [g]) ∨ memR k rs
  | [], f, g, _, _, h2, h3, h4, h5 => ⟨h2, h3, h4, h5, fun k => ⟨.inl, fun q => q.elim id fun q => (memR_nil q).elim⟩⟩
  | r :: rs, f, g, c, h1, h2, h3, h4, h5 => by
    have hr := c.le r (List.mem_cons_self ..)
    have hrs := (List.pairwise_cons.mp c.ap).1
    rw [List.foldl_cons]
    by_cases q : r.2 + 1 < g.1 ∨ g.2 + 1 < r.1
    · rw [show putSt (f, g) r = (f ++ [r], g) from if_pos q]
      have a1 : ∀ x ∈ f ++ [r], ∀ y ∈ rs, apt x y := by
        intro x hx y hy
        rcases List.mem_append.mp hx with hx | hx
        · exact h1 x hx y (List.mem_cons_of_mem _ hy)
        · rw [List.mem_singleton.mp hx]
          exact hrs y hy
      have a2 : ∀ x ∈ f ++ [r], sep x g := by
        intro x hx
        rcases List.mem_append.mp hx with hx | hx
        · exact h2 x hx
        · rw [List.mem_singleton.mp hx]
          exact q
      have a3 : (f ++ [r]).Pairwise apt := List.pairwise_append.mpr ⟨h3, List.pairwise_singleton _ _, fun x hx y hy => by
        rw [List.mem_singleton.mp hy]
        exact h1 x hx r (List.mem_cons_self ..)⟩
      have a4 : ∀ x ∈ f ++ [r], x.1 ≤ x.2 := by
        intro x hx
        rcases List.mem_append.mp hx with hx | hx
        · exact h4 x hx
        · rw [List.mem_singleton.mp hx]
          exact hr
      obtain ⟨k1, k2, k3, k4, k5⟩ := put_inv rs (f ++ [r]) g c.tail a1 a2 a3 a4 h5
      refine ⟨k1, k2, k3, k4, fun k => ?_⟩
      rw [k5 k, memR_app, memR_app, memR_app, memR_cons (rs := rs), memR_one (r := r)]
      constructor
      · rintro (((q | q) | q) | q)
        · exact .inl (.inl q)
        · exact .inr (.inl q)
        · exact .inl (.inr q)
        · exact .inr (.inr q)
      · rintro ((q | q) | (q | q))
        · exact .inl (.inl (.inl q))
        · exact .inl (.inr q)
        · exact .inl (.inl (.inr q))
        · exact .inr q
    · rw [show putSt (f, g) r = (f, (min g.1 r.1, max g.2 r.2)) from if_neg q]
      have a2 : ∀ x ∈ f, sep x (min g.1 r.1, max g.2 r.2) := by
        intro x hx
        have e1 := h2 x hx
        have e2 := h1 x hx r (List.mem_cons_self ..)
        have e3 := h4 x hx
        unfold sep apt at *
        simp only
        omega
      obtain ⟨k1, k2, k3, k4, k5⟩ := put_inv rs f (min g.1 r.1, max g.2 r.2) c.tail (fun x hx y hy => h1 x hx y (List.mem_cons_of_mem _ hy)) a2 h3 h4 (by simp only; omega)
      refine ⟨k1, k2, k3, k4, fun k => ?_⟩
      rw [k5 k, memR_app, memR_app, memR_cons (rs := rs), memR_one, memR_one]
      simp only
      constructor
      · rintro ((q1 | q1) | q1)
        · exact .inl (.inl q1)
        · by_cases z : g.1 ≤ k ∧ k ≤ g.2
          · exact .inl (.inr z)
          · exact .inr (.inl (by omega))
        · exact .inr (.inr q1)
      · rintro ((q1 | q1) | (q1 | q1))
        · exact .inl (.inl q1)
        · exact .inl (.inr (by omega))
        · exact .inl (.inr (by omega))
        · exact .inr q1
theorem put_can {rs : List Rg} {low high : Int} (h : Can rs) (l : low ≤ high) : Can (putR rs low high) ∧ ∀ k, memR k (putR rs low high) ↔ memR k rs ∨ (low ≤ k ∧ k ≤ high) := by
  obtain ⟨k1, k2, k3, k4, k5⟩ := put_inv rs [] (low, high) h (fun x hx => by cases hx) (fun x hx => by cases hx) List.Pairwise.nil (fun x hx => by cases hx) l
  refine ⟨can_srt (List.pairwise_append.mpr ⟨k2.imp fun h => .inl h, List.pairwise_singleton _ _, fun x hx y hy => ?_⟩) (fun x hx => ?_), fun k => ?_⟩
  · rw [List.mem_singleton.mp hy]
    exact k1 x hx
  · rcases List.mem_append.mp hx with hx | hx
    · exact k3 x hx
    · rw [List.mem_singleton.mp hx]
      exact k4
  · unfold putR
    rw [memR_srt, k5 k, List.nil_append, memR_one]
    exact Or.comm
/-! drop -/
def dropSt (low high : Int) (f : List Rg) (r : Rg) : List Rg :=
  let g := if r.1 < low then f ++ [(r.1, min r.2 (low - 1))] else f
  if r.2 > high then g ++ [(max r.1 (high + 1), r.2)] else g
def dropR (rs : List Rg) (low high : Int) : List Rg := (rs.foldl (dropSt low high) []).filter fun r => decide (r.1 ≤ r.2)
def cutR (low high : Int) (r : Rg) : List Rg := (if r.1 < low then [(r.1, min r.2 (low - 1))] else []) ++ (if r.2 > high then [(max r.1 (high + 1), r.2)] else [])
theorem dropSt_eq (low high : Int) (f : List Rg) (r : Rg) : dropSt low high f r = f ++ cutR low high r := by
  unfold dropSt cutR
  split <;> split <;> simp
theorem drop_fold (low high : Int) : ∀ (rs f : List Rg), rs.foldl (dropSt low high) f = f ++ rs.flatMap (cutR low high)
  | [], f => by simp
  | r :: rs, f => by
    rw [List.foldl_cons, dropSt_eq, drop_fold low high rs, List.flatMap_cons, List.append_assoc]
theorem cut_in {low high : Int} (l : low ≤ high) {r : Rg} (hr : r.1 ≤ r.2) {x : Rg} (hx : x ∈ cutR low high r) : r.1 ≤ x.1 ∧ x.2 ≤ r.2 ∧ x.1 ≤ x.2 := by
  unfold cutR at hx
  rcases List.mem_append.mp hx with hx | hx
  · split at hx
    · rw [List.mem_singleton.mp hx]
      simp only
      omega
    · cases hx
  · split at hx
    · rw [List.mem_singleton.mp hx]
      simp only
      omega
    · cases hx
theorem cut_mem {low high : Int} (l : low ≤ high) {r : Rg} (hr : r.1 ≤ r.2) (k : Int) : memR k (cutR low high r) ↔ (r.1 ≤ k ∧ k ≤ r.2) ∧ ¬ (low ≤ k ∧ k ≤ high) := by
  unfold cutR
  rw [memR_app]
  split <;> split
  · rw [memR_one, memR_one]
    simp only
    omega
  · rw [memR_one]
    simp only
    refine ⟨fun q => ?_, fun q => .inl (by omega)⟩
    rcases q with q | q
    · omega
    · exact (memR_nil q).elim
  · rw [memR_one]
    simp only
    refine ⟨fun q => ?_, fun q => .inr (by omega)⟩
    rcases q with q | q
    · exact (memR_nil q).elim
    · omega
  · refine ⟨fun q => (q.elim memR_nil memR_nil).elim, fun q => ?_⟩
    omega
theorem drop_can {rs : List Rg} {low high : Int} (h : Can rs) (l : low ≤ high) : Can (dropR rs low high) ∧ ∀ k, memR k (dropR rs low high) ↔ memR k rs ∧ ¬ (low ≤ k ∧ k ≤ high) := by
  have e : dropR rs low high = rs.flatMap (cutR low high) := by
    unfold dropR
    rw [drop_fold, List.nil_append, List.filter_eq_self]
    intro x hx
    obtain ⟨r, hr, q⟩ := List.mem_flatMap.mp hx
    exact decide_eq_true (cut_in l (h.le r hr) q).2.2
  rw [e]
  clear e
  induction rs with
  | nil => exact ⟨can_nil, fun k => ⟨fun q => (memR_nil q).elim, fun q => (memR_nil q.1).elim⟩⟩
  | cons r rs ih =>
    obtain ⟨i1, i2⟩ := ih h.tail
    have hr := h.le r (List.mem_cons_self ..)
    rw [List.flatMap_cons]
    refine ⟨⟨List.pairwise_append.mpr ⟨?_, i1.ap, fun x hx y hy => ?_⟩, fun x hx => ?_⟩, fun k => ?_⟩
    · unfold cutR
      refine List.pairwise_append.mpr ⟨?_, ?_, fun x hx y hy => ?_⟩
      · split
        · exact List.pairwise_singleton _ _
        · exact List.Pairwise.nil
      · split
        · exact List.pairwise_singleton _ _
        · exact List.Pairwise.nil
      · split at hx
        · split at hy
          · rw [List.mem_singleton.mp hx, List.mem_singleton.mp hy]
            show min r.2 (low - 1) + 1 < max r.1 (high + 1)
            omega
          · cases hy
        · cases hx
    · have q1 := cut_in l hr hx
      obtain ⟨s, hs, q⟩ := List.mem_flatMap.mp hy
      have q2 := cut_in l (h.le s (List.mem_cons_of_mem _ hs)) q
      have q3 := (List.pairwise_cons.mp h.ap).1 s hs
      unfold apt at *
      omega
    · rcases List.mem_append.mp hx with hx | hx
      · exact (cut_in l hr hx).2.2
      · exact i1.le x hx
    · rw [memR_app, cut_mem l hr, i2 k, memR_cons]
      constructor
      · rintro (q | q)
        · exact ⟨.inl q.1, q.2⟩
        · exact ⟨.inr q.1, q.2⟩
      · rintro ⟨q | q, z⟩
        · exact .inl ⟨q, z⟩
        · exact .inr ⟨q, z⟩
/-! drop_all -/
def dropAll (rs os : List Rg) : List Rg := os.foldl (fun t o => dropR t o.1 o.2) rs
theorem dropAll_can : ∀ {os rs : List Rg}, Can rs → (∀ o ∈ os, o.1 ≤ o.2) → Can (dropAll rs os) ∧ ∀ k, memR k (dropAll rs os) ↔ memR k rs ∧ ¬ memR k os
  | [], rs, h, _ => ⟨h, fun k => ⟨fun q => ⟨q, memR_nil⟩, fun q => q.1⟩⟩
  | o :: os, rs, h, l => by
    obtain ⟨d1, d2⟩ := drop_can h (l o (List.mem_cons_self ..))
    obtain ⟨e1, e2⟩ := dropAll_can (os := os) d1 fun x hx => l x (List.mem_cons_of_mem _ hx)
    refine ⟨e1, fun k => ?_⟩
    show memR k (dropAll (dropR rs o.1 o.2) os) ↔ _
    rw [e2 k, d2 k, memR_cons]
    constructor
    · rintro ⟨⟨q1, q2⟩, q3⟩
      exact ⟨q1, fun z => z.elim q2 q3⟩
    · rintro ⟨q1, q2⟩
      exact ⟨⟨q1, fun z => q2 (.inl z)⟩, fun z => q2 (.inr z)⟩
/-! common -/
def meetR (a b : Rg) : List Rg := if max a.1 b.1 ≤ min a.2 b.2 then [(max a.1 b.1, min a.2 b.2)] else []
def commonR (rs ss : List Rg) : List Rg := srtP (rs.flatMap fun a => ss.flatMap fun b => meetR a b)
theorem meet_in {a b x : Rg} (h : x ∈ meetR a b) : a.1 ≤ x.1 ∧ x.2 ≤ a.2 ∧ b.1 ≤ x.1 ∧ x.2 ≤ b.2 ∧ x.1 ≤ x.2 := by
  unfold meetR at h
  split at h
  · rw [List.mem_singleton.mp h]
    simp only
    omega
  · cases h
theorem meet_mem {a b : Rg} {k : Int} : memR k (meetR a b) ↔ (a.1 ≤ k ∧ k ≤ a.2) ∧ b.1 ≤ k ∧ k ≤ b.2 := by
  unfold meetR
  split
  · rw [memR_one]
    simp only
    omega
  · refine ⟨fun q => (memR_nil q).elim, fun q => ?_⟩
    omega
theorem row_ap {a : Rg} : ∀ {ss : List Rg}, ss.Pairwise apt → (ss.flatMap fun b => meetR a b).Pairwise apt
  | [], _ => List.Pairwise.nil
  | b :: ss, h => by
    have h' := List.pairwise_cons.mp h
    rw [List.flatMap_cons]
    refine List.pairwise_append.mpr ⟨?_, row_ap h'.2, fun x hx y hy => ?_⟩
    · unfold meetR
      split
      · exact List.pairwise_singleton _ _
      · exact List.Pairwise.nil
    · obtain ⟨c, hc, q⟩ := List.mem_flatMap.mp hy
      have q1 := meet_in hx
      have q2 := meet_in q
      have q3 := h'.1 c hc
      unfold apt at *
      omega
theorem common_can {rs ss : List Rg} (h1 : Can rs) (h2 : Can ss) : Can (commonR rs ss) ∧ ∀ k, memR k (commonR rs ss) ↔ memR k rs ∧ memR k ss := by
  have key : ∀ rs : List Rg, rs.Pairwise apt → (rs.flatMap fun a => ss.flatMap fun b => meetR a b).Pairwise apt := by
    intro rs
    induction rs with
    | nil => intro _; exact List.Pairwise.nil
    | cons a rs ih =>
      intro h
      have h' := List.pairwise_cons.mp h
      rw [List.flatMap_cons]
      refine List.pairwise_append.mpr ⟨row_ap h2.ap, ih h'.2, fun x hx y hy => ?_⟩
      obtain ⟨b, hb, q⟩ := List.mem_flatMap.mp hx
      obtain ⟨c, hc, q2⟩ := List.mem_flatMap.mp hy
      obtain ⟨d, hd, q3⟩ := List.mem_flatMap.mp q2
      have e1 := meet_in q
      have e2 := meet_in q3
      have e3 := h'.1 c hc
      unfold apt at *
      omega
  refine ⟨can_srt ((key rs h1.ap).imp fun h => .inl h) fun x hx => ?_, fun k => ?_⟩
  · obtain ⟨a, ha, q⟩ := List.mem_flatMap.mp hx
    obtain ⟨b, hb, q2⟩ := List.mem_flatMap.mp q
    exact (meet_in q2).2.2.2.2
  · unfold commonR
    rw [memR_srt]
    constructor
    · rintro ⟨x, hx, q⟩
      obtain ⟨a, ha, q1⟩ := List.mem_flatMap.mp hx
      obtain ⟨b, hb, q2⟩ := List.mem_flatMap.mp q1
      have := meet_mem.mp ⟨x, q2, q⟩
      exact ⟨⟨a, ha, this.1⟩, ⟨b, hb, this.2⟩⟩
    · rintro ⟨⟨a, ha, q1⟩, ⟨b, hb, q2⟩⟩
      obtain ⟨x, hx, q⟩ := meet_mem.mpr ⟨q1, q2⟩
      exact ⟨x, List.mem_flatMap.mpr ⟨a, ha, List.mem_flatMap.mpr ⟨b, hb, hx⟩⟩, q⟩
/-! what is asked of ranges -/
theorem has_all_iff : ∀ {rs : List Rg} {low high : Int}, Can rs → low ≤ high → ((∃ r ∈ rs, r.1 ≤ low ∧ high ≤ r.2) ↔ ∀ k, low ≤ k → k ≤ high → memR k rs)
  | [], low, high, _, l => ⟨fun z => (by obtain ⟨r, h, _⟩ := z; cases h), fun h => (memR_nil (h low (Int.le_refl _) l)).elim⟩
  | r :: rs, low, high, c, l => by
    have ih := has_all_iff (low := low) (high := high) c.tail l
    constructor
    · rintro ⟨s, hs, q1, q2⟩ k k1 k2
      exact ⟨s, hs, by omega, by omega⟩
    · intro h
      have hr := c.le r (List.mem_cons_self ..)
      rcases memR_cons.mp (h low (Int.le_refl _) l) with q | q
      · refine ⟨r, List.mem_cons_self .., q.1, ?_⟩
        apply Classical.byContradiction
        intro z
        rcases memR_cons.mp (h (r.2 + 1) (by omega) (by omega)) with q2 | q2
        · omega
        · have := c.head q2
          omega
      · have hq := c.head q
        obtain ⟨s, hs, z⟩ := ih.mpr fun k k1 k2 => by
          rcases memR_cons.mp (h k k1 k2) with q2 | q2
          · omega
          · exact q2
        exact ⟨s, List.mem_cons_of_mem _ hs, z⟩
theorem meets_iff {rs : List Rg} {low high : Int} (c : Can rs) (l : low ≤ high) : (∃ r ∈ rs, r.1 ≤ high ∧ low ≤ r.2) ↔ ∃ k, low ≤ k ∧ k ≤ high ∧ memR k rs := by
  constructor
  · rintro ⟨r, hr, q1, q2⟩
    have := c.le r hr
    exact ⟨max low r.1, by omega, by omega, r, hr, by omega, by omega⟩
  · rintro ⟨k, k1, k2, r, hr, q1, q2⟩
    exact ⟨r, hr, by omega, by omega⟩

/-! the walks of ranges -/
theorem putSt_len (r : Rg) (t : List Rg × Rg) : (putSt t r).1.length ≤ t.1.length + 1 := by
  unfold putSt
  split
  · simp
  · simp
theorem put_len : ∀ (rs : List Rg) (t : List Rg × Rg), (rs.foldl putSt t).1.length ≤ t.1.length + rs.length
  | [], t => by simp
  | r :: rs, t => by
    rw [List.foldl_cons, List.length_cons]
    have h1 := put_len rs (putSt t r)
    have h2 := putSt_len r t
    omega
theorem sz (n : Nat) (h : n ≤ 16777216) : n ≤ sizeLine := h
theorem szl (n : Nat) (h : n < 16777216) : n < sizeLine := h
section
variable {a : CA} {S : Store} {Q : D → Store → Prop}
theorem w_put_range {rs : List Rg} {low high : Int} (hl : rs.length ≤ 10000) (h : ∀ S', Gw S S' → Q (.lst ((putR rs low high).map pD)) S') : WE (fn_put_range a [.lst (rs.map pD), .int low, .int high] S) Q := by
  refine w_fn ?_
  unfold ev_put_range
  walk_at "go"
  refine w_pre pD (fun pre σ S' => ∃ (t : List Rg × Rg) (o4 o5 : Option D), t = pre.foldl putSt ([], (low, high)) ∧ σ = [some (.lst (rs.map pD)), some (.int t.2.1), some (.int t.2.2), some (.ref S.length), o4, o5] ∧ S'[S.length]? = some (.lst (t.1.map pD)) ∧ Gw S S')
    ⟨_, _, _, rfl, rfl, st_last, (Gw.refl S).app _⟩ (fun pre r post σ S' e ⟨t, o4, o5, e0, e1, e2, e3⟩ => ?_) fun σ S' ⟨t, o4, o5, e0, e1, e2, e3⟩ => ?_
  · have tl := put_len pre ([], (low, high))
    rw [← e0, List.length_nil] at tl
    have pl : pre.length ≤ rs.length := by rw [e]; simp
    have en : ∀ t', putSt t r = t' → t' = (pre ++ [r]).foldl putSt ([], (low, high)) := fun t' q => by rw [List.foldl_append, ← e0]; exact q.symm
    subst e1
    show ∃ σ1 S1, gtTup _ (.tup [.int r.1, .int r.2]) _ _ = some (σ1, S1) ∧ _
    walk_at "go"
    refine w_dec (fun c => ?_) (fun c => ?_)
    · walk_at "go"
      refine ⟨_, rfl, ⟨_, e2⟩, ?_⟩
      walk_at "go"
      refine ⟨_, e2, szl _ (by rw [List.length_map]; omega), (t.1 ++ [r], t.2), _, _, en _ (if_pos (.inl c)), rfl, ?_, e3.set (Nat.le_refl _)⟩
      rw [st_same e2, List.map_append]
      rfl
    · walk_at "go"
      refine w_dec (fun c2 => ?_) (fun c2 => ?_)
      · walk_at "go"
        refine ⟨_, rfl, ⟨_, e2⟩, ?_⟩
        walk_at "go"
        refine ⟨_, e2, szl _ (by rw [List.length_map]; omega), (t.1 ++ [r], t.2), _, _, en _ (if_pos (.inr c2)), rfl, ?_, e3.set (Nat.le_refl _)⟩
        rw [st_same e2, List.map_append]
        rfl
      · walk_at "go"
        exact ⟨(t.1, (min t.2.1 r.1, max t.2.2 r.2)), _, _, en _ (if_neg fun z => z.elim c c2), rfl, e2, e3⟩
  · subst e1
    walk_at "go"
    refine w_catL e2 (sz _ ?_) ?_
    · have tl := put_len rs ([], (low, high))
      rw [← e0, List.length_nil] at tl
      simp
      omega
    · walk_at "go"
      refine w_sortP (ps := t.1 ++ [t.2]) (by rw [List.map_append]; rfl) ?_
      walk_at "go"
      rw [e0]
      exact h _ e3

theorem drop_len (low high : Int) : ∀ (rs f : List Rg), (rs.foldl (dropSt low high) f).length ≤ f.length + 2 * rs.length
  | [], f => by simp
  | r :: rs, f => by
    rw [List.foldl_cons, List.length_cons]
    have h1 := drop_len low high rs (dropSt low high f r)
    have h2 : (dropSt low high f r).length ≤ f.length + 2 := by
      unfold dropSt
      simp only
      split <;> split <;> simp
    omega
theorem w_drop_range {rs : List Rg} {low high : Int} (hl : rs.length ≤ 10000) (h : ∀ S', Gw S S' → Q (.lst ((dropR rs low high).map pD)) S') : WE (fn_drop_range a [.lst (rs.map pD), .int low, .int high] S) Q := by
  refine w_fn ?_
  unfold ev_drop_range
  walk_at "go"
  refine w_pre pD (fun pre σ S' => ∃ (t : List Rg) (o4 o5 : Option D), t = pre.foldl (dropSt low high) [] ∧ σ = [some (.lst (rs.map pD)), some (.int low), some (.int high), some (.ref S.length), o4, o5, none] ∧ S'[S.length]? = some (.lst (t.map pD)) ∧ Gw S S')
    ⟨_, _, _, rfl, rfl, st_last, (Gw.refl S).app _⟩ (fun pre r post σ S' e ⟨t, o4, o5, e0, e1, e2, e3⟩ => ?_) fun σ S' ⟨t, o4, o5, e0, e1, e2, e3⟩ => ?_
  · have tl := drop_len low high pre []
    rw [← e0, List.length_nil] at tl
    have pl : pre.length ≤ rs.length := by rw [e]; simp
    have en : ∀ t', dropSt low high t r = t' → t' = (pre ++ [r]).foldl (dropSt low high) [] := fun t' q => by rw [List.foldl_append, ← e0]; exact q.symm
    subst e1
    show ∃ σ1 S1, gtTup _ (.tup [.int r.1, .int r.2]) _ _ = some (σ1, S1) ∧ _
    walk_at "go"
    have rest : ∀ (t2 : List Rg) (S2 : Store), t2.length ≤ t.length + 1 → (if r.1 < low then t ++ [(r.1, min r.2 (low - 1))] else t) = t2 → S2[S.length]? = some (.lst (t2.map pD)) → Gw S S2 →
        WS (evIfS (evB (ev2 opGt (evVar 5) (evVar 2))) (evExpr (evAppend (evVar 3) (evL opTup (evCons (evL opMax (evCons (evVar 4) (evCons (ev2 (opAdd false) (evVar 2) (evC (.int 1))) evNil))) (evCons (evVar 5) evNil))))) evNop [some (.lst (rs.map pD)), some (.int low), some (.int high), some (.ref S.length), some (.int r.1), some (.int r.2), none] S2)
          (fun σ S' => ∃ (t : List Rg) (o4 o5 : Option D), t = (pre ++ [r]).foldl (dropSt low high) [] ∧ σ = [some (.lst (rs.map pD)), some (.int low), some (.int high), some (.ref S.length), o4, o5, none] ∧ S'[S.length]? = some (.lst (t.map pD)) ∧ Gw S S') (fun σ S' => WS (evRet (evLc false (evLet 3) [6] (gtName 6) (evB (ev2 opLe (ev2 opIx (evVar 6) (evC (.int 0))) (ev2 opIx (evVar 6) (evC (.int 1))))) (evVar 6)) σ S') (fun _ S' => Q .non S') (fun _ _ => False) (fun _ _ => False) Q) (fun σ S' => ∃ (t : List Rg) (o4 o5 : Option D), t = (pre ++ [r]).foldl (dropSt low high) [] ∧ σ = [some (.lst (rs.map pD)), some (.int low), some (.int high), some (.ref S.length), o4, o5, none] ∧ S'[S.length]? = some (.lst (t.map pD)) ∧ Gw S S') Q := fun t2 S2 z q k0 k1 => by
      walk_at "go"
      refine w_dec (fun c => ?_) (fun c => ?_)
      · walk_at "go"
        refine ⟨_, rfl, ⟨_, k0⟩, ?_⟩
        walk_at "go"
        refine ⟨_, k0, szl _ (by rw [List.length_map]; omega), t2 ++ [(max r.1 (high + 1), r.2)], _, _, en _ ?_, rfl, ?_, k1.set (Nat.le_refl _)⟩
        · unfold dropSt
          simp only [q]
          exact if_pos c
        · rw [st_same k0, List.map_append]
          rfl
      · walk_at "go"
        refine ⟨t2, _, _, en _ ?_, rfl, k0, k1⟩
        unfold dropSt
        simp only [q]
        exact if_neg c
    refine w_dec (fun c => ?_) (fun c => ?_)
    · walk_at "go"
      refine ⟨_, rfl, ⟨_, e2⟩, ?_⟩
      walk_at "go"
      refine ⟨_, e2, szl _ (by rw [List.length_map]; omega), ?_⟩
      refine rest (t ++ [(r.1, min r.2 (low - 1))]) _ (by simp) (if_pos c) ?_ (e3.set (Nat.le_refl _))
      rw [st_same e2, List.map_append]
      rfl
    · walk_at "go1"
      exact rest t _ (by omega) (if_neg c) e2 e3
  · subst e1
    walk_at "go"
    refine w_let rfl e2 ?_
    walk_at "go"
    refine w_compF pD (fun r => decide (r.1 ≤ r.2)) pD t [] (sz _ ?_) (fun x hx => ?_) ?_
    · have tl := drop_len low high rs []
      rw [← e0, List.length_nil] at tl
      simp
      omega
    · refine ⟨_, rfl, ?_, fun _ => ?_⟩
      · walk_at "go"
        refine w_ix rfl (y := .int x.1) rfl ?_
        walk_at "go"
        refine w_ix rfl (y := .int x.2) rfl ?_
        walk_at "go"
        exact ⟨rfl, rfl⟩
      · walk_at "go"
        exact ⟨rfl, rfl⟩
    · walk_at "go"
      rw [List.nil_append, e0]
      exact h _ (e3.set (Nat.le_refl _))

theorem dropR_len (rs : List Rg) (low high : Int) : (dropR rs low high).length ≤ 2 * rs.length := by
  unfold dropR
  refine Nat.le_trans (List.length_filter_le _ _) ?_
  have := drop_len low high rs []
  rw [List.length_nil] at this
  omega
theorem w_drop_all {rs os : List Rg} (hl : ∀ pre post : List Rg, os = pre ++ post → (dropAll rs pre).length ≤ 10000) (h : ∀ S', Gw S S' → Q (.lst ((dropAll rs os).map pD)) S') : WE (fn_drop_all a [.lst (rs.map pD), .lst (os.map pD)] S) Q := by
  refine w_fn ?_
  unfold ev_drop_all
  walk_at "go"
  refine w_pre pD (fun pre σ S' => ∃ (o4 o5 : Option D), σ = [some (.lst ((dropAll rs pre).map pD)), some (.lst (os.map pD)), o4, o5] ∧ Gw S S')
    ⟨_, _, rfl, Gw.refl S⟩ (fun pre r post σ S' e ⟨o4, o5, e1, e3⟩ => ?_) fun σ S' ⟨o4, o5, e1, e3⟩ => ?_
  · subst e1
    show ∃ σ1 S1, gtTup _ (.tup [.int r.1, .int r.2]) _ _ = some (σ1, S1) ∧ _
    walk_at "go"
    refine w_drop_range (hl _ _ e) fun S2 g => ?_
    refine ⟨some (.int r.1), some (.int r.2), ?_, e3.trans g⟩
    unfold dropAll
    rw [List.foldl_append]
    rfl
  · subst e1
    walk_at "go"
    exact h _ e3
theorem w_gaps {rs : List Rg} {low high : Int} (hl : low ≤ high → ∀ pre post : List Rg, rs = pre ++ post → (dropAll [(low, high)] pre).length ≤ 10000) (h : ∀ S', Gw S S' → Q (.lst ((if low ≤ high then dropAll [(low, high)] rs else []).map pD)) S') : WE (fn_gaps a [.lst (rs.map pD), .int low, .int high] S) Q := by
  refine w_fn ?_
  unfold ev_gaps
  walk_at "go"
  refine w_dec (fun c => ?_) (fun c => ?_)
  · walk_at "go"
    refine w_drop_all (rs := [(low, high)]) (hl c) fun S' g => ?_
    have := h S' g
    rwa [if_pos c] at this
  · walk_at "go"
    have := h S (Gw.refl S)
    rwa [if_neg c] at this
end

/-! the law's own -/
theorem stepR_len (n : Int) (f : List Rg) : (stepR f n).length ≤ f.length + 1 := by
  rcases List.eq_nil_or_concat f with e | ⟨g, l, e⟩
  · subst e
    rw [stepR_nil]
    simp
  · rw [List.concat_eq_append] at e
    subst e
    rw [stepR_app]
    split <;> simp
theorem steps_len : ∀ (ns : List Int) (f : List Rg), (ns.foldl stepR f).length ≤ f.length + ns.length
  | [], f => by simp
  | n :: ns, f => by
    rw [List.foldl_cons, List.length_cons]
    have h1 := steps_len ns (stepR f n)
    have h2 := stepR_len n f
    omega
theorem srtU_len (ns : List Int) : (srtU ns).length ≤ ns.length := by
  unfold srtU
  rw [(srtI_perm _).length_eq]
  exact ddI_len ns
theorem rof_len (ns : List Int) : (rof ns).length ≤ ns.length := by
  have h1 := steps_len (srtU ns) []
  have h2 := srtU_len ns
  rw [List.length_nil] at h1
  unfold rof
  omega
/-- as many ranges as numbers, at most -/
theorem can_len {rs : List Rg} {ns : List Int} (h : Can rs) (m : ∀ k, memR k rs → k ∈ ns) : rs.length ≤ ns.length := by
  have e : rs = rof (ns.filter fun k => @decide (memR k rs) (Classical.propDecidable _)) := rof_eq h fun k => by
    rw [List.mem_filter, @decide_eq_true_iff _ (Classical.propDecidable _)]
    exact ⟨fun q => ⟨m k q, q⟩, fun q => q.2⟩
  rw [e]
  exact Nat.le_trans (rof_len _) (List.length_filter_le _ _)

section
variable {a : CA} {S : Store} {Q : D → Store → Prop}
theorem w_copy : ∀ (n : Nat) (d : D) (S : Store) (Q : D → Store → Prop), Pl n d → Q d S → WE (fn_law_copy a n [d] S) Q
  | 0, _, _, _, hp, _ => False.elim hp
  | n + 1, d, S, Q, hp, h => by
    show WE (fnOf 4 (ev_law_copy a (fn_law_copy a n)) [d] S) Q
    refine w_fn ?_
    show WS (ev_law_copy a (fn_law_copy a n) [some d, none, none, none] S) _ _ _ _
    unfold ev_law_copy
    have hseq : ∀ (ds : List D) (QL : List D → Store → Prop), ds.length ≤ sizeLine → (∀ x ∈ ds, Pl n x) → QL ds S →
        WE (compD (gtName 3) evYes (evL (opCall 1 (fn_law_copy a n)) (evCons (evVar 3) evNil)) (wipeD [some d, none, none, none] [3]) (ds.map id) [] S) QL := fun ds QL hl hds hQ => by
      refine w_compM id id ds hl (fun x hx => ⟨_, rfl, ?_⟩) (by rw [List.map_id]; exact hQ)
      walk_at "go"
      exact w_copy n _ _ _ (hds x hx) ⟨rfl, rfl⟩
    cases d with
    | lst ds =>
      have hp : ds.length ≤ sizeLine ∧ ∀ x ∈ ds, Pl n x := by simp only [Pl] at hp; exact hp
      walk_at "go"
      have q := hseq ds (fun acc S2 => WE (mkL false acc S2) Q) hp.1 hp.2 h
      rw [List.map_id] at q
      exact q
    | tup ds =>
      have hp : ds.length ≤ sizeLine ∧ ∀ x ∈ ds, Pl n x := by simp only [Pl] at hp; exact hp
      walk_at "go"
      have q := hseq ds (fun acc S2 => Q (.tup acc) S2) hp.1 hp.2 h
      rw [List.map_id] at q
      exact q
    | int i =>
      walk_at "go"
      exact h
    | bl i =>
      walk_at "go"
      exact h
    | str i =>
      walk_at "go"
      exact h
    | non =>
      walk_at "go"
      exact h
    | _ => exact False.elim hp
end

theorem pl_int {n : Nat} {k : Int} : Pl (n + 1) (.int k) := trivial
theorem pl_bl {n : Nat} {k : Bool} : Pl (n + 1) (.bl k) := trivial
theorem pl_list {n : Nat} {ds : List D} (h : ds.length ≤ 16777216) (h2 : ∀ d ∈ ds, Pl n d) : Pl (n + 1) (.lst ds) := by
  simp only [Pl]
  exact ⟨h, h2⟩
theorem pl_pD {n : Nat} {r : Rg} : Pl (n + 2) (pD r) := by
  unfold pD
  simp only [Pl]
  refine ⟨by show 2 ≤ 16777216; omega, fun d hd => ?_⟩
  simp at hd
  rcases hd with e | e <;> (subst e; exact trivial)
theorem pl_rs {n : Nat} {rs : List Rg} (h : rs.length ≤ 10000) : Pl (n + 3) (.lst (rs.map pD)) := pl_list (by rw [List.length_map]; omega) fun d hd => by
  obtain ⟨r, _, e⟩ := List.mem_map.mp hd
  subst e
  exact pl_pD
theorem pl_l4 {n : Nat} {p q r s : D} (h1 : Pl n p) (h2 : Pl n q) (h3 : Pl n r) (h4 : Pl n s) : Pl (n + 1) (.lst [p, q, r, s]) := pl_list (by simp) fun d hd => by
  simp at hd
  rcases hd with e | e | e | e <;> (subst e; assumption)
theorem pl_l2 {n : Nat} {p q : D} (h1 : Pl n p) (h2 : Pl n q) : Pl (n + 1) (.lst [p, q]) := pl_list (by simp) fun d hd => by
  simp at hd
  rcases hd with e | e <;> (subst e; assumption)

theorem drw_gw {S S' : Store} (h : Drw S) (g : Gw S S') : Drw S' := by
  obtain ⟨ns, i, v, s, h0, h1⟩ := h.ex
  exact ⟨ns, i, v, s, g.get h0, h1⟩

/-! what an Outgoing holds; plain laws -/
structure OS where
  base : Int
  kept : List Int
  taken : Int
  sent : Int
  got : List Rg
  lost : List Rg
  fin : Bool
  last : Str
abbrev rgs (rs : List Rg) : D := .lst (rs.map pD)
abbrev nsD (ns : List Int) : D := .lst (ns.map D.int)
def og (C : Addr) (st kp : Int) (s : OS) : SO := .ins C [("stream", .int st), ("keep", .int kp), ("base", .int s.base), ("kept", nsD s.kept), ("taken", .int s.taken), ("sent", .int s.sent), ("got_ranges", rgs s.got), ("lost_ranges", rgs s.lost), ("finished", .bl s.fin), ("last", .str s.last)]
/-- a piece: its place, its octets, whether it is the last -/
structure PC where
  low : Int
  os : List Int
  l : Int
def pcD (st : Int) (p : PC) : D := .tup [.str "data", .int st, .int p.low, .tup (p.os.map D.int), .int p.l]
/-- one object changed, others may be new -/
structure Ch (n : Nat) (S S' : Store) : Prop where
  eq : ∀ m : Nat, m < S.length → m ≠ n → S'[m]? = S[m]?
  len : S.length ≤ S'.length
theorem Ch.refl (n : Nat) (S : Store) : Ch n S S := ⟨fun _ _ _ => rfl, Nat.le_refl _⟩
theorem Ch.of {n : Nat} {S S' : Store} (h : Gw S S') : Ch n S S' := ⟨fun m hm _ => h.eq m hm, h.len⟩
theorem Ch.trans {n : Nat} {S T U : Store} (h : Ch n S T) (h' : Ch n T U) : Ch n S U := ⟨fun m hm ne => (h'.eq m (Nat.lt_of_lt_of_le hm h.len) ne).trans (h.eq m hm ne), Nat.le_trans h.len h'.len⟩
theorem Ch.set {n : Nat} {S T : Store} {x : SO} (h : Ch n S T) : Ch n S (T.set n x) := ⟨fun m hm ne => by rw [List.getElem?_set_ne (Ne.symm ne)]; exact h.eq m hm ne, by simpa using h.len⟩
theorem Ch.get {n m : Nat} {S T : Store} {y : SO} (h : Ch n S T) (ne : m ≠ n) (e : S[m]? = some y) : T[m]? = some y := (h.eq m (List.getElem?_eq_some_iff.mp e).1 ne).trans e
theorem Ch.gw {n : Nat} {S T U : Store} (h : Ch n S T) (g : Gw T U) : Ch n S U := h.trans (Ch.of g)
/-! deeds -/
def OS.lastOf (s : OS) (high : Int) : Bool := s.fin && decide (high = s.taken)
def OS.piece (s : OS) (low high : Int) : OS :=
  { s with lost := if high > low then dropR s.lost low (high - 1) else s.lost, sent := max s.sent high, last := if s.lastOf high = true ∧ s.last ≠ "got" then "flying" else s.last }
def OS.cut (s : OS) (low high : Int) : List Int := (s.kept.drop (low - s.base).toNat).take ((high - s.base).toNat - (low - s.base).toNat)
def OS.pieceOf (s : OS) (low high : Int) : PC := ⟨low, s.cut low high, if s.lastOf high then 1 else 0⟩
def PC.high (p : PC) : Int := p.low + p.os.length - 1
def OS.gotA (s : OS) (p : PC) : OS :=
  { s with lost := if p.high ≥ p.low then dropR s.lost p.low p.high else s.lost, got := if p.high ≥ p.low ∧ p.high ≥ s.base then putR s.got (max p.low s.base) p.high else s.got, last := if p.l = 1 then "got" else s.last }
def OS.gotB (s : OS) : OS := match s.got with
  | [] => s
  | r :: rs => if r.1 = s.base then { s with kept := s.kept.drop (r.2 + 1 - s.base).toNat, base := r.2 + 1, got := rs } else s
def OS.dueOf (s : OS) (p : PC) : List Rg := if p.high ≥ max p.low s.base then dropAll [(max p.low s.base, p.high)] s.got else []
def OS.lostOf (s : OS) (p : PC) : OS := { s with lost := (s.dueOf p).foldl (fun t o => putR t o.1 o.2) s.lost, last := if p.l = 1 ∧ s.last = "flying" then "lost" else s.last }
def OS.lostB (s : OS) (p : PC) : Bool := if p.l = 1 ∧ s.last = "flying" then true else decide (((s.dueOf p).length : Int) > 0)

theorem w_cutS {s : EvS} {σ : Sg} {S : Store} {N B C : Sg → Store → Prop} {R : D → Store → Prop} (N' : Sg → Store → Prop) (h : WS (s σ S) N' (fun _ _ => False) (fun _ _ => False) (fun _ _ => False)) (k : ∀ σ S, N' σ S → N σ S) : WS (s σ S) N B C R :=
  h.mono k (fun _ _ f => f.elim) (fun _ _ f => f.elim) (fun _ _ f => f.elim)
theorem atI_0 {x : D} {xs : List D} : atI (x :: xs) 0 = some x := by
  unfold atI ixN
  rw [if_pos (by omega), if_pos (by simp)]
  rfl
section
variable {a : CA} {n : Nat} {st kp : Int} {S : Store} {Q : D → Store → Prop}
theorem st_len1 {S T : Store} {x : SO} (h : S[n]? = some x) : n < S.length := (List.getElem?_eq_some_iff.mp h).1
theorem w_write {s : OS} {os : List Int} (hf : s.fin = false) (hl : os.length ≤ 10000 ∧ s.kept.length ≤ 10000) (hS : S[n]? = some (og a.cOutgoing st kp s))
    (h0 : 0 ≤ min (min (os.length : Int) (s.base + kp - s.taken)) (16777215 - s.taken))
    (h : Q (.int (min (min (os.length : Int) (s.base + kp - s.taken)) (16777215 - s.taken))) (S.set n (og a.cOutgoing st kp { s with kept := s.kept ++ os.take (min (min (os.length : Int) (s.base + kp - s.taken)) (16777215 - s.taken)).toNat, taken := s.taken + min (min (os.length : Int) (s.base + kp - s.taken)) (16777215 - s.taken) }))) :
    WE (fn_Outgoing_write a [.ref n, nsD os] S) Q := by
  obtain ⟨b, k, t, se, g, lo, fi, la⟩ := s
  simp only at hf
  subst hf
  simp only [og] at hS
  refine w_fn ?_
  unfold ev_Outgoing_write
  walk_at "go"
  refine w_len rfl ?_
  rw [List.length_map]
  walk_at "go"
  simp only at h0 h
  generalize hm : min (min (os.length : Int) (b + kp - t)) (16777215 - t) = m at *
  refine w_list rfl ?_
  walk_at "go"
  rw [cut_to h0, ← List.map_take]
  with_reducible refine w_cat ?_ ?_
  · rw [List.length_map, List.length_map, List.length_take]
    exact sz _ (by simp only at hl; omega)
  rw [← List.map_append]
  walk_at "go"
  refine w_fldA ?_
  walk_at "go"
  refine ⟨_, _, _, _, rfl, st_same hS, List.mem_singleton.mpr rfl, rfl, ?_⟩
  walk_at "go"
  refine ⟨_, _, rfl, st_same hS, Nat.le_of_ble_eq_true rfl, ?_⟩
  walk_at "go"
  rw [List.set_set]
  exact h
theorem w_finish {s : OS} (hf : s.fin = false) (hS : S[n]? = some (og a.cOutgoing st kp s)) (h : Q .non (S.set n (og a.cOutgoing st kp { s with fin := true }))) : WE (fn_Outgoing_finish a [.ref n] S) Q := by
  obtain ⟨b, k, t, se, g, lo, fi, la⟩ := s
  simp only at hf
  subst hf
  simp only [og] at hS
  refine w_fn ?_
  unfold ev_Outgoing_finish
  walk_at "go"
  exact h
theorem w_is_done {s : OS} (hS : S[n]? = some (og a.cOutgoing st kp s)) (h : Q (.bl (s.fin && (decide (s.last = "got") && decide (s.base = s.taken)))) S) : WE (fn_Outgoing_is_done a [.ref n] S) Q := by
  obtain ⟨b, k, t, se, g, lo, fi, la⟩ := s
  simp only [og] at hS
  refine w_fn ?_
  unfold ev_Outgoing_is_done
  walk_at "all"
  all_goals simp_all
theorem w_oinit (hk : 1 ≤ kp) (hS : S[n]? = some (.ins a.cOutgoing [])) (h : Q .non (S.set n (og a.cOutgoing st kp ⟨0, [], 0, 0, [], [], false, "unsent"⟩))) : WE (fn_Outgoing_init a [.ref n, .int st, .int kp] S) Q := by
  refine w_fn ?_
  unfold ev_Outgoing_init
  walk_at "go"
  refine w_dec (fun c => absurd c (by omega)) (fun c => ?_)
  walk_at "go"
  simp only [List.set_set]
  exact h
theorem w_piece {s : OS} {low high : Int} (hl : s.lost.length ≤ 10000) (h0 : s.base ≤ low) (h1 : low ≤ high) (hS : S[n]? = some (og a.cOutgoing st kp s))
    (h : ∀ S', Ch n S S' → S'[n]? = some (og a.cOutgoing st kp (s.piece low high)) → Q (pcD st (s.pieceOf low high)) S') : WE (fn_Outgoing_piece a [.ref n, .int low, .int high] S) Q := by
  obtain ⟨b, k, t, se, g, lo, fi, la⟩ := s
  simp only at hl h0
  refine w_fn ?_
  unfold ev_Outgoing_piece
  have hS' := hS
  simp only [og] at hS'
  refine w_seq ?_
  refine w_cutS (fun σ S2 => σ = [some (.ref n), some (.int low), some (.int high), none] ∧ Ch n S S2 ∧ S2[n]? = some (og a.cOutgoing st kp ⟨b, k, t, se, g, if high > low then dropR lo low (high - 1) else lo, fi, la⟩)) ?_ fun σ S2 ⟨e1, ch, k0⟩ => ?_
  · walk_at "go"
    refine w_dec (fun c => ?_) (fun c => ?_)
    · walk_at "go"
      refine w_drop_range hl fun S1 g1 => ?_
      have k1 := g1.get hS'
      walk_at "go"
      refine ⟨rfl, (Ch.of g1).set, ?_⟩
      rw [st_same k1, if_pos c]
      rfl
    · walk_at "go"
      refine ⟨rfl, (Ch.refl n S).set, ?_⟩
      rw [st_same hS', if_neg c]
      rfl
  · subst e1
    generalize el : (if high > low then dropR lo low (high - 1) else lo) = lo2 at k0
    simp only [og] at k0
    refine w_seq ?_
    refine w_cutS (fun σ S3 => σ = [some (.ref n), some (.int low), some (.int high), none] ∧ Ch n S S3 ∧ S3[n]? = some (og a.cOutgoing st kp ⟨b, k, t, max se high, g, lo2, fi, la⟩)) ?_ fun σ S3 ⟨e1, ch, k0⟩ => ?_
    · walk_at "go"
      exact ⟨rfl, ch.set, st_same k0⟩
    · subst e1
      simp only [og] at k0
      refine w_seq ?_
      refine w_cutS (fun σ S4 => σ = [some (.ref n), some (.int low), some (.int high), some (.bl (fi && decide (high = t)))] ∧ S4 = S3) ?_ fun σ S4 ⟨e1, e2⟩ => ?_
      · walk_at "go"
        refine w_any (fun c => ?_) (fun c => ?_)
        · walk_at "go"
          subst c
          exact ⟨rfl, rfl⟩
        · walk_at "go"
          subst c
          exact ⟨rfl, rfl⟩
      · subst e1; subst e2
        refine w_seq ?_
        refine w_cutS (fun σ S5 => σ = [some (.ref n), some (.int low), some (.int high), some (.bl (fi && decide (high = t)))] ∧ Ch n S S5 ∧ S5[n]? = some (og a.cOutgoing st kp ((OS.mk b k t se g lo fi la).piece low high))) ?_ fun σ S5 ⟨e1, ch5, k5⟩ => ?_
        · generalize hb : (fi && decide (high = t)) = bb
          have ep : ∀ la2 : Str, (if bb = true ∧ la ≠ "got" then ("flying" : Str) else la) = la2 → (OS.mk b k t se g lo fi la).piece low high = ⟨b, k, t, max se high, g, lo2, fi, la2⟩ := fun la2 q => by
            unfold OS.piece OS.lastOf
            simp only [hb, el]
            rw [q]
          walk_at "go"
          refine w_any (fun c => ?_) (fun c => ?_)
          · walk_at "go"
            refine w_ndec (fun d => ?_) (fun d => ?_)
            · walk_at "go"
              refine ⟨rfl, ch.set, ?_⟩
              rw [ep _ (if_pos ⟨c, d⟩)]
              exact st_same k0
            · walk_at "go"
              refine ⟨rfl, ch, ?_⟩
              rw [ep _ (if_neg fun z => z.2 d)]
              exact k0
          · walk_at "go"
            refine ⟨rfl, ch, ?_⟩
            rw [ep _ (if_neg fun z => by rw [c] at z; exact Bool.noConfusion z.1)]
            exact k0
        · subst e1
          have k6 := k5
          simp only [og, OS.piece] at k6
          walk_at "go"
          rw [cut_mid (by omega) (by omega), ← List.map_drop, ← List.map_take]
          refine w_any (fun c => ?_) (fun c => ?_)
          · walk_at "go"
            have := h _ ch5 k5
            unfold pcD OS.pieceOf OS.lastOf OS.cut at this
            simp only [c] at this
            exact this
          · walk_at "go"
            have := h _ ch5 k5
            unfold pcD OS.pieceOf OS.lastOf OS.cut at this
            simp only [c] at this
            exact this
theorem w_next {s : OS} {most upto : Int} (hm : 1 ≤ most) (hl : s.lost.length ≤ 10000) (hr : ∀ r rs, s.lost = r :: rs → s.base ≤ r.1 ∧ r.1 ≤ r.2) (hb : s.base ≤ s.sent ∧ s.sent ≤ s.taken) (hS : S[n]? = some (og a.cOutgoing st kp s))
    (hA : ∀ r rs, s.lost = r :: rs → ∀ S', Ch n S S' → S'[n]? = some (og a.cOutgoing st kp (s.piece r.1 (min (r.2 + 1) (r.1 + most)))) → Q (pcD st (s.pieceOf r.1 (min (r.2 + 1) (r.1 + most)))) S')
    (hB : s.lost = [] → min (min s.taken upto) (s.sent + most) > s.sent → ∀ S', Ch n S S' → S'[n]? = some (og a.cOutgoing st kp (s.piece s.sent (min (min s.taken upto) (s.sent + most)))) → Q (pcD st (s.pieceOf s.sent (min (min s.taken upto) (s.sent + most)))) S')
    (hC : s.lost = [] → s.fin = true → s.last ∈ (["unsent", "lost"] : List Str) → s.sent = s.taken → ∀ S', Ch n S S' → S'[n]? = some (og a.cOutgoing st kp (s.piece s.taken s.taken)) → Q (pcD st (s.pieceOf s.taken s.taken)) S')
    (hD : Q .non S) : WE (fn_Outgoing_next a [.ref n, .int most, .int upto] S) Q := by
  have hS' := hS
  obtain ⟨b, k, t, se, g, lo, fi, la⟩ := s
  simp only [og] at hS'
  simp only at hl hr hb hA hB hC
  refine w_fn ?_
  unfold ev_Outgoing_next
  walk_at "go"
  refine w_dec (fun c => absurd c (by omega)) (fun _ => ?_)
  walk_at "go"
  refine w_len rfl ?_
  rw [List.length_map]
  walk_at "go"
  cases lo with
  | cons r rs =>
    obtain ⟨r0, r1⟩ := hr r rs rfl
    refine w_dec (fun _ => ?_) (fun c => absurd c (by simp))
    walk_at "go"
    refine w_dec (fun _ => ?_) (fun c => absurd c (by omega))
    walk_at "go"
    refine w_ix rfl (y := .tup [.int r.1, .int r.2]) atI_0 ?_
    walk_at "go"
    refine ⟨_, _, rfl, hS', rfl, ?_⟩
    walk_at "go"
    refine ⟨rfl, ?_⟩
    refine w_piece hl r0 (by omega) hS fun S' ch k' => ?_
    exact hA r rs rfl S' ch k'
  | nil =>
    refine w_dec (fun c => absurd c (by simp)) (fun _ => ?_)
    walk_at "go"
    refine w_dec (fun c => ?_) (fun c => ?_)
    · walk_at "go"
      refine ⟨_, _, rfl, hS', rfl, ?_⟩
      walk_at "go"
      refine ⟨rfl, ?_⟩
      refine w_piece hl hb.1 (by omega) hS fun S' ch k' => ?_
      exact hB rfl c S' ch k'
    · walk_at "go"
      refine w_any (fun cf => ?_) (fun _ => ?_)
      · walk_at "go"
        refine w_inS (neg := false) ["unsent", "lost"] rfl ?_
        walk_at "go"
        refine w_dec (fun cl => ?_) (fun _ => ?_)
        · walk_at "go"
          refine w_dec (fun ct => ?_) (fun _ => ?_)
          · walk_at "go"
            refine ⟨_, _, rfl, hS', rfl, ?_⟩
            walk_at "go"
            refine ⟨rfl, ?_⟩
            refine w_piece hl (show b ≤ t by omega) (Int.le_refl _) hS fun S' ch k' => ?_
            exact hC rfl cf cl ct S' ch k'
          · walk_at "go"
            exact hD
        · walk_at "go"
          exact hD
      · walk_at "go"
        exact hD
theorem w_got {s : OS} {p : PC} (hl : s.lost.length ≤ 10000 ∧ s.got.length ≤ 10000) (hb : ∀ r rs, (s.gotA p).got = r :: rs → s.base ≤ r.2) (hS : S[n]? = some (og a.cOutgoing st kp s))
    (h : ∀ S', Ch n S S' → S'[n]? = some (og a.cOutgoing st kp (s.gotA p).gotB) → Q .non S') : WE (fn_Outgoing_got a [.ref n, pcD st p] S) Q := by
  have hS' := hS
  obtain ⟨b, k, t, se, g, lo, fi, la⟩ := s
  simp only [og] at hS'
  simp only at hl
  refine w_fn ?_
  unfold ev_Outgoing_got
  refine w_seq ?_
  refine w_cutS (fun σ S1 => σ = [some (.ref n), some (pcD st p), some (.int p.low), some (.int p.high), none] ∧ S1 = S) ?_ fun σ S1 ⟨e1, e2⟩ => ?_
  · walk_at "go"
    refine w_ix (ds := [.str "data", .int st, .int p.low, .tup (p.os.map D.int), .int p.l]) rfl (y := .int p.low) rfl ?_
    walk_at "go"
    refine w_ix (ds := [.str "data", .int st, .int p.low, .tup (p.os.map D.int), .int p.l]) rfl (y := .int p.low) rfl ?_
    walk_at "go"
    refine w_ix (ds := [.str "data", .int st, .int p.low, .tup (p.os.map D.int), .int p.l]) rfl (y := .tup (p.os.map D.int)) rfl ?_
    walk_at "go"
    refine w_len rfl ?_
    rw [List.length_map]
    walk_at "go"
    exact ⟨rfl, rfl⟩
  rw [e1, e2]
  clear e1 e2
  refine w_seq ?_
  refine w_cutS (fun σ S2 => σ = [some (.ref n), some (pcD st p), some (.int p.low), some (.int p.high), none] ∧ Ch n S S2 ∧ S2[n]? = some (og a.cOutgoing st kp { (OS.mk b k t se g lo fi la).gotA p with last := la })) ?_ fun σ S2 ⟨e1, ch2, k2⟩ => ?_
  · walk_at "go"
    refine w_dec (fun c => ?_) (fun c => ?_)
    · walk_at "go"
      refine w_drop_range hl.1 fun S1 g1 => ?_
      have k1 := g1.get hS'
      walk_at "go"
      refine w_dec (fun d => ?_) (fun d => ?_)
      · walk_at "go"
        refine w_put_range hl.2 fun S3 g3 => ?_
        have k3 := g3.get (st_same (x := SO.ins a.cOutgoing (putFD "lost_ranges" (D.lst (List.map pD (dropR lo p.low p.high))) [("stream", .int st), ("keep", .int kp), ("base", .int b), ("kept", nsD k), ("taken", .int t), ("sent", .int se), ("got_ranges", rgs g), ("lost_ranges", rgs lo), ("finished", .bl fi), ("last", .str la)])) k1)
        walk_at "go"
        refine ⟨rfl, (((Ch.of g1).set).gw g3).set, ?_⟩
        rw [st_same k3]
        unfold OS.gotA
        simp only [if_pos c, if_pos (show p.high ≥ p.low ∧ p.high ≥ b from ⟨c, d⟩)]
        rfl
      · walk_at "go"
        refine ⟨rfl, (Ch.of g1).set, ?_⟩
        rw [st_same k1]
        unfold OS.gotA
        simp only [if_pos c, if_neg (show ¬ (p.high ≥ p.low ∧ p.high ≥ b) from fun z => d z.2)]
        rfl
    · walk_at "go"
      refine ⟨rfl, Ch.refl n S, ?_⟩
      rw [hS]
      unfold OS.gotA
      simp only [if_neg c, if_neg (show ¬ (p.high ≥ p.low ∧ p.high ≥ b) from fun z => c z.1)]
  subst e1
  have k2' := k2
  simp only [og] at k2'
  refine w_seq ?_
  refine w_cutS (fun σ S3 => σ = [some (.ref n), some (pcD st p), some (.int p.low), some (.int p.high), none] ∧ Ch n S S3 ∧ S3[n]? = some (og a.cOutgoing st kp ((OS.mk b k t se g lo fi la).gotA p))) ?_ fun σ S3 ⟨e1, ch3, k3⟩ => ?_
  · walk_at "go"
    refine w_ix (ds := [.str "data", .int st, .int p.low, .tup (p.os.map D.int), .int p.l]) rfl (y := .int p.l) rfl ?_
    walk_at "go"
    refine w_dec (fun c => ?_) (fun c => ?_)
    · walk_at "go"
      refine ⟨rfl, ch2.set, ?_⟩
      rw [st_same k2']
      unfold OS.gotA
      simp only [if_pos c]
      rfl
    · walk_at "go"
      refine ⟨rfl, ch2, ?_⟩
      rw [k2]
      unfold OS.gotA
      simp only [if_neg c]
  subst e1
  generalize hA : (OS.mk b k t se g lo fi la).gotA p = A at *
  have eb : A.base = b := by rw [← hA]; rfl
  obtain ⟨b4, k4, t4, se4, g4, lo4, fi4, la4⟩ := A
  simp only at eb hb
  subst eb
  have k3' := k3
  simp only [og] at k3'
  walk_at "go"
  refine w_len rfl ?_
  rw [List.length_map]
  walk_at "go"
  cases g4 with
  | nil =>
    refine w_dec (fun c => absurd c (by simp)) (fun _ => ?_)
    walk_at "go"
    exact h _ ch3 k3
  | cons r rs =>
    refine w_dec (fun _ => ?_) (fun c => absurd c (by simp))
    have hr := hb r rs rfl
    walk_at "go"
    refine w_ix rfl (y := .tup [.int r.1, .int r.2]) atI_0 ?_
    walk_at "go"
    refine w_ix rfl (y := .int r.1) rfl ?_
    walk_at "go"
    refine w_dec (fun c => ?_) (fun c => ?_)
    · walk_at "go"
      refine w_ix rfl (y := .tup [.int r.1, .int r.2]) atI_0 ?_
      walk_at "go"
      refine w_ix rfl (y := .int r.2) rfl ?_
      walk_at "go"
      rw [cut_from (by omega), cut_from (by omega)]
      simp only [List.set_set]
      refine h _ ch3.set ?_
      rw [st_same k3']
      unfold OS.gotB
      simp only [if_pos c]
      rw [← List.map_drop, ← List.map_drop]
      rfl
    · walk_at "go"
      refine h _ ch3 ?_
      rw [k3]
      unfold OS.gotB
      simp only [if_neg c]
end

/-! what stays so -/
structure Iv (N : Int) (G : Int → Prop) (s : OS) : Prop where
  b0 : 0 ≤ s.base
  bs : s.base ≤ s.sent
  st : s.sent ≤ s.taken
  tk : s.taken = N
  kl : (s.kept.length : Int) = s.taken - s.base
  fin : s.fin = true
  gc : Can s.got
  gm : ∀ k, memR k s.got ↔ s.base ≤ k ∧ G k
  gs : ∀ k, G k → 0 ≤ k ∧ k < s.sent
  gb : ∀ k, 0 ≤ k → k < s.base → G k
  gn : ¬ G s.base
  lc : Can s.lost
  lm : ∀ k, memR k s.lost → 0 ≤ k ∧ k < s.sent ∧ ¬ G k
structure Pk (s : OS) (p : PC) : Prop where
  lo : 0 ≤ p.low
  hi : p.low + p.os.length ≤ s.sent
  l : p.l = 0 ∨ p.l = 1
theorem Pk.mono {s s' : OS} {p : PC} (h : Pk s p) (e : s.sent ≤ s'.sent) : Pk s' p := ⟨h.lo, Int.le_trans h.hi e, h.l⟩
theorem Iv.congr {N : Int} {G G' : Int → Prop} {s : OS} (h : Iv N G s) (e : ∀ k, G k ↔ G' k) : Iv N G' s :=
  ⟨h.b0, h.bs, h.st, h.tk, h.kl, h.fin, h.gc, fun k => by rw [h.gm k, e k], fun k q => h.gs k ((e k).mpr q), fun k q r => (e k).mp (h.gb k q r), fun q => h.gn ((e _).mpr q), h.lc, fun k q => ⟨(h.lm k q).1, (h.lm k q).2.1, fun z => (h.lm k q).2.2 ((e k).mpr z)⟩⟩
theorem can_len2 {rs : List Rg} {lo : Int} {n : Nat} (h : Can rs) (m : ∀ k, memR k rs → lo ≤ k ∧ k < lo + n) : rs.length ≤ n := by
  have := can_len (ns := rgI lo n) h fun k q => rgI_mem.mpr (m k q)
  rwa [rgI_len] at this
section
variable {N : Int} {G : Int → Prop} {s : OS}
theorem Iv.ll (h : Iv N G s) (hN : N ≤ 3000) : s.lost.length ≤ 3000 := can_len2 (lo := 0) h.lc fun k q => by
  have := h.lm k q
  have := h.st
  have := h.tk
  omega
theorem Iv.gl (h : Iv N G s) (hN : N ≤ 3000) : s.got.length ≤ 3000 := can_len2 (lo := 0) h.gc fun k q => by
  have := h.gs k ((h.gm k).mp q).2
  have := h.st
  have := h.tk
  omega
theorem iv_piece (h : Iv N G s) {low high : Int} (h0 : s.base ≤ low) (h1 : low ≤ high) (h2 : high ≤ s.taken) : Iv N G (s.piece low high) ∧ Pk (s.piece low high) (s.pieceOf low high) ∧ ((s.pieceOf low high).os.length : Int) = high - low ∧ (s.pieceOf low high).low = low ∧ ((s.piece low high).last = "got" ↔ s.last = "got") := by
  have b0 := h.b0
  have bs := h.bs
  have st := h.st
  have kl := h.kl
  have el : ((s.pieceOf low high).os.length : Int) = high - low := by
    show ((s.cut low high).length : Int) = _
    unfold OS.cut
    rw [List.length_take, List.length_drop]
    omega
  refine ⟨⟨h.b0, ?_, ?_, h.tk, h.kl, h.fin, h.gc, h.gm, fun k q => ?_, h.gb, h.gn, ?_, fun k q => ?_⟩, ⟨?_, ?_, ?_⟩, el, rfl, ?_⟩
  · show s.base ≤ max s.sent high
    omega
  · show max s.sent high ≤ s.taken
    omega
  · have := h.gs k q
    show 0 ≤ k ∧ k < max s.sent high
    omega
  · show Can (if high > low then dropR s.lost low (high - 1) else s.lost)
    split
    · exact (drop_can h.lc (by omega)).1
    · exact h.lc
  · have q : memR k (if high > low then dropR s.lost low (high - 1) else s.lost) := q
    have q2 : memR k s.lost := by
      split at q
      · exact (((drop_can h.lc (by omega)).2 k).mp q).1
      · exact q
    have := h.lm k q2
    refine ⟨this.1, ?_, this.2.2⟩
    show k < max s.sent high
    omega
  · show 0 ≤ low
    omega
  · rw [el]
    show low + (high - low) ≤ max s.sent high
    omega
  · show (if s.lastOf high then (1 : Int) else 0) = 0 ∨ (if s.lastOf high then (1 : Int) else 0) = 1
    split
    · exact .inr rfl
    · exact .inl rfl
  · show (if s.lastOf high = true ∧ s.last ≠ "got" then ("flying" : Str) else s.last) = "got" ↔ _
    split
    · rename_i c
      exact ⟨fun z => absurd z (by decide), fun z => absurd z c.2⟩
    · exact Iff.rfl
def Gp (G : Int → Prop) (p : PC) (k : Int) : Prop := G k ∨ (p.low ≤ k ∧ k ≤ p.high)
theorem gotA_gm (h : Iv N G s) {p : PC} (hp : Pk s p) : Can (s.gotA p).got ∧ (∀ k, memR k (s.gotA p).got ↔ s.base ≤ k ∧ Gp G p k) ∧ Can (s.gotA p).lost ∧ ∀ k, memR k (s.gotA p).lost → 0 ≤ k ∧ k < s.sent ∧ ¬ Gp G p k := by
  have key : Can (s.gotA p).got ∧ (∀ k, memR k (s.gotA p).got ↔ s.base ≤ k ∧ Gp G p k) := by
    show Can (if p.high ≥ p.low ∧ p.high ≥ s.base then putR s.got (max p.low s.base) p.high else s.got) ∧ ∀ k, memR k (if p.high ≥ p.low ∧ p.high ≥ s.base then putR s.got (max p.low s.base) p.high else s.got) ↔ _
    unfold Gp
    split
    · rename_i c
      obtain ⟨k1, k2⟩ := put_can h.gc (low := max p.low s.base) (high := p.high) (by omega)
      refine ⟨k1, fun k => ?_⟩
      rw [k2 k, h.gm k]
      constructor
      · rintro (q | q)
        · exact ⟨q.1, .inl q.2⟩
        · exact ⟨by omega, .inr (by omega)⟩
      · rintro ⟨q, q2 | q2⟩
        · exact .inl ⟨q, q2⟩
        · exact .inr (by omega)
    · rename_i c
      refine ⟨h.gc, fun k => ?_⟩
      rw [h.gm k]
      constructor
      · exact fun q => ⟨q.1, .inl q.2⟩
      · rintro ⟨q, q2 | q2⟩
        · exact ⟨q, q2⟩
        · exact absurd (show p.high ≥ p.low ∧ p.high ≥ s.base by omega) c
  refine ⟨key.1, key.2, ?_, fun k q => ?_⟩
  · show Can (if p.high ≥ p.low then dropR s.lost p.low p.high else s.lost)
    split
    · exact (drop_can h.lc (by omega)).1
    · exact h.lc
  · have q : memR k (if p.high ≥ p.low then dropR s.lost p.low p.high else s.lost) := q
    unfold Gp
    split at q
    · have q2 := ((drop_can h.lc (by omega)).2 k).mp q
      have := h.lm k q2.1
      exact ⟨this.1, this.2.1, fun z => z.elim this.2.2 q2.2⟩
    · have := h.lm k q
      exact ⟨this.1, this.2.1, fun z => z.elim this.2.2 fun z => by omega⟩
theorem iv_got (h : Iv N G s) {p : PC} (hp : Pk s p) : Iv N (Gp G p) (s.gotA p).gotB ∧ (s.gotA p).gotB.sent = s.sent ∧ (s.gotA p).gotB.last = (if p.l = 1 then ("got" : Str) else s.last) ∧ s.base ≤ (s.gotA p).gotB.base := by
  obtain ⟨k1, k2, k3, k4⟩ := gotA_gm h hp
  have b0 := h.b0
  have bs := h.bs
  have st := h.st
  have kl := h.kl
  have hi := hp.hi
  have lo := hp.lo
  have hgs : ∀ k, Gp G p k → 0 ≤ k ∧ k < s.sent := fun k q => by
    rcases q with q | q
    · exact h.gs k q
    · unfold PC.high at q
      omega
  have hgb : ∀ k, 0 ≤ k → k < s.base → Gp G p k := fun k q r => .inl (h.gb k q r)
  generalize hA : s.gotA p = A at *
  have e1 : A.base = s.base := by rw [← hA]; rfl
  have e2 : A.sent = s.sent := by rw [← hA]; rfl
  have e3 : A.taken = s.taken := by rw [← hA]; rfl
  have e4 : A.kept = s.kept := by rw [← hA]; rfl
  have e5 : A.fin = s.fin := by rw [← hA]; rfl
  have e6 : A.last = (if p.l = 1 then ("got" : Str) else s.last) := by rw [← hA]; rfl
  have same : ¬ Gp G p s.base → Iv N (Gp G p) A := fun hn =>
    ⟨by rw [e1]; exact h.b0, by rw [e1, e2]; exact h.bs, by rw [e2, e3]; exact h.st, by rw [e3]; exact h.tk, by rw [e4, e3, e1]; exact h.kl, by rw [e5]; exact h.fin, k1, by rw [e1]; exact k2, by rw [e2]; exact hgs, by rw [e1]; exact hgb, by rw [e1]; exact hn, k3, by rw [e2]; exact k4⟩
  unfold OS.gotB
  cases hg : A.got with
  | nil =>
    refine ⟨same fun z => ?_, e2, e6, by rw [e1]; exact Int.le_refl _⟩
    have := (k2 s.base).mpr ⟨Int.le_refl _, z⟩
    rw [hg] at this
    exact memR_nil this
  | cons r rs =>
    rw [hg] at k1 k2
    have hr := k1.le r (List.mem_cons_self ..)
    simp only
    by_cases c : r.1 = A.base
    · rw [if_pos c]
      rw [e1] at c
      have m2 := (k2 r.2).mp (memR_cons.mpr (.inl ⟨hr, Int.le_refl _⟩))
      have s2 := hgs _ m2.2
      refine ⟨⟨?_, ?_, ?_, ?_, ?_, ?_, k1.tail, fun k => ?_, ?_, fun k q q2 => ?_, fun q => ?_, k3, ?_⟩, e2, e6, ?_⟩
      · show 0 ≤ r.2 + 1
        omega
      · show r.2 + 1 ≤ A.sent
        omega
      · show A.sent ≤ A.taken
        omega
      · show A.taken = N
        rw [e3]; exact h.tk
      · show ((A.kept.drop (r.2 + 1 - A.base).toNat).length : Int) = A.taken - (r.2 + 1)
        rw [List.length_drop, e4, e3, e1]
        omega
      · show A.fin = true
        rw [e5]; exact h.fin
      · show memR k rs ↔ r.2 + 1 ≤ k ∧ _
        constructor
        · intro q
          have := k1.head q
          exact ⟨by omega, ((k2 k).mp (memR_cons.mpr (.inr q))).2⟩
        · rintro ⟨q, q2⟩
          rcases memR_cons.mp ((k2 k).mpr ⟨by omega, q2⟩) with q3 | q3
          · omega
          · exact q3
      · show ∀ k, Gp G p k → 0 ≤ k ∧ k < A.sent
        rw [e2]; exact hgs
      · have q2 : k < r.2 + 1 := q2
        by_cases d : k < s.base
        · exact hgb k q d
        · exact ((k2 k).mp (memR_cons.mpr (.inl (by omega)))).2
      · have q : Gp G p (r.2 + 1) := q
        rcases memR_cons.mp ((k2 (r.2 + 1)).mpr ⟨by omega, q⟩) with q3 | q3
        · omega
        · have := k1.head q3
          omega
      · show ∀ k, memR k A.lost → 0 ≤ k ∧ k < A.sent ∧ ¬ Gp G p k
        rw [e2]; exact k4
      · show s.base ≤ r.2 + 1
        omega
    · rw [if_neg c]
      refine ⟨same fun z => ?_, e2, e6, by rw [e1]; exact Int.le_refl _⟩
      have q := (k2 s.base).mpr ⟨Int.le_refl _, z⟩
      have q1 := k1.first q
      have q2 := ((k2 r.1).mp (memR_cons.mpr (.inl ⟨Int.le_refl _, hr⟩))).1
      omega
theorem got_hb (h : Iv N G s) {p : PC} (hp : Pk s p) : ∀ r rs, (s.gotA p).got = r :: rs → s.base ≤ r.2 := fun r rs e => by
  obtain ⟨k1, k2, _, _⟩ := gotA_gm h hp
  rw [e] at k1 k2
  have hr := k1.le r (List.mem_cons_self ..)
  exact ((k2 r.2).mp (memR_cons.mpr (.inl ⟨hr, Int.le_refl _⟩))).1
/-! lost ones -/
def putAll (rs os : List Rg) : List Rg := os.foldl (fun t o => putR t o.1 o.2) rs
theorem putAll_can : ∀ {os rs : List Rg}, Can rs → (∀ o ∈ os, o.1 ≤ o.2) → Can (putAll rs os) ∧ ∀ k, memR k (putAll rs os) ↔ memR k rs ∨ memR k os
  | [], rs, h, _ => ⟨h, fun k => ⟨.inl, fun q => q.elim id fun q => (memR_nil q).elim⟩⟩
  | o :: os, rs, h, l => by
    obtain ⟨d1, d2⟩ := put_can h (l o (List.mem_cons_self ..))
    obtain ⟨e1, e2⟩ := putAll_can (os := os) d1 fun x hx => l x (List.mem_cons_of_mem _ hx)
    refine ⟨e1, fun k => ?_⟩
    show memR k (putAll (putR rs o.1 o.2) os) ↔ _
    rw [e2 k, d2 k, memR_cons, or_assoc]
theorem one_can' {low high : Int} (l : low ≤ high) : Can [(low, high)] := ⟨List.pairwise_singleton _ _, fun r hr => by rw [List.mem_singleton.mp hr]; exact l⟩
theorem due_is (h : Iv N G s) {p : PC} (hp : Pk s p) : Can (s.dueOf p) ∧ ∀ k, memR k (s.dueOf p) ↔ (p.low ≤ k ∧ k ≤ p.high) ∧ ¬ G k := by
  have lo := hp.lo
  unfold OS.dueOf
  split
  · rename_i c
    obtain ⟨k1, k2⟩ := dropAll_can (os := s.got) (one_can' c) h.gc.le
    refine ⟨k1, fun k => ?_⟩
    rw [k2 k, memR_one, h.gm k]
    simp only
    constructor
    · rintro ⟨q, q2⟩
      exact ⟨by omega, fun z => q2 ⟨by omega, z⟩⟩
    · rintro ⟨q, q2⟩
      have : ¬ k < s.base := fun z => q2 (h.gb k (by omega) z)
      exact ⟨by omega, fun z => q2 z.2⟩
  · rename_i c
    refine ⟨can_nil, fun k => ⟨fun q => (memR_nil q).elim, fun q => ?_⟩⟩
    obtain ⟨q, q2⟩ := q
    have : ¬ k < s.base := fun z => q2 (h.gb k (by omega) z)
    omega
theorem iv_lost (h : Iv N G s) {p : PC} (hp : Pk s p) : Iv N G (s.lostOf p) ∧ (∀ k, memR k (s.lostOf p).lost ↔ memR k s.lost ∨ memR k (s.dueOf p)) ∧ ((s.lostOf p).last = "got" ↔ s.last = "got") := by
  obtain ⟨d1, d2⟩ := due_is h hp
  obtain ⟨k1, k2⟩ := putAll_can (os := s.dueOf p) h.lc d1.le
  have lo := hp.lo
  have hi := hp.hi
  refine ⟨⟨h.b0, h.bs, h.st, h.tk, h.kl, h.fin, h.gc, h.gm, h.gs, h.gb, h.gn, k1, fun k q => ?_⟩, k2, ?_⟩
  · rcases (k2 k).mp q with q | q
    · exact h.lm k q
    · have := (d2 k).mp q
      refine ⟨by omega, ?_, this.2⟩
      show k < s.sent
      unfold PC.high at this
      omega
  · show (if p.l = 1 ∧ s.last = "flying" then ("lost" : Str) else s.last) = "got" ↔ _
    split
    · rename_i c
      rw [c.2]
      exact ⟨fun z => absurd z (by decide), fun z => absurd z (by decide)⟩
    · exact Iff.rfl
theorem due_len (h : Iv N G s) {p : PC} (hp : Pk s p) (hN : N ≤ 3000) : (s.dueOf p).length ≤ 3000 := by
  obtain ⟨d1, d2⟩ := due_is h hp
  refine can_len2 (lo := 0) d1 fun k q => ?_
  have := (d2 k).mp q
  have := h.st
  have := h.tk
  have := hp.lo
  have := hp.hi
  unfold PC.high at *
  omega
theorem due_pre (h : Iv N G s) {p : PC} (hp : Pk s p) (hN : N ≤ 3000) : p.high ≥ max p.low s.base → ∀ pre post : List Rg, s.got = pre ++ post → (dropAll [(max p.low s.base, p.high)] pre).length ≤ 3000 := fun c pre post e => by
  obtain ⟨k1, k2⟩ := dropAll_can (os := pre) (one_can' c) fun o ho => h.gc.le o (by rw [e]; exact List.mem_append.mpr (.inl ho))
  refine can_len2 (lo := 0) k1 fun k q => ?_
  have := memR_one.mp ((k2 k).mp q).1
  have := h.st
  have := h.tk
  have := hp.lo
  have := hp.hi
  unfold PC.high at *
  omega
theorem lost_pre (h : Iv N G s) {p : PC} (hp : Pk s p) (hN : N ≤ 3000) : ∀ pre post : List Rg, s.dueOf p = pre ++ post → (pre.foldl (fun t o => putR t o.1 o.2) s.lost).length ≤ 3000 := fun pre post e => by
  obtain ⟨d1, d2⟩ := due_is h hp
  obtain ⟨k1, k2⟩ := putAll_can (os := pre) h.lc fun o ho => d1.le o (by rw [e]; exact List.mem_append.mpr (.inl ho))
  refine can_len2 (lo := 0) k1 fun k q => ?_
  have hst := h.st
  have htk := h.tk
  rcases (k2 k).mp q with q | q
  · have := h.lm k q
    omega
  · have := (d2 k).mp (by rw [e]; exact memR_app.mpr (.inl q))
    have := hp.lo
    have := hp.hi
    unfold PC.high at *
    omega
theorem can_ne {rs : List Rg} (h : Can rs) : rs ≠ [] ↔ ∃ k, memR k rs := by
  constructor
  · intro q
    cases rs with
    | nil => exact absurd rfl q
    | cons r rs => exact ⟨r.1, memR_cons.mpr (.inl ⟨Int.le_refl _, h.le r (List.mem_cons_self ..)⟩)⟩
  · rintro ⟨k, q⟩ e
    subst e
    exact memR_nil q
end

section
variable {a : CA} {n : Nat} {st kp : Int} {S : Store} {Q : D → Store → Prop}
theorem w_lost {s : OS} {p : PC} (hl : s.lost.length + (s.dueOf p).length ≤ 10000) (hd : p.high ≥ max p.low s.base → ∀ pre post : List Rg, s.got = pre ++ post → (dropAll [(max p.low s.base, p.high)] pre).length ≤ 10000)
    (hf : ∀ pre post : List Rg, s.dueOf p = pre ++ post → (pre.foldl (fun t o => putR t o.1 o.2) s.lost).length ≤ 10000) (hS : S[n]? = some (og a.cOutgoing st kp s))
    (h : ∀ S', Ch n S S' → S'[n]? = some (og a.cOutgoing st kp (s.lostOf p)) → Q (.bl (s.lostB p)) S') : WE (fn_Outgoing_lost a [.ref n, pcD st p] S) Q := by
  have hS' := hS
  obtain ⟨b, k, t, se, g, lo, fi, la⟩ := s
  simp only [og] at hS'
  simp only at hl hd hf
  refine w_fn ?_
  unfold ev_Outgoing_lost
  refine w_seq ?_
  refine w_cutS (fun σ S1 => σ = [some (.ref n), some (pcD st p), some (.int (max p.low b)), some (.int p.high), none, none, none] ∧ S1 = S) ?_ fun σ S1 ⟨e1, e2⟩ => ?_
  · walk_at "go"
    refine w_ix (ds := [.str "data", .int st, .int p.low, .tup (p.os.map D.int), .int p.l]) rfl (y := .int p.low) rfl ?_
    walk_at "go"
    refine w_ix (ds := [.str "data", .int st, .int p.low, .tup (p.os.map D.int), .int p.l]) rfl (y := .int p.low) rfl ?_
    walk_at "go"
    refine w_ix (ds := [.str "data", .int st, .int p.low, .tup (p.os.map D.int), .int p.l]) rfl (y := .tup (p.os.map D.int)) rfl ?_
    walk_at "go"
    refine w_len rfl ?_
    rw [List.length_map]
    walk_at "go"
    exact ⟨rfl, rfl⟩
  rw [e1, e2]
  clear e1 e2
  generalize hdu : (OS.mk b k t se g lo fi la).dueOf p = du at *
  refine w_seq ?_
  refine w_cutS (fun σ S2 => σ = [some (.ref n), some (pcD st p), some (.int (max p.low b)), some (.int p.high), some (rgs du), none, none] ∧ Ch n S S2 ∧ S2[n]? = some (og a.cOutgoing st kp ⟨b, k, t, se, g, lo, fi, la⟩)) ?_ fun σ S2 ⟨e1, ch2, k2⟩ => ?_
  · walk_at "go"
    refine w_dec (fun c => ?_) (fun c => ?_)
    · walk_at "go"
      refine w_drop_all (rs := [(max p.low b, p.high)]) (hd c) fun S1 g1 => ?_
      refine ⟨?_, Ch.of g1, g1.get hS⟩
      rw [← hdu]
      unfold OS.dueOf
      rw [if_pos c]
      rfl
    · walk_at "go"
      refine ⟨?_, Ch.refl n S, hS⟩
      rw [← hdu]
      unfold OS.dueOf
      rw [if_neg c]
      rfl
  subst e1
  walk_at "go1"
  refine w_cutS (fun σ S3 => ∃ o5 o6, σ = [some (.ref n), some (pcD st p), some (.int (max p.low b)), some (.int p.high), some (rgs du), o5, o6] ∧ Ch n S S3 ∧ S3[n]? = some (og a.cOutgoing st kp ⟨b, k, t, se, g, du.foldl (fun t o => putR t o.1 o.2) lo, fi, la⟩)) ?_ fun σ S3 ⟨o5, o6, e1, ch3, k3⟩ => ?_
  · walk_at "go"
    refine w_pre pD (fun pre σ S3 => ∃ o5 o6, σ = [some (.ref n), some (pcD st p), some (.int (max p.low b)), some (.int p.high), some (rgs du), o5, o6] ∧ Ch n S S3 ∧ S3[n]? = some (og a.cOutgoing st kp ⟨b, k, t, se, g, pre.foldl (fun t o => putR t o.1 o.2) lo, fi, la⟩)) ⟨_, _, rfl, ch2, k2⟩ (fun pre r post σ S3 e ⟨o5, o6, e1, ch3, k3⟩ => ?_) fun σ S3 ⟨o5, o6, e1, ch3, k3⟩ => ⟨_, _, e1, ch3, k3⟩
    subst e1
    have hz := hf _ _ e
    simp only [og] at k3
    show ∃ σ1 S1, gtTup _ (.tup [.int r.1, .int r.2]) _ _ = some (σ1, S1) ∧ _
    walk_at "go"
    refine w_put_range hz fun S4 g4 => ?_
    have k4 := g4.get k3
    walk_at "go"
    refine ⟨some (.int r.1), some (.int r.2), rfl, (ch3.gw g4).set, ?_⟩
    rw [st_same k4, List.foldl_append]
    rfl
  subst e1
  have k3' := k3
  simp only [og] at k3'
  have el : ∀ la2 : Str, (if p.l = 1 ∧ la = "flying" then ("lost" : Str) else la) = la2 → (OS.mk b k t se g lo fi la).lostOf p = ⟨b, k, t, se, g, du.foldl (fun t o => putR t o.1 o.2) lo, fi, la2⟩ := fun la2 q => by
    unfold OS.lostOf
    rw [hdu]
    simp only
    rw [q]
  have eB : (OS.mk b k t se g lo fi la).lostB p = if p.l = 1 ∧ la = "flying" then true else decide ((du.length : Int) > 0) := by
    unfold OS.lostB
    rw [hdu]
  have fin2 : ¬ (p.l = 1 ∧ la = "flying") → WS (evRet (ev2 opGt (evL opLen (evCons (evVar 4) evNil)) (evC (.int 0))) [some (.ref n), some (pcD st p), some (.int (max p.low b)), some (.int p.high), some (rgs du), o5, o6] S3) (fun _ S' => Q .non S') (fun _ _ => False) (fun _ _ => False) Q := fun c => by
    walk_at "go"
    refine w_len rfl ?_
    rw [List.length_map]
    walk_at "go"
    have := h S3 ch3 (by rw [el _ (if_neg c)]; exact k3)
    rw [eB, if_neg c] at this
    exact this
  walk_at "go"
  refine w_ix (ds := [.str "data", .int st, .int p.low, .tup (p.os.map D.int), .int p.l]) rfl (y := .int p.l) rfl ?_
  walk_at "go"
  refine w_dec (fun c => ?_) (fun c => ?_)
  · walk_at "go"
    refine w_dec (fun d => ?_) (fun d => ?_)
    · walk_at "go"
      have := h _ ch3.set (by rw [st_same k3', el _ (if_pos ⟨c, d⟩)] <;> rfl)
      rw [eB, if_pos ⟨c, d⟩] at this
      exact this
    · walk_at "go1"
      exact fin2 fun z => d z.2
  · walk_at "go1"
    exact fin2 fun z => c z.1
end

/-! what is handed out next, in general -/
def pickM (s : OS) (most upto : Int) : Option (Int × Int) :=
  if min (min s.taken upto) (s.sent + most) > s.sent then some (s.sent, min (min s.taken upto) (s.sent + most))
  else if s.fin = true ∧ s.last ∈ [Str.ofString "unsent", Str.ofString "lost"] ∧ s.sent = s.taken then some (s.taken, s.taken) else none
def pickB (s : OS) (most upto : Int) : Option (Int × Int) := match s.lost with
  | [] => pickM s most upto
  | r :: _ => if most > 0 then some (r.1, min (r.2 + 1) (r.1 + most)) else pickM s most upto
def pickO (s : OS) (most upto : Int) : Option (Int × Int) := if most < 0 then none else pickB s most upto
theorem pickB_nil {s : OS} {most upto : Int} (e : s.lost = []) : pickB s most upto = pickM s most upto := by
  unfold pickB
  rw [e]
theorem pickB_cons {s : OS} {most upto : Int} {r : Rg} {rs : List Rg} (e : s.lost = r :: rs) : pickB s most upto = if most > 0 then some (r.1, min (r.2 + 1) (r.1 + most)) else pickM s most upto := by
  unfold pickB
  rw [e]
def OS.due (s : OS) (u : Int) : Bool := (decide (s.lost ≠ []) || decide (min s.taken u > s.sent)) || (s.fin && (decide (s.last ∈ [Str.ofString "unsent", Str.ofString "lost"]) && decide (s.sent = s.taken)))
/-! walks that are more general -/
section
variable {a : CA} {n : Nat} {st kp : Int} {S : Store} {Q : D → Store → Prop}
theorem w_is_dueG {s : OS} (hS : S[n]? = some (og a.cOutgoing st kp s)) {u : Int} (h : Q (.bl (s.due u)) S) : WE (fn_Outgoing_is_due a [.ref n, .int u] S) Q := by
  obtain ⟨b, k, t, se, g, lo, fi, la⟩ := s
  simp only [og] at hS
  refine w_fn ?_
  unfold ev_Outgoing_is_due
  unfold OS.due at h
  simp only at h
  walk_at "go"
  refine w_len rfl ?_
  rw [List.length_map]
  walk_at "go"
  cases lo with
  | cons r rs =>
    rw [decide_eq_true (show r :: rs ≠ [] by simp), Bool.true_or, Bool.true_or] at h
    refine w_dec (fun _ => ?_) (fun c => absurd c (by simp))
    walk_at "go"
    exact h
  | nil =>
    rw [decide_eq_false (show ¬ (([] : List Rg) ≠ []) by simp), Bool.false_or] at h
    refine w_dec (fun c => absurd c (by simp)) (fun _ => ?_)
    walk_at "go"
    by_cases c2 : min t u > se
    · rw [decide_eq_true c2, Bool.true_or] at h
      rw [decide_eq_true c2]
      walk_at "go"
      exact h
    · rw [decide_eq_false c2, Bool.false_or] at h
      rw [decide_eq_false c2]
      walk_at "go"
      cases fi with
      | false =>
        walk_at "go"
        exact h
      | true =>
        rw [Bool.true_and] at h
        walk_at "go"
        refine w_inS [Str.ofString "unsent", Str.ofString "lost"] rfl ?_
        rw [if_neg Bool.false_ne_true]
        by_cases c3 : la ∈ [Str.ofString "unsent", Str.ofString "lost"]
        · rw [decide_eq_true c3] at h ⊢
          walk_at "go"
          exact h
        · rw [decide_eq_false c3] at h ⊢
          walk_at "go"
          exact h
theorem w_nextG {s : OS} {most upto : Int} (hl : s.lost.length ≤ 10000) (hS : S[n]? = some (og a.cOutgoing st kp s))
    (hp : ∀ low high, pickO s most upto = some (low, high) → s.base ≤ low ∧ low ≤ high)
    (hN : pickO s most upto = none → Q .non S)
    (hP : ∀ low high, pickO s most upto = some (low, high) → ∀ S', Ch n S S' → S'[n]? = some (og a.cOutgoing st kp (s.piece low high)) → Q (pcD st (s.pieceOf low high)) S') : WE (fn_Outgoing_next a [.ref n, .int most, .int upto] S) Q := by
  have hS' := hS
  obtain ⟨b, k, t, se, g, lo, fi, la⟩ := s
  simp only [og] at hS'
  simp only at hl hp
  refine w_fn ?_
  unfold ev_Outgoing_next
  walk_at "go"
  refine w_dec (fun c => ?_) (fun c0 => ?_)
  · walk_at "go"
    exact hN (if_pos c)
  walk_at "go"
  refine w_len rfl ?_
  rw [List.length_map]
  walk_at "go"
  have pe : pickO (OS.mk b k t se g lo fi la) most upto = pickB (OS.mk b k t se g lo fi la) most upto := if_neg c0
  by_cases cl : lo = []
  · have pn : pickO (OS.mk b k t se g lo fi la) most upto = pickM (OS.mk b k t se g lo fi la) most upto := by rw [pe]; exact pickB_nil cl
    refine w_dec (fun c => absurd c (by rw [cl]; simp)) (fun _ => ?_)
    walk_at "go"
    refine w_dec (fun c1 => ?_) (fun c1 => ?_)
    · walk_at "go"
      refine ⟨_, _, rfl, hS', rfl, ?_⟩
      walk_at "go"
      refine ⟨rfl, ?_⟩
      have e : pickO (OS.mk b k t se g lo fi la) most upto = some (se, min (min t upto) (se + most)) := by rw [pn]; exact if_pos c1
      exact w_piece hl (hp _ _ e).1 (hp _ _ e).2 hS fun S' ch k' => hP _ _ e S' ch k'
    · have pn2 : pickO (OS.mk b k t se g lo fi la) most upto = if fi = true ∧ la ∈ [Str.ofString "unsent", Str.ofString "lost"] ∧ se = t then some (t, t) else none := by rw [pn]; exact if_neg c1
      walk_at "go"
      refine w_any (fun cf => ?_) (fun cf => ?_)
      · walk_at "go"
        refine w_inS (neg := false) [Str.ofString "unsent", Str.ofString "lost"] rfl ?_
        walk_at "go"
        refine w_dec (fun cl => ?_) (fun cl => ?_)
        · walk_at "go"
          refine w_dec (fun ct => ?_) (fun ct => ?_)
          · walk_at "go"
            refine ⟨_, _, rfl, hS', rfl, ?_⟩
            walk_at "go"
            refine ⟨rfl, ?_⟩
            have e : pickO (OS.mk b k t se g lo fi la) most upto = some (t, t) := by rw [pn2]; exact if_pos ⟨cf, cl, ct⟩
            exact w_piece hl (hp _ _ e).1 (hp _ _ e).2 hS fun S' ch k' => hP _ _ e S' ch k'
          · walk_at "go"
            exact hN (by rw [pn2]; exact if_neg fun z => ct z.2.2)
        · walk_at "go"
          exact hN (by rw [pn2]; exact if_neg fun z => cl z.2.1)
      · walk_at "go"
        exact hN (by rw [pn2]; exact if_neg fun z => by rw [cf] at z; cases z.1)
  · obtain ⟨r, rs, er⟩ := List.exists_cons_of_ne_nil cl
    refine w_dec (fun _ => ?_) (fun c => absurd c (by rw [er, List.length_cons]; omega))
    walk_at "go"
    refine w_dec (fun cm => ?_) (fun cm => ?_)
    · walk_at "go"
      refine w_ix rfl (y := .tup [.int r.1, .int r.2]) (by rw [er]; exact atI_0) ?_
      walk_at "go"
      refine ⟨_, _, rfl, hS', rfl, ?_⟩
      walk_at "go"
      refine ⟨rfl, ?_⟩
      have e : pickO (OS.mk b k t se g lo fi la) most upto = some (r.1, min (r.2 + 1) (r.1 + most)) := by rw [pe, pickB_cons (rs := rs) er]; exact if_pos cm
      exact w_piece hl (hp _ _ e).1 (hp _ _ e).2 hS fun S' ch k' => hP _ _ e S' ch k'
    · have pn : pickO (OS.mk b k t se g lo fi la) most upto = pickM (OS.mk b k t se g lo fi la) most upto := by rw [pe, pickB_cons (rs := rs) er]; exact if_neg cm
      clear er cl cm pe
      walk_at "go"
      refine w_dec (fun c1 => ?_) (fun c1 => ?_)
      · walk_at "go"
        refine ⟨_, _, rfl, hS', rfl, ?_⟩
        walk_at "go"
        refine ⟨rfl, ?_⟩
        have e : pickO (OS.mk b k t se g lo fi la) most upto = some (se, min (min t upto) (se + most)) := by rw [pn]; exact if_pos c1
        exact w_piece hl (hp _ _ e).1 (hp _ _ e).2 hS fun S' ch k' => hP _ _ e S' ch k'
      · have pn2 : pickO (OS.mk b k t se g lo fi la) most upto = if fi = true ∧ la ∈ [Str.ofString "unsent", Str.ofString "lost"] ∧ se = t then some (t, t) else none := by rw [pn]; exact if_neg c1
        walk_at "go"
        refine w_any (fun cf => ?_) (fun cf => ?_)
        · walk_at "go"
          refine w_inS (neg := false) [Str.ofString "unsent", Str.ofString "lost"] rfl ?_
          walk_at "go"
          refine w_dec (fun cl => ?_) (fun cl => ?_)
          · walk_at "go"
            refine w_dec (fun ct => ?_) (fun ct => ?_)
            · walk_at "go"
              refine ⟨_, _, rfl, hS', rfl, ?_⟩
              walk_at "go"
              refine ⟨rfl, ?_⟩
              have e : pickO (OS.mk b k t se g lo fi la) most upto = some (t, t) := by rw [pn2]; exact if_pos ⟨cf, cl, ct⟩
              exact w_piece hl (hp _ _ e).1 (hp _ _ e).2 hS fun S' ch k' => hP _ _ e S' ch k'
            · walk_at "go"
              exact hN (by rw [pn2]; exact if_neg fun z => ct z.2.2)
          · walk_at "go"
            exact hN (by rw [pn2]; exact if_neg fun z => cl z.2.1)
        · walk_at "go"
          exact hN (by rw [pn2]; exact if_neg fun z => by rw [cf] at z; cases z.1)
theorem w_nextP {s : OS} {most upto low high : Int} (hl : s.lost.length ≤ 10000) (hS : S[n]? = some (og a.cOutgoing st kp s)) (e : pickO s most upto = some (low, high)) (hp : s.base ≤ low ∧ low ≤ high)
    (hP : ∀ S', Ch n S S' → S'[n]? = some (og a.cOutgoing st kp (s.piece low high)) → Q (pcD st (s.pieceOf low high)) S') : WE (fn_Outgoing_next a [.ref n, .int most, .int upto] S) Q := by
  have same : ∀ lo hi, pickO s most upto = some (lo, hi) → lo = low ∧ hi = high := fun lo hi e2 => by
    have e3 := Prod.mk.inj (Option.some.inj (e.symm.trans e2))
    exact ⟨e3.1.symm, e3.2.symm⟩
  refine w_nextG hl hS (fun lo hi e2 => ?_) (fun e2 => by rw [e] at e2; cases e2) (fun lo hi e2 => ?_)
  · obtain ⟨e3, e4⟩ := same lo hi e2
    rw [e3, e4]
    exact hp
  · obtain ⟨e3, e4⟩ := same lo hi e2
    rw [e3, e4]
    exact hP
end

theorem gotB_fin (o : OS) (p : PC) (b : Bool) : (OS.gotA { o with fin := b } p).gotB = { (o.gotA p).gotB with fin := b } := by
  have e : (OS.gotA { o with fin := b } p).got = (o.gotA p).got := rfl
  have e2 : (OS.gotA { o with fin := b } p).base = (o.gotA p).base := rfl
  unfold OS.gotB
  rw [e]
  cases (o.gotA p).got with
  | nil => rfl
  | cons r rs =>
    simp only
    by_cases c : r.1 = (o.gotA p).base
    · rw [if_pos c, if_pos (e2 ▸ c)]
      rfl
    · rw [if_neg c, if_neg (e2 ▸ c)]
      rfl
theorem gotB_lost (o : OS) : o.gotB.lost = o.lost := by
  unfold OS.gotB
  cases o.got with
  | nil => rfl
  | cons r rs =>
    simp only
    split <;> rfl
theorem gotB_kept {o : OS} {p : PC} {oct : List Int} (h : o.kept = oct.drop o.base.toNat) (h0 : 0 ≤ o.base) (hb : ∀ r rs, (o.gotA p).got = r :: rs → o.base ≤ r.2) : (o.gotA p).gotB.kept = oct.drop (o.gotA p).gotB.base.toNat := by
  unfold OS.gotB
  cases e : (o.gotA p).got with
  | nil => exact h
  | cons r rs =>
    have := hb r rs e
    simp only
    by_cases c : r.1 = (o.gotA p).base
    · rw [if_pos c]
      show o.kept.drop (r.2 + 1 - o.base).toNat = oct.drop (r.2 + 1).toNat
      rw [h, List.drop_drop]
      congr 1
      omega
    · rw [if_neg c]
      exact h

/-! what an Incoming holds; plain laws -/
abbrev Row := Int × List Int
def rowD (r : Row) : D := .tup [.int r.1, .tup (r.2.map D.int)]
abbrev rowsD (rs : List Row) : D := .lst (rs.map rowD)
def optD : Option Int → D
  | none => .non
  | some k => .int k
structure IS where
  room : Int
  upto : Int
  read : Int
  gr : Int
  fin : Option Int
  come : List Rg
  parts : List Row
def inO (C : Addr) (st : Int) (s : IS) : SO := .ins C [("stream", .int st), ("room", .int s.room), ("upto", .int s.upto), ("read_upto", .int s.read), ("greatest", .int s.gr), ("end", optD s.fin), ("come", rgs s.come), ("parts", rowsD s.parts)]
def PC.end (p : PC) : Int := p.low + p.os.length
def pastEnd (f : Option Int) (h : Int) : Bool := match f with
  | none => false
  | some e => decide (h > e)
def offEnd (f : Option Int) (h : Int) : Bool := match f with
  | none => false
  | some e => decide (h ≠ e)
def wrongI (upto gr : Int) (f : Option Int) (p : PC) : D :=
  if p.end > upto then .str "room" else if p.l = 1 ∧ (p.end < gr ∨ offEnd f p.end = true) then .str "last" else if pastEnd f p.end = true then .str "last" else .non
abbrev IS.wrong (s : IS) (p : PC) : D := wrongI s.upto s.gr s.fin p
def gapsR (rs : List Rg) (low high : Int) : List Rg := if low ≤ high then dropAll [(low, high)] rs else []
def rowOf (p : PC) (g : Rg) : Row := (g.1, (p.os.drop (g.1 - p.low).toNat).take ((g.2 + 1 - p.low).toNat - (g.1 - p.low).toNat))
def ltRow (a b : Row) : Bool := decide (a.1 < b.1)
theorem swo_row : SrtO.Swo ltRow := ⟨fun x y h => by unfold ltRow at *; simp at *; omega, fun x y z h1 h2 => by unfold ltRow at *; simp at *; omega⟩
def srtRows (rs : List Row) : List Row := isort ltRow rs
def stepI (p : PC) (t : List Row × List Rg) (g : Rg) : List Row × List Rg := (srtRows (t.1 ++ [rowOf p g]), putR t.2 g.1 g.2)
def IS.gaps (s : IS) (p : PC) : List Rg := gapsR s.come (max p.low s.read) (p.end - 1)
def IS.takeP (s : IS) (p : PC) : List Row × List Rg := (s.gaps p).foldl (stepI p) (s.parts, s.come)
def IS.take (s : IS) (p : PC) : IS := { s with gr := max s.gr p.end, fin := if p.l = 1 then some p.end else s.fin, parts := (s.takeP p).1, come := (s.takeP p).2 }
/-! rows -/
def memO (rows : List Row) (k v : Int) : Prop := ∃ r ∈ rows, r.1 ≤ k ∧ r.2[(k - r.1).toNat]? = some v
def sepRow (a b : Row) : Prop := a.1 + a.2.length ≤ b.1 ∨ b.1 + b.2.length ≤ a.1
structure RowsOk (rows : List Row) (come : List Rg) : Prop where
  asc : rows.Pairwise fun (a b : Row) => a.1 + (a.2.length : Int) ≤ b.1
  ne : ∀ r ∈ rows, 0 < r.2.length
  cv : ∀ k, memR k come ↔ ∃ v, memO rows k v
  can : Can come
theorem RowsOk.nil : RowsOk [] [] := ⟨List.Pairwise.nil, fun _ h => (by cases h), fun k => ⟨fun h => (memR_nil h).elim, fun ⟨_, _, h, _⟩ => (by cases h)⟩, can_nil⟩
theorem memO_app {rows more : List Row} {k v : Int} : memO (rows ++ more) k v ↔ memO rows k v ∨ memO more k v := by
  unfold memO
  constructor
  · rintro ⟨r, h, q⟩
    rcases List.mem_append.mp h with h | h
    · exact .inl ⟨r, h, q⟩
    · exact .inr ⟨r, h, q⟩
  · rintro (⟨r, h, q⟩ | ⟨r, h, q⟩)
    · exact ⟨r, List.mem_append.mpr (.inl h), q⟩
    · exact ⟨r, List.mem_append.mpr (.inr h), q⟩
theorem memO_one {r : Row} {k v : Int} : memO [r] k v ↔ r.1 ≤ k ∧ r.2[(k - r.1).toNat]? = some v := by
  unfold memO
  constructor
  · rintro ⟨x, h, q⟩
    rw [List.mem_singleton.mp h] at q
    exact q
  · exact fun q => ⟨r, List.mem_singleton.mpr rfl, q⟩
theorem memO_perm {rows rows' : List Row} (p : rows.Perm rows') {k v : Int} : memO rows k v ↔ memO rows' k v :=
  ⟨fun ⟨r, h, q⟩ => ⟨r, p.mem_iff.mp h, q⟩, fun ⟨r, h, q⟩ => ⟨r, p.mem_iff.mpr h, q⟩⟩
theorem memO_nil {k v : Int} : ¬ memO [] k v := fun ⟨_, h, _⟩ => by cases h
theorem memO_cons {r : Row} {rows : List Row} {k v : Int} : memO (r :: rows) k v ↔ (r.1 ≤ k ∧ r.2[(k - r.1).toNat]? = some v) ∨ memO rows k v := by
  rw [show r :: rows = [r] ++ rows from rfl, memO_app, memO_one]
theorem memO_fun {rows : List Row} (h : rows.Pairwise fun (a b : Row) => a.1 + (a.2.length : Int) ≤ b.1) {k v w : Int} (h1 : memO rows k v) (h2 : memO rows k w) : v = w := by
  induction rows with
  | nil => exact (memO_nil h1).elim
  | cons r rs ih =>
    obtain ⟨h3, h4⟩ := List.pairwise_cons.mp h
    have far : ∀ {x : Int}, r.1 ≤ k → r.2[(k - r.1).toNat]? = some x → ∀ {y : Int}, ¬ memO rs k y := fun {x} q1 q2 {y} ⟨t, ht, q3, q4⟩ => by
      have := h3 t ht
      have := (List.getElem?_eq_some_iff.mp q2).1
      omega
    rcases memO_cons.mp h1 with q1 | q1
    · rcases memO_cons.mp h2 with q2 | q2
      · have := q1.2.symm.trans q2.2
        exact Option.some.inj this
      · exact (far q1.1 q1.2 q2).elim
    · rcases memO_cons.mp h2 with q2 | q2
      · exact (far q2.1 q2.2 q1).elim
      · exact ih h4 q1 q2
theorem srtRows_perm (rs : List Row) : (srtRows rs).Perm rs := isort_perm swo_row rs
theorem srtRows_asc {rs : List Row} (h : rs.Pairwise sepRow) (ne : ∀ r ∈ rs, 0 < r.2.length) : (srtRows rs).Pairwise fun (a b : Row) => a.1 + (a.2.length : Int) ≤ b.1 := by
  have p := srtRows_perm rs
  have h2 : (srtRows rs).Pairwise sepRow := (p.pairwise_iff fun {a b} => Or.symm).mpr h
  have h3 : SrtO.Srtd ltRow (srtRows rs) := isort_srt swo_row rs
  have h4 := h2.and h3
  refine h4.imp_of_mem fun {a b} ha hb q => ?_
  obtain ⟨q1, q2⟩ := q
  rcases q1 with q1 | q1
  · exact q1
  · exfalso
    have := ne a (p.mem_iff.mp ha)
    have := ne b (p.mem_iff.mp hb)
    unfold ltRow at q2
    simp at q2
    omega
theorem rowOf_mem {p : PC} {g : Rg} (h0 : p.low ≤ g.1) (h1 : g.1 ≤ g.2) (h2 : g.2 < p.end) {k v : Int} : memO [rowOf p g] k v ↔ (g.1 ≤ k ∧ k ≤ g.2) ∧ p.os[(k - p.low).toNat]? = some v := by
  rw [memO_one]
  unfold rowOf
  unfold PC.end at h2
  simp only
  constructor
  · rintro ⟨q1, q2⟩
    rw [List.getElem?_take, List.getElem?_drop] at q2
    split at q2
    · rename_i c
      rw [show (g.1 - p.low).toNat + (k - g.1).toNat = (k - p.low).toNat by omega] at q2
      exact ⟨by omega, q2⟩
    · cases q2
  · rintro ⟨q1, q2⟩
    refine ⟨q1.1, ?_⟩
    rw [List.getElem?_take, List.getElem?_drop, if_pos (by omega), show (g.1 - p.low).toNat + (k - g.1).toNat = (k - p.low).toNat by omega]
    exact q2
theorem rowOf_len {p : PC} {g : Rg} (h0 : p.low ≤ g.1) (h1 : g.1 ≤ g.2) (h2 : g.2 < p.end) : ((rowOf p g).2.length : Int) = g.2 + 1 - g.1 := by
  unfold rowOf
  unfold PC.end at h2
  rw [List.length_take, List.length_drop]
  omega
theorem row_at {r : Row} {k : Int} (h1 : r.1 ≤ k) (h2 : k < r.1 + r.2.length) : ∃ v, r.2[(k - r.1).toNat]? = some v := ⟨_, List.getElem?_eq_getElem (show (k - r.1).toNat < r.2.length by omega)⟩
theorem sep_row {rows : List Row} {come : List Rg} (h : RowsOk rows come) {p : PC} {g : Rg} (h0 : p.low ≤ g.1) (h1 : g.1 ≤ g.2) (h2 : g.2 < p.end) (h3 : ∀ k, g.1 ≤ k → k ≤ g.2 → ¬ memR k come) : (rows ++ [rowOf p g]).Pairwise sepRow ∧ ∀ r ∈ rows ++ [rowOf p g], 0 < r.2.length := by
  have el := rowOf_len h0 h1 h2
  refine ⟨List.pairwise_append.mpr ⟨h.asc.imp fun q => .inl q, List.pairwise_singleton _ _, fun a ha b hb => ?_⟩, fun r hr => ?_⟩
  · rw [List.mem_singleton.mp hb]
    have hn := h.ne a ha
    have no : ∀ k, g.1 ≤ k → k ≤ g.2 → ¬ (a.1 ≤ k ∧ k < a.1 + a.2.length) := fun k k1 k2 ⟨q1, q2⟩ => by
      obtain ⟨v, e⟩ := row_at q1 q2
      exact h3 k k1 k2 ((h.cv k).mpr ⟨v, a, ha, q1, e⟩)
    unfold sepRow
    rw [el]
    show a.1 + _ ≤ g.1 ∨ g.1 + _ ≤ a.1
    by_cases c : a.1 ≤ g.1
    · have := no g.1 (Int.le_refl _) h1
      exact .inl (by omega)
    · by_cases d : a.1 ≤ g.2
      · have := no a.1 (by omega) d
        omega
      · exact .inr (by omega)
  · rcases List.mem_append.mp hr with hr | hr
    · exact h.ne r hr
    · rw [List.mem_singleton.mp hr]
      omega
theorem step_ok {rows : List Row} {come : List Rg} (h : RowsOk rows come) {p : PC} {g : Rg} (h0 : p.low ≤ g.1) (h1 : g.1 ≤ g.2) (h2 : g.2 < p.end) (h3 : ∀ k, g.1 ≤ k → k ≤ g.2 → ¬ memR k come) :
    RowsOk (stepI p (rows, come) g).1 (stepI p (rows, come) g).2 ∧ ∀ k v, memO (stepI p (rows, come) g).1 k v ↔ memO rows k v ∨ ((g.1 ≤ k ∧ k ≤ g.2) ∧ p.os[(k - p.low).toNat]? = some v) := by
  obtain ⟨s1, s2⟩ := sep_row h h0 h1 h2 h3
  have pm := srtRows_perm (rows ++ [rowOf p g])
  have mm : ∀ k v, memO (srtRows (rows ++ [rowOf p g])) k v ↔ memO rows k v ∨ ((g.1 ≤ k ∧ k ≤ g.2) ∧ p.os[(k - p.low).toNat]? = some v) := fun k v => by
    rw [memO_perm pm, memO_app, rowOf_mem h0 h1 h2]
  obtain ⟨c1, c2⟩ := put_can h.can h1
  refine ⟨⟨srtRows_asc s1 s2, fun r hr => s2 r (pm.mem_iff.mp hr), fun k => ?_, c1⟩, mm⟩
  show memR k (putR come g.1 g.2) ↔ ∃ v, memO (srtRows (rows ++ [rowOf p g])) k v
  rw [c2 k, h.cv k]
  constructor
  · rintro (⟨v, q⟩ | q)
    · exact ⟨v, (mm k v).mpr (.inl q)⟩
    · have hk : (k - p.low).toNat < p.os.length := by
        unfold PC.end at h2
        omega
      exact ⟨p.os[(k - p.low).toNat], (mm k _).mpr (.inr ⟨q, List.getElem?_eq_getElem hk⟩)⟩
  · rintro ⟨v, q⟩
    rcases (mm k v).mp q with q | q
    · exact .inl ⟨v, q⟩
    · exact .inr q.1
theorem steps_ok {p : PC} : ∀ {gs : List Rg} {rows : List Row} {come : List Rg}, RowsOk rows come → Can gs → (∀ k, memR k gs → p.low ≤ k ∧ k < p.end ∧ ¬ memR k come) →
    RowsOk (gs.foldl (stepI p) (rows, come)).1 (gs.foldl (stepI p) (rows, come)).2 ∧ ∀ k v, memO (gs.foldl (stepI p) (rows, come)).1 k v ↔ memO rows k v ∨ (memR k gs ∧ p.os[(k - p.low).toNat]? = some v)
  | [], rows, come, h, _, _ => ⟨h, fun k v => ⟨.inl, fun q => q.elim id fun q => (memR_nil q.1).elim⟩⟩
  | g :: gs, rows, come, h, hc, hg => by
    have g12 := hc.le g (List.mem_cons_self ..)
    have m1 := hg g.1 (memR_cons.mpr (.inl ⟨Int.le_refl _, g12⟩))
    have m2 := hg g.2 (memR_cons.mpr (.inl ⟨g12, Int.le_refl _⟩))
    have h3 : ∀ k, g.1 ≤ k → k ≤ g.2 → ¬ memR k come := fun k k1 k2 => (hg k (memR_cons.mpr (.inl ⟨k1, k2⟩))).2.2
    obtain ⟨r1, r2⟩ := step_ok h m1.1 g12 m2.2.1 h3
    obtain ⟨c1, c2⟩ := put_can h.can g12
    have ih := steps_ok (gs := gs) r1 hc.tail fun k hk => by
      have q := hg k (memR_cons.mpr (.inr hk))
      refine ⟨q.1, q.2.1, fun z => ?_⟩
      rcases (c2 k).mp z with z | z
      · exact q.2.2 z
      · have := hc.head hk
        omega
    refine ⟨ih.1, fun k v => ?_⟩
    show memO (gs.foldl (stepI p) (stepI p (rows, come) g)).1 k v ↔ _
    refine (ih.2 k v).trans ?_
    rw [r2 k v, memR_cons]
    constructor
    · rintro ((q | q) | q)
      · exact .inl q
      · exact .inr ⟨.inl q.1, q.2⟩
      · exact .inr ⟨.inr q.1, q.2⟩
    · rintro (q | ⟨q | q, q2⟩)
      · exact .inl (.inl q)
      · exact .inl (.inr ⟨q, q2⟩)
      · exact .inr ⟨q, q2⟩
theorem gaps_ok {rs : List Rg} (h : Can rs) (low high : Int) : Can (gapsR rs low high) ∧ ∀ k, memR k (gapsR rs low high) ↔ (low ≤ k ∧ k ≤ high) ∧ ¬ memR k rs := by
  unfold gapsR
  by_cases c : low ≤ high
  · rw [if_pos c]
    obtain ⟨k1, k2⟩ := dropAll_can (os := rs) (rs := [(low, high)]) ⟨List.pairwise_singleton _ _, fun r hr => by rw [List.mem_singleton.mp hr]; exact c⟩ h.le
    exact ⟨k1, fun k => by rw [k2 k, memR_one]⟩
  · rw [if_neg c]
    exact ⟨can_nil, fun k => ⟨fun q => (memR_nil q).elim, fun q => by omega⟩⟩
theorem take_ok {s : IS} (h : RowsOk s.parts s.come) (p : PC) : RowsOk (s.take p).parts (s.take p).come ∧ ∀ k v, memO (s.take p).parts k v ↔ memO s.parts k v ∨ (((s.read ≤ k ∧ p.low ≤ k) ∧ p.os[(k - p.low).toNat]? = some v) ∧ ¬ memR k s.come) := by
  obtain ⟨g1, g2⟩ := gaps_ok h.can (max p.low s.read) (p.end - 1)
  obtain ⟨s1, s2⟩ := steps_ok (p := p) (gs := s.gaps p) h g1 fun k hk => by
    have := (g2 k).mp hk
    exact ⟨by omega, by omega, this.2⟩
  refine ⟨s1, fun k v => (s2 k v).trans ?_⟩
  constructor
  · rintro (q | q)
    · exact .inl q
    · have := (g2 k).mp q.1
      exact .inr ⟨⟨by omega, q.2⟩, this.2⟩
  · rintro (q | ⟨⟨q1, q2⟩, q3⟩)
    · exact .inl q
    · have := (List.getElem?_eq_some_iff.mp q2).1
      exact .inr ⟨(g2 k).mpr ⟨by unfold PC.end; omega, q3⟩, q2⟩
/-! what can be read -/
def readyR (come : List Rg) (read : Int) : Int := match come with
  | [] => 0
  | r :: _ => if r.1 = read then r.2 + 1 - read else 0
theorem ready_ok {come : List Rg} {read : Int} (h : Can come) (hr : ∀ k, memR k come → read ≤ k) : 0 ≤ readyR come read ∧ (∀ k, read ≤ k → k < read + readyR come read → memR k come) ∧ ¬ memR (read + readyR come read) come := by
  unfold readyR
  cases come with
  | nil => exact ⟨Int.le_refl _, fun k h1 h2 => by simp only at h2; omega, memR_nil⟩
  | cons r rs =>
    have l := h.le r (List.mem_cons_self ..)
    simp only
    by_cases c : r.1 = read
    · rw [if_pos c]
      refine ⟨by omega, fun k h1 h2 => memR_cons.mpr (.inl (by omega)), fun z => ?_⟩
      rcases memR_cons.mp z with z | z
      · omega
      · have := h.head z
        omega
    · rw [if_neg c]
      have := hr r.1 (memR_cons.mpr (.inl ⟨Int.le_refl _, l⟩))
      refine ⟨Int.le_refl _, fun k h1 h2 => by omega, fun z => ?_⟩
      have := h.first z
      omega
def takeR : List Row → Nat → List Int × List Row
  | [], _ => ([], [])
  | r :: rs, n => if n = 0 then ([], r :: rs) else if n < r.2.length then (r.2.take n, (r.1 + n, r.2.drop n) :: rs) else (r.2 ++ (takeR rs (n - r.2.length)).1, (takeR rs (n - r.2.length)).2)
theorem takeR_zero (rows : List Row) : takeR rows 0 = ([], rows) := by
  cases rows with
  | nil => rfl
  | cons r rs => exact if_pos rfl
theorem takeR_ok : ∀ {rows : List Row} {n : Nat} {read : Int}, (rows.Pairwise fun (a b : Row) => a.1 + (a.2.length : Int) ≤ b.1) → (∀ r ∈ rows, 0 < r.2.length) → (∀ r ∈ rows, read ≤ r.1) → (∀ k, read ≤ k → k < read + n → ∃ v, memO rows k v) →
    (takeR rows n).1.length = n ∧ (∀ i : Nat, ∀ v, (takeR rows n).1[i]? = some v → memO rows (read + i) v) ∧ ((takeR rows n).2.Pairwise fun (a b : Row) => a.1 + (a.2.length : Int) ≤ b.1) ∧ (∀ r ∈ (takeR rows n).2, 0 < r.2.length) ∧ (∀ r ∈ (takeR rows n).2, read + n ≤ r.1) ∧ ∀ k v, memO (takeR rows n).2 k v ↔ memO rows k v ∧ read + n ≤ k
  | [], n, read, _, _, _, h4 => by
    have n0 : n = 0 := by
      apply Classical.byContradiction
      intro c
      obtain ⟨v, q⟩ := h4 read (Int.le_refl _) (by omega)
      exact memO_nil q
    subst n0
    exact ⟨rfl, fun i v q => (by cases q), List.Pairwise.nil, fun _ h => (by cases h), fun _ h => (by cases h), fun k v => ⟨fun q => (memO_nil q).elim, fun q => (memO_nil q.1).elim⟩⟩
  | r :: rs, n, read, h1, h2, h3, h4 => by
    obtain ⟨a1, a2⟩ := List.pairwise_cons.mp h1
    have rr := h3 r (List.mem_cons_self ..)
    have rl := h2 r (List.mem_cons_self ..)
    by_cases n0 : n = 0
    · subst n0
      rw [takeR_zero]
      refine ⟨rfl, fun i v q => (by cases q), h1, h2, fun x hx => by have := h3 x hx; omega, fun k v => ⟨fun q => ⟨q, ?_⟩, fun q => q.1⟩⟩
      obtain ⟨x, hx, q1, _⟩ := q
      have := h3 x hx
      omega
    · have re : r.1 = read := by
        obtain ⟨v, x, hx, q1, q2⟩ := h4 read (Int.le_refl _) (by omega)
        rcases List.mem_cons.mp hx with e | hx
        · rw [e] at q1
          omega
        · have := a1 x hx
          omega
      unfold takeR
      rw [if_neg n0]
      by_cases c : n < r.2.length
      · rw [if_pos c]
        simp only
        have dl : (r.2.drop n).length = r.2.length - n := List.length_drop
        refine ⟨by rw [List.length_take]; omega, fun i v q => ?_, List.pairwise_cons.mpr ⟨fun b hb => ?_, a2⟩, fun x hx => ?_, fun x hx => ?_, fun k v => ?_⟩
        · rw [List.getElem?_take] at q
          split at q
          · exact memO_cons.mpr (.inl ⟨by omega, by rw [show (read + (i : Int) - r.1).toNat = i by omega]; exact q⟩)
          · cases q
        · have := a1 b hb
          simp only
          omega
        · rcases List.mem_cons.mp hx with e | hx
          · rw [e]
            simp only
            omega
          · exact h2 x (List.mem_cons_of_mem _ hx)
        · rcases List.mem_cons.mp hx with e | hx
          · rw [e]
            simp only
            omega
          · have := a1 x hx
            omega
        · rw [memO_cons, memO_cons]
          simp only [List.getElem?_drop]
          constructor
          · rintro (⟨q1, q2⟩ | q)
            · refine ⟨.inl ⟨by omega, ?_⟩, by omega⟩
              rw [← q2]
              congr 1
              omega
            · refine ⟨.inr q, ?_⟩
              obtain ⟨x, hx, q1, _⟩ := q
              have := a1 x hx
              omega
          · rintro ⟨⟨q1, q2⟩ | q, q3⟩
            · refine .inl ⟨by omega, ?_⟩
              rw [← q2]
              congr 1
              omega
            · exact .inr q
      · rw [if_neg c]
        simp only
        have ih := takeR_ok (rows := rs) (n := n - r.2.length) (read := read + r.2.length) a2 (fun x hx => h2 x (List.mem_cons_of_mem _ hx)) (fun x hx => by have := a1 x hx; omega) (fun k k1 k2 => by
          obtain ⟨v, q⟩ := h4 k (by omega) (by omega)
          rcases memO_cons.mp q with q | q
          · have := (List.getElem?_eq_some_iff.mp q.2).1
            omega
          · exact ⟨v, q⟩)
        obtain ⟨i1, i2, i3, i4, i5, i6⟩ := ih
        refine ⟨by rw [List.length_append, i1]; omega, fun i v q => ?_, i3, i4, fun x hx => by have := i5 x hx; omega, fun k v => ?_⟩
        · by_cases d : i < r.2.length
          · rw [List.getElem?_append_left d] at q
            exact memO_cons.mpr (.inl ⟨by omega, by rw [show (read + (i : Int) - r.1).toNat = i by omega]; exact q⟩)
          · rw [List.getElem?_append_right (by omega)] at q
            have := i2 _ v q
            rw [show read + (r.2.length : Int) + ((i - r.2.length : Nat) : Int) = read + i by omega] at this
            exact memO_cons.mpr (.inr this)
        · rw [i6 k v, memO_cons]
          constructor
          · rintro ⟨q1, q2⟩
            exact ⟨.inr q1, by omega⟩
          · rintro ⟨⟨q1, q2⟩ | q, q3⟩
            · have := (List.getElem?_eq_some_iff.mp q2).1
              omega
            · exact ⟨q, by omega⟩
def comeF (come : List Rg) (read : Int) : List Rg := (come.filter fun r => decide (r.2 ≥ read)).map fun r => (max r.1 read, r.2)
theorem comeF_ok {come : List Rg} (h : Can come) (read : Int) : Can (comeF come read) ∧ ∀ k, memR k (comeF come read) ↔ memR k come ∧ read ≤ k := by
  unfold comeF
  refine ⟨⟨?_, fun r hr => ?_⟩, fun k => ?_⟩
  · refine List.pairwise_map.mpr ((h.ap.filter _).imp_of_mem fun {a b} ha hb q => ?_)
    unfold apt at *
    simp only
    have := (List.mem_filter.mp ha).2
    simp at this
    omega
  · obtain ⟨x, hx, e⟩ := List.mem_map.mp hr
    obtain ⟨h1, h2⟩ := List.mem_filter.mp hx
    have := h.le x h1
    simp at h2
    rw [← e]
    simp only
    omega
  · unfold memR
    constructor
    · rintro ⟨r, hr, q⟩
      obtain ⟨x, hx, e⟩ := List.mem_map.mp hr
      obtain ⟨h1, h2⟩ := List.mem_filter.mp hx
      rw [← e] at q
      simp only at q
      exact ⟨⟨x, h1, by omega⟩, by omega⟩
    · rintro ⟨⟨x, hx, q⟩, q2⟩
      exact ⟨_, List.mem_map.mpr ⟨x, List.mem_filter.mpr ⟨hx, by simp; omega⟩, rfl⟩, by simp only; omega⟩
def IS.ready (s : IS) : Int := readyR s.come s.read
def IS.many (s : IS) (most : Int) : Int := min most s.ready
def IS.got (s : IS) (most : Int) : List Int := (takeR s.parts (s.many most).toNat).1
def IS.readS (s : IS) (most : Int) : IS := { s with read := s.read + s.many most, come := comeF s.come (s.read + s.many most), parts := (takeR s.parts (s.many most).toNat).2 }
structure IOk (s : IS) : Prop where
  r : RowsOk s.parts s.come
  lo : ∀ k, memR k s.come → s.read ≤ k
  hi : ∀ k, memR k s.come → k < s.upto
  ru : s.read ≤ s.upto
theorem IOk.rows {s : IS} (h : IOk s) : ∀ r ∈ s.parts, s.read ≤ r.1 := fun r hr => by
  have n := h.r.ne r hr
  obtain ⟨v, e⟩ := row_at (r := r) (k := r.1) (Int.le_refl _) (by omega)
  exact h.lo _ ((h.r.cv _).mpr ⟨v, r, hr, Int.le_refl _, e⟩)
theorem IOk.rdy {s : IS} (h : IOk s) : 0 ≤ s.ready ∧ (∀ k, s.read ≤ k → k < s.read + s.ready → memR k s.come) ∧ ¬ memR (s.read + s.ready) s.come ∧ s.read + s.ready ≤ s.upto := by
  obtain ⟨h1, h2, h3⟩ := ready_ok h.r.can h.lo
  refine ⟨h1, h2, h3, ?_⟩
  have ru := h.ru
  show s.read + readyR s.come s.read ≤ s.upto
  by_cases c : readyR s.come s.read = 0
  · omega
  · have := h.hi (s.read + readyR s.come s.read - 1) (h2 _ (by omega) (by omega))
    omega
theorem IOk.take {s : IS} (h : IOk s) {p : PC} (hp : p.end ≤ s.upto) : IOk (s.take p) := by
  obtain ⟨t1, t2⟩ := take_ok h.r p
  have back : ∀ k, memR k (s.take p).come → memR k s.come ∨ (s.read ≤ k ∧ k < p.end) := fun k q => by
    obtain ⟨v, q⟩ := (t1.cv k).mp q
    rcases (t2 k v).mp q with q | ⟨⟨q1, q2⟩, _⟩
    · exact .inl ((h.r.cv k).mpr ⟨v, q⟩)
    · have := (List.getElem?_eq_some_iff.mp q2).1
      exact .inr ⟨by omega, by unfold PC.end; omega⟩
  refine ⟨t1, fun k q => ?_, fun k q => ?_, h.ru⟩
  · show s.read ≤ k
    rcases back k q with q | q
    · exact h.lo k q
    · exact q.1
  · show k < s.upto
    rcases back k q with q | q
    · exact h.hi k q
    · omega
theorem IOk.readS {s : IS} (h : IOk s) {most : Int} (hm : 0 ≤ most) : IOk (s.readS most) ∧ ((s.got most).length : Int) = s.many most ∧ (∀ i : Nat, ∀ v, (s.got most)[i]? = some v → memO s.parts (s.read + i) v) ∧ (∀ k v, memO (s.readS most).parts k v ↔ memO s.parts k v ∧ s.read + s.many most ≤ k) ∧ 0 ≤ s.many most ∧ s.read + s.many most ≤ s.upto := by
  obtain ⟨d1, d2, d3, d4⟩ := h.rdy
  have m0 : 0 ≤ s.many most := by
    unfold IS.many
    omega
  have m1 : s.many most ≤ s.ready := by
    unfold IS.many
    omega
  obtain ⟨t1, t2, t3, t4, t5, t6⟩ := takeR_ok (rows := s.parts) (n := (s.many most).toNat) (read := s.read) h.r.asc h.r.ne h.rows fun k k1 k2 => (h.r.cv k).mp (d2 k k1 (by omega))
  rw [Int.toNat_of_nonneg m0] at t5 t6
  obtain ⟨c1, c2⟩ := comeF_ok h.r.can (s.read + s.many most)
  refine ⟨⟨⟨t3, t4, fun k => ?_, c1⟩, fun k q => ((c2 k).mp q).2, fun k q => h.hi k ((c2 k).mp q).1, by show s.read + s.many most ≤ s.upto; omega⟩, by unfold IS.got; rw [t1]; omega, t2, t6, m0, by omega⟩
  show memR k (comeF s.come (s.read + s.many most)) ↔ ∃ v, memO (takeR s.parts (s.many most).toNat).2 k v
  rw [c2 k, h.r.cv k]
  constructor
  · rintro ⟨⟨v, q⟩, q2⟩
    exact ⟨v, (t6 k v).mpr ⟨q, q2⟩⟩
  · rintro ⟨v, q⟩
    have := (t6 k v).mp q
    exact ⟨⟨v, this.1⟩, this.2⟩
def IS.grown (s : IS) : Option Int := if s.fin ≠ none ∨ 2 * (min (s.read + s.room) 16777215 - s.upto) < s.room ∨ min (s.read + s.room) 16777215 ≤ s.upto then none else some (min (s.read + s.room) 16777215)
def isFin (f : Option Int) (k : Int) : Bool := match f with
  | none => false
  | some e => decide (k = e)
def IS.over (s : IS) : Bool := isFin s.fin s.read
def IS.whole (s : IS) : Bool := isFin s.fin (s.read + s.ready)

theorem ws_inv {o : OutS} {k : EvS} {N B C : Sg → Store → Prop} {R : D → Store → Prop} (h : WS (o.bind k) N B C R) : WS o (fun σ S => WS (k σ S) N B C R) B C R := by
  cases o with
  | nx σ S => exact h
  | _ => exact h
theorem w_cut2 {σ : Sg} {S : Store} {s t u : EvS} {N B C : Sg → Store → Prop} {R : D → Store → Prop} {M : Sg → Store → Prop} (h : WS (evSeq s t σ S) M B C R) (k : ∀ σ S, M σ S → WS (u σ S) N B C R) : WS (evSeq s (evSeq t u) σ S) N B C R := by
  refine w_seq ?_
  refine WS.mono (ws_inv (o := s σ S) (k := t) h) (fun σ S q => ?_) (fun _ _ q => q) (fun _ _ q => q) (fun _ _ q => q)
  refine w_seq ?_
  exact WS.mono q k (fun _ _ q => q) (fun _ _ q => q) (fun _ _ q => q)
theorem w_cut4 {σ : Sg} {S : Store} {s t u v x : EvS} {N B C : Sg → Store → Prop} {R : D → Store → Prop} (M : Sg → Store → Prop) (h : WS (evSeq s (evSeq t (evSeq u v)) σ S) M B C R) (k : ∀ σ S, M σ S → WS (x σ S) N B C R) : WS (evSeq s (evSeq t (evSeq u (evSeq v x))) σ S) N B C R := by
  refine w_seq ?_
  refine WS.mono (ws_inv (o := s σ S) (k := evSeq t (evSeq u v)) h) (fun σ S q => ?_) (fun _ _ q => q) (fun _ _ q => q) (fun _ _ q => q)
  refine w_seq ?_
  refine WS.mono (ws_inv (o := t σ S) (k := evSeq u v) q) (fun σ S q => w_cut2 q k) (fun _ _ q => q) (fun _ _ q => q) (fun _ _ q => q)
theorem w_cut5 {σ : Sg} {S : Store} {s t u v y x : EvS} {N B C : Sg → Store → Prop} {R : D → Store → Prop} (M : Sg → Store → Prop) (h : WS (evSeq s (evSeq t (evSeq u (evSeq v y))) σ S) M B C R) (k : ∀ σ S, M σ S → WS (x σ S) N B C R) : WS (evSeq s (evSeq t (evSeq u (evSeq v (evSeq y x)))) σ S) N B C R := by
  refine w_seq ?_
  refine WS.mono (ws_inv (o := s σ S) (k := evSeq t (evSeq u (evSeq v y))) h) (fun σ S q => ?_) (fun _ _ q => q) (fun _ _ q => q) (fun _ _ q => q)
  exact w_cut4 M q k

theorem w_tupT {S : Store} {Q : D → Store → Prop} {ds : List D} (h : Q (.tup ds) S) : WE (opTuple [.tup ds] S) Q := h
theorem w_intB {S : Store} {Q : D → Store → Prop} {b : Bool} (h : Q (.int (if b then 1 else 0)) S) : WE (opInt [.bl b] S) Q := h
abbrev pcs (st : Int) (p : PC) : List D := [.str "data", .int st, .int p.low, .tup (p.os.map D.int), .int p.l]
section
variable {a : CA} {n : Nat} {st : Int} {S : Store} {Q : D → Store → Prop}
theorem w_iinit {rm : Int} (hk : 1 ≤ rm) (hS : S[n]? = some (.ins a.cIncoming [])) (h : Q .non (S.set n (inO a.cIncoming st ⟨rm, rm, 0, 0, none, [], []⟩))) : WE (fn_Incoming_init a [.ref n, .int st, .int rm] S) Q := by
  refine w_fn ?_
  unfold ev_Incoming_init
  walk_at "go"
  refine w_dec (fun c => absurd c (by omega)) (fun c => ?_)
  walk_at "go"
  simp only [List.set_set]
  exact h
theorem w_iwrong {s : IS} {p : PC} (hS : S[n]? = some (inO a.cIncoming st s)) (h : Q (s.wrong p) S) : WE (fn_Incoming_wrong a [.ref n, pcD st p] S) Q := by
  obtain ⟨rm, up, re, gr, fi, co, pa⟩ := s
  simp only [inO] at hS
  unfold IS.wrong at h
  simp only at h
  refine w_fn ?_
  unfold ev_Incoming_wrong
  walk_at "go"
  refine w_ix (ds := pcs st p) rfl (y := .int p.low) rfl ?_
  walk_at "go"
  refine w_ix (ds := pcs st p) rfl (y := .tup (p.os.map D.int)) rfl ?_
  walk_at "go"
  refine w_len rfl ?_
  rw [List.length_map]
  walk_at "go"
  rw [show p.low + (p.os.length : Int) = p.end from rfl]
  by_cases c1 : p.end > up
  · rw [show wrongI up gr fi p = .str "room" from if_pos c1] at h
    rw [decide_eq_true c1]
    walk_at "go"
    exact h
  · have e1 : wrongI up gr fi p = if p.l = 1 ∧ (p.end < gr ∨ offEnd fi p.end = true) then .str "last" else if pastEnd fi p.end = true then .str "last" else .non := if_neg c1
    rw [e1] at h
    clear e1
    rw [decide_eq_false c1]
    walk_at "go"
    refine w_ix (ds := pcs st p) rfl (y := .int p.l) rfl ?_
    walk_at "go"
    have hC : ¬ (p.l = 1 ∧ (p.end < gr ∨ offEnd fi p.end = true)) → Q (if pastEnd fi p.end = true then .str "last" else .non) S := fun c => by rw [if_neg c] at h; exact h
    have hA : p.l = 1 ∧ (p.end < gr ∨ offEnd fi p.end = true) → Q (.str "last") S := fun c => by rw [if_pos c] at h; exact h
    clear h
    cases fi with
    | none =>
      simp only [optD] at hS
      have hC2 : ¬ (p.l = 1 ∧ p.end < gr) → Q .non S := fun c => by
        have := hC (fun z => c ⟨z.1, z.2.elim id fun z => by cases z⟩)
        rwa [if_neg (by intro z; cases z)] at this
      refine w_dec (fun c2 => ?_) (fun c2 => ?_)
      · walk_at "go"
        refine w_dec (fun c3 => ?_) (fun c3 => ?_)
        · walk_at "go"
          exact hA ⟨c2, .inl c3⟩
        · walk_at "go"
          exact hC2 fun z => c3 z.2
      · walk_at "go"
        exact hC2 fun z => c2 z.1
    | some e =>
      simp only [optD] at hS
      have o1 : offEnd (some e) p.end = true ↔ p.end ≠ e := decide_eq_true_iff
      have o2 : pastEnd (some e) p.end = true ↔ p.end > e := decide_eq_true_iff
      rw [o1] at hA hC
      simp only [o2] at hC
      have fin2 : ∀ (σ : Sg), σ[0]? = some (some (.ref n)) → True := fun _ _ => trivial
      refine w_dec (fun c2 => ?_) (fun c2 => ?_)
      · walk_at "go"
        refine w_dec (fun c3 => ?_) (fun c3 => ?_)
        · walk_at "go"
          exact hA ⟨c2, .inl c3⟩
        · walk_at "go"
          refine w_ndec (fun c4 => ?_) (fun c4 => ?_)
          · walk_at "go"
            exact hA ⟨c2, .inr c4⟩
          · have := hC (fun z => z.2.elim c3 fun z => z c4)
            walk_at "go"
            refine w_dec (fun c5 => ?_) (fun c5 => ?_)
            · rw [if_pos c5] at this
              walk_at "go"
              exact this
            · rw [if_neg c5] at this
              walk_at "go"
              exact this
      · have := hC (fun z => c2 z.1)
        walk_at "go"
        refine w_dec (fun c5 => ?_) (fun c5 => ?_)
        · rw [if_pos c5] at this
          walk_at "go"
          exact this
        · rw [if_neg c5] at this
          walk_at "go"
          exact this
theorem wrong_is (up gr : Int) (f : Option Int) (p : PC) : wrongI up gr f p = .str "room" ∨ wrongI up gr f p = .str "last" ∨ (wrongI up gr f p = .non ∧ p.end ≤ up) := by
  unfold wrongI
  split
  · exact .inl rfl
  · split
    · exact .inr (.inl rfl)
    · split
      · exact .inr (.inl rfl)
      · exact .inr (.inr ⟨rfl, by omega⟩)
theorem key_row (r : Row) : keyN 1 (rowD r) = [r.1] := rfl
theorem srt_row (rs : List Row) : isort (ltN 1) (rs.map rowD) = (srtRows rs).map rowD := by
  unfold srtRows
  rw [← isort_map]
  congr 1
  refine isort_congr swo_row fun x _ y _ => ?_
  show lexL (keyN 1 (rowD x)) (keyN 1 (rowD y)) = ltRow x y
  rw [key_row, key_row]
  unfold ltRow lexL
  by_cases c : x.1 = y.1
  · rw [if_pos c, decide_eq_false (by omega)]
    rfl
  · rw [if_neg c]
theorem row_nodup {rs : List Row} (h : rs.Pairwise sepRow) (ne : ∀ r ∈ rs, 0 < r.2.length) : ((rs.map rowD).map (keyN 1)).Nodup := by
  rw [List.map_map]
  refine List.pairwise_map.mpr (h.imp_of_mem fun {x y} hx hy q e => ?_)
  have e : keyN 1 (rowD x) = keyN 1 (rowD y) := e
  rw [key_row, key_row] at e
  have e : x.1 = y.1 := (List.cons.inj e).1
  have := ne x hx
  have := ne y hy
  unfold sepRow at q
  omega
theorem asc_len : ∀ {ns : List Int} {lo : Int} {m : Nat}, ns.Pairwise (· < ·) → (∀ k ∈ ns, lo ≤ k ∧ k < lo + m) → ns.length ≤ m
  | [], _, _, _, _ => Nat.zero_le _
  | k :: ns, lo, m, h1, h2 => by
    obtain ⟨a1, a2⟩ := List.pairwise_cons.mp h1
    have hk := h2 k (List.mem_cons_self ..)
    have ih := asc_len (ns := ns) (lo := lo + 1) (m := m - 1) a2 fun x hx => by
      have := a1 x hx
      have := h2 x (List.mem_cons_of_mem _ hx)
      omega
    rw [List.length_cons]
    omega
theorem rowsOk_len {rows : List Row} {come : List Rg} (h : RowsOk rows come) {lo : Int} {m : Nat} (hm : ∀ k, memR k come → lo ≤ k ∧ k < lo + m) : rows.length ≤ m := by
  have nd : (rows.map (·.1)).Pairwise (· < ·) := List.pairwise_map.mpr (h.asc.imp_of_mem fun {x y} hx hy q => by
    have := h.ne x hx
    omega)
  have := asc_len (lo := lo) (m := m) nd fun k hk => by
    obtain ⟨r, hr, e⟩ := List.mem_map.mp hk
    have n := h.ne r hr
    obtain ⟨v, e2⟩ := row_at (r := r) (k := r.1) (Int.le_refl _) (by omega)
    have := hm r.1 ((h.cv _).mpr ⟨v, r, hr, Int.le_refl _, e2⟩)
    rw [← e]
    exact this
  rw [List.length_map] at this
  exact this
theorem memR_cons' {rs : List Rg} {r : Rg} (h : r ∈ rs) (l : r.1 ≤ r.2) : memR r.1 rs := ⟨r, h, Int.le_refl _, l⟩
theorem can_lenI {rs : List Rg} {lo : Int} {m : Nat} (h : Can rs) (hm : ∀ k, memR k rs → lo ≤ k ∧ k < lo + m) : rs.length ≤ m := by
  have nd : (rs.map (·.1)).Pairwise (· < ·) := List.pairwise_map.mpr (h.ap.imp_of_mem fun {x y} hx hy q => by
    have := h.le x hx
    unfold apt at q
    omega)
  have := asc_len (lo := lo) (m := m) nd fun k hk => by
    obtain ⟨r, hr, e⟩ := List.mem_map.mp hk
    rw [← e]
    exact hm r.1 (memR_cons' hr (h.le r hr))
  rw [List.length_map] at this
  exact this
/-- what a take needs of the sizes -/
structure TakeB (s : IS) (p : PC) : Prop where
  r : RowsOk s.parts s.come
  lo : ∀ k, memR k s.come → s.read ≤ k
  sp : ∀ k, memR k s.come → k < s.read + 5000
  pe : p.end ≤ s.read + 5000
  r0 : 0 ≤ s.read ∧ s.read ≤ 100000
  pl : 0 ≤ p.low
theorem TakeB.cl {s : IS} {p : PC} (h : TakeB s p) : s.come.length ≤ 5000 := can_lenI (lo := s.read) h.r.can fun k q => ⟨h.lo k q, h.sp k q⟩
theorem TakeB.pre {s : IS} {p : PC} (h : TakeB s p) {pre post : List Rg} (e : s.gaps p = pre ++ post) : RowsOk (pre.foldl (stepI p) (s.parts, s.come)).1 (pre.foldl (stepI p) (s.parts, s.come)).2 ∧ (pre.foldl (stepI p) (s.parts, s.come)).1.length ≤ 5000 ∧ (pre.foldl (stepI p) (s.parts, s.come)).2.length ≤ 5000 ∧
    ∀ r rs, post = r :: rs → (p.low ≤ r.1 ∧ r.1 ≤ r.2 ∧ r.2 < p.end) ∧ ∀ k, r.1 ≤ k → k ≤ r.2 → ¬ memR k (pre.foldl (stepI p) (s.parts, s.come)).2 := by
  obtain ⟨g1, g2⟩ := gaps_ok h.r.can (max p.low s.read) (p.end - 1)
  have g1 : Can (s.gaps p) := g1
  have g2 : ∀ k, memR k (s.gaps p) ↔ _ := g2
  rw [e] at g1 g2
  have cp : Can pre := ⟨(List.pairwise_append.mp g1.ap).1, fun r hr => g1.le r (List.mem_append.mpr (.inl hr))⟩
  have inp : ∀ k, memR k pre → (max p.low s.read ≤ k ∧ k ≤ p.end - 1) ∧ ¬ memR k s.come := fun k q => (g2 k).mp (memR_app.mpr (.inl q))
  obtain ⟨s1, s2⟩ := steps_ok (p := p) (gs := pre) h.r cp fun k hk => by
    have := inp k hk
    exact ⟨by omega, by omega, this.2⟩
  have pe := h.pe
  have all : ∀ k, memR k (pre.foldl (stepI p) (s.parts, s.come)).2 → memR k s.come ∨ memR k pre := fun k q => by
    obtain ⟨v, q⟩ := (s1.cv k).mp q
    rcases (s2 k v).mp q with q | q
    · exact .inl ((h.r.cv k).mpr ⟨v, q⟩)
    · exact .inr q.1
  have bd : ∀ k, memR k (pre.foldl (stepI p) (s.parts, s.come)).2 → s.read ≤ k ∧ k < s.read + (5000 : Nat) := fun k q => by
    rcases all k q with q | q
    · exact ⟨h.lo k q, h.sp k q⟩
    · have := (inp k q).1
      omega
  refine ⟨s1, rowsOk_len s1 bd, can_lenI s1.can bd, fun r rs er => ?_⟩
  rw [er] at g1 g2
  have rle := g1.le r (List.mem_append.mpr (.inr (List.mem_cons_self ..)))
  have m1 := (g2 r.1).mp (memR_app.mpr (.inr (memR_cons.mpr (.inl ⟨Int.le_refl _, rle⟩))))
  have m2 := (g2 r.2).mp (memR_app.mpr (.inr (memR_cons.mpr (.inl ⟨rle, Int.le_refl _⟩))))
  refine ⟨⟨by omega, rle, by omega⟩, fun k k1 k2 q => ?_⟩
  rcases all k q with q | ⟨x, hx, q1, q2⟩
  · exact ((g2 k).mp (memR_app.mpr (.inr (memR_cons.mpr (.inl ⟨k1, k2⟩))))).2 q
  · have := (List.pairwise_append.mp g1.ap).2.2 x hx r (List.mem_cons_self ..)
    unfold apt at this
    omega
theorem w_itake {s : IS} {p : PC} (hb : s.wrong p = .non → TakeB s p) (hS : S[n]? = some (inO a.cIncoming st s)) (hW : s.wrong p ≠ .non → Q (s.wrong p) S)
    (hN : s.wrong p = .non → ∀ S', Ch n S S' → S'[n]? = some (inO a.cIncoming st (s.take p)) → Q .non S') : WE (fn_Incoming_take a [.ref n, pcD st p] S) Q := by
  have hS' := hS
  simp only [inO] at hS'
  refine w_fn ?_
  unfold ev_Incoming_take
  refine w_cut5 (fun σ S2 => s.wrong p = .non ∧ σ = [some (.ref n), some (pcD st p), some .non, some (.int p.low), some (.int p.end), none, none] ∧ Ch n S S2 ∧ S2[n]? = some (inO a.cIncoming st { s with gr := max s.gr p.end, fin := if p.l = 1 then some p.end else s.fin })) ?_ fun σ S2 ⟨e0, e1, ch2, k2⟩ => ?_
  · walk_at "go"
    refine ⟨_, _, rfl, hS', rfl, ?_⟩
    walk_at "go"
    refine ⟨rfl, ?_⟩
    refine w_iwrong hS ?_
    rcases wrong_is s.upto s.gr s.fin p with e | e | ⟨e, _⟩
    · have e : s.wrong p = .str "room" := e
      rw [e] at hW ⊢
      walk_at "go"
      exact hW (by intro z; cases z)
    · have e : s.wrong p = .str "last" := e
      rw [e] at hW ⊢
      walk_at "go"
      exact hW (by intro z; cases z)
    have e : s.wrong p = .non := e
    rw [e]
    walk_at "go"
    refine w_ix (ds := pcs st p) rfl (y := .int p.low) rfl ?_
    walk_at "go"
    refine w_ix (ds := pcs st p) rfl (y := .int p.low) rfl ?_
    walk_at "go"
    refine w_ix (ds := pcs st p) rfl (y := .tup (p.os.map D.int)) rfl ?_
    walk_at "go"
    refine w_len rfl ?_
    rw [List.length_map]
    have k1 := st_same (x := inO a.cIncoming st { s with gr := max s.gr p.end }) hS
    have k1' := k1
    simp only [inO] at k1'
    walk_at "go"
    refine w_ix (ds := pcs st p) rfl (y := .int p.l) rfl ?_
    walk_at "go"
    refine w_dec (fun c => ?_) (fun c => ?_)
    · walk_at "go"
      refine ⟨rfl, rfl, ((Ch.refl n S).set).set, ?_⟩
      rw [st_same (st_same hS), if_pos c]
      rfl
    · walk_at "go"
      refine ⟨rfl, rfl, (Ch.refl n S).set, ?_⟩
      rw [st_same hS, if_neg c]
      rfl
  have B := hb e0
  have hN := hN e0
  clear hW hb e0 hS hS'
  rw [e1]
  clear e1
  have k2' := k2
  simp only [inO] at k2'
  have cl := B.cl
  walk_at "go"
  refine w_gaps (fun c pre post e => ?_) fun S3 g3 => ?_
  · obtain ⟨k1, k2⟩ := dropAll_can (os := pre) (rs := [(max p.low s.read, p.end - 1)]) ⟨List.pairwise_singleton _ _, fun r hr => by rw [List.mem_singleton.mp hr]; exact c⟩ fun o ho => B.r.can.le o (by rw [e]; exact List.mem_append.mpr (.inl ho))
    have pe := B.pe
    exact Nat.le_trans (can_lenI (lo := s.read) (m := 5000) k1 fun k q => by
      have := memR_one.mp ((k2 k).mp q).1
      simp only at this
      omega) (by omega)
  have k3 := g3.get k2
  walk_at "go"
  refine w_pre pD (fun pre σ S4 => ∃ o5 o6, σ = [some (.ref n), some (pcD st p), some .non, some (.int p.low), some (.int p.end), o5, o6] ∧ Ch n S S4 ∧ S4[n]? = some (inO a.cIncoming st { s with gr := max s.gr p.end, fin := if p.l = 1 then some p.end else s.fin, parts := (pre.foldl (stepI p) (s.parts, s.come)).1, come := (pre.foldl (stepI p) (s.parts, s.come)).2 }))
    ⟨_, _, rfl, ch2.gw g3, k3⟩ (fun pre r post σ S4 e ⟨o5, o6, e1, ch4, k4⟩ => ?_) fun σ S4 ⟨o5, o6, e1, ch4, k4⟩ => ?_
  · subst e1
    obtain ⟨f1, f2, f3, f4⟩ := B.pre (pre := pre) (post := r :: post) e
    obtain ⟨f5, f6⟩ := f4 r post rfl
    have k4' := k4
    simp only [inO] at k4'
    show ∃ σ1 S1, gtTup _ (.tup [.int r.1, .int r.2]) _ _ = some (σ1, S1) ∧ _
    generalize hrs : (pre.foldl (stepI p) (s.parts, s.come)).1 = rows at *
    generalize hcm : (pre.foldl (stepI p) (s.parts, s.come)).2 = cm at *
    obtain ⟨q1, q2⟩ := sep_row f1 f5.1 f5.2.1 f5.2.2 f6
    have f7 := f5.1
    have f8 := f5.2.1
    walk_at "go"
    refine w_ix (ds := pcs st p) rfl (y := .tup (p.os.map D.int)) rfl ?_
    walk_at "go"
    refine w_tupT ?_
    rw [cut_mid (by omega) (by omega), ← List.map_drop, ← List.map_take]
    walk_at "go"
    with_reducible refine w_cat (sz _ (by rw [List.length_map, List.length_singleton]; omega)) ?_
    rw [show rows.map rowD ++ [D.tup [.int r.1, .tup (((p.os.drop (r.1 - p.low).toNat).take ((r.2 + 1 - p.low).toNat - (r.1 - p.low).toNat)).map D.int)]] = (rows ++ [rowOf p r]).map rowD by rw [List.map_append]; rfl]
    walk_at "go"
    refine w_sortK rfl (by omega) (fun x hx => ?_) (row_nodup q1 q2) ?_
    · obtain ⟨y, _, e⟩ := List.mem_map.mp hx
      subst e
      rfl
    rw [srt_row]
    have k5 := st_same (x := inO a.cIncoming st { s with gr := max s.gr p.end, fin := if p.l = 1 then some p.end else s.fin, parts := srtRows (rows ++ [rowOf p r]), come := cm }) k4
    have k5' := k5
    simp only [inO] at k5'
    walk_at "go"
    refine w_put_range (by omega) fun S5 g5 => ?_
    have k6 := g5.get k5
    have k6' := k6
    simp only [inO] at k6'
    walk_at "go"
    refine ⟨_, _, rfl, ((ch4.set).gw g5).set, ?_⟩
    rw [st_same k6, List.foldl_append]
    have ep : pre.foldl (stepI p) (s.parts, s.come) = (rows, cm) := by rw [← hrs, ← hcm]
    rw [ep]
    rfl
  · subst e1
    walk_at "go"
    exact hN _ ch4 k4
theorem w_iready {s : IS} (hS : S[n]? = some (inO a.cIncoming st s)) (h : Q (.int s.ready) S) : WE (fn_Incoming_ready a [.ref n] S) Q := by
  obtain ⟨rm, up, re, gr, fi, co, pa⟩ := s
  simp only [inO] at hS
  unfold IS.ready readyR at h
  simp only at h
  refine w_fn ?_
  unfold ev_Incoming_ready
  walk_at "go"
  refine w_len rfl ?_
  rw [List.length_map]
  walk_at "go"
  cases co with
  | nil =>
    refine w_dec (fun c => absurd c (by simp)) (fun _ => ?_)
    walk_at "go"
    exact h
  | cons r rs =>
    simp only at h
    refine w_dec (fun _ => ?_) (fun c => absurd c (by simp))
    walk_at "go"
    refine w_ix rfl (y := .tup [.int r.1, .int r.2]) atI_0 ?_
    walk_at "go"
    refine w_ix rfl (y := .int r.1) rfl ?_
    walk_at "go"
    refine w_dec (fun c => ?_) (fun c => ?_)
    · rw [if_pos c] at h
      walk_at "go"
      refine w_ix rfl (y := .tup [.int r.1, .int r.2]) atI_0 ?_
      walk_at "go"
      refine w_ix rfl (y := .int r.2) rfl ?_
      walk_at "go"
      exact h
    · rw [if_neg c] at h
      walk_at "go"
      exact h
theorem w_iread {s : IS} {most : Int} (hm : 0 ≤ most) (ok : IOk s) (hb : s.ready ≤ 900) (hl : s.come.length ≤ 10000 ∧ s.parts.length ≤ 10000) (hS : S[n]? = some (inO a.cIncoming st s))
    (h : ∀ S', Ch n S S' → S'[n]? = some (inO a.cIncoming st (s.readS most)) → Q (nsD (s.got most)) S') : WE (fn_Incoming_read a [.ref n, .int most] S) Q := by
  have hS' := hS
  simp only [inO] at hS'
  obtain ⟨o1, o2, o3, o4, o5, o6⟩ := ok.readS hm
  have rne := ok.r.ne
  have mle : s.many most ≤ 900 := by
    unfold IS.many
    omega
  refine w_fn ?_
  unfold ev_Incoming_read
  walk_at "go"
  refine w_dec (fun c => absurd c (by omega)) (fun _ => ?_)
  walk_at "go"
  refine ⟨_, _, rfl, hS', rfl, ?_⟩
  walk_at "go"
  refine ⟨rfl, ?_⟩
  refine w_iready hS ?_
  walk_at "go"
  rw [show min most s.ready = s.many most from rfl]
  unfold IS.got at h o2
  generalize hN : (s.many most).toNat = N at *
  have eN : s.many most = (N : Int) := by omega
  rw [eN]
  refine w_while (fun k σ S' => ∃ (fd : List Int) (ps : List Row) (o4 o5 o6 o7 o8 : Option D), σ = [some (.ref n), some (.int most), some (.int (N : Int)), some (nsD fd), o4, o5, o6, o7, o8] ∧ Ch n S S' ∧ S'[n]? = some (inO a.cIncoming st { s with parts := ps }) ∧
      fd ++ (takeR ps (N - fd.length)).1 = (takeR s.parts N).1 ∧ (takeR ps (N - fd.length)).2 = (takeR s.parts N).2 ∧ fd.length ≤ N ∧ (∀ r ∈ ps, 0 < r.2.length) ∧ ps.length ≤ s.parts.length ∧ k = N - fd.length)
    N (by omega) ⟨[], s.parts, none, none, none, none, none, rfl, Ch.refl n S, hS, rfl, rfl, Nat.zero_le _, rne, Nat.le_refl _, rfl⟩ fun k σ S' ⟨fd, ps, o4, o5, o6, o7, o8, e1, ch, k1, e2, e3, e4, e5, e6, e7⟩ => ?_
  subst e1
  have k1' := k1
  simp only [inO] at k1'
  walk_at "go"
  refine w_len rfl ?_
  rw [List.length_map]
  walk_at "go"
  by_cases c : (fd.length : Int) < N
  · rw [decide_eq_true c]
    walk_at "go"
    have tl : fd.length + (takeR ps (N - fd.length)).1.length = N := by
      have := congrArg List.length e2
      rw [List.length_append] at this
      omega
    cases ps with
    | nil => exact absurd tl (by show ¬ fd.length + 0 = N; omega)
    | cons r rs =>
      have rl := e5 r (List.mem_cons_self ..)
      have tk : takeR (r :: rs) (N - fd.length) = if N - fd.length < r.2.length then (r.2.take (N - fd.length), (r.1 + ((N - fd.length : Nat) : Int), r.2.drop (N - fd.length)) :: rs) else (r.2 ++ (takeR rs (N - fd.length - r.2.length)).1, (takeR rs (N - fd.length - r.2.length)).2) := by
        show (if N - fd.length = 0 then _ else _) = _
        rw [if_neg (by omega)]
      by_cases d : N - fd.length < r.2.length
      · rw [if_pos d] at tk
        rw [tk] at e2 e3
        simp only at e2 e3
        refine ⟨0, by omega, ?_⟩
        walk_at "go"
        refine w_ix rfl (y := .tup [.int r.1, .tup (r.2.map D.int)]) atI_0 ?_
        walk_at "go"
        refine w_len rfl ?_
        rw [List.length_map]
        walk_at "go"
        rw [cut_to (by omega), ← List.map_take, show ((N : Int) - (fd.length : Int)).toNat = N - fd.length by omega]
        refine w_list rfl ?_
        walk_at "go"
        have tkl : (r.2.take (N - fd.length)).length = min (N - fd.length) r.2.length := List.length_take
        with_reducible refine w_cat (sz _ (by rw [List.length_map, List.length_map, tkl]; omega)) ?_
        rw [← List.map_append]
        walk_at "go"
        refine w_len rfl ?_
        rw [List.length_map]
        walk_at "go"
        refine w_len rfl ?_
        rw [List.length_map]
        walk_at "go"
        refine w_dec (fun _ => ?_) (fun c' => absurd c' (by omega))
        walk_at "go"
        refine w_len rfl ?_
        rw [List.length_map]
        walk_at "go"
        refine w_len rfl ?_
        rw [List.length_map]
        walk_at "go"
        rw [cut_from (by omega), ← List.map_drop, tkl, show ((min (N - fd.length) r.2.length : Nat) : Int) = ((N - fd.length : Nat) : Int) by omega, Int.toNat_natCast]
        rw [cut_from (by omega)]
        with_reducible refine w_cat (sz _ (by rw [List.length_singleton, List.length_drop, List.length_map]; omega)) ?_
        walk_at "go"
        refine ⟨fd ++ r.2.take (N - fd.length), (r.1 + ((N - fd.length : Nat) : Int), r.2.drop (N - fd.length)) :: rs, _, _, _, _, _, rfl, ch.set, ?_, ?_, ?_, ?_, fun x hx => ?_, e6, ?_⟩
        · rw [st_same k1]
          rfl
        · rw [List.length_append, tkl, show N - (fd.length + min (N - fd.length) r.2.length) = 0 by omega, takeR_zero, List.append_nil]
          exact e2
        · rw [List.length_append, tkl, show N - (fd.length + min (N - fd.length) r.2.length) = 0 by omega, takeR_zero]
          exact e3
        · rw [List.length_append, tkl]
          omega
        · rcases List.mem_cons.mp hx with e | hx
          · rw [e]
            show 0 < (r.2.drop (N - fd.length)).length
            rw [List.length_drop]
            omega
          · exact e5 x (List.mem_cons_of_mem _ hx)
        · rw [List.length_append, tkl]
          omega
      · rw [if_neg d] at tk
        rw [tk] at e2 e3
        simp only at e2 e3
        refine ⟨N - (fd.length + r.2.length), by omega, ?_⟩
        walk_at "go"
        refine w_ix rfl (y := .tup [.int r.1, .tup (r.2.map D.int)]) atI_0 ?_
        walk_at "go"
        refine w_len rfl ?_
        rw [List.length_map]
        walk_at "go"
        rw [cut_to (by omega), ← List.map_take, show ((N : Int) - (fd.length : Int)).toNat = N - fd.length by omega]
        refine w_list rfl ?_
        walk_at "go"
        have tkl : (r.2.take (N - fd.length)).length = min (N - fd.length) r.2.length := List.length_take
        with_reducible refine w_cat (sz _ (by rw [List.length_map, List.length_map, tkl]; omega)) ?_
        rw [← List.map_append]
        walk_at "go"
        refine w_len rfl ?_
        rw [List.length_map]
        walk_at "go"
        refine w_len rfl ?_
        rw [List.length_map]
        walk_at "go"
        refine w_dec (fun c' => absurd c' (by omega)) (fun _ => ?_)
        walk_at "go"
        rw [cut_from (by omega)]
        with_reducible refine w_cat (sz _ (by rw [List.length_nil, List.length_drop, List.length_map]; omega)) ?_
        walk_at "go"
        have tke : r.2.take (N - fd.length) = r.2 := List.take_of_length_le (by omega)
        rw [tke]
        refine ⟨fd ++ r.2, rs, _, _, _, _, _, rfl, ch.set, ?_, ?_, ?_, ?_, fun x hx => e5 x (List.mem_cons_of_mem _ hx), by rw [List.length_cons] at e6; omega, ?_⟩
        · rw [st_same k1]
          rfl
        · rw [List.length_append, List.append_assoc, show N - (fd.length + r.2.length) = N - fd.length - r.2.length by omega]
          exact e2
        · rw [List.length_append, show N - (fd.length + r.2.length) = N - fd.length - r.2.length by omega]
          exact e3
        · rw [List.length_append]
          omega
        · rw [List.length_append]
  · rw [decide_eq_false c]
    walk_at "go"
    have ez : N - fd.length = 0 := by omega
    rw [ez, takeR_zero] at e2 e3
    rw [List.append_nil] at e2
    simp only at e3
    subst e3
    refine w_fldA ?_
    walk_at "go"
    refine ⟨_, _, _, _, rfl, k1, List.mem_singleton.mpr rfl, rfl, ?_⟩
    walk_at "go"
    refine ⟨_, _, rfl, k1, Nat.le_of_ble_eq_true rfl, ?_⟩
    walk_at "go"
    refine w_compF pD (fun r => decide (r.2 ≥ s.read + N)) (fun r => pD (max r.1 (s.read + N), r.2)) s.come [] (sz _ (by rw [List.length_nil]; omega)) (fun r hr => ⟨_, rfl, ?_, fun _ => ?_⟩) ?_
    · walk_at "go"
      exact ⟨rfl, rfl⟩
    · walk_at "go"
      exact ⟨rfl, rfl⟩
    walk_at "go"
    rw [List.nil_append, show (s.come.filter fun r => decide (r.2 ≥ s.read + N)).map (fun r => pD (max r.1 (s.read + N), r.2)) = (comeF s.come (s.read + N)).map pD by unfold comeF; rw [List.map_map]; rfl]
    walk_at "go"
    rw [← e2] at h
    refine h _ (ch.set.set) ?_
    rw [st_same (st_same k1)]
    unfold IS.readS
    rw [hN, eN]
    rfl
theorem w_ilet {s : IS} {u : Int} (hu : s.upto ≤ u) (hS : S[n]? = some (inO a.cIncoming st s)) (h : ∀ S', Ch n S S' → S'[n]? = some (inO a.cIncoming st { s with upto := u }) → Q .non S') : WE (fn_Incoming_let a [.ref n, .int u] S) Q := by
  have hS' := hS
  simp only [inO] at hS'
  refine w_fn ?_
  unfold ev_Incoming_let
  walk_at "go"
  refine w_dec (fun c => absurd c (by omega)) (fun _ => ?_)
  walk_at "go"
  refine h _ (Ch.refl n S).set ?_
  rw [st_same hS]
  rfl
theorem w_iover {s : IS} (hS : S[n]? = some (inO a.cIncoming st s)) (h : Q (.bl s.over) S) : WE (fn_Incoming_is_over a [.ref n] S) Q := by
  obtain ⟨rm, up, re, gr, fi, co, pa⟩ := s
  simp only [inO] at hS
  unfold IS.over isFin at h
  refine w_fn ?_
  unfold ev_Incoming_is_over
  cases fi with
  | none =>
    simp only [optD] at hS
    walk_at "go"
    exact h
  | some e =>
    simp only [optD] at hS
    walk_at "go"
    exact h
end

/-! pieces of a text -/
def pcOf (tx : List Int) (c h : Int) : PC := ⟨c, (tx.drop c.toNat).take (h.toNat - c.toNat), if h = tx.length then 1 else 0⟩
theorem pcOf_end {tx : List Int} {c h : Int} (h0 : 0 ≤ c) (h1 : c ≤ h) (h2 : h ≤ tx.length) : ((pcOf tx c h).os.length : Int) = h - c ∧ (pcOf tx c h).end = h ∧ (pcOf tx c h).high = h - 1 := by
  have e : ((pcOf tx c h).os.length : Int) = h - c := by
    show (((tx.drop c.toNat).take (h.toNat - c.toNat)).length : Int) = _
    rw [List.length_take, List.length_drop]
    omega
  refine ⟨e, ?_, ?_⟩
  · unfold PC.end
    rw [e]
    show c + (h - c) = h
    omega
  · unfold PC.high
    rw [e]
    show c + (h - c) - 1 = h - 1
    omega
theorem pcOf_at {tx : List Int} {c h k v : Int} (h0 : 0 ≤ c) (h3 : c ≤ k) (e : (pcOf tx c h).os[(k - (pcOf tx c h).low).toNat]? = some v) : tx[k.toNat]? = some v := by
  have e : ((tx.drop c.toNat).take (h.toNat - c.toNat))[(k - c).toNat]? = some v := e
  rw [List.getElem?_take] at e
  split at e
  · rw [List.getElem?_drop, show c.toNat + (k - c).toNat = k.toNat by omega] at e
    exact e
  · cases e
def rg1 (c d : Int) : List Rg := if c < d then [(c, d - 1)] else []
theorem rg1_can (c d : Int) : Can (rg1 c d) ∧ ∀ k, memR k (rg1 c d) ↔ c ≤ k ∧ k < d := by
  unfold rg1
  by_cases l : c < d
  · rw [if_pos l]
    refine ⟨⟨List.pairwise_singleton _ _, fun r hr => by rw [List.mem_singleton.mp hr]; show c ≤ d - 1; omega⟩, fun k => ?_⟩
    rw [memR_one]
    simp only
    omega
  · rw [if_neg l]
    exact ⟨can_nil, fun k => ⟨fun q => (memR_nil q).elim, fun q => by omega⟩⟩
theorem rg1_len (c d : Int) : (rg1 c d).length ≤ 1 := by
  unfold rg1
  split
  · exact Nat.le_refl _
  · exact Nat.zero_le _
theorem rg1_nil {c d : Int} (h : d ≤ c) : rg1 c d = [] := if_neg (by omega)
theorem rg1_drop {c h d : Int} (h1 : c < h) (h2 : h ≤ d) : dropR (rg1 c d) c (h - 1) = rg1 h d := by
  obtain ⟨a1, a2⟩ := rg1_can c d
  obtain ⟨b1, b2⟩ := rg1_can h d
  obtain ⟨d1, d2⟩ := drop_can a1 (low := c) (high := h - 1) (by omega)
  refine can_eq d1 b1 fun k => ?_
  rw [d2 k, a2 k, b2 k]
  omega
theorem rg1_put {b d h : Int} (h0 : b ≤ d) (h1 : d < h) : putR (rg1 b d) d (h - 1) = rg1 b h := by
  obtain ⟨a1, a2⟩ := rg1_can b d
  obtain ⟨b1, b2⟩ := rg1_can b h
  obtain ⟨d1, d2⟩ := put_can a1 (low := d) (high := h - 1) (by omega)
  refine can_eq d1 b1 fun k => ?_
  rw [d2 k, a2 k, b2 k]
  omega
/-! the stream while pieces are handed out, lost, got -/
def oS (tx : List Int) (b sent : Int) (lost : List Rg) (last : Str) : OS := ⟨b, tx.drop b.toNat, tx.length, sent, [], lost, true, last⟩
def stA (tx : List Int) (first : Bool) (c : Int) (e : Bool) : OS := oS tx 0 (if first then c else tx.length) (if first then [] else rg1 c tx.length) (if e then Str.ofString "flying" else if first then Str.ofString "unsent" else Str.ofString "lost")
structure OkA (tx : List Int) (c : Int) (e : Bool) : Prop where
  c0 : 0 ≤ c
  cN : c ≤ tx.length
  et : e = true → c = tx.length
  ef : e = false → c < tx.length ∨ tx.length = 0
theorem nxt {tx : List Int} {c : Int} (ok : OkA tx c false) {size : Int} (hs : 1 ≤ size) : OkA tx (min (tx.length : Int) (c + size)) (decide (min (tx.length : Int) (c + size) = tx.length)) := by
  have := ok.c0
  have := ok.cN
  refine ⟨by omega, by omega, fun z => of_decide_eq_true z, fun z => ?_⟩
  have := of_decide_eq_false z
  omega
theorem ne_ug : Str.ofString "unsent" ≠ Str.ofString "got" := by decide +kernel
theorem ne_lgS : Str.ofString "lost" ≠ Str.ofString "got" := by decide +kernel
theorem in_u : Str.ofString "unsent" ∈ [Str.ofString "unsent", Str.ofString "lost"] := by decide +kernel
theorem in_l : Str.ofString "lost" ∈ [Str.ofString "unsent", Str.ofString "lost"] := by decide +kernel
theorem nin_f : Str.ofString "flying" ∉ [Str.ofString "unsent", Str.ofString "lost"] := by decide +kernel
theorem nin_g : Str.ofString "got" ∉ [Str.ofString "unsent", Str.ofString "lost"] := by decide +kernel
theorem pick_stA {tx : List Int} {first : Bool} {c : Int} (ok : OkA tx c false) (hN : tx.length ≤ 90) {size : Int} (hs : 1 ≤ size) : pickO (stA tx first c false) size 1000000 = some (c, min (tx.length : Int) (c + size)) := by
  have c0 := ok.c0
  have cN := ok.cN
  have ef := ok.ef rfl
  unfold pickO
  rw [if_neg (by omega)]
  cases first with
  | true =>
    rw [pickB_nil (show (stA tx true c false).lost = [] from rfl)]
    unfold pickM
    show (if min (min (tx.length : Int) 1000000) (c + size) > c then some (c, min (min (tx.length : Int) 1000000) (c + size)) else if true = true ∧ Str.ofString "unsent" ∈ [Str.ofString "unsent", Str.ofString "lost"] ∧ c = (tx.length : Int) then some ((tx.length : Int), (tx.length : Int)) else none) = _
    by_cases d : min (min (tx.length : Int) 1000000) (c + size) > c
    · rw [if_pos d]
      congr 2
      omega
    · rw [if_neg d, if_pos ⟨rfl, in_u, by omega⟩]
      congr 2 <;> omega
  | false =>
    by_cases d : c < tx.length
    · have el : (stA tx false c false).lost = (c, (tx.length : Int) - 1) :: [] := if_pos d
      rw [pickB_cons el, if_pos (by omega)]
      simp only
      congr 2
      omega
    · have el : (stA tx false c false).lost = [] := if_neg d
      rw [pickB_nil el]
      unfold pickM
      show (if min (min (tx.length : Int) 1000000) ((tx.length : Int) + size) > tx.length then some ((tx.length : Int), min (min (tx.length : Int) 1000000) ((tx.length : Int) + size)) else if true = true ∧ Str.ofString "lost" ∈ [Str.ofString "unsent", Str.ofString "lost"] ∧ (tx.length : Int) = (tx.length : Int) then some ((tx.length : Int), (tx.length : Int)) else none) = _
      rw [if_neg (by omega), if_pos ⟨rfl, in_l, rfl⟩]
      congr 2 <;> omega
theorem pick_stE {tx : List Int} {first : Bool} {c : Int} (ok : OkA tx c true) {size : Int} (hs : 1 ≤ size) : pickO (stA tx first c true) size 1000000 = none := by
  have cN := ok.et rfl
  unfold pickO
  rw [if_neg (by omega)]
  have el : (stA tx first c true).lost = [] := by
    cases first with
    | true => rfl
    | false => exact if_neg (by omega)
  rw [pickB_nil el]
  unfold pickM
  have es : (stA tx first c true).sent = (tx.length : Int) := by
    cases first with
    | true => exact cN
    | false => rfl
  have et : (stA tx first c true).taken = (tx.length : Int) := rfl
  rw [es, et, if_neg (show ¬ min (min (tx.length : Int) 1000000) ((tx.length : Int) + size) > tx.length by omega)]
  exact if_neg fun z => nin_f z.2.1
theorem pick_got {tx : List Int} : pickO (oS tx tx.length tx.length [] (Str.ofString "got")) 50 1000000 = none := by
  unfold pickO
  rw [if_neg (by omega), pickB_nil (show (oS tx tx.length tx.length [] (Str.ofString "got")).lost = [] from rfl)]
  unfold pickM
  exact (if_neg (show ¬ (min (min (tx.length : Int) 1000000) ((tx.length : Int) + 50) > (tx.length : Int)) by omega)).trans (if_neg fun z => nin_g z.2.1)
theorem piece_stA {tx : List Int} {first : Bool} {c : Int} (ok : OkA tx c false) {h : Int} (h1 : c ≤ h) (h2 : h ≤ tx.length) (h3 : c < h ∨ tx.length = 0) : (stA tx first c false).piece c h = stA tx first h (decide (h = tx.length)) ∧ (stA tx first c false).pieceOf c h = pcOf tx c h := by
  have c0 := ok.c0
  have lo : (stA tx first c false).lastOf h = decide (h = (tx.length : Int)) := rfl
  constructor
  · unfold OS.piece
    rw [lo]
    have e1 : (if h > c then dropR (stA tx first c false).lost c (h - 1) else (stA tx first c false).lost) = if first then [] else rg1 h tx.length := by
      cases first with
      | true =>
        show (if h > c then dropR [] c (h - 1) else []) = []
        rw [show dropR [] c (h - 1) = [] from rfl, ite_self]
      | false =>
        show (if h > c then dropR (rg1 c tx.length) c (h - 1) else rg1 c tx.length) = rg1 h tx.length
        by_cases d : h > c
        · rw [if_pos d, rg1_drop d h2]
        · rw [if_neg d, rg1_nil (by omega), rg1_nil (by omega)]
    have e2 : max (stA tx first c false).sent h = if first then h else (tx.length : Int) := by
      cases first with
      | true =>
        show max c h = h
        omega
      | false =>
        show max (tx.length : Int) h = tx.length
        omega
    have e3 : (if decide (h = (tx.length : Int)) = true ∧ (stA tx first c false).last ≠ Str.ofString "got" then Str.ofString "flying" else (stA tx first c false).last) = if decide (h = (tx.length : Int)) then Str.ofString "flying" else if first then Str.ofString "unsent" else Str.ofString "lost" := by
      have ng : (stA tx first c false).last ≠ Str.ofString "got" := by
        cases first with
        | true => exact ne_ug
        | false => exact ne_lgS
      by_cases d : h = (tx.length : Int)
      · rw [if_pos ⟨decide_eq_true d, ng⟩, if_pos (decide_eq_true d)]
      · rw [if_neg (fun z => d (of_decide_eq_true z.1)), if_neg (fun z => d (of_decide_eq_true z))]
        rfl
    have e1 := e1
    show OS.mk _ _ _ _ _ _ _ _ = OS.mk _ _ _ _ _ _ _ _
    congr 1
  · unfold OS.pieceOf pcOf OS.cut
    rw [lo]
    show PC.mk c ((tx.drop 0).drop (c - 0).toNat |>.take ((h - 0).toNat - (c - 0).toNat)) _ = _
    rw [List.drop_zero, show (c - 0).toNat = c.toNat by omega, show (h - 0).toNat = h.toNat by omega]
    congr 1
    by_cases d : h = (tx.length : Int)
    · rw [if_pos (decide_eq_true d), if_pos d]
    · rw [if_neg (fun z => d (of_decide_eq_true z)), if_neg d]
def stB (tx : List Int) (d : Int) (b : Bool) : OS := oS tx 0 tx.length (rg1 0 d) (if b then Str.ofString "lost" else Str.ofString "flying")
theorem stA_B {tx : List Int} {first : Bool} : stA tx first tx.length true = stB tx 0 false := by
  unfold stA stB
  rw [rg1_nil (Int.le_refl 0)]
  cases first with
  | true => rfl
  | false =>
    show oS tx 0 tx.length (rg1 tx.length tx.length) _ = _
    rw [rg1_nil (Int.le_refl _)]
    rfl
theorem stB_A {tx : List Int} : stB tx tx.length true = stA tx false 0 false := rfl
theorem due_stB {tx : List Int} {d h : Int} (ok : OkA tx d false) (h1 : d ≤ h) (h2 : h ≤ tx.length) : (stB tx d false).dueOf (pcOf tx d h) = if d < h then [(d, h - 1)] else [] := by
  have c0 := ok.c0
  obtain ⟨p1, p2, p3⟩ := pcOf_end c0 h1 h2
  unfold OS.dueOf
  rw [p3]
  show (if h - 1 ≥ max d 0 then dropAll [(max d 0, h - 1)] [] else []) = _
  by_cases q : d < h
  · rw [if_pos (by omega), if_pos q, show max d 0 = d by omega]
    rfl
  · rw [if_neg (by omega), if_neg q]
theorem lost_stB {tx : List Int} {d h : Int} (ok : OkA tx d false) (h1 : d ≤ h) (h2 : h ≤ tx.length) (h3 : d < h ∨ tx.length = 0) : (stB tx d false).lostOf (pcOf tx d h) = stB tx h (decide (h = tx.length)) ∧ (stB tx d false).lostB (pcOf tx d h) = true := by
  have c0 := ok.c0
  obtain ⟨p1, p2, p3⟩ := pcOf_end c0 h1 h2
  have el : (pcOf tx d h).l = 1 ↔ h = (tx.length : Int) := by
    show (if h = (tx.length : Int) then (1 : Int) else 0) = 1 ↔ _
    split
    · rename_i c
      exact ⟨fun _ => c, fun _ => rfl⟩
    · rename_i c
      exact ⟨fun z => by omega, fun z => absurd z c⟩
  have ed : (stB tx d false).dueOf (pcOf tx d h) = if d < h then [(d, h - 1)] else [] := by
    unfold OS.dueOf
    rw [p3]
    show (if h - 1 ≥ max d 0 then dropAll [(max d 0, h - 1)] [] else []) = _
    by_cases q : d < h
    · rw [if_pos (by omega), if_pos q, show max d 0 = d by omega]
      rfl
    · rw [if_neg (by omega), if_neg q]
  constructor
  · unfold OS.lostOf
    rw [ed]
    have e1 : (if d < h then [(d, h - 1)] else ([] : List Rg)).foldl (fun t o => putR t o.1 o.2) (stB tx d false).lost = rg1 0 h := by
      by_cases q : d < h
      · rw [if_pos q]
        exact rg1_put c0 q
      · rw [if_neg q, show h = d by omega]
        rfl
    have e2 : (if (pcOf tx d h).l = 1 ∧ (stB tx d false).last = Str.ofString "flying" then Str.ofString "lost" else (stB tx d false).last) = if decide (h = (tx.length : Int)) then Str.ofString "lost" else Str.ofString "flying" := by
      by_cases q : h = (tx.length : Int)
      · rw [if_pos ⟨el.mpr q, rfl⟩, if_pos (decide_eq_true q)]
      · rw [if_neg (fun z => q (el.mp z.1)), if_neg (fun z => q (of_decide_eq_true z))]
        rfl
    show OS.mk _ _ _ _ _ _ _ _ = OS.mk _ _ _ _ _ _ _ _
    congr 1
  · unfold OS.lostB
    rw [ed]
    by_cases q : d < h
    · rw [if_pos q]
      split
      · rfl
      · rfl
    · exact if_pos ⟨el.mpr (by omega), rfl⟩
theorem pre_one {α : Type} {x : α} {pre post : List α} (e : [x] = pre ++ post) : pre = [] ∨ pre = [x] := by
  cases pre with
  | nil => exact .inl rfl
  | cons y ys =>
    have e := List.cons.inj e
    have := List.append_eq_nil_iff.mp e.2.symm
    rw [← e.1, this.1]
    exact .inr rfl
theorem bounds_stB {tx : List Int} {d h : Int} (ok : OkA tx d false) (h1 : d ≤ h) (h2 : h ≤ tx.length) : (stB tx d false).lost.length + ((stB tx d false).dueOf (pcOf tx d h)).length ≤ 10000 ∧
    ((pcOf tx d h).high ≥ max (pcOf tx d h).low (stB tx d false).base → ∀ pre post : List Rg, (stB tx d false).got = pre ++ post → (dropAll [(max (pcOf tx d h).low (stB tx d false).base, (pcOf tx d h).high)] pre).length ≤ 10000) ∧
    ∀ pre post : List Rg, (stB tx d false).dueOf (pcOf tx d h) = pre ++ post → (pre.foldl (fun t o => putR t o.1 o.2) (stB tx d false).lost).length ≤ 10000 := by
  have c0 := ok.c0
  have ed := due_stB ok h1 h2
  have l0 : (stB tx d false).lost.length ≤ 1 := rg1_len 0 d
  refine ⟨?_, fun _ pre post e => ?_, fun pre post e => ?_⟩
  · rw [ed]
    split
    · show _ + 1 ≤ _
      omega
    · show _ + 0 ≤ _
      omega
  · have e : ([] : List Rg) = pre ++ post := e
    rw [(List.append_eq_nil_iff.mp e.symm).1]
    show 1 ≤ 10000
    omega
  · rw [ed] at e
    by_cases q : d < h
    · rw [if_pos q] at e
      rcases pre_one e with z | z
      · rw [z]
        show (stB tx d false).lost.length ≤ _
        omega
      · rw [z]
        show (putR (rg1 0 d) d (h - 1)).length ≤ _
        rw [rg1_put c0 q]
        have := rg1_len 0 h
        omega
    · rw [if_neg q] at e
      rw [(List.append_eq_nil_iff.mp e.symm).1]
      show (stB tx d false).lost.length ≤ _
      omega
def stC (tx : List Int) (d : Int) (b : Bool) : OS := oS tx d tx.length (rg1 d tx.length) (if b then Str.ofString "got" else Str.ofString "lost")
theorem stB_C {tx : List Int} : stB tx tx.length true = stC tx 0 false := rfl
theorem stC_end {tx : List Int} : stC tx tx.length true = oS tx tx.length tx.length [] (Str.ofString "got") := by
  unfold stC
  rw [rg1_nil (Int.le_refl _)]
  rfl
theorem got_stC {tx : List Int} {d h : Int} (ok : OkA tx d false) (h1 : d ≤ h) (h2 : h ≤ tx.length) (h3 : d < h ∨ tx.length = 0) : ((stC tx d false).gotA (pcOf tx d h)).gotB = stC tx h (decide (h = tx.length)) ∧ ∀ r rs, ((stC tx d false).gotA (pcOf tx d h)).got = r :: rs → d ≤ r.2 := by
  have c0 := ok.c0
  obtain ⟨p1, p2, p3⟩ := pcOf_end c0 h1 h2
  have el : (pcOf tx d h).l = 1 ↔ h = (tx.length : Int) := by
    show (if h = (tx.length : Int) then (1 : Int) else 0) = 1 ↔ _
    split
    · rename_i c
      exact ⟨fun _ => c, fun _ => rfl⟩
    · rename_i c
      exact ⟨fun z => by omega, fun z => absurd z c⟩
  have e2 : (if (pcOf tx d h).l = 1 then Str.ofString "got" else (stC tx d false).last) = if decide (h = (tx.length : Int)) then Str.ofString "got" else Str.ofString "lost" := by
    by_cases q : h = (tx.length : Int)
    · rw [if_pos (el.mpr q), if_pos (decide_eq_true q)]
    · rw [if_neg (fun z => q (el.mp z)), if_neg (fun z => q (of_decide_eq_true z))]
      rfl
  by_cases q : d < h
  · have e1 : (stC tx d false).gotA (pcOf tx d h) = ⟨d, tx.drop d.toNat, tx.length, tx.length, [(d, h - 1)], rg1 h tx.length, true, if decide (h = (tx.length : Int)) then Str.ofString "got" else Str.ofString "lost"⟩ := by
      unfold OS.gotA
      rw [e2, p3]
      have a1 : (if h - 1 ≥ (pcOf tx d h).low then dropR (stC tx d false).lost (pcOf tx d h).low (h - 1) else (stC tx d false).lost) = rg1 h tx.length := by
        exact (if_pos (show h - 1 ≥ d by omega)).trans (rg1_drop q h2)
      have a2 : (if h - 1 ≥ (pcOf tx d h).low ∧ h - 1 ≥ (stC tx d false).base then putR (stC tx d false).got (max (pcOf tx d h).low (stC tx d false).base) (h - 1) else (stC tx d false).got) = [(d, h - 1)] := by
        refine (if_pos ⟨show h - 1 ≥ d by omega, show h - 1 ≥ d by omega⟩).trans ?_
        show putR [] (max d d) (h - 1) = _
        rw [show max d d = d by omega]
        rfl
      rw [a1, a2]
      rfl
    rw [e1]
    constructor
    · unfold OS.gotB
      simp only
      rw [if_pos trivial]
      unfold stC oS
      rw [List.drop_drop, show d.toNat + (h - 1 + 1 - d).toNat = h.toNat by omega, show h - 1 + 1 = h by omega]
    · intro r rs e
      have e : [(d, h - 1)] = r :: rs := e
      rw [← (List.cons.inj e).1]
      show d ≤ h - 1
      omega
  · have hd : h = d := by omega
    have e1 : (stC tx d false).gotA (pcOf tx d h) = stC tx h (decide (h = tx.length)) := by
      unfold OS.gotA
      rw [e2, p3]
      have a1 : (if h - 1 ≥ (pcOf tx d h).low then dropR (stC tx d false).lost (pcOf tx d h).low (h - 1) else (stC tx d false).lost) = rg1 d tx.length := if_neg (show ¬ h - 1 ≥ d by omega)
      have a2 : (if h - 1 ≥ (pcOf tx d h).low ∧ h - 1 ≥ (stC tx d false).base then putR (stC tx d false).got (max (pcOf tx d h).low (stC tx d false).base) (h - 1) else (stC tx d false).got) = [] := if_neg (fun z => absurd z.1 (show ¬ h - 1 ≥ d by omega))
      rw [a1, a2, hd]
      rfl
    rw [e1]
    exact ⟨rfl, fun r rs e => by cases e⟩
/-! a row of pieces, each behind the other -/
inductive Cn (tx : List Int) : Int → Bool → List PC → Int → Bool → Prop
  | nil (c : Int) (e : Bool) : Cn tx c e [] c e
  | cons {c h d : Int} {ps : List PC} {f : Bool} : c ≤ h → h ≤ tx.length → (c < h ∨ tx.length = 0) → Cn tx h (decide (h = tx.length)) ps d f → Cn tx c false (pcOf tx c h :: ps) d f
theorem Cn.snoc {tx : List Int} {c d h : Int} {e : Bool} {ps : List PC} {f : Bool} (k : Cn tx c e ps d f) (hf : f = false) (h1 : d ≤ h) (h2 : h ≤ tx.length) (h3 : d < h ∨ tx.length = 0) : Cn tx c e (ps ++ [pcOf tx d h]) h (decide (h = tx.length)) := by
  induction k with
  | nil c e =>
    subst hf
    exact .cons h1 h2 h3 (.nil _ _)
  | cons a1 a2 a3 _ ih => exact .cons a1 a2 a3 (ih hf h1 h3)
theorem Cn.ok {tx : List Int} {c d : Int} {e : Bool} {ps : List PC} {f : Bool} (k : Cn tx c e ps d f) (o : OkA tx c e) : OkA tx d f := by
  induction k with
  | nil c e => exact o
  | cons a1 a2 a3 _ ih =>
    have := o.c0
    exact ih ⟨by omega, a2, fun z => of_decide_eq_true z, fun z => by have := of_decide_eq_false z; omega⟩
theorem Cn.split {tx : List Int} {p : PC} {post : List PC} {d : Int} {f : Bool} : ∀ {pre : List PC} {c : Int} {e : Bool}, Cn tx c e (pre ++ p :: post) d f → ∃ m h, Cn tx c e pre m false ∧ p = pcOf tx m h ∧ m ≤ h ∧ h ≤ tx.length ∧ (m < h ∨ tx.length = 0) ∧ Cn tx h (decide (h = tx.length)) post d f
  | [], c, e, k => by
    cases k with
    | cons a1 a2 a3 k => exact ⟨c, _, .nil _ _, rfl, a1, a2, a3, k⟩
  | x :: pre, c, e, k => by
    cases k with
    | cons a1 a2 a3 k =>
      obtain ⟨m, h, k1, k2⟩ := Cn.split (pre := pre) k
      exact ⟨m, h, .cons a1 a2 a3 k1, k2⟩
theorem Cn.inv {tx : List Int} {c d : Int} {e f : Bool} {p : PC} {ps : List PC} (k : Cn tx c e (p :: ps) d f) : ∃ h, e = false ∧ p = pcOf tx c h ∧ c ≤ h ∧ h ≤ tx.length ∧ (c < h ∨ tx.length = 0) ∧ Cn tx h (decide (h = tx.length)) ps d f := by
  cases k with
  | cons a1 a2 a3 k => exact ⟨_, rfl, rfl, a1, a2, a3, k⟩
theorem Cn.inv0 {tx : List Int} {c d : Int} {e f : Bool} (k : Cn tx c e [] d f) : c = d ∧ e = f := by
  cases k
  exact ⟨rfl, rfl⟩
theorem Cn.last {tx : List Int} {c d : Int} {e : Bool} {ps : List PC} {f : Bool} (k : Cn tx c e ps d f) (he : e = false) (hf : f = true) : ∃ p ∈ ps, p.l = 1 := by
  induction k with
  | nil c e => rw [he] at hf; cases hf
  | @cons c h d ps f a1 a2 a3 k ih =>
    by_cases q : h = (tx.length : Int)
    · exact ⟨_, List.mem_cons_self .., if_pos q⟩
    · obtain ⟨p, hp, e⟩ := ih (decide_eq_false q) hf
      exact ⟨p, List.mem_cons_of_mem _ hp, e⟩
theorem Cn.cover {tx : List Int} {c d : Int} {e : Bool} {ps : List PC} {f : Bool} (k : Cn tx c e ps d f) (c0 : 0 ≤ c) {i : Int} (h0 : c ≤ i) (h1 : i < d) : ∃ p ∈ ps, p.low ≤ i ∧ i < p.end := by
  induction k with
  | nil c e => omega
  | @cons c h d ps f a1 a2 a3 k ih =>
    by_cases q : i < h
    · exact ⟨pcOf tx c h, List.mem_cons_self .., h0, by rw [(pcOf_end c0 a1 a2).2.1]; exact q⟩
    · obtain ⟨p, hp, q1, q2⟩ := ih (by omega) (by omega) h1
      exact ⟨p, List.mem_cons_of_mem _ hp, q1, q2⟩
/-- a piece of the text -/
def IsP (tx : List Int) (p : PC) : Prop := ∃ c h, p = pcOf tx c h ∧ 0 ≤ c ∧ c ≤ h ∧ h ≤ tx.length
theorem Cn.isP {tx : List Int} {c d : Int} {e : Bool} {ps : List PC} {f : Bool} (k : Cn tx c e ps d f) (c0 : 0 ≤ c) : ∀ p ∈ ps, IsP tx p := by
  induction k with
  | nil c e => exact fun p hp => by cases hp
  | @cons c h d ps f a1 a2 a3 k ih =>
    intro p hp
    rcases List.mem_cons.mp hp with q | q
    · exact ⟨c, h, q, c0, a1, a2⟩
    · exact ih (by omega) p q
/-! what is read of pieces -/
structure Rd (tx : List Int) (s : IS) (ps : List PC) : Prop where
  r : RowsOk s.parts s.come
  v : ∀ k v, memO s.parts k v → 0 ≤ k ∧ tx[k.toNat]? = some v
  rd : s.read = 0
  up : s.upto = 5000
  rm : s.room = 5000
  gr : s.gr ≤ tx.length
  fin : s.fin = none ∨ s.fin = some (tx.length : Int)
  fl : ∀ p ∈ ps, p.l = 1 → s.fin = some (tx.length : Int)
  cv : ∀ p ∈ ps, ∀ k, p.low ≤ k → k < p.end → memR k s.come
theorem Rd.zero (tx : List Int) : Rd tx ⟨5000, 5000, 0, 0, none, [], []⟩ [] :=
  ⟨RowsOk.nil, fun k v h => (memO_nil h).elim, rfl, rfl, rfl, by show (0 : Int) ≤ tx.length; omega, .inl rfl, fun p hp => (by cases hp), fun p hp => (by cases hp)⟩
theorem Rd.wrong {tx : List Int} {s : IS} {ps : List PC} (h : Rd tx s ps) (hN : tx.length ≤ 90) {p : PC} (hp : IsP tx p) : s.wrong p = .non := by
  obtain ⟨c, g, e, c0, c1, c2⟩ := hp
  subst e
  obtain ⟨p1, p2, p3⟩ := pcOf_end c0 c1 c2
  have gr := h.gr
  unfold IS.wrong wrongI
  rw [p2, h.up, if_neg (by omega), if_neg, if_neg]
  · intro z
    rcases h.fin with f | f <;> rw [f] at z
    · cases z
    · have : g > (tx.length : Int) := of_decide_eq_true z
      omega
  · rintro ⟨z1, z2⟩
    have z1 : (if g = (tx.length : Int) then (1 : Int) else 0) = 1 := z1
    have gN : g = (tx.length : Int) := by
      apply Classical.byContradiction
      intro c
      rw [if_neg c] at z1
      cases z1
    rcases z2 with z2 | z2
    · omega
    · rcases h.fin with f | f <;> rw [f] at z2
      · cases z2
      · have : g ≠ (tx.length : Int) := of_decide_eq_true z2
        exact this gN
theorem Rd.take {tx : List Int} {s : IS} {ps : List PC} (h : Rd tx s ps) (hN : tx.length ≤ 90) {p : PC} (hp : IsP tx p) : Rd tx (s.take p) (ps ++ [p]) := by
  obtain ⟨c, g, e, c0, c1, c2⟩ := hp
  subst e
  obtain ⟨p1, p2, p3⟩ := pcOf_end c0 c1 c2
  have rd := h.rd
  have gr := h.gr
  obtain ⟨t1, t2⟩ := take_ok h.r (pcOf tx c g)
  have el : (pcOf tx c g).l = 1 ↔ g = (tx.length : Int) := by
    show (if g = (tx.length : Int) then (1 : Int) else 0) = 1 ↔ _
    split
    · rename_i c
      exact ⟨fun _ => c, fun _ => rfl⟩
    · rename_i c
      exact ⟨fun z => by omega, fun z => absurd z c⟩
  have ef : (s.take (pcOf tx c g)).fin = if (pcOf tx c g).l = 1 then some g else s.fin := by
    show (if (pcOf tx c g).l = 1 then some (pcOf tx c g).end else s.fin) = _
    rw [p2]
  have fin' : s.fin = some (tx.length : Int) → (s.take (pcOf tx c g)).fin = some (tx.length : Int) := fun f => by
    rw [ef]
    split
    · rename_i z
      rw [el.mp z]
    · exact f
  have keep : ∀ k, memR k s.come → memR k (s.take (pcOf tx c g)).come := fun k q => by
    obtain ⟨v, q⟩ := (h.r.cv k).mp q
    exact (t1.cv k).mpr ⟨v, (t2 k v).mpr (.inl q)⟩
  refine ⟨t1, fun k v q => ?_, rd, h.up, h.rm, ?_, ?_, fun p hp z => ?_, fun p hp k k0 k1 => ?_⟩
  · rcases (t2 k v).mp q with q | ⟨⟨q1, q2⟩, _⟩
    · exact h.v k v q
    · exact ⟨by omega, pcOf_at c0 q1.2 q2⟩
  · show max s.gr (pcOf tx c g).end ≤ _
    rw [p2]
    omega
  · rcases h.fin with f | f
    · rw [ef]
      split
      · rename_i z
        rw [el.mp z]
        exact .inr rfl
      · exact .inl f
    · exact .inr (fin' f)
  · rcases List.mem_append.mp hp with hp | hp
    · exact fin' (h.fl p hp z)
    · rw [List.mem_singleton.mp hp] at z
      rw [ef, if_pos z, el.mp z]
  · rcases List.mem_append.mp hp with hp | hp
    · exact keep k (h.cv p hp k k0 k1)
    · rw [List.mem_singleton.mp hp] at k0 k1
      by_cases m : memR k s.come
      · exact keep k m
      · have k0 : c ≤ k := k0
        rw [p2] at k1
        have hk : (k - c).toNat < (pcOf tx c g).os.length := by omega
        exact (t1.cv k).mpr ⟨_, (t2 k _).mpr (.inr ⟨⟨⟨by omega, k0⟩, List.getElem?_eq_getElem hk⟩, m⟩)⟩
theorem Rd.ok {tx : List Int} {s : IS} {ps : List PC} (h : Rd tx s ps) (hN : tx.length ≤ 90) : IOk s ∧ ∀ k, memR k s.come → 0 ≤ k ∧ k < tx.length := by
  have b : ∀ k, memR k s.come → 0 ≤ k ∧ k < tx.length := fun k q => by
    obtain ⟨v, q⟩ := (h.r.cv k).mp q
    obtain ⟨q1, q2⟩ := h.v k v q
    have := (List.getElem?_eq_some_iff.mp q2).1
    omega
  refine ⟨⟨h.r, fun k q => ?_, fun k q => ?_, ?_⟩, b⟩
  · rw [h.rd]
    exact (b k q).1
  · rw [h.up]
    have := b k q
    omega
  · rw [h.rd, h.up]
    omega
theorem Rd.all {tx : List Int} {s : IS} {ps : List PC} (h : Rd tx s ps) (hN : tx.length ≤ 90) (hc : ∀ k : Int, 0 ≤ k → k < tx.length → ∃ p ∈ ps, p.low ≤ k ∧ k < p.end) (hl : ∃ p ∈ ps, p.l = 1) : s.got 5000 = tx ∧ (s.readS 5000).over = true ∧ s.ready ≤ 90 := by
  obtain ⟨ok, b⟩ := h.ok hN
  obtain ⟨r1, r2, r3, r4⟩ := ok.rdy
  have rd := h.rd
  have er : s.ready = tx.length := by
    have h1 : s.ready ≤ tx.length := by
      apply Classical.byContradiction
      intro c
      have := b _ (r2 tx.length (by omega) (by omega))
      omega
    have h2 : ¬ s.ready < tx.length := fun c => by
      obtain ⟨p, hp, q1, q2⟩ := hc s.ready r1 c
      have := h.cv p hp _ q1 q2
      rw [show s.ready = s.read + s.ready by omega] at this
      exact r3 this
    omega
  obtain ⟨k1, k2, k3, k4, k5, k6⟩ := ok.readS (most := 5000) (by omega)
  have em : s.many 5000 = tx.length := by
    unfold IS.many
    omega
  rw [em] at k2
  refine ⟨?_, ?_, by omega⟩
  · refine List.ext_getElem? fun i => ?_
    by_cases c : i < tx.length
    · have hi : i < (s.got 5000).length := by omega
      have q := (h.v _ _ (k3 i _ (List.getElem?_eq_getElem hi))).2
      rw [show (s.read + (i : Int)).toNat = i by omega] at q
      rw [List.getElem?_eq_getElem hi, q]
    · rw [List.getElem?_eq_none (by omega), List.getElem?_eq_none (by omega)]
  · obtain ⟨p, hp, z⟩ := hl
    unfold IS.over
    show isFin s.fin (s.read + s.many 5000) = true
    rw [h.fl p hp z, em, rd]
    exact decide_eq_true (by omega)
theorem Rd.takeB {tx : List Int} {s : IS} {ps : List PC} (h : Rd tx s ps) (hN : tx.length ≤ 90) {p : PC} (hp : IsP tx p) : TakeB s p := by
  obtain ⟨ok, b⟩ := h.ok hN
  obtain ⟨c, g, e, c0, c1, c2⟩ := hp
  obtain ⟨p1, p2, p3⟩ := pcOf_end c0 c1 c2
  have rd := h.rd
  refine ⟨h.r, ok.lo, fun k q => by have := b k q; omega, ?_, by omega, by rw [e]; exact c0⟩
  rw [e, p2]
  omega
theorem Rd.lens {tx : List Int} {s : IS} {ps : List PC} (h : Rd tx s ps) (hN : tx.length ≤ 90) : s.come.length ≤ 90 ∧ s.parts.length ≤ 90 := by
  obtain ⟨ok, b⟩ := h.ok hN
  exact ⟨can_lenI (lo := 0) h.r.can fun k q => by have := b k q; omega, rowsOk_len (lo := 0) h.r fun k q => by have := b k q; omega⟩
theorem erase_mem {α : Type} : ∀ {ys : List α} {i : Nat} {p : α}, ys[i]? = some p → ∀ x, x ∈ ys ↔ x = p ∨ x ∈ ys.eraseIdx i
  | [], i, p, h, x => by cases h
  | y :: ys, 0, p, h, x => by
    have h : some y = some p := h
    rw [← Option.some.inj h]
    exact List.mem_cons
  | y :: ys, i + 1, p, h, x => by
    have ih := erase_mem (ys := ys) (i := i) h x
    rw [List.eraseIdx_cons_succ, List.mem_cons, List.mem_cons, ih]
    constructor
    · rintro (q | q | q)
      · exact .inr (.inl q)
      · exact .inl q
      · exact .inr (.inr q)
    · rintro (q | q | q)
      · exact .inr (.inl q)
      · exact .inl q
      · exact .inr (.inr q)
theorem IsP.len {tx : List Int} {p : PC} (h : IsP tx p) (hN : tx.length ≤ 90) : p.os.length ≤ 10000 := by
  obtain ⟨c, g, e, c0, c1, c2⟩ := h
  have := (pcOf_end c0 c1 c2).1
  rw [e]
  omega
theorem stC_done {tx : List Int} : ((stC tx tx.length true).fin && (decide ((stC tx tx.length true).last = "got") && decide ((stC tx tx.length true).base = (stC tx tx.length true).taken))) = true := by
  rw [decide_eq_true (show (stC tx tx.length true).last = "got" from rfl), decide_eq_true (show (stC tx tx.length true).base = (stC tx tx.length true).taken from rfl)]
  rfl
theorem stC_kept {tx : List Int} : (stC tx tx.length true).kept.length = 0 := by
  show (tx.drop ((tx.length : Int)).toNat).length = 0
  rw [List.length_drop, Int.toNat_natCast]
  omega

/-! the walks of turns -/
theorem atI_first {x : D} {ds : List D} : atI (x :: ds) 0 = some x := by
  unfold atI ixN
  simp
abbrev TurnsO (a : CA) (rows : List Rg) : SO := .ins a.cTurns [("rows", .lst (rows.map pD))]
def ordU (rows : List Rg) (u : Int) : List Int := (rows.filter fun r => decide (r.1 = u)).map (·.2)
def ordTo (rows : List Rg) : Nat → List Int
  | 0 => []
  | i + 1 => ordTo rows i ++ ordU rows (0 + (i : Int))
def orderR (rows : List Rg) : List Int := ordTo rows 4
theorem ordU_len (rows : List Rg) (u : Int) : (ordU rows u).length ≤ rows.length := by
  unfold ordU
  rw [List.length_map]
  exact List.length_filter_le _ _
theorem ordTo_len (rows : List Rg) : ∀ i, (ordTo rows i).length ≤ i * rows.length
  | 0 => by simp [ordTo]
  | i + 1 => by
    show (ordTo rows i ++ ordU rows (0 + (i : Int))).length ≤ _
    rw [List.length_append, Nat.succ_mul]
    have := ordTo_len rows i
    have := ordU_len rows (0 + (i : Int))
    omega
theorem ordTo_mem {rows : List Rg} {s : Int} : ∀ {i : Nat}, s ∈ ordTo rows i ↔ ∃ r ∈ rows, 0 ≤ r.1 ∧ r.1 < i ∧ r.2 = s
  | 0 => ⟨fun h => by simp [ordTo] at h, fun ⟨r, _, h0, h1, _⟩ => by omega⟩
  | i + 1 => by
    show s ∈ ordTo rows i ++ ordU rows (0 + (i : Int)) ↔ _
    rw [List.mem_append, ordTo_mem]
    unfold ordU
    rw [List.mem_map]
    constructor
    · rintro (⟨r, hr, h0, h1, h2⟩ | ⟨r, hr, h2⟩)
      · exact ⟨r, hr, h0, by omega, h2⟩
      · obtain ⟨hr, h3⟩ := List.mem_filter.mp hr
        have h3 := of_decide_eq_true h3
        exact ⟨r, hr, by omega, by omega, h2⟩
    · rintro ⟨r, hr, h0, h1, h2⟩
      by_cases c : r.1 < i
      · exact .inl ⟨r, hr, h0, c, h2⟩
      · exact .inr ⟨r, List.mem_filter.mpr ⟨hr, decide_eq_true (by omega)⟩, h2⟩
section
variable {a : CA} {S : Store} {Q : D → Store → Prop} {n : Nat} {rows : List Rg} {s u : Int}
theorem w_isnum_int {i lo hi : Int} (h : Q (.bl (decide (lo ≤ i) && decide (i ≤ hi))) S) : WE (fn_is_number a [.int i, .int lo, .int hi] S) Q := by
  refine w_fn ?_
  unfold ev_is_number
  walk_at "go"
  refine w_dec (fun c => ?_) (fun c => ?_)
  · walk_at "go"
    rw [decide_eq_true c, Bool.true_and] at h
    exact h
  · rw [decide_eq_false c, Bool.false_and] at h
    exact h
theorem w_isnum_non {lo hi : Int} (h : Q (.bl false) S) : WE (fn_is_number a [.non, .int lo, .int hi] S) Q := by
  refine w_fn ?_
  unfold ev_is_number
  walk_at "go"
  exact h
theorem w_isnum_bl {b : Bool} {lo hi : Int} (h : Q (.bl false) S) : WE (fn_is_number a [.bl b, .int lo, .int hi] S) Q := by
  refine w_fn ?_
  unfold ev_is_number
  walk_at "go"
  exact h
theorem w_order (hS : S[n]? = some (TurnsO a rows)) (hl : rows.length ≤ 10000) (h : Q (.lst ((orderR rows).map D.int)) S) : WE (fn_Turns_order a [.ref n] S) Q := by
  refine w_fn ?_
  unfold ev_Turns_order
  walk_at "go"
  refine ex_r1 (by omega) (by omega) ?_
  refine w_rng (fun i σ S' => ∃ o2 o3, σ = [some (.ref n), some (.lst ((ordTo rows i).map D.int)), o2, o3] ∧ S' = S) ⟨_, _, rfl, rfl⟩ (fun j σ S' hj ⟨o2, o3, e1, e2⟩ => ?_) fun σ S' ⟨o2, o3, e1, e2⟩ => ?_
  · subst e1; subst e2
    have tl := ordTo_len rows j
    have ul := ordU_len rows (0 + (j : Int))
    have j4 : j ≤ 3 := by
      have : j < (3 + 1 : Int).toNat := hj
      omega
    have tl2 : j * rows.length ≤ 3 * 10000 := Nat.mul_le_mul j4 hl
    walk_at "go"
    refine w_compF pD (fun r => decide (r.1 = 0 + (j : Int))) (fun r => .int r.2) rows [] (sz _ (by rw [List.length_nil]; omega)) (fun x hx => ?_) ?_
    · refine ⟨_, rfl, ?_, fun _ => ?_⟩
      · walk_at "go"
        refine w_ix rfl (y := .int x.1) rfl ?_
        walk_at "go"
        exact ⟨rfl, rfl⟩
      · walk_at "go"
        refine w_ix rfl (y := .int x.2) rfl ?_
        exact ⟨rfl, rfl⟩
    walk_at "go"
    rw [List.nil_append]
    have e3 : (rows.filter fun r => decide (r.1 = 0 + (j : Int))).map (fun r => D.int r.2) = (ordU rows (0 + (j : Int))).map D.int := by
      unfold ordU
      rw [List.map_map]
      rfl
    rw [e3]
    with_reducible refine w_cat (sz _ (by rw [List.length_map, List.length_map]; omega)) ?_
    walk_at "go"
    rw [← List.map_append]
    exact ⟨_, _, rfl, rfl⟩
  · subst e1; subst e2
    walk_at "go"
    exact h
def hdD (xs : List Int) : D := match xs with
  | [] => .non
  | x :: _ => .int x
theorem w_first {ready : List Int} (hS : S[n]? = some (TurnsO a rows)) (hl : rows.length ≤ 10000) (h : Q (hdD ((orderR rows).filter fun s => decide (s ∈ ready))) S) : WE (fn_Turns_first a [.ref n, .lst (ready.map D.int)] S) Q := by
  refine w_fn ?_
  unfold ev_Turns_first
  walk_at "go"
  refine ⟨_, _, rfl, hS, rfl, ?_⟩
  walk_at "go"
  refine ⟨rfl, ?_⟩
  refine w_order hS hl ?_
  walk_at "go"
  have ol := ordTo_len rows 4
  refine w_compF D.int (fun s => decide (s ∈ ready)) D.int (orderR rows) [] (sz _ (by rw [List.length_nil]; show 0 + (ordTo rows 4).length ≤ _; omega)) (fun x hx => ?_) ?_
  · refine ⟨_, rfl, ?_, fun _ => ?_⟩
    · walk_at "go"
      refine w_inI0 ready rfl ?_
      walk_at "go"
      exact ⟨rfl, rfl⟩
    · walk_at "go"
      exact ⟨rfl, rfl⟩
  walk_at "go"
  rw [List.nil_append]
  refine w_len rfl ?_
  rw [List.length_map]
  walk_at "go"
  cases e : (orderR rows).filter fun s => decide (s ∈ ready) with
  | nil =>
    refine w_dec (fun c => absurd c (by simp)) (fun _ => ?_)
    walk_at "go"
    rw [e] at h
    exact h
  | cons x xs =>
    refine w_dec (fun _ => ?_) (fun c => absurd c (by simp))
    walk_at "go"
    (with_reducible refine w_ix (ds := (x :: xs).map D.int) (y := .int x) ?_ ?_ ?_)
    · exact rfl
    · exact atI_first
    rw [e] at h
    exact h
/-- the row of a stream is told to be there -/
def has10 (rows : List Rg) (s : Int) : Bool := decide (s ∈ orderR rows)
theorem w_tAdd (hS : S[n]? = some (TurnsO a rows)) (hl : rows.length ≤ 10000) (hu : 0 ≤ u ∧ u ≤ 3) (hs : has10 rows s = false) (h : Q .non (S.set n (TurnsO a (rows ++ [(u, s)])))) : WE (fn_Turns_add a [.ref n, .int s, .int u] S) Q := by
  refine w_fn ?_
  unfold ev_Turns_add
  walk_at "go"
  refine w_isnum_int ?_
  rw [decide_eq_true hu.1, decide_eq_true hu.2, Bool.true_and]
  walk_at "go"
  refine ⟨_, _, rfl, hS, rfl, ?_⟩
  walk_at "go"
  refine ⟨rfl, ?_⟩
  refine w_order hS hl ?_
  refine w_inI0 (orderR rows) rfl ?_
  rw [show decide (s ∈ orderR rows) = false from hs]
  walk_at "go"
  with_reducible refine w_cat (sz _ (by rw [List.length_map]; simp; omega)) ?_
  walk_at "go"
  rw [show rows.map pD ++ [D.tup [.int u, .int s]] = (rows ++ [(u, s)]).map pD by rw [List.map_append]; rfl]
  exact h
def dropT (rows : List Rg) (s : Int) : List Rg := rows.filter fun r => !decide (r.2 = s)
def mineT (rows : List Rg) (s : Int) : List Rg := rows.filter fun r => decide (r.2 = s)
theorem w_served (hS : S[n]? = some (TurnsO a rows)) (hl : rows.length ≤ 10000) (hs : has10 rows s = true) (h : Q .non (S.set n (TurnsO a (dropT rows s ++ mineT rows s)))) : WE (fn_Turns_served a [.ref n, .int s] S) Q := by
  refine w_fn ?_
  unfold ev_Turns_served
  walk_at "go"
  refine ⟨_, _, rfl, hS, rfl, ?_⟩
  walk_at "go"
  refine ⟨rfl, ?_⟩
  refine w_order hS hl ?_
  refine w_inI1 (orderR rows) rfl ?_
  rw [show decide (s ∈ orderR rows) = true from hs]
  walk_at "go"
  refine w_compF pD (fun r => decide (r.2 = s)) pD rows [] (sz _ (by rw [List.length_nil]; omega)) (fun x hx => ?_) ?_
  · refine ⟨_, rfl, ?_, fun _ => ?_⟩
    · walk_at "go"
      refine w_ix rfl (y := .int x.2) rfl ?_
      walk_at "go"
      exact ⟨rfl, rfl⟩
    · walk_at "go"
      exact ⟨rfl, rfl⟩
  walk_at "go"
  rw [List.nil_append]
  refine w_compF pD (fun r => !decide (r.2 = s)) pD rows [] (sz _ (by rw [List.length_nil]; omega)) (fun x hx => ?_) ?_
  · refine ⟨_, rfl, ?_, fun _ => ?_⟩
    · walk_at "go"
      refine w_ix rfl (y := .int x.2) rfl ?_
      walk_at "go"
      exact ⟨rfl, rfl⟩
    · walk_at "go"
      exact ⟨rfl, rfl⟩
  walk_at "go"
  rw [List.nil_append]
  have l1 : (rows.filter fun r => decide (r.2 = s)).length ≤ rows.length := List.length_filter_le _ _
  have l2 : (rows.filter fun r => !decide (r.2 = s)).length ≤ rows.length := List.length_filter_le _ _
  with_reducible refine w_cat (sz _ (by rw [List.length_map, List.length_map]; exact Nat.le_trans (Nat.add_le_add (List.length_filter_le _ _) (List.length_filter_le _ _)) (by omega))) ?_
  walk_at "go"
  rw [← List.map_append]
  exact h
end

/-! one stream, nothing of which flies -/
def s00 : IS := ⟨5000, 5000, 0, 0, none, [], []⟩
def gotP (ps : List PC) (k : Int) : Bool := ps.any fun p => decide (p.low ≤ k ∧ k ≤ p.high)
def lastP (ps : List PC) : Bool := ps.any fun p => decide (p.l = 1)
def GP (ps : List PC) (k : Int) : Prop := gotP ps k = true
def ms (tx : List Int) (ps : List PC) : Nat := ((rgI 0 tx.length).filter fun k => !gotP ps k).length + (if lastP ps then 0 else 1)
theorem gotP_iff {ps : List PC} {k : Int} : GP ps k ↔ ∃ p ∈ ps, p.low ≤ k ∧ k ≤ p.high := by
  unfold GP gotP
  rw [List.any_eq_true]
  constructor
  · rintro ⟨p, hp, q⟩
    exact ⟨p, hp, of_decide_eq_true q⟩
  · rintro ⟨p, hp, q⟩
    exact ⟨p, hp, decide_eq_true q⟩
theorem lastP_iff {ps : List PC} : lastP ps = true ↔ ∃ p ∈ ps, p.l = 1 := by
  unfold lastP
  rw [List.any_eq_true]
  constructor
  · rintro ⟨p, hp, q⟩
    exact ⟨p, hp, of_decide_eq_true q⟩
  · rintro ⟨p, hp, q⟩
    exact ⟨p, hp, decide_eq_true q⟩
theorem GP_snoc {ps : List PC} {p : PC} {k : Int} : GP (ps ++ [p]) k ↔ Gp (GP ps) p k := by
  unfold Gp
  rw [gotP_iff, gotP_iff]
  constructor
  · rintro ⟨x, hx, q⟩
    rcases List.mem_append.mp hx with hx | hx
    · exact .inl ⟨x, hx, q⟩
    · rw [List.mem_singleton.mp hx] at q
      exact .inr q
  · rintro (⟨x, hx, q⟩ | q)
    · exact ⟨x, List.mem_append.mpr (.inl hx), q⟩
    · exact ⟨p, List.mem_append.mpr (.inr (List.mem_singleton.mpr rfl)), q⟩
structure Sx (tx : List Int) (o : OS) (i : IS) (ps : List PC) : Prop where
  iv : Iv tx.length (GP ps) o
  kept : o.kept = tx.drop o.base.toNat
  fly : ∀ k, 0 ≤ k → k < o.sent → ¬ GP ps k → memR k o.lost
  last : o.last = Str.ofString "unsent" ∨ o.last = Str.ofString "lost" ∨ o.last = Str.ofString "got"
  lg : o.last = Str.ofString "got" ↔ lastP ps = true
  rd : Rd tx i ps
  isp : ∀ p ∈ ps, IsP tx p
theorem Sx.init (tx : List Int) : Sx tx (stA tx true 0 false) s00 [] := by
  have hn : ∀ k, ¬ GP [] k := fun k h => by cases h
  refine ⟨⟨Int.le_refl _, Int.le_refl _, ?_, rfl, ?_, rfl, can_nil, fun k => ⟨fun q => (memR_nil q).elim, fun q => (hn k q.2).elim⟩, fun k q => (hn k q).elim, fun k q q2 => ?_, hn _, can_nil, fun k q => (memR_nil q).elim⟩, rfl, fun k q q2 => ?_, .inl rfl, ⟨fun z => absurd z ne_ug, fun z => by cases z⟩, Rd.zero tx, fun p hp => by cases hp⟩
  · show (0 : Int) ≤ tx.length
    omega
  · show ((tx.drop 0).length : Int) = tx.length - 0
    rw [List.drop_zero]
    omega
  · have q2 : k < 0 := q2
    omega
  · have q2 : k < 0 := q2
    omega
theorem filt_lt {p q : Int → Bool} : ∀ {xs : List Int}, (∀ x ∈ xs, q x = true → p x = true) → (∃ x ∈ xs, p x = true ∧ q x = false) → (xs.filter q).length < (xs.filter p).length
  | [], _, ⟨_, h, _⟩ => by cases h
  | x :: xs, h1, ⟨y, hy, h2, h3⟩ => by
    have le : ∀ {ys : List Int}, (∀ x ∈ ys, q x = true → p x = true) → (ys.filter q).length ≤ (ys.filter p).length := by
      intro ys
      induction ys with
      | nil => exact fun _ => Nat.le_refl _
      | cons y ys ih =>
        intro h
        have i := ih fun x hx => h x (List.mem_cons_of_mem _ hx)
        have hy := h y (List.mem_cons_self ..)
        rw [List.filter_cons, List.filter_cons]
        cases e : q y with
        | true =>
          rw [hy e]
          simp only [if_true, List.length_cons]
          omega
        | false =>
          cases p y <;> simp only [Bool.false_eq_true, if_false, if_true, List.length_cons] <;> omega
    have h1' : ∀ x ∈ xs, q x = true → p x = true := fun x hx => h1 x (List.mem_cons_of_mem _ hx)
    rw [List.filter_cons, List.filter_cons]
    rcases List.mem_cons.mp hy with e | hy
    · subst e
      rw [h2, h3]
      have := le h1'
      simp only [Bool.false_eq_true, if_false, if_true, List.length_cons]
      omega
    · have ih := filt_lt h1' ⟨y, hy, h2, h3⟩
      have hx := h1 x (List.mem_cons_self ..)
      cases e : q x with
      | true =>
        rw [hx e]
        simp only [if_true, List.length_cons]
        omega
      | false =>
        cases p x <;> simp only [Bool.false_eq_true, if_false, if_true, List.length_cons] <;> omega
theorem ms_got {tx : List Int} {ps : List PC} {lo hi : Int} (h0 : 0 ≤ lo) (h1 : lo ≤ hi) (h2 : hi ≤ tx.length) (hg : ∀ k, lo ≤ k → k < hi → ¬ GP ps k) (hp : lo < hi ∨ (hi = tx.length ∧ lastP ps = false)) : ms tx (ps ++ [pcOf tx lo hi]) < ms tx ps := by
  obtain ⟨_, _, p3⟩ := pcOf_end h0 h1 h2
  have sub : ∀ x, (!gotP (ps ++ [pcOf tx lo hi]) x) = true → (!gotP ps x) = true := fun x h => by
    cases e : gotP ps x with
    | false => rfl
    | true =>
      have : GP (ps ++ [pcOf tx lo hi]) x := GP_snoc.mpr (.inl e)
      rw [show gotP (ps ++ [pcOf tx lo hi]) x = true from this] at h
      cases h
  have le : ((rgI 0 tx.length).filter fun k => !gotP (ps ++ [pcOf tx lo hi]) k).length ≤ ((rgI 0 tx.length).filter fun k => !gotP ps k).length := by
    refine List.Sublist.length_le ?_
    have : ((rgI 0 tx.length).filter fun k => !gotP (ps ++ [pcOf tx lo hi]) k) = ((rgI 0 tx.length).filter fun k => !gotP ps k).filter fun k => !gotP (ps ++ [pcOf tx lo hi]) k := by
      rw [List.filter_filter]
      refine List.filter_congr fun x _ => ?_
      cases e : (!gotP (ps ++ [pcOf tx lo hi]) x) with
      | true => rw [sub x e]; rfl
      | false => rfl
    rw [this]
    exact List.filter_sublist
  have la : lastP ps = true → lastP (ps ++ [pcOf tx lo hi]) = true := fun z => by
    obtain ⟨p, hp, e⟩ := lastP_iff.mp z
    exact lastP_iff.mpr ⟨p, List.mem_append.mpr (.inl hp), e⟩
  have lb : (if lastP (ps ++ [pcOf tx lo hi]) then (0 : Nat) else 1) ≤ if lastP ps then 0 else 1 := by
    cases e : lastP ps with
    | true => rw [la e]; exact Nat.le_refl _
    | false => split <;> simp
  unfold ms
  rcases hp with hp | ⟨hp1, hp2⟩
  · have lt := filt_lt (p := fun k => !gotP ps k) (q := fun k => !gotP (ps ++ [pcOf tx lo hi]) k) (xs := rgI 0 tx.length) (fun x _ h => sub x h) ⟨lo, rgI_mem.mpr (by omega), by
      have := hg lo (Int.le_refl _) hp
      unfold GP at this
      simpa using this, by
      have : GP (ps ++ [pcOf tx lo hi]) lo := GP_snoc.mpr (.inr ⟨Int.le_refl _, by rw [p3]; omega⟩)
      rw [show gotP (ps ++ [pcOf tx lo hi]) lo = true from this]
      rfl⟩
    omega
  · have e : lastP (ps ++ [pcOf tx lo hi]) = true := lastP_iff.mpr ⟨_, List.mem_append.mpr (.inr (List.mem_singleton.mpr rfl)), if_pos hp1⟩
    rw [e, hp2]
    simp only [Bool.false_eq_true, if_false, if_true]
    omega
theorem piece_is {tx : List Int} {o : OS} (kept : o.kept = tx.drop o.base.toNat) (b0 : 0 ≤ o.base) (fin : o.fin = true) (tk : o.taken = tx.length) {lo hi : Int} (h0 : o.base ≤ lo) (h1 : lo ≤ hi) : o.pieceOf lo hi = pcOf tx lo hi := by
  unfold OS.pieceOf pcOf OS.cut OS.lastOf
  rw [kept, fin, tk, List.drop_drop, show o.base.toNat + (lo - o.base).toNat = lo.toNat by omega, show (hi - o.base).toNat - (lo - o.base).toNat = hi.toNat - lo.toNat by omega, Bool.true_and]
  congr 1
  by_cases d : hi = (tx.length : Int)
  · rw [if_pos (decide_eq_true d), if_pos d]
  · rw [if_neg (fun z => d (of_decide_eq_true z)), if_neg d]
section
variable {tx : List Int} {o : OS} {i : IS} {ps : List PC}
theorem Sx.pos (h : Sx tx o i ps) (hN : tx.length ≤ 90) : o.due 1000000 = true ↔ 0 < ms tx ps := by
  have iv := h.iv
  have st := iv.st
  have tk := iv.tk
  have b0 := iv.b0
  have bs := iv.bs
  have in0 : ∀ k, 0 ≤ k → k < (tx.length : Int) → ¬ GP ps k → 0 < ms tx ps := fun k k0 k1 kg => by
    have : k ∈ (rgI 0 tx.length).filter fun k => !gotP ps k := List.mem_filter.mpr ⟨rgI_mem.mpr (by omega), by unfold GP at kg; simpa using kg⟩
    have := List.length_pos_of_mem this
    unfold ms
    omega
  have la0 : lastP ps = false → 0 < ms tx ps := fun z => by
    unfold ms
    rw [z]
    simp only [Bool.false_eq_true, if_false]
    omega
  unfold OS.due
  rw [iv.fin, Bool.true_and, Bool.or_eq_true, Bool.or_eq_true, Bool.and_eq_true, decide_eq_true_iff, decide_eq_true_iff, decide_eq_true_iff, decide_eq_true_iff]
  constructor
  · rintro ((q | q) | ⟨q1, q2⟩)
    · obtain ⟨k, q⟩ := (can_ne iv.lc).mp q
      have := iv.lm k q
      exact in0 k this.1 (by omega) this.2.2
    · exact in0 o.sent (by omega) (by omega) fun z => by have := iv.gs _ z; omega
    · refine la0 ?_
      rw [← Bool.not_eq_true]
      intro z
      rw [h.lg.mpr z] at q1
      exact nin_g q1
  · intro q
    by_cases c1 : o.lost = []
    · by_cases c2 : min o.taken 1000000 > o.sent
      · exact .inl (.inr c2)
      · have es : o.sent = o.taken := by omega
        refine .inr ⟨?_, es⟩
        rcases h.last with e | e | e
        · rw [e]
          exact in_u
        · rw [e]
          exact in_l
        · exfalso
          have la := h.lg.mp e
          unfold ms at q
          rw [la] at q
          simp only [if_true, Nat.add_zero] at q
          obtain ⟨k, hk⟩ := List.exists_mem_of_length_pos q
          obtain ⟨k1, k2⟩ := List.mem_filter.mp hk
          have k1 := rgI_mem.mp k1
          have := h.fly k k1.1 (by omega) (by unfold GP; simpa using k2)
          rw [c1] at this
          exact memR_nil this
    · exact .inl (.inl c1)
theorem Sx.next (h : Sx tx o i ps) (hN : tx.length ≤ 90) (hd : o.due 1000000 = true) {size : Int} (hs : 1 ≤ size) :
    ∃ lo hi, pickO o size 1000000 = some (lo, hi) ∧ o.base ≤ lo ∧ lo ≤ hi ∧ hi ≤ tx.length ∧ lo ≤ o.sent ∧ hi - lo ≤ size ∧ (∀ k, lo ≤ k → k < hi → ¬ GP ps k) ∧ (lo < hi ∨ (hi = tx.length ∧ lastP ps = false)) := by
  have iv := h.iv
  have st := iv.st
  have tk := iv.tk
  have b0 := iv.b0
  have bs := iv.bs
  unfold pickO
  rw [if_neg (by omega)]
  cases el : o.lost with
  | cons r rs =>
    rw [pickB_cons el, if_pos (by omega)]
    have lc := iv.lc
    have lm := iv.lm
    rw [el] at lc lm
    have rl := lc.le r (List.mem_cons_self ..)
    have m1 := lm r.1 (memR_cons.mpr (.inl ⟨Int.le_refl _, rl⟩))
    have m2 := lm r.2 (memR_cons.mpr (.inl ⟨rl, Int.le_refl _⟩))
    refine ⟨_, _, rfl, ?_, by omega, by omega, by omega, by omega, fun k k0 k1 => (lm k (memR_cons.mpr (.inl (by omega)))).2.2, .inl (by omega)⟩
    apply Classical.byContradiction
    intro z
    exact m1.2.2 (iv.gb r.1 m1.1 (by omega))
  | nil =>
    rw [pickB_nil el]
    unfold pickM
    by_cases c : min (min o.taken 1000000) (o.sent + size) > o.sent
    · rw [if_pos c]
      exact ⟨_, _, rfl, by omega, by omega, by omega, by omega, by omega, fun k k0 k1 z => by have := iv.gs k z; omega, .inl (by omega)⟩
    · have es : o.sent = o.taken := by omega
      have hl : o.last ∈ [Str.ofString "unsent", Str.ofString "lost"] := by
        unfold OS.due at hd
        rw [iv.fin, Bool.true_and, Bool.or_eq_true, Bool.or_eq_true, Bool.and_eq_true, decide_eq_true_iff, decide_eq_true_iff, decide_eq_true_iff, decide_eq_true_iff] at hd
        rcases hd with (q | q) | ⟨q, _⟩
        · exact absurd el q
        · omega
        · exact q
      rw [if_neg c, if_pos ⟨iv.fin, hl, es⟩]
      refine ⟨_, _, rfl, by omega, Int.le_refl _, by omega, by omega, by omega, fun k k0 k1 => by omega, .inr ⟨tk, ?_⟩⟩
      rw [← Bool.not_eq_true]
      intro z
      rw [h.lg.mpr z] at hl
      exact nin_g hl
theorem last_piece (h : Sx tx o i ps) {lo hi : Int} : (o.piece lo hi).last = if hi = tx.length ∧ o.last ≠ Str.ofString "got" then Str.ofString "flying" else o.last := by
  show (if o.lastOf hi = true ∧ o.last ≠ Str.ofString "got" then Str.ofString "flying" else o.last) = _
  unfold OS.lastOf
  rw [h.iv.fin, h.iv.tk, Bool.true_and]
  by_cases c : hi = (tx.length : Int) ∧ o.last ≠ Str.ofString "got"
  · rw [if_pos ⟨decide_eq_true c.1, c.2⟩, if_pos c]
  · rw [if_neg (fun z => c ⟨of_decide_eq_true z.1, z.2⟩), if_neg c]
theorem lost_piece (h : Sx tx o i ps) {lo hi k : Int} : memR k (o.piece lo hi).lost ↔ memR k o.lost ∧ ¬ (lo ≤ k ∧ k < hi) := by
  show memR k (if hi > lo then dropR o.lost lo (hi - 1) else o.lost) ↔ _
  by_cases c : hi > lo
  · rw [if_pos c, (drop_can h.iv.lc (by omega)).2 k]
    exact ⟨fun q => ⟨q.1, by have := q.2; omega⟩, fun q => ⟨q.1, by have := q.2; omega⟩⟩
  · rw [if_neg c]
    exact ⟨fun q => ⟨q, by omega⟩, fun q => q.1⟩
theorem Sx.lostS (h : Sx tx o i ps) {lo hi : Int} (h0 : o.base ≤ lo) (h1 : lo ≤ hi) (h2 : hi ≤ tx.length) (h3 : lo ≤ o.sent) : Sx tx ((o.piece lo hi).lostOf (pcOf tx lo hi)) i ps := by
  have iv := h.iv
  have b0 := iv.b0
  have tk := iv.tk
  obtain ⟨q1, q2, _, _, _⟩ := iv_piece iv h0 h1 (by omega)
  rw [piece_is h.kept b0 iv.fin tk h0 h1] at q2
  obtain ⟨l1, l2, l3⟩ := iv_lost q1 q2
  obtain ⟨d1, d2⟩ := due_is q1 q2
  obtain ⟨_, _, p3⟩ := pcOf_end (tx := tx) (c := lo) (h := hi) (by omega) h1 h2
  have el : (pcOf tx lo hi).l = 1 ↔ hi = (tx.length : Int) := by
    show (if hi = (tx.length : Int) then (1 : Int) else 0) = 1 ↔ _
    split
    · rename_i c
      exact ⟨fun _ => c, fun _ => rfl⟩
    · rename_i c
      exact ⟨fun z => by omega, fun z => absurd z c⟩
  have elast : ((o.piece lo hi).lostOf (pcOf tx lo hi)).last = if hi = tx.length ∧ o.last ≠ Str.ofString "got" then Str.ofString "lost" else o.last := by
    show (if (pcOf tx lo hi).l = 1 ∧ (o.piece lo hi).last = Str.ofString "flying" then Str.ofString "lost" else (o.piece lo hi).last) = _
    rw [last_piece h]
    by_cases c : hi = tx.length ∧ o.last ≠ Str.ofString "got"
    · rw [if_pos c, if_pos c, if_pos ⟨el.mpr c.1, rfl⟩]
    · rw [if_neg c, if_neg c]
      rw [if_neg]
      rintro ⟨_, z⟩
      rcases h.last with e | e | e <;> rw [e] at z <;> exact absurd z (by decide +kernel)
  refine ⟨l1, h.kept, fun k k0 k1 kg => ?_, ?_, ?_, h.rd, h.isp⟩
  · have k1 : k < max o.sent hi := k1
    rw [l2, d2, lost_piece h, p3]
    by_cases c : lo ≤ k ∧ k < hi
    · exact .inr ⟨by show lo ≤ k ∧ k ≤ hi - 1; omega, kg⟩
    · exact .inl ⟨h.fly k k0 (by omega) kg, c⟩
  · rw [elast]
    split
    · exact .inr (.inl rfl)
    · exact h.last
  · rw [elast, ← h.lg]
    split
    · rename_i c
      exact ⟨fun z => absurd z ne_lgS, fun z => absurd z c.2⟩
    · exact Iff.rfl
theorem Sx.gotS (h : Sx tx o i ps) (hN : tx.length ≤ 90) {lo hi : Int} (h0 : o.base ≤ lo) (h1 : lo ≤ hi) (h2 : hi ≤ tx.length) (h3 : lo ≤ o.sent) :
    Sx tx ((o.piece lo hi).gotA (pcOf tx lo hi)).gotB (i.take (pcOf tx lo hi)) (ps ++ [pcOf tx lo hi]) ∧ ∀ r rs, ((o.piece lo hi).gotA (pcOf tx lo hi)).got = r :: rs → o.base ≤ r.2 := by
  have iv := h.iv
  have b0 := iv.b0
  have tk := iv.tk
  obtain ⟨q1, q2, _, _, _⟩ := iv_piece iv h0 h1 (by omega)
  rw [piece_is h.kept b0 iv.fin tk h0 h1] at q2
  obtain ⟨g1, g2, g3, g4⟩ := iv_got q1 q2
  have hb := got_hb q1 q2
  obtain ⟨_, _, p3⟩ := pcOf_end (tx := tx) (c := lo) (h := hi) (by omega) h1 h2
  have el : (pcOf tx lo hi).l = 1 ↔ hi = (tx.length : Int) := by
    show (if hi = (tx.length : Int) then (1 : Int) else 0) = 1 ↔ _
    split
    · rename_i c
      exact ⟨fun _ => c, fun _ => rfl⟩
    · rename_i c
      exact ⟨fun z => by omega, fun z => absurd z c⟩
  have isp : IsP tx (pcOf tx lo hi) := ⟨lo, hi, rfl, by omega, h1, h2⟩
  have g3 : ((o.piece lo hi).gotA (pcOf tx lo hi)).gotB.last = if (pcOf tx lo hi).l = 1 then Str.ofString "got" else (o.piece lo hi).last := g3
  have elast : ((o.piece lo hi).gotA (pcOf tx lo hi)).gotB.last = if hi = tx.length then Str.ofString "got" else o.last := by
    rw [g3, last_piece h]
    by_cases c : hi = (tx.length : Int)
    · rw [if_pos (el.mpr c), if_pos c]
    · rw [if_neg (fun z => c (el.mp z)), if_neg c, if_neg fun z => c z.1]
  refine ⟨⟨g1.congr fun k => GP_snoc.symm, gotB_kept h.kept b0 hb, fun k k0 k1 kg => ?_, ?_, ?_, h.rd.take hN isp, fun p hp => (List.mem_append.mp hp).elim (h.isp p) fun hp => by rw [List.mem_singleton.mp hp]; exact isp⟩, hb⟩
  · rw [g2] at k1
    have k1 : k < max o.sent hi := k1
    have kg : ¬ Gp (GP ps) (pcOf tx lo hi) k := fun z => kg (GP_snoc.mpr z)
    have kn : ¬ (lo ≤ k ∧ k ≤ hi - 1) := fun z => kg (.inr ⟨z.1, by rw [p3]; exact z.2⟩)
    rw [gotB_lost]
    have : memR k (o.piece lo hi).lost := (lost_piece h).mpr ⟨h.fly k k0 (by omega) fun z => kg (.inl z), by omega⟩
    show memR k (if (pcOf tx lo hi).high ≥ (pcOf tx lo hi).low then dropR (o.piece lo hi).lost (pcOf tx lo hi).low (pcOf tx lo hi).high else (o.piece lo hi).lost)
    rw [p3]
    by_cases c : hi - 1 ≥ lo
    · exact (if_pos c) ▸ ((drop_can q1.lc (show lo ≤ hi - 1 by omega)).2 k).mpr ⟨this, kn⟩
    · exact (if_neg c) ▸ this
  · rw [elast]
    split
    · exact .inr (.inr rfl)
    · exact h.last
  · rw [elast, lastP_iff]
    by_cases c : hi = (tx.length : Int)
    · rw [if_pos c]
      exact ⟨fun _ => ⟨_, List.mem_append.mpr (.inr (List.mem_singleton.mpr rfl)), el.mpr c⟩, fun _ => rfl⟩
    · rw [if_neg c, h.lg, lastP_iff]
      constructor
      · rintro ⟨p, hp, e⟩
        exact ⟨p, List.mem_append.mpr (.inl hp), e⟩
      · rintro ⟨p, hp, e⟩
        rcases List.mem_append.mp hp with hp | hp
        · exact ⟨p, hp, e⟩
        · rw [List.mem_singleton.mp hp] at e
          exact absurd (el.mp e) c
theorem Sx.fin (h : Sx tx o i ps) (hN : tx.length ≤ 90) (hz : ms tx ps = 0) : (o.fin && (decide (o.last = "got") && decide (o.base = o.taken))) = true ∧ i.got 5000 = tx ∧ (i.readS 5000).over = true ∧ i.ready ≤ 90 := by
  have iv := h.iv
  have st := iv.st
  have tk := iv.tk
  have b0 := iv.b0
  have bs := iv.bs
  have la : lastP ps = true := by
    cases e : lastP ps with
    | true => rfl
    | false =>
      unfold ms at hz
      rw [e] at hz
      simp at hz
  have all : ∀ k, 0 ≤ k → k < (tx.length : Int) → GP ps k := fun k k0 k1 => by
    apply Classical.byContradiction
    intro c
    have : k ∈ (rgI 0 tx.length).filter fun k => !gotP ps k := List.mem_filter.mpr ⟨rgI_mem.mpr (by omega), by unfold GP at c; simpa using c⟩
    have := List.length_pos_of_mem this
    unfold ms at hz
    omega
  have eb : o.base = o.taken := by
    apply Classical.byContradiction
    intro c
    exact iv.gn (all _ b0 (by omega))
  refine ⟨?_, h.rd.all hN (fun k k0 k1 => ?_) (lastP_iff.mp la)⟩
  · rw [iv.fin, decide_eq_true (show o.last = "got" from h.lg.mpr la), decide_eq_true eb]
    rfl
  · obtain ⟨p, hp, q1, q2⟩ := gotP_iff.mp (all k k0 k1)
    refine ⟨p, hp, q1, ?_⟩
    unfold PC.high at q2
    unfold PC.end
    omega
end

/-! whose turn it is -/
structure Ro (us sv : List Int) (now : Int) (rows : List Rg) : Prop where
  mem : ∀ u s : Int, (u, s) ∈ rows ↔ 0 ≤ s ∧ us[s.toNat]? = some u
  svl : sv.length = us.length
  lt : ∀ v ∈ sv, v < now
  asc : rows.Pairwise fun a b => a.1 = b.1 → ∀ x y, sv[a.2.toNat]? = some x → sv[b.2.toNat]? = some y → x < y
  nd : (rows.map (·.2)).Nodup
  rg : ∀ u ∈ us, 0 ≤ u ∧ u ≤ 3
def relT (us sv : List Int) (a b : Int) : Prop := ∀ ua ub xa xb, us[a.toNat]? = some ua → us[b.toNat]? = some ub → sv[a.toNat]? = some xa → sv[b.toNat]? = some xb → ua < ub ∨ (ua = ub ∧ xa < xb)
theorem ord_in {rows : List Rg} {i : Nat} {s : Int} (h : s ∈ ordTo rows i) : ∃ u, (u, s) ∈ rows ∧ u < i := by
  obtain ⟨r, hr, h0, h1, h2⟩ := ordTo_mem.mp h
  exact ⟨r.1, by rw [← h2]; exact hr, h1⟩
theorem ordU_in {rows : List Rg} {u s : Int} (h : s ∈ ordU rows u) : (u, s) ∈ rows := by
  unfold ordU at h
  obtain ⟨r, hr, e⟩ := List.mem_map.mp h
  obtain ⟨h1, h2⟩ := List.mem_filter.mp hr
  have h2 := of_decide_eq_true h2
  rw [← e, ← h2]
  exact h1
theorem ord_asc {us sv : List Int} {now : Int} {rows : List Rg} (h : Ro us sv now rows) : ∀ i : Nat, (ordTo rows i).Pairwise (relT us sv)
  | 0 => List.Pairwise.nil
  | i + 1 => by
    show (ordTo rows i ++ ordU rows (0 + (i : Int))).Pairwise _
    refine List.pairwise_append.mpr ⟨ord_asc h i, ?_, fun a ha b hb => ?_⟩
    · unfold ordU
      refine List.pairwise_map.mpr ((h.asc.filter _).imp_of_mem fun {a b} ha hb q => ?_)
      have ea := of_decide_eq_true (List.mem_filter.mp ha).2
      have eb := of_decide_eq_true (List.mem_filter.mp hb).2
      have ma := (h.mem a.1 a.2).mp (List.mem_filter.mp ha).1
      have mb := (h.mem b.1 b.2).mp (List.mem_filter.mp hb).1
      intro ua ub xa xb h1 h2 h3 h4
      rw [ma.2] at h1
      rw [mb.2] at h2
      have h1 := Option.some.inj h1
      have h2 := Option.some.inj h2
      exact .inr ⟨by omega, q (by omega) xa xb h3 h4⟩
    · obtain ⟨u, m1, l1⟩ := ord_in ha
      have m2 := ordU_in hb
      have ma := (h.mem _ _).mp m1
      have mb := (h.mem _ _).mp m2
      intro ua ub xa xb h1 h2 h3 h4
      rw [ma.2] at h1
      rw [mb.2] at h2
      have h1 := Option.some.inj h1
      have h2 := Option.some.inj h2
      exact .inl (by omega)
theorem Ro.has {us sv : List Int} {now : Int} {rows : List Rg} (h : Ro us sv now rows) (s : Int) : s ∈ orderR rows ↔ 0 ≤ s ∧ s < us.length := by
  unfold orderR
  rw [ordTo_mem]
  constructor
  · rintro ⟨r, hr, _, _, e⟩
    have := (h.mem r.1 r.2).mp hr
    rw [e] at this
    have l := (List.getElem?_eq_some_iff.mp this.2).1
    omega
  · rintro ⟨h0, h1⟩
    have hs : s.toNat < us.length := by omega
    have hg := h.rg _ (List.getElem_mem hs)
    exact ⟨(us[s.toNat], s), (h.mem _ _).mpr ⟨h0, List.getElem?_eq_getElem hs⟩, hg.1, by have := hg.2; show us[s.toNat] < 4; omega, rfl⟩
theorem Ro.first {us sv : List Int} {now : Int} {rows : List Rg} (h : Ro us sv now rows) {ready : List Int} (hr : ∀ s ∈ ready, 0 ≤ s ∧ s < us.length) {f : Int} {fs : List Int} (e : (orderR rows).filter (fun s => decide (s ∈ ready)) = f :: fs) :
    f ∈ ready ∧ ∀ k ∈ ready, k = f ∨ relT us sv f k := by
  have pw := (ord_asc h 4).filter fun s => decide (s ∈ ready)
  have e : (ordTo rows 4).filter (fun s => decide (s ∈ ready)) = f :: fs := e
  rw [e] at pw
  have hf : f ∈ (ordTo rows 4).filter fun s => decide (s ∈ ready) := by rw [e]; exact List.mem_cons_self ..
  refine ⟨of_decide_eq_true (List.mem_filter.mp hf).2, fun k hk => ?_⟩
  have : k ∈ (ordTo rows 4).filter fun s => decide (s ∈ ready) := List.mem_filter.mpr ⟨(h.has k).mpr (hr k hk), decide_eq_true hk⟩
  rw [e] at this
  rcases List.mem_cons.mp this with q | q
  · exact .inl q
  · exact .inr ((List.pairwise_cons.mp pw).1 k q)
theorem Ro.none {us sv : List Int} {now : Int} {rows : List Rg} (h : Ro us sv now rows) {ready : List Int} (hr : ∀ s ∈ ready, 0 ≤ s ∧ s < us.length) (e : (orderR rows).filter (fun s => decide (s ∈ ready)) = []) : ready = [] := by
  cases ready with
  | nil => rfl
  | cons k ks =>
    have hk := List.mem_cons_self (a := k) (l := ks)
    have : k ∈ (orderR rows).filter fun s => decide (s ∈ k :: ks) := List.mem_filter.mpr ⟨(h.has k).mpr (hr k hk), decide_eq_true hk⟩
    rw [e] at this
    cases this
theorem Ro.serve {us sv : List Int} {now : Int} {rows : List Rg} (h : Ro us sv now rows) {f : Int} (f0 : 0 ≤ f) : Ro us (sv.set f.toNat now) (now + 1) (dropT rows f ++ mineT rows f) := by
  have inD : ∀ r, r ∈ dropT rows f ↔ r ∈ rows ∧ r.2 ≠ f := fun r => by
    unfold dropT
    rw [List.mem_filter]
    simp
  have inM : ∀ r, r ∈ mineT rows f ↔ r ∈ rows ∧ r.2 = f := fun r => by
    unfold mineT
    rw [List.mem_filter]
    simp
  refine ⟨fun u s => ?_, by rw [List.length_set]; exact h.svl, fun v hv => ?_, ?_, ?_, h.rg⟩
  · rw [List.mem_append, inD, inM, ← h.mem]
    constructor
    · rintro (q | q)
      · exact q.1
      · exact q.1
    · intro q
      by_cases c : s = f
      · exact .inr ⟨q, c⟩
      · exact .inl ⟨q, c⟩
  · rcases List.mem_or_eq_of_mem_set hv with q | q
    · have := h.lt v q
      omega
    · omega
  · refine List.pairwise_append.mpr ⟨(h.asc.filter _).imp_of_mem fun {a b} ha hb q => ?_, ?_, fun a ha b hb => ?_⟩
    · have ha := ((inD a).mp ha)
      have hb := ((inD b).mp hb)
      have a0 := ((h.mem a.1 a.2).mp ha.1).1
      have b0 := ((h.mem b.1 b.2).mp hb.1).1
      intro e x y h1 h2
      rw [List.getElem?_set_ne (by have := ha.2; omega)] at h1
      rw [List.getElem?_set_ne (by have := hb.2; omega)] at h2
      exact q e x y h1 h2
    · have nd := h.nd
      unfold mineT
      have : ((rows.filter fun r => decide (r.2 = f))).Pairwise fun a b => a.2 ≠ b.2 := (List.pairwise_map.mp nd).filter _
      refine this.imp_of_mem fun {a b} ha hb q => ?_
      have ea := of_decide_eq_true (List.mem_filter.mp ha).2
      have eb := of_decide_eq_true (List.mem_filter.mp hb).2
      exact absurd (ea.trans eb.symm) q
    · have ha := ((inD a).mp ha)
      have hb := ((inM b).mp hb)
      have a0 := ((h.mem a.1 a.2).mp ha.1).1
      intro e x y h1 h2
      rw [List.getElem?_set_ne (by have := ha.2; omega)] at h1
      rw [hb.2] at h2
      have l := (List.getElem?_eq_some_iff.mp h2).1
      rw [List.length_set] at l
      rw [List.getElem?_set_self l] at h2
      have := h.lt x (List.mem_of_getElem? h1)
      have := Option.some.inj h2
      omega
  · have p : (dropT rows f ++ mineT rows f).Perm rows := by
      unfold dropT mineT
      have := List.filter_append_perm (fun r : Rg => decide (r.2 = f)) rows
      exact List.perm_append_comm.trans this
    exact (p.map _).nodup_iff.mpr h.nd
theorem Ro.add {us sv : List Int} {rows : List Rg} {n u : Int} (h : Ro us sv (us.length - n) rows) (hu : 0 ≤ u ∧ u ≤ 3) (hsv : ∀ k : Nat, k < us.length → sv[k]? = some ((k : Int) - n)) :
    Ro (us ++ [u]) (sv ++ [(us.length : Int) - n]) (us.length + 1 - n) (rows ++ [(u, (us.length : Int))]) := by
  refine ⟨fun w s => ?_, by rw [List.length_append, List.length_append, h.svl]; rfl, fun v hv => ?_, ?_, ?_, fun w hw => ?_⟩
  · rw [List.mem_append, List.mem_singleton, h.mem]
    constructor
    · rintro (⟨q0, q⟩ | q)
      · have l := (List.getElem?_eq_some_iff.mp q).1
        exact ⟨q0, by rw [List.getElem?_append_left l]; exact q⟩
      · have e1 : w = u := (Prod.mk.inj q).1
        have e2 : s = us.length := (Prod.mk.inj q).2
        subst e1; subst e2
        exact ⟨by omega, by rw [Int.toNat_natCast, List.getElem?_append_right (Nat.le_refl _), Nat.sub_self]; rfl⟩
    · rintro ⟨q0, q⟩
      by_cases c : s.toNat < us.length
      · rw [List.getElem?_append_left c] at q
        exact .inl ⟨q0, q⟩
      · have l := (List.getElem?_eq_some_iff.mp q).1
        rw [List.length_append, List.length_singleton] at l
        have es : s = us.length := by omega
        subst es
        rw [Int.toNat_natCast, List.getElem?_append_right (Nat.le_refl _), Nat.sub_self] at q
        have q : some u = some w := q
        exact .inr (by rw [Option.some.inj q])
  · rcases List.mem_append.mp hv with q | q
    · have := h.lt v q
      omega
    · rw [List.mem_singleton.mp q]
      omega
  · refine List.pairwise_append.mpr ⟨h.asc.imp_of_mem fun {a b} ha hb q => ?_, List.pairwise_singleton _ _, fun a ha b hb => ?_⟩
    · have ma := (h.mem a.1 a.2).mp ha
      have mb := (h.mem b.1 b.2).mp hb
      have la := (List.getElem?_eq_some_iff.mp ma.2).1
      have lb := (List.getElem?_eq_some_iff.mp mb.2).1
      intro e x y h1 h2
      rw [List.getElem?_append_left (by rw [h.svl]; exact la)] at h1
      rw [List.getElem?_append_left (by rw [h.svl]; exact lb)] at h2
      exact q e x y h1 h2
    · have ma := (h.mem a.1 a.2).mp ha
      have la := (List.getElem?_eq_some_iff.mp ma.2).1
      rw [List.mem_singleton.mp hb]
      intro e x y h1 h2
      rw [List.getElem?_append_left (by rw [h.svl]; exact la)] at h1
      have h2 : (sv ++ [(us.length : Int) - n])[((us.length : Int)).toNat]? = some y := h2
      rw [Int.toNat_natCast, List.getElem?_append_right (by rw [h.svl]; exact Nat.le_refl _), h.svl, Nat.sub_self] at h2
      have h2 : some ((us.length : Int) - n) = some y := h2
      have := h.lt x (List.mem_of_getElem? h1)
      have := Option.some.inj h2
      omega
  · rw [List.map_append]
    refine List.nodup_append.mpr ⟨h.nd, by simp, fun x hx y hy e => ?_⟩
    obtain ⟨r, hr, e2⟩ := List.mem_map.mp hx
    have m := (h.mem r.1 r.2).mp hr
    have l := (List.getElem?_eq_some_iff.mp m.2).1
    have hy : y = (us.length : Int) := List.mem_singleton.mp hy
    have e2 : r.2 = x := e2
    omega
  · rcases List.mem_append.mp hw with q | q
    · exact h.rg w q
    · rw [List.mem_singleton.mp q]
      exact hu
theorem Ro.zero (n : Int) : Ro [] [] (((([] : List Int).length : Nat) : Int) - n) [] := ⟨fun u s => ⟨fun h => (by cases h), fun h => (by cases h.2)⟩, rfl, fun v h => (by cases h), List.Pairwise.nil, List.nodup_nil, fun u h => (by cases h)⟩
/-! sums over streams -/
def sumTo : Nat → (Nat → Nat) → Nat
  | 0, _ => 0
  | n + 1, f => sumTo n f + f n
theorem sumTo_congr {f g : Nat → Nat} : ∀ {n : Nat}, (∀ k, k < n → f k = g k) → sumTo n f = sumTo n g
  | 0, _ => rfl
  | n + 1, h => by
    show sumTo n f + f n = sumTo n g + g n
    rw [sumTo_congr fun k hk => h k (by omega), h n (by omega)]
theorem sumTo_lt {f g : Nat → Nat} {j : Nat} : ∀ {n : Nat}, j < n → (∀ k, k < n → k ≠ j → g k = f k) → g j < f j → sumTo n g < sumTo n f
  | n + 1, hj, h, l => by
    show sumTo n g + g n < sumTo n f + f n
    by_cases c : j = n
    · subst c
      rw [sumTo_congr (g := f) fun k hk => h k (by omega) (by omega)]
      omega
    · have := sumTo_lt (n := n) (by omega) (fun k hk => h k (by omega)) l
      rw [h n (by omega) (Ne.symm c)]
      omega
theorem sumTo_zero {f : Nat → Nat} : ∀ {n : Nat}, sumTo n f = 0 ↔ ∀ k, k < n → f k = 0
  | 0 => ⟨fun _ k hk => by omega, fun _ => rfl⟩
  | n + 1 => by
    show sumTo n f + f n = 0 ↔ _
    constructor
    · intro h k hk
      by_cases c : k = n
      · subst c
        omega
      · exact (sumTo_zero (n := n)).mp (by omega) k (by omega)
    · intro h
      have := (sumTo_zero (n := n)).mpr fun k hk => h k (Nat.lt_succ_of_lt hk)
      have := h n (Nat.lt_succ_self n)
      omega
theorem sumTo_le {f g : Nat → Nat} : ∀ {n : Nat}, (∀ k, k < n → f k ≤ g k) → sumTo n f ≤ sumTo n g
  | 0, _ => Nat.le_refl _
  | n + 1, h => by
    show sumTo n f + f n ≤ sumTo n g + g n
    have := sumTo_le (n := n) fun k hk => h k (by omega)
    have := h n (by omega)
    omega


end L13
namespace L13
open PySem L2 DL
local macro_rules | `(tactic| walk_at "st") => `(tactic| repeat (first | assumption | with_reducible exact st_last | ((with_reducible refine st_same (y := ?_) ?_); rotate_left) | with_reducible refine st_ne ?_ ?_ | with_reducible refine st_app ?_ | ((with_reducible refine st_nx (S := ?_) ?_ ?_ ?_); rotate_left; assumption) | ((with_reducible refine st_nx1 (S := ?_) ?_ ?_ ?_); rotate_left; assumption) | omega))
local macro_rules | `(tactic| walk_at "dr") => `(tactic| repeat (first | assumption | with_reducible refine drw_set ?_ ?_ | with_reducible refine drw_app ?_ | omega))
local macro_rules | `(tactic| walk_at "go1") => `(tactic| (with_reducible first
  | refine w_seq ?_ | refine w_set ?_ | refine w_c ?_ | refine w_cons ?_ | refine w_nil ?_ | refine w_2 ?_ | refine w_L ?_ | refine w_1 ?_
  | refine w_ret ?_ | refine w_expr ?_ | refine w_nop ?_ | refine w_pass ?_ | refine w_retN ?_
  | refine w_if ?_ | refine w_ifE ?_ | refine w_cB ?_ | refine w_B ?_ | refine w_and ?_ | refine w_or ?_ | refine w_not ?_ | refine w_andV ?_ | refine w_orV ?_ | refine w_notV ?_ | refine w_chain ?_
  | refine w_opB ?_ | refine w_add ?_ | refine w_I ?_ | refine w_neg ?_ | refine w_eqI0 ?_ | refine w_eqI1 ?_ | refine w_eqB0 ?_ | refine w_eqB1 ?_ | refine w_eqS0 ?_ | refine w_eqS1 ?_ | refine w_int ?_ | refine w_max ?_ | refine w_min ?_ | refine w_min3 ?_ | refine w_tupL ?_ | refine w_newK ?_
  | refine w_mkf ?_ | refine w_mkt ?_ | refine w_par ?_ | refine w_par3 ?_
  | refine w_disp ?_ | refine w_pnil ?_ | refine w_pcons ?_ | refine w_asg ?_ | refine w_put ?_ | refine w_fldS ?_ | refine w_meth ?_ | refine w_methX ?_
  | refine w_for ?_ | refine w_forR ?_ | refine w_break ?_ | refine w_cont ?_ | refine w_lcR ?_ | refine w_lc ?_ | refine w_yes ?_ | refine w_append ?_ | refine w_sl00 ?_ | refine w_sl01 ?_ | refine w_sl10 ?_ | refine w_sl11 ?_ | refine ex_int ?_ | refine ex_tnil ?_ | refine ex_tname ?_ | refine ex_tsub ?_ | refine ex_gsub ?_ | refine w_eqIN0 ?_ | refine w_eqIN1 ?_ | refine w_eqNI0 ?_ | refine w_eqNI1 ?_ | refine w_cutF ?_ | refine w_cutL ?_ | refine w_cutT ?_
  | refine ex_b ?_ | refine ex_2 ?_ | refine ex_3 ?_ | refine ex_i ?_ | refine ex_it ?_ | refine w_t ?_ | refine w_f ?_ | refine w_tc ?_ | refine w_fc ?_ | refine w_ntt ?_ | refine w_ntf ?_ | refine w_decR ?_ | refine w_ndecR ?_))
local macro_rules | `(tactic| walk_at "go2") => `(tactic| (first
  | walk_at "go1"
  | ((with_reducible refine w_var (d := ?_) ?_ ?_); rotate_left; exact rfl)
  | ((with_reducible refine w_lst ?_ ?_); exact Nat.le_of_ble_eq_true rfl)
  | ((with_reducible refine w_tup ?_ ?_); exact Nat.le_of_ble_eq_true rfl)
  | ((with_reducible refine w_call ?_ ?_); exact rfl)
  | ((with_reducible refine ex_tup ?_ ?_); exact rfl)
  | ((with_reducible refine w_fld (C := ?_) (fl := ?_) (d := ?_) ?_ ?_ ?_ ?_); rotate_left 3; (walk_at "st"); exact List.mem_singleton.mpr rfl; exact rfl)
  | ((with_reducible refine ex_f (C := ?_) (fl := ?_) ?_ ?_ ?_ ?_); rotate_left 2; (walk_at "st"); exact List.mem_singleton.mpr rfl; exact Nat.le_of_ble_eq_true rfl)
  | ((with_reducible refine w_ixv (kvs := ?_) (j := ?_) (d := ?_) ?_ ?_ ?_ ?_); rotate_left 3; (walk_at "st"); exact rfl; exact rfl)
  | ((with_reducible refine ex_put (kvs := ?_) (j := ?_) ?_ ?_ ?_ ?_); rotate_left 2; (walk_at "st"); exact rfl; exact Nat.le_of_ble_eq_true rfl)
  | ((with_reducible refine w_is0 (b := true) ?_ ?_); exact rfl) | ((with_reducible refine w_is0 (b := false) ?_ ?_); exact rfl) | ((with_reducible refine w_is1 (b := true) ?_ ?_); exact rfl) | ((with_reducible refine w_is1 (b := false) ?_ ?_); exact rfl)
  | ((with_reducible refine w_isi (t := ?_) (b := true) ?_ ?_ ?_ ?_); rotate_left; exact rfl; decide +kernel; decide +kernel)
  | ((with_reducible refine w_isi (t := ?_) (b := false) ?_ ?_ ?_ ?_); rotate_left; exact rfl; decide +kernel; decide +kernel)
  | ((with_reducible refine w_isis (t := ?_) (ns := ?_) (b := true) ?_ ?_ ?_ ?_ ?_); rotate_left 2; exact rfl; exact rfl; decide +kernel; decide +kernel)
  | ((with_reducible refine w_isis (t := ?_) (ns := ?_) (b := false) ?_ ?_ ?_ ?_ ?_); rotate_left 2; exact rfl; exact rfl; decide +kernel; decide +kernel)
  | with_reducible refine w_mod (by omega) ?_ | with_reducible refine w_fdiv (by omega) (by omega) ?_
  | with_reducible refine w_mul (mulL (by omega) (by omega)) ?_ | with_reducible refine w_mul (mulR (by omega) (by omega)) ?_))
local macro_rules | `(tactic| walk_at "go") => `(tactic| repeat (walk_at "go2"))
local macro_rules | `(tactic| walk_at "all") => `(tactic| repeat' (first | walk_at "go2" | with_reducible refine w_dec (fun _ => ?_) (fun _ => ?_) | with_reducible refine w_ndec (fun _ => ?_) (fun _ => ?_) | with_reducible refine w_any (fun _ => ?_) (fun _ => ?_)))

--COMMON COMMON_k13
/-! the goal -/
theorem pl_non {n : Nat} : Pl (n + 1) .non := trivial
theorem pl_str {n : Nat} {s : Str} : Pl (n + 1) (.str s) := trivial
theorem pl_tup {n : Nat} {ds : List D} (h : ds.length ≤ 16777216) (h2 : ∀ d ∈ ds, Pl n d) : Pl (n + 1) (.tup ds) := by
  simp only [Pl]
  exact ⟨h, h2⟩
theorem pl_t2 {n : Nat} {p q : D} (h1 : Pl n p) (h2 : Pl n q) : Pl (n + 1) (.tup [p, q]) := pl_tup (by simp) fun d hd => by
  rcases List.mem_cons.mp hd with e | hd
  · rw [e]; exact h1
  · rw [List.mem_singleton.mp hd]; exact h2
theorem pl_ns {n : Nat} {os : List Int} (h : os.length ≤ 10000) : Pl (n + 2) (.lst (os.map D.int)) := pl_list (by rw [List.length_map]; omega) fun d hd => by
  obtain ⟨x, _, e⟩ := List.mem_map.mp hd
  subst e
  exact trivial
theorem pl_pcS {n : Nat} {st : Int} {p : PC} (h : p.os.length ≤ 10000) : Pl (n + 4) (pcD st p) := by
  unfold pcD
  refine pl_tup (by show 5 ≤ 16777216; omega) fun d hd => ?_
  simp at hd
  rcases hd with e | e | e | e | e
  · subst e; exact trivial
  · subst e; exact trivial
  · subst e; exact trivial
  · subst e
    refine pl_tup (by rw [List.length_map]; omega) fun d hd => ?_
    obtain ⟨x, _, e⟩ := List.mem_map.mp hd
    subst e
    exact trivial
  · subst e; exact trivial
theorem w_sameE {a : CA} (n : Nat) {x y : D} {S : Store} {Q : D → Store → Prop} (e : x = y) (h : Pl n x) (q : Q (.bl true) S) : WE (fn_law_same a n [x, y] S) Q := by
  subst e
  exact w_same n x S Q h q
theorem w_few {ns : List Int} {r : Int} {S : Store} {Q : D → Store → Prop} (h0 : 0 ≤ r) (h1 : r < ns.length) (h : ∀ m, m ∈ ns → Q (.int m) S) : WE (opIx (.lst (ns.map D.int)) (.int r) S) Q := by
  obtain ⟨d, hd, e, _⟩ := atI_in (ds := ns.map D.int) h0 (by rw [List.length_map]; exact h1)
  obtain ⟨m, hm, e2⟩ := List.mem_map.mp hd
  subst e2
  exact w_ix rfl e (h m hm)
theorem drw_ch7 {S S' : Store} (h : Drw S) (e : S'[0]? = S[0]?) : Drw S' := by
  obtain ⟨ns, i, v, s, h0, h1⟩ := h.ex
  exact ⟨ns, i, v, s, e.trans h0, h1⟩
theorem lt0 {S : Store} (h : Drw S) : 0 < S.length := by
  obtain ⟨_, _, _, _, h0, _⟩ := h.ex
  exact lt_of_get h0
theorem w_cut3 {σ : Sg} {S : Store} {s t u x : EvS} {N B C : Sg → Store → Prop} {R : D → Store → Prop} (M : Sg → Store → Prop) (h : WS (evSeq s (evSeq t u) σ S) M B C R) (k : ∀ σ S, M σ S → WS (x σ S) N B C R) : WS (evSeq s (evSeq t (evSeq u x)) σ S) N B C R := by
  refine w_seq ?_
  refine WS.mono (ws_inv (o := s σ S) (k := evSeq t u) h) (fun σ S q => ?_) (fun _ _ q => q) (fun _ _ q => q) (fun _ _ q => q)
  exact w_cut2 q k
theorem atR {α : Type} {xs : List α} {f : α → D} {i : Int} {x : α} (h0 : 0 ≤ i) (h : xs[i.toNat]? = some x) : atI (xs.map f) i = some (f x) := by
  have hl := (List.getElem?_eq_some_iff.mp h).1
  obtain ⟨d', _, e3, e4⟩ := atI_in (ds := xs.map f) (i := i) h0 (by rw [List.length_map]; omega)
  rw [e3, ← e4, List.getElem?_map, h]
  rfl
def roD (n : Nat) : List D := (List.range n).map fun j => D.ref (6 + 2 * j)
def riD (n : Nat) : List D := (List.range n).map fun j => D.ref (7 + 2 * j)
theorem roD_at {n : Nat} {i : Int} (h0 : 0 ≤ i) (h1 : i < n) : atI (roD n) i = some (.ref (6 + 2 * i.toNat)) := atR h0 (by rw [List.getElem?_range (by omega)])
theorem riD_at {n : Nat} {i : Int} (h0 : 0 ≤ i) (h1 : i < n) : atI (riD n) i = some (.ref (7 + 2 * i.toNat)) := atR h0 (by rw [List.getElem?_range (by omega)])
theorem roD_succ (n : Nat) : roD (n + 1) = roD n ++ [D.ref (6 + 2 * n)] := by
  unfold roD
  rw [List.range_succ, List.map_append]
  rfl
theorem riD_succ (n : Nat) : riD (n + 1) = riD n ++ [D.ref (7 + 2 * n)] := by
  unfold riD
  rw [List.range_succ, List.map_append]
  rfl
theorem roD_len (n : Nat) : (roD n).length = n := by
  unfold roD
  rw [List.length_map, List.length_range]
theorem riD_len (n : Nat) : (riD n).length = n := by
  unfold riD
  rw [List.length_map, List.length_range]
def svI (n : Int) (k : Nat) : List Int := (List.range k).map fun (j : Nat) => (j : Int) - n
theorem svI_at {n : Int} {k j : Nat} (h : j < k) : (svI n k)[j]? = some ((j : Int) - n) := by
  unfold svI
  rw [List.getElem?_map, List.getElem?_range h]
  rfl
theorem svI_succ (n : Int) (k : Nat) : svI n (k + 1) = svI n k ++ [(k : Int) - n] := by
  unfold svI
  rw [List.range_succ, List.map_append]
  rfl
/-- what stands when some streams are made -/
structure Jz (a : CA) (txs : List (List Int)) (us : List Int) (rows : List Rg) (ks ls : Nat) (os : Nat → OS) (S : Store) : Prop where
  d : Drw S
  t1 : S[1]? = some (TurnsO a rows)
  l2 : S[2]? = some (.lst (roD ks))
  l3 : S[3]? = some (.lst (riD ls))
  l4 : S[4]? = some (.lst (txs.map nsD))
  l5 : S[5]? = some (.lst (us.map D.int))
  so : ∀ j, j < ks → S[6 + 2 * j]? = some (og a.cOutgoing j 5000 (os j))
  si : ∀ j, j < ls → S[7 + 2 * j]? = some (inO a.cIncoming j s00)
section
variable {a : CA} {txs : List (List Int)} {us : List Int} {rows : List Rg} {ks ls : Nat} {os : Nat → OS} {S S' : Store}
theorem Jz.nx (h : Jz a txs us rows ks ls os S) (d : Drw S') (x : Nx1 S S') : Jz a txs us rows ks ls os S' :=
  ⟨d, st_nx1 x (by omega) h.t1, st_nx1 x (by omega) h.l2, st_nx1 x (by omega) h.l3, st_nx1 x (by omega) h.l4, st_nx1 x (by omega) h.l5, fun j hj => st_nx1 x (by omega) (h.so j hj), fun j hj => st_nx1 x (by omega) (h.si j hj)⟩
theorem Jz.tx (h : Jz a txs us rows ks ls os S) (tx : List Int) : Jz a (txs ++ [tx]) us rows ks ls os (S.set 4 (.lst (txs.map nsD ++ [nsD tx]))) :=
  ⟨drw_set h.d (by omega), st_ne (by omega) h.t1, st_ne (by omega) h.l2, st_ne (by omega) h.l3, by rw [st_same h.l4, List.map_append]; rfl, st_ne (by omega) h.l5, fun j hj => st_ne (by omega) (h.so j hj), fun j hj => st_ne (by omega) (h.si j hj)⟩
theorem Jz.ur (h : Jz a txs us rows ks ls os S) (u : Int) : Jz a txs (us ++ [u]) rows ks ls os (S.set 5 (.lst (us.map D.int ++ [.int u]))) :=
  ⟨drw_set h.d (by omega), st_ne (by omega) h.t1, st_ne (by omega) h.l2, st_ne (by omega) h.l3, st_ne (by omega) h.l4, by rw [st_same h.l5, List.map_append]; rfl, fun j hj => st_ne (by omega) (h.so j hj), fun j hj => st_ne (by omega) (h.si j hj)⟩
theorem Jz.out (h : Jz a txs us rows ks ls os S) {o : OS} (hl : S.length = 6 + 2 * ks) : Jz a txs us rows (ks + 1) ls (fun j => if j = ks then o else os j) ((S ++ [og a.cOutgoing ks 5000 o]).set 2 (.lst (roD ks ++ [.ref S.length]))) := by
  refine ⟨drw_set (drw_app h.d) (by omega), st_ne (by omega) (st_app h.t1), ?_, st_ne (by omega) (st_app h.l3), st_ne (by omega) (st_app h.l4), st_ne (by omega) (st_app h.l5), fun j hj => ?_, fun j hj => st_ne (by omega) (st_app (h.si j hj))⟩
  · rw [st_same (st_app h.l2), hl, roD_succ]
  · by_cases c : j = ks
    · subst c
      rw [if_pos rfl]
      exact st_ne (by omega) (by rw [← hl]; exact st_last)
    · rw [if_neg c]
      exact st_ne (by omega) (st_app (h.so j (by omega)))
theorem Jz.into (h : Jz a txs us rows ks ls os S) (hl : S.length = 7 + 2 * ls) : Jz a txs us rows ks (ls + 1) os ((S ++ [inO a.cIncoming ls s00]).set 3 (.lst (riD ls ++ [.ref S.length]))) := by
  refine ⟨drw_set (drw_app h.d) (by omega), st_ne (by omega) (st_app h.t1), st_ne (by omega) (st_app h.l2), ?_, st_ne (by omega) (st_app h.l4), st_ne (by omega) (st_app h.l5), fun j hj => st_ne (by omega) (st_app (h.so j hj)), fun j hj => ?_⟩
  · rw [st_same (st_app h.l3), hl, riD_succ]
  · by_cases c : j = ls
    · subst c
      exact st_ne (by omega) (by rw [← hl]; exact st_last)
    · exact st_ne (by omega) (st_app (h.si j (by omega)))
theorem Jz.turn (h : Jz a txs us rows ks ls os S) (rows' : List Rg) : Jz a txs us rows' ks ls os (S.set 1 (TurnsO a rows')) :=
  ⟨drw_set h.d (by omega), st_same h.t1, st_ne (by omega) h.l2, st_ne (by omega) h.l3, st_ne (by omega) h.l4, st_ne (by omega) h.l5, fun j hj => st_ne (by omega) (h.so j hj), fun j hj => st_ne (by omega) (h.si j hj)⟩
theorem Jz.put (h : Jz a txs us rows ks ls os S) {k : Nat} (hk : k < ks) (o : OS) : Jz a txs us rows ks ls (fun j => if j = k then o else os j) (S.set (6 + 2 * k) (og a.cOutgoing k 5000 o)) := by
  refine ⟨drw_set h.d (by omega), st_ne (by omega) h.t1, st_ne (by omega) h.l2, st_ne (by omega) h.l3, st_ne (by omega) h.l4, st_ne (by omega) h.l5, fun j hj => ?_, fun j hj => st_ne (by omega) (h.si j hj)⟩
  by_cases c : j = k
  · subst c
    rw [if_pos rfl]
    exact st_same (h.so j hj)
  · rw [if_neg c]
    exact st_ne (by omega) (h.so j hj)
end
theorem rg_range : ∀ (n : Nat) (lo : Int), rgI lo n = (List.range n).map fun (j : Nat) => lo + (j : Int)
  | 0, _ => rfl
  | n + 1, lo => by
    show lo :: rgI (lo + 1) n = _
    rw [rg_range n (lo + 1), List.range_succ_eq_map, List.map_cons, List.map_map]
    congr 1
    · show lo = lo + ((0 : Nat) : Int)
      omega
    · refine List.map_congr_left fun j _ => ?_
      show lo + 1 + (j : Int) = lo + ((j + 1 : Nat) : Int)
      omega
def txj (txs : List (List Int)) (j : Nat) : List Int := (txs[j]?).getD []
theorem sum_txs (txs : List (List Int)) : ∀ k : Nat, k ≤ txs.length → ((txs.take k).map fun t => (t.length : Int)).sum = (sumTo k fun j => (txj txs j).length : Nat)
  | 0, _ => rfl
  | k + 1, h => by
    have hk : k < txs.length := by omega
    rw [List.take_succ, List.map_append, List.sum_append, sum_txs txs k (by omega), List.getElem?_eq_getElem hk]
    show _ + ((([txs[k]] : List (List Int)).map fun t => (t.length : Int)).sum) = ((sumTo k (fun j => (txj txs j).length) + (txj txs k).length : Nat) : Int)
    have : txj txs k = txs[k] := by
      unfold txj
      rw [List.getElem?_eq_getElem hk]
      rfl
    rw [this]
    simp
theorem ms_nil (tx : List Int) : ms tx [] = tx.length + 1 := by
  unfold ms
  have e : ((rgI 0 tx.length).filter fun k => !gotP [] k) = rgI 0 tx.length := List.filter_eq_self.mpr fun k _ => rfl
  rw [e, rgI_len]
  rfl
theorem sum_ms (txs : List (List Int)) : ∀ n : Nat, sumTo n (fun j => ms (txj txs j) []) = sumTo n (fun j => (txj txs j).length) + n
  | 0 => rfl
  | n + 1 => by
    show sumTo n (fun j => ms (txj txs j) []) + ms (txj txs n) [] = sumTo n (fun j => (txj txs j).length) + (txj txs n).length + (n + 1)
    rw [sum_ms txs n, ms_nil]
    omega
structure Jm (a : CA) (n : Nat) (txs : List (List Int)) (us : List Int) (rows : List Rg) (sv : List Int) (now : Int) (os : Nat → OS) (is : Nat → IS) (pss : Nat → List PC) (S : Store) : Prop where
  d : Drw S
  t1 : S[1]? = some (TurnsO a rows)
  so : ∀ j, j < n → S[6 + 2 * j]? = some (og a.cOutgoing j 5000 (os j))
  si : ∀ j, j < n → S[7 + 2 * j]? = some (inO a.cIncoming j (is j))
  v : S[6 + 2 * n]? = some (.lst (sv.map D.int))
  sx : ∀ j, j < n → Sx (txj txs j) (os j) (is j) (pss j)
  ro : Ro us sv now rows
section
variable {a : CA} {n : Nat} {txs : List (List Int)} {us : List Int} {rows : List Rg} {sv : List Int} {now : Int} {os : Nat → OS} {is : Nat → IS} {pss : Nat → List PC} {S S' : Store}
theorem Jm.nx (h : Jm a n txs us rows sv now os is pss S) (d : Drw S') (x : Nx1 S S') : Jm a n txs us rows sv now os is pss S' :=
  ⟨d, st_nx1 x (by omega) h.t1, fun j hj => st_nx1 x (by omega) (h.so j hj), fun j hj => st_nx1 x (by omega) (h.si j hj), st_nx1 x (by omega) h.v, h.sx, h.ro⟩
theorem Ro.tick (h : Ro us sv now rows) : Ro us sv (now + 1) rows := ⟨h.mem, h.svl, fun v hv => by have := h.lt v hv; omega, h.asc, h.nd, h.rg⟩
theorem Jm.tick (h : Jm a n txs us rows sv now os is pss S) : Jm a n txs us rows sv (now + 1) os is pss S := ⟨h.d, h.t1, h.so, h.si, h.v, h.sx, h.ro.tick⟩
theorem Ro.len (h : Ro us sv now rows) : rows.length ≤ us.length := by
  have := List.Nodup.length_le_of_subset h.nd (l₂ := rgI 0 us.length) fun s hs => by
    obtain ⟨r, hr, e⟩ := List.mem_map.mp hs
    have m := (h.mem r.1 r.2).mp hr
    have l := (List.getElem?_eq_some_iff.mp m.2).1
    rw [← e]
    exact rgI_mem.mpr ⟨m.1, by omega⟩
  rwa [List.length_map, rgI_len] at this
end
def uAt (us : List Int) (k : Int) : Int := (us[k.toNat]?).getD 0
def upd1 {α : Type} (f : Nat → α) (k : Nat) (x : α) : Nat → α := fun j => if j = k then x else f j
theorem upd1_same {α : Type} {f : Nat → α} {k : Nat} {x : α} : upd1 f k x k = x := if_pos rfl
theorem upd1_ne {α : Type} {f : Nat → α} {k j : Nat} {x : α} (h : j ≠ k) : upd1 f k x j = f j := if_neg h
section
variable {a : CA} {n : Nat} {txs : List (List Int)} {us : List Int} {rows : List Rg} {sv : List Int} {now : Int} {os : Nat → OS} {is : Nat → IS} {pss : Nat → List PC} {S S' : Store}
/-- the store, without what it means -/
structure Js (a : CA) (n : Nat) (rows : List Rg) (sv : List Int) (os : Nat → OS) (is : Nat → IS) (S : Store) : Prop where
  d : Drw S
  t1 : S[1]? = some (TurnsO a rows)
  so : ∀ j, j < n → S[6 + 2 * j]? = some (og a.cOutgoing j 5000 (os j))
  si : ∀ j, j < n → S[7 + 2 * j]? = some (inO a.cIncoming j (is j))
  v : S[6 + 2 * n]? = some (.lst (sv.map D.int))
theorem Jm.js (h : Jm a n txs us rows sv now os is pss S) : Js a n rows sv os is S := ⟨h.d, h.t1, h.so, h.si, h.v⟩
theorem Js.nx (h : Js a n rows sv os is S) (d : Drw S') (x : Nx1 S S') : Js a n rows sv os is S' :=
  ⟨d, st_nx1 x (by omega) h.t1, fun j hj => st_nx1 x (by omega) (h.so j hj), fun j hj => st_nx1 x (by omega) (h.si j hj), st_nx1 x (by omega) h.v⟩
theorem Js.svs (h : Js a n rows sv os is S) (sv' : List Int) : Js a n rows sv' os is (S.set (6 + 2 * n) (.lst (sv'.map D.int))) :=
  ⟨drw_set h.d (by omega), st_ne (by omega) h.t1, fun j hj => st_ne (by omega) (h.so j hj), fun j hj => st_ne (by omega) (h.si j hj), st_same h.v⟩
theorem Js.turn (h : Js a n rows sv os is S) (rows' : List Rg) : Js a n rows' sv os is (S.set 1 (TurnsO a rows')) :=
  ⟨drw_set h.d (by omega), st_same h.t1, fun j hj => st_ne (by omega) (h.so j hj), fun j hj => st_ne (by omega) (h.si j hj), st_ne (by omega) h.v⟩
theorem Js.out (h : Js a n rows sv os is S) {k : Nat} (hk : k < n) {o : OS} (c : Ch (6 + 2 * k) S S') (e : S'[6 + 2 * k]? = some (og a.cOutgoing k 5000 o)) : Js a n rows sv (upd1 os k o) is S' := by
  refine ⟨drw_ch7 h.d (c.eq 0 (lt0 h.d) (by omega)), c.get (by omega) h.t1, fun j hj => ?_, fun j hj => c.get (by omega) (h.si j hj), c.get (by omega) h.v⟩
  by_cases q : j = k
  · subst q
    rw [upd1_same]
    exact e
  · rw [upd1_ne q]
    exact c.get (by omega) (h.so j hj)
theorem Js.into (h : Js a n rows sv os is S) {k : Nat} (hk : k < n) {i : IS} (c : Ch (7 + 2 * k) S S') (e : S'[7 + 2 * k]? = some (inO a.cIncoming k i)) : Js a n rows sv os (upd1 is k i) S' := by
  refine ⟨drw_ch7 h.d (c.eq 0 (lt0 h.d) (by omega)), c.get (by omega) h.t1, fun j hj => c.get (by omega) (h.so j hj), fun j hj => ?_, c.get (by omega) h.v⟩
  by_cases q : j = k
  · subst q
    rw [upd1_same]
    exact e
  · rw [upd1_ne q]
    exact c.get (by omega) (h.si j hj)
end
def Tk13 (a : CA) (n : Nat) (txs : List (List Int)) (us : List Int) (sc : D) (size lossy : Int) (tot : Nat) (now : Nat) (σ : Sg) (S : Store) : Prop :=
  ∃ (rows : List Rg) (sv : List Int) (os : Nat → OS) (is : Nat → IS) (pss : Nat → List PC) (o9 o13 o14 o15 o16 o17 o18 o19 o20 o21 : Option D), σ = [some sc, some (.ref 0), some (.int (n : Int)), some (.int size), some (.ref 1), some (.lst (roD n)), some (.lst (riD n)), some (.lst (txs.map nsD)), some (.lst (us.map D.int)), o9, some (.ref (6 + 2 * n)), some (.int lossy), some (.int (tot : Int)), o13, o14, o15, o16, o17, o18, o19, o20, o21] ∧
    Jm a n txs us rows sv now os is pss S ∧ (sumTo n (fun j => ms (txj txs j) (pss j)) + (now - lossy.toNat) ≤ tot + n ∨ sumTo n (fun j => ms (txj txs j) (pss j)) = 0)
def Sz13 (a : CA) (n : Nat) (sc : D) (size : Int) (k : Nat) (σ : Sg) (S : Store) : Prop :=
  ∃ (txs : List (List Int)) (us : List Int) (rows : List Rg) (os : Nat → OS) (o9 o10 o11 o12 o13 o14 o15 o16 o17 o18 o19 o20 o21 : Option D), σ = [some sc, some (.ref 0), some (.int (n : Int)), some (.int size), some (.ref 1), some (.ref 2), some (.ref 3), some (.ref 4), some (.ref 5), o9, o10, o11, o12, o13, o14, o15, o16, o17, o18, o19, o20, o21] ∧
    Jz a txs us rows k k os S ∧ S.length = 6 + 2 * k ∧ txs.length = k ∧ us.length = k ∧ (∀ tx ∈ txs, tx.length ≤ 24) ∧ Ro us (svI n k) (k - n) rows ∧ (∀ j, j < k → ∃ tx, txs[j]? = some tx ∧ os j = stA tx true 0 false)
theorem goal : Goal := fun a _ ns hl => by
  have key : WE (fn_law a [.fz false (ns.map D.int)] []) (fun d _ => d = .bl true) := by
    refine w_fn ?_
    unfold ev_law
    walk_at "go"
    refine w_draws fun S hd hl1 => ?_
    generalize hsc : D.fz false (ns.map D.int) = sc
    walk_at "go"
    refine w_draw hd (by omega) (by omega) fun r S1 hd1 x1 r0 r1 => ?_
    walk_at "go"
    refine w_draw hd1 (by omega) (by omega) fun z S2 hd2 x2 z0 z1 => ?_
    refine w_few (ns := [1, 3, 20]) z0 (by simp; omega) fun size hsz => ?_
    have sz0 : 1 ≤ size ∧ size ≤ 20 := by
      simp at hsz
      omega
    have hr : ∃ n : Nat, 2 + r = (n : Int) ∧ 2 ≤ n ∧ n ≤ 5 := ⟨(2 + r).toNat, by omega, by omega, by omega⟩
    obtain ⟨n, en, n2, n5⟩ := hr
    rw [en]
    have l2 : S2.length = 1 := by rw [x2.len, x1.len, hl1]
    clear hsz z0 z1 hd1 x1 x2 hl1 hd en r0 r1
    walk_at "go"
    refine w_make rfl ?_
    refine w_fn ?_
    unfold ev_Turns_init
    have t1 : (S2 ++ [SO.ins a.cTurns []])[S2.length]? = some (SO.ins a.cTurns []) := st_last
    walk_at "go"
    refine ⟨rfl, ?_⟩
    rw [set_last, l2]
    have t2 : ∀ x, (S2 ++ [x])[1]? = some x := fun x => by rw [← l2]; exact st_last
    have j0 : Jz a [] [] [] 0 0 (fun _ => stA [] true 0 false) (S2 ++ [TurnsO a []] ++ [SO.lst []] ++ [SO.lst []] ++ [SO.lst []] ++ [SO.lst []]) := by
      have g : ∀ i, (S2 ++ [TurnsO a [], SO.lst [], SO.lst [], SO.lst [], SO.lst []])[1 + i]? = [TurnsO a [], SO.lst [], SO.lst [], SO.lst [], SO.lst []][i]? := fun i => by rw [List.getElem?_append_right (by omega), l2, Nat.add_sub_cancel_left]
      refine ⟨drw_app (drw_app (drw_app (drw_app (drw_app hd2)))), ?_, ?_, ?_, ?_, ?_, fun j hj => absurd hj (Nat.not_lt_zero j), fun j hj => absurd hj (Nat.not_lt_zero j)⟩
      · simpa using g 0
      · simpa [roD] using g 1
      · simpa [riD] using g 2
      · simpa using g 3
      · simpa using g 4
    have nl : (S2 ++ [TurnsO a []] ++ [SO.lst []] ++ [SO.lst []] ++ [SO.lst []] ++ [SO.lst []]).length = 6 := by simp [l2]
    have e1 : (S2 ++ [TurnsO a []]).length = 2 := by simp [l2]
    have e2 : (S2 ++ [TurnsO a []] ++ [SO.lst []]).length = 3 := by simp [l2]
    have e3 : (S2 ++ [TurnsO a []] ++ [SO.lst []] ++ [SO.lst []]).length = 4 := by simp [l2]
    have e4 : (S2 ++ [TurnsO a []] ++ [SO.lst []] ++ [SO.lst []] ++ [SO.lst []]).length = 5 := by simp [l2]
    show WE (evCons (evL (opLst true) evNil) (evCons (evL (opLst true) evNil) (evCons (evL (opLst true) evNil) (evCons (evL (opLst true) evNil) evNil))) _ (S2 ++ [TurnsO a []])) _
    walk_at "go"
    rw [e1, e2, e3, e4]
    generalize S2 ++ [TurnsO a []] ++ [SO.lst []] ++ [SO.lst []] ++ [SO.lst []] ++ [SO.lst []] = S3 at j0 nl ⊢
    clear e1 e2 e3 e4 t2 t1 hd2 l2
    refine ex_r1 (by omega) (by omega) ?_
    rw [Int.toNat_natCast]
    refine w_rng (fun k σ S => Sz13 a n sc size k σ S) ⟨[], [], [], _, _, _, _, _, _, _, _, _, _, _, _, _, _, rfl, j0, nl, rfl, rfl, fun tx h => (by cases h), Ro.zero n, fun j hj => absurd hj (Nat.not_lt_zero j)⟩ (fun k σ S hk q => ?_) fun σ S q => ?_
    · obtain ⟨txs, us, rows, os, o9, o10, o11, o12, o13, o14, o15, o16, o17, o18, o19, o20, o21, e1, J, sl, lt, lu, tb, ro, ho⟩ := q
      subst e1
      clear j0 nl
      walk_at "go"
      refine ⟨4, rfl, ⟨_, J.l4⟩, ?_⟩
      walk_at "go"
      refine w_draw J.d (by omega) (by omega) fun m S4 d4 x4 m0 m1 => ?_
      have J4 := J.nx d4 x4
      have sl4 : S4.length = 6 + 2 * k := by rw [x4.len, sl]
      clear J sl d4 x4
      walk_at "go"
      refine ex_r1 (by omega) (by omega) ?_
      refine w_comp (fun i acc S' => ∃ xs : List Int, acc = xs.map D.int ∧ xs.length = i ∧ Jz a txs us rows k k os S' ∧ S'.length = 6 + 2 * k) _ 0 [] S4 (by rw [rangeD_length]; exact sz _ (by rw [List.length_nil]; omega)) ⟨[], rfl, rfl, J4, sl4⟩ (fun j d acc S5 hj ⟨xs, e1, e2, J5, l5⟩ => ?_) fun acc S5 ⟨tx, e1, e2, J5, l5⟩ => ?_
      · obtain ⟨_, rfl⟩ := range_at hj
        refine ⟨_, _, rfl, ?_⟩
        walk_at "go"
        refine w_draw J5.d (by omega) (by omega) fun r2 S6 d6 x6 _ _ => ?_
        exact ⟨xs ++ [r2], by rw [e1, List.map_append]; rfl, by simp [e2], J5.nx d6 x6, by rw [x6.len, l5]⟩
      subst e1
      rw [rangeD_length, Nat.zero_add] at e2
      have tl : tx.length ≤ 24 := by omega
      clear J4 sl4 e2
      walk_at "go"
      refine ⟨_, J5.l4, szl _ (by rw [List.length_map]; omega), ?_⟩
      have J6 := J5.tx tx
      have l6 : (S5.set 4 (.lst (txs.map nsD ++ [nsD tx]))).length = 6 + 2 * k := by rw [List.length_set, l5]
      generalize S5.set 4 (.lst (txs.map nsD ++ [nsD tx])) = S6 at J6 l6 ⊢
      clear J5 l5
      walk_at "go"
      refine ⟨5, rfl, ⟨_, J6.l5⟩, ?_⟩
      walk_at "go"
      refine w_draw J6.d (by omega) (by omega) fun u S7 d7 x7 u0 u1 => ?_
      have J7 := J6.nx d7 x7
      have l7 : S7.length = 6 + 2 * k := by rw [x7.len, l6]
      clear J6 l6 d7 x7
      refine ⟨_, J7.l5, szl _ (by rw [List.length_map]; omega), ?_⟩
      have J8 := J7.ur u
      have l8 : (S7.set 5 (.lst (us.map D.int ++ [.int u]))).length = 6 + 2 * k := by rw [List.length_set, l7]
      generalize S7.set 5 (.lst (us.map D.int ++ [.int u])) = S8 at J8 l8 ⊢
      clear J7 l7
      walk_at "go"
      refine ⟨2, rfl, ⟨_, J8.l2⟩, ?_⟩
      walk_at "go"
      refine w_make rfl ?_
      rw [show (0 : Int) + (k : Int) = (k : Int) by omega]
      refine w_oinit (by omega) st_last ?_
      refine ⟨rfl, ?_⟩
      rw [set_last]
      refine ⟨_, st_app J8.l2, szl _ (by rw [roD_len]; omega), ?_⟩
      have J9 := J8.out (o := ⟨0, [], 0, 0, [], [], false, Str.ofString "unsent"⟩) l8
      have l9 : ((S8 ++ [og a.cOutgoing (k : Int) 5000 ⟨0, [], 0, 0, [], [], false, Str.ofString "unsent"⟩]).set 2 (.lst (roD k ++ [.ref S8.length]))).length = 7 + 2 * k := by simp; omega
      generalize (S8 ++ [og a.cOutgoing (k : Int) 5000 ⟨0, [], 0, 0, [], [], false, Str.ofString "unsent"⟩]).set 2 (.lst (roD k ++ [.ref S8.length])) = S9 at J9 l9 ⊢
      clear J8 l8
      walk_at "go"
      refine ⟨3, rfl, ⟨_, J9.l3⟩, ?_⟩
      walk_at "go"
      refine w_make rfl ?_
      refine w_iinit (by omega) st_last ?_
      refine ⟨rfl, ?_⟩
      rw [set_last]
      refine ⟨_, st_app J9.l3, szl _ (by rw [riD_len]; omega), ?_⟩
      have J10 := J9.into l9
      have l10 : ((S9 ++ [inO a.cIncoming (k : Int) s00]).set 3 (.lst (riD k ++ [.ref S9.length]))).length = 8 + 2 * k := by simp; omega
      rw [show inO a.cIncoming (k : Int) ⟨5000, 5000, 0, 0, none, [], []⟩ = inO a.cIncoming (k : Int) s00 from rfl]
      generalize (S9 ++ [inO a.cIncoming (k : Int) s00]).set 3 (.lst (riD k ++ [.ref S9.length])) = S10 at J10 l10 ⊢
      clear J9 l9
      have uk : (us ++ [u])[((k : Int)).toNat]? = some u := by rw [Int.toNat_natCast, ← lu, List.getElem?_append_right (Nat.le_refl _), Nat.sub_self]; rfl
      have tk : (txs ++ [tx])[((k : Int)).toNat]? = some tx := by rw [Int.toNat_natCast, ← lt, List.getElem?_append_right (Nat.le_refl _), Nat.sub_self]; rfl
      have rl : rows.length ≤ 10 := by
        have := List.Nodup.length_le_of_subset ro.nd (l₂ := rgI 0 us.length) fun s hs => by
          obtain ⟨r, hr, e⟩ := List.mem_map.mp hs
          have m := (ro.mem r.1 r.2).mp hr
          have l := (List.getElem?_eq_some_iff.mp m.2).1
          rw [← e]
          exact rgI_mem.mpr ⟨m.1, by omega⟩
        rw [List.length_map, rgI_len] at this
        omega
      walk_at "go"
      refine ⟨_, _, rfl, J10.t1, rfl, ?_⟩
      walk_at "go"
      refine w_ixL J10.l5 (atR (by omega) uk) ?_
      walk_at "go"
      refine ⟨rfl, ?_⟩
      refine w_tAdd J10.t1 (by omega) ⟨u0, by omega⟩ (decide_eq_false fun z => by have := (ro.has _).mp z; omega) ?_
      have J11 := J10.turn (rows ++ [(u, (k : Int))])
      have l11 : (S10.set 1 (TurnsO a (rows ++ [(u, (k : Int))]))).length = 8 + 2 * k := by rw [List.length_set, l10]
      generalize S10.set 1 (TurnsO a (rows ++ [(u, (k : Int))])) = S11 at J11 l11 ⊢
      clear J10 l10
      have so := J11.so k (by omega)
      simp only [if_true] at so
      walk_at "go"
      refine w_ixL J11.l2 (roD_at (by omega) (by omega)) ?_
      rw [Int.toNat_natCast]
      refine ⟨_, _, rfl, so, rfl, ?_⟩
      walk_at "go"
      refine w_ixL J11.l4 (atR (by omega) tk) ?_
      walk_at "go"
      refine w_list rfl ?_
      walk_at "go"
      refine ⟨rfl, ?_⟩
      refine w_write rfl ⟨by omega, by simp⟩ so (by simp only; omega) ?_
      simp only
      rw [show min (min (tx.length : Int) (0 + 5000 - 0)) (16777215 - 0) = tx.length by omega]
      have J12 := J11.put (k := k) (by omega) ⟨0, [] ++ tx.take (tx.length : Int).toNat, 0 + (tx.length : Int), 0, [], [], false, Str.ofString "unsent"⟩
      have l12 : (S11.set (6 + 2 * k) (og a.cOutgoing k 5000 ⟨0, [] ++ tx.take (tx.length : Int).toNat, 0 + (tx.length : Int), 0, [], [], false, Str.ofString "unsent"⟩)).length = 8 + 2 * k := by rw [List.length_set, l11]
      generalize S11.set (6 + 2 * k) (og a.cOutgoing k 5000 ⟨0, [] ++ tx.take (tx.length : Int).toNat, 0 + (tx.length : Int), 0, [], [], false, Str.ofString "unsent"⟩) = S12 at J12 l12 ⊢
      clear J11 l11 so
      have so := J12.so k (by omega)
      simp only [if_true] at so
      walk_at "go"
      refine w_ixL J12.l2 (roD_at (by omega) (by omega)) ?_
      rw [Int.toNat_natCast]
      refine ⟨_, _, rfl, so, rfl, ?_⟩
      walk_at "go"
      refine ⟨rfl, ?_⟩
      refine w_finish rfl so ?_
      have J13 := J12.put (k := k) (by omega) (stA tx true 0 false)
      have es : (stA tx true 0 false) = ⟨0, [] ++ tx.take (tx.length : Int).toNat, 0 + (tx.length : Int), 0, [], [], true, Str.ofString "unsent"⟩ := by
        rw [List.nil_append, Int.toNat_natCast, List.take_length, Int.zero_add]
        rfl
      have l13 : (S12.set (6 + 2 * k) (og a.cOutgoing k 5000 (stA tx true 0 false))).length = 8 + 2 * k := by rw [List.length_set, l12]
      simp only
      rw [← es]
      refine ⟨txs ++ [tx], us ++ [u], rows ++ [(u, (k : Int))], _, _, _, _, _, _, _, _, _, _, _, _, _, _, rfl, J13, by omega, by rw [List.length_append, lt]; rfl, by rw [List.length_append, lu]; rfl, fun x hx => ?_, ?_, fun j hj => ?_⟩
      · rcases List.mem_append.mp hx with q | q
        · exact tb x q
        · rw [List.mem_singleton.mp q]
          exact tl
      · have := ro
        rw [← lu] at this
        have := this.add (u := u) ⟨u0, by omega⟩ fun j hj => svI_at hj
        rw [lu] at this
        rw [svI_succ]
        rw [show (((k + 1 : Nat) : Int)) - (n : Int) = (k : Int) + 1 - n by omega]
        exact this
      · by_cases c : j = k
        · subst c
          exact ⟨tx, by rw [← lt, List.getElem?_append_right (Nat.le_refl _), Nat.sub_self]; rfl, if_pos rfl⟩
        · obtain ⟨x, e1, e2⟩ := ho j (by omega)
          refine ⟨x, ?_, ?_⟩
          · rw [List.getElem?_append_left (List.getElem?_eq_some_iff.mp e1).1]
            exact e1
          · simp only [if_neg c]
            exact e2
    · obtain ⟨txs, us, rows, os, o9, o10, o11, o12, o13, o14, o15, o16, o17, o18, o19, o20, o21, e1, J, sl, lt, lu, tb, ro, ho⟩ := q
      subst e1
      clear j0 nl
      have txl : ∀ j, (txj txs j).length ≤ 24 := fun j => by
        unfold txj
        cases e : txs[j]? with
        | none => exact Nat.zero_le _
        | some x => exact tb x (List.mem_of_getElem? e)
      refine w_seq ?_
      refine w_frz rfl J.l5 ?_
      refine w_frz rfl (st_ne (by omega) J.l4) ?_
      refine w_frz rfl (st_ne (by omega) (st_ne (by omega) J.l3)) ?_
      refine w_frz rfl (st_ne (by omega) (st_ne (by omega) (st_ne (by omega) J.l2))) ?_
      have d0 := drw_set (n := 2) (x := SO.dead) (drw_set (n := 3) (x := SO.dead) (drw_set (n := 4) (x := SO.dead) (drw_set (n := 5) (x := SO.dead) J.d (by omega)) (by omega)) (by omega)) (by omega)
      have t0 := st_ne (x := SO.dead) (show 1 ≠ 2 by omega) (st_ne (x := SO.dead) (show 1 ≠ 3 by omega) (st_ne (x := SO.dead) (show 1 ≠ 4 by omega) (st_ne (x := SO.dead) (show 1 ≠ 5 by omega) J.t1)))
      have so0 : ∀ j, j < n → ((((S.set 5 SO.dead).set 4 SO.dead).set 3 SO.dead).set 2 SO.dead)[6 + 2 * j]? = some (og a.cOutgoing j 5000 (stA (txj txs j) true 0 false)) := fun j hj => by
        obtain ⟨x, e1, e2⟩ := ho j hj
        have : txj txs j = x := by
          unfold txj
          rw [e1]
          rfl
        rw [this, ← e2]
        exact st_ne (by omega) (st_ne (by omega) (st_ne (by omega) (st_ne (by omega) (J.so j hj))))
      have si0 : ∀ j, j < n → ((((S.set 5 SO.dead).set 4 SO.dead).set 3 SO.dead).set 2 SO.dead)[7 + 2 * j]? = some (inO a.cIncoming j s00) := fun j hj => st_ne (by omega) (st_ne (by omega) (st_ne (by omega) (st_ne (by omega) (J.si j hj))))
      have l0 : ((((S.set 5 SO.dead).set 4 SO.dead).set 3 SO.dead).set 2 SO.dead).length = 6 + 2 * n := by simp [sl]
      generalize (((S.set 5 SO.dead).set 4 SO.dead).set 3 SO.dead).set 2 SO.dead = S0 at d0 t0 so0 si0 l0 ⊢
      clear J sl
      walk_at "go"
      refine ex_r1 (by omega) (by omega) ?_
      rw [Int.toNat_natCast, ← rgI_map]
      refine w_compM D.int (fun j => D.int (j - n)) (rgI 0 n) (sz _ (by rw [rgI_len]; omega)) (fun x hx => ?_) ?_
      · refine ⟨_, rfl, ?_⟩
        walk_at "go"
        exact ⟨rfl, rfl⟩
      have esv : ((rgI 0 n).map fun j => D.int (j - n)) = (svI n n).map D.int := by
        rw [rg_range]
        unfold svI
        rw [List.map_map, List.map_map]
        refine List.map_congr_left fun j _ => ?_
        show D.int (0 + (j : Int) - n) = D.int ((j : Int) - n)
        rw [Int.zero_add]
      rw [esv]
      walk_at "go"
      rw [l0]
      have Jx : Jm a n txs us rows (svI n n) ((0 : Nat) : Int) (fun j => stA (txj txs j) true 0 false) (fun _ => s00) (fun _ => []) (S0 ++ [SO.lst ((svI n n).map D.int)]) :=
        ⟨drw_app d0, st_app t0, fun j hj => st_app (so0 j hj), fun j hj => st_app (si0 j hj), by rw [← l0]; exact st_last, fun j hj => Sx.init _, by rw [show ((0 : Nat) : Int) = (n : Int) - n by omega]; exact ro⟩
      generalize S0 ++ [SO.lst ((svI n n).map D.int)] = S1 at Jx ⊢
      clear d0 t0 so0 si0 l0 ho ro
      refine w_draw Jx.d (by omega) (by omega) fun lossy S2 d2 x2 lo0 lo1 => ?_
      have J2 := Jx.nx d2 x2
      clear Jx d2 x2
      walk_at "go"
      refine w_compM nsD (fun tx => D.int tx.length) txs (sz _ (by omega)) (fun x hx => ?_) ?_
      · refine ⟨_, rfl, ?_⟩
        walk_at "go"
        refine w_len rfl ?_
        rw [List.length_map]
        exact ⟨rfl, rfl⟩
      walk_at "go"
      refine w_sum (bs := txs.map fun t => (t.length : Int)) (by rw [List.map_map]; rfl) ?_
      have es := sum_txs txs txs.length (Nat.le_refl _)
      rw [List.take_length, lt] at es
      rw [es]
      have sm := sum_ms txs n
      have tle : (sumTo n fun j => (txj txs j).length) ≤ 24 * n := by
        have := sumTo_le (n := n) (f := fun j => (txj txs j).length) (g := fun _ => 24) fun j _ => txl j
        have c24 : ∀ m : Nat, sumTo m (fun _ => 24) = 24 * m := fun m => by
          induction m with
          | zero => rfl
          | succ m ih =>
            show sumTo m (fun _ => 24) + 24 = _
            rw [ih]
            omega
        rw [c24] at this
        exact this
      generalize (sumTo n fun j => (txj txs j).length) = tot at es sm tle ⊢
      walk_at "go"
      refine ex_r1 (by omega) (by omega) ?_
      refine w_rng (fun now σ S => Tk13 a n txs us sc size lossy tot now σ S) ⟨rows, _, _, _, _, _, _, _, _, _, _, _, _, _, _, rfl, J2, .inl (by rw [sm]; omega)⟩ (fun now σ S hnow q => ?_) fun σ S q => ?_
      · obtain ⟨rows, sv, os, is, pss, o9, o13, o14, o15, o16, o17, o18, o19, o20, o21, e1, J, hM⟩ := q
        subst e1
        clear J2 sm es
        have ro := J.ro
        have sx := J.sx
        have rl := ro.len
        have js := J.js
        clear J
        have inN : ∀ x ∈ rgI 0 n, 0 ≤ x ∧ x < (n : Int) ∧ ((x.toNat : Nat) : Int) = x ∧ x.toNat < n := fun x hx => by
          have := rgI_mem.mp hx
          omega
        walk_at "go"
        refine ex_r1 (by omega) (by omega) ?_
        rw [Int.toNat_natCast, ← rgI_map]
        refine w_compF D.int (fun k => (os k.toNat).due 1000000) D.int (rgI 0 n) [] (sz _ (by rw [List.length_nil, rgI_len]; omega)) (fun x hx => ⟨_, rfl, ?_, fun _ => ?_⟩) ?_
        · have hx := inN x hx
          walk_at "go"
          refine w_ix rfl (roD_at hx.1 hx.2.1) ?_
          refine ⟨_, _, rfl, js.so x.toNat hx.2.2.2, rfl, ?_⟩
          walk_at "go"
          refine w_powC (v := 1000000) (by decide) (by decide) ?_
          walk_at "go"
          refine ⟨rfl, ?_⟩
          refine w_is_dueG (js.so x.toNat hx.2.2.2) ?_
          walk_at "go"
          exact ⟨rfl, rfl⟩
        · walk_at "go"
          exact ⟨rfl, rfl⟩
        walk_at "go"
        rw [List.nil_append]
        have hR : ∀ x, x ∈ (rgI 0 n).filter (fun k => (os k.toNat).due 1000000) ↔ (0 ≤ x ∧ x < n) ∧ (os x.toNat).due 1000000 = true := fun x => by
          rw [List.mem_filter, rgI_mem]
          constructor
          · rintro ⟨q1, q2⟩
            exact ⟨by omega, q2⟩
          · rintro ⟨q1, q2⟩
            exact ⟨by omega, q2⟩
        have lR : ((rgI 0 n).filter (fun k => (os k.toNat).due 1000000)).length ≤ 5 := Nat.le_trans (List.length_filter_le _ _) (by rw [rgI_len]; omega)
        generalize (rgI 0 n).filter (fun k => (os k.toNat).due 1000000) = R at hR lR ⊢
        have rin : ∀ s ∈ R, 0 ≤ s ∧ s < (us.length : Int) := fun s hs => by
          have := ((hR s).mp hs).1
          omega
        refine ⟨_, _, rfl, js.t1, rfl, ?_⟩
        walk_at "go"
        refine w_list rfl ?_
        walk_at "go"
        refine ⟨rfl, ?_⟩
        refine w_first js.t1 (by omega) ?_
        cases eF : (orderR rows).filter (fun s => decide (s ∈ R)) with
        | nil =>
          have r0 := ro.none rin eF
          subst r0
          rw [show hdD [] = D.non from rfl]
          walk_at "go"
          refine w_len rfl ?_
          walk_at "go"
          refine w_dec (fun z => absurd z (by simp)) (fun _ => ?_)
          walk_at "go"
          have z0 : sumTo n (fun j => ms (txj txs j) (pss j)) = 0 := sumTo_zero.mpr fun j hj => by
            apply Classical.byContradiction
            intro c
            have := (Sx.pos (sx j hj) (Nat.le_trans (txl j) (by omega))).mpr (by omega)
            have := (hR (j : Int)).mpr ⟨by omega, by rw [Int.toNat_natCast]; exact this⟩
            cases this
          exact ⟨rows, sv, os, is, pss, _, _, _, _, _, _, _, _, _, _, rfl, ⟨js.d, js.t1, js.so, js.si, js.v, sx, by rw [show (((now + 1 : Nat)) : Int) = (now : Int) + 1 by omega]; exact ro.tick⟩, .inr z0⟩
        | cons f fs =>
          obtain ⟨fR, frel⟩ := ro.first rin eF
          rw [show hdD (f :: fs) = D.int f from rfl]
          have hf := (hR f).mp fR
          have fn : f.toNat < n := by omega
          have fi : ((f.toNat : Nat) : Int) = f := by omega
          have usf : us[f.toNat]? = some (uAt us f) := by
            unfold uAt
            rw [List.getElem?_eq_getElem (show f.toNat < us.length by omega)]
            rfl
          have svn : sv.length = n := by rw [ro.svl, lu]
          have svf : sv[f.toNat]? = some (uAt sv f) := by
            unfold uAt
            rw [List.getElem?_eq_getElem (show f.toNat < sv.length by omega)]
            rfl
          have uso : ∀ x ∈ R, us[x.toNat]? = some (uAt us x) ∧ sv[x.toNat]? = some (uAt sv x) := fun x hx => by
            have := ((hR x).mp hx).1
            unfold uAt
            rw [List.getElem?_eq_getElem (show x.toNat < us.length by omega), List.getElem?_eq_getElem (show x.toNat < sv.length by omega)]
            exact ⟨rfl, rfl⟩
          walk_at "go"
          refine w_inI1 R rfl ?_
          rw [decide_eq_true fR]
          walk_at "go"
          refine w_compM D.int (fun k => D.bl (decide (uAt us k < uAt us f))) R (sz _ (by omega)) (fun x hx => ?_) ?_
          · have hx0 := (hR x).mp hx
            refine ⟨_, rfl, ?_⟩
            walk_at "go"
            refine w_ix rfl (atR hx0.1.1 (uso x hx).1) ?_
            walk_at "go"
            refine w_ix rfl (atR hf.1.1 usf) ?_
            walk_at "go"
            exact ⟨rfl, rfl⟩
          walk_at "go"
          refine w_anyL (bs := R.map fun k => decide (uAt us k < uAt us f)) (by rw [List.map_map]; rfl) ?_
          have a1 : (R.map fun k => decide (uAt us k < uAt us f)).any id = false := by
            rw [List.any_map, List.any_eq_false]
            intro x hx z
            have z := of_decide_eq_true z
            rcases frel x hx with q | q
            · rw [q] at z
              omega
            · have := q _ _ _ _ usf (uso x hx).1 svf (uso x hx).2
              omega
          rw [a1]
          walk_at "go"
          refine w_compF D.int (fun k => decide (uAt us k = uAt us f) && !decide (k = f)) D.int R [] (sz _ (by rw [List.length_nil]; omega)) (fun x hx => ⟨_, rfl, ?_, fun _ => ?_⟩) ?_
          · have hx0 := (hR x).mp hx
            walk_at "go"
            refine w_ix rfl (atR hx0.1.1 (uso x hx).1) ?_
            walk_at "go"
            refine w_ix rfl (atR hf.1.1 usf) ?_
            walk_at "go"
            refine w_dec (fun z => ?_) (fun z => ?_)
            · walk_at "go"
              exact ⟨by rw [decide_eq_true z, Bool.true_and], rfl⟩
            · walk_at "go"
              exact ⟨by rw [decide_eq_false z, Bool.false_and], rfl⟩
          · walk_at "go"
            exact ⟨rfl, rfl⟩
          walk_at "go"
          rw [List.nil_append]
          have hO : ∀ x, x ∈ R.filter (fun k => decide (uAt us k = uAt us f) && !decide (k = f)) → x ∈ R ∧ uAt us x = uAt us f ∧ x ≠ f := fun x hx => by
            obtain ⟨q1, q2⟩ := List.mem_filter.mp hx
            simp at q2
            exact ⟨q1, q2.1, q2.2⟩
          have lO : (R.filter (fun k => decide (uAt us k = uAt us f) && !decide (k = f))).length ≤ 5 := Nat.le_trans (List.length_filter_le _ _) lR
          generalize R.filter (fun k => decide (uAt us k = uAt us f) && !decide (k = f)) = O at hO lO ⊢
          refine w_compM D.int (fun k => D.bl (decide (uAt sv k < uAt sv f))) O (sz _ (by omega)) (fun x hx => ?_) ?_
          · have hx0 := (hR x).mp (hO x hx).1
            refine ⟨_, rfl, ?_⟩
            walk_at "go"
            refine w_ixL js.v (atR hx0.1.1 (uso x (hO x hx).1).2) ?_
            walk_at "go"
            refine w_ixL js.v (atR hf.1.1 svf) ?_
            walk_at "go"
            exact ⟨rfl, rfl⟩
          walk_at "go"
          refine w_anyL (bs := O.map fun k => decide (uAt sv k < uAt sv f)) (by rw [List.map_map]; rfl) ?_
          have a2 : (O.map fun k => decide (uAt sv k < uAt sv f)).any id = false := by
            rw [List.any_map, List.any_eq_false]
            intro x hx z
            have z := of_decide_eq_true z
            have ox := hO x hx
            rcases frel x ox.1 with q | q
            · exact ox.2.2 q
            · have := q _ _ _ _ usf (uso x ox.1).1 svf (uso x ox.1).2
              omega
          rw [a2]
          walk_at "go"
          have hN : (txj txs f.toNat).length ≤ 90 := Nat.le_trans (txl _) (by omega)
          have sf := sx f.toNat fn
          have iv := sf.iv
          have b0 := iv.b0
          have tk := iv.tk
          have N3 : ((txj txs f.toNat).length : Int) ≤ 3000 := by omega
          refine ex_putL js.v hf.1.1 (by rw [List.length_map]; omega) ?_
          rw [show (0 : Int) + (now : Int) = (now : Int) by omega, show (sv.map D.int).set f.toNat (.int (now : Int)) = (sv.set f.toNat (now : Int)).map D.int by rw [List.map_set]]
          have js2 := js.svs (sv.set f.toNat (now : Int))
          generalize S.set (6 + 2 * n) (.lst ((sv.set f.toNat (now : Int)).map D.int)) = S3 at js2 ⊢
          clear js
          walk_at "go"
          refine w_ix rfl (roD_at hf.1.1 hf.1.2) ?_
          refine ⟨_, _, rfl, js2.so f.toNat fn, rfl, ?_⟩
          walk_at "go"
          refine w_powC (v := 1000000) (by decide) (by decide) ?_
          walk_at "go"
          refine ⟨rfl, ?_⟩
          obtain ⟨lo, hi, pk, b1, b2, b3, b4, b5, b6, b7⟩ := sf.next hN hf.2 sz0.1
          obtain ⟨iv1, pk1, _, _, _⟩ := iv_piece iv b1 b2 (by omega)
          have ll : (os f.toNat).lost.length ≤ 3000 := iv.ll N3
          have pis := piece_is sf.kept b0 iv.fin tk b1 b2
          rw [pis] at pk1
          obtain ⟨pe, _, _⟩ := pcOf_end (tx := txj txs f.toNat) (c := lo) (h := hi) (by omega) b2 b3
          refine w_nextP (by omega) (js2.so f.toNat fn) pk ⟨b1, b2⟩ fun S4 ch k1 => ?_
          rw [pis]
          have js4 := js2.out fn ch k1
          clear js2
          walk_at "go"
          refine w_ix (ds := pcs (f.toNat : Nat) (pcOf (txj txs f.toNat) lo hi)) rfl (y := .int (f.toNat : Nat)) rfl ?_
          rw [fi]
          walk_at "go"
          refine w_ix (ds := pcs f (pcOf (txj txs f.toNat) lo hi)) rfl (y := .tup ((pcOf (txj txs f.toNat) lo hi).os.map D.int)) rfl ?_
          walk_at "go"
          refine w_len rfl ?_
          rw [List.length_map, pe]
          walk_at "go"
          refine w_dec (fun z => absurd z (by omega)) (fun _ => ?_)
          walk_at "go"
          refine ⟨_, _, rfl, js4.t1, rfl, ?_⟩
          walk_at "go"
          refine ⟨rfl, ?_⟩
          refine w_served js4.t1 (by omega) (decide_eq_true ((ro.has f).mpr (rin f fR))) ?_
          have js5 := js4.turn (dropT rows f ++ mineT rows f)
          generalize S4.set 1 (TurnsO a (dropT rows f ++ mineT rows f)) = S5 at js5 ⊢
          clear js4
          have ro' := ro.serve hf.1.1
          have en : (now : Int) + 1 = ((now + 1 : Nat) : Int) := by omega
          rw [en] at ro'
          walk_at "go1"
          refine WE.mono (Q := fun b S6 => Js a n (dropT rows f ++ mineT rows f) (sv.set f.toNat (now : Int)) (upd1 os f.toNat ((os f.toNat).piece lo hi)) is S6 ∧ (b = true → (now : Int) < lossy)) ?_ fun b S6 ⟨js6, hb⟩ => ⟨fun hbt => ?_, fun _ => ?_⟩
          · walk_at "go"
            refine w_dec (fun z => ?_) (fun z => ?_)
            · walk_at "go"
              refine w_draw js5.d (by omega) (by omega) fun y S6 d6 x6 _ _ => ?_
              walk_at "go"
              exact ⟨js5.nx d6 x6, fun _ => z⟩
            · exact ⟨js5, fun z => by cases z⟩
          · have lt := hb hbt
            clear js5
            have k6 := js6.so f.toNat fn
            rw [upd1_same, fi] at k6
            walk_at "go"
            refine w_ix rfl (roD_at hf.1.1 hf.1.2) ?_
            refine ⟨_, _, rfl, k6, rfl, ?_⟩
            walk_at "go"
            refine ⟨rfl, ?_⟩
            have l1 : ((os f.toNat).piece lo hi).lost.length ≤ 3000 := iv1.ll N3
            have l2 := due_len iv1 pk1 N3
            refine w_lost (by omega) (fun c pre post e => Nat.le_trans (due_pre iv1 pk1 N3 c pre post e) (by omega)) (fun pre post e => Nat.le_trans (lost_pre iv1 pk1 N3 pre post e) (by omega)) k6 fun S7 ch7 k7 => ?_
            have js7 := js6.out fn ch7 (by rw [fi]; exact k7)
            walk_at "go"
            refine ⟨_, _, _, is, pss, _, _, _, _, _, _, _, _, _, _, rfl, ⟨js7.d, js7.t1, js7.so, js7.si, js7.v, fun j hj => ?_, ro'⟩, ?_⟩
            · by_cases q : j = f.toNat
              · subst q
                rw [upd1_same]
                exact sf.lostS b1 b2 b3 b4
              · rw [upd1_ne q, upd1_ne q]
                exact sx j hj
            · rcases hM with q | q
              · exact .inl (by omega)
              · exact .inr q
          · clear js5
            have k6 := js6.so f.toNat fn
            rw [upd1_same, fi] at k6
            obtain ⟨gs, gb⟩ := sf.gotS hN b1 b2 b3 b4
            have isp : IsP (txj txs f.toNat) (pcOf (txj txs f.toNat) lo hi) := ⟨lo, hi, rfl, by omega, b2, b3⟩
            walk_at "go"
            refine w_ix rfl (roD_at hf.1.1 hf.1.2) ?_
            refine ⟨_, _, rfl, k6, rfl, ?_⟩
            walk_at "go"
            refine ⟨rfl, ?_⟩
            have l1 : ((os f.toNat).piece lo hi).lost.length ≤ 3000 := iv1.ll N3
            have l2 : ((os f.toNat).piece lo hi).got.length ≤ 3000 := iv1.gl N3
            refine w_got ⟨by omega, by omega⟩ gb k6 fun S7 ch7 k7 => ?_
            have js7 := js6.out fn ch7 (by rw [fi]; exact k7)
            have i7 := js7.si f.toNat fn
            rw [fi] at i7
            walk_at "go"
            refine w_ix rfl (riD_at hf.1.1 hf.1.2) ?_
            refine ⟨_, _, rfl, i7, rfl, ?_⟩
            walk_at "go"
            refine w_copy 4 _ _ _ (pl_pcS (isp.len hN)) ?_
            walk_at "go"
            refine ⟨rfl, ?_⟩
            refine w_itake (fun _ => sf.rd.takeB hN isp) i7 (fun hw => absurd (sf.rd.wrong hN isp) hw) (fun _ S8 ch8 k8 => ?_)
            have js8 := js7.into fn ch8 (by rw [fi]; exact k8)
            walk_at "go"
            have dec := ms_got (tx := txj txs f.toNat) (ps := pss f.toNat) (by omega) b2 b3 b6 b7
            have lt := sumTo_lt (n := n) (j := f.toNat) (f := fun j => ms (txj txs j) (pss j)) (g := fun j => ms (txj txs j) (upd1 pss f.toNat (pss f.toNat ++ [pcOf (txj txs f.toNat) lo hi]) j)) fn (fun k _ hk => by rw [upd1_ne hk]) (by rw [upd1_same]; exact dec)
            refine ⟨_, _, _, _, upd1 pss f.toNat (pss f.toNat ++ [pcOf (txj txs f.toNat) lo hi]), _, _, _, _, _, _, _, _, _, _, rfl, ⟨js8.d, js8.t1, js8.so, js8.si, js8.v, fun j hj => ?_, ro'⟩, ?_⟩
            · by_cases q : j = f.toNat
              · subst q
                rw [upd1_same, upd1_same, upd1_same]
                exact gs
              · rw [upd1_ne q, upd1_ne q, upd1_ne q, upd1_ne q]
                exact sx j hj
            · rcases hM with q | q
              · exact .inl (by omega)
              · omega
      · obtain ⟨rows, sv, os, is, pss, o9, o13, o14, o15, o16, o17, o18, o19, o20, o21, e1, J, hM⟩ := q
        subst e1
        clear J2 sm es
        have m0 : sumTo n (fun j => ms (txj txs j) (pss j)) = 0 := by
          rcases hM with q | q
          · omega
          · exact q
        have sx := J.sx
        have js := J.js
        clear J hM
        have fin := fun j hj => (sx j hj).fin (Nat.le_trans (txl j) (by omega)) (sumTo_zero.mp m0 j hj)
        walk_at "go"
        refine w_comp (fun i acc S' => acc = (txs.take i).map nsD ∧ ∃ is', Js a n rows sv os is' S' ∧ (∀ j, j < n → i ≤ j → is' j = is j) ∧ ∀ j, j < n → j < i → (is' j).over = true) (riD n) 0 [] S (by rw [riD_len, List.length_nil]; exact sz _ (by omega)) ⟨rfl, is, js, fun j _ _ => rfl, fun j _ hj => absurd hj (Nat.not_lt_zero j)⟩ (fun j d acc S2 hj ⟨e1, is', js2, h1, h2⟩ => ?_) fun acc S2 ⟨e1, is', js2, h1, h2⟩ => ?_
        · have hjn : j < n := by
            have := (List.getElem?_eq_some_iff.mp hj).1
            rwa [riD_len] at this
          have ed : d = .ref (7 + 2 * j) := by
            unfold riD at hj
            rw [List.getElem?_map, List.getElem?_range hjn] at hj
            exact (Option.some.inj hj).symm
          subst ed
          rw [Nat.zero_add] at e1 h1 h2
          have hN : (txj txs j).length ≤ 90 := Nat.le_trans (txl j) (by omega)
          obtain ⟨_, f2, f3, f4⟩ := fin j hjn
          have rd := (sx j hjn).rd
          have lens := rd.lens hN
          have i7 := js2.si j hjn
          rw [h1 j hjn (Nat.le_refl _)] at i7
          refine ⟨_, _, rfl, ?_⟩
          walk_at "go"
          refine ⟨_, _, rfl, i7, rfl, ?_⟩
          walk_at "go"
          refine ⟨rfl, ?_⟩
          refine w_iread (by omega) (rd.ok hN).1 (by omega) ⟨by omega, by omega⟩ i7 fun S3 ch3 k3 => ?_
          rw [f2]
          have tj : txs[j]? = some (txj txs j) := by
            unfold txj
            rw [List.getElem?_eq_getElem (show j < txs.length by omega)]
            rfl
          refine ⟨?_, upd1 is' j ((is j).readS 5000), js2.into hjn ch3 k3, fun i hi hij => ?_, fun i hi hij => ?_⟩
          · rw [Nat.zero_add, e1, List.take_succ, tj, List.map_append]
            rfl
          · rw [upd1_ne (by omega)]
            exact h1 i hi (by omega)
          · by_cases q : i = j
            · subst q
              rw [upd1_same]
              exact f3
            · rw [upd1_ne q]
              exact h2 i hi (by omega)
        · rw [riD_len, Nat.zero_add] at e1 h2
          rw [List.take_of_length_le (by omega)] at e1
          subst e1
          walk_at "go"
          with_reducible refine w_same 5 _ _ _ ?_ ?_
          · refine pl_list (by rw [List.length_map]; omega) fun d hd => ?_
            obtain ⟨x, hx, e⟩ := List.mem_map.mp hd
            subst e
            exact pl_ns (Nat.le_trans (tb x hx) (by omega))
          walk_at "go"
          refine ex_r1 (by omega) (by omega) ?_
          rw [Int.toNat_natCast, ← rgI_map]
          refine w_compM D.int (fun _ => D.bl true) (rgI 0 n) (sz _ (by rw [rgI_len]; omega)) (fun x hx => ?_) ?_
          · have hx := rgI_mem.mp hx
            have xn : x.toNat < n := by omega
            refine ⟨_, rfl, ?_⟩
            walk_at "go"
            refine w_ix rfl (roD_at hx.1 (by omega)) ?_
            refine ⟨_, _, rfl, js2.so x.toNat xn, rfl, ?_⟩
            walk_at "go"
            refine ⟨rfl, ?_⟩
            refine w_is_done (js2.so x.toNat xn) ?_
            rw [(fin x.toNat xn).1]
            walk_at "go"
            refine w_ix rfl (riD_at hx.1 (by omega)) ?_
            refine ⟨_, _, rfl, js2.si x.toNat xn, rfl, ?_⟩
            walk_at "go"
            refine ⟨rfl, ?_⟩
            refine w_iover (js2.si x.toNat xn) ?_
            rw [h2 x.toNat xn xn]
            exact ⟨rfl, rfl⟩
          walk_at "go"
          refine w_all (bs := (rgI 0 n).map fun _ => true) (by rw [List.map_map]; rfl) ?_
          rw [show ((rgI 0 n).map fun _ => true).all id = true by rw [List.all_map, List.all_eq_true]; exact fun _ _ => rfl]
  obtain ⟨d, S', e, rfl⟩ := key.ex
  exact ⟨S', e⟩


end L13
set_option maxHeartbeats 0
open PySem PySem.W PyProof.Rows in
set_option maxRecDepth 100000 in
set_option maxHeartbeats 0 in
theorem PySem.Challenge.cw_fairwire_k13_streams_that_share_a_wire_holds : PySem.Challenge.rw_fairwire_k13_streams_that_share_a_wire.Holds := by
  w_on; o_law; k_head; (case hw => w_witness2)
  k_fill
  refine L13.walk (l := PySem.Challenge.rw_fairwire_k13_streams_that_share_a_wire) L13.goal rfl rfl (fun w h Y => PySem.W.kIn_of Y) ?F
  case F =>
    intro w mg fa h KX G hmg
    refine' L13.all_mk KX G hmg ?aC_Turns ?pg_Turns ?hd_Turns ?po_Turns ?sa_Turns ?mk_Turns ?kc_Turns ?n_Turns_rows ?aC_Incoming ?pg_Incoming ?hd_Incoming ?po_Incoming ?sa_Incoming ?mk_Incoming ?kc_Incoming ?n_Incoming_stream ?n_Incoming_room ?n_Incoming_upto ?n_Incoming_read_upto ?n_Incoming_greatest ?n_Incoming_end ?n_Incoming_come ?n_Incoming_parts ?aC_Outgoing ?pg_Outgoing ?hd_Outgoing ?po_Outgoing ?sa_Outgoing ?mk_Outgoing ?kc_Outgoing ?n_Outgoing_stream ?n_Outgoing_keep ?n_Outgoing_base ?n_Outgoing_kept ?n_Outgoing_taken ?n_Outgoing_sent ?n_Outgoing_got_ranges ?n_Outgoing_lost_ranges ?n_Outgoing_finished ?n_Outgoing_last ?a1 ?l1 ?c1 ?k1 ?a2 ?l2 ?c2 ?k2 ?a3 ?i3 ?l3 ?c3 ?k3 ?a4 ?i4 ?l4 ?c4 ?k4 ?a5 ?i5 ?l5 ?c5 ?k5 ?a6 ?i6 ?l6 ?c6 ?k6 ?a7 ?i7 ?l7 ?c7 ?k7 ?a8 ?i8 ?l8 ?c8 ?k8 ?a9 ?i9 ?l9 ?c9 ?k9 ?a10 ?l10 ?c10 ?k10 ?a11 ?l11 ?c11 ?k11 ?a12 ?l12 ?c12 ?k12 ?a13 ?l13 ?c13 ?k13 ?a14 ?i14 ?l14 ?c14 ?k14 ?a15 ?i15 ?l15 ?c15 ?k15 ?a16 ?i16 ?l16 ?c16 ?k16 ?a17 ?i17 ?l17 ?c17 ?k17 ?a18 ?i18 ?l18 ?c18 ?k18 ?a19 ?i19 ?l19 ?c19 ?k19 ?a20 ?i20 ?l20 ?c20 ?k20 ?a21 ?i21 ?l21 ?c21 ?k21 ?a22 ?i22 ?l22 ?c22 ?k22 ?a23 ?i23 ?l23 ?c23 ?k23 ?a24 ?i24 ?l24 ?c24 ?k24 ?a25 ?i25 ?l25 ?c25 ?k25 ?a26 ?i26 ?l26 ?c26 ?k26 ?a27 ?i27 ?l27 ?c27 ?k27 ?a28 ?i28 ?l28 ?c28 ?k28 ?a29 ?i29 ?l29 ?c29 ?k29 ?a30 ?i30 ?l30 ?c30 ?k30 ?a31 ?i31 ?l31 ?c31 ?k31 ?a32 ?i32 ?l32 ?c32 ?k32 ?a33 ?i33 ?l33 ?c33 ?k33 ?a34 ?l34 ?c34 ?k34 ?a35 ?l35 ?c35 ?k35 ?a36 ?l36 ?c36 ?k36 ?a37 ?l37 ?c37 ?k37 ?a38 ?l38 ?c38 ?k38 ?z_all ?z_any ?z_bool ?z_dict ?z_int ?z_isinstance ?z_len ?z_list ?z_max ?z_min ?z_range ?z_sorted ?z_str ?z_sum ?z_tuple ?g_FURTHEST ?g_LAST
    (case aC_Turns => k_is)
    (case pg_Turns => k_is)
    (case hd_Turns => k_is)
    (case po_Turns => k_is)
    (case sa_Turns => k_is)
    (case mk_Turns => k_is)
    (case kc_Turns => k_is)
    (case n_Turns_rows => k_is)
    (case aC_Incoming => k_is)
    (case pg_Incoming => k_is)
    (case hd_Incoming => k_is)
    (case po_Incoming => k_is)
    (case sa_Incoming => k_is)
    (case mk_Incoming => k_is)
    (case kc_Incoming => k_is)
    (case n_Incoming_stream => k_is)
    (case n_Incoming_room => k_is)
    (case n_Incoming_upto => k_is)
    (case n_Incoming_read_upto => k_is)
    (case n_Incoming_greatest => k_is)
    (case n_Incoming_end => k_is)
    (case n_Incoming_come => k_is)
    (case n_Incoming_parts => k_is)
    (case aC_Outgoing => k_is)
    (case pg_Outgoing => k_is)
    (case hd_Outgoing => k_is)
    (case po_Outgoing => k_is)
    (case sa_Outgoing => k_is)
    (case mk_Outgoing => k_is)
    (case kc_Outgoing => k_is)
    (case n_Outgoing_stream => k_is)
    (case n_Outgoing_keep => k_is)
    (case n_Outgoing_base => k_is)
    (case n_Outgoing_kept => k_is)
    (case n_Outgoing_taken => k_is)
    (case n_Outgoing_sent => k_is)
    (case n_Outgoing_got_ranges => k_is)
    (case n_Outgoing_lost_ranges => k_is)
    (case n_Outgoing_finished => k_is)
    (case n_Outgoing_last => k_is)
    (case a1 => k_is)
    (case l1 => k_is)
    (case c1 => k_is)
    (case k1 => k_is)
    (case a2 => k_is)
    (case l2 => k_is)
    (case c2 => k_is)
    (case k2 => k_is)
    (case a3 => k_is)
    (case i3 => k_is)
    (case l3 => k_is)
    (case c3 => k_is)
    (case k3 => k_is)
    (case a4 => k_is)
    (case i4 => k_is)
    (case l4 => k_is)
    (case c4 => k_is)
    (case k4 => k_is)
    (case a5 => k_is)
    (case i5 => k_is)
    (case l5 => k_is)
    (case c5 => k_is)
    (case k5 => k_is)
    (case a6 => k_is)
    (case i6 => k_is)
    (case l6 => k_is)
    (case c6 => k_is)
    (case k6 => k_is)
    (case a7 => k_is)
    (case i7 => k_is)
    (case l7 => k_is)
    (case c7 => k_is)
    (case k7 => k_is)
    (case a8 => k_is)
    (case i8 => k_is)
    (case l8 => k_is)
    (case c8 => k_is)
    (case k8 => k_is)
    (case a9 => k_is)
    (case i9 => k_is)
    (case l9 => k_is)
    (case c9 => k_is)
    (case k9 => k_is)
    (case a10 => k_is)
    (case l10 => k_is)
    (case c10 => k_is)
    (case k10 => k_is)
    (case a11 => k_is)
    (case l11 => k_is)
    (case c11 => k_is)
    (case k11 => k_is)
    (case a12 => k_is)
    (case l12 => k_is)
    (case c12 => k_is)
    (case k12 => k_is)
    (case a13 => k_is)
    (case l13 => k_is)
    (case c13 => k_is)
    (case k13 => k_is)
    (case a14 => k_is)
    (case i14 => k_is)
    (case l14 => k_is)
    (case c14 => k_is)
    (case k14 => k_is)
    (case a15 => k_is)
    (case i15 => k_is)
    (case l15 => k_is)
    (case c15 => k_is)
    (case k15 => k_is)
    (case a16 => k_is)
    (case i16 => k_is)
    (case l16 => k_is)
    (case c16 => k_is)
    (case k16 => k_is)
    (case a17 => k_is)
    (case i17 => k_is)
    (case l17 => k_is)
    (case c17 => k_is)
    (case k17 => k_is)
    (case a18 => k_is)
    (case i18 => k_is)
    (case l18 => k_is)
    (case c18 => k_is)
    (case k18 => k_is)
    (case a19 => k_is)
    (case i19 => k_is)
    (case l19 => k_is)
    (case c19 => k_is)
    (case k19 => k_is)
    (case a20 => k_is)
    (case i20 => k_is)
    (case l20 => k_is)
    (case c20 => k_is)
    (case k20 => k_is)
    (case a21 => k_is)
    (case i21 => k_is)
    (case l21 => k_is)
    (case c21 => k_is)
    (case k21 => k_is)
    (case a22 => k_is)
    (case i22 => k_is)
    (case l22 => k_is)
    (case c22 => k_is)
    (case k22 => k_is)
    (case a23 => k_is)
    (case i23 => k_is)
    (case l23 => k_is)
    (case c23 => k_is)
    (case k23 => k_is)
    (case a24 => k_is)
    (case i24 => k_is)
    (case l24 => k_is)
    (case c24 => k_is)
    (case k24 => k_is)
    (case a25 => k_is)
    (case i25 => k_is)
    (case l25 => k_is)
    (case c25 => k_is)
    (case k25 => k_is)
    (case a26 => k_is)
    (case i26 => k_is)
    (case l26 => k_is)
    (case c26 => k_is)
    (case k26 => k_is)
    (case a27 => k_is)
    (case i27 => k_is)
    (case l27 => k_is)
    (case c27 => k_is)
    (case k27 => k_is)
    (case a28 => k_is)
    (case i28 => k_is)
    (case l28 => k_is)
    (case c28 => k_is)
    (case k28 => k_is)
    (case a29 => k_is)
    (case i29 => k_is)
    (case l29 => k_is)
    (case c29 => k_is)
    (case k29 => k_is)
    (case a30 => k_is)
    (case i30 => k_is)
    (case l30 => k_is)
    (case c30 => k_is)
    (case k30 => k_is)
    (case a31 => k_is)
    (case i31 => k_is)
    (case l31 => k_is)
    (case c31 => k_is)
    (case k31 => k_is)
    (case a32 => k_is)
    (case i32 => k_is)
    (case l32 => k_is)
    (case c32 => k_is)
    (case k32 => k_is)
    (case a33 => k_is)
    (case i33 => k_is)
    (case l33 => k_is)
    (case c33 => k_is)
    (case k33 => k_is)
    (case a34 => k_is)
    (case l34 => k_is)
    (case c34 => k_is)
    (case k34 => k_is)
    (case a35 => k_is)
    (case l35 => k_is)
    (case c35 => k_is)
    (case k35 => k_is)
    (case a36 => k_is)
    (case l36 => k_is)
    (case c36 => k_is)
    (case k36 => k_is)
    (case a37 => k_is)
    (case l37 => k_is)
    (case c37 => k_is)
    (case k37 => k_is)
    (case a38 => k_is)
    (case l38 => k_is)
    (case c38 => k_is)
    (case k38 => k_is)
    (case z_all => k_is)
    (case z_any => k_is)
    (case z_bool => k_is)
    (case z_dict => k_is)
    (case z_int => k_is)
    (case z_isinstance => k_is)
    (case z_len => k_is)
    (case z_list => k_is)
    (case z_max => k_is)
    (case z_min => k_is)
    (case z_range => k_is)
    (case z_sorted => k_is)
    (case z_str => k_is)
    (case z_sum => k_is)
    (case z_tuple => k_is)
    (case g_FURTHEST => k_is)
    (case g_LAST => k_is)
