import PyProof.Rows.All
import Wide.All
import OpenK.AllK
import Wide.FinOn
import HandS.ForMost
import HandS.IsInst
import HandS.CallSlots
import HandS.WordsExc
import HandS.NoneIn
import HandS.TupAny
import HandS.Wide
import HandS.Style
import HandS.Deep
import HandS.RaiseMore
import HandS.StrMore
import PySem.Challenge.RW_addednames_k02_names_and_things
set_option Elab.async false
set_option maxRecDepth 100000
set_option autoImplicit false
/-! Plain data, what stands for it on the abstract heap, and how a piece of code is read as a plain function. -/
namespace AN
open PySem L2

/-- plain data -/
inductive D where
  | non
  | bl (b : Bool)
  | int (i : Int)
  | str (s : Str)
  | lst (xs : List D)
  | tup (xs : List D)
  | dic (kvs : List (Key × D))
  | obj (c : String) (fs : List (Str × D))
  deriving Inhabited

/-- the content of an object that one name alone holds -/
inductive O where
  | lst (xs : List D)
  | dic (kvs : List (Key × D))
  | obj (c : String) (fs : List (Str × D))
  deriving Inhabited
def O.toD : O → D
  | .lst xs => .lst xs
  | .dic kvs => .dic kvs
  | .obj c fs => .obj c fs

/-- what a name holds: nothing known; data that never changes; an object that this name alone holds (pinned: a parameter's) -/
inductive Slot where
  | no
  | fz (d : D)
  | ow (pin : Bool) (o : O)
  deriving Inhabited
abbrev Env := List Slot
/-- an operand: data, or the object of a name -/
inductive Opd where
  | d (d : D)
  | sl (i : Nat)
  deriving Inhabited

inductive R (α : Type) where
  | ok (a : α) (e : Env)
  | exc (c : String) (d : D) (e : Env)
  | bad
abbrev M (α : Type) := Env → R α
def M.bind {α β : Type} (m : M α) (k : α → M β) : M β := fun e => match m e with
  | .ok a e' => k a e'
  | .exc c d e' => .exc c d e'
  | .bad => .bad
def M.pure {α : Type} (a : α) : M α := fun e => .ok a e

/-- the written part, the own classes and the own errors by name -/
structure Bx where
  K : PySem.W.Frag
  cls : String → Option Addr
  exc : String → Option (Addr × Str)

def nil : Hp := fun _ => none
def LAt (B : Bx) (F : Hp) (p : Addr) (vs : List V) : Prop := F p = some (.lst vs) ∨ SqL B.K nil p vs
/-- a text that may be: not too long, its signs code points -/
def okS (s : Str) : Prop := s.length ≤ sizeLine ∧ PyData.strOk s = true
def TAt (B : Bx) (F : Hp) (p : Addr) (vs : List V) : Prop := F p = some (.tup vs) ∨ SqT B.K nil p vs

mutual
def Rep (B : Bx) (F : Hp) : D → V → Prop
  | .non, v => v = .non
  | .bl b, v => v = .bl b
  | .int i, v => v = .int i
  | .str s, v => v = .str s ∧ okS s
  | .lst xs, v => ∃ p vs, v = .ref p ∧ LAt B F p vs ∧ xs.length ≤ sizeLine ∧ RepL B F xs vs
  | .tup xs, v => ∃ p vs, v = .ref p ∧ TAt B F p vs ∧ xs.length ≤ sizeLine ∧ RepL B F xs vs
  | .dic kvs, v => ∃ p ks, v = .ref p ∧ F p = some (.dK ks) ∧ kvs.length ≤ sizeLine ∧ RepK B F kvs ks
  | .obj c fs, v => ∃ p C dx gs, v = .ref p ∧ B.cls c = some C ∧ F p = some (.ins C dx gs) ∧ RepF B F fs gs
def RepL (B : Bx) (F : Hp) : List D → List V → Prop
  | [], vs => vs = []
  | d :: ds, vs => ∃ v r, vs = v :: r ∧ Rep B F d v ∧ RepL B F ds r
def RepK (B : Bx) (F : Hp) : List (Key × D) → List (Key × V) → Prop
  | [], vs => vs = []
  | (k, d) :: ds, vs => ∃ v r, vs = (k, v) :: r ∧ Rep B F d v ∧ RepK B F ds r
def RepF (B : Bx) (F : Hp) : List (Str × D) → List (Str × V) → Prop
  | [], vs => vs = []
  | (k, d) :: ds, vs => ∃ v r, vs = (k, v) :: r ∧ Rep B F d v ∧ RepF B F ds r
end

def Le (F F' : Hp) : Prop := ∀ b u, F b = some u → F' b = some u
theorem Le.refl (F : Hp) : Le F F := fun _ _ h => h
theorem Le.trans {F F1 F2 : Hp} (a : Le F F1) (b : Le F1 F2) : Le F F2 := fun p u h => b p u (a p u h)
theorem Le.upd {F : Hp} {p : Addr} {o : HO} (h : F p = none) : Le F (upd F p o) := fun b u e => by
  rw [upd_ne (ne_of_none e h)]; exact e
theorem LAt.mono {B : Bx} {F F' : Hp} {p : Addr} {vs : List V} (l : Le F F') (h : LAt B F p vs) : LAt B F' p vs := h.imp (l _ _) id
theorem TAt.mono {B : Bx} {F F' : Hp} {p : Addr} {vs : List V} (l : Le F F') (h : TAt B F p vs) : TAt B F' p vs := by
  rcases h with h | h
  · exact .inl (l _ _ h)
  · exact .inr h

mutual
theorem Rep.mono {B : Bx} {F F' : Hp} (l : Le F F') : ∀ (d : D) (v : V), Rep B F d v → Rep B F' d v
  | .non, _, h => by simpa [Rep] using h
  | .bl _, _, h => by simpa [Rep] using h
  | .int _, _, h => by simpa [Rep] using h
  | .str _, _, h => by simpa [Rep] using h
  | .lst xs, v, h => by
    obtain ⟨p, vs, e, a, z, r⟩ := h
    exact ⟨p, vs, e, a.mono l, z, RepL.mono l xs vs r⟩
  | .tup xs, v, h => by
    obtain ⟨p, vs, e, a, z, r⟩ := h
    exact ⟨p, vs, e, a.mono l, z, RepL.mono l xs vs r⟩
  | .dic kvs, v, h => by
    obtain ⟨p, vs, e, a, z, r⟩ := h
    exact ⟨p, vs, e, l _ _ a, z, RepK.mono l kvs vs r⟩
  | .obj c fs, v, h => by
    obtain ⟨p, C, dx, gs, e, hc, a, r⟩ := h
    exact ⟨p, C, dx, gs, e, hc, l _ _ a, RepF.mono l fs gs r⟩
theorem RepL.mono {B : Bx} {F F' : Hp} (l : Le F F') : ∀ (ds : List D) (vs : List V), RepL B F ds vs → RepL B F' ds vs
  | [], _, h => h
  | d :: ds, vs, h => by
    obtain ⟨v, r, e, h1, h2⟩ := h
    exact ⟨v, r, e, Rep.mono l d v h1, RepL.mono l ds r h2⟩
theorem RepK.mono {B : Bx} {F F' : Hp} (l : Le F F') : ∀ (ds : List (Key × D)) (vs : List (Key × V)), RepK B F ds vs → RepK B F' ds vs
  | [], _, h => h
  | (k, d) :: ds, vs, h => by
    obtain ⟨v, r, e, h1, h2⟩ := h
    exact ⟨v, r, e, Rep.mono l d v h1, RepK.mono l ds r h2⟩
theorem RepF.mono {B : Bx} {F F' : Hp} (l : Le F F') : ∀ (ds : List (Str × D)) (vs : List (Str × V)), RepF B F ds vs → RepF B F' ds vs
  | [], _, h => h
  | (k, d) :: ds, vs, h => by
    obtain ⟨v, r, e, h1, h2⟩ := h
    exact ⟨v, r, e, Rep.mono l d v h1, RepF.mono l ds r h2⟩
end
theorem RepL.length {B : Bx} {F : Hp} : ∀ {ds : List D} {vs : List V}, RepL B F ds vs → vs.length = ds.length
  | [], _, h => by rw [show _ = [] from h]; rfl
  | d :: ds, vs, h => by
    obtain ⟨v, r, e, _, h2⟩ := h
    rw [e, List.length_cons, List.length_cons, RepL.length h2]
theorem RepL.get {B : Bx} {F : Hp} : ∀ {ds : List D} {vs : List V} {i : Nat} {d : D}, RepL B F ds vs → ds[i]? = some d → ∃ v, vs[i]? = some v ∧ Rep B F d v
  | [], _, _, _, _, e => by simp at e
  | x :: ds, vs, i, d, h, e => by
    obtain ⟨v, r, rfl, h1, h2⟩ := h
    cases i with
    | zero =>
      simp only [List.getElem?_cons_zero, Option.some.injEq] at e
      subst e
      exact ⟨v, rfl, h1⟩
    | succ i =>
      simp only [List.getElem?_cons_succ] at e
      obtain ⟨u, a, b⟩ := RepL.get h2 e
      exact ⟨u, by simpa using a, b⟩
theorem RepL.got {B : Bx} {F : Hp} : ∀ {ds : List D} {vs : List V} {i : Nat} {v : V}, RepL B F ds vs → vs[i]? = some v → ∃ d, ds[i]? = some d ∧ Rep B F d v
  | [], _, _, _, h, e => by rw [show _ = [] from h] at e; simp at e
  | x :: ds, vs, i, d, h, e => by
    obtain ⟨v, r, rfl, h1, h2⟩ := h
    cases i with
    | zero =>
      simp only [List.getElem?_cons_zero, Option.some.injEq] at e
      subst e
      exact ⟨x, rfl, h1⟩
    | succ i =>
      simp only [List.getElem?_cons_succ] at e
      obtain ⟨u, a, b⟩ := RepL.got h2 e
      exact ⟨u, by simpa using a, b⟩
theorem RepL.append {B : Bx} {F : Hp} : ∀ {ds es : List D} {vs us : List V}, RepL B F ds vs → RepL B F es us → RepL B F (ds ++ es) (vs ++ us)
  | [], _, vs, _, h, k => by rw [show vs = [] from h]; exact k
  | d :: ds, _, vs, _, h, k => by
    obtain ⟨v, r, rfl, h1, h2⟩ := h
    exact ⟨v, _, rfl, h1, RepL.append h2 k⟩
theorem RepL.one {B : Bx} {F : Hp} {d : D} {v : V} (h : Rep B F d v) : RepL B F [d] [v] := ⟨v, [], rfl, h, rfl⟩
theorem RepL.snoc {B : Bx} {F : Hp} {ds : List D} {vs : List V} {d : D} {v : V} (h : RepL B F ds vs) (k : Rep B F d v) : RepL B F (ds ++ [d]) (vs ++ [v]) := h.append (.one k)
theorem RepL.take {B : Bx} {F : Hp} : ∀ {ds : List D} {vs : List V} (n : Nat), RepL B F ds vs → RepL B F (ds.take n) (vs.take n)
  | ds, vs, 0, h => by simp [RepL]
  | [], vs, n + 1, h => by rw [show vs = [] from h]; rfl
  | d :: ds, vs, n + 1, h => by
    obtain ⟨v, r, rfl, h1, h2⟩ := h
    exact ⟨v, _, rfl, h1, RepL.take n h2⟩
theorem RepL.drop {B : Bx} {F : Hp} : ∀ {ds : List D} {vs : List V} (n : Nat), RepL B F ds vs → RepL B F (ds.drop n) (vs.drop n)
  | ds, vs, 0, h => by simpa using h
  | [], vs, n + 1, h => by rw [show vs = [] from h]; rfl
  | d :: ds, vs, n + 1, h => by
    obtain ⟨v, r, rfl, h1, h2⟩ := h
    simpa using RepL.drop n h2
theorem RepL.set {B : Bx} {F : Hp} {d : D} {v : V} (k : Rep B F d v) : ∀ {ds : List D} {vs : List V} (n : Nat), RepL B F ds vs → RepL B F (ds.set n d) (vs.set n v)
  | [], vs, n, h => by rw [show vs = [] from h]; rfl
  | x :: ds, vs, 0, h => by
    obtain ⟨u, r, rfl, h1, h2⟩ := h
    exact ⟨v, r, rfl, k, h2⟩
  | x :: ds, vs, n + 1, h => by
    obtain ⟨u, r, rfl, h1, h2⟩ := h
    exact ⟨u, _, rfl, h1, RepL.set k n h2⟩

/-! ### the state -/
def frzable : HO → Bool
  | .lst _ => true
  | .dK _ => true
  | .dT _ => true
  | _ => false
/-- the data's part F stands in H (some of it locked) -/
def Holds (F H : Hp) : Prop := ∀ b u, F b = some u → H b = some u ∨ (frzable u = true ∧ ∃ o, H b = some (.frz o u))
theorem Holds.none {F H : Hp} (h : Holds F H) {p : Addr} (e : H p = none) : F p = none := by
  cases q : F p with
  | none => rfl
  | some u =>
    rcases h p u q with z | ⟨_, o, z⟩ <;> rw [z] at e <;> cases e
theorem Holds.rd {F H : Hp} (h : Holds F H) {p : Addr} {u : HO} (e : F p = some u) : Rd H p u := by
  rcases h p u e with z | ⟨_, o, z⟩
  · exact .inl z
  · exact .inr ⟨o, z⟩
theorem Holds.at_ {F H : Hp} (h : Holds F H) {p : Addr} {u : HO} (e : F p = some u) (hf : frzable u = false) : H p = some u := by
  rcases h p u e with z | ⟨z, _⟩
  · exact z
  · rw [hf] at z; cases z
theorem nil_same (H : Hp) : Same nil H := fun _ _ h => by cases h
theorem sqT_nil {K : PySem.W.Frag} {H : Hp} {a : Addr} {xs : List V} (h : SqT K nil a xs) : SqT K H a xs := by
  rcases h with (h | ⟨o, h⟩) | h
  · cases h
  · cases h
  · exact .inr h
theorem LAt.sq {B : Bx} {F H : Hp} {p : Addr} {vs : List V} (hh : Holds F H) (h : LAt B F p vs) : SqL B.K H p vs := h.elim (fun h => .inl (hh.rd h)) fun h => (nil_same H).seq h
theorem TAt.sq {B : Bx} {F H : Hp} {p : Addr} {vs : List V} (hh : Holds F H) (h : TAt B F p vs) : SqT B.K H p vs := by
  rcases h with h | h
  · exact .inl (hh.rd h)
  · exact sqT_nil h

def OAt (B : Bx) (F H : Hp) (p : Addr) : O → Prop
  | .lst xs => xs.length ≤ sizeLine ∧ ∃ vs, H p = some (.lst vs) ∧ RepL B F xs vs
  | .dic kvs => kvs.length ≤ sizeLine ∧ ∃ ks, H p = some (.dK ks) ∧ RepK B F kvs ks
  | .obj c fs => ∃ C dx gs, B.cls c = some C ∧ H p = some (.ins C dx gs) ∧ RepF B F fs gs
theorem OAt.ex {B : Bx} {F H : Hp} {p : Addr} {o : O} (h : OAt B F H p o) : ∃ u, H p = some u := by
  cases o with
  | lst xs => obtain ⟨_, vs, e, _⟩ := h; exact ⟨_, e⟩
  | dic xs => obtain ⟨_, vs, e, _⟩ := h; exact ⟨_, e⟩
  | obj c fs => obtain ⟨C, dx, gs, _, e, _⟩ := h; exact ⟨_, e⟩
theorem OAt.mono {B : Bx} {F F' H H' : Hp} {p : Addr} {o : O} (l : Le F F') (k : ∀ u, H p = some u → H' p = some u) (h : OAt B F H p o) : OAt B F' H' p o := by
  cases o with
  | lst xs => obtain ⟨z, vs, e, r⟩ := h; exact ⟨z, vs, k _ e, r.mono l⟩
  | dic xs => obtain ⟨z, vs, e, r⟩ := h; exact ⟨z, vs, k _ e, r.mono l⟩
  | obj c fs => obtain ⟨C, dx, gs, hc, e, r⟩ := h; exact ⟨C, dx, gs, hc, k _ e, r.mono l⟩

structure Sim (B : Bx) (F : Hp) (env : Env) (σ : St) (H : Hp) : Prop where
  hold : Holds F H
  len : env.length = σ.length
  fz : ∀ (i : Nat) (d : D), env[i]? = some (.fz d) → ∃ v, σ[i]? = some (some v) ∧ Rep B F d v
  ow : ∀ (i : Nat) (k : Bool) (o : O), env[i]? = some (.ow k o) → ∃ p, σ[i]? = some (some (.ref p)) ∧ F p = none ∧ OAt B F H p o
  sep : ∀ (i j : Nat) (k : Bool) (o : O) (k' : Bool) (o' : O) (p : Addr), env[i]? = some (.ow k o) → env[j]? = some (.ow k' o') → σ[i]? = some (some (.ref p)) → σ[j]? = some (some (.ref p)) → i = j
/-- held by some name alone; by one that is pinned or not -/
def Own (env : Env) (σ : St) (b : Addr) : Prop := ∃ (i : Nat) (k : Bool) (o : O), env[i]? = some (.ow k o) ∧ σ[i]? = some (some (.ref b))
def OwnU (env : Env) (σ : St) (b : Addr) : Prop := ∃ (i : Nat) (o : O), env[i]? = some (.ow false o) ∧ σ[i]? = some (some (.ref b))
theorem OwnU.own {env : Env} {σ : St} {b : Addr} (h : OwnU env σ b) : Own env σ b := let ⟨i, o, a, c⟩ := h; ⟨i, false, o, a, c⟩
theorem Own.ex {B : Bx} {F H : Hp} {env : Env} {σ : St} {b : Addr} (S : Sim B F env σ H) (h : Own env σ b) : F b = none ∧ ∃ u, H b = some u := by
  obtain ⟨i, k, o, e, z⟩ := h
  obtain ⟨p, e1, e2, e3⟩ := S.ow i k o e
  rw [z] at e1
  cases e1
  exact ⟨e2, e3.ex⟩

/-- what a name alone holds may become data; a pinned one stays -/
structure EnvLe (env env' : Env) : Prop where
  dn : ∀ (i : Nat) (k : Bool) (o : O), env'[i]? = some (.ow k o) → ∃ o', env[i]? = some (.ow k o')
  up : ∀ (i : Nat) (o : O), env[i]? = some (.ow true o) → ∃ o', env'[i]? = some (.ow true o')
theorem EnvLe.refl (env : Env) : EnvLe env env := ⟨fun _ _ o h => ⟨o, h⟩, fun _ o h => ⟨o, h⟩⟩
theorem EnvLe.trans {e e1 e2 : Env} (a : EnvLe e e1) (b : EnvLe e1 e2) : EnvLe e e2 :=
  ⟨fun i k o h => let ⟨o', h'⟩ := b.dn i k o h; a.dn i k o' h', fun i o h => let ⟨o', h'⟩ := a.up i o h; b.up i o' h'⟩
theorem EnvLe.own {e e1 : Env} (a : EnvLe e e1) {σ : St} {b : Addr} (h : Own e1 σ b) : Own e σ b := by
  obtain ⟨i, k, o, h1, h2⟩ := h
  obtain ⟨o', h'⟩ := a.dn i k o h1
  exact ⟨i, k, o', h', h2⟩
/-- from F, H to F', H'; own: what may change -/
structure Step (own : Addr → Prop) (F H F' H' : Hp) : Prop where
  le : Le F F'
  keep : ∀ b o, H b = some o → ¬ own b → H' b = some o
  new : ∀ b u, F' b = some u → F b = some u ∨ H b = none ∨ own b
  stay : ∀ b o, H b = some o → ∃ o', H' b = some o'
theorem Step.refl (own : Addr → Prop) (F H : Hp) : Step own F H F H := ⟨Le.refl F, fun _ _ h _ => h, fun _ _ h => .inl h, fun _ o h => ⟨o, h⟩⟩
theorem Step.back {own : Addr → Prop} {F H F' H' : Hp} (a : Step own F H F' H') {b : Addr} (h : H' b = none) : H b = none := by
  cases q : H b with
  | none => rfl
  | some o =>
    obtain ⟨o', e⟩ := a.stay b o q
    rw [e] at h; cases h
theorem Step.trans {own own' : Addr → Prop} {F H F1 H1 F2 H2 : Hp} (a : Step own F H F1 H1) (b : Step own' F1 H1 F2 H2) (ho : ∀ b, own' b → own b ∨ H b = none) : Step own F H F2 H2 where
  le := a.le.trans b.le
  keep := fun c o e n => b.keep c o (a.keep c o e n) fun z => by
    rcases ho c z with z | z
    · exact n z
    · rw [e] at z; cases z
  new := fun c u e => by
    rcases b.new c u e with z | z | z
    · exact a.new c u z
    · exact .inr (.inl (a.back z))
    · rcases ho c z with z | z
      · exact .inr (.inr z)
      · exact .inr (.inl z)
  stay := fun c o e => let ⟨o', e'⟩ := a.stay c o e; b.stay c o' e'
theorem Step.imp {own own' : Addr → Prop} {F H F' H' : Hp} (a : Step own F H F' H') (h : ∀ b, own b → own' b) : Step own' F H F' H' :=
  ⟨a.le, fun b o e n => a.keep b o e fun z => n (h b z), fun b u e => (a.new b u e).imp id (Or.imp id (h b)), a.stay⟩

def OpdRel (B : Bx) (F : Hp) (σ : St) (v : V) : Opd → Prop
  | .d d => Rep B F d v
  | .sl i => σ[i]? = some (some v)
theorem OpdRel.mono {B : Bx} {F F' : Hp} {σ : St} {v : V} {r : Opd} (l : Le F F') (h : OpdRel B F σ v r) : OpdRel B F' σ v r := by
  cases r with
  | d d => exact Rep.mono l d v h
  | sl i => exact h

/-- what is wanted of an error: its class, its one field -/
def Wx (B : Bx) (W : WX) (σ : St) (own : Addr → Prop) (F H : Hp) (c : String) (d : D) (S : Hp → Hp → Prop) : Prop :=
  ∃ C fld, B.exc c = some (C, fld) ∧ ∀ F' H' dx v, Step own F H F' H' → S F' H' → H' dx = some (.xd [(fld, v)]) → F' dx = none → H dx = none → Rep B F' d v → W (.ref C) (some dx) σ H'

def Post {α : Type} (B : Bx) (W : WX) (F : Hp) (env : Env) (σ : St) (H : Hp) (k : α → Env → Hp → Hp → Prop) : R α → Prop
  | .ok a e' => ∀ F' H', Step (Own env σ) F H F' H' → Sim B F' e' σ H' → EnvLe env e' → k a e' F' H'
  | .exc c d e' => Wx B W σ (Own env σ) F H c d fun F' H' => Sim B F' e' σ H' ∧ EnvLe env e'
  | .bad => False
theorem Post.mono {α : Type} {B : Bx} {W : WX} {F : Hp} {env : Env} {σ : St} {H : Hp} {k k' : α → Env → Hp → Hp → Prop} {r : R α} (h : Post B W F env σ H k r)
    (i : ∀ a e' F' H', Step (Own env σ) F H F' H' → Sim B F' e' σ H' → EnvLe env e' → k a e' F' H' → k' a e' F' H') : Post B W F env σ H k' r := by
  cases r with
  | ok a e' => exact fun F' H' s m o => i a e' F' H' s m o (h F' H' s m o)
  | exc c d e' => exact h
  | bad => exact h
theorem Post.bind {α β : Type} {B : Bx} {W : WX} {F : Hp} {env : Env} {σ : St} {H : Hp} {k : β → Env → Hp → Hp → Prop} {m : M α} {g : α → M β} (S : Sim B F env σ H) (h : Post B W F env σ H k (M.bind m g env)) :
    Post B W F env σ H (fun a e1 F1 H1 => Post B W F1 e1 σ H1 k (g a e1)) (m env) := by
  unfold M.bind at h
  cases e : m env with
  | bad => rw [e] at h; exact h
  | exc c d e' => rw [e] at h; exact h
  | ok a e1 =>
    rw [e] at h
    intro F1 H1 st sim ole
    have tr : ∀ {F2 H2 : Hp}, Step (Own e1 σ) F1 H1 F2 H2 → Step (Own env σ) F H F2 H2 := fun s2 => st.trans s2 fun b z => .inl (ole.own z)
    have h' : Post B W F env σ H k (g a e1) := h
    cases q : g a e1 with
    | bad => rw [q] at h'; exact h'
    | ok b e2 =>
      rw [q] at h'
      exact fun F2 H2 s2 m2 o2 => h' F2 H2 (tr s2) m2 (ole.trans o2)
    | exc c d e2 =>
      rw [q] at h'
      obtain ⟨C, fld, hb, h'⟩ := h'
      refine ⟨C, fld, hb, fun F2 H2 dx v s2 ⟨m2, o2⟩ hd hf h0 r => h' F2 H2 dx v (tr s2) ⟨m2, ole.trans o2⟩ hd hf (st.back h0) r⟩
end AN

set_option Elab.async false
set_option maxRecDepth 100000
set_option autoImplicit false
set_option linter.unusedVariables false
namespace AN
open PySem L2

/-! ### judgements -/
def tE (B : Bx) (W : WX) (m : M Opd) : TE := fun σ H Q => ∃ F env, Sim B F env σ H ∧ Post B W F env σ H (fun r _ F' H' => ∀ v, OpdRel B F' σ v r → Q v H') (m env)
/-- a new object that nobody else holds -/
def tO (B : Bx) (W : WX) (m : M O) : TE := fun σ H Q => ∃ F env, Sim B F env σ H ∧ Post B W F env σ H (fun o _ F' H' => ∀ p, H p = none → F' p = none → OAt B F' H' p o → Q (.ref p) H') (m env)
def tT (B : Bx) (W : WX) (m : M Bool) : TT := fun σ H Q => ∃ F env, Sim B F env σ H ∧ Post B W F env σ H (fun b _ _ H' => Q b H') (m env)
inductive OpdsRel (B : Bx) (F : Hp) (σ : St) : List V → List Opd → Prop
  | nil : OpdsRel B F σ [] []
  | cons {v : V} {vs : List V} {r : Opd} {rs : List Opd} (h : OpdRel B F σ v r) (t : OpdsRel B F σ vs rs) : OpdsRel B F σ (v :: vs) (r :: rs)
def tA (B : Bx) (W : WX) (m : M (List Opd)) : TA := fun σ H Q => ∃ F env, Sim B F env σ H ∧ Post B W F env σ H (fun rs _ F' H' => ∀ vs, OpdsRel B F' σ vs rs → Q vs H') (m env)
abbrev DE (B : Bx) (X : Cx) (W : WX) (e : Expr) (m : M Opd) : Prop := PE X e (tE B W m)
abbrev DO (B : Bx) (X : Cx) (W : WX) (e : Expr) (m : M O) : Prop := PE X e (tO B W m)
abbrev DT (B : Bx) (X : Cx) (W : WX) (e : Expr) (m : M Bool) : Prop := PT X e (tT B W m)
abbrev DW (B : Bx) (X : Cx) (W : WX) (e : Expr) (m : M Bool) : Prop := PW X e (tT B W m)
abbrev DA (B : Bx) (X : Cx) (W : WX) (es : List Expr) (m : M (List Opd)) : Prop := PA X es (tA B W m)
theorem PE.imp {X : Cx} {e : Expr} {t t' : TE} (h : PE X e t) (i : ∀ σ H Q, t' σ H Q → t σ H Q) : PE X e t' := ⟨fun pins s σ H Q I q => h.run pins s σ H Q I (i σ H Q q)⟩
theorem PT.imp {X : Cx} {e : Expr} {t t' : TT} (h : PT X e t) (i : ∀ σ H Q, t' σ H Q → t σ H Q) : PT X e t' := ⟨fun pins s σ H Q I q => h.run pins s σ H Q I (i σ H Q q)⟩
theorem PW.imp {X : Cx} {e : Expr} {t t' : TT} (h : PW X e t) (i : ∀ σ H Q, t' σ H Q → t σ H Q) : PW X e t' := ⟨fun wh pins s σ H Q I q => h.run wh pins s σ H Q I (i σ H Q q)⟩
theorem PA.imp {X : Cx} {es : List Expr} {t t' : TA} (h : PA X es t) (i : ∀ σ H Q, t' σ H Q → t σ H Q) : PA X es t' := ⟨fun p pins s σ H Q I q => h.run p pins s σ H Q I (i σ H Q q)⟩
theorem OpdsRel.mono {B : Bx} {F F' : Hp} {σ : St} {vs : List V} {rs : List Opd} (l : Le F F') (h : OpdsRel B F σ vs rs) : OpdsRel B F' σ vs rs := by
  induction h with
  | nil => exact .nil
  | cons h _ ih => exact .cons (h.mono l) ih

/-! ### what an operand shows -/
def view (env : Env) : Opd → Option D
  | .d d => some d
  | .sl i => match env[i]? with
    | some (.fz d) => some d
    | some (.ow _ o) => some o.toD
    | _ => none
def Seen (B : Bx) (F H : Hp) : D → V → Prop
  | .lst xs, v => ∃ p vs, v = .ref p ∧ SqL B.K H p vs ∧ xs.length ≤ sizeLine ∧ RepL B F xs vs
  | .dic kvs, v => ∃ p ks, v = .ref p ∧ Rd H p (.dK ks) ∧ kvs.length ≤ sizeLine ∧ RepK B F kvs ks
  | .obj c fs, v => ∃ p C dx gs, v = .ref p ∧ B.cls c = some C ∧ H p = some (.ins C dx gs) ∧ RepF B F fs gs
  | d, v => Rep B F d v
theorem Rep.seen {B : Bx} {F H : Hp} {d : D} {v : V} (hh : Holds F H) (h : Rep B F d v) : Seen B F H d v := by
  cases d with
  | lst xs => obtain ⟨p, vs, e, a, z, r⟩ := h; exact ⟨p, vs, e, a.sq hh, z, r⟩
  | tup xs => exact h
  | dic kvs => obtain ⟨p, vs, e, a, z, r⟩ := h; exact ⟨p, vs, e, hh.rd a, z, r⟩
  | obj c fs => obtain ⟨p, C, dx, gs, e, hc, a, r⟩ := h; exact ⟨p, C, dx, gs, e, hc, hh.at_ a rfl, r⟩
  | non => exact h
  | bl b => exact h
  | int i => exact h
  | str s => exact h
theorem OAt.seen {B : Bx} {F H : Hp} {p : Addr} {o : O} (h : OAt B F H p o) : Seen B F H o.toD (.ref p) := by
  cases o with
  | lst xs => obtain ⟨z, vs, e, r⟩ := h; exact ⟨p, vs, rfl, .inl (.inl e), z, r⟩
  | dic xs => obtain ⟨z, vs, e, r⟩ := h; exact ⟨p, vs, rfl, .inl e, z, r⟩
  | obj c fs => obtain ⟨C, dx, gs, hc, e, r⟩ := h; exact ⟨p, C, dx, gs, rfl, hc, e, r⟩
theorem Sim.view {B : Bx} {F H : Hp} {env : Env} {σ : St} {v : V} {r : Opd} {d : D} (S : Sim B F env σ H) (h : OpdRel B F σ v r) (e : view env r = some d) : Seen B F H d v := by
  cases r with
  | d x =>
    cases (show some x = some d from e)
    exact Rep.seen S.hold h
  | sl i =>
    have e : (match env[i]? with | some (.fz d) => some d | some (.ow _ o) => some o.toD | _ => none) = some d := e
    have h : σ[i]? = some (some v) := h
    cases q : env[i]? with
    | none => rw [q] at e; cases e
    | some s =>
      rw [q] at e
      cases s with
      | no => cases e
      | fz x =>
        cases e
        obtain ⟨u, h1, h2⟩ := S.fz i d q
        rw [h] at h1; cases h1
        exact Rep.seen S.hold h2
      | ow k o =>
        cases e
        obtain ⟨p, h1, _, h3⟩ := S.ow i k o q
        rw [h] at h1; cases h1
        exact h3.seen

/-! ### steps that leave every own object as it is -/
abbrev Step0 (F H F' H' : Hp) : Prop := Step (fun _ => False) F H F' H'
theorem Step0.any {own : Addr → Prop} {F H F' H' : Hp} (s : Step0 F H F' H') : Step own F H F' H' := s.imp fun _ z => z.elim
theorem Sim.step0 {B : Bx} {F H F' H' : Hp} {env : Env} {σ : St} (S : Sim B F env σ H) (s : Step0 F H F' H') (hh : Holds F' H') : Sim B F' env σ H' where
  hold := hh
  len := S.len
  fz := fun i d e => let ⟨v, a, b⟩ := S.fz i d e; ⟨v, a, Rep.mono s.le d v b⟩
  ow := fun i k o e => by
    obtain ⟨p, a, b, c⟩ := S.ow i k o e
    obtain ⟨u, hu⟩ := c.ex
    refine ⟨p, a, ?_, c.mono s.le fun u e => s.keep p u e id⟩
    cases q : F' p with
    | none => rfl
    | some w =>
      rcases s.new p w q with z | z | z
      · rw [b] at z; cases z
      · rw [hu] at z; cases z
      · exact z.elim
  sep := S.sep
/-- a new object that is data from the start -/
theorem step0_new {F H : Hp} {p : Addr} {u : HO} (hh : Holds F H) (hp : H p = none) : Step0 F H (upd F p u) (upd H p u) ∧ Holds (upd F p u) (upd H p u) := by
  have hf := hh.none hp
  refine ⟨⟨Le.upd hf, fun b o e _ => by rw [upd_ne (ne_of_none e hp)]; exact e, fun b w e => ?_, fun b o e => ⟨o, by rw [upd_ne (ne_of_none e hp)]; exact e⟩⟩, fun b w e => ?_⟩
  · by_cases h : b = p
    · subst h; exact .inr (.inl hp)
    · rw [upd_ne h] at e; exact .inl e
  · by_cases h : b = p
    · subst h; rw [upd_same] at e; cases e; exact .inl upd_same
    · rw [upd_ne h] at e; rw [upd_ne h]; exact hh b w e
/-- a new object that is not (yet) data -/
theorem step0_mk {F H : Hp} {p : Addr} {u : HO} (hh : Holds F H) (hp : H p = none) : Step0 F H F (upd H p u) ∧ Holds F (upd H p u) := by
  refine ⟨⟨Le.refl F, fun b o e _ => by rw [upd_ne (ne_of_none e hp)]; exact e, fun b w e => .inl e, fun b o e => ⟨o, by rw [upd_ne (ne_of_none e hp)]; exact e⟩⟩, fun b w e => ?_⟩
  have h : b ≠ p := fun z => by
    subst z
    rw [hh.none hp] at e; cases e
  rw [upd_ne h]; exact hh b w e

/-! ### an operation on values -/
def Prim1 (B : Bx) (g : D → Option D) (r : V → Hp → VK → Prop) : Prop := ∀ (F H : Hp) (a z : D) (x : V) (Q : VK), Holds F H → Seen B F H a x → g a = some z →
  (∀ v F' H', Step0 F H F' H' → Holds F' H' → Rep B F' z v → Q v H') → r x H Q
def Prim2 (B : Bx) (g : D → D → Option D) (r : R2) : Prop := ∀ (F H : Hp) (a b z : D) (x y : V) (Q : VK), Holds F H → Seen B F H a x → Seen B F H b y → g a b = some z →
  (∀ v F' H', Step0 F H F' H' → Holds F' H' → Rep B F' z v → Q v H') → r x y H Q
def PrimO2 (B : Bx) (g : D → D → Option O) (r : R2) : Prop := ∀ (F H : Hp) (a b : D) (o : O) (x y : V) (Q : VK), Holds F H → Seen B F H a x → Seen B F H b y → g a b = some o →
  (∀ p H', Step0 F H F H' → Holds F H' → H p = none → OAt B F H' p o → Q (.ref p) H') → r x y H Q
def PrimO1 (B : Bx) (g : D → Option O) (r : V → Hp → VK → Prop) : Prop := ∀ (F H : Hp) (a : D) (o : O) (x : V) (Q : VK), Holds F H → Seen B F H a x → g a = some o →
  (∀ p H', Step0 F H F H' → Holds F H' → H p = none → OAt B F H' p o → Q (.ref p) H') → r x H Q
def ap1 {α : Type} (g : D → Option α) (x : Opd) : M α := fun env => match view env x with
  | some a => match g a with
    | some z => .ok z env
    | none => .bad
  | none => .bad
def ap2 {α : Type} (g : D → D → Option α) (x y : Opd) : M α := fun env => match view env x, view env y with
  | some a, some b => match g a b with
    | some z => .ok z env
    | none => .bad
  | _, _ => .bad
def mD (m : M D) : M Opd := M.bind m fun d => M.pure (.d d)
def mB1 {α : Type} (g : D → Option α) (m : M Opd) : M α := M.bind m (ap1 g)
def mB2 {α : Type} (g : D → D → Option α) (m n : M Opd) : M α := M.bind m fun x => M.bind n (ap2 g x)

section
variable {B : Bx} {X : Cx} {W : WX} {F H : Hp} {env : Env} {σ : St} {Q : VK}
theorem Post.ap1 {α : Type} {g : D → Option α} {x : Opd} {k : α → Env → Hp → Hp → Prop} (h : Post B W F env σ H k (ap1 g x env)) : ∃ a z, view env x = some a ∧ g a = some z ∧ Post B W F env σ H k (.ok z env) := by
  unfold AN.ap1 at h
  cases e : view env x with
  | none => rw [e] at h; exact h.elim
  | some a =>
    rw [e] at h
    cases q : g a with
    | none => simp only [q] at h; exact h.elim
    | some z => simp only [q] at h; exact ⟨a, z, rfl, q, h⟩
theorem Post.ap2 {α : Type} {g : D → D → Option α} {x y : Opd} {k : α → Env → Hp → Hp → Prop} (h : Post B W F env σ H k (ap2 g x y env)) : ∃ a b z, view env x = some a ∧ view env y = some b ∧ g a b = some z ∧ Post B W F env σ H k (.ok z env) := by
  unfold AN.ap2 at h
  cases e : view env x with
  | none => rw [e] at h; exact h.elim
  | some a =>
    cases e' : view env y with
    | none => rw [e, e'] at h; exact h.elim
    | some b =>
      rw [e, e'] at h
      cases q : g a b with
      | none => simp only [q] at h; exact h.elim
      | some z => simp only [q] at h; exact ⟨a, b, z, rfl, rfl, q, h⟩
/-- two operands, then what is wanted of their values -/
theorem tE.two {ma mb : M Opd} {α : Type} {g : Opd → Opd → M α} {k : α → Env → Hp → Hp → Prop} {R : V → V → Hp → Prop} (S : Sim B F env σ H) (h : Post B W F env σ H k (M.bind ma (fun x => M.bind mb fun y => g x y) env))
    (i : ∀ x y e2 F2 H2 v w, Step (Own env σ) F H F2 H2 → Sim B F2 e2 σ H2 → EnvLe env e2 → OpdRel B F2 σ v x → OpdRel B F2 σ w y → Post B W F2 e2 σ H2 k (g x y e2) → R v w H2) :
    tE B W ma σ H fun x H1 => tE B W mb σ H1 fun y H2 => R x y H2 := by
  refine ⟨F, env, S, (Post.bind S h).mono fun x e1 F1 H1 s1 m1 o1 k1 v rv => ⟨F1, e1, m1, (Post.bind m1 k1).mono fun y e2 F2 H2 s2 m2 o2 k2 w rw => ?_⟩⟩
  exact i x y e2 F2 H2 v w (s1.trans s2 fun b z => .inl (o1.own z)) m2 (o1.trans o2) (rv.mono s2.le) rw k2
theorem tE.one {ma : M Opd} {α : Type} {g : Opd → M α} {k : α → Env → Hp → Hp → Prop} {R : V → Hp → Prop} (S : Sim B F env σ H) (h : Post B W F env σ H k (M.bind ma g env))
    (i : ∀ x e1 F1 H1 v, Step (Own env σ) F H F1 H1 → Sim B F1 e1 σ H1 → EnvLe env e1 → OpdRel B F1 σ v x → Post B W F1 e1 σ H1 k (g x e1) → R v H1) :
    tE B W ma σ H fun x H1 => R x H1 := by
  refine ⟨F, env, S, (Post.bind S h).mono fun x e1 F1 H1 s1 m1 o1 k1 v rv => i x e1 F1 H1 v s1 m1 o1 rv k1⟩

theorem op2 {g : D → D → Option D} {r : R2} {ma mb : M Opd} (hp : Prim2 B g r) (h : tE B W (mD (mB2 g ma mb)) σ H Q) : tOp r (tE B W ma) (tE B W mb) σ H Q := by
  obtain ⟨F, env, S, h⟩ := h
  refine tE.two (g := ap2 g) S (Post.bind S h) fun x y e2 F2 H2 v w s2 m2 o2 rv rw k2 => ?_
  obtain ⟨a, b, z, ea, eb, ez, k3⟩ := k2.ap2
  refine hp F2 H2 a b z v w Q m2.hold (m2.view rv ea) (m2.view rw eb) ez fun u F3 H3 s3 h3 rz => ?_
  have m3 := m2.step0 s3 h3
  exact k3 F3 H3 s3.any m3 (EnvLe.refl _) F3 H3 (Step.refl _ _ _) m3 (EnvLe.refl _) u rz
theorem opO2 {g : D → D → Option O} {r : R2} {ma mb : M Opd} (hp : PrimO2 B g r) (h : tO B W (mB2 g ma mb) σ H Q) : tOp r (tE B W ma) (tE B W mb) σ H Q := by
  obtain ⟨F, env, S, h⟩ := h
  refine tE.two (g := ap2 g) S h fun x y e2 F2 H2 v w s2 m2 o2 rv rw k2 => ?_
  obtain ⟨a, b, z, ea, eb, ez, k3⟩ := k2.ap2
  refine hp F2 H2 a b z v w Q m2.hold (m2.view rv ea) (m2.view rw eb) ez fun p H3 s3 h3 hn ho => ?_
  have m3 := m2.step0 s3 h3
  exact k3 F2 H3 s3.any m3 (EnvLe.refl _) p (s2.back hn) (m2.hold.none hn) ho
theorem op1 {g : D → Option D} {r : V → Hp → VK → Prop} {ma : M Opd} (hp : Prim1 B g r) (h : tE B W (mD (mB1 g ma)) σ H Q) : tE B W ma σ H fun x H1 => r x H1 Q := by
  obtain ⟨F, env, S, h⟩ := h
  refine tE.one (g := AN.ap1 g) S (Post.bind S h) fun x e2 F2 H2 v s2 m2 o2 rv k2 => ?_
  obtain ⟨a, z, ea, ez, k3⟩ := k2.ap1
  refine hp F2 H2 a z v Q m2.hold (m2.view rv ea) ez fun u F3 H3 s3 h3 rz => ?_
  have m3 := m2.step0 s3 h3
  exact k3 F3 H3 s3.any m3 (EnvLe.refl _) F3 H3 (Step.refl _ _ _) m3 (EnvLe.refl _) u rz
theorem opO1 {g : D → Option O} {r : V → Hp → VK → Prop} {ma : M Opd} (hp : PrimO1 B g r) (h : tO B W (mB1 g ma) σ H Q) : tE B W ma σ H fun x H1 => r x H1 Q := by
  obtain ⟨F, env, S, h⟩ := h
  refine tE.one (g := AN.ap1 g) S h fun x e2 F2 H2 v s2 m2 o2 rv k2 => ?_
  obtain ⟨a, z, ea, ez, k3⟩ := k2.ap1
  refine hp F2 H2 a z v Q m2.hold (m2.view rv ea) ez fun p H3 s3 h3 hn ho => ?_
  have m3 := m2.step0 s3 h3
  exact k3 F2 H3 s3.any m3 (EnvLe.refl _) p (s2.back hn) (m2.hold.none hn) ho

variable {a b c e : Expr} {ma mb mc : M Opd} {pos : Pos}
theorem de_bin {op : Operator} {g : D → D → Option D} {r : R2} (ho : OpR X (binaryOp op) r) (hp : Prim2 B g r) (ha : DE B X W a ma) (hb : DE B X W b mb) : DE B X W (.BinOp a op b pos) (mD (mB2 g ma mb)) :=
  PE.imp (pe_op ho ha hb) fun _ _ _ h => op2 hp h
theorem do_bin {op : Operator} {g : D → D → Option O} {r : R2} (ho : OpR X (binaryOp op) r) (hp : PrimO2 B g r) (ha : DE B X W a ma) (hb : DE B X W b mb) : DO B X W (.BinOp a op b pos) (mB2 g ma mb) :=
  PE.imp (pe_op ho ha hb) fun _ _ _ h => opO2 hp h
theorem de_un {op : UnaryOp} {g : D → Option D} {r : V → Hp → VK → Prop} (ho : UnR X (unaryOp op) r) (hp : Prim1 B g r) (ha : DE B X W a ma) : DE B X W (.UnaryOp op a pos) (mD (mB1 g ma)) :=
  PE.imp (pe_un ho ha) fun _ _ _ h => op1 hp h
theorem de_cmp {op : CmpOp} {g : D → D → Option D} {r : R2} (ho : OpR X (compareOp op) r) (hp : Prim2 B g r) (ha : DE B X W a ma) (hb : DE B X W b mb) (hm : behindInMarks op b = false) : DE B X W (.Compare a [op] [b] pos) (mD (mB2 g ma mb)) :=
  PE.imp (pe_cmpR ho ha hb hm) fun _ _ _ h => op2 hp h
theorem de_ix {g : D → D → Option D} {r : R2} (hr : IxR X r) (hp : Prim2 B g r) (ha : DE B X W a ma) (hb : DE B X W b mb) (hs : PlainIx b) : DE B X W (.Subscript a b pos) (mD (mB2 g ma mb)) :=
  PE.imp (pe_ix hr ha hb hs) fun _ _ _ h => op2 hp h

theorem Post.from {α : Type} {k : α → Env → Hp → Hp → Prop} {r : R α} {F1 H1 : Hp} (h : Post B W F env σ H k r) (st : Step (Own env σ) F H F1 H1) : Post B W F1 env σ H1 k r := by
  have tr : ∀ {F2 H2 : Hp}, Step (Own env σ) F1 H1 F2 H2 → Step (Own env σ) F H F2 H2 := fun s2 => st.trans s2 fun b z => .inl z
  cases r with
  | bad => exact h
  | ok a e => exact fun F2 H2 s2 m2 o2 => h F2 H2 (tr s2) m2 o2
  | exc c d e =>
    obtain ⟨C, fld, hb, h⟩ := h
    exact ⟨C, fld, hb, fun F2 H2 dx v s2 m2 hd hf h0 r => h F2 H2 dx v (tr s2) m2 hd hf (st.back h0) r⟩
/-! ### constants, names -/
def mC (d : D) : M Opd := M.pure (.d d)
theorem tE_c {d : D} {v : V} (hv : ∀ F : Hp, Rep B F d v) (h : tE B W (mC d) σ H Q) : Q v H := by
  obtain ⟨F, env, S, h⟩ := h
  exact h F H (Step.refl _ _ _) S (EnvLe.refl _) v (hv F)
theorem de_int {i : Int} {j} : DE B X W (.Constant (.int i) j pos) (mC (.int i)) := PE.imp pe_int fun _ _ _ h => tE_c (d := .int i) (fun _ => rfl) h
theorem de_bl {b : Bool} {j} : DE B X W (.Constant (.bool b) j pos) (mC (.bl b)) := PE.imp pe_bl fun _ _ _ h => tE_c (d := .bl b) (fun _ => rfl) h
theorem de_non {j} : DE B X W (.Constant .none j pos) (mC .non) := PE.imp pe_non fun _ _ _ h => tE_c (d := .non) (fun _ => rfl) h
theorem de_str {x : Str} {j} (hl : okS x) : DE B X W (.Constant (.str x) j pos) (mC (.str x)) := PE.imp pe_str fun _ _ _ h => tE_c (d := .str x) (fun _ => ⟨rfl, hl⟩) h
def mV (i : Nat) : M Opd := fun env => match env[i]? with
  | some (.fz d) => .ok (.d d) env
  | some (.ow _ _) => .ok (.sl i) env
  | _ => .bad
theorem tE_v {i : Nat} (h : tE B W (mV i) σ H Q) : tVar i σ H Q := by
  obtain ⟨F, env, S, h⟩ := h
  unfold mV at h
  cases e : env[i]? with
  | none => rw [e] at h; exact h.elim
  | some s =>
    rw [e] at h
    cases s with
    | no => exact h.elim
    | fz d =>
      obtain ⟨v, h1, h2⟩ := S.fz i d e
      exact ⟨v, h1, h F H (Step.refl _ _ _) S (EnvLe.refl _) v h2⟩
    | ow k o =>
      obtain ⟨p, h1, _⟩ := S.ow i k o e
      exact ⟨.ref p, h1, h F H (Step.refl _ _ _) S (EnvLe.refl _) (.ref p) h1⟩
theorem dv (i : Nat) {x : Str} (hN : X.N[i]? = some x := by rfl) (hv : Vis X.env.scope x := by first | exact Or.inl rfl | exact Or.inr (Or.inl rfl) | exact Or.inr (Or.inr rfl)) (hd : (x == ("__debug__" : Str)) = false := by decide)
    (hcd : (x == ("__classdict__" : Str)) = false := by decide) : DE B X W (.Name x pos) (mV i) := PE.imp (pe_var hN hv hd hcd) fun _ _ _ h => tE_v h
/-- a constant of the module -/
theorem de_glob {x : Str} {v : V} {u : Value} {d : D} (hg : Gl X x) (hm : X.mg x = some u) (r : RelV v u) (hv : ∀ F : Hp, Rep B F d v) (hd : (x == ("__debug__" : Str)) = false := by decide) : DE B X W (.Name x pos) (mC d) :=
  PE.imp (pe_glob hg hm r hd) fun _ _ _ h => tE_c hv h

/-! ### tests -/
def truth : D → Option Bool
  | .non => some false
  | .bl b => some b
  | .int i => some (i != 0)
  | .str s => some ((s.length : Int) != 0)
  | .lst xs => some (!xs.isEmpty)
  | .tup xs => some (!xs.isEmpty)
  | _ => none
theorem RepL.isEmpty {ds : List D} {vs : List V} (h : RepL B F ds vs) : vs.isEmpty = ds.isEmpty := by
  cases ds with
  | nil => rw [show vs = [] from h]; rfl
  | cons d ds => obtain ⟨v, r, rfl, _⟩ := h; rfl
theorem Seen.tru {K : PySem.W.Frag} {d : D} {v : V} {k : Bool} (hK : K = B.K) (hh : Holds F H) (h : Seen B F H d v) (e : truth d = some k) : TruV K v H k := by
  subst hK
  cases d with
  | non => cases e; cases (show v = .non from h); exact rfl
  | bl b => cases e; cases (show v = .bl _ from h); exact rfl
  | int i => cases e; cases (show v = .int _ from h); exact rfl
  | str s => cases e; obtain ⟨rfl, hl⟩ := h; exact ⟨hl.1, rfl⟩
  | lst xs => cases e; obtain ⟨p, vs, rfl, a, z, r⟩ := h; exact .inl ⟨vs, a, by rw [r.isEmpty]⟩
  | tup xs => cases e; obtain ⟨p, vs, rfl, a, z, r⟩ := h; exact .inr (.inl ⟨vs, a.sq hh, by rw [r.isEmpty]⟩)
  | dic _ => cases e
  | obj _ _ => cases e
def mT (m : M Opd) : M Bool := mB1 truth m
theorem dt_val (hK : X.K = B.K) (ha : DE B X W a ma) (he : ∀ whole, isTrue a X.env whole = (do let v ← whole; standAt a.pos; holding [v] (truthy v)) := by intro _; rfl) : DT B X W a (mT ma) :=
  PT.imp (pt_truth ha he) fun σ H Q h => by
    obtain ⟨F, env, S, h⟩ := h
    refine tE.one (g := AN.ap1 truth) S h fun x e2 F2 H2 v s2 m2 o2 rv k2 => ?_
    obtain ⟨a, z, ea, ez, k3⟩ := k2.ap1
    exact ⟨z, (m2.view rv ea).tru hK m2.hold ez, k3 F2 H2 (Step.refl _ _ _) m2 (EnvLe.refl _)⟩
/-- a comparison as a test: its answer is a bool -/
def blOf : D → Option Bool
  | .bl b => some b
  | _ => none
def g2b (g : D → D → Option D) (a b : D) : Option Bool := (g a b).bind blOf
theorem dt_cmp {op : CmpOp} {g : D → D → Option D} {r : R2} (ho : OpR X (compareOp op) r) (hp : Prim2 B g r) (ha : DE B X W a ma) (hb : DE B X W b mb) (hm : behindInMarks op b = false) : DT B X W (.Compare a [op] [b] pos) (mB2 (g2b g) ma mb) :=
  PT.imp (pt_cmpR ho ha hb hm) fun σ H Q h => by
    obtain ⟨F, env, S, h⟩ := h
    refine tE.two (g := AN.ap2 (g2b g)) S h fun x y e2 F2 H2 v w s2 m2 o2 rv rw k2 => ?_
    obtain ⟨a, b, z, ea, eb, ez, k3⟩ := k2.ap2
    unfold g2b at ez
    obtain ⟨d, e1, e2⟩ := Option.bind_eq_some_iff.mp ez
    cases d with
    | bl k =>
      cases e2
      refine hp F2 H2 a b _ v w _ m2.hold (m2.view rv ea) (m2.view rw eb) e1 fun u F3 H3 s3 h3 rz => ?_
      exact ⟨z, rz, k3 F3 H3 s3.any (m2.step0 s3 h3) (EnvLe.refl _)⟩
    | _ => cases e2
def mAnd (m n : M Bool) : M Bool := M.bind m fun c => if c = true then n else M.pure false
def mOr (m n : M Bool) : M Bool := M.bind m fun c => if c = true then M.pure true else n
def mNot (m : M Bool) : M Bool := M.bind m fun c => M.pure (!c)
variable {ta tb : M Bool} {rest : List Expr}
theorem tT.bind {m : M Bool} {α : Type} {g : Bool → M α} {k : α → Env → Hp → Hp → Prop} {R : Bool → Hp → Prop} (S : Sim B F env σ H) (h : Post B W F env σ H k (M.bind m g env))
    (i : ∀ c e1 F1 H1, Step (Own env σ) F H F1 H1 → Sim B F1 e1 σ H1 → EnvLe env e1 → Post B W F1 e1 σ H1 k (g c e1) → R c H1) : tT B W m σ H R :=
  ⟨F, env, S, (Post.bind S h).mono fun c e1 F1 H1 s1 m1 o1 k1 => i c e1 F1 H1 s1 m1 o1 k1⟩
theorem Post.here {α : Type} {k : α → Env → Hp → Hp → Prop} {z : α} (S : Sim B F env σ H) (h : Post B W F env σ H k (.ok z env)) : k z env F H := h F H (Step.refl _ _ _) S (EnvLe.refl _)
theorem dw_and1 (ha : DT B X W a ta) : DW B X W (.BoolOp .And [a] pos) ta := pw_and1 ha
theorem dw_or1 (ha : DT B X W a ta) : DW B X W (.BoolOp .Or [a] pos) ta := pw_or1 ha
theorem dw_and (ha : DT B X W a ta) (hb : DW B X W (.BoolOp .And (b :: rest) pos) tb) : DW B X W (.BoolOp .And (a :: b :: rest) pos) (mAnd ta tb) :=
  PW.imp (pw_and ha hb) fun σ H Q h => by
    obtain ⟨F, env, S, h⟩ := h
    refine tT.bind S h fun c e1 F1 H1 s1 m1 o1 k1 => ?_
    cases c with
    | true => exact iteT ⟨F1, e1, m1, k1⟩
    | false => exact iteF (Post.here m1 k1)
theorem dw_or (ha : DT B X W a ta) (hb : DW B X W (.BoolOp .Or (b :: rest) pos) tb) : DW B X W (.BoolOp .Or (a :: b :: rest) pos) (mOr ta tb) :=
  PW.imp (pw_or ha hb) fun σ H Q h => by
    obtain ⟨F, env, S, h⟩ := h
    refine tT.bind S h fun c e1 F1 H1 s1 m1 o1 k1 => ?_
    cases c with
    | false => exact iteF ⟨F1, e1, m1, k1⟩
    | true => exact iteT (Post.here m1 k1)
theorem dt_w (h : DW B X W a ta) : DT B X W a ta := PW.pt h
theorem dt_not (ha : DT B X W a ta) : DT B X W (.UnaryOp .Not a pos) (mNot ta) :=
  PT.imp (pt_not ha) fun σ H Q h => by
    obtain ⟨F, env, S, h⟩ := h
    exact tT.bind S h fun c e1 F1 H1 s1 m1 o1 k1 => Post.here m1 k1
/-- and, or, not as values: bools -/
def mAndV (m n : M Opd) : M Opd := M.bind (mB1 blOf m) fun c => if c = true then n else mC (.bl false)
def mOrV (m n : M Opd) : M Opd := M.bind (mB1 blOf m) fun c => if c = true then mC (.bl true) else n
def mNotV (m : M Opd) : M Opd := M.bind (mB1 blOf m) fun c => mC (.bl (!c))
theorem tE.blb {m : M Opd} {α : Type} {g : Bool → M α} {k : α → Env → Hp → Hp → Prop} {R : V → Hp → Prop} (S : Sim B F env σ H) (h : Post B W F env σ H k (M.bind (mB1 blOf m) g env))
    (i : ∀ c e1 F1 H1, Step (Own env σ) F H F1 H1 → Sim B F1 e1 σ H1 → EnvLe env e1 → Post B W F1 e1 σ H1 k (g c e1) → R (.bl c) H1) : tE B W m σ H R := by
  refine tE.one (g := AN.ap1 blOf) S (Post.bind S h) fun x e2 F2 H2 v s2 m2 o2 rv k2 => ?_
  obtain ⟨a, z, ea, ez, k3⟩ := k2.ap1
  cases a with
  | bl c =>
    cases ez
    cases (show v = .bl _ from m2.view rv ea)
    exact i _ e2 F2 H2 s2 m2 o2 (Post.here m2 k3)
  | _ => cases ez
theorem de_one {op} (ha : DE B X W a ma) : DE B X W (.BoolOp op [a] pos) ma := pe_one ha
theorem de_and (ha : DE B X W a ma) (hb : DE B X W (.BoolOp .And (b :: rest) pos) mb) : DE B X W (.BoolOp .And (a :: b :: rest) pos) (mAndV ma mb) :=
  PE.imp (pe_and ha hb) fun σ H Q h => by
    obtain ⟨F, env, S, h⟩ := h
    refine tE.blb S h fun c e1 F1 H1 s1 m1 o1 k1 => ⟨c, rfl, ?_⟩
    cases c with
    | true => exact iteT ⟨F1, e1, m1, k1⟩
    | false => exact iteF (Post.here m1 k1 (.bl false) rfl)
theorem de_or (ha : DE B X W a ma) (hb : DE B X W (.BoolOp .Or (b :: rest) pos) mb) : DE B X W (.BoolOp .Or (a :: b :: rest) pos) (mOrV ma mb) :=
  PE.imp (pe_or ha hb) fun σ H Q h => by
    obtain ⟨F, env, S, h⟩ := h
    refine tE.blb S h fun c e1 F1 H1 s1 m1 o1 k1 => ⟨c, rfl, ?_⟩
    cases c with
    | false => exact iteF ⟨F1, e1, m1, k1⟩
    | true => exact iteT (Post.here m1 k1 (.bl true) rfl)
theorem de_not (ha : DE B X W a ma) : DE B X W (.UnaryOp .Not a pos) (mNotV ma) :=
  PE.imp (pe_not ha) fun σ H Q h => by
    obtain ⟨F, env, S, h⟩ := h
    exact tE.blb S h fun c e1 F1 H1 s1 m1 o1 k1 => ⟨c, rfl, Post.here m1 k1 _ rfl⟩
def mIf {α : Type} (t : M Bool) (m n : M α) : M α := M.bind t fun c => if c = true then m else n
theorem de_if (hc : DT B X W c ta) (ha : DE B X W a ma) (hb : DE B X W b mb) : DE B X W (.IfExp c a b pos) (mIf ta ma mb) :=
  PE.imp (pe_ifExp hc ha hb) fun σ H Q h => by
    obtain ⟨F, env, S, h⟩ := h
    refine tT.bind S h fun c e1 F1 H1 s1 m1 o1 k1 => ?_
    cases c with
    | true => exact iteT ⟨F1, e1, m1, k1⟩
    | false => exact iteF ⟨F1, e1, m1, k1⟩
/-- a < b < c -/
def mChain (g g' : D → D → Option D) (ma mb mc : M Opd) : M Opd := M.bind ma fun x => M.bind mb fun y => M.bind (ap2 (g2b g) x y) fun k => if k = true then M.bind mc fun z => mD (ap2 g' y z) else mC (.bl false)
theorem chain_ok {g g' : D → D → Option D} {r r' : R2} (hp : Prim2 B g r) (hp' : Prim2 B g' r') (h : tE B W (mChain g g' ma mb mc) σ H Q) : tChain r r' (tE B W ma) (tE B W mb) (tE B W mc) σ H Q := by
  obtain ⟨F, env, S, h⟩ := h
  refine tE.two S h fun x y e2 F2 H2 v w s2 m2 o2 rv rw k2 => ?_
  have k2' := Post.bind m2 k2
  obtain ⟨a, b, z, ea, eb, ez, k3⟩ := k2'.ap2
  have k3 := Post.here m2 k3
  unfold g2b at ez
  obtain ⟨d, e1, e2⟩ := Option.bind_eq_some_iff.mp ez
  cases d with
  | bl k =>
    cases e2
    refine hp F2 H2 a b _ v w _ m2.hold (m2.view rv ea) (m2.view rw eb) e1 fun u F3 H3 s3 h3 rz => ⟨z, rz, ?_⟩
    have m3 := m2.step0 s3 h3
    cases z with
    | false => exact iteF (k3 F3 H3 s3.any m3 (EnvLe.refl _) _ rfl)
    | true =>
      refine iteT ?_
      refine tE.one m3 (k3.from s3.any) fun zz e4 F4 H4 w' s4 m4 o4 rw' k4 => ?_
      obtain ⟨a', b', z', ea', eb', ez', k5⟩ := (Post.bind m4 k4).ap2
      refine hp' F4 H4 a' b' z' w w' _ m4.hold (m4.view (rw.mono (s3.le.trans s4.le)) ea') (m4.view rw' eb') ez' fun u5 F5 H5 s5 h5 r5 => ?_
      have m5 := m4.step0 s5 h5
      exact k5 F5 H5 s5.any m5 (EnvLe.refl _) F5 H5 (Step.refl _ _ _) m5 (EnvLe.refl _) u5 r5
  | _ => cases e2
theorem de_chain {op op' : CmpOp} {g g' : D → D → Option D} {r r' : R2} (ho : OpR X (compareOp op) r) (hp : Prim2 B g r) (ho' : OpR X (compareOp op') r') (hp' : Prim2 B g' r') (ha : DE B X W a ma) (hb : DE B X W b mb) (hc : DE B X W c mc)
    (hm : lastMarks [op, op'] [b, c] = false := by with_unfolding_all rfl) : DE B X W (.Compare a [op, op'] [b, c] pos) (mChain g g' ma mb mc) := PE.imp (pe_chain ho ho' ha hb hc hm) fun _ _ _ h => chain_ok hp hp' h
end
end AN

set_option Elab.async false
set_option maxRecDepth 100000
set_option autoImplicit false
set_option linter.unusedVariables false
namespace AN
open PySem L2

/-! ### an object becomes data -/
theorem OAt.data {B : Bx} {F H : Hp} {p : Addr} {o : O} (h : OAt B F H p o) (hf : F p = none) : ∃ u, H p = some u ∧ Rep B (upd F p u) o.toD (.ref p) := by
  have l : ∀ u, Le F (upd F p u) := fun u => Le.upd hf
  cases o with
  | lst xs => obtain ⟨z, vs, e, r⟩ := h; exact ⟨_, e, p, vs, rfl, .inl upd_same, z, r.mono (l _)⟩
  | dic xs => obtain ⟨z, vs, e, r⟩ := h; exact ⟨_, e, p, vs, rfl, upd_same, z, r.mono (l _)⟩
  | obj c fs => obtain ⟨C, dx, gs, hc, e, r⟩ := h; exact ⟨_, e, p, C, dx, gs, rfl, hc, upd_same, r.mono (l _)⟩
theorem Holds.add {F H : Hp} {p : Addr} {u : HO} (hh : Holds F H) (e : H p = some u) : Holds (upd F p u) H := fun b w q => by
  by_cases h : b = p
  · subst h; rw [upd_same] at q; cases q; exact .inl e
  · rw [upd_ne h] at q; exact hh b w q
/-- .. one that no name holds -/
theorem Sim.data {B : Bx} {F H : Hp} {env : Env} {σ : St} {p : Addr} {u : HO} (S : Sim B F env σ H) (hp : ¬ Own env σ p) (hf : F p = none) (e : H p = some u) : Sim B (upd F p u) env σ H where
  hold := S.hold.add e
  len := S.len
  fz := fun i d q => let ⟨v, a, b⟩ := S.fz i d q; ⟨v, a, Rep.mono (Le.upd hf) d v b⟩
  ow := fun i k o q => by
    obtain ⟨b, h1, h2, h3⟩ := S.ow i k o q
    have ne : b ≠ p := fun z => hp ⟨i, k, o, q, by rw [← z]; exact h1⟩
    exact ⟨b, h1, by rw [upd_ne ne]; exact h2, h3.mono (Le.upd hf) fun _ z => z⟩
  sep := S.sep
/-- .. the one of a name -/
theorem getElem?_setS {α : Type} {l : List α} {i j : Nat} {x y : α} (h : (l.set i x)[j]? = some y) : (i = j ∧ y = x) ∨ (i ≠ j ∧ l[j]? = some y) := by
  by_cases e : i = j
  · subst e
    by_cases hl : i < l.length
    · rw [List.getElem?_set_self hl] at h
      exact .inl ⟨rfl, (Option.some.inj h).symm⟩
    · rw [List.getElem?_eq_none (by simpa using hl)] at h; cases h
  · rw [List.getElem?_set_ne e] at h
    exact .inr ⟨e, h⟩
theorem Sim.freeze {B : Bx} {F H : Hp} {env : Env} {σ : St} {i : Nat} {o : O} {v : V} (S : Sim B F env σ H) (hi : env[i]? = some (.ow false o)) (hv : σ[i]? = some (some v)) :
    ∃ F', Step (Own env σ) F H F' H ∧ Sim B F' (env.set i (.fz o.toD)) σ H ∧ Rep B F' o.toD v ∧ EnvLe env (env.set i (.fz o.toD)) := by
  obtain ⟨p, h1, h2, h3⟩ := S.ow i false o hi
  rw [hv] at h1; cases h1
  obtain ⟨u, hu, r⟩ := h3.data h2
  have l : Le F (upd F p u) := Le.upd h2
  refine ⟨upd F p u, ⟨l, fun _ _ e _ => e, fun b w e => ?_, fun _ o e => ⟨o, e⟩⟩, ⟨S.hold.add hu, by rw [List.length_set]; exact S.len, fun j d q => ?_, fun j k' o' q => ?_, fun j j' k1 o1 k2 o2 q a1 a2 b1 b2 => ?_⟩, r, ⟨fun j k' o' q => ?_, fun j o' q => ?_⟩⟩
  · by_cases e' : b = p
    · subst e'; exact .inr (.inr ⟨i, false, o, hi, hv⟩)
    · rw [upd_ne e'] at e; exact .inl e
  · rcases getElem?_setS q with ⟨rfl, e⟩ | ⟨_, e⟩
    · cases e; exact ⟨_, hv, r⟩
    · obtain ⟨v, a, b⟩ := S.fz j d e
      exact ⟨v, a, Rep.mono l d v b⟩
  · rcases getElem?_setS q with ⟨rfl, e⟩ | ⟨ne, e⟩
    · cases e
    · obtain ⟨b, c1, c2, c3⟩ := S.ow j k' o' e
      have nb : b ≠ p := fun z => ne (S.sep i j false o k' o' p hi e hv (by rw [← z]; exact c1))
      exact ⟨b, c1, by rw [upd_ne nb]; exact c2, c3.mono l fun _ z => z⟩
  · rcases getElem?_setS a1 with ⟨_, e⟩ | ⟨_, e1⟩
    · cases e
    rcases getElem?_setS a2 with ⟨_, e⟩ | ⟨_, e2⟩
    · cases e
    exact S.sep j j' k1 o1 k2 o2 q e1 e2 b1 b2
  · rcases getElem?_setS q with ⟨_, e⟩ | ⟨_, e⟩
    · cases e
    · exact ⟨o', e⟩
  · refine ⟨o', ?_⟩
    have ne : i ≠ j := fun z => by
      subst z
      rw [hi] at q; cases q
    rw [List.getElem?_set_ne ne]
    exact q
def frz1 (x : Opd) : M D := fun env => match x with
  | .d d => .ok d env
  | .sl i => match env[i]? with
    | some (.fz d) => .ok d env
    | some (.ow false o) => .ok o.toD (env.set i (.fz o.toD))
    | _ => .bad
theorem Sim.frz1 {B : Bx} {W : WX} {F H : Hp} {env : Env} {σ : St} {v : V} {x : Opd} {k : D → Env → Hp → Hp → Prop} (S : Sim B F env σ H) (r : OpdRel B F σ v x) (h : Post B W F env σ H k (AN.frz1 x env)) :
    ∃ d e1 F1, Step (Own env σ) F H F1 H ∧ Sim B F1 e1 σ H ∧ EnvLe env e1 ∧ Rep B F1 d v ∧ k d e1 F1 H := by
  cases x with
  | d d => exact ⟨d, env, F, Step.refl _ _ _, S, EnvLe.refl _, r, h F H (Step.refl _ _ _) S (EnvLe.refl _)⟩
  | sl i =>
    unfold AN.frz1 at h
    have r : σ[i]? = some (some v) := r
    cases q : env[i]? with
    | none => simp only [q] at h; exact h.elim
    | some s =>
      cases s with
      | no => simp only [q] at h; exact h.elim
      | fz d =>
        simp only [q] at h
        obtain ⟨u, a, b⟩ := S.fz i d q
        rw [r] at a; cases a
        exact ⟨d, env, F, Step.refl _ _ _, S, EnvLe.refl _, b, h F H (Step.refl _ _ _) S (EnvLe.refl _)⟩
      | ow pk o =>
        cases pk with
        | true => simp only [q] at h; exact h.elim
        | false =>
          simp only [q] at h
          obtain ⟨F1, st, m1, rd, ole⟩ := S.freeze q r
          exact ⟨_, _, F1, st, m1, ole, rd, h F1 H st m1 ole⟩
def frzs : List Opd → M (List D)
  | [] => M.pure []
  | x :: xs => M.bind (frz1 x) fun d => M.bind (frzs xs) fun ds => M.pure (d :: ds)
theorem Sim.frzs {B : Bx} {W : WX} {H : Hp} {σ : St} : ∀ {xs : List Opd} {F : Hp} {env : Env} {vs : List V} {k : List D → Env → Hp → Hp → Prop}, Sim B F env σ H → OpdsRel B F σ vs xs → Post B W F env σ H k (AN.frzs xs env) →
    ∃ ds e1 F1, Step (Own env σ) F H F1 H ∧ Sim B F1 e1 σ H ∧ EnvLe env e1 ∧ RepL B F1 ds vs ∧ k ds e1 F1 H
  | [], F, env, _, k, S, .nil, h => ⟨[], env, F, Step.refl _ _ _, S, EnvLe.refl _, rfl, h F H (Step.refl _ _ _) S (EnvLe.refl _)⟩
  | x :: xs, F, env, _, k, S, .cons r rs, h => by
    obtain ⟨d, e1, F1, s1, m1, o1, r1, h1⟩ := S.frz1 r (Post.bind S h)
    obtain ⟨ds, e2, F2, s2, m2, o2, r2, h2⟩ := m1.frzs (rs.mono s1.le) (Post.bind m1 h1)
    exact ⟨d :: ds, e2, F2, s1.trans s2 fun b z => .inl (o1.own z), m2, o1.trans o2, ⟨_, _, rfl, Rep.mono s2.le d _ r1, r2⟩, h2 F2 H (Step.refl _ _ _) m2 (EnvLe.refl _)⟩

section
variable {B : Bx} {X : Cx} {W : WX} {F H : Hp} {env : Env} {σ : St} {Q : VK} {a b c e : Expr} {ma mb mc : M Opd} {pos : Pos} {es : List Expr} {ms : M (List Opd)}
/-! ### arguments, displays -/
def mA0 : M (List Opd) := M.pure []
def mA (m : M Opd) (ms : M (List Opd)) : M (List Opd) := M.bind m fun x => M.bind ms fun xs => M.pure (x :: xs)
theorem da0 : DA B X W [] mA0 := PA.imp pa_nil fun σ H Q h => by
  obtain ⟨F, env, S, h⟩ := h
  exact Post.here S h [] .nil
theorem da (ha : DE B X W e ma) (hr : DA B X W es ms) (hs : starEach (e :: es) X.env = (false, eval e X.env) :: starEach es X.env := by rfl) : DA B X W (e :: es) (mA ma ms) :=
  PA.imp (pa_cons ha hr hs) fun σ H Q h => by
    obtain ⟨F, env, S, h⟩ := h
    refine tE.one S h fun x e1 F1 H1 v s1 m1 o1 rv k1 => ⟨F1, e1, m1, (Post.bind m1 k1).mono fun xs e2 F2 H2 s2 m2 o2 k2 vs rvs => ?_⟩
    exact Post.here m2 k2 (v :: vs) (.cons (rv.mono s2.le) rvs)
def lim {α : Type} (n : Nat) (m : M α) : M α := fun env => if n ≤ sizeLine then m env else .bad
theorem Post.lim {α : Type} {n : Nat} {m : M α} {k : α → Env → Hp → Hp → Prop} (h : Post B W F env σ H k (lim n m env)) : n ≤ sizeLine ∧ Post B W F env σ H k (m env) := by
  unfold AN.lim at h
  by_cases e : n ≤ sizeLine
  · rw [if_pos e] at h; exact ⟨e, h⟩
  · rw [if_neg e] at h; exact h.elim
def mTup (ms : M (List Opd)) : M Opd := M.bind ms fun xs => M.bind (frzs xs) fun ds => lim ds.length (M.pure (.d (.tup ds)))
def mLst (ms : M (List Opd)) : M O := M.bind ms fun xs => M.bind (frzs xs) fun ds => lim ds.length (M.pure (.lst ds))
theorem de_tup {k} (h : DA B X W es ms) : DE B X W (.Tuple es k pos) (mTup ms) := PE.imp (pe_tup h) fun σ H Q h => by
  obtain ⟨F, env, S, h⟩ := h
  refine ⟨F, env, S, (Post.bind S h).mono fun xs e1 F1 H1 s1 m1 o1 k1 vs rvs => ?_⟩
  obtain ⟨ds, e2, F2, s2, m2, o2, r2, k2⟩ := m1.frzs rvs (Post.bind m1 k1)
  obtain ⟨hz, k2⟩ := k2.lim
  refine ⟨by rw [r2.length]; exact hz, fun p hp => ?_⟩
  obtain ⟨s3, h3⟩ := step0_new (u := .tup vs) m2.hold hp
  have m3 := m2.step0 s3 h3
  exact k2 _ _ s3.any m3 (EnvLe.refl _) (.ref p) ⟨p, vs, rfl, .inl upd_same, hz, r2.mono s3.le⟩
theorem do_lst (h : DA B X W es ms) : DO B X W (.List es pos) (mLst ms) := PE.imp (pe_lst h) fun σ H Q h => by
  obtain ⟨F, env, S, h⟩ := h
  refine ⟨F, env, S, (Post.bind S h).mono fun xs e1 F1 H1 s1 m1 o1 k1 vs rvs => ?_⟩
  obtain ⟨ds, e2, F2, s2, m2, o2, r2, k2⟩ := m1.frzs rvs (Post.bind m1 k1)
  obtain ⟨hz, k2⟩ := k2.lim
  refine ⟨by rw [r2.length]; exact hz, fun p hp => ?_⟩
  obtain ⟨s3, h3⟩ := step0_mk (u := .lst vs) m2.hold hp
  have m3 := m2.step0 s3 h3
  exact k2 _ _ s3.any m3 (EnvLe.refl _) p (s1.back hp) (m2.hold.none hp) ⟨hz, vs, upd_same, r2⟩
/-- a new object used as data -/
def mFz (m : M O) : M Opd := M.bind m fun o => M.pure (.d o.toD)
theorem Post.bindPure {α β : Type} {m : M α} {f : α → β} {k : β → Env → Hp → Hp → Prop} (h : Post B W F env σ H k (M.bind m (fun a => M.pure (f a)) env)) :
    Post B W F env σ H (fun a e1 _ _ => ∀ F2 H2, Step (Own env σ) F H F2 H2 → Sim B F2 e1 σ H2 → k (f a) e1 F2 H2) (m env) := by
  unfold M.bind at h
  cases q : m env with
  | bad => rw [q] at h; exact h
  | exc c d e' => rw [q] at h; exact h
  | ok a e1 =>
    rw [q] at h
    exact fun F1 H1 _ _ o1 F2 H2 s2 m2 => h F2 H2 s2 m2 o1
theorem de_o {m : M O} (h : DO B X W e m) : DE B X W e (mFz m) := PE.imp h fun σ H Q h => by
  obtain ⟨F, env, S, h⟩ := h
  refine ⟨F, env, S, (Post.bindPure h).mono fun o e1 F1 H1 s1 m1 o1 k1 p hp hf ho => ?_⟩
  have np : ¬ Own e1 σ p := fun z => by
    obtain ⟨_, u, hu⟩ := (o1.own z).ex S
    rw [hp] at hu; cases hu
  obtain ⟨u, hu, r⟩ := ho.data hf
  refine k1 (upd F1 p u) H1 ⟨s1.le.trans (Le.upd hf), s1.keep, fun b w q => ?_, s1.stay⟩ (m1.data np hf hu) (.ref p) r
  by_cases hb : b = p
  · subst hb; exact .inr (.inl hp)
  · rw [upd_ne hb] at q; exact s1.new b w q
end
end AN

set_option Elab.async false
set_option maxRecDepth 100000
set_option autoImplicit false
set_option linter.unusedVariables false
namespace AN
open PySem L2

/-! ### statements -/
inductive Fl where
  | nx | bk | ct
  | rt (d : D)
  | ro (o : O)
/-- from (F, env, σ, H) to (F', env', σ', H') -/
structure Go (B : Bx) (F : Hp) (env : Env) (σ : St) (H F' : Hp) (env' : Env) (σ' : St) (H' : Hp) : Prop where
  step : Step (Own env σ) F H F' H'
  sim : Sim B F' env' σ' H'
  own : ∀ b, OwnU env' σ' b → OwnU env σ b ∨ H b = none
  pin : ∀ (i : Nat) (o : O), env[i]? = some (.ow true o) → (∃ o', env'[i]? = some (.ow true o')) ∧ σ'[i]? = σ[i]?
  unpin : ∀ (i : Nat) (o : O), env'[i]? = some (.ow true o) → ∃ o', env[i]? = some (.ow true o')
  len : σ'.length = σ.length
section
variable {B : Bx} {X : Cx} {W : WX} {F H F1 H1 F2 H2 : Hp} {env e1 e2 : Env} {σ σ1 σ2 : St}
theorem Go.refl (S : Sim B F env σ H) : Go B F env σ H F env σ H := ⟨Step.refl _ _ _, S, fun _ z => .inl z, fun _ o h => ⟨⟨o, h⟩, rfl⟩, fun _ o h => ⟨o, h⟩, rfl⟩
theorem Go.owned (g : Go B F env σ H F1 e1 σ1 H1) {b : Addr} (h : Own e1 σ1 b) : Own env σ b ∨ H b = none := by
  obtain ⟨i, k, o, h1, h2⟩ := h
  cases k with
  | true =>
    obtain ⟨o', h'⟩ := g.unpin i o h1
    obtain ⟨_, e⟩ := g.pin i o' h'
    exact .inl ⟨i, true, o', h', by rw [← e]; exact h2⟩
  | false =>
    rcases g.own b ⟨i, o, h1, h2⟩ with z | z
    · exact .inl z.own
    · exact .inr z
theorem Go.trans (g : Go B F env σ H F1 e1 σ1 H1) (g' : Go B F1 e1 σ1 H1 F2 e2 σ2 H2) : Go B F env σ H F2 e2 σ2 H2 where
  step := g.step.trans g'.step fun b z => g.owned z
  sim := g'.sim
  own := fun b z => by
    rcases g'.own b z with z | z
    · exact g.own b z
    · exact .inr (g.step.back z)
  pin := fun i o h => by
    obtain ⟨⟨o', h'⟩, e⟩ := g.pin i o h
    obtain ⟨h'', e'⟩ := g'.pin i o' h'
    exact ⟨h'', e'.trans e⟩
  unpin := fun i o h => let ⟨o', h'⟩ := g'.unpin i o h; g.unpin i o' h'
  len := g'.len.trans g.len
theorem EnvLe.ownU {e e1 : Env} (a : EnvLe e e1) {σ : St} {b : Addr} (h : OwnU e1 σ b) : OwnU e σ b := by
  obtain ⟨i, o, h1, h2⟩ := h
  obtain ⟨o', h'⟩ := a.dn i false o h1
  exact ⟨i, o', h', h2⟩
theorem Go.of (s : Step (Own env σ) F H F1 H1) (m : Sim B F1 e1 σ H1) (l : EnvLe env e1) : Go B F env σ H F1 e1 σ H1 :=
  ⟨s, m, fun b z => .inl (l.ownU z), fun i o h => ⟨l.up i o h, rfl⟩, fun i o h => l.dn i true o h, rfl⟩

def PostS (B : Bx) (W : WX) (F : Hp) (env : Env) (σ : St) (H : Hp) (D : Ends) : R Fl → Prop
  | .ok .nx e' => ∀ σ' F' H', Go B F env σ H F' e' σ' H' → D.nx σ' H'
  | .ok .bk e' => ∀ σ' F' H', Go B F env σ H F' e' σ' H' → D.bk σ' H'
  | .ok .ct e' => ∀ σ' F' H', Go B F env σ H F' e' σ' H' → D.ct σ' H'
  | .ok (.rt d) e' => ∀ v σ' F' H', Go B F env σ H F' e' σ' H' → Rep B F' d v → D.rt v H'
  | .ok (.ro o) e' => ∀ p σ' F' H', Go B F env σ H F' e' σ' H' → (OwnU env σ p ∨ H p = none) → ¬ Own e' σ' p → F' p = none → OAt B F' H' p o → D.rt (.ref p) H'
  | .exc c d e' => ∃ C fld, B.exc c = some (C, fld) ∧ ∀ σ' F' H' dx v, Go B F env σ H F' e' σ' H' → H' dx = some (.xd [(fld, v)]) → F' dx = none → H dx = none → Rep B F' d v → W (.ref C) (some dx) σ' H'
  | .bad => False
def tS (B : Bx) (W : WX) (m : M Fl) : TS := fun D σ H => ∃ F env, Sim B F env σ H ∧ PostS B W F env σ H D (m env)
abbrev DS (B : Bx) (X : Cx) (W : WX) (st : Stmt) (m : M Fl) : Prop := PS X st (tS B W m)
abbrev DSs (B : Bx) (X : Cx) (W : WX) (st : List Stmt) (m : M Fl) : Prop := PSs X st (tS B W m)
theorem PS.imp {X : Cx} {e : Stmt} {t t' : TS} (h : PS X e t) (i : ∀ D σ H, t' D σ H → t D σ H) : PS X e t' := ⟨fun pins s σ H Q I q => h.run pins s σ H Q I (i Q σ H q)⟩
theorem PSs.imp {X : Cx} {e : List Stmt} {t t' : TS} (h : PSs X e t) (i : ∀ D σ H, t' D σ H → t D σ H) : PSs X e t' := ⟨fun pins s σ H Q I q => h.run pins s σ H Q I (i Q σ H q)⟩
/-- the same ending, from a later state -/
theorem PostS.from {D : Ends} {r : R Fl} (h : PostS B W F env σ H D r) (g : Go B F env σ H F1 e1 σ1 H1) : PostS B W F1 e1 σ1 H1 D r := by
  cases r with
  | bad => exact h
  | exc c d e' =>
    obtain ⟨C, fld, hb, h⟩ := h
    exact ⟨C, fld, hb, fun σ' F' H' dx v g' hd hf h0 r => h σ' F' H' dx v (g.trans g') hd hf (g.step.back h0) r⟩
  | ok f e' =>
    cases f with
    | nx => exact fun σ' F' H' g' => h σ' F' H' (g.trans g')
    | bk => exact fun σ' F' H' g' => h σ' F' H' (g.trans g')
    | ct => exact fun σ' F' H' g' => h σ' F' H' (g.trans g')
    | rt d => exact fun v σ' F' H' g' r => h v σ' F' H' (g.trans g') r
    | ro o =>
      refine fun p σ' F' H' g' r => h p σ' F' H' (g.trans g') ?_
      rcases r with r | r
      · exact g.own p r
      · exact .inr (g.step.back r)
/-- an expression, then the rest of its statement -/
theorem PostS.bind {α : Type} {m : M α} {k : α → M Fl} {D : Ends} (h : PostS B W F env σ H D (M.bind m k env)) : Post B W F env σ H (fun a e1 F1 H1 => PostS B W F1 e1 σ H1 D (k a e1)) (m env) := by
  unfold M.bind at h
  cases e : m env with
  | bad => rw [e] at h; exact h
  | exc c d e' =>
    rw [e] at h
    obtain ⟨C, fld, hb, h⟩ := h
    exact ⟨C, fld, hb, fun F' H' dx v s ⟨m', l⟩ hd hf h0 r => h σ F' H' dx v (Go.of s m' l) hd hf h0 r⟩
  | ok a e1 =>
    rw [e] at h
    intro F1 H1 s1 m1 l1
    exact PostS.from h (Go.of s1 m1 l1)
theorem PostS.here {D : Ends} (S : Sim B F env σ H) (h : PostS B W F env σ H D (.ok .nx env)) : D.nx σ H := h σ F H (Go.refl S)

def mNx : M Fl := M.pure .nx
def mSeq (m n : M Fl) : M Fl := M.bind m fun f => match f with
  | .nx => n
  | f => M.pure f
theorem PostS.seq {m n : M Fl} {D : Ends} (h : PostS B W F env σ H D (mSeq m n env)) : PostS B W F env σ H { D with nx := tS B W n D } (m env) := by
  unfold mSeq M.bind at h
  cases e : m env with
  | bad => rw [e] at h; exact h
  | exc c d e' => rw [e] at h; exact h
  | ok f e1 =>
    rw [e] at h
    cases f with
    | nx => exact fun σ' F' H' g => ⟨F', e1, g.sim, PostS.from h g⟩
    | bk => exact h
    | ct => exact h
    | rt d => exact h
    | ro o => exact h
variable {st : Stmt} {rest : List Stmt} {m n : M Fl} {pos : Pos} {a b c e : Expr} {ma mb mc : M Opd} {ta tb : M Bool}
theorem dss0 : DSs B X W [] mNx := PSs.imp pss_nil fun D σ H h => by
  obtain ⟨F, env, S, h⟩ := h
  exact h σ F H (Go.refl S)
theorem dss (h1 : DS B X W st m) (h2 : DSs B X W rest n) : DSs B X W (st :: rest) (mSeq m n) := PSs.imp (pss_cons h1 h2) fun D σ H h => by
  obtain ⟨F, env, S, h⟩ := h
  exact ⟨F, env, S, h.seq⟩
theorem dss1 (h1 : DS B X W st m) : DSs B X W [st] m := pss_one h1
theorem ds_pass : DS B X W (.Pass pos) mNx := PS.imp ps_pass fun D σ H h => by
  obtain ⟨F, env, S, h⟩ := h
  exact h σ F H (Go.refl S)
theorem ds_break : DS B X W (.Break pos) (M.pure .bk) := PS.imp ps_break fun D σ H h => by
  obtain ⟨F, env, S, h⟩ := h
  exact h σ F H (Go.refl S)
theorem ds_continue : DS B X W (.Continue pos) (M.pure .ct) := PS.imp ps_continue fun D σ H h => by
  obtain ⟨F, env, S, h⟩ := h
  exact h σ F H (Go.refl S)
def mIfS (t : M Bool) (m n : M Fl) : M Fl := M.bind t fun c => if c = true then m else n
theorem ds_if {as bs : List Stmt} (hc : DT B X W c ta) (ha : DSs B X W as m) (hb : DSs B X W bs n) : DS B X W (.If c as bs pos) (mIfS ta m n) := PS.imp (ps_if hc ha hb) fun D σ H h => by
  obtain ⟨F, env, S, h⟩ := h
  refine ⟨F, env, S, h.bind.mono fun c e1 F1 H1 s1 m1 o1 k1 => ?_⟩
  cases c with
  | true => exact iteT ⟨F1, e1, m1, k1⟩
  | false => exact iteF ⟨F1, e1, m1, k1⟩
def mRet (m : M Opd) : M Fl := M.bind m fun x => M.bind (frz1 x) fun d => M.pure (.rt d)
theorem ds_ret (ha : DE B X W a ma) : DS B X W (.Return (some a) pos) (mRet ma) := PS.imp (ps_ret ha) fun D σ H h => by
  obtain ⟨F, env, S, h⟩ := h
  refine ⟨F, env, S, h.bind.mono fun x e1 F1 H1 s1 m1 o1 k1 v rv => ?_⟩
  obtain ⟨d, e2, F2, s2, m2, o2, r2, k2⟩ := m1.frz1 rv k1.bind
  exact k2 v σ F2 H1 (Go.refl m2) r2
def mRetO (m : M O) : M Fl := M.bind m fun o => M.pure (.ro o)
theorem PostS.bindPure {α : Type} {m : M α} {f : α → Fl} {D : Ends} (h : PostS B W F env σ H D (M.bind m (fun a => M.pure (f a)) env)) :
    Post B W F env σ H (fun a e1 _ _ => PostS B W F env σ H D (.ok (f a) e1)) (m env) := by
  unfold M.bind at h
  cases e : m env with
  | bad => rw [e] at h; exact h
  | exc c d e' =>
    rw [e] at h
    obtain ⟨C, fld, hb, h⟩ := h
    exact ⟨C, fld, hb, fun F' H' dx v s ⟨m', l⟩ hd hf h0 r => h σ F' H' dx v (Go.of s m' l) hd hf h0 r⟩
  | ok a e1 =>
    rw [e] at h
    exact fun _ _ _ _ _ => h
theorem ds_retO {m : M O} (ha : DO B X W a m) : DS B X W (.Return (some a) pos) (mRetO m) := PS.imp (ps_ret ha) fun D σ H h => by
  obtain ⟨F, env, S, h⟩ := h
  refine ⟨F, env, S, h.bindPure.mono fun o e1 F1 H1 s1 m1 o1 k1 p hp hf ho => ?_⟩
  refine k1 p σ F1 H1 (Go.of s1 m1 o1) (.inr hp) (fun z => ?_) hf ho
  obtain ⟨_, u, hu⟩ := (o1.own z).ex S
  rw [hp] at hu; cases hu
def mRetN : M Fl := M.pure (.rt .non)
theorem ds_retN : DS B X W (.Return none pos) mRetN := PS.imp ps_retN fun D σ H h => by
  obtain ⟨F, env, S, h⟩ := h
  exact h .non σ F H (Go.refl S) rfl
/-- return x, x a name that alone holds its object -/
def mRetV (i : Nat) : M Fl := fun env => match env[i]? with
  | some (.fz d) => .ok (.rt d) env
  | some (.ow false o) => .ok (.ro o) (env.set i .no)
  | _ => .bad
theorem Sim.drop {i : Nat} (S : Sim B F env σ H) : Sim B F (env.set i .no) σ H where
  hold := S.hold
  len := by rw [List.length_set]; exact S.len
  fz := fun j d q => by
    rcases getElem?_setS q with ⟨_, e⟩ | ⟨_, e⟩
    · cases e
    · exact S.fz j d e
  ow := fun j k o q => by
    rcases getElem?_setS q with ⟨_, e⟩ | ⟨_, e⟩
    · cases e
    · exact S.ow j k o e
  sep := fun j j' k1 o1 k2 o2 q a1 a2 b1 b2 => by
    rcases getElem?_setS a1 with ⟨_, e⟩ | ⟨_, e1⟩
    · cases e
    rcases getElem?_setS a2 with ⟨_, e⟩ | ⟨_, e2⟩
    · cases e
    exact S.sep j j' k1 o1 k2 o2 q e1 e2 b1 b2
theorem EnvLe.set {i : Nat} {s : Slot} (h1 : ∀ o, env[i]? ≠ some (.ow true o)) (h2 : ∀ k o, s ≠ .ow k o) : EnvLe env (env.set i s) :=
  ⟨fun j k o q => by
    rcases getElem?_setS q with ⟨_, e⟩ | ⟨_, e⟩
    · exact absurd e.symm (h2 k o)
    · exact ⟨o, e⟩, fun j o q => ⟨o, by
      have ne : i ≠ j := fun z => by subst z; exact h1 o q
      rw [List.getElem?_set_ne ne]; exact q⟩⟩
theorem ds_retV (i : Nat) {x : Str} {pos' : Pos} (hN : X.N[i]? = some x := by rfl) (hv : Vis X.env.scope x := by first | exact Or.inl rfl | exact Or.inr (Or.inl rfl) | exact Or.inr (Or.inr rfl)) (hd : (x == ("__debug__" : Str)) = false := by decide)
    (hcd : (x == ("__classdict__" : Str)) = false := by decide) : DS B X W (.Return (some (.Name x pos')) pos) (mRetV i) := PS.imp (ps_ret (pe_var hN hv hd hcd)) fun D σ H h => by
  obtain ⟨F, env, S, h⟩ := h
  unfold mRetV at h
  cases q : env[i]? with
  | none => simp only [q] at h; exact h.elim
  | some s =>
    cases s with
    | no => simp only [q] at h; exact h.elim
    | fz d =>
      simp only [q] at h
      obtain ⟨v, h1, h2⟩ := S.fz i d q
      exact ⟨v, h1, h v σ F H (Go.refl S) h2⟩
    | ow k o =>
      cases k with
      | true => simp only [q] at h; exact h.elim
      | false =>
        simp only [q] at h
        obtain ⟨p, h1, h2, h3⟩ := S.ow i false o q
        have l : EnvLe env (env.set i .no) := EnvLe.set (fun o' z => by rw [q] at z; cases z) (fun _ _ z => by cases z)
        refine ⟨.ref p, h1, h p σ F H (Go.of (Step.refl _ _ _) S.drop l) (.inl ⟨i, o, q, h1⟩) (fun ⟨j, k', o', a1, a2⟩ => ?_) h2 h3⟩
        rcases getElem?_setS a1 with ⟨_, e⟩ | ⟨ne, e⟩
        · cases e
        · exact ne (S.sep i j false o k' o' p q e h1 a2)

/-! ### stores -/
def put (i : Nat) (s : Slot) : M Fl := fun env => match env[i]? with
  | some (.ow true _) => .bad
  | some _ => .ok .nx (env.set i s)
  | none => .bad
theorem put_ok {i : Nat} {s : Slot} {D : Ends} (h : PostS B W F env σ H D (put i s env)) : (∃ s0, env[i]? = some s0) ∧ (∀ o, env[i]? ≠ some (.ow true o)) ∧ PostS B W F env σ H D (.ok .nx (env.set i s)) := by
  unfold put at h
  cases q : env[i]? with
  | none => simp only [q] at h; exact h.elim
  | some s =>
    cases s with
    | no => simp only [q] at h; exact ⟨⟨_, rfl⟩, (fun o z => nomatch z), h⟩
    | fz d => simp only [q] at h; exact ⟨⟨_, rfl⟩, (fun o z => nomatch z), h⟩
    | ow k o =>
      cases k with
      | true => simp only [q] at h; exact h.elim
      | false => simp only [q] at h; exact ⟨⟨_, rfl⟩, (fun o z => nomatch z), h⟩
theorem set_len {i : Nat} {s0 : Slot} (S : Sim B F env σ H) (h : env[i]? = some s0) : i < σ.length := by
  rw [← S.len]
  exact (List.getElem?_eq_some_iff.mp h).1
theorem getElem?_setO {l : St} {i j : Nat} {x : Option V} {y : Option V} (h : (l.set i x)[j]? = some y) : (i = j ∧ y = x) ∨ (i ≠ j ∧ l[j]? = some y) := getElem?_setS h
/-- a name gets data -/
theorem Sim.setD {i : Nat} {d : D} {v : V} {s0 : Slot} (S : Sim B F env σ H) (h0 : env[i]? = some s0) (h1 : ∀ o, env[i]? ≠ some (.ow true o)) (r : Rep B F d v) : Go B F env σ H F (env.set i (.fz d)) (σ.set i (some v)) H where
  step := Step.refl _ _ _
  sim := {
    hold := S.hold
    len := by rw [List.length_set, List.length_set]; exact S.len
    fz := fun j d' q => by
      rcases getElem?_setS q with ⟨rfl, e⟩ | ⟨ne, e⟩
      · cases e; exact ⟨v, List.getElem?_set_self (set_len S h0), r⟩
      · rw [List.getElem?_set_ne ne]; exact S.fz j d' e
    ow := fun j k o q => by
      rcases getElem?_setS q with ⟨_, e⟩ | ⟨ne, e⟩
      · cases e
      · rw [List.getElem?_set_ne ne]; exact S.ow j k o e
    sep := fun j j' k1 o1 k2 o2 q a1 a2 b1 b2 => by
      rcases getElem?_setS a1 with ⟨_, e⟩ | ⟨n1, e1⟩
      · cases e
      rcases getElem?_setS a2 with ⟨_, e⟩ | ⟨n2, e2⟩
      · cases e
      rw [List.getElem?_set_ne n1] at b1
      rw [List.getElem?_set_ne n2] at b2
      exact S.sep j j' k1 o1 k2 o2 q e1 e2 b1 b2 }
  own := fun b ⟨j, o, q, z⟩ => by
    rcases getElem?_setS q with ⟨_, e⟩ | ⟨ne, e⟩
    · cases e
    · rw [List.getElem?_set_ne ne] at z; exact .inl ⟨j, o, e, z⟩
  pin := fun j o q => by
    have ne : i ≠ j := fun z => by subst z; exact h1 o q
    rw [List.getElem?_set_ne ne, List.getElem?_set_ne ne]
    exact ⟨⟨o, q⟩, rfl⟩
  unpin := fun j o q => by
    rcases getElem?_setS q with ⟨_, e⟩ | ⟨_, e⟩
    · cases e
    · exact ⟨o, e⟩
  len := List.length_set
/-- a name gets a new object -/
theorem Sim.setO {i : Nat} {o : O} {p : Addr} {s0 : Slot} (S : Sim B F env σ H) (h0 : env[i]? = some s0) (h1 : ∀ o, env[i]? ≠ some (.ow true o)) (np : ¬ Own env σ p) (hf : F p = none) (ho : OAt B F H p o) : Sim B F (env.set i (.ow false o)) (σ.set i (some (.ref p))) H where
  hold := S.hold
  len := by rw [List.length_set, List.length_set]; exact S.len
  fz := fun j d' q => by
    rcases getElem?_setS q with ⟨rfl, e⟩ | ⟨ne, e⟩
    · cases e
    · rw [List.getElem?_set_ne ne]; exact S.fz j d' e
  ow := fun j k o' q => by
    rcases getElem?_setS q with ⟨rfl, e⟩ | ⟨ne, e⟩
    · cases e; exact ⟨p, List.getElem?_set_self (set_len S h0), hf, ho⟩
    · rw [List.getElem?_set_ne ne]; exact S.ow j k o' e
  sep := fun j j' k1 o1 k2 o2 q a1 a2 b1 b2 => by
    have il := set_len S h0
    rcases getElem?_setS a1 with ⟨rfl, e1⟩ | ⟨n1, e1⟩
    · rw [List.getElem?_set_self il] at b1
      cases b1
      rcases getElem?_setS a2 with ⟨rfl, e2⟩ | ⟨n2, e2⟩
      · rfl
      · rw [List.getElem?_set_ne n2] at b2
        exact absurd ⟨j', k2, o2, e2, b2⟩ np
    · rw [List.getElem?_set_ne n1] at b1
      rcases getElem?_setS a2 with ⟨rfl, e2⟩ | ⟨n2, e2⟩
      · rw [List.getElem?_set_self il] at b2
        cases b2
        exact absurd ⟨j, k1, o1, e1, b1⟩ np
      · rw [List.getElem?_set_ne n2] at b2
        exact S.sep j j' k1 o1 k2 o2 q e1 e2 b1 b2
theorem Go.setO {i : Nat} {o : O} {p : Addr} {s0 : Slot} (g : Go B F env σ H F1 e1 σ H1) (h0 : e1[i]? = some s0) (h1 : ∀ o, e1[i]? ≠ some (.ow true o)) (hp : H p = none) (np : ¬ Own e1 σ p) (hf : F1 p = none) (ho : OAt B F1 H1 p o) : Go B F env σ H F1 (e1.set i (.ow false o)) (σ.set i (some (.ref p))) H1 where
  step := g.step
  sim := g.sim.setO h0 h1 np hf ho
  own := fun b ⟨j, o', q, z⟩ => by
    rcases getElem?_setS q with ⟨rfl, e⟩ | ⟨ne, e⟩
    · rw [List.getElem?_set_self (set_len g.sim h0)] at z
      cases z
      exact .inr hp
    · rw [List.getElem?_set_ne ne] at z
      exact g.own b ⟨j, o', e, z⟩
  pin := fun j o' q => by
    obtain ⟨⟨o2, q2⟩, e⟩ := g.pin j o' q
    have ne : i ≠ j := fun z => by subst z; exact h1 o2 q2
    rw [List.getElem?_set_ne ne, List.getElem?_set_ne ne]
    exact ⟨⟨o2, q2⟩, e⟩
  unpin := fun j o' q => by
    rcases getElem?_setS q with ⟨_, e⟩ | ⟨_, e⟩
    · cases e
    · exact g.unpin j o' e
  len := List.length_set
def mSet (i : Nat) (m : M Opd) : M Fl := M.bind m fun x => M.bind (frz1 x) fun d => put i (.fz d)
theorem tset_ok {i : Nat} {D : Ends} (h : tS B W (mSet i ma) D σ H) : tAsg (tE B W ma) (gName i) D σ H := by
  obtain ⟨F, env, S, h⟩ := h
  refine ⟨F, env, S, h.bind.mono fun x e1 F1 H1 s1 m1 o1 k1 v rv => ?_⟩
  obtain ⟨d, e2, F2, s2, m2, o2, r2, k2⟩ := m1.frz1 rv k1.bind
  obtain ⟨⟨s0, h0⟩, h1, k3⟩ := put_ok k2
  exact k3 _ _ _ (m2.setD h0 h1 r2)
def mSetO (i : Nat) (m : M O) : M Fl := M.bind m fun o => put i (.ow false o)
theorem tsetO_ok {i : Nat} {m : M O} {D : Ends} (h : tS B W (mSetO i m) D σ H) : tAsg (tO B W m) (gName i) D σ H := by
  obtain ⟨F, env, S, h⟩ := h
  unfold mSetO M.bind at h
  refine ⟨F, env, S, ?_⟩
  cases q : m env with
  | bad => rw [q] at h; exact h
  | exc c d e' =>
    rw [q] at h
    obtain ⟨C, fld, hb, h⟩ := h
    exact ⟨C, fld, hb, fun F' H' dx v s ⟨m', l⟩ hd hf h0 r => h σ F' H' dx v (Go.of s m' l) hd hf h0 r⟩
  | ok o e1 =>
    rw [q] at h
    intro F1 H1 s1 m1 l1 p hp hf ho
    have np : ¬ Own e1 σ p := fun z => by
      obtain ⟨_, u, hu⟩ := (l1.own z).ex S
      rw [hp] at hu; cases hu
    unfold put at h
    have fin : ∀ s0, e1[i]? = some s0 → (∀ o, e1[i]? ≠ some (.ow true o)) → PostS B W F env σ H D (.ok .nx (e1.set i (.ow false o))) → D.nx (σ.set i (some (.ref p))) H1 :=
      fun s0 h0 h1 k => k _ _ _ ((Go.of s1 m1 l1).setO h0 h1 hp np hf ho)
    cases z : e1[i]? with
    | none => simp only [z] at h; exact h.elim
    | some s =>
      cases s with
      | no => simp only [z] at h; exact fin _ z (fun o z' => by rw [z] at z'; cases z') h
      | fz d => simp only [z] at h; exact fin _ z (fun o z' => by rw [z] at z'; cases z') h
      | ow k o' =>
        cases k with
        | true => simp only [z] at h; exact h.elim
        | false => simp only [z] at h; exact fin _ z (fun o z' => by rw [z] at z'; cases z') h
theorem ds_set (i : Nat) {x : Str} {pos' : Pos} (hN : X.N.Nodup) (he : DE B X W e ma) (hi : X.N[i]? = some x := by rfl) (hx : Loc X.env.scope x := by first | exact Or.inl rfl | exact Or.inr rfl) (hs : swapsWith e (some (.Name x pos')) pos.line X.env = pure false := by rfl)
    (hf : X.fn x = true ∨ X.env.scope.names.lookup x = some .local := by first | exact .inl rfl | exact .inr rfl) : DS B X W (.Assign [.Name x pos'] e pos) (mSet i ma) :=
  PS.imp (ps_set hN hi hx he hs hf) fun D σ H h => tset_ok h
theorem ds_setO (i : Nat) {x : Str} {pos' : Pos} {m : M O} (hN : X.N.Nodup) (he : DO B X W e m) (hi : X.N[i]? = some x := by rfl) (hx : Loc X.env.scope x := by first | exact Or.inl rfl | exact Or.inr rfl) (hs : swapsWith e (some (.Name x pos')) pos.line X.env = pure false := by rfl)
    (hf : X.fn x = true ∨ X.env.scope.names.lookup x = some .local := by first | exact .inl rfl | exact .inr rfl) : DS B X W (.Assign [.Name x pos'] e pos) (mSetO i m) :=
  PS.imp (ps_set hN hi hx he hs hf) fun D σ H h => tsetO_ok h
def mDrop (m : M Opd) : M Fl := M.bind m fun _ => mNx
theorem ds_expr (he : DE B X W e ma) (hs : swapsWith e none pos.line X.env = pure false := by rfl) : DS B X W (.Expr e pos) (mDrop ma) := PS.imp (ps_expr he hs) fun D σ H h => by
  obtain ⟨F, env, S, h⟩ := h
  exact ⟨F, env, S, h.bind.mono fun x e1 F1 H1 s1 m1 o1 k1 v rv => PostS.here m1 k1⟩
end
end AN

set_option Elab.async false
set_option maxRecDepth 100000
set_option autoImplicit false
set_option linter.unusedVariables false
namespace AN
open PySem L2

/-! ### targets -/
section
variable {B : Bx} {X : Cx} {W : WX} {F H F1 H1 F2 H2 : Hp} {env e1 e2 : Env} {σ σ1 σ2 : St} {tg e : Expr} {ts : List Expr} {pos : Pos}
/-- only the slots ns were stored -/
structure Only1 (ns : List Nat) (env env' : Env) (σ σ' : St) : Prop where
  len : σ'.length = σ.length
  rest : ∀ j, j ∉ ns → σ'[j]? = σ[j]?
  le : EnvLe env env'
def tG (B : Bx) (ts : List Nat) (g : D → Env → Option Env) : TG := fun v σ H Q => ∃ F env d env', Sim B F env σ H ∧ Rep B F d v ∧ g d env = some env' ∧ ∀ σ', Go B F env σ H F env' σ' H → Only1 ts env env' σ σ' → Q σ' H
def tGs (B : Bx) (ts : List Nat) (g : List D → Env → Option Env) : TGs := fun vs σ H Q => ∃ F env ds env', Sim B F env σ H ∧ RepL B F ds vs ∧ g ds env = some env' ∧ ∀ σ', Go B F env σ H F env' σ' H → Only1 ts env env' σ σ' → Q σ' H
abbrev DG (B : Bx) (X : Cx) (tg : Expr) (ns : List Nat) (g : D → Env → Option Env) : Prop := PG X tg (tG B ns g)
abbrev DGs (B : Bx) (X : Cx) (ts : List Expr) (ns : List Nat) (g : List D → Env → Option Env) : Prop := PGs X ts (tGs B ns g)
theorem PG.imp {t t' : TG} (h : PG X tg t) (i : ∀ v σ H Q, t' v σ H Q → t v σ H Q) : PG X tg t' := ⟨fun pins s σ H v u Q I r q => h.run pins s σ H v u Q I r (i v σ H Q q)⟩
theorem PGs.imp {t t' : TGs} (h : PGs X ts t) (i : ∀ v σ H Q, t' v σ H Q → t v σ H Q) : PGs X ts t' := ⟨fun pins s σ H v u Q I r q => h.run pins s σ H v u Q I r (i v σ H Q q)⟩
def gN (i : Nat) (d : D) (env : Env) : Option Env := match env[i]? with
  | some (.ow true _) => none
  | some _ => some (env.set i (.fz d))
  | none => none
theorem gN_ok {i : Nat} {d : D} {env' : Env} (h : gN i d env = some env') : (∃ s0, env[i]? = some s0) ∧ (∀ o, env[i]? ≠ some (.ow true o)) ∧ env' = env.set i (.fz d) := by
  unfold gN at h
  cases q : env[i]? with
  | none => simp only [q] at h; cases h
  | some s =>
    cases s with
    | no => simp only [q] at h; exact ⟨⟨_, rfl⟩, (fun o z => nomatch z), (Option.some.inj h).symm⟩
    | fz d => simp only [q] at h; exact ⟨⟨_, rfl⟩, (fun o z => nomatch z), (Option.some.inj h).symm⟩
    | ow k o =>
      cases k with
      | true => simp only [q] at h; cases h
      | false => simp only [q] at h; exact ⟨⟨_, rfl⟩, (fun o z => nomatch z), (Option.some.inj h).symm⟩
theorem dg_n (i : Nat) {x : Str} (hN : X.N.Nodup) (hi : X.N[i]? = some x := by rfl) (hx : Loc X.env.scope x := by first | exact Or.inl rfl | exact Or.inr rfl) (hf : X.fn x = true ∨ X.env.scope.names.lookup x = some .local := by first | exact .inl rfl | exact .inr rfl) : DG B X (.Name x pos) [i] (gN i) :=
  PG.imp (pg_name hN hi hx hf) fun v σ H Q h => by
    obtain ⟨F, env, d, env', S, r, e, k⟩ := h
    obtain ⟨⟨s0, h0⟩, h1, rfl⟩ := gN_ok e
    exact k _ (S.setD h0 h1 r) ⟨List.length_set, fun j hj => List.getElem?_set_ne fun z => hj (by simp [z]), EnvLe.set h1 (fun _ _ z => nomatch z)⟩
def gs0 (ds : List D) (env : Env) : Option Env := match ds with
  | [] => some env
  | _ => none
def gs (g : D → Env → Option Env) (r : List D → Env → Option Env) (ds : List D) (env : Env) : Option Env := match ds with
  | d :: ds => (g d env).bind (r ds)
  | [] => none
theorem dgs0 : DGs B X [] [] gs0 := PGs.imp pgs_nil fun v σ H Q h => by
  obtain ⟨F, env, d, env', S, r, e, k⟩ := h
  cases d with
  | nil => cases e; exact ⟨r, k _ (Go.refl S) ⟨rfl, fun _ _ => rfl, EnvLe.refl _⟩⟩
  | cons _ _ => cases e
theorem dgs {n1 n2 : List Nat} {g : D → Env → Option Env} {r : List D → Env → Option Env} (h1 : DG B X e n1 g) (h2 : DGs B X ts n2 r) (hs : (assignEach (e :: ts) X.env).map (·.2) = assign e X.env :: (assignEach ts X.env).map (·.2) := by rfl) : DGs B X (e :: ts) (n1 ++ n2) (gs g r) :=
  PGs.imp (pgs_cons h1 h2 hs) fun v σ H Q h => by
    obtain ⟨F, env, d, env', S, rp, e, k⟩ := h
    cases d with
    | nil => cases e
    | cons d ds =>
      obtain ⟨v1, vr, rfl, r1, r2⟩ := rp
      obtain ⟨e1, a1, a2⟩ := Option.bind_eq_some_iff.mp e
      exact ⟨v1, vr, rfl, F, env, d, e1, S, r1, a1, fun σ1 g1 w1 => ⟨F, e1, ds, env', g1.sim, r2, a2, fun σ2 g2 w2 => k σ2 (g1.trans g2) ⟨w2.len.trans w1.len, fun j hj => (w2.rest j fun z => hj (List.mem_append_right _ z)).trans (w1.rest j fun z => hj (List.mem_append_left _ z)), w1.le.trans w2.le⟩⟩⟩
def gT (n : Nat) (g : List D → Env → Option Env) (d : D) (env : Env) : Option Env := match d with
  | .tup ds => if ds.length = n then g ds env else none
  | .lst ds => if ds.length = n then g ds env else none
  | _ => none
theorem PG.or {t t' : TG} (h : PG X tg t) (h' : PG X tg t') : PG X tg (fun v σ H Q => t v σ H Q ∨ t' v σ H Q) := ⟨fun pins s σ H v u Q I r q => q.elim (h.run pins s σ H v u Q I r) (h'.run pins s σ H v u Q I r)⟩
theorem dg_t {es : List Expr} {k : Nat} {ns : List Nat} {g : List D → Env → Option Env} {n : Nat} (hK : X.K = B.K) (hc : X.calm = true) (h : DGs B X es ns g) (hn : (assignEach es X.env).length = n := by rfl) (hst : (assignEach es X.env).findIdx? (·.1) = none := by rfl) : DG B X (.Tuple es k pos) ns (gT n g) :=
  PG.imp (PG.or (pg_tup hc h hn hst) (pg_unl hc h hn hst)) fun v σ H Q h => by
    obtain ⟨F, env, d, env', S, rp, e, k⟩ := h
    cases d with
    | tup ds =>
      obtain ⟨p, vs, rfl, a, z, r⟩ := rp
      dsimp only [gT] at e
      by_cases hl : ds.length = n
      · rw [if_pos hl] at e
        exact .inl ⟨p, vs, rfl, by rw [hK]; exact a.sq S.hold, by rw [r.length]; exact hl, F, env, ds, env', S, r, e, k⟩
      · rw [if_neg hl] at e; cases e
    | lst ds =>
      obtain ⟨p, vs, rfl, a, z, r⟩ := rp
      dsimp only [gT] at e
      by_cases hl : ds.length = n
      · rw [if_pos hl] at e
        exact .inr ⟨p, vs, rfl, by rw [hK]; exact a.sq S.hold, by rw [r.length]; exact hl, F, env, ds, env', S, r, e, k⟩
      · rw [if_neg hl] at e; cases e
    | _ => cases e
def mAsg (g : D → Env → Option Env) (m : M Opd) : M Fl := M.bind m fun x => M.bind (frz1 x) fun d env => match g d env with
  | some e => .ok .nx e
  | none => .bad
theorem ds_asg {ns : List Nat} {g : D → Env → Option Env} {ma : M Opd} (he : DE B X W e ma) (hg : DG B X tg ns g) (hs : swapsWithSole [tg] e pos.line X.env = pure false := by rfl) (hw : swappedStores [tg] e X.env = pure none := by rfl)
    (h1 : (assignEach [tg] X.env).map (·.2) = [assign tg X.env] := by rfl) : DS B X W (.Assign [tg] e pos) (mAsg g ma) := PS.imp (ps_asg he hg hs hw h1) fun D σ H h => by
  obtain ⟨F, env, S, h⟩ := h
  refine ⟨F, env, S, h.bind.mono fun x e1 F1 H1 s1 m1 o1 k1 v rv => ?_⟩
  obtain ⟨d, e2, F2, s2, m2, o2, r2, k2⟩ := m1.frz1 rv k1.bind
  cases q : g d e2 with
  | none => simp only [q] at k2; exact k2.elim
  | some e3 =>
    simp only [q] at k2
    exact ⟨F2, e2, d, e3, m2, r2, q, fun σ' g' _ => k2 _ _ _ g'⟩

/-! ### what a loop walks -/
def Iter (B : Bx) (F : Hp) (J : It) (ds : List D) : Prop := ∀ (i : Nat) (F1 H1 : Hp), Le F F1 → Holds F1 H1 →
  (∀ d, ds[i]? = some d → J.go i H1 ∧ ∀ x H2, J.yld i H1 x H2 → ∃ F2, Step0 F1 H1 F2 H2 ∧ Holds F2 H2 ∧ Rep B F2 d x) ∧ (i = ds.length → J.stop i H1)
def tI (B : Bx) (W : WX) (m : M (List D)) : TI := fun σ H R => ∃ F env, Sim B F env σ H ∧ Post B W F env σ H (fun ds _ F' H' => ∀ J, Iter B F' J ds → R J H') (m env)
abbrev DI (B : Bx) (X : Cx) (W : WX) (tg iter : Expr) (m : M (List D)) : Prop := PI X tg iter (tI B W m)
theorem PI.imp {t t' : TI} (h : PI X tg e t) (i : ∀ σ H R, t' σ H R → t σ H R) : PI X tg e t' := ⟨fun pins s σ H R I q => h.run pins s σ H R I (i σ H R q)⟩
theorem PI.or {t t' : TI} (h : PI X tg e t) (h' : PI X tg e t') : PI X tg e (fun σ H R => t σ H R ∨ t' σ H R) := ⟨fun pins s σ H R I q => q.elim (h.run pins s σ H R I) (h'.run pins s σ H R I)⟩
def opt {α : Type} (o : Option α) : M α := fun env => match o with
  | some a => .ok a env
  | none => .bad
theorem Post.opt {α : Type} {o : Option α} {k : α → Env → Hp → Hp → Prop} (S : Sim B F env σ H) (h : Post B W F env σ H k (opt o env)) : ∃ a, o = some a ∧ k a env F H := by
  cases o with
  | none => exact h.elim
  | some a => exact ⟨a, rfl, h F H (Step.refl _ _ _) S (EnvLe.refl _)⟩
def sign (c : Nat) : D := .str ⟨#[c]⟩
def signs (s : Str) : List D := s.cps.toList.map sign
def seqOf : D → Option (List D)
  | .lst xs => some xs
  | .tup xs => some xs
  | .str s => some (signs s)
  | _ => none
def mIt (m : M Opd) : M (List D) := M.bind m fun x => M.bind (frz1 x) fun d => opt (seqOf d)
theorem iter_list {a : Addr} {vs : List V} {ds : List D} (h : LAt B F a vs) (r : RepL B F ds vs) : Iter B F (Itl B.K a) ds := fun i F1 H1 l hh => by
  have hs : SqL B.K H1 a vs := (h.mono l).sq hh
  refine ⟨fun d e => ?_, fun e => ⟨vs, hs, by rw [r.length, e]; exact Nat.le_refl _⟩⟩
  obtain ⟨v, hv, rv⟩ := r.get e
  refine ⟨⟨vs, v, hs, hv⟩, fun x H2 y => ?_⟩
  obtain ⟨rfl, y⟩ := y
  have := y vs hs
  rw [hv] at this; cases this
  exact ⟨F1, Step.refl _ _ _, hh, Rep.mono l d v rv⟩
theorem iter_tup {a : Addr} {vs : List V} {ds : List D} (h : TAt B F a vs) (r : RepL B F ds vs) : Iter B F (Itt B.K a) ds := fun i F1 H1 l hh => by
  have hs : SqT B.K H1 a vs := (h.mono l).sq hh
  refine ⟨fun d e => ?_, fun e => ⟨vs, hs, by rw [r.length, e]; exact Nat.le_refl _⟩⟩
  obtain ⟨v, hv, rv⟩ := r.get e
  refine ⟨⟨vs, v, hs, hv⟩, fun x H2 y => ?_⟩
  obtain ⟨rfl, y⟩ := y
  have := y vs hs
  rw [hv] at this; cases this
  exact ⟨F1, Step.refl _ _ _, hh, Rep.mono l d v rv⟩
theorem okS_sign {s : Str} {c : Nat} (h : okS s) (hc : c ∈ s.cps.toList) : okS ⟨#[c]⟩ := by
  refine ⟨by show 1 ≤ sizeLine; decide, ?_⟩
  have h2 := h.2
  unfold PyData.strOk at h2 ⊢
  rw [← Array.all_toList] at h2 ⊢
  simp only [List.all_cons, List.all_nil, Bool.and_true]
  exact List.all_eq_true.mp h2 c hc
theorem iter_str {s : Str} (h : okS s) : Iter B F (Its s) (signs s) := fun i F1 H1 l hh => by
  have hl : (signs s).length = s.cps.size := by simp [signs]
  refine ⟨fun d e => ?_, fun e => ?_⟩
  · have hi : i < (signs s).length := (List.getElem?_eq_some_iff.mp e).1
    refine ⟨by show i < s.cps.size; omega, fun x H2 y => ?_⟩
    obtain ⟨rfl, c, hc, rfl⟩ := y
    have e2 : (signs s)[i]? = some (sign c) := by
      unfold signs
      rw [List.getElem?_map, Array.getElem?_toList, hc]; rfl
    rw [e] at e2; cases e2
    exact ⟨F1, Step.refl _ _ _, hh, rfl, okS_sign h (by rw [Array.mem_toList_iff]; exact Array.mem_of_getElem? hc)⟩
  · show s.cps.size ≤ i
    omega
theorem frz1_exc {x : Opd} {c : String} {d : D} {e' : Env} : AN.frz1 x env ≠ .exc c d e' := by
  unfold AN.frz1
  cases x with
  | d _ => exact fun z => nomatch z
  | sl i =>
    dsimp only
    split <;> exact fun z => nomatch z
theorem di_seq {ma : M Opd} (hK : X.K = B.K) (he : DE B X W e ma) : DI B X W tg e (mIt ma) :=
  PI.imp (PI.or (pi_list he) (PI.or (pi_tup he) (pi_str he))) fun σ H R h => by
    obtain ⟨F, env, S, h⟩ := h
    unfold mIt at h
    have hb := Post.bind S h
    cases q : ma env with
    | bad => rw [q] at hb; exact hb.elim
    | exc c d e' => rw [q] at hb; exact .inl ⟨F, env, S, by rw [q]; exact hb⟩
    | ok x e1 =>
      rw [q] at hb
      cases q2 : AN.frz1 x e1 with
      | bad =>
        refine .inl ⟨F, env, S, ?_⟩
        rw [q]
        intro F1 H1 s1 m1 l1
        have := Post.bind m1 (hb F1 H1 s1 m1 l1)
        rw [q2] at this
        exact this.elim
      | exc c d e' => exact absurd q2 frz1_exc
      | ok d e2 =>
        have fin : ∀ F1 H1, Step (Own env σ) F H F1 H1 → Sim B F1 e1 σ H1 → EnvLe env e1 → ∀ v, OpdRel B F1 σ v x → ∃ F2, Holds F2 H1 ∧ Rep B F2 d v ∧ ∃ ds, seqOf d = some ds ∧ ∀ J, Iter B F2 J ds → R J H1 := fun F1 H1 s1 m1 l1 v rv => by
          have hb1 := hb F1 H1 s1 m1 l1
          obtain ⟨d', e2', F2, s2, m2, o2, r2, k2⟩ := m1.frz1 (W := W) rv (k := fun d' e' F' H' => d' = d ∧ Post B W F' e' σ H' (fun ds _ F' H' => ∀ J, Iter B F' J ds → R J H') (opt (seqOf d) e')) (by
            have := Post.bind m1 hb1
            rw [q2] at this ⊢
            exact fun F' H' a b c => ⟨rfl, this F' H' a b c⟩)
          obtain ⟨rfl, k2⟩ := k2
          obtain ⟨ds, e3, k3⟩ := Post.opt m2 k2
          exact ⟨F2, m2.hold, r2, ds, e3, k3⟩
        have go : ∀ (k : V → Hp → Prop), (∀ v F2 H1, Holds F2 H1 → Rep B F2 d v → (∃ ds, seqOf d = some ds ∧ ∀ J, Iter B F2 J ds → R J H1) → k v H1) → tE B W ma σ H k := fun k hk => ⟨F, env, S, by
          rw [q]
          exact fun F1 H1 s1 m1 l1 v rv => by
            obtain ⟨F2, hh, r2, z⟩ := fin F1 H1 s1 m1 l1 v rv
            exact hk v F2 H1 hh r2 z⟩
        cases d with
        | lst xs =>
          refine .inl (go _ fun v F2 H1 hh r2 ⟨ds, e3, k3⟩ => ?_)
          cases e3
          obtain ⟨p, vs, rfl, a, z, r⟩ := r2
          rw [hK]
          exact ⟨p, rfl, ⟨vs, a.sq hh⟩, k3 _ (iter_list a r)⟩
        | tup xs =>
          refine .inr (.inl (go _ fun v F2 H1 hh r2 ⟨ds, e3, k3⟩ => ?_))
          cases e3
          obtain ⟨p, vs, rfl, a, z, r⟩ := r2
          rw [hK]
          exact ⟨p, rfl, ⟨vs, a.sq hh⟩, k3 _ (iter_tup a r)⟩
        | str s =>
          refine .inr (.inr (go _ fun v F2 H1 hh r2 ⟨ds, e3, k3⟩ => ?_))
          cases e3
          obtain ⟨rfl, ok⟩ := r2
          exact ⟨s, rfl, k3 _ (iter_str ok)⟩
        | _ => exact .inl (go _ fun v F2 H1 hh r2 ⟨ds, e3, k3⟩ => by cases e3)
def nums (lo : Int) (n : Nat) : List D := (List.range n).map fun k => .int (lo + (k : Nat))
theorem iter_rng {lo : Int} {n : Nat} : Iter B F (Itr lo n) (nums lo n) := fun i F1 H1 l hh => by
  have hl : (nums lo n).length = n := by simp [nums]
  refine ⟨fun d e => ?_, fun e => by show n ≤ i; omega⟩
  have hi : i < n := by
    have := (List.getElem?_eq_some_iff.mp e).1
    omega
  refine ⟨hi, fun x H2 y => ?_⟩
  obtain ⟨rfl, rfl⟩ := y
  have e2 : (nums lo n)[i]? = some (.int (lo + (i : Nat))) := by
    unfold nums
    rw [List.getElem?_map, List.getElem?_range hi]; rfl
  rw [e] at e2; cases e2
  exact ⟨F1, Step.refl _ _ _, hh, rfl⟩
def rng1 : D → Option (List D)
  | .int j => if -(2 ^ 62) ≤ j ∧ j < 2 ^ 62 then some (nums 0 j.toNat) else none
  | _ => none
def mRng1 (m : M Opd) : M (List D) := mB1 rng1 m
theorem di_range1 {a : Expr} {ma : M Opd} {p : Pos} (ha : DE B X W a ma) (hm : X.mg "range" = none) (hg : Gl X "range" := by rfl) (hs : starEach [a] X.env = [(false, eval a X.env)] := by rfl) (hs1 : starEach [a] X.env = (false, eval a X.env) :: starEach [] X.env := by rfl) :
    DI B X W tg (.Call (.Name "range" p) [a] [] pos) (mRng1 ma) := PI.imp (pi_range1 hg hm (pa_cons ha pa_nil hs1) hs) fun σ H R h => by
  obtain ⟨F, env, S, h⟩ := h
  refine tE.one (g := AN.ap1 rng1) S h fun x e2 F2 H2 v s2 m2 o2 rv k2 => ?_
  obtain ⟨a, z, ea, ez, k3⟩ := k2.ap1
  cases a with
  | int j =>
    cases (show v = .int j from m2.view rv ea)
    dsimp only [rng1] at ez
    by_cases hj : -(2 ^ 62) ≤ j ∧ j < 2 ^ 62
    · rw [if_pos hj] at ez
      cases ez
      exact ⟨j, rfl, hj.1, hj.2, Post.here m2 k3 _ iter_rng⟩
    · rw [if_neg hj] at ez; cases ez
  | _ => cases ez

/-! ### for -/
def loop (g : D → Env → Option Env) (body : M Fl) : List D → M Fl
  | [] => fun env => .ok .nx env
  | d :: ds => fun env => match g d env with
    | none => .bad
    | some e1 => match body e1 with
      | .ok .nx e2 => loop g body ds e2
      | .ok .ct e2 => loop g body ds e2
      | .ok .bk e2 => .ok .nx e2
      | .ok (.rt d) e2 => .ok (.rt d) e2
      | .ok (.ro o) e2 => .ok (.ro o) e2
      | .exc c d e2 => .exc c d e2
      | .bad => .bad
def mFor (it : M (List D)) (g : D → Env → Option Env) (body : M Fl) : M Fl := M.bind it fun ds => loop g body ds
theorem loop_ok {g : D → Env → Option Env} {body : M Fl} {D0 : Ends} {J : It} {ds : List D} {tb : TS} {ns : List Nat} (S : Sim B F env σ H) (it : Iter B F J ds) (hb : ∀ D σ H, tS B W body D σ H → tb D σ H) (h : PostS B W F env σ H D0 (loop g body ds env)) :
    ∃ Wv : Nat → Nat → St → Hp → Prop, (∃ m, Wv 0 m σ H) ∧ ∀ i m σ H, Wv i m σ H →
      (J.stop i H ∧ D0.nx σ H) ∨ (J.go i H ∧ ∃ N : St → Hp → Prop, (∀ σ' H', N σ' H' → ∃ m', m' < m ∧ Wv (i + 1) m' σ' H') ∧ ∀ x H', J.yld i H x H' → tG B ns g x σ H' fun σ2 H2 => tb { D0 with nx := N, ct := N, bk := D0.nx } σ2 H2) := by
  refine ⟨fun i m σ' H' => i ≤ ds.length ∧ m = ds.length - i ∧ ∃ F' e', Le F F' ∧ Sim B F' e' σ' H' ∧ PostS B W F' e' σ' H' D0 (loop g body (ds.drop i) e'), ⟨ds.length, Nat.zero_le _, rfl, F, env, Le.refl F, S, h⟩, ?_⟩
  rintro i m σ1 H1 ⟨hi, rfl, F1, e1, l1, S1, k1⟩
  obtain ⟨it1, it2⟩ := it i F1 H1 l1 S1.hold
  cases q : ds[i]? with
  | none =>
    have e : i = ds.length := by
      have := List.getElem?_eq_none_iff.mp q
      omega
    left
    rw [e, List.drop_length] at k1
    exact ⟨it2 e, k1 σ1 F1 H1 (Go.refl S1)⟩
  | some d =>
    right
    obtain ⟨go, yl⟩ := it1 d q
    have hlt : i < ds.length := (List.getElem?_eq_some_iff.mp q).1
    have hd : ds.drop i = d :: ds.drop (i + 1) := by
      rw [List.drop_eq_getElem_cons hlt]
      congr 1
      exact (List.getElem?_eq_some_iff.mp q).2
    rw [hd] at k1
    refine ⟨go, fun σ' H' => i + 1 ≤ ds.length ∧ ∃ F' e', Le F F' ∧ Sim B F' e' σ' H' ∧ PostS B W F' e' σ' H' D0 (loop g body (ds.drop (i + 1)) e'), fun σ' H' z => ⟨ds.length - (i + 1), by omega, z.1, rfl, z.2⟩, fun x H2 y => ?_⟩
    obtain ⟨F2, s2, h2, r2⟩ := yl x H2 y
    have S2 := S1.step0 s2 h2
    have g2 : Go B F1 e1 σ1 H1 F2 e1 σ1 H2 := Go.of s2.any S2 (EnvLe.refl _)
    have k2 : PostS B W F2 e1 σ1 H2 D0 (loop g body (d :: ds.drop (i + 1)) e1) := k1.from g2
    unfold loop at k2
    cases qg : g d e1 with
    | none => simp only [qg] at k2; exact k2.elim
    | some e3 =>
      simp only [qg] at k2
      refine ⟨F2, e1, d, e3, S2, r2, qg, fun σ3 g3 _ => hb _ _ _ ⟨F2, e3, g3.sim, ?_⟩⟩
      have k3 := k2.from g3
      have lF : Le F F2 := l1.trans s2.le
      cases qb : body e3 with
      | bad => simp only [qb] at k3; exact k3
      | exc c d' e4 => simp only [qb] at k3; exact k3
      | ok f e4 =>
        simp only [qb] at k3
        cases f with
        | nx => exact fun σ' F' H' g' => ⟨hlt, F', e4, lF.trans g'.step.le, g'.sim, k3.from g'⟩
        | ct => exact fun σ' F' H' g' => ⟨hlt, F', e4, lF.trans g'.step.le, g'.sim, k3.from g'⟩
        | bk => exact k3
        | rt d' => exact k3
        | ro o => exact k3
theorem ds_for {iter : Expr} {body : List Stmt} {mi : M (List D)} {ns : List Nat} {g : D → Env → Option Env} {mb : M Fl} (hp : PassesOwn (model X.prog X.w) X.A X.env X.xe) (hc : X.calm = true) (hi : DI B X W tg iter mi) (hg : DG B X tg ns g) (hb : DSs B X W body mb)
    (hs : ∀ x, foldedSetIterable iter X.env x = pure x := by intro _; rfl) : DS B X W (.For tg iter body [] pos) (mFor mi g mb) := PS.imp (ps_for hp hc hi hg hb hs) fun D σ H h => by
  obtain ⟨F, env, S, h⟩ := h
  exact ⟨F, env, S, h.bind.mono fun ds e1 F1 H1 s1 m1 o1 k1 J it => loop_ok m1 it (fun _ _ _ z => z) k1⟩
/-! ### while -/
def mWhile (t : M Bool) (body : M Fl) : Nat → M Fl
  | 0 => fun _ => .bad
  | n + 1 => M.bind t fun c => if c = true then fun env => (match body env with
      | .ok .nx e2 => mWhile t body n e2
      | .ok .ct e2 => mWhile t body n e2
      | .ok .bk e2 => .ok .nx e2
      | .ok (.rt d) e2 => .ok (.rt d) e2
      | .ok (.ro o) e2 => .ok (.ro o) e2
      | .exc c d e2 => .exc c d e2
      | .bad => .bad) else mNx
theorem ds_while (n : Nat) {c : Expr} {body : List Stmt} {mt : M Bool} {mb : M Fl} (hp : PassesOwn (model X.prog X.w) X.A X.env X.xe) (hc : DT B X W c mt) (hb : DSs B X W body mb) : DS B X W (.While c body [] pos) (mWhile mt mb n) :=
  PS.imp (ps_while hp hc hb) fun D σ H h => by
    obtain ⟨F, env, S, h⟩ := h
    refine ⟨fun m σ' H' => ∃ F' e', Sim B F' e' σ' H' ∧ PostS B W F' e' σ' H' D (mWhile mt mb m e'), ⟨n, F, env, S, h⟩, ?_⟩
    rintro m σ1 H1 ⟨F1, e1, S1, k1⟩
    cases m with
    | zero => exact k1.elim
    | succ m =>
      refine ⟨F1, e1, S1, (PostS.bind (k := fun c => if c = true then _ else mNx) k1).mono fun c e2 F2 H2 s2 m2 o2 k2 => ?_⟩
      cases c with
      | false => exact iteF (PostS.here m2 k2)
      | true =>
        refine iteT ⟨fun σ' H' => ∃ F' e', Sim B F' e' σ' H' ∧ PostS B W F' e' σ' H' D (mWhile mt mb m e'), fun σ' H' z => ⟨m, Nat.lt_succ_self m, z⟩, F2, e2, m2, ?_⟩
        have k2 : PostS B W F2 e2 σ1 H2 D (match mb e2 with
          | .ok .nx e2 => mWhile mt mb m e2
          | .ok .ct e2 => mWhile mt mb m e2
          | .ok .bk e2 => .ok .nx e2
          | .ok (.rt d) e2 => .ok (.rt d) e2
          | .ok (.ro o) e2 => .ok (.ro o) e2
          | .exc c d e2 => .exc c d e2
          | .bad => .bad) := k2
        cases qb : mb e2 with
        | bad => simp only [qb] at k2; exact k2
        | exc c d' e4 => simp only [qb] at k2; exact k2
        | ok f e4 =>
          simp only [qb] at k2
          cases f with
          | nx => exact fun σ' F' H' g' => ⟨F', e4, g'.sim, k2.from g'⟩
          | ct => exact fun σ' F' H' g' => ⟨F', e4, g'.sim, k2.from g'⟩
          | bk => exact k2
          | rt d' => exact k2
          | ro o => exact k2
end
end AN

set_option Elab.async false
set_option maxRecDepth 100000
set_option autoImplicit false
set_option linter.unusedVariables false
namespace AN
open PySem L2

/-! ### a comprehension's own names -/
def wipeE (vs : List Nat) : Nat → Env → Env
  | _, [] => []
  | n, s :: e => (if n ∈ vs then .no else s) :: wipeE vs (n + 1) e
def restE (vs : List Nat) : Nat → Env → Env → Env
  | n, s :: e, t :: f => (if n ∈ vs then s else t) :: restE vs (n + 1) e f
  | _, _, f => f
theorem wipeE_len (vs : List Nat) : ∀ (n : Nat) (e : Env), (wipeE vs n e).length = e.length
  | _, [] => rfl
  | n, s :: e => by show _ + 1 = _ + 1; rw [wipeE_len vs (n + 1) e]
theorem wipeE_get (vs : List Nat) : ∀ (n : Nat) (e : Env) (i : Nat), (wipeE vs n e)[i]? = if n + i ∈ vs then e[i]?.map (fun _ => .no) else e[i]?
  | n, [], i => by simp [wipeE]
  | n, s :: e, 0 => by
    unfold wipeE
    by_cases h : n ∈ vs <;> simp [h]
  | n, s :: e, i + 1 => by
    unfold wipeE
    simp only [List.getElem?_cons_succ]
    rw [wipeE_get vs (n + 1) e i, show n + 1 + i = n + (i + 1) by omega]
theorem restE_len (vs : List Nat) : ∀ (n : Nat) (e f : Env), (restE vs n e f).length = f.length
  | n, s :: e, t :: f => by show _ + 1 = _ + 1; rw [restE_len vs (n + 1) e f]
  | _, [], f => by simp [restE]
  | _, _ :: _, [] => by simp [restE]
theorem restE_get (vs : List Nat) : ∀ (n : Nat) (e f : Env) (i : Nat), e.length = f.length → (restE vs n e f)[i]? = if n + i ∈ vs then e[i]? else f[i]?
  | n, [], [], i, _ => by simp [restE]
  | n, [], _ :: _, i, h => by simp at h
  | n, _ :: _, [], i, h => by simp at h
  | n, s :: e, t :: f, 0, _ => by
    unfold restE
    by_cases h : n ∈ vs <;> simp [h]
  | n, s :: e, t :: f, i + 1, h => by
    unfold restE
    simp only [List.getElem?_cons_succ]
    rw [restE_get vs (n + 1) e f i (by simpa using h), show n + 1 + i = n + (i + 1) by omega]
theorem wipe_get {σ : St} {i : Nat} : ∀ {vs : List Nat}, i ∉ vs → (wipe σ vs)[i]? = σ[i]?
  | [], _ => rfl
  | v :: vs, h => by
    unfold wipe
    rw [List.getElem?_set_ne (fun z => h (by simp [z]))]
    exact wipe_get (fun z => h (List.mem_cons_of_mem _ z))
theorem wipe_in {σ : St} {i : Nat} : ∀ {vs : List Nat}, i ∈ vs → (wipe σ vs)[i]? = σ[i]?.map fun _ => none
  | v :: vs, h => by
    unfold wipe
    by_cases e : v = i
    · subst e
      by_cases hl : v < (wipe σ vs).length
      · rw [List.getElem?_set_self hl]
        rw [wipe_length] at hl
        rw [List.getElem?_eq_getElem hl]; rfl
      · rw [List.getElem?_eq_none (by simpa using hl)]
        rw [wipe_length] at hl
        rw [List.getElem?_eq_none (by omega)]; rfl
    · rw [List.getElem?_set_ne e]
      refine wipe_in ?_
      rcases List.mem_cons.mp h with z | z
      · exact absurd z.symm e
      · exact z
theorem wipe_eq {σ σ2 : St} {vs : List Nat} (hl : σ2.length = σ.length) (h : ∀ j, j ∉ vs → σ2[j]? = (wipe σ vs)[j]?) : wipe σ2 vs = wipe σ vs := by
  apply List.ext_getElem?
  intro i
  by_cases hi : i ∈ vs
  · rw [wipe_in hi, wipe_in hi]
    by_cases hl' : i < σ.length
    · rw [List.getElem?_eq_getElem hl', List.getElem?_eq_getElem (by omega)]; rfl
    · rw [List.getElem?_eq_none (by omega), List.getElem?_eq_none (by omega)]
  · rw [wipe_get hi, h i hi]
section
variable {B : Bx} {X : Cx} {W : WX} {F H F1 H1 F2 H2 : Hp} {env e1 e2 : Env} {σ σ1 σ2 : St}
theorem wipeE_some {vs : List Nat} {i : Nat} {s : Slot} (h : (wipeE vs 0 env)[i]? = some s) (hs : s ≠ .no) : i ∉ vs ∧ env[i]? = some s := by
  rw [wipeE_get] at h
  simp only [Nat.zero_add] at h
  by_cases hi : i ∈ vs
  · rw [if_pos hi] at h
    cases q : env[i]? with
    | none => rw [q] at h; cases h
    | some t => rw [q] at h; cases h; exact absurd rfl hs
  · rw [if_neg hi] at h; exact ⟨hi, h⟩
theorem Sim.wiped (vs : List Nat) (S : Sim B F env σ H) : Sim B F (wipeE vs 0 env) (wipe σ vs) H where
  hold := S.hold
  len := by rw [wipeE_len, wipe_length]; exact S.len
  fz := fun i d q => by
    obtain ⟨hi, e⟩ := wipeE_some q (fun z => nomatch z)
    rw [wipe_get hi]; exact S.fz i d e
  ow := fun i k o q => by
    obtain ⟨hi, e⟩ := wipeE_some q (fun z => nomatch z)
    rw [wipe_get hi]; exact S.ow i k o e
  sep := fun j j' k1 o1 k2 o2 q a1 a2 b1 b2 => by
    obtain ⟨h1, c1⟩ := wipeE_some a1 (fun z => nomatch z)
    obtain ⟨h2, c2⟩ := wipeE_some a2 (fun z => nomatch z)
    rw [wipe_get h1] at b1
    rw [wipe_get h2] at b2
    exact S.sep j j' k1 o1 k2 o2 q c1 c2 b1 b2
/-- the same state, the block's names forgotten again -/
theorem Sim.wiped2 {vs : List Nat} {σ0 : St} (S : Sim B F env σ H) (h : wipe σ vs = wipe σ0 vs) : Sim B F (wipeE vs 0 env) (wipe σ0 vs) H := by
  rw [← h]; exact S.wiped vs
theorem wiped_own {vs : List Nat} {b : Addr} (h : Own (wipeE vs 0 env) (wipe σ vs) b) : Own env σ b := by
  obtain ⟨i, k, o, q, z⟩ := h
  obtain ⟨hi, e⟩ := wipeE_some q (fun z => nomatch z)
  rw [wipe_get hi] at z
  exact ⟨i, k, o, e, z⟩
def lc (vs : List Nat) (g : D → Env → Option Env) (mt : M Bool) (me : M Opd) : List D → List D → Env → R (List D)
  | [], acc, env => .ok acc env
  | d :: ds, acc, env => match g d env with
    | none => .bad
    | some e1 => match mt e1 with
      | .ok false e2 => lc vs g mt me ds acc (wipeE vs 0 e2)
      | .ok true e2 => match M.bind me frz1 e2 with
        | .ok y e3 => lc vs g mt me ds (acc ++ [y]) (wipeE vs 0 e3)
        | _ => .bad
      | _ => .bad
def mLC (vs : List Nat) (it : M (List D)) (g : D → Env → Option Env) (mt : M Bool) (me : M Opd) : M O := M.bind it fun ds env => if ds.length ≤ sizeLine then (match lc vs g mt me ds [] (wipeE vs 0 env) with
  | .ok acc e2 => .ok (.lst acc) (restE vs 0 env e2)
  | _ => .bad) else .bad
abbrev WF : WX := fun _ _ _ _ => False
abbrev DTs (B : Bx) (X : Cx) (W : WX) (es : List Expr) (m : M Bool) : Prop := PTs X es (tT B W m)
theorem dts0 : DTs B X W [] (M.pure true) := ⟨fun pins s σ H Q I h => by
  obtain ⟨F, env, S, h⟩ := h
  exact pts_nil.run pins s σ H Q I (Post.here S h)⟩
theorem dts1 {c : Expr} {m : M Bool} (h : DT B X W c m) : DTs B X W [c] m := pts_one h
theorem Sim.updD {Dd : Addr} {u : HO} (S : Sim B F env σ H) (hf : F Dd = none) (hn : ¬ Own env σ Dd) : Sim B F env σ (upd H Dd u) where
  hold := fun b w e => by
    have : b ≠ Dd := fun z => by rw [z, hf] at e; cases e
    rw [upd_ne this]; exact S.hold b w e
  len := S.len
  fz := S.fz
  ow := fun i k o q => by
    obtain ⟨p, a, b, c⟩ := S.ow i k o q
    have : p ≠ Dd := fun z => hn ⟨i, k, o, q, by rw [← z]; exact a⟩
    exact ⟨p, a, b, c.mono (Le.refl _) fun u e => by rw [upd_ne this]; exact e⟩
  sep := S.sep
theorem wipeE_le {vs : List Nat} {e0 e e' : Env} (h : EnvLe (wipeE vs 0 e0) e) (h' : EnvLe e e') : EnvLe (wipeE vs 0 e0) (wipeE vs 0 e') where
  dn := fun i k o q => by
    obtain ⟨hi, a⟩ := wipeE_some q (fun z => nomatch z)
    exact (h.trans h').dn i k o a
  up := fun i o q => by
    obtain ⟨hi, _⟩ := wipeE_some q (fun z => nomatch z)
    obtain ⟨o', a⟩ := (h.trans h').up i o q
    exact ⟨o', by rw [wipeE_get]; simp only [Nat.zero_add]; rw [if_neg hi]; exact a⟩
/-- behind the block: the outer names as they were -/
theorem Sim.rest {vs : List Nat} (S1 : Sim B F1 e1 σ H1) (S2 : Sim B F2 e2 (wipe σ vs) H2) (l : EnvLe (wipeE vs 0 e1) e2) (le : Le F1 F2)
    (keep : ∀ b o, H1 b = some o → ¬ Own (wipeE vs 0 e1) (wipe σ vs) b → H2 b = some o) (new : ∀ (i : Nat) (k : Bool) (o : O) (b : Addr), i ∈ vs → e1[i]? = some (.ow k o) → σ[i]? = some (some (.ref b)) → F2 b = none) : Sim B F2 (restE vs 0 e1 e2) σ H2 ∧ EnvLe e1 (restE vs 0 e1 e2) := by
  have hlen : e1.length = e2.length := by
    have a := S1.len
    have b := S2.len
    rw [wipe_length] at b
    omega
  have get : ∀ (i : Nat) (s : Slot), (restE vs 0 e1 e2)[i]? = some s → (i ∈ vs ∧ e1[i]? = some s) ∨ (i ∉ vs ∧ e2[i]? = some s) := fun i s q => by
    rw [restE_get vs 0 e1 e2 i hlen] at q
    simp only [Nat.zero_add] at q
    by_cases hi : i ∈ vs
    · rw [if_pos hi] at q; exact .inl ⟨hi, q⟩
    · rw [if_neg hi] at q; exact .inr ⟨hi, q⟩
  have back : ∀ (i : Nat) (k : Bool) (o : O), i ∉ vs → e2[i]? = some (.ow k o) → ∃ o', e1[i]? = some (.ow k o') := fun i k o hi q => by
    obtain ⟨o', a⟩ := l.dn i k o q
    exact ⟨o', (wipeE_some a (fun z => nomatch z)).2⟩
  refine ⟨⟨S2.hold, by rw [restE_len]; have b := S2.len; rw [wipe_length] at b; exact b, fun i d q => ?_, fun i k o q => ?_, fun i j k o k' o' p a1 a2 b1 b2 => ?_⟩, ⟨fun i k o q => ?_, fun i o q => ?_⟩⟩
  · rcases get i _ q with ⟨hi, e⟩ | ⟨hi, e⟩
    · obtain ⟨v, a, b⟩ := S1.fz i d e
      exact ⟨v, a, Rep.mono le d v b⟩
    · obtain ⟨v, a, b⟩ := S2.fz i d e
      rw [wipe_get hi] at a
      exact ⟨v, a, b⟩
  · rcases get i _ q with ⟨hi, e⟩ | ⟨hi, e⟩
    · obtain ⟨p, a, b, c⟩ := S1.ow i k o e
      refine ⟨p, a, new i k o p hi e a, c.mono le fun u hu => keep p u hu fun ⟨j, k', o', q', z⟩ => ?_⟩
      obtain ⟨hj, e'⟩ := wipeE_some q' (fun z => nomatch z)
      rw [wipe_get hj] at z
      have := S1.sep i j k o k' o' p e e' a z
      subst this
      exact hj hi
    · obtain ⟨p, a, b, c⟩ := S2.ow i k o e
      rw [wipe_get hi] at a
      exact ⟨p, a, b, c⟩
  · have c1 : ∃ o1, e1[i]? = some (.ow k o1) := by
      rcases get i _ a1 with ⟨hi, e⟩ | ⟨hi, e⟩
      · exact ⟨o, e⟩
      · exact back i k o hi e
    have c2 : ∃ o1, e1[j]? = some (.ow k' o1) := by
      rcases get j _ a2 with ⟨hi, e⟩ | ⟨hi, e⟩
      · exact ⟨o', e⟩
      · exact back j k' o' hi e
    obtain ⟨o1, c1⟩ := c1
    obtain ⟨o2, c2⟩ := c2
    exact S1.sep i j k o1 k' o2 p c1 c2 b1 b2
  · rcases get i _ q with ⟨hi, e⟩ | ⟨hi, e⟩
    · exact ⟨o, e⟩
    · exact back i k o hi e
  · rw [restE_get vs 0 e1 e2 i hlen]
    simp only [Nat.zero_add]
    by_cases hi : i ∈ vs
    · rw [if_pos hi]; exact ⟨o, q⟩
    · rw [if_neg hi]
      exact l.up i o (by rw [wipeE_get]; simp only [Nat.zero_add]; rw [if_neg hi]; exact q)
theorem lc_read {vs ns : List Nat} {mi : M (List D)} {g : D → Env → Option Env} {mt : M Bool} {me : M Opd} {Q : VK} (hns : ∀ i ∈ ns, i ∈ vs) (h : tO B W (mLC vs mi g mt me) σ H Q) :
    tLc (tI B W mi) (tG B ns g) (tT B WF mt) (tE B WF me) vs σ H Q := by
  obtain ⟨F, env, S, h⟩ := h
  refine ⟨F, env, S, (Post.bind S h).mono fun ds e1 F1 H1 s1 m1 l1 k1 J it Dd hD => ?_⟩
  by_cases hz : ds.length ≤ sizeLine
  · rw [if_pos hz] at k1
    cases ql : lc vs g mt me ds [] (wipeE vs 0 e1) with
    | bad => rw [ql] at k1; exact k1.elim
    | exc c d e' => rw [ql] at k1; exact k1.elim
    | ok acc e2 =>
      rw [ql] at k1
      have nD : ¬ Own e1 σ Dd := fun z => by
        obtain ⟨_, u, hu⟩ := z.ex m1
        rw [hD] at hu; cases hu
      have nDw : ¬ Own (wipeE vs 0 e1) (wipe σ vs) Dd := fun z => nD (wiped_own z)
      have fD : F1 Dd = none := m1.hold.none hD
      obtain ⟨s0, hh0⟩ := step0_mk (u := .lst []) m1.hold hD
      have mw := (m1.step0 s0 hh0).wiped vs
      refine ⟨fun i m H' => i ≤ ds.length ∧ m = ds.length - i ∧ ∃ F' e' acc' av, Step (fun b => Own (wipeE vs 0 e1) (wipe σ vs) b ∨ b = Dd) F1 (upd H1 Dd (.lst [])) F' H' ∧ Sim B F' e' (wipe σ vs) H' ∧ EnvLe (wipeE vs 0 e1) e' ∧ H' Dd = some (.lst av) ∧ F' Dd = none ∧ RepL B F' acc' av ∧ acc'.length ≤ i ∧ lc vs g mt me (ds.drop i) acc' e' = .ok acc e2,
        ⟨ds.length, Nat.zero_le _, rfl, F1, wipeE vs 0 e1, [], [], Step.refl _ _ _, mw, EnvLe.refl _, upd_same, fD, rfl, Nat.zero_le _, ql⟩, ?_⟩
      rintro i m H' ⟨hi, rfl, F', e', acc', av, st, sm, le', hav, hfd, rl, hal, hlc⟩
      obtain ⟨it1, it2⟩ := it i F' H' st.le sm.hold
      have own_e : ∀ {b : Addr}, Own e' (wipe σ vs) b → Own (wipeE vs 0 e1) (wipe σ vs) b := fun z => le'.own z
      have nDe : ¬ Own e' (wipe σ vs) Dd := fun z => nDw (own_e z)
      cases q : ds[i]? with
      | none =>
        have e : i = ds.length := by
          have := List.getElem?_eq_none_iff.mp q
          omega
        left
        rw [e, List.drop_length] at hlc
        cases hlc
        refine ⟨it2 e, ?_⟩
        have stt : Step (Own e1 σ) F1 H1 F' H' := (s0.any (own := Own e1 σ)).trans st fun b z => by
          rcases z with z | z
          · exact .inl (wiped_own z)
          · exact .inr (by rw [z]; exact hD)
        obtain ⟨sr, lr⟩ := m1.rest sm le' st.le (fun b o e n => by
            by_cases hb : b = Dd
            · rw [hb, hD] at e; cases e
            · exact st.keep b o (by rw [upd_ne hb]; exact e) fun z => z.elim n hb) (fun j k o b hj z1 z2 => by
            obtain ⟨z3, u, hu⟩ := Own.ex m1 ⟨j, k, o, z1, z2⟩
            have hb : b ≠ Dd := fun y => by rw [y, hD] at hu; cases hu
            cases w : F' b with
            | none => rfl
            | some w' =>
              rcases st.new b w' w with y | y | y
              · rw [z3] at y; cases y
              · rw [upd_ne hb, hu] at y; cases y
              · rcases y with ⟨j', k', o', q1, q2⟩ | y
                · obtain ⟨hj', q3⟩ := wipeE_some q1 (fun z => nomatch z)
                  rw [wipe_get hj'] at q2
                  have := m1.sep j j' k o k' o' b z1 q3 z2 q2
                  subst this
                  exact absurd hj hj'
                · exact absurd y hb)
        exact k1 F' H' stt sr lr Dd (s1.back hD) hfd ⟨by omega, av, hav, rl⟩
      | some d =>
        right
        obtain ⟨go, yl⟩ := it1 d q
        have hlt : i < ds.length := (List.getElem?_eq_some_iff.mp q).1
        have hd : ds.drop i = d :: ds.drop (i + 1) := by
          rw [List.drop_eq_getElem_cons hlt]
          congr 1
          exact (List.getElem?_eq_some_iff.mp q).2
        rw [hd] at hlc
        refine ⟨go, fun H'' => i + 1 ≤ ds.length ∧ ∃ F' e' acc' av, Step (fun b => Own (wipeE vs 0 e1) (wipe σ vs) b ∨ b = Dd) F1 (upd H1 Dd (.lst [])) F' H'' ∧ Sim B F' e' (wipe σ vs) H'' ∧ EnvLe (wipeE vs 0 e1) e' ∧ H'' Dd = some (.lst av) ∧ F' Dd = none ∧ RepL B F' acc' av ∧ acc'.length ≤ i + 1 ∧ lc vs g mt me (ds.drop (i + 1)) acc' e' = .ok acc e2,
          fun H'' z => ⟨ds.length - (i + 1), by omega, z.1, rfl, z.2⟩, fun x H2 y => ?_⟩
        obtain ⟨F2, s2, h2, r2⟩ := yl x H2 y
        have S2 := sm.step0 s2 h2
        have hav2 : H2 Dd = some (.lst av) := s2.keep _ _ hav id
        have hfd2 : F2 Dd = none := by
          cases w : F2 Dd with
          | none => rfl
          | some w' =>
            rcases s2.new _ _ w with y | y | y
            · rw [hfd] at y; cases y
            · rw [hav] at y; cases y
            · exact y.elim
        unfold lc at hlc
        cases qg : g d e' with
        | none => simp only [qg] at hlc; cases hlc
        | some e3 =>
          simp only [qg] at hlc
          refine ⟨F2, e', d, e3, S2, r2, qg, fun σ3 g3 w3 => ?_⟩
          have ws : wipe σ3 vs = wipe σ vs := wipe_eq (by rw [w3.len, wipe_length]) fun j hj => w3.rest j fun z => hj (hns j z)
          refine ⟨ws, F2, e3, g3.sim, ?_⟩
          have own3 : ∀ {b : Addr}, Own e3 σ3 b → Own (wipeE vs 0 e1) (wipe σ vs) b ∨ H2 b = none := fun z => (g3.owned z).imp own_e id
          have nD3 : ¬ Own e3 σ3 Dd := fun z => by
            rcases own3 z with z | z
            · exact nDw z
            · rw [hav2] at z; cases z
          have st2 : Step (fun b => Own (wipeE vs 0 e1) (wipe σ vs) b ∨ b = Dd) F1 (upd H1 Dd (.lst [])) F2 H2 := st.trans (s2.any (own := fun _ => False)) fun _ z => z.elim
          have stp : ∀ {F4 H4 : Hp}, Step (Own e3 σ3) F2 H2 F4 H4 → Step (fun b => Own (wipeE vs 0 e1) (wipe σ vs) b ∨ b = Dd) F1 (upd H1 Dd (.lst [])) F4 H4 := fun s4 => st2.trans s4 fun b z => by
            rcases own3 z with z | z
            · exact .inl (.inl z)
            · exact .inr (st2.back z)
          have dk : ∀ (F4 H4 : Hp), Step (Own e3 σ3) F2 H2 F4 H4 → H4 Dd = some (.lst av) ∧ F4 Dd = none := fun F4 H4 s4 => ⟨s4.keep _ _ hav2 nD3, by
            cases w : F4 Dd with
            | none => rfl
            | some w' =>
              rcases s4.new _ _ w with y | y | y
              · rw [hfd2] at y; cases y
              · rw [hav2] at y; cases y
              · exact absurd y nD3⟩
          cases qt : mt e3 with
          | bad => simp only [qt] at hlc; cases hlc
          | exc c d' e4 => simp only [qt] at hlc; cases hlc
          | ok bt e4 =>
            intro F4 H4 s4 m4 l4
            obtain ⟨hav4, hfd4⟩ := dk _ _ s4
            cases bt with
            | false =>
              simp only [qt] at hlc
              refine iteF ⟨hlt, F4, wipeE vs 0 e4, acc', av, stp s4, m4.wiped2 ws, wipeE_le le' (w3.le.trans l4), hav4, hfd4, rl.mono (s2.le.trans s4.le), by omega, hlc⟩
            | true =>
              simp only [qt] at hlc
              cases qe : M.bind me frz1 e4 with
              | bad => simp only [qe] at hlc; cases hlc
              | exc c d' e5 => simp only [qe] at hlc; cases hlc
              | ok yv e5 =>
                simp only [qe] at hlc
                refine iteT ⟨F4, e4, m4, ?_⟩
                have pb : Post B WF F4 e4 σ3 H4 (fun d' e' F' H' => d' = yv ∧ e' = e5) (M.bind me frz1 e4) := by
                  rw [qe]; exact fun _ _ _ _ _ => ⟨rfl, rfl⟩
                refine (Post.bind m4 pb).mono fun xo e5' F5 H5 s5 m5 l5 k5 v rv => ?_
                obtain ⟨d6, e6, F6, s6, m6, l6, r6, rfl, rfl⟩ := m5.frz1 rv k5
                have s46 : Step (Own e3 σ3) F2 H2 F6 H5 := s4.trans ((s5.trans s6 fun b z => .inl (l5.own z)) : Step (Own e4 σ3) F4 H4 F6 H5) fun b z => .inl (l4.own z)
                obtain ⟨hav5, hfd5⟩ := dk _ _ s46
                have nD6 : ¬ Own e6 σ3 Dd := fun z => nD3 (l4.own (l5.own (l6.own z)))
                have hlen : av.length = acc'.length := rl.length
                refine ⟨av, hav5, by omega, hlt, F6, wipeE vs 0 e6, acc' ++ [d6], av ++ [v], ?_, (m6.updD hfd5 nD6).wiped2 ws, wipeE_le le' (w3.le.trans (l4.trans (l5.trans l6))), upd_same, hfd5, (rl.mono (s2.le.trans s46.le)).snoc r6, by rw [List.length_append, List.length_singleton]; omega, hlc⟩
                have sf := stp s46
                refine ⟨sf.le, fun b o e n => ?_, sf.new, fun b o e => ?_⟩
                · have hb : b ≠ Dd := fun z => n (.inr z)
                  rw [upd_ne hb]; exact sf.keep b o e n
                · by_cases hb : b = Dd
                  · exact ⟨_, by rw [hb]; exact upd_same⟩
                  · obtain ⟨o', e'⟩ := sf.stay b o e
                    exact ⟨o', by rw [upd_ne hb]; exact e'⟩
  · rw [if_neg hz] at k1; exact k1.elim
section
variable {elt tg iter : Expr} {ifs : List Expr} {scope : Scope} {own : List (Str × Nat)} {pos : Pos} {mi : M (List D)} {ns : List Nat} {g : D → Env → Option Env} {mt : M Bool} {me : M Opd}
theorem do_lc (hc : X.calm = true) (hN : X.N.Nodup) (hi : DI B X W tg iter mi) (ok : blkC X.N X.env.scope scope own = true)
    (hg : ∀ (s : Shared) (H : Hp) (C : Addr) (cl : List (Str × Addr)) (fp : List Addr), DG B (X.blk s H scope (compEnvC scope cl C X.env) fp) tg ns g)
    (ht : ∀ (s : Shared) (H : Hp) (C : Addr) (cl : List (Str × Addr)) (fp : List Addr), DTs B (X.blk s H scope (compEnvC scope cl C X.env) fp) WF ifs mt)
    (he : ∀ (s : Shared) (H : Hp) (C : Addr) (cl : List (Str × Addr)) (fp : List Addr), DE B (X.blk s H scope (compEnvC scope cl C X.env) fp) WF elt me)
    (hns : ∀ i ∈ ns, i ∈ own.map (·.2)) (hs : ∀ x, foldedSetIterable iter X.env x = pure x := by intro _; rfl) :
    DO B X W (.ListComp elt [⟨tg, iter, ifs, 0⟩] scope pos) (mLC (own.map (·.2)) mi g mt me) :=
  PE.imp (pe_lc hc hN hi (blkOk_by ok) hg ht he hs) fun σ H Q h => lc_read hns h
theorem fz_read {m : M O} {Q : VK} (h : tE B W (mFz m) σ H Q) : tO B W m σ H Q := by
  obtain ⟨F, env, S, h⟩ := h
  refine ⟨F, env, S, (Post.bindPure h).mono fun o e1 F1 H1 s1 m1 o1 k1 p hp hf ho => ?_⟩
  have np : ¬ Own e1 σ p := fun z => by
    obtain ⟨_, u, hu⟩ := (o1.own z).ex S
    rw [hp] at hu; cases hu
  obtain ⟨u, hu, r⟩ := ho.data hf
  refine k1 (upd F1 p u) H1 ⟨s1.le.trans (Le.upd hf), s1.keep, fun b w q => ?_, s1.stay⟩ (m1.data np hf hu) (.ref p) r
  by_cases hb : b = p
  · subst hb; exact .inr (.inl hp)
  · rw [upd_ne hb] at q; exact s1.new b w q
theorem ds_setLcO (i : Nat) {y : Str} {py spos : Pos} (hc : X.calm = true) (hN : X.N.Nodup) (hi : DI B X W tg iter mi) (ok : blkC X.N X.env.scope scope own = true)
    (hg : ∀ (s : Shared) (H : Hp) (C : Addr) (cl : List (Str × Addr)) (fp : List Addr), DG B (X.blk s H scope (compEnvC scope cl C X.env) fp) tg ns g)
    (ht : ∀ (s : Shared) (H : Hp) (C : Addr) (cl : List (Str × Addr)) (fp : List Addr), DTs B (X.blk s H scope (compEnvC scope cl C X.env) fp) WF ifs mt)
    (he : ∀ (s : Shared) (H : Hp) (C : Addr) (cl : List (Str × Addr)) (fp : List Addr), DE B (X.blk s H scope (compEnvC scope cl C X.env) fp) WF elt me)
    (hns : ∀ i ∈ ns, i ∈ own.map (·.2)) (hsw : swapsWith (.ListComp elt [⟨tg, iter, ifs, 0⟩] scope pos) (some (.Name y py)) spos.line X.env = pure true) (hy : X.N[i]? = some y := by rfl) (hyl : X.env.scope.names.lookup y = some .local := by rfl) (hs : ∀ x, foldedSetIterable iter X.env x = pure x := by intro _; rfl) :
    DS B X W (.Assign [.Name y py] (.ListComp elt [⟨tg, iter, ifs, 0⟩] scope pos) spos) (mSetO i (mLC (own.map (·.2)) mi g mt me)) :=
  PS.imp (ps_setLc hc hN hy hyl hsw hi (blkOk_by ok) hg ht he hs) fun D σ H h => lc_read hns (tsetO_ok h)
theorem ds_setLc (i : Nat) {y : Str} {py spos : Pos} (hc : X.calm = true) (hN : X.N.Nodup) (hi : DI B X W tg iter mi) (ok : blkC X.N X.env.scope scope own = true)
    (hg : ∀ (s : Shared) (H : Hp) (C : Addr) (cl : List (Str × Addr)) (fp : List Addr), DG B (X.blk s H scope (compEnvC scope cl C X.env) fp) tg ns g)
    (ht : ∀ (s : Shared) (H : Hp) (C : Addr) (cl : List (Str × Addr)) (fp : List Addr), DTs B (X.blk s H scope (compEnvC scope cl C X.env) fp) WF ifs mt)
    (he : ∀ (s : Shared) (H : Hp) (C : Addr) (cl : List (Str × Addr)) (fp : List Addr), DE B (X.blk s H scope (compEnvC scope cl C X.env) fp) WF elt me)
    (hns : ∀ i ∈ ns, i ∈ own.map (·.2)) (hsw : swapsWith (.ListComp elt [⟨tg, iter, ifs, 0⟩] scope pos) (some (.Name y py)) spos.line X.env = pure true) (hy : X.N[i]? = some y := by rfl) (hyl : X.env.scope.names.lookup y = some .local := by rfl) (hs : ∀ x, foldedSetIterable iter X.env x = pure x := by intro _; rfl) :
    DS B X W (.Assign [.Name y py] (.ListComp elt [⟨tg, iter, ifs, 0⟩] scope pos) spos) (mSet i (mFz (mLC (own.map (·.2)) mi g mt me))) :=
  PS.imp (ps_setLc hc hN hy hyl hsw hi (blkOk_by ok) hg ht he hs) fun D σ H h => lc_read hns (fz_read (tset_ok h))
end
end
end AN

set_option Elab.async false
set_option maxRecDepth 100000
set_option autoImplicit false
set_option linter.unusedVariables false
namespace AN
open PySem L2
open PyProof.Rows (envOfC)

/-! ### a def as a plain function -/
inductive Ret where
  | fz (d : D)
  | ow (o : O)
def Ret.toD : Ret → D
  | .fz d => d
  | .ow o => o.toD
abbrev Fn := List Slot → R Ret
/-- the pinned ones as they stand behind, the others as they came -/
def outs : List Slot → Env → List Slot
  | .ow true o :: as, s :: e => s :: outs as e
  | a :: as, _ :: e => a :: outs as e
  | _, _ => []
def runF (n : Nat) (m : M Fl) : Fn := fun args => match m (args ++ List.replicate n .no) with
  | .ok .nx e => .ok (.fz .non) (outs args e)
  | .ok (.rt d) e => .ok (.fz d) (outs args e)
  | .ok (.ro o) e => .ok (.ow o) (outs args e)
  | .exc c d e => .exc c d (outs args e)
  | _ => .bad
def PinOnly (args : List Slot) : Prop := ∀ (i : Nat) (k : Bool) (o : O), args[i]? = some (.ow k o) → k = true
def spOf (B : Bx) (n : Nat) (f : Fn) : Sp := fun vs H Q E => vs.length = n ∧ ∃ F args, Sim B F args (vs.map some) H ∧ PinOnly args ∧ match f args with
  | .ok (.fz d) args' => ∀ v F' H', Step (Own args (vs.map some)) F H F' H' → Sim B F' args' (vs.map some) H' → Rep B F' d v → Q v H'
  | .ok (.ow o) args' => ∀ p F' H', Step (Own args (vs.map some)) F H F' H' → Sim B F' args' (vs.map some) H' → H p = none → F' p = none → OAt B F' H' p o → Q (.ref p) H'
  | .exc c d args' => ∃ C fld, B.exc c = some (C, fld) ∧ ∀ F' H' dx v, Step (Own args (vs.map some)) F H F' H' → Sim B F' args' (vs.map some) H' → H' dx = some (.xd [(fld, v)]) → F' dx = none → H dx = none → Rep B F' d v → E (.ref C) (some dx) H'
  | .bad => False
/-- a plainer function that says the same wherever it says anything -/
theorem spOf.to {B : Bx} {n : Nat} {f g : Fn} (h : ∀ args, args.length = n → PinOnly args → g args ≠ .bad → f args = g args) {vs : List V} {H : Hp} {Q : VK} {E : XK} (s : spOf B n g vs H Q E) : spOf B n f vs H Q E := by
  obtain ⟨hl, F, args, S, po, k⟩ := s
  have ha : args.length = n := by rw [S.len, List.length_map]; exact hl
  refine ⟨hl, F, args, S, po, ?_⟩
  rw [h args ha po (fun z => by rw [z] at k; exact k)]
  exact k
theorem outs_get : ∀ {args : List Slot} {e : Env} {i : Nat} {s : Slot}, args.length ≤ e.length → (outs args e)[i]? = some s → (∃ o, args[i]? = some (.ow true o) ∧ e[i]? = some s) ∨ ((∀ o, args[i]? ≠ some (.ow true o)) ∧ args[i]? = some s)
  | [], e, i, s, _, h => by
    unfold outs at h
    simp at h
  | a :: as, [], i, s, hl, h => by simp at hl
  | a :: as, t :: e, 0, s, hl, h => by
    cases a with
    | no => simp [outs] at h; subst h; exact .inr ⟨(fun o z => by simp at z), rfl⟩
    | fz d => simp [outs] at h; subst h; exact .inr ⟨(fun o z => by simp at z), rfl⟩
    | ow k o =>
      cases k with
      | true => simp [outs] at h; subst h; exact .inl ⟨o, rfl, rfl⟩
      | false => simp [outs] at h; subst h; exact .inr ⟨(fun o z => by simp at z), rfl⟩
  | a :: as, t :: e, i + 1, s, hl, h => by
    have hl' : as.length ≤ e.length := by simpa using hl
    have h' : (outs as e)[i]? = some s := by
      cases a with
      | no => simpa [outs] using h
      | fz d => simpa [outs] using h
      | ow k o => cases k <;> simpa [outs] using h
    simpa using outs_get hl' h'
theorem outs_len : ∀ {args : List Slot} {e : Env}, args.length ≤ e.length → (outs args e).length = args.length
  | [], e, _ => by unfold outs; simp
  | a :: as, [], hl => by simp at hl
  | a :: as, t :: e, hl => by
    have ih := outs_len (args := as) (e := e) (by simpa using hl)
    cases a with
    | no => simp [outs, ih]
    | fz d => simp [outs, ih]
    | ow k o => cases k <;> simp [outs, ih]
section
variable {B : Bx} {X : Cx} {W : WX} {F H F1 H1 F2 H2 : Hp} {env e1 e2 : Env} {σ σ1 σ2 : St}
theorem start_env {args : List Slot} {vs : List V} {N : List Str} {n : Nat} (hn : N.length - vs.length = n) (S : Sim B F args (vs.map some) H) : Sim B F (args ++ List.replicate n .no) (L2.start N vs) H := by
  have hl : args.length = (vs.map some).length := S.len
  have get : ∀ (i : Nat) (s : Slot), s ≠ .no → (args ++ List.replicate n .no)[i]? = some s → args[i]? = some s ∧ (L2.start N vs)[i]? = (vs.map some)[i]? := fun i s hs q => by
    rw [List.getElem?_append] at q
    by_cases hi : i < args.length
    · rw [if_pos hi] at q
      refine ⟨q, ?_⟩
      unfold L2.start
      rw [List.getElem?_append, if_pos (by omega)]
    · rw [if_neg hi, List.getElem?_replicate] at q
      by_cases h2 : i - args.length < n
      · rw [if_pos h2] at q; cases q; exact absurd rfl hs
      · rw [if_neg h2] at q; cases q
  refine ⟨S.hold, ?_, fun i d q => ?_, fun i k o q => ?_, fun i j k o k' o' p a1 a2 b1 b2 => ?_⟩
  · unfold L2.start
    rw [List.length_append, List.length_append, List.length_replicate, List.length_replicate, hn, hl]
  · obtain ⟨e, z⟩ := get i (.fz d) (fun z => nomatch z) q
    rw [z]; exact S.fz i d e
  · obtain ⟨e, z⟩ := get i (.ow k o) (fun z => nomatch z) q
    rw [z]; exact S.ow i k o e
  · obtain ⟨x1, z1⟩ := get i (.ow k o) (fun z => nomatch z) a1
    obtain ⟨x2, z2⟩ := get j (.ow k' o') (fun z => nomatch z) a2
    rw [z1] at b1
    rw [z2] at b2
    exact S.sep i j k o k' o' p x1 x2 b1 b2
theorem start_own {args : List Slot} {vs : List V} {N : List Str} {n : Nat} {b : Addr} (hl : args.length = vs.length) (h : Own (args ++ List.replicate n .no) (L2.start N vs) b) : Own args (vs.map some) b := by
  obtain ⟨i, k, o, q, z⟩ := h
  rw [List.getElem?_append] at q
  by_cases hi : i < args.length
  · rw [if_pos hi] at q
    unfold L2.start at z
    rw [List.getElem?_append, if_pos (by rw [List.length_map]; omega)] at z
    exact ⟨i, k, o, q, z⟩
  · rw [if_neg hi, List.getElem?_replicate] at q
    by_cases h2 : i - args.length < n
    · rw [if_pos h2] at q; cases q
    · rw [if_neg h2] at q; cases q
/-- at the end: the arguments again -/
theorem end_args {args : List Slot} {vs : List V} {N : List Str} {n : Nat} {e' : Env} {σ' : St} (hl : args.length = vs.length) (S : Sim B F args (vs.map some) H) (g : Go B F (args ++ List.replicate n .no) (L2.start N vs) H F1 e' σ' H1) (hle : args.length ≤ e'.length) (po : PinOnly args) :
    Sim B F1 (outs args e') (vs.map some) H1 := by
  have pos : ∀ (i : Nat), i < args.length → (args ++ List.replicate n Slot.no)[i]? = args[i]? ∧ (L2.start N vs)[i]? = (vs.map some)[i]? := fun i hi => by
    refine ⟨by rw [List.getElem?_append, if_pos hi], ?_⟩
    unfold L2.start
    rw [List.getElem?_append, if_pos (by rw [List.length_map]; omega)]
  have pin : ∀ (i : Nat) (o : O), args[i]? = some (.ow true o) → (∃ o', e'[i]? = some (.ow true o')) ∧ σ'[i]? = (vs.map some)[i]? := fun i o q => by
    have hi : i < args.length := (List.getElem?_eq_some_iff.mp q).1
    obtain ⟨p1, p2⟩ := pos i hi
    obtain ⟨a, b⟩ := g.pin i o (by rw [p1]; exact q)
    exact ⟨a, b.trans p2⟩
  refine ⟨g.sim.hold, by rw [outs_len hle]; exact S.len, fun i d q => ?_, fun i k o q => ?_, fun i j k o k' o' p a1 a2 b1 b2 => ?_⟩
  · rcases outs_get hle q with ⟨o, a, b⟩ | ⟨a, b⟩
    · obtain ⟨⟨o', c⟩, _⟩ := pin i o a
      rw [b] at c; cases c
    · obtain ⟨v, c1, c2⟩ := S.fz i d b
      exact ⟨v, c1, Rep.mono g.step.le d v c2⟩
  · rcases outs_get hle q with ⟨o0, a, b⟩ | ⟨a, b⟩
    · obtain ⟨_, z⟩ := pin i o0 a
      obtain ⟨p, c1, c2, c3⟩ := g.sim.ow i k o b
      exact ⟨p, by rw [← z]; exact c1, c2, c3⟩
    · have := po i k o b
      subst this
      exact absurd b (a o)
  · have c : ∀ {i : Nat} {k : Bool} {o : O}, (outs args e')[i]? = some (.ow k o) → ∃ o1, args[i]? = some (.ow true o1) := fun {i k o} q => by
      rcases outs_get hle q with ⟨o0, a, b⟩ | ⟨a, b⟩
      · exact ⟨o0, a⟩
      · have := po i k o b
        subst this
        exact ⟨o, b⟩
    obtain ⟨o1, c1⟩ := c a1
    obtain ⟨o2, c2⟩ := c a2
    exact S.sep i j true o1 true o2 p c1 c2 b1 b2
end
section
variable {B : Bx} {P : Program} {w : World} {K : PySem.W.Frag} {mg : Str → Option Value} {base : Heap}
/-- THE RULE for a def: its body read as m -/
theorem fn_ok {x qual : Str} {st : Stmt} {f : Addr} {fd : FuncData} {N ps : List Str} {k n : Nat} {m : M Fl} (Fd : Fun K x qual st f fd) (S : FnScope N ps (defScope st)) (hn : N.length - ps.length = n) (hnp : ps.length ≤ N.length)
    (hbody : ∀ (cdv : Value) (A : Around) (outer : List PySem.Env) (s : Shared) (H : Hp) (E : XK), Room k (A.deeper (envOfC qual (defScope st) s.heap.objs.size f cdv)) →
      Takes (cxOf (L2.CX P w) P w K mg base N qual (defScope st) f cdv A outer s H E) (fun cls d _ H => E cls d H) →
      PassesOwn (model P w) (A.deeper (envOfC qual (defScope st) s.heap.objs.size f cdv)) (envOfC qual (defScope st) s.heap.objs.size f cdv) (cxOf (L2.CX P w) P w K mg base N qual (defScope st) f cdv A outer s H E).xe →
      DSs B (cxOf (L2.CX P w) P w K mg base N qual (defScope st) f cdv A outer s H E) (fun cls d _ H => E cls d H) (defBody st) m) :
    FnOk P w K mg base (L2.CX P w) (k + 1) f fd ps (spOf B ps.length (runF n m)) := by
  refine Fd.okX S (fun vs H Q E h => h.1) fun cdv A outer s H vs Q E hr h => ?_
  obtain ⟨hl, F, args, Sm, po, h⟩ := h
  refine ⟨_, hbody cdv A outer s H E hr (takes_of rfl rfl rfl rfl) (passes_of rfl), F, args ++ List.replicate n .no, start_env (by rw [hl]; exact hn) Sm, ?_⟩
  have hal : args.length = vs.length := by rw [Sm.len, List.length_map]
  have hlen : ∀ {F' : Hp} {e' : Env} {σ' : St} {H' : Hp}, Go B F (args ++ List.replicate n .no) (L2.start N vs) H F' e' σ' H' → args.length ≤ e'.length := fun {F' e' σ' H'} g => by
    have a := g.sim.len
    have b := (start_env (B := B) (N := N) (n := n) (by rw [hl]; exact hn) Sm).len
    rw [g.len, ← b, List.length_append] at a
    omega
  unfold runF at h
  cases q : m (args ++ List.replicate n .no) with
  | bad => rw [q] at h; exact h
  | exc c d e' =>
    rw [q] at h
    obtain ⟨C, fld, hb, h⟩ := h
    exact ⟨C, fld, hb, fun σ' F' H' dx v g hd hf h0 r => h F' H' dx v (g.step.imp fun b z => start_own hal z) (end_args hal Sm g (hlen g) po) hd hf h0 r⟩
  | ok fl e' =>
    rw [q] at h
    cases fl with
    | nx => exact fun σ' F' H' g => h .non F' H' (g.step.imp fun b z => start_own hal z) (end_args hal Sm g (hlen g) po) rfl
    | rt d => exact fun v σ' F' H' g r => h v F' H' (g.step.imp fun b z => start_own hal z) (end_args hal Sm g (hlen g) po) r
    | ro o =>
      refine fun p σ' F' H' g hp np hf ho => h p F' H' (g.step.imp fun b z => start_own hal z) (end_args hal Sm g (hlen g) po) ?_ hf ho
      rcases hp with ⟨i, o', a, b⟩ | hp
      · exfalso
        rw [List.getElem?_append] at a
        by_cases hi : i < args.length
        · rw [if_pos hi] at a
          have := po i false o' a
          cases this
        · rw [if_neg hi, List.getElem?_replicate] at a
          by_cases h2 : i - args.length < n
          · rw [if_pos h2] at a; cases a
          · rw [if_neg h2] at a; cases a
      · exact hp
    | bk => exact h.elim
    | ct => exact h.elim
end
end AN

set_option Elab.async false
set_option maxRecDepth 100000
set_option autoImplicit false
set_option linter.unusedVariables false
namespace AN
open PySem L2

/-! ### calls of defs that change nothing of their caller's -/
def scalar : D → Bool
  | .non => true
  | .bl _ => true
  | .int _ => true
  | .str _ => true
  | _ => false
theorem scalar_rep {B : Bx} {F F' : Hp} {d : D} {v : V} (h : scalar d = true) (r : Rep B F d v) : Rep B F' d v := by
  cases d with
  | non => exact r
  | bl b => exact r
  | int i => exact r
  | str s => exact r
  | _ => cases h
def callP (n : Nat) (f : Fn) (xs : List Opd) : M Ret := fun env => if xs.length = n then (match frzs xs env with
  | .ok ds e1 => (match f (ds.map .fz) with
    | .ok r _ => if scalar r.toD = true then .ok r env else .ok r e1
    | .exc c d _ => .exc c d e1
    | .bad => .bad)
  | _ => .bad) else .bad
def mCall (n : Nat) (f : Fn) (ms : M (List Opd)) : M Opd := M.bind ms fun xs => M.bind (callP n f xs) fun r => M.pure (.d r.toD)
def retO (r : Ret) : M O := match r with
  | .ow o => M.pure o
  | .fz _ => fun _ => .bad
def mCallO (n : Nat) (f : Fn) (ms : M (List Opd)) : M O := M.bind ms fun xs => M.bind (callP n f xs) retO
section
variable {B : Bx} {X : Cx} {W : WX} {F H F1 H1 F2 H2 : Hp} {env e1 e2 : Env} {σ σ1 σ2 : St} {Q : VK}
theorem OpdsRel.len {vs : List V} {xs : List Opd} (h : OpdsRel B F σ vs xs) : vs.length = xs.length := by
  induction h with
  | nil => rfl
  | cons _ _ ih => simp [ih]
theorem sim_fz {ds : List D} {vs : List V} (hh : Holds F H) (r : RepL B F ds vs) : Sim B F (ds.map .fz) (vs.map some) H where
  hold := hh
  len := by rw [List.length_map, List.length_map, r.length]
  fz := fun i d q => by
    rw [List.getElem?_map] at q
    cases e : ds[i]? with
    | none => rw [e] at q; cases q
    | some d' =>
      rw [e] at q; cases q
      obtain ⟨v, a, b⟩ := r.get e
      exact ⟨v, by rw [List.getElem?_map, a]; rfl, b⟩
  ow := fun i k o q => by
    rw [List.getElem?_map] at q
    cases e : ds[i]? with
    | none => rw [e] at q; cases q
    | some d' => rw [e] at q; cases q
  sep := fun i j k o k' o' p q => by
    rw [List.getElem?_map] at q
    cases e : ds[i]? with
    | none => rw [e] at q; cases q
    | some d' => rw [e] at q; cases q
theorem fz_own {ds : List D} {b : Addr} : ¬ Own (ds.map .fz) σ b := fun ⟨i, k, o, q, _⟩ => by
  rw [List.getElem?_map] at q
  cases e : ds[i]? with
  | none => rw [e] at q; cases q
  | some d' => rw [e] at q; cases q
theorem fz_pin {ds : List D} : PinOnly (ds.map .fz) := fun i k o q => by
  rw [List.getElem?_map] at q
  cases e : ds[i]? with
  | none => rw [e] at q; cases q
  | some d' => rw [e] at q; cases q
/-- the state behind a call that changed nothing of ours, the callee's data forgotten -/
theorem Step0.drop (h : Step0 F H F1 H1) (hh : Holds F H) : Step0 F H F H1 ∧ Holds F H1 := by
  refine ⟨⟨Le.refl F, h.keep, fun b u e => .inl e, h.stay⟩, fun b u e => ?_⟩
  rcases hh b u e with z | ⟨z, o, y⟩
  · exact .inl (h.keep b _ z id)
  · exact .inr ⟨z, o, h.keep b _ y id⟩
/-- a call, by what is wanted of its answer -/
theorem call_read {n : Nat} {f : Fn} {xs : List Opd} {vs : List V} {k : Ret → Env → Hp → Hp → Prop} (S : Sim B F env σ H) (rs : OpdsRel B F σ vs xs) (h : Post B W F env σ H k (callP n f xs env))
    (hq : ∀ r e1 F1 H1, Step (Own env σ) F H F1 H1 → Sim B F1 e1 σ H1 → EnvLe env e1 → (∀ F2 H2, Step (Own env σ) F H F2 H2 → Sim B F2 e1 σ H2 → k r e1 F2 H2) → match r with
      | .fz d => ∀ v, Rep B F1 d v → Q v H1
      | .ow o => ∀ p, H p = none → F1 p = none → OAt B F1 H1 p o → Q (.ref p) H1) : spOf B n f vs H Q (WE W σ) := by
  unfold callP at h
  by_cases hn : xs.length = n
  · rw [if_pos hn] at h
    cases qf : frzs xs env with
    | bad => rw [qf] at h; exact h.elim
    | exc c d e' => rw [qf] at h; exact h.elim
    | ok ds e1 =>
      rw [qf] at h
      obtain ⟨ds', e1', F1, s1, m1, l1, r1, q1⟩ := S.frzs (W := W) rs (k := fun d e _ _ => d = ds ∧ e = e1) (by rw [qf]; exact fun _ _ _ _ _ => ⟨rfl, rfl⟩)
      obtain ⟨rfl, rfl⟩ := q1
      refine ⟨rs.len.trans hn, F1, ds'.map .fz, sim_fz m1.hold r1, fz_pin, ?_⟩
      have s0 : ∀ {F' H' : Hp}, Step (Own (ds'.map .fz) (vs.map some)) F1 H F' H' → Step0 F1 H F' H' := fun s => s.imp fun b z => fz_own z
      have tr : ∀ {F' H' : Hp}, Step0 F1 H F' H' → Step (Own env σ) F H F' H' := fun s => s1.trans s fun _ z => z.elim
      cases qr : f (ds'.map .fz) with
      | bad => simp only [qr] at h; exact h.elim
      | exc c d a' =>
        simp only [qr] at h
        obtain ⟨C, fld, hb, h⟩ := h
        exact ⟨C, fld, hb, fun F' H' dx v s m hd hf h0 r => h F' H' dx v (tr (s0 s)) ⟨m1.step0 (s0 s) m.hold, l1⟩ hd hf h0 r⟩
      | ok r a' =>
        simp only [qr] at h
        cases r with
        | fz d =>
          intro v F' H' s m r
          by_cases hs : scalar d = true
          · rw [if_pos (show scalar (Ret.fz d).toD = true from hs)] at h
            obtain ⟨sd, hd⟩ := Step0.drop (F := F) (H := H) (F1 := F) (H1 := H') ⟨Le.refl F, (s0 s).keep, fun b u e => .inl e, (s0 s).stay⟩ S.hold
            exact hq (.fz d) env F H' sd.any (S.step0 sd hd) (EnvLe.refl _) (fun F2 H2 a b => h F2 H2 a b (EnvLe.refl _)) v (scalar_rep hs r)
          · rw [if_neg (show ¬ scalar (Ret.fz d).toD = true from hs)] at h
            exact hq (.fz d) e1' F' H' (tr (s0 s)) (m1.step0 (s0 s) m.hold) l1 (fun F2 H2 a b => h F2 H2 a b l1) v r
        | ow o =>
          intro p F' H' s m hp hf ho
          have hs : ¬ scalar (Ret.ow o).toD = true := by cases o <;> exact Bool.false_ne_true
          rw [if_neg hs] at h
          exact hq (.ow o) e1' F' H' (tr (s0 s)) (m1.step0 (s0 s) m.hold) l1 (fun F2 H2 a b => h F2 H2 a b l1) p hp hf ho
  · rw [if_neg hn] at h; exact h.elim
variable {e : Expr} {es : List Expr} {ms : M (List Opd)} {pos : Pos}
theorem call_de {n : Nat} {f : Fn} (h : tE B W (mCall n f ms) σ H Q) : tA B W ms σ H fun vs H1 => spOf B n f vs H1 Q (WE W σ) := by
  obtain ⟨F, env, S, h⟩ := h
  refine ⟨F, env, S, (Post.bind S h).mono fun xs e1 F1 H1 s1 m1 l1 k1 vs rvs => ?_⟩
  have k2 := Post.bindPure k1
  refine call_read m1 rvs k2 fun r e2 F2 H2 s2 m2 l2 k3 => ?_
  have k4 : ∀ F3 H3, Step (Own e1 σ) F1 H1 F3 H3 → Sim B F3 e2 σ H3 → ∀ v, Rep B F3 r.toD v → Q v H3 := fun F3 H3 a b v r => k3 F3 H3 a b F3 H3 a b v r
  cases r with
  | fz d => exact fun v r => k4 F2 H2 s2 m2 v r
  | ow o =>
    intro p hp hf ho
    have np : ¬ Own e2 σ p := fun z => by
      obtain ⟨_, u, hu⟩ := (l2.own z).ex m1
      rw [hp] at hu; cases hu
    obtain ⟨u, hu, r⟩ := ho.data hf
    refine k4 (upd F2 p u) H2 ⟨s2.le.trans (Le.upd hf), s2.keep, fun b w q => ?_, s2.stay⟩ (m2.data np hf hu) (.ref p) r
    by_cases hb : b = p
    · subst hb; exact .inr (.inl hp)
    · rw [upd_ne hb] at q; exact s2.new b w q
theorem call_do {n : Nat} {f : Fn} (h : tO B W (mCallO n f ms) σ H Q) : tA B W ms σ H fun vs H1 => spOf B n f vs H1 Q (WE W σ) := by
  obtain ⟨F, env, S, h⟩ := h
  refine ⟨F, env, S, (Post.bind S h).mono fun xs e1 F1 H1 s1 m1 l1 k1 vs rvs => ?_⟩
  refine call_read m1 rvs (Post.bind m1 k1) fun r e2 F2 H2 s2 m2 l2 k3 => ?_
  have k4 := k3 F2 H2 s2 m2
  cases r with
  | fz d => exact k4.elim
  | ow o => exact fun p hp hf ho => Post.here m2 k4 p (s1.back hp) hf ho
variable {k n : Nat} {fa : Addr} {fd : FuncData} {ps : List Str} {f : Fn} {x : Str} {p : Pos}
theorem de_call (G : FnOk X.prog X.w X.K X.mg X.base (L2.CX X.prog X.w) k fa fd ps (spOf B n f)) (hr : Room k X.A) (tk : Takes X W) (hm : X.mg x = some (.ref fa)) (hk : PySem.W.keepIn X.K (.ref fa) = true) (hb : Binds X.K fd ps [])
    (ha : DA B X W (e :: es) ms) (hg : Gl X x := by rfl) (hdb : (x == ("__debug__" : Str)) = false := by decide) (he : starEach (e :: es) X.env = (false, eval e X.env) :: starEach es X.env := by rfl) (hpl : (backTo pos (starEach es X.env)).any (·.1) = false := by rfl) :
    DE B X W (.Call (.Name x p) (e :: es) [] pos) (mCall n f ms) := PE.imp (pe_callS (E := WE W) G hr hg hm hk hb (fun σ => passAt tk σ) ha hdb he hpl) fun σ H Q h => call_de h
theorem do_call (G : FnOk X.prog X.w X.K X.mg X.base (L2.CX X.prog X.w) k fa fd ps (spOf B n f)) (hr : Room k X.A) (tk : Takes X W) (hm : X.mg x = some (.ref fa)) (hk : PySem.W.keepIn X.K (.ref fa) = true) (hb : Binds X.K fd ps [])
    (ha : DA B X W (e :: es) ms) (hg : Gl X x := by rfl) (hdb : (x == ("__debug__" : Str)) = false := by decide) (he : starEach (e :: es) X.env = (false, eval e X.env) :: starEach es X.env := by rfl) (hpl : (backTo pos (starEach es X.env)).any (·.1) = false := by rfl) :
    DO B X W (.Call (.Name x p) (e :: es) [] pos) (mCallO n f ms) := PE.imp (pe_callS (E := WE W) G hr hg hm hk hb (fun σ => passAt tk σ) ha hdb he hpl) fun σ H Q h => call_do h
end
end AN

set_option Elab.async false
set_option maxRecDepth 100000
set_option autoImplicit false
set_option linter.unusedVariables false
namespace AN
open PySem L2

/-! ### calls of defs that change some of their arguments (the marked ones) -/
def frzIn : List Bool → List Opd → M (List D)
  | [], [] => M.pure []
  | true :: sg, _ :: xs => M.bind (frzIn sg xs) fun ds => M.pure (.non :: ds)
  | false :: sg, x :: xs => M.bind (frz1 x) fun d => M.bind (frzIn sg xs) fun ds => M.pure (d :: ds)
  | _, _ => fun _ => .bad
def mkA : List Bool → List Opd → List D → Env → Option (List Slot)
  | [], [], [], _ => some []
  | true :: sg, .sl i :: xs, _ :: ds, env => match env[i]? with
    | some (.ow _ o) => (mkA sg xs ds env).map (.ow true o :: ·)
    | _ => none
  | false :: sg, _ :: xs, d :: ds, env => (mkA sg xs ds env).map (.fz d :: ·)
  | _, _, _, _ => none
def ioS : List Bool → List Opd → List Nat
  | true :: sg, .sl i :: xs => i :: ioS sg xs
  | _ :: sg, _ :: xs => ioS sg xs
  | _, _ => []
def back : List Bool → List Opd → List Slot → Env → Option Env
  | [], [], [], env => some env
  | true :: sg, .sl i :: xs, .ow _ o :: as, env => match env[i]? with
    | some (.ow k _) => back sg xs as (env.set i (.ow k o))
    | _ => none
  | false :: sg, _ :: xs, _ :: as, env => back sg xs as env
  | _, _, _, _ => none
def callM (sg : List Bool) (f : Fn) (xs : List Opd) : M Ret := fun env => if (ioS sg xs).Nodup then (match frzIn sg xs env with
  | .ok ds e1 => (match mkA sg xs ds e1 with
    | some args => (match f args with
      | .ok r args' => (match back sg xs args' e1 with
        | some e2 => .ok r e2
        | none => .bad)
      | .exc c d args' => (match back sg xs args' e1 with
        | some e2 => .exc c d e2
        | none => .bad)
      | .bad => .bad)
    | none => .bad)
  | _ => .bad) else .bad
section
variable {B : Bx} {X : Cx} {W : WX} {F H F1 H1 F2 H2 : Hp} {env e1 e2 : Env} {σ σ1 σ2 : St} {Q : VK}
/-- the arguments that are data -/
inductive ArgD (B : Bx) (F : Hp) : List Bool → List D → List V → Prop
  | nil : ArgD B F [] [] []
  | io {sg : List Bool} {ds : List D} {vs : List V} {d : D} {v : V} (t : ArgD B F sg ds vs) : ArgD B F (true :: sg) (d :: ds) (v :: vs)
  | dat {sg : List Bool} {ds : List D} {vs : List V} {d : D} {v : V} (h : Rep B F d v) (t : ArgD B F sg ds vs) : ArgD B F (false :: sg) (d :: ds) (v :: vs)
theorem ArgD.mono {sg : List Bool} {ds : List D} {vs : List V} (l : Le F F1) (h : ArgD B F sg ds vs) : ArgD B F1 sg ds vs := by
  induction h with
  | nil => exact .nil
  | io _ ih => exact .io ih
  | dat h _ ih => exact .dat (Rep.mono l _ _ h) ih
theorem Sim.frzIn : ∀ {sg : List Bool} {xs : List Opd} {F : Hp} {env : Env} {vs : List V} {k : List D → Env → Hp → Hp → Prop}, Sim B F env σ H → OpdsRel B F σ vs xs → Post B W F env σ H k (AN.frzIn sg xs env) →
    ∃ ds e1 F1, Step (Own env σ) F H F1 H ∧ Sim B F1 e1 σ H ∧ EnvLe env e1 ∧ ArgD B F1 sg ds vs ∧ k ds e1 F1 H
  | [], [], F, env, _, k, S, .nil, h => ⟨[], env, F, Step.refl _ _ _, S, EnvLe.refl _, .nil, h F H (Step.refl _ _ _) S (EnvLe.refl _)⟩
  | [], x :: xs, F, env, _, k, S, _, h => h.elim
  | true :: sg, [], F, env, _, k, S, _, h => h.elim
  | false :: sg, [], F, env, _, k, S, _, h => h.elim
  | true :: sg, x :: xs, F, env, _, k, S, .cons r rs, h => by
    obtain ⟨ds, e2, F2, s2, m2, o2, r2, h2⟩ := S.frzIn rs (Post.bind S h)
    exact ⟨.non :: ds, e2, F2, s2, m2, o2, .io r2, h2 F2 H (Step.refl _ _ _) m2 (EnvLe.refl _)⟩
  | false :: sg, x :: xs, F, env, _, k, S, .cons r rs, h => by
    obtain ⟨d, e1, F1, s1, m1, o1, r1, h1⟩ := S.frz1 r (Post.bind S h)
    obtain ⟨ds, e2, F2, s2, m2, o2, r2, h2⟩ := m1.frzIn (rs.mono s1.le) (Post.bind m1 h1)
    exact ⟨d :: ds, e2, F2, s1.trans s2 fun b z => .inl (o1.own z), m2, o1.trans o2, .dat (Rep.mono s2.le d _ r1) r2, h2 F2 H (Step.refl _ _ _) m2 (EnvLe.refl _)⟩
/-- what an argument list holds, place by place -/
theorem mkA_get : ∀ {sg : List Bool} {xs : List Opd} {ds : List D} {vs : List V} {args : List Slot} {i : Nat} {s : Slot}, mkA sg xs ds env = some args → ArgD B F sg ds vs → OpdsRel B F σ vs xs → args[i]? = some s →
    (∃ d v, s = .fz d ∧ vs[i]? = some v ∧ Rep B F d v) ∨ ∃ j k o v, s = .ow true o ∧ xs[i]? = some (.sl j) ∧ j ∈ ioS sg xs ∧ env[j]? = some (.ow k o) ∧ vs[i]? = some v ∧ σ[j]? = some (some v)
  | [], [], [], _, args, i, s, h, .nil, .nil, e => by
    cases h
    simp at e
  | true :: sg, .d _ :: xs, _, _, args, i, s, h, .io t, .cons r rs, e => by simp [mkA] at h
  | true :: sg, .sl j :: xs, d0 :: ds, v0 :: vs, args, i, s, h, .io t, .cons r rs, e => by
    unfold mkA at h
    cases q : env[j]? with
    | none => rw [q] at h; cases h
    | some sl =>
      rw [q] at h
      cases sl with
      | no => cases h
      | fz _ => cases h
      | ow k o =>
        simp only [Option.map_eq_some_iff] at h
        obtain ⟨as, h, rfl⟩ := h
        cases i with
        | zero =>
          simp only [List.getElem?_cons_zero, Option.some.injEq] at e
          subst e
          exact .inr ⟨j, k, o, _, rfl, rfl, by simp [ioS], q, rfl, r⟩
        | succ i =>
          simp only [List.getElem?_cons_succ] at e
          rcases mkA_get h t rs e with ⟨d, v, a, b, c⟩ | ⟨j', k', o', v, a, b, c, d, e', f⟩
          · exact .inl ⟨d, v, a, by simpa using b, c⟩
          · exact .inr ⟨j', k', o', v, a, by simpa using b, by simp [ioS, c], d, by simpa using e', f⟩
  | false :: sg, x :: xs, d0 :: ds, v0 :: vs, args, i, s, h, .dat hd t, .cons r rs, e => by
    unfold mkA at h
    simp only [Option.map_eq_some_iff] at h
    obtain ⟨as, h, rfl⟩ := h
    cases i with
    | zero =>
      simp only [List.getElem?_cons_zero, Option.some.injEq] at e
      subst e
      exact .inl ⟨_, _, rfl, rfl, hd⟩
    | succ i =>
      simp only [List.getElem?_cons_succ] at e
      rcases mkA_get h t rs e with ⟨d, v, a, b, c⟩ | ⟨j', k', o', v, a, b, c, d, e', f⟩
      · exact .inl ⟨d, v, a, by simpa using b, c⟩
      · refine .inr ⟨j', k', o', v, a, by simpa using b, ?_, d, by simpa using e', f⟩
        cases x <;> simp [ioS, c]
theorem mkA_len : ∀ {sg : List Bool} {xs : List Opd} {ds : List D} {args : List Slot}, mkA sg xs ds env = some args → args.length = xs.length ∧ args.length = sg.length
  | [], [], [], args, h => by cases h; exact ⟨rfl, rfl⟩
  | [], [], _ :: _, args, h => by simp [mkA] at h
  | [], _ :: _, _, args, h => by simp [mkA] at h
  | true :: sg, [], _, args, h => by simp [mkA] at h
  | false :: sg, [], _, args, h => by simp [mkA] at h
  | true :: sg, .d _ :: xs, _, args, h => by simp [mkA] at h
  | true :: sg, .sl j :: xs, [], args, h => by simp [mkA] at h
  | false :: sg, _ :: xs, [], args, h => by simp [mkA] at h
  | true :: sg, .sl j :: xs, d :: ds, args, h => by
    unfold mkA at h
    cases q : env[j]? with
    | none => rw [q] at h; cases h
    | some sl =>
      rw [q] at h
      cases sl with
      | no => cases h
      | fz _ => cases h
      | ow k o =>
        simp only [Option.map_eq_some_iff] at h
        obtain ⟨as, h, rfl⟩ := h
        have := mkA_len h
        exact ⟨by simp [this.1], by simp [this.2]⟩
  | false :: sg, x :: xs, d :: ds, args, h => by
    unfold mkA at h
    simp only [Option.map_eq_some_iff] at h
    obtain ⟨as, h, rfl⟩ := h
    have := mkA_len h
    exact ⟨by simp [this.1], by simp [this.2]⟩
theorem ioS_nd : ∀ {sg : List Bool} {xs : List Opd} {i i' j : Nat}, (ioS sg xs).Nodup → sg[i]? = some true → sg[i']? = some true → xs[i]? = some (.sl j) → xs[i']? = some (.sl j) → i = i'
  | [], _, i, _, _, _, h, _, _, _ => by simp at h
  | _ :: _, [], i, _, _, _, _, _, h, _ => by simp at h
  | b :: sg, x :: xs, i, i', j, hn, a1, a2, b1, b2 => by
    have mem : ∀ {sg : List Bool} {xs : List Opd} {i : Nat}, sg[i]? = some true → xs[i]? = some (.sl j) → j ∈ ioS sg xs := by
      intro sg
      induction sg with
      | nil => intro xs i h; simp at h
      | cons b sg ih =>
        intro xs i h h2
        cases xs with
        | nil => simp at h2
        | cons x xs =>
          cases i with
          | zero =>
            simp at h h2
            subst h; subst h2
            simp [ioS]
          | succ i =>
            have := ih (xs := xs) (i := i) (by simpa using h) (by simpa using h2)
            cases b <;> cases x <;> simp [ioS, this]
    cases i with
    | zero =>
      cases i' with
      | zero => rfl
      | succ i' =>
        simp at a1 b1
        subst a1; subst b1
        simp only [ioS, List.nodup_cons] at hn
        exact absurd (mem (by simpa using a2) (by simpa using b2)) hn.1
    | succ i =>
      cases i' with
      | zero =>
        simp at a2 b2
        subst a2; subst b2
        simp only [ioS, List.nodup_cons] at hn
        exact absurd (mem (by simpa using a1) (by simpa using b1)) hn.1
      | succ i' =>
        have hn' : (ioS sg xs).Nodup := by
          cases b <;> cases x <;> simp_all [ioS]
        have := ioS_nd (i := i) (i' := i') (j := j) hn' (by simpa using a1) (by simpa using a2) (by simpa using b1) (by simpa using b2)
        omega
theorem mkA_sg : ∀ {sg : List Bool} {xs : List Opd} {ds : List D} {args : List Slot} {i : Nat} {k : Bool} {o : O}, mkA sg xs ds env = some args → args[i]? = some (.ow k o) → sg[i]? = some true
  | [], [], [], args, i, k, o, h, e => by cases h; simp at e
  | [], [], _ :: _, args, i, k, o, h, e => by simp [mkA] at h
  | [], _ :: _, _, args, i, k, o, h, e => by simp [mkA] at h
  | true :: sg, [], _, args, i, k, o, h, e => by simp [mkA] at h
  | false :: sg, [], _, args, i, k, o, h, e => by simp [mkA] at h
  | true :: sg, .d _ :: xs, _, args, i, k, o, h, e => by simp [mkA] at h
  | true :: sg, .sl j :: xs, [], args, i, k, o, h, e => by simp [mkA] at h
  | false :: sg, _ :: xs, [], args, i, k, o, h, e => by simp [mkA] at h
  | true :: sg, .sl j :: xs, d :: ds, args, i, k, o, h, e => by
    unfold mkA at h
    cases q : env[j]? with
    | none => rw [q] at h; cases h
    | some sl =>
      rw [q] at h
      cases sl with
      | no => cases h
      | fz _ => cases h
      | ow k o =>
        simp only [Option.map_eq_some_iff] at h
        obtain ⟨as, h, rfl⟩ := h
        cases i with
        | zero => rfl
        | succ i => simpa using mkA_sg h (by simpa using e)
  | false :: sg, x :: xs, d :: ds, args, i, k, o, h, e => by
    unfold mkA at h
    simp only [Option.map_eq_some_iff] at h
    obtain ⟨as, h, rfl⟩ := h
    cases i with
    | zero => simp at e
    | succ i => simpa using mkA_sg h (by simpa using e)
/-- all but the slots L stand right -/
structure SimX (B : Bx) (L : List Nat) (F : Hp) (env : Env) (σ : St) (H : Hp) : Prop where
  hold : Holds F H
  len : env.length = σ.length
  fz : ∀ (i : Nat) (d : D), env[i]? = some (.fz d) → ∃ v, σ[i]? = some (some v) ∧ Rep B F d v
  ow : ∀ (i : Nat) (k : Bool) (o : O), i ∉ L → env[i]? = some (.ow k o) → ∃ p, σ[i]? = some (some (.ref p)) ∧ F p = none ∧ OAt B F H p o
  sep : ∀ (i j : Nat) (k : Bool) (o : O) (k' : Bool) (o' : O) (p : Addr), env[i]? = some (.ow k o) → env[j]? = some (.ow k' o') → σ[i]? = some (some (.ref p)) → σ[j]? = some (some (.ref p)) → i = j
theorem back_sim : ∀ {sg : List Bool} {xs : List Opd} {vs : List V} {args : List Slot} {env e2 : Env}, SimX B (ioS sg xs) F env σ H → OpdsRel B F σ vs xs → (ioS sg xs).Nodup → Sim B F args (vs.map some) H → back sg xs args env = some e2 → Sim B F e2 σ H ∧ EnvLe env e2
  | [], [], _, args, env, e2, S, .nil, nd, A, h => by
    cases args with
    | nil =>
      cases h
      exact ⟨⟨S.hold, S.len, S.fz, fun i k o q => S.ow i k o (by simp [ioS]) q, S.sep⟩, EnvLe.refl _⟩
    | cons _ _ => simp [back] at h
  | [], x :: xs, vs, args, env, e2, S, r, nd, A, h => by simp [back] at h
  | true :: sg, [], vs, args, env, e2, S, r, nd, A, h => by simp [back] at h
  | false :: sg, [], vs, args, env, e2, S, r, nd, A, h => by simp [back] at h
  | true :: sg, .d _ :: xs, vs, args, env, e2, S, r, nd, A, h => by simp [back] at h
  | true :: sg, .sl i :: xs, _, [], env, e2, S, .cons r rs, nd, A, h => by simp [back] at h
  | true :: sg, .sl i :: xs, _, .no :: as, env, e2, S, .cons r rs, nd, A, h => by simp [back] at h
  | true :: sg, .sl i :: xs, _, .fz _ :: as, env, e2, S, .cons r rs, nd, A, h => by simp [back] at h
  | false :: sg, x :: xs, _, [], env, e2, S, .cons r rs, nd, A, h => by simp [back] at h
  | true :: sg, .sl i :: xs, v :: vs, .ow k0 o :: as, env, e2, S, .cons r rs, nd, A, h => by
    unfold back at h
    have tail : Sim B F as (vs.map some) H := ⟨A.hold, by simpa using A.len, fun j d q => by simpa using A.fz (j + 1) d (by simpa using q), fun j k o q => by simpa using A.ow (j + 1) k o (by simpa using q), fun j j' k o k' o' p a b c d => by
      have := A.sep (j + 1) (j' + 1) k o k' o' p (by simpa using a) (by simpa using b) (by simpa using c) (by simpa using d)
      omega⟩
    cases q : env[i]? with
    | none => rw [q] at h; cases h
    | some sl =>
      rw [q] at h
      cases sl with
      | no => cases h
      | fz _ => cases h
      | ow k o1 =>
        simp only at h
        simp only [ioS, List.nodup_cons] at nd
        obtain ⟨p, a1, a2, a3⟩ := A.ow 0 k0 o rfl
        have r : σ[i]? = some (some v) := r
        have ev : v = .ref p := by simpa using a1
        subst ev
        have il : i < env.length := (List.getElem?_eq_some_iff.mp q).1
        have S' : SimX B (ioS sg xs) F (env.set i (.ow k o)) σ H := by
          refine ⟨S.hold, by rw [List.length_set]; exact S.len, fun j d z => ?_, fun j k' o' nj z => ?_, fun j j' k1 o1' k2 o2' p' c1 c2 d1 d2 => ?_⟩
          · rcases getElem?_setS z with ⟨_, e⟩ | ⟨_, e⟩
            · cases e
            · exact S.fz j d e
          · rcases getElem?_setS z with ⟨rfl, e⟩ | ⟨ne, e⟩
            · cases e; exact ⟨p, r, a2, a3⟩
            · exact S.ow j k' o' (by simp [ioS, Ne.symm ne, nj]) e
          · have f : ∀ {j : Nat} {k1 : Bool} {o1' : O}, (env.set i (.ow k o))[j]? = some (.ow k1 o1') → ∃ k2 o2, env[j]? = some (.ow k2 o2) := fun {j k1 o1'} z => by
              rcases getElem?_setS z with ⟨rfl, e⟩ | ⟨ne, e⟩
              · exact ⟨k, o1, q⟩
              · exact ⟨_, _, e⟩
            obtain ⟨_, _, x1⟩ := f c1
            obtain ⟨_, _, x2⟩ := f c2
            exact S.sep j j' _ _ _ _ p' x1 x2 d1 d2
        obtain ⟨s2, l2⟩ := back_sim S' rs nd.2 tail h
        refine ⟨s2, ⟨fun j k' o' z => ?_, fun j o' z => ?_⟩⟩
        · obtain ⟨o2, y⟩ := l2.dn j k' o' z
          rcases getElem?_setS y with ⟨rfl, e⟩ | ⟨ne, e⟩
          · cases e; exact ⟨o1, q⟩
          · exact ⟨o2, e⟩
        · by_cases hj : i = j
          · subst hj
            rw [q] at z; cases z
            exact l2.up i o (List.getElem?_set_self il)
          · exact l2.up j o' (by rw [List.getElem?_set_ne hj]; exact z)
  | false :: sg, x :: xs, v :: vs, a :: as, env, e2, S, .cons r rs, nd, A, h => by
    unfold back at h
    have tail : Sim B F as (vs.map some) H := ⟨A.hold, by simpa using A.len, fun j d q => by simpa using A.fz (j + 1) d (by simpa using q), fun j k o q => by simpa using A.ow (j + 1) k o (by simpa using q), fun j j' k o k' o' p a b c d => by
      have := A.sep (j + 1) (j' + 1) k o k' o' p (by simpa using a) (by simpa using b) (by simpa using c) (by simpa using d)
      omega⟩
    have e0 : ioS (false :: sg) (x :: xs) = ioS sg xs := by cases x <;> rfl
    rw [e0] at S nd
    exact back_sim S rs nd tail h
theorem callM_read {sg : List Bool} {f : Fn} {xs : List Opd} {vs : List V} {k : Ret → Env → Hp → Hp → Prop} (S : Sim B F env σ H) (rs : OpdsRel B F σ vs xs) (h : Post B W F env σ H k (callM sg f xs env))
    (hq : ∀ r e1 F1 H1, Step (Own env σ) F H F1 H1 → Sim B F1 e1 σ H1 → EnvLe env e1 → (∀ F2 H2, Step (Own env σ) F H F2 H2 → Sim B F2 e1 σ H2 → k r e1 F2 H2) → match r with
      | .fz d => ∀ v, Rep B F1 d v → Q v H1
      | .ow o => ∀ p, H p = none → F1 p = none → OAt B F1 H1 p o → Q (.ref p) H1) : spOf B sg.length f vs H Q (WE W σ) := by
  unfold callM at h
  by_cases hn : (ioS sg xs).Nodup
  · rw [if_pos hn] at h
    cases qf : AN.frzIn sg xs env with
    | bad => rw [qf] at h; exact h.elim
    | exc c d e' => rw [qf] at h; exact h.elim
    | ok ds e1 =>
      rw [qf] at h
      obtain ⟨ds', e1', F1, s1, m1, l1, r1, q1⟩ := S.frzIn (W := W) rs (k := fun d e _ _ => d = ds ∧ e = e1) (by rw [qf]; exact fun _ _ _ _ _ => ⟨rfl, rfl⟩)
      obtain ⟨rfl, rfl⟩ := q1
      cases qa : mkA sg xs ds' e1' with
      | none => simp only [qa] at h; exact h.elim
      | some args =>
        simp only [qa] at h
        have rs1 := rs.mono s1.le
        obtain ⟨hl1, hl2⟩ := mkA_len qa
        have vl : vs.length = args.length := by rw [hl1]; exact rs.len
        have get : ∀ {i : Nat} {s : Slot}, args[i]? = some s → _ := fun {i s} e => mkA_get (i := i) (s := s) qa r1 rs1 e
        have ioOf : ∀ {i : Nat} {k : Bool} {o : O}, args[i]? = some (.ow k o) → k = true ∧ ∃ j k' v, xs[i]? = some (.sl j) ∧ j ∈ ioS sg xs ∧ e1'[j]? = some (.ow k' o) ∧ vs[i]? = some v ∧ σ[j]? = some (some v) := fun {i k o} e => by
          rcases get e with ⟨d, v, a, _⟩ | ⟨j, k', o', v, a, b, c, d, e', f⟩
          · cases a
          · cases a; exact ⟨rfl, j, k', v, b, c, d, e', f⟩
        have Sa : Sim B F1 args (vs.map some) H := by
          refine ⟨m1.hold, by rw [List.length_map, vl], fun i d q => ?_, fun i k o q => ?_, fun i i' k o k' o' p a1 a2 b1 b2 => ?_⟩
          · rcases get q with ⟨d', v, a, b, c⟩ | ⟨j, k', o', v, a, _⟩
            · cases a; exact ⟨v, by rw [List.getElem?_map, b]; rfl, c⟩
            · cases a
          · obtain ⟨_, j, k', v, _, _, d, e', f⟩ := ioOf q
            obtain ⟨p, x1, x2, x3⟩ := m1.ow j k' o d
            rw [f] at x1; cases x1
            exact ⟨p, by rw [List.getElem?_map, e']; rfl, x2, x3⟩
          · obtain ⟨_, j, k1, v, c1, _, d1, e1, f1⟩ := ioOf a1
            obtain ⟨_, j', k2, v', c2, _, d2, e2, f2⟩ := ioOf a2
            rw [List.getElem?_map, e1] at b1
            rw [List.getElem?_map, e2] at b2
            cases b1; cases b2
            have := m1.sep j j' k1 o k2 o' p d1 d2 f1 f2
            subst this
            exact ioS_nd hn (mkA_sg qa a1) (mkA_sg qa a2) c1 c2
        have po : PinOnly args := fun i k o q => (ioOf q).1
        have ownA : ∀ {b : Addr}, Own args (vs.map some) b → ∃ j k o, j ∈ ioS sg xs ∧ e1'[j]? = some (.ow k o) ∧ σ[j]? = some (some (.ref b)) := fun {b} ⟨i, k, o, q, z⟩ => by
          obtain ⟨_, j, k', v, _, c, d, e', f⟩ := ioOf q
          rw [List.getElem?_map, e'] at z
          cases z
          exact ⟨j, k', o, c, d, f⟩
        have tr : ∀ {F' H' : Hp}, Step (Own args (vs.map some)) F1 H F' H' → Step (Own env σ) F H F' H' := fun s => s1.trans s fun b z => by
          obtain ⟨j, k, o, _, a, c⟩ := ownA z
          exact .inl (l1.own ⟨j, k, o, a, c⟩)
        have sx : ∀ {F' H' : Hp} {args' : List Slot}, Step (Own args (vs.map some)) F1 H F' H' → Sim B F' args' (vs.map some) H' → SimX B (ioS sg xs) F' e1' σ H' := fun {F' H' args'} s m => by
          refine ⟨m.hold, m1.len, fun i d q => ?_, fun i k o ni q => ?_, m1.sep⟩
          · obtain ⟨v, a, b⟩ := m1.fz i d q
            exact ⟨v, a, Rep.mono s.le d v b⟩
          · obtain ⟨p, a, b, c⟩ := m1.ow i k o q
            have np : ¬ Own args (vs.map some) p := fun z => by
              obtain ⟨j, k', o', hj, x1, x2⟩ := ownA z
              have := m1.sep i j k o k' o' p q x1 a x2
              subst this
              exact ni hj
            obtain ⟨u, hu⟩ := c.ex
            refine ⟨p, a, ?_, c.mono s.le fun u e => s.keep p u e np⟩
            cases w : F' p with
            | none => rfl
            | some w' =>
              rcases s.new p w' w with y | y | y
              · rw [b] at y; cases y
              · rw [hu] at y; cases y
              · exact absurd y np
        refine ⟨by rw [vl, hl2], F1, args, Sa, po, ?_⟩
        cases qr : f args with
        | bad => simp only [qr] at h; exact h.elim
        | exc c d a' =>
          simp only [qr] at h
          cases qb : back sg xs a' e1' with
          | none => simp only [qb] at h; exact h.elim
          | some e2 =>
            simp only [qb] at h
            obtain ⟨C, fld, hb, h⟩ := h
            refine ⟨C, fld, hb, fun F' H' dx v s m hd hf h0 r => ?_⟩
            obtain ⟨s2, l2⟩ := back_sim (sx s m) (rs1.mono s.le) hn m qb
            exact h F' H' dx v (tr s) ⟨s2, l1.trans l2⟩ hd hf h0 r
        | ok r a' =>
          simp only [qr] at h
          cases qb : back sg xs a' e1' with
          | none => simp only [qb] at h; exact h.elim
          | some e2 =>
            simp only [qb] at h
            cases r with
            | fz d =>
              intro v F' H' s m r
              obtain ⟨s2, l2⟩ := back_sim (sx s m) (rs1.mono s.le) hn m qb
              exact hq (.fz d) e2 F' H' (tr s) s2 (l1.trans l2) (fun F2 H2 a b => h F2 H2 a b (l1.trans l2)) v r
            | ow o =>
              intro p F' H' s m hp hf ho
              obtain ⟨s2, l2⟩ := back_sim (sx s m) (rs1.mono s.le) hn m qb
              exact hq (.ow o) e2 F' H' (tr s) s2 (l1.trans l2) (fun F2 H2 a b => h F2 H2 a b (l1.trans l2)) p hp hf ho
  · rw [if_neg hn] at h; exact h.elim
def mCallM (sg : List Bool) (f : Fn) (ms : M (List Opd)) : M Opd := M.bind ms fun xs => M.bind (callM sg f xs) fun r => M.pure (.d r.toD)
def mCallMO (sg : List Bool) (f : Fn) (ms : M (List Opd)) : M O := M.bind ms fun xs => M.bind (callM sg f xs) retO
variable {e : Expr} {es : List Expr} {ms : M (List Opd)} {pos : Pos}
theorem callM_de {sg : List Bool} {f : Fn} (h : tE B W (mCallM sg f ms) σ H Q) : tA B W ms σ H fun vs H1 => spOf B sg.length f vs H1 Q (WE W σ) := by
  obtain ⟨F, env, S, h⟩ := h
  refine ⟨F, env, S, (Post.bind S h).mono fun xs e1 F1 H1 s1 m1 l1 k1 vs rvs => ?_⟩
  have k2 := Post.bindPure k1
  refine callM_read m1 rvs k2 fun r e2 F2 H2 s2 m2 l2 k3 => ?_
  have k4 : ∀ F3 H3, Step (Own e1 σ) F1 H1 F3 H3 → Sim B F3 e2 σ H3 → ∀ v, Rep B F3 r.toD v → Q v H3 := fun F3 H3 a b v r => k3 F3 H3 a b F3 H3 a b v r
  cases r with
  | fz d => exact fun v r => k4 F2 H2 s2 m2 v r
  | ow o =>
    intro p hp hf ho
    have np : ¬ Own e2 σ p := fun z => by
      obtain ⟨_, u, hu⟩ := (l2.own z).ex m1
      rw [hp] at hu; cases hu
    obtain ⟨u, hu, r⟩ := ho.data hf
    refine k4 (upd F2 p u) H2 ⟨s2.le.trans (Le.upd hf), s2.keep, fun b w q => ?_, s2.stay⟩ (m2.data np hf hu) (.ref p) r
    by_cases hb : b = p
    · subst hb; exact .inr (.inl hp)
    · rw [upd_ne hb] at q; exact s2.new b w q
theorem callM_do {sg : List Bool} {f : Fn} (h : tO B W (mCallMO sg f ms) σ H Q) : tA B W ms σ H fun vs H1 => spOf B sg.length f vs H1 Q (WE W σ) := by
  obtain ⟨F, env, S, h⟩ := h
  refine ⟨F, env, S, (Post.bind S h).mono fun xs e1 F1 H1 s1 m1 l1 k1 vs rvs => ?_⟩
  refine callM_read m1 rvs (Post.bind m1 k1) fun r e2 F2 H2 s2 m2 l2 k3 => ?_
  have k4 := k3 F2 H2 s2 m2
  cases r with
  | fz d => exact k4.elim
  | ow o => exact fun p hp hf ho => Post.here m2 k4 p (s1.back hp) hf ho
variable {k : Nat} {fa : Addr} {fd : FuncData} {ps : List Str} {f : Fn} {x : Str} {p : Pos} {sg : List Bool}
theorem de_callM (G : FnOk X.prog X.w X.K X.mg X.base (L2.CX X.prog X.w) k fa fd ps (spOf B sg.length f)) (hr : Room k X.A) (tk : Takes X W) (hm : X.mg x = some (.ref fa)) (hk : PySem.W.keepIn X.K (.ref fa) = true) (hb : Binds X.K fd ps [])
    (ha : DA B X W (e :: es) ms) (hg : Gl X x := by rfl) (hdb : (x == ("__debug__" : Str)) = false := by decide) (he : starEach (e :: es) X.env = (false, eval e X.env) :: starEach es X.env := by rfl) (hpl : (backTo pos (starEach es X.env)).any (·.1) = false := by rfl) :
    DE B X W (.Call (.Name x p) (e :: es) [] pos) (mCallM sg f ms) := PE.imp (pe_callS (E := WE W) G hr hg hm hk hb (fun σ => passAt tk σ) ha hdb he hpl) fun σ H Q h => callM_de h
theorem do_callM (G : FnOk X.prog X.w X.K X.mg X.base (L2.CX X.prog X.w) k fa fd ps (spOf B sg.length f)) (hr : Room k X.A) (tk : Takes X W) (hm : X.mg x = some (.ref fa)) (hk : PySem.W.keepIn X.K (.ref fa) = true) (hb : Binds X.K fd ps [])
    (ha : DA B X W (e :: es) ms) (hg : Gl X x := by rfl) (hdb : (x == ("__debug__" : Str)) = false := by decide) (he : starEach (e :: es) X.env = (false, eval e X.env) :: starEach es X.env := by rfl) (hpl : (backTo pos (starEach es X.env)).any (·.1) = false := by rfl) :
    DO B X W (.Call (.Name x p) (e :: es) [] pos) (mCallMO sg f ms) := PE.imp (pe_callS (E := WE W) G hr hg hm hk hb (fun σ => passAt tk σ) ha hdb he hpl) fun σ H Q h => callM_do h
end
end AN

set_option Elab.async false
set_option maxRecDepth 100000
set_option autoImplicit false
set_option linter.unusedVariables false
namespace AN
open PySem L2

section
variable {B : Bx} {X : Cx} {W : WX} {F H : Hp} {env : Env} {σ : St} {Q : VK}
/-! ### arithmetic -/
theorem okS_app {x y : Str} (hx : okS x) (hy : okS y) (h : x.length + y.length ≤ sizeLine) : okS (x ++ y) := by
  refine ⟨?_, ?_⟩
  · show (x.cps ++ y.cps).size ≤ sizeLine
    rw [Array.size_append]; exact h
  · have h1 := hx.2
    have h2 := hy.2
    unfold PyData.strOk at h1 h2 ⊢
    show (x.cps ++ y.cps).all _ = true
    rw [Array.all_append, h1, h2]; rfl
/-- list + list -/
def rCatL (K : PySem.W.Frag) : R2 := fun x y H Q => ∃ l b xs zs, x = .ref l ∧ y = .ref b ∧ SqL K H l xs ∧ SqL K H b zs ∧ xs.length + zs.length ≤ sizeLine ∧ ∀ p, H p = none → Q (.ref p) (upd H p (.lst (xs ++ zs)))
theorem op_catL : OpR X (binaryOp .Add) (rCatL X.K) := by
  intro pins s σ H x y v u Q I rx ry h
  obtain ⟨l, b, xs, zs, e1, e2, hl, hb, hz, q⟩ := h
  subst e1; subst e2
  cases rx; cases ry
  obtain ⟨its, r, ⟨⟨c1, d1, t1, s1⟩, n, ea, hc1, _, hd1⟩, za⟩ := I.list hl
  obtain ⟨its2, r2, ⟨⟨c2, d2, t2, s2⟩, n2, eb, hc2, _, hd2⟩, zb⟩ := I.list hb
  simp only at hc1 hd1 hc2 hd2
  subst hc1 hd1 hc2 hd2
  have la : its.length = xs.length := (Paired.length r).symm
  have lb : its2.length = zs.length := (Paired.length r2).symm
  refine concat_meets ⟨_, ea, rfl⟩ ⟨_, eb, rfl⟩ noFill_list_add seq_list_add F.slot_list_add F.entry_list_add (F.args_list_add_2 _ _) (PyProof.Rows.list_addW l b its.toArray its2.toArray n n2 d1 d2 s1 s2 (by rw [List.size_toArray, List.size_toArray]; omega)) ⟨ea, eb, ?_⟩
  have ec : its.toArray ++ its2.toArray = (its ++ its2).toArray := by simp
  rw [ec]
  exact ⟨.ref _, _, I.lnew (t' := s.toks) (r.append r2) (by rw [List.length_append]; omega), rfl, q _ I.fresh⟩
def dAdd : D → D → Option D
  | .int i, .int j => some (.int (i + j))
  | .str x, .str y => if x.length + y.length ≤ sizeLine then some (.str (x ++ y)) else none
  | .lst xs, .lst ys => if xs.length + ys.length ≤ sizeLine then some (.lst (xs ++ ys)) else none
  | .tup xs, .tup ys => if xs.length + ys.length ≤ sizeLine then some (.tup (xs ++ ys)) else none
  | _, _ => none
abbrev rAddAll (K : PySem.W.Frag) : R2 := fun x y H Q => (rI0 fun i j => .int (i + j)) x y H Q ∨ ((∃ i j, x = .str i ∧ y = .str j ∧ i.length + j.length ≤ sizeLine ∧ Q (.str (i ++ j)) H) ∨ (rCatL K x y H Q ∨ rCatA K x y H Q))
theorem op_addAll : OpR X (binaryOp .Add) (rAddAll X.K) := OpR.or op_add (OpR.or op_add_str (OpR.or op_catL op_catA))
theorem Prim2.mk {g : D → D → Option D} {r : R2} (h : ∀ (F H : Hp) (a b z : D) (x y : V) (Q : VK), Holds F H → Seen B F H a x → Seen B F H b y → g a b = some z → (∀ v F' H', Step0 F H F' H' → Holds F' H' → Rep B F' z v → Q v H') → r x y H Q) : Prim2 B g r := h
theorem p_add (hK : X.K = B.K) : Prim2 B dAdd (rAddAll X.K) := fun F H a b z x y Q hh sa sb e q => by
  have here : ∀ v, Rep B F z v → Q v H := fun v r => q v F H (Step.refl _ _ _) hh r
  cases a with
  | int i =>
    cases b with
    | int j => cases e; cases (show x = .int i from sa); cases (show y = .int j from sb); exact .inl ⟨i, j, rfl, rfl, here _ rfl⟩
    | _ => cases e
  | str i =>
    cases b with
    | str j =>
      obtain ⟨rfl, o1⟩ := sa
      obtain ⟨rfl, o2⟩ := sb
      dsimp only [dAdd] at e
      by_cases hl : i.length + j.length ≤ sizeLine
      · rw [if_pos hl] at e; cases e
        exact .inr (.inl ⟨i, j, rfl, rfl, hl, here _ ⟨rfl, okS_app o1 o2 hl⟩⟩)
      · rw [if_neg hl] at e; cases e
    | _ => cases e
  | lst xs =>
    cases b with
    | lst ys =>
      obtain ⟨p, vs, rfl, a1, z1, r1⟩ := sa
      obtain ⟨p2, vs2, rfl, a2, z2, r2⟩ := sb
      dsimp only [dAdd] at e
      by_cases hl : xs.length + ys.length ≤ sizeLine
      · rw [if_pos hl] at e; cases e
        refine .inr (.inr (.inl ⟨p, p2, vs, vs2, rfl, rfl, by rw [hK]; exact a1, by rw [hK]; exact a2, by rw [r1.length, r2.length]; exact hl, fun p3 hp => ?_⟩))
        obtain ⟨s3, h3⟩ := step0_new (u := .lst (vs ++ vs2)) hh hp
        exact q _ _ _ s3 h3 ⟨p3, _, rfl, .inl upd_same, by rw [List.length_append]; exact hl, (r1.mono s3.le).append (r2.mono s3.le)⟩
      · rw [if_neg hl] at e; cases e
    | _ => cases e
  | tup xs =>
    cases b with
    | tup ys =>
      have sa' := sa
      have sb' := sb
      obtain ⟨p, vs, rfl, a1, z1, r1⟩ := sa
      obtain ⟨p2, vs2, rfl, a2, z2, r2⟩ := sb
      dsimp only [dAdd] at e
      by_cases hl : xs.length + ys.length ≤ sizeLine
      · rw [if_pos hl] at e; cases e
        refine .inr (.inr (.inr ⟨p, p2, vs, vs2, rfl, rfl, by rw [hK]; exact a1.sq hh, by rw [hK]; exact a2.sq hh, by rw [r1.length, r2.length]; exact hl, fun e0 => ?_, fun _ e1 => ?_, fun _ _ p3 hp => ?_⟩))
        · subst e0
          have : xs = [] := List.length_eq_zero_iff.mp (by rw [← r1.length]; rfl)
          subst this
          exact here _ sb'
        · subst e1
          have : ys = [] := List.length_eq_zero_iff.mp (by rw [← r2.length]; rfl)
          subst this
          refine here _ ?_
          rw [List.append_nil]; exact sa'
        · obtain ⟨s3, h3⟩ := step0_new (u := .tup (vs ++ vs2)) hh hp
          exact q _ _ _ s3 h3 ⟨p3, _, rfl, .inl upd_same, by rw [List.length_append]; exact hl, (r1.mono s3.le).append (r2.mono s3.le)⟩
      · rw [if_neg hl] at e; cases e
    | _ => cases e
  | _ => cases e
theorem de_add {a b : Expr} {ma mb : M Opd} {pos : Pos} (hK : X.K = B.K) (ha : DE B X W a ma) (hb : DE B X W b mb) : DE B X W (.BinOp a .Add b pos) (mD (mB2 dAdd ma mb)) := de_bin op_addAll (p_add hK) ha hb
/-- two ints -/
def dI (C : Int → Int → Bool) (g : Int → Int → D) : D → D → Option D
  | .int i, .int j => if C i j = true then some (g i j) else none
  | _, _ => none
theorem p_I {C : Int → Int → Prop} {Cb : Int → Int → Bool} {g : Int → Int → V} {gd : Int → Int → D} (hC : ∀ i j, Cb i j = true → C i j) (hg : ∀ F i j, Rep B F (gd i j) (g i j)) : Prim2 B (dI Cb gd) (rI C g) := fun F H a b z x y Q hh sa sb e q => by
  cases a with
  | int i =>
    cases b with
    | int j =>
      dsimp only [dI] at e
      by_cases hc : Cb i j = true
      · rw [if_pos hc] at e; cases e; cases (show x = .int i from sa); cases (show y = .int j from sb)
        exact ⟨i, j, rfl, rfl, hC i j hc, q _ F H (Step.refl _ _ _) hh (hg F i j)⟩
      · rw [if_neg hc] at e; cases e
    | _ => cases e
  | _ => cases e
theorem p_I0 {g : Int → Int → V} {gd : Int → Int → D} (hg : ∀ F i j, Rep B F (gd i j) (g i j)) : Prim2 B (dI (fun _ _ => true) gd) (rI0 g) := fun F H a b z x y Q hh sa sb e q => by
  obtain ⟨i, j, e1, e2, _, h⟩ := p_I (B := B) (C := fun _ _ => True) (Cb := fun _ _ => true) (fun _ _ _ => trivial) hg F H a b z x y Q hh sa sb e q
  exact ⟨i, j, e1, e2, h⟩
abbrev dSub := dI (fun _ _ => true) fun i j => .int (i - j)
abbrev dMod := dI (fun _ j => decide (0 < j)) fun i j => .int (i % j)
abbrev dFdiv := dI (fun _ j => decide (0 < j) && decide (j < 2 ^ 64)) fun i j => .int (i / j)
abbrev dPow := dI (fun i j => decide (0 ≤ j) && decide (j ≤ 1000000) && decide (i.natAbs < 2 ^ 64)) fun i j => .int (i ^ j.toNat)
abbrev dMulI := dI (fun i j => (decide (-(2 ^ 64) < i) && decide (i < 2 ^ 64)) || (decide (-(2 ^ 64) < j) && decide (j < 2 ^ 64))) fun i j => .int (i * j)
abbrev dLt := dI (fun _ _ => true) fun i j => .bl (decide (i < j))
abbrev dLe := dI (fun _ _ => true) fun i j => .bl (decide (i ≤ j))
abbrev dGt := dI (fun _ _ => true) fun i j => .bl (decide (j < i))
abbrev dGe := dI (fun _ _ => true) fun i j => .bl (decide (j ≤ i))
variable {a b c e : Expr} {ma mb mc : M Opd} {pos : Pos}
theorem de_sub (ha : DE B X W a ma) (hb : DE B X W b mb) : DE B X W (.BinOp a .Sub b pos) (mD (mB2 dSub ma mb)) := de_bin op_sub (p_I0 fun _ _ _ => rfl) ha hb
theorem de_mod (ha : DE B X W a ma) (hb : DE B X W b mb) : DE B X W (.BinOp a .Mod b pos) (mD (mB2 dMod ma mb)) := de_bin op_mod (p_I (fun _ _ h => of_decide_eq_true h) fun _ _ _ => rfl) ha hb
theorem de_fdiv (ha : DE B X W a ma) (hb : DE B X W b mb) : DE B X W (.BinOp a .FloorDiv b pos) (mD (mB2 dFdiv ma mb)) := de_bin op_fdivW (p_I (fun i j h => by
  simp only [Bool.and_eq_true, decide_eq_true_eq] at h
  exact wide_div (b := 64) h.1 (by omega) (by decide) (by decide)) fun _ _ _ => rfl) ha hb
theorem de_pow (ha : DE B X W a ma) (hb : DE B X W b mb) : DE B X W (.BinOp a .Pow b pos) (mD (mB2 dPow ma mb)) := de_bin op_pow (p_I (fun i j h => by
  simp only [Bool.and_eq_true, decide_eq_true_eq] at h
  exact ⟨h.1.1, h.1.2, h.2⟩) fun _ _ _ => rfl) ha hb
theorem de_mulI (ha : DE B X W a ma) (hb : DE B X W b mb) : DE B X W (.BinOp a .Mult b pos) (mD (mB2 dMulI ma mb)) := de_bin op_mul (p_I (fun i j h => by
  simp only [Bool.or_eq_true, Bool.and_eq_true, decide_eq_true_eq] at h
  exact h) fun _ _ _ => rfl) ha hb
def dNeg : D → Option D
  | .int i => some (.int (-i))
  | _ => none
theorem de_neg (ha : DE B X W a ma) : DE B X W (.UnaryOp .USub a pos) (mD (mB1 dNeg ma)) := de_un un_neg (fun F H a z x Q hh sa e q => by
  cases a with
  | int i => cases e; cases (show x = .int i from sa); exact ⟨i, rfl, q _ F H (Step.refl _ _ _) hh rfl⟩
  | _ => cases e) ha
/-! ### comparisons -/
theorem p_lt : Prim2 B dLt (rI0 fun i j => .bl (decide (i < j))) := p_I0 fun _ _ _ => rfl
theorem p_le : Prim2 B dLe (rI0 fun i j => .bl (decide (i ≤ j))) := p_I0 fun _ _ _ => rfl
theorem p_gt : Prim2 B dGt (rI0 fun i j => .bl (decide (j < i))) := p_I0 fun _ _ _ => rfl
theorem p_ge : Prim2 B dGe (rI0 fun i j => .bl (decide (j ≤ i))) := p_I0 fun _ _ _ => rfl
/-- x is None, True, False -/
def dIs : D → D → Option D
  | .non, .non => some (.bl true)
  | _, .non => some (.bl false)
  | .bl a, .bl b => some (.bl (decide (a = b)))
  | .int _, .bl _ => some (.bl false)
  | .str _, .bl _ => some (.bl false)
  | .non, .bl _ => some (.bl false)
  | _, _ => none
end
end AN

set_option Elab.async false
set_option maxRecDepth 100000
set_option autoImplicit false
set_option linter.unusedVariables false
namespace AN
open PySem L2

/-! ### equality of data -/
mutual
def toP : D → PyData
  | .non => .none
  | .bl b => .bool b
  | .int i => .int i
  | .str s => .str s
  | .lst xs => .list (toPs xs)
  | .tup xs => .tuple (toPs xs)
  | .dic _ => .none
  | .obj _ _ => .none
def toPs : List D → List PyData
  | [] => []
  | d :: ds => toP d :: toPs ds
end
/-- no dict, no object within, at most n deep -/
def dle : Nat → D → Bool
  | 0, d => scalar d
  | n + 1, d => match d with
    | .lst xs => xs.all (dle n)
    | .tup xs => xs.all (dle n)
    | d => scalar d
def deqv (a b : D) : Bool := PyData.eqv (toP a) (toP b)
def deqvs (a b : List D) : Bool := PyData.eqvAll (toPs a) (toPs b)
section
variable {B : Bx} {X : Cx} {W : WX} {F H : Hp} {env : Env} {σ : St} {Q : VK}
theorem dp_scal {K : PySem.W.Frag} {d : D} {v : V} (h : scalar d = true) (r : Rep B F d v) : Dp K H v (toP d) ∧ PyData.canLay0 (toP d) = true ∧ PyData.depth (toP d) = 0 := by
  cases d with
  | non => cases (show v = .non from r); exact ⟨.non, rfl, rfl⟩
  | bl b => cases (show v = .bl b from r); exact ⟨.bl b, rfl, rfl⟩
  | int i => cases (show v = .int i from r); exact ⟨.int i, rfl, rfl⟩
  | str s => obtain ⟨rfl, ok⟩ := r; exact ⟨.str s, ok.2, rfl⟩
  | _ => cases h
theorem dp_list {K : PySem.W.Frag} (n : Nat) (ih : ∀ (d : D) (v : V), dle n d = true → Rep B F d v → Dp K H v (toP d) ∧ PyData.canLay0 (toP d) = true ∧ PyData.depth (toP d) ≤ n) :
    ∀ (ds : List D) (vs : List V), ds.all (dle n) = true → RepL B F ds vs → DpAll K H vs (toPs ds) ∧ PyData.canLayAll0 (toPs ds) = true ∧ PyData.depthAll (toPs ds) ≤ n
  | [], vs, _, r => by
    rw [show vs = [] from r]
    exact ⟨.nil, rfl, Nat.zero_le _⟩
  | d :: ds, vs, h, r => by
    obtain ⟨v, rest, rfl, r1, r2⟩ := r
    rw [List.all_cons, Bool.and_eq_true] at h
    obtain ⟨a1, a2, a3⟩ := ih d v h.1 r1
    obtain ⟨b1, b2, b3⟩ := dp_list n ih ds rest h.2 r2
    refine ⟨.cons a1 b1, ?_, ?_⟩
    · show (PyData.canLay0 (toP d) && PyData.canLayAll0 (toPs ds)) = true
      rw [a2, b2]; rfl
    · show max (PyData.depth (toP d)) (PyData.depthAll (toPs ds)) ≤ n
      omega
theorem dp_of {K : PySem.W.Frag} (hK : K = B.K) (hh : Holds F H) : ∀ (n : Nat) (d : D) (v : V), dle n d = true → Rep B F d v → Dp K H v (toP d) ∧ PyData.canLay0 (toP d) = true ∧ PyData.depth (toP d) ≤ n
  | 0, d, v, h, r => by
    obtain ⟨a, b, c⟩ := dp_scal (K := K) (H := H) h r
    exact ⟨a, b, by omega⟩
  | n + 1, d, v, h, r => by
    cases d with
    | lst xs =>
      obtain ⟨p, vs, rfl, a, z, rl⟩ := r
      obtain ⟨b1, b2, b3⟩ := dp_list n (dp_of hK hh n) xs vs h rl
      exact ⟨.lst (by rw [hK]; exact a.sq hh) b1, b2, Nat.succ_le_succ b3⟩
    | tup xs =>
      obtain ⟨p, vs, rfl, a, z, rl⟩ := r
      obtain ⟨b1, b2, b3⟩ := dp_list n (dp_of hK hh n) xs vs h rl
      exact ⟨.tup (by rw [hK]; exact a.sq hh) b1, b2, Nat.succ_le_succ b3⟩
    | dic _ => cases h
    | obj _ _ => cases h
    | non => obtain ⟨a, b, c⟩ := dp_scal (K := K) (H := H) (d := .non) rfl r; exact ⟨a, b, by omega⟩
    | bl x => obtain ⟨a, b, c⟩ := dp_scal (K := K) (H := H) (d := .bl x) rfl r; exact ⟨a, b, by omega⟩
    | int x => obtain ⟨a, b, c⟩ := dp_scal (K := K) (H := H) (d := .int x) rfl r; exact ⟨a, b, by omega⟩
    | str x => obtain ⟨a, b, c⟩ := dp_scal (K := K) (H := H) (d := .str x) rfl r; exact ⟨a, b, by omega⟩
theorem Seen.dp {K : PySem.W.Frag} (hK : K = B.K) (hh : Holds F H) {d : D} {v : V} (h : dle 8 d = true) (s : Seen B F H d v) : Dp K H v (toP d) ∧ SeqAt.shaped (toP d) = true := by
  have fin : ∀ {p : PyData}, PyData.canLay0 p = true ∧ PyData.depth p ≤ 8 → SeqAt.shaped p = true := fun {p} h => by
    unfold SeqAt.shaped
    rw [h.1, Bool.true_and]
    exact decide_eq_true (by omega)
  cases d with
  | lst xs =>
    obtain ⟨p, vs, rfl, a, z, rl⟩ := s
    obtain ⟨b1, b2, b3⟩ := dp_list 7 (dp_of hK hh 7) xs vs h rl
    exact ⟨.lst (by rw [hK]; exact a) b1, fin ⟨b2, Nat.succ_le_succ b3⟩⟩
  | tup xs => obtain ⟨a, b⟩ := dp_of hK hh 8 (.tup xs) v h s; exact ⟨a, fin b⟩
  | dic _ => cases h
  | obj _ _ => cases h
  | non => obtain ⟨a, b⟩ := dp_of hK hh 8 .non v h s; exact ⟨a, fin b⟩
  | bl x => obtain ⟨a, b⟩ := dp_of hK hh 8 (.bl x) v h s; exact ⟨a, fin b⟩
  | int x => obtain ⟨a, b⟩ := dp_of hK hh 8 (.int x) v h s; exact ⟨a, fin b⟩
  | str x => obtain ⟨a, b⟩ := dp_of hK hh 8 (.str x) v h s; exact ⟨a, fin b⟩
def dEq (a b : D) : Option D := if (dle 8 a && dle 8 b) = true then some (.bl (deqv a b)) else none
def dNe (a b : D) : Option D := if (dle 8 a && dle 8 b) = true then some (.bl (!deqv a b)) else none
theorem p_eq (hK : X.K = B.K) : Prim2 B dEq (rEqD X.K) := fun F H a b z x y Q hh sa sb e q => by
  unfold dEq at e
  by_cases h : (dle 8 a && dle 8 b) = true
  · rw [if_pos h] at e; cases e
    rw [Bool.and_eq_true] at h
    obtain ⟨a1, a2⟩ := sa.dp hK hh h.1
    obtain ⟨b1, b2⟩ := sb.dp hK hh h.2
    exact ⟨_, _, a1, b1, a2, b2, q _ F H (Step.refl _ _ _) hh rfl⟩
  · rw [if_neg h] at e; cases e
theorem p_ne (hK : X.K = B.K) : Prim2 B dNe (rNeD X.K) := fun F H a b z x y Q hh sa sb e q => by
  unfold dNe at e
  by_cases h : (dle 8 a && dle 8 b) = true
  · rw [if_pos h] at e; cases e
    rw [Bool.and_eq_true] at h
    obtain ⟨a1, a2⟩ := sa.dp hK hh h.1
    obtain ⟨b1, b2⟩ := sb.dp hK hh h.2
    exact ⟨_, _, a1, b1, a2, b2, q _ F H (Step.refl _ _ _) hh rfl⟩
  · rw [if_neg h] at e; cases e
/-! ### is -/
def isNonD : D → Bool
  | .non => true
  | _ => false
def isBlD (b : Bool) : D → Bool
  | .bl c => decide (c = b)
  | _ => false
def isD : D → D → Option Bool
  | a, .non => some (isNonD a)
  | a, .bl b => some (isBlD b a)
  | _, _ => none
def rIsX (n : Bool) : R2 := fun x y H Q => (y = .non ∧ Q (.bl (if n then !decide (x = .non) else decide (x = .non))) H) ∨ ∃ b, y = .bl b ∧ Q (.bl (if n then !decide (x = .bl b) else decide (x = .bl b))) H
theorem relV_bool {x : V} {v : Value} {b : Bool} (r : RelV x v) : (v == Value.bool b) = decide (x = .bl b) := by
  cases x with
  | bl c =>
    cases (show v = Value.bool c from r)
    by_cases e : c = b
    · subst e; simp
    · rw [decide_eq_false (by simpa using e)]
      exact beq_eq_false_iff_ne.mpr fun z => e (Value.bool.inj z)
  | non => cases (show v = Value.none from r); rfl
  | int _ => obtain ⟨t, rfl⟩ := r; rfl
  | str _ => obtain ⟨t, rfl⟩ := r; rfl
  | byt _ => obtain ⟨t, rfl⟩ := r; rfl
  | flt _ => obtain ⟨t, rfl⟩ := r; rfl
  | ref a => cases (show v = Value.ref a from r); rfl
  | ty n => cases (show v = Value.type n from r); rfl
theorem is_bool_gen {M : Model} {A : Around} {E : Value → Shared → Prop} {s : Shared} {Q : Value → Shared → Prop} {x : V} {v : Value} {b : Bool} (r : RelV x v) (h : Q (.bool (v == .bool b)) s) : wpAny M A (compareOp .Is v (.bool b)) Q E s := by
  cases x with
  | non => cases (show v = Value.none from r); exact wpAny_pure h
  | bl c => cases (show v = Value.bool c from r); exact wpAny_pure h
  | int _ => obtain ⟨t, rfl⟩ := r; exact wpAny_pure h
  | str _ => obtain ⟨t, rfl⟩ := r; exact wpAny_pure h
  | byt _ => obtain ⟨t, rfl⟩ := r; exact wpAny_pure h
  | flt _ => obtain ⟨t, rfl⟩ := r; exact wpAny_pure h
  | ref a => cases (show v = Value.ref a from r); exact wpAny_pure h
  | ty n => cases (show v = Value.type n from r); exact wpAny_pure h
theorem isnot_bool_gen {M : Model} {A : Around} {E : Value → Shared → Prop} {s : Shared} {Q : Value → Shared → Prop} {x : V} {v : Value} {b : Bool} (r : RelV x v) (h : Q (.bool (!(v == .bool b))) s) : wpAny M A (compareOp .IsNot v (.bool b)) Q E s := by
  cases x with
  | non => cases (show v = Value.none from r); exact wpAny_pure h
  | bl c => cases (show v = Value.bool c from r); exact wpAny_pure h
  | int _ => obtain ⟨t, rfl⟩ := r; exact wpAny_pure h
  | str _ => obtain ⟨t, rfl⟩ := r; exact wpAny_pure h
  | byt _ => obtain ⟨t, rfl⟩ := r; exact wpAny_pure h
  | flt _ => obtain ⟨t, rfl⟩ := r; exact wpAny_pure h
  | ref a => cases (show v = Value.ref a from r); exact wpAny_pure h
  | ty n => cases (show v = Value.type n from r); exact wpAny_pure h
theorem op_isX : OpR X (compareOp .Is) (rIsX false) := by
  intro pins s σ H x y v u Q I rx ry h
  rcases h with ⟨rfl, q⟩ | ⟨b, rfl, q⟩
  · cases (show u = Value.none from ry)
    exact PyProof.Rows.is_none_gen ⟨.bl _, H, I, by rw [rx.none_iff]; rfl, q⟩
  · cases (show u = Value.bool b from ry)
    exact is_bool_gen rx ⟨.bl _, H, I, by rw [relV_bool rx]; rfl, q⟩
theorem op_isNotX : OpR X (compareOp .IsNot) (rIsX true) := by
  intro pins s σ H x y v u Q I rx ry h
  rcases h with ⟨rfl, q⟩ | ⟨b, rfl, q⟩
  · cases (show u = Value.none from ry)
    exact PyProof.Rows.isnot_none_gen ⟨.bl _, H, I, by rw [rx.none_iff]; rfl, q⟩
  · cases (show u = Value.bool b from ry)
    exact isnot_bool_gen rx ⟨.bl _, H, I, by rw [relV_bool rx]; rfl, q⟩
def dIsX (n : Bool) (a b : D) : Option D := (isD a b).map fun k => .bl (if n then !k else k)
theorem seen_non {a : D} {x : V} (s : Seen B F H a x) : isNonD a = decide (x = .non) := by
  cases a with
  | non => cases (show x = .non from s); rfl
  | bl b => cases (show x = .bl b from s); rfl
  | int i => cases (show x = .int i from s); rfl
  | str i => obtain ⟨rfl, _⟩ := s; rfl
  | lst _ => obtain ⟨p, vs, rfl, _⟩ := s; rfl
  | tup _ => obtain ⟨p, vs, rfl, _⟩ := s; rfl
  | dic _ => obtain ⟨p, vs, rfl, _⟩ := s; rfl
  | obj _ _ => obtain ⟨p, C, dx, vs, rfl, _⟩ := s; rfl
theorem seen_bl {a : D} {x : V} {b : Bool} (s : Seen B F H a x) : isBlD b a = decide (x = .bl b) := by
  cases a with
  | non => cases (show x = .non from s); rfl
  | bl c =>
    cases (show x = .bl c from s)
    by_cases e : c = b
    · subst e; show decide (c = c) = _; simp
    · show decide (c = b) = _
      rw [decide_eq_false e, decide_eq_false (fun z => e (V.bl.inj z))]
  | int i => cases (show x = .int i from s); rfl
  | str i => obtain ⟨rfl, _⟩ := s; rfl
  | lst _ => obtain ⟨p, vs, rfl, _⟩ := s; rfl
  | tup _ => obtain ⟨p, vs, rfl, _⟩ := s; rfl
  | dic _ => obtain ⟨p, vs, rfl, _⟩ := s; rfl
  | obj _ _ => obtain ⟨p, C, dx, vs, rfl, _⟩ := s; rfl
theorem p_is (n : Bool) : Prim2 B (dIsX n) (rIsX n) := fun F H a b z x y Q hh sa sb e q => by
  unfold dIsX at e
  cases b with
  | non =>
    cases (show y = .non from sb)
    cases e
    refine .inl ⟨rfl, q _ F H (Step.refl _ _ _) hh ?_⟩
    rw [← seen_non sa]; rfl
  | bl b =>
    cases (show y = .bl b from sb)
    cases e
    refine .inr ⟨b, rfl, q _ F H (Step.refl _ _ _) hh ?_⟩
    rw [← seen_bl sa]; rfl
  | _ => cases a <;> cases e
end
end AN

set_option Elab.async false
set_option maxRecDepth 100000
set_option autoImplicit false
set_option linter.unusedVariables false
namespace AN
open PySem L2

section
variable {B : Bx} {X : Cx} {W : WX} {F H : Hp} {env : Env} {σ : St} {Q : VK} {a b c e : Expr} {ma mb mc : M Opd} {pos p : Pos} {x : Str} {id T : String} {r : List V → Hp → VK → Prop}
/-! ### built-ins by name -/
theorem de_b1 {g : D → Option D} (hc : CallR X (.builtin id) r) (hp : Prim1 B g (fun x H Q => r [x] H Q)) (ha : DE B X W a ma) (hm : X.mg x = none) (hv : bootBuiltins x = some (.builtin id)) (hg : Gl X x := by rfl) (hn : x ≠ "__name__" := by decide) (hdb : (x == ("__debug__" : Str)) = false := by decide)
    (he : starEach [a] X.env = (false, eval a X.env) :: starEach [] X.env := by rfl) (hpl : (backTo pos (starEach [] X.env)).any (·.1) = false := by rfl) : DE B X W (.Call (.Name x p) [a] [] pos) (mD (mB1 g ma)) :=
  PE.imp (pe_callB hc hg hm hv (pa_cons ha pa_nil he) hn hdb he hpl) fun σ H Q h => op1 hp h
theorem de_b2 {g : D → D → Option D} (hc : CallR X (.builtin id) r) (hp : Prim2 B g (fun x y H Q => r [x, y] H Q)) (ha : DE B X W a ma) (hb : DE B X W b mb) (hm : X.mg x = none) (hv : bootBuiltins x = some (.builtin id)) (hg : Gl X x := by rfl) (hn : x ≠ "__name__" := by decide) (hdb : (x == ("__debug__" : Str)) = false := by decide)
    (he : starEach [a, b] X.env = (false, eval a X.env) :: starEach [b] X.env := by rfl) (he2 : starEach [b] X.env = (false, eval b X.env) :: starEach [] X.env := by rfl) (hpl : (backTo pos (starEach [b] X.env)).any (·.1) = false := by rfl) : DE B X W (.Call (.Name x p) [a, b] [] pos) (mD (mB2 g ma mb)) :=
  PE.imp (pe_callB hc hg hm hv (pa_cons ha (pa_cons hb pa_nil he2) he) hn hdb he hpl) fun σ H Q h => op2 (r := fun x y H Q => r [x, y] H Q) hp h
theorem de_t1 {g : D → Option D} (hc : CallR X (.type T) r) (hp : Prim1 B g (fun x H Q => r [x] H Q)) (ha : DE B X W a ma) (hm : X.mg x = none) (hv : bootBuiltins x = some (.type T)) (hg : Gl X x := by rfl) (hn : x ≠ "__name__" := by decide) (hdb : (x == ("__debug__" : Str)) = false := by decide)
    (he : starEach [a] X.env = (false, eval a X.env) :: starEach [] X.env := by rfl) (hpl : (backTo pos (starEach [] X.env)).any (·.1) = false := by rfl) : DE B X W (.Call (.Name x p) [a] [] pos) (mD (mB1 g ma)) :=
  PE.imp (pe_callTy hc hg hm hv (pa_cons ha pa_nil he) hn hdb he hpl) fun σ H Q h => op1 hp h
theorem do_t1 {g : D → Option O} (hc : CallR X (.type T) r) (hp : PrimO1 B g (fun x H Q => r [x] H Q)) (ha : DE B X W a ma) (hm : X.mg x = none) (hv : bootBuiltins x = some (.type T)) (hg : Gl X x := by rfl) (hn : x ≠ "__name__" := by decide) (hdb : (x == ("__debug__" : Str)) = false := by decide)
    (he : starEach [a] X.env = (false, eval a X.env) :: starEach [] X.env := by rfl) (hpl : (backTo pos (starEach [] X.env)).any (·.1) = false := by rfl) : DO B X W (.Call (.Name x p) [a] [] pos) (mB1 g ma) :=
  PE.imp (pe_callTy hc hg hm hv (pa_cons ha pa_nil he) hn hdb he hpl) fun σ H Q h => opO1 hp h
def dLen : D → Option D
  | .str s => some (.int s.length)
  | .lst xs => some (.int xs.length)
  | .tup xs => some (.int xs.length)
  | _ => none
theorem p_len (hK : X.K = B.K) : Prim1 B dLen (fun x H Q => ∃ y n, [x] = [y] ∧ LenV X.K y H n ∧ Q (.int n) H) := fun F H a z x Q hh sa e q => by
  have fin : ∀ n : Nat, z = .int n → Q (.int n) H := fun n e => q _ F H (Step.refl _ _ _) hh (by rw [e]; rfl)
  cases a with
  | str s => cases e; obtain ⟨rfl, ok⟩ := sa; exact ⟨_, _, rfl, ⟨ok.1, rfl⟩, fin _ rfl⟩
  | lst xs => cases e; obtain ⟨p, vs, rfl, a, _, r⟩ := sa; exact ⟨_, _, rfl, .inl ⟨vs, by rw [hK]; exact a, rfl⟩, fin _ (by rw [r.length])⟩
  | tup xs => cases e; obtain ⟨p, vs, rfl, a, _, r⟩ := sa; exact ⟨_, _, rfl, .inr ⟨vs, by rw [hK]; exact a.sq hh, rfl⟩, fin _ (by rw [r.length])⟩
  | _ => cases e
theorem de_len (hK : X.K = B.K) (ha : DE B X W a ma) (hm : X.mg "len" = none) (hg : Gl X "len" := by rfl) (he : starEach [a] X.env = (false, eval a X.env) :: starEach [] X.env := by rfl) (hpl : (backTo pos (starEach [] X.env)).any (·.1) = false := by rfl) : DE B X W (.Call (.Name "len" p) [a] [] pos) (mD (mB1 dLen ma)) :=
  de_b1 call_len (p_len hK) ha hm (by decide +kernel) hg (by decide) (by decide) he hpl
def dAbs : D → Option D
  | .int i => some (.int (if i < 0 then -i else i))
  | _ => none
theorem de_abs (ha : DE B X W a ma) (hm : X.mg "abs" = none) (hg : Gl X "abs" := by rfl) (he : starEach [a] X.env = (false, eval a X.env) :: starEach [] X.env := by rfl) (hpl : (backTo pos (starEach [] X.env)).any (·.1) = false := by rfl) : DE B X W (.Call (.Name "abs" p) [a] [] pos) (mD (mB1 dAbs ma)) :=
  de_b1 call_abs (fun F H a z x Q hh sa e q => by
    cases a with
    | int i => cases e; cases (show x = .int i from sa); exact ⟨i, rfl, q _ F H (Step.refl _ _ _) hh rfl⟩
    | _ => cases e) ha hm (by decide +kernel) hg (by decide) (by decide) he hpl
def dInt : D → Option D
  | .int i => some (.int i)
  | .bl k => some (.int (if k then 1 else 0))
  | _ => none
theorem de_int1 (ha : DE B X W a ma) (hm : X.mg "int" = none) (hg : Gl X "int" := by rfl) (he : starEach [a] X.env = (false, eval a X.env) :: starEach [] X.env := by rfl) (hpl : (backTo pos (starEach [] X.env)).any (·.1) = false := by rfl) : DE B X W (.Call (.Name "int" p) [a] [] pos) (mD (mB1 dInt ma)) :=
  de_t1 call_int1 (fun F H a z x Q hh sa e q => by
    cases a with
    | int i => cases e; cases (show x = .int i from sa); exact .inl ⟨i, rfl, q _ F H (Step.refl _ _ _) hh rfl⟩
    | bl k => cases e; cases (show x = .bl k from sa); exact .inr ⟨k, rfl, q _ F H (Step.refl _ _ _) hh rfl⟩
    | _ => cases e) ha hm (by decide +kernel) hg (by decide) (by decide) he hpl
abbrev dMax2 := dI (fun _ _ => true) fun i j => .int (if j > i then j else i)
abbrev dMin2 := dI (fun _ _ => true) fun i j => .int (if j < i then j else i)
theorem de_max2 (hc : X.calm = true) (ha : DE B X W a ma) (hb : DE B X W b mb) (hm : X.mg "max" = none) (hg : Gl X "max" := by rfl)
    (he : starEach [a, b] X.env = (false, eval a X.env) :: starEach [b] X.env := by rfl) (he2 : starEach [b] X.env = (false, eval b X.env) :: starEach [] X.env := by rfl) (hpl : (backTo pos (starEach [b] X.env)).any (·.1) = false := by rfl) : DE B X W (.Call (.Name "max" p) [a, b] [] pos) (mD (mB2 dMax2 ma mb)) :=
  de_b2 (call_max2 hc) (fun F H a b z x y Q hh sa sb e q => by
    cases a with
    | int i =>
      cases b with
      | int j => cases e; cases (show x = .int i from sa); cases (show y = .int j from sb); exact ⟨i, j, rfl, q _ F H (Step.refl _ _ _) hh rfl⟩
      | _ => cases e
    | _ => cases e) ha hb hm (by decide +kernel) hg (by decide) (by decide) he he2 hpl
theorem de_min2 (hc : X.calm = true) (ha : DE B X W a ma) (hb : DE B X W b mb) (hm : X.mg "min" = none) (hg : Gl X "min" := by rfl)
    (he : starEach [a, b] X.env = (false, eval a X.env) :: starEach [b] X.env := by rfl) (he2 : starEach [b] X.env = (false, eval b X.env) :: starEach [] X.env := by rfl) (hpl : (backTo pos (starEach [b] X.env)).any (·.1) = false := by rfl) : DE B X W (.Call (.Name "min" p) [a, b] [] pos) (mD (mB2 dMin2 ma mb)) :=
  de_b2 (call_min2 hc) (fun F H a b z x y Q hh sa sb e q => by
    cases a with
    | int i =>
      cases b with
      | int j => cases e; cases (show x = .int i from sa); cases (show y = .int j from sb); exact ⟨i, j, rfl, q _ F H (Step.refl _ _ _) hh rfl⟩
      | _ => cases e
    | _ => cases e) ha hb hm (by decide +kernel) hg (by decide) (by decide) he he2 hpl
def intsOf : List D → Option (List Int)
  | [] => some []
  | .int i :: ds => (intsOf ds).map (i :: ·)
  | _ :: _ => none
theorem intsOf_rep : ∀ {ds : List D} {vs : List V} {ns : List Int}, intsOf ds = some ns → RepL B F ds vs → vs = ns.map V.int
  | [], vs, ns, h, r => by cases h; exact r
  | d :: ds, vs, ns, h, r => by
    obtain ⟨v, rest, rfl, r1, r2⟩ := r
    cases d with
    | int i =>
      simp only [intsOf, Option.map_eq_some_iff] at h
      obtain ⟨m, h, rfl⟩ := h
      rw [show v = .int i from r1, intsOf_rep h r2]; rfl
    | _ => cases h
def dSum : D → Option D
  | .lst xs => (intsOf xs).map fun ns => .int ns.sum
  | _ => none
theorem de_sum (hc : X.calm = true) (hK : X.K = B.K) (ha : DE B X W a ma) (hm : X.mg "sum" = none) (hg : Gl X "sum" := by rfl) (he : starEach [a] X.env = (false, eval a X.env) :: starEach [] X.env := by rfl) (hpl : (backTo pos (starEach [] X.env)).any (·.1) = false := by rfl) : DE B X W (.Call (.Name "sum" p) [a] [] pos) (mD (mB1 dSum ma)) :=
  de_b1 (cr_sum hc) (fun F H a z x Q hh sa e q => by
    cases a with
    | lst xs =>
      simp only [dSum, Option.map_eq_some_iff] at e
      obtain ⟨ns, e, rfl⟩ := e
      obtain ⟨p, vs, rfl, a, _, r⟩ := sa
      exact ⟨p, ns, rfl, by rw [← intsOf_rep e r, hK]; exact a, q _ F H (Step.refl _ _ _) hh rfl⟩
    | _ => cases e) ha hm (by decide +kernel) hg (by decide) (by decide) he hpl
def blsOf : List D → Option (List Bool)
  | [] => some []
  | .bl i :: ds => (blsOf ds).map (i :: ·)
  | _ :: _ => none
theorem blsOf_rep : ∀ {ds : List D} {vs : List V} {ns : List Bool}, blsOf ds = some ns → RepL B F ds vs → vs = ns.map V.bl
  | [], vs, ns, h, r => by cases h; exact r
  | d :: ds, vs, ns, h, r => by
    obtain ⟨v, rest, rfl, r1, r2⟩ := r
    cases d with
    | bl i =>
      simp only [blsOf, Option.map_eq_some_iff] at h
      obtain ⟨m, h, rfl⟩ := h
      rw [show v = .bl i from r1, blsOf_rep h r2]; rfl
    | _ => cases h
def dAll : D → Option D
  | .lst xs => (blsOf xs).map fun ns => .bl (ns.all fun b => b)
  | _ => none
def dAny : D → Option D
  | .lst xs => (blsOf xs).map fun ns => .bl (ns.any fun b => b)
  | _ => none
theorem de_all (hc : X.calm = true) (hK : X.K = B.K) (ha : DE B X W a ma) (hm : X.mg "all" = none) (hg : Gl X "all" := by rfl) (he : starEach [a] X.env = (false, eval a X.env) :: starEach [] X.env := by rfl) (hpl : (backTo pos (starEach [] X.env)).any (·.1) = false := by rfl) : DE B X W (.Call (.Name "all" p) [a] [] pos) (mD (mB1 dAll ma)) :=
  de_b1 (cr_all hc) (fun F H a z x Q hh sa e q => by
    cases a with
    | lst xs =>
      simp only [dAll, Option.map_eq_some_iff] at e
      obtain ⟨ns, e, rfl⟩ := e
      obtain ⟨p, vs, rfl, a, _, r⟩ := sa
      exact ⟨p, ns, rfl, by rw [← blsOf_rep e r, hK]; exact a, q _ F H (Step.refl _ _ _) hh rfl⟩
    | _ => cases e) ha hm (by decide +kernel) hg (by decide) (by decide) he hpl
theorem de_any (hc : X.calm = true) (hK : X.K = B.K) (ha : DE B X W a ma) (hm : X.mg "any" = none) (hg : Gl X "any" := by rfl) (he : starEach [a] X.env = (false, eval a X.env) :: starEach [] X.env := by rfl) (hpl : (backTo pos (starEach [] X.env)).any (·.1) = false := by rfl) : DE B X W (.Call (.Name "any" p) [a] [] pos) (mD (mB1 dAny ma)) :=
  de_b1 (cr_any hc) (fun F H a z x Q hh sa e q => by
    cases a with
    | lst xs =>
      simp only [dAny, Option.map_eq_some_iff] at e
      obtain ⟨ns, e, rfl⟩ := e
      obtain ⟨p, vs, rfl, a, _, r⟩ := sa
      exact ⟨p, ns, rfl, by rw [← blsOf_rep e r, hK]; exact a, q _ F H (Step.refl _ _ _) hh rfl⟩
    | _ => cases e) ha hm (by decide +kernel) hg (by decide) (by decide) he hpl
/-- repr of a bool -/
def dReprB : D → Option D
  | .bl b => some (.str (if b then "True" else "False"))
  | _ => none
theorem call_repr_bool : CallR X (.builtin "repr") (fun xs H Q => ∃ b : Bool, xs = [.bl b] ∧ Q (.str (if b then "True" else "False")) H) := by
  intro pins s σ H xs us Q I r h
  obtain ⟨b, rfl, q⟩ := h
  obtain ⟨u, rfl, ru⟩ := vals1 r
  cases (show u = Value.bool b from ru)
  exact PySem.P.repr_of_bool ⟨.str _, H, I.tok _, ⟨_, rfl⟩, q⟩
theorem de_reprB (ha : DE B X W a ma) (hm : X.mg "repr" = none) (hg : Gl X "repr" := by rfl) (he : starEach [a] X.env = (false, eval a X.env) :: starEach [] X.env := by rfl) (hpl : (backTo pos (starEach [] X.env)).any (·.1) = false := by rfl) : DE B X W (.Call (.Name "repr" p) [a] [] pos) (mD (mB1 dReprB ma)) :=
  de_b1 call_repr_bool (fun F H a z x Q hh sa e q => by
    cases a with
    | bl b => cases e; cases (show x = .bl b from sa); exact ⟨b, rfl, q _ F H (Step.refl _ _ _) hh ⟨rfl, by cases b <;> exact ⟨by decide +kernel, by decide +kernel⟩⟩⟩
    | _ => cases e) ha hm (by decide +kernel) hg (by decide) (by decide) he hpl
/-! ### isinstance with built-in classes -/
def tyN : D → String
  | .non => "NoneType"
  | .bl _ => "bool"
  | .int _ => "int"
  | .str _ => "str"
  | .lst _ => "list"
  | .tup _ => "tuple"
  | .dic _ => "dict"
  | .obj _ _ => ""
def isObj : D → Bool
  | .obj _ _ => true
  | _ => false
theorem Seen.ty {K : PySem.W.Frag} {d : D} {v : V} (hK : K = B.K) (hh : Holds F H) (s : Seen B F H d v) (ho : isObj d = false) : TyX K H v (.type (tyN d)) := by
  subst hK
  cases d with
  | non => cases (show v = .non from s); exact .base .non
  | bl b => cases (show v = .bl b from s); exact .base (.bl b)
  | int i => cases (show v = .int i from s); exact .base (.int i)
  | str x => obtain ⟨rfl, _⟩ := s; exact .base (.str x)
  | lst xs =>
    obtain ⟨p, vs, rfl, a, _⟩ := s
    rcases a with (a | ⟨o, a⟩) | ⟨o, its, n, h1, h2, _⟩
    · exact .base (.lst a)
    · exact .base (.frz a)
    · exact .kList h1 h2
  | tup xs =>
    obtain ⟨p, vs, rfl, a, _⟩ := s
    rcases a with a | a
    · exact .base (.tup (hh.at_ a rfl))
    · rcases a with (h | ⟨o, h⟩) | ⟨o, its, n, h1, h2, _⟩
      · cases h
      · cases h
      · exact .kTuple h1 h2
  | dic xs =>
    obtain ⟨p, vs, rfl, a, _⟩ := s
    rcases a with a | ⟨o, a⟩
    · exact .base (.dK a)
    · exact .fDict a
  | obj _ _ => cases ho
def isI (f : D → Bool) (d : D) : Option D := if isObj d = true then none else some (.bl (f d))
def fInt : D → Bool
  | .int _ => true
  | .bl _ => true
  | _ => false
def fBool : D → Bool
  | .bl _ => true
  | _ => false
def fStr : D → Bool
  | .str _ => true
  | _ => false
def fList : D → Bool
  | .lst _ => true
  | _ => false
def fTuple : D → Bool
  | .tup _ => true
  | _ => false
theorem kInt (d : D) (h : isObj d = false) : kitB (tyN d) "int" = some (fInt d) := by
  cases d with
  | non => exact (by decide +kernel : kitB "NoneType" "int" = some false)
  | bl _ => exact (by decide +kernel : kitB "bool" "int" = some true)
  | int _ => exact (by decide +kernel : kitB "int" "int" = some true)
  | str _ => exact (by decide +kernel : kitB "str" "int" = some false)
  | lst _ => exact (by decide +kernel : kitB "list" "int" = some false)
  | tup _ => exact (by decide +kernel : kitB "tuple" "int" = some false)
  | dic _ => exact (by decide +kernel : kitB "dict" "int" = some false)
  | obj _ _ => cases h
theorem kBool (d : D) (h : isObj d = false) : kitB (tyN d) "bool" = some (fBool d) := by
  cases d with
  | non => exact (by decide +kernel : kitB "NoneType" "bool" = some false)
  | bl _ => exact (by decide +kernel : kitB "bool" "bool" = some true)
  | int _ => exact (by decide +kernel : kitB "int" "bool" = some false)
  | str _ => exact (by decide +kernel : kitB "str" "bool" = some false)
  | lst _ => exact (by decide +kernel : kitB "list" "bool" = some false)
  | tup _ => exact (by decide +kernel : kitB "tuple" "bool" = some false)
  | dic _ => exact (by decide +kernel : kitB "dict" "bool" = some false)
  | obj _ _ => cases h
theorem kStr (d : D) (h : isObj d = false) : kitB (tyN d) "str" = some (fStr d) := by
  cases d with
  | non => exact (by decide +kernel : kitB "NoneType" "str" = some false)
  | bl _ => exact (by decide +kernel : kitB "bool" "str" = some false)
  | int _ => exact (by decide +kernel : kitB "int" "str" = some false)
  | str _ => exact (by decide +kernel : kitB "str" "str" = some true)
  | lst _ => exact (by decide +kernel : kitB "list" "str" = some false)
  | tup _ => exact (by decide +kernel : kitB "tuple" "str" = some false)
  | dic _ => exact (by decide +kernel : kitB "dict" "str" = some false)
  | obj _ _ => cases h
theorem kList (d : D) (h : isObj d = false) : kitB (tyN d) "list" = some (fList d) := by
  cases d with
  | non => exact (by decide +kernel : kitB "NoneType" "list" = some false)
  | bl _ => exact (by decide +kernel : kitB "bool" "list" = some false)
  | int _ => exact (by decide +kernel : kitB "int" "list" = some false)
  | str _ => exact (by decide +kernel : kitB "str" "list" = some false)
  | lst _ => exact (by decide +kernel : kitB "list" "list" = some true)
  | tup _ => exact (by decide +kernel : kitB "tuple" "list" = some false)
  | dic _ => exact (by decide +kernel : kitB "dict" "list" = some false)
  | obj _ _ => cases h
theorem kTuple (d : D) (h : isObj d = false) : kitB (tyN d) "tuple" = some (fTuple d) := by
  cases d with
  | non => exact (by decide +kernel : kitB "NoneType" "tuple" = some false)
  | bl _ => exact (by decide +kernel : kitB "bool" "tuple" = some false)
  | int _ => exact (by decide +kernel : kitB "int" "tuple" = some false)
  | str _ => exact (by decide +kernel : kitB "str" "tuple" = some false)
  | lst _ => exact (by decide +kernel : kitB "list" "tuple" = some false)
  | tup _ => exact (by decide +kernel : kitB "tuple" "tuple" = some true)
  | dic _ => exact (by decide +kernel : kitB "dict" "tuple" = some false)
  | obj _ _ => cases h
theorem de_isi {Tn : Str} {f : D → Bool} {p' : Pos} (hf : ∀ d, isObj d = false → kitB (tyN d) T = some (f d)) (hK : X.K = B.K) (ha : DE B X W a ma) (hm : X.mg "isinstance" = none) (hmT : X.mg Tn = none) (hvT : bootBuiltins Tn = some (.type T)) (hg : Gl X "isinstance" := by rfl) (hgT : Gl X Tn := by rfl)
    (he : starEach [a, .Name Tn p'] X.env = (false, eval a X.env) :: starEach [.Name Tn p'] X.env := by rfl) (he2 : starEach [.Name Tn p'] X.env = (false, eval (.Name Tn p') X.env) :: starEach [] X.env := by rfl) (hpl : (backTo pos (starEach [.Name Tn p'] X.env)).any (·.1) = false := by rfl)
    (hn : Tn ≠ "__name__" := by decide) (hdb : (Tn == ("__debug__" : Str)) = false := by decide) : DE B X W (.Call (.Name "isinstance" p) [a, .Name Tn p'] [] pos) (mD (mB1 (isI f) ma)) :=
  PE.imp (pe_callB call_isi hg hm (by decide +kernel) (pa_cons ha (pa_cons (pe_bltn (v := .ty T) hgT hmT hvT rfl hn hdb) pa_nil he2) he) (by decide) (by decide) he hpl) fun σ H Q h => by
    refine op1 (g := isI f) (r := fun x H Q => rIsi X.K [x, .ty T] H Q) (fun F H a z x Q hh sa e q => ?_) h
    unfold isI at e
    cases ho : isObj a with
    | true => rw [if_pos ho] at e; cases e
    | false =>
      rw [if_neg (by rw [ho]; exact Bool.false_ne_true)] at e
      cases e
      exact ⟨x, .ty T, _, _, _, rfl, .ty T, sa.ty hK hh ho, kit_ty (hf a ho), q _ F H (Step.refl _ _ _) hh rfl⟩
end
end AN

set_option Elab.async false
set_option maxRecDepth 100000
set_option autoImplicit false
set_option linter.unusedVariables false
namespace AN
open PySem L2

section
variable {B : Bx} {X : Cx} {W : WX} {F H : Hp} {env : Env} {σ : St} {Q : VK} {a b c e : Expr} {ma mb mc : M Opd} {pos p : Pos}
/-! ### items -/
def dIx : D → D → Option D
  | .lst xs, .int i => atI xs i
  | .tup xs, .int i => atI xs i
  | .str s, .int i => (atI s.cps.toList i).map sign
  | _, _ => none
theorem RepL.atI {xs : List D} {vs : List V} {i : Int} {d : D} (r : RepL B F xs vs) (h : L2.atI xs i = some d) : ∃ v, L2.atI vs i = some v ∧ Rep B F d v := by
  unfold L2.atI at h ⊢
  rw [r.length]
  obtain ⟨j, h1, h2⟩ := Option.bind_eq_some_iff.mp h
  obtain ⟨v, h3, h4⟩ := r.get h2
  exact ⟨v, by rw [h1]; exact h3, h4⟩
theorem p_ix (hK : X.K = B.K) : Prim2 B dIx (fun x y H Q => rIxL X.K x y H Q ∨ (rIxT X.K x y H Q ∨ rIxS x y H Q)) := fun F H a b z x y Q hh sa sb e q => by
  cases a with
  | lst xs =>
    cases b with
    | int i =>
      obtain ⟨p, vs, rfl, a, _, r⟩ := sa
      cases (show y = .int i from sb)
      obtain ⟨v, h1, h2⟩ := r.atI e
      exact .inl ⟨p, vs, i, v, rfl, rfl, by rw [hK]; exact a, h1, q v F H (Step.refl _ _ _) hh h2⟩
    | _ => cases e
  | tup xs =>
    cases b with
    | int i =>
      obtain ⟨p, vs, rfl, a, _, r⟩ := sa
      cases (show y = .int i from sb)
      obtain ⟨v, h1, h2⟩ := r.atI e
      exact .inr (.inl ⟨p, vs, i, v, rfl, rfl, by rw [hK]; exact a.sq hh, h1, q v F H (Step.refl _ _ _) hh h2⟩)
    | _ => cases e
  | str s =>
    cases b with
    | int i =>
      obtain ⟨rfl, ok⟩ := sa
      cases (show y = .int i from sb)
      simp only [dIx, Option.map_eq_some_iff] at e
      obtain ⟨c, e, rfl⟩ := e
      have hc : c ∈ s.cps.toList := by
        unfold atI at e
        obtain ⟨j, _, h2⟩ := Option.bind_eq_some_iff.mp e
        exact List.mem_of_getElem? h2
      exact .inr (.inr ⟨s, i, c, rfl, rfl, ok.1, e, q _ F H (Step.refl _ _ _) hh ⟨rfl, okS_sign ok hc⟩⟩)
    | _ => cases e
  | _ => cases e
theorem de_at (hK : X.K = B.K) (ha : DE B X W a ma) (hb : DE B X W b mb) (hs : PlainIx b := by exact fun _ _ => rfl) : DE B X W (.Subscript a b pos) (mD (mB2 dIx ma mb)) := de_ix (ix_list.or (ix_tup.or ix_str)) (p_ix hK) ha hb hs
/-! ### slices -/
def tOI (B : Bx) (W : WX) (m : M (Option Int)) : TO := fun σ H Q => ∃ F env, Sim B F env σ H ∧ Post B W F env σ H (fun o _ _ H' => Q o H') (m env)
abbrev DP (B : Bx) (X : Cx) (W : WX) (e : Option Expr) (m : M (Option Int)) : Prop := PO X e (tOI B W m)
theorem PO.imp {e : Option Expr} {t t' : TO} (h : PO X e t) (i : ∀ σ H Q, t' σ H Q → t σ H Q) : PO X e t' := ⟨fun pins s σ H Q I q => h.run pins s σ H Q I (i σ H Q q)⟩
theorem dp0 : DP B X W none (M.pure none) := PO.imp po_none fun σ H Q h => by
  obtain ⟨F, env, S, h⟩ := h
  exact Post.here S h
def intOf : D → Option (Option Int)
  | .int i => some (some i)
  | _ => none
theorem dp1 (h : DE B X W e ma) : DP B X W (some e) (mB1 intOf ma) := PO.imp (po_some h) fun σ H Q h => by
  obtain ⟨F, env, S, h⟩ := h
  refine tE.one (g := AN.ap1 intOf) S h fun x e2 F2 H2 v s2 m2 o2 rv k2 => ?_
  obtain ⟨a, z, ea, ez, k3⟩ := k2.ap1
  cases a with
  | int i => cases ez; cases (show v = .int i from m2.view rv ea); exact ⟨i, rfl, Post.here m2 k3⟩
  | _ => cases ez
def ap1s {α : Type} (g : D → Option Int → Option Int → Option α) (x : Opd) (l u : Option Int) : M α := ap1 (fun d => g d l u) x
def mSl {α : Type} (g : D → Option Int → Option Int → Option α) (m : M Opd) (ml mu : M (Option Int)) : M α := M.bind m fun x => M.bind ml fun l => M.bind mu fun u => ap1s g x l u
def cutD (xs : List D) (lo hi : Option Int) : List D := (xs.drop (HT.sIx xs.length 0 lo)).take (HT.sIx xs.length xs.length hi - HT.sIx xs.length 0 lo)
theorem RepL.cut {xs : List D} {vs : List V} (r : RepL B F xs vs) (lo hi : Option Int) : RepL B F (cutD xs lo hi) (cutV vs lo hi) := by
  unfold cutD cutV
  rw [r.length]
  exact (r.drop _).take _
theorem cutD_len (xs : List D) (lo hi : Option Int) : (cutD xs lo hi).length ≤ xs.length := by
  unfold cutD
  rw [List.length_take, List.length_drop]; omega
def dSl : D → Option Int → Option Int → Option D
  | .lst xs, lo, hi => some (.lst (cutD xs lo hi))
  | .tup xs, lo, hi => some (.tup (cutD xs lo hi))
  | .str s, lo, hi => some (.str (cutS s lo hi))
  | _, _, _ => none
def oSl : D → Option Int → Option Int → Option O
  | .lst xs, lo, hi => some (.lst (cutD xs lo hi))
  | _, _, _ => none
theorem okS_cut {s : Str} (ok : okS s) (lo hi : Option Int) : okS (cutS s lo hi) := by
  refine ⟨Nat.le_trans (cutS_length s lo hi) ok.1, ?_⟩
  have h2 := ok.2
  unfold PyData.strOk at h2 ⊢
  rw [← Array.all_toList] at h2 ⊢
  rw [List.all_eq_true] at h2 ⊢
  intro c hc
  refine h2 c ?_
  unfold cutS at hc
  simp only at hc
  exact List.mem_of_mem_drop (List.mem_of_mem_take hc)
theorem sl_read {ml mu : M (Option Int)} {α : Type} {g : D → Option Int → Option Int → Option α} {k : α → Env → Hp → Hp → Prop} {R : V → Option Int → Option Int → Hp → Prop} (S : Sim B F env σ H) (h : Post B W F env σ H k (mSl g ma ml mu env))
    (i : ∀ d l u z e2 F2 H2 v, Step (Own env σ) F H F2 H2 → Sim B F2 e2 σ H2 → EnvLe env e2 → Seen B F2 H2 d v → g d l u = some z → Post B W F2 e2 σ H2 k (.ok z e2) → R v l u H2) :
    tE B W ma σ H fun x H1 => tOI B W ml σ H1 fun l H2 => tOI B W mu σ H2 fun u H3 => R x l u H3 := by
  refine tE.one S h fun x e1 F1 H1 v s1 m1 o1 rv k1 => ⟨F1, e1, m1, (Post.bind m1 k1).mono fun l e2 F2 H2 s2 m2 o2 k2 => ⟨F2, e2, m2, (Post.bind m2 k2).mono fun u e3 F3 H3 s3 m3 o3 k3 => ?_⟩⟩
  obtain ⟨d, z, ed, ez, k4⟩ := k3.ap1
  have s12 := s1.trans s2 fun b z => .inl (o1.own z)
  exact i d l u z e3 F3 H3 v (s12.trans s3 fun b z => .inl (o1.own (o2.own z))) m3 (o1.trans (o2.trans o3)) (m3.view (rv.mono (s2.le.trans s3.le)) ed) ez k4
theorem de_sl {lo hi : Option Expr} {ml mu : M (Option Int)} {p2 : Pos} (hK : X.K = B.K) (ha : DE B X W a ma) (hl : DP B X W lo ml) (hu : DP B X W hi mu) : DE B X W (.Subscript a (.Slice lo hi none p2) pos) (mD (mSl dSl ma ml mu)) :=
  PE.imp (pe_slice (SlR.or sl_list (SlR.or sl_tupA sl_str)) ha hl hu) fun σ H Q h => by
    obtain ⟨F, env, S, h⟩ := h
    refine sl_read S (Post.bind S h) fun d l u z e2 F2 H2 v s2 m2 o2 sd ez k4 => ?_
    have fin : ∀ F3 H3 v, Step0 F2 H2 F3 H3 → Holds F3 H3 → Rep B F3 z v → Q v H3 := fun F3 H3 v s3 h3 r => by
      have m3 := m2.step0 s3 h3
      exact k4 F3 H3 s3.any m3 (EnvLe.refl _) F3 H3 (Step.refl _ _ _) m3 (EnvLe.refl _) v r
    cases d with
    | lst xs =>
      cases ez
      obtain ⟨p, vs, rfl, a, z, r⟩ := sd
      refine .inl ⟨p, vs, rfl, by rw [hK]; exact a, fun p3 hp => ?_⟩
      obtain ⟨s3, h3⟩ := step0_new (u := .lst (cutV vs l u)) m2.hold hp
      exact fin _ _ _ s3 h3 ⟨p3, _, rfl, .inl upd_same, Nat.le_trans (cutD_len xs l u) z, (r.mono s3.le).cut l u⟩
    | tup xs =>
      cases ez
      have sd' := sd
      obtain ⟨p, vs, rfl, a, z, r⟩ := sd
      refine .inr (.inl ⟨p, vs, rfl, by rw [hK]; exact a.sq m2.hold, fun hw => ?_, fun _ p3 hp => ?_⟩)
      · refine fin _ _ _ (Step.refl _ _ _) m2.hold ?_
        have : cutD xs l u = xs := by
          unfold cutD
          rw [r.length] at hw
          rw [hw.1, hw.2]; simp
        rw [this]; exact sd'
      · obtain ⟨s3, h3⟩ := step0_new (u := .tup (cutV vs l u)) m2.hold hp
        exact fin _ _ _ s3 h3 ⟨p3, _, rfl, .inl upd_same, Nat.le_trans (cutD_len xs l u) z, (r.mono s3.le).cut l u⟩
    | str s =>
      cases ez
      obtain ⟨rfl, ok⟩ := sd
      exact .inr (.inr ⟨s, rfl, ok.1, fin _ _ _ (Step.refl _ _ _) m2.hold ⟨rfl, okS_cut ok l u⟩⟩)
    | _ => cases ez
theorem do_sl {lo hi : Option Expr} {ml mu : M (Option Int)} {p2 : Pos} (hK : X.K = B.K) (ha : DE B X W a ma) (hl : DP B X W lo ml) (hu : DP B X W hi mu) : DO B X W (.Subscript a (.Slice lo hi none p2) pos) (mSl oSl ma ml mu) :=
  PE.imp (pe_slice sl_list ha hl hu) fun σ H Q h => by
    obtain ⟨F, env, S, h⟩ := h
    refine sl_read S h fun d l u z e2 F2 H2 v s2 m2 o2 sd ez k4 => ?_
    cases d with
    | lst xs =>
      cases ez
      obtain ⟨p, vs, rfl, a, z, r⟩ := sd
      refine ⟨p, vs, rfl, by rw [hK]; exact a, fun p3 hp => ?_⟩
      obtain ⟨s3, h3⟩ := step0_mk (u := .lst (cutV vs l u)) m2.hold hp
      have m3 := m2.step0 s3 h3
      exact k4 _ _ s3.any m3 (EnvLe.refl _) p3 (s2.back hp) (m2.hold.none hp) ⟨Nat.le_trans (cutD_len xs l u) z, _, upd_same, r.cut l u⟩
    | _ => cases ez
/-! ### in -/
def inStr (x z : Str) : Bool := match x.cps.toList with
  | [c] => decide (c ∈ z.cps.toList)
  | _ => !(Builtin.Str.occurrences z x 0 z.length 1).isEmpty
def inD : D → D → Option Bool
  | .str x, .str z => some (inStr x z)
  | x, .lst xs => if (dle 8 x && dle 8 (.lst xs)) = true then some (xs.any fun y => deqv y x) else none
  | x, .tup xs => if (scalar x && xs.all scalar) = true then some (xs.any fun y => deqv y x) else none
  | _, _ => none
def dInX (n : Bool) (x y : D) : Option D := (inD x y).map fun k => .bl (if n then !k else k)
abbrev rInX (K : PySem.W.Frag) : R2 := fun x y H Q => (∃ (c : Nat) (z : Str), x = .str ⟨#[c]⟩ ∧ y = .str z ∧ Q (.bl (decide (c ∈ z.cps.toList))) H) ∨ ((∃ i j, x = .str i ∧ y = .str j ∧ Q (.bl (!(Builtin.Str.occurrences j i 0 j.length 1).isEmpty)) H) ∨ (rInD K x y H Q ∨ rIn K false x y H Q))
abbrev rNotInX (K : PySem.W.Frag) : R2 := fun x y H Q => (∃ (c : Nat) (z : Str), x = .str ⟨#[c]⟩ ∧ y = .str z ∧ Q (.bl (!decide (c ∈ z.cps.toList))) H) ∨ ((∃ i j, x = .str i ∧ y = .str j ∧ Q (.bl (!(!(Builtin.Str.occurrences j i 0 j.length 1).isEmpty))) H) ∨ (rNotInD K x y H Q ∨ rIn K true x y H Q))
theorem op_inX (hu : X.A.units + 65 < cLine) : OpR X (compareOp .In) (rInX X.K) := OpR.or op_in_sign (OpR.or op_in_str (OpR.or (op_inD hu) op_in_seq))
theorem op_notInX (hu : X.A.units + 65 < cLine) : OpR X (compareOp .NotIn) (rNotInX X.K) := OpR.or op_notIn_sign (OpR.or op_notin_str (OpR.or (op_notInD hu) op_notIn_seq))
theorem toPs_any : ∀ (xs : List D) (f : PyData → Bool), (toPs xs).any f = xs.any fun y => f (toP y)
  | [], _ => rfl
  | d :: ds, f => by show (f (toP d) || _) = _; rw [toPs_any ds f]; rfl
theorem scal_eqV {d d' : D} {v v' : V} (h : scalar d = true) (h' : scalar d' = true) (r : Rep B F d v) (r' : Rep B F d' v') : flatV v = true ∧ flatV v' = true ∧ eqV v v' = deqv d d' := by
  cases d with
  | non => cases (show v = .non from r); cases d' with
    | non => cases (show v' = .non from r'); exact ⟨rfl, rfl, rfl⟩
    | bl _ => cases (show v' = .bl _ from r'); exact ⟨rfl, rfl, rfl⟩
    | int _ => cases (show v' = .int _ from r'); exact ⟨rfl, rfl, rfl⟩
    | str _ => obtain ⟨rfl, _⟩ := r'; exact ⟨rfl, rfl, rfl⟩
    | _ => cases h'
  | bl b => cases (show v = .bl _ from r); cases d' with
    | non => cases (show v' = .non from r'); exact ⟨rfl, rfl, rfl⟩
    | bl _ => cases (show v' = .bl _ from r'); exact ⟨rfl, rfl, rfl⟩
    | int _ => cases (show v' = .int _ from r'); exact ⟨rfl, rfl, rfl⟩
    | str _ => obtain ⟨rfl, _⟩ := r'; exact ⟨rfl, rfl, rfl⟩
    | _ => cases h'
  | int b => cases (show v = .int _ from r); cases d' with
    | non => cases (show v' = .non from r'); exact ⟨rfl, rfl, rfl⟩
    | bl _ => cases (show v' = .bl _ from r'); exact ⟨rfl, rfl, rfl⟩
    | int _ => cases (show v' = .int _ from r'); exact ⟨rfl, rfl, rfl⟩
    | str _ => obtain ⟨rfl, _⟩ := r'; exact ⟨rfl, rfl, rfl⟩
    | _ => cases h'
  | str b => obtain ⟨rfl, _⟩ := r; cases d' with
    | non => cases (show v' = .non from r'); exact ⟨rfl, rfl, rfl⟩
    | bl _ => cases (show v' = .bl _ from r'); exact ⟨rfl, rfl, rfl⟩
    | int _ => cases (show v' = .int _ from r'); exact ⟨rfl, rfl, rfl⟩
    | str _ => obtain ⟨rfl, _⟩ := r'; exact ⟨rfl, rfl, rfl⟩
    | _ => cases h'
  | _ => cases h
theorem scal_all {d' : D} {v' : V} (h' : scalar d' = true) (r' : Rep B F d' v') : ∀ {ds : List D} {vs : List V}, ds.all scalar = true → RepL B F ds vs → vs.all flatV = true ∧ inV v' vs = ds.any fun y => deqv y d'
  | [], vs, _, r => by rw [show vs = [] from r]; exact ⟨rfl, rfl⟩
  | d :: ds, vs, h, r => by
    obtain ⟨v, rest, rfl, r1, r2⟩ := r
    rw [List.all_cons, Bool.and_eq_true] at h
    obtain ⟨a1, a2, a3⟩ := scal_eqV h.1 h' r1 r'
    obtain ⟨b1, b2⟩ := scal_all h' r' h.2 r2
    refine ⟨by rw [List.all_cons, a1, b1]; rfl, ?_⟩
    unfold inV at b2 ⊢
    rw [List.any_cons, List.any_cons, a3, b2]
theorem Seen.scal {d : D} {v : V} (h : scalar d = true) (s : Seen B F H d v) : Rep B F d v := by
  cases d with
  | non => exact s
  | bl b => exact s
  | int i => exact s
  | str i => exact s
  | _ => cases h
theorem in_read {K : PySem.W.Frag} (hK : K = B.K) (hh : Holds F H) {x y : D} {v w : V} {k : Bool} {R1 R2' R3 R4 : Bool → Prop} (sx : Seen B F H x v) (sy : Seen B F H y w) (he : inD x y = some k) {P : Prop}
    (f1 : ∀ c z, v = .str ⟨#[c]⟩ → w = .str z → decide (c ∈ z.cps.toList) = k → P) (f2 : ∀ i j, v = .str i → w = .str j → (!(Builtin.Str.occurrences j i 0 j.length 1).isEmpty) = k → P)
    (f3 : ∀ d ds, Dp K H v d → Dp K H w (.list ds) → SeqAt.shaped d = true → SeqAt.shaped (.list ds) = true → (ds.any fun z => PyData.eqv z d) = k → P)
    (f4 : ∀ p xs, w = .ref p → SqT K H p xs → flatV v = true → xs.all flatV = true → inV v xs = k → P) : P := by
  have lst : ∀ xs, y = .lst xs → (if (dle 8 x && dle 8 (.lst xs)) = true then some (xs.any fun y => deqv y x) else none) = some k → P := fun xs ey e => by
    subst ey
    by_cases hd : (dle 8 x && dle 8 (.lst xs)) = true
    · rw [if_pos hd] at e; cases e
      rw [Bool.and_eq_true] at hd
      obtain ⟨a1, a2⟩ := sx.dp hK hh hd.1
      obtain ⟨b1, b2⟩ := sy.dp hK hh hd.2
      exact f3 _ _ a1 b1 a2 b2 (toPs_any xs fun z => PyData.eqv z (toP x))
    · rw [if_neg hd] at e; cases e
  have tup : ∀ xs, y = .tup xs → (if (scalar x && xs.all scalar) = true then some (xs.any fun y => deqv y x) else none) = some k → P := fun xs ey e => by
    subst ey
    by_cases hd : (scalar x && xs.all scalar) = true
    · rw [if_pos hd] at e; cases e
      rw [Bool.and_eq_true] at hd
      obtain ⟨p, vs, rfl, a, _, r⟩ := sy
      obtain ⟨b1, b2⟩ := scal_all hd.1 (sx.scal hd.1) hd.2 r
      obtain ⟨c1, _, _⟩ := scal_eqV hd.1 hd.1 (sx.scal hd.1) (sx.scal hd.1)
      exact f4 p vs rfl (by rw [hK]; exact a.sq hh) c1 b1 b2
    · rw [if_neg hd] at e; cases e
  cases y with
  | lst xs => exact lst xs rfl (by cases x <;> exact he)
  | tup xs => exact tup xs rfl (by cases x <;> exact he)
  | str z =>
    cases x with
    | str s =>
      obtain ⟨rfl, _⟩ := sx
      obtain ⟨rfl, _⟩ := sy
      simp only [inD, Option.some.injEq] at he
      unfold inStr at he
      obtain ⟨⟨l⟩⟩ := s
      simp only at he
      cases l with
      | nil => exact f2 _ _ rfl rfl he
      | cons c l =>
        cases l with
        | nil => exact f1 c z rfl rfl he
        | cons c2 l => exact f2 _ _ rfl rfl he
    | _ => cases he
  | _ => cases x <;> cases he
theorem p_in (hK : X.K = B.K) : Prim2 B (dInX false) (rInX X.K) := fun F H a b z x y Q hh sa sb e q => by
  simp only [dInX, Option.map_eq_some_iff] at e
  obtain ⟨k, e, rfl⟩ := e
  have fin : ∀ k', k' = k → Q (.bl k') H := fun k' e => q _ F H (Step.refl _ _ _) hh (by rw [e]; rfl)
  exact in_read hK hh sa sb e (R1 := fun _ => True) (R2' := fun _ => True) (R3 := fun _ => True) (R4 := fun _ => True) (fun c z h1 h2 h3 => .inl ⟨c, z, h1, h2, fin _ h3⟩) (fun i j h1 h2 h3 => .inr (.inl ⟨i, j, h1, h2, fin _ h3⟩))
    (fun d ds h1 h2 h3 h4 h5 => .inr (.inr (.inl ⟨d, ds, h1, h2, h3, h4, fin _ h5⟩))) (fun p xs h1 h2 h3 h4 h5 => .inr (.inr (.inr ⟨p, xs, h1, .inr h2, h3, h4, fin _ h5⟩)))
theorem p_notIn (hK : X.K = B.K) : Prim2 B (dInX true) (rNotInX X.K) := fun F H a b z x y Q hh sa sb e q => by
  simp only [dInX, Option.map_eq_some_iff] at e
  obtain ⟨k, e, rfl⟩ := e
  have fin : ∀ k', k' = k → Q (.bl (!k')) H := fun k' e => q _ F H (Step.refl _ _ _) hh (by rw [e]; rfl)
  exact in_read hK hh sa sb e (R1 := fun _ => True) (R2' := fun _ => True) (R3 := fun _ => True) (R4 := fun _ => True) (fun c z h1 h2 h3 => .inl ⟨c, z, h1, h2, fin _ h3⟩) (fun i j h1 h2 h3 => .inr (.inl ⟨i, j, h1, h2, fin _ h3⟩))
    (fun d ds h1 h2 h3 h4 h5 => .inr (.inr (.inl ⟨d, ds, h1, h2, h3, h4, fin _ h5⟩))) (fun p xs h1 h2 h3 h4 h5 => .inr (.inr (.inr ⟨p, xs, h1, .inr h2, h3, h4, fin _ h5⟩)))
/-! ### join -/
def strsOf : List D → Option (List Str)
  | [] => some []
  | .str i :: ds => (strsOf ds).map (i :: ·)
  | _ :: _ => none
theorem strsOf_rep : ∀ {ds : List D} {vs : List V} {ns : List Str}, strsOf ds = some ns → RepL B F ds vs → vs = ns.map V.str ∧ ∀ s ∈ ns, okS s
  | [], vs, ns, h, r => by cases h; exact ⟨r, fun _ z => nomatch z⟩
  | d :: ds, vs, ns, h, r => by
    obtain ⟨v, rest, rfl, r1, r2⟩ := r
    cases d with
    | str i =>
      simp only [strsOf, Option.map_eq_some_iff] at h
      obtain ⟨m, h, rfl⟩ := h
      obtain ⟨rfl, ok⟩ := r1
      obtain ⟨e, h2⟩ := strsOf_rep h r2
      refine ⟨by rw [e]; rfl, fun s hs => ?_⟩
      rcases List.mem_cons.mp hs with rfl | hs
      · exact ok
      · exact h2 s hs
    | _ => cases h
theorem okS_join {a : Str} (ha : okS a) : ∀ ys : List Str, (∀ y ∈ ys, okS y) → (ys.map (·.length)).sum + ys.length * a.length ≤ 16777216 → okS (Str.join a ys) ∧ (Str.join a ys).length ≤ (ys.map (·.length)).sum + ys.length * a.length
  | [], _, _ => ⟨(⟨by decide +kernel, by decide +kernel⟩ : okS Str.empty), Nat.zero_le _⟩
  | [x], h, _ => ⟨h x (by simp), by simp [Str.join]⟩
  | x :: z :: r, h, hz => by
    have e1 : ((x :: z :: r).map (·.length)).sum = x.length + ((z :: r).map (·.length)).sum := by simp
    have e2 : (x :: z :: r).length * a.length = a.length + (z :: r).length * a.length := by
      rw [List.length_cons, Nat.succ_mul]; omega
    rw [e1, e2] at hz ⊢
    obtain ⟨o1, o2⟩ := okS_join ha (z :: r) (fun y hy => h y (List.mem_cons_of_mem _ hy)) (by omega)
    have sl := sizeLine_eq
    have l1 : (x ++ a).length = x.length + a.length := by
      show (x.cps ++ a.cps).size = _
      rw [Array.size_append]; rfl
    have l2 : (x ++ a ++ Str.join a (z :: r)).length = x.length + a.length + (Str.join a (z :: r)).length := by
      show ((x ++ a).cps ++ (Str.join a (z :: r)).cps).size = _
      rw [Array.size_append]
      show (x ++ a).length + _ = _
      rw [l1]; rfl
    have o3 : okS (x ++ a) := okS_app (h x (by simp)) ha (by rw [sl]; omega)
    refine ⟨okS_app o3 o1 (by rw [l1, sl]; omega), ?_⟩
    show (x ++ a ++ Str.join a (z :: r)).length ≤ _
    rw [l2]; omega
def dJoin : D → D → Option D
  | .str a, .lst xs => (strsOf xs).bind fun ys => if (ys.map (·.length)).sum + ys.length * a.length ≤ 16777216 then some (.str (Str.join a ys)) else none
  | _, _ => none
def strChk : D → Option Unit
  | .str _ => some ()
  | _ => none
def mM1 (g : D → D → Option D) (m n : M Opd) : M Opd := M.bind m fun x => M.bind (ap1 strChk x) fun _ => M.bind n fun y => mD (ap2 g x y)
theorem m1_read {g : D → D → Option D} {r : V → List V → Hp → VK → Prop} (hp : Prim2 B g (fun x y H Q => r x [y] H Q)) (h : tE B W (mM1 g ma mb) σ H Q) : tM1 r (tE B W ma) (tE B W mb) σ H Q := by
  obtain ⟨F, env, S, h⟩ := h
  refine tE.one S h fun x e1 F1 H1 v s1 m1 o1 rv k1 => ?_
  obtain ⟨a, z, ea, ez, k2⟩ := (Post.bind m1 k1).ap1
  have sa := m1.view rv ea
  have hx : ∃ s, v = .str s := by
    cases a with
    | str s => obtain ⟨rfl, _⟩ := sa; exact ⟨s, rfl⟩
    | _ => cases ez
  refine ⟨hx, ?_⟩
  refine tE.one m1 (Post.here m1 k2) fun y e2 F2 H2 w s2 m2 o2 rw k3 => ?_
  obtain ⟨a', b, z', ea', eb, ez', k4⟩ := (Post.bind m2 k3).ap2
  refine hp F2 H2 a' b z' v w Q m2.hold (m2.view (rv.mono s2.le) ea') (m2.view rw eb) ez' fun u F3 H3 s3 h3 rz => ?_
  have m3 := m2.step0 s3 h3
  exact k4 F3 H3 s3.any m3 (EnvLe.refl _) F3 H3 (Step.refl _ _ _) m3 (EnvLe.refl _) u rz
theorem de_join {apos : Pos} (hK : X.K = B.K) (ha : DE B X W a ma) (hb : DE B X W b mb) (hs : starEach [b] X.env = [(false, eval b X.env)] := by rfl) (hbase : attributeBase a "join" X.env (eval a X.env) = eval a X.env := by rfl) (hline : (apos.endLine == pos.line) = true := by rfl) :
    DE B X W (.Call (.Attribute a "join" apos) [b] [] pos) (mM1 dJoin ma mb) := PE.imp (pe_join ha hb hs hbase hline) fun σ H Q h => m1_read (fun F H a b z x y Q hh sa sb e q => by
    cases a with
    | str s =>
      cases b with
      | lst xs =>
        obtain ⟨rfl, ok⟩ := sa
        obtain ⟨p, vs, rfl, a, _, r⟩ := sb
        obtain ⟨ys, e1, e2⟩ := Option.bind_eq_some_iff.mp e
        obtain ⟨rfl, hy⟩ := strsOf_rep e1 r
        by_cases hz : (ys.map (·.length)).sum + ys.length * s.length ≤ 16777216
        · rw [if_pos hz] at e2; cases e2
          refine ⟨s, p, ys, rfl, rfl, .inl (by rw [hK]; exact a), hz, ?_⟩
          rw [TL.join_eq]
          exact q _ F H (Step.refl _ _ _) hh ⟨rfl, (okS_join ok ys hy hz).1⟩
        · rw [if_neg hz] at e2; cases e2
      | _ => cases e
    | _ => cases e) h
/-! ### x[i] = e, x a name that alone holds its list -/
def chkL (i : Nat) : M Unit := fun env => match env[i]? with
  | some (.ow _ (.lst _)) => .ok () env
  | _ => .bad
def putAt (i : Nat) (d : D) (k : Option Int) : M Fl := fun env => match k, env[i]? with
  | some k, some (.ow pn (.lst xs)) => (match ixN xs.length k with
    | some j => .ok .nx (env.set i (.ow pn (.lst (xs.set j d))))
    | none => .bad)
  | _, _ => .bad
def mPutAt (i : Nat) (ix : M Opd) (m : M Opd) : M Fl := M.bind m fun x => M.bind (frz1 x) fun d => M.bind (chkL i) fun _ => M.bind ix fun y => M.bind (ap1 intOf y) fun k => putAt i d k
theorem PostS.chkL {i : Nat} {D0 : Ends} {k : Unit → M Fl} (S : Sim B F env σ H) (h : PostS B W F env σ H D0 (M.bind (AN.chkL i) k env)) : ∃ pn xs, env[i]? = some (.ow pn (.lst xs)) ∧ PostS B W F env σ H D0 (k () env) := by
  unfold M.bind AN.chkL at h
  cases q : env[i]? with
  | none => simp only [q] at h; exact h.elim
  | some s =>
    cases s with
    | no => simp only [q] at h; exact h.elim
    | fz _ => simp only [q] at h; exact h.elim
    | ow pn o =>
      cases o with
      | lst xs => simp only [q] at h; exact ⟨pn, xs, rfl, h⟩
      | dic _ => simp only [q] at h; exact h.elim
      | obj _ _ => simp only [q] at h; exact h.elim
theorem Sim.setOw {i : Nat} {pn : Bool} {o o' : O} {p : Addr} {u : HO} (S : Sim B F env σ H) (hi : env[i]? = some (.ow pn o)) (hp : σ[i]? = some (some (.ref p))) (ho : OAt B F (upd H p u) p o') : Go B F env σ H F (env.set i (.ow pn o')) σ (upd H p u) := by
  obtain ⟨p', a1, a2, a3⟩ := S.ow i pn o hi
  rw [hp] at a1; cases a1
  obtain ⟨w, hw⟩ := a3.ex
  have il : i < env.length := (List.getElem?_eq_some_iff.mp hi).1
  have own : Own env σ p := ⟨i, pn, o, hi, hp⟩
  have l : EnvLe env (env.set i (.ow pn o')) := ⟨fun j k q z => by
    rcases getElem?_setS z with ⟨rfl, e⟩ | ⟨_, e⟩
    · cases e; exact ⟨o, hi⟩
    · exact ⟨q, e⟩, fun j q z => by
    by_cases hj : i = j
    · subst hj; rw [hi] at z; cases z; exact ⟨o', List.getElem?_set_self il⟩
    · exact ⟨q, by rw [List.getElem?_set_ne hj]; exact z⟩⟩
  refine Go.of ⟨Le.refl F, fun b v e n => ?_, fun b v e => .inl e, fun b v e => ?_⟩ ⟨fun b v e => ?_, by rw [List.length_set]; exact S.len, fun j d z => ?_, fun j k q z => ?_, fun j j' k1 o1 k2 o2 q c1 c2 d1 d2 => ?_⟩ l
  · have : b ≠ p := fun z => n (by rw [z]; exact own)
    rw [upd_ne this]; exact e
  · by_cases hb : b = p
    · subst hb; exact ⟨u, upd_same⟩
    · exact ⟨v, by rw [upd_ne hb]; exact e⟩
  · have : b ≠ p := fun z => by rw [z, a2] at e; cases e
    rw [upd_ne this]; exact S.hold b v e
  · rcases getElem?_setS z with ⟨_, e⟩ | ⟨_, e⟩
    · cases e
    · exact S.fz j d e
  · rcases getElem?_setS z with ⟨rfl, e⟩ | ⟨ne, e⟩
    · cases e; exact ⟨p, hp, a2, ho⟩
    · obtain ⟨p', b1, b2, b3⟩ := S.ow j k q e
      have : p' ≠ p := fun z => ne (S.sep i j pn o k q p hi e hp (by rw [← z]; exact b1))
      exact ⟨p', b1, b2, b3.mono (Le.refl _) fun v hv => by rw [upd_ne this]; exact hv⟩
  · have f : ∀ {j : Nat} {k1 : Bool} {o1' : O}, (env.set i (.ow pn o'))[j]? = some (.ow k1 o1') → ∃ k2 o2, env[j]? = some (.ow k2 o2) := fun {j k1 o1'} z => by
      rcases getElem?_setS z with ⟨rfl, e⟩ | ⟨ne, e⟩
      · exact ⟨pn, o, hi⟩
      · exact ⟨_, _, e⟩
    obtain ⟨_, _, x1⟩ := f c1
    obtain ⟨_, _, x2⟩ := f c2
    exact S.sep j j' _ _ _ _ q x1 x2 d1 d2
theorem ds_putAt (i : Nat) {x : Str} {p' p2 : Pos} (hb : DE B X W b mb) (he : DE B X W e ma) (hN : X.N[i]? = some x := by rfl) (hv : Vis X.env.scope x := by first | exact Or.inl rfl | exact Or.inr (Or.inl rfl) | exact Or.inr (Or.inr rfl)) (hd : (x == ("__debug__" : Str)) = false := by decide)
    (hcd : (x == ("__classdict__" : Str)) = false := by decide)
    (ha : ∀ v, assign (.Subscript (.Name x p') b p2) X.env v = (do
      let ov ← holding [v] (eval (.Name x p') X.env)
      let iv ← holding [v, ov] (eval b X.env)
      standAt p2
      holding [v, ov, iv] (setItem ov iv v)
      release [v, ov, iv] []) := by intro _; rfl)
    (hs : swapsWithSole [.Subscript (.Name x p') b p2] e pos.line X.env = pure false := by rfl) (hw : swappedStores [.Subscript (.Name x p') b p2] e X.env = pure none := by rfl)
    (h1 : (assignEach [.Subscript (.Name x p') b p2] X.env).map (·.2) = [assign (.Subscript (.Name x p') b p2) X.env] := by rfl) : DS B X W (.Assign [.Subscript (.Name x p') b p2] e pos) (mPutAt i mb ma) :=
  PS.imp (ps_asg he (pg_sub (pe_var hN hv hd hcd) hb set_list ha) hs hw h1) fun D σ H h => by
    obtain ⟨F, env, S, h⟩ := h
    refine ⟨F, env, S, h.bind.mono fun x e1 F1 H1 s1 m1 o1 k1 v rv => ?_⟩
    obtain ⟨d, e2, F2, s2, m2, o2, r2, k2⟩ := m1.frz1 rv k1.bind
    obtain ⟨pn, xs, hi, k3⟩ := k2.chkL m2
    obtain ⟨q, hq, hf, _⟩ := m2.ow i pn _ hi
    refine ⟨.ref q, hq, F2, e2, m2, k3.bind.mono fun y e3 F3 H3 s3 m3 o3 k4 w rw => ?_⟩
    obtain ⟨a, z, ea, ez, k5⟩ := k4.bind.ap1
    have k5 := Post.here m3 k5
    have sa := m3.view rw ea
    cases a with
    | int n =>
      cases ez
      cases (show w = .int n from sa)
      unfold putAt at k5
      cases q2 : e3[i]? with
      | none => simp only [q2] at k5; exact k5.elim
      | some sl =>
        cases sl with
        | no => simp only [q2] at k5; exact k5.elim
        | fz _ => simp only [q2] at k5; exact k5.elim
        | ow pn' o =>
          cases o with
          | dic _ => simp only [q2] at k5; exact k5.elim
          | obj _ _ => simp only [q2] at k5; exact k5.elim
          | lst ys =>
            simp only [q2] at k5
            cases q3 : ixN ys.length n with
            | none => simp only [q3] at k5; exact k5.elim
            | some j =>
              simp only [q3] at k5
              obtain ⟨q', hq', hf', hz, vs, hv, rl⟩ := m3.ow i pn' _ q2
              rw [hq] at hq'; cases hq'
              refine ⟨q, vs, n, j, rfl, rfl, hv, by rw [rl.length]; exact q3, ?_⟩
              exact k5 _ _ _ (m3.setOw q2 hq ⟨by rw [List.length_set]; exact hz, _, upd_same, rl.set (Rep.mono s3.le d v r2) j⟩)
    | _ => cases ez
end
end AN

set_option Elab.async false
set_option maxRecDepth 100000
set_option autoImplicit false
set_option linter.unusedVariables false
namespace AN
open PySem L2

section
variable {B : Bx} {X : Cx} {W : WX} {F H : Hp} {env : Env} {σ : St} {Q : VK} {a b c e : Expr} {ma mb mc : M Opd} {pos p : Pos} {ms : M (List Opd)}
/-! ### a, b = x, y -/
def puts : List Nat → List D → Env → Option Env
  | [], [], env => some env
  | i :: is, d :: ds, env => (gN i d env).bind (puts is ds)
  | _, _, _ => none
def mPar (is : List Nat) (ms : M (List Opd)) : M Fl := M.bind ms fun xs => M.bind (frzs xs) fun ds env => match puts is ds env with
  | some e => .ok .nx e
  | none => .bad
theorem puts2 {i j : Nat} {ds : List D} {vs : List V} {e' : Env} (S : Sim B F env σ H) (r : RepL B F ds vs) (h : puts [i, j] ds env = some e') : ∃ v w, vs = [v, w] ∧ Go B F env σ H F e' ((σ.set i (some v)).set j (some w)) H := by
  match ds, r, h with
  | [d1, d2], r, h =>
    obtain ⟨v, r', rfl, a1, r⟩ := r
    obtain ⟨w, r', rfl, a2, r⟩ := r
    cases (show r' = [] from r)
    obtain ⟨e1, h1, h⟩ := Option.bind_eq_some_iff.mp h
    obtain ⟨e2, h2, h⟩ := Option.bind_eq_some_iff.mp h
    cases h
    obtain ⟨⟨s0, b0⟩, b1, rfl⟩ := gN_ok h1
    have g1 := S.setD b0 b1 a1
    obtain ⟨⟨s1, c0⟩, c1, rfl⟩ := gN_ok h2
    exact ⟨v, w, rfl, g1.trans (g1.sim.setD c0 c1 a2)⟩
  | [], r, h => cases h
  | [_], r, h =>
    obtain ⟨e1, h1, h⟩ := Option.bind_eq_some_iff.mp h
    cases h
  | _ :: _ :: _ :: _, r, h =>
    obtain ⟨e1, h1, h⟩ := Option.bind_eq_some_iff.mp h
    obtain ⟨e2, h2, h⟩ := Option.bind_eq_some_iff.mp h
    cases h
theorem ds_par2 (i j : Nat) {x y : Str} {px py pt : Pos} {kt k2 pt2} (hc : X.calm = true) (hN : X.N.Nodup) (ha : DA B X W [a, b] ms) (hi : X.N[i]? = some x := by rfl) (hj : X.N[j]? = some y := by rfl) (hij : i ≠ j := by decide)
    (hx : X.env.scope.names.lookup x = some .local := by rfl) (hy : X.env.scope.names.lookup y = some .local := by rfl)
    (hw : swappedStores [.Tuple [.Name x px, .Name y py] kt pt] (.Tuple [a, b] k2 pt2) X.env = pure (some [x, y]) := by rfl)
    (hs : swapsWithSole [.Tuple [.Name x px, .Name y py] kt pt] (.Tuple [a, b] k2 pt2) pos.line X.env = pure false := by rfl) :
    DS B X W (.Assign [.Tuple [.Name x px, .Name y py] kt pt] (.Tuple [a, b] k2 pt2) pos) (mPar [i, j] ms) := PS.imp (ps_par hc hN hi hj hij hx hy ha hw hs) fun D σ H h => by
  obtain ⟨F, env, S, h⟩ := h
  refine ⟨F, env, S, h.bind.mono fun xs e1 F1 H1 s1 m1 o1 k1 vs rvs => ?_⟩
  obtain ⟨ds, e2, F2, s2, m2, o2, r2, k2⟩ := m1.frzs rvs k1.bind
  cases q : puts [i, j] ds e2 with
  | none => simp only [q] at k2; exact k2.elim
  | some e3 =>
    simp only [q] at k2
    obtain ⟨v, w, rfl, g⟩ := puts2 m2 r2 q
    exact ⟨v, w, rfl, k2 _ _ _ g⟩
/-! ### the script -/
def scriptD (ns : List Int) : D := .lst (ns.map .int)
theorem repL_ints (ns : List Int) : RepL B F (ns.map D.int) (ns.map V.int) := by
  induction ns with
  | nil => rfl
  | cons n ns ih => exact ⟨_, _, rfl, rfl, ih⟩
/-- a law's promise: True for every script -/
theorem law_sp {f : Fn} {K : PySem.W.Frag} {a : Addr} {ns : List Int} (hK : K = B.K) (h : ∃ as, f [.fz (scriptD ns)] = .ok (.fz (.bl true)) as) (hl : ns.length ≤ 63) (hO : Only H) (hS : SqL K H a (ns.map V.int)) {E : XK} :
    spOf B 1 f [.ref a] H (fun v _ => v = .bl true) E := by
  obtain ⟨as, h⟩ := h
  have core : ∀ F : Hp, Holds F H → LAt B F a (ns.map V.int) → spOf B 1 f [.ref a] H (fun v _ => v = .bl true) E := fun F hh hF => by
    refine ⟨rfl, F, [.fz (scriptD ns)], ?_, fun i k o q => ?_, ?_⟩
    · refine sim_fz (ds := [scriptD ns]) (vs := [.ref a]) hh ⟨_, _, rfl, ⟨a, _, rfl, hF, ?_, repL_ints ns⟩, rfl⟩
      rw [List.length_map]
      exact Nat.le_trans hl (by decide)
    · cases i with
      | zero => simp at q
      | succ i => simp at q
    · rw [h]
      exact fun v F' H' s m r => r
  rcases hS with (z | ⟨o, z⟩) | z
  · rcases hO a with y | ⟨o, xs, y⟩ <;> rw [z] at y <;> cases y
  · refine core (fun b => if b = a then some (.lst (ns.map V.int)) else none) (fun b u e => ?_) (.inl (if_pos rfl))
    by_cases hb : b = a
    · subst hb
      have e' := (if_pos rfl).symm.trans e
      cases e'
      exact .inr ⟨rfl, o, z⟩
    · have e' := (if_neg hb).symm.trans e
      cases e'
  · refine core nil (fun b u e => by cases e) (.inr (.inr ?_))
    rw [← hK]; exact z
theorem blk_ok {N : List Str} {sc scope : Scope} {own : List (Str × Nat)} (hN : X.N = N) (hs : X.env.scope = sc) (h : blkC N sc scope own = true) : blkC X.N X.env.scope scope own = true := by rw [hN, hs]; exact h
def mDic0 : M O := M.pure (.dic [])
theorem do_dic0 : DO B X W (.Dict [] [] pos) mDic0 := PE.imp pe_dnewK fun σ H Q h => by
  obtain ⟨F, env, S, h⟩ := h
  intro d hd
  obtain ⟨s3, h3⟩ := step0_mk (u := .dK []) S.hold hd
  exact h _ _ s3.any (S.step0 s3 h3) (EnvLe.refl _) d hd (S.hold.none hd) ⟨Nat.zero_le _, [], upd_same, rfl⟩
theorem hu65 {k : Nat} {A : Around} (hr : Room k A) : A.units + 65 < cLine := by have := hr.un; omega
theorem hu64 {k : Nat} {A : Around} (hr : Room k A) : A.units + 64 < cLine := by have := hr.un; omega
/-! ### constants of the module -/
theorem de_gS {x : Str} {s : Str} (h : ∃ t, X.mg x = some (.str s t)) (ok : okS s) (hg : Gl X x := by rfl) (hd : (x == ("__debug__" : Str)) = false := by decide) : DE B X W (.Name x pos) (mC (.str s)) := by
  obtain ⟨t, h⟩ := h
  exact de_glob (v := .str s) hg h ⟨t, rfl⟩ (fun _ => ⟨rfl, ok⟩) hd
theorem de_gI {x : Str} {i : Int} (h : ∃ t, X.mg x = some (.int i t)) (hg : Gl X x := by rfl) (hd : (x == ("__debug__" : Str)) = false := by decide) : DE B X W (.Name x pos) (mC (.int i)) := by
  obtain ⟨t, h⟩ := h
  exact de_glob (v := .int i) hg h ⟨t, rfl⟩ (fun _ => rfl) hd
/-! ### a def of the module, ready to be called -/
structure Cal (P : Program) (w : World) (K : PySem.W.Frag) (mg : Str → Option Value) (base : Heap) (B : Bx) (x : Str) (k : Nat) (ps : List Str) (f : Fn) : Prop where
  ex : ∃ fa fd, FnOk P w K mg base (L2.CX P w) k fa fd ps (spOf B ps.length f) ∧ mg x = some (.ref fa) ∧ PySem.W.keepIn K (.ref fa) = true ∧ Binds K fd ps []
variable {k n : Nat} {ps : List Str} {f : Fn} {x : Str} {es : List Expr} {sg : List Bool}
theorem dc (C : Cal X.prog X.w X.K X.mg X.base B x k ps f) (hr : Room k X.A) (tk : Takes X W) (ha : DA B X W (e :: es) ms) (hg : Gl X x := by rfl) (hdb : (x == ("__debug__" : Str)) = false := by decide)
    (he : starEach (e :: es) X.env = (false, eval e X.env) :: starEach es X.env := by rfl) (hpl : (backTo pos (starEach es X.env)).any (·.1) = false := by rfl) : DE B X W (.Call (.Name x p) (e :: es) [] pos) (mCall ps.length f ms) := by
  obtain ⟨fa, fd, G, hm, hk, hb⟩ := C.ex
  exact de_call G hr tk hm hk hb ha hg hdb he hpl
theorem oc (C : Cal X.prog X.w X.K X.mg X.base B x k ps f) (hr : Room k X.A) (tk : Takes X W) (ha : DA B X W (e :: es) ms) (hg : Gl X x := by rfl) (hdb : (x == ("__debug__" : Str)) = false := by decide)
    (he : starEach (e :: es) X.env = (false, eval e X.env) :: starEach es X.env := by rfl) (hpl : (backTo pos (starEach es X.env)).any (·.1) = false := by rfl) : DO B X W (.Call (.Name x p) (e :: es) [] pos) (mCallO ps.length f ms) := by
  obtain ⟨fa, fd, G, hm, hk, hb⟩ := C.ex
  exact do_call G hr tk hm hk hb ha hg hdb he hpl
theorem dcM (sg : List Bool) (C : Cal X.prog X.w X.K X.mg X.base B x k ps f) (hr : Room k X.A) (tk : Takes X W) (ha : DA B X W (e :: es) ms) (hsg : ps.length = sg.length := by rfl) (hg : Gl X x := by rfl) (hdb : (x == ("__debug__" : Str)) = false := by decide)
    (he : starEach (e :: es) X.env = (false, eval e X.env) :: starEach es X.env := by rfl) (hpl : (backTo pos (starEach es X.env)).any (·.1) = false := by rfl) : DE B X W (.Call (.Name x p) (e :: es) [] pos) (mCallM sg f ms) := by
  obtain ⟨fa, fd, G, hm, hk, hb⟩ := C.ex
  rw [hsg] at G
  exact de_callM G hr tk hm hk hb ha hg hdb he hpl
theorem ocM (sg : List Bool) (C : Cal X.prog X.w X.K X.mg X.base B x k ps f) (hr : Room k X.A) (tk : Takes X W) (ha : DA B X W (e :: es) ms) (hsg : ps.length = sg.length := by rfl) (hg : Gl X x := by rfl) (hdb : (x == ("__debug__" : Str)) = false := by decide)
    (he : starEach (e :: es) X.env = (false, eval e X.env) :: starEach es X.env := by rfl) (hpl : (backTo pos (starEach es X.env)).any (·.1) = false := by rfl) : DO B X W (.Call (.Name x p) (e :: es) [] pos) (mCallMO sg f ms) := by
  obtain ⟨fa, fd, G, hm, hk, hb⟩ := C.ex
  rw [hsg] at G
  exact do_callM G hr tk hm hk hb ha hg hdb he hpl
end
/-- the end: the law's promise from what the top has left -/
theorem walk_x {l : PySem.W.OpenLaw} {k : Nat} {q : Program} {loose : List Str} {XP : (Str → Option Value) → Heap → Prop} {YP : World → Heap → Prop} {d : DefRec} {K : Params → PySem.W.Frag} {x : Str} {f : Fn} (B : PySem.W.Frag → Bx) (hB : ∀ F, (B F).K = F)
    (hn : l.most = some 63) (hdf : d.params.defaults = []) (hr : Room k callerA) (hY : ∀ (w : World) (h : Heap), YP w h → (K w.params).In h)
    (Fh : ∀ (w : World) (mg : Str → Option Value) (fa : Addr) (h : Heap), (K w.params).In h → h.Ns mainGlobals mg → XP mg h → mg d.name = some (.ref fa) →
      ∃ fd : FuncData, (∀ (s : Shared) (u : Value), BindsTo s fd ⟨[u], []⟩ [(x, u)]) ∧
        ∀ base : Heap, (K w.params).In base → base.Ns mainGlobals mg → FnOk l.prog w (K w.params) mg base (L2.CX l.prog w) k fa fd [x] (spOf (B (K w.params)) 1 f))
    (hf : ∀ ns : List Int, ns.length ≤ 63 → ∃ as, f [.fz (scriptD ns)] = .ok (.fz (.bl true)) as) :
    PySem.W.WalkO q loose XP YP l.row.toRowW d [] (fun f vs => PySem.call f vs) := by
  refine Att.attach_call hn hdf fun w s₀ s₁ mg mb fa o pm cd doc a vs ns G Y ho hd hcd hmg hobj hints hlen hg => ?_
  have KX := hY w _ Y
  obtain ⟨fd, hb, hF⟩ := Fh w mg fa _ KX G.T.g G.X hmg
  refine law_call KX G.T.g G.T.b G.T.builtins G.T.nolimit hg hobj hints (Nat.le_trans hlen (by decide)) hr hF hb (fun H hO hS => law_sp (hB _).symm (hf ns hlen) hlen hO hS) fun H e s' h => ?_
  obtain ⟨_, _, _, _, _, _, _, _, _, _, _, _, z⟩ := h
  exact z
end AN

set_option Elab.async false
set_option maxRecDepth 100000
set_option autoImplicit false
set_option linter.unusedVariables false
namespace AN
open PySem L2
/-! ### running a mirror -/
def R.th {α β : Type} (r : R α) (k : α → M β) : R β := match r with
  | .ok a e => k a e
  | .exc c d e => .exc c d e
  | .bad => .bad
def rop {α : Type} (o : Option α) (e : Env) : R α := match o with
  | some a => .ok a e
  | none => .bad
section
variable {α β : Type} {a : α} {e e' : Env} {k : α → M β} {c : String} {d : D}
@[simp] theorem th_ok : R.th (.ok a e) k = k a e := rfl
@[simp] theorem th_exc : R.th (.exc c d e : R α) k = .exc c d e := rfl
@[simp] theorem th_bad : R.th (.bad : R α) k = .bad := rfl
@[simp] theorem rop_some : rop (some a) e = .ok a e := rfl
@[simp] theorem rop_none : rop (none : Option α) e = .bad := rfl
theorem th_congr {r : R α} {k k' : α → M β} (h : ∀ a e, k a e = k' a e) : R.th r k = R.th r k' := by
  cases r with
  | ok a e => exact h a e
  | exc c d e => rfl
  | bad => rfl
theorem bind_r {m : M α} : M.bind m k e = R.th (m e) k := rfl
@[simp] theorem pure_r : M.pure a e = .ok a e := rfl
@[simp] theorem mC_r : mC d e = .ok (.d d) e := rfl
@[simp] theorem mD_r {m : M D} : mD m e = R.th (m e) fun d e => .ok (.d d) e := rfl
@[simp] theorem mB1_r {g : D → Option α} {m : M Opd} : mB1 g m e = R.th (m e) fun x e => ap1 g x e := rfl
@[simp] theorem mB2_r {g : D → D → Option α} {m n : M Opd} : mB2 g m n e = R.th (m e) fun x e => R.th (n e) fun y e => ap2 g x y e := rfl
@[simp] theorem ap1_r {g : D → Option α} {x : Opd} : ap1 g x e = rop ((view e x).bind g) e := by
  unfold ap1 rop
  cases view e x with
  | none => rfl
  | some a => dsimp only [Option.bind] <;> cases g a <;> rfl
@[simp] theorem ap2_r {g : D → D → Option α} {x y : Opd} : ap2 g x y e = rop ((view e x).bind fun a => (view e y).bind fun b => g a b) e := by
  unfold ap2 rop
  cases view e x with
  | none => rfl
  | some a => cases view e y with
    | none => rfl
    | some b => dsimp only [Option.bind] <;> cases g a b <;> rfl
@[simp] theorem view_d : view e (.d d) = some d := rfl
@[simp] theorem g2b_r {g : D → D → Option D} {x y : D} : g2b g x y = (g x y).bind blOf := rfl
@[simp] theorem mSeq_r {m n : M Fl} : mSeq m n e = R.th (m e) fun f => match f with
  | .nx => n
  | f => M.pure f := rfl
@[simp] theorem mIfS_r {t : M Bool} {m n : M Fl} : mIfS t m n e = R.th (t e) fun c => if c = true then m else n := rfl
@[simp] theorem mSet_r {i : Nat} {m : M Opd} : mSet i m e = R.th (m e) fun x e => R.th (frz1 x e) fun d e => put i (.fz d) e := rfl
@[simp] theorem mSetO_r {i : Nat} {m : M O} : mSetO i m e = R.th (m e) fun o e => put i (.ow false o) e := rfl
@[simp] theorem mRet_r {m : M Opd} : mRet m e = R.th (m e) fun x e => R.th (frz1 x e) fun d e => .ok (.rt d) e := rfl
@[simp] theorem mRetO_r {m : M O} : mRetO m e = R.th (m e) fun o e => .ok (.ro o) e := rfl
@[simp] theorem mRetN_r : mRetN e = .ok (.rt .non) e := rfl
@[simp] theorem mNx_r : mNx e = .ok .nx e := rfl
@[simp] theorem mDrop_r {m : M Opd} : mDrop m e = R.th (m e) fun _ e => .ok .nx e := rfl
@[simp] theorem frz1_d : frz1 (.d d) e = .ok d e := rfl
@[simp] theorem frzs_nil : frzs [] e = .ok [] e := rfl
@[simp] theorem frzs_cons {x : Opd} {xs : List Opd} : frzs (x :: xs) e = R.th (frz1 x e) fun d e => R.th (frzs xs e) fun ds e => .ok (d :: ds) e := rfl
@[simp] theorem mA0_r : mA0 e = .ok [] e := rfl
@[simp] theorem mA_r {m : M Opd} {ms : M (List Opd)} : mA m ms e = R.th (m e) fun x e => R.th (ms e) fun xs e => .ok (x :: xs) e := rfl
@[simp] theorem mTup_r {ms : M (List Opd)} : mTup ms e = R.th (ms e) fun xs e => R.th (frzs xs e) fun ds e => lim ds.length (M.pure (.d (.tup ds))) e := rfl
@[simp] theorem mLst_r {ms : M (List Opd)} : mLst ms e = R.th (ms e) fun xs e => R.th (frzs xs e) fun ds e => lim ds.length (M.pure (.lst ds)) e := rfl
theorem lim_r {n : Nat} {m : M α} (h : n ≤ sizeLine) : lim n m e = m e := if_pos h
@[simp] theorem mFz_r {m : M O} : mFz m e = R.th (m e) fun o e => .ok (.d o.toD) e := rfl
@[simp] theorem mDic0_r : mDic0 e = .ok (.dic []) e := rfl
@[simp] theorem toD_lst {xs : List D} : O.toD (.lst xs) = .lst xs := rfl
@[simp] theorem toD_dic {xs : List (Key × D)} : O.toD (.dic xs) = .dic xs := rfl
@[simp] theorem toD_obj {c : String} {xs : List (Str × D)} : O.toD (.obj c xs) = .obj c xs := rfl
@[simp] theorem mAnd_r {m n : M Bool} : mAnd m n e = R.th (m e) fun c => if c = true then n else M.pure false := rfl
@[simp] theorem mOr_r {m n : M Bool} : mOr m n e = R.th (m e) fun c => if c = true then M.pure true else n := rfl
@[simp] theorem mNot_r {m : M Bool} : mNot m e = R.th (m e) fun c e => .ok (!c) e := rfl
@[simp] theorem mAndV_r {m n : M Opd} : mAndV m n e = R.th (mB1 blOf m e) fun c => if c = true then n else mC (.bl false) := rfl
@[simp] theorem mOrV_r {m n : M Opd} : mOrV m n e = R.th (mB1 blOf m e) fun c => if c = true then mC (.bl true) else n := rfl
@[simp] theorem mNotV_r {m : M Opd} : mNotV m e = R.th (mB1 blOf m e) fun c e => .ok (.d (.bl (!c))) e := rfl
@[simp] theorem mT_r {m : M Opd} : mT m e = mB1 truth m e := rfl
@[simp] theorem mIf_r {t : M Bool} {m n : M α} : mIf t m n e = R.th (t e) fun c => if c = true then m else n := rfl
@[simp] theorem mChain_r {g g' : D → D → Option D} {x y z : M Opd} : mChain g g' x y z e = R.th (x e) fun u e => R.th (y e) fun v e => R.th (ap2 (g2b g) u v e) fun k e => if k = true then (R.th (z e) fun w e => mD (ap2 g' v w) e) else .ok (.d (.bl false)) e := by
  refine th_congr fun u e => th_congr fun v e => th_congr fun k e => ?_
  cases k <;> rfl
@[simp] theorem mIt_r {m : M Opd} : mIt m e = R.th (m e) fun x e => R.th (frz1 x e) fun d e => rop (seqOf d) e := by
  exact th_congr fun u e => th_congr fun v e => rfl
@[simp] theorem mRng1_r {m : M Opd} : mRng1 m e = mB1 rng1 m e := rfl
@[simp] theorem mFor_r {it : M (List D)} {g : D → Env → Option Env} {b : M Fl} : mFor it g b e = R.th (it e) fun ds e => loop g b ds e := rfl
@[simp] theorem mAsg_r {g : D → Env → Option Env} {m : M Opd} : mAsg g m e = R.th (m e) fun x e => R.th (frz1 x e) fun d e => R.th (rop (g d e) e) fun e' _ => .ok .nx e' := by
  refine th_congr fun u e => th_congr fun v e => ?_
  cases g v e <;> rfl
@[simp] theorem mPar_r {is : List Nat} {ms : M (List Opd)} : mPar is ms e = R.th (ms e) fun xs e => R.th (frzs xs e) fun ds e => R.th (rop (puts is ds e) e) fun e' _ => .ok .nx e' := by
  refine th_congr fun u e => th_congr fun v e => ?_
  cases puts is v e <;> rfl
@[simp] theorem mCall_r {n : Nat} {f : Fn} {ms : M (List Opd)} : mCall n f ms e = R.th (ms e) fun xs e => R.th (callP n f xs e) fun r e => .ok (.d r.toD) e := rfl
@[simp] theorem mCallO_r {n : Nat} {f : Fn} {ms : M (List Opd)} : mCallO n f ms e = R.th (ms e) fun xs e => R.th (callP n f xs e) retO := rfl
@[simp] theorem retO_r {o : O} : retO (.ow o) e = .ok o e := rfl
theorem callP_ok {n : Nat} {f : Fn} {xs : List Opd} {ds : List D} {e1 : Env} {d : D} {as : List Slot} (hn : xs.length = n) (h1 : frzs xs e = .ok ds e1) (h2 : f (ds.map .fz) = .ok (.fz d) as) (hs : scalar d = true) : callP n f xs e = .ok (.fz d) e := by
  unfold callP
  rw [if_pos hn, h1]
  dsimp only
  rw [h2]
  exact if_pos hs
theorem callP_fz {n : Nat} {f : Fn} {xs : List Opd} {ds : List D} {e1 : Env} {d : D} {as : List Slot} (hn : xs.length = n) (h1 : frzs xs e = .ok ds e1) (h2 : f (ds.map .fz) = .ok (.fz d) as) (hs : scalar d = false) : callP n f xs e = .ok (.fz d) e1 := by
  unfold callP
  rw [if_pos hn, h1]
  dsimp only
  rw [h2]
  exact if_neg (by rw [show (Ret.fz d).toD = d from rfl, hs]; decide)
theorem callP_ow {n : Nat} {f : Fn} {xs : List Opd} {ds : List D} {e1 : Env} {o : O} {as : List Slot} (hn : xs.length = n) (h1 : frzs xs e = .ok ds e1) (h2 : f (ds.map .fz) = .ok (.ow o) as) : callP n f xs e = .ok (.ow o) e1 := by
  unfold callP
  rw [if_pos hn, h1]
  dsimp only
  rw [h2]
  exact if_neg (by cases o <;> exact Bool.false_ne_true)
@[simp] theorem retD_fz : (Ret.fz d).toD = d := rfl
@[simp] theorem retD_ow {o : O} : (Ret.ow o).toD = o.toD := rfl
@[simp] theorem mCallM_r {sg : List Bool} {f : Fn} {ms : M (List Opd)} : mCallM sg f ms e = R.th (ms e) fun xs e => R.th (callM sg f xs e) fun r e => .ok (.d r.toD) e := rfl
@[simp] theorem mCallMO_r {sg : List Bool} {f : Fn} {ms : M (List Opd)} : mCallMO sg f ms e = R.th (ms e) fun xs e => R.th (callM sg f xs e) retO := rfl
theorem callM_ok {sg : List Bool} {f : Fn} {xs : List Opd} {ds : List D} {e1 e2 : Env} {args as : List Slot} {r : Ret} (hn : (ioS sg xs).Nodup) (h1 : frzIn sg xs e = .ok ds e1) (h2 : mkA sg xs ds e1 = some args) (h3 : f args = .ok r as) (h4 : back sg xs as e1 = some e2) : callM sg f xs e = .ok r e2 := by
  unfold callM
  rw [if_pos hn, h1]
  dsimp only
  rw [h2]
  dsimp only
  rw [h3]
  dsimp only
  rw [h4]
@[simp] theorem mSl_r {g : D → Option Int → Option Int → Option α} {m : M Opd} {ml mu : M (Option Int)} : mSl g m ml mu e = R.th (m e) fun x e => R.th (ml e) fun l e => R.th (mu e) fun u e => ap1 (fun d => g d l u) x e := rfl
@[simp] theorem mM1_r {g : D → D → Option D} {m n : M Opd} : mM1 g m n e = R.th (m e) fun x e => R.th (ap1 strChk x e) fun _ e => R.th (n e) fun y e => mD (ap2 g x y) e := rfl
@[simp] theorem mPutAt_r {i : Nat} {ix m : M Opd} : mPutAt i ix m e = R.th (m e) fun x e => R.th (frz1 x e) fun d e => R.th (chkL i e) fun _ e => R.th (ix e) fun y e => R.th (ap1 intOf y e) fun k e => AN.putAt i d k e := rfl
@[simp] theorem mLC_r {vs : List Nat} {it : M (List D)} {g : D → Env → Option Env} {mt : M Bool} {me : M Opd} : mLC vs it g mt me e = R.th (it e) fun ds env => if ds.length ≤ sizeLine then (match lc vs g mt me ds [] (wipeE vs 0 env) with
  | .ok acc e2 => .ok (.lst acc) (restE vs 0 env e2)
  | _ => .bad) else .bad := rfl
theorem runF_ok {n : Nat} {m : M Fl} {args : List Slot} {e : Env} {d : D} (h : m (args ++ List.replicate n .no) = .ok (.rt d) e) : runF n m args = .ok (.fz d) (outs args e) := by unfold runF; rw [h]
theorem runF_ow {n : Nat} {m : M Fl} {args : List Slot} {e : Env} {o : O} (h : m (args ++ List.replicate n .no) = .ok (.ro o) e) : runF n m args = .ok (.ow o) (outs args e) := by unfold runF; rw [h]
theorem runF_nx {n : Nat} {m : M Fl} {args : List Slot} {e : Env} (h : m (args ++ List.replicate n .no) = .ok .nx e) : runF n m args = .ok (.fz .non) (outs args e) := by unfold runF; rw [h]
/-- a loop with something kept -/
theorem loop_nx {g : D → Env → Option Env} {body : M Fl} {I : Env → Prop} : ∀ {ds : List D} {e : Env}, I e → (∀ d ∈ ds, ∀ e, I e → ∃ e1 e2, g d e = some e1 ∧ (body e1 = .ok .nx e2 ∨ body e1 = .ok .ct e2) ∧ I e2) → ∃ e', loop g body ds e = .ok .nx e' ∧ I e'
  | [], e, h, _ => ⟨e, rfl, h⟩
  | d :: ds, e, h, s => by
    obtain ⟨e1, e2, h1, h2, h3⟩ := s d (by simp) e h
    obtain ⟨e', h4, h5⟩ := loop_nx (ds := ds) h3 (fun d hd => s d (by simp [hd]))
    refine ⟨e', ?_, h5⟩
    rcases h2 with h2 | h2 <;> simp only [loop, h1, h2, h4]
/-- a list built with something kept -/
theorem lc_all {vs : List Nat} {g : D → Env → Option Env} {me : M Opd} {I : Env → Prop} {P : D → Prop} : ∀ {ds acc : List D} {e : Env}, I e → (∀ d ∈ acc, P d) → (∀ d ∈ ds, ∀ e, I e → ∃ e1 e2 x, g d e = some e1 ∧ M.bind me frz1 e1 = .ok x e2 ∧ P x ∧ I (wipeE vs 0 e2)) →
    ∃ xs e', lc vs g (M.pure true) me ds acc e = .ok xs e' ∧ xs.length = acc.length + ds.length ∧ (∀ d ∈ xs, P d) ∧ I e'
  | [], acc, e, h, ha, _ => ⟨acc, e, rfl, by simp, ha, h⟩
  | d :: ds, acc, e, h, ha, s => by
    obtain ⟨e1, e2, x, h1, h2, h3, h4⟩ := s d (by simp) e h
    obtain ⟨xs, e', k1, k2, k3, k4⟩ := lc_all (ds := ds) (acc := acc ++ [x]) h4 (fun z hz => by
      rcases List.mem_append.mp hz with hz | hz
      · exact ha z hz
      · rw [List.mem_singleton.mp hz]; exact h3) (fun d hd => s d (by simp [hd]))
    refine ⟨xs, e', ?_, by rw [k2]; simp; omega, k3, k4⟩
    simp only [lc, h1, pure_r, h2]
    exact k1
/-- a list built of what each item gives, all else as it was -/
theorem lc_map {vs : List Nat} {g : D → Env → Option Env} {me : M Opd} {f : D → D} {e : Env} : ∀ {ds acc : List D}, (∀ d ∈ ds, ∃ e1 e2, g d e = some e1 ∧ M.bind me frz1 e1 = .ok (f d) e2 ∧ wipeE vs 0 e2 = e) →
    lc vs g (M.pure true) me ds acc e = .ok (acc ++ ds.map f) e
  | [], acc, _ => by simp [lc]
  | d :: ds, acc, s => by
    obtain ⟨e1, e2, h1, h2, h3⟩ := s d (by simp)
    simp only [lc, h1, pure_r, h2, h3]
    rw [lc_map (fun d hd => s d (by simp [hd]))]
    simp
/-- the same with a test -/
theorem lc_filter {vs : List Nat} {g : D → Env → Option Env} {mt : M Bool} {me : M Opd} {t : D → Bool} {f : D → D} {e : Env} : ∀ {ds acc : List D}, (∀ d ∈ ds, ∃ e1 e2, g d e = some e1 ∧ mt e1 = .ok (t d) e2 ∧ (t d = false → wipeE vs 0 e2 = e) ∧ (t d = true → ∃ e3, M.bind me frz1 e2 = .ok (f d) e3 ∧ wipeE vs 0 e3 = e)) →
    lc vs g mt me ds acc e = .ok (acc ++ (ds.filter t).map f) e
  | [], acc, _ => by simp [lc]
  | d :: ds, acc, s => by
    obtain ⟨e1, e2, h1, h2, h3, h4⟩ := s d (by simp)
    cases c : t d with
    | false =>
      rw [c] at h2
      simp only [lc, h1, h2, h3 c]
      rw [lc_filter (fun d hd => s d (by simp [hd]))]
      simp [c]
    | true =>
      rw [c] at h2
      obtain ⟨e3, h5, h6⟩ := h4 c
      simp only [lc, h1, h2, h5, h6]
      rw [lc_filter (fun d hd => s d (by simp [hd]))]
      simp [c]
@[simp] theorem intsOf_map : ∀ ns : List Int, intsOf (ns.map .int) = some ns
  | [] => rfl
  | n :: ns => by simp only [List.map, intsOf, intsOf_map ns]; rfl
@[simp] theorem blsOf_map : ∀ ns : List Bool, blsOf (ns.map .bl) = some ns
  | [] => rfl
  | n :: ns => by simp only [List.map, blsOf, blsOf_map ns]; rfl
@[simp] theorem strsOf_map : ∀ ns : List Str, strsOf (ns.map .str) = some ns
  | [] => rfl
  | n :: ns => by simp only [List.map, strsOf, strsOf_map ns]; rfl
def pin : Slot → Bool
  | .ow true _ => true
  | _ => false
@[simp] theorem pin_no : pin .no = false := rfl
@[simp] theorem pin_fz : pin (.fz d) = false := rfl
@[simp] theorem pin_ow {o : O} {b : Bool} : pin (.ow b o) = b := by cases b <;> rfl
theorem put_pin {i : Nat} {s t : Slot} (h : e[i]? = some t) (h2 : pin t = false) : put i s e = .ok .nx (e.set i s) := by
  unfold put
  rw [h]
  cases t with
  | no => rfl
  | fz _ => rfl
  | ow b o => cases b with
    | true => cases h2
    | false => rfl
theorem gN_pin {i : Nat} {t : Slot} (h : e[i]? = some t) (h2 : pin t = false) : gN i d e = some (e.set i (.fz d)) := by
  unfold gN
  rw [h]
  cases t with
  | no => rfl
  | fz _ => rfl
  | ow b o => cases b with
    | true => cases h2
    | false => rfl
@[simp] theorem dEq_int {i j : Int} : dEq (.int i) (.int j) = some (.bl (i == j)) := if_pos (by rfl)
@[simp] theorem dNe_int {i j : Int} : dNe (.int i) (.int j) = some (.bl (!(i == j))) := if_pos (by rfl)
@[simp] theorem dEq_str {i j : Str} : dEq (.str i) (.str j) = some (.bl (i == j)) := if_pos (by rfl)
@[simp] theorem dNe_str {i j : Str} : dNe (.str i) (.str j) = some (.bl (!(i == j))) := if_pos (by rfl)
end
end AN

set_option Elab.async false
set_option maxRecDepth 100000
set_option linter.unusedVariables false
namespace G
open PySem L2 AN
def top (i : Nat) : Stmt := PySem.Challenge.pw_addednames_k02_names_and_things.main.body.getD i (.Pass ⟨0, 0, 0, 0⟩)
abbrev s_is_integer : Stmt := top 4
abbrev s_is_name : Stmt := top 5
abbrev s_is_thing : Stmt := top 6
abbrev s_law_pool : Stmt := top 8
abbrev s_law_draw : Stmt := top 9
abbrev s_law_pick : Stmt := top 10
abbrev s_law_text : Stmt := top 11
abbrev s_law_number : Stmt := top 12
abbrev s_law : Stmt := top 13
def m_is_integer : M Fl := (mRet (mAndV (mD (mB1 (isI fInt) (mV 0))) (mNotV (mD (mB1 (isI fBool) (mV 0))))))
def F_is_integer : Fn := runF 0 m_is_integer
def m_is_name : M Fl := (mRet (mAndV (mD (mB1 (isI fStr) (mV 0))) (mAndV (mChain dLe dLe (mC (.int 1)) (mD (mB1 dLen (mV 0))) (mC (.int 8))) (mD (mB1 dAll (mFz (mLC [1] (mIt (mV 0)) (gN 1) (M.pure true) (mD (mB2 (dInX false) (mV 1) (mC (.str "abcdefghijklmnopqrstuvwxyz")))))))))))
def F_is_name : Fn := runF 1 m_is_name
def m_is_thing : M Fl := (mRet (mAndV (mCall 1 F_is_integer (mA (mV 0) mA0)) (mChain dLe dLe (mC (.int 1)) (mV 0) (mC (.int 1000000000)))))
def F_is_thing : Fn := runF 0 m_is_thing
def m_law_pool : M Fl := (mSeq (mSet 2 (mD (mB2 dAdd (mD (mB2 dMulI (mC (.int 7)) (mD (mB1 dSum (mD (mSl dSl (mV 0) (M.pure none) (mB1 intOf (mC (.int 63))))))))) (mV 1))))
    (mSeq (mIfS (mB2 (g2b dLt) (mV 1) (mD (mB1 dLen (mV 0)))) (mSet 2 (mD (mB2 dIx (mV 0) (mV 1)))) mNx)
    (mSeq (mSet 3 (mD (mB1 dAbs (mV 2))))
    (mSeq (mSet 4 (mD (mB2 dAdd (mD (mB2 dAdd (mD (mB2 dAdd (mD (mB2 dMod (mD (mB1 dInt (mV 3))) (mC (.int 2147483629)))) (mD (mB2 dMulI (mD (mB2 dMulI (mC (.int 7919)) (mV 1))) (mV 1))))) (mD (mB2 dMulI (mC (.int 31)) (mV 1))))) (mC (.int 17)))))
    (mSeq (mSet 4 (mD (mB2 dMod (mD (mB1 dInt (mD (mB2 dMulI (mV 4) (mC (.int 48271)))))) (mC (.int 2147483647)))))
    (mRetO (mLst (mA (mD (mB2 dMulI (mV 3) (mD (mB1 dInt (mD (mB2 dGe (mV 3) (mD (mB2 dPow (mC (.int 10)) (mC (.int 18)))))))))) (mA (mD (mB2 dMod (mD (mB1 dInt (mD (mB2 dMulI (mV 4) (mV 4))))) (mC (.int 2147483629)))) mA0)))))))))
def F_law_pool : Fn := runF 3 m_law_pool
def m_law_draw : M Fl := (mSeq (mIfS (mB2 (g2b dGt) (mD (mB2 dIx (mV 0) (mC (.int 0)))) (mC (.int 0))) (mSeq (mSet 2 (mD (mB2 dMod (mD (mB1 dInt (mD (mB2 dIx (mV 0) (mC (.int 0)))))) (mV 1))))
    (mSeq (mPutAt 0 (mC (.int 0)) (mD (mB2 dFdiv (mD (mB2 dIx (mV 0) (mC (.int 0)))) (mV 1))))
    (mRetV 2))) mNx)
    (mSeq (mPutAt 0 (mC (.int 1)) (mD (mB2 dMod (mD (mB1 dInt (mD (mB2 dAdd (mD (mB2 dMulI (mD (mB2 dIx (mV 0) (mC (.int 1)))) (mC (.int 48271)))) (mC (.int 11)))))) (mC (.int 2147483647)))))
    (mRet (mD (mB2 dMod (mD (mB1 dInt (mD (mB2 dFdiv (mD (mB2 dMod (mD (mB2 dMulI (mD (mB2 dIx (mV 0) (mC (.int 1)))) (mD (mB2 dIx (mV 0) (mC (.int 1)))))) (mC (.int 2147483629)))) (mC (.int 16)))))) (mV 1))))))
def F_law_draw : Fn := runF 1 m_law_draw
def m_law_pick : M Fl := (mRet (mD (mB2 dIx (mV 1) (mCallM [true, false] F_law_draw (mA (mV 0) (mA (mD (mB1 dLen (mV 1))) mA0))))))
def F_law_pick : Fn := runF 0 m_law_pick
def m_law_text : M Fl := (mSeq (mSet 1 (mM1 dJoin (mC (.str "")) (mFz (mLC [4] (mRng1 (mCallM [true, false] F_law_draw (mA (mV 0) (mA (mC (.int 11)) mA0)))) (gN 4) (M.pure true) (mCallM [true, false] F_law_pick (mA (mV 0) (mA (mC (.str "abcdefghijklmnopqrstuvwxyz")) mA0)))))))
    (mSeq (mPar [2, 3] (mA (mCallM [true, false] F_law_draw (mA (mV 0) (mA (mC (.int 10)) mA0))) (mA (mCallM [true, false] F_law_pick (mA (mV 0) (mA (mC (.str "ABZ019_ -.=<>~`{\x40[/")) mA0))) mA0)))
    (mSeq (mIfS (mAnd (mB2 (g2b dEq) (mCallM [true, false] F_law_draw (mA (mV 0) (mA (mC (.int 2)) mA0))) (mC (.int 0))) (mB2 (g2b dLt) (mV 2) (mD (mB1 dLen (mV 1))))) (mRetO (mLst (mA (mD (mB2 dAdd (mD (mB2 dAdd (mD (mSl dSl (mV 1) (M.pure none) (mB1 intOf (mV 2)))) (mV 3))) (mD (mSl dSl (mV 1) (mB1 intOf (mD (mB2 dAdd (mV 2) (mC (.int 1))))) (M.pure none))))) (mA (mC (.bl false)) mA0)))) mNx)
    (mRetO (mLst (mA (mV 1) (mA (mChain dLe dLe (mC (.int 1)) (mD (mB1 dLen (mV 1))) (mC (.int 8))) mA0)))))))
def F_law_text : Fn := runF 4 m_law_text
def m_law_number : M Fl := (mSeq (mSet 2 (mFz (mLst (mA (mC (.int 0)) (mA (mC (.int 1)) (mA (mC (.int 2)) (mA (mD (mB2 dSub (mD (mB2 dPow (mC (.int 10)) (mC (.int 9)))) (mC (.int 1)))) (mA (mD (mB2 dPow (mC (.int 10)) (mC (.int 9)))) (mA (mD (mB2 dAdd (mD (mB2 dPow (mC (.int 10)) (mC (.int 9)))) (mC (.int 1)))) (mA (mD (mB1 dNeg (mC (.int 1)))) (mA (mD (mB1 dNeg (mD (mB2 dPow (mC (.int 10)) (mC (.int 9)))))) (mA (mV 1) (mA (mCallM [true, false] F_law_draw (mA (mV 0) (mA (mD (mB2 dMulI (mC (.int 2)) (mD (mB2 dPow (mC (.int 10)) (mC (.int 9)))))) mA0))) mA0)))))))))))))
    (mSeq (mSet 3 (mCallM [true, false] F_law_pick (mA (mV 0) (mA (mV 2) mA0))))
    (mRetO (mLst (mA (mV 3) (mA (mChain dLe dLe (mC (.int 1)) (mV 3) (mD (mB2 dPow (mC (.int 10)) (mC (.int 9))))) mA0))))))
def F_law_number : Fn := runF 2 m_law_number
def m_law : M Fl := (mSeq (mFor (mIt (mFz (mLst (mA (mC .non) (mA (mC (.bl true)) (mA (mC (.bl false)) (mA (mC (.str "1")) (mA (mFz (mLst (mA (mC (.int 1)) mA0))) (mA (mTup (mA (mC (.int 1)) mA0)) (mA (mFz mDic0) (mA (mFz (mLst mA0)) (mA (mFz (mLst (mA (mC (.str "a")) mA0))) (mA (mTup (mA (mC (.str "a")) mA0)) (mA (mC (.str "")) (mA (mC (.str "a\n")) (mA (mC (.str "\na")) (mA (mC (.str "a ")) mA0))))))))))))))))) (gN 1) (mIfS (mOr (mB2 (g2b (dIsX true)) (mCall 1 F_is_name (mA (mV 1) mA0)) (mC (.bl false))) (mB2 (g2b (dIsX true)) (mCall 1 F_is_thing (mA (mV 1) mA0)) (mC (.bl false)))) (mRet (mC (.bl false))) mNx))
    (mSeq (mFor (mRng1 (mD (mB2 dMax2 (mC (.int 1)) (mD (mB2 dMin2 (mD (mB1 dLen (mV 0))) (mC (.int 12))))))) (gN 2) (mSeq (mSetO 3 (mCallO 2 F_law_pool (mA (mV 0) (mA (mV 2) mA0))))
    (mSeq (mAsg (gT 2 (gs (gN 4) (gs (gN 5) gs0))) (mCallM [true] F_law_text (mA (mV 3) mA0)))
    (mSeq (mIfS (mOr (mB2 (g2b dNe) (mD (mB1 dReprB (mCall 1 F_is_name (mA (mV 4) mA0)))) (mD (mB1 dReprB (mV 5)))) (mB2 (g2b (dIsX true)) (mCall 1 F_is_thing (mA (mV 4) mA0)) (mC (.bl false)))) (mRet (mC (.bl false))) mNx)
    (mSeq (mAsg (gT 2 (gs (gN 6) (gs (gN 5) gs0))) (mCallM [true, false] F_law_number (mA (mV 3) (mA (mD (mB1 dInt (mD (mB2 dIx (mD (mB2 dAdd (mV 0) (mFz (mLst (mA (mV 2) mA0))))) (mD (mB2 dMin2 (mV 2) (mD (mB1 dLen (mV 0))))))))) mA0))))
    (mIfS (mOr (mB2 (g2b dNe) (mD (mB1 dReprB (mCall 1 F_is_thing (mA (mV 6) mA0)))) (mD (mB1 dReprB (mV 5)))) (mB2 (g2b (dIsX true)) (mCall 1 F_is_name (mA (mV 6) mA0)) (mC (.bl false)))) (mRet (mC (.bl false))) mNx))))))
    (mRet (mC (.bl true)))))
def F_law : Fn := runF 6 m_law
end G

set_option Elab.async false
set_option maxRecDepth 100000
set_option linter.unusedVariables false
namespace G
open PySem L2 AN
structure Txt (mg : Str → Option Value) : Prop where
  b_abs : mg "abs" = none
  b_all : mg "all" = none
  b_bool : mg "bool" = none
  b_int : mg "int" = none
  b_isinstance : mg "isinstance" = none
  b_len : mg "len" = none
  b_max : mg "max" = none
  b_min : mg "min" = none
  b_range : mg "range" = none
  b_repr : mg "repr" = none
  b_str : mg "str" = none
  b_sum : mg "sum" = none
  c_LETTERS : ∃ t, mg "LETTERS" = some (.str "abcdefghijklmnopqrstuvwxyz" t)
  c_MOST_LETTERS : ∃ t, mg "MOST_LETTERS" = some (.int 8 t)
  c_MOST_THING : ∃ t, mg "MOST_THING" = some (.int 1000000000 t)
def bx (K : PySem.W.Frag) : Bx := ⟨K, fun _ => none, fun _ => none⟩
section
variable {P : Program} {w : World} {K : PySem.W.Frag} {mg : Str → Option Value} {base : Heap}
theorem sc_is_integer : FnScope ["value"] ["value"] (defScope s_is_integer) := ⟨rfl, rfl, rfl, by decide +kernel, rfl, by decide +kernel, by decide +kernel⟩
theorem ok_is_integer {fa : Addr} {fd : FuncData} (Fd : Fun K "is_integer" "is_integer" s_is_integer fa fd) (T : Txt mg)  : FnOk P w K mg base (L2.CX P w) 1 fa fd ["value"] (spOf (bx K) 1 F_is_integer) :=
  fn_ok (m := m_is_integer) (n := 0) Fd sc_is_integer rfl (by decide) fun cdv A outer s H E hr tk po =>
    (dss1 (ds_ret (de_and (de_isi kInt rfl (dv 0) T.b_isinstance T.b_int (by decide +kernel)) (de_one (de_not (de_isi kBool rfl (dv 0) T.b_isinstance T.b_bool (by decide +kernel)))))))
theorem sc_is_name : FnScope ["value", "sign"] ["value"] (defScope s_is_name) := ⟨rfl, rfl, rfl, by decide +kernel, rfl, by decide +kernel, by decide +kernel⟩
theorem ok_is_name {fa : Addr} {fd : FuncData} (Fd : Fun K "is_name" "is_name" s_is_name fa fd) (T : Txt mg)  : FnOk P w K mg base (L2.CX P w) 1 fa fd ["value"] (spOf (bx K) 1 F_is_name) :=
  fn_ok (m := m_is_name) (n := 1) Fd sc_is_name rfl (by decide) fun cdv A outer s H E hr tk po =>
    (dss1 (ds_ret (de_and (de_isi kStr rfl (dv 0) T.b_isinstance T.b_str (by decide +kernel)) (de_and (de_chain op_le p_le op_le p_le de_int (de_len rfl (dv 0) T.b_len) (de_gI T.c_MOST_LETTERS)) (de_one (de_all rfl rfl (de_o (do_lc rfl sc_is_name.nd (di_seq rfl (dv 0)) (blk_ok (N := ["value", "sign"]) (sc := defScope s_is_name) (own := [("sign", 1)]) rfl rfl (by decide +kernel)) (fun _ _ _ _ _ => (dg_n 1 sc_is_name.nd)) (fun _ _ _ _ _ => dts0) (fun _ _ _ _ _ => (de_cmp (op_inX (hu65 hr)) (p_in rfl) (dv 1) (de_gS T.c_LETTERS ⟨by decide +kernel, by decide +kernel⟩) rfl)) (by decide))) T.b_all))))))
theorem sc_is_thing : FnScope ["value"] ["value"] (defScope s_is_thing) := ⟨rfl, rfl, rfl, by decide +kernel, rfl, by decide +kernel, by decide +kernel⟩
theorem ok_is_thing {fa : Addr} {fd : FuncData} (Fd : Fun K "is_thing" "is_thing" s_is_thing fa fd) (T : Txt mg) (C_is_integer : Cal P w K mg base (bx K) "is_integer" 1 ["value"] F_is_integer) : FnOk P w K mg base (L2.CX P w) 2 fa fd ["value"] (spOf (bx K) 1 F_is_thing) :=
  fn_ok (m := m_is_thing) (n := 0) Fd sc_is_thing rfl (by decide) fun cdv A outer s H E hr tk po =>
    (dss1 (ds_ret (de_and (dc C_is_integer (hr.mono (by decide)) tk (da (dv 0) da0)) (de_one (de_chain op_le p_le op_le p_le de_int (dv 0) (de_gI T.c_MOST_THING))))))
theorem sc_law_pool : FnScope ["_law_script", "_law_k", "_law_cell", "_law_size", "_law_mixed"] ["_law_script", "_law_k"] (defScope s_law_pool) := ⟨rfl, rfl, rfl, by decide +kernel, rfl, by decide +kernel, by decide +kernel⟩
theorem ok_law_pool {fa : Addr} {fd : FuncData} (Fd : Fun K "_law_pool" "_law_pool" s_law_pool fa fd) (T : Txt mg)  : FnOk P w K mg base (L2.CX P w) 1 fa fd ["_law_script", "_law_k"] (spOf (bx K) 2 F_law_pool) :=
  fn_ok (m := m_law_pool) (n := 3) Fd sc_law_pool rfl (by decide) fun cdv A outer s H E hr tk po =>
    (dss (ds_set 2 sc_law_pool.nd (de_add rfl (de_mulI de_int (de_sum rfl rfl (de_sl rfl (dv 0) dp0 (dp1 de_int)) T.b_sum)) (dv 1)))
      (dss (ds_if (dt_cmp op_lt p_lt (dv 1) (de_len rfl (dv 0) T.b_len) (nomark _)) (dss1 (ds_set 2 sc_law_pool.nd (de_at rfl (dv 0) (dv 1)))) dss0)
      (dss (ds_set 3 sc_law_pool.nd (de_abs (dv 2) T.b_abs))
      (dss (ds_set 4 sc_law_pool.nd (de_add rfl (de_add rfl (de_add rfl (de_mod (de_int1 (dv 3) T.b_int) de_int) (de_mulI (de_mulI de_int (dv 1)) (dv 1))) (de_mulI de_int (dv 1))) de_int))
      (dss (ds_set 4 sc_law_pool.nd (de_mod (de_int1 (de_mulI (dv 4) de_int) T.b_int) de_int))
      (dss1 (ds_retO (do_lst (da (de_mulI (dv 3) (de_int1 (de_cmp op_ge p_ge (dv 3) (de_pow de_int de_int) (nomark _)) T.b_int)) (da (de_mod (de_int1 (de_mulI (dv 4) (dv 4)) T.b_int) de_int) da0))))))))))
theorem sc_law_draw : FnScope ["_law_pool_here", "_law_many", "_law_found"] ["_law_pool_here", "_law_many"] (defScope s_law_draw) := ⟨rfl, rfl, rfl, by decide +kernel, rfl, by decide +kernel, by decide +kernel⟩
theorem ok_law_draw {fa : Addr} {fd : FuncData} (Fd : Fun K "_law_draw" "_law_draw" s_law_draw fa fd) (T : Txt mg)  : FnOk P w K mg base (L2.CX P w) 1 fa fd ["_law_pool_here", "_law_many"] (spOf (bx K) 2 F_law_draw) :=
  fn_ok (m := m_law_draw) (n := 1) Fd sc_law_draw rfl (by decide) fun cdv A outer s H E hr tk po =>
    (dss (ds_if (dt_cmp op_gt p_gt (de_at rfl (dv 0) de_int) de_int (nomark _)) (dss (ds_set 2 sc_law_draw.nd (de_mod (de_int1 (de_at rfl (dv 0) de_int) T.b_int) (dv 1)))
      (dss (ds_putAt 0 de_int (de_fdiv (de_at rfl (dv 0) de_int) (dv 1)))
      (dss1 (ds_retV 2)))) dss0)
      (dss (ds_putAt 0 de_int (de_mod (de_int1 (de_add rfl (de_mulI (de_at rfl (dv 0) de_int) de_int) de_int) T.b_int) de_int))
      (dss1 (ds_ret (de_mod (de_int1 (de_fdiv (de_mod (de_mulI (de_at rfl (dv 0) de_int) (de_at rfl (dv 0) de_int)) de_int) de_int) T.b_int) (dv 1))))))
theorem sc_law_pick : FnScope ["_law_pool_here", "_law_row"] ["_law_pool_here", "_law_row"] (defScope s_law_pick) := ⟨rfl, rfl, rfl, by decide +kernel, rfl, by decide +kernel, by decide +kernel⟩
theorem ok_law_pick {fa : Addr} {fd : FuncData} (Fd : Fun K "_law_pick" "_law_pick" s_law_pick fa fd) (T : Txt mg) (C_law_draw : Cal P w K mg base (bx K) "_law_draw" 1 ["_law_pool_here", "_law_many"] F_law_draw) : FnOk P w K mg base (L2.CX P w) 2 fa fd ["_law_pool_here", "_law_row"] (spOf (bx K) 2 F_law_pick) :=
  fn_ok (m := m_law_pick) (n := 0) Fd sc_law_pick rfl (by decide) fun cdv A outer s H E hr tk po =>
    (dss1 (ds_ret (de_at rfl (dv 1) (dcM [true, false] C_law_draw (hr.mono (by decide)) tk (da (dv 0) (da (de_len rfl (dv 1) T.b_len) da0))))))
theorem sc_law_text : FnScope ["_law_pool_here", "_law_text_here", "_law_at", "_law_odd", "_law_turn"] ["_law_pool_here"] (defScope s_law_text) := ⟨rfl, rfl, rfl, by decide +kernel, rfl, by decide +kernel, by decide +kernel⟩
theorem ok_law_text {fa : Addr} {fd : FuncData} (Fd : Fun K "_law_text" "_law_text" s_law_text fa fd) (T : Txt mg) (C_law_draw : Cal P w K mg base (bx K) "_law_draw" 1 ["_law_pool_here", "_law_many"] F_law_draw) (C_law_pick : Cal P w K mg base (bx K) "_law_pick" 2 ["_law_pool_here", "_law_row"] F_law_pick) : FnOk P w K mg base (L2.CX P w) 3 fa fd ["_law_pool_here"] (spOf (bx K) 1 F_law_text) :=
  fn_ok (m := m_law_text) (n := 4) Fd sc_law_text rfl (by decide) fun cdv A outer s H E hr tk po =>
    (dss (ds_set 1 sc_law_text.nd (de_join rfl (de_str ⟨by decide +kernel, by decide +kernel⟩) (de_o (do_lc rfl sc_law_text.nd (di_range1 (dcM [true, false] C_law_draw (hr.mono (by decide)) tk (da (dv 0) (da de_int da0))) T.b_range) (blk_ok (N := ["_law_pool_here", "_law_text_here", "_law_at", "_law_odd", "_law_turn"]) (sc := defScope s_law_text) (own := [("_law_turn", 4)]) rfl rfl (by decide +kernel)) (fun _ _ _ _ _ => (dg_n 4 sc_law_text.nd)) (fun _ _ _ _ _ => dts0) (fun _ _ _ _ _ => (dcM [true, false] C_law_pick (hr.mono (by decide)) takes0 (da (dv 0) (da (de_str ⟨by decide +kernel, by decide +kernel⟩) da0)))) (by decide)))))
      (dss (ds_par2 2 3 rfl sc_law_text.nd (da (dcM [true, false] C_law_draw (hr.mono (by decide)) tk (da (dv 0) (da de_int da0))) (da (dcM [true, false] C_law_pick (hr.mono (by decide)) tk (da (dv 0) (da (de_str ⟨by decide +kernel, by decide +kernel⟩) da0))) da0)))
      (dss (ds_if (dt_w (dw_and (dt_cmp (op_eqD (hu64 hr)) (p_eq rfl) (dcM [true, false] C_law_draw (hr.mono (by decide)) tk (da (dv 0) (da de_int da0))) de_int (nomark _)) (dw_and1 (dt_cmp op_lt p_lt (dv 2) (de_len rfl (dv 1) T.b_len) (nomark _))))) (dss1 (ds_retO (do_lst (da (de_add rfl (de_add rfl (de_sl rfl (dv 1) dp0 (dp1 (dv 2))) (dv 3)) (de_sl rfl (dv 1) (dp1 (de_add rfl (dv 2) de_int)) dp0)) (da de_bl da0))))) dss0)
      (dss1 (ds_retO (do_lst (da (dv 1) (da (de_chain op_le p_le op_le p_le de_int (de_len rfl (dv 1) T.b_len) de_int) da0))))))))
theorem sc_law_number : FnScope ["_law_pool_here", "_law_cell", "_law_some", "_law_number_here"] ["_law_pool_here", "_law_cell"] (defScope s_law_number) := ⟨rfl, rfl, rfl, by decide +kernel, rfl, by decide +kernel, by decide +kernel⟩
theorem ok_law_number {fa : Addr} {fd : FuncData} (Fd : Fun K "_law_number" "_law_number" s_law_number fa fd) (T : Txt mg) (C_law_draw : Cal P w K mg base (bx K) "_law_draw" 1 ["_law_pool_here", "_law_many"] F_law_draw) (C_law_pick : Cal P w K mg base (bx K) "_law_pick" 2 ["_law_pool_here", "_law_row"] F_law_pick) : FnOk P w K mg base (L2.CX P w) 3 fa fd ["_law_pool_here", "_law_cell"] (spOf (bx K) 2 F_law_number) :=
  fn_ok (m := m_law_number) (n := 2) Fd sc_law_number rfl (by decide) fun cdv A outer s H E hr tk po =>
    (dss (ds_set 2 sc_law_number.nd (de_o (do_lst (da de_int (da de_int (da de_int (da (de_sub (de_pow de_int de_int) de_int) (da (de_pow de_int de_int) (da (de_add rfl (de_pow de_int de_int) de_int) (da (de_neg de_int) (da (de_neg (de_pow de_int de_int)) (da (dv 1) (da (dcM [true, false] C_law_draw (hr.mono (by decide)) tk (da (dv 0) (da (de_mulI de_int (de_pow de_int de_int)) da0))) da0)))))))))))))
      (dss (ds_set 3 sc_law_number.nd (dcM [true, false] C_law_pick (hr.mono (by decide)) tk (da (dv 0) (da (dv 2) da0))))
      (dss1 (ds_retO (do_lst (da (dv 3) (da (de_chain op_le p_le op_le p_le de_int (dv 3) (de_pow de_int de_int)) da0)))))))
theorem sc_law : FnScope ["_law_script", "_law_value", "_law_k", "_law_pool_here", "_law_text_here", "_law_due", "_law_number_here"] ["_law_script"] (defScope s_law) := ⟨rfl, rfl, rfl, by decide +kernel, rfl, by decide +kernel, by decide +kernel⟩
theorem ok_law {fa : Addr} {fd : FuncData} (Fd : Fun K "law" "law" s_law fa fd) (T : Txt mg) (C_is_name : Cal P w K mg base (bx K) "is_name" 1 ["value"] F_is_name) (C_is_thing : Cal P w K mg base (bx K) "is_thing" 2 ["value"] F_is_thing) (C_law_pool : Cal P w K mg base (bx K) "_law_pool" 1 ["_law_script", "_law_k"] F_law_pool) (C_law_text : Cal P w K mg base (bx K) "_law_text" 3 ["_law_pool_here"] F_law_text) (C_law_number : Cal P w K mg base (bx K) "_law_number" 3 ["_law_pool_here", "_law_cell"] F_law_number) : FnOk P w K mg base (L2.CX P w) 4 fa fd ["_law_script"] (spOf (bx K) 1 F_law) :=
  fn_ok (m := m_law) (n := 6) Fd sc_law rfl (by decide) fun cdv A outer s H E hr tk po =>
    (dss (ds_for po rfl (di_seq rfl (de_o (do_lst (da de_non (da de_bl (da de_bl (da (de_str ⟨by decide +kernel, by decide +kernel⟩) (da (de_o (do_lst (da de_int da0))) (da (de_tup (da de_int da0)) (da (de_o do_dic0) (da (de_o (do_lst da0)) (da (de_o (do_lst (da (de_str ⟨by decide +kernel, by decide +kernel⟩) da0))) (da (de_tup (da (de_str ⟨by decide +kernel, by decide +kernel⟩) da0)) (da (de_str ⟨by decide +kernel, by decide +kernel⟩) (da (de_str ⟨by decide +kernel, by decide +kernel⟩) (da (de_str ⟨by decide +kernel, by decide +kernel⟩) (da (de_str ⟨by decide +kernel, by decide +kernel⟩) da0))))))))))))))))) (dg_n 1 sc_law.nd) (dss1 (ds_if (dt_w (dw_or (dt_cmp op_isNotX (p_is true) (dc C_is_name (hr.mono (by decide)) tk (da (dv 1) da0)) de_bl (nomark _)) (dw_or1 (dt_cmp op_isNotX (p_is true) (dc C_is_thing (hr.mono (by decide)) tk (da (dv 1) da0)) de_bl (nomark _))))) (dss1 (ds_ret de_bl)) dss0)))
      (dss (ds_for po rfl (di_range1 (de_max2 rfl de_int (de_min2 rfl (de_len rfl (dv 0) T.b_len) de_int T.b_min) T.b_max) T.b_range) (dg_n 2 sc_law.nd) (dss (ds_setO 3 sc_law.nd (oc C_law_pool (hr.mono (by decide)) tk (da (dv 0) (da (dv 2) da0))))
      (dss (ds_asg (dcM [true] C_law_text (hr.mono (by decide)) tk (da (dv 3) da0)) (dg_t rfl rfl (dgs (dg_n 4 sc_law.nd) (dgs (dg_n 5 sc_law.nd) dgs0))))
      (dss (ds_if (dt_w (dw_or (dt_cmp (op_neD (hu64 hr)) (p_ne rfl) (de_reprB (dc C_is_name (hr.mono (by decide)) tk (da (dv 4) da0)) T.b_repr) (de_reprB (dv 5) T.b_repr) (nomark _)) (dw_or1 (dt_cmp op_isNotX (p_is true) (dc C_is_thing (hr.mono (by decide)) tk (da (dv 4) da0)) de_bl (nomark _))))) (dss1 (ds_ret de_bl)) dss0)
      (dss (ds_asg (dcM [true, false] C_law_number (hr.mono (by decide)) tk (da (dv 3) (da (de_int1 (de_at rfl (de_add rfl (dv 0) (de_o (do_lst (da (dv 2) da0)))) (de_min2 rfl (dv 2) (de_len rfl (dv 0) T.b_len) T.b_min)) T.b_int) da0))) (dg_t rfl rfl (dgs (dg_n 6 sc_law.nd) (dgs (dg_n 5 sc_law.nd) dgs0))))
      (dss1 (ds_if (dt_w (dw_or (dt_cmp (op_neD (hu64 hr)) (p_ne rfl) (de_reprB (dc C_is_thing (hr.mono (by decide)) tk (da (dv 6) da0)) T.b_repr) (de_reprB (dv 5) T.b_repr) (nomark _)) (dw_or1 (dt_cmp op_isNotX (p_is true) (dc C_is_name (hr.mono (by decide)) tk (da (dv 6) da0)) de_bl (nomark _))))) (dss1 (ds_ret de_bl)) dss0)))))))
      (dss1 (ds_ret de_bl))))
end
end G

set_option Elab.async false
set_option maxRecDepth 100000
set_option linter.unusedVariables false
set_option linter.unusedSimpArgs false
namespace G
open PySem L2 AN
def Pl (a b : Int) : Prop := 0 ≤ a ∧ 0 ≤ b ∧ b < 2147483647
abbrev pl (a b : Int) : O := .lst [.int a, .int b]
theorem draw_ok {a b n : Int} (h : Pl a b) (h0 : 0 < n) (h1 : n < 18446744073709551616) : ∃ v a' b', F_law_draw [.ow true (pl a b), .fz (.int n)] = .ok (.fz (.int v)) [.ow true (pl a' b'), .fz (.int n)] ∧ 0 ≤ v ∧ v < n ∧ Pl a' b' := by
  obtain ⟨ha, hb, hb'⟩ := h
  by_cases c : 0 < a
  · refine ⟨a % n, a / n, b, ?_, Int.emod_nonneg _ (by omega), Int.emod_lt_of_pos _ h0, Int.ediv_nonneg ha (by omega), hb, hb'⟩
    simp [F_law_draw, runF, m_law_draw, mV, view, dIx, L2.atI, ixN, dI, blOf, c, h0, h1, put, chkL, AN.putAt, intOf, mRetV, outs, dInt]
  · refine ⟨(((b * 48271 + 11) % 2147483647) * ((b * 48271 + 11) % 2147483647) % 2147483629 / 16) % n, a, (b * 48271 + 11) % 2147483647, ?_, Int.emod_nonneg _ (by omega), Int.emod_lt_of_pos _ h0, ha, Int.emod_nonneg _ (by omega), Int.emod_lt_of_pos _ (by omega)⟩
    · have q1 : 0 ≤ (b * 48271 + 11) % 2147483647 := Int.emod_nonneg _ (by omega)
      have q2 : (b * 48271 + 11) % 2147483647 < 2147483647 := Int.emod_lt_of_pos _ (by omega)
      have q3 : -18446744073709551616 < (b * 48271 + 11) % 2147483647 := by omega
      have q4 : (b * 48271 + 11) % 2147483647 < 18446744073709551616 := by omega
      simp [F_law_draw, runF, m_law_draw, mV, view, dIx, L2.atI, ixN, dI, blOf, c, h0, h1, put, chkL, AN.putAt, intOf, mRetV, outs, dInt, dAdd, q3, q4]
theorem draw_at {a b n : Int} {e : AN.Env} {i : Nat} {k : Bool} (h : Pl a b) (h0 : 0 < n) (h1 : n < 18446744073709551616) (he : e[i]? = some (.ow k (pl a b))) : ∃ v a' b', callM [true, false] F_law_draw [.sl i, .d (.int n)] e = .ok (.fz (.int v)) (e.set i (.ow k (pl a' b'))) ∧ 0 ≤ v ∧ v < n ∧ Pl a' b' := by
  obtain ⟨v, a', b', h2, h3, h4, h5⟩ := draw_ok h h0 h1
  refine ⟨v, a', b', callM_ok (by simp [ioS]) (ds := [.non, .int n]) (e1 := e) rfl (args := [.ow true (pl a b), .fz (.int n)]) ?_ h2 ?_, h3, h4, h5⟩
  · simp [mkA, he]
  · simp [back, he]
theorem intsOf_take {ns : List Int} {n : Nat} : (ns.map D.int).take n = (ns.take n).map D.int := by simp
theorem pool_ok {ns : List Int} {k : Int} (h0 : 0 ≤ k) (h1 : k < 65536) (hl : ns.length ≤ 63) : ∃ a b, F_law_pool [.fz (scriptD ns), .fz (.int k)] = .ok (.ow (pl a b)) [.fz (scriptD ns), .fz (.int k)] ∧ Pl a b := by
  have hk1 : -18446744073709551616 < k := by omega
  have hk2 : k < 18446744073709551616 := by omega
  have c1 : cutD (ns.map D.int) none (some 63) = ns.map D.int := by
    have : HT.sIx (ns.map D.int).length (ns.map D.int).length (some 63) = (ns.map D.int).length := by
      simp only [HT.sIx, List.length_map]
      rw [if_neg (by omega)]
      exact Nat.min_eq_right (show ns.length ≤ (63 : Int).toNat by simpa using hl)
    unfold cutD
    rw [this]
    simp [HT.sIx]
    exact List.take_of_length_le (by simp)
  have key : ∀ z : Int, ∃ b, 0 ≤ b ∧ b < 2147483647 ∧ ((z % 2147483629 + 7919 * k * k + 31 * k + 17) * 48271 % 2147483647) * ((z % 2147483629 + 7919 * k * k + 31 * k + 17) * 48271 % 2147483647) % 2147483629 = b := fun z => ⟨_, Int.emod_nonneg _ (by omega), Int.lt_trans (Int.emod_lt_of_pos _ (by omega)) (by omega), rfl⟩
  have m1 : -18446744073709551616 < 7919 * k := by omega
  have m2 : 7919 * k < 18446744073709551616 := by omega
  by_cases hk : k < ns.length
  · have hix : ∃ z, L2.atI (ns.map D.int) k = some (.int z) := by
      unfold L2.atI ixN
      rw [if_pos h0, if_pos (by simpa using hk)]
      have : k.toNat < ns.length := by omega
      exact ⟨ns[k.toNat], by simp [this]⟩
    obtain ⟨z, hz⟩ := hix
    generalize hy : (if z < 0 then -z else z) = y
    have y0 : 0 ≤ y := by rw [← hy]; split <;> omega
    obtain ⟨b, b0, b1, hb⟩ := key y
    have w1 : 0 ≤ (y % 2147483629 + 7919 * k * k + 31 * k + 17) * 48271 % 2147483647 := Int.emod_nonneg _ (by omega)
    have w2 : (y % 2147483629 + 7919 * k * k + 31 * k + 17) * 48271 % 2147483647 < 2147483647 := Int.emod_lt_of_pos _ (by omega)
    have w3 : -18446744073709551616 < (y % 2147483629 + 7919 * k * k + 31 * k + 17) * 48271 % 2147483647 := by omega
    have w4 : (y % 2147483629 + 7919 * k * k + 31 * k + 17) * 48271 % 2147483647 < 18446744073709551616 := by omega
    by_cases big : 1000000000000000000 ≤ y
    · refine ⟨y, b, ?_, y0, b0, b1⟩
      simp [F_law_pool, runF, m_law_pool, scriptD, mV, view, dSl, intOf, c1, dSum, dI, dAdd, put, hk, h0, dLen, blOf, dIx, hz, dAbs, hy, dInt, hk1, hk2, m1, m2, w3, w4, big, lim, sizeLine, hb, outs]
    · refine ⟨0, b, ?_, Int.le_refl 0, b0, b1⟩
      simp [F_law_pool, runF, m_law_pool, scriptD, mV, view, dSl, intOf, c1, dSum, dI, dAdd, put, hk, h0, dLen, blOf, dIx, hz, dAbs, hy, dInt, hk1, hk2, m1, m2, w3, w4, big, lim, sizeLine, hb, outs]
  · generalize hz : 7 * ns.sum + k = z
    generalize hy : (if z < 0 then -z else z) = y
    have y0 : 0 ≤ y := by rw [← hy]; split <;> omega
    obtain ⟨b, b0, b1, hb⟩ := key y
    have w1 : 0 ≤ (y % 2147483629 + 7919 * k * k + 31 * k + 17) * 48271 % 2147483647 := Int.emod_nonneg _ (by omega)
    have w2 : (y % 2147483629 + 7919 * k * k + 31 * k + 17) * 48271 % 2147483647 < 2147483647 := Int.emod_lt_of_pos _ (by omega)
    have w3 : -18446744073709551616 < (y % 2147483629 + 7919 * k * k + 31 * k + 17) * 48271 % 2147483647 := by omega
    have w4 : (y % 2147483629 + 7919 * k * k + 31 * k + 17) * 48271 % 2147483647 < 18446744073709551616 := by omega
    by_cases big : 1000000000000000000 ≤ y
    · refine ⟨y, b, ?_, y0, b0, b1⟩
      simp [F_law_pool, runF, m_law_pool, scriptD, mV, view, dSl, intOf, c1, dSum, dI, dAdd, put, hk, h0, dLen, blOf, dIx, hz, dAbs, hy, dInt, hk1, hk2, m1, m2, w3, w4, big, lim, sizeLine, hb, outs]
    · refine ⟨0, b, ?_, Int.le_refl 0, b0, b1⟩
      simp [F_law_pool, runF, m_law_pool, scriptD, mV, view, dSl, intOf, c1, dSum, dI, dAdd, put, hk, h0, dLen, blOf, dIx, hz, dAbs, hy, dInt, hk1, hk2, m1, m2, w3, w4, big, lim, sizeLine, hb, outs]
def isIntD : D → Bool
  | .int _ => true
  | _ => false
theorem integer_ok {d : D} (h : AN.isObj d = false) : F_is_integer [.fz d] = .ok (.fz (.bl (isIntD d))) [.fz d] := by
  cases d <;> first | (simp [F_is_integer, runF, m_is_integer, mV, view, isI, AN.isObj, fInt, fBool, blOf, outs, isIntD]; done) | cases h
def thingD : D → Bool
  | .int i => decide (1 ≤ i) && decide (i ≤ 1000000000)
  | _ => false
theorem call1 {f : Fn} {d z : D} {e : AN.Env} {as : List Slot} (h : f [.fz d] = .ok (.fz z) as) (hs : scalar z = true) : callP 1 f [.d d] e = .ok (.fz z) e := callP_ok rfl (ds := [d]) (e1 := e) rfl h hs
theorem thing_ok {d : D} (h : AN.isObj d = false) : F_is_thing [.fz d] = .ok (.fz (.bl (thingD d))) [.fz d] := by
  have c := fun e => call1 (e := e) (integer_ok h) rfl
  cases d with
  | int i =>
    by_cases h1 : 1 ≤ i <;> simp [F_is_thing, runF, m_is_thing, mV, view, blOf, outs, isIntD, thingD, c, dI, h1]
  | obj _ _ => cases h
  | _ => simp [F_is_thing, runF, m_is_thing, mV, view, blOf, outs, isIntD, thingD, c, dI]
abbrev abc : Str := "abcdefghijklmnopqrstuvwxyz"
def letter (c : Nat) : Bool := decide (c ∈ abc.cps.toList)
def nameS (s : Str) : Bool := decide (1 ≤ s.length) && decide (s.length ≤ 8) && s.cps.toList.all letter
def nameD : D → Bool
  | .str s => nameS s
  | _ => false
theorem name_ok {d : D} (h : AN.isObj d = false) : F_is_name [.fz d] = .ok (.fz (.bl (nameD d))) [.fz d] := by
  cases d with
  | str s =>
    by_cases h1 : (1 : Int) ≤ s.length
    · by_cases h2 : (s.length : Int) ≤ 8
      · have L : lc [1] (gN 1) (M.pure true) (mD (mB2 (dInX false) (mV 1) (mC (.str abc)))) (signs s) [] [.fz (.str s), .no] = .ok (s.cps.toList.map fun c => D.bl (letter c)) [.fz (.str s), .no] := by
          have := lc_map (vs := [1]) (g := gN 1) (me := mD (mB2 (dInX false) (mV 1) (mC (.str abc)))) (e := [.fz (.str s), .no]) (ds := signs s) (acc := []) (f := fun d => match d with
            | .str x => .bl (inStr x abc)
            | d => d) (fun d hd => by
              obtain ⟨c, _, rfl⟩ := List.mem_map.mp hd
              exact ⟨_, [.fz (.str s), .fz (sign c)], rfl, rfl, rfl⟩)
          rw [this]
          simp [signs, sign]
          intro c _
          rfl
        have B : blsOf (s.cps.toList.map fun c => D.bl (letter c)) = some (s.cps.toList.map letter) := by
          rw [← blsOf_map]; simp [Function.comp_def]
        have h3 : (signs s).length ≤ sizeLine := by
          have : (signs s).length = s.length := by simp [signs]; rfl
          rw [this]; have : s.length ≤ 8 := by omega
          exact Nat.le_trans this (by decide)
        have n1 : decide (1 ≤ s.length) = true := decide_eq_true (by omega)
        have n2 : decide (s.length ≤ 8) = true := decide_eq_true (by omega)
        simp [F_is_name, runF, m_is_name, mV, view, isI, AN.isObj, fStr, blOf, dLen, dI, h1, h2, seqOf, h3, wipeE, L, restE, dAll, B, outs, nameD, nameS, n1, n2, Function.comp_def]
      · have n2 : decide (s.length ≤ 8) = false := decide_eq_false (by omega)
        simp [F_is_name, runF, m_is_name, mV, view, isI, AN.isObj, fStr, blOf, dLen, dI, h1, h2, outs, nameD, nameS, n2]
    · have n1 : decide (1 ≤ s.length) = false := decide_eq_false (by omega)
      simp [F_is_name, runF, m_is_name, mV, view, isI, AN.isObj, fStr, blOf, dLen, dI, h1, outs, nameD, nameS, n1]
  | obj _ _ => cases h
  | _ => simp [F_is_name, runF, m_is_name, mV, view, isI, AN.isObj, fStr, blOf, outs, nameD]
theorem atI_mem {α : Type} {xs : List α} {i : Int} (h0 : 0 ≤ i) (h1 : i < xs.length) : ∃ x ∈ xs, L2.atI xs i = some x := by
  unfold L2.atI ixN
  rw [if_pos h0, if_pos h1]
  have : i.toNat < xs.length := by omega
  exact ⟨xs[i.toNat], List.getElem_mem this, by simp [this]⟩
theorem pick_str {a b : Int} {s : Str} (h : Pl a b) (h0 : 0 < s.length) (h1 : s.length < 65536) : ∃ c a' b', F_law_pick [.ow true (pl a b), .fz (.str s)] = .ok (.fz (sign c)) [.ow true (pl a' b'), .fz (.str s)] ∧ c ∈ s.cps.toList ∧ Pl a' b' := by
  obtain ⟨v, a', b', h2, h3, h4, h5⟩ := draw_at (e := [.ow true (pl a b), .fz (.str s)]) (i := 0) (k := true) (n := s.length) h (by omega) (by omega) rfl
  obtain ⟨c, hc, e⟩ := atI_mem (xs := s.cps.toList) h3 (by rw [Array.length_toList]; exact h4)
  refine ⟨c, a', b', ?_, hc, h5⟩
  simp [F_law_pick, runF, m_law_pick, mV, view, dLen, h2, dIx, e, outs]
theorem pick_lst {a b : Int} {s : List D} (h : Pl a b) (h0 : 0 < s.length) (h1 : s.length < 65536) : ∃ c a' b', F_law_pick [.ow true (pl a b), .fz (.lst s)] = .ok (.fz c) [.ow true (pl a' b'), .fz (.lst s)] ∧ c ∈ s ∧ Pl a' b' := by
  obtain ⟨v, a', b', h2, h3, h4, h5⟩ := draw_at (e := [.ow true (pl a b), .fz (.lst s)]) (i := 0) (k := true) (n := s.length) h (by omega) (by omega) rfl
  obtain ⟨c, hc, e⟩ := atI_mem (xs := s) h3 (by simpa using h4)
  refine ⟨c, a', b', ?_, hc, h5⟩
  simp [F_law_pick, runF, m_law_pick, mV, view, dLen, h2, dIx, e, outs]
theorem pick_at {a b : Int} {d : D} {e : AN.Env} {i : Nat} {k : Bool} {c : D} {a' b' : Int} (h : F_law_pick [.ow true (pl a b), .fz d] = .ok (.fz c) [.ow true (pl a' b'), .fz d]) (he : e[i]? = some (.ow k (pl a b))) : callM [true, false] F_law_pick [.sl i, .d d] e = .ok (.fz c) (e.set i (.ow k (pl a' b'))) := by
  refine callM_ok (by simp [ioS]) (ds := [.non, d]) (e1 := e) rfl (args := [.ow true (pl a b), .fz d]) ?_ h ?_
  · simp [mkA, he]
  · simp [back, he]
theorem join_letters : ∀ (xs : List D), (∀ d ∈ xs, ∃ c, d = sign c ∧ letter c = true) → ∃ ys : List Str, strsOf xs = some ys ∧ (ys.map (·.length)).sum = xs.length ∧ ys.length = xs.length ∧ (Str.join "" ys).length = xs.length ∧ (Str.join "" ys).cps.toList.all letter = true
  | [], _ => ⟨[], rfl, rfl, rfl, rfl, rfl⟩
  | [d], h => by
    obtain ⟨c, rfl, hc⟩ := h d (by simp)
    refine ⟨[⟨#[c]⟩], rfl, rfl, rfl, rfl, ?_⟩
    simp [Str.join, hc]
  | d :: d2 :: xs, h => by
    obtain ⟨c, rfl, hc⟩ := h d (by simp)
    obtain ⟨ys, h1, h2, h3, h4, h5⟩ := join_letters (d2 :: xs) (fun z hz => h z (by simp [hz]))
    cases ys with
    | nil => cases h3
    | cons y ys =>
      refine ⟨⟨#[c]⟩ :: y :: ys, ?_, ?_, ?_, ?_, ?_⟩
      · simp only [sign, strsOf, h1]; rfl
      · rw [List.map_cons, List.sum_cons, h2]; show 1 + _ = _; simp; omega
      · rw [List.length_cons, h3]; rfl
      · show ((#[c] ++ #[]) ++ (Str.join "" (y :: ys)).cps).size = _
        have h4' : (Str.join "" (y :: ys)).cps.size = (d2 :: xs).length := h4
        simp [h4']
        omega
      · show ((#[c] ++ #[]) ++ (Str.join "" (y :: ys)).cps).toList.all letter = true
        simp only [Array.append_empty, Array.toList_append, List.all_append, h5]
        simp [hc]
theorem z2 : (2 : Nat) ≤ sizeLine := by decide
theorem text_ok {a b : Int} (h : Pl a b) : ∃ t due a' b', F_law_text [.ow true (pl a b)] = .ok (.ow (.lst [.str t, .bl due])) [.ow true (pl a' b')] ∧ nameS t = due ∧ Pl a' b' := by
  obtain ⟨n, a1, b1, h1, n0, n1, p1⟩ := draw_at (e := [.ow true (pl a b), .no, .no, .no, .no]) (i := 0) (k := true) (n := 11) h (by omega) (by omega) rfl
  obtain ⟨xs, e2, h2, hl, h3, ⟨a2, b2, rfl, p2⟩⟩ := lc_all (vs := [4]) (g := gN 4) (me := mCallM [true, false] F_law_pick (mA (mV 0) (mA (mC (.str abc)) mA0))) (I := fun e => ∃ a b, e = [.ow true (pl a b), .no, .no, .no, .no] ∧ Pl a b) (P := fun d => ∃ c, d = sign c ∧ letter c = true) (ds := nums 0 n.toNat) (acc := []) (e := [.ow true (pl a1 b1), .no, .no, .no, .no]) ⟨a1, b1, rfl, p1⟩ (fun _ z => nomatch z) (fun d hd e ⟨a3, b3, he, p3⟩ => by
    subst he
    obtain ⟨c, a4, b4, h4, hc, p4⟩ := pick_str (s := abc) p3 (by decide) (by decide)
    refine ⟨_, [.ow true (pl a4 b4), .no, .no, .no, .fz d], sign c, rfl, ?_, ⟨c, rfl, decide_eq_true hc⟩, ⟨a4, b4, rfl, p4⟩⟩
    have := pick_at (e := [.ow true (pl a3 b3), .no, .no, .no, .fz d]) (i := 0) (k := true) h4 rfl
    simp [bind_r, mV, this])
  obtain ⟨ys, j1, j2, j3, j4, j5⟩ := join_letters xs h3
  have hn : xs.length = n.toNat := by rw [hl]; simp [nums]
  generalize ht : Str.join "" ys = t at j4 j5
  have jb : (ys.map (·.length)).sum + ys.length * (Str.length "") ≤ 16777216 := by
    rw [j2, show Str.length "" = 0 from rfl]; omega
  obtain ⟨at_, a3, b3, h3', at0, at1, p3⟩ := draw_at (e := [.ow true (pl a2 b2), .fz (.str t), .no, .no, .no]) (i := 0) (k := true) (n := 10) p2 (by omega) (by omega) rfl
  obtain ⟨c, a4, b4, h4, hc, p4⟩ := pick_str (s := "ABZ019_ -.=<>~`{\x40[/") p3 (by decide) (by decide)
  have h4' := pick_at (e := [.ow true (pl a3 b3), .fz (.str t), .no, .no, .no]) (i := 0) (k := true) h4 rfl
  obtain ⟨v, a5, b5, h5, v0, v1, p5⟩ := draw_at (e := [.ow true (pl a4 b4), .fz (.str t), .fz (.int at_), .fz (sign c), .no]) (i := 0) (k := true) (n := 2) p4 (by omega) (by omega) rfl
  have r1 : rng1 (.int n) = some (nums 0 n.toNat) := by
    simp only [rng1]; rw [if_pos (by omega)]
  have r2 : (nums 0 n.toNat).length ≤ sizeLine := by
    simp only [nums, List.length_map, List.length_range]; exact Nat.le_trans (show n.toNat ≤ 11 by omega) (by decide)
  have hodd : letter c = false := by
    have : ∀ c ∈ Str.cps "ABZ019_ -.=<>~`{\x40[/" |>.toList, letter c = false := by decide +kernel
    exact this c hc
  have tl : t.length = n.toNat := by rw [j4, hn]
  by_cases cc : v = 0 ∧ at_ < t.length
  · refine ⟨cutS t none (some at_) ++ ⟨#[c]⟩ ++ cutS t (some (at_ + 1)) none, false, a5, b5, ?_, ?_, p5⟩
    · have l1 : (cutS t none (some at_)).length + 1 ≤ sizeLine := by
        have := cutS_length t none (some at_)
        have : sizeLine = 16777216 := rfl
        omega
      have l2 : (cutS t none (some at_) ++ (⟨#[c]⟩ : Str)).length + (cutS t (some (at_ + 1)) none).length ≤ sizeLine := by
        have k1 := cutS_length t none (some at_)
        have k2 := cutS_length t (some (at_ + 1)) none
        have : (cutS t none (some at_) ++ (⟨#[c]⟩ : Str)).length = (cutS t none (some at_)).length + 1 := by
          show ((cutS t none (some at_)).cps ++ #[c]).size = _
          simp
          rfl
        have : sizeLine = 16777216 := rfl
        omega
      have l3 : (cutS t none (some at_)).length + (Str.length ⟨#[c]⟩) ≤ sizeLine := l1
      have q : (v == 0) = true := by rw [cc.1]; rfl
      have s1 : dAdd (.str (cutS t none (some at_))) (sign c) = some (.str (cutS t none (some at_) ++ (⟨#[c]⟩ : Str))) := if_pos l3
      have s2 : dAdd (.str (cutS t none (some at_) ++ (⟨#[c]⟩ : Str))) (.str (cutS t (some (at_ + 1)) none)) = some (.str (cutS t none (some at_) ++ (⟨#[c]⟩ : Str) ++ cutS t (some (at_ + 1)) none)) := if_pos l2
      have s3 : dAdd (.int at_) (.int 1) = some (.int (at_ + 1)) := rfl
      simp [F_law_text, runF, m_law_text, mV, h1, view, r1, r2, wipeE, h2, restE, strChk, dJoin, j1, jb, ht, put, h3', h4', puts, gN, h5, blOf, q, cc.1, dLen, dI, cc.2, dSl, intOf, s1, s2, s3, lim, z2, outs]
    · have : (cutS t none (some at_) ++ ⟨#[c]⟩ ++ cutS t (some (at_ + 1)) none).cps.toList.all letter = false := by
        show (((cutS t none (some at_)).cps ++ #[c]) ++ _).toList.all letter = false
        simp [hodd]
      unfold nameS
      rw [this, Bool.and_false]
  · refine ⟨t, _, a5, b5, ?_, rfl, p5⟩
    have e1 : nameS t = (decide (1 ≤ t.length) && decide (t.length ≤ 8)) := by unfold nameS; rw [j5, Bool.and_true]
    rw [e1]
    by_cases hv : v = 0
    · have hat : ¬ at_ < t.length := fun z => cc ⟨hv, z⟩
      have q : (v == 0) = true := by rw [hv]; rfl
      by_cases g : (1 : Int) ≤ t.length
      · have g' : decide (1 ≤ t.length) = true := decide_eq_true (by omega)
        have g2 : decide ((t.length : Int) ≤ 8) = decide (t.length ≤ 8) := decide_eq_decide.mpr (by omega)
        simp [F_law_text, runF, m_law_text, mV, h1, view, r1, r2, wipeE, h2, restE, strChk, dJoin, j1, jb, ht, put, h3', h4', puts, gN, h5, blOf, q, hv, dLen, dI, hat, g, g', g2, lim, z2, outs]
      · have g' : decide (1 ≤ t.length) = false := decide_eq_false (by omega)
        simp [F_law_text, runF, m_law_text, mV, h1, view, r1, r2, wipeE, h2, restE, strChk, dJoin, j1, jb, ht, put, h3', h4', puts, gN, h5, blOf, q, hv, dLen, dI, hat, g, g', lim, z2, outs]
    · have q : (v == 0) = false := by
        have : v = 1 := by omega
        rw [this]; rfl
      by_cases g : (1 : Int) ≤ t.length
      · have g' : decide (1 ≤ t.length) = true := decide_eq_true (by omega)
        have g2 : decide ((t.length : Int) ≤ 8) = decide (t.length ≤ 8) := decide_eq_decide.mpr (by omega)
        simp [F_law_text, runF, m_law_text, mV, h1, view, r1, r2, wipeE, h2, restE, strChk, dJoin, j1, jb, ht, put, h3', h4', puts, gN, h5, blOf, q, hv, dLen, dI, g, g', g2, lim, z2, outs]
      · have g' : decide (1 ≤ t.length) = false := decide_eq_false (by omega)
        simp [F_law_text, runF, m_law_text, mV, h1, view, r1, r2, wipeE, h2, restE, strChk, dJoin, j1, jb, ht, put, h3', h4', puts, gN, h5, blOf, q, hv, dLen, dI, g, g', lim, z2, outs]
theorem z10 : (10 : Nat) ≤ sizeLine := by decide
theorem z14 : (14 : Nat) ≤ sizeLine := by decide
theorem z1 : (1 : Nat) ≤ sizeLine := by decide
theorem number_ok {a b x : Int} (h : Pl a b) : ∃ y a' b', F_law_number [.ow true (pl a b), .fz (.int x)] = .ok (.ow (.lst [.int y, .bl (decide (1 ≤ y) && decide (y ≤ 1000000000))])) [.ow true (pl a' b'), .fz (.int x)] ∧ Pl a' b' := by
  obtain ⟨n, a1, b1, h1, n0, n1, p1⟩ := draw_at (e := [.ow true (pl a b), .fz (.int x), .no, .no]) (i := 0) (k := true) (n := 2000000000) h (by omega) (by omega) rfl
  obtain ⟨c, a2, b2, h2, hc, p2⟩ := pick_lst (s := [.int 0, .int 1, .int 2, .int 999999999, .int 1000000000, .int 1000000001, .int (-1), .int (-1000000000), .int x, .int n]) p1 (by simp) (by simp)
  have hc' : ∃ y, c = .int y := by
    simp only [List.mem_cons, List.not_mem_nil, or_false] at hc
    rcases hc with h | h | h | h | h | h | h | h | h | h <;> exact ⟨_, h⟩
  obtain ⟨y, rfl⟩ := hc'
  have h2' := pick_at (e := [.ow true (pl a1 b1), .fz (.int x), .fz (.lst [.int 0, .int 1, .int 2, .int 999999999, .int 1000000000, .int 1000000001, .int (-1), .int (-1000000000), .int x, .int n]), .no]) (i := 0) (k := true) h2 rfl
  refine ⟨y, a2, b2, ?_, p2⟩
  by_cases g : 1 ≤ y <;> simp [F_law_number, runF, m_law_number, mV, view, dI, dAdd, dNeg, h1, lim, z10, put, h2', z2, outs, blOf, g]
theorem bad_ok {d : D} (h : AN.isObj d = false) (h1 : nameD d = false) (h2 : thingD d = false) {sc s2 s3 s4 s5 s6 : Slot} : mIfS (mOr (mB2 (g2b (dIsX true)) (mCall 1 F_is_name (mA (mV 1) mA0)) (mC (.bl false))) (mB2 (g2b (dIsX true)) (mCall 1 F_is_thing (mA (mV 1) mA0)) (mC (.bl false)))) (mRet (mC (.bl false))) mNx [sc, .fz d, s2, s3, s4, s5, s6] = .ok .nx [sc, .fz d, s2, s3, s4, s5, s6] := by
  have c1 := fun e => call1 (e := e) (name_ok h) rfl
  have c2 := fun e => call1 (e := e) (thing_ok h) rfl
  simp [mV, c1, c2, dIsX, isD, isBlD, h1, h2, blOf]
def vals : List D := [.non, .bl true, .bl false, .str "1", .lst [.int 1], .tup [.int 1], .dic [], .lst [], .lst [.str "a"], .tup [.str "a"], .str "", .str "a\n", .str "\na", .str "a "]
theorem vals_bad : ∀ d ∈ vals, AN.isObj d = false ∧ nameD d = false ∧ thingD d = false := by
  intro d hd
  simp only [vals, List.mem_cons, List.not_mem_nil, or_false] at hd
  rcases hd with h | h | h | h | h | h | h | h | h | h | h | h | h | h <;> subst h <;> exact ⟨rfl, by decide +kernel, by decide +kernel⟩
theorem law_plain : ∀ ns : List Int, ns.length ≤ 63 → ∃ as, F_law [.fz (scriptD ns)] = .ok (.fz (.bl true)) as := by
  intro ns hl
  obtain ⟨e1, L1, s1, rfl, n1⟩ := loop_nx (g := gN 1) (body := mIfS (mOr (mB2 (g2b (dIsX true)) (mCall 1 F_is_name (mA (mV 1) mA0)) (mC (.bl false))) (mB2 (g2b (dIsX true)) (mCall 1 F_is_thing (mA (mV 1) mA0)) (mC (.bl false)))) (mRet (mC (.bl false))) mNx) (I := fun e => ∃ s, e = [.fz (scriptD ns), s, .no, .no, .no, .no, .no] ∧ pin s = false) (ds := vals) (e := [.fz (scriptD ns), .no, .no, .no, .no, .no, .no]) ⟨.no, rfl, rfl⟩ (fun d hd e ⟨s, he, hs⟩ => by
    subst he
    obtain ⟨h1, h2, h3⟩ := vals_bad d hd
    exact ⟨_, _, gN_pin rfl hs, .inl (bad_ok h1 h2 h3), _, rfl, rfl⟩)
  have hm : ∃ m : Int, 1 ≤ m ∧ m ≤ 12 ∧ dMax2 (.int 1) (.int (if (12 : Int) < ns.length then 12 else ns.length)) = some (.int m) := by
    refine ⟨_, ?_, ?_, rfl⟩ <;> (repeat' split) <;> omega
  obtain ⟨m, m0, m1, hm⟩ := hm
  obtain ⟨e2, L2, _⟩ := loop_nx (g := gN 2) (body := mSeq (mSetO 3 (mCallO 2 F_law_pool (mA (mV 0) (mA (mV 2) mA0))))
    (mSeq (mAsg (gT 2 (gs (gN 4) (gs (gN 5) gs0))) (mCallM [true] F_law_text (mA (mV 3) mA0)))
    (mSeq (mIfS (mOr (mB2 (g2b dNe) (mD (mB1 dReprB (mCall 1 F_is_name (mA (mV 4) mA0)))) (mD (mB1 dReprB (mV 5)))) (mB2 (g2b (dIsX true)) (mCall 1 F_is_thing (mA (mV 4) mA0)) (mC (.bl false)))) (mRet (mC (.bl false))) mNx)
    (mSeq (mAsg (gT 2 (gs (gN 6) (gs (gN 5) gs0))) (mCallM [true, false] F_law_number (mA (mV 3) (mA (mD (mB1 dInt (mD (mB2 dIx (mD (mB2 dAdd (mV 0) (mFz (mLst (mA (mV 2) mA0))))) (mD (mB2 dMin2 (mV 2) (mD (mB1 dLen (mV 0))))))))) mA0))))
    (mIfS (mOr (mB2 (g2b dNe) (mD (mB1 dReprB (mCall 1 F_is_thing (mA (mV 6) mA0)))) (mD (mB1 dReprB (mV 5)))) (mB2 (g2b (dIsX true)) (mCall 1 F_is_name (mA (mV 6) mA0)) (mC (.bl false)))) (mRet (mC (.bl false))) mNx))))) (I := fun e => ∃ s2 s3 s4 s5 s6, e = [.fz (scriptD ns), s1, s2, s3, s4, s5, s6] ∧ pin s2 = false ∧ pin s3 = false ∧ pin s4 = false ∧ pin s5 = false ∧ pin s6 = false) (ds := nums 0 m.toNat) (e := [.fz (scriptD ns), s1, .no, .no, .no, .no, .no]) ⟨_, _, _, _, _, rfl, rfl, rfl, rfl, rfl, rfl⟩ (fun d hd e ⟨s2, s3, s4, s5, s6, he, i2, i3, i4, i5, i6⟩ => by
    subst he
    obtain ⟨k, hk, rfl⟩ := List.mem_map.mp hd
    have hk := List.mem_range.mp hk
    refine ⟨[.fz (scriptD ns), s1, .fz (.int (0 + k)), s3, s4, s5, s6], ?_⟩
    obtain ⟨a, b, P1, q1⟩ := pool_ok (ns := ns) (k := 0 + k) (by omega) (by omega) hl
    obtain ⟨t, due, a2, b2, P2, hd, q2⟩ := text_ok q1
    have hx : ∃ x, dAdd (scriptD ns) (.lst [.int (0 + k)]) = some (scriptD (ns ++ [0 + (k : Int)])) ∧ dIx (scriptD (ns ++ [0 + (k : Int)])) (.int (if (ns.length : Int) < 0 + k then (ns.length : Int) else 0 + k)) = some (.int x) := by
      have e1 : dAdd (scriptD ns) (.lst [.int (0 + k)]) = some (scriptD (ns ++ [0 + (k : Int)])) := by
        simp only [scriptD, dAdd, List.length_map, List.length_singleton]
        rw [if_pos (Nat.le_trans (show ns.length + 1 ≤ 64 by omega) (by decide))]
        simp
      obtain ⟨x, hx, he⟩ := atI_mem (xs := (ns ++ [0 + (k : Int)]).map D.int) (i := if (ns.length : Int) < 0 + k then (ns.length : Int) else 0 + k) (by split <;> omega) (by simp only [List.length_map, List.length_append, List.length_singleton]; split <;> omega)
      obtain ⟨y, _, rfl⟩ := List.mem_map.mp hx
      exact ⟨y, e1, he⟩
    obtain ⟨x, hx1, hx2⟩ := hx
    obtain ⟨y, a3, b3, P3, q3⟩ := number_ok (x := x) q2
    have cN := fun e => call1 (e := e) (name_ok (d := .str t) rfl) rfl
    have cT := fun e => call1 (e := e) (thing_ok (d := .str t) rfl) rfl
    have cN2 := fun e => call1 (e := e) (name_ok (d := .int y) rfl) rfl
    have cT2 := fun e => call1 (e := e) (thing_ok (d := .int y) rfl) rfl
    refine ⟨[.fz (scriptD ns), s1, .fz (.int (0 + k)), .ow false (pl a3 b3), .fz (.str t), .fz (.bl (thingD (.int y))), .fz (.int y)], gN_pin rfl i2, .inl ?_, ⟨_, _, _, _, _, rfl, rfl, rfl, rfl, rfl, rfl⟩⟩
    have C1 : ∀ e, callP 2 F_law_pool [.d (scriptD ns), .d (.int (0 + k))] e = .ok (.ow (pl a b)) e := fun e => callP_ow rfl (ds := [scriptD ns, .int (0 + k)]) (e1 := e) rfl P1
    have C2 : callM [true] F_law_text [.sl 3] [.fz (scriptD ns), s1, .fz (.int (0 + k)), .ow false (pl a b), s4, s5, s6] = .ok (.ow (.lst [.str t, .bl due])) [.fz (scriptD ns), s1, .fz (.int (0 + k)), .ow false (pl a2 b2), s4, s5, s6] :=
      callM_ok (by simp [ioS]) (ds := [.non]) rfl rfl P2 rfl
    have C3 : callM [true, false] F_law_number [.sl 3, .d (.int x)] [.fz (scriptD ns), s1, .fz (.int (0 + k)), .ow false (pl a2 b2), .fz (.str t), .fz (.bl due), s6] = .ok (.ow (.lst [.int y, .bl (thingD (.int y))])) [.fz (scriptD ns), s1, .fz (.int (0 + k)), .ow false (pl a3 b3), .fz (.str t), .fz (.bl due), s6] :=
      callM_ok (by simp [ioS]) (ds := [.non, .int x]) rfl rfl P3 rfl
    have u3 : put 3 (.ow false (pl a b)) [.fz (scriptD ns), s1, .fz (.int (0 + k)), s3, s4, s5, s6] = .ok .nx [.fz (scriptD ns), s1, .fz (.int (0 + k)), .ow false (pl a b), s4, s5, s6] := put_pin rfl i3
    have u4 : gN 4 (.str t) [.fz (scriptD ns), s1, .fz (.int (0 + k)), .ow false (pl a2 b2), s4, s5, s6] = some [.fz (scriptD ns), s1, .fz (.int (0 + k)), .ow false (pl a2 b2), .fz (.str t), s5, s6] := gN_pin rfl i4
    have u5 : gN 5 (.bl due) [.fz (scriptD ns), s1, .fz (.int (0 + k)), .ow false (pl a2 b2), .fz (.str t), s5, s6] = some [.fz (scriptD ns), s1, .fz (.int (0 + k)), .ow false (pl a2 b2), .fz (.str t), .fz (.bl due), s6] := gN_pin rfl i5
    have u6 : gN 6 (.int y) [.fz (scriptD ns), s1, .fz (.int (0 + k)), .ow false (pl a3 b3), .fz (.str t), .fz (.bl due), s6] = some [.fz (scriptD ns), s1, .fz (.int (0 + k)), .ow false (pl a3 b3), .fz (.str t), .fz (.bl due), .fz (.int y)] := gN_pin rfl i6
    have u7 : gN 5 (.bl (thingD (.int y))) [.fz (scriptD ns), s1, .fz (.int (0 + k)), .ow false (pl a3 b3), .fz (.str t), .fz (.bl due), .fz (.int y)] = some [.fz (scriptD ns), s1, .fz (.int (0 + k)), .ow false (pl a3 b3), .fz (.str t), .fz (.bl (thingD (.int y))), .fz (.int y)] := gN_pin rfl rfl
    have hln : dLen (scriptD ns) = some (.int ns.length) := by simp [dLen, scriptD]
    have hmn : dMin2 (.int (0 + k)) (.int ns.length) = some (.int (if (ns.length : Int) < 0 + k then (ns.length : Int) else 0 + k)) := rfl
    have f1 : thingD (.str t) = false := rfl
    have f2 : nameD (.int y) = false := rfl
    have f3 : nameD (.str t) = due := hd
    simp only [mSeq_r, mSetO_r, mCallO_r, mA_r, mV, List.getElem?_cons_zero, List.getElem?_cons_succ, th_ok, mA0_r, C1, retO_r, u3, mAsg_r, mCallM_r, C2, retD_ow, toD_lst, frz1_d, gT, List.length_cons, List.length_nil, gs, gs0, u4, u5, Option.bind_some, rop_some, mIfS_r, mOr_r, mB2_r, mD_r, mB1_r, mCall_r, cN, cT, retD_fz, ap1_r, ap2_r, view_d, dReprB, g2b_r, dNe_str, f3, beq_self_eq_true, blOf, mC_r, dIsX, isD, isBlD, f1, Option.map_some, mNx_r, if_true, if_false, hln, mFz_r, mLst_r, frzs_cons, frzs_nil, lim_r z1, pure_r, hx1, hmn, hx2, dInt, C3, u6, u7, cN2, cT2, f2, Bool.not_true, Bool.false_eq_true, decide_true, ite_true, ite_false, Nat.zero_add, Nat.reduceAdd])
  refine ⟨_, runF_ok (e := e2) ?_⟩
  have r1 : rng1 (.int m) = some (nums 0 m.toNat) := by
    simp only [rng1]; rw [if_pos (by omega)]
  have z0 : (0 : Nat) ≤ sizeLine := Nat.zero_le _
  have hv : ∀ e, R.th (mIt (mFz (mLst (mA (mC .non) (mA (mC (.bl true)) (mA (mC (.bl false)) (mA (mC (.str "1")) (mA (mFz (mLst (mA (mC (.int 1)) mA0))) (mA (mTup (mA (mC (.int 1)) mA0)) (mA (mFz mDic0) (mA (mFz (mLst mA0)) (mA (mFz (mLst (mA (mC (.str "a")) mA0))) (mA (mTup (mA (mC (.str "a")) mA0)) (mA (mC (.str "")) (mA (mC (.str "a\n")) (mA (mC (.str "\na")) (mA (mC (.str "a ")) mA0)))))))))))))))) e) = R.th (.ok vals e) (β := Fl) := by
    intro e
    simp [lim, z1, z14, z0, seqOf, vals]
  have hmn : dMin2 (.int ns.length) (.int 12) = some (.int (if (12 : Int) < ns.length then 12 else ns.length)) := rfl
  have hln : dLen (scriptD ns) = some (.int ns.length) := by simp [dLen, scriptD]
  have hv' := hv
  show m_law [.fz (scriptD ns), .no, .no, .no, .no, .no, .no] = _
  unfold m_law
  rw [mSeq_r, mFor_r, hv, th_ok, L1, th_ok]
  dsimp only
  rw [mSeq_r, mFor_r]
  have hr : mRng1 (mD (mB2 dMax2 (mC (.int 1)) (mD (mB2 dMin2 (mD (mB1 dLen (mV 0))) (mC (.int 12)))))) [.fz (scriptD ns), s1, .no, .no, .no, .no, .no] = .ok (nums 0 m.toNat) [.fz (scriptD ns), s1, .no, .no, .no, .no, .no] := by
    simp only [mRng1_r, mD_r, mB2_r, mB1_r, mC_r, th_ok, mV, List.getElem?_cons_zero, ap1_r, ap2_r, view_d, Option.bind_some, hln, rop_some, hmn, hm, r1]
  rw [hr, th_ok, L2, th_ok]
  rfl
end G

set_option Elab.async false
set_option maxRecDepth 100000
set_option linter.unusedVariables false
namespace G
open PySem L2 AN
theorem all_mk {P : Program} {w : World} {K : PySem.W.Frag} {h : Heap} {mg : Str → Option Value} {fa : Addr} (X : K.In h) (G : h.Ns mainGlobals mg) (hfa : mg "law" = some (.ref fa))
    {f0 : Addr} {od0 an0 : Option Addr} {sl0 : Array (Option Value)} {oc0 kV0 dc0 pm0 cd0 ct0 : Value}
    {f1 : Addr} {od1 an1 : Option Addr} {sl1 : Array (Option Value)} {oc1 kV1 dc1 pm1 cd1 ct1 : Value}
    {f2 : Addr} {od2 an2 : Option Addr} {sl2 : Array (Option Value)} {oc2 kV2 dc2 pm2 cd2 ct2 : Value}
    {f3 : Addr} {od3 an3 : Option Addr} {sl3 : Array (Option Value)} {oc3 kV3 dc3 pm3 cd3 ct3 : Value}
    {f4 : Addr} {od4 an4 : Option Addr} {sl4 : Array (Option Value)} {oc4 kV4 dc4 pm4 cd4 ct4 : Value}
    {f5 : Addr} {od5 an5 : Option Addr} {sl5 : Array (Option Value)} {oc5 kV5 dc5 pm5 cd5 ct5 : Value}
    {f6 : Addr} {od6 an6 : Option Addr} {sl6 : Array (Option Value)} {oc6 kV6 dc6 pm6 cd6 ct6 : Value}
    {f7 : Addr} {od7 an7 : Option Addr} {sl7 : Array (Option Value)} {oc7 kV7 dc7 pm7 cd7 ct7 : Value}
    {f8 : Addr} {od8 an8 : Option Addr} {sl8 : Array (Option Value)} {oc8 kV8 dc8 pm8 cd8 ct8 : Value}
    {t_LETTERS : Tok}
    {t_MOST_LETTERS : Tok}
    (a0 : PySem.W.nsIn K mainGlobals "is_integer" = some (some (.ref f0))) (l0 : K.lookup f0 = some ⟨oc0, od0, .func (PySem.W.fnOf "is_integer" "is_integer" (defArgs s_is_integer) (defBody s_is_integer) (defScope s_is_integer) .none kV0 dc0 pm0 an0 cd0 ct0), sl0⟩) (c0 : PySem.W.codeIn K cd0 "is_integer" = true) (k0 : PySem.W.keepIn K (.ref f0) = true)
    (a1 : PySem.W.nsIn K mainGlobals "is_name" = some (some (.ref f1))) (l1 : K.lookup f1 = some ⟨oc1, od1, .func (PySem.W.fnOf "is_name" "is_name" (defArgs s_is_name) (defBody s_is_name) (defScope s_is_name) .none kV1 dc1 pm1 an1 cd1 ct1), sl1⟩) (c1 : PySem.W.codeIn K cd1 "is_name" = true) (k1 : PySem.W.keepIn K (.ref f1) = true)
    (a2 : PySem.W.nsIn K mainGlobals "is_thing" = some (some (.ref f2))) (l2 : K.lookup f2 = some ⟨oc2, od2, .func (PySem.W.fnOf "is_thing" "is_thing" (defArgs s_is_thing) (defBody s_is_thing) (defScope s_is_thing) .none kV2 dc2 pm2 an2 cd2 ct2), sl2⟩) (c2 : PySem.W.codeIn K cd2 "is_thing" = true) (k2 : PySem.W.keepIn K (.ref f2) = true)
    (a3 : PySem.W.nsIn K mainGlobals "_law_pool" = some (some (.ref f3))) (l3 : K.lookup f3 = some ⟨oc3, od3, .func (PySem.W.fnOf "_law_pool" "_law_pool" (defArgs s_law_pool) (defBody s_law_pool) (defScope s_law_pool) .none kV3 dc3 pm3 an3 cd3 ct3), sl3⟩) (c3 : PySem.W.codeIn K cd3 "_law_pool" = true) (k3 : PySem.W.keepIn K (.ref f3) = true)
    (a4 : PySem.W.nsIn K mainGlobals "_law_draw" = some (some (.ref f4))) (l4 : K.lookup f4 = some ⟨oc4, od4, .func (PySem.W.fnOf "_law_draw" "_law_draw" (defArgs s_law_draw) (defBody s_law_draw) (defScope s_law_draw) .none kV4 dc4 pm4 an4 cd4 ct4), sl4⟩) (c4 : PySem.W.codeIn K cd4 "_law_draw" = true) (k4 : PySem.W.keepIn K (.ref f4) = true)
    (a5 : PySem.W.nsIn K mainGlobals "_law_pick" = some (some (.ref f5))) (l5 : K.lookup f5 = some ⟨oc5, od5, .func (PySem.W.fnOf "_law_pick" "_law_pick" (defArgs s_law_pick) (defBody s_law_pick) (defScope s_law_pick) .none kV5 dc5 pm5 an5 cd5 ct5), sl5⟩) (c5 : PySem.W.codeIn K cd5 "_law_pick" = true) (k5 : PySem.W.keepIn K (.ref f5) = true)
    (a6 : PySem.W.nsIn K mainGlobals "_law_text" = some (some (.ref f6))) (l6 : K.lookup f6 = some ⟨oc6, od6, .func (PySem.W.fnOf "_law_text" "_law_text" (defArgs s_law_text) (defBody s_law_text) (defScope s_law_text) .none kV6 dc6 pm6 an6 cd6 ct6), sl6⟩) (c6 : PySem.W.codeIn K cd6 "_law_text" = true) (k6 : PySem.W.keepIn K (.ref f6) = true)
    (a7 : PySem.W.nsIn K mainGlobals "_law_number" = some (some (.ref f7))) (l7 : K.lookup f7 = some ⟨oc7, od7, .func (PySem.W.fnOf "_law_number" "_law_number" (defArgs s_law_number) (defBody s_law_number) (defScope s_law_number) .none kV7 dc7 pm7 an7 cd7 ct7), sl7⟩) (c7 : PySem.W.codeIn K cd7 "_law_number" = true) (k7 : PySem.W.keepIn K (.ref f7) = true)
    (a8 : PySem.W.nsIn K mainGlobals "law" = some (some (.ref f8))) (l8 : K.lookup f8 = some ⟨oc8, od8, .func (PySem.W.fnOf "law" "law" (defArgs s_law) (defBody s_law) (defScope s_law) .none kV8 dc8 pm8 an8 cd8 ct8), sl8⟩) (c8 : PySem.W.codeIn K cd8 "law" = true) (k8 : PySem.W.keepIn K (.ref f8) = true)
    (z_abs : PySem.W.nsIn K mainGlobals "abs" = some none)
    (z_all : PySem.W.nsIn K mainGlobals "all" = some none)
    (z_bool : PySem.W.nsIn K mainGlobals "bool" = some none)
    (z_int : PySem.W.nsIn K mainGlobals "int" = some none)
    (z_isinstance : PySem.W.nsIn K mainGlobals "isinstance" = some none)
    (z_len : PySem.W.nsIn K mainGlobals "len" = some none)
    (z_max : PySem.W.nsIn K mainGlobals "max" = some none)
    (z_min : PySem.W.nsIn K mainGlobals "min" = some none)
    (z_range : PySem.W.nsIn K mainGlobals "range" = some none)
    (z_repr : PySem.W.nsIn K mainGlobals "repr" = some none)
    (z_str : PySem.W.nsIn K mainGlobals "str" = some none)
    (z_sum : PySem.W.nsIn K mainGlobals "sum" = some none)
    (q_LETTERS : PySem.W.nsIn K mainGlobals "LETTERS" = some (some (.str "abcdefghijklmnopqrstuvwxyz" t_LETTERS)))
    (q_MOST_LETTERS : PySem.W.nsIn K mainGlobals "MOST_LETTERS" = some (some (.int 8 t_MOST_LETTERS)))
    (q_MOST_THING : ∃ t, mg "MOST_THING" = some (.int 1000000000 t)) :
    ∃ fd : FuncData, (∀ (s : Shared) (v : Value), BindsTo s fd ⟨[v], []⟩ [("_law_script", v)]) ∧ ∀ base : Heap, K.In base → base.Ns mainGlobals mg → FnOk P w K mg base (L2.CX P w) 4 fa fd ["_law_script"] (spOf (bx K) 1 F_law) := by
  have e := hfa.symm.trans (PySem.W.mg_of X G a8)
  cases e
  have T : Txt mg := ⟨PySem.W.mg_none_of X G z_abs, PySem.W.mg_none_of X G z_all, PySem.W.mg_none_of X G z_bool, PySem.W.mg_none_of X G z_int, PySem.W.mg_none_of X G z_isinstance, PySem.W.mg_none_of X G z_len, PySem.W.mg_none_of X G z_max, PySem.W.mg_none_of X G z_min, PySem.W.mg_none_of X G z_range, PySem.W.mg_none_of X G z_repr, PySem.W.mg_none_of X G z_str, PySem.W.mg_none_of X G z_sum, ⟨_, PySem.W.mg_of X G q_LETTERS⟩, ⟨_, PySem.W.mg_of X G q_MOST_LETTERS⟩, q_MOST_THING⟩
  have D0 := fun_mk (st := s_is_integer) l0 c0 k0
  have b0 := D0.binds (ps := ["value"]) fun _ _ _ _ _ _ us hl => match us, hl with | [_], _ => rfl
  have D1 := fun_mk (st := s_is_name) l1 c1 k1
  have b1 := D1.binds (ps := ["value"]) fun _ _ _ _ _ _ us hl => match us, hl with | [_], _ => rfl
  have D2 := fun_mk (st := s_is_thing) l2 c2 k2
  have b2 := D2.binds (ps := ["value"]) fun _ _ _ _ _ _ us hl => match us, hl with | [_], _ => rfl
  have D3 := fun_mk (st := s_law_pool) l3 c3 k3
  have b3 := D3.binds (ps := ["_law_script", "_law_k"]) fun _ _ _ _ _ _ us hl => match us, hl with | [_, _], _ => rfl
  have D4 := fun_mk (st := s_law_draw) l4 c4 k4
  have b4 := D4.binds (ps := ["_law_pool_here", "_law_many"]) fun _ _ _ _ _ _ us hl => match us, hl with | [_, _], _ => rfl
  have D5 := fun_mk (st := s_law_pick) l5 c5 k5
  have b5 := D5.binds (ps := ["_law_pool_here", "_law_row"]) fun _ _ _ _ _ _ us hl => match us, hl with | [_, _], _ => rfl
  have D6 := fun_mk (st := s_law_text) l6 c6 k6
  have b6 := D6.binds (ps := ["_law_pool_here"]) fun _ _ _ _ _ _ us hl => match us, hl with | [_], _ => rfl
  have D7 := fun_mk (st := s_law_number) l7 c7 k7
  have b7 := D7.binds (ps := ["_law_pool_here", "_law_cell"]) fun _ _ _ _ _ _ us hl => match us, hl with | [_, _], _ => rfl
  have D8 := fun_mk (st := s_law) l8 c8 k8
  refine ⟨PySem.W.fnOf "law" "law" (defArgs s_law) (defBody s_law) (defScope s_law) .none kV8 dc8 pm8 an8 cd8 ct8, fun s v => .of_eq rfl, fun base _ _ => ?_⟩
  have C_is_integer : Cal P w K mg base (bx K) "is_integer" 1 ["value"] F_is_integer := ⟨_, _, ok_is_integer D0 T , PySem.W.mg_of X G a0, k0, b0⟩
  have C_is_name : Cal P w K mg base (bx K) "is_name" 1 ["value"] F_is_name := ⟨_, _, ok_is_name D1 T , PySem.W.mg_of X G a1, k1, b1⟩
  have C_is_thing : Cal P w K mg base (bx K) "is_thing" 2 ["value"] F_is_thing := ⟨_, _, ok_is_thing D2 T C_is_integer, PySem.W.mg_of X G a2, k2, b2⟩
  have C_law_pool : Cal P w K mg base (bx K) "_law_pool" 1 ["_law_script", "_law_k"] F_law_pool := ⟨_, _, ok_law_pool D3 T , PySem.W.mg_of X G a3, k3, b3⟩
  have C_law_draw : Cal P w K mg base (bx K) "_law_draw" 1 ["_law_pool_here", "_law_many"] F_law_draw := ⟨_, _, ok_law_draw D4 T , PySem.W.mg_of X G a4, k4, b4⟩
  have C_law_pick : Cal P w K mg base (bx K) "_law_pick" 2 ["_law_pool_here", "_law_row"] F_law_pick := ⟨_, _, ok_law_pick D5 T C_law_draw, PySem.W.mg_of X G a5, k5, b5⟩
  have C_law_text : Cal P w K mg base (bx K) "_law_text" 3 ["_law_pool_here"] F_law_text := ⟨_, _, ok_law_text D6 T C_law_draw C_law_pick, PySem.W.mg_of X G a6, k6, b6⟩
  have C_law_number : Cal P w K mg base (bx K) "_law_number" 3 ["_law_pool_here", "_law_cell"] F_law_number := ⟨_, _, ok_law_number D7 T C_law_draw C_law_pick, PySem.W.mg_of X G a7, k7, b7⟩
  exact ok_law D8 T C_is_name C_is_thing C_law_pool C_law_text C_law_number
end G
open PySem PySem.W PyProof.Rows
set_option maxRecDepth 100000 in
set_option maxHeartbeats 0 in
theorem PySem.Challenge.cw_addednames_k02_names_and_things_holds : PySem.Challenge.rw_addednames_k02_names_and_things.Holds := by
  w_on; o_law; k_head; (case hw => w_witness2)
  k_fill
  refine AN.walk_x (l := PySem.Challenge.rw_addednames_k02_names_and_things) (f := G.F_law) (k := 4) (x := "_law_script") G.bx (fun _ => rfl) rfl rfl ⟨rfl, by decide, by decide⟩ (fun w h Y => PySem.W.kIn_of Y) ?F G.law_plain
  case F =>
    intro w mg fa h KX G0 XX hmg
    have q_MOST_THING : ∃ t, mg "MOST_THING" = some (.int 1000000000 t) := by
      obtain ⟨v, a, b⟩ := XX.2.val (PySem.Str.ofString "MOST_THING", WData.int 1000000000) (by decide +kernel)
      cases b
      exact ⟨_, a⟩
    refine' G.all_mk KX G0 hmg ?a0 ?l0 ?c0 ?k0 ?a1 ?l1 ?c1 ?k1 ?a2 ?l2 ?c2 ?k2 ?a3 ?l3 ?c3 ?k3 ?a4 ?l4 ?c4 ?k4 ?a5 ?l5 ?c5 ?k5 ?a6 ?l6 ?c6 ?k6 ?a7 ?l7 ?c7 ?k7 ?a8 ?l8 ?c8 ?k8 ?z_abs ?z_all ?z_bool ?z_int ?z_isinstance ?z_len ?z_max ?z_min ?z_range ?z_repr ?z_str ?z_sum ?q_LETTERS ?q_MOST_LETTERS q_MOST_THING
    (case a0 => k_is)
    (case l0 => k_is)
    (case c0 => k_is)
    (case k0 => k_is)
    (case a1 => k_is)
    (case l1 => k_is)
    (case c1 => k_is)
    (case k1 => k_is)
    (case a2 => k_is)
    (case l2 => k_is)
    (case c2 => k_is)
    (case k2 => k_is)
    (case a3 => k_is)
    (case l3 => k_is)
    (case c3 => k_is)
    (case k3 => k_is)
    (case a4 => k_is)
    (case l4 => k_is)
    (case c4 => k_is)
    (case k4 => k_is)
    (case a5 => k_is)
    (case l5 => k_is)
    (case c5 => k_is)
    (case k5 => k_is)
    (case a6 => k_is)
    (case l6 => k_is)
    (case c6 => k_is)
    (case k6 => k_is)
    (case a7 => k_is)
    (case l7 => k_is)
    (case c7 => k_is)
    (case k7 => k_is)
    (case a8 => k_is)
    (case l8 => k_is)
    (case c8 => k_is)
    (case k8 => k_is)
    (case z_abs => k_is)
    (case z_all => k_is)
    (case z_bool => k_is)
    (case z_int => k_is)
    (case z_isinstance => k_is)
    (case z_len => k_is)
    (case z_max => k_is)
    (case z_min => k_is)
    (case z_range => k_is)
    (case z_repr => k_is)
    (case z_str => k_is)
    (case z_sum => k_is)
    (case q_LETTERS => k_is)
    (case q_MOST_LETTERS => k_is)
