import PyProof.Rows.All
import Wide.All
import OpenK.AllK
import Wide.FinOn
import HandS.ForMost
import HandS.IsInst
import HandS.CallSlots
import HandS.WordsExc
import HandS.NoneIn
import HandS.TupAny
import HandS.Wide
import HandS.Style
import HandS.Deep
import HandS.RaiseMore
import HandS.StrMore
import HandS.TryMany
import HandS.ExcField
import HandS.ExcInit
import HandS.Ends
import PyProof.ReprRoads
import KE.KExcIs
import KE.KIsAll
import HandS.ExcIs
import HandS.ClsMeth
import HandS.More
import PyProof.InstNe
import HandS.MakeKwOnly
import HandS.Property
import HandS.Star
import HandS.OwnEq
import PySem.Challenge.RW_addednames_k51_several_made
set_option Elab.async false
set_option maxRecDepth 100000
set_option autoImplicit false
/-! Plain data, what stands for it on the abstract heap, and how a piece of code is read as a plain function. -/
namespace AN
open PySem L2

/-- plain data -/
inductive D where
  | non
  | bl (b : Bool)
  | int (i : Int)
  | str (s : Str)
  | lst (xs : List D)
  | tup (xs : List D)
  | dic (kvs : List (Key × D))
  | obj (c : String) (fs : List (Str × D))
  deriving Inhabited

/-- the content of an object that one name alone holds -/
inductive O where
  | lst (xs : List D)
  | dic (kvs : List (Key × D))
  | obj (c : String) (fs : List (Str × D))
  deriving Inhabited
def O.toD : O → D
  | .lst xs => .lst xs
  | .dic kvs => .dic kvs
  | .obj c fs => .obj c fs

/-- what a name holds: nothing known; data that never changes; an object that this name alone holds (pinned: a parameter's) -/
inductive Slot where
  | no
  | fz (d : D)
  | ow (pin : Bool) (o : O)
  deriving Inhabited
abbrev Env := List Slot
/-- an operand: data, or the object of a name -/
inductive Opd where
  | d (d : D)
  | sl (i : Nat)
  deriving Inhabited

inductive R (α : Type) where
  | ok (a : α) (e : Env)
  | exc (c : String) (d : D) (e : Env)
  | bad
abbrev M (α : Type) := Env → R α
def M.bind {α β : Type} (m : M α) (k : α → M β) : M β := fun e => match m e with
  | .ok a e' => k a e'
  | .exc c d e' => .exc c d e'
  | .bad => .bad
def M.pure {α : Type} (a : α) : M α := fun e => .ok a e

/-- the written part, the own classes and the own errors by name -/
structure Bx where
  K : PySem.W.Frag
  cls : String → Option Addr
  exc : String → Option (Addr × Str)

def nil : Hp := fun _ => none
def LAt (B : Bx) (F : Hp) (p : Addr) (vs : List V) : Prop := F p = some (.lst vs) ∨ SqL B.K nil p vs
/-- a text that may be: not too long, its signs code points -/
def okS (s : Str) : Prop := s.length ≤ sizeLine ∧ PyData.strOk s = true
def TAt (B : Bx) (F : Hp) (p : Addr) (vs : List V) : Prop := F p = some (.tup vs) ∨ SqT B.K nil p vs

mutual
def Rep (B : Bx) (F : Hp) : D → V → Prop
  | .non, v => v = .non
  | .bl b, v => v = .bl b
  | .int i, v => v = .int i
  | .str s, v => v = .str s ∧ okS s
  | .lst xs, v => ∃ p vs, v = .ref p ∧ LAt B F p vs ∧ xs.length ≤ sizeLine ∧ RepL B F xs vs
  | .tup xs, v => ∃ p vs, v = .ref p ∧ TAt B F p vs ∧ xs.length ≤ sizeLine ∧ RepL B F xs vs
  | .dic kvs, v => ∃ p ks, v = .ref p ∧ F p = some (.dK ks) ∧ kvs.length ≤ sizeLine ∧ RepK B F kvs ks
  | .obj c fs, v => ∃ p C dx gs, v = .ref p ∧ B.cls c = some C ∧ F p = some (.ins C dx gs) ∧ RepF B F fs gs
def RepL (B : Bx) (F : Hp) : List D → List V → Prop
  | [], vs => vs = []
  | d :: ds, vs => ∃ v r, vs = v :: r ∧ Rep B F d v ∧ RepL B F ds r
def RepK (B : Bx) (F : Hp) : List (Key × D) → List (Key × V) → Prop
  | [], vs => vs = []
  | (k, d) :: ds, vs => ∃ v r, vs = (k, v) :: r ∧ Rep B F d v ∧ RepK B F ds r
def RepF (B : Bx) (F : Hp) : List (Str × D) → List (Str × V) → Prop
  | [], vs => vs = []
  | (k, d) :: ds, vs => ∃ v r, vs = (k, v) :: r ∧ Rep B F d v ∧ RepF B F ds r
end

def Le (F F' : Hp) : Prop := ∀ b u, F b = some u → F' b = some u
theorem Le.refl (F : Hp) : Le F F := fun _ _ h => h
theorem Le.trans {F F1 F2 : Hp} (a : Le F F1) (b : Le F1 F2) : Le F F2 := fun p u h => b p u (a p u h)
theorem Le.upd {F : Hp} {p : Addr} {o : HO} (h : F p = none) : Le F (upd F p o) := fun b u e => by
  rw [upd_ne (ne_of_none e h)]; exact e
theorem LAt.mono {B : Bx} {F F' : Hp} {p : Addr} {vs : List V} (l : Le F F') (h : LAt B F p vs) : LAt B F' p vs := h.imp (l _ _) id
theorem TAt.mono {B : Bx} {F F' : Hp} {p : Addr} {vs : List V} (l : Le F F') (h : TAt B F p vs) : TAt B F' p vs := by
  rcases h with h | h
  · exact .inl (l _ _ h)
  · exact .inr h

mutual
theorem Rep.mono {B : Bx} {F F' : Hp} (l : Le F F') : ∀ (d : D) (v : V), Rep B F d v → Rep B F' d v
  | .non, _, h => by simpa [Rep] using h
  | .bl _, _, h => by simpa [Rep] using h
  | .int _, _, h => by simpa [Rep] using h
  | .str _, _, h => by simpa [Rep] using h
  | .lst xs, v, h => by
    obtain ⟨p, vs, e, a, z, r⟩ := h
    exact ⟨p, vs, e, a.mono l, z, RepL.mono l xs vs r⟩
  | .tup xs, v, h => by
    obtain ⟨p, vs, e, a, z, r⟩ := h
    exact ⟨p, vs, e, a.mono l, z, RepL.mono l xs vs r⟩
  | .dic kvs, v, h => by
    obtain ⟨p, vs, e, a, z, r⟩ := h
    exact ⟨p, vs, e, l _ _ a, z, RepK.mono l kvs vs r⟩
  | .obj c fs, v, h => by
    obtain ⟨p, C, dx, gs, e, hc, a, r⟩ := h
    exact ⟨p, C, dx, gs, e, hc, l _ _ a, RepF.mono l fs gs r⟩
theorem RepL.mono {B : Bx} {F F' : Hp} (l : Le F F') : ∀ (ds : List D) (vs : List V), RepL B F ds vs → RepL B F' ds vs
  | [], _, h => h
  | d :: ds, vs, h => by
    obtain ⟨v, r, e, h1, h2⟩ := h
    exact ⟨v, r, e, Rep.mono l d v h1, RepL.mono l ds r h2⟩
theorem RepK.mono {B : Bx} {F F' : Hp} (l : Le F F') : ∀ (ds : List (Key × D)) (vs : List (Key × V)), RepK B F ds vs → RepK B F' ds vs
  | [], _, h => h
  | (k, d) :: ds, vs, h => by
    obtain ⟨v, r, e, h1, h2⟩ := h
    exact ⟨v, r, e, Rep.mono l d v h1, RepK.mono l ds r h2⟩
theorem RepF.mono {B : Bx} {F F' : Hp} (l : Le F F') : ∀ (ds : List (Str × D)) (vs : List (Str × V)), RepF B F ds vs → RepF B F' ds vs
  | [], _, h => h
  | (k, d) :: ds, vs, h => by
    obtain ⟨v, r, e, h1, h2⟩ := h
    exact ⟨v, r, e, Rep.mono l d v h1, RepF.mono l ds r h2⟩
end
theorem RepL.length {B : Bx} {F : Hp} : ∀ {ds : List D} {vs : List V}, RepL B F ds vs → vs.length = ds.length
  | [], _, h => by rw [show _ = [] from h]; rfl
  | d :: ds, vs, h => by
    obtain ⟨v, r, e, _, h2⟩ := h
    rw [e, List.length_cons, List.length_cons, RepL.length h2]
theorem RepL.get {B : Bx} {F : Hp} : ∀ {ds : List D} {vs : List V} {i : Nat} {d : D}, RepL B F ds vs → ds[i]? = some d → ∃ v, vs[i]? = some v ∧ Rep B F d v
  | [], _, _, _, _, e => by simp at e
  | x :: ds, vs, i, d, h, e => by
    obtain ⟨v, r, rfl, h1, h2⟩ := h
    cases i with
    | zero =>
      simp only [List.getElem?_cons_zero, Option.some.injEq] at e
      subst e
      exact ⟨v, rfl, h1⟩
    | succ i =>
      simp only [List.getElem?_cons_succ] at e
      obtain ⟨u, a, b⟩ := RepL.get h2 e
      exact ⟨u, by simpa using a, b⟩
theorem RepL.got {B : Bx} {F : Hp} : ∀ {ds : List D} {vs : List V} {i : Nat} {v : V}, RepL B F ds vs → vs[i]? = some v → ∃ d, ds[i]? = some d ∧ Rep B F d v
  | [], _, _, _, h, e => by rw [show _ = [] from h] at e; simp at e
  | x :: ds, vs, i, d, h, e => by
    obtain ⟨v, r, rfl, h1, h2⟩ := h
    cases i with
    | zero =>
      simp only [List.getElem?_cons_zero, Option.some.injEq] at e
      subst e
      exact ⟨x, rfl, h1⟩
    | succ i =>
      simp only [List.getElem?_cons_succ] at e
      obtain ⟨u, a, b⟩ := RepL.got h2 e
      exact ⟨u, by simpa using a, b⟩
theorem RepL.append {B : Bx} {F : Hp} : ∀ {ds es : List D} {vs us : List V}, RepL B F ds vs → RepL B F es us → RepL B F (ds ++ es) (vs ++ us)
  | [], _, vs, _, h, k => by rw [show vs = [] from h]; exact k
  | d :: ds, _, vs, _, h, k => by
    obtain ⟨v, r, rfl, h1, h2⟩ := h
    exact ⟨v, _, rfl, h1, RepL.append h2 k⟩
theorem RepL.one {B : Bx} {F : Hp} {d : D} {v : V} (h : Rep B F d v) : RepL B F [d] [v] := ⟨v, [], rfl, h, rfl⟩
theorem RepL.snoc {B : Bx} {F : Hp} {ds : List D} {vs : List V} {d : D} {v : V} (h : RepL B F ds vs) (k : Rep B F d v) : RepL B F (ds ++ [d]) (vs ++ [v]) := h.append (.one k)
theorem RepL.take {B : Bx} {F : Hp} : ∀ {ds : List D} {vs : List V} (n : Nat), RepL B F ds vs → RepL B F (ds.take n) (vs.take n)
  | ds, vs, 0, h => by simp [RepL]
  | [], vs, n + 1, h => by rw [show vs = [] from h]; rfl
  | d :: ds, vs, n + 1, h => by
    obtain ⟨v, r, rfl, h1, h2⟩ := h
    exact ⟨v, _, rfl, h1, RepL.take n h2⟩
theorem RepL.drop {B : Bx} {F : Hp} : ∀ {ds : List D} {vs : List V} (n : Nat), RepL B F ds vs → RepL B F (ds.drop n) (vs.drop n)
  | ds, vs, 0, h => by simpa using h
  | [], vs, n + 1, h => by rw [show vs = [] from h]; rfl
  | d :: ds, vs, n + 1, h => by
    obtain ⟨v, r, rfl, h1, h2⟩ := h
    simpa using RepL.drop n h2
theorem RepL.set {B : Bx} {F : Hp} {d : D} {v : V} (k : Rep B F d v) : ∀ {ds : List D} {vs : List V} (n : Nat), RepL B F ds vs → RepL B F (ds.set n d) (vs.set n v)
  | [], vs, n, h => by rw [show vs = [] from h]; rfl
  | x :: ds, vs, 0, h => by
    obtain ⟨u, r, rfl, h1, h2⟩ := h
    exact ⟨v, r, rfl, k, h2⟩
  | x :: ds, vs, n + 1, h => by
    obtain ⟨u, r, rfl, h1, h2⟩ := h
    exact ⟨u, _, rfl, h1, RepL.set k n h2⟩

/-! ### the state -/
def frzable : HO → Bool
  | .lst _ => true
  | .dK _ => true
  | .dT _ => true
  | _ => false
/-- the data's part F stands in H (some of it locked) -/
def Holds (F H : Hp) : Prop := ∀ b u, F b = some u → H b = some u ∨ (frzable u = true ∧ ∃ o, H b = some (.frz o u))
theorem Holds.none {F H : Hp} (h : Holds F H) {p : Addr} (e : H p = none) : F p = none := by
  cases q : F p with
  | none => rfl
  | some u =>
    rcases h p u q with z | ⟨_, o, z⟩ <;> rw [z] at e <;> cases e
theorem Holds.rd {F H : Hp} (h : Holds F H) {p : Addr} {u : HO} (e : F p = some u) : Rd H p u := by
  rcases h p u e with z | ⟨_, o, z⟩
  · exact .inl z
  · exact .inr ⟨o, z⟩
theorem Holds.at_ {F H : Hp} (h : Holds F H) {p : Addr} {u : HO} (e : F p = some u) (hf : frzable u = false) : H p = some u := by
  rcases h p u e with z | ⟨z, _⟩
  · exact z
  · rw [hf] at z; cases z
theorem nil_same (H : Hp) : Same nil H := fun _ _ h => by cases h
theorem sqT_nil {K : PySem.W.Frag} {H : Hp} {a : Addr} {xs : List V} (h : SqT K nil a xs) : SqT K H a xs := by
  rcases h with (h | ⟨o, h⟩) | h
  · cases h
  · cases h
  · exact .inr h
theorem LAt.sq {B : Bx} {F H : Hp} {p : Addr} {vs : List V} (hh : Holds F H) (h : LAt B F p vs) : SqL B.K H p vs := h.elim (fun h => .inl (hh.rd h)) fun h => (nil_same H).seq h
theorem TAt.sq {B : Bx} {F H : Hp} {p : Addr} {vs : List V} (hh : Holds F H) (h : TAt B F p vs) : SqT B.K H p vs := by
  rcases h with h | h
  · exact .inl (hh.rd h)
  · exact sqT_nil h

def OAt (B : Bx) (F H : Hp) (p : Addr) : O → Prop
  | .lst xs => xs.length ≤ sizeLine ∧ ∃ vs, H p = some (.lst vs) ∧ RepL B F xs vs
  | .dic kvs => kvs.length ≤ sizeLine ∧ ∃ ks, H p = some (.dK ks) ∧ RepK B F kvs ks
  | .obj c fs => ∃ C dx gs, B.cls c = some C ∧ H p = some (.ins C dx gs) ∧ RepF B F fs gs
theorem OAt.ex {B : Bx} {F H : Hp} {p : Addr} {o : O} (h : OAt B F H p o) : ∃ u, H p = some u := by
  cases o with
  | lst xs => obtain ⟨_, vs, e, _⟩ := h; exact ⟨_, e⟩
  | dic xs => obtain ⟨_, vs, e, _⟩ := h; exact ⟨_, e⟩
  | obj c fs => obtain ⟨C, dx, gs, _, e, _⟩ := h; exact ⟨_, e⟩
theorem OAt.mono {B : Bx} {F F' H H' : Hp} {p : Addr} {o : O} (l : Le F F') (k : ∀ u, H p = some u → H' p = some u) (h : OAt B F H p o) : OAt B F' H' p o := by
  cases o with
  | lst xs => obtain ⟨z, vs, e, r⟩ := h; exact ⟨z, vs, k _ e, r.mono l⟩
  | dic xs => obtain ⟨z, vs, e, r⟩ := h; exact ⟨z, vs, k _ e, r.mono l⟩
  | obj c fs => obtain ⟨C, dx, gs, hc, e, r⟩ := h; exact ⟨C, dx, gs, hc, k _ e, r.mono l⟩

structure Sim (B : Bx) (F : Hp) (env : Env) (σ : St) (H : Hp) : Prop where
  hold : Holds F H
  len : env.length = σ.length
  fz : ∀ (i : Nat) (d : D), env[i]? = some (.fz d) → ∃ v, σ[i]? = some (some v) ∧ Rep B F d v
  ow : ∀ (i : Nat) (k : Bool) (o : O), env[i]? = some (.ow k o) → ∃ p, σ[i]? = some (some (.ref p)) ∧ F p = none ∧ OAt B F H p o
  sep : ∀ (i j : Nat) (k : Bool) (o : O) (k' : Bool) (o' : O) (p : Addr), env[i]? = some (.ow k o) → env[j]? = some (.ow k' o') → σ[i]? = some (some (.ref p)) → σ[j]? = some (some (.ref p)) → i = j
/-- held by some name alone; by one that is pinned or not -/
def Own (env : Env) (σ : St) (b : Addr) : Prop := ∃ (i : Nat) (k : Bool) (o : O), env[i]? = some (.ow k o) ∧ σ[i]? = some (some (.ref b))
def OwnU (env : Env) (σ : St) (b : Addr) : Prop := ∃ (i : Nat) (o : O), env[i]? = some (.ow false o) ∧ σ[i]? = some (some (.ref b))
theorem OwnU.own {env : Env} {σ : St} {b : Addr} (h : OwnU env σ b) : Own env σ b := let ⟨i, o, a, c⟩ := h; ⟨i, false, o, a, c⟩
theorem Own.ex {B : Bx} {F H : Hp} {env : Env} {σ : St} {b : Addr} (S : Sim B F env σ H) (h : Own env σ b) : F b = none ∧ ∃ u, H b = some u := by
  obtain ⟨i, k, o, e, z⟩ := h
  obtain ⟨p, e1, e2, e3⟩ := S.ow i k o e
  rw [z] at e1
  cases e1
  exact ⟨e2, e3.ex⟩

/-- what a name alone holds may become data; a pinned one stays -/
structure EnvLe (env env' : Env) : Prop where
  dn : ∀ (i : Nat) (k : Bool) (o : O), env'[i]? = some (.ow k o) → ∃ o', env[i]? = some (.ow k o')
  up : ∀ (i : Nat) (o : O), env[i]? = some (.ow true o) → ∃ o', env'[i]? = some (.ow true o')
theorem EnvLe.refl (env : Env) : EnvLe env env := ⟨fun _ _ o h => ⟨o, h⟩, fun _ o h => ⟨o, h⟩⟩
theorem EnvLe.trans {e e1 e2 : Env} (a : EnvLe e e1) (b : EnvLe e1 e2) : EnvLe e e2 :=
  ⟨fun i k o h => let ⟨o', h'⟩ := b.dn i k o h; a.dn i k o' h', fun i o h => let ⟨o', h'⟩ := a.up i o h; b.up i o' h'⟩
theorem EnvLe.own {e e1 : Env} (a : EnvLe e e1) {σ : St} {b : Addr} (h : Own e1 σ b) : Own e σ b := by
  obtain ⟨i, k, o, h1, h2⟩ := h
  obtain ⟨o', h'⟩ := a.dn i k o h1
  exact ⟨i, k, o', h', h2⟩
/-- from F, H to F', H'; own: what may change -/
structure Step (own : Addr → Prop) (F H F' H' : Hp) : Prop where
  le : Le F F'
  keep : ∀ b o, H b = some o → ¬ own b → H' b = some o
  new : ∀ b u, F' b = some u → F b = some u ∨ H b = none ∨ own b
  stay : ∀ b o, H b = some o → ∃ o', H' b = some o'
theorem Step.refl (own : Addr → Prop) (F H : Hp) : Step own F H F H := ⟨Le.refl F, fun _ _ h _ => h, fun _ _ h => .inl h, fun _ o h => ⟨o, h⟩⟩
theorem Step.back {own : Addr → Prop} {F H F' H' : Hp} (a : Step own F H F' H') {b : Addr} (h : H' b = none) : H b = none := by
  cases q : H b with
  | none => rfl
  | some o =>
    obtain ⟨o', e⟩ := a.stay b o q
    rw [e] at h; cases h
theorem Step.trans {own own' : Addr → Prop} {F H F1 H1 F2 H2 : Hp} (a : Step own F H F1 H1) (b : Step own' F1 H1 F2 H2) (ho : ∀ b, own' b → own b ∨ H b = none) : Step own F H F2 H2 where
  le := a.le.trans b.le
  keep := fun c o e n => b.keep c o (a.keep c o e n) fun z => by
    rcases ho c z with z | z
    · exact n z
    · rw [e] at z; cases z
  new := fun c u e => by
    rcases b.new c u e with z | z | z
    · exact a.new c u z
    · exact .inr (.inl (a.back z))
    · rcases ho c z with z | z
      · exact .inr (.inr z)
      · exact .inr (.inl z)
  stay := fun c o e => let ⟨o', e'⟩ := a.stay c o e; b.stay c o' e'
theorem Step.imp {own own' : Addr → Prop} {F H F' H' : Hp} (a : Step own F H F' H') (h : ∀ b, own b → own' b) : Step own' F H F' H' :=
  ⟨a.le, fun b o e n => a.keep b o e fun z => n (h b z), fun b u e => (a.new b u e).imp id (Or.imp id (h b)), a.stay⟩

def OpdRel (B : Bx) (F : Hp) (σ : St) (v : V) : Opd → Prop
  | .d d => Rep B F d v
  | .sl i => σ[i]? = some (some v)
theorem OpdRel.mono {B : Bx} {F F' : Hp} {σ : St} {v : V} {r : Opd} (l : Le F F') (h : OpdRel B F σ v r) : OpdRel B F' σ v r := by
  cases r with
  | d d => exact Rep.mono l d v h
  | sl i => exact h

/-- what is wanted of an error: its class, its one field -/
def Wx (B : Bx) (W : WX) (σ : St) (own : Addr → Prop) (F H : Hp) (c : String) (d : D) (S : Hp → Hp → Prop) : Prop :=
  ∃ C fld, B.exc c = some (C, fld) ∧ ∀ F' H' dx v, Step own F H F' H' → S F' H' → H' dx = some (.xd [(fld, v)]) → F' dx = none → H dx = none → Rep B F' d v → W (.ref C) (some dx) σ H'

def Post {α : Type} (B : Bx) (W : WX) (F : Hp) (env : Env) (σ : St) (H : Hp) (k : α → Env → Hp → Hp → Prop) : R α → Prop
  | .ok a e' => ∀ F' H', Step (Own env σ) F H F' H' → Sim B F' e' σ H' → EnvLe env e' → k a e' F' H'
  | .exc c d e' => Wx B W σ (Own env σ) F H c d fun F' H' => Sim B F' e' σ H' ∧ EnvLe env e'
  | .bad => False
theorem Post.mono {α : Type} {B : Bx} {W : WX} {F : Hp} {env : Env} {σ : St} {H : Hp} {k k' : α → Env → Hp → Hp → Prop} {r : R α} (h : Post B W F env σ H k r)
    (i : ∀ a e' F' H', Step (Own env σ) F H F' H' → Sim B F' e' σ H' → EnvLe env e' → k a e' F' H' → k' a e' F' H') : Post B W F env σ H k' r := by
  cases r with
  | ok a e' => exact fun F' H' s m o => i a e' F' H' s m o (h F' H' s m o)
  | exc c d e' => exact h
  | bad => exact h
theorem Post.bind {α β : Type} {B : Bx} {W : WX} {F : Hp} {env : Env} {σ : St} {H : Hp} {k : β → Env → Hp → Hp → Prop} {m : M α} {g : α → M β} (S : Sim B F env σ H) (h : Post B W F env σ H k (M.bind m g env)) :
    Post B W F env σ H (fun a e1 F1 H1 => Post B W F1 e1 σ H1 k (g a e1)) (m env) := by
  unfold M.bind at h
  cases e : m env with
  | bad => rw [e] at h; exact h
  | exc c d e' => rw [e] at h; exact h
  | ok a e1 =>
    rw [e] at h
    intro F1 H1 st sim ole
    have tr : ∀ {F2 H2 : Hp}, Step (Own e1 σ) F1 H1 F2 H2 → Step (Own env σ) F H F2 H2 := fun s2 => st.trans s2 fun b z => .inl (ole.own z)
    have h' : Post B W F env σ H k (g a e1) := h
    cases q : g a e1 with
    | bad => rw [q] at h'; exact h'
    | ok b e2 =>
      rw [q] at h'
      exact fun F2 H2 s2 m2 o2 => h' F2 H2 (tr s2) m2 (ole.trans o2)
    | exc c d e2 =>
      rw [q] at h'
      obtain ⟨C, fld, hb, h'⟩ := h'
      refine ⟨C, fld, hb, fun F2 H2 dx v s2 ⟨m2, o2⟩ hd hf h0 r => h' F2 H2 dx v (tr s2) ⟨m2, ole.trans o2⟩ hd hf (st.back h0) r⟩
end AN

set_option Elab.async false
set_option maxRecDepth 100000
set_option autoImplicit false
set_option linter.unusedVariables false
namespace AN
open PySem L2

/-! ### judgements -/
def tE (B : Bx) (W : WX) (m : M Opd) : TE := fun σ H Q => ∃ F env, Sim B F env σ H ∧ Post B W F env σ H (fun r _ F' H' => ∀ v, OpdRel B F' σ v r → Q v H') (m env)
/-- a new object that nobody else holds -/
def tO (B : Bx) (W : WX) (m : M O) : TE := fun σ H Q => ∃ F env, Sim B F env σ H ∧ Post B W F env σ H (fun o _ F' H' => ∀ p, H p = none → F' p = none → OAt B F' H' p o → Q (.ref p) H') (m env)
def tT (B : Bx) (W : WX) (m : M Bool) : TT := fun σ H Q => ∃ F env, Sim B F env σ H ∧ Post B W F env σ H (fun b _ _ H' => Q b H') (m env)
inductive OpdsRel (B : Bx) (F : Hp) (σ : St) : List V → List Opd → Prop
  | nil : OpdsRel B F σ [] []
  | cons {v : V} {vs : List V} {r : Opd} {rs : List Opd} (h : OpdRel B F σ v r) (t : OpdsRel B F σ vs rs) : OpdsRel B F σ (v :: vs) (r :: rs)
def tA (B : Bx) (W : WX) (m : M (List Opd)) : TA := fun σ H Q => ∃ F env, Sim B F env σ H ∧ Post B W F env σ H (fun rs _ F' H' => ∀ vs, OpdsRel B F' σ vs rs → Q vs H') (m env)
abbrev DE (B : Bx) (X : Cx) (W : WX) (e : Expr) (m : M Opd) : Prop := PE X e (tE B W m)
abbrev DO (B : Bx) (X : Cx) (W : WX) (e : Expr) (m : M O) : Prop := PE X e (tO B W m)
abbrev DT (B : Bx) (X : Cx) (W : WX) (e : Expr) (m : M Bool) : Prop := PT X e (tT B W m)
abbrev DW (B : Bx) (X : Cx) (W : WX) (e : Expr) (m : M Bool) : Prop := PW X e (tT B W m)
abbrev DA (B : Bx) (X : Cx) (W : WX) (es : List Expr) (m : M (List Opd)) : Prop := PA X es (tA B W m)
theorem PE.imp {X : Cx} {e : Expr} {t t' : TE} (h : PE X e t) (i : ∀ σ H Q, t' σ H Q → t σ H Q) : PE X e t' := ⟨fun pins s σ H Q I q => h.run pins s σ H Q I (i σ H Q q)⟩
theorem PT.imp {X : Cx} {e : Expr} {t t' : TT} (h : PT X e t) (i : ∀ σ H Q, t' σ H Q → t σ H Q) : PT X e t' := ⟨fun pins s σ H Q I q => h.run pins s σ H Q I (i σ H Q q)⟩
theorem PW.imp {X : Cx} {e : Expr} {t t' : TT} (h : PW X e t) (i : ∀ σ H Q, t' σ H Q → t σ H Q) : PW X e t' := ⟨fun wh pins s σ H Q I q => h.run wh pins s σ H Q I (i σ H Q q)⟩
theorem PA.imp {X : Cx} {es : List Expr} {t t' : TA} (h : PA X es t) (i : ∀ σ H Q, t' σ H Q → t σ H Q) : PA X es t' := ⟨fun p pins s σ H Q I q => h.run p pins s σ H Q I (i σ H Q q)⟩
theorem OpdsRel.mono {B : Bx} {F F' : Hp} {σ : St} {vs : List V} {rs : List Opd} (l : Le F F') (h : OpdsRel B F σ vs rs) : OpdsRel B F' σ vs rs := by
  induction h with
  | nil => exact .nil
  | cons h _ ih => exact .cons (h.mono l) ih

/-! ### what an operand shows -/
def view (env : Env) : Opd → Option D
  | .d d => some d
  | .sl i => match env[i]? with
    | some (.fz d) => some d
    | some (.ow _ o) => some o.toD
    | _ => none
def Seen (B : Bx) (F H : Hp) : D → V → Prop
  | .lst xs, v => ∃ p vs, v = .ref p ∧ SqL B.K H p vs ∧ xs.length ≤ sizeLine ∧ RepL B F xs vs
  | .dic kvs, v => ∃ p ks, v = .ref p ∧ Rd H p (.dK ks) ∧ kvs.length ≤ sizeLine ∧ RepK B F kvs ks
  | .obj c fs, v => ∃ p C dx gs, v = .ref p ∧ B.cls c = some C ∧ H p = some (.ins C dx gs) ∧ RepF B F fs gs
  | d, v => Rep B F d v
theorem Rep.seen {B : Bx} {F H : Hp} {d : D} {v : V} (hh : Holds F H) (h : Rep B F d v) : Seen B F H d v := by
  cases d with
  | lst xs => obtain ⟨p, vs, e, a, z, r⟩ := h; exact ⟨p, vs, e, a.sq hh, z, r⟩
  | tup xs => exact h
  | dic kvs => obtain ⟨p, vs, e, a, z, r⟩ := h; exact ⟨p, vs, e, hh.rd a, z, r⟩
  | obj c fs => obtain ⟨p, C, dx, gs, e, hc, a, r⟩ := h; exact ⟨p, C, dx, gs, e, hc, hh.at_ a rfl, r⟩
  | non => exact h
  | bl b => exact h
  | int i => exact h
  | str s => exact h
theorem OAt.seen {B : Bx} {F H : Hp} {p : Addr} {o : O} (h : OAt B F H p o) : Seen B F H o.toD (.ref p) := by
  cases o with
  | lst xs => obtain ⟨z, vs, e, r⟩ := h; exact ⟨p, vs, rfl, .inl (.inl e), z, r⟩
  | dic xs => obtain ⟨z, vs, e, r⟩ := h; exact ⟨p, vs, rfl, .inl e, z, r⟩
  | obj c fs => obtain ⟨C, dx, gs, hc, e, r⟩ := h; exact ⟨p, C, dx, gs, rfl, hc, e, r⟩
theorem Sim.view {B : Bx} {F H : Hp} {env : Env} {σ : St} {v : V} {r : Opd} {d : D} (S : Sim B F env σ H) (h : OpdRel B F σ v r) (e : view env r = some d) : Seen B F H d v := by
  cases r with
  | d x =>
    cases (show some x = some d from e)
    exact Rep.seen S.hold h
  | sl i =>
    have e : (match env[i]? with | some (.fz d) => some d | some (.ow _ o) => some o.toD | _ => none) = some d := e
    have h : σ[i]? = some (some v) := h
    cases q : env[i]? with
    | none => rw [q] at e; cases e
    | some s =>
      rw [q] at e
      cases s with
      | no => cases e
      | fz x =>
        cases e
        obtain ⟨u, h1, h2⟩ := S.fz i d q
        rw [h] at h1; cases h1
        exact Rep.seen S.hold h2
      | ow k o =>
        cases e
        obtain ⟨p, h1, _, h3⟩ := S.ow i k o q
        rw [h] at h1; cases h1
        exact h3.seen

/-! ### steps that leave every own object as it is -/
abbrev Step0 (F H F' H' : Hp) : Prop := Step (fun _ => False) F H F' H'
theorem Step0.any {own : Addr → Prop} {F H F' H' : Hp} (s : Step0 F H F' H') : Step own F H F' H' := s.imp fun _ z => z.elim
theorem Sim.step0 {B : Bx} {F H F' H' : Hp} {env : Env} {σ : St} (S : Sim B F env σ H) (s : Step0 F H F' H') (hh : Holds F' H') : Sim B F' env σ H' where
  hold := hh
  len := S.len
  fz := fun i d e => let ⟨v, a, b⟩ := S.fz i d e; ⟨v, a, Rep.mono s.le d v b⟩
  ow := fun i k o e => by
    obtain ⟨p, a, b, c⟩ := S.ow i k o e
    obtain ⟨u, hu⟩ := c.ex
    refine ⟨p, a, ?_, c.mono s.le fun u e => s.keep p u e id⟩
    cases q : F' p with
    | none => rfl
    | some w =>
      rcases s.new p w q with z | z | z
      · rw [b] at z; cases z
      · rw [hu] at z; cases z
      · exact z.elim
  sep := S.sep
/-- a new object that is data from the start -/
theorem step0_new {F H : Hp} {p : Addr} {u : HO} (hh : Holds F H) (hp : H p = none) : Step0 F H (upd F p u) (upd H p u) ∧ Holds (upd F p u) (upd H p u) := by
  have hf := hh.none hp
  refine ⟨⟨Le.upd hf, fun b o e _ => by rw [upd_ne (ne_of_none e hp)]; exact e, fun b w e => ?_, fun b o e => ⟨o, by rw [upd_ne (ne_of_none e hp)]; exact e⟩⟩, fun b w e => ?_⟩
  · by_cases h : b = p
    · subst h; exact .inr (.inl hp)
    · rw [upd_ne h] at e; exact .inl e
  · by_cases h : b = p
    · subst h; rw [upd_same] at e; cases e; exact .inl upd_same
    · rw [upd_ne h] at e; rw [upd_ne h]; exact hh b w e
/-- a new object that is not (yet) data -/
theorem step0_mk {F H : Hp} {p : Addr} {u : HO} (hh : Holds F H) (hp : H p = none) : Step0 F H F (upd H p u) ∧ Holds F (upd H p u) := by
  refine ⟨⟨Le.refl F, fun b o e _ => by rw [upd_ne (ne_of_none e hp)]; exact e, fun b w e => .inl e, fun b o e => ⟨o, by rw [upd_ne (ne_of_none e hp)]; exact e⟩⟩, fun b w e => ?_⟩
  have h : b ≠ p := fun z => by
    subst z
    rw [hh.none hp] at e; cases e
  rw [upd_ne h]; exact hh b w e

/-! ### an operation on values -/
def Prim1 (B : Bx) (g : D → Option D) (r : V → Hp → VK → Prop) : Prop := ∀ (F H : Hp) (a z : D) (x : V) (Q : VK), Holds F H → Seen B F H a x → g a = some z →
  (∀ v F' H', Step0 F H F' H' → Holds F' H' → Rep B F' z v → Q v H') → r x H Q
def Prim2 (B : Bx) (g : D → D → Option D) (r : R2) : Prop := ∀ (F H : Hp) (a b z : D) (x y : V) (Q : VK), Holds F H → Seen B F H a x → Seen B F H b y → g a b = some z →
  (∀ v F' H', Step0 F H F' H' → Holds F' H' → Rep B F' z v → Q v H') → r x y H Q
def PrimO2 (B : Bx) (g : D → D → Option O) (r : R2) : Prop := ∀ (F H : Hp) (a b : D) (o : O) (x y : V) (Q : VK), Holds F H → Seen B F H a x → Seen B F H b y → g a b = some o →
  (∀ p H', Step0 F H F H' → Holds F H' → H p = none → OAt B F H' p o → Q (.ref p) H') → r x y H Q
def PrimO1 (B : Bx) (g : D → Option O) (r : V → Hp → VK → Prop) : Prop := ∀ (F H : Hp) (a : D) (o : O) (x : V) (Q : VK), Holds F H → Seen B F H a x → g a = some o →
  (∀ p H', Step0 F H F H' → Holds F H' → H p = none → OAt B F H' p o → Q (.ref p) H') → r x H Q
def ap1 {α : Type} (g : D → Option α) (x : Opd) : M α := fun env => match view env x with
  | some a => match g a with
    | some z => .ok z env
    | none => .bad
  | none => .bad
def ap2 {α : Type} (g : D → D → Option α) (x y : Opd) : M α := fun env => match view env x, view env y with
  | some a, some b => match g a b with
    | some z => .ok z env
    | none => .bad
  | _, _ => .bad
def mD (m : M D) : M Opd := M.bind m fun d => M.pure (.d d)
def mB1 {α : Type} (g : D → Option α) (m : M Opd) : M α := M.bind m (ap1 g)
def mB2 {α : Type} (g : D → D → Option α) (m n : M Opd) : M α := M.bind m fun x => M.bind n (ap2 g x)

section
variable {B : Bx} {X : Cx} {W : WX} {F H : Hp} {env : Env} {σ : St} {Q : VK}
theorem Post.ap1 {α : Type} {g : D → Option α} {x : Opd} {k : α → Env → Hp → Hp → Prop} (h : Post B W F env σ H k (ap1 g x env)) : ∃ a z, view env x = some a ∧ g a = some z ∧ Post B W F env σ H k (.ok z env) := by
  unfold AN.ap1 at h
  cases e : view env x with
  | none => rw [e] at h; exact h.elim
  | some a =>
    rw [e] at h
    cases q : g a with
    | none => simp only [q] at h; exact h.elim
    | some z => simp only [q] at h; exact ⟨a, z, rfl, q, h⟩
theorem Post.ap2 {α : Type} {g : D → D → Option α} {x y : Opd} {k : α → Env → Hp → Hp → Prop} (h : Post B W F env σ H k (ap2 g x y env)) : ∃ a b z, view env x = some a ∧ view env y = some b ∧ g a b = some z ∧ Post B W F env σ H k (.ok z env) := by
  unfold AN.ap2 at h
  cases e : view env x with
  | none => rw [e] at h; exact h.elim
  | some a =>
    cases e' : view env y with
    | none => rw [e, e'] at h; exact h.elim
    | some b =>
      rw [e, e'] at h
      cases q : g a b with
      | none => simp only [q] at h; exact h.elim
      | some z => simp only [q] at h; exact ⟨a, b, z, rfl, rfl, q, h⟩
/-- two operands, then what is wanted of their values -/
theorem tE.two {ma mb : M Opd} {α : Type} {g : Opd → Opd → M α} {k : α → Env → Hp → Hp → Prop} {R : V → V → Hp → Prop} (S : Sim B F env σ H) (h : Post B W F env σ H k (M.bind ma (fun x => M.bind mb fun y => g x y) env))
    (i : ∀ x y e2 F2 H2 v w, Step (Own env σ) F H F2 H2 → Sim B F2 e2 σ H2 → EnvLe env e2 → OpdRel B F2 σ v x → OpdRel B F2 σ w y → Post B W F2 e2 σ H2 k (g x y e2) → R v w H2) :
    tE B W ma σ H fun x H1 => tE B W mb σ H1 fun y H2 => R x y H2 := by
  refine ⟨F, env, S, (Post.bind S h).mono fun x e1 F1 H1 s1 m1 o1 k1 v rv => ⟨F1, e1, m1, (Post.bind m1 k1).mono fun y e2 F2 H2 s2 m2 o2 k2 w rw => ?_⟩⟩
  exact i x y e2 F2 H2 v w (s1.trans s2 fun b z => .inl (o1.own z)) m2 (o1.trans o2) (rv.mono s2.le) rw k2
theorem tE.one {ma : M Opd} {α : Type} {g : Opd → M α} {k : α → Env → Hp → Hp → Prop} {R : V → Hp → Prop} (S : Sim B F env σ H) (h : Post B W F env σ H k (M.bind ma g env))
    (i : ∀ x e1 F1 H1 v, Step (Own env σ) F H F1 H1 → Sim B F1 e1 σ H1 → EnvLe env e1 → OpdRel B F1 σ v x → Post B W F1 e1 σ H1 k (g x e1) → R v H1) :
    tE B W ma σ H fun x H1 => R x H1 := by
  refine ⟨F, env, S, (Post.bind S h).mono fun x e1 F1 H1 s1 m1 o1 k1 v rv => i x e1 F1 H1 v s1 m1 o1 rv k1⟩

theorem op2 {g : D → D → Option D} {r : R2} {ma mb : M Opd} (hp : Prim2 B g r) (h : tE B W (mD (mB2 g ma mb)) σ H Q) : tOp r (tE B W ma) (tE B W mb) σ H Q := by
  obtain ⟨F, env, S, h⟩ := h
  refine tE.two (g := ap2 g) S (Post.bind S h) fun x y e2 F2 H2 v w s2 m2 o2 rv rw k2 => ?_
  obtain ⟨a, b, z, ea, eb, ez, k3⟩ := k2.ap2
  refine hp F2 H2 a b z v w Q m2.hold (m2.view rv ea) (m2.view rw eb) ez fun u F3 H3 s3 h3 rz => ?_
  have m3 := m2.step0 s3 h3
  exact k3 F3 H3 s3.any m3 (EnvLe.refl _) F3 H3 (Step.refl _ _ _) m3 (EnvLe.refl _) u rz
theorem opO2 {g : D → D → Option O} {r : R2} {ma mb : M Opd} (hp : PrimO2 B g r) (h : tO B W (mB2 g ma mb) σ H Q) : tOp r (tE B W ma) (tE B W mb) σ H Q := by
  obtain ⟨F, env, S, h⟩ := h
  refine tE.two (g := ap2 g) S h fun x y e2 F2 H2 v w s2 m2 o2 rv rw k2 => ?_
  obtain ⟨a, b, z, ea, eb, ez, k3⟩ := k2.ap2
  refine hp F2 H2 a b z v w Q m2.hold (m2.view rv ea) (m2.view rw eb) ez fun p H3 s3 h3 hn ho => ?_
  have m3 := m2.step0 s3 h3
  exact k3 F2 H3 s3.any m3 (EnvLe.refl _) p (s2.back hn) (m2.hold.none hn) ho
theorem op1 {g : D → Option D} {r : V → Hp → VK → Prop} {ma : M Opd} (hp : Prim1 B g r) (h : tE B W (mD (mB1 g ma)) σ H Q) : tE B W ma σ H fun x H1 => r x H1 Q := by
  obtain ⟨F, env, S, h⟩ := h
  refine tE.one (g := AN.ap1 g) S (Post.bind S h) fun x e2 F2 H2 v s2 m2 o2 rv k2 => ?_
  obtain ⟨a, z, ea, ez, k3⟩ := k2.ap1
  refine hp F2 H2 a z v Q m2.hold (m2.view rv ea) ez fun u F3 H3 s3 h3 rz => ?_
  have m3 := m2.step0 s3 h3
  exact k3 F3 H3 s3.any m3 (EnvLe.refl _) F3 H3 (Step.refl _ _ _) m3 (EnvLe.refl _) u rz
theorem opO1 {g : D → Option O} {r : V → Hp → VK → Prop} {ma : M Opd} (hp : PrimO1 B g r) (h : tO B W (mB1 g ma) σ H Q) : tE B W ma σ H fun x H1 => r x H1 Q := by
  obtain ⟨F, env, S, h⟩ := h
  refine tE.one (g := AN.ap1 g) S h fun x e2 F2 H2 v s2 m2 o2 rv k2 => ?_
  obtain ⟨a, z, ea, ez, k3⟩ := k2.ap1
  refine hp F2 H2 a z v Q m2.hold (m2.view rv ea) ez fun p H3 s3 h3 hn ho => ?_
  have m3 := m2.step0 s3 h3
  exact k3 F2 H3 s3.any m3 (EnvLe.refl _) p (s2.back hn) (m2.hold.none hn) ho

variable {a b c e : Expr} {ma mb mc : M Opd} {pos : Pos}
theorem de_bin {op : Operator} {g : D → D → Option D} {r : R2} (ho : OpR X (binaryOp op) r) (hp : Prim2 B g r) (ha : DE B X W a ma) (hb : DE B X W b mb) : DE B X W (.BinOp a op b pos) (mD (mB2 g ma mb)) :=
  PE.imp (pe_op ho ha hb) fun _ _ _ h => op2 hp h
theorem do_bin {op : Operator} {g : D → D → Option O} {r : R2} (ho : OpR X (binaryOp op) r) (hp : PrimO2 B g r) (ha : DE B X W a ma) (hb : DE B X W b mb) : DO B X W (.BinOp a op b pos) (mB2 g ma mb) :=
  PE.imp (pe_op ho ha hb) fun _ _ _ h => opO2 hp h
theorem de_un {op : UnaryOp} {g : D → Option D} {r : V → Hp → VK → Prop} (ho : UnR X (unaryOp op) r) (hp : Prim1 B g r) (ha : DE B X W a ma) : DE B X W (.UnaryOp op a pos) (mD (mB1 g ma)) :=
  PE.imp (pe_un ho ha) fun _ _ _ h => op1 hp h
theorem de_cmp {op : CmpOp} {g : D → D → Option D} {r : R2} (ho : OpR X (compareOp op) r) (hp : Prim2 B g r) (ha : DE B X W a ma) (hb : DE B X W b mb) (hm : behindInMarks op b = false) : DE B X W (.Compare a [op] [b] pos) (mD (mB2 g ma mb)) :=
  PE.imp (pe_cmpR ho ha hb hm) fun _ _ _ h => op2 hp h
theorem de_ix {g : D → D → Option D} {r : R2} (hr : IxR X r) (hp : Prim2 B g r) (ha : DE B X W a ma) (hb : DE B X W b mb) (hs : PlainIx b) : DE B X W (.Subscript a b pos) (mD (mB2 g ma mb)) :=
  PE.imp (pe_ix hr ha hb hs) fun _ _ _ h => op2 hp h

theorem Post.from {α : Type} {k : α → Env → Hp → Hp → Prop} {r : R α} {F1 H1 : Hp} (h : Post B W F env σ H k r) (st : Step (Own env σ) F H F1 H1) : Post B W F1 env σ H1 k r := by
  have tr : ∀ {F2 H2 : Hp}, Step (Own env σ) F1 H1 F2 H2 → Step (Own env σ) F H F2 H2 := fun s2 => st.trans s2 fun b z => .inl z
  cases r with
  | bad => exact h
  | ok a e => exact fun F2 H2 s2 m2 o2 => h F2 H2 (tr s2) m2 o2
  | exc c d e =>
    obtain ⟨C, fld, hb, h⟩ := h
    exact ⟨C, fld, hb, fun F2 H2 dx v s2 m2 hd hf h0 r => h F2 H2 dx v (tr s2) m2 hd hf (st.back h0) r⟩
/-! ### constants, names -/
def mC (d : D) : M Opd := M.pure (.d d)
theorem tE_c {d : D} {v : V} (hv : ∀ F : Hp, Rep B F d v) (h : tE B W (mC d) σ H Q) : Q v H := by
  obtain ⟨F, env, S, h⟩ := h
  exact h F H (Step.refl _ _ _) S (EnvLe.refl _) v (hv F)
theorem de_int {i : Int} {j} : DE B X W (.Constant (.int i) j pos) (mC (.int i)) := PE.imp pe_int fun _ _ _ h => tE_c (d := .int i) (fun _ => rfl) h
theorem de_bl {b : Bool} {j} : DE B X W (.Constant (.bool b) j pos) (mC (.bl b)) := PE.imp pe_bl fun _ _ _ h => tE_c (d := .bl b) (fun _ => rfl) h
theorem de_non {j} : DE B X W (.Constant .none j pos) (mC .non) := PE.imp pe_non fun _ _ _ h => tE_c (d := .non) (fun _ => rfl) h
theorem de_str {x : Str} {j} (hl : okS x) : DE B X W (.Constant (.str x) j pos) (mC (.str x)) := PE.imp pe_str fun _ _ _ h => tE_c (d := .str x) (fun _ => ⟨rfl, hl⟩) h
def mV (i : Nat) : M Opd := fun env => match env[i]? with
  | some (.fz d) => .ok (.d d) env
  | some (.ow _ _) => .ok (.sl i) env
  | _ => .bad
theorem tE_v {i : Nat} (h : tE B W (mV i) σ H Q) : tVar i σ H Q := by
  obtain ⟨F, env, S, h⟩ := h
  unfold mV at h
  cases e : env[i]? with
  | none => rw [e] at h; exact h.elim
  | some s =>
    rw [e] at h
    cases s with
    | no => exact h.elim
    | fz d =>
      obtain ⟨v, h1, h2⟩ := S.fz i d e
      exact ⟨v, h1, h F H (Step.refl _ _ _) S (EnvLe.refl _) v h2⟩
    | ow k o =>
      obtain ⟨p, h1, _⟩ := S.ow i k o e
      exact ⟨.ref p, h1, h F H (Step.refl _ _ _) S (EnvLe.refl _) (.ref p) h1⟩
theorem dv (i : Nat) {x : Str} (hN : X.N[i]? = some x := by rfl) (hv : Vis X.env.scope x := by first | exact Or.inl rfl | exact Or.inr (Or.inl rfl) | exact Or.inr (Or.inr rfl)) (hd : (x == ("__debug__" : Str)) = false := by decide)
    (hcd : (x == ("__classdict__" : Str)) = false := by decide) : DE B X W (.Name x pos) (mV i) := PE.imp (pe_var hN hv hd hcd) fun _ _ _ h => tE_v h
/-- a constant of the module -/
theorem de_glob {x : Str} {v : V} {u : Value} {d : D} (hg : Gl X x) (hm : X.mg x = some u) (r : RelV v u) (hv : ∀ F : Hp, Rep B F d v) (hd : (x == ("__debug__" : Str)) = false := by decide) : DE B X W (.Name x pos) (mC d) :=
  PE.imp (pe_glob hg hm r hd) fun _ _ _ h => tE_c hv h

/-! ### tests -/
def truth : D → Option Bool
  | .non => some false
  | .bl b => some b
  | .int i => some (i != 0)
  | .str s => some ((s.length : Int) != 0)
  | .lst xs => some (!xs.isEmpty)
  | .tup xs => some (!xs.isEmpty)
  | _ => none
theorem RepL.isEmpty {ds : List D} {vs : List V} (h : RepL B F ds vs) : vs.isEmpty = ds.isEmpty := by
  cases ds with
  | nil => rw [show vs = [] from h]; rfl
  | cons d ds => obtain ⟨v, r, rfl, _⟩ := h; rfl
theorem Seen.tru {K : PySem.W.Frag} {d : D} {v : V} {k : Bool} (hK : K = B.K) (hh : Holds F H) (h : Seen B F H d v) (e : truth d = some k) : TruV K v H k := by
  subst hK
  cases d with
  | non => cases e; cases (show v = .non from h); exact rfl
  | bl b => cases e; cases (show v = .bl _ from h); exact rfl
  | int i => cases e; cases (show v = .int _ from h); exact rfl
  | str s => cases e; obtain ⟨rfl, hl⟩ := h; exact ⟨hl.1, rfl⟩
  | lst xs => cases e; obtain ⟨p, vs, rfl, a, z, r⟩ := h; exact .inl ⟨vs, a, by rw [r.isEmpty]⟩
  | tup xs => cases e; obtain ⟨p, vs, rfl, a, z, r⟩ := h; exact .inr (.inl ⟨vs, a.sq hh, by rw [r.isEmpty]⟩)
  | dic _ => cases e
  | obj _ _ => cases e
def mT (m : M Opd) : M Bool := mB1 truth m
theorem dt_val (hK : X.K = B.K) (ha : DE B X W a ma) (he : ∀ whole, isTrue a X.env whole = (do let v ← whole; standAt a.pos; holding [v] (truthy v)) := by intro _; rfl) : DT B X W a (mT ma) :=
  PT.imp (pt_truth ha he) fun σ H Q h => by
    obtain ⟨F, env, S, h⟩ := h
    refine tE.one (g := AN.ap1 truth) S h fun x e2 F2 H2 v s2 m2 o2 rv k2 => ?_
    obtain ⟨a, z, ea, ez, k3⟩ := k2.ap1
    exact ⟨z, (m2.view rv ea).tru hK m2.hold ez, k3 F2 H2 (Step.refl _ _ _) m2 (EnvLe.refl _)⟩
/-- a comparison as a test: its answer is a bool -/
def blOf : D → Option Bool
  | .bl b => some b
  | _ => none
def g2b (g : D → D → Option D) (a b : D) : Option Bool := (g a b).bind blOf
theorem dt_cmp {op : CmpOp} {g : D → D → Option D} {r : R2} (ho : OpR X (compareOp op) r) (hp : Prim2 B g r) (ha : DE B X W a ma) (hb : DE B X W b mb) (hm : behindInMarks op b = false) : DT B X W (.Compare a [op] [b] pos) (mB2 (g2b g) ma mb) :=
  PT.imp (pt_cmpR ho ha hb hm) fun σ H Q h => by
    obtain ⟨F, env, S, h⟩ := h
    refine tE.two (g := AN.ap2 (g2b g)) S h fun x y e2 F2 H2 v w s2 m2 o2 rv rw k2 => ?_
    obtain ⟨a, b, z, ea, eb, ez, k3⟩ := k2.ap2
    unfold g2b at ez
    obtain ⟨d, e1, e2⟩ := Option.bind_eq_some_iff.mp ez
    cases d with
    | bl k =>
      cases e2
      refine hp F2 H2 a b _ v w _ m2.hold (m2.view rv ea) (m2.view rw eb) e1 fun u F3 H3 s3 h3 rz => ?_
      exact ⟨z, rz, k3 F3 H3 s3.any (m2.step0 s3 h3) (EnvLe.refl _)⟩
    | _ => cases e2
def mAnd (m n : M Bool) : M Bool := M.bind m fun c => if c = true then n else M.pure false
def mOr (m n : M Bool) : M Bool := M.bind m fun c => if c = true then M.pure true else n
def mNot (m : M Bool) : M Bool := M.bind m fun c => M.pure (!c)
variable {ta tb : M Bool} {rest : List Expr}
theorem tT.bind {m : M Bool} {α : Type} {g : Bool → M α} {k : α → Env → Hp → Hp → Prop} {R : Bool → Hp → Prop} (S : Sim B F env σ H) (h : Post B W F env σ H k (M.bind m g env))
    (i : ∀ c e1 F1 H1, Step (Own env σ) F H F1 H1 → Sim B F1 e1 σ H1 → EnvLe env e1 → Post B W F1 e1 σ H1 k (g c e1) → R c H1) : tT B W m σ H R :=
  ⟨F, env, S, (Post.bind S h).mono fun c e1 F1 H1 s1 m1 o1 k1 => i c e1 F1 H1 s1 m1 o1 k1⟩
theorem Post.here {α : Type} {k : α → Env → Hp → Hp → Prop} {z : α} (S : Sim B F env σ H) (h : Post B W F env σ H k (.ok z env)) : k z env F H := h F H (Step.refl _ _ _) S (EnvLe.refl _)
theorem dw_and1 (ha : DT B X W a ta) : DW B X W (.BoolOp .And [a] pos) ta := pw_and1 ha
theorem dw_or1 (ha : DT B X W a ta) : DW B X W (.BoolOp .Or [a] pos) ta := pw_or1 ha
theorem dw_and (ha : DT B X W a ta) (hb : DW B X W (.BoolOp .And (b :: rest) pos) tb) : DW B X W (.BoolOp .And (a :: b :: rest) pos) (mAnd ta tb) :=
  PW.imp (pw_and ha hb) fun σ H Q h => by
    obtain ⟨F, env, S, h⟩ := h
    refine tT.bind S h fun c e1 F1 H1 s1 m1 o1 k1 => ?_
    cases c with
    | true => exact iteT ⟨F1, e1, m1, k1⟩
    | false => exact iteF (Post.here m1 k1)
theorem dw_or (ha : DT B X W a ta) (hb : DW B X W (.BoolOp .Or (b :: rest) pos) tb) : DW B X W (.BoolOp .Or (a :: b :: rest) pos) (mOr ta tb) :=
  PW.imp (pw_or ha hb) fun σ H Q h => by
    obtain ⟨F, env, S, h⟩ := h
    refine tT.bind S h fun c e1 F1 H1 s1 m1 o1 k1 => ?_
    cases c with
    | false => exact iteF ⟨F1, e1, m1, k1⟩
    | true => exact iteT (Post.here m1 k1)
theorem dt_w (h : DW B X W a ta) : DT B X W a ta := PW.pt h
theorem dt_not (ha : DT B X W a ta) : DT B X W (.UnaryOp .Not a pos) (mNot ta) :=
  PT.imp (pt_not ha) fun σ H Q h => by
    obtain ⟨F, env, S, h⟩ := h
    exact tT.bind S h fun c e1 F1 H1 s1 m1 o1 k1 => Post.here m1 k1
/-- and, or, not as values: bools -/
def mAndV (m n : M Opd) : M Opd := M.bind (mB1 blOf m) fun c => if c = true then n else mC (.bl false)
def mOrV (m n : M Opd) : M Opd := M.bind (mB1 blOf m) fun c => if c = true then mC (.bl true) else n
def mNotV (m : M Opd) : M Opd := M.bind (mB1 blOf m) fun c => mC (.bl (!c))
theorem tE.blb {m : M Opd} {α : Type} {g : Bool → M α} {k : α → Env → Hp → Hp → Prop} {R : V → Hp → Prop} (S : Sim B F env σ H) (h : Post B W F env σ H k (M.bind (mB1 blOf m) g env))
    (i : ∀ c e1 F1 H1, Step (Own env σ) F H F1 H1 → Sim B F1 e1 σ H1 → EnvLe env e1 → Post B W F1 e1 σ H1 k (g c e1) → R (.bl c) H1) : tE B W m σ H R := by
  refine tE.one (g := AN.ap1 blOf) S (Post.bind S h) fun x e2 F2 H2 v s2 m2 o2 rv k2 => ?_
  obtain ⟨a, z, ea, ez, k3⟩ := k2.ap1
  cases a with
  | bl c =>
    cases ez
    cases (show v = .bl _ from m2.view rv ea)
    exact i _ e2 F2 H2 s2 m2 o2 (Post.here m2 k3)
  | _ => cases ez
theorem de_one {op} (ha : DE B X W a ma) : DE B X W (.BoolOp op [a] pos) ma := pe_one ha
theorem de_and (ha : DE B X W a ma) (hb : DE B X W (.BoolOp .And (b :: rest) pos) mb) : DE B X W (.BoolOp .And (a :: b :: rest) pos) (mAndV ma mb) :=
  PE.imp (pe_and ha hb) fun σ H Q h => by
    obtain ⟨F, env, S, h⟩ := h
    refine tE.blb S h fun c e1 F1 H1 s1 m1 o1 k1 => ⟨c, rfl, ?_⟩
    cases c with
    | true => exact iteT ⟨F1, e1, m1, k1⟩
    | false => exact iteF (Post.here m1 k1 (.bl false) rfl)
theorem de_or (ha : DE B X W a ma) (hb : DE B X W (.BoolOp .Or (b :: rest) pos) mb) : DE B X W (.BoolOp .Or (a :: b :: rest) pos) (mOrV ma mb) :=
  PE.imp (pe_or ha hb) fun σ H Q h => by
    obtain ⟨F, env, S, h⟩ := h
    refine tE.blb S h fun c e1 F1 H1 s1 m1 o1 k1 => ⟨c, rfl, ?_⟩
    cases c with
    | false => exact iteF ⟨F1, e1, m1, k1⟩
    | true => exact iteT (Post.here m1 k1 (.bl true) rfl)
theorem de_not (ha : DE B X W a ma) : DE B X W (.UnaryOp .Not a pos) (mNotV ma) :=
  PE.imp (pe_not ha) fun σ H Q h => by
    obtain ⟨F, env, S, h⟩ := h
    exact tE.blb S h fun c e1 F1 H1 s1 m1 o1 k1 => ⟨c, rfl, Post.here m1 k1 _ rfl⟩
def mIf {α : Type} (t : M Bool) (m n : M α) : M α := M.bind t fun c => if c = true then m else n
theorem de_if (hc : DT B X W c ta) (ha : DE B X W a ma) (hb : DE B X W b mb) : DE B X W (.IfExp c a b pos) (mIf ta ma mb) :=
  PE.imp (pe_ifExp hc ha hb) fun σ H Q h => by
    obtain ⟨F, env, S, h⟩ := h
    refine tT.bind S h fun c e1 F1 H1 s1 m1 o1 k1 => ?_
    cases c with
    | true => exact iteT ⟨F1, e1, m1, k1⟩
    | false => exact iteF ⟨F1, e1, m1, k1⟩
/-- a < b < c -/
def mChain (g g' : D → D → Option D) (ma mb mc : M Opd) : M Opd := M.bind ma fun x => M.bind mb fun y => M.bind (ap2 (g2b g) x y) fun k => if k = true then M.bind mc fun z => mD (ap2 g' y z) else mC (.bl false)
theorem chain_ok {g g' : D → D → Option D} {r r' : R2} (hp : Prim2 B g r) (hp' : Prim2 B g' r') (h : tE B W (mChain g g' ma mb mc) σ H Q) : tChain r r' (tE B W ma) (tE B W mb) (tE B W mc) σ H Q := by
  obtain ⟨F, env, S, h⟩ := h
  refine tE.two S h fun x y e2 F2 H2 v w s2 m2 o2 rv rw k2 => ?_
  have k2' := Post.bind m2 k2
  obtain ⟨a, b, z, ea, eb, ez, k3⟩ := k2'.ap2
  have k3 := Post.here m2 k3
  unfold g2b at ez
  obtain ⟨d, e1, e2⟩ := Option.bind_eq_some_iff.mp ez
  cases d with
  | bl k =>
    cases e2
    refine hp F2 H2 a b _ v w _ m2.hold (m2.view rv ea) (m2.view rw eb) e1 fun u F3 H3 s3 h3 rz => ⟨z, rz, ?_⟩
    have m3 := m2.step0 s3 h3
    cases z with
    | false => exact iteF (k3 F3 H3 s3.any m3 (EnvLe.refl _) _ rfl)
    | true =>
      refine iteT ?_
      refine tE.one m3 (k3.from s3.any) fun zz e4 F4 H4 w' s4 m4 o4 rw' k4 => ?_
      obtain ⟨a', b', z', ea', eb', ez', k5⟩ := (Post.bind m4 k4).ap2
      refine hp' F4 H4 a' b' z' w w' _ m4.hold (m4.view (rw.mono (s3.le.trans s4.le)) ea') (m4.view rw' eb') ez' fun u5 F5 H5 s5 h5 r5 => ?_
      have m5 := m4.step0 s5 h5
      exact k5 F5 H5 s5.any m5 (EnvLe.refl _) F5 H5 (Step.refl _ _ _) m5 (EnvLe.refl _) u5 r5
  | _ => cases e2
theorem de_chain {op op' : CmpOp} {g g' : D → D → Option D} {r r' : R2} (ho : OpR X (compareOp op) r) (hp : Prim2 B g r) (ho' : OpR X (compareOp op') r') (hp' : Prim2 B g' r') (ha : DE B X W a ma) (hb : DE B X W b mb) (hc : DE B X W c mc)
    (hm : lastMarks [op, op'] [b, c] = false := by with_unfolding_all rfl) : DE B X W (.Compare a [op, op'] [b, c] pos) (mChain g g' ma mb mc) := PE.imp (pe_chain ho ho' ha hb hc hm) fun _ _ _ h => chain_ok hp hp' h
end
end AN

set_option Elab.async false
set_option maxRecDepth 100000
set_option autoImplicit false
set_option linter.unusedVariables false
namespace AN
open PySem L2

/-! ### an object becomes data -/
theorem OAt.data {B : Bx} {F H : Hp} {p : Addr} {o : O} (h : OAt B F H p o) (hf : F p = none) : ∃ u, H p = some u ∧ Rep B (upd F p u) o.toD (.ref p) := by
  have l : ∀ u, Le F (upd F p u) := fun u => Le.upd hf
  cases o with
  | lst xs => obtain ⟨z, vs, e, r⟩ := h; exact ⟨_, e, p, vs, rfl, .inl upd_same, z, r.mono (l _)⟩
  | dic xs => obtain ⟨z, vs, e, r⟩ := h; exact ⟨_, e, p, vs, rfl, upd_same, z, r.mono (l _)⟩
  | obj c fs => obtain ⟨C, dx, gs, hc, e, r⟩ := h; exact ⟨_, e, p, C, dx, gs, rfl, hc, upd_same, r.mono (l _)⟩
theorem Holds.add {F H : Hp} {p : Addr} {u : HO} (hh : Holds F H) (e : H p = some u) : Holds (upd F p u) H := fun b w q => by
  by_cases h : b = p
  · subst h; rw [upd_same] at q; cases q; exact .inl e
  · rw [upd_ne h] at q; exact hh b w q
/-- .. one that no name holds -/
theorem Sim.data {B : Bx} {F H : Hp} {env : Env} {σ : St} {p : Addr} {u : HO} (S : Sim B F env σ H) (hp : ¬ Own env σ p) (hf : F p = none) (e : H p = some u) : Sim B (upd F p u) env σ H where
  hold := S.hold.add e
  len := S.len
  fz := fun i d q => let ⟨v, a, b⟩ := S.fz i d q; ⟨v, a, Rep.mono (Le.upd hf) d v b⟩
  ow := fun i k o q => by
    obtain ⟨b, h1, h2, h3⟩ := S.ow i k o q
    have ne : b ≠ p := fun z => hp ⟨i, k, o, q, by rw [← z]; exact h1⟩
    exact ⟨b, h1, by rw [upd_ne ne]; exact h2, h3.mono (Le.upd hf) fun _ z => z⟩
  sep := S.sep
/-- .. the one of a name -/
theorem getElem?_setS {α : Type} {l : List α} {i j : Nat} {x y : α} (h : (l.set i x)[j]? = some y) : (i = j ∧ y = x) ∨ (i ≠ j ∧ l[j]? = some y) := by
  by_cases e : i = j
  · subst e
    by_cases hl : i < l.length
    · rw [List.getElem?_set_self hl] at h
      exact .inl ⟨rfl, (Option.some.inj h).symm⟩
    · rw [List.getElem?_eq_none (by simpa using hl)] at h; cases h
  · rw [List.getElem?_set_ne e] at h
    exact .inr ⟨e, h⟩
theorem Sim.freeze {B : Bx} {F H : Hp} {env : Env} {σ : St} {i : Nat} {o : O} {v : V} (S : Sim B F env σ H) (hi : env[i]? = some (.ow false o)) (hv : σ[i]? = some (some v)) :
    ∃ F', Step (Own env σ) F H F' H ∧ Sim B F' (env.set i (.fz o.toD)) σ H ∧ Rep B F' o.toD v ∧ EnvLe env (env.set i (.fz o.toD)) := by
  obtain ⟨p, h1, h2, h3⟩ := S.ow i false o hi
  rw [hv] at h1; cases h1
  obtain ⟨u, hu, r⟩ := h3.data h2
  have l : Le F (upd F p u) := Le.upd h2
  refine ⟨upd F p u, ⟨l, fun _ _ e _ => e, fun b w e => ?_, fun _ o e => ⟨o, e⟩⟩, ⟨S.hold.add hu, by rw [List.length_set]; exact S.len, fun j d q => ?_, fun j k' o' q => ?_, fun j j' k1 o1 k2 o2 q a1 a2 b1 b2 => ?_⟩, r, ⟨fun j k' o' q => ?_, fun j o' q => ?_⟩⟩
  · by_cases e' : b = p
    · subst e'; exact .inr (.inr ⟨i, false, o, hi, hv⟩)
    · rw [upd_ne e'] at e; exact .inl e
  · rcases getElem?_setS q with ⟨rfl, e⟩ | ⟨_, e⟩
    · cases e; exact ⟨_, hv, r⟩
    · obtain ⟨v, a, b⟩ := S.fz j d e
      exact ⟨v, a, Rep.mono l d v b⟩
  · rcases getElem?_setS q with ⟨rfl, e⟩ | ⟨ne, e⟩
    · cases e
    · obtain ⟨b, c1, c2, c3⟩ := S.ow j k' o' e
      have nb : b ≠ p := fun z => ne (S.sep i j false o k' o' p hi e hv (by rw [← z]; exact c1))
      exact ⟨b, c1, by rw [upd_ne nb]; exact c2, c3.mono l fun _ z => z⟩
  · rcases getElem?_setS a1 with ⟨_, e⟩ | ⟨_, e1⟩
    · cases e
    rcases getElem?_setS a2 with ⟨_, e⟩ | ⟨_, e2⟩
    · cases e
    exact S.sep j j' k1 o1 k2 o2 q e1 e2 b1 b2
  · rcases getElem?_setS q with ⟨_, e⟩ | ⟨_, e⟩
    · cases e
    · exact ⟨o', e⟩
  · refine ⟨o', ?_⟩
    have ne : i ≠ j := fun z => by
      subst z
      rw [hi] at q; cases q
    rw [List.getElem?_set_ne ne]
    exact q
def frz1 (x : Opd) : M D := fun env => match x with
  | .d d => .ok d env
  | .sl i => match env[i]? with
    | some (.fz d) => .ok d env
    | some (.ow false o) => .ok o.toD (env.set i (.fz o.toD))
    | _ => .bad
theorem Sim.frz1 {B : Bx} {W : WX} {F H : Hp} {env : Env} {σ : St} {v : V} {x : Opd} {k : D → Env → Hp → Hp → Prop} (S : Sim B F env σ H) (r : OpdRel B F σ v x) (h : Post B W F env σ H k (AN.frz1 x env)) :
    ∃ d e1 F1, Step (Own env σ) F H F1 H ∧ Sim B F1 e1 σ H ∧ EnvLe env e1 ∧ Rep B F1 d v ∧ k d e1 F1 H := by
  cases x with
  | d d => exact ⟨d, env, F, Step.refl _ _ _, S, EnvLe.refl _, r, h F H (Step.refl _ _ _) S (EnvLe.refl _)⟩
  | sl i =>
    unfold AN.frz1 at h
    have r : σ[i]? = some (some v) := r
    cases q : env[i]? with
    | none => simp only [q] at h; exact h.elim
    | some s =>
      cases s with
      | no => simp only [q] at h; exact h.elim
      | fz d =>
        simp only [q] at h
        obtain ⟨u, a, b⟩ := S.fz i d q
        rw [r] at a; cases a
        exact ⟨d, env, F, Step.refl _ _ _, S, EnvLe.refl _, b, h F H (Step.refl _ _ _) S (EnvLe.refl _)⟩
      | ow pk o =>
        cases pk with
        | true => simp only [q] at h; exact h.elim
        | false =>
          simp only [q] at h
          obtain ⟨F1, st, m1, rd, ole⟩ := S.freeze q r
          exact ⟨_, _, F1, st, m1, ole, rd, h F1 H st m1 ole⟩
def frzs : List Opd → M (List D)
  | [] => M.pure []
  | x :: xs => M.bind (frz1 x) fun d => M.bind (frzs xs) fun ds => M.pure (d :: ds)
theorem Sim.frzs {B : Bx} {W : WX} {H : Hp} {σ : St} : ∀ {xs : List Opd} {F : Hp} {env : Env} {vs : List V} {k : List D → Env → Hp → Hp → Prop}, Sim B F env σ H → OpdsRel B F σ vs xs → Post B W F env σ H k (AN.frzs xs env) →
    ∃ ds e1 F1, Step (Own env σ) F H F1 H ∧ Sim B F1 e1 σ H ∧ EnvLe env e1 ∧ RepL B F1 ds vs ∧ k ds e1 F1 H
  | [], F, env, _, k, S, .nil, h => ⟨[], env, F, Step.refl _ _ _, S, EnvLe.refl _, rfl, h F H (Step.refl _ _ _) S (EnvLe.refl _)⟩
  | x :: xs, F, env, _, k, S, .cons r rs, h => by
    obtain ⟨d, e1, F1, s1, m1, o1, r1, h1⟩ := S.frz1 r (Post.bind S h)
    obtain ⟨ds, e2, F2, s2, m2, o2, r2, h2⟩ := m1.frzs (rs.mono s1.le) (Post.bind m1 h1)
    exact ⟨d :: ds, e2, F2, s1.trans s2 fun b z => .inl (o1.own z), m2, o1.trans o2, ⟨_, _, rfl, Rep.mono s2.le d _ r1, r2⟩, h2 F2 H (Step.refl _ _ _) m2 (EnvLe.refl _)⟩

section
variable {B : Bx} {X : Cx} {W : WX} {F H : Hp} {env : Env} {σ : St} {Q : VK} {a b c e : Expr} {ma mb mc : M Opd} {pos : Pos} {es : List Expr} {ms : M (List Opd)}
/-! ### arguments, displays -/
def mA0 : M (List Opd) := M.pure []
def mA (m : M Opd) (ms : M (List Opd)) : M (List Opd) := M.bind m fun x => M.bind ms fun xs => M.pure (x :: xs)
theorem da0 : DA B X W [] mA0 := PA.imp pa_nil fun σ H Q h => by
  obtain ⟨F, env, S, h⟩ := h
  exact Post.here S h [] .nil
theorem da (ha : DE B X W e ma) (hr : DA B X W es ms) (hs : starEach (e :: es) X.env = (false, eval e X.env) :: starEach es X.env := by rfl) : DA B X W (e :: es) (mA ma ms) :=
  PA.imp (pa_cons ha hr hs) fun σ H Q h => by
    obtain ⟨F, env, S, h⟩ := h
    refine tE.one S h fun x e1 F1 H1 v s1 m1 o1 rv k1 => ⟨F1, e1, m1, (Post.bind m1 k1).mono fun xs e2 F2 H2 s2 m2 o2 k2 vs rvs => ?_⟩
    exact Post.here m2 k2 (v :: vs) (.cons (rv.mono s2.le) rvs)
def lim {α : Type} (n : Nat) (m : M α) : M α := fun env => if n ≤ sizeLine then m env else .bad
theorem Post.lim {α : Type} {n : Nat} {m : M α} {k : α → Env → Hp → Hp → Prop} (h : Post B W F env σ H k (lim n m env)) : n ≤ sizeLine ∧ Post B W F env σ H k (m env) := by
  unfold AN.lim at h
  by_cases e : n ≤ sizeLine
  · rw [if_pos e] at h; exact ⟨e, h⟩
  · rw [if_neg e] at h; exact h.elim
def mTup (ms : M (List Opd)) : M Opd := M.bind ms fun xs => M.bind (frzs xs) fun ds => lim ds.length (M.pure (.d (.tup ds)))
def mLst (ms : M (List Opd)) : M O := M.bind ms fun xs => M.bind (frzs xs) fun ds => lim ds.length (M.pure (.lst ds))
theorem de_tup {k} (h : DA B X W es ms) : DE B X W (.Tuple es k pos) (mTup ms) := PE.imp (pe_tup h) fun σ H Q h => by
  obtain ⟨F, env, S, h⟩ := h
  refine ⟨F, env, S, (Post.bind S h).mono fun xs e1 F1 H1 s1 m1 o1 k1 vs rvs => ?_⟩
  obtain ⟨ds, e2, F2, s2, m2, o2, r2, k2⟩ := m1.frzs rvs (Post.bind m1 k1)
  obtain ⟨hz, k2⟩ := k2.lim
  refine ⟨by rw [r2.length]; exact hz, fun p hp => ?_⟩
  obtain ⟨s3, h3⟩ := step0_new (u := .tup vs) m2.hold hp
  have m3 := m2.step0 s3 h3
  exact k2 _ _ s3.any m3 (EnvLe.refl _) (.ref p) ⟨p, vs, rfl, .inl upd_same, hz, r2.mono s3.le⟩
theorem do_lst (h : DA B X W es ms) : DO B X W (.List es pos) (mLst ms) := PE.imp (pe_lst h) fun σ H Q h => by
  obtain ⟨F, env, S, h⟩ := h
  refine ⟨F, env, S, (Post.bind S h).mono fun xs e1 F1 H1 s1 m1 o1 k1 vs rvs => ?_⟩
  obtain ⟨ds, e2, F2, s2, m2, o2, r2, k2⟩ := m1.frzs rvs (Post.bind m1 k1)
  obtain ⟨hz, k2⟩ := k2.lim
  refine ⟨by rw [r2.length]; exact hz, fun p hp => ?_⟩
  obtain ⟨s3, h3⟩ := step0_mk (u := .lst vs) m2.hold hp
  have m3 := m2.step0 s3 h3
  exact k2 _ _ s3.any m3 (EnvLe.refl _) p (s1.back hp) (m2.hold.none hp) ⟨hz, vs, upd_same, r2⟩
/-- a new object used as data -/
def mFz (m : M O) : M Opd := M.bind m fun o => M.pure (.d o.toD)
theorem Post.bindPure {α β : Type} {m : M α} {f : α → β} {k : β → Env → Hp → Hp → Prop} (h : Post B W F env σ H k (M.bind m (fun a => M.pure (f a)) env)) :
    Post B W F env σ H (fun a e1 _ _ => ∀ F2 H2, Step (Own env σ) F H F2 H2 → Sim B F2 e1 σ H2 → k (f a) e1 F2 H2) (m env) := by
  unfold M.bind at h
  cases q : m env with
  | bad => rw [q] at h; exact h
  | exc c d e' => rw [q] at h; exact h
  | ok a e1 =>
    rw [q] at h
    exact fun F1 H1 _ _ o1 F2 H2 s2 m2 => h F2 H2 s2 m2 o1
theorem de_o {m : M O} (h : DO B X W e m) : DE B X W e (mFz m) := PE.imp h fun σ H Q h => by
  obtain ⟨F, env, S, h⟩ := h
  refine ⟨F, env, S, (Post.bindPure h).mono fun o e1 F1 H1 s1 m1 o1 k1 p hp hf ho => ?_⟩
  have np : ¬ Own e1 σ p := fun z => by
    obtain ⟨_, u, hu⟩ := (o1.own z).ex S
    rw [hp] at hu; cases hu
  obtain ⟨u, hu, r⟩ := ho.data hf
  refine k1 (upd F1 p u) H1 ⟨s1.le.trans (Le.upd hf), s1.keep, fun b w q => ?_, s1.stay⟩ (m1.data np hf hu) (.ref p) r
  by_cases hb : b = p
  · subst hb; exact .inr (.inl hp)
  · rw [upd_ne hb] at q; exact s1.new b w q
end
end AN

set_option Elab.async false
set_option maxRecDepth 100000
set_option autoImplicit false
set_option linter.unusedVariables false
namespace AN
open PySem L2

/-! ### statements -/
inductive Fl where
  | nx | bk | ct
  | rt (d : D)
  | ro (o : O)
/-- from (F, env, σ, H) to (F', env', σ', H') -/
structure Go (B : Bx) (F : Hp) (env : Env) (σ : St) (H F' : Hp) (env' : Env) (σ' : St) (H' : Hp) : Prop where
  step : Step (Own env σ) F H F' H'
  sim : Sim B F' env' σ' H'
  own : ∀ b, OwnU env' σ' b → OwnU env σ b ∨ H b = none
  pin : ∀ (i : Nat) (o : O), env[i]? = some (.ow true o) → (∃ o', env'[i]? = some (.ow true o')) ∧ σ'[i]? = σ[i]?
  unpin : ∀ (i : Nat) (o : O), env'[i]? = some (.ow true o) → ∃ o', env[i]? = some (.ow true o')
  len : σ'.length = σ.length
section
variable {B : Bx} {X : Cx} {W : WX} {F H F1 H1 F2 H2 : Hp} {env e1 e2 : Env} {σ σ1 σ2 : St}
theorem Go.refl (S : Sim B F env σ H) : Go B F env σ H F env σ H := ⟨Step.refl _ _ _, S, fun _ z => .inl z, fun _ o h => ⟨⟨o, h⟩, rfl⟩, fun _ o h => ⟨o, h⟩, rfl⟩
theorem Go.owned (g : Go B F env σ H F1 e1 σ1 H1) {b : Addr} (h : Own e1 σ1 b) : Own env σ b ∨ H b = none := by
  obtain ⟨i, k, o, h1, h2⟩ := h
  cases k with
  | true =>
    obtain ⟨o', h'⟩ := g.unpin i o h1
    obtain ⟨_, e⟩ := g.pin i o' h'
    exact .inl ⟨i, true, o', h', by rw [← e]; exact h2⟩
  | false =>
    rcases g.own b ⟨i, o, h1, h2⟩ with z | z
    · exact .inl z.own
    · exact .inr z
theorem Go.trans (g : Go B F env σ H F1 e1 σ1 H1) (g' : Go B F1 e1 σ1 H1 F2 e2 σ2 H2) : Go B F env σ H F2 e2 σ2 H2 where
  step := g.step.trans g'.step fun b z => g.owned z
  sim := g'.sim
  own := fun b z => by
    rcases g'.own b z with z | z
    · exact g.own b z
    · exact .inr (g.step.back z)
  pin := fun i o h => by
    obtain ⟨⟨o', h'⟩, e⟩ := g.pin i o h
    obtain ⟨h'', e'⟩ := g'.pin i o' h'
    exact ⟨h'', e'.trans e⟩
  unpin := fun i o h => let ⟨o', h'⟩ := g'.unpin i o h; g.unpin i o' h'
  len := g'.len.trans g.len
theorem EnvLe.ownU {e e1 : Env} (a : EnvLe e e1) {σ : St} {b : Addr} (h : OwnU e1 σ b) : OwnU e σ b := by
  obtain ⟨i, o, h1, h2⟩ := h
  obtain ⟨o', h'⟩ := a.dn i false o h1
  exact ⟨i, o', h', h2⟩
theorem Go.of (s : Step (Own env σ) F H F1 H1) (m : Sim B F1 e1 σ H1) (l : EnvLe env e1) : Go B F env σ H F1 e1 σ H1 :=
  ⟨s, m, fun b z => .inl (l.ownU z), fun i o h => ⟨l.up i o h, rfl⟩, fun i o h => l.dn i true o h, rfl⟩

def PostS (B : Bx) (W : WX) (F : Hp) (env : Env) (σ : St) (H : Hp) (D : Ends) : R Fl → Prop
  | .ok .nx e' => ∀ σ' F' H', Go B F env σ H F' e' σ' H' → D.nx σ' H'
  | .ok .bk e' => ∀ σ' F' H', Go B F env σ H F' e' σ' H' → D.bk σ' H'
  | .ok .ct e' => ∀ σ' F' H', Go B F env σ H F' e' σ' H' → D.ct σ' H'
  | .ok (.rt d) e' => ∀ v σ' F' H', Go B F env σ H F' e' σ' H' → Rep B F' d v → D.rt v H'
  | .ok (.ro o) e' => ∀ p σ' F' H', Go B F env σ H F' e' σ' H' → (OwnU env σ p ∨ H p = none) → ¬ Own e' σ' p → F' p = none → OAt B F' H' p o → D.rt (.ref p) H'
  | .exc c d e' => ∃ C fld, B.exc c = some (C, fld) ∧ ∀ σ' F' H' dx v, Go B F env σ H F' e' σ' H' → H' dx = some (.xd [(fld, v)]) → F' dx = none → H dx = none → Rep B F' d v → W (.ref C) (some dx) σ' H'
  | .bad => False
def tS (B : Bx) (W : WX) (m : M Fl) : TS := fun D σ H => ∃ F env, Sim B F env σ H ∧ PostS B W F env σ H D (m env)
abbrev DS (B : Bx) (X : Cx) (W : WX) (st : Stmt) (m : M Fl) : Prop := PS X st (tS B W m)
abbrev DSs (B : Bx) (X : Cx) (W : WX) (st : List Stmt) (m : M Fl) : Prop := PSs X st (tS B W m)
theorem PS.imp {X : Cx} {e : Stmt} {t t' : TS} (h : PS X e t) (i : ∀ D σ H, t' D σ H → t D σ H) : PS X e t' := ⟨fun pins s σ H Q I q => h.run pins s σ H Q I (i Q σ H q)⟩
theorem PSs.imp {X : Cx} {e : List Stmt} {t t' : TS} (h : PSs X e t) (i : ∀ D σ H, t' D σ H → t D σ H) : PSs X e t' := ⟨fun pins s σ H Q I q => h.run pins s σ H Q I (i Q σ H q)⟩
/-- the same ending, from a later state -/
theorem PostS.from {D : Ends} {r : R Fl} (h : PostS B W F env σ H D r) (g : Go B F env σ H F1 e1 σ1 H1) : PostS B W F1 e1 σ1 H1 D r := by
  cases r with
  | bad => exact h
  | exc c d e' =>
    obtain ⟨C, fld, hb, h⟩ := h
    exact ⟨C, fld, hb, fun σ' F' H' dx v g' hd hf h0 r => h σ' F' H' dx v (g.trans g') hd hf (g.step.back h0) r⟩
  | ok f e' =>
    cases f with
    | nx => exact fun σ' F' H' g' => h σ' F' H' (g.trans g')
    | bk => exact fun σ' F' H' g' => h σ' F' H' (g.trans g')
    | ct => exact fun σ' F' H' g' => h σ' F' H' (g.trans g')
    | rt d => exact fun v σ' F' H' g' r => h v σ' F' H' (g.trans g') r
    | ro o =>
      refine fun p σ' F' H' g' r => h p σ' F' H' (g.trans g') ?_
      rcases r with r | r
      · exact g.own p r
      · exact .inr (g.step.back r)
/-- an expression, then the rest of its statement -/
theorem PostS.bind {α : Type} {m : M α} {k : α → M Fl} {D : Ends} (h : PostS B W F env σ H D (M.bind m k env)) : Post B W F env σ H (fun a e1 F1 H1 => PostS B W F1 e1 σ H1 D (k a e1)) (m env) := by
  unfold M.bind at h
  cases e : m env with
  | bad => rw [e] at h; exact h
  | exc c d e' =>
    rw [e] at h
    obtain ⟨C, fld, hb, h⟩ := h
    exact ⟨C, fld, hb, fun F' H' dx v s ⟨m', l⟩ hd hf h0 r => h σ F' H' dx v (Go.of s m' l) hd hf h0 r⟩
  | ok a e1 =>
    rw [e] at h
    intro F1 H1 s1 m1 l1
    exact PostS.from h (Go.of s1 m1 l1)
theorem PostS.here {D : Ends} (S : Sim B F env σ H) (h : PostS B W F env σ H D (.ok .nx env)) : D.nx σ H := h σ F H (Go.refl S)

def mNx : M Fl := M.pure .nx
def mSeq (m n : M Fl) : M Fl := M.bind m fun f => match f with
  | .nx => n
  | f => M.pure f
theorem PostS.seq {m n : M Fl} {D : Ends} (h : PostS B W F env σ H D (mSeq m n env)) : PostS B W F env σ H { D with nx := tS B W n D } (m env) := by
  unfold mSeq M.bind at h
  cases e : m env with
  | bad => rw [e] at h; exact h
  | exc c d e' => rw [e] at h; exact h
  | ok f e1 =>
    rw [e] at h
    cases f with
    | nx => exact fun σ' F' H' g => ⟨F', e1, g.sim, PostS.from h g⟩
    | bk => exact h
    | ct => exact h
    | rt d => exact h
    | ro o => exact h
variable {st : Stmt} {rest : List Stmt} {m n : M Fl} {pos : Pos} {a b c e : Expr} {ma mb mc : M Opd} {ta tb : M Bool}
theorem dss0 : DSs B X W [] mNx := PSs.imp pss_nil fun D σ H h => by
  obtain ⟨F, env, S, h⟩ := h
  exact h σ F H (Go.refl S)
theorem dss (h1 : DS B X W st m) (h2 : DSs B X W rest n) : DSs B X W (st :: rest) (mSeq m n) := PSs.imp (pss_cons h1 h2) fun D σ H h => by
  obtain ⟨F, env, S, h⟩ := h
  exact ⟨F, env, S, h.seq⟩
theorem dss1 (h1 : DS B X W st m) : DSs B X W [st] m := pss_one h1
theorem ds_pass : DS B X W (.Pass pos) mNx := PS.imp ps_pass fun D σ H h => by
  obtain ⟨F, env, S, h⟩ := h
  exact h σ F H (Go.refl S)
theorem ds_break : DS B X W (.Break pos) (M.pure .bk) := PS.imp ps_break fun D σ H h => by
  obtain ⟨F, env, S, h⟩ := h
  exact h σ F H (Go.refl S)
theorem ds_continue : DS B X W (.Continue pos) (M.pure .ct) := PS.imp ps_continue fun D σ H h => by
  obtain ⟨F, env, S, h⟩ := h
  exact h σ F H (Go.refl S)
def mIfS (t : M Bool) (m n : M Fl) : M Fl := M.bind t fun c => if c = true then m else n
theorem ds_if {as bs : List Stmt} (hc : DT B X W c ta) (ha : DSs B X W as m) (hb : DSs B X W bs n) : DS B X W (.If c as bs pos) (mIfS ta m n) := PS.imp (ps_if hc ha hb) fun D σ H h => by
  obtain ⟨F, env, S, h⟩ := h
  refine ⟨F, env, S, h.bind.mono fun c e1 F1 H1 s1 m1 o1 k1 => ?_⟩
  cases c with
  | true => exact iteT ⟨F1, e1, m1, k1⟩
  | false => exact iteF ⟨F1, e1, m1, k1⟩
def mRet (m : M Opd) : M Fl := M.bind m fun x => M.bind (frz1 x) fun d => M.pure (.rt d)
theorem ds_ret (ha : DE B X W a ma) : DS B X W (.Return (some a) pos) (mRet ma) := PS.imp (ps_ret ha) fun D σ H h => by
  obtain ⟨F, env, S, h⟩ := h
  refine ⟨F, env, S, h.bind.mono fun x e1 F1 H1 s1 m1 o1 k1 v rv => ?_⟩
  obtain ⟨d, e2, F2, s2, m2, o2, r2, k2⟩ := m1.frz1 rv k1.bind
  exact k2 v σ F2 H1 (Go.refl m2) r2
def mRetO (m : M O) : M Fl := M.bind m fun o => M.pure (.ro o)
theorem PostS.bindPure {α : Type} {m : M α} {f : α → Fl} {D : Ends} (h : PostS B W F env σ H D (M.bind m (fun a => M.pure (f a)) env)) :
    Post B W F env σ H (fun a e1 _ _ => PostS B W F env σ H D (.ok (f a) e1)) (m env) := by
  unfold M.bind at h
  cases e : m env with
  | bad => rw [e] at h; exact h
  | exc c d e' =>
    rw [e] at h
    obtain ⟨C, fld, hb, h⟩ := h
    exact ⟨C, fld, hb, fun F' H' dx v s ⟨m', l⟩ hd hf h0 r => h σ F' H' dx v (Go.of s m' l) hd hf h0 r⟩
  | ok a e1 =>
    rw [e] at h
    exact fun _ _ _ _ _ => h
theorem ds_retO {m : M O} (ha : DO B X W a m) : DS B X W (.Return (some a) pos) (mRetO m) := PS.imp (ps_ret ha) fun D σ H h => by
  obtain ⟨F, env, S, h⟩ := h
  refine ⟨F, env, S, h.bindPure.mono fun o e1 F1 H1 s1 m1 o1 k1 p hp hf ho => ?_⟩
  refine k1 p σ F1 H1 (Go.of s1 m1 o1) (.inr hp) (fun z => ?_) hf ho
  obtain ⟨_, u, hu⟩ := (o1.own z).ex S
  rw [hp] at hu; cases hu
def mRetN : M Fl := M.pure (.rt .non)
theorem ds_retN : DS B X W (.Return none pos) mRetN := PS.imp ps_retN fun D σ H h => by
  obtain ⟨F, env, S, h⟩ := h
  exact h .non σ F H (Go.refl S) rfl
/-- return x, x a name that alone holds its object -/
def mRetV (i : Nat) : M Fl := fun env => match env[i]? with
  | some (.fz d) => .ok (.rt d) env
  | some (.ow false o) => .ok (.ro o) (env.set i .no)
  | _ => .bad
theorem Sim.drop {i : Nat} (S : Sim B F env σ H) : Sim B F (env.set i .no) σ H where
  hold := S.hold
  len := by rw [List.length_set]; exact S.len
  fz := fun j d q => by
    rcases getElem?_setS q with ⟨_, e⟩ | ⟨_, e⟩
    · cases e
    · exact S.fz j d e
  ow := fun j k o q => by
    rcases getElem?_setS q with ⟨_, e⟩ | ⟨_, e⟩
    · cases e
    · exact S.ow j k o e
  sep := fun j j' k1 o1 k2 o2 q a1 a2 b1 b2 => by
    rcases getElem?_setS a1 with ⟨_, e⟩ | ⟨_, e1⟩
    · cases e
    rcases getElem?_setS a2 with ⟨_, e⟩ | ⟨_, e2⟩
    · cases e
    exact S.sep j j' k1 o1 k2 o2 q e1 e2 b1 b2
theorem EnvLe.set {i : Nat} {s : Slot} (h1 : ∀ o, env[i]? ≠ some (.ow true o)) (h2 : ∀ k o, s ≠ .ow k o) : EnvLe env (env.set i s) :=
  ⟨fun j k o q => by
    rcases getElem?_setS q with ⟨_, e⟩ | ⟨_, e⟩
    · exact absurd e.symm (h2 k o)
    · exact ⟨o, e⟩, fun j o q => ⟨o, by
      have ne : i ≠ j := fun z => by subst z; exact h1 o q
      rw [List.getElem?_set_ne ne]; exact q⟩⟩
theorem ds_retV (i : Nat) {x : Str} {pos' : Pos} (hN : X.N[i]? = some x := by rfl) (hv : Vis X.env.scope x := by first | exact Or.inl rfl | exact Or.inr (Or.inl rfl) | exact Or.inr (Or.inr rfl)) (hd : (x == ("__debug__" : Str)) = false := by decide)
    (hcd : (x == ("__classdict__" : Str)) = false := by decide) : DS B X W (.Return (some (.Name x pos')) pos) (mRetV i) := PS.imp (ps_ret (pe_var hN hv hd hcd)) fun D σ H h => by
  obtain ⟨F, env, S, h⟩ := h
  unfold mRetV at h
  cases q : env[i]? with
  | none => simp only [q] at h; exact h.elim
  | some s =>
    cases s with
    | no => simp only [q] at h; exact h.elim
    | fz d =>
      simp only [q] at h
      obtain ⟨v, h1, h2⟩ := S.fz i d q
      exact ⟨v, h1, h v σ F H (Go.refl S) h2⟩
    | ow k o =>
      cases k with
      | true => simp only [q] at h; exact h.elim
      | false =>
        simp only [q] at h
        obtain ⟨p, h1, h2, h3⟩ := S.ow i false o q
        have l : EnvLe env (env.set i .no) := EnvLe.set (fun o' z => by rw [q] at z; cases z) (fun _ _ z => by cases z)
        refine ⟨.ref p, h1, h p σ F H (Go.of (Step.refl _ _ _) S.drop l) (.inl ⟨i, o, q, h1⟩) (fun ⟨j, k', o', a1, a2⟩ => ?_) h2 h3⟩
        rcases getElem?_setS a1 with ⟨_, e⟩ | ⟨ne, e⟩
        · cases e
        · exact ne (S.sep i j false o k' o' p q e h1 a2)

/-! ### stores -/
def put (i : Nat) (s : Slot) : M Fl := fun env => match env[i]? with
  | some (.ow true _) => .bad
  | some _ => .ok .nx (env.set i s)
  | none => .bad
theorem put_ok {i : Nat} {s : Slot} {D : Ends} (h : PostS B W F env σ H D (put i s env)) : (∃ s0, env[i]? = some s0) ∧ (∀ o, env[i]? ≠ some (.ow true o)) ∧ PostS B W F env σ H D (.ok .nx (env.set i s)) := by
  unfold put at h
  cases q : env[i]? with
  | none => simp only [q] at h; exact h.elim
  | some s =>
    cases s with
    | no => simp only [q] at h; exact ⟨⟨_, rfl⟩, (fun o z => nomatch z), h⟩
    | fz d => simp only [q] at h; exact ⟨⟨_, rfl⟩, (fun o z => nomatch z), h⟩
    | ow k o =>
      cases k with
      | true => simp only [q] at h; exact h.elim
      | false => simp only [q] at h; exact ⟨⟨_, rfl⟩, (fun o z => nomatch z), h⟩
theorem set_len {i : Nat} {s0 : Slot} (S : Sim B F env σ H) (h : env[i]? = some s0) : i < σ.length := by
  rw [← S.len]
  exact (List.getElem?_eq_some_iff.mp h).1
theorem getElem?_setO {l : St} {i j : Nat} {x : Option V} {y : Option V} (h : (l.set i x)[j]? = some y) : (i = j ∧ y = x) ∨ (i ≠ j ∧ l[j]? = some y) := getElem?_setS h
/-- a name gets data -/
theorem Sim.setD {i : Nat} {d : D} {v : V} {s0 : Slot} (S : Sim B F env σ H) (h0 : env[i]? = some s0) (h1 : ∀ o, env[i]? ≠ some (.ow true o)) (r : Rep B F d v) : Go B F env σ H F (env.set i (.fz d)) (σ.set i (some v)) H where
  step := Step.refl _ _ _
  sim := {
    hold := S.hold
    len := by rw [List.length_set, List.length_set]; exact S.len
    fz := fun j d' q => by
      rcases getElem?_setS q with ⟨rfl, e⟩ | ⟨ne, e⟩
      · cases e; exact ⟨v, List.getElem?_set_self (set_len S h0), r⟩
      · rw [List.getElem?_set_ne ne]; exact S.fz j d' e
    ow := fun j k o q => by
      rcases getElem?_setS q with ⟨_, e⟩ | ⟨ne, e⟩
      · cases e
      · rw [List.getElem?_set_ne ne]; exact S.ow j k o e
    sep := fun j j' k1 o1 k2 o2 q a1 a2 b1 b2 => by
      rcases getElem?_setS a1 with ⟨_, e⟩ | ⟨n1, e1⟩
      · cases e
      rcases getElem?_setS a2 with ⟨_, e⟩ | ⟨n2, e2⟩
      · cases e
      rw [List.getElem?_set_ne n1] at b1
      rw [List.getElem?_set_ne n2] at b2
      exact S.sep j j' k1 o1 k2 o2 q e1 e2 b1 b2 }
  own := fun b ⟨j, o, q, z⟩ => by
    rcases getElem?_setS q with ⟨_, e⟩ | ⟨ne, e⟩
    · cases e
    · rw [List.getElem?_set_ne ne] at z; exact .inl ⟨j, o, e, z⟩
  pin := fun j o q => by
    have ne : i ≠ j := fun z => by subst z; exact h1 o q
    rw [List.getElem?_set_ne ne, List.getElem?_set_ne ne]
    exact ⟨⟨o, q⟩, rfl⟩
  unpin := fun j o q => by
    rcases getElem?_setS q with ⟨_, e⟩ | ⟨_, e⟩
    · cases e
    · exact ⟨o, e⟩
  len := List.length_set
/-- a name gets a new object -/
theorem Sim.setO {i : Nat} {o : O} {p : Addr} {s0 : Slot} (S : Sim B F env σ H) (h0 : env[i]? = some s0) (h1 : ∀ o, env[i]? ≠ some (.ow true o)) (np : ¬ Own env σ p) (hf : F p = none) (ho : OAt B F H p o) : Sim B F (env.set i (.ow false o)) (σ.set i (some (.ref p))) H where
  hold := S.hold
  len := by rw [List.length_set, List.length_set]; exact S.len
  fz := fun j d' q => by
    rcases getElem?_setS q with ⟨rfl, e⟩ | ⟨ne, e⟩
    · cases e
    · rw [List.getElem?_set_ne ne]; exact S.fz j d' e
  ow := fun j k o' q => by
    rcases getElem?_setS q with ⟨rfl, e⟩ | ⟨ne, e⟩
    · cases e; exact ⟨p, List.getElem?_set_self (set_len S h0), hf, ho⟩
    · rw [List.getElem?_set_ne ne]; exact S.ow j k o' e
  sep := fun j j' k1 o1 k2 o2 q a1 a2 b1 b2 => by
    have il := set_len S h0
    rcases getElem?_setS a1 with ⟨rfl, e1⟩ | ⟨n1, e1⟩
    · rw [List.getElem?_set_self il] at b1
      cases b1
      rcases getElem?_setS a2 with ⟨rfl, e2⟩ | ⟨n2, e2⟩
      · rfl
      · rw [List.getElem?_set_ne n2] at b2
        exact absurd ⟨j', k2, o2, e2, b2⟩ np
    · rw [List.getElem?_set_ne n1] at b1
      rcases getElem?_setS a2 with ⟨rfl, e2⟩ | ⟨n2, e2⟩
      · rw [List.getElem?_set_self il] at b2
        cases b2
        exact absurd ⟨j, k1, o1, e1, b1⟩ np
      · rw [List.getElem?_set_ne n2] at b2
        exact S.sep j j' k1 o1 k2 o2 q e1 e2 b1 b2
theorem Go.setO {i : Nat} {o : O} {p : Addr} {s0 : Slot} (g : Go B F env σ H F1 e1 σ H1) (h0 : e1[i]? = some s0) (h1 : ∀ o, e1[i]? ≠ some (.ow true o)) (hp : H p = none) (np : ¬ Own e1 σ p) (hf : F1 p = none) (ho : OAt B F1 H1 p o) : Go B F env σ H F1 (e1.set i (.ow false o)) (σ.set i (some (.ref p))) H1 where
  step := g.step
  sim := g.sim.setO h0 h1 np hf ho
  own := fun b ⟨j, o', q, z⟩ => by
    rcases getElem?_setS q with ⟨rfl, e⟩ | ⟨ne, e⟩
    · rw [List.getElem?_set_self (set_len g.sim h0)] at z
      cases z
      exact .inr hp
    · rw [List.getElem?_set_ne ne] at z
      exact g.own b ⟨j, o', e, z⟩
  pin := fun j o' q => by
    obtain ⟨⟨o2, q2⟩, e⟩ := g.pin j o' q
    have ne : i ≠ j := fun z => by subst z; exact h1 o2 q2
    rw [List.getElem?_set_ne ne, List.getElem?_set_ne ne]
    exact ⟨⟨o2, q2⟩, e⟩
  unpin := fun j o' q => by
    rcases getElem?_setS q with ⟨_, e⟩ | ⟨_, e⟩
    · cases e
    · exact g.unpin j o' e
  len := List.length_set
def mSet (i : Nat) (m : M Opd) : M Fl := M.bind m fun x => M.bind (frz1 x) fun d => put i (.fz d)
theorem tset_ok {i : Nat} {D : Ends} (h : tS B W (mSet i ma) D σ H) : tAsg (tE B W ma) (gName i) D σ H := by
  obtain ⟨F, env, S, h⟩ := h
  refine ⟨F, env, S, h.bind.mono fun x e1 F1 H1 s1 m1 o1 k1 v rv => ?_⟩
  obtain ⟨d, e2, F2, s2, m2, o2, r2, k2⟩ := m1.frz1 rv k1.bind
  obtain ⟨⟨s0, h0⟩, h1, k3⟩ := put_ok k2
  exact k3 _ _ _ (m2.setD h0 h1 r2)
def mSetO (i : Nat) (m : M O) : M Fl := M.bind m fun o => put i (.ow false o)
theorem tsetO_ok {i : Nat} {m : M O} {D : Ends} (h : tS B W (mSetO i m) D σ H) : tAsg (tO B W m) (gName i) D σ H := by
  obtain ⟨F, env, S, h⟩ := h
  unfold mSetO M.bind at h
  refine ⟨F, env, S, ?_⟩
  cases q : m env with
  | bad => rw [q] at h; exact h
  | exc c d e' =>
    rw [q] at h
    obtain ⟨C, fld, hb, h⟩ := h
    exact ⟨C, fld, hb, fun F' H' dx v s ⟨m', l⟩ hd hf h0 r => h σ F' H' dx v (Go.of s m' l) hd hf h0 r⟩
  | ok o e1 =>
    rw [q] at h
    intro F1 H1 s1 m1 l1 p hp hf ho
    have np : ¬ Own e1 σ p := fun z => by
      obtain ⟨_, u, hu⟩ := (l1.own z).ex S
      rw [hp] at hu; cases hu
    unfold put at h
    have fin : ∀ s0, e1[i]? = some s0 → (∀ o, e1[i]? ≠ some (.ow true o)) → PostS B W F env σ H D (.ok .nx (e1.set i (.ow false o))) → D.nx (σ.set i (some (.ref p))) H1 :=
      fun s0 h0 h1 k => k _ _ _ ((Go.of s1 m1 l1).setO h0 h1 hp np hf ho)
    cases z : e1[i]? with
    | none => simp only [z] at h; exact h.elim
    | some s =>
      cases s with
      | no => simp only [z] at h; exact fin _ z (fun o z' => by rw [z] at z'; cases z') h
      | fz d => simp only [z] at h; exact fin _ z (fun o z' => by rw [z] at z'; cases z') h
      | ow k o' =>
        cases k with
        | true => simp only [z] at h; exact h.elim
        | false => simp only [z] at h; exact fin _ z (fun o z' => by rw [z] at z'; cases z') h
theorem ds_set (i : Nat) {x : Str} {pos' : Pos} (hN : X.N.Nodup) (he : DE B X W e ma) (hi : X.N[i]? = some x := by rfl) (hx : Loc X.env.scope x := by first | exact Or.inl rfl | exact Or.inr rfl) (hs : swapsWith e (some (.Name x pos')) pos.line X.env = pure false := by rfl)
    (hf : X.fn x = true ∨ X.env.scope.names.lookup x = some .local := by first | exact .inl rfl | exact .inr rfl) : DS B X W (.Assign [.Name x pos'] e pos) (mSet i ma) :=
  PS.imp (ps_set hN hi hx he hs hf) fun D σ H h => tset_ok h
theorem ds_setO (i : Nat) {x : Str} {pos' : Pos} {m : M O} (hN : X.N.Nodup) (he : DO B X W e m) (hi : X.N[i]? = some x := by rfl) (hx : Loc X.env.scope x := by first | exact Or.inl rfl | exact Or.inr rfl) (hs : swapsWith e (some (.Name x pos')) pos.line X.env = pure false := by rfl)
    (hf : X.fn x = true ∨ X.env.scope.names.lookup x = some .local := by first | exact .inl rfl | exact .inr rfl) : DS B X W (.Assign [.Name x pos'] e pos) (mSetO i m) :=
  PS.imp (ps_set hN hi hx he hs hf) fun D σ H h => tsetO_ok h
def mDrop (m : M Opd) : M Fl := M.bind m fun _ => mNx
theorem ds_expr (he : DE B X W e ma) (hs : swapsWith e none pos.line X.env = pure false := by rfl) : DS B X W (.Expr e pos) (mDrop ma) := PS.imp (ps_expr he hs) fun D σ H h => by
  obtain ⟨F, env, S, h⟩ := h
  exact ⟨F, env, S, h.bind.mono fun x e1 F1 H1 s1 m1 o1 k1 v rv => PostS.here m1 k1⟩
end
end AN

set_option Elab.async false
set_option maxRecDepth 100000
set_option autoImplicit false
set_option linter.unusedVariables false
namespace AN
open PySem L2

/-! ### targets -/
section
variable {B : Bx} {X : Cx} {W : WX} {F H F1 H1 F2 H2 : Hp} {env e1 e2 : Env} {σ σ1 σ2 : St} {tg e : Expr} {ts : List Expr} {pos : Pos}
/-- only the slots ns were stored -/
structure Only1 (ns : List Nat) (env env' : Env) (σ σ' : St) : Prop where
  len : σ'.length = σ.length
  rest : ∀ j, j ∉ ns → σ'[j]? = σ[j]?
  le : EnvLe env env'
def tG (B : Bx) (ts : List Nat) (g : D → Env → Option Env) : TG := fun v σ H Q => ∃ F env d env', Sim B F env σ H ∧ Rep B F d v ∧ g d env = some env' ∧ ∀ σ', Go B F env σ H F env' σ' H → Only1 ts env env' σ σ' → Q σ' H
def tGs (B : Bx) (ts : List Nat) (g : List D → Env → Option Env) : TGs := fun vs σ H Q => ∃ F env ds env', Sim B F env σ H ∧ RepL B F ds vs ∧ g ds env = some env' ∧ ∀ σ', Go B F env σ H F env' σ' H → Only1 ts env env' σ σ' → Q σ' H
abbrev DG (B : Bx) (X : Cx) (tg : Expr) (ns : List Nat) (g : D → Env → Option Env) : Prop := PG X tg (tG B ns g)
abbrev DGs (B : Bx) (X : Cx) (ts : List Expr) (ns : List Nat) (g : List D → Env → Option Env) : Prop := PGs X ts (tGs B ns g)
theorem PG.imp {t t' : TG} (h : PG X tg t) (i : ∀ v σ H Q, t' v σ H Q → t v σ H Q) : PG X tg t' := ⟨fun pins s σ H v u Q I r q => h.run pins s σ H v u Q I r (i v σ H Q q)⟩
theorem PGs.imp {t t' : TGs} (h : PGs X ts t) (i : ∀ v σ H Q, t' v σ H Q → t v σ H Q) : PGs X ts t' := ⟨fun pins s σ H v u Q I r q => h.run pins s σ H v u Q I r (i v σ H Q q)⟩
def gN (i : Nat) (d : D) (env : Env) : Option Env := match env[i]? with
  | some (.ow true _) => none
  | some _ => some (env.set i (.fz d))
  | none => none
theorem gN_ok {i : Nat} {d : D} {env' : Env} (h : gN i d env = some env') : (∃ s0, env[i]? = some s0) ∧ (∀ o, env[i]? ≠ some (.ow true o)) ∧ env' = env.set i (.fz d) := by
  unfold gN at h
  cases q : env[i]? with
  | none => simp only [q] at h; cases h
  | some s =>
    cases s with
    | no => simp only [q] at h; exact ⟨⟨_, rfl⟩, (fun o z => nomatch z), (Option.some.inj h).symm⟩
    | fz d => simp only [q] at h; exact ⟨⟨_, rfl⟩, (fun o z => nomatch z), (Option.some.inj h).symm⟩
    | ow k o =>
      cases k with
      | true => simp only [q] at h; cases h
      | false => simp only [q] at h; exact ⟨⟨_, rfl⟩, (fun o z => nomatch z), (Option.some.inj h).symm⟩
theorem dg_n (i : Nat) {x : Str} (hN : X.N.Nodup) (hi : X.N[i]? = some x := by rfl) (hx : Loc X.env.scope x := by first | exact Or.inl rfl | exact Or.inr rfl) (hf : X.fn x = true ∨ X.env.scope.names.lookup x = some .local := by first | exact .inl rfl | exact .inr rfl) : DG B X (.Name x pos) [i] (gN i) :=
  PG.imp (pg_name hN hi hx hf) fun v σ H Q h => by
    obtain ⟨F, env, d, env', S, r, e, k⟩ := h
    obtain ⟨⟨s0, h0⟩, h1, rfl⟩ := gN_ok e
    exact k _ (S.setD h0 h1 r) ⟨List.length_set, fun j hj => List.getElem?_set_ne fun z => hj (by simp [z]), EnvLe.set h1 (fun _ _ z => nomatch z)⟩
def gs0 (ds : List D) (env : Env) : Option Env := match ds with
  | [] => some env
  | _ => none
def gs (g : D → Env → Option Env) (r : List D → Env → Option Env) (ds : List D) (env : Env) : Option Env := match ds with
  | d :: ds => (g d env).bind (r ds)
  | [] => none
theorem dgs0 : DGs B X [] [] gs0 := PGs.imp pgs_nil fun v σ H Q h => by
  obtain ⟨F, env, d, env', S, r, e, k⟩ := h
  cases d with
  | nil => cases e; exact ⟨r, k _ (Go.refl S) ⟨rfl, fun _ _ => rfl, EnvLe.refl _⟩⟩
  | cons _ _ => cases e
theorem dgs {n1 n2 : List Nat} {g : D → Env → Option Env} {r : List D → Env → Option Env} (h1 : DG B X e n1 g) (h2 : DGs B X ts n2 r) (hs : (assignEach (e :: ts) X.env).map (·.2) = assign e X.env :: (assignEach ts X.env).map (·.2) := by rfl) : DGs B X (e :: ts) (n1 ++ n2) (gs g r) :=
  PGs.imp (pgs_cons h1 h2 hs) fun v σ H Q h => by
    obtain ⟨F, env, d, env', S, rp, e, k⟩ := h
    cases d with
    | nil => cases e
    | cons d ds =>
      obtain ⟨v1, vr, rfl, r1, r2⟩ := rp
      obtain ⟨e1, a1, a2⟩ := Option.bind_eq_some_iff.mp e
      exact ⟨v1, vr, rfl, F, env, d, e1, S, r1, a1, fun σ1 g1 w1 => ⟨F, e1, ds, env', g1.sim, r2, a2, fun σ2 g2 w2 => k σ2 (g1.trans g2) ⟨w2.len.trans w1.len, fun j hj => (w2.rest j fun z => hj (List.mem_append_right _ z)).trans (w1.rest j fun z => hj (List.mem_append_left _ z)), w1.le.trans w2.le⟩⟩⟩
def gT (n : Nat) (g : List D → Env → Option Env) (d : D) (env : Env) : Option Env := match d with
  | .tup ds => if ds.length = n then g ds env else none
  | .lst ds => if ds.length = n then g ds env else none
  | _ => none
theorem PG.or {t t' : TG} (h : PG X tg t) (h' : PG X tg t') : PG X tg (fun v σ H Q => t v σ H Q ∨ t' v σ H Q) := ⟨fun pins s σ H v u Q I r q => q.elim (h.run pins s σ H v u Q I r) (h'.run pins s σ H v u Q I r)⟩
theorem dg_t {es : List Expr} {k : Nat} {ns : List Nat} {g : List D → Env → Option Env} {n : Nat} (hK : X.K = B.K) (hc : X.calm = true) (h : DGs B X es ns g) (hn : (assignEach es X.env).length = n := by rfl) (hst : (assignEach es X.env).findIdx? (·.1) = none := by rfl) : DG B X (.Tuple es k pos) ns (gT n g) :=
  PG.imp (PG.or (pg_tup hc h hn hst) (pg_unl hc h hn hst)) fun v σ H Q h => by
    obtain ⟨F, env, d, env', S, rp, e, k⟩ := h
    cases d with
    | tup ds =>
      obtain ⟨p, vs, rfl, a, z, r⟩ := rp
      dsimp only [gT] at e
      by_cases hl : ds.length = n
      · rw [if_pos hl] at e
        exact .inl ⟨p, vs, rfl, by rw [hK]; exact a.sq S.hold, by rw [r.length]; exact hl, F, env, ds, env', S, r, e, k⟩
      · rw [if_neg hl] at e; cases e
    | lst ds =>
      obtain ⟨p, vs, rfl, a, z, r⟩ := rp
      dsimp only [gT] at e
      by_cases hl : ds.length = n
      · rw [if_pos hl] at e
        exact .inr ⟨p, vs, rfl, by rw [hK]; exact a.sq S.hold, by rw [r.length]; exact hl, F, env, ds, env', S, r, e, k⟩
      · rw [if_neg hl] at e; cases e
    | _ => cases e
def mAsg (g : D → Env → Option Env) (m : M Opd) : M Fl := M.bind m fun x => M.bind (frz1 x) fun d env => match g d env with
  | some e => .ok .nx e
  | none => .bad
theorem ds_asg {ns : List Nat} {g : D → Env → Option Env} {ma : M Opd} (he : DE B X W e ma) (hg : DG B X tg ns g) (hs : swapsWithSole [tg] e pos.line X.env = pure false := by rfl) (hw : swappedStores [tg] e X.env = pure none := by rfl)
    (h1 : (assignEach [tg] X.env).map (·.2) = [assign tg X.env] := by rfl) : DS B X W (.Assign [tg] e pos) (mAsg g ma) := PS.imp (ps_asg he hg hs hw h1) fun D σ H h => by
  obtain ⟨F, env, S, h⟩ := h
  refine ⟨F, env, S, h.bind.mono fun x e1 F1 H1 s1 m1 o1 k1 v rv => ?_⟩
  obtain ⟨d, e2, F2, s2, m2, o2, r2, k2⟩ := m1.frz1 rv k1.bind
  cases q : g d e2 with
  | none => simp only [q] at k2; exact k2.elim
  | some e3 =>
    simp only [q] at k2
    exact ⟨F2, e2, d, e3, m2, r2, q, fun σ' g' _ => k2 _ _ _ g'⟩

/-! ### what a loop walks -/
def Iter (B : Bx) (F : Hp) (J : It) (ds : List D) : Prop := ∀ (i : Nat) (F1 H1 : Hp), Le F F1 → Holds F1 H1 →
  (∀ d, ds[i]? = some d → J.go i H1 ∧ ∀ x H2, J.yld i H1 x H2 → ∃ F2, Step0 F1 H1 F2 H2 ∧ Holds F2 H2 ∧ Rep B F2 d x) ∧ (i = ds.length → J.stop i H1)
def tI (B : Bx) (W : WX) (m : M (List D)) : TI := fun σ H R => ∃ F env, Sim B F env σ H ∧ Post B W F env σ H (fun ds _ F' H' => ∀ J, Iter B F' J ds → R J H') (m env)
abbrev DI (B : Bx) (X : Cx) (W : WX) (tg iter : Expr) (m : M (List D)) : Prop := PI X tg iter (tI B W m)
theorem PI.imp {t t' : TI} (h : PI X tg e t) (i : ∀ σ H R, t' σ H R → t σ H R) : PI X tg e t' := ⟨fun pins s σ H R I q => h.run pins s σ H R I (i σ H R q)⟩
theorem PI.or {t t' : TI} (h : PI X tg e t) (h' : PI X tg e t') : PI X tg e (fun σ H R => t σ H R ∨ t' σ H R) := ⟨fun pins s σ H R I q => q.elim (h.run pins s σ H R I) (h'.run pins s σ H R I)⟩
def opt {α : Type} (o : Option α) : M α := fun env => match o with
  | some a => .ok a env
  | none => .bad
theorem Post.opt {α : Type} {o : Option α} {k : α → Env → Hp → Hp → Prop} (S : Sim B F env σ H) (h : Post B W F env σ H k (opt o env)) : ∃ a, o = some a ∧ k a env F H := by
  cases o with
  | none => exact h.elim
  | some a => exact ⟨a, rfl, h F H (Step.refl _ _ _) S (EnvLe.refl _)⟩
def sign (c : Nat) : D := .str ⟨#[c]⟩
def signs (s : Str) : List D := s.cps.toList.map sign
def seqOf : D → Option (List D)
  | .lst xs => some xs
  | .tup xs => some xs
  | .str s => some (signs s)
  | _ => none
def mIt (m : M Opd) : M (List D) := M.bind m fun x => M.bind (frz1 x) fun d => opt (seqOf d)
theorem iter_list {a : Addr} {vs : List V} {ds : List D} (h : LAt B F a vs) (r : RepL B F ds vs) : Iter B F (Itl B.K a) ds := fun i F1 H1 l hh => by
  have hs : SqL B.K H1 a vs := (h.mono l).sq hh
  refine ⟨fun d e => ?_, fun e => ⟨vs, hs, by rw [r.length, e]; exact Nat.le_refl _⟩⟩
  obtain ⟨v, hv, rv⟩ := r.get e
  refine ⟨⟨vs, v, hs, hv⟩, fun x H2 y => ?_⟩
  obtain ⟨rfl, y⟩ := y
  have := y vs hs
  rw [hv] at this; cases this
  exact ⟨F1, Step.refl _ _ _, hh, Rep.mono l d v rv⟩
theorem iter_tup {a : Addr} {vs : List V} {ds : List D} (h : TAt B F a vs) (r : RepL B F ds vs) : Iter B F (Itt B.K a) ds := fun i F1 H1 l hh => by
  have hs : SqT B.K H1 a vs := (h.mono l).sq hh
  refine ⟨fun d e => ?_, fun e => ⟨vs, hs, by rw [r.length, e]; exact Nat.le_refl _⟩⟩
  obtain ⟨v, hv, rv⟩ := r.get e
  refine ⟨⟨vs, v, hs, hv⟩, fun x H2 y => ?_⟩
  obtain ⟨rfl, y⟩ := y
  have := y vs hs
  rw [hv] at this; cases this
  exact ⟨F1, Step.refl _ _ _, hh, Rep.mono l d v rv⟩
theorem okS_sign {s : Str} {c : Nat} (h : okS s) (hc : c ∈ s.cps.toList) : okS ⟨#[c]⟩ := by
  refine ⟨by show 1 ≤ sizeLine; decide, ?_⟩
  have h2 := h.2
  unfold PyData.strOk at h2 ⊢
  rw [← Array.all_toList] at h2 ⊢
  simp only [List.all_cons, List.all_nil, Bool.and_true]
  exact List.all_eq_true.mp h2 c hc
theorem iter_str {s : Str} (h : okS s) : Iter B F (Its s) (signs s) := fun i F1 H1 l hh => by
  have hl : (signs s).length = s.cps.size := by simp [signs]
  refine ⟨fun d e => ?_, fun e => ?_⟩
  · have hi : i < (signs s).length := (List.getElem?_eq_some_iff.mp e).1
    refine ⟨by show i < s.cps.size; omega, fun x H2 y => ?_⟩
    obtain ⟨rfl, c, hc, rfl⟩ := y
    have e2 : (signs s)[i]? = some (sign c) := by
      unfold signs
      rw [List.getElem?_map, Array.getElem?_toList, hc]; rfl
    rw [e] at e2; cases e2
    exact ⟨F1, Step.refl _ _ _, hh, rfl, okS_sign h (by rw [Array.mem_toList_iff]; exact Array.mem_of_getElem? hc)⟩
  · show s.cps.size ≤ i
    omega
theorem frz1_exc {x : Opd} {c : String} {d : D} {e' : Env} : AN.frz1 x env ≠ .exc c d e' := by
  unfold AN.frz1
  cases x with
  | d _ => exact fun z => nomatch z
  | sl i =>
    dsimp only
    split <;> exact fun z => nomatch z
theorem di_seq {ma : M Opd} (hK : X.K = B.K) (he : DE B X W e ma) : DI B X W tg e (mIt ma) :=
  PI.imp (PI.or (pi_list he) (PI.or (pi_tup he) (pi_str he))) fun σ H R h => by
    obtain ⟨F, env, S, h⟩ := h
    unfold mIt at h
    have hb := Post.bind S h
    cases q : ma env with
    | bad => rw [q] at hb; exact hb.elim
    | exc c d e' => rw [q] at hb; exact .inl ⟨F, env, S, by rw [q]; exact hb⟩
    | ok x e1 =>
      rw [q] at hb
      cases q2 : AN.frz1 x e1 with
      | bad =>
        refine .inl ⟨F, env, S, ?_⟩
        rw [q]
        intro F1 H1 s1 m1 l1
        have := Post.bind m1 (hb F1 H1 s1 m1 l1)
        rw [q2] at this
        exact this.elim
      | exc c d e' => exact absurd q2 frz1_exc
      | ok d e2 =>
        have fin : ∀ F1 H1, Step (Own env σ) F H F1 H1 → Sim B F1 e1 σ H1 → EnvLe env e1 → ∀ v, OpdRel B F1 σ v x → ∃ F2, Holds F2 H1 ∧ Rep B F2 d v ∧ ∃ ds, seqOf d = some ds ∧ ∀ J, Iter B F2 J ds → R J H1 := fun F1 H1 s1 m1 l1 v rv => by
          have hb1 := hb F1 H1 s1 m1 l1
          obtain ⟨d', e2', F2, s2, m2, o2, r2, k2⟩ := m1.frz1 (W := W) rv (k := fun d' e' F' H' => d' = d ∧ Post B W F' e' σ H' (fun ds _ F' H' => ∀ J, Iter B F' J ds → R J H') (opt (seqOf d) e')) (by
            have := Post.bind m1 hb1
            rw [q2] at this ⊢
            exact fun F' H' a b c => ⟨rfl, this F' H' a b c⟩)
          obtain ⟨rfl, k2⟩ := k2
          obtain ⟨ds, e3, k3⟩ := Post.opt m2 k2
          exact ⟨F2, m2.hold, r2, ds, e3, k3⟩
        have go : ∀ (k : V → Hp → Prop), (∀ v F2 H1, Holds F2 H1 → Rep B F2 d v → (∃ ds, seqOf d = some ds ∧ ∀ J, Iter B F2 J ds → R J H1) → k v H1) → tE B W ma σ H k := fun k hk => ⟨F, env, S, by
          rw [q]
          exact fun F1 H1 s1 m1 l1 v rv => by
            obtain ⟨F2, hh, r2, z⟩ := fin F1 H1 s1 m1 l1 v rv
            exact hk v F2 H1 hh r2 z⟩
        cases d with
        | lst xs =>
          refine .inl (go _ fun v F2 H1 hh r2 ⟨ds, e3, k3⟩ => ?_)
          cases e3
          obtain ⟨p, vs, rfl, a, z, r⟩ := r2
          rw [hK]
          exact ⟨p, rfl, ⟨vs, a.sq hh⟩, k3 _ (iter_list a r)⟩
        | tup xs =>
          refine .inr (.inl (go _ fun v F2 H1 hh r2 ⟨ds, e3, k3⟩ => ?_))
          cases e3
          obtain ⟨p, vs, rfl, a, z, r⟩ := r2
          rw [hK]
          exact ⟨p, rfl, ⟨vs, a.sq hh⟩, k3 _ (iter_tup a r)⟩
        | str s =>
          refine .inr (.inr (go _ fun v F2 H1 hh r2 ⟨ds, e3, k3⟩ => ?_))
          cases e3
          obtain ⟨rfl, ok⟩ := r2
          exact ⟨s, rfl, k3 _ (iter_str ok)⟩
        | _ => exact .inl (go _ fun v F2 H1 hh r2 ⟨ds, e3, k3⟩ => by cases e3)
def nums (lo : Int) (n : Nat) : List D := (List.range n).map fun k => .int (lo + (k : Nat))
theorem iter_rng {lo : Int} {n : Nat} : Iter B F (Itr lo n) (nums lo n) := fun i F1 H1 l hh => by
  have hl : (nums lo n).length = n := by simp [nums]
  refine ⟨fun d e => ?_, fun e => by show n ≤ i; omega⟩
  have hi : i < n := by
    have := (List.getElem?_eq_some_iff.mp e).1
    omega
  refine ⟨hi, fun x H2 y => ?_⟩
  obtain ⟨rfl, rfl⟩ := y
  have e2 : (nums lo n)[i]? = some (.int (lo + (i : Nat))) := by
    unfold nums
    rw [List.getElem?_map, List.getElem?_range hi]; rfl
  rw [e] at e2; cases e2
  exact ⟨F1, Step.refl _ _ _, hh, rfl⟩
def rng1 : D → Option (List D)
  | .int j => if -(2 ^ 62) ≤ j ∧ j < 2 ^ 62 then some (nums 0 j.toNat) else none
  | _ => none
def mRng1 (m : M Opd) : M (List D) := mB1 rng1 m
theorem di_range1 {a : Expr} {ma : M Opd} {p : Pos} (ha : DE B X W a ma) (hm : X.mg "range" = none) (hg : Gl X "range" := by rfl) (hs : starEach [a] X.env = [(false, eval a X.env)] := by rfl) (hs1 : starEach [a] X.env = (false, eval a X.env) :: starEach [] X.env := by rfl) :
    DI B X W tg (.Call (.Name "range" p) [a] [] pos) (mRng1 ma) := PI.imp (pi_range1 hg hm (pa_cons ha pa_nil hs1) hs) fun σ H R h => by
  obtain ⟨F, env, S, h⟩ := h
  refine tE.one (g := AN.ap1 rng1) S h fun x e2 F2 H2 v s2 m2 o2 rv k2 => ?_
  obtain ⟨a, z, ea, ez, k3⟩ := k2.ap1
  cases a with
  | int j =>
    cases (show v = .int j from m2.view rv ea)
    dsimp only [rng1] at ez
    by_cases hj : -(2 ^ 62) ≤ j ∧ j < 2 ^ 62
    · rw [if_pos hj] at ez
      cases ez
      exact ⟨j, rfl, hj.1, hj.2, Post.here m2 k3 _ iter_rng⟩
    · rw [if_neg hj] at ez; cases ez
  | _ => cases ez

/-! ### for -/
def loop (g : D → Env → Option Env) (body : M Fl) : List D → M Fl
  | [] => fun env => .ok .nx env
  | d :: ds => fun env => match g d env with
    | none => .bad
    | some e1 => match body e1 with
      | .ok .nx e2 => loop g body ds e2
      | .ok .ct e2 => loop g body ds e2
      | .ok .bk e2 => .ok .nx e2
      | .ok (.rt d) e2 => .ok (.rt d) e2
      | .ok (.ro o) e2 => .ok (.ro o) e2
      | .exc c d e2 => .exc c d e2
      | .bad => .bad
def mFor (it : M (List D)) (g : D → Env → Option Env) (body : M Fl) : M Fl := M.bind it fun ds => loop g body ds
theorem loop_ok {g : D → Env → Option Env} {body : M Fl} {D0 : Ends} {J : It} {ds : List D} {tb : TS} {ns : List Nat} (S : Sim B F env σ H) (it : Iter B F J ds) (hb : ∀ D σ H, tS B W body D σ H → tb D σ H) (h : PostS B W F env σ H D0 (loop g body ds env)) :
    ∃ Wv : Nat → Nat → St → Hp → Prop, (∃ m, Wv 0 m σ H) ∧ ∀ i m σ H, Wv i m σ H →
      (J.stop i H ∧ D0.nx σ H) ∨ (J.go i H ∧ ∃ N : St → Hp → Prop, (∀ σ' H', N σ' H' → ∃ m', m' < m ∧ Wv (i + 1) m' σ' H') ∧ ∀ x H', J.yld i H x H' → tG B ns g x σ H' fun σ2 H2 => tb { D0 with nx := N, ct := N, bk := D0.nx } σ2 H2) := by
  refine ⟨fun i m σ' H' => i ≤ ds.length ∧ m = ds.length - i ∧ ∃ F' e', Le F F' ∧ Sim B F' e' σ' H' ∧ PostS B W F' e' σ' H' D0 (loop g body (ds.drop i) e'), ⟨ds.length, Nat.zero_le _, rfl, F, env, Le.refl F, S, h⟩, ?_⟩
  rintro i m σ1 H1 ⟨hi, rfl, F1, e1, l1, S1, k1⟩
  obtain ⟨it1, it2⟩ := it i F1 H1 l1 S1.hold
  cases q : ds[i]? with
  | none =>
    have e : i = ds.length := by
      have := List.getElem?_eq_none_iff.mp q
      omega
    left
    rw [e, List.drop_length] at k1
    exact ⟨it2 e, k1 σ1 F1 H1 (Go.refl S1)⟩
  | some d =>
    right
    obtain ⟨go, yl⟩ := it1 d q
    have hlt : i < ds.length := (List.getElem?_eq_some_iff.mp q).1
    have hd : ds.drop i = d :: ds.drop (i + 1) := by
      rw [List.drop_eq_getElem_cons hlt]
      congr 1
      exact (List.getElem?_eq_some_iff.mp q).2
    rw [hd] at k1
    refine ⟨go, fun σ' H' => i + 1 ≤ ds.length ∧ ∃ F' e', Le F F' ∧ Sim B F' e' σ' H' ∧ PostS B W F' e' σ' H' D0 (loop g body (ds.drop (i + 1)) e'), fun σ' H' z => ⟨ds.length - (i + 1), by omega, z.1, rfl, z.2⟩, fun x H2 y => ?_⟩
    obtain ⟨F2, s2, h2, r2⟩ := yl x H2 y
    have S2 := S1.step0 s2 h2
    have g2 : Go B F1 e1 σ1 H1 F2 e1 σ1 H2 := Go.of s2.any S2 (EnvLe.refl _)
    have k2 : PostS B W F2 e1 σ1 H2 D0 (loop g body (d :: ds.drop (i + 1)) e1) := k1.from g2
    unfold loop at k2
    cases qg : g d e1 with
    | none => simp only [qg] at k2; exact k2.elim
    | some e3 =>
      simp only [qg] at k2
      refine ⟨F2, e1, d, e3, S2, r2, qg, fun σ3 g3 _ => hb _ _ _ ⟨F2, e3, g3.sim, ?_⟩⟩
      have k3 := k2.from g3
      have lF : Le F F2 := l1.trans s2.le
      cases qb : body e3 with
      | bad => simp only [qb] at k3; exact k3
      | exc c d' e4 => simp only [qb] at k3; exact k3
      | ok f e4 =>
        simp only [qb] at k3
        cases f with
        | nx => exact fun σ' F' H' g' => ⟨hlt, F', e4, lF.trans g'.step.le, g'.sim, k3.from g'⟩
        | ct => exact fun σ' F' H' g' => ⟨hlt, F', e4, lF.trans g'.step.le, g'.sim, k3.from g'⟩
        | bk => exact k3
        | rt d' => exact k3
        | ro o => exact k3
theorem ds_for {iter : Expr} {body : List Stmt} {mi : M (List D)} {ns : List Nat} {g : D → Env → Option Env} {mb : M Fl} (hp : PassesOwn (model X.prog X.w) X.A X.env X.xe) (hc : X.calm = true) (hi : DI B X W tg iter mi) (hg : DG B X tg ns g) (hb : DSs B X W body mb)
    (hs : ∀ x, foldedSetIterable iter X.env x = pure x := by intro _; rfl) : DS B X W (.For tg iter body [] pos) (mFor mi g mb) := PS.imp (ps_for hp hc hi hg hb hs) fun D σ H h => by
  obtain ⟨F, env, S, h⟩ := h
  exact ⟨F, env, S, h.bind.mono fun ds e1 F1 H1 s1 m1 o1 k1 J it => loop_ok m1 it (fun _ _ _ z => z) k1⟩
/-! ### while -/
def mWhile (t : M Bool) (body : M Fl) : Nat → M Fl
  | 0 => fun _ => .bad
  | n + 1 => M.bind t fun c => if c = true then fun env => (match body env with
      | .ok .nx e2 => mWhile t body n e2
      | .ok .ct e2 => mWhile t body n e2
      | .ok .bk e2 => .ok .nx e2
      | .ok (.rt d) e2 => .ok (.rt d) e2
      | .ok (.ro o) e2 => .ok (.ro o) e2
      | .exc c d e2 => .exc c d e2
      | .bad => .bad) else mNx
theorem ds_while (n : Nat) {c : Expr} {body : List Stmt} {mt : M Bool} {mb : M Fl} (hp : PassesOwn (model X.prog X.w) X.A X.env X.xe) (hc : DT B X W c mt) (hb : DSs B X W body mb) : DS B X W (.While c body [] pos) (mWhile mt mb n) :=
  PS.imp (ps_while hp hc hb) fun D σ H h => by
    obtain ⟨F, env, S, h⟩ := h
    refine ⟨fun m σ' H' => ∃ F' e', Sim B F' e' σ' H' ∧ PostS B W F' e' σ' H' D (mWhile mt mb m e'), ⟨n, F, env, S, h⟩, ?_⟩
    rintro m σ1 H1 ⟨F1, e1, S1, k1⟩
    cases m with
    | zero => exact k1.elim
    | succ m =>
      refine ⟨F1, e1, S1, (PostS.bind (k := fun c => if c = true then _ else mNx) k1).mono fun c e2 F2 H2 s2 m2 o2 k2 => ?_⟩
      cases c with
      | false => exact iteF (PostS.here m2 k2)
      | true =>
        refine iteT ⟨fun σ' H' => ∃ F' e', Sim B F' e' σ' H' ∧ PostS B W F' e' σ' H' D (mWhile mt mb m e'), fun σ' H' z => ⟨m, Nat.lt_succ_self m, z⟩, F2, e2, m2, ?_⟩
        have k2 : PostS B W F2 e2 σ1 H2 D (match mb e2 with
          | .ok .nx e2 => mWhile mt mb m e2
          | .ok .ct e2 => mWhile mt mb m e2
          | .ok .bk e2 => .ok .nx e2
          | .ok (.rt d) e2 => .ok (.rt d) e2
          | .ok (.ro o) e2 => .ok (.ro o) e2
          | .exc c d e2 => .exc c d e2
          | .bad => .bad) := k2
        cases qb : mb e2 with
        | bad => simp only [qb] at k2; exact k2
        | exc c d' e4 => simp only [qb] at k2; exact k2
        | ok f e4 =>
          simp only [qb] at k2
          cases f with
          | nx => exact fun σ' F' H' g' => ⟨F', e4, g'.sim, k2.from g'⟩
          | ct => exact fun σ' F' H' g' => ⟨F', e4, g'.sim, k2.from g'⟩
          | bk => exact k2
          | rt d' => exact k2
          | ro o => exact k2
end
end AN

set_option Elab.async false
set_option maxRecDepth 100000
set_option autoImplicit false
set_option linter.unusedVariables false
namespace AN
open PySem L2

/-! ### a comprehension's own names -/
def wipeE (vs : List Nat) : Nat → Env → Env
  | _, [] => []
  | n, s :: e => (if n ∈ vs then .no else s) :: wipeE vs (n + 1) e
def restE (vs : List Nat) : Nat → Env → Env → Env
  | n, s :: e, t :: f => (if n ∈ vs then s else t) :: restE vs (n + 1) e f
  | _, _, f => f
theorem wipeE_len (vs : List Nat) : ∀ (n : Nat) (e : Env), (wipeE vs n e).length = e.length
  | _, [] => rfl
  | n, s :: e => by show _ + 1 = _ + 1; rw [wipeE_len vs (n + 1) e]
theorem wipeE_get (vs : List Nat) : ∀ (n : Nat) (e : Env) (i : Nat), (wipeE vs n e)[i]? = if n + i ∈ vs then e[i]?.map (fun _ => .no) else e[i]?
  | n, [], i => by simp [wipeE]
  | n, s :: e, 0 => by
    unfold wipeE
    by_cases h : n ∈ vs <;> simp [h]
  | n, s :: e, i + 1 => by
    unfold wipeE
    simp only [List.getElem?_cons_succ]
    rw [wipeE_get vs (n + 1) e i, show n + 1 + i = n + (i + 1) by omega]
theorem restE_len (vs : List Nat) : ∀ (n : Nat) (e f : Env), (restE vs n e f).length = f.length
  | n, s :: e, t :: f => by show _ + 1 = _ + 1; rw [restE_len vs (n + 1) e f]
  | _, [], f => by simp [restE]
  | _, _ :: _, [] => by simp [restE]
theorem restE_get (vs : List Nat) : ∀ (n : Nat) (e f : Env) (i : Nat), e.length = f.length → (restE vs n e f)[i]? = if n + i ∈ vs then e[i]? else f[i]?
  | n, [], [], i, _ => by simp [restE]
  | n, [], _ :: _, i, h => by simp at h
  | n, _ :: _, [], i, h => by simp at h
  | n, s :: e, t :: f, 0, _ => by
    unfold restE
    by_cases h : n ∈ vs <;> simp [h]
  | n, s :: e, t :: f, i + 1, h => by
    unfold restE
    simp only [List.getElem?_cons_succ]
    rw [restE_get vs (n + 1) e f i (by simpa using h), show n + 1 + i = n + (i + 1) by omega]
theorem wipe_get {σ : St} {i : Nat} : ∀ {vs : List Nat}, i ∉ vs → (wipe σ vs)[i]? = σ[i]?
  | [], _ => rfl
  | v :: vs, h => by
    unfold wipe
    rw [List.getElem?_set_ne (fun z => h (by simp [z]))]
    exact wipe_get (fun z => h (List.mem_cons_of_mem _ z))
theorem wipe_in {σ : St} {i : Nat} : ∀ {vs : List Nat}, i ∈ vs → (wipe σ vs)[i]? = σ[i]?.map fun _ => none
  | v :: vs, h => by
    unfold wipe
    by_cases e : v = i
    · subst e
      by_cases hl : v < (wipe σ vs).length
      · rw [List.getElem?_set_self hl]
        rw [wipe_length] at hl
        rw [List.getElem?_eq_getElem hl]; rfl
      · rw [List.getElem?_eq_none (by simpa using hl)]
        rw [wipe_length] at hl
        rw [List.getElem?_eq_none (by omega)]; rfl
    · rw [List.getElem?_set_ne e]
      refine wipe_in ?_
      rcases List.mem_cons.mp h with z | z
      · exact absurd z.symm e
      · exact z
theorem wipe_eq {σ σ2 : St} {vs : List Nat} (hl : σ2.length = σ.length) (h : ∀ j, j ∉ vs → σ2[j]? = (wipe σ vs)[j]?) : wipe σ2 vs = wipe σ vs := by
  apply List.ext_getElem?
  intro i
  by_cases hi : i ∈ vs
  · rw [wipe_in hi, wipe_in hi]
    by_cases hl' : i < σ.length
    · rw [List.getElem?_eq_getElem hl', List.getElem?_eq_getElem (by omega)]; rfl
    · rw [List.getElem?_eq_none (by omega), List.getElem?_eq_none (by omega)]
  · rw [wipe_get hi, h i hi]
section
variable {B : Bx} {X : Cx} {W : WX} {F H F1 H1 F2 H2 : Hp} {env e1 e2 : Env} {σ σ1 σ2 : St}
theorem wipeE_some {vs : List Nat} {i : Nat} {s : Slot} (h : (wipeE vs 0 env)[i]? = some s) (hs : s ≠ .no) : i ∉ vs ∧ env[i]? = some s := by
  rw [wipeE_get] at h
  simp only [Nat.zero_add] at h
  by_cases hi : i ∈ vs
  · rw [if_pos hi] at h
    cases q : env[i]? with
    | none => rw [q] at h; cases h
    | some t => rw [q] at h; cases h; exact absurd rfl hs
  · rw [if_neg hi] at h; exact ⟨hi, h⟩
theorem Sim.wiped (vs : List Nat) (S : Sim B F env σ H) : Sim B F (wipeE vs 0 env) (wipe σ vs) H where
  hold := S.hold
  len := by rw [wipeE_len, wipe_length]; exact S.len
  fz := fun i d q => by
    obtain ⟨hi, e⟩ := wipeE_some q (fun z => nomatch z)
    rw [wipe_get hi]; exact S.fz i d e
  ow := fun i k o q => by
    obtain ⟨hi, e⟩ := wipeE_some q (fun z => nomatch z)
    rw [wipe_get hi]; exact S.ow i k o e
  sep := fun j j' k1 o1 k2 o2 q a1 a2 b1 b2 => by
    obtain ⟨h1, c1⟩ := wipeE_some a1 (fun z => nomatch z)
    obtain ⟨h2, c2⟩ := wipeE_some a2 (fun z => nomatch z)
    rw [wipe_get h1] at b1
    rw [wipe_get h2] at b2
    exact S.sep j j' k1 o1 k2 o2 q c1 c2 b1 b2
/-- the same state, the block's names forgotten again -/
theorem Sim.wiped2 {vs : List Nat} {σ0 : St} (S : Sim B F env σ H) (h : wipe σ vs = wipe σ0 vs) : Sim B F (wipeE vs 0 env) (wipe σ0 vs) H := by
  rw [← h]; exact S.wiped vs
theorem wiped_own {vs : List Nat} {b : Addr} (h : Own (wipeE vs 0 env) (wipe σ vs) b) : Own env σ b := by
  obtain ⟨i, k, o, q, z⟩ := h
  obtain ⟨hi, e⟩ := wipeE_some q (fun z => nomatch z)
  rw [wipe_get hi] at z
  exact ⟨i, k, o, e, z⟩
def lc (vs : List Nat) (g : D → Env → Option Env) (mt : M Bool) (me : M Opd) : List D → List D → Env → R (List D)
  | [], acc, env => .ok acc env
  | d :: ds, acc, env => match g d env with
    | none => .bad
    | some e1 => match mt e1 with
      | .ok false e2 => lc vs g mt me ds acc (wipeE vs 0 e2)
      | .ok true e2 => match M.bind me frz1 e2 with
        | .ok y e3 => lc vs g mt me ds (acc ++ [y]) (wipeE vs 0 e3)
        | _ => .bad
      | _ => .bad
def mLC (vs : List Nat) (it : M (List D)) (g : D → Env → Option Env) (mt : M Bool) (me : M Opd) : M O := M.bind it fun ds env => if ds.length ≤ sizeLine then (match lc vs g mt me ds [] (wipeE vs 0 env) with
  | .ok acc e2 => .ok (.lst acc) (restE vs 0 env e2)
  | _ => .bad) else .bad
abbrev WF : WX := fun _ _ _ _ => False
abbrev DTs (B : Bx) (X : Cx) (W : WX) (es : List Expr) (m : M Bool) : Prop := PTs X es (tT B W m)
theorem dts0 : DTs B X W [] (M.pure true) := ⟨fun pins s σ H Q I h => by
  obtain ⟨F, env, S, h⟩ := h
  exact pts_nil.run pins s σ H Q I (Post.here S h)⟩
theorem dts1 {c : Expr} {m : M Bool} (h : DT B X W c m) : DTs B X W [c] m := pts_one h
theorem Sim.updD {Dd : Addr} {u : HO} (S : Sim B F env σ H) (hf : F Dd = none) (hn : ¬ Own env σ Dd) : Sim B F env σ (upd H Dd u) where
  hold := fun b w e => by
    have : b ≠ Dd := fun z => by rw [z, hf] at e; cases e
    rw [upd_ne this]; exact S.hold b w e
  len := S.len
  fz := S.fz
  ow := fun i k o q => by
    obtain ⟨p, a, b, c⟩ := S.ow i k o q
    have : p ≠ Dd := fun z => hn ⟨i, k, o, q, by rw [← z]; exact a⟩
    exact ⟨p, a, b, c.mono (Le.refl _) fun u e => by rw [upd_ne this]; exact e⟩
  sep := S.sep
theorem wipeE_le {vs : List Nat} {e0 e e' : Env} (h : EnvLe (wipeE vs 0 e0) e) (h' : EnvLe e e') : EnvLe (wipeE vs 0 e0) (wipeE vs 0 e') where
  dn := fun i k o q => by
    obtain ⟨hi, a⟩ := wipeE_some q (fun z => nomatch z)
    exact (h.trans h').dn i k o a
  up := fun i o q => by
    obtain ⟨hi, _⟩ := wipeE_some q (fun z => nomatch z)
    obtain ⟨o', a⟩ := (h.trans h').up i o q
    exact ⟨o', by rw [wipeE_get]; simp only [Nat.zero_add]; rw [if_neg hi]; exact a⟩
/-- behind the block: the outer names as they were -/
theorem Sim.rest {vs : List Nat} (S1 : Sim B F1 e1 σ H1) (S2 : Sim B F2 e2 (wipe σ vs) H2) (l : EnvLe (wipeE vs 0 e1) e2) (le : Le F1 F2)
    (keep : ∀ b o, H1 b = some o → ¬ Own (wipeE vs 0 e1) (wipe σ vs) b → H2 b = some o) (new : ∀ (i : Nat) (k : Bool) (o : O) (b : Addr), i ∈ vs → e1[i]? = some (.ow k o) → σ[i]? = some (some (.ref b)) → F2 b = none) : Sim B F2 (restE vs 0 e1 e2) σ H2 ∧ EnvLe e1 (restE vs 0 e1 e2) := by
  have hlen : e1.length = e2.length := by
    have a := S1.len
    have b := S2.len
    rw [wipe_length] at b
    omega
  have get : ∀ (i : Nat) (s : Slot), (restE vs 0 e1 e2)[i]? = some s → (i ∈ vs ∧ e1[i]? = some s) ∨ (i ∉ vs ∧ e2[i]? = some s) := fun i s q => by
    rw [restE_get vs 0 e1 e2 i hlen] at q
    simp only [Nat.zero_add] at q
    by_cases hi : i ∈ vs
    · rw [if_pos hi] at q; exact .inl ⟨hi, q⟩
    · rw [if_neg hi] at q; exact .inr ⟨hi, q⟩
  have back : ∀ (i : Nat) (k : Bool) (o : O), i ∉ vs → e2[i]? = some (.ow k o) → ∃ o', e1[i]? = some (.ow k o') := fun i k o hi q => by
    obtain ⟨o', a⟩ := l.dn i k o q
    exact ⟨o', (wipeE_some a (fun z => nomatch z)).2⟩
  refine ⟨⟨S2.hold, by rw [restE_len]; have b := S2.len; rw [wipe_length] at b; exact b, fun i d q => ?_, fun i k o q => ?_, fun i j k o k' o' p a1 a2 b1 b2 => ?_⟩, ⟨fun i k o q => ?_, fun i o q => ?_⟩⟩
  · rcases get i _ q with ⟨hi, e⟩ | ⟨hi, e⟩
    · obtain ⟨v, a, b⟩ := S1.fz i d e
      exact ⟨v, a, Rep.mono le d v b⟩
    · obtain ⟨v, a, b⟩ := S2.fz i d e
      rw [wipe_get hi] at a
      exact ⟨v, a, b⟩
  · rcases get i _ q with ⟨hi, e⟩ | ⟨hi, e⟩
    · obtain ⟨p, a, b, c⟩ := S1.ow i k o e
      refine ⟨p, a, new i k o p hi e a, c.mono le fun u hu => keep p u hu fun ⟨j, k', o', q', z⟩ => ?_⟩
      obtain ⟨hj, e'⟩ := wipeE_some q' (fun z => nomatch z)
      rw [wipe_get hj] at z
      have := S1.sep i j k o k' o' p e e' a z
      subst this
      exact hj hi
    · obtain ⟨p, a, b, c⟩ := S2.ow i k o e
      rw [wipe_get hi] at a
      exact ⟨p, a, b, c⟩
  · have c1 : ∃ o1, e1[i]? = some (.ow k o1) := by
      rcases get i _ a1 with ⟨hi, e⟩ | ⟨hi, e⟩
      · exact ⟨o, e⟩
      · exact back i k o hi e
    have c2 : ∃ o1, e1[j]? = some (.ow k' o1) := by
      rcases get j _ a2 with ⟨hi, e⟩ | ⟨hi, e⟩
      · exact ⟨o', e⟩
      · exact back j k' o' hi e
    obtain ⟨o1, c1⟩ := c1
    obtain ⟨o2, c2⟩ := c2
    exact S1.sep i j k o1 k' o2 p c1 c2 b1 b2
  · rcases get i _ q with ⟨hi, e⟩ | ⟨hi, e⟩
    · exact ⟨o, e⟩
    · exact back i k o hi e
  · rw [restE_get vs 0 e1 e2 i hlen]
    simp only [Nat.zero_add]
    by_cases hi : i ∈ vs
    · rw [if_pos hi]; exact ⟨o, q⟩
    · rw [if_neg hi]
      exact l.up i o (by rw [wipeE_get]; simp only [Nat.zero_add]; rw [if_neg hi]; exact q)
theorem lc_read {vs ns : List Nat} {mi : M (List D)} {g : D → Env → Option Env} {mt : M Bool} {me : M Opd} {Q : VK} (hns : ∀ i ∈ ns, i ∈ vs) (h : tO B W (mLC vs mi g mt me) σ H Q) :
    tLc (tI B W mi) (tG B ns g) (tT B WF mt) (tE B WF me) vs σ H Q := by
  obtain ⟨F, env, S, h⟩ := h
  refine ⟨F, env, S, (Post.bind S h).mono fun ds e1 F1 H1 s1 m1 l1 k1 J it Dd hD => ?_⟩
  by_cases hz : ds.length ≤ sizeLine
  · rw [if_pos hz] at k1
    cases ql : lc vs g mt me ds [] (wipeE vs 0 e1) with
    | bad => rw [ql] at k1; exact k1.elim
    | exc c d e' => rw [ql] at k1; exact k1.elim
    | ok acc e2 =>
      rw [ql] at k1
      have nD : ¬ Own e1 σ Dd := fun z => by
        obtain ⟨_, u, hu⟩ := z.ex m1
        rw [hD] at hu; cases hu
      have nDw : ¬ Own (wipeE vs 0 e1) (wipe σ vs) Dd := fun z => nD (wiped_own z)
      have fD : F1 Dd = none := m1.hold.none hD
      obtain ⟨s0, hh0⟩ := step0_mk (u := .lst []) m1.hold hD
      have mw := (m1.step0 s0 hh0).wiped vs
      refine ⟨fun i m H' => i ≤ ds.length ∧ m = ds.length - i ∧ ∃ F' e' acc' av, Step (fun b => Own (wipeE vs 0 e1) (wipe σ vs) b ∨ b = Dd) F1 (upd H1 Dd (.lst [])) F' H' ∧ Sim B F' e' (wipe σ vs) H' ∧ EnvLe (wipeE vs 0 e1) e' ∧ H' Dd = some (.lst av) ∧ F' Dd = none ∧ RepL B F' acc' av ∧ acc'.length ≤ i ∧ lc vs g mt me (ds.drop i) acc' e' = .ok acc e2,
        ⟨ds.length, Nat.zero_le _, rfl, F1, wipeE vs 0 e1, [], [], Step.refl _ _ _, mw, EnvLe.refl _, upd_same, fD, rfl, Nat.zero_le _, ql⟩, ?_⟩
      rintro i m H' ⟨hi, rfl, F', e', acc', av, st, sm, le', hav, hfd, rl, hal, hlc⟩
      obtain ⟨it1, it2⟩ := it i F' H' st.le sm.hold
      have own_e : ∀ {b : Addr}, Own e' (wipe σ vs) b → Own (wipeE vs 0 e1) (wipe σ vs) b := fun z => le'.own z
      have nDe : ¬ Own e' (wipe σ vs) Dd := fun z => nDw (own_e z)
      cases q : ds[i]? with
      | none =>
        have e : i = ds.length := by
          have := List.getElem?_eq_none_iff.mp q
          omega
        left
        rw [e, List.drop_length] at hlc
        cases hlc
        refine ⟨it2 e, ?_⟩
        have stt : Step (Own e1 σ) F1 H1 F' H' := (s0.any (own := Own e1 σ)).trans st fun b z => by
          rcases z with z | z
          · exact .inl (wiped_own z)
          · exact .inr (by rw [z]; exact hD)
        obtain ⟨sr, lr⟩ := m1.rest sm le' st.le (fun b o e n => by
            by_cases hb : b = Dd
            · rw [hb, hD] at e; cases e
            · exact st.keep b o (by rw [upd_ne hb]; exact e) fun z => z.elim n hb) (fun j k o b hj z1 z2 => by
            obtain ⟨z3, u, hu⟩ := Own.ex m1 ⟨j, k, o, z1, z2⟩
            have hb : b ≠ Dd := fun y => by rw [y, hD] at hu; cases hu
            cases w : F' b with
            | none => rfl
            | some w' =>
              rcases st.new b w' w with y | y | y
              · rw [z3] at y; cases y
              · rw [upd_ne hb, hu] at y; cases y
              · rcases y with ⟨j', k', o', q1, q2⟩ | y
                · obtain ⟨hj', q3⟩ := wipeE_some q1 (fun z => nomatch z)
                  rw [wipe_get hj'] at q2
                  have := m1.sep j j' k o k' o' b z1 q3 z2 q2
                  subst this
                  exact absurd hj hj'
                · exact absurd y hb)
        exact k1 F' H' stt sr lr Dd (s1.back hD) hfd ⟨by omega, av, hav, rl⟩
      | some d =>
        right
        obtain ⟨go, yl⟩ := it1 d q
        have hlt : i < ds.length := (List.getElem?_eq_some_iff.mp q).1
        have hd : ds.drop i = d :: ds.drop (i + 1) := by
          rw [List.drop_eq_getElem_cons hlt]
          congr 1
          exact (List.getElem?_eq_some_iff.mp q).2
        rw [hd] at hlc
        refine ⟨go, fun H'' => i + 1 ≤ ds.length ∧ ∃ F' e' acc' av, Step (fun b => Own (wipeE vs 0 e1) (wipe σ vs) b ∨ b = Dd) F1 (upd H1 Dd (.lst [])) F' H'' ∧ Sim B F' e' (wipe σ vs) H'' ∧ EnvLe (wipeE vs 0 e1) e' ∧ H'' Dd = some (.lst av) ∧ F' Dd = none ∧ RepL B F' acc' av ∧ acc'.length ≤ i + 1 ∧ lc vs g mt me (ds.drop (i + 1)) acc' e' = .ok acc e2,
          fun H'' z => ⟨ds.length - (i + 1), by omega, z.1, rfl, z.2⟩, fun x H2 y => ?_⟩
        obtain ⟨F2, s2, h2, r2⟩ := yl x H2 y
        have S2 := sm.step0 s2 h2
        have hav2 : H2 Dd = some (.lst av) := s2.keep _ _ hav id
        have hfd2 : F2 Dd = none := by
          cases w : F2 Dd with
          | none => rfl
          | some w' =>
            rcases s2.new _ _ w with y | y | y
            · rw [hfd] at y; cases y
            · rw [hav] at y; cases y
            · exact y.elim
        unfold lc at hlc
        cases qg : g d e' with
        | none => simp only [qg] at hlc; cases hlc
        | some e3 =>
          simp only [qg] at hlc
          refine ⟨F2, e', d, e3, S2, r2, qg, fun σ3 g3 w3 => ?_⟩
          have ws : wipe σ3 vs = wipe σ vs := wipe_eq (by rw [w3.len, wipe_length]) fun j hj => w3.rest j fun z => hj (hns j z)
          refine ⟨ws, F2, e3, g3.sim, ?_⟩
          have own3 : ∀ {b : Addr}, Own e3 σ3 b → Own (wipeE vs 0 e1) (wipe σ vs) b ∨ H2 b = none := fun z => (g3.owned z).imp own_e id
          have nD3 : ¬ Own e3 σ3 Dd := fun z => by
            rcases own3 z with z | z
            · exact nDw z
            · rw [hav2] at z; cases z
          have st2 : Step (fun b => Own (wipeE vs 0 e1) (wipe σ vs) b ∨ b = Dd) F1 (upd H1 Dd (.lst [])) F2 H2 := st.trans (s2.any (own := fun _ => False)) fun _ z => z.elim
          have stp : ∀ {F4 H4 : Hp}, Step (Own e3 σ3) F2 H2 F4 H4 → Step (fun b => Own (wipeE vs 0 e1) (wipe σ vs) b ∨ b = Dd) F1 (upd H1 Dd (.lst [])) F4 H4 := fun s4 => st2.trans s4 fun b z => by
            rcases own3 z with z | z
            · exact .inl (.inl z)
            · exact .inr (st2.back z)
          have dk : ∀ (F4 H4 : Hp), Step (Own e3 σ3) F2 H2 F4 H4 → H4 Dd = some (.lst av) ∧ F4 Dd = none := fun F4 H4 s4 => ⟨s4.keep _ _ hav2 nD3, by
            cases w : F4 Dd with
            | none => rfl
            | some w' =>
              rcases s4.new _ _ w with y | y | y
              · rw [hfd2] at y; cases y
              · rw [hav2] at y; cases y
              · exact absurd y nD3⟩
          cases qt : mt e3 with
          | bad => simp only [qt] at hlc; cases hlc
          | exc c d' e4 => simp only [qt] at hlc; cases hlc
          | ok bt e4 =>
            intro F4 H4 s4 m4 l4
            obtain ⟨hav4, hfd4⟩ := dk _ _ s4
            cases bt with
            | false =>
              simp only [qt] at hlc
              refine iteF ⟨hlt, F4, wipeE vs 0 e4, acc', av, stp s4, m4.wiped2 ws, wipeE_le le' (w3.le.trans l4), hav4, hfd4, rl.mono (s2.le.trans s4.le), by omega, hlc⟩
            | true =>
              simp only [qt] at hlc
              cases qe : M.bind me frz1 e4 with
              | bad => simp only [qe] at hlc; cases hlc
              | exc c d' e5 => simp only [qe] at hlc; cases hlc
              | ok yv e5 =>
                simp only [qe] at hlc
                refine iteT ⟨F4, e4, m4, ?_⟩
                have pb : Post B WF F4 e4 σ3 H4 (fun d' e' F' H' => d' = yv ∧ e' = e5) (M.bind me frz1 e4) := by
                  rw [qe]; exact fun _ _ _ _ _ => ⟨rfl, rfl⟩
                refine (Post.bind m4 pb).mono fun xo e5' F5 H5 s5 m5 l5 k5 v rv => ?_
                obtain ⟨d6, e6, F6, s6, m6, l6, r6, rfl, rfl⟩ := m5.frz1 rv k5
                have s46 : Step (Own e3 σ3) F2 H2 F6 H5 := s4.trans ((s5.trans s6 fun b z => .inl (l5.own z)) : Step (Own e4 σ3) F4 H4 F6 H5) fun b z => .inl (l4.own z)
                obtain ⟨hav5, hfd5⟩ := dk _ _ s46
                have nD6 : ¬ Own e6 σ3 Dd := fun z => nD3 (l4.own (l5.own (l6.own z)))
                have hlen : av.length = acc'.length := rl.length
                refine ⟨av, hav5, by omega, hlt, F6, wipeE vs 0 e6, acc' ++ [d6], av ++ [v], ?_, (m6.updD hfd5 nD6).wiped2 ws, wipeE_le le' (w3.le.trans (l4.trans (l5.trans l6))), upd_same, hfd5, (rl.mono (s2.le.trans s46.le)).snoc r6, by rw [List.length_append, List.length_singleton]; omega, hlc⟩
                have sf := stp s46
                refine ⟨sf.le, fun b o e n => ?_, sf.new, fun b o e => ?_⟩
                · have hb : b ≠ Dd := fun z => n (.inr z)
                  rw [upd_ne hb]; exact sf.keep b o e n
                · by_cases hb : b = Dd
                  · exact ⟨_, by rw [hb]; exact upd_same⟩
                  · obtain ⟨o', e'⟩ := sf.stay b o e
                    exact ⟨o', by rw [upd_ne hb]; exact e'⟩
  · rw [if_neg hz] at k1; exact k1.elim
section
variable {elt tg iter : Expr} {ifs : List Expr} {scope : Scope} {own : List (Str × Nat)} {pos : Pos} {mi : M (List D)} {ns : List Nat} {g : D → Env → Option Env} {mt : M Bool} {me : M Opd}
theorem do_lc (hc : X.calm = true) (hN : X.N.Nodup) (hi : DI B X W tg iter mi) (ok : blkC X.N X.env.scope scope own = true)
    (hg : ∀ (s : Shared) (H : Hp) (C : Addr) (cl : List (Str × Addr)) (fp : List Addr), DG B (X.blk s H scope (compEnvC scope cl C X.env) fp) tg ns g)
    (ht : ∀ (s : Shared) (H : Hp) (C : Addr) (cl : List (Str × Addr)) (fp : List Addr), DTs B (X.blk s H scope (compEnvC scope cl C X.env) fp) WF ifs mt)
    (he : ∀ (s : Shared) (H : Hp) (C : Addr) (cl : List (Str × Addr)) (fp : List Addr), DE B (X.blk s H scope (compEnvC scope cl C X.env) fp) WF elt me)
    (hns : ∀ i ∈ ns, i ∈ own.map (·.2)) (hs : ∀ x, foldedSetIterable iter X.env x = pure x := by intro _; rfl) :
    DO B X W (.ListComp elt [⟨tg, iter, ifs, 0⟩] scope pos) (mLC (own.map (·.2)) mi g mt me) :=
  PE.imp (pe_lc hc hN hi (blkOk_by ok) hg ht he hs) fun σ H Q h => lc_read hns h
theorem fz_read {m : M O} {Q : VK} (h : tE B W (mFz m) σ H Q) : tO B W m σ H Q := by
  obtain ⟨F, env, S, h⟩ := h
  refine ⟨F, env, S, (Post.bindPure h).mono fun o e1 F1 H1 s1 m1 o1 k1 p hp hf ho => ?_⟩
  have np : ¬ Own e1 σ p := fun z => by
    obtain ⟨_, u, hu⟩ := (o1.own z).ex S
    rw [hp] at hu; cases hu
  obtain ⟨u, hu, r⟩ := ho.data hf
  refine k1 (upd F1 p u) H1 ⟨s1.le.trans (Le.upd hf), s1.keep, fun b w q => ?_, s1.stay⟩ (m1.data np hf hu) (.ref p) r
  by_cases hb : b = p
  · subst hb; exact .inr (.inl hp)
  · rw [upd_ne hb] at q; exact s1.new b w q
theorem ds_setLcO (i : Nat) {y : Str} {py spos : Pos} (hc : X.calm = true) (hN : X.N.Nodup) (hi : DI B X W tg iter mi) (ok : blkC X.N X.env.scope scope own = true)
    (hg : ∀ (s : Shared) (H : Hp) (C : Addr) (cl : List (Str × Addr)) (fp : List Addr), DG B (X.blk s H scope (compEnvC scope cl C X.env) fp) tg ns g)
    (ht : ∀ (s : Shared) (H : Hp) (C : Addr) (cl : List (Str × Addr)) (fp : List Addr), DTs B (X.blk s H scope (compEnvC scope cl C X.env) fp) WF ifs mt)
    (he : ∀ (s : Shared) (H : Hp) (C : Addr) (cl : List (Str × Addr)) (fp : List Addr), DE B (X.blk s H scope (compEnvC scope cl C X.env) fp) WF elt me)
    (hns : ∀ i ∈ ns, i ∈ own.map (·.2)) (hsw : swapsWith (.ListComp elt [⟨tg, iter, ifs, 0⟩] scope pos) (some (.Name y py)) spos.line X.env = pure true) (hy : X.N[i]? = some y := by rfl) (hyl : X.env.scope.names.lookup y = some .local := by rfl) (hs : ∀ x, foldedSetIterable iter X.env x = pure x := by intro _; rfl) :
    DS B X W (.Assign [.Name y py] (.ListComp elt [⟨tg, iter, ifs, 0⟩] scope pos) spos) (mSetO i (mLC (own.map (·.2)) mi g mt me)) :=
  PS.imp (ps_setLc hc hN hy hyl hsw hi (blkOk_by ok) hg ht he hs) fun D σ H h => lc_read hns (tsetO_ok h)
theorem ds_setLc (i : Nat) {y : Str} {py spos : Pos} (hc : X.calm = true) (hN : X.N.Nodup) (hi : DI B X W tg iter mi) (ok : blkC X.N X.env.scope scope own = true)
    (hg : ∀ (s : Shared) (H : Hp) (C : Addr) (cl : List (Str × Addr)) (fp : List Addr), DG B (X.blk s H scope (compEnvC scope cl C X.env) fp) tg ns g)
    (ht : ∀ (s : Shared) (H : Hp) (C : Addr) (cl : List (Str × Addr)) (fp : List Addr), DTs B (X.blk s H scope (compEnvC scope cl C X.env) fp) WF ifs mt)
    (he : ∀ (s : Shared) (H : Hp) (C : Addr) (cl : List (Str × Addr)) (fp : List Addr), DE B (X.blk s H scope (compEnvC scope cl C X.env) fp) WF elt me)
    (hns : ∀ i ∈ ns, i ∈ own.map (·.2)) (hsw : swapsWith (.ListComp elt [⟨tg, iter, ifs, 0⟩] scope pos) (some (.Name y py)) spos.line X.env = pure true) (hy : X.N[i]? = some y := by rfl) (hyl : X.env.scope.names.lookup y = some .local := by rfl) (hs : ∀ x, foldedSetIterable iter X.env x = pure x := by intro _; rfl) :
    DS B X W (.Assign [.Name y py] (.ListComp elt [⟨tg, iter, ifs, 0⟩] scope pos) spos) (mSet i (mFz (mLC (own.map (·.2)) mi g mt me))) :=
  PS.imp (ps_setLc hc hN hy hyl hsw hi (blkOk_by ok) hg ht he hs) fun D σ H h => lc_read hns (fz_read (tset_ok h))
end
end
end AN

set_option Elab.async false
set_option maxRecDepth 100000
set_option autoImplicit false
set_option linter.unusedVariables false
namespace AN
open PySem L2
open PyProof.Rows (envOfC)

/-! ### a def as a plain function -/
inductive Ret where
  | fz (d : D)
  | ow (o : O)
def Ret.toD : Ret → D
  | .fz d => d
  | .ow o => o.toD
abbrev Fn := List Slot → R Ret
/-- the pinned ones as they stand behind, the others as they came -/
def outs : List Slot → Env → List Slot
  | .ow true o :: as, s :: e => s :: outs as e
  | a :: as, _ :: e => a :: outs as e
  | _, _ => []
def runF (n : Nat) (m : M Fl) : Fn := fun args => match m (args ++ List.replicate n .no) with
  | .ok .nx e => .ok (.fz .non) (outs args e)
  | .ok (.rt d) e => .ok (.fz d) (outs args e)
  | .ok (.ro o) e => .ok (.ow o) (outs args e)
  | .exc c d e => .exc c d (outs args e)
  | _ => .bad
def PinOnly (args : List Slot) : Prop := ∀ (i : Nat) (k : Bool) (o : O), args[i]? = some (.ow k o) → k = true
def spOf (B : Bx) (n : Nat) (f : Fn) : Sp := fun vs H Q E => vs.length = n ∧ ∃ F args, Sim B F args (vs.map some) H ∧ PinOnly args ∧ match f args with
  | .ok (.fz d) args' => ∀ v F' H', Step (Own args (vs.map some)) F H F' H' → Sim B F' args' (vs.map some) H' → Rep B F' d v → Q v H'
  | .ok (.ow o) args' => ∀ p F' H', Step (Own args (vs.map some)) F H F' H' → Sim B F' args' (vs.map some) H' → H p = none → F' p = none → OAt B F' H' p o → Q (.ref p) H'
  | .exc c d args' => ∃ C fld, B.exc c = some (C, fld) ∧ ∀ F' H' dx v, Step (Own args (vs.map some)) F H F' H' → Sim B F' args' (vs.map some) H' → H' dx = some (.xd [(fld, v)]) → F' dx = none → H dx = none → Rep B F' d v → E (.ref C) (some dx) H'
  | .bad => False
/-- a plainer function that says the same wherever it says anything -/
theorem spOf.to {B : Bx} {n : Nat} {f g : Fn} (h : ∀ args, args.length = n → PinOnly args → g args ≠ .bad → f args = g args) {vs : List V} {H : Hp} {Q : VK} {E : XK} (s : spOf B n g vs H Q E) : spOf B n f vs H Q E := by
  obtain ⟨hl, F, args, S, po, k⟩ := s
  have ha : args.length = n := by rw [S.len, List.length_map]; exact hl
  refine ⟨hl, F, args, S, po, ?_⟩
  rw [h args ha po (fun z => by rw [z] at k; exact k)]
  exact k
theorem outs_get : ∀ {args : List Slot} {e : Env} {i : Nat} {s : Slot}, args.length ≤ e.length → (outs args e)[i]? = some s → (∃ o, args[i]? = some (.ow true o) ∧ e[i]? = some s) ∨ ((∀ o, args[i]? ≠ some (.ow true o)) ∧ args[i]? = some s)
  | [], e, i, s, _, h => by
    unfold outs at h
    simp at h
  | a :: as, [], i, s, hl, h => by simp at hl
  | a :: as, t :: e, 0, s, hl, h => by
    cases a with
    | no => simp [outs] at h; subst h; exact .inr ⟨(fun o z => by simp at z), rfl⟩
    | fz d => simp [outs] at h; subst h; exact .inr ⟨(fun o z => by simp at z), rfl⟩
    | ow k o =>
      cases k with
      | true => simp [outs] at h; subst h; exact .inl ⟨o, rfl, rfl⟩
      | false => simp [outs] at h; subst h; exact .inr ⟨(fun o z => by simp at z), rfl⟩
  | a :: as, t :: e, i + 1, s, hl, h => by
    have hl' : as.length ≤ e.length := by simpa using hl
    have h' : (outs as e)[i]? = some s := by
      cases a with
      | no => simpa [outs] using h
      | fz d => simpa [outs] using h
      | ow k o => cases k <;> simpa [outs] using h
    simpa using outs_get hl' h'
theorem outs_len : ∀ {args : List Slot} {e : Env}, args.length ≤ e.length → (outs args e).length = args.length
  | [], e, _ => by unfold outs; simp
  | a :: as, [], hl => by simp at hl
  | a :: as, t :: e, hl => by
    have ih := outs_len (args := as) (e := e) (by simpa using hl)
    cases a with
    | no => simp [outs, ih]
    | fz d => simp [outs, ih]
    | ow k o => cases k <;> simp [outs, ih]
section
variable {B : Bx} {X : Cx} {W : WX} {F H F1 H1 F2 H2 : Hp} {env e1 e2 : Env} {σ σ1 σ2 : St}
theorem start_env {args : List Slot} {vs : List V} {N : List Str} {n : Nat} (hn : N.length - vs.length = n) (S : Sim B F args (vs.map some) H) : Sim B F (args ++ List.replicate n .no) (L2.start N vs) H := by
  have hl : args.length = (vs.map some).length := S.len
  have get : ∀ (i : Nat) (s : Slot), s ≠ .no → (args ++ List.replicate n .no)[i]? = some s → args[i]? = some s ∧ (L2.start N vs)[i]? = (vs.map some)[i]? := fun i s hs q => by
    rw [List.getElem?_append] at q
    by_cases hi : i < args.length
    · rw [if_pos hi] at q
      refine ⟨q, ?_⟩
      unfold L2.start
      rw [List.getElem?_append, if_pos (by omega)]
    · rw [if_neg hi, List.getElem?_replicate] at q
      by_cases h2 : i - args.length < n
      · rw [if_pos h2] at q; cases q; exact absurd rfl hs
      · rw [if_neg h2] at q; cases q
  refine ⟨S.hold, ?_, fun i d q => ?_, fun i k o q => ?_, fun i j k o k' o' p a1 a2 b1 b2 => ?_⟩
  · unfold L2.start
    rw [List.length_append, List.length_append, List.length_replicate, List.length_replicate, hn, hl]
  · obtain ⟨e, z⟩ := get i (.fz d) (fun z => nomatch z) q
    rw [z]; exact S.fz i d e
  · obtain ⟨e, z⟩ := get i (.ow k o) (fun z => nomatch z) q
    rw [z]; exact S.ow i k o e
  · obtain ⟨x1, z1⟩ := get i (.ow k o) (fun z => nomatch z) a1
    obtain ⟨x2, z2⟩ := get j (.ow k' o') (fun z => nomatch z) a2
    rw [z1] at b1
    rw [z2] at b2
    exact S.sep i j k o k' o' p x1 x2 b1 b2
theorem start_own {args : List Slot} {vs : List V} {N : List Str} {n : Nat} {b : Addr} (hl : args.length = vs.length) (h : Own (args ++ List.replicate n .no) (L2.start N vs) b) : Own args (vs.map some) b := by
  obtain ⟨i, k, o, q, z⟩ := h
  rw [List.getElem?_append] at q
  by_cases hi : i < args.length
  · rw [if_pos hi] at q
    unfold L2.start at z
    rw [List.getElem?_append, if_pos (by rw [List.length_map]; omega)] at z
    exact ⟨i, k, o, q, z⟩
  · rw [if_neg hi, List.getElem?_replicate] at q
    by_cases h2 : i - args.length < n
    · rw [if_pos h2] at q; cases q
    · rw [if_neg h2] at q; cases q
/-- at the end: the arguments again -/
theorem end_args {args : List Slot} {vs : List V} {N : List Str} {n : Nat} {e' : Env} {σ' : St} (hl : args.length = vs.length) (S : Sim B F args (vs.map some) H) (g : Go B F (args ++ List.replicate n .no) (L2.start N vs) H F1 e' σ' H1) (hle : args.length ≤ e'.length) (po : PinOnly args) :
    Sim B F1 (outs args e') (vs.map some) H1 := by
  have pos : ∀ (i : Nat), i < args.length → (args ++ List.replicate n Slot.no)[i]? = args[i]? ∧ (L2.start N vs)[i]? = (vs.map some)[i]? := fun i hi => by
    refine ⟨by rw [List.getElem?_append, if_pos hi], ?_⟩
    unfold L2.start
    rw [List.getElem?_append, if_pos (by rw [List.length_map]; omega)]
  have pin : ∀ (i : Nat) (o : O), args[i]? = some (.ow true o) → (∃ o', e'[i]? = some (.ow true o')) ∧ σ'[i]? = (vs.map some)[i]? := fun i o q => by
    have hi : i < args.length := (List.getElem?_eq_some_iff.mp q).1
    obtain ⟨p1, p2⟩ := pos i hi
    obtain ⟨a, b⟩ := g.pin i o (by rw [p1]; exact q)
    exact ⟨a, b.trans p2⟩
  refine ⟨g.sim.hold, by rw [outs_len hle]; exact S.len, fun i d q => ?_, fun i k o q => ?_, fun i j k o k' o' p a1 a2 b1 b2 => ?_⟩
  · rcases outs_get hle q with ⟨o, a, b⟩ | ⟨a, b⟩
    · obtain ⟨⟨o', c⟩, _⟩ := pin i o a
      rw [b] at c; cases c
    · obtain ⟨v, c1, c2⟩ := S.fz i d b
      exact ⟨v, c1, Rep.mono g.step.le d v c2⟩
  · rcases outs_get hle q with ⟨o0, a, b⟩ | ⟨a, b⟩
    · obtain ⟨_, z⟩ := pin i o0 a
      obtain ⟨p, c1, c2, c3⟩ := g.sim.ow i k o b
      exact ⟨p, by rw [← z]; exact c1, c2, c3⟩
    · have := po i k o b
      subst this
      exact absurd b (a o)
  · have c : ∀ {i : Nat} {k : Bool} {o : O}, (outs args e')[i]? = some (.ow k o) → ∃ o1, args[i]? = some (.ow true o1) := fun {i k o} q => by
      rcases outs_get hle q with ⟨o0, a, b⟩ | ⟨a, b⟩
      · exact ⟨o0, a⟩
      · have := po i k o b
        subst this
        exact ⟨o, b⟩
    obtain ⟨o1, c1⟩ := c a1
    obtain ⟨o2, c2⟩ := c a2
    exact S.sep i j true o1 true o2 p c1 c2 b1 b2
end
section
variable {B : Bx} {P : Program} {w : World} {K : PySem.W.Frag} {mg : Str → Option Value} {base : Heap}
/-- what a def promises, told of its body -/
theorem spOf_body {N : List Str} {n np : Nat} {m : M Fl} {vs : List V} {H : Hp} {Q : VK} {E : XK} (hn : N.length - np = n) (h : spOf B np (runF n m) vs H Q E) :
    tS B (fun cls d _ H => E cls d H) m { nx := fun _ H' => Q .non H', rt := Q } (L2.start N vs) H := by
  obtain ⟨hl, F, args, Sm, po, h⟩ := h
  refine ⟨F, args ++ List.replicate n .no, start_env (by rw [hl]; exact hn) Sm, ?_⟩
  have hal : args.length = vs.length := by rw [Sm.len, List.length_map]
  have hlen : ∀ {F' : Hp} {e' : Env} {σ' : St} {H' : Hp}, Go B F (args ++ List.replicate n .no) (L2.start N vs) H F' e' σ' H' → args.length ≤ e'.length := fun {F' e' σ' H'} g => by
    have a := g.sim.len
    have b := (start_env (B := B) (N := N) (n := n) (by rw [hl]; exact hn) Sm).len
    rw [g.len, ← b, List.length_append] at a
    omega
  unfold runF at h
  cases q : m (args ++ List.replicate n .no) with
  | bad => rw [q] at h; exact h
  | exc c d e' =>
    rw [q] at h
    obtain ⟨C, fld, hb, h⟩ := h
    exact ⟨C, fld, hb, fun σ' F' H' dx v g hd hf h0 r => h F' H' dx v (g.step.imp fun b z => start_own hal z) (end_args hal Sm g (hlen g) po) hd hf h0 r⟩
  | ok fl e' =>
    rw [q] at h
    cases fl with
    | nx => exact fun σ' F' H' g => h .non F' H' (g.step.imp fun b z => start_own hal z) (end_args hal Sm g (hlen g) po) rfl
    | rt d => exact fun v σ' F' H' g r => h v F' H' (g.step.imp fun b z => start_own hal z) (end_args hal Sm g (hlen g) po) r
    | ro o =>
      refine fun p σ' F' H' g hp np hf ho => h p F' H' (g.step.imp fun b z => start_own hal z) (end_args hal Sm g (hlen g) po) ?_ hf ho
      rcases hp with ⟨i, o', a, b⟩ | hp
      · exfalso
        rw [List.getElem?_append] at a
        by_cases hi : i < args.length
        · rw [if_pos hi] at a
          have := po i false o' a
          cases this
        · rw [if_neg hi, List.getElem?_replicate] at a
          by_cases h2 : i - args.length < n
          · rw [if_pos h2] at a; cases a
          · rw [if_neg h2] at a; cases a
      · exact hp
    | bk => exact h.elim
    | ct => exact h.elim
/-- THE RULE for a def: its body read as m -/
theorem fn_ok {x qual : Str} {st : Stmt} {f : Addr} {fd : FuncData} {N ps : List Str} {k n : Nat} {m : M Fl} (Fd : Fun K x qual st f fd) (S : FnScope N ps (defScope st)) (hn : N.length - ps.length = n) (hnp : ps.length ≤ N.length)
    (hbody : ∀ (cdv : Value) (A : Around) (outer : List PySem.Env) (s : Shared) (H : Hp) (E : XK), Room k (A.deeper (envOfC qual (defScope st) s.heap.objs.size f cdv)) →
      Takes (cxOf (L2.CX P w) P w K mg base N qual (defScope st) f cdv A outer s H E) (fun cls d _ H => E cls d H) →
      PassesOwn (model P w) (A.deeper (envOfC qual (defScope st) s.heap.objs.size f cdv)) (envOfC qual (defScope st) s.heap.objs.size f cdv) (cxOf (L2.CX P w) P w K mg base N qual (defScope st) f cdv A outer s H E).xe →
      DSs B (cxOf (L2.CX P w) P w K mg base N qual (defScope st) f cdv A outer s H E) (fun cls d _ H => E cls d H) (defBody st) m) :
    FnOk P w K mg base (L2.CX P w) (k + 1) f fd ps (spOf B ps.length (runF n m)) := by
  refine Fd.okX S (fun vs H Q E h => h.1) fun cdv A outer s H vs Q E hr h => ?_
  exact ⟨_, hbody cdv A outer s H E hr (takes_of rfl rfl rfl rfl) (passes_of rfl), spOf_body hn h⟩
end
end AN

set_option Elab.async false
set_option maxRecDepth 100000
set_option autoImplicit false
set_option linter.unusedVariables false
namespace AN
open PySem L2

/-! ### calls of defs that change nothing of their caller's -/
def scalar : D → Bool
  | .non => true
  | .bl _ => true
  | .int _ => true
  | .str _ => true
  | _ => false
theorem scalar_rep {B : Bx} {F F' : Hp} {d : D} {v : V} (h : scalar d = true) (r : Rep B F d v) : Rep B F' d v := by
  cases d with
  | non => exact r
  | bl b => exact r
  | int i => exact r
  | str s => exact r
  | _ => cases h
def callP (n : Nat) (f : Fn) (xs : List Opd) : M Ret := fun env => if xs.length = n then (match frzs xs env with
  | .ok ds e1 => (match f (ds.map .fz) with
    | .ok r _ => if scalar r.toD = true then .ok r env else .ok r e1
    | .exc c d _ => .exc c d e1
    | .bad => .bad)
  | _ => .bad) else .bad
def mCall (n : Nat) (f : Fn) (ms : M (List Opd)) : M Opd := M.bind ms fun xs => M.bind (callP n f xs) fun r => M.pure (.d r.toD)
def retO (r : Ret) : M O := match r with
  | .ow o => M.pure o
  | .fz _ => fun _ => .bad
def mCallO (n : Nat) (f : Fn) (ms : M (List Opd)) : M O := M.bind ms fun xs => M.bind (callP n f xs) retO
section
variable {B : Bx} {X : Cx} {W : WX} {F H F1 H1 F2 H2 : Hp} {env e1 e2 : Env} {σ σ1 σ2 : St} {Q : VK}
theorem OpdsRel.len {vs : List V} {xs : List Opd} (h : OpdsRel B F σ vs xs) : vs.length = xs.length := by
  induction h with
  | nil => rfl
  | cons _ _ ih => simp [ih]
theorem sim_fz {ds : List D} {vs : List V} (hh : Holds F H) (r : RepL B F ds vs) : Sim B F (ds.map .fz) (vs.map some) H where
  hold := hh
  len := by rw [List.length_map, List.length_map, r.length]
  fz := fun i d q => by
    rw [List.getElem?_map] at q
    cases e : ds[i]? with
    | none => rw [e] at q; cases q
    | some d' =>
      rw [e] at q; cases q
      obtain ⟨v, a, b⟩ := r.get e
      exact ⟨v, by rw [List.getElem?_map, a]; rfl, b⟩
  ow := fun i k o q => by
    rw [List.getElem?_map] at q
    cases e : ds[i]? with
    | none => rw [e] at q; cases q
    | some d' => rw [e] at q; cases q
  sep := fun i j k o k' o' p q => by
    rw [List.getElem?_map] at q
    cases e : ds[i]? with
    | none => rw [e] at q; cases q
    | some d' => rw [e] at q; cases q
theorem fz_own {ds : List D} {b : Addr} : ¬ Own (ds.map .fz) σ b := fun ⟨i, k, o, q, _⟩ => by
  rw [List.getElem?_map] at q
  cases e : ds[i]? with
  | none => rw [e] at q; cases q
  | some d' => rw [e] at q; cases q
theorem fz_pin {ds : List D} : PinOnly (ds.map .fz) := fun i k o q => by
  rw [List.getElem?_map] at q
  cases e : ds[i]? with
  | none => rw [e] at q; cases q
  | some d' => rw [e] at q; cases q
/-- the state behind a call that changed nothing of ours, the callee's data forgotten -/
theorem Step0.drop (h : Step0 F H F1 H1) (hh : Holds F H) : Step0 F H F H1 ∧ Holds F H1 := by
  refine ⟨⟨Le.refl F, h.keep, fun b u e => .inl e, h.stay⟩, fun b u e => ?_⟩
  rcases hh b u e with z | ⟨z, o, y⟩
  · exact .inl (h.keep b _ z id)
  · exact .inr ⟨z, o, h.keep b _ y id⟩
/-- a call, by what is wanted of its answer -/
theorem call_read {n : Nat} {f : Fn} {xs : List Opd} {vs : List V} {k : Ret → Env → Hp → Hp → Prop} (S : Sim B F env σ H) (rs : OpdsRel B F σ vs xs) (h : Post B W F env σ H k (callP n f xs env))
    (hq : ∀ r e1 F1 H1, Step (Own env σ) F H F1 H1 → Sim B F1 e1 σ H1 → EnvLe env e1 → (∀ F2 H2, Step (Own env σ) F H F2 H2 → Sim B F2 e1 σ H2 → k r e1 F2 H2) → match r with
      | .fz d => ∀ v, Rep B F1 d v → Q v H1
      | .ow o => ∀ p, H p = none → F1 p = none → OAt B F1 H1 p o → Q (.ref p) H1) : spOf B n f vs H Q (WE W σ) := by
  unfold callP at h
  by_cases hn : xs.length = n
  · rw [if_pos hn] at h
    cases qf : frzs xs env with
    | bad => rw [qf] at h; exact h.elim
    | exc c d e' => rw [qf] at h; exact h.elim
    | ok ds e1 =>
      rw [qf] at h
      obtain ⟨ds', e1', F1, s1, m1, l1, r1, q1⟩ := S.frzs (W := W) rs (k := fun d e _ _ => d = ds ∧ e = e1) (by rw [qf]; exact fun _ _ _ _ _ => ⟨rfl, rfl⟩)
      obtain ⟨rfl, rfl⟩ := q1
      refine ⟨rs.len.trans hn, F1, ds'.map .fz, sim_fz m1.hold r1, fz_pin, ?_⟩
      have s0 : ∀ {F' H' : Hp}, Step (Own (ds'.map .fz) (vs.map some)) F1 H F' H' → Step0 F1 H F' H' := fun s => s.imp fun b z => fz_own z
      have tr : ∀ {F' H' : Hp}, Step0 F1 H F' H' → Step (Own env σ) F H F' H' := fun s => s1.trans s fun _ z => z.elim
      cases qr : f (ds'.map .fz) with
      | bad => simp only [qr] at h; exact h.elim
      | exc c d a' =>
        simp only [qr] at h
        obtain ⟨C, fld, hb, h⟩ := h
        exact ⟨C, fld, hb, fun F' H' dx v s m hd hf h0 r => h F' H' dx v (tr (s0 s)) ⟨m1.step0 (s0 s) m.hold, l1⟩ hd hf h0 r⟩
      | ok r a' =>
        simp only [qr] at h
        cases r with
        | fz d =>
          intro v F' H' s m r
          by_cases hs : scalar d = true
          · rw [if_pos (show scalar (Ret.fz d).toD = true from hs)] at h
            obtain ⟨sd, hd⟩ := Step0.drop (F := F) (H := H) (F1 := F) (H1 := H') ⟨Le.refl F, (s0 s).keep, fun b u e => .inl e, (s0 s).stay⟩ S.hold
            exact hq (.fz d) env F H' sd.any (S.step0 sd hd) (EnvLe.refl _) (fun F2 H2 a b => h F2 H2 a b (EnvLe.refl _)) v (scalar_rep hs r)
          · rw [if_neg (show ¬ scalar (Ret.fz d).toD = true from hs)] at h
            exact hq (.fz d) e1' F' H' (tr (s0 s)) (m1.step0 (s0 s) m.hold) l1 (fun F2 H2 a b => h F2 H2 a b l1) v r
        | ow o =>
          intro p F' H' s m hp hf ho
          have hs : ¬ scalar (Ret.ow o).toD = true := by cases o <;> exact Bool.false_ne_true
          rw [if_neg hs] at h
          exact hq (.ow o) e1' F' H' (tr (s0 s)) (m1.step0 (s0 s) m.hold) l1 (fun F2 H2 a b => h F2 H2 a b l1) p hp hf ho
  · rw [if_neg hn] at h; exact h.elim
variable {e : Expr} {es : List Expr} {ms : M (List Opd)} {pos : Pos}
theorem call_de {n : Nat} {f : Fn} (h : tE B W (mCall n f ms) σ H Q) : tA B W ms σ H fun vs H1 => spOf B n f vs H1 Q (WE W σ) := by
  obtain ⟨F, env, S, h⟩ := h
  refine ⟨F, env, S, (Post.bind S h).mono fun xs e1 F1 H1 s1 m1 l1 k1 vs rvs => ?_⟩
  have k2 := Post.bindPure k1
  refine call_read m1 rvs k2 fun r e2 F2 H2 s2 m2 l2 k3 => ?_
  have k4 : ∀ F3 H3, Step (Own e1 σ) F1 H1 F3 H3 → Sim B F3 e2 σ H3 → ∀ v, Rep B F3 r.toD v → Q v H3 := fun F3 H3 a b v r => k3 F3 H3 a b F3 H3 a b v r
  cases r with
  | fz d => exact fun v r => k4 F2 H2 s2 m2 v r
  | ow o =>
    intro p hp hf ho
    have np : ¬ Own e2 σ p := fun z => by
      obtain ⟨_, u, hu⟩ := (l2.own z).ex m1
      rw [hp] at hu; cases hu
    obtain ⟨u, hu, r⟩ := ho.data hf
    refine k4 (upd F2 p u) H2 ⟨s2.le.trans (Le.upd hf), s2.keep, fun b w q => ?_, s2.stay⟩ (m2.data np hf hu) (.ref p) r
    by_cases hb : b = p
    · subst hb; exact .inr (.inl hp)
    · rw [upd_ne hb] at q; exact s2.new b w q
theorem call_do {n : Nat} {f : Fn} (h : tO B W (mCallO n f ms) σ H Q) : tA B W ms σ H fun vs H1 => spOf B n f vs H1 Q (WE W σ) := by
  obtain ⟨F, env, S, h⟩ := h
  refine ⟨F, env, S, (Post.bind S h).mono fun xs e1 F1 H1 s1 m1 l1 k1 vs rvs => ?_⟩
  refine call_read m1 rvs (Post.bind m1 k1) fun r e2 F2 H2 s2 m2 l2 k3 => ?_
  have k4 := k3 F2 H2 s2 m2
  cases r with
  | fz d => exact k4.elim
  | ow o => exact fun p hp hf ho => Post.here m2 k4 p (s1.back hp) hf ho
variable {k n : Nat} {fa : Addr} {fd : FuncData} {ps : List Str} {f : Fn} {x : Str} {p : Pos}
theorem de_call (G : FnOk X.prog X.w X.K X.mg X.base (L2.CX X.prog X.w) k fa fd ps (spOf B n f)) (hr : Room k X.A) (tk : Takes X W) (hm : X.mg x = some (.ref fa)) (hk : PySem.W.keepIn X.K (.ref fa) = true) (hb : Binds X.K fd ps [])
    (ha : DA B X W (e :: es) ms) (hg : Gl X x := by rfl) (hdb : (x == ("__debug__" : Str)) = false := by decide) (he : starEach (e :: es) X.env = (false, eval e X.env) :: starEach es X.env := by rfl) (hpl : (backTo pos (starEach es X.env)).any (·.1) = false := by rfl) :
    DE B X W (.Call (.Name x p) (e :: es) [] pos) (mCall n f ms) := PE.imp (pe_callS (E := WE W) G hr hg hm hk hb (fun σ => passAt tk σ) ha hdb he hpl) fun σ H Q h => call_de h
theorem do_call (G : FnOk X.prog X.w X.K X.mg X.base (L2.CX X.prog X.w) k fa fd ps (spOf B n f)) (hr : Room k X.A) (tk : Takes X W) (hm : X.mg x = some (.ref fa)) (hk : PySem.W.keepIn X.K (.ref fa) = true) (hb : Binds X.K fd ps [])
    (ha : DA B X W (e :: es) ms) (hg : Gl X x := by rfl) (hdb : (x == ("__debug__" : Str)) = false := by decide) (he : starEach (e :: es) X.env = (false, eval e X.env) :: starEach es X.env := by rfl) (hpl : (backTo pos (starEach es X.env)).any (·.1) = false := by rfl) :
    DO B X W (.Call (.Name x p) (e :: es) [] pos) (mCallO n f ms) := PE.imp (pe_callS (E := WE W) G hr hg hm hk hb (fun σ => passAt tk σ) ha hdb he hpl) fun σ H Q h => call_do h
end
end AN

set_option Elab.async false
set_option maxRecDepth 100000
set_option autoImplicit false
set_option linter.unusedVariables false
namespace AN
open PySem L2

/-! ### calls of defs that change some of their arguments (the marked ones) -/
def frzIn : List Bool → List Opd → M (List D)
  | [], [] => M.pure []
  | true :: sg, _ :: xs => M.bind (frzIn sg xs) fun ds => M.pure (.non :: ds)
  | false :: sg, x :: xs => M.bind (frz1 x) fun d => M.bind (frzIn sg xs) fun ds => M.pure (d :: ds)
  | _, _ => fun _ => .bad
def mkA : List Bool → List Opd → List D → Env → Option (List Slot)
  | [], [], [], _ => some []
  | true :: sg, .sl i :: xs, _ :: ds, env => match env[i]? with
    | some (.ow _ o) => (mkA sg xs ds env).map (.ow true o :: ·)
    | _ => none
  | false :: sg, _ :: xs, d :: ds, env => (mkA sg xs ds env).map (.fz d :: ·)
  | _, _, _, _ => none
def ioS : List Bool → List Opd → List Nat
  | true :: sg, .sl i :: xs => i :: ioS sg xs
  | _ :: sg, _ :: xs => ioS sg xs
  | _, _ => []
def back : List Bool → List Opd → List Slot → Env → Option Env
  | [], [], [], env => some env
  | true :: sg, .sl i :: xs, .ow _ o :: as, env => match env[i]? with
    | some (.ow k _) => back sg xs as (env.set i (.ow k o))
    | _ => none
  | false :: sg, _ :: xs, _ :: as, env => back sg xs as env
  | _, _, _, _ => none
def callM (sg : List Bool) (f : Fn) (xs : List Opd) : M Ret := fun env => if (ioS sg xs).Nodup then (match frzIn sg xs env with
  | .ok ds e1 => (match mkA sg xs ds e1 with
    | some args => (match f args with
      | .ok r args' => (match back sg xs args' e1 with
        | some e2 => .ok r e2
        | none => .bad)
      | .exc c d args' => (match back sg xs args' e1 with
        | some e2 => .exc c d e2
        | none => .bad)
      | .bad => .bad)
    | none => .bad)
  | _ => .bad) else .bad
section
variable {B : Bx} {X : Cx} {W : WX} {F H F1 H1 F2 H2 : Hp} {env e1 e2 : Env} {σ σ1 σ2 : St} {Q : VK}
/-- the arguments that are data -/
inductive ArgD (B : Bx) (F : Hp) : List Bool → List D → List V → Prop
  | nil : ArgD B F [] [] []
  | io {sg : List Bool} {ds : List D} {vs : List V} {d : D} {v : V} (t : ArgD B F sg ds vs) : ArgD B F (true :: sg) (d :: ds) (v :: vs)
  | dat {sg : List Bool} {ds : List D} {vs : List V} {d : D} {v : V} (h : Rep B F d v) (t : ArgD B F sg ds vs) : ArgD B F (false :: sg) (d :: ds) (v :: vs)
theorem ArgD.mono {sg : List Bool} {ds : List D} {vs : List V} (l : Le F F1) (h : ArgD B F sg ds vs) : ArgD B F1 sg ds vs := by
  induction h with
  | nil => exact .nil
  | io _ ih => exact .io ih
  | dat h _ ih => exact .dat (Rep.mono l _ _ h) ih
theorem Sim.frzIn : ∀ {sg : List Bool} {xs : List Opd} {F : Hp} {env : Env} {vs : List V} {k : List D → Env → Hp → Hp → Prop}, Sim B F env σ H → OpdsRel B F σ vs xs → Post B W F env σ H k (AN.frzIn sg xs env) →
    ∃ ds e1 F1, Step (Own env σ) F H F1 H ∧ Sim B F1 e1 σ H ∧ EnvLe env e1 ∧ ArgD B F1 sg ds vs ∧ k ds e1 F1 H
  | [], [], F, env, _, k, S, .nil, h => ⟨[], env, F, Step.refl _ _ _, S, EnvLe.refl _, .nil, h F H (Step.refl _ _ _) S (EnvLe.refl _)⟩
  | [], x :: xs, F, env, _, k, S, _, h => h.elim
  | true :: sg, [], F, env, _, k, S, _, h => h.elim
  | false :: sg, [], F, env, _, k, S, _, h => h.elim
  | true :: sg, x :: xs, F, env, _, k, S, .cons r rs, h => by
    obtain ⟨ds, e2, F2, s2, m2, o2, r2, h2⟩ := S.frzIn rs (Post.bind S h)
    exact ⟨.non :: ds, e2, F2, s2, m2, o2, .io r2, h2 F2 H (Step.refl _ _ _) m2 (EnvLe.refl _)⟩
  | false :: sg, x :: xs, F, env, _, k, S, .cons r rs, h => by
    obtain ⟨d, e1, F1, s1, m1, o1, r1, h1⟩ := S.frz1 r (Post.bind S h)
    obtain ⟨ds, e2, F2, s2, m2, o2, r2, h2⟩ := m1.frzIn (rs.mono s1.le) (Post.bind m1 h1)
    exact ⟨d :: ds, e2, F2, s1.trans s2 fun b z => .inl (o1.own z), m2, o1.trans o2, .dat (Rep.mono s2.le d _ r1) r2, h2 F2 H (Step.refl _ _ _) m2 (EnvLe.refl _)⟩
/-- what an argument list holds, place by place -/
theorem mkA_get : ∀ {sg : List Bool} {xs : List Opd} {ds : List D} {vs : List V} {args : List Slot} {i : Nat} {s : Slot}, mkA sg xs ds env = some args → ArgD B F sg ds vs → OpdsRel B F σ vs xs → args[i]? = some s →
    (∃ d v, s = .fz d ∧ vs[i]? = some v ∧ Rep B F d v) ∨ ∃ j k o v, s = .ow true o ∧ xs[i]? = some (.sl j) ∧ j ∈ ioS sg xs ∧ env[j]? = some (.ow k o) ∧ vs[i]? = some v ∧ σ[j]? = some (some v)
  | [], [], [], _, args, i, s, h, .nil, .nil, e => by
    cases h
    simp at e
  | true :: sg, .d _ :: xs, _, _, args, i, s, h, .io t, .cons r rs, e => by simp [mkA] at h
  | true :: sg, .sl j :: xs, d0 :: ds, v0 :: vs, args, i, s, h, .io t, .cons r rs, e => by
    unfold mkA at h
    cases q : env[j]? with
    | none => rw [q] at h; cases h
    | some sl =>
      rw [q] at h
      cases sl with
      | no => cases h
      | fz _ => cases h
      | ow k o =>
        simp only [Option.map_eq_some_iff] at h
        obtain ⟨as, h, rfl⟩ := h
        cases i with
        | zero =>
          simp only [List.getElem?_cons_zero, Option.some.injEq] at e
          subst e
          exact .inr ⟨j, k, o, _, rfl, rfl, by simp [ioS], q, rfl, r⟩
        | succ i =>
          simp only [List.getElem?_cons_succ] at e
          rcases mkA_get h t rs e with ⟨d, v, a, b, c⟩ | ⟨j', k', o', v, a, b, c, d, e', f⟩
          · exact .inl ⟨d, v, a, by simpa using b, c⟩
          · exact .inr ⟨j', k', o', v, a, by simpa using b, by simp [ioS, c], d, by simpa using e', f⟩
  | false :: sg, x :: xs, d0 :: ds, v0 :: vs, args, i, s, h, .dat hd t, .cons r rs, e => by
    unfold mkA at h
    simp only [Option.map_eq_some_iff] at h
    obtain ⟨as, h, rfl⟩ := h
    cases i with
    | zero =>
      simp only [List.getElem?_cons_zero, Option.some.injEq] at e
      subst e
      exact .inl ⟨_, _, rfl, rfl, hd⟩
    | succ i =>
      simp only [List.getElem?_cons_succ] at e
      rcases mkA_get h t rs e with ⟨d, v, a, b, c⟩ | ⟨j', k', o', v, a, b, c, d, e', f⟩
      · exact .inl ⟨d, v, a, by simpa using b, c⟩
      · refine .inr ⟨j', k', o', v, a, by simpa using b, ?_, d, by simpa using e', f⟩
        cases x <;> simp [ioS, c]
theorem mkA_len : ∀ {sg : List Bool} {xs : List Opd} {ds : List D} {args : List Slot}, mkA sg xs ds env = some args → args.length = xs.length ∧ args.length = sg.length
  | [], [], [], args, h => by cases h; exact ⟨rfl, rfl⟩
  | [], [], _ :: _, args, h => by simp [mkA] at h
  | [], _ :: _, _, args, h => by simp [mkA] at h
  | true :: sg, [], _, args, h => by simp [mkA] at h
  | false :: sg, [], _, args, h => by simp [mkA] at h
  | true :: sg, .d _ :: xs, _, args, h => by simp [mkA] at h
  | true :: sg, .sl j :: xs, [], args, h => by simp [mkA] at h
  | false :: sg, _ :: xs, [], args, h => by simp [mkA] at h
  | true :: sg, .sl j :: xs, d :: ds, args, h => by
    unfold mkA at h
    cases q : env[j]? with
    | none => rw [q] at h; cases h
    | some sl =>
      rw [q] at h
      cases sl with
      | no => cases h
      | fz _ => cases h
      | ow k o =>
        simp only [Option.map_eq_some_iff] at h
        obtain ⟨as, h, rfl⟩ := h
        have := mkA_len h
        exact ⟨by simp [this.1], by simp [this.2]⟩
  | false :: sg, x :: xs, d :: ds, args, h => by
    unfold mkA at h
    simp only [Option.map_eq_some_iff] at h
    obtain ⟨as, h, rfl⟩ := h
    have := mkA_len h
    exact ⟨by simp [this.1], by simp [this.2]⟩
theorem ioS_nd : ∀ {sg : List Bool} {xs : List Opd} {i i' j : Nat}, (ioS sg xs).Nodup → sg[i]? = some true → sg[i']? = some true → xs[i]? = some (.sl j) → xs[i']? = some (.sl j) → i = i'
  | [], _, i, _, _, _, h, _, _, _ => by simp at h
  | _ :: _, [], i, _, _, _, _, _, h, _ => by simp at h
  | b :: sg, x :: xs, i, i', j, hn, a1, a2, b1, b2 => by
    have mem : ∀ {sg : List Bool} {xs : List Opd} {i : Nat}, sg[i]? = some true → xs[i]? = some (.sl j) → j ∈ ioS sg xs := by
      intro sg
      induction sg with
      | nil => intro xs i h; simp at h
      | cons b sg ih =>
        intro xs i h h2
        cases xs with
        | nil => simp at h2
        | cons x xs =>
          cases i with
          | zero =>
            simp at h h2
            subst h; subst h2
            simp [ioS]
          | succ i =>
            have := ih (xs := xs) (i := i) (by simpa using h) (by simpa using h2)
            cases b <;> cases x <;> simp [ioS, this]
    cases i with
    | zero =>
      cases i' with
      | zero => rfl
      | succ i' =>
        simp at a1 b1
        subst a1; subst b1
        simp only [ioS, List.nodup_cons] at hn
        exact absurd (mem (by simpa using a2) (by simpa using b2)) hn.1
    | succ i =>
      cases i' with
      | zero =>
        simp at a2 b2
        subst a2; subst b2
        simp only [ioS, List.nodup_cons] at hn
        exact absurd (mem (by simpa using a1) (by simpa using b1)) hn.1
      | succ i' =>
        have hn' : (ioS sg xs).Nodup := by
          cases b <;> cases x <;> simp_all [ioS]
        have := ioS_nd (i := i) (i' := i') (j := j) hn' (by simpa using a1) (by simpa using a2) (by simpa using b1) (by simpa using b2)
        omega
theorem mkA_sg : ∀ {sg : List Bool} {xs : List Opd} {ds : List D} {args : List Slot} {i : Nat} {k : Bool} {o : O}, mkA sg xs ds env = some args → args[i]? = some (.ow k o) → sg[i]? = some true
  | [], [], [], args, i, k, o, h, e => by cases h; simp at e
  | [], [], _ :: _, args, i, k, o, h, e => by simp [mkA] at h
  | [], _ :: _, _, args, i, k, o, h, e => by simp [mkA] at h
  | true :: sg, [], _, args, i, k, o, h, e => by simp [mkA] at h
  | false :: sg, [], _, args, i, k, o, h, e => by simp [mkA] at h
  | true :: sg, .d _ :: xs, _, args, i, k, o, h, e => by simp [mkA] at h
  | true :: sg, .sl j :: xs, [], args, i, k, o, h, e => by simp [mkA] at h
  | false :: sg, _ :: xs, [], args, i, k, o, h, e => by simp [mkA] at h
  | true :: sg, .sl j :: xs, d :: ds, args, i, k, o, h, e => by
    unfold mkA at h
    cases q : env[j]? with
    | none => rw [q] at h; cases h
    | some sl =>
      rw [q] at h
      cases sl with
      | no => cases h
      | fz _ => cases h
      | ow k o =>
        simp only [Option.map_eq_some_iff] at h
        obtain ⟨as, h, rfl⟩ := h
        cases i with
        | zero => rfl
        | succ i => simpa using mkA_sg h (by simpa using e)
  | false :: sg, x :: xs, d :: ds, args, i, k, o, h, e => by
    unfold mkA at h
    simp only [Option.map_eq_some_iff] at h
    obtain ⟨as, h, rfl⟩ := h
    cases i with
    | zero => simp at e
    | succ i => simpa using mkA_sg h (by simpa using e)
/-- all but the slots L stand right -/
structure SimX (B : Bx) (L : List Nat) (F : Hp) (env : Env) (σ : St) (H : Hp) : Prop where
  hold : Holds F H
  len : env.length = σ.length
  fz : ∀ (i : Nat) (d : D), env[i]? = some (.fz d) → ∃ v, σ[i]? = some (some v) ∧ Rep B F d v
  ow : ∀ (i : Nat) (k : Bool) (o : O), i ∉ L → env[i]? = some (.ow k o) → ∃ p, σ[i]? = some (some (.ref p)) ∧ F p = none ∧ OAt B F H p o
  sep : ∀ (i j : Nat) (k : Bool) (o : O) (k' : Bool) (o' : O) (p : Addr), env[i]? = some (.ow k o) → env[j]? = some (.ow k' o') → σ[i]? = some (some (.ref p)) → σ[j]? = some (some (.ref p)) → i = j
theorem back_sim : ∀ {sg : List Bool} {xs : List Opd} {vs : List V} {args : List Slot} {env e2 : Env}, SimX B (ioS sg xs) F env σ H → OpdsRel B F σ vs xs → (ioS sg xs).Nodup → Sim B F args (vs.map some) H → back sg xs args env = some e2 → Sim B F e2 σ H ∧ EnvLe env e2
  | [], [], _, args, env, e2, S, .nil, nd, A, h => by
    cases args with
    | nil =>
      cases h
      exact ⟨⟨S.hold, S.len, S.fz, fun i k o q => S.ow i k o (by simp [ioS]) q, S.sep⟩, EnvLe.refl _⟩
    | cons _ _ => simp [back] at h
  | [], x :: xs, vs, args, env, e2, S, r, nd, A, h => by simp [back] at h
  | true :: sg, [], vs, args, env, e2, S, r, nd, A, h => by simp [back] at h
  | false :: sg, [], vs, args, env, e2, S, r, nd, A, h => by simp [back] at h
  | true :: sg, .d _ :: xs, vs, args, env, e2, S, r, nd, A, h => by simp [back] at h
  | true :: sg, .sl i :: xs, _, [], env, e2, S, .cons r rs, nd, A, h => by simp [back] at h
  | true :: sg, .sl i :: xs, _, .no :: as, env, e2, S, .cons r rs, nd, A, h => by simp [back] at h
  | true :: sg, .sl i :: xs, _, .fz _ :: as, env, e2, S, .cons r rs, nd, A, h => by simp [back] at h
  | false :: sg, x :: xs, _, [], env, e2, S, .cons r rs, nd, A, h => by simp [back] at h
  | true :: sg, .sl i :: xs, v :: vs, .ow k0 o :: as, env, e2, S, .cons r rs, nd, A, h => by
    unfold back at h
    have tail : Sim B F as (vs.map some) H := ⟨A.hold, by simpa using A.len, fun j d q => by simpa using A.fz (j + 1) d (by simpa using q), fun j k o q => by simpa using A.ow (j + 1) k o (by simpa using q), fun j j' k o k' o' p a b c d => by
      have := A.sep (j + 1) (j' + 1) k o k' o' p (by simpa using a) (by simpa using b) (by simpa using c) (by simpa using d)
      omega⟩
    cases q : env[i]? with
    | none => rw [q] at h; cases h
    | some sl =>
      rw [q] at h
      cases sl with
      | no => cases h
      | fz _ => cases h
      | ow k o1 =>
        simp only at h
        simp only [ioS, List.nodup_cons] at nd
        obtain ⟨p, a1, a2, a3⟩ := A.ow 0 k0 o rfl
        have r : σ[i]? = some (some v) := r
        have ev : v = .ref p := by simpa using a1
        subst ev
        have il : i < env.length := (List.getElem?_eq_some_iff.mp q).1
        have S' : SimX B (ioS sg xs) F (env.set i (.ow k o)) σ H := by
          refine ⟨S.hold, by rw [List.length_set]; exact S.len, fun j d z => ?_, fun j k' o' nj z => ?_, fun j j' k1 o1' k2 o2' p' c1 c2 d1 d2 => ?_⟩
          · rcases getElem?_setS z with ⟨_, e⟩ | ⟨_, e⟩
            · cases e
            · exact S.fz j d e
          · rcases getElem?_setS z with ⟨rfl, e⟩ | ⟨ne, e⟩
            · cases e; exact ⟨p, r, a2, a3⟩
            · exact S.ow j k' o' (by simp [ioS, Ne.symm ne, nj]) e
          · have f : ∀ {j : Nat} {k1 : Bool} {o1' : O}, (env.set i (.ow k o))[j]? = some (.ow k1 o1') → ∃ k2 o2, env[j]? = some (.ow k2 o2) := fun {j k1 o1'} z => by
              rcases getElem?_setS z with ⟨rfl, e⟩ | ⟨ne, e⟩
              · exact ⟨k, o1, q⟩
              · exact ⟨_, _, e⟩
            obtain ⟨_, _, x1⟩ := f c1
            obtain ⟨_, _, x2⟩ := f c2
            exact S.sep j j' _ _ _ _ p' x1 x2 d1 d2
        obtain ⟨s2, l2⟩ := back_sim S' rs nd.2 tail h
        refine ⟨s2, ⟨fun j k' o' z => ?_, fun j o' z => ?_⟩⟩
        · obtain ⟨o2, y⟩ := l2.dn j k' o' z
          rcases getElem?_setS y with ⟨rfl, e⟩ | ⟨ne, e⟩
          · cases e; exact ⟨o1, q⟩
          · exact ⟨o2, e⟩
        · by_cases hj : i = j
          · subst hj
            rw [q] at z; cases z
            exact l2.up i o (List.getElem?_set_self il)
          · exact l2.up j o' (by rw [List.getElem?_set_ne hj]; exact z)
  | false :: sg, x :: xs, v :: vs, a :: as, env, e2, S, .cons r rs, nd, A, h => by
    unfold back at h
    have tail : Sim B F as (vs.map some) H := ⟨A.hold, by simpa using A.len, fun j d q => by simpa using A.fz (j + 1) d (by simpa using q), fun j k o q => by simpa using A.ow (j + 1) k o (by simpa using q), fun j j' k o k' o' p a b c d => by
      have := A.sep (j + 1) (j' + 1) k o k' o' p (by simpa using a) (by simpa using b) (by simpa using c) (by simpa using d)
      omega⟩
    have e0 : ioS (false :: sg) (x :: xs) = ioS sg xs := by cases x <;> rfl
    rw [e0] at S nd
    exact back_sim S rs nd tail h
theorem callM_read {sg : List Bool} {f : Fn} {xs : List Opd} {vs : List V} {k : Ret → Env → Hp → Hp → Prop} (S : Sim B F env σ H) (rs : OpdsRel B F σ vs xs) (h : Post B W F env σ H k (callM sg f xs env))
    (hq : ∀ r e1 F1 H1, Step (Own env σ) F H F1 H1 → Sim B F1 e1 σ H1 → EnvLe env e1 → (∀ F2 H2, Step (Own env σ) F H F2 H2 → Sim B F2 e1 σ H2 → k r e1 F2 H2) → match r with
      | .fz d => ∀ v, Rep B F1 d v → Q v H1
      | .ow o => ∀ p, H p = none → F1 p = none → OAt B F1 H1 p o → Q (.ref p) H1) : spOf B sg.length f vs H Q (WE W σ) := by
  unfold callM at h
  by_cases hn : (ioS sg xs).Nodup
  · rw [if_pos hn] at h
    cases qf : AN.frzIn sg xs env with
    | bad => rw [qf] at h; exact h.elim
    | exc c d e' => rw [qf] at h; exact h.elim
    | ok ds e1 =>
      rw [qf] at h
      obtain ⟨ds', e1', F1, s1, m1, l1, r1, q1⟩ := S.frzIn (W := W) rs (k := fun d e _ _ => d = ds ∧ e = e1) (by rw [qf]; exact fun _ _ _ _ _ => ⟨rfl, rfl⟩)
      obtain ⟨rfl, rfl⟩ := q1
      cases qa : mkA sg xs ds' e1' with
      | none => simp only [qa] at h; exact h.elim
      | some args =>
        simp only [qa] at h
        have rs1 := rs.mono s1.le
        obtain ⟨hl1, hl2⟩ := mkA_len qa
        have vl : vs.length = args.length := by rw [hl1]; exact rs.len
        have get : ∀ {i : Nat} {s : Slot}, args[i]? = some s → _ := fun {i s} e => mkA_get (i := i) (s := s) qa r1 rs1 e
        have ioOf : ∀ {i : Nat} {k : Bool} {o : O}, args[i]? = some (.ow k o) → k = true ∧ ∃ j k' v, xs[i]? = some (.sl j) ∧ j ∈ ioS sg xs ∧ e1'[j]? = some (.ow k' o) ∧ vs[i]? = some v ∧ σ[j]? = some (some v) := fun {i k o} e => by
          rcases get e with ⟨d, v, a, _⟩ | ⟨j, k', o', v, a, b, c, d, e', f⟩
          · cases a
          · cases a; exact ⟨rfl, j, k', v, b, c, d, e', f⟩
        have Sa : Sim B F1 args (vs.map some) H := by
          refine ⟨m1.hold, by rw [List.length_map, vl], fun i d q => ?_, fun i k o q => ?_, fun i i' k o k' o' p a1 a2 b1 b2 => ?_⟩
          · rcases get q with ⟨d', v, a, b, c⟩ | ⟨j, k', o', v, a, _⟩
            · cases a; exact ⟨v, by rw [List.getElem?_map, b]; rfl, c⟩
            · cases a
          · obtain ⟨_, j, k', v, _, _, d, e', f⟩ := ioOf q
            obtain ⟨p, x1, x2, x3⟩ := m1.ow j k' o d
            rw [f] at x1; cases x1
            exact ⟨p, by rw [List.getElem?_map, e']; rfl, x2, x3⟩
          · obtain ⟨_, j, k1, v, c1, _, d1, e1, f1⟩ := ioOf a1
            obtain ⟨_, j', k2, v', c2, _, d2, e2, f2⟩ := ioOf a2
            rw [List.getElem?_map, e1] at b1
            rw [List.getElem?_map, e2] at b2
            cases b1; cases b2
            have := m1.sep j j' k1 o k2 o' p d1 d2 f1 f2
            subst this
            exact ioS_nd hn (mkA_sg qa a1) (mkA_sg qa a2) c1 c2
        have po : PinOnly args := fun i k o q => (ioOf q).1
        have ownA : ∀ {b : Addr}, Own args (vs.map some) b → ∃ j k o, j ∈ ioS sg xs ∧ e1'[j]? = some (.ow k o) ∧ σ[j]? = some (some (.ref b)) := fun {b} ⟨i, k, o, q, z⟩ => by
          obtain ⟨_, j, k', v, _, c, d, e', f⟩ := ioOf q
          rw [List.getElem?_map, e'] at z
          cases z
          exact ⟨j, k', o, c, d, f⟩
        have tr : ∀ {F' H' : Hp}, Step (Own args (vs.map some)) F1 H F' H' → Step (Own env σ) F H F' H' := fun s => s1.trans s fun b z => by
          obtain ⟨j, k, o, _, a, c⟩ := ownA z
          exact .inl (l1.own ⟨j, k, o, a, c⟩)
        have sx : ∀ {F' H' : Hp} {args' : List Slot}, Step (Own args (vs.map some)) F1 H F' H' → Sim B F' args' (vs.map some) H' → SimX B (ioS sg xs) F' e1' σ H' := fun {F' H' args'} s m => by
          refine ⟨m.hold, m1.len, fun i d q => ?_, fun i k o ni q => ?_, m1.sep⟩
          · obtain ⟨v, a, b⟩ := m1.fz i d q
            exact ⟨v, a, Rep.mono s.le d v b⟩
          · obtain ⟨p, a, b, c⟩ := m1.ow i k o q
            have np : ¬ Own args (vs.map some) p := fun z => by
              obtain ⟨j, k', o', hj, x1, x2⟩ := ownA z
              have := m1.sep i j k o k' o' p q x1 a x2
              subst this
              exact ni hj
            obtain ⟨u, hu⟩ := c.ex
            refine ⟨p, a, ?_, c.mono s.le fun u e => s.keep p u e np⟩
            cases w : F' p with
            | none => rfl
            | some w' =>
              rcases s.new p w' w with y | y | y
              · rw [b] at y; cases y
              · rw [hu] at y; cases y
              · exact absurd y np
        refine ⟨by rw [vl, hl2], F1, args, Sa, po, ?_⟩
        cases qr : f args with
        | bad => simp only [qr] at h; exact h.elim
        | exc c d a' =>
          simp only [qr] at h
          cases qb : back sg xs a' e1' with
          | none => simp only [qb] at h; exact h.elim
          | some e2 =>
            simp only [qb] at h
            obtain ⟨C, fld, hb, h⟩ := h
            refine ⟨C, fld, hb, fun F' H' dx v s m hd hf h0 r => ?_⟩
            obtain ⟨s2, l2⟩ := back_sim (sx s m) (rs1.mono s.le) hn m qb
            exact h F' H' dx v (tr s) ⟨s2, l1.trans l2⟩ hd hf h0 r
        | ok r a' =>
          simp only [qr] at h
          cases qb : back sg xs a' e1' with
          | none => simp only [qb] at h; exact h.elim
          | some e2 =>
            simp only [qb] at h
            cases r with
            | fz d =>
              intro v F' H' s m r
              obtain ⟨s2, l2⟩ := back_sim (sx s m) (rs1.mono s.le) hn m qb
              exact hq (.fz d) e2 F' H' (tr s) s2 (l1.trans l2) (fun F2 H2 a b => h F2 H2 a b (l1.trans l2)) v r
            | ow o =>
              intro p F' H' s m hp hf ho
              obtain ⟨s2, l2⟩ := back_sim (sx s m) (rs1.mono s.le) hn m qb
              exact hq (.ow o) e2 F' H' (tr s) s2 (l1.trans l2) (fun F2 H2 a b => h F2 H2 a b (l1.trans l2)) p hp hf ho
  · rw [if_neg hn] at h; exact h.elim
def mCallM (sg : List Bool) (f : Fn) (ms : M (List Opd)) : M Opd := M.bind ms fun xs => M.bind (callM sg f xs) fun r => M.pure (.d r.toD)
def mCallMO (sg : List Bool) (f : Fn) (ms : M (List Opd)) : M O := M.bind ms fun xs => M.bind (callM sg f xs) retO
variable {e : Expr} {es : List Expr} {ms : M (List Opd)} {pos : Pos}
theorem callM_de {sg : List Bool} {f : Fn} (h : tE B W (mCallM sg f ms) σ H Q) : tA B W ms σ H fun vs H1 => spOf B sg.length f vs H1 Q (WE W σ) := by
  obtain ⟨F, env, S, h⟩ := h
  refine ⟨F, env, S, (Post.bind S h).mono fun xs e1 F1 H1 s1 m1 l1 k1 vs rvs => ?_⟩
  have k2 := Post.bindPure k1
  refine callM_read m1 rvs k2 fun r e2 F2 H2 s2 m2 l2 k3 => ?_
  have k4 : ∀ F3 H3, Step (Own e1 σ) F1 H1 F3 H3 → Sim B F3 e2 σ H3 → ∀ v, Rep B F3 r.toD v → Q v H3 := fun F3 H3 a b v r => k3 F3 H3 a b F3 H3 a b v r
  cases r with
  | fz d => exact fun v r => k4 F2 H2 s2 m2 v r
  | ow o =>
    intro p hp hf ho
    have np : ¬ Own e2 σ p := fun z => by
      obtain ⟨_, u, hu⟩ := (l2.own z).ex m1
      rw [hp] at hu; cases hu
    obtain ⟨u, hu, r⟩ := ho.data hf
    refine k4 (upd F2 p u) H2 ⟨s2.le.trans (Le.upd hf), s2.keep, fun b w q => ?_, s2.stay⟩ (m2.data np hf hu) (.ref p) r
    by_cases hb : b = p
    · subst hb; exact .inr (.inl hp)
    · rw [upd_ne hb] at q; exact s2.new b w q
theorem callM_do {sg : List Bool} {f : Fn} (h : tO B W (mCallMO sg f ms) σ H Q) : tA B W ms σ H fun vs H1 => spOf B sg.length f vs H1 Q (WE W σ) := by
  obtain ⟨F, env, S, h⟩ := h
  refine ⟨F, env, S, (Post.bind S h).mono fun xs e1 F1 H1 s1 m1 l1 k1 vs rvs => ?_⟩
  refine callM_read m1 rvs (Post.bind m1 k1) fun r e2 F2 H2 s2 m2 l2 k3 => ?_
  have k4 := k3 F2 H2 s2 m2
  cases r with
  | fz d => exact k4.elim
  | ow o => exact fun p hp hf ho => Post.here m2 k4 p (s1.back hp) hf ho
variable {k : Nat} {fa : Addr} {fd : FuncData} {ps : List Str} {f : Fn} {x : Str} {p : Pos} {sg : List Bool}
theorem de_callM (G : FnOk X.prog X.w X.K X.mg X.base (L2.CX X.prog X.w) k fa fd ps (spOf B sg.length f)) (hr : Room k X.A) (tk : Takes X W) (hm : X.mg x = some (.ref fa)) (hk : PySem.W.keepIn X.K (.ref fa) = true) (hb : Binds X.K fd ps [])
    (ha : DA B X W (e :: es) ms) (hg : Gl X x := by rfl) (hdb : (x == ("__debug__" : Str)) = false := by decide) (he : starEach (e :: es) X.env = (false, eval e X.env) :: starEach es X.env := by rfl) (hpl : (backTo pos (starEach es X.env)).any (·.1) = false := by rfl) :
    DE B X W (.Call (.Name x p) (e :: es) [] pos) (mCallM sg f ms) := PE.imp (pe_callS (E := WE W) G hr hg hm hk hb (fun σ => passAt tk σ) ha hdb he hpl) fun σ H Q h => callM_de h
theorem do_callM (G : FnOk X.prog X.w X.K X.mg X.base (L2.CX X.prog X.w) k fa fd ps (spOf B sg.length f)) (hr : Room k X.A) (tk : Takes X W) (hm : X.mg x = some (.ref fa)) (hk : PySem.W.keepIn X.K (.ref fa) = true) (hb : Binds X.K fd ps [])
    (ha : DA B X W (e :: es) ms) (hg : Gl X x := by rfl) (hdb : (x == ("__debug__" : Str)) = false := by decide) (he : starEach (e :: es) X.env = (false, eval e X.env) :: starEach es X.env := by rfl) (hpl : (backTo pos (starEach es X.env)).any (·.1) = false := by rfl) :
    DO B X W (.Call (.Name x p) (e :: es) [] pos) (mCallMO sg f ms) := PE.imp (pe_callS (E := WE W) G hr hg hm hk hb (fun σ => passAt tk σ) ha hdb he hpl) fun σ H Q h => callM_do h
end
end AN

set_option Elab.async false
set_option maxRecDepth 100000
set_option autoImplicit false
set_option linter.unusedVariables false
namespace AN
open PySem L2

section
variable {B : Bx} {X : Cx} {W : WX} {F H : Hp} {env : Env} {σ : St} {Q : VK}
/-! ### arithmetic -/
theorem okS_app {x y : Str} (hx : okS x) (hy : okS y) (h : x.length + y.length ≤ sizeLine) : okS (x ++ y) := by
  refine ⟨?_, ?_⟩
  · show (x.cps ++ y.cps).size ≤ sizeLine
    rw [Array.size_append]; exact h
  · have h1 := hx.2
    have h2 := hy.2
    unfold PyData.strOk at h1 h2 ⊢
    show (x.cps ++ y.cps).all _ = true
    rw [Array.all_append, h1, h2]; rfl
/-- list + list -/
def rCatL (K : PySem.W.Frag) : R2 := fun x y H Q => ∃ l b xs zs, x = .ref l ∧ y = .ref b ∧ SqL K H l xs ∧ SqL K H b zs ∧ xs.length + zs.length ≤ sizeLine ∧ ∀ p, H p = none → Q (.ref p) (upd H p (.lst (xs ++ zs)))
theorem op_catL : OpR X (binaryOp .Add) (rCatL X.K) := by
  intro pins s σ H x y v u Q I rx ry h
  obtain ⟨l, b, xs, zs, e1, e2, hl, hb, hz, q⟩ := h
  subst e1; subst e2
  cases rx; cases ry
  obtain ⟨its, r, ⟨⟨c1, d1, t1, s1⟩, n, ea, hc1, _, hd1⟩, za⟩ := I.list hl
  obtain ⟨its2, r2, ⟨⟨c2, d2, t2, s2⟩, n2, eb, hc2, _, hd2⟩, zb⟩ := I.list hb
  simp only at hc1 hd1 hc2 hd2
  subst hc1 hd1 hc2 hd2
  have la : its.length = xs.length := (Paired.length r).symm
  have lb : its2.length = zs.length := (Paired.length r2).symm
  refine concat_meets ⟨_, ea, rfl⟩ ⟨_, eb, rfl⟩ noFill_list_add seq_list_add F.slot_list_add F.entry_list_add (F.args_list_add_2 _ _) (PyProof.Rows.list_addW l b its.toArray its2.toArray n n2 d1 d2 s1 s2 (by rw [List.size_toArray, List.size_toArray]; omega)) ⟨ea, eb, ?_⟩
  have ec : its.toArray ++ its2.toArray = (its ++ its2).toArray := by simp
  rw [ec]
  exact ⟨.ref _, _, I.lnew (t' := s.toks) (r.append r2) (by rw [List.length_append]; omega), rfl, q _ I.fresh⟩
def dAdd : D → D → Option D
  | .int i, .int j => some (.int (i + j))
  | .str x, .str y => if x.length + y.length ≤ sizeLine then some (.str (x ++ y)) else none
  | .lst xs, .lst ys => if xs.length + ys.length ≤ sizeLine then some (.lst (xs ++ ys)) else none
  | .tup xs, .tup ys => if xs.length + ys.length ≤ sizeLine then some (.tup (xs ++ ys)) else none
  | _, _ => none
abbrev rAddAll (K : PySem.W.Frag) : R2 := fun x y H Q => (rI0 fun i j => .int (i + j)) x y H Q ∨ ((∃ i j, x = .str i ∧ y = .str j ∧ i.length + j.length ≤ sizeLine ∧ Q (.str (i ++ j)) H) ∨ (rCatL K x y H Q ∨ rCatA K x y H Q))
theorem op_addAll : OpR X (binaryOp .Add) (rAddAll X.K) := OpR.or op_add (OpR.or op_add_str (OpR.or op_catL op_catA))
theorem Prim2.mk {g : D → D → Option D} {r : R2} (h : ∀ (F H : Hp) (a b z : D) (x y : V) (Q : VK), Holds F H → Seen B F H a x → Seen B F H b y → g a b = some z → (∀ v F' H', Step0 F H F' H' → Holds F' H' → Rep B F' z v → Q v H') → r x y H Q) : Prim2 B g r := h
theorem p_add (hK : X.K = B.K) : Prim2 B dAdd (rAddAll X.K) := fun F H a b z x y Q hh sa sb e q => by
  have here : ∀ v, Rep B F z v → Q v H := fun v r => q v F H (Step.refl _ _ _) hh r
  cases a with
  | int i =>
    cases b with
    | int j => cases e; cases (show x = .int i from sa); cases (show y = .int j from sb); exact .inl ⟨i, j, rfl, rfl, here _ rfl⟩
    | _ => cases e
  | str i =>
    cases b with
    | str j =>
      obtain ⟨rfl, o1⟩ := sa
      obtain ⟨rfl, o2⟩ := sb
      dsimp only [dAdd] at e
      by_cases hl : i.length + j.length ≤ sizeLine
      · rw [if_pos hl] at e; cases e
        exact .inr (.inl ⟨i, j, rfl, rfl, hl, here _ ⟨rfl, okS_app o1 o2 hl⟩⟩)
      · rw [if_neg hl] at e; cases e
    | _ => cases e
  | lst xs =>
    cases b with
    | lst ys =>
      obtain ⟨p, vs, rfl, a1, z1, r1⟩ := sa
      obtain ⟨p2, vs2, rfl, a2, z2, r2⟩ := sb
      dsimp only [dAdd] at e
      by_cases hl : xs.length + ys.length ≤ sizeLine
      · rw [if_pos hl] at e; cases e
        refine .inr (.inr (.inl ⟨p, p2, vs, vs2, rfl, rfl, by rw [hK]; exact a1, by rw [hK]; exact a2, by rw [r1.length, r2.length]; exact hl, fun p3 hp => ?_⟩))
        obtain ⟨s3, h3⟩ := step0_new (u := .lst (vs ++ vs2)) hh hp
        exact q _ _ _ s3 h3 ⟨p3, _, rfl, .inl upd_same, by rw [List.length_append]; exact hl, (r1.mono s3.le).append (r2.mono s3.le)⟩
      · rw [if_neg hl] at e; cases e
    | _ => cases e
  | tup xs =>
    cases b with
    | tup ys =>
      have sa' := sa
      have sb' := sb
      obtain ⟨p, vs, rfl, a1, z1, r1⟩ := sa
      obtain ⟨p2, vs2, rfl, a2, z2, r2⟩ := sb
      dsimp only [dAdd] at e
      by_cases hl : xs.length + ys.length ≤ sizeLine
      · rw [if_pos hl] at e; cases e
        refine .inr (.inr (.inr ⟨p, p2, vs, vs2, rfl, rfl, by rw [hK]; exact a1.sq hh, by rw [hK]; exact a2.sq hh, by rw [r1.length, r2.length]; exact hl, fun e0 => ?_, fun _ e1 => ?_, fun _ _ p3 hp => ?_⟩))
        · subst e0
          have : xs = [] := List.length_eq_zero_iff.mp (by rw [← r1.length]; rfl)
          subst this
          exact here _ sb'
        · subst e1
          have : ys = [] := List.length_eq_zero_iff.mp (by rw [← r2.length]; rfl)
          subst this
          refine here _ ?_
          rw [List.append_nil]; exact sa'
        · obtain ⟨s3, h3⟩ := step0_new (u := .tup (vs ++ vs2)) hh hp
          exact q _ _ _ s3 h3 ⟨p3, _, rfl, .inl upd_same, by rw [List.length_append]; exact hl, (r1.mono s3.le).append (r2.mono s3.le)⟩
      · rw [if_neg hl] at e; cases e
    | _ => cases e
  | _ => cases e
theorem de_add {a b : Expr} {ma mb : M Opd} {pos : Pos} (hK : X.K = B.K) (ha : DE B X W a ma) (hb : DE B X W b mb) : DE B X W (.BinOp a .Add b pos) (mD (mB2 dAdd ma mb)) := de_bin op_addAll (p_add hK) ha hb
/-- two ints -/
def dI (C : Int → Int → Bool) (g : Int → Int → D) : D → D → Option D
  | .int i, .int j => if C i j = true then some (g i j) else none
  | _, _ => none
theorem p_I {C : Int → Int → Prop} {Cb : Int → Int → Bool} {g : Int → Int → V} {gd : Int → Int → D} (hC : ∀ i j, Cb i j = true → C i j) (hg : ∀ F i j, Rep B F (gd i j) (g i j)) : Prim2 B (dI Cb gd) (rI C g) := fun F H a b z x y Q hh sa sb e q => by
  cases a with
  | int i =>
    cases b with
    | int j =>
      dsimp only [dI] at e
      by_cases hc : Cb i j = true
      · rw [if_pos hc] at e; cases e; cases (show x = .int i from sa); cases (show y = .int j from sb)
        exact ⟨i, j, rfl, rfl, hC i j hc, q _ F H (Step.refl _ _ _) hh (hg F i j)⟩
      · rw [if_neg hc] at e; cases e
    | _ => cases e
  | _ => cases e
theorem p_I0 {g : Int → Int → V} {gd : Int → Int → D} (hg : ∀ F i j, Rep B F (gd i j) (g i j)) : Prim2 B (dI (fun _ _ => true) gd) (rI0 g) := fun F H a b z x y Q hh sa sb e q => by
  obtain ⟨i, j, e1, e2, _, h⟩ := p_I (B := B) (C := fun _ _ => True) (Cb := fun _ _ => true) (fun _ _ _ => trivial) hg F H a b z x y Q hh sa sb e q
  exact ⟨i, j, e1, e2, h⟩
abbrev dSub := dI (fun _ _ => true) fun i j => .int (i - j)
abbrev dMod := dI (fun _ j => decide (0 < j)) fun i j => .int (i % j)
abbrev dFdiv := dI (fun _ j => decide (0 < j) && decide (j < 2 ^ 64)) fun i j => .int (i / j)
abbrev dPow := dI (fun i j => decide (0 ≤ j) && decide (j ≤ 1000000) && decide (i.natAbs < 2 ^ 64)) fun i j => .int (i ^ j.toNat)
abbrev dMulI := dI (fun i j => (decide (-(2 ^ 64) < i) && decide (i < 2 ^ 64)) || (decide (-(2 ^ 64) < j) && decide (j < 2 ^ 64))) fun i j => .int (i * j)
abbrev dLt := dI (fun _ _ => true) fun i j => .bl (decide (i < j))
abbrev dLe := dI (fun _ _ => true) fun i j => .bl (decide (i ≤ j))
abbrev dGt := dI (fun _ _ => true) fun i j => .bl (decide (j < i))
abbrev dGe := dI (fun _ _ => true) fun i j => .bl (decide (j ≤ i))
variable {a b c e : Expr} {ma mb mc : M Opd} {pos : Pos}
theorem de_sub (ha : DE B X W a ma) (hb : DE B X W b mb) : DE B X W (.BinOp a .Sub b pos) (mD (mB2 dSub ma mb)) := de_bin op_sub (p_I0 fun _ _ _ => rfl) ha hb
theorem de_mod (ha : DE B X W a ma) (hb : DE B X W b mb) : DE B X W (.BinOp a .Mod b pos) (mD (mB2 dMod ma mb)) := de_bin op_mod (p_I (fun _ _ h => of_decide_eq_true h) fun _ _ _ => rfl) ha hb
theorem de_fdiv (ha : DE B X W a ma) (hb : DE B X W b mb) : DE B X W (.BinOp a .FloorDiv b pos) (mD (mB2 dFdiv ma mb)) := de_bin op_fdivW (p_I (fun i j h => by
  simp only [Bool.and_eq_true, decide_eq_true_eq] at h
  exact wide_div (b := 64) h.1 (by omega) (by decide) (by decide)) fun _ _ _ => rfl) ha hb
theorem de_pow (ha : DE B X W a ma) (hb : DE B X W b mb) : DE B X W (.BinOp a .Pow b pos) (mD (mB2 dPow ma mb)) := de_bin op_pow (p_I (fun i j h => by
  simp only [Bool.and_eq_true, decide_eq_true_eq] at h
  exact ⟨h.1.1, h.1.2, h.2⟩) fun _ _ _ => rfl) ha hb
theorem de_mulI (ha : DE B X W a ma) (hb : DE B X W b mb) : DE B X W (.BinOp a .Mult b pos) (mD (mB2 dMulI ma mb)) := de_bin op_mul (p_I (fun i j h => by
  simp only [Bool.or_eq_true, Bool.and_eq_true, decide_eq_true_eq] at h
  exact h) fun _ _ _ => rfl) ha hb
def dNeg : D → Option D
  | .int i => some (.int (-i))
  | _ => none
theorem de_neg (ha : DE B X W a ma) : DE B X W (.UnaryOp .USub a pos) (mD (mB1 dNeg ma)) := de_un un_neg (fun F H a z x Q hh sa e q => by
  cases a with
  | int i => cases e; cases (show x = .int i from sa); exact ⟨i, rfl, q _ F H (Step.refl _ _ _) hh rfl⟩
  | _ => cases e) ha
/-! ### comparisons -/
theorem p_lt : Prim2 B dLt (rI0 fun i j => .bl (decide (i < j))) := p_I0 fun _ _ _ => rfl
theorem p_le : Prim2 B dLe (rI0 fun i j => .bl (decide (i ≤ j))) := p_I0 fun _ _ _ => rfl
theorem p_gt : Prim2 B dGt (rI0 fun i j => .bl (decide (j < i))) := p_I0 fun _ _ _ => rfl
theorem p_ge : Prim2 B dGe (rI0 fun i j => .bl (decide (j ≤ i))) := p_I0 fun _ _ _ => rfl
/-- x is None, True, False -/
def dIs : D → D → Option D
  | .non, .non => some (.bl true)
  | _, .non => some (.bl false)
  | .bl a, .bl b => some (.bl (decide (a = b)))
  | .int _, .bl _ => some (.bl false)
  | .str _, .bl _ => some (.bl false)
  | .non, .bl _ => some (.bl false)
  | _, _ => none
end
end AN

set_option Elab.async false
set_option maxRecDepth 100000
set_option autoImplicit false
set_option linter.unusedVariables false
namespace AN
open PySem L2

/-! ### equality of data -/
mutual
def toP : D → PyData
  | .non => .none
  | .bl b => .bool b
  | .int i => .int i
  | .str s => .str s
  | .lst xs => .list (toPs xs)
  | .tup xs => .tuple (toPs xs)
  | .dic _ => .none
  | .obj _ _ => .none
def toPs : List D → List PyData
  | [] => []
  | d :: ds => toP d :: toPs ds
end
/-- no dict, no object within, at most n deep -/
def dle : Nat → D → Bool
  | 0, d => scalar d
  | n + 1, d => match d with
    | .lst xs => xs.all (dle n)
    | .tup xs => xs.all (dle n)
    | d => scalar d
def deqv (a b : D) : Bool := PyData.eqv (toP a) (toP b)
def deqvs (a b : List D) : Bool := PyData.eqvAll (toPs a) (toPs b)
section
variable {B : Bx} {X : Cx} {W : WX} {F H : Hp} {env : Env} {σ : St} {Q : VK}
theorem dp_scal {K : PySem.W.Frag} {d : D} {v : V} (h : scalar d = true) (r : Rep B F d v) : Dp K H v (toP d) ∧ PyData.canLay0 (toP d) = true ∧ PyData.depth (toP d) = 0 := by
  cases d with
  | non => cases (show v = .non from r); exact ⟨.non, rfl, rfl⟩
  | bl b => cases (show v = .bl b from r); exact ⟨.bl b, rfl, rfl⟩
  | int i => cases (show v = .int i from r); exact ⟨.int i, rfl, rfl⟩
  | str s => obtain ⟨rfl, ok⟩ := r; exact ⟨.str s, ok.2, rfl⟩
  | _ => cases h
theorem dp_list {K : PySem.W.Frag} (n : Nat) (ih : ∀ (d : D) (v : V), dle n d = true → Rep B F d v → Dp K H v (toP d) ∧ PyData.canLay0 (toP d) = true ∧ PyData.depth (toP d) ≤ n) :
    ∀ (ds : List D) (vs : List V), ds.all (dle n) = true → RepL B F ds vs → DpAll K H vs (toPs ds) ∧ PyData.canLayAll0 (toPs ds) = true ∧ PyData.depthAll (toPs ds) ≤ n
  | [], vs, _, r => by
    rw [show vs = [] from r]
    exact ⟨.nil, rfl, Nat.zero_le _⟩
  | d :: ds, vs, h, r => by
    obtain ⟨v, rest, rfl, r1, r2⟩ := r
    rw [List.all_cons, Bool.and_eq_true] at h
    obtain ⟨a1, a2, a3⟩ := ih d v h.1 r1
    obtain ⟨b1, b2, b3⟩ := dp_list n ih ds rest h.2 r2
    refine ⟨.cons a1 b1, ?_, ?_⟩
    · show (PyData.canLay0 (toP d) && PyData.canLayAll0 (toPs ds)) = true
      rw [a2, b2]; rfl
    · show max (PyData.depth (toP d)) (PyData.depthAll (toPs ds)) ≤ n
      omega
theorem dp_of {K : PySem.W.Frag} (hK : K = B.K) (hh : Holds F H) : ∀ (n : Nat) (d : D) (v : V), dle n d = true → Rep B F d v → Dp K H v (toP d) ∧ PyData.canLay0 (toP d) = true ∧ PyData.depth (toP d) ≤ n
  | 0, d, v, h, r => by
    obtain ⟨a, b, c⟩ := dp_scal (K := K) (H := H) h r
    exact ⟨a, b, by omega⟩
  | n + 1, d, v, h, r => by
    cases d with
    | lst xs =>
      obtain ⟨p, vs, rfl, a, z, rl⟩ := r
      obtain ⟨b1, b2, b3⟩ := dp_list n (dp_of hK hh n) xs vs h rl
      exact ⟨.lst (by rw [hK]; exact a.sq hh) b1, b2, Nat.succ_le_succ b3⟩
    | tup xs =>
      obtain ⟨p, vs, rfl, a, z, rl⟩ := r
      obtain ⟨b1, b2, b3⟩ := dp_list n (dp_of hK hh n) xs vs h rl
      exact ⟨.tup (by rw [hK]; exact a.sq hh) b1, b2, Nat.succ_le_succ b3⟩
    | dic _ => cases h
    | obj _ _ => cases h
    | non => obtain ⟨a, b, c⟩ := dp_scal (K := K) (H := H) (d := .non) rfl r; exact ⟨a, b, by omega⟩
    | bl x => obtain ⟨a, b, c⟩ := dp_scal (K := K) (H := H) (d := .bl x) rfl r; exact ⟨a, b, by omega⟩
    | int x => obtain ⟨a, b, c⟩ := dp_scal (K := K) (H := H) (d := .int x) rfl r; exact ⟨a, b, by omega⟩
    | str x => obtain ⟨a, b, c⟩ := dp_scal (K := K) (H := H) (d := .str x) rfl r; exact ⟨a, b, by omega⟩
theorem Seen.dp {K : PySem.W.Frag} (hK : K = B.K) (hh : Holds F H) {d : D} {v : V} (h : dle 8 d = true) (s : Seen B F H d v) : Dp K H v (toP d) ∧ SeqAt.shaped (toP d) = true := by
  have fin : ∀ {p : PyData}, PyData.canLay0 p = true ∧ PyData.depth p ≤ 8 → SeqAt.shaped p = true := fun {p} h => by
    unfold SeqAt.shaped
    rw [h.1, Bool.true_and]
    exact decide_eq_true (by omega)
  cases d with
  | lst xs =>
    obtain ⟨p, vs, rfl, a, z, rl⟩ := s
    obtain ⟨b1, b2, b3⟩ := dp_list 7 (dp_of hK hh 7) xs vs h rl
    exact ⟨.lst (by rw [hK]; exact a) b1, fin ⟨b2, Nat.succ_le_succ b3⟩⟩
  | tup xs => obtain ⟨a, b⟩ := dp_of hK hh 8 (.tup xs) v h s; exact ⟨a, fin b⟩
  | dic _ => cases h
  | obj _ _ => cases h
  | non => obtain ⟨a, b⟩ := dp_of hK hh 8 .non v h s; exact ⟨a, fin b⟩
  | bl x => obtain ⟨a, b⟩ := dp_of hK hh 8 (.bl x) v h s; exact ⟨a, fin b⟩
  | int x => obtain ⟨a, b⟩ := dp_of hK hh 8 (.int x) v h s; exact ⟨a, fin b⟩
  | str x => obtain ⟨a, b⟩ := dp_of hK hh 8 (.str x) v h s; exact ⟨a, fin b⟩
def dEq (a b : D) : Option D := if (dle 8 a && dle 8 b) = true then some (.bl (deqv a b)) else none
def dNe (a b : D) : Option D := if (dle 8 a && dle 8 b) = true then some (.bl (!deqv a b)) else none
theorem p_eq (hK : X.K = B.K) : Prim2 B dEq (rEqD X.K) := fun F H a b z x y Q hh sa sb e q => by
  unfold dEq at e
  by_cases h : (dle 8 a && dle 8 b) = true
  · rw [if_pos h] at e; cases e
    rw [Bool.and_eq_true] at h
    obtain ⟨a1, a2⟩ := sa.dp hK hh h.1
    obtain ⟨b1, b2⟩ := sb.dp hK hh h.2
    exact ⟨_, _, a1, b1, a2, b2, q _ F H (Step.refl _ _ _) hh rfl⟩
  · rw [if_neg h] at e; cases e
theorem p_ne (hK : X.K = B.K) : Prim2 B dNe (rNeD X.K) := fun F H a b z x y Q hh sa sb e q => by
  unfold dNe at e
  by_cases h : (dle 8 a && dle 8 b) = true
  · rw [if_pos h] at e; cases e
    rw [Bool.and_eq_true] at h
    obtain ⟨a1, a2⟩ := sa.dp hK hh h.1
    obtain ⟨b1, b2⟩ := sb.dp hK hh h.2
    exact ⟨_, _, a1, b1, a2, b2, q _ F H (Step.refl _ _ _) hh rfl⟩
  · rw [if_neg h] at e; cases e
/-! ### is -/
def isNonD : D → Bool
  | .non => true
  | _ => false
def isBlD (b : Bool) : D → Bool
  | .bl c => decide (c = b)
  | _ => false
def isD : D → D → Option Bool
  | a, .non => some (isNonD a)
  | a, .bl b => some (isBlD b a)
  | _, _ => none
def rIsX (n : Bool) : R2 := fun x y H Q => (y = .non ∧ Q (.bl (if n then !decide (x = .non) else decide (x = .non))) H) ∨ ∃ b, y = .bl b ∧ Q (.bl (if n then !decide (x = .bl b) else decide (x = .bl b))) H
theorem relV_bool {x : V} {v : Value} {b : Bool} (r : RelV x v) : (v == Value.bool b) = decide (x = .bl b) := by
  cases x with
  | bl c =>
    cases (show v = Value.bool c from r)
    by_cases e : c = b
    · subst e; simp
    · rw [decide_eq_false (by simpa using e)]
      exact beq_eq_false_iff_ne.mpr fun z => e (Value.bool.inj z)
  | non => cases (show v = Value.none from r); rfl
  | int _ => obtain ⟨t, rfl⟩ := r; rfl
  | str _ => obtain ⟨t, rfl⟩ := r; rfl
  | byt _ => obtain ⟨t, rfl⟩ := r; rfl
  | flt _ => obtain ⟨t, rfl⟩ := r; rfl
  | ref a => cases (show v = Value.ref a from r); rfl
  | ty n => cases (show v = Value.type n from r); rfl
theorem is_bool_gen {M : Model} {A : Around} {E : Value → Shared → Prop} {s : Shared} {Q : Value → Shared → Prop} {x : V} {v : Value} {b : Bool} (r : RelV x v) (h : Q (.bool (v == .bool b)) s) : wpAny M A (compareOp .Is v (.bool b)) Q E s := by
  cases x with
  | non => cases (show v = Value.none from r); exact wpAny_pure h
  | bl c => cases (show v = Value.bool c from r); exact wpAny_pure h
  | int _ => obtain ⟨t, rfl⟩ := r; exact wpAny_pure h
  | str _ => obtain ⟨t, rfl⟩ := r; exact wpAny_pure h
  | byt _ => obtain ⟨t, rfl⟩ := r; exact wpAny_pure h
  | flt _ => obtain ⟨t, rfl⟩ := r; exact wpAny_pure h
  | ref a => cases (show v = Value.ref a from r); exact wpAny_pure h
  | ty n => cases (show v = Value.type n from r); exact wpAny_pure h
theorem isnot_bool_gen {M : Model} {A : Around} {E : Value → Shared → Prop} {s : Shared} {Q : Value → Shared → Prop} {x : V} {v : Value} {b : Bool} (r : RelV x v) (h : Q (.bool (!(v == .bool b))) s) : wpAny M A (compareOp .IsNot v (.bool b)) Q E s := by
  cases x with
  | non => cases (show v = Value.none from r); exact wpAny_pure h
  | bl c => cases (show v = Value.bool c from r); exact wpAny_pure h
  | int _ => obtain ⟨t, rfl⟩ := r; exact wpAny_pure h
  | str _ => obtain ⟨t, rfl⟩ := r; exact wpAny_pure h
  | byt _ => obtain ⟨t, rfl⟩ := r; exact wpAny_pure h
  | flt _ => obtain ⟨t, rfl⟩ := r; exact wpAny_pure h
  | ref a => cases (show v = Value.ref a from r); exact wpAny_pure h
  | ty n => cases (show v = Value.type n from r); exact wpAny_pure h
theorem op_isX : OpR X (compareOp .Is) (rIsX false) := by
  intro pins s σ H x y v u Q I rx ry h
  rcases h with ⟨rfl, q⟩ | ⟨b, rfl, q⟩
  · cases (show u = Value.none from ry)
    exact PyProof.Rows.is_none_gen ⟨.bl _, H, I, by rw [rx.none_iff]; rfl, q⟩
  · cases (show u = Value.bool b from ry)
    exact is_bool_gen rx ⟨.bl _, H, I, by rw [relV_bool rx]; rfl, q⟩
theorem op_isNotX : OpR X (compareOp .IsNot) (rIsX true) := by
  intro pins s σ H x y v u Q I rx ry h
  rcases h with ⟨rfl, q⟩ | ⟨b, rfl, q⟩
  · cases (show u = Value.none from ry)
    exact PyProof.Rows.isnot_none_gen ⟨.bl _, H, I, by rw [rx.none_iff]; rfl, q⟩
  · cases (show u = Value.bool b from ry)
    exact isnot_bool_gen rx ⟨.bl _, H, I, by rw [relV_bool rx]; rfl, q⟩
def dIsX (n : Bool) (a b : D) : Option D := (isD a b).map fun k => .bl (if n then !k else k)
theorem seen_non {a : D} {x : V} (s : Seen B F H a x) : isNonD a = decide (x = .non) := by
  cases a with
  | non => cases (show x = .non from s); rfl
  | bl b => cases (show x = .bl b from s); rfl
  | int i => cases (show x = .int i from s); rfl
  | str i => obtain ⟨rfl, _⟩ := s; rfl
  | lst _ => obtain ⟨p, vs, rfl, _⟩ := s; rfl
  | tup _ => obtain ⟨p, vs, rfl, _⟩ := s; rfl
  | dic _ => obtain ⟨p, vs, rfl, _⟩ := s; rfl
  | obj _ _ => obtain ⟨p, C, dx, vs, rfl, _⟩ := s; rfl
theorem seen_bl {a : D} {x : V} {b : Bool} (s : Seen B F H a x) : isBlD b a = decide (x = .bl b) := by
  cases a with
  | non => cases (show x = .non from s); rfl
  | bl c =>
    cases (show x = .bl c from s)
    by_cases e : c = b
    · subst e; show decide (c = c) = _; simp
    · show decide (c = b) = _
      rw [decide_eq_false e, decide_eq_false (fun z => e (V.bl.inj z))]
  | int i => cases (show x = .int i from s); rfl
  | str i => obtain ⟨rfl, _⟩ := s; rfl
  | lst _ => obtain ⟨p, vs, rfl, _⟩ := s; rfl
  | tup _ => obtain ⟨p, vs, rfl, _⟩ := s; rfl
  | dic _ => obtain ⟨p, vs, rfl, _⟩ := s; rfl
  | obj _ _ => obtain ⟨p, C, dx, vs, rfl, _⟩ := s; rfl
theorem p_is (n : Bool) : Prim2 B (dIsX n) (rIsX n) := fun F H a b z x y Q hh sa sb e q => by
  unfold dIsX at e
  cases b with
  | non =>
    cases (show y = .non from sb)
    cases e
    refine .inl ⟨rfl, q _ F H (Step.refl _ _ _) hh ?_⟩
    rw [← seen_non sa]; rfl
  | bl b =>
    cases (show y = .bl b from sb)
    cases e
    refine .inr ⟨b, rfl, q _ F H (Step.refl _ _ _) hh ?_⟩
    rw [← seen_bl sa]; rfl
  | _ => cases a <;> cases e
end
end AN

set_option Elab.async false
set_option maxRecDepth 100000
set_option autoImplicit false
set_option linter.unusedVariables false
namespace AN
open PySem L2

section
variable {B : Bx} {X : Cx} {W : WX} {F H : Hp} {env : Env} {σ : St} {Q : VK} {a b c e : Expr} {ma mb mc : M Opd} {pos p : Pos} {x : Str} {id T : String} {r : List V → Hp → VK → Prop}
/-! ### built-ins by name -/
theorem de_b1 {g : D → Option D} (hc : CallR X (.builtin id) r) (hp : Prim1 B g (fun x H Q => r [x] H Q)) (ha : DE B X W a ma) (hm : X.mg x = none) (hv : bootBuiltins x = some (.builtin id)) (hg : Gl X x := by rfl) (hn : x ≠ "__name__" := by decide) (hdb : (x == ("__debug__" : Str)) = false := by decide)
    (he : starEach [a] X.env = (false, eval a X.env) :: starEach [] X.env := by rfl) (hpl : (backTo pos (starEach [] X.env)).any (·.1) = false := by rfl) : DE B X W (.Call (.Name x p) [a] [] pos) (mD (mB1 g ma)) :=
  PE.imp (pe_callB hc hg hm hv (pa_cons ha pa_nil he) hn hdb he hpl) fun σ H Q h => op1 hp h
theorem de_b2 {g : D → D → Option D} (hc : CallR X (.builtin id) r) (hp : Prim2 B g (fun x y H Q => r [x, y] H Q)) (ha : DE B X W a ma) (hb : DE B X W b mb) (hm : X.mg x = none) (hv : bootBuiltins x = some (.builtin id)) (hg : Gl X x := by rfl) (hn : x ≠ "__name__" := by decide) (hdb : (x == ("__debug__" : Str)) = false := by decide)
    (he : starEach [a, b] X.env = (false, eval a X.env) :: starEach [b] X.env := by rfl) (he2 : starEach [b] X.env = (false, eval b X.env) :: starEach [] X.env := by rfl) (hpl : (backTo pos (starEach [b] X.env)).any (·.1) = false := by rfl) : DE B X W (.Call (.Name x p) [a, b] [] pos) (mD (mB2 g ma mb)) :=
  PE.imp (pe_callB hc hg hm hv (pa_cons ha (pa_cons hb pa_nil he2) he) hn hdb he hpl) fun σ H Q h => op2 (r := fun x y H Q => r [x, y] H Q) hp h
theorem de_t1 {g : D → Option D} (hc : CallR X (.type T) r) (hp : Prim1 B g (fun x H Q => r [x] H Q)) (ha : DE B X W a ma) (hm : X.mg x = none) (hv : bootBuiltins x = some (.type T)) (hg : Gl X x := by rfl) (hn : x ≠ "__name__" := by decide) (hdb : (x == ("__debug__" : Str)) = false := by decide)
    (he : starEach [a] X.env = (false, eval a X.env) :: starEach [] X.env := by rfl) (hpl : (backTo pos (starEach [] X.env)).any (·.1) = false := by rfl) : DE B X W (.Call (.Name x p) [a] [] pos) (mD (mB1 g ma)) :=
  PE.imp (pe_callTy hc hg hm hv (pa_cons ha pa_nil he) hn hdb he hpl) fun σ H Q h => op1 hp h
theorem do_t1 {g : D → Option O} (hc : CallR X (.type T) r) (hp : PrimO1 B g (fun x H Q => r [x] H Q)) (ha : DE B X W a ma) (hm : X.mg x = none) (hv : bootBuiltins x = some (.type T)) (hg : Gl X x := by rfl) (hn : x ≠ "__name__" := by decide) (hdb : (x == ("__debug__" : Str)) = false := by decide)
    (he : starEach [a] X.env = (false, eval a X.env) :: starEach [] X.env := by rfl) (hpl : (backTo pos (starEach [] X.env)).any (·.1) = false := by rfl) : DO B X W (.Call (.Name x p) [a] [] pos) (mB1 g ma) :=
  PE.imp (pe_callTy hc hg hm hv (pa_cons ha pa_nil he) hn hdb he hpl) fun σ H Q h => opO1 hp h
def dLen : D → Option D
  | .str s => some (.int s.length)
  | .lst xs => some (.int xs.length)
  | .tup xs => some (.int xs.length)
  | _ => none
theorem p_len (hK : X.K = B.K) : Prim1 B dLen (fun x H Q => ∃ y n, [x] = [y] ∧ LenV X.K y H n ∧ Q (.int n) H) := fun F H a z x Q hh sa e q => by
  have fin : ∀ n : Nat, z = .int n → Q (.int n) H := fun n e => q _ F H (Step.refl _ _ _) hh (by rw [e]; rfl)
  cases a with
  | str s => cases e; obtain ⟨rfl, ok⟩ := sa; exact ⟨_, _, rfl, ⟨ok.1, rfl⟩, fin _ rfl⟩
  | lst xs => cases e; obtain ⟨p, vs, rfl, a, _, r⟩ := sa; exact ⟨_, _, rfl, .inl ⟨vs, by rw [hK]; exact a, rfl⟩, fin _ (by rw [r.length])⟩
  | tup xs => cases e; obtain ⟨p, vs, rfl, a, _, r⟩ := sa; exact ⟨_, _, rfl, .inr ⟨vs, by rw [hK]; exact a.sq hh, rfl⟩, fin _ (by rw [r.length])⟩
  | _ => cases e
theorem de_len (hK : X.K = B.K) (ha : DE B X W a ma) (hm : X.mg "len" = none) (hg : Gl X "len" := by rfl) (he : starEach [a] X.env = (false, eval a X.env) :: starEach [] X.env := by rfl) (hpl : (backTo pos (starEach [] X.env)).any (·.1) = false := by rfl) : DE B X W (.Call (.Name "len" p) [a] [] pos) (mD (mB1 dLen ma)) :=
  de_b1 call_len (p_len hK) ha hm (by decide +kernel) hg (by decide) (by decide) he hpl
def dAbs : D → Option D
  | .int i => some (.int (if i < 0 then -i else i))
  | _ => none
theorem de_abs (ha : DE B X W a ma) (hm : X.mg "abs" = none) (hg : Gl X "abs" := by rfl) (he : starEach [a] X.env = (false, eval a X.env) :: starEach [] X.env := by rfl) (hpl : (backTo pos (starEach [] X.env)).any (·.1) = false := by rfl) : DE B X W (.Call (.Name "abs" p) [a] [] pos) (mD (mB1 dAbs ma)) :=
  de_b1 call_abs (fun F H a z x Q hh sa e q => by
    cases a with
    | int i => cases e; cases (show x = .int i from sa); exact ⟨i, rfl, q _ F H (Step.refl _ _ _) hh rfl⟩
    | _ => cases e) ha hm (by decide +kernel) hg (by decide) (by decide) he hpl
def dInt : D → Option D
  | .int i => some (.int i)
  | .bl k => some (.int (if k then 1 else 0))
  | _ => none
theorem de_int1 (ha : DE B X W a ma) (hm : X.mg "int" = none) (hg : Gl X "int" := by rfl) (he : starEach [a] X.env = (false, eval a X.env) :: starEach [] X.env := by rfl) (hpl : (backTo pos (starEach [] X.env)).any (·.1) = false := by rfl) : DE B X W (.Call (.Name "int" p) [a] [] pos) (mD (mB1 dInt ma)) :=
  de_t1 call_int1 (fun F H a z x Q hh sa e q => by
    cases a with
    | int i => cases e; cases (show x = .int i from sa); exact .inl ⟨i, rfl, q _ F H (Step.refl _ _ _) hh rfl⟩
    | bl k => cases e; cases (show x = .bl k from sa); exact .inr ⟨k, rfl, q _ F H (Step.refl _ _ _) hh rfl⟩
    | _ => cases e) ha hm (by decide +kernel) hg (by decide) (by decide) he hpl
abbrev dMax2 := dI (fun _ _ => true) fun i j => .int (if j > i then j else i)
abbrev dMin2 := dI (fun _ _ => true) fun i j => .int (if j < i then j else i)
theorem de_max2 (hc : X.calm = true) (ha : DE B X W a ma) (hb : DE B X W b mb) (hm : X.mg "max" = none) (hg : Gl X "max" := by rfl)
    (he : starEach [a, b] X.env = (false, eval a X.env) :: starEach [b] X.env := by rfl) (he2 : starEach [b] X.env = (false, eval b X.env) :: starEach [] X.env := by rfl) (hpl : (backTo pos (starEach [b] X.env)).any (·.1) = false := by rfl) : DE B X W (.Call (.Name "max" p) [a, b] [] pos) (mD (mB2 dMax2 ma mb)) :=
  de_b2 (call_max2 hc) (fun F H a b z x y Q hh sa sb e q => by
    cases a with
    | int i =>
      cases b with
      | int j => cases e; cases (show x = .int i from sa); cases (show y = .int j from sb); exact ⟨i, j, rfl, q _ F H (Step.refl _ _ _) hh rfl⟩
      | _ => cases e
    | _ => cases e) ha hb hm (by decide +kernel) hg (by decide) (by decide) he he2 hpl
theorem de_min2 (hc : X.calm = true) (ha : DE B X W a ma) (hb : DE B X W b mb) (hm : X.mg "min" = none) (hg : Gl X "min" := by rfl)
    (he : starEach [a, b] X.env = (false, eval a X.env) :: starEach [b] X.env := by rfl) (he2 : starEach [b] X.env = (false, eval b X.env) :: starEach [] X.env := by rfl) (hpl : (backTo pos (starEach [b] X.env)).any (·.1) = false := by rfl) : DE B X W (.Call (.Name "min" p) [a, b] [] pos) (mD (mB2 dMin2 ma mb)) :=
  de_b2 (call_min2 hc) (fun F H a b z x y Q hh sa sb e q => by
    cases a with
    | int i =>
      cases b with
      | int j => cases e; cases (show x = .int i from sa); cases (show y = .int j from sb); exact ⟨i, j, rfl, q _ F H (Step.refl _ _ _) hh rfl⟩
      | _ => cases e
    | _ => cases e) ha hb hm (by decide +kernel) hg (by decide) (by decide) he he2 hpl
def intsOf : List D → Option (List Int)
  | [] => some []
  | .int i :: ds => (intsOf ds).map (i :: ·)
  | _ :: _ => none
theorem intsOf_rep : ∀ {ds : List D} {vs : List V} {ns : List Int}, intsOf ds = some ns → RepL B F ds vs → vs = ns.map V.int
  | [], vs, ns, h, r => by cases h; exact r
  | d :: ds, vs, ns, h, r => by
    obtain ⟨v, rest, rfl, r1, r2⟩ := r
    cases d with
    | int i =>
      simp only [intsOf, Option.map_eq_some_iff] at h
      obtain ⟨m, h, rfl⟩ := h
      rw [show v = .int i from r1, intsOf_rep h r2]; rfl
    | _ => cases h
def dSum : D → Option D
  | .lst xs => (intsOf xs).map fun ns => .int ns.sum
  | _ => none
theorem de_sum (hc : X.calm = true) (hK : X.K = B.K) (ha : DE B X W a ma) (hm : X.mg "sum" = none) (hg : Gl X "sum" := by rfl) (he : starEach [a] X.env = (false, eval a X.env) :: starEach [] X.env := by rfl) (hpl : (backTo pos (starEach [] X.env)).any (·.1) = false := by rfl) : DE B X W (.Call (.Name "sum" p) [a] [] pos) (mD (mB1 dSum ma)) :=
  de_b1 (cr_sum hc) (fun F H a z x Q hh sa e q => by
    cases a with
    | lst xs =>
      simp only [dSum, Option.map_eq_some_iff] at e
      obtain ⟨ns, e, rfl⟩ := e
      obtain ⟨p, vs, rfl, a, _, r⟩ := sa
      exact ⟨p, ns, rfl, by rw [← intsOf_rep e r, hK]; exact a, q _ F H (Step.refl _ _ _) hh rfl⟩
    | _ => cases e) ha hm (by decide +kernel) hg (by decide) (by decide) he hpl
def blsOf : List D → Option (List Bool)
  | [] => some []
  | .bl i :: ds => (blsOf ds).map (i :: ·)
  | _ :: _ => none
theorem blsOf_rep : ∀ {ds : List D} {vs : List V} {ns : List Bool}, blsOf ds = some ns → RepL B F ds vs → vs = ns.map V.bl
  | [], vs, ns, h, r => by cases h; exact r
  | d :: ds, vs, ns, h, r => by
    obtain ⟨v, rest, rfl, r1, r2⟩ := r
    cases d with
    | bl i =>
      simp only [blsOf, Option.map_eq_some_iff] at h
      obtain ⟨m, h, rfl⟩ := h
      rw [show v = .bl i from r1, blsOf_rep h r2]; rfl
    | _ => cases h
def dAll : D → Option D
  | .lst xs => (blsOf xs).map fun ns => .bl (ns.all fun b => b)
  | _ => none
def dAny : D → Option D
  | .lst xs => (blsOf xs).map fun ns => .bl (ns.any fun b => b)
  | _ => none
theorem de_all (hc : X.calm = true) (hK : X.K = B.K) (ha : DE B X W a ma) (hm : X.mg "all" = none) (hg : Gl X "all" := by rfl) (he : starEach [a] X.env = (false, eval a X.env) :: starEach [] X.env := by rfl) (hpl : (backTo pos (starEach [] X.env)).any (·.1) = false := by rfl) : DE B X W (.Call (.Name "all" p) [a] [] pos) (mD (mB1 dAll ma)) :=
  de_b1 (cr_all hc) (fun F H a z x Q hh sa e q => by
    cases a with
    | lst xs =>
      simp only [dAll, Option.map_eq_some_iff] at e
      obtain ⟨ns, e, rfl⟩ := e
      obtain ⟨p, vs, rfl, a, _, r⟩ := sa
      exact ⟨p, ns, rfl, by rw [← blsOf_rep e r, hK]; exact a, q _ F H (Step.refl _ _ _) hh rfl⟩
    | _ => cases e) ha hm (by decide +kernel) hg (by decide) (by decide) he hpl
theorem de_any (hc : X.calm = true) (hK : X.K = B.K) (ha : DE B X W a ma) (hm : X.mg "any" = none) (hg : Gl X "any" := by rfl) (he : starEach [a] X.env = (false, eval a X.env) :: starEach [] X.env := by rfl) (hpl : (backTo pos (starEach [] X.env)).any (·.1) = false := by rfl) : DE B X W (.Call (.Name "any" p) [a] [] pos) (mD (mB1 dAny ma)) :=
  de_b1 (cr_any hc) (fun F H a z x Q hh sa e q => by
    cases a with
    | lst xs =>
      simp only [dAny, Option.map_eq_some_iff] at e
      obtain ⟨ns, e, rfl⟩ := e
      obtain ⟨p, vs, rfl, a, _, r⟩ := sa
      exact ⟨p, ns, rfl, by rw [← blsOf_rep e r, hK]; exact a, q _ F H (Step.refl _ _ _) hh rfl⟩
    | _ => cases e) ha hm (by decide +kernel) hg (by decide) (by decide) he hpl
/-- repr of a bool -/
def dReprB : D → Option D
  | .bl b => some (.str (if b then "True" else "False"))
  | _ => none
theorem call_repr_bool : CallR X (.builtin "repr") (fun xs H Q => ∃ b : Bool, xs = [.bl b] ∧ Q (.str (if b then "True" else "False")) H) := by
  intro pins s σ H xs us Q I r h
  obtain ⟨b, rfl, q⟩ := h
  obtain ⟨u, rfl, ru⟩ := vals1 r
  cases (show u = Value.bool b from ru)
  exact PySem.P.repr_of_bool ⟨.str _, H, I.tok _, ⟨_, rfl⟩, q⟩
theorem de_reprB (ha : DE B X W a ma) (hm : X.mg "repr" = none) (hg : Gl X "repr" := by rfl) (he : starEach [a] X.env = (false, eval a X.env) :: starEach [] X.env := by rfl) (hpl : (backTo pos (starEach [] X.env)).any (·.1) = false := by rfl) : DE B X W (.Call (.Name "repr" p) [a] [] pos) (mD (mB1 dReprB ma)) :=
  de_b1 call_repr_bool (fun F H a z x Q hh sa e q => by
    cases a with
    | bl b => cases e; cases (show x = .bl b from sa); exact ⟨b, rfl, q _ F H (Step.refl _ _ _) hh ⟨rfl, by cases b <;> exact ⟨by decide +kernel, by decide +kernel⟩⟩⟩
    | _ => cases e) ha hm (by decide +kernel) hg (by decide) (by decide) he hpl
/-! ### isinstance with built-in classes -/
def tyN : D → String
  | .non => "NoneType"
  | .bl _ => "bool"
  | .int _ => "int"
  | .str _ => "str"
  | .lst _ => "list"
  | .tup _ => "tuple"
  | .dic _ => "dict"
  | .obj _ _ => ""
def isObj : D → Bool
  | .obj _ _ => true
  | _ => false
theorem Seen.ty {K : PySem.W.Frag} {d : D} {v : V} (hK : K = B.K) (hh : Holds F H) (s : Seen B F H d v) (ho : isObj d = false) : TyX K H v (.type (tyN d)) := by
  subst hK
  cases d with
  | non => cases (show v = .non from s); exact .base .non
  | bl b => cases (show v = .bl b from s); exact .base (.bl b)
  | int i => cases (show v = .int i from s); exact .base (.int i)
  | str x => obtain ⟨rfl, _⟩ := s; exact .base (.str x)
  | lst xs =>
    obtain ⟨p, vs, rfl, a, _⟩ := s
    rcases a with (a | ⟨o, a⟩) | ⟨o, its, n, h1, h2, _⟩
    · exact .base (.lst a)
    · exact .base (.frz a)
    · exact .kList h1 h2
  | tup xs =>
    obtain ⟨p, vs, rfl, a, _⟩ := s
    rcases a with a | a
    · exact .base (.tup (hh.at_ a rfl))
    · rcases a with (h | ⟨o, h⟩) | ⟨o, its, n, h1, h2, _⟩
      · cases h
      · cases h
      · exact .kTuple h1 h2
  | dic xs =>
    obtain ⟨p, vs, rfl, a, _⟩ := s
    rcases a with a | ⟨o, a⟩
    · exact .base (.dK a)
    · exact .fDict a
  | obj _ _ => cases ho
def isI (f : D → Bool) (d : D) : Option D := if isObj d = true then none else some (.bl (f d))
def fInt : D → Bool
  | .int _ => true
  | .bl _ => true
  | _ => false
def fBool : D → Bool
  | .bl _ => true
  | _ => false
def fStr : D → Bool
  | .str _ => true
  | _ => false
def fList : D → Bool
  | .lst _ => true
  | _ => false
def fTuple : D → Bool
  | .tup _ => true
  | _ => false
theorem kInt (d : D) (h : isObj d = false) : kitB (tyN d) "int" = some (fInt d) := by
  cases d with
  | non => exact (by decide +kernel : kitB "NoneType" "int" = some false)
  | bl _ => exact (by decide +kernel : kitB "bool" "int" = some true)
  | int _ => exact (by decide +kernel : kitB "int" "int" = some true)
  | str _ => exact (by decide +kernel : kitB "str" "int" = some false)
  | lst _ => exact (by decide +kernel : kitB "list" "int" = some false)
  | tup _ => exact (by decide +kernel : kitB "tuple" "int" = some false)
  | dic _ => exact (by decide +kernel : kitB "dict" "int" = some false)
  | obj _ _ => cases h
theorem kBool (d : D) (h : isObj d = false) : kitB (tyN d) "bool" = some (fBool d) := by
  cases d with
  | non => exact (by decide +kernel : kitB "NoneType" "bool" = some false)
  | bl _ => exact (by decide +kernel : kitB "bool" "bool" = some true)
  | int _ => exact (by decide +kernel : kitB "int" "bool" = some false)
  | str _ => exact (by decide +kernel : kitB "str" "bool" = some false)
  | lst _ => exact (by decide +kernel : kitB "list" "bool" = some false)
  | tup _ => exact (by decide +kernel : kitB "tuple" "bool" = some false)
  | dic _ => exact (by decide +kernel : kitB "dict" "bool" = some false)
  | obj _ _ => cases h
theorem kStr (d : D) (h : isObj d = false) : kitB (tyN d) "str" = some (fStr d) := by
  cases d with
  | non => exact (by decide +kernel : kitB "NoneType" "str" = some false)
  | bl _ => exact (by decide +kernel : kitB "bool" "str" = some false)
  | int _ => exact (by decide +kernel : kitB "int" "str" = some false)
  | str _ => exact (by decide +kernel : kitB "str" "str" = some true)
  | lst _ => exact (by decide +kernel : kitB "list" "str" = some false)
  | tup _ => exact (by decide +kernel : kitB "tuple" "str" = some false)
  | dic _ => exact (by decide +kernel : kitB "dict" "str" = some false)
  | obj _ _ => cases h
theorem kList (d : D) (h : isObj d = false) : kitB (tyN d) "list" = some (fList d) := by
  cases d with
  | non => exact (by decide +kernel : kitB "NoneType" "list" = some false)
  | bl _ => exact (by decide +kernel : kitB "bool" "list" = some false)
  | int _ => exact (by decide +kernel : kitB "int" "list" = some false)
  | str _ => exact (by decide +kernel : kitB "str" "list" = some false)
  | lst _ => exact (by decide +kernel : kitB "list" "list" = some true)
  | tup _ => exact (by decide +kernel : kitB "tuple" "list" = some false)
  | dic _ => exact (by decide +kernel : kitB "dict" "list" = some false)
  | obj _ _ => cases h
theorem kTuple (d : D) (h : isObj d = false) : kitB (tyN d) "tuple" = some (fTuple d) := by
  cases d with
  | non => exact (by decide +kernel : kitB "NoneType" "tuple" = some false)
  | bl _ => exact (by decide +kernel : kitB "bool" "tuple" = some false)
  | int _ => exact (by decide +kernel : kitB "int" "tuple" = some false)
  | str _ => exact (by decide +kernel : kitB "str" "tuple" = some false)
  | lst _ => exact (by decide +kernel : kitB "list" "tuple" = some false)
  | tup _ => exact (by decide +kernel : kitB "tuple" "tuple" = some true)
  | dic _ => exact (by decide +kernel : kitB "dict" "tuple" = some false)
  | obj _ _ => cases h
theorem de_isi {Tn : Str} {f : D → Bool} {p' : Pos} (hf : ∀ d, isObj d = false → kitB (tyN d) T = some (f d)) (hK : X.K = B.K) (ha : DE B X W a ma) (hm : X.mg "isinstance" = none) (hmT : X.mg Tn = none) (hvT : bootBuiltins Tn = some (.type T)) (hg : Gl X "isinstance" := by rfl) (hgT : Gl X Tn := by rfl)
    (he : starEach [a, .Name Tn p'] X.env = (false, eval a X.env) :: starEach [.Name Tn p'] X.env := by rfl) (he2 : starEach [.Name Tn p'] X.env = (false, eval (.Name Tn p') X.env) :: starEach [] X.env := by rfl) (hpl : (backTo pos (starEach [.Name Tn p'] X.env)).any (·.1) = false := by rfl)
    (hn : Tn ≠ "__name__" := by decide) (hdb : (Tn == ("__debug__" : Str)) = false := by decide) : DE B X W (.Call (.Name "isinstance" p) [a, .Name Tn p'] [] pos) (mD (mB1 (isI f) ma)) :=
  PE.imp (pe_callB call_isi hg hm (by decide +kernel) (pa_cons ha (pa_cons (pe_bltn (v := .ty T) hgT hmT hvT rfl hn hdb) pa_nil he2) he) (by decide) (by decide) he hpl) fun σ H Q h => by
    refine op1 (g := isI f) (r := fun x H Q => rIsi X.K [x, .ty T] H Q) (fun F H a z x Q hh sa e q => ?_) h
    unfold isI at e
    cases ho : isObj a with
    | true => rw [if_pos ho] at e; cases e
    | false =>
      rw [if_neg (by rw [ho]; exact Bool.false_ne_true)] at e
      cases e
      exact ⟨x, .ty T, _, _, _, rfl, .ty T, sa.ty hK hh ho, kit_ty (hf a ho), q _ F H (Step.refl _ _ _) hh rfl⟩
end
end AN

set_option Elab.async false
set_option maxRecDepth 100000
set_option autoImplicit false
set_option linter.unusedVariables false
namespace AN
open PySem L2

section
variable {B : Bx} {X : Cx} {W : WX} {F H : Hp} {env : Env} {σ : St} {Q : VK} {a b c e : Expr} {ma mb mc : M Opd} {pos p : Pos}
/-! ### items -/
def dIx : D → D → Option D
  | .lst xs, .int i => atI xs i
  | .tup xs, .int i => atI xs i
  | .str s, .int i => (atI s.cps.toList i).map sign
  | _, _ => none
theorem RepL.atI {xs : List D} {vs : List V} {i : Int} {d : D} (r : RepL B F xs vs) (h : L2.atI xs i = some d) : ∃ v, L2.atI vs i = some v ∧ Rep B F d v := by
  unfold L2.atI at h ⊢
  rw [r.length]
  obtain ⟨j, h1, h2⟩ := Option.bind_eq_some_iff.mp h
  obtain ⟨v, h3, h4⟩ := r.get h2
  exact ⟨v, by rw [h1]; exact h3, h4⟩
theorem p_ix (hK : X.K = B.K) : Prim2 B dIx (fun x y H Q => rIxL X.K x y H Q ∨ (rIxT X.K x y H Q ∨ rIxS x y H Q)) := fun F H a b z x y Q hh sa sb e q => by
  cases a with
  | lst xs =>
    cases b with
    | int i =>
      obtain ⟨p, vs, rfl, a, _, r⟩ := sa
      cases (show y = .int i from sb)
      obtain ⟨v, h1, h2⟩ := r.atI e
      exact .inl ⟨p, vs, i, v, rfl, rfl, by rw [hK]; exact a, h1, q v F H (Step.refl _ _ _) hh h2⟩
    | _ => cases e
  | tup xs =>
    cases b with
    | int i =>
      obtain ⟨p, vs, rfl, a, _, r⟩ := sa
      cases (show y = .int i from sb)
      obtain ⟨v, h1, h2⟩ := r.atI e
      exact .inr (.inl ⟨p, vs, i, v, rfl, rfl, by rw [hK]; exact a.sq hh, h1, q v F H (Step.refl _ _ _) hh h2⟩)
    | _ => cases e
  | str s =>
    cases b with
    | int i =>
      obtain ⟨rfl, ok⟩ := sa
      cases (show y = .int i from sb)
      simp only [dIx, Option.map_eq_some_iff] at e
      obtain ⟨c, e, rfl⟩ := e
      have hc : c ∈ s.cps.toList := by
        unfold atI at e
        obtain ⟨j, _, h2⟩ := Option.bind_eq_some_iff.mp e
        exact List.mem_of_getElem? h2
      exact .inr (.inr ⟨s, i, c, rfl, rfl, ok.1, e, q _ F H (Step.refl _ _ _) hh ⟨rfl, okS_sign ok hc⟩⟩)
    | _ => cases e
  | _ => cases e
theorem de_at (hK : X.K = B.K) (ha : DE B X W a ma) (hb : DE B X W b mb) (hs : PlainIx b := by exact fun _ _ => rfl) : DE B X W (.Subscript a b pos) (mD (mB2 dIx ma mb)) := de_ix (ix_list.or (ix_tup.or ix_str)) (p_ix hK) ha hb hs
/-! ### slices -/
def tOI (B : Bx) (W : WX) (m : M (Option Int)) : TO := fun σ H Q => ∃ F env, Sim B F env σ H ∧ Post B W F env σ H (fun o _ _ H' => Q o H') (m env)
abbrev DP (B : Bx) (X : Cx) (W : WX) (e : Option Expr) (m : M (Option Int)) : Prop := PO X e (tOI B W m)
theorem PO.imp {e : Option Expr} {t t' : TO} (h : PO X e t) (i : ∀ σ H Q, t' σ H Q → t σ H Q) : PO X e t' := ⟨fun pins s σ H Q I q => h.run pins s σ H Q I (i σ H Q q)⟩
theorem dp0 : DP B X W none (M.pure none) := PO.imp po_none fun σ H Q h => by
  obtain ⟨F, env, S, h⟩ := h
  exact Post.here S h
def intOf : D → Option (Option Int)
  | .int i => some (some i)
  | _ => none
theorem dp1 (h : DE B X W e ma) : DP B X W (some e) (mB1 intOf ma) := PO.imp (po_some h) fun σ H Q h => by
  obtain ⟨F, env, S, h⟩ := h
  refine tE.one (g := AN.ap1 intOf) S h fun x e2 F2 H2 v s2 m2 o2 rv k2 => ?_
  obtain ⟨a, z, ea, ez, k3⟩ := k2.ap1
  cases a with
  | int i => cases ez; cases (show v = .int i from m2.view rv ea); exact ⟨i, rfl, Post.here m2 k3⟩
  | _ => cases ez
def ap1s {α : Type} (g : D → Option Int → Option Int → Option α) (x : Opd) (l u : Option Int) : M α := ap1 (fun d => g d l u) x
def mSl {α : Type} (g : D → Option Int → Option Int → Option α) (m : M Opd) (ml mu : M (Option Int)) : M α := M.bind m fun x => M.bind ml fun l => M.bind mu fun u => ap1s g x l u
def cutD (xs : List D) (lo hi : Option Int) : List D := (xs.drop (HT.sIx xs.length 0 lo)).take (HT.sIx xs.length xs.length hi - HT.sIx xs.length 0 lo)
theorem RepL.cut {xs : List D} {vs : List V} (r : RepL B F xs vs) (lo hi : Option Int) : RepL B F (cutD xs lo hi) (cutV vs lo hi) := by
  unfold cutD cutV
  rw [r.length]
  exact (r.drop _).take _
theorem cutD_len (xs : List D) (lo hi : Option Int) : (cutD xs lo hi).length ≤ xs.length := by
  unfold cutD
  rw [List.length_take, List.length_drop]; omega
def dSl : D → Option Int → Option Int → Option D
  | .lst xs, lo, hi => some (.lst (cutD xs lo hi))
  | .tup xs, lo, hi => some (.tup (cutD xs lo hi))
  | .str s, lo, hi => some (.str (cutS s lo hi))
  | _, _, _ => none
def oSl : D → Option Int → Option Int → Option O
  | .lst xs, lo, hi => some (.lst (cutD xs lo hi))
  | _, _, _ => none
theorem okS_cut {s : Str} (ok : okS s) (lo hi : Option Int) : okS (cutS s lo hi) := by
  refine ⟨Nat.le_trans (cutS_length s lo hi) ok.1, ?_⟩
  have h2 := ok.2
  unfold PyData.strOk at h2 ⊢
  rw [← Array.all_toList] at h2 ⊢
  rw [List.all_eq_true] at h2 ⊢
  intro c hc
  refine h2 c ?_
  unfold cutS at hc
  simp only at hc
  exact List.mem_of_mem_drop (List.mem_of_mem_take hc)
theorem sl_read {ml mu : M (Option Int)} {α : Type} {g : D → Option Int → Option Int → Option α} {k : α → Env → Hp → Hp → Prop} {R : V → Option Int → Option Int → Hp → Prop} (S : Sim B F env σ H) (h : Post B W F env σ H k (mSl g ma ml mu env))
    (i : ∀ d l u z e2 F2 H2 v, Step (Own env σ) F H F2 H2 → Sim B F2 e2 σ H2 → EnvLe env e2 → Seen B F2 H2 d v → g d l u = some z → Post B W F2 e2 σ H2 k (.ok z e2) → R v l u H2) :
    tE B W ma σ H fun x H1 => tOI B W ml σ H1 fun l H2 => tOI B W mu σ H2 fun u H3 => R x l u H3 := by
  refine tE.one S h fun x e1 F1 H1 v s1 m1 o1 rv k1 => ⟨F1, e1, m1, (Post.bind m1 k1).mono fun l e2 F2 H2 s2 m2 o2 k2 => ⟨F2, e2, m2, (Post.bind m2 k2).mono fun u e3 F3 H3 s3 m3 o3 k3 => ?_⟩⟩
  obtain ⟨d, z, ed, ez, k4⟩ := k3.ap1
  have s12 := s1.trans s2 fun b z => .inl (o1.own z)
  exact i d l u z e3 F3 H3 v (s12.trans s3 fun b z => .inl (o1.own (o2.own z))) m3 (o1.trans (o2.trans o3)) (m3.view (rv.mono (s2.le.trans s3.le)) ed) ez k4
theorem de_sl {lo hi : Option Expr} {ml mu : M (Option Int)} {p2 : Pos} (hK : X.K = B.K) (ha : DE B X W a ma) (hl : DP B X W lo ml) (hu : DP B X W hi mu) : DE B X W (.Subscript a (.Slice lo hi none p2) pos) (mD (mSl dSl ma ml mu)) :=
  PE.imp (pe_slice (SlR.or sl_list (SlR.or sl_tupA sl_str)) ha hl hu) fun σ H Q h => by
    obtain ⟨F, env, S, h⟩ := h
    refine sl_read S (Post.bind S h) fun d l u z e2 F2 H2 v s2 m2 o2 sd ez k4 => ?_
    have fin : ∀ F3 H3 v, Step0 F2 H2 F3 H3 → Holds F3 H3 → Rep B F3 z v → Q v H3 := fun F3 H3 v s3 h3 r => by
      have m3 := m2.step0 s3 h3
      exact k4 F3 H3 s3.any m3 (EnvLe.refl _) F3 H3 (Step.refl _ _ _) m3 (EnvLe.refl _) v r
    cases d with
    | lst xs =>
      cases ez
      obtain ⟨p, vs, rfl, a, z, r⟩ := sd
      refine .inl ⟨p, vs, rfl, by rw [hK]; exact a, fun p3 hp => ?_⟩
      obtain ⟨s3, h3⟩ := step0_new (u := .lst (cutV vs l u)) m2.hold hp
      exact fin _ _ _ s3 h3 ⟨p3, _, rfl, .inl upd_same, Nat.le_trans (cutD_len xs l u) z, (r.mono s3.le).cut l u⟩
    | tup xs =>
      cases ez
      have sd' := sd
      obtain ⟨p, vs, rfl, a, z, r⟩ := sd
      refine .inr (.inl ⟨p, vs, rfl, by rw [hK]; exact a.sq m2.hold, fun hw => ?_, fun _ p3 hp => ?_⟩)
      · refine fin _ _ _ (Step.refl _ _ _) m2.hold ?_
        have : cutD xs l u = xs := by
          unfold cutD
          rw [r.length] at hw
          rw [hw.1, hw.2]; simp
        rw [this]; exact sd'
      · obtain ⟨s3, h3⟩ := step0_new (u := .tup (cutV vs l u)) m2.hold hp
        exact fin _ _ _ s3 h3 ⟨p3, _, rfl, .inl upd_same, Nat.le_trans (cutD_len xs l u) z, (r.mono s3.le).cut l u⟩
    | str s =>
      cases ez
      obtain ⟨rfl, ok⟩ := sd
      exact .inr (.inr ⟨s, rfl, ok.1, fin _ _ _ (Step.refl _ _ _) m2.hold ⟨rfl, okS_cut ok l u⟩⟩)
    | _ => cases ez
theorem do_sl {lo hi : Option Expr} {ml mu : M (Option Int)} {p2 : Pos} (hK : X.K = B.K) (ha : DE B X W a ma) (hl : DP B X W lo ml) (hu : DP B X W hi mu) : DO B X W (.Subscript a (.Slice lo hi none p2) pos) (mSl oSl ma ml mu) :=
  PE.imp (pe_slice sl_list ha hl hu) fun σ H Q h => by
    obtain ⟨F, env, S, h⟩ := h
    refine sl_read S h fun d l u z e2 F2 H2 v s2 m2 o2 sd ez k4 => ?_
    cases d with
    | lst xs =>
      cases ez
      obtain ⟨p, vs, rfl, a, z, r⟩ := sd
      refine ⟨p, vs, rfl, by rw [hK]; exact a, fun p3 hp => ?_⟩
      obtain ⟨s3, h3⟩ := step0_mk (u := .lst (cutV vs l u)) m2.hold hp
      have m3 := m2.step0 s3 h3
      exact k4 _ _ s3.any m3 (EnvLe.refl _) p3 (s2.back hp) (m2.hold.none hp) ⟨Nat.le_trans (cutD_len xs l u) z, _, upd_same, r.cut l u⟩
    | _ => cases ez
/-! ### in -/
def inStr (x z : Str) : Bool := match x.cps.toList with
  | [c] => decide (c ∈ z.cps.toList)
  | _ => !(Builtin.Str.occurrences z x 0 z.length 1).isEmpty
def inD : D → D → Option Bool
  | .str x, .str z => some (inStr x z)
  | x, .lst xs => if (dle 8 x && dle 8 (.lst xs)) = true then some (xs.any fun y => deqv y x) else none
  | x, .tup xs => if (scalar x && xs.all scalar) = true then some (xs.any fun y => deqv y x) else none
  | _, _ => none
def dInX (n : Bool) (x y : D) : Option D := (inD x y).map fun k => .bl (if n then !k else k)
abbrev rInX (K : PySem.W.Frag) : R2 := fun x y H Q => (∃ (c : Nat) (z : Str), x = .str ⟨#[c]⟩ ∧ y = .str z ∧ Q (.bl (decide (c ∈ z.cps.toList))) H) ∨ ((∃ i j, x = .str i ∧ y = .str j ∧ Q (.bl (!(Builtin.Str.occurrences j i 0 j.length 1).isEmpty)) H) ∨ (rInD K x y H Q ∨ rIn K false x y H Q))
abbrev rNotInX (K : PySem.W.Frag) : R2 := fun x y H Q => (∃ (c : Nat) (z : Str), x = .str ⟨#[c]⟩ ∧ y = .str z ∧ Q (.bl (!decide (c ∈ z.cps.toList))) H) ∨ ((∃ i j, x = .str i ∧ y = .str j ∧ Q (.bl (!(!(Builtin.Str.occurrences j i 0 j.length 1).isEmpty))) H) ∨ (rNotInD K x y H Q ∨ rIn K true x y H Q))
theorem op_inX (hu : X.A.units + 65 < cLine) : OpR X (compareOp .In) (rInX X.K) := OpR.or op_in_sign (OpR.or op_in_str (OpR.or (op_inD hu) op_in_seq))
theorem op_notInX (hu : X.A.units + 65 < cLine) : OpR X (compareOp .NotIn) (rNotInX X.K) := OpR.or op_notIn_sign (OpR.or op_notin_str (OpR.or (op_notInD hu) op_notIn_seq))
theorem toPs_any : ∀ (xs : List D) (f : PyData → Bool), (toPs xs).any f = xs.any fun y => f (toP y)
  | [], _ => rfl
  | d :: ds, f => by show (f (toP d) || _) = _; rw [toPs_any ds f]; rfl
theorem scal_eqV {d d' : D} {v v' : V} (h : scalar d = true) (h' : scalar d' = true) (r : Rep B F d v) (r' : Rep B F d' v') : flatV v = true ∧ flatV v' = true ∧ eqV v v' = deqv d d' := by
  cases d with
  | non => cases (show v = .non from r); cases d' with
    | non => cases (show v' = .non from r'); exact ⟨rfl, rfl, rfl⟩
    | bl _ => cases (show v' = .bl _ from r'); exact ⟨rfl, rfl, rfl⟩
    | int _ => cases (show v' = .int _ from r'); exact ⟨rfl, rfl, rfl⟩
    | str _ => obtain ⟨rfl, _⟩ := r'; exact ⟨rfl, rfl, rfl⟩
    | _ => cases h'
  | bl b => cases (show v = .bl _ from r); cases d' with
    | non => cases (show v' = .non from r'); exact ⟨rfl, rfl, rfl⟩
    | bl _ => cases (show v' = .bl _ from r'); exact ⟨rfl, rfl, rfl⟩
    | int _ => cases (show v' = .int _ from r'); exact ⟨rfl, rfl, rfl⟩
    | str _ => obtain ⟨rfl, _⟩ := r'; exact ⟨rfl, rfl, rfl⟩
    | _ => cases h'
  | int b => cases (show v = .int _ from r); cases d' with
    | non => cases (show v' = .non from r'); exact ⟨rfl, rfl, rfl⟩
    | bl _ => cases (show v' = .bl _ from r'); exact ⟨rfl, rfl, rfl⟩
    | int _ => cases (show v' = .int _ from r'); exact ⟨rfl, rfl, rfl⟩
    | str _ => obtain ⟨rfl, _⟩ := r'; exact ⟨rfl, rfl, rfl⟩
    | _ => cases h'
  | str b => obtain ⟨rfl, _⟩ := r; cases d' with
    | non => cases (show v' = .non from r'); exact ⟨rfl, rfl, rfl⟩
    | bl _ => cases (show v' = .bl _ from r'); exact ⟨rfl, rfl, rfl⟩
    | int _ => cases (show v' = .int _ from r'); exact ⟨rfl, rfl, rfl⟩
    | str _ => obtain ⟨rfl, _⟩ := r'; exact ⟨rfl, rfl, rfl⟩
    | _ => cases h'
  | _ => cases h
theorem scal_all {d' : D} {v' : V} (h' : scalar d' = true) (r' : Rep B F d' v') : ∀ {ds : List D} {vs : List V}, ds.all scalar = true → RepL B F ds vs → vs.all flatV = true ∧ inV v' vs = ds.any fun y => deqv y d'
  | [], vs, _, r => by rw [show vs = [] from r]; exact ⟨rfl, rfl⟩
  | d :: ds, vs, h, r => by
    obtain ⟨v, rest, rfl, r1, r2⟩ := r
    rw [List.all_cons, Bool.and_eq_true] at h
    obtain ⟨a1, a2, a3⟩ := scal_eqV h.1 h' r1 r'
    obtain ⟨b1, b2⟩ := scal_all h' r' h.2 r2
    refine ⟨by rw [List.all_cons, a1, b1]; rfl, ?_⟩
    unfold inV at b2 ⊢
    rw [List.any_cons, List.any_cons, a3, b2]
theorem Seen.scal {d : D} {v : V} (h : scalar d = true) (s : Seen B F H d v) : Rep B F d v := by
  cases d with
  | non => exact s
  | bl b => exact s
  | int i => exact s
  | str i => exact s
  | _ => cases h
theorem in_read {K : PySem.W.Frag} (hK : K = B.K) (hh : Holds F H) {x y : D} {v w : V} {k : Bool} {R1 R2' R3 R4 : Bool → Prop} (sx : Seen B F H x v) (sy : Seen B F H y w) (he : inD x y = some k) {P : Prop}
    (f1 : ∀ c z, v = .str ⟨#[c]⟩ → w = .str z → decide (c ∈ z.cps.toList) = k → P) (f2 : ∀ i j, v = .str i → w = .str j → (!(Builtin.Str.occurrences j i 0 j.length 1).isEmpty) = k → P)
    (f3 : ∀ d ds, Dp K H v d → Dp K H w (.list ds) → SeqAt.shaped d = true → SeqAt.shaped (.list ds) = true → (ds.any fun z => PyData.eqv z d) = k → P)
    (f4 : ∀ p xs, w = .ref p → SqT K H p xs → flatV v = true → xs.all flatV = true → inV v xs = k → P) : P := by
  have lst : ∀ xs, y = .lst xs → (if (dle 8 x && dle 8 (.lst xs)) = true then some (xs.any fun y => deqv y x) else none) = some k → P := fun xs ey e => by
    subst ey
    by_cases hd : (dle 8 x && dle 8 (.lst xs)) = true
    · rw [if_pos hd] at e; cases e
      rw [Bool.and_eq_true] at hd
      obtain ⟨a1, a2⟩ := sx.dp hK hh hd.1
      obtain ⟨b1, b2⟩ := sy.dp hK hh hd.2
      exact f3 _ _ a1 b1 a2 b2 (toPs_any xs fun z => PyData.eqv z (toP x))
    · rw [if_neg hd] at e; cases e
  have tup : ∀ xs, y = .tup xs → (if (scalar x && xs.all scalar) = true then some (xs.any fun y => deqv y x) else none) = some k → P := fun xs ey e => by
    subst ey
    by_cases hd : (scalar x && xs.all scalar) = true
    · rw [if_pos hd] at e; cases e
      rw [Bool.and_eq_true] at hd
      obtain ⟨p, vs, rfl, a, _, r⟩ := sy
      obtain ⟨b1, b2⟩ := scal_all hd.1 (sx.scal hd.1) hd.2 r
      obtain ⟨c1, _, _⟩ := scal_eqV hd.1 hd.1 (sx.scal hd.1) (sx.scal hd.1)
      exact f4 p vs rfl (by rw [hK]; exact a.sq hh) c1 b1 b2
    · rw [if_neg hd] at e; cases e
  cases y with
  | lst xs => exact lst xs rfl (by cases x <;> exact he)
  | tup xs => exact tup xs rfl (by cases x <;> exact he)
  | str z =>
    cases x with
    | str s =>
      obtain ⟨rfl, _⟩ := sx
      obtain ⟨rfl, _⟩ := sy
      simp only [inD, Option.some.injEq] at he
      unfold inStr at he
      obtain ⟨⟨l⟩⟩ := s
      simp only at he
      cases l with
      | nil => exact f2 _ _ rfl rfl he
      | cons c l =>
        cases l with
        | nil => exact f1 c z rfl rfl he
        | cons c2 l => exact f2 _ _ rfl rfl he
    | _ => cases he
  | _ => cases x <;> cases he
theorem p_in (hK : X.K = B.K) : Prim2 B (dInX false) (rInX X.K) := fun F H a b z x y Q hh sa sb e q => by
  simp only [dInX, Option.map_eq_some_iff] at e
  obtain ⟨k, e, rfl⟩ := e
  have fin : ∀ k', k' = k → Q (.bl k') H := fun k' e => q _ F H (Step.refl _ _ _) hh (by rw [e]; rfl)
  exact in_read hK hh sa sb e (R1 := fun _ => True) (R2' := fun _ => True) (R3 := fun _ => True) (R4 := fun _ => True) (fun c z h1 h2 h3 => .inl ⟨c, z, h1, h2, fin _ h3⟩) (fun i j h1 h2 h3 => .inr (.inl ⟨i, j, h1, h2, fin _ h3⟩))
    (fun d ds h1 h2 h3 h4 h5 => .inr (.inr (.inl ⟨d, ds, h1, h2, h3, h4, fin _ h5⟩))) (fun p xs h1 h2 h3 h4 h5 => .inr (.inr (.inr ⟨p, xs, h1, .inr h2, h3, h4, fin _ h5⟩)))
theorem p_notIn (hK : X.K = B.K) : Prim2 B (dInX true) (rNotInX X.K) := fun F H a b z x y Q hh sa sb e q => by
  simp only [dInX, Option.map_eq_some_iff] at e
  obtain ⟨k, e, rfl⟩ := e
  have fin : ∀ k', k' = k → Q (.bl (!k')) H := fun k' e => q _ F H (Step.refl _ _ _) hh (by rw [e]; rfl)
  exact in_read hK hh sa sb e (R1 := fun _ => True) (R2' := fun _ => True) (R3 := fun _ => True) (R4 := fun _ => True) (fun c z h1 h2 h3 => .inl ⟨c, z, h1, h2, fin _ h3⟩) (fun i j h1 h2 h3 => .inr (.inl ⟨i, j, h1, h2, fin _ h3⟩))
    (fun d ds h1 h2 h3 h4 h5 => .inr (.inr (.inl ⟨d, ds, h1, h2, h3, h4, fin _ h5⟩))) (fun p xs h1 h2 h3 h4 h5 => .inr (.inr (.inr ⟨p, xs, h1, .inr h2, h3, h4, fin _ h5⟩)))
/-! ### join -/
def strsOf : List D → Option (List Str)
  | [] => some []
  | .str i :: ds => (strsOf ds).map (i :: ·)
  | _ :: _ => none
theorem strsOf_rep : ∀ {ds : List D} {vs : List V} {ns : List Str}, strsOf ds = some ns → RepL B F ds vs → vs = ns.map V.str ∧ ∀ s ∈ ns, okS s
  | [], vs, ns, h, r => by cases h; exact ⟨r, fun _ z => nomatch z⟩
  | d :: ds, vs, ns, h, r => by
    obtain ⟨v, rest, rfl, r1, r2⟩ := r
    cases d with
    | str i =>
      simp only [strsOf, Option.map_eq_some_iff] at h
      obtain ⟨m, h, rfl⟩ := h
      obtain ⟨rfl, ok⟩ := r1
      obtain ⟨e, h2⟩ := strsOf_rep h r2
      refine ⟨by rw [e]; rfl, fun s hs => ?_⟩
      rcases List.mem_cons.mp hs with rfl | hs
      · exact ok
      · exact h2 s hs
    | _ => cases h
theorem okS_join {a : Str} (ha : okS a) : ∀ ys : List Str, (∀ y ∈ ys, okS y) → (ys.map (·.length)).sum + ys.length * a.length ≤ 16777216 → okS (Str.join a ys) ∧ (Str.join a ys).length ≤ (ys.map (·.length)).sum + ys.length * a.length
  | [], _, _ => ⟨(⟨by decide +kernel, by decide +kernel⟩ : okS Str.empty), Nat.zero_le _⟩
  | [x], h, _ => ⟨h x (by simp), by simp [Str.join]⟩
  | x :: z :: r, h, hz => by
    have e1 : ((x :: z :: r).map (·.length)).sum = x.length + ((z :: r).map (·.length)).sum := by simp
    have e2 : (x :: z :: r).length * a.length = a.length + (z :: r).length * a.length := by
      rw [List.length_cons, Nat.succ_mul]; omega
    rw [e1, e2] at hz ⊢
    obtain ⟨o1, o2⟩ := okS_join ha (z :: r) (fun y hy => h y (List.mem_cons_of_mem _ hy)) (by omega)
    have sl := sizeLine_eq
    have l1 : (x ++ a).length = x.length + a.length := by
      show (x.cps ++ a.cps).size = _
      rw [Array.size_append]; rfl
    have l2 : (x ++ a ++ Str.join a (z :: r)).length = x.length + a.length + (Str.join a (z :: r)).length := by
      show ((x ++ a).cps ++ (Str.join a (z :: r)).cps).size = _
      rw [Array.size_append]
      show (x ++ a).length + _ = _
      rw [l1]; rfl
    have o3 : okS (x ++ a) := okS_app (h x (by simp)) ha (by rw [sl]; omega)
    refine ⟨okS_app o3 o1 (by rw [l1, sl]; omega), ?_⟩
    show (x ++ a ++ Str.join a (z :: r)).length ≤ _
    rw [l2]; omega
def dJoin : D → D → Option D
  | .str a, .lst xs => (strsOf xs).bind fun ys => if (ys.map (·.length)).sum + ys.length * a.length ≤ 16777216 then some (.str (Str.join a ys)) else none
  | _, _ => none
def strChk : D → Option Unit
  | .str _ => some ()
  | _ => none
def mM1 (g : D → D → Option D) (m n : M Opd) : M Opd := M.bind m fun x => M.bind (ap1 strChk x) fun _ => M.bind n fun y => mD (ap2 g x y)
theorem m1_read {g : D → D → Option D} {r : V → List V → Hp → VK → Prop} (hp : Prim2 B g (fun x y H Q => r x [y] H Q)) (h : tE B W (mM1 g ma mb) σ H Q) : tM1 r (tE B W ma) (tE B W mb) σ H Q := by
  obtain ⟨F, env, S, h⟩ := h
  refine tE.one S h fun x e1 F1 H1 v s1 m1 o1 rv k1 => ?_
  obtain ⟨a, z, ea, ez, k2⟩ := (Post.bind m1 k1).ap1
  have sa := m1.view rv ea
  have hx : ∃ s, v = .str s := by
    cases a with
    | str s => obtain ⟨rfl, _⟩ := sa; exact ⟨s, rfl⟩
    | _ => cases ez
  refine ⟨hx, ?_⟩
  refine tE.one m1 (Post.here m1 k2) fun y e2 F2 H2 w s2 m2 o2 rw k3 => ?_
  obtain ⟨a', b, z', ea', eb, ez', k4⟩ := (Post.bind m2 k3).ap2
  refine hp F2 H2 a' b z' v w Q m2.hold (m2.view (rv.mono s2.le) ea') (m2.view rw eb) ez' fun u F3 H3 s3 h3 rz => ?_
  have m3 := m2.step0 s3 h3
  exact k4 F3 H3 s3.any m3 (EnvLe.refl _) F3 H3 (Step.refl _ _ _) m3 (EnvLe.refl _) u rz
theorem de_join {apos : Pos} (hK : X.K = B.K) (ha : DE B X W a ma) (hb : DE B X W b mb) (hs : starEach [b] X.env = [(false, eval b X.env)] := by rfl) (hbase : attributeBase a "join" X.env (eval a X.env) = eval a X.env := by rfl) (hline : (apos.endLine == pos.line) = true := by rfl) :
    DE B X W (.Call (.Attribute a "join" apos) [b] [] pos) (mM1 dJoin ma mb) := PE.imp (pe_join ha hb hs hbase hline) fun σ H Q h => m1_read (fun F H a b z x y Q hh sa sb e q => by
    cases a with
    | str s =>
      cases b with
      | lst xs =>
        obtain ⟨rfl, ok⟩ := sa
        obtain ⟨p, vs, rfl, a, _, r⟩ := sb
        obtain ⟨ys, e1, e2⟩ := Option.bind_eq_some_iff.mp e
        obtain ⟨rfl, hy⟩ := strsOf_rep e1 r
        by_cases hz : (ys.map (·.length)).sum + ys.length * s.length ≤ 16777216
        · rw [if_pos hz] at e2; cases e2
          refine ⟨s, p, ys, rfl, rfl, .inl (by rw [hK]; exact a), hz, ?_⟩
          rw [TL.join_eq]
          exact q _ F H (Step.refl _ _ _) hh ⟨rfl, (okS_join ok ys hy hz).1⟩
        · rw [if_neg hz] at e2; cases e2
      | _ => cases e
    | _ => cases e) h
/-! ### x[i] = e, x a name that alone holds its list -/
def chkL (i : Nat) : M Unit := fun env => match env[i]? with
  | some (.ow _ (.lst _)) => .ok () env
  | _ => .bad
def putAt (i : Nat) (d : D) (k : Option Int) : M Fl := fun env => match k, env[i]? with
  | some k, some (.ow pn (.lst xs)) => (match ixN xs.length k with
    | some j => .ok .nx (env.set i (.ow pn (.lst (xs.set j d))))
    | none => .bad)
  | _, _ => .bad
def mPutAt (i : Nat) (ix : M Opd) (m : M Opd) : M Fl := M.bind m fun x => M.bind (frz1 x) fun d => M.bind (chkL i) fun _ => M.bind ix fun y => M.bind (ap1 intOf y) fun k => putAt i d k
theorem PostS.chkL {i : Nat} {D0 : Ends} {k : Unit → M Fl} (S : Sim B F env σ H) (h : PostS B W F env σ H D0 (M.bind (AN.chkL i) k env)) : ∃ pn xs, env[i]? = some (.ow pn (.lst xs)) ∧ PostS B W F env σ H D0 (k () env) := by
  unfold M.bind AN.chkL at h
  cases q : env[i]? with
  | none => simp only [q] at h; exact h.elim
  | some s =>
    cases s with
    | no => simp only [q] at h; exact h.elim
    | fz _ => simp only [q] at h; exact h.elim
    | ow pn o =>
      cases o with
      | lst xs => simp only [q] at h; exact ⟨pn, xs, rfl, h⟩
      | dic _ => simp only [q] at h; exact h.elim
      | obj _ _ => simp only [q] at h; exact h.elim
theorem Sim.setOw {i : Nat} {pn : Bool} {o o' : O} {p : Addr} {u : HO} (S : Sim B F env σ H) (hi : env[i]? = some (.ow pn o)) (hp : σ[i]? = some (some (.ref p))) (ho : OAt B F (upd H p u) p o') : Go B F env σ H F (env.set i (.ow pn o')) σ (upd H p u) := by
  obtain ⟨p', a1, a2, a3⟩ := S.ow i pn o hi
  rw [hp] at a1; cases a1
  obtain ⟨w, hw⟩ := a3.ex
  have il : i < env.length := (List.getElem?_eq_some_iff.mp hi).1
  have own : Own env σ p := ⟨i, pn, o, hi, hp⟩
  have l : EnvLe env (env.set i (.ow pn o')) := ⟨fun j k q z => by
    rcases getElem?_setS z with ⟨rfl, e⟩ | ⟨_, e⟩
    · cases e; exact ⟨o, hi⟩
    · exact ⟨q, e⟩, fun j q z => by
    by_cases hj : i = j
    · subst hj; rw [hi] at z; cases z; exact ⟨o', List.getElem?_set_self il⟩
    · exact ⟨q, by rw [List.getElem?_set_ne hj]; exact z⟩⟩
  refine Go.of ⟨Le.refl F, fun b v e n => ?_, fun b v e => .inl e, fun b v e => ?_⟩ ⟨fun b v e => ?_, by rw [List.length_set]; exact S.len, fun j d z => ?_, fun j k q z => ?_, fun j j' k1 o1 k2 o2 q c1 c2 d1 d2 => ?_⟩ l
  · have : b ≠ p := fun z => n (by rw [z]; exact own)
    rw [upd_ne this]; exact e
  · by_cases hb : b = p
    · subst hb; exact ⟨u, upd_same⟩
    · exact ⟨v, by rw [upd_ne hb]; exact e⟩
  · have : b ≠ p := fun z => by rw [z, a2] at e; cases e
    rw [upd_ne this]; exact S.hold b v e
  · rcases getElem?_setS z with ⟨_, e⟩ | ⟨_, e⟩
    · cases e
    · exact S.fz j d e
  · rcases getElem?_setS z with ⟨rfl, e⟩ | ⟨ne, e⟩
    · cases e; exact ⟨p, hp, a2, ho⟩
    · obtain ⟨p', b1, b2, b3⟩ := S.ow j k q e
      have : p' ≠ p := fun z => ne (S.sep i j pn o k q p hi e hp (by rw [← z]; exact b1))
      exact ⟨p', b1, b2, b3.mono (Le.refl _) fun v hv => by rw [upd_ne this]; exact hv⟩
  · have f : ∀ {j : Nat} {k1 : Bool} {o1' : O}, (env.set i (.ow pn o'))[j]? = some (.ow k1 o1') → ∃ k2 o2, env[j]? = some (.ow k2 o2) := fun {j k1 o1'} z => by
      rcases getElem?_setS z with ⟨rfl, e⟩ | ⟨ne, e⟩
      · exact ⟨pn, o, hi⟩
      · exact ⟨_, _, e⟩
    obtain ⟨_, _, x1⟩ := f c1
    obtain ⟨_, _, x2⟩ := f c2
    exact S.sep j j' _ _ _ _ q x1 x2 d1 d2
theorem ds_putAt (i : Nat) {x : Str} {p' p2 : Pos} (hb : DE B X W b mb) (he : DE B X W e ma) (hN : X.N[i]? = some x := by rfl) (hv : Vis X.env.scope x := by first | exact Or.inl rfl | exact Or.inr (Or.inl rfl) | exact Or.inr (Or.inr rfl)) (hd : (x == ("__debug__" : Str)) = false := by decide)
    (hcd : (x == ("__classdict__" : Str)) = false := by decide)
    (ha : ∀ v, assign (.Subscript (.Name x p') b p2) X.env v = (do
      let ov ← holding [v] (eval (.Name x p') X.env)
      let iv ← holding [v, ov] (eval b X.env)
      standAt p2
      holding [v, ov, iv] (setItem ov iv v)
      release [v, ov, iv] []) := by intro _; rfl)
    (hs : swapsWithSole [.Subscript (.Name x p') b p2] e pos.line X.env = pure false := by rfl) (hw : swappedStores [.Subscript (.Name x p') b p2] e X.env = pure none := by rfl)
    (h1 : (assignEach [.Subscript (.Name x p') b p2] X.env).map (·.2) = [assign (.Subscript (.Name x p') b p2) X.env] := by rfl) : DS B X W (.Assign [.Subscript (.Name x p') b p2] e pos) (mPutAt i mb ma) :=
  PS.imp (ps_asg he (pg_sub (pe_var hN hv hd hcd) hb set_list ha) hs hw h1) fun D σ H h => by
    obtain ⟨F, env, S, h⟩ := h
    refine ⟨F, env, S, h.bind.mono fun x e1 F1 H1 s1 m1 o1 k1 v rv => ?_⟩
    obtain ⟨d, e2, F2, s2, m2, o2, r2, k2⟩ := m1.frz1 rv k1.bind
    obtain ⟨pn, xs, hi, k3⟩ := k2.chkL m2
    obtain ⟨q, hq, hf, _⟩ := m2.ow i pn _ hi
    refine ⟨.ref q, hq, F2, e2, m2, k3.bind.mono fun y e3 F3 H3 s3 m3 o3 k4 w rw => ?_⟩
    obtain ⟨a, z, ea, ez, k5⟩ := k4.bind.ap1
    have k5 := Post.here m3 k5
    have sa := m3.view rw ea
    cases a with
    | int n =>
      cases ez
      cases (show w = .int n from sa)
      unfold putAt at k5
      cases q2 : e3[i]? with
      | none => simp only [q2] at k5; exact k5.elim
      | some sl =>
        cases sl with
        | no => simp only [q2] at k5; exact k5.elim
        | fz _ => simp only [q2] at k5; exact k5.elim
        | ow pn' o =>
          cases o with
          | dic _ => simp only [q2] at k5; exact k5.elim
          | obj _ _ => simp only [q2] at k5; exact k5.elim
          | lst ys =>
            simp only [q2] at k5
            cases q3 : ixN ys.length n with
            | none => simp only [q3] at k5; exact k5.elim
            | some j =>
              simp only [q3] at k5
              obtain ⟨q', hq', hf', hz, vs, hv, rl⟩ := m3.ow i pn' _ q2
              rw [hq] at hq'; cases hq'
              refine ⟨q, vs, n, j, rfl, rfl, hv, by rw [rl.length]; exact q3, ?_⟩
              exact k5 _ _ _ (m3.setOw q2 hq ⟨by rw [List.length_set]; exact hz, _, upd_same, rl.set (Rep.mono s3.le d v r2) j⟩)
    | _ => cases ez
end
end AN

set_option Elab.async false
set_option maxRecDepth 100000
set_option autoImplicit false
set_option linter.unusedVariables false
namespace AN
open PySem L2

section
variable {B : Bx} {X : Cx} {W : WX} {F H : Hp} {env : Env} {σ : St} {Q : VK} {a b c e : Expr} {ma mb mc : M Opd} {pos p : Pos} {ms : M (List Opd)}
/-! ### a, b = x, y -/
def puts : List Nat → List D → Env → Option Env
  | [], [], env => some env
  | i :: is, d :: ds, env => (gN i d env).bind (puts is ds)
  | _, _, _ => none
def mPar (is : List Nat) (ms : M (List Opd)) : M Fl := M.bind ms fun xs => M.bind (frzs xs) fun ds env => match puts is ds env with
  | some e => .ok .nx e
  | none => .bad
theorem puts2 {i j : Nat} {ds : List D} {vs : List V} {e' : Env} (S : Sim B F env σ H) (r : RepL B F ds vs) (h : puts [i, j] ds env = some e') : ∃ v w, vs = [v, w] ∧ Go B F env σ H F e' ((σ.set i (some v)).set j (some w)) H := by
  match ds, r, h with
  | [d1, d2], r, h =>
    obtain ⟨v, r', rfl, a1, r⟩ := r
    obtain ⟨w, r', rfl, a2, r⟩ := r
    cases (show r' = [] from r)
    obtain ⟨e1, h1, h⟩ := Option.bind_eq_some_iff.mp h
    obtain ⟨e2, h2, h⟩ := Option.bind_eq_some_iff.mp h
    cases h
    obtain ⟨⟨s0, b0⟩, b1, rfl⟩ := gN_ok h1
    have g1 := S.setD b0 b1 a1
    obtain ⟨⟨s1, c0⟩, c1, rfl⟩ := gN_ok h2
    exact ⟨v, w, rfl, g1.trans (g1.sim.setD c0 c1 a2)⟩
  | [], r, h => cases h
  | [_], r, h =>
    obtain ⟨e1, h1, h⟩ := Option.bind_eq_some_iff.mp h
    cases h
  | _ :: _ :: _ :: _, r, h =>
    obtain ⟨e1, h1, h⟩ := Option.bind_eq_some_iff.mp h
    obtain ⟨e2, h2, h⟩ := Option.bind_eq_some_iff.mp h
    cases h
theorem ds_par2 (i j : Nat) {x y : Str} {px py pt : Pos} {kt k2 pt2} (hc : X.calm = true) (hN : X.N.Nodup) (ha : DA B X W [a, b] ms) (hi : X.N[i]? = some x := by rfl) (hj : X.N[j]? = some y := by rfl) (hij : i ≠ j := by decide)
    (hx : X.env.scope.names.lookup x = some .local := by rfl) (hy : X.env.scope.names.lookup y = some .local := by rfl)
    (hw : swappedStores [.Tuple [.Name x px, .Name y py] kt pt] (.Tuple [a, b] k2 pt2) X.env = pure (some [x, y]) := by rfl)
    (hs : swapsWithSole [.Tuple [.Name x px, .Name y py] kt pt] (.Tuple [a, b] k2 pt2) pos.line X.env = pure false := by rfl) :
    DS B X W (.Assign [.Tuple [.Name x px, .Name y py] kt pt] (.Tuple [a, b] k2 pt2) pos) (mPar [i, j] ms) := PS.imp (ps_par hc hN hi hj hij hx hy ha hw hs) fun D σ H h => by
  obtain ⟨F, env, S, h⟩ := h
  refine ⟨F, env, S, h.bind.mono fun xs e1 F1 H1 s1 m1 o1 k1 vs rvs => ?_⟩
  obtain ⟨ds, e2, F2, s2, m2, o2, r2, k2⟩ := m1.frzs rvs k1.bind
  cases q : puts [i, j] ds e2 with
  | none => simp only [q] at k2; exact k2.elim
  | some e3 =>
    simp only [q] at k2
    obtain ⟨v, w, rfl, g⟩ := puts2 m2 r2 q
    exact ⟨v, w, rfl, k2 _ _ _ g⟩
/-! ### the script -/
def scriptD (ns : List Int) : D := .lst (ns.map .int)
theorem repL_ints (ns : List Int) : RepL B F (ns.map D.int) (ns.map V.int) := by
  induction ns with
  | nil => rfl
  | cons n ns ih => exact ⟨_, _, rfl, rfl, ih⟩
/-- a law's promise: True for every script -/
theorem law_sp {f : Fn} {K : PySem.W.Frag} {a : Addr} {ns : List Int} (hK : K = B.K) (h : ∃ as, f [.fz (scriptD ns)] = .ok (.fz (.bl true)) as) (hl : ns.length ≤ 63) (hO : Only H) (hS : SqL K H a (ns.map V.int)) {E : XK} :
    spOf B 1 f [.ref a] H (fun v _ => v = .bl true) E := by
  obtain ⟨as, h⟩ := h
  have core : ∀ F : Hp, Holds F H → LAt B F a (ns.map V.int) → spOf B 1 f [.ref a] H (fun v _ => v = .bl true) E := fun F hh hF => by
    refine ⟨rfl, F, [.fz (scriptD ns)], ?_, fun i k o q => ?_, ?_⟩
    · refine sim_fz (ds := [scriptD ns]) (vs := [.ref a]) hh ⟨_, _, rfl, ⟨a, _, rfl, hF, ?_, repL_ints ns⟩, rfl⟩
      rw [List.length_map]
      exact Nat.le_trans hl (by decide)
    · cases i with
      | zero => simp at q
      | succ i => simp at q
    · rw [h]
      exact fun v F' H' s m r => r
  rcases hS with (z | ⟨o, z⟩) | z
  · rcases hO a with y | ⟨o, xs, y⟩ <;> rw [z] at y <;> cases y
  · refine core (fun b => if b = a then some (.lst (ns.map V.int)) else none) (fun b u e => ?_) (.inl (if_pos rfl))
    by_cases hb : b = a
    · subst hb
      have e' := (if_pos rfl).symm.trans e
      cases e'
      exact .inr ⟨rfl, o, z⟩
    · have e' := (if_neg hb).symm.trans e
      cases e'
  · refine core nil (fun b u e => by cases e) (.inr (.inr ?_))
    rw [← hK]; exact z
theorem blk_ok {N : List Str} {sc scope : Scope} {own : List (Str × Nat)} (hN : X.N = N) (hs : X.env.scope = sc) (h : blkC N sc scope own = true) : blkC X.N X.env.scope scope own = true := by rw [hN, hs]; exact h
def mDic0 : M O := M.pure (.dic [])
theorem do_dic0 : DO B X W (.Dict [] [] pos) mDic0 := PE.imp pe_dnewK fun σ H Q h => by
  obtain ⟨F, env, S, h⟩ := h
  intro d hd
  obtain ⟨s3, h3⟩ := step0_mk (u := .dK []) S.hold hd
  exact h _ _ s3.any (S.step0 s3 h3) (EnvLe.refl _) d hd (S.hold.none hd) ⟨Nat.zero_le _, [], upd_same, rfl⟩
theorem hu65 {k : Nat} {A : Around} (hr : Room k A) : A.units + 65 < cLine := by have := hr.un; omega
theorem hu64 {k : Nat} {A : Around} (hr : Room k A) : A.units + 64 < cLine := by have := hr.un; omega
/-! ### constants of the module -/
theorem de_gS {x : Str} {s : Str} (h : ∃ t, X.mg x = some (.str s t)) (ok : okS s) (hg : Gl X x := by rfl) (hd : (x == ("__debug__" : Str)) = false := by decide) : DE B X W (.Name x pos) (mC (.str s)) := by
  obtain ⟨t, h⟩ := h
  exact de_glob (v := .str s) hg h ⟨t, rfl⟩ (fun _ => ⟨rfl, ok⟩) hd
theorem de_gI {x : Str} {i : Int} (h : ∃ t, X.mg x = some (.int i t)) (hg : Gl X x := by rfl) (hd : (x == ("__debug__" : Str)) = false := by decide) : DE B X W (.Name x pos) (mC (.int i)) := by
  obtain ⟨t, h⟩ := h
  exact de_glob (v := .int i) hg h ⟨t, rfl⟩ (fun _ => rfl) hd
/-! ### a def of the module, ready to be called -/
structure Cal (P : Program) (w : World) (K : PySem.W.Frag) (mg : Str → Option Value) (base : Heap) (B : Bx) (x : Str) (k : Nat) (ps : List Str) (f : Fn) : Prop where
  ex : ∃ fa fd, FnOk P w K mg base (L2.CX P w) k fa fd ps (spOf B ps.length f) ∧ mg x = some (.ref fa) ∧ PySem.W.keepIn K (.ref fa) = true ∧ Binds K fd ps []
variable {k n : Nat} {ps : List Str} {f : Fn} {x : Str} {es : List Expr} {sg : List Bool}
theorem dc (C : Cal X.prog X.w X.K X.mg X.base B x k ps f) (hr : Room k X.A) (tk : Takes X W) (ha : DA B X W (e :: es) ms) (hg : Gl X x := by rfl) (hdb : (x == ("__debug__" : Str)) = false := by decide)
    (he : starEach (e :: es) X.env = (false, eval e X.env) :: starEach es X.env := by rfl) (hpl : (backTo pos (starEach es X.env)).any (·.1) = false := by rfl) : DE B X W (.Call (.Name x p) (e :: es) [] pos) (mCall ps.length f ms) := by
  obtain ⟨fa, fd, G, hm, hk, hb⟩ := C.ex
  exact de_call G hr tk hm hk hb ha hg hdb he hpl
theorem oc (C : Cal X.prog X.w X.K X.mg X.base B x k ps f) (hr : Room k X.A) (tk : Takes X W) (ha : DA B X W (e :: es) ms) (hg : Gl X x := by rfl) (hdb : (x == ("__debug__" : Str)) = false := by decide)
    (he : starEach (e :: es) X.env = (false, eval e X.env) :: starEach es X.env := by rfl) (hpl : (backTo pos (starEach es X.env)).any (·.1) = false := by rfl) : DO B X W (.Call (.Name x p) (e :: es) [] pos) (mCallO ps.length f ms) := by
  obtain ⟨fa, fd, G, hm, hk, hb⟩ := C.ex
  exact do_call G hr tk hm hk hb ha hg hdb he hpl
theorem dcM (sg : List Bool) (C : Cal X.prog X.w X.K X.mg X.base B x k ps f) (hr : Room k X.A) (tk : Takes X W) (ha : DA B X W (e :: es) ms) (hsg : ps.length = sg.length := by rfl) (hg : Gl X x := by rfl) (hdb : (x == ("__debug__" : Str)) = false := by decide)
    (he : starEach (e :: es) X.env = (false, eval e X.env) :: starEach es X.env := by rfl) (hpl : (backTo pos (starEach es X.env)).any (·.1) = false := by rfl) : DE B X W (.Call (.Name x p) (e :: es) [] pos) (mCallM sg f ms) := by
  obtain ⟨fa, fd, G, hm, hk, hb⟩ := C.ex
  rw [hsg] at G
  exact de_callM G hr tk hm hk hb ha hg hdb he hpl
theorem ocM (sg : List Bool) (C : Cal X.prog X.w X.K X.mg X.base B x k ps f) (hr : Room k X.A) (tk : Takes X W) (ha : DA B X W (e :: es) ms) (hsg : ps.length = sg.length := by rfl) (hg : Gl X x := by rfl) (hdb : (x == ("__debug__" : Str)) = false := by decide)
    (he : starEach (e :: es) X.env = (false, eval e X.env) :: starEach es X.env := by rfl) (hpl : (backTo pos (starEach es X.env)).any (·.1) = false := by rfl) : DO B X W (.Call (.Name x p) (e :: es) [] pos) (mCallMO sg f ms) := by
  obtain ⟨fa, fd, G, hm, hk, hb⟩ := C.ex
  rw [hsg] at G
  exact do_callM G hr tk hm hk hb ha hg hdb he hpl
end
/-- the end: the law's promise from what the top has left -/
theorem walk_x {l : PySem.W.OpenLaw} {k : Nat} {q : Program} {loose : List Str} {XP : (Str → Option Value) → Heap → Prop} {YP : World → Heap → Prop} {d : DefRec} {K : Params → PySem.W.Frag} {x : Str} {f : Fn} (B : PySem.W.Frag → Bx) (hB : ∀ F, (B F).K = F)
    (hn : l.most = some 63) (hdf : d.params.defaults = []) (hr : Room k callerA) (hY : ∀ (w : World) (h : Heap), YP w h → (K w.params).In h)
    (Fh : ∀ (w : World) (mg : Str → Option Value) (fa : Addr) (h : Heap), (K w.params).In h → h.Ns mainGlobals mg → XP mg h → mg d.name = some (.ref fa) →
      ∃ fd : FuncData, (∀ (s : Shared) (u : Value), BindsTo s fd ⟨[u], []⟩ [(x, u)]) ∧
        ∀ base : Heap, (K w.params).In base → base.Ns mainGlobals mg → FnOk l.prog w (K w.params) mg base (L2.CX l.prog w) k fa fd [x] (spOf (B (K w.params)) 1 f))
    (hf : ∀ ns : List Int, ns.length ≤ 63 → ∃ as, f [.fz (scriptD ns)] = .ok (.fz (.bl true)) as) :
    PySem.W.WalkO q loose XP YP l.row.toRowW d [] (fun f vs => PySem.call f vs) := by
  refine Att.attach_call hn hdf fun w s₀ s₁ mg mb fa o pm cd doc a vs ns G Y ho hd hcd hmg hobj hints hlen hg => ?_
  have KX := hY w _ Y
  obtain ⟨fd, hb, hF⟩ := Fh w mg fa _ KX G.T.g G.X hmg
  refine law_call KX G.T.g G.T.b G.T.builtins G.T.nolimit hg hobj hints (Nat.le_trans hlen (by decide)) hr hF hb (fun H hO hS => law_sp (hB _).symm (hf ns hlen) hlen hO hS) fun H e s' h => ?_
  obtain ⟨_, _, _, _, _, _, _, _, _, _, _, _, z⟩ := h
  exact z
end AN

set_option Elab.async false
set_option maxRecDepth 100000
set_option autoImplicit false
set_option linter.unusedVariables false
namespace AN
open PySem L2
/-! ### running a mirror -/
def R.th {α β : Type} (r : R α) (k : α → M β) : R β := match r with
  | .ok a e => k a e
  | .exc c d e => .exc c d e
  | .bad => .bad
def rop {α : Type} (o : Option α) (e : Env) : R α := match o with
  | some a => .ok a e
  | none => .bad
section
variable {α β : Type} {a : α} {e e' : Env} {k : α → M β} {c : String} {d : D}
@[simp] theorem th_ok : R.th (.ok a e) k = k a e := rfl
@[simp] theorem th_exc : R.th (.exc c d e : R α) k = .exc c d e := rfl
@[simp] theorem th_bad : R.th (.bad : R α) k = .bad := rfl
@[simp] theorem rop_some : rop (some a) e = .ok a e := rfl
@[simp] theorem rop_none : rop (none : Option α) e = .bad := rfl
theorem th_congr {r : R α} {k k' : α → M β} (h : ∀ a e, k a e = k' a e) : R.th r k = R.th r k' := by
  cases r with
  | ok a e => exact h a e
  | exc c d e => rfl
  | bad => rfl
theorem bind_r {m : M α} : M.bind m k e = R.th (m e) k := rfl
@[simp] theorem pure_r : M.pure a e = .ok a e := rfl
@[simp] theorem mC_r : mC d e = .ok (.d d) e := rfl
@[simp] theorem mD_r {m : M D} : mD m e = R.th (m e) fun d e => .ok (.d d) e := rfl
@[simp] theorem mB1_r {g : D → Option α} {m : M Opd} : mB1 g m e = R.th (m e) fun x e => ap1 g x e := rfl
@[simp] theorem mB2_r {g : D → D → Option α} {m n : M Opd} : mB2 g m n e = R.th (m e) fun x e => R.th (n e) fun y e => ap2 g x y e := rfl
@[simp] theorem ap1_r {g : D → Option α} {x : Opd} : ap1 g x e = rop ((view e x).bind g) e := by
  unfold ap1 rop
  cases view e x with
  | none => rfl
  | some a => dsimp only [Option.bind] <;> cases g a <;> rfl
@[simp] theorem ap2_r {g : D → D → Option α} {x y : Opd} : ap2 g x y e = rop ((view e x).bind fun a => (view e y).bind fun b => g a b) e := by
  unfold ap2 rop
  cases view e x with
  | none => rfl
  | some a => cases view e y with
    | none => rfl
    | some b => dsimp only [Option.bind] <;> cases g a b <;> rfl
@[simp] theorem view_d : view e (.d d) = some d := rfl
@[simp] theorem g2b_r {g : D → D → Option D} {x y : D} : g2b g x y = (g x y).bind blOf := rfl
@[simp] theorem mSeq_r {m n : M Fl} : mSeq m n e = R.th (m e) fun f => match f with
  | .nx => n
  | f => M.pure f := rfl
@[simp] theorem mIfS_r {t : M Bool} {m n : M Fl} : mIfS t m n e = R.th (t e) fun c => if c = true then m else n := rfl
@[simp] theorem mSet_r {i : Nat} {m : M Opd} : mSet i m e = R.th (m e) fun x e => R.th (frz1 x e) fun d e => put i (.fz d) e := rfl
@[simp] theorem mSetO_r {i : Nat} {m : M O} : mSetO i m e = R.th (m e) fun o e => put i (.ow false o) e := rfl
@[simp] theorem mRet_r {m : M Opd} : mRet m e = R.th (m e) fun x e => R.th (frz1 x e) fun d e => .ok (.rt d) e := rfl
@[simp] theorem mRetO_r {m : M O} : mRetO m e = R.th (m e) fun o e => .ok (.ro o) e := rfl
@[simp] theorem mRetN_r : mRetN e = .ok (.rt .non) e := rfl
@[simp] theorem mNx_r : mNx e = .ok .nx e := rfl
@[simp] theorem mDrop_r {m : M Opd} : mDrop m e = R.th (m e) fun _ e => .ok .nx e := rfl
@[simp] theorem frz1_d : frz1 (.d d) e = .ok d e := rfl
@[simp] theorem frzs_nil : frzs [] e = .ok [] e := rfl
@[simp] theorem frzs_cons {x : Opd} {xs : List Opd} : frzs (x :: xs) e = R.th (frz1 x e) fun d e => R.th (frzs xs e) fun ds e => .ok (d :: ds) e := rfl
@[simp] theorem mA0_r : mA0 e = .ok [] e := rfl
@[simp] theorem mA_r {m : M Opd} {ms : M (List Opd)} : mA m ms e = R.th (m e) fun x e => R.th (ms e) fun xs e => .ok (x :: xs) e := rfl
@[simp] theorem mTup_r {ms : M (List Opd)} : mTup ms e = R.th (ms e) fun xs e => R.th (frzs xs e) fun ds e => lim ds.length (M.pure (.d (.tup ds))) e := rfl
@[simp] theorem mLst_r {ms : M (List Opd)} : mLst ms e = R.th (ms e) fun xs e => R.th (frzs xs e) fun ds e => lim ds.length (M.pure (.lst ds)) e := rfl
theorem lim_r {n : Nat} {m : M α} (h : n ≤ sizeLine) : lim n m e = m e := if_pos h
@[simp] theorem mFz_r {m : M O} : mFz m e = R.th (m e) fun o e => .ok (.d o.toD) e := rfl
@[simp] theorem mDic0_r : mDic0 e = .ok (.dic []) e := rfl
@[simp] theorem toD_lst {xs : List D} : O.toD (.lst xs) = .lst xs := rfl
@[simp] theorem toD_dic {xs : List (Key × D)} : O.toD (.dic xs) = .dic xs := rfl
@[simp] theorem toD_obj {c : String} {xs : List (Str × D)} : O.toD (.obj c xs) = .obj c xs := rfl
@[simp] theorem mAnd_r {m n : M Bool} : mAnd m n e = R.th (m e) fun c => if c = true then n else M.pure false := rfl
@[simp] theorem mOr_r {m n : M Bool} : mOr m n e = R.th (m e) fun c => if c = true then M.pure true else n := rfl
@[simp] theorem mNot_r {m : M Bool} : mNot m e = R.th (m e) fun c e => .ok (!c) e := rfl
@[simp] theorem mAndV_r {m n : M Opd} : mAndV m n e = R.th (mB1 blOf m e) fun c => if c = true then n else mC (.bl false) := rfl
@[simp] theorem mOrV_r {m n : M Opd} : mOrV m n e = R.th (mB1 blOf m e) fun c => if c = true then mC (.bl true) else n := rfl
@[simp] theorem mNotV_r {m : M Opd} : mNotV m e = R.th (mB1 blOf m e) fun c e => .ok (.d (.bl (!c))) e := rfl
@[simp] theorem mT_r {m : M Opd} : mT m e = mB1 truth m e := rfl
@[simp] theorem mIf_r {t : M Bool} {m n : M α} : mIf t m n e = R.th (t e) fun c => if c = true then m else n := rfl
@[simp] theorem mChain_r {g g' : D → D → Option D} {x y z : M Opd} : mChain g g' x y z e = R.th (x e) fun u e => R.th (y e) fun v e => R.th (ap2 (g2b g) u v e) fun k e => if k = true then (R.th (z e) fun w e => mD (ap2 g' v w) e) else .ok (.d (.bl false)) e := by
  refine th_congr fun u e => th_congr fun v e => th_congr fun k e => ?_
  cases k <;> rfl
@[simp] theorem mIt_r {m : M Opd} : mIt m e = R.th (m e) fun x e => R.th (frz1 x e) fun d e => rop (seqOf d) e := by
  exact th_congr fun u e => th_congr fun v e => rfl
@[simp] theorem mRng1_r {m : M Opd} : mRng1 m e = mB1 rng1 m e := rfl
@[simp] theorem mFor_r {it : M (List D)} {g : D → Env → Option Env} {b : M Fl} : mFor it g b e = R.th (it e) fun ds e => loop g b ds e := rfl
@[simp] theorem mAsg_r {g : D → Env → Option Env} {m : M Opd} : mAsg g m e = R.th (m e) fun x e => R.th (frz1 x e) fun d e => R.th (rop (g d e) e) fun e' _ => .ok .nx e' := by
  refine th_congr fun u e => th_congr fun v e => ?_
  cases g v e <;> rfl
@[simp] theorem mPar_r {is : List Nat} {ms : M (List Opd)} : mPar is ms e = R.th (ms e) fun xs e => R.th (frzs xs e) fun ds e => R.th (rop (puts is ds e) e) fun e' _ => .ok .nx e' := by
  refine th_congr fun u e => th_congr fun v e => ?_
  cases puts is v e <;> rfl
@[simp] theorem mCall_r {n : Nat} {f : Fn} {ms : M (List Opd)} : mCall n f ms e = R.th (ms e) fun xs e => R.th (callP n f xs e) fun r e => .ok (.d r.toD) e := rfl
@[simp] theorem mCallO_r {n : Nat} {f : Fn} {ms : M (List Opd)} : mCallO n f ms e = R.th (ms e) fun xs e => R.th (callP n f xs e) retO := rfl
@[simp] theorem retO_r {o : O} : retO (.ow o) e = .ok o e := rfl
theorem callP_ok {n : Nat} {f : Fn} {xs : List Opd} {ds : List D} {e1 : Env} {d : D} {as : List Slot} (hn : xs.length = n) (h1 : frzs xs e = .ok ds e1) (h2 : f (ds.map .fz) = .ok (.fz d) as) (hs : scalar d = true) : callP n f xs e = .ok (.fz d) e := by
  unfold callP
  rw [if_pos hn, h1]
  dsimp only
  rw [h2]
  exact if_pos hs
theorem callP_fz {n : Nat} {f : Fn} {xs : List Opd} {ds : List D} {e1 : Env} {d : D} {as : List Slot} (hn : xs.length = n) (h1 : frzs xs e = .ok ds e1) (h2 : f (ds.map .fz) = .ok (.fz d) as) (hs : scalar d = false) : callP n f xs e = .ok (.fz d) e1 := by
  unfold callP
  rw [if_pos hn, h1]
  dsimp only
  rw [h2]
  exact if_neg (by rw [show (Ret.fz d).toD = d from rfl, hs]; decide)
theorem callP_ow {n : Nat} {f : Fn} {xs : List Opd} {ds : List D} {e1 : Env} {o : O} {as : List Slot} (hn : xs.length = n) (h1 : frzs xs e = .ok ds e1) (h2 : f (ds.map .fz) = .ok (.ow o) as) : callP n f xs e = .ok (.ow o) e1 := by
  unfold callP
  rw [if_pos hn, h1]
  dsimp only
  rw [h2]
  exact if_neg (by cases o <;> exact Bool.false_ne_true)
@[simp] theorem retD_fz : (Ret.fz d).toD = d := rfl
@[simp] theorem retD_ow {o : O} : (Ret.ow o).toD = o.toD := rfl
@[simp] theorem mCallM_r {sg : List Bool} {f : Fn} {ms : M (List Opd)} : mCallM sg f ms e = R.th (ms e) fun xs e => R.th (callM sg f xs e) fun r e => .ok (.d r.toD) e := rfl
@[simp] theorem mCallMO_r {sg : List Bool} {f : Fn} {ms : M (List Opd)} : mCallMO sg f ms e = R.th (ms e) fun xs e => R.th (callM sg f xs e) retO := rfl
theorem callM_ok {sg : List Bool} {f : Fn} {xs : List Opd} {ds : List D} {e1 e2 : Env} {args as : List Slot} {r : Ret} (hn : (ioS sg xs).Nodup) (h1 : frzIn sg xs e = .ok ds e1) (h2 : mkA sg xs ds e1 = some args) (h3 : f args = .ok r as) (h4 : back sg xs as e1 = some e2) : callM sg f xs e = .ok r e2 := by
  unfold callM
  rw [if_pos hn, h1]
  dsimp only
  rw [h2]
  dsimp only
  rw [h3]
  dsimp only
  rw [h4]
@[simp] theorem mSl_r {g : D → Option Int → Option Int → Option α} {m : M Opd} {ml mu : M (Option Int)} : mSl g m ml mu e = R.th (m e) fun x e => R.th (ml e) fun l e => R.th (mu e) fun u e => ap1 (fun d => g d l u) x e := rfl
@[simp] theorem mM1_r {g : D → D → Option D} {m n : M Opd} : mM1 g m n e = R.th (m e) fun x e => R.th (ap1 strChk x e) fun _ e => R.th (n e) fun y e => mD (ap2 g x y) e := rfl
@[simp] theorem mPutAt_r {i : Nat} {ix m : M Opd} : mPutAt i ix m e = R.th (m e) fun x e => R.th (frz1 x e) fun d e => R.th (chkL i e) fun _ e => R.th (ix e) fun y e => R.th (ap1 intOf y e) fun k e => AN.putAt i d k e := rfl
@[simp] theorem mLC_r {vs : List Nat} {it : M (List D)} {g : D → Env → Option Env} {mt : M Bool} {me : M Opd} : mLC vs it g mt me e = R.th (it e) fun ds env => if ds.length ≤ sizeLine then (match lc vs g mt me ds [] (wipeE vs 0 env) with
  | .ok acc e2 => .ok (.lst acc) (restE vs 0 env e2)
  | _ => .bad) else .bad := rfl
theorem runF_ok {n : Nat} {m : M Fl} {args : List Slot} {e : Env} {d : D} (h : m (args ++ List.replicate n .no) = .ok (.rt d) e) : runF n m args = .ok (.fz d) (outs args e) := by unfold runF; rw [h]
theorem runF_ow {n : Nat} {m : M Fl} {args : List Slot} {e : Env} {o : O} (h : m (args ++ List.replicate n .no) = .ok (.ro o) e) : runF n m args = .ok (.ow o) (outs args e) := by unfold runF; rw [h]
theorem runF_nx {n : Nat} {m : M Fl} {args : List Slot} {e : Env} (h : m (args ++ List.replicate n .no) = .ok .nx e) : runF n m args = .ok (.fz .non) (outs args e) := by unfold runF; rw [h]
/-- a loop with something kept -/
theorem loop_nx {g : D → Env → Option Env} {body : M Fl} {I : Env → Prop} : ∀ {ds : List D} {e : Env}, I e → (∀ d ∈ ds, ∀ e, I e → ∃ e1 e2, g d e = some e1 ∧ (body e1 = .ok .nx e2 ∨ body e1 = .ok .ct e2) ∧ I e2) → ∃ e', loop g body ds e = .ok .nx e' ∧ I e'
  | [], e, h, _ => ⟨e, rfl, h⟩
  | d :: ds, e, h, s => by
    obtain ⟨e1, e2, h1, h2, h3⟩ := s d (by simp) e h
    obtain ⟨e', h4, h5⟩ := loop_nx (ds := ds) h3 (fun d hd => s d (by simp [hd]))
    refine ⟨e', ?_, h5⟩
    rcases h2 with h2 | h2 <;> simp only [loop, h1, h2, h4]
/-- a list built with something kept -/
theorem lc_all {vs : List Nat} {g : D → Env → Option Env} {me : M Opd} {I : Env → Prop} {P : D → Prop} : ∀ {ds acc : List D} {e : Env}, I e → (∀ d ∈ acc, P d) → (∀ d ∈ ds, ∀ e, I e → ∃ e1 e2 x, g d e = some e1 ∧ M.bind me frz1 e1 = .ok x e2 ∧ P x ∧ I (wipeE vs 0 e2)) →
    ∃ xs e', lc vs g (M.pure true) me ds acc e = .ok xs e' ∧ xs.length = acc.length + ds.length ∧ (∀ d ∈ xs, P d) ∧ I e'
  | [], acc, e, h, ha, _ => ⟨acc, e, rfl, by simp, ha, h⟩
  | d :: ds, acc, e, h, ha, s => by
    obtain ⟨e1, e2, x, h1, h2, h3, h4⟩ := s d (by simp) e h
    obtain ⟨xs, e', k1, k2, k3, k4⟩ := lc_all (ds := ds) (acc := acc ++ [x]) h4 (fun z hz => by
      rcases List.mem_append.mp hz with hz | hz
      · exact ha z hz
      · rw [List.mem_singleton.mp hz]; exact h3) (fun d hd => s d (by simp [hd]))
    refine ⟨xs, e', ?_, by rw [k2]; simp; omega, k3, k4⟩
    simp only [lc, h1, pure_r, h2]
    exact k1
/-- a list built of what each item gives, all else as it was -/
theorem lc_map {vs : List Nat} {g : D → Env → Option Env} {me : M Opd} {f : D → D} {e : Env} : ∀ {ds acc : List D}, (∀ d ∈ ds, ∃ e1 e2, g d e = some e1 ∧ M.bind me frz1 e1 = .ok (f d) e2 ∧ wipeE vs 0 e2 = e) →
    lc vs g (M.pure true) me ds acc e = .ok (acc ++ ds.map f) e
  | [], acc, _ => by simp [lc]
  | d :: ds, acc, s => by
    obtain ⟨e1, e2, h1, h2, h3⟩ := s d (by simp)
    simp only [lc, h1, pure_r, h2, h3]
    rw [lc_map (fun d hd => s d (by simp [hd]))]
    simp
/-- the same with a test -/
theorem lc_filter {vs : List Nat} {g : D → Env → Option Env} {mt : M Bool} {me : M Opd} {t : D → Bool} {f : D → D} {e : Env} : ∀ {ds acc : List D}, (∀ d ∈ ds, ∃ e1 e2, g d e = some e1 ∧ mt e1 = .ok (t d) e2 ∧ (t d = false → wipeE vs 0 e2 = e) ∧ (t d = true → ∃ e3, M.bind me frz1 e2 = .ok (f d) e3 ∧ wipeE vs 0 e3 = e)) →
    lc vs g mt me ds acc e = .ok (acc ++ (ds.filter t).map f) e
  | [], acc, _ => by simp [lc]
  | d :: ds, acc, s => by
    obtain ⟨e1, e2, h1, h2, h3, h4⟩ := s d (by simp)
    cases c : t d with
    | false =>
      rw [c] at h2
      simp only [lc, h1, h2, h3 c]
      rw [lc_filter (fun d hd => s d (by simp [hd]))]
      simp [c]
    | true =>
      rw [c] at h2
      obtain ⟨e3, h5, h6⟩ := h4 c
      simp only [lc, h1, h2, h5, h6]
      rw [lc_filter (fun d hd => s d (by simp [hd]))]
      simp [c]
@[simp] theorem intsOf_map : ∀ ns : List Int, intsOf (ns.map .int) = some ns
  | [] => rfl
  | n :: ns => by simp only [List.map, intsOf, intsOf_map ns]; rfl
@[simp] theorem blsOf_map : ∀ ns : List Bool, blsOf (ns.map .bl) = some ns
  | [] => rfl
  | n :: ns => by simp only [List.map, blsOf, blsOf_map ns]; rfl
@[simp] theorem strsOf_map : ∀ ns : List Str, strsOf (ns.map .str) = some ns
  | [] => rfl
  | n :: ns => by simp only [List.map, strsOf, strsOf_map ns]; rfl
def pin : Slot → Bool
  | .ow true _ => true
  | _ => false
@[simp] theorem pin_no : pin .no = false := rfl
@[simp] theorem pin_fz : pin (.fz d) = false := rfl
@[simp] theorem pin_ow {o : O} {b : Bool} : pin (.ow b o) = b := by cases b <;> rfl
theorem put_pin {i : Nat} {s t : Slot} (h : e[i]? = some t) (h2 : pin t = false) : put i s e = .ok .nx (e.set i s) := by
  unfold put
  rw [h]
  cases t with
  | no => rfl
  | fz _ => rfl
  | ow b o => cases b with
    | true => cases h2
    | false => rfl
theorem gN_pin {i : Nat} {t : Slot} (h : e[i]? = some t) (h2 : pin t = false) : gN i d e = some (e.set i (.fz d)) := by
  unfold gN
  rw [h]
  cases t with
  | no => rfl
  | fz _ => rfl
  | ow b o => cases b with
    | true => cases h2
    | false => rfl
@[simp] theorem dEq_int {i j : Int} : dEq (.int i) (.int j) = some (.bl (i == j)) := if_pos (by rfl)
@[simp] theorem dNe_int {i j : Int} : dNe (.int i) (.int j) = some (.bl (!(i == j))) := if_pos (by rfl)
@[simp] theorem dEq_str {i j : Str} : dEq (.str i) (.str j) = some (.bl (i == j)) := if_pos (by rfl)
@[simp] theorem dNe_str {i j : Str} : dNe (.str i) (.str j) = some (.bl (!(i == j))) := if_pos (by rfl)
end
end AN

set_option Elab.async false
set_option maxRecDepth 100000
set_option autoImplicit false
set_option linter.unusedVariables false
/-! try with several named clauses -/
namespace AN
open PySem PySem.Spec PyProof.Rows L2
abbrev Su := Addr → Value → Option Addr → TS
/-- the wish of the clauses from the left, each with its slot -/
def wAll (K : PySem.W.Frag) (Wout : WX) (D : Ends) : List (Value × Nat × Su) → WX
  | [] => Wout
  | (c, i, ts) :: r => fun cls d σ H => ∃ yes, PySem.W.exmOne K cls c = some yes ∧ (yes = false → wAll K Wout D r cls d σ H) ∧
      (yes = true → ∀ a, H a = none → ts a cls d ⟨fun σ' H' => D.nx (σ'.set i none) H', D.rt, fun σ' H' => D.bk (σ'.set i none) H', fun σ' H' => D.ct (σ'.set i none) H'⟩ (σ.set i (some (.ref a))) H)
inductive HA (X : Cx) : List ExceptHandler → List (Value × Nat × Su) → Prop
  | nil : HA X [] []
  | cons {x n : Str} {c : Value} {i : Nat} {ts : Su} {st : Stmt} {su : List Stmt} {p q : Pos} {hds : List ExceptHandler} {l : List (Value × Nat × Su)} (hc : Names X x c) (hi : X.N[i]? = some n) (hl : X.env.kindOf n = some .local)
      (run : ∀ (a : Addr) (oe : Obj) (cls : Value) (d : Option Addr) (pn : List (Addr × Obj)), Zc cls d oe → (∃ vs, oe.data = .fields vs) → PSs (X.suite a ((a, oe) :: pn)) (st :: su) (ts a cls d)) (r : HA X hds l) :
      HA X (.ExceptHandler (some (.Name x p)) (some n) (st :: su) q :: hds) ((c, i, ts) :: l)
section
variable {X : Cx} {body : List Stmt} {h₀ : ExceptHandler} {hds : List ExceptHandler} {l : List (Value × Nat × Su)} {pos : Pos} {tb : WX → TS} {Wout : WX} {pins : List (Addr × Obj)} {σ : L2.St} {H : Hp} {D : Ends}
/-- one that has been caught here, and stands on its own ground -/
structure Caught (X : Cx) (pins : List (Addr × Obj)) (σ : L2.St) (H : Hp) (a : Addr) (cls : Value) (d : Option Addr) (sI s' : Shared) (B h : Heap) : Prop where
  inv : Inv X pins σ H sI
  nb : ∀ b o, sI.heap.get? b = some o → b ∉ frs X.stack → B.get? b = some o
  up : sI.heap.UpToSlots h
  os : s'.os = sI.os
  ag : AllBare s'.gens
  na : H a = none
  fly : HandSPX.FlyingZ B (X.env :: X.outer) a (Zc cls d) h
theorem Caught.back {a : Addr} {cls : Value} {d : Option Addr} {sI s' : Shared} {B h : Heap} (c : Caught X pins σ H a cls d sI s' B h) : Inv X pins σ H { s' with heap := h } := c.inv.landed c.nb c.fly.1 c.up c.os c.ag
theorem Caught.apart {a : Addr} {cls : Value} {d : Option Addr} {sI s' : Shared} {B h : Heap} (c : Caught X pins σ H a cls d sI s' B h) (hf : X.env.frame = some X.env.locals) : a ≠ X.env.locals ∧ a ∉ X.fs := by
  obtain ⟨oe, vs, he, _, hd⟩ := c.fly.there
  have out : a ∉ frs (X.env :: X.outer) := fun z => by
    obtain ⟨_, o2, e2, no⟩ := c.fly.2.2.1.mem z
    rw [he] at e2
    cases e2
    exact no _ hd
  exact ⟨fun z => out (List.mem_filterMap.mpr ⟨X.env, by simp, by rw [hf, z]⟩), fun z => by
    obtain ⟨e1, m1, q1⟩ := List.mem_filterMap.mp z
    exact out (List.mem_filterMap.mpr ⟨e1, by simp [m1], q1⟩)⟩
theorem Caught.handle {a : Addr} {cls : Value} {d : Option Addr} {sI s' : Shared} {B : Heap} (hs : X.stack = X.env :: X.outer) (hf : X.env.frame = some X.env.locals) (hN : X.N.Nodup) (tk : Takes X Wout) (ok : X.Ok) :
    ∀ {hds : List ExceptHandler} {l : List (Value × Nat × Su)}, HA X hds l → ∀ {h : Heap}, Caught X pins σ H a cls d sI s' B h → wAll X.K Wout D l cls d σ H →
      wpAny (model X.prog X.w) X.A (handleBy (.ref a) X.env hds) (SP X pins D) X.xe { s' with heap := h } := by
  intro hds l hk
  induction hk with
  | nil =>
    intro h c w
    refine wpAny_handleBy_nil ?_
    have fl := c.fly
    obtain ⟨_, _, _, _, _, T, _, _, eo, _, dd, f1, _⟩ := id fl
    have away : wpAny (model X.prog X.w) X.A (setFlight (.ref a) X.env.frame) (fun _ s4 => wpAny (model X.prog X.w) X.A (throw (.ref a) : Sem Flow) (SP X pins D) X.xe s4) X.xe { s' with heap := h } := by
      rw [hf]
      refine HandSPX.setFlight_upZ fl fun h2 held up2 => wpAny_throw (tk _ _ ?_)
      refine ⟨a, B, sI, pins, σ, H, cls, d, rfl, c.inv, c.nb, c.up.trans up2, .inr (.inr ?_), c.na, c.os, c.ag, w⟩
      rw [hs]
      exact held
    unfold PySem.passOn
    refine wpAny_bind (wpAny_field eo dd f1 ?_)
    rw [if_neg (by simp)]
    first
      | exact wpAny_bind away
      | exact wpAny_bind (wpAny_pure (wpAny_bind away))
  | @cons x n cv i ts st su p q hds2 l2 hc hi hl run r ih =>
    intro h c w
    obtain ⟨yes, e1, no, go⟩ := w
    have fl := c.fly
    obtain ⟨nL, nF⟩ := c.apart hf
    obtain ⟨oe, vs, he, hz, hd⟩ := fl.there
    have S3 := c.back.suite he hd c.na nL nF
    refine wpAny_handleBy_cons (codeAny_handlers_test ?_) (fun z => nomatch z)
    have ty : PySem.W.Looks (model X.prog X.w) h (typeOf (.ref a)) cls := fun _ _ _ _ k y => wpAny_typeOf_ref (k _ _ he) (by rw [hz.1]; exact y)
    have said := PySem.W.exm_one (M := model X.prog X.w) c.back.kIn ty e1
    have seen : ∀ {Q E : Value → Shared → Prop}, Q cv { s' with heap := h } → wpAny (model X.prog X.w) (X.A.mark (some (.ref a))) (eval (.Name x p) X.env) Q E { s' with heap := h } := fun {Q E} y => by
      obtain ⟨g1, g2, g3 | ⟨g3, g4, g5⟩⟩ := hc
      · exact ld_glob (X := X.suite a ((a, oe) :: (X.pn ++ pins))) S3 g1 g3 y g2
      · exact ld_blt (X := X.suite a ((a, oe) :: (X.pn ++ pins))) S3 g1 g3 g4 y g5 g2
    refine seen (said.here ?_)
    cases yes with
    | false =>
      show wpAny _ X.A (handleBy (.ref a) X.env hds2) _ _ _
      exact ih c (no rfl)
    | true =>
      refine codeAny_handlers_suite_as (HandSPX.lands_againZ fl fun h2 fl2 up2 => ?_)
      have c2 : Caught X pins σ H a cls d sI s' B h2 := { c with up := c.up.trans up2, fly := fl2 }
      obtain ⟨o2, _, he2, hz2, hd2⟩ := fl2.there
      refine store_ok (X := X.suite a ((a, o2) :: (X.pn ++ pins))) (v := .ref a) (c2.back.suite he2 hd2 c.na nL nF) hN hi (.inl hl) rfl (fun s5 S5 => ?_) (.inr hl)
      refine wpAny_mono ((run a o2 cls d (X.pn ++ pins) hz2 ⟨_, hd2⟩).run [] s5 _ H _ S5 (go rfl a c.na)) (fun f s6 sp => ?_) (fun _ _ z => z.elim)
      have done : ∀ {σ6 : L2.St} {H6 : Hp} {Z : Shared → Prop}, Inv (X.suite a ((a, o2) :: (X.pn ++ pins))) [] σ6 H6 s6 → (∀ s7, Inv X pins (σ6.set i none) H6 s7 → Z s7) → wpAny (model X.prog X.w) X.A (do bindName X.env n .none; unbindBehindTheSuite X.env n q) (fun _ s7 => Z s7) X.xe s6 :=
        fun {σ6 H6 Z} S6 z => gone_ok (S6.unsuite ok) hN hi hl z
      cases f with
      | ret u => obtain ⟨v6, σ6, H6, S6, r6, q6⟩ := sp; exact done S6 fun s7 J7 => ⟨_, _, _, J7, r6, q6⟩
      | next => obtain ⟨σ6, H6, S6, q6⟩ := sp; exact done S6 fun s7 J7 => ⟨_, _, J7, q6⟩
      | brk => obtain ⟨σ6, H6, S6, q6⟩ := sp; exact done S6 fun s7 J7 => ⟨_, _, J7, q6⟩
      | cont => obtain ⟨σ6, H6, S6, q6⟩ := sp; exact done S6 fun s7 J7 => ⟨_, _, J7, q6⟩
theorem ps_try_all (hs : X.stack = X.env :: X.outer) (hf : X.env.frame = some X.env.locals) (hN : X.N.Nodup) (tk : Takes X Wout)
    (hb : ∀ (W : WX) (pn : List (Addr × Obj)) (xe : Value → Shared → Prop), Takes (X.tr pn xe) W → PSs (X.tr pn xe) body (tb W))
    (hh : HA X (h₀ :: hds) l) : PS X (.Try body (h₀ :: hds) [] [] pos) (fun D σ H => tb (wAll X.K Wout D l) D σ H) := by
  refine ⟨fun pins s σ H D I h => wpAny_Try_except ?_⟩
  have ok := I.ok
  have fr : X.A.frames = some (X.env :: X.outer) := ok.frames.trans (by rw [hs])
  refine wpAny_mono ((hb (wAll X.K Wout D l) (X.pn ++ pins) (fun e s₁ => wpAny (model X.prog X.w) X.A (noteFrame e X.env) (fun _ s₂ => wpAny (model X.prog X.w) X.A (setFlight e none) (fun _ s₃ =>
    wpAny (model X.prog X.w) X.A (handleBy e X.env (h₀ :: hds)) (SP X pins D) X.xe s₃) X.xe s₂) X.xe s₁) (fun u s' air => ?_)).run [] s σ H D (I.toTry _) h) (fun f s1 sp => ?_) (fun e s1 z => z)
  · obtain ⟨a, B, sI, p1, σ1, H1, cls, d, rfl, J, nb, up, sky, na, os, ag, w⟩ := air
    rw [hs] at sky
    show wpAny (model X.prog X.w) X.A (noteFrame (.ref a) X.env) _ _ _
    exact Sky.land Zc.steady fr hf sky fun h3 fl3 up3 => Caught.handle hs hf hN tk ok hh (B := B) (sI := sI) (s' := s') ⟨J.ofTry ok, nb, up.trans up3, os, ag, na, fl3⟩ w
  · cases f with
    | ret u => obtain ⟨v, σ1, H1, J, r, q⟩ := sp; exact ⟨v, σ1, H1, J.ofTry ok, r, q⟩
    | next => obtain ⟨σ1, H1, J, q⟩ := sp; exact wpAny_execs_nil ⟨σ1, H1, J.ofTry ok, q⟩
    | brk => obtain ⟨σ1, H1, J, q⟩ := sp; exact ⟨σ1, H1, J.ofTry ok, q⟩
    | cont => obtain ⟨σ1, H1, J, q⟩ := sp; exact ⟨σ1, H1, J.ofTry ok, q⟩
end
end AN

set_option Elab.async false
set_option maxRecDepth 100000
set_option autoImplicit false
set_option linter.unusedVariables false
/-! try and its clauses, read plainly; a clause's suite is one return -/
namespace AN
open PySem L2
structure Hnd where
  cs : String → Option Bool
  slot : Nat
  su : String → D → M Fl
def retOnly : R Fl → R Fl
  | .ok (.rt d) e => .ok (.rt d) e
  | .ok (.ro o) e => .ok (.ro o) e
  | _ => .bad
def handle (c : String) (d : D) : List Hnd → Env → R Fl
  | [], e => .exc c d e
  | h :: hs, e => match h.cs c with
    | some true => (match e[h.slot]? with
      | some (.ow true _) => .bad
      | some _ => retOnly (h.su c d (e.set h.slot .no))
      | none => .bad)
    | some false => handle c d hs e
    | none => .bad
def mTry (mb : M Fl) (hs : List Hnd) : M Fl := fun env => match mb env with
  | .exc c d e => handle c d hs e
  | r => r
/-- the exception that a suite holds -/
structure Cau (B : Bx) (i : Nat) (a : Addr) (C dx : Addr) (c : String) (d : D) (σ : St) (F : Hp) : Prop where
  slot : σ[i]? = some (some (.ref a))
  has : ∃ fld v, B.exc c = some (C, fld) ∧ F dx = some (.xd [(fld, v)]) ∧ Rep B F d v
theorem Cau.mono {B : Bx} {i : Nat} {a C dx : Addr} {c : String} {d : D} {σ : St} {F F' : Hp} (l : Le F F') (h : Cau B i a C dx c d σ F) : Cau B i a C dx c d σ F' := by
  obtain ⟨s, fld, v, e, x, r⟩ := h
  exact ⟨s, fld, v, e, l _ _ x, Rep.mono l _ _ r⟩
def tSu (B : Bx) (i : Nat) (su : String → D → M Fl) : Su := fun a cls dx D σ H => ∃ c d C dd F env, cls = .ref C ∧ dx = some dd ∧ Cau B i a C dd c d σ F ∧ Sim B F env σ H ∧ PostS B WF F env σ H D (retOnly (su c d env))
inductive HL (B : Bx) (X : Cx) : List ExceptHandler → List Hnd → List (Value × Nat × Su) → Prop
  | nil : HL B X [] [] []
  | cons {x n : Str} {cv : Value} {h : Hnd} {st : Stmt} {su : List Stmt} {p q : Pos} {hds : List ExceptHandler} {hs : List Hnd} {l : List (Value × Nat × Su)} (hc : Names X x cv) (hi : X.N[h.slot]? = some n) (hl : X.env.kindOf n = some .local)
      (hcs : ∀ c b, h.cs c = some b → ∃ C fld, B.exc c = some (C, fld) ∧ PySem.W.exmOne X.K (.ref C) cv = some b)
      (run : ∀ (a : Addr) (oe : Obj) (cls : Value) (d : Option Addr) (pn : List (Addr × Obj)), Zc cls d oe → (∃ vs, oe.data = .fields vs) → PSs (X.suite a ((a, oe) :: pn)) (st :: su) (tSu B h.slot h.su a cls d)) (r : HL B X hds hs l) :
      HL B X (.ExceptHandler (some (.Name x p)) (some n) (st :: su) q :: hds) (h :: hs) ((cv, h.slot, tSu B h.slot h.su) :: l)
section
variable {B : Bx} {X : Cx} {W : WX} {F H F1 H1 : Hp} {env e1 : Env} {σ σ1 : St} {D : Ends}
theorem HL.ha {hds : List ExceptHandler} {hs : List Hnd} {l : List (Value × Nat × Su)} (h : HL B X hds hs l) : HA X hds l := by
  induction h with
  | nil => exact .nil
  | cons hc hi hl _ run _ ih => exact .cons hc hi hl run ih
theorem PostS.ret {D D' : Ends} {W' : WX} {r : R Fl} (hd : D'.rt = D.rt) (h : PostS B W F env σ H D (retOnly r)) : PostS B W' F env σ H D' (retOnly r) := by
  cases r with
  | bad => exact h
  | exc c d e => exact h
  | ok f e =>
    cases f with
    | nx => exact h
    | bk => exact h
    | ct => exact h
    | rt d =>
      show ∀ v σ' F' H', _ → _ → D'.rt v H'
      rw [hd]; exact h
    | ro o =>
      show ∀ p σ' F' H', _ → _ → _ → _ → _ → D'.rt (.ref p) H'
      rw [hd]; exact h
/-- the exception's dict joins the data, and its name the slots -/
theorem Go.caught {i : Nat} {a dx : Addr} {fs : List (Str × V)} (g : Go B F env σ H F1 e1 σ1 H1) (hd : H1 dx = some (.xd fs)) (hf : F1 dx = none) (h0 : H dx = none) (hp : ∀ o, e1[i]? ≠ some (.ow true o)) (na : H1 a = none) :
    Go B F env σ H (upd F1 dx (.xd fs)) (e1.set i .no) (σ1.set i (some (.ref a))) H1 where
  step := ⟨g.step.le.trans (Le.upd hf), g.step.keep, fun b u q => by
    by_cases hb : b = dx
    · subst hb; exact .inr (.inl h0)
    · rw [upd_ne hb] at q; exact g.step.new b u q, g.step.stay⟩
  sim := by
    have l : Le F1 (upd F1 dx (.xd fs)) := Le.upd hf
    refine ⟨fun b u q => ?_, by rw [List.length_set, List.length_set]; exact g.sim.len, fun j d q => ?_, fun j k o q => ?_, fun j j' k o k' o' p q1 q2 z1 z2 => ?_⟩
    · by_cases hb : b = dx
      · subst hb; rw [upd_same] at q; cases q; exact .inl hd
      · rw [upd_ne hb] at q; exact g.sim.hold b u q
    · rcases getElem?_setS q with ⟨_, e⟩ | ⟨ne, e⟩
      · cases e
      · obtain ⟨v, z, r⟩ := g.sim.fz j d e
        exact ⟨v, by rw [List.getElem?_set_ne ne]; exact z, Rep.mono l _ _ r⟩
    · rcases getElem?_setS q with ⟨_, e⟩ | ⟨ne, e⟩
      · cases e
      · obtain ⟨p, z, fp, r⟩ := g.sim.ow j k o e
        have np : p ≠ dx := fun y => by
          subst y
          cases o with
          | lst xs => obtain ⟨_, vs, e', _⟩ := r; rw [hd] at e'; cases e'
          | dic xs => obtain ⟨_, vs, e', _⟩ := r; rw [hd] at e'; cases e'
          | obj c fs => obtain ⟨C, dd, gs, _, e', _⟩ := r; rw [hd] at e'; cases e'
        exact ⟨p, by rw [List.getElem?_set_ne ne]; exact z, by rw [upd_ne np]; exact fp, r.mono l (fun u h => h)⟩
    · rcases getElem?_setS q1 with ⟨_, e⟩ | ⟨n1, e1'⟩
      · cases e
      rcases getElem?_setS q2 with ⟨_, e⟩ | ⟨n2, e2'⟩
      · cases e
      rw [List.getElem?_set_ne n1] at z1
      rw [List.getElem?_set_ne n2] at z2
      exact g.sim.sep j j' k o k' o' p e1' e2' z1 z2
  own := fun b ⟨j, o, q, z⟩ => by
    rcases getElem?_setS q with ⟨_, e⟩ | ⟨ne, e⟩
    · cases e
    · rw [List.getElem?_set_ne ne] at z; exact g.own b ⟨j, o, e, z⟩
  pin := fun j o q => by
    obtain ⟨⟨o', e⟩, z⟩ := g.pin j o q
    have ne : i ≠ j := fun y => by subst y; exact hp o' e
    exact ⟨⟨o', by rw [List.getElem?_set_ne ne]; exact e⟩, by rw [List.getElem?_set_ne ne]; exact z⟩
  unpin := fun j o q => by
    rcases getElem?_setS q with ⟨_, e⟩ | ⟨ne, e⟩
    · cases e
    · exact g.unpin j o e
  len := by rw [List.length_set]; exact g.len
theorem handle_ok {c : String} {d : AN.D} {hds : List ExceptHandler} {hs : List Hnd} {l : List (Value × Nat × Su)} (hl : HL B X hds hs l) : PostS B W F env σ H D (handle c d hs e1) →
    ∃ C fld, B.exc c = some (C, fld) ∧ ∀ σ' F' H' dx v, Go B F env σ H F' e1 σ' H' → H' dx = some (.xd [(fld, v)]) → F' dx = none → H dx = none → Rep B F' d v → wAll X.K W D l (.ref C) (some dx) σ' H' := by
  induction hl with
  | nil => exact fun h => h
  | @cons x n cv h st su p q hds hs l hc hi hl hcs run r ih =>
    intro k
    unfold handle at k
    cases e : h.cs c with
    | none => rw [e] at k; exact k.elim
    | some b =>
      rw [e] at k
      obtain ⟨C, fld, hx, he⟩ := hcs c b e
      cases b with
      | false =>
        obtain ⟨C', fld', hx', go⟩ := ih k
        rw [hx] at hx'; cases hx'
        exact ⟨C, fld, hx, fun σ' F' H' dx v g a1 a2 a3 a4 => ⟨false, he, fun _ => go σ' F' H' dx v g a1 a2 a3 a4, fun z => nomatch z⟩⟩
      | true =>
        refine ⟨C, fld, hx, fun σ' F' H' dx v g a1 a2 a3 a4 => ⟨true, he, fun z => (nomatch z), fun _ a na => ?_⟩⟩
        dsimp only at k
        have key : (∀ o, e1[h.slot]? ≠ some (.ow true o)) ∧ h.slot < e1.length ∧ PostS B W F env σ H D (retOnly (h.su c d (e1.set h.slot .no))) := by
          cases q : e1[h.slot]? with
          | none => rw [q] at k; exact k.elim
          | some s =>
            have lt := (List.getElem?_eq_some_iff.mp q).1
            rw [q] at k
            cases s with
            | no => exact ⟨fun o => (fun z => by cases z), lt, k⟩
            | fz _ => exact ⟨fun o => (fun z => by cases z), lt, k⟩
            | ow b o =>
              cases b with
              | true => exact k.elim
              | false => exact ⟨fun o => (fun z => by cases z), lt, k⟩
        obtain ⟨np, lt, k⟩ := key
        have g2 := g.caught (i := h.slot) (a := a) a1 a2 a3 np na
        have lt' : h.slot < σ'.length := by rw [← g.sim.len]; exact lt
        refine ⟨c, d, C, dx, _, _, rfl, rfl, ⟨by rw [List.getElem?_set_self lt'], fld, v, hx, upd_same, Rep.mono (Le.upd a2) _ _ a4⟩, g2.sim, PostS.ret (D := D) (W := W) rfl (PostS.from k g2)⟩
theorem ds_try {h₀ : ExceptHandler} {hds : List ExceptHandler} {hs : List Hnd} {l : List (Value × Nat × Su)} {body : List Stmt} {mb : M Fl} {pos : Pos} (hst : X.stack = X.env :: X.outer) (hf : X.env.frame = some X.env.locals) (hN : X.N.Nodup) (tk : Takes X W)
    (hb : ∀ (W : WX) (pn : List (Addr × Obj)) (xe : Value → Shared → Prop), Takes (X.tr pn xe) W → DSs B (X.tr pn xe) W body mb) (hh : HL B X (h₀ :: hds) hs l) : DS B X W (.Try body (h₀ :: hds) [] [] pos) (mTry mb hs) :=
  PS.imp (ps_try_all (tb := fun W => tS B W mb) hst hf hN tk hb hh.ha) fun D σ H h => by
    obtain ⟨F, env, S, h⟩ := h
    refine ⟨F, env, S, ?_⟩
    unfold mTry at h
    cases q : mb env with
    | bad => rw [q] at h; exact h
    | ok f e =>
      rw [q] at h
      cases f <;> exact h
    | exc c d e =>
      rw [q] at h
      exact handle_ok hh h
/-! ### what a suite returns -/
def tEP (B : Bx) (P : St → Hp → Prop) (m : M Opd) : TE := fun σ H Q => ∃ F env, P σ F ∧ Sim B F env σ H ∧ Post B WF F env σ H (fun r _ F' H' => ∀ v, OpdRel B F' σ v r → Q v H') (m env)
def tOP (B : Bx) (P : St → Hp → Prop) (m : M O) : TE := fun σ H Q => ∃ F env, P σ F ∧ Sim B F env σ H ∧ Post B WF F env σ H (fun o _ F' H' => ∀ p, H p = none → F' p = none → OAt B F' H' p o → Q (.ref p) H') (m env)
def tAP (B : Bx) (P : St → Hp → Prop) (m : M (List Opd)) : TA := fun σ H Q => ∃ F env, P σ F ∧ Sim B F env σ H ∧ Post B WF F env σ H (fun rs _ F' H' => ∀ vs, OpdsRel B F' σ vs rs → Q vs H') (m env)
variable {P : St → Hp → Prop} {e : Expr} {es : List Expr} {ma : M Opd} {ms : M (List Opd)} {pos : Pos}
theorem xp_of (h : DE B X WF e ma) : PE X e (tEP B P ma) := PE.imp h fun σ H Q ⟨F, env, _, S, k⟩ => ⟨F, env, S, k⟩
theorem xa0 : PA X [] (tAP B P mA0) := PA.imp pa_nil fun σ H Q h => by
  obtain ⟨F, env, _, S, h⟩ := h
  exact Post.here S h [] .nil
theorem xa (hP : ∀ σ F F', Le F F' → P σ F → P σ F') (ha : PE X e (tEP B P ma)) (hr : PA X es (tAP B P ms)) (hs : starEach (e :: es) X.env = (false, eval e X.env) :: starEach es X.env := by rfl) : PA X (e :: es) (tAP B P (mA ma ms)) :=
  PA.imp (pa_cons ha hr hs) fun σ H Q h => by
    obtain ⟨F, env, p, S, h⟩ := h
    refine ⟨F, env, p, S, (Post.bind S h).mono fun x e1 F1 H1 s1 m1 o1 k1 v rv => ⟨F1, e1, hP _ _ _ s1.le p, m1, (Post.bind m1 k1).mono fun xs e2 F2 H2 s2 m2 o2 k2 vs rvs => ?_⟩⟩
    exact Post.here m2 k2 (v :: vs) (.cons (rv.mono s2.le) rvs)
theorem xo_lst (h : PA X es (tAP B P ms)) : PE X (.List es pos) (tOP B P (mLst ms)) := PE.imp (pe_lst h) fun σ H Q h => by
  obtain ⟨F, env, p, S, h⟩ := h
  refine ⟨F, env, p, S, (Post.bind S h).mono fun xs e1 F1 H1 s1 m1 o1 k1 vs rvs => ?_⟩
  obtain ⟨ds, e2, F2, s2, m2, o2, r2, k2⟩ := m1.frzs rvs (Post.bind m1 k1)
  obtain ⟨hz, k2⟩ := k2.lim
  refine ⟨by rw [r2.length]; exact hz, fun p hp => ?_⟩
  obtain ⟨s3, h3⟩ := step0_mk (u := .lst vs) m2.hold hp
  exact k2 _ _ s3.any (m2.step0 s3 h3) (EnvLe.refl _) p (s1.back hp) (m2.hold.none hp) ⟨hz, vs, upd_same, r2⟩
end
end AN

set_option Elab.async false
set_option maxRecDepth 100000
set_option autoImplicit false
set_option linter.unusedVariables false
/-! defs that are only called where nothing is being shown (repr of containers is then as it stands) -/
namespace AN
open PySem PySem.Spec PyProof.Rows L2
structure FnG (P : Program) (w : World) (K : PySem.W.Frag) (mg : Str → Option Value) (base : Heap) (k : Nat) (f : Addr) (fd : FuncData) (ps : List Str) (sp : Sp) : Prop where
  len : ∀ vs H Q E, sp vs H Q E → vs.length = ps.length
  go : ∀ (A : Around) (outer : List PySem.Env) (s : Shared) (H : Hp) (args : Args) (us : List Value) (vs : List V) (Q : VK) (E : XK), Room k A → A.guards = some [] → Env0 P w K mg base A outer s H → BindsTo s fd args (ps.zip us) →
    Vals vs us → sp vs H Q E → codeAny (model P w) A (.call (.ref f) args) (CR (L2.CX P w) outer P w H s Q E) s
section
variable {P : Program} {w : World} {K : PySem.W.Frag} {mg : Str → Option Value} {base : Heap} {k : Nat} {f : Addr} {fd : FuncData} {ps : List Str} {sp : Sp}
theorem FnG.of (F : FnOk P w K mg base (L2.CX P w) k f fd ps sp) : FnG P w K mg base k f fd ps sp := ⟨F.len, fun A outer s H args us vs Q E r _ => F.run A outer s H args us vs Q E r⟩
theorem FnG.imp {sp' : Sp} (F : FnG P w K mg base k f fd ps sp) (h : ∀ vs H Q E, sp' vs H Q E → sp vs H Q E) : FnG P w K mg base k f fd ps sp' :=
  ⟨fun vs H Q E q => F.len vs H Q E (h _ _ _ _ q), fun A outer s H args us vs Q E r g e b v q => F.go A outer s H args us vs Q E r g e b v (h _ _ _ _ q)⟩
theorem fnG_of {x qual : Str} {st : Stmt} {N : List Str} (Fd : Fun K x qual st f fd) (S : FnScope N ps (defScope st)) (len : ∀ vs H Q E, sp vs H Q E → vs.length = ps.length)
    (hbody : ∀ (cdv : Value) (A : Around) (outer : List PySem.Env) (s : Shared) (H : Hp) (vs : List V) (Q : VK) (E : XK), Room k (A.deeper (envOfC qual (defScope st) s.heap.objs.size f cdv)) → A.guards = some [] → sp vs H Q E →
      ∃ t, PSs (cxOf (L2.CX P w) P w K mg base N qual (defScope st) f cdv A outer s H E) (defBody st) t ∧ t { nx := fun _ H' => Q .non H', rt := Q } (start N vs) H) : FnG P w K mg base (k + 1) f fd ps sp := by
  obtain ⟨oc, od, kV, doc, pm, an, cdv, ct, osl, rfl, lk, hcd⟩ := Fd.ex
  refine ⟨len, fun A outer s H args us vs Q E room gd e0 bind vals q => ?_⟩
  have kin : K.In s.heap := e0.mod.kin.keeps fun b o z => (e0.bs b o z).1
  have kinds : ∀ y ∈ ps.zip us, (defScope st).names.lookup y.1 = some .local ∨ ((defScope st).names.lookup y.1 = some .cell ∧ ((cellsFrom (s.heap.objs.size + 1) (defScope st).names []).lookup y.1).isSome = true) := by
    rintro ⟨n, v⟩ hy
    exact (S.par n (List.of_mem_zip hy).1).imp id fun z => ⟨z, PySem.W.cellsFrom_some _ _ _ (.inl z)⟩
  refine codeAny_call_function room.depth (kin _ _ lk) rfl S.co S.gen rfl (PySem.W.codeRec_of kin hcd) (bind _ _ _ _ (wpAny_newFunctionEnv_cells S.kind kinds fun env he s1 x => ?_))
  subst he
  refine ⟨(e0.mod.nolimit.keeps fun b o z => (e0.bs b o z).1).keeps x.toInCall.keep, codeAny_func ?_⟩
  obtain ⟨t, ht, hq⟩ := hbody cdv A outer s H vs Q E (room.deeper _) gd q
  have I : Inv (cxOf (L2.CX P w) P w K mg base N qual (defScope st) f cdv A outer s H E) [] (start N vs) H s1 := inv_start S room.hd e0 (len _ _ _ _ q) vals x
  have out : ∀ {σ' : L2.St} {H' : Hp} {v : V} {u : Value} {s' : Shared}, Inv (cxOf (L2.CX P w) P w K mg base N qual (defScope st) f cdv A outer s H E) [] σ' H' s' → RelV v u → Q v H' → CE outer P w H s Q u s' :=
    fun {σ' H' v u s'} J rv z => ⟨v, H', J.os, J.bare, J.base, J.hok, rv, z⟩
  refine wpAny_mono (ht.run [] s1 (start N vs) H _ I hq) (fun fl s' z => ?_) fun e s' z => z
  cases fl with
  | ret u => obtain ⟨v, σ', H', J, rv, y⟩ := z; exact out J rv y
  | next => obtain ⟨σ', H', J, y⟩ := z; exact out (v := V.non) (u := Value.none) J rfl y
  | brk => obtain ⟨_, _, _, y⟩ := z; exact y.elim
  | cont => obtain ⟨_, _, _, y⟩ := z; exact y.elim
end
section
variable {X : Cx} {k : Nat} {f : Addr} {fd : FuncData} {ps : List Str} {sp : Sp} {E : L2.St → XK} {x : Str} {p pos : Pos} {e : Expr} {es : List Expr} {t : TA}
theorem pe_callG (F : FnG X.prog X.w X.K X.mg X.base k f fd ps sp) (hr : Room k X.A) (gd : X.A.guards = some []) (hg : Gl X x) (hm : X.mg x = some (.ref f)) (hk : PySem.W.keepIn X.K (.ref f) = true) (hb : Binds X.K fd ps []) (hx : ∀ σ, PassesAt (L2.CX X.prog X.w) X σ (E σ))
    (ha : PA X (e :: es) t) (hdb : (x == ("__debug__" : Str)) = false := by decide) (he : starEach (e :: es) X.env = (false, eval e X.env) :: starEach es X.env := by rfl) (hpl : (backTo pos (starEach es X.env)).any (·.1) = false := by rfl) :
    PE X (.Call (.Name x p) (e :: es) [] pos) (tCallS sp E t) := by
  refine ⟨fun pins s σ H Q I h => wpAny_Call_Name_kw (ld_glob I hg hm ?_ hdb)⟩
  refine PySem.W.callWith_K (h₀ := X.base) I.ok.mod.kin hk (thn (ha.run pos pins s σ H _ I h) fun us s1 ⟨vs, H1, I1, r, q⟩ => ⟨I1.kIn, ?_⟩) he hpl
  have b := hb s1 us I1.kIn (by rw [List.append_nil, ← r.length]; exact F.len _ _ _ _ q)
  rw [List.append_nil] at b
  refine wpAny_call (codeAny_mono (F.go X.A X.stack s1 H1 ⟨us, []⟩ us vs Q (E σ) hr gd I1.env0 b r q) fun z s' y => ?_)
  cases z with
  | error u => exact hx σ pins H1 s1 u s' I1 y
  | ok fl =>
    cases fl with
    | ret u => exact I1.after y
    | next => exact y.elim
    | brk => exact y.elim
    | cont => exact y.elim
end
open L2
section
variable {B : Bx} {P : Program} {w : World} {K : PySem.W.Frag} {mg : Str → Option Value} {base : Heap}
/-- THE RULE for a def, where nothing is being shown -/
theorem fn_okG {x qual : Str} {st : Stmt} {f : Addr} {fd : FuncData} {N ps : List Str} {k n : Nat} {m : M Fl} (Fd : Fun K x qual st f fd) (S : FnScope N ps (defScope st)) (hn : N.length - ps.length = n) (hnp : ps.length ≤ N.length)
    (hbody : ∀ (cdv : Value) (A : Around) (outer : List PySem.Env) (s : Shared) (H : Hp) (E : XK), Room k (A.deeper (envOfC qual (defScope st) s.heap.objs.size f cdv)) → A.guards = some [] →
      Takes (cxOf (L2.CX P w) P w K mg base N qual (defScope st) f cdv A outer s H E) (fun cls d _ H => E cls d H) →
      PassesOwn (model P w) (A.deeper (envOfC qual (defScope st) s.heap.objs.size f cdv)) (envOfC qual (defScope st) s.heap.objs.size f cdv) (cxOf (L2.CX P w) P w K mg base N qual (defScope st) f cdv A outer s H E).xe →
      DSs B (cxOf (L2.CX P w) P w K mg base N qual (defScope st) f cdv A outer s H E) (fun cls d _ H => E cls d H) (defBody st) m) :
    FnG P w K mg base (k + 1) f fd ps (spOf B ps.length (runF n m)) := by
  refine fnG_of Fd S (fun vs H Q E h => h.1) fun cdv A outer s H vs Q E hr gd h => ?_
  exact ⟨_, hbody cdv A outer s H E hr gd (takes_of rfl rfl rfl rfl) (passes_of rfl), spOf_body hn h⟩
end
end AN

set_option Elab.async false
set_option maxRecDepth 100000
set_option autoImplicit false
set_option linter.unusedVariables false
namespace AN
open PySem PySem.Spec PyProof.Rows L2
/-- the law's def, called by the claim: nothing is being shown there -/
theorem law_callG {P : Program} {w : World} {K : PySem.W.Frag} {mg mb : Str → Option Value} {k : Nat} {fa a : Addr} {fd : FuncData} {x : Str} {sp : Sp} {s₁ : Shared} {vs : List Value} {ns : List Int}
    (KX : K.In s₁.heap) (hns : s₁.heap.Ns mainGlobals mg) (hb : s₁.heap.Ns builtinsNs mb) (hbb : ∀ y : Str, y ≠ "__name__" → mb y = bootBuiltins y) (hlim : s₁.heap.NoLimit) (hg : s₁.gens = #[])
    (ha : s₁.heap.get? a = some { cls := .type "list", data := .seq vs.toArray }) (hi : IntsAre vs ns) (hl : ns.length ≤ sizeLine) (hr : Room k callerA)
    (F : ∀ base : Heap, K.In base → base.Ns mainGlobals mg → FnG P w K mg base k fa fd [x] sp) (bind : ∀ (s : Shared) (u : Value), BindsTo s fd ⟨[u], []⟩ [(x, u)])
    (hsp : ∀ H : Hp, Only H → SqL K H a (ns.map V.int) → sp [.ref a] H (fun v _ => v = .bl true) fun _ _ _ => False)
    (no : ∀ H e s', L2.CX P w [] H s₁ (fun _ _ _ => False) e s' → False) :
    codeAny (model P w) callerA (.call (.ref fa) ⟨[.ref a], []⟩) (fun r s' => r = .ok (.ret (.bool true)) ∧ OldK s₁.heap s'.heap ∧ s'.os = s₁.os ∧ AllBare s'.gens) s₁ := by
  have main : ∀ H : Hp, Only H → SqL K H a (ns.map V.int) → HOk P w H s₁.heap → (∀ b u, H b = some u → b = a ∧ K.lookup a = none) →
      codeAny (model P w) callerA (.call (.ref fa) ⟨[.ref a], []⟩) (fun r s' => r = .ok (.ret (.bool true)) ∧ OldK s₁.heap s'.heap ∧ s'.os = s₁.os ∧ AllBare s'.gens) s₁ := by
    intro H only sq hok just
    have dicts : ∀ {b : Addr} {o : Obj} {es : Array DictEntry} {ep : Nat}, s₁.heap.get? b = some o → o.data = .dict es ep → H b = none := by
      intro b o es ep e1 e2
      cases q : H b with
      | none => rfl
      | some u =>
        obtain ⟨rfl, _⟩ := just b u q
        rw [ha] at e1
        cases e1
        cases (show Data.seq vs.toArray _ = Data.dict es ep from e2)
    have ns' : ∀ {b : Addr} {m : Str → Option Value}, s₁.heap.Ns b m → (hidT s₁.heap H).Ns b m := by
      rintro b m ⟨o, es, ep, e1, e2, r⟩
      exact ⟨o, es, ep, hidT_get e1 (dicts e1 e2), e2, r⟩
    have kin : K.In (hidT s₁.heap H) := fun b o e => hidT_get (KX b o e) (by
      cases q : H b with
      | none => rfl
      | some u =>
        obtain ⟨rfl, z⟩ := just b u q
        rw [z] at e
        cases e)
    have lim : (hidT s₁.heap H).NoLimit := by
      obtain ⟨mc, l1, l2⟩ := hlim
      exact ⟨mc, ns' l1, l2⟩
    have e0 : Env0 P w K mg (hidT s₁.heap H) callerA [] s₁ H := ⟨rfl, ⟨kin, ns' hns, ⟨mb, ns' hb, hbb⟩, lim⟩, fun b o e => of_hidT e, Nat.le_of_eq (hidT_size _ _), trivial, fun b z => (nomatch (show b ∈ ([] : List Addr) from z)), hok, .of_eq hg⟩
    refine codeAny_mono ((F _ kin (ns' hns)).go callerA [] s₁ H ⟨[.ref a], []⟩ [.ref a] [.ref a] _ _ hr rfl e0 (bind s₁ (.ref a)) (.cons rfl .nil) (hsp H only sq)) fun r s' y => ?_
    cases r with
    | error e => exact (no H e s' y).elim
    | ok fl =>
      cases fl with
      | next => exact y.elim
      | brk => exact y.elim
      | cont => exact y.elim
      | ret u =>
        obtain ⟨v, H', os, bare, un, hok', rv, q⟩ := y
        cases (show v = .bl true from q)
        cases (show u = Value.bool true from rv)
        refine ⟨rfl, OldK.of_keep fun b o e => ?_, os, bare⟩
        rcases only b with z | ⟨ob, xs, z⟩
        · exact un.keep b o e z (fun y => nomatch (show b ∈ ([] : List Addr) from y)) (by simp)
        · obtain ⟨e1, _⟩ := hok b _ z
          obtain ⟨e2, _⟩ := hok' b _ (un.frzs b ob _ z)
          rw [e] at e1
          cases e1
          exact e2
  have rv := vals_ints hi
  cases hk : K.lookup a with
  | none =>
    refine main (fun b => if b = a then some (.frz { cls := .type "list", data := .seq vs.toArray } (.lst (ns.map V.int))) else none) ?_ (.inl (.inr ⟨_, if_pos rfl⟩)) ?_ ?_
    · intro b
      by_cases z : b = a
      · exact .inr ⟨_, _, if_pos z⟩
      · exact .inl (if_neg z)
    · intro b u q
      try dsimp only at q
      split at q
      · rename_i z
        subst z
        cases q
        exact ⟨ha, by rw [List.length_map]; exact hl, vs, _, rv, ha⟩
      · cases q
    · intro b u q
      try dsimp only at q
      split at q
      · rename_i z
        exact ⟨z, hk⟩
      · cases q
  | some o =>
    have e := KX a o hk
    rw [ha] at e
    cases e
    exact main (fun _ => none) (fun _ => .inl rfl) (.inr ⟨_, vs.toArray, _, hk, rfl, rfl, rfl, by rw [List.size_toArray, hi.length]; exact hl, by simpa using rv⟩) (fun b u z => nomatch z) fun b u z => nomatch z
structure CalG (P : Program) (w : World) (K : PySem.W.Frag) (mg : Str → Option Value) (base : Heap) (B : Bx) (x : Str) (k : Nat) (ps : List Str) (f : Fn) : Prop where
  ex : ∃ fa fd, FnG P w K mg base k fa fd ps (spOf B ps.length f) ∧ mg x = some (.ref fa) ∧ PySem.W.keepIn K (.ref fa) = true ∧ Binds K fd ps []
section
variable {B : Bx} {X : Cx} {W : WX} {x : Str} {k : Nat} {ps : List Str} {f : Fn} {e : Expr} {es : List Expr} {ms : M (List Opd)} {p pos : Pos}
theorem Cal.g {P : Program} {w : World} {K : PySem.W.Frag} {mg : Str → Option Value} {base : Heap} (C : Cal P w K mg base B x k ps f) : CalG P w K mg base B x k ps f := by
  obtain ⟨fa, fd, G, r⟩ := C.ex
  exact ⟨fa, fd, .of G, r⟩
theorem dcG (C : CalG X.prog X.w X.K X.mg X.base B x k ps f) (hr : Room k X.A) (gd : X.A.guards = some []) (tk : Takes X W) (ha : DA B X W (e :: es) ms) (hg : Gl X x := by rfl) (hdb : (x == ("__debug__" : Str)) = false := by decide)
    (he : starEach (e :: es) X.env = (false, eval e X.env) :: starEach es X.env := by rfl) (hpl : (backTo pos (starEach es X.env)).any (·.1) = false := by rfl) : DE B X W (.Call (.Name x p) (e :: es) [] pos) (mCall ps.length f ms) := by
  obtain ⟨fa, fd, G, hm, hk, hb⟩ := C.ex
  exact PE.imp (pe_callG (E := WE W) G hr gd hg hm hk hb (fun σ => passAt tk σ) ha hdb he hpl) fun σ H Q h => call_de h
theorem ocG (C : CalG X.prog X.w X.K X.mg X.base B x k ps f) (hr : Room k X.A) (gd : X.A.guards = some []) (tk : Takes X W) (ha : DA B X W (e :: es) ms) (hg : Gl X x := by rfl) (hdb : (x == ("__debug__" : Str)) = false := by decide)
    (he : starEach (e :: es) X.env = (false, eval e X.env) :: starEach es X.env := by rfl) (hpl : (backTo pos (starEach es X.env)).any (·.1) = false := by rfl) : DO B X W (.Call (.Name x p) (e :: es) [] pos) (mCallO ps.length f ms) := by
  obtain ⟨fa, fd, G, hm, hk, hb⟩ := C.ex
  exact PE.imp (pe_callG (E := WE W) G hr gd hg hm hk hb (fun σ => passAt tk σ) ha hdb he hpl) fun σ H Q h => call_do h
theorem dcMG (sg : List Bool) (C : CalG X.prog X.w X.K X.mg X.base B x k ps f) (hr : Room k X.A) (gd : X.A.guards = some []) (tk : Takes X W) (ha : DA B X W (e :: es) ms) (hsg : ps.length = sg.length := by rfl) (hg : Gl X x := by rfl) (hdb : (x == ("__debug__" : Str)) = false := by decide)
    (he : starEach (e :: es) X.env = (false, eval e X.env) :: starEach es X.env := by rfl) (hpl : (backTo pos (starEach es X.env)).any (·.1) = false := by rfl) : DE B X W (.Call (.Name x p) (e :: es) [] pos) (mCallM sg f ms) := by
  obtain ⟨fa, fd, G, hm, hk, hb⟩ := C.ex
  rw [hsg] at G
  exact PE.imp (pe_callG (E := WE W) G hr gd hg hm hk hb (fun σ => passAt tk σ) ha hdb he hpl) fun σ H Q h => callM_de h
theorem ocMG (sg : List Bool) (C : CalG X.prog X.w X.K X.mg X.base B x k ps f) (hr : Room k X.A) (gd : X.A.guards = some []) (tk : Takes X W) (ha : DA B X W (e :: es) ms) (hsg : ps.length = sg.length := by rfl) (hg : Gl X x := by rfl) (hdb : (x == ("__debug__" : Str)) = false := by decide)
    (he : starEach (e :: es) X.env = (false, eval e X.env) :: starEach es X.env := by rfl) (hpl : (backTo pos (starEach es X.env)).any (·.1) = false := by rfl) : DO B X W (.Call (.Name x p) (e :: es) [] pos) (mCallMO sg f ms) := by
  obtain ⟨fa, fd, G, hm, hk, hb⟩ := C.ex
  rw [hsg] at G
  exact PE.imp (pe_callG (E := WE W) G hr gd hg hm hk hb (fun σ => passAt tk σ) ha hdb he hpl) fun σ H Q h => callM_do h
end
/-- the end, with FnG -/
theorem walk_g {l : PySem.W.OpenLaw} {k : Nat} {q : Program} {loose : List Str} {XP : (Str → Option Value) → Heap → Prop} {YP : World → Heap → Prop} {d : DefRec} {K : Params → PySem.W.Frag} {x : Str} {f : Fn} (B : PySem.W.Frag → Bx) (hB : ∀ F, (B F).K = F)
    (hn : l.most = some 63) (hdf : d.params.defaults = []) (hr : Room k callerA) (hY : ∀ (w : World) (h : Heap), YP w h → (K w.params).In h)
    (Fh : ∀ (w : World) (mg : Str → Option Value) (fa : Addr) (h : Heap), (K w.params).In h → h.Ns mainGlobals mg → XP mg h → mg d.name = some (.ref fa) →
      ∃ fd : FuncData, (∀ (s : Shared) (u : Value), BindsTo s fd ⟨[u], []⟩ [(x, u)]) ∧
        ∀ base : Heap, (K w.params).In base → base.Ns mainGlobals mg → FnG l.prog w (K w.params) mg base k fa fd [x] (spOf (B (K w.params)) 1 f))
    (hf : ∀ ns : List Int, ns.length ≤ 63 → ∃ as, f [.fz (scriptD ns)] = .ok (.fz (.bl true)) as) :
    PySem.W.WalkO q loose XP YP l.row.toRowW d [] (fun f vs => PySem.call f vs) := by
  refine Att.attach_call hn hdf fun w s₀ s₁ mg mb fa o pm cd doc a vs ns G Y ho hd hcd hmg hobj hints hlen hg => ?_
  have KX := hY w _ Y
  obtain ⟨fd, hb, hF⟩ := Fh w mg fa _ KX G.T.g G.X hmg
  refine law_callG KX G.T.g G.T.b G.T.builtins G.T.nolimit hg hobj hints (Nat.le_trans hlen (by decide)) hr hF hb (fun H hO hS => law_sp (hB _).symm (hf ns hlen) hlen hO hS) fun H e s' h => ?_
  obtain ⟨_, _, _, _, _, _, _, _, _, _, _, _, z⟩ := h
  exact z
end AN

set_option Elab.async false
set_option maxRecDepth 100000
set_option autoImplicit false
set_option linter.unusedVariables false
/-! repr of data -/
namespace AN
open PySem L2
def shOk (d : D) : Bool := dle 8 d && (toP d).showable && !(toP d).hasDict && decide ((toP d).shown.length ≤ sizeLine) && PyData.strOk (toP d).shown
def dRepr (d : D) : Option D := if shOk d = true then some (.str (toP d).shown) else none
section
variable {B : Bx} {X : Cx} {W : WX} {F H : Hp} {env : Env} {σ : St} {Q : VK} {a b c e : Expr} {ma mb mc : M Opd} {pos p : Pos}
def rRepr (K : PySem.W.Frag) : List V → Hp → VK → Prop := fun xs H Q => ∃ x d, xs = [x] ∧ Dp K H x d ∧ d.showable = true ∧ d.hasDict = false ∧ d.depth ≤ 64 ∧ d.shown.length ≤ sizeLine ∧ Q (.str d.shown) H
theorem call_repr_data (gd : X.A.guards = some []) (hu : X.A.units + 70 < cLine) : CallR X (.builtin "repr") (rRepr X.K) := by
  intro pins s σ H xs us Q I r h
  obtain ⟨x, d, rfl, hd, sh, nd, dp, hz, q⟩ := h
  obtain ⟨u, rfl, ru⟩ := vals1 r
  obtain ⟨as, rd⟩ := Dp.reads I d x u hd ru
  have ref : ∀ {a : Addr}, u = .ref a → wpAny (model X.prog X.w) X.A (call (.builtin "repr") [u]) (EP X pins σ Q) X.xe s := by
    rintro a rfl
    exact PySem.repr_of_reads' rd sh (fun z => by rw [nd] at z; cases z) gd (by omega) (fun _ _ e => e) (fun h' t tk k => ⟨.str _, H, I.kept k, ⟨_, rfl⟩, q⟩) hz
  cases rd with
  | none => exact PySem.P.repr_of_none ⟨.str _, H, I.tok _, ⟨_, rfl⟩, q⟩
  | bool b => exact PySem.P.repr_of_bool ⟨.str _, H, I.tok _, ⟨_, rfl⟩, q⟩
  | int i => exact PySem.P.repr_of_int (by simpa [PyData.showable] using sh) ⟨.str _, H, I.tok _, ⟨_, rfl⟩, q⟩
  | str x => exact PySem.P.repr_of_str ⟨.str _, H, I.tok _, ⟨_, rfl⟩, q⟩ hz
  | list _ _ _ _ => exact ref rfl
  | tuple _ _ _ _ => exact ref rfl
  | dict _ _ _ _ _ => exact ref rfl
theorem p_repr (hK : X.K = B.K) : Prim1 B dRepr (fun x H Q => rRepr X.K [x] H Q) := fun F H a z x Q hh sa e q => by
  unfold dRepr at e
  by_cases h : shOk a = true
  · rw [if_pos h] at e
    cases e
    unfold shOk at h
    simp only [Bool.and_eq_true, decide_eq_true_eq, Bool.not_eq_true'] at h
    obtain ⟨⟨⟨⟨h1, h2⟩, h3⟩, h4⟩, h5⟩ := h
    obtain ⟨a1, a2⟩ := sa.dp hK hh h1
    have a3 : PyData.depth (toP a) ≤ 64 := by
      unfold SeqAt.shaped at a2
      simp only [Bool.and_eq_true, decide_eq_true_eq] at a2
      omega
    exact ⟨x, _, rfl, a1, h2, h3, a3, h4, q _ F H (Step.refl _ _ _) hh ⟨rfl, h4, h5⟩⟩
  · rw [if_neg h] at e; cases e
theorem de_repr (gd : X.A.guards = some []) (hu : X.A.units + 70 < cLine) (hK : X.K = B.K) (ha : DE B X W a ma) (hm : X.mg "repr" = none) (hg : Gl X "repr" := by rfl) (he : starEach [a] X.env = (false, eval a X.env) :: starEach [] X.env := by rfl) (hpl : (backTo pos (starEach [] X.env)).any (·.1) = false := by rfl) :
    DE B X W (.Call (.Name "repr" p) [a] [] pos) (mD (mB1 dRepr ma)) := de_b1 (call_repr_data gd hu) (p_repr hK) ha hm (by decide +kernel) hg (by decide) (by decide) he hpl
/-! ### in a suite -/
variable {P : St → Hp → Prop} {x : Str} {id : String} {r : List V → Hp → VK → Prop}
theorem xp_b1 {g : D → Option D} (hc : CallR X (.builtin id) r) (hp : Prim1 B g (fun x H Q => r [x] H Q)) (ha : PE X a (tEP B P ma)) (hm : X.mg x = none) (hv : bootBuiltins x = some (.builtin id)) (hg : Gl X x := by rfl) (hn : x ≠ "__name__" := by decide) (hdb : (x == ("__debug__" : Str)) = false := by decide)
    (he : starEach [a] X.env = (false, eval a X.env) :: starEach [] X.env := by rfl) (hpl : (backTo pos (starEach [] X.env)).any (·.1) = false := by rfl) : PE X (.Call (.Name x p) [a] [] pos) (tEP B P (mD (mB1 g ma))) :=
  PE.imp (pe_callB hc hg hm hv (pa_cons ha pa_nil he) hn hdb he hpl) fun σ H Q h => by
    obtain ⟨F, env, p, S, h⟩ := h
    refine ⟨F, env, p, S, ?_⟩
    refine (Post.bind S (Post.bind S h)).mono fun x e2 F2 H2 s2 m2 o2 k2 v rv => ?_
    obtain ⟨a, z, ea, ez, k3⟩ := k2.ap1
    refine hp F2 H2 a z v Q m2.hold (m2.view rv ea) ez fun u F3 H3 s3 h3 rz => ?_
    have m3 := m2.step0 s3 h3
    exact k3 F3 H3 s3.any m3 (EnvLe.refl _) F3 H3 (Step.refl _ _ _) m3 (EnvLe.refl _) u rz
theorem xp_repr (gd : X.A.guards = some []) (hu : X.A.units + 70 < cLine) (hK : X.K = B.K) (ha : PE X a (tEP B P ma)) (hm : X.mg "repr" = none) (hg : Gl X "repr" := by rfl) (he : starEach [a] X.env = (false, eval a X.env) :: starEach [] X.env := by rfl) (hpl : (backTo pos (starEach [] X.env)).any (·.1) = false := by rfl) :
    PE X (.Call (.Name "repr" p) [a] [] pos) (tEP B P (mD (mB1 dRepr ma))) := xp_b1 (call_repr_data gd hu) (p_repr hK) ha hm (by decide +kernel) hg (by decide) (by decide) he hpl
theorem hu70 {k : Nat} {A : Around} (hr : Room k A) : A.units + 70 < cLine := by have := hr.un; omega
/-- what the suite may read of its exception: T tells each class's field -/
def mXf (T : String → Option Str) (f : Str) (c : String) (d : D) : M Opd := if T c = some f then mC d else fun _ => .bad
theorem xp_f {T : String → Option Str} {i : Nat} {n f : Str} {ex C dd : Addr} {oe : Obj} {pn : List (Addr × Obj)} {cn : String} {d : D} {p' : Pos} (hz : Zc (.ref C) (some dd) oe) (hf : ∃ vs, oe.data = .fields vs)
    (hT : T cn = some f → ∀ C fld, B.exc cn = some (C, fld) → fld = f ∧ XfC X.K C ∧ PySem.W.findIn X.K (.ref C) f = some none)
    (hN : X.N[i]? = some n := by rfl) (hv : Vis X.env.scope n := by first | exact Or.inl rfl | exact Or.inr (Or.inl rfl) | exact Or.inr (Or.inr rfl)) (hd : (n == ("__debug__" : Str)) = false := by decide) (hcd : (n == ("__classdict__" : Str)) = false := by decide)
    (hb : attributeBase (.Name n p') f X.env (eval (.Name n p') X.env) = eval (.Name n p') X.env := by rfl) :
    PE (X.suite ex ((ex, oe) :: pn)) (.Attribute (.Name n p') f pos) (tEP B (Cau B i ex C dd cn d) (mXf T f cn d)) := by
  refine ⟨fun pins s σ H Q I h => ?_⟩
  obtain ⟨F, env, ⟨sl, fld, v, hx, hF, rv⟩, S, k⟩ := h
  unfold mXf at k
  by_cases t : T cn = some f
  · rw [if_pos t] at k
    obtain ⟨rfl, x1, x2⟩ := hT t C fld hx
    refine (pe_xf (cls := .ref C) (d := some dd) x1 x2 hz hf (pe_var (X := X.suite ex ((ex, oe) :: pn)) hN hv hd hcd) hb).run pins s σ H Q I ?_
    exact ⟨.ref ex, sl, rfl, rfl, dd, _, v, rfl, S.hold.at_ hF rfl, by simp, Post.here S k v rv⟩
  · rw [if_neg t] at k; exact k.elim
/-- isinstance(e, C): T tells it of each class -/
def mXi (T : String → Option Bool) (c : String) : M Opd := match T c with
  | some b => mC (.bl b)
  | none => fun _ => .bad
theorem call_isX {ex C dd : Addr} {oe : Obj} {pn : List (Addr × Obj)} {fs : List (Str × V)} (E : L2.ExcC X.K C) (hz : Zc (.ref C) (some dd) oe) (hf : ∃ vs, oe.data = .fields vs) :
    CallR (X.suite ex ((ex, oe) :: pn)) (.builtin "isinstance") (fun xs H Q => H dd = some (.xd fs) ∧ rIsE X.K C ex xs H Q) := by
  intro pins s σ H xs us Q I r h
  obtain ⟨hx, c, cv, b, rfl, hcv, e, q⟩ := h
  obtain ⟨u1, u2, rfl, r1, r2⟩ := vals2 r
  cases (show u1 = Value.ref ex from r1)
  cases hcv _ r2
  obtain ⟨hget, _⟩ := I.pin (ex, oe) (by simp)
  obtain ⟨vs, hv⟩ := hf
  obtain ⟨mA, hns, _⟩ : ObjOk X.prog X.w H s.heap dd (.xd fs) := I.hok dd _ hx
  obtain ⟨od, ho, _⟩ := lookIn_ns hns
  have J : PySem.W.InstAt s.heap ex oe C (some od) := ⟨hget, hz.1, by unfold PySem.W.notCls; rw [hv] <;> rfl, by rw [hz.2]; exact ho⟩
  have hc : (PySem.W.clsIn X.K C).isSome = true := by
    obtain ⟨cd, z, _⟩ := PySem.W.any_some E.hd
    rw [z]; rfl
  exact PySem.W.kia_one (PySem.W.kitx_exc hc E.hg E.hk E.hs E.ha E.hn E.ht E.hm) I.kIn J e (fun z => nomatch z) fun tk => ⟨.bl b, H, I.kept (t' := tk) fun _ _ z => z, rfl, q⟩
theorem xp_is {T : String → Option Bool} {i : Nat} {n Cn : Str} {cv : Value} {ex C dd : Addr} {oe : Obj} {pn : List (Addr × Obj)} {cn : String} {d : D} {p1 p2 p3 : Pos} (hz : Zc (.ref C) (some dd) oe) (hf : ∃ vs, oe.data = .fields vs)
    (hT : ∀ b, T cn = some b → ∀ C fld, B.exc cn = some (C, fld) → L2.ExcC X.K C ∧ PySem.W.kitOne X.K (.ref C) cv = some b) (hc : ∃ t : TE, PE (X.suite ex ((ex, oe) :: pn)) (.Name Cn p3) t ∧ ∀ σ H Q, (∀ v, (∀ u, RelV v u → u = cv) → Q v H) → t σ H Q)
    (hm : X.mg "isinstance" = none) (hg : Gl X "isinstance" := by rfl)
    (hN : X.N[i]? = some n := by rfl) (hv : Vis X.env.scope n := by first | exact Or.inl rfl | exact Or.inr (Or.inl rfl) | exact Or.inr (Or.inr rfl)) (hd : (n == ("__debug__" : Str)) = false := by decide) (hcd : (n == ("__classdict__" : Str)) = false := by decide)
    (he : starEach [.Name n p2, .Name Cn p3] X.env = (false, eval (.Name n p2) X.env) :: starEach [.Name Cn p3] X.env := by rfl) (he2 : starEach [.Name Cn p3] X.env = (false, eval (.Name Cn p3) X.env) :: starEach [] X.env := by rfl)
    (hpl : (backTo pos (starEach [.Name Cn p3] X.env)).any (·.1) = false := by rfl) :
    PE (X.suite ex ((ex, oe) :: pn)) (.Call (.Name "isinstance" p1) [.Name n p2, .Name Cn p3] [] pos) (tEP B (Cau B i ex C dd cn d) (mXi T cn)) := by
  refine ⟨fun pins s σ H Q I h => ?_⟩
  obtain ⟨F, env, ⟨sl, fld, v, hx, hF, rv⟩, S, k⟩ := h
  obtain ⟨tc, hpc, htc⟩ := hc
  unfold mXi at k
  cases t : T cn with
  | none => rw [t] at k; exact k.elim
  | some b =>
    rw [t] at k
    obtain ⟨E, ek⟩ := hT b t C fld hx
    refine (pe_callB (X := X.suite ex ((ex, oe) :: pn)) (call_isX (fs := [(fld, v)]) E hz hf) hg hm (by decide +kernel) (pa_cons (pe_var (X := X.suite ex ((ex, oe) :: pn)) hN hv hd hcd) (pa_cons hpc pa_nil he2) he) (by decide) (by decide) he hpl).run pins s σ H Q I ?_
    refine ⟨.ref ex, sl, htc _ _ _ fun u hu => ?_⟩
    exact ⟨S.hold.at_ hF rfl, u, cv, b, rfl, hu, ek, Post.here S k (.bl b) rfl⟩
theorem PostS.unret {D : Ends} {r : R Fl} (h : PostS B W F env σ H D (retOnly r)) : PostS B W F env σ H D r := by
  cases r with
  | bad => exact h
  | exc _ _ _ => exact h.elim
  | ok f _ =>
    cases f with
    | nx => exact h.elim
    | bk => exact h.elim
    | ct => exact h.elim
    | rt _ => exact h
    | ro _ => exact h
/-- the suite: one return -/
theorem xs_ret {i : Nat} {ex : Addr} {cls : Value} {dx : Option Addr} {m : String → D → M Opd} (he : ∀ C dd, cls = .ref C → dx = some dd → ∀ cn d, PE X e (tEP B (Cau B i ex C dd cn d) (m cn d))) : PSs X [.Return (some e) pos] (tSu B i (fun c d => mRet (m c d)) ex cls dx) := by
  refine ⟨fun pins s σ H D I h => ?_⟩
  obtain ⟨c, d, C, dd, F, env, e1, e2, P1, S, k⟩ := h
  refine (pss_one (ps_ret (he C dd e1 e2 c d))).run pins s σ H D I ⟨F, env, P1, S, ?_⟩
  have k' : PostS B WF F env σ H D (mRet (m c d) env) := k.unret
  exact k'.bind.mono fun x e1 F1 H1 s1 m1 o1 k1 v rv => by
    obtain ⟨d, e2, F2, s2, m2, o2, r2, k2⟩ := m1.frz1 rv k1.bind
    exact k2 v σ F2 H1 (Go.refl m2) r2
theorem xs_retO {i : Nat} {ex : Addr} {cls : Value} {dx : Option Addr} {m : String → D → M O} (he : ∀ C dd, cls = .ref C → dx = some dd → ∀ cn d, PE X e (tOP B (Cau B i ex C dd cn d) (m cn d))) : PSs X [.Return (some e) pos] (tSu B i (fun c d => mRetO (m c d)) ex cls dx) := by
  refine ⟨fun pins s σ H D I h => ?_⟩
  obtain ⟨c, d, C, dd, F, env, e1, e2, P1, S, k⟩ := h
  refine (pss_one (ps_ret (he C dd e1 e2 c d))).run pins s σ H D I ⟨F, env, P1, S, ?_⟩
  have k' : PostS B WF F env σ H D (mRetO (m c d) env) := k.unret
  refine (PostS.bindPure k').mono fun o e1 F1 H1 s1 m1 o1 k1 p hp hf ho => ?_
  refine k1 p σ F1 H1 (Go.of s1 m1 o1) (.inr hp) (fun z => ?_) hf ho
  obtain ⟨_, u, hu⟩ := (o1.own z).ex S
  rw [hp] at hu; cases hu
end
end AN

set_option Elab.async false
set_option maxRecDepth 100000
set_option autoImplicit false
set_option linter.unusedVariables false
/-! own error classes over ValueError: one argument, kept under one name -/
namespace AN
open PySem PySem.Spec PyProof.Rows L2
section
variable {X : Cx} {x : Str} {N : Addr} {mc : Value} {e : Expr} {es : List Expr} {ta : TA} {pos p1 p2 : Pos}
/-- Base.__init__(self, ..), Base an own class that has ValueError's -/
theorem pe_neinit {pl : Sem Bool} (hm : X.mg x = some (.ref N)) (rd : ClX.CRead X.K N mc) (at_ : PySem.W.findCls X.K (.ref N) mc "__init__" = some (.val (.builtin "ValueError.__init__"))) (ha : PA X (e :: es) ta) (hg : Gl X x := by rfl) (hdb : (x == ("__debug__" : Str)) = false := by decide)
    (hc : eval (.Call (.Attribute (.Name x p1) "__init__" p2) (e :: es) [] pos) X.env = (do
      let ov ← eval (.Name x p1) X.env
      standAt p2.atName
      let (f, first) ← holding [ov] (getMethod ov "__init__" pl)
      callWith pos f first (backTo pos (starEach (e :: es) X.env)) (backToKw pos (keywordEach [] X.env))) := by rfl)
    (he : starEach (e :: es) X.env = (false, eval e X.env) :: starEach es X.env := by rfl) (hpl : (backTo pos (starEach es X.env)).any (·.1) = false := by rfl) :
    PE X (.Call (.Attribute (.Name x p1) "__init__" p2) (e :: es) [] pos) (tVeI X.K ta) := by
  refine ⟨fun pins s σ H Q I h => PySem.W.methodCall_KW (ld_glob I hg hm ?_ hdb) hc⟩
  refine PySem.W.method_cls I.kIn rd.ga (PySem.W.cls_value I.kIn rd.rd at_ (by decide +kernel) ?_)
  show wpAny _ _ (callWith pos (Value.builtin "ValueError.__init__") [] (backTo pos (starEach (e :: es) X.env)) []) _ _ _
  refine PyProof.Rows.callWith_method1 (thn (ha.run pos pins _ σ H _ (I.tok _) h) fun us s1 y => ?_) he hpl
  obtain ⟨vs, H1, I1, r1, a, C, ws, rfl, hl, T, ea, q⟩ := y
  cases r1 with
  | @cons _ u0 _ ur ra rr =>
    cases (show u0 = Value.ref a from ra)
    exact oinit_ok T I1 ea (by rw [← Paired.length rr, sizeLine_eq]; omega) fun s' J => ⟨.non, H1, J, rfl, q⟩
end
/-- what such an __init__ does -/
def spI (K : PySem.W.Frag) (fld : Str) : Sp := fun vs H Q _ => ∃ a C y, vs = [.ref a, y] ∧ OexC K C ∧ H a = some (exo a C none) ∧ PySem.W.findIn K (.ref C) fld = some none ∧ ∀ dx, H dx = none → dx ≠ a → Q .non (upd (upd H dx (exd dx [(fld, y)])) a (exo a C (some dx)))
def tIni (K : PySem.W.Frag) (fld : Str) : TS := fun D σ H => ∃ a C y, σ[0]? = some (some (.ref a)) ∧ σ[1]? = some (some y) ∧ OexC K C ∧ H a = some (exo a C none) ∧ PySem.W.findIn K (.ref C) fld = some none ∧
  ∀ dx, H dx = none → dx ≠ a → D.nx σ (upd (upd H dx (exd dx [(fld, y)])) a (exo a C (some dx)))
theorem ini_body {X : Cx} {s1 s2 : Stmt} {msg fld : Str} {ta : TA} (h1 : PS X s1 (tDrop (tVeI X.K ta))) (hta : ∀ (σ : L2.St) (H : Hp) (Q : List V → Hp → Prop) (v : V), σ[0]? = some (some v) → Q [v, .str msg] H → ta σ H Q) (h2 : PS X s2 (tOst X.K fld (tVar 0) (tVar 1))) : PSs X [s1, s2] (tIni X.K fld) :=
  PSs.imp (pss_cons h1 (pss_one h2)) fun D σ H h => by
    obtain ⟨a, C, y, h0, h1, T, ha, hf, q⟩ := h
    refine hta σ H _ _ h0 ⟨a, C, [.str msg], rfl, by simp, T, ha, ?_⟩
    exact ⟨y, h1, .ref a, h0, a, C, rfl, T, hf, .inl ⟨ha, q⟩⟩
theorem ini_args {msg : Str} (σ : L2.St) (H : Hp) (Q : List V → Hp → Prop) (v : V) (h : σ[0]? = some (some v)) (q : Q [v, .str msg] H) : tCons (tVar 0) (tCons (tC (.str msg)) tNil) σ H Q := ⟨v, h, q⟩
section
variable {P : Program} {w : World} {K : PySem.W.Frag} {mg : Str → Option Value} {base : Heap}
theorem init_ok {qual pv fld : Str} {st : Stmt} {f : Addr} {fd : FuncData} (Fd : Fun K "__init__" qual st f fd) (S : FnScope ["self", pv] ["self", pv] (defScope st))
    (hb : ∀ (cdv : Value) (A : Around) (outer : List PySem.Env) (s : Shared) (H : Hp) (E : XK), PSs (cxOf (L2.CX P w) P w K mg base ["self", pv] qual (defScope st) f cdv A outer s H E) (defBody st) (tIni K fld)) :
    FnOk P w K mg base (L2.CX P w) 1 f fd ["self", pv] (spI K fld) := by
  refine Fd.okX (k := 0) S (fun vs H Q E h => ?_) fun cdv A outer s H vs Q E hr h => ⟨_, hb cdv A outer s H E, ?_⟩
  · obtain ⟨a, C, y, rfl, _⟩ := h
    rfl
  · obtain ⟨a, C, y, rfl, T, ha, hf, q⟩ := h
    exact ⟨a, C, y, rfl, rfl, T, ha, hf, q⟩
end
/-! ### raise C(e) -/
def mRaise (c : String) (m : M Opd) : M Fl := M.bind m fun x => M.bind (frz1 x) fun d => fun env => .exc c d env
/-- what a raise of the class needs -/
structure Rai (P : Program) (w : World) (K : PySem.W.Frag) (mg : Str → Option Value) (base : Heap) (B : Bx) (x : Str) (c : String) : Prop where
  ex : ∃ C fI fd pv fld, B.exc c = some (C, fld) ∧ OexC K C ∧ PySem.W.findIn K (.ref C) fld = some none ∧ PySem.W.findIn K (.ref C) "__init__" = some (some (.ref fI)) ∧ PySem.W.typeIn K (.ref fI) = some (.type "function") ∧
    FnOk P w K mg base (L2.CX P w) 1 fI fd ["self", pv] (spI K fld) ∧ Binds K fd ["self", pv] [] ∧ mg x = some (.ref C)
section
variable {B : Bx} {X : Cx} {W : WX} {F H F1 H1 : Hp} {env e1 : AN.Env} {σ σ1 : L2.St} {x : Str} {c : String} {e : Expr} {ma : M Opd} {p pos pos' : Pos}
theorem ds_raise (R : Rai X.prog X.w X.K X.mg X.base B x c) (hr : Room 2 X.A) (hcalm : X.calm = true) (tk : Takes X W) (ha : DE B X W e ma) (hg : Gl X x := by rfl) (hdb : (x == ("__debug__" : Str)) = false := by decide)
    (he : starEach [e] X.env = (false, eval e X.env) :: starEach [] X.env := by rfl) (hpl : (backTo pos (starEach [] X.env)).any (·.1) = false := by rfl) : DS B X W (.Raise (some (.Call (.Name x p) [e] [] pos)) none pos') (mRaise c ma) := by
  obtain ⟨C, fI, fd, pv, fld, hx, T, hno, iC, tI, F0, hb, hm⟩ := R.ex
  refine PS.imp (ps_raise hcalm tk (pmk_oex (dvs := []) T iC tI F0 hr hb .nil passL hg hm (pa_cons ha pa_nil he) hdb he hpl)) fun D σ H h => ?_
  obtain ⟨F, env, S, h⟩ := h
  refine ⟨F, env, S, (PostS.bind h).mono fun y e1 F1 H1 s1 m1 o1 k1 v rv => ?_⟩
  obtain ⟨d, e2, F2, s2, m2, o2, r2, k2⟩ := m1.frz1 rv (PostS.bind k1)
  obtain ⟨C', fld', hx', k3⟩ := k2
  rw [hx] at hx'
  cases hx'
  refine ⟨by simp, fun a na => ⟨a, C, v, rfl, T, upd_same, hno, fun dx nd ne => ⟨rfl, dx, [(fld, v)], upd_same, ?_, ?_, ?_⟩⟩⟩
  · rw [upd_ne ne, upd_same]
  · rw [upd_ne ne] at nd; exact nd
  · rw [upd_ne ne] at nd
    have eq : upd (del (upd (upd (upd H1 a (exo a C none)) dx (exd dx [(fld, v)])) a (exo a C (some dx))) a) dx (.xd [(fld, v)]) = upd H1 dx (.xd [(fld, v)]) := by
      funext b
      by_cases h1 : b = dx
      · subst h1; rw [upd_same, upd_same]
      · rw [upd_ne h1, upd_ne h1]
        by_cases h2 : b = a
        · subst h2; rw [del_same, na]
        · rw [del_ne h2, upd_ne h2, upd_ne h1, upd_ne h2]
    rw [eq]
    obtain ⟨s3, h3⟩ := step0_mk (u := .xd [(fld, v)]) m2.hold nd
    exact k3 σ F2 _ dx v (Go.of s3.any (m2.step0 s3 h3) (EnvLe.refl _)) upd_same (m2.hold.none nd) nd r2
end
end AN

set_option Elab.async false
set_option maxRecDepth 100000
set_option autoImplicit false
set_option linter.unusedVariables false
/-! objects of own classes: fields, making, isinstance -/
namespace AN
open PySem L2
structure Ocl (K : PySem.W.Frag) (C : Addr) : Prop where
  cl : Cls K C
  ha : PySem.W.findIn K (.ref C) "__class__" = some (some (.builtin "object.__class__"))
  hn : PySem.W.specialIn K (.builtin "object.__class__") "__get__" = some (some (.builtin "getset_descriptor.__get__"))
  htk : PySem.W.takesIn K (.builtin "object.__class__") = some true
  hm : PySem.W.mroIn K C (.type "object") = some true
/-- the classes of B are in order -/
def Ocs (B : Bx) (K : PySem.W.Frag) : Prop := ∀ c C, B.cls c = some C → Ocl K C
/-- the classes that ok names have nothing of their own under f -/
def Free (B : Bx) (K : PySem.W.Frag) (ok : String → Bool) (f : Str) : Prop := ∀ c C, B.cls c = some C → ok c = true → NoAttr K C f
section
variable {B : Bx} {X : Cx} {W : WX} {F H : Hp} {env : Env} {σ : St} {Q : VK} {a b c e : Expr} {ma mb mc : M Opd} {pos p : Pos}
theorem RepF.look {fs : List (Str × D)} : ∀ {gs : List (Str × V)} {f : Str} {d : D}, RepF B F fs gs → fs.lookup f = some d → ∃ v, gs.lookup f = some v ∧ Rep B F d v := by
  induction fs with
  | nil => intro gs f d _ e; cases e
  | cons x r ih =>
    obtain ⟨g, y⟩ := x
    rintro gs f d ⟨v, t, rfl, h1, h2⟩ e
    rw [List.lookup_cons] at e
    rw [List.lookup_cons]
    cases q : f == g with
    | true => rw [q] at e; cases e; exact ⟨v, rfl, h1⟩
    | false => rw [q] at e; exact ih h2 e
theorem RepF.look0 {fs : List (Str × D)} : ∀ {gs : List (Str × V)} {f : Str}, RepF B F fs gs → fs.lookup f = none → gs.lookup f = none := by
  induction fs with
  | nil => intro gs f h _; rw [show gs = [] from h]; rfl
  | cons x r ih =>
    obtain ⟨g, y⟩ := x
    rintro gs f ⟨v, t, rfl, h1, h2⟩ e
    rw [List.lookup_cons] at e
    rw [List.lookup_cons]
    cases q : f == g with
    | true => rw [q] at e; cases e
    | false => rw [q] at e; exact ih h2 e
def dFld (ok : String → Bool) (f : Str) : D → Option D
  | .obj c fs => if ok c = true then fs.lookup f else none
  | _ => none
theorem p_fld {ok : String → Bool} {f : Str} (hC : Ocs B X.K) (hf : Free B X.K ok f) : Prim1 B (dFld ok f) (fun x H Q => ∃ a C dx fs v, x = .ref a ∧ H a = some (.ins C dx fs) ∧ Cls X.K C ∧ NoAttr X.K C f ∧ fs.lookup f = some v ∧ Q v H) :=
  fun F H a z x Q hh sa e q => by
    cases a with
    | obj c fs =>
      obtain ⟨p, C, dx, gs, rfl, hc, hp, r⟩ := sa
      dsimp only [dFld] at e
      by_cases k : ok c = true
      · rw [if_pos k] at e
        obtain ⟨v, l, rv⟩ := r.look e
        exact ⟨p, C, dx, gs, v, rfl, hp, (hC c C hc).cl, hf c C hc k, l, q v F H (Step.refl _ _ _) hh rv⟩
      · rw [if_neg k] at e; cases e
    | _ => cases e
theorem de_fld {ok : String → Bool} {f : Str} (hC : Ocs B X.K) (hf : Free B X.K ok f) (ha : DE B X W a ma) (hb : attributeBase a f X.env (eval a X.env) = eval a X.env := by rfl) : DE B X W (.Attribute a f pos) (mD (mB1 (dFld ok f) ma)) :=
  PE.imp (pe_fld ha hb) fun σ H Q h => op1 (p_fld hC hf) h
/-! ### self.f = e -/
def putD (f : Str) (d : D) : List (Str × D) → List (Str × D)
  | [] => [(f, d)]
  | (g, x) :: r => if g = f then (g, d) :: r else (g, x) :: putD f d r
theorem RepF.put {f : Str} {d : D} {v : V} (h : Rep B F d v) : ∀ {fs : List (Str × D)} {gs : List (Str × V)}, RepF B F fs gs → RepF B F (putD f d fs) (putF f v gs)
  | [], gs, r => by rw [show gs = [] from r]; exact ⟨v, [], rfl, h, rfl⟩
  | (g, x) :: fs, gs, r => by
    obtain ⟨y, t, rfl, h1, h2⟩ := r
    unfold putD putF
    by_cases q : g = f
    · rw [if_pos q, if_pos q]; exact ⟨v, t, rfl, h, h2⟩
    · rw [if_neg q, if_neg q]; exact ⟨y, _, rfl, h1, RepF.put h h2⟩
theorem RepF.length : ∀ {fs : List (Str × D)} {gs : List (Str × V)}, RepF B F fs gs → gs.length = fs.length
  | [], gs, r => by rw [show gs = [] from r]; rfl
  | (g, x) :: fs, gs, r => by obtain ⟨y, t, rfl, h1, h2⟩ := r; simp [RepF.length h2]
def setF (ok : String → Bool) (i : Nat) (f : Str) (d : D) : M Fl := fun env => match env[i]? with
  | some (.ow pn (.obj c fs)) => if ok c = true ∧ fs.length < 1000 then .ok .nx (env.set i (.ow pn (.obj c (putD f d fs)))) else .bad
  | _ => .bad
def mSetF (ok : String → Bool) (i : Nat) (f : Str) (m : M Opd) : M Fl := M.bind m fun x => M.bind (frz1 x) fun d => setF ok i f d
theorem ds_setF (ok : String → Bool) (i : Nat) {x f : Str} {p' p2 : Pos} (hC : Ocs B X.K) (hf : Free B X.K ok f) (he : DE B X W e ma) (hN : X.N[i]? = some x := by rfl) (hv : Vis X.env.scope x := by first | exact Or.inl rfl | exact Or.inr (Or.inl rfl) | exact Or.inr (Or.inr rfl))
    (hd : (x == ("__debug__" : Str)) = false := by decide) (hcd : (x == ("__classdict__" : Str)) = false := by decide) (hs : swapsWith e (some (.Attribute (.Name x p') f p2)) pos.line X.env = pure false := by rfl) :
    DS B X W (.Assign [.Attribute (.Name x p') f p2] e pos) (mSetF ok i f ma) := PS.imp (ps_fld (pe_var hN hv hd hcd) he hs) fun D0 σ H h => by
  obtain ⟨F, env, S, h⟩ := h
  refine ⟨F, env, S, h.bind.mono fun y e1 F1 H1 s1 m1 o1 k1 v rv => ?_⟩
  obtain ⟨d, e2, F2, s2, m2, o2, r2, k2⟩ := m1.frz1 rv k1.bind
  unfold setF at k2
  cases q : e2[i]? with
  | none => rw [q] at k2; exact k2.elim
  | some s =>
    rw [q] at k2
    cases s with
    | no => exact k2.elim
    | fz _ => exact k2.elim
    | ow pn o =>
      cases o with
      | lst _ => exact k2.elim
      | dic _ => exact k2.elim
      | obj c fs =>
        dsimp only at k2
        by_cases g : ok c = true ∧ fs.length < 1000
        · rw [if_pos g] at k2
          obtain ⟨p, h1, h2, C, dx, gs, hc, hp, r⟩ := m2.ow i pn _ q
          refine ⟨.ref p, h1, p, C, dx, gs, rfl, hp, (hC c C hc).cl, hf c C hc g.1, by rw [r.length]; exact g.2, ?_⟩
          exact k2 _ _ _ (m2.setOw q h1 ⟨C, dx, _, hc, upd_same, r.put r2⟩)
        · rw [if_neg g] at k2; exact k2.elim
/-! ### isinstance -/
def isG (fb : D → Bool) (fo : String → Bool) : D → Option D
  | .obj c _ => some (.bl (fo c))
  | d => some (.bl (fb d))
def IsOk (B : Bx) (K : PySem.W.Frag) (u : Value) (fb : D → Bool) (fo : String → Bool) : Prop :=
  (∀ d, isObj d = false → PySem.W.kitOne K (.type (tyN d)) u = some (fb d)) ∧ ∀ c C, B.cls c = some C → PySem.W.kitOne K (.ref C) u = some (fo c)
theorem p_isG {u : Value} {cv : V} {fb : D → Bool} {fo : String → Bool} (hcv : ClsV cv u) (hK : X.K = B.K) (hC : Ocs B X.K) (ho : IsOk B X.K u fb fo) : Prim1 B (isG fb fo) (fun x H Q => rIsi X.K [x, cv] H Q) := fun F H a z x Q hh sa e q => by
  cases h : isObj a with
  | true =>
    cases a with
    | obj c fs =>
      cases e
      obtain ⟨p, C, dx, gs, rfl, hc, hp, r⟩ := sa
      have oc := hC c C hc
      exact ⟨_, cv, _, u, _, rfl, hcv, .base (.ins hp oc.cl oc.ha oc.hn oc.htk oc.hm), ho.2 c C hc, q _ F H (Step.refl _ _ _) hh rfl⟩
    | _ => cases h
  | false =>
    have e' : z = .bl (fb a) := by
      cases a with
      | obj _ _ => cases h
      | _ => cases e; rfl
    subst e'
    exact ⟨_, cv, _, u, _, rfl, hcv, sa.ty hK hh h, ho.1 a h, q _ F H (Step.refl _ _ _) hh rfl⟩
theorem de_isG {Cn : Str} {u : Value} {fb : D → Bool} {fo : String → Bool} {p' : Pos} {cv : V} (hcv : ClsV cv u) (hK : X.K = B.K) (hC : Ocs B X.K) (ho : IsOk B X.K u fb fo) (hc : PE X (.Name Cn p') (tC cv)) (ha : DE B X W a ma) (hm : X.mg "isinstance" = none) (hg : Gl X "isinstance" := by rfl)
    (he : starEach [a, .Name Cn p'] X.env = (false, eval a X.env) :: starEach [.Name Cn p'] X.env := by rfl) (he2 : starEach [.Name Cn p'] X.env = (false, eval (.Name Cn p') X.env) :: starEach [] X.env := by rfl) (hpl : (backTo pos (starEach [.Name Cn p'] X.env)).any (·.1) = false := by rfl) :
    DE B X W (.Call (.Name "isinstance" p) [a, .Name Cn p'] [] pos) (mD (mB1 (isG fb fo) ma)) :=
  PE.imp (pe_callB call_isi hg hm (by decide +kernel) (pa_cons ha (pa_cons hc pa_nil he2) he) (by decide) (by decide) he hpl) fun σ H Q h => op1 (r := fun x H Q => rIsi X.K [x, cv] H Q) (p_isG hcv hK hC ho) h
/-- no built-in value is of an own class -/
theorem kit_own {K : PySem.W.Frag} {C : Addr} (h1 : (PySem.W.clsIn K C).isSome = true) (h2 : PySem.W.typeIn K (.ref C) = some (.type "type")) (d : D) (h : isObj d = false) : PySem.W.kitOne K (.type (tyN d)) (.ref C) = some false := by
  have key : ∀ T : String, (PySem.W.subIn K (.type T) (.ref C)) = some false → PySem.W.kitOne K (.type T) (.ref C) = some false := fun T hT => by
    show PySem.W.kitCls K (.type T) (.ref C) = some false
    unfold PySem.W.kitCls
    dsimp only
    rw [if_pos (by rw [h1, h2]; rfl)]
    exact hT
  cases d with
  | obj _ _ => cases h
  | non => exact key _ (by rfl)
  | bl _ => exact key _ (by rfl)
  | int _ => exact key _ (by rfl)
  | str _ => exact key _ (by rfl)
  | lst _ => exact key _ (by rfl)
  | tup _ => exact key _ (by rfl)
  | dic _ => exact key _ (by rfl)
end
end AN

set_option Elab.async false
set_option maxRecDepth 100000
set_option autoImplicit false
set_option linter.unusedVariables false
/-! C(e, ..) -/
namespace AN
open PySem PySem.Spec PyProof.Rows L2
def makeP (c : String) (n : Nat) (f : Fn) (xs : List Opd) : M O := fun env => if xs.length = n then (match frzs xs env with
  | .ok ds e1 => (match f (.ow true (.obj c []) :: ds.map .fz) with
    | .ok (.fz .non) (.ow true o :: _) => .ok o e1
    | .exc c' d _ => .exc c' d e1
    | _ => .bad)
  | _ => .bad) else .bad
def mMake (c : String) (n : Nat) (f : Fn) (ms : M (List Opd)) : M O := M.bind ms fun xs => makeP c n f xs
section
variable {B : Bx} {X : Cx} {W : WX} {F H F1 H1 F2 H2 : Hp} {env e1 e2 : AN.Env} {σ σ1 σ2 : L2.St} {Q : VK}
theorem make_read {c : String} {C : Addr} {n : Nat} {f : Fn} {xs : List Opd} {vs : List V} {k : O → AN.Env → Hp → Hp → Prop} (hc : B.cls c = some C) (S : Sim B F env σ H) (rs : OpdsRel B F σ vs xs) (h : Post B W F env σ H k (makeP c n f xs env))
    (hq : ∀ o e1 F1 H1, Step (Own env σ) F H F1 H1 → Sim B F1 e1 σ H1 → EnvLe env e1 → k o e1 F1 H1 → ∀ p, H p = none → F1 p = none → OAt B F1 H1 p o → Q (.ref p) H1) (x dx : Addr) (hx : H x = none) (hdx : H dx = none) (ne : dx ≠ x) :
    spOf B (n + 1) f (.ref x :: vs) (upd (upd H dx (.own x)) x (.ins C dx [])) (fun v H2 => v = .non ∧ Q (.ref x) H2) (WE W σ) := by
  unfold makeP at h
  by_cases hn : xs.length = n
  · rw [if_pos hn] at h
    cases qf : frzs xs env with
    | bad => rw [qf] at h; exact h.elim
    | exc c d e' => rw [qf] at h; exact h.elim
    | ok ds e1 =>
      rw [qf] at h
      obtain ⟨ds', e1', F1, s1, m1, l1, r1, q1⟩ := S.frzs (W := W) rs (k := fun d e _ _ => d = ds ∧ e = e1) (by rw [qf]; exact fun _ _ _ _ _ => ⟨rfl, rfl⟩)
      obtain ⟨rfl, rfl⟩ := q1
      have up : ∀ {b : Addr} {o : HO}, H b = some o → upd (upd H dx (.own x)) x (.ins C dx []) b = some o := fun {b o} e => by
        rw [upd_ne (ne_of_none e hx), upd_ne (ne_of_none e hdx)]; exact e
      have fx : F1 x = none := m1.hold.none hx
      have base := sim_fz m1.hold r1
      have hold : Holds F1 (upd (upd H dx (.own x)) x (.ins C dx [])) := fun b u e => by
        rcases m1.hold b u e with z | ⟨z, o, y⟩
        · exact .inl (up z)
        · exact .inr ⟨z, o, up y⟩
      have sim : Sim B F1 (.ow true (.obj c []) :: ds'.map .fz) ((V.ref x :: vs).map some) (upd (upd H dx (.own x)) x (.ins C dx [])) := by
        have no : ∀ {i : Nat} {k : Bool} {o : O}, (Slot.ow true (.obj c []) :: ds'.map .fz)[i]? = some (.ow k o) → i = 0 ∧ k = true ∧ o = .obj c [] := fun {i k o} q => by
          cases i with
          | zero => simp at q; exact ⟨rfl, q.1, q.2.symm⟩
          | succ i =>
            simp only [List.getElem?_cons_succ, List.getElem?_map] at q
            cases e : ds'[i]? with
            | none => rw [e] at q; cases q
            | some d' => rw [e] at q; cases q
        refine ⟨hold, ?_, fun i d q => ?_, fun i k o q => ?_, fun i j k o k' o' p a1 a2 _ _ => (no a1).1.trans (no a2).1.symm⟩
        · have := base.len
          simp only [List.length_cons, List.length_map] at this ⊢
          rw [this]
        · cases i with
          | zero => simp at q
          | succ i => simp only [List.getElem?_cons_succ, List.map_cons] at q ⊢; exact base.fz i d q
        · obtain ⟨rfl, rfl, rfl⟩ := no q
          exact ⟨x, rfl, fx, C, dx, [], hc, upd_same, rfl⟩
      have pin : PinOnly (.ow true (.obj c []) :: ds'.map .fz) := fun i k o q => by
        cases i with
        | zero => simp at q; exact q.1
        | succ i => exact fz_pin (ds := ds') i k o (by simpa using q)
      have own : ∀ {b : Addr}, Own (.ow true (.obj c []) :: ds'.map .fz) ((V.ref x :: vs).map some) b → b = x := fun {b} z => by
        obtain ⟨i, k, o, q, y⟩ := z
        cases i with
        | zero => simp at y; exact y.symm
        | succ i => exact (fz_own (ds := ds') (σ := vs.map some) (b := b) ⟨i, k, o, by simpa using q, by simpa using y⟩).elim
      have s0 : ∀ {F' H' : Hp}, Step (Own (.ow true (.obj c []) :: ds'.map .fz) ((V.ref x :: vs).map some)) F1 (upd (upd H dx (.own x)) x (.ins C dx [])) F' H' → Step0 F1 H F' H' := fun {F' H'} s =>
        { le := s.le
          keep := fun b o e _ => s.keep b o (up e) fun z => by rw [own z, hx] at e; cases e
          new := fun b u e => by
            rcases s.new b u e with z | z | z
            · exact .inl z
            · refine .inr (.inl ?_)
              cases q : H b with
              | none => rfl
              | some o => rw [up q] at z; cases z
            · rw [own z]; exact .inr (.inl hx)
          stay := fun b o e => s.stay b o (up e) }
      have tr : ∀ {F' H' : Hp}, Step0 F1 H F' H' → Step (Own env σ) F H F' H' := fun s => s1.trans s fun _ z => z.elim
      refine ⟨by rw [List.length_cons, rs.len, hn], F1, _, sim, pin, ?_⟩
      cases qr : f (.ow true (.obj c []) :: ds'.map .fz) with
      | bad => simp only [qr] at h; exact h.elim
      | exc c2 d a' =>
        simp only [qr] at h
        obtain ⟨C2, fld, hb, h⟩ := h
        have dn : ∀ {b : Addr}, upd (upd H dx (.own x)) x (.ins C dx []) b = none → H b = none := fun {b} z => by
          cases q : H b with
          | none => rfl
          | some o => rw [up q] at z; cases z
        exact ⟨C2, fld, hb, fun F' H' dx' v s m hd hf h0 r => h F' H' dx' v (tr (s0 s)) ⟨m1.step0 (s0 s) m.hold, l1⟩ hd hf (dn h0) r⟩
      | ok r a' =>
        cases r with
        | ow o => simp only [qr] at h; exact h.elim
        | fz d =>
          cases d with
          | non =>
            cases a' with
            | nil => simp only [qr] at h; exact h.elim
            | cons s as =>
              cases s with
              | no => simp only [qr] at h; exact h.elim
              | fz _ => simp only [qr] at h; exact h.elim
              | ow pn o =>
                cases pn with
                | false => simp only [qr] at h; exact h.elim
                | true =>
                  simp only [qr] at h
                  intro v F' H' s m r
                  obtain ⟨p, y1, y2, y3⟩ := m.ow 0 true o rfl
                  have ep : p = x := by simp at y1; exact y1.symm
                  subst ep
                  have st := tr (s0 s)
                  have sm := m1.step0 (s0 s) m.hold
                  exact ⟨r, hq o e1' F' H' st sm l1 (h F' H' st sm l1) p hx y2 y3⟩
          | _ => simp only [qr] at h; exact h.elim
  · rw [if_neg hn] at h; exact h.elim
def tMakeS (C : Addr) (sp : Sp) (E : L2.St → XK) (t : TA) : TE := fun σ H Q => t σ H fun vs H1 => ∀ x dx, H1 x = none → H1 dx = none → dx ≠ x → sp (.ref x :: vs) (upd (upd H1 dx (.own x)) x (.ins C dx [])) (fun v H2 => v = .non ∧ Q (.ref x) H2) (E σ)
variable {k : Nat} {f C : Addr} {fd : FuncData} {ps : List Str} {sp : Sp} {E : L2.St → XK} {x : Str} {p pos : Pos} {e : Expr} {es : List Expr} {t : TA}
theorem run_makeS {pins : List (Addr × Obj)} {s : Shared} {us : List Value} {vs : List V} (M : Mk X.K C f) (F : FnOk X.prog X.w X.K X.mg X.base (L2.CX X.prog X.w) k f fd ps sp) (hr : Room (k + 1) X.A) (hb : Binds X.K fd ps []) (hx : PassesAt (L2.CX X.prog X.w) X σ (E σ))
    (I : Inv X pins σ H s) (r : Vals vs us) (h : ∀ x dx, H x = none → H dx = none → dx ≠ x → sp (.ref x :: vs) (upd (upd H dx (.own x)) x (.ins C dx [])) (fun v H2 => v = .non ∧ Q (.ref x) H2) (E σ)) :
    wpAny (model X.prog X.w) X.A (call (.ref C) us) (EP X pins σ Q) X.xe s := by
  have q := h (s.heap.objs.size + 1) s.heap.objs.size (I.hok.fresh (Nat.le_succ _)) (I.hok.fresh (Nat.le_refl _)) (Nat.ne_of_lt (Nat.lt_succ_self _))
  have J := Inv.made (C := C) I
  have vals : Vals (V.ref (s.heap.objs.size + 1) :: vs) (Value.ref (s.heap.objs.size + 1) :: us) := .cons rfl r
  have b := hb _ (Value.ref (s.heap.objs.size + 1) :: us) J.kIn (by rw [List.append_nil, ← vals.length]; exact F.len _ _ _ _ q)
  rw [List.append_nil] at b
  refine wpAny_call (make_map (f := f) I.kIn M.makes M.init (beq_iff_eq.mp M.fn) (codeAny_mono (F.run _ X.stack _ _ ⟨Value.ref (s.heap.objs.size + 1) :: us, []⟩ _ _ _ (E σ) (hr.make C us []) (J.env0.make C us []) b vals q) fun z s' y => ?_))
  cases z with
  | error u => exact hx pins _ _ u s' J y
  | ok fl =>
    cases fl with
    | ret u =>
      obtain ⟨v, H', J2, rv, rfl, q2⟩ := J.after y
      exact ⟨rv, ⟨.ref _, H', J2, rfl, q2⟩⟩
    | next => exact y.elim
    | brk => exact y.elim
    | cont => exact y.elim
theorem pe_makeS (M : Mk X.K C f) (F : FnOk X.prog X.w X.K X.mg X.base (L2.CX X.prog X.w) k f fd ps sp) (hr : Room (k + 1) X.A) (hm : X.mg x = some (.ref C)) (hb : Binds X.K fd ps []) (hx : ∀ σ, PassesAt (L2.CX X.prog X.w) X σ (E σ))
    (ha : PA X (e :: es) t) (hg : Gl X x := by rfl) (hdb : (x == ("__debug__" : Str)) = false := by decide) (he : starEach (e :: es) X.env = (false, eval e X.env) :: starEach es X.env := by rfl) (hpl : (backTo pos (starEach es X.env)).any (·.1) = false := by rfl) :
    PE X (.Call (.Name x p) (e :: es) [] pos) (tMakeS C sp E t) := by
  refine ⟨fun pins s σ H Q I h => wpAny_Call_Name_kw (ld_glob I hg hm ?_ hdb)⟩
  refine PySem.W.callWith_K (h₀ := X.base) I.ok.mod.kin M.kp (thn (ha.run pos pins s σ H _ I h) fun us s1 ⟨vs, H1, I1, r, q⟩ => ⟨I1.kIn, ?_⟩) he hpl
  exact run_makeS M F hr hb (hx σ) I1 r q
/-- what a class must have to be made: its __init__ as a def -/
structure Mak (P : Program) (w : World) (K : PySem.W.Frag) (mg : Str → Option Value) (base : Heap) (B : Bx) (x : Str) (c : String) (k : Nat) (ps : List Str) (f : Fn) : Prop where
  ex : ∃ C fa fd, B.cls c = some C ∧ Mk K C fa ∧ FnOk P w K mg base (L2.CX P w) k fa fd ("self" :: ps) (spOf B (ps.length + 1) f) ∧ Binds K fd ("self" :: ps) [] ∧ mg x = some (.ref C)
theorem do_make {c : String} {ps : List Str} {f : Fn} {ms : M (List Opd)} (N : Mak X.prog X.w X.K X.mg X.base B x c k ps f) (hr : Room (k + 1) X.A) (tk : Takes X W) (ha : DA B X W (e :: es) ms) (hg : Gl X x := by rfl) (hdb : (x == ("__debug__" : Str)) = false := by decide)
    (he : starEach (e :: es) X.env = (false, eval e X.env) :: starEach es X.env := by rfl) (hpl : (backTo pos (starEach es X.env)).any (·.1) = false := by rfl) : DO B X W (.Call (.Name x p) (e :: es) [] pos) (mMake c ps.length f ms) := by
  obtain ⟨C, fa, fd, hc, M, G, hb, hm⟩ := N.ex
  refine PE.imp (pe_makeS (E := WE W) M G hr hm hb (fun σ => passAt tk σ) ha hg hdb he hpl) fun σ H Q h => ?_
  obtain ⟨F, env, S, h⟩ := h
  refine ⟨F, env, S, (Post.bind S h).mono fun xs e1 F1 H1 s1 m1 l1 k1 vs rvs => ?_⟩
  exact make_read hc m1 rvs k1 fun o e2 F2 H2 s2 m2 l2 k2 p hp hf ho => k2 p (s1.back hp) hf ho
end
end AN

set_option Elab.async false
set_option maxRecDepth 100000
set_option autoImplicit false
set_option linter.unusedVariables false
/-! == and != by an own __eq__ -/
namespace AN
open PySem PySem.Spec PyProof.Rows L2
section
variable {prog : Program} {w : World} {A : Around} {E : Value → Shared → Prop} {s : Shared} {K : PySem.W.Frag} {x C f : Addr} {ox : Obj} {od : Option Obj} {b tb : Value}
theorem bound_slot {M : Model} {self : Value} {name : Str} {id : String} {args : List Value} {Q : Option Value → Shared → Prop} (sp : PySem.W.Looks M s.heap (specialOf self name) (some (.builtin id))) (hb : bindSpecial (.builtin id) self = pure (.builtin id, [self]))
    (h : wpAny M A (call (.builtin id) (self :: args)) (fun v => Q (some v)) E s) : wpAny M A (callSpecialIfBound? self name args) Q E s := by
  have fin : wpAny M A (call (.builtin id) ([self] ++ args) >>= fun v => pure (some v)) Q E s := wpAny_bind (wpAny_mono h (fun _ _ z => wpAny_pure z) fun _ _ z => z)
  simp only [callSpecialIfBound?, bindSpecialIfBound?]
  refine wpAny_holding (wpAny_bind (wpAny_bind (sp.here (wpAny_bind (wpAny_askSetting (wpAny_ite ?_))))))
  split
  · exact wpAny_bind (wpAny_of_eq hb (wpAny_pure fin))
  · exact wpAny_tryCatch (wpAny_bind (wpAny_of_eq hb (wpAny_pure fin)))
theorem ne_entry {Q : Fin → Shared → Prop} (hu : A.units < cLine) (X : K.In s.heap) (I : PySem.W.InstAt s.heap x ox C od) (he : PySem.W.findIn K (.ref C) "__eq__" = some (some (.ref f))) (hf : PySem.W.isFn K (.ref f) = true)
    (h : wpAny (model prog w) A (call (.ref f) [.ref x, b]) (fun v s' => ∃ r, v = .bool r ∧ Q (.done (.ret (.bool (!r)))) s') E s) : wpAny (model prog w) A (Builtin.«object.__ne__» ⟨[.ref x, b], []⟩) Q E s := by
  unfold Builtin.«object.__ne__»
  repeat (first
    | with_reducible refine wpAny_cRoomFor hu ?_
    | (refine wpAny_bind (m := callSpecialIfBound? (.ref x) (Str.ofString "__eq__") [b]) (PySem.W.ifBound_K X I he hf (wpAny_mono h (fun r s' hr => by
          obtain ⟨c, rfl, hq⟩ := hr
          repeat (first | exact hq | exact wpAny_pure hq | exact wpAny_truthy_bool hq | (refine wpAny_bind (m := truthy (.bool _)) (wpAny_truthy_bool ?_)) | wp_step)) fun _ _ e => e)))
    | wp_step)
theorem ne_try {Q : Option Value → Shared → Prop} (hu : A.units + 1 < cLine) (X : K.In s.heap) (I : PySem.W.InstAt s.heap x ox C od) (hn : PySem.W.findIn K (.ref C) "__ne__" = some (some (.builtin "object.__ne__"))) (hm : PySem.W.mroIn K C (.type "object") = some true)
    (he : PySem.W.findIn K (.ref C) "__eq__" = some (some (.ref f))) (hf : PySem.W.isFn K (.ref f) = true) (h : wpAny (model prog w) A.in1 (call (.ref f) [.ref x, b]) (fun v s' => ∃ r, v = .bool r ∧ Q (some (.bool (!r))) s') E s) :
    wpAny (model prog w) A (tryCompare (.ref x) "__ne__" b) Q E s := by
  unfold tryCompare
  have sp : PySem.W.Looks (model prog w) s.heap (specialOf (.ref x) "__ne__") (some (.builtin "object.__ne__")) := I.type.andThen (PySem.W.looks_findIn X hn)
  refine wpAny_bind (bound_slot sp (F.cmp_object.ne.bind _) (wpAny_call (codeAny_call_builtin F.cmp_object.ne.plain F.cmpEntry_ne (PySem.W.check_slot F.cmpKind_ne F.cmpSplit_ne (I.type.andThen (PySem.W.looks_mroIn X hm)) (F.cmpArgs_ne _ _) ?_))))
  refine ne_entry (A := A.in1) hu X I he hf (wpAny_mono h (fun v s' hv => ?_) fun _ _ e => e)
  obtain ⟨r, rfl, hq⟩ := hv
  first | exact ⟨r, rfl, wpAny_pure hq⟩ | exact ⟨r, rfl, wpAny_pure (wpAny_pure hq)⟩ | exact ⟨r, rfl, hq⟩
theorem ne_K {Q : Value → Shared → Prop} (hu : A.units + 1 < cLine) (X : K.In s.heap) (I : PySem.W.InstAt s.heap x ox C od) (hb : PySem.W.Looks (model prog w) s.heap (typeOf b) tb) (nf : PySem.W.notFirst K C tb = true)
    (hn : PySem.W.findIn K (.ref C) "__ne__" = some (some (.builtin "object.__ne__"))) (hm : PySem.W.mroIn K C (.type "object") = some true)
    (he : PySem.W.findIn K (.ref C) "__eq__" = some (some (.ref f))) (hf : PySem.W.isFn K (.ref f) = true) (h : wpAny (model prog w) A.in1 (call (.ref f) [.ref x, b]) (fun v s' => ∃ r, v = .bool r ∧ Q (.bool (!r)) s') E s) :
    wpAny (model prog w) A (richCompare .NotEq (.ref x) b) Q E s := by
  have one : wpAny (model prog w) A (tryCompare (.ref x) "__ne__" b) (fun r s' => ∃ v, r = some v ∧ Q v s') E s :=
    ne_try hu X I hn hm he hf (wpAny_mono h (fun v s' hv => by obtain ⟨r, rfl, hq⟩ := hv; exact ⟨r, rfl, _, rfl, hq⟩) fun _ _ e => e)
  unfold richCompare
  simp only [oneThing_ref]
  refine wpAny_holding (wpAny_bind (wpAny_cRoomFor (Nat.lt_of_succ_lt hu) ?_))
  rw [cmpInfo_NotEq]
  dsimp only
  refine wpAny_bind (I.type.here (wpAny_bind (hb.here ?_)))
  by_cases q : (Value.ref C != tb) = true
  · rw [if_pos q]
    have e : PySem.W.subIn K tb (.ref C) = some false := by
      rcases Bool.or_eq_true_iff.mp nf with e | e
      · rw [beq_iff_eq.mp e] at q
        simp at q
      · exact beq_iff_eq.mp e
    refine wpAny_bind ((PySem.W.looks_subIn X e).here ?_)
    simp only [Bool.false_eq_true, if_false]
    refine wpAny_bind (wpAny_mono one (fun r s' z => ?_) fun _ _ e => e)
    obtain ⟨v, rfl, hq⟩ := z
    exact wpAny_pure hq
  · rw [if_neg q]
    refine wpAny_bind (wpAny_pure ?_)
    simp only [Bool.false_eq_true, if_false]
    refine wpAny_bind (wpAny_mono one (fun r s' z => ?_) fun _ _ e => e)
    obtain ⟨v, rfl, hq⟩ := z
    exact wpAny_pure hq
end
/-- what is needed of a class with its own == -/
structure EqC (P : Program) (w : World) (K : PySem.W.Frag) (mg : Str → Option Value) (base : Heap) (B : Bx) (c : String) (k : Nat) (f : Fn) : Prop where
  ex : ∃ C fa fd ps, B.cls c = some C ∧ PySem.W.findIn K (.ref C) "__eq__" = some (some (.ref fa)) ∧ PySem.W.isFn K (.ref fa) = true ∧ FnOk P w K mg base (L2.CX P w) k fa fd ps (spOf B 2 f) ∧ Binds K fd ps [] ∧
    PySem.W.findIn K (.ref C) "__ne__" = some (some (.builtin "object.__ne__"))
/-- no class of B comes first on the right -/
def Apart (B : Bx) (K : PySem.W.Frag) : Prop := ∀ c c' C C', B.cls c = some C → B.cls c' = some C' → PySem.W.notFirst K C (.ref C') = true
def oEq (neg : Bool) (eq : String → Option Fn) (a b : D) : Option D := match a with
  | .obj c _ => (eq c).bind fun f => match f [.fz a, .fz b] with
    | .ok (.fz (.bl r)) _ => some (.bl (if neg then !r else r))
    | _ => none
  | _ => if neg then dNe a b else dEq a b
section
variable {B : Bx} {X : Cx} {W : WX} {F H : Hp} {env : AN.Env} {σ : L2.St} {Q : VK} {a b : Expr} {ma mb : M Opd} {pos : Pos} {k : Nat}
/-- as Le, but for the marks of what was locked -/
def LeN (F F' : Hp) : Prop := ∀ b u, (∀ o w, u ≠ .frz o w) → F b = some u → F' b = some u
mutual
theorem Rep.monoN {F F' : Hp} (l : LeN F F') : ∀ (d : D) (v : V), Rep B F d v → Rep B F' d v
  | .non, _, h => by simpa [Rep] using h
  | .bl _, _, h => by simpa [Rep] using h
  | .int _, _, h => by simpa [Rep] using h
  | .str _, _, h => by simpa [Rep] using h
  | .lst xs, v, h => let ⟨p, vs, e, a, z, r⟩ := h; ⟨p, vs, e, a.imp (l _ _ fun _ _ y => nomatch y) id, z, RepL.monoN l xs vs r⟩
  | .tup xs, v, h => let ⟨p, vs, e, a, z, r⟩ := h; ⟨p, vs, e, a.imp (l _ _ fun _ _ y => nomatch y) id, z, RepL.monoN l xs vs r⟩
  | .dic kvs, v, h => let ⟨p, vs, e, a, z, r⟩ := h; ⟨p, vs, e, l _ _ (fun _ _ y => nomatch y) a, z, RepK.monoN l kvs vs r⟩
  | .obj c fs, v, h => let ⟨p, C, dx, gs, e, hc, a, r⟩ := h; ⟨p, C, dx, gs, e, hc, l _ _ (fun _ _ y => nomatch y) a, RepF.monoN l fs gs r⟩
theorem RepL.monoN {F F' : Hp} (l : LeN F F') : ∀ (ds : List D) (vs : List V), RepL B F ds vs → RepL B F' ds vs
  | [], _, h => h
  | d :: ds, vs, h => let ⟨v, r, e, h1, h2⟩ := h; ⟨v, r, e, Rep.monoN l d v h1, RepL.monoN l ds r h2⟩
theorem RepK.monoN {F F' : Hp} (l : LeN F F') : ∀ (ds : List (Key × D)) (vs : List (Key × V)), RepK B F ds vs → RepK B F' ds vs
  | [], _, h => h
  | (k, d) :: ds, vs, h => let ⟨v, r, e, h1, h2⟩ := h; ⟨v, r, e, Rep.monoN l d v h1, RepK.monoN l ds r h2⟩
theorem RepF.monoN {F F' : Hp} (l : LeN F F') : ∀ (ds : List (Str × D)) (vs : List (Str × V)), RepF B F ds vs → RepF B F' ds vs
  | [], _, h => h
  | (k, d) :: ds, vs, h => let ⟨v, r, e, h1, h2⟩ := h; ⟨v, r, e, Rep.monoN l d v h1, RepF.monoN l ds r h2⟩
end
theorem Seen.mono {d : D} {v : V} {F' : Hp} (l : LeN F F') (s : Seen B F H d v) : Seen B F' H d v := by
  cases d with
  | lst xs => obtain ⟨p, vs, e, a, z, r⟩ := s; exact ⟨p, vs, e, a, z, RepL.monoN l _ _ r⟩
  | dic xs => obtain ⟨p, vs, e, a, z, r⟩ := s; exact ⟨p, vs, e, a, z, RepK.monoN l _ _ r⟩
  | obj c fs => obtain ⟨p, C, dx, gs, e, hc, a, r⟩ := s; exact ⟨p, C, dx, gs, e, hc, a, RepF.monoN l _ _ r⟩
  | non => exact s
  | bl _ => exact s
  | int _ => exact s
  | str _ => exact s
  | tup _ => exact Rep.monoN l _ _ s
/-- what is seen, as data -/
theorem Seen.fix {d : D} {v : V} (hh : Holds F H) (s : Seen B F H d v) : ∃ F', LeN F F' ∧ Holds F' H ∧ Rep B F' d v := by
  have put : ∀ {p : Addr} {u : HO}, (∀ o w, u ≠ .frz o w) → (H p = some u ∨ (frzable u = true ∧ ∃ o, H p = some (.frz o u))) → ∃ F', LeN F F' ∧ Holds F' H ∧ F' p = some u := fun {p u} nf z => by
    refine ⟨upd F p u, fun b w nw e => ?_, fun b w e => ?_, upd_same⟩
    · by_cases hb : b = p
      · subst hb
        rw [upd_same]
        rcases hh b w e with y | ⟨yf, o, y⟩ <;> rcases z with z | ⟨zf, o', z⟩
        · rw [y] at z; exact z.symm
        · rw [y] at z; exact absurd (Option.some.inj z) (nw _ _)
        · rw [y] at z; exact absurd (Option.some.inj z).symm (nf _ _)
        · rw [y] at z; cases z; rfl
      · rw [upd_ne hb]; exact e
    · by_cases hb : b = p
      · subst hb; rw [upd_same] at e; cases e; exact z
      · rw [upd_ne hb] at e; exact hh b w e
  cases d with
  | lst xs =>
    obtain ⟨p, vs, rfl, a, z, r⟩ := s
    rcases a with (a | ⟨o, a⟩) | a
    · obtain ⟨F', l, h', e⟩ := put (u := .lst vs) (fun _ _ y => nomatch y) (.inl a)
      exact ⟨F', l, h', p, vs, rfl, .inl e, z, RepL.monoN l _ _ r⟩
    · obtain ⟨F', l, h', e⟩ := put (u := .lst vs) (fun _ _ y => nomatch y) (.inr ⟨rfl, o, a⟩)
      exact ⟨F', l, h', p, vs, rfl, .inl e, z, RepL.monoN l _ _ r⟩
    · exact ⟨F, fun _ _ _ e => e, hh, p, vs, rfl, .inr (.inr a), z, r⟩
  | dic xs =>
    obtain ⟨p, vs, rfl, a, z, r⟩ := s
    rcases a with a | ⟨o, a⟩
    · obtain ⟨F', l, h', e⟩ := put (u := .dK vs) (fun _ _ y => nomatch y) (.inl a)
      exact ⟨F', l, h', p, vs, rfl, e, z, RepK.monoN l _ _ r⟩
    · obtain ⟨F', l, h', e⟩ := put (u := .dK vs) (fun _ _ y => nomatch y) (.inr ⟨rfl, o, a⟩)
      exact ⟨F', l, h', p, vs, rfl, e, z, RepK.monoN l _ _ r⟩
  | obj c fs =>
    obtain ⟨p, C, dx, gs, rfl, hc, a, r⟩ := s
    obtain ⟨F', l, h', e⟩ := put (u := .ins C dx gs) (fun _ _ y => nomatch y) (.inl a)
    exact ⟨F', l, h', p, C, dx, gs, rfl, hc, e, RepF.monoN l _ _ r⟩
  | non => exact ⟨F, fun _ _ _ e => e, hh, s⟩
  | bl _ => exact ⟨F, fun _ _ _ e => e, hh, s⟩
  | int _ => exact ⟨F, fun _ _ _ e => e, hh, s⟩
  | str _ => exact ⟨F, fun _ _ _ e => e, hh, s⟩
  | tup _ => exact ⟨F, fun _ _ _ e => e, hh, s⟩
/-- the type that is seen -/
theorem Seen.tyx {K : PySem.W.Frag} {d : D} {v : V} (hK : K = B.K) (hh : Holds F H) (hC : Ocs B K) (hA : Apart B K) {c : String} {C : Addr} (hc : B.cls c = some C) (s : Seen B F H d v) : ∃ t, TyX K H v t ∧ PySem.W.notFirst K C t = true := by
  cases h : AN.isObj d with
  | true =>
    cases d with
    | obj c' fs =>
      obtain ⟨p, C', dx, gs, rfl, hc', hp, r⟩ := s
      have oc := hC c' C' hc'
      exact ⟨_, .base (.ins hp oc.cl oc.ha oc.hn oc.htk oc.hm), hA c c' C C' hc hc'⟩
    | _ => cases h
  | false =>
    refine ⟨_, s.ty hK hh h, ?_⟩
    unfold PySem.W.notFirst
    have key : PySem.W.subIn K (.type (tyN d)) (.ref C) = some false := by
      cases d with
      | obj _ _ => cases h
      | _ => rfl
    rw [key]
    simp
def rOwn (P : Program) (w : World) (K : PySem.W.Frag) (mg : Str → Option Value) (base : Heap) (B : Bx) (k : Nat) (neg : Bool) : R2 := fun x y H Q => ∃ c C f a dx fs t, B.cls c = some C ∧ EqC P w K mg base B c k f ∧ x = .ref a ∧ H a = some (.ins C dx fs) ∧ TyX K H y t ∧ PySem.W.notFirst K C t = true ∧
  PySem.W.mroIn K C (.type "object") = some true ∧ spOf B 2 f [x, y] H (fun v H' => ∃ r, v = .bl r ∧ Q (.bl (if neg then !r else r)) H') E0
theorem own_call {pins : List (Addr × Obj)} {s : Shared} {x y : V} {u v : Value} {A : Around} {f : Fn} {fa : Addr} {fd : FuncData} {ps : List Str} {neg : Bool} (G : FnOk X.prog X.w X.K X.mg X.base (L2.CX X.prog X.w) k fa fd ps (spOf B 2 f)) (hb : Binds X.K fd ps []) (hr : Room k A) (hfr : A.frames = X.A.frames) (I : Inv X pins σ H s) (rx : RelV x u) (ry : RelV y v)
    (h : spOf B 2 f [x, y] H (fun v H' => ∃ r, v = .bl r ∧ Q (.bl (if neg then !r else r)) H') E0) : wpAny (model X.prog X.w) A (call (.ref fa) [u, v]) (fun z s' => ∃ r : Bool, z = .bool r ∧ EP X pins σ Q (.bool (if neg then !r else r)) s') X.xe s := by
  have e := I.env0
  have e0 : Env0 X.prog X.w X.K X.mg X.base A X.stack s H := ⟨by rw [hfr]; exact e.frames, e.mod, e.bs, e.bsz, e.funs, e.frf, e.hok, e.bare⟩
  have vals : Vals [x, y] [u, v] := .cons rx (.cons ry .nil)
  have b := hb s [u, v] I.kIn (by rw [List.append_nil, ← vals.length]; exact G.len _ _ _ _ h)
  rw [List.append_nil] at b
  refine wpAny_call (codeAny_mono (G.run A X.stack s H ⟨[u, v], []⟩ _ _ _ E0 hr e0 b vals h) fun z s' y => ?_)
  cases z with
  | error u => exact passL pins σ H s u s' I y
  | ok fl =>
    cases fl with
    | ret w =>
      obtain ⟨v', H', J, rv, ⟨r, rfl, q⟩⟩ := I.after y
      cases (show w = Value.bool r from rv)
      exact ⟨r, rfl, .bl _, H', J, rfl, q⟩
    | next => exact y.elim
    | brk => exact y.elim
    | cont => exact y.elim
theorem op_ownEq (hr : Room k X.A) : OpR X (compareOp .Eq) (rOwn X.prog X.w X.K X.mg X.base B k false) := by
  intro pins s σ H x y u v Q I rx ry h
  obtain ⟨c, C, f, a, dx, fs, t, hc, ⟨C', fa, fd, ps, hc', he, hf, G, hb, hn⟩, rfl, ha, ty, nf, hm, sp⟩ := h
  rw [hc] at hc'; cases hc'
  cases (show u = Value.ref a from rx)
  obtain ⟨mA, J, _⟩ := ins_get I.hok ha
  obtain ⟨od, J, _⟩ := J.look
  obtain ⟨P, kx, hp, _⟩ := kit_of I ry ty
  obtain ⟨m, fr⟩ := I.fr
  refine PySem.W.cmp_K (op := .Eq) (tb := t) (by have := hr.un; omega) fr I.ok.mod.kin J (kx.ty _ _ I.kIn hp) nf he hf ?_
  refine wpAny_mono (own_call (neg := false) G hb hr rfl I rx ry sp) (fun z s' q => ?_) fun _ _ z => z
  obtain ⟨r, rfl, q⟩ := q
  exact q
theorem op_ownNe (hr : Room (k + 1) X.A) : OpR X (compareOp .NotEq) (rOwn X.prog X.w X.K X.mg X.base B k true) := by
  intro pins s σ H x y u v Q I rx ry h
  obtain ⟨c, C, f, a, dx, fs, t, hc, ⟨C', fa, fd, ps, hc', he, hf, G, hb, hn⟩, rfl, ha, ty, nf, hm, sp⟩ := h
  rw [hc] at hc'; cases hc'
  cases (show u = Value.ref a from rx)
  obtain ⟨mA, J, _⟩ := ins_get I.hok ha
  obtain ⟨od, J, _⟩ := J.look
  obtain ⟨P, kx, hp, _⟩ := kit_of I ry ty
  show wpAny _ _ (richCompare .NotEq (.ref a) v) _ _ _
  exact ne_K (tb := t) (by have := hr.un; omega) I.kIn J (kx.ty _ _ I.kIn hp) nf hn hm he hf (own_call (neg := true) G hb hr.in1 rfl I rx ry sp)
theorem p_own {neg : Bool} {eq : String → Option Fn} {r0 : R2} (hK : X.K = B.K) (hC : Ocs B X.K) (hA : Apart B X.K) (he : ∀ c f, eq c = some f → EqC X.prog X.w X.K X.mg X.base B c k f) (h0 : Prim2 B (if neg then dNe else dEq) r0) :
    Prim2 B (oEq neg eq) (fun x y H Q => r0 x y H Q ∨ rOwn X.prog X.w X.K X.mg X.base B k neg x y H Q) := fun F H a b z x y Q hh sa sb e q => by
  have plain : (if neg then dNe else dEq) a b = some z → r0 x y H Q ∨ rOwn X.prog X.w X.K X.mg X.base B k neg x y H Q := fun e => .inl (h0 F H a b z x y Q hh sa sb e q)
  cases a with
  | obj c fs =>
    right
    unfold oEq at e
    dsimp only at e
    obtain ⟨f, ef, e⟩ := Option.bind_eq_some_iff.mp e
    have E := he c f ef
    obtain ⟨C, _, _, _, hc, _⟩ := id E.ex
    obtain ⟨t, ty, nf⟩ := sb.tyx hK hh hC hA hc
    obtain ⟨F1, l1, h1, r1⟩ := sa.fix hh
    obtain ⟨F2, l2, h2, r2⟩ := (sb.mono l1).fix h1
    obtain ⟨p, C', dx, gs, rfl, hc', hp, rf⟩ := sa
    rw [hc] at hc'; cases hc'
    refine ⟨c, C, f, p, dx, gs, t, hc, E, rfl, hp, ty, nf, (hC c C hc).hm, rfl, F2, [.fz (.obj c fs), .fz b], sim_fz (ds := [.obj c fs, b]) h2 ⟨_, _, rfl, Rep.monoN l2 _ _ r1, _, _, rfl, r2, rfl⟩, fz_pin (ds := [.obj c fs, b]), ?_⟩
    cases qf : f [.fz (.obj c fs), .fz b] with
    | bad => rw [qf] at e; cases e
    | exc _ _ _ => rw [qf] at e; cases e
    | ok rt as =>
      rw [qf] at e
      cases rt with
      | ow _ => cases e
      | fz d =>
        cases d with
        | bl r =>
          cases e
          intro v F3 H3 s3 m3 rv
          cases (show v = .bl r from rv)
          have s0 : Step0 F2 H F3 H3 := s3.imp fun _ z => fz_own (ds := [.obj c fs, b]) z
          obtain ⟨sd, hd⟩ := Step0.drop (F := F) (H := H) (F1 := F) (H1 := H3) ⟨Le.refl F, s0.keep, fun b u e => .inl e, s0.stay⟩ hh
          exact ⟨r, rfl, q _ F H3 sd hd rfl⟩
        | _ => cases e
  | _ => exact plain (by cases neg <;> exact e)
theorem de_ownEq {eq : String → Option Fn} (hr : Room k X.A) (hK : X.K = B.K) (hC : Ocs B X.K) (hA : Apart B X.K) (he : ∀ c f, eq c = some f → EqC X.prog X.w X.K X.mg X.base B c k f) (ha : DE B X W a ma) (hb : DE B X W b mb) (hm : behindInMarks .Eq b = false := by rfl) :
    DE B X W (.Compare a [.Eq] [b] pos) (mD (mB2 (oEq false eq) ma mb)) := de_cmp (OpR.or (op_eqD (hu64 hr)) (op_ownEq hr)) (p_own hK hC hA he (p_eq hK)) ha hb hm
theorem dt_ownEq {eq : String → Option Fn} (hr : Room k X.A) (hK : X.K = B.K) (hC : Ocs B X.K) (hA : Apart B X.K) (he : ∀ c f, eq c = some f → EqC X.prog X.w X.K X.mg X.base B c k f) (ha : DE B X W a ma) (hb : DE B X W b mb) (hm : behindInMarks .Eq b = false := by rfl) :
    DT B X W (.Compare a [.Eq] [b] pos) (mB2 (g2b (oEq false eq)) ma mb) := dt_cmp (OpR.or (op_eqD (hu64 hr)) (op_ownEq hr)) (p_own hK hC hA he (p_eq hK)) ha hb hm
theorem de_ownNe {eq : String → Option Fn} (hr : Room (k + 1) X.A) (hK : X.K = B.K) (hC : Ocs B X.K) (hA : Apart B X.K) (he : ∀ c f, eq c = some f → EqC X.prog X.w X.K X.mg X.base B c k f) (ha : DE B X W a ma) (hb : DE B X W b mb) (hm : behindInMarks .NotEq b = false := by rfl) :
    DE B X W (.Compare a [.NotEq] [b] pos) (mD (mB2 (oEq true eq) ma mb)) := de_cmp (OpR.or (op_neD (hu64 hr)) (op_ownNe hr)) (p_own hK hC hA he (p_ne hK)) ha hb hm
theorem dt_ownNe {eq : String → Option Fn} (hr : Room (k + 1) X.A) (hK : X.K = B.K) (hC : Ocs B X.K) (hA : Apart B X.K) (he : ∀ c f, eq c = some f → EqC X.prog X.w X.K X.mg X.base B c k f) (ha : DE B X W a ma) (hb : DE B X W b mb) (hm : behindInMarks .NotEq b = false := by rfl) :
    DT B X W (.Compare a [.NotEq] [b] pos) (mB2 (g2b (oEq true eq)) ma mb) := dt_cmp (OpR.or (op_neD (hu64 hr)) (op_ownNe hr)) (p_own hK hC hA he (p_ne hK)) ha hb hm
end
end AN

set_option Elab.async false
set_option maxRecDepth 100000
set_option autoImplicit false
set_option linter.unusedVariables false
/-! dicts of the module, their keys texts: d.get(k, x), d[k], k in d -/
namespace AN
open PySem PySem.Spec PyProof.Rows L2
inductive TabOk (B : Bx) : List DictEntry → List (Str × D) → Prop
  | nil : TabOk B [] []
  | cons {e : DictEntry} {r : List DictEntry} {k : Str} {d : D} {t : List (Str × D)} (hk : ∃ tok, e.key = .str k tok) (hv : ∃ v, RelV v e.val ∧ ∀ F : Hp, Rep B F d v) (h : TabOk B r t) : TabOk B (e :: r) ((k, d) :: t)
theorem TabOk.find {B : Bx} {l : List DictEntry} {tb : List (Str × D)} (h : TabOk B l tb) (x : Str) : match tb.lookup x with
    | some d => ∃ u v, (l.find? fun e => Value.isStrOf x e.key).map (·.val) = some u ∧ RelV v u ∧ ∀ F : Hp, Rep B F d v
    | none => (l.find? fun e => Value.isStrOf x e.key).map (·.val) = none := by
  induction h with
  | nil => rfl
  | @cons e r k d t hk hv h ih =>
    obtain ⟨tok, ek⟩ := hk
    obtain ⟨v, rv, rep⟩ := hv
    have e1 : Value.isStrOf x e.key = (x == k) := by
      rw [ek]
      show (k == x) = (x == k)
      cases q : k == x with
      | true => rw [beq_iff_eq.mp q]; simp
      | false =>
        cases q2 : x == k with
        | false => rfl
        | true => rw [beq_iff_eq.mp q2] at q; simp at q
    rw [List.lookup_cons, List.find?_cons, e1]
    cases q : x == k with
    | true => exact ⟨e.val, v, rfl, rv, rep⟩
    | false => exact ih
/-- the dict at a, with that table -/
structure KTab (K : PySem.W.Frag) (w : World) (B : Bx) (a : Addr) (tb : List (Str × D)) : Prop where
  ex : ∃ es n, K.lookup a = some ⟨.type "dict", none, .dict es n, #[]⟩ ∧ PySem.W.KeysLit w.params es.toList ∧ (a == sysModules) = false ∧ TabOk B es.toList tb
theorem KTab.fits {K : PySem.W.Frag} {w : World} {B : Bx} {a : Addr} {tb : List (Str × D)} (T : KTab K w B a tb) (x : Str) : ∃ es n, K.lookup a = some ⟨.type "dict", none, .dict es n, #[]⟩ ∧ PySem.W.KeysLit w.params es.toList ∧ (a == sysModules) = false ∧ match tb.lookup x with
    | some d => ∃ u v, findBy Value.isStrOf es x = some u ∧ RelV v u ∧ ∀ F : Hp, Rep B F d v
    | none => findBy Value.isStrOf es x = none := by
  obtain ⟨es, n, h1, h2, h3, h4⟩ := T.ex
  refine ⟨es, n, h1, h2, h3, ?_⟩
  have := h4.find x
  obtain ⟨l⟩ := es
  simpa only [findBy, List.find?_toArray] using this
def dGet (tb : List (Str × D)) : D → D → Option D
  | .str z, d => match tb.lookup z with
    | some r => some r
    | none => if scalar d = true then some d else none
  | _, _ => none
section
variable {B : Bx} {X : Cx} {W : WX} {F H : Hp} {env : AN.Env} {σ : L2.St} {Q : VK} {e f : Expr} {me mf : M Opd} {pos p apos : Pos} {x : Str} {a : Addr} {tb : List (Str × D)}
def tKGet (tb : List (Str × D)) (B : Bx) (te tf : TE) : TE := fun σ H Q => te σ H fun y H1 => tf σ H1 fun z H2 => ∃ s, y = .str s ∧ (∀ d v, tb.lookup s = some d → (∀ F : Hp, Rep B F d v) → Q v H2) ∧ (tb.lookup s = none → Q z H2)
theorem pe_kget {te tf : TE} (T : KTab X.K X.w B a tb) (hm : X.mg x = some (.ref a)) (he : PE X e te) (hf : PE X f tf) (hu : X.A.units + 1 < cLine) (m : M2 X (.Name x p) "get" apos e f pos) (hg : Gl X x := by rfl) (hdb : (x == ("__debug__" : Str)) = false := by decide) :
    PE X (.Call (.Attribute (.Name x p) "get" apos) [e, f] [] pos) (tKGet tb B te tf) := by
  refine ⟨fun pins s σ H Q I h => ?_⟩
  refine wpAny_Call_method m.base m.few m.line PySem.F.plainAttrs_dict PySem.F.slot_dict_get PySem.F.type_dict_get (ld_glob I hg hm ?_ hdb)
  obtain ⟨es0, n0, l0, _, _, _⟩ := T.ex
  refine ⟨⟨_, I.kIn _ _ l0, rfl⟩, fun b q => by cases q; exact ⟨_, I.kIn _ _ l0, rfl⟩, ?_⟩
  rw [m.trees]
  refine Calls.callWith_builtin rfl (Calls.evalArgs_plain (Calls.spliced_cons (thn (he.run pins s σ H _ I h) fun iv s2 ⟨y, H1, I1, ry, q1⟩ => Calls.spliced_cons (thn (hf.run pins s2 σ H1 _ I1 q1) fun fv s3 ⟨z, H2, I2, rz, st, ey, q2, q3⟩ => Calls.spliced_nil ?_))))
  subst ey
  obtain ⟨tok, rfl⟩ := ry
  obtain ⟨es, n, hl, hk, hs, ft⟩ := T.fits st
  have hmap := PySem.W.mapOf_K (prog := X.prog) (w := X.w) I2.kIn hl hk
  refine call_meetsIn PySem.F.slot_dict_get hmap.typeIs PySem.F.entry_dict_get (PySem.F.args_dict_get_3 _ _ _) (meets_dict_get_default (strKind X.prog X.w) a (strKind_is X.prog X.w st tok) hs fv) ⟨_, hmap, ?_⟩
  cases q : tb.lookup st with
  | none =>
    rw [q] at ft
    rw [ft]
    exact ⟨z, H2, I2.tok _, rz, q3 q⟩
  | some d =>
    rw [q] at ft
    obtain ⟨u, v, e1, rv, rep⟩ := ft
    rw [e1]
    exact ⟨v, H2, I2.tok _, rv, q2 d v q rep⟩
theorem de_kget (T : ∃ a, X.mg x = some (.ref a) ∧ KTab X.K X.w B a tb) (he : DE B X W e me) (hf : DE B X W f mf) (hu : X.A.units + 70 < cLine) (m : M2 X (.Name x p) "get" apos e f pos := by exact ⟨rfl, rfl, rfl, rfl⟩) (hg : Gl X x := by rfl) (hdb : (x == ("__debug__" : Str)) = false := by decide) :
    DE B X W (.Call (.Attribute (.Name x p) "get" apos) [e, f] [] pos) (mD (mB2 (dGet tb) me mf)) := by
  obtain ⟨a, hm, T⟩ := T
  refine PE.imp (pe_kget T hm he hf (by omega) m hg hdb) fun σ H Q h => ?_
  refine op2 (g := dGet tb) (r := fun y z H Q => ∃ s, y = .str s ∧ (∀ d v, tb.lookup s = some d → (∀ F : Hp, Rep B F d v) → Q v H) ∧ (tb.lookup s = none → Q z H)) (fun F H a b z x y Q hh sa sb e q => ?_) h
  cases a with
  | str s =>
    obtain ⟨rfl, _⟩ := sa
    refine ⟨s, rfl, fun d v l r => ?_, fun l => ?_⟩
    · dsimp only [dGet] at e
      rw [l] at e
      cases e
      exact q v F H (Step.refl _ _ _) hh (r F)
    · dsimp only [dGet] at e
      rw [l] at e
      dsimp only at e
      by_cases hs : scalar b = true
      · rw [if_pos hs] at e
        cases e
        refine q y F H (Step.refl _ _ _) hh ?_
        cases b with
        | non => exact sb
        | bl _ => exact sb
        | int _ => exact sb
        | str _ => exact sb
        | _ => cases hs
      · rw [if_neg hs] at e; cases e
  | _ => cases e
end
end AN

set_option Elab.async false
set_option maxRecDepth 100000
set_option autoImplicit false
set_option linter.unusedVariables false
/-! append, a list's sum as a new list, enumerate, a made object let go -/
namespace AN
open PySem L2
section
variable {B : Bx} {X : Cx} {W : WX} {F H : Hp} {env : Env} {σ : St} {Q : VK} {a b c e : Expr} {ma mb mc : M Opd} {pos p : Pos}
def appAt (i : Nat) (d : D) : M Fl := fun env => match env[i]? with
  | some (.ow pn (.lst xs)) => if xs.length < sizeLine then .ok .nx (env.set i (.ow pn (.lst (xs ++ [d])))) else .bad
  | _ => .bad
def mApp (i : Nat) (m : M Opd) : M Fl := M.bind (chkL i) fun _ => M.bind m fun x => M.bind (frz1 x) fun d => appAt i d
theorem ds_append (i : Nat) {x : Str} {p' p2 q : Pos} (he : DE B X W e ma) (hN : X.N[i]? = some x := by rfl) (hv : Vis X.env.scope x := by first | exact Or.inl rfl | exact Or.inr (Or.inl rfl) | exact Or.inr (Or.inr rfl)) (hd : (x == ("__debug__" : Str)) = false := by decide)
    (hcd : (x == ("__classdict__" : Str)) = false := by decide) (hbase : attributeBase (.Name x p') "append" X.env (eval (.Name x p') X.env) = eval (.Name x p') X.env := by rfl)
    (hfew : ((backTo q (starEach [e] X.env)).all (fun x => !x.1) && (backToKw q (keywordEach [] X.env)).all (fun x => x.1.isSome) && decide (([e] : List Expr).length + ([] : List Keyword).length + (if ([] : List Keyword).isEmpty then 0 else 1) < 30)) = true := by rfl)
    (hline : (p2.endLine == q.line) = true := by rfl) (hs : starEach [e] X.env = (false, eval e X.env) :: starEach [] X.env := by rfl) (hplain : (backTo q (starEach [] X.env)).any (·.1) = false := by rfl)
    (hsw : swapsWith (.Call (.Attribute (.Name x p') "append" p2) [e] [] q) none pos.line X.env = pure false := by rfl) : DS B X W (.Expr (.Call (.Attribute (.Name x p') "append" p2) [e] [] q) pos) (mApp i ma) :=
  PS.imp (ps_expr (pe_bm PySem.F.plainAttrs_list PySem.F.slot_list_append PySem.F.type_list_append mt_append (pe_var hN hv hd hcd) (pa_cons he pa_nil hs) hbase hfew hline hs hplain) hsw) fun D0 σ H h => by
    obtain ⟨F, env, S, h⟩ := h
    obtain ⟨pn, xs, q0, h1⟩ := PostS.chkL S h
    obtain ⟨l, e1, e2, z0, vs, e3, e4⟩ := S.ow i pn _ q0
    refine ⟨.ref l, e1, .inl ⟨rfl, vs, .inl (.inl e3)⟩, F, env, S, h1.bind.mono fun y ev1 F1 H1 s1 m1 o1 k1 v rv => ?_⟩
    obtain ⟨d, ev2, F2, s2, m2, o2, r2, k2⟩ := m1.frz1 rv k1.bind
    unfold appAt at k2
    cases q : ev2[i]? with
    | none => rw [q] at k2; exact k2.elim
    | some s =>
      rw [q] at k2
      cases s with
      | no => exact k2.elim
      | fz _ => exact k2.elim
      | ow pn2 o =>
        cases o with
        | dic _ => exact k2.elim
        | obj _ _ => exact k2.elim
        | lst ys =>
          dsimp only at k2
          by_cases g : ys.length < sizeLine
          · rw [if_pos g] at k2
            obtain ⟨l2, y1, y2, y3, us, y4, y5⟩ := m2.ow i pn2 _ q
            rw [e1] at y1
            cases y1
            refine ⟨l, us, v, rfl, rfl, y4, by rw [y5.length]; exact g, ?_⟩
            exact k2 _ _ _ (m2.setOw q e1 ⟨by rw [List.length_append, List.length_singleton]; exact g, _, upd_same, y5.snoc r2⟩)
          · rw [if_neg g] at k2; exact k2.elim
/-- xs + ys, as a new list -/
def oAddL : D → D → Option O
  | .lst xs, .lst ys => if xs.length + ys.length ≤ sizeLine then some (.lst (xs ++ ys)) else none
  | _, _ => none
theorem p_addL (hK : X.K = B.K) : PrimO2 B oAddL (rCatL X.K) := fun F H a b o x y Q hh sa sb e q => by
  cases a with
  | lst xs =>
    cases b with
    | lst ys =>
      obtain ⟨p, vs, rfl, a1, z1, r1⟩ := sa
      obtain ⟨p2, vs2, rfl, a2, z2, r2⟩ := sb
      dsimp only [oAddL] at e
      by_cases hl : xs.length + ys.length ≤ sizeLine
      · rw [if_pos hl] at e; cases e
        refine ⟨p, p2, vs, vs2, rfl, rfl, by rw [hK]; exact a1, by rw [hK]; exact a2, by rw [r1.length, r2.length]; exact hl, fun p3 hp => ?_⟩
        obtain ⟨s3, h3⟩ := step0_mk (u := .lst (vs ++ vs2)) hh hp
        exact q p3 _ s3 h3 hp ⟨by rw [List.length_append]; exact hl, _, upd_same, r1.append r2⟩
      · rw [if_neg hl] at e; cases e
    | _ => cases e
  | _ => cases e
theorem do_addL (hK : X.K = B.K) (ha : DE B X W a ma) (hb : DE B X W b mb) : DO B X W (.BinOp a .Add b pos) (mB2 oAddL ma mb) := do_bin op_catL (p_addL hK) ha hb
/-- an expression statement whose value is let go -/
theorem ds_drop0 {m : M O} (he : DO B X W e m) (hs : swapsWith e none pos.line X.env = pure false := by rfl) : DS B X W (.Expr e pos) (mDrop (mFz m)) := ds_expr (de_o he) hs
/-! ### enumerate -/
def pairs : Nat → List D → List D
  | _, [] => []
  | i, d :: ds => .tup [.int (i : Nat), d] :: pairs (i + 1) ds
theorem pairs_get : ∀ (ds : List D) (j i : Nat), (pairs j ds)[i]? = ds[i]?.map fun d => .tup [.int ((j + i : Nat) : Int), d]
  | [], j, i => by simp [pairs]
  | d :: ds, j, 0 => by simp [pairs]
  | d :: ds, j, i + 1 => by
    rw [pairs, List.getElem?_cons_succ, List.getElem?_cons_succ, pairs_get ds (j + 1) i]
    have : j + 1 + i = j + (i + 1) := by omega
    rw [this]
theorem pairs_len : ∀ (ds : List D) (j : Nat), (pairs j ds).length = ds.length
  | [], _ => rfl
  | d :: ds, j => by rw [pairs, List.length_cons, pairs_len ds (j + 1), List.length_cons]
def enumOf : D → Option (List D)
  | .lst xs => some (pairs 0 xs)
  | _ => none
def mEnum (m : M Opd) : M (List D) := M.bind m fun x => M.bind (frz1 x) fun d => opt (enumOf d)
theorem iter_enum {a : Addr} {vs : List V} {ds : List D} (h : LAt B F a vs) (r : RepL B F ds vs) : Iter B F (Ite B.K a) (pairs 0 ds) := fun i F1 H1 l hh => by
  have hs : SqL B.K H1 a vs := (h.mono l).sq hh
  refine ⟨fun d e => ?_, fun e => ⟨vs, hs, by rw [r.length, e, pairs_len]; exact Nat.le_refl _⟩⟩
  rw [pairs_get] at e
  cases q : ds[i]? with
  | none => rw [q] at e; cases e
  | some d0 =>
    rw [q] at e
    have e' : d = .tup [.int (i : Nat), d0] := by
      have := Option.some.inj e
      rw [← this, Nat.zero_add]
    subst e'
    obtain ⟨v, hv, rv⟩ := r.get q
    refine ⟨⟨vs, v, hs, hv⟩, fun x H2 y => ?_⟩
    obtain ⟨T, x0, rfl, hT, rfl, y⟩ := y
    have := y vs hs
    rw [hv] at this; cases this
    obtain ⟨s3, h3⟩ := step0_new (u := .tup [.int (i : Nat), v]) hh hT
    exact ⟨_, s3, h3, T, _, rfl, .inl upd_same, (by show 2 ≤ sizeLine; decide), _, _, rfl, rfl, _, _, rfl, Rep.mono (l.trans s3.le) _ _ rv, rfl⟩
theorem di_enum {elts : List Expr} {kk : Nat} {tpos : Pos} (hK : X.K = B.K) (ha : DE B X W e ma) (hm : X.mg "enumerate" = none) (hg : Gl X "enumerate" := by rfl) (hs : starEach [e] X.env = [(false, eval e X.env)] := by rfl) :
    DI B X W (.Tuple elts kk tpos) (.Call (.Name "enumerate" p) [e] [] pos) (mEnum ma) := PI.imp (pi_enum hg hm (pa_cons ha pa_nil hs) hs) fun σ H R h => by
  obtain ⟨F, env, S, h⟩ := h
  refine ⟨F, env, S, (Post.bind S h).mono fun x e1 F1 H1 s1 m1 o1 k1 v rv => ?_⟩
  obtain ⟨d, e2, F2, s2, m2, o2, r2, k2⟩ := m1.frz1 rv (Post.bind m1 k1)
  obtain ⟨ds, e3, k3⟩ := Post.opt m2 k2
  cases d with
  | lst xs =>
    cases e3
    obtain ⟨p, vs, rfl, a, z, r⟩ := r2
    refine ⟨p, vs, rfl, by rw [hK]; exact a.sq m2.hold, ?_⟩
    rw [hK]
    exact k3 _ (iter_enum a r)
  | _ => cases e3
end
end AN

set_option Elab.async false
set_option maxRecDepth 100000
set_option autoImplicit false
set_option linter.unusedVariables false
/-! C(k = v, ..): keywords alone -/
namespace AN
open PySem PySem.Spec PyProof.Rows L2
/-- in the parameters' order -/
def pk {α : Type} (π : List Nat) (l : List α) : List α := π.filterMap fun i => l[i]?
theorem pk_cons' {α : Type} (i : Nat) (π : List Nat) (l : List α) : pk (i :: π) l = (match l[i]? with
  | some a => a :: pk π l
  | none => pk π l) := by
  unfold pk
  rw [List.filterMap_cons]
  cases l[i]? <;> rfl
theorem pk_paired {α β : Type} {R : α → β → Prop} {l : List α} {m : List β} (hl : l.length = m.length) (h : ∀ (i : Nat) (a : α) (b : β), l[i]? = some a → m[i]? = some b → R a b) : ∀ π : List Nat, Paired R (pk π l) (pk π m)
  | [] => .nil
  | i :: π => by
    rw [pk_cons', pk_cons']
    cases q : l[i]? with
    | none =>
      have : m[i]? = none := by rw [List.getElem?_eq_none_iff] at q ⊢; omega
      rw [this]
      exact pk_paired hl h π
    | some a =>
      cases q2 : m[i]? with
      | none => rw [List.getElem?_eq_none_iff] at q2; have := (List.getElem?_eq_some_iff.mp q).1; omega
      | some b => exact .cons (h i a b q q2) (pk_paired hl h π)
theorem paired_get {α β : Type} {R : α → β → Prop} {l : List α} {m : List β} (h : Paired R l m) : ∀ (i : Nat) (a : α) (b : β), l[i]? = some a → m[i]? = some b → R a b := by
  induction h with
  | nil => intro i a b e; simp at e
  | cons r t ih =>
    intro i a b e1 e2
    cases i with
    | zero => simp at e1 e2; subst e1 e2; exact r
    | succ i => exact ih i a b (by simpa using e1) (by simpa using e2)
theorem opds_paired {B : Bx} {F : Hp} {σ : L2.St} {vs : List V} {xs : List Opd} (h : OpdsRel B F σ vs xs) : Paired (fun v x => OpdRel B F σ v x) vs xs := by
  induction h with
  | nil => exact .nil
  | cons h _ ih => exact .cons h ih
theorem paired_opds {B : Bx} {F : Hp} {σ : L2.St} {vs : List V} {xs : List Opd} (h : Paired (fun v x => OpdRel B F σ v x) vs xs) : OpdsRel B F σ vs xs := by
  induction h with
  | nil => exact .nil
  | cons h _ ih => exact .cons h ih
theorem OpdsRel.pk {B : Bx} {F : Hp} {σ : L2.St} {vs : List V} {xs : List Opd} (h : OpdsRel B F σ vs xs) (π : List Nat) : OpdsRel B F σ (AN.pk π vs) (AN.pk π xs) :=
  paired_opds (pk_paired h.len (paired_get (opds_paired h)) π)
def mMakeK (c : String) (n : Nat) (π : List Nat) (f : Fn) (ms : M (List Opd)) : M O := M.bind ms fun xs => makeP c n f (pk π xs)
/-- how the keywords ks bind -/
def KBp (K : PySem.W.Frag) (fd : FuncData) (ps ks : List Str) (π : List Nat) : Prop := ∀ (s : Shared) (u : Value) (ws : List Value), K.In s.heap → ws.length = ks.length → BindsTo s fd ⟨[u], ks.zip ws⟩ (ps.zip (u :: pk π ws))
section
variable {B : Bx} {X : Cx} {W : WX} {F H : Hp} {env : AN.Env} {σ : L2.St} {Q : VK} {k : Nat} {f C : Addr} {fd : FuncData} {ps ks : List Str} {sp : Sp} {E : L2.St → XK} {x : Str} {p pos : Pos} {kws : List Keyword} {t : TA} {π : List Nat}
def tMakeKS (C : Addr) (m : Nat) (π : List Nat) (sp : Sp) (E : L2.St → XK) (t : TA) : TE := fun σ H Q => t σ H fun zs H1 => zs.length = m ∧ ∀ x dx, H1 x = none → H1 dx = none → dx ≠ x → sp (.ref x :: pk π zs) (upd (upd H1 dx (.own x)) x (.ins C dx [])) (fun v H2 => v = .non ∧ Q (.ref x) H2) (E σ)
theorem pe_makeKS (M : Mk X.K C f) (F : FnOk X.prog X.w X.K X.mg X.base (L2.CX X.prog X.w) k f fd ps sp) (hr : Room (k + 1) X.A) (hm : X.mg x = some (.ref C)) (hb : KBp X.K fd ps ks π) (hx : ∀ σ, PassesAt (L2.CX X.prog X.w) X σ (E σ)) (hkw : PK X kws t) (hg : Gl X x := by rfl)
    (hall : (backToKw pos (keywordEach kws X.env)).all (·.1.isSome) = true := by rfl) (hks : (backToKw pos (keywordEach kws X.env)).filterMap (·.1) = ks := by rfl) (hdb : (x == ("__debug__" : Str)) = false := by decide)
    (hpl : ((backTo pos (starEach [] X.env)).any (·.1) || (backToKw pos (keywordEach kws X.env)).any (·.1.isNone)) = false := by rfl) :
    PE X (.Call (.Name x p) [] kws pos) (tMakeKS C ks.length π sp E t) := by
  refine ⟨fun pins s0 σ H0 Q I0 h => wpAny_Call_Name_kw (ld_glob I0 hg hm ?_ hdb)⟩
  refine PySem.W.callWith_KW0 (h₀ := X.base) I0.ok.mod.kin M.kp hall ?_ hpl
  refine thn (hkw.run pos pins s0 σ H0 _ I0 h) fun ws s ⟨zs, H, I, rz, l2, q2⟩ => ⟨I.kIn, ?_⟩
  rw [hks]
  have q := q2 (s.heap.objs.size + 1) s.heap.objs.size (I.hok.fresh (Nat.le_succ _)) (I.hok.fresh (Nat.le_refl _)) (Nat.ne_of_lt (Nat.lt_succ_self _))
  have J := Inv.made (C := C) I
  have vals : Vals (V.ref (s.heap.objs.size + 1) :: pk π zs) (Value.ref (s.heap.objs.size + 1) :: pk π ws) := .cons rfl (pk_paired rz.length (paired_get rz) π)
  have b := hb { s with heap := (s.heap.push PySem.W.emptyDict).push (PySem.W.instObj C s.heap.objs.size) } (Value.ref (s.heap.objs.size + 1)) ws J.kIn (rz.length.symm.trans l2)
  refine wpAny_call (make_map (f := f) (vs := []) (kw := ks.zip ws) I.kIn M.makes M.init (beq_iff_eq.mp M.fn) (codeAny_mono (F.run _ X.stack _ _ ⟨[Value.ref (s.heap.objs.size + 1)], ks.zip ws⟩ _ _ _ (E σ) (hr.make C [] (ks.zip ws)) (J.env0.make C [] (ks.zip ws)) b vals q) fun z s' y => ?_))
  cases z with
  | error u => exact hx σ pins _ _ u s' J y
  | ok fl =>
    cases fl with
    | ret u =>
      obtain ⟨v, H', J2, rv, rfl, q2⟩ := J.after y
      exact ⟨rv, ⟨.ref _, H', J2, rfl, q2⟩⟩
    | next => exact y.elim
    | brk => exact y.elim
    | cont => exact y.elim
/-- the keywords' values, read plainly -/
abbrev DK (B : Bx) (X : Cx) (W : WX) (kws : List Keyword) (m : M (List Opd)) : Prop := PK X kws (tA B W m)
variable {e : Expr} {ma : M Opd} {ms : M (List Opd)} {nm : Option Str} {kp : Pos}
theorem PK.imp {t t' : TA} (h : PK X kws t) (i : ∀ σ H Q, t' σ H Q → t σ H Q) : PK X kws t' := ⟨fun pos pins s σ H Q I q => h.run pos pins s σ H Q I (i σ H Q q)⟩
theorem dk0 : DK B X W [] mA0 := PK.imp pk_nil fun σ H Q h => by
  obtain ⟨F, env, S, h⟩ := h
  exact Post.here S h [] .nil
theorem dk (ha : DE B X W e ma) (hr : DK B X W kws ms) : DK B X W (⟨nm, e, kp⟩ :: kws) (mA ma ms) := PK.imp (pk_cons ha hr) fun σ H Q h => by
  obtain ⟨F, env, S, h⟩ := h
  refine tE.one S h fun x e1 F1 H1 v s1 m1 o1 rv k1 => ⟨F1, e1, m1, (Post.bind m1 k1).mono fun xs e2 F2 H2 s2 m2 o2 k2 vs rvs => ?_⟩
  exact Post.here m2 k2 (v :: vs) (.cons (rv.mono s2.le) rvs)
structure MakK (P : Program) (w : World) (K : PySem.W.Frag) (mg : Str → Option Value) (base : Heap) (B : Bx) (x : Str) (c : String) (k : Nat) (ps ks : List Str) (π : List Nat) (f : Fn) : Prop where
  ex : ∃ C fa fd, B.cls c = some C ∧ Mk K C fa ∧ FnOk P w K mg base (L2.CX P w) k fa fd ("self" :: ps) (spOf B (ps.length + 1) f) ∧ KBp K fd ("self" :: ps) ks π ∧ mg x = some (.ref C)
theorem do_makeK {c : String} {fn : Fn} (N : MakK X.prog X.w X.K X.mg X.base B x c k ps ks π fn) (hr : Room (k + 1) X.A) (tk : Takes X W) (ha : DK B X W kws ms) (hl : ∀ env xs e, ms env = .ok xs e → xs.length = ks.length) (hg : Gl X x := by rfl)
    (hall : (backToKw pos (keywordEach kws X.env)).all (·.1.isSome) = true := by rfl) (hks : (backToKw pos (keywordEach kws X.env)).filterMap (·.1) = ks := by rfl) (hdb : (x == ("__debug__" : Str)) = false := by decide)
    (hpl : ((backTo pos (starEach [] X.env)).any (·.1) || (backToKw pos (keywordEach kws X.env)).any (·.1.isNone)) = false := by rfl) :
    DO B X W (.Call (.Name x p) [] kws pos) (mMakeK c ps.length π fn ms) := by
  obtain ⟨C, fa, fd, hc, M, G, hb, hm⟩ := N.ex
  refine PE.imp (pe_makeKS (E := WE W) M G hr hm hb (fun σ => passAt tk σ) ha hg hall hks hdb hpl) fun σ H Q h => ?_
  obtain ⟨F, env, S, h⟩ := h
  refine ⟨F, env, S, ?_⟩
  have h2 := Post.bind S h
  cases q : ms env with
  | bad => rw [q] at h2; exact h2
  | exc c d e' => rw [q] at h2; exact h2
  | ok xs e1 =>
    rw [q] at h2
    intro F1 H1 s1 m1 l1 vs rvs
    refine ⟨by rw [rvs.len]; exact hl env xs e1 q, ?_⟩
    exact make_read hc m1 (rvs.pk π) (h2 F1 H1 s1 m1 l1) fun o e2 F2 H2 s2 m2 l2 k2 p hp hf ho => k2 p (s1.back hp) hf ho
end
end AN

set_option Elab.async false
set_option maxRecDepth 100000
set_option autoImplicit false
set_option linter.unusedVariables false
/-! the tables of a law's classes; the end with them -/
namespace AN
open PySem L2
def bxOf (K : PySem.W.Frag) (cs : List (String × Addr)) (es : List (String × Addr × Str)) : Bx := ⟨K, fun c => cs.lookup c, fun c => es.lookup c⟩
theorem look_mem {α : Type} {c : String} {a : α} : ∀ {l : List (String × α)}, l.lookup c = some a → (c, a) ∈ l
  | [], h => by cases h
  | (k, x) :: r, h => by
    rw [List.lookup_cons] at h
    cases q : c == k with
    | true => rw [q] at h; cases h; rw [beq_iff_eq.mp q]; simp
    | false => rw [q] at h; exact List.mem_cons_of_mem _ (look_mem h)
section
variable {K : PySem.W.Frag} {cs : List (String × Addr)} {es : List (String × Addr × Str)}
theorem ocs_of (h : ∀ p ∈ cs, Ocl K p.2) : Ocs (bxOf K cs es) K := fun c C e => h _ (look_mem e)
theorem apart_of (h : ∀ p ∈ cs, ∀ q ∈ cs, PySem.W.notFirst K p.2 (.ref q.2) = true) : Apart (bxOf K cs es) K := fun c c' C C' e e' => h _ (look_mem e) _ (look_mem e')
theorem free_of {ok : String → Bool} {f : Str} (h : ∀ p ∈ cs, ok p.1 = true → NoAttr K p.2 f) : Free (bxOf K cs es) K ok f := fun c C e k => h _ (look_mem e) k
/-- isinstance with an own class -/
theorem isOk_of {C0 : Addr} {fo : String → Bool} (h1 : (PySem.W.clsIn K C0).isSome = true) (h2 : PySem.W.typeIn K (.ref C0) = some (.type "type")) (h : ∀ p ∈ cs, PySem.W.kitOne K (.ref p.2) (.ref C0) = some (fo p.1)) : IsOk (bxOf K cs es) K (.ref C0) (fun _ => false) fo :=
  ⟨fun d hd => kit_own h1 h2 d hd, fun c C e => h _ (look_mem e)⟩
/-- which classes a clause takes -/
theorem cs_of {cv : Value} {f : String → Option Bool} (h : ∀ p ∈ es, ∀ b, f p.1 = some b → PySem.W.exmOne K (.ref p.2.1) cv = some b) (hf : ∀ c b, f c = some b → ∃ q, es.lookup c = some q) (c : String) (b : Bool) (e : f c = some b) :
    ∃ C fld, (bxOf K cs es).exc c = some (C, fld) ∧ PySem.W.exmOne K (.ref C) cv = some b := by
  obtain ⟨⟨C, fld⟩, q⟩ := hf c b e
  exact ⟨C, fld, q, h _ (look_mem q) b e⟩
theorem xf_of {T : String → Option Str} {f : Str} (h : ∀ p ∈ es, T p.1 = some f → p.2.2 = f ∧ XfC K p.2.1 ∧ PySem.W.findIn K (.ref p.2.1) f = some none) (cn : String) (t : T cn = some f) (C : Addr) (fld : Str) (e : (bxOf K cs es).exc cn = some (C, fld)) :
    fld = f ∧ XfC K C ∧ PySem.W.findIn K (.ref C) f = some none := h _ (look_mem e) t
theorem xi_of {T : String → Option Bool} {cv : Value} (h : ∀ p ∈ es, ∀ b, T p.1 = some b → L2.ExcC K p.2.1 ∧ PySem.W.kitOne K (.ref p.2.1) cv = some b) (cn : String) (b : Bool) (t : T cn = some b) (C : Addr) (fld : Str) (e : (bxOf K cs es).exc cn = some (C, fld)) :
    L2.ExcC K C ∧ PySem.W.kitOne K (.ref C) cv = some b := h _ (look_mem e) b t
end
theorem hu70S {k : Nat} {A : Around} {h : Option Value} (hr : Room k A) : (A.mark h).units + 70 < cLine := hu70 (A := A) hr
/-- the end, the tables found on the way -/
theorem walk_t {l : PySem.W.OpenLaw} {k : Nat} {q : Program} {loose : List Str} {XP : (Str → Option Value) → Heap → Prop} {YP : World → Heap → Prop} {d : DefRec} {K : Params → PySem.W.Frag} {x : Str} {f : Fn}
    (hn : l.most = some 63) (hdf : d.params.defaults = []) (hr : Room k callerA) (hY : ∀ (w : World) (h : Heap), YP w h → (K w.params).In h)
    (Fh : ∀ (w : World) (mg : Str → Option Value) (fa : Addr) (h : Heap), (K w.params).In h → h.Ns mainGlobals mg → XP mg h → mg d.name = some (.ref fa) →
      ∃ (fd : FuncData) (cs : List (String × Addr)) (es : List (String × Addr × Str)), (∀ (s : Shared) (u : Value), BindsTo s fd ⟨[u], []⟩ [(x, u)]) ∧
        ∀ base : Heap, (K w.params).In base → base.Ns mainGlobals mg → FnG l.prog w (K w.params) mg base k fa fd [x] (spOf (bxOf (K w.params) cs es) 1 f))
    (hf : ∀ ns : List Int, ns.length ≤ 63 → ∃ as, f [.fz (scriptD ns)] = .ok (.fz (.bl true)) as) :
    PySem.W.WalkO q loose XP YP l.row.toRowW d [] (fun f vs => PySem.call f vs) := by
  refine Att.attach_call hn hdf fun w s₀ s₁ mg mb fa o pm cd doc a vs ns G Y ho hd hcd hmg hobj hints hlen hg => ?_
  have KX := hY w _ Y
  obtain ⟨fd, cs, es, hb, hF⟩ := Fh w mg fa _ KX G.T.g G.X hmg
  refine law_callG KX G.T.g G.T.b G.T.builtins G.T.nolimit hg hobj hints (Nat.le_trans hlen (by decide)) hr hF hb (fun H hO hS => law_sp (B := bxOf (K w.params) cs es) rfl (hf ns hlen) hlen hO hS) fun H e s' h => ?_
  obtain ⟨_, _, _, _, _, _, _, _, _, _, _, _, z⟩ := h
  exact z
end AN

set_option Elab.async false
set_option maxRecDepth 100000
set_option autoImplicit false
set_option linter.unusedVariables false
/-! what is no longer wanted may be forgotten -/
namespace AN
open PySem PySem.Spec PyProof.Rows L2
def wpS : AN.Slot → AN.Slot
  | .ow true o => .ow true o
  | _ => .no
def wipeB : List Bool → AN.Env → AN.Env
  | true :: bs, s :: e => wpS s :: wipeB bs e
  | false :: bs, s :: e => s :: wipeB bs e
  | [], e => e
  | _ :: _, [] => []
theorem wipeB_len : ∀ (bs : List Bool) (e : AN.Env), (wipeB bs e).length = e.length
  | [], e => by cases e <;> rfl
  | b :: bs, [] => by cases b <;> rfl
  | true :: bs, s :: e => by simp [wipeB, wipeB_len bs e]
  | false :: bs, s :: e => by simp [wipeB, wipeB_len bs e]
theorem wipeB_get : ∀ {bs : List Bool} {e : AN.Env} {i : Nat} {s : AN.Slot}, (wipeB bs e)[i]? = some s → s = .no ∨ e[i]? = some s
  | [], e, i, s, h => by
    have : wipeB [] e = e := by cases e <;> rfl
    rw [this] at h; exact .inr h
  | b :: bs, [], i, s, h => by cases b <;> simp [wipeB] at h
  | true :: bs, t :: e, 0, s, h => by
    simp only [wipeB, List.getElem?_cons_zero, Option.some.injEq] at h
    subst h
    cases t with
    | no => exact .inl rfl
    | fz _ => exact .inl rfl
    | ow k o => cases k with
      | true => exact .inr rfl
      | false => exact .inl rfl
  | false :: bs, t :: e, 0, s, h => .inr h
  | true :: bs, t :: e, i + 1, s, h => by
    simp only [wipeB, List.getElem?_cons_succ] at h ⊢
    exact wipeB_get h
  | false :: bs, t :: e, i + 1, s, h => by
    simp only [wipeB, List.getElem?_cons_succ] at h ⊢
    exact wipeB_get h
theorem wipeB_pin : ∀ {bs : List Bool} {e : AN.Env} {i : Nat} {o : O}, e[i]? = some (.ow true o) → (wipeB bs e)[i]? = some (.ow true o)
  | [], e, i, o, h => by
    have : wipeB [] e = e := by cases e <;> rfl
    rw [this]; exact h
  | b :: bs, [], i, o, h => by simp at h
  | true :: bs, t :: e, 0, o, h => by
    simp only [List.getElem?_cons_zero, Option.some.injEq] at h
    subst h; rfl
  | false :: bs, t :: e, 0, o, h => h
  | true :: bs, t :: e, i + 1, o, h => by
    simp only [wipeB, List.getElem?_cons_succ] at h ⊢
    exact wipeB_pin h
  | false :: bs, t :: e, i + 1, o, h => by
    simp only [wipeB, List.getElem?_cons_succ] at h ⊢
    exact wipeB_pin h
def mW (bs : List Bool) (m : M Fl) : M Fl := fun e => match m e with
  | .ok .nx e' => .ok .nx (wipeB bs e')
  | .ok .ct e' => .ok .ct (wipeB bs e')
  | .ok .bk e' => .ok .bk (wipeB bs e')
  | r => r
section
variable {B : Bx} {X : Cx} {W : WX} {F H F1 H1 : Hp} {env e1 : AN.Env} {σ σ1 : L2.St} {bs : List Bool} {m : M Fl}
theorem Sim.wipeB (S : Sim B F env σ H) : Sim B F (AN.wipeB bs env) σ H where
  hold := S.hold
  len := (wipeB_len bs env).trans S.len
  fz := fun i d q => by
    rcases wipeB_get q with z | z
    · cases z
    · exact S.fz i d z
  ow := fun i k o q => by
    rcases wipeB_get q with z | z
    · cases z
    · exact S.ow i k o z
  sep := fun i j k o k' o' p q q' => by
    rcases wipeB_get q with z | z
    · cases z
    rcases wipeB_get q' with z' | z'
    · cases z'
    exact S.sep i j k o k' o' p z z'
theorem Go.wipeB (g : Go B F env σ H F1 e1 σ1 H1) : Go B F env σ H F1 (AN.wipeB bs e1) σ1 H1 where
  step := g.step
  sim := g.sim.wipeB
  own := fun b ⟨i, o, q, z⟩ => by
    rcases wipeB_get q with y | y
    · cases y
    · exact g.own b ⟨i, o, y, z⟩
  pin := fun i o q => by
    obtain ⟨⟨o', z⟩, y⟩ := g.pin i o q
    exact ⟨⟨o', wipeB_pin z⟩, y⟩
  unpin := fun i o q => by
    rcases wipeB_get q with y | y
    · cases y
    · exact g.unpin i o y
  len := g.len
theorem PostS.unwipe {D : Ends} (h : PostS B W F env σ H D (mW bs m env)) : PostS B W F env σ H D (m env) := by
  unfold mW at h
  cases q : m env with
  | bad => rw [q] at h; exact h
  | exc c d e' => rw [q] at h; exact h
  | ok f e' =>
    rw [q] at h
    cases f with
    | nx => exact fun σ' F' H' g => h σ' F' H' g.wipeB
    | ct => exact fun σ' F' H' g => h σ' F' H' g.wipeB
    | bk => exact fun σ' F' H' g => h σ' F' H' g.wipeB
    | rt d => exact h
    | ro o => exact h
theorem ds_w (bs : List Bool) {st : Stmt} (h : DS B X W st m) : DS B X W st (mW bs m) := PS.imp h fun D σ H h => by
  obtain ⟨F, env, S, h⟩ := h
  exact ⟨F, env, S, h.unwipe⟩
theorem dss_w (bs : List Bool) {st : List Stmt} (h : DSs B X W st m) : DSs B X W st (mW bs m) := PSs.imp h fun D σ H h => by
  obtain ⟨F, env, S, h⟩ := h
  exact ⟨F, env, S, h.unwipe⟩
/-- a piece that is never reached -/
theorem ds_bad {st : Stmt} : DS B X W st (fun _ => .bad) := ⟨fun pins s σ H Q I h => by
  obtain ⟨F, env, S, h⟩ := h
  exact h.elim⟩
theorem de_bad {e : Expr} : DE B X W e (fun _ => .bad) := ⟨fun pins s σ H Q I h => by
  obtain ⟨F, env, S, h⟩ := h
  exact h.elim⟩
end
def R.wp (bs : List Bool) : R Fl → R Fl
  | .ok .nx e' => .ok .nx (wipeB bs e')
  | .ok .ct e' => .ok .ct (wipeB bs e')
  | .ok .bk e' => .ok .bk (wipeB bs e')
  | r => r
@[simp] theorem mW_r {bs : List Bool} {m : M Fl} {e : AN.Env} : mW bs m e = (m e).wp bs := rfl
section
variable {bs : List Bool} {s : AN.Slot} {e : AN.Env} {d : D} {o : O} {c : String}
@[simp] theorem wp_nx : R.wp bs (.ok .nx e) = .ok .nx (wipeB bs e) := rfl
@[simp] theorem wp_ct : R.wp bs (.ok .ct e) = .ok .ct (wipeB bs e) := rfl
@[simp] theorem wp_bk : R.wp bs (.ok .bk e) = .ok .bk (wipeB bs e) := rfl
@[simp] theorem wp_rt : R.wp bs (.ok (.rt d) e) = .ok (.rt d) e := rfl
@[simp] theorem wp_ro : R.wp bs (.ok (.ro o) e) = .ok (.ro o) e := rfl
@[simp] theorem wp_exc : R.wp bs (.exc c d e) = .exc c d e := rfl
@[simp] theorem wp_bad : R.wp bs .bad = .bad := rfl
@[simp] theorem wipeB_t : wipeB (true :: bs) (s :: e) = wpS s :: wipeB bs e := rfl
@[simp] theorem wipeB_f : wipeB (false :: bs) (s :: e) = s :: wipeB bs e := rfl
@[simp] theorem wipeB_n : wipeB [] e = e := by cases e <;> rfl
@[simp] theorem wpS_no : wpS .no = .no := rfl
@[simp] theorem wpS_fz : wpS (.fz d) = .no := rfl
@[simp] theorem wpS_owf : wpS (.ow false o) = .no := rfl
@[simp] theorem wpS_owt : wpS (.ow true o) = .ow true o := rfl
end
/-- a loop that leaves all as it was -/
theorem loop_same {g : D → AN.Env → Option AN.Env} {body : M Fl} : ∀ {ds : List D} {e : AN.Env}, (∀ d ∈ ds, ∃ e1, g d e = some e1 ∧ (body e1 = .ok .nx e ∨ body e1 = .ok .ct e)) → loop g body ds e = .ok .nx e
  | [], e, _ => rfl
  | d :: ds, e, s => by
    obtain ⟨e1, h1, h2⟩ := s d (by simp)
    have ih := loop_same (g := g) (body := body) (ds := ds) (e := e) (fun d hd => s d (by simp [hd]))
    rcases h2 with h2 | h2 <;> simp only [loop, h1, h2, ih]
/-- a loop that leaves all but one thing as it was -/
theorem loop_st {α : Type} {g : D → AN.Env → Option AN.Env} {body : M Fl} (E : α → AN.Env) (I : α → Prop) : ∀ {ds : List D} {a : α}, I a → (∀ d ∈ ds, ∀ a, I a → ∃ e1 a', g d (E a) = some e1 ∧ (body e1 = .ok .nx (E a') ∨ body e1 = .ok .ct (E a')) ∧ I a') → ∃ a', loop g body ds (E a) = .ok .nx (E a') ∧ I a'
  | [], a, h, _ => ⟨a, rfl, h⟩
  | d :: ds, a, h, s => by
    obtain ⟨e1, a', h1, h2, h3⟩ := s d (by simp) a h
    obtain ⟨a2, h4, h5⟩ := loop_st E I (ds := ds) h3 (fun d hd => s d (by simp [hd]))
    refine ⟨a2, ?_, h5⟩
    rcases h2 with h2 | h2 <;> simp only [loop, h1, h2, h4]
/-- a loop as a fold -/
theorem loop_fold {α : Type} {g : D → AN.Env → Option AN.Env} {body : M Fl} (E : α → AN.Env) (f : α → D → α) : ∀ {ds : List D} {a : α}, (∀ (pre : List D) (d : D) (suf : List D), ds = pre ++ d :: suf → ∃ e1, g d (E (pre.foldl f a)) = some e1 ∧ (body e1 = .ok .nx (E (f (pre.foldl f a) d)) ∨ body e1 = .ok .ct (E (f (pre.foldl f a) d)))) →
    loop g body ds (E a) = .ok .nx (E (ds.foldl f a))
  | [], a, _ => rfl
  | d :: ds, a, s => by
    obtain ⟨e1, h1, h2⟩ := s [] d ds rfl
    have ih := loop_fold E f (ds := ds) (a := f a d) (fun pre d' suf e => by
      have := s (d :: pre) d' suf (by rw [e]; rfl)
      exact this)
    simp only [List.foldl_nil] at h1 h2
    rcases h2 with h2 | h2 <;> simp only [loop, h1, h2] <;> exact ih
end AN

set_option Elab.async false
set_option maxRecDepth 100000
set_option autoImplicit false
set_option linter.unusedVariables false
/-! special methods of own classes -/
namespace AN
open PySem PySem.Spec PyProof.Rows L2
section
variable {B : Bx} {X : Cx} {W : WX} {F H F1 H1 : Hp} {env e1 : AN.Env} {σ : L2.St} {Q : VK} {a b : Expr} {ma mb : M Opd} {pos p : Pos} {k : Nat}
/-- a def's call inside an operation -/
theorem sp_call {pins : List (Addr × Obj)} {s : Shared} {vs : List V} {us : List Value} {A : Around} {fa : Addr} {fd : FuncData} {ps : List Str} {sp : Sp} {E : XK} (G : FnOk X.prog X.w X.K X.mg X.base (L2.CX X.prog X.w) k fa fd ps sp) (hb : Binds X.K fd ps []) (hr : Room k A) (hfr : A.frames = X.A.frames)
    (I : Inv X pins σ H s) (vals : Vals vs us) (hx : PassesAt (L2.CX X.prog X.w) X σ E) (h : sp vs H Q E) : wpAny (model X.prog X.w) A (call (.ref fa) us) (EP X pins σ Q) X.xe s := by
  have e := I.env0
  have e0 : Env0 X.prog X.w X.K X.mg X.base A X.stack s H := ⟨by rw [hfr]; exact e.frames, e.mod, e.bs, e.bsz, e.funs, e.frf, e.hok, e.bare⟩
  have b := hb s us I.kIn (by rw [List.append_nil, ← vals.length]; exact G.len _ _ _ _ h)
  rw [List.append_nil] at b
  refine wpAny_call (codeAny_mono (G.run A X.stack s H ⟨us, []⟩ _ _ _ E hr e0 b vals h) fun z s' y => ?_)
  cases z with
  | error u => exact hx pins H s u s' I y
  | ok fl =>
    cases fl with
    | ret w =>
      obtain ⟨v', H', J, rv, q⟩ := I.after y
      exact ⟨v', H', J, rv, q⟩
    | next => exact y.elim
    | brk => exact y.elim
    | cont => exact y.elim
theorem passE0 {X : Cx} {σ : L2.St} : PassesAt (L2.CX X.prog X.w) X σ E0 := fun pins H s e s' I c => passL pins σ H s e s' I c
/-- a special method of a class -/
structure SpC (P : Program) (w : World) (K : PySem.W.Frag) (mg : Str → Option Value) (base : Heap) (B : Bx) (c : String) (nm : Str) (n k : Nat) (f : Fn) : Prop where
  ex : ∃ C fa fd ps, B.cls c = some C ∧ PySem.W.findIn K (.ref C) nm = some (some (.ref fa)) ∧ PySem.W.isFn K (.ref fa) = true ∧ FnOk P w K mg base (L2.CX P w) k fa fd ps (spOf B n f) ∧ Binds K fd ps []
/-- a def that tells a scalar and changes nothing -/
theorem own_sp {ds : List D} {vs : List V} {f : Fn} {z : D} {as : List AN.Slot} (hh : Holds F H) {F2 : Hp} (h2 : Holds F2 H) (r : RepL B F2 ds vs) (hf : f (ds.map .fz) = .ok (.fz z) as) (hz : scalar z = true)
    (q : ∀ v F' H', Step0 F H F' H' → Holds F' H' → Rep B F' z v → Q v H') : spOf B ds.length f vs H (fun v H' => Rep B F z v ∧ Q v H') E0 := by
  refine ⟨r.length, F2, ds.map .fz, sim_fz h2 r, fz_pin, ?_⟩
  rw [hf]
  intro v F3 H3 s3 m3 rv
  have s0 : Step0 F2 H F3 H3 := s3.imp fun _ z => fz_own (ds := ds) z
  obtain ⟨sd, hd⟩ := Step0.drop (F := F) (H := H) (F1 := F) (H1 := H3) ⟨Le.refl F, s0.keep, fun b u e => .inl e, s0.stay⟩ hh
  exact ⟨scalar_rep hz rv, q _ F H3 sd hd (scalar_rep hz rv)⟩
theorem own_sp1 {d : D} {v : V} {f : Fn} {z : D} {as : List AN.Slot} (hh : Holds F H) (s : Seen B F H d v) (hf : f [.fz d] = .ok (.fz z) as) (hz : scalar z = true)
    (q : ∀ v F' H', Step0 F H F' H' → Holds F' H' → Rep B F' z v → Q v H') : spOf B 1 f [v] H (fun v H' => Rep B F z v ∧ Q v H') E0 := by
  obtain ⟨F1, l1, h1, r1⟩ := s.fix hh
  exact own_sp (ds := [d]) hh h1 (.one r1) hf hz q
theorem own_sp2 {d d' : D} {v v' : V} {f : Fn} {z : D} {as : List AN.Slot} (hh : Holds F H) (s : Seen B F H d v) (s' : Seen B F H d' v') (hf : f [.fz d, .fz d'] = .ok (.fz z) as) (hz : scalar z = true)
    (q : ∀ v F' H', Step0 F H F' H' → Holds F' H' → Rep B F' z v → Q v H') : spOf B 2 f [v, v'] H (fun v H' => Rep B F z v ∧ Q v H') E0 := by
  obtain ⟨F1, l1, h1, r1⟩ := s.fix hh
  obtain ⟨F2, l2, h2, r2⟩ := (s'.mono l1).fix h1
  exact own_sp (ds := [d, d']) hh h2 ⟨_, _, rfl, Rep.monoN l2 _ _ r1, _, _, rfl, r2, rfl⟩ hf hz q
def isBl : D → Bool
  | .bl _ => true
  | _ => false
/-! ### comparisons -/
/-- a op b by the own method of a's class -/
def oCmp (t : String → Option Fn) (g : D → D → Option D) (a b : D) : Option D := match a with
  | .obj c _ => (t c).bind fun f => match f [.fz a, .fz b] with
    | .ok (.fz (.bl r)) _ => some (.bl r)
    | _ => none
  | _ => g a b
def rCmp (P : Program) (w : World) (K : PySem.W.Frag) (mg : Str → Option Value) (base : Heap) (B : Bx) (k : Nat) (nm : Str) : R2 := fun x y H Q => ∃ c C f a dx fs t z, B.cls c = some C ∧ SpC P w K mg base B c nm 2 k f ∧ x = .ref a ∧ H a = some (.ins C dx fs) ∧ TyX K H y t ∧ PySem.W.notFirst K C t = true ∧
  spOf B 2 f [x, y] H (fun v H' => v = .bl z ∧ Q v H') E0
theorem op_ownCmp {op : CmpOp} (hi : compareOp op = richCompare op) (hr : Room k X.A) : OpR X (compareOp op) (rCmp X.prog X.w X.K X.mg X.base B k (cmpInfo op).2.1) := by
  intro pins s σ H x y u v Q I rx ry h
  obtain ⟨c, C, f, a, dx, fs, t, z, hc, ⟨C', fa, fd, ps, hc', he, hf, G, hb⟩, rfl, ha, ty, nf, sp⟩ := h
  rw [hc] at hc'; cases hc'
  cases (show u = Value.ref a from rx)
  obtain ⟨mA, J, _⟩ := ins_get I.hok ha
  obtain ⟨od, J, _⟩ := J.look
  obtain ⟨P, kx, hp, _⟩ := kit_of I ry ty
  obtain ⟨m, fr⟩ := I.fr
  rw [hi]
  refine PySem.W.cmp_K (op := op) (tb := t) (by have := hr.un; omega) fr I.ok.mod.kin J (kx.ty _ _ I.kIn hp) nf he hf ?_
  refine wpAny_mono (sp_call G hb hr rfl I (.cons rx (.cons ry .nil)) passE0 sp) (fun w s' q => ?_) fun _ _ z => z
  obtain ⟨v', H', J', rv, rfl, q⟩ := q
  cases (show w = Value.bool z from rv)
  exact ⟨.bl z, H', J', rfl, q⟩
theorem p_ownCmp {nm : Str} {t : String → Option Fn} {g : D → D → Option D} {r0 : R2} (hK : X.K = B.K) (hC : Ocs B X.K) (hA : Apart B X.K) (he : ∀ c f, t c = some f → SpC X.prog X.w X.K X.mg X.base B c nm 2 k f) (h0 : Prim2 B g r0) :
    Prim2 B (oCmp t g) (fun x y H Q => r0 x y H Q ∨ rCmp X.prog X.w X.K X.mg X.base B k nm x y H Q) := fun F H a b z x y Q hh sa sb e q => by
  have plain : g a b = some z → r0 x y H Q ∨ rCmp X.prog X.w X.K X.mg X.base B k nm x y H Q := fun e => .inl (h0 F H a b z x y Q hh sa sb e q)
  cases a with
  | obj c fs =>
    right
    unfold oCmp at e
    dsimp only at e
    obtain ⟨f, ef, e⟩ := Option.bind_eq_some_iff.mp e
    have E := he c f ef
    obtain ⟨C, _, _, _, hc, _⟩ := id E.ex
    obtain ⟨t, ty, nf⟩ := sb.tyx hK hh hC hA hc
    obtain ⟨p, C', dx, gs, rfl, hc', hp, rf⟩ := id sa
    rw [hc] at hc'; cases hc'
    cases qf : f [.fz (.obj c fs), .fz b] with
    | bad => rw [qf] at e; cases e
    | exc _ _ _ => rw [qf] at e; cases e
    | ok rt as =>
      rw [qf] at e
      cases rt with
      | ow _ => cases e
      | fz d =>
        cases d with
        | bl r =>
          cases e
          exact ⟨c, C, f, p, dx, gs, t, r, hc, E, rfl, hp, ty, nf, own_sp2 hh sa sb qf rfl q⟩
        | _ => cases e
  | _ => exact plain e
theorem p_never {B : Bx} : Prim2 B (fun _ _ => none) (fun _ _ _ _ => False) := fun F H a b z x y Q hh sa sb e q => by cases e
theorem op_never {X : Cx} {f : Value → Value → Sem Value} : OpR X f (fun _ _ _ _ => False) := fun pins s σ H x y v u Q I rx ry h => h.elim
end
end AN

set_option Elab.async false
set_option maxRecDepth 100000
set_option autoImplicit false
set_option linter.unusedVariables false
/-! special methods of own classes that may raise or give objects: operators, items, properties, len -/
namespace AN
open PySem PySem.Spec PyProof.Rows L2
def callD (n : Nat) (f : Fn) (xs : List Opd) : M Opd := M.bind (callP n f xs) fun r => M.pure (.d r.toD)
def callO (n : Nat) (f : Fn) (xs : List Opd) : M O := M.bind (callP n f xs) retO
section
variable {B : Bx} {X : Cx} {W : WX} {F H F1 H1 : Hp} {env e1 : AN.Env} {σ : L2.St} {Q : VK} {a b : Expr} {ma mb : M Opd} {pos p : Pos} {k : Nat}
theorem callD_read {n : Nat} {f : Fn} {xs : List Opd} {vs : List V} (m1 : Sim B F env σ H) (rvs : OpdsRel B F σ vs xs) (k1 : Post B W F env σ H (fun r _ F' H' => ∀ v, OpdRel B F' σ v r → Q v H') (callD n f xs env)) : spOf B n f vs H Q (WE W σ) := by
  have k2 := Post.bindPure k1
  refine call_read m1 rvs k2 fun r e2 F2 H2 s2 m2 l2 k3 => ?_
  have k4 : ∀ F3 H3, Step (Own env σ) F H F3 H3 → Sim B F3 e2 σ H3 → ∀ v, Rep B F3 r.toD v → Q v H3 := fun F3 H3 a b v r => k3 F3 H3 a b F3 H3 a b v r
  cases r with
  | fz d => exact fun v r => k4 F2 H2 s2 m2 v r
  | ow o =>
    intro p hp hf ho
    have np : ¬ Own e2 σ p := fun z => by
      obtain ⟨_, u, hu⟩ := (l2.own z).ex m1
      rw [hp] at hu; cases hu
    obtain ⟨u, hu, r⟩ := ho.data hf
    refine k4 (upd F2 p u) H2 ⟨s2.le.trans (Le.upd hf), s2.keep, fun b w q => ?_, s2.stay⟩ (m2.data np hf hu) (.ref p) r
    by_cases hb : b = p
    · subst hb; exact .inr (.inl hp)
    · rw [upd_ne hb] at q; exact s2.new b w q
theorem callO_read {n : Nat} {f : Fn} {xs : List Opd} {vs : List V} {H0 : Hp} (hback : ∀ p, H p = none → H0 p = none) (m1 : Sim B F env σ H) (rvs : OpdsRel B F σ vs xs) (k1 : Post B W F env σ H (fun o _ F' H' => ∀ p, H0 p = none → F' p = none → OAt B F' H' p o → Q (.ref p) H') (callO n f xs env)) : spOf B n f vs H Q (WE W σ) := by
  refine call_read m1 rvs (Post.bind m1 k1) fun r e2 F2 H2 s2 m2 l2 k3 => ?_
  have k4 := k3 F2 H2 s2 m2
  cases r with
  | fz d => exact k4.elim
  | ow o => exact fun p hp hf ho => Post.here m2 k4 p (hback p hp) hf ho
/-- operations whose wishes speak of the slots -/
abbrev RS := L2.St → R2
def OpS (X : Cx) (f : Value → Value → Sem Value) (r : RS) : Prop := ∀ (pins : List (Addr × Obj)) (s : Shared) (σ : L2.St) (H : Hp) (x y : V) (v u : Value) (Q : VK), Inv X pins σ H s → RelV x v → RelV y u → r σ x y H Q → wpAny (model X.prog X.w) X.A (f v u) (EP X pins σ Q) X.xe s
theorem OpS.or {f : Value → Value → Sem Value} {r : R2} {r' : RS} (h : OpR X f r) (h' : OpS X f r') : OpS X f (fun σ x y H Q => r x y H Q ∨ r' σ x y H Q) := fun pins s σ H x y v u Q I rx ry q => by
  rcases q with q | q
  · exact h pins s σ H x y v u Q I rx ry q
  · exact h' pins s σ H x y v u Q I rx ry q
def tOpS (r : RS) (ta tb : TE) : TE := fun σ H Q => tOp (r σ) ta tb σ H Q
theorem pe_opS {op : Operator} {r : RS} {ta tb : TE} (ho : OpS X (binaryOp op) r) (ha : PE X a ta) (hb : PE X b tb) : PE X (.BinOp a op b pos) (tOpS r ta tb) := by
  refine ⟨fun pins s σ H Q I h => ?_⟩
  exact wpAny_BinOp (binT ha hb I h fun v u s2 x y H2 I2 rx ry q => ho pins s2 σ H2 x y v u Q I2 rx ry q)
/-! ### binary operators -/
/-- no method for the operator -/
structure NoFill (K : PySem.W.Frag) (C : Addr) (nm : String) : Prop where
  fl : ∀ (M : Model) (h : Heap), K.In h → PySem.W.Looks M h (fillsNumberSlot (.ref C) nm) false
theorem noFill_of {K : PySem.W.Frag} {C : Addr} {nm : String} (hm : (PySem.W.clsIn K C).any (fun cd => cd.mro == [.ref C, .type "object"]) = true) (h1 : PySem.W.findIn K (.ref C) (PySem.dunder nm) = some none) (h2 : PySem.W.findIn K (.ref C) (dunderR nm) = some none)
    (h3 : PySem.W.findIn K (.type "object") (PySem.dunder nm) = some none) (h4 : PySem.W.findIn K (.type "object") (dunderR nm) = some none) : NoFill K C nm := ⟨fun M h X A Q E s kp q => by
  obtain ⟨cd, hc, hm⟩ := PySem.W.any_some hm
  have hm := beq_iff_eq.mp hm
  unfold fillsNumberSlot
  have X' : K.In s.heap := X.keeps kp
  refine wpAny_bind ((PySem.W.looks_clsIn X hc).andThen (f := fun cd => pure cd.mro) .now A _ E s kp ?_)
  rw [hm, List.anyM_cons]
  refine wpAny_bind ?_
  show wpAny M A (List.anyM _ [PySem.dunder nm, dunderR nm]) _ _ _
  rw [List.anyM_cons]
  refine wpAny_bind (wpAny_bind (PySem.W.looks_findIn X h1 A _ E s kp ?_))
  dsimp only
  refine wpAny_pure ?_
  simp only [Bool.false_eq_true, if_false]
  rw [List.anyM_cons]
  refine wpAny_bind (wpAny_bind (PySem.W.looks_findIn X h2 A _ E s kp ?_))
  dsimp only
  refine wpAny_pure ?_
  simp only [Bool.false_eq_true, if_false]
  refine wpAny_pure ?_
  simp only [Bool.false_eq_true, if_false]
  rw [List.anyM_cons]
  refine wpAny_bind ?_
  dsimp only
  refine wpAny_bind (PySem.W.looks_findIn X h3 A _ E s kp ?_)
  refine wpAny_bind (PySem.W.looks_findIn X h4 A _ E s kp ?_)
  refine wpAny_pure ?_
  simp only [Option.isSome_none, Bool.false_and, Bool.or_self, Bool.false_eq_true, if_false]
  exact wpAny_pure q⟩
section
variable {prog : Program} {w : World} {A : Around} {E : Value → Shared → Prop} {s : Shared} {K : PySem.W.Frag} {x C C' L f y : Addr} {ox oy : Obj} {od od' : Option Obj}
/-- a op b: a's class has the method, b's class has none -/
theorem binop_K1 {op : Operator} {Q : Value → Shared → Prop} (X : K.In s.heap) (I : PySem.W.InstAt s.heap x ox C od) (hb : PySem.W.Looks (model prog w) s.heap (typeOf (.ref y)) (.ref C')) (hne : C ≠ C') (hc : PySem.W.selfFirst K C = true) (hnf : NoFill K C' op.info.2)
    (hs : PySem.W.findIn K (.ref C) (PySem.dunder op.info.2) = some (some (.ref f))) (hf : PySem.W.isFn K (.ref f) = true)
    (h : wpAny (model prog w) A (call (.ref f) [.ref x, .ref y]) (PySem.W.CmpBack Q) E s) : wpAny (model prog w) A (binaryOp op (.ref x) (.ref y)) Q E s := by
  obtain ⟨cd, rest, hcd, hm⟩ := PySem.W.ksp_first hc
  have ne : (Value.ref C == Value.ref C') = false := by
    rw [beq_eq_false_iff_ne]; intro z; injection z with z; exact hne z
  unfold binaryOp
  refine wpAny_holding (wpAny_bind ?_)
  unfold binaryOp1
  refine wpAny_bind (I.type.here (wpAny_bind (hb.here (wpAny_bind ((PySem.W.fills_K X hcd hm hs).here ?_)))))
  simp only [ne, Bool.false_eq_true, if_false]
  refine wpAny_bind ((hnf.fl _ _ X).here ?_)
  simp only [Bool.and_false, Bool.false_eq_true, if_false, Bool.false_and]
  refine wpAny_bind (wpAny_pure ?_)
  simp only [Bool.false_eq_true, if_false, if_true]
  refine wpAny_bind (m := tryMethod (.ref x) _ (.ref y)) ?_
  unfold tryMethod
  refine wpAny_bind (PySem.W.special_fn X I hs (beq_iff_eq.mp hf) (wpAny_mono h (fun v s' hv => ?_) fun _ _ e => e))
  cases v <;> first | exact hv.elim | exact wpAny_pure (wpAny_pure (wpAny_pure hv))
/-- a op b: b's class has the methods, a's class has none -/
theorem binop_K2 {op : Operator} {Q : Value → Shared → Prop} {g : Addr} (X : K.In s.heap) (ha : PySem.W.Looks (model prog w) s.heap (typeOf (.ref x)) (.ref C)) (I : PySem.W.InstAt s.heap y oy C' od') (hne : C ≠ C') (hc : PySem.W.selfFirst K C' = true) (hnf : NoFill K C op.info.2)
    (hs : PySem.W.findIn K (.ref C') (PySem.dunder op.info.2) = some (some (.ref g))) (hs2 : PySem.W.findIn K (.ref C') (dunderR op.info.2) = some (some (.ref f))) (hf : PySem.W.isFn K (.ref f) = true)
    (h : wpAny (model prog w) A (call (.ref f) [.ref y, .ref x]) (PySem.W.CmpBack Q) E s) : wpAny (model prog w) A (binaryOp op (.ref x) (.ref y)) Q E s := by
  obtain ⟨cd, rest, hcd, hm⟩ := PySem.W.ksp_first hc
  have ne : (Value.ref C == Value.ref C') = false := by
    rw [beq_eq_false_iff_ne]; intro z; injection z with z; exact hne z
  unfold binaryOp
  refine wpAny_holding (wpAny_bind ?_)
  unfold binaryOp1
  refine wpAny_bind (ha.here (wpAny_bind (I.type.here (wpAny_bind ((hnf.fl _ _ X).here ?_)))))
  simp only [ne, Bool.false_eq_true, if_false]
  refine wpAny_bind ((PySem.W.fills_K X hcd hm hs).here ?_)
  simp only [Bool.false_and, Bool.false_eq_true, if_false]
  refine wpAny_bind (wpAny_pure ?_)
  simp only [Bool.false_eq_true, if_false, if_true, Bool.not_false, Bool.and_true]
  refine wpAny_bind (m := tryMethod (.ref y) _ (.ref x)) ?_
  unfold tryMethod
  refine wpAny_bind (PySem.W.special_fn X I hs2 (beq_iff_eq.mp hf) (wpAny_mono h (fun v s' hv => ?_) fun _ _ e => e))
  cases v <;> first | exact hv.elim | (refine wpAny_pure ?_; repeat (first | exact hv | wp_step))
end
theorem cmpBack_of {v : V} {u : Value} {P : Value → Shared → Prop} {s : Shared} (r : RelV v u) (q : P u s) : PySem.W.CmpBack P u s := by
  cases v with
  | non => cases (show u = Value.none from r); exact q
  | bl b => cases (show u = Value.bool b from r); exact q
  | int i => obtain ⟨t, e⟩ := (show ∃ t, u = Value.int i t from r); cases e; exact q
  | str x => obtain ⟨t, e⟩ := (show ∃ t, u = Value.str x t from r); cases e; exact q
  | byt x => obtain ⟨t, e⟩ := (show ∃ t, u = Value.bytes x t from r); cases e; exact q
  | flt x => obtain ⟨t, e⟩ := (show ∃ t, u = Value.float x t from r); cases e; exact q
  | ref a => cases (show u = Value.ref a from r); exact q
  | ty n => cases (show u = Value.type n from r); exact q
/-- the classes of B are unlike, each first in its own row -/
structure Kls (B : Bx) (K : PySem.W.Frag) : Prop where
  inj : ∀ c c' C, B.cls c = some C → B.cls c' = some C → c = c'
  first : ∀ c C, B.cls c = some C → PySem.W.selfFirst K C = true
structure OpF (P : Program) (w : World) (K : PySem.W.Frag) (mg : Str → Option Value) (base : Heap) (B : Bx) (op : Operator) (k : Nat) (fw rv : String → Option Fn) : Prop where
  kls : Kls B K
  fwd : ∀ c f, fw c = some f → SpC P w K mg base B c (PySem.dunder op.info.2) 2 k f
  rev : ∀ c f, rv c = some f → SpC P w K mg base B c (dunderR op.info.2) 2 k f
  non : ∀ c C, B.cls c = some C → fw c = none → rv c = none → NoFill K C op.info.2
def selOp (fw rv : String → Option Fn) (a b : D) : Option (Fn × Bool) := match a, b with
  | .obj c _, .obj c' _ => (match fw c with
    | some f => if c = c' then some (f, false) else (match fw c', rv c' with
      | none, none => some (f, false)
      | _, _ => none)
    | none => (match rv c, fw c', rv c' with
      | none, some _, some f => some (f, true)
      | _, _, _ => none))
  | _, _ => none
def isOb : D → Bool
  | .obj _ _ => true
  | _ => false
def opP (sel : D → D → Option (Fn × Bool)) (g : D → D → Option D) (x y : Opd) : M Opd := fun env => match view env x, view env y with
  | some a, some b => (match sel a b with
    | some (f, false) => callD 2 f [x, y] env
    | some (f, true) => callD 2 f [y, x] env
    | none => mD (ap2 g x y) env)
  | _, _ => .bad
def mOp2 (sel : D → D → Option (Fn × Bool)) (g : D → D → Option D) (ma mb : M Opd) : M Opd := M.bind ma fun x => M.bind mb fun y => opP sel g x y
def rOp (B : Bx) (fw rv : String → Option Fn) (E : L2.St → XK) : RS := fun σ x y H Q => ∃ c C c' C' px py dx dy fs gs f, x = .ref px ∧ y = .ref py ∧ B.cls c = some C ∧ B.cls c' = some C' ∧ H px = some (.ins C dx fs) ∧ H py = some (.ins C' dy gs) ∧
  ((fw c = some f ∧ (c = c' ∨ (fw c' = none ∧ rv c' = none)) ∧ spOf B 2 f [x, y] H Q (E σ)) ∨ (fw c = none ∧ rv c = none ∧ (∃ g, fw c' = some g) ∧ rv c' = some f ∧ spOf B 2 f [y, x] H Q (E σ)))
theorem op_ownOp {op : Operator} {fw rv : String → Option Fn} (O : OpF X.prog X.w X.K X.mg X.base B op k fw rv) (hr : Room k X.A) (tk : Takes X W) : OpS X (binaryOp op) (rOp B fw rv (WE W)) := by
  intro pins s σ H x y u v Q I rx ry h
  obtain ⟨c, C, c', C', px, py, dx, dy, fs, gs, f, rfl, rfl, hc, hc', hx, hy, h⟩ := h
  cases (show u = Value.ref px from rx)
  cases (show v = Value.ref py from ry)
  obtain ⟨mA, J, _⟩ := ins_get I.hok hx
  obtain ⟨od, J, _⟩ := J.look
  obtain ⟨mB, J', _⟩ := ins_get I.hok hy
  obtain ⟨od', J', _⟩ := J'.look
  obtain ⟨m, fr⟩ := I.fr
  rcases h with ⟨hf, hcc, sp⟩ | ⟨h1, h2, ⟨g, h3⟩, h4, sp⟩
  · obtain ⟨C2, fa, fd, ps, hc2, he, hfn, G, hb⟩ := (O.fwd c f hf).ex
    rw [hc] at hc2; cases hc2
    have cl := sp_call G hb hr rfl I (.cons rx (.cons ry .nil)) (passAt tk σ) sp
    have cl2 : wpAny (model X.prog X.w) X.A (call (.ref fa) [.ref px, .ref py]) (PySem.W.CmpBack (EP X pins σ Q)) X.xe s := wpAny_mono cl (fun w s' ⟨v', H', J2, rv, q⟩ => cmpBack_of rv ⟨v', H', J2, rv, q⟩) fun _ _ z => z
    by_cases hcc' : c = c'
    · subst hcc'
      rw [hc] at hc'; cases hc'
      exact PySem.W.binop_K fr I.ok.mod.kin J J'.type (O.kls.first c C hc) he hfn cl2
    · obtain ⟨n1, n2⟩ := hcc.resolve_left hcc'
      have hne : C ≠ C' := fun z => hcc' (O.kls.inj c c' C hc (z ▸ hc'))
      exact binop_K1 I.kIn J J'.type hne (O.kls.first c C hc) (O.non c' C' hc' n1 n2) he hfn cl2
  · obtain ⟨C2, fa, fd, ps, hc2, he, hfn, G, hb⟩ := (O.rev c' f h4).ex
    rw [hc'] at hc2; cases hc2
    obtain ⟨C3, fa3, _, _, hc3, he3, _, _, _⟩ := (O.fwd c' g h3).ex
    rw [hc'] at hc3; cases hc3
    have cl := sp_call G hb hr rfl I (.cons ry (.cons rx .nil)) (passAt tk σ) sp
    have cl2 : wpAny (model X.prog X.w) X.A (call (.ref fa) [.ref py, .ref px]) (PySem.W.CmpBack (EP X pins σ Q)) X.xe s := wpAny_mono cl (fun w s' ⟨v', H', J2, rv, q⟩ => cmpBack_of rv ⟨v', H', J2, rv, q⟩) fun _ _ z => z
    have hne : C ≠ C' := fun z => by
      have := O.kls.inj c c' C hc (z ▸ hc')
      subst this
      rw [h1] at h3; cases h3
    exact binop_K2 I.kIn J.type J' hne (O.kls.first c' C' hc') (O.non c C hc h1 h2) he3 he hfn cl2
theorem read_op {fw rv : String → Option Fn} {g : D → D → Option D} {r0 : R2} (hp : Prim2 B g r0) (h : tE B W (mOp2 (selOp fw rv) g ma mb) σ H Q) : tOpS (fun σ x y H Q => r0 x y H Q ∨ rOp B fw rv (WE W) σ x y H Q) (tE B W ma) (tE B W mb) σ H Q := by
  obtain ⟨F, env, S, h⟩ := h
  refine tE.two (g := opP (selOp fw rv) g) S h fun x y e2 F2 H2 v w s2 m2 o2 rv' rw' k2 => ?_
  unfold opP at k2
  cases qa : view e2 x with
  | none => rw [qa] at k2; exact k2.elim
  | some a =>
    cases qb : view e2 y with
    | none => rw [qa, qb] at k2; exact k2.elim
    | some b =>
      rw [qa, qb] at k2
      have sa := m2.view rv' qa
      have sb := m2.view rw' qb
      dsimp only at k2
      cases qs : selOp fw rv a b with
      | none =>
        rw [qs] at k2
        left
        have k3 : Post B W F2 e2 σ H2 (fun r _ F' H' => ∀ v, OpdRel B F' σ v r → Q v H') (mD (AN.ap2 g x y) e2) := k2
        obtain ⟨a', b', z, ea, eb, ez, k4⟩ := (Post.bind m2 k3).ap2
        refine hp F2 H2 a' b' z v w Q m2.hold (m2.view rv' ea) (m2.view rw' eb) ez fun u F3 H3 s3 h3 rz => ?_
        have m3 := m2.step0 s3 h3
        exact k4 F3 H3 s3.any m3 (EnvLe.refl _) F3 H3 (Step.refl _ _ _) m3 (EnvLe.refl _) u rz
      | some pr =>
        right
        rw [qs] at k2
        obtain ⟨f, sw⟩ := pr
        cases a with
        | obj c fs =>
          cases b with
          | obj c' gs =>
            obtain ⟨px, C, dx, hs, rfl, hc, hx, _⟩ := sa
            obtain ⟨py, C', dy, hs', rfl, hc', hy, _⟩ := sb
            refine ⟨c, C, c', C', px, py, dx, dy, hs, hs', f, rfl, rfl, hc, hc', hx, hy, ?_⟩
            have qs' := qs
            unfold selOp at qs'
            dsimp only at qs'
            cases qf : fw c with
            | some f0 =>
              rw [qf] at qs'
              dsimp only at qs'
              by_cases hcc : c = c'
              · rw [if_pos hcc] at qs'; cases qs'
                exact .inl ⟨rfl, .inl hcc, callD_read m2 (.cons rv' (.cons rw' .nil)) k2⟩
              · rw [if_neg hcc] at qs'
                cases q1 : fw c' with
                | some _ => rw [q1] at qs'; cases qs'
                | none =>
                  cases q2 : rv c' with
                  | some _ => rw [q1, q2] at qs'; cases qs'
                  | none =>
                    rw [q1, q2] at qs'; cases qs'
                    exact .inl ⟨rfl, .inr ⟨rfl, rfl⟩, callD_read m2 (.cons rv' (.cons rw' .nil)) k2⟩
            | none =>
              rw [qf] at qs'
              dsimp only at qs'
              cases q0 : rv c with
              | some _ => rw [q0] at qs'; cases qs'
              | none =>
                cases q1 : fw c' with
                | none => rw [q0, q1] at qs'; cases qs'
                | some g0 =>
                  cases q2 : rv c' with
                  | none => rw [q0, q1, q2] at qs'; cases qs'
                  | some f0 =>
                    rw [q0, q1, q2] at qs'; cases qs'
                    exact .inr ⟨rfl, rfl, ⟨g0, rfl⟩, rfl, callD_read m2 (.cons rw' (.cons rv' .nil)) k2⟩
          | _ => cases qs
        | _ => cases qs
theorem de_opO {op : Operator} {fw rv : String → Option Fn} {g : D → D → Option D} {r0 : R2} (O : OpF X.prog X.w X.K X.mg X.base B op k fw rv) (hr : Room k X.A) (tk : Takes X W) (ho : OpR X (binaryOp op) r0) (hp : Prim2 B g r0) (ha : DE B X W a ma) (hb : DE B X W b mb) :
    DE B X W (.BinOp a op b pos) (mOp2 (selOp fw rv) g ma mb) := PE.imp (pe_opS (OpS.or ho (op_ownOp O hr tk)) ha hb) fun σ H Q h => read_op hp h
end
end AN

set_option Elab.async false
set_option maxRecDepth 100000
set_option autoImplicit false
set_option linter.unusedVariables false
/-! e[i], len(e), x in e, e.f by own methods -/
namespace AN
open PySem PySem.Spec PyProof.Rows L2
section
variable {B : Bx} {X : Cx} {W : WX} {F H F1 H1 : Hp} {env e1 : AN.Env} {σ : L2.St} {Q : VK} {a b e : Expr} {ma mb : M Opd} {pos p : Pos} {k : Nat}
/-! ### e[i] -/
def IxS (X : Cx) (r : RS) : Prop := ∀ (value slice : Expr) (pins : List (Addr × Obj)) (s : Shared) (σ : L2.St) (H : Hp) (x y : V) (v u : Value) (Q : VK), Inv X pins σ H s → RelV x v → RelV y u → r σ x y H Q →
  subscripted slice false v u = operate [v, u] (getItem v u) → subscripted slice true v u = runValue (.builtin "lifetime.subscript" ⟨[v, u], []⟩) → wpAny (model X.prog X.w) X.A (subscriptTail value slice v u) (EP X pins σ Q) X.xe s
theorem IxS.or {r : R2} {r' : RS} (h : IxR X r) (h' : IxS X r') : IxS X (fun σ x y H Q => r x y H Q ∨ r' σ x y H Q) := fun value slice pins s σ H x y v u Q I rx ry q h1 h2 => by
  rcases q with q | q
  · exact h value slice pins s σ H x y v u Q I rx ry q h1
  · exact h' value slice pins s σ H x y v u Q I rx ry q h1 h2
theorem pe_ixS {r : RS} {ta tb : TE} (hr : IxS X r) (ha : PE X a ta) (hb : PE X b tb) (hs : PlainIx b) (hs2 : ∀ o i, subscripted b true o i = runValue (.builtin "lifetime.subscript" ⟨[o, i], []⟩)) : PE X (.Subscript a b pos) (tOpS r ta tb) := by
  refine ⟨fun pins s σ H Q I h => ?_⟩
  exact Subscript_ (binT ha hb I h fun v u s2 x y H2 I2 rx ry q => hr a b pins s2 σ H2 x y v u Q I2 rx ry q (hs _ _) (hs2 _ _))
/-- a class with its own e[i] -/
structure GtC (P : Program) (w : World) (K : PySem.W.Frag) (mg : Str → Option Value) (base : Heap) (B : Bx) (c : String) (k : Nat) (f : Fn) : Prop where
  ex : ∃ C fa fd ps, B.cls c = some C ∧ PySem.W.findIn K (.ref C) "__getitem__" = some (some (.ref fa)) ∧ PySem.W.isFn K (.ref fa) = true ∧ PySem.W.fnIn K fa = true ∧ FnOk P w K mg base (L2.CX P w) k fa fd ps (spOf B 2 f) ∧ Binds K fd ps []
def ixP (t : String → Option Fn) (g : D → D → Option D) (x y : Opd) : M Opd := fun env => match view env x with
  | some (.obj c _) => (match t c with
    | some f => callD 2 f [x, y] env
    | none => .bad)
  | some _ => mD (ap2 g x y) env
  | none => .bad
def mIxO (t : String → Option Fn) (g : D → D → Option D) (ma mb : M Opd) : M Opd := M.bind ma fun x => M.bind mb fun y => ixP t g x y
def rIxO (B : Bx) (t : String → Option Fn) (E : L2.St → XK) : RS := fun σ x y H Q => ∃ c C px dx fs f, x = .ref px ∧ B.cls c = some C ∧ H px = some (.ins C dx fs) ∧ t c = some f ∧ spOf B 2 f [x, y] H Q (E σ)
theorem ix_own {t : String → Option Fn} (ht : ∀ c f, t c = some f → GtC X.prog X.w X.K X.mg X.base B c k f) (hr : Room (k + 1) X.A) (tk : Takes X W) : IxS X (rIxO B t (WE W)) := by
  intro value slice pins s σ H x y u v Q I rx ry h h1 h2
  obtain ⟨c, C, px, dx, fs, f, rfl, hc, hx, hf, sp⟩ := h
  cases (show u = Value.ref px from rx)
  obtain ⟨mA, J, _⟩ := ins_get I.hok hx
  obtain ⟨od, J, _⟩ := J.look
  obtain ⟨m, fr⟩ := I.fr
  obtain ⟨C2, fa, fd, ps, hc2, he, hfn, hfn2, G, hb⟩ := (ht c f hf).ex
  rw [hc] at hc2; cases hc2
  exact PySem.W.sub_K fr I.ok.mod.kin J he hfn2 hfn (sp_call G hb hr.in1 rfl I (.cons rx (.cons ry .nil)) (passAt tk σ) sp) h2
theorem read_ix {t : String → Option Fn} {g : D → D → Option D} {r0 : R2} (hp : Prim2 B g r0) (h : tE B W (mIxO t g ma mb) σ H Q) : tOpS (fun σ x y H Q => r0 x y H Q ∨ rIxO B t (WE W) σ x y H Q) (tE B W ma) (tE B W mb) σ H Q := by
  obtain ⟨F, env, S, h⟩ := h
  refine tE.two (g := ixP t g) S h fun x y e2 F2 H2 v w s2 m2 o2 rv' rw' k2 => ?_
  unfold ixP at k2
  cases qa : view e2 x with
  | none => rw [qa] at k2; exact k2.elim
  | some a =>
    rw [qa] at k2
    have sa := m2.view rv' qa
    have plain : Post B W F2 e2 σ H2 (fun r _ F' H' => ∀ v, OpdRel B F' σ v r → Q v H') (mD (AN.ap2 g x y) e2) → r0 v w H2 Q ∨ rIxO B t (WE W) σ v w H2 Q := fun k3 => by
      left
      obtain ⟨a', b', z, ea, eb, ez, k4⟩ := (Post.bind m2 k3).ap2
      refine hp F2 H2 a' b' z v w Q m2.hold (m2.view rv' ea) (m2.view rw' eb) ez fun u F3 H3 s3 h3 rz => ?_
      have m3 := m2.step0 s3 h3
      exact k4 F3 H3 s3.any m3 (EnvLe.refl _) F3 H3 (Step.refl _ _ _) m3 (EnvLe.refl _) u rz
    cases a with
    | obj c fs =>
      right
      dsimp only at k2
      cases qt : t c with
      | none => rw [qt] at k2; exact k2.elim
      | some f =>
        rw [qt] at k2
        obtain ⟨px, C, dx, hs, rfl, hc, hx, _⟩ := sa
        exact ⟨c, C, px, dx, hs, f, rfl, hc, hx, qt, callD_read m2 (.cons rv' (.cons rw' .nil)) k2⟩
    | _ => exact plain k2
theorem de_ixO {t : String → Option Fn} {g : D → D → Option D} {r0 : R2} (ht : ∀ c f, t c = some f → GtC X.prog X.w X.K X.mg X.base B c k f) (hr : Room (k + 1) X.A) (tk : Takes X W) (ho : IxR X r0) (hp : Prim2 B g r0) (ha : DE B X W a ma) (hb : DE B X W b mb) (hs : PlainIx b)
    (hs2 : ∀ o i, subscripted b true o i = runValue (.builtin "lifetime.subscript" ⟨[o, i], []⟩)) : DE B X W (.Subscript a b pos) (mIxO t g ma mb) := PE.imp (pe_ixS (IxS.or ho (ix_own ht hr tk)) ha hb hs hs2) fun σ H Q h => read_ix hp h
/-! ### len(e) -/
def dLenO (t : String → Option Fn) (a : D) : Option D := match a with
  | .obj c _ => (t c).bind fun f => match f [.fz a] with
    | .ok (.fz (.int (.ofNat n))) _ => if n ≤ 100000 then some (.int (.ofNat n)) else none
    | _ => none
  | _ => dLen a
def rLenO (P : Program) (w : World) (K : PySem.W.Frag) (mg : Str → Option Value) (base : Heap) (B : Bx) (k : Nat) : List V → Hp → VK → Prop := fun xs H Q => ∃ c C f a dx fs n, xs = [.ref a] ∧ B.cls c = some C ∧ SpC P w K mg base B c "__len__" 1 k f ∧ H a = some (.ins C dx fs) ∧ (0 ≤ n ∧ n < 2 ^ 63) ∧
  spOf B 1 f xs H (fun v H' => v = .int n ∧ Q v H') E0
theorem call_lenO (hr : Room (k + 1) X.A) : CallR X (.builtin "len") (rLenO X.prog X.w X.K X.mg X.base B k) := by
  intro pins s σ H xs us Q I r h
  obtain ⟨c, C, f, a, dx, fs, n, rfl, hc, ⟨C', fa, fd, ps, hc', he, hf, G, hb⟩, ha, hn, sp⟩ := h
  rw [hc] at hc'; cases hc'
  cases r with
  | cons r0 r1 =>
    cases r1
    rename_i u
    cases (show u = Value.ref a from r0)
    obtain ⟨mA, J, _⟩ := ins_get I.hok ha
    obtain ⟨od, J, _⟩ := J.look
    obtain ⟨m, fr⟩ := I.fr
    refine PySem.W.len_K fr I.ok.mod.kin J he hf (wpAny_mono (sp_call G hb hr.in1 rfl I (.cons r0 .nil) passE0 sp) (fun w s' q => ?_) fun _ _ z => z)
    obtain ⟨v', H', J', rv, rfl, q⟩ := q
    obtain ⟨t, rfl⟩ := (show ∃ t, w = Value.int n t from rv)
    exact ⟨hn, .int n, H', J'.tok _, ⟨_, rfl⟩, q⟩
theorem p_lenO {t : String → Option Fn} (hK : X.K = B.K) (ht : ∀ c f, t c = some f → SpC X.prog X.w X.K X.mg X.base B c "__len__" 1 k f) : Prim1 B (dLenO t) (fun x H Q => (∃ y n, [x] = [y] ∧ LenV X.K y H n ∧ Q (.int n) H) ∨ rLenO X.prog X.w X.K X.mg X.base B k [x] H Q) := fun F H a z x Q hh sa e q => by
  have plain : dLen a = some z → (∃ y n, [x] = [y] ∧ LenV X.K y H n ∧ Q (.int n) H) ∨ rLenO X.prog X.w X.K X.mg X.base B k [x] H Q := fun e => .inl (p_len hK F H a z x Q hh sa e q)
  cases a with
  | obj c fs =>
    right
    unfold dLenO at e
    dsimp only at e
    obtain ⟨f, ef, e⟩ := Option.bind_eq_some_iff.mp e
    have E := ht c f ef
    obtain ⟨C, _, _, _, hc, _⟩ := id E.ex
    obtain ⟨p, C', dx, gs, rfl, hc', hp, rf⟩ := id sa
    rw [hc] at hc'; cases hc'
    cases qf : f [.fz (.obj c fs)] with
    | bad => rw [qf] at e; cases e
    | exc _ _ _ => rw [qf] at e; cases e
    | ok rt as =>
      rw [qf] at e
      cases rt with
      | ow _ => cases e
      | fz d =>
        cases d with
        | int n =>
          cases n with
          | negSucc _ => cases e
          | ofNat n =>
            dsimp only at e
            by_cases hn : n ≤ 100000
            · rw [if_pos hn] at e; cases e
              exact ⟨c, C, f, p, dx, gs, _, rfl, hc, E, hp, ⟨Int.natCast_nonneg _, Int.lt_of_le_of_lt (Int.ofNat_le.mpr hn) (by decide)⟩, own_sp1 hh sa qf rfl q⟩
            · rw [if_neg hn] at e; cases e
        | _ => cases e
  | _ => exact plain e
theorem de_lenO {t : String → Option Fn} (hr : Room (k + 1) X.A) (hK : X.K = B.K) (ht : ∀ c f, t c = some f → SpC X.prog X.w X.K X.mg X.base B c "__len__" 1 k f) (ha : DE B X W a ma) (hm : X.mg "len" = none) (hg : Gl X "len" := by rfl) (he : starEach [a] X.env = (false, eval a X.env) :: starEach [] X.env := by rfl) (hpl : (backTo pos (starEach [] X.env)).any (·.1) = false := by rfl) :
    DE B X W (.Call (.Name "len" p) [a] [] pos) (mD (mB1 (dLenO t) ma)) := de_b1 (CallR.or call_len (call_lenO hr)) (p_lenO hK ht) ha hm (by decide +kernel) hg (by decide) (by decide) he hpl
/-! ### x in e -/
def dInO (t : String → Option Fn) (neg : Bool) (g : D → D → Option D) (x e : D) : Option D := match e with
  | .obj c _ => (t c).bind fun f => match f [.fz e, .fz x] with
    | .ok (.fz (.bl r)) _ => some (.bl (if neg then !r else r))
    | _ => none
  | _ => g x e
def rInO (P : Program) (w : World) (K : PySem.W.Frag) (mg : Str → Option Value) (base : Heap) (B : Bx) (k : Nat) (neg : Bool) : R2 := fun x y H Q => ∃ c C f a dx fs z, y = .ref a ∧ B.cls c = some C ∧ SpC P w K mg base B c "__contains__" 2 k f ∧ H a = some (.ins C dx fs) ∧
  spOf B 2 f [y, x] H (fun v H' => v = .bl z ∧ Q (.bl (if neg then !z else z)) H') E0
theorem op_inO (hr : Room k X.A) : OpR X (compareOp .In) (rInO X.prog X.w X.K X.mg X.base B k false) := by
  intro pins s σ H x y u v Q I rx ry h
  obtain ⟨c, C, f, a, dx, fs, z, rfl, hc, ⟨C', fa, fd, ps, hc', he, hf, G, hb⟩, ha, sp⟩ := h
  rw [hc] at hc'; cases hc'
  cases (show v = Value.ref a from ry)
  obtain ⟨mA, J, _⟩ := ins_get I.hok ha
  obtain ⟨od, J, _⟩ := J.look
  obtain ⟨m, fr⟩ := I.fr
  refine PySem.W.in_K fr I.ok.mod.kin J he hf (wpAny_mono (sp_call G hb hr rfl I (.cons ry (.cons rx .nil)) passE0 sp) (fun w s' q => ?_) fun _ _ z => z)
  obtain ⟨v', H', J', rv, rfl, q⟩ := q
  cases (show w = Value.bool z from rv)
  exact wpAny_truthy_bool ⟨.bl z, H', J', rfl, q⟩
theorem op_notInO (hr : Room k X.A) : OpR X (compareOp .NotIn) (rInO X.prog X.w X.K X.mg X.base B k true) := by
  intro pins s σ H x y u v Q I rx ry h
  obtain ⟨c, C, f, a, dx, fs, z, rfl, hc, ⟨C', fa, fd, ps, hc', he, hf, G, hb⟩, ha, sp⟩ := h
  rw [hc] at hc'; cases hc'
  cases (show v = Value.ref a from ry)
  obtain ⟨mA, J, _⟩ := ins_get I.hok ha
  obtain ⟨od, J, _⟩ := J.look
  obtain ⟨m, fr⟩ := I.fr
  refine PySem.W.notIn_K fr I.ok.mod.kin J he hf (wpAny_mono (sp_call G hb hr rfl I (.cons ry (.cons rx .nil)) passE0 sp) (fun w s' q => ?_) fun _ _ z => z)
  obtain ⟨v', H', J', rv, rfl, q⟩ := q
  cases (show w = Value.bool z from rv)
  exact wpAny_truthy_bool ⟨.bl (!z), H', J', rfl, q⟩
theorem p_inO {t : String → Option Fn} {neg : Bool} {g : D → D → Option D} {r0 : R2} (ht : ∀ c f, t c = some f → SpC X.prog X.w X.K X.mg X.base B c "__contains__" 2 k f) (h0 : Prim2 B g r0) :
    Prim2 B (dInO t neg g) (fun x y H Q => r0 x y H Q ∨ rInO X.prog X.w X.K X.mg X.base B k neg x y H Q) := fun F H a b z x y Q hh sa sb e q => by
  have plain : g a b = some z → r0 x y H Q ∨ rInO X.prog X.w X.K X.mg X.base B k neg x y H Q := fun e => .inl (h0 F H a b z x y Q hh sa sb e q)
  cases b with
  | obj c fs =>
    right
    unfold dInO at e
    dsimp only at e
    obtain ⟨f, ef, e⟩ := Option.bind_eq_some_iff.mp e
    have E := ht c f ef
    obtain ⟨C, _, _, _, hc, _⟩ := id E.ex
    obtain ⟨p, C', dx, gs, rfl, hc', hp, rf⟩ := id sb
    rw [hc] at hc'; cases hc'
    cases qf : f [.fz (.obj c fs), .fz a] with
    | bad => rw [qf] at e; cases e
    | exc _ _ _ => rw [qf] at e; cases e
    | ok rt as =>
      rw [qf] at e
      cases rt with
      | ow _ => cases e
      | fz d =>
        cases d with
        | bl r =>
          cases e
          refine ⟨c, C, f, p, dx, gs, r, rfl, hc, E, hp, ?_⟩
          have key := own_sp2 (Q := fun v H' => Q (.bl (if neg then !r else r)) H') hh sb sa qf rfl fun v F' H' s' h' _ => q _ F' H' s' h' rfl
          exact key
        | _ => cases e
  | _ => exact plain e
/-! ### e.f, a field or a property -/
def noX {α : Type} (m : M α) : M α := fun env => match m env with
  | .ok a e => .ok a e
  | _ => .bad
theorem Post.noX {α : Type} {W' : WX} {m : M α} {k : α → AN.Env → Hp → Hp → Prop} (h : Post B W F env σ H k (noX m env)) : Post B W' F env σ H k (m env) := by
  unfold AN.noX at h
  cases q : m env with
  | bad => rw [q] at h; exact h.elim
  | exc c d e => rw [q] at h; exact h.elim
  | ok a e => rw [q] at h; exact h
structure PrC (P : Program) (w : World) (K : PySem.W.Frag) (mg : Str → Option Value) (base : Heap) (B : Bx) (c : String) (f : Str) (k : Nat) (g : Fn) : Prop where
  ex : ∃ C p fa fd ps, B.cls c = some C ∧ PropOf K C f p fa ∧ FnOk P w K mg base (L2.CX P w) k fa fd ps (spOf B 1 g) ∧ Binds K fd ps []
def atP (t : String → Option Fn) (ok : String → Bool) (f : Str) (x : Opd) : M Opd := fun env => match view env x with
  | some (.obj c fs) => (match t c with
    | some g => noX (callD 1 g [x]) env
    | none => mD (ap1 (dFld ok f) x) env)
  | _ => .bad
def mAt (t : String → Option Fn) (ok : String → Bool) (f : Str) (ma : M Opd) : M Opd := M.bind ma fun x => atP t ok f x
def tAtO (P : Program) (w : World) (K : PySem.W.Frag) (mg : Str → Option Value) (base : Heap) (B : Bx) (k : Nat) (f : Str) (ta : TE) : TE := fun σ H Q => ta σ H fun x H1 =>
  (∃ a C dx fs v, x = .ref a ∧ H1 a = some (.ins C dx fs) ∧ Cls K C ∧ NoAttr K C f ∧ fs.lookup f = some v ∧ Q v H1) ∨ (∃ c C g a dx fs, x = .ref a ∧ B.cls c = some C ∧ Cls K C ∧ H1 a = some (.ins C dx fs) ∧ PrC P w K mg base B c f k g ∧ spOf B 1 g [x] H1 Q E0)
theorem pe_atO {f : Str} {ta : TE} (hr : Room (k + 1) X.A) (he : PE X e ta) (hab : attributeBase e f X.env (eval e X.env) = eval e X.env) : PE X (.Attribute e f pos) (tAtO X.prog X.w X.K X.mg X.base B k f ta) := by
  refine ⟨fun pins s σ H Q I h => ?_⟩
  refine attr_of hab (thn (he.run pins s σ H _ I h) fun u s1 ⟨x, H1, I1, rx, q⟩ => ?_)
  rcases q with ⟨a, C, dx, fs, v, rfl, ea, c, n, l, q⟩ | ⟨c, C, g, a, dx, fs, rfl, hc, cl, ea, ⟨C', p, fa, fd, ps, hc', hp, G, hb⟩, sp⟩
  · cases (show u = Value.ref a from rx)
    exact getattr_ok I1 ea c n l fun u' s2 I2 ru => ⟨v, H1, I2, ru, q⟩
  · rw [hc] at hc'; cases hc'
    cases (show u = Value.ref a from rx)
    exact getprop_ok I1 ea cl hp G hr hb .nil passL sp
theorem de_atO {t : String → Option Fn} {ok : String → Bool} {f : Str} (ht : ∀ c g, t c = some g → PrC X.prog X.w X.K X.mg X.base B c f k g) (hr : Room (k + 1) X.A) (hC : Ocs B X.K) (hf : Free B X.K ok f) (ha : DE B X W a ma) (hb : attributeBase a f X.env (eval a X.env) = eval a X.env := by rfl) :
    DE B X W (.Attribute a f pos) (mAt t ok f ma) := PE.imp (pe_atO hr ha hb) fun σ H Q h => by
  obtain ⟨F, env, S, h⟩ := h
  refine tE.one (g := atP t ok f) S h fun x e1 F1 H1 v s1 m1 o1 rv k1 => ?_
  unfold atP at k1
  cases qa : view e1 x with
  | none => rw [qa] at k1; exact k1.elim
  | some a =>
    rw [qa] at k1
    have sa := m1.view rv qa
    cases a with
    | obj c fs =>
      dsimp only at k1
      cases qt : t c with
      | none =>
        rw [qt] at k1
        left
        obtain ⟨a', z, ea, ez, k4⟩ := (Post.bind m1 k1).ap1
        refine p_fld hC hf F1 H1 a' z v Q m1.hold (m1.view rv ea) ez fun u F3 H3 s3 h3 rz => ?_
        have m3 := m1.step0 s3 h3
        exact k4 F3 H3 s3.any m3 (EnvLe.refl _) F3 H3 (Step.refl _ _ _) m3 (EnvLe.refl _) u rz
      | some g =>
        rw [qt] at k1
        right
        obtain ⟨px, C, dx, hs, rfl, hc, hx, _⟩ := sa
        exact ⟨c, C, g, px, dx, hs, rfl, hc, (hC c C hc).cl, hx, ht c g qt, callD_read (W := fun _ _ _ _ => False) m1 (.cons rv .nil) (Post.noX k1)⟩
    | _ => exact k1.elim
end
end AN

set_option Elab.async false
set_option maxRecDepth 100000
set_option autoImplicit false
set_option linter.unusedVariables false
/-! stars; calls without arguments; methods -/
namespace AN
open PySem PySem.Spec PyProof.Rows L2
def rowOf : D → Option (List D)
  | .lst xs => some xs
  | .tup xs => some xs
  | _ => none
def mAS (ma : M Opd) (ms : M (List Opd)) : M (List Opd) := M.bind ma fun x => M.bind (ap1 rowOf x) fun ds => M.bind ms fun xs => M.pure (ds.map .d ++ xs)
def makeSt (c : String) (f : Fn) (xs : List Opd) : M O := fun env => match frzs xs env with
  | .ok ds e1 => if ds.length ≤ sizeLine then makeP c 1 f [.d (.tup ds)] e1 else .bad
  | _ => .bad
def mMakeSt (c : String) (f : Fn) (ms : M (List Opd)) : M O := M.bind ms fun xs => makeSt c f xs
section
variable {B : Bx} {X : Cx} {W : WX} {F H F1 H1 : Hp} {env e1 : AN.Env} {σ : L2.St} {Q : VK} {a b e o : Expr} {es : List Expr} {ma mb mo : M Opd} {ms : M (List Opd)} {pos p apos : Pos} {k : Nat}
theorem opds_of {ds : List D} {vs : List V} (r : RepL B F ds vs) : OpdsRel B F σ vs (ds.map .d) := by
  induction ds generalizing vs with
  | nil => rw [show vs = [] from r]; exact .nil
  | cons d ds ih =>
    obtain ⟨v, vs', rfl, h1, h2⟩ := r
    exact .cons h1 (ih h2)
theorem OpdsRel.append {vs ws : List V} {xs ys : List Opd} (h : OpdsRel B F σ vs xs) (h' : OpdsRel B F σ ws ys) : OpdsRel B F σ (vs ++ ws) (xs ++ ys) := by
  induction h with
  | nil => exact h'
  | cons h _ ih => exact .cons h ih
theorem das (hK : X.K = B.K) (ha : DE B X W e ma) (hr : DA B X W es ms) (hs : starEach (.Starred e p :: es) X.env = (true, eval e X.env) :: starEach es X.env := by rfl) : DA B X W (.Starred e p :: es) (mAS ma ms) :=
  PA.imp (StX.pa_star ha hr hs) fun σ H Q h => by
    obtain ⟨F, env, S, h⟩ := h
    refine tE.one S h fun x e1 F1 H1 v s1 m1 o1 rv k1 => ?_
    obtain ⟨a, ds, ea, er, k2⟩ := (Post.bind m1 k1).ap1
    have sa := m1.view rv ea
    have key : ∃ p xs, v = V.ref p ∧ (SqT X.K H1 p xs ∨ SqL X.K H1 p xs) ∧ RepL B F1 ds xs := by
      cases a with
      | lst xs => cases er; obtain ⟨p, vs, rfl, a, _, r⟩ := sa; exact ⟨p, vs, rfl, .inr (by rw [hK]; exact a), r⟩
      | tup xs => cases er; obtain ⟨p, vs, rfl, a, _, r⟩ := sa; exact ⟨p, vs, rfl, .inl (by rw [hK]; exact a.sq m1.hold), r⟩
      | _ => cases er
    obtain ⟨p, xs, rfl, sq, r⟩ := key
    refine ⟨p, xs, rfl, sq, F1, e1, m1, (Post.bind m1 (Post.here m1 k2)).mono fun ys e2 F2 H2 s2 m2 o2 k3 ws rws => ?_⟩
    exact Post.here m2 k3 (xs ++ ws) ((opds_of (r.mono s2.le)).append rws)
/-! ### C(e, ..) with def __init__(self, *v) -/
def spSt (B : Bx) (f : Fn) : Sp := fun vs H Q E => ∃ ws rest, vs = ws ++ rest ∧ ws.length = 1 ∧ rest.length ≤ sizeLine ∧ ∀ p, H p = Option.none → spOf B 2 f (ws ++ [V.ref p]) (upd H p (.tup rest)) Q E
theorem upd_comm {H : Hp} {a b : Addr} {x y : HO} (h : a ≠ b) : upd (upd H a x) b y = upd (upd H b y) a x := by
  funext c
  by_cases h1 : c = a
  · subst h1; rw [upd_same, upd_ne h, upd_same]
  · by_cases h2 : c = b
    · subst h2; rw [upd_same, upd_ne h1, upd_same]
    · rw [upd_ne h2, upd_ne h1, upd_ne h1, upd_ne h2]
theorem makeSt_read {c : String} {C : Addr} {f : Fn} {xs : List Opd} {vs : List V} {k : O → AN.Env → Hp → Hp → Prop} (hc : B.cls c = some C) (S : Sim B F env σ H) (rs : OpdsRel B F σ vs xs) (h : Post B W F env σ H k (makeSt c f xs env))
    (hq : ∀ o e1 F1 H1, Step (Own env σ) F H F1 H1 → Sim B F1 e1 σ H1 → EnvLe env e1 → k o e1 F1 H1 → ∀ p, H p = none → F1 p = none → OAt B F1 H1 p o → Q (.ref p) H1) (x dx : Addr) (hx : H x = none) (hdx : H dx = none) (ne : dx ≠ x) :
    spSt B f (.ref x :: vs) (upd (upd H dx (.own x)) x (.ins C dx [])) (fun v H2 => v = .non ∧ Q (.ref x) H2) (WE W σ) := by
  unfold makeSt at h
  cases qf : frzs xs env with
  | bad => rw [qf] at h; exact h.elim
  | exc c d e' => rw [qf] at h; exact h.elim
  | ok ds e1 =>
    rw [qf] at h
    dsimp only at h
    obtain ⟨ds', e1', F1, s1, m1, l1, r1, q1⟩ := S.frzs (W := W) rs (k := fun d e _ _ => d = ds ∧ e = e1) (by rw [qf]; exact fun _ _ _ _ _ => ⟨rfl, rfl⟩)
    obtain ⟨rfl, rfl⟩ := q1
    by_cases hl : ds'.length ≤ sizeLine
    · rw [if_pos hl] at h
      refine ⟨[.ref x], vs, rfl, rfl, by rw [r1.length]; exact hl, fun p hp => ?_⟩
      have px : p ≠ x := fun z => by subst z; rw [upd_same] at hp; cases hp
      rw [upd_ne px] at hp
      have pd : p ≠ dx := fun z => by subst z; rw [upd_same] at hp; cases hp
      rw [upd_ne pd] at hp
      obtain ⟨s3, h3⟩ := step0_new (u := .tup vs) m1.hold hp
      have m3 := m1.step0 s3 h3
      have r3 : OpdsRel B (upd F1 p (.tup vs)) σ [V.ref p] [.d (.tup ds')] := .cons ⟨p, vs, rfl, .inl upd_same, hl, r1.mono s3.le⟩ .nil
      have st : Step (Own env σ) F H (upd F1 p (.tup vs)) (upd H p (.tup vs)) := s1.trans s3.any fun _ z => .inl (l1.own z)
      have h4 : Post B W (upd F1 p (.tup vs)) e1' σ (upd H p (.tup vs)) (fun o e2 F2 H2 => k o e2 F2 H2 ∧ EnvLe env e2 ∧ Step (Own env σ) F H F2 H2) (makeP c 1 f [.d (.tup ds')] e1') := by
        cases qm : makeP c 1 f [.d (.tup ds')] e1' with
        | bad => rw [qm] at h; exact h
        | ok o e2 =>
          rw [qm] at h
          intro F2 H2 a1 a2 a3
          have st2 := st.trans a1 fun b z => .inl (l1.own z)
          exact ⟨h F2 H2 st2 a2 (l1.trans a3), l1.trans a3, st2⟩
        | exc c2 d2 e2 =>
          rw [qm] at h
          obtain ⟨C2, fld, hb, h⟩ := h
          exact ⟨C2, fld, hb, fun F2 H2 dx' v a1 ⟨a2, a3⟩ hd hf h0 r => h F2 H2 dx' v (st.trans a1 fun b z => .inl (l1.own z)) ⟨a2, l1.trans a3⟩ hd hf (by
            cases q : H dx' with
            | none => rfl
            | some u =>
              obtain ⟨u', hu⟩ := st.stay dx' u q
              rw [h0] at hu; cases hu) r⟩
      have key := make_read (Q := Q) hc m3 r3 h4 (fun o e2 F2 H2 a1 a2 a3 ⟨k4, l4, st4⟩ p0 hp0 hf0 ho0 => hq o e2 F2 H2 st4 a2 l4 k4 p0 (by
        cases q : H p0 with
        | none => rfl
        | some u =>
          obtain ⟨u', hu⟩ := st.stay p0 u q
          rw [hp0] at hu; cases hu) hf0 ho0) x dx (by rw [upd_ne px.symm]; exact hx) (by rw [upd_ne pd.symm]; exact hdx) ne
      have e : upd (upd (upd H dx (.own x)) x (.ins C dx [])) p (.tup vs) = upd (upd (upd H p (.tup vs)) dx (.own x)) x (.ins C dx []) := by
        rw [upd_comm px.symm, upd_comm pd.symm]
      rw [e]
      exact key
    · rw [if_neg hl] at h; exact h.elim
theorem run_makeRS {pins : List (Addr × Obj)} {s : Shared} {us : List Value} {vs : List V} {C f : Addr} {sp : Sp} {E : XK} (M : Mk X.K C f) (F : FnR X.prog X.w X.K X.mg X.base (L2.CX X.prog X.w) k f sp) (hr : Room (k + 1) X.A) (hx : PassesAt (L2.CX X.prog X.w) X σ E) (I : Inv X pins σ H s) (r : Vals vs us)
    (h : ∀ x dx, H x = Option.none → H dx = Option.none → dx ≠ x → sp (V.ref x :: vs) (upd (upd H dx (.own x)) x (.ins C dx [])) (fun v H2 => v = .non ∧ Q (.ref x) H2) E) :
    wpAny (model X.prog X.w) X.A (call (.ref C) us) (EP X pins σ Q) X.xe s := by
  have hq := h (s.heap.objs.size + 1) s.heap.objs.size (I.hok.fresh (Nat.le_succ _)) (I.hok.fresh (Nat.le_refl _)) (Nat.ne_of_lt (Nat.lt_succ_self _))
  have I2 := Inv.made (C := C) I
  have r2 : Vals (V.ref (s.heap.objs.size + 1) :: vs) (Value.ref (s.heap.objs.size + 1) :: us) := .cons rfl r
  refine wpAny_call (make_map (f := f) I.kIn M.makes M.init (beq_iff_eq.mp M.fn) (codeAny_mono (F _ X.stack _ _ (Value.ref (s.heap.objs.size + 1) :: us) _ _ E (hr.make C us []) (I2.env0.make C us []) r2 hq) fun r s' hq' => ?_))
  cases r with
  | error e => exact hx pins _ _ e s' I2 hq'
  | ok fl =>
    cases fl with
    | ret u =>
      obtain ⟨v, H', I3, rv, ev, q3⟩ := I2.after hq'
      subst ev
      exact ⟨rv, ⟨V.ref (s.heap.objs.size + 1), H', I3, rfl, q3⟩⟩
    | next => exact False.elim hq'
    | brk => exact False.elim hq'
    | cont => exact False.elim hq'
structure MakSt (P : Program) (w : World) (K : PySem.W.Frag) (mg : Str → Option Value) (base : Heap) (B : Bx) (x : Str) (c : String) (k : Nat) (f : Fn) : Prop where
  ex : ∃ C fa, B.cls c = some C ∧ Mk K C fa ∧ FnR P w K mg base (L2.CX P w) k fa (spSt B f) ∧ mg x = some (.ref C)
variable {x : Str} {c : String} {f : Fn}
theorem mk_fin (tk : Takes X W) {C : Addr} (hc : B.cls c = some C) (h : tO B W (mMakeSt c f ms) σ H Q) : tA B W ms σ H fun vs H1 => ∀ x dx, H1 x = Option.none → H1 dx = Option.none → dx ≠ x → spSt B f (V.ref x :: vs) (upd (upd H1 dx (.own x)) x (.ins C dx [])) (fun v H2 => v = .non ∧ Q (.ref x) H2) (WE W σ) := by
  obtain ⟨F, env, S, h⟩ := h
  refine ⟨F, env, S, (Post.bind S h).mono fun xs e1 F1 H1 s1 m1 l1 k1 vs rvs => ?_⟩
  exact makeSt_read hc m1 rvs k1 fun o e2 F2 H2 s2 m2 l2 k2 p hp hf ho => k2 p (s1.back hp) hf ho
theorem do_makeSt (N : MakSt X.prog X.w X.K X.mg X.base B x c k f) (hr : Room (k + 1) X.A) (tk : Takes X W) (ha : DA B X W (e :: es) ms) (hg : Gl X x := by rfl) (hdb : (x == ("__debug__" : Str)) = false := by decide)
    (he : starEach (e :: es) X.env = (false, eval e X.env) :: starEach es X.env := by rfl) (hpl : (backTo pos (starEach es X.env)).any (·.1) = false := by rfl) : DO B X W (.Call (.Name x p) (e :: es) [] pos) (mMakeSt c f ms) := by
  obtain ⟨C, fa, hc, Mk1, G, hm⟩ := N.ex
  refine ⟨fun pins s σ H Q I h => wpAny_Call_Name_kw (ld_glob I hg hm ?_ hdb)⟩
  refine PySem.W.callWith_K (h₀ := X.base) I.ok.mod.kin Mk1.kp (thn (ha.run pos pins s σ H _ I (mk_fin tk hc h)) fun us s1 ⟨vs, H1, I1, r, q⟩ => ⟨I1.kIn, ?_⟩) he hpl
  exact run_makeRS Mk1 G hr (passAt tk σ) I1 r q
theorem do_makeSt0 (N : MakSt X.prog X.w X.K X.mg X.base B x c k f) (hr : Room (k + 1) X.A) (tk : Takes X W) (hg : Gl X x := by rfl) (hdb : (x == ("__debug__" : Str)) = false := by decide) : DO B X W (.Call (.Name x p) [] [] pos) (mMakeSt c f mA0) := by
  obtain ⟨C, fa, hc, Mk1, G, hm⟩ := N.ex
  refine ⟨fun pins s σ H Q I h => wpAny_Call_Name_kw (ld_glob I hg hm ?_ hdb)⟩
  refine PySem.W.callWith_K0 I.kIn Mk1.kp (run_makeRS (us := []) Mk1 G hr (passAt tk σ) I .nil ?_)
  obtain ⟨F, env, S, h⟩ := mk_fin tk hc h
  exact Post.here S h [] .nil
theorem do_makeSt1 {sp_ : Pos} (N : MakSt X.prog X.w X.K X.mg X.base B x c k f) (hr : Room (k + 1) X.A) (tk : Takes X W) (hK : X.K = B.K) (ha : DE B X W e ma) (hg : Gl X x := by rfl) (hdb : (x == ("__debug__" : Str)) = false := by decide)
    (hst : starEach [.Starred e sp_] X.env = [(true, eval e X.env)] := by rfl) : DO B X W (.Call (.Name x p) [.Starred e sp_] [] pos) (mMakeSt c f (mAS ma mA0)) := by
  obtain ⟨C, fa, hc, Mk1, G, hm⟩ := N.ex
  refine ⟨fun pins s σ H Q I h => wpAny_Call_Name_kw (ld_glob I hg hm ?_ hdb)⟩
  have hh := mk_fin tk hc h
  have h2 : tE B W ma σ H fun y H1 => ∃ a xs, y = V.ref a ∧ (SqT X.K H1 a xs ∨ SqL X.K H1 a xs) ∧ ∀ x dx, H1 x = Option.none → H1 dx = Option.none → dx ≠ x → spSt B f (V.ref x :: xs) (upd (upd H1 dx (.own x)) x (.ins C dx [])) (fun v H2 => v = .non ∧ Q (.ref x) H2) (WE W σ) := by
    obtain ⟨F, env, S, h⟩ := hh
    refine tE.one S h fun x e1 F1 H1 v s1 m1 o1 rv k1 => ?_
    obtain ⟨a, ds, ea, er, k2⟩ := (Post.bind m1 k1).ap1
    have sa := m1.view rv ea
    have key : ∃ p xs, v = V.ref p ∧ (SqT X.K H1 p xs ∨ SqL X.K H1 p xs) ∧ RepL B F1 ds xs := by
      cases a with
      | lst xs => cases er; obtain ⟨p, vs, rfl, a, _, r⟩ := sa; exact ⟨p, vs, rfl, .inr (by rw [hK]; exact a), r⟩
      | tup xs => cases er; obtain ⟨p, vs, rfl, a, _, r⟩ := sa; exact ⟨p, vs, rfl, .inl (by rw [hK]; exact a.sq m1.hold), r⟩
      | _ => cases er
    obtain ⟨p, xs, rfl, sq, r⟩ := key
    refine ⟨p, xs, rfl, sq, ?_⟩
    have k3 := Post.here m1 k2
    have k4 : Post B W F1 e1 σ H1 _ ((M.pure (ds.map .d ++ []) : M (List Opd)) e1) := k3
    have k5 := Post.here m1 k4
    exact k5 xs (by rw [List.append_nil]; exact opds_of r)
  refine PySem.W.callWith_S (h₀ := X.base) I.ok.mod.kin Mk1.kp (thn (ha.run pins s σ H _ I h2) fun v s1 ⟨y, H1, I1, ry, a, xs, ey, hxs, q⟩ => ?_) hst
  subst ey
  obtain rfl : v = Value.ref a := ry
  exact StX.star_any I1 hxs fun us s2 I2 rv => ⟨I2.kIn, run_makeRS Mk1 G hr (passAt tk σ) I2 rv q⟩
end
end AN

set_option Elab.async false
set_option maxRecDepth 100000
set_option autoImplicit false
set_option linter.unusedVariables false
/-! def __init__(self, *v); calls without arguments; methods -/
namespace AN
open PySem PySem.Spec PyProof.Rows L2
section
variable {P : Program} {w : World} {K : PySem.W.Frag} {mg : Str → Option Value} {base : Heap} {B : Bx}
theorem fnSt_ok {x qual : Str} {st : Stmt} {f : Addr} {fd : FuncData} {N : List Str} {p1 pv : Str} {k n : Nat} {m : M Fl} (Fd : Fun K x qual st f fd) (S : FnScope N [p1, pv] (defScope st)) (hn : N.length - 2 = n)
    (hb0 : ∀ (kV doc pm : Value) (an : Option Addr) (cdv ct : Value) a, bindArgs (PySem.W.fnOf x qual (defArgs st) (defBody st) (defScope st) .none kV doc pm an cdv ct) ⟨[a], []⟩ = (newTuple [] >>= fun t => pure [(p1, a), (pv, t)]))
    (hb1 : ∀ (kV doc pm : Value) (an : Option Addr) (cdv ct : Value) a r rs, bindArgs (PySem.W.fnOf x qual (defArgs st) (defBody st) (defScope st) .none kV doc pm an cdv ct) ⟨a :: r :: rs, []⟩ = (newTuple (r :: rs) >>= fun t => pure [(p1, a), (pv, t)]))
    (hbody : ∀ (cdv : Value) (A : Around) (outer : List PySem.Env) (s : Shared) (H : Hp) (E : XK), Room k (A.deeper (envOfC qual (defScope st) s.heap.objs.size f cdv)) →
      Takes (cxOf (L2.CX P w) P w K mg base N qual (defScope st) f cdv A outer s H E) (fun cls d _ H => E cls d H) →
      PassesOwn (model P w) (A.deeper (envOfC qual (defScope st) s.heap.objs.size f cdv)) (envOfC qual (defScope st) s.heap.objs.size f cdv) (cxOf (L2.CX P w) P w K mg base N qual (defScope st) f cdv A outer s H E).xe →
      DSs B (cxOf (L2.CX P w) P w K mg base N qual (defScope st) f cdv A outer s H E) (fun cls d _ H => E cls d H) (defBody st) m) :
    FnR P w K mg base (L2.CX P w) (k + 1) f (spSt B (runF n m)) := by
  obtain ⟨oc, od, kV, doc, pm, an, cdv, ct, osl, rfl, lk, hcd⟩ := Fd.ex
  refine FnR.imp (StX.fn_star (ps := [p1]) (pv := pv) (sp := spOf B 2 (runF n m)) lk hcd S StX.cxUp (StX.bind_star1 (B := fun us => bindArgs _ ⟨us, []⟩) (hb0 kV doc pm an cdv ct) (hb1 kV doc pm an cdv ct)) fun A outer s H vs Q E hr h => ?_) fun vs H Q E h => h
  exact ⟨_, hbody cdv A outer s H E hr (takes_of rfl rfl rfl rfl) (passes_of rfl), spOf_body hn h⟩
end
section
variable {B : Bx} {X : Cx} {W : WX} {F H F1 H1 : Hp} {env e1 : AN.Env} {σ : L2.St} {Q : VK} {a b e o : Expr} {es : List Expr} {ma mb mo : M Opd} {ms : M (List Opd)} {pos p apos : Pos} {k n : Nat}
variable {fa : Addr} {fd : FuncData} {ps : List Str} {f : Fn} {x : Str}
/-! ### f() -/
theorem pe_callS0 {sp : Sp} {E : L2.St → XK} (G : FnOk X.prog X.w X.K X.mg X.base (L2.CX X.prog X.w) k fa fd ps sp) (hr : Room k X.A) (hg : Gl X x) (hm : X.mg x = some (.ref fa)) (hk : PySem.W.keepIn X.K (.ref fa) = true) (hb : Binds X.K fd ps []) (hx : ∀ σ, PassesAt (L2.CX X.prog X.w) X σ (E σ))
    (hdb : (x == ("__debug__" : Str)) = false := by decide) : PE X (.Call (.Name x p) [] [] pos) (fun σ H Q => sp [] H Q (E σ)) := by
  refine ⟨fun pins s σ H Q I h => ?_⟩
  refine wpAny_Call_Name_kw (ld_glob I hg hm ?_ hdb)
  exact PySem.W.callWith_K0 I.kIn hk (run_fnS (us := []) (vs := []) (E := E) G hr hb (hx σ) I .nil h)
theorem dc0 (C : Cal X.prog X.w X.K X.mg X.base B x k [] f) (hr : Room k X.A) (tk : Takes X W) (hg : Gl X x := by rfl) (hdb : (x == ("__debug__" : Str)) = false := by decide) : DE B X W (.Call (.Name x p) [] [] pos) (mCall 0 f mA0) := by
  obtain ⟨fa, fd, G, hm, hk, hb⟩ := C.ex
  exact PE.imp (pe_callS0 (E := WE W) G hr hg hm hk hb (fun σ => passAt tk σ) hdb) fun σ H Q h => by
    obtain ⟨F, env, S, h⟩ := call_de h
    exact Post.here S h [] .nil
theorem oc0 (C : Cal X.prog X.w X.K X.mg X.base B x k [] f) (hr : Room k X.A) (tk : Takes X W) (hg : Gl X x := by rfl) (hdb : (x == ("__debug__" : Str)) = false := by decide) : DO B X W (.Call (.Name x p) [] [] pos) (mCallO 0 f mA0) := by
  obtain ⟨fa, fd, G, hm, hk, hb⟩ := C.ex
  exact PE.imp (pe_callS0 (E := WE W) G hr hg hm hk hb (fun σ => passAt tk σ) hdb) fun σ H Q h => by
    obtain ⟨F, env, S, h⟩ := call_do h
    exact Post.here S h [] .nil
/-! ### o.m(e, ..) -/
structure MtC (P : Program) (w : World) (K : PySem.W.Frag) (mg : Str → Option Value) (base : Heap) (B : Bx) (c : String) (m : Str) (n k : Nat) (f : Fn) : Prop where
  ex : ∃ C fa fd ps, B.cls c = some C ∧ Meth K C m fa ∧ FnOk P w K mg base (L2.CX P w) k fa fd ps (spOf B n f) ∧ Binds K fd ps []
def selM (t : String → Option Fn) (m : Str) : D → Option Fn
  | .obj c fs => if (fs.lookup m).isNone = true then t c else none
  | _ => none
def mMeth (t : String → Option Fn) (m : Str) (n : Nat) (mo : M Opd) (ms : M (List Opd)) : M Opd := M.bind mo fun x => M.bind (ap1 (selM t m) x) fun f => M.bind ms fun xs => callD n f (x :: xs)
def mMethO (t : String → Option Fn) (m : Str) (n : Nat) (mo : M Opd) (ms : M (List Opd)) : M O := M.bind mo fun x => M.bind (ap1 (selM t m) x) fun f => M.bind ms fun xs => callO n f (x :: xs)
def tMethS (P : Program) (w : World) (K : PySem.W.Frag) (mg : Str → Option Value) (base : Heap) (B : Bx) (m : Str) (n k : Nat) (E : L2.St → XK) (ta : TE) (t : TA) : TE := fun σ H Q => ta σ H fun x H1 => ∃ c C f a dx fs, x = .ref a ∧ B.cls c = some C ∧ Cls K C ∧ H1 a = some (.ins C dx fs) ∧ fs.lookup m = none ∧ MtC P w K mg base B c m n k f ∧
  t σ H1 fun vs H2 => spOf B n f (.ref a :: vs) H2 Q (E σ)
theorem RepF.lookNone {fs : List (Str × D)} : ∀ {gs : List (Str × V)} {f : Str}, RepF B F fs gs → fs.lookup f = none → gs.lookup f = none := by
  induction fs with
  | nil => intro gs f r _; rw [show gs = [] from r]; rfl
  | cons x r ih =>
    intro gs f h e
    obtain ⟨g, d⟩ := x
    obtain ⟨v, r', rfl, h1, h2⟩ := h
    rw [List.lookup_cons] at e ⊢
    cases q : f == g with
    | true => rw [q] at e; cases e
    | false => rw [q] at e; exact ih h2 e
theorem pe_methS {m : Str} {E : L2.St → XK} {ta : TE} {t : TA} {pl : Sem Bool} (he : PE X o ta) (hr : Room k X.A) (hx : ∀ σ, PassesAt (L2.CX X.prog X.w) X σ (E σ)) (ha : PA X (e :: es) t)
    (hst : starEach (e :: es) X.env = (false, eval e X.env) :: starEach es X.env := by rfl) (hpl : (backTo pos (starEach es X.env)).any (·.1) = false := by rfl)
    (ht : eval (.Call (.Attribute o m apos) (e :: es) [] pos) X.env = (do
      let ov ← eval o X.env
      standAt apos.atName
      let (f, first) ← holding [ov] (getMethod ov m pl)
      callWith pos f first (backTo pos (starEach (e :: es) X.env)) (backToKw pos (keywordEach [] X.env))) := by rfl) :
    PE X (.Call (.Attribute o m apos) (e :: es) [] pos) (tMethS X.prog X.w X.K X.mg X.base B m n k E ta t) := by
  refine ⟨fun pins s σ H Q I h => ?_⟩
  refine PySem.W.methodCall_KW (pl := pl) (thn (he.run pins s σ H _ I h) fun u s1 ⟨x, H1, I1, rx, c, C, f, a, dx, fs, ex, hc, cl, ea, l, ⟨C', fa, fd, ps, hc', hm, G, hb⟩, q⟩ => ?_) ht
  subst ex
  rw [hc] at hc'; cases hc'
  obtain rfl : u = Value.ref a := rx
  refine getmeth_ok I1 ea cl hm l ?_
  refine PySem.W.callWith_K (h₀ := X.base) I1.ok.mod.kin hm.kp (thn (ha.run pos pins s1 σ H1 _ I1 q) fun us s2 ⟨vs, H2, I2, r, q2⟩ => ⟨I2.kIn, ?_⟩) hst hpl
  exact run_fnS (E := E) (vs := .ref a :: vs) G hr hb (hx σ) I2 (.cons rfl r) q2
theorem pe_methS0 {m : Str} {E : L2.St → XK} {ta : TE} {pl : Sem Bool} (he : PE X o ta) (hr : Room k X.A) (hx : ∀ σ, PassesAt (L2.CX X.prog X.w) X σ (E σ))
    (ht : eval (.Call (.Attribute o m apos) [] [] pos) X.env = (do
      let ov ← eval o X.env
      standAt apos.atName
      let (f, first) ← holding [ov] (getMethod ov m pl)
      callWith pos f first (backTo pos (starEach [] X.env)) (backToKw pos (keywordEach [] X.env))) := by rfl) :
    PE X (.Call (.Attribute o m apos) [] [] pos) (tMethS X.prog X.w X.K X.mg X.base B m n k E ta tNil) := by
  refine ⟨fun pins s σ H Q I h => ?_⟩
  refine PySem.W.methodCall_KW (pl := pl) (thn (he.run pins s σ H _ I h) fun u s1 ⟨x, H1, I1, rx, c, C, f, a, dx, fs, ex, hc, cl, ea, l, ⟨C', fa, fd, ps, hc', hm, G, hb⟩, q⟩ => ?_) ht
  subst ex
  rw [hc] at hc'; cases hc'
  obtain rfl : u = Value.ref a := rx
  refine getmeth_ok I1 ea cl hm l ?_
  exact PySem.W.callWith_K0 (first := [.ref a]) I1.kIn hm.kp (run_fnS (E := E) (us := [.ref a]) (vs := [.ref a]) G hr hb (hx σ) I1 (.cons rfl .nil) q)
theorem meth_de {t : String → Option Fn} {m : Str} (ht : ∀ c f, t c = some f → MtC X.prog X.w X.K X.mg X.base B c m n k f) (hC : Ocs B X.K) (h : tE B W (mMeth t m n mo ms) σ H Q) : tMethS X.prog X.w X.K X.mg X.base B m n k (WE W) (tE B W mo) (tA B W ms) σ H Q := by
  obtain ⟨F, env, S, h⟩ := h
  refine tE.one S h fun x e1 F1 H1 v s1 m1 o1 rv k1 => ?_
  obtain ⟨a, f, ea, er, k2⟩ := (Post.bind m1 k1).ap1
  have sa := m1.view rv ea
  cases a with
  | obj c fs =>
    obtain ⟨px, C, dx, gs, rfl, hc, hx, rf⟩ := sa
    unfold selM at er
    dsimp only at er
    by_cases hl : (fs.lookup m).isNone = true
    · rw [if_pos hl] at er
      refine ⟨c, C, f, px, dx, gs, rfl, hc, (hC c C hc).cl, hx, rf.lookNone (Option.isNone_iff_eq_none.mp hl), ht c f er, F1, e1, m1, (Post.bind m1 (Post.here m1 k2)).mono fun xs e2 F2 H2 s2 m2 o2 k3 vs rvs => ?_⟩
      exact callD_read m2 (.cons (rv.mono s2.le) rvs) k3
    · rw [if_neg hl] at er; cases er
  | _ => cases er
theorem meth_do {t : String → Option Fn} {m : Str} (ht : ∀ c f, t c = some f → MtC X.prog X.w X.K X.mg X.base B c m n k f) (hC : Ocs B X.K) (h : tO B W (mMethO t m n mo ms) σ H Q) : tMethS X.prog X.w X.K X.mg X.base B m n k (WE W) (tE B W mo) (tA B W ms) σ H Q := by
  obtain ⟨F, env, S, h⟩ := h
  refine tE.one S h fun x e1 F1 H1 v s1 m1 o1 rv k1 => ?_
  obtain ⟨a, f, ea, er, k2⟩ := (Post.bind m1 k1).ap1
  have sa := m1.view rv ea
  cases a with
  | obj c fs =>
    obtain ⟨px, C, dx, gs, rfl, hc, hx, rf⟩ := sa
    unfold selM at er
    dsimp only at er
    by_cases hl : (fs.lookup m).isNone = true
    · rw [if_pos hl] at er
      refine ⟨c, C, f, px, dx, gs, rfl, hc, (hC c C hc).cl, hx, rf.lookNone (Option.isNone_iff_eq_none.mp hl), ht c f er, F1, e1, m1, (Post.bind m1 (Post.here m1 k2)).mono fun xs e2 F2 H2 s2 m2 o2 k3 vs rvs => ?_⟩
      exact callO_read (H0 := H) (fun p hp => s1.back (s2.back hp)) m2 (.cons (rv.mono s2.le) rvs) k3
    · rw [if_neg hl] at er; cases er
  | _ => cases er
variable {t : String → Option Fn} {m : Str}
theorem de_meth {pl : Sem Bool} (ht : ∀ c f, t c = some f → MtC X.prog X.w X.K X.mg X.base B c m n k f) (hC : Ocs B X.K) (hr : Room k X.A) (tk : Takes X W) (ho : DE B X W o mo) (ha : DA B X W (e :: es) ms)
    (hst : starEach (e :: es) X.env = (false, eval e X.env) :: starEach es X.env := by rfl) (hpl : (backTo pos (starEach es X.env)).any (·.1) = false := by rfl)
    (hev : eval (.Call (.Attribute o m apos) (e :: es) [] pos) X.env = (do
      let ov ← eval o X.env
      standAt apos.atName
      let (f, first) ← holding [ov] (getMethod ov m pl)
      callWith pos f first (backTo pos (starEach (e :: es) X.env)) (backToKw pos (keywordEach [] X.env))) := by rfl) : DE B X W (.Call (.Attribute o m apos) (e :: es) [] pos) (mMeth t m n mo ms) :=
  PE.imp (pe_methS (pl := pl) (E := WE W) ho hr (fun σ => passAt tk σ) ha hst hpl hev) fun σ H Q h => meth_de ht hC h
theorem do_meth {pl : Sem Bool} (ht : ∀ c f, t c = some f → MtC X.prog X.w X.K X.mg X.base B c m n k f) (hC : Ocs B X.K) (hr : Room k X.A) (tk : Takes X W) (ho : DE B X W o mo) (ha : DA B X W (e :: es) ms)
    (hst : starEach (e :: es) X.env = (false, eval e X.env) :: starEach es X.env := by rfl) (hpl : (backTo pos (starEach es X.env)).any (·.1) = false := by rfl)
    (hev : eval (.Call (.Attribute o m apos) (e :: es) [] pos) X.env = (do
      let ov ← eval o X.env
      standAt apos.atName
      let (f, first) ← holding [ov] (getMethod ov m pl)
      callWith pos f first (backTo pos (starEach (e :: es) X.env)) (backToKw pos (keywordEach [] X.env))) := by rfl) : DO B X W (.Call (.Attribute o m apos) (e :: es) [] pos) (mMethO t m n mo ms) :=
  PE.imp (pe_methS (pl := pl) (E := WE W) ho hr (fun σ => passAt tk σ) ha hst hpl hev) fun σ H Q h => meth_do ht hC h
theorem tA_nil {Q : List V → Hp → Prop} (h : tA B W mA0 σ H Q) : tNil σ H Q := by
  obtain ⟨F, env, S, h⟩ := h
  exact Post.here S h [] .nil
theorem tE.mono' {R R' : VK} (h : tE B W mo σ H R) (i : ∀ v H', R v H' → R' v H') : tE B W mo σ H R' := by
  obtain ⟨F, env, S, h⟩ := h
  exact ⟨F, env, S, h.mono fun r e F' H' _ _ _ q v rv => i v H' (q v rv)⟩
theorem de_meth0 {pl : Sem Bool} (ht : ∀ c f, t c = some f → MtC X.prog X.w X.K X.mg X.base B c m n k f) (hC : Ocs B X.K) (hr : Room k X.A) (tk : Takes X W) (ho : DE B X W o mo)
    (hev : eval (.Call (.Attribute o m apos) [] [] pos) X.env = (do
      let ov ← eval o X.env
      standAt apos.atName
      let (f, first) ← holding [ov] (getMethod ov m pl)
      callWith pos f first (backTo pos (starEach [] X.env)) (backToKw pos (keywordEach [] X.env))) := by rfl) : DE B X W (.Call (.Attribute o m apos) [] [] pos) (mMeth t m n mo mA0) :=
  PE.imp (pe_methS0 (pl := pl) (E := WE W) ho hr (fun σ => passAt tk σ) hev) fun σ H Q h => tE.mono' (meth_de ht hC h) fun v H' ⟨c, C, f, a, dx, fs, h1, h2, h3, h4, h5, h6, q⟩ => ⟨c, C, f, a, dx, fs, h1, h2, h3, h4, h5, h6, tA_nil q⟩
theorem do_meth0 {pl : Sem Bool} (ht : ∀ c f, t c = some f → MtC X.prog X.w X.K X.mg X.base B c m n k f) (hC : Ocs B X.K) (hr : Room k X.A) (tk : Takes X W) (ho : DE B X W o mo)
    (hev : eval (.Call (.Attribute o m apos) [] [] pos) X.env = (do
      let ov ← eval o X.env
      standAt apos.atName
      let (f, first) ← holding [ov] (getMethod ov m pl)
      callWith pos f first (backTo pos (starEach [] X.env)) (backToKw pos (keywordEach [] X.env))) := by rfl) : DO B X W (.Call (.Attribute o m apos) [] [] pos) (mMethO t m n mo mA0) :=
  PE.imp (pe_methS0 (pl := pl) (E := WE W) ho hr (fun σ => passAt tk σ) hev) fun σ H Q h => tE.mono' (meth_do ht hC h) fun v H' ⟨c, C, f, a, dx, fs, h1, h2, h3, h4, h5, h6, q⟩ => ⟨c, C, f, a, dx, fs, h1, h2, h3, h4, h5, h6, tA_nil q⟩
end
end AN

set_option Elab.async false
set_option maxRecDepth 100000
set_option autoImplicit false
set_option linter.unusedVariables false
/-! x in a tuple of own objects, by their own == -/
namespace AN
open PySem PySem.Spec PyProof.Rows L2
section
variable {prog : Program} {w : World} {A : Around} {E : Value → Shared → Prop} {s : Shared}
theorem tuple_inG {t : Addr} {x : Value} {P : Fin → Shared → Prop} (J : Shared → Prop) {items : Array Value} (ht : IsTup s.heap t items) (es : List Bool) (hl : es.length = items.size)
    (turn : ∀ i (h : i < items.size) s', J s' → wpAny (model prog w) A (eqBool items[i] x) (fun r s2 => some r = es[i]? ∧ J s2) E s') (h0 : J s)
    (h : ∀ s', J s' → P (.done (.ret (.bool (es.any id)))) s') : wpAny (model prog w) A (Builtin.«tuple.__contains__» ⟨[.ref t, x], []⟩) P E s := by
  show wpAny _ _ (Builtin.Tuple.tupleItemsOf (.ref t) >>= _) _ _ s
  refine wpAny_bind (tupleItemsOf_ ht ?_)
  refine wpAny_bind (forIn_array_ _ (fun rest b s' => b.1 = none ∧ J s' ∧ ∃ i, rest = items.toList.drop i ∧ i ≤ items.size ∧ ∀ s2, J s2 → P (.done (.ret (.bool ((es.drop i).any id)))) s2) _ ?_ ?_ items _ ⟨rfl, h0, 0, rfl, Nat.zero_le _, h⟩)
  · rintro y rest b s' ⟨hb, hJ, i, hz, hi, hP⟩
    have hlt : i < items.size := by
      rcases Nat.lt_or_ge i items.size with h' | h'
      · exact h'
      · rw [List.drop_of_length_le (by simpa using h')] at hz; cases hz
    have hlt' : i < items.toList.length := by simpa using hlt
    rw [List.drop_eq_getElem_cons hlt'] at hz
    injection hz with hy hrest
    have hy' : y = items[i] := by rw [hy]; simp
    subst hy'
    refine wpAny_bind (wpAny_mono (turn i hlt s' hJ) (fun r s2 q => ?_) fun _ _ z => z)
    obtain ⟨hr, hJ2⟩ := q
    have hle : i < es.length := by omega
    have hd : es.drop i = r :: es.drop (i + 1) := by
      rw [List.drop_eq_getElem_cons hle]
      congr 1
      rw [List.getElem?_eq_getElem hle] at hr
      exact (Option.some.inj hr).symm
    rw [hd] at hP
    cases r with
    | true => exact wpAny_bind (wpAny_pure (wpAny_pure (wpAny_pure (by simpa using hP s2 hJ2))))
    | false => exact wpAny_pure ⟨rfl, hJ2, i + 1, hrest, hlt, by simpa using hP⟩
  · rintro ⟨b1, b2⟩ s' ⟨hb, hJ, i, hz, hi, hP⟩
    simp only at hb
    subst hb
    have hge : items.size ≤ i := by
      rcases Nat.lt_or_ge i items.toList.length with h' | h'
      · rw [List.drop_eq_getElem_cons h'] at hz; cases hz
      · simpa using h'
    have e : es.drop i = [] := List.drop_of_length_le (by omega)
    rw [e] at hP
    exact wpAny_pure (by simpa using hP s' hJ)
theorem contains_tupG {t : Addr} {x : Value} {Q : Bool → Shared → Prop} (J : Shared → Prop) {items : Array Value} (ht : IsTup s.heap t items) (es : List Bool) (hl : es.length = items.size)
    (turn : ∀ i (h : i < items.size) s', J s' → wpAny (model prog w) A.in1 (eqBool items[i] x) (fun r s2 => some r = es[i]? ∧ J s2) E s') (h0 : J s)
    (h : ∀ s', J s' → Q (es.any id) s') : wpAny (model prog w) A (contains (.ref t) x) Q E s := by
  unfold contains
  refine wpAny_holding ?_
  refine wpAny_bind (wpAny_specialOf ht.typeIs slot_tuple_contains.lookup ?_)
  rw [if_neg (by decide)]
  exact wpAny_bind (wpAny_callSpecialUnlessNone?_slot (name := Str.ofString "__contains__") ht.typeIs slot_tuple_contains
    (wpAny_call_entry slot_tuple_contains ht.typeIs entry_tuple_contains (tuple_inG J ht es hl turn h0 fun s' z => ⟨_, rfl, wpAny_truthy_bool (h s' z)⟩) (args_tuple_contains _ _)))
end
/-- a scalar, or a tuple of scalars -/
def simpleD : D → Bool
  | .tup xs => xs.all scalar
  | d => scalar d
def simpleO : D → Bool
  | .obj _ fs => fs.all fun p => simpleD p.2
  | _ => false
def boolOf : D → Option Bool
  | .bl b => some b
  | _ => none
/-- by the items' own ==, the item on the left -/
def eqsOf (eq : String → Option Fn) (a : D) : List D → Option (List Bool)
  | [] => some []
  | d :: ds => (if simpleO d = true then (oEq false eq d a).bind boolOf else none).bind fun r => (eqsOf eq a ds).map (r :: ·)
def dInE (eq : String → Option Fn) (neg : Bool) (g : D → D → Option D) (a b : D) : Option D := if simpleO a = true ∧ (oEq false eq a a).bind boolOf = some true then (match b with
  | .tup ds => (eqsOf eq a ds).map fun rs => .bl (if neg then !(rs.any id) else rs.any id)
  | _ => g a b) else g a b
section
variable {B : Bx} {X : Cx} {W : WX} {F H F1 H1 : Hp} {env e1 : AN.Env} {σ : L2.St} {Q : VK} {a b e o : Expr} {ma mb : M Opd} {pos p : Pos} {k n : Nat}
theorem scal_uniq {d d' : D} {v : V} (h : scalar d = true) (h' : scalar d' = true) (r : Rep B F d v) (r' : Rep B F d' v) : d = d' := by
  cases d with
  | non => cases (show v = .non from r); cases d' with
    | non => rfl
    | bl _ => cases (show V.non = .bl _ from r')
    | int _ => cases (show V.non = .int _ from r')
    | str _ => cases r'.1
    | _ => cases h'
  | bl _ => cases (show v = .bl _ from r); cases d' with
    | non => cases (show V.bl _ = .non from r')
    | bl _ => cases (show V.bl _ = .bl _ from r'); rfl
    | int _ => cases (show V.bl _ = .int _ from r')
    | str _ => cases r'.1
    | _ => cases h'
  | int _ => cases (show v = .int _ from r); cases d' with
    | non => cases (show V.int _ = .non from r')
    | bl _ => cases (show V.int _ = .bl _ from r')
    | int _ => cases (show V.int _ = .int _ from r'); rfl
    | str _ => cases r'.1
    | _ => cases h'
  | str _ => obtain ⟨rfl, _⟩ := r; cases d' with
    | non => cases (show V.str _ = .non from r')
    | bl _ => cases (show V.str _ = .bl _ from r')
    | int _ => cases (show V.str _ = .int _ from r')
    | str _ => cases r'.1; rfl
    | _ => cases h'
  | _ => cases h
theorem scals_uniq : ∀ {ds ds' : List D} {vs : List V}, ds.all scalar = true → ds'.all scalar = true → RepL B F ds vs → RepL B F ds' vs → ds = ds'
  | [], [], _, _, _, _, _ => rfl
  | [], d :: _, vs, _, _, r, r' => by
    rw [show vs = [] from r] at r'
    obtain ⟨_, _, e, _⟩ := r'
    cases e
  | d :: _, [], vs, _, _, r, r' => by
    rw [show vs = [] from r'] at r
    obtain ⟨_, _, e, _⟩ := r
    cases e
  | d :: ds, d' :: ds', vs, h, h', r, r' => by
    rw [List.all_cons, Bool.and_eq_true] at h h'
    obtain ⟨v, r1, rfl, a1, a2⟩ := r
    obtain ⟨v', r2, e, b1, b2⟩ := r'
    injection e with e1 e2
    subst e1; subst e2
    rw [scal_uniq h.1 h'.1 a1 b1, scals_uniq h.2 h'.2 a2 b2]
theorem not_scal_ref {d : D} {p : Addr} (h : scalar d = true) (r : Rep B F d (.ref p)) : False := by
  cases d with
  | non => cases (show V.ref p = .non from r)
  | bl _ => cases (show V.ref p = .bl _ from r)
  | int _ => cases (show V.ref p = .int _ from r)
  | str _ => cases r.1
  | _ => cases h
theorem simple_uniq {pins : List (Addr × Obj)} {s : Shared} (hK : X.K = B.K) (I : Inv X pins σ H s) (hh : Holds F H) {d d' : D} {v : V} (h : simpleD d = true) (h' : simpleD d' = true) (r : Rep B F d v) (r' : Rep B F d' v) : d = d' := by
  by_cases q : ∃ xs, d = .tup xs
  · obtain ⟨xs, rfl⟩ := q
    obtain ⟨p, vs, rfl, ta, _, rl⟩ := r
    by_cases q' : ∃ ys, d' = .tup ys
    · obtain ⟨ys, rfl⟩ := q'
      obtain ⟨p', vs', e, ta', _, rl'⟩ := r'
      cases e
      have := I.tuple_inj (xs := vs) (ys := vs') (by rw [hK]; exact ta.sq hh) (by rw [hK]; exact ta'.sq hh)
      subst this
      rw [scals_uniq h h' rl rl']
    · have hs : scalar d' = true := by
        cases d' with
        | tup ys => exact absurd ⟨ys, rfl⟩ q'
        | _ => exact h'
      exact (not_scal_ref hs r').elim
  · have hs : scalar d = true := by
      cases d with
      | tup ys => exact absurd ⟨ys, rfl⟩ q
      | _ => exact h
    by_cases q' : ∃ ys, d' = .tup ys
    · obtain ⟨ys, rfl⟩ := q'
      obtain ⟨p', vs', rfl, _⟩ := r'
      exact (not_scal_ref hs r).elim
    · have hs' : scalar d' = true := by
        cases d' with
        | tup ys => exact absurd ⟨ys, rfl⟩ q'
        | _ => exact h'
      exact scal_uniq hs hs' r r'
theorem fields_uniq {pins : List (Addr × Obj)} {s : Shared} (hK : X.K = B.K) (I : Inv X pins σ H s) (hh : Holds F H) : ∀ {fs fs' : List (Str × D)} {gs : List (Str × V)}, fs.all (fun p => simpleD p.2) = true → fs'.all (fun p => simpleD p.2) = true → RepF B F fs gs → RepF B F fs' gs → fs = fs'
  | [], [], _, _, _, _, _ => rfl
  | [], (f, d) :: _, gs, _, _, r, r' => by
    rw [show gs = [] from r] at r'
    obtain ⟨_, _, e, _⟩ := r'
    cases e
  | (f, d) :: _, [], gs, _, _, r, r' => by
    rw [show gs = [] from r'] at r
    obtain ⟨_, _, e, _⟩ := r
    cases e
  | (f, d) :: ds, (f', d') :: ds', gs, h, h', r, r' => by
    rw [List.all_cons, Bool.and_eq_true] at h h'
    obtain ⟨v, r1, rfl, a1, a2⟩ := r
    obtain ⟨v', r2, e, b1, b2⟩ := r'
    injection e with e1 e2
    injection e1 with e3 e4
    subst e3; subst e4; subst e2
    have q1 : d = d' := simple_uniq hK I hh h.1 h'.1 a1 b1
    rw [q1, fields_uniq hK I hh h.2 h'.2 a2 b2]
theorem obj_uniq {pins : List (Addr × Obj)} {s : Shared} (hK : X.K = B.K) (hi : ∀ c c' C, B.cls c = some C → B.cls c' = some C → c = c') (I : Inv X pins σ H s) (hh : Holds F H) {d d' : D} {v : V} (h : simpleO d = true) (h' : simpleO d' = true) (r : Rep B F d v) (r' : Rep B F d' v) : d = d' := by
  cases d with
  | obj c fs =>
    cases d' with
    | obj c' fs' =>
      obtain ⟨p, C, dx, gs, rfl, hc, hp, rf⟩ := r
      obtain ⟨p', C', dx', gs', e, hc', hp', rf'⟩ := r'
      cases e
      rw [hp] at hp'; cases hp'
      rw [hi c c' C hc hc', fields_uniq hK I hh h h' rf rf']
    | _ => cases h'
  | _ => cases h
theorem oEq_obj {eq : String → Option Fn} {d a : D} {r : Bool} (hd : simpleO d = true) (h : (oEq false eq d a).bind boolOf = some r) : ∃ c fs f as, d = .obj c fs ∧ eq c = some f ∧ f [.fz d, .fz a] = .ok (.fz (.bl r)) as := by
  cases d with
  | obj c fs =>
    unfold oEq at h
    dsimp only at h
    cases q : eq c with
    | none => rw [q] at h; cases h
    | some f =>
      rw [q] at h
      dsimp only [Option.bind] at h
      cases qf : f [.fz (.obj c fs), .fz a] with
      | bad => rw [qf] at h; cases h
      | exc _ _ _ => rw [qf] at h; cases h
      | ok rt as =>
        rw [qf] at h
        cases rt with
        | ow _ => cases h
        | fz z =>
          cases z with
          | bl r' =>
            cases h
            exact ⟨c, fs, f, as, rfl, q, qf⟩
          | _ => cases h
  | _ => cases hd
theorem eqsOf_get {eq : String → Option Fn} {a : D} : ∀ {ds : List D} {rs : List Bool}, eqsOf eq a ds = some rs → rs.length = ds.length ∧ ∀ (i : Nat) (d : D), ds[i]? = some d → simpleO d = true ∧ ∃ r, rs[i]? = some r ∧ (oEq false eq d a).bind boolOf = some r
  | [], rs, h => by
    cases h
    exact ⟨rfl, fun i d e => by simp at e⟩
  | x :: ds, rs, h => by
    unfold eqsOf at h
    by_cases hx : simpleO x = true
    · rw [if_pos hx] at h
      obtain ⟨r, hr, h⟩ := Option.bind_eq_some_iff.mp h
      obtain ⟨rs', hrs, rfl⟩ := Option.map_eq_some_iff.mp h
      obtain ⟨l, g⟩ := eqsOf_get hrs
      refine ⟨by simp [l], fun i d e => ?_⟩
      cases i with
      | zero => simp at e; subst e; exact ⟨hx, r, rfl, hr⟩
      | succ i => simp only [List.getElem?_cons_succ] at e ⊢; exact g i d e
    · rw [if_neg hx] at h; cases h
def rInE (P : Program) (w : World) (K : PySem.W.Frag) (mg : Str → Option Value) (base : Heap) (B : Bx) (k : Nat) (eq : String → Option Fn) (neg : Bool) : R2 := fun x y H Q => ∃ F p vs ds a rs, y = .ref p ∧ SqT K H p vs ∧ Holds F H ∧ RepL B F ds vs ∧ Rep B F a x ∧ simpleO a = true ∧ (oEq false eq a a).bind boolOf = some true ∧ eqsOf eq a ds = some rs ∧
  (∀ c C fs, a = .obj c fs → B.cls c = some C → ∀ c' C', B.cls c' = some C' → PySem.W.notFirst K C' (.ref C) = true) ∧ (∀ H', Step0 F H F H' → Holds F H' → Q (.bl (if neg then !(rs.any id) else rs.any id)) H')
theorem in_run {eq : String → Option Fn} {neg : Bool} {pins : List (Addr × Obj)} {s : Shared} {x y : V} {u v : Value} {Q2 : Bool → Shared → Prop} (hK : X.K = B.K) (hC : Ocs B X.K) (hi : ∀ c c' C, B.cls c = some C → B.cls c' = some C → c = c') (he : ∀ c f, eq c = some f → EqC X.prog X.w X.K X.mg X.base B c k f) (hr : Room (k + 1) X.A)
    (I : Inv X pins σ H s) (rx : RelV x u) (ry : RelV y v) (h : rInE X.prog X.w X.K X.mg X.base B k eq neg x y H Q) (hq : ∀ r H' s', Inv X pins σ H' s' → Q (.bl (if neg then !r else r)) H' → Q2 r s') :
    wpAny (model X.prog X.w) X.A (contains v u) Q2 X.xe s := by
  obtain ⟨F, p, vs, ds, a, rs, rfl, sq, hh, rl, ra, sa, refl, ers, nf, q⟩ := h
  cases (show v = Value.ref p from ry)
  obtain ⟨its, r, pl, hz⟩ := I.tuple sq
  obtain ⟨ln, get⟩ := eqsOf_get ers
  have hl : rs.length = its.toArray.size := by rw [List.size_toArray, ← r.length, rl.length]; exact ln
  obtain ⟨ca, fa, ga, asa, rfl, _, _⟩ := oEq_obj sa refl
  obtain ⟨px, C, dx, gs, rfl, hc, hp, rf⟩ := id ra
  cases (show u = Value.ref px from rx)
  refine contains_tupG (fun s' => ∃ H', Inv X pins σ H' s' ∧ Step0 F H F H' ∧ Holds F H') pl rs hl (fun i hi' s' ⟨H', I', st', hh'⟩ => ?_) ⟨H, I, Step.refl _ _ _, hh⟩ fun s' ⟨H', I', st', hh'⟩ => hq _ H' s' I' (q H' st' hh')
  have hi2 : i < its.length := by simpa using hi'
  have hi3 : i < vs.length := by rw [r.length]; exact hi2
  obtain ⟨d, hd, rd⟩ := rl.got (List.getElem?_eq_getElem hi3)
  obtain ⟨sd, rr, hrr, hrr2⟩ := get i d hd
  obtain ⟨ui, hui, rui⟩ := r.get (List.getElem?_eq_getElem hi3)
  rw [List.getElem?_eq_getElem hi2] at hui
  have eui : its.toArray[i] = ui := by simpa using Option.some.inj hui
  rw [eui]
  obtain ⟨cd, fd, g, as, rfl, heq, hg⟩ := oEq_obj sd hrr2
  obtain ⟨pd, Cd, dd, gd, e, hcd, hpd, rfd⟩ := id rd
  rw [e] at rui
  cases (show ui = Value.ref pd from rui)
  by_cases same : pd = px
  · subst same
    have hd2 := obj_uniq hK hi I' hh' sd sa (v := .ref pd) (by rw [← e]; exact rd) ra
    rw [← hd2] at refl
    have : rr = true := Option.some.inj (hrr2.symm.trans (by rw [← hd2]; exact refl))
    subst this
    exact SeqAt.EqAt.same (.ref pd) X.prog X.w X.xe _ ⟨hrr.symm, H', I', st', hh'⟩
  · refine GQ.eqBool_refG same ?_
    obtain ⟨C', fa', fd', ps', hc', hfi, hfn, G, hb, _⟩ := (he cd g heq).ex
    rw [hcd] at hc'; cases hc'
    have hpd' := hh'.at_ hpd rfl
    have hpx' := hh'.at_ hp rfl
    obtain ⟨mA, J, _⟩ := ins_get I'.hok hpd'
    obtain ⟨od, J, _⟩ := J.look
    obtain ⟨mB, J', _⟩ := ins_get I'.hok hpx'
    obtain ⟨od', J', _⟩ := J'.look
    obtain ⟨m, fr⟩ := I'.fr
    have hr1 : Room k X.A.in1 := hr.in1
    refine PySem.W.cmp_K (op := .Eq) (tb := .ref C) (by have := hr1.un; omega) fr I'.ok.mod.kin J J'.type (nf _ _ _ rfl hc _ _ hcd) hfi hfn ?_
    have sp : spOf B 2 g [.ref pd, .ref px] H' (fun v H2 => v = .bl rr ∧ Step0 F H F H2 ∧ Holds F H2) E0 := by
      have := own_sp (Q := fun v H2 => Step0 F H F H2 ∧ Holds F H2) (ds := [.obj cd fd, .obj ca fa]) (vs := [.ref pd, .ref px]) hh' hh' ⟨_, _, rfl, by rw [← e]; exact rd, _, _, rfl, ra, rfl⟩ hg rfl fun v F2 H2 s2 h2 _ => by
        obtain ⟨sd, hd⟩ := Step0.drop (F := F) (H := H') (F1 := F) (H1 := H2) ⟨Le.refl F, s2.keep, fun b u e => .inl e, s2.stay⟩ hh'
        exact ⟨st'.trans sd fun _ z => z.elim, hd⟩
      exact this
    refine wpAny_mono (sp_call (vs := [.ref pd, .ref px]) G hb hr1 rfl I' (.cons rfl (.cons rfl .nil)) passE0 sp) (fun w s2 q2 => ?_) fun _ _ z => z
    obtain ⟨v', H2, I2, rv, rfl, st2, hh2⟩ := q2
    cases (show w = Value.bool rr from rv)
    exact ⟨rr, rfl, hrr.symm, H2, I2, st2, hh2⟩
theorem op_inE {eq : String → Option Fn} (hK : X.K = B.K) (hC : Ocs B X.K) (hi : ∀ c c' C, B.cls c = some C → B.cls c' = some C → c = c') (he : ∀ c f, eq c = some f → EqC X.prog X.w X.K X.mg X.base B c k f) (hr : Room (k + 1) X.A) : OpR X (compareOp .In) (rInE X.prog X.w X.K X.mg X.base B k eq false) := by
  intro pins s σ H x y u v Q I rx ry h
  show wpAny _ _ (do return Value.bool (← contains v u)) _ _ s
  exact wpAny_bind (in_run hK hC hi he hr I rx ry h fun r H' s' I' q => wpAny_pure ⟨.bl r, H', I', rfl, q⟩)
theorem op_notInE {eq : String → Option Fn} (hK : X.K = B.K) (hC : Ocs B X.K) (hi : ∀ c c' C, B.cls c = some C → B.cls c' = some C → c = c') (he : ∀ c f, eq c = some f → EqC X.prog X.w X.K X.mg X.base B c k f) (hr : Room (k + 1) X.A) : OpR X (compareOp .NotIn) (rInE X.prog X.w X.K X.mg X.base B k eq true) := by
  intro pins s σ H x y u v Q I rx ry h
  show wpAny _ _ (do return Value.bool (!(← contains v u))) _ _ s
  exact wpAny_bind (in_run hK hC hi he hr I rx ry h fun r H' s' I' q => wpAny_pure ⟨.bl (!r), H', I', rfl, q⟩)
theorem p_inE {eq : String → Option Fn} {neg : Bool} {g : D → D → Option D} {r0 : R2} (hK : X.K = B.K) (hA : Apart B X.K) (h0 : Prim2 B g r0) : Prim2 B (dInE eq neg g) (fun x y H Q => r0 x y H Q ∨ rInE X.prog X.w X.K X.mg X.base B k eq neg x y H Q) := fun F H a b z x y Q hh sa sb e q => by
  have plain : g a b = some z → r0 x y H Q ∨ rInE X.prog X.w X.K X.mg X.base B k eq neg x y H Q := fun e => .inl (h0 F H a b z x y Q hh sa sb e q)
  unfold dInE at e
  by_cases hs : simpleO a = true ∧ (oEq false eq a a).bind boolOf = some true
  · rw [if_pos hs] at e
    cases b with
    | tup ds =>
      right
      dsimp only at e
      obtain ⟨rs, ers, rfl⟩ := Option.map_eq_some_iff.mp e
      obtain ⟨F1, l1, h1, r1⟩ := sa.fix hh
      have sb1 := sb.mono l1
      obtain ⟨p, vs, rfl, ta, _, rl⟩ := sb1
      refine ⟨F1, p, vs, ds, a, rs, rfl, by rw [hK]; exact ta.sq h1, h1, rl, r1, hs.1, hs.2, ers, fun c C fs _ hc c' C' hc' => hA c' c C' C hc' hc, fun H' st hh' => ?_⟩
      obtain ⟨sd, hd⟩ := Step0.drop (F := F) (H := H) (F1 := F) (H1 := H') ⟨Le.refl F, st.keep, fun b u e => .inl e, st.stay⟩ hh
      exact q _ F H' sd hd rfl
    | _ => exact plain e
  · rw [if_neg hs] at e; exact plain e
end
end AN

set_option Elab.async false
set_option maxRecDepth 100000
set_option autoImplicit false
set_option linter.unusedVariables false
/-! a, b = [..], e -/
namespace AN
open PySem PySem.Spec PyProof.Rows L2
def mParO (i j : Nat) (mo : M O) (mb : M Opd) : M Fl := M.bind mo fun o => M.bind mb fun x => M.bind (frz1 x) fun d => mSeq (put i (.ow false o)) fun e => match gN j d e with
  | some e2 => .ok .nx e2
  | none => .bad
section
variable {B : Bx} {X : Cx} {W : WX} {F H F1 H1 : Hp} {env e1 : AN.Env} {σ : L2.St} {Q : VK} {a b e o : Expr} {ma mb : M Opd} {mo : M O} {pos p : Pos} {k n : Nat}
theorem parO_ok {i j : Nat} {D : Ends} (h : tS B W (mParO i j mo mb) D σ H) : tPar i j (tCons (tO B W mo) (tCons (tE B W mb) tNil)) D σ H := by
  obtain ⟨F, env, S, h⟩ := h
  unfold mParO M.bind at h
  refine ⟨F, env, S, ?_⟩
  cases q : mo env with
  | bad => rw [q] at h; exact h
  | exc c d e' =>
    rw [q] at h
    obtain ⟨C, fld, hb, h⟩ := h
    exact ⟨C, fld, hb, fun F' H' dx v s ⟨m', l⟩ hd hf h0 r => h σ F' H' dx v (Go.of s m' l) hd hf h0 r⟩
  | ok o e1 =>
    rw [q] at h
    intro F1 H1 s1 m1 l1 p hp hf ho
    have tr1 : ∀ {F2 H2 : Hp}, Step (Own e1 σ) F1 H1 F2 H2 → Step (Own env σ) F H F2 H2 := fun s2 => s1.trans s2 fun b z => .inl (l1.own z)
    have np : ¬ Own e1 σ p := fun z => by
      obtain ⟨_, u, hu⟩ := (l1.own z).ex S
      rw [hp] at hu; cases hu
    obtain ⟨u0, hu0⟩ := ho.ex
    refine ⟨F1, e1, m1, ?_⟩
    dsimp only at h
    cases q2 : mb e1 with
    | bad => rw [q2] at h; exact h
    | exc c d e' =>
      rw [q2] at h
      obtain ⟨C, fld, hb, h⟩ := h
      exact ⟨C, fld, hb, fun F' H' dx v s ⟨m', l⟩ hd hf h0 r => h σ F' H' dx v (Go.of (tr1 s) m' (l1.trans l)) hd hf (s1.back h0) r⟩
    | ok x e2 =>
      rw [q2] at h
      intro F2 H2 s2 m2 l2 w rw'
      dsimp only at h
      cases q3 : frz1 x e2 with
      | bad => rw [q3] at h; exact h.elim
      | exc c d e' =>
        rw [q3] at h
        exfalso
        cases x with
        | d _ => cases q3
        | sl i =>
          simp only [frz1] at q3
          cases z : e2[i]? with
          | none => rw [z] at q3; cases q3
          | some s =>
            rw [z] at q3
            cases s with
            | no => cases q3
            | fz _ => cases q3
            | ow kk _ => cases kk <;> cases q3
      | ok d e3 =>
        rw [q3] at h
        obtain ⟨d', e3', F3, s3, m3, l3, r3, q4⟩ := m2.frz1 (W := W) rw' (k := fun d' e' _ _ => d' = d ∧ e' = e3) (by rw [q3]; exact fun _ _ _ _ _ => ⟨rfl, rfl⟩)
        obtain ⟨rfl, rfl⟩ := q4
        have st12 := s2.trans s3 fun b z => .inl (l2.own z)
        have fn : ∀ {F' H' : Hp}, Step (Own e1 σ) F1 H1 F' H' → F' p = none := fun {F' H'} s => by
          cases z : F' p with
          | none => rfl
          | some u =>
            rcases s.new p u z with y | y | y
            · rw [hf] at y; cases y
            · rw [hu0] at y; cases y
            · exact (np y).elim
        have ho3 : OAt B F3 H2 p o := ho.mono st12.le fun u e => s2.keep p u e np
        have np3 : ¬ Own e3' σ p := fun z => np (l2.own (l3.own z))
        have g0 : Go B F env σ H F3 e3' σ H2 := Go.of (tr1 st12) m3 (l1.trans (l2.trans l3))
        dsimp only at h
        unfold mSeq M.bind put at h
        cases z : e3'[i]? with
        | none => simp only [z] at h; exact h.elim
        | some s =>
          have fin : (∀ o, e3'[i]? ≠ some (.ow true o)) → PostS B W F env σ H D (match gN j d' (e3'.set i (.ow false o)) with
              | some e2 => .ok .nx e2
              | none => .bad) → ∃ x y, [V.ref p, w] = [x, y] ∧ D.nx ((σ.set i (some x)).set j (some y)) H2 := fun h1 k => by
            have g1 := g0.setO z h1 hp np3 (fn st12) ho3
            cases q5 : gN j d' (e3'.set i (.ow false o)) with
            | none => rw [q5] at k; exact k.elim
            | some e5 =>
              rw [q5] at k
              obtain ⟨⟨s0, b0⟩, b1, rfl⟩ := gN_ok q5
              exact ⟨_, _, rfl, k _ _ _ (g1.trans (g1.sim.setD b0 b1 r3))⟩
          cases s with
          | no => simp only [z] at h; exact fin (fun o y => by rw [z] at y; cases y) h
          | fz _ => simp only [z] at h; exact fin (fun o y => by rw [z] at y; cases y) h
          | ow kk o' =>
            cases kk with
            | true => simp only [z] at h; exact h.elim
            | false => simp only [z] at h; exact fin (fun o y => by rw [z] at y; cases y) h
theorem ds_par2O (i j : Nat) {x y : Str} {px py pt : Pos} {kt k2 pt2} (hc : X.calm = true) (hN : X.N.Nodup) (ho : DO B X W a mo) (hb : DE B X W b mb) (hi : X.N[i]? = some x := by rfl) (hj : X.N[j]? = some y := by rfl) (hij : i ≠ j := by decide)
    (hx : X.env.scope.names.lookup x = some .local := by rfl) (hy : X.env.scope.names.lookup y = some .local := by rfl)
    (hw : swappedStores [.Tuple [.Name x px, .Name y py] kt pt] (.Tuple [a, b] k2 pt2) X.env = pure (some [x, y]) := by rfl)
    (hs : swapsWithSole [.Tuple [.Name x px, .Name y py] kt pt] (.Tuple [a, b] k2 pt2) pos.line X.env = pure false := by rfl)
    (hs1 : starEach [a, b] X.env = (false, eval a X.env) :: starEach [b] X.env := by rfl) (hs2 : starEach [b] X.env = (false, eval b X.env) :: starEach [] X.env := by rfl) :
    DS B X W (.Assign [.Tuple [.Name x px, .Name y py] kt pt] (.Tuple [a, b] k2 pt2) pos) (mParO i j mo mb) := PS.imp (ps_par hc hN hi hj hij hx hy (pa_cons ho (pa_cons hb pa_nil hs2) hs1) hw hs) fun D σ H h => parO_ok h
@[simp] theorem mParO_r {i j : Nat} {e : AN.Env} : mParO i j mo mb e = R.th (mo e) fun o e => R.th (mb e) fun x e => R.th (frz1 x e) fun d e => R.th (put i (.ow false o) e) fun f => (match f with
  | .nx => fun e => R.th (rop (gN j d e) e) fun e2 _ => .ok .nx e2
  | f => M.pure f) := by
  refine th_congr fun o e => th_congr fun x e => th_congr fun d e => th_congr fun f e => ?_
  cases f with
  | nx =>
    show (match gN j d e with
      | some e2 => R.ok Fl.nx e2
      | none => R.bad) = R.th (rop (gN j d e) e) fun e2 _ => .ok .nx e2
    cases gN j d e <;> rfl
  | _ => rfl
end
end AN

set_option Elab.async false
set_option maxRecDepth 100000
set_option autoImplicit false
set_option linter.unusedVariables false
/-! list(x), tuple(x), xs[::-1]; what stands at a lower level -/
namespace AN
open PySem PySem.Spec PyProof.Rows L2
def oListOf (d : D) : Option O := (rowOf d).map .lst
def dTupOf (d : D) : Option D := (rowOf d).map .tup
def oRev : D → Option O
  | .lst xs => some (.lst xs.reverse)
  | _ => none
section
variable {B : Bx} {X : Cx} {W : WX} {F H F1 H1 : Hp} {env e1 : AN.Env} {σ : L2.St} {Q : VK} {a b e o : Expr} {ma mb : M Opd} {mo : M O} {pos p p1 p2 p3 : Pos} {k n : Nat}
theorem RepL.rev {xs : List D} {vs : List V} (r : RepL B F xs vs) : RepL B F xs.reverse vs.reverse := by
  induction xs generalizing vs with
  | nil => rw [show vs = [] from r]; rfl
  | cons x xs ih =>
    obtain ⟨v, r', rfl, h1, h2⟩ := r
    rw [List.reverse_cons, List.reverse_cons]
    exact (ih h2).append (.one h1)
theorem row_seen {d : D} {xs : List D} {v : V} (hh : Holds F H) (s : Seen B F H d v) (h : rowOf d = some xs) : xs.length ≤ sizeLine ∧ ∃ p vs, v = .ref p ∧ RepL B F xs vs ∧ ((SqL B.K H p vs ∧ d = .lst xs) ∨ (SqT B.K H p vs ∧ d = .tup xs)) := by
  cases d with
  | lst ys => cases h; obtain ⟨p, vs, rfl, a, z, r⟩ := s; exact ⟨z, p, vs, rfl, r, .inl ⟨a, rfl⟩⟩
  | tup ys => cases h; obtain ⟨p, vs, rfl, a, z, r⟩ := s; exact ⟨z, p, vs, rfl, r, .inr ⟨a.sq hh, rfl⟩⟩
  | _ => cases h
theorem do_listOf (hK : X.K = B.K) (ha : DE B X W a ma) (hm : X.mg "list" = none) (hg : Gl X "list" := by rfl)
    (he : starEach [a] X.env = (false, eval a X.env) :: starEach [] X.env := by rfl) (hpl : (backTo pos (starEach [] X.env)).any (·.1) = false := by rfl) : DO B X W (.Call (.Name "list" p) [a] [] pos) (mB1 oListOf ma) :=
  do_t1 call_list_of (fun F H a o x Q hh sa e q => by
    obtain ⟨xs, hx, rfl⟩ := Option.map_eq_some_iff.mp e
    obtain ⟨z, p, vs, rfl, r, k⟩ := row_seen hh sa hx
    refine ⟨p, vs, rfl, by rw [hK]; exact k.imp And.left And.left, fun l hl => ?_⟩
    obtain ⟨s3, h3⟩ := step0_mk (u := .lst vs) hh hl
    exact q l _ s3 h3 hl ⟨z, vs, upd_same, r⟩) ha hm (by decide +kernel) hg (by decide) (by decide) he hpl
theorem de_tupOf (hK : X.K = B.K) (ha : DE B X W a ma) (hm : X.mg "tuple" = none) (hg : Gl X "tuple" := by rfl)
    (he : starEach [a] X.env = (false, eval a X.env) :: starEach [] X.env := by rfl) (hpl : (backTo pos (starEach [] X.env)).any (·.1) = false := by rfl) : DE B X W (.Call (.Name "tuple" p) [a] [] pos) (mD (mB1 dTupOf ma)) :=
  de_t1 call_tuple_of (fun F H a d x Q hh sa e q => by
    obtain ⟨xs, hx, rfl⟩ := Option.map_eq_some_iff.mp e
    obtain ⟨z, p, vs, rfl, r, k⟩ := row_seen hh sa hx
    refine ⟨p, vs, rfl, ?_⟩
    rcases k with ⟨k, rfl⟩ | ⟨k, rfl⟩
    · refine .inl ⟨by rw [hK]; exact k, fun l hl => ?_⟩
      obtain ⟨s3, h3⟩ := step0_new (u := .tup vs) hh hl
      exact q (.ref l) _ _ s3 h3 ⟨l, vs, rfl, .inl upd_same, z, r.mono s3.le⟩
    · exact .inr ⟨by rw [hK]; exact k, q (.ref p) F H (Step.refl _ _ _) hh sa⟩) ha hm (by decide +kernel) hg (by decide) (by decide) he hpl
theorem do_rev {kk : Nat} (hK : X.K = B.K) (ha : DE B X W a ma) : DO B X W (.Subscript a (.Slice none none (some (.UnaryOp .USub (.Constant (.int 1) kk p1) p2)) p3) pos) (mB1 oRev ma) := PE.imp (pe_revL ha) fun σ H Q h => by
  have hp : PrimO1 B oRev (fun x H Q => ∃ a xs, x = V.ref a ∧ SqL X.K H a xs ∧ ∀ q, H q = none → Q (.ref q) (upd H q (.lst xs.reverse))) := fun F H a o x Q hh sa e q => by
    cases a with
    | lst xs =>
      cases e
      obtain ⟨p, vs, rfl, a, z, r⟩ := sa
      refine ⟨p, vs, rfl, by rw [hK]; exact a, fun l hl => ?_⟩
      obtain ⟨s3, h3⟩ := step0_mk (u := .lst vs.reverse) hh hl
      exact q l _ s3 h3 hl ⟨by rw [List.length_reverse]; exact z, _, upd_same, r.rev⟩
    | _ => cases e
  exact opO1 hp h
end
section
variable {P : Program} {w : World} {K : PySem.W.Frag} {mg : Str → Option Value} {base : Heap} {B : Bx} {c : String} {nm f : Str} {n j k : Nat} {g : Fn}
theorem EqC.mono (h : EqC P w K mg base B c j g) (l : j ≤ k) : EqC P w K mg base B c k g := by
  obtain ⟨C, fa, fd, ps, h1, h2, h3, G, r⟩ := h.ex
  exact ⟨C, fa, fd, ps, h1, h2, h3, G.mono l, r⟩
theorem SpC.mono (h : SpC P w K mg base B c nm n j g) (l : j ≤ k) : SpC P w K mg base B c nm n k g := by
  obtain ⟨C, fa, fd, ps, h1, h2, h3, G, r⟩ := h.ex
  exact ⟨C, fa, fd, ps, h1, h2, h3, G.mono l, r⟩
theorem GtC.mono (h : GtC P w K mg base B c j g) (l : j ≤ k) : GtC P w K mg base B c k g := by
  obtain ⟨C, fa, fd, ps, h1, h2, h3, h4, G, r⟩ := h.ex
  exact ⟨C, fa, fd, ps, h1, h2, h3, h4, G.mono l, r⟩
theorem PrC.mono (h : PrC P w K mg base B c f j g) (l : j ≤ k) : PrC P w K mg base B c f k g := by
  obtain ⟨C, p, fa, fd, ps, h1, h2, G, r⟩ := h.ex
  exact ⟨C, p, fa, fd, ps, h1, h2, G.mono l, r⟩
theorem MtC.mono (h : MtC P w K mg base B c nm n j g) (l : j ≤ k) : MtC P w K mg base B c nm n k g := by
  obtain ⟨C, fa, fd, ps, h1, h2, G, r⟩ := h.ex
  exact ⟨C, fa, fd, ps, h1, h2, G.mono l, r⟩
end
section
variable {K : PySem.W.Frag} {cs : List (String × Addr)} {es : List (String × Addr × Str)}
theorem look_inj {C : Addr} : ∀ {l : List (String × Addr)} {c c' : String}, (l.map (·.2)).Nodup → l.lookup c = some C → l.lookup c' = some C → c = c' := fun {l} {c c'} nd h h' => by
  have m1 := look_mem h
  have m2 := look_mem h'
  obtain ⟨i, hi⟩ := List.getElem?_of_mem m1
  obtain ⟨j, hj⟩ := List.getElem?_of_mem m2
  have e1 : (l.map (·.2))[i]? = some C := by rw [List.getElem?_map, hi]; rfl
  have e2 : (l.map (·.2))[j]? = some C := by rw [List.getElem?_map, hj]; rfl
  have li : i < (l.map (·.2)).length := (List.getElem?_eq_some_iff.mp e1).1
  have : i = j := (List.getElem?_inj li nd).mp (e1.trans e2.symm)
  subst this
  rw [hi] at hj
  injection hj with z
  injection z with z1 _
theorem kls_of (nd : (cs.map (·.2)).Nodup) (h : ∀ p ∈ cs, PySem.W.selfFirst K p.2 = true) : Kls (bxOf K cs es) K := ⟨fun c c' C a b => look_inj nd a b, fun c C e => h _ (look_mem e)⟩
theorem nofill_of {fw rv : String → Option Fn} {nm : String} (h : ∀ p ∈ cs, fw p.1 = none → rv p.1 = none → NoFill K p.2 nm) : ∀ c C, (bxOf K cs es).cls c = some C → fw c = none → rv c = none → NoFill K C nm := fun c C e => h _ (look_mem e)
end
end AN

set_option Elab.async false
set_option maxRecDepth 100000
set_option autoImplicit false
set_option linter.unusedVariables false
/-! f([..], e, ..): a new object handed to a def that changes it -/
namespace AN
open PySem PySem.Spec PyProof.Rows L2
def callT (f : Fn) (n : Nat) (o : O) (xs : List Opd) : M Ret := fun env => if xs.length = n then (match frzs xs env with
  | .ok ds e1 => (match f (.ow true o :: ds.map .fz) with
    | .ok r _ => .ok r e1
    | .exc c d _ => .exc c d e1
    | .bad => .bad)
  | _ => .bad) else .bad
def mCallT (f : Fn) (n : Nat) (mo : M O) (ms : M (List Opd)) : M Opd := M.bind mo fun o => M.bind ms fun xs => M.bind (callT f n o xs) fun r => M.pure (.d r.toD)
section
variable {B : Bx} {X : Cx} {W : WX} {F H F1 H1 F' H' : Hp} {env e1 : AN.Env} {σ : L2.St} {Q : VK} {a b e o : Expr} {es : List Expr} {ma mb : M Opd} {mo : M O} {ms : M (List Opd)} {pos p : Pos} {k n : Nat} {f : Fn}
theorem Sim.stepN {own : Addr → Prop} (S : Sim B F env σ H) (s : Step own F H F' H') (hh : Holds F' H') (dis : ∀ b, own b → ¬ Own env σ b) : Sim B F' env σ H' where
  hold := hh
  len := S.len
  fz := fun i d e => let ⟨v, a, b⟩ := S.fz i d e; ⟨v, a, Rep.mono s.le d v b⟩
  ow := fun i k o e => by
    obtain ⟨p, a, b, c⟩ := S.ow i k o e
    obtain ⟨u, hu⟩ := c.ex
    have np : ¬ own p := fun z => dis p z ⟨i, k, o, e, a⟩
    refine ⟨p, a, ?_, c.mono s.le fun u e => s.keep p u e np⟩
    cases q : F' p with
    | none => rfl
    | some w =>
      rcases s.new p w q with z | z | z
      · rw [b] at z; cases z
      · rw [hu] at z; cases z
      · exact (np z).elim
  sep := S.sep
theorem callT_de (h : tE B W (mCallT f n mo ms) σ H Q) : tO B W mo σ H fun v H1 => tA B W ms σ H1 fun vs H2 => spOf B (n + 1) f (v :: vs) H2 Q (WE W σ) := by
  obtain ⟨F, env, S, h⟩ := h
  unfold mCallT M.bind at h
  refine ⟨F, env, S, ?_⟩
  cases q : mo env with
  | bad => rw [q] at h; exact h
  | exc c d e' => rw [q] at h; exact h
  | ok o e1 =>
    rw [q] at h
    intro F1 H1 s1 m1 l1 p hp hf ho
    have tr1 : ∀ {F2 H2 : Hp}, Step (Own e1 σ) F1 H1 F2 H2 → Step (Own env σ) F H F2 H2 := fun s2 => s1.trans s2 fun b z => .inl (l1.own z)
    have np : ¬ Own e1 σ p := fun z => by
      obtain ⟨_, u, hu⟩ := (l1.own z).ex S
      rw [hp] at hu; cases hu
    obtain ⟨u0, hu0⟩ := ho.ex
    refine ⟨F1, e1, m1, ?_⟩
    dsimp only at h
    cases q2 : ms e1 with
    | bad => rw [q2] at h; exact h
    | exc c d e' =>
      rw [q2] at h
      obtain ⟨C, fld, hb, h⟩ := h
      exact ⟨C, fld, hb, fun F' H' dx v s ⟨m', l⟩ hd hf h0 r => h F' H' dx v (tr1 s) ⟨m', l1.trans l⟩ hd hf (s1.back h0) r⟩
    | ok xs e2 =>
      rw [q2] at h
      intro F2 H2 s2 m2 l2 vs rvs
      dsimp only at h
      unfold callT at h
      by_cases hn : xs.length = n
      · simp only [if_pos hn] at h
        cases q3 : frzs xs e2 with
        | bad => rw [q3] at h; exact h.elim
        | exc c d e' => rw [q3] at h; exact h.elim
        | ok ds e3 =>
          rw [q3] at h
          obtain ⟨ds', e3', F3, s3, m3, l3, r3, q4⟩ := m2.frzs (W := W) rvs (k := fun d' e' _ _ => d' = ds ∧ e' = e3) (by rw [q3]; exact fun _ _ _ _ _ => ⟨rfl, rfl⟩)
          obtain ⟨rfl, rfl⟩ := q4
          have st12 := s2.trans s3 fun b z => .inl (l2.own z)
          have fn3 : F3 p = none := by
            cases z : F3 p with
            | none => rfl
            | some u =>
              rcases st12.new p u z with y | y | y
              · rw [hf] at y; cases y
              · rw [hu0] at y; cases y
              · exact (np y).elim
          have ho3 : OAt B F3 H2 p o := ho.mono st12.le fun u e => s2.keep p u e np
          have np3 : ¬ Own e3' σ p := fun z => np (l2.own (l3.own z))
          have base := sim_fz m3.hold r3
          have sim : Sim B F3 (.ow true o :: ds'.map .fz) ((V.ref p :: vs).map some) H2 := by
            have no : ∀ {i : Nat} {k : Bool} {o' : O}, (AN.Slot.ow true o :: ds'.map .fz)[i]? = some (.ow k o') → i = 0 ∧ k = true ∧ o' = o := fun {i k o'} q => by
              cases i with
              | zero => simp at q; exact ⟨rfl, q.1, q.2.symm⟩
              | succ i =>
                simp only [List.getElem?_cons_succ, List.getElem?_map] at q
                cases e : ds'[i]? with
                | none => rw [e] at q; cases q
                | some d' => rw [e] at q; cases q
            refine ⟨m3.hold, ?_, fun i d q => ?_, fun i k o' q => ?_, fun i j k o' k' o'' p a1 a2 _ _ => (no a1).1.trans (no a2).1.symm⟩
            · have := base.len
              simp only [List.length_cons, List.length_map] at this ⊢
              rw [this]
            · cases i with
              | zero => simp at q
              | succ i => simp only [List.getElem?_cons_succ, List.map_cons] at q ⊢; exact base.fz i d q
            · obtain ⟨rfl, rfl, rfl⟩ := no q
              exact ⟨p, rfl, fn3, ho3⟩
          have pin : PinOnly (.ow true o :: ds'.map .fz) := fun i k o' q => by
            cases i with
            | zero => simp at q; exact q.1
            | succ i => exact fz_pin (ds := ds') i k o' (by simpa using q)
          have own : ∀ {b : Addr}, Own (.ow true o :: ds'.map .fz) ((V.ref p :: vs).map some) b → b = p := fun {b} z => by
            obtain ⟨i, k, o', q, y⟩ := z
            cases i with
            | zero => simp at y; exact y.symm
            | succ i => exact (fz_own (ds := ds') (σ := vs.map some) (b := b) ⟨i, k, o', by simpa using q, by simpa using y⟩).elim
          have tr : ∀ {F' H' : Hp}, Step (Own (.ow true o :: ds'.map .fz) ((V.ref p :: vs).map some)) F3 H2 F' H' → Step (Own env σ) F H F' H' := fun s => (tr1 st12).trans s fun b z => .inr (by rw [own z]; exact hp)
          have sm : ∀ {F' H' : Hp}, Step (Own (.ow true o :: ds'.map .fz) ((V.ref p :: vs).map some)) F3 H2 F' H' → Holds F' H' → Sim B F' e3' σ H' := fun s hh => m3.stepN s hh fun b z => by rw [own z]; exact np3
          have l13 := l1.trans (l2.trans l3)
          refine ⟨by rw [List.length_cons, rvs.len, hn], F3, _, sim, pin, ?_⟩
          dsimp only at h
          cases qr : f (.ow true o :: ds'.map .fz) with
          | bad => simp only [qr] at h; exact h.elim
          | exc c2 d a' =>
            simp only [qr] at h
            obtain ⟨C2, fld, hb, h⟩ := h
            exact ⟨C2, fld, hb, fun F' H' dx' v s m hd hf h0 r => h F' H' dx' v (tr s) ⟨sm s m.hold, l13⟩ hd hf (s1.back (st12.back h0)) r⟩
          | ok r a' =>
            simp only [qr] at h
            cases r with
            | fz d =>
              intro v F' H' s m r
              exact h F' H' (tr s) (sm s m.hold) l13 v r
            | ow o2 =>
              intro p2 F' H' s m hp2 hf2 ho2
              obtain ⟨u, hu, r⟩ := ho2.data hf2
              have np2 : ¬ Own e3' σ p2 := fun z => by
                obtain ⟨_, u, hu⟩ := z.ex m3
                rw [hp2] at hu; cases hu
              have hne : p2 ≠ p := fun z => by
                subst z
                obtain ⟨u, hu⟩ := ho3.ex
                rw [hp2] at hu; cases hu
              refine h (upd F' p2 u) H' ⟨(tr s).le.trans (Le.upd hf2), (tr s).keep, fun b w q => ?_, (tr s).stay⟩ ((sm s m.hold).data np2 hf2 hu) l13 (.ref p2) r
              by_cases hb : b = p2
              · subst hb; exact .inr (.inl (s1.back (st12.back hp2)))
              · rw [upd_ne hb] at q; exact (tr s).new b w q
      · simp only [if_neg hn] at h; exact h.elim
end
section
variable {B : Bx} {X : Cx} {W : WX} {a : Expr} {es : List Expr} {mo : M O} {ms : M (List Opd)} {pos p : Pos} {k n : Nat} {f : Fn} {x : Str} {q0 : Str} {ps : List Str}
theorem dcT (C : Cal X.prog X.w X.K X.mg X.base B x k (q0 :: ps) f) (hr : Room k X.A) (tk : Takes X W) (ho : DO B X W a mo) (ha : DA B X W es ms) (hg : Gl X x := by rfl) (hdb : (x == ("__debug__" : Str)) = false := by decide)
    (he : starEach (a :: es) X.env = (false, eval a X.env) :: starEach es X.env := by rfl) (hpl : (backTo pos (starEach es X.env)).any (·.1) = false := by rfl) : DE B X W (.Call (.Name x p) (a :: es) [] pos) (mCallT f ps.length mo ms) := by
  obtain ⟨fa, fd, G, hm, hk, hb⟩ := C.ex
  exact PE.imp (pe_callS (E := WE W) G hr hg hm hk hb (fun σ => passAt tk σ) (pa_cons ho ha he) hdb he hpl) fun σ H Q h => callT_de h
@[simp] theorem mCallT_r {e : AN.Env} : mCallT f n mo ms e = R.th (mo e) fun o e => R.th (ms e) fun xs e => R.th (callT f n o xs e) fun r e => .ok (.d r.toD) e := rfl
theorem callT_ok {o : O} {xs : List Opd} {ds : List D} {e e1 : AN.Env} {r : Ret} {as : List AN.Slot} (hn : xs.length = n) (h1 : frzs xs e = .ok ds e1) (h2 : f (.ow true o :: ds.map .fz) = .ok r as) : callT f n o xs e = .ok r e1 := by
  unfold callT
  rw [if_pos hn, h1]
  dsimp only
  rw [h2]
end
end AN

set_option Elab.async false
set_option maxRecDepth 100000
set_option autoImplicit false
set_option linter.unusedVariables false
/-! running mirrors: calls, stars -/
namespace AN
open PySem PySem.Spec PyProof.Rows L2
section
variable {f : Fn} {d d2 d3 x z : D} {o : O} {c : String} {e : AN.Env} {as : List AN.Slot} {ma : M Opd} {ms : M (List Opd)}
theorem frzs_d : ∀ {ds : List D} {e : AN.Env}, frzs (ds.map .d) e = .ok ds e
  | [], e => rfl
  | d :: ds, e => by simp only [List.map_cons, frzs_cons, frz1_d, th_ok, frzs_d]
theorem frzs_app {ds : List D} {d : D} {e : AN.Env} : frzs (ds.map .d ++ [.d d]) e = .ok (ds ++ [d]) e := by
  have : ds.map Opd.d ++ [.d d] = (ds ++ [d]).map .d := by simp
  rw [this, frzs_d]
theorem frzs_app2 {ds es : List D} {e : AN.Env} : frzs (ds.map .d ++ (es.map .d ++ [])) e = .ok (ds ++ es) e := by
  have : ds.map Opd.d ++ (es.map .d ++ []) = (ds ++ es).map .d := by simp
  rw [this, frzs_d]
theorem frzs_app0 {ds : List D} {e : AN.Env} : frzs (ds.map .d ++ []) e = .ok ds e := by rw [List.append_nil, frzs_d]
/-- a call with data -/
theorem callP_d {n : Nat} {ds : List D} (hn : ds.length = n) : callP n f (ds.map .d) e = (match f (ds.map .fz) with
  | .ok r _ => .ok r e
  | .exc c x _ => .exc c x e
  | .bad => .bad) := by
  unfold callP
  rw [if_pos (by rw [List.length_map]; exact hn), frzs_d]
  dsimp only
  cases f (ds.map .fz) with
  | ok r _ => cases q : scalar r.toD <;> simp [q]
  | exc _ _ _ => rfl
  | bad => rfl
theorem callN0 (h : f [] = .ok (.fz z) as) : callP 0 f [] e = .ok (.fz z) e := by
  have := callP_d (f := f) (n := 0) (ds := []) (e := e) rfl
  simpa [h] using this
theorem callO0 (h : f [] = .ok (.ow o) as) : callP 0 f [] e = .ok (.ow o) e := by
  have := callP_d (f := f) (n := 0) (ds := []) (e := e) rfl
  simpa [h] using this
theorem callN1 (h : f [.fz d] = .ok (.fz z) as) : callP 1 f [.d d] e = .ok (.fz z) e := by
  have := callP_d (f := f) (n := 1) (ds := [d]) (e := e) rfl
  simpa [h] using this
theorem callO1 (h : f [.fz d] = .ok (.ow o) as) : callP 1 f [.d d] e = .ok (.ow o) e := by
  have := callP_d (f := f) (n := 1) (ds := [d]) (e := e) rfl
  simpa [h] using this
theorem callX1 (h : f [.fz d] = .exc c x as) : callP 1 f [.d d] e = .exc c x e := by
  have := callP_d (f := f) (n := 1) (ds := [d]) (e := e) rfl
  simpa [h] using this
theorem callN2 (h : f [.fz d, .fz d2] = .ok (.fz z) as) : callP 2 f [.d d, .d d2] e = .ok (.fz z) e := by
  have := callP_d (f := f) (n := 2) (ds := [d, d2]) (e := e) rfl
  simpa [h] using this
theorem callO2 (h : f [.fz d, .fz d2] = .ok (.ow o) as) : callP 2 f [.d d, .d d2] e = .ok (.ow o) e := by
  have := callP_d (f := f) (n := 2) (ds := [d, d2]) (e := e) rfl
  simpa [h] using this
theorem callX2 (h : f [.fz d, .fz d2] = .exc c x as) : callP 2 f [.d d, .d d2] e = .exc c x e := by
  have := callP_d (f := f) (n := 2) (ds := [d, d2]) (e := e) rfl
  simpa [h] using this
theorem callN3 (h : f [.fz d, .fz d2, .fz d3] = .ok (.fz z) as) : callP 3 f [.d d, .d d2, .d d3] e = .ok (.fz z) e := by
  have := callP_d (f := f) (n := 3) (ds := [d, d2, d3]) (e := e) rfl
  simpa [h] using this
theorem callO3 (h : f [.fz d, .fz d2, .fz d3] = .ok (.ow o) as) : callP 3 f [.d d, .d d2, .d d3] e = .ok (.ow o) e := by
  have := callP_d (f := f) (n := 3) (ds := [d, d2, d3]) (e := e) rfl
  simpa [h] using this
theorem callX3 (h : f [.fz d, .fz d2, .fz d3] = .exc c x as) : callP 3 f [.d d, .d d2, .d d3] e = .exc c x e := by
  have := callP_d (f := f) (n := 3) (ds := [d, d2, d3]) (e := e) rfl
  simpa [h] using this
@[simp] theorem mAS_r : mAS ma ms e = R.th (ma e) fun x e => R.th (ap1 rowOf x e) fun ds e => R.th (ms e) fun xs e => .ok (ds.map .d ++ xs) e := rfl
@[simp] theorem mMake_r {c : String} {n : Nat} : mMake c n f ms e = R.th (ms e) fun xs e => makeP c n f xs e := rfl
@[simp] theorem mMakeSt_r {c : String} : mMakeSt c f ms e = R.th (ms e) fun xs e => makeSt c f xs e := rfl
@[simp] theorem callD_r {n : Nat} {xs : List Opd} : callD n f xs e = R.th (callP n f xs e) fun r e => .ok (.d r.toD) e := rfl
@[simp] theorem callO_r {n : Nat} {xs : List Opd} : callO n f xs e = R.th (callP n f xs e) retO := rfl
@[simp] theorem mOp2_r {sel : D → D → Option (Fn × Bool)} {g : D → D → Option D} {mb : M Opd} : mOp2 sel g ma mb e = R.th (ma e) fun x e => R.th (mb e) fun y e => opP sel g x y e := rfl
@[simp] theorem mIxO_r {t : String → Option Fn} {g : D → D → Option D} {mb : M Opd} : mIxO t g ma mb e = R.th (ma e) fun x e => R.th (mb e) fun y e => ixP t g x y e := rfl
@[simp] theorem mAt_r {t : String → Option Fn} {ok : String → Bool} {g : Str} : mAt t ok g ma e = R.th (ma e) fun x e => atP t ok g x e := rfl
@[simp] theorem mRaise_r {c : String} : mRaise c ma e = R.th (ma e) fun x e => R.th (frz1 x e) fun d e => .exc c d e := rfl
@[simp] theorem mSetF_r {ok : String → Bool} {i : Nat} {g : Str} : mSetF ok i g ma e = R.th (ma e) fun x e => R.th (frz1 x e) fun d e => setF ok i g d e := rfl
@[simp] theorem mMeth_r {t : String → Option Fn} {m : Str} {n : Nat} {mo : M Opd} : mMeth t m n mo ms e = R.th (mo e) fun x e => R.th (ap1 (selM t m) x e) fun f e => R.th (ms e) fun xs e => callD n f (x :: xs) e := rfl
@[simp] theorem mMethO_r {t : String → Option Fn} {m : Str} {n : Nat} {mo : M Opd} : mMethO t m n mo ms e = R.th (mo e) fun x e => R.th (ap1 (selM t m) x e) fun f e => R.th (ms e) fun xs e => callO n f (x :: xs) e := rfl
@[simp] theorem mEnum_r : mEnum ma e = R.th (ma e) fun x e => R.th (frz1 x e) fun d e => rop (enumOf d) e := th_congr fun u e => th_congr fun v e => rfl
def R.hd (hs : List Hnd) : R Fl → R Fl
  | .exc c d e => handle c d hs e
  | r => r
@[simp] theorem mTry_r {mb : M Fl} {hs : List Hnd} : mTry mb hs e = (mb e).hd hs := by
  unfold mTry R.hd
  cases mb e <;> rfl
@[simp] theorem hd_ok {fl : Fl} {hs : List Hnd} : R.hd hs (.ok fl e) = .ok fl e := rfl
@[simp] theorem hd_exc {hs : List Hnd} : R.hd hs (.exc c d e) = handle c d hs e := rfl
@[simp] theorem hd_bad {hs : List Hnd} : R.hd hs .bad = .bad := rfl
end
end AN

set_option Elab.async false
set_option maxRecDepth 100000
set_option autoImplicit false
set_option linter.unusedVariables false
/-! a comprehension over a list that a name alone holds: the name is not read inside -/
namespace AN
open PySem PySem.Spec PyProof.Rows L2
def mLCo (i : Nat) (vs : List Nat) (g : D → AN.Env → Option AN.Env) (mt : M Bool) (me : M Opd) : M O := fun env => match env[i]? with
  | some (.ow k (.lst ds)) => if i ∈ vs then .bad else (match lc vs g mt me ds [] (wipeE vs 0 (env.set i .no)) with
    | .ok acc e2 => .ok (.lst acc) ((restE vs 0 (env.set i .no) e2).set i (.ow k (.lst ds)))
    | _ => .bad)
  | _ => .bad
section
variable {B : Bx} {X : Cx} {W : WX} {F H F1 H1 F2 H2 : Hp} {env e1 e2 : AN.Env} {σ : L2.St} {Q : VK}
theorem set_no {i j : Nat} {s : AN.Slot} (h : (env.set i .no)[j]? = some s) (hs : s ≠ .no) : j ≠ i ∧ env[j]? = some s := by
  rcases getElem?_setS h with ⟨_, e⟩ | ⟨ne, e⟩
  · exact absurd e hs
  · exact ⟨fun z => ne z.symm, e⟩
theorem Sim.insO {i : Nat} {k : Bool} {o : O} {p : Addr} {s0 : AN.Slot} (S : Sim B F env σ H) (h0 : env[i]? = some s0) (hp : σ[i]? = some (some (.ref p))) (np : ¬ Own env σ p) (hf : F p = none) (ho : OAt B F H p o) : Sim B F (env.set i (.ow k o)) σ H where
  hold := S.hold
  len := by rw [List.length_set]; exact S.len
  fz := fun j d q => by
    rcases getElem?_setS q with ⟨_, e⟩ | ⟨ne, e⟩
    · cases e
    · exact S.fz j d e
  ow := fun j k' o' q => by
    rcases getElem?_setS q with ⟨e1, e⟩ | ⟨ne, e⟩
    · cases e; subst e1; exact ⟨p, hp, hf, ho⟩
    · exact S.ow j k' o' e
  sep := fun j j' k1 o1 k2 o2 b a1 a2 b1 b2 => by
    rcases getElem?_setS a1 with ⟨e1, e⟩ | ⟨ne, e⟩
    · rcases getElem?_setS a2 with ⟨e1', e'⟩ | ⟨ne', e'⟩
      · exact e1.symm.trans e1'
      · subst e1
        rw [hp] at b1; cases b1
        exact (np ⟨j', k2, o2, e', b2⟩).elim
    · rcases getElem?_setS a2 with ⟨e1', e'⟩ | ⟨ne', e'⟩
      · subst e1'
        rw [hp] at b2; cases b2
        exact (np ⟨j, k1, o1, e, b1⟩).elim
      · exact S.sep j j' k1 o1 k2 o2 b e e' b1 b2
theorem lco_read {i0 : Nat} {vs ns : List Nat} {g : D → AN.Env → Option AN.Env} {mt : M Bool} {me : M Opd} {Q : VK} (hK : X.K = B.K) (hns : ∀ i ∈ ns, i ∈ vs) (h : tO B W (mLCo i0 vs g mt me) σ H Q) :
    tLc (iList X.K (fun σ H Q => ∃ v, σ[i0]? = some (some v) ∧ Q v H)) (tG B ns g) (tT B WF mt) (tE B WF me) vs σ H Q := by
  obtain ⟨F1, env, S, k1⟩ := h
  unfold mLCo at k1
  cases qi : env[i0]? with
  | none => rw [qi] at k1; exact k1.elim
  | some sl =>
  rw [qi] at k1
  cases sl with
  | no => exact k1.elim
  | fz _ => exact k1.elim
  | ow kk ob =>
  cases ob with
  | dic _ => exact k1.elim
  | obj _ _ => exact k1.elim
  | lst ds =>
  dsimp only at k1
  obtain ⟨pp, hsp, hfp, ⟨hz, vp, hHp, rlp⟩⟩ := S.ow i0 kk _ qi
  refine ⟨.ref pp, hsp, pp, rfl, ⟨vp, .inl (.inl hHp)⟩, fun Dd hD => ?_⟩
  by_cases hv : i0 ∈ vs
  · rw [if_pos hv] at k1; exact k1.elim
  · rw [if_neg hv] at k1
    let e1 := env.set i0 .no
    have m1 : Sim B F1 e1 σ H := S.drop
    have own0 : ∀ {b : Addr}, Own e1 σ b → Own env σ b := fun {b} z => by
      obtain ⟨j, k', o', q, y⟩ := z
      exact ⟨j, k', o', (set_no q (fun z => nomatch z)).2, y⟩
    have npp : ¬ Own e1 σ pp := fun z => by
      obtain ⟨j, k', o', q, y⟩ := z
      obtain ⟨ne, q'⟩ := set_no q (fun z => nomatch z)
      exact ne (S.sep i0 j kk _ k' o' pp qi q' hsp y).symm
    have nppw : ¬ Own (wipeE vs 0 e1) (wipe σ vs) pp := fun z => npp (wiped_own z)
    have ppD : pp ≠ Dd := fun z => by rw [z, hD] at hHp; cases hHp
    cases ql : lc vs g mt me ds [] (wipeE vs 0 e1) with
    | bad => simp only [ql, e1] at k1; exact k1.elim
    | exc c d e' => simp only [ql, e1] at k1; exact k1.elim
    | ok acc e2 =>
      replace k1 : Post B W F1 env σ H (fun o _ F' H' => ∀ p, H p = none → F' p = none → OAt B F' H' p o → Q (.ref p) H') (.ok (.lst acc) ((restE vs 0 e1 e2).set i0 (.ow kk (.lst ds)))) := by
        have z : lc vs g mt me ds [] (wipeE vs 0 (env.set i0 .no)) = .ok acc e2 := ql
        rw [z] at k1
        exact k1
      have nD : ¬ Own e1 σ Dd := fun z => by
        obtain ⟨_, u, hu⟩ := z.ex m1
        rw [hD] at hu; cases hu
      have nDw : ¬ Own (wipeE vs 0 e1) (wipe σ vs) Dd := fun z => nD (wiped_own z)
      have fD : F1 Dd = none := m1.hold.none hD
      obtain ⟨s0, hh0⟩ := step0_mk (u := .lst []) m1.hold hD
      have mw := (m1.step0 s0 hh0).wiped vs
      refine ⟨fun i m H' => i ≤ ds.length ∧ m = ds.length - i ∧ ∃ F' e' acc' av, Step (fun b => Own (wipeE vs 0 e1) (wipe σ vs) b ∨ b = Dd) F1 (upd H Dd (.lst [])) F' H' ∧ Sim B F' e' (wipe σ vs) H' ∧ EnvLe (wipeE vs 0 e1) e' ∧ H' Dd = some (.lst av) ∧ F' Dd = none ∧ RepL B F' acc' av ∧ acc'.length ≤ i ∧ lc vs g mt me (ds.drop i) acc' e' = .ok acc e2 ∧ H' pp = some (.lst vp) ∧ F' pp = none,
        ⟨ds.length, Nat.zero_le _, rfl, F1, wipeE vs 0 e1, [], [], Step.refl _ _ _, mw, EnvLe.refl _, upd_same, fD, rfl, Nat.zero_le _, ql, by rw [upd_ne ppD]; exact hHp, hfp⟩, ?_⟩
      rintro i m H' ⟨hi, rfl, F', e', acc', av, st, sm, le', hav, hfd, rl, hal, hlc, hpp, hfpp⟩
      have sq : SqL X.K H' pp vp := .inl (.inl hpp)
      have own_e : ∀ {b : Addr}, Own e' (wipe σ vs) b → Own (wipeE vs 0 e1) (wipe σ vs) b := fun z => le'.own z
      have nDe : ¬ Own e' (wipe σ vs) Dd := fun z => nDw (own_e z)
      cases q : ds[i]? with
      | none =>
        have e : i = ds.length := by
          have := List.getElem?_eq_none_iff.mp q
          omega
        left
        rw [e, List.drop_length] at hlc
        cases hlc
        refine ⟨⟨vp, sq, by rw [rlp.length, e]; exact Nat.le_refl _⟩, ?_⟩
        have stt : Step (Own e1 σ) F1 H F' H' := (s0.any (own := Own e1 σ)).trans st fun b z => by
          rcases z with z | z
          · exact .inl (wiped_own z)
          · exact .inr (by rw [z]; exact hD)
        obtain ⟨sr, lr⟩ := m1.rest sm le' st.le (fun b o e n => by
            by_cases hb : b = Dd
            · rw [hb, hD] at e; cases e
            · exact st.keep b o (by rw [upd_ne hb]; exact e) fun z => z.elim n hb) (fun j k o b hj z1 z2 => by
            obtain ⟨z3, u, hu⟩ := Own.ex m1 ⟨j, k, o, z1, z2⟩
            have hb : b ≠ Dd := fun y => by rw [y, hD] at hu; cases hu
            cases w : F' b with
            | none => rfl
            | some w' =>
              rcases st.new b w' w with y | y | y
              · rw [z3] at y; cases y
              · rw [upd_ne hb, hu] at y; cases y
              · rcases y with ⟨j', k', o', q1, q2⟩ | y
                · obtain ⟨hj', q3⟩ := wipeE_some q1 (fun z => nomatch z)
                  rw [wipe_get hj'] at q2
                  have := m1.sep j j' k o k' o' b z1 q3 z2 q2
                  subst this
                  exact absurd hj hj'
                · exact absurd y hb)
        have lenR : i0 < (restE vs 0 e1 e2).length := by
          rw [restE_len]
          have a := sm.len
          rw [wipe_length] at a
          have b := (List.getElem?_eq_some_iff.mp qi).1
          have c := S.len
          omega
        have nR : ¬ Own (restE vs 0 e1 e2) σ pp := fun z => npp (lr.own z)
        have sR := Sim.insO (k := kk) (o := .lst ds) sr (List.getElem?_eq_getElem lenR) hsp nR hfpp ⟨hz, vp, hpp, rlp.mono st.le⟩
        refine k1 F' H' (stt.imp fun b z => own0 z) sR ⟨fun j k' o' q => ?_, fun j o' q => ?_⟩ Dd hD hfd ⟨by omega, av, hav, rl⟩
        · rcases getElem?_setS q with ⟨e1', e2'⟩ | ⟨ne, e2'⟩
          · cases e2'; subst e1'; exact ⟨_, qi⟩
          · obtain ⟨o2, z⟩ := lr.dn j k' o' e2'
            exact ⟨o2, (set_no z (fun z => nomatch z)).2⟩
        · by_cases hj : j = i0
          · subst hj
            rw [qi] at q; cases q
            exact ⟨_, by rw [List.getElem?_set_self lenR]⟩
          · obtain ⟨o2, z⟩ := lr.up j o' (by show (env.set i0 .no)[j]? = _; rw [List.getElem?_set_ne (Ne.symm hj)]; exact q)
            exact ⟨o2, by rw [List.getElem?_set_ne (Ne.symm hj)]; exact z⟩
      | some d =>
        right
        obtain ⟨vd, hvd, rvd⟩ := rlp.get q
        have go : (Itl X.K pp).go i H' := ⟨vp, vd, sq, hvd⟩
        have hlt : i < ds.length := (List.getElem?_eq_some_iff.mp q).1
        have hd : ds.drop i = d :: ds.drop (i + 1) := by
          rw [List.drop_eq_getElem_cons hlt]
          congr 1
          exact (List.getElem?_eq_some_iff.mp q).2
        rw [hd] at hlc
        refine ⟨go, fun H'' => i + 1 ≤ ds.length ∧ ∃ F' e' acc' av, Step (fun b => Own (wipeE vs 0 e1) (wipe σ vs) b ∨ b = Dd) F1 (upd H Dd (.lst [])) F' H'' ∧ Sim B F' e' (wipe σ vs) H'' ∧ EnvLe (wipeE vs 0 e1) e' ∧ H'' Dd = some (.lst av) ∧ F' Dd = none ∧ RepL B F' acc' av ∧ acc'.length ≤ i + 1 ∧ lc vs g mt me (ds.drop (i + 1)) acc' e' = .ok acc e2 ∧ H'' pp = some (.lst vp) ∧ F' pp = none,
          fun H'' z => ⟨ds.length - (i + 1), by omega, z.1, rfl, z.2⟩, fun x H2 y => ?_⟩
        obtain ⟨F2, s2, h2, r2, hpp2, hfpp2⟩ : ∃ F2, Step0 F' H' F2 H2 ∧ Holds F2 H2 ∧ Rep B F2 d x ∧ H2 pp = some (.lst vp) ∧ F2 pp = none := by
          obtain ⟨rfl, y⟩ := y
          have y2 := y vp sq
          rw [hvd] at y2; cases y2
          exact ⟨F', Step.refl _ _ _, sm.hold, Rep.mono st.le _ _ rvd, hpp, hfpp⟩
        have S2 := sm.step0 s2 h2
        have hav2 : H2 Dd = some (.lst av) := s2.keep _ _ hav id
        have hfd2 : F2 Dd = none := by
          cases w : F2 Dd with
          | none => rfl
          | some w' =>
            rcases s2.new _ _ w with y | y | y
            · rw [hfd] at y; cases y
            · rw [hav] at y; cases y
            · exact y.elim
        unfold lc at hlc
        cases qg : g d e' with
        | none => simp only [qg] at hlc; cases hlc
        | some e3 =>
          simp only [qg] at hlc
          refine ⟨F2, e', d, e3, S2, r2, qg, fun σ3 g3 w3 => ?_⟩
          have ws : wipe σ3 vs = wipe σ vs := wipe_eq (by rw [w3.len, wipe_length]) fun j hj => w3.rest j fun z => hj (hns j z)
          refine ⟨ws, F2, e3, g3.sim, ?_⟩
          have own3 : ∀ {b : Addr}, Own e3 σ3 b → Own (wipeE vs 0 e1) (wipe σ vs) b ∨ H2 b = none := fun z => (g3.owned z).imp own_e id
          have nD3 : ¬ Own e3 σ3 Dd := fun z => by
            rcases own3 z with z | z
            · exact nDw z
            · rw [hav2] at z; cases z
          have st2 : Step (fun b => Own (wipeE vs 0 e1) (wipe σ vs) b ∨ b = Dd) F1 (upd H Dd (.lst [])) F2 H2 := st.trans (s2.any (own := fun _ => False)) fun _ z => z.elim
          have stp : ∀ {F4 H4 : Hp}, Step (Own e3 σ3) F2 H2 F4 H4 → Step (fun b => Own (wipeE vs 0 e1) (wipe σ vs) b ∨ b = Dd) F1 (upd H Dd (.lst [])) F4 H4 := fun s4 => st2.trans s4 fun b z => by
            rcases own3 z with z | z
            · exact .inl (.inl z)
            · exact .inr (st2.back z)
          have dk : ∀ (F4 H4 : Hp), Step (Own e3 σ3) F2 H2 F4 H4 → H4 Dd = some (.lst av) ∧ F4 Dd = none := fun F4 H4 s4 => ⟨s4.keep _ _ hav2 nD3, by
            cases w : F4 Dd with
            | none => rfl
            | some w' =>
              rcases s4.new _ _ w with y | y | y
              · rw [hfd2] at y; cases y
              · rw [hav2] at y; cases y
              · exact absurd y nD3⟩
          have np3 : ¬ Own e3 σ3 pp := fun z => by
            rcases own3 z with z | z
            · exact nppw z
            · rw [hpp2] at z; cases z
          have pk : ∀ (F4 H4 : Hp), Step (Own e3 σ3) F2 H2 F4 H4 → H4 pp = some (.lst vp) ∧ F4 pp = none := fun F4 H4 s4 => ⟨s4.keep _ _ hpp2 np3, by
            cases w : F4 pp with
            | none => rfl
            | some w' =>
              rcases s4.new _ _ w with y | y | y
              · rw [hfpp2] at y; cases y
              · rw [hpp2] at y; cases y
              · exact absurd y np3⟩
          cases qt : mt e3 with
          | bad => simp only [qt] at hlc; cases hlc
          | exc c d' e4 => simp only [qt] at hlc; cases hlc
          | ok bt e4 =>
            intro F4 H4 s4 m4 l4
            obtain ⟨hav4, hfd4⟩ := dk _ _ s4
            cases bt with
            | false =>
              simp only [qt] at hlc
              refine iteF ⟨hlt, F4, wipeE vs 0 e4, acc', av, stp s4, m4.wiped2 ws, wipeE_le le' (w3.le.trans l4), hav4, hfd4, rl.mono (s2.le.trans s4.le), by omega, hlc, (pk _ _ s4).1, (pk _ _ s4).2⟩
            | true =>
              simp only [qt] at hlc
              cases qe : M.bind me frz1 e4 with
              | bad => simp only [qe] at hlc; cases hlc
              | exc c d' e5 => simp only [qe] at hlc; cases hlc
              | ok yv e5 =>
                simp only [qe] at hlc
                refine iteT ⟨F4, e4, m4, ?_⟩
                have pb : Post B WF F4 e4 σ3 H4 (fun d' e' F' H' => d' = yv ∧ e' = e5) (M.bind me frz1 e4) := by
                  rw [qe]; exact fun _ _ _ _ _ => ⟨rfl, rfl⟩
                refine (Post.bind m4 pb).mono fun xo e5' F5 H5 s5 m5 l5 k5 v rv => ?_
                obtain ⟨d6, e6, F6, s6, m6, l6, r6, rfl, rfl⟩ := m5.frz1 rv k5
                have s46 : Step (Own e3 σ3) F2 H2 F6 H5 := s4.trans ((s5.trans s6 fun b z => .inl (l5.own z)) : Step (Own e4 σ3) F4 H4 F6 H5) fun b z => .inl (l4.own z)
                obtain ⟨hav5, hfd5⟩ := dk _ _ s46
                have nD6 : ¬ Own e6 σ3 Dd := fun z => nD3 (l4.own (l5.own (l6.own z)))
                have hlen : av.length = acc'.length := rl.length
                refine ⟨av, hav5, by omega, hlt, F6, wipeE vs 0 e6, acc' ++ [d6], av ++ [v], ?_, (m6.updD hfd5 nD6).wiped2 ws, wipeE_le le' (w3.le.trans (l4.trans (l5.trans l6))), upd_same, hfd5, (rl.mono (s2.le.trans s46.le)).snoc r6, by rw [List.length_append, List.length_singleton]; omega, hlc, by rw [upd_ne ppD]; exact (pk _ _ s46).1, (pk _ _ s46).2⟩
                have sf := stp s46
                refine ⟨sf.le, fun b o e n => ?_, sf.new, fun b o e => ?_⟩
                · have hb : b ≠ Dd := fun z => n (.inr z)
                  rw [upd_ne hb]; exact sf.keep b o e n
                · by_cases hb : b = Dd
                  · exact ⟨_, by rw [hb]; exact upd_same⟩
                  · obtain ⟨o', e'⟩ := sf.stay b o e
                    exact ⟨o', by rw [upd_ne hb]; exact e'⟩
section
variable {elt tg : Expr} {ifs : List Expr} {scope : Scope} {own : List (Str × Nat)} {pos p : Pos} {ns : List Nat} {g : D → AN.Env → Option AN.Env} {mt : M Bool} {me : M Opd} {x : Str}
theorem do_lco (i0 : Nat) (hc : X.calm = true) (hN : X.N.Nodup) (hK : X.K = B.K) (ok : blkC X.N X.env.scope scope own = true)
    (hg : ∀ (s : Shared) (H : Hp) (C : Addr) (cl : List (Str × Addr)) (fp : List Addr), DG B (X.blk s H scope (compEnvC scope cl C X.env) fp) tg ns g)
    (ht : ∀ (s : Shared) (H : Hp) (C : Addr) (cl : List (Str × Addr)) (fp : List Addr), DTs B (X.blk s H scope (compEnvC scope cl C X.env) fp) WF ifs mt)
    (he : ∀ (s : Shared) (H : Hp) (C : Addr) (cl : List (Str × Addr)) (fp : List Addr), DE B (X.blk s H scope (compEnvC scope cl C X.env) fp) WF elt me)
    (hns : ∀ i ∈ ns, i ∈ own.map (·.2)) (hx : X.N[i0]? = some x := by rfl) (hvs : Vis X.env.scope x := by first | exact Or.inl rfl | exact Or.inr (Or.inl rfl) | exact Or.inr (Or.inr rfl))
    (hd : (x == ("__debug__" : Str)) = false := by decide) (hcd : (x == ("__classdict__" : Str)) = false := by decide) (hs : ∀ y, foldedSetIterable (.Name x p) X.env y = pure y := by intro _; rfl) :
    DO B X W (.ListComp elt [⟨tg, .Name x p, ifs, 0⟩] scope pos) (mLCo i0 (own.map (·.2)) g mt me) :=
  PE.imp (pe_lc hc hN (pi_list (pe_var hx hvs hd hcd)) (blkOk_by ok) hg ht he hs) fun σ H Q h => lco_read hK hns h
end
end
/-! running it -/
theorem mLCo_r {i : Nat} {vs : List Nat} {g : D → AN.Env → Option AN.Env} {mt : M Bool} {me : M Opd} {e : AN.Env} {k : Bool} {ds acc : List D} {e2 : AN.Env} (h : e[i]? = some (.ow k (.lst ds))) (hi : i ∉ vs) (hl : lc vs g mt me ds [] (wipeE vs 0 (e.set i .no)) = .ok acc e2) : mLCo i vs g mt me e = .ok (.lst acc) ((restE vs 0 (e.set i .no) e2).set i (.ow k (.lst ds))) := by
  unfold mLCo
  rw [h]
  dsimp only
  rw [if_neg hi, hl]
@[simp] theorem mApp_r {i : Nat} {m : M Opd} {e : AN.Env} : mApp i m e = R.th (chkL i e) fun _ e => R.th (m e) fun x e => R.th (frz1 x e) fun d e => appAt i d e := rfl
theorem dLenO_obj {t : String → Option Fn} {c : String} {fs : List (Str × D)} {f : Fn} {n : Nat} {as : List AN.Slot} (ht : t c = some f) (hf : f [.fz (.obj c fs)] = .ok (.fz (.int (n : Nat))) as) (hb : n ≤ 100000) : dLenO t (.obj c fs) = some (.int (n : Nat)) := by
  have hf' : f [.fz (.obj c fs)] = .ok (.fz (.int (.ofNat n))) as := hf
  unfold dLenO
  dsimp only
  rw [ht, Option.bind_some, hf']
  exact if_pos hb
theorem dInO_obj {t : String → Option Fn} {neg : Bool} {g : D → D → Option D} {c : String} {fs : List (Str × D)} {f : Fn} {x : D} {r : Bool} {as : List AN.Slot} (ht : t c = some f) (hf : f [.fz (.obj c fs), .fz x] = .ok (.fz (.bl r)) as) : dInO t neg g x (.obj c fs) = some (.bl (if neg then !r else r)) := by
  unfold dInO
  dsimp only
  rw [ht, Option.bind_some, hf]
theorem oCmp_obj {t : String → Option Fn} {g : D → D → Option D} {c : String} {fs : List (Str × D)} {f : Fn} {x : D} {r : Bool} {as : List AN.Slot} (ht : t c = some f) (hf : f [.fz (.obj c fs), .fz x] = .ok (.fz (.bl r)) as) : oCmp t g (.obj c fs) x = some (.bl r) := by
  unfold oCmp
  dsimp only
  rw [ht, Option.bind_some, hf]
theorem oEq_own {t : String → Option Fn} {neg : Bool} {c : String} {fs : List (Str × D)} {f : Fn} {x : D} {r : Bool} {as : List AN.Slot} (ht : t c = some f) (hf : f [.fz (.obj c fs), .fz x] = .ok (.fz (.bl r)) as) : oEq neg t (.obj c fs) x = some (.bl (if neg then !r else r)) := by
  unfold oEq
  dsimp only
  rw [ht, Option.bind_some, hf]
theorem ixP_obj {t : String → Option Fn} {g : D → D → Option D} {c : String} {fs : List (Str × D)} {f : Fn} {y : Opd} {e : AN.Env} (ht : t c = some f) : ixP t g (.d (.obj c fs)) y e = callD 2 f [.d (.obj c fs), y] e := by
  unfold ixP
  rw [view_d]
  dsimp only
  rw [ht]
theorem atP_obj {t : String → Option Fn} {ok : String → Bool} {fl : Str} {c : String} {fs : List (Str × D)} {f : Fn} {z : D} {as : List AN.Slot} {e : AN.Env} (ht : t c = some f) (hf : f [.fz (.obj c fs)] = .ok (.fz z) as) : atP t ok fl (.d (.obj c fs)) e = .ok (.d z) e := by
  unfold atP
  rw [view_d]
  dsimp only
  rw [ht]
  show noX (callD 1 f [.d (.obj c fs)]) e = _
  unfold noX
  have h : callD 1 f [.d (.obj c fs)] e = .ok (.d z) e := by rw [callD_r, callN1 hf]; rfl
  rw [h]
theorem opP_l {fw rv : String → Option Fn} {g : D → D → Option D} {c c' : String} {fs fs' : List (Str × D)} {f : Fn} {e : AN.Env} (hf : fw c = some f) (h : c = c' ∨ (fw c' = none ∧ rv c' = none)) : opP (selOp fw rv) g (.d (.obj c fs)) (.d (.obj c' fs')) e = callD 2 f [.d (.obj c fs), .d (.obj c' fs')] e := by
  have : selOp fw rv (.obj c fs) (.obj c' fs') = some (f, false) := by
    unfold selOp
    dsimp only
    rw [hf]
    dsimp only
    by_cases hc : c = c'
    · rw [if_pos hc]
    · rw [if_neg hc]
      obtain ⟨h1, h2⟩ := h.resolve_left hc
      rw [h1, h2]
  unfold opP
  rw [view_d, view_d]
  dsimp only
  rw [this]
theorem opP_r {fw rv : String → Option Fn} {g : D → D → Option D} {c c' : String} {fs fs' : List (Str × D)} {f f2 : Fn} {e : AN.Env} (h1 : fw c = none) (h2 : rv c = none) (h3 : fw c' = some f2) (h4 : rv c' = some f) : opP (selOp fw rv) g (.d (.obj c fs)) (.d (.obj c' fs')) e = callD 2 f [.d (.obj c' fs'), .d (.obj c fs)] e := by
  have : selOp fw rv (.obj c fs) (.obj c' fs') = some (f, true) := by
    unfold selOp
    dsimp only
    rw [h1]
    dsimp only
    rw [h2, h3, h4]
  unfold opP
  rw [view_d, view_d]
  dsimp only
  rw [this]
/-- a loop with something kept, its turns counted -/
theorem loop_ix {α : Type} {g : D → AN.Env → Option AN.Env} {body : M Fl} (E : α → AN.Env) (I : Nat → α → Prop) {m : Nat} : ∀ {ds : List D} {n : Nat} {a : α}, n + ds.length ≤ m → I n a → (∀ d ∈ ds, ∀ n a, n < m → I n a → ∃ e1 a', g d (E a) = some e1 ∧ (body e1 = .ok .nx (E a') ∨ body e1 = .ok .ct (E a')) ∧ I (n + 1) a') → ∃ a', loop g body ds (E a) = .ok .nx (E a') ∧ I (n + ds.length) a'
  | [], n, a, _, h, _ => ⟨a, rfl, h⟩
  | d :: ds, n, a, hm, h, s => by
    rw [List.length_cons] at hm
    obtain ⟨e1, a', h1, h2, h3⟩ := s d (by simp) n a (by omega) h
    obtain ⟨a2, h4, h5⟩ := loop_ix E I (ds := ds) (by omega) h3 (fun d hd => s d (by simp [hd]))
    refine ⟨a2, ?_, by rw [List.length_cons, show n + (ds.length + 1) = n + 1 + ds.length by omega]; exact h5⟩
    rcases h2 with h2 | h2 <;> simp only [loop, h1, h2, h4]
end AN

set_option Elab.async false
set_option maxRecDepth 100000
set_option autoImplicit false
set_option linter.unusedVariables false
/-! == of two lists of unlike lengths, whatever they hold -/
namespace AN
open PySem L2
def dEqL (a b : D) : Option D := match a, b with
  | .lst xs, .lst ys => if xs.length = ys.length then dEq (.lst xs) (.lst ys) else some (.bl false)
  | a, b => dEq a b
def rEqLen (K : PySem.W.Frag) : R2 := fun x y H Q => ∃ a b xs ys, x = .ref a ∧ y = .ref b ∧ SqL K H a xs ∧ SqL K H b ys ∧ xs.length ≠ ys.length ∧ Q (.bl false) H
section
variable {B : Bx} {X : Cx}
theorem op_eqLen (hu : X.A.units + 64 < cLine) : OpR X (compareOp .Eq) (rEqLen X.K) := by
  intro pins s σ H x y v u Q I rx ry h
  obtain ⟨a, b, xs, ys, rfl, rfl, ha, hb, hn, q⟩ := h
  obtain rfl : v = Value.ref a := rx
  obtain rfl : u = Value.ref b := ry
  obtain ⟨its, rv, ⟨o, n, ho, hc, _, hd⟩, _⟩ := I.list ha
  obtain ⟨its2, rv2, ⟨o2, n2, ho2, hc2, _, hd2⟩, _⟩ := I.list hb
  refine SeqAt.eq_list_lengthsAt (items := its.toArray) (items2 := its2.toArray) ⟨o, ho, hc, n, hd⟩ ⟨o2, ho2, hc2, n2, hd2⟩ ?_ (by omega) ⟨.bl false, H, I, rfl, q⟩
  have e1 := rv.length
  have e2 := rv2.length
  simp only [List.size_toArray, bne_iff_ne]
  omega
theorem p_eqLen (hK : X.K = B.K) : Prim2 B dEqL (fun x y H Q => rEqD X.K x y H Q ∨ rEqLen X.K x y H Q) := fun F H a b z x y Q hh sa sb e q => by
  have plain : dEq a b = some z → rEqD X.K x y H Q ∨ rEqLen X.K x y H Q := fun e => .inl (p_eq hK F H a b z x y Q hh sa sb e q)
  cases a with
  | lst xs =>
    cases b with
    | lst ys =>
      by_cases h : xs.length = ys.length
      · exact plain (by simpa [dEqL, h] using e)
      · have e' : z = .bl false := by
          simp only [dEqL, if_neg h, Option.some.injEq] at e
          exact e.symm
        subst e'
        obtain ⟨p, vs, rfl, ha, _, rl⟩ := sa
        obtain ⟨p2, vs2, rfl, hb, _, rl2⟩ := sb
        refine .inr ⟨p, p2, vs, vs2, rfl, rfl, by rw [hK]; exact ha, by rw [hK]; exact hb, ?_, q _ F H (Step.refl _ _ _) hh rfl⟩
        rw [rl.length, rl2.length]
        exact h
    | _ => exact plain e
  | _ => exact plain e
theorem dEqL_nil {xs : List D} : dEqL (.lst xs) (.lst []) = some (.bl xs.isEmpty) := by
  cases xs with
  | nil => rfl
  | cons x xs => rfl
end
end AN

set_option Elab.async false
set_option maxRecDepth 100000
set_option linter.unusedVariables false
namespace G
open PySem L2 AN
def top (i : Nat) : Stmt := PySem.Challenge.pw_addednames_k51_several_made.main.body.getD i (.Pass ⟨0, 0, 0, 0⟩)
abbrev s_is_integer : Stmt := top 10
abbrev s_is_name : Stmt := top 11
abbrev s_is_thing : Stmt := top 12
abbrev s_is_place : Stmt := top 15
abbrev s_Addition_init : Stmt := inClass (top 16) 0
abbrev s_Addition_eq : Stmt := inClass (top 16) 1
abbrev s_check_fit : Stmt := top 19
abbrev s_unlike_rows : Stmt := top 20
abbrev s_Several_init : Stmt := inClass (top 21) 0
abbrev s_Several_additions : Stmt := inClass (top 21) 1
abbrev s_Several_len : Stmt := inClass (top 21) 3
abbrev s_law_pool_of : Stmt := top 23
abbrev s_law_draw : Stmt := top 24
abbrev s_law_pick : Stmt := top 25
abbrev s_law_drawn_addition : Stmt := top 26
abbrev s_law_due_of : Stmt := top 27
abbrev s_law_made_several : Stmt := top 28
abbrev s_law_answer : Stmt := top 29
abbrev s_law : Stmt := top 30
abbrev s_AlreadyThere_init : Stmt := inClass (top 4) 0
abbrev s_BadAddition_init : Stmt := inClass (top 5) 0
abbrev s_BadPlace_init : Stmt := inClass (top 2) 0
abbrev s_BadThing_init : Stmt := inClass (top 3) 0
def ok_fld_additions (c : String) : Bool := [].contains c
def ok_fld_kept (c : String) : Bool := ["Several"].contains c
def ok_fld_kind (c : String) : Bool := ["Addition"].contains c
def ok_fld_name (c : String) : Bool := ["Addition"].contains c
def ok_fld_place (c : String) : Bool := ["Addition"].contains c
def ok_fld_thing (c : String) : Bool := ["Addition"].contains c
def is_Addition (c : String) : Bool := c == "Addition"
def tab_LENGTHS : List (Str × D) := [("name", .int 3), ("member", .int 3), ("spread", .int 4)]
def cs_AlreadyThere : String → Option Bool
  | "AlreadyThere" => some true
  | "BadAddition" => some false
  | "BadPlace" => some false
  | "BadThing" => some false
  | _ => none
def cs_BadAddition : String → Option Bool
  | "AlreadyThere" => some false
  | "BadAddition" => some true
  | "BadPlace" => some false
  | "BadThing" => some false
  | _ => none
def cs_BadThing : String → Option Bool
  | "AlreadyThere" => some false
  | "BadAddition" => some false
  | "BadPlace" => some false
  | "BadThing" => some true
  | _ => none
def cs_NamesError : String → Option Bool
  | "AlreadyThere" => some true
  | "BadAddition" => some true
  | "BadPlace" => some true
  | "BadThing" => some true
  | _ => none
def xf_place : String → Option Str
  | "AlreadyThere" => some "place"
  | "BadPlace" => some "place"
  | _ => none
def xf_thing : String → Option Str
  | "BadThing" => some "thing"
  | _ => none
def xf_value : String → Option Str
  | "BadAddition" => some "value"
  | _ => none
def m_is_integer : M Fl := (mRet (mAndV (mD (mB1 (isI fInt) (mV 0))) (mNotV (mD (mB1 (isI fBool) (mV 0))))))
def F_is_integer : Fn := runF 0 m_is_integer
def m_is_name : M Fl := (mRet (mAndV (mD (mB1 (isI fStr) (mV 0))) (mAndV (mChain dLe dLe (mC (.int 1)) (mD (mB1 dLen (mV 0))) (mC (.int 8))) (mD (mB1 dAll (mFz (mLC [1] (mIt (mV 0)) (gN 1) (M.pure true) (mD (mB2 (dInX false) (mV 1) (mC (.str "abcdefghijklmnopqrstuvwxyz")))))))))))
def F_is_name : Fn := runF 1 m_is_name
def m_is_thing : M Fl := (mRet (mAndV (mCall 1 F_is_integer (mA (mV 0) mA0)) (mChain dLe dLe (mC (.int 1)) (mV 0) (mC (.int 1000000000)))))
def F_is_thing : Fn := runF 0 m_is_thing
def m_is_place : M Fl := (mSeq (mIfS (mOr (mNot (mT (mD (mB1 (isI fTuple) (mV 0))))) (mOr (mB2 (g2b dEq) (mD (mB1 dLen (mV 0))) (mC (.int 0))) (mNot (mT (mD (mB1 (isI fStr) (mD (mB2 dIx (mV 0) (mC (.int 0)))))))))) (mRet (mC (.bl false))) mNx)
    (mRet (mAndV (mD (mB2 dEq (mD (mB2 (dGet tab_LENGTHS) (mD (mB2 dIx (mV 0) (mC (.int 0)))) (mC (.int 0)))) (mD (mB1 dLen (mV 0))))) (mD (mB1 dAll (mFz (mLC [1] (mIt (mD (mSl dSl (mV 0) (mB1 intOf (mC (.int 1))) (M.pure none)))) (gN 1) (M.pure true) (mCall 1 F_is_name (mA (mV 1) mA0)))))))))
def F_is_place : Fn := runF 1 m_is_place
def m_Addition_init : M Fl := (mSeq (mIfS (mNot (mT (mCall 1 F_is_place (mA (mV 1) mA0)))) (mRaise "BadPlace" (mV 1)) mNx)
    (mSeq (mIfS (mNot (mT (mCall 1 F_is_thing (mA (mV 2) mA0)))) (mRaise "BadThing" (mV 2)) mNx)
    (mSeq (mSetF ok_fld_place 0 "place" (mV 1))
    (mSeq (mSetF ok_fld_thing 0 "thing" (mV 2))
    (mSeq (mSetF ok_fld_kind 0 "kind" (mD (mB2 dIx (mV 1) (mC (.int 0)))))
    (mSetF ok_fld_name 0 "name" (mD (mB2 dIx (mV 1) (mD (mB2 dSub (mD (mB1 dLen (mV 1))) (mC (.int 1))))))))))))
def F_Addition_init : Fn := runF 0 m_Addition_init
def m_Addition_eq : M Fl := (mRet (mAndV (mD (mB1 (isG (fun _ => false) is_Addition) (mV 1))) (mAndV (mD (mB2 dEq (mD (mB1 (dFld ok_fld_place "place") (mV 0))) (mD (mB1 (dFld ok_fld_place "place") (mV 1))))) (mD (mB2 dEq (mD (mB1 (dFld ok_fld_thing "thing") (mV 0))) (mD (mB1 (dFld ok_fld_thing "thing") (mV 1))))))))
def F_Addition_eq : Fn := runF 0 m_Addition_eq
def m_check_fit : M Fl := (mSeq (mIfS (mT (mD (mB1 dAny (mFz (mLC [2] (mIt (mV 0)) (gN 2) (M.pure true) (mD (mB2 dEq (mD (mB1 (dFld ok_fld_place "place") (mV 1))) (mD (mB1 (dFld ok_fld_place "place") (mV 2)))))))))) (mRaise "AlreadyThere" (mD (mB1 (dFld ok_fld_place "place") (mV 1)))) mNx)
    (mIfS (mT (mD (mB1 dAny (mFz (mLC [2] (mIt (mV 0)) (gN 2) (M.pure true) (mD (mB2 dEq (mD (mB1 (dFld ok_fld_thing "thing") (mV 1))) (mD (mB1 (dFld ok_fld_thing "thing") (mV 2)))))))))) (mRaise "BadThing" (mD (mB1 (dFld ok_fld_thing "thing") (mV 1)))) mNx))
def F_check_fit : Fn := runF 1 m_check_fit
def t_eq_Addition : String → Option Fn
  | "Addition" => some F_Addition_eq
  | _ => none
def m_unlike_rows : M Fl := (mSeq (mSet 1 (mTup mA0))
    (mSeq (mFor (mIt (mV 0)) (gN 2) (mW [false, false, true] (mIfS (mB2 (g2b (dInE t_eq_Addition true (dInX true))) (mV 2) (mV 1)) (mSeq (mDrop (mCall 2 F_check_fit (mA (mV 1) (mA (mV 2) mA0))))
    (mSet 1 (mTup (mAS (mV 1) (mA (mV 2) mA0))))) mNx)))
    (mRetV 1)))
def F_unlike_rows : Fn := runF 2 m_unlike_rows
def m_Several_init : M Fl := (mSeq (mFor (mIt (mV 1)) (gN 2) (mW [false, false, true] (mIfS (mNot (mT (mD (mB1 (isG (fun _ => false) is_Addition) (mV 2))))) (mRaise "BadAddition" (mV 2)) mNx)))
    (mSetF ok_fld_kept 0 "kept" (mCall 1 F_unlike_rows (mA (mV 1) mA0))))
def F_Several_init : Fn := runF 1 m_Several_init
def m_Several_additions : M Fl := (mRet (mD (mB1 (dFld ok_fld_kept "kept") (mV 0))))
def F_Several_additions : Fn := runF 0 m_Several_additions
def m_Several_len : M Fl := (mRet (mD (mB1 dLen (mD (mB1 (dFld ok_fld_kept "kept") (mV 0))))))
def F_Several_len : Fn := runF 0 m_Several_len
def m_law_pool_of : M Fl := (mSeq (mSet 2 (mIf (mB2 (g2b dLt) (mV 1) (mD (mB1 dLen (mV 0)))) (mD (mB2 dIx (mV 0) (mV 1))) (mD (mB2 dAdd (mD (mB2 dMulI (mC (.int 7)) (mD (mB1 dSum (mD (mSl dSl (mV 0) (M.pure none) (mB1 intOf (mC (.int 63))))))))) (mV 1)))))
    (mSeq (mSet 3 (mD (mB1 dAbs (mV 2))))
    (mSeq (mSet 4 (mD (mB2 dAdd (mD (mB2 dAdd (mD (mB2 dAdd (mD (mB2 dMod (mD (mB1 dInt (mV 3))) (mC (.int 2147483629)))) (mD (mB2 dMulI (mD (mB2 dMulI (mC (.int 7919)) (mV 1))) (mV 1))))) (mD (mB2 dMulI (mC (.int 31)) (mV 1))))) (mC (.int 17)))))
    (mSeq (mSet 4 (mD (mB2 dMod (mD (mB1 dInt (mD (mB2 dMulI (mV 4) (mC (.int 48271)))))) (mC (.int 2147483647)))))
    (mRetO (mLst (mA (mD (mB2 dMulI (mV 3) (mD (mB1 dInt (mD (mB2 dGe (mV 3) (mD (mB2 dPow (mC (.int 10)) (mC (.int 18)))))))))) (mA (mD (mB2 dMod (mD (mB1 dInt (mD (mB2 dMulI (mV 4) (mV 4))))) (mC (.int 2147483629)))) mA0))))))))
def F_law_pool_of : Fn := runF 3 m_law_pool_of
def m_law_draw : M Fl := (mSeq (mIfS (mB2 (g2b dGt) (mD (mB2 dIx (mV 0) (mC (.int 0)))) (mC (.int 0))) (mSeq (mSet 2 (mD (mB2 dMod (mD (mB1 dInt (mD (mB2 dIx (mV 0) (mC (.int 0)))))) (mV 1))))
    (mSeq (mPutAt 0 (mC (.int 0)) (mD (mB2 dFdiv (mD (mB2 dIx (mV 0) (mC (.int 0)))) (mV 1))))
    (mRetV 2))) mNx)
    (mSeq (mPutAt 0 (mC (.int 1)) (mD (mB2 dMod (mD (mB1 dInt (mD (mB2 dAdd (mD (mB2 dMulI (mD (mB2 dIx (mV 0) (mC (.int 1)))) (mC (.int 48271)))) (mC (.int 11)))))) (mC (.int 2147483647)))))
    (mRet (mD (mB2 dMod (mD (mB1 dInt (mD (mB2 dFdiv (mD (mB2 dMod (mD (mB2 dMulI (mD (mB2 dIx (mV 0) (mC (.int 1)))) (mD (mB2 dIx (mV 0) (mC (.int 1)))))) (mC (.int 2147483629)))) (mC (.int 16)))))) (mV 1))))))
def F_law_draw : Fn := runF 1 m_law_draw
def m_law_pick : M Fl := (mRet (mD (mB2 dIx (mV 1) (mCallM [true, false] F_law_draw (mA (mV 0) (mA (mD (mB1 dLen (mV 1))) mA0))))))
def F_law_pick : Fn := runF 0 m_law_pick
def m_law_drawn_addition : M Fl := (mSeq (mSet 1 (mFz (mLst (mA (mC (.str "a")) (mA (mC (.str "b")) (mA (mC (.str "abcdefgh")) mA0))))))
    (mSeq (mSetO 2 (mLst (mA (mTup (mA (mC (.str "name")) (mA (mC (.str "l")) (mA (mCallM [true, false] F_law_pick (mA (mV 0) (mA (mV 1) mA0))) mA0)))) (mA (mTup (mA (mC (.str "member")) (mA (mC (.str "l")) (mA (mCallM [true, false] F_law_pick (mA (mV 0) (mA (mV 1) mA0))) mA0)))) mA0))))
    (mSeq (mApp 2 (mTup (mA (mC (.str "spread")) (mA (mC (.str "l")) (mA (mC (.str "k")) (mA (mCallM [true, false] F_law_pick (mA (mV 0) (mA (mV 1) mA0))) mA0))))))
    (mRet (mTup (mA (mCallM [true, false] F_law_pick (mA (mV 0) (mA (mV 2) mA0))) (mA (mCallM [true, false] F_law_pick (mA (mV 0) (mA (mFz (mLst (mA (mC (.int 1)) (mA (mC (.int 2)) (mA (mC (.int 3)) (mA (mD (mB2 dPow (mC (.int 10)) (mC (.int 9)))) mA0)))))) mA0))) mA0)))))))
def F_law_drawn_addition : Fn := runF 2 m_law_drawn_addition
def m_law_due_of : M Fl := (mSeq (mSetO 1 (mLst mA0))
    (mSeq (mFor (mIt (mV 0)) (gT 2 (gs (gN 2) (gs (gN 3) gs0))) (mW [false, false, true, true] (mIfS (mB2 (g2b (dInX true)) (mTup (mA (mV 2) (mA (mV 3) mA0))) (mV 1)) (mSeq (mIfS (mB2 (g2b (dInX false)) (mV 2) (mFz (mLCo 1 [4] (gN 4) (M.pure true) (mD (mB2 dIx (mV 4) (mC (.int 0))))))) (mRetO (mLst (mA (mC (.str "place")) (mA (mV 2) mA0)))) mNx)
    (mSeq (mIfS (mB2 (g2b (dInX false)) (mV 3) (mFz (mLCo 1 [4] (gN 4) (M.pure true) (mD (mB2 dIx (mV 4) (mC (.int 1))))))) (mRetO (mLst (mA (mC (.str "thing")) (mA (mV 3) mA0)))) mNx)
    (mApp 1 (mTup (mA (mV 2) (mA (mV 3) mA0)))))) mNx)))
    (mRetO (mLst (mA (mC (.str "kept")) (mA (mD (mB1 dTupOf (mV 1))) mA0))))))
def F_law_due_of : Fn := runF 4 m_law_due_of
def m_law_made_several : M Fl := (mSeq (mIfS (mB2 (g2b dEqL) (mV 0) (mFz (mLst mA0))) (mRetO (mMakeSt "Several" F_Several_init mA0)) mNx)
    (mSeq (mIfS (mB2 (g2b dEq) (mD (mB1 dLen (mV 0))) (mC (.int 1))) (mRetO (mMakeSt "Several" F_Several_init (mA (mD (mB2 dIx (mV 0) (mC (.int 0)))) mA0))) mNx)
    (mSeq (mIfS (mB2 (g2b dEq) (mD (mB1 dLen (mV 0))) (mC (.int 2))) (mRetO (mMakeSt "Several" F_Several_init (mA (mD (mB2 dIx (mV 0) (mC (.int 0)))) (mA (mD (mB2 dIx (mV 0) (mC (.int 1)))) mA0)))) mNx)
    (mSeq (mIfS (mB2 (g2b dEq) (mD (mB1 dLen (mV 0))) (mC (.int 3))) (mRetO (mMakeSt "Several" F_Several_init (mA (mD (mB2 dIx (mV 0) (mC (.int 0)))) (mA (mD (mB2 dIx (mV 0) (mC (.int 1)))) (mA (mD (mB2 dIx (mV 0) (mC (.int 2)))) mA0))))) mNx)
    (mSeq (mIfS (mB2 (g2b dEq) (mD (mB1 dLen (mV 0))) (mC (.int 4))) (mRetO (mMakeSt "Several" F_Several_init (mA (mD (mB2 dIx (mV 0) (mC (.int 0)))) (mA (mD (mB2 dIx (mV 0) (mC (.int 1)))) (mA (mD (mB2 dIx (mV 0) (mC (.int 2)))) (mA (mD (mB2 dIx (mV 0) (mC (.int 3)))) mA0)))))) mNx)
    (mSeq (mIfS (mB2 (g2b dEq) (mD (mB1 dLen (mV 0))) (mC (.int 5))) (mRetO (mMakeSt "Several" F_Several_init (mA (mD (mB2 dIx (mV 0) (mC (.int 0)))) (mA (mD (mB2 dIx (mV 0) (mC (.int 1)))) (mA (mD (mB2 dIx (mV 0) (mC (.int 2)))) (mA (mD (mB2 dIx (mV 0) (mC (.int 3)))) (mA (mD (mB2 dIx (mV 0) (mC (.int 4)))) mA0))))))) mNx)
    (mRetO (mMakeSt "Several" F_Several_init (mA (mD (mB2 dIx (mV 0) (mC (.int 0)))) (mA (mD (mB2 dIx (mV 0) (mC (.int 1)))) (mA (mD (mB2 dIx (mV 0) (mC (.int 2)))) (mA (mD (mB2 dIx (mV 0) (mC (.int 3)))) (mA (mD (mB2 dIx (mV 0) (mC (.int 4)))) (mA (mD (mB2 dIx (mV 0) (mC (.int 5)))) mA0))))))))))))))
def F_law_made_several : Fn := runF 0 m_law_made_several
def t_pr_additions_Several : String → Option Fn
  | "Several" => some F_Several_additions
  | _ => none
def t_ln_Several : String → Option Fn
  | "Several" => some F_Several_len
  | _ => none
def m_law_answer : M Fl := (mSeq (mTry (mSeq (mSet 1 (mCall 1 F_law_made_several (mA (mV 0) mA0)))
    (mSet 2 (mAt t_pr_additions_Several ok_fld_additions "additions" (mV 1)))) [⟨cs_AlreadyThere, 4, fun c d => mRetO (mLst (mA (mC (.str "place")) (mA (mXf xf_place "place" c d) mA0)))⟩, ⟨cs_BadThing, 4, fun c d => mRetO (mLst (mA (mC (.str "thing")) (mA (mXf xf_thing "thing" c d) mA0)))⟩, ⟨cs_BadAddition, 4, fun c d => mRetO (mLst (mA (mC (.str "value")) (mA (mD (mB1 dRepr (mXf xf_value "value" c d))) mA0)))⟩, ⟨cs_NamesError, 4, fun c d => mRetO (mLst mA0)⟩])
    (mSeq (mIfS (mOr (mNot (mT (mD (mB1 (isI fTuple) (mV 2))))) (mB2 (g2b dNe) (mD (mB1 (dLenO t_ln_Several) (mV 1))) (mD (mB1 dLen (mV 2))))) (mRetO (mLst mA0)) mNx)
    (mRetO (mLst (mA (mC (.str "kept")) (mA (mD (mB1 dTupOf (mFz (mLC [3] (mIt (mV 2)) (gN 3) (M.pure true) (mTup (mA (mD (mB1 (dFld ok_fld_place "place") (mV 3))) (mA (mD (mB1 (dFld ok_fld_thing "thing") (mV 3))) mA0))))))) mA0))))))
def F_law_answer : Fn := runF 4 m_law_answer
def m_law : M Fl := (mSeq (mSetO 1 (mCallO 2 F_law_pool_of (mA (mV 0) (mA (mC (.int 0)) mA0))))
    (mSeq (mSet 2 (mFz (mLC [6] (mRng1 (mCallM [true, false] F_law_draw (mA (mV 1) (mA (mC (.int 7)) mA0)))) (gN 6) (M.pure true) (mCallT F_law_drawn_addition 0 (mCallO 2 F_law_pool_of (mA (mV 0) (mA (mD (mB2 dAdd (mC (.int 1)) (mV 6))) mA0))) mA0))))
    (mSeq (mParO 3 4 (mLC [9, 10] (mIt (mV 2)) (gT 2 (gs (gN 9) (gs (gN 10) gs0))) (M.pure true) (mFz (mMake "Addition" 2 F_Addition_init (mA (mV 9) (mA (mV 10) mA0))))) (mCall 1 F_law_due_of (mA (mV 2) mA0)))
    (mSeq (mIfS (mAnd (mB2 (g2b dNe) (mV 2) (mFz (mLst mA0))) (mB2 (g2b dEq) (mCallM [true, false] F_law_draw (mA (mV 1) (mA (mC (.int 3)) mA0))) (mC (.int 0)))) (mSeq (mSet 5 (mFz (mLst (mA (mC .non) (mA (mC (.int 5)) (mA (mC (.str "a")) (mA (mTup (mA (mC (.str "name")) (mA (mC (.str "l")) (mA (mC (.str "a")) mA0)))) (mA (mFz (mLst mA0)) (mA (mTup (mA (mTup (mA (mC (.str "name")) (mA (mC (.str "l")) (mA (mC (.str "a")) mA0)))) (mA (mC (.int 1)) mA0))) mA0)))))))))
    (mSeq (mPar [7, 8] (mA (mCallM [true, false] F_law_draw (mA (mV 1) (mA (mD (mB1 dLen (mV 2))) mA0))) (mA (mCallM [true, false] F_law_pick (mA (mV 1) (mA (mV 5) mA0))) mA0)))
    (mSeq (mPutAt 3 (mV 7) (mV 8))
    (mSeq (mSet 4 (mFz (mLst (mA (mC (.str "value")) (mA (mD (mB1 dRepr (mV 8))) mA0)))))
    (mIfS (mAnd (mB2 (g2b dEq) (mCallM [true, false] F_law_draw (mA (mV 1) (mA (mC (.int 2)) mA0))) (mC (.int 0))) (mB2 (g2b dGt) (mV 7) (mC (.int 0)))) (mSeq (mPutAt 3 (mD (mB2 dSub (mV 7) (mC (.int 1)))) (mC (.bl true)))
    (mSet 4 (mFz (mLst (mA (mC (.str "value")) (mA (mC (.str "True")) mA0)))))) mNx))))) mNx)
    (mRet (mD (mB2 dEq (mCall 1 F_law_answer (mA (mV 3) mA0)) (mV 4))))))))
def F_law : Fn := runF 10 m_law
end G

set_option Elab.async false
set_option maxRecDepth 100000
set_option linter.unusedVariables false
namespace G
open PySem L2 AN
structure Txt (w : World) (K : PySem.W.Frag) (mg : Str → Option Value) (cs : List (String × Addr)) (es : List (String × Addr × Str)) (A_Addition : Addr) (A_AlreadyThere : Addr) (A_BadAddition : Addr) (A_BadPlace : Addr) (A_BadThing : Addr) (A_NamesError : Addr) : Prop where
  b_abs : mg "abs" = none
  b_all : mg "all" = none
  b_any : mg "any" = none
  b_bool : mg "bool" = none
  b_int : mg "int" = none
  b_isinstance : mg "isinstance" = none
  b_len : mg "len" = none
  b_range : mg "range" = none
  b_repr : mg "repr" = none
  b_str : mg "str" = none
  b_sum : mg "sum" = none
  b_tuple : mg "tuple" = none
  c_LETTERS : ∃ t, mg "LETTERS" = some (.str "abcdefghijklmnopqrstuvwxyz" t)
  c_MOST_LETTERS : ∃ t, mg "MOST_LETTERS" = some (.int 8 t)
  c_MOST_THING : ∃ t, mg "MOST_THING" = some (.int 1000000000 t)
  oc : Ocs (bxOf K cs es) K
  ap : Apart (bxOf K cs es) K
  kls : Kls (bxOf K cs es) K
  fr_additions : Free (bxOf K cs es) K ok_fld_additions "additions"
  fr_kept : Free (bxOf K cs es) K ok_fld_kept "kept"
  fr_kind : Free (bxOf K cs es) K ok_fld_kind "kind"
  fr_name : Free (bxOf K cs es) K ok_fld_name "name"
  fr_place : Free (bxOf K cs es) K ok_fld_place "place"
  fr_thing : Free (bxOf K cs es) K ok_fld_thing "thing"
  g_Addition : mg "Addition" = some (.ref A_Addition)
  g_AlreadyThere : mg "AlreadyThere" = some (.ref A_AlreadyThere)
  g_BadAddition : mg "BadAddition" = some (.ref A_BadAddition)
  g_BadPlace : mg "BadPlace" = some (.ref A_BadPlace)
  g_BadThing : mg "BadThing" = some (.ref A_BadThing)
  g_NamesError : mg "NamesError" = some (.ref A_NamesError)
  is_Addition : IsOk (bxOf K cs es) K (.ref A_Addition) (fun _ => false) is_Addition
  tab_LENGTHS : ∃ a, mg "LENGTHS" = some (.ref a) ∧ KTab K w (bxOf K cs es) a tab_LENGTHS
  cs_AlreadyThere : ∀ c b, cs_AlreadyThere c = some b → ∃ C fld, (bxOf K cs es).exc c = some (C, fld) ∧ PySem.W.exmOne K (.ref C) (.ref A_AlreadyThere) = some b
  cs_BadAddition : ∀ c b, cs_BadAddition c = some b → ∃ C fld, (bxOf K cs es).exc c = some (C, fld) ∧ PySem.W.exmOne K (.ref C) (.ref A_BadAddition) = some b
  cs_BadThing : ∀ c b, cs_BadThing c = some b → ∃ C fld, (bxOf K cs es).exc c = some (C, fld) ∧ PySem.W.exmOne K (.ref C) (.ref A_BadThing) = some b
  cs_NamesError : ∀ c b, cs_NamesError c = some b → ∃ C fld, (bxOf K cs es).exc c = some (C, fld) ∧ PySem.W.exmOne K (.ref C) (.ref A_NamesError) = some b
  xf_place : ∀ {cn : String}, xf_place cn = some "place" → ∀ C fld, (bxOf K cs es).exc cn = some (C, fld) → fld = "place" ∧ XfC K C ∧ PySem.W.findIn K (.ref C) "place" = some none
  xf_thing : ∀ {cn : String}, xf_thing cn = some "thing" → ∀ C fld, (bxOf K cs es).exc cn = some (C, fld) → fld = "thing" ∧ XfC K C ∧ PySem.W.findIn K (.ref C) "thing" = some none
  xf_value : ∀ {cn : String}, xf_value cn = some "value" → ∀ C fld, (bxOf K cs es).exc cn = some (C, fld) → fld = "value" ∧ XfC K C ∧ PySem.W.findIn K (.ref C) "value" = some none
theorem mA_len1 {a : M Opd} {env e : AN.Env} {xs : List Opd} (h : mA a mA0 env = .ok xs e) : xs.length = 1 := by
  rw [mA_r] at h
  cases q : a env with
  | bad => rw [q] at h; cases h
  | exc _ _ _ => rw [q] at h; cases h
  | ok x e1 => rw [q] at h; cases h; rfl
theorem mA_len2 {a b : M Opd} {env e : AN.Env} {xs : List Opd} (h : mA a (mA b mA0) env = .ok xs e) : xs.length = 2 := by
  rw [mA_r] at h
  cases q : a env with
  | bad => rw [q] at h; cases h
  | exc _ _ _ => rw [q] at h; cases h
  | ok x e1 =>
    rw [q, th_ok, mA_r] at h
    cases q2 : b e1 with
    | bad => rw [q2] at h; cases h
    | exc _ _ _ => rw [q2] at h; cases h
    | ok y e2 => rw [q2] at h; cases h; rfl
section
variable {P : Program} {w : World} {K : PySem.W.Frag} {mg : Str → Option Value} {base : Heap} {cs : List (String × Addr)} {es : List (String × Addr × Str)} {A_Addition : Addr} {A_AlreadyThere : Addr} {A_BadAddition : Addr} {A_BadPlace : Addr} {A_BadThing : Addr} {A_NamesError : Addr}
theorem sc_AlreadyThere_init : FnScope ["self", "place"] ["self", "place"] (defScope s_AlreadyThere_init) := ⟨rfl, rfl, rfl, by decide +kernel, rfl, by decide +kernel, by decide +kernel⟩
theorem ok_AlreadyThere_init {fa N : Addr} {mc : Value} {fd : FuncData} (Fd : Fun K "__init__" "AlreadyThere.__init__" s_AlreadyThere_init fa fd) (hm : mg "NamesError" = some (.ref N)) (rd : ClX.CRead K N mc) (at_ : PySem.W.findCls K (.ref N) mc "__init__" = some (.val (.builtin "ValueError.__init__"))) : FnOk P w K mg base (L2.CX P w) 1 fa fd ["self", "place"] (spI K "place") :=
  init_ok Fd sc_AlreadyThere_init fun cdv A outer s H E => ini_body (ps_expr (pe_neinit hm rd at_ (pa_cons (pe_var (i := 0) rfl (Or.inl rfl)) (pa_cons pe_str pa_nil)))) ini_args (ps_ost (pe_var (i := 0) rfl (Or.inl rfl)) (pe_var (i := 1) rfl (Or.inl rfl)))
theorem sc_BadAddition_init : FnScope ["self", "value"] ["self", "value"] (defScope s_BadAddition_init) := ⟨rfl, rfl, rfl, by decide +kernel, rfl, by decide +kernel, by decide +kernel⟩
theorem ok_BadAddition_init {fa N : Addr} {mc : Value} {fd : FuncData} (Fd : Fun K "__init__" "BadAddition.__init__" s_BadAddition_init fa fd) (hm : mg "NamesError" = some (.ref N)) (rd : ClX.CRead K N mc) (at_ : PySem.W.findCls K (.ref N) mc "__init__" = some (.val (.builtin "ValueError.__init__"))) : FnOk P w K mg base (L2.CX P w) 1 fa fd ["self", "value"] (spI K "value") :=
  init_ok Fd sc_BadAddition_init fun cdv A outer s H E => ini_body (ps_expr (pe_neinit hm rd at_ (pa_cons (pe_var (i := 0) rfl (Or.inl rfl)) (pa_cons pe_str pa_nil)))) ini_args (ps_ost (pe_var (i := 0) rfl (Or.inl rfl)) (pe_var (i := 1) rfl (Or.inl rfl)))
theorem sc_BadPlace_init : FnScope ["self", "place"] ["self", "place"] (defScope s_BadPlace_init) := ⟨rfl, rfl, rfl, by decide +kernel, rfl, by decide +kernel, by decide +kernel⟩
theorem ok_BadPlace_init {fa N : Addr} {mc : Value} {fd : FuncData} (Fd : Fun K "__init__" "BadPlace.__init__" s_BadPlace_init fa fd) (hm : mg "NamesError" = some (.ref N)) (rd : ClX.CRead K N mc) (at_ : PySem.W.findCls K (.ref N) mc "__init__" = some (.val (.builtin "ValueError.__init__"))) : FnOk P w K mg base (L2.CX P w) 1 fa fd ["self", "place"] (spI K "place") :=
  init_ok Fd sc_BadPlace_init fun cdv A outer s H E => ini_body (ps_expr (pe_neinit hm rd at_ (pa_cons (pe_var (i := 0) rfl (Or.inl rfl)) (pa_cons pe_str pa_nil)))) ini_args (ps_ost (pe_var (i := 0) rfl (Or.inl rfl)) (pe_var (i := 1) rfl (Or.inl rfl)))
theorem sc_BadThing_init : FnScope ["self", "thing"] ["self", "thing"] (defScope s_BadThing_init) := ⟨rfl, rfl, rfl, by decide +kernel, rfl, by decide +kernel, by decide +kernel⟩
theorem ok_BadThing_init {fa N : Addr} {mc : Value} {fd : FuncData} (Fd : Fun K "__init__" "BadThing.__init__" s_BadThing_init fa fd) (hm : mg "NamesError" = some (.ref N)) (rd : ClX.CRead K N mc) (at_ : PySem.W.findCls K (.ref N) mc "__init__" = some (.val (.builtin "ValueError.__init__"))) : FnOk P w K mg base (L2.CX P w) 1 fa fd ["self", "thing"] (spI K "thing") :=
  init_ok Fd sc_BadThing_init fun cdv A outer s H E => ini_body (ps_expr (pe_neinit hm rd at_ (pa_cons (pe_var (i := 0) rfl (Or.inl rfl)) (pa_cons pe_str pa_nil)))) ini_args (ps_ost (pe_var (i := 0) rfl (Or.inl rfl)) (pe_var (i := 1) rfl (Or.inl rfl)))
theorem sc_is_integer : FnScope ["value"] ["value"] (defScope s_is_integer) := ⟨rfl, rfl, rfl, by decide +kernel, rfl, by decide +kernel, by decide +kernel⟩
theorem ok_is_integer {fa : Addr} {fd : FuncData} (Fd : Fun K "is_integer" "is_integer" s_is_integer fa fd) (T : Txt w K mg cs es A_Addition A_AlreadyThere A_BadAddition A_BadPlace A_BadThing A_NamesError)  : FnOk P w K mg base (L2.CX P w) 1 fa fd ["value"] (spOf (bxOf K cs es) 1 F_is_integer) :=
  fn_ok (m := m_is_integer) (n := 0) Fd sc_is_integer rfl (by decide) fun cdv A outer s H E hr tk po =>
    (dss1 (ds_ret (de_and (de_isi kInt rfl (dv 0) T.b_isinstance T.b_int (by decide +kernel)) (de_one (de_not (de_isi kBool rfl (dv 0) T.b_isinstance T.b_bool (by decide +kernel)))))))
theorem sc_is_name : FnScope ["value", "sign"] ["value"] (defScope s_is_name) := ⟨rfl, rfl, rfl, by decide +kernel, rfl, by decide +kernel, by decide +kernel⟩
theorem ok_is_name {fa : Addr} {fd : FuncData} (Fd : Fun K "is_name" "is_name" s_is_name fa fd) (T : Txt w K mg cs es A_Addition A_AlreadyThere A_BadAddition A_BadPlace A_BadThing A_NamesError)  : FnOk P w K mg base (L2.CX P w) 1 fa fd ["value"] (spOf (bxOf K cs es) 1 F_is_name) :=
  fn_ok (m := m_is_name) (n := 1) Fd sc_is_name rfl (by decide) fun cdv A outer s H E hr tk po =>
    (dss1 (ds_ret (de_and (de_isi kStr rfl (dv 0) T.b_isinstance T.b_str (by decide +kernel)) (de_and (de_chain op_le p_le op_le p_le de_int (de_len rfl (dv 0) T.b_len) (de_gI T.c_MOST_LETTERS)) (de_one (de_all rfl rfl (de_o (do_lc rfl sc_is_name.nd (di_seq rfl (dv 0)) (blk_ok (N := ["value", "sign"]) (sc := defScope s_is_name) (own := [("sign", 1)]) rfl rfl (by decide +kernel)) (fun _ _ _ _ _ => (dg_n 1 sc_is_name.nd)) (fun _ _ _ _ _ => dts0) (fun _ _ _ _ _ => (de_cmp (op_inX (hu65 hr)) (p_in rfl) (dv 1) (de_gS T.c_LETTERS ⟨by decide +kernel, by decide +kernel⟩) rfl)) (by decide))) T.b_all))))))
theorem sc_is_thing : FnScope ["value"] ["value"] (defScope s_is_thing) := ⟨rfl, rfl, rfl, by decide +kernel, rfl, by decide +kernel, by decide +kernel⟩
theorem ok_is_thing {fa : Addr} {fd : FuncData} (Fd : Fun K "is_thing" "is_thing" s_is_thing fa fd) (T : Txt w K mg cs es A_Addition A_AlreadyThere A_BadAddition A_BadPlace A_BadThing A_NamesError) (C_is_integer : Cal P w K mg base (bxOf K cs es) "is_integer" 1 ["value"] F_is_integer) : FnOk P w K mg base (L2.CX P w) 2 fa fd ["value"] (spOf (bxOf K cs es) 1 F_is_thing) :=
  fn_ok (m := m_is_thing) (n := 0) Fd sc_is_thing rfl (by decide) fun cdv A outer s H E hr tk po =>
    (dss1 (ds_ret (de_and (dc (ps := ["value"]) C_is_integer (hr.mono (by decide)) tk (da (dv 0) da0)) (de_one (de_chain op_le p_le op_le p_le de_int (dv 0) (de_gI T.c_MOST_THING))))))
theorem sc_is_place : FnScope ["value", "name"] ["value"] (defScope s_is_place) := ⟨rfl, rfl, rfl, by decide +kernel, rfl, by decide +kernel, by decide +kernel⟩
theorem ok_is_place {fa : Addr} {fd : FuncData} (Fd : Fun K "is_place" "is_place" s_is_place fa fd) (T : Txt w K mg cs es A_Addition A_AlreadyThere A_BadAddition A_BadPlace A_BadThing A_NamesError) (C_is_name : Cal P w K mg base (bxOf K cs es) "is_name" 1 ["value"] F_is_name) : FnOk P w K mg base (L2.CX P w) 2 fa fd ["value"] (spOf (bxOf K cs es) 1 F_is_place) :=
  fn_ok (m := m_is_place) (n := 1) Fd sc_is_place rfl (by decide) fun cdv A outer s H E hr tk po =>
    (dss (ds_if (dt_w (dw_or (dt_not (dt_val rfl (de_isi kTuple rfl (dv 0) T.b_isinstance T.b_tuple (by decide +kernel)))) (dw_or (dt_cmp (op_eqD (hu64 hr)) (p_eq rfl) (de_len rfl (dv 0) T.b_len) de_int (nomark _)) (dw_or1 (dt_not (dt_val rfl (de_isi kStr rfl (de_at rfl (dv 0) de_int) T.b_isinstance T.b_str (by decide +kernel)))))))) (dss1 (ds_ret de_bl)) dss0)
      (dss1 (ds_ret (de_and (de_cmp (op_eqD (hu64 hr)) (p_eq rfl) (de_kget T.tab_LENGTHS (de_at rfl (dv 0) de_int) de_int (hu70 hr)) (de_len rfl (dv 0) T.b_len) (nomark _)) (de_one (de_all rfl rfl (de_o (do_lc rfl sc_is_place.nd (di_seq rfl (de_sl rfl (dv 0) (dp1 de_int) dp0)) (blk_ok (N := ["value", "name"]) (sc := defScope s_is_place) (own := [("name", 1)]) rfl rfl (by decide +kernel)) (fun _ _ _ _ _ => (dg_n 1 sc_is_place.nd)) (fun _ _ _ _ _ => dts0) (fun _ _ _ _ _ => (dc (ps := ["value"]) C_is_name (hr.mono (by decide)) takes0 (da (dv 1) da0))) (by decide))) T.b_all))))))
theorem sc_Addition_init : FnScope ["self", "place", "thing"] ["self", "place", "thing"] (defScope s_Addition_init) := ⟨rfl, rfl, rfl, by decide +kernel, rfl, by decide +kernel, by decide +kernel⟩
theorem ok_Addition_init {fa : Addr} {fd : FuncData} (Fd : Fun K "__init__" "Addition.__init__" s_Addition_init fa fd) (T : Txt w K mg cs es A_Addition A_AlreadyThere A_BadAddition A_BadPlace A_BadThing A_NamesError) (C_is_place : Cal P w K mg base (bxOf K cs es) "is_place" 2 ["value"] F_is_place) (C_is_thing : Cal P w K mg base (bxOf K cs es) "is_thing" 2 ["value"] F_is_thing) (R_BadPlace : Rai P w K mg base (bxOf K cs es) "BadPlace" "BadPlace") (R_BadThing : Rai P w K mg base (bxOf K cs es) "BadThing" "BadThing") : FnOk P w K mg base (L2.CX P w) 3 fa fd ["self", "place", "thing"] (spOf (bxOf K cs es) 3 F_Addition_init) :=
  fn_ok (m := m_Addition_init) (n := 0) Fd sc_Addition_init rfl (by decide) fun cdv A outer s H E hr tk po =>
    (dss (ds_if (dt_not (dt_val rfl (dc (ps := ["value"]) C_is_place (hr.mono (by decide)) tk (da (dv 1) da0)))) (dss1 (ds_raise R_BadPlace (hr.mono (by decide)) rfl tk (dv 1))) dss0)
      (dss (ds_if (dt_not (dt_val rfl (dc (ps := ["value"]) C_is_thing (hr.mono (by decide)) tk (da (dv 2) da0)))) (dss1 (ds_raise R_BadThing (hr.mono (by decide)) rfl tk (dv 2))) dss0)
      (dss (ds_setF ok_fld_place 0 T.oc T.fr_place (dv 1))
      (dss (ds_setF ok_fld_thing 0 T.oc T.fr_thing (dv 2))
      (dss (ds_setF ok_fld_kind 0 T.oc T.fr_kind (de_at rfl (dv 1) de_int))
      (dss1 (ds_setF ok_fld_name 0 T.oc T.fr_name (de_at rfl (dv 1) (de_sub (de_len rfl (dv 1) T.b_len) de_int)))))))))
theorem sc_Addition_eq : FnScope ["self", "other"] ["self", "other"] (defScope s_Addition_eq) := ⟨rfl, rfl, rfl, by decide +kernel, rfl, by decide +kernel, by decide +kernel⟩
theorem ok_Addition_eq {fa : Addr} {fd : FuncData} (Fd : Fun K "__eq__" "Addition.__eq__" s_Addition_eq fa fd) (T : Txt w K mg cs es A_Addition A_AlreadyThere A_BadAddition A_BadPlace A_BadThing A_NamesError)  : FnOk P w K mg base (L2.CX P w) 1 fa fd ["self", "other"] (spOf (bxOf K cs es) 2 F_Addition_eq) :=
  fn_ok (m := m_Addition_eq) (n := 0) Fd sc_Addition_eq rfl (by decide) fun cdv A outer s H E hr tk po =>
    (dss1 (ds_ret (de_and (de_isG (.own _) rfl T.oc T.is_Addition (pe_glob (v := .ref A_Addition) rfl T.g_Addition rfl) (dv 1) T.b_isinstance) (de_and (de_cmp (op_eqD (hu64 hr)) (p_eq rfl) (de_fld T.oc T.fr_place (dv 0)) (de_fld T.oc T.fr_place (dv 1)) (nomark _)) (de_one (de_cmp (op_eqD (hu64 hr)) (p_eq rfl) (de_fld T.oc T.fr_thing (dv 0)) (de_fld T.oc T.fr_thing (dv 1)) (nomark _)))))))
theorem sc_check_fit : FnScope ["earlier", "addition", "other"] ["earlier", "addition"] (defScope s_check_fit) := ⟨rfl, rfl, rfl, by decide +kernel, rfl, by decide +kernel, by decide +kernel⟩
theorem ok_check_fit {fa : Addr} {fd : FuncData} (Fd : Fun K "check_fit" "check_fit" s_check_fit fa fd) (T : Txt w K mg cs es A_Addition A_AlreadyThere A_BadAddition A_BadPlace A_BadThing A_NamesError) (R_AlreadyThere : Rai P w K mg base (bxOf K cs es) "AlreadyThere" "AlreadyThere") (R_BadThing : Rai P w K mg base (bxOf K cs es) "BadThing" "BadThing") : FnOk P w K mg base (L2.CX P w) 3 fa fd ["earlier", "addition"] (spOf (bxOf K cs es) 2 F_check_fit) :=
  fn_ok (m := m_check_fit) (n := 1) Fd sc_check_fit rfl (by decide) fun cdv A outer s H E hr tk po =>
    (dss (ds_if (dt_val rfl (de_any rfl rfl (de_o (do_lc rfl sc_check_fit.nd (di_seq rfl (dv 0)) (blk_ok (N := ["earlier", "addition", "other"]) (sc := defScope s_check_fit) (own := [("other", 2)]) rfl rfl (by decide +kernel)) (fun _ _ _ _ _ => (dg_n 2 sc_check_fit.nd)) (fun _ _ _ _ _ => dts0) (fun _ _ _ _ _ => (de_cmp (op_eqD (hu64 hr)) (p_eq rfl) (de_fld T.oc T.fr_place (dv 1)) (de_fld T.oc T.fr_place (dv 2)) (nomark _))) (by decide))) T.b_any)) (dss1 (ds_raise R_AlreadyThere (hr.mono (by decide)) rfl tk (de_fld T.oc T.fr_place (dv 1)))) dss0)
      (dss1 (ds_if (dt_val rfl (de_any rfl rfl (de_o (do_lc rfl sc_check_fit.nd (di_seq rfl (dv 0)) (blk_ok (N := ["earlier", "addition", "other"]) (sc := defScope s_check_fit) (own := [("other", 2)]) rfl rfl (by decide +kernel)) (fun _ _ _ _ _ => (dg_n 2 sc_check_fit.nd)) (fun _ _ _ _ _ => dts0) (fun _ _ _ _ _ => (de_cmp (op_eqD (hu64 hr)) (p_eq rfl) (de_fld T.oc T.fr_thing (dv 1)) (de_fld T.oc T.fr_thing (dv 2)) (nomark _))) (by decide))) T.b_any)) (dss1 (ds_raise R_BadThing (hr.mono (by decide)) rfl tk (de_fld T.oc T.fr_thing (dv 1)))) dss0)))
theorem sc_unlike_rows : FnScope ["additions", "found", "addition"] ["additions"] (defScope s_unlike_rows) := ⟨rfl, rfl, rfl, by decide +kernel, rfl, by decide +kernel, by decide +kernel⟩
theorem ok_unlike_rows {fa : Addr} {fd : FuncData} (Fd : Fun K "unlike_rows" "unlike_rows" s_unlike_rows fa fd) (T : Txt w K mg cs es A_Addition A_AlreadyThere A_BadAddition A_BadPlace A_BadThing A_NamesError) (C_check_fit : Cal P w K mg base (bxOf K cs es) "check_fit" 3 ["earlier", "addition"] F_check_fit) (T_t_eq_Addition : ∀ c f, t_eq_Addition c = some f → EqC P w K mg base (bxOf K cs es) c 1 f) : FnOk P w K mg base (L2.CX P w) 4 fa fd ["additions"] (spOf (bxOf K cs es) 1 F_unlike_rows) :=
  fn_ok (m := m_unlike_rows) (n := 2) Fd sc_unlike_rows rfl (by decide) fun cdv A outer s H E hr tk po =>
    (dss (ds_set 1 sc_unlike_rows.nd (de_tup da0))
      (dss (ds_for po rfl (di_seq rfl (dv 0)) (dg_n 2 sc_unlike_rows.nd) (dss_w [false, false, true] (dss1 (ds_if (dt_cmp (OpR.or (op_notInX (hu65 hr)) (op_notInE rfl T.oc T.kls.inj T_t_eq_Addition (hr.mono (by decide)))) (p_inE rfl T.ap (p_notIn rfl)) (dv 2) (dv 1) rfl) (dss (ds_expr (dc (ps := ["earlier", "addition"]) C_check_fit (hr.mono (by decide)) tk (da (dv 1) (da (dv 2) da0))))
      (dss1 (ds_set 1 sc_unlike_rows.nd (de_tup (das rfl (dv 1) (da (dv 2) da0)))))) dss0))))
      (dss1 (ds_retV 1))))
theorem sc_Several_init : FnScope ["self", "additions", "value"] ["self", "additions"] (defScope s_Several_init) := ⟨rfl, rfl, rfl, by decide +kernel, rfl, by decide +kernel, by decide +kernel⟩
theorem ok_Several_init {fa : Addr} {fd : FuncData} (Fd : Fun K "__init__" "Several.__init__" s_Several_init fa fd) (T : Txt w K mg cs es A_Addition A_AlreadyThere A_BadAddition A_BadPlace A_BadThing A_NamesError) (C_unlike_rows : Cal P w K mg base (bxOf K cs es) "unlike_rows" 4 ["additions"] F_unlike_rows) (R_BadAddition : Rai P w K mg base (bxOf K cs es) "BadAddition" "BadAddition") : FnR P w K mg base (L2.CX P w) 5 fa (spSt (bxOf K cs es) F_Several_init) :=
  fnSt_ok (m := m_Several_init) (n := 1) Fd sc_Several_init rfl (fun _ _ _ _ _ _ _ => rfl) (fun _ _ _ _ _ _ _ _ _ => rfl) fun cdv A outer s H E hr tk po =>
    (dss (ds_for po rfl (di_seq rfl (dv 1)) (dg_n 2 sc_Several_init.nd) (dss_w [false, false, true] (dss1 (ds_if (dt_not (dt_val rfl (de_isG (.own _) rfl T.oc T.is_Addition (pe_glob (v := .ref A_Addition) rfl T.g_Addition rfl) (dv 2) T.b_isinstance))) (dss1 (ds_raise R_BadAddition (hr.mono (by decide)) rfl tk (dv 2))) dss0))))
      (dss1 (ds_setF ok_fld_kept 0 T.oc T.fr_kept (dc (ps := ["additions"]) C_unlike_rows (hr.mono (by decide)) tk (da (dv 1) da0)))))
theorem sc_Several_additions : FnScope ["self"] ["self"] (defScope s_Several_additions) := ⟨rfl, rfl, rfl, by decide +kernel, rfl, by decide +kernel, by decide +kernel⟩
theorem ok_Several_additions {fa : Addr} {fd : FuncData} (Fd : Fun K "additions" "Several.additions" s_Several_additions fa fd) (T : Txt w K mg cs es A_Addition A_AlreadyThere A_BadAddition A_BadPlace A_BadThing A_NamesError)  : FnOk P w K mg base (L2.CX P w) 1 fa fd ["self"] (spOf (bxOf K cs es) 1 F_Several_additions) :=
  fn_ok (m := m_Several_additions) (n := 0) Fd sc_Several_additions rfl (by decide) fun cdv A outer s H E hr tk po =>
    (dss1 (ds_ret (de_fld T.oc T.fr_kept (dv 0))))
theorem sc_Several_len : FnScope ["self"] ["self"] (defScope s_Several_len) := ⟨rfl, rfl, rfl, by decide +kernel, rfl, by decide +kernel, by decide +kernel⟩
theorem ok_Several_len {fa : Addr} {fd : FuncData} (Fd : Fun K "__len__" "Several.__len__" s_Several_len fa fd) (T : Txt w K mg cs es A_Addition A_AlreadyThere A_BadAddition A_BadPlace A_BadThing A_NamesError)  : FnOk P w K mg base (L2.CX P w) 1 fa fd ["self"] (spOf (bxOf K cs es) 1 F_Several_len) :=
  fn_ok (m := m_Several_len) (n := 0) Fd sc_Several_len rfl (by decide) fun cdv A outer s H E hr tk po =>
    (dss1 (ds_ret (de_len rfl (de_fld T.oc T.fr_kept (dv 0)) T.b_len)))
theorem sc_law_pool_of : FnScope ["_law_script", "_law_k", "_law_cell", "_law_size", "_law_mixed"] ["_law_script", "_law_k"] (defScope s_law_pool_of) := ⟨rfl, rfl, rfl, by decide +kernel, rfl, by decide +kernel, by decide +kernel⟩
theorem ok_law_pool_of {fa : Addr} {fd : FuncData} (Fd : Fun K "_law_pool_of" "_law_pool_of" s_law_pool_of fa fd) (T : Txt w K mg cs es A_Addition A_AlreadyThere A_BadAddition A_BadPlace A_BadThing A_NamesError)  : FnOk P w K mg base (L2.CX P w) 1 fa fd ["_law_script", "_law_k"] (spOf (bxOf K cs es) 2 F_law_pool_of) :=
  fn_ok (m := m_law_pool_of) (n := 3) Fd sc_law_pool_of rfl (by decide) fun cdv A outer s H E hr tk po =>
    (dss (ds_set 2 sc_law_pool_of.nd (de_if (dt_cmp op_lt p_lt (dv 1) (de_len rfl (dv 0) T.b_len) (nomark _)) (de_at rfl (dv 0) (dv 1)) (de_add rfl (de_mulI de_int (de_sum rfl rfl (de_sl rfl (dv 0) dp0 (dp1 de_int)) T.b_sum)) (dv 1))))
      (dss (ds_set 3 sc_law_pool_of.nd (de_abs (dv 2) T.b_abs))
      (dss (ds_set 4 sc_law_pool_of.nd (de_add rfl (de_add rfl (de_add rfl (de_mod (de_int1 (dv 3) T.b_int) de_int) (de_mulI (de_mulI de_int (dv 1)) (dv 1))) (de_mulI de_int (dv 1))) de_int))
      (dss (ds_set 4 sc_law_pool_of.nd (de_mod (de_int1 (de_mulI (dv 4) de_int) T.b_int) de_int))
      (dss1 (ds_retO (do_lst (da (de_mulI (dv 3) (de_int1 (de_cmp op_ge p_ge (dv 3) (de_pow de_int de_int) (nomark _)) T.b_int)) (da (de_mod (de_int1 (de_mulI (dv 4) (dv 4)) T.b_int) de_int) da0)))))))))
theorem sc_law_draw : FnScope ["_law_pool", "_law_many", "_law_found"] ["_law_pool", "_law_many"] (defScope s_law_draw) := ⟨rfl, rfl, rfl, by decide +kernel, rfl, by decide +kernel, by decide +kernel⟩
theorem ok_law_draw {fa : Addr} {fd : FuncData} (Fd : Fun K "_law_draw" "_law_draw" s_law_draw fa fd) (T : Txt w K mg cs es A_Addition A_AlreadyThere A_BadAddition A_BadPlace A_BadThing A_NamesError)  : FnOk P w K mg base (L2.CX P w) 1 fa fd ["_law_pool", "_law_many"] (spOf (bxOf K cs es) 2 F_law_draw) :=
  fn_ok (m := m_law_draw) (n := 1) Fd sc_law_draw rfl (by decide) fun cdv A outer s H E hr tk po =>
    (dss (ds_if (dt_cmp op_gt p_gt (de_at rfl (dv 0) de_int) de_int (nomark _)) (dss (ds_set 2 sc_law_draw.nd (de_mod (de_int1 (de_at rfl (dv 0) de_int) T.b_int) (dv 1)))
      (dss (ds_putAt 0 de_int (de_fdiv (de_at rfl (dv 0) de_int) (dv 1)))
      (dss1 (ds_retV 2)))) dss0)
      (dss (ds_putAt 0 de_int (de_mod (de_int1 (de_add rfl (de_mulI (de_at rfl (dv 0) de_int) de_int) de_int) T.b_int) de_int))
      (dss1 (ds_ret (de_mod (de_int1 (de_fdiv (de_mod (de_mulI (de_at rfl (dv 0) de_int) (de_at rfl (dv 0) de_int)) de_int) de_int) T.b_int) (dv 1))))))
theorem sc_law_pick : FnScope ["_law_pool", "_law_row"] ["_law_pool", "_law_row"] (defScope s_law_pick) := ⟨rfl, rfl, rfl, by decide +kernel, rfl, by decide +kernel, by decide +kernel⟩
theorem ok_law_pick {fa : Addr} {fd : FuncData} (Fd : Fun K "_law_pick" "_law_pick" s_law_pick fa fd) (T : Txt w K mg cs es A_Addition A_AlreadyThere A_BadAddition A_BadPlace A_BadThing A_NamesError) (C_law_draw : Cal P w K mg base (bxOf K cs es) "_law_draw" 1 ["_law_pool", "_law_many"] F_law_draw) : FnOk P w K mg base (L2.CX P w) 2 fa fd ["_law_pool", "_law_row"] (spOf (bxOf K cs es) 2 F_law_pick) :=
  fn_ok (m := m_law_pick) (n := 0) Fd sc_law_pick rfl (by decide) fun cdv A outer s H E hr tk po =>
    (dss1 (ds_ret (de_at rfl (dv 1) (dcM [true, false] C_law_draw (hr.mono (by decide)) tk (da (dv 0) (da (de_len rfl (dv 1) T.b_len) da0))))))
theorem sc_law_drawn_addition : FnScope ["_law_pool", "_law_names", "_law_places"] ["_law_pool"] (defScope s_law_drawn_addition) := ⟨rfl, rfl, rfl, by decide +kernel, rfl, by decide +kernel, by decide +kernel⟩
theorem ok_law_drawn_addition {fa : Addr} {fd : FuncData} (Fd : Fun K "_law_drawn_addition" "_law_drawn_addition" s_law_drawn_addition fa fd) (T : Txt w K mg cs es A_Addition A_AlreadyThere A_BadAddition A_BadPlace A_BadThing A_NamesError) (C_law_pick : Cal P w K mg base (bxOf K cs es) "_law_pick" 2 ["_law_pool", "_law_row"] F_law_pick) : FnOk P w K mg base (L2.CX P w) 3 fa fd ["_law_pool"] (spOf (bxOf K cs es) 1 F_law_drawn_addition) :=
  fn_ok (m := m_law_drawn_addition) (n := 2) Fd sc_law_drawn_addition rfl (by decide) fun cdv A outer s H E hr tk po =>
    (dss (ds_set 1 sc_law_drawn_addition.nd (de_o (do_lst (da (de_str ⟨by decide +kernel, by decide +kernel⟩) (da (de_str ⟨by decide +kernel, by decide +kernel⟩) (da (de_str ⟨by decide +kernel, by decide +kernel⟩) da0))))))
      (dss (ds_setO 2 sc_law_drawn_addition.nd (do_lst (da (de_tup (da (de_str ⟨by decide +kernel, by decide +kernel⟩) (da (de_str ⟨by decide +kernel, by decide +kernel⟩) (da (dcM [true, false] C_law_pick (hr.mono (by decide)) tk (da (dv 0) (da (dv 1) da0))) da0)))) (da (de_tup (da (de_str ⟨by decide +kernel, by decide +kernel⟩) (da (de_str ⟨by decide +kernel, by decide +kernel⟩) (da (dcM [true, false] C_law_pick (hr.mono (by decide)) tk (da (dv 0) (da (dv 1) da0))) da0)))) da0))))
      (dss (ds_append 2 (de_tup (da (de_str ⟨by decide +kernel, by decide +kernel⟩) (da (de_str ⟨by decide +kernel, by decide +kernel⟩) (da (de_str ⟨by decide +kernel, by decide +kernel⟩) (da (dcM [true, false] C_law_pick (hr.mono (by decide)) tk (da (dv 0) (da (dv 1) da0))) da0))))))
      (dss1 (ds_ret (de_tup (da (dcM [true, false] C_law_pick (hr.mono (by decide)) tk (da (dv 0) (da (dv 2) da0))) (da (dcM [true, false] C_law_pick (hr.mono (by decide)) tk (da (dv 0) (da (de_o (do_lst (da de_int (da de_int (da de_int (da (de_pow de_int de_int) da0)))))) da0))) da0))))))))
theorem sc_law_due_of : FnScope ["_law_rows", "_law_found", "_law_place", "_law_thing", "_law_row"] ["_law_rows"] (defScope s_law_due_of) := ⟨rfl, rfl, rfl, by decide +kernel, rfl, by decide +kernel, by decide +kernel⟩
theorem ok_law_due_of {fa : Addr} {fd : FuncData} (Fd : Fun K "_law_due_of" "_law_due_of" s_law_due_of fa fd) (T : Txt w K mg cs es A_Addition A_AlreadyThere A_BadAddition A_BadPlace A_BadThing A_NamesError)  : FnOk P w K mg base (L2.CX P w) 1 fa fd ["_law_rows"] (spOf (bxOf K cs es) 1 F_law_due_of) :=
  fn_ok (m := m_law_due_of) (n := 4) Fd sc_law_due_of rfl (by decide) fun cdv A outer s H E hr tk po =>
    (dss (ds_setO 1 sc_law_due_of.nd (do_lst da0))
      (dss (ds_for po rfl (di_seq rfl (dv 0)) (dg_t rfl rfl (dgs (dg_n 2 sc_law_due_of.nd) (dgs (dg_n 3 sc_law_due_of.nd) dgs0))) (dss_w [false, false, true, true] (dss1 (ds_if (dt_cmp (op_notInX (hu65 hr)) (p_notIn rfl) (de_tup (da (dv 2) (da (dv 3) da0))) (dv 1) rfl) (dss (ds_if (dt_cmp (op_inX (hu65 hr)) (p_in rfl) (dv 2) (de_o (do_lco 1 rfl sc_law_due_of.nd rfl  (blk_ok (N := ["_law_rows", "_law_found", "_law_place", "_law_thing", "_law_row"]) (sc := defScope s_law_due_of) (own := [("_law_row", 4)]) rfl rfl (by decide +kernel)) (fun _ _ _ _ _ => (dg_n 4 sc_law_due_of.nd)) (fun _ _ _ _ _ => dts0) (fun _ _ _ _ _ => (de_at rfl (dv 4) de_int)) (by decide))) rfl) (dss1 (ds_retO (do_lst (da (de_str ⟨by decide +kernel, by decide +kernel⟩) (da (dv 2) da0))))) dss0)
      (dss (ds_if (dt_cmp (op_inX (hu65 hr)) (p_in rfl) (dv 3) (de_o (do_lco 1 rfl sc_law_due_of.nd rfl  (blk_ok (N := ["_law_rows", "_law_found", "_law_place", "_law_thing", "_law_row"]) (sc := defScope s_law_due_of) (own := [("_law_row", 4)]) rfl rfl (by decide +kernel)) (fun _ _ _ _ _ => (dg_n 4 sc_law_due_of.nd)) (fun _ _ _ _ _ => dts0) (fun _ _ _ _ _ => (de_at rfl (dv 4) de_int)) (by decide))) rfl) (dss1 (ds_retO (do_lst (da (de_str ⟨by decide +kernel, by decide +kernel⟩) (da (dv 3) da0))))) dss0)
      (dss1 (ds_append 1 (de_tup (da (dv 2) (da (dv 3) da0))))))) dss0))))
      (dss1 (ds_retO (do_lst (da (de_str ⟨by decide +kernel, by decide +kernel⟩) (da (de_tupOf rfl (dv 1) T.b_tuple) da0)))))))
theorem sc_law_made_several : FnScope ["_law_values"] ["_law_values"] (defScope s_law_made_several) := ⟨rfl, rfl, rfl, by decide +kernel, rfl, by decide +kernel, by decide +kernel⟩
theorem ok_law_made_several {fa : Addr} {fd : FuncData} (Fd : Fun K "_law_made_several" "_law_made_several" s_law_made_several fa fd) (T : Txt w K mg cs es A_Addition A_AlreadyThere A_BadAddition A_BadPlace A_BadThing A_NamesError) (S_Several : MakSt P w K mg base (bxOf K cs es) "Several" "Several" 5 F_Several_init) : FnOk P w K mg base (L2.CX P w) 7 fa fd ["_law_values"] (spOf (bxOf K cs es) 1 F_law_made_several) :=
  fn_ok (m := m_law_made_several) (n := 0) Fd sc_law_made_several rfl (by decide) fun cdv A outer s H E hr tk po =>
    (dss (ds_if (dt_cmp (OpR.or (op_eqD (hu64 hr)) (op_eqLen (hu64 hr))) (p_eqLen rfl) (dv 0) (de_o (do_lst da0)) (nomark _)) (dss1 (ds_retO (do_makeSt0 S_Several (hr.mono (by decide)) tk))) dss0)
      (dss (ds_if (dt_cmp (op_eqD (hu64 hr)) (p_eq rfl) (de_len rfl (dv 0) T.b_len) de_int (nomark _)) (dss1 (ds_retO (do_makeSt S_Several (hr.mono (by decide)) tk (da (de_at rfl (dv 0) de_int) da0)))) dss0)
      (dss (ds_if (dt_cmp (op_eqD (hu64 hr)) (p_eq rfl) (de_len rfl (dv 0) T.b_len) de_int (nomark _)) (dss1 (ds_retO (do_makeSt S_Several (hr.mono (by decide)) tk (da (de_at rfl (dv 0) de_int) (da (de_at rfl (dv 0) de_int) da0))))) dss0)
      (dss (ds_if (dt_cmp (op_eqD (hu64 hr)) (p_eq rfl) (de_len rfl (dv 0) T.b_len) de_int (nomark _)) (dss1 (ds_retO (do_makeSt S_Several (hr.mono (by decide)) tk (da (de_at rfl (dv 0) de_int) (da (de_at rfl (dv 0) de_int) (da (de_at rfl (dv 0) de_int) da0)))))) dss0)
      (dss (ds_if (dt_cmp (op_eqD (hu64 hr)) (p_eq rfl) (de_len rfl (dv 0) T.b_len) de_int (nomark _)) (dss1 (ds_retO (do_makeSt S_Several (hr.mono (by decide)) tk (da (de_at rfl (dv 0) de_int) (da (de_at rfl (dv 0) de_int) (da (de_at rfl (dv 0) de_int) (da (de_at rfl (dv 0) de_int) da0))))))) dss0)
      (dss (ds_if (dt_cmp (op_eqD (hu64 hr)) (p_eq rfl) (de_len rfl (dv 0) T.b_len) de_int (nomark _)) (dss1 (ds_retO (do_makeSt S_Several (hr.mono (by decide)) tk (da (de_at rfl (dv 0) de_int) (da (de_at rfl (dv 0) de_int) (da (de_at rfl (dv 0) de_int) (da (de_at rfl (dv 0) de_int) (da (de_at rfl (dv 0) de_int) da0)))))))) dss0)
      (dss1 (ds_retO (do_makeSt S_Several (hr.mono (by decide)) tk (da (de_at rfl (dv 0) de_int) (da (de_at rfl (dv 0) de_int) (da (de_at rfl (dv 0) de_int) (da (de_at rfl (dv 0) de_int) (da (de_at rfl (dv 0) de_int) (da (de_at rfl (dv 0) de_int) da0)))))))))))))))
theorem sc_law_answer : FnScope ["_law_values", "_law_several", "_law_told", "_law_one", "e"] ["_law_values"] (defScope s_law_answer) := ⟨rfl, rfl, rfl, by decide +kernel, rfl, by decide +kernel, by decide +kernel⟩
theorem ok_law_answer {fa : Addr} {fd : FuncData} (Fd : Fun K "_law_answer" "_law_answer" s_law_answer fa fd) (T : Txt w K mg cs es A_Addition A_AlreadyThere A_BadAddition A_BadPlace A_BadThing A_NamesError) (C_law_made_several : Cal P w K mg base (bxOf K cs es) "_law_made_several" 7 ["_law_values"] F_law_made_several) (T_t_pr_additions_Several : ∀ c f, t_pr_additions_Several c = some f → PrC P w K mg base (bxOf K cs es) c "additions" 1 f) (T_t_ln_Several : ∀ c f, t_ln_Several c = some f → SpC P w K mg base (bxOf K cs es) c "__len__" 1 1 f) : FnG P w K mg base 8 fa fd ["_law_values"] (spOf (bxOf K cs es) 1 F_law_answer) :=
  fn_okG (m := m_law_answer) (n := 4) Fd sc_law_answer rfl (by decide) fun cdv A outer s H E hr gd tk po =>
    (dss (ds_try rfl rfl sc_law_answer.nd tk (fun W pn xe tk => (dss (ds_set 1 sc_law_answer.nd (dc (ps := ["_law_values"]) C_law_made_several (hr.mono (by decide)) tk (da (dv 0) da0)))
      (dss1 (ds_set 2 sc_law_answer.nd (de_atO T_t_pr_additions_Several (hr.mono (by decide)) T.oc T.fr_additions (dv 1)))))) (.cons ⟨rfl, by decide, .inl T.g_AlreadyThere⟩ rfl rfl T.cs_AlreadyThere (fun a oe cls dx pn hz hf => xs_retO (m := fun c d => mLst (mA (mC (.str "place")) (mA (mXf xf_place "place" c d) mA0))) fun C dd e1 e2 c d => by subst e1; subst e2; exact (xo_lst (xa (fun _ _ _ l h => h.mono l) (xp_of (de_str ⟨by decide +kernel, by decide +kernel⟩)) (xa (fun _ _ _ l h => h.mono l) (xp_f hz hf T.xf_place) xa0)))) (.cons ⟨rfl, by decide, .inl T.g_BadThing⟩ rfl rfl T.cs_BadThing (fun a oe cls dx pn hz hf => xs_retO (m := fun c d => mLst (mA (mC (.str "thing")) (mA (mXf xf_thing "thing" c d) mA0))) fun C dd e1 e2 c d => by subst e1; subst e2; exact (xo_lst (xa (fun _ _ _ l h => h.mono l) (xp_of (de_str ⟨by decide +kernel, by decide +kernel⟩)) (xa (fun _ _ _ l h => h.mono l) (xp_f hz hf T.xf_thing) xa0)))) (.cons ⟨rfl, by decide, .inl T.g_BadAddition⟩ rfl rfl T.cs_BadAddition (fun a oe cls dx pn hz hf => xs_retO (m := fun c d => mLst (mA (mC (.str "value")) (mA (mD (mB1 dRepr (mXf xf_value "value" c d))) mA0))) fun C dd e1 e2 c d => by subst e1; subst e2; exact (xo_lst (xa (fun _ _ _ l h => h.mono l) (xp_of (de_str ⟨by decide +kernel, by decide +kernel⟩)) (xa (fun _ _ _ l h => h.mono l) (xp_repr gd (hu70S hr) rfl (xp_f hz hf T.xf_value) T.b_repr) xa0)))) (.cons ⟨rfl, by decide, .inl T.g_NamesError⟩ rfl rfl T.cs_NamesError (fun a oe cls dx pn hz hf => xs_retO (m := fun c d => mLst mA0) fun C dd e1 e2 c d => by subst e1; subst e2; exact (xo_lst xa0)) HL.nil)))))
      (dss (ds_if (dt_w (dw_or (dt_not (dt_val rfl (de_isi kTuple rfl (dv 2) T.b_isinstance T.b_tuple (by decide +kernel)))) (dw_or1 (dt_cmp (op_neD (hu64 hr)) (p_ne rfl) (de_lenO (hr.mono (by decide)) rfl T_t_ln_Several (dv 1) T.b_len) (de_len rfl (dv 2) T.b_len) (nomark _))))) (dss1 (ds_retO (do_lst da0))) dss0)
      (dss1 (ds_retO (do_lst (da (de_str ⟨by decide +kernel, by decide +kernel⟩) (da (de_tupOf rfl (de_o (do_lc rfl sc_law_answer.nd (di_seq rfl (dv 2)) (blk_ok (N := ["_law_values", "_law_several", "_law_told", "_law_one", "e"]) (sc := defScope s_law_answer) (own := [("_law_one", 3)]) rfl rfl (by decide +kernel)) (fun _ _ _ _ _ => (dg_n 3 sc_law_answer.nd)) (fun _ _ _ _ _ => dts0) (fun _ _ _ _ _ => (de_tup (da (de_fld T.oc T.fr_place (dv 3)) (da (de_fld T.oc T.fr_thing (dv 3)) da0)))) (by decide))) T.b_tuple) da0)))))))
theorem sc_law : FnScope ["_law_script", "_law_pool", "_law_rows", "_law_values", "_law_due", "_law_strange", "_law_k", "_law_at", "_law_value", "_law_place", "_law_thing"] ["_law_script"] (defScope s_law) := ⟨rfl, rfl, rfl, by decide +kernel, rfl, by decide +kernel, by decide +kernel⟩
theorem ok_law {fa : Addr} {fd : FuncData} (Fd : Fun K "law" "law" s_law fa fd) (T : Txt w K mg cs es A_Addition A_AlreadyThere A_BadAddition A_BadPlace A_BadThing A_NamesError) (C_law_pool_of : Cal P w K mg base (bxOf K cs es) "_law_pool_of" 1 ["_law_script", "_law_k"] F_law_pool_of) (C_law_draw : Cal P w K mg base (bxOf K cs es) "_law_draw" 1 ["_law_pool", "_law_many"] F_law_draw) (C_law_drawn_addition : Cal P w K mg base (bxOf K cs es) "_law_drawn_addition" 3 ["_law_pool"] F_law_drawn_addition) (C_law_due_of : Cal P w K mg base (bxOf K cs es) "_law_due_of" 1 ["_law_rows"] F_law_due_of) (C_law_pick : Cal P w K mg base (bxOf K cs es) "_law_pick" 2 ["_law_pool", "_law_row"] F_law_pick) (C_law_answer : CalG P w K mg base (bxOf K cs es) "_law_answer" 8 ["_law_values"] F_law_answer) (N_Addition : Mak P w K mg base (bxOf K cs es) "Addition" "Addition" 3 ["place", "thing"] F_Addition_init) : FnG P w K mg base 9 fa fd ["_law_script"] (spOf (bxOf K cs es) 1 F_law) :=
  fn_okG (m := m_law) (n := 10) Fd sc_law rfl (by decide) fun cdv A outer s H E hr gd tk po =>
    (dss (ds_setO 1 sc_law.nd (oc (ps := ["_law_script", "_law_k"]) C_law_pool_of (hr.mono (by decide)) tk (da (dv 0) (da de_int da0))))
      (dss (ds_setLc 2 rfl sc_law.nd (di_range1 (dcM [true, false] C_law_draw (hr.mono (by decide)) tk (da (dv 1) (da de_int da0))) T.b_range) (blk_ok (N := ["_law_script", "_law_pool", "_law_rows", "_law_values", "_law_due", "_law_strange", "_law_k", "_law_at", "_law_value", "_law_place", "_law_thing"]) (sc := defScope s_law) (own := [("_law_k", 6)]) rfl rfl (by decide +kernel)) (fun _ _ _ _ _ => (dg_n 6 sc_law.nd)) (fun _ _ _ _ _ => dts0) (fun _ _ _ _ _ => (dcT (q0 := "_law_pool") (ps := []) C_law_drawn_addition (hr.mono (by decide)) takes0 (oc (ps := ["_law_script", "_law_k"]) C_law_pool_of (hr.mono (by decide)) takes0 (da (dv 0) (da (de_add rfl de_int (dv 6)) da0))) da0)) (by decide) (sw_true rfl rfl rfl (by decide +kernel)))
      (dss (ds_par2O 3 4 rfl sc_law.nd (do_lc rfl sc_law.nd (di_seq rfl (dv 2)) (blk_ok (N := ["_law_script", "_law_pool", "_law_rows", "_law_values", "_law_due", "_law_strange", "_law_k", "_law_at", "_law_value", "_law_place", "_law_thing"]) (sc := defScope s_law) (own := [("_law_place", 9), ("_law_thing", 10)]) rfl rfl (by decide +kernel)) (fun _ _ _ _ _ => (dg_t rfl rfl (dgs (dg_n 9 sc_law.nd) (dgs (dg_n 10 sc_law.nd) dgs0)))) (fun _ _ _ _ _ => dts0) (fun _ _ _ _ _ => (de_o (do_make (ps := ["place", "thing"]) N_Addition (hr.mono (by decide)) takes0 (da (dv 9) (da (dv 10) da0))))) (by decide)) (dc (ps := ["_law_rows"]) C_law_due_of (hr.mono (by decide)) tk (da (dv 2) da0)))
      (dss (ds_if (dt_w (dw_and (dt_cmp (op_neD (hu64 hr)) (p_ne rfl) (dv 2) (de_o (do_lst da0)) (nomark _)) (dw_and1 (dt_cmp (op_eqD (hu64 hr)) (p_eq rfl) (dcM [true, false] C_law_draw (hr.mono (by decide)) tk (da (dv 1) (da de_int da0))) de_int (nomark _))))) (dss (ds_set 5 sc_law.nd (de_o (do_lst (da de_non (da de_int (da (de_str ⟨by decide +kernel, by decide +kernel⟩) (da (de_tup (da (de_str ⟨by decide +kernel, by decide +kernel⟩) (da (de_str ⟨by decide +kernel, by decide +kernel⟩) (da (de_str ⟨by decide +kernel, by decide +kernel⟩) da0)))) (da (de_o (do_lst da0)) (da (de_tup (da (de_tup (da (de_str ⟨by decide +kernel, by decide +kernel⟩) (da (de_str ⟨by decide +kernel, by decide +kernel⟩) (da (de_str ⟨by decide +kernel, by decide +kernel⟩) da0)))) (da de_int da0))) da0)))))))))
      (dss (ds_par2 7 8 rfl sc_law.nd (da (dcM [true, false] C_law_draw (hr.mono (by decide)) tk (da (dv 1) (da (de_len rfl (dv 2) T.b_len) da0))) (da (dcM [true, false] C_law_pick (hr.mono (by decide)) tk (da (dv 1) (da (dv 5) da0))) da0)))
      (dss (ds_putAt 3 (dv 7) (dv 8))
      (dss (ds_set 4 sc_law.nd (de_o (do_lst (da (de_str ⟨by decide +kernel, by decide +kernel⟩) (da (de_repr gd (hu70 hr) rfl (dv 8) T.b_repr) da0)))))
      (dss1 (ds_if (dt_w (dw_and (dt_cmp (op_eqD (hu64 hr)) (p_eq rfl) (dcM [true, false] C_law_draw (hr.mono (by decide)) tk (da (dv 1) (da de_int da0))) de_int (nomark _)) (dw_and1 (dt_cmp op_gt p_gt (dv 7) de_int (nomark _))))) (dss (ds_putAt 3 (de_sub (dv 7) de_int) de_bl)
      (dss1 (ds_set 4 sc_law.nd (de_o (do_lst (da (de_str ⟨by decide +kernel, by decide +kernel⟩) (da (de_str ⟨by decide +kernel, by decide +kernel⟩) da0))))))) dss0)))))) dss0)
      (dss1 (ds_ret (de_cmp (op_eqD (hu64 hr)) (p_eq rfl) (dcG (ps := ["_law_values"]) C_law_answer (hr.mono (by decide)) gd tk (da (dv 3) da0)) (dv 4) (nomark _))))))))
end
end G

set_option Elab.async false
set_option maxRecDepth 100000
set_option linter.unusedVariables false
set_option linter.unusedSimpArgs false
namespace G
open PySem L2 AN
def Pl (a b : Int) : Prop := 0 ≤ a ∧ 0 ≤ b ∧ b < 2147483647
abbrev pl (a b : Int) : O := .lst [.int a, .int b]
theorem draw_ok {a b n : Int} (h : Pl a b) (h0 : 0 < n) (h1 : n < 18446744073709551616) : ∃ v a' b', F_law_draw [.ow true (pl a b), .fz (.int n)] = .ok (.fz (.int v)) [.ow true (pl a' b'), .fz (.int n)] ∧ 0 ≤ v ∧ v < n ∧ Pl a' b' := by
  obtain ⟨ha, hb, hb'⟩ := h
  by_cases c : 0 < a
  · refine ⟨a % n, a / n, b, ?_, Int.emod_nonneg _ (by omega), Int.emod_lt_of_pos _ h0, Int.ediv_nonneg ha (by omega), hb, hb'⟩
    simp [F_law_draw, runF, m_law_draw, mV, view, dIx, L2.atI, ixN, dI, blOf, c, h0, h1, put, chkL, AN.putAt, intOf, mRetV, outs, dInt]
  · refine ⟨(((b * 48271 + 11) % 2147483647) * ((b * 48271 + 11) % 2147483647) % 2147483629 / 16) % n, a, (b * 48271 + 11) % 2147483647, ?_, Int.emod_nonneg _ (by omega), Int.emod_lt_of_pos _ h0, ha, Int.emod_nonneg _ (by omega), Int.emod_lt_of_pos _ (by omega)⟩
    · have q1 : 0 ≤ (b * 48271 + 11) % 2147483647 := Int.emod_nonneg _ (by omega)
      have q2 : (b * 48271 + 11) % 2147483647 < 2147483647 := Int.emod_lt_of_pos _ (by omega)
      have q3 : -18446744073709551616 < (b * 48271 + 11) % 2147483647 := by omega
      have q4 : (b * 48271 + 11) % 2147483647 < 18446744073709551616 := by omega
      simp [F_law_draw, runF, m_law_draw, mV, view, dIx, L2.atI, ixN, dI, blOf, c, h0, h1, put, chkL, AN.putAt, intOf, mRetV, outs, dInt, dAdd, q3, q4]
theorem draw_at {a b n : Int} {e : AN.Env} {i : Nat} {k : Bool} (h : Pl a b) (h0 : 0 < n) (h1 : n < 18446744073709551616) (he : e[i]? = some (.ow k (pl a b))) : ∃ v a' b', callM [true, false] F_law_draw [.sl i, .d (.int n)] e = .ok (.fz (.int v)) (e.set i (.ow k (pl a' b'))) ∧ 0 ≤ v ∧ v < n ∧ Pl a' b' := by
  obtain ⟨v, a', b', h2, h3, h4, h5⟩ := draw_ok h h0 h1
  refine ⟨v, a', b', callM_ok (by simp [ioS]) (ds := [.non, .int n]) (e1 := e) rfl (args := [.ow true (pl a b), .fz (.int n)]) ?_ h2 ?_, h3, h4, h5⟩
  · simp [mkA, he]
  · simp [back, he]
def isIntD : D → Bool
  | .int _ => true
  | _ => false
theorem integer_ok {d : D} (h : AN.isObj d = false) : F_is_integer [.fz d] = .ok (.fz (.bl (isIntD d))) [.fz d] := by
  cases d <;> first | (simp [F_is_integer, runF, m_is_integer, mV, view, isI, AN.isObj, fInt, fBool, blOf, outs, isIntD]; done) | cases h
def thingD : D → Bool
  | .int i => decide (1 ≤ i) && decide (i ≤ 1000000000)
  | _ => false
theorem call1 {f : Fn} {d z : D} {e : AN.Env} {as : List Slot} (h : f [.fz d] = .ok (.fz z) as) (hs : scalar z = true) : callP 1 f [.d d] e = .ok (.fz z) e := callP_ok rfl (ds := [d]) (e1 := e) rfl h hs
theorem thing_ok {d : D} (h : AN.isObj d = false) : F_is_thing [.fz d] = .ok (.fz (.bl (thingD d))) [.fz d] := by
  have c := fun e => call1 (e := e) (integer_ok h) rfl
  cases d with
  | int i =>
    by_cases h1 : 1 ≤ i <;> simp [F_is_thing, runF, m_is_thing, mV, view, blOf, outs, isIntD, thingD, c, dI, h1]
  | obj _ _ => cases h
  | _ => simp [F_is_thing, runF, m_is_thing, mV, view, blOf, outs, isIntD, thingD, c, dI]
abbrev abc : Str := "abcdefghijklmnopqrstuvwxyz"
def letter (c : Nat) : Bool := decide (c ∈ abc.cps.toList)
def nameS (s : Str) : Bool := decide (1 ≤ s.length) && decide (s.length ≤ 8) && s.cps.toList.all letter
def nameD : D → Bool
  | .str s => nameS s
  | _ => false
theorem name_ok {d : D} (h : AN.isObj d = false) : F_is_name [.fz d] = .ok (.fz (.bl (nameD d))) [.fz d] := by
  cases d with
  | str s =>
    by_cases h1 : (1 : Int) ≤ s.length
    · by_cases h2 : (s.length : Int) ≤ 8
      · have L : lc [1] (gN 1) (M.pure true) (mD (mB2 (dInX false) (mV 1) (mC (.str abc)))) (signs s) [] [.fz (.str s), .no] = .ok (s.cps.toList.map fun c => D.bl (letter c)) [.fz (.str s), .no] := by
          have := lc_map (vs := [1]) (g := gN 1) (me := mD (mB2 (dInX false) (mV 1) (mC (.str abc)))) (e := [.fz (.str s), .no]) (ds := signs s) (acc := []) (f := fun d => match d with
            | .str x => .bl (inStr x abc)
            | d => d) (fun d hd => by
              obtain ⟨c, _, rfl⟩ := List.mem_map.mp hd
              exact ⟨_, [.fz (.str s), .fz (sign c)], rfl, rfl, rfl⟩)
          rw [this]
          simp [signs, sign]
          intro c _
          rfl
        have B : blsOf (s.cps.toList.map fun c => D.bl (letter c)) = some (s.cps.toList.map letter) := by
          rw [← blsOf_map]; simp [Function.comp_def]
        have h3 : (signs s).length ≤ sizeLine := by
          have : (signs s).length = s.length := by simp [signs]; rfl
          rw [this]; have : s.length ≤ 8 := by omega
          exact Nat.le_trans this (by decide)
        have n1 : decide (1 ≤ s.length) = true := decide_eq_true (by omega)
        have n2 : decide (s.length ≤ 8) = true := decide_eq_true (by omega)
        simp [F_is_name, runF, m_is_name, mV, view, isI, AN.isObj, fStr, blOf, dLen, dI, h1, h2, seqOf, h3, wipeE, L, restE, dAll, B, outs, nameD, nameS, n1, n2, Function.comp_def]
      · have n2 : decide (s.length ≤ 8) = false := decide_eq_false (by omega)
        simp [F_is_name, runF, m_is_name, mV, view, isI, AN.isObj, fStr, blOf, dLen, dI, h1, h2, outs, nameD, nameS, n2]
    · have n1 : decide (1 ≤ s.length) = false := decide_eq_false (by omega)
      simp [F_is_name, runF, m_is_name, mV, view, isI, AN.isObj, fStr, blOf, dLen, dI, h1, outs, nameD, nameS, n1]
  | obj _ _ => cases h
  | _ => simp [F_is_name, runF, m_is_name, mV, view, isI, AN.isObj, fStr, blOf, outs, nameD]
theorem atI_mem {α : Type} {xs : List α} {i : Int} (h0 : 0 ≤ i) (h1 : i < xs.length) : ∃ x ∈ xs, L2.atI xs i = some x := by
  unfold L2.atI ixN
  rw [if_pos h0, if_pos h1]
  have : i.toNat < xs.length := by omega
  exact ⟨xs[i.toNat], List.getElem_mem this, by simp [this]⟩
theorem pick_str {a b : Int} {s : Str} (h : Pl a b) (h0 : 0 < s.length) (h1 : s.length < 65536) : ∃ c a' b', F_law_pick [.ow true (pl a b), .fz (.str s)] = .ok (.fz (sign c)) [.ow true (pl a' b'), .fz (.str s)] ∧ c ∈ s.cps.toList ∧ Pl a' b' := by
  obtain ⟨v, a', b', h2, h3, h4, h5⟩ := draw_at (e := [.ow true (pl a b), .fz (.str s)]) (i := 0) (k := true) (n := s.length) h (by omega) (by omega) rfl
  obtain ⟨c, hc, e⟩ := atI_mem (xs := s.cps.toList) h3 (by rw [Array.length_toList]; exact h4)
  refine ⟨c, a', b', ?_, hc, h5⟩
  simp [F_law_pick, runF, m_law_pick, mV, view, dLen, h2, dIx, e, outs]
theorem pick_lst {a b : Int} {s : List D} (h : Pl a b) (h0 : 0 < s.length) (h1 : s.length < 65536) : ∃ c a' b', F_law_pick [.ow true (pl a b), .fz (.lst s)] = .ok (.fz c) [.ow true (pl a' b'), .fz (.lst s)] ∧ c ∈ s ∧ Pl a' b' := by
  obtain ⟨v, a', b', h2, h3, h4, h5⟩ := draw_at (e := [.ow true (pl a b), .fz (.lst s)]) (i := 0) (k := true) (n := s.length) h (by omega) (by omega) rfl
  obtain ⟨c, hc, e⟩ := atI_mem (xs := s) h3 (by simpa using h4)
  refine ⟨c, a', b', ?_, hc, h5⟩
  simp [F_law_pick, runF, m_law_pick, mV, view, dLen, h2, dIx, e, outs]
theorem pick_at {a b : Int} {d : D} {e : AN.Env} {i : Nat} {k : Bool} {c : D} {a' b' : Int} (h : F_law_pick [.ow true (pl a b), .fz d] = .ok (.fz c) [.ow true (pl a' b'), .fz d]) (he : e[i]? = some (.ow k (pl a b))) : callM [true, false] F_law_pick [.sl i, .d d] e = .ok (.fz c) (e.set i (.ow k (pl a' b'))) := by
  refine callM_ok (by simp [ioS]) (ds := [.non, d]) (e1 := e) rfl (args := [.ow true (pl a b), .fz d]) ?_ h ?_
  · simp [mkA, he]
  · simp [back, he]
end G

set_option Elab.async false
set_option maxRecDepth 100000
set_option linter.unusedVariables false
set_option linter.unusedSimpArgs false
namespace G
open PySem L2 AN
theorem intsOf_take {ns : List Int} {n : Nat} : (ns.map D.int).take n = (ns.take n).map D.int := by simp
theorem pool_ok {ns : List Int} {k : Int} (h0 : 0 ≤ k) (h1 : k < 65536) (hl : ns.length ≤ 63) : ∃ a b, F_law_pool_of [.fz (scriptD ns), .fz (.int k)] = .ok (.ow (pl a b)) [.fz (scriptD ns), .fz (.int k)] ∧ Pl a b := by
  have hk1 : -18446744073709551616 < k := by omega
  have hk2 : k < 18446744073709551616 := by omega
  have c1 : cutD (ns.map D.int) none (some 63) = ns.map D.int := by
    have : HT.sIx (ns.map D.int).length (ns.map D.int).length (some 63) = (ns.map D.int).length := by
      simp only [HT.sIx, List.length_map]
      rw [if_neg (by omega)]
      exact Nat.min_eq_right (show ns.length ≤ (63 : Int).toNat by simpa using hl)
    unfold cutD
    rw [this]
    simp [HT.sIx]
    exact List.take_of_length_le (by simp)
  have key : ∀ z : Int, ∃ b, 0 ≤ b ∧ b < 2147483647 ∧ ((z % 2147483629 + 7919 * k * k + 31 * k + 17) * 48271 % 2147483647) * ((z % 2147483629 + 7919 * k * k + 31 * k + 17) * 48271 % 2147483647) % 2147483629 = b := fun z => ⟨_, Int.emod_nonneg _ (by omega), Int.lt_trans (Int.emod_lt_of_pos _ (by omega)) (by omega), rfl⟩
  have m1 : -18446744073709551616 < 7919 * k := by omega
  have m2 : 7919 * k < 18446744073709551616 := by omega
  by_cases hk : k < ns.length
  · have hix : ∃ z, L2.atI (ns.map D.int) k = some (.int z) := by
      unfold L2.atI ixN
      rw [if_pos h0, if_pos (by simpa using hk)]
      have : k.toNat < ns.length := by omega
      exact ⟨ns[k.toNat], by simp [this]⟩
    obtain ⟨z, hz⟩ := hix
    generalize hy : (if z < 0 then -z else z) = y
    have y0 : 0 ≤ y := by rw [← hy]; split <;> omega
    obtain ⟨b, b0, b1, hb⟩ := key y
    have w1 : 0 ≤ (y % 2147483629 + 7919 * k * k + 31 * k + 17) * 48271 % 2147483647 := Int.emod_nonneg _ (by omega)
    have w2 : (y % 2147483629 + 7919 * k * k + 31 * k + 17) * 48271 % 2147483647 < 2147483647 := Int.emod_lt_of_pos _ (by omega)
    have w3 : -18446744073709551616 < (y % 2147483629 + 7919 * k * k + 31 * k + 17) * 48271 % 2147483647 := by omega
    have w4 : (y % 2147483629 + 7919 * k * k + 31 * k + 17) * 48271 % 2147483647 < 18446744073709551616 := by omega
    by_cases big : 1000000000000000000 ≤ y
    · refine ⟨y, b, ?_, y0, b0, b1⟩
      simp [F_law_pool_of, runF, m_law_pool_of, scriptD, mV, view, dSl, intOf, c1, dSum, dI, dAdd, put, hk, h0, dLen, blOf, dIx, hz, dAbs, hy, dInt, hk1, hk2, m1, m2, w3, w4, big, lim, sizeLine, hb, outs]
    · refine ⟨0, b, ?_, Int.le_refl 0, b0, b1⟩
      simp [F_law_pool_of, runF, m_law_pool_of, scriptD, mV, view, dSl, intOf, c1, dSum, dI, dAdd, put, hk, h0, dLen, blOf, dIx, hz, dAbs, hy, dInt, hk1, hk2, m1, m2, w3, w4, big, lim, sizeLine, hb, outs]
  · generalize hz : 7 * ns.sum + k = z
    generalize hy : (if z < 0 then -z else z) = y
    have y0 : 0 ≤ y := by rw [← hy]; split <;> omega
    obtain ⟨b, b0, b1, hb⟩ := key y
    have w1 : 0 ≤ (y % 2147483629 + 7919 * k * k + 31 * k + 17) * 48271 % 2147483647 := Int.emod_nonneg _ (by omega)
    have w2 : (y % 2147483629 + 7919 * k * k + 31 * k + 17) * 48271 % 2147483647 < 2147483647 := Int.emod_lt_of_pos _ (by omega)
    have w3 : -18446744073709551616 < (y % 2147483629 + 7919 * k * k + 31 * k + 17) * 48271 % 2147483647 := by omega
    have w4 : (y % 2147483629 + 7919 * k * k + 31 * k + 17) * 48271 % 2147483647 < 18446744073709551616 := by omega
    by_cases big : 1000000000000000000 ≤ y
    · refine ⟨y, b, ?_, y0, b0, b1⟩
      simp [F_law_pool_of, runF, m_law_pool_of, scriptD, mV, view, dSl, intOf, c1, dSum, dI, dAdd, put, hk, h0, dLen, blOf, dIx, hz, dAbs, hy, dInt, hk1, hk2, m1, m2, w3, w4, big, lim, sizeLine, hb, outs]
    · refine ⟨0, b, ?_, Int.le_refl 0, b0, b1⟩
      simp [F_law_pool_of, runF, m_law_pool_of, scriptD, mV, view, dSl, intOf, c1, dSum, dI, dAdd, put, hk, h0, dLen, blOf, dIx, hz, dAbs, hy, dInt, hk1, hk2, m1, m2, w3, w4, big, lim, sizeLine, hb, outs]
end G

set_option Elab.async false
set_option maxRecDepth 100000
set_option linter.unusedVariables false
set_option linter.unusedSimpArgs false
namespace G
open PySem L2 AN
def placeD : D → Bool
  | .tup (.str k :: r) => (match (tab_LENGTHS.lookup k).getD (.int 0) with
    | .int n => n == ((r.length + 1 : Nat) : Int)
    | _ => false) && r.all nameD
  | _ => false
theorem cut1 {x : D} {r : List D} : cutD (x :: r) (some 1) none = r := by
  unfold cutD
  have h1 : HT.sIx (x :: r).length 0 (some 1) = 1 := by
    simp only [HT.sIx, List.length_cons]
    rw [if_neg (by omega)]
    exact Nat.min_eq_left (by simp)
  have h2 : HT.sIx (x :: r).length (x :: r).length none = r.length + 1 := rfl
  rw [h1, h2]
  simp
theorem tab_int (k : Str) : ∃ n, (tab_LENGTHS.lookup k).getD (.int 0) = .int n ∧ dGet tab_LENGTHS (.str k) (.int 0) = some (.int n) := by
  have g : dGet tab_LENGTHS (.str k) (.int 0) = some ((tab_LENGTHS.lookup k).getD (.int 0)) := by
    show (match tab_LENGTHS.lookup k with
      | some r => some r
      | none => if scalar (.int 0) = true then some (.int 0) else none) = _
    cases tab_LENGTHS.lookup k <;> rfl
  rw [g]
  cases h : tab_LENGTHS.lookup k with
  | none => exact ⟨0, rfl, rfl⟩
  | some d =>
    have hm := List.lookup_eq_some_iff.mp h
    obtain ⟨l1, l2, e, _⟩ := hm
    have : (k, d) ∈ tab_LENGTHS := by rw [e]; simp
    simp only [tab_LENGTHS, List.mem_cons, List.not_mem_nil, or_false, Prod.mk.injEq] at this
    rcases this with ⟨_, rfl⟩ | ⟨_, rfl⟩ | ⟨_, rfl⟩ <;> exact ⟨_, rfl, rfl⟩
theorem place_ok {d : D} (h : AN.isObj d = false) (hi : ∀ xs, d = .tup xs → xs.length ≤ 1000 ∧ ∀ x ∈ xs, AN.isObj x = false) : F_is_place [.fz d] = .ok (.fz (.bl (placeD d))) [.fz d] := by
  cases d with
  | tup xs =>
    obtain ⟨hz, ho⟩ := hi xs rfl
    cases xs with
    | nil => simp [F_is_place, runF, m_is_place, mV, view, isI, AN.isObj, fTuple, truth, dLen, blOf, outs, placeD]
    | cons x r =>
      have hx := ho x (by simp)
      have ne : ¬ ((r.length : Int) + 1 = 0) := by omega
      have ix : dIx (.tup (x :: r)) (.int 0) = some x := by simp [dIx, L2.atI, ixN]
      by_cases hs : ∃ k, x = .str k
      · obtain ⟨k, rfl⟩ := hs
        obtain ⟨n, hn, hg⟩ := tab_int k
        have L : lc [1] (gN 1) (M.pure true) (mCall 1 F_is_name (mA (mV 1) mA0)) r [] [.fz (.tup (.str k :: r)), .no] = .ok (r.map fun x => D.bl (nameD x)) [.fz (.tup (.str k :: r)), .no] := by
          have := lc_map (vs := [1]) (g := gN 1) (me := mCall 1 F_is_name (mA (mV 1) mA0)) (e := [.fz (.tup (.str k :: r)), .no]) (ds := r) (acc := []) (f := fun x => D.bl (nameD x)) (fun y hy => by
            refine ⟨_, [.fz (.tup (.str k :: r)), .fz y], rfl, ?_, rfl⟩
            have c := call1 (e := [.fz (.tup (.str k :: r)), .fz y]) (name_ok (ho y (by simp [hy]))) rfl
            simp [bind_r, mV, c])
          rw [this]; rfl
        have Bl : blsOf (r.map fun x => D.bl (nameD x)) = some (r.map nameD) := by
          rw [← blsOf_map]; simp [Function.comp_def]
        have hz2 : r.length ≤ sizeLine := by simp at hz; exact Nat.le_trans (show r.length ≤ 1000 by omega) (by decide)
        by_cases q : n = (r.length : Int) + 1
        · simp [F_is_place, runF, m_is_place, mV, view, isI, AN.isObj, fTuple, fStr, truth, dLen, blOf, outs, placeD, ne, ix, hg, hn, q, dSl, intOf, cut1, seqOf, hz2, wipeE, L, restE, dAll, Bl, Function.comp_def]
        · simp [F_is_place, runF, m_is_place, mV, view, isI, AN.isObj, fTuple, fStr, truth, dLen, blOf, outs, placeD, ne, ix, hg, hn, q]
      · have hp : placeD (.tup (x :: r)) = false := by
          cases x with
          | str k => exact absurd ⟨k, rfl⟩ hs
          | _ => rfl
        have hf : isI fStr x = some (.bl false) := by
          unfold isI
          rw [if_neg (by rw [hx]; exact Bool.false_ne_true)]
          cases x with
          | str k => exact absurd ⟨k, rfl⟩ hs
          | _ => rfl
        have ht : isI fTuple (.tup (x :: r)) = some (.bl true) := rfl
        simp [F_is_place, runF, m_is_place, mV, view, ht, truth, dLen, blOf, outs, ne, ix, hf, hp]
  | obj _ _ => cases h
  | _ => simp [F_is_place, runF, m_is_place, mV, view, isI, AN.isObj, fTuple, truth, outs, placeD]
end G

set_option Elab.async false
set_option maxRecDepth 100000
set_option linter.unusedVariables false
set_option linter.unusedSimpArgs false
namespace G
open PySem L2 AN
abbrev addF (p t k l : D) : List (Str × D) := [("place", p), ("thing", t), ("kind", k), ("name", l)]
theorem okA (s : String) (h : s = "Addition") : ["Addition"].contains s = true := by subst h; decide
theorem init_bad {p t : D} (h : AN.isObj p = false) (hi : ∀ xs, p = .tup xs → xs.length ≤ 1000 ∧ ∀ x ∈ xs, AN.isObj x = false) (hp : placeD p = false) : F_Addition_init [.ow true (.obj "Addition" []), .fz p, .fz t] = .exc "BadPlace" p [.ow true (.obj "Addition" []), .fz p, .fz t] := by
  have c := fun e => call1 (e := e) (place_ok h hi) rfl
  simp [F_Addition_init, runF, m_Addition_init, mV, c, view, truth, hp, mRaise, bind_r, outs]
theorem init_badT {p t : D} (h : AN.isObj p = false) (hi : ∀ xs, p = .tup xs → xs.length ≤ 1000 ∧ ∀ x ∈ xs, AN.isObj x = false) (hp : placeD p = true) (ht : AN.isObj t = false) (htt : thingD t = false) : F_Addition_init [.ow true (.obj "Addition" []), .fz p, .fz t] = .exc "BadThing" t [.ow true (.obj "Addition" []), .fz p, .fz t] := by
  have c := fun e => call1 (e := e) (place_ok h hi) rfl
  have c2 := fun e => call1 (e := e) (thing_ok ht) rfl
  simp [F_Addition_init, runF, m_Addition_init, mV, c, c2, view, truth, hp, htt, mRaise, bind_r, outs]
theorem init_good {k l : D} {r : List D} {t : D} (hz : r.length ≤ 900) (ho : ∀ x ∈ k :: r, AN.isObj x = false) (hp : placeD (.tup (k :: r)) = true) (ht : AN.isObj t = false) (htt : thingD t = true) (hl : L2.atI (k :: r) (r.length : Int) = some l) :
    F_Addition_init [.ow true (.obj "Addition" []), .fz (.tup (k :: r)), .fz t] = .ok (.fz .non) [.ow true (.obj "Addition" (addF (.tup (k :: r)) t k l)), .fz (.tup (k :: r)), .fz t] := by
  have c := fun e => call1 (e := e) (place_ok (d := .tup (k :: r)) rfl (fun xs e => by cases e; exact ⟨by simp; omega, ho⟩)) rfl
  have c2 := fun e => call1 (e := e) (thing_ok ht) rfl
  have i0 : dIx (.tup (k :: r)) (.int 0) = some k := by simp [dIx, L2.atI, ixN]
  have i1 : dIx (.tup (k :: r)) (.int (r.length : Int)) = some l := hl
  have n1 : ¬ (("place" : Str) = "thing") := by decide
  have n2 : ¬ (("place" : Str) = "kind") := by decide
  have n3 : ¬ (("thing" : Str) = "kind") := by decide
  have n4 : ¬ (("place" : Str) = "name") := by decide
  have n5 : ¬ (("thing" : Str) = "name") := by decide
  have n6 : ¬ (("kind" : Str) = "name") := by decide
  have e1 : ["Addition"].contains "Addition" = true := by decide
  simp [F_Addition_init, runF, m_Addition_init, mV, c, c2, view, truth, hp, htt, mSetF, setF, bind_r, ok_fld_place, ok_fld_thing, ok_fld_kind, ok_fld_name, e1, putD, i0, i1, dLen, dI, outs, n1, n2, n3, n4, n5, n6]
theorem make_good {k l t : D} {r : List D} {e : AN.Env} (hz : r.length ≤ 900) (ho : ∀ x ∈ k :: r, AN.isObj x = false) (hp : placeD (.tup (k :: r)) = true) (ht : AN.isObj t = false) (htt : thingD t = true) (hl : L2.atI (k :: r) (r.length : Int) = some l) :
    makeP "Addition" 2 F_Addition_init [.d (.tup (k :: r)), .d t] e = .ok (.obj "Addition" (addF (.tup (k :: r)) t k l)) e := by
  have := init_good hz ho hp ht htt hl
  simp [makeP, this]
theorem make_bad {p t : D} {e : AN.Env} (h : AN.isObj p = false) (hi : ∀ xs, p = .tup xs → xs.length ≤ 1000 ∧ ∀ x ∈ xs, AN.isObj x = false) (hp : placeD p = false) : makeP "Addition" 2 F_Addition_init [.d p, .d t] e = .exc "BadPlace" p e := by
  have := init_bad (t := t) h hi hp
  simp [makeP, this]
theorem make_badT {p t : D} {e : AN.Env} (h : AN.isObj p = false) (hi : ∀ xs, p = .tup xs → xs.length ≤ 1000 ∧ ∀ x ∈ xs, AN.isObj x = false) (hp : placeD p = true) (ht : AN.isObj t = false) (htt : thingD t = false) : makeP "Addition" 2 F_Addition_init [.d p, .d t] e = .exc "BadThing" t e := by
  have := init_badT h hi hp ht htt
  simp [makeP, this]
theorem eq_add {p t k l p2 t2 k2 l2 : D} (h1 : dle 8 p = true) (h2 : dle 8 p2 = true) (h3 : dle 8 t = true) (h4 : dle 8 t2 = true) : F_Addition_eq [.fz (.obj "Addition" (addF p t k l)), .fz (.obj "Addition" (addF p2 t2 k2 l2))] = .ok (.fz (.bl (deqv p p2 && deqv t t2))) [.fz (.obj "Addition" (addF p t k l)), .fz (.obj "Addition" (addF p2 t2 k2 l2))] := by
  have e1 : ["Addition"].contains "Addition" = true := by decide
  have d1 : dEq p p2 = some (.bl (deqv p p2)) := if_pos (by rw [h1, h2]; rfl)
  have d2 : dEq t t2 = some (.bl (deqv t t2)) := if_pos (by rw [h3, h4]; rfl)
  have l1 : ∀ a b c d : D, (addF a b c d).lookup ("place" : Str) = some a := fun _ _ _ _ => rfl
  have l2' : ∀ a b c d : D, (addF a b c d).lookup ("thing" : Str) = some b := fun _ _ _ _ => rfl
  cases q : deqv p p2 <;> simp only [F_Addition_eq, runF, m_Addition_eq, mRet_r, mAndV_r, mB1_r, mD_r, mV, List.cons_append, List.nil_append, List.replicate, List.getElem?_cons_zero, List.getElem?_cons_succ, th_ok, ap1_r, view_d, Option.bind_some, isG, is_Addition, beq_self_eq_true, rop_some, blOf, if_true, mB2_r, ap2_r, dFld, ok_fld_place, ok_fld_thing, e1, l1, l2', d1, d2, q, frz1_d, outs, Bool.true_and, Bool.false_and, mC_r, Bool.false_eq_true, if_false]
theorem eq_other {p t k l o : D} (h : AN.isObj o = false) : F_Addition_eq [.fz (.obj "Addition" (addF p t k l)), .fz o] = .ok (.fz (.bl false)) [.fz (.obj "Addition" (addF p t k l)), .fz o] := by
  cases o with
  | obj _ _ => cases h
  | _ => simp [F_Addition_eq, runF, m_Addition_eq, mV, view, isG, blOf, outs]
end G

set_option Elab.async false
set_option maxRecDepth 100000
set_option linter.unusedVariables false
set_option linter.unusedSimpArgs false
namespace G
open PySem L2 AN
/-! what is shown of small data is a small text of plain signs -/
def Tx (n : Nat) (s : Str) : Prop := s.length ≤ n ∧ ∀ c ∈ s.cps.toList, c < 1114112
theorem Tx.app {m n : Nat} {s t : Str} (a : Tx m s) (b : Tx n t) : Tx (m + n) (s ++ t) := by
  refine ⟨?_, fun c hc => ?_⟩
  · show (s.cps ++ t.cps).size ≤ m + n
    have h1 : s.cps.size ≤ m := a.1
    have h2 : t.cps.size ≤ n := b.1
    rw [Array.size_append]; omega
  · have hc' : c ∈ (s.cps ++ t.cps).toList := hc
    rw [Array.toList_append, List.mem_append] at hc'
    exact hc'.elim (a.2 c) (b.2 c)
theorem Tx.le {m n : Nat} {s : Str} (a : Tx m s) (h : m ≤ n) : Tx n s := ⟨Nat.le_trans a.1 h, a.2⟩
theorem Tx.ok {n : Nat} {s : Str} (a : Tx n s) : PyData.strOk s = true := by
  unfold PyData.strOk
  rw [Array.all_eq_true_iff_forall_mem]
  intro c hc
  have := a.2 c (Array.mem_toList_iff.mpr hc)
  exact decide_eq_true (by omega)
def asc (c : Nat) : Prop := 32 ≤ c ∧ c < 127
theorem repr_char {q c : Nat} (hq : q < 128) (hc : asc c) : (Builtin.Str.reprChar q c).length ≤ 2 ∧ ∀ x ∈ Builtin.Str.reprChar q c, x < 128 := by
  obtain ⟨h1, h2⟩ := hc
  have key : ∀ c : Nat, c < 127 → 32 ≤ c → Unicode.isPrintable c = true := by decide +kernel
  have p := key c h2 h1
  unfold Builtin.Str.reprChar
  by_cases e : (c == q || c == 92) = true
  · simp only [e, if_true]
    exact ⟨by simp, fun x hx => by simp at hx; omega⟩
  · have n1 : (c == 10) = false := by simp; omega
    have n2 : (c == 13) = false := by simp; omega
    have n3 : (c == 9) = false := by simp; omega
    simp only [e, n1, n2, n3, p, if_true, Bool.false_eq_true, if_false]
    exact ⟨by simp, fun x hx => by simp at hx; omega⟩
theorem repr_fold {q : Nat} (hq : q < 128) : ∀ (l : List Nat) (acc : Array Nat), (∀ c ∈ l, asc c) → (∀ c ∈ acc.toList, c < 128) →
    (l.foldl (fun out c => out ++ (Builtin.Str.reprChar q c).toArray) acc).size ≤ acc.size + 2 * l.length ∧ ∀ c ∈ (l.foldl (fun out c => out ++ (Builtin.Str.reprChar q c).toArray) acc).toList, c < 128
  | [], acc, _, h => ⟨by simp, by simpa using h⟩
  | c :: r, acc, hl, h => by
    obtain ⟨k1, k2⟩ := repr_char hq (hl c (by simp))
    obtain ⟨i1, i2⟩ := repr_fold hq r (acc ++ (Builtin.Str.reprChar q c).toArray) (fun d hd => hl d (by simp [hd])) (fun d hd => by
      rw [Array.toList_append, List.mem_append] at hd
      exact hd.elim (h d) (fun z => k2 d (by simpa using z)))
    refine ⟨?_, i2⟩
    simp only [List.foldl_cons, List.length_cons]
    simp only [Array.size_append, List.size_toArray] at i1
    omega
theorem repr_tx {x : Str} (h : ∀ c ∈ x.cps.toList, asc c) : Tx (2 * x.length + 2) (reprText x) := by
  have hq : PySem.reprQuote x < 128 := by unfold PySem.reprQuote; split <;> omega
  obtain ⟨i1, i2⟩ := repr_fold hq x.cps.toList #[PySem.reprQuote x] h (fun c hc => by simp at hc; omega)
  refine ⟨?_, fun c hc => ?_⟩
  · show (Array.push (x.cps.foldl (fun out c => out ++ (Builtin.Str.reprChar (PySem.reprQuote x) c).toArray) #[PySem.reprQuote x]) (PySem.reprQuote x)).size ≤ _
    rw [Array.size_push, ← Array.foldl_toList]
    have e : x.cps.toList.length = x.length := by simp [Str.length]
    rw [e] at i1
    have e1 : (#[PySem.reprQuote x] : Array Nat).size = 1 := rfl
    omega
  · have hc' : c ∈ ((x.cps.foldl (fun out c => out ++ (Builtin.Str.reprChar (PySem.reprQuote x) c).toArray) #[PySem.reprQuote x]).push (PySem.reprQuote x)).toList := hc
    rw [Array.toList_push, List.mem_append, ← Array.foldl_toList] at hc'
    rcases hc' with z | z
    · have := i2 c z; omega
    · simp at z; omega
theorem join_tx {b : Nat} : ∀ {ts : List Str}, (∀ t ∈ ts, Tx b t) → Tx (ts.length * (b + 2)) (Str.join ", " ts)
  | [], _ => ⟨Nat.zero_le _, fun c hc => by cases hc⟩
  | [t], h => (h t (by simp)).le (by simp)
  | t :: t2 :: ts, h => by
    have ih := join_tx (b := b) (ts := t2 :: ts) (fun x hx => h x (by simp [hx]))
    have sep : Tx 2 (", " : Str) := ⟨by decide, by decide +kernel⟩
    have := ((h t (by simp)).app sep).app ih
    refine Tx.le (s := t ++ (", " : Str) ++ Str.join ", " (t2 :: ts)) this ?_
    simp only [List.length_cons]
    rw [Nat.add_mul (ts.length + 1) 1]
    omega
theorem from_tx {b : Nat} : ∀ {ts : List Str} {k m : Nat} {acc : Str}, Tx m acc → (∀ t ∈ ts, Tx b t) → Tx (m + ts.length * (b + 2)) (textFrom k acc ts)
  | [], k, m, acc, h, _ => h.le (by simp)
  | t :: ts, k, m, acc, h, ht => by
    have sep : Tx 2 (Str.ofString (if k > 0 then ", " else "")) := by
      split
      · exact ⟨by decide, by decide +kernel⟩
      · exact ⟨by decide, by decide +kernel⟩
    have := from_tx (b := b) (ts := ts) (k := k + 1) ((h.app sep).app (ht t (by simp))) (fun x hx => ht x (by simp [hx]))
    refine Tx.le this ?_
    simp only [List.length_cons]
    rw [Nat.add_mul ts.length 1]
    omega
theorem list_tx {b : Nat} {ts : List Str} (h : ∀ t ∈ ts, Tx b t) : Tx (ts.length * (b + 2) + 2) (listText ts) := by
  have a : Tx 1 ("[" : Str) := ⟨by decide, by decide +kernel⟩
  have z : Tx 1 ("]" : Str) := ⟨by decide, by decide +kernel⟩
  exact ((from_tx (k := 0) a h).app z).le (by omega)
theorem tuple_tx {b : Nat} {ts : List Str} (h : ∀ t ∈ ts, Tx b t) : Tx (ts.length * (b + 2) + 3) (tupleText ts) := by
  have a : Tx 1 ("(" : Str) := ⟨by decide, by decide +kernel⟩
  have z : Tx 2 (Str.ofString (if ts.length == 1 then ",)" else ")")) := by
    split
    · exact ⟨by decide, by decide +kernel⟩
    · exact ⟨by decide, by decide +kernel⟩
  exact ((a.app (join_tx h)).app z).le (by omega)
end G

set_option Elab.async false
set_option maxRecDepth 100000
set_option linter.unusedVariables false
set_option linter.unusedSimpArgs false
namespace G
open PySem L2 AN
/-- small, and shown in at most b signs -/
structure Sh (n b : Nat) (d : D) : Prop where
  dl : dle n d = true
  sh : (toP d).showable = true
  nd : (toP d).hasDict = false
  tx : Tx b (toP d).shown
theorem Sh.non : Sh 0 4 .non := ⟨rfl, rfl, rfl, by decide, by decide +kernel⟩
theorem Sh.bl (k : Bool) : Sh 0 5 (.bl k) := by cases k <;> exact ⟨rfl, rfl, rfl, by decide, by decide +kernel⟩
theorem Sh.int {i : Int} (h : i.natAbs < 10 ^ 20) : Sh 0 21 (.int i) := by
  refine ⟨rfl, ?_, rfl, ?_, fun c hc => ?_⟩
  · show decide (i.natAbs.log2 < 1920) = true
    refine decide_eq_true ?_
    have : i.natAbs < 2 ^ 1920 := Nat.lt_trans h (by decide +kernel)
    by_cases z : i.natAbs = 0
    · rw [z]; decide
    · exact (Nat.log2_lt z).mpr this
  · show (Str.ofString (toString i)).length ≤ 21
    rw [ofString_length]
    exact int_text_length_le10 (by decide) h
  · have hc' : c ∈ (Str.ofString (toString i)).cps.toList := hc
    rw [Str.ofString_eq_toList] at hc'
    simp only [List.mem_map] at hc'
    obtain ⟨x, _, rfl⟩ := hc'
    have v : x.val.toNat.isValidChar := x.valid
    show x.val.toNat < 1114112
    rcases v with z | ⟨_, z⟩ <;> omega
theorem Sh.str {x : Str} (h : ∀ c ∈ x.cps.toList, asc c) : Sh 0 (2 * x.length + 2) (.str x) := ⟨rfl, rfl, rfl, repr_tx h⟩
theorem Sh.up {n b n' b' : Nat} {d : D} (s : Sh n b d) (hb : b ≤ b') (hn : dle n' d = true) : Sh n' b' d := ⟨hn, s.sh, s.nd, s.tx.le hb⟩
theorem all_sh {n b : Nat} : ∀ {xs : List D}, (∀ x ∈ xs, Sh n b x) → PyData.showableAll (toPs xs) = true ∧ PyData.hasDictAll (toPs xs) = false ∧ (PyData.shownAll (toPs xs)).length = xs.length ∧ ∀ t ∈ PyData.shownAll (toPs xs), Tx b t
  | [], _ => ⟨rfl, rfl, rfl, fun t ht => by cases ht⟩
  | x :: xs, h => by
    obtain ⟨i1, i2, i3, i4⟩ := all_sh (xs := xs) (fun y hy => h y (by simp [hy]))
    have hx := h x (by simp)
    refine ⟨?_, ?_, ?_, fun t ht => ?_⟩
    · show (PyData.showable (toP x) && PyData.showableAll (toPs xs)) = true
      rw [hx.sh, i1]; rfl
    · show (PyData.hasDict (toP x) || PyData.hasDictAll (toPs xs)) = false
      rw [hx.nd, i2]; rfl
    · show ((toP x).shown :: PyData.shownAll (toPs xs)).length = _
      simp [i3]
    · have ht' : t ∈ (toP x).shown :: PyData.shownAll (toPs xs) := ht
      rcases List.mem_cons.mp ht' with rfl | z
      · exact hx.tx
      · exact i4 t z
theorem Sh.tup {n b : Nat} {xs : List D} (h : ∀ x ∈ xs, Sh n b x) : Sh (n + 1) (xs.length * (b + 2) + 3) (.tup xs) := by
  obtain ⟨i1, i2, i3, i4⟩ := all_sh h
  refine ⟨?_, i1, i2, ?_⟩
  · show xs.all (dle n) = true
    rw [List.all_eq_true]; exact fun x hx => (h x hx).dl
  · have := tuple_tx i4
    rw [i3] at this
    exact this
theorem Sh.lst {n b : Nat} {xs : List D} (h : ∀ x ∈ xs, Sh n b x) : Sh (n + 1) (xs.length * (b + 2) + 2) (.lst xs) := by
  obtain ⟨i1, i2, i3, i4⟩ := all_sh h
  refine ⟨?_, i1, i2, ?_⟩
  · show xs.all (dle n) = true
    rw [List.all_eq_true]; exact fun x hx => (h x hx).dl
  · have := list_tx i4
    rw [i3] at this
    exact this
theorem Sh.ok {n b : Nat} {d : D} (s : Sh n b d) (h : dle 8 d = true) (hb : b ≤ 10000) : shOk d = true := by
  unfold shOk
  rw [h, s.sh, s.nd, s.tx.ok, decide_eq_true (Nat.le_trans s.tx.1 (Nat.le_trans hb (by decide)))]
  rfl
end G

set_option Elab.async false
set_option maxRecDepth 100000
set_option linter.unusedVariables false
set_option linter.unusedSimpArgs false
namespace G
open PySem L2 AN
theorem scal_refl {d : D} (h : scalar d = true) : deqv d d = true := by
  cases d with
  | non => rfl
  | bl b => show (b == b) = true; simp
  | int i => show (i == i) = true; simp
  | str s => show (s == s) = true; simp
  | _ => cases h
theorem refls {n : Nat} (ih : ∀ d, dle n d = true → deqv d d = true) : ∀ xs : List D, xs.all (dle n) = true → PyData.eqvAll (toPs xs) (toPs xs) = true
  | [], _ => rfl
  | x :: xs, h => by
    rw [List.all_cons, Bool.and_eq_true] at h
    show (PyData.eqv (toP x) (toP x) && PyData.eqvAll (toPs xs) (toPs xs)) = true
    have := ih x h.1
    unfold deqv at this
    rw [this, refls ih xs h.2]
    rfl
theorem deqv_refl : ∀ (n : Nat) (d : D), dle n d = true → deqv d d = true
  | 0, d, h => scal_refl h
  | n + 1, d, h => by
    cases d with
    | lst xs => exact refls (deqv_refl n) xs h
    | tup xs => exact refls (deqv_refl n) xs h
    | non => exact scal_refl rfl
    | bl _ => exact scal_refl rfl
    | int _ => exact scal_refl rfl
    | str _ => exact scal_refl rfl
    | dic _ => cases h
    | obj _ _ => cases h
theorem ne_refl {d : D} (h : dle 8 d = true) : dNe d d = some (.bl false) := by
  unfold dNe
  rw [if_pos (by rw [h]; rfl), deqv_refl 8 d h]
  rfl
end G

set_option Elab.async false
set_option maxRecDepth 100000
set_option linter.unusedVariables false
set_option linter.unusedSimpArgs false
namespace G
open PySem L2 AN
/-! the ten places, additions at them -/
def P10 : List (List D) := [[.str "name", .str "l", .str "a"], [.str "name", .str "l", .str "b"], [.str "name", .str "l", .str "abcdefgh"], [.str "member", .str "l", .str "a"], [.str "member", .str "l", .str "b"], [.str "member", .str "l", .str "abcdefgh"],
  [.str "spread", .str "l", .str "k", .str "a"], [.str "spread", .str "l", .str "k", .str "b"], [.str "spread", .str "l", .str "k", .str "abcdefgh"], [.str "name", .str "m", .str "a"]]
def pt (i : Fin 10) : List D := P10.getD i.val []
def plc (i : Fin 10) : D := .tup (pt i)
theorem all10 {P : Fin 10 → Prop} (h0 : P 0) (h1 : P 1) (h2 : P 2) (h3 : P 3) (h4 : P 4) (h5 : P 5) (h6 : P 6) (h7 : P 7) (h8 : P 8) (h9 : P 9) : ∀ i, P i := fun i => match i with
  | ⟨0, _⟩ => h0
  | ⟨1, _⟩ => h1
  | ⟨2, _⟩ => h2
  | ⟨3, _⟩ => h3
  | ⟨4, _⟩ => h4
  | ⟨5, _⟩ => h5
  | ⟨6, _⟩ => h6
  | ⟨7, _⟩ => h7
  | ⟨8, _⟩ => h8
  | ⟨9, _⟩ => h9
  | ⟨n + 10, h⟩ => absurd h (by omega)
def kd (i : Fin 10) : D := (pt i).getD 0 .non
def ls (i : Fin 10) : D := (pt i).getD ((pt i).length - 1) .non
theorem plc_ok : ∀ i, placeD (plc i) = true := by decide +kernel
theorem plc_dle : ∀ i, dle 8 (plc i) = true := by decide +kernel
theorem plc_scal : ∀ i, (pt i).all scalar = true := by decide +kernel
theorem plc_eqv : ∀ i j, deqv (plc i) (plc j) = decide (i = j) := by decide +kernel
theorem kd_scal : ∀ i, scalar (kd i) = true := by decide +kernel
theorem ls_scal : ∀ i, scalar (ls i) = true := by decide +kernel
theorem plc_shape : ∀ i, ∃ r, pt i = kd i :: r ∧ r.length ≤ 900 ∧ (∀ x ∈ pt i, AN.isObj x = false) ∧ L2.atI (pt i) (r.length : Int) = some (ls i) := by
  have ob : ∀ i, (pt i).all (fun x => !AN.isObj x) = true := by decide +kernel
  have ob' : ∀ i, ∀ x ∈ pt i, AN.isObj x = false := fun i x hx => by
    have := List.all_eq_true.mp (ob i) x hx
    simpa using this
  refine all10 ?_ ?_ ?_ ?_ ?_ ?_ ?_ ?_ ?_ ?_ <;> exact ⟨_, rfl, by simp, ob' _, rfl⟩
abbrev Row := Fin 10 × Int
def addO (a : Row) : D := .obj "Addition" (addF (plc a.1) (.int a.2) (kd a.1) (ls a.1))
def rowD (a : Row) : D := .tup [plc a.1, .int a.2]
def okT (t : Int) : Prop := 1 ≤ t ∧ t ≤ 1000000000
theorem thing_t {t : Int} (h : okT t) : thingD (.int t) = true := by
  show (decide (1 ≤ t) && decide (t ≤ 1000000000)) = true
  rw [decide_eq_true h.1, decide_eq_true h.2]; rfl
theorem makeA {a : Row} {e : AN.Env} (h : okT a.2) : makeP "Addition" 2 F_Addition_init [.d (plc a.1), .d (.int a.2)] e = .ok (.obj "Addition" (addF (plc a.1) (.int a.2) (kd a.1) (ls a.1))) e := by
  obtain ⟨r, hr, hz, ho, hl⟩ := plc_shape a.1
  have hp := plc_ok a.1
  unfold plc at hp ⊢
  rw [hr] at hp ho hl ⊢
  exact make_good hz ho hp rfl (thing_t h) hl
theorem eqA {a b : Row} : F_Addition_eq [.fz (addO a), .fz (addO b)] = .ok (.fz (.bl (decide (a = b)))) [.fz (addO a), .fz (addO b)] := by
  have := eq_add (p := plc a.1) (t := .int a.2) (k := kd a.1) (l := ls a.1) (p2 := plc b.1) (t2 := .int b.2) (k2 := kd b.1) (l2 := ls b.1) (plc_dle _) (plc_dle _) rfl rfl
  have e : (deqv (plc a.1) (plc b.1) && deqv (.int a.2) (.int b.2)) = decide (a = b) := by
    rw [plc_eqv, show deqv (.int a.2) (.int b.2) = (a.2 == b.2) from rfl]
    obtain ⟨i, t⟩ := a
    obtain ⟨j, u⟩ := b
    by_cases h1 : i = j
    · by_cases h2 : t = u <;> simp [h1, h2]
    · simp [h1]
  rw [e] at this
  exact this
theorem eqA_other {a : Row} {o : D} (h : AN.isObj o = false) : F_Addition_eq [.fz (addO a), .fz o] = .ok (.fz (.bl false)) [.fz (addO a), .fz o] := eq_other h
theorem simA (a : Row) : simpleO (addO a) = true := by
  show (simpleD (plc a.1) && (simpleD (.int a.2) && (simpleD (kd a.1) && (simpleD (ls a.1) && true)))) = true
  have h1 : simpleD (plc a.1) = true := plc_scal a.1
  have h2 : ∀ i, simpleD (kd i) = true := by decide +kernel
  have h3 : ∀ i, simpleD (ls i) = true := by decide +kernel
  rw [h1, h2, h3]; rfl
theorem oEqA {neg : Bool} {a b : Row} : oEq neg t_eq_Addition (addO a) (addO b) = some (.bl (if neg then !decide (a = b) else decide (a = b))) := by
  have h := eqA (a := a) (b := b)
  unfold addO at h ⊢
  unfold oEq
  show (some F_Addition_eq).bind _ = _
  simp only [Option.bind_some, h]
theorem eqsA {a : Row} : ∀ {rows : List Row}, eqsOf t_eq_Addition (addO a) (rows.map addO) = some (rows.map fun b => decide (b = a))
  | [] => rfl
  | b :: rows => by
    simp only [List.map_cons, eqsOf, simA, if_true, oEqA, Option.bind_some, boolOf, eqsA, Option.map_some, Bool.false_eq_true, if_false]
theorem anyA {a : Row} {rows : List Row} : (rows.map fun b => decide (b = a)).any id = decide (a ∈ rows) := by
  rw [List.any_map]
  by_cases h : a ∈ rows
  · rw [decide_eq_true h, List.any_eq_true]
    exact ⟨a, h, by simp⟩
  · rw [decide_eq_false h, List.any_eq_false]
    intro b hb
    simp only [Function.comp, id, decide_eq_true_eq]
    exact fun z => h (z ▸ hb)
theorem inA {neg : Bool} {g : D → D → Option D} {a : Row} {rows : List Row} : dInE t_eq_Addition neg g (addO a) (.tup (rows.map addO)) = some (.bl (if neg then !decide (a ∈ rows) else decide (a ∈ rows))) := by
  unfold dInE
  rw [if_pos ⟨simA a, by rw [oEqA]; simp [boolOf]⟩]
  simp only [eqsA, Option.map_some, anyA]
theorem fA1 (a : Row) : dFld ok_fld_place "place" (addO a) = some (plc a.1) := rfl
theorem fA2 (a : Row) : dFld ok_fld_thing "thing" (addO a) = some (.int a.2) := rfl
theorem fA3 (a : Row) : dFld ok_fld_kind "kind" (addO a) = some (kd a.1) := rfl
theorem fA4 (a : Row) : dFld ok_fld_name "name" (addO a) = some (ls a.1) := rfl
theorem dEqP {i j : Fin 10} : dEq (plc i) (plc j) = some (.bl (decide (i = j))) := by
  unfold dEq
  rw [if_pos (by rw [plc_dle, plc_dle]; rfl), plc_eqv]
/-- rows that fit: whether a place, a thing is taken -/
def plIn (i : Fin 10) (rows : List Row) : Bool := rows.any fun b => decide (i = b.1)
def thIn (t : Int) (rows : List Row) : Bool := rows.any fun b => t == b.2
theorem zL {n : Nat} (h : n ≤ 1000) : n ≤ sizeLine := Nat.le_trans h (by decide)
theorem fit_ok {rows : List Row} {a : Row} (hl : rows.length ≤ 1000) : F_check_fit [.fz (.tup (rows.map addO)), .fz (addO a)] = (if plIn a.1 rows = true then .exc "AlreadyThere" (plc a.1) [.fz (.tup (rows.map addO)), .fz (addO a)] else if thIn a.2 rows = true then .exc "BadThing" (.int a.2) [.fz (.tup (rows.map addO)), .fz (addO a)] else .ok (.fz .non) [.fz (.tup (rows.map addO)), .fz (addO a)]) := by
  have L1 : lc [2] (gN 2) (M.pure true) (mD (mB2 dEq (mD (mB1 (dFld ok_fld_place "place") (mV 1))) (mD (mB1 (dFld ok_fld_place "place") (mV 2))))) (rows.map addO) [] [.fz (.tup (rows.map addO)), .fz (addO a), .no] = .ok (rows.map fun b => D.bl (decide (a.1 = b.1))) [.fz (.tup (rows.map addO)), .fz (addO a), .no] := by
    have := lc_map (vs := [2]) (g := gN 2) (me := mD (mB2 dEq (mD (mB1 (dFld ok_fld_place "place") (mV 1))) (mD (mB1 (dFld ok_fld_place "place") (mV 2))))) (e := [.fz (.tup (rows.map addO)), .fz (addO a), .no]) (ds := rows.map addO) (acc := []) (f := fun d => (dEq (plc a.1) ((dFld ok_fld_place "place" d).getD .non)).getD .non) (fun d hd => by
      obtain ⟨b, _, rfl⟩ := List.mem_map.mp hd
      refine ⟨_, [.fz (.tup (rows.map addO)), .fz (addO a), .fz (addO b)], rfl, ?_, rfl⟩
      simp [bind_r, mV, fA1, dEqP])
    rw [this]
    simp [fA1, dEqP, Function.comp_def]
  have L2 : lc [2] (gN 2) (M.pure true) (mD (mB2 dEq (mD (mB1 (dFld ok_fld_thing "thing") (mV 1))) (mD (mB1 (dFld ok_fld_thing "thing") (mV 2))))) (rows.map addO) [] [.fz (.tup (rows.map addO)), .fz (addO a), .no] = .ok (rows.map fun b => D.bl (a.2 == b.2)) [.fz (.tup (rows.map addO)), .fz (addO a), .no] := by
    have := lc_map (vs := [2]) (g := gN 2) (me := mD (mB2 dEq (mD (mB1 (dFld ok_fld_thing "thing") (mV 1))) (mD (mB1 (dFld ok_fld_thing "thing") (mV 2))))) (e := [.fz (.tup (rows.map addO)), .fz (addO a), .no]) (ds := rows.map addO) (acc := []) (f := fun d => (dEq (.int a.2) ((dFld ok_fld_thing "thing" d).getD .non)).getD .non) (fun d hd => by
      obtain ⟨b, _, rfl⟩ := List.mem_map.mp hd
      refine ⟨_, [.fz (.tup (rows.map addO)), .fz (addO a), .fz (addO b)], rfl, ?_, rfl⟩
      simp [bind_r, mV, fA2])
    rw [this]
    simp [fA2, Function.comp_def]
  have B1 : blsOf (rows.map fun b => D.bl (decide (a.1 = b.1))) = some (rows.map fun b => decide (a.1 = b.1)) := by
    rw [← blsOf_map]; simp [Function.comp_def]
  have B2 : blsOf (rows.map fun b => D.bl (a.2 == b.2)) = some (rows.map fun b => (a.2 == b.2)) := by
    rw [← blsOf_map]; simp [Function.comp_def]
  have n1 : ((rows.map fun b => decide (a.1 = b.1)).any fun b => b) = plIn a.1 rows := by rw [List.any_map]; rfl
  have n2 : ((rows.map fun b => (a.2 == b.2)).any fun b => b) = thIn a.2 rows := by rw [List.any_map]; rfl
  have D1 : dAny (.lst (rows.map fun b => D.bl (decide (a.1 = b.1)))) = some (.bl (plIn a.1 rows)) := by
    show (blsOf _).map _ = _
    rw [B1, Option.map_some, n1]
  have D2 : dAny (.lst (rows.map fun b => D.bl (a.2 == b.2))) = some (.bl (thIn a.2 rows)) := by
    show (blsOf _).map _ = _
    rw [B2, Option.map_some, n2]
  have hz : (rows.map addO).length ≤ sizeLine := by rw [List.length_map]; exact zL hl
  have hz' : rows.length ≤ sizeLine := zL hl
  cases q1 : plIn a.1 rows with
  | true => simp [F_check_fit, runF, m_check_fit, mV, seqOf, hz', wipeE, L1, restE, D1, q1, truth, mRaise, bind_r, fA1, outs]
  | false =>
    cases q2 : thIn a.2 rows with
    | true => simp [F_check_fit, runF, m_check_fit, mV, seqOf, hz', wipeE, L1, L2, restE, D1, D2, q1, q2, truth, mRaise, bind_r, fA2, outs]
    | false => simp [F_check_fit, runF, m_check_fit, mV, seqOf, hz', wipeE, L1, L2, restE, D1, D2, q1, q2, truth, outs]
end G

set_option Elab.async false
set_option maxRecDepth 100000
set_option linter.unusedVariables false
set_option linter.unusedSimpArgs false
namespace G
open PySem L2 AN
/-! sets of additions -/
inductive U where
  | ok (r : List Row)
  | pl (i : Fin 10)
  | th (t : Int)
def unl : List Row → List Row → U
  | found, [] => .ok found
  | found, a :: rest => if a ∈ found then unl found rest else if plIn a.1 found = true then .pl a.1 else if thIn a.2 found = true then .th a.2 else unl (found ++ [a]) rest
def uBody : M Fl := (mW [false, false, true] (mIfS (mB2 (g2b (dInE t_eq_Addition true (dInX true))) (mV 2) (mV 1)) (mSeq (mDrop (mCall 2 F_check_fit (mA (mV 1) (mA (mV 2) mA0))))
    (mSet 1 (mTup (mAS (mV 1) (mA (mV 2) mA0))))) mNx))
theorem uBody_in {A : AN.Slot} {found : List Row} {a : Row} (h : a ∈ found) : uBody [A, .fz (.tup (found.map addO)), .fz (addO a)] = .ok .nx [A, .fz (.tup (found.map addO)), .no] := by
  simp [uBody, mV, inA, h, blOf]
theorem uBody_out {A : AN.Slot} {found : List Row} {a : Row} (h : a ∉ found) (hl : found.length ≤ 900) : uBody [A, .fz (.tup (found.map addO)), .fz (addO a)] =
    (if plIn a.1 found = true then .exc "AlreadyThere" (plc a.1) [A, .fz (.tup (found.map addO)), .fz (addO a)] else if thIn a.2 found = true then .exc "BadThing" (.int a.2) [A, .fz (.tup (found.map addO)), .fz (addO a)] else .ok .nx [A, .fz (.tup ((found ++ [a]).map addO)), .no]) := by
  have hf := fit_ok (rows := found) (a := a) (by omega)
  by_cases q1 : plIn a.1 found = true
  · rw [if_pos q1] at hf ⊢
    have c := fun e => callX2 (e := e) hf
    simp [uBody, mV, inA, h, blOf, c]
  · rw [if_neg q1] at hf ⊢
    by_cases q2 : thIn a.2 found = true
    · rw [if_pos q2] at hf ⊢
      have c := fun e => callX2 (e := e) hf
      simp [uBody, mV, inA, h, blOf, c]
    · rw [if_neg q2] at hf ⊢
      have c := fun e => callN2 (e := e) hf
      have hz : (found.map addO ++ [addO a]).length ≤ sizeLine := zL (by simp; omega)
      have fr := fun e => frzs_app (ds := found.map addO) (d := addO a) (e := e)
      simp only [uBody, mW_r, mIfS_r, mB2_r, mV, List.getElem?_cons_zero, List.getElem?_cons_succ, th_ok, ap2_r, view_d, Option.bind_some, g2b_r, inA, h, decide_false, Bool.not_false, if_true, blOf, rop_some, mSeq_r, mDrop_r, mCall_r, mA_r, mA0_r, c, retD_fz, mSet_r, mTup_r, mAS_r, ap1_r, rowOf, List.map_nil, List.nil_append, fr, lim_r hz, pure_r, frz1_d, put, List.set, wp_nx, wipeB_f, wipeB_t, wpS_fz, wipeB_n, List.map_append, List.map_cons]
theorem uLoop {A : AN.Slot} : ∀ {rest found : List Row}, found.length + rest.length ≤ 900 → (match unl found rest with
    | .ok f => loop (gN 2) uBody (rest.map addO) [A, .fz (.tup (found.map addO)), .no] = .ok .nx [A, .fz (.tup (f.map addO)), .no] ∧ f.length ≤ found.length + rest.length
    | .pl i => ∃ s1 s2, loop (gN 2) uBody (rest.map addO) [A, .fz (.tup (found.map addO)), .no] = .exc "AlreadyThere" (plc i) [A, s1, s2]
    | .th t => ∃ s1 s2, loop (gN 2) uBody (rest.map addO) [A, .fz (.tup (found.map addO)), .no] = .exc "BadThing" (.int t) [A, s1, s2])
  | [], found, _ => ⟨rfl, by simp⟩
  | a :: rest, found, hl => by
    have g : gN 2 (addO a) [A, .fz (.tup (found.map addO)), .no] = some [A, .fz (.tup (found.map addO)), .fz (addO a)] := rfl
    have hl' : found.length ≤ 900 := by simp at hl; omega
    unfold unl
    by_cases h : a ∈ found
    · rw [if_pos h]
      have ih := uLoop (A := A) (rest := rest) (found := found) (by simp at hl; omega)
      have st : loop (gN 2) uBody ((a :: rest).map addO) [A, .fz (.tup (found.map addO)), .no] = loop (gN 2) uBody (rest.map addO) [A, .fz (.tup (found.map addO)), .no] := by
        simp only [List.map_cons, loop, g, uBody_in h]
      rw [st]
      cases q : unl found rest with
      | ok f => rw [q] at ih; exact ⟨ih.1, by simp; omega⟩
      | pl i => rw [q] at ih; exact ih
      | th t => rw [q] at ih; exact ih
    · rw [if_neg h]
      have ub := uBody_out (A := A) h hl'
      by_cases q1 : plIn a.1 found = true
      · rw [if_pos q1] at ub ⊢
        exact ⟨.fz (.tup (found.map addO)), .fz (addO a), by simp only [List.map_cons, loop, g, ub]⟩
      · rw [if_neg q1] at ub ⊢
        by_cases q2 : thIn a.2 found = true
        · rw [if_pos q2] at ub ⊢
          exact ⟨.fz (.tup (found.map addO)), .fz (addO a), by simp only [List.map_cons, loop, g, ub]⟩
        · rw [if_neg q2] at ub ⊢
          have ih := uLoop (A := A) (rest := rest) (found := found ++ [a]) (by simp at hl ⊢; omega)
          have st : loop (gN 2) uBody ((a :: rest).map addO) [A, .fz (.tup (found.map addO)), .no] = loop (gN 2) uBody (rest.map addO) [A, .fz (.tup ((found ++ [a]).map addO)), .no] := by
            simp only [List.map_cons, loop, g, ub]
          rw [st]
          cases q : unl (found ++ [a]) rest with
          | ok f => rw [q] at ih; exact ⟨ih.1, by have := ih.2; simp at this ⊢; omega⟩
          | pl i => rw [q] at ih; exact ih
          | th t => rw [q] at ih; exact ih
theorem unlike_ok {rows : List Row} (hl : rows.length ≤ 900) : (match unl [] rows with
    | .ok f => F_unlike_rows [.fz (.tup (rows.map addO))] = .ok (.fz (.tup (f.map addO))) [.fz (.tup (rows.map addO))] ∧ f.length ≤ rows.length
    | .pl i => F_unlike_rows [.fz (.tup (rows.map addO))] = .exc "AlreadyThere" (plc i) [.fz (.tup (rows.map addO))]
    | .th t => F_unlike_rows [.fz (.tup (rows.map addO))] = .exc "BadThing" (.int t) [.fz (.tup (rows.map addO))]) := by
  have ih := uLoop (A := .fz (.tup (rows.map addO))) (rest := rows) (found := []) (by simpa using hl)
  have z0 : (0 : Nat) ≤ sizeLine := Nat.zero_le _
  have eM : m_unlike_rows = mSeq (mSet 1 (mTup mA0)) (mSeq (mFor (mIt (mV 0)) (gN 2) uBody) (mRetV 1)) := rfl
  cases q : unl [] rows with
  | ok f =>
    rw [q] at ih
    refine ⟨?_, by simpa using ih.2⟩
    have i1 := ih.1
    simp only [List.map_nil] at i1
    simp [F_unlike_rows, runF, eM, lim, z0, put, mV, seqOf, i1, mRetV, outs]
  | pl i =>
    rw [q] at ih
    obtain ⟨s1, s2, i1⟩ := ih
    simp only [List.map_nil] at i1
    simp [F_unlike_rows, runF, eM, lim, z0, put, mV, seqOf, i1, outs]
  | th t =>
    rw [q] at ih
    obtain ⟨s1, s2, i1⟩ := ih
    simp only [List.map_nil] at i1
    simp [F_unlike_rows, runF, eM, lim, z0, put, mV, seqOf, i1, outs]
end G

set_option Elab.async false
set_option maxRecDepth 100000
set_option linter.unusedVariables false
set_option linter.unusedSimpArgs false
namespace G
open PySem L2 AN
abbrev sevF (rows : List Row) : List (Str × D) := [("kept", .tup (rows.map addO))]
def sevO (rows : List Row) : D := .obj "Several" (sevF rows)
def U.fz (u : U) (as : List AN.Slot) : R Ret := match u with
  | .ok f => .ok (.fz (.tup (f.map addO))) as
  | .pl i => .exc "AlreadyThere" (plc i) as
  | .th t => .exc "BadThing" (.int t) as
def U.fn (u : U) (as : List AN.Slot) : R Ret := match u with
  | .ok f => .ok (.ow (.obj "Several" (sevF f))) as
  | .pl i => .exc "AlreadyThere" (plc i) as
  | .th t => .exc "BadThing" (.int t) as
def U.mk (u : U) (e : AN.Env) : R O := match u with
  | .ok f => .ok (.obj "Several" (sevF f)) e
  | .pl i => .exc "AlreadyThere" (plc i) e
  | .th t => .exc "BadThing" (.int t) e
theorem unlike_eq {rows : List Row} (hl : rows.length ≤ 900) : F_unlike_rows [.fz (.tup (rows.map addO))] = (unl [] rows).fz [.fz (.tup (rows.map addO))] := by
  have h := unlike_ok hl
  cases q : unl [] rows with
  | ok f => rw [q] at h; exact h.1
  | pl i => rw [q] at h; exact h
  | th t => rw [q] at h; exact h
theorem unl_len {rows f : List Row} (hl : rows.length ≤ 900) (q : unl [] rows = .ok f) : f.length ≤ rows.length := by
  have h := unlike_ok hl
  rw [q] at h
  exact h.2
theorem isA (a : Row) : isG (fun _ => false) is_Addition (addO a) = some (.bl true) := rfl
theorem isA_oth {d : D} (h : AN.isObj d = false) : isG (fun _ => false) is_Addition d = some (.bl false) := by
  cases d with
  | obj _ _ => cases h
  | _ => rfl
def iBody : M Fl := (mW [false, false, true] (mIfS (mNot (mT (mD (mB1 (isG (fun _ => false) is_Addition) (mV 2))))) (mRaise "BadAddition" (mV 2)) mNx))
theorem iLoop {A B : AN.Slot} {rows : List Row} : loop (gN 2) iBody (rows.map addO) [A, B, .no] = .ok .nx [A, B, .no] := by
  refine loop_same fun d hd => ?_
  obtain ⟨a, _, rfl⟩ := List.mem_map.mp hd
  exact ⟨[A, B, .fz (addO a)], rfl, .inl (by simp [iBody, mV, isA, truth])⟩
theorem sInit_M : m_Several_init = mSeq (mFor (mIt (mV 1)) (gN 2) iBody) (mSetF ok_fld_kept 0 "kept" (mCall 1 F_unlike_rows (mA (mV 1) mA0))) := rfl
theorem okS : ok_fld_kept "Several" = true := by decide
theorem sInit_ok {rows : List Row} (hl : rows.length ≤ 900) : F_Several_init [.ow true (.obj "Several" []), .fz (.tup (rows.map addO))] = (match unl [] rows with
    | .ok f => .ok (.fz .non) [.ow true (.obj "Several" (sevF f)), .fz (.tup (rows.map addO))]
    | .pl i => .exc "AlreadyThere" (plc i) [.ow true (.obj "Several" []), .fz (.tup (rows.map addO))]
    | .th t => .exc "BadThing" (.int t) [.ow true (.obj "Several" []), .fz (.tup (rows.map addO))]) := by
  have h := unlike_eq hl
  cases q : unl [] rows with
  | ok f =>
    rw [q] at h
    have c := fun e => callN1 (e := e) h
    simp [F_Several_init, runF, sInit_M, mV, seqOf, iLoop, c, setF, okS, putD, outs]
  | pl i =>
    rw [q] at h
    have c := fun e => callX1 (e := e) h
    simp [F_Several_init, runF, sInit_M, mV, seqOf, iLoop, c, outs]
  | th t =>
    rw [q] at h
    have c := fun e => callX1 (e := e) h
    simp [F_Several_init, runF, sInit_M, mV, seqOf, iLoop, c, outs]
theorem makeS {xs : List Opd} {rows : List Row} {e : AN.Env} (hl : rows.length ≤ 900) (hx : frzs xs e = .ok (rows.map addO) e) : makeSt "Several" F_Several_init xs e = (unl [] rows).mk e := by
  unfold makeSt
  rw [hx]
  dsimp only
  rw [if_pos (by rw [List.length_map]; exact zL (by omega))]
  have h := sInit_ok hl
  unfold makeP
  rw [if_pos (show [Opd.d (D.tup (rows.map addO))].length = 1 from rfl)]
  simp only [frzs_cons, frz1_d, frzs_nil, th_ok, List.map_cons, List.map_nil, h]
  cases unl [] rows <;> rfl
theorem fK (rows : List Row) : dFld ok_fld_kept "kept" (sevO rows) = some (.tup (rows.map addO)) := rfl
theorem adds_ok (f : List Row) : F_Several_additions [.fz (sevO f)] = .ok (.fz (.tup (f.map addO))) [.fz (sevO f)] := by
  simp [F_Several_additions, runF, m_Several_additions, mV, fK, outs]
end G

set_option Elab.async false
set_option maxRecDepth 100000
set_option linter.unusedVariables false
set_option linter.unusedSimpArgs false
namespace G
open PySem L2 AN
def wds : List D := [.str "a", .str "b", .str "abcdefgh"]
theorem plc7 : ∀ i, dle 7 (plc i) = true := by decide +kernel
theorem in_pl {i : Fin 10} {rows : List Row} : dInX true (plc i) (.lst (rows.map fun a => plc a.1)) = some (.bl (!plIn i rows)) := by
  have hd : dle 8 (.lst (rows.map fun a => plc a.1)) = true := by
    show (rows.map fun a => plc a.1).all (dle 7) = true
    rw [List.all_map, List.all_eq_true]
    exact fun a _ => plc7 a.1
  have : inD (plc i) (.lst (rows.map fun a => plc a.1)) = some ((rows.map fun a => plc a.1).any fun y => deqv y (plc i)) := by
    show (if _ then _ else _) = _
    rw [if_pos (by rw [plc_dle, hd]; rfl)]
  unfold dInX
  rw [this]
  show some (D.bl (!_)) = _
  rw [List.any_map]
  have e : (fun a : Row => deqv (plc a.1) (plc i)) = fun a => decide (i = a.1) := by
    funext a
    rw [plc_eqv]
    exact decide_eq_decide.mpr ⟨Eq.symm, Eq.symm⟩
  unfold plIn
  rw [← e]
  rfl
theorem in_th {t : Int} {rows : List Row} : dInX true (.int t) (.lst (rows.map fun a => .int a.2)) = some (.bl (!thIn t rows)) := by
  have hd : dle 8 (.lst (rows.map fun a => D.int a.2)) = true := by
    show (rows.map fun a => D.int a.2).all (dle 7) = true
    rw [List.all_map, List.all_eq_true]
    exact fun a _ => rfl
  have : inD (.int t) (.lst (rows.map fun a => .int a.2)) = some ((rows.map fun a => D.int a.2).any fun y => deqv y (.int t)) := by
    show (if _ then _ else _) = _
    rw [if_pos (by rw [hd]; rfl)]
  unfold dInX
  rw [this]
  show some (D.bl (!_)) = _
  rw [List.any_map]
  have e : (fun a : Row => deqv (.int a.2) (.int t)) = fun a => (t == a.2) := by
    funext a
    show (a.2 == t) = (t == a.2)
    exact BEq.comm
  unfold thIn
  rw [← e]
  rfl
theorem ix_row0 (a : Row) : dIx (rowD a) (.int 0) = some (plc a.1) := by simp [rowD, dIx, L2.atI, ixN]
theorem ix_row1 (a : Row) : dIx (rowD a) (.int 1) = some (.int a.2) := by simp [rowD, dIx, L2.atI, ixN]
def three (c1 c2 c3 : D) : List D := [.tup [.str "name", .str "l", c1], .tup [.str "member", .str "l", c2], .tup [.str "spread", .str "l", .str "k", c3]]
theorem three_pl {c1 c2 c3 p : D} (h1 : c1 ∈ wds) (h2 : c2 ∈ wds) (h3 : c3 ∈ wds) (hp : p ∈ three c1 c2 c3) : ∃ i : Fin 10, i ≠ 9 ∧ p = plc i := by
  simp only [wds, List.mem_cons, List.not_mem_nil, or_false] at h1 h2 h3
  simp only [three, List.mem_cons, List.not_mem_nil, or_false] at hp
  rcases hp with rfl | rfl | rfl
  · rcases h1 with rfl | rfl | rfl
    · exact ⟨0, by decide, rfl⟩
    · exact ⟨1, by decide, rfl⟩
    · exact ⟨2, by decide, rfl⟩
  · rcases h2 with rfl | rfl | rfl
    · exact ⟨3, by decide, rfl⟩
    · exact ⟨4, by decide, rfl⟩
    · exact ⟨5, by decide, rfl⟩
  · rcases h3 with rfl | rfl | rfl
    · exact ⟨6, by decide, rfl⟩
    · exact ⟨7, by decide, rfl⟩
    · exact ⟨8, by decide, rfl⟩
end G

set_option Elab.async false
set_option maxRecDepth 100000
set_option linter.unusedVariables false
set_option linter.unusedSimpArgs false
namespace G
open PySem L2 AN
theorem plc6 : ∀ i, dle 6 (plc i) = true := by decide +kernel
theorem plc5 : ∀ i, dle 5 (plc i) = true := by decide +kernel
theorem row7 (a : Row) : dle 7 (rowD a) = true := by
  show (dle 6 (plc a.1) && (dle 6 (.int a.2) && true)) = true
  rw [plc6]; rfl
theorem rows_dle {rows : List Row} : dle 8 (.lst (rows.map rowD)) = true := by
  show (rows.map rowD).all (dle 7) = true
  rw [List.all_map, List.all_eq_true]
  exact fun a _ => row7 a
theorem row8 (a : Row) : dle 8 (rowD a) = true := by
  show (dle 7 (plc a.1) && (dle 7 (.int a.2) && true)) = true
  rw [plc7]; rfl
theorem eqv_row (a b : Row) : deqv (rowD b) (rowD a) = decide (b = a) := by
  show (PyData.eqv (toP (plc b.1)) (toP (plc a.1)) && ((b.2 == a.2) && true)) = _
  rw [show PyData.eqv (toP (plc b.1)) (toP (plc a.1)) = deqv (plc b.1) (plc a.1) from rfl, plc_eqv]
  obtain ⟨i, t⟩ := a
  obtain ⟨j, u⟩ := b
  by_cases h1 : j = i
  · by_cases h2 : u = t <;> simp [h1, h2]
  · simp [h1]
theorem in_row {neg : Bool} {a : Row} {g : List Row} : dInX neg (rowD a) (.lst (g.map rowD)) = some (.bl (if neg then !decide (a ∈ g) else decide (a ∈ g))) := by
  have : inD (rowD a) (.lst (g.map rowD)) = some ((g.map rowD).any fun y => deqv y (rowD a)) := by
    show (if _ then _ else _) = _
    rw [if_pos (by rw [row8, rows_dle]; rfl)]
  unfold dInX
  rw [this]
  show some (D.bl (if neg = true then !_ else _)) = _
  rw [List.any_map]
  have e : (g.any ((fun y => deqv y (rowD a)) ∘ rowD)) = decide (a ∈ g) := by
    by_cases h : a ∈ g
    · rw [decide_eq_true h, List.any_eq_true]
      exact ⟨a, h, by simp [eqv_row]⟩
    · rw [decide_eq_false h, List.any_eq_false]
      intro b hb
      simp only [Function.comp, eqv_row, decide_eq_true_eq]
      exact fun z => h (z ▸ hb)
  rw [e]
theorem eq_nil {xs : List Row} : dEq (.lst (xs.map rowD)) (.lst []) = some (.bl xs.isEmpty) := by
  unfold dEq
  rw [if_pos (by rw [rows_dle]; rfl)]
  cases xs <;> rfl
theorem ne_nil {xs : List Row} : dNe (.lst (xs.map rowD)) (.lst []) = some (.bl (!xs.isEmpty)) := by
  unfold dNe
  rw [if_pos (by rw [rows_dle]; rfl)]
  cases xs <;> rfl
/-- a list comprehension with a test -/
theorem lcF {α : Type} {vs : List Nat} {g : D → AN.Env → Option AN.Env} {mt : M Bool} {me : M Opd} {E : AN.Env} {h h' : α → D} {p : α → Bool} (mk : α → AN.Env) : ∀ {xs : List α} {acc : List D}, (∀ a ∈ xs, g (h a) E = some (mk a) ∧ mt (mk a) = .ok (p a) (mk a) ∧ M.bind me frz1 (mk a) = .ok (h' a) (mk a) ∧ wipeE vs 0 (mk a) = E) → lc vs g mt me (xs.map h) acc E = .ok (acc ++ (xs.filter p).map h') E
  | [], acc, _ => by simp [lc]
  | a :: xs, acc, s => by
    obtain ⟨s1, s2, s3, s4⟩ := s a (by simp)
    have ih := fun acc => lcF (vs := vs) (g := g) (mt := mt) (me := me) (E := E) (h := h) (h' := h') (p := p) mk (xs := xs) (acc := acc) fun b hb => s b (by simp [hb])
    rw [List.map_cons, List.filter_cons]
    cases q : p a with
    | true =>
      rw [q] at s2
      simp only [lc, s1, s2, s3, s4, ih, if_true, List.map_cons, List.append_assoc, List.cons_append, List.nil_append]
    | false =>
      rw [q] at s2
      simp only [lc, s1, s2, s4, ih, Bool.false_eq_true, if_false]
end G

set_option Elab.async false
set_option maxRecDepth 100000
set_option linter.unusedVariables false
set_option linter.unusedSimpArgs false
namespace G
open PySem L2 AN
/-! the law's own joining -/
def J : U → D
  | .ok r => .lst (r.map rowD)
  | .pl i => .lst [.str "place", plc i]
  | .th t => .lst [.str "thing", .int t]
def U.jn (u : U) : O := match u with
  | .ok r => .lst (r.map rowD)
  | .pl i => .lst [.str "place", plc i]
  | .th t => .lst [.str "thing", .int t]
theorem J_dle (u : U) : dle 8 (J u) = true := by
  cases u with
  | ok r => exact rows_dle
  | pl i =>
    show (dle 7 (.str "place") && (dle 7 (plc i) && true)) = true
    rw [plc7]; rfl
  | th t => rfl
theorem inY_pl {i : Fin 10} {rows : List Row} : dInX false (plc i) (.lst (rows.map fun a => plc a.1)) = some (.bl (plIn i rows)) := by
  have h := in_pl (i := i) (rows := rows)
  unfold dInX at h ⊢
  cases q : inD (plc i) (.lst (rows.map fun a => plc a.1)) with
  | none => rw [q] at h; cases h
  | some b =>
    rw [q] at h
    simp only [Option.map_some, if_true, Option.some.injEq, D.bl.injEq, Bool.not_inj_iff] at h
    simp [h]
theorem inY_th {t : Int} {rows : List Row} : dInX false (.int t) (.lst (rows.map fun a => .int a.2)) = some (.bl (thIn t rows)) := by
  have h := in_th (t := t) (rows := rows)
  unfold dInX at h ⊢
  cases q : inD (.int t) (.lst (rows.map fun a => .int a.2)) with
  | none => rw [q] at h; cases h
  | some b =>
    rw [q] at h
    simp only [Option.map_some, if_true, Option.some.injEq, D.bl.injEq, Bool.not_inj_iff] at h
    simp [h]
def jB : M Fl := (mW [false, false, true, true] (mIfS (mB2 (g2b (dInX true)) (mTup (mA (mV 2) (mA (mV 3) mA0))) (mV 1)) (mSeq (mIfS (mB2 (g2b (dInX false)) (mV 2) (mFz (mLCo 1 [4] (gN 4) (M.pure true) (mD (mB2 dIx (mV 4) (mC (.int 0))))))) (mRetO (mLst (mA (mC (.str "place")) (mA (mV 2) mA0)))) mNx)
    (mSeq (mIfS (mB2 (g2b (dInX false)) (mV 3) (mFz (mLCo 1 [4] (gN 4) (M.pure true) (mD (mB2 dIx (mV 4) (mC (.int 1))))))) (mRetO (mLst (mA (mC (.str "thing")) (mA (mV 3) mA0)))) mNx)
    (mApp 1 (mTup (mA (mV 2) (mA (mV 3) mA0)))))) mNx))
theorem jL0 {A s2 s3 : AN.Slot} {f : List Row} : lc [4] (gN 4) (M.pure true) (mD (mB2 dIx (mV 4) (mC (.int 0)))) (f.map rowD) [] [A, .no, s2, s3, .no] = .ok (f.map fun a => plc a.1) [A, .no, s2, s3, .no] := by
  have := lcF (vs := [4]) (g := gN 4) (mt := M.pure true) (me := mD (mB2 dIx (mV 4) (mC (.int 0)))) (E := [A, .no, s2, s3, .no]) (h := rowD) (h' := fun a => plc a.1) (p := fun _ => true) (fun a => [A, .no, s2, s3, .fz (rowD a)]) (xs := f) (acc := []) (fun a _ => ⟨rfl, rfl, by simp only [runF, mSeq_r, mIfS_r, mSet_r, mSetO_r, mRet_r, mRetO_r, mRetN_r, mNx_r, mDrop_r, frz1_d, frzs_cons, frzs_nil, mA0_r, mA_r, mAS_r, mTup_r, mLst_r, mFz_r, mDic0_r, toD_lst, toD_dic, toD_obj, mAnd_r, mOr_r, mNot_r, mAndV_r, mOrV_r, mNotV_r, mT_r, mIf_r, mChain_r, mIt_r, mRng1_r, mFor_r, mAsg_r, mPar_r, mParO_r, mCall_r, mCallO_r, retO_r, retD_fz, retD_ow, mCallM_r, mCallMO_r, mCallT_r, mSl_r, mM1_r, mPutAt_r, mLC_r, mD_r, mB1_r, mB2_r, mC_r, mV, ap1_r, ap2_r, view_d, view, g2b_r, th_ok, th_exc, rop_some, pure_r, bind_r, mMake_r, mMakeSt_r, callD_r, callO_r, mOp2_r, mIxO_r, mAt_r, mRaise_r, mSetF_r, mMeth_r, mMethO_r, mEnum_r, mApp_r, chkL, appAt, mTry_r, hd_ok, hd_exc, mW_r, wp_nx, wp_ct, wp_bk, wp_rt, wp_ro, wp_exc, wipeB_t, wipeB_f, wipeB_n, wpS_no, wpS_fz, wpS_owf, wpS_owt, List.getElem?_cons_zero, List.getElem?_cons_succ, List.set_cons_zero, List.set_cons_succ, Option.bind_some, Option.map_some, if_true, if_false, eq_self, Bool.false_eq_true, Bool.not_true, Bool.not_false, List.cons_append, List.nil_append, List.append_nil, List.replicate, put, blOf, truth, outs, List.length_cons, List.length_nil, Nat.reduceAdd, Nat.zero_add, ix_row0], rfl⟩)
  rw [this, List.filter_eq_self.mpr (fun _ _ => rfl)]; rfl
theorem jL1 {A s2 s3 : AN.Slot} {f : List Row} : lc [4] (gN 4) (M.pure true) (mD (mB2 dIx (mV 4) (mC (.int 1)))) (f.map rowD) [] [A, .no, s2, s3, .no] = .ok (f.map fun a => .int a.2) [A, .no, s2, s3, .no] := by
  have := lcF (vs := [4]) (g := gN 4) (mt := M.pure true) (me := mD (mB2 dIx (mV 4) (mC (.int 1)))) (E := [A, .no, s2, s3, .no]) (h := rowD) (h' := fun a => .int a.2) (p := fun _ => true) (fun a => [A, .no, s2, s3, .fz (rowD a)]) (xs := f) (acc := []) (fun a _ => ⟨rfl, rfl, by simp only [runF, mSeq_r, mIfS_r, mSet_r, mSetO_r, mRet_r, mRetO_r, mRetN_r, mNx_r, mDrop_r, frz1_d, frzs_cons, frzs_nil, mA0_r, mA_r, mAS_r, mTup_r, mLst_r, mFz_r, mDic0_r, toD_lst, toD_dic, toD_obj, mAnd_r, mOr_r, mNot_r, mAndV_r, mOrV_r, mNotV_r, mT_r, mIf_r, mChain_r, mIt_r, mRng1_r, mFor_r, mAsg_r, mPar_r, mParO_r, mCall_r, mCallO_r, retO_r, retD_fz, retD_ow, mCallM_r, mCallMO_r, mCallT_r, mSl_r, mM1_r, mPutAt_r, mLC_r, mD_r, mB1_r, mB2_r, mC_r, mV, ap1_r, ap2_r, view_d, view, g2b_r, th_ok, th_exc, rop_some, pure_r, bind_r, mMake_r, mMakeSt_r, callD_r, callO_r, mOp2_r, mIxO_r, mAt_r, mRaise_r, mSetF_r, mMeth_r, mMethO_r, mEnum_r, mApp_r, chkL, appAt, mTry_r, hd_ok, hd_exc, mW_r, wp_nx, wp_ct, wp_bk, wp_rt, wp_ro, wp_exc, wipeB_t, wipeB_f, wipeB_n, wpS_no, wpS_fz, wpS_owf, wpS_owt, List.getElem?_cons_zero, List.getElem?_cons_succ, List.set_cons_zero, List.set_cons_succ, Option.bind_some, Option.map_some, if_true, if_false, eq_self, Bool.false_eq_true, Bool.not_true, Bool.not_false, List.cons_append, List.nil_append, List.append_nil, List.replicate, put, blOf, truth, outs, List.length_cons, List.length_nil, Nat.reduceAdd, Nat.zero_add, ix_row1], rfl⟩)
  rw [this, List.filter_eq_self.mpr (fun _ _ => rfl)]; rfl
theorem jC0 {A s2 s3 : AN.Slot} {f : List Row} : mLCo 1 [4] (gN 4) (M.pure true) (mD (mB2 dIx (mV 4) (mC (.int 0)))) [A, .ow false (.lst (f.map rowD)), s2, s3, .no] = .ok (.lst (f.map fun a => plc a.1)) [A, .ow false (.lst (f.map rowD)), s2, s3, .no] :=
  mLCo_r (i := 1) (vs := [4]) (k := false) (ds := f.map rowD) (e2 := [A, .no, s2, s3, .no]) rfl (by decide) jL0
theorem jC1 {A s2 s3 : AN.Slot} {f : List Row} : mLCo 1 [4] (gN 4) (M.pure true) (mD (mB2 dIx (mV 4) (mC (.int 1)))) [A, .ow false (.lst (f.map rowD)), s2, s3, .no] = .ok (.lst (f.map fun a => .int a.2)) [A, .ow false (.lst (f.map rowD)), s2, s3, .no] :=
  mLCo_r (i := 1) (vs := [4]) (k := false) (ds := f.map rowD) (e2 := [A, .no, s2, s3, .no]) rfl (by decide) jL1
theorem jRow (a : Row) : D.tup [plc a.1, .int a.2] = rowD a := rfl
theorem jB_ok {A : AN.Slot} {f : List Row} {a : Row} (hl : f.length ≤ 900) : jB [A, .ow false (.lst (f.map rowD)), .fz (plc a.1), .fz (.int a.2), .no] = (if a ∈ f then .ok .nx [A, .ow false (.lst (f.map rowD)), .no, .no, .no] else if plIn a.1 f = true then .ok (.ro (.lst [.str "place", plc a.1])) [A, .ow false (.lst (f.map rowD)), .fz (plc a.1), .fz (.int a.2), .no] else if thIn a.2 f = true then .ok (.ro (.lst [.str "thing", .int a.2])) [A, .ow false (.lst (f.map rowD)), .fz (plc a.1), .fz (.int a.2), .no] else .ok .nx [A, .ow false (.lst ((f ++ [a]).map rowD)), .no, .no, .no]) := by
  have z2 := zL (n := 2) (by omega)
  have zf : (f.map rowD).length < sizeLine := by rw [List.length_map]; exact zL (by omega)
  have i1 := in_row (neg := true) (a := a) (g := f)
  by_cases q : a ∈ f
  · rw [if_pos q]
    rw [if_pos rfl, decide_eq_true q] at i1
    simp only [jB, runF, mSeq_r, mIfS_r, mSet_r, mSetO_r, mRet_r, mRetO_r, mRetN_r, mNx_r, mDrop_r, frz1_d, frzs_cons, frzs_nil, mA0_r, mA_r, mAS_r, mTup_r, mLst_r, mFz_r, mDic0_r, toD_lst, toD_dic, toD_obj, mAnd_r, mOr_r, mNot_r, mAndV_r, mOrV_r, mNotV_r, mT_r, mIf_r, mChain_r, mIt_r, mRng1_r, mFor_r, mAsg_r, mPar_r, mParO_r, mCall_r, mCallO_r, retO_r, retD_fz, retD_ow, mCallM_r, mCallMO_r, mCallT_r, mSl_r, mM1_r, mPutAt_r, mLC_r, mD_r, mB1_r, mB2_r, mC_r, mV, ap1_r, ap2_r, view_d, view, g2b_r, th_ok, th_exc, rop_some, pure_r, bind_r, mMake_r, mMakeSt_r, callD_r, callO_r, mOp2_r, mIxO_r, mAt_r, mRaise_r, mSetF_r, mMeth_r, mMethO_r, mEnum_r, mApp_r, chkL, appAt, mTry_r, hd_ok, hd_exc, mW_r, wp_nx, wp_ct, wp_bk, wp_rt, wp_ro, wp_exc, wipeB_t, wipeB_f, wipeB_n, wpS_no, wpS_fz, wpS_owf, wpS_owt, List.getElem?_cons_zero, List.getElem?_cons_succ, List.set_cons_zero, List.set_cons_succ, Option.bind_some, Option.map_some, if_true, if_false, eq_self, Bool.false_eq_true, Bool.not_true, Bool.not_false, List.cons_append, List.nil_append, List.append_nil, List.replicate, put, blOf, truth, outs, List.length_cons, List.length_nil, Nat.reduceAdd, Nat.zero_add, lim_r z2, jRow, i1]
  · rw [if_neg q]
    rw [if_pos rfl, decide_eq_false q] at i1
    by_cases q1 : plIn a.1 f = true
    · rw [if_pos q1]
      have i2 := inY_pl (i := a.1) (rows := f)
      rw [q1] at i2
      simp only [jB, runF, mSeq_r, mIfS_r, mSet_r, mSetO_r, mRet_r, mRetO_r, mRetN_r, mNx_r, mDrop_r, frz1_d, frzs_cons, frzs_nil, mA0_r, mA_r, mAS_r, mTup_r, mLst_r, mFz_r, mDic0_r, toD_lst, toD_dic, toD_obj, mAnd_r, mOr_r, mNot_r, mAndV_r, mOrV_r, mNotV_r, mT_r, mIf_r, mChain_r, mIt_r, mRng1_r, mFor_r, mAsg_r, mPar_r, mParO_r, mCall_r, mCallO_r, retO_r, retD_fz, retD_ow, mCallM_r, mCallMO_r, mCallT_r, mSl_r, mM1_r, mPutAt_r, mLC_r, mD_r, mB1_r, mB2_r, mC_r, mV, ap1_r, ap2_r, view_d, view, g2b_r, th_ok, th_exc, rop_some, pure_r, bind_r, mMake_r, mMakeSt_r, callD_r, callO_r, mOp2_r, mIxO_r, mAt_r, mRaise_r, mSetF_r, mMeth_r, mMethO_r, mEnum_r, mApp_r, chkL, appAt, mTry_r, hd_ok, hd_exc, mW_r, wp_nx, wp_ct, wp_bk, wp_rt, wp_ro, wp_exc, wipeB_t, wipeB_f, wipeB_n, wpS_no, wpS_fz, wpS_owf, wpS_owt, List.getElem?_cons_zero, List.getElem?_cons_succ, List.set_cons_zero, List.set_cons_succ, Option.bind_some, Option.map_some, if_true, if_false, eq_self, Bool.false_eq_true, Bool.not_true, Bool.not_false, List.cons_append, List.nil_append, List.append_nil, List.replicate, put, blOf, truth, outs, List.length_cons, List.length_nil, Nat.reduceAdd, Nat.zero_add, lim_r z2, jRow, i1, jC0, i2]
    · rw [if_neg q1]
      have i2 := inY_pl (i := a.1) (rows := f)
      rw [Bool.eq_false_iff.mpr q1] at i2
      by_cases q2 : thIn a.2 f = true
      · rw [if_pos q2]
        have i3 := inY_th (t := a.2) (rows := f)
        rw [q2] at i3
        simp only [jB, runF, mSeq_r, mIfS_r, mSet_r, mSetO_r, mRet_r, mRetO_r, mRetN_r, mNx_r, mDrop_r, frz1_d, frzs_cons, frzs_nil, mA0_r, mA_r, mAS_r, mTup_r, mLst_r, mFz_r, mDic0_r, toD_lst, toD_dic, toD_obj, mAnd_r, mOr_r, mNot_r, mAndV_r, mOrV_r, mNotV_r, mT_r, mIf_r, mChain_r, mIt_r, mRng1_r, mFor_r, mAsg_r, mPar_r, mParO_r, mCall_r, mCallO_r, retO_r, retD_fz, retD_ow, mCallM_r, mCallMO_r, mCallT_r, mSl_r, mM1_r, mPutAt_r, mLC_r, mD_r, mB1_r, mB2_r, mC_r, mV, ap1_r, ap2_r, view_d, view, g2b_r, th_ok, th_exc, rop_some, pure_r, bind_r, mMake_r, mMakeSt_r, callD_r, callO_r, mOp2_r, mIxO_r, mAt_r, mRaise_r, mSetF_r, mMeth_r, mMethO_r, mEnum_r, mApp_r, chkL, appAt, mTry_r, hd_ok, hd_exc, mW_r, wp_nx, wp_ct, wp_bk, wp_rt, wp_ro, wp_exc, wipeB_t, wipeB_f, wipeB_n, wpS_no, wpS_fz, wpS_owf, wpS_owt, List.getElem?_cons_zero, List.getElem?_cons_succ, List.set_cons_zero, List.set_cons_succ, Option.bind_some, Option.map_some, if_true, if_false, eq_self, Bool.false_eq_true, Bool.not_true, Bool.not_false, List.cons_append, List.nil_append, List.append_nil, List.replicate, put, blOf, truth, outs, List.length_cons, List.length_nil, Nat.reduceAdd, Nat.zero_add, lim_r z2, jRow, i1, jC0, i2, jC1, i3]
      · rw [if_neg q2]
        have i3 := inY_th (t := a.2) (rows := f)
        rw [Bool.eq_false_iff.mpr q2] at i3
        simp only [jB, runF, mSeq_r, mIfS_r, mSet_r, mSetO_r, mRet_r, mRetO_r, mRetN_r, mNx_r, mDrop_r, frz1_d, frzs_cons, frzs_nil, mA0_r, mA_r, mAS_r, mTup_r, mLst_r, mFz_r, mDic0_r, toD_lst, toD_dic, toD_obj, mAnd_r, mOr_r, mNot_r, mAndV_r, mOrV_r, mNotV_r, mT_r, mIf_r, mChain_r, mIt_r, mRng1_r, mFor_r, mAsg_r, mPar_r, mParO_r, mCall_r, mCallO_r, retO_r, retD_fz, retD_ow, mCallM_r, mCallMO_r, mCallT_r, mSl_r, mM1_r, mPutAt_r, mLC_r, mD_r, mB1_r, mB2_r, mC_r, mV, ap1_r, ap2_r, view_d, view, g2b_r, th_ok, th_exc, rop_some, pure_r, bind_r, mMake_r, mMakeSt_r, callD_r, callO_r, mOp2_r, mIxO_r, mAt_r, mRaise_r, mSetF_r, mMeth_r, mMethO_r, mEnum_r, mApp_r, chkL, appAt, mTry_r, hd_ok, hd_exc, mW_r, wp_nx, wp_ct, wp_bk, wp_rt, wp_ro, wp_exc, wipeB_t, wipeB_f, wipeB_n, wpS_no, wpS_fz, wpS_owf, wpS_owt, List.getElem?_cons_zero, List.getElem?_cons_succ, List.set_cons_zero, List.set_cons_succ, Option.bind_some, Option.map_some, if_true, if_false, eq_self, Bool.false_eq_true, Bool.not_true, Bool.not_false, List.cons_append, List.nil_append, List.append_nil, List.replicate, put, blOf, truth, outs, List.length_cons, List.length_nil, Nat.reduceAdd, Nat.zero_add, lim_r z2, jRow, i1, jC0, i2, jC1, i3, if_pos zf, wp_nx, wipeB_t, wipeB_f, wpS_owf, wpS_fz, wipeB_n, List.map_append, List.map_cons, List.map_nil]
end G

set_option Elab.async false
set_option maxRecDepth 100000
set_option linter.unusedVariables false
set_option linter.unusedSimpArgs false
namespace G
open PySem L2 AN
theorem jLoop {A : AN.Slot} : ∀ {rest f : List Row}, f.length + rest.length ≤ 900 → (match unl f rest with
    | .ok r => loop (gT 2 (gs (gN 2) (gs (gN 3) gs0))) jB (rest.map rowD) [A, .ow false (.lst (f.map rowD)), .no, .no, .no] = .ok .nx [A, .ow false (.lst (r.map rowD)), .no, .no, .no]
    | u => ∃ e, loop (gT 2 (gs (gN 2) (gs (gN 3) gs0))) jB (rest.map rowD) [A, .ow false (.lst (f.map rowD)), .no, .no, .no] = .ok (.ro u.jn) (A :: e))
  | [], f, _ => by simp [unl, loop]
  | a :: rest, f, h => by
    rw [List.length_cons] at h
    have g : gT 2 (gs (gN 2) (gs (gN 3) gs0)) (rowD a) [A, .ow false (.lst (f.map rowD)), .no, .no, .no] = some [A, .ow false (.lst (f.map rowD)), .fz (plc a.1), .fz (.int a.2), .no] := rfl
    have b := jB_ok (A := A) (f := f) (a := a) (by omega)
    unfold unl
    by_cases q : a ∈ f
    · rw [if_pos q] at b ⊢
      have ih := jLoop (A := A) (rest := rest) (f := f) (by omega)
      simp only [List.map_cons, loop, g, b]
      exact ih
    · rw [if_neg q] at b ⊢
      by_cases q1 : plIn a.1 f = true
      · rw [if_pos q1] at b ⊢
        simp only [List.map_cons, loop, g, b]
        exact ⟨_, rfl⟩
      · rw [if_neg q1] at b ⊢
        by_cases q2 : thIn a.2 f = true
        · rw [if_pos q2] at b ⊢
          simp only [List.map_cons, loop, g, b]
          exact ⟨_, rfl⟩
        · rw [if_neg q2] at b ⊢
          have ih := jLoop (A := A) (rest := rest) (f := f ++ [a]) (by simp; omega)
          simp only [List.map_cons, loop, g, b]
          exact ih
end G

set_option Elab.async false
set_option maxRecDepth 100000
set_option linter.unusedVariables false
set_option linter.unusedSimpArgs false
namespace G
open PySem L2 AN
theorem len_ok (f : List Row) : F_Several_len [.fz (sevO f)] = .ok (.fz (.int (f.length : Nat))) [.fz (sevO f)] := by
  simp [F_Several_len, runF, m_Several_len, mV, fK, dLen, outs]
theorem lenS {f : List Row} (hl : f.length ≤ 900) : dLenO t_ln_Several (sevO f) = some (.int (f.length : Nat)) := dLenO_obj rfl (len_ok f) (by omega)
theorem atAdds {f : List Row} {e : AN.Env} : atP t_pr_additions_Several ok_fld_additions "additions" (.d (sevO f)) e = .ok (.d (.tup (f.map addO))) e := atP_obj rfl (adds_ok f)
end G

set_option Elab.async false
set_option maxRecDepth 100000
set_option linter.unusedVariables false
set_option linter.unusedSimpArgs false
namespace G
open PySem L2 AN
/-! one drawn row -/
theorem drawn_ok {a b : Int} (hP : Pl a b) : ∃ (r : Row) (a' b' : Int), F_law_drawn_addition [.ow true (pl a b)] = .ok (.fz (rowD r)) [.ow true (pl a' b')] ∧ okT r.2 ∧ Pl a' b' := by
  obtain ⟨c1, a1, b1, p1, m1, q1⟩ := pick_lst (s := wds) hP (by decide) (by decide)
  obtain ⟨c2, a2, b2, p2, m2, q2⟩ := pick_lst (s := wds) q1 (by decide) (by decide)
  obtain ⟨c3, a3, b3, p3, m3, q3⟩ := pick_lst (s := wds) q2 (by decide) (by decide)
  obtain ⟨p, a4, b4, p4, m4, q4⟩ := pick_lst (s := three c1 c2 c3) q3 (by simp [three]) (by simp [three])
  obtain ⟨i, _, rfl⟩ := three_pl m1 m2 m3 m4
  obtain ⟨t, a5, b5, p5, m5, q5⟩ := pick_lst (s := [.int 1, .int 2, .int 3, .int 1000000000]) q4 (by simp) (by simp)
  have ht : ∃ n : Int, t = .int n ∧ okT n := by
    simp only [List.mem_cons, List.not_mem_nil, or_false] at m5
    rcases m5 with rfl | rfl | rfl | rfl
    · exact ⟨_, rfl, by unfold okT; omega⟩
    · exact ⟨_, rfl, by unfold okT; omega⟩
    · exact ⟨_, rfl, by unfold okT; omega⟩
    · exact ⟨_, rfl, by unfold okT; omega⟩
  obtain ⟨n, rfl, hn⟩ := ht
  refine ⟨(i, n), a5, b5, ?_, hn, q5⟩
  have e1 : callM [true, false] F_law_pick [.sl 0, .d (.lst wds)] [.ow true (pl a b), .fz (.lst wds), .no] = .ok (.fz c1) [.ow true (pl a1 b1), .fz (.lst wds), .no] := callM_ok (by simp [ioS]) (ds := [.non, .lst wds]) rfl rfl p1 rfl
  have e2 : callM [true, false] F_law_pick [.sl 0, .d (.lst wds)] [.ow true (pl a1 b1), .fz (.lst wds), .no] = .ok (.fz c2) [.ow true (pl a2 b2), .fz (.lst wds), .no] := callM_ok (by simp [ioS]) (ds := [.non, .lst wds]) rfl rfl p2 rfl
  have e3 : callM [true, false] F_law_pick [.sl 0, .d (.lst wds)] [.ow true (pl a2 b2), .fz (.lst wds), .ow false (.lst [.tup [.str "name", .str "l", c1], .tup [.str "member", .str "l", c2]])] = .ok (.fz c3) [.ow true (pl a3 b3), .fz (.lst wds), .ow false (.lst [.tup [.str "name", .str "l", c1], .tup [.str "member", .str "l", c2]])] := callM_ok (by simp [ioS]) (ds := [.non, .lst wds]) rfl rfl p3 rfl
  have e4 : callM [true, false] F_law_pick [.sl 0, .sl 2] [.ow true (pl a3 b3), .fz (.lst wds), .ow false (.lst (three c1 c2 c3))] = .ok (.fz (plc i)) [.ow true (pl a4 b4), .fz (.lst wds), .fz (.lst (three c1 c2 c3))] := callM_ok (by simp [ioS]) (ds := [.non, .lst (three c1 c2 c3)]) rfl rfl p4 rfl
  have e5 : callM [true, false] F_law_pick [.sl 0, .d (.lst [.int 1, .int 2, .int 3, .int 1000000000])] [.ow true (pl a4 b4), .fz (.lst wds), .fz (.lst (three c1 c2 c3))] = .ok (.fz (.int n)) [.ow true (pl a5 b5), .fz (.lst wds), .fz (.lst (three c1 c2 c3))] := callM_ok (by simp [ioS]) (ds := [.non, .lst [.int 1, .int 2, .int 3, .int 1000000000]]) rfl rfl p5 rfl
  have z2 := zL (n := 2) (by omega); have z3 := zL (n := 3) (by omega); have z4 := zL (n := 4) (by omega)
  have s3 : 2 < sizeLine := zL (n := 3) (by omega)
  have ew : [D.str "a", .str "b", .str "abcdefgh"] = wds := rfl
  have wl : wds.length = 3 := rfl
  have et : [D.tup [.str "name", .str "l", c1], .tup [.str "member", .str "l", c2], .tup [.str "spread", .str "l", .str "k", c3]] = three c1 c2 c3 := rfl
  have p109 : dPow (.int 10) (.int 9) = some (.int 1000000000) := by rfl
  simp only [F_law_drawn_addition, m_law_drawn_addition, runF, mSeq_r, mIfS_r, mSet_r, mSetO_r, mRet_r, mRetO_r, mRetN_r, mNx_r, mDrop_r, frz1_d, frzs_cons, frzs_nil, mA0_r, mA_r, mAS_r, mTup_r, mLst_r, mFz_r, mDic0_r, toD_lst, toD_dic, toD_obj, mAnd_r, mOr_r, mNot_r, mAndV_r, mOrV_r, mNotV_r, mT_r, mIf_r, mChain_r, mIt_r, mRng1_r, mFor_r, mAsg_r, mPar_r, mParO_r, mCall_r, mCallO_r, retO_r, retD_fz, retD_ow, mCallM_r, mCallMO_r, mCallT_r, mSl_r, mM1_r, mPutAt_r, mLC_r, mD_r, mB1_r, mB2_r, mC_r, mV, ap1_r, ap2_r, view_d, view, g2b_r, th_ok, th_exc, rop_some, pure_r, bind_r, mMake_r, mMakeSt_r, callD_r, callO_r, mOp2_r, mIxO_r, mAt_r, mRaise_r, mSetF_r, mMeth_r, mMethO_r, mEnum_r, mApp_r, chkL, appAt, mTry_r, hd_ok, hd_exc, mW_r, wp_nx, wp_ct, wp_bk, wp_rt, wp_ro, wp_exc, wipeB_t, wipeB_f, wipeB_n, wpS_no, wpS_fz, wpS_owf, wpS_owt, List.getElem?_cons_zero, List.getElem?_cons_succ, List.set_cons_zero, List.set_cons_succ, Option.bind_some, Option.map_some, if_true, if_false, eq_self, Bool.false_eq_true, Bool.not_true, Bool.not_false, List.cons_append, List.nil_append, List.append_nil, List.replicate, put, blOf, truth, outs, List.length_cons, List.length_nil, Nat.reduceAdd, Nat.zero_add, ew, wl, lim_r z3, e1, lim_r z2, e2, e3, lim_r z4, if_pos s3, et, e4, p109, e5, jRow]
  rfl
end G

set_option Elab.async false
set_option maxRecDepth 100000
set_option linter.unusedVariables false
set_option linter.unusedSimpArgs false
namespace G
open PySem L2 AN
/-! what is due, what is made -/
def U.du (u : U) : O := match u with
  | .ok r => .lst [.str "kept", .tup (r.map rowD)]
  | .pl i => .lst [.str "place", plc i]
  | .th t => .lst [.str "thing", .int t]
theorem due_ok {rows : List Row} (hl : rows.length ≤ 900) : F_law_due_of [.fz (.lst (rows.map rowD))] = .ok (.ow (unl [] rows).du) [.fz (.lst (rows.map rowD))] := by
  have L := jLoop (A := .fz (.lst (rows.map rowD))) (rest := rows) (f := []) (by simpa using hl)
  have z0 : (0 : Nat) ≤ sizeLine := Nat.zero_le _
  have z2 := zL (n := 2) (by omega)
  have eM : m_law_due_of = mSeq (mSetO 1 (mLst mA0)) (mSeq (mFor (mIt (mV 0)) (gT 2 (gs (gN 2) (gs (gN 3) gs0))) jB) (mRetO (mLst (mA (mC (.str "kept")) (mA (mD (mB1 dTupOf (mV 1))) mA0))))) := rfl
  rw [List.map_nil] at L
  cases q : unl [] rows with
  | ok r =>
    rw [q] at L
    have tp : dTupOf (.lst (r.map rowD)) = some (.tup (r.map rowD)) := rfl
    simp only [F_law_due_of, eM, runF, mSeq_r, mIfS_r, mSet_r, mSetO_r, mRet_r, mRetO_r, mRetN_r, mNx_r, mDrop_r, frz1_d, frzs_cons, frzs_nil, mA0_r, mA_r, mAS_r, mTup_r, mLst_r, mFz_r, mDic0_r, toD_lst, toD_dic, toD_obj, mAnd_r, mOr_r, mNot_r, mAndV_r, mOrV_r, mNotV_r, mT_r, mIf_r, mChain_r, mIt_r, mRng1_r, mFor_r, mAsg_r, mPar_r, mParO_r, mCall_r, mCallO_r, retO_r, retD_fz, retD_ow, mCallM_r, mCallMO_r, mCallT_r, mSl_r, mM1_r, mPutAt_r, mLC_r, mD_r, mB1_r, mB2_r, mC_r, mV, ap1_r, ap2_r, view_d, view, g2b_r, th_ok, th_exc, rop_some, pure_r, bind_r, mMake_r, mMakeSt_r, callD_r, callO_r, mOp2_r, mIxO_r, mAt_r, mRaise_r, mSetF_r, mMeth_r, mMethO_r, mEnum_r, mApp_r, chkL, appAt, mTry_r, hd_ok, hd_exc, mW_r, wp_nx, wp_ct, wp_bk, wp_rt, wp_ro, wp_exc, wipeB_t, wipeB_f, wipeB_n, wpS_no, wpS_fz, wpS_owf, wpS_owt, List.getElem?_cons_zero, List.getElem?_cons_succ, List.set_cons_zero, List.set_cons_succ, Option.bind_some, Option.map_some, if_true, if_false, eq_self, Bool.false_eq_true, Bool.not_true, Bool.not_false, List.cons_append, List.nil_append, List.append_nil, List.replicate, put, blOf, truth, outs, List.length_cons, List.length_nil, Nat.reduceAdd, Nat.zero_add, lim_r z0, seqOf, L, tp, lim_r z2, U.du]
  | pl i =>
    rw [q] at L
    obtain ⟨e, L⟩ := L
    simp only [F_law_due_of, eM, runF, mSeq_r, mIfS_r, mSet_r, mSetO_r, mRet_r, mRetO_r, mRetN_r, mNx_r, mDrop_r, frz1_d, frzs_cons, frzs_nil, mA0_r, mA_r, mAS_r, mTup_r, mLst_r, mFz_r, mDic0_r, toD_lst, toD_dic, toD_obj, mAnd_r, mOr_r, mNot_r, mAndV_r, mOrV_r, mNotV_r, mT_r, mIf_r, mChain_r, mIt_r, mRng1_r, mFor_r, mAsg_r, mPar_r, mParO_r, mCall_r, mCallO_r, retO_r, retD_fz, retD_ow, mCallM_r, mCallMO_r, mCallT_r, mSl_r, mM1_r, mPutAt_r, mLC_r, mD_r, mB1_r, mB2_r, mC_r, mV, ap1_r, ap2_r, view_d, view, g2b_r, th_ok, th_exc, rop_some, pure_r, bind_r, mMake_r, mMakeSt_r, callD_r, callO_r, mOp2_r, mIxO_r, mAt_r, mRaise_r, mSetF_r, mMeth_r, mMethO_r, mEnum_r, mApp_r, chkL, appAt, mTry_r, hd_ok, hd_exc, mW_r, wp_nx, wp_ct, wp_bk, wp_rt, wp_ro, wp_exc, wipeB_t, wipeB_f, wipeB_n, wpS_no, wpS_fz, wpS_owf, wpS_owt, List.getElem?_cons_zero, List.getElem?_cons_succ, List.set_cons_zero, List.set_cons_succ, Option.bind_some, Option.map_some, if_true, if_false, eq_self, Bool.false_eq_true, Bool.not_true, Bool.not_false, List.cons_append, List.nil_append, List.append_nil, List.replicate, put, blOf, truth, outs, List.length_cons, List.length_nil, Nat.reduceAdd, Nat.zero_add, lim_r z0, seqOf, L, U.jn, U.du]
  | th t =>
    rw [q] at L
    obtain ⟨e, L⟩ := L
    simp only [F_law_due_of, eM, runF, mSeq_r, mIfS_r, mSet_r, mSetO_r, mRet_r, mRetO_r, mRetN_r, mNx_r, mDrop_r, frz1_d, frzs_cons, frzs_nil, mA0_r, mA_r, mAS_r, mTup_r, mLst_r, mFz_r, mDic0_r, toD_lst, toD_dic, toD_obj, mAnd_r, mOr_r, mNot_r, mAndV_r, mOrV_r, mNotV_r, mT_r, mIf_r, mChain_r, mIt_r, mRng1_r, mFor_r, mAsg_r, mPar_r, mParO_r, mCall_r, mCallO_r, retO_r, retD_fz, retD_ow, mCallM_r, mCallMO_r, mCallT_r, mSl_r, mM1_r, mPutAt_r, mLC_r, mD_r, mB1_r, mB2_r, mC_r, mV, ap1_r, ap2_r, view_d, view, g2b_r, th_ok, th_exc, rop_some, pure_r, bind_r, mMake_r, mMakeSt_r, callD_r, callO_r, mOp2_r, mIxO_r, mAt_r, mRaise_r, mSetF_r, mMeth_r, mMethO_r, mEnum_r, mApp_r, chkL, appAt, mTry_r, hd_ok, hd_exc, mW_r, wp_nx, wp_ct, wp_bk, wp_rt, wp_ro, wp_exc, wipeB_t, wipeB_f, wipeB_n, wpS_no, wpS_fz, wpS_owf, wpS_owt, List.getElem?_cons_zero, List.getElem?_cons_succ, List.set_cons_zero, List.set_cons_succ, Option.bind_some, Option.map_some, if_true, if_false, eq_self, Bool.false_eq_true, Bool.not_true, Bool.not_false, List.cons_append, List.nil_append, List.append_nil, List.replicate, put, blOf, truth, outs, List.length_cons, List.length_nil, Nat.reduceAdd, Nat.zero_add, lim_r z0, seqOf, L, U.jn, U.du]
inductive UV where
  | u (u : U)
  | bad (x : D)
def UV.mk (r : UV) (e : AN.Env) : R O := match r with
  | .u w => w.mk e
  | .bad x => .exc "BadAddition" x e
def UV.fn (r : UV) (as : List AN.Slot) : R Ret := match r with
  | .u w => w.fn as
  | .bad x => .exc "BadAddition" x as
theorem iLoopB {A B : AN.Slot} {x : D} {rest : List D} (hx : AN.isObj x = false) : ∀ {rows : List Row}, loop (gN 2) iBody (rows.map addO ++ x :: rest) [A, B, .no] = .exc "BadAddition" x [A, B, .fz x]
  | [] => by
    have g : gN 2 x [A, B, .no] = some [A, B, .fz x] := rfl
    have b : iBody [A, B, .fz x] = .exc "BadAddition" x [A, B, .fz x] := by
      simp only [iBody, runF, mSeq_r, mIfS_r, mSet_r, mSetO_r, mRet_r, mRetO_r, mRetN_r, mNx_r, mDrop_r, frz1_d, frzs_cons, frzs_nil, mA0_r, mA_r, mAS_r, mTup_r, mLst_r, mFz_r, mDic0_r, toD_lst, toD_dic, toD_obj, mAnd_r, mOr_r, mNot_r, mAndV_r, mOrV_r, mNotV_r, mT_r, mIf_r, mChain_r, mIt_r, mRng1_r, mFor_r, mAsg_r, mPar_r, mParO_r, mCall_r, mCallO_r, retO_r, retD_fz, retD_ow, mCallM_r, mCallMO_r, mCallT_r, mSl_r, mM1_r, mPutAt_r, mLC_r, mD_r, mB1_r, mB2_r, mC_r, mV, ap1_r, ap2_r, view_d, view, g2b_r, th_ok, th_exc, rop_some, pure_r, bind_r, mMake_r, mMakeSt_r, callD_r, callO_r, mOp2_r, mIxO_r, mAt_r, mRaise_r, mSetF_r, mMeth_r, mMethO_r, mEnum_r, mApp_r, chkL, appAt, mTry_r, hd_ok, hd_exc, mW_r, wp_nx, wp_ct, wp_bk, wp_rt, wp_ro, wp_exc, wipeB_t, wipeB_f, wipeB_n, wpS_no, wpS_fz, wpS_owf, wpS_owt, List.getElem?_cons_zero, List.getElem?_cons_succ, List.set_cons_zero, List.set_cons_succ, Option.bind_some, Option.map_some, if_true, if_false, eq_self, Bool.false_eq_true, Bool.not_true, Bool.not_false, List.cons_append, List.nil_append, List.append_nil, List.replicate, put, blOf, truth, outs, List.length_cons, List.length_nil, Nat.reduceAdd, Nat.zero_add, isA_oth hx]
    simp only [List.map_nil, List.nil_append, loop, g, b]
  | a :: rows => by
    have g : gN 2 (addO a) [A, B, .no] = some [A, B, .fz (addO a)] := rfl
    have b : iBody [A, B, .fz (addO a)] = .ok .nx [A, B, .no] := by
      simp [iBody, mV, isA, truth]
    simp only [List.map_cons, List.cons_append, loop, g, b]
    exact iLoopB hx
theorem makeB {rows : List Row} {x : D} {rest : List D} {vs : List D} {e : AN.Env} (hx : AN.isObj x = false) (hv : vs = rows.map addO ++ x :: rest) (hl : vs.length ≤ 900) : makeSt "Several" F_Several_init (vs.map .d) e = .exc "BadAddition" x e := by
  have L := iLoopB (A := .ow true (.obj "Several" [])) (B := .fz (.tup vs)) (x := x) (rest := rest) hx (rows := rows)
  rw [← hv] at L
  have h : F_Several_init [.ow true (.obj "Several" []), .fz (.tup vs)] = .exc "BadAddition" x [.ow true (.obj "Several" []), .fz (.tup vs)] := by
    simp only [F_Several_init, sInit_M, runF, mSeq_r, mIfS_r, mSet_r, mSetO_r, mRet_r, mRetO_r, mRetN_r, mNx_r, mDrop_r, frz1_d, frzs_cons, frzs_nil, mA0_r, mA_r, mAS_r, mTup_r, mLst_r, mFz_r, mDic0_r, toD_lst, toD_dic, toD_obj, mAnd_r, mOr_r, mNot_r, mAndV_r, mOrV_r, mNotV_r, mT_r, mIf_r, mChain_r, mIt_r, mRng1_r, mFor_r, mAsg_r, mPar_r, mParO_r, mCall_r, mCallO_r, retO_r, retD_fz, retD_ow, mCallM_r, mCallMO_r, mCallT_r, mSl_r, mM1_r, mPutAt_r, mLC_r, mD_r, mB1_r, mB2_r, mC_r, mV, ap1_r, ap2_r, view_d, view, g2b_r, th_ok, th_exc, rop_some, pure_r, bind_r, mMake_r, mMakeSt_r, callD_r, callO_r, mOp2_r, mIxO_r, mAt_r, mRaise_r, mSetF_r, mMeth_r, mMethO_r, mEnum_r, mApp_r, chkL, appAt, mTry_r, hd_ok, hd_exc, mW_r, wp_nx, wp_ct, wp_bk, wp_rt, wp_ro, wp_exc, wipeB_t, wipeB_f, wipeB_n, wpS_no, wpS_fz, wpS_owf, wpS_owt, List.getElem?_cons_zero, List.getElem?_cons_succ, List.set_cons_zero, List.set_cons_succ, Option.bind_some, Option.map_some, if_true, if_false, eq_self, Bool.false_eq_true, Bool.not_true, Bool.not_false, List.cons_append, List.nil_append, List.append_nil, List.replicate, put, blOf, truth, outs, List.length_cons, List.length_nil, Nat.reduceAdd, Nat.zero_add, seqOf, L]
  unfold makeSt
  rw [frzs_d]
  dsimp only
  rw [if_pos (zL (by omega))]
  unfold makeP
  rw [if_pos (show [Opd.d (D.tup vs)].length = 1 from rfl)]
  simp only [frzs_cons, frz1_d, frzs_nil, th_ok, List.map_cons, List.map_nil, h]
theorem made_ok {vs : List D} {r : UV} (hl : vs.length ≤ 6) (hm : ∀ e, makeSt "Several" F_Several_init (vs.map .d) e = r.mk e) : F_law_made_several [.fz (.lst vs)] = r.fn [.fz (.lst vs)] := by
  have z0 : (0 : Nat) ≤ sizeLine := Nat.zero_le _
  have en := dEqL_nil (xs := vs)
  match vs, hl, hm, en with
  | [], _, hm, en =>
    have m : ∀ e, makeSt "Several" F_Several_init [] e = r.mk e := hm
    cases r with
    | bad x => simp only [UV.mk] at m; simp only [F_law_made_several, m_law_made_several, runF, mSeq_r, mIfS_r, mSet_r, mSetO_r, mRet_r, mRetO_r, mRetN_r, mNx_r, mDrop_r, frz1_d, frzs_cons, frzs_nil, mA0_r, mA_r, mAS_r, mTup_r, mLst_r, mFz_r, mDic0_r, toD_lst, toD_dic, toD_obj, mAnd_r, mOr_r, mNot_r, mAndV_r, mOrV_r, mNotV_r, mT_r, mIf_r, mChain_r, mIt_r, mRng1_r, mFor_r, mAsg_r, mPar_r, mParO_r, mCall_r, mCallO_r, retO_r, retD_fz, retD_ow, mCallM_r, mCallMO_r, mCallT_r, mSl_r, mM1_r, mPutAt_r, mLC_r, mD_r, mB1_r, mB2_r, mC_r, mV, ap1_r, ap2_r, view_d, view, g2b_r, th_ok, th_exc, rop_some, pure_r, bind_r, mMake_r, mMakeSt_r, callD_r, callO_r, mOp2_r, mIxO_r, mAt_r, mRaise_r, mSetF_r, mMeth_r, mMethO_r, mEnum_r, mApp_r, chkL, appAt, mTry_r, hd_ok, hd_exc, mW_r, wp_nx, wp_ct, wp_bk, wp_rt, wp_ro, wp_exc, wipeB_t, wipeB_f, wipeB_n, wpS_no, wpS_fz, wpS_owf, wpS_owt, List.getElem?_cons_zero, List.getElem?_cons_succ, List.set_cons_zero, List.set_cons_succ, Option.bind_some, Option.map_some, if_true, if_false, eq_self, Bool.false_eq_true, Bool.not_true, Bool.not_false, List.cons_append, List.nil_append, List.append_nil, List.replicate, put, blOf, truth, outs, List.length_cons, List.length_nil, Nat.reduceAdd, Nat.zero_add, lim_r z0, en, List.isEmpty_nil, m, UV.fn]
    | u w => cases w <;> (simp only [UV.mk, U.mk] at m; simp only [F_law_made_several, m_law_made_several, runF, mSeq_r, mIfS_r, mSet_r, mSetO_r, mRet_r, mRetO_r, mRetN_r, mNx_r, mDrop_r, frz1_d, frzs_cons, frzs_nil, mA0_r, mA_r, mAS_r, mTup_r, mLst_r, mFz_r, mDic0_r, toD_lst, toD_dic, toD_obj, mAnd_r, mOr_r, mNot_r, mAndV_r, mOrV_r, mNotV_r, mT_r, mIf_r, mChain_r, mIt_r, mRng1_r, mFor_r, mAsg_r, mPar_r, mParO_r, mCall_r, mCallO_r, retO_r, retD_fz, retD_ow, mCallM_r, mCallMO_r, mCallT_r, mSl_r, mM1_r, mPutAt_r, mLC_r, mD_r, mB1_r, mB2_r, mC_r, mV, ap1_r, ap2_r, view_d, view, g2b_r, th_ok, th_exc, rop_some, pure_r, bind_r, mMake_r, mMakeSt_r, callD_r, callO_r, mOp2_r, mIxO_r, mAt_r, mRaise_r, mSetF_r, mMeth_r, mMethO_r, mEnum_r, mApp_r, chkL, appAt, mTry_r, hd_ok, hd_exc, mW_r, wp_nx, wp_ct, wp_bk, wp_rt, wp_ro, wp_exc, wipeB_t, wipeB_f, wipeB_n, wpS_no, wpS_fz, wpS_owf, wpS_owt, List.getElem?_cons_zero, List.getElem?_cons_succ, List.set_cons_zero, List.set_cons_succ, Option.bind_some, Option.map_some, if_true, if_false, eq_self, Bool.false_eq_true, Bool.not_true, Bool.not_false, List.cons_append, List.nil_append, List.append_nil, List.replicate, put, blOf, truth, outs, List.length_cons, List.length_nil, Nat.reduceAdd, Nat.zero_add, lim_r z0, en, List.isEmpty_nil, m, UV.fn, U.fn])
  | [a], _, hm, en =>
    have m : ∀ e, makeSt "Several" F_Several_init [.d a] e = r.mk e := hm
    have i0 : dIx (.lst [a]) (.int 0) = some a := rfl
    have ln : dLen (.lst [a]) = some (.int 1) := rfl
    have q1 : ((1 : Int) == 1) = true := rfl
    cases r with
    | bad x => simp only [UV.mk] at m; simp only [F_law_made_several, m_law_made_several, runF, mSeq_r, mIfS_r, mSet_r, mSetO_r, mRet_r, mRetO_r, mRetN_r, mNx_r, mDrop_r, frz1_d, frzs_cons, frzs_nil, mA0_r, mA_r, mAS_r, mTup_r, mLst_r, mFz_r, mDic0_r, toD_lst, toD_dic, toD_obj, mAnd_r, mOr_r, mNot_r, mAndV_r, mOrV_r, mNotV_r, mT_r, mIf_r, mChain_r, mIt_r, mRng1_r, mFor_r, mAsg_r, mPar_r, mParO_r, mCall_r, mCallO_r, retO_r, retD_fz, retD_ow, mCallM_r, mCallMO_r, mCallT_r, mSl_r, mM1_r, mPutAt_r, mLC_r, mD_r, mB1_r, mB2_r, mC_r, mV, ap1_r, ap2_r, view_d, view, g2b_r, th_ok, th_exc, rop_some, pure_r, bind_r, mMake_r, mMakeSt_r, callD_r, callO_r, mOp2_r, mIxO_r, mAt_r, mRaise_r, mSetF_r, mMeth_r, mMethO_r, mEnum_r, mApp_r, chkL, appAt, mTry_r, hd_ok, hd_exc, mW_r, wp_nx, wp_ct, wp_bk, wp_rt, wp_ro, wp_exc, wipeB_t, wipeB_f, wipeB_n, wpS_no, wpS_fz, wpS_owf, wpS_owt, List.getElem?_cons_zero, List.getElem?_cons_succ, List.set_cons_zero, List.set_cons_succ, Option.bind_some, Option.map_some, if_true, if_false, eq_self, Bool.false_eq_true, Bool.not_true, Bool.not_false, List.cons_append, List.nil_append, List.append_nil, List.replicate, put, blOf, truth, outs, List.length_cons, List.length_nil, Nat.reduceAdd, Nat.zero_add, lim_r z0, en, List.isEmpty_cons, ln, dEq_int, q1, i0, m, UV.fn]
    | u w => cases w <;> (simp only [UV.mk, U.mk] at m; simp only [F_law_made_several, m_law_made_several, runF, mSeq_r, mIfS_r, mSet_r, mSetO_r, mRet_r, mRetO_r, mRetN_r, mNx_r, mDrop_r, frz1_d, frzs_cons, frzs_nil, mA0_r, mA_r, mAS_r, mTup_r, mLst_r, mFz_r, mDic0_r, toD_lst, toD_dic, toD_obj, mAnd_r, mOr_r, mNot_r, mAndV_r, mOrV_r, mNotV_r, mT_r, mIf_r, mChain_r, mIt_r, mRng1_r, mFor_r, mAsg_r, mPar_r, mParO_r, mCall_r, mCallO_r, retO_r, retD_fz, retD_ow, mCallM_r, mCallMO_r, mCallT_r, mSl_r, mM1_r, mPutAt_r, mLC_r, mD_r, mB1_r, mB2_r, mC_r, mV, ap1_r, ap2_r, view_d, view, g2b_r, th_ok, th_exc, rop_some, pure_r, bind_r, mMake_r, mMakeSt_r, callD_r, callO_r, mOp2_r, mIxO_r, mAt_r, mRaise_r, mSetF_r, mMeth_r, mMethO_r, mEnum_r, mApp_r, chkL, appAt, mTry_r, hd_ok, hd_exc, mW_r, wp_nx, wp_ct, wp_bk, wp_rt, wp_ro, wp_exc, wipeB_t, wipeB_f, wipeB_n, wpS_no, wpS_fz, wpS_owf, wpS_owt, List.getElem?_cons_zero, List.getElem?_cons_succ, List.set_cons_zero, List.set_cons_succ, Option.bind_some, Option.map_some, if_true, if_false, eq_self, Bool.false_eq_true, Bool.not_true, Bool.not_false, List.cons_append, List.nil_append, List.append_nil, List.replicate, put, blOf, truth, outs, List.length_cons, List.length_nil, Nat.reduceAdd, Nat.zero_add, lim_r z0, en, List.isEmpty_cons, ln, dEq_int, q1, i0, m, UV.fn, U.fn])
  | [a, b], _, hm, en =>
    have m : ∀ e, makeSt "Several" F_Several_init [.d a, .d b] e = r.mk e := hm
    have i0 : dIx (.lst [a, b]) (.int 0) = some a := rfl
    have i1 : dIx (.lst [a, b]) (.int 1) = some b := rfl
    have ln : dLen (.lst [a, b]) = some (.int 2) := rfl
    have q1 : ((2 : Int) == 1) = false := rfl
    have q2 : ((2 : Int) == 2) = true := rfl
    cases r with
    | bad x => simp only [UV.mk] at m; simp only [F_law_made_several, m_law_made_several, runF, mSeq_r, mIfS_r, mSet_r, mSetO_r, mRet_r, mRetO_r, mRetN_r, mNx_r, mDrop_r, frz1_d, frzs_cons, frzs_nil, mA0_r, mA_r, mAS_r, mTup_r, mLst_r, mFz_r, mDic0_r, toD_lst, toD_dic, toD_obj, mAnd_r, mOr_r, mNot_r, mAndV_r, mOrV_r, mNotV_r, mT_r, mIf_r, mChain_r, mIt_r, mRng1_r, mFor_r, mAsg_r, mPar_r, mParO_r, mCall_r, mCallO_r, retO_r, retD_fz, retD_ow, mCallM_r, mCallMO_r, mCallT_r, mSl_r, mM1_r, mPutAt_r, mLC_r, mD_r, mB1_r, mB2_r, mC_r, mV, ap1_r, ap2_r, view_d, view, g2b_r, th_ok, th_exc, rop_some, pure_r, bind_r, mMake_r, mMakeSt_r, callD_r, callO_r, mOp2_r, mIxO_r, mAt_r, mRaise_r, mSetF_r, mMeth_r, mMethO_r, mEnum_r, mApp_r, chkL, appAt, mTry_r, hd_ok, hd_exc, mW_r, wp_nx, wp_ct, wp_bk, wp_rt, wp_ro, wp_exc, wipeB_t, wipeB_f, wipeB_n, wpS_no, wpS_fz, wpS_owf, wpS_owt, List.getElem?_cons_zero, List.getElem?_cons_succ, List.set_cons_zero, List.set_cons_succ, Option.bind_some, Option.map_some, if_true, if_false, eq_self, Bool.false_eq_true, Bool.not_true, Bool.not_false, List.cons_append, List.nil_append, List.append_nil, List.replicate, put, blOf, truth, outs, List.length_cons, List.length_nil, Nat.reduceAdd, Nat.zero_add, lim_r z0, en, List.isEmpty_cons, ln, dEq_int, q1, q2, i0, i1, m, UV.fn]
    | u w => cases w <;> (simp only [UV.mk, U.mk] at m; simp only [F_law_made_several, m_law_made_several, runF, mSeq_r, mIfS_r, mSet_r, mSetO_r, mRet_r, mRetO_r, mRetN_r, mNx_r, mDrop_r, frz1_d, frzs_cons, frzs_nil, mA0_r, mA_r, mAS_r, mTup_r, mLst_r, mFz_r, mDic0_r, toD_lst, toD_dic, toD_obj, mAnd_r, mOr_r, mNot_r, mAndV_r, mOrV_r, mNotV_r, mT_r, mIf_r, mChain_r, mIt_r, mRng1_r, mFor_r, mAsg_r, mPar_r, mParO_r, mCall_r, mCallO_r, retO_r, retD_fz, retD_ow, mCallM_r, mCallMO_r, mCallT_r, mSl_r, mM1_r, mPutAt_r, mLC_r, mD_r, mB1_r, mB2_r, mC_r, mV, ap1_r, ap2_r, view_d, view, g2b_r, th_ok, th_exc, rop_some, pure_r, bind_r, mMake_r, mMakeSt_r, callD_r, callO_r, mOp2_r, mIxO_r, mAt_r, mRaise_r, mSetF_r, mMeth_r, mMethO_r, mEnum_r, mApp_r, chkL, appAt, mTry_r, hd_ok, hd_exc, mW_r, wp_nx, wp_ct, wp_bk, wp_rt, wp_ro, wp_exc, wipeB_t, wipeB_f, wipeB_n, wpS_no, wpS_fz, wpS_owf, wpS_owt, List.getElem?_cons_zero, List.getElem?_cons_succ, List.set_cons_zero, List.set_cons_succ, Option.bind_some, Option.map_some, if_true, if_false, eq_self, Bool.false_eq_true, Bool.not_true, Bool.not_false, List.cons_append, List.nil_append, List.append_nil, List.replicate, put, blOf, truth, outs, List.length_cons, List.length_nil, Nat.reduceAdd, Nat.zero_add, lim_r z0, en, List.isEmpty_cons, ln, dEq_int, q1, q2, i0, i1, m, UV.fn, U.fn])
  | [a, b, c], _, hm, en =>
    have m : ∀ e, makeSt "Several" F_Several_init [.d a, .d b, .d c] e = r.mk e := hm
    have i0 : dIx (.lst [a, b, c]) (.int 0) = some a := rfl
    have i1 : dIx (.lst [a, b, c]) (.int 1) = some b := rfl
    have i2 : dIx (.lst [a, b, c]) (.int 2) = some c := rfl
    have ln : dLen (.lst [a, b, c]) = some (.int 3) := rfl
    have q1 : ((3 : Int) == 1) = false := rfl
    have q2 : ((3 : Int) == 2) = false := rfl
    have q3 : ((3 : Int) == 3) = true := rfl
    cases r with
    | bad x => simp only [UV.mk] at m; simp only [F_law_made_several, m_law_made_several, runF, mSeq_r, mIfS_r, mSet_r, mSetO_r, mRet_r, mRetO_r, mRetN_r, mNx_r, mDrop_r, frz1_d, frzs_cons, frzs_nil, mA0_r, mA_r, mAS_r, mTup_r, mLst_r, mFz_r, mDic0_r, toD_lst, toD_dic, toD_obj, mAnd_r, mOr_r, mNot_r, mAndV_r, mOrV_r, mNotV_r, mT_r, mIf_r, mChain_r, mIt_r, mRng1_r, mFor_r, mAsg_r, mPar_r, mParO_r, mCall_r, mCallO_r, retO_r, retD_fz, retD_ow, mCallM_r, mCallMO_r, mCallT_r, mSl_r, mM1_r, mPutAt_r, mLC_r, mD_r, mB1_r, mB2_r, mC_r, mV, ap1_r, ap2_r, view_d, view, g2b_r, th_ok, th_exc, rop_some, pure_r, bind_r, mMake_r, mMakeSt_r, callD_r, callO_r, mOp2_r, mIxO_r, mAt_r, mRaise_r, mSetF_r, mMeth_r, mMethO_r, mEnum_r, mApp_r, chkL, appAt, mTry_r, hd_ok, hd_exc, mW_r, wp_nx, wp_ct, wp_bk, wp_rt, wp_ro, wp_exc, wipeB_t, wipeB_f, wipeB_n, wpS_no, wpS_fz, wpS_owf, wpS_owt, List.getElem?_cons_zero, List.getElem?_cons_succ, List.set_cons_zero, List.set_cons_succ, Option.bind_some, Option.map_some, if_true, if_false, eq_self, Bool.false_eq_true, Bool.not_true, Bool.not_false, List.cons_append, List.nil_append, List.append_nil, List.replicate, put, blOf, truth, outs, List.length_cons, List.length_nil, Nat.reduceAdd, Nat.zero_add, lim_r z0, en, List.isEmpty_cons, ln, dEq_int, q1, q2, q3, i0, i1, i2, m, UV.fn]
    | u w => cases w <;> (simp only [UV.mk, U.mk] at m; simp only [F_law_made_several, m_law_made_several, runF, mSeq_r, mIfS_r, mSet_r, mSetO_r, mRet_r, mRetO_r, mRetN_r, mNx_r, mDrop_r, frz1_d, frzs_cons, frzs_nil, mA0_r, mA_r, mAS_r, mTup_r, mLst_r, mFz_r, mDic0_r, toD_lst, toD_dic, toD_obj, mAnd_r, mOr_r, mNot_r, mAndV_r, mOrV_r, mNotV_r, mT_r, mIf_r, mChain_r, mIt_r, mRng1_r, mFor_r, mAsg_r, mPar_r, mParO_r, mCall_r, mCallO_r, retO_r, retD_fz, retD_ow, mCallM_r, mCallMO_r, mCallT_r, mSl_r, mM1_r, mPutAt_r, mLC_r, mD_r, mB1_r, mB2_r, mC_r, mV, ap1_r, ap2_r, view_d, view, g2b_r, th_ok, th_exc, rop_some, pure_r, bind_r, mMake_r, mMakeSt_r, callD_r, callO_r, mOp2_r, mIxO_r, mAt_r, mRaise_r, mSetF_r, mMeth_r, mMethO_r, mEnum_r, mApp_r, chkL, appAt, mTry_r, hd_ok, hd_exc, mW_r, wp_nx, wp_ct, wp_bk, wp_rt, wp_ro, wp_exc, wipeB_t, wipeB_f, wipeB_n, wpS_no, wpS_fz, wpS_owf, wpS_owt, List.getElem?_cons_zero, List.getElem?_cons_succ, List.set_cons_zero, List.set_cons_succ, Option.bind_some, Option.map_some, if_true, if_false, eq_self, Bool.false_eq_true, Bool.not_true, Bool.not_false, List.cons_append, List.nil_append, List.append_nil, List.replicate, put, blOf, truth, outs, List.length_cons, List.length_nil, Nat.reduceAdd, Nat.zero_add, lim_r z0, en, List.isEmpty_cons, ln, dEq_int, q1, q2, q3, i0, i1, i2, m, UV.fn, U.fn])
  | [a, b, c, d], _, hm, en =>
    have m : ∀ e, makeSt "Several" F_Several_init [.d a, .d b, .d c, .d d] e = r.mk e := hm
    have i0 : dIx (.lst [a, b, c, d]) (.int 0) = some a := rfl
    have i1 : dIx (.lst [a, b, c, d]) (.int 1) = some b := rfl
    have i2 : dIx (.lst [a, b, c, d]) (.int 2) = some c := rfl
    have i3 : dIx (.lst [a, b, c, d]) (.int 3) = some d := rfl
    have ln : dLen (.lst [a, b, c, d]) = some (.int 4) := rfl
    have q1 : ((4 : Int) == 1) = false := rfl
    have q2 : ((4 : Int) == 2) = false := rfl
    have q3 : ((4 : Int) == 3) = false := rfl
    have q4 : ((4 : Int) == 4) = true := rfl
    cases r with
    | bad x => simp only [UV.mk] at m; simp only [F_law_made_several, m_law_made_several, runF, mSeq_r, mIfS_r, mSet_r, mSetO_r, mRet_r, mRetO_r, mRetN_r, mNx_r, mDrop_r, frz1_d, frzs_cons, frzs_nil, mA0_r, mA_r, mAS_r, mTup_r, mLst_r, mFz_r, mDic0_r, toD_lst, toD_dic, toD_obj, mAnd_r, mOr_r, mNot_r, mAndV_r, mOrV_r, mNotV_r, mT_r, mIf_r, mChain_r, mIt_r, mRng1_r, mFor_r, mAsg_r, mPar_r, mParO_r, mCall_r, mCallO_r, retO_r, retD_fz, retD_ow, mCallM_r, mCallMO_r, mCallT_r, mSl_r, mM1_r, mPutAt_r, mLC_r, mD_r, mB1_r, mB2_r, mC_r, mV, ap1_r, ap2_r, view_d, view, g2b_r, th_ok, th_exc, rop_some, pure_r, bind_r, mMake_r, mMakeSt_r, callD_r, callO_r, mOp2_r, mIxO_r, mAt_r, mRaise_r, mSetF_r, mMeth_r, mMethO_r, mEnum_r, mApp_r, chkL, appAt, mTry_r, hd_ok, hd_exc, mW_r, wp_nx, wp_ct, wp_bk, wp_rt, wp_ro, wp_exc, wipeB_t, wipeB_f, wipeB_n, wpS_no, wpS_fz, wpS_owf, wpS_owt, List.getElem?_cons_zero, List.getElem?_cons_succ, List.set_cons_zero, List.set_cons_succ, Option.bind_some, Option.map_some, if_true, if_false, eq_self, Bool.false_eq_true, Bool.not_true, Bool.not_false, List.cons_append, List.nil_append, List.append_nil, List.replicate, put, blOf, truth, outs, List.length_cons, List.length_nil, Nat.reduceAdd, Nat.zero_add, lim_r z0, en, List.isEmpty_cons, ln, dEq_int, q1, q2, q3, q4, i0, i1, i2, i3, m, UV.fn]
    | u w => cases w <;> (simp only [UV.mk, U.mk] at m; simp only [F_law_made_several, m_law_made_several, runF, mSeq_r, mIfS_r, mSet_r, mSetO_r, mRet_r, mRetO_r, mRetN_r, mNx_r, mDrop_r, frz1_d, frzs_cons, frzs_nil, mA0_r, mA_r, mAS_r, mTup_r, mLst_r, mFz_r, mDic0_r, toD_lst, toD_dic, toD_obj, mAnd_r, mOr_r, mNot_r, mAndV_r, mOrV_r, mNotV_r, mT_r, mIf_r, mChain_r, mIt_r, mRng1_r, mFor_r, mAsg_r, mPar_r, mParO_r, mCall_r, mCallO_r, retO_r, retD_fz, retD_ow, mCallM_r, mCallMO_r, mCallT_r, mSl_r, mM1_r, mPutAt_r, mLC_r, mD_r, mB1_r, mB2_r, mC_r, mV, ap1_r, ap2_r, view_d, view, g2b_r, th_ok, th_exc, rop_some, pure_r, bind_r, mMake_r, mMakeSt_r, callD_r, callO_r, mOp2_r, mIxO_r, mAt_r, mRaise_r, mSetF_r, mMeth_r, mMethO_r, mEnum_r, mApp_r, chkL, appAt, mTry_r, hd_ok, hd_exc, mW_r, wp_nx, wp_ct, wp_bk, wp_rt, wp_ro, wp_exc, wipeB_t, wipeB_f, wipeB_n, wpS_no, wpS_fz, wpS_owf, wpS_owt, List.getElem?_cons_zero, List.getElem?_cons_succ, List.set_cons_zero, List.set_cons_succ, Option.bind_some, Option.map_some, if_true, if_false, eq_self, Bool.false_eq_true, Bool.not_true, Bool.not_false, List.cons_append, List.nil_append, List.append_nil, List.replicate, put, blOf, truth, outs, List.length_cons, List.length_nil, Nat.reduceAdd, Nat.zero_add, lim_r z0, en, List.isEmpty_cons, ln, dEq_int, q1, q2, q3, q4, i0, i1, i2, i3, m, UV.fn, U.fn])
  | [a, b, c, d, f], _, hm, en =>
    have m : ∀ e, makeSt "Several" F_Several_init [.d a, .d b, .d c, .d d, .d f] e = r.mk e := hm
    have i0 : dIx (.lst [a, b, c, d, f]) (.int 0) = some a := rfl
    have i1 : dIx (.lst [a, b, c, d, f]) (.int 1) = some b := rfl
    have i2 : dIx (.lst [a, b, c, d, f]) (.int 2) = some c := rfl
    have i3 : dIx (.lst [a, b, c, d, f]) (.int 3) = some d := rfl
    have i4 : dIx (.lst [a, b, c, d, f]) (.int 4) = some f := rfl
    have ln : dLen (.lst [a, b, c, d, f]) = some (.int 5) := rfl
    have q1 : ((5 : Int) == 1) = false := rfl
    have q2 : ((5 : Int) == 2) = false := rfl
    have q3 : ((5 : Int) == 3) = false := rfl
    have q4 : ((5 : Int) == 4) = false := rfl
    have q5 : ((5 : Int) == 5) = true := rfl
    cases r with
    | bad x => simp only [UV.mk] at m; simp only [F_law_made_several, m_law_made_several, runF, mSeq_r, mIfS_r, mSet_r, mSetO_r, mRet_r, mRetO_r, mRetN_r, mNx_r, mDrop_r, frz1_d, frzs_cons, frzs_nil, mA0_r, mA_r, mAS_r, mTup_r, mLst_r, mFz_r, mDic0_r, toD_lst, toD_dic, toD_obj, mAnd_r, mOr_r, mNot_r, mAndV_r, mOrV_r, mNotV_r, mT_r, mIf_r, mChain_r, mIt_r, mRng1_r, mFor_r, mAsg_r, mPar_r, mParO_r, mCall_r, mCallO_r, retO_r, retD_fz, retD_ow, mCallM_r, mCallMO_r, mCallT_r, mSl_r, mM1_r, mPutAt_r, mLC_r, mD_r, mB1_r, mB2_r, mC_r, mV, ap1_r, ap2_r, view_d, view, g2b_r, th_ok, th_exc, rop_some, pure_r, bind_r, mMake_r, mMakeSt_r, callD_r, callO_r, mOp2_r, mIxO_r, mAt_r, mRaise_r, mSetF_r, mMeth_r, mMethO_r, mEnum_r, mApp_r, chkL, appAt, mTry_r, hd_ok, hd_exc, mW_r, wp_nx, wp_ct, wp_bk, wp_rt, wp_ro, wp_exc, wipeB_t, wipeB_f, wipeB_n, wpS_no, wpS_fz, wpS_owf, wpS_owt, List.getElem?_cons_zero, List.getElem?_cons_succ, List.set_cons_zero, List.set_cons_succ, Option.bind_some, Option.map_some, if_true, if_false, eq_self, Bool.false_eq_true, Bool.not_true, Bool.not_false, List.cons_append, List.nil_append, List.append_nil, List.replicate, put, blOf, truth, outs, List.length_cons, List.length_nil, Nat.reduceAdd, Nat.zero_add, lim_r z0, en, List.isEmpty_cons, ln, dEq_int, q1, q2, q3, q4, q5, i0, i1, i2, i3, i4, m, UV.fn]
    | u w => cases w <;> (simp only [UV.mk, U.mk] at m; simp only [F_law_made_several, m_law_made_several, runF, mSeq_r, mIfS_r, mSet_r, mSetO_r, mRet_r, mRetO_r, mRetN_r, mNx_r, mDrop_r, frz1_d, frzs_cons, frzs_nil, mA0_r, mA_r, mAS_r, mTup_r, mLst_r, mFz_r, mDic0_r, toD_lst, toD_dic, toD_obj, mAnd_r, mOr_r, mNot_r, mAndV_r, mOrV_r, mNotV_r, mT_r, mIf_r, mChain_r, mIt_r, mRng1_r, mFor_r, mAsg_r, mPar_r, mParO_r, mCall_r, mCallO_r, retO_r, retD_fz, retD_ow, mCallM_r, mCallMO_r, mCallT_r, mSl_r, mM1_r, mPutAt_r, mLC_r, mD_r, mB1_r, mB2_r, mC_r, mV, ap1_r, ap2_r, view_d, view, g2b_r, th_ok, th_exc, rop_some, pure_r, bind_r, mMake_r, mMakeSt_r, callD_r, callO_r, mOp2_r, mIxO_r, mAt_r, mRaise_r, mSetF_r, mMeth_r, mMethO_r, mEnum_r, mApp_r, chkL, appAt, mTry_r, hd_ok, hd_exc, mW_r, wp_nx, wp_ct, wp_bk, wp_rt, wp_ro, wp_exc, wipeB_t, wipeB_f, wipeB_n, wpS_no, wpS_fz, wpS_owf, wpS_owt, List.getElem?_cons_zero, List.getElem?_cons_succ, List.set_cons_zero, List.set_cons_succ, Option.bind_some, Option.map_some, if_true, if_false, eq_self, Bool.false_eq_true, Bool.not_true, Bool.not_false, List.cons_append, List.nil_append, List.append_nil, List.replicate, put, blOf, truth, outs, List.length_cons, List.length_nil, Nat.reduceAdd, Nat.zero_add, lim_r z0, en, List.isEmpty_cons, ln, dEq_int, q1, q2, q3, q4, q5, i0, i1, i2, i3, i4, m, UV.fn, U.fn])
  | [a, b, c, d, f, g], _, hm, en =>
    have m : ∀ e, makeSt "Several" F_Several_init [.d a, .d b, .d c, .d d, .d f, .d g] e = r.mk e := hm
    have i0 : dIx (.lst [a, b, c, d, f, g]) (.int 0) = some a := rfl
    have i1 : dIx (.lst [a, b, c, d, f, g]) (.int 1) = some b := rfl
    have i2 : dIx (.lst [a, b, c, d, f, g]) (.int 2) = some c := rfl
    have i3 : dIx (.lst [a, b, c, d, f, g]) (.int 3) = some d := rfl
    have i4 : dIx (.lst [a, b, c, d, f, g]) (.int 4) = some f := rfl
    have i5 : dIx (.lst [a, b, c, d, f, g]) (.int 5) = some g := rfl
    have ln : dLen (.lst [a, b, c, d, f, g]) = some (.int 6) := rfl
    have q1 : ((6 : Int) == 1) = false := rfl
    have q2 : ((6 : Int) == 2) = false := rfl
    have q3 : ((6 : Int) == 3) = false := rfl
    have q4 : ((6 : Int) == 4) = false := rfl
    have q5 : ((6 : Int) == 5) = false := rfl
    cases r with
    | bad x => simp only [UV.mk] at m; simp only [F_law_made_several, m_law_made_several, runF, mSeq_r, mIfS_r, mSet_r, mSetO_r, mRet_r, mRetO_r, mRetN_r, mNx_r, mDrop_r, frz1_d, frzs_cons, frzs_nil, mA0_r, mA_r, mAS_r, mTup_r, mLst_r, mFz_r, mDic0_r, toD_lst, toD_dic, toD_obj, mAnd_r, mOr_r, mNot_r, mAndV_r, mOrV_r, mNotV_r, mT_r, mIf_r, mChain_r, mIt_r, mRng1_r, mFor_r, mAsg_r, mPar_r, mParO_r, mCall_r, mCallO_r, retO_r, retD_fz, retD_ow, mCallM_r, mCallMO_r, mCallT_r, mSl_r, mM1_r, mPutAt_r, mLC_r, mD_r, mB1_r, mB2_r, mC_r, mV, ap1_r, ap2_r, view_d, view, g2b_r, th_ok, th_exc, rop_some, pure_r, bind_r, mMake_r, mMakeSt_r, callD_r, callO_r, mOp2_r, mIxO_r, mAt_r, mRaise_r, mSetF_r, mMeth_r, mMethO_r, mEnum_r, mApp_r, chkL, appAt, mTry_r, hd_ok, hd_exc, mW_r, wp_nx, wp_ct, wp_bk, wp_rt, wp_ro, wp_exc, wipeB_t, wipeB_f, wipeB_n, wpS_no, wpS_fz, wpS_owf, wpS_owt, List.getElem?_cons_zero, List.getElem?_cons_succ, List.set_cons_zero, List.set_cons_succ, Option.bind_some, Option.map_some, if_true, if_false, eq_self, Bool.false_eq_true, Bool.not_true, Bool.not_false, List.cons_append, List.nil_append, List.append_nil, List.replicate, put, blOf, truth, outs, List.length_cons, List.length_nil, Nat.reduceAdd, Nat.zero_add, lim_r z0, en, List.isEmpty_cons, ln, dEq_int, q1, q2, q3, q4, q5, i0, i1, i2, i3, i4, i5, m, UV.fn]
    | u w => cases w <;> (simp only [UV.mk, U.mk] at m; simp only [F_law_made_several, m_law_made_several, runF, mSeq_r, mIfS_r, mSet_r, mSetO_r, mRet_r, mRetO_r, mRetN_r, mNx_r, mDrop_r, frz1_d, frzs_cons, frzs_nil, mA0_r, mA_r, mAS_r, mTup_r, mLst_r, mFz_r, mDic0_r, toD_lst, toD_dic, toD_obj, mAnd_r, mOr_r, mNot_r, mAndV_r, mOrV_r, mNotV_r, mT_r, mIf_r, mChain_r, mIt_r, mRng1_r, mFor_r, mAsg_r, mPar_r, mParO_r, mCall_r, mCallO_r, retO_r, retD_fz, retD_ow, mCallM_r, mCallMO_r, mCallT_r, mSl_r, mM1_r, mPutAt_r, mLC_r, mD_r, mB1_r, mB2_r, mC_r, mV, ap1_r, ap2_r, view_d, view, g2b_r, th_ok, th_exc, rop_some, pure_r, bind_r, mMake_r, mMakeSt_r, callD_r, callO_r, mOp2_r, mIxO_r, mAt_r, mRaise_r, mSetF_r, mMeth_r, mMethO_r, mEnum_r, mApp_r, chkL, appAt, mTry_r, hd_ok, hd_exc, mW_r, wp_nx, wp_ct, wp_bk, wp_rt, wp_ro, wp_exc, wipeB_t, wipeB_f, wipeB_n, wpS_no, wpS_fz, wpS_owf, wpS_owt, List.getElem?_cons_zero, List.getElem?_cons_succ, List.set_cons_zero, List.set_cons_succ, Option.bind_some, Option.map_some, if_true, if_false, eq_self, Bool.false_eq_true, Bool.not_true, Bool.not_false, List.cons_append, List.nil_append, List.append_nil, List.replicate, put, blOf, truth, outs, List.length_cons, List.length_nil, Nat.reduceAdd, Nat.zero_add, lim_r z0, en, List.isEmpty_cons, ln, dEq_int, q1, q2, q3, q4, q5, i0, i1, i2, i3, i4, i5, m, UV.fn, U.fn])
  | _ :: _ :: _ :: _ :: _ :: _ :: _ :: _, hl, _, _ => simp at hl
end G

set_option Elab.async false
set_option maxRecDepth 100000
set_option linter.unusedVariables false
set_option linter.unusedSimpArgs false
namespace G
open PySem L2 AN
def UV.du (r : UV) : O := match r with
  | .u w => w.du
  | .bad x => .lst [.str "value", .str (toP x).shown]
theorem du_dle (r : UV) : dle 8 r.du.toD = true := by
  cases r with
  | bad x => rfl
  | u w => cases w with
    | ok f =>
      show (dle 7 (.str "kept") && ((f.map rowD).all (dle 6) && true)) = true
      have : (f.map rowD).all (dle 6) = true := by
        rw [List.all_map, List.all_eq_true]
        intro a _
        have p5 : ∀ i, dle 5 (plc i) = true := by decide +kernel
        show (dle 5 (plc a.1) && (dle 5 (.int a.2) && true)) = true
        rw [p5]; rfl
      rw [this]; rfl
    | pl i =>
      show (dle 7 (.str "place") && (dle 7 (plc i) && true)) = true
      rw [plc7]; rfl
    | th t => rfl
theorem ansLC {S0 S1 S2 : AN.Slot} {f : List Row} : lc [3] (gN 3) (M.pure true) (mTup (mA (mD (mB1 (dFld ok_fld_place "place") (mV 3))) (mA (mD (mB1 (dFld ok_fld_thing "thing") (mV 3))) mA0))) (f.map addO) [] [S0, S1, S2, .no, .no] = .ok (f.map rowD) [S0, S1, S2, .no, .no] := by
  have z2 := zL (n := 2) (by omega)
  have := lcF (vs := [3]) (g := gN 3) (mt := M.pure true) (me := mTup (mA (mD (mB1 (dFld ok_fld_place "place") (mV 3))) (mA (mD (mB1 (dFld ok_fld_thing "thing") (mV 3))) mA0))) (E := [S0, S1, S2, .no, .no]) (h := addO) (h' := rowD) (p := fun _ => true) (fun a => [S0, S1, S2, .fz (addO a), .no]) (xs := f) (acc := []) (fun a _ => ⟨rfl, rfl, by simp only [runF, mSeq_r, mIfS_r, mSet_r, mSetO_r, mRet_r, mRetO_r, mRetN_r, mNx_r, mDrop_r, frz1_d, frzs_cons, frzs_nil, mA0_r, mA_r, mAS_r, mTup_r, mLst_r, mFz_r, mDic0_r, toD_lst, toD_dic, toD_obj, mAnd_r, mOr_r, mNot_r, mAndV_r, mOrV_r, mNotV_r, mT_r, mIf_r, mChain_r, mIt_r, mRng1_r, mFor_r, mAsg_r, mPar_r, mParO_r, mCall_r, mCallO_r, retO_r, retD_fz, retD_ow, mCallM_r, mCallMO_r, mCallT_r, mSl_r, mM1_r, mPutAt_r, mLC_r, mD_r, mB1_r, mB2_r, mC_r, mV, ap1_r, ap2_r, view_d, view, g2b_r, th_ok, th_exc, rop_some, pure_r, bind_r, mMake_r, mMakeSt_r, callD_r, callO_r, mOp2_r, mIxO_r, mAt_r, mRaise_r, mSetF_r, mMeth_r, mMethO_r, mEnum_r, mApp_r, chkL, appAt, mTry_r, hd_ok, hd_exc, mW_r, wp_nx, wp_ct, wp_bk, wp_rt, wp_ro, wp_exc, wipeB_t, wipeB_f, wipeB_n, wpS_no, wpS_fz, wpS_owf, wpS_owt, List.getElem?_cons_zero, List.getElem?_cons_succ, List.set_cons_zero, List.set_cons_succ, Option.bind_some, Option.map_some, if_true, if_false, eq_self, Bool.false_eq_true, Bool.not_true, Bool.not_false, List.cons_append, List.nil_append, List.append_nil, List.replicate, put, blOf, truth, outs, List.length_cons, List.length_nil, Nat.reduceAdd, Nat.zero_add, fA1, fA2, lim_r z2, jRow], rfl⟩)
  rw [this, List.filter_eq_self.mpr (fun _ _ => rfl)]; rfl
theorem ans_ok {vs : List D} {r : UV} (hl : vs.length ≤ 6) (hm : ∀ e, makeSt "Several" F_Several_init (vs.map .d) e = r.mk e) (hb : ∀ x, r = .bad x → shOk x = true) (hk : ∀ f, r = .u (.ok f) → f.length ≤ 900) : F_law_answer [.fz (.lst vs)] = .ok (.ow r.du) [.fz (.lst vs)] := by
  have h := made_ok hl hm
  have z2 := zL (n := 2) (by omega)
  have x1 : xf_place "AlreadyThere" = some ("place" : Str) := rfl
  have x2 : cs_AlreadyThere "AlreadyThere" = some true := rfl
  have x3 : xf_thing "BadThing" = some ("thing" : Str) := rfl
  have x4 : cs_AlreadyThere "BadThing" = some false := rfl
  have x5 : cs_BadThing "BadThing" = some true := rfl
  have x6 : cs_AlreadyThere "BadAddition" = some false := rfl
  have x7 : cs_BadThing "BadAddition" = some false := rfl
  have x8 : cs_BadAddition "BadAddition" = some true := rfl
  have x9 : xf_value "BadAddition" = some ("value" : Str) := rfl
  cases r with
  | bad x =>
    have c := fun e => callX1 (e := e) h
    have d1 : dRepr x = some (.str (toP x).shown) := if_pos (hb x rfl)
    simp only [F_law_answer, m_law_answer, runF, mSeq_r, mIfS_r, mSet_r, mSetO_r, mRet_r, mRetO_r, mRetN_r, mNx_r, mDrop_r, frz1_d, frzs_cons, frzs_nil, mA0_r, mA_r, mAS_r, mTup_r, mLst_r, mFz_r, mDic0_r, toD_lst, toD_dic, toD_obj, mAnd_r, mOr_r, mNot_r, mAndV_r, mOrV_r, mNotV_r, mT_r, mIf_r, mChain_r, mIt_r, mRng1_r, mFor_r, mAsg_r, mPar_r, mParO_r, mCall_r, mCallO_r, retO_r, retD_fz, retD_ow, mCallM_r, mCallMO_r, mCallT_r, mSl_r, mM1_r, mPutAt_r, mLC_r, mD_r, mB1_r, mB2_r, mC_r, mV, ap1_r, ap2_r, view_d, view, g2b_r, th_ok, th_exc, rop_some, pure_r, bind_r, mMake_r, mMakeSt_r, callD_r, callO_r, mOp2_r, mIxO_r, mAt_r, mRaise_r, mSetF_r, mMeth_r, mMethO_r, mEnum_r, mApp_r, chkL, appAt, mTry_r, hd_ok, hd_exc, mW_r, wp_nx, wp_ct, wp_bk, wp_rt, wp_ro, wp_exc, wipeB_t, wipeB_f, wipeB_n, wpS_no, wpS_fz, wpS_owf, wpS_owt, List.getElem?_cons_zero, List.getElem?_cons_succ, List.set_cons_zero, List.set_cons_succ, Option.bind_some, Option.map_some, if_true, if_false, eq_self, Bool.false_eq_true, Bool.not_true, Bool.not_false, List.cons_append, List.nil_append, List.append_nil, List.replicate, put, blOf, truth, outs, List.length_cons, List.length_nil, Nat.reduceAdd, Nat.zero_add, c, handle, x6, x7, x8, mXf, x9, d1, lim_r z2, retOnly, UV.du]
  | u w =>
    cases w with
    | ok f =>
      have c := fun e => callO1 (e := e) (show F_law_made_several [.fz (.lst vs)] = .ok (.ow (.obj "Several" (sevF f))) [.fz (.lst vs)] from h)
      have es : AN.D.obj "Several" (sevF f) = sevO f := rfl
      have l1 := lenS (hk f rfl)
      have l2 : dLen (.tup (f.map addO)) = some (.int (f.length : Nat)) := by simp [dLen]
      have it : isI fTuple (.tup (f.map addO)) = some (.bl true) := rfl
      have zf : (f.map addO).length ≤ sizeLine := by rw [List.length_map]; exact zL (Nat.le_trans (hk f rfl) (by omega))
      have L := ansLC (S0 := .fz (.lst vs)) (S1 := .fz (sevO f)) (S2 := .fz (.tup (f.map addO))) (f := f)
      have wp : wipeE [3] 0 [.fz (.lst vs), .fz (sevO f), .fz (.tup (f.map addO)), .no, .no] = [.fz (.lst vs), .fz (sevO f), .fz (.tup (f.map addO)), .no, .no] := rfl
      have rs : restE [3] 0 [.fz (.lst vs), .fz (sevO f), .fz (.tup (f.map addO)), .no, .no] [.fz (.lst vs), .fz (sevO f), .fz (.tup (f.map addO)), .no, .no] = [.fz (.lst vs), .fz (sevO f), .fz (.tup (f.map addO)), .no, .no] := rfl
      have tp : dTupOf (.lst (f.map rowD)) = some (.tup (f.map rowD)) := rfl
      simp only [F_law_answer, m_law_answer, runF, mSeq_r, mIfS_r, mSet_r, mSetO_r, mRet_r, mRetO_r, mRetN_r, mNx_r, mDrop_r, frz1_d, frzs_cons, frzs_nil, mA0_r, mA_r, mAS_r, mTup_r, mLst_r, mFz_r, mDic0_r, toD_lst, toD_dic, toD_obj, mAnd_r, mOr_r, mNot_r, mAndV_r, mOrV_r, mNotV_r, mT_r, mIf_r, mChain_r, mIt_r, mRng1_r, mFor_r, mAsg_r, mPar_r, mParO_r, mCall_r, mCallO_r, retO_r, retD_fz, retD_ow, mCallM_r, mCallMO_r, mCallT_r, mSl_r, mM1_r, mPutAt_r, mLC_r, mD_r, mB1_r, mB2_r, mC_r, mV, ap1_r, ap2_r, view_d, view, g2b_r, th_ok, th_exc, rop_some, pure_r, bind_r, mMake_r, mMakeSt_r, callD_r, callO_r, mOp2_r, mIxO_r, mAt_r, mRaise_r, mSetF_r, mMeth_r, mMethO_r, mEnum_r, mApp_r, chkL, appAt, mTry_r, hd_ok, hd_exc, mW_r, wp_nx, wp_ct, wp_bk, wp_rt, wp_ro, wp_exc, wipeB_t, wipeB_f, wipeB_n, wpS_no, wpS_fz, wpS_owf, wpS_owt, List.getElem?_cons_zero, List.getElem?_cons_succ, List.set_cons_zero, List.set_cons_succ, Option.bind_some, Option.map_some, if_true, if_false, eq_self, Bool.false_eq_true, Bool.not_true, Bool.not_false, List.cons_append, List.nil_append, List.append_nil, List.replicate, put, blOf, truth, outs, List.length_cons, List.length_nil, Nat.reduceAdd, Nat.zero_add, c, es, atAdds, it, l1, l2, dNe_int, beq_self_eq_true, seqOf, if_pos zf, wp, L, rs, tp, lim_r z2, UV.du, U.du]
    | pl i =>
      have c := fun e => callX1 (e := e) (show F_law_made_several [.fz (.lst vs)] = .exc "AlreadyThere" (plc i) [.fz (.lst vs)] from h)
      simp only [F_law_answer, m_law_answer, runF, mSeq_r, mIfS_r, mSet_r, mSetO_r, mRet_r, mRetO_r, mRetN_r, mNx_r, mDrop_r, frz1_d, frzs_cons, frzs_nil, mA0_r, mA_r, mAS_r, mTup_r, mLst_r, mFz_r, mDic0_r, toD_lst, toD_dic, toD_obj, mAnd_r, mOr_r, mNot_r, mAndV_r, mOrV_r, mNotV_r, mT_r, mIf_r, mChain_r, mIt_r, mRng1_r, mFor_r, mAsg_r, mPar_r, mParO_r, mCall_r, mCallO_r, retO_r, retD_fz, retD_ow, mCallM_r, mCallMO_r, mCallT_r, mSl_r, mM1_r, mPutAt_r, mLC_r, mD_r, mB1_r, mB2_r, mC_r, mV, ap1_r, ap2_r, view_d, view, g2b_r, th_ok, th_exc, rop_some, pure_r, bind_r, mMake_r, mMakeSt_r, callD_r, callO_r, mOp2_r, mIxO_r, mAt_r, mRaise_r, mSetF_r, mMeth_r, mMethO_r, mEnum_r, mApp_r, chkL, appAt, mTry_r, hd_ok, hd_exc, mW_r, wp_nx, wp_ct, wp_bk, wp_rt, wp_ro, wp_exc, wipeB_t, wipeB_f, wipeB_n, wpS_no, wpS_fz, wpS_owf, wpS_owt, List.getElem?_cons_zero, List.getElem?_cons_succ, List.set_cons_zero, List.set_cons_succ, Option.bind_some, Option.map_some, if_true, if_false, eq_self, Bool.false_eq_true, Bool.not_true, Bool.not_false, List.cons_append, List.nil_append, List.append_nil, List.replicate, put, blOf, truth, outs, List.length_cons, List.length_nil, Nat.reduceAdd, Nat.zero_add, c, handle, x2, mXf, x1, lim_r z2, retOnly, UV.du, U.du]
    | th t =>
      have c := fun e => callX1 (e := e) (show F_law_made_several [.fz (.lst vs)] = .exc "BadThing" (.int t) [.fz (.lst vs)] from h)
      simp only [F_law_answer, m_law_answer, runF, mSeq_r, mIfS_r, mSet_r, mSetO_r, mRet_r, mRetO_r, mRetN_r, mNx_r, mDrop_r, frz1_d, frzs_cons, frzs_nil, mA0_r, mA_r, mAS_r, mTup_r, mLst_r, mFz_r, mDic0_r, toD_lst, toD_dic, toD_obj, mAnd_r, mOr_r, mNot_r, mAndV_r, mOrV_r, mNotV_r, mT_r, mIf_r, mChain_r, mIt_r, mRng1_r, mFor_r, mAsg_r, mPar_r, mParO_r, mCall_r, mCallO_r, retO_r, retD_fz, retD_ow, mCallM_r, mCallMO_r, mCallT_r, mSl_r, mM1_r, mPutAt_r, mLC_r, mD_r, mB1_r, mB2_r, mC_r, mV, ap1_r, ap2_r, view_d, view, g2b_r, th_ok, th_exc, rop_some, pure_r, bind_r, mMake_r, mMakeSt_r, callD_r, callO_r, mOp2_r, mIxO_r, mAt_r, mRaise_r, mSetF_r, mMeth_r, mMethO_r, mEnum_r, mApp_r, chkL, appAt, mTry_r, hd_ok, hd_exc, mW_r, wp_nx, wp_ct, wp_bk, wp_rt, wp_ro, wp_exc, wipeB_t, wipeB_f, wipeB_n, wpS_no, wpS_fz, wpS_owf, wpS_owt, List.getElem?_cons_zero, List.getElem?_cons_succ, List.set_cons_zero, List.set_cons_succ, Option.bind_some, Option.map_some, if_true, if_false, eq_self, Bool.false_eq_true, Bool.not_true, Bool.not_false, List.cons_append, List.nil_append, List.append_nil, List.replicate, put, blOf, truth, outs, List.length_cons, List.length_nil, Nat.reduceAdd, Nat.zero_add, c, handle, x4, x5, mXf, x3, lim_r z2, retOnly, UV.du, U.du]
def rowE : M Opd := (mCallT F_law_drawn_addition 0 (mCallO 2 F_law_pool_of (mA (mV 0) (mA (mD (mB2 dAdd (mC (.int 1)) (mV 6))) mA0))) mA0)
theorem rowsLC {ns : List Int} {s1 : AN.Slot} (hn : ns.length ≤ 63) : ∀ {ds acc : List D}, (∀ d ∈ ds, ∃ k : Int, d = .int k ∧ 0 ≤ k ∧ k < 1000) → ∃ rows : List Row, lc [6] (gN 6) (M.pure true) rowE ds acc [.fz (scriptD ns), s1, .no, .no, .no, .no, .no, .no, .no, .no, .no] = .ok (acc ++ rows.map rowD) [.fz (scriptD ns), s1, .no, .no, .no, .no, .no, .no, .no, .no, .no] ∧ rows.length = ds.length ∧ ∀ a ∈ rows, okT a.2
  | [], acc, _ => ⟨[], by simp [lc], rfl, fun a h => by cases h⟩
  | d :: ds, acc, h => by
    obtain ⟨k, rfl, k0, k1⟩ := h d (by simp)
    obtain ⟨a, b, P, hP⟩ := pool_ok (ns := ns) (k := 1 + k) (by omega) (by omega) hn
    obtain ⟨r, a', b', Q, hr, _⟩ := drawn_ok hP
    obtain ⟨rows, L, e1, e2⟩ := rowsLC (s1 := s1) hn (ds := ds) (acc := acc ++ [rowD r]) fun d hd => h d (by simp [hd])
    refine ⟨r :: rows, ?_, by simp [e1], fun a ha => ?_⟩
    · have g : gN 6 (.int k) [.fz (scriptD ns), s1, .no, .no, .no, .no, .no, .no, .no, .no, .no] = some [.fz (scriptD ns), s1, .no, .no, .no, .no, .fz (.int k), .no, .no, .no, .no] := rfl
      have w : wipeE [6] 0 [.fz (scriptD ns), s1, .no, .no, .no, .no, .fz (.int k), .no, .no, .no, .no] = [.fz (scriptD ns), s1, .no, .no, .no, .no, .no, .no, .no, .no, .no] := rfl
      have c0 := fun e => callO2 (e := e) P
      have c1 : ∀ e : AN.Env, callT F_law_drawn_addition 0 (pl a b) [] e = .ok (.fz (rowD r)) e := fun e => callT_ok (ds := []) rfl rfl Q
      have ad : dAdd (.int 1) (.int k) = some (.int (1 + k)) := rfl
      have t2 : M.bind rowE frz1 [.fz (scriptD ns), s1, .no, .no, .no, .no, .fz (.int k), .no, .no, .no, .no] = .ok (rowD r) [.fz (scriptD ns), s1, .no, .no, .no, .no, .fz (.int k), .no, .no, .no, .no] := by
        simp only [rowE, runF, mSeq_r, mIfS_r, mSet_r, mSetO_r, mRet_r, mRetO_r, mRetN_r, mNx_r, mDrop_r, frz1_d, frzs_cons, frzs_nil, mA0_r, mA_r, mAS_r, mTup_r, mLst_r, mFz_r, mDic0_r, toD_lst, toD_dic, toD_obj, mAnd_r, mOr_r, mNot_r, mAndV_r, mOrV_r, mNotV_r, mT_r, mIf_r, mChain_r, mIt_r, mRng1_r, mFor_r, mAsg_r, mPar_r, mParO_r, mCall_r, mCallO_r, retO_r, retD_fz, retD_ow, mCallM_r, mCallMO_r, mCallT_r, mSl_r, mM1_r, mPutAt_r, mLC_r, mD_r, mB1_r, mB2_r, mC_r, mV, ap1_r, ap2_r, view_d, view, g2b_r, th_ok, th_exc, rop_some, pure_r, bind_r, mMake_r, mMakeSt_r, callD_r, callO_r, mOp2_r, mIxO_r, mAt_r, mRaise_r, mSetF_r, mMeth_r, mMethO_r, mEnum_r, mApp_r, chkL, appAt, mTry_r, hd_ok, hd_exc, mW_r, wp_nx, wp_ct, wp_bk, wp_rt, wp_ro, wp_exc, wipeB_t, wipeB_f, wipeB_n, wpS_no, wpS_fz, wpS_owf, wpS_owt, List.getElem?_cons_zero, List.getElem?_cons_succ, List.set_cons_zero, List.set_cons_succ, Option.bind_some, Option.map_some, if_true, if_false, eq_self, Bool.false_eq_true, Bool.not_true, Bool.not_false, List.cons_append, List.nil_append, List.append_nil, List.replicate, put, blOf, truth, outs, List.length_cons, List.length_nil, Nat.reduceAdd, Nat.zero_add, ad, c0, c1]
      simp only [lc, g, pure_r, t2, w, L, if_true, List.map_cons, List.append_assoc, List.cons_append, List.nil_append]
    · rcases List.mem_cons.mp ha with rfl | ha
      · exact hr
      · exact e2 a ha
def valE : M Opd := (mFz (mMake "Addition" 2 F_Addition_init (mA (mV 9) (mA (mV 10) mA0))))
theorem valsLC {ns : List Int} {s1 s2 : AN.Slot} {rows : List Row} (h : ∀ a ∈ rows, okT a.2) : lc [9, 10] (gT 2 (gs (gN 9) (gs (gN 10) gs0))) (M.pure true) valE (rows.map rowD) [] [.fz (scriptD ns), s1, s2, .no, .no, .no, .no, .no, .no, .no, .no] = .ok (rows.map addO) [.fz (scriptD ns), s1, s2, .no, .no, .no, .no, .no, .no, .no, .no] := by
  have := lcF (vs := [9, 10]) (g := gT 2 (gs (gN 9) (gs (gN 10) gs0))) (mt := M.pure true) (me := valE) (E := [.fz (scriptD ns), s1, s2, .no, .no, .no, .no, .no, .no, .no, .no]) (h := rowD) (h' := addO) (p := fun _ => true) (fun a => [.fz (scriptD ns), s1, s2, .no, .no, .no, .no, .no, .no, .fz (plc a.1), .fz (.int a.2)]) (xs := rows) (acc := []) (fun a ha => ⟨rfl, rfl, by
    have mk := fun e => makeA (a := a) (e := e) (h a ha)
    have ea : AN.D.obj "Addition" (addF (plc a.1) (.int a.2) (kd a.1) (ls a.1)) = addO a := rfl
    simp only [valE, runF, mSeq_r, mIfS_r, mSet_r, mSetO_r, mRet_r, mRetO_r, mRetN_r, mNx_r, mDrop_r, frz1_d, frzs_cons, frzs_nil, mA0_r, mA_r, mAS_r, mTup_r, mLst_r, mFz_r, mDic0_r, toD_lst, toD_dic, toD_obj, mAnd_r, mOr_r, mNot_r, mAndV_r, mOrV_r, mNotV_r, mT_r, mIf_r, mChain_r, mIt_r, mRng1_r, mFor_r, mAsg_r, mPar_r, mParO_r, mCall_r, mCallO_r, retO_r, retD_fz, retD_ow, mCallM_r, mCallMO_r, mCallT_r, mSl_r, mM1_r, mPutAt_r, mLC_r, mD_r, mB1_r, mB2_r, mC_r, mV, ap1_r, ap2_r, view_d, view, g2b_r, th_ok, th_exc, rop_some, pure_r, bind_r, mMake_r, mMakeSt_r, callD_r, callO_r, mOp2_r, mIxO_r, mAt_r, mRaise_r, mSetF_r, mMeth_r, mMethO_r, mEnum_r, mApp_r, chkL, appAt, mTry_r, hd_ok, hd_exc, mW_r, wp_nx, wp_ct, wp_bk, wp_rt, wp_ro, wp_exc, wipeB_t, wipeB_f, wipeB_n, wpS_no, wpS_fz, wpS_owf, wpS_owt, List.getElem?_cons_zero, List.getElem?_cons_succ, List.set_cons_zero, List.set_cons_succ, Option.bind_some, Option.map_some, if_true, if_false, eq_self, Bool.false_eq_true, Bool.not_true, Bool.not_false, List.cons_append, List.nil_append, List.append_nil, List.replicate, put, blOf, truth, outs, List.length_cons, List.length_nil, Nat.reduceAdd, Nat.zero_add, mk, ea], rfl⟩)
  rw [this, List.filter_eq_self.mpr (fun _ _ => rfl)]; rfl
end G

set_option Elab.async false
set_option maxRecDepth 100000
set_option linter.unusedVariables false
set_option linter.unusedSimpArgs false
namespace G
open PySem L2 AN
def strV : List D := [.non, .int 5, .str "a", .tup [.str "name", .str "l", .str "a"], .lst [], .tup [.tup [.str "name", .str "l", .str "a"], .int 1]]
theorem strV_ok : ∀ x ∈ strV, AN.isObj x = false ∧ shOk x = true := by
  intro x hx
  simp only [strV, List.mem_cons, List.not_mem_nil, or_false] at hx
  rcases hx with rfl | rfl | rfl | rfl | rfl | rfl <;> exact ⟨rfl, by decide +kernel⟩
def strM : M Fl := (mIfS (mAnd (mB2 (g2b dNe) (mV 2) (mFz (mLst mA0))) (mB2 (g2b dEq) (mCallM [true, false] F_law_draw (mA (mV 1) (mA (mC (.int 3)) mA0))) (mC (.int 0)))) (mSeq (mSet 5 (mFz (mLst (mA (mC .non) (mA (mC (.int 5)) (mA (mC (.str "a")) (mA (mTup (mA (mC (.str "name")) (mA (mC (.str "l")) (mA (mC (.str "a")) mA0)))) (mA (mFz (mLst mA0)) (mA (mTup (mA (mTup (mA (mC (.str "name")) (mA (mC (.str "l")) (mA (mC (.str "a")) mA0)))) (mA (mC (.int 1)) mA0))) mA0)))))))))
    (mSeq (mPar [7, 8] (mA (mCallM [true, false] F_law_draw (mA (mV 1) (mA (mD (mB1 dLen (mV 2))) mA0))) (mA (mCallM [true, false] F_law_pick (mA (mV 1) (mA (mV 5) mA0))) mA0)))
    (mSeq (mPutAt 3 (mV 7) (mV 8))
    (mSeq (mSet 4 (mFz (mLst (mA (mC (.str "value")) (mA (mD (mB1 dRepr (mV 8))) mA0)))))
    (mIfS (mAnd (mB2 (g2b dEq) (mCallM [true, false] F_law_draw (mA (mV 1) (mA (mC (.int 2)) mA0))) (mC (.int 0))) (mB2 (g2b dGt) (mV 7) (mC (.int 0)))) (mSeq (mPutAt 3 (mD (mB2 dSub (mV 7) (mC (.int 1)))) (mC (.bl true)))
    (mSet 4 (mFz (mLst (mA (mC (.str "value")) (mA (mC (.str "True")) mA0)))))) mNx))))) mNx)
theorem ixN_in {n : Nat} {k : Int} (h0 : 0 ≤ k) (h1 : k < n) : ixN n k = some k.toNat := by
  unfold ixN
  rw [if_pos h0, if_pos h1]
theorem set_split {rows : List Row} {x : D} : ∀ {j : Nat}, j < rows.length → (rows.map addO).set j x = (rows.take j).map addO ++ x :: (rows.drop (j + 1)).map addO := fun {j} h => by
  rw [List.set_eq_take_append_cons_drop, if_pos (by simpa using h), List.map_take, List.map_drop]
theorem set_split2 {rows : List Row} {x y : D} {j : Nat} (h : j + 1 < rows.length) : ((rows.map addO).set (j + 1) x).set j y = (rows.take j).map addO ++ y :: (x :: (rows.drop (j + 2)).map addO) := by
  rw [List.set_eq_take_append_cons_drop, if_pos (by simp; omega)]
  rw [set_split h]
  have h1 : ((rows.take (j + 1)).map addO).length = j + 1 := by rw [List.length_map, List.length_take]; omega
  congr 1
  · rw [List.take_append_of_le_length (by omega), ← List.map_take, List.take_take]
    congr 2
    omega
  · rw [List.drop_append_of_le_length (by omega), List.drop_of_length_le (by omega)]; rfl
/-- what the values are made to be, and what is due -/
structure Due (vs : List D) (r : UV) : Prop where
  len : vs.length ≤ 6
  made : ∀ e, makeSt "Several" F_Several_init (vs.map .d) e = r.mk e
  bad : ∀ x, r = .bad x → shOk x = true
  kept : ∀ f, r = .u (.ok f) → f.length ≤ 900
theorem due_rows {rows : List Row} (hl : rows.length ≤ 6) : Due (rows.map addO) (.u (unl [] rows)) := ⟨by simpa using hl, fun e => makeS (by omega) (frzs_d ..), (fun x h => by cases h), fun f h => Nat.le_trans (unl_len (rows := rows) (by omega) (UV.u.inj h)) (by omega)⟩
theorem due_bad {rows : List Row} {x : D} {rest vs : List D} (hx : AN.isObj x = false) (hs : shOk x = true) (hv : vs = rows.map addO ++ x :: rest) (hl : vs.length ≤ 6) : Due vs (.bad x) := ⟨hl, fun e => makeB hx hv (by omega), (fun y h => by cases h; exact hs), (fun f h => by cases h)⟩
theorem strM_ok {ns : List Int} {rows : List Row} {a b : Int} (hP : Pl a b) (hl : rows.length ≤ 6) : ∃ vs r s1 s5 s7 s8, strM [.fz (scriptD ns), .ow false (pl a b), .fz (.lst (rows.map rowD)), .ow false (.lst (rows.map addO)), .fz (unl [] rows).du.toD, .no, .no, .no, .no, .no, .no] = .ok .nx [.fz (scriptD ns), s1, .fz (.lst (rows.map rowD)), .ow false (.lst vs), .fz (UV.du r).toD, s5, .no, s7, s8, .no, .no] ∧ Due vs r := by
  have z0 : (0 : Nat) ≤ sizeLine := Nat.zero_le _
  have i0 := ne_nil (xs := rows)
  cases e0 : rows.isEmpty with
  | true =>
    rw [e0] at i0
    refine ⟨rows.map addO, .u (unl [] rows), .ow false (pl a b), .no, .no, .no, ?_, due_rows hl⟩
    simp only [strM, runF, mSeq_r, mIfS_r, mSet_r, mSetO_r, mRet_r, mRetO_r, mRetN_r, mNx_r, mDrop_r, frz1_d, frzs_cons, frzs_nil, mA0_r, mA_r, mAS_r, mTup_r, mLst_r, mFz_r, mDic0_r, toD_lst, toD_dic, toD_obj, mAnd_r, mOr_r, mNot_r, mAndV_r, mOrV_r, mNotV_r, mT_r, mIf_r, mChain_r, mIt_r, mRng1_r, mFor_r, mAsg_r, mPar_r, mParO_r, mCall_r, mCallO_r, retO_r, retD_fz, retD_ow, mCallM_r, mCallMO_r, mCallT_r, mSl_r, mM1_r, mPutAt_r, mLC_r, mD_r, mB1_r, mB2_r, mC_r, mV, ap1_r, ap2_r, view_d, view, g2b_r, th_ok, th_exc, rop_some, pure_r, bind_r, mMake_r, mMakeSt_r, callD_r, callO_r, mOp2_r, mIxO_r, mAt_r, mRaise_r, mSetF_r, mMeth_r, mMethO_r, mEnum_r, mApp_r, chkL, appAt, mTry_r, hd_ok, hd_exc, mW_r, wp_nx, wp_ct, wp_bk, wp_rt, wp_ro, wp_exc, wipeB_t, wipeB_f, wipeB_n, wpS_no, wpS_fz, wpS_owf, wpS_owt, List.getElem?_cons_zero, List.getElem?_cons_succ, List.set_cons_zero, List.set_cons_succ, Option.bind_some, Option.map_some, if_true, if_false, eq_self, Bool.false_eq_true, Bool.not_true, Bool.not_false, List.cons_append, List.nil_append, List.append_nil, List.replicate, put, blOf, truth, outs, List.length_cons, List.length_nil, Nat.reduceAdd, Nat.zero_add, lim_r z0, i0, UV.du]
  | false =>
    rw [e0] at i0
    have h0 : 0 < rows.length := by
      cases rows with
      | nil => cases e0
      | cons _ _ => simp
    obtain ⟨v, a1, b1, p1, v0, v1, q1⟩ := draw_ok (n := 3) hP (by omega) (by omega)
    have c1 : callM [true, false] F_law_draw [.sl 1, .d (.int 3)] [.fz (scriptD ns), .ow false (pl a b), .fz (.lst (rows.map rowD)), .ow false (.lst (rows.map addO)), .fz (unl [] rows).du.toD, .no, .no, .no, .no, .no, .no] = .ok (.fz (.int v)) [.fz (scriptD ns), .ow false (pl a1 b1), .fz (.lst (rows.map rowD)), .ow false (.lst (rows.map addO)), .fz (unl [] rows).du.toD, .no, .no, .no, .no, .no, .no] := callM_ok (by simp [ioS]) (ds := [.non, .int 3]) rfl rfl p1 rfl
    cases e1 : (v == 0) with
    | false =>
      refine ⟨rows.map addO, .u (unl [] rows), .ow false (pl a1 b1), .no, .no, .no, ?_, due_rows hl⟩
      simp only [strM, runF, mSeq_r, mIfS_r, mSet_r, mSetO_r, mRet_r, mRetO_r, mRetN_r, mNx_r, mDrop_r, frz1_d, frzs_cons, frzs_nil, mA0_r, mA_r, mAS_r, mTup_r, mLst_r, mFz_r, mDic0_r, toD_lst, toD_dic, toD_obj, mAnd_r, mOr_r, mNot_r, mAndV_r, mOrV_r, mNotV_r, mT_r, mIf_r, mChain_r, mIt_r, mRng1_r, mFor_r, mAsg_r, mPar_r, mParO_r, mCall_r, mCallO_r, retO_r, retD_fz, retD_ow, mCallM_r, mCallMO_r, mCallT_r, mSl_r, mM1_r, mPutAt_r, mLC_r, mD_r, mB1_r, mB2_r, mC_r, mV, ap1_r, ap2_r, view_d, view, g2b_r, th_ok, th_exc, rop_some, pure_r, bind_r, mMake_r, mMakeSt_r, callD_r, callO_r, mOp2_r, mIxO_r, mAt_r, mRaise_r, mSetF_r, mMeth_r, mMethO_r, mEnum_r, mApp_r, chkL, appAt, mTry_r, hd_ok, hd_exc, mW_r, wp_nx, wp_ct, wp_bk, wp_rt, wp_ro, wp_exc, wipeB_t, wipeB_f, wipeB_n, wpS_no, wpS_fz, wpS_owf, wpS_owt, List.getElem?_cons_zero, List.getElem?_cons_succ, List.set_cons_zero, List.set_cons_succ, Option.bind_some, Option.map_some, if_true, if_false, eq_self, Bool.false_eq_true, Bool.not_true, Bool.not_false, List.cons_append, List.nil_append, List.append_nil, List.replicate, put, blOf, truth, outs, List.length_cons, List.length_nil, Nat.reduceAdd, Nat.zero_add, lim_r z0, i0, c1, dEq_int, e1, UV.du]
    | true =>
      obtain ⟨w, a2, b2, p2, w0, w1, q2⟩ := draw_ok (n := (rows.length : Nat)) q1 (by omega) (by omega)
      obtain ⟨x, a3, b3, p3, hx, q3⟩ := pick_lst (s := strV) q2 (by decide) (by decide)
      obtain ⟨u, a4, b4, p4, u0, u1, q4⟩ := draw_ok (n := 2) q3 (by omega) (by omega)
      obtain ⟨ho, hs⟩ := strV_ok x hx
      have c2 : callM [true, false] F_law_draw [.sl 1, .d (.int (rows.length : Nat))] [.fz (scriptD ns), .ow false (pl a1 b1), .fz (.lst (rows.map rowD)), .ow false (.lst (rows.map addO)), .fz (unl [] rows).du.toD, .fz (.lst strV), .no, .no, .no, .no, .no] = .ok (.fz (.int w)) [.fz (scriptD ns), .ow false (pl a2 b2), .fz (.lst (rows.map rowD)), .ow false (.lst (rows.map addO)), .fz (unl [] rows).du.toD, .fz (.lst strV), .no, .no, .no, .no, .no] := callM_ok (by simp [ioS]) (ds := [.non, .int (rows.length : Nat)]) rfl rfl p2 rfl
      have c3 : callM [true, false] F_law_pick [.sl 1, .d (.lst strV)] [.fz (scriptD ns), .ow false (pl a2 b2), .fz (.lst (rows.map rowD)), .ow false (.lst (rows.map addO)), .fz (unl [] rows).du.toD, .fz (.lst strV), .no, .no, .no, .no, .no] = .ok (.fz x) [.fz (scriptD ns), .ow false (pl a3 b3), .fz (.lst (rows.map rowD)), .ow false (.lst (rows.map addO)), .fz (unl [] rows).du.toD, .fz (.lst strV), .no, .no, .no, .no, .no] := callM_ok (by simp [ioS]) (ds := [.non, .lst strV]) rfl rfl p3 rfl
      have c4 : callM [true, false] F_law_draw [.sl 1, .d (.int 2)] [.fz (scriptD ns), .ow false (pl a3 b3), .fz (.lst (rows.map rowD)), .ow false (.lst ((rows.map addO).set w.toNat x)), .fz (.lst [.str "value", .str (toP x).shown]), .fz (.lst strV), .no, .fz (.int w), .fz x, .no, .no] = .ok (.fz (.int u)) [.fz (scriptD ns), .ow false (pl a4 b4), .fz (.lst (rows.map rowD)), .ow false (.lst ((rows.map addO).set w.toNat x)), .fz (.lst [.str "value", .str (toP x).shown]), .fz (.lst strV), .no, .fz (.int w), .fz x, .no, .no] := callM_ok (by simp [ioS]) (ds := [.non, .int 2]) rfl rfl p4 rfl
      have pa : AN.putAt 3 x (some w) [.fz (scriptD ns), .ow false (pl a3 b3), .fz (.lst (rows.map rowD)), .ow false (.lst (rows.map addO)), .fz (unl [] rows).du.toD, .fz (.lst strV), .no, .fz (.int w), .fz x, .no, .no] = .ok .nx [.fz (scriptD ns), .ow false (pl a3 b3), .fz (.lst (rows.map rowD)), .ow false (.lst ((rows.map addO).set w.toNat x)), .fz (unl [] rows).du.toD, .fz (.lst strV), .no, .fz (.int w), .fz x, .no, .no] := by
        have := ixN_in (n := (rows.map addO).length) (k := w) w0 (by simpa using w1)
        unfold AN.putAt
        simp only [List.getElem?_cons_zero, List.getElem?_cons_succ, this, List.set_cons_zero, List.set_cons_succ]
      have ln : dLen (.lst (rows.map rowD)) = some (.int (rows.length : Nat)) := by simp [dLen]
      have d1 : dRepr x = some (.str (toP x).shown) := if_pos hs
      have pt : puts [7, 8] [.int w, x] [.fz (scriptD ns), .ow false (pl a3 b3), .fz (.lst (rows.map rowD)), .ow false (.lst (rows.map addO)), .fz (unl [] rows).du.toD, .fz (.lst strV), .no, .no, .no, .no, .no] = some [.fz (scriptD ns), .ow false (pl a3 b3), .fz (.lst (rows.map rowD)), .ow false (.lst (rows.map addO)), .fz (unl [] rows).du.toD, .fz (.lst strV), .no, .fz (.int w), .fz x, .no, .no] := rfl
      have z1 := zL (n := 1) (by omega); have z2 := zL (n := 2) (by omega); have z3 := zL (n := 3) (by omega); have z6 := zL (n := 6) (by omega)
      have est : [D.non, .int 5, .str "a", .tup [.str "name", .str "l", .str "a"], .lst [], .tup [.tup [.str "name", .str "l", .str "a"], .int 1]] = strV := rfl
      have sl : strV.length = 6 := rfl
      have gt0 : dGt (.int w) (.int 0) = some (.bl (decide (0 < w))) := rfl
      have hw : w.toNat < rows.length := by omega
      have n1 := set_split (x := x) hw
      have one : Due ((rows.map addO).set w.toNat x) (.bad x) := due_bad ho hs n1 (by rw [List.length_set, List.length_map]; exact hl)
      cases e2 : (u == 0) with
      | false =>
        refine ⟨_, .bad x, .ow false (pl a4 b4), .fz (.lst strV), .fz (.int w), .fz x, ?_, one⟩
        simp only [strM, runF, mSeq_r, mIfS_r, mSet_r, mSetO_r, mRet_r, mRetO_r, mRetN_r, mNx_r, mDrop_r, frz1_d, frzs_cons, frzs_nil, mA0_r, mA_r, mAS_r, mTup_r, mLst_r, mFz_r, mDic0_r, toD_lst, toD_dic, toD_obj, mAnd_r, mOr_r, mNot_r, mAndV_r, mOrV_r, mNotV_r, mT_r, mIf_r, mChain_r, mIt_r, mRng1_r, mFor_r, mAsg_r, mPar_r, mParO_r, mCall_r, mCallO_r, retO_r, retD_fz, retD_ow, mCallM_r, mCallMO_r, mCallT_r, mSl_r, mM1_r, mPutAt_r, mLC_r, mD_r, mB1_r, mB2_r, mC_r, mV, ap1_r, ap2_r, view_d, view, g2b_r, th_ok, th_exc, rop_some, pure_r, bind_r, mMake_r, mMakeSt_r, callD_r, callO_r, mOp2_r, mIxO_r, mAt_r, mRaise_r, mSetF_r, mMeth_r, mMethO_r, mEnum_r, mApp_r, chkL, appAt, mTry_r, hd_ok, hd_exc, mW_r, wp_nx, wp_ct, wp_bk, wp_rt, wp_ro, wp_exc, wipeB_t, wipeB_f, wipeB_n, wpS_no, wpS_fz, wpS_owf, wpS_owt, List.getElem?_cons_zero, List.getElem?_cons_succ, List.set_cons_zero, List.set_cons_succ, Option.bind_some, Option.map_some, if_true, if_false, eq_self, Bool.false_eq_true, Bool.not_true, Bool.not_false, List.cons_append, List.nil_append, List.append_nil, List.replicate, put, blOf, truth, outs, List.length_cons, List.length_nil, Nat.reduceAdd, Nat.zero_add, lim_r z0, i0, c1, dEq_int, e1, est, sl, lim_r z1, lim_r z2, lim_r z3, lim_r z6, ln, c2, c3, pt, intOf, pa, d1, c4, e2, UV.du]
      | true =>
        cases e3 : decide (0 < w) with
        | false =>
          refine ⟨_, .bad x, .ow false (pl a4 b4), .fz (.lst strV), .fz (.int w), .fz x, ?_, one⟩
          simp only [strM, runF, mSeq_r, mIfS_r, mSet_r, mSetO_r, mRet_r, mRetO_r, mRetN_r, mNx_r, mDrop_r, frz1_d, frzs_cons, frzs_nil, mA0_r, mA_r, mAS_r, mTup_r, mLst_r, mFz_r, mDic0_r, toD_lst, toD_dic, toD_obj, mAnd_r, mOr_r, mNot_r, mAndV_r, mOrV_r, mNotV_r, mT_r, mIf_r, mChain_r, mIt_r, mRng1_r, mFor_r, mAsg_r, mPar_r, mParO_r, mCall_r, mCallO_r, retO_r, retD_fz, retD_ow, mCallM_r, mCallMO_r, mCallT_r, mSl_r, mM1_r, mPutAt_r, mLC_r, mD_r, mB1_r, mB2_r, mC_r, mV, ap1_r, ap2_r, view_d, view, g2b_r, th_ok, th_exc, rop_some, pure_r, bind_r, mMake_r, mMakeSt_r, callD_r, callO_r, mOp2_r, mIxO_r, mAt_r, mRaise_r, mSetF_r, mMeth_r, mMethO_r, mEnum_r, mApp_r, chkL, appAt, mTry_r, hd_ok, hd_exc, mW_r, wp_nx, wp_ct, wp_bk, wp_rt, wp_ro, wp_exc, wipeB_t, wipeB_f, wipeB_n, wpS_no, wpS_fz, wpS_owf, wpS_owt, List.getElem?_cons_zero, List.getElem?_cons_succ, List.set_cons_zero, List.set_cons_succ, Option.bind_some, Option.map_some, if_true, if_false, eq_self, Bool.false_eq_true, Bool.not_true, Bool.not_false, List.cons_append, List.nil_append, List.append_nil, List.replicate, put, blOf, truth, outs, List.length_cons, List.length_nil, Nat.reduceAdd, Nat.zero_add, lim_r z0, i0, c1, dEq_int, e1, est, sl, lim_r z1, lim_r z2, lim_r z3, lim_r z6, ln, c2, c3, pt, intOf, pa, d1, c4, e2, gt0, e3, UV.du]
        | true =>
          have h1 : 0 < w := of_decide_eq_true e3
          have hj : (w - 1).toNat + 1 = w.toNat := by omega
          have n2 := set_split2 (rows := rows) (x := x) (y := .bl true) (j := (w - 1).toNat) (by omega)
          rw [hj] at n2
          refine ⟨((rows.map addO).set w.toNat x).set (w - 1).toNat (.bl true), .bad (.bl true), .ow false (pl a4 b4), .fz (.lst strV), .fz (.int w), .fz x, ?_, due_bad rfl (by decide +kernel) n2 (by rw [List.length_set, List.length_set, List.length_map]; exact hl)⟩
          have sb : dSub (.int w) (.int 1) = some (.int (w - 1)) := rfl
          have pb : AN.putAt 3 (.bl true) (some (w - 1)) [.fz (scriptD ns), .ow false (pl a4 b4), .fz (.lst (rows.map rowD)), .ow false (.lst ((rows.map addO).set w.toNat x)), .fz (.lst [.str "value", .str (toP x).shown]), .fz (.lst strV), .no, .fz (.int w), .fz x, .no, .no] = .ok .nx [.fz (scriptD ns), .ow false (pl a4 b4), .fz (.lst (rows.map rowD)), .ow false (.lst (((rows.map addO).set w.toNat x).set (w - 1).toNat (.bl true))), .fz (.lst [.str "value", .str (toP x).shown]), .fz (.lst strV), .no, .fz (.int w), .fz x, .no, .no] := by
            have := ixN_in (n := ((rows.map addO).set w.toNat x).length) (k := w - 1) (by omega) (by rw [List.length_set, List.length_map]; omega)
            unfold AN.putAt
            simp only [List.getElem?_cons_zero, List.getElem?_cons_succ, this, List.set_cons_zero, List.set_cons_succ]
          have tr : (toP (.bl true)).shown = "True" := by decide +kernel
          simp only [strM, runF, mSeq_r, mIfS_r, mSet_r, mSetO_r, mRet_r, mRetO_r, mRetN_r, mNx_r, mDrop_r, frz1_d, frzs_cons, frzs_nil, mA0_r, mA_r, mAS_r, mTup_r, mLst_r, mFz_r, mDic0_r, toD_lst, toD_dic, toD_obj, mAnd_r, mOr_r, mNot_r, mAndV_r, mOrV_r, mNotV_r, mT_r, mIf_r, mChain_r, mIt_r, mRng1_r, mFor_r, mAsg_r, mPar_r, mParO_r, mCall_r, mCallO_r, retO_r, retD_fz, retD_ow, mCallM_r, mCallMO_r, mCallT_r, mSl_r, mM1_r, mPutAt_r, mLC_r, mD_r, mB1_r, mB2_r, mC_r, mV, ap1_r, ap2_r, view_d, view, g2b_r, th_ok, th_exc, rop_some, pure_r, bind_r, mMake_r, mMakeSt_r, callD_r, callO_r, mOp2_r, mIxO_r, mAt_r, mRaise_r, mSetF_r, mMeth_r, mMethO_r, mEnum_r, mApp_r, chkL, appAt, mTry_r, hd_ok, hd_exc, mW_r, wp_nx, wp_ct, wp_bk, wp_rt, wp_ro, wp_exc, wipeB_t, wipeB_f, wipeB_n, wpS_no, wpS_fz, wpS_owf, wpS_owt, List.getElem?_cons_zero, List.getElem?_cons_succ, List.set_cons_zero, List.set_cons_succ, Option.bind_some, Option.map_some, if_true, if_false, eq_self, Bool.false_eq_true, Bool.not_true, Bool.not_false, List.cons_append, List.nil_append, List.append_nil, List.replicate, put, blOf, truth, outs, List.length_cons, List.length_nil, Nat.reduceAdd, Nat.zero_add, lim_r z0, i0, c1, dEq_int, e1, est, sl, lim_r z1, lim_r z2, lim_r z3, lim_r z6, ln, c2, c3, pt, intOf, pa, d1, c4, e2, gt0, e3, sb, pb, UV.du, tr]
theorem law_plain : ∀ ns : List Int, ns.length ≤ 63 → ∃ as, F_law [.fz (scriptD ns)] = .ok (.fz (.bl true)) as := by
  intro ns hl
  obtain ⟨a, b, P1, p1⟩ := pool_ok (ns := ns) (k := 0) (by omega) (by omega) hl
  obtain ⟨v, a1, b1, P2, v0, v1, p2⟩ := draw_ok (n := 7) p1 (by omega) (by omega)
  have c0 := fun e => callO2 (e := e) P1
  have c1 : callM [true, false] F_law_draw [.sl 1, .d (.int 7)] [.fz (scriptD ns), .ow false (pl a b), .no, .no, .no, .no, .no, .no, .no, .no, .no] = .ok (.fz (.int v)) [.fz (scriptD ns), .ow false (pl a1 b1), .no, .no, .no, .no, .no, .no, .no, .no, .no] := callM_ok (by simp [ioS]) (ds := [.non, .int 7]) rfl rfl P2 rfl
  have nl : (nums 0 v.toNat).length = v.toNat := by simp [nums]
  obtain ⟨rows, L, hn, hT⟩ := rowsLC (ns := ns) (s1 := .ow false (pl a1 b1)) hl (ds := nums 0 v.toNat) (acc := []) (fun d hd => by
    obtain ⟨k, hk, rfl⟩ := List.mem_map.mp hd
    have := List.mem_range.mp hk
    exact ⟨_, rfl, by omega, by omega⟩)
  rw [nl] at hn
  rw [List.nil_append] at L
  have hr : rows.length ≤ 6 := by omega
  have r1 : rng1 (.int v) = some (nums 0 v.toNat) := by
    simp only [rng1]; rw [if_pos (by omega)]
  have zn : (nums 0 v.toNat).length ≤ sizeLine := by rw [nl]; exact zL (by omega)
  have V := valsLC (ns := ns) (s1 := .ow false (pl a1 b1)) (s2 := .fz (.lst (rows.map rowD))) hT
  have zr : (rows.map rowD).length ≤ sizeLine := by rw [List.length_map]; exact zL (by omega)
  have c2 := fun e => callO1 (e := e) (due_ok (rows := rows) (by omega))
  obtain ⟨vs, r, s1, s5, s7, s8, S, hd⟩ := strM_ok (ns := ns) (rows := rows) p2 hr
  have A := ans_ok hd.len hd.made hd.bad hd.kept
  have c3 : callP 1 F_law_answer [.sl 3] [.fz (scriptD ns), s1, .fz (.lst (rows.map rowD)), .ow false (.lst vs), .fz r.du.toD, s5, .no, s7, s8, .no, .no] = .ok (.ow r.du) [.fz (scriptD ns), s1, .fz (.lst (rows.map rowD)), .fz (.lst vs), .fz r.du.toD, s5, .no, s7, s8, .no, .no] := by
    have f1 : frzs [.sl 3] [.fz (scriptD ns), s1, .fz (.lst (rows.map rowD)), .ow false (.lst vs), .fz r.du.toD, s5, .no, s7, s8, .no, .no] = .ok [.lst vs] [.fz (scriptD ns), s1, .fz (.lst (rows.map rowD)), .fz (.lst vs), .fz r.du.toD, s5, .no, s7, s8, .no, .no] := rfl
    have sc : scalar (Ret.ow r.du).toD = false := by
      cases r with
      | bad x => rfl
      | u w => cases w <;> rfl
    unfold callP
    rw [if_pos (show [Opd.sl 3].length = 1 from rfl), f1]
    dsimp only
    rw [show F_law_answer (List.map Slot.fz [D.lst vs]) = _ from A]
    dsimp only
    rw [sc, if_neg Bool.false_ne_true]
  have eq : dEq r.du.toD r.du.toD = some (.bl true) := by
    unfold dEq
    rw [if_pos (by rw [du_dle]; rfl), deqv_refl 8 _ (du_dle r)]
  have wv6 : wipeE [6] 0 [.fz (scriptD ns), .ow false (pl a1 b1), .no, .no, .no, .no, .no, .no, .no, .no, .no] = [.fz (scriptD ns), .ow false (pl a1 b1), .no, .no, .no, .no, .no, .no, .no, .no, .no] := rfl
  have rv6 : restE [6] 0 [.fz (scriptD ns), .ow false (pl a1 b1), .no, .no, .no, .no, .no, .no, .no, .no, .no] [.fz (scriptD ns), .ow false (pl a1 b1), .no, .no, .no, .no, .no, .no, .no, .no, .no] = [.fz (scriptD ns), .ow false (pl a1 b1), .no, .no, .no, .no, .no, .no, .no, .no, .no] := rfl
  have wv9 : wipeE [9, 10] 0 [.fz (scriptD ns), .ow false (pl a1 b1), .fz (.lst (rows.map rowD)), .no, .no, .no, .no, .no, .no, .no, .no] = [.fz (scriptD ns), .ow false (pl a1 b1), .fz (.lst (rows.map rowD)), .no, .no, .no, .no, .no, .no, .no, .no] := rfl
  have rv9 : restE [9, 10] 0 [.fz (scriptD ns), .ow false (pl a1 b1), .fz (.lst (rows.map rowD)), .no, .no, .no, .no, .no, .no, .no, .no] [.fz (scriptD ns), .ow false (pl a1 b1), .fz (.lst (rows.map rowD)), .no, .no, .no, .no, .no, .no, .no, .no] = [.fz (scriptD ns), .ow false (pl a1 b1), .fz (.lst (rows.map rowD)), .no, .no, .no, .no, .no, .no, .no, .no] := rfl
  have eM : m_law = (mSeq (mSetO 1 (mCallO 2 F_law_pool_of (mA (mV 0) (mA (mC (.int 0)) mA0))))
    (mSeq (mSet 2 (mFz (mLC [6] (mRng1 (mCallM [true, false] F_law_draw (mA (mV 1) (mA (mC (.int 7)) mA0)))) (gN 6) (M.pure true) rowE)))
    (mSeq (mParO 3 4 (mLC [9, 10] (mIt (mV 2)) (gT 2 (gs (gN 9) (gs (gN 10) gs0))) (M.pure true) valE) (mCall 1 F_law_due_of (mA (mV 2) mA0)))
    (mSeq strM (mRet (mD (mB2 dEq (mCall 1 F_law_answer (mA (mV 3) mA0)) (mV 4)))))))) := rfl
  refine ⟨[.fz (scriptD ns)], ?_⟩
  simp only [F_law, eM, runF, mSeq_r, mIfS_r, mSet_r, mSetO_r, mRet_r, mRetO_r, mRetN_r, mNx_r, mDrop_r, frz1_d, frzs_cons, frzs_nil, mA0_r, mA_r, mAS_r, mTup_r, mLst_r, mFz_r, mDic0_r, toD_lst, toD_dic, toD_obj, mAnd_r, mOr_r, mNot_r, mAndV_r, mOrV_r, mNotV_r, mT_r, mIf_r, mChain_r, mIt_r, mRng1_r, mFor_r, mAsg_r, mPar_r, mParO_r, mCall_r, mCallO_r, retO_r, retD_fz, retD_ow, mCallM_r, mCallMO_r, mCallT_r, mSl_r, mM1_r, mPutAt_r, mLC_r, mD_r, mB1_r, mB2_r, mC_r, mV, ap1_r, ap2_r, view_d, view, g2b_r, th_ok, th_exc, rop_some, pure_r, bind_r, mMake_r, mMakeSt_r, callD_r, callO_r, mOp2_r, mIxO_r, mAt_r, mRaise_r, mSetF_r, mMeth_r, mMethO_r, mEnum_r, mApp_r, chkL, appAt, mTry_r, hd_ok, hd_exc, mW_r, wp_nx, wp_ct, wp_bk, wp_rt, wp_ro, wp_exc, wipeB_t, wipeB_f, wipeB_n, wpS_no, wpS_fz, wpS_owf, wpS_owt, List.getElem?_cons_zero, List.getElem?_cons_succ, List.set_cons_zero, List.set_cons_succ, Option.bind_some, Option.map_some, if_true, if_false, eq_self, Bool.false_eq_true, Bool.not_true, Bool.not_false, List.cons_append, List.nil_append, List.append_nil, List.replicate, put, blOf, truth, outs, List.length_cons, List.length_nil, Nat.reduceAdd, Nat.zero_add, c0, c1, r1, if_pos zn, wv6, L, rv6, seqOf, if_pos zr, wv9, V, rv9, c2, gN, S, c3, eq]
end G

set_option Elab.async false
set_option maxRecDepth 100000
set_option linter.unusedVariables false
namespace G
open PySem L2 AN
set_option maxHeartbeats 0 in
theorem all_mk {P : Program} {w : World} {K : PySem.W.Frag} {h : Heap} {mg : Str → Option Value} {fa : Addr} (X : K.In h) (G : h.Ns mainGlobals mg) (hfa : mg "law" = some (.ref fa))
    {A_Addition : Addr}
    {A_AlreadyThere : Addr}
    {A_BadAddition : Addr}
    {A_BadPlace : Addr}
    {A_BadThing : Addr}
    {A_NamesError : Addr}
    {A_Several : Addr}
    {f0 : Addr} {od0 an0 : Option Addr} {sl0 : Array (Option Value)} {oc0 kV0 dc0 pm0 cd0 ct0 : Value}
    {f1 : Addr} {od1 an1 : Option Addr} {sl1 : Array (Option Value)} {oc1 kV1 dc1 pm1 cd1 ct1 : Value}
    {f2 : Addr} {od2 an2 : Option Addr} {sl2 : Array (Option Value)} {oc2 kV2 dc2 pm2 cd2 ct2 : Value}
    {f3 : Addr} {od3 an3 : Option Addr} {sl3 : Array (Option Value)} {oc3 kV3 dc3 pm3 cd3 ct3 : Value}
    {f4 : Addr} {od4 an4 : Option Addr} {sl4 : Array (Option Value)} {oc4 kV4 dc4 pm4 cd4 ct4 : Value}
    {f5 : Addr} {od5 an5 : Option Addr} {sl5 : Array (Option Value)} {oc5 kV5 dc5 pm5 cd5 ct5 : Value}
    {f6 : Addr} {od6 an6 : Option Addr} {sl6 : Array (Option Value)} {oc6 kV6 dc6 pm6 cd6 ct6 : Value}
    {f7 : Addr} {od7 an7 : Option Addr} {sl7 : Array (Option Value)} {oc7 kV7 dc7 pm7 cd7 ct7 : Value}
    {f8 : Addr} {od8 an8 : Option Addr} {sl8 : Array (Option Value)} {oc8 kV8 dc8 pm8 cd8 ct8 : Value}
    {P9 : Addr} {rs9 : List Value}
    {f9 : Addr} {od9 an9 : Option Addr} {sl9 : Array (Option Value)} {oc9 kV9 dc9 pm9 cd9 ct9 : Value}
    {f10 : Addr} {od10 an10 : Option Addr} {sl10 : Array (Option Value)} {oc10 kV10 dc10 pm10 cd10 ct10 : Value}
    {f11 : Addr} {od11 an11 : Option Addr} {sl11 : Array (Option Value)} {oc11 kV11 dc11 pm11 cd11 ct11 : Value}
    {f12 : Addr} {od12 an12 : Option Addr} {sl12 : Array (Option Value)} {oc12 kV12 dc12 pm12 cd12 ct12 : Value}
    {f13 : Addr} {od13 an13 : Option Addr} {sl13 : Array (Option Value)} {oc13 kV13 dc13 pm13 cd13 ct13 : Value}
    {f14 : Addr} {od14 an14 : Option Addr} {sl14 : Array (Option Value)} {oc14 kV14 dc14 pm14 cd14 ct14 : Value}
    {f15 : Addr} {od15 an15 : Option Addr} {sl15 : Array (Option Value)} {oc15 kV15 dc15 pm15 cd15 ct15 : Value}
    {f16 : Addr} {od16 an16 : Option Addr} {sl16 : Array (Option Value)} {oc16 kV16 dc16 pm16 cd16 ct16 : Value}
    {f17 : Addr} {od17 an17 : Option Addr} {sl17 : Array (Option Value)} {oc17 kV17 dc17 pm17 cd17 ct17 : Value}
    {f18 : Addr} {od18 an18 : Option Addr} {sl18 : Array (Option Value)} {oc18 kV18 dc18 pm18 cd18 ct18 : Value}
    {f19 : Addr} {od19 an19 : Option Addr} {sl19 : Array (Option Value)} {oc19 kV19 dc19 pm19 cd19 ct19 : Value}
    {f20 : Addr} {od20 an20 : Option Addr} {sl20 : Array (Option Value)} {oc20 kV20 dc20 pm20 cd20 ct20 : Value}
    {f21 : Addr} {od21 an21 : Option Addr} {sl21 : Array (Option Value)} {oc21 kV21 dc21 pm21 cd21 ct21 : Value}
    {f22 : Addr} {od22 an22 : Option Addr} {sl22 : Array (Option Value)} {oc22 kV22 dc22 pm22 cd22 ct22 : Value}
    {nm_AlreadyThere qn_AlreadyThere : Str} {N_AlreadyThere : Addr} {bs_AlreadyThere : List Value} {sn_AlreadyThere : List Str} {sub_AlreadyThere : List Value} {ab_AlreadyThere : Bool} {col_AlreadyThere : Option Bool} {dd_AlreadyThere : Option Addr} {m0_AlreadyThere m1_AlreadyThere m2_AlreadyThere m3_AlreadyThere m5_AlreadyThere : Option Value}
    {nm_BadAddition qn_BadAddition : Str} {N_BadAddition : Addr} {bs_BadAddition : List Value} {sn_BadAddition : List Str} {sub_BadAddition : List Value} {ab_BadAddition : Bool} {col_BadAddition : Option Bool} {dd_BadAddition : Option Addr} {m0_BadAddition m1_BadAddition m2_BadAddition m3_BadAddition m5_BadAddition : Option Value}
    {nm_BadPlace qn_BadPlace : Str} {N_BadPlace : Addr} {bs_BadPlace : List Value} {sn_BadPlace : List Str} {sub_BadPlace : List Value} {ab_BadPlace : Bool} {col_BadPlace : Option Bool} {dd_BadPlace : Option Addr} {m0_BadPlace m1_BadPlace m2_BadPlace m3_BadPlace m5_BadPlace : Option Value}
    {nm_BadThing qn_BadThing : Str} {N_BadThing : Addr} {bs_BadThing : List Value} {sn_BadThing : List Str} {sub_BadThing : List Value} {ab_BadThing : Bool} {col_BadThing : Option Bool} {dd_BadThing : Option Addr} {m0_BadThing m1_BadThing m2_BadThing m3_BadThing m5_BadThing : Option Value}
    {at_LENGTHS n_LENGTHS : Nat} {en_LENGTHS : Array DictEntry}
    {t_LETTERS : Tok}
    {t_MOST_LETTERS : Tok}
    (g_Addition : PySem.W.nsIn K mainGlobals "Addition" = some (some (.ref A_Addition)))
    (g_AlreadyThere : PySem.W.nsIn K mainGlobals "AlreadyThere" = some (some (.ref A_AlreadyThere)))
    (g_BadAddition : PySem.W.nsIn K mainGlobals "BadAddition" = some (some (.ref A_BadAddition)))
    (g_BadPlace : PySem.W.nsIn K mainGlobals "BadPlace" = some (some (.ref A_BadPlace)))
    (g_BadThing : PySem.W.nsIn K mainGlobals "BadThing" = some (some (.ref A_BadThing)))
    (g_NamesError : PySem.W.nsIn K mainGlobals "NamesError" = some (some (.ref A_NamesError)))
    (g_Several : PySem.W.nsIn K mainGlobals "Several" = some (some (.ref A_Several)))
    (a0 : PySem.W.nsIn K mainGlobals "is_integer" = some (some (.ref f0)))
    (l0 : K.lookup f0 = some ⟨oc0, od0, .func (PySem.W.fnOf "is_integer" "is_integer" (defArgs s_is_integer) (defBody s_is_integer) (defScope s_is_integer) .none kV0 dc0 pm0 an0 cd0 ct0), sl0⟩)
    (c0 : PySem.W.codeIn K cd0 "is_integer" = true)
    (k0 : PySem.W.keepIn K (.ref f0) = true)
    (a1 : PySem.W.nsIn K mainGlobals "is_name" = some (some (.ref f1)))
    (l1 : K.lookup f1 = some ⟨oc1, od1, .func (PySem.W.fnOf "is_name" "is_name" (defArgs s_is_name) (defBody s_is_name) (defScope s_is_name) .none kV1 dc1 pm1 an1 cd1 ct1), sl1⟩)
    (c1 : PySem.W.codeIn K cd1 "is_name" = true)
    (k1 : PySem.W.keepIn K (.ref f1) = true)
    (a2 : PySem.W.nsIn K mainGlobals "is_thing" = some (some (.ref f2)))
    (l2 : K.lookup f2 = some ⟨oc2, od2, .func (PySem.W.fnOf "is_thing" "is_thing" (defArgs s_is_thing) (defBody s_is_thing) (defScope s_is_thing) .none kV2 dc2 pm2 an2 cd2 ct2), sl2⟩)
    (c2 : PySem.W.codeIn K cd2 "is_thing" = true)
    (k2 : PySem.W.keepIn K (.ref f2) = true)
    (a3 : PySem.W.nsIn K mainGlobals "is_place" = some (some (.ref f3)))
    (l3 : K.lookup f3 = some ⟨oc3, od3, .func (PySem.W.fnOf "is_place" "is_place" (defArgs s_is_place) (defBody s_is_place) (defScope s_is_place) .none kV3 dc3 pm3 an3 cd3 ct3), sl3⟩)
    (c3 : PySem.W.codeIn K cd3 "is_place" = true)
    (k3 : PySem.W.keepIn K (.ref f3) = true)
    (a4 : PySem.W.findIn K (.ref A_Addition) "__init__" = some (some (.ref f4)))
    (l4 : K.lookup f4 = some ⟨oc4, od4, .func (PySem.W.fnOf "__init__" "Addition.__init__" (defArgs s_Addition_init) (defBody s_Addition_init) (defScope s_Addition_init) .none kV4 dc4 pm4 an4 cd4 ct4), sl4⟩)
    (c4 : PySem.W.codeIn K cd4 "Addition.__init__" = true)
    (k4 : PySem.W.keepIn K (.ref f4) = true)
    (a5 : PySem.W.findIn K (.ref A_Addition) "__eq__" = some (some (.ref f5)))
    (l5 : K.lookup f5 = some ⟨oc5, od5, .func (PySem.W.fnOf "__eq__" "Addition.__eq__" (defArgs s_Addition_eq) (defBody s_Addition_eq) (defScope s_Addition_eq) .none kV5 dc5 pm5 an5 cd5 ct5), sl5⟩)
    (c5 : PySem.W.codeIn K cd5 "Addition.__eq__" = true)
    (k5 : PySem.W.keepIn K (.ref f5) = true)
    (a6 : PySem.W.nsIn K mainGlobals "check_fit" = some (some (.ref f6)))
    (l6 : K.lookup f6 = some ⟨oc6, od6, .func (PySem.W.fnOf "check_fit" "check_fit" (defArgs s_check_fit) (defBody s_check_fit) (defScope s_check_fit) .none kV6 dc6 pm6 an6 cd6 ct6), sl6⟩)
    (c6 : PySem.W.codeIn K cd6 "check_fit" = true)
    (k6 : PySem.W.keepIn K (.ref f6) = true)
    (a7 : PySem.W.nsIn K mainGlobals "unlike_rows" = some (some (.ref f7)))
    (l7 : K.lookup f7 = some ⟨oc7, od7, .func (PySem.W.fnOf "unlike_rows" "unlike_rows" (defArgs s_unlike_rows) (defBody s_unlike_rows) (defScope s_unlike_rows) .none kV7 dc7 pm7 an7 cd7 ct7), sl7⟩)
    (c7 : PySem.W.codeIn K cd7 "unlike_rows" = true)
    (k7 : PySem.W.keepIn K (.ref f7) = true)
    (a8 : PySem.W.findIn K (.ref A_Several) "__init__" = some (some (.ref f8)))
    (l8 : K.lookup f8 = some ⟨oc8, od8, .func (PySem.W.fnOf "__init__" "Several.__init__" (defArgs s_Several_init) (defBody s_Several_init) (defScope s_Several_init) .none kV8 dc8 pm8 an8 cd8 ct8), sl8⟩)
    (c8 : PySem.W.codeIn K cd8 "Several.__init__" = true)
    (k8 : PySem.W.keepIn K (.ref f8) = true)
    (pa9 : PySem.W.findIn K (.ref A_Several) "additions" = some (some (.ref P9)))
    (pb9 : PySem.W.specialIn K (.ref P9) "__get__" = some (some (.builtin "property.__get__")))
    (pc9 : PySem.W.takesIn K (.ref P9) = some true)
    (a9 : PySem.W.recIn K P9 "property" = some (.ref f9 :: rs9))
    (l9 : K.lookup f9 = some ⟨oc9, od9, .func (PySem.W.fnOf "additions" "Several.additions" (defArgs s_Several_additions) (defBody s_Several_additions) (defScope s_Several_additions) .none kV9 dc9 pm9 an9 cd9 ct9), sl9⟩)
    (c9 : PySem.W.codeIn K cd9 "Several.additions" = true)
    (k9 : PySem.W.keepIn K (.ref f9) = true)
    (a10 : PySem.W.findIn K (.ref A_Several) "__len__" = some (some (.ref f10)))
    (l10 : K.lookup f10 = some ⟨oc10, od10, .func (PySem.W.fnOf "__len__" "Several.__len__" (defArgs s_Several_len) (defBody s_Several_len) (defScope s_Several_len) .none kV10 dc10 pm10 an10 cd10 ct10), sl10⟩)
    (c10 : PySem.W.codeIn K cd10 "Several.__len__" = true)
    (k10 : PySem.W.keepIn K (.ref f10) = true)
    (a11 : PySem.W.nsIn K mainGlobals "_law_pool_of" = some (some (.ref f11)))
    (l11 : K.lookup f11 = some ⟨oc11, od11, .func (PySem.W.fnOf "_law_pool_of" "_law_pool_of" (defArgs s_law_pool_of) (defBody s_law_pool_of) (defScope s_law_pool_of) .none kV11 dc11 pm11 an11 cd11 ct11), sl11⟩)
    (c11 : PySem.W.codeIn K cd11 "_law_pool_of" = true)
    (k11 : PySem.W.keepIn K (.ref f11) = true)
    (a12 : PySem.W.nsIn K mainGlobals "_law_draw" = some (some (.ref f12)))
    (l12 : K.lookup f12 = some ⟨oc12, od12, .func (PySem.W.fnOf "_law_draw" "_law_draw" (defArgs s_law_draw) (defBody s_law_draw) (defScope s_law_draw) .none kV12 dc12 pm12 an12 cd12 ct12), sl12⟩)
    (c12 : PySem.W.codeIn K cd12 "_law_draw" = true)
    (k12 : PySem.W.keepIn K (.ref f12) = true)
    (a13 : PySem.W.nsIn K mainGlobals "_law_pick" = some (some (.ref f13)))
    (l13 : K.lookup f13 = some ⟨oc13, od13, .func (PySem.W.fnOf "_law_pick" "_law_pick" (defArgs s_law_pick) (defBody s_law_pick) (defScope s_law_pick) .none kV13 dc13 pm13 an13 cd13 ct13), sl13⟩)
    (c13 : PySem.W.codeIn K cd13 "_law_pick" = true)
    (k13 : PySem.W.keepIn K (.ref f13) = true)
    (a14 : PySem.W.nsIn K mainGlobals "_law_drawn_addition" = some (some (.ref f14)))
    (l14 : K.lookup f14 = some ⟨oc14, od14, .func (PySem.W.fnOf "_law_drawn_addition" "_law_drawn_addition" (defArgs s_law_drawn_addition) (defBody s_law_drawn_addition) (defScope s_law_drawn_addition) .none kV14 dc14 pm14 an14 cd14 ct14), sl14⟩)
    (c14 : PySem.W.codeIn K cd14 "_law_drawn_addition" = true)
    (k14 : PySem.W.keepIn K (.ref f14) = true)
    (a15 : PySem.W.nsIn K mainGlobals "_law_due_of" = some (some (.ref f15)))
    (l15 : K.lookup f15 = some ⟨oc15, od15, .func (PySem.W.fnOf "_law_due_of" "_law_due_of" (defArgs s_law_due_of) (defBody s_law_due_of) (defScope s_law_due_of) .none kV15 dc15 pm15 an15 cd15 ct15), sl15⟩)
    (c15 : PySem.W.codeIn K cd15 "_law_due_of" = true)
    (k15 : PySem.W.keepIn K (.ref f15) = true)
    (a16 : PySem.W.nsIn K mainGlobals "_law_made_several" = some (some (.ref f16)))
    (l16 : K.lookup f16 = some ⟨oc16, od16, .func (PySem.W.fnOf "_law_made_several" "_law_made_several" (defArgs s_law_made_several) (defBody s_law_made_several) (defScope s_law_made_several) .none kV16 dc16 pm16 an16 cd16 ct16), sl16⟩)
    (c16 : PySem.W.codeIn K cd16 "_law_made_several" = true)
    (k16 : PySem.W.keepIn K (.ref f16) = true)
    (a17 : PySem.W.nsIn K mainGlobals "_law_answer" = some (some (.ref f17)))
    (l17 : K.lookup f17 = some ⟨oc17, od17, .func (PySem.W.fnOf "_law_answer" "_law_answer" (defArgs s_law_answer) (defBody s_law_answer) (defScope s_law_answer) .none kV17 dc17 pm17 an17 cd17 ct17), sl17⟩)
    (c17 : PySem.W.codeIn K cd17 "_law_answer" = true)
    (k17 : PySem.W.keepIn K (.ref f17) = true)
    (a18 : PySem.W.nsIn K mainGlobals "law" = some (some (.ref f18)))
    (l18 : K.lookup f18 = some ⟨oc18, od18, .func (PySem.W.fnOf "law" "law" (defArgs s_law) (defBody s_law) (defScope s_law) .none kV18 dc18 pm18 an18 cd18 ct18), sl18⟩)
    (c18 : PySem.W.codeIn K cd18 "law" = true)
    (k18 : PySem.W.keepIn K (.ref f18) = true)
    (a19 : PySem.W.findIn K (.ref A_AlreadyThere) "__init__" = some (some (.ref f19)))
    (l19 : K.lookup f19 = some ⟨oc19, od19, .func (PySem.W.fnOf "__init__" "AlreadyThere.__init__" (defArgs s_AlreadyThere_init) (defBody s_AlreadyThere_init) (defScope s_AlreadyThere_init) .none kV19 dc19 pm19 an19 cd19 ct19), sl19⟩)
    (c19 : PySem.W.codeIn K cd19 "AlreadyThere.__init__" = true)
    (k19 : PySem.W.keepIn K (.ref f19) = true)
    (t19 : PySem.W.typeIn K (.ref f19) = some (.type "function"))
    (a20 : PySem.W.findIn K (.ref A_BadAddition) "__init__" = some (some (.ref f20)))
    (l20 : K.lookup f20 = some ⟨oc20, od20, .func (PySem.W.fnOf "__init__" "BadAddition.__init__" (defArgs s_BadAddition_init) (defBody s_BadAddition_init) (defScope s_BadAddition_init) .none kV20 dc20 pm20 an20 cd20 ct20), sl20⟩)
    (c20 : PySem.W.codeIn K cd20 "BadAddition.__init__" = true)
    (k20 : PySem.W.keepIn K (.ref f20) = true)
    (t20 : PySem.W.typeIn K (.ref f20) = some (.type "function"))
    (a21 : PySem.W.findIn K (.ref A_BadPlace) "__init__" = some (some (.ref f21)))
    (l21 : K.lookup f21 = some ⟨oc21, od21, .func (PySem.W.fnOf "__init__" "BadPlace.__init__" (defArgs s_BadPlace_init) (defBody s_BadPlace_init) (defScope s_BadPlace_init) .none kV21 dc21 pm21 an21 cd21 ct21), sl21⟩)
    (c21 : PySem.W.codeIn K cd21 "BadPlace.__init__" = true)
    (k21 : PySem.W.keepIn K (.ref f21) = true)
    (t21 : PySem.W.typeIn K (.ref f21) = some (.type "function"))
    (a22 : PySem.W.findIn K (.ref A_BadThing) "__init__" = some (some (.ref f22)))
    (l22 : K.lookup f22 = some ⟨oc22, od22, .func (PySem.W.fnOf "__init__" "BadThing.__init__" (defArgs s_BadThing_init) (defBody s_BadThing_init) (defScope s_BadThing_init) .none kV22 dc22 pm22 an22 cd22 ct22), sl22⟩)
    (c22 : PySem.W.codeIn K cd22 "BadThing.__init__" = true)
    (k22 : PySem.W.keepIn K (.ref f22) = true)
    (t22 : PySem.W.typeIn K (.ref f22) = some (.type "function"))
    (y1 : PySem.W.specialIn K (.builtin "object.__class__") "__get__" = some (some (.builtin "getset_descriptor.__get__")))
    (y2 : PySem.W.takesIn K (.builtin "object.__class__") = some true)
    (o1_Addition : PySem.W.plainGet K A_Addition Str.empty = true)
    (o2_Addition : PySem.W.hasDictIn K A_Addition = true)
    (o3_Addition : PySem.W.plainOver K A_Addition = true)
    (o4_Addition : PySem.W.findIn K (.ref A_Addition) "__setattr__" = some (some (.builtin "object.__setattr__")))
    (o5_Addition : PySem.W.findIn K (.ref A_Addition) "__class__" = some (some (.builtin "object.__class__")))
    (o6_Addition : PySem.W.mroIn K A_Addition (.type "object") = some true)
    (of_Addition : PySem.W.selfFirst K A_Addition = true)
    (o7_Addition : PySem.W.makesIn K A_Addition = true)
    (o8_Addition : PySem.W.keepIn K (.ref A_Addition) = true)
    (o9_Addition : PySem.W.isFn K (.ref f4) = true)
    (p_kind_Addition : PySem.W.findIn K (.ref A_Addition) "kind" = some none)
    (p_name_Addition : PySem.W.findIn K (.ref A_Addition) "name" = some none)
    (p_place_Addition : PySem.W.findIn K (.ref A_Addition) "place" = some none)
    (p_thing_Addition : PySem.W.findIn K (.ref A_Addition) "thing" = some none)
    (nf_Addition_Addition : PySem.W.notFirst K A_Addition (.ref A_Addition) = true)
    (nf_Addition_Several : PySem.W.notFirst K A_Addition (.ref A_Several) = true)
    (o1_Several : PySem.W.plainGet K A_Several Str.empty = true)
    (o2_Several : PySem.W.hasDictIn K A_Several = true)
    (o3_Several : PySem.W.plainOver K A_Several = true)
    (o4_Several : PySem.W.findIn K (.ref A_Several) "__setattr__" = some (some (.builtin "object.__setattr__")))
    (o5_Several : PySem.W.findIn K (.ref A_Several) "__class__" = some (some (.builtin "object.__class__")))
    (o6_Several : PySem.W.mroIn K A_Several (.type "object") = some true)
    (of_Several : PySem.W.selfFirst K A_Several = true)
    (o7_Several : PySem.W.makesIn K A_Several = true)
    (o8_Several : PySem.W.keepIn K (.ref A_Several) = true)
    (o9_Several : PySem.W.isFn K (.ref f8) = true)
    (p_kept_Several : PySem.W.findIn K (.ref A_Several) "kept" = some none)
    (nf_Several_Addition : PySem.W.notFirst K A_Several (.ref A_Addition) = true)
    (nf_Several_Several : PySem.W.notFirst K A_Several (.ref A_Several) = true)
    (nd : [A_Addition, A_Several].Nodup)
    (w_Several_len : PySem.W.isFn K (.ref f10) = true)
    (w_Addition_eq : PySem.W.isFn K (.ref f5) = true)
    (q_Addition_eq : PySem.W.findIn K (.ref A_Addition) "__ne__" = some (some (.builtin "object.__ne__")))
    (i1_Addition : (PySem.W.clsIn K A_Addition).isSome = true)
    (i2_Addition : PySem.W.typeIn K (.ref A_Addition) = some (.type "type"))
    (i3_Addition_Addition : PySem.W.kitOne K (.ref A_Addition) (.ref A_Addition) = some (is_Addition "Addition"))
    (i3_Addition_Several : PySem.W.kitOne K (.ref A_Several) (.ref A_Addition) = some (is_Addition "Several"))
    (x1_AlreadyThere : K.lookup A_AlreadyThere = some (excClassObj nm_AlreadyThere qn_AlreadyThere A_AlreadyThere N_AlreadyThere bs_AlreadyThere [.ref A_NamesError, .type "ValueError", .type "Exception", .type "BaseException", .type "object"] true sn_AlreadyThere sub_AlreadyThere ab_AlreadyThere col_AlreadyThere dd_AlreadyThere m0_AlreadyThere m1_AlreadyThere m2_AlreadyThere m3_AlreadyThere m5_AlreadyThere "ValueError.__new__"))
    (x2_AlreadyThere : PySem.W.findIn K (.ref A_AlreadyThere) "__setattr__" = some (some (.builtin "object.__setattr__")))
    (x3_AlreadyThere : PySem.W.subIn K (.ref A_AlreadyThere) (.type "BaseException") = some true)
    (x4_AlreadyThere : PySem.W.typeIn K (.ref A_AlreadyThere) = some (.type "type"))
    (x5_AlreadyThere : PySem.W.keepIn K (.ref A_AlreadyThere) = true)
    (x6_AlreadyThere : PySem.W.findIn K (.ref A_AlreadyThere) "place" = some none)
    (x7_AlreadyThere : PySem.W.findIn K (.ref A_AlreadyThere) "__getattribute__" = some (some (.builtin "BaseException.__getattribute__")))
    (x8_AlreadyThere : PySem.W.findIn K (.ref A_AlreadyThere) "__getattr__" = some none)
    (x9_AlreadyThere : PySem.W.hasDictIn K A_AlreadyThere = true)
    (xa_AlreadyThere : PySem.W.findIn K (.ref A_AlreadyThere) "__class__" = some (some (.builtin "object.__class__")))
    (xb_AlreadyThere : PySem.W.mroIn K A_AlreadyThere (.type "object") = some true)
    (xe_AlreadyThere_AlreadyThere : PySem.W.exmOne K (.ref A_AlreadyThere) (.ref A_AlreadyThere) = some true)
    (xe_AlreadyThere_BadAddition : PySem.W.exmOne K (.ref A_AlreadyThere) (.ref A_BadAddition) = some false)
    (xe_AlreadyThere_BadThing : PySem.W.exmOne K (.ref A_AlreadyThere) (.ref A_BadThing) = some false)
    (xe_AlreadyThere_NamesError : PySem.W.exmOne K (.ref A_AlreadyThere) (.ref A_NamesError) = some true)
    (x1_BadAddition : K.lookup A_BadAddition = some (excClassObj nm_BadAddition qn_BadAddition A_BadAddition N_BadAddition bs_BadAddition [.ref A_NamesError, .type "ValueError", .type "Exception", .type "BaseException", .type "object"] true sn_BadAddition sub_BadAddition ab_BadAddition col_BadAddition dd_BadAddition m0_BadAddition m1_BadAddition m2_BadAddition m3_BadAddition m5_BadAddition "ValueError.__new__"))
    (x2_BadAddition : PySem.W.findIn K (.ref A_BadAddition) "__setattr__" = some (some (.builtin "object.__setattr__")))
    (x3_BadAddition : PySem.W.subIn K (.ref A_BadAddition) (.type "BaseException") = some true)
    (x4_BadAddition : PySem.W.typeIn K (.ref A_BadAddition) = some (.type "type"))
    (x5_BadAddition : PySem.W.keepIn K (.ref A_BadAddition) = true)
    (x6_BadAddition : PySem.W.findIn K (.ref A_BadAddition) "value" = some none)
    (x7_BadAddition : PySem.W.findIn K (.ref A_BadAddition) "__getattribute__" = some (some (.builtin "BaseException.__getattribute__")))
    (x8_BadAddition : PySem.W.findIn K (.ref A_BadAddition) "__getattr__" = some none)
    (x9_BadAddition : PySem.W.hasDictIn K A_BadAddition = true)
    (xa_BadAddition : PySem.W.findIn K (.ref A_BadAddition) "__class__" = some (some (.builtin "object.__class__")))
    (xb_BadAddition : PySem.W.mroIn K A_BadAddition (.type "object") = some true)
    (xe_BadAddition_AlreadyThere : PySem.W.exmOne K (.ref A_BadAddition) (.ref A_AlreadyThere) = some false)
    (xe_BadAddition_BadAddition : PySem.W.exmOne K (.ref A_BadAddition) (.ref A_BadAddition) = some true)
    (xe_BadAddition_BadThing : PySem.W.exmOne K (.ref A_BadAddition) (.ref A_BadThing) = some false)
    (xe_BadAddition_NamesError : PySem.W.exmOne K (.ref A_BadAddition) (.ref A_NamesError) = some true)
    (x1_BadPlace : K.lookup A_BadPlace = some (excClassObj nm_BadPlace qn_BadPlace A_BadPlace N_BadPlace bs_BadPlace [.ref A_NamesError, .type "ValueError", .type "Exception", .type "BaseException", .type "object"] true sn_BadPlace sub_BadPlace ab_BadPlace col_BadPlace dd_BadPlace m0_BadPlace m1_BadPlace m2_BadPlace m3_BadPlace m5_BadPlace "ValueError.__new__"))
    (x2_BadPlace : PySem.W.findIn K (.ref A_BadPlace) "__setattr__" = some (some (.builtin "object.__setattr__")))
    (x3_BadPlace : PySem.W.subIn K (.ref A_BadPlace) (.type "BaseException") = some true)
    (x4_BadPlace : PySem.W.typeIn K (.ref A_BadPlace) = some (.type "type"))
    (x5_BadPlace : PySem.W.keepIn K (.ref A_BadPlace) = true)
    (x6_BadPlace : PySem.W.findIn K (.ref A_BadPlace) "place" = some none)
    (x7_BadPlace : PySem.W.findIn K (.ref A_BadPlace) "__getattribute__" = some (some (.builtin "BaseException.__getattribute__")))
    (x8_BadPlace : PySem.W.findIn K (.ref A_BadPlace) "__getattr__" = some none)
    (x9_BadPlace : PySem.W.hasDictIn K A_BadPlace = true)
    (xa_BadPlace : PySem.W.findIn K (.ref A_BadPlace) "__class__" = some (some (.builtin "object.__class__")))
    (xb_BadPlace : PySem.W.mroIn K A_BadPlace (.type "object") = some true)
    (xe_BadPlace_AlreadyThere : PySem.W.exmOne K (.ref A_BadPlace) (.ref A_AlreadyThere) = some false)
    (xe_BadPlace_BadAddition : PySem.W.exmOne K (.ref A_BadPlace) (.ref A_BadAddition) = some false)
    (xe_BadPlace_BadThing : PySem.W.exmOne K (.ref A_BadPlace) (.ref A_BadThing) = some false)
    (xe_BadPlace_NamesError : PySem.W.exmOne K (.ref A_BadPlace) (.ref A_NamesError) = some true)
    (x1_BadThing : K.lookup A_BadThing = some (excClassObj nm_BadThing qn_BadThing A_BadThing N_BadThing bs_BadThing [.ref A_NamesError, .type "ValueError", .type "Exception", .type "BaseException", .type "object"] true sn_BadThing sub_BadThing ab_BadThing col_BadThing dd_BadThing m0_BadThing m1_BadThing m2_BadThing m3_BadThing m5_BadThing "ValueError.__new__"))
    (x2_BadThing : PySem.W.findIn K (.ref A_BadThing) "__setattr__" = some (some (.builtin "object.__setattr__")))
    (x3_BadThing : PySem.W.subIn K (.ref A_BadThing) (.type "BaseException") = some true)
    (x4_BadThing : PySem.W.typeIn K (.ref A_BadThing) = some (.type "type"))
    (x5_BadThing : PySem.W.keepIn K (.ref A_BadThing) = true)
    (x6_BadThing : PySem.W.findIn K (.ref A_BadThing) "thing" = some none)
    (x7_BadThing : PySem.W.findIn K (.ref A_BadThing) "__getattribute__" = some (some (.builtin "BaseException.__getattribute__")))
    (x8_BadThing : PySem.W.findIn K (.ref A_BadThing) "__getattr__" = some none)
    (x9_BadThing : PySem.W.hasDictIn K A_BadThing = true)
    (xa_BadThing : PySem.W.findIn K (.ref A_BadThing) "__class__" = some (some (.builtin "object.__class__")))
    (xb_BadThing : PySem.W.mroIn K A_BadThing (.type "object") = some true)
    (xe_BadThing_AlreadyThere : PySem.W.exmOne K (.ref A_BadThing) (.ref A_AlreadyThere) = some false)
    (xe_BadThing_BadAddition : PySem.W.exmOne K (.ref A_BadThing) (.ref A_BadAddition) = some false)
    (xe_BadThing_BadThing : PySem.W.exmOne K (.ref A_BadThing) (.ref A_BadThing) = some true)
    (xe_BadThing_NamesError : PySem.W.exmOne K (.ref A_BadThing) (.ref A_NamesError) = some true)
    (nb1_NamesError : PySem.W.readsIn K A_NamesError (.type "type") = true)
    (nb2_NamesError : PySem.W.specialIn K (.ref A_NamesError) "__getattribute__" = some (some (.builtin "type.__getattribute__")))
    (nb3_NamesError : PySem.W.findCls K (.ref A_NamesError) (.type "type") "__init__" = some (.val (.builtin "ValueError.__init__")))
    (ta_LENGTHS : PySem.W.nsIn K mainGlobals "LENGTHS" = some (some (.ref at_LENGTHS)))
    (tl_LENGTHS : K.lookup at_LENGTHS = some ⟨.type "dict", none, .dict en_LENGTHS n_LENGTHS, #[]⟩)
    (tk_LENGTHS : PySem.W.KeysLit w.params en_LENGTHS.toList)
    (ts_LENGTHS : (at_LENGTHS == sysModules) = false)
    (tt_LENGTHS : TabOk (bxOf K [("Addition", A_Addition), ("Several", A_Several)] [("AlreadyThere", A_AlreadyThere, "place"), ("BadAddition", A_BadAddition, "value"), ("BadPlace", A_BadPlace, "place"), ("BadThing", A_BadThing, "thing")]) en_LENGTHS.toList tab_LENGTHS)
    (z_abs : PySem.W.nsIn K mainGlobals "abs" = some none)
    (z_all : PySem.W.nsIn K mainGlobals "all" = some none)
    (z_any : PySem.W.nsIn K mainGlobals "any" = some none)
    (z_bool : PySem.W.nsIn K mainGlobals "bool" = some none)
    (z_int : PySem.W.nsIn K mainGlobals "int" = some none)
    (z_isinstance : PySem.W.nsIn K mainGlobals "isinstance" = some none)
    (z_len : PySem.W.nsIn K mainGlobals "len" = some none)
    (z_range : PySem.W.nsIn K mainGlobals "range" = some none)
    (z_repr : PySem.W.nsIn K mainGlobals "repr" = some none)
    (z_str : PySem.W.nsIn K mainGlobals "str" = some none)
    (z_sum : PySem.W.nsIn K mainGlobals "sum" = some none)
    (z_tuple : PySem.W.nsIn K mainGlobals "tuple" = some none)
    (q_LETTERS : PySem.W.nsIn K mainGlobals "LETTERS" = some (some (.str "abcdefghijklmnopqrstuvwxyz" t_LETTERS)))
    (q_MOST_LETTERS : PySem.W.nsIn K mainGlobals "MOST_LETTERS" = some (some (.int 8 t_MOST_LETTERS)))
    (q_MOST_THING : ∃ t, mg "MOST_THING" = some (.int 1000000000 t)) :
    ∃ (fd : FuncData) (cs : List (String × Addr)) (es : List (String × Addr × Str)), (∀ (s : Shared) (v : Value), BindsTo s fd ⟨[v], []⟩ [("_law_script", v)]) ∧ ∀ base : Heap, K.In base → base.Ns mainGlobals mg → FnG P w K mg base 9 fa fd ["_law_script"] (spOf (bxOf K cs es) 1 F_law) := by
  have e := hfa.symm.trans (PySem.W.mg_of X G a18)
  cases e
  have T : Txt w K mg [("Addition", A_Addition), ("Several", A_Several)] [("AlreadyThere", A_AlreadyThere, "place"), ("BadAddition", A_BadAddition, "value"), ("BadPlace", A_BadPlace, "place"), ("BadThing", A_BadThing, "thing")] A_Addition A_AlreadyThere A_BadAddition A_BadPlace A_BadThing A_NamesError := ⟨PySem.W.mg_none_of X G z_abs,
    PySem.W.mg_none_of X G z_all,
    PySem.W.mg_none_of X G z_any,
    PySem.W.mg_none_of X G z_bool,
    PySem.W.mg_none_of X G z_int,
    PySem.W.mg_none_of X G z_isinstance,
    PySem.W.mg_none_of X G z_len,
    PySem.W.mg_none_of X G z_range,
    PySem.W.mg_none_of X G z_repr,
    PySem.W.mg_none_of X G z_str,
    PySem.W.mg_none_of X G z_sum,
    PySem.W.mg_none_of X G z_tuple,
    ⟨_, PySem.W.mg_of X G q_LETTERS⟩,
    ⟨_, PySem.W.mg_of X G q_MOST_LETTERS⟩,
    q_MOST_THING,
    ocs_of (by intro p hp; simp only [List.mem_cons, List.not_mem_nil, or_false] at hp; rcases hp with hp | hp <;> subst hp <;> first | exact ⟨⟨o1_Addition, o2_Addition, o3_Addition, o4_Addition⟩, o5_Addition, y1, y2, o6_Addition⟩ | exact ⟨⟨o1_Several, o2_Several, o3_Several, o4_Several⟩, o5_Several, y1, y2, o6_Several⟩),
    apart_of (by intro p hp q hq; simp only [List.mem_cons, List.not_mem_nil, or_false] at hp hq; rcases hp with hp | hp <;> rcases hq with hq | hq <;> subst hp <;> subst hq <;> assumption),
    kls_of nd (by intro p hp; simp only [List.mem_cons, List.not_mem_nil, or_false] at hp; rcases hp with hp | hp <;> subst hp <;> first | exact of_Addition | exact of_Several),
    free_of (by intro p hp k; simp only [List.mem_cons, List.not_mem_nil, or_false] at hp; rcases hp with hp | hp <;> subst hp <;> first | exact (Bool.false_ne_true (show false = true from k)).elim | exact (Bool.false_ne_true (show false = true from k)).elim),
    free_of (by intro p hp k; simp only [List.mem_cons, List.not_mem_nil, or_false] at hp; rcases hp with hp | hp <;> subst hp <;> first | exact (Bool.false_ne_true (show false = true from k)).elim | exact p_kept_Several),
    free_of (by intro p hp k; simp only [List.mem_cons, List.not_mem_nil, or_false] at hp; rcases hp with hp | hp <;> subst hp <;> first | exact p_kind_Addition | exact (Bool.false_ne_true (show false = true from k)).elim),
    free_of (by intro p hp k; simp only [List.mem_cons, List.not_mem_nil, or_false] at hp; rcases hp with hp | hp <;> subst hp <;> first | exact p_name_Addition | exact (Bool.false_ne_true (show false = true from k)).elim),
    free_of (by intro p hp k; simp only [List.mem_cons, List.not_mem_nil, or_false] at hp; rcases hp with hp | hp <;> subst hp <;> first | exact p_place_Addition | exact (Bool.false_ne_true (show false = true from k)).elim),
    free_of (by intro p hp k; simp only [List.mem_cons, List.not_mem_nil, or_false] at hp; rcases hp with hp | hp <;> subst hp <;> first | exact p_thing_Addition | exact (Bool.false_ne_true (show false = true from k)).elim),
    PySem.W.mg_of X G g_Addition,
    PySem.W.mg_of X G g_AlreadyThere,
    PySem.W.mg_of X G g_BadAddition,
    PySem.W.mg_of X G g_BadPlace,
    PySem.W.mg_of X G g_BadThing,
    PySem.W.mg_of X G g_NamesError,
    isOk_of i1_Addition i2_Addition (by intro p hp; simp only [List.mem_cons, List.not_mem_nil, or_false] at hp; rcases hp with hp | hp <;> subst hp <;> first | exact i3_Addition_Addition | exact i3_Addition_Several),
    ⟨_, PySem.W.mg_of X G ta_LENGTHS, ⟨_, _, tl_LENGTHS, tk_LENGTHS, ts_LENGTHS, tt_LENGTHS⟩⟩,
    cs_of (by intro p hp b hb; simp only [List.mem_cons, List.not_mem_nil, or_false] at hp; rcases hp with hp | hp | hp | hp <;> subst hp <;> first | exact (by cases hb; exact xe_AlreadyThere_AlreadyThere) | exact (by cases hb; exact xe_BadAddition_AlreadyThere) | exact (by cases hb; exact xe_BadPlace_AlreadyThere) | exact (by cases hb; exact xe_BadThing_AlreadyThere)) (by intro c b e; unfold cs_AlreadyThere at e; split at e <;> first | exact ⟨_, rfl⟩ | cases e),
    cs_of (by intro p hp b hb; simp only [List.mem_cons, List.not_mem_nil, or_false] at hp; rcases hp with hp | hp | hp | hp <;> subst hp <;> first | exact (by cases hb; exact xe_AlreadyThere_BadAddition) | exact (by cases hb; exact xe_BadAddition_BadAddition) | exact (by cases hb; exact xe_BadPlace_BadAddition) | exact (by cases hb; exact xe_BadThing_BadAddition)) (by intro c b e; unfold cs_BadAddition at e; split at e <;> first | exact ⟨_, rfl⟩ | cases e),
    cs_of (by intro p hp b hb; simp only [List.mem_cons, List.not_mem_nil, or_false] at hp; rcases hp with hp | hp | hp | hp <;> subst hp <;> first | exact (by cases hb; exact xe_AlreadyThere_BadThing) | exact (by cases hb; exact xe_BadAddition_BadThing) | exact (by cases hb; exact xe_BadPlace_BadThing) | exact (by cases hb; exact xe_BadThing_BadThing)) (by intro c b e; unfold cs_BadThing at e; split at e <;> first | exact ⟨_, rfl⟩ | cases e),
    cs_of (by intro p hp b hb; simp only [List.mem_cons, List.not_mem_nil, or_false] at hp; rcases hp with hp | hp | hp | hp <;> subst hp <;> first | exact (by cases hb; exact xe_AlreadyThere_NamesError) | exact (by cases hb; exact xe_BadAddition_NamesError) | exact (by cases hb; exact xe_BadPlace_NamesError) | exact (by cases hb; exact xe_BadThing_NamesError)) (by intro c b e; unfold cs_NamesError at e; split at e <;> first | exact ⟨_, rfl⟩ | cases e),
    fun {cn} t C fld e => xf_of (by intro p hp t; simp only [List.mem_cons, List.not_mem_nil, or_false] at hp; rcases hp with hp | hp | hp | hp <;> subst hp <;> first | exact ⟨rfl, ⟨x7_AlreadyThere, x8_AlreadyThere, x3_AlreadyThere, x9_AlreadyThere⟩, x6_AlreadyThere⟩ | exact (by have t' : (none : Option Str) = some _ := t; cases t') | exact ⟨rfl, ⟨x7_BadPlace, x8_BadPlace, x3_BadPlace, x9_BadPlace⟩, x6_BadPlace⟩ | exact (by have t' : (none : Option Str) = some _ := t; cases t')) cn t C fld e,
    fun {cn} t C fld e => xf_of (by intro p hp t; simp only [List.mem_cons, List.not_mem_nil, or_false] at hp; rcases hp with hp | hp | hp | hp <;> subst hp <;> first | exact (by have t' : (none : Option Str) = some _ := t; cases t') | exact (by have t' : (none : Option Str) = some _ := t; cases t') | exact (by have t' : (none : Option Str) = some _ := t; cases t') | exact ⟨rfl, ⟨x7_BadThing, x8_BadThing, x3_BadThing, x9_BadThing⟩, x6_BadThing⟩) cn t C fld e,
    fun {cn} t C fld e => xf_of (by intro p hp t; simp only [List.mem_cons, List.not_mem_nil, or_false] at hp; rcases hp with hp | hp | hp | hp <;> subst hp <;> first | exact (by have t' : (none : Option Str) = some _ := t; cases t') | exact ⟨rfl, ⟨x7_BadAddition, x8_BadAddition, x3_BadAddition, x9_BadAddition⟩, x6_BadAddition⟩ | exact (by have t' : (none : Option Str) = some _ := t; cases t') | exact (by have t' : (none : Option Str) = some _ := t; cases t')) cn t C fld e⟩
  have D0 := fun_mk (st := s_is_integer) l0 c0 k0
  have b0 := D0.binds (ps := ["value"]) fun _ _ _ _ _ _ us hl => match us, hl with | [_], _ => rfl
  have D1 := fun_mk (st := s_is_name) l1 c1 k1
  have b1 := D1.binds (ps := ["value"]) fun _ _ _ _ _ _ us hl => match us, hl with | [_], _ => rfl
  have D2 := fun_mk (st := s_is_thing) l2 c2 k2
  have b2 := D2.binds (ps := ["value"]) fun _ _ _ _ _ _ us hl => match us, hl with | [_], _ => rfl
  have D3 := fun_mk (st := s_is_place) l3 c3 k3
  have b3 := D3.binds (ps := ["value"]) fun _ _ _ _ _ _ us hl => match us, hl with | [_], _ => rfl
  have D4 := fun_mk (st := s_Addition_init) l4 c4 k4
  have b4 := D4.binds (ps := ["self", "place", "thing"]) fun _ _ _ _ _ _ us hl => match us, hl with | [_, _, _], _ => rfl
  have D5 := fun_mk (st := s_Addition_eq) l5 c5 k5
  have b5 := D5.binds (ps := ["self", "other"]) fun _ _ _ _ _ _ us hl => match us, hl with | [_, _], _ => rfl
  have D6 := fun_mk (st := s_check_fit) l6 c6 k6
  have b6 := D6.binds (ps := ["earlier", "addition"]) fun _ _ _ _ _ _ us hl => match us, hl with | [_, _], _ => rfl
  have D7 := fun_mk (st := s_unlike_rows) l7 c7 k7
  have b7 := D7.binds (ps := ["additions"]) fun _ _ _ _ _ _ us hl => match us, hl with | [_], _ => rfl
  have D8 := fun_mk (st := s_Several_init) l8 c8 k8
  have D9 := fun_mk (st := s_Several_additions) l9 c9 k9
  have b9 := D9.binds (ps := ["self"]) fun _ _ _ _ _ _ us hl => match us, hl with | [_], _ => rfl
  have D10 := fun_mk (st := s_Several_len) l10 c10 k10
  have b10 := D10.binds (ps := ["self"]) fun _ _ _ _ _ _ us hl => match us, hl with | [_], _ => rfl
  have D11 := fun_mk (st := s_law_pool_of) l11 c11 k11
  have b11 := D11.binds (ps := ["_law_script", "_law_k"]) fun _ _ _ _ _ _ us hl => match us, hl with | [_, _], _ => rfl
  have D12 := fun_mk (st := s_law_draw) l12 c12 k12
  have b12 := D12.binds (ps := ["_law_pool", "_law_many"]) fun _ _ _ _ _ _ us hl => match us, hl with | [_, _], _ => rfl
  have D13 := fun_mk (st := s_law_pick) l13 c13 k13
  have b13 := D13.binds (ps := ["_law_pool", "_law_row"]) fun _ _ _ _ _ _ us hl => match us, hl with | [_, _], _ => rfl
  have D14 := fun_mk (st := s_law_drawn_addition) l14 c14 k14
  have b14 := D14.binds (ps := ["_law_pool"]) fun _ _ _ _ _ _ us hl => match us, hl with | [_], _ => rfl
  have D15 := fun_mk (st := s_law_due_of) l15 c15 k15
  have b15 := D15.binds (ps := ["_law_rows"]) fun _ _ _ _ _ _ us hl => match us, hl with | [_], _ => rfl
  have D16 := fun_mk (st := s_law_made_several) l16 c16 k16
  have b16 := D16.binds (ps := ["_law_values"]) fun _ _ _ _ _ _ us hl => match us, hl with | [_], _ => rfl
  have D17 := fun_mk (st := s_law_answer) l17 c17 k17
  have b17 := D17.binds (ps := ["_law_values"]) fun _ _ _ _ _ _ us hl => match us, hl with | [_], _ => rfl
  have D18 := fun_mk (st := s_law) l18 c18 k18
  have D19 := fun_mk (st := s_AlreadyThere_init) l19 c19 k19
  have b19 := D19.binds (ps := ["self", "place"]) fun _ _ _ _ _ _ us hl => match us, hl with | [_, _], _ => rfl
  have D20 := fun_mk (st := s_BadAddition_init) l20 c20 k20
  have b20 := D20.binds (ps := ["self", "value"]) fun _ _ _ _ _ _ us hl => match us, hl with | [_, _], _ => rfl
  have D21 := fun_mk (st := s_BadPlace_init) l21 c21 k21
  have b21 := D21.binds (ps := ["self", "place"]) fun _ _ _ _ _ _ us hl => match us, hl with | [_, _], _ => rfl
  have D22 := fun_mk (st := s_BadThing_init) l22 c22 k22
  have b22 := D22.binds (ps := ["self", "thing"]) fun _ _ _ _ _ _ us hl => match us, hl with | [_, _], _ => rfl
  refine ⟨PySem.W.fnOf "law" "law" (defArgs s_law) (defBody s_law) (defScope s_law) .none kV18 dc18 pm18 an18 cd18 ct18, [("Addition", A_Addition), ("Several", A_Several)], [("AlreadyThere", A_AlreadyThere, "place"), ("BadAddition", A_BadAddition, "value"), ("BadPlace", A_BadPlace, "place"), ("BadThing", A_BadThing, "thing")], fun s v => .of_eq rfl, fun base _ _ => ?_⟩
  have R_AlreadyThere : Rai P w K mg base (bxOf K [("Addition", A_Addition), ("Several", A_Several)] [("AlreadyThere", A_AlreadyThere, "place"), ("BadAddition", A_BadAddition, "value"), ("BadPlace", A_BadPlace, "place"), ("BadThing", A_BadThing, "thing")]) "AlreadyThere" "AlreadyThere" := ⟨A_AlreadyThere, _, _, "place", "place", rfl, ⟨⟨_, _, _, _, _, _, _, _, _, _, _, _, _, _, _, x1_AlreadyThere, by rfl⟩, x2_AlreadyThere, x3_AlreadyThere, x4_AlreadyThere, x5_AlreadyThere⟩, x6_AlreadyThere, a19, t19, ok_AlreadyThere_init D19 (PySem.W.mg_of X G g_NamesError) ⟨nb1_NamesError, nb2_NamesError⟩ nb3_NamesError, b19, PySem.W.mg_of X G g_AlreadyThere⟩
  have R_BadAddition : Rai P w K mg base (bxOf K [("Addition", A_Addition), ("Several", A_Several)] [("AlreadyThere", A_AlreadyThere, "place"), ("BadAddition", A_BadAddition, "value"), ("BadPlace", A_BadPlace, "place"), ("BadThing", A_BadThing, "thing")]) "BadAddition" "BadAddition" := ⟨A_BadAddition, _, _, "value", "value", rfl, ⟨⟨_, _, _, _, _, _, _, _, _, _, _, _, _, _, _, x1_BadAddition, by rfl⟩, x2_BadAddition, x3_BadAddition, x4_BadAddition, x5_BadAddition⟩, x6_BadAddition, a20, t20, ok_BadAddition_init D20 (PySem.W.mg_of X G g_NamesError) ⟨nb1_NamesError, nb2_NamesError⟩ nb3_NamesError, b20, PySem.W.mg_of X G g_BadAddition⟩
  have R_BadPlace : Rai P w K mg base (bxOf K [("Addition", A_Addition), ("Several", A_Several)] [("AlreadyThere", A_AlreadyThere, "place"), ("BadAddition", A_BadAddition, "value"), ("BadPlace", A_BadPlace, "place"), ("BadThing", A_BadThing, "thing")]) "BadPlace" "BadPlace" := ⟨A_BadPlace, _, _, "place", "place", rfl, ⟨⟨_, _, _, _, _, _, _, _, _, _, _, _, _, _, _, x1_BadPlace, by rfl⟩, x2_BadPlace, x3_BadPlace, x4_BadPlace, x5_BadPlace⟩, x6_BadPlace, a21, t21, ok_BadPlace_init D21 (PySem.W.mg_of X G g_NamesError) ⟨nb1_NamesError, nb2_NamesError⟩ nb3_NamesError, b21, PySem.W.mg_of X G g_BadPlace⟩
  have R_BadThing : Rai P w K mg base (bxOf K [("Addition", A_Addition), ("Several", A_Several)] [("AlreadyThere", A_AlreadyThere, "place"), ("BadAddition", A_BadAddition, "value"), ("BadPlace", A_BadPlace, "place"), ("BadThing", A_BadThing, "thing")]) "BadThing" "BadThing" := ⟨A_BadThing, _, _, "thing", "thing", rfl, ⟨⟨_, _, _, _, _, _, _, _, _, _, _, _, _, _, _, x1_BadThing, by rfl⟩, x2_BadThing, x3_BadThing, x4_BadThing, x5_BadThing⟩, x6_BadThing, a22, t22, ok_BadThing_init D22 (PySem.W.mg_of X G g_NamesError) ⟨nb1_NamesError, nb2_NamesError⟩ nb3_NamesError, b22, PySem.W.mg_of X G g_BadThing⟩
  have C_is_integer : Cal P w K mg base (bxOf K [("Addition", A_Addition), ("Several", A_Several)] [("AlreadyThere", A_AlreadyThere, "place"), ("BadAddition", A_BadAddition, "value"), ("BadPlace", A_BadPlace, "place"), ("BadThing", A_BadThing, "thing")]) "is_integer" 1 ["value"] F_is_integer := ⟨_, _, ok_is_integer D0 T , PySem.W.mg_of X G a0, k0, b0⟩
  have C_is_name : Cal P w K mg base (bxOf K [("Addition", A_Addition), ("Several", A_Several)] [("AlreadyThere", A_AlreadyThere, "place"), ("BadAddition", A_BadAddition, "value"), ("BadPlace", A_BadPlace, "place"), ("BadThing", A_BadThing, "thing")]) "is_name" 1 ["value"] F_is_name := ⟨_, _, ok_is_name D1 T , PySem.W.mg_of X G a1, k1, b1⟩
  have C_is_thing : Cal P w K mg base (bxOf K [("Addition", A_Addition), ("Several", A_Several)] [("AlreadyThere", A_AlreadyThere, "place"), ("BadAddition", A_BadAddition, "value"), ("BadPlace", A_BadPlace, "place"), ("BadThing", A_BadThing, "thing")]) "is_thing" 2 ["value"] F_is_thing := ⟨_, _, ok_is_thing D2 T C_is_integer, PySem.W.mg_of X G a2, k2, b2⟩
  have C_is_place : Cal P w K mg base (bxOf K [("Addition", A_Addition), ("Several", A_Several)] [("AlreadyThere", A_AlreadyThere, "place"), ("BadAddition", A_BadAddition, "value"), ("BadPlace", A_BadPlace, "place"), ("BadThing", A_BadThing, "thing")]) "is_place" 2 ["value"] F_is_place := ⟨_, _, ok_is_place D3 T C_is_name, PySem.W.mg_of X G a3, k3, b3⟩
  have N_Addition : Mak P w K mg base (bxOf K [("Addition", A_Addition), ("Several", A_Several)] [("AlreadyThere", A_AlreadyThere, "place"), ("BadAddition", A_BadAddition, "value"), ("BadPlace", A_BadPlace, "place"), ("BadThing", A_BadThing, "thing")]) "Addition" "Addition" 3 ["place", "thing"] F_Addition_init := ⟨A_Addition, _, _, rfl, ⟨o7_Addition, a4, o9_Addition, o8_Addition⟩, ok_Addition_init D4 T C_is_place C_is_thing R_BadPlace R_BadThing, b4, PySem.W.mg_of X G g_Addition⟩
  have O_Addition_eq := ok_Addition_eq (P := P) (base := base) D5 T 
  have C_check_fit : Cal P w K mg base (bxOf K [("Addition", A_Addition), ("Several", A_Several)] [("AlreadyThere", A_AlreadyThere, "place"), ("BadAddition", A_BadAddition, "value"), ("BadPlace", A_BadPlace, "place"), ("BadThing", A_BadThing, "thing")]) "check_fit" 3 ["earlier", "addition"] F_check_fit := ⟨_, _, ok_check_fit D6 T R_AlreadyThere R_BadThing, PySem.W.mg_of X G a6, k6, b6⟩
  have X_eq_Addition_eq : EqC P w K mg base (bxOf K [("Addition", A_Addition), ("Several", A_Several)] [("AlreadyThere", A_AlreadyThere, "place"), ("BadAddition", A_BadAddition, "value"), ("BadPlace", A_BadPlace, "place"), ("BadThing", A_BadThing, "thing")]) "Addition" 1 F_Addition_eq := ⟨A_Addition, _, _, _, rfl, a5, w_Addition_eq, O_Addition_eq, b5, q_Addition_eq⟩
  have T_t_eq_Addition : ∀ c f, t_eq_Addition c = some f → EqC P w K mg base (bxOf K [("Addition", A_Addition), ("Several", A_Several)] [("AlreadyThere", A_AlreadyThere, "place"), ("BadAddition", A_BadAddition, "value"), ("BadPlace", A_BadPlace, "place"), ("BadThing", A_BadThing, "thing")]) c 1 f := (fun c f e => by
    unfold t_eq_Addition at e
    split at e <;> first | (cases e; exact (X_eq_Addition_eq).mono (by decide)) | cases e)
  have C_unlike_rows : Cal P w K mg base (bxOf K [("Addition", A_Addition), ("Several", A_Several)] [("AlreadyThere", A_AlreadyThere, "place"), ("BadAddition", A_BadAddition, "value"), ("BadPlace", A_BadPlace, "place"), ("BadThing", A_BadThing, "thing")]) "unlike_rows" 4 ["additions"] F_unlike_rows := ⟨_, _, ok_unlike_rows D7 T C_check_fit T_t_eq_Addition, PySem.W.mg_of X G a7, k7, b7⟩
  have S_Several : MakSt P w K mg base (bxOf K [("Addition", A_Addition), ("Several", A_Several)] [("AlreadyThere", A_AlreadyThere, "place"), ("BadAddition", A_BadAddition, "value"), ("BadPlace", A_BadPlace, "place"), ("BadThing", A_BadThing, "thing")]) "Several" "Several" 5 F_Several_init := ⟨A_Several, _, rfl, ⟨o7_Several, a8, o9_Several, o8_Several⟩, ok_Several_init D8 T C_unlike_rows R_BadAddition, PySem.W.mg_of X G g_Several⟩
  have O_Several_additions := ok_Several_additions (P := P) (base := base) D9 T 
  have O_Several_len := ok_Several_len (P := P) (base := base) D10 T 
  have C_law_pool_of : Cal P w K mg base (bxOf K [("Addition", A_Addition), ("Several", A_Several)] [("AlreadyThere", A_AlreadyThere, "place"), ("BadAddition", A_BadAddition, "value"), ("BadPlace", A_BadPlace, "place"), ("BadThing", A_BadThing, "thing")]) "_law_pool_of" 1 ["_law_script", "_law_k"] F_law_pool_of := ⟨_, _, ok_law_pool_of D11 T , PySem.W.mg_of X G a11, k11, b11⟩
  have C_law_draw : Cal P w K mg base (bxOf K [("Addition", A_Addition), ("Several", A_Several)] [("AlreadyThere", A_AlreadyThere, "place"), ("BadAddition", A_BadAddition, "value"), ("BadPlace", A_BadPlace, "place"), ("BadThing", A_BadThing, "thing")]) "_law_draw" 1 ["_law_pool", "_law_many"] F_law_draw := ⟨_, _, ok_law_draw D12 T , PySem.W.mg_of X G a12, k12, b12⟩
  have C_law_pick : Cal P w K mg base (bxOf K [("Addition", A_Addition), ("Several", A_Several)] [("AlreadyThere", A_AlreadyThere, "place"), ("BadAddition", A_BadAddition, "value"), ("BadPlace", A_BadPlace, "place"), ("BadThing", A_BadThing, "thing")]) "_law_pick" 2 ["_law_pool", "_law_row"] F_law_pick := ⟨_, _, ok_law_pick D13 T C_law_draw, PySem.W.mg_of X G a13, k13, b13⟩
  have C_law_drawn_addition : Cal P w K mg base (bxOf K [("Addition", A_Addition), ("Several", A_Several)] [("AlreadyThere", A_AlreadyThere, "place"), ("BadAddition", A_BadAddition, "value"), ("BadPlace", A_BadPlace, "place"), ("BadThing", A_BadThing, "thing")]) "_law_drawn_addition" 3 ["_law_pool"] F_law_drawn_addition := ⟨_, _, ok_law_drawn_addition D14 T C_law_pick, PySem.W.mg_of X G a14, k14, b14⟩
  have C_law_due_of : Cal P w K mg base (bxOf K [("Addition", A_Addition), ("Several", A_Several)] [("AlreadyThere", A_AlreadyThere, "place"), ("BadAddition", A_BadAddition, "value"), ("BadPlace", A_BadPlace, "place"), ("BadThing", A_BadThing, "thing")]) "_law_due_of" 1 ["_law_rows"] F_law_due_of := ⟨_, _, ok_law_due_of D15 T , PySem.W.mg_of X G a15, k15, b15⟩
  have C_law_made_several : Cal P w K mg base (bxOf K [("Addition", A_Addition), ("Several", A_Several)] [("AlreadyThere", A_AlreadyThere, "place"), ("BadAddition", A_BadAddition, "value"), ("BadPlace", A_BadPlace, "place"), ("BadThing", A_BadThing, "thing")]) "_law_made_several" 7 ["_law_values"] F_law_made_several := ⟨_, _, ok_law_made_several D16 T S_Several, PySem.W.mg_of X G a16, k16, b16⟩
  have X_pr_Several_additions : PrC P w K mg base (bxOf K [("Addition", A_Addition), ("Several", A_Several)] [("AlreadyThere", A_AlreadyThere, "place"), ("BadAddition", A_BadAddition, "value"), ("BadPlace", A_BadPlace, "place"), ("BadThing", A_BadThing, "thing")]) "Several" "additions" 1 F_Several_additions := ⟨A_Several, _, _, _, _, rfl, ⟨pa9, pb9, pc9, ⟨_, a9⟩⟩, O_Several_additions, b9⟩
  have T_t_pr_additions_Several : ∀ c f, t_pr_additions_Several c = some f → PrC P w K mg base (bxOf K [("Addition", A_Addition), ("Several", A_Several)] [("AlreadyThere", A_AlreadyThere, "place"), ("BadAddition", A_BadAddition, "value"), ("BadPlace", A_BadPlace, "place"), ("BadThing", A_BadThing, "thing")]) c "additions" 1 f := (fun c f e => by
    unfold t_pr_additions_Several at e
    split at e <;> first | (cases e; exact (X_pr_Several_additions).mono (by decide)) | cases e)
  have X_ln_Several_len : SpC P w K mg base (bxOf K [("Addition", A_Addition), ("Several", A_Several)] [("AlreadyThere", A_AlreadyThere, "place"), ("BadAddition", A_BadAddition, "value"), ("BadPlace", A_BadPlace, "place"), ("BadThing", A_BadThing, "thing")]) "Several" "__len__" 1 1 F_Several_len := ⟨A_Several, _, _, _, rfl, a10, w_Several_len, O_Several_len, b10⟩
  have T_t_ln_Several : ∀ c f, t_ln_Several c = some f → SpC P w K mg base (bxOf K [("Addition", A_Addition), ("Several", A_Several)] [("AlreadyThere", A_AlreadyThere, "place"), ("BadAddition", A_BadAddition, "value"), ("BadPlace", A_BadPlace, "place"), ("BadThing", A_BadThing, "thing")]) c "__len__" 1 1 f := (fun c f e => by
    unfold t_ln_Several at e
    split at e <;> first | (cases e; exact (X_ln_Several_len).mono (by decide)) | cases e)
  have C_law_answer : CalG P w K mg base (bxOf K [("Addition", A_Addition), ("Several", A_Several)] [("AlreadyThere", A_AlreadyThere, "place"), ("BadAddition", A_BadAddition, "value"), ("BadPlace", A_BadPlace, "place"), ("BadThing", A_BadThing, "thing")]) "_law_answer" 8 ["_law_values"] F_law_answer := ⟨_, _, ok_law_answer D17 T C_law_made_several T_t_pr_additions_Several T_t_ln_Several, PySem.W.mg_of X G a17, k17, b17⟩
  exact ok_law D18 T C_law_pool_of C_law_draw C_law_drawn_addition C_law_due_of C_law_pick C_law_answer N_Addition
end G
open PySem PySem.W PyProof.Rows
set_option maxRecDepth 100000 in
set_option maxHeartbeats 0 in
theorem PySem.Challenge.cw_addednames_k51_several_made_holds : PySem.Challenge.rw_addednames_k51_several_made.Holds := by
  w_on; o_law; k_head; (case hw => w_witness2)
  k_fill
  refine AN.walk_t (l := PySem.Challenge.rw_addednames_k51_several_made) (f := G.F_law) (k := 9) (x := "_law_script") rfl rfl ⟨rfl, by decide, by decide⟩ (fun w h Y => PySem.W.kIn_of Y) ?F G.law_plain
  case F =>
    intro w mg fa h KX G0 XX hmg
    have q_MOST_THING : ∃ t, mg "MOST_THING" = some (.int 1000000000 t) := by
      obtain ⟨v, a, b⟩ := XX.2.val (PySem.Str.ofString "MOST_THING", WData.int 1000000000) (by decide +kernel)
      cases b
      exact ⟨_, a⟩
    refine' G.all_mk KX G0 hmg ?g_Addition ?g_AlreadyThere ?g_BadAddition ?g_BadPlace ?g_BadThing ?g_NamesError ?g_Several ?a0 ?l0 ?c0 ?k0 ?a1 ?l1 ?c1 ?k1 ?a2 ?l2 ?c2 ?k2 ?a3 ?l3 ?c3 ?k3 ?a4 ?l4 ?c4 ?k4 ?a5 ?l5 ?c5 ?k5 ?a6 ?l6 ?c6 ?k6 ?a7 ?l7 ?c7 ?k7 ?a8 ?l8 ?c8 ?k8 ?pa9 ?pb9 ?pc9 ?a9 ?l9 ?c9 ?k9 ?a10 ?l10 ?c10 ?k10 ?a11 ?l11 ?c11 ?k11 ?a12 ?l12 ?c12 ?k12 ?a13 ?l13 ?c13 ?k13 ?a14 ?l14 ?c14 ?k14 ?a15 ?l15 ?c15 ?k15 ?a16 ?l16 ?c16 ?k16 ?a17 ?l17 ?c17 ?k17 ?a18 ?l18 ?c18 ?k18 ?a19 ?l19 ?c19 ?k19 ?t19 ?a20 ?l20 ?c20 ?k20 ?t20 ?a21 ?l21 ?c21 ?k21 ?t21 ?a22 ?l22 ?c22 ?k22 ?t22 ?y1 ?y2 ?o1_Addition ?o2_Addition ?o3_Addition ?o4_Addition ?o5_Addition ?o6_Addition ?of_Addition ?o7_Addition ?o8_Addition ?o9_Addition ?p_kind_Addition ?p_name_Addition ?p_place_Addition ?p_thing_Addition ?nf_Addition_Addition ?nf_Addition_Several ?o1_Several ?o2_Several ?o3_Several ?o4_Several ?o5_Several ?o6_Several ?of_Several ?o7_Several ?o8_Several ?o9_Several ?p_kept_Several ?nf_Several_Addition ?nf_Several_Several ?nd ?w_Several_len ?w_Addition_eq ?q_Addition_eq ?i1_Addition ?i2_Addition ?i3_Addition_Addition ?i3_Addition_Several ?x1_AlreadyThere ?x2_AlreadyThere ?x3_AlreadyThere ?x4_AlreadyThere ?x5_AlreadyThere ?x6_AlreadyThere ?x7_AlreadyThere ?x8_AlreadyThere ?x9_AlreadyThere ?xa_AlreadyThere ?xb_AlreadyThere ?xe_AlreadyThere_AlreadyThere ?xe_AlreadyThere_BadAddition ?xe_AlreadyThere_BadThing ?xe_AlreadyThere_NamesError ?x1_BadAddition ?x2_BadAddition ?x3_BadAddition ?x4_BadAddition ?x5_BadAddition ?x6_BadAddition ?x7_BadAddition ?x8_BadAddition ?x9_BadAddition ?xa_BadAddition ?xb_BadAddition ?xe_BadAddition_AlreadyThere ?xe_BadAddition_BadAddition ?xe_BadAddition_BadThing ?xe_BadAddition_NamesError ?x1_BadPlace ?x2_BadPlace ?x3_BadPlace ?x4_BadPlace ?x5_BadPlace ?x6_BadPlace ?x7_BadPlace ?x8_BadPlace ?x9_BadPlace ?xa_BadPlace ?xb_BadPlace ?xe_BadPlace_AlreadyThere ?xe_BadPlace_BadAddition ?xe_BadPlace_BadThing ?xe_BadPlace_NamesError ?x1_BadThing ?x2_BadThing ?x3_BadThing ?x4_BadThing ?x5_BadThing ?x6_BadThing ?x7_BadThing ?x8_BadThing ?x9_BadThing ?xa_BadThing ?xb_BadThing ?xe_BadThing_AlreadyThere ?xe_BadThing_BadAddition ?xe_BadThing_BadThing ?xe_BadThing_NamesError ?nb1_NamesError ?nb2_NamesError ?nb3_NamesError ?ta_LENGTHS ?tl_LENGTHS ?tk_LENGTHS ?ts_LENGTHS ?tt_LENGTHS ?z_abs ?z_all ?z_any ?z_bool ?z_int ?z_isinstance ?z_len ?z_range ?z_repr ?z_str ?z_sum ?z_tuple ?q_LETTERS ?q_MOST_LETTERS q_MOST_THING
    (case g_Addition => k_is)
    (case g_AlreadyThere => k_is)
    (case g_BadAddition => k_is)
    (case g_BadPlace => k_is)
    (case g_BadThing => k_is)
    (case g_NamesError => k_is)
    (case g_Several => k_is)
    (case a0 => k_is)
    (case l0 => k_is)
    (case c0 => k_is)
    (case k0 => k_is)
    (case a1 => k_is)
    (case l1 => k_is)
    (case c1 => k_is)
    (case k1 => k_is)
    (case a2 => k_is)
    (case l2 => k_is)
    (case c2 => k_is)
    (case k2 => k_is)
    (case a3 => k_is)
    (case l3 => k_is)
    (case c3 => k_is)
    (case k3 => k_is)
    (case a4 => k_is)
    (case l4 => k_is)
    (case c4 => k_is)
    (case k4 => k_is)
    (case a5 => k_is)
    (case l5 => k_is)
    (case c5 => k_is)
    (case k5 => k_is)
    (case a6 => k_is)
    (case l6 => k_is)
    (case c6 => k_is)
    (case k6 => k_is)
    (case a7 => k_is)
    (case l7 => k_is)
    (case c7 => k_is)
    (case k7 => k_is)
    (case a8 => k_is)
    (case l8 => k_is)
    (case c8 => k_is)
    (case k8 => k_is)
    (case pa9 => k_is)
    (case pb9 => k_is)
    (case pc9 => k_is)
    (case a9 => k_is)
    (case l9 => k_is)
    (case c9 => k_is)
    (case k9 => k_is)
    (case a10 => k_is)
    (case l10 => k_is)
    (case c10 => k_is)
    (case k10 => k_is)
    (case a11 => k_is)
    (case l11 => k_is)
    (case c11 => k_is)
    (case k11 => k_is)
    (case a12 => k_is)
    (case l12 => k_is)
    (case c12 => k_is)
    (case k12 => k_is)
    (case a13 => k_is)
    (case l13 => k_is)
    (case c13 => k_is)
    (case k13 => k_is)
    (case a14 => k_is)
    (case l14 => k_is)
    (case c14 => k_is)
    (case k14 => k_is)
    (case a15 => k_is)
    (case l15 => k_is)
    (case c15 => k_is)
    (case k15 => k_is)
    (case a16 => k_is)
    (case l16 => k_is)
    (case c16 => k_is)
    (case k16 => k_is)
    (case a17 => k_is)
    (case l17 => k_is)
    (case c17 => k_is)
    (case k17 => k_is)
    (case a18 => k_is)
    (case l18 => k_is)
    (case c18 => k_is)
    (case k18 => k_is)
    (case a19 => k_is)
    (case l19 => k_is)
    (case c19 => k_is)
    (case k19 => k_is)
    (case t19 => k_is)
    (case a20 => k_is)
    (case l20 => k_is)
    (case c20 => k_is)
    (case k20 => k_is)
    (case t20 => k_is)
    (case a21 => k_is)
    (case l21 => k_is)
    (case c21 => k_is)
    (case k21 => k_is)
    (case t21 => k_is)
    (case a22 => k_is)
    (case l22 => k_is)
    (case c22 => k_is)
    (case k22 => k_is)
    (case t22 => k_is)
    (case y1 => k_is)
    (case y2 => k_is)
    (case o1_Addition => k_is)
    (case o2_Addition => k_is)
    (case o3_Addition => k_is)
    (case o4_Addition => k_is)
    (case o5_Addition => k_is)
    (case o6_Addition => k_is)
    (case of_Addition => k_is)
    (case o7_Addition => k_is)
    (case o8_Addition => k_is)
    (case o9_Addition => k_is)
    (case p_kind_Addition => k_is)
    (case p_name_Addition => k_is)
    (case p_place_Addition => k_is)
    (case p_thing_Addition => k_is)
    (case nf_Addition_Addition => first | rfl | k_is | (simp [PySem.W.notFirst]))
    (case nf_Addition_Several => first | rfl | k_is | (simp [PySem.W.notFirst]))
    (case o1_Several => k_is)
    (case o2_Several => k_is)
    (case o3_Several => k_is)
    (case o4_Several => k_is)
    (case o5_Several => k_is)
    (case o6_Several => k_is)
    (case of_Several => k_is)
    (case o7_Several => k_is)
    (case o8_Several => k_is)
    (case o9_Several => k_is)
    (case p_kept_Several => k_is)
    (case nf_Several_Addition => first | rfl | k_is | (simp [PySem.W.notFirst]))
    (case nf_Several_Several => first | rfl | k_is | (simp [PySem.W.notFirst]))
    (case nd => first | decide | simp)
    (case w_Several_len => k_is)
    (case w_Addition_eq => k_is)
    (case q_Addition_eq => k_is)
    (case i1_Addition => first | rfl | k_is)
    (case i2_Addition => k_is)
    (case i3_Addition_Addition => first | rfl | k_is | decide +kernel)
    (case i3_Addition_Several => first | rfl | k_is | decide +kernel)
    (case x1_AlreadyThere => k_is)
    (case x2_AlreadyThere => k_is)
    (case x3_AlreadyThere => k_is)
    (case x4_AlreadyThere => k_is)
    (case x5_AlreadyThere => k_is)
    (case x6_AlreadyThere => k_is)
    (case x7_AlreadyThere => k_is)
    (case x8_AlreadyThere => k_is)
    (case x9_AlreadyThere => k_is)
    (case xa_AlreadyThere => k_is)
    (case xb_AlreadyThere => k_is)
    (case xe_AlreadyThere_AlreadyThere => first | rfl | k_is | decide +kernel)
    (case xe_AlreadyThere_BadAddition => first | rfl | k_is | decide +kernel)
    (case xe_AlreadyThere_BadThing => first | rfl | k_is | decide +kernel)
    (case xe_AlreadyThere_NamesError => first | rfl | k_is | decide +kernel)
    (case x1_BadAddition => k_is)
    (case x2_BadAddition => k_is)
    (case x3_BadAddition => k_is)
    (case x4_BadAddition => k_is)
    (case x5_BadAddition => k_is)
    (case x6_BadAddition => k_is)
    (case x7_BadAddition => k_is)
    (case x8_BadAddition => k_is)
    (case x9_BadAddition => k_is)
    (case xa_BadAddition => k_is)
    (case xb_BadAddition => k_is)
    (case xe_BadAddition_AlreadyThere => first | rfl | k_is | decide +kernel)
    (case xe_BadAddition_BadAddition => first | rfl | k_is | decide +kernel)
    (case xe_BadAddition_BadThing => first | rfl | k_is | decide +kernel)
    (case xe_BadAddition_NamesError => first | rfl | k_is | decide +kernel)
    (case x1_BadPlace => k_is)
    (case x2_BadPlace => k_is)
    (case x3_BadPlace => k_is)
    (case x4_BadPlace => k_is)
    (case x5_BadPlace => k_is)
    (case x6_BadPlace => k_is)
    (case x7_BadPlace => k_is)
    (case x8_BadPlace => k_is)
    (case x9_BadPlace => k_is)
    (case xa_BadPlace => k_is)
    (case xb_BadPlace => k_is)
    (case xe_BadPlace_AlreadyThere => first | rfl | k_is | decide +kernel)
    (case xe_BadPlace_BadAddition => first | rfl | k_is | decide +kernel)
    (case xe_BadPlace_BadThing => first | rfl | k_is | decide +kernel)
    (case xe_BadPlace_NamesError => first | rfl | k_is | decide +kernel)
    (case x1_BadThing => k_is)
    (case x2_BadThing => k_is)
    (case x3_BadThing => k_is)
    (case x4_BadThing => k_is)
    (case x5_BadThing => k_is)
    (case x6_BadThing => k_is)
    (case x7_BadThing => k_is)
    (case x8_BadThing => k_is)
    (case x9_BadThing => k_is)
    (case xa_BadThing => k_is)
    (case xb_BadThing => k_is)
    (case xe_BadThing_AlreadyThere => first | rfl | k_is | decide +kernel)
    (case xe_BadThing_BadAddition => first | rfl | k_is | decide +kernel)
    (case xe_BadThing_BadThing => first | rfl | k_is | decide +kernel)
    (case xe_BadThing_NamesError => first | rfl | k_is | decide +kernel)
    (case nb1_NamesError => k_is)
    (case nb2_NamesError => k_is)
    (case nb3_NamesError => k_is)
    (case ta_LENGTHS => k_is)
    (case tl_LENGTHS => k_is)
    (case tk_LENGTHS => exact ⟨⟨_, _, rfl, rfl⟩, ⟨_, _, rfl, rfl⟩, ⟨_, _, rfl, rfl⟩, trivial⟩)
    (case ts_LENGTHS => rfl)
    (case tt_LENGTHS => exact (.cons ⟨_, rfl⟩ ⟨.int 3, ⟨_, rfl⟩, fun _ => rfl⟩ (.cons ⟨_, rfl⟩ ⟨.int 3, ⟨_, rfl⟩, fun _ => rfl⟩ (.cons ⟨_, rfl⟩ ⟨.int 4, ⟨_, rfl⟩, fun _ => rfl⟩ .nil))))
    (case z_abs => k_is)
    (case z_all => k_is)
    (case z_any => k_is)
    (case z_bool => k_is)
    (case z_int => k_is)
    (case z_isinstance => k_is)
    (case z_len => k_is)
    (case z_range => k_is)
    (case z_repr => k_is)
    (case z_str => k_is)
    (case z_sum => k_is)
    (case z_tuple => k_is)
    (case q_LETTERS => k_is)
    (case q_MOST_LETTERS => k_is)
