import PyProof.Rows.All
import Wide.All
import OpenK.AllK
import Wide.FinOn
import HandS.ForMost
import HandS.IsInst
import HandS.CallSlots
import HandS.WordsExc
import HandS.NoneIn
import HandS.TupAny
import HandS.Wide
import HandS.Style
import HandS.Deep
import HandS.RaiseMore
import HandS.StrMore
import HandS.TryMany
import HandS.ExcField
import HandS.ExcInit
import HandS.Ends
import PyProof.ReprRoads
import KE.KExcIs
import KE.KIsAll
import HandS.ExcIs
import HandS.ClsMeth
import HandS.More
import PyProof.InstNe
import HandS.MakeKwOnly
import HandS.Property
import HandS.Star
import HandS.OwnEq
import PyProof.ExcBaseAll.LookupError
import PyProof.ExcBaseAll.IndexError
import PyProof.ExcBaseAll.OverflowError
import PyProof.ExcBaseAll.RuntimeError
import HandS.DictComp
import HandS.Defaults
import KE.GoesMore
import HandS.Text
import HandS.Proxy
import KE.KDictWalk
import KE.GoesEnum
import KE.KStar
import HandS.Small
import PySem.Challenge.RW_addednames_k10_books_refused
set_option Elab.async false
set_option maxRecDepth 100000
set_option autoImplicit false
/-! Plain data, what stands for it on the abstract heap, and how a piece of code is read as a plain function. -/
namespace AN
open PySem L2

/-- plain data -/
inductive D where
  | non
  | bl (b : Bool)
  | int (i : Int)
  | str (s : Str)
  | lst (xs : List D)
  | tup (xs : List D)
  | dic (kvs : List (Key × D))
  | obj (c : String) (fs : List (Str × D))
  deriving Inhabited

/-- the content of an object that one name alone holds -/
inductive O where
  | lst (xs : List D)
  | dic (kvs : List (Key × D))
  | obj (c : String) (fs : List (Str × D))
  deriving Inhabited
def O.toD : O → D
  | .lst xs => .lst xs
  | .dic kvs => .dic kvs
  | .obj c fs => .obj c fs

/-- what a name holds: nothing known; data that never changes; an object that this name alone holds (pinned: a parameter's) -/
inductive Slot where
  | no
  | fz (d : D)
  | ow (pin : Bool) (o : O)
  deriving Inhabited
abbrev Env := List Slot
/-- an operand: data, or the object of a name -/
inductive Opd where
  | d (d : D)
  | sl (i : Nat)
  deriving Inhabited

inductive R (α : Type) where
  | ok (a : α) (e : Env)
  | exc (c : String) (d : D) (e : Env)
  | bad
abbrev M (α : Type) := Env → R α
def M.bind {α β : Type} (m : M α) (k : α → M β) : M β := fun e => match m e with
  | .ok a e' => k a e'
  | .exc c d e' => .exc c d e'
  | .bad => .bad
def M.pure {α : Type} (a : α) : M α := fun e => .ok a e

/-- the written part, the own classes and the own errors by name -/
structure Bx where
  K : PySem.W.Frag
  cls : String → Option Addr
  exc : String → Option (Addr × Str)

def nil : Hp := fun _ => none
def LAt (B : Bx) (F : Hp) (p : Addr) (vs : List V) : Prop := F p = some (.lst vs) ∨ SqL B.K nil p vs
/-- a text that may be: not too long, its signs code points -/
def okS (s : Str) : Prop := s.length ≤ sizeLine ∧ PyData.strOk s = true
def TAt (B : Bx) (F : Hp) (p : Addr) (vs : List V) : Prop := F p = some (.tup vs) ∨ SqT B.K nil p vs

mutual
def Rep (B : Bx) (F : Hp) : D → V → Prop
  | .non, v => v = .non
  | .bl b, v => v = .bl b
  | .int i, v => v = .int i
  | .str s, v => v = .str s ∧ okS s
  | .lst xs, v => ∃ p vs, v = .ref p ∧ LAt B F p vs ∧ xs.length ≤ sizeLine ∧ RepL B F xs vs
  | .tup xs, v => ∃ p vs, v = .ref p ∧ TAt B F p vs ∧ xs.length ≤ sizeLine ∧ RepL B F xs vs
  | .dic kvs, v => ∃ p ks, v = .ref p ∧ F p = some (.dK ks) ∧ kvs.length ≤ sizeLine ∧ RepK B F kvs ks
  | .obj c fs, v => ∃ p C dx gs, v = .ref p ∧ B.cls c = some C ∧ F p = some (.ins C dx gs) ∧ RepF B F fs gs
def RepL (B : Bx) (F : Hp) : List D → List V → Prop
  | [], vs => vs = []
  | d :: ds, vs => ∃ v r, vs = v :: r ∧ Rep B F d v ∧ RepL B F ds r
def RepK (B : Bx) (F : Hp) : List (Key × D) → List (Key × V) → Prop
  | [], vs => vs = []
  | (k, d) :: ds, vs => ∃ v r, vs = (k, v) :: r ∧ Rep B F d v ∧ RepK B F ds r
def RepF (B : Bx) (F : Hp) : List (Str × D) → List (Str × V) → Prop
  | [], vs => vs = []
  | (k, d) :: ds, vs => ∃ v r, vs = (k, v) :: r ∧ Rep B F d v ∧ RepF B F ds r
end

def Le (F F' : Hp) : Prop := ∀ b u, F b = some u → F' b = some u
theorem Le.refl (F : Hp) : Le F F := fun _ _ h => h
theorem Le.trans {F F1 F2 : Hp} (a : Le F F1) (b : Le F1 F2) : Le F F2 := fun p u h => b p u (a p u h)
theorem Le.upd {F : Hp} {p : Addr} {o : HO} (h : F p = none) : Le F (upd F p o) := fun b u e => by
  rw [upd_ne (ne_of_none e h)]; exact e
theorem LAt.mono {B : Bx} {F F' : Hp} {p : Addr} {vs : List V} (l : Le F F') (h : LAt B F p vs) : LAt B F' p vs := h.imp (l _ _) id
theorem TAt.mono {B : Bx} {F F' : Hp} {p : Addr} {vs : List V} (l : Le F F') (h : TAt B F p vs) : TAt B F' p vs := by
  rcases h with h | h
  · exact .inl (l _ _ h)
  · exact .inr h

mutual
theorem Rep.mono {B : Bx} {F F' : Hp} (l : Le F F') : ∀ (d : D) (v : V), Rep B F d v → Rep B F' d v
  | .non, _, h => by simpa [Rep] using h
  | .bl _, _, h => by simpa [Rep] using h
  | .int _, _, h => by simpa [Rep] using h
  | .str _, _, h => by simpa [Rep] using h
  | .lst xs, v, h => by
    obtain ⟨p, vs, e, a, z, r⟩ := h
    exact ⟨p, vs, e, a.mono l, z, RepL.mono l xs vs r⟩
  | .tup xs, v, h => by
    obtain ⟨p, vs, e, a, z, r⟩ := h
    exact ⟨p, vs, e, a.mono l, z, RepL.mono l xs vs r⟩
  | .dic kvs, v, h => by
    obtain ⟨p, vs, e, a, z, r⟩ := h
    exact ⟨p, vs, e, l _ _ a, z, RepK.mono l kvs vs r⟩
  | .obj c fs, v, h => by
    obtain ⟨p, C, dx, gs, e, hc, a, r⟩ := h
    exact ⟨p, C, dx, gs, e, hc, l _ _ a, RepF.mono l fs gs r⟩
theorem RepL.mono {B : Bx} {F F' : Hp} (l : Le F F') : ∀ (ds : List D) (vs : List V), RepL B F ds vs → RepL B F' ds vs
  | [], _, h => h
  | d :: ds, vs, h => by
    obtain ⟨v, r, e, h1, h2⟩ := h
    exact ⟨v, r, e, Rep.mono l d v h1, RepL.mono l ds r h2⟩
theorem RepK.mono {B : Bx} {F F' : Hp} (l : Le F F') : ∀ (ds : List (Key × D)) (vs : List (Key × V)), RepK B F ds vs → RepK B F' ds vs
  | [], _, h => h
  | (k, d) :: ds, vs, h => by
    obtain ⟨v, r, e, h1, h2⟩ := h
    exact ⟨v, r, e, Rep.mono l d v h1, RepK.mono l ds r h2⟩
theorem RepF.mono {B : Bx} {F F' : Hp} (l : Le F F') : ∀ (ds : List (Str × D)) (vs : List (Str × V)), RepF B F ds vs → RepF B F' ds vs
  | [], _, h => h
  | (k, d) :: ds, vs, h => by
    obtain ⟨v, r, e, h1, h2⟩ := h
    exact ⟨v, r, e, Rep.mono l d v h1, RepF.mono l ds r h2⟩
end
theorem RepL.length {B : Bx} {F : Hp} : ∀ {ds : List D} {vs : List V}, RepL B F ds vs → vs.length = ds.length
  | [], _, h => by rw [show _ = [] from h]; rfl
  | d :: ds, vs, h => by
    obtain ⟨v, r, e, _, h2⟩ := h
    rw [e, List.length_cons, List.length_cons, RepL.length h2]
theorem RepL.get {B : Bx} {F : Hp} : ∀ {ds : List D} {vs : List V} {i : Nat} {d : D}, RepL B F ds vs → ds[i]? = some d → ∃ v, vs[i]? = some v ∧ Rep B F d v
  | [], _, _, _, _, e => by simp at e
  | x :: ds, vs, i, d, h, e => by
    obtain ⟨v, r, rfl, h1, h2⟩ := h
    cases i with
    | zero =>
      simp only [List.getElem?_cons_zero, Option.some.injEq] at e
      subst e
      exact ⟨v, rfl, h1⟩
    | succ i =>
      simp only [List.getElem?_cons_succ] at e
      obtain ⟨u, a, b⟩ := RepL.get h2 e
      exact ⟨u, by simpa using a, b⟩
theorem RepL.got {B : Bx} {F : Hp} : ∀ {ds : List D} {vs : List V} {i : Nat} {v : V}, RepL B F ds vs → vs[i]? = some v → ∃ d, ds[i]? = some d ∧ Rep B F d v
  | [], _, _, _, h, e => by rw [show _ = [] from h] at e; simp at e
  | x :: ds, vs, i, d, h, e => by
    obtain ⟨v, r, rfl, h1, h2⟩ := h
    cases i with
    | zero =>
      simp only [List.getElem?_cons_zero, Option.some.injEq] at e
      subst e
      exact ⟨x, rfl, h1⟩
    | succ i =>
      simp only [List.getElem?_cons_succ] at e
      obtain ⟨u, a, b⟩ := RepL.got h2 e
      exact ⟨u, by simpa using a, b⟩
theorem RepL.append {B : Bx} {F : Hp} : ∀ {ds es : List D} {vs us : List V}, RepL B F ds vs → RepL B F es us → RepL B F (ds ++ es) (vs ++ us)
  | [], _, vs, _, h, k => by rw [show vs = [] from h]; exact k
  | d :: ds, _, vs, _, h, k => by
    obtain ⟨v, r, rfl, h1, h2⟩ := h
    exact ⟨v, _, rfl, h1, RepL.append h2 k⟩
theorem RepL.one {B : Bx} {F : Hp} {d : D} {v : V} (h : Rep B F d v) : RepL B F [d] [v] := ⟨v, [], rfl, h, rfl⟩
theorem RepL.snoc {B : Bx} {F : Hp} {ds : List D} {vs : List V} {d : D} {v : V} (h : RepL B F ds vs) (k : Rep B F d v) : RepL B F (ds ++ [d]) (vs ++ [v]) := h.append (.one k)
theorem RepL.take {B : Bx} {F : Hp} : ∀ {ds : List D} {vs : List V} (n : Nat), RepL B F ds vs → RepL B F (ds.take n) (vs.take n)
  | ds, vs, 0, h => by simp [RepL]
  | [], vs, n + 1, h => by rw [show vs = [] from h]; rfl
  | d :: ds, vs, n + 1, h => by
    obtain ⟨v, r, rfl, h1, h2⟩ := h
    exact ⟨v, _, rfl, h1, RepL.take n h2⟩
theorem RepL.drop {B : Bx} {F : Hp} : ∀ {ds : List D} {vs : List V} (n : Nat), RepL B F ds vs → RepL B F (ds.drop n) (vs.drop n)
  | ds, vs, 0, h => by simpa using h
  | [], vs, n + 1, h => by rw [show vs = [] from h]; rfl
  | d :: ds, vs, n + 1, h => by
    obtain ⟨v, r, rfl, h1, h2⟩ := h
    simpa using RepL.drop n h2
theorem RepL.set {B : Bx} {F : Hp} {d : D} {v : V} (k : Rep B F d v) : ∀ {ds : List D} {vs : List V} (n : Nat), RepL B F ds vs → RepL B F (ds.set n d) (vs.set n v)
  | [], vs, n, h => by rw [show vs = [] from h]; rfl
  | x :: ds, vs, 0, h => by
    obtain ⟨u, r, rfl, h1, h2⟩ := h
    exact ⟨v, r, rfl, k, h2⟩
  | x :: ds, vs, n + 1, h => by
    obtain ⟨u, r, rfl, h1, h2⟩ := h
    exact ⟨u, _, rfl, h1, RepL.set k n h2⟩

/-! ### the state -/
def frzable : HO → Bool
  | .lst _ => true
  | .dK _ => true
  | .dT _ => true
  | _ => false
/-- the data's part F stands in H (some of it locked) -/
def Holds (F H : Hp) : Prop := ∀ b u, F b = some u → H b = some u ∨ (frzable u = true ∧ ∃ o, H b = some (.frz o u))
theorem Holds.none {F H : Hp} (h : Holds F H) {p : Addr} (e : H p = none) : F p = none := by
  cases q : F p with
  | none => rfl
  | some u =>
    rcases h p u q with z | ⟨_, o, z⟩ <;> rw [z] at e <;> cases e
theorem Holds.rd {F H : Hp} (h : Holds F H) {p : Addr} {u : HO} (e : F p = some u) : Rd H p u := by
  rcases h p u e with z | ⟨_, o, z⟩
  · exact .inl z
  · exact .inr ⟨o, z⟩
theorem Holds.at_ {F H : Hp} (h : Holds F H) {p : Addr} {u : HO} (e : F p = some u) (hf : frzable u = false) : H p = some u := by
  rcases h p u e with z | ⟨z, _⟩
  · exact z
  · rw [hf] at z; cases z
theorem nil_same (H : Hp) : Same nil H := fun _ _ h => by cases h
theorem sqT_nil {K : PySem.W.Frag} {H : Hp} {a : Addr} {xs : List V} (h : SqT K nil a xs) : SqT K H a xs := by
  rcases h with (h | ⟨o, h⟩) | h
  · cases h
  · cases h
  · exact .inr h
theorem LAt.sq {B : Bx} {F H : Hp} {p : Addr} {vs : List V} (hh : Holds F H) (h : LAt B F p vs) : SqL B.K H p vs := h.elim (fun h => .inl (hh.rd h)) fun h => (nil_same H).seq h
theorem TAt.sq {B : Bx} {F H : Hp} {p : Addr} {vs : List V} (hh : Holds F H) (h : TAt B F p vs) : SqT B.K H p vs := by
  rcases h with h | h
  · exact .inl (hh.rd h)
  · exact sqT_nil h

def OAt (B : Bx) (F H : Hp) (p : Addr) : O → Prop
  | .lst xs => xs.length ≤ sizeLine ∧ ∃ vs, H p = some (.lst vs) ∧ RepL B F xs vs
  | .dic kvs => kvs.length ≤ sizeLine ∧ ∃ ks, H p = some (.dK ks) ∧ RepK B F kvs ks
  | .obj c fs => ∃ C dx gs, B.cls c = some C ∧ H p = some (.ins C dx gs) ∧ RepF B F fs gs
theorem OAt.ex {B : Bx} {F H : Hp} {p : Addr} {o : O} (h : OAt B F H p o) : ∃ u, H p = some u := by
  cases o with
  | lst xs => obtain ⟨_, vs, e, _⟩ := h; exact ⟨_, e⟩
  | dic xs => obtain ⟨_, vs, e, _⟩ := h; exact ⟨_, e⟩
  | obj c fs => obtain ⟨C, dx, gs, _, e, _⟩ := h; exact ⟨_, e⟩
theorem OAt.mono {B : Bx} {F F' H H' : Hp} {p : Addr} {o : O} (l : Le F F') (k : ∀ u, H p = some u → H' p = some u) (h : OAt B F H p o) : OAt B F' H' p o := by
  cases o with
  | lst xs => obtain ⟨z, vs, e, r⟩ := h; exact ⟨z, vs, k _ e, r.mono l⟩
  | dic xs => obtain ⟨z, vs, e, r⟩ := h; exact ⟨z, vs, k _ e, r.mono l⟩
  | obj c fs => obtain ⟨C, dx, gs, hc, e, r⟩ := h; exact ⟨C, dx, gs, hc, k _ e, r.mono l⟩

structure Sim (B : Bx) (F : Hp) (env : Env) (σ : St) (H : Hp) : Prop where
  hold : Holds F H
  len : env.length = σ.length
  fz : ∀ (i : Nat) (d : D), env[i]? = some (.fz d) → ∃ v, σ[i]? = some (some v) ∧ Rep B F d v
  ow : ∀ (i : Nat) (k : Bool) (o : O), env[i]? = some (.ow k o) → ∃ p, σ[i]? = some (some (.ref p)) ∧ F p = none ∧ OAt B F H p o
  sep : ∀ (i j : Nat) (k : Bool) (o : O) (k' : Bool) (o' : O) (p : Addr), env[i]? = some (.ow k o) → env[j]? = some (.ow k' o') → σ[i]? = some (some (.ref p)) → σ[j]? = some (some (.ref p)) → i = j
/-- held by some name alone; by one that is pinned or not -/
def Own (env : Env) (σ : St) (b : Addr) : Prop := ∃ (i : Nat) (k : Bool) (o : O), env[i]? = some (.ow k o) ∧ σ[i]? = some (some (.ref b))
def OwnU (env : Env) (σ : St) (b : Addr) : Prop := ∃ (i : Nat) (o : O), env[i]? = some (.ow false o) ∧ σ[i]? = some (some (.ref b))
theorem OwnU.own {env : Env} {σ : St} {b : Addr} (h : OwnU env σ b) : Own env σ b := let ⟨i, o, a, c⟩ := h; ⟨i, false, o, a, c⟩
theorem Own.ex {B : Bx} {F H : Hp} {env : Env} {σ : St} {b : Addr} (S : Sim B F env σ H) (h : Own env σ b) : F b = none ∧ ∃ u, H b = some u := by
  obtain ⟨i, k, o, e, z⟩ := h
  obtain ⟨p, e1, e2, e3⟩ := S.ow i k o e
  rw [z] at e1
  cases e1
  exact ⟨e2, e3.ex⟩

/-- what a name alone holds may become data; a pinned one stays -/
structure EnvLe (env env' : Env) : Prop where
  dn : ∀ (i : Nat) (k : Bool) (o : O), env'[i]? = some (.ow k o) → ∃ o', env[i]? = some (.ow k o')
  up : ∀ (i : Nat) (o : O), env[i]? = some (.ow true o) → ∃ o', env'[i]? = some (.ow true o')
theorem EnvLe.refl (env : Env) : EnvLe env env := ⟨fun _ _ o h => ⟨o, h⟩, fun _ o h => ⟨o, h⟩⟩
theorem EnvLe.trans {e e1 e2 : Env} (a : EnvLe e e1) (b : EnvLe e1 e2) : EnvLe e e2 :=
  ⟨fun i k o h => let ⟨o', h'⟩ := b.dn i k o h; a.dn i k o' h', fun i o h => let ⟨o', h'⟩ := a.up i o h; b.up i o' h'⟩
theorem EnvLe.own {e e1 : Env} (a : EnvLe e e1) {σ : St} {b : Addr} (h : Own e1 σ b) : Own e σ b := by
  obtain ⟨i, k, o, h1, h2⟩ := h
  obtain ⟨o', h'⟩ := a.dn i k o h1
  exact ⟨i, k, o', h', h2⟩
/-- from F, H to F', H'; own: what may change -/
structure Step (own : Addr → Prop) (F H F' H' : Hp) : Prop where
  le : Le F F'
  keep : ∀ b o, H b = some o → ¬ own b → H' b = some o
  new : ∀ b u, F' b = some u → F b = some u ∨ H b = none ∨ own b
  stay : ∀ b o, H b = some o → ∃ o', H' b = some o'
theorem Step.refl (own : Addr → Prop) (F H : Hp) : Step own F H F H := ⟨Le.refl F, fun _ _ h _ => h, fun _ _ h => .inl h, fun _ o h => ⟨o, h⟩⟩
theorem Step.back {own : Addr → Prop} {F H F' H' : Hp} (a : Step own F H F' H') {b : Addr} (h : H' b = none) : H b = none := by
  cases q : H b with
  | none => rfl
  | some o =>
    obtain ⟨o', e⟩ := a.stay b o q
    rw [e] at h; cases h
theorem Step.trans {own own' : Addr → Prop} {F H F1 H1 F2 H2 : Hp} (a : Step own F H F1 H1) (b : Step own' F1 H1 F2 H2) (ho : ∀ b, own' b → own b ∨ H b = none) : Step own F H F2 H2 where
  le := a.le.trans b.le
  keep := fun c o e n => b.keep c o (a.keep c o e n) fun z => by
    rcases ho c z with z | z
    · exact n z
    · rw [e] at z; cases z
  new := fun c u e => by
    rcases b.new c u e with z | z | z
    · exact a.new c u z
    · exact .inr (.inl (a.back z))
    · rcases ho c z with z | z
      · exact .inr (.inr z)
      · exact .inr (.inl z)
  stay := fun c o e => let ⟨o', e'⟩ := a.stay c o e; b.stay c o' e'
theorem Step.imp {own own' : Addr → Prop} {F H F' H' : Hp} (a : Step own F H F' H') (h : ∀ b, own b → own' b) : Step own' F H F' H' :=
  ⟨a.le, fun b o e n => a.keep b o e fun z => n (h b z), fun b u e => (a.new b u e).imp id (Or.imp id (h b)), a.stay⟩

def OpdRel (B : Bx) (F : Hp) (σ : St) (v : V) : Opd → Prop
  | .d d => Rep B F d v
  | .sl i => σ[i]? = some (some v)
theorem OpdRel.mono {B : Bx} {F F' : Hp} {σ : St} {v : V} {r : Opd} (l : Le F F') (h : OpdRel B F σ v r) : OpdRel B F' σ v r := by
  cases r with
  | d d => exact Rep.mono l d v h
  | sl i => exact h

/-- what is wanted of an error: its class, its one field -/
def Wx (B : Bx) (W : WX) (σ : St) (own : Addr → Prop) (F H : Hp) (c : String) (d : D) (S : Hp → Hp → Prop) : Prop :=
  ∃ C fld, B.exc c = some (C, fld) ∧ ∀ F' H' dx v, Step own F H F' H' → S F' H' → H' dx = some (.xd [(fld, v)]) → F' dx = none → H dx = none → Rep B F' d v → W (.ref C) (some dx) σ H'

def Post {α : Type} (B : Bx) (W : WX) (F : Hp) (env : Env) (σ : St) (H : Hp) (k : α → Env → Hp → Hp → Prop) : R α → Prop
  | .ok a e' => ∀ F' H', Step (Own env σ) F H F' H' → Sim B F' e' σ H' → EnvLe env e' → k a e' F' H'
  | .exc c d e' => Wx B W σ (Own env σ) F H c d fun F' H' => Sim B F' e' σ H' ∧ EnvLe env e'
  | .bad => False
theorem Post.mono {α : Type} {B : Bx} {W : WX} {F : Hp} {env : Env} {σ : St} {H : Hp} {k k' : α → Env → Hp → Hp → Prop} {r : R α} (h : Post B W F env σ H k r)
    (i : ∀ a e' F' H', Step (Own env σ) F H F' H' → Sim B F' e' σ H' → EnvLe env e' → k a e' F' H' → k' a e' F' H') : Post B W F env σ H k' r := by
  cases r with
  | ok a e' => exact fun F' H' s m o => i a e' F' H' s m o (h F' H' s m o)
  | exc c d e' => exact h
  | bad => exact h
theorem Post.bind {α β : Type} {B : Bx} {W : WX} {F : Hp} {env : Env} {σ : St} {H : Hp} {k : β → Env → Hp → Hp → Prop} {m : M α} {g : α → M β} (S : Sim B F env σ H) (h : Post B W F env σ H k (M.bind m g env)) :
    Post B W F env σ H (fun a e1 F1 H1 => Post B W F1 e1 σ H1 k (g a e1)) (m env) := by
  unfold M.bind at h
  cases e : m env with
  | bad => rw [e] at h; exact h
  | exc c d e' => rw [e] at h; exact h
  | ok a e1 =>
    rw [e] at h
    intro F1 H1 st sim ole
    have tr : ∀ {F2 H2 : Hp}, Step (Own e1 σ) F1 H1 F2 H2 → Step (Own env σ) F H F2 H2 := fun s2 => st.trans s2 fun b z => .inl (ole.own z)
    have h' : Post B W F env σ H k (g a e1) := h
    cases q : g a e1 with
    | bad => rw [q] at h'; exact h'
    | ok b e2 =>
      rw [q] at h'
      exact fun F2 H2 s2 m2 o2 => h' F2 H2 (tr s2) m2 (ole.trans o2)
    | exc c d e2 =>
      rw [q] at h'
      obtain ⟨C, fld, hb, h'⟩ := h'
      refine ⟨C, fld, hb, fun F2 H2 dx v s2 ⟨m2, o2⟩ hd hf h0 r => h' F2 H2 dx v (tr s2) ⟨m2, ole.trans o2⟩ hd hf (st.back h0) r⟩
end AN

set_option Elab.async false
set_option maxRecDepth 100000
set_option autoImplicit false
set_option linter.unusedVariables false
namespace AN
open PySem L2

/-! ### judgements -/
def tE (B : Bx) (W : WX) (m : M Opd) : TE := fun σ H Q => ∃ F env, Sim B F env σ H ∧ Post B W F env σ H (fun r _ F' H' => ∀ v, OpdRel B F' σ v r → Q v H') (m env)
/-- a new object that nobody else holds -/
def tO (B : Bx) (W : WX) (m : M O) : TE := fun σ H Q => ∃ F env, Sim B F env σ H ∧ Post B W F env σ H (fun o _ F' H' => ∀ p, H p = none → F' p = none → OAt B F' H' p o → Q (.ref p) H') (m env)
def tT (B : Bx) (W : WX) (m : M Bool) : TT := fun σ H Q => ∃ F env, Sim B F env σ H ∧ Post B W F env σ H (fun b _ _ H' => Q b H') (m env)
inductive OpdsRel (B : Bx) (F : Hp) (σ : St) : List V → List Opd → Prop
  | nil : OpdsRel B F σ [] []
  | cons {v : V} {vs : List V} {r : Opd} {rs : List Opd} (h : OpdRel B F σ v r) (t : OpdsRel B F σ vs rs) : OpdsRel B F σ (v :: vs) (r :: rs)
def tA (B : Bx) (W : WX) (m : M (List Opd)) : TA := fun σ H Q => ∃ F env, Sim B F env σ H ∧ Post B W F env σ H (fun rs _ F' H' => ∀ vs, OpdsRel B F' σ vs rs → Q vs H') (m env)
abbrev DE (B : Bx) (X : Cx) (W : WX) (e : Expr) (m : M Opd) : Prop := PE X e (tE B W m)
abbrev DO (B : Bx) (X : Cx) (W : WX) (e : Expr) (m : M O) : Prop := PE X e (tO B W m)
abbrev DT (B : Bx) (X : Cx) (W : WX) (e : Expr) (m : M Bool) : Prop := PT X e (tT B W m)
abbrev DW (B : Bx) (X : Cx) (W : WX) (e : Expr) (m : M Bool) : Prop := PW X e (tT B W m)
abbrev DA (B : Bx) (X : Cx) (W : WX) (es : List Expr) (m : M (List Opd)) : Prop := PA X es (tA B W m)
theorem PE.imp {X : Cx} {e : Expr} {t t' : TE} (h : PE X e t) (i : ∀ σ H Q, t' σ H Q → t σ H Q) : PE X e t' := ⟨fun pins s σ H Q I q => h.run pins s σ H Q I (i σ H Q q)⟩
theorem PT.imp {X : Cx} {e : Expr} {t t' : TT} (h : PT X e t) (i : ∀ σ H Q, t' σ H Q → t σ H Q) : PT X e t' := ⟨fun pins s σ H Q I q => h.run pins s σ H Q I (i σ H Q q)⟩
theorem PW.imp {X : Cx} {e : Expr} {t t' : TT} (h : PW X e t) (i : ∀ σ H Q, t' σ H Q → t σ H Q) : PW X e t' := ⟨fun wh pins s σ H Q I q => h.run wh pins s σ H Q I (i σ H Q q)⟩
theorem PA.imp {X : Cx} {es : List Expr} {t t' : TA} (h : PA X es t) (i : ∀ σ H Q, t' σ H Q → t σ H Q) : PA X es t' := ⟨fun p pins s σ H Q I q => h.run p pins s σ H Q I (i σ H Q q)⟩
theorem OpdsRel.mono {B : Bx} {F F' : Hp} {σ : St} {vs : List V} {rs : List Opd} (l : Le F F') (h : OpdsRel B F σ vs rs) : OpdsRel B F' σ vs rs := by
  induction h with
  | nil => exact .nil
  | cons h _ ih => exact .cons (h.mono l) ih

/-! ### what an operand shows -/
def view (env : Env) : Opd → Option D
  | .d d => some d
  | .sl i => match env[i]? with
    | some (.fz d) => some d
    | some (.ow _ o) => some o.toD
    | _ => none
def Seen (B : Bx) (F H : Hp) : D → V → Prop
  | .lst xs, v => ∃ p vs, v = .ref p ∧ SqL B.K H p vs ∧ xs.length ≤ sizeLine ∧ RepL B F xs vs
  | .dic kvs, v => ∃ p ks, v = .ref p ∧ Rd H p (.dK ks) ∧ kvs.length ≤ sizeLine ∧ RepK B F kvs ks
  | .obj c fs, v => ∃ p C dx gs, v = .ref p ∧ B.cls c = some C ∧ H p = some (.ins C dx gs) ∧ RepF B F fs gs
  | d, v => Rep B F d v
theorem Rep.seen {B : Bx} {F H : Hp} {d : D} {v : V} (hh : Holds F H) (h : Rep B F d v) : Seen B F H d v := by
  cases d with
  | lst xs => obtain ⟨p, vs, e, a, z, r⟩ := h; exact ⟨p, vs, e, a.sq hh, z, r⟩
  | tup xs => exact h
  | dic kvs => obtain ⟨p, vs, e, a, z, r⟩ := h; exact ⟨p, vs, e, hh.rd a, z, r⟩
  | obj c fs => obtain ⟨p, C, dx, gs, e, hc, a, r⟩ := h; exact ⟨p, C, dx, gs, e, hc, hh.at_ a rfl, r⟩
  | non => exact h
  | bl b => exact h
  | int i => exact h
  | str s => exact h
theorem OAt.seen {B : Bx} {F H : Hp} {p : Addr} {o : O} (h : OAt B F H p o) : Seen B F H o.toD (.ref p) := by
  cases o with
  | lst xs => obtain ⟨z, vs, e, r⟩ := h; exact ⟨p, vs, rfl, .inl (.inl e), z, r⟩
  | dic xs => obtain ⟨z, vs, e, r⟩ := h; exact ⟨p, vs, rfl, .inl e, z, r⟩
  | obj c fs => obtain ⟨C, dx, gs, hc, e, r⟩ := h; exact ⟨p, C, dx, gs, rfl, hc, e, r⟩
theorem Sim.view {B : Bx} {F H : Hp} {env : Env} {σ : St} {v : V} {r : Opd} {d : D} (S : Sim B F env σ H) (h : OpdRel B F σ v r) (e : view env r = some d) : Seen B F H d v := by
  cases r with
  | d x =>
    cases (show some x = some d from e)
    exact Rep.seen S.hold h
  | sl i =>
    have e : (match env[i]? with | some (.fz d) => some d | some (.ow _ o) => some o.toD | _ => none) = some d := e
    have h : σ[i]? = some (some v) := h
    cases q : env[i]? with
    | none => rw [q] at e; cases e
    | some s =>
      rw [q] at e
      cases s with
      | no => cases e
      | fz x =>
        cases e
        obtain ⟨u, h1, h2⟩ := S.fz i d q
        rw [h] at h1; cases h1
        exact Rep.seen S.hold h2
      | ow k o =>
        cases e
        obtain ⟨p, h1, _, h3⟩ := S.ow i k o q
        rw [h] at h1; cases h1
        exact h3.seen

/-! ### steps that leave every own object as it is -/
abbrev Step0 (F H F' H' : Hp) : Prop := Step (fun _ => False) F H F' H'
theorem Step0.any {own : Addr → Prop} {F H F' H' : Hp} (s : Step0 F H F' H') : Step own F H F' H' := s.imp fun _ z => z.elim
theorem Sim.step0 {B : Bx} {F H F' H' : Hp} {env : Env} {σ : St} (S : Sim B F env σ H) (s : Step0 F H F' H') (hh : Holds F' H') : Sim B F' env σ H' where
  hold := hh
  len := S.len
  fz := fun i d e => let ⟨v, a, b⟩ := S.fz i d e; ⟨v, a, Rep.mono s.le d v b⟩
  ow := fun i k o e => by
    obtain ⟨p, a, b, c⟩ := S.ow i k o e
    obtain ⟨u, hu⟩ := c.ex
    refine ⟨p, a, ?_, c.mono s.le fun u e => s.keep p u e id⟩
    cases q : F' p with
    | none => rfl
    | some w =>
      rcases s.new p w q with z | z | z
      · rw [b] at z; cases z
      · rw [hu] at z; cases z
      · exact z.elim
  sep := S.sep
/-- a new object that is data from the start -/
theorem step0_new {F H : Hp} {p : Addr} {u : HO} (hh : Holds F H) (hp : H p = none) : Step0 F H (upd F p u) (upd H p u) ∧ Holds (upd F p u) (upd H p u) := by
  have hf := hh.none hp
  refine ⟨⟨Le.upd hf, fun b o e _ => by rw [upd_ne (ne_of_none e hp)]; exact e, fun b w e => ?_, fun b o e => ⟨o, by rw [upd_ne (ne_of_none e hp)]; exact e⟩⟩, fun b w e => ?_⟩
  · by_cases h : b = p
    · subst h; exact .inr (.inl hp)
    · rw [upd_ne h] at e; exact .inl e
  · by_cases h : b = p
    · subst h; rw [upd_same] at e; cases e; exact .inl upd_same
    · rw [upd_ne h] at e; rw [upd_ne h]; exact hh b w e
/-- a new object that is not (yet) data -/
theorem step0_mk {F H : Hp} {p : Addr} {u : HO} (hh : Holds F H) (hp : H p = none) : Step0 F H F (upd H p u) ∧ Holds F (upd H p u) := by
  refine ⟨⟨Le.refl F, fun b o e _ => by rw [upd_ne (ne_of_none e hp)]; exact e, fun b w e => .inl e, fun b o e => ⟨o, by rw [upd_ne (ne_of_none e hp)]; exact e⟩⟩, fun b w e => ?_⟩
  have h : b ≠ p := fun z => by
    subst z
    rw [hh.none hp] at e; cases e
  rw [upd_ne h]; exact hh b w e

/-! ### an operation on values -/
def Prim1 (B : Bx) (g : D → Option D) (r : V → Hp → VK → Prop) : Prop := ∀ (F H : Hp) (a z : D) (x : V) (Q : VK), Holds F H → Seen B F H a x → g a = some z →
  (∀ v F' H', Step0 F H F' H' → Holds F' H' → Rep B F' z v → Q v H') → r x H Q
def Prim2 (B : Bx) (g : D → D → Option D) (r : R2) : Prop := ∀ (F H : Hp) (a b z : D) (x y : V) (Q : VK), Holds F H → Seen B F H a x → Seen B F H b y → g a b = some z →
  (∀ v F' H', Step0 F H F' H' → Holds F' H' → Rep B F' z v → Q v H') → r x y H Q
def PrimO2 (B : Bx) (g : D → D → Option O) (r : R2) : Prop := ∀ (F H : Hp) (a b : D) (o : O) (x y : V) (Q : VK), Holds F H → Seen B F H a x → Seen B F H b y → g a b = some o →
  (∀ p H', Step0 F H F H' → Holds F H' → H p = none → OAt B F H' p o → Q (.ref p) H') → r x y H Q
def PrimO1 (B : Bx) (g : D → Option O) (r : V → Hp → VK → Prop) : Prop := ∀ (F H : Hp) (a : D) (o : O) (x : V) (Q : VK), Holds F H → Seen B F H a x → g a = some o →
  (∀ p H', Step0 F H F H' → Holds F H' → H p = none → OAt B F H' p o → Q (.ref p) H') → r x H Q
def ap1 {α : Type} (g : D → Option α) (x : Opd) : M α := fun env => match view env x with
  | some a => match g a with
    | some z => .ok z env
    | none => .bad
  | none => .bad
def ap2 {α : Type} (g : D → D → Option α) (x y : Opd) : M α := fun env => match view env x, view env y with
  | some a, some b => match g a b with
    | some z => .ok z env
    | none => .bad
  | _, _ => .bad
def mD (m : M D) : M Opd := M.bind m fun d => M.pure (.d d)
def mB1 {α : Type} (g : D → Option α) (m : M Opd) : M α := M.bind m (ap1 g)
def mB2 {α : Type} (g : D → D → Option α) (m n : M Opd) : M α := M.bind m fun x => M.bind n (ap2 g x)

section
variable {B : Bx} {X : Cx} {W : WX} {F H : Hp} {env : Env} {σ : St} {Q : VK}
theorem Post.ap1 {α : Type} {g : D → Option α} {x : Opd} {k : α → Env → Hp → Hp → Prop} (h : Post B W F env σ H k (ap1 g x env)) : ∃ a z, view env x = some a ∧ g a = some z ∧ Post B W F env σ H k (.ok z env) := by
  unfold AN.ap1 at h
  cases e : view env x with
  | none => rw [e] at h; exact h.elim
  | some a =>
    rw [e] at h
    cases q : g a with
    | none => simp only [q] at h; exact h.elim
    | some z => simp only [q] at h; exact ⟨a, z, rfl, q, h⟩
theorem Post.ap2 {α : Type} {g : D → D → Option α} {x y : Opd} {k : α → Env → Hp → Hp → Prop} (h : Post B W F env σ H k (ap2 g x y env)) : ∃ a b z, view env x = some a ∧ view env y = some b ∧ g a b = some z ∧ Post B W F env σ H k (.ok z env) := by
  unfold AN.ap2 at h
  cases e : view env x with
  | none => rw [e] at h; exact h.elim
  | some a =>
    cases e' : view env y with
    | none => rw [e, e'] at h; exact h.elim
    | some b =>
      rw [e, e'] at h
      cases q : g a b with
      | none => simp only [q] at h; exact h.elim
      | some z => simp only [q] at h; exact ⟨a, b, z, rfl, rfl, q, h⟩
/-- two operands, then what is wanted of their values -/
theorem tE.two {ma mb : M Opd} {α : Type} {g : Opd → Opd → M α} {k : α → Env → Hp → Hp → Prop} {R : V → V → Hp → Prop} (S : Sim B F env σ H) (h : Post B W F env σ H k (M.bind ma (fun x => M.bind mb fun y => g x y) env))
    (i : ∀ x y e2 F2 H2 v w, Step (Own env σ) F H F2 H2 → Sim B F2 e2 σ H2 → EnvLe env e2 → OpdRel B F2 σ v x → OpdRel B F2 σ w y → Post B W F2 e2 σ H2 k (g x y e2) → R v w H2) :
    tE B W ma σ H fun x H1 => tE B W mb σ H1 fun y H2 => R x y H2 := by
  refine ⟨F, env, S, (Post.bind S h).mono fun x e1 F1 H1 s1 m1 o1 k1 v rv => ⟨F1, e1, m1, (Post.bind m1 k1).mono fun y e2 F2 H2 s2 m2 o2 k2 w rw => ?_⟩⟩
  exact i x y e2 F2 H2 v w (s1.trans s2 fun b z => .inl (o1.own z)) m2 (o1.trans o2) (rv.mono s2.le) rw k2
theorem tE.one {ma : M Opd} {α : Type} {g : Opd → M α} {k : α → Env → Hp → Hp → Prop} {R : V → Hp → Prop} (S : Sim B F env σ H) (h : Post B W F env σ H k (M.bind ma g env))
    (i : ∀ x e1 F1 H1 v, Step (Own env σ) F H F1 H1 → Sim B F1 e1 σ H1 → EnvLe env e1 → OpdRel B F1 σ v x → Post B W F1 e1 σ H1 k (g x e1) → R v H1) :
    tE B W ma σ H fun x H1 => R x H1 := by
  refine ⟨F, env, S, (Post.bind S h).mono fun x e1 F1 H1 s1 m1 o1 k1 v rv => i x e1 F1 H1 v s1 m1 o1 rv k1⟩

theorem op2 {g : D → D → Option D} {r : R2} {ma mb : M Opd} (hp : Prim2 B g r) (h : tE B W (mD (mB2 g ma mb)) σ H Q) : tOp r (tE B W ma) (tE B W mb) σ H Q := by
  obtain ⟨F, env, S, h⟩ := h
  refine tE.two (g := ap2 g) S (Post.bind S h) fun x y e2 F2 H2 v w s2 m2 o2 rv rw k2 => ?_
  obtain ⟨a, b, z, ea, eb, ez, k3⟩ := k2.ap2
  refine hp F2 H2 a b z v w Q m2.hold (m2.view rv ea) (m2.view rw eb) ez fun u F3 H3 s3 h3 rz => ?_
  have m3 := m2.step0 s3 h3
  exact k3 F3 H3 s3.any m3 (EnvLe.refl _) F3 H3 (Step.refl _ _ _) m3 (EnvLe.refl _) u rz
theorem opO2 {g : D → D → Option O} {r : R2} {ma mb : M Opd} (hp : PrimO2 B g r) (h : tO B W (mB2 g ma mb) σ H Q) : tOp r (tE B W ma) (tE B W mb) σ H Q := by
  obtain ⟨F, env, S, h⟩ := h
  refine tE.two (g := ap2 g) S h fun x y e2 F2 H2 v w s2 m2 o2 rv rw k2 => ?_
  obtain ⟨a, b, z, ea, eb, ez, k3⟩ := k2.ap2
  refine hp F2 H2 a b z v w Q m2.hold (m2.view rv ea) (m2.view rw eb) ez fun p H3 s3 h3 hn ho => ?_
  have m3 := m2.step0 s3 h3
  exact k3 F2 H3 s3.any m3 (EnvLe.refl _) p (s2.back hn) (m2.hold.none hn) ho
theorem op1 {g : D → Option D} {r : V → Hp → VK → Prop} {ma : M Opd} (hp : Prim1 B g r) (h : tE B W (mD (mB1 g ma)) σ H Q) : tE B W ma σ H fun x H1 => r x H1 Q := by
  obtain ⟨F, env, S, h⟩ := h
  refine tE.one (g := AN.ap1 g) S (Post.bind S h) fun x e2 F2 H2 v s2 m2 o2 rv k2 => ?_
  obtain ⟨a, z, ea, ez, k3⟩ := k2.ap1
  refine hp F2 H2 a z v Q m2.hold (m2.view rv ea) ez fun u F3 H3 s3 h3 rz => ?_
  have m3 := m2.step0 s3 h3
  exact k3 F3 H3 s3.any m3 (EnvLe.refl _) F3 H3 (Step.refl _ _ _) m3 (EnvLe.refl _) u rz
theorem opO1 {g : D → Option O} {r : V → Hp → VK → Prop} {ma : M Opd} (hp : PrimO1 B g r) (h : tO B W (mB1 g ma) σ H Q) : tE B W ma σ H fun x H1 => r x H1 Q := by
  obtain ⟨F, env, S, h⟩ := h
  refine tE.one (g := AN.ap1 g) S h fun x e2 F2 H2 v s2 m2 o2 rv k2 => ?_
  obtain ⟨a, z, ea, ez, k3⟩ := k2.ap1
  refine hp F2 H2 a z v Q m2.hold (m2.view rv ea) ez fun p H3 s3 h3 hn ho => ?_
  have m3 := m2.step0 s3 h3
  exact k3 F2 H3 s3.any m3 (EnvLe.refl _) p (s2.back hn) (m2.hold.none hn) ho

variable {a b c e : Expr} {ma mb mc : M Opd} {pos : Pos}
theorem de_bin {op : Operator} {g : D → D → Option D} {r : R2} (ho : OpR X (binaryOp op) r) (hp : Prim2 B g r) (ha : DE B X W a ma) (hb : DE B X W b mb) : DE B X W (.BinOp a op b pos) (mD (mB2 g ma mb)) :=
  PE.imp (pe_op ho ha hb) fun _ _ _ h => op2 hp h
theorem do_bin {op : Operator} {g : D → D → Option O} {r : R2} (ho : OpR X (binaryOp op) r) (hp : PrimO2 B g r) (ha : DE B X W a ma) (hb : DE B X W b mb) : DO B X W (.BinOp a op b pos) (mB2 g ma mb) :=
  PE.imp (pe_op ho ha hb) fun _ _ _ h => opO2 hp h
theorem de_un {op : UnaryOp} {g : D → Option D} {r : V → Hp → VK → Prop} (ho : UnR X (unaryOp op) r) (hp : Prim1 B g r) (ha : DE B X W a ma) : DE B X W (.UnaryOp op a pos) (mD (mB1 g ma)) :=
  PE.imp (pe_un ho ha) fun _ _ _ h => op1 hp h
theorem de_cmp {op : CmpOp} {g : D → D → Option D} {r : R2} (ho : OpR X (compareOp op) r) (hp : Prim2 B g r) (ha : DE B X W a ma) (hb : DE B X W b mb) (hm : behindInMarks op b = false) : DE B X W (.Compare a [op] [b] pos) (mD (mB2 g ma mb)) :=
  PE.imp (pe_cmpR ho ha hb hm) fun _ _ _ h => op2 hp h
theorem de_ix {g : D → D → Option D} {r : R2} (hr : IxR X r) (hp : Prim2 B g r) (ha : DE B X W a ma) (hb : DE B X W b mb) (hs : PlainIx b) : DE B X W (.Subscript a b pos) (mD (mB2 g ma mb)) :=
  PE.imp (pe_ix hr ha hb hs) fun _ _ _ h => op2 hp h

theorem Post.from {α : Type} {k : α → Env → Hp → Hp → Prop} {r : R α} {F1 H1 : Hp} (h : Post B W F env σ H k r) (st : Step (Own env σ) F H F1 H1) : Post B W F1 env σ H1 k r := by
  have tr : ∀ {F2 H2 : Hp}, Step (Own env σ) F1 H1 F2 H2 → Step (Own env σ) F H F2 H2 := fun s2 => st.trans s2 fun b z => .inl z
  cases r with
  | bad => exact h
  | ok a e => exact fun F2 H2 s2 m2 o2 => h F2 H2 (tr s2) m2 o2
  | exc c d e =>
    obtain ⟨C, fld, hb, h⟩ := h
    exact ⟨C, fld, hb, fun F2 H2 dx v s2 m2 hd hf h0 r => h F2 H2 dx v (tr s2) m2 hd hf (st.back h0) r⟩
/-! ### constants, names -/
def mC (d : D) : M Opd := M.pure (.d d)
theorem tE_c {d : D} {v : V} (hv : ∀ F : Hp, Rep B F d v) (h : tE B W (mC d) σ H Q) : Q v H := by
  obtain ⟨F, env, S, h⟩ := h
  exact h F H (Step.refl _ _ _) S (EnvLe.refl _) v (hv F)
theorem de_int {i : Int} {j} : DE B X W (.Constant (.int i) j pos) (mC (.int i)) := PE.imp pe_int fun _ _ _ h => tE_c (d := .int i) (fun _ => rfl) h
theorem de_bl {b : Bool} {j} : DE B X W (.Constant (.bool b) j pos) (mC (.bl b)) := PE.imp pe_bl fun _ _ _ h => tE_c (d := .bl b) (fun _ => rfl) h
theorem de_non {j} : DE B X W (.Constant .none j pos) (mC .non) := PE.imp pe_non fun _ _ _ h => tE_c (d := .non) (fun _ => rfl) h
theorem de_str {x : Str} {j} (hl : okS x) : DE B X W (.Constant (.str x) j pos) (mC (.str x)) := PE.imp pe_str fun _ _ _ h => tE_c (d := .str x) (fun _ => ⟨rfl, hl⟩) h
def mV (i : Nat) : M Opd := fun env => match env[i]? with
  | some (.fz d) => .ok (.d d) env
  | some (.ow _ _) => .ok (.sl i) env
  | _ => .bad
theorem tE_v {i : Nat} (h : tE B W (mV i) σ H Q) : tVar i σ H Q := by
  obtain ⟨F, env, S, h⟩ := h
  unfold mV at h
  cases e : env[i]? with
  | none => rw [e] at h; exact h.elim
  | some s =>
    rw [e] at h
    cases s with
    | no => exact h.elim
    | fz d =>
      obtain ⟨v, h1, h2⟩ := S.fz i d e
      exact ⟨v, h1, h F H (Step.refl _ _ _) S (EnvLe.refl _) v h2⟩
    | ow k o =>
      obtain ⟨p, h1, _⟩ := S.ow i k o e
      exact ⟨.ref p, h1, h F H (Step.refl _ _ _) S (EnvLe.refl _) (.ref p) h1⟩
theorem dv (i : Nat) {x : Str} (hN : X.N[i]? = some x := by rfl) (hv : Vis X.env.scope x := by first | exact Or.inl rfl | exact Or.inr (Or.inl rfl) | exact Or.inr (Or.inr rfl)) (hd : (x == ("__debug__" : Str)) = false := by decide)
    (hcd : (x == ("__classdict__" : Str)) = false := by decide) : DE B X W (.Name x pos) (mV i) := PE.imp (pe_var hN hv hd hcd) fun _ _ _ h => tE_v h
/-- a constant of the module -/
theorem de_glob {x : Str} {v : V} {u : Value} {d : D} (hg : Gl X x) (hm : X.mg x = some u) (r : RelV v u) (hv : ∀ F : Hp, Rep B F d v) (hd : (x == ("__debug__" : Str)) = false := by decide) : DE B X W (.Name x pos) (mC d) :=
  PE.imp (pe_glob hg hm r hd) fun _ _ _ h => tE_c hv h

/-! ### tests -/
def truth : D → Option Bool
  | .non => some false
  | .bl b => some b
  | .int i => some (i != 0)
  | .str s => some ((s.length : Int) != 0)
  | .lst xs => some (!xs.isEmpty)
  | .tup xs => some (!xs.isEmpty)
  | _ => none
theorem RepL.isEmpty {ds : List D} {vs : List V} (h : RepL B F ds vs) : vs.isEmpty = ds.isEmpty := by
  cases ds with
  | nil => rw [show vs = [] from h]; rfl
  | cons d ds => obtain ⟨v, r, rfl, _⟩ := h; rfl
theorem Seen.tru {K : PySem.W.Frag} {d : D} {v : V} {k : Bool} (hK : K = B.K) (hh : Holds F H) (h : Seen B F H d v) (e : truth d = some k) : TruV K v H k := by
  subst hK
  cases d with
  | non => cases e; cases (show v = .non from h); exact rfl
  | bl b => cases e; cases (show v = .bl _ from h); exact rfl
  | int i => cases e; cases (show v = .int _ from h); exact rfl
  | str s => cases e; obtain ⟨rfl, hl⟩ := h; exact ⟨hl.1, rfl⟩
  | lst xs => cases e; obtain ⟨p, vs, rfl, a, z, r⟩ := h; exact .inl ⟨vs, a, by rw [r.isEmpty]⟩
  | tup xs => cases e; obtain ⟨p, vs, rfl, a, z, r⟩ := h; exact .inr (.inl ⟨vs, a.sq hh, by rw [r.isEmpty]⟩)
  | dic _ => cases e
  | obj _ _ => cases e
def mT (m : M Opd) : M Bool := mB1 truth m
theorem dt_val (hK : X.K = B.K) (ha : DE B X W a ma) (he : ∀ whole, isTrue a X.env whole = (do let v ← whole; standAt a.pos; holding [v] (truthy v)) := by intro _; rfl) : DT B X W a (mT ma) :=
  PT.imp (pt_truth ha he) fun σ H Q h => by
    obtain ⟨F, env, S, h⟩ := h
    refine tE.one (g := AN.ap1 truth) S h fun x e2 F2 H2 v s2 m2 o2 rv k2 => ?_
    obtain ⟨a, z, ea, ez, k3⟩ := k2.ap1
    exact ⟨z, (m2.view rv ea).tru hK m2.hold ez, k3 F2 H2 (Step.refl _ _ _) m2 (EnvLe.refl _)⟩
/-- a comparison as a test: its answer is a bool -/
def blOf : D → Option Bool
  | .bl b => some b
  | _ => none
def g2b (g : D → D → Option D) (a b : D) : Option Bool := (g a b).bind blOf
theorem dt_cmp {op : CmpOp} {g : D → D → Option D} {r : R2} (ho : OpR X (compareOp op) r) (hp : Prim2 B g r) (ha : DE B X W a ma) (hb : DE B X W b mb) (hm : behindInMarks op b = false) : DT B X W (.Compare a [op] [b] pos) (mB2 (g2b g) ma mb) :=
  PT.imp (pt_cmpR ho ha hb hm) fun σ H Q h => by
    obtain ⟨F, env, S, h⟩ := h
    refine tE.two (g := AN.ap2 (g2b g)) S h fun x y e2 F2 H2 v w s2 m2 o2 rv rw k2 => ?_
    obtain ⟨a, b, z, ea, eb, ez, k3⟩ := k2.ap2
    unfold g2b at ez
    obtain ⟨d, e1, e2⟩ := Option.bind_eq_some_iff.mp ez
    cases d with
    | bl k =>
      cases e2
      refine hp F2 H2 a b _ v w _ m2.hold (m2.view rv ea) (m2.view rw eb) e1 fun u F3 H3 s3 h3 rz => ?_
      exact ⟨z, rz, k3 F3 H3 s3.any (m2.step0 s3 h3) (EnvLe.refl _)⟩
    | _ => cases e2
def mAnd (m n : M Bool) : M Bool := M.bind m fun c => if c = true then n else M.pure false
def mOr (m n : M Bool) : M Bool := M.bind m fun c => if c = true then M.pure true else n
def mNot (m : M Bool) : M Bool := M.bind m fun c => M.pure (!c)
variable {ta tb : M Bool} {rest : List Expr}
theorem tT.bind {m : M Bool} {α : Type} {g : Bool → M α} {k : α → Env → Hp → Hp → Prop} {R : Bool → Hp → Prop} (S : Sim B F env σ H) (h : Post B W F env σ H k (M.bind m g env))
    (i : ∀ c e1 F1 H1, Step (Own env σ) F H F1 H1 → Sim B F1 e1 σ H1 → EnvLe env e1 → Post B W F1 e1 σ H1 k (g c e1) → R c H1) : tT B W m σ H R :=
  ⟨F, env, S, (Post.bind S h).mono fun c e1 F1 H1 s1 m1 o1 k1 => i c e1 F1 H1 s1 m1 o1 k1⟩
theorem Post.here {α : Type} {k : α → Env → Hp → Hp → Prop} {z : α} (S : Sim B F env σ H) (h : Post B W F env σ H k (.ok z env)) : k z env F H := h F H (Step.refl _ _ _) S (EnvLe.refl _)
theorem dw_and1 (ha : DT B X W a ta) : DW B X W (.BoolOp .And [a] pos) ta := pw_and1 ha
theorem dw_or1 (ha : DT B X W a ta) : DW B X W (.BoolOp .Or [a] pos) ta := pw_or1 ha
theorem dw_and (ha : DT B X W a ta) (hb : DW B X W (.BoolOp .And (b :: rest) pos) tb) : DW B X W (.BoolOp .And (a :: b :: rest) pos) (mAnd ta tb) :=
  PW.imp (pw_and ha hb) fun σ H Q h => by
    obtain ⟨F, env, S, h⟩ := h
    refine tT.bind S h fun c e1 F1 H1 s1 m1 o1 k1 => ?_
    cases c with
    | true => exact iteT ⟨F1, e1, m1, k1⟩
    | false => exact iteF (Post.here m1 k1)
theorem dw_or (ha : DT B X W a ta) (hb : DW B X W (.BoolOp .Or (b :: rest) pos) tb) : DW B X W (.BoolOp .Or (a :: b :: rest) pos) (mOr ta tb) :=
  PW.imp (pw_or ha hb) fun σ H Q h => by
    obtain ⟨F, env, S, h⟩ := h
    refine tT.bind S h fun c e1 F1 H1 s1 m1 o1 k1 => ?_
    cases c with
    | false => exact iteF ⟨F1, e1, m1, k1⟩
    | true => exact iteT (Post.here m1 k1)
theorem dt_w (h : DW B X W a ta) : DT B X W a ta := PW.pt h
theorem dt_not (ha : DT B X W a ta) : DT B X W (.UnaryOp .Not a pos) (mNot ta) :=
  PT.imp (pt_not ha) fun σ H Q h => by
    obtain ⟨F, env, S, h⟩ := h
    exact tT.bind S h fun c e1 F1 H1 s1 m1 o1 k1 => Post.here m1 k1
/-- and, or, not as values: bools -/
def mAndV (m n : M Opd) : M Opd := M.bind (mB1 blOf m) fun c => if c = true then n else mC (.bl false)
def mOrV (m n : M Opd) : M Opd := M.bind (mB1 blOf m) fun c => if c = true then mC (.bl true) else n
def mNotV (m : M Opd) : M Opd := M.bind (mB1 blOf m) fun c => mC (.bl (!c))
theorem tE.blb {m : M Opd} {α : Type} {g : Bool → M α} {k : α → Env → Hp → Hp → Prop} {R : V → Hp → Prop} (S : Sim B F env σ H) (h : Post B W F env σ H k (M.bind (mB1 blOf m) g env))
    (i : ∀ c e1 F1 H1, Step (Own env σ) F H F1 H1 → Sim B F1 e1 σ H1 → EnvLe env e1 → Post B W F1 e1 σ H1 k (g c e1) → R (.bl c) H1) : tE B W m σ H R := by
  refine tE.one (g := AN.ap1 blOf) S (Post.bind S h) fun x e2 F2 H2 v s2 m2 o2 rv k2 => ?_
  obtain ⟨a, z, ea, ez, k3⟩ := k2.ap1
  cases a with
  | bl c =>
    cases ez
    cases (show v = .bl _ from m2.view rv ea)
    exact i _ e2 F2 H2 s2 m2 o2 (Post.here m2 k3)
  | _ => cases ez
theorem de_one {op} (ha : DE B X W a ma) : DE B X W (.BoolOp op [a] pos) ma := pe_one ha
theorem de_and (ha : DE B X W a ma) (hb : DE B X W (.BoolOp .And (b :: rest) pos) mb) : DE B X W (.BoolOp .And (a :: b :: rest) pos) (mAndV ma mb) :=
  PE.imp (pe_and ha hb) fun σ H Q h => by
    obtain ⟨F, env, S, h⟩ := h
    refine tE.blb S h fun c e1 F1 H1 s1 m1 o1 k1 => ⟨c, rfl, ?_⟩
    cases c with
    | true => exact iteT ⟨F1, e1, m1, k1⟩
    | false => exact iteF (Post.here m1 k1 (.bl false) rfl)
theorem de_or (ha : DE B X W a ma) (hb : DE B X W (.BoolOp .Or (b :: rest) pos) mb) : DE B X W (.BoolOp .Or (a :: b :: rest) pos) (mOrV ma mb) :=
  PE.imp (pe_or ha hb) fun σ H Q h => by
    obtain ⟨F, env, S, h⟩ := h
    refine tE.blb S h fun c e1 F1 H1 s1 m1 o1 k1 => ⟨c, rfl, ?_⟩
    cases c with
    | false => exact iteF ⟨F1, e1, m1, k1⟩
    | true => exact iteT (Post.here m1 k1 (.bl true) rfl)
theorem de_not (ha : DE B X W a ma) : DE B X W (.UnaryOp .Not a pos) (mNotV ma) :=
  PE.imp (pe_not ha) fun σ H Q h => by
    obtain ⟨F, env, S, h⟩ := h
    exact tE.blb S h fun c e1 F1 H1 s1 m1 o1 k1 => ⟨c, rfl, Post.here m1 k1 _ rfl⟩
def mIf {α : Type} (t : M Bool) (m n : M α) : M α := M.bind t fun c => if c = true then m else n
theorem de_if (hc : DT B X W c ta) (ha : DE B X W a ma) (hb : DE B X W b mb) : DE B X W (.IfExp c a b pos) (mIf ta ma mb) :=
  PE.imp (pe_ifExp hc ha hb) fun σ H Q h => by
    obtain ⟨F, env, S, h⟩ := h
    refine tT.bind S h fun c e1 F1 H1 s1 m1 o1 k1 => ?_
    cases c with
    | true => exact iteT ⟨F1, e1, m1, k1⟩
    | false => exact iteF ⟨F1, e1, m1, k1⟩
/-- a < b < c -/
def mChain (g g' : D → D → Option D) (ma mb mc : M Opd) : M Opd := M.bind ma fun x => M.bind mb fun y => M.bind (ap2 (g2b g) x y) fun k => if k = true then M.bind mc fun z => mD (ap2 g' y z) else mC (.bl false)
theorem chain_ok {g g' : D → D → Option D} {r r' : R2} (hp : Prim2 B g r) (hp' : Prim2 B g' r') (h : tE B W (mChain g g' ma mb mc) σ H Q) : tChain r r' (tE B W ma) (tE B W mb) (tE B W mc) σ H Q := by
  obtain ⟨F, env, S, h⟩ := h
  refine tE.two S h fun x y e2 F2 H2 v w s2 m2 o2 rv rw k2 => ?_
  have k2' := Post.bind m2 k2
  obtain ⟨a, b, z, ea, eb, ez, k3⟩ := k2'.ap2
  have k3 := Post.here m2 k3
  unfold g2b at ez
  obtain ⟨d, e1, e2⟩ := Option.bind_eq_some_iff.mp ez
  cases d with
  | bl k =>
    cases e2
    refine hp F2 H2 a b _ v w _ m2.hold (m2.view rv ea) (m2.view rw eb) e1 fun u F3 H3 s3 h3 rz => ⟨z, rz, ?_⟩
    have m3 := m2.step0 s3 h3
    cases z with
    | false => exact iteF (k3 F3 H3 s3.any m3 (EnvLe.refl _) _ rfl)
    | true =>
      refine iteT ?_
      refine tE.one m3 (k3.from s3.any) fun zz e4 F4 H4 w' s4 m4 o4 rw' k4 => ?_
      obtain ⟨a', b', z', ea', eb', ez', k5⟩ := (Post.bind m4 k4).ap2
      refine hp' F4 H4 a' b' z' w w' _ m4.hold (m4.view (rw.mono (s3.le.trans s4.le)) ea') (m4.view rw' eb') ez' fun u5 F5 H5 s5 h5 r5 => ?_
      have m5 := m4.step0 s5 h5
      exact k5 F5 H5 s5.any m5 (EnvLe.refl _) F5 H5 (Step.refl _ _ _) m5 (EnvLe.refl _) u5 r5
  | _ => cases e2
theorem de_chain {op op' : CmpOp} {g g' : D → D → Option D} {r r' : R2} (ho : OpR X (compareOp op) r) (hp : Prim2 B g r) (ho' : OpR X (compareOp op') r') (hp' : Prim2 B g' r') (ha : DE B X W a ma) (hb : DE B X W b mb) (hc : DE B X W c mc)
    (hm : lastMarks [op, op'] [b, c] = false := by with_unfolding_all rfl) : DE B X W (.Compare a [op, op'] [b, c] pos) (mChain g g' ma mb mc) := PE.imp (pe_chain ho ho' ha hb hc hm) fun _ _ _ h => chain_ok hp hp' h
end
end AN

set_option Elab.async false
set_option maxRecDepth 100000
set_option autoImplicit false
set_option linter.unusedVariables false
namespace AN
open PySem L2

/-! ### an object becomes data -/
theorem OAt.data {B : Bx} {F H : Hp} {p : Addr} {o : O} (h : OAt B F H p o) (hf : F p = none) : ∃ u, H p = some u ∧ Rep B (upd F p u) o.toD (.ref p) := by
  have l : ∀ u, Le F (upd F p u) := fun u => Le.upd hf
  cases o with
  | lst xs => obtain ⟨z, vs, e, r⟩ := h; exact ⟨_, e, p, vs, rfl, .inl upd_same, z, r.mono (l _)⟩
  | dic xs => obtain ⟨z, vs, e, r⟩ := h; exact ⟨_, e, p, vs, rfl, upd_same, z, r.mono (l _)⟩
  | obj c fs => obtain ⟨C, dx, gs, hc, e, r⟩ := h; exact ⟨_, e, p, C, dx, gs, rfl, hc, upd_same, r.mono (l _)⟩
theorem Holds.add {F H : Hp} {p : Addr} {u : HO} (hh : Holds F H) (e : H p = some u) : Holds (upd F p u) H := fun b w q => by
  by_cases h : b = p
  · subst h; rw [upd_same] at q; cases q; exact .inl e
  · rw [upd_ne h] at q; exact hh b w q
/-- .. one that no name holds -/
theorem Sim.data {B : Bx} {F H : Hp} {env : Env} {σ : St} {p : Addr} {u : HO} (S : Sim B F env σ H) (hp : ¬ Own env σ p) (hf : F p = none) (e : H p = some u) : Sim B (upd F p u) env σ H where
  hold := S.hold.add e
  len := S.len
  fz := fun i d q => let ⟨v, a, b⟩ := S.fz i d q; ⟨v, a, Rep.mono (Le.upd hf) d v b⟩
  ow := fun i k o q => by
    obtain ⟨b, h1, h2, h3⟩ := S.ow i k o q
    have ne : b ≠ p := fun z => hp ⟨i, k, o, q, by rw [← z]; exact h1⟩
    exact ⟨b, h1, by rw [upd_ne ne]; exact h2, h3.mono (Le.upd hf) fun _ z => z⟩
  sep := S.sep
/-- .. the one of a name -/
theorem getElem?_setS {α : Type} {l : List α} {i j : Nat} {x y : α} (h : (l.set i x)[j]? = some y) : (i = j ∧ y = x) ∨ (i ≠ j ∧ l[j]? = some y) := by
  by_cases e : i = j
  · subst e
    by_cases hl : i < l.length
    · rw [List.getElem?_set_self hl] at h
      exact .inl ⟨rfl, (Option.some.inj h).symm⟩
    · rw [List.getElem?_eq_none (by simpa using hl)] at h; cases h
  · rw [List.getElem?_set_ne e] at h
    exact .inr ⟨e, h⟩
theorem Sim.freeze {B : Bx} {F H : Hp} {env : Env} {σ : St} {i : Nat} {o : O} {v : V} (S : Sim B F env σ H) (hi : env[i]? = some (.ow false o)) (hv : σ[i]? = some (some v)) :
    ∃ F', Step (Own env σ) F H F' H ∧ Sim B F' (env.set i (.fz o.toD)) σ H ∧ Rep B F' o.toD v ∧ EnvLe env (env.set i (.fz o.toD)) := by
  obtain ⟨p, h1, h2, h3⟩ := S.ow i false o hi
  rw [hv] at h1; cases h1
  obtain ⟨u, hu, r⟩ := h3.data h2
  have l : Le F (upd F p u) := Le.upd h2
  refine ⟨upd F p u, ⟨l, fun _ _ e _ => e, fun b w e => ?_, fun _ o e => ⟨o, e⟩⟩, ⟨S.hold.add hu, by rw [List.length_set]; exact S.len, fun j d q => ?_, fun j k' o' q => ?_, fun j j' k1 o1 k2 o2 q a1 a2 b1 b2 => ?_⟩, r, ⟨fun j k' o' q => ?_, fun j o' q => ?_⟩⟩
  · by_cases e' : b = p
    · subst e'; exact .inr (.inr ⟨i, false, o, hi, hv⟩)
    · rw [upd_ne e'] at e; exact .inl e
  · rcases getElem?_setS q with ⟨rfl, e⟩ | ⟨_, e⟩
    · cases e; exact ⟨_, hv, r⟩
    · obtain ⟨v, a, b⟩ := S.fz j d e
      exact ⟨v, a, Rep.mono l d v b⟩
  · rcases getElem?_setS q with ⟨rfl, e⟩ | ⟨ne, e⟩
    · cases e
    · obtain ⟨b, c1, c2, c3⟩ := S.ow j k' o' e
      have nb : b ≠ p := fun z => ne (S.sep i j false o k' o' p hi e hv (by rw [← z]; exact c1))
      exact ⟨b, c1, by rw [upd_ne nb]; exact c2, c3.mono l fun _ z => z⟩
  · rcases getElem?_setS a1 with ⟨_, e⟩ | ⟨_, e1⟩
    · cases e
    rcases getElem?_setS a2 with ⟨_, e⟩ | ⟨_, e2⟩
    · cases e
    exact S.sep j j' k1 o1 k2 o2 q e1 e2 b1 b2
  · rcases getElem?_setS q with ⟨_, e⟩ | ⟨_, e⟩
    · cases e
    · exact ⟨o', e⟩
  · refine ⟨o', ?_⟩
    have ne : i ≠ j := fun z => by
      subst z
      rw [hi] at q; cases q
    rw [List.getElem?_set_ne ne]
    exact q
def frz1 (x : Opd) : M D := fun env => match x with
  | .d d => .ok d env
  | .sl i => match env[i]? with
    | some (.fz d) => .ok d env
    | some (.ow false o) => .ok o.toD (env.set i (.fz o.toD))
    | _ => .bad
theorem Sim.frz1 {B : Bx} {W : WX} {F H : Hp} {env : Env} {σ : St} {v : V} {x : Opd} {k : D → Env → Hp → Hp → Prop} (S : Sim B F env σ H) (r : OpdRel B F σ v x) (h : Post B W F env σ H k (AN.frz1 x env)) :
    ∃ d e1 F1, Step (Own env σ) F H F1 H ∧ Sim B F1 e1 σ H ∧ EnvLe env e1 ∧ Rep B F1 d v ∧ k d e1 F1 H := by
  cases x with
  | d d => exact ⟨d, env, F, Step.refl _ _ _, S, EnvLe.refl _, r, h F H (Step.refl _ _ _) S (EnvLe.refl _)⟩
  | sl i =>
    unfold AN.frz1 at h
    have r : σ[i]? = some (some v) := r
    cases q : env[i]? with
    | none => simp only [q] at h; exact h.elim
    | some s =>
      cases s with
      | no => simp only [q] at h; exact h.elim
      | fz d =>
        simp only [q] at h
        obtain ⟨u, a, b⟩ := S.fz i d q
        rw [r] at a; cases a
        exact ⟨d, env, F, Step.refl _ _ _, S, EnvLe.refl _, b, h F H (Step.refl _ _ _) S (EnvLe.refl _)⟩
      | ow pk o =>
        cases pk with
        | true => simp only [q] at h; exact h.elim
        | false =>
          simp only [q] at h
          obtain ⟨F1, st, m1, rd, ole⟩ := S.freeze q r
          exact ⟨_, _, F1, st, m1, ole, rd, h F1 H st m1 ole⟩
def frzs : List Opd → M (List D)
  | [] => M.pure []
  | x :: xs => M.bind (frz1 x) fun d => M.bind (frzs xs) fun ds => M.pure (d :: ds)
theorem Sim.frzs {B : Bx} {W : WX} {H : Hp} {σ : St} : ∀ {xs : List Opd} {F : Hp} {env : Env} {vs : List V} {k : List D → Env → Hp → Hp → Prop}, Sim B F env σ H → OpdsRel B F σ vs xs → Post B W F env σ H k (AN.frzs xs env) →
    ∃ ds e1 F1, Step (Own env σ) F H F1 H ∧ Sim B F1 e1 σ H ∧ EnvLe env e1 ∧ RepL B F1 ds vs ∧ k ds e1 F1 H
  | [], F, env, _, k, S, .nil, h => ⟨[], env, F, Step.refl _ _ _, S, EnvLe.refl _, rfl, h F H (Step.refl _ _ _) S (EnvLe.refl _)⟩
  | x :: xs, F, env, _, k, S, .cons r rs, h => by
    obtain ⟨d, e1, F1, s1, m1, o1, r1, h1⟩ := S.frz1 r (Post.bind S h)
    obtain ⟨ds, e2, F2, s2, m2, o2, r2, h2⟩ := m1.frzs (rs.mono s1.le) (Post.bind m1 h1)
    exact ⟨d :: ds, e2, F2, s1.trans s2 fun b z => .inl (o1.own z), m2, o1.trans o2, ⟨_, _, rfl, Rep.mono s2.le d _ r1, r2⟩, h2 F2 H (Step.refl _ _ _) m2 (EnvLe.refl _)⟩

section
variable {B : Bx} {X : Cx} {W : WX} {F H : Hp} {env : Env} {σ : St} {Q : VK} {a b c e : Expr} {ma mb mc : M Opd} {pos : Pos} {es : List Expr} {ms : M (List Opd)}
/-! ### arguments, displays -/
def mA0 : M (List Opd) := M.pure []
def mA (m : M Opd) (ms : M (List Opd)) : M (List Opd) := M.bind m fun x => M.bind ms fun xs => M.pure (x :: xs)
theorem da0 : DA B X W [] mA0 := PA.imp pa_nil fun σ H Q h => by
  obtain ⟨F, env, S, h⟩ := h
  exact Post.here S h [] .nil
theorem da (ha : DE B X W e ma) (hr : DA B X W es ms) (hs : starEach (e :: es) X.env = (false, eval e X.env) :: starEach es X.env := by rfl) : DA B X W (e :: es) (mA ma ms) :=
  PA.imp (pa_cons ha hr hs) fun σ H Q h => by
    obtain ⟨F, env, S, h⟩ := h
    refine tE.one S h fun x e1 F1 H1 v s1 m1 o1 rv k1 => ⟨F1, e1, m1, (Post.bind m1 k1).mono fun xs e2 F2 H2 s2 m2 o2 k2 vs rvs => ?_⟩
    exact Post.here m2 k2 (v :: vs) (.cons (rv.mono s2.le) rvs)
def lim {α : Type} (n : Nat) (m : M α) : M α := fun env => if n ≤ sizeLine then m env else .bad
theorem Post.lim {α : Type} {n : Nat} {m : M α} {k : α → Env → Hp → Hp → Prop} (h : Post B W F env σ H k (lim n m env)) : n ≤ sizeLine ∧ Post B W F env σ H k (m env) := by
  unfold AN.lim at h
  by_cases e : n ≤ sizeLine
  · rw [if_pos e] at h; exact ⟨e, h⟩
  · rw [if_neg e] at h; exact h.elim
def mTup (ms : M (List Opd)) : M Opd := M.bind ms fun xs => M.bind (frzs xs) fun ds => lim ds.length (M.pure (.d (.tup ds)))
def mLst (ms : M (List Opd)) : M O := M.bind ms fun xs => M.bind (frzs xs) fun ds => lim ds.length (M.pure (.lst ds))
theorem de_tup {k} (h : DA B X W es ms) : DE B X W (.Tuple es k pos) (mTup ms) := PE.imp (pe_tup h) fun σ H Q h => by
  obtain ⟨F, env, S, h⟩ := h
  refine ⟨F, env, S, (Post.bind S h).mono fun xs e1 F1 H1 s1 m1 o1 k1 vs rvs => ?_⟩
  obtain ⟨ds, e2, F2, s2, m2, o2, r2, k2⟩ := m1.frzs rvs (Post.bind m1 k1)
  obtain ⟨hz, k2⟩ := k2.lim
  refine ⟨by rw [r2.length]; exact hz, fun p hp => ?_⟩
  obtain ⟨s3, h3⟩ := step0_new (u := .tup vs) m2.hold hp
  have m3 := m2.step0 s3 h3
  exact k2 _ _ s3.any m3 (EnvLe.refl _) (.ref p) ⟨p, vs, rfl, .inl upd_same, hz, r2.mono s3.le⟩
theorem do_lst (h : DA B X W es ms) : DO B X W (.List es pos) (mLst ms) := PE.imp (pe_lst h) fun σ H Q h => by
  obtain ⟨F, env, S, h⟩ := h
  refine ⟨F, env, S, (Post.bind S h).mono fun xs e1 F1 H1 s1 m1 o1 k1 vs rvs => ?_⟩
  obtain ⟨ds, e2, F2, s2, m2, o2, r2, k2⟩ := m1.frzs rvs (Post.bind m1 k1)
  obtain ⟨hz, k2⟩ := k2.lim
  refine ⟨by rw [r2.length]; exact hz, fun p hp => ?_⟩
  obtain ⟨s3, h3⟩ := step0_mk (u := .lst vs) m2.hold hp
  have m3 := m2.step0 s3 h3
  exact k2 _ _ s3.any m3 (EnvLe.refl _) p (s1.back hp) (m2.hold.none hp) ⟨hz, vs, upd_same, r2⟩
/-- a new object used as data -/
def mFz (m : M O) : M Opd := M.bind m fun o => M.pure (.d o.toD)
theorem Post.bindPure {α β : Type} {m : M α} {f : α → β} {k : β → Env → Hp → Hp → Prop} (h : Post B W F env σ H k (M.bind m (fun a => M.pure (f a)) env)) :
    Post B W F env σ H (fun a e1 _ _ => ∀ F2 H2, Step (Own env σ) F H F2 H2 → Sim B F2 e1 σ H2 → k (f a) e1 F2 H2) (m env) := by
  unfold M.bind at h
  cases q : m env with
  | bad => rw [q] at h; exact h
  | exc c d e' => rw [q] at h; exact h
  | ok a e1 =>
    rw [q] at h
    exact fun F1 H1 _ _ o1 F2 H2 s2 m2 => h F2 H2 s2 m2 o1
theorem de_o {m : M O} (h : DO B X W e m) : DE B X W e (mFz m) := PE.imp h fun σ H Q h => by
  obtain ⟨F, env, S, h⟩ := h
  refine ⟨F, env, S, (Post.bindPure h).mono fun o e1 F1 H1 s1 m1 o1 k1 p hp hf ho => ?_⟩
  have np : ¬ Own e1 σ p := fun z => by
    obtain ⟨_, u, hu⟩ := (o1.own z).ex S
    rw [hp] at hu; cases hu
  obtain ⟨u, hu, r⟩ := ho.data hf
  refine k1 (upd F1 p u) H1 ⟨s1.le.trans (Le.upd hf), s1.keep, fun b w q => ?_, s1.stay⟩ (m1.data np hf hu) (.ref p) r
  by_cases hb : b = p
  · subst hb; exact .inr (.inl hp)
  · rw [upd_ne hb] at q; exact s1.new b w q
end
end AN

set_option Elab.async false
set_option maxRecDepth 100000
set_option autoImplicit false
set_option linter.unusedVariables false
namespace AN
open PySem L2

/-! ### statements -/
inductive Fl where
  | nx | bk | ct
  | rt (d : D)
  | ro (o : O)
/-- from (F, env, σ, H) to (F', env', σ', H') -/
structure Go (B : Bx) (F : Hp) (env : Env) (σ : St) (H F' : Hp) (env' : Env) (σ' : St) (H' : Hp) : Prop where
  step : Step (Own env σ) F H F' H'
  sim : Sim B F' env' σ' H'
  own : ∀ b, OwnU env' σ' b → OwnU env σ b ∨ H b = none
  pin : ∀ (i : Nat) (o : O), env[i]? = some (.ow true o) → (∃ o', env'[i]? = some (.ow true o')) ∧ σ'[i]? = σ[i]?
  unpin : ∀ (i : Nat) (o : O), env'[i]? = some (.ow true o) → ∃ o', env[i]? = some (.ow true o')
  len : σ'.length = σ.length
section
variable {B : Bx} {X : Cx} {W : WX} {F H F1 H1 F2 H2 : Hp} {env e1 e2 : Env} {σ σ1 σ2 : St}
theorem Go.refl (S : Sim B F env σ H) : Go B F env σ H F env σ H := ⟨Step.refl _ _ _, S, fun _ z => .inl z, fun _ o h => ⟨⟨o, h⟩, rfl⟩, fun _ o h => ⟨o, h⟩, rfl⟩
theorem Go.owned (g : Go B F env σ H F1 e1 σ1 H1) {b : Addr} (h : Own e1 σ1 b) : Own env σ b ∨ H b = none := by
  obtain ⟨i, k, o, h1, h2⟩ := h
  cases k with
  | true =>
    obtain ⟨o', h'⟩ := g.unpin i o h1
    obtain ⟨_, e⟩ := g.pin i o' h'
    exact .inl ⟨i, true, o', h', by rw [← e]; exact h2⟩
  | false =>
    rcases g.own b ⟨i, o, h1, h2⟩ with z | z
    · exact .inl z.own
    · exact .inr z
theorem Go.trans (g : Go B F env σ H F1 e1 σ1 H1) (g' : Go B F1 e1 σ1 H1 F2 e2 σ2 H2) : Go B F env σ H F2 e2 σ2 H2 where
  step := g.step.trans g'.step fun b z => g.owned z
  sim := g'.sim
  own := fun b z => by
    rcases g'.own b z with z | z
    · exact g.own b z
    · exact .inr (g.step.back z)
  pin := fun i o h => by
    obtain ⟨⟨o', h'⟩, e⟩ := g.pin i o h
    obtain ⟨h'', e'⟩ := g'.pin i o' h'
    exact ⟨h'', e'.trans e⟩
  unpin := fun i o h => let ⟨o', h'⟩ := g'.unpin i o h; g.unpin i o' h'
  len := g'.len.trans g.len
theorem EnvLe.ownU {e e1 : Env} (a : EnvLe e e1) {σ : St} {b : Addr} (h : OwnU e1 σ b) : OwnU e σ b := by
  obtain ⟨i, o, h1, h2⟩ := h
  obtain ⟨o', h'⟩ := a.dn i false o h1
  exact ⟨i, o', h', h2⟩
theorem Go.of (s : Step (Own env σ) F H F1 H1) (m : Sim B F1 e1 σ H1) (l : EnvLe env e1) : Go B F env σ H F1 e1 σ H1 :=
  ⟨s, m, fun b z => .inl (l.ownU z), fun i o h => ⟨l.up i o h, rfl⟩, fun i o h => l.dn i true o h, rfl⟩

def PostS (B : Bx) (W : WX) (F : Hp) (env : Env) (σ : St) (H : Hp) (D : Ends) : R Fl → Prop
  | .ok .nx e' => ∀ σ' F' H', Go B F env σ H F' e' σ' H' → D.nx σ' H'
  | .ok .bk e' => ∀ σ' F' H', Go B F env σ H F' e' σ' H' → D.bk σ' H'
  | .ok .ct e' => ∀ σ' F' H', Go B F env σ H F' e' σ' H' → D.ct σ' H'
  | .ok (.rt d) e' => ∀ v σ' F' H', Go B F env σ H F' e' σ' H' → Rep B F' d v → D.rt v H'
  | .ok (.ro o) e' => ∀ p σ' F' H', Go B F env σ H F' e' σ' H' → (OwnU env σ p ∨ H p = none) → ¬ Own e' σ' p → F' p = none → OAt B F' H' p o → D.rt (.ref p) H'
  | .exc c d e' => ∃ C fld, B.exc c = some (C, fld) ∧ ∀ σ' F' H' dx v, Go B F env σ H F' e' σ' H' → H' dx = some (.xd [(fld, v)]) → F' dx = none → H dx = none → Rep B F' d v → W (.ref C) (some dx) σ' H'
  | .bad => False
def tS (B : Bx) (W : WX) (m : M Fl) : TS := fun D σ H => ∃ F env, Sim B F env σ H ∧ PostS B W F env σ H D (m env)
abbrev DS (B : Bx) (X : Cx) (W : WX) (st : Stmt) (m : M Fl) : Prop := PS X st (tS B W m)
abbrev DSs (B : Bx) (X : Cx) (W : WX) (st : List Stmt) (m : M Fl) : Prop := PSs X st (tS B W m)
theorem PS.imp {X : Cx} {e : Stmt} {t t' : TS} (h : PS X e t) (i : ∀ D σ H, t' D σ H → t D σ H) : PS X e t' := ⟨fun pins s σ H Q I q => h.run pins s σ H Q I (i Q σ H q)⟩
theorem PSs.imp {X : Cx} {e : List Stmt} {t t' : TS} (h : PSs X e t) (i : ∀ D σ H, t' D σ H → t D σ H) : PSs X e t' := ⟨fun pins s σ H Q I q => h.run pins s σ H Q I (i Q σ H q)⟩
/-- the same ending, from a later state -/
theorem PostS.from {D : Ends} {r : R Fl} (h : PostS B W F env σ H D r) (g : Go B F env σ H F1 e1 σ1 H1) : PostS B W F1 e1 σ1 H1 D r := by
  cases r with
  | bad => exact h
  | exc c d e' =>
    obtain ⟨C, fld, hb, h⟩ := h
    exact ⟨C, fld, hb, fun σ' F' H' dx v g' hd hf h0 r => h σ' F' H' dx v (g.trans g') hd hf (g.step.back h0) r⟩
  | ok f e' =>
    cases f with
    | nx => exact fun σ' F' H' g' => h σ' F' H' (g.trans g')
    | bk => exact fun σ' F' H' g' => h σ' F' H' (g.trans g')
    | ct => exact fun σ' F' H' g' => h σ' F' H' (g.trans g')
    | rt d => exact fun v σ' F' H' g' r => h v σ' F' H' (g.trans g') r
    | ro o =>
      refine fun p σ' F' H' g' r => h p σ' F' H' (g.trans g') ?_
      rcases r with r | r
      · exact g.own p r
      · exact .inr (g.step.back r)
/-- an expression, then the rest of its statement -/
theorem PostS.bind {α : Type} {m : M α} {k : α → M Fl} {D : Ends} (h : PostS B W F env σ H D (M.bind m k env)) : Post B W F env σ H (fun a e1 F1 H1 => PostS B W F1 e1 σ H1 D (k a e1)) (m env) := by
  unfold M.bind at h
  cases e : m env with
  | bad => rw [e] at h; exact h
  | exc c d e' =>
    rw [e] at h
    obtain ⟨C, fld, hb, h⟩ := h
    exact ⟨C, fld, hb, fun F' H' dx v s ⟨m', l⟩ hd hf h0 r => h σ F' H' dx v (Go.of s m' l) hd hf h0 r⟩
  | ok a e1 =>
    rw [e] at h
    intro F1 H1 s1 m1 l1
    exact PostS.from h (Go.of s1 m1 l1)
theorem PostS.here {D : Ends} (S : Sim B F env σ H) (h : PostS B W F env σ H D (.ok .nx env)) : D.nx σ H := h σ F H (Go.refl S)

def mNx : M Fl := M.pure .nx
def mSeq (m n : M Fl) : M Fl := M.bind m fun f => match f with
  | .nx => n
  | f => M.pure f
theorem PostS.seq {m n : M Fl} {D : Ends} (h : PostS B W F env σ H D (mSeq m n env)) : PostS B W F env σ H { D with nx := tS B W n D } (m env) := by
  unfold mSeq M.bind at h
  cases e : m env with
  | bad => rw [e] at h; exact h
  | exc c d e' => rw [e] at h; exact h
  | ok f e1 =>
    rw [e] at h
    cases f with
    | nx => exact fun σ' F' H' g => ⟨F', e1, g.sim, PostS.from h g⟩
    | bk => exact h
    | ct => exact h
    | rt d => exact h
    | ro o => exact h
variable {st : Stmt} {rest : List Stmt} {m n : M Fl} {pos : Pos} {a b c e : Expr} {ma mb mc : M Opd} {ta tb : M Bool}
theorem dss0 : DSs B X W [] mNx := PSs.imp pss_nil fun D σ H h => by
  obtain ⟨F, env, S, h⟩ := h
  exact h σ F H (Go.refl S)
theorem dss (h1 : DS B X W st m) (h2 : DSs B X W rest n) : DSs B X W (st :: rest) (mSeq m n) := PSs.imp (pss_cons h1 h2) fun D σ H h => by
  obtain ⟨F, env, S, h⟩ := h
  exact ⟨F, env, S, h.seq⟩
theorem dss1 (h1 : DS B X W st m) : DSs B X W [st] m := pss_one h1
theorem ds_pass : DS B X W (.Pass pos) mNx := PS.imp ps_pass fun D σ H h => by
  obtain ⟨F, env, S, h⟩ := h
  exact h σ F H (Go.refl S)
theorem ds_break : DS B X W (.Break pos) (M.pure .bk) := PS.imp ps_break fun D σ H h => by
  obtain ⟨F, env, S, h⟩ := h
  exact h σ F H (Go.refl S)
theorem ds_continue : DS B X W (.Continue pos) (M.pure .ct) := PS.imp ps_continue fun D σ H h => by
  obtain ⟨F, env, S, h⟩ := h
  exact h σ F H (Go.refl S)
def mIfS (t : M Bool) (m n : M Fl) : M Fl := M.bind t fun c => if c = true then m else n
theorem ds_if {as bs : List Stmt} (hc : DT B X W c ta) (ha : DSs B X W as m) (hb : DSs B X W bs n) : DS B X W (.If c as bs pos) (mIfS ta m n) := PS.imp (ps_if hc ha hb) fun D σ H h => by
  obtain ⟨F, env, S, h⟩ := h
  refine ⟨F, env, S, h.bind.mono fun c e1 F1 H1 s1 m1 o1 k1 => ?_⟩
  cases c with
  | true => exact iteT ⟨F1, e1, m1, k1⟩
  | false => exact iteF ⟨F1, e1, m1, k1⟩
def mRet (m : M Opd) : M Fl := M.bind m fun x => M.bind (frz1 x) fun d => M.pure (.rt d)
theorem ds_ret (ha : DE B X W a ma) : DS B X W (.Return (some a) pos) (mRet ma) := PS.imp (ps_ret ha) fun D σ H h => by
  obtain ⟨F, env, S, h⟩ := h
  refine ⟨F, env, S, h.bind.mono fun x e1 F1 H1 s1 m1 o1 k1 v rv => ?_⟩
  obtain ⟨d, e2, F2, s2, m2, o2, r2, k2⟩ := m1.frz1 rv k1.bind
  exact k2 v σ F2 H1 (Go.refl m2) r2
def mRetO (m : M O) : M Fl := M.bind m fun o => M.pure (.ro o)
theorem PostS.bindPure {α : Type} {m : M α} {f : α → Fl} {D : Ends} (h : PostS B W F env σ H D (M.bind m (fun a => M.pure (f a)) env)) :
    Post B W F env σ H (fun a e1 _ _ => PostS B W F env σ H D (.ok (f a) e1)) (m env) := by
  unfold M.bind at h
  cases e : m env with
  | bad => rw [e] at h; exact h
  | exc c d e' =>
    rw [e] at h
    obtain ⟨C, fld, hb, h⟩ := h
    exact ⟨C, fld, hb, fun F' H' dx v s ⟨m', l⟩ hd hf h0 r => h σ F' H' dx v (Go.of s m' l) hd hf h0 r⟩
  | ok a e1 =>
    rw [e] at h
    exact fun _ _ _ _ _ => h
theorem ds_retO {m : M O} (ha : DO B X W a m) : DS B X W (.Return (some a) pos) (mRetO m) := PS.imp (ps_ret ha) fun D σ H h => by
  obtain ⟨F, env, S, h⟩ := h
  refine ⟨F, env, S, h.bindPure.mono fun o e1 F1 H1 s1 m1 o1 k1 p hp hf ho => ?_⟩
  refine k1 p σ F1 H1 (Go.of s1 m1 o1) (.inr hp) (fun z => ?_) hf ho
  obtain ⟨_, u, hu⟩ := (o1.own z).ex S
  rw [hp] at hu; cases hu
def mRetN : M Fl := M.pure (.rt .non)
theorem ds_retN : DS B X W (.Return none pos) mRetN := PS.imp ps_retN fun D σ H h => by
  obtain ⟨F, env, S, h⟩ := h
  exact h .non σ F H (Go.refl S) rfl
/-- return x, x a name that alone holds its object -/
def mRetV (i : Nat) : M Fl := fun env => match env[i]? with
  | some (.fz d) => .ok (.rt d) env
  | some (.ow false o) => .ok (.ro o) (env.set i .no)
  | _ => .bad
theorem Sim.drop {i : Nat} (S : Sim B F env σ H) : Sim B F (env.set i .no) σ H where
  hold := S.hold
  len := by rw [List.length_set]; exact S.len
  fz := fun j d q => by
    rcases getElem?_setS q with ⟨_, e⟩ | ⟨_, e⟩
    · cases e
    · exact S.fz j d e
  ow := fun j k o q => by
    rcases getElem?_setS q with ⟨_, e⟩ | ⟨_, e⟩
    · cases e
    · exact S.ow j k o e
  sep := fun j j' k1 o1 k2 o2 q a1 a2 b1 b2 => by
    rcases getElem?_setS a1 with ⟨_, e⟩ | ⟨_, e1⟩
    · cases e
    rcases getElem?_setS a2 with ⟨_, e⟩ | ⟨_, e2⟩
    · cases e
    exact S.sep j j' k1 o1 k2 o2 q e1 e2 b1 b2
theorem EnvLe.set {i : Nat} {s : Slot} (h1 : ∀ o, env[i]? ≠ some (.ow true o)) (h2 : ∀ k o, s ≠ .ow k o) : EnvLe env (env.set i s) :=
  ⟨fun j k o q => by
    rcases getElem?_setS q with ⟨_, e⟩ | ⟨_, e⟩
    · exact absurd e.symm (h2 k o)
    · exact ⟨o, e⟩, fun j o q => ⟨o, by
      have ne : i ≠ j := fun z => by subst z; exact h1 o q
      rw [List.getElem?_set_ne ne]; exact q⟩⟩
theorem ds_retV (i : Nat) {x : Str} {pos' : Pos} (hN : X.N[i]? = some x := by rfl) (hv : Vis X.env.scope x := by first | exact Or.inl rfl | exact Or.inr (Or.inl rfl) | exact Or.inr (Or.inr rfl)) (hd : (x == ("__debug__" : Str)) = false := by decide)
    (hcd : (x == ("__classdict__" : Str)) = false := by decide) : DS B X W (.Return (some (.Name x pos')) pos) (mRetV i) := PS.imp (ps_ret (pe_var hN hv hd hcd)) fun D σ H h => by
  obtain ⟨F, env, S, h⟩ := h
  unfold mRetV at h
  cases q : env[i]? with
  | none => simp only [q] at h; exact h.elim
  | some s =>
    cases s with
    | no => simp only [q] at h; exact h.elim
    | fz d =>
      simp only [q] at h
      obtain ⟨v, h1, h2⟩ := S.fz i d q
      exact ⟨v, h1, h v σ F H (Go.refl S) h2⟩
    | ow k o =>
      cases k with
      | true => simp only [q] at h; exact h.elim
      | false =>
        simp only [q] at h
        obtain ⟨p, h1, h2, h3⟩ := S.ow i false o q
        have l : EnvLe env (env.set i .no) := EnvLe.set (fun o' z => by rw [q] at z; cases z) (fun _ _ z => by cases z)
        refine ⟨.ref p, h1, h p σ F H (Go.of (Step.refl _ _ _) S.drop l) (.inl ⟨i, o, q, h1⟩) (fun ⟨j, k', o', a1, a2⟩ => ?_) h2 h3⟩
        rcases getElem?_setS a1 with ⟨_, e⟩ | ⟨ne, e⟩
        · cases e
        · exact ne (S.sep i j false o k' o' p q e h1 a2)

/-! ### stores -/
def put (i : Nat) (s : Slot) : M Fl := fun env => match env[i]? with
  | some (.ow true _) => .bad
  | some _ => .ok .nx (env.set i s)
  | none => .bad
theorem put_ok {i : Nat} {s : Slot} {D : Ends} (h : PostS B W F env σ H D (put i s env)) : (∃ s0, env[i]? = some s0) ∧ (∀ o, env[i]? ≠ some (.ow true o)) ∧ PostS B W F env σ H D (.ok .nx (env.set i s)) := by
  unfold put at h
  cases q : env[i]? with
  | none => simp only [q] at h; exact h.elim
  | some s =>
    cases s with
    | no => simp only [q] at h; exact ⟨⟨_, rfl⟩, (fun o z => nomatch z), h⟩
    | fz d => simp only [q] at h; exact ⟨⟨_, rfl⟩, (fun o z => nomatch z), h⟩
    | ow k o =>
      cases k with
      | true => simp only [q] at h; exact h.elim
      | false => simp only [q] at h; exact ⟨⟨_, rfl⟩, (fun o z => nomatch z), h⟩
theorem set_len {i : Nat} {s0 : Slot} (S : Sim B F env σ H) (h : env[i]? = some s0) : i < σ.length := by
  rw [← S.len]
  exact (List.getElem?_eq_some_iff.mp h).1
theorem getElem?_setO {l : St} {i j : Nat} {x : Option V} {y : Option V} (h : (l.set i x)[j]? = some y) : (i = j ∧ y = x) ∨ (i ≠ j ∧ l[j]? = some y) := getElem?_setS h
/-- a name gets data -/
theorem Sim.setD {i : Nat} {d : D} {v : V} {s0 : Slot} (S : Sim B F env σ H) (h0 : env[i]? = some s0) (h1 : ∀ o, env[i]? ≠ some (.ow true o)) (r : Rep B F d v) : Go B F env σ H F (env.set i (.fz d)) (σ.set i (some v)) H where
  step := Step.refl _ _ _
  sim := {
    hold := S.hold
    len := by rw [List.length_set, List.length_set]; exact S.len
    fz := fun j d' q => by
      rcases getElem?_setS q with ⟨rfl, e⟩ | ⟨ne, e⟩
      · cases e; exact ⟨v, List.getElem?_set_self (set_len S h0), r⟩
      · rw [List.getElem?_set_ne ne]; exact S.fz j d' e
    ow := fun j k o q => by
      rcases getElem?_setS q with ⟨_, e⟩ | ⟨ne, e⟩
      · cases e
      · rw [List.getElem?_set_ne ne]; exact S.ow j k o e
    sep := fun j j' k1 o1 k2 o2 q a1 a2 b1 b2 => by
      rcases getElem?_setS a1 with ⟨_, e⟩ | ⟨n1, e1⟩
      · cases e
      rcases getElem?_setS a2 with ⟨_, e⟩ | ⟨n2, e2⟩
      · cases e
      rw [List.getElem?_set_ne n1] at b1
      rw [List.getElem?_set_ne n2] at b2
      exact S.sep j j' k1 o1 k2 o2 q e1 e2 b1 b2 }
  own := fun b ⟨j, o, q, z⟩ => by
    rcases getElem?_setS q with ⟨_, e⟩ | ⟨ne, e⟩
    · cases e
    · rw [List.getElem?_set_ne ne] at z; exact .inl ⟨j, o, e, z⟩
  pin := fun j o q => by
    have ne : i ≠ j := fun z => by subst z; exact h1 o q
    rw [List.getElem?_set_ne ne, List.getElem?_set_ne ne]
    exact ⟨⟨o, q⟩, rfl⟩
  unpin := fun j o q => by
    rcases getElem?_setS q with ⟨_, e⟩ | ⟨_, e⟩
    · cases e
    · exact ⟨o, e⟩
  len := List.length_set
/-- a name gets a new object -/
theorem Sim.setO {i : Nat} {o : O} {p : Addr} {s0 : Slot} (S : Sim B F env σ H) (h0 : env[i]? = some s0) (h1 : ∀ o, env[i]? ≠ some (.ow true o)) (np : ¬ Own env σ p) (hf : F p = none) (ho : OAt B F H p o) : Sim B F (env.set i (.ow false o)) (σ.set i (some (.ref p))) H where
  hold := S.hold
  len := by rw [List.length_set, List.length_set]; exact S.len
  fz := fun j d' q => by
    rcases getElem?_setS q with ⟨rfl, e⟩ | ⟨ne, e⟩
    · cases e
    · rw [List.getElem?_set_ne ne]; exact S.fz j d' e
  ow := fun j k o' q => by
    rcases getElem?_setS q with ⟨rfl, e⟩ | ⟨ne, e⟩
    · cases e; exact ⟨p, List.getElem?_set_self (set_len S h0), hf, ho⟩
    · rw [List.getElem?_set_ne ne]; exact S.ow j k o' e
  sep := fun j j' k1 o1 k2 o2 q a1 a2 b1 b2 => by
    have il := set_len S h0
    rcases getElem?_setS a1 with ⟨rfl, e1⟩ | ⟨n1, e1⟩
    · rw [List.getElem?_set_self il] at b1
      cases b1
      rcases getElem?_setS a2 with ⟨rfl, e2⟩ | ⟨n2, e2⟩
      · rfl
      · rw [List.getElem?_set_ne n2] at b2
        exact absurd ⟨j', k2, o2, e2, b2⟩ np
    · rw [List.getElem?_set_ne n1] at b1
      rcases getElem?_setS a2 with ⟨rfl, e2⟩ | ⟨n2, e2⟩
      · rw [List.getElem?_set_self il] at b2
        cases b2
        exact absurd ⟨j, k1, o1, e1, b1⟩ np
      · rw [List.getElem?_set_ne n2] at b2
        exact S.sep j j' k1 o1 k2 o2 q e1 e2 b1 b2
theorem Go.setO {i : Nat} {o : O} {p : Addr} {s0 : Slot} (g : Go B F env σ H F1 e1 σ H1) (h0 : e1[i]? = some s0) (h1 : ∀ o, e1[i]? ≠ some (.ow true o)) (hp : H p = none) (np : ¬ Own e1 σ p) (hf : F1 p = none) (ho : OAt B F1 H1 p o) : Go B F env σ H F1 (e1.set i (.ow false o)) (σ.set i (some (.ref p))) H1 where
  step := g.step
  sim := g.sim.setO h0 h1 np hf ho
  own := fun b ⟨j, o', q, z⟩ => by
    rcases getElem?_setS q with ⟨rfl, e⟩ | ⟨ne, e⟩
    · rw [List.getElem?_set_self (set_len g.sim h0)] at z
      cases z
      exact .inr hp
    · rw [List.getElem?_set_ne ne] at z
      exact g.own b ⟨j, o', e, z⟩
  pin := fun j o' q => by
    obtain ⟨⟨o2, q2⟩, e⟩ := g.pin j o' q
    have ne : i ≠ j := fun z => by subst z; exact h1 o2 q2
    rw [List.getElem?_set_ne ne, List.getElem?_set_ne ne]
    exact ⟨⟨o2, q2⟩, e⟩
  unpin := fun j o' q => by
    rcases getElem?_setS q with ⟨_, e⟩ | ⟨_, e⟩
    · cases e
    · exact g.unpin j o' e
  len := List.length_set
def mSet (i : Nat) (m : M Opd) : M Fl := M.bind m fun x => M.bind (frz1 x) fun d => put i (.fz d)
theorem tset_ok {i : Nat} {D : Ends} (h : tS B W (mSet i ma) D σ H) : tAsg (tE B W ma) (gName i) D σ H := by
  obtain ⟨F, env, S, h⟩ := h
  refine ⟨F, env, S, h.bind.mono fun x e1 F1 H1 s1 m1 o1 k1 v rv => ?_⟩
  obtain ⟨d, e2, F2, s2, m2, o2, r2, k2⟩ := m1.frz1 rv k1.bind
  obtain ⟨⟨s0, h0⟩, h1, k3⟩ := put_ok k2
  exact k3 _ _ _ (m2.setD h0 h1 r2)
def mSetO (i : Nat) (m : M O) : M Fl := M.bind m fun o => put i (.ow false o)
theorem tsetO_ok {i : Nat} {m : M O} {D : Ends} (h : tS B W (mSetO i m) D σ H) : tAsg (tO B W m) (gName i) D σ H := by
  obtain ⟨F, env, S, h⟩ := h
  unfold mSetO M.bind at h
  refine ⟨F, env, S, ?_⟩
  cases q : m env with
  | bad => rw [q] at h; exact h
  | exc c d e' =>
    rw [q] at h
    obtain ⟨C, fld, hb, h⟩ := h
    exact ⟨C, fld, hb, fun F' H' dx v s ⟨m', l⟩ hd hf h0 r => h σ F' H' dx v (Go.of s m' l) hd hf h0 r⟩
  | ok o e1 =>
    rw [q] at h
    intro F1 H1 s1 m1 l1 p hp hf ho
    have np : ¬ Own e1 σ p := fun z => by
      obtain ⟨_, u, hu⟩ := (l1.own z).ex S
      rw [hp] at hu; cases hu
    unfold put at h
    have fin : ∀ s0, e1[i]? = some s0 → (∀ o, e1[i]? ≠ some (.ow true o)) → PostS B W F env σ H D (.ok .nx (e1.set i (.ow false o))) → D.nx (σ.set i (some (.ref p))) H1 :=
      fun s0 h0 h1 k => k _ _ _ ((Go.of s1 m1 l1).setO h0 h1 hp np hf ho)
    cases z : e1[i]? with
    | none => simp only [z] at h; exact h.elim
    | some s =>
      cases s with
      | no => simp only [z] at h; exact fin _ z (fun o z' => by rw [z] at z'; cases z') h
      | fz d => simp only [z] at h; exact fin _ z (fun o z' => by rw [z] at z'; cases z') h
      | ow k o' =>
        cases k with
        | true => simp only [z] at h; exact h.elim
        | false => simp only [z] at h; exact fin _ z (fun o z' => by rw [z] at z'; cases z') h
theorem ds_set (i : Nat) {x : Str} {pos' : Pos} (hN : X.N.Nodup) (he : DE B X W e ma) (hi : X.N[i]? = some x := by rfl) (hx : Loc X.env.scope x := by first | exact Or.inl rfl | exact Or.inr rfl) (hs : swapsWith e (some (.Name x pos')) pos.line X.env = pure false := by rfl)
    (hf : X.fn x = true ∨ X.env.scope.names.lookup x = some .local := by first | exact .inl rfl | exact .inr rfl) : DS B X W (.Assign [.Name x pos'] e pos) (mSet i ma) :=
  PS.imp (ps_set hN hi hx he hs hf) fun D σ H h => tset_ok h
theorem ds_setO (i : Nat) {x : Str} {pos' : Pos} {m : M O} (hN : X.N.Nodup) (he : DO B X W e m) (hi : X.N[i]? = some x := by rfl) (hx : Loc X.env.scope x := by first | exact Or.inl rfl | exact Or.inr rfl) (hs : swapsWith e (some (.Name x pos')) pos.line X.env = pure false := by rfl)
    (hf : X.fn x = true ∨ X.env.scope.names.lookup x = some .local := by first | exact .inl rfl | exact .inr rfl) : DS B X W (.Assign [.Name x pos'] e pos) (mSetO i m) :=
  PS.imp (ps_set hN hi hx he hs hf) fun D σ H h => tsetO_ok h
def mDrop (m : M Opd) : M Fl := M.bind m fun _ => mNx
theorem ds_expr (he : DE B X W e ma) (hs : swapsWith e none pos.line X.env = pure false := by rfl) : DS B X W (.Expr e pos) (mDrop ma) := PS.imp (ps_expr he hs) fun D σ H h => by
  obtain ⟨F, env, S, h⟩ := h
  exact ⟨F, env, S, h.bind.mono fun x e1 F1 H1 s1 m1 o1 k1 v rv => PostS.here m1 k1⟩
end
end AN

set_option Elab.async false
set_option maxRecDepth 100000
set_option autoImplicit false
set_option linter.unusedVariables false
namespace AN
open PySem L2

/-! ### targets -/
section
variable {B : Bx} {X : Cx} {W : WX} {F H F1 H1 F2 H2 : Hp} {env e1 e2 : Env} {σ σ1 σ2 : St} {tg e : Expr} {ts : List Expr} {pos : Pos}
/-- only the slots ns were stored -/
structure Only1 (ns : List Nat) (env env' : Env) (σ σ' : St) : Prop where
  len : σ'.length = σ.length
  rest : ∀ j, j ∉ ns → σ'[j]? = σ[j]?
  le : EnvLe env env'
def tG (B : Bx) (ts : List Nat) (g : D → Env → Option Env) : TG := fun v σ H Q => ∃ F env d env', Sim B F env σ H ∧ Rep B F d v ∧ g d env = some env' ∧ ∀ σ', Go B F env σ H F env' σ' H → Only1 ts env env' σ σ' → Q σ' H
def tGs (B : Bx) (ts : List Nat) (g : List D → Env → Option Env) : TGs := fun vs σ H Q => ∃ F env ds env', Sim B F env σ H ∧ RepL B F ds vs ∧ g ds env = some env' ∧ ∀ σ', Go B F env σ H F env' σ' H → Only1 ts env env' σ σ' → Q σ' H
abbrev DG (B : Bx) (X : Cx) (tg : Expr) (ns : List Nat) (g : D → Env → Option Env) : Prop := PG X tg (tG B ns g)
abbrev DGs (B : Bx) (X : Cx) (ts : List Expr) (ns : List Nat) (g : List D → Env → Option Env) : Prop := PGs X ts (tGs B ns g)
theorem PG.imp {t t' : TG} (h : PG X tg t) (i : ∀ v σ H Q, t' v σ H Q → t v σ H Q) : PG X tg t' := ⟨fun pins s σ H v u Q I r q => h.run pins s σ H v u Q I r (i v σ H Q q)⟩
theorem PGs.imp {t t' : TGs} (h : PGs X ts t) (i : ∀ v σ H Q, t' v σ H Q → t v σ H Q) : PGs X ts t' := ⟨fun pins s σ H v u Q I r q => h.run pins s σ H v u Q I r (i v σ H Q q)⟩
def gN (i : Nat) (d : D) (env : Env) : Option Env := match env[i]? with
  | some (.ow true _) => none
  | some _ => some (env.set i (.fz d))
  | none => none
theorem gN_ok {i : Nat} {d : D} {env' : Env} (h : gN i d env = some env') : (∃ s0, env[i]? = some s0) ∧ (∀ o, env[i]? ≠ some (.ow true o)) ∧ env' = env.set i (.fz d) := by
  unfold gN at h
  cases q : env[i]? with
  | none => simp only [q] at h; cases h
  | some s =>
    cases s with
    | no => simp only [q] at h; exact ⟨⟨_, rfl⟩, (fun o z => nomatch z), (Option.some.inj h).symm⟩
    | fz d => simp only [q] at h; exact ⟨⟨_, rfl⟩, (fun o z => nomatch z), (Option.some.inj h).symm⟩
    | ow k o =>
      cases k with
      | true => simp only [q] at h; cases h
      | false => simp only [q] at h; exact ⟨⟨_, rfl⟩, (fun o z => nomatch z), (Option.some.inj h).symm⟩
theorem dg_n (i : Nat) {x : Str} (hN : X.N.Nodup) (hi : X.N[i]? = some x := by rfl) (hx : Loc X.env.scope x := by first | exact Or.inl rfl | exact Or.inr rfl) (hf : X.fn x = true ∨ X.env.scope.names.lookup x = some .local := by first | exact .inl rfl | exact .inr rfl) : DG B X (.Name x pos) [i] (gN i) :=
  PG.imp (pg_name hN hi hx hf) fun v σ H Q h => by
    obtain ⟨F, env, d, env', S, r, e, k⟩ := h
    obtain ⟨⟨s0, h0⟩, h1, rfl⟩ := gN_ok e
    exact k _ (S.setD h0 h1 r) ⟨List.length_set, fun j hj => List.getElem?_set_ne fun z => hj (by simp [z]), EnvLe.set h1 (fun _ _ z => nomatch z)⟩
def gs0 (ds : List D) (env : Env) : Option Env := match ds with
  | [] => some env
  | _ => none
def gs (g : D → Env → Option Env) (r : List D → Env → Option Env) (ds : List D) (env : Env) : Option Env := match ds with
  | d :: ds => (g d env).bind (r ds)
  | [] => none
theorem dgs0 : DGs B X [] [] gs0 := PGs.imp pgs_nil fun v σ H Q h => by
  obtain ⟨F, env, d, env', S, r, e, k⟩ := h
  cases d with
  | nil => cases e; exact ⟨r, k _ (Go.refl S) ⟨rfl, fun _ _ => rfl, EnvLe.refl _⟩⟩
  | cons _ _ => cases e
theorem dgs {n1 n2 : List Nat} {g : D → Env → Option Env} {r : List D → Env → Option Env} (h1 : DG B X e n1 g) (h2 : DGs B X ts n2 r) (hs : (assignEach (e :: ts) X.env).map (·.2) = assign e X.env :: (assignEach ts X.env).map (·.2) := by rfl) : DGs B X (e :: ts) (n1 ++ n2) (gs g r) :=
  PGs.imp (pgs_cons h1 h2 hs) fun v σ H Q h => by
    obtain ⟨F, env, d, env', S, rp, e, k⟩ := h
    cases d with
    | nil => cases e
    | cons d ds =>
      obtain ⟨v1, vr, rfl, r1, r2⟩ := rp
      obtain ⟨e1, a1, a2⟩ := Option.bind_eq_some_iff.mp e
      exact ⟨v1, vr, rfl, F, env, d, e1, S, r1, a1, fun σ1 g1 w1 => ⟨F, e1, ds, env', g1.sim, r2, a2, fun σ2 g2 w2 => k σ2 (g1.trans g2) ⟨w2.len.trans w1.len, fun j hj => (w2.rest j fun z => hj (List.mem_append_right _ z)).trans (w1.rest j fun z => hj (List.mem_append_left _ z)), w1.le.trans w2.le⟩⟩⟩
def gT (n : Nat) (g : List D → Env → Option Env) (d : D) (env : Env) : Option Env := match d with
  | .tup ds => if ds.length = n then g ds env else none
  | .lst ds => if ds.length = n then g ds env else none
  | _ => none
theorem PG.or {t t' : TG} (h : PG X tg t) (h' : PG X tg t') : PG X tg (fun v σ H Q => t v σ H Q ∨ t' v σ H Q) := ⟨fun pins s σ H v u Q I r q => q.elim (h.run pins s σ H v u Q I r) (h'.run pins s σ H v u Q I r)⟩
theorem dg_t {es : List Expr} {k : Nat} {ns : List Nat} {g : List D → Env → Option Env} {n : Nat} (hK : X.K = B.K) (hc : X.calm = true) (h : DGs B X es ns g) (hn : (assignEach es X.env).length = n := by rfl) (hst : (assignEach es X.env).findIdx? (·.1) = none := by rfl) : DG B X (.Tuple es k pos) ns (gT n g) :=
  PG.imp (PG.or (pg_tup hc h hn hst) (pg_unl hc h hn hst)) fun v σ H Q h => by
    obtain ⟨F, env, d, env', S, rp, e, k⟩ := h
    cases d with
    | tup ds =>
      obtain ⟨p, vs, rfl, a, z, r⟩ := rp
      dsimp only [gT] at e
      by_cases hl : ds.length = n
      · rw [if_pos hl] at e
        exact .inl ⟨p, vs, rfl, by rw [hK]; exact a.sq S.hold, by rw [r.length]; exact hl, F, env, ds, env', S, r, e, k⟩
      · rw [if_neg hl] at e; cases e
    | lst ds =>
      obtain ⟨p, vs, rfl, a, z, r⟩ := rp
      dsimp only [gT] at e
      by_cases hl : ds.length = n
      · rw [if_pos hl] at e
        exact .inr ⟨p, vs, rfl, by rw [hK]; exact a.sq S.hold, by rw [r.length]; exact hl, F, env, ds, env', S, r, e, k⟩
      · rw [if_neg hl] at e; cases e
    | _ => cases e
def mAsg (g : D → Env → Option Env) (m : M Opd) : M Fl := M.bind m fun x => M.bind (frz1 x) fun d env => match g d env with
  | some e => .ok .nx e
  | none => .bad
theorem ds_asg {ns : List Nat} {g : D → Env → Option Env} {ma : M Opd} (he : DE B X W e ma) (hg : DG B X tg ns g) (hs : swapsWithSole [tg] e pos.line X.env = pure false := by rfl) (hw : swappedStores [tg] e X.env = pure none := by rfl)
    (h1 : (assignEach [tg] X.env).map (·.2) = [assign tg X.env] := by rfl) : DS B X W (.Assign [tg] e pos) (mAsg g ma) := PS.imp (ps_asg he hg hs hw h1) fun D σ H h => by
  obtain ⟨F, env, S, h⟩ := h
  refine ⟨F, env, S, h.bind.mono fun x e1 F1 H1 s1 m1 o1 k1 v rv => ?_⟩
  obtain ⟨d, e2, F2, s2, m2, o2, r2, k2⟩ := m1.frz1 rv k1.bind
  cases q : g d e2 with
  | none => simp only [q] at k2; exact k2.elim
  | some e3 =>
    simp only [q] at k2
    exact ⟨F2, e2, d, e3, m2, r2, q, fun σ' g' _ => k2 _ _ _ g'⟩

/-! ### what a loop walks -/
def Iter (B : Bx) (F : Hp) (J : It) (ds : List D) : Prop := ∀ (i : Nat) (F1 H1 : Hp), Le F F1 → Holds F1 H1 →
  (∀ d, ds[i]? = some d → J.go i H1 ∧ ∀ x H2, J.yld i H1 x H2 → ∃ F2, Step0 F1 H1 F2 H2 ∧ Holds F2 H2 ∧ Rep B F2 d x) ∧ (i = ds.length → J.stop i H1)
def tI (B : Bx) (W : WX) (m : M (List D)) : TI := fun σ H R => ∃ F env, Sim B F env σ H ∧ Post B W F env σ H (fun ds _ F' H' => ∀ J, Iter B F' J ds → R J H') (m env)
abbrev DI (B : Bx) (X : Cx) (W : WX) (tg iter : Expr) (m : M (List D)) : Prop := PI X tg iter (tI B W m)
theorem PI.imp {t t' : TI} (h : PI X tg e t) (i : ∀ σ H R, t' σ H R → t σ H R) : PI X tg e t' := ⟨fun pins s σ H R I q => h.run pins s σ H R I (i σ H R q)⟩
theorem PI.or {t t' : TI} (h : PI X tg e t) (h' : PI X tg e t') : PI X tg e (fun σ H R => t σ H R ∨ t' σ H R) := ⟨fun pins s σ H R I q => q.elim (h.run pins s σ H R I) (h'.run pins s σ H R I)⟩
def opt {α : Type} (o : Option α) : M α := fun env => match o with
  | some a => .ok a env
  | none => .bad
theorem Post.opt {α : Type} {o : Option α} {k : α → Env → Hp → Hp → Prop} (S : Sim B F env σ H) (h : Post B W F env σ H k (opt o env)) : ∃ a, o = some a ∧ k a env F H := by
  cases o with
  | none => exact h.elim
  | some a => exact ⟨a, rfl, h F H (Step.refl _ _ _) S (EnvLe.refl _)⟩
def sign (c : Nat) : D := .str ⟨#[c]⟩
def signs (s : Str) : List D := s.cps.toList.map sign
def seqOf : D → Option (List D)
  | .lst xs => some xs
  | .tup xs => some xs
  | .str s => some (signs s)
  | _ => none
def mIt (m : M Opd) : M (List D) := M.bind m fun x => M.bind (frz1 x) fun d => opt (seqOf d)
theorem iter_list {a : Addr} {vs : List V} {ds : List D} (h : LAt B F a vs) (r : RepL B F ds vs) : Iter B F (Itl B.K a) ds := fun i F1 H1 l hh => by
  have hs : SqL B.K H1 a vs := (h.mono l).sq hh
  refine ⟨fun d e => ?_, fun e => ⟨vs, hs, by rw [r.length, e]; exact Nat.le_refl _⟩⟩
  obtain ⟨v, hv, rv⟩ := r.get e
  refine ⟨⟨vs, v, hs, hv⟩, fun x H2 y => ?_⟩
  obtain ⟨rfl, y⟩ := y
  have := y vs hs
  rw [hv] at this; cases this
  exact ⟨F1, Step.refl _ _ _, hh, Rep.mono l d v rv⟩
theorem iter_tup {a : Addr} {vs : List V} {ds : List D} (h : TAt B F a vs) (r : RepL B F ds vs) : Iter B F (Itt B.K a) ds := fun i F1 H1 l hh => by
  have hs : SqT B.K H1 a vs := (h.mono l).sq hh
  refine ⟨fun d e => ?_, fun e => ⟨vs, hs, by rw [r.length, e]; exact Nat.le_refl _⟩⟩
  obtain ⟨v, hv, rv⟩ := r.get e
  refine ⟨⟨vs, v, hs, hv⟩, fun x H2 y => ?_⟩
  obtain ⟨rfl, y⟩ := y
  have := y vs hs
  rw [hv] at this; cases this
  exact ⟨F1, Step.refl _ _ _, hh, Rep.mono l d v rv⟩
theorem okS_sign {s : Str} {c : Nat} (h : okS s) (hc : c ∈ s.cps.toList) : okS ⟨#[c]⟩ := by
  refine ⟨by show 1 ≤ sizeLine; decide, ?_⟩
  have h2 := h.2
  unfold PyData.strOk at h2 ⊢
  rw [← Array.all_toList] at h2 ⊢
  simp only [List.all_cons, List.all_nil, Bool.and_true]
  exact List.all_eq_true.mp h2 c hc
theorem iter_str {s : Str} (h : okS s) : Iter B F (Its s) (signs s) := fun i F1 H1 l hh => by
  have hl : (signs s).length = s.cps.size := by simp [signs]
  refine ⟨fun d e => ?_, fun e => ?_⟩
  · have hi : i < (signs s).length := (List.getElem?_eq_some_iff.mp e).1
    refine ⟨by show i < s.cps.size; omega, fun x H2 y => ?_⟩
    obtain ⟨rfl, c, hc, rfl⟩ := y
    have e2 : (signs s)[i]? = some (sign c) := by
      unfold signs
      rw [List.getElem?_map, Array.getElem?_toList, hc]; rfl
    rw [e] at e2; cases e2
    exact ⟨F1, Step.refl _ _ _, hh, rfl, okS_sign h (by rw [Array.mem_toList_iff]; exact Array.mem_of_getElem? hc)⟩
  · show s.cps.size ≤ i
    omega
theorem frz1_exc {x : Opd} {c : String} {d : D} {e' : Env} : AN.frz1 x env ≠ .exc c d e' := by
  unfold AN.frz1
  cases x with
  | d _ => exact fun z => nomatch z
  | sl i =>
    dsimp only
    split <;> exact fun z => nomatch z
theorem di_seq {ma : M Opd} (hK : X.K = B.K) (he : DE B X W e ma) : DI B X W tg e (mIt ma) :=
  PI.imp (PI.or (pi_list he) (PI.or (pi_tup he) (pi_str he))) fun σ H R h => by
    obtain ⟨F, env, S, h⟩ := h
    unfold mIt at h
    have hb := Post.bind S h
    cases q : ma env with
    | bad => rw [q] at hb; exact hb.elim
    | exc c d e' => rw [q] at hb; exact .inl ⟨F, env, S, by rw [q]; exact hb⟩
    | ok x e1 =>
      rw [q] at hb
      cases q2 : AN.frz1 x e1 with
      | bad =>
        refine .inl ⟨F, env, S, ?_⟩
        rw [q]
        intro F1 H1 s1 m1 l1
        have := Post.bind m1 (hb F1 H1 s1 m1 l1)
        rw [q2] at this
        exact this.elim
      | exc c d e' => exact absurd q2 frz1_exc
      | ok d e2 =>
        have fin : ∀ F1 H1, Step (Own env σ) F H F1 H1 → Sim B F1 e1 σ H1 → EnvLe env e1 → ∀ v, OpdRel B F1 σ v x → ∃ F2, Holds F2 H1 ∧ Rep B F2 d v ∧ ∃ ds, seqOf d = some ds ∧ ∀ J, Iter B F2 J ds → R J H1 := fun F1 H1 s1 m1 l1 v rv => by
          have hb1 := hb F1 H1 s1 m1 l1
          obtain ⟨d', e2', F2, s2, m2, o2, r2, k2⟩ := m1.frz1 (W := W) rv (k := fun d' e' F' H' => d' = d ∧ Post B W F' e' σ H' (fun ds _ F' H' => ∀ J, Iter B F' J ds → R J H') (opt (seqOf d) e')) (by
            have := Post.bind m1 hb1
            rw [q2] at this ⊢
            exact fun F' H' a b c => ⟨rfl, this F' H' a b c⟩)
          obtain ⟨rfl, k2⟩ := k2
          obtain ⟨ds, e3, k3⟩ := Post.opt m2 k2
          exact ⟨F2, m2.hold, r2, ds, e3, k3⟩
        have go : ∀ (k : V → Hp → Prop), (∀ v F2 H1, Holds F2 H1 → Rep B F2 d v → (∃ ds, seqOf d = some ds ∧ ∀ J, Iter B F2 J ds → R J H1) → k v H1) → tE B W ma σ H k := fun k hk => ⟨F, env, S, by
          rw [q]
          exact fun F1 H1 s1 m1 l1 v rv => by
            obtain ⟨F2, hh, r2, z⟩ := fin F1 H1 s1 m1 l1 v rv
            exact hk v F2 H1 hh r2 z⟩
        cases d with
        | lst xs =>
          refine .inl (go _ fun v F2 H1 hh r2 ⟨ds, e3, k3⟩ => ?_)
          cases e3
          obtain ⟨p, vs, rfl, a, z, r⟩ := r2
          rw [hK]
          exact ⟨p, rfl, ⟨vs, a.sq hh⟩, k3 _ (iter_list a r)⟩
        | tup xs =>
          refine .inr (.inl (go _ fun v F2 H1 hh r2 ⟨ds, e3, k3⟩ => ?_))
          cases e3
          obtain ⟨p, vs, rfl, a, z, r⟩ := r2
          rw [hK]
          exact ⟨p, rfl, ⟨vs, a.sq hh⟩, k3 _ (iter_tup a r)⟩
        | str s =>
          refine .inr (.inr (go _ fun v F2 H1 hh r2 ⟨ds, e3, k3⟩ => ?_))
          cases e3
          obtain ⟨rfl, ok⟩ := r2
          exact ⟨s, rfl, k3 _ (iter_str ok)⟩
        | _ => exact .inl (go _ fun v F2 H1 hh r2 ⟨ds, e3, k3⟩ => by cases e3)
def nums (lo : Int) (n : Nat) : List D := (List.range n).map fun k => .int (lo + (k : Nat))
theorem iter_rng {lo : Int} {n : Nat} : Iter B F (Itr lo n) (nums lo n) := fun i F1 H1 l hh => by
  have hl : (nums lo n).length = n := by simp [nums]
  refine ⟨fun d e => ?_, fun e => by show n ≤ i; omega⟩
  have hi : i < n := by
    have := (List.getElem?_eq_some_iff.mp e).1
    omega
  refine ⟨hi, fun x H2 y => ?_⟩
  obtain ⟨rfl, rfl⟩ := y
  have e2 : (nums lo n)[i]? = some (.int (lo + (i : Nat))) := by
    unfold nums
    rw [List.getElem?_map, List.getElem?_range hi]; rfl
  rw [e] at e2; cases e2
  exact ⟨F1, Step.refl _ _ _, hh, rfl⟩
def rng1 : D → Option (List D)
  | .int j => if -(2 ^ 62) ≤ j ∧ j < 2 ^ 62 then some (nums 0 j.toNat) else none
  | _ => none
def mRng1 (m : M Opd) : M (List D) := mB1 rng1 m
theorem di_range1 {a : Expr} {ma : M Opd} {p : Pos} (ha : DE B X W a ma) (hm : X.mg "range" = none) (hg : Gl X "range" := by rfl) (hs : starEach [a] X.env = [(false, eval a X.env)] := by rfl) (hs1 : starEach [a] X.env = (false, eval a X.env) :: starEach [] X.env := by rfl) :
    DI B X W tg (.Call (.Name "range" p) [a] [] pos) (mRng1 ma) := PI.imp (pi_range1 hg hm (pa_cons ha pa_nil hs1) hs) fun σ H R h => by
  obtain ⟨F, env, S, h⟩ := h
  refine tE.one (g := AN.ap1 rng1) S h fun x e2 F2 H2 v s2 m2 o2 rv k2 => ?_
  obtain ⟨a, z, ea, ez, k3⟩ := k2.ap1
  cases a with
  | int j =>
    cases (show v = .int j from m2.view rv ea)
    dsimp only [rng1] at ez
    by_cases hj : -(2 ^ 62) ≤ j ∧ j < 2 ^ 62
    · rw [if_pos hj] at ez
      cases ez
      exact ⟨j, rfl, hj.1, hj.2, Post.here m2 k3 _ iter_rng⟩
    · rw [if_neg hj] at ez; cases ez
  | _ => cases ez

/-! ### for -/
def loop (g : D → Env → Option Env) (body : M Fl) : List D → M Fl
  | [] => fun env => .ok .nx env
  | d :: ds => fun env => match g d env with
    | none => .bad
    | some e1 => match body e1 with
      | .ok .nx e2 => loop g body ds e2
      | .ok .ct e2 => loop g body ds e2
      | .ok .bk e2 => .ok .nx e2
      | .ok (.rt d) e2 => .ok (.rt d) e2
      | .ok (.ro o) e2 => .ok (.ro o) e2
      | .exc c d e2 => .exc c d e2
      | .bad => .bad
def mFor (it : M (List D)) (g : D → Env → Option Env) (body : M Fl) : M Fl := M.bind it fun ds => loop g body ds
theorem loop_ok {g : D → Env → Option Env} {body : M Fl} {D0 : Ends} {J : It} {ds : List D} {tb : TS} {ns : List Nat} (S : Sim B F env σ H) (it : Iter B F J ds) (hb : ∀ D σ H, tS B W body D σ H → tb D σ H) (h : PostS B W F env σ H D0 (loop g body ds env)) :
    ∃ Wv : Nat → Nat → St → Hp → Prop, (∃ m, Wv 0 m σ H) ∧ ∀ i m σ H, Wv i m σ H →
      (J.stop i H ∧ D0.nx σ H) ∨ (J.go i H ∧ ∃ N : St → Hp → Prop, (∀ σ' H', N σ' H' → ∃ m', m' < m ∧ Wv (i + 1) m' σ' H') ∧ ∀ x H', J.yld i H x H' → tG B ns g x σ H' fun σ2 H2 => tb { D0 with nx := N, ct := N, bk := D0.nx } σ2 H2) := by
  refine ⟨fun i m σ' H' => i ≤ ds.length ∧ m = ds.length - i ∧ ∃ F' e', Le F F' ∧ Sim B F' e' σ' H' ∧ PostS B W F' e' σ' H' D0 (loop g body (ds.drop i) e'), ⟨ds.length, Nat.zero_le _, rfl, F, env, Le.refl F, S, h⟩, ?_⟩
  rintro i m σ1 H1 ⟨hi, rfl, F1, e1, l1, S1, k1⟩
  obtain ⟨it1, it2⟩ := it i F1 H1 l1 S1.hold
  cases q : ds[i]? with
  | none =>
    have e : i = ds.length := by
      have := List.getElem?_eq_none_iff.mp q
      omega
    left
    rw [e, List.drop_length] at k1
    exact ⟨it2 e, k1 σ1 F1 H1 (Go.refl S1)⟩
  | some d =>
    right
    obtain ⟨go, yl⟩ := it1 d q
    have hlt : i < ds.length := (List.getElem?_eq_some_iff.mp q).1
    have hd : ds.drop i = d :: ds.drop (i + 1) := by
      rw [List.drop_eq_getElem_cons hlt]
      congr 1
      exact (List.getElem?_eq_some_iff.mp q).2
    rw [hd] at k1
    refine ⟨go, fun σ' H' => i + 1 ≤ ds.length ∧ ∃ F' e', Le F F' ∧ Sim B F' e' σ' H' ∧ PostS B W F' e' σ' H' D0 (loop g body (ds.drop (i + 1)) e'), fun σ' H' z => ⟨ds.length - (i + 1), by omega, z.1, rfl, z.2⟩, fun x H2 y => ?_⟩
    obtain ⟨F2, s2, h2, r2⟩ := yl x H2 y
    have S2 := S1.step0 s2 h2
    have g2 : Go B F1 e1 σ1 H1 F2 e1 σ1 H2 := Go.of s2.any S2 (EnvLe.refl _)
    have k2 : PostS B W F2 e1 σ1 H2 D0 (loop g body (d :: ds.drop (i + 1)) e1) := k1.from g2
    unfold loop at k2
    cases qg : g d e1 with
    | none => simp only [qg] at k2; exact k2.elim
    | some e3 =>
      simp only [qg] at k2
      refine ⟨F2, e1, d, e3, S2, r2, qg, fun σ3 g3 _ => hb _ _ _ ⟨F2, e3, g3.sim, ?_⟩⟩
      have k3 := k2.from g3
      have lF : Le F F2 := l1.trans s2.le
      cases qb : body e3 with
      | bad => simp only [qb] at k3; exact k3
      | exc c d' e4 => simp only [qb] at k3; exact k3
      | ok f e4 =>
        simp only [qb] at k3
        cases f with
        | nx => exact fun σ' F' H' g' => ⟨hlt, F', e4, lF.trans g'.step.le, g'.sim, k3.from g'⟩
        | ct => exact fun σ' F' H' g' => ⟨hlt, F', e4, lF.trans g'.step.le, g'.sim, k3.from g'⟩
        | bk => exact k3
        | rt d' => exact k3
        | ro o => exact k3
theorem ds_for {iter : Expr} {body : List Stmt} {mi : M (List D)} {ns : List Nat} {g : D → Env → Option Env} {mb : M Fl} (hp : PassesOwn (model X.prog X.w) X.A X.env X.xe) (hc : X.calm = true) (hi : DI B X W tg iter mi) (hg : DG B X tg ns g) (hb : DSs B X W body mb)
    (hs : ∀ x, foldedSetIterable iter X.env x = pure x := by intro _; rfl) : DS B X W (.For tg iter body [] pos) (mFor mi g mb) := PS.imp (ps_for hp hc hi hg hb hs) fun D σ H h => by
  obtain ⟨F, env, S, h⟩ := h
  exact ⟨F, env, S, h.bind.mono fun ds e1 F1 H1 s1 m1 o1 k1 J it => loop_ok m1 it (fun _ _ _ z => z) k1⟩
/-! ### while -/
def mWhile (t : M Bool) (body : M Fl) : Nat → M Fl
  | 0 => fun _ => .bad
  | n + 1 => M.bind t fun c => if c = true then fun env => (match body env with
      | .ok .nx e2 => mWhile t body n e2
      | .ok .ct e2 => mWhile t body n e2
      | .ok .bk e2 => .ok .nx e2
      | .ok (.rt d) e2 => .ok (.rt d) e2
      | .ok (.ro o) e2 => .ok (.ro o) e2
      | .exc c d e2 => .exc c d e2
      | .bad => .bad) else mNx
theorem ds_while (n : Nat) {c : Expr} {body : List Stmt} {mt : M Bool} {mb : M Fl} (hp : PassesOwn (model X.prog X.w) X.A X.env X.xe) (hc : DT B X W c mt) (hb : DSs B X W body mb) : DS B X W (.While c body [] pos) (mWhile mt mb n) :=
  PS.imp (ps_while hp hc hb) fun D σ H h => by
    obtain ⟨F, env, S, h⟩ := h
    refine ⟨fun m σ' H' => ∃ F' e', Sim B F' e' σ' H' ∧ PostS B W F' e' σ' H' D (mWhile mt mb m e'), ⟨n, F, env, S, h⟩, ?_⟩
    rintro m σ1 H1 ⟨F1, e1, S1, k1⟩
    cases m with
    | zero => exact k1.elim
    | succ m =>
      refine ⟨F1, e1, S1, (PostS.bind (k := fun c => if c = true then _ else mNx) k1).mono fun c e2 F2 H2 s2 m2 o2 k2 => ?_⟩
      cases c with
      | false => exact iteF (PostS.here m2 k2)
      | true =>
        refine iteT ⟨fun σ' H' => ∃ F' e', Sim B F' e' σ' H' ∧ PostS B W F' e' σ' H' D (mWhile mt mb m e'), fun σ' H' z => ⟨m, Nat.lt_succ_self m, z⟩, F2, e2, m2, ?_⟩
        have k2 : PostS B W F2 e2 σ1 H2 D (match mb e2 with
          | .ok .nx e2 => mWhile mt mb m e2
          | .ok .ct e2 => mWhile mt mb m e2
          | .ok .bk e2 => .ok .nx e2
          | .ok (.rt d) e2 => .ok (.rt d) e2
          | .ok (.ro o) e2 => .ok (.ro o) e2
          | .exc c d e2 => .exc c d e2
          | .bad => .bad) := k2
        cases qb : mb e2 with
        | bad => simp only [qb] at k2; exact k2
        | exc c d' e4 => simp only [qb] at k2; exact k2
        | ok f e4 =>
          simp only [qb] at k2
          cases f with
          | nx => exact fun σ' F' H' g' => ⟨F', e4, g'.sim, k2.from g'⟩
          | ct => exact fun σ' F' H' g' => ⟨F', e4, g'.sim, k2.from g'⟩
          | bk => exact k2
          | rt d' => exact k2
          | ro o => exact k2
end
end AN

set_option Elab.async false
set_option maxRecDepth 100000
set_option autoImplicit false
set_option linter.unusedVariables false
namespace AN
open PySem L2

/-! ### a comprehension's own names -/
def wipeE (vs : List Nat) : Nat → Env → Env
  | _, [] => []
  | n, s :: e => (if n ∈ vs then .no else s) :: wipeE vs (n + 1) e
def restE (vs : List Nat) : Nat → Env → Env → Env
  | n, s :: e, t :: f => (if n ∈ vs then s else t) :: restE vs (n + 1) e f
  | _, _, f => f
theorem wipeE_len (vs : List Nat) : ∀ (n : Nat) (e : Env), (wipeE vs n e).length = e.length
  | _, [] => rfl
  | n, s :: e => by show _ + 1 = _ + 1; rw [wipeE_len vs (n + 1) e]
theorem wipeE_get (vs : List Nat) : ∀ (n : Nat) (e : Env) (i : Nat), (wipeE vs n e)[i]? = if n + i ∈ vs then e[i]?.map (fun _ => .no) else e[i]?
  | n, [], i => by simp [wipeE]
  | n, s :: e, 0 => by
    unfold wipeE
    by_cases h : n ∈ vs <;> simp [h]
  | n, s :: e, i + 1 => by
    unfold wipeE
    simp only [List.getElem?_cons_succ]
    rw [wipeE_get vs (n + 1) e i, show n + 1 + i = n + (i + 1) by omega]
theorem restE_len (vs : List Nat) : ∀ (n : Nat) (e f : Env), (restE vs n e f).length = f.length
  | n, s :: e, t :: f => by show _ + 1 = _ + 1; rw [restE_len vs (n + 1) e f]
  | _, [], f => by simp [restE]
  | _, _ :: _, [] => by simp [restE]
theorem restE_get (vs : List Nat) : ∀ (n : Nat) (e f : Env) (i : Nat), e.length = f.length → (restE vs n e f)[i]? = if n + i ∈ vs then e[i]? else f[i]?
  | n, [], [], i, _ => by simp [restE]
  | n, [], _ :: _, i, h => by simp at h
  | n, _ :: _, [], i, h => by simp at h
  | n, s :: e, t :: f, 0, _ => by
    unfold restE
    by_cases h : n ∈ vs <;> simp [h]
  | n, s :: e, t :: f, i + 1, h => by
    unfold restE
    simp only [List.getElem?_cons_succ]
    rw [restE_get vs (n + 1) e f i (by simpa using h), show n + 1 + i = n + (i + 1) by omega]
theorem wipe_get {σ : St} {i : Nat} : ∀ {vs : List Nat}, i ∉ vs → (wipe σ vs)[i]? = σ[i]?
  | [], _ => rfl
  | v :: vs, h => by
    unfold wipe
    rw [List.getElem?_set_ne (fun z => h (by simp [z]))]
    exact wipe_get (fun z => h (List.mem_cons_of_mem _ z))
theorem wipe_in {σ : St} {i : Nat} : ∀ {vs : List Nat}, i ∈ vs → (wipe σ vs)[i]? = σ[i]?.map fun _ => none
  | v :: vs, h => by
    unfold wipe
    by_cases e : v = i
    · subst e
      by_cases hl : v < (wipe σ vs).length
      · rw [List.getElem?_set_self hl]
        rw [wipe_length] at hl
        rw [List.getElem?_eq_getElem hl]; rfl
      · rw [List.getElem?_eq_none (by simpa using hl)]
        rw [wipe_length] at hl
        rw [List.getElem?_eq_none (by omega)]; rfl
    · rw [List.getElem?_set_ne e]
      refine wipe_in ?_
      rcases List.mem_cons.mp h with z | z
      · exact absurd z.symm e
      · exact z
theorem wipe_eq {σ σ2 : St} {vs : List Nat} (hl : σ2.length = σ.length) (h : ∀ j, j ∉ vs → σ2[j]? = (wipe σ vs)[j]?) : wipe σ2 vs = wipe σ vs := by
  apply List.ext_getElem?
  intro i
  by_cases hi : i ∈ vs
  · rw [wipe_in hi, wipe_in hi]
    by_cases hl' : i < σ.length
    · rw [List.getElem?_eq_getElem hl', List.getElem?_eq_getElem (by omega)]; rfl
    · rw [List.getElem?_eq_none (by omega), List.getElem?_eq_none (by omega)]
  · rw [wipe_get hi, h i hi]
section
variable {B : Bx} {X : Cx} {W : WX} {F H F1 H1 F2 H2 : Hp} {env e1 e2 : Env} {σ σ1 σ2 : St}
theorem wipeE_some {vs : List Nat} {i : Nat} {s : Slot} (h : (wipeE vs 0 env)[i]? = some s) (hs : s ≠ .no) : i ∉ vs ∧ env[i]? = some s := by
  rw [wipeE_get] at h
  simp only [Nat.zero_add] at h
  by_cases hi : i ∈ vs
  · rw [if_pos hi] at h
    cases q : env[i]? with
    | none => rw [q] at h; cases h
    | some t => rw [q] at h; cases h; exact absurd rfl hs
  · rw [if_neg hi] at h; exact ⟨hi, h⟩
theorem Sim.wiped (vs : List Nat) (S : Sim B F env σ H) : Sim B F (wipeE vs 0 env) (wipe σ vs) H where
  hold := S.hold
  len := by rw [wipeE_len, wipe_length]; exact S.len
  fz := fun i d q => by
    obtain ⟨hi, e⟩ := wipeE_some q (fun z => nomatch z)
    rw [wipe_get hi]; exact S.fz i d e
  ow := fun i k o q => by
    obtain ⟨hi, e⟩ := wipeE_some q (fun z => nomatch z)
    rw [wipe_get hi]; exact S.ow i k o e
  sep := fun j j' k1 o1 k2 o2 q a1 a2 b1 b2 => by
    obtain ⟨h1, c1⟩ := wipeE_some a1 (fun z => nomatch z)
    obtain ⟨h2, c2⟩ := wipeE_some a2 (fun z => nomatch z)
    rw [wipe_get h1] at b1
    rw [wipe_get h2] at b2
    exact S.sep j j' k1 o1 k2 o2 q c1 c2 b1 b2
/-- the same state, the block's names forgotten again -/
theorem Sim.wiped2 {vs : List Nat} {σ0 : St} (S : Sim B F env σ H) (h : wipe σ vs = wipe σ0 vs) : Sim B F (wipeE vs 0 env) (wipe σ0 vs) H := by
  rw [← h]; exact S.wiped vs
theorem wiped_own {vs : List Nat} {b : Addr} (h : Own (wipeE vs 0 env) (wipe σ vs) b) : Own env σ b := by
  obtain ⟨i, k, o, q, z⟩ := h
  obtain ⟨hi, e⟩ := wipeE_some q (fun z => nomatch z)
  rw [wipe_get hi] at z
  exact ⟨i, k, o, e, z⟩
def lc (vs : List Nat) (g : D → Env → Option Env) (mt : M Bool) (me : M Opd) : List D → List D → Env → R (List D)
  | [], acc, env => .ok acc env
  | d :: ds, acc, env => match g d env with
    | none => .bad
    | some e1 => match mt e1 with
      | .ok false e2 => lc vs g mt me ds acc (wipeE vs 0 e2)
      | .ok true e2 => match M.bind me frz1 e2 with
        | .ok y e3 => lc vs g mt me ds (acc ++ [y]) (wipeE vs 0 e3)
        | _ => .bad
      | _ => .bad
def mLC (vs : List Nat) (it : M (List D)) (g : D → Env → Option Env) (mt : M Bool) (me : M Opd) : M O := M.bind it fun ds env => if ds.length ≤ sizeLine then (match lc vs g mt me ds [] (wipeE vs 0 env) with
  | .ok acc e2 => .ok (.lst acc) (restE vs 0 env e2)
  | _ => .bad) else .bad
abbrev WF : WX := fun _ _ _ _ => False
abbrev DTs (B : Bx) (X : Cx) (W : WX) (es : List Expr) (m : M Bool) : Prop := PTs X es (tT B W m)
theorem dts0 : DTs B X W [] (M.pure true) := ⟨fun pins s σ H Q I h => by
  obtain ⟨F, env, S, h⟩ := h
  exact pts_nil.run pins s σ H Q I (Post.here S h)⟩
theorem dts1 {c : Expr} {m : M Bool} (h : DT B X W c m) : DTs B X W [c] m := pts_one h
theorem Sim.updD {Dd : Addr} {u : HO} (S : Sim B F env σ H) (hf : F Dd = none) (hn : ¬ Own env σ Dd) : Sim B F env σ (upd H Dd u) where
  hold := fun b w e => by
    have : b ≠ Dd := fun z => by rw [z, hf] at e; cases e
    rw [upd_ne this]; exact S.hold b w e
  len := S.len
  fz := S.fz
  ow := fun i k o q => by
    obtain ⟨p, a, b, c⟩ := S.ow i k o q
    have : p ≠ Dd := fun z => hn ⟨i, k, o, q, by rw [← z]; exact a⟩
    exact ⟨p, a, b, c.mono (Le.refl _) fun u e => by rw [upd_ne this]; exact e⟩
  sep := S.sep
theorem wipeE_le {vs : List Nat} {e0 e e' : Env} (h : EnvLe (wipeE vs 0 e0) e) (h' : EnvLe e e') : EnvLe (wipeE vs 0 e0) (wipeE vs 0 e') where
  dn := fun i k o q => by
    obtain ⟨hi, a⟩ := wipeE_some q (fun z => nomatch z)
    exact (h.trans h').dn i k o a
  up := fun i o q => by
    obtain ⟨hi, _⟩ := wipeE_some q (fun z => nomatch z)
    obtain ⟨o', a⟩ := (h.trans h').up i o q
    exact ⟨o', by rw [wipeE_get]; simp only [Nat.zero_add]; rw [if_neg hi]; exact a⟩
/-- behind the block: the outer names as they were -/
theorem Sim.rest {vs : List Nat} (S1 : Sim B F1 e1 σ H1) (S2 : Sim B F2 e2 (wipe σ vs) H2) (l : EnvLe (wipeE vs 0 e1) e2) (le : Le F1 F2)
    (keep : ∀ b o, H1 b = some o → ¬ Own (wipeE vs 0 e1) (wipe σ vs) b → H2 b = some o) (new : ∀ (i : Nat) (k : Bool) (o : O) (b : Addr), i ∈ vs → e1[i]? = some (.ow k o) → σ[i]? = some (some (.ref b)) → F2 b = none) : Sim B F2 (restE vs 0 e1 e2) σ H2 ∧ EnvLe e1 (restE vs 0 e1 e2) := by
  have hlen : e1.length = e2.length := by
    have a := S1.len
    have b := S2.len
    rw [wipe_length] at b
    omega
  have get : ∀ (i : Nat) (s : Slot), (restE vs 0 e1 e2)[i]? = some s → (i ∈ vs ∧ e1[i]? = some s) ∨ (i ∉ vs ∧ e2[i]? = some s) := fun i s q => by
    rw [restE_get vs 0 e1 e2 i hlen] at q
    simp only [Nat.zero_add] at q
    by_cases hi : i ∈ vs
    · rw [if_pos hi] at q; exact .inl ⟨hi, q⟩
    · rw [if_neg hi] at q; exact .inr ⟨hi, q⟩
  have back : ∀ (i : Nat) (k : Bool) (o : O), i ∉ vs → e2[i]? = some (.ow k o) → ∃ o', e1[i]? = some (.ow k o') := fun i k o hi q => by
    obtain ⟨o', a⟩ := l.dn i k o q
    exact ⟨o', (wipeE_some a (fun z => nomatch z)).2⟩
  refine ⟨⟨S2.hold, by rw [restE_len]; have b := S2.len; rw [wipe_length] at b; exact b, fun i d q => ?_, fun i k o q => ?_, fun i j k o k' o' p a1 a2 b1 b2 => ?_⟩, ⟨fun i k o q => ?_, fun i o q => ?_⟩⟩
  · rcases get i _ q with ⟨hi, e⟩ | ⟨hi, e⟩
    · obtain ⟨v, a, b⟩ := S1.fz i d e
      exact ⟨v, a, Rep.mono le d v b⟩
    · obtain ⟨v, a, b⟩ := S2.fz i d e
      rw [wipe_get hi] at a
      exact ⟨v, a, b⟩
  · rcases get i _ q with ⟨hi, e⟩ | ⟨hi, e⟩
    · obtain ⟨p, a, b, c⟩ := S1.ow i k o e
      refine ⟨p, a, new i k o p hi e a, c.mono le fun u hu => keep p u hu fun ⟨j, k', o', q', z⟩ => ?_⟩
      obtain ⟨hj, e'⟩ := wipeE_some q' (fun z => nomatch z)
      rw [wipe_get hj] at z
      have := S1.sep i j k o k' o' p e e' a z
      subst this
      exact hj hi
    · obtain ⟨p, a, b, c⟩ := S2.ow i k o e
      rw [wipe_get hi] at a
      exact ⟨p, a, b, c⟩
  · have c1 : ∃ o1, e1[i]? = some (.ow k o1) := by
      rcases get i _ a1 with ⟨hi, e⟩ | ⟨hi, e⟩
      · exact ⟨o, e⟩
      · exact back i k o hi e
    have c2 : ∃ o1, e1[j]? = some (.ow k' o1) := by
      rcases get j _ a2 with ⟨hi, e⟩ | ⟨hi, e⟩
      · exact ⟨o', e⟩
      · exact back j k' o' hi e
    obtain ⟨o1, c1⟩ := c1
    obtain ⟨o2, c2⟩ := c2
    exact S1.sep i j k o1 k' o2 p c1 c2 b1 b2
  · rcases get i _ q with ⟨hi, e⟩ | ⟨hi, e⟩
    · exact ⟨o, e⟩
    · exact back i k o hi e
  · rw [restE_get vs 0 e1 e2 i hlen]
    simp only [Nat.zero_add]
    by_cases hi : i ∈ vs
    · rw [if_pos hi]; exact ⟨o, q⟩
    · rw [if_neg hi]
      exact l.up i o (by rw [wipeE_get]; simp only [Nat.zero_add]; rw [if_neg hi]; exact q)
theorem lc_read {vs ns : List Nat} {mi : M (List D)} {g : D → Env → Option Env} {mt : M Bool} {me : M Opd} {Q : VK} (hns : ∀ i ∈ ns, i ∈ vs) (h : tO B W (mLC vs mi g mt me) σ H Q) :
    tLc (tI B W mi) (tG B ns g) (tT B WF mt) (tE B WF me) vs σ H Q := by
  obtain ⟨F, env, S, h⟩ := h
  refine ⟨F, env, S, (Post.bind S h).mono fun ds e1 F1 H1 s1 m1 l1 k1 J it Dd hD => ?_⟩
  by_cases hz : ds.length ≤ sizeLine
  · rw [if_pos hz] at k1
    cases ql : lc vs g mt me ds [] (wipeE vs 0 e1) with
    | bad => rw [ql] at k1; exact k1.elim
    | exc c d e' => rw [ql] at k1; exact k1.elim
    | ok acc e2 =>
      rw [ql] at k1
      have nD : ¬ Own e1 σ Dd := fun z => by
        obtain ⟨_, u, hu⟩ := z.ex m1
        rw [hD] at hu; cases hu
      have nDw : ¬ Own (wipeE vs 0 e1) (wipe σ vs) Dd := fun z => nD (wiped_own z)
      have fD : F1 Dd = none := m1.hold.none hD
      obtain ⟨s0, hh0⟩ := step0_mk (u := .lst []) m1.hold hD
      have mw := (m1.step0 s0 hh0).wiped vs
      refine ⟨fun i m H' => i ≤ ds.length ∧ m = ds.length - i ∧ ∃ F' e' acc' av, Step (fun b => Own (wipeE vs 0 e1) (wipe σ vs) b ∨ b = Dd) F1 (upd H1 Dd (.lst [])) F' H' ∧ Sim B F' e' (wipe σ vs) H' ∧ EnvLe (wipeE vs 0 e1) e' ∧ H' Dd = some (.lst av) ∧ F' Dd = none ∧ RepL B F' acc' av ∧ acc'.length ≤ i ∧ lc vs g mt me (ds.drop i) acc' e' = .ok acc e2,
        ⟨ds.length, Nat.zero_le _, rfl, F1, wipeE vs 0 e1, [], [], Step.refl _ _ _, mw, EnvLe.refl _, upd_same, fD, rfl, Nat.zero_le _, ql⟩, ?_⟩
      rintro i m H' ⟨hi, rfl, F', e', acc', av, st, sm, le', hav, hfd, rl, hal, hlc⟩
      obtain ⟨it1, it2⟩ := it i F' H' st.le sm.hold
      have own_e : ∀ {b : Addr}, Own e' (wipe σ vs) b → Own (wipeE vs 0 e1) (wipe σ vs) b := fun z => le'.own z
      have nDe : ¬ Own e' (wipe σ vs) Dd := fun z => nDw (own_e z)
      cases q : ds[i]? with
      | none =>
        have e : i = ds.length := by
          have := List.getElem?_eq_none_iff.mp q
          omega
        left
        rw [e, List.drop_length] at hlc
        cases hlc
        refine ⟨it2 e, ?_⟩
        have stt : Step (Own e1 σ) F1 H1 F' H' := (s0.any (own := Own e1 σ)).trans st fun b z => by
          rcases z with z | z
          · exact .inl (wiped_own z)
          · exact .inr (by rw [z]; exact hD)
        obtain ⟨sr, lr⟩ := m1.rest sm le' st.le (fun b o e n => by
            by_cases hb : b = Dd
            · rw [hb, hD] at e; cases e
            · exact st.keep b o (by rw [upd_ne hb]; exact e) fun z => z.elim n hb) (fun j k o b hj z1 z2 => by
            obtain ⟨z3, u, hu⟩ := Own.ex m1 ⟨j, k, o, z1, z2⟩
            have hb : b ≠ Dd := fun y => by rw [y, hD] at hu; cases hu
            cases w : F' b with
            | none => rfl
            | some w' =>
              rcases st.new b w' w with y | y | y
              · rw [z3] at y; cases y
              · rw [upd_ne hb, hu] at y; cases y
              · rcases y with ⟨j', k', o', q1, q2⟩ | y
                · obtain ⟨hj', q3⟩ := wipeE_some q1 (fun z => nomatch z)
                  rw [wipe_get hj'] at q2
                  have := m1.sep j j' k o k' o' b z1 q3 z2 q2
                  subst this
                  exact absurd hj hj'
                · exact absurd y hb)
        exact k1 F' H' stt sr lr Dd (s1.back hD) hfd ⟨by omega, av, hav, rl⟩
      | some d =>
        right
        obtain ⟨go, yl⟩ := it1 d q
        have hlt : i < ds.length := (List.getElem?_eq_some_iff.mp q).1
        have hd : ds.drop i = d :: ds.drop (i + 1) := by
          rw [List.drop_eq_getElem_cons hlt]
          congr 1
          exact (List.getElem?_eq_some_iff.mp q).2
        rw [hd] at hlc
        refine ⟨go, fun H'' => i + 1 ≤ ds.length ∧ ∃ F' e' acc' av, Step (fun b => Own (wipeE vs 0 e1) (wipe σ vs) b ∨ b = Dd) F1 (upd H1 Dd (.lst [])) F' H'' ∧ Sim B F' e' (wipe σ vs) H'' ∧ EnvLe (wipeE vs 0 e1) e' ∧ H'' Dd = some (.lst av) ∧ F' Dd = none ∧ RepL B F' acc' av ∧ acc'.length ≤ i + 1 ∧ lc vs g mt me (ds.drop (i + 1)) acc' e' = .ok acc e2,
          fun H'' z => ⟨ds.length - (i + 1), by omega, z.1, rfl, z.2⟩, fun x H2 y => ?_⟩
        obtain ⟨F2, s2, h2, r2⟩ := yl x H2 y
        have S2 := sm.step0 s2 h2
        have hav2 : H2 Dd = some (.lst av) := s2.keep _ _ hav id
        have hfd2 : F2 Dd = none := by
          cases w : F2 Dd with
          | none => rfl
          | some w' =>
            rcases s2.new _ _ w with y | y | y
            · rw [hfd] at y; cases y
            · rw [hav] at y; cases y
            · exact y.elim
        unfold lc at hlc
        cases qg : g d e' with
        | none => simp only [qg] at hlc; cases hlc
        | some e3 =>
          simp only [qg] at hlc
          refine ⟨F2, e', d, e3, S2, r2, qg, fun σ3 g3 w3 => ?_⟩
          have ws : wipe σ3 vs = wipe σ vs := wipe_eq (by rw [w3.len, wipe_length]) fun j hj => w3.rest j fun z => hj (hns j z)
          refine ⟨ws, F2, e3, g3.sim, ?_⟩
          have own3 : ∀ {b : Addr}, Own e3 σ3 b → Own (wipeE vs 0 e1) (wipe σ vs) b ∨ H2 b = none := fun z => (g3.owned z).imp own_e id
          have nD3 : ¬ Own e3 σ3 Dd := fun z => by
            rcases own3 z with z | z
            · exact nDw z
            · rw [hav2] at z; cases z
          have st2 : Step (fun b => Own (wipeE vs 0 e1) (wipe σ vs) b ∨ b = Dd) F1 (upd H1 Dd (.lst [])) F2 H2 := st.trans (s2.any (own := fun _ => False)) fun _ z => z.elim
          have stp : ∀ {F4 H4 : Hp}, Step (Own e3 σ3) F2 H2 F4 H4 → Step (fun b => Own (wipeE vs 0 e1) (wipe σ vs) b ∨ b = Dd) F1 (upd H1 Dd (.lst [])) F4 H4 := fun s4 => st2.trans s4 fun b z => by
            rcases own3 z with z | z
            · exact .inl (.inl z)
            · exact .inr (st2.back z)
          have dk : ∀ (F4 H4 : Hp), Step (Own e3 σ3) F2 H2 F4 H4 → H4 Dd = some (.lst av) ∧ F4 Dd = none := fun F4 H4 s4 => ⟨s4.keep _ _ hav2 nD3, by
            cases w : F4 Dd with
            | none => rfl
            | some w' =>
              rcases s4.new _ _ w with y | y | y
              · rw [hfd2] at y; cases y
              · rw [hav2] at y; cases y
              · exact absurd y nD3⟩
          cases qt : mt e3 with
          | bad => simp only [qt] at hlc; cases hlc
          | exc c d' e4 => simp only [qt] at hlc; cases hlc
          | ok bt e4 =>
            intro F4 H4 s4 m4 l4
            obtain ⟨hav4, hfd4⟩ := dk _ _ s4
            cases bt with
            | false =>
              simp only [qt] at hlc
              refine iteF ⟨hlt, F4, wipeE vs 0 e4, acc', av, stp s4, m4.wiped2 ws, wipeE_le le' (w3.le.trans l4), hav4, hfd4, rl.mono (s2.le.trans s4.le), by omega, hlc⟩
            | true =>
              simp only [qt] at hlc
              cases qe : M.bind me frz1 e4 with
              | bad => simp only [qe] at hlc; cases hlc
              | exc c d' e5 => simp only [qe] at hlc; cases hlc
              | ok yv e5 =>
                simp only [qe] at hlc
                refine iteT ⟨F4, e4, m4, ?_⟩
                have pb : Post B WF F4 e4 σ3 H4 (fun d' e' F' H' => d' = yv ∧ e' = e5) (M.bind me frz1 e4) := by
                  rw [qe]; exact fun _ _ _ _ _ => ⟨rfl, rfl⟩
                refine (Post.bind m4 pb).mono fun xo e5' F5 H5 s5 m5 l5 k5 v rv => ?_
                obtain ⟨d6, e6, F6, s6, m6, l6, r6, rfl, rfl⟩ := m5.frz1 rv k5
                have s46 : Step (Own e3 σ3) F2 H2 F6 H5 := s4.trans ((s5.trans s6 fun b z => .inl (l5.own z)) : Step (Own e4 σ3) F4 H4 F6 H5) fun b z => .inl (l4.own z)
                obtain ⟨hav5, hfd5⟩ := dk _ _ s46
                have nD6 : ¬ Own e6 σ3 Dd := fun z => nD3 (l4.own (l5.own (l6.own z)))
                have hlen : av.length = acc'.length := rl.length
                refine ⟨av, hav5, by omega, hlt, F6, wipeE vs 0 e6, acc' ++ [d6], av ++ [v], ?_, (m6.updD hfd5 nD6).wiped2 ws, wipeE_le le' (w3.le.trans (l4.trans (l5.trans l6))), upd_same, hfd5, (rl.mono (s2.le.trans s46.le)).snoc r6, by rw [List.length_append, List.length_singleton]; omega, hlc⟩
                have sf := stp s46
                refine ⟨sf.le, fun b o e n => ?_, sf.new, fun b o e => ?_⟩
                · have hb : b ≠ Dd := fun z => n (.inr z)
                  rw [upd_ne hb]; exact sf.keep b o e n
                · by_cases hb : b = Dd
                  · exact ⟨_, by rw [hb]; exact upd_same⟩
                  · obtain ⟨o', e'⟩ := sf.stay b o e
                    exact ⟨o', by rw [upd_ne hb]; exact e'⟩
  · rw [if_neg hz] at k1; exact k1.elim
section
variable {elt tg iter : Expr} {ifs : List Expr} {scope : Scope} {own : List (Str × Nat)} {pos : Pos} {mi : M (List D)} {ns : List Nat} {g : D → Env → Option Env} {mt : M Bool} {me : M Opd}
theorem do_lc (hc : X.calm = true) (hN : X.N.Nodup) (hi : DI B X W tg iter mi) (ok : blkC X.N X.env.scope scope own = true)
    (hg : ∀ (s : Shared) (H : Hp) (C : Addr) (cl : List (Str × Addr)) (fp : List Addr), DG B (X.blk s H scope (compEnvC scope cl C X.env) fp) tg ns g)
    (ht : ∀ (s : Shared) (H : Hp) (C : Addr) (cl : List (Str × Addr)) (fp : List Addr), DTs B (X.blk s H scope (compEnvC scope cl C X.env) fp) WF ifs mt)
    (he : ∀ (s : Shared) (H : Hp) (C : Addr) (cl : List (Str × Addr)) (fp : List Addr), DE B (X.blk s H scope (compEnvC scope cl C X.env) fp) WF elt me)
    (hns : ∀ i ∈ ns, i ∈ own.map (·.2)) (hs : ∀ x, foldedSetIterable iter X.env x = pure x := by intro _; rfl) :
    DO B X W (.ListComp elt [⟨tg, iter, ifs, 0⟩] scope pos) (mLC (own.map (·.2)) mi g mt me) :=
  PE.imp (pe_lc hc hN hi (blkOk_by ok) hg ht he hs) fun σ H Q h => lc_read hns h
theorem fz_read {m : M O} {Q : VK} (h : tE B W (mFz m) σ H Q) : tO B W m σ H Q := by
  obtain ⟨F, env, S, h⟩ := h
  refine ⟨F, env, S, (Post.bindPure h).mono fun o e1 F1 H1 s1 m1 o1 k1 p hp hf ho => ?_⟩
  have np : ¬ Own e1 σ p := fun z => by
    obtain ⟨_, u, hu⟩ := (o1.own z).ex S
    rw [hp] at hu; cases hu
  obtain ⟨u, hu, r⟩ := ho.data hf
  refine k1 (upd F1 p u) H1 ⟨s1.le.trans (Le.upd hf), s1.keep, fun b w q => ?_, s1.stay⟩ (m1.data np hf hu) (.ref p) r
  by_cases hb : b = p
  · subst hb; exact .inr (.inl hp)
  · rw [upd_ne hb] at q; exact s1.new b w q
theorem ds_setLcO (i : Nat) {y : Str} {py spos : Pos} (hc : X.calm = true) (hN : X.N.Nodup) (hi : DI B X W tg iter mi) (ok : blkC X.N X.env.scope scope own = true)
    (hg : ∀ (s : Shared) (H : Hp) (C : Addr) (cl : List (Str × Addr)) (fp : List Addr), DG B (X.blk s H scope (compEnvC scope cl C X.env) fp) tg ns g)
    (ht : ∀ (s : Shared) (H : Hp) (C : Addr) (cl : List (Str × Addr)) (fp : List Addr), DTs B (X.blk s H scope (compEnvC scope cl C X.env) fp) WF ifs mt)
    (he : ∀ (s : Shared) (H : Hp) (C : Addr) (cl : List (Str × Addr)) (fp : List Addr), DE B (X.blk s H scope (compEnvC scope cl C X.env) fp) WF elt me)
    (hns : ∀ i ∈ ns, i ∈ own.map (·.2)) (hsw : swapsWith (.ListComp elt [⟨tg, iter, ifs, 0⟩] scope pos) (some (.Name y py)) spos.line X.env = pure true) (hy : X.N[i]? = some y := by rfl) (hyl : X.env.scope.names.lookup y = some .local := by rfl) (hs : ∀ x, foldedSetIterable iter X.env x = pure x := by intro _; rfl) :
    DS B X W (.Assign [.Name y py] (.ListComp elt [⟨tg, iter, ifs, 0⟩] scope pos) spos) (mSetO i (mLC (own.map (·.2)) mi g mt me)) :=
  PS.imp (ps_setLc hc hN hy hyl hsw hi (blkOk_by ok) hg ht he hs) fun D σ H h => lc_read hns (tsetO_ok h)
theorem ds_setLc (i : Nat) {y : Str} {py spos : Pos} (hc : X.calm = true) (hN : X.N.Nodup) (hi : DI B X W tg iter mi) (ok : blkC X.N X.env.scope scope own = true)
    (hg : ∀ (s : Shared) (H : Hp) (C : Addr) (cl : List (Str × Addr)) (fp : List Addr), DG B (X.blk s H scope (compEnvC scope cl C X.env) fp) tg ns g)
    (ht : ∀ (s : Shared) (H : Hp) (C : Addr) (cl : List (Str × Addr)) (fp : List Addr), DTs B (X.blk s H scope (compEnvC scope cl C X.env) fp) WF ifs mt)
    (he : ∀ (s : Shared) (H : Hp) (C : Addr) (cl : List (Str × Addr)) (fp : List Addr), DE B (X.blk s H scope (compEnvC scope cl C X.env) fp) WF elt me)
    (hns : ∀ i ∈ ns, i ∈ own.map (·.2)) (hsw : swapsWith (.ListComp elt [⟨tg, iter, ifs, 0⟩] scope pos) (some (.Name y py)) spos.line X.env = pure true) (hy : X.N[i]? = some y := by rfl) (hyl : X.env.scope.names.lookup y = some .local := by rfl) (hs : ∀ x, foldedSetIterable iter X.env x = pure x := by intro _; rfl) :
    DS B X W (.Assign [.Name y py] (.ListComp elt [⟨tg, iter, ifs, 0⟩] scope pos) spos) (mSet i (mFz (mLC (own.map (·.2)) mi g mt me))) :=
  PS.imp (ps_setLc hc hN hy hyl hsw hi (blkOk_by ok) hg ht he hs) fun D σ H h => lc_read hns (fz_read (tset_ok h))
end
end
end AN

set_option Elab.async false
set_option maxRecDepth 100000
set_option autoImplicit false
set_option linter.unusedVariables false
namespace AN
open PySem L2
open PyProof.Rows (envOfC)

/-! ### a def as a plain function -/
inductive Ret where
  | fz (d : D)
  | ow (o : O)
def Ret.toD : Ret → D
  | .fz d => d
  | .ow o => o.toD
abbrev Fn := List Slot → R Ret
/-- the pinned ones as they stand behind, the others as they came -/
def outs : List Slot → Env → List Slot
  | .ow true o :: as, s :: e => s :: outs as e
  | a :: as, _ :: e => a :: outs as e
  | _, _ => []
def runF (n : Nat) (m : M Fl) : Fn := fun args => match m (args ++ List.replicate n .no) with
  | .ok .nx e => .ok (.fz .non) (outs args e)
  | .ok (.rt d) e => .ok (.fz d) (outs args e)
  | .ok (.ro o) e => .ok (.ow o) (outs args e)
  | .exc c d e => .exc c d (outs args e)
  | _ => .bad
def PinOnly (args : List Slot) : Prop := ∀ (i : Nat) (k : Bool) (o : O), args[i]? = some (.ow k o) → k = true
def spOf (B : Bx) (n : Nat) (f : Fn) : Sp := fun vs H Q E => vs.length = n ∧ ∃ F args, Sim B F args (vs.map some) H ∧ PinOnly args ∧ match f args with
  | .ok (.fz d) args' => ∀ v F' H', Step (Own args (vs.map some)) F H F' H' → Sim B F' args' (vs.map some) H' → Rep B F' d v → Q v H'
  | .ok (.ow o) args' => ∀ p F' H', Step (Own args (vs.map some)) F H F' H' → Sim B F' args' (vs.map some) H' → H p = none → F' p = none → OAt B F' H' p o → Q (.ref p) H'
  | .exc c d args' => ∃ C fld, B.exc c = some (C, fld) ∧ ∀ F' H' dx v, Step (Own args (vs.map some)) F H F' H' → Sim B F' args' (vs.map some) H' → H' dx = some (.xd [(fld, v)]) → F' dx = none → H dx = none → Rep B F' d v → E (.ref C) (some dx) H'
  | .bad => False
/-- a plainer function that says the same wherever it says anything -/
theorem spOf.to {B : Bx} {n : Nat} {f g : Fn} (h : ∀ args, args.length = n → PinOnly args → g args ≠ .bad → f args = g args) {vs : List V} {H : Hp} {Q : VK} {E : XK} (s : spOf B n g vs H Q E) : spOf B n f vs H Q E := by
  obtain ⟨hl, F, args, S, po, k⟩ := s
  have ha : args.length = n := by rw [S.len, List.length_map]; exact hl
  refine ⟨hl, F, args, S, po, ?_⟩
  rw [h args ha po (fun z => by rw [z] at k; exact k)]
  exact k
theorem outs_get : ∀ {args : List Slot} {e : Env} {i : Nat} {s : Slot}, args.length ≤ e.length → (outs args e)[i]? = some s → (∃ o, args[i]? = some (.ow true o) ∧ e[i]? = some s) ∨ ((∀ o, args[i]? ≠ some (.ow true o)) ∧ args[i]? = some s)
  | [], e, i, s, _, h => by
    unfold outs at h
    simp at h
  | a :: as, [], i, s, hl, h => by simp at hl
  | a :: as, t :: e, 0, s, hl, h => by
    cases a with
    | no => simp [outs] at h; subst h; exact .inr ⟨(fun o z => by simp at z), rfl⟩
    | fz d => simp [outs] at h; subst h; exact .inr ⟨(fun o z => by simp at z), rfl⟩
    | ow k o =>
      cases k with
      | true => simp [outs] at h; subst h; exact .inl ⟨o, rfl, rfl⟩
      | false => simp [outs] at h; subst h; exact .inr ⟨(fun o z => by simp at z), rfl⟩
  | a :: as, t :: e, i + 1, s, hl, h => by
    have hl' : as.length ≤ e.length := by simpa using hl
    have h' : (outs as e)[i]? = some s := by
      cases a with
      | no => simpa [outs] using h
      | fz d => simpa [outs] using h
      | ow k o => cases k <;> simpa [outs] using h
    simpa using outs_get hl' h'
theorem outs_len : ∀ {args : List Slot} {e : Env}, args.length ≤ e.length → (outs args e).length = args.length
  | [], e, _ => by unfold outs; simp
  | a :: as, [], hl => by simp at hl
  | a :: as, t :: e, hl => by
    have ih := outs_len (args := as) (e := e) (by simpa using hl)
    cases a with
    | no => simp [outs, ih]
    | fz d => simp [outs, ih]
    | ow k o => cases k <;> simp [outs, ih]
section
variable {B : Bx} {X : Cx} {W : WX} {F H F1 H1 F2 H2 : Hp} {env e1 e2 : Env} {σ σ1 σ2 : St}
theorem start_env {args : List Slot} {vs : List V} {N : List Str} {n : Nat} (hn : N.length - vs.length = n) (S : Sim B F args (vs.map some) H) : Sim B F (args ++ List.replicate n .no) (L2.start N vs) H := by
  have hl : args.length = (vs.map some).length := S.len
  have get : ∀ (i : Nat) (s : Slot), s ≠ .no → (args ++ List.replicate n .no)[i]? = some s → args[i]? = some s ∧ (L2.start N vs)[i]? = (vs.map some)[i]? := fun i s hs q => by
    rw [List.getElem?_append] at q
    by_cases hi : i < args.length
    · rw [if_pos hi] at q
      refine ⟨q, ?_⟩
      unfold L2.start
      rw [List.getElem?_append, if_pos (by omega)]
    · rw [if_neg hi, List.getElem?_replicate] at q
      by_cases h2 : i - args.length < n
      · rw [if_pos h2] at q; cases q; exact absurd rfl hs
      · rw [if_neg h2] at q; cases q
  refine ⟨S.hold, ?_, fun i d q => ?_, fun i k o q => ?_, fun i j k o k' o' p a1 a2 b1 b2 => ?_⟩
  · unfold L2.start
    rw [List.length_append, List.length_append, List.length_replicate, List.length_replicate, hn, hl]
  · obtain ⟨e, z⟩ := get i (.fz d) (fun z => nomatch z) q
    rw [z]; exact S.fz i d e
  · obtain ⟨e, z⟩ := get i (.ow k o) (fun z => nomatch z) q
    rw [z]; exact S.ow i k o e
  · obtain ⟨x1, z1⟩ := get i (.ow k o) (fun z => nomatch z) a1
    obtain ⟨x2, z2⟩ := get j (.ow k' o') (fun z => nomatch z) a2
    rw [z1] at b1
    rw [z2] at b2
    exact S.sep i j k o k' o' p x1 x2 b1 b2
theorem start_own {args : List Slot} {vs : List V} {N : List Str} {n : Nat} {b : Addr} (hl : args.length = vs.length) (h : Own (args ++ List.replicate n .no) (L2.start N vs) b) : Own args (vs.map some) b := by
  obtain ⟨i, k, o, q, z⟩ := h
  rw [List.getElem?_append] at q
  by_cases hi : i < args.length
  · rw [if_pos hi] at q
    unfold L2.start at z
    rw [List.getElem?_append, if_pos (by rw [List.length_map]; omega)] at z
    exact ⟨i, k, o, q, z⟩
  · rw [if_neg hi, List.getElem?_replicate] at q
    by_cases h2 : i - args.length < n
    · rw [if_pos h2] at q; cases q
    · rw [if_neg h2] at q; cases q
/-- at the end: the arguments again -/
theorem end_args {args : List Slot} {vs : List V} {N : List Str} {n : Nat} {e' : Env} {σ' : St} (hl : args.length = vs.length) (S : Sim B F args (vs.map some) H) (g : Go B F (args ++ List.replicate n .no) (L2.start N vs) H F1 e' σ' H1) (hle : args.length ≤ e'.length) (po : PinOnly args) :
    Sim B F1 (outs args e') (vs.map some) H1 := by
  have pos : ∀ (i : Nat), i < args.length → (args ++ List.replicate n Slot.no)[i]? = args[i]? ∧ (L2.start N vs)[i]? = (vs.map some)[i]? := fun i hi => by
    refine ⟨by rw [List.getElem?_append, if_pos hi], ?_⟩
    unfold L2.start
    rw [List.getElem?_append, if_pos (by rw [List.length_map]; omega)]
  have pin : ∀ (i : Nat) (o : O), args[i]? = some (.ow true o) → (∃ o', e'[i]? = some (.ow true o')) ∧ σ'[i]? = (vs.map some)[i]? := fun i o q => by
    have hi : i < args.length := (List.getElem?_eq_some_iff.mp q).1
    obtain ⟨p1, p2⟩ := pos i hi
    obtain ⟨a, b⟩ := g.pin i o (by rw [p1]; exact q)
    exact ⟨a, b.trans p2⟩
  refine ⟨g.sim.hold, by rw [outs_len hle]; exact S.len, fun i d q => ?_, fun i k o q => ?_, fun i j k o k' o' p a1 a2 b1 b2 => ?_⟩
  · rcases outs_get hle q with ⟨o, a, b⟩ | ⟨a, b⟩
    · obtain ⟨⟨o', c⟩, _⟩ := pin i o a
      rw [b] at c; cases c
    · obtain ⟨v, c1, c2⟩ := S.fz i d b
      exact ⟨v, c1, Rep.mono g.step.le d v c2⟩
  · rcases outs_get hle q with ⟨o0, a, b⟩ | ⟨a, b⟩
    · obtain ⟨_, z⟩ := pin i o0 a
      obtain ⟨p, c1, c2, c3⟩ := g.sim.ow i k o b
      exact ⟨p, by rw [← z]; exact c1, c2, c3⟩
    · have := po i k o b
      subst this
      exact absurd b (a o)
  · have c : ∀ {i : Nat} {k : Bool} {o : O}, (outs args e')[i]? = some (.ow k o) → ∃ o1, args[i]? = some (.ow true o1) := fun {i k o} q => by
      rcases outs_get hle q with ⟨o0, a, b⟩ | ⟨a, b⟩
      · exact ⟨o0, a⟩
      · have := po i k o b
        subst this
        exact ⟨o, b⟩
    obtain ⟨o1, c1⟩ := c a1
    obtain ⟨o2, c2⟩ := c a2
    exact S.sep i j true o1 true o2 p c1 c2 b1 b2
end
section
variable {B : Bx} {P : Program} {w : World} {K : PySem.W.Frag} {mg : Str → Option Value} {base : Heap}
/-- what a def promises, told of its body -/
theorem spOf_body {N : List Str} {n np : Nat} {m : M Fl} {vs : List V} {H : Hp} {Q : VK} {E : XK} (hn : N.length - np = n) (h : spOf B np (runF n m) vs H Q E) :
    tS B (fun cls d _ H => E cls d H) m { nx := fun _ H' => Q .non H', rt := Q } (L2.start N vs) H := by
  obtain ⟨hl, F, args, Sm, po, h⟩ := h
  refine ⟨F, args ++ List.replicate n .no, start_env (by rw [hl]; exact hn) Sm, ?_⟩
  have hal : args.length = vs.length := by rw [Sm.len, List.length_map]
  have hlen : ∀ {F' : Hp} {e' : Env} {σ' : St} {H' : Hp}, Go B F (args ++ List.replicate n .no) (L2.start N vs) H F' e' σ' H' → args.length ≤ e'.length := fun {F' e' σ' H'} g => by
    have a := g.sim.len
    have b := (start_env (B := B) (N := N) (n := n) (by rw [hl]; exact hn) Sm).len
    rw [g.len, ← b, List.length_append] at a
    omega
  unfold runF at h
  cases q : m (args ++ List.replicate n .no) with
  | bad => rw [q] at h; exact h
  | exc c d e' =>
    rw [q] at h
    obtain ⟨C, fld, hb, h⟩ := h
    exact ⟨C, fld, hb, fun σ' F' H' dx v g hd hf h0 r => h F' H' dx v (g.step.imp fun b z => start_own hal z) (end_args hal Sm g (hlen g) po) hd hf h0 r⟩
  | ok fl e' =>
    rw [q] at h
    cases fl with
    | nx => exact fun σ' F' H' g => h .non F' H' (g.step.imp fun b z => start_own hal z) (end_args hal Sm g (hlen g) po) rfl
    | rt d => exact fun v σ' F' H' g r => h v F' H' (g.step.imp fun b z => start_own hal z) (end_args hal Sm g (hlen g) po) r
    | ro o =>
      refine fun p σ' F' H' g hp np hf ho => h p F' H' (g.step.imp fun b z => start_own hal z) (end_args hal Sm g (hlen g) po) ?_ hf ho
      rcases hp with ⟨i, o', a, b⟩ | hp
      · exfalso
        rw [List.getElem?_append] at a
        by_cases hi : i < args.length
        · rw [if_pos hi] at a
          have := po i false o' a
          cases this
        · rw [if_neg hi, List.getElem?_replicate] at a
          by_cases h2 : i - args.length < n
          · rw [if_pos h2] at a; cases a
          · rw [if_neg h2] at a; cases a
      · exact hp
    | bk => exact h.elim
    | ct => exact h.elim
/-- THE RULE for a def: its body read as m -/
theorem fn_ok {x qual : Str} {st : Stmt} {f : Addr} {fd : FuncData} {N ps : List Str} {k n : Nat} {m : M Fl} (Fd : Fun K x qual st f fd) (S : FnScope N ps (defScope st)) (hn : N.length - ps.length = n) (hnp : ps.length ≤ N.length)
    (hbody : ∀ (cdv : Value) (A : Around) (outer : List PySem.Env) (s : Shared) (H : Hp) (E : XK), Room k (A.deeper (envOfC qual (defScope st) s.heap.objs.size f cdv)) →
      Takes (cxOf (L2.CX P w) P w K mg base N qual (defScope st) f cdv A outer s H E) (fun cls d _ H => E cls d H) →
      PassesOwn (model P w) (A.deeper (envOfC qual (defScope st) s.heap.objs.size f cdv)) (envOfC qual (defScope st) s.heap.objs.size f cdv) (cxOf (L2.CX P w) P w K mg base N qual (defScope st) f cdv A outer s H E).xe →
      DSs B (cxOf (L2.CX P w) P w K mg base N qual (defScope st) f cdv A outer s H E) (fun cls d _ H => E cls d H) (defBody st) m) :
    FnOk P w K mg base (L2.CX P w) (k + 1) f fd ps (spOf B ps.length (runF n m)) := by
  refine Fd.okX S (fun vs H Q E h => h.1) fun cdv A outer s H vs Q E hr h => ?_
  exact ⟨_, hbody cdv A outer s H E hr (takes_of rfl rfl rfl rfl) (passes_of rfl), spOf_body hn h⟩
end
end AN

set_option Elab.async false
set_option maxRecDepth 100000
set_option autoImplicit false
set_option linter.unusedVariables false
namespace AN
open PySem L2

/-! ### calls of defs that change nothing of their caller's -/
def scalar : D → Bool
  | .non => true
  | .bl _ => true
  | .int _ => true
  | .str _ => true
  | _ => false
theorem scalar_rep {B : Bx} {F F' : Hp} {d : D} {v : V} (h : scalar d = true) (r : Rep B F d v) : Rep B F' d v := by
  cases d with
  | non => exact r
  | bl b => exact r
  | int i => exact r
  | str s => exact r
  | _ => cases h
def callP (n : Nat) (f : Fn) (xs : List Opd) : M Ret := fun env => if xs.length = n then (match frzs xs env with
  | .ok ds e1 => (match f (ds.map .fz) with
    | .ok r _ => if scalar r.toD = true then .ok r env else .ok r e1
    | .exc c d _ => .exc c d e1
    | .bad => .bad)
  | _ => .bad) else .bad
def mCall (n : Nat) (f : Fn) (ms : M (List Opd)) : M Opd := M.bind ms fun xs => M.bind (callP n f xs) fun r => M.pure (.d r.toD)
def retO (r : Ret) : M O := match r with
  | .ow o => M.pure o
  | .fz _ => fun _ => .bad
def mCallO (n : Nat) (f : Fn) (ms : M (List Opd)) : M O := M.bind ms fun xs => M.bind (callP n f xs) retO
section
variable {B : Bx} {X : Cx} {W : WX} {F H F1 H1 F2 H2 : Hp} {env e1 e2 : Env} {σ σ1 σ2 : St} {Q : VK}
theorem OpdsRel.len {vs : List V} {xs : List Opd} (h : OpdsRel B F σ vs xs) : vs.length = xs.length := by
  induction h with
  | nil => rfl
  | cons _ _ ih => simp [ih]
theorem sim_fz {ds : List D} {vs : List V} (hh : Holds F H) (r : RepL B F ds vs) : Sim B F (ds.map .fz) (vs.map some) H where
  hold := hh
  len := by rw [List.length_map, List.length_map, r.length]
  fz := fun i d q => by
    rw [List.getElem?_map] at q
    cases e : ds[i]? with
    | none => rw [e] at q; cases q
    | some d' =>
      rw [e] at q; cases q
      obtain ⟨v, a, b⟩ := r.get e
      exact ⟨v, by rw [List.getElem?_map, a]; rfl, b⟩
  ow := fun i k o q => by
    rw [List.getElem?_map] at q
    cases e : ds[i]? with
    | none => rw [e] at q; cases q
    | some d' => rw [e] at q; cases q
  sep := fun i j k o k' o' p q => by
    rw [List.getElem?_map] at q
    cases e : ds[i]? with
    | none => rw [e] at q; cases q
    | some d' => rw [e] at q; cases q
theorem fz_own {ds : List D} {b : Addr} : ¬ Own (ds.map .fz) σ b := fun ⟨i, k, o, q, _⟩ => by
  rw [List.getElem?_map] at q
  cases e : ds[i]? with
  | none => rw [e] at q; cases q
  | some d' => rw [e] at q; cases q
theorem fz_pin {ds : List D} : PinOnly (ds.map .fz) := fun i k o q => by
  rw [List.getElem?_map] at q
  cases e : ds[i]? with
  | none => rw [e] at q; cases q
  | some d' => rw [e] at q; cases q
/-- the state behind a call that changed nothing of ours, the callee's data forgotten -/
theorem Step0.drop (h : Step0 F H F1 H1) (hh : Holds F H) : Step0 F H F H1 ∧ Holds F H1 := by
  refine ⟨⟨Le.refl F, h.keep, fun b u e => .inl e, h.stay⟩, fun b u e => ?_⟩
  rcases hh b u e with z | ⟨z, o, y⟩
  · exact .inl (h.keep b _ z id)
  · exact .inr ⟨z, o, h.keep b _ y id⟩
/-- a call, by what is wanted of its answer -/
theorem call_read {n : Nat} {f : Fn} {xs : List Opd} {vs : List V} {k : Ret → Env → Hp → Hp → Prop} (S : Sim B F env σ H) (rs : OpdsRel B F σ vs xs) (h : Post B W F env σ H k (callP n f xs env))
    (hq : ∀ r e1 F1 H1, Step (Own env σ) F H F1 H1 → Sim B F1 e1 σ H1 → EnvLe env e1 → (∀ F2 H2, Step (Own env σ) F H F2 H2 → Sim B F2 e1 σ H2 → k r e1 F2 H2) → match r with
      | .fz d => ∀ v, Rep B F1 d v → Q v H1
      | .ow o => ∀ p, H p = none → F1 p = none → OAt B F1 H1 p o → Q (.ref p) H1) : spOf B n f vs H Q (WE W σ) := by
  unfold callP at h
  by_cases hn : xs.length = n
  · rw [if_pos hn] at h
    cases qf : frzs xs env with
    | bad => rw [qf] at h; exact h.elim
    | exc c d e' => rw [qf] at h; exact h.elim
    | ok ds e1 =>
      rw [qf] at h
      obtain ⟨ds', e1', F1, s1, m1, l1, r1, q1⟩ := S.frzs (W := W) rs (k := fun d e _ _ => d = ds ∧ e = e1) (by rw [qf]; exact fun _ _ _ _ _ => ⟨rfl, rfl⟩)
      obtain ⟨rfl, rfl⟩ := q1
      refine ⟨rs.len.trans hn, F1, ds'.map .fz, sim_fz m1.hold r1, fz_pin, ?_⟩
      have s0 : ∀ {F' H' : Hp}, Step (Own (ds'.map .fz) (vs.map some)) F1 H F' H' → Step0 F1 H F' H' := fun s => s.imp fun b z => fz_own z
      have tr : ∀ {F' H' : Hp}, Step0 F1 H F' H' → Step (Own env σ) F H F' H' := fun s => s1.trans s fun _ z => z.elim
      cases qr : f (ds'.map .fz) with
      | bad => simp only [qr] at h; exact h.elim
      | exc c d a' =>
        simp only [qr] at h
        obtain ⟨C, fld, hb, h⟩ := h
        exact ⟨C, fld, hb, fun F' H' dx v s m hd hf h0 r => h F' H' dx v (tr (s0 s)) ⟨m1.step0 (s0 s) m.hold, l1⟩ hd hf h0 r⟩
      | ok r a' =>
        simp only [qr] at h
        cases r with
        | fz d =>
          intro v F' H' s m r
          by_cases hs : scalar d = true
          · rw [if_pos (show scalar (Ret.fz d).toD = true from hs)] at h
            obtain ⟨sd, hd⟩ := Step0.drop (F := F) (H := H) (F1 := F) (H1 := H') ⟨Le.refl F, (s0 s).keep, fun b u e => .inl e, (s0 s).stay⟩ S.hold
            exact hq (.fz d) env F H' sd.any (S.step0 sd hd) (EnvLe.refl _) (fun F2 H2 a b => h F2 H2 a b (EnvLe.refl _)) v (scalar_rep hs r)
          · rw [if_neg (show ¬ scalar (Ret.fz d).toD = true from hs)] at h
            exact hq (.fz d) e1' F' H' (tr (s0 s)) (m1.step0 (s0 s) m.hold) l1 (fun F2 H2 a b => h F2 H2 a b l1) v r
        | ow o =>
          intro p F' H' s m hp hf ho
          have hs : ¬ scalar (Ret.ow o).toD = true := by cases o <;> exact Bool.false_ne_true
          rw [if_neg hs] at h
          exact hq (.ow o) e1' F' H' (tr (s0 s)) (m1.step0 (s0 s) m.hold) l1 (fun F2 H2 a b => h F2 H2 a b l1) p hp hf ho
  · rw [if_neg hn] at h; exact h.elim
variable {e : Expr} {es : List Expr} {ms : M (List Opd)} {pos : Pos}
theorem call_de {n : Nat} {f : Fn} (h : tE B W (mCall n f ms) σ H Q) : tA B W ms σ H fun vs H1 => spOf B n f vs H1 Q (WE W σ) := by
  obtain ⟨F, env, S, h⟩ := h
  refine ⟨F, env, S, (Post.bind S h).mono fun xs e1 F1 H1 s1 m1 l1 k1 vs rvs => ?_⟩
  have k2 := Post.bindPure k1
  refine call_read m1 rvs k2 fun r e2 F2 H2 s2 m2 l2 k3 => ?_
  have k4 : ∀ F3 H3, Step (Own e1 σ) F1 H1 F3 H3 → Sim B F3 e2 σ H3 → ∀ v, Rep B F3 r.toD v → Q v H3 := fun F3 H3 a b v r => k3 F3 H3 a b F3 H3 a b v r
  cases r with
  | fz d => exact fun v r => k4 F2 H2 s2 m2 v r
  | ow o =>
    intro p hp hf ho
    have np : ¬ Own e2 σ p := fun z => by
      obtain ⟨_, u, hu⟩ := (l2.own z).ex m1
      rw [hp] at hu; cases hu
    obtain ⟨u, hu, r⟩ := ho.data hf
    refine k4 (upd F2 p u) H2 ⟨s2.le.trans (Le.upd hf), s2.keep, fun b w q => ?_, s2.stay⟩ (m2.data np hf hu) (.ref p) r
    by_cases hb : b = p
    · subst hb; exact .inr (.inl hp)
    · rw [upd_ne hb] at q; exact s2.new b w q
theorem call_do {n : Nat} {f : Fn} (h : tO B W (mCallO n f ms) σ H Q) : tA B W ms σ H fun vs H1 => spOf B n f vs H1 Q (WE W σ) := by
  obtain ⟨F, env, S, h⟩ := h
  refine ⟨F, env, S, (Post.bind S h).mono fun xs e1 F1 H1 s1 m1 l1 k1 vs rvs => ?_⟩
  refine call_read m1 rvs (Post.bind m1 k1) fun r e2 F2 H2 s2 m2 l2 k3 => ?_
  have k4 := k3 F2 H2 s2 m2
  cases r with
  | fz d => exact k4.elim
  | ow o => exact fun p hp hf ho => Post.here m2 k4 p (s1.back hp) hf ho
variable {k n : Nat} {fa : Addr} {fd : FuncData} {ps : List Str} {f : Fn} {x : Str} {p : Pos}
theorem de_call (G : FnOk X.prog X.w X.K X.mg X.base (L2.CX X.prog X.w) k fa fd ps (spOf B n f)) (hr : Room k X.A) (tk : Takes X W) (hm : X.mg x = some (.ref fa)) (hk : PySem.W.keepIn X.K (.ref fa) = true) (hb : Binds X.K fd ps [])
    (ha : DA B X W (e :: es) ms) (hg : Gl X x := by rfl) (hdb : (x == ("__debug__" : Str)) = false := by decide) (he : starEach (e :: es) X.env = (false, eval e X.env) :: starEach es X.env := by rfl) (hpl : (backTo pos (starEach es X.env)).any (·.1) = false := by rfl) :
    DE B X W (.Call (.Name x p) (e :: es) [] pos) (mCall n f ms) := PE.imp (pe_callS (E := WE W) G hr hg hm hk hb (fun σ => passAt tk σ) ha hdb he hpl) fun σ H Q h => call_de h
theorem do_call (G : FnOk X.prog X.w X.K X.mg X.base (L2.CX X.prog X.w) k fa fd ps (spOf B n f)) (hr : Room k X.A) (tk : Takes X W) (hm : X.mg x = some (.ref fa)) (hk : PySem.W.keepIn X.K (.ref fa) = true) (hb : Binds X.K fd ps [])
    (ha : DA B X W (e :: es) ms) (hg : Gl X x := by rfl) (hdb : (x == ("__debug__" : Str)) = false := by decide) (he : starEach (e :: es) X.env = (false, eval e X.env) :: starEach es X.env := by rfl) (hpl : (backTo pos (starEach es X.env)).any (·.1) = false := by rfl) :
    DO B X W (.Call (.Name x p) (e :: es) [] pos) (mCallO n f ms) := PE.imp (pe_callS (E := WE W) G hr hg hm hk hb (fun σ => passAt tk σ) ha hdb he hpl) fun σ H Q h => call_do h
end
end AN

set_option Elab.async false
set_option maxRecDepth 100000
set_option autoImplicit false
set_option linter.unusedVariables false
namespace AN
open PySem L2

/-! ### calls of defs that change some of their arguments (the marked ones) -/
def frzIn : List Bool → List Opd → M (List D)
  | [], [] => M.pure []
  | true :: sg, _ :: xs => M.bind (frzIn sg xs) fun ds => M.pure (.non :: ds)
  | false :: sg, x :: xs => M.bind (frz1 x) fun d => M.bind (frzIn sg xs) fun ds => M.pure (d :: ds)
  | _, _ => fun _ => .bad
def mkA : List Bool → List Opd → List D → Env → Option (List Slot)
  | [], [], [], _ => some []
  | true :: sg, .sl i :: xs, _ :: ds, env => match env[i]? with
    | some (.ow _ o) => (mkA sg xs ds env).map (.ow true o :: ·)
    | _ => none
  | false :: sg, _ :: xs, d :: ds, env => (mkA sg xs ds env).map (.fz d :: ·)
  | _, _, _, _ => none
def ioS : List Bool → List Opd → List Nat
  | true :: sg, .sl i :: xs => i :: ioS sg xs
  | _ :: sg, _ :: xs => ioS sg xs
  | _, _ => []
def back : List Bool → List Opd → List Slot → Env → Option Env
  | [], [], [], env => some env
  | true :: sg, .sl i :: xs, .ow _ o :: as, env => match env[i]? with
    | some (.ow k _) => back sg xs as (env.set i (.ow k o))
    | _ => none
  | false :: sg, _ :: xs, _ :: as, env => back sg xs as env
  | _, _, _, _ => none
def callM (sg : List Bool) (f : Fn) (xs : List Opd) : M Ret := fun env => if (ioS sg xs).Nodup then (match frzIn sg xs env with
  | .ok ds e1 => (match mkA sg xs ds e1 with
    | some args => (match f args with
      | .ok r args' => (match back sg xs args' e1 with
        | some e2 => .ok r e2
        | none => .bad)
      | .exc c d args' => (match back sg xs args' e1 with
        | some e2 => .exc c d e2
        | none => .bad)
      | .bad => .bad)
    | none => .bad)
  | _ => .bad) else .bad
section
variable {B : Bx} {X : Cx} {W : WX} {F H F1 H1 F2 H2 : Hp} {env e1 e2 : Env} {σ σ1 σ2 : St} {Q : VK}
/-- the arguments that are data -/
inductive ArgD (B : Bx) (F : Hp) : List Bool → List D → List V → Prop
  | nil : ArgD B F [] [] []
  | io {sg : List Bool} {ds : List D} {vs : List V} {d : D} {v : V} (t : ArgD B F sg ds vs) : ArgD B F (true :: sg) (d :: ds) (v :: vs)
  | dat {sg : List Bool} {ds : List D} {vs : List V} {d : D} {v : V} (h : Rep B F d v) (t : ArgD B F sg ds vs) : ArgD B F (false :: sg) (d :: ds) (v :: vs)
theorem ArgD.mono {sg : List Bool} {ds : List D} {vs : List V} (l : Le F F1) (h : ArgD B F sg ds vs) : ArgD B F1 sg ds vs := by
  induction h with
  | nil => exact .nil
  | io _ ih => exact .io ih
  | dat h _ ih => exact .dat (Rep.mono l _ _ h) ih
theorem Sim.frzIn : ∀ {sg : List Bool} {xs : List Opd} {F : Hp} {env : Env} {vs : List V} {k : List D → Env → Hp → Hp → Prop}, Sim B F env σ H → OpdsRel B F σ vs xs → Post B W F env σ H k (AN.frzIn sg xs env) →
    ∃ ds e1 F1, Step (Own env σ) F H F1 H ∧ Sim B F1 e1 σ H ∧ EnvLe env e1 ∧ ArgD B F1 sg ds vs ∧ k ds e1 F1 H
  | [], [], F, env, _, k, S, .nil, h => ⟨[], env, F, Step.refl _ _ _, S, EnvLe.refl _, .nil, h F H (Step.refl _ _ _) S (EnvLe.refl _)⟩
  | [], x :: xs, F, env, _, k, S, _, h => h.elim
  | true :: sg, [], F, env, _, k, S, _, h => h.elim
  | false :: sg, [], F, env, _, k, S, _, h => h.elim
  | true :: sg, x :: xs, F, env, _, k, S, .cons r rs, h => by
    obtain ⟨ds, e2, F2, s2, m2, o2, r2, h2⟩ := S.frzIn rs (Post.bind S h)
    exact ⟨.non :: ds, e2, F2, s2, m2, o2, .io r2, h2 F2 H (Step.refl _ _ _) m2 (EnvLe.refl _)⟩
  | false :: sg, x :: xs, F, env, _, k, S, .cons r rs, h => by
    obtain ⟨d, e1, F1, s1, m1, o1, r1, h1⟩ := S.frz1 r (Post.bind S h)
    obtain ⟨ds, e2, F2, s2, m2, o2, r2, h2⟩ := m1.frzIn (rs.mono s1.le) (Post.bind m1 h1)
    exact ⟨d :: ds, e2, F2, s1.trans s2 fun b z => .inl (o1.own z), m2, o1.trans o2, .dat (Rep.mono s2.le d _ r1) r2, h2 F2 H (Step.refl _ _ _) m2 (EnvLe.refl _)⟩
/-- what an argument list holds, place by place -/
theorem mkA_get : ∀ {sg : List Bool} {xs : List Opd} {ds : List D} {vs : List V} {args : List Slot} {i : Nat} {s : Slot}, mkA sg xs ds env = some args → ArgD B F sg ds vs → OpdsRel B F σ vs xs → args[i]? = some s →
    (∃ d v, s = .fz d ∧ vs[i]? = some v ∧ Rep B F d v) ∨ ∃ j k o v, s = .ow true o ∧ xs[i]? = some (.sl j) ∧ j ∈ ioS sg xs ∧ env[j]? = some (.ow k o) ∧ vs[i]? = some v ∧ σ[j]? = some (some v)
  | [], [], [], _, args, i, s, h, .nil, .nil, e => by
    cases h
    simp at e
  | true :: sg, .d _ :: xs, _, _, args, i, s, h, .io t, .cons r rs, e => by simp [mkA] at h
  | true :: sg, .sl j :: xs, d0 :: ds, v0 :: vs, args, i, s, h, .io t, .cons r rs, e => by
    unfold mkA at h
    cases q : env[j]? with
    | none => rw [q] at h; cases h
    | some sl =>
      rw [q] at h
      cases sl with
      | no => cases h
      | fz _ => cases h
      | ow k o =>
        simp only [Option.map_eq_some_iff] at h
        obtain ⟨as, h, rfl⟩ := h
        cases i with
        | zero =>
          simp only [List.getElem?_cons_zero, Option.some.injEq] at e
          subst e
          exact .inr ⟨j, k, o, _, rfl, rfl, by simp [ioS], q, rfl, r⟩
        | succ i =>
          simp only [List.getElem?_cons_succ] at e
          rcases mkA_get h t rs e with ⟨d, v, a, b, c⟩ | ⟨j', k', o', v, a, b, c, d, e', f⟩
          · exact .inl ⟨d, v, a, by simpa using b, c⟩
          · exact .inr ⟨j', k', o', v, a, by simpa using b, by simp [ioS, c], d, by simpa using e', f⟩
  | false :: sg, x :: xs, d0 :: ds, v0 :: vs, args, i, s, h, .dat hd t, .cons r rs, e => by
    unfold mkA at h
    simp only [Option.map_eq_some_iff] at h
    obtain ⟨as, h, rfl⟩ := h
    cases i with
    | zero =>
      simp only [List.getElem?_cons_zero, Option.some.injEq] at e
      subst e
      exact .inl ⟨_, _, rfl, rfl, hd⟩
    | succ i =>
      simp only [List.getElem?_cons_succ] at e
      rcases mkA_get h t rs e with ⟨d, v, a, b, c⟩ | ⟨j', k', o', v, a, b, c, d, e', f⟩
      · exact .inl ⟨d, v, a, by simpa using b, c⟩
      · refine .inr ⟨j', k', o', v, a, by simpa using b, ?_, d, by simpa using e', f⟩
        cases x <;> simp [ioS, c]
theorem mkA_len : ∀ {sg : List Bool} {xs : List Opd} {ds : List D} {args : List Slot}, mkA sg xs ds env = some args → args.length = xs.length ∧ args.length = sg.length
  | [], [], [], args, h => by cases h; exact ⟨rfl, rfl⟩
  | [], [], _ :: _, args, h => by simp [mkA] at h
  | [], _ :: _, _, args, h => by simp [mkA] at h
  | true :: sg, [], _, args, h => by simp [mkA] at h
  | false :: sg, [], _, args, h => by simp [mkA] at h
  | true :: sg, .d _ :: xs, _, args, h => by simp [mkA] at h
  | true :: sg, .sl j :: xs, [], args, h => by simp [mkA] at h
  | false :: sg, _ :: xs, [], args, h => by simp [mkA] at h
  | true :: sg, .sl j :: xs, d :: ds, args, h => by
    unfold mkA at h
    cases q : env[j]? with
    | none => rw [q] at h; cases h
    | some sl =>
      rw [q] at h
      cases sl with
      | no => cases h
      | fz _ => cases h
      | ow k o =>
        simp only [Option.map_eq_some_iff] at h
        obtain ⟨as, h, rfl⟩ := h
        have := mkA_len h
        exact ⟨by simp [this.1], by simp [this.2]⟩
  | false :: sg, x :: xs, d :: ds, args, h => by
    unfold mkA at h
    simp only [Option.map_eq_some_iff] at h
    obtain ⟨as, h, rfl⟩ := h
    have := mkA_len h
    exact ⟨by simp [this.1], by simp [this.2]⟩
theorem ioS_nd : ∀ {sg : List Bool} {xs : List Opd} {i i' j : Nat}, (ioS sg xs).Nodup → sg[i]? = some true → sg[i']? = some true → xs[i]? = some (.sl j) → xs[i']? = some (.sl j) → i = i'
  | [], _, i, _, _, _, h, _, _, _ => by simp at h
  | _ :: _, [], i, _, _, _, _, _, h, _ => by simp at h
  | b :: sg, x :: xs, i, i', j, hn, a1, a2, b1, b2 => by
    have mem : ∀ {sg : List Bool} {xs : List Opd} {i : Nat}, sg[i]? = some true → xs[i]? = some (.sl j) → j ∈ ioS sg xs := by
      intro sg
      induction sg with
      | nil => intro xs i h; simp at h
      | cons b sg ih =>
        intro xs i h h2
        cases xs with
        | nil => simp at h2
        | cons x xs =>
          cases i with
          | zero =>
            simp at h h2
            subst h; subst h2
            simp [ioS]
          | succ i =>
            have := ih (xs := xs) (i := i) (by simpa using h) (by simpa using h2)
            cases b <;> cases x <;> simp [ioS, this]
    cases i with
    | zero =>
      cases i' with
      | zero => rfl
      | succ i' =>
        simp at a1 b1
        subst a1; subst b1
        simp only [ioS, List.nodup_cons] at hn
        exact absurd (mem (by simpa using a2) (by simpa using b2)) hn.1
    | succ i =>
      cases i' with
      | zero =>
        simp at a2 b2
        subst a2; subst b2
        simp only [ioS, List.nodup_cons] at hn
        exact absurd (mem (by simpa using a1) (by simpa using b1)) hn.1
      | succ i' =>
        have hn' : (ioS sg xs).Nodup := by
          cases b <;> cases x <;> simp_all [ioS]
        have := ioS_nd (i := i) (i' := i') (j := j) hn' (by simpa using a1) (by simpa using a2) (by simpa using b1) (by simpa using b2)
        omega
theorem mkA_sg : ∀ {sg : List Bool} {xs : List Opd} {ds : List D} {args : List Slot} {i : Nat} {k : Bool} {o : O}, mkA sg xs ds env = some args → args[i]? = some (.ow k o) → sg[i]? = some true
  | [], [], [], args, i, k, o, h, e => by cases h; simp at e
  | [], [], _ :: _, args, i, k, o, h, e => by simp [mkA] at h
  | [], _ :: _, _, args, i, k, o, h, e => by simp [mkA] at h
  | true :: sg, [], _, args, i, k, o, h, e => by simp [mkA] at h
  | false :: sg, [], _, args, i, k, o, h, e => by simp [mkA] at h
  | true :: sg, .d _ :: xs, _, args, i, k, o, h, e => by simp [mkA] at h
  | true :: sg, .sl j :: xs, [], args, i, k, o, h, e => by simp [mkA] at h
  | false :: sg, _ :: xs, [], args, i, k, o, h, e => by simp [mkA] at h
  | true :: sg, .sl j :: xs, d :: ds, args, i, k, o, h, e => by
    unfold mkA at h
    cases q : env[j]? with
    | none => rw [q] at h; cases h
    | some sl =>
      rw [q] at h
      cases sl with
      | no => cases h
      | fz _ => cases h
      | ow k o =>
        simp only [Option.map_eq_some_iff] at h
        obtain ⟨as, h, rfl⟩ := h
        cases i with
        | zero => rfl
        | succ i => simpa using mkA_sg h (by simpa using e)
  | false :: sg, x :: xs, d :: ds, args, i, k, o, h, e => by
    unfold mkA at h
    simp only [Option.map_eq_some_iff] at h
    obtain ⟨as, h, rfl⟩ := h
    cases i with
    | zero => simp at e
    | succ i => simpa using mkA_sg h (by simpa using e)
/-- all but the slots L stand right -/
structure SimX (B : Bx) (L : List Nat) (F : Hp) (env : Env) (σ : St) (H : Hp) : Prop where
  hold : Holds F H
  len : env.length = σ.length
  fz : ∀ (i : Nat) (d : D), env[i]? = some (.fz d) → ∃ v, σ[i]? = some (some v) ∧ Rep B F d v
  ow : ∀ (i : Nat) (k : Bool) (o : O), i ∉ L → env[i]? = some (.ow k o) → ∃ p, σ[i]? = some (some (.ref p)) ∧ F p = none ∧ OAt B F H p o
  sep : ∀ (i j : Nat) (k : Bool) (o : O) (k' : Bool) (o' : O) (p : Addr), env[i]? = some (.ow k o) → env[j]? = some (.ow k' o') → σ[i]? = some (some (.ref p)) → σ[j]? = some (some (.ref p)) → i = j
theorem back_sim : ∀ {sg : List Bool} {xs : List Opd} {vs : List V} {args : List Slot} {env e2 : Env}, SimX B (ioS sg xs) F env σ H → OpdsRel B F σ vs xs → (ioS sg xs).Nodup → Sim B F args (vs.map some) H → back sg xs args env = some e2 → Sim B F e2 σ H ∧ EnvLe env e2
  | [], [], _, args, env, e2, S, .nil, nd, A, h => by
    cases args with
    | nil =>
      cases h
      exact ⟨⟨S.hold, S.len, S.fz, fun i k o q => S.ow i k o (by simp [ioS]) q, S.sep⟩, EnvLe.refl _⟩
    | cons _ _ => simp [back] at h
  | [], x :: xs, vs, args, env, e2, S, r, nd, A, h => by simp [back] at h
  | true :: sg, [], vs, args, env, e2, S, r, nd, A, h => by simp [back] at h
  | false :: sg, [], vs, args, env, e2, S, r, nd, A, h => by simp [back] at h
  | true :: sg, .d _ :: xs, vs, args, env, e2, S, r, nd, A, h => by simp [back] at h
  | true :: sg, .sl i :: xs, _, [], env, e2, S, .cons r rs, nd, A, h => by simp [back] at h
  | true :: sg, .sl i :: xs, _, .no :: as, env, e2, S, .cons r rs, nd, A, h => by simp [back] at h
  | true :: sg, .sl i :: xs, _, .fz _ :: as, env, e2, S, .cons r rs, nd, A, h => by simp [back] at h
  | false :: sg, x :: xs, _, [], env, e2, S, .cons r rs, nd, A, h => by simp [back] at h
  | true :: sg, .sl i :: xs, v :: vs, .ow k0 o :: as, env, e2, S, .cons r rs, nd, A, h => by
    unfold back at h
    have tail : Sim B F as (vs.map some) H := ⟨A.hold, by simpa using A.len, fun j d q => by simpa using A.fz (j + 1) d (by simpa using q), fun j k o q => by simpa using A.ow (j + 1) k o (by simpa using q), fun j j' k o k' o' p a b c d => by
      have := A.sep (j + 1) (j' + 1) k o k' o' p (by simpa using a) (by simpa using b) (by simpa using c) (by simpa using d)
      omega⟩
    cases q : env[i]? with
    | none => rw [q] at h; cases h
    | some sl =>
      rw [q] at h
      cases sl with
      | no => cases h
      | fz _ => cases h
      | ow k o1 =>
        simp only at h
        simp only [ioS, List.nodup_cons] at nd
        obtain ⟨p, a1, a2, a3⟩ := A.ow 0 k0 o rfl
        have r : σ[i]? = some (some v) := r
        have ev : v = .ref p := by simpa using a1
        subst ev
        have il : i < env.length := (List.getElem?_eq_some_iff.mp q).1
        have S' : SimX B (ioS sg xs) F (env.set i (.ow k o)) σ H := by
          refine ⟨S.hold, by rw [List.length_set]; exact S.len, fun j d z => ?_, fun j k' o' nj z => ?_, fun j j' k1 o1' k2 o2' p' c1 c2 d1 d2 => ?_⟩
          · rcases getElem?_setS z with ⟨_, e⟩ | ⟨_, e⟩
            · cases e
            · exact S.fz j d e
          · rcases getElem?_setS z with ⟨rfl, e⟩ | ⟨ne, e⟩
            · cases e; exact ⟨p, r, a2, a3⟩
            · exact S.ow j k' o' (by simp [ioS, Ne.symm ne, nj]) e
          · have f : ∀ {j : Nat} {k1 : Bool} {o1' : O}, (env.set i (.ow k o))[j]? = some (.ow k1 o1') → ∃ k2 o2, env[j]? = some (.ow k2 o2) := fun {j k1 o1'} z => by
              rcases getElem?_setS z with ⟨rfl, e⟩ | ⟨ne, e⟩
              · exact ⟨k, o1, q⟩
              · exact ⟨_, _, e⟩
            obtain ⟨_, _, x1⟩ := f c1
            obtain ⟨_, _, x2⟩ := f c2
            exact S.sep j j' _ _ _ _ p' x1 x2 d1 d2
        obtain ⟨s2, l2⟩ := back_sim S' rs nd.2 tail h
        refine ⟨s2, ⟨fun j k' o' z => ?_, fun j o' z => ?_⟩⟩
        · obtain ⟨o2, y⟩ := l2.dn j k' o' z
          rcases getElem?_setS y with ⟨rfl, e⟩ | ⟨ne, e⟩
          · cases e; exact ⟨o1, q⟩
          · exact ⟨o2, e⟩
        · by_cases hj : i = j
          · subst hj
            rw [q] at z; cases z
            exact l2.up i o (List.getElem?_set_self il)
          · exact l2.up j o' (by rw [List.getElem?_set_ne hj]; exact z)
  | false :: sg, x :: xs, v :: vs, a :: as, env, e2, S, .cons r rs, nd, A, h => by
    unfold back at h
    have tail : Sim B F as (vs.map some) H := ⟨A.hold, by simpa using A.len, fun j d q => by simpa using A.fz (j + 1) d (by simpa using q), fun j k o q => by simpa using A.ow (j + 1) k o (by simpa using q), fun j j' k o k' o' p a b c d => by
      have := A.sep (j + 1) (j' + 1) k o k' o' p (by simpa using a) (by simpa using b) (by simpa using c) (by simpa using d)
      omega⟩
    have e0 : ioS (false :: sg) (x :: xs) = ioS sg xs := by cases x <;> rfl
    rw [e0] at S nd
    exact back_sim S rs nd tail h
theorem callM_read {sg : List Bool} {f : Fn} {xs : List Opd} {vs : List V} {k : Ret → Env → Hp → Hp → Prop} (S : Sim B F env σ H) (rs : OpdsRel B F σ vs xs) (h : Post B W F env σ H k (callM sg f xs env))
    (hq : ∀ r e1 F1 H1, Step (Own env σ) F H F1 H1 → Sim B F1 e1 σ H1 → EnvLe env e1 → (∀ F2 H2, Step (Own env σ) F H F2 H2 → Sim B F2 e1 σ H2 → k r e1 F2 H2) → match r with
      | .fz d => ∀ v, Rep B F1 d v → Q v H1
      | .ow o => ∀ p, H p = none → F1 p = none → OAt B F1 H1 p o → Q (.ref p) H1) : spOf B sg.length f vs H Q (WE W σ) := by
  unfold callM at h
  by_cases hn : (ioS sg xs).Nodup
  · rw [if_pos hn] at h
    cases qf : AN.frzIn sg xs env with
    | bad => rw [qf] at h; exact h.elim
    | exc c d e' => rw [qf] at h; exact h.elim
    | ok ds e1 =>
      rw [qf] at h
      obtain ⟨ds', e1', F1, s1, m1, l1, r1, q1⟩ := S.frzIn (W := W) rs (k := fun d e _ _ => d = ds ∧ e = e1) (by rw [qf]; exact fun _ _ _ _ _ => ⟨rfl, rfl⟩)
      obtain ⟨rfl, rfl⟩ := q1
      cases qa : mkA sg xs ds' e1' with
      | none => simp only [qa] at h; exact h.elim
      | some args =>
        simp only [qa] at h
        have rs1 := rs.mono s1.le
        obtain ⟨hl1, hl2⟩ := mkA_len qa
        have vl : vs.length = args.length := by rw [hl1]; exact rs.len
        have get : ∀ {i : Nat} {s : Slot}, args[i]? = some s → _ := fun {i s} e => mkA_get (i := i) (s := s) qa r1 rs1 e
        have ioOf : ∀ {i : Nat} {k : Bool} {o : O}, args[i]? = some (.ow k o) → k = true ∧ ∃ j k' v, xs[i]? = some (.sl j) ∧ j ∈ ioS sg xs ∧ e1'[j]? = some (.ow k' o) ∧ vs[i]? = some v ∧ σ[j]? = some (some v) := fun {i k o} e => by
          rcases get e with ⟨d, v, a, _⟩ | ⟨j, k', o', v, a, b, c, d, e', f⟩
          · cases a
          · cases a; exact ⟨rfl, j, k', v, b, c, d, e', f⟩
        have Sa : Sim B F1 args (vs.map some) H := by
          refine ⟨m1.hold, by rw [List.length_map, vl], fun i d q => ?_, fun i k o q => ?_, fun i i' k o k' o' p a1 a2 b1 b2 => ?_⟩
          · rcases get q with ⟨d', v, a, b, c⟩ | ⟨j, k', o', v, a, _⟩
            · cases a; exact ⟨v, by rw [List.getElem?_map, b]; rfl, c⟩
            · cases a
          · obtain ⟨_, j, k', v, _, _, d, e', f⟩ := ioOf q
            obtain ⟨p, x1, x2, x3⟩ := m1.ow j k' o d
            rw [f] at x1; cases x1
            exact ⟨p, by rw [List.getElem?_map, e']; rfl, x2, x3⟩
          · obtain ⟨_, j, k1, v, c1, _, d1, e1, f1⟩ := ioOf a1
            obtain ⟨_, j', k2, v', c2, _, d2, e2, f2⟩ := ioOf a2
            rw [List.getElem?_map, e1] at b1
            rw [List.getElem?_map, e2] at b2
            cases b1; cases b2
            have := m1.sep j j' k1 o k2 o' p d1 d2 f1 f2
            subst this
            exact ioS_nd hn (mkA_sg qa a1) (mkA_sg qa a2) c1 c2
        have po : PinOnly args := fun i k o q => (ioOf q).1
        have ownA : ∀ {b : Addr}, Own args (vs.map some) b → ∃ j k o, j ∈ ioS sg xs ∧ e1'[j]? = some (.ow k o) ∧ σ[j]? = some (some (.ref b)) := fun {b} ⟨i, k, o, q, z⟩ => by
          obtain ⟨_, j, k', v, _, c, d, e', f⟩ := ioOf q
          rw [List.getElem?_map, e'] at z
          cases z
          exact ⟨j, k', o, c, d, f⟩
        have tr : ∀ {F' H' : Hp}, Step (Own args (vs.map some)) F1 H F' H' → Step (Own env σ) F H F' H' := fun s => s1.trans s fun b z => by
          obtain ⟨j, k, o, _, a, c⟩ := ownA z
          exact .inl (l1.own ⟨j, k, o, a, c⟩)
        have sx : ∀ {F' H' : Hp} {args' : List Slot}, Step (Own args (vs.map some)) F1 H F' H' → Sim B F' args' (vs.map some) H' → SimX B (ioS sg xs) F' e1' σ H' := fun {F' H' args'} s m => by
          refine ⟨m.hold, m1.len, fun i d q => ?_, fun i k o ni q => ?_, m1.sep⟩
          · obtain ⟨v, a, b⟩ := m1.fz i d q
            exact ⟨v, a, Rep.mono s.le d v b⟩
          · obtain ⟨p, a, b, c⟩ := m1.ow i k o q
            have np : ¬ Own args (vs.map some) p := fun z => by
              obtain ⟨j, k', o', hj, x1, x2⟩ := ownA z
              have := m1.sep i j k o k' o' p q x1 a x2
              subst this
              exact ni hj
            obtain ⟨u, hu⟩ := c.ex
            refine ⟨p, a, ?_, c.mono s.le fun u e => s.keep p u e np⟩
            cases w : F' p with
            | none => rfl
            | some w' =>
              rcases s.new p w' w with y | y | y
              · rw [b] at y; cases y
              · rw [hu] at y; cases y
              · exact absurd y np
        refine ⟨by rw [vl, hl2], F1, args, Sa, po, ?_⟩
        cases qr : f args with
        | bad => simp only [qr] at h; exact h.elim
        | exc c d a' =>
          simp only [qr] at h
          cases qb : back sg xs a' e1' with
          | none => simp only [qb] at h; exact h.elim
          | some e2 =>
            simp only [qb] at h
            obtain ⟨C, fld, hb, h⟩ := h
            refine ⟨C, fld, hb, fun F' H' dx v s m hd hf h0 r => ?_⟩
            obtain ⟨s2, l2⟩ := back_sim (sx s m) (rs1.mono s.le) hn m qb
            exact h F' H' dx v (tr s) ⟨s2, l1.trans l2⟩ hd hf h0 r
        | ok r a' =>
          simp only [qr] at h
          cases qb : back sg xs a' e1' with
          | none => simp only [qb] at h; exact h.elim
          | some e2 =>
            simp only [qb] at h
            cases r with
            | fz d =>
              intro v F' H' s m r
              obtain ⟨s2, l2⟩ := back_sim (sx s m) (rs1.mono s.le) hn m qb
              exact hq (.fz d) e2 F' H' (tr s) s2 (l1.trans l2) (fun F2 H2 a b => h F2 H2 a b (l1.trans l2)) v r
            | ow o =>
              intro p F' H' s m hp hf ho
              obtain ⟨s2, l2⟩ := back_sim (sx s m) (rs1.mono s.le) hn m qb
              exact hq (.ow o) e2 F' H' (tr s) s2 (l1.trans l2) (fun F2 H2 a b => h F2 H2 a b (l1.trans l2)) p hp hf ho
  · rw [if_neg hn] at h; exact h.elim
def mCallM (sg : List Bool) (f : Fn) (ms : M (List Opd)) : M Opd := M.bind ms fun xs => M.bind (callM sg f xs) fun r => M.pure (.d r.toD)
def mCallMO (sg : List Bool) (f : Fn) (ms : M (List Opd)) : M O := M.bind ms fun xs => M.bind (callM sg f xs) retO
variable {e : Expr} {es : List Expr} {ms : M (List Opd)} {pos : Pos}
theorem callM_de {sg : List Bool} {f : Fn} (h : tE B W (mCallM sg f ms) σ H Q) : tA B W ms σ H fun vs H1 => spOf B sg.length f vs H1 Q (WE W σ) := by
  obtain ⟨F, env, S, h⟩ := h
  refine ⟨F, env, S, (Post.bind S h).mono fun xs e1 F1 H1 s1 m1 l1 k1 vs rvs => ?_⟩
  have k2 := Post.bindPure k1
  refine callM_read m1 rvs k2 fun r e2 F2 H2 s2 m2 l2 k3 => ?_
  have k4 : ∀ F3 H3, Step (Own e1 σ) F1 H1 F3 H3 → Sim B F3 e2 σ H3 → ∀ v, Rep B F3 r.toD v → Q v H3 := fun F3 H3 a b v r => k3 F3 H3 a b F3 H3 a b v r
  cases r with
  | fz d => exact fun v r => k4 F2 H2 s2 m2 v r
  | ow o =>
    intro p hp hf ho
    have np : ¬ Own e2 σ p := fun z => by
      obtain ⟨_, u, hu⟩ := (l2.own z).ex m1
      rw [hp] at hu; cases hu
    obtain ⟨u, hu, r⟩ := ho.data hf
    refine k4 (upd F2 p u) H2 ⟨s2.le.trans (Le.upd hf), s2.keep, fun b w q => ?_, s2.stay⟩ (m2.data np hf hu) (.ref p) r
    by_cases hb : b = p
    · subst hb; exact .inr (.inl hp)
    · rw [upd_ne hb] at q; exact s2.new b w q
theorem callM_do {sg : List Bool} {f : Fn} (h : tO B W (mCallMO sg f ms) σ H Q) : tA B W ms σ H fun vs H1 => spOf B sg.length f vs H1 Q (WE W σ) := by
  obtain ⟨F, env, S, h⟩ := h
  refine ⟨F, env, S, (Post.bind S h).mono fun xs e1 F1 H1 s1 m1 l1 k1 vs rvs => ?_⟩
  refine callM_read m1 rvs (Post.bind m1 k1) fun r e2 F2 H2 s2 m2 l2 k3 => ?_
  have k4 := k3 F2 H2 s2 m2
  cases r with
  | fz d => exact k4.elim
  | ow o => exact fun p hp hf ho => Post.here m2 k4 p (s1.back hp) hf ho
variable {k : Nat} {fa : Addr} {fd : FuncData} {ps : List Str} {f : Fn} {x : Str} {p : Pos} {sg : List Bool}
theorem de_callM (G : FnOk X.prog X.w X.K X.mg X.base (L2.CX X.prog X.w) k fa fd ps (spOf B sg.length f)) (hr : Room k X.A) (tk : Takes X W) (hm : X.mg x = some (.ref fa)) (hk : PySem.W.keepIn X.K (.ref fa) = true) (hb : Binds X.K fd ps [])
    (ha : DA B X W (e :: es) ms) (hg : Gl X x := by rfl) (hdb : (x == ("__debug__" : Str)) = false := by decide) (he : starEach (e :: es) X.env = (false, eval e X.env) :: starEach es X.env := by rfl) (hpl : (backTo pos (starEach es X.env)).any (·.1) = false := by rfl) :
    DE B X W (.Call (.Name x p) (e :: es) [] pos) (mCallM sg f ms) := PE.imp (pe_callS (E := WE W) G hr hg hm hk hb (fun σ => passAt tk σ) ha hdb he hpl) fun σ H Q h => callM_de h
theorem do_callM (G : FnOk X.prog X.w X.K X.mg X.base (L2.CX X.prog X.w) k fa fd ps (spOf B sg.length f)) (hr : Room k X.A) (tk : Takes X W) (hm : X.mg x = some (.ref fa)) (hk : PySem.W.keepIn X.K (.ref fa) = true) (hb : Binds X.K fd ps [])
    (ha : DA B X W (e :: es) ms) (hg : Gl X x := by rfl) (hdb : (x == ("__debug__" : Str)) = false := by decide) (he : starEach (e :: es) X.env = (false, eval e X.env) :: starEach es X.env := by rfl) (hpl : (backTo pos (starEach es X.env)).any (·.1) = false := by rfl) :
    DO B X W (.Call (.Name x p) (e :: es) [] pos) (mCallMO sg f ms) := PE.imp (pe_callS (E := WE W) G hr hg hm hk hb (fun σ => passAt tk σ) ha hdb he hpl) fun σ H Q h => callM_do h
end
end AN

set_option Elab.async false
set_option maxRecDepth 100000
set_option autoImplicit false
set_option linter.unusedVariables false
namespace AN
open PySem L2

section
variable {B : Bx} {X : Cx} {W : WX} {F H : Hp} {env : Env} {σ : St} {Q : VK}
/-! ### arithmetic -/
theorem okS_app {x y : Str} (hx : okS x) (hy : okS y) (h : x.length + y.length ≤ sizeLine) : okS (x ++ y) := by
  refine ⟨?_, ?_⟩
  · show (x.cps ++ y.cps).size ≤ sizeLine
    rw [Array.size_append]; exact h
  · have h1 := hx.2
    have h2 := hy.2
    unfold PyData.strOk at h1 h2 ⊢
    show (x.cps ++ y.cps).all _ = true
    rw [Array.all_append, h1, h2]; rfl
/-- list + list -/
def rCatL (K : PySem.W.Frag) : R2 := fun x y H Q => ∃ l b xs zs, x = .ref l ∧ y = .ref b ∧ SqL K H l xs ∧ SqL K H b zs ∧ xs.length + zs.length ≤ sizeLine ∧ ∀ p, H p = none → Q (.ref p) (upd H p (.lst (xs ++ zs)))
theorem op_catL : OpR X (binaryOp .Add) (rCatL X.K) := by
  intro pins s σ H x y v u Q I rx ry h
  obtain ⟨l, b, xs, zs, e1, e2, hl, hb, hz, q⟩ := h
  subst e1; subst e2
  cases rx; cases ry
  obtain ⟨its, r, ⟨⟨c1, d1, t1, s1⟩, n, ea, hc1, _, hd1⟩, za⟩ := I.list hl
  obtain ⟨its2, r2, ⟨⟨c2, d2, t2, s2⟩, n2, eb, hc2, _, hd2⟩, zb⟩ := I.list hb
  simp only at hc1 hd1 hc2 hd2
  subst hc1 hd1 hc2 hd2
  have la : its.length = xs.length := (Paired.length r).symm
  have lb : its2.length = zs.length := (Paired.length r2).symm
  refine concat_meets ⟨_, ea, rfl⟩ ⟨_, eb, rfl⟩ noFill_list_add seq_list_add F.slot_list_add F.entry_list_add (F.args_list_add_2 _ _) (PyProof.Rows.list_addW l b its.toArray its2.toArray n n2 d1 d2 s1 s2 (by rw [List.size_toArray, List.size_toArray]; omega)) ⟨ea, eb, ?_⟩
  have ec : its.toArray ++ its2.toArray = (its ++ its2).toArray := by simp
  rw [ec]
  exact ⟨.ref _, _, I.lnew (t' := s.toks) (r.append r2) (by rw [List.length_append]; omega), rfl, q _ I.fresh⟩
def dAdd : D → D → Option D
  | .int i, .int j => some (.int (i + j))
  | .str x, .str y => if x.length + y.length ≤ sizeLine then some (.str (x ++ y)) else none
  | .lst xs, .lst ys => if xs.length + ys.length ≤ sizeLine then some (.lst (xs ++ ys)) else none
  | .tup xs, .tup ys => if xs.length + ys.length ≤ sizeLine then some (.tup (xs ++ ys)) else none
  | _, _ => none
abbrev rAddAll (K : PySem.W.Frag) : R2 := fun x y H Q => (rI0 fun i j => .int (i + j)) x y H Q ∨ ((∃ i j, x = .str i ∧ y = .str j ∧ i.length + j.length ≤ sizeLine ∧ Q (.str (i ++ j)) H) ∨ (rCatL K x y H Q ∨ rCatA K x y H Q))
theorem op_addAll : OpR X (binaryOp .Add) (rAddAll X.K) := OpR.or op_add (OpR.or op_add_str (OpR.or op_catL op_catA))
theorem Prim2.mk {g : D → D → Option D} {r : R2} (h : ∀ (F H : Hp) (a b z : D) (x y : V) (Q : VK), Holds F H → Seen B F H a x → Seen B F H b y → g a b = some z → (∀ v F' H', Step0 F H F' H' → Holds F' H' → Rep B F' z v → Q v H') → r x y H Q) : Prim2 B g r := h
theorem p_add (hK : X.K = B.K) : Prim2 B dAdd (rAddAll X.K) := fun F H a b z x y Q hh sa sb e q => by
  have here : ∀ v, Rep B F z v → Q v H := fun v r => q v F H (Step.refl _ _ _) hh r
  cases a with
  | int i =>
    cases b with
    | int j => cases e; cases (show x = .int i from sa); cases (show y = .int j from sb); exact .inl ⟨i, j, rfl, rfl, here _ rfl⟩
    | _ => cases e
  | str i =>
    cases b with
    | str j =>
      obtain ⟨rfl, o1⟩ := sa
      obtain ⟨rfl, o2⟩ := sb
      dsimp only [dAdd] at e
      by_cases hl : i.length + j.length ≤ sizeLine
      · rw [if_pos hl] at e; cases e
        exact .inr (.inl ⟨i, j, rfl, rfl, hl, here _ ⟨rfl, okS_app o1 o2 hl⟩⟩)
      · rw [if_neg hl] at e; cases e
    | _ => cases e
  | lst xs =>
    cases b with
    | lst ys =>
      obtain ⟨p, vs, rfl, a1, z1, r1⟩ := sa
      obtain ⟨p2, vs2, rfl, a2, z2, r2⟩ := sb
      dsimp only [dAdd] at e
      by_cases hl : xs.length + ys.length ≤ sizeLine
      · rw [if_pos hl] at e; cases e
        refine .inr (.inr (.inl ⟨p, p2, vs, vs2, rfl, rfl, by rw [hK]; exact a1, by rw [hK]; exact a2, by rw [r1.length, r2.length]; exact hl, fun p3 hp => ?_⟩))
        obtain ⟨s3, h3⟩ := step0_new (u := .lst (vs ++ vs2)) hh hp
        exact q _ _ _ s3 h3 ⟨p3, _, rfl, .inl upd_same, by rw [List.length_append]; exact hl, (r1.mono s3.le).append (r2.mono s3.le)⟩
      · rw [if_neg hl] at e; cases e
    | _ => cases e
  | tup xs =>
    cases b with
    | tup ys =>
      have sa' := sa
      have sb' := sb
      obtain ⟨p, vs, rfl, a1, z1, r1⟩ := sa
      obtain ⟨p2, vs2, rfl, a2, z2, r2⟩ := sb
      dsimp only [dAdd] at e
      by_cases hl : xs.length + ys.length ≤ sizeLine
      · rw [if_pos hl] at e; cases e
        refine .inr (.inr (.inr ⟨p, p2, vs, vs2, rfl, rfl, by rw [hK]; exact a1.sq hh, by rw [hK]; exact a2.sq hh, by rw [r1.length, r2.length]; exact hl, fun e0 => ?_, fun _ e1 => ?_, fun _ _ p3 hp => ?_⟩))
        · subst e0
          have : xs = [] := List.length_eq_zero_iff.mp (by rw [← r1.length]; rfl)
          subst this
          exact here _ sb'
        · subst e1
          have : ys = [] := List.length_eq_zero_iff.mp (by rw [← r2.length]; rfl)
          subst this
          refine here _ ?_
          rw [List.append_nil]; exact sa'
        · obtain ⟨s3, h3⟩ := step0_new (u := .tup (vs ++ vs2)) hh hp
          exact q _ _ _ s3 h3 ⟨p3, _, rfl, .inl upd_same, by rw [List.length_append]; exact hl, (r1.mono s3.le).append (r2.mono s3.le)⟩
      · rw [if_neg hl] at e; cases e
    | _ => cases e
  | _ => cases e
theorem de_add {a b : Expr} {ma mb : M Opd} {pos : Pos} (hK : X.K = B.K) (ha : DE B X W a ma) (hb : DE B X W b mb) : DE B X W (.BinOp a .Add b pos) (mD (mB2 dAdd ma mb)) := de_bin op_addAll (p_add hK) ha hb
/-- two ints -/
def dI (C : Int → Int → Bool) (g : Int → Int → D) : D → D → Option D
  | .int i, .int j => if C i j = true then some (g i j) else none
  | _, _ => none
theorem p_I {C : Int → Int → Prop} {Cb : Int → Int → Bool} {g : Int → Int → V} {gd : Int → Int → D} (hC : ∀ i j, Cb i j = true → C i j) (hg : ∀ F i j, Rep B F (gd i j) (g i j)) : Prim2 B (dI Cb gd) (rI C g) := fun F H a b z x y Q hh sa sb e q => by
  cases a with
  | int i =>
    cases b with
    | int j =>
      dsimp only [dI] at e
      by_cases hc : Cb i j = true
      · rw [if_pos hc] at e; cases e; cases (show x = .int i from sa); cases (show y = .int j from sb)
        exact ⟨i, j, rfl, rfl, hC i j hc, q _ F H (Step.refl _ _ _) hh (hg F i j)⟩
      · rw [if_neg hc] at e; cases e
    | _ => cases e
  | _ => cases e
theorem p_I0 {g : Int → Int → V} {gd : Int → Int → D} (hg : ∀ F i j, Rep B F (gd i j) (g i j)) : Prim2 B (dI (fun _ _ => true) gd) (rI0 g) := fun F H a b z x y Q hh sa sb e q => by
  obtain ⟨i, j, e1, e2, _, h⟩ := p_I (B := B) (C := fun _ _ => True) (Cb := fun _ _ => true) (fun _ _ _ => trivial) hg F H a b z x y Q hh sa sb e q
  exact ⟨i, j, e1, e2, h⟩
abbrev dSub := dI (fun _ _ => true) fun i j => .int (i - j)
abbrev dMod := dI (fun _ j => decide (0 < j)) fun i j => .int (i % j)
abbrev dFdiv := dI (fun _ j => decide (0 < j) && decide (j < 2 ^ 64)) fun i j => .int (i / j)
abbrev dPow := dI (fun i j => decide (0 ≤ j) && decide (j ≤ 1000000) && decide (i.natAbs < 2 ^ 64)) fun i j => .int (i ^ j.toNat)
abbrev dMulI := dI (fun i j => (decide (-(2 ^ 64) < i) && decide (i < 2 ^ 64)) || (decide (-(2 ^ 64) < j) && decide (j < 2 ^ 64))) fun i j => .int (i * j)
abbrev dLt := dI (fun _ _ => true) fun i j => .bl (decide (i < j))
abbrev dLe := dI (fun _ _ => true) fun i j => .bl (decide (i ≤ j))
abbrev dGt := dI (fun _ _ => true) fun i j => .bl (decide (j < i))
abbrev dGe := dI (fun _ _ => true) fun i j => .bl (decide (j ≤ i))
variable {a b c e : Expr} {ma mb mc : M Opd} {pos : Pos}
theorem de_sub (ha : DE B X W a ma) (hb : DE B X W b mb) : DE B X W (.BinOp a .Sub b pos) (mD (mB2 dSub ma mb)) := de_bin op_sub (p_I0 fun _ _ _ => rfl) ha hb
theorem de_mod (ha : DE B X W a ma) (hb : DE B X W b mb) : DE B X W (.BinOp a .Mod b pos) (mD (mB2 dMod ma mb)) := de_bin op_mod (p_I (fun _ _ h => of_decide_eq_true h) fun _ _ _ => rfl) ha hb
theorem de_fdiv (ha : DE B X W a ma) (hb : DE B X W b mb) : DE B X W (.BinOp a .FloorDiv b pos) (mD (mB2 dFdiv ma mb)) := de_bin op_fdivW (p_I (fun i j h => by
  simp only [Bool.and_eq_true, decide_eq_true_eq] at h
  exact wide_div (b := 64) h.1 (by omega) (by decide) (by decide)) fun _ _ _ => rfl) ha hb
theorem de_pow (ha : DE B X W a ma) (hb : DE B X W b mb) : DE B X W (.BinOp a .Pow b pos) (mD (mB2 dPow ma mb)) := de_bin op_pow (p_I (fun i j h => by
  simp only [Bool.and_eq_true, decide_eq_true_eq] at h
  exact ⟨h.1.1, h.1.2, h.2⟩) fun _ _ _ => rfl) ha hb
theorem de_mulI (ha : DE B X W a ma) (hb : DE B X W b mb) : DE B X W (.BinOp a .Mult b pos) (mD (mB2 dMulI ma mb)) := de_bin op_mul (p_I (fun i j h => by
  simp only [Bool.or_eq_true, Bool.and_eq_true, decide_eq_true_eq] at h
  exact h) fun _ _ _ => rfl) ha hb
def dNeg : D → Option D
  | .int i => some (.int (-i))
  | _ => none
theorem de_neg (ha : DE B X W a ma) : DE B X W (.UnaryOp .USub a pos) (mD (mB1 dNeg ma)) := de_un un_neg (fun F H a z x Q hh sa e q => by
  cases a with
  | int i => cases e; cases (show x = .int i from sa); exact ⟨i, rfl, q _ F H (Step.refl _ _ _) hh rfl⟩
  | _ => cases e) ha
/-! ### comparisons -/
theorem p_lt : Prim2 B dLt (rI0 fun i j => .bl (decide (i < j))) := p_I0 fun _ _ _ => rfl
theorem p_le : Prim2 B dLe (rI0 fun i j => .bl (decide (i ≤ j))) := p_I0 fun _ _ _ => rfl
theorem p_gt : Prim2 B dGt (rI0 fun i j => .bl (decide (j < i))) := p_I0 fun _ _ _ => rfl
theorem p_ge : Prim2 B dGe (rI0 fun i j => .bl (decide (j ≤ i))) := p_I0 fun _ _ _ => rfl
/-- x is None, True, False -/
def dIs : D → D → Option D
  | .non, .non => some (.bl true)
  | _, .non => some (.bl false)
  | .bl a, .bl b => some (.bl (decide (a = b)))
  | .int _, .bl _ => some (.bl false)
  | .str _, .bl _ => some (.bl false)
  | .non, .bl _ => some (.bl false)
  | _, _ => none
end
end AN

set_option Elab.async false
set_option maxRecDepth 100000
set_option autoImplicit false
set_option linter.unusedVariables false
namespace AN
open PySem L2

/-! ### equality of data -/
mutual
def toP : D → PyData
  | .non => .none
  | .bl b => .bool b
  | .int i => .int i
  | .str s => .str s
  | .lst xs => .list (toPs xs)
  | .tup xs => .tuple (toPs xs)
  | .dic _ => .none
  | .obj _ _ => .none
def toPs : List D → List PyData
  | [] => []
  | d :: ds => toP d :: toPs ds
end
/-- no dict, no object within, at most n deep -/
def dle : Nat → D → Bool
  | 0, d => scalar d
  | n + 1, d => match d with
    | .lst xs => xs.all (dle n)
    | .tup xs => xs.all (dle n)
    | d => scalar d
def deqv (a b : D) : Bool := PyData.eqv (toP a) (toP b)
def deqvs (a b : List D) : Bool := PyData.eqvAll (toPs a) (toPs b)
section
variable {B : Bx} {X : Cx} {W : WX} {F H : Hp} {env : Env} {σ : St} {Q : VK}
theorem dp_scal {K : PySem.W.Frag} {d : D} {v : V} (h : scalar d = true) (r : Rep B F d v) : Dp K H v (toP d) ∧ PyData.canLay0 (toP d) = true ∧ PyData.depth (toP d) = 0 := by
  cases d with
  | non => cases (show v = .non from r); exact ⟨.non, rfl, rfl⟩
  | bl b => cases (show v = .bl b from r); exact ⟨.bl b, rfl, rfl⟩
  | int i => cases (show v = .int i from r); exact ⟨.int i, rfl, rfl⟩
  | str s => obtain ⟨rfl, ok⟩ := r; exact ⟨.str s, ok.2, rfl⟩
  | _ => cases h
theorem dp_list {K : PySem.W.Frag} (n : Nat) (ih : ∀ (d : D) (v : V), dle n d = true → Rep B F d v → Dp K H v (toP d) ∧ PyData.canLay0 (toP d) = true ∧ PyData.depth (toP d) ≤ n) :
    ∀ (ds : List D) (vs : List V), ds.all (dle n) = true → RepL B F ds vs → DpAll K H vs (toPs ds) ∧ PyData.canLayAll0 (toPs ds) = true ∧ PyData.depthAll (toPs ds) ≤ n
  | [], vs, _, r => by
    rw [show vs = [] from r]
    exact ⟨.nil, rfl, Nat.zero_le _⟩
  | d :: ds, vs, h, r => by
    obtain ⟨v, rest, rfl, r1, r2⟩ := r
    rw [List.all_cons, Bool.and_eq_true] at h
    obtain ⟨a1, a2, a3⟩ := ih d v h.1 r1
    obtain ⟨b1, b2, b3⟩ := dp_list n ih ds rest h.2 r2
    refine ⟨.cons a1 b1, ?_, ?_⟩
    · show (PyData.canLay0 (toP d) && PyData.canLayAll0 (toPs ds)) = true
      rw [a2, b2]; rfl
    · show max (PyData.depth (toP d)) (PyData.depthAll (toPs ds)) ≤ n
      omega
theorem dp_of {K : PySem.W.Frag} (hK : K = B.K) (hh : Holds F H) : ∀ (n : Nat) (d : D) (v : V), dle n d = true → Rep B F d v → Dp K H v (toP d) ∧ PyData.canLay0 (toP d) = true ∧ PyData.depth (toP d) ≤ n
  | 0, d, v, h, r => by
    obtain ⟨a, b, c⟩ := dp_scal (K := K) (H := H) h r
    exact ⟨a, b, by omega⟩
  | n + 1, d, v, h, r => by
    cases d with
    | lst xs =>
      obtain ⟨p, vs, rfl, a, z, rl⟩ := r
      obtain ⟨b1, b2, b3⟩ := dp_list n (dp_of hK hh n) xs vs h rl
      exact ⟨.lst (by rw [hK]; exact a.sq hh) b1, b2, Nat.succ_le_succ b3⟩
    | tup xs =>
      obtain ⟨p, vs, rfl, a, z, rl⟩ := r
      obtain ⟨b1, b2, b3⟩ := dp_list n (dp_of hK hh n) xs vs h rl
      exact ⟨.tup (by rw [hK]; exact a.sq hh) b1, b2, Nat.succ_le_succ b3⟩
    | dic _ => cases h
    | obj _ _ => cases h
    | non => obtain ⟨a, b, c⟩ := dp_scal (K := K) (H := H) (d := .non) rfl r; exact ⟨a, b, by omega⟩
    | bl x => obtain ⟨a, b, c⟩ := dp_scal (K := K) (H := H) (d := .bl x) rfl r; exact ⟨a, b, by omega⟩
    | int x => obtain ⟨a, b, c⟩ := dp_scal (K := K) (H := H) (d := .int x) rfl r; exact ⟨a, b, by omega⟩
    | str x => obtain ⟨a, b, c⟩ := dp_scal (K := K) (H := H) (d := .str x) rfl r; exact ⟨a, b, by omega⟩
theorem Seen.dp {K : PySem.W.Frag} (hK : K = B.K) (hh : Holds F H) {d : D} {v : V} (h : dle 8 d = true) (s : Seen B F H d v) : Dp K H v (toP d) ∧ SeqAt.shaped (toP d) = true := by
  have fin : ∀ {p : PyData}, PyData.canLay0 p = true ∧ PyData.depth p ≤ 8 → SeqAt.shaped p = true := fun {p} h => by
    unfold SeqAt.shaped
    rw [h.1, Bool.true_and]
    exact decide_eq_true (by omega)
  cases d with
  | lst xs =>
    obtain ⟨p, vs, rfl, a, z, rl⟩ := s
    obtain ⟨b1, b2, b3⟩ := dp_list 7 (dp_of hK hh 7) xs vs h rl
    exact ⟨.lst (by rw [hK]; exact a) b1, fin ⟨b2, Nat.succ_le_succ b3⟩⟩
  | tup xs => obtain ⟨a, b⟩ := dp_of hK hh 8 (.tup xs) v h s; exact ⟨a, fin b⟩
  | dic _ => cases h
  | obj _ _ => cases h
  | non => obtain ⟨a, b⟩ := dp_of hK hh 8 .non v h s; exact ⟨a, fin b⟩
  | bl x => obtain ⟨a, b⟩ := dp_of hK hh 8 (.bl x) v h s; exact ⟨a, fin b⟩
  | int x => obtain ⟨a, b⟩ := dp_of hK hh 8 (.int x) v h s; exact ⟨a, fin b⟩
  | str x => obtain ⟨a, b⟩ := dp_of hK hh 8 (.str x) v h s; exact ⟨a, fin b⟩
def dEq (a b : D) : Option D := if (dle 8 a && dle 8 b) = true then some (.bl (deqv a b)) else none
def dNe (a b : D) : Option D := if (dle 8 a && dle 8 b) = true then some (.bl (!deqv a b)) else none
theorem p_eq (hK : X.K = B.K) : Prim2 B dEq (rEqD X.K) := fun F H a b z x y Q hh sa sb e q => by
  unfold dEq at e
  by_cases h : (dle 8 a && dle 8 b) = true
  · rw [if_pos h] at e; cases e
    rw [Bool.and_eq_true] at h
    obtain ⟨a1, a2⟩ := sa.dp hK hh h.1
    obtain ⟨b1, b2⟩ := sb.dp hK hh h.2
    exact ⟨_, _, a1, b1, a2, b2, q _ F H (Step.refl _ _ _) hh rfl⟩
  · rw [if_neg h] at e; cases e
theorem p_ne (hK : X.K = B.K) : Prim2 B dNe (rNeD X.K) := fun F H a b z x y Q hh sa sb e q => by
  unfold dNe at e
  by_cases h : (dle 8 a && dle 8 b) = true
  · rw [if_pos h] at e; cases e
    rw [Bool.and_eq_true] at h
    obtain ⟨a1, a2⟩ := sa.dp hK hh h.1
    obtain ⟨b1, b2⟩ := sb.dp hK hh h.2
    exact ⟨_, _, a1, b1, a2, b2, q _ F H (Step.refl _ _ _) hh rfl⟩
  · rw [if_neg h] at e; cases e
/-! ### is -/
def isNonD : D → Bool
  | .non => true
  | _ => false
def isBlD (b : Bool) : D → Bool
  | .bl c => decide (c = b)
  | _ => false
def isD : D → D → Option Bool
  | a, .non => some (isNonD a)
  | a, .bl b => some (isBlD b a)
  | _, _ => none
def rIsX (n : Bool) : R2 := fun x y H Q => (y = .non ∧ Q (.bl (if n then !decide (x = .non) else decide (x = .non))) H) ∨ ∃ b, y = .bl b ∧ Q (.bl (if n then !decide (x = .bl b) else decide (x = .bl b))) H
theorem relV_bool {x : V} {v : Value} {b : Bool} (r : RelV x v) : (v == Value.bool b) = decide (x = .bl b) := by
  cases x with
  | bl c =>
    cases (show v = Value.bool c from r)
    by_cases e : c = b
    · subst e; simp
    · rw [decide_eq_false (by simpa using e)]
      exact beq_eq_false_iff_ne.mpr fun z => e (Value.bool.inj z)
  | non => cases (show v = Value.none from r); rfl
  | int _ => obtain ⟨t, rfl⟩ := r; rfl
  | str _ => obtain ⟨t, rfl⟩ := r; rfl
  | byt _ => obtain ⟨t, rfl⟩ := r; rfl
  | flt _ => obtain ⟨t, rfl⟩ := r; rfl
  | ref a => cases (show v = Value.ref a from r); rfl
  | ty n => cases (show v = Value.type n from r); rfl
theorem is_bool_gen {M : Model} {A : Around} {E : Value → Shared → Prop} {s : Shared} {Q : Value → Shared → Prop} {x : V} {v : Value} {b : Bool} (r : RelV x v) (h : Q (.bool (v == .bool b)) s) : wpAny M A (compareOp .Is v (.bool b)) Q E s := by
  cases x with
  | non => cases (show v = Value.none from r); exact wpAny_pure h
  | bl c => cases (show v = Value.bool c from r); exact wpAny_pure h
  | int _ => obtain ⟨t, rfl⟩ := r; exact wpAny_pure h
  | str _ => obtain ⟨t, rfl⟩ := r; exact wpAny_pure h
  | byt _ => obtain ⟨t, rfl⟩ := r; exact wpAny_pure h
  | flt _ => obtain ⟨t, rfl⟩ := r; exact wpAny_pure h
  | ref a => cases (show v = Value.ref a from r); exact wpAny_pure h
  | ty n => cases (show v = Value.type n from r); exact wpAny_pure h
theorem isnot_bool_gen {M : Model} {A : Around} {E : Value → Shared → Prop} {s : Shared} {Q : Value → Shared → Prop} {x : V} {v : Value} {b : Bool} (r : RelV x v) (h : Q (.bool (!(v == .bool b))) s) : wpAny M A (compareOp .IsNot v (.bool b)) Q E s := by
  cases x with
  | non => cases (show v = Value.none from r); exact wpAny_pure h
  | bl c => cases (show v = Value.bool c from r); exact wpAny_pure h
  | int _ => obtain ⟨t, rfl⟩ := r; exact wpAny_pure h
  | str _ => obtain ⟨t, rfl⟩ := r; exact wpAny_pure h
  | byt _ => obtain ⟨t, rfl⟩ := r; exact wpAny_pure h
  | flt _ => obtain ⟨t, rfl⟩ := r; exact wpAny_pure h
  | ref a => cases (show v = Value.ref a from r); exact wpAny_pure h
  | ty n => cases (show v = Value.type n from r); exact wpAny_pure h
theorem op_isX : OpR X (compareOp .Is) (rIsX false) := by
  intro pins s σ H x y v u Q I rx ry h
  rcases h with ⟨rfl, q⟩ | ⟨b, rfl, q⟩
  · cases (show u = Value.none from ry)
    exact PyProof.Rows.is_none_gen ⟨.bl _, H, I, by rw [rx.none_iff]; rfl, q⟩
  · cases (show u = Value.bool b from ry)
    exact is_bool_gen rx ⟨.bl _, H, I, by rw [relV_bool rx]; rfl, q⟩
theorem op_isNotX : OpR X (compareOp .IsNot) (rIsX true) := by
  intro pins s σ H x y v u Q I rx ry h
  rcases h with ⟨rfl, q⟩ | ⟨b, rfl, q⟩
  · cases (show u = Value.none from ry)
    exact PyProof.Rows.isnot_none_gen ⟨.bl _, H, I, by rw [rx.none_iff]; rfl, q⟩
  · cases (show u = Value.bool b from ry)
    exact isnot_bool_gen rx ⟨.bl _, H, I, by rw [relV_bool rx]; rfl, q⟩
def dIsX (n : Bool) (a b : D) : Option D := (isD a b).map fun k => .bl (if n then !k else k)
theorem seen_non {a : D} {x : V} (s : Seen B F H a x) : isNonD a = decide (x = .non) := by
  cases a with
  | non => cases (show x = .non from s); rfl
  | bl b => cases (show x = .bl b from s); rfl
  | int i => cases (show x = .int i from s); rfl
  | str i => obtain ⟨rfl, _⟩ := s; rfl
  | lst _ => obtain ⟨p, vs, rfl, _⟩ := s; rfl
  | tup _ => obtain ⟨p, vs, rfl, _⟩ := s; rfl
  | dic _ => obtain ⟨p, vs, rfl, _⟩ := s; rfl
  | obj _ _ => obtain ⟨p, C, dx, vs, rfl, _⟩ := s; rfl
theorem seen_bl {a : D} {x : V} {b : Bool} (s : Seen B F H a x) : isBlD b a = decide (x = .bl b) := by
  cases a with
  | non => cases (show x = .non from s); rfl
  | bl c =>
    cases (show x = .bl c from s)
    by_cases e : c = b
    · subst e; show decide (c = c) = _; simp
    · show decide (c = b) = _
      rw [decide_eq_false e, decide_eq_false (fun z => e (V.bl.inj z))]
  | int i => cases (show x = .int i from s); rfl
  | str i => obtain ⟨rfl, _⟩ := s; rfl
  | lst _ => obtain ⟨p, vs, rfl, _⟩ := s; rfl
  | tup _ => obtain ⟨p, vs, rfl, _⟩ := s; rfl
  | dic _ => obtain ⟨p, vs, rfl, _⟩ := s; rfl
  | obj _ _ => obtain ⟨p, C, dx, vs, rfl, _⟩ := s; rfl
theorem p_is (n : Bool) : Prim2 B (dIsX n) (rIsX n) := fun F H a b z x y Q hh sa sb e q => by
  unfold dIsX at e
  cases b with
  | non =>
    cases (show y = .non from sb)
    cases e
    refine .inl ⟨rfl, q _ F H (Step.refl _ _ _) hh ?_⟩
    rw [← seen_non sa]; rfl
  | bl b =>
    cases (show y = .bl b from sb)
    cases e
    refine .inr ⟨b, rfl, q _ F H (Step.refl _ _ _) hh ?_⟩
    rw [← seen_bl sa]; rfl
  | _ => cases a <;> cases e
end
end AN

set_option Elab.async false
set_option maxRecDepth 100000
set_option autoImplicit false
set_option linter.unusedVariables false
namespace AN
open PySem L2

section
variable {B : Bx} {X : Cx} {W : WX} {F H : Hp} {env : Env} {σ : St} {Q : VK} {a b c e : Expr} {ma mb mc : M Opd} {pos p : Pos} {x : Str} {id T : String} {r : List V → Hp → VK → Prop}
/-! ### built-ins by name -/
theorem de_b1 {g : D → Option D} (hc : CallR X (.builtin id) r) (hp : Prim1 B g (fun x H Q => r [x] H Q)) (ha : DE B X W a ma) (hm : X.mg x = none) (hv : bootBuiltins x = some (.builtin id)) (hg : Gl X x := by rfl) (hn : x ≠ "__name__" := by decide) (hdb : (x == ("__debug__" : Str)) = false := by decide)
    (he : starEach [a] X.env = (false, eval a X.env) :: starEach [] X.env := by rfl) (hpl : (backTo pos (starEach [] X.env)).any (·.1) = false := by rfl) : DE B X W (.Call (.Name x p) [a] [] pos) (mD (mB1 g ma)) :=
  PE.imp (pe_callB hc hg hm hv (pa_cons ha pa_nil he) hn hdb he hpl) fun σ H Q h => op1 hp h
theorem de_b2 {g : D → D → Option D} (hc : CallR X (.builtin id) r) (hp : Prim2 B g (fun x y H Q => r [x, y] H Q)) (ha : DE B X W a ma) (hb : DE B X W b mb) (hm : X.mg x = none) (hv : bootBuiltins x = some (.builtin id)) (hg : Gl X x := by rfl) (hn : x ≠ "__name__" := by decide) (hdb : (x == ("__debug__" : Str)) = false := by decide)
    (he : starEach [a, b] X.env = (false, eval a X.env) :: starEach [b] X.env := by rfl) (he2 : starEach [b] X.env = (false, eval b X.env) :: starEach [] X.env := by rfl) (hpl : (backTo pos (starEach [b] X.env)).any (·.1) = false := by rfl) : DE B X W (.Call (.Name x p) [a, b] [] pos) (mD (mB2 g ma mb)) :=
  PE.imp (pe_callB hc hg hm hv (pa_cons ha (pa_cons hb pa_nil he2) he) hn hdb he hpl) fun σ H Q h => op2 (r := fun x y H Q => r [x, y] H Q) hp h
theorem de_t1 {g : D → Option D} (hc : CallR X (.type T) r) (hp : Prim1 B g (fun x H Q => r [x] H Q)) (ha : DE B X W a ma) (hm : X.mg x = none) (hv : bootBuiltins x = some (.type T)) (hg : Gl X x := by rfl) (hn : x ≠ "__name__" := by decide) (hdb : (x == ("__debug__" : Str)) = false := by decide)
    (he : starEach [a] X.env = (false, eval a X.env) :: starEach [] X.env := by rfl) (hpl : (backTo pos (starEach [] X.env)).any (·.1) = false := by rfl) : DE B X W (.Call (.Name x p) [a] [] pos) (mD (mB1 g ma)) :=
  PE.imp (pe_callTy hc hg hm hv (pa_cons ha pa_nil he) hn hdb he hpl) fun σ H Q h => op1 hp h
theorem do_t1 {g : D → Option O} (hc : CallR X (.type T) r) (hp : PrimO1 B g (fun x H Q => r [x] H Q)) (ha : DE B X W a ma) (hm : X.mg x = none) (hv : bootBuiltins x = some (.type T)) (hg : Gl X x := by rfl) (hn : x ≠ "__name__" := by decide) (hdb : (x == ("__debug__" : Str)) = false := by decide)
    (he : starEach [a] X.env = (false, eval a X.env) :: starEach [] X.env := by rfl) (hpl : (backTo pos (starEach [] X.env)).any (·.1) = false := by rfl) : DO B X W (.Call (.Name x p) [a] [] pos) (mB1 g ma) :=
  PE.imp (pe_callTy hc hg hm hv (pa_cons ha pa_nil he) hn hdb he hpl) fun σ H Q h => opO1 hp h
def dLen : D → Option D
  | .str s => some (.int s.length)
  | .lst xs => some (.int xs.length)
  | .tup xs => some (.int xs.length)
  | _ => none
theorem p_len (hK : X.K = B.K) : Prim1 B dLen (fun x H Q => ∃ y n, [x] = [y] ∧ LenV X.K y H n ∧ Q (.int n) H) := fun F H a z x Q hh sa e q => by
  have fin : ∀ n : Nat, z = .int n → Q (.int n) H := fun n e => q _ F H (Step.refl _ _ _) hh (by rw [e]; rfl)
  cases a with
  | str s => cases e; obtain ⟨rfl, ok⟩ := sa; exact ⟨_, _, rfl, ⟨ok.1, rfl⟩, fin _ rfl⟩
  | lst xs => cases e; obtain ⟨p, vs, rfl, a, _, r⟩ := sa; exact ⟨_, _, rfl, .inl ⟨vs, by rw [hK]; exact a, rfl⟩, fin _ (by rw [r.length])⟩
  | tup xs => cases e; obtain ⟨p, vs, rfl, a, _, r⟩ := sa; exact ⟨_, _, rfl, .inr ⟨vs, by rw [hK]; exact a.sq hh, rfl⟩, fin _ (by rw [r.length])⟩
  | _ => cases e
theorem de_len (hK : X.K = B.K) (ha : DE B X W a ma) (hm : X.mg "len" = none) (hg : Gl X "len" := by rfl) (he : starEach [a] X.env = (false, eval a X.env) :: starEach [] X.env := by rfl) (hpl : (backTo pos (starEach [] X.env)).any (·.1) = false := by rfl) : DE B X W (.Call (.Name "len" p) [a] [] pos) (mD (mB1 dLen ma)) :=
  de_b1 call_len (p_len hK) ha hm (by decide +kernel) hg (by decide) (by decide) he hpl
def dAbs : D → Option D
  | .int i => some (.int (if i < 0 then -i else i))
  | _ => none
theorem de_abs (ha : DE B X W a ma) (hm : X.mg "abs" = none) (hg : Gl X "abs" := by rfl) (he : starEach [a] X.env = (false, eval a X.env) :: starEach [] X.env := by rfl) (hpl : (backTo pos (starEach [] X.env)).any (·.1) = false := by rfl) : DE B X W (.Call (.Name "abs" p) [a] [] pos) (mD (mB1 dAbs ma)) :=
  de_b1 call_abs (fun F H a z x Q hh sa e q => by
    cases a with
    | int i => cases e; cases (show x = .int i from sa); exact ⟨i, rfl, q _ F H (Step.refl _ _ _) hh rfl⟩
    | _ => cases e) ha hm (by decide +kernel) hg (by decide) (by decide) he hpl
def dInt : D → Option D
  | .int i => some (.int i)
  | .bl k => some (.int (if k then 1 else 0))
  | _ => none
theorem de_int1 (ha : DE B X W a ma) (hm : X.mg "int" = none) (hg : Gl X "int" := by rfl) (he : starEach [a] X.env = (false, eval a X.env) :: starEach [] X.env := by rfl) (hpl : (backTo pos (starEach [] X.env)).any (·.1) = false := by rfl) : DE B X W (.Call (.Name "int" p) [a] [] pos) (mD (mB1 dInt ma)) :=
  de_t1 call_int1 (fun F H a z x Q hh sa e q => by
    cases a with
    | int i => cases e; cases (show x = .int i from sa); exact .inl ⟨i, rfl, q _ F H (Step.refl _ _ _) hh rfl⟩
    | bl k => cases e; cases (show x = .bl k from sa); exact .inr ⟨k, rfl, q _ F H (Step.refl _ _ _) hh rfl⟩
    | _ => cases e) ha hm (by decide +kernel) hg (by decide) (by decide) he hpl
abbrev dMax2 := dI (fun _ _ => true) fun i j => .int (if j > i then j else i)
abbrev dMin2 := dI (fun _ _ => true) fun i j => .int (if j < i then j else i)
theorem de_max2 (hc : X.calm = true) (ha : DE B X W a ma) (hb : DE B X W b mb) (hm : X.mg "max" = none) (hg : Gl X "max" := by rfl)
    (he : starEach [a, b] X.env = (false, eval a X.env) :: starEach [b] X.env := by rfl) (he2 : starEach [b] X.env = (false, eval b X.env) :: starEach [] X.env := by rfl) (hpl : (backTo pos (starEach [b] X.env)).any (·.1) = false := by rfl) : DE B X W (.Call (.Name "max" p) [a, b] [] pos) (mD (mB2 dMax2 ma mb)) :=
  de_b2 (call_max2 hc) (fun F H a b z x y Q hh sa sb e q => by
    cases a with
    | int i =>
      cases b with
      | int j => cases e; cases (show x = .int i from sa); cases (show y = .int j from sb); exact ⟨i, j, rfl, q _ F H (Step.refl _ _ _) hh rfl⟩
      | _ => cases e
    | _ => cases e) ha hb hm (by decide +kernel) hg (by decide) (by decide) he he2 hpl
theorem de_min2 (hc : X.calm = true) (ha : DE B X W a ma) (hb : DE B X W b mb) (hm : X.mg "min" = none) (hg : Gl X "min" := by rfl)
    (he : starEach [a, b] X.env = (false, eval a X.env) :: starEach [b] X.env := by rfl) (he2 : starEach [b] X.env = (false, eval b X.env) :: starEach [] X.env := by rfl) (hpl : (backTo pos (starEach [b] X.env)).any (·.1) = false := by rfl) : DE B X W (.Call (.Name "min" p) [a, b] [] pos) (mD (mB2 dMin2 ma mb)) :=
  de_b2 (call_min2 hc) (fun F H a b z x y Q hh sa sb e q => by
    cases a with
    | int i =>
      cases b with
      | int j => cases e; cases (show x = .int i from sa); cases (show y = .int j from sb); exact ⟨i, j, rfl, q _ F H (Step.refl _ _ _) hh rfl⟩
      | _ => cases e
    | _ => cases e) ha hb hm (by decide +kernel) hg (by decide) (by decide) he he2 hpl
def intsOf : List D → Option (List Int)
  | [] => some []
  | .int i :: ds => (intsOf ds).map (i :: ·)
  | _ :: _ => none
theorem intsOf_rep : ∀ {ds : List D} {vs : List V} {ns : List Int}, intsOf ds = some ns → RepL B F ds vs → vs = ns.map V.int
  | [], vs, ns, h, r => by cases h; exact r
  | d :: ds, vs, ns, h, r => by
    obtain ⟨v, rest, rfl, r1, r2⟩ := r
    cases d with
    | int i =>
      simp only [intsOf, Option.map_eq_some_iff] at h
      obtain ⟨m, h, rfl⟩ := h
      rw [show v = .int i from r1, intsOf_rep h r2]; rfl
    | _ => cases h
def dSum : D → Option D
  | .lst xs => (intsOf xs).map fun ns => .int ns.sum
  | _ => none
theorem de_sum (hc : X.calm = true) (hK : X.K = B.K) (ha : DE B X W a ma) (hm : X.mg "sum" = none) (hg : Gl X "sum" := by rfl) (he : starEach [a] X.env = (false, eval a X.env) :: starEach [] X.env := by rfl) (hpl : (backTo pos (starEach [] X.env)).any (·.1) = false := by rfl) : DE B X W (.Call (.Name "sum" p) [a] [] pos) (mD (mB1 dSum ma)) :=
  de_b1 (cr_sum hc) (fun F H a z x Q hh sa e q => by
    cases a with
    | lst xs =>
      simp only [dSum, Option.map_eq_some_iff] at e
      obtain ⟨ns, e, rfl⟩ := e
      obtain ⟨p, vs, rfl, a, _, r⟩ := sa
      exact ⟨p, ns, rfl, by rw [← intsOf_rep e r, hK]; exact a, q _ F H (Step.refl _ _ _) hh rfl⟩
    | _ => cases e) ha hm (by decide +kernel) hg (by decide) (by decide) he hpl
def blsOf : List D → Option (List Bool)
  | [] => some []
  | .bl i :: ds => (blsOf ds).map (i :: ·)
  | _ :: _ => none
theorem blsOf_rep : ∀ {ds : List D} {vs : List V} {ns : List Bool}, blsOf ds = some ns → RepL B F ds vs → vs = ns.map V.bl
  | [], vs, ns, h, r => by cases h; exact r
  | d :: ds, vs, ns, h, r => by
    obtain ⟨v, rest, rfl, r1, r2⟩ := r
    cases d with
    | bl i =>
      simp only [blsOf, Option.map_eq_some_iff] at h
      obtain ⟨m, h, rfl⟩ := h
      rw [show v = .bl i from r1, blsOf_rep h r2]; rfl
    | _ => cases h
def dAll : D → Option D
  | .lst xs => (blsOf xs).map fun ns => .bl (ns.all fun b => b)
  | _ => none
def dAny : D → Option D
  | .lst xs => (blsOf xs).map fun ns => .bl (ns.any fun b => b)
  | _ => none
theorem de_all (hc : X.calm = true) (hK : X.K = B.K) (ha : DE B X W a ma) (hm : X.mg "all" = none) (hg : Gl X "all" := by rfl) (he : starEach [a] X.env = (false, eval a X.env) :: starEach [] X.env := by rfl) (hpl : (backTo pos (starEach [] X.env)).any (·.1) = false := by rfl) : DE B X W (.Call (.Name "all" p) [a] [] pos) (mD (mB1 dAll ma)) :=
  de_b1 (cr_all hc) (fun F H a z x Q hh sa e q => by
    cases a with
    | lst xs =>
      simp only [dAll, Option.map_eq_some_iff] at e
      obtain ⟨ns, e, rfl⟩ := e
      obtain ⟨p, vs, rfl, a, _, r⟩ := sa
      exact ⟨p, ns, rfl, by rw [← blsOf_rep e r, hK]; exact a, q _ F H (Step.refl _ _ _) hh rfl⟩
    | _ => cases e) ha hm (by decide +kernel) hg (by decide) (by decide) he hpl
theorem de_any (hc : X.calm = true) (hK : X.K = B.K) (ha : DE B X W a ma) (hm : X.mg "any" = none) (hg : Gl X "any" := by rfl) (he : starEach [a] X.env = (false, eval a X.env) :: starEach [] X.env := by rfl) (hpl : (backTo pos (starEach [] X.env)).any (·.1) = false := by rfl) : DE B X W (.Call (.Name "any" p) [a] [] pos) (mD (mB1 dAny ma)) :=
  de_b1 (cr_any hc) (fun F H a z x Q hh sa e q => by
    cases a with
    | lst xs =>
      simp only [dAny, Option.map_eq_some_iff] at e
      obtain ⟨ns, e, rfl⟩ := e
      obtain ⟨p, vs, rfl, a, _, r⟩ := sa
      exact ⟨p, ns, rfl, by rw [← blsOf_rep e r, hK]; exact a, q _ F H (Step.refl _ _ _) hh rfl⟩
    | _ => cases e) ha hm (by decide +kernel) hg (by decide) (by decide) he hpl
/-- repr of a bool -/
def dReprB : D → Option D
  | .bl b => some (.str (if b then "True" else "False"))
  | _ => none
theorem call_repr_bool : CallR X (.builtin "repr") (fun xs H Q => ∃ b : Bool, xs = [.bl b] ∧ Q (.str (if b then "True" else "False")) H) := by
  intro pins s σ H xs us Q I r h
  obtain ⟨b, rfl, q⟩ := h
  obtain ⟨u, rfl, ru⟩ := vals1 r
  cases (show u = Value.bool b from ru)
  exact PySem.P.repr_of_bool ⟨.str _, H, I.tok _, ⟨_, rfl⟩, q⟩
theorem de_reprB (ha : DE B X W a ma) (hm : X.mg "repr" = none) (hg : Gl X "repr" := by rfl) (he : starEach [a] X.env = (false, eval a X.env) :: starEach [] X.env := by rfl) (hpl : (backTo pos (starEach [] X.env)).any (·.1) = false := by rfl) : DE B X W (.Call (.Name "repr" p) [a] [] pos) (mD (mB1 dReprB ma)) :=
  de_b1 call_repr_bool (fun F H a z x Q hh sa e q => by
    cases a with
    | bl b => cases e; cases (show x = .bl b from sa); exact ⟨b, rfl, q _ F H (Step.refl _ _ _) hh ⟨rfl, by cases b <;> exact ⟨by decide +kernel, by decide +kernel⟩⟩⟩
    | _ => cases e) ha hm (by decide +kernel) hg (by decide) (by decide) he hpl
/-! ### isinstance with built-in classes -/
def tyN : D → String
  | .non => "NoneType"
  | .bl _ => "bool"
  | .int _ => "int"
  | .str _ => "str"
  | .lst _ => "list"
  | .tup _ => "tuple"
  | .dic _ => "dict"
  | .obj _ _ => ""
def isObj : D → Bool
  | .obj _ _ => true
  | _ => false
theorem Seen.ty {K : PySem.W.Frag} {d : D} {v : V} (hK : K = B.K) (hh : Holds F H) (s : Seen B F H d v) (ho : isObj d = false) : TyX K H v (.type (tyN d)) := by
  subst hK
  cases d with
  | non => cases (show v = .non from s); exact .base .non
  | bl b => cases (show v = .bl b from s); exact .base (.bl b)
  | int i => cases (show v = .int i from s); exact .base (.int i)
  | str x => obtain ⟨rfl, _⟩ := s; exact .base (.str x)
  | lst xs =>
    obtain ⟨p, vs, rfl, a, _⟩ := s
    rcases a with (a | ⟨o, a⟩) | ⟨o, its, n, h1, h2, _⟩
    · exact .base (.lst a)
    · exact .base (.frz a)
    · exact .kList h1 h2
  | tup xs =>
    obtain ⟨p, vs, rfl, a, _⟩ := s
    rcases a with a | a
    · exact .base (.tup (hh.at_ a rfl))
    · rcases a with (h | ⟨o, h⟩) | ⟨o, its, n, h1, h2, _⟩
      · cases h
      · cases h
      · exact .kTuple h1 h2
  | dic xs =>
    obtain ⟨p, vs, rfl, a, _⟩ := s
    rcases a with a | ⟨o, a⟩
    · exact .base (.dK a)
    · exact .fDict a
  | obj _ _ => cases ho
def isI (f : D → Bool) (d : D) : Option D := if isObj d = true then none else some (.bl (f d))
def fInt : D → Bool
  | .int _ => true
  | .bl _ => true
  | _ => false
def fBool : D → Bool
  | .bl _ => true
  | _ => false
def fStr : D → Bool
  | .str _ => true
  | _ => false
def fList : D → Bool
  | .lst _ => true
  | _ => false
def fTuple : D → Bool
  | .tup _ => true
  | _ => false
theorem kInt (d : D) (h : isObj d = false) : kitB (tyN d) "int" = some (fInt d) := by
  cases d with
  | non => exact (by decide +kernel : kitB "NoneType" "int" = some false)
  | bl _ => exact (by decide +kernel : kitB "bool" "int" = some true)
  | int _ => exact (by decide +kernel : kitB "int" "int" = some true)
  | str _ => exact (by decide +kernel : kitB "str" "int" = some false)
  | lst _ => exact (by decide +kernel : kitB "list" "int" = some false)
  | tup _ => exact (by decide +kernel : kitB "tuple" "int" = some false)
  | dic _ => exact (by decide +kernel : kitB "dict" "int" = some false)
  | obj _ _ => cases h
theorem kBool (d : D) (h : isObj d = false) : kitB (tyN d) "bool" = some (fBool d) := by
  cases d with
  | non => exact (by decide +kernel : kitB "NoneType" "bool" = some false)
  | bl _ => exact (by decide +kernel : kitB "bool" "bool" = some true)
  | int _ => exact (by decide +kernel : kitB "int" "bool" = some false)
  | str _ => exact (by decide +kernel : kitB "str" "bool" = some false)
  | lst _ => exact (by decide +kernel : kitB "list" "bool" = some false)
  | tup _ => exact (by decide +kernel : kitB "tuple" "bool" = some false)
  | dic _ => exact (by decide +kernel : kitB "dict" "bool" = some false)
  | obj _ _ => cases h
theorem kStr (d : D) (h : isObj d = false) : kitB (tyN d) "str" = some (fStr d) := by
  cases d with
  | non => exact (by decide +kernel : kitB "NoneType" "str" = some false)
  | bl _ => exact (by decide +kernel : kitB "bool" "str" = some false)
  | int _ => exact (by decide +kernel : kitB "int" "str" = some false)
  | str _ => exact (by decide +kernel : kitB "str" "str" = some true)
  | lst _ => exact (by decide +kernel : kitB "list" "str" = some false)
  | tup _ => exact (by decide +kernel : kitB "tuple" "str" = some false)
  | dic _ => exact (by decide +kernel : kitB "dict" "str" = some false)
  | obj _ _ => cases h
theorem kList (d : D) (h : isObj d = false) : kitB (tyN d) "list" = some (fList d) := by
  cases d with
  | non => exact (by decide +kernel : kitB "NoneType" "list" = some false)
  | bl _ => exact (by decide +kernel : kitB "bool" "list" = some false)
  | int _ => exact (by decide +kernel : kitB "int" "list" = some false)
  | str _ => exact (by decide +kernel : kitB "str" "list" = some false)
  | lst _ => exact (by decide +kernel : kitB "list" "list" = some true)
  | tup _ => exact (by decide +kernel : kitB "tuple" "list" = some false)
  | dic _ => exact (by decide +kernel : kitB "dict" "list" = some false)
  | obj _ _ => cases h
theorem kTuple (d : D) (h : isObj d = false) : kitB (tyN d) "tuple" = some (fTuple d) := by
  cases d with
  | non => exact (by decide +kernel : kitB "NoneType" "tuple" = some false)
  | bl _ => exact (by decide +kernel : kitB "bool" "tuple" = some false)
  | int _ => exact (by decide +kernel : kitB "int" "tuple" = some false)
  | str _ => exact (by decide +kernel : kitB "str" "tuple" = some false)
  | lst _ => exact (by decide +kernel : kitB "list" "tuple" = some false)
  | tup _ => exact (by decide +kernel : kitB "tuple" "tuple" = some true)
  | dic _ => exact (by decide +kernel : kitB "dict" "tuple" = some false)
  | obj _ _ => cases h
theorem de_isi {Tn : Str} {f : D → Bool} {p' : Pos} (hf : ∀ d, isObj d = false → kitB (tyN d) T = some (f d)) (hK : X.K = B.K) (ha : DE B X W a ma) (hm : X.mg "isinstance" = none) (hmT : X.mg Tn = none) (hvT : bootBuiltins Tn = some (.type T)) (hg : Gl X "isinstance" := by rfl) (hgT : Gl X Tn := by rfl)
    (he : starEach [a, .Name Tn p'] X.env = (false, eval a X.env) :: starEach [.Name Tn p'] X.env := by rfl) (he2 : starEach [.Name Tn p'] X.env = (false, eval (.Name Tn p') X.env) :: starEach [] X.env := by rfl) (hpl : (backTo pos (starEach [.Name Tn p'] X.env)).any (·.1) = false := by rfl)
    (hn : Tn ≠ "__name__" := by decide) (hdb : (Tn == ("__debug__" : Str)) = false := by decide) : DE B X W (.Call (.Name "isinstance" p) [a, .Name Tn p'] [] pos) (mD (mB1 (isI f) ma)) :=
  PE.imp (pe_callB call_isi hg hm (by decide +kernel) (pa_cons ha (pa_cons (pe_bltn (v := .ty T) hgT hmT hvT rfl hn hdb) pa_nil he2) he) (by decide) (by decide) he hpl) fun σ H Q h => by
    refine op1 (g := isI f) (r := fun x H Q => rIsi X.K [x, .ty T] H Q) (fun F H a z x Q hh sa e q => ?_) h
    unfold isI at e
    cases ho : isObj a with
    | true => rw [if_pos ho] at e; cases e
    | false =>
      rw [if_neg (by rw [ho]; exact Bool.false_ne_true)] at e
      cases e
      exact ⟨x, .ty T, _, _, _, rfl, .ty T, sa.ty hK hh ho, kit_ty (hf a ho), q _ F H (Step.refl _ _ _) hh rfl⟩
end
end AN

set_option Elab.async false
set_option maxRecDepth 100000
set_option autoImplicit false
set_option linter.unusedVariables false
namespace AN
open PySem L2

section
variable {B : Bx} {X : Cx} {W : WX} {F H : Hp} {env : Env} {σ : St} {Q : VK} {a b c e : Expr} {ma mb mc : M Opd} {pos p : Pos}
/-! ### items -/
def dIx : D → D → Option D
  | .lst xs, .int i => atI xs i
  | .tup xs, .int i => atI xs i
  | .str s, .int i => (atI s.cps.toList i).map sign
  | _, _ => none
theorem RepL.atI {xs : List D} {vs : List V} {i : Int} {d : D} (r : RepL B F xs vs) (h : L2.atI xs i = some d) : ∃ v, L2.atI vs i = some v ∧ Rep B F d v := by
  unfold L2.atI at h ⊢
  rw [r.length]
  obtain ⟨j, h1, h2⟩ := Option.bind_eq_some_iff.mp h
  obtain ⟨v, h3, h4⟩ := r.get h2
  exact ⟨v, by rw [h1]; exact h3, h4⟩
theorem p_ix (hK : X.K = B.K) : Prim2 B dIx (fun x y H Q => rIxL X.K x y H Q ∨ (rIxT X.K x y H Q ∨ rIxS x y H Q)) := fun F H a b z x y Q hh sa sb e q => by
  cases a with
  | lst xs =>
    cases b with
    | int i =>
      obtain ⟨p, vs, rfl, a, _, r⟩ := sa
      cases (show y = .int i from sb)
      obtain ⟨v, h1, h2⟩ := r.atI e
      exact .inl ⟨p, vs, i, v, rfl, rfl, by rw [hK]; exact a, h1, q v F H (Step.refl _ _ _) hh h2⟩
    | _ => cases e
  | tup xs =>
    cases b with
    | int i =>
      obtain ⟨p, vs, rfl, a, _, r⟩ := sa
      cases (show y = .int i from sb)
      obtain ⟨v, h1, h2⟩ := r.atI e
      exact .inr (.inl ⟨p, vs, i, v, rfl, rfl, by rw [hK]; exact a.sq hh, h1, q v F H (Step.refl _ _ _) hh h2⟩)
    | _ => cases e
  | str s =>
    cases b with
    | int i =>
      obtain ⟨rfl, ok⟩ := sa
      cases (show y = .int i from sb)
      simp only [dIx, Option.map_eq_some_iff] at e
      obtain ⟨c, e, rfl⟩ := e
      have hc : c ∈ s.cps.toList := by
        unfold atI at e
        obtain ⟨j, _, h2⟩ := Option.bind_eq_some_iff.mp e
        exact List.mem_of_getElem? h2
      exact .inr (.inr ⟨s, i, c, rfl, rfl, ok.1, e, q _ F H (Step.refl _ _ _) hh ⟨rfl, okS_sign ok hc⟩⟩)
    | _ => cases e
  | _ => cases e
theorem de_at (hK : X.K = B.K) (ha : DE B X W a ma) (hb : DE B X W b mb) (hs : PlainIx b := by exact fun _ _ => rfl) : DE B X W (.Subscript a b pos) (mD (mB2 dIx ma mb)) := de_ix (ix_list.or (ix_tup.or ix_str)) (p_ix hK) ha hb hs
/-! ### slices -/
def tOI (B : Bx) (W : WX) (m : M (Option Int)) : TO := fun σ H Q => ∃ F env, Sim B F env σ H ∧ Post B W F env σ H (fun o _ _ H' => Q o H') (m env)
abbrev DP (B : Bx) (X : Cx) (W : WX) (e : Option Expr) (m : M (Option Int)) : Prop := PO X e (tOI B W m)
theorem PO.imp {e : Option Expr} {t t' : TO} (h : PO X e t) (i : ∀ σ H Q, t' σ H Q → t σ H Q) : PO X e t' := ⟨fun pins s σ H Q I q => h.run pins s σ H Q I (i σ H Q q)⟩
theorem dp0 : DP B X W none (M.pure none) := PO.imp po_none fun σ H Q h => by
  obtain ⟨F, env, S, h⟩ := h
  exact Post.here S h
def intOf : D → Option (Option Int)
  | .int i => some (some i)
  | _ => none
theorem dp1 (h : DE B X W e ma) : DP B X W (some e) (mB1 intOf ma) := PO.imp (po_some h) fun σ H Q h => by
  obtain ⟨F, env, S, h⟩ := h
  refine tE.one (g := AN.ap1 intOf) S h fun x e2 F2 H2 v s2 m2 o2 rv k2 => ?_
  obtain ⟨a, z, ea, ez, k3⟩ := k2.ap1
  cases a with
  | int i => cases ez; cases (show v = .int i from m2.view rv ea); exact ⟨i, rfl, Post.here m2 k3⟩
  | _ => cases ez
def ap1s {α : Type} (g : D → Option Int → Option Int → Option α) (x : Opd) (l u : Option Int) : M α := ap1 (fun d => g d l u) x
def mSl {α : Type} (g : D → Option Int → Option Int → Option α) (m : M Opd) (ml mu : M (Option Int)) : M α := M.bind m fun x => M.bind ml fun l => M.bind mu fun u => ap1s g x l u
def cutD (xs : List D) (lo hi : Option Int) : List D := (xs.drop (HT.sIx xs.length 0 lo)).take (HT.sIx xs.length xs.length hi - HT.sIx xs.length 0 lo)
theorem RepL.cut {xs : List D} {vs : List V} (r : RepL B F xs vs) (lo hi : Option Int) : RepL B F (cutD xs lo hi) (cutV vs lo hi) := by
  unfold cutD cutV
  rw [r.length]
  exact (r.drop _).take _
theorem cutD_len (xs : List D) (lo hi : Option Int) : (cutD xs lo hi).length ≤ xs.length := by
  unfold cutD
  rw [List.length_take, List.length_drop]; omega
def dSl : D → Option Int → Option Int → Option D
  | .lst xs, lo, hi => some (.lst (cutD xs lo hi))
  | .tup xs, lo, hi => some (.tup (cutD xs lo hi))
  | .str s, lo, hi => some (.str (cutS s lo hi))
  | _, _, _ => none
def oSl : D → Option Int → Option Int → Option O
  | .lst xs, lo, hi => some (.lst (cutD xs lo hi))
  | _, _, _ => none
theorem okS_cut {s : Str} (ok : okS s) (lo hi : Option Int) : okS (cutS s lo hi) := by
  refine ⟨Nat.le_trans (cutS_length s lo hi) ok.1, ?_⟩
  have h2 := ok.2
  unfold PyData.strOk at h2 ⊢
  rw [← Array.all_toList] at h2 ⊢
  rw [List.all_eq_true] at h2 ⊢
  intro c hc
  refine h2 c ?_
  unfold cutS at hc
  simp only at hc
  exact List.mem_of_mem_drop (List.mem_of_mem_take hc)
theorem sl_read {ml mu : M (Option Int)} {α : Type} {g : D → Option Int → Option Int → Option α} {k : α → Env → Hp → Hp → Prop} {R : V → Option Int → Option Int → Hp → Prop} (S : Sim B F env σ H) (h : Post B W F env σ H k (mSl g ma ml mu env))
    (i : ∀ d l u z e2 F2 H2 v, Step (Own env σ) F H F2 H2 → Sim B F2 e2 σ H2 → EnvLe env e2 → Seen B F2 H2 d v → g d l u = some z → Post B W F2 e2 σ H2 k (.ok z e2) → R v l u H2) :
    tE B W ma σ H fun x H1 => tOI B W ml σ H1 fun l H2 => tOI B W mu σ H2 fun u H3 => R x l u H3 := by
  refine tE.one S h fun x e1 F1 H1 v s1 m1 o1 rv k1 => ⟨F1, e1, m1, (Post.bind m1 k1).mono fun l e2 F2 H2 s2 m2 o2 k2 => ⟨F2, e2, m2, (Post.bind m2 k2).mono fun u e3 F3 H3 s3 m3 o3 k3 => ?_⟩⟩
  obtain ⟨d, z, ed, ez, k4⟩ := k3.ap1
  have s12 := s1.trans s2 fun b z => .inl (o1.own z)
  exact i d l u z e3 F3 H3 v (s12.trans s3 fun b z => .inl (o1.own (o2.own z))) m3 (o1.trans (o2.trans o3)) (m3.view (rv.mono (s2.le.trans s3.le)) ed) ez k4
theorem de_sl {lo hi : Option Expr} {ml mu : M (Option Int)} {p2 : Pos} (hK : X.K = B.K) (ha : DE B X W a ma) (hl : DP B X W lo ml) (hu : DP B X W hi mu) : DE B X W (.Subscript a (.Slice lo hi none p2) pos) (mD (mSl dSl ma ml mu)) :=
  PE.imp (pe_slice (SlR.or sl_list (SlR.or sl_tupA sl_str)) ha hl hu) fun σ H Q h => by
    obtain ⟨F, env, S, h⟩ := h
    refine sl_read S (Post.bind S h) fun d l u z e2 F2 H2 v s2 m2 o2 sd ez k4 => ?_
    have fin : ∀ F3 H3 v, Step0 F2 H2 F3 H3 → Holds F3 H3 → Rep B F3 z v → Q v H3 := fun F3 H3 v s3 h3 r => by
      have m3 := m2.step0 s3 h3
      exact k4 F3 H3 s3.any m3 (EnvLe.refl _) F3 H3 (Step.refl _ _ _) m3 (EnvLe.refl _) v r
    cases d with
    | lst xs =>
      cases ez
      obtain ⟨p, vs, rfl, a, z, r⟩ := sd
      refine .inl ⟨p, vs, rfl, by rw [hK]; exact a, fun p3 hp => ?_⟩
      obtain ⟨s3, h3⟩ := step0_new (u := .lst (cutV vs l u)) m2.hold hp
      exact fin _ _ _ s3 h3 ⟨p3, _, rfl, .inl upd_same, Nat.le_trans (cutD_len xs l u) z, (r.mono s3.le).cut l u⟩
    | tup xs =>
      cases ez
      have sd' := sd
      obtain ⟨p, vs, rfl, a, z, r⟩ := sd
      refine .inr (.inl ⟨p, vs, rfl, by rw [hK]; exact a.sq m2.hold, fun hw => ?_, fun _ p3 hp => ?_⟩)
      · refine fin _ _ _ (Step.refl _ _ _) m2.hold ?_
        have : cutD xs l u = xs := by
          unfold cutD
          rw [r.length] at hw
          rw [hw.1, hw.2]; simp
        rw [this]; exact sd'
      · obtain ⟨s3, h3⟩ := step0_new (u := .tup (cutV vs l u)) m2.hold hp
        exact fin _ _ _ s3 h3 ⟨p3, _, rfl, .inl upd_same, Nat.le_trans (cutD_len xs l u) z, (r.mono s3.le).cut l u⟩
    | str s =>
      cases ez
      obtain ⟨rfl, ok⟩ := sd
      exact .inr (.inr ⟨s, rfl, ok.1, fin _ _ _ (Step.refl _ _ _) m2.hold ⟨rfl, okS_cut ok l u⟩⟩)
    | _ => cases ez
theorem do_sl {lo hi : Option Expr} {ml mu : M (Option Int)} {p2 : Pos} (hK : X.K = B.K) (ha : DE B X W a ma) (hl : DP B X W lo ml) (hu : DP B X W hi mu) : DO B X W (.Subscript a (.Slice lo hi none p2) pos) (mSl oSl ma ml mu) :=
  PE.imp (pe_slice sl_list ha hl hu) fun σ H Q h => by
    obtain ⟨F, env, S, h⟩ := h
    refine sl_read S h fun d l u z e2 F2 H2 v s2 m2 o2 sd ez k4 => ?_
    cases d with
    | lst xs =>
      cases ez
      obtain ⟨p, vs, rfl, a, z, r⟩ := sd
      refine ⟨p, vs, rfl, by rw [hK]; exact a, fun p3 hp => ?_⟩
      obtain ⟨s3, h3⟩ := step0_mk (u := .lst (cutV vs l u)) m2.hold hp
      have m3 := m2.step0 s3 h3
      exact k4 _ _ s3.any m3 (EnvLe.refl _) p3 (s2.back hp) (m2.hold.none hp) ⟨Nat.le_trans (cutD_len xs l u) z, _, upd_same, r.cut l u⟩
    | _ => cases ez
/-! ### in -/
def inStr (x z : Str) : Bool := match x.cps.toList with
  | [c] => decide (c ∈ z.cps.toList)
  | _ => !(Builtin.Str.occurrences z x 0 z.length 1).isEmpty
def inD : D → D → Option Bool
  | .str x, .str z => some (inStr x z)
  | x, .lst xs => if (dle 8 x && dle 8 (.lst xs)) = true then some (xs.any fun y => deqv y x) else none
  | x, .tup xs => if (scalar x && xs.all scalar) = true then some (xs.any fun y => deqv y x) else none
  | _, _ => none
def dInX (n : Bool) (x y : D) : Option D := (inD x y).map fun k => .bl (if n then !k else k)
abbrev rInX (K : PySem.W.Frag) : R2 := fun x y H Q => (∃ (c : Nat) (z : Str), x = .str ⟨#[c]⟩ ∧ y = .str z ∧ Q (.bl (decide (c ∈ z.cps.toList))) H) ∨ ((∃ i j, x = .str i ∧ y = .str j ∧ Q (.bl (!(Builtin.Str.occurrences j i 0 j.length 1).isEmpty)) H) ∨ (rInD K x y H Q ∨ rIn K false x y H Q))
abbrev rNotInX (K : PySem.W.Frag) : R2 := fun x y H Q => (∃ (c : Nat) (z : Str), x = .str ⟨#[c]⟩ ∧ y = .str z ∧ Q (.bl (!decide (c ∈ z.cps.toList))) H) ∨ ((∃ i j, x = .str i ∧ y = .str j ∧ Q (.bl (!(!(Builtin.Str.occurrences j i 0 j.length 1).isEmpty))) H) ∨ (rNotInD K x y H Q ∨ rIn K true x y H Q))
theorem op_inX (hu : X.A.units + 65 < cLine) : OpR X (compareOp .In) (rInX X.K) := OpR.or op_in_sign (OpR.or op_in_str (OpR.or (op_inD hu) op_in_seq))
theorem op_notInX (hu : X.A.units + 65 < cLine) : OpR X (compareOp .NotIn) (rNotInX X.K) := OpR.or op_notIn_sign (OpR.or op_notin_str (OpR.or (op_notInD hu) op_notIn_seq))
theorem toPs_any : ∀ (xs : List D) (f : PyData → Bool), (toPs xs).any f = xs.any fun y => f (toP y)
  | [], _ => rfl
  | d :: ds, f => by show (f (toP d) || _) = _; rw [toPs_any ds f]; rfl
theorem scal_eqV {d d' : D} {v v' : V} (h : scalar d = true) (h' : scalar d' = true) (r : Rep B F d v) (r' : Rep B F d' v') : flatV v = true ∧ flatV v' = true ∧ eqV v v' = deqv d d' := by
  cases d with
  | non => cases (show v = .non from r); cases d' with
    | non => cases (show v' = .non from r'); exact ⟨rfl, rfl, rfl⟩
    | bl _ => cases (show v' = .bl _ from r'); exact ⟨rfl, rfl, rfl⟩
    | int _ => cases (show v' = .int _ from r'); exact ⟨rfl, rfl, rfl⟩
    | str _ => obtain ⟨rfl, _⟩ := r'; exact ⟨rfl, rfl, rfl⟩
    | _ => cases h'
  | bl b => cases (show v = .bl _ from r); cases d' with
    | non => cases (show v' = .non from r'); exact ⟨rfl, rfl, rfl⟩
    | bl _ => cases (show v' = .bl _ from r'); exact ⟨rfl, rfl, rfl⟩
    | int _ => cases (show v' = .int _ from r'); exact ⟨rfl, rfl, rfl⟩
    | str _ => obtain ⟨rfl, _⟩ := r'; exact ⟨rfl, rfl, rfl⟩
    | _ => cases h'
  | int b => cases (show v = .int _ from r); cases d' with
    | non => cases (show v' = .non from r'); exact ⟨rfl, rfl, rfl⟩
    | bl _ => cases (show v' = .bl _ from r'); exact ⟨rfl, rfl, rfl⟩
    | int _ => cases (show v' = .int _ from r'); exact ⟨rfl, rfl, rfl⟩
    | str _ => obtain ⟨rfl, _⟩ := r'; exact ⟨rfl, rfl, rfl⟩
    | _ => cases h'
  | str b => obtain ⟨rfl, _⟩ := r; cases d' with
    | non => cases (show v' = .non from r'); exact ⟨rfl, rfl, rfl⟩
    | bl _ => cases (show v' = .bl _ from r'); exact ⟨rfl, rfl, rfl⟩
    | int _ => cases (show v' = .int _ from r'); exact ⟨rfl, rfl, rfl⟩
    | str _ => obtain ⟨rfl, _⟩ := r'; exact ⟨rfl, rfl, rfl⟩
    | _ => cases h'
  | _ => cases h
theorem scal_all {d' : D} {v' : V} (h' : scalar d' = true) (r' : Rep B F d' v') : ∀ {ds : List D} {vs : List V}, ds.all scalar = true → RepL B F ds vs → vs.all flatV = true ∧ inV v' vs = ds.any fun y => deqv y d'
  | [], vs, _, r => by rw [show vs = [] from r]; exact ⟨rfl, rfl⟩
  | d :: ds, vs, h, r => by
    obtain ⟨v, rest, rfl, r1, r2⟩ := r
    rw [List.all_cons, Bool.and_eq_true] at h
    obtain ⟨a1, a2, a3⟩ := scal_eqV h.1 h' r1 r'
    obtain ⟨b1, b2⟩ := scal_all h' r' h.2 r2
    refine ⟨by rw [List.all_cons, a1, b1]; rfl, ?_⟩
    unfold inV at b2 ⊢
    rw [List.any_cons, List.any_cons, a3, b2]
theorem Seen.scal {d : D} {v : V} (h : scalar d = true) (s : Seen B F H d v) : Rep B F d v := by
  cases d with
  | non => exact s
  | bl b => exact s
  | int i => exact s
  | str i => exact s
  | _ => cases h
theorem in_read {K : PySem.W.Frag} (hK : K = B.K) (hh : Holds F H) {x y : D} {v w : V} {k : Bool} {R1 R2' R3 R4 : Bool → Prop} (sx : Seen B F H x v) (sy : Seen B F H y w) (he : inD x y = some k) {P : Prop}
    (f1 : ∀ c z, v = .str ⟨#[c]⟩ → w = .str z → decide (c ∈ z.cps.toList) = k → P) (f2 : ∀ i j, v = .str i → w = .str j → (!(Builtin.Str.occurrences j i 0 j.length 1).isEmpty) = k → P)
    (f3 : ∀ d ds, Dp K H v d → Dp K H w (.list ds) → SeqAt.shaped d = true → SeqAt.shaped (.list ds) = true → (ds.any fun z => PyData.eqv z d) = k → P)
    (f4 : ∀ p xs, w = .ref p → SqT K H p xs → flatV v = true → xs.all flatV = true → inV v xs = k → P) : P := by
  have lst : ∀ xs, y = .lst xs → (if (dle 8 x && dle 8 (.lst xs)) = true then some (xs.any fun y => deqv y x) else none) = some k → P := fun xs ey e => by
    subst ey
    by_cases hd : (dle 8 x && dle 8 (.lst xs)) = true
    · rw [if_pos hd] at e; cases e
      rw [Bool.and_eq_true] at hd
      obtain ⟨a1, a2⟩ := sx.dp hK hh hd.1
      obtain ⟨b1, b2⟩ := sy.dp hK hh hd.2
      exact f3 _ _ a1 b1 a2 b2 (toPs_any xs fun z => PyData.eqv z (toP x))
    · rw [if_neg hd] at e; cases e
  have tup : ∀ xs, y = .tup xs → (if (scalar x && xs.all scalar) = true then some (xs.any fun y => deqv y x) else none) = some k → P := fun xs ey e => by
    subst ey
    by_cases hd : (scalar x && xs.all scalar) = true
    · rw [if_pos hd] at e; cases e
      rw [Bool.and_eq_true] at hd
      obtain ⟨p, vs, rfl, a, _, r⟩ := sy
      obtain ⟨b1, b2⟩ := scal_all hd.1 (sx.scal hd.1) hd.2 r
      obtain ⟨c1, _, _⟩ := scal_eqV hd.1 hd.1 (sx.scal hd.1) (sx.scal hd.1)
      exact f4 p vs rfl (by rw [hK]; exact a.sq hh) c1 b1 b2
    · rw [if_neg hd] at e; cases e
  cases y with
  | lst xs => exact lst xs rfl (by cases x <;> exact he)
  | tup xs => exact tup xs rfl (by cases x <;> exact he)
  | str z =>
    cases x with
    | str s =>
      obtain ⟨rfl, _⟩ := sx
      obtain ⟨rfl, _⟩ := sy
      simp only [inD, Option.some.injEq] at he
      unfold inStr at he
      obtain ⟨⟨l⟩⟩ := s
      simp only at he
      cases l with
      | nil => exact f2 _ _ rfl rfl he
      | cons c l =>
        cases l with
        | nil => exact f1 c z rfl rfl he
        | cons c2 l => exact f2 _ _ rfl rfl he
    | _ => cases he
  | _ => cases x <;> cases he
theorem p_in (hK : X.K = B.K) : Prim2 B (dInX false) (rInX X.K) := fun F H a b z x y Q hh sa sb e q => by
  simp only [dInX, Option.map_eq_some_iff] at e
  obtain ⟨k, e, rfl⟩ := e
  have fin : ∀ k', k' = k → Q (.bl k') H := fun k' e => q _ F H (Step.refl _ _ _) hh (by rw [e]; rfl)
  exact in_read hK hh sa sb e (R1 := fun _ => True) (R2' := fun _ => True) (R3 := fun _ => True) (R4 := fun _ => True) (fun c z h1 h2 h3 => .inl ⟨c, z, h1, h2, fin _ h3⟩) (fun i j h1 h2 h3 => .inr (.inl ⟨i, j, h1, h2, fin _ h3⟩))
    (fun d ds h1 h2 h3 h4 h5 => .inr (.inr (.inl ⟨d, ds, h1, h2, h3, h4, fin _ h5⟩))) (fun p xs h1 h2 h3 h4 h5 => .inr (.inr (.inr ⟨p, xs, h1, .inr h2, h3, h4, fin _ h5⟩)))
theorem p_notIn (hK : X.K = B.K) : Prim2 B (dInX true) (rNotInX X.K) := fun F H a b z x y Q hh sa sb e q => by
  simp only [dInX, Option.map_eq_some_iff] at e
  obtain ⟨k, e, rfl⟩ := e
  have fin : ∀ k', k' = k → Q (.bl (!k')) H := fun k' e => q _ F H (Step.refl _ _ _) hh (by rw [e]; rfl)
  exact in_read hK hh sa sb e (R1 := fun _ => True) (R2' := fun _ => True) (R3 := fun _ => True) (R4 := fun _ => True) (fun c z h1 h2 h3 => .inl ⟨c, z, h1, h2, fin _ h3⟩) (fun i j h1 h2 h3 => .inr (.inl ⟨i, j, h1, h2, fin _ h3⟩))
    (fun d ds h1 h2 h3 h4 h5 => .inr (.inr (.inl ⟨d, ds, h1, h2, h3, h4, fin _ h5⟩))) (fun p xs h1 h2 h3 h4 h5 => .inr (.inr (.inr ⟨p, xs, h1, .inr h2, h3, h4, fin _ h5⟩)))
/-! ### join -/
def strsOf : List D → Option (List Str)
  | [] => some []
  | .str i :: ds => (strsOf ds).map (i :: ·)
  | _ :: _ => none
theorem strsOf_rep : ∀ {ds : List D} {vs : List V} {ns : List Str}, strsOf ds = some ns → RepL B F ds vs → vs = ns.map V.str ∧ ∀ s ∈ ns, okS s
  | [], vs, ns, h, r => by cases h; exact ⟨r, fun _ z => nomatch z⟩
  | d :: ds, vs, ns, h, r => by
    obtain ⟨v, rest, rfl, r1, r2⟩ := r
    cases d with
    | str i =>
      simp only [strsOf, Option.map_eq_some_iff] at h
      obtain ⟨m, h, rfl⟩ := h
      obtain ⟨rfl, ok⟩ := r1
      obtain ⟨e, h2⟩ := strsOf_rep h r2
      refine ⟨by rw [e]; rfl, fun s hs => ?_⟩
      rcases List.mem_cons.mp hs with rfl | hs
      · exact ok
      · exact h2 s hs
    | _ => cases h
theorem okS_join {a : Str} (ha : okS a) : ∀ ys : List Str, (∀ y ∈ ys, okS y) → (ys.map (·.length)).sum + ys.length * a.length ≤ 16777216 → okS (Str.join a ys) ∧ (Str.join a ys).length ≤ (ys.map (·.length)).sum + ys.length * a.length
  | [], _, _ => ⟨(⟨by decide +kernel, by decide +kernel⟩ : okS Str.empty), Nat.zero_le _⟩
  | [x], h, _ => ⟨h x (by simp), by simp [Str.join]⟩
  | x :: z :: r, h, hz => by
    have e1 : ((x :: z :: r).map (·.length)).sum = x.length + ((z :: r).map (·.length)).sum := by simp
    have e2 : (x :: z :: r).length * a.length = a.length + (z :: r).length * a.length := by
      rw [List.length_cons, Nat.succ_mul]; omega
    rw [e1, e2] at hz ⊢
    obtain ⟨o1, o2⟩ := okS_join ha (z :: r) (fun y hy => h y (List.mem_cons_of_mem _ hy)) (by omega)
    have sl := sizeLine_eq
    have l1 : (x ++ a).length = x.length + a.length := by
      show (x.cps ++ a.cps).size = _
      rw [Array.size_append]; rfl
    have l2 : (x ++ a ++ Str.join a (z :: r)).length = x.length + a.length + (Str.join a (z :: r)).length := by
      show ((x ++ a).cps ++ (Str.join a (z :: r)).cps).size = _
      rw [Array.size_append]
      show (x ++ a).length + _ = _
      rw [l1]; rfl
    have o3 : okS (x ++ a) := okS_app (h x (by simp)) ha (by rw [sl]; omega)
    refine ⟨okS_app o3 o1 (by rw [l1, sl]; omega), ?_⟩
    show (x ++ a ++ Str.join a (z :: r)).length ≤ _
    rw [l2]; omega
def dJoin : D → D → Option D
  | .str a, .lst xs => (strsOf xs).bind fun ys => if (ys.map (·.length)).sum + ys.length * a.length ≤ 16777216 then some (.str (Str.join a ys)) else none
  | _, _ => none
def strChk : D → Option Unit
  | .str _ => some ()
  | _ => none
def mM1 (g : D → D → Option D) (m n : M Opd) : M Opd := M.bind m fun x => M.bind (ap1 strChk x) fun _ => M.bind n fun y => mD (ap2 g x y)
theorem m1_read {g : D → D → Option D} {r : V → List V → Hp → VK → Prop} (hp : Prim2 B g (fun x y H Q => r x [y] H Q)) (h : tE B W (mM1 g ma mb) σ H Q) : tM1 r (tE B W ma) (tE B W mb) σ H Q := by
  obtain ⟨F, env, S, h⟩ := h
  refine tE.one S h fun x e1 F1 H1 v s1 m1 o1 rv k1 => ?_
  obtain ⟨a, z, ea, ez, k2⟩ := (Post.bind m1 k1).ap1
  have sa := m1.view rv ea
  have hx : ∃ s, v = .str s := by
    cases a with
    | str s => obtain ⟨rfl, _⟩ := sa; exact ⟨s, rfl⟩
    | _ => cases ez
  refine ⟨hx, ?_⟩
  refine tE.one m1 (Post.here m1 k2) fun y e2 F2 H2 w s2 m2 o2 rw k3 => ?_
  obtain ⟨a', b, z', ea', eb, ez', k4⟩ := (Post.bind m2 k3).ap2
  refine hp F2 H2 a' b z' v w Q m2.hold (m2.view (rv.mono s2.le) ea') (m2.view rw eb) ez' fun u F3 H3 s3 h3 rz => ?_
  have m3 := m2.step0 s3 h3
  exact k4 F3 H3 s3.any m3 (EnvLe.refl _) F3 H3 (Step.refl _ _ _) m3 (EnvLe.refl _) u rz
theorem de_join {apos : Pos} (hK : X.K = B.K) (ha : DE B X W a ma) (hb : DE B X W b mb) (hs : starEach [b] X.env = [(false, eval b X.env)] := by rfl) (hbase : attributeBase a "join" X.env (eval a X.env) = eval a X.env := by rfl) (hline : (apos.endLine == pos.line) = true := by rfl) :
    DE B X W (.Call (.Attribute a "join" apos) [b] [] pos) (mM1 dJoin ma mb) := PE.imp (pe_join ha hb hs hbase hline) fun σ H Q h => m1_read (fun F H a b z x y Q hh sa sb e q => by
    cases a with
    | str s =>
      cases b with
      | lst xs =>
        obtain ⟨rfl, ok⟩ := sa
        obtain ⟨p, vs, rfl, a, _, r⟩ := sb
        obtain ⟨ys, e1, e2⟩ := Option.bind_eq_some_iff.mp e
        obtain ⟨rfl, hy⟩ := strsOf_rep e1 r
        by_cases hz : (ys.map (·.length)).sum + ys.length * s.length ≤ 16777216
        · rw [if_pos hz] at e2; cases e2
          refine ⟨s, p, ys, rfl, rfl, .inl (by rw [hK]; exact a), hz, ?_⟩
          rw [TL.join_eq]
          exact q _ F H (Step.refl _ _ _) hh ⟨rfl, (okS_join ok ys hy hz).1⟩
        · rw [if_neg hz] at e2; cases e2
      | _ => cases e
    | _ => cases e) h
/-! ### x[i] = e, x a name that alone holds its list -/
def chkL (i : Nat) : M Unit := fun env => match env[i]? with
  | some (.ow _ (.lst _)) => .ok () env
  | _ => .bad
def putAt (i : Nat) (d : D) (k : Option Int) : M Fl := fun env => match k, env[i]? with
  | some k, some (.ow pn (.lst xs)) => (match ixN xs.length k with
    | some j => .ok .nx (env.set i (.ow pn (.lst (xs.set j d))))
    | none => .bad)
  | _, _ => .bad
def mPutAt (i : Nat) (ix : M Opd) (m : M Opd) : M Fl := M.bind m fun x => M.bind (frz1 x) fun d => M.bind (chkL i) fun _ => M.bind ix fun y => M.bind (ap1 intOf y) fun k => putAt i d k
theorem PostS.chkL {i : Nat} {D0 : Ends} {k : Unit → M Fl} (S : Sim B F env σ H) (h : PostS B W F env σ H D0 (M.bind (AN.chkL i) k env)) : ∃ pn xs, env[i]? = some (.ow pn (.lst xs)) ∧ PostS B W F env σ H D0 (k () env) := by
  unfold M.bind AN.chkL at h
  cases q : env[i]? with
  | none => simp only [q] at h; exact h.elim
  | some s =>
    cases s with
    | no => simp only [q] at h; exact h.elim
    | fz _ => simp only [q] at h; exact h.elim
    | ow pn o =>
      cases o with
      | lst xs => simp only [q] at h; exact ⟨pn, xs, rfl, h⟩
      | dic _ => simp only [q] at h; exact h.elim
      | obj _ _ => simp only [q] at h; exact h.elim
theorem Sim.setOw {i : Nat} {pn : Bool} {o o' : O} {p : Addr} {u : HO} (S : Sim B F env σ H) (hi : env[i]? = some (.ow pn o)) (hp : σ[i]? = some (some (.ref p))) (ho : OAt B F (upd H p u) p o') : Go B F env σ H F (env.set i (.ow pn o')) σ (upd H p u) := by
  obtain ⟨p', a1, a2, a3⟩ := S.ow i pn o hi
  rw [hp] at a1; cases a1
  obtain ⟨w, hw⟩ := a3.ex
  have il : i < env.length := (List.getElem?_eq_some_iff.mp hi).1
  have own : Own env σ p := ⟨i, pn, o, hi, hp⟩
  have l : EnvLe env (env.set i (.ow pn o')) := ⟨fun j k q z => by
    rcases getElem?_setS z with ⟨rfl, e⟩ | ⟨_, e⟩
    · cases e; exact ⟨o, hi⟩
    · exact ⟨q, e⟩, fun j q z => by
    by_cases hj : i = j
    · subst hj; rw [hi] at z; cases z; exact ⟨o', List.getElem?_set_self il⟩
    · exact ⟨q, by rw [List.getElem?_set_ne hj]; exact z⟩⟩
  refine Go.of ⟨Le.refl F, fun b v e n => ?_, fun b v e => .inl e, fun b v e => ?_⟩ ⟨fun b v e => ?_, by rw [List.length_set]; exact S.len, fun j d z => ?_, fun j k q z => ?_, fun j j' k1 o1 k2 o2 q c1 c2 d1 d2 => ?_⟩ l
  · have : b ≠ p := fun z => n (by rw [z]; exact own)
    rw [upd_ne this]; exact e
  · by_cases hb : b = p
    · subst hb; exact ⟨u, upd_same⟩
    · exact ⟨v, by rw [upd_ne hb]; exact e⟩
  · have : b ≠ p := fun z => by rw [z, a2] at e; cases e
    rw [upd_ne this]; exact S.hold b v e
  · rcases getElem?_setS z with ⟨_, e⟩ | ⟨_, e⟩
    · cases e
    · exact S.fz j d e
  · rcases getElem?_setS z with ⟨rfl, e⟩ | ⟨ne, e⟩
    · cases e; exact ⟨p, hp, a2, ho⟩
    · obtain ⟨p', b1, b2, b3⟩ := S.ow j k q e
      have : p' ≠ p := fun z => ne (S.sep i j pn o k q p hi e hp (by rw [← z]; exact b1))
      exact ⟨p', b1, b2, b3.mono (Le.refl _) fun v hv => by rw [upd_ne this]; exact hv⟩
  · have f : ∀ {j : Nat} {k1 : Bool} {o1' : O}, (env.set i (.ow pn o'))[j]? = some (.ow k1 o1') → ∃ k2 o2, env[j]? = some (.ow k2 o2) := fun {j k1 o1'} z => by
      rcases getElem?_setS z with ⟨rfl, e⟩ | ⟨ne, e⟩
      · exact ⟨pn, o, hi⟩
      · exact ⟨_, _, e⟩
    obtain ⟨_, _, x1⟩ := f c1
    obtain ⟨_, _, x2⟩ := f c2
    exact S.sep j j' _ _ _ _ q x1 x2 d1 d2
theorem ds_putAt (i : Nat) {x : Str} {p' p2 : Pos} (hb : DE B X W b mb) (he : DE B X W e ma) (hN : X.N[i]? = some x := by rfl) (hv : Vis X.env.scope x := by first | exact Or.inl rfl | exact Or.inr (Or.inl rfl) | exact Or.inr (Or.inr rfl)) (hd : (x == ("__debug__" : Str)) = false := by decide)
    (hcd : (x == ("__classdict__" : Str)) = false := by decide)
    (ha : ∀ v, assign (.Subscript (.Name x p') b p2) X.env v = (do
      let ov ← holding [v] (eval (.Name x p') X.env)
      let iv ← holding [v, ov] (eval b X.env)
      standAt p2
      holding [v, ov, iv] (setItem ov iv v)
      release [v, ov, iv] []) := by intro _; rfl)
    (hs : swapsWithSole [.Subscript (.Name x p') b p2] e pos.line X.env = pure false := by rfl) (hw : swappedStores [.Subscript (.Name x p') b p2] e X.env = pure none := by rfl)
    (h1 : (assignEach [.Subscript (.Name x p') b p2] X.env).map (·.2) = [assign (.Subscript (.Name x p') b p2) X.env] := by rfl) : DS B X W (.Assign [.Subscript (.Name x p') b p2] e pos) (mPutAt i mb ma) :=
  PS.imp (ps_asg he (pg_sub (pe_var hN hv hd hcd) hb set_list ha) hs hw h1) fun D σ H h => by
    obtain ⟨F, env, S, h⟩ := h
    refine ⟨F, env, S, h.bind.mono fun x e1 F1 H1 s1 m1 o1 k1 v rv => ?_⟩
    obtain ⟨d, e2, F2, s2, m2, o2, r2, k2⟩ := m1.frz1 rv k1.bind
    obtain ⟨pn, xs, hi, k3⟩ := k2.chkL m2
    obtain ⟨q, hq, hf, _⟩ := m2.ow i pn _ hi
    refine ⟨.ref q, hq, F2, e2, m2, k3.bind.mono fun y e3 F3 H3 s3 m3 o3 k4 w rw => ?_⟩
    obtain ⟨a, z, ea, ez, k5⟩ := k4.bind.ap1
    have k5 := Post.here m3 k5
    have sa := m3.view rw ea
    cases a with
    | int n =>
      cases ez
      cases (show w = .int n from sa)
      unfold putAt at k5
      cases q2 : e3[i]? with
      | none => simp only [q2] at k5; exact k5.elim
      | some sl =>
        cases sl with
        | no => simp only [q2] at k5; exact k5.elim
        | fz _ => simp only [q2] at k5; exact k5.elim
        | ow pn' o =>
          cases o with
          | dic _ => simp only [q2] at k5; exact k5.elim
          | obj _ _ => simp only [q2] at k5; exact k5.elim
          | lst ys =>
            simp only [q2] at k5
            cases q3 : ixN ys.length n with
            | none => simp only [q3] at k5; exact k5.elim
            | some j =>
              simp only [q3] at k5
              obtain ⟨q', hq', hf', hz, vs, hv, rl⟩ := m3.ow i pn' _ q2
              rw [hq] at hq'; cases hq'
              refine ⟨q, vs, n, j, rfl, rfl, hv, by rw [rl.length]; exact q3, ?_⟩
              exact k5 _ _ _ (m3.setOw q2 hq ⟨by rw [List.length_set]; exact hz, _, upd_same, rl.set (Rep.mono s3.le d v r2) j⟩)
    | _ => cases ez
end
end AN

set_option Elab.async false
set_option maxRecDepth 100000
set_option autoImplicit false
set_option linter.unusedVariables false
namespace AN
open PySem L2

section
variable {B : Bx} {X : Cx} {W : WX} {F H : Hp} {env : Env} {σ : St} {Q : VK} {a b c e : Expr} {ma mb mc : M Opd} {pos p : Pos} {ms : M (List Opd)}
/-! ### a, b = x, y -/
def puts : List Nat → List D → Env → Option Env
  | [], [], env => some env
  | i :: is, d :: ds, env => (gN i d env).bind (puts is ds)
  | _, _, _ => none
def mPar (is : List Nat) (ms : M (List Opd)) : M Fl := M.bind ms fun xs => M.bind (frzs xs) fun ds env => match puts is ds env with
  | some e => .ok .nx e
  | none => .bad
theorem puts2 {i j : Nat} {ds : List D} {vs : List V} {e' : Env} (S : Sim B F env σ H) (r : RepL B F ds vs) (h : puts [i, j] ds env = some e') : ∃ v w, vs = [v, w] ∧ Go B F env σ H F e' ((σ.set i (some v)).set j (some w)) H := by
  match ds, r, h with
  | [d1, d2], r, h =>
    obtain ⟨v, r', rfl, a1, r⟩ := r
    obtain ⟨w, r', rfl, a2, r⟩ := r
    cases (show r' = [] from r)
    obtain ⟨e1, h1, h⟩ := Option.bind_eq_some_iff.mp h
    obtain ⟨e2, h2, h⟩ := Option.bind_eq_some_iff.mp h
    cases h
    obtain ⟨⟨s0, b0⟩, b1, rfl⟩ := gN_ok h1
    have g1 := S.setD b0 b1 a1
    obtain ⟨⟨s1, c0⟩, c1, rfl⟩ := gN_ok h2
    exact ⟨v, w, rfl, g1.trans (g1.sim.setD c0 c1 a2)⟩
  | [], r, h => cases h
  | [_], r, h =>
    obtain ⟨e1, h1, h⟩ := Option.bind_eq_some_iff.mp h
    cases h
  | _ :: _ :: _ :: _, r, h =>
    obtain ⟨e1, h1, h⟩ := Option.bind_eq_some_iff.mp h
    obtain ⟨e2, h2, h⟩ := Option.bind_eq_some_iff.mp h
    cases h
theorem ds_par2 (i j : Nat) {x y : Str} {px py pt : Pos} {kt k2 pt2} (hc : X.calm = true) (hN : X.N.Nodup) (ha : DA B X W [a, b] ms) (hi : X.N[i]? = some x := by rfl) (hj : X.N[j]? = some y := by rfl) (hij : i ≠ j := by decide)
    (hx : X.env.scope.names.lookup x = some .local := by rfl) (hy : X.env.scope.names.lookup y = some .local := by rfl)
    (hw : swappedStores [.Tuple [.Name x px, .Name y py] kt pt] (.Tuple [a, b] k2 pt2) X.env = pure (some [x, y]) := by rfl)
    (hs : swapsWithSole [.Tuple [.Name x px, .Name y py] kt pt] (.Tuple [a, b] k2 pt2) pos.line X.env = pure false := by rfl) :
    DS B X W (.Assign [.Tuple [.Name x px, .Name y py] kt pt] (.Tuple [a, b] k2 pt2) pos) (mPar [i, j] ms) := PS.imp (ps_par hc hN hi hj hij hx hy ha hw hs) fun D σ H h => by
  obtain ⟨F, env, S, h⟩ := h
  refine ⟨F, env, S, h.bind.mono fun xs e1 F1 H1 s1 m1 o1 k1 vs rvs => ?_⟩
  obtain ⟨ds, e2, F2, s2, m2, o2, r2, k2⟩ := m1.frzs rvs k1.bind
  cases q : puts [i, j] ds e2 with
  | none => simp only [q] at k2; exact k2.elim
  | some e3 =>
    simp only [q] at k2
    obtain ⟨v, w, rfl, g⟩ := puts2 m2 r2 q
    exact ⟨v, w, rfl, k2 _ _ _ g⟩
/-! ### the script -/
def scriptD (ns : List Int) : D := .lst (ns.map .int)
theorem repL_ints (ns : List Int) : RepL B F (ns.map D.int) (ns.map V.int) := by
  induction ns with
  | nil => rfl
  | cons n ns ih => exact ⟨_, _, rfl, rfl, ih⟩
/-- a law's promise: True for every script -/
theorem law_sp {f : Fn} {K : PySem.W.Frag} {a : Addr} {ns : List Int} (hK : K = B.K) (h : ∃ as, f [.fz (scriptD ns)] = .ok (.fz (.bl true)) as) (hl : ns.length ≤ 63) (hO : Only H) (hS : SqL K H a (ns.map V.int)) {E : XK} :
    spOf B 1 f [.ref a] H (fun v _ => v = .bl true) E := by
  obtain ⟨as, h⟩ := h
  have core : ∀ F : Hp, Holds F H → LAt B F a (ns.map V.int) → spOf B 1 f [.ref a] H (fun v _ => v = .bl true) E := fun F hh hF => by
    refine ⟨rfl, F, [.fz (scriptD ns)], ?_, fun i k o q => ?_, ?_⟩
    · refine sim_fz (ds := [scriptD ns]) (vs := [.ref a]) hh ⟨_, _, rfl, ⟨a, _, rfl, hF, ?_, repL_ints ns⟩, rfl⟩
      rw [List.length_map]
      exact Nat.le_trans hl (by decide)
    · cases i with
      | zero => simp at q
      | succ i => simp at q
    · rw [h]
      exact fun v F' H' s m r => r
  rcases hS with (z | ⟨o, z⟩) | z
  · rcases hO a with y | ⟨o, xs, y⟩ <;> rw [z] at y <;> cases y
  · refine core (fun b => if b = a then some (.lst (ns.map V.int)) else none) (fun b u e => ?_) (.inl (if_pos rfl))
    by_cases hb : b = a
    · subst hb
      have e' := (if_pos rfl).symm.trans e
      cases e'
      exact .inr ⟨rfl, o, z⟩
    · have e' := (if_neg hb).symm.trans e
      cases e'
  · refine core nil (fun b u e => by cases e) (.inr (.inr ?_))
    rw [← hK]; exact z
theorem blk_ok {N : List Str} {sc scope : Scope} {own : List (Str × Nat)} (hN : X.N = N) (hs : X.env.scope = sc) (h : blkC N sc scope own = true) : blkC X.N X.env.scope scope own = true := by rw [hN, hs]; exact h
def mDic0 : M O := M.pure (.dic [])
theorem do_dic0 : DO B X W (.Dict [] [] pos) mDic0 := PE.imp pe_dnewK fun σ H Q h => by
  obtain ⟨F, env, S, h⟩ := h
  intro d hd
  obtain ⟨s3, h3⟩ := step0_mk (u := .dK []) S.hold hd
  exact h _ _ s3.any (S.step0 s3 h3) (EnvLe.refl _) d hd (S.hold.none hd) ⟨Nat.zero_le _, [], upd_same, rfl⟩
theorem hu65 {k : Nat} {A : Around} (hr : Room k A) : A.units + 65 < cLine := by have := hr.un; omega
theorem hu64 {k : Nat} {A : Around} (hr : Room k A) : A.units + 64 < cLine := by have := hr.un; omega
/-! ### constants of the module -/
theorem de_gS {x : Str} {s : Str} (h : ∃ t, X.mg x = some (.str s t)) (ok : okS s) (hg : Gl X x := by rfl) (hd : (x == ("__debug__" : Str)) = false := by decide) : DE B X W (.Name x pos) (mC (.str s)) := by
  obtain ⟨t, h⟩ := h
  exact de_glob (v := .str s) hg h ⟨t, rfl⟩ (fun _ => ⟨rfl, ok⟩) hd
theorem de_gI {x : Str} {i : Int} (h : ∃ t, X.mg x = some (.int i t)) (hg : Gl X x := by rfl) (hd : (x == ("__debug__" : Str)) = false := by decide) : DE B X W (.Name x pos) (mC (.int i)) := by
  obtain ⟨t, h⟩ := h
  exact de_glob (v := .int i) hg h ⟨t, rfl⟩ (fun _ => rfl) hd
/-! ### a def of the module, ready to be called -/
structure Cal (P : Program) (w : World) (K : PySem.W.Frag) (mg : Str → Option Value) (base : Heap) (B : Bx) (x : Str) (k : Nat) (ps : List Str) (f : Fn) : Prop where
  ex : ∃ fa fd, FnOk P w K mg base (L2.CX P w) k fa fd ps (spOf B ps.length f) ∧ mg x = some (.ref fa) ∧ PySem.W.keepIn K (.ref fa) = true ∧ Binds K fd ps []
variable {k n : Nat} {ps : List Str} {f : Fn} {x : Str} {es : List Expr} {sg : List Bool}
theorem dc (C : Cal X.prog X.w X.K X.mg X.base B x k ps f) (hr : Room k X.A) (tk : Takes X W) (ha : DA B X W (e :: es) ms) (hg : Gl X x := by rfl) (hdb : (x == ("__debug__" : Str)) = false := by decide)
    (he : starEach (e :: es) X.env = (false, eval e X.env) :: starEach es X.env := by rfl) (hpl : (backTo pos (starEach es X.env)).any (·.1) = false := by rfl) : DE B X W (.Call (.Name x p) (e :: es) [] pos) (mCall ps.length f ms) := by
  obtain ⟨fa, fd, G, hm, hk, hb⟩ := C.ex
  exact de_call G hr tk hm hk hb ha hg hdb he hpl
theorem oc (C : Cal X.prog X.w X.K X.mg X.base B x k ps f) (hr : Room k X.A) (tk : Takes X W) (ha : DA B X W (e :: es) ms) (hg : Gl X x := by rfl) (hdb : (x == ("__debug__" : Str)) = false := by decide)
    (he : starEach (e :: es) X.env = (false, eval e X.env) :: starEach es X.env := by rfl) (hpl : (backTo pos (starEach es X.env)).any (·.1) = false := by rfl) : DO B X W (.Call (.Name x p) (e :: es) [] pos) (mCallO ps.length f ms) := by
  obtain ⟨fa, fd, G, hm, hk, hb⟩ := C.ex
  exact do_call G hr tk hm hk hb ha hg hdb he hpl
theorem dcM (sg : List Bool) (C : Cal X.prog X.w X.K X.mg X.base B x k ps f) (hr : Room k X.A) (tk : Takes X W) (ha : DA B X W (e :: es) ms) (hsg : ps.length = sg.length := by rfl) (hg : Gl X x := by rfl) (hdb : (x == ("__debug__" : Str)) = false := by decide)
    (he : starEach (e :: es) X.env = (false, eval e X.env) :: starEach es X.env := by rfl) (hpl : (backTo pos (starEach es X.env)).any (·.1) = false := by rfl) : DE B X W (.Call (.Name x p) (e :: es) [] pos) (mCallM sg f ms) := by
  obtain ⟨fa, fd, G, hm, hk, hb⟩ := C.ex
  rw [hsg] at G
  exact de_callM G hr tk hm hk hb ha hg hdb he hpl
theorem ocM (sg : List Bool) (C : Cal X.prog X.w X.K X.mg X.base B x k ps f) (hr : Room k X.A) (tk : Takes X W) (ha : DA B X W (e :: es) ms) (hsg : ps.length = sg.length := by rfl) (hg : Gl X x := by rfl) (hdb : (x == ("__debug__" : Str)) = false := by decide)
    (he : starEach (e :: es) X.env = (false, eval e X.env) :: starEach es X.env := by rfl) (hpl : (backTo pos (starEach es X.env)).any (·.1) = false := by rfl) : DO B X W (.Call (.Name x p) (e :: es) [] pos) (mCallMO sg f ms) := by
  obtain ⟨fa, fd, G, hm, hk, hb⟩ := C.ex
  rw [hsg] at G
  exact do_callM G hr tk hm hk hb ha hg hdb he hpl
end
/-- the end: the law's promise from what the top has left -/
theorem walk_x {l : PySem.W.OpenLaw} {k : Nat} {q : Program} {loose : List Str} {XP : (Str → Option Value) → Heap → Prop} {YP : World → Heap → Prop} {d : DefRec} {K : Params → PySem.W.Frag} {x : Str} {f : Fn} (B : PySem.W.Frag → Bx) (hB : ∀ F, (B F).K = F)
    (hn : l.most = some 63) (hdf : d.params.defaults = []) (hr : Room k callerA) (hY : ∀ (w : World) (h : Heap), YP w h → (K w.params).In h)
    (Fh : ∀ (w : World) (mg : Str → Option Value) (fa : Addr) (h : Heap), (K w.params).In h → h.Ns mainGlobals mg → XP mg h → mg d.name = some (.ref fa) →
      ∃ fd : FuncData, (∀ (s : Shared) (u : Value), BindsTo s fd ⟨[u], []⟩ [(x, u)]) ∧
        ∀ base : Heap, (K w.params).In base → base.Ns mainGlobals mg → FnOk l.prog w (K w.params) mg base (L2.CX l.prog w) k fa fd [x] (spOf (B (K w.params)) 1 f))
    (hf : ∀ ns : List Int, ns.length ≤ 63 → ∃ as, f [.fz (scriptD ns)] = .ok (.fz (.bl true)) as) :
    PySem.W.WalkO q loose XP YP l.row.toRowW d [] (fun f vs => PySem.call f vs) := by
  refine Att.attach_call hn hdf fun w s₀ s₁ mg mb fa o pm cd doc a vs ns G Y ho hd hcd hmg hobj hints hlen hg => ?_
  have KX := hY w _ Y
  obtain ⟨fd, hb, hF⟩ := Fh w mg fa _ KX G.T.g G.X hmg
  refine law_call KX G.T.g G.T.b G.T.builtins G.T.nolimit hg hobj hints (Nat.le_trans hlen (by decide)) hr hF hb (fun H hO hS => law_sp (hB _).symm (hf ns hlen) hlen hO hS) fun H e s' h => ?_
  obtain ⟨_, _, _, _, _, _, _, _, _, _, _, _, z⟩ := h
  exact z
end AN

set_option Elab.async false
set_option maxRecDepth 100000
set_option autoImplicit false
set_option linter.unusedVariables false
namespace AN
open PySem L2
/-! ### running a mirror -/
def R.th {α β : Type} (r : R α) (k : α → M β) : R β := match r with
  | .ok a e => k a e
  | .exc c d e => .exc c d e
  | .bad => .bad
def rop {α : Type} (o : Option α) (e : Env) : R α := match o with
  | some a => .ok a e
  | none => .bad
section
variable {α β : Type} {a : α} {e e' : Env} {k : α → M β} {c : String} {d : D}
@[simp] theorem th_ok : R.th (.ok a e) k = k a e := rfl
@[simp] theorem th_exc : R.th (.exc c d e : R α) k = .exc c d e := rfl
@[simp] theorem th_bad : R.th (.bad : R α) k = .bad := rfl
@[simp] theorem rop_some : rop (some a) e = .ok a e := rfl
@[simp] theorem rop_none : rop (none : Option α) e = .bad := rfl
theorem th_congr {r : R α} {k k' : α → M β} (h : ∀ a e, k a e = k' a e) : R.th r k = R.th r k' := by
  cases r with
  | ok a e => exact h a e
  | exc c d e => rfl
  | bad => rfl
theorem bind_r {m : M α} : M.bind m k e = R.th (m e) k := rfl
@[simp] theorem pure_r : M.pure a e = .ok a e := rfl
@[simp] theorem mC_r : mC d e = .ok (.d d) e := rfl
@[simp] theorem mD_r {m : M D} : mD m e = R.th (m e) fun d e => .ok (.d d) e := rfl
@[simp] theorem mB1_r {g : D → Option α} {m : M Opd} : mB1 g m e = R.th (m e) fun x e => ap1 g x e := rfl
@[simp] theorem mB2_r {g : D → D → Option α} {m n : M Opd} : mB2 g m n e = R.th (m e) fun x e => R.th (n e) fun y e => ap2 g x y e := rfl
@[simp] theorem ap1_r {g : D → Option α} {x : Opd} : ap1 g x e = rop ((view e x).bind g) e := by
  unfold ap1 rop
  cases view e x with
  | none => rfl
  | some a => dsimp only [Option.bind] <;> cases g a <;> rfl
@[simp] theorem ap2_r {g : D → D → Option α} {x y : Opd} : ap2 g x y e = rop ((view e x).bind fun a => (view e y).bind fun b => g a b) e := by
  unfold ap2 rop
  cases view e x with
  | none => rfl
  | some a => cases view e y with
    | none => rfl
    | some b => dsimp only [Option.bind] <;> cases g a b <;> rfl
@[simp] theorem view_d : view e (.d d) = some d := rfl
@[simp] theorem g2b_r {g : D → D → Option D} {x y : D} : g2b g x y = (g x y).bind blOf := rfl
@[simp] theorem mSeq_r {m n : M Fl} : mSeq m n e = R.th (m e) fun f => match f with
  | .nx => n
  | f => M.pure f := rfl
@[simp] theorem mIfS_r {t : M Bool} {m n : M Fl} : mIfS t m n e = R.th (t e) fun c => if c = true then m else n := rfl
@[simp] theorem mSet_r {i : Nat} {m : M Opd} : mSet i m e = R.th (m e) fun x e => R.th (frz1 x e) fun d e => put i (.fz d) e := rfl
@[simp] theorem mSetO_r {i : Nat} {m : M O} : mSetO i m e = R.th (m e) fun o e => put i (.ow false o) e := rfl
@[simp] theorem mRet_r {m : M Opd} : mRet m e = R.th (m e) fun x e => R.th (frz1 x e) fun d e => .ok (.rt d) e := rfl
@[simp] theorem mRetO_r {m : M O} : mRetO m e = R.th (m e) fun o e => .ok (.ro o) e := rfl
@[simp] theorem mRetN_r : mRetN e = .ok (.rt .non) e := rfl
@[simp] theorem mNx_r : mNx e = .ok .nx e := rfl
@[simp] theorem mDrop_r {m : M Opd} : mDrop m e = R.th (m e) fun _ e => .ok .nx e := rfl
@[simp] theorem frz1_d : frz1 (.d d) e = .ok d e := rfl
@[simp] theorem frzs_nil : frzs [] e = .ok [] e := rfl
@[simp] theorem frzs_cons {x : Opd} {xs : List Opd} : frzs (x :: xs) e = R.th (frz1 x e) fun d e => R.th (frzs xs e) fun ds e => .ok (d :: ds) e := rfl
@[simp] theorem mA0_r : mA0 e = .ok [] e := rfl
@[simp] theorem mA_r {m : M Opd} {ms : M (List Opd)} : mA m ms e = R.th (m e) fun x e => R.th (ms e) fun xs e => .ok (x :: xs) e := rfl
@[simp] theorem mTup_r {ms : M (List Opd)} : mTup ms e = R.th (ms e) fun xs e => R.th (frzs xs e) fun ds e => lim ds.length (M.pure (.d (.tup ds))) e := rfl
@[simp] theorem mLst_r {ms : M (List Opd)} : mLst ms e = R.th (ms e) fun xs e => R.th (frzs xs e) fun ds e => lim ds.length (M.pure (.lst ds)) e := rfl
theorem lim_r {n : Nat} {m : M α} (h : n ≤ sizeLine) : lim n m e = m e := if_pos h
@[simp] theorem mFz_r {m : M O} : mFz m e = R.th (m e) fun o e => .ok (.d o.toD) e := rfl
@[simp] theorem mDic0_r : mDic0 e = .ok (.dic []) e := rfl
@[simp] theorem toD_lst {xs : List D} : O.toD (.lst xs) = .lst xs := rfl
@[simp] theorem toD_dic {xs : List (Key × D)} : O.toD (.dic xs) = .dic xs := rfl
@[simp] theorem toD_obj {c : String} {xs : List (Str × D)} : O.toD (.obj c xs) = .obj c xs := rfl
@[simp] theorem mAnd_r {m n : M Bool} : mAnd m n e = R.th (m e) fun c => if c = true then n else M.pure false := rfl
@[simp] theorem mOr_r {m n : M Bool} : mOr m n e = R.th (m e) fun c => if c = true then M.pure true else n := rfl
@[simp] theorem mNot_r {m : M Bool} : mNot m e = R.th (m e) fun c e => .ok (!c) e := rfl
@[simp] theorem mAndV_r {m n : M Opd} : mAndV m n e = R.th (mB1 blOf m e) fun c => if c = true then n else mC (.bl false) := rfl
@[simp] theorem mOrV_r {m n : M Opd} : mOrV m n e = R.th (mB1 blOf m e) fun c => if c = true then mC (.bl true) else n := rfl
@[simp] theorem mNotV_r {m : M Opd} : mNotV m e = R.th (mB1 blOf m e) fun c e => .ok (.d (.bl (!c))) e := rfl
@[simp] theorem mT_r {m : M Opd} : mT m e = mB1 truth m e := rfl
@[simp] theorem mIf_r {t : M Bool} {m n : M α} : mIf t m n e = R.th (t e) fun c => if c = true then m else n := rfl
@[simp] theorem mChain_r {g g' : D → D → Option D} {x y z : M Opd} : mChain g g' x y z e = R.th (x e) fun u e => R.th (y e) fun v e => R.th (ap2 (g2b g) u v e) fun k e => if k = true then (R.th (z e) fun w e => mD (ap2 g' v w) e) else .ok (.d (.bl false)) e := by
  refine th_congr fun u e => th_congr fun v e => th_congr fun k e => ?_
  cases k <;> rfl
@[simp] theorem mIt_r {m : M Opd} : mIt m e = R.th (m e) fun x e => R.th (frz1 x e) fun d e => rop (seqOf d) e := by
  exact th_congr fun u e => th_congr fun v e => rfl
@[simp] theorem mRng1_r {m : M Opd} : mRng1 m e = mB1 rng1 m e := rfl
@[simp] theorem mFor_r {it : M (List D)} {g : D → Env → Option Env} {b : M Fl} : mFor it g b e = R.th (it e) fun ds e => loop g b ds e := rfl
@[simp] theorem mAsg_r {g : D → Env → Option Env} {m : M Opd} : mAsg g m e = R.th (m e) fun x e => R.th (frz1 x e) fun d e => R.th (rop (g d e) e) fun e' _ => .ok .nx e' := by
  refine th_congr fun u e => th_congr fun v e => ?_
  cases g v e <;> rfl
@[simp] theorem mPar_r {is : List Nat} {ms : M (List Opd)} : mPar is ms e = R.th (ms e) fun xs e => R.th (frzs xs e) fun ds e => R.th (rop (puts is ds e) e) fun e' _ => .ok .nx e' := by
  refine th_congr fun u e => th_congr fun v e => ?_
  cases puts is v e <;> rfl
@[simp] theorem mCall_r {n : Nat} {f : Fn} {ms : M (List Opd)} : mCall n f ms e = R.th (ms e) fun xs e => R.th (callP n f xs e) fun r e => .ok (.d r.toD) e := rfl
@[simp] theorem mCallO_r {n : Nat} {f : Fn} {ms : M (List Opd)} : mCallO n f ms e = R.th (ms e) fun xs e => R.th (callP n f xs e) retO := rfl
@[simp] theorem retO_r {o : O} : retO (.ow o) e = .ok o e := rfl
theorem callP_ok {n : Nat} {f : Fn} {xs : List Opd} {ds : List D} {e1 : Env} {d : D} {as : List Slot} (hn : xs.length = n) (h1 : frzs xs e = .ok ds e1) (h2 : f (ds.map .fz) = .ok (.fz d) as) (hs : scalar d = true) : callP n f xs e = .ok (.fz d) e := by
  unfold callP
  rw [if_pos hn, h1]
  dsimp only
  rw [h2]
  exact if_pos hs
theorem callP_fz {n : Nat} {f : Fn} {xs : List Opd} {ds : List D} {e1 : Env} {d : D} {as : List Slot} (hn : xs.length = n) (h1 : frzs xs e = .ok ds e1) (h2 : f (ds.map .fz) = .ok (.fz d) as) (hs : scalar d = false) : callP n f xs e = .ok (.fz d) e1 := by
  unfold callP
  rw [if_pos hn, h1]
  dsimp only
  rw [h2]
  exact if_neg (by rw [show (Ret.fz d).toD = d from rfl, hs]; decide)
theorem callP_ow {n : Nat} {f : Fn} {xs : List Opd} {ds : List D} {e1 : Env} {o : O} {as : List Slot} (hn : xs.length = n) (h1 : frzs xs e = .ok ds e1) (h2 : f (ds.map .fz) = .ok (.ow o) as) : callP n f xs e = .ok (.ow o) e1 := by
  unfold callP
  rw [if_pos hn, h1]
  dsimp only
  rw [h2]
  exact if_neg (by cases o <;> exact Bool.false_ne_true)
@[simp] theorem retD_fz : (Ret.fz d).toD = d := rfl
@[simp] theorem retD_ow {o : O} : (Ret.ow o).toD = o.toD := rfl
@[simp] theorem mCallM_r {sg : List Bool} {f : Fn} {ms : M (List Opd)} : mCallM sg f ms e = R.th (ms e) fun xs e => R.th (callM sg f xs e) fun r e => .ok (.d r.toD) e := rfl
@[simp] theorem mCallMO_r {sg : List Bool} {f : Fn} {ms : M (List Opd)} : mCallMO sg f ms e = R.th (ms e) fun xs e => R.th (callM sg f xs e) retO := rfl
theorem callM_ok {sg : List Bool} {f : Fn} {xs : List Opd} {ds : List D} {e1 e2 : Env} {args as : List Slot} {r : Ret} (hn : (ioS sg xs).Nodup) (h1 : frzIn sg xs e = .ok ds e1) (h2 : mkA sg xs ds e1 = some args) (h3 : f args = .ok r as) (h4 : back sg xs as e1 = some e2) : callM sg f xs e = .ok r e2 := by
  unfold callM
  rw [if_pos hn, h1]
  dsimp only
  rw [h2]
  dsimp only
  rw [h3]
  dsimp only
  rw [h4]
@[simp] theorem mSl_r {g : D → Option Int → Option Int → Option α} {m : M Opd} {ml mu : M (Option Int)} : mSl g m ml mu e = R.th (m e) fun x e => R.th (ml e) fun l e => R.th (mu e) fun u e => ap1 (fun d => g d l u) x e := rfl
@[simp] theorem mM1_r {g : D → D → Option D} {m n : M Opd} : mM1 g m n e = R.th (m e) fun x e => R.th (ap1 strChk x e) fun _ e => R.th (n e) fun y e => mD (ap2 g x y) e := rfl
@[simp] theorem mPutAt_r {i : Nat} {ix m : M Opd} : mPutAt i ix m e = R.th (m e) fun x e => R.th (frz1 x e) fun d e => R.th (chkL i e) fun _ e => R.th (ix e) fun y e => R.th (ap1 intOf y e) fun k e => AN.putAt i d k e := rfl
@[simp] theorem mLC_r {vs : List Nat} {it : M (List D)} {g : D → Env → Option Env} {mt : M Bool} {me : M Opd} : mLC vs it g mt me e = R.th (it e) fun ds env => if ds.length ≤ sizeLine then (match lc vs g mt me ds [] (wipeE vs 0 env) with
  | .ok acc e2 => .ok (.lst acc) (restE vs 0 env e2)
  | _ => .bad) else .bad := rfl
theorem runF_ok {n : Nat} {m : M Fl} {args : List Slot} {e : Env} {d : D} (h : m (args ++ List.replicate n .no) = .ok (.rt d) e) : runF n m args = .ok (.fz d) (outs args e) := by unfold runF; rw [h]
theorem runF_ow {n : Nat} {m : M Fl} {args : List Slot} {e : Env} {o : O} (h : m (args ++ List.replicate n .no) = .ok (.ro o) e) : runF n m args = .ok (.ow o) (outs args e) := by unfold runF; rw [h]
theorem runF_nx {n : Nat} {m : M Fl} {args : List Slot} {e : Env} (h : m (args ++ List.replicate n .no) = .ok .nx e) : runF n m args = .ok (.fz .non) (outs args e) := by unfold runF; rw [h]
/-- a loop with something kept -/
theorem loop_nx {g : D → Env → Option Env} {body : M Fl} {I : Env → Prop} : ∀ {ds : List D} {e : Env}, I e → (∀ d ∈ ds, ∀ e, I e → ∃ e1 e2, g d e = some e1 ∧ (body e1 = .ok .nx e2 ∨ body e1 = .ok .ct e2) ∧ I e2) → ∃ e', loop g body ds e = .ok .nx e' ∧ I e'
  | [], e, h, _ => ⟨e, rfl, h⟩
  | d :: ds, e, h, s => by
    obtain ⟨e1, e2, h1, h2, h3⟩ := s d (by simp) e h
    obtain ⟨e', h4, h5⟩ := loop_nx (ds := ds) h3 (fun d hd => s d (by simp [hd]))
    refine ⟨e', ?_, h5⟩
    rcases h2 with h2 | h2 <;> simp only [loop, h1, h2, h4]
/-- a list built with something kept -/
theorem lc_all {vs : List Nat} {g : D → Env → Option Env} {me : M Opd} {I : Env → Prop} {P : D → Prop} : ∀ {ds acc : List D} {e : Env}, I e → (∀ d ∈ acc, P d) → (∀ d ∈ ds, ∀ e, I e → ∃ e1 e2 x, g d e = some e1 ∧ M.bind me frz1 e1 = .ok x e2 ∧ P x ∧ I (wipeE vs 0 e2)) →
    ∃ xs e', lc vs g (M.pure true) me ds acc e = .ok xs e' ∧ xs.length = acc.length + ds.length ∧ (∀ d ∈ xs, P d) ∧ I e'
  | [], acc, e, h, ha, _ => ⟨acc, e, rfl, by simp, ha, h⟩
  | d :: ds, acc, e, h, ha, s => by
    obtain ⟨e1, e2, x, h1, h2, h3, h4⟩ := s d (by simp) e h
    obtain ⟨xs, e', k1, k2, k3, k4⟩ := lc_all (ds := ds) (acc := acc ++ [x]) h4 (fun z hz => by
      rcases List.mem_append.mp hz with hz | hz
      · exact ha z hz
      · rw [List.mem_singleton.mp hz]; exact h3) (fun d hd => s d (by simp [hd]))
    refine ⟨xs, e', ?_, by rw [k2]; simp; omega, k3, k4⟩
    simp only [lc, h1, pure_r, h2]
    exact k1
/-- a list built of what each item gives, all else as it was -/
theorem lc_map {vs : List Nat} {g : D → Env → Option Env} {me : M Opd} {f : D → D} {e : Env} : ∀ {ds acc : List D}, (∀ d ∈ ds, ∃ e1 e2, g d e = some e1 ∧ M.bind me frz1 e1 = .ok (f d) e2 ∧ wipeE vs 0 e2 = e) →
    lc vs g (M.pure true) me ds acc e = .ok (acc ++ ds.map f) e
  | [], acc, _ => by simp [lc]
  | d :: ds, acc, s => by
    obtain ⟨e1, e2, h1, h2, h3⟩ := s d (by simp)
    simp only [lc, h1, pure_r, h2, h3]
    rw [lc_map (fun d hd => s d (by simp [hd]))]
    simp
/-- the same with a test -/
theorem lc_filter {vs : List Nat} {g : D → Env → Option Env} {mt : M Bool} {me : M Opd} {t : D → Bool} {f : D → D} {e : Env} : ∀ {ds acc : List D}, (∀ d ∈ ds, ∃ e1 e2, g d e = some e1 ∧ mt e1 = .ok (t d) e2 ∧ (t d = false → wipeE vs 0 e2 = e) ∧ (t d = true → ∃ e3, M.bind me frz1 e2 = .ok (f d) e3 ∧ wipeE vs 0 e3 = e)) →
    lc vs g mt me ds acc e = .ok (acc ++ (ds.filter t).map f) e
  | [], acc, _ => by simp [lc]
  | d :: ds, acc, s => by
    obtain ⟨e1, e2, h1, h2, h3, h4⟩ := s d (by simp)
    cases c : t d with
    | false =>
      rw [c] at h2
      simp only [lc, h1, h2, h3 c]
      rw [lc_filter (fun d hd => s d (by simp [hd]))]
      simp [c]
    | true =>
      rw [c] at h2
      obtain ⟨e3, h5, h6⟩ := h4 c
      simp only [lc, h1, h2, h5, h6]
      rw [lc_filter (fun d hd => s d (by simp [hd]))]
      simp [c]
@[simp] theorem intsOf_map : ∀ ns : List Int, intsOf (ns.map .int) = some ns
  | [] => rfl
  | n :: ns => by simp only [List.map, intsOf, intsOf_map ns]; rfl
@[simp] theorem blsOf_map : ∀ ns : List Bool, blsOf (ns.map .bl) = some ns
  | [] => rfl
  | n :: ns => by simp only [List.map, blsOf, blsOf_map ns]; rfl
@[simp] theorem strsOf_map : ∀ ns : List Str, strsOf (ns.map .str) = some ns
  | [] => rfl
  | n :: ns => by simp only [List.map, strsOf, strsOf_map ns]; rfl
def pin : Slot → Bool
  | .ow true _ => true
  | _ => false
@[simp] theorem pin_no : pin .no = false := rfl
@[simp] theorem pin_fz : pin (.fz d) = false := rfl
@[simp] theorem pin_ow {o : O} {b : Bool} : pin (.ow b o) = b := by cases b <;> rfl
theorem put_pin {i : Nat} {s t : Slot} (h : e[i]? = some t) (h2 : pin t = false) : put i s e = .ok .nx (e.set i s) := by
  unfold put
  rw [h]
  cases t with
  | no => rfl
  | fz _ => rfl
  | ow b o => cases b with
    | true => cases h2
    | false => rfl
theorem gN_pin {i : Nat} {t : Slot} (h : e[i]? = some t) (h2 : pin t = false) : gN i d e = some (e.set i (.fz d)) := by
  unfold gN
  rw [h]
  cases t with
  | no => rfl
  | fz _ => rfl
  | ow b o => cases b with
    | true => cases h2
    | false => rfl
@[simp] theorem dEq_int {i j : Int} : dEq (.int i) (.int j) = some (.bl (i == j)) := if_pos (by rfl)
@[simp] theorem dNe_int {i j : Int} : dNe (.int i) (.int j) = some (.bl (!(i == j))) := if_pos (by rfl)
@[simp] theorem dEq_str {i j : Str} : dEq (.str i) (.str j) = some (.bl (i == j)) := if_pos (by rfl)
@[simp] theorem dNe_str {i j : Str} : dNe (.str i) (.str j) = some (.bl (!(i == j))) := if_pos (by rfl)
end
end AN

set_option Elab.async false
set_option maxRecDepth 100000
set_option autoImplicit false
set_option linter.unusedVariables false
/-! try with several named clauses -/
namespace AN
open PySem PySem.Spec PyProof.Rows L2
abbrev Su := Addr → Value → Option Addr → TS
/-- the wish of the clauses from the left, each with its slot -/
def wAll (K : PySem.W.Frag) (Wout : WX) (D : Ends) : List (Value × Nat × Su) → WX
  | [] => Wout
  | (c, i, ts) :: r => fun cls d σ H => ∃ yes, PySem.W.exmOne K cls c = some yes ∧ (yes = false → wAll K Wout D r cls d σ H) ∧
      (yes = true → ∀ a, H a = none → ts a cls d ⟨fun σ' H' => D.nx (σ'.set i none) H', D.rt, fun σ' H' => D.bk (σ'.set i none) H', fun σ' H' => D.ct (σ'.set i none) H'⟩ (σ.set i (some (.ref a))) H)
inductive HA (X : Cx) : List ExceptHandler → List (Value × Nat × Su) → Prop
  | nil : HA X [] []
  | cons {x n : Str} {c : Value} {i : Nat} {ts : Su} {st : Stmt} {su : List Stmt} {p q : Pos} {hds : List ExceptHandler} {l : List (Value × Nat × Su)} (hc : Names X x c) (hi : X.N[i]? = some n) (hl : X.env.kindOf n = some .local)
      (run : ∀ (a : Addr) (oe : Obj) (cls : Value) (d : Option Addr) (pn : List (Addr × Obj)), Zc cls d oe → (∃ vs, oe.data = .fields vs) → PSs (X.suite a ((a, oe) :: pn)) (st :: su) (ts a cls d)) (r : HA X hds l) :
      HA X (.ExceptHandler (some (.Name x p)) (some n) (st :: su) q :: hds) ((c, i, ts) :: l)
section
variable {X : Cx} {body : List Stmt} {h₀ : ExceptHandler} {hds : List ExceptHandler} {l : List (Value × Nat × Su)} {pos : Pos} {tb : WX → TS} {Wout : WX} {pins : List (Addr × Obj)} {σ : L2.St} {H : Hp} {D : Ends}
/-- one that has been caught here, and stands on its own ground -/
structure Caught (X : Cx) (pins : List (Addr × Obj)) (σ : L2.St) (H : Hp) (a : Addr) (cls : Value) (d : Option Addr) (sI s' : Shared) (B h : Heap) : Prop where
  inv : Inv X pins σ H sI
  nb : ∀ b o, sI.heap.get? b = some o → b ∉ frs X.stack → B.get? b = some o
  up : sI.heap.UpToSlots h
  os : s'.os = sI.os
  ag : AllBare s'.gens
  na : H a = none
  fly : HandSPX.FlyingZ B (X.env :: X.outer) a (Zc cls d) h
theorem Caught.back {a : Addr} {cls : Value} {d : Option Addr} {sI s' : Shared} {B h : Heap} (c : Caught X pins σ H a cls d sI s' B h) : Inv X pins σ H { s' with heap := h } := c.inv.landed c.nb c.fly.1 c.up c.os c.ag
theorem Caught.apart {a : Addr} {cls : Value} {d : Option Addr} {sI s' : Shared} {B h : Heap} (c : Caught X pins σ H a cls d sI s' B h) (hf : X.env.frame = some X.env.locals) : a ≠ X.env.locals ∧ a ∉ X.fs := by
  obtain ⟨oe, vs, he, _, hd⟩ := c.fly.there
  have out : a ∉ frs (X.env :: X.outer) := fun z => by
    obtain ⟨_, o2, e2, no⟩ := c.fly.2.2.1.mem z
    rw [he] at e2
    cases e2
    exact no _ hd
  exact ⟨fun z => out (List.mem_filterMap.mpr ⟨X.env, by simp, by rw [hf, z]⟩), fun z => by
    obtain ⟨e1, m1, q1⟩ := List.mem_filterMap.mp z
    exact out (List.mem_filterMap.mpr ⟨e1, by simp [m1], q1⟩)⟩
theorem Caught.handle {a : Addr} {cls : Value} {d : Option Addr} {sI s' : Shared} {B : Heap} (hs : X.stack = X.env :: X.outer) (hf : X.env.frame = some X.env.locals) (hN : X.N.Nodup) (tk : Takes X Wout) (ok : X.Ok) :
    ∀ {hds : List ExceptHandler} {l : List (Value × Nat × Su)}, HA X hds l → ∀ {h : Heap}, Caught X pins σ H a cls d sI s' B h → wAll X.K Wout D l cls d σ H →
      wpAny (model X.prog X.w) X.A (handleBy (.ref a) X.env hds) (SP X pins D) X.xe { s' with heap := h } := by
  intro hds l hk
  induction hk with
  | nil =>
    intro h c w
    refine wpAny_handleBy_nil ?_
    have fl := c.fly
    obtain ⟨_, _, _, _, _, T, _, _, eo, _, dd, f1, _⟩ := id fl
    have away : wpAny (model X.prog X.w) X.A (setFlight (.ref a) X.env.frame) (fun _ s4 => wpAny (model X.prog X.w) X.A (throw (.ref a) : Sem Flow) (SP X pins D) X.xe s4) X.xe { s' with heap := h } := by
      rw [hf]
      refine HandSPX.setFlight_upZ fl fun h2 held up2 => wpAny_throw (tk _ _ ?_)
      refine ⟨a, B, sI, pins, σ, H, cls, d, rfl, c.inv, c.nb, c.up.trans up2, .inr (.inr ?_), c.na, c.os, c.ag, w⟩
      rw [hs]
      exact held
    unfold PySem.passOn
    refine wpAny_bind (wpAny_field eo dd f1 ?_)
    rw [if_neg (by simp)]
    first
      | exact wpAny_bind away
      | exact wpAny_bind (wpAny_pure (wpAny_bind away))
  | @cons x n cv i ts st su p q hds2 l2 hc hi hl run r ih =>
    intro h c w
    obtain ⟨yes, e1, no, go⟩ := w
    have fl := c.fly
    obtain ⟨nL, nF⟩ := c.apart hf
    obtain ⟨oe, vs, he, hz, hd⟩ := fl.there
    have S3 := c.back.suite he hd c.na nL nF
    refine wpAny_handleBy_cons (codeAny_handlers_test ?_) (fun z => nomatch z)
    have ty : PySem.W.Looks (model X.prog X.w) h (typeOf (.ref a)) cls := fun _ _ _ _ k y => wpAny_typeOf_ref (k _ _ he) (by rw [hz.1]; exact y)
    have said := PySem.W.exm_one (M := model X.prog X.w) c.back.kIn ty e1
    have seen : ∀ {Q E : Value → Shared → Prop}, Q cv { s' with heap := h } → wpAny (model X.prog X.w) (X.A.mark (some (.ref a))) (eval (.Name x p) X.env) Q E { s' with heap := h } := fun {Q E} y => by
      obtain ⟨g1, g2, g3 | ⟨g3, g4, g5⟩⟩ := hc
      · exact ld_glob (X := X.suite a ((a, oe) :: (X.pn ++ pins))) S3 g1 g3 y g2
      · exact ld_blt (X := X.suite a ((a, oe) :: (X.pn ++ pins))) S3 g1 g3 g4 y g5 g2
    refine seen (said.here ?_)
    cases yes with
    | false =>
      show wpAny _ X.A (handleBy (.ref a) X.env hds2) _ _ _
      exact ih c (no rfl)
    | true =>
      refine codeAny_handlers_suite_as (HandSPX.lands_againZ fl fun h2 fl2 up2 => ?_)
      have c2 : Caught X pins σ H a cls d sI s' B h2 := { c with up := c.up.trans up2, fly := fl2 }
      obtain ⟨o2, _, he2, hz2, hd2⟩ := fl2.there
      refine store_ok (X := X.suite a ((a, o2) :: (X.pn ++ pins))) (v := .ref a) (c2.back.suite he2 hd2 c.na nL nF) hN hi (.inl hl) rfl (fun s5 S5 => ?_) (.inr hl)
      refine wpAny_mono ((run a o2 cls d (X.pn ++ pins) hz2 ⟨_, hd2⟩).run [] s5 _ H _ S5 (go rfl a c.na)) (fun f s6 sp => ?_) (fun _ _ z => z.elim)
      have done : ∀ {σ6 : L2.St} {H6 : Hp} {Z : Shared → Prop}, Inv (X.suite a ((a, o2) :: (X.pn ++ pins))) [] σ6 H6 s6 → (∀ s7, Inv X pins (σ6.set i none) H6 s7 → Z s7) → wpAny (model X.prog X.w) X.A (do bindName X.env n .none; unbindBehindTheSuite X.env n q) (fun _ s7 => Z s7) X.xe s6 :=
        fun {σ6 H6 Z} S6 z => gone_ok (S6.unsuite ok) hN hi hl z
      cases f with
      | ret u => obtain ⟨v6, σ6, H6, S6, r6, q6⟩ := sp; exact done S6 fun s7 J7 => ⟨_, _, _, J7, r6, q6⟩
      | next => obtain ⟨σ6, H6, S6, q6⟩ := sp; exact done S6 fun s7 J7 => ⟨_, _, J7, q6⟩
      | brk => obtain ⟨σ6, H6, S6, q6⟩ := sp; exact done S6 fun s7 J7 => ⟨_, _, J7, q6⟩
      | cont => obtain ⟨σ6, H6, S6, q6⟩ := sp; exact done S6 fun s7 J7 => ⟨_, _, J7, q6⟩
theorem ps_try_all (hs : X.stack = X.env :: X.outer) (hf : X.env.frame = some X.env.locals) (hN : X.N.Nodup) (tk : Takes X Wout)
    (hb : ∀ (W : WX) (pn : List (Addr × Obj)) (xe : Value → Shared → Prop), Takes (X.tr pn xe) W → PSs (X.tr pn xe) body (tb W))
    (hh : HA X (h₀ :: hds) l) : PS X (.Try body (h₀ :: hds) [] [] pos) (fun D σ H => tb (wAll X.K Wout D l) D σ H) := by
  refine ⟨fun pins s σ H D I h => wpAny_Try_except ?_⟩
  have ok := I.ok
  have fr : X.A.frames = some (X.env :: X.outer) := ok.frames.trans (by rw [hs])
  refine wpAny_mono ((hb (wAll X.K Wout D l) (X.pn ++ pins) (fun e s₁ => wpAny (model X.prog X.w) X.A (noteFrame e X.env) (fun _ s₂ => wpAny (model X.prog X.w) X.A (setFlight e none) (fun _ s₃ =>
    wpAny (model X.prog X.w) X.A (handleBy e X.env (h₀ :: hds)) (SP X pins D) X.xe s₃) X.xe s₂) X.xe s₁) (fun u s' air => ?_)).run [] s σ H D (I.toTry _) h) (fun f s1 sp => ?_) (fun e s1 z => z)
  · obtain ⟨a, B, sI, p1, σ1, H1, cls, d, rfl, J, nb, up, sky, na, os, ag, w⟩ := air
    rw [hs] at sky
    show wpAny (model X.prog X.w) X.A (noteFrame (.ref a) X.env) _ _ _
    exact Sky.land Zc.steady fr hf sky fun h3 fl3 up3 => Caught.handle hs hf hN tk ok hh (B := B) (sI := sI) (s' := s') ⟨J.ofTry ok, nb, up.trans up3, os, ag, na, fl3⟩ w
  · cases f with
    | ret u => obtain ⟨v, σ1, H1, J, r, q⟩ := sp; exact ⟨v, σ1, H1, J.ofTry ok, r, q⟩
    | next => obtain ⟨σ1, H1, J, q⟩ := sp; exact wpAny_execs_nil ⟨σ1, H1, J.ofTry ok, q⟩
    | brk => obtain ⟨σ1, H1, J, q⟩ := sp; exact ⟨σ1, H1, J.ofTry ok, q⟩
    | cont => obtain ⟨σ1, H1, J, q⟩ := sp; exact ⟨σ1, H1, J.ofTry ok, q⟩
end
end AN

set_option Elab.async false
set_option maxRecDepth 100000
set_option autoImplicit false
set_option linter.unusedVariables false
/-! try and its clauses, read plainly; a clause's suite is one return -/
namespace AN
open PySem L2
structure Hnd where
  cs : String → Option Bool
  slot : Nat
  su : String → D → M Fl
def retOnly : R Fl → R Fl
  | .ok (.rt d) e => .ok (.rt d) e
  | .ok (.ro o) e => .ok (.ro o) e
  | _ => .bad
def handle (c : String) (d : D) : List Hnd → Env → R Fl
  | [], e => .exc c d e
  | h :: hs, e => match h.cs c with
    | some true => (match e[h.slot]? with
      | some (.ow true _) => .bad
      | some _ => retOnly (h.su c d (e.set h.slot .no))
      | none => .bad)
    | some false => handle c d hs e
    | none => .bad
def mTry (mb : M Fl) (hs : List Hnd) : M Fl := fun env => match mb env with
  | .exc c d e => handle c d hs e
  | r => r
/-- the exception that a suite holds -/
structure Cau (B : Bx) (i : Nat) (a : Addr) (C dx : Addr) (c : String) (d : D) (σ : St) (F : Hp) : Prop where
  slot : σ[i]? = some (some (.ref a))
  has : ∃ fld v, B.exc c = some (C, fld) ∧ F dx = some (.xd [(fld, v)]) ∧ Rep B F d v
theorem Cau.mono {B : Bx} {i : Nat} {a C dx : Addr} {c : String} {d : D} {σ : St} {F F' : Hp} (l : Le F F') (h : Cau B i a C dx c d σ F) : Cau B i a C dx c d σ F' := by
  obtain ⟨s, fld, v, e, x, r⟩ := h
  exact ⟨s, fld, v, e, l _ _ x, Rep.mono l _ _ r⟩
def tSu (B : Bx) (i : Nat) (su : String → D → M Fl) : Su := fun a cls dx D σ H => ∃ c d C dd F env, cls = .ref C ∧ dx = some dd ∧ Cau B i a C dd c d σ F ∧ Sim B F env σ H ∧ PostS B WF F env σ H D (retOnly (su c d env))
inductive HL (B : Bx) (X : Cx) : List ExceptHandler → List Hnd → List (Value × Nat × Su) → Prop
  | nil : HL B X [] [] []
  | cons {x n : Str} {cv : Value} {h : Hnd} {st : Stmt} {su : List Stmt} {p q : Pos} {hds : List ExceptHandler} {hs : List Hnd} {l : List (Value × Nat × Su)} (hc : Names X x cv) (hi : X.N[h.slot]? = some n) (hl : X.env.kindOf n = some .local)
      (hcs : ∀ c b, h.cs c = some b → ∃ C fld, B.exc c = some (C, fld) ∧ PySem.W.exmOne X.K (.ref C) cv = some b)
      (run : ∀ (a : Addr) (oe : Obj) (cls : Value) (d : Option Addr) (pn : List (Addr × Obj)), Zc cls d oe → (∃ vs, oe.data = .fields vs) → PSs (X.suite a ((a, oe) :: pn)) (st :: su) (tSu B h.slot h.su a cls d)) (r : HL B X hds hs l) :
      HL B X (.ExceptHandler (some (.Name x p)) (some n) (st :: su) q :: hds) (h :: hs) ((cv, h.slot, tSu B h.slot h.su) :: l)
section
variable {B : Bx} {X : Cx} {W : WX} {F H F1 H1 : Hp} {env e1 : Env} {σ σ1 : St} {D : Ends}
theorem HL.ha {hds : List ExceptHandler} {hs : List Hnd} {l : List (Value × Nat × Su)} (h : HL B X hds hs l) : HA X hds l := by
  induction h with
  | nil => exact .nil
  | cons hc hi hl _ run _ ih => exact .cons hc hi hl run ih
theorem PostS.ret {D D' : Ends} {W' : WX} {r : R Fl} (hd : D'.rt = D.rt) (h : PostS B W F env σ H D (retOnly r)) : PostS B W' F env σ H D' (retOnly r) := by
  cases r with
  | bad => exact h
  | exc c d e => exact h
  | ok f e =>
    cases f with
    | nx => exact h
    | bk => exact h
    | ct => exact h
    | rt d =>
      show ∀ v σ' F' H', _ → _ → D'.rt v H'
      rw [hd]; exact h
    | ro o =>
      show ∀ p σ' F' H', _ → _ → _ → _ → _ → D'.rt (.ref p) H'
      rw [hd]; exact h
/-- the exception's dict joins the data, and its name the slots -/
theorem Go.caught {i : Nat} {a dx : Addr} {fs : List (Str × V)} (g : Go B F env σ H F1 e1 σ1 H1) (hd : H1 dx = some (.xd fs)) (hf : F1 dx = none) (h0 : H dx = none) (hp : ∀ o, e1[i]? ≠ some (.ow true o)) (na : H1 a = none) :
    Go B F env σ H (upd F1 dx (.xd fs)) (e1.set i .no) (σ1.set i (some (.ref a))) H1 where
  step := ⟨g.step.le.trans (Le.upd hf), g.step.keep, fun b u q => by
    by_cases hb : b = dx
    · subst hb; exact .inr (.inl h0)
    · rw [upd_ne hb] at q; exact g.step.new b u q, g.step.stay⟩
  sim := by
    have l : Le F1 (upd F1 dx (.xd fs)) := Le.upd hf
    refine ⟨fun b u q => ?_, by rw [List.length_set, List.length_set]; exact g.sim.len, fun j d q => ?_, fun j k o q => ?_, fun j j' k o k' o' p q1 q2 z1 z2 => ?_⟩
    · by_cases hb : b = dx
      · subst hb; rw [upd_same] at q; cases q; exact .inl hd
      · rw [upd_ne hb] at q; exact g.sim.hold b u q
    · rcases getElem?_setS q with ⟨_, e⟩ | ⟨ne, e⟩
      · cases e
      · obtain ⟨v, z, r⟩ := g.sim.fz j d e
        exact ⟨v, by rw [List.getElem?_set_ne ne]; exact z, Rep.mono l _ _ r⟩
    · rcases getElem?_setS q with ⟨_, e⟩ | ⟨ne, e⟩
      · cases e
      · obtain ⟨p, z, fp, r⟩ := g.sim.ow j k o e
        have np : p ≠ dx := fun y => by
          subst y
          cases o with
          | lst xs => obtain ⟨_, vs, e', _⟩ := r; rw [hd] at e'; cases e'
          | dic xs => obtain ⟨_, vs, e', _⟩ := r; rw [hd] at e'; cases e'
          | obj c fs => obtain ⟨C, dd, gs, _, e', _⟩ := r; rw [hd] at e'; cases e'
        exact ⟨p, by rw [List.getElem?_set_ne ne]; exact z, by rw [upd_ne np]; exact fp, r.mono l (fun u h => h)⟩
    · rcases getElem?_setS q1 with ⟨_, e⟩ | ⟨n1, e1'⟩
      · cases e
      rcases getElem?_setS q2 with ⟨_, e⟩ | ⟨n2, e2'⟩
      · cases e
      rw [List.getElem?_set_ne n1] at z1
      rw [List.getElem?_set_ne n2] at z2
      exact g.sim.sep j j' k o k' o' p e1' e2' z1 z2
  own := fun b ⟨j, o, q, z⟩ => by
    rcases getElem?_setS q with ⟨_, e⟩ | ⟨ne, e⟩
    · cases e
    · rw [List.getElem?_set_ne ne] at z; exact g.own b ⟨j, o, e, z⟩
  pin := fun j o q => by
    obtain ⟨⟨o', e⟩, z⟩ := g.pin j o q
    have ne : i ≠ j := fun y => by subst y; exact hp o' e
    exact ⟨⟨o', by rw [List.getElem?_set_ne ne]; exact e⟩, by rw [List.getElem?_set_ne ne]; exact z⟩
  unpin := fun j o q => by
    rcases getElem?_setS q with ⟨_, e⟩ | ⟨ne, e⟩
    · cases e
    · exact g.unpin j o e
  len := by rw [List.length_set]; exact g.len
theorem handle_ok {c : String} {d : AN.D} {hds : List ExceptHandler} {hs : List Hnd} {l : List (Value × Nat × Su)} (hl : HL B X hds hs l) : PostS B W F env σ H D (handle c d hs e1) →
    ∃ C fld, B.exc c = some (C, fld) ∧ ∀ σ' F' H' dx v, Go B F env σ H F' e1 σ' H' → H' dx = some (.xd [(fld, v)]) → F' dx = none → H dx = none → Rep B F' d v → wAll X.K W D l (.ref C) (some dx) σ' H' := by
  induction hl with
  | nil => exact fun h => h
  | @cons x n cv h st su p q hds hs l hc hi hl hcs run r ih =>
    intro k
    unfold handle at k
    cases e : h.cs c with
    | none => rw [e] at k; exact k.elim
    | some b =>
      rw [e] at k
      obtain ⟨C, fld, hx, he⟩ := hcs c b e
      cases b with
      | false =>
        obtain ⟨C', fld', hx', go⟩ := ih k
        rw [hx] at hx'; cases hx'
        exact ⟨C, fld, hx, fun σ' F' H' dx v g a1 a2 a3 a4 => ⟨false, he, fun _ => go σ' F' H' dx v g a1 a2 a3 a4, fun z => nomatch z⟩⟩
      | true =>
        refine ⟨C, fld, hx, fun σ' F' H' dx v g a1 a2 a3 a4 => ⟨true, he, fun z => (nomatch z), fun _ a na => ?_⟩⟩
        dsimp only at k
        have key : (∀ o, e1[h.slot]? ≠ some (.ow true o)) ∧ h.slot < e1.length ∧ PostS B W F env σ H D (retOnly (h.su c d (e1.set h.slot .no))) := by
          cases q : e1[h.slot]? with
          | none => rw [q] at k; exact k.elim
          | some s =>
            have lt := (List.getElem?_eq_some_iff.mp q).1
            rw [q] at k
            cases s with
            | no => exact ⟨fun o => (fun z => by cases z), lt, k⟩
            | fz _ => exact ⟨fun o => (fun z => by cases z), lt, k⟩
            | ow b o =>
              cases b with
              | true => exact k.elim
              | false => exact ⟨fun o => (fun z => by cases z), lt, k⟩
        obtain ⟨np, lt, k⟩ := key
        have g2 := g.caught (i := h.slot) (a := a) a1 a2 a3 np na
        have lt' : h.slot < σ'.length := by rw [← g.sim.len]; exact lt
        refine ⟨c, d, C, dx, _, _, rfl, rfl, ⟨by rw [List.getElem?_set_self lt'], fld, v, hx, upd_same, Rep.mono (Le.upd a2) _ _ a4⟩, g2.sim, PostS.ret (D := D) (W := W) rfl (PostS.from k g2)⟩
theorem ds_try {h₀ : ExceptHandler} {hds : List ExceptHandler} {hs : List Hnd} {l : List (Value × Nat × Su)} {body : List Stmt} {mb : M Fl} {pos : Pos} (hst : X.stack = X.env :: X.outer) (hf : X.env.frame = some X.env.locals) (hN : X.N.Nodup) (tk : Takes X W)
    (hb : ∀ (W : WX) (pn : List (Addr × Obj)) (xe : Value → Shared → Prop), Takes (X.tr pn xe) W → DSs B (X.tr pn xe) W body mb) (hh : HL B X (h₀ :: hds) hs l) : DS B X W (.Try body (h₀ :: hds) [] [] pos) (mTry mb hs) :=
  PS.imp (ps_try_all (tb := fun W => tS B W mb) hst hf hN tk hb hh.ha) fun D σ H h => by
    obtain ⟨F, env, S, h⟩ := h
    refine ⟨F, env, S, ?_⟩
    unfold mTry at h
    cases q : mb env with
    | bad => rw [q] at h; exact h
    | ok f e =>
      rw [q] at h
      cases f <;> exact h
    | exc c d e =>
      rw [q] at h
      exact handle_ok hh h
/-! ### what a suite returns -/
def tEP (B : Bx) (P : St → Hp → Prop) (m : M Opd) : TE := fun σ H Q => ∃ F env, P σ F ∧ Sim B F env σ H ∧ Post B WF F env σ H (fun r _ F' H' => ∀ v, OpdRel B F' σ v r → Q v H') (m env)
def tOP (B : Bx) (P : St → Hp → Prop) (m : M O) : TE := fun σ H Q => ∃ F env, P σ F ∧ Sim B F env σ H ∧ Post B WF F env σ H (fun o _ F' H' => ∀ p, H p = none → F' p = none → OAt B F' H' p o → Q (.ref p) H') (m env)
def tAP (B : Bx) (P : St → Hp → Prop) (m : M (List Opd)) : TA := fun σ H Q => ∃ F env, P σ F ∧ Sim B F env σ H ∧ Post B WF F env σ H (fun rs _ F' H' => ∀ vs, OpdsRel B F' σ vs rs → Q vs H') (m env)
variable {P : St → Hp → Prop} {e : Expr} {es : List Expr} {ma : M Opd} {ms : M (List Opd)} {pos : Pos}
theorem xp_of (h : DE B X WF e ma) : PE X e (tEP B P ma) := PE.imp h fun σ H Q ⟨F, env, _, S, k⟩ => ⟨F, env, S, k⟩
theorem xa0 : PA X [] (tAP B P mA0) := PA.imp pa_nil fun σ H Q h => by
  obtain ⟨F, env, _, S, h⟩ := h
  exact Post.here S h [] .nil
theorem xa (hP : ∀ σ F F', Le F F' → P σ F → P σ F') (ha : PE X e (tEP B P ma)) (hr : PA X es (tAP B P ms)) (hs : starEach (e :: es) X.env = (false, eval e X.env) :: starEach es X.env := by rfl) : PA X (e :: es) (tAP B P (mA ma ms)) :=
  PA.imp (pa_cons ha hr hs) fun σ H Q h => by
    obtain ⟨F, env, p, S, h⟩ := h
    refine ⟨F, env, p, S, (Post.bind S h).mono fun x e1 F1 H1 s1 m1 o1 k1 v rv => ⟨F1, e1, hP _ _ _ s1.le p, m1, (Post.bind m1 k1).mono fun xs e2 F2 H2 s2 m2 o2 k2 vs rvs => ?_⟩⟩
    exact Post.here m2 k2 (v :: vs) (.cons (rv.mono s2.le) rvs)
theorem xo_lst (h : PA X es (tAP B P ms)) : PE X (.List es pos) (tOP B P (mLst ms)) := PE.imp (pe_lst h) fun σ H Q h => by
  obtain ⟨F, env, p, S, h⟩ := h
  refine ⟨F, env, p, S, (Post.bind S h).mono fun xs e1 F1 H1 s1 m1 o1 k1 vs rvs => ?_⟩
  obtain ⟨ds, e2, F2, s2, m2, o2, r2, k2⟩ := m1.frzs rvs (Post.bind m1 k1)
  obtain ⟨hz, k2⟩ := k2.lim
  refine ⟨by rw [r2.length]; exact hz, fun p hp => ?_⟩
  obtain ⟨s3, h3⟩ := step0_mk (u := .lst vs) m2.hold hp
  exact k2 _ _ s3.any (m2.step0 s3 h3) (EnvLe.refl _) p (s1.back hp) (m2.hold.none hp) ⟨hz, vs, upd_same, r2⟩
end
end AN

set_option Elab.async false
set_option maxRecDepth 100000
set_option autoImplicit false
set_option linter.unusedVariables false
/-! defs that are only called where nothing is being shown (repr of containers is then as it stands) -/
namespace AN
open PySem PySem.Spec PyProof.Rows L2
structure FnG (P : Program) (w : World) (K : PySem.W.Frag) (mg : Str → Option Value) (base : Heap) (k : Nat) (f : Addr) (fd : FuncData) (ps : List Str) (sp : Sp) : Prop where
  len : ∀ vs H Q E, sp vs H Q E → vs.length = ps.length
  go : ∀ (A : Around) (outer : List PySem.Env) (s : Shared) (H : Hp) (args : Args) (us : List Value) (vs : List V) (Q : VK) (E : XK), Room k A → A.guards = some [] → Env0 P w K mg base A outer s H → BindsTo s fd args (ps.zip us) →
    Vals vs us → sp vs H Q E → codeAny (model P w) A (.call (.ref f) args) (CR (L2.CX P w) outer P w H s Q E) s
section
variable {P : Program} {w : World} {K : PySem.W.Frag} {mg : Str → Option Value} {base : Heap} {k : Nat} {f : Addr} {fd : FuncData} {ps : List Str} {sp : Sp}
theorem FnG.of (F : FnOk P w K mg base (L2.CX P w) k f fd ps sp) : FnG P w K mg base k f fd ps sp := ⟨F.len, fun A outer s H args us vs Q E r _ => F.run A outer s H args us vs Q E r⟩
theorem FnG.imp {sp' : Sp} (F : FnG P w K mg base k f fd ps sp) (h : ∀ vs H Q E, sp' vs H Q E → sp vs H Q E) : FnG P w K mg base k f fd ps sp' :=
  ⟨fun vs H Q E q => F.len vs H Q E (h _ _ _ _ q), fun A outer s H args us vs Q E r g e b v q => F.go A outer s H args us vs Q E r g e b v (h _ _ _ _ q)⟩
theorem fnG_of {x qual : Str} {st : Stmt} {N : List Str} (Fd : Fun K x qual st f fd) (S : FnScope N ps (defScope st)) (len : ∀ vs H Q E, sp vs H Q E → vs.length = ps.length)
    (hbody : ∀ (cdv : Value) (A : Around) (outer : List PySem.Env) (s : Shared) (H : Hp) (vs : List V) (Q : VK) (E : XK), Room k (A.deeper (envOfC qual (defScope st) s.heap.objs.size f cdv)) → A.guards = some [] → sp vs H Q E →
      ∃ t, PSs (cxOf (L2.CX P w) P w K mg base N qual (defScope st) f cdv A outer s H E) (defBody st) t ∧ t { nx := fun _ H' => Q .non H', rt := Q } (start N vs) H) : FnG P w K mg base (k + 1) f fd ps sp := by
  obtain ⟨oc, od, kV, doc, pm, an, cdv, ct, osl, rfl, lk, hcd⟩ := Fd.ex
  refine ⟨len, fun A outer s H args us vs Q E room gd e0 bind vals q => ?_⟩
  have kin : K.In s.heap := e0.mod.kin.keeps fun b o z => (e0.bs b o z).1
  have kinds : ∀ y ∈ ps.zip us, (defScope st).names.lookup y.1 = some .local ∨ ((defScope st).names.lookup y.1 = some .cell ∧ ((cellsFrom (s.heap.objs.size + 1) (defScope st).names []).lookup y.1).isSome = true) := by
    rintro ⟨n, v⟩ hy
    exact (S.par n (List.of_mem_zip hy).1).imp id fun z => ⟨z, PySem.W.cellsFrom_some _ _ _ (.inl z)⟩
  refine codeAny_call_function room.depth (kin _ _ lk) rfl S.co S.gen rfl (PySem.W.codeRec_of kin hcd) (bind _ _ _ _ (wpAny_newFunctionEnv_cells S.kind kinds fun env he s1 x => ?_))
  subst he
  refine ⟨(e0.mod.nolimit.keeps fun b o z => (e0.bs b o z).1).keeps x.toInCall.keep, codeAny_func ?_⟩
  obtain ⟨t, ht, hq⟩ := hbody cdv A outer s H vs Q E (room.deeper _) gd q
  have I : Inv (cxOf (L2.CX P w) P w K mg base N qual (defScope st) f cdv A outer s H E) [] (start N vs) H s1 := inv_start S room.hd e0 (len _ _ _ _ q) vals x
  have out : ∀ {σ' : L2.St} {H' : Hp} {v : V} {u : Value} {s' : Shared}, Inv (cxOf (L2.CX P w) P w K mg base N qual (defScope st) f cdv A outer s H E) [] σ' H' s' → RelV v u → Q v H' → CE outer P w H s Q u s' :=
    fun {σ' H' v u s'} J rv z => ⟨v, H', J.os, J.bare, J.base, J.hok, rv, z⟩
  refine wpAny_mono (ht.run [] s1 (start N vs) H _ I hq) (fun fl s' z => ?_) fun e s' z => z
  cases fl with
  | ret u => obtain ⟨v, σ', H', J, rv, y⟩ := z; exact out J rv y
  | next => obtain ⟨σ', H', J, y⟩ := z; exact out (v := V.non) (u := Value.none) J rfl y
  | brk => obtain ⟨_, _, _, y⟩ := z; exact y.elim
  | cont => obtain ⟨_, _, _, y⟩ := z; exact y.elim
end
section
variable {X : Cx} {k : Nat} {f : Addr} {fd : FuncData} {ps : List Str} {sp : Sp} {E : L2.St → XK} {x : Str} {p pos : Pos} {e : Expr} {es : List Expr} {t : TA}
theorem pe_callG (F : FnG X.prog X.w X.K X.mg X.base k f fd ps sp) (hr : Room k X.A) (gd : X.A.guards = some []) (hg : Gl X x) (hm : X.mg x = some (.ref f)) (hk : PySem.W.keepIn X.K (.ref f) = true) (hb : Binds X.K fd ps []) (hx : ∀ σ, PassesAt (L2.CX X.prog X.w) X σ (E σ))
    (ha : PA X (e :: es) t) (hdb : (x == ("__debug__" : Str)) = false := by decide) (he : starEach (e :: es) X.env = (false, eval e X.env) :: starEach es X.env := by rfl) (hpl : (backTo pos (starEach es X.env)).any (·.1) = false := by rfl) :
    PE X (.Call (.Name x p) (e :: es) [] pos) (tCallS sp E t) := by
  refine ⟨fun pins s σ H Q I h => wpAny_Call_Name_kw (ld_glob I hg hm ?_ hdb)⟩
  refine PySem.W.callWith_K (h₀ := X.base) I.ok.mod.kin hk (thn (ha.run pos pins s σ H _ I h) fun us s1 ⟨vs, H1, I1, r, q⟩ => ⟨I1.kIn, ?_⟩) he hpl
  have b := hb s1 us I1.kIn (by rw [List.append_nil, ← r.length]; exact F.len _ _ _ _ q)
  rw [List.append_nil] at b
  refine wpAny_call (codeAny_mono (F.go X.A X.stack s1 H1 ⟨us, []⟩ us vs Q (E σ) hr gd I1.env0 b r q) fun z s' y => ?_)
  cases z with
  | error u => exact hx σ pins H1 s1 u s' I1 y
  | ok fl =>
    cases fl with
    | ret u => exact I1.after y
    | next => exact y.elim
    | brk => exact y.elim
    | cont => exact y.elim
end
open L2
section
variable {B : Bx} {P : Program} {w : World} {K : PySem.W.Frag} {mg : Str → Option Value} {base : Heap}
/-- THE RULE for a def, where nothing is being shown -/
theorem fn_okG {x qual : Str} {st : Stmt} {f : Addr} {fd : FuncData} {N ps : List Str} {k n : Nat} {m : M Fl} (Fd : Fun K x qual st f fd) (S : FnScope N ps (defScope st)) (hn : N.length - ps.length = n) (hnp : ps.length ≤ N.length)
    (hbody : ∀ (cdv : Value) (A : Around) (outer : List PySem.Env) (s : Shared) (H : Hp) (E : XK), Room k (A.deeper (envOfC qual (defScope st) s.heap.objs.size f cdv)) → A.guards = some [] →
      Takes (cxOf (L2.CX P w) P w K mg base N qual (defScope st) f cdv A outer s H E) (fun cls d _ H => E cls d H) →
      PassesOwn (model P w) (A.deeper (envOfC qual (defScope st) s.heap.objs.size f cdv)) (envOfC qual (defScope st) s.heap.objs.size f cdv) (cxOf (L2.CX P w) P w K mg base N qual (defScope st) f cdv A outer s H E).xe →
      DSs B (cxOf (L2.CX P w) P w K mg base N qual (defScope st) f cdv A outer s H E) (fun cls d _ H => E cls d H) (defBody st) m) :
    FnG P w K mg base (k + 1) f fd ps (spOf B ps.length (runF n m)) := by
  refine fnG_of Fd S (fun vs H Q E h => h.1) fun cdv A outer s H vs Q E hr gd h => ?_
  exact ⟨_, hbody cdv A outer s H E hr gd (takes_of rfl rfl rfl rfl) (passes_of rfl), spOf_body hn h⟩
end
end AN

set_option Elab.async false
set_option maxRecDepth 100000
set_option autoImplicit false
set_option linter.unusedVariables false
namespace AN
open PySem PySem.Spec PyProof.Rows L2
/-- the law's def, called by the claim: nothing is being shown there -/
theorem law_callG {P : Program} {w : World} {K : PySem.W.Frag} {mg mb : Str → Option Value} {k : Nat} {fa a : Addr} {fd : FuncData} {x : Str} {sp : Sp} {s₁ : Shared} {vs : List Value} {ns : List Int}
    (KX : K.In s₁.heap) (hns : s₁.heap.Ns mainGlobals mg) (hb : s₁.heap.Ns builtinsNs mb) (hbb : ∀ y : Str, y ≠ "__name__" → mb y = bootBuiltins y) (hlim : s₁.heap.NoLimit) (hg : s₁.gens = #[])
    (ha : s₁.heap.get? a = some { cls := .type "list", data := .seq vs.toArray }) (hi : IntsAre vs ns) (hl : ns.length ≤ sizeLine) (hr : Room k callerA)
    (F : ∀ base : Heap, K.In base → base.Ns mainGlobals mg → FnG P w K mg base k fa fd [x] sp) (bind : ∀ (s : Shared) (u : Value), BindsTo s fd ⟨[u], []⟩ [(x, u)])
    (hsp : ∀ H : Hp, Only H → SqL K H a (ns.map V.int) → sp [.ref a] H (fun v _ => v = .bl true) fun _ _ _ => False)
    (no : ∀ H e s', L2.CX P w [] H s₁ (fun _ _ _ => False) e s' → False) :
    codeAny (model P w) callerA (.call (.ref fa) ⟨[.ref a], []⟩) (fun r s' => r = .ok (.ret (.bool true)) ∧ OldK s₁.heap s'.heap ∧ s'.os = s₁.os ∧ AllBare s'.gens) s₁ := by
  have main : ∀ H : Hp, Only H → SqL K H a (ns.map V.int) → HOk P w H s₁.heap → (∀ b u, H b = some u → b = a ∧ K.lookup a = none) →
      codeAny (model P w) callerA (.call (.ref fa) ⟨[.ref a], []⟩) (fun r s' => r = .ok (.ret (.bool true)) ∧ OldK s₁.heap s'.heap ∧ s'.os = s₁.os ∧ AllBare s'.gens) s₁ := by
    intro H only sq hok just
    have dicts : ∀ {b : Addr} {o : Obj} {es : Array DictEntry} {ep : Nat}, s₁.heap.get? b = some o → o.data = .dict es ep → H b = none := by
      intro b o es ep e1 e2
      cases q : H b with
      | none => rfl
      | some u =>
        obtain ⟨rfl, _⟩ := just b u q
        rw [ha] at e1
        cases e1
        cases (show Data.seq vs.toArray _ = Data.dict es ep from e2)
    have ns' : ∀ {b : Addr} {m : Str → Option Value}, s₁.heap.Ns b m → (hidT s₁.heap H).Ns b m := by
      rintro b m ⟨o, es, ep, e1, e2, r⟩
      exact ⟨o, es, ep, hidT_get e1 (dicts e1 e2), e2, r⟩
    have kin : K.In (hidT s₁.heap H) := fun b o e => hidT_get (KX b o e) (by
      cases q : H b with
      | none => rfl
      | some u =>
        obtain ⟨rfl, z⟩ := just b u q
        rw [z] at e
        cases e)
    have lim : (hidT s₁.heap H).NoLimit := by
      obtain ⟨mc, l1, l2⟩ := hlim
      exact ⟨mc, ns' l1, l2⟩
    have e0 : Env0 P w K mg (hidT s₁.heap H) callerA [] s₁ H := ⟨rfl, ⟨kin, ns' hns, ⟨mb, ns' hb, hbb⟩, lim⟩, fun b o e => of_hidT e, Nat.le_of_eq (hidT_size _ _), trivial, fun b z => (nomatch (show b ∈ ([] : List Addr) from z)), hok, .of_eq hg⟩
    refine codeAny_mono ((F _ kin (ns' hns)).go callerA [] s₁ H ⟨[.ref a], []⟩ [.ref a] [.ref a] _ _ hr rfl e0 (bind s₁ (.ref a)) (.cons rfl .nil) (hsp H only sq)) fun r s' y => ?_
    cases r with
    | error e => exact (no H e s' y).elim
    | ok fl =>
      cases fl with
      | next => exact y.elim
      | brk => exact y.elim
      | cont => exact y.elim
      | ret u =>
        obtain ⟨v, H', os, bare, un, hok', rv, q⟩ := y
        cases (show v = .bl true from q)
        cases (show u = Value.bool true from rv)
        refine ⟨rfl, OldK.of_keep fun b o e => ?_, os, bare⟩
        rcases only b with z | ⟨ob, xs, z⟩
        · exact un.keep b o e z (fun y => nomatch (show b ∈ ([] : List Addr) from y)) (by simp)
        · obtain ⟨e1, _⟩ := hok b _ z
          obtain ⟨e2, _⟩ := hok' b _ (un.frzs b ob _ z)
          rw [e] at e1
          cases e1
          exact e2
  have rv := vals_ints hi
  cases hk : K.lookup a with
  | none =>
    refine main (fun b => if b = a then some (.frz { cls := .type "list", data := .seq vs.toArray } (.lst (ns.map V.int))) else none) ?_ (.inl (.inr ⟨_, if_pos rfl⟩)) ?_ ?_
    · intro b
      by_cases z : b = a
      · exact .inr ⟨_, _, if_pos z⟩
      · exact .inl (if_neg z)
    · intro b u q
      try dsimp only at q
      split at q
      · rename_i z
        subst z
        cases q
        exact ⟨ha, by rw [List.length_map]; exact hl, vs, _, rv, ha⟩
      · cases q
    · intro b u q
      try dsimp only at q
      split at q
      · rename_i z
        exact ⟨z, hk⟩
      · cases q
  | some o =>
    have e := KX a o hk
    rw [ha] at e
    cases e
    exact main (fun _ => none) (fun _ => .inl rfl) (.inr ⟨_, vs.toArray, _, hk, rfl, rfl, rfl, by rw [List.size_toArray, hi.length]; exact hl, by simpa using rv⟩) (fun b u z => nomatch z) fun b u z => nomatch z
structure CalG (P : Program) (w : World) (K : PySem.W.Frag) (mg : Str → Option Value) (base : Heap) (B : Bx) (x : Str) (k : Nat) (ps : List Str) (f : Fn) : Prop where
  ex : ∃ fa fd, FnG P w K mg base k fa fd ps (spOf B ps.length f) ∧ mg x = some (.ref fa) ∧ PySem.W.keepIn K (.ref fa) = true ∧ Binds K fd ps []
section
variable {B : Bx} {X : Cx} {W : WX} {x : Str} {k : Nat} {ps : List Str} {f : Fn} {e : Expr} {es : List Expr} {ms : M (List Opd)} {p pos : Pos}
theorem Cal.g {P : Program} {w : World} {K : PySem.W.Frag} {mg : Str → Option Value} {base : Heap} (C : Cal P w K mg base B x k ps f) : CalG P w K mg base B x k ps f := by
  obtain ⟨fa, fd, G, r⟩ := C.ex
  exact ⟨fa, fd, .of G, r⟩
theorem dcG (C : CalG X.prog X.w X.K X.mg X.base B x k ps f) (hr : Room k X.A) (gd : X.A.guards = some []) (tk : Takes X W) (ha : DA B X W (e :: es) ms) (hg : Gl X x := by rfl) (hdb : (x == ("__debug__" : Str)) = false := by decide)
    (he : starEach (e :: es) X.env = (false, eval e X.env) :: starEach es X.env := by rfl) (hpl : (backTo pos (starEach es X.env)).any (·.1) = false := by rfl) : DE B X W (.Call (.Name x p) (e :: es) [] pos) (mCall ps.length f ms) := by
  obtain ⟨fa, fd, G, hm, hk, hb⟩ := C.ex
  exact PE.imp (pe_callG (E := WE W) G hr gd hg hm hk hb (fun σ => passAt tk σ) ha hdb he hpl) fun σ H Q h => call_de h
theorem ocG (C : CalG X.prog X.w X.K X.mg X.base B x k ps f) (hr : Room k X.A) (gd : X.A.guards = some []) (tk : Takes X W) (ha : DA B X W (e :: es) ms) (hg : Gl X x := by rfl) (hdb : (x == ("__debug__" : Str)) = false := by decide)
    (he : starEach (e :: es) X.env = (false, eval e X.env) :: starEach es X.env := by rfl) (hpl : (backTo pos (starEach es X.env)).any (·.1) = false := by rfl) : DO B X W (.Call (.Name x p) (e :: es) [] pos) (mCallO ps.length f ms) := by
  obtain ⟨fa, fd, G, hm, hk, hb⟩ := C.ex
  exact PE.imp (pe_callG (E := WE W) G hr gd hg hm hk hb (fun σ => passAt tk σ) ha hdb he hpl) fun σ H Q h => call_do h
theorem dcMG (sg : List Bool) (C : CalG X.prog X.w X.K X.mg X.base B x k ps f) (hr : Room k X.A) (gd : X.A.guards = some []) (tk : Takes X W) (ha : DA B X W (e :: es) ms) (hsg : ps.length = sg.length := by rfl) (hg : Gl X x := by rfl) (hdb : (x == ("__debug__" : Str)) = false := by decide)
    (he : starEach (e :: es) X.env = (false, eval e X.env) :: starEach es X.env := by rfl) (hpl : (backTo pos (starEach es X.env)).any (·.1) = false := by rfl) : DE B X W (.Call (.Name x p) (e :: es) [] pos) (mCallM sg f ms) := by
  obtain ⟨fa, fd, G, hm, hk, hb⟩ := C.ex
  rw [hsg] at G
  exact PE.imp (pe_callG (E := WE W) G hr gd hg hm hk hb (fun σ => passAt tk σ) ha hdb he hpl) fun σ H Q h => callM_de h
theorem ocMG (sg : List Bool) (C : CalG X.prog X.w X.K X.mg X.base B x k ps f) (hr : Room k X.A) (gd : X.A.guards = some []) (tk : Takes X W) (ha : DA B X W (e :: es) ms) (hsg : ps.length = sg.length := by rfl) (hg : Gl X x := by rfl) (hdb : (x == ("__debug__" : Str)) = false := by decide)
    (he : starEach (e :: es) X.env = (false, eval e X.env) :: starEach es X.env := by rfl) (hpl : (backTo pos (starEach es X.env)).any (·.1) = false := by rfl) : DO B X W (.Call (.Name x p) (e :: es) [] pos) (mCallMO sg f ms) := by
  obtain ⟨fa, fd, G, hm, hk, hb⟩ := C.ex
  rw [hsg] at G
  exact PE.imp (pe_callG (E := WE W) G hr gd hg hm hk hb (fun σ => passAt tk σ) ha hdb he hpl) fun σ H Q h => callM_do h
end
/-- the end, with FnG -/
theorem walk_g {l : PySem.W.OpenLaw} {k : Nat} {q : Program} {loose : List Str} {XP : (Str → Option Value) → Heap → Prop} {YP : World → Heap → Prop} {d : DefRec} {K : Params → PySem.W.Frag} {x : Str} {f : Fn} (B : PySem.W.Frag → Bx) (hB : ∀ F, (B F).K = F)
    (hn : l.most = some 63) (hdf : d.params.defaults = []) (hr : Room k callerA) (hY : ∀ (w : World) (h : Heap), YP w h → (K w.params).In h)
    (Fh : ∀ (w : World) (mg : Str → Option Value) (fa : Addr) (h : Heap), (K w.params).In h → h.Ns mainGlobals mg → XP mg h → mg d.name = some (.ref fa) →
      ∃ fd : FuncData, (∀ (s : Shared) (u : Value), BindsTo s fd ⟨[u], []⟩ [(x, u)]) ∧
        ∀ base : Heap, (K w.params).In base → base.Ns mainGlobals mg → FnG l.prog w (K w.params) mg base k fa fd [x] (spOf (B (K w.params)) 1 f))
    (hf : ∀ ns : List Int, ns.length ≤ 63 → ∃ as, f [.fz (scriptD ns)] = .ok (.fz (.bl true)) as) :
    PySem.W.WalkO q loose XP YP l.row.toRowW d [] (fun f vs => PySem.call f vs) := by
  refine Att.attach_call hn hdf fun w s₀ s₁ mg mb fa o pm cd doc a vs ns G Y ho hd hcd hmg hobj hints hlen hg => ?_
  have KX := hY w _ Y
  obtain ⟨fd, hb, hF⟩ := Fh w mg fa _ KX G.T.g G.X hmg
  refine law_callG KX G.T.g G.T.b G.T.builtins G.T.nolimit hg hobj hints (Nat.le_trans hlen (by decide)) hr hF hb (fun H hO hS => law_sp (hB _).symm (hf ns hlen) hlen hO hS) fun H e s' h => ?_
  obtain ⟨_, _, _, _, _, _, _, _, _, _, _, _, z⟩ := h
  exact z
end AN

set_option Elab.async false
set_option maxRecDepth 100000
set_option autoImplicit false
set_option linter.unusedVariables false
/-! repr of data -/
namespace AN
open PySem L2
def shOk (d : D) : Bool := dle 8 d && (toP d).showable && !(toP d).hasDict && decide ((toP d).shown.length ≤ sizeLine) && PyData.strOk (toP d).shown
def dRepr (d : D) : Option D := if shOk d = true then some (.str (toP d).shown) else none
section
variable {B : Bx} {X : Cx} {W : WX} {F H : Hp} {env : Env} {σ : St} {Q : VK} {a b c e : Expr} {ma mb mc : M Opd} {pos p : Pos}
def rRepr (K : PySem.W.Frag) : List V → Hp → VK → Prop := fun xs H Q => ∃ x d, xs = [x] ∧ Dp K H x d ∧ d.showable = true ∧ d.hasDict = false ∧ d.depth ≤ 64 ∧ d.shown.length ≤ sizeLine ∧ Q (.str d.shown) H
theorem call_repr_data (gd : X.A.guards = some []) (hu : X.A.units + 70 < cLine) : CallR X (.builtin "repr") (rRepr X.K) := by
  intro pins s σ H xs us Q I r h
  obtain ⟨x, d, rfl, hd, sh, nd, dp, hz, q⟩ := h
  obtain ⟨u, rfl, ru⟩ := vals1 r
  obtain ⟨as, rd⟩ := Dp.reads I d x u hd ru
  have ref : ∀ {a : Addr}, u = .ref a → wpAny (model X.prog X.w) X.A (call (.builtin "repr") [u]) (EP X pins σ Q) X.xe s := by
    rintro a rfl
    exact PySem.repr_of_reads' rd sh (fun z => by rw [nd] at z; cases z) gd (by omega) (fun _ _ e => e) (fun h' t tk k => ⟨.str _, H, I.kept k, ⟨_, rfl⟩, q⟩) hz
  cases rd with
  | none => exact PySem.P.repr_of_none ⟨.str _, H, I.tok _, ⟨_, rfl⟩, q⟩
  | bool b => exact PySem.P.repr_of_bool ⟨.str _, H, I.tok _, ⟨_, rfl⟩, q⟩
  | int i => exact PySem.P.repr_of_int (by simpa [PyData.showable] using sh) ⟨.str _, H, I.tok _, ⟨_, rfl⟩, q⟩
  | str x => exact PySem.P.repr_of_str ⟨.str _, H, I.tok _, ⟨_, rfl⟩, q⟩ hz
  | list _ _ _ _ => exact ref rfl
  | tuple _ _ _ _ => exact ref rfl
  | dict _ _ _ _ _ => exact ref rfl
theorem p_repr (hK : X.K = B.K) : Prim1 B dRepr (fun x H Q => rRepr X.K [x] H Q) := fun F H a z x Q hh sa e q => by
  unfold dRepr at e
  by_cases h : shOk a = true
  · rw [if_pos h] at e
    cases e
    unfold shOk at h
    simp only [Bool.and_eq_true, decide_eq_true_eq, Bool.not_eq_true'] at h
    obtain ⟨⟨⟨⟨h1, h2⟩, h3⟩, h4⟩, h5⟩ := h
    obtain ⟨a1, a2⟩ := sa.dp hK hh h1
    have a3 : PyData.depth (toP a) ≤ 64 := by
      unfold SeqAt.shaped at a2
      simp only [Bool.and_eq_true, decide_eq_true_eq] at a2
      omega
    exact ⟨x, _, rfl, a1, h2, h3, a3, h4, q _ F H (Step.refl _ _ _) hh ⟨rfl, h4, h5⟩⟩
  · rw [if_neg h] at e; cases e
theorem de_repr (gd : X.A.guards = some []) (hu : X.A.units + 70 < cLine) (hK : X.K = B.K) (ha : DE B X W a ma) (hm : X.mg "repr" = none) (hg : Gl X "repr" := by rfl) (he : starEach [a] X.env = (false, eval a X.env) :: starEach [] X.env := by rfl) (hpl : (backTo pos (starEach [] X.env)).any (·.1) = false := by rfl) :
    DE B X W (.Call (.Name "repr" p) [a] [] pos) (mD (mB1 dRepr ma)) := de_b1 (call_repr_data gd hu) (p_repr hK) ha hm (by decide +kernel) hg (by decide) (by decide) he hpl
/-! ### in a suite -/
variable {P : St → Hp → Prop} {x : Str} {id : String} {r : List V → Hp → VK → Prop}
theorem xp_b1 {g : D → Option D} (hc : CallR X (.builtin id) r) (hp : Prim1 B g (fun x H Q => r [x] H Q)) (ha : PE X a (tEP B P ma)) (hm : X.mg x = none) (hv : bootBuiltins x = some (.builtin id)) (hg : Gl X x := by rfl) (hn : x ≠ "__name__" := by decide) (hdb : (x == ("__debug__" : Str)) = false := by decide)
    (he : starEach [a] X.env = (false, eval a X.env) :: starEach [] X.env := by rfl) (hpl : (backTo pos (starEach [] X.env)).any (·.1) = false := by rfl) : PE X (.Call (.Name x p) [a] [] pos) (tEP B P (mD (mB1 g ma))) :=
  PE.imp (pe_callB hc hg hm hv (pa_cons ha pa_nil he) hn hdb he hpl) fun σ H Q h => by
    obtain ⟨F, env, p, S, h⟩ := h
    refine ⟨F, env, p, S, ?_⟩
    refine (Post.bind S (Post.bind S h)).mono fun x e2 F2 H2 s2 m2 o2 k2 v rv => ?_
    obtain ⟨a, z, ea, ez, k3⟩ := k2.ap1
    refine hp F2 H2 a z v Q m2.hold (m2.view rv ea) ez fun u F3 H3 s3 h3 rz => ?_
    have m3 := m2.step0 s3 h3
    exact k3 F3 H3 s3.any m3 (EnvLe.refl _) F3 H3 (Step.refl _ _ _) m3 (EnvLe.refl _) u rz
theorem xp_repr (gd : X.A.guards = some []) (hu : X.A.units + 70 < cLine) (hK : X.K = B.K) (ha : PE X a (tEP B P ma)) (hm : X.mg "repr" = none) (hg : Gl X "repr" := by rfl) (he : starEach [a] X.env = (false, eval a X.env) :: starEach [] X.env := by rfl) (hpl : (backTo pos (starEach [] X.env)).any (·.1) = false := by rfl) :
    PE X (.Call (.Name "repr" p) [a] [] pos) (tEP B P (mD (mB1 dRepr ma))) := xp_b1 (call_repr_data gd hu) (p_repr hK) ha hm (by decide +kernel) hg (by decide) (by decide) he hpl
theorem hu70 {k : Nat} {A : Around} (hr : Room k A) : A.units + 70 < cLine := by have := hr.un; omega
/-- what the suite may read of its exception: T tells each class's field -/
def mXf (T : String → Option Str) (f : Str) (c : String) (d : D) : M Opd := if T c = some f then mC d else fun _ => .bad
theorem xp_f {T : String → Option Str} {i : Nat} {n f : Str} {ex C dd : Addr} {oe : Obj} {pn : List (Addr × Obj)} {cn : String} {d : D} {p' : Pos} (hz : Zc (.ref C) (some dd) oe) (hf : ∃ vs, oe.data = .fields vs)
    (hT : T cn = some f → ∀ C fld, B.exc cn = some (C, fld) → fld = f ∧ XfC X.K C ∧ PySem.W.findIn X.K (.ref C) f = some none)
    (hN : X.N[i]? = some n := by rfl) (hv : Vis X.env.scope n := by first | exact Or.inl rfl | exact Or.inr (Or.inl rfl) | exact Or.inr (Or.inr rfl)) (hd : (n == ("__debug__" : Str)) = false := by decide) (hcd : (n == ("__classdict__" : Str)) = false := by decide)
    (hb : attributeBase (.Name n p') f X.env (eval (.Name n p') X.env) = eval (.Name n p') X.env := by rfl) :
    PE (X.suite ex ((ex, oe) :: pn)) (.Attribute (.Name n p') f pos) (tEP B (Cau B i ex C dd cn d) (mXf T f cn d)) := by
  refine ⟨fun pins s σ H Q I h => ?_⟩
  obtain ⟨F, env, ⟨sl, fld, v, hx, hF, rv⟩, S, k⟩ := h
  unfold mXf at k
  by_cases t : T cn = some f
  · rw [if_pos t] at k
    obtain ⟨rfl, x1, x2⟩ := hT t C fld hx
    refine (pe_xf (cls := .ref C) (d := some dd) x1 x2 hz hf (pe_var (X := X.suite ex ((ex, oe) :: pn)) hN hv hd hcd) hb).run pins s σ H Q I ?_
    exact ⟨.ref ex, sl, rfl, rfl, dd, _, v, rfl, S.hold.at_ hF rfl, by simp, Post.here S k v rv⟩
  · rw [if_neg t] at k; exact k.elim
/-- isinstance(e, C): T tells it of each class -/
def mXi (T : String → Option Bool) (c : String) : M Opd := match T c with
  | some b => mC (.bl b)
  | none => fun _ => .bad
theorem call_isX {ex C dd : Addr} {oe : Obj} {pn : List (Addr × Obj)} {fs : List (Str × V)} (E : L2.ExcC X.K C) (hz : Zc (.ref C) (some dd) oe) (hf : ∃ vs, oe.data = .fields vs) :
    CallR (X.suite ex ((ex, oe) :: pn)) (.builtin "isinstance") (fun xs H Q => H dd = some (.xd fs) ∧ rIsE X.K C ex xs H Q) := by
  intro pins s σ H xs us Q I r h
  obtain ⟨hx, c, cv, b, rfl, hcv, e, q⟩ := h
  obtain ⟨u1, u2, rfl, r1, r2⟩ := vals2 r
  cases (show u1 = Value.ref ex from r1)
  cases hcv _ r2
  obtain ⟨hget, _⟩ := I.pin (ex, oe) (by simp)
  obtain ⟨vs, hv⟩ := hf
  obtain ⟨mA, hns, _⟩ : ObjOk X.prog X.w H s.heap dd (.xd fs) := I.hok dd _ hx
  obtain ⟨od, ho, _⟩ := lookIn_ns hns
  have J : PySem.W.InstAt s.heap ex oe C (some od) := ⟨hget, hz.1, by unfold PySem.W.notCls; rw [hv] <;> rfl, by rw [hz.2]; exact ho⟩
  have hc : (PySem.W.clsIn X.K C).isSome = true := by
    obtain ⟨cd, z, _⟩ := PySem.W.any_some E.hd
    rw [z]; rfl
  exact PySem.W.kia_one (PySem.W.kitx_exc hc E.hg E.hk E.hs E.ha E.hn E.ht E.hm) I.kIn J e (fun z => nomatch z) fun tk => ⟨.bl b, H, I.kept (t' := tk) fun _ _ z => z, rfl, q⟩
theorem xp_is {T : String → Option Bool} {i : Nat} {n Cn : Str} {cv : Value} {ex C dd : Addr} {oe : Obj} {pn : List (Addr × Obj)} {cn : String} {d : D} {p1 p2 p3 : Pos} (hz : Zc (.ref C) (some dd) oe) (hf : ∃ vs, oe.data = .fields vs)
    (hT : ∀ b, T cn = some b → ∀ C fld, B.exc cn = some (C, fld) → L2.ExcC X.K C ∧ PySem.W.kitOne X.K (.ref C) cv = some b) (hc : ∃ t : TE, PE (X.suite ex ((ex, oe) :: pn)) (.Name Cn p3) t ∧ ∀ σ H Q, (∀ v, (∀ u, RelV v u → u = cv) → Q v H) → t σ H Q)
    (hm : X.mg "isinstance" = none) (hg : Gl X "isinstance" := by rfl)
    (hN : X.N[i]? = some n := by rfl) (hv : Vis X.env.scope n := by first | exact Or.inl rfl | exact Or.inr (Or.inl rfl) | exact Or.inr (Or.inr rfl)) (hd : (n == ("__debug__" : Str)) = false := by decide) (hcd : (n == ("__classdict__" : Str)) = false := by decide)
    (he : starEach [.Name n p2, .Name Cn p3] X.env = (false, eval (.Name n p2) X.env) :: starEach [.Name Cn p3] X.env := by rfl) (he2 : starEach [.Name Cn p3] X.env = (false, eval (.Name Cn p3) X.env) :: starEach [] X.env := by rfl)
    (hpl : (backTo pos (starEach [.Name Cn p3] X.env)).any (·.1) = false := by rfl) :
    PE (X.suite ex ((ex, oe) :: pn)) (.Call (.Name "isinstance" p1) [.Name n p2, .Name Cn p3] [] pos) (tEP B (Cau B i ex C dd cn d) (mXi T cn)) := by
  refine ⟨fun pins s σ H Q I h => ?_⟩
  obtain ⟨F, env, ⟨sl, fld, v, hx, hF, rv⟩, S, k⟩ := h
  obtain ⟨tc, hpc, htc⟩ := hc
  unfold mXi at k
  cases t : T cn with
  | none => rw [t] at k; exact k.elim
  | some b =>
    rw [t] at k
    obtain ⟨E, ek⟩ := hT b t C fld hx
    refine (pe_callB (X := X.suite ex ((ex, oe) :: pn)) (call_isX (fs := [(fld, v)]) E hz hf) hg hm (by decide +kernel) (pa_cons (pe_var (X := X.suite ex ((ex, oe) :: pn)) hN hv hd hcd) (pa_cons hpc pa_nil he2) he) (by decide) (by decide) he hpl).run pins s σ H Q I ?_
    refine ⟨.ref ex, sl, htc _ _ _ fun u hu => ?_⟩
    exact ⟨S.hold.at_ hF rfl, u, cv, b, rfl, hu, ek, Post.here S k (.bl b) rfl⟩
theorem PostS.unret {D : Ends} {r : R Fl} (h : PostS B W F env σ H D (retOnly r)) : PostS B W F env σ H D r := by
  cases r with
  | bad => exact h
  | exc _ _ _ => exact h.elim
  | ok f _ =>
    cases f with
    | nx => exact h.elim
    | bk => exact h.elim
    | ct => exact h.elim
    | rt _ => exact h
    | ro _ => exact h
/-- the suite: one return -/
theorem xs_ret {i : Nat} {ex : Addr} {cls : Value} {dx : Option Addr} {m : String → D → M Opd} (he : ∀ C dd, cls = .ref C → dx = some dd → ∀ cn d, PE X e (tEP B (Cau B i ex C dd cn d) (m cn d))) : PSs X [.Return (some e) pos] (tSu B i (fun c d => mRet (m c d)) ex cls dx) := by
  refine ⟨fun pins s σ H D I h => ?_⟩
  obtain ⟨c, d, C, dd, F, env, e1, e2, P1, S, k⟩ := h
  refine (pss_one (ps_ret (he C dd e1 e2 c d))).run pins s σ H D I ⟨F, env, P1, S, ?_⟩
  have k' : PostS B WF F env σ H D (mRet (m c d) env) := k.unret
  exact k'.bind.mono fun x e1 F1 H1 s1 m1 o1 k1 v rv => by
    obtain ⟨d, e2, F2, s2, m2, o2, r2, k2⟩ := m1.frz1 rv k1.bind
    exact k2 v σ F2 H1 (Go.refl m2) r2
theorem xs_retO {i : Nat} {ex : Addr} {cls : Value} {dx : Option Addr} {m : String → D → M O} (he : ∀ C dd, cls = .ref C → dx = some dd → ∀ cn d, PE X e (tOP B (Cau B i ex C dd cn d) (m cn d))) : PSs X [.Return (some e) pos] (tSu B i (fun c d => mRetO (m c d)) ex cls dx) := by
  refine ⟨fun pins s σ H D I h => ?_⟩
  obtain ⟨c, d, C, dd, F, env, e1, e2, P1, S, k⟩ := h
  refine (pss_one (ps_ret (he C dd e1 e2 c d))).run pins s σ H D I ⟨F, env, P1, S, ?_⟩
  have k' : PostS B WF F env σ H D (mRetO (m c d) env) := k.unret
  refine (PostS.bindPure k').mono fun o e1 F1 H1 s1 m1 o1 k1 p hp hf ho => ?_
  refine k1 p σ F1 H1 (Go.of s1 m1 o1) (.inr hp) (fun z => ?_) hf ho
  obtain ⟨_, u, hu⟩ := (o1.own z).ex S
  rw [hp] at hu; cases hu
end
end AN

set_option Elab.async false
set_option maxRecDepth 100000
set_option autoImplicit false
set_option linter.unusedVariables false
/-! own error classes over ValueError: one argument, kept under one name -/
namespace AN
open PySem PySem.Spec PyProof.Rows L2
section
variable {X : Cx} {x : Str} {N : Addr} {mc : Value} {e : Expr} {es : List Expr} {ta : TA} {pos p1 p2 : Pos}
/-- Base.__init__(self, ..), Base an own class that has ValueError's -/
theorem pe_neinit {pl : Sem Bool} (hm : X.mg x = some (.ref N)) (rd : ClX.CRead X.K N mc) (at_ : PySem.W.findCls X.K (.ref N) mc "__init__" = some (.val (.builtin "ValueError.__init__"))) (ha : PA X (e :: es) ta) (hg : Gl X x := by rfl) (hdb : (x == ("__debug__" : Str)) = false := by decide)
    (hc : eval (.Call (.Attribute (.Name x p1) "__init__" p2) (e :: es) [] pos) X.env = (do
      let ov ← eval (.Name x p1) X.env
      standAt p2.atName
      let (f, first) ← holding [ov] (getMethod ov "__init__" pl)
      callWith pos f first (backTo pos (starEach (e :: es) X.env)) (backToKw pos (keywordEach [] X.env))) := by rfl)
    (he : starEach (e :: es) X.env = (false, eval e X.env) :: starEach es X.env := by rfl) (hpl : (backTo pos (starEach es X.env)).any (·.1) = false := by rfl) :
    PE X (.Call (.Attribute (.Name x p1) "__init__" p2) (e :: es) [] pos) (tVeI X.K ta) := by
  refine ⟨fun pins s σ H Q I h => PySem.W.methodCall_KW (ld_glob I hg hm ?_ hdb) hc⟩
  refine PySem.W.method_cls I.kIn rd.ga (PySem.W.cls_value I.kIn rd.rd at_ (by decide +kernel) ?_)
  show wpAny _ _ (callWith pos (Value.builtin "ValueError.__init__") [] (backTo pos (starEach (e :: es) X.env)) []) _ _ _
  refine PyProof.Rows.callWith_method1 (thn (ha.run pos pins _ σ H _ (I.tok _) h) fun us s1 y => ?_) he hpl
  obtain ⟨vs, H1, I1, r1, a, C, ws, rfl, hl, T, ea, q⟩ := y
  cases r1 with
  | @cons _ u0 _ ur ra rr =>
    cases (show u0 = Value.ref a from ra)
    exact oinit_ok T I1 ea (by rw [← Paired.length rr, sizeLine_eq]; omega) fun s' J => ⟨.non, H1, J, rfl, q⟩
end
/-- what such an __init__ does -/
def spI (K : PySem.W.Frag) (fld : Str) : Sp := fun vs H Q _ => ∃ a C y, vs = [.ref a, y] ∧ OexC K C ∧ H a = some (exo a C none) ∧ PySem.W.findIn K (.ref C) fld = some none ∧ ∀ dx, H dx = none → dx ≠ a → Q .non (upd (upd H dx (exd dx [(fld, y)])) a (exo a C (some dx)))
def tIni (K : PySem.W.Frag) (fld : Str) : TS := fun D σ H => ∃ a C y, σ[0]? = some (some (.ref a)) ∧ σ[1]? = some (some y) ∧ OexC K C ∧ H a = some (exo a C none) ∧ PySem.W.findIn K (.ref C) fld = some none ∧
  ∀ dx, H dx = none → dx ≠ a → D.nx σ (upd (upd H dx (exd dx [(fld, y)])) a (exo a C (some dx)))
theorem ini_body {X : Cx} {s1 s2 : Stmt} {msg fld : Str} {ta : TA} (h1 : PS X s1 (tDrop (tVeI X.K ta))) (hta : ∀ (σ : L2.St) (H : Hp) (Q : List V → Hp → Prop) (v : V), σ[0]? = some (some v) → Q [v, .str msg] H → ta σ H Q) (h2 : PS X s2 (tOst X.K fld (tVar 0) (tVar 1))) : PSs X [s1, s2] (tIni X.K fld) :=
  PSs.imp (pss_cons h1 (pss_one h2)) fun D σ H h => by
    obtain ⟨a, C, y, h0, h1, T, ha, hf, q⟩ := h
    refine hta σ H _ _ h0 ⟨a, C, [.str msg], rfl, by simp, T, ha, ?_⟩
    exact ⟨y, h1, .ref a, h0, a, C, rfl, T, hf, .inl ⟨ha, q⟩⟩
theorem ini_args {msg : Str} (σ : L2.St) (H : Hp) (Q : List V → Hp → Prop) (v : V) (h : σ[0]? = some (some v)) (q : Q [v, .str msg] H) : tCons (tVar 0) (tCons (tC (.str msg)) tNil) σ H Q := ⟨v, h, q⟩
section
variable {P : Program} {w : World} {K : PySem.W.Frag} {mg : Str → Option Value} {base : Heap}
theorem init_ok {qual pv fld : Str} {st : Stmt} {f : Addr} {fd : FuncData} (Fd : Fun K "__init__" qual st f fd) (S : FnScope ["self", pv] ["self", pv] (defScope st))
    (hb : ∀ (cdv : Value) (A : Around) (outer : List PySem.Env) (s : Shared) (H : Hp) (E : XK), PSs (cxOf (L2.CX P w) P w K mg base ["self", pv] qual (defScope st) f cdv A outer s H E) (defBody st) (tIni K fld)) :
    FnOk P w K mg base (L2.CX P w) 1 f fd ["self", pv] (spI K fld) := by
  refine Fd.okX (k := 0) S (fun vs H Q E h => ?_) fun cdv A outer s H vs Q E hr h => ⟨_, hb cdv A outer s H E, ?_⟩
  · obtain ⟨a, C, y, rfl, _⟩ := h
    rfl
  · obtain ⟨a, C, y, rfl, T, ha, hf, q⟩ := h
    exact ⟨a, C, y, rfl, rfl, T, ha, hf, q⟩
end
/-! ### raise C(e) -/
def mRaise (c : String) (m : M Opd) : M Fl := M.bind m fun x => M.bind (frz1 x) fun d => fun env => .exc c d env
/-- what a raise of the class needs -/
structure Rai (P : Program) (w : World) (K : PySem.W.Frag) (mg : Str → Option Value) (base : Heap) (B : Bx) (x : Str) (c : String) : Prop where
  ex : ∃ C fI fd pv fld, B.exc c = some (C, fld) ∧ OexC K C ∧ PySem.W.findIn K (.ref C) fld = some none ∧ PySem.W.findIn K (.ref C) "__init__" = some (some (.ref fI)) ∧ PySem.W.typeIn K (.ref fI) = some (.type "function") ∧
    FnOk P w K mg base (L2.CX P w) 1 fI fd ["self", pv] (spI K fld) ∧ Binds K fd ["self", pv] [] ∧ mg x = some (.ref C)
section
variable {B : Bx} {X : Cx} {W : WX} {F H F1 H1 : Hp} {env e1 : AN.Env} {σ σ1 : L2.St} {x : Str} {c : String} {e : Expr} {ma : M Opd} {p pos pos' : Pos}
theorem ds_raise (R : Rai X.prog X.w X.K X.mg X.base B x c) (hr : Room 2 X.A) (hcalm : X.calm = true) (tk : Takes X W) (ha : DE B X W e ma) (hg : Gl X x := by rfl) (hdb : (x == ("__debug__" : Str)) = false := by decide)
    (he : starEach [e] X.env = (false, eval e X.env) :: starEach [] X.env := by rfl) (hpl : (backTo pos (starEach [] X.env)).any (·.1) = false := by rfl) : DS B X W (.Raise (some (.Call (.Name x p) [e] [] pos)) none pos') (mRaise c ma) := by
  obtain ⟨C, fI, fd, pv, fld, hx, T, hno, iC, tI, F0, hb, hm⟩ := R.ex
  refine PS.imp (ps_raise hcalm tk (pmk_oex (dvs := []) T iC tI F0 hr hb .nil passL hg hm (pa_cons ha pa_nil he) hdb he hpl)) fun D σ H h => ?_
  obtain ⟨F, env, S, h⟩ := h
  refine ⟨F, env, S, (PostS.bind h).mono fun y e1 F1 H1 s1 m1 o1 k1 v rv => ?_⟩
  obtain ⟨d, e2, F2, s2, m2, o2, r2, k2⟩ := m1.frz1 rv (PostS.bind k1)
  obtain ⟨C', fld', hx', k3⟩ := k2
  rw [hx] at hx'
  cases hx'
  refine ⟨by simp, fun a na => ⟨a, C, v, rfl, T, upd_same, hno, fun dx nd ne => ⟨rfl, dx, [(fld, v)], upd_same, ?_, ?_, ?_⟩⟩⟩
  · rw [upd_ne ne, upd_same]
  · rw [upd_ne ne] at nd; exact nd
  · rw [upd_ne ne] at nd
    have eq : upd (del (upd (upd (upd H1 a (exo a C none)) dx (exd dx [(fld, v)])) a (exo a C (some dx))) a) dx (.xd [(fld, v)]) = upd H1 dx (.xd [(fld, v)]) := by
      funext b
      by_cases h1 : b = dx
      · subst h1; rw [upd_same, upd_same]
      · rw [upd_ne h1, upd_ne h1]
        by_cases h2 : b = a
        · subst h2; rw [del_same, na]
        · rw [del_ne h2, upd_ne h2, upd_ne h1, upd_ne h2]
    rw [eq]
    obtain ⟨s3, h3⟩ := step0_mk (u := .xd [(fld, v)]) m2.hold nd
    exact k3 σ F2 _ dx v (Go.of s3.any (m2.step0 s3 h3) (EnvLe.refl _)) upd_same (m2.hold.none nd) nd r2
end
end AN

set_option Elab.async false
set_option maxRecDepth 100000
set_option autoImplicit false
set_option linter.unusedVariables false
/-! objects of own classes: fields, making, isinstance -/
namespace AN
open PySem L2
structure Ocl (K : PySem.W.Frag) (C : Addr) : Prop where
  cl : Cls K C
  ha : PySem.W.findIn K (.ref C) "__class__" = some (some (.builtin "object.__class__"))
  hn : PySem.W.specialIn K (.builtin "object.__class__") "__get__" = some (some (.builtin "getset_descriptor.__get__"))
  htk : PySem.W.takesIn K (.builtin "object.__class__") = some true
  hm : PySem.W.mroIn K C (.type "object") = some true
/-- the classes of B are in order -/
def Ocs (B : Bx) (K : PySem.W.Frag) : Prop := ∀ c C, B.cls c = some C → Ocl K C
/-- the classes that ok names have nothing of their own under f -/
def Free (B : Bx) (K : PySem.W.Frag) (ok : String → Bool) (f : Str) : Prop := ∀ c C, B.cls c = some C → ok c = true → NoAttr K C f
section
variable {B : Bx} {X : Cx} {W : WX} {F H : Hp} {env : Env} {σ : St} {Q : VK} {a b c e : Expr} {ma mb mc : M Opd} {pos p : Pos}
theorem RepF.look {fs : List (Str × D)} : ∀ {gs : List (Str × V)} {f : Str} {d : D}, RepF B F fs gs → fs.lookup f = some d → ∃ v, gs.lookup f = some v ∧ Rep B F d v := by
  induction fs with
  | nil => intro gs f d _ e; cases e
  | cons x r ih =>
    obtain ⟨g, y⟩ := x
    rintro gs f d ⟨v, t, rfl, h1, h2⟩ e
    rw [List.lookup_cons] at e
    rw [List.lookup_cons]
    cases q : f == g with
    | true => rw [q] at e; cases e; exact ⟨v, rfl, h1⟩
    | false => rw [q] at e; exact ih h2 e
theorem RepF.look0 {fs : List (Str × D)} : ∀ {gs : List (Str × V)} {f : Str}, RepF B F fs gs → fs.lookup f = none → gs.lookup f = none := by
  induction fs with
  | nil => intro gs f h _; rw [show gs = [] from h]; rfl
  | cons x r ih =>
    obtain ⟨g, y⟩ := x
    rintro gs f ⟨v, t, rfl, h1, h2⟩ e
    rw [List.lookup_cons] at e
    rw [List.lookup_cons]
    cases q : f == g with
    | true => rw [q] at e; cases e
    | false => rw [q] at e; exact ih h2 e
def dFld (ok : String → Bool) (f : Str) : D → Option D
  | .obj c fs => if ok c = true then fs.lookup f else none
  | _ => none
theorem p_fld {ok : String → Bool} {f : Str} (hC : Ocs B X.K) (hf : Free B X.K ok f) : Prim1 B (dFld ok f) (fun x H Q => ∃ a C dx fs v, x = .ref a ∧ H a = some (.ins C dx fs) ∧ Cls X.K C ∧ NoAttr X.K C f ∧ fs.lookup f = some v ∧ Q v H) :=
  fun F H a z x Q hh sa e q => by
    cases a with
    | obj c fs =>
      obtain ⟨p, C, dx, gs, rfl, hc, hp, r⟩ := sa
      dsimp only [dFld] at e
      by_cases k : ok c = true
      · rw [if_pos k] at e
        obtain ⟨v, l, rv⟩ := r.look e
        exact ⟨p, C, dx, gs, v, rfl, hp, (hC c C hc).cl, hf c C hc k, l, q v F H (Step.refl _ _ _) hh rv⟩
      · rw [if_neg k] at e; cases e
    | _ => cases e
theorem de_fld {ok : String → Bool} {f : Str} (hC : Ocs B X.K) (hf : Free B X.K ok f) (ha : DE B X W a ma) (hb : attributeBase a f X.env (eval a X.env) = eval a X.env := by rfl) : DE B X W (.Attribute a f pos) (mD (mB1 (dFld ok f) ma)) :=
  PE.imp (pe_fld ha hb) fun σ H Q h => op1 (p_fld hC hf) h
/-! ### self.f = e -/
def putD (f : Str) (d : D) : List (Str × D) → List (Str × D)
  | [] => [(f, d)]
  | (g, x) :: r => if g = f then (g, d) :: r else (g, x) :: putD f d r
theorem RepF.put {f : Str} {d : D} {v : V} (h : Rep B F d v) : ∀ {fs : List (Str × D)} {gs : List (Str × V)}, RepF B F fs gs → RepF B F (putD f d fs) (putF f v gs)
  | [], gs, r => by rw [show gs = [] from r]; exact ⟨v, [], rfl, h, rfl⟩
  | (g, x) :: fs, gs, r => by
    obtain ⟨y, t, rfl, h1, h2⟩ := r
    unfold putD putF
    by_cases q : g = f
    · rw [if_pos q, if_pos q]; exact ⟨v, t, rfl, h, h2⟩
    · rw [if_neg q, if_neg q]; exact ⟨y, _, rfl, h1, RepF.put h h2⟩
theorem RepF.length : ∀ {fs : List (Str × D)} {gs : List (Str × V)}, RepF B F fs gs → gs.length = fs.length
  | [], gs, r => by rw [show gs = [] from r]; rfl
  | (g, x) :: fs, gs, r => by obtain ⟨y, t, rfl, h1, h2⟩ := r; simp [RepF.length h2]
def setF (ok : String → Bool) (i : Nat) (f : Str) (d : D) : M Fl := fun env => match env[i]? with
  | some (.ow pn (.obj c fs)) => if ok c = true ∧ fs.length < 1000 then .ok .nx (env.set i (.ow pn (.obj c (putD f d fs)))) else .bad
  | _ => .bad
def mSetF (ok : String → Bool) (i : Nat) (f : Str) (m : M Opd) : M Fl := M.bind m fun x => M.bind (frz1 x) fun d => setF ok i f d
theorem ds_setF (ok : String → Bool) (i : Nat) {x f : Str} {p' p2 : Pos} (hC : Ocs B X.K) (hf : Free B X.K ok f) (he : DE B X W e ma) (hN : X.N[i]? = some x := by rfl) (hv : Vis X.env.scope x := by first | exact Or.inl rfl | exact Or.inr (Or.inl rfl) | exact Or.inr (Or.inr rfl))
    (hd : (x == ("__debug__" : Str)) = false := by decide) (hcd : (x == ("__classdict__" : Str)) = false := by decide) (hs : swapsWith e (some (.Attribute (.Name x p') f p2)) pos.line X.env = pure false := by rfl) :
    DS B X W (.Assign [.Attribute (.Name x p') f p2] e pos) (mSetF ok i f ma) := PS.imp (ps_fld (pe_var hN hv hd hcd) he hs) fun D0 σ H h => by
  obtain ⟨F, env, S, h⟩ := h
  refine ⟨F, env, S, h.bind.mono fun y e1 F1 H1 s1 m1 o1 k1 v rv => ?_⟩
  obtain ⟨d, e2, F2, s2, m2, o2, r2, k2⟩ := m1.frz1 rv k1.bind
  unfold setF at k2
  cases q : e2[i]? with
  | none => rw [q] at k2; exact k2.elim
  | some s =>
    rw [q] at k2
    cases s with
    | no => exact k2.elim
    | fz _ => exact k2.elim
    | ow pn o =>
      cases o with
      | lst _ => exact k2.elim
      | dic _ => exact k2.elim
      | obj c fs =>
        dsimp only at k2
        by_cases g : ok c = true ∧ fs.length < 1000
        · rw [if_pos g] at k2
          obtain ⟨p, h1, h2, C, dx, gs, hc, hp, r⟩ := m2.ow i pn _ q
          refine ⟨.ref p, h1, p, C, dx, gs, rfl, hp, (hC c C hc).cl, hf c C hc g.1, by rw [r.length]; exact g.2, ?_⟩
          exact k2 _ _ _ (m2.setOw q h1 ⟨C, dx, _, hc, upd_same, r.put r2⟩)
        · rw [if_neg g] at k2; exact k2.elim
/-! ### isinstance -/
def isG (fb : D → Bool) (fo : String → Bool) : D → Option D
  | .obj c _ => some (.bl (fo c))
  | d => some (.bl (fb d))
def IsOk (B : Bx) (K : PySem.W.Frag) (u : Value) (fb : D → Bool) (fo : String → Bool) : Prop :=
  (∀ d, isObj d = false → PySem.W.kitOne K (.type (tyN d)) u = some (fb d)) ∧ ∀ c C, B.cls c = some C → PySem.W.kitOne K (.ref C) u = some (fo c)
theorem p_isG {u : Value} {cv : V} {fb : D → Bool} {fo : String → Bool} (hcv : ClsV cv u) (hK : X.K = B.K) (hC : Ocs B X.K) (ho : IsOk B X.K u fb fo) : Prim1 B (isG fb fo) (fun x H Q => rIsi X.K [x, cv] H Q) := fun F H a z x Q hh sa e q => by
  cases h : isObj a with
  | true =>
    cases a with
    | obj c fs =>
      cases e
      obtain ⟨p, C, dx, gs, rfl, hc, hp, r⟩ := sa
      have oc := hC c C hc
      exact ⟨_, cv, _, u, _, rfl, hcv, .base (.ins hp oc.cl oc.ha oc.hn oc.htk oc.hm), ho.2 c C hc, q _ F H (Step.refl _ _ _) hh rfl⟩
    | _ => cases h
  | false =>
    have e' : z = .bl (fb a) := by
      cases a with
      | obj _ _ => cases h
      | _ => cases e; rfl
    subst e'
    exact ⟨_, cv, _, u, _, rfl, hcv, sa.ty hK hh h, ho.1 a h, q _ F H (Step.refl _ _ _) hh rfl⟩
theorem de_isG {Cn : Str} {u : Value} {fb : D → Bool} {fo : String → Bool} {p' : Pos} {cv : V} (hcv : ClsV cv u) (hK : X.K = B.K) (hC : Ocs B X.K) (ho : IsOk B X.K u fb fo) (hc : PE X (.Name Cn p') (tC cv)) (ha : DE B X W a ma) (hm : X.mg "isinstance" = none) (hg : Gl X "isinstance" := by rfl)
    (he : starEach [a, .Name Cn p'] X.env = (false, eval a X.env) :: starEach [.Name Cn p'] X.env := by rfl) (he2 : starEach [.Name Cn p'] X.env = (false, eval (.Name Cn p') X.env) :: starEach [] X.env := by rfl) (hpl : (backTo pos (starEach [.Name Cn p'] X.env)).any (·.1) = false := by rfl) :
    DE B X W (.Call (.Name "isinstance" p) [a, .Name Cn p'] [] pos) (mD (mB1 (isG fb fo) ma)) :=
  PE.imp (pe_callB call_isi hg hm (by decide +kernel) (pa_cons ha (pa_cons hc pa_nil he2) he) (by decide) (by decide) he hpl) fun σ H Q h => op1 (r := fun x H Q => rIsi X.K [x, cv] H Q) (p_isG hcv hK hC ho) h
/-- no built-in value is of an own class -/
theorem kit_own {K : PySem.W.Frag} {C : Addr} (h1 : (PySem.W.clsIn K C).isSome = true) (h2 : PySem.W.typeIn K (.ref C) = some (.type "type")) (d : D) (h : isObj d = false) : PySem.W.kitOne K (.type (tyN d)) (.ref C) = some false := by
  have key : ∀ T : String, (PySem.W.subIn K (.type T) (.ref C)) = some false → PySem.W.kitOne K (.type T) (.ref C) = some false := fun T hT => by
    show PySem.W.kitCls K (.type T) (.ref C) = some false
    unfold PySem.W.kitCls
    dsimp only
    rw [if_pos (by rw [h1, h2]; rfl)]
    exact hT
  cases d with
  | obj _ _ => cases h
  | non => exact key _ (by rfl)
  | bl _ => exact key _ (by rfl)
  | int _ => exact key _ (by rfl)
  | str _ => exact key _ (by rfl)
  | lst _ => exact key _ (by rfl)
  | tup _ => exact key _ (by rfl)
  | dic _ => exact key _ (by rfl)
end
end AN

set_option Elab.async false
set_option maxRecDepth 100000
set_option autoImplicit false
set_option linter.unusedVariables false
/-! C(e, ..) -/
namespace AN
open PySem PySem.Spec PyProof.Rows L2
def makeP (c : String) (n : Nat) (f : Fn) (xs : List Opd) : M O := fun env => if xs.length = n then (match frzs xs env with
  | .ok ds e1 => (match f (.ow true (.obj c []) :: ds.map .fz) with
    | .ok (.fz .non) (.ow true o :: _) => .ok o e1
    | .exc c' d _ => .exc c' d e1
    | _ => .bad)
  | _ => .bad) else .bad
def mMake (c : String) (n : Nat) (f : Fn) (ms : M (List Opd)) : M O := M.bind ms fun xs => makeP c n f xs
section
variable {B : Bx} {X : Cx} {W : WX} {F H F1 H1 F2 H2 : Hp} {env e1 e2 : AN.Env} {σ σ1 σ2 : L2.St} {Q : VK}
theorem make_read {c : String} {C : Addr} {n : Nat} {f : Fn} {xs : List Opd} {vs : List V} {k : O → AN.Env → Hp → Hp → Prop} (hc : B.cls c = some C) (S : Sim B F env σ H) (rs : OpdsRel B F σ vs xs) (h : Post B W F env σ H k (makeP c n f xs env))
    (hq : ∀ o e1 F1 H1, Step (Own env σ) F H F1 H1 → Sim B F1 e1 σ H1 → EnvLe env e1 → k o e1 F1 H1 → ∀ p, H p = none → F1 p = none → OAt B F1 H1 p o → Q (.ref p) H1) (x dx : Addr) (hx : H x = none) (hdx : H dx = none) (ne : dx ≠ x) :
    spOf B (n + 1) f (.ref x :: vs) (upd (upd H dx (.own x)) x (.ins C dx [])) (fun v H2 => v = .non ∧ Q (.ref x) H2) (WE W σ) := by
  unfold makeP at h
  by_cases hn : xs.length = n
  · rw [if_pos hn] at h
    cases qf : frzs xs env with
    | bad => rw [qf] at h; exact h.elim
    | exc c d e' => rw [qf] at h; exact h.elim
    | ok ds e1 =>
      rw [qf] at h
      obtain ⟨ds', e1', F1, s1, m1, l1, r1, q1⟩ := S.frzs (W := W) rs (k := fun d e _ _ => d = ds ∧ e = e1) (by rw [qf]; exact fun _ _ _ _ _ => ⟨rfl, rfl⟩)
      obtain ⟨rfl, rfl⟩ := q1
      have up : ∀ {b : Addr} {o : HO}, H b = some o → upd (upd H dx (.own x)) x (.ins C dx []) b = some o := fun {b o} e => by
        rw [upd_ne (ne_of_none e hx), upd_ne (ne_of_none e hdx)]; exact e
      have fx : F1 x = none := m1.hold.none hx
      have base := sim_fz m1.hold r1
      have hold : Holds F1 (upd (upd H dx (.own x)) x (.ins C dx [])) := fun b u e => by
        rcases m1.hold b u e with z | ⟨z, o, y⟩
        · exact .inl (up z)
        · exact .inr ⟨z, o, up y⟩
      have sim : Sim B F1 (.ow true (.obj c []) :: ds'.map .fz) ((V.ref x :: vs).map some) (upd (upd H dx (.own x)) x (.ins C dx [])) := by
        have no : ∀ {i : Nat} {k : Bool} {o : O}, (Slot.ow true (.obj c []) :: ds'.map .fz)[i]? = some (.ow k o) → i = 0 ∧ k = true ∧ o = .obj c [] := fun {i k o} q => by
          cases i with
          | zero => simp at q; exact ⟨rfl, q.1, q.2.symm⟩
          | succ i =>
            simp only [List.getElem?_cons_succ, List.getElem?_map] at q
            cases e : ds'[i]? with
            | none => rw [e] at q; cases q
            | some d' => rw [e] at q; cases q
        refine ⟨hold, ?_, fun i d q => ?_, fun i k o q => ?_, fun i j k o k' o' p a1 a2 _ _ => (no a1).1.trans (no a2).1.symm⟩
        · have := base.len
          simp only [List.length_cons, List.length_map] at this ⊢
          rw [this]
        · cases i with
          | zero => simp at q
          | succ i => simp only [List.getElem?_cons_succ, List.map_cons] at q ⊢; exact base.fz i d q
        · obtain ⟨rfl, rfl, rfl⟩ := no q
          exact ⟨x, rfl, fx, C, dx, [], hc, upd_same, rfl⟩
      have pin : PinOnly (.ow true (.obj c []) :: ds'.map .fz) := fun i k o q => by
        cases i with
        | zero => simp at q; exact q.1
        | succ i => exact fz_pin (ds := ds') i k o (by simpa using q)
      have own : ∀ {b : Addr}, Own (.ow true (.obj c []) :: ds'.map .fz) ((V.ref x :: vs).map some) b → b = x := fun {b} z => by
        obtain ⟨i, k, o, q, y⟩ := z
        cases i with
        | zero => simp at y; exact y.symm
        | succ i => exact (fz_own (ds := ds') (σ := vs.map some) (b := b) ⟨i, k, o, by simpa using q, by simpa using y⟩).elim
      have s0 : ∀ {F' H' : Hp}, Step (Own (.ow true (.obj c []) :: ds'.map .fz) ((V.ref x :: vs).map some)) F1 (upd (upd H dx (.own x)) x (.ins C dx [])) F' H' → Step0 F1 H F' H' := fun {F' H'} s =>
        { le := s.le
          keep := fun b o e _ => s.keep b o (up e) fun z => by rw [own z, hx] at e; cases e
          new := fun b u e => by
            rcases s.new b u e with z | z | z
            · exact .inl z
            · refine .inr (.inl ?_)
              cases q : H b with
              | none => rfl
              | some o => rw [up q] at z; cases z
            · rw [own z]; exact .inr (.inl hx)
          stay := fun b o e => s.stay b o (up e) }
      have tr : ∀ {F' H' : Hp}, Step0 F1 H F' H' → Step (Own env σ) F H F' H' := fun s => s1.trans s fun _ z => z.elim
      refine ⟨by rw [List.length_cons, rs.len, hn], F1, _, sim, pin, ?_⟩
      cases qr : f (.ow true (.obj c []) :: ds'.map .fz) with
      | bad => simp only [qr] at h; exact h.elim
      | exc c2 d a' =>
        simp only [qr] at h
        obtain ⟨C2, fld, hb, h⟩ := h
        have dn : ∀ {b : Addr}, upd (upd H dx (.own x)) x (.ins C dx []) b = none → H b = none := fun {b} z => by
          cases q : H b with
          | none => rfl
          | some o => rw [up q] at z; cases z
        exact ⟨C2, fld, hb, fun F' H' dx' v s m hd hf h0 r => h F' H' dx' v (tr (s0 s)) ⟨m1.step0 (s0 s) m.hold, l1⟩ hd hf (dn h0) r⟩
      | ok r a' =>
        cases r with
        | ow o => simp only [qr] at h; exact h.elim
        | fz d =>
          cases d with
          | non =>
            cases a' with
            | nil => simp only [qr] at h; exact h.elim
            | cons s as =>
              cases s with
              | no => simp only [qr] at h; exact h.elim
              | fz _ => simp only [qr] at h; exact h.elim
              | ow pn o =>
                cases pn with
                | false => simp only [qr] at h; exact h.elim
                | true =>
                  simp only [qr] at h
                  intro v F' H' s m r
                  obtain ⟨p, y1, y2, y3⟩ := m.ow 0 true o rfl
                  have ep : p = x := by simp at y1; exact y1.symm
                  subst ep
                  have st := tr (s0 s)
                  have sm := m1.step0 (s0 s) m.hold
                  exact ⟨r, hq o e1' F' H' st sm l1 (h F' H' st sm l1) p hx y2 y3⟩
          | _ => simp only [qr] at h; exact h.elim
  · rw [if_neg hn] at h; exact h.elim
def tMakeS (C : Addr) (sp : Sp) (E : L2.St → XK) (t : TA) : TE := fun σ H Q => t σ H fun vs H1 => ∀ x dx, H1 x = none → H1 dx = none → dx ≠ x → sp (.ref x :: vs) (upd (upd H1 dx (.own x)) x (.ins C dx [])) (fun v H2 => v = .non ∧ Q (.ref x) H2) (E σ)
variable {k : Nat} {f C : Addr} {fd : FuncData} {ps : List Str} {sp : Sp} {E : L2.St → XK} {x : Str} {p pos : Pos} {e : Expr} {es : List Expr} {t : TA}
theorem run_makeS {pins : List (Addr × Obj)} {s : Shared} {us : List Value} {vs : List V} (M : Mk X.K C f) (F : FnOk X.prog X.w X.K X.mg X.base (L2.CX X.prog X.w) k f fd ps sp) (hr : Room (k + 1) X.A) (hb : Binds X.K fd ps []) (hx : PassesAt (L2.CX X.prog X.w) X σ (E σ))
    (I : Inv X pins σ H s) (r : Vals vs us) (h : ∀ x dx, H x = none → H dx = none → dx ≠ x → sp (.ref x :: vs) (upd (upd H dx (.own x)) x (.ins C dx [])) (fun v H2 => v = .non ∧ Q (.ref x) H2) (E σ)) :
    wpAny (model X.prog X.w) X.A (call (.ref C) us) (EP X pins σ Q) X.xe s := by
  have q := h (s.heap.objs.size + 1) s.heap.objs.size (I.hok.fresh (Nat.le_succ _)) (I.hok.fresh (Nat.le_refl _)) (Nat.ne_of_lt (Nat.lt_succ_self _))
  have J := Inv.made (C := C) I
  have vals : Vals (V.ref (s.heap.objs.size + 1) :: vs) (Value.ref (s.heap.objs.size + 1) :: us) := .cons rfl r
  have b := hb _ (Value.ref (s.heap.objs.size + 1) :: us) J.kIn (by rw [List.append_nil, ← vals.length]; exact F.len _ _ _ _ q)
  rw [List.append_nil] at b
  refine wpAny_call (make_map (f := f) I.kIn M.makes M.init (beq_iff_eq.mp M.fn) (codeAny_mono (F.run _ X.stack _ _ ⟨Value.ref (s.heap.objs.size + 1) :: us, []⟩ _ _ _ (E σ) (hr.make C us []) (J.env0.make C us []) b vals q) fun z s' y => ?_))
  cases z with
  | error u => exact hx pins _ _ u s' J y
  | ok fl =>
    cases fl with
    | ret u =>
      obtain ⟨v, H', J2, rv, rfl, q2⟩ := J.after y
      exact ⟨rv, ⟨.ref _, H', J2, rfl, q2⟩⟩
    | next => exact y.elim
    | brk => exact y.elim
    | cont => exact y.elim
theorem pe_makeS (M : Mk X.K C f) (F : FnOk X.prog X.w X.K X.mg X.base (L2.CX X.prog X.w) k f fd ps sp) (hr : Room (k + 1) X.A) (hm : X.mg x = some (.ref C)) (hb : Binds X.K fd ps []) (hx : ∀ σ, PassesAt (L2.CX X.prog X.w) X σ (E σ))
    (ha : PA X (e :: es) t) (hg : Gl X x := by rfl) (hdb : (x == ("__debug__" : Str)) = false := by decide) (he : starEach (e :: es) X.env = (false, eval e X.env) :: starEach es X.env := by rfl) (hpl : (backTo pos (starEach es X.env)).any (·.1) = false := by rfl) :
    PE X (.Call (.Name x p) (e :: es) [] pos) (tMakeS C sp E t) := by
  refine ⟨fun pins s σ H Q I h => wpAny_Call_Name_kw (ld_glob I hg hm ?_ hdb)⟩
  refine PySem.W.callWith_K (h₀ := X.base) I.ok.mod.kin M.kp (thn (ha.run pos pins s σ H _ I h) fun us s1 ⟨vs, H1, I1, r, q⟩ => ⟨I1.kIn, ?_⟩) he hpl
  exact run_makeS M F hr hb (hx σ) I1 r q
/-- what a class must have to be made: its __init__ as a def -/
structure Mak (P : Program) (w : World) (K : PySem.W.Frag) (mg : Str → Option Value) (base : Heap) (B : Bx) (x : Str) (c : String) (k : Nat) (ps : List Str) (f : Fn) : Prop where
  ex : ∃ C fa fd, B.cls c = some C ∧ Mk K C fa ∧ FnOk P w K mg base (L2.CX P w) k fa fd ("self" :: ps) (spOf B (ps.length + 1) f) ∧ Binds K fd ("self" :: ps) [] ∧ mg x = some (.ref C)
theorem do_make {c : String} {ps : List Str} {f : Fn} {ms : M (List Opd)} (N : Mak X.prog X.w X.K X.mg X.base B x c k ps f) (hr : Room (k + 1) X.A) (tk : Takes X W) (ha : DA B X W (e :: es) ms) (hg : Gl X x := by rfl) (hdb : (x == ("__debug__" : Str)) = false := by decide)
    (he : starEach (e :: es) X.env = (false, eval e X.env) :: starEach es X.env := by rfl) (hpl : (backTo pos (starEach es X.env)).any (·.1) = false := by rfl) : DO B X W (.Call (.Name x p) (e :: es) [] pos) (mMake c ps.length f ms) := by
  obtain ⟨C, fa, fd, hc, M, G, hb, hm⟩ := N.ex
  refine PE.imp (pe_makeS (E := WE W) M G hr hm hb (fun σ => passAt tk σ) ha hg hdb he hpl) fun σ H Q h => ?_
  obtain ⟨F, env, S, h⟩ := h
  refine ⟨F, env, S, (Post.bind S h).mono fun xs e1 F1 H1 s1 m1 l1 k1 vs rvs => ?_⟩
  exact make_read hc m1 rvs k1 fun o e2 F2 H2 s2 m2 l2 k2 p hp hf ho => k2 p (s1.back hp) hf ho
end
end AN

set_option Elab.async false
set_option maxRecDepth 100000
set_option autoImplicit false
set_option linter.unusedVariables false
/-! == and != by an own __eq__ -/
namespace AN
open PySem PySem.Spec PyProof.Rows L2
section
variable {prog : Program} {w : World} {A : Around} {E : Value → Shared → Prop} {s : Shared} {K : PySem.W.Frag} {x C f : Addr} {ox : Obj} {od : Option Obj} {b tb : Value}
theorem bound_slot {M : Model} {self : Value} {name : Str} {id : String} {args : List Value} {Q : Option Value → Shared → Prop} (sp : PySem.W.Looks M s.heap (specialOf self name) (some (.builtin id))) (hb : bindSpecial (.builtin id) self = pure (.builtin id, [self]))
    (h : wpAny M A (call (.builtin id) (self :: args)) (fun v => Q (some v)) E s) : wpAny M A (callSpecialIfBound? self name args) Q E s := by
  have fin : wpAny M A (call (.builtin id) ([self] ++ args) >>= fun v => pure (some v)) Q E s := wpAny_bind (wpAny_mono h (fun _ _ z => wpAny_pure z) fun _ _ z => z)
  simp only [callSpecialIfBound?, bindSpecialIfBound?]
  refine wpAny_holding (wpAny_bind (wpAny_bind (sp.here (wpAny_bind (wpAny_askSetting (wpAny_ite ?_))))))
  split
  · exact wpAny_bind (wpAny_of_eq hb (wpAny_pure fin))
  · exact wpAny_tryCatch (wpAny_bind (wpAny_of_eq hb (wpAny_pure fin)))
theorem ne_entry {Q : Fin → Shared → Prop} (hu : A.units < cLine) (X : K.In s.heap) (I : PySem.W.InstAt s.heap x ox C od) (he : PySem.W.findIn K (.ref C) "__eq__" = some (some (.ref f))) (hf : PySem.W.isFn K (.ref f) = true)
    (h : wpAny (model prog w) A (call (.ref f) [.ref x, b]) (fun v s' => ∃ r, v = .bool r ∧ Q (.done (.ret (.bool (!r)))) s') E s) : wpAny (model prog w) A (Builtin.«object.__ne__» ⟨[.ref x, b], []⟩) Q E s := by
  unfold Builtin.«object.__ne__»
  repeat (first
    | with_reducible refine wpAny_cRoomFor hu ?_
    | (refine wpAny_bind (m := callSpecialIfBound? (.ref x) (Str.ofString "__eq__") [b]) (PySem.W.ifBound_K X I he hf (wpAny_mono h (fun r s' hr => by
          obtain ⟨c, rfl, hq⟩ := hr
          repeat (first | exact hq | exact wpAny_pure hq | exact wpAny_truthy_bool hq | (refine wpAny_bind (m := truthy (.bool _)) (wpAny_truthy_bool ?_)) | wp_step)) fun _ _ e => e)))
    | wp_step)
theorem ne_try {Q : Option Value → Shared → Prop} (hu : A.units + 1 < cLine) (X : K.In s.heap) (I : PySem.W.InstAt s.heap x ox C od) (hn : PySem.W.findIn K (.ref C) "__ne__" = some (some (.builtin "object.__ne__"))) (hm : PySem.W.mroIn K C (.type "object") = some true)
    (he : PySem.W.findIn K (.ref C) "__eq__" = some (some (.ref f))) (hf : PySem.W.isFn K (.ref f) = true) (h : wpAny (model prog w) A.in1 (call (.ref f) [.ref x, b]) (fun v s' => ∃ r, v = .bool r ∧ Q (some (.bool (!r))) s') E s) :
    wpAny (model prog w) A (tryCompare (.ref x) "__ne__" b) Q E s := by
  unfold tryCompare
  have sp : PySem.W.Looks (model prog w) s.heap (specialOf (.ref x) "__ne__") (some (.builtin "object.__ne__")) := I.type.andThen (PySem.W.looks_findIn X hn)
  refine wpAny_bind (bound_slot sp (F.cmp_object.ne.bind _) (wpAny_call (codeAny_call_builtin F.cmp_object.ne.plain F.cmpEntry_ne (PySem.W.check_slot F.cmpKind_ne F.cmpSplit_ne (I.type.andThen (PySem.W.looks_mroIn X hm)) (F.cmpArgs_ne _ _) ?_))))
  refine ne_entry (A := A.in1) hu X I he hf (wpAny_mono h (fun v s' hv => ?_) fun _ _ e => e)
  obtain ⟨r, rfl, hq⟩ := hv
  first | exact ⟨r, rfl, wpAny_pure hq⟩ | exact ⟨r, rfl, wpAny_pure (wpAny_pure hq)⟩ | exact ⟨r, rfl, hq⟩
theorem ne_K {Q : Value → Shared → Prop} (hu : A.units + 1 < cLine) (X : K.In s.heap) (I : PySem.W.InstAt s.heap x ox C od) (hb : PySem.W.Looks (model prog w) s.heap (typeOf b) tb) (nf : PySem.W.notFirst K C tb = true)
    (hn : PySem.W.findIn K (.ref C) "__ne__" = some (some (.builtin "object.__ne__"))) (hm : PySem.W.mroIn K C (.type "object") = some true)
    (he : PySem.W.findIn K (.ref C) "__eq__" = some (some (.ref f))) (hf : PySem.W.isFn K (.ref f) = true) (h : wpAny (model prog w) A.in1 (call (.ref f) [.ref x, b]) (fun v s' => ∃ r, v = .bool r ∧ Q (.bool (!r)) s') E s) :
    wpAny (model prog w) A (richCompare .NotEq (.ref x) b) Q E s := by
  have one : wpAny (model prog w) A (tryCompare (.ref x) "__ne__" b) (fun r s' => ∃ v, r = some v ∧ Q v s') E s :=
    ne_try hu X I hn hm he hf (wpAny_mono h (fun v s' hv => by obtain ⟨r, rfl, hq⟩ := hv; exact ⟨r, rfl, _, rfl, hq⟩) fun _ _ e => e)
  unfold richCompare
  simp only [oneThing_ref]
  refine wpAny_holding (wpAny_bind (wpAny_cRoomFor (Nat.lt_of_succ_lt hu) ?_))
  rw [cmpInfo_NotEq]
  dsimp only
  refine wpAny_bind (I.type.here (wpAny_bind (hb.here ?_)))
  by_cases q : (Value.ref C != tb) = true
  · rw [if_pos q]
    have e : PySem.W.subIn K tb (.ref C) = some false := by
      rcases Bool.or_eq_true_iff.mp nf with e | e
      · rw [beq_iff_eq.mp e] at q
        simp at q
      · exact beq_iff_eq.mp e
    refine wpAny_bind ((PySem.W.looks_subIn X e).here ?_)
    simp only [Bool.false_eq_true, if_false]
    refine wpAny_bind (wpAny_mono one (fun r s' z => ?_) fun _ _ e => e)
    obtain ⟨v, rfl, hq⟩ := z
    exact wpAny_pure hq
  · rw [if_neg q]
    refine wpAny_bind (wpAny_pure ?_)
    simp only [Bool.false_eq_true, if_false]
    refine wpAny_bind (wpAny_mono one (fun r s' z => ?_) fun _ _ e => e)
    obtain ⟨v, rfl, hq⟩ := z
    exact wpAny_pure hq
end
/-- what is needed of a class with its own == -/
structure EqC (P : Program) (w : World) (K : PySem.W.Frag) (mg : Str → Option Value) (base : Heap) (B : Bx) (c : String) (k : Nat) (f : Fn) : Prop where
  ex : ∃ C fa fd ps, B.cls c = some C ∧ PySem.W.findIn K (.ref C) "__eq__" = some (some (.ref fa)) ∧ PySem.W.isFn K (.ref fa) = true ∧ FnOk P w K mg base (L2.CX P w) k fa fd ps (spOf B 2 f) ∧ Binds K fd ps [] ∧
    PySem.W.findIn K (.ref C) "__ne__" = some (some (.builtin "object.__ne__"))
/-- no class of B comes first on the right -/
def Apart (B : Bx) (K : PySem.W.Frag) : Prop := ∀ c c' C C', B.cls c = some C → B.cls c' = some C' → PySem.W.notFirst K C (.ref C') = true
def oEq (neg : Bool) (eq : String → Option Fn) (a b : D) : Option D := match a with
  | .obj c _ => (eq c).bind fun f => match f [.fz a, .fz b] with
    | .ok (.fz (.bl r)) _ => some (.bl (if neg then !r else r))
    | _ => none
  | _ => if neg then dNe a b else dEq a b
section
variable {B : Bx} {X : Cx} {W : WX} {F H : Hp} {env : AN.Env} {σ : L2.St} {Q : VK} {a b : Expr} {ma mb : M Opd} {pos : Pos} {k : Nat}
/-- as Le, but for the marks of what was locked -/
def LeN (F F' : Hp) : Prop := ∀ b u, (∀ o w, u ≠ .frz o w) → F b = some u → F' b = some u
mutual
theorem Rep.monoN {F F' : Hp} (l : LeN F F') : ∀ (d : D) (v : V), Rep B F d v → Rep B F' d v
  | .non, _, h => by simpa [Rep] using h
  | .bl _, _, h => by simpa [Rep] using h
  | .int _, _, h => by simpa [Rep] using h
  | .str _, _, h => by simpa [Rep] using h
  | .lst xs, v, h => let ⟨p, vs, e, a, z, r⟩ := h; ⟨p, vs, e, a.imp (l _ _ fun _ _ y => nomatch y) id, z, RepL.monoN l xs vs r⟩
  | .tup xs, v, h => let ⟨p, vs, e, a, z, r⟩ := h; ⟨p, vs, e, a.imp (l _ _ fun _ _ y => nomatch y) id, z, RepL.monoN l xs vs r⟩
  | .dic kvs, v, h => let ⟨p, vs, e, a, z, r⟩ := h; ⟨p, vs, e, l _ _ (fun _ _ y => nomatch y) a, z, RepK.monoN l kvs vs r⟩
  | .obj c fs, v, h => let ⟨p, C, dx, gs, e, hc, a, r⟩ := h; ⟨p, C, dx, gs, e, hc, l _ _ (fun _ _ y => nomatch y) a, RepF.monoN l fs gs r⟩
theorem RepL.monoN {F F' : Hp} (l : LeN F F') : ∀ (ds : List D) (vs : List V), RepL B F ds vs → RepL B F' ds vs
  | [], _, h => h
  | d :: ds, vs, h => let ⟨v, r, e, h1, h2⟩ := h; ⟨v, r, e, Rep.monoN l d v h1, RepL.monoN l ds r h2⟩
theorem RepK.monoN {F F' : Hp} (l : LeN F F') : ∀ (ds : List (Key × D)) (vs : List (Key × V)), RepK B F ds vs → RepK B F' ds vs
  | [], _, h => h
  | (k, d) :: ds, vs, h => let ⟨v, r, e, h1, h2⟩ := h; ⟨v, r, e, Rep.monoN l d v h1, RepK.monoN l ds r h2⟩
theorem RepF.monoN {F F' : Hp} (l : LeN F F') : ∀ (ds : List (Str × D)) (vs : List (Str × V)), RepF B F ds vs → RepF B F' ds vs
  | [], _, h => h
  | (k, d) :: ds, vs, h => let ⟨v, r, e, h1, h2⟩ := h; ⟨v, r, e, Rep.monoN l d v h1, RepF.monoN l ds r h2⟩
end
theorem Seen.mono {d : D} {v : V} {F' : Hp} (l : LeN F F') (s : Seen B F H d v) : Seen B F' H d v := by
  cases d with
  | lst xs => obtain ⟨p, vs, e, a, z, r⟩ := s; exact ⟨p, vs, e, a, z, RepL.monoN l _ _ r⟩
  | dic xs => obtain ⟨p, vs, e, a, z, r⟩ := s; exact ⟨p, vs, e, a, z, RepK.monoN l _ _ r⟩
  | obj c fs => obtain ⟨p, C, dx, gs, e, hc, a, r⟩ := s; exact ⟨p, C, dx, gs, e, hc, a, RepF.monoN l _ _ r⟩
  | non => exact s
  | bl _ => exact s
  | int _ => exact s
  | str _ => exact s
  | tup _ => exact Rep.monoN l _ _ s
/-- what is seen, as data -/
theorem Seen.fix {d : D} {v : V} (hh : Holds F H) (s : Seen B F H d v) : ∃ F', LeN F F' ∧ Holds F' H ∧ Rep B F' d v := by
  have put : ∀ {p : Addr} {u : HO}, (∀ o w, u ≠ .frz o w) → (H p = some u ∨ (frzable u = true ∧ ∃ o, H p = some (.frz o u))) → ∃ F', LeN F F' ∧ Holds F' H ∧ F' p = some u := fun {p u} nf z => by
    refine ⟨upd F p u, fun b w nw e => ?_, fun b w e => ?_, upd_same⟩
    · by_cases hb : b = p
      · subst hb
        rw [upd_same]
        rcases hh b w e with y | ⟨yf, o, y⟩ <;> rcases z with z | ⟨zf, o', z⟩
        · rw [y] at z; exact z.symm
        · rw [y] at z; exact absurd (Option.some.inj z) (nw _ _)
        · rw [y] at z; exact absurd (Option.some.inj z).symm (nf _ _)
        · rw [y] at z; cases z; rfl
      · rw [upd_ne hb]; exact e
    · by_cases hb : b = p
      · subst hb; rw [upd_same] at e; cases e; exact z
      · rw [upd_ne hb] at e; exact hh b w e
  cases d with
  | lst xs =>
    obtain ⟨p, vs, rfl, a, z, r⟩ := s
    rcases a with (a | ⟨o, a⟩) | a
    · obtain ⟨F', l, h', e⟩ := put (u := .lst vs) (fun _ _ y => nomatch y) (.inl a)
      exact ⟨F', l, h', p, vs, rfl, .inl e, z, RepL.monoN l _ _ r⟩
    · obtain ⟨F', l, h', e⟩ := put (u := .lst vs) (fun _ _ y => nomatch y) (.inr ⟨rfl, o, a⟩)
      exact ⟨F', l, h', p, vs, rfl, .inl e, z, RepL.monoN l _ _ r⟩
    · exact ⟨F, fun _ _ _ e => e, hh, p, vs, rfl, .inr (.inr a), z, r⟩
  | dic xs =>
    obtain ⟨p, vs, rfl, a, z, r⟩ := s
    rcases a with a | ⟨o, a⟩
    · obtain ⟨F', l, h', e⟩ := put (u := .dK vs) (fun _ _ y => nomatch y) (.inl a)
      exact ⟨F', l, h', p, vs, rfl, e, z, RepK.monoN l _ _ r⟩
    · obtain ⟨F', l, h', e⟩ := put (u := .dK vs) (fun _ _ y => nomatch y) (.inr ⟨rfl, o, a⟩)
      exact ⟨F', l, h', p, vs, rfl, e, z, RepK.monoN l _ _ r⟩
  | obj c fs =>
    obtain ⟨p, C, dx, gs, rfl, hc, a, r⟩ := s
    obtain ⟨F', l, h', e⟩ := put (u := .ins C dx gs) (fun _ _ y => nomatch y) (.inl a)
    exact ⟨F', l, h', p, C, dx, gs, rfl, hc, e, RepF.monoN l _ _ r⟩
  | non => exact ⟨F, fun _ _ _ e => e, hh, s⟩
  | bl _ => exact ⟨F, fun _ _ _ e => e, hh, s⟩
  | int _ => exact ⟨F, fun _ _ _ e => e, hh, s⟩
  | str _ => exact ⟨F, fun _ _ _ e => e, hh, s⟩
  | tup _ => exact ⟨F, fun _ _ _ e => e, hh, s⟩
/-- the type that is seen -/
theorem Seen.tyx {K : PySem.W.Frag} {d : D} {v : V} (hK : K = B.K) (hh : Holds F H) (hC : Ocs B K) (hA : Apart B K) {c : String} {C : Addr} (hc : B.cls c = some C) (s : Seen B F H d v) : ∃ t, TyX K H v t ∧ PySem.W.notFirst K C t = true := by
  cases h : AN.isObj d with
  | true =>
    cases d with
    | obj c' fs =>
      obtain ⟨p, C', dx, gs, rfl, hc', hp, r⟩ := s
      have oc := hC c' C' hc'
      exact ⟨_, .base (.ins hp oc.cl oc.ha oc.hn oc.htk oc.hm), hA c c' C C' hc hc'⟩
    | _ => cases h
  | false =>
    refine ⟨_, s.ty hK hh h, ?_⟩
    unfold PySem.W.notFirst
    have key : PySem.W.subIn K (.type (tyN d)) (.ref C) = some false := by
      cases d with
      | obj _ _ => cases h
      | _ => rfl
    rw [key]
    simp
def rOwn (P : Program) (w : World) (K : PySem.W.Frag) (mg : Str → Option Value) (base : Heap) (B : Bx) (k : Nat) (neg : Bool) : R2 := fun x y H Q => ∃ c C f a dx fs t, B.cls c = some C ∧ EqC P w K mg base B c k f ∧ x = .ref a ∧ H a = some (.ins C dx fs) ∧ TyX K H y t ∧ PySem.W.notFirst K C t = true ∧
  PySem.W.mroIn K C (.type "object") = some true ∧ spOf B 2 f [x, y] H (fun v H' => ∃ r, v = .bl r ∧ Q (.bl (if neg then !r else r)) H') E0
theorem own_call {pins : List (Addr × Obj)} {s : Shared} {x y : V} {u v : Value} {A : Around} {f : Fn} {fa : Addr} {fd : FuncData} {ps : List Str} {neg : Bool} (G : FnOk X.prog X.w X.K X.mg X.base (L2.CX X.prog X.w) k fa fd ps (spOf B 2 f)) (hb : Binds X.K fd ps []) (hr : Room k A) (hfr : A.frames = X.A.frames) (I : Inv X pins σ H s) (rx : RelV x u) (ry : RelV y v)
    (h : spOf B 2 f [x, y] H (fun v H' => ∃ r, v = .bl r ∧ Q (.bl (if neg then !r else r)) H') E0) : wpAny (model X.prog X.w) A (call (.ref fa) [u, v]) (fun z s' => ∃ r : Bool, z = .bool r ∧ EP X pins σ Q (.bool (if neg then !r else r)) s') X.xe s := by
  have e := I.env0
  have e0 : Env0 X.prog X.w X.K X.mg X.base A X.stack s H := ⟨by rw [hfr]; exact e.frames, e.mod, e.bs, e.bsz, e.funs, e.frf, e.hok, e.bare⟩
  have vals : Vals [x, y] [u, v] := .cons rx (.cons ry .nil)
  have b := hb s [u, v] I.kIn (by rw [List.append_nil, ← vals.length]; exact G.len _ _ _ _ h)
  rw [List.append_nil] at b
  refine wpAny_call (codeAny_mono (G.run A X.stack s H ⟨[u, v], []⟩ _ _ _ E0 hr e0 b vals h) fun z s' y => ?_)
  cases z with
  | error u => exact passL pins σ H s u s' I y
  | ok fl =>
    cases fl with
    | ret w =>
      obtain ⟨v', H', J, rv, ⟨r, rfl, q⟩⟩ := I.after y
      cases (show w = Value.bool r from rv)
      exact ⟨r, rfl, .bl _, H', J, rfl, q⟩
    | next => exact y.elim
    | brk => exact y.elim
    | cont => exact y.elim
theorem op_ownEq (hr : Room k X.A) : OpR X (compareOp .Eq) (rOwn X.prog X.w X.K X.mg X.base B k false) := by
  intro pins s σ H x y u v Q I rx ry h
  obtain ⟨c, C, f, a, dx, fs, t, hc, ⟨C', fa, fd, ps, hc', he, hf, G, hb, hn⟩, rfl, ha, ty, nf, hm, sp⟩ := h
  rw [hc] at hc'; cases hc'
  cases (show u = Value.ref a from rx)
  obtain ⟨mA, J, _⟩ := ins_get I.hok ha
  obtain ⟨od, J, _⟩ := J.look
  obtain ⟨P, kx, hp, _⟩ := kit_of I ry ty
  obtain ⟨m, fr⟩ := I.fr
  refine PySem.W.cmp_K (op := .Eq) (tb := t) (by have := hr.un; omega) fr I.ok.mod.kin J (kx.ty _ _ I.kIn hp) nf he hf ?_
  refine wpAny_mono (own_call (neg := false) G hb hr rfl I rx ry sp) (fun z s' q => ?_) fun _ _ z => z
  obtain ⟨r, rfl, q⟩ := q
  exact q
theorem op_ownNe (hr : Room (k + 1) X.A) : OpR X (compareOp .NotEq) (rOwn X.prog X.w X.K X.mg X.base B k true) := by
  intro pins s σ H x y u v Q I rx ry h
  obtain ⟨c, C, f, a, dx, fs, t, hc, ⟨C', fa, fd, ps, hc', he, hf, G, hb, hn⟩, rfl, ha, ty, nf, hm, sp⟩ := h
  rw [hc] at hc'; cases hc'
  cases (show u = Value.ref a from rx)
  obtain ⟨mA, J, _⟩ := ins_get I.hok ha
  obtain ⟨od, J, _⟩ := J.look
  obtain ⟨P, kx, hp, _⟩ := kit_of I ry ty
  show wpAny _ _ (richCompare .NotEq (.ref a) v) _ _ _
  exact ne_K (tb := t) (by have := hr.un; omega) I.kIn J (kx.ty _ _ I.kIn hp) nf hn hm he hf (own_call (neg := true) G hb hr.in1 rfl I rx ry sp)
theorem p_own {neg : Bool} {eq : String → Option Fn} {r0 : R2} (hK : X.K = B.K) (hC : Ocs B X.K) (hA : Apart B X.K) (he : ∀ c f, eq c = some f → EqC X.prog X.w X.K X.mg X.base B c k f) (h0 : Prim2 B (if neg then dNe else dEq) r0) :
    Prim2 B (oEq neg eq) (fun x y H Q => r0 x y H Q ∨ rOwn X.prog X.w X.K X.mg X.base B k neg x y H Q) := fun F H a b z x y Q hh sa sb e q => by
  have plain : (if neg then dNe else dEq) a b = some z → r0 x y H Q ∨ rOwn X.prog X.w X.K X.mg X.base B k neg x y H Q := fun e => .inl (h0 F H a b z x y Q hh sa sb e q)
  cases a with
  | obj c fs =>
    right
    unfold oEq at e
    dsimp only at e
    obtain ⟨f, ef, e⟩ := Option.bind_eq_some_iff.mp e
    have E := he c f ef
    obtain ⟨C, _, _, _, hc, _⟩ := id E.ex
    obtain ⟨t, ty, nf⟩ := sb.tyx hK hh hC hA hc
    obtain ⟨F1, l1, h1, r1⟩ := sa.fix hh
    obtain ⟨F2, l2, h2, r2⟩ := (sb.mono l1).fix h1
    obtain ⟨p, C', dx, gs, rfl, hc', hp, rf⟩ := sa
    rw [hc] at hc'; cases hc'
    refine ⟨c, C, f, p, dx, gs, t, hc, E, rfl, hp, ty, nf, (hC c C hc).hm, rfl, F2, [.fz (.obj c fs), .fz b], sim_fz (ds := [.obj c fs, b]) h2 ⟨_, _, rfl, Rep.monoN l2 _ _ r1, _, _, rfl, r2, rfl⟩, fz_pin (ds := [.obj c fs, b]), ?_⟩
    cases qf : f [.fz (.obj c fs), .fz b] with
    | bad => rw [qf] at e; cases e
    | exc _ _ _ => rw [qf] at e; cases e
    | ok rt as =>
      rw [qf] at e
      cases rt with
      | ow _ => cases e
      | fz d =>
        cases d with
        | bl r =>
          cases e
          intro v F3 H3 s3 m3 rv
          cases (show v = .bl r from rv)
          have s0 : Step0 F2 H F3 H3 := s3.imp fun _ z => fz_own (ds := [.obj c fs, b]) z
          obtain ⟨sd, hd⟩ := Step0.drop (F := F) (H := H) (F1 := F) (H1 := H3) ⟨Le.refl F, s0.keep, fun b u e => .inl e, s0.stay⟩ hh
          exact ⟨r, rfl, q _ F H3 sd hd rfl⟩
        | _ => cases e
  | _ => exact plain (by cases neg <;> exact e)
theorem de_ownEq {eq : String → Option Fn} (hr : Room k X.A) (hK : X.K = B.K) (hC : Ocs B X.K) (hA : Apart B X.K) (he : ∀ c f, eq c = some f → EqC X.prog X.w X.K X.mg X.base B c k f) (ha : DE B X W a ma) (hb : DE B X W b mb) (hm : behindInMarks .Eq b = false := by rfl) :
    DE B X W (.Compare a [.Eq] [b] pos) (mD (mB2 (oEq false eq) ma mb)) := de_cmp (OpR.or (op_eqD (hu64 hr)) (op_ownEq hr)) (p_own hK hC hA he (p_eq hK)) ha hb hm
theorem dt_ownEq {eq : String → Option Fn} (hr : Room k X.A) (hK : X.K = B.K) (hC : Ocs B X.K) (hA : Apart B X.K) (he : ∀ c f, eq c = some f → EqC X.prog X.w X.K X.mg X.base B c k f) (ha : DE B X W a ma) (hb : DE B X W b mb) (hm : behindInMarks .Eq b = false := by rfl) :
    DT B X W (.Compare a [.Eq] [b] pos) (mB2 (g2b (oEq false eq)) ma mb) := dt_cmp (OpR.or (op_eqD (hu64 hr)) (op_ownEq hr)) (p_own hK hC hA he (p_eq hK)) ha hb hm
theorem de_ownNe {eq : String → Option Fn} (hr : Room (k + 1) X.A) (hK : X.K = B.K) (hC : Ocs B X.K) (hA : Apart B X.K) (he : ∀ c f, eq c = some f → EqC X.prog X.w X.K X.mg X.base B c k f) (ha : DE B X W a ma) (hb : DE B X W b mb) (hm : behindInMarks .NotEq b = false := by rfl) :
    DE B X W (.Compare a [.NotEq] [b] pos) (mD (mB2 (oEq true eq) ma mb)) := de_cmp (OpR.or (op_neD (hu64 hr)) (op_ownNe hr)) (p_own hK hC hA he (p_ne hK)) ha hb hm
theorem dt_ownNe {eq : String → Option Fn} (hr : Room (k + 1) X.A) (hK : X.K = B.K) (hC : Ocs B X.K) (hA : Apart B X.K) (he : ∀ c f, eq c = some f → EqC X.prog X.w X.K X.mg X.base B c k f) (ha : DE B X W a ma) (hb : DE B X W b mb) (hm : behindInMarks .NotEq b = false := by rfl) :
    DT B X W (.Compare a [.NotEq] [b] pos) (mB2 (g2b (oEq true eq)) ma mb) := dt_cmp (OpR.or (op_neD (hu64 hr)) (op_ownNe hr)) (p_own hK hC hA he (p_ne hK)) ha hb hm
end
end AN

set_option Elab.async false
set_option maxRecDepth 100000
set_option autoImplicit false
set_option linter.unusedVariables false
/-! dicts of the module, their keys texts: d.get(k, x), d[k], k in d -/
namespace AN
open PySem PySem.Spec PyProof.Rows L2
inductive TabOk (B : Bx) : List DictEntry → List (Str × D) → Prop
  | nil : TabOk B [] []
  | cons {e : DictEntry} {r : List DictEntry} {k : Str} {d : D} {t : List (Str × D)} (hk : ∃ tok, e.key = .str k tok) (hv : ∃ v, RelV v e.val ∧ ∀ F : Hp, Rep B F d v) (h : TabOk B r t) : TabOk B (e :: r) ((k, d) :: t)
theorem TabOk.find {B : Bx} {l : List DictEntry} {tb : List (Str × D)} (h : TabOk B l tb) (x : Str) : match tb.lookup x with
    | some d => ∃ u v, (l.find? fun e => Value.isStrOf x e.key).map (·.val) = some u ∧ RelV v u ∧ ∀ F : Hp, Rep B F d v
    | none => (l.find? fun e => Value.isStrOf x e.key).map (·.val) = none := by
  induction h with
  | nil => rfl
  | @cons e r k d t hk hv h ih =>
    obtain ⟨tok, ek⟩ := hk
    obtain ⟨v, rv, rep⟩ := hv
    have e1 : Value.isStrOf x e.key = (x == k) := by
      rw [ek]
      show (k == x) = (x == k)
      cases q : k == x with
      | true => rw [beq_iff_eq.mp q]; simp
      | false =>
        cases q2 : x == k with
        | false => rfl
        | true => rw [beq_iff_eq.mp q2] at q; simp at q
    rw [List.lookup_cons, List.find?_cons, e1]
    cases q : x == k with
    | true => exact ⟨e.val, v, rfl, rv, rep⟩
    | false => exact ih
/-- the dict at a, with that table -/
structure KTab (K : PySem.W.Frag) (w : World) (B : Bx) (a : Addr) (tb : List (Str × D)) : Prop where
  ex : ∃ es n, K.lookup a = some ⟨.type "dict", none, .dict es n, #[]⟩ ∧ PySem.W.KeysLit w.params es.toList ∧ (a == sysModules) = false ∧ TabOk B es.toList tb
theorem KTab.fits {K : PySem.W.Frag} {w : World} {B : Bx} {a : Addr} {tb : List (Str × D)} (T : KTab K w B a tb) (x : Str) : ∃ es n, K.lookup a = some ⟨.type "dict", none, .dict es n, #[]⟩ ∧ PySem.W.KeysLit w.params es.toList ∧ (a == sysModules) = false ∧ match tb.lookup x with
    | some d => ∃ u v, findBy Value.isStrOf es x = some u ∧ RelV v u ∧ ∀ F : Hp, Rep B F d v
    | none => findBy Value.isStrOf es x = none := by
  obtain ⟨es, n, h1, h2, h3, h4⟩ := T.ex
  refine ⟨es, n, h1, h2, h3, ?_⟩
  have := h4.find x
  obtain ⟨l⟩ := es
  simpa only [findBy, List.find?_toArray] using this
def dGet (tb : List (Str × D)) : D → D → Option D
  | .str z, d => match tb.lookup z with
    | some r => some r
    | none => if scalar d = true then some d else none
  | _, _ => none
section
variable {B : Bx} {X : Cx} {W : WX} {F H : Hp} {env : AN.Env} {σ : L2.St} {Q : VK} {e f : Expr} {me mf : M Opd} {pos p apos : Pos} {x : Str} {a : Addr} {tb : List (Str × D)}
def tKGet (tb : List (Str × D)) (B : Bx) (te tf : TE) : TE := fun σ H Q => te σ H fun y H1 => tf σ H1 fun z H2 => ∃ s, y = .str s ∧ (∀ d v, tb.lookup s = some d → (∀ F : Hp, Rep B F d v) → Q v H2) ∧ (tb.lookup s = none → Q z H2)
theorem pe_kget {te tf : TE} (T : KTab X.K X.w B a tb) (hm : X.mg x = some (.ref a)) (he : PE X e te) (hf : PE X f tf) (hu : X.A.units + 1 < cLine) (m : M2 X (.Name x p) "get" apos e f pos) (hg : Gl X x := by rfl) (hdb : (x == ("__debug__" : Str)) = false := by decide) :
    PE X (.Call (.Attribute (.Name x p) "get" apos) [e, f] [] pos) (tKGet tb B te tf) := by
  refine ⟨fun pins s σ H Q I h => ?_⟩
  refine wpAny_Call_method m.base m.few m.line PySem.F.plainAttrs_dict PySem.F.slot_dict_get PySem.F.type_dict_get (ld_glob I hg hm ?_ hdb)
  obtain ⟨es0, n0, l0, _, _, _⟩ := T.ex
  refine ⟨⟨_, I.kIn _ _ l0, rfl⟩, fun b q => by cases q; exact ⟨_, I.kIn _ _ l0, rfl⟩, ?_⟩
  rw [m.trees]
  refine Calls.callWith_builtin rfl (Calls.evalArgs_plain (Calls.spliced_cons (thn (he.run pins s σ H _ I h) fun iv s2 ⟨y, H1, I1, ry, q1⟩ => Calls.spliced_cons (thn (hf.run pins s2 σ H1 _ I1 q1) fun fv s3 ⟨z, H2, I2, rz, st, ey, q2, q3⟩ => Calls.spliced_nil ?_))))
  subst ey
  obtain ⟨tok, rfl⟩ := ry
  obtain ⟨es, n, hl, hk, hs, ft⟩ := T.fits st
  have hmap := PySem.W.mapOf_K (prog := X.prog) (w := X.w) I2.kIn hl hk
  refine call_meetsIn PySem.F.slot_dict_get hmap.typeIs PySem.F.entry_dict_get (PySem.F.args_dict_get_3 _ _ _) (meets_dict_get_default (strKind X.prog X.w) a (strKind_is X.prog X.w st tok) hs fv) ⟨_, hmap, ?_⟩
  cases q : tb.lookup st with
  | none =>
    rw [q] at ft
    rw [ft]
    exact ⟨z, H2, I2.tok _, rz, q3 q⟩
  | some d =>
    rw [q] at ft
    obtain ⟨u, v, e1, rv, rep⟩ := ft
    rw [e1]
    exact ⟨v, H2, I2.tok _, rv, q2 d v q rep⟩
theorem de_kget (T : ∃ a, X.mg x = some (.ref a) ∧ KTab X.K X.w B a tb) (he : DE B X W e me) (hf : DE B X W f mf) (hu : X.A.units + 70 < cLine) (m : M2 X (.Name x p) "get" apos e f pos := by exact ⟨rfl, rfl, rfl, rfl⟩) (hg : Gl X x := by rfl) (hdb : (x == ("__debug__" : Str)) = false := by decide) :
    DE B X W (.Call (.Attribute (.Name x p) "get" apos) [e, f] [] pos) (mD (mB2 (dGet tb) me mf)) := by
  obtain ⟨a, hm, T⟩ := T
  refine PE.imp (pe_kget T hm he hf (by omega) m hg hdb) fun σ H Q h => ?_
  refine op2 (g := dGet tb) (r := fun y z H Q => ∃ s, y = .str s ∧ (∀ d v, tb.lookup s = some d → (∀ F : Hp, Rep B F d v) → Q v H) ∧ (tb.lookup s = none → Q z H)) (fun F H a b z x y Q hh sa sb e q => ?_) h
  cases a with
  | str s =>
    obtain ⟨rfl, _⟩ := sa
    refine ⟨s, rfl, fun d v l r => ?_, fun l => ?_⟩
    · dsimp only [dGet] at e
      rw [l] at e
      cases e
      exact q v F H (Step.refl _ _ _) hh (r F)
    · dsimp only [dGet] at e
      rw [l] at e
      dsimp only at e
      by_cases hs : scalar b = true
      · rw [if_pos hs] at e
        cases e
        refine q y F H (Step.refl _ _ _) hh ?_
        cases b with
        | non => exact sb
        | bl _ => exact sb
        | int _ => exact sb
        | str _ => exact sb
        | _ => cases hs
      · rw [if_neg hs] at e; cases e
  | _ => cases e
end
end AN

set_option Elab.async false
set_option maxRecDepth 100000
set_option autoImplicit false
set_option linter.unusedVariables false
/-! append, a list's sum as a new list, enumerate, a made object let go -/
namespace AN
open PySem L2
section
variable {B : Bx} {X : Cx} {W : WX} {F H : Hp} {env : Env} {σ : St} {Q : VK} {a b c e : Expr} {ma mb mc : M Opd} {pos p : Pos}
def appAt (i : Nat) (d : D) : M Fl := fun env => match env[i]? with
  | some (.ow pn (.lst xs)) => if xs.length < sizeLine then .ok .nx (env.set i (.ow pn (.lst (xs ++ [d])))) else .bad
  | _ => .bad
def mApp (i : Nat) (m : M Opd) : M Fl := M.bind (chkL i) fun _ => M.bind m fun x => M.bind (frz1 x) fun d => appAt i d
theorem ds_append (i : Nat) {x : Str} {p' p2 q : Pos} (he : DE B X W e ma) (hN : X.N[i]? = some x := by rfl) (hv : Vis X.env.scope x := by first | exact Or.inl rfl | exact Or.inr (Or.inl rfl) | exact Or.inr (Or.inr rfl)) (hd : (x == ("__debug__" : Str)) = false := by decide)
    (hcd : (x == ("__classdict__" : Str)) = false := by decide) (hbase : attributeBase (.Name x p') "append" X.env (eval (.Name x p') X.env) = eval (.Name x p') X.env := by rfl)
    (hfew : ((backTo q (starEach [e] X.env)).all (fun x => !x.1) && (backToKw q (keywordEach [] X.env)).all (fun x => x.1.isSome) && decide (([e] : List Expr).length + ([] : List Keyword).length + (if ([] : List Keyword).isEmpty then 0 else 1) < 30)) = true := by rfl)
    (hline : (p2.endLine == q.line) = true := by rfl) (hs : starEach [e] X.env = (false, eval e X.env) :: starEach [] X.env := by rfl) (hplain : (backTo q (starEach [] X.env)).any (·.1) = false := by rfl)
    (hsw : swapsWith (.Call (.Attribute (.Name x p') "append" p2) [e] [] q) none pos.line X.env = pure false := by rfl) : DS B X W (.Expr (.Call (.Attribute (.Name x p') "append" p2) [e] [] q) pos) (mApp i ma) :=
  PS.imp (ps_expr (pe_bm PySem.F.plainAttrs_list PySem.F.slot_list_append PySem.F.type_list_append mt_append (pe_var hN hv hd hcd) (pa_cons he pa_nil hs) hbase hfew hline hs hplain) hsw) fun D0 σ H h => by
    obtain ⟨F, env, S, h⟩ := h
    obtain ⟨pn, xs, q0, h1⟩ := PostS.chkL S h
    obtain ⟨l, e1, e2, z0, vs, e3, e4⟩ := S.ow i pn _ q0
    refine ⟨.ref l, e1, .inl ⟨rfl, vs, .inl (.inl e3)⟩, F, env, S, h1.bind.mono fun y ev1 F1 H1 s1 m1 o1 k1 v rv => ?_⟩
    obtain ⟨d, ev2, F2, s2, m2, o2, r2, k2⟩ := m1.frz1 rv k1.bind
    unfold appAt at k2
    cases q : ev2[i]? with
    | none => rw [q] at k2; exact k2.elim
    | some s =>
      rw [q] at k2
      cases s with
      | no => exact k2.elim
      | fz _ => exact k2.elim
      | ow pn2 o =>
        cases o with
        | dic _ => exact k2.elim
        | obj _ _ => exact k2.elim
        | lst ys =>
          dsimp only at k2
          by_cases g : ys.length < sizeLine
          · rw [if_pos g] at k2
            obtain ⟨l2, y1, y2, y3, us, y4, y5⟩ := m2.ow i pn2 _ q
            rw [e1] at y1
            cases y1
            refine ⟨l, us, v, rfl, rfl, y4, by rw [y5.length]; exact g, ?_⟩
            exact k2 _ _ _ (m2.setOw q e1 ⟨by rw [List.length_append, List.length_singleton]; exact g, _, upd_same, y5.snoc r2⟩)
          · rw [if_neg g] at k2; exact k2.elim
/-- xs + ys, as a new list -/
def oAddL : D → D → Option O
  | .lst xs, .lst ys => if xs.length + ys.length ≤ sizeLine then some (.lst (xs ++ ys)) else none
  | _, _ => none
theorem p_addL (hK : X.K = B.K) : PrimO2 B oAddL (rCatL X.K) := fun F H a b o x y Q hh sa sb e q => by
  cases a with
  | lst xs =>
    cases b with
    | lst ys =>
      obtain ⟨p, vs, rfl, a1, z1, r1⟩ := sa
      obtain ⟨p2, vs2, rfl, a2, z2, r2⟩ := sb
      dsimp only [oAddL] at e
      by_cases hl : xs.length + ys.length ≤ sizeLine
      · rw [if_pos hl] at e; cases e
        refine ⟨p, p2, vs, vs2, rfl, rfl, by rw [hK]; exact a1, by rw [hK]; exact a2, by rw [r1.length, r2.length]; exact hl, fun p3 hp => ?_⟩
        obtain ⟨s3, h3⟩ := step0_mk (u := .lst (vs ++ vs2)) hh hp
        exact q p3 _ s3 h3 hp ⟨by rw [List.length_append]; exact hl, _, upd_same, r1.append r2⟩
      · rw [if_neg hl] at e; cases e
    | _ => cases e
  | _ => cases e
theorem do_addL (hK : X.K = B.K) (ha : DE B X W a ma) (hb : DE B X W b mb) : DO B X W (.BinOp a .Add b pos) (mB2 oAddL ma mb) := do_bin op_catL (p_addL hK) ha hb
/-- an expression statement whose value is let go -/
theorem ds_drop0 {m : M O} (he : DO B X W e m) (hs : swapsWith e none pos.line X.env = pure false := by rfl) : DS B X W (.Expr e pos) (mDrop (mFz m)) := ds_expr (de_o he) hs
/-! ### enumerate -/
def pairs : Nat → List D → List D
  | _, [] => []
  | i, d :: ds => .tup [.int (i : Nat), d] :: pairs (i + 1) ds
theorem pairs_get : ∀ (ds : List D) (j i : Nat), (pairs j ds)[i]? = ds[i]?.map fun d => .tup [.int ((j + i : Nat) : Int), d]
  | [], j, i => by simp [pairs]
  | d :: ds, j, 0 => by simp [pairs]
  | d :: ds, j, i + 1 => by
    rw [pairs, List.getElem?_cons_succ, List.getElem?_cons_succ, pairs_get ds (j + 1) i]
    have : j + 1 + i = j + (i + 1) := by omega
    rw [this]
theorem pairs_len : ∀ (ds : List D) (j : Nat), (pairs j ds).length = ds.length
  | [], _ => rfl
  | d :: ds, j => by rw [pairs, List.length_cons, pairs_len ds (j + 1), List.length_cons]
def enumOf : D → Option (List D)
  | .lst xs => some (pairs 0 xs)
  | _ => none
def mEnum (m : M Opd) : M (List D) := M.bind m fun x => M.bind (frz1 x) fun d => opt (enumOf d)
theorem iter_enum {a : Addr} {vs : List V} {ds : List D} (h : LAt B F a vs) (r : RepL B F ds vs) : Iter B F (Ite B.K a) (pairs 0 ds) := fun i F1 H1 l hh => by
  have hs : SqL B.K H1 a vs := (h.mono l).sq hh
  refine ⟨fun d e => ?_, fun e => ⟨vs, hs, by rw [r.length, e, pairs_len]; exact Nat.le_refl _⟩⟩
  rw [pairs_get] at e
  cases q : ds[i]? with
  | none => rw [q] at e; cases e
  | some d0 =>
    rw [q] at e
    have e' : d = .tup [.int (i : Nat), d0] := by
      have := Option.some.inj e
      rw [← this, Nat.zero_add]
    subst e'
    obtain ⟨v, hv, rv⟩ := r.get q
    refine ⟨⟨vs, v, hs, hv⟩, fun x H2 y => ?_⟩
    obtain ⟨T, x0, rfl, hT, rfl, y⟩ := y
    have := y vs hs
    rw [hv] at this; cases this
    obtain ⟨s3, h3⟩ := step0_new (u := .tup [.int (i : Nat), v]) hh hT
    exact ⟨_, s3, h3, T, _, rfl, .inl upd_same, (by show 2 ≤ sizeLine; decide), _, _, rfl, rfl, _, _, rfl, Rep.mono (l.trans s3.le) _ _ rv, rfl⟩
theorem di_enum {elts : List Expr} {kk : Nat} {tpos : Pos} (hK : X.K = B.K) (ha : DE B X W e ma) (hm : X.mg "enumerate" = none) (hg : Gl X "enumerate" := by rfl) (hs : starEach [e] X.env = [(false, eval e X.env)] := by rfl) :
    DI B X W (.Tuple elts kk tpos) (.Call (.Name "enumerate" p) [e] [] pos) (mEnum ma) := PI.imp (pi_enum hg hm (pa_cons ha pa_nil hs) hs) fun σ H R h => by
  obtain ⟨F, env, S, h⟩ := h
  refine ⟨F, env, S, (Post.bind S h).mono fun x e1 F1 H1 s1 m1 o1 k1 v rv => ?_⟩
  obtain ⟨d, e2, F2, s2, m2, o2, r2, k2⟩ := m1.frz1 rv (Post.bind m1 k1)
  obtain ⟨ds, e3, k3⟩ := Post.opt m2 k2
  cases d with
  | lst xs =>
    cases e3
    obtain ⟨p, vs, rfl, a, z, r⟩ := r2
    refine ⟨p, vs, rfl, by rw [hK]; exact a.sq m2.hold, ?_⟩
    rw [hK]
    exact k3 _ (iter_enum a r)
  | _ => cases e3
end
end AN

set_option Elab.async false
set_option maxRecDepth 100000
set_option autoImplicit false
set_option linter.unusedVariables false
/-! C(k = v, ..): keywords alone -/
namespace AN
open PySem PySem.Spec PyProof.Rows L2
/-- in the parameters' order -/
def pk {α : Type} (π : List Nat) (l : List α) : List α := π.filterMap fun i => l[i]?
theorem pk_cons' {α : Type} (i : Nat) (π : List Nat) (l : List α) : pk (i :: π) l = (match l[i]? with
  | some a => a :: pk π l
  | none => pk π l) := by
  unfold pk
  rw [List.filterMap_cons]
  cases l[i]? <;> rfl
theorem pk_paired {α β : Type} {R : α → β → Prop} {l : List α} {m : List β} (hl : l.length = m.length) (h : ∀ (i : Nat) (a : α) (b : β), l[i]? = some a → m[i]? = some b → R a b) : ∀ π : List Nat, Paired R (pk π l) (pk π m)
  | [] => .nil
  | i :: π => by
    rw [pk_cons', pk_cons']
    cases q : l[i]? with
    | none =>
      have : m[i]? = none := by rw [List.getElem?_eq_none_iff] at q ⊢; omega
      rw [this]
      exact pk_paired hl h π
    | some a =>
      cases q2 : m[i]? with
      | none => rw [List.getElem?_eq_none_iff] at q2; have := (List.getElem?_eq_some_iff.mp q).1; omega
      | some b => exact .cons (h i a b q q2) (pk_paired hl h π)
theorem paired_get {α β : Type} {R : α → β → Prop} {l : List α} {m : List β} (h : Paired R l m) : ∀ (i : Nat) (a : α) (b : β), l[i]? = some a → m[i]? = some b → R a b := by
  induction h with
  | nil => intro i a b e; simp at e
  | cons r t ih =>
    intro i a b e1 e2
    cases i with
    | zero => simp at e1 e2; subst e1 e2; exact r
    | succ i => exact ih i a b (by simpa using e1) (by simpa using e2)
theorem opds_paired {B : Bx} {F : Hp} {σ : L2.St} {vs : List V} {xs : List Opd} (h : OpdsRel B F σ vs xs) : Paired (fun v x => OpdRel B F σ v x) vs xs := by
  induction h with
  | nil => exact .nil
  | cons h _ ih => exact .cons h ih
theorem paired_opds {B : Bx} {F : Hp} {σ : L2.St} {vs : List V} {xs : List Opd} (h : Paired (fun v x => OpdRel B F σ v x) vs xs) : OpdsRel B F σ vs xs := by
  induction h with
  | nil => exact .nil
  | cons h _ ih => exact .cons h ih
theorem OpdsRel.pk {B : Bx} {F : Hp} {σ : L2.St} {vs : List V} {xs : List Opd} (h : OpdsRel B F σ vs xs) (π : List Nat) : OpdsRel B F σ (AN.pk π vs) (AN.pk π xs) :=
  paired_opds (pk_paired h.len (paired_get (opds_paired h)) π)
def mMakeK (c : String) (n : Nat) (π : List Nat) (f : Fn) (ms : M (List Opd)) : M O := M.bind ms fun xs => makeP c n f (pk π xs)
/-- how the keywords ks bind -/
def KBp (K : PySem.W.Frag) (fd : FuncData) (ps ks : List Str) (π : List Nat) : Prop := ∀ (s : Shared) (u : Value) (ws : List Value), K.In s.heap → ws.length = ks.length → BindsTo s fd ⟨[u], ks.zip ws⟩ (ps.zip (u :: pk π ws))
section
variable {B : Bx} {X : Cx} {W : WX} {F H : Hp} {env : AN.Env} {σ : L2.St} {Q : VK} {k : Nat} {f C : Addr} {fd : FuncData} {ps ks : List Str} {sp : Sp} {E : L2.St → XK} {x : Str} {p pos : Pos} {kws : List Keyword} {t : TA} {π : List Nat}
def tMakeKS (C : Addr) (m : Nat) (π : List Nat) (sp : Sp) (E : L2.St → XK) (t : TA) : TE := fun σ H Q => t σ H fun zs H1 => zs.length = m ∧ ∀ x dx, H1 x = none → H1 dx = none → dx ≠ x → sp (.ref x :: pk π zs) (upd (upd H1 dx (.own x)) x (.ins C dx [])) (fun v H2 => v = .non ∧ Q (.ref x) H2) (E σ)
theorem pe_makeKS (M : Mk X.K C f) (F : FnOk X.prog X.w X.K X.mg X.base (L2.CX X.prog X.w) k f fd ps sp) (hr : Room (k + 1) X.A) (hm : X.mg x = some (.ref C)) (hb : KBp X.K fd ps ks π) (hx : ∀ σ, PassesAt (L2.CX X.prog X.w) X σ (E σ)) (hkw : PK X kws t) (hg : Gl X x := by rfl)
    (hall : (backToKw pos (keywordEach kws X.env)).all (·.1.isSome) = true := by rfl) (hks : (backToKw pos (keywordEach kws X.env)).filterMap (·.1) = ks := by rfl) (hdb : (x == ("__debug__" : Str)) = false := by decide)
    (hpl : ((backTo pos (starEach [] X.env)).any (·.1) || (backToKw pos (keywordEach kws X.env)).any (·.1.isNone)) = false := by rfl) :
    PE X (.Call (.Name x p) [] kws pos) (tMakeKS C ks.length π sp E t) := by
  refine ⟨fun pins s0 σ H0 Q I0 h => wpAny_Call_Name_kw (ld_glob I0 hg hm ?_ hdb)⟩
  refine PySem.W.callWith_KW0 (h₀ := X.base) I0.ok.mod.kin M.kp hall ?_ hpl
  refine thn (hkw.run pos pins s0 σ H0 _ I0 h) fun ws s ⟨zs, H, I, rz, l2, q2⟩ => ⟨I.kIn, ?_⟩
  rw [hks]
  have q := q2 (s.heap.objs.size + 1) s.heap.objs.size (I.hok.fresh (Nat.le_succ _)) (I.hok.fresh (Nat.le_refl _)) (Nat.ne_of_lt (Nat.lt_succ_self _))
  have J := Inv.made (C := C) I
  have vals : Vals (V.ref (s.heap.objs.size + 1) :: pk π zs) (Value.ref (s.heap.objs.size + 1) :: pk π ws) := .cons rfl (pk_paired rz.length (paired_get rz) π)
  have b := hb { s with heap := (s.heap.push PySem.W.emptyDict).push (PySem.W.instObj C s.heap.objs.size) } (Value.ref (s.heap.objs.size + 1)) ws J.kIn (rz.length.symm.trans l2)
  refine wpAny_call (make_map (f := f) (vs := []) (kw := ks.zip ws) I.kIn M.makes M.init (beq_iff_eq.mp M.fn) (codeAny_mono (F.run _ X.stack _ _ ⟨[Value.ref (s.heap.objs.size + 1)], ks.zip ws⟩ _ _ _ (E σ) (hr.make C [] (ks.zip ws)) (J.env0.make C [] (ks.zip ws)) b vals q) fun z s' y => ?_))
  cases z with
  | error u => exact hx σ pins _ _ u s' J y
  | ok fl =>
    cases fl with
    | ret u =>
      obtain ⟨v, H', J2, rv, rfl, q2⟩ := J.after y
      exact ⟨rv, ⟨.ref _, H', J2, rfl, q2⟩⟩
    | next => exact y.elim
    | brk => exact y.elim
    | cont => exact y.elim
/-- the keywords' values, read plainly -/
abbrev DK (B : Bx) (X : Cx) (W : WX) (kws : List Keyword) (m : M (List Opd)) : Prop := PK X kws (tA B W m)
variable {e : Expr} {ma : M Opd} {ms : M (List Opd)} {nm : Option Str} {kp : Pos}
theorem PK.imp {t t' : TA} (h : PK X kws t) (i : ∀ σ H Q, t' σ H Q → t σ H Q) : PK X kws t' := ⟨fun pos pins s σ H Q I q => h.run pos pins s σ H Q I (i σ H Q q)⟩
theorem dk0 : DK B X W [] mA0 := PK.imp pk_nil fun σ H Q h => by
  obtain ⟨F, env, S, h⟩ := h
  exact Post.here S h [] .nil
theorem dk (ha : DE B X W e ma) (hr : DK B X W kws ms) : DK B X W (⟨nm, e, kp⟩ :: kws) (mA ma ms) := PK.imp (pk_cons ha hr) fun σ H Q h => by
  obtain ⟨F, env, S, h⟩ := h
  refine tE.one S h fun x e1 F1 H1 v s1 m1 o1 rv k1 => ⟨F1, e1, m1, (Post.bind m1 k1).mono fun xs e2 F2 H2 s2 m2 o2 k2 vs rvs => ?_⟩
  exact Post.here m2 k2 (v :: vs) (.cons (rv.mono s2.le) rvs)
structure MakK (P : Program) (w : World) (K : PySem.W.Frag) (mg : Str → Option Value) (base : Heap) (B : Bx) (x : Str) (c : String) (k : Nat) (ps ks : List Str) (π : List Nat) (f : Fn) : Prop where
  ex : ∃ C fa fd, B.cls c = some C ∧ Mk K C fa ∧ FnOk P w K mg base (L2.CX P w) k fa fd ("self" :: ps) (spOf B (ps.length + 1) f) ∧ KBp K fd ("self" :: ps) ks π ∧ mg x = some (.ref C)
theorem do_makeK {c : String} {fn : Fn} (N : MakK X.prog X.w X.K X.mg X.base B x c k ps ks π fn) (hr : Room (k + 1) X.A) (tk : Takes X W) (ha : DK B X W kws ms) (hl : ∀ env xs e, ms env = .ok xs e → xs.length = ks.length) (hg : Gl X x := by rfl)
    (hall : (backToKw pos (keywordEach kws X.env)).all (·.1.isSome) = true := by rfl) (hks : (backToKw pos (keywordEach kws X.env)).filterMap (·.1) = ks := by rfl) (hdb : (x == ("__debug__" : Str)) = false := by decide)
    (hpl : ((backTo pos (starEach [] X.env)).any (·.1) || (backToKw pos (keywordEach kws X.env)).any (·.1.isNone)) = false := by rfl) :
    DO B X W (.Call (.Name x p) [] kws pos) (mMakeK c ps.length π fn ms) := by
  obtain ⟨C, fa, fd, hc, M, G, hb, hm⟩ := N.ex
  refine PE.imp (pe_makeKS (E := WE W) M G hr hm hb (fun σ => passAt tk σ) ha hg hall hks hdb hpl) fun σ H Q h => ?_
  obtain ⟨F, env, S, h⟩ := h
  refine ⟨F, env, S, ?_⟩
  have h2 := Post.bind S h
  cases q : ms env with
  | bad => rw [q] at h2; exact h2
  | exc c d e' => rw [q] at h2; exact h2
  | ok xs e1 =>
    rw [q] at h2
    intro F1 H1 s1 m1 l1 vs rvs
    refine ⟨by rw [rvs.len]; exact hl env xs e1 q, ?_⟩
    exact make_read hc m1 (rvs.pk π) (h2 F1 H1 s1 m1 l1) fun o e2 F2 H2 s2 m2 l2 k2 p hp hf ho => k2 p (s1.back hp) hf ho
end
end AN

set_option Elab.async false
set_option maxRecDepth 100000
set_option autoImplicit false
set_option linter.unusedVariables false
/-! the tables of a law's classes; the end with them -/
namespace AN
open PySem L2
def bxOf (K : PySem.W.Frag) (cs : List (String × Addr)) (es : List (String × Addr × Str)) : Bx := ⟨K, fun c => cs.lookup c, fun c => es.lookup c⟩
theorem look_mem {α : Type} {c : String} {a : α} : ∀ {l : List (String × α)}, l.lookup c = some a → (c, a) ∈ l
  | [], h => by cases h
  | (k, x) :: r, h => by
    rw [List.lookup_cons] at h
    cases q : c == k with
    | true => rw [q] at h; cases h; rw [beq_iff_eq.mp q]; simp
    | false => rw [q] at h; exact List.mem_cons_of_mem _ (look_mem h)
section
variable {K : PySem.W.Frag} {cs : List (String × Addr)} {es : List (String × Addr × Str)}
theorem ocs_of (h : ∀ p ∈ cs, Ocl K p.2) : Ocs (bxOf K cs es) K := fun c C e => h _ (look_mem e)
theorem apart_of (h : ∀ p ∈ cs, ∀ q ∈ cs, PySem.W.notFirst K p.2 (.ref q.2) = true) : Apart (bxOf K cs es) K := fun c c' C C' e e' => h _ (look_mem e) _ (look_mem e')
theorem free_of {ok : String → Bool} {f : Str} (h : ∀ p ∈ cs, ok p.1 = true → NoAttr K p.2 f) : Free (bxOf K cs es) K ok f := fun c C e k => h _ (look_mem e) k
/-- isinstance with an own class -/
theorem isOk_of {C0 : Addr} {fo : String → Bool} (h1 : (PySem.W.clsIn K C0).isSome = true) (h2 : PySem.W.typeIn K (.ref C0) = some (.type "type")) (h : ∀ p ∈ cs, PySem.W.kitOne K (.ref p.2) (.ref C0) = some (fo p.1)) : IsOk (bxOf K cs es) K (.ref C0) (fun _ => false) fo :=
  ⟨fun d hd => kit_own h1 h2 d hd, fun c C e => h _ (look_mem e)⟩
/-- which classes a clause takes -/
theorem cs_of {cv : Value} {f : String → Option Bool} (h : ∀ p ∈ es, ∀ b, f p.1 = some b → PySem.W.exmOne K (.ref p.2.1) cv = some b) (hf : ∀ c b, f c = some b → ∃ q, es.lookup c = some q) (c : String) (b : Bool) (e : f c = some b) :
    ∃ C fld, (bxOf K cs es).exc c = some (C, fld) ∧ PySem.W.exmOne K (.ref C) cv = some b := by
  obtain ⟨⟨C, fld⟩, q⟩ := hf c b e
  exact ⟨C, fld, q, h _ (look_mem q) b e⟩
theorem xf_of {T : String → Option Str} {f : Str} (h : ∀ p ∈ es, T p.1 = some f → p.2.2 = f ∧ XfC K p.2.1 ∧ PySem.W.findIn K (.ref p.2.1) f = some none) (cn : String) (t : T cn = some f) (C : Addr) (fld : Str) (e : (bxOf K cs es).exc cn = some (C, fld)) :
    fld = f ∧ XfC K C ∧ PySem.W.findIn K (.ref C) f = some none := h _ (look_mem e) t
theorem xi_of {T : String → Option Bool} {cv : Value} (h : ∀ p ∈ es, ∀ b, T p.1 = some b → L2.ExcC K p.2.1 ∧ PySem.W.kitOne K (.ref p.2.1) cv = some b) (cn : String) (b : Bool) (t : T cn = some b) (C : Addr) (fld : Str) (e : (bxOf K cs es).exc cn = some (C, fld)) :
    L2.ExcC K C ∧ PySem.W.kitOne K (.ref C) cv = some b := h _ (look_mem e) b t
end
theorem hu70S {k : Nat} {A : Around} {h : Option Value} (hr : Room k A) : (A.mark h).units + 70 < cLine := hu70 (A := A) hr
/-- the end, the tables found on the way -/
theorem walk_t {l : PySem.W.OpenLaw} {k : Nat} {q : Program} {loose : List Str} {XP : (Str → Option Value) → Heap → Prop} {YP : World → Heap → Prop} {d : DefRec} {K : Params → PySem.W.Frag} {x : Str} {f : Fn}
    (hn : l.most = some 63) (hdf : d.params.defaults = []) (hr : Room k callerA) (hY : ∀ (w : World) (h : Heap), YP w h → (K w.params).In h)
    (Fh : ∀ (w : World) (mg : Str → Option Value) (fa : Addr) (h : Heap), (K w.params).In h → h.Ns mainGlobals mg → XP mg h → mg d.name = some (.ref fa) →
      ∃ (fd : FuncData) (cs : List (String × Addr)) (es : List (String × Addr × Str)), (∀ (s : Shared) (u : Value), BindsTo s fd ⟨[u], []⟩ [(x, u)]) ∧
        ∀ base : Heap, (K w.params).In base → base.Ns mainGlobals mg → FnG l.prog w (K w.params) mg base k fa fd [x] (spOf (bxOf (K w.params) cs es) 1 f))
    (hf : ∀ ns : List Int, ns.length ≤ 63 → ∃ as, f [.fz (scriptD ns)] = .ok (.fz (.bl true)) as) :
    PySem.W.WalkO q loose XP YP l.row.toRowW d [] (fun f vs => PySem.call f vs) := by
  refine Att.attach_call hn hdf fun w s₀ s₁ mg mb fa o pm cd doc a vs ns G Y ho hd hcd hmg hobj hints hlen hg => ?_
  have KX := hY w _ Y
  obtain ⟨fd, cs, es, hb, hF⟩ := Fh w mg fa _ KX G.T.g G.X hmg
  refine law_callG KX G.T.g G.T.b G.T.builtins G.T.nolimit hg hobj hints (Nat.le_trans hlen (by decide)) hr hF hb (fun H hO hS => law_sp (B := bxOf (K w.params) cs es) rfl (hf ns hlen) hlen hO hS) fun H e s' h => ?_
  obtain ⟨_, _, _, _, _, _, _, _, _, _, _, _, z⟩ := h
  exact z
end AN

set_option Elab.async false
set_option maxRecDepth 100000
set_option autoImplicit false
set_option linter.unusedVariables false
/-! what is no longer wanted may be forgotten -/
namespace AN
open PySem PySem.Spec PyProof.Rows L2
def wpS : AN.Slot → AN.Slot
  | .ow true o => .ow true o
  | _ => .no
def wipeB : List Bool → AN.Env → AN.Env
  | true :: bs, s :: e => wpS s :: wipeB bs e
  | false :: bs, s :: e => s :: wipeB bs e
  | [], e => e
  | _ :: _, [] => []
theorem wipeB_len : ∀ (bs : List Bool) (e : AN.Env), (wipeB bs e).length = e.length
  | [], e => by cases e <;> rfl
  | b :: bs, [] => by cases b <;> rfl
  | true :: bs, s :: e => by simp [wipeB, wipeB_len bs e]
  | false :: bs, s :: e => by simp [wipeB, wipeB_len bs e]
theorem wipeB_get : ∀ {bs : List Bool} {e : AN.Env} {i : Nat} {s : AN.Slot}, (wipeB bs e)[i]? = some s → s = .no ∨ e[i]? = some s
  | [], e, i, s, h => by
    have : wipeB [] e = e := by cases e <;> rfl
    rw [this] at h; exact .inr h
  | b :: bs, [], i, s, h => by cases b <;> simp [wipeB] at h
  | true :: bs, t :: e, 0, s, h => by
    simp only [wipeB, List.getElem?_cons_zero, Option.some.injEq] at h
    subst h
    cases t with
    | no => exact .inl rfl
    | fz _ => exact .inl rfl
    | ow k o => cases k with
      | true => exact .inr rfl
      | false => exact .inl rfl
  | false :: bs, t :: e, 0, s, h => .inr h
  | true :: bs, t :: e, i + 1, s, h => by
    simp only [wipeB, List.getElem?_cons_succ] at h ⊢
    exact wipeB_get h
  | false :: bs, t :: e, i + 1, s, h => by
    simp only [wipeB, List.getElem?_cons_succ] at h ⊢
    exact wipeB_get h
theorem wipeB_pin : ∀ {bs : List Bool} {e : AN.Env} {i : Nat} {o : O}, e[i]? = some (.ow true o) → (wipeB bs e)[i]? = some (.ow true o)
  | [], e, i, o, h => by
    have : wipeB [] e = e := by cases e <;> rfl
    rw [this]; exact h
  | b :: bs, [], i, o, h => by simp at h
  | true :: bs, t :: e, 0, o, h => by
    simp only [List.getElem?_cons_zero, Option.some.injEq] at h
    subst h; rfl
  | false :: bs, t :: e, 0, o, h => h
  | true :: bs, t :: e, i + 1, o, h => by
    simp only [wipeB, List.getElem?_cons_succ] at h ⊢
    exact wipeB_pin h
  | false :: bs, t :: e, i + 1, o, h => by
    simp only [wipeB, List.getElem?_cons_succ] at h ⊢
    exact wipeB_pin h
def mW (bs : List Bool) (m : M Fl) : M Fl := fun e => match m e with
  | .ok .nx e' => .ok .nx (wipeB bs e')
  | .ok .ct e' => .ok .ct (wipeB bs e')
  | .ok .bk e' => .ok .bk (wipeB bs e')
  | r => r
section
variable {B : Bx} {X : Cx} {W : WX} {F H F1 H1 : Hp} {env e1 : AN.Env} {σ σ1 : L2.St} {bs : List Bool} {m : M Fl}
theorem Sim.wipeB (S : Sim B F env σ H) : Sim B F (AN.wipeB bs env) σ H where
  hold := S.hold
  len := (wipeB_len bs env).trans S.len
  fz := fun i d q => by
    rcases wipeB_get q with z | z
    · cases z
    · exact S.fz i d z
  ow := fun i k o q => by
    rcases wipeB_get q with z | z
    · cases z
    · exact S.ow i k o z
  sep := fun i j k o k' o' p q q' => by
    rcases wipeB_get q with z | z
    · cases z
    rcases wipeB_get q' with z' | z'
    · cases z'
    exact S.sep i j k o k' o' p z z'
theorem Go.wipeB (g : Go B F env σ H F1 e1 σ1 H1) : Go B F env σ H F1 (AN.wipeB bs e1) σ1 H1 where
  step := g.step
  sim := g.sim.wipeB
  own := fun b ⟨i, o, q, z⟩ => by
    rcases wipeB_get q with y | y
    · cases y
    · exact g.own b ⟨i, o, y, z⟩
  pin := fun i o q => by
    obtain ⟨⟨o', z⟩, y⟩ := g.pin i o q
    exact ⟨⟨o', wipeB_pin z⟩, y⟩
  unpin := fun i o q => by
    rcases wipeB_get q with y | y
    · cases y
    · exact g.unpin i o y
  len := g.len
theorem PostS.unwipe {D : Ends} (h : PostS B W F env σ H D (mW bs m env)) : PostS B W F env σ H D (m env) := by
  unfold mW at h
  cases q : m env with
  | bad => rw [q] at h; exact h
  | exc c d e' => rw [q] at h; exact h
  | ok f e' =>
    rw [q] at h
    cases f with
    | nx => exact fun σ' F' H' g => h σ' F' H' g.wipeB
    | ct => exact fun σ' F' H' g => h σ' F' H' g.wipeB
    | bk => exact fun σ' F' H' g => h σ' F' H' g.wipeB
    | rt d => exact h
    | ro o => exact h
theorem ds_w (bs : List Bool) {st : Stmt} (h : DS B X W st m) : DS B X W st (mW bs m) := PS.imp h fun D σ H h => by
  obtain ⟨F, env, S, h⟩ := h
  exact ⟨F, env, S, h.unwipe⟩
theorem dss_w (bs : List Bool) {st : List Stmt} (h : DSs B X W st m) : DSs B X W st (mW bs m) := PSs.imp h fun D σ H h => by
  obtain ⟨F, env, S, h⟩ := h
  exact ⟨F, env, S, h.unwipe⟩
/-- a piece that is never reached -/
theorem ds_bad {st : Stmt} : DS B X W st (fun _ => .bad) := ⟨fun pins s σ H Q I h => by
  obtain ⟨F, env, S, h⟩ := h
  exact h.elim⟩
theorem de_bad {e : Expr} : DE B X W e (fun _ => .bad) := ⟨fun pins s σ H Q I h => by
  obtain ⟨F, env, S, h⟩ := h
  exact h.elim⟩
end
def R.wp (bs : List Bool) : R Fl → R Fl
  | .ok .nx e' => .ok .nx (wipeB bs e')
  | .ok .ct e' => .ok .ct (wipeB bs e')
  | .ok .bk e' => .ok .bk (wipeB bs e')
  | r => r
@[simp] theorem mW_r {bs : List Bool} {m : M Fl} {e : AN.Env} : mW bs m e = (m e).wp bs := rfl
section
variable {bs : List Bool} {s : AN.Slot} {e : AN.Env} {d : D} {o : O} {c : String}
@[simp] theorem wp_nx : R.wp bs (.ok .nx e) = .ok .nx (wipeB bs e) := rfl
@[simp] theorem wp_ct : R.wp bs (.ok .ct e) = .ok .ct (wipeB bs e) := rfl
@[simp] theorem wp_bk : R.wp bs (.ok .bk e) = .ok .bk (wipeB bs e) := rfl
@[simp] theorem wp_rt : R.wp bs (.ok (.rt d) e) = .ok (.rt d) e := rfl
@[simp] theorem wp_ro : R.wp bs (.ok (.ro o) e) = .ok (.ro o) e := rfl
@[simp] theorem wp_exc : R.wp bs (.exc c d e) = .exc c d e := rfl
@[simp] theorem wp_bad : R.wp bs .bad = .bad := rfl
@[simp] theorem wipeB_t : wipeB (true :: bs) (s :: e) = wpS s :: wipeB bs e := rfl
@[simp] theorem wipeB_f : wipeB (false :: bs) (s :: e) = s :: wipeB bs e := rfl
@[simp] theorem wipeB_n : wipeB [] e = e := by cases e <;> rfl
@[simp] theorem wpS_no : wpS .no = .no := rfl
@[simp] theorem wpS_fz : wpS (.fz d) = .no := rfl
@[simp] theorem wpS_owf : wpS (.ow false o) = .no := rfl
@[simp] theorem wpS_owt : wpS (.ow true o) = .ow true o := rfl
end
/-- a loop that leaves all as it was -/
theorem loop_same {g : D → AN.Env → Option AN.Env} {body : M Fl} : ∀ {ds : List D} {e : AN.Env}, (∀ d ∈ ds, ∃ e1, g d e = some e1 ∧ (body e1 = .ok .nx e ∨ body e1 = .ok .ct e)) → loop g body ds e = .ok .nx e
  | [], e, _ => rfl
  | d :: ds, e, s => by
    obtain ⟨e1, h1, h2⟩ := s d (by simp)
    have ih := loop_same (g := g) (body := body) (ds := ds) (e := e) (fun d hd => s d (by simp [hd]))
    rcases h2 with h2 | h2 <;> simp only [loop, h1, h2, ih]
/-- a loop that leaves all but one thing as it was -/
theorem loop_st {α : Type} {g : D → AN.Env → Option AN.Env} {body : M Fl} (E : α → AN.Env) (I : α → Prop) : ∀ {ds : List D} {a : α}, I a → (∀ d ∈ ds, ∀ a, I a → ∃ e1 a', g d (E a) = some e1 ∧ (body e1 = .ok .nx (E a') ∨ body e1 = .ok .ct (E a')) ∧ I a') → ∃ a', loop g body ds (E a) = .ok .nx (E a') ∧ I a'
  | [], a, h, _ => ⟨a, rfl, h⟩
  | d :: ds, a, h, s => by
    obtain ⟨e1, a', h1, h2, h3⟩ := s d (by simp) a h
    obtain ⟨a2, h4, h5⟩ := loop_st E I (ds := ds) h3 (fun d hd => s d (by simp [hd]))
    refine ⟨a2, ?_, h5⟩
    rcases h2 with h2 | h2 <;> simp only [loop, h1, h2, h4]
/-- a loop as a fold -/
theorem loop_fold {α : Type} {g : D → AN.Env → Option AN.Env} {body : M Fl} (E : α → AN.Env) (f : α → D → α) : ∀ {ds : List D} {a : α}, (∀ (pre : List D) (d : D) (suf : List D), ds = pre ++ d :: suf → ∃ e1, g d (E (pre.foldl f a)) = some e1 ∧ (body e1 = .ok .nx (E (f (pre.foldl f a) d)) ∨ body e1 = .ok .ct (E (f (pre.foldl f a) d)))) →
    loop g body ds (E a) = .ok .nx (E (ds.foldl f a))
  | [], a, _ => rfl
  | d :: ds, a, s => by
    obtain ⟨e1, h1, h2⟩ := s [] d ds rfl
    have ih := loop_fold E f (ds := ds) (a := f a d) (fun pre d' suf e => by
      have := s (d :: pre) d' suf (by rw [e]; rfl)
      exact this)
    simp only [List.foldl_nil] at h1 h2
    rcases h2 with h2 | h2 <;> simp only [loop, h1, h2] <;> exact ih
end AN

set_option Elab.async false
set_option maxRecDepth 100000
set_option autoImplicit false
set_option linter.unusedVariables false
/-! special methods of own classes -/
namespace AN
open PySem PySem.Spec PyProof.Rows L2
section
variable {B : Bx} {X : Cx} {W : WX} {F H F1 H1 : Hp} {env e1 : AN.Env} {σ : L2.St} {Q : VK} {a b : Expr} {ma mb : M Opd} {pos p : Pos} {k : Nat}
/-- a def's call inside an operation -/
theorem sp_call {pins : List (Addr × Obj)} {s : Shared} {vs : List V} {us : List Value} {A : Around} {fa : Addr} {fd : FuncData} {ps : List Str} {sp : Sp} {E : XK} (G : FnOk X.prog X.w X.K X.mg X.base (L2.CX X.prog X.w) k fa fd ps sp) (hb : Binds X.K fd ps []) (hr : Room k A) (hfr : A.frames = X.A.frames)
    (I : Inv X pins σ H s) (vals : Vals vs us) (hx : PassesAt (L2.CX X.prog X.w) X σ E) (h : sp vs H Q E) : wpAny (model X.prog X.w) A (call (.ref fa) us) (EP X pins σ Q) X.xe s := by
  have e := I.env0
  have e0 : Env0 X.prog X.w X.K X.mg X.base A X.stack s H := ⟨by rw [hfr]; exact e.frames, e.mod, e.bs, e.bsz, e.funs, e.frf, e.hok, e.bare⟩
  have b := hb s us I.kIn (by rw [List.append_nil, ← vals.length]; exact G.len _ _ _ _ h)
  rw [List.append_nil] at b
  refine wpAny_call (codeAny_mono (G.run A X.stack s H ⟨us, []⟩ _ _ _ E hr e0 b vals h) fun z s' y => ?_)
  cases z with
  | error u => exact hx pins H s u s' I y
  | ok fl =>
    cases fl with
    | ret w =>
      obtain ⟨v', H', J, rv, q⟩ := I.after y
      exact ⟨v', H', J, rv, q⟩
    | next => exact y.elim
    | brk => exact y.elim
    | cont => exact y.elim
theorem passE0 {X : Cx} {σ : L2.St} : PassesAt (L2.CX X.prog X.w) X σ E0 := fun pins H s e s' I c => passL pins σ H s e s' I c
/-- a special method of a class -/
structure SpC (P : Program) (w : World) (K : PySem.W.Frag) (mg : Str → Option Value) (base : Heap) (B : Bx) (c : String) (nm : Str) (n k : Nat) (f : Fn) : Prop where
  ex : ∃ C fa fd ps, B.cls c = some C ∧ PySem.W.findIn K (.ref C) nm = some (some (.ref fa)) ∧ PySem.W.isFn K (.ref fa) = true ∧ FnOk P w K mg base (L2.CX P w) k fa fd ps (spOf B n f) ∧ Binds K fd ps []
/-- a def that tells a scalar and changes nothing -/
theorem own_sp {ds : List D} {vs : List V} {f : Fn} {z : D} {as : List AN.Slot} (hh : Holds F H) {F2 : Hp} (h2 : Holds F2 H) (r : RepL B F2 ds vs) (hf : f (ds.map .fz) = .ok (.fz z) as) (hz : scalar z = true)
    (q : ∀ v F' H', Step0 F H F' H' → Holds F' H' → Rep B F' z v → Q v H') : spOf B ds.length f vs H (fun v H' => Rep B F z v ∧ Q v H') E0 := by
  refine ⟨r.length, F2, ds.map .fz, sim_fz h2 r, fz_pin, ?_⟩
  rw [hf]
  intro v F3 H3 s3 m3 rv
  have s0 : Step0 F2 H F3 H3 := s3.imp fun _ z => fz_own (ds := ds) z
  obtain ⟨sd, hd⟩ := Step0.drop (F := F) (H := H) (F1 := F) (H1 := H3) ⟨Le.refl F, s0.keep, fun b u e => .inl e, s0.stay⟩ hh
  exact ⟨scalar_rep hz rv, q _ F H3 sd hd (scalar_rep hz rv)⟩
theorem own_sp1 {d : D} {v : V} {f : Fn} {z : D} {as : List AN.Slot} (hh : Holds F H) (s : Seen B F H d v) (hf : f [.fz d] = .ok (.fz z) as) (hz : scalar z = true)
    (q : ∀ v F' H', Step0 F H F' H' → Holds F' H' → Rep B F' z v → Q v H') : spOf B 1 f [v] H (fun v H' => Rep B F z v ∧ Q v H') E0 := by
  obtain ⟨F1, l1, h1, r1⟩ := s.fix hh
  exact own_sp (ds := [d]) hh h1 (.one r1) hf hz q
theorem own_sp2 {d d' : D} {v v' : V} {f : Fn} {z : D} {as : List AN.Slot} (hh : Holds F H) (s : Seen B F H d v) (s' : Seen B F H d' v') (hf : f [.fz d, .fz d'] = .ok (.fz z) as) (hz : scalar z = true)
    (q : ∀ v F' H', Step0 F H F' H' → Holds F' H' → Rep B F' z v → Q v H') : spOf B 2 f [v, v'] H (fun v H' => Rep B F z v ∧ Q v H') E0 := by
  obtain ⟨F1, l1, h1, r1⟩ := s.fix hh
  obtain ⟨F2, l2, h2, r2⟩ := (s'.mono l1).fix h1
  exact own_sp (ds := [d, d']) hh h2 ⟨_, _, rfl, Rep.monoN l2 _ _ r1, _, _, rfl, r2, rfl⟩ hf hz q
def isBl : D → Bool
  | .bl _ => true
  | _ => false
/-! ### comparisons -/
/-- a op b by the own method of a's class -/
def oCmp (t : String → Option Fn) (g : D → D → Option D) (a b : D) : Option D := match a with
  | .obj c _ => (t c).bind fun f => match f [.fz a, .fz b] with
    | .ok (.fz (.bl r)) _ => some (.bl r)
    | _ => none
  | _ => g a b
def rCmp (P : Program) (w : World) (K : PySem.W.Frag) (mg : Str → Option Value) (base : Heap) (B : Bx) (k : Nat) (nm : Str) : R2 := fun x y H Q => ∃ c C f a dx fs t z, B.cls c = some C ∧ SpC P w K mg base B c nm 2 k f ∧ x = .ref a ∧ H a = some (.ins C dx fs) ∧ TyX K H y t ∧ PySem.W.notFirst K C t = true ∧
  spOf B 2 f [x, y] H (fun v H' => v = .bl z ∧ Q v H') E0
theorem op_ownCmp {op : CmpOp} (hi : compareOp op = richCompare op) (hr : Room k X.A) : OpR X (compareOp op) (rCmp X.prog X.w X.K X.mg X.base B k (cmpInfo op).2.1) := by
  intro pins s σ H x y u v Q I rx ry h
  obtain ⟨c, C, f, a, dx, fs, t, z, hc, ⟨C', fa, fd, ps, hc', he, hf, G, hb⟩, rfl, ha, ty, nf, sp⟩ := h
  rw [hc] at hc'; cases hc'
  cases (show u = Value.ref a from rx)
  obtain ⟨mA, J, _⟩ := ins_get I.hok ha
  obtain ⟨od, J, _⟩ := J.look
  obtain ⟨P, kx, hp, _⟩ := kit_of I ry ty
  obtain ⟨m, fr⟩ := I.fr
  rw [hi]
  refine PySem.W.cmp_K (op := op) (tb := t) (by have := hr.un; omega) fr I.ok.mod.kin J (kx.ty _ _ I.kIn hp) nf he hf ?_
  refine wpAny_mono (sp_call G hb hr rfl I (.cons rx (.cons ry .nil)) passE0 sp) (fun w s' q => ?_) fun _ _ z => z
  obtain ⟨v', H', J', rv, rfl, q⟩ := q
  cases (show w = Value.bool z from rv)
  exact ⟨.bl z, H', J', rfl, q⟩
theorem p_ownCmp {nm : Str} {t : String → Option Fn} {g : D → D → Option D} {r0 : R2} (hK : X.K = B.K) (hC : Ocs B X.K) (hA : Apart B X.K) (he : ∀ c f, t c = some f → SpC X.prog X.w X.K X.mg X.base B c nm 2 k f) (h0 : Prim2 B g r0) :
    Prim2 B (oCmp t g) (fun x y H Q => r0 x y H Q ∨ rCmp X.prog X.w X.K X.mg X.base B k nm x y H Q) := fun F H a b z x y Q hh sa sb e q => by
  have plain : g a b = some z → r0 x y H Q ∨ rCmp X.prog X.w X.K X.mg X.base B k nm x y H Q := fun e => .inl (h0 F H a b z x y Q hh sa sb e q)
  cases a with
  | obj c fs =>
    right
    unfold oCmp at e
    dsimp only at e
    obtain ⟨f, ef, e⟩ := Option.bind_eq_some_iff.mp e
    have E := he c f ef
    obtain ⟨C, _, _, _, hc, _⟩ := id E.ex
    obtain ⟨t, ty, nf⟩ := sb.tyx hK hh hC hA hc
    obtain ⟨p, C', dx, gs, rfl, hc', hp, rf⟩ := id sa
    rw [hc] at hc'; cases hc'
    cases qf : f [.fz (.obj c fs), .fz b] with
    | bad => rw [qf] at e; cases e
    | exc _ _ _ => rw [qf] at e; cases e
    | ok rt as =>
      rw [qf] at e
      cases rt with
      | ow _ => cases e
      | fz d =>
        cases d with
        | bl r =>
          cases e
          exact ⟨c, C, f, p, dx, gs, t, r, hc, E, rfl, hp, ty, nf, own_sp2 hh sa sb qf rfl q⟩
        | _ => cases e
  | _ => exact plain e
theorem p_never {B : Bx} : Prim2 B (fun _ _ => none) (fun _ _ _ _ => False) := fun F H a b z x y Q hh sa sb e q => by cases e
theorem op_never {X : Cx} {f : Value → Value → Sem Value} : OpR X f (fun _ _ _ _ => False) := fun pins s σ H x y v u Q I rx ry h => h.elim
end
end AN

set_option Elab.async false
set_option maxRecDepth 100000
set_option autoImplicit false
set_option linter.unusedVariables false
/-! special methods of own classes that may raise or give objects: operators, items, properties, len -/
namespace AN
open PySem PySem.Spec PyProof.Rows L2
def callD (n : Nat) (f : Fn) (xs : List Opd) : M Opd := M.bind (callP n f xs) fun r => M.pure (.d r.toD)
def callO (n : Nat) (f : Fn) (xs : List Opd) : M O := M.bind (callP n f xs) retO
section
variable {B : Bx} {X : Cx} {W : WX} {F H F1 H1 : Hp} {env e1 : AN.Env} {σ : L2.St} {Q : VK} {a b : Expr} {ma mb : M Opd} {pos p : Pos} {k : Nat}
theorem callD_read {n : Nat} {f : Fn} {xs : List Opd} {vs : List V} (m1 : Sim B F env σ H) (rvs : OpdsRel B F σ vs xs) (k1 : Post B W F env σ H (fun r _ F' H' => ∀ v, OpdRel B F' σ v r → Q v H') (callD n f xs env)) : spOf B n f vs H Q (WE W σ) := by
  have k2 := Post.bindPure k1
  refine call_read m1 rvs k2 fun r e2 F2 H2 s2 m2 l2 k3 => ?_
  have k4 : ∀ F3 H3, Step (Own env σ) F H F3 H3 → Sim B F3 e2 σ H3 → ∀ v, Rep B F3 r.toD v → Q v H3 := fun F3 H3 a b v r => k3 F3 H3 a b F3 H3 a b v r
  cases r with
  | fz d => exact fun v r => k4 F2 H2 s2 m2 v r
  | ow o =>
    intro p hp hf ho
    have np : ¬ Own e2 σ p := fun z => by
      obtain ⟨_, u, hu⟩ := (l2.own z).ex m1
      rw [hp] at hu; cases hu
    obtain ⟨u, hu, r⟩ := ho.data hf
    refine k4 (upd F2 p u) H2 ⟨s2.le.trans (Le.upd hf), s2.keep, fun b w q => ?_, s2.stay⟩ (m2.data np hf hu) (.ref p) r
    by_cases hb : b = p
    · subst hb; exact .inr (.inl hp)
    · rw [upd_ne hb] at q; exact s2.new b w q
theorem callO_read {n : Nat} {f : Fn} {xs : List Opd} {vs : List V} {H0 : Hp} (hback : ∀ p, H p = none → H0 p = none) (m1 : Sim B F env σ H) (rvs : OpdsRel B F σ vs xs) (k1 : Post B W F env σ H (fun o _ F' H' => ∀ p, H0 p = none → F' p = none → OAt B F' H' p o → Q (.ref p) H') (callO n f xs env)) : spOf B n f vs H Q (WE W σ) := by
  refine call_read m1 rvs (Post.bind m1 k1) fun r e2 F2 H2 s2 m2 l2 k3 => ?_
  have k4 := k3 F2 H2 s2 m2
  cases r with
  | fz d => exact k4.elim
  | ow o => exact fun p hp hf ho => Post.here m2 k4 p (hback p hp) hf ho
/-- operations whose wishes speak of the slots -/
abbrev RS := L2.St → R2
def OpS (X : Cx) (f : Value → Value → Sem Value) (r : RS) : Prop := ∀ (pins : List (Addr × Obj)) (s : Shared) (σ : L2.St) (H : Hp) (x y : V) (v u : Value) (Q : VK), Inv X pins σ H s → RelV x v → RelV y u → r σ x y H Q → wpAny (model X.prog X.w) X.A (f v u) (EP X pins σ Q) X.xe s
theorem OpS.or {f : Value → Value → Sem Value} {r : R2} {r' : RS} (h : OpR X f r) (h' : OpS X f r') : OpS X f (fun σ x y H Q => r x y H Q ∨ r' σ x y H Q) := fun pins s σ H x y v u Q I rx ry q => by
  rcases q with q | q
  · exact h pins s σ H x y v u Q I rx ry q
  · exact h' pins s σ H x y v u Q I rx ry q
def tOpS (r : RS) (ta tb : TE) : TE := fun σ H Q => tOp (r σ) ta tb σ H Q
theorem pe_opS {op : Operator} {r : RS} {ta tb : TE} (ho : OpS X (binaryOp op) r) (ha : PE X a ta) (hb : PE X b tb) : PE X (.BinOp a op b pos) (tOpS r ta tb) := by
  refine ⟨fun pins s σ H Q I h => ?_⟩
  exact wpAny_BinOp (binT ha hb I h fun v u s2 x y H2 I2 rx ry q => ho pins s2 σ H2 x y v u Q I2 rx ry q)
/-! ### binary operators -/
/-- no method for the operator -/
structure NoFill (K : PySem.W.Frag) (C : Addr) (nm : String) : Prop where
  fl : ∀ (M : Model) (h : Heap), K.In h → PySem.W.Looks M h (fillsNumberSlot (.ref C) nm) false
theorem noFill_of {K : PySem.W.Frag} {C : Addr} {nm : String} (hm : (PySem.W.clsIn K C).any (fun cd => cd.mro == [.ref C, .type "object"]) = true) (h1 : PySem.W.findIn K (.ref C) (PySem.dunder nm) = some none) (h2 : PySem.W.findIn K (.ref C) (dunderR nm) = some none)
    (h3 : PySem.W.findIn K (.type "object") (PySem.dunder nm) = some none) (h4 : PySem.W.findIn K (.type "object") (dunderR nm) = some none) : NoFill K C nm := ⟨fun M h X A Q E s kp q => by
  obtain ⟨cd, hc, hm⟩ := PySem.W.any_some hm
  have hm := beq_iff_eq.mp hm
  unfold fillsNumberSlot
  have X' : K.In s.heap := X.keeps kp
  refine wpAny_bind ((PySem.W.looks_clsIn X hc).andThen (f := fun cd => pure cd.mro) .now A _ E s kp ?_)
  rw [hm, List.anyM_cons]
  refine wpAny_bind ?_
  show wpAny M A (List.anyM _ [PySem.dunder nm, dunderR nm]) _ _ _
  rw [List.anyM_cons]
  refine wpAny_bind (wpAny_bind (PySem.W.looks_findIn X h1 A _ E s kp ?_))
  dsimp only
  refine wpAny_pure ?_
  simp only [Bool.false_eq_true, if_false]
  rw [List.anyM_cons]
  refine wpAny_bind (wpAny_bind (PySem.W.looks_findIn X h2 A _ E s kp ?_))
  dsimp only
  refine wpAny_pure ?_
  simp only [Bool.false_eq_true, if_false]
  refine wpAny_pure ?_
  simp only [Bool.false_eq_true, if_false]
  rw [List.anyM_cons]
  refine wpAny_bind ?_
  dsimp only
  refine wpAny_bind (PySem.W.looks_findIn X h3 A _ E s kp ?_)
  refine wpAny_bind (PySem.W.looks_findIn X h4 A _ E s kp ?_)
  refine wpAny_pure ?_
  simp only [Option.isSome_none, Bool.false_and, Bool.or_self, Bool.false_eq_true, if_false]
  exact wpAny_pure q⟩
section
variable {prog : Program} {w : World} {A : Around} {E : Value → Shared → Prop} {s : Shared} {K : PySem.W.Frag} {x C C' L f y : Addr} {ox oy : Obj} {od od' : Option Obj}
/-- a op b: a's class has the method, b's class has none -/
theorem binop_K1 {op : Operator} {Q : Value → Shared → Prop} (X : K.In s.heap) (I : PySem.W.InstAt s.heap x ox C od) (hb : PySem.W.Looks (model prog w) s.heap (typeOf (.ref y)) (.ref C')) (hne : C ≠ C') (hc : PySem.W.selfFirst K C = true) (hnf : NoFill K C' op.info.2)
    (hs : PySem.W.findIn K (.ref C) (PySem.dunder op.info.2) = some (some (.ref f))) (hf : PySem.W.isFn K (.ref f) = true)
    (h : wpAny (model prog w) A (call (.ref f) [.ref x, .ref y]) (PySem.W.CmpBack Q) E s) : wpAny (model prog w) A (binaryOp op (.ref x) (.ref y)) Q E s := by
  obtain ⟨cd, rest, hcd, hm⟩ := PySem.W.ksp_first hc
  have ne : (Value.ref C == Value.ref C') = false := by
    rw [beq_eq_false_iff_ne]; intro z; injection z with z; exact hne z
  unfold binaryOp
  refine wpAny_holding (wpAny_bind ?_)
  unfold binaryOp1
  refine wpAny_bind (I.type.here (wpAny_bind (hb.here (wpAny_bind ((PySem.W.fills_K X hcd hm hs).here ?_)))))
  simp only [ne, Bool.false_eq_true, if_false]
  refine wpAny_bind ((hnf.fl _ _ X).here ?_)
  simp only [Bool.and_false, Bool.false_eq_true, if_false, Bool.false_and]
  refine wpAny_bind (wpAny_pure ?_)
  simp only [Bool.false_eq_true, if_false, if_true]
  refine wpAny_bind (m := tryMethod (.ref x) _ (.ref y)) ?_
  unfold tryMethod
  refine wpAny_bind (PySem.W.special_fn X I hs (beq_iff_eq.mp hf) (wpAny_mono h (fun v s' hv => ?_) fun _ _ e => e))
  cases v <;> first | exact hv.elim | exact wpAny_pure (wpAny_pure (wpAny_pure hv))
/-- a op b: b's class has the methods, a's class has none -/
theorem binop_K2 {op : Operator} {Q : Value → Shared → Prop} {g : Addr} (X : K.In s.heap) (ha : PySem.W.Looks (model prog w) s.heap (typeOf (.ref x)) (.ref C)) (I : PySem.W.InstAt s.heap y oy C' od') (hne : C ≠ C') (hc : PySem.W.selfFirst K C' = true) (hnf : NoFill K C op.info.2)
    (hs : PySem.W.findIn K (.ref C') (PySem.dunder op.info.2) = some (some (.ref g))) (hs2 : PySem.W.findIn K (.ref C') (dunderR op.info.2) = some (some (.ref f))) (hf : PySem.W.isFn K (.ref f) = true)
    (h : wpAny (model prog w) A (call (.ref f) [.ref y, .ref x]) (PySem.W.CmpBack Q) E s) : wpAny (model prog w) A (binaryOp op (.ref x) (.ref y)) Q E s := by
  obtain ⟨cd, rest, hcd, hm⟩ := PySem.W.ksp_first hc
  have ne : (Value.ref C == Value.ref C') = false := by
    rw [beq_eq_false_iff_ne]; intro z; injection z with z; exact hne z
  unfold binaryOp
  refine wpAny_holding (wpAny_bind ?_)
  unfold binaryOp1
  refine wpAny_bind (ha.here (wpAny_bind (I.type.here (wpAny_bind ((hnf.fl _ _ X).here ?_)))))
  simp only [ne, Bool.false_eq_true, if_false]
  refine wpAny_bind ((PySem.W.fills_K X hcd hm hs).here ?_)
  simp only [Bool.false_and, Bool.false_eq_true, if_false]
  refine wpAny_bind (wpAny_pure ?_)
  simp only [Bool.false_eq_true, if_false, if_true, Bool.not_false, Bool.and_true]
  refine wpAny_bind (m := tryMethod (.ref y) _ (.ref x)) ?_
  unfold tryMethod
  refine wpAny_bind (PySem.W.special_fn X I hs2 (beq_iff_eq.mp hf) (wpAny_mono h (fun v s' hv => ?_) fun _ _ e => e))
  cases v <;> first | exact hv.elim | (refine wpAny_pure ?_; repeat (first | exact hv | wp_step))
end
theorem cmpBack_of {v : V} {u : Value} {P : Value → Shared → Prop} {s : Shared} (r : RelV v u) (q : P u s) : PySem.W.CmpBack P u s := by
  cases v with
  | non => cases (show u = Value.none from r); exact q
  | bl b => cases (show u = Value.bool b from r); exact q
  | int i => obtain ⟨t, e⟩ := (show ∃ t, u = Value.int i t from r); cases e; exact q
  | str x => obtain ⟨t, e⟩ := (show ∃ t, u = Value.str x t from r); cases e; exact q
  | byt x => obtain ⟨t, e⟩ := (show ∃ t, u = Value.bytes x t from r); cases e; exact q
  | flt x => obtain ⟨t, e⟩ := (show ∃ t, u = Value.float x t from r); cases e; exact q
  | ref a => cases (show u = Value.ref a from r); exact q
  | ty n => cases (show u = Value.type n from r); exact q
/-- the classes of B are unlike, each first in its own row -/
structure Kls (B : Bx) (K : PySem.W.Frag) : Prop where
  inj : ∀ c c' C, B.cls c = some C → B.cls c' = some C → c = c'
  first : ∀ c C, B.cls c = some C → PySem.W.selfFirst K C = true
structure OpF (P : Program) (w : World) (K : PySem.W.Frag) (mg : Str → Option Value) (base : Heap) (B : Bx) (op : Operator) (k : Nat) (fw rv : String → Option Fn) : Prop where
  kls : Kls B K
  fwd : ∀ c f, fw c = some f → SpC P w K mg base B c (PySem.dunder op.info.2) 2 k f
  rev : ∀ c f, rv c = some f → SpC P w K mg base B c (dunderR op.info.2) 2 k f
  non : ∀ c C, B.cls c = some C → fw c = none → rv c = none → NoFill K C op.info.2
def selOp (fw rv : String → Option Fn) (a b : D) : Option (Fn × Bool) := match a, b with
  | .obj c _, .obj c' _ => (match fw c with
    | some f => if c = c' then some (f, false) else (match fw c', rv c' with
      | none, none => some (f, false)
      | _, _ => none)
    | none => (match rv c, fw c', rv c' with
      | none, some _, some f => some (f, true)
      | _, _, _ => none))
  | _, _ => none
def isOb : D → Bool
  | .obj _ _ => true
  | _ => false
def opP (sel : D → D → Option (Fn × Bool)) (g : D → D → Option D) (x y : Opd) : M Opd := fun env => match view env x, view env y with
  | some a, some b => (match sel a b with
    | some (f, false) => callD 2 f [x, y] env
    | some (f, true) => callD 2 f [y, x] env
    | none => mD (ap2 g x y) env)
  | _, _ => .bad
def mOp2 (sel : D → D → Option (Fn × Bool)) (g : D → D → Option D) (ma mb : M Opd) : M Opd := M.bind ma fun x => M.bind mb fun y => opP sel g x y
def rOp (B : Bx) (fw rv : String → Option Fn) (E : L2.St → XK) : RS := fun σ x y H Q => ∃ c C c' C' px py dx dy fs gs f, x = .ref px ∧ y = .ref py ∧ B.cls c = some C ∧ B.cls c' = some C' ∧ H px = some (.ins C dx fs) ∧ H py = some (.ins C' dy gs) ∧
  ((fw c = some f ∧ (c = c' ∨ (fw c' = none ∧ rv c' = none)) ∧ spOf B 2 f [x, y] H Q (E σ)) ∨ (fw c = none ∧ rv c = none ∧ (∃ g, fw c' = some g) ∧ rv c' = some f ∧ spOf B 2 f [y, x] H Q (E σ)))
theorem op_ownOp {op : Operator} {fw rv : String → Option Fn} (O : OpF X.prog X.w X.K X.mg X.base B op k fw rv) (hr : Room k X.A) (tk : Takes X W) : OpS X (binaryOp op) (rOp B fw rv (WE W)) := by
  intro pins s σ H x y u v Q I rx ry h
  obtain ⟨c, C, c', C', px, py, dx, dy, fs, gs, f, rfl, rfl, hc, hc', hx, hy, h⟩ := h
  cases (show u = Value.ref px from rx)
  cases (show v = Value.ref py from ry)
  obtain ⟨mA, J, _⟩ := ins_get I.hok hx
  obtain ⟨od, J, _⟩ := J.look
  obtain ⟨mB, J', _⟩ := ins_get I.hok hy
  obtain ⟨od', J', _⟩ := J'.look
  obtain ⟨m, fr⟩ := I.fr
  rcases h with ⟨hf, hcc, sp⟩ | ⟨h1, h2, ⟨g, h3⟩, h4, sp⟩
  · obtain ⟨C2, fa, fd, ps, hc2, he, hfn, G, hb⟩ := (O.fwd c f hf).ex
    rw [hc] at hc2; cases hc2
    have cl := sp_call G hb hr rfl I (.cons rx (.cons ry .nil)) (passAt tk σ) sp
    have cl2 : wpAny (model X.prog X.w) X.A (call (.ref fa) [.ref px, .ref py]) (PySem.W.CmpBack (EP X pins σ Q)) X.xe s := wpAny_mono cl (fun w s' ⟨v', H', J2, rv, q⟩ => cmpBack_of rv ⟨v', H', J2, rv, q⟩) fun _ _ z => z
    by_cases hcc' : c = c'
    · subst hcc'
      rw [hc] at hc'; cases hc'
      exact PySem.W.binop_K fr I.ok.mod.kin J J'.type (O.kls.first c C hc) he hfn cl2
    · obtain ⟨n1, n2⟩ := hcc.resolve_left hcc'
      have hne : C ≠ C' := fun z => hcc' (O.kls.inj c c' C hc (z ▸ hc'))
      exact binop_K1 I.kIn J J'.type hne (O.kls.first c C hc) (O.non c' C' hc' n1 n2) he hfn cl2
  · obtain ⟨C2, fa, fd, ps, hc2, he, hfn, G, hb⟩ := (O.rev c' f h4).ex
    rw [hc'] at hc2; cases hc2
    obtain ⟨C3, fa3, _, _, hc3, he3, _, _, _⟩ := (O.fwd c' g h3).ex
    rw [hc'] at hc3; cases hc3
    have cl := sp_call G hb hr rfl I (.cons ry (.cons rx .nil)) (passAt tk σ) sp
    have cl2 : wpAny (model X.prog X.w) X.A (call (.ref fa) [.ref py, .ref px]) (PySem.W.CmpBack (EP X pins σ Q)) X.xe s := wpAny_mono cl (fun w s' ⟨v', H', J2, rv, q⟩ => cmpBack_of rv ⟨v', H', J2, rv, q⟩) fun _ _ z => z
    have hne : C ≠ C' := fun z => by
      have := O.kls.inj c c' C hc (z ▸ hc')
      subst this
      rw [h1] at h3; cases h3
    exact binop_K2 I.kIn J.type J' hne (O.kls.first c' C' hc') (O.non c C hc h1 h2) he3 he hfn cl2
theorem read_op {fw rv : String → Option Fn} {g : D → D → Option D} {r0 : R2} (hp : Prim2 B g r0) (h : tE B W (mOp2 (selOp fw rv) g ma mb) σ H Q) : tOpS (fun σ x y H Q => r0 x y H Q ∨ rOp B fw rv (WE W) σ x y H Q) (tE B W ma) (tE B W mb) σ H Q := by
  obtain ⟨F, env, S, h⟩ := h
  refine tE.two (g := opP (selOp fw rv) g) S h fun x y e2 F2 H2 v w s2 m2 o2 rv' rw' k2 => ?_
  unfold opP at k2
  cases qa : view e2 x with
  | none => rw [qa] at k2; exact k2.elim
  | some a =>
    cases qb : view e2 y with
    | none => rw [qa, qb] at k2; exact k2.elim
    | some b =>
      rw [qa, qb] at k2
      have sa := m2.view rv' qa
      have sb := m2.view rw' qb
      dsimp only at k2
      cases qs : selOp fw rv a b with
      | none =>
        rw [qs] at k2
        left
        have k3 : Post B W F2 e2 σ H2 (fun r _ F' H' => ∀ v, OpdRel B F' σ v r → Q v H') (mD (AN.ap2 g x y) e2) := k2
        obtain ⟨a', b', z, ea, eb, ez, k4⟩ := (Post.bind m2 k3).ap2
        refine hp F2 H2 a' b' z v w Q m2.hold (m2.view rv' ea) (m2.view rw' eb) ez fun u F3 H3 s3 h3 rz => ?_
        have m3 := m2.step0 s3 h3
        exact k4 F3 H3 s3.any m3 (EnvLe.refl _) F3 H3 (Step.refl _ _ _) m3 (EnvLe.refl _) u rz
      | some pr =>
        right
        rw [qs] at k2
        obtain ⟨f, sw⟩ := pr
        cases a with
        | obj c fs =>
          cases b with
          | obj c' gs =>
            obtain ⟨px, C, dx, hs, rfl, hc, hx, _⟩ := sa
            obtain ⟨py, C', dy, hs', rfl, hc', hy, _⟩ := sb
            refine ⟨c, C, c', C', px, py, dx, dy, hs, hs', f, rfl, rfl, hc, hc', hx, hy, ?_⟩
            have qs' := qs
            unfold selOp at qs'
            dsimp only at qs'
            cases qf : fw c with
            | some f0 =>
              rw [qf] at qs'
              dsimp only at qs'
              by_cases hcc : c = c'
              · rw [if_pos hcc] at qs'; cases qs'
                exact .inl ⟨rfl, .inl hcc, callD_read m2 (.cons rv' (.cons rw' .nil)) k2⟩
              · rw [if_neg hcc] at qs'
                cases q1 : fw c' with
                | some _ => rw [q1] at qs'; cases qs'
                | none =>
                  cases q2 : rv c' with
                  | some _ => rw [q1, q2] at qs'; cases qs'
                  | none =>
                    rw [q1, q2] at qs'; cases qs'
                    exact .inl ⟨rfl, .inr ⟨rfl, rfl⟩, callD_read m2 (.cons rv' (.cons rw' .nil)) k2⟩
            | none =>
              rw [qf] at qs'
              dsimp only at qs'
              cases q0 : rv c with
              | some _ => rw [q0] at qs'; cases qs'
              | none =>
                cases q1 : fw c' with
                | none => rw [q0, q1] at qs'; cases qs'
                | some g0 =>
                  cases q2 : rv c' with
                  | none => rw [q0, q1, q2] at qs'; cases qs'
                  | some f0 =>
                    rw [q0, q1, q2] at qs'; cases qs'
                    exact .inr ⟨rfl, rfl, ⟨g0, rfl⟩, rfl, callD_read m2 (.cons rw' (.cons rv' .nil)) k2⟩
          | _ => cases qs
        | _ => cases qs
theorem de_opO {op : Operator} {fw rv : String → Option Fn} {g : D → D → Option D} {r0 : R2} (O : OpF X.prog X.w X.K X.mg X.base B op k fw rv) (hr : Room k X.A) (tk : Takes X W) (ho : OpR X (binaryOp op) r0) (hp : Prim2 B g r0) (ha : DE B X W a ma) (hb : DE B X W b mb) :
    DE B X W (.BinOp a op b pos) (mOp2 (selOp fw rv) g ma mb) := PE.imp (pe_opS (OpS.or ho (op_ownOp O hr tk)) ha hb) fun σ H Q h => read_op hp h
end
end AN

set_option Elab.async false
set_option maxRecDepth 100000
set_option autoImplicit false
set_option linter.unusedVariables false
/-! e[i], len(e), x in e, e.f by own methods -/
namespace AN
open PySem PySem.Spec PyProof.Rows L2
section
variable {B : Bx} {X : Cx} {W : WX} {F H F1 H1 : Hp} {env e1 : AN.Env} {σ : L2.St} {Q : VK} {a b e : Expr} {ma mb : M Opd} {pos p : Pos} {k : Nat}
/-! ### e[i] -/
def IxS (X : Cx) (r : RS) : Prop := ∀ (value slice : Expr) (pins : List (Addr × Obj)) (s : Shared) (σ : L2.St) (H : Hp) (x y : V) (v u : Value) (Q : VK), Inv X pins σ H s → RelV x v → RelV y u → r σ x y H Q →
  subscripted slice false v u = operate [v, u] (getItem v u) → subscripted slice true v u = runValue (.builtin "lifetime.subscript" ⟨[v, u], []⟩) → wpAny (model X.prog X.w) X.A (subscriptTail value slice v u) (EP X pins σ Q) X.xe s
theorem IxS.or {r : R2} {r' : RS} (h : IxR X r) (h' : IxS X r') : IxS X (fun σ x y H Q => r x y H Q ∨ r' σ x y H Q) := fun value slice pins s σ H x y v u Q I rx ry q h1 h2 => by
  rcases q with q | q
  · exact h value slice pins s σ H x y v u Q I rx ry q h1
  · exact h' value slice pins s σ H x y v u Q I rx ry q h1 h2
theorem pe_ixS {r : RS} {ta tb : TE} (hr : IxS X r) (ha : PE X a ta) (hb : PE X b tb) (hs : PlainIx b) (hs2 : ∀ o i, subscripted b true o i = runValue (.builtin "lifetime.subscript" ⟨[o, i], []⟩)) : PE X (.Subscript a b pos) (tOpS r ta tb) := by
  refine ⟨fun pins s σ H Q I h => ?_⟩
  exact Subscript_ (binT ha hb I h fun v u s2 x y H2 I2 rx ry q => hr a b pins s2 σ H2 x y v u Q I2 rx ry q (hs _ _) (hs2 _ _))
/-- a class with its own e[i] -/
structure GtC (P : Program) (w : World) (K : PySem.W.Frag) (mg : Str → Option Value) (base : Heap) (B : Bx) (c : String) (k : Nat) (f : Fn) : Prop where
  ex : ∃ C fa fd ps, B.cls c = some C ∧ PySem.W.findIn K (.ref C) "__getitem__" = some (some (.ref fa)) ∧ PySem.W.isFn K (.ref fa) = true ∧ PySem.W.fnIn K fa = true ∧ FnOk P w K mg base (L2.CX P w) k fa fd ps (spOf B 2 f) ∧ Binds K fd ps []
def ixP (t : String → Option Fn) (g : D → D → Option D) (x y : Opd) : M Opd := fun env => match view env x with
  | some (.obj c _) => (match t c with
    | some f => callD 2 f [x, y] env
    | none => .bad)
  | some _ => mD (ap2 g x y) env
  | none => .bad
def mIxO (t : String → Option Fn) (g : D → D → Option D) (ma mb : M Opd) : M Opd := M.bind ma fun x => M.bind mb fun y => ixP t g x y
def rIxO (B : Bx) (t : String → Option Fn) (E : L2.St → XK) : RS := fun σ x y H Q => ∃ c C px dx fs f, x = .ref px ∧ B.cls c = some C ∧ H px = some (.ins C dx fs) ∧ t c = some f ∧ spOf B 2 f [x, y] H Q (E σ)
theorem ix_own {t : String → Option Fn} (ht : ∀ c f, t c = some f → GtC X.prog X.w X.K X.mg X.base B c k f) (hr : Room (k + 1) X.A) (tk : Takes X W) : IxS X (rIxO B t (WE W)) := by
  intro value slice pins s σ H x y u v Q I rx ry h h1 h2
  obtain ⟨c, C, px, dx, fs, f, rfl, hc, hx, hf, sp⟩ := h
  cases (show u = Value.ref px from rx)
  obtain ⟨mA, J, _⟩ := ins_get I.hok hx
  obtain ⟨od, J, _⟩ := J.look
  obtain ⟨m, fr⟩ := I.fr
  obtain ⟨C2, fa, fd, ps, hc2, he, hfn, hfn2, G, hb⟩ := (ht c f hf).ex
  rw [hc] at hc2; cases hc2
  exact PySem.W.sub_K fr I.ok.mod.kin J he hfn2 hfn (sp_call G hb hr.in1 rfl I (.cons rx (.cons ry .nil)) (passAt tk σ) sp) h2
theorem read_ix {t : String → Option Fn} {g : D → D → Option D} {r0 : R2} (hp : Prim2 B g r0) (h : tE B W (mIxO t g ma mb) σ H Q) : tOpS (fun σ x y H Q => r0 x y H Q ∨ rIxO B t (WE W) σ x y H Q) (tE B W ma) (tE B W mb) σ H Q := by
  obtain ⟨F, env, S, h⟩ := h
  refine tE.two (g := ixP t g) S h fun x y e2 F2 H2 v w s2 m2 o2 rv' rw' k2 => ?_
  unfold ixP at k2
  cases qa : view e2 x with
  | none => rw [qa] at k2; exact k2.elim
  | some a =>
    rw [qa] at k2
    have sa := m2.view rv' qa
    have plain : Post B W F2 e2 σ H2 (fun r _ F' H' => ∀ v, OpdRel B F' σ v r → Q v H') (mD (AN.ap2 g x y) e2) → r0 v w H2 Q ∨ rIxO B t (WE W) σ v w H2 Q := fun k3 => by
      left
      obtain ⟨a', b', z, ea, eb, ez, k4⟩ := (Post.bind m2 k3).ap2
      refine hp F2 H2 a' b' z v w Q m2.hold (m2.view rv' ea) (m2.view rw' eb) ez fun u F3 H3 s3 h3 rz => ?_
      have m3 := m2.step0 s3 h3
      exact k4 F3 H3 s3.any m3 (EnvLe.refl _) F3 H3 (Step.refl _ _ _) m3 (EnvLe.refl _) u rz
    cases a with
    | obj c fs =>
      right
      dsimp only at k2
      cases qt : t c with
      | none => rw [qt] at k2; exact k2.elim
      | some f =>
        rw [qt] at k2
        obtain ⟨px, C, dx, hs, rfl, hc, hx, _⟩ := sa
        exact ⟨c, C, px, dx, hs, f, rfl, hc, hx, qt, callD_read m2 (.cons rv' (.cons rw' .nil)) k2⟩
    | _ => exact plain k2
theorem de_ixO {t : String → Option Fn} {g : D → D → Option D} {r0 : R2} (ht : ∀ c f, t c = some f → GtC X.prog X.w X.K X.mg X.base B c k f) (hr : Room (k + 1) X.A) (tk : Takes X W) (ho : IxR X r0) (hp : Prim2 B g r0) (ha : DE B X W a ma) (hb : DE B X W b mb) (hs : PlainIx b)
    (hs2 : ∀ o i, subscripted b true o i = runValue (.builtin "lifetime.subscript" ⟨[o, i], []⟩)) : DE B X W (.Subscript a b pos) (mIxO t g ma mb) := PE.imp (pe_ixS (IxS.or ho (ix_own ht hr tk)) ha hb hs hs2) fun σ H Q h => read_ix hp h
/-! ### len(e) -/
def dLenO (t : String → Option Fn) (a : D) : Option D := match a with
  | .obj c _ => (t c).bind fun f => match f [.fz a] with
    | .ok (.fz (.int (.ofNat n))) _ => if n ≤ 100000 then some (.int (.ofNat n)) else none
    | _ => none
  | _ => dLen a
def rLenO (P : Program) (w : World) (K : PySem.W.Frag) (mg : Str → Option Value) (base : Heap) (B : Bx) (k : Nat) : List V → Hp → VK → Prop := fun xs H Q => ∃ c C f a dx fs n, xs = [.ref a] ∧ B.cls c = some C ∧ SpC P w K mg base B c "__len__" 1 k f ∧ H a = some (.ins C dx fs) ∧ (0 ≤ n ∧ n < 2 ^ 63) ∧
  spOf B 1 f xs H (fun v H' => v = .int n ∧ Q v H') E0
theorem call_lenO (hr : Room (k + 1) X.A) : CallR X (.builtin "len") (rLenO X.prog X.w X.K X.mg X.base B k) := by
  intro pins s σ H xs us Q I r h
  obtain ⟨c, C, f, a, dx, fs, n, rfl, hc, ⟨C', fa, fd, ps, hc', he, hf, G, hb⟩, ha, hn, sp⟩ := h
  rw [hc] at hc'; cases hc'
  cases r with
  | cons r0 r1 =>
    cases r1
    rename_i u
    cases (show u = Value.ref a from r0)
    obtain ⟨mA, J, _⟩ := ins_get I.hok ha
    obtain ⟨od, J, _⟩ := J.look
    obtain ⟨m, fr⟩ := I.fr
    refine PySem.W.len_K fr I.ok.mod.kin J he hf (wpAny_mono (sp_call G hb hr.in1 rfl I (.cons r0 .nil) passE0 sp) (fun w s' q => ?_) fun _ _ z => z)
    obtain ⟨v', H', J', rv, rfl, q⟩ := q
    obtain ⟨t, rfl⟩ := (show ∃ t, w = Value.int n t from rv)
    exact ⟨hn, .int n, H', J'.tok _, ⟨_, rfl⟩, q⟩
theorem p_lenO {t : String → Option Fn} (hK : X.K = B.K) (ht : ∀ c f, t c = some f → SpC X.prog X.w X.K X.mg X.base B c "__len__" 1 k f) : Prim1 B (dLenO t) (fun x H Q => (∃ y n, [x] = [y] ∧ LenV X.K y H n ∧ Q (.int n) H) ∨ rLenO X.prog X.w X.K X.mg X.base B k [x] H Q) := fun F H a z x Q hh sa e q => by
  have plain : dLen a = some z → (∃ y n, [x] = [y] ∧ LenV X.K y H n ∧ Q (.int n) H) ∨ rLenO X.prog X.w X.K X.mg X.base B k [x] H Q := fun e => .inl (p_len hK F H a z x Q hh sa e q)
  cases a with
  | obj c fs =>
    right
    unfold dLenO at e
    dsimp only at e
    obtain ⟨f, ef, e⟩ := Option.bind_eq_some_iff.mp e
    have E := ht c f ef
    obtain ⟨C, _, _, _, hc, _⟩ := id E.ex
    obtain ⟨p, C', dx, gs, rfl, hc', hp, rf⟩ := id sa
    rw [hc] at hc'; cases hc'
    cases qf : f [.fz (.obj c fs)] with
    | bad => rw [qf] at e; cases e
    | exc _ _ _ => rw [qf] at e; cases e
    | ok rt as =>
      rw [qf] at e
      cases rt with
      | ow _ => cases e
      | fz d =>
        cases d with
        | int n =>
          cases n with
          | negSucc _ => cases e
          | ofNat n =>
            dsimp only at e
            by_cases hn : n ≤ 100000
            · rw [if_pos hn] at e; cases e
              exact ⟨c, C, f, p, dx, gs, _, rfl, hc, E, hp, ⟨Int.natCast_nonneg _, Int.lt_of_le_of_lt (Int.ofNat_le.mpr hn) (by decide)⟩, own_sp1 hh sa qf rfl q⟩
            · rw [if_neg hn] at e; cases e
        | _ => cases e
  | _ => exact plain e
theorem de_lenO {t : String → Option Fn} (hr : Room (k + 1) X.A) (hK : X.K = B.K) (ht : ∀ c f, t c = some f → SpC X.prog X.w X.K X.mg X.base B c "__len__" 1 k f) (ha : DE B X W a ma) (hm : X.mg "len" = none) (hg : Gl X "len" := by rfl) (he : starEach [a] X.env = (false, eval a X.env) :: starEach [] X.env := by rfl) (hpl : (backTo pos (starEach [] X.env)).any (·.1) = false := by rfl) :
    DE B X W (.Call (.Name "len" p) [a] [] pos) (mD (mB1 (dLenO t) ma)) := de_b1 (CallR.or call_len (call_lenO hr)) (p_lenO hK ht) ha hm (by decide +kernel) hg (by decide) (by decide) he hpl
/-! ### x in e -/
def dInO (t : String → Option Fn) (neg : Bool) (g : D → D → Option D) (x e : D) : Option D := match e with
  | .obj c _ => (t c).bind fun f => match f [.fz e, .fz x] with
    | .ok (.fz (.bl r)) _ => some (.bl (if neg then !r else r))
    | _ => none
  | _ => g x e
def rInO (P : Program) (w : World) (K : PySem.W.Frag) (mg : Str → Option Value) (base : Heap) (B : Bx) (k : Nat) (neg : Bool) : R2 := fun x y H Q => ∃ c C f a dx fs z, y = .ref a ∧ B.cls c = some C ∧ SpC P w K mg base B c "__contains__" 2 k f ∧ H a = some (.ins C dx fs) ∧
  spOf B 2 f [y, x] H (fun v H' => v = .bl z ∧ Q (.bl (if neg then !z else z)) H') E0
theorem op_inO (hr : Room k X.A) : OpR X (compareOp .In) (rInO X.prog X.w X.K X.mg X.base B k false) := by
  intro pins s σ H x y u v Q I rx ry h
  obtain ⟨c, C, f, a, dx, fs, z, rfl, hc, ⟨C', fa, fd, ps, hc', he, hf, G, hb⟩, ha, sp⟩ := h
  rw [hc] at hc'; cases hc'
  cases (show v = Value.ref a from ry)
  obtain ⟨mA, J, _⟩ := ins_get I.hok ha
  obtain ⟨od, J, _⟩ := J.look
  obtain ⟨m, fr⟩ := I.fr
  refine PySem.W.in_K fr I.ok.mod.kin J he hf (wpAny_mono (sp_call G hb hr rfl I (.cons ry (.cons rx .nil)) passE0 sp) (fun w s' q => ?_) fun _ _ z => z)
  obtain ⟨v', H', J', rv, rfl, q⟩ := q
  cases (show w = Value.bool z from rv)
  exact wpAny_truthy_bool ⟨.bl z, H', J', rfl, q⟩
theorem op_notInO (hr : Room k X.A) : OpR X (compareOp .NotIn) (rInO X.prog X.w X.K X.mg X.base B k true) := by
  intro pins s σ H x y u v Q I rx ry h
  obtain ⟨c, C, f, a, dx, fs, z, rfl, hc, ⟨C', fa, fd, ps, hc', he, hf, G, hb⟩, ha, sp⟩ := h
  rw [hc] at hc'; cases hc'
  cases (show v = Value.ref a from ry)
  obtain ⟨mA, J, _⟩ := ins_get I.hok ha
  obtain ⟨od, J, _⟩ := J.look
  obtain ⟨m, fr⟩ := I.fr
  refine PySem.W.notIn_K fr I.ok.mod.kin J he hf (wpAny_mono (sp_call G hb hr rfl I (.cons ry (.cons rx .nil)) passE0 sp) (fun w s' q => ?_) fun _ _ z => z)
  obtain ⟨v', H', J', rv, rfl, q⟩ := q
  cases (show w = Value.bool z from rv)
  exact wpAny_truthy_bool ⟨.bl (!z), H', J', rfl, q⟩
theorem p_inO {t : String → Option Fn} {neg : Bool} {g : D → D → Option D} {r0 : R2} (ht : ∀ c f, t c = some f → SpC X.prog X.w X.K X.mg X.base B c "__contains__" 2 k f) (h0 : Prim2 B g r0) :
    Prim2 B (dInO t neg g) (fun x y H Q => r0 x y H Q ∨ rInO X.prog X.w X.K X.mg X.base B k neg x y H Q) := fun F H a b z x y Q hh sa sb e q => by
  have plain : g a b = some z → r0 x y H Q ∨ rInO X.prog X.w X.K X.mg X.base B k neg x y H Q := fun e => .inl (h0 F H a b z x y Q hh sa sb e q)
  cases b with
  | obj c fs =>
    right
    unfold dInO at e
    dsimp only at e
    obtain ⟨f, ef, e⟩ := Option.bind_eq_some_iff.mp e
    have E := ht c f ef
    obtain ⟨C, _, _, _, hc, _⟩ := id E.ex
    obtain ⟨p, C', dx, gs, rfl, hc', hp, rf⟩ := id sb
    rw [hc] at hc'; cases hc'
    cases qf : f [.fz (.obj c fs), .fz a] with
    | bad => rw [qf] at e; cases e
    | exc _ _ _ => rw [qf] at e; cases e
    | ok rt as =>
      rw [qf] at e
      cases rt with
      | ow _ => cases e
      | fz d =>
        cases d with
        | bl r =>
          cases e
          refine ⟨c, C, f, p, dx, gs, r, rfl, hc, E, hp, ?_⟩
          have key := own_sp2 (Q := fun v H' => Q (.bl (if neg then !r else r)) H') hh sb sa qf rfl fun v F' H' s' h' _ => q _ F' H' s' h' rfl
          exact key
        | _ => cases e
  | _ => exact plain e
/-! ### e.f, a field or a property -/
def noX {α : Type} (m : M α) : M α := fun env => match m env with
  | .ok a e => .ok a e
  | _ => .bad
theorem Post.noX {α : Type} {W' : WX} {m : M α} {k : α → AN.Env → Hp → Hp → Prop} (h : Post B W F env σ H k (noX m env)) : Post B W' F env σ H k (m env) := by
  unfold AN.noX at h
  cases q : m env with
  | bad => rw [q] at h; exact h.elim
  | exc c d e => rw [q] at h; exact h.elim
  | ok a e => rw [q] at h; exact h
structure PrC (P : Program) (w : World) (K : PySem.W.Frag) (mg : Str → Option Value) (base : Heap) (B : Bx) (c : String) (f : Str) (k : Nat) (g : Fn) : Prop where
  ex : ∃ C p fa fd ps, B.cls c = some C ∧ PropOf K C f p fa ∧ FnOk P w K mg base (L2.CX P w) k fa fd ps (spOf B 1 g) ∧ Binds K fd ps []
def atP (t : String → Option Fn) (ok : String → Bool) (f : Str) (x : Opd) : M Opd := fun env => match view env x with
  | some (.obj c fs) => (match t c with
    | some g => noX (callD 1 g [x]) env
    | none => mD (ap1 (dFld ok f) x) env)
  | _ => .bad
def mAt (t : String → Option Fn) (ok : String → Bool) (f : Str) (ma : M Opd) : M Opd := M.bind ma fun x => atP t ok f x
def tAtO (P : Program) (w : World) (K : PySem.W.Frag) (mg : Str → Option Value) (base : Heap) (B : Bx) (k : Nat) (f : Str) (ta : TE) : TE := fun σ H Q => ta σ H fun x H1 =>
  (∃ a C dx fs v, x = .ref a ∧ H1 a = some (.ins C dx fs) ∧ Cls K C ∧ NoAttr K C f ∧ fs.lookup f = some v ∧ Q v H1) ∨ (∃ c C g a dx fs, x = .ref a ∧ B.cls c = some C ∧ Cls K C ∧ H1 a = some (.ins C dx fs) ∧ PrC P w K mg base B c f k g ∧ spOf B 1 g [x] H1 Q E0)
theorem pe_atO {f : Str} {ta : TE} (hr : Room (k + 1) X.A) (he : PE X e ta) (hab : attributeBase e f X.env (eval e X.env) = eval e X.env) : PE X (.Attribute e f pos) (tAtO X.prog X.w X.K X.mg X.base B k f ta) := by
  refine ⟨fun pins s σ H Q I h => ?_⟩
  refine attr_of hab (thn (he.run pins s σ H _ I h) fun u s1 ⟨x, H1, I1, rx, q⟩ => ?_)
  rcases q with ⟨a, C, dx, fs, v, rfl, ea, c, n, l, q⟩ | ⟨c, C, g, a, dx, fs, rfl, hc, cl, ea, ⟨C', p, fa, fd, ps, hc', hp, G, hb⟩, sp⟩
  · cases (show u = Value.ref a from rx)
    exact getattr_ok I1 ea c n l fun u' s2 I2 ru => ⟨v, H1, I2, ru, q⟩
  · rw [hc] at hc'; cases hc'
    cases (show u = Value.ref a from rx)
    exact getprop_ok I1 ea cl hp G hr hb .nil passL sp
theorem de_atO {t : String → Option Fn} {ok : String → Bool} {f : Str} (ht : ∀ c g, t c = some g → PrC X.prog X.w X.K X.mg X.base B c f k g) (hr : Room (k + 1) X.A) (hC : Ocs B X.K) (hf : Free B X.K ok f) (ha : DE B X W a ma) (hb : attributeBase a f X.env (eval a X.env) = eval a X.env := by rfl) :
    DE B X W (.Attribute a f pos) (mAt t ok f ma) := PE.imp (pe_atO hr ha hb) fun σ H Q h => by
  obtain ⟨F, env, S, h⟩ := h
  refine tE.one (g := atP t ok f) S h fun x e1 F1 H1 v s1 m1 o1 rv k1 => ?_
  unfold atP at k1
  cases qa : view e1 x with
  | none => rw [qa] at k1; exact k1.elim
  | some a =>
    rw [qa] at k1
    have sa := m1.view rv qa
    cases a with
    | obj c fs =>
      dsimp only at k1
      cases qt : t c with
      | none =>
        rw [qt] at k1
        left
        obtain ⟨a', z, ea, ez, k4⟩ := (Post.bind m1 k1).ap1
        refine p_fld hC hf F1 H1 a' z v Q m1.hold (m1.view rv ea) ez fun u F3 H3 s3 h3 rz => ?_
        have m3 := m1.step0 s3 h3
        exact k4 F3 H3 s3.any m3 (EnvLe.refl _) F3 H3 (Step.refl _ _ _) m3 (EnvLe.refl _) u rz
      | some g =>
        rw [qt] at k1
        right
        obtain ⟨px, C, dx, hs, rfl, hc, hx, _⟩ := sa
        exact ⟨c, C, g, px, dx, hs, rfl, hc, (hC c C hc).cl, hx, ht c g qt, callD_read (W := fun _ _ _ _ => False) m1 (.cons rv .nil) (Post.noX k1)⟩
    | _ => exact k1.elim
end
end AN

set_option Elab.async false
set_option maxRecDepth 100000
set_option autoImplicit false
set_option linter.unusedVariables false
/-! stars; calls without arguments; methods -/
namespace AN
open PySem PySem.Spec PyProof.Rows L2
def rowOf : D → Option (List D)
  | .lst xs => some xs
  | .tup xs => some xs
  | _ => none
def mAS (ma : M Opd) (ms : M (List Opd)) : M (List Opd) := M.bind ma fun x => M.bind (ap1 rowOf x) fun ds => M.bind ms fun xs => M.pure (ds.map .d ++ xs)
def makeSt (c : String) (f : Fn) (xs : List Opd) : M O := fun env => match frzs xs env with
  | .ok ds e1 => if ds.length ≤ sizeLine then makeP c 1 f [.d (.tup ds)] e1 else .bad
  | _ => .bad
def mMakeSt (c : String) (f : Fn) (ms : M (List Opd)) : M O := M.bind ms fun xs => makeSt c f xs
section
variable {B : Bx} {X : Cx} {W : WX} {F H F1 H1 : Hp} {env e1 : AN.Env} {σ : L2.St} {Q : VK} {a b e o : Expr} {es : List Expr} {ma mb mo : M Opd} {ms : M (List Opd)} {pos p apos : Pos} {k : Nat}
theorem opds_of {ds : List D} {vs : List V} (r : RepL B F ds vs) : OpdsRel B F σ vs (ds.map .d) := by
  induction ds generalizing vs with
  | nil => rw [show vs = [] from r]; exact .nil
  | cons d ds ih =>
    obtain ⟨v, vs', rfl, h1, h2⟩ := r
    exact .cons h1 (ih h2)
theorem OpdsRel.append {vs ws : List V} {xs ys : List Opd} (h : OpdsRel B F σ vs xs) (h' : OpdsRel B F σ ws ys) : OpdsRel B F σ (vs ++ ws) (xs ++ ys) := by
  induction h with
  | nil => exact h'
  | cons h _ ih => exact .cons h ih
theorem das (hK : X.K = B.K) (ha : DE B X W e ma) (hr : DA B X W es ms) (hs : starEach (.Starred e p :: es) X.env = (true, eval e X.env) :: starEach es X.env := by rfl) : DA B X W (.Starred e p :: es) (mAS ma ms) :=
  PA.imp (StX.pa_star ha hr hs) fun σ H Q h => by
    obtain ⟨F, env, S, h⟩ := h
    refine tE.one S h fun x e1 F1 H1 v s1 m1 o1 rv k1 => ?_
    obtain ⟨a, ds, ea, er, k2⟩ := (Post.bind m1 k1).ap1
    have sa := m1.view rv ea
    have key : ∃ p xs, v = V.ref p ∧ (SqT X.K H1 p xs ∨ SqL X.K H1 p xs) ∧ RepL B F1 ds xs := by
      cases a with
      | lst xs => cases er; obtain ⟨p, vs, rfl, a, _, r⟩ := sa; exact ⟨p, vs, rfl, .inr (by rw [hK]; exact a), r⟩
      | tup xs => cases er; obtain ⟨p, vs, rfl, a, _, r⟩ := sa; exact ⟨p, vs, rfl, .inl (by rw [hK]; exact a.sq m1.hold), r⟩
      | _ => cases er
    obtain ⟨p, xs, rfl, sq, r⟩ := key
    refine ⟨p, xs, rfl, sq, F1, e1, m1, (Post.bind m1 (Post.here m1 k2)).mono fun ys e2 F2 H2 s2 m2 o2 k3 ws rws => ?_⟩
    exact Post.here m2 k3 (xs ++ ws) ((opds_of (r.mono s2.le)).append rws)
/-! ### C(e, ..) with def __init__(self, *v) -/
def spSt (B : Bx) (f : Fn) : Sp := fun vs H Q E => ∃ ws rest, vs = ws ++ rest ∧ ws.length = 1 ∧ rest.length ≤ sizeLine ∧ ∀ p, H p = Option.none → spOf B 2 f (ws ++ [V.ref p]) (upd H p (.tup rest)) Q E
theorem upd_comm {H : Hp} {a b : Addr} {x y : HO} (h : a ≠ b) : upd (upd H a x) b y = upd (upd H b y) a x := by
  funext c
  by_cases h1 : c = a
  · subst h1; rw [upd_same, upd_ne h, upd_same]
  · by_cases h2 : c = b
    · subst h2; rw [upd_same, upd_ne h1, upd_same]
    · rw [upd_ne h2, upd_ne h1, upd_ne h1, upd_ne h2]
theorem makeSt_read {c : String} {C : Addr} {f : Fn} {xs : List Opd} {vs : List V} {k : O → AN.Env → Hp → Hp → Prop} (hc : B.cls c = some C) (S : Sim B F env σ H) (rs : OpdsRel B F σ vs xs) (h : Post B W F env σ H k (makeSt c f xs env))
    (hq : ∀ o e1 F1 H1, Step (Own env σ) F H F1 H1 → Sim B F1 e1 σ H1 → EnvLe env e1 → k o e1 F1 H1 → ∀ p, H p = none → F1 p = none → OAt B F1 H1 p o → Q (.ref p) H1) (x dx : Addr) (hx : H x = none) (hdx : H dx = none) (ne : dx ≠ x) :
    spSt B f (.ref x :: vs) (upd (upd H dx (.own x)) x (.ins C dx [])) (fun v H2 => v = .non ∧ Q (.ref x) H2) (WE W σ) := by
  unfold makeSt at h
  cases qf : frzs xs env with
  | bad => rw [qf] at h; exact h.elim
  | exc c d e' => rw [qf] at h; exact h.elim
  | ok ds e1 =>
    rw [qf] at h
    dsimp only at h
    obtain ⟨ds', e1', F1, s1, m1, l1, r1, q1⟩ := S.frzs (W := W) rs (k := fun d e _ _ => d = ds ∧ e = e1) (by rw [qf]; exact fun _ _ _ _ _ => ⟨rfl, rfl⟩)
    obtain ⟨rfl, rfl⟩ := q1
    by_cases hl : ds'.length ≤ sizeLine
    · rw [if_pos hl] at h
      refine ⟨[.ref x], vs, rfl, rfl, by rw [r1.length]; exact hl, fun p hp => ?_⟩
      have px : p ≠ x := fun z => by subst z; rw [upd_same] at hp; cases hp
      rw [upd_ne px] at hp
      have pd : p ≠ dx := fun z => by subst z; rw [upd_same] at hp; cases hp
      rw [upd_ne pd] at hp
      obtain ⟨s3, h3⟩ := step0_new (u := .tup vs) m1.hold hp
      have m3 := m1.step0 s3 h3
      have r3 : OpdsRel B (upd F1 p (.tup vs)) σ [V.ref p] [.d (.tup ds')] := .cons ⟨p, vs, rfl, .inl upd_same, hl, r1.mono s3.le⟩ .nil
      have st : Step (Own env σ) F H (upd F1 p (.tup vs)) (upd H p (.tup vs)) := s1.trans s3.any fun _ z => .inl (l1.own z)
      have h4 : Post B W (upd F1 p (.tup vs)) e1' σ (upd H p (.tup vs)) (fun o e2 F2 H2 => k o e2 F2 H2 ∧ EnvLe env e2 ∧ Step (Own env σ) F H F2 H2) (makeP c 1 f [.d (.tup ds')] e1') := by
        cases qm : makeP c 1 f [.d (.tup ds')] e1' with
        | bad => rw [qm] at h; exact h
        | ok o e2 =>
          rw [qm] at h
          intro F2 H2 a1 a2 a3
          have st2 := st.trans a1 fun b z => .inl (l1.own z)
          exact ⟨h F2 H2 st2 a2 (l1.trans a3), l1.trans a3, st2⟩
        | exc c2 d2 e2 =>
          rw [qm] at h
          obtain ⟨C2, fld, hb, h⟩ := h
          exact ⟨C2, fld, hb, fun F2 H2 dx' v a1 ⟨a2, a3⟩ hd hf h0 r => h F2 H2 dx' v (st.trans a1 fun b z => .inl (l1.own z)) ⟨a2, l1.trans a3⟩ hd hf (by
            cases q : H dx' with
            | none => rfl
            | some u =>
              obtain ⟨u', hu⟩ := st.stay dx' u q
              rw [h0] at hu; cases hu) r⟩
      have key := make_read (Q := Q) hc m3 r3 h4 (fun o e2 F2 H2 a1 a2 a3 ⟨k4, l4, st4⟩ p0 hp0 hf0 ho0 => hq o e2 F2 H2 st4 a2 l4 k4 p0 (by
        cases q : H p0 with
        | none => rfl
        | some u =>
          obtain ⟨u', hu⟩ := st.stay p0 u q
          rw [hp0] at hu; cases hu) hf0 ho0) x dx (by rw [upd_ne px.symm]; exact hx) (by rw [upd_ne pd.symm]; exact hdx) ne
      have e : upd (upd (upd H dx (.own x)) x (.ins C dx [])) p (.tup vs) = upd (upd (upd H p (.tup vs)) dx (.own x)) x (.ins C dx []) := by
        rw [upd_comm px.symm, upd_comm pd.symm]
      rw [e]
      exact key
    · rw [if_neg hl] at h; exact h.elim
theorem run_makeRS {pins : List (Addr × Obj)} {s : Shared} {us : List Value} {vs : List V} {C f : Addr} {sp : Sp} {E : XK} (M : Mk X.K C f) (F : FnR X.prog X.w X.K X.mg X.base (L2.CX X.prog X.w) k f sp) (hr : Room (k + 1) X.A) (hx : PassesAt (L2.CX X.prog X.w) X σ E) (I : Inv X pins σ H s) (r : Vals vs us)
    (h : ∀ x dx, H x = Option.none → H dx = Option.none → dx ≠ x → sp (V.ref x :: vs) (upd (upd H dx (.own x)) x (.ins C dx [])) (fun v H2 => v = .non ∧ Q (.ref x) H2) E) :
    wpAny (model X.prog X.w) X.A (call (.ref C) us) (EP X pins σ Q) X.xe s := by
  have hq := h (s.heap.objs.size + 1) s.heap.objs.size (I.hok.fresh (Nat.le_succ _)) (I.hok.fresh (Nat.le_refl _)) (Nat.ne_of_lt (Nat.lt_succ_self _))
  have I2 := Inv.made (C := C) I
  have r2 : Vals (V.ref (s.heap.objs.size + 1) :: vs) (Value.ref (s.heap.objs.size + 1) :: us) := .cons rfl r
  refine wpAny_call (make_map (f := f) I.kIn M.makes M.init (beq_iff_eq.mp M.fn) (codeAny_mono (F _ X.stack _ _ (Value.ref (s.heap.objs.size + 1) :: us) _ _ E (hr.make C us []) (I2.env0.make C us []) r2 hq) fun r s' hq' => ?_))
  cases r with
  | error e => exact hx pins _ _ e s' I2 hq'
  | ok fl =>
    cases fl with
    | ret u =>
      obtain ⟨v, H', I3, rv, ev, q3⟩ := I2.after hq'
      subst ev
      exact ⟨rv, ⟨V.ref (s.heap.objs.size + 1), H', I3, rfl, q3⟩⟩
    | next => exact False.elim hq'
    | brk => exact False.elim hq'
    | cont => exact False.elim hq'
structure MakSt (P : Program) (w : World) (K : PySem.W.Frag) (mg : Str → Option Value) (base : Heap) (B : Bx) (x : Str) (c : String) (k : Nat) (f : Fn) : Prop where
  ex : ∃ C fa, B.cls c = some C ∧ Mk K C fa ∧ FnR P w K mg base (L2.CX P w) k fa (spSt B f) ∧ mg x = some (.ref C)
variable {x : Str} {c : String} {f : Fn}
theorem mk_fin (tk : Takes X W) {C : Addr} (hc : B.cls c = some C) (h : tO B W (mMakeSt c f ms) σ H Q) : tA B W ms σ H fun vs H1 => ∀ x dx, H1 x = Option.none → H1 dx = Option.none → dx ≠ x → spSt B f (V.ref x :: vs) (upd (upd H1 dx (.own x)) x (.ins C dx [])) (fun v H2 => v = .non ∧ Q (.ref x) H2) (WE W σ) := by
  obtain ⟨F, env, S, h⟩ := h
  refine ⟨F, env, S, (Post.bind S h).mono fun xs e1 F1 H1 s1 m1 l1 k1 vs rvs => ?_⟩
  exact makeSt_read hc m1 rvs k1 fun o e2 F2 H2 s2 m2 l2 k2 p hp hf ho => k2 p (s1.back hp) hf ho
theorem do_makeSt (N : MakSt X.prog X.w X.K X.mg X.base B x c k f) (hr : Room (k + 1) X.A) (tk : Takes X W) (ha : DA B X W (e :: es) ms) (hg : Gl X x := by rfl) (hdb : (x == ("__debug__" : Str)) = false := by decide)
    (he : starEach (e :: es) X.env = (false, eval e X.env) :: starEach es X.env := by rfl) (hpl : (backTo pos (starEach es X.env)).any (·.1) = false := by rfl) : DO B X W (.Call (.Name x p) (e :: es) [] pos) (mMakeSt c f ms) := by
  obtain ⟨C, fa, hc, Mk1, G, hm⟩ := N.ex
  refine ⟨fun pins s σ H Q I h => wpAny_Call_Name_kw (ld_glob I hg hm ?_ hdb)⟩
  refine PySem.W.callWith_K (h₀ := X.base) I.ok.mod.kin Mk1.kp (thn (ha.run pos pins s σ H _ I (mk_fin tk hc h)) fun us s1 ⟨vs, H1, I1, r, q⟩ => ⟨I1.kIn, ?_⟩) he hpl
  exact run_makeRS Mk1 G hr (passAt tk σ) I1 r q
theorem do_makeSt0 (N : MakSt X.prog X.w X.K X.mg X.base B x c k f) (hr : Room (k + 1) X.A) (tk : Takes X W) (hg : Gl X x := by rfl) (hdb : (x == ("__debug__" : Str)) = false := by decide) : DO B X W (.Call (.Name x p) [] [] pos) (mMakeSt c f mA0) := by
  obtain ⟨C, fa, hc, Mk1, G, hm⟩ := N.ex
  refine ⟨fun pins s σ H Q I h => wpAny_Call_Name_kw (ld_glob I hg hm ?_ hdb)⟩
  refine PySem.W.callWith_K0 I.kIn Mk1.kp (run_makeRS (us := []) Mk1 G hr (passAt tk σ) I .nil ?_)
  obtain ⟨F, env, S, h⟩ := mk_fin tk hc h
  exact Post.here S h [] .nil
theorem do_makeSt1 {sp_ : Pos} (N : MakSt X.prog X.w X.K X.mg X.base B x c k f) (hr : Room (k + 1) X.A) (tk : Takes X W) (hK : X.K = B.K) (ha : DE B X W e ma) (hg : Gl X x := by rfl) (hdb : (x == ("__debug__" : Str)) = false := by decide)
    (hst : starEach [.Starred e sp_] X.env = [(true, eval e X.env)] := by rfl) : DO B X W (.Call (.Name x p) [.Starred e sp_] [] pos) (mMakeSt c f (mAS ma mA0)) := by
  obtain ⟨C, fa, hc, Mk1, G, hm⟩ := N.ex
  refine ⟨fun pins s σ H Q I h => wpAny_Call_Name_kw (ld_glob I hg hm ?_ hdb)⟩
  have hh := mk_fin tk hc h
  have h2 : tE B W ma σ H fun y H1 => ∃ a xs, y = V.ref a ∧ (SqT X.K H1 a xs ∨ SqL X.K H1 a xs) ∧ ∀ x dx, H1 x = Option.none → H1 dx = Option.none → dx ≠ x → spSt B f (V.ref x :: xs) (upd (upd H1 dx (.own x)) x (.ins C dx [])) (fun v H2 => v = .non ∧ Q (.ref x) H2) (WE W σ) := by
    obtain ⟨F, env, S, h⟩ := hh
    refine tE.one S h fun x e1 F1 H1 v s1 m1 o1 rv k1 => ?_
    obtain ⟨a, ds, ea, er, k2⟩ := (Post.bind m1 k1).ap1
    have sa := m1.view rv ea
    have key : ∃ p xs, v = V.ref p ∧ (SqT X.K H1 p xs ∨ SqL X.K H1 p xs) ∧ RepL B F1 ds xs := by
      cases a with
      | lst xs => cases er; obtain ⟨p, vs, rfl, a, _, r⟩ := sa; exact ⟨p, vs, rfl, .inr (by rw [hK]; exact a), r⟩
      | tup xs => cases er; obtain ⟨p, vs, rfl, a, _, r⟩ := sa; exact ⟨p, vs, rfl, .inl (by rw [hK]; exact a.sq m1.hold), r⟩
      | _ => cases er
    obtain ⟨p, xs, rfl, sq, r⟩ := key
    refine ⟨p, xs, rfl, sq, ?_⟩
    have k3 := Post.here m1 k2
    have k4 : Post B W F1 e1 σ H1 _ ((M.pure (ds.map .d ++ []) : M (List Opd)) e1) := k3
    have k5 := Post.here m1 k4
    exact k5 xs (by rw [List.append_nil]; exact opds_of r)
  refine PySem.W.callWith_S (h₀ := X.base) I.ok.mod.kin Mk1.kp (thn (ha.run pins s σ H _ I h2) fun v s1 ⟨y, H1, I1, ry, a, xs, ey, hxs, q⟩ => ?_) hst
  subst ey
  obtain rfl : v = Value.ref a := ry
  exact StX.star_any I1 hxs fun us s2 I2 rv => ⟨I2.kIn, run_makeRS Mk1 G hr (passAt tk σ) I2 rv q⟩
end
end AN

set_option Elab.async false
set_option maxRecDepth 100000
set_option autoImplicit false
set_option linter.unusedVariables false
/-! def __init__(self, *v); calls without arguments; methods -/
namespace AN
open PySem PySem.Spec PyProof.Rows L2
section
variable {P : Program} {w : World} {K : PySem.W.Frag} {mg : Str → Option Value} {base : Heap} {B : Bx}
theorem fnSt_ok {x qual : Str} {st : Stmt} {f : Addr} {fd : FuncData} {N : List Str} {p1 pv : Str} {k n : Nat} {m : M Fl} (Fd : Fun K x qual st f fd) (S : FnScope N [p1, pv] (defScope st)) (hn : N.length - 2 = n)
    (hb0 : ∀ (kV doc pm : Value) (an : Option Addr) (cdv ct : Value) a, bindArgs (PySem.W.fnOf x qual (defArgs st) (defBody st) (defScope st) .none kV doc pm an cdv ct) ⟨[a], []⟩ = (newTuple [] >>= fun t => pure [(p1, a), (pv, t)]))
    (hb1 : ∀ (kV doc pm : Value) (an : Option Addr) (cdv ct : Value) a r rs, bindArgs (PySem.W.fnOf x qual (defArgs st) (defBody st) (defScope st) .none kV doc pm an cdv ct) ⟨a :: r :: rs, []⟩ = (newTuple (r :: rs) >>= fun t => pure [(p1, a), (pv, t)]))
    (hbody : ∀ (cdv : Value) (A : Around) (outer : List PySem.Env) (s : Shared) (H : Hp) (E : XK), Room k (A.deeper (envOfC qual (defScope st) s.heap.objs.size f cdv)) →
      Takes (cxOf (L2.CX P w) P w K mg base N qual (defScope st) f cdv A outer s H E) (fun cls d _ H => E cls d H) →
      PassesOwn (model P w) (A.deeper (envOfC qual (defScope st) s.heap.objs.size f cdv)) (envOfC qual (defScope st) s.heap.objs.size f cdv) (cxOf (L2.CX P w) P w K mg base N qual (defScope st) f cdv A outer s H E).xe →
      DSs B (cxOf (L2.CX P w) P w K mg base N qual (defScope st) f cdv A outer s H E) (fun cls d _ H => E cls d H) (defBody st) m) :
    FnR P w K mg base (L2.CX P w) (k + 1) f (spSt B (runF n m)) := by
  obtain ⟨oc, od, kV, doc, pm, an, cdv, ct, osl, rfl, lk, hcd⟩ := Fd.ex
  refine FnR.imp (StX.fn_star (ps := [p1]) (pv := pv) (sp := spOf B 2 (runF n m)) lk hcd S StX.cxUp (StX.bind_star1 (B := fun us => bindArgs _ ⟨us, []⟩) (hb0 kV doc pm an cdv ct) (hb1 kV doc pm an cdv ct)) fun A outer s H vs Q E hr h => ?_) fun vs H Q E h => h
  exact ⟨_, hbody cdv A outer s H E hr (takes_of rfl rfl rfl rfl) (passes_of rfl), spOf_body hn h⟩
end
section
variable {B : Bx} {X : Cx} {W : WX} {F H F1 H1 : Hp} {env e1 : AN.Env} {σ : L2.St} {Q : VK} {a b e o : Expr} {es : List Expr} {ma mb mo : M Opd} {ms : M (List Opd)} {pos p apos : Pos} {k n : Nat}
variable {fa : Addr} {fd : FuncData} {ps : List Str} {f : Fn} {x : Str}
/-! ### f() -/
theorem pe_callS0 {sp : Sp} {E : L2.St → XK} (G : FnOk X.prog X.w X.K X.mg X.base (L2.CX X.prog X.w) k fa fd ps sp) (hr : Room k X.A) (hg : Gl X x) (hm : X.mg x = some (.ref fa)) (hk : PySem.W.keepIn X.K (.ref fa) = true) (hb : Binds X.K fd ps []) (hx : ∀ σ, PassesAt (L2.CX X.prog X.w) X σ (E σ))
    (hdb : (x == ("__debug__" : Str)) = false := by decide) : PE X (.Call (.Name x p) [] [] pos) (fun σ H Q => sp [] H Q (E σ)) := by
  refine ⟨fun pins s σ H Q I h => ?_⟩
  refine wpAny_Call_Name_kw (ld_glob I hg hm ?_ hdb)
  exact PySem.W.callWith_K0 I.kIn hk (run_fnS (us := []) (vs := []) (E := E) G hr hb (hx σ) I .nil h)
theorem dc0 (C : Cal X.prog X.w X.K X.mg X.base B x k [] f) (hr : Room k X.A) (tk : Takes X W) (hg : Gl X x := by rfl) (hdb : (x == ("__debug__" : Str)) = false := by decide) : DE B X W (.Call (.Name x p) [] [] pos) (mCall 0 f mA0) := by
  obtain ⟨fa, fd, G, hm, hk, hb⟩ := C.ex
  exact PE.imp (pe_callS0 (E := WE W) G hr hg hm hk hb (fun σ => passAt tk σ) hdb) fun σ H Q h => by
    obtain ⟨F, env, S, h⟩ := call_de h
    exact Post.here S h [] .nil
theorem oc0 (C : Cal X.prog X.w X.K X.mg X.base B x k [] f) (hr : Room k X.A) (tk : Takes X W) (hg : Gl X x := by rfl) (hdb : (x == ("__debug__" : Str)) = false := by decide) : DO B X W (.Call (.Name x p) [] [] pos) (mCallO 0 f mA0) := by
  obtain ⟨fa, fd, G, hm, hk, hb⟩ := C.ex
  exact PE.imp (pe_callS0 (E := WE W) G hr hg hm hk hb (fun σ => passAt tk σ) hdb) fun σ H Q h => by
    obtain ⟨F, env, S, h⟩ := call_do h
    exact Post.here S h [] .nil
/-! ### o.m(e, ..) -/
structure MtC (P : Program) (w : World) (K : PySem.W.Frag) (mg : Str → Option Value) (base : Heap) (B : Bx) (c : String) (m : Str) (n k : Nat) (f : Fn) : Prop where
  ex : ∃ C fa fd ps, B.cls c = some C ∧ Meth K C m fa ∧ FnOk P w K mg base (L2.CX P w) k fa fd ps (spOf B n f) ∧ Binds K fd ps []
def selM (t : String → Option Fn) (m : Str) : D → Option Fn
  | .obj c fs => if (fs.lookup m).isNone = true then t c else none
  | _ => none
def mMeth (t : String → Option Fn) (m : Str) (n : Nat) (mo : M Opd) (ms : M (List Opd)) : M Opd := M.bind mo fun x => M.bind (ap1 (selM t m) x) fun f => M.bind ms fun xs => callD n f (x :: xs)
def mMethO (t : String → Option Fn) (m : Str) (n : Nat) (mo : M Opd) (ms : M (List Opd)) : M O := M.bind mo fun x => M.bind (ap1 (selM t m) x) fun f => M.bind ms fun xs => callO n f (x :: xs)
def tMethS (P : Program) (w : World) (K : PySem.W.Frag) (mg : Str → Option Value) (base : Heap) (B : Bx) (m : Str) (n k : Nat) (E : L2.St → XK) (ta : TE) (t : TA) : TE := fun σ H Q => ta σ H fun x H1 => ∃ c C f a dx fs, x = .ref a ∧ B.cls c = some C ∧ Cls K C ∧ H1 a = some (.ins C dx fs) ∧ fs.lookup m = none ∧ MtC P w K mg base B c m n k f ∧
  t σ H1 fun vs H2 => spOf B n f (.ref a :: vs) H2 Q (E σ)
theorem RepF.lookNone {fs : List (Str × D)} : ∀ {gs : List (Str × V)} {f : Str}, RepF B F fs gs → fs.lookup f = none → gs.lookup f = none := by
  induction fs with
  | nil => intro gs f r _; rw [show gs = [] from r]; rfl
  | cons x r ih =>
    intro gs f h e
    obtain ⟨g, d⟩ := x
    obtain ⟨v, r', rfl, h1, h2⟩ := h
    rw [List.lookup_cons] at e ⊢
    cases q : f == g with
    | true => rw [q] at e; cases e
    | false => rw [q] at e; exact ih h2 e
theorem pe_methS {m : Str} {E : L2.St → XK} {ta : TE} {t : TA} {pl : Sem Bool} (he : PE X o ta) (hr : Room k X.A) (hx : ∀ σ, PassesAt (L2.CX X.prog X.w) X σ (E σ)) (ha : PA X (e :: es) t)
    (hst : starEach (e :: es) X.env = (false, eval e X.env) :: starEach es X.env := by rfl) (hpl : (backTo pos (starEach es X.env)).any (·.1) = false := by rfl)
    (ht : eval (.Call (.Attribute o m apos) (e :: es) [] pos) X.env = (do
      let ov ← eval o X.env
      standAt apos.atName
      let (f, first) ← holding [ov] (getMethod ov m pl)
      callWith pos f first (backTo pos (starEach (e :: es) X.env)) (backToKw pos (keywordEach [] X.env))) := by rfl) :
    PE X (.Call (.Attribute o m apos) (e :: es) [] pos) (tMethS X.prog X.w X.K X.mg X.base B m n k E ta t) := by
  refine ⟨fun pins s σ H Q I h => ?_⟩
  refine PySem.W.methodCall_KW (pl := pl) (thn (he.run pins s σ H _ I h) fun u s1 ⟨x, H1, I1, rx, c, C, f, a, dx, fs, ex, hc, cl, ea, l, ⟨C', fa, fd, ps, hc', hm, G, hb⟩, q⟩ => ?_) ht
  subst ex
  rw [hc] at hc'; cases hc'
  obtain rfl : u = Value.ref a := rx
  refine getmeth_ok I1 ea cl hm l ?_
  refine PySem.W.callWith_K (h₀ := X.base) I1.ok.mod.kin hm.kp (thn (ha.run pos pins s1 σ H1 _ I1 q) fun us s2 ⟨vs, H2, I2, r, q2⟩ => ⟨I2.kIn, ?_⟩) hst hpl
  exact run_fnS (E := E) (vs := .ref a :: vs) G hr hb (hx σ) I2 (.cons rfl r) q2
theorem pe_methS0 {m : Str} {E : L2.St → XK} {ta : TE} {pl : Sem Bool} (he : PE X o ta) (hr : Room k X.A) (hx : ∀ σ, PassesAt (L2.CX X.prog X.w) X σ (E σ))
    (ht : eval (.Call (.Attribute o m apos) [] [] pos) X.env = (do
      let ov ← eval o X.env
      standAt apos.atName
      let (f, first) ← holding [ov] (getMethod ov m pl)
      callWith pos f first (backTo pos (starEach [] X.env)) (backToKw pos (keywordEach [] X.env))) := by rfl) :
    PE X (.Call (.Attribute o m apos) [] [] pos) (tMethS X.prog X.w X.K X.mg X.base B m n k E ta tNil) := by
  refine ⟨fun pins s σ H Q I h => ?_⟩
  refine PySem.W.methodCall_KW (pl := pl) (thn (he.run pins s σ H _ I h) fun u s1 ⟨x, H1, I1, rx, c, C, f, a, dx, fs, ex, hc, cl, ea, l, ⟨C', fa, fd, ps, hc', hm, G, hb⟩, q⟩ => ?_) ht
  subst ex
  rw [hc] at hc'; cases hc'
  obtain rfl : u = Value.ref a := rx
  refine getmeth_ok I1 ea cl hm l ?_
  exact PySem.W.callWith_K0 (first := [.ref a]) I1.kIn hm.kp (run_fnS (E := E) (us := [.ref a]) (vs := [.ref a]) G hr hb (hx σ) I1 (.cons rfl .nil) q)
theorem meth_de {t : String → Option Fn} {m : Str} (ht : ∀ c f, t c = some f → MtC X.prog X.w X.K X.mg X.base B c m n k f) (hC : Ocs B X.K) (h : tE B W (mMeth t m n mo ms) σ H Q) : tMethS X.prog X.w X.K X.mg X.base B m n k (WE W) (tE B W mo) (tA B W ms) σ H Q := by
  obtain ⟨F, env, S, h⟩ := h
  refine tE.one S h fun x e1 F1 H1 v s1 m1 o1 rv k1 => ?_
  obtain ⟨a, f, ea, er, k2⟩ := (Post.bind m1 k1).ap1
  have sa := m1.view rv ea
  cases a with
  | obj c fs =>
    obtain ⟨px, C, dx, gs, rfl, hc, hx, rf⟩ := sa
    unfold selM at er
    dsimp only at er
    by_cases hl : (fs.lookup m).isNone = true
    · rw [if_pos hl] at er
      refine ⟨c, C, f, px, dx, gs, rfl, hc, (hC c C hc).cl, hx, rf.lookNone (Option.isNone_iff_eq_none.mp hl), ht c f er, F1, e1, m1, (Post.bind m1 (Post.here m1 k2)).mono fun xs e2 F2 H2 s2 m2 o2 k3 vs rvs => ?_⟩
      exact callD_read m2 (.cons (rv.mono s2.le) rvs) k3
    · rw [if_neg hl] at er; cases er
  | _ => cases er
theorem meth_do {t : String → Option Fn} {m : Str} (ht : ∀ c f, t c = some f → MtC X.prog X.w X.K X.mg X.base B c m n k f) (hC : Ocs B X.K) (h : tO B W (mMethO t m n mo ms) σ H Q) : tMethS X.prog X.w X.K X.mg X.base B m n k (WE W) (tE B W mo) (tA B W ms) σ H Q := by
  obtain ⟨F, env, S, h⟩ := h
  refine tE.one S h fun x e1 F1 H1 v s1 m1 o1 rv k1 => ?_
  obtain ⟨a, f, ea, er, k2⟩ := (Post.bind m1 k1).ap1
  have sa := m1.view rv ea
  cases a with
  | obj c fs =>
    obtain ⟨px, C, dx, gs, rfl, hc, hx, rf⟩ := sa
    unfold selM at er
    dsimp only at er
    by_cases hl : (fs.lookup m).isNone = true
    · rw [if_pos hl] at er
      refine ⟨c, C, f, px, dx, gs, rfl, hc, (hC c C hc).cl, hx, rf.lookNone (Option.isNone_iff_eq_none.mp hl), ht c f er, F1, e1, m1, (Post.bind m1 (Post.here m1 k2)).mono fun xs e2 F2 H2 s2 m2 o2 k3 vs rvs => ?_⟩
      exact callO_read (H0 := H) (fun p hp => s1.back (s2.back hp)) m2 (.cons (rv.mono s2.le) rvs) k3
    · rw [if_neg hl] at er; cases er
  | _ => cases er
variable {t : String → Option Fn} {m : Str}
theorem de_meth {pl : Sem Bool} (ht : ∀ c f, t c = some f → MtC X.prog X.w X.K X.mg X.base B c m n k f) (hC : Ocs B X.K) (hr : Room k X.A) (tk : Takes X W) (ho : DE B X W o mo) (ha : DA B X W (e :: es) ms)
    (hst : starEach (e :: es) X.env = (false, eval e X.env) :: starEach es X.env := by rfl) (hpl : (backTo pos (starEach es X.env)).any (·.1) = false := by rfl)
    (hev : eval (.Call (.Attribute o m apos) (e :: es) [] pos) X.env = (do
      let ov ← eval o X.env
      standAt apos.atName
      let (f, first) ← holding [ov] (getMethod ov m pl)
      callWith pos f first (backTo pos (starEach (e :: es) X.env)) (backToKw pos (keywordEach [] X.env))) := by rfl) : DE B X W (.Call (.Attribute o m apos) (e :: es) [] pos) (mMeth t m n mo ms) :=
  PE.imp (pe_methS (pl := pl) (E := WE W) ho hr (fun σ => passAt tk σ) ha hst hpl hev) fun σ H Q h => meth_de ht hC h
theorem do_meth {pl : Sem Bool} (ht : ∀ c f, t c = some f → MtC X.prog X.w X.K X.mg X.base B c m n k f) (hC : Ocs B X.K) (hr : Room k X.A) (tk : Takes X W) (ho : DE B X W o mo) (ha : DA B X W (e :: es) ms)
    (hst : starEach (e :: es) X.env = (false, eval e X.env) :: starEach es X.env := by rfl) (hpl : (backTo pos (starEach es X.env)).any (·.1) = false := by rfl)
    (hev : eval (.Call (.Attribute o m apos) (e :: es) [] pos) X.env = (do
      let ov ← eval o X.env
      standAt apos.atName
      let (f, first) ← holding [ov] (getMethod ov m pl)
      callWith pos f first (backTo pos (starEach (e :: es) X.env)) (backToKw pos (keywordEach [] X.env))) := by rfl) : DO B X W (.Call (.Attribute o m apos) (e :: es) [] pos) (mMethO t m n mo ms) :=
  PE.imp (pe_methS (pl := pl) (E := WE W) ho hr (fun σ => passAt tk σ) ha hst hpl hev) fun σ H Q h => meth_do ht hC h
theorem tA_nil {Q : List V → Hp → Prop} (h : tA B W mA0 σ H Q) : tNil σ H Q := by
  obtain ⟨F, env, S, h⟩ := h
  exact Post.here S h [] .nil
theorem tE.mono' {R R' : VK} (h : tE B W mo σ H R) (i : ∀ v H', R v H' → R' v H') : tE B W mo σ H R' := by
  obtain ⟨F, env, S, h⟩ := h
  exact ⟨F, env, S, h.mono fun r e F' H' _ _ _ q v rv => i v H' (q v rv)⟩
theorem de_meth0 {pl : Sem Bool} (ht : ∀ c f, t c = some f → MtC X.prog X.w X.K X.mg X.base B c m n k f) (hC : Ocs B X.K) (hr : Room k X.A) (tk : Takes X W) (ho : DE B X W o mo)
    (hev : eval (.Call (.Attribute o m apos) [] [] pos) X.env = (do
      let ov ← eval o X.env
      standAt apos.atName
      let (f, first) ← holding [ov] (getMethod ov m pl)
      callWith pos f first (backTo pos (starEach [] X.env)) (backToKw pos (keywordEach [] X.env))) := by rfl) : DE B X W (.Call (.Attribute o m apos) [] [] pos) (mMeth t m n mo mA0) :=
  PE.imp (pe_methS0 (pl := pl) (E := WE W) ho hr (fun σ => passAt tk σ) hev) fun σ H Q h => tE.mono' (meth_de ht hC h) fun v H' ⟨c, C, f, a, dx, fs, h1, h2, h3, h4, h5, h6, q⟩ => ⟨c, C, f, a, dx, fs, h1, h2, h3, h4, h5, h6, tA_nil q⟩
theorem do_meth0 {pl : Sem Bool} (ht : ∀ c f, t c = some f → MtC X.prog X.w X.K X.mg X.base B c m n k f) (hC : Ocs B X.K) (hr : Room k X.A) (tk : Takes X W) (ho : DE B X W o mo)
    (hev : eval (.Call (.Attribute o m apos) [] [] pos) X.env = (do
      let ov ← eval o X.env
      standAt apos.atName
      let (f, first) ← holding [ov] (getMethod ov m pl)
      callWith pos f first (backTo pos (starEach [] X.env)) (backToKw pos (keywordEach [] X.env))) := by rfl) : DO B X W (.Call (.Attribute o m apos) [] [] pos) (mMethO t m n mo mA0) :=
  PE.imp (pe_methS0 (pl := pl) (E := WE W) ho hr (fun σ => passAt tk σ) hev) fun σ H Q h => tE.mono' (meth_do ht hC h) fun v H' ⟨c, C, f, a, dx, fs, h1, h2, h3, h4, h5, h6, q⟩ => ⟨c, C, f, a, dx, fs, h1, h2, h3, h4, h5, h6, tA_nil q⟩
end
end AN

set_option Elab.async false
set_option maxRecDepth 100000
set_option autoImplicit false
set_option linter.unusedVariables false
/-! x in a tuple of own objects, by their own == -/
namespace AN
open PySem PySem.Spec PyProof.Rows L2
section
variable {prog : Program} {w : World} {A : Around} {E : Value → Shared → Prop} {s : Shared}
theorem tuple_inG {t : Addr} {x : Value} {P : Fin → Shared → Prop} (J : Shared → Prop) {items : Array Value} (ht : IsTup s.heap t items) (es : List Bool) (hl : es.length = items.size)
    (turn : ∀ i (h : i < items.size) s', J s' → wpAny (model prog w) A (eqBool items[i] x) (fun r s2 => some r = es[i]? ∧ J s2) E s') (h0 : J s)
    (h : ∀ s', J s' → P (.done (.ret (.bool (es.any id)))) s') : wpAny (model prog w) A (Builtin.«tuple.__contains__» ⟨[.ref t, x], []⟩) P E s := by
  show wpAny _ _ (Builtin.Tuple.tupleItemsOf (.ref t) >>= _) _ _ s
  refine wpAny_bind (tupleItemsOf_ ht ?_)
  refine wpAny_bind (forIn_array_ _ (fun rest b s' => b.1 = none ∧ J s' ∧ ∃ i, rest = items.toList.drop i ∧ i ≤ items.size ∧ ∀ s2, J s2 → P (.done (.ret (.bool ((es.drop i).any id)))) s2) _ ?_ ?_ items _ ⟨rfl, h0, 0, rfl, Nat.zero_le _, h⟩)
  · rintro y rest b s' ⟨hb, hJ, i, hz, hi, hP⟩
    have hlt : i < items.size := by
      rcases Nat.lt_or_ge i items.size with h' | h'
      · exact h'
      · rw [List.drop_of_length_le (by simpa using h')] at hz; cases hz
    have hlt' : i < items.toList.length := by simpa using hlt
    rw [List.drop_eq_getElem_cons hlt'] at hz
    injection hz with hy hrest
    have hy' : y = items[i] := by rw [hy]; simp
    subst hy'
    refine wpAny_bind (wpAny_mono (turn i hlt s' hJ) (fun r s2 q => ?_) fun _ _ z => z)
    obtain ⟨hr, hJ2⟩ := q
    have hle : i < es.length := by omega
    have hd : es.drop i = r :: es.drop (i + 1) := by
      rw [List.drop_eq_getElem_cons hle]
      congr 1
      rw [List.getElem?_eq_getElem hle] at hr
      exact (Option.some.inj hr).symm
    rw [hd] at hP
    cases r with
    | true => exact wpAny_bind (wpAny_pure (wpAny_pure (wpAny_pure (by simpa using hP s2 hJ2))))
    | false => exact wpAny_pure ⟨rfl, hJ2, i + 1, hrest, hlt, by simpa using hP⟩
  · rintro ⟨b1, b2⟩ s' ⟨hb, hJ, i, hz, hi, hP⟩
    simp only at hb
    subst hb
    have hge : items.size ≤ i := by
      rcases Nat.lt_or_ge i items.toList.length with h' | h'
      · rw [List.drop_eq_getElem_cons h'] at hz; cases hz
      · simpa using h'
    have e : es.drop i = [] := List.drop_of_length_le (by omega)
    rw [e] at hP
    exact wpAny_pure (by simpa using hP s' hJ)
theorem contains_tupG {t : Addr} {x : Value} {Q : Bool → Shared → Prop} (J : Shared → Prop) {items : Array Value} (ht : IsTup s.heap t items) (es : List Bool) (hl : es.length = items.size)
    (turn : ∀ i (h : i < items.size) s', J s' → wpAny (model prog w) A.in1 (eqBool items[i] x) (fun r s2 => some r = es[i]? ∧ J s2) E s') (h0 : J s)
    (h : ∀ s', J s' → Q (es.any id) s') : wpAny (model prog w) A (contains (.ref t) x) Q E s := by
  unfold contains
  refine wpAny_holding ?_
  refine wpAny_bind (wpAny_specialOf ht.typeIs slot_tuple_contains.lookup ?_)
  rw [if_neg (by decide)]
  exact wpAny_bind (wpAny_callSpecialUnlessNone?_slot (name := Str.ofString "__contains__") ht.typeIs slot_tuple_contains
    (wpAny_call_entry slot_tuple_contains ht.typeIs entry_tuple_contains (tuple_inG J ht es hl turn h0 fun s' z => ⟨_, rfl, wpAny_truthy_bool (h s' z)⟩) (args_tuple_contains _ _)))
end
/-- a scalar, or a tuple of scalars -/
def simpleD : D → Bool
  | .tup xs => xs.all scalar
  | d => scalar d
def simpleO : D → Bool
  | .obj _ fs => fs.all fun p => simpleD p.2
  | _ => false
def boolOf : D → Option Bool
  | .bl b => some b
  | _ => none
/-- by the items' own ==, the item on the left -/
def eqsOf (eq : String → Option Fn) (a : D) : List D → Option (List Bool)
  | [] => some []
  | d :: ds => (if simpleO d = true then (oEq false eq d a).bind boolOf else none).bind fun r => (eqsOf eq a ds).map (r :: ·)
def dInE (eq : String → Option Fn) (neg : Bool) (g : D → D → Option D) (a b : D) : Option D := if simpleO a = true ∧ (oEq false eq a a).bind boolOf = some true then (match b with
  | .tup ds => (eqsOf eq a ds).map fun rs => .bl (if neg then !(rs.any id) else rs.any id)
  | _ => g a b) else g a b
section
variable {B : Bx} {X : Cx} {W : WX} {F H F1 H1 : Hp} {env e1 : AN.Env} {σ : L2.St} {Q : VK} {a b e o : Expr} {ma mb : M Opd} {pos p : Pos} {k n : Nat}
theorem scal_uniq {d d' : D} {v : V} (h : scalar d = true) (h' : scalar d' = true) (r : Rep B F d v) (r' : Rep B F d' v) : d = d' := by
  cases d with
  | non => cases (show v = .non from r); cases d' with
    | non => rfl
    | bl _ => cases (show V.non = .bl _ from r')
    | int _ => cases (show V.non = .int _ from r')
    | str _ => cases r'.1
    | _ => cases h'
  | bl _ => cases (show v = .bl _ from r); cases d' with
    | non => cases (show V.bl _ = .non from r')
    | bl _ => cases (show V.bl _ = .bl _ from r'); rfl
    | int _ => cases (show V.bl _ = .int _ from r')
    | str _ => cases r'.1
    | _ => cases h'
  | int _ => cases (show v = .int _ from r); cases d' with
    | non => cases (show V.int _ = .non from r')
    | bl _ => cases (show V.int _ = .bl _ from r')
    | int _ => cases (show V.int _ = .int _ from r'); rfl
    | str _ => cases r'.1
    | _ => cases h'
  | str _ => obtain ⟨rfl, _⟩ := r; cases d' with
    | non => cases (show V.str _ = .non from r')
    | bl _ => cases (show V.str _ = .bl _ from r')
    | int _ => cases (show V.str _ = .int _ from r')
    | str _ => cases r'.1; rfl
    | _ => cases h'
  | _ => cases h
theorem scals_uniq : ∀ {ds ds' : List D} {vs : List V}, ds.all scalar = true → ds'.all scalar = true → RepL B F ds vs → RepL B F ds' vs → ds = ds'
  | [], [], _, _, _, _, _ => rfl
  | [], d :: _, vs, _, _, r, r' => by
    rw [show vs = [] from r] at r'
    obtain ⟨_, _, e, _⟩ := r'
    cases e
  | d :: _, [], vs, _, _, r, r' => by
    rw [show vs = [] from r'] at r
    obtain ⟨_, _, e, _⟩ := r
    cases e
  | d :: ds, d' :: ds', vs, h, h', r, r' => by
    rw [List.all_cons, Bool.and_eq_true] at h h'
    obtain ⟨v, r1, rfl, a1, a2⟩ := r
    obtain ⟨v', r2, e, b1, b2⟩ := r'
    injection e with e1 e2
    subst e1; subst e2
    rw [scal_uniq h.1 h'.1 a1 b1, scals_uniq h.2 h'.2 a2 b2]
theorem not_scal_ref {d : D} {p : Addr} (h : scalar d = true) (r : Rep B F d (.ref p)) : False := by
  cases d with
  | non => cases (show V.ref p = .non from r)
  | bl _ => cases (show V.ref p = .bl _ from r)
  | int _ => cases (show V.ref p = .int _ from r)
  | str _ => cases r.1
  | _ => cases h
theorem simple_uniq {pins : List (Addr × Obj)} {s : Shared} (hK : X.K = B.K) (I : Inv X pins σ H s) (hh : Holds F H) {d d' : D} {v : V} (h : simpleD d = true) (h' : simpleD d' = true) (r : Rep B F d v) (r' : Rep B F d' v) : d = d' := by
  by_cases q : ∃ xs, d = .tup xs
  · obtain ⟨xs, rfl⟩ := q
    obtain ⟨p, vs, rfl, ta, _, rl⟩ := r
    by_cases q' : ∃ ys, d' = .tup ys
    · obtain ⟨ys, rfl⟩ := q'
      obtain ⟨p', vs', e, ta', _, rl'⟩ := r'
      cases e
      have := I.tuple_inj (xs := vs) (ys := vs') (by rw [hK]; exact ta.sq hh) (by rw [hK]; exact ta'.sq hh)
      subst this
      rw [scals_uniq h h' rl rl']
    · have hs : scalar d' = true := by
        cases d' with
        | tup ys => exact absurd ⟨ys, rfl⟩ q'
        | _ => exact h'
      exact (not_scal_ref hs r').elim
  · have hs : scalar d = true := by
      cases d with
      | tup ys => exact absurd ⟨ys, rfl⟩ q
      | _ => exact h
    by_cases q' : ∃ ys, d' = .tup ys
    · obtain ⟨ys, rfl⟩ := q'
      obtain ⟨p', vs', rfl, _⟩ := r'
      exact (not_scal_ref hs r).elim
    · have hs' : scalar d' = true := by
        cases d' with
        | tup ys => exact absurd ⟨ys, rfl⟩ q'
        | _ => exact h'
      exact scal_uniq hs hs' r r'
theorem fields_uniq {pins : List (Addr × Obj)} {s : Shared} (hK : X.K = B.K) (I : Inv X pins σ H s) (hh : Holds F H) : ∀ {fs fs' : List (Str × D)} {gs : List (Str × V)}, fs.all (fun p => simpleD p.2) = true → fs'.all (fun p => simpleD p.2) = true → RepF B F fs gs → RepF B F fs' gs → fs = fs'
  | [], [], _, _, _, _, _ => rfl
  | [], (f, d) :: _, gs, _, _, r, r' => by
    rw [show gs = [] from r] at r'
    obtain ⟨_, _, e, _⟩ := r'
    cases e
  | (f, d) :: _, [], gs, _, _, r, r' => by
    rw [show gs = [] from r'] at r
    obtain ⟨_, _, e, _⟩ := r
    cases e
  | (f, d) :: ds, (f', d') :: ds', gs, h, h', r, r' => by
    rw [List.all_cons, Bool.and_eq_true] at h h'
    obtain ⟨v, r1, rfl, a1, a2⟩ := r
    obtain ⟨v', r2, e, b1, b2⟩ := r'
    injection e with e1 e2
    injection e1 with e3 e4
    subst e3; subst e4; subst e2
    have q1 : d = d' := simple_uniq hK I hh h.1 h'.1 a1 b1
    rw [q1, fields_uniq hK I hh h.2 h'.2 a2 b2]
theorem obj_uniq {pins : List (Addr × Obj)} {s : Shared} (hK : X.K = B.K) (hi : ∀ c c' C, B.cls c = some C → B.cls c' = some C → c = c') (I : Inv X pins σ H s) (hh : Holds F H) {d d' : D} {v : V} (h : simpleO d = true) (h' : simpleO d' = true) (r : Rep B F d v) (r' : Rep B F d' v) : d = d' := by
  cases d with
  | obj c fs =>
    cases d' with
    | obj c' fs' =>
      obtain ⟨p, C, dx, gs, rfl, hc, hp, rf⟩ := r
      obtain ⟨p', C', dx', gs', e, hc', hp', rf'⟩ := r'
      cases e
      rw [hp] at hp'; cases hp'
      rw [hi c c' C hc hc', fields_uniq hK I hh h h' rf rf']
    | _ => cases h'
  | _ => cases h
theorem oEq_obj {eq : String → Option Fn} {d a : D} {r : Bool} (hd : simpleO d = true) (h : (oEq false eq d a).bind boolOf = some r) : ∃ c fs f as, d = .obj c fs ∧ eq c = some f ∧ f [.fz d, .fz a] = .ok (.fz (.bl r)) as := by
  cases d with
  | obj c fs =>
    unfold oEq at h
    dsimp only at h
    cases q : eq c with
    | none => rw [q] at h; cases h
    | some f =>
      rw [q] at h
      dsimp only [Option.bind] at h
      cases qf : f [.fz (.obj c fs), .fz a] with
      | bad => rw [qf] at h; cases h
      | exc _ _ _ => rw [qf] at h; cases h
      | ok rt as =>
        rw [qf] at h
        cases rt with
        | ow _ => cases h
        | fz z =>
          cases z with
          | bl r' =>
            cases h
            exact ⟨c, fs, f, as, rfl, q, qf⟩
          | _ => cases h
  | _ => cases hd
theorem eqsOf_get {eq : String → Option Fn} {a : D} : ∀ {ds : List D} {rs : List Bool}, eqsOf eq a ds = some rs → rs.length = ds.length ∧ ∀ (i : Nat) (d : D), ds[i]? = some d → simpleO d = true ∧ ∃ r, rs[i]? = some r ∧ (oEq false eq d a).bind boolOf = some r
  | [], rs, h => by
    cases h
    exact ⟨rfl, fun i d e => by simp at e⟩
  | x :: ds, rs, h => by
    unfold eqsOf at h
    by_cases hx : simpleO x = true
    · rw [if_pos hx] at h
      obtain ⟨r, hr, h⟩ := Option.bind_eq_some_iff.mp h
      obtain ⟨rs', hrs, rfl⟩ := Option.map_eq_some_iff.mp h
      obtain ⟨l, g⟩ := eqsOf_get hrs
      refine ⟨by simp [l], fun i d e => ?_⟩
      cases i with
      | zero => simp at e; subst e; exact ⟨hx, r, rfl, hr⟩
      | succ i => simp only [List.getElem?_cons_succ] at e ⊢; exact g i d e
    · rw [if_neg hx] at h; cases h
def rInE (P : Program) (w : World) (K : PySem.W.Frag) (mg : Str → Option Value) (base : Heap) (B : Bx) (k : Nat) (eq : String → Option Fn) (neg : Bool) : R2 := fun x y H Q => ∃ F p vs ds a rs, y = .ref p ∧ SqT K H p vs ∧ Holds F H ∧ RepL B F ds vs ∧ Rep B F a x ∧ simpleO a = true ∧ (oEq false eq a a).bind boolOf = some true ∧ eqsOf eq a ds = some rs ∧
  (∀ c C fs, a = .obj c fs → B.cls c = some C → ∀ c' C', B.cls c' = some C' → PySem.W.notFirst K C' (.ref C) = true) ∧ (∀ H', Step0 F H F H' → Holds F H' → Q (.bl (if neg then !(rs.any id) else rs.any id)) H')
theorem in_run {eq : String → Option Fn} {neg : Bool} {pins : List (Addr × Obj)} {s : Shared} {x y : V} {u v : Value} {Q2 : Bool → Shared → Prop} (hK : X.K = B.K) (hC : Ocs B X.K) (hi : ∀ c c' C, B.cls c = some C → B.cls c' = some C → c = c') (he : ∀ c f, eq c = some f → EqC X.prog X.w X.K X.mg X.base B c k f) (hr : Room (k + 1) X.A)
    (I : Inv X pins σ H s) (rx : RelV x u) (ry : RelV y v) (h : rInE X.prog X.w X.K X.mg X.base B k eq neg x y H Q) (hq : ∀ r H' s', Inv X pins σ H' s' → Q (.bl (if neg then !r else r)) H' → Q2 r s') :
    wpAny (model X.prog X.w) X.A (contains v u) Q2 X.xe s := by
  obtain ⟨F, p, vs, ds, a, rs, rfl, sq, hh, rl, ra, sa, refl, ers, nf, q⟩ := h
  cases (show v = Value.ref p from ry)
  obtain ⟨its, r, pl, hz⟩ := I.tuple sq
  obtain ⟨ln, get⟩ := eqsOf_get ers
  have hl : rs.length = its.toArray.size := by rw [List.size_toArray, ← r.length, rl.length]; exact ln
  obtain ⟨ca, fa, ga, asa, rfl, _, _⟩ := oEq_obj sa refl
  obtain ⟨px, C, dx, gs, rfl, hc, hp, rf⟩ := id ra
  cases (show u = Value.ref px from rx)
  refine contains_tupG (fun s' => ∃ H', Inv X pins σ H' s' ∧ Step0 F H F H' ∧ Holds F H') pl rs hl (fun i hi' s' ⟨H', I', st', hh'⟩ => ?_) ⟨H, I, Step.refl _ _ _, hh⟩ fun s' ⟨H', I', st', hh'⟩ => hq _ H' s' I' (q H' st' hh')
  have hi2 : i < its.length := by simpa using hi'
  have hi3 : i < vs.length := by rw [r.length]; exact hi2
  obtain ⟨d, hd, rd⟩ := rl.got (List.getElem?_eq_getElem hi3)
  obtain ⟨sd, rr, hrr, hrr2⟩ := get i d hd
  obtain ⟨ui, hui, rui⟩ := r.get (List.getElem?_eq_getElem hi3)
  rw [List.getElem?_eq_getElem hi2] at hui
  have eui : its.toArray[i] = ui := by simpa using Option.some.inj hui
  rw [eui]
  obtain ⟨cd, fd, g, as, rfl, heq, hg⟩ := oEq_obj sd hrr2
  obtain ⟨pd, Cd, dd, gd, e, hcd, hpd, rfd⟩ := id rd
  rw [e] at rui
  cases (show ui = Value.ref pd from rui)
  by_cases same : pd = px
  · subst same
    have hd2 := obj_uniq hK hi I' hh' sd sa (v := .ref pd) (by rw [← e]; exact rd) ra
    rw [← hd2] at refl
    have : rr = true := Option.some.inj (hrr2.symm.trans (by rw [← hd2]; exact refl))
    subst this
    exact SeqAt.EqAt.same (.ref pd) X.prog X.w X.xe _ ⟨hrr.symm, H', I', st', hh'⟩
  · refine GQ.eqBool_refG same ?_
    obtain ⟨C', fa', fd', ps', hc', hfi, hfn, G, hb, _⟩ := (he cd g heq).ex
    rw [hcd] at hc'; cases hc'
    have hpd' := hh'.at_ hpd rfl
    have hpx' := hh'.at_ hp rfl
    obtain ⟨mA, J, _⟩ := ins_get I'.hok hpd'
    obtain ⟨od, J, _⟩ := J.look
    obtain ⟨mB, J', _⟩ := ins_get I'.hok hpx'
    obtain ⟨od', J', _⟩ := J'.look
    obtain ⟨m, fr⟩ := I'.fr
    have hr1 : Room k X.A.in1 := hr.in1
    refine PySem.W.cmp_K (op := .Eq) (tb := .ref C) (by have := hr1.un; omega) fr I'.ok.mod.kin J J'.type (nf _ _ _ rfl hc _ _ hcd) hfi hfn ?_
    have sp : spOf B 2 g [.ref pd, .ref px] H' (fun v H2 => v = .bl rr ∧ Step0 F H F H2 ∧ Holds F H2) E0 := by
      have := own_sp (Q := fun v H2 => Step0 F H F H2 ∧ Holds F H2) (ds := [.obj cd fd, .obj ca fa]) (vs := [.ref pd, .ref px]) hh' hh' ⟨_, _, rfl, by rw [← e]; exact rd, _, _, rfl, ra, rfl⟩ hg rfl fun v F2 H2 s2 h2 _ => by
        obtain ⟨sd, hd⟩ := Step0.drop (F := F) (H := H') (F1 := F) (H1 := H2) ⟨Le.refl F, s2.keep, fun b u e => .inl e, s2.stay⟩ hh'
        exact ⟨st'.trans sd fun _ z => z.elim, hd⟩
      exact this
    refine wpAny_mono (sp_call (vs := [.ref pd, .ref px]) G hb hr1 rfl I' (.cons rfl (.cons rfl .nil)) passE0 sp) (fun w s2 q2 => ?_) fun _ _ z => z
    obtain ⟨v', H2, I2, rv, rfl, st2, hh2⟩ := q2
    cases (show w = Value.bool rr from rv)
    exact ⟨rr, rfl, hrr.symm, H2, I2, st2, hh2⟩
theorem op_inE {eq : String → Option Fn} (hK : X.K = B.K) (hC : Ocs B X.K) (hi : ∀ c c' C, B.cls c = some C → B.cls c' = some C → c = c') (he : ∀ c f, eq c = some f → EqC X.prog X.w X.K X.mg X.base B c k f) (hr : Room (k + 1) X.A) : OpR X (compareOp .In) (rInE X.prog X.w X.K X.mg X.base B k eq false) := by
  intro pins s σ H x y u v Q I rx ry h
  show wpAny _ _ (do return Value.bool (← contains v u)) _ _ s
  exact wpAny_bind (in_run hK hC hi he hr I rx ry h fun r H' s' I' q => wpAny_pure ⟨.bl r, H', I', rfl, q⟩)
theorem op_notInE {eq : String → Option Fn} (hK : X.K = B.K) (hC : Ocs B X.K) (hi : ∀ c c' C, B.cls c = some C → B.cls c' = some C → c = c') (he : ∀ c f, eq c = some f → EqC X.prog X.w X.K X.mg X.base B c k f) (hr : Room (k + 1) X.A) : OpR X (compareOp .NotIn) (rInE X.prog X.w X.K X.mg X.base B k eq true) := by
  intro pins s σ H x y u v Q I rx ry h
  show wpAny _ _ (do return Value.bool (!(← contains v u))) _ _ s
  exact wpAny_bind (in_run hK hC hi he hr I rx ry h fun r H' s' I' q => wpAny_pure ⟨.bl (!r), H', I', rfl, q⟩)
theorem p_inE {eq : String → Option Fn} {neg : Bool} {g : D → D → Option D} {r0 : R2} (hK : X.K = B.K) (hA : Apart B X.K) (h0 : Prim2 B g r0) : Prim2 B (dInE eq neg g) (fun x y H Q => r0 x y H Q ∨ rInE X.prog X.w X.K X.mg X.base B k eq neg x y H Q) := fun F H a b z x y Q hh sa sb e q => by
  have plain : g a b = some z → r0 x y H Q ∨ rInE X.prog X.w X.K X.mg X.base B k eq neg x y H Q := fun e => .inl (h0 F H a b z x y Q hh sa sb e q)
  unfold dInE at e
  by_cases hs : simpleO a = true ∧ (oEq false eq a a).bind boolOf = some true
  · rw [if_pos hs] at e
    cases b with
    | tup ds =>
      right
      dsimp only at e
      obtain ⟨rs, ers, rfl⟩ := Option.map_eq_some_iff.mp e
      obtain ⟨F1, l1, h1, r1⟩ := sa.fix hh
      have sb1 := sb.mono l1
      obtain ⟨p, vs, rfl, ta, _, rl⟩ := sb1
      refine ⟨F1, p, vs, ds, a, rs, rfl, by rw [hK]; exact ta.sq h1, h1, rl, r1, hs.1, hs.2, ers, fun c C fs _ hc c' C' hc' => hA c' c C' C hc' hc, fun H' st hh' => ?_⟩
      obtain ⟨sd, hd⟩ := Step0.drop (F := F) (H := H) (F1 := F) (H1 := H') ⟨Le.refl F, st.keep, fun b u e => .inl e, st.stay⟩ hh
      exact q _ F H' sd hd rfl
    | _ => exact plain e
  · rw [if_neg hs] at e; exact plain e
end
end AN

set_option Elab.async false
set_option maxRecDepth 100000
set_option autoImplicit false
set_option linter.unusedVariables false
/-! a, b = [..], e -/
namespace AN
open PySem PySem.Spec PyProof.Rows L2
def mParO (i j : Nat) (mo : M O) (mb : M Opd) : M Fl := M.bind mo fun o => M.bind mb fun x => M.bind (frz1 x) fun d => mSeq (put i (.ow false o)) fun e => match gN j d e with
  | some e2 => .ok .nx e2
  | none => .bad
section
variable {B : Bx} {X : Cx} {W : WX} {F H F1 H1 : Hp} {env e1 : AN.Env} {σ : L2.St} {Q : VK} {a b e o : Expr} {ma mb : M Opd} {mo : M O} {pos p : Pos} {k n : Nat}
theorem parO_ok {i j : Nat} {D : Ends} (h : tS B W (mParO i j mo mb) D σ H) : tPar i j (tCons (tO B W mo) (tCons (tE B W mb) tNil)) D σ H := by
  obtain ⟨F, env, S, h⟩ := h
  unfold mParO M.bind at h
  refine ⟨F, env, S, ?_⟩
  cases q : mo env with
  | bad => rw [q] at h; exact h
  | exc c d e' =>
    rw [q] at h
    obtain ⟨C, fld, hb, h⟩ := h
    exact ⟨C, fld, hb, fun F' H' dx v s ⟨m', l⟩ hd hf h0 r => h σ F' H' dx v (Go.of s m' l) hd hf h0 r⟩
  | ok o e1 =>
    rw [q] at h
    intro F1 H1 s1 m1 l1 p hp hf ho
    have tr1 : ∀ {F2 H2 : Hp}, Step (Own e1 σ) F1 H1 F2 H2 → Step (Own env σ) F H F2 H2 := fun s2 => s1.trans s2 fun b z => .inl (l1.own z)
    have np : ¬ Own e1 σ p := fun z => by
      obtain ⟨_, u, hu⟩ := (l1.own z).ex S
      rw [hp] at hu; cases hu
    obtain ⟨u0, hu0⟩ := ho.ex
    refine ⟨F1, e1, m1, ?_⟩
    dsimp only at h
    cases q2 : mb e1 with
    | bad => rw [q2] at h; exact h
    | exc c d e' =>
      rw [q2] at h
      obtain ⟨C, fld, hb, h⟩ := h
      exact ⟨C, fld, hb, fun F' H' dx v s ⟨m', l⟩ hd hf h0 r => h σ F' H' dx v (Go.of (tr1 s) m' (l1.trans l)) hd hf (s1.back h0) r⟩
    | ok x e2 =>
      rw [q2] at h
      intro F2 H2 s2 m2 l2 w rw'
      dsimp only at h
      cases q3 : frz1 x e2 with
      | bad => rw [q3] at h; exact h.elim
      | exc c d e' =>
        rw [q3] at h
        exfalso
        cases x with
        | d _ => cases q3
        | sl i =>
          simp only [frz1] at q3
          cases z : e2[i]? with
          | none => rw [z] at q3; cases q3
          | some s =>
            rw [z] at q3
            cases s with
            | no => cases q3
            | fz _ => cases q3
            | ow kk _ => cases kk <;> cases q3
      | ok d e3 =>
        rw [q3] at h
        obtain ⟨d', e3', F3, s3, m3, l3, r3, q4⟩ := m2.frz1 (W := W) rw' (k := fun d' e' _ _ => d' = d ∧ e' = e3) (by rw [q3]; exact fun _ _ _ _ _ => ⟨rfl, rfl⟩)
        obtain ⟨rfl, rfl⟩ := q4
        have st12 := s2.trans s3 fun b z => .inl (l2.own z)
        have fn : ∀ {F' H' : Hp}, Step (Own e1 σ) F1 H1 F' H' → F' p = none := fun {F' H'} s => by
          cases z : F' p with
          | none => rfl
          | some u =>
            rcases s.new p u z with y | y | y
            · rw [hf] at y; cases y
            · rw [hu0] at y; cases y
            · exact (np y).elim
        have ho3 : OAt B F3 H2 p o := ho.mono st12.le fun u e => s2.keep p u e np
        have np3 : ¬ Own e3' σ p := fun z => np (l2.own (l3.own z))
        have g0 : Go B F env σ H F3 e3' σ H2 := Go.of (tr1 st12) m3 (l1.trans (l2.trans l3))
        dsimp only at h
        unfold mSeq M.bind put at h
        cases z : e3'[i]? with
        | none => simp only [z] at h; exact h.elim
        | some s =>
          have fin : (∀ o, e3'[i]? ≠ some (.ow true o)) → PostS B W F env σ H D (match gN j d' (e3'.set i (.ow false o)) with
              | some e2 => .ok .nx e2
              | none => .bad) → ∃ x y, [V.ref p, w] = [x, y] ∧ D.nx ((σ.set i (some x)).set j (some y)) H2 := fun h1 k => by
            have g1 := g0.setO z h1 hp np3 (fn st12) ho3
            cases q5 : gN j d' (e3'.set i (.ow false o)) with
            | none => rw [q5] at k; exact k.elim
            | some e5 =>
              rw [q5] at k
              obtain ⟨⟨s0, b0⟩, b1, rfl⟩ := gN_ok q5
              exact ⟨_, _, rfl, k _ _ _ (g1.trans (g1.sim.setD b0 b1 r3))⟩
          cases s with
          | no => simp only [z] at h; exact fin (fun o y => by rw [z] at y; cases y) h
          | fz _ => simp only [z] at h; exact fin (fun o y => by rw [z] at y; cases y) h
          | ow kk o' =>
            cases kk with
            | true => simp only [z] at h; exact h.elim
            | false => simp only [z] at h; exact fin (fun o y => by rw [z] at y; cases y) h
theorem ds_par2O (i j : Nat) {x y : Str} {px py pt : Pos} {kt k2 pt2} (hc : X.calm = true) (hN : X.N.Nodup) (ho : DO B X W a mo) (hb : DE B X W b mb) (hi : X.N[i]? = some x := by rfl) (hj : X.N[j]? = some y := by rfl) (hij : i ≠ j := by decide)
    (hx : X.env.scope.names.lookup x = some .local := by rfl) (hy : X.env.scope.names.lookup y = some .local := by rfl)
    (hw : swappedStores [.Tuple [.Name x px, .Name y py] kt pt] (.Tuple [a, b] k2 pt2) X.env = pure (some [x, y]) := by rfl)
    (hs : swapsWithSole [.Tuple [.Name x px, .Name y py] kt pt] (.Tuple [a, b] k2 pt2) pos.line X.env = pure false := by rfl)
    (hs1 : starEach [a, b] X.env = (false, eval a X.env) :: starEach [b] X.env := by rfl) (hs2 : starEach [b] X.env = (false, eval b X.env) :: starEach [] X.env := by rfl) :
    DS B X W (.Assign [.Tuple [.Name x px, .Name y py] kt pt] (.Tuple [a, b] k2 pt2) pos) (mParO i j mo mb) := PS.imp (ps_par hc hN hi hj hij hx hy (pa_cons ho (pa_cons hb pa_nil hs2) hs1) hw hs) fun D σ H h => parO_ok h
@[simp] theorem mParO_r {i j : Nat} {e : AN.Env} : mParO i j mo mb e = R.th (mo e) fun o e => R.th (mb e) fun x e => R.th (frz1 x e) fun d e => R.th (put i (.ow false o) e) fun f => (match f with
  | .nx => fun e => R.th (rop (gN j d e) e) fun e2 _ => .ok .nx e2
  | f => M.pure f) := by
  refine th_congr fun o e => th_congr fun x e => th_congr fun d e => th_congr fun f e => ?_
  cases f with
  | nx =>
    show (match gN j d e with
      | some e2 => R.ok Fl.nx e2
      | none => R.bad) = R.th (rop (gN j d e) e) fun e2 _ => .ok .nx e2
    cases gN j d e <;> rfl
  | _ => rfl
end
end AN

set_option Elab.async false
set_option maxRecDepth 100000
set_option autoImplicit false
set_option linter.unusedVariables false
/-! list(x), tuple(x), xs[::-1]; what stands at a lower level -/
namespace AN
open PySem PySem.Spec PyProof.Rows L2
def oListOf (d : D) : Option O := (rowOf d).map .lst
def dTupOf (d : D) : Option D := (rowOf d).map .tup
def oRev : D → Option O
  | .lst xs => some (.lst xs.reverse)
  | _ => none
section
variable {B : Bx} {X : Cx} {W : WX} {F H F1 H1 : Hp} {env e1 : AN.Env} {σ : L2.St} {Q : VK} {a b e o : Expr} {ma mb : M Opd} {mo : M O} {pos p p1 p2 p3 : Pos} {k n : Nat}
theorem RepL.rev {xs : List D} {vs : List V} (r : RepL B F xs vs) : RepL B F xs.reverse vs.reverse := by
  induction xs generalizing vs with
  | nil => rw [show vs = [] from r]; rfl
  | cons x xs ih =>
    obtain ⟨v, r', rfl, h1, h2⟩ := r
    rw [List.reverse_cons, List.reverse_cons]
    exact (ih h2).append (.one h1)
theorem row_seen {d : D} {xs : List D} {v : V} (hh : Holds F H) (s : Seen B F H d v) (h : rowOf d = some xs) : xs.length ≤ sizeLine ∧ ∃ p vs, v = .ref p ∧ RepL B F xs vs ∧ ((SqL B.K H p vs ∧ d = .lst xs) ∨ (SqT B.K H p vs ∧ d = .tup xs)) := by
  cases d with
  | lst ys => cases h; obtain ⟨p, vs, rfl, a, z, r⟩ := s; exact ⟨z, p, vs, rfl, r, .inl ⟨a, rfl⟩⟩
  | tup ys => cases h; obtain ⟨p, vs, rfl, a, z, r⟩ := s; exact ⟨z, p, vs, rfl, r, .inr ⟨a.sq hh, rfl⟩⟩
  | _ => cases h
theorem do_listOf (hK : X.K = B.K) (ha : DE B X W a ma) (hm : X.mg "list" = none) (hg : Gl X "list" := by rfl)
    (he : starEach [a] X.env = (false, eval a X.env) :: starEach [] X.env := by rfl) (hpl : (backTo pos (starEach [] X.env)).any (·.1) = false := by rfl) : DO B X W (.Call (.Name "list" p) [a] [] pos) (mB1 oListOf ma) :=
  do_t1 call_list_of (fun F H a o x Q hh sa e q => by
    obtain ⟨xs, hx, rfl⟩ := Option.map_eq_some_iff.mp e
    obtain ⟨z, p, vs, rfl, r, k⟩ := row_seen hh sa hx
    refine ⟨p, vs, rfl, by rw [hK]; exact k.imp And.left And.left, fun l hl => ?_⟩
    obtain ⟨s3, h3⟩ := step0_mk (u := .lst vs) hh hl
    exact q l _ s3 h3 hl ⟨z, vs, upd_same, r⟩) ha hm (by decide +kernel) hg (by decide) (by decide) he hpl
theorem de_tupOf (hK : X.K = B.K) (ha : DE B X W a ma) (hm : X.mg "tuple" = none) (hg : Gl X "tuple" := by rfl)
    (he : starEach [a] X.env = (false, eval a X.env) :: starEach [] X.env := by rfl) (hpl : (backTo pos (starEach [] X.env)).any (·.1) = false := by rfl) : DE B X W (.Call (.Name "tuple" p) [a] [] pos) (mD (mB1 dTupOf ma)) :=
  de_t1 call_tuple_of (fun F H a d x Q hh sa e q => by
    obtain ⟨xs, hx, rfl⟩ := Option.map_eq_some_iff.mp e
    obtain ⟨z, p, vs, rfl, r, k⟩ := row_seen hh sa hx
    refine ⟨p, vs, rfl, ?_⟩
    rcases k with ⟨k, rfl⟩ | ⟨k, rfl⟩
    · refine .inl ⟨by rw [hK]; exact k, fun l hl => ?_⟩
      obtain ⟨s3, h3⟩ := step0_new (u := .tup vs) hh hl
      exact q (.ref l) _ _ s3 h3 ⟨l, vs, rfl, .inl upd_same, z, r.mono s3.le⟩
    · exact .inr ⟨by rw [hK]; exact k, q (.ref p) F H (Step.refl _ _ _) hh sa⟩) ha hm (by decide +kernel) hg (by decide) (by decide) he hpl
theorem do_rev {kk : Nat} (hK : X.K = B.K) (ha : DE B X W a ma) : DO B X W (.Subscript a (.Slice none none (some (.UnaryOp .USub (.Constant (.int 1) kk p1) p2)) p3) pos) (mB1 oRev ma) := PE.imp (pe_revL ha) fun σ H Q h => by
  have hp : PrimO1 B oRev (fun x H Q => ∃ a xs, x = V.ref a ∧ SqL X.K H a xs ∧ ∀ q, H q = none → Q (.ref q) (upd H q (.lst xs.reverse))) := fun F H a o x Q hh sa e q => by
    cases a with
    | lst xs =>
      cases e
      obtain ⟨p, vs, rfl, a, z, r⟩ := sa
      refine ⟨p, vs, rfl, by rw [hK]; exact a, fun l hl => ?_⟩
      obtain ⟨s3, h3⟩ := step0_mk (u := .lst vs.reverse) hh hl
      exact q l _ s3 h3 hl ⟨by rw [List.length_reverse]; exact z, _, upd_same, r.rev⟩
    | _ => cases e
  exact opO1 hp h
end
section
variable {P : Program} {w : World} {K : PySem.W.Frag} {mg : Str → Option Value} {base : Heap} {B : Bx} {c : String} {nm f : Str} {n j k : Nat} {g : Fn}
theorem EqC.mono (h : EqC P w K mg base B c j g) (l : j ≤ k) : EqC P w K mg base B c k g := by
  obtain ⟨C, fa, fd, ps, h1, h2, h3, G, r⟩ := h.ex
  exact ⟨C, fa, fd, ps, h1, h2, h3, G.mono l, r⟩
theorem SpC.mono (h : SpC P w K mg base B c nm n j g) (l : j ≤ k) : SpC P w K mg base B c nm n k g := by
  obtain ⟨C, fa, fd, ps, h1, h2, h3, G, r⟩ := h.ex
  exact ⟨C, fa, fd, ps, h1, h2, h3, G.mono l, r⟩
theorem GtC.mono (h : GtC P w K mg base B c j g) (l : j ≤ k) : GtC P w K mg base B c k g := by
  obtain ⟨C, fa, fd, ps, h1, h2, h3, h4, G, r⟩ := h.ex
  exact ⟨C, fa, fd, ps, h1, h2, h3, h4, G.mono l, r⟩
theorem PrC.mono (h : PrC P w K mg base B c f j g) (l : j ≤ k) : PrC P w K mg base B c f k g := by
  obtain ⟨C, p, fa, fd, ps, h1, h2, G, r⟩ := h.ex
  exact ⟨C, p, fa, fd, ps, h1, h2, G.mono l, r⟩
theorem MtC.mono (h : MtC P w K mg base B c nm n j g) (l : j ≤ k) : MtC P w K mg base B c nm n k g := by
  obtain ⟨C, fa, fd, ps, h1, h2, G, r⟩ := h.ex
  exact ⟨C, fa, fd, ps, h1, h2, G.mono l, r⟩
end
section
variable {K : PySem.W.Frag} {cs : List (String × Addr)} {es : List (String × Addr × Str)}
theorem look_inj {C : Addr} : ∀ {l : List (String × Addr)} {c c' : String}, (l.map (·.2)).Nodup → l.lookup c = some C → l.lookup c' = some C → c = c' := fun {l} {c c'} nd h h' => by
  have m1 := look_mem h
  have m2 := look_mem h'
  obtain ⟨i, hi⟩ := List.getElem?_of_mem m1
  obtain ⟨j, hj⟩ := List.getElem?_of_mem m2
  have e1 : (l.map (·.2))[i]? = some C := by rw [List.getElem?_map, hi]; rfl
  have e2 : (l.map (·.2))[j]? = some C := by rw [List.getElem?_map, hj]; rfl
  have li : i < (l.map (·.2)).length := (List.getElem?_eq_some_iff.mp e1).1
  have : i = j := (List.getElem?_inj li nd).mp (e1.trans e2.symm)
  subst this
  rw [hi] at hj
  injection hj with z
  injection z with z1 _
theorem kls_of (nd : (cs.map (·.2)).Nodup) (h : ∀ p ∈ cs, PySem.W.selfFirst K p.2 = true) : Kls (bxOf K cs es) K := ⟨fun c c' C a b => look_inj nd a b, fun c C e => h _ (look_mem e)⟩
theorem nofill_of {fw rv : String → Option Fn} {nm : String} (h : ∀ p ∈ cs, fw p.1 = none → rv p.1 = none → NoFill K p.2 nm) : ∀ c C, (bxOf K cs es).cls c = some C → fw c = none → rv c = none → NoFill K C nm := fun c C e => h _ (look_mem e)
end
end AN

set_option Elab.async false
set_option maxRecDepth 100000
set_option autoImplicit false
set_option linter.unusedVariables false
/-! f([..], e, ..): a new object handed to a def that changes it -/
namespace AN
open PySem PySem.Spec PyProof.Rows L2
def callT (f : Fn) (n : Nat) (o : O) (xs : List Opd) : M Ret := fun env => if xs.length = n then (match frzs xs env with
  | .ok ds e1 => (match f (.ow true o :: ds.map .fz) with
    | .ok r _ => .ok r e1
    | .exc c d _ => .exc c d e1
    | .bad => .bad)
  | _ => .bad) else .bad
def mCallT (f : Fn) (n : Nat) (mo : M O) (ms : M (List Opd)) : M Opd := M.bind mo fun o => M.bind ms fun xs => M.bind (callT f n o xs) fun r => M.pure (.d r.toD)
section
variable {B : Bx} {X : Cx} {W : WX} {F H F1 H1 F' H' : Hp} {env e1 : AN.Env} {σ : L2.St} {Q : VK} {a b e o : Expr} {es : List Expr} {ma mb : M Opd} {mo : M O} {ms : M (List Opd)} {pos p : Pos} {k n : Nat} {f : Fn}
theorem Sim.stepN {own : Addr → Prop} (S : Sim B F env σ H) (s : Step own F H F' H') (hh : Holds F' H') (dis : ∀ b, own b → ¬ Own env σ b) : Sim B F' env σ H' where
  hold := hh
  len := S.len
  fz := fun i d e => let ⟨v, a, b⟩ := S.fz i d e; ⟨v, a, Rep.mono s.le d v b⟩
  ow := fun i k o e => by
    obtain ⟨p, a, b, c⟩ := S.ow i k o e
    obtain ⟨u, hu⟩ := c.ex
    have np : ¬ own p := fun z => dis p z ⟨i, k, o, e, a⟩
    refine ⟨p, a, ?_, c.mono s.le fun u e => s.keep p u e np⟩
    cases q : F' p with
    | none => rfl
    | some w =>
      rcases s.new p w q with z | z | z
      · rw [b] at z; cases z
      · rw [hu] at z; cases z
      · exact (np z).elim
  sep := S.sep
theorem callT_de (h : tE B W (mCallT f n mo ms) σ H Q) : tO B W mo σ H fun v H1 => tA B W ms σ H1 fun vs H2 => spOf B (n + 1) f (v :: vs) H2 Q (WE W σ) := by
  obtain ⟨F, env, S, h⟩ := h
  unfold mCallT M.bind at h
  refine ⟨F, env, S, ?_⟩
  cases q : mo env with
  | bad => rw [q] at h; exact h
  | exc c d e' => rw [q] at h; exact h
  | ok o e1 =>
    rw [q] at h
    intro F1 H1 s1 m1 l1 p hp hf ho
    have tr1 : ∀ {F2 H2 : Hp}, Step (Own e1 σ) F1 H1 F2 H2 → Step (Own env σ) F H F2 H2 := fun s2 => s1.trans s2 fun b z => .inl (l1.own z)
    have np : ¬ Own e1 σ p := fun z => by
      obtain ⟨_, u, hu⟩ := (l1.own z).ex S
      rw [hp] at hu; cases hu
    obtain ⟨u0, hu0⟩ := ho.ex
    refine ⟨F1, e1, m1, ?_⟩
    dsimp only at h
    cases q2 : ms e1 with
    | bad => rw [q2] at h; exact h
    | exc c d e' =>
      rw [q2] at h
      obtain ⟨C, fld, hb, h⟩ := h
      exact ⟨C, fld, hb, fun F' H' dx v s ⟨m', l⟩ hd hf h0 r => h F' H' dx v (tr1 s) ⟨m', l1.trans l⟩ hd hf (s1.back h0) r⟩
    | ok xs e2 =>
      rw [q2] at h
      intro F2 H2 s2 m2 l2 vs rvs
      dsimp only at h
      unfold callT at h
      by_cases hn : xs.length = n
      · simp only [if_pos hn] at h
        cases q3 : frzs xs e2 with
        | bad => rw [q3] at h; exact h.elim
        | exc c d e' => rw [q3] at h; exact h.elim
        | ok ds e3 =>
          rw [q3] at h
          obtain ⟨ds', e3', F3, s3, m3, l3, r3, q4⟩ := m2.frzs (W := W) rvs (k := fun d' e' _ _ => d' = ds ∧ e' = e3) (by rw [q3]; exact fun _ _ _ _ _ => ⟨rfl, rfl⟩)
          obtain ⟨rfl, rfl⟩ := q4
          have st12 := s2.trans s3 fun b z => .inl (l2.own z)
          have fn3 : F3 p = none := by
            cases z : F3 p with
            | none => rfl
            | some u =>
              rcases st12.new p u z with y | y | y
              · rw [hf] at y; cases y
              · rw [hu0] at y; cases y
              · exact (np y).elim
          have ho3 : OAt B F3 H2 p o := ho.mono st12.le fun u e => s2.keep p u e np
          have np3 : ¬ Own e3' σ p := fun z => np (l2.own (l3.own z))
          have base := sim_fz m3.hold r3
          have sim : Sim B F3 (.ow true o :: ds'.map .fz) ((V.ref p :: vs).map some) H2 := by
            have no : ∀ {i : Nat} {k : Bool} {o' : O}, (AN.Slot.ow true o :: ds'.map .fz)[i]? = some (.ow k o') → i = 0 ∧ k = true ∧ o' = o := fun {i k o'} q => by
              cases i with
              | zero => simp at q; exact ⟨rfl, q.1, q.2.symm⟩
              | succ i =>
                simp only [List.getElem?_cons_succ, List.getElem?_map] at q
                cases e : ds'[i]? with
                | none => rw [e] at q; cases q
                | some d' => rw [e] at q; cases q
            refine ⟨m3.hold, ?_, fun i d q => ?_, fun i k o' q => ?_, fun i j k o' k' o'' p a1 a2 _ _ => (no a1).1.trans (no a2).1.symm⟩
            · have := base.len
              simp only [List.length_cons, List.length_map] at this ⊢
              rw [this]
            · cases i with
              | zero => simp at q
              | succ i => simp only [List.getElem?_cons_succ, List.map_cons] at q ⊢; exact base.fz i d q
            · obtain ⟨rfl, rfl, rfl⟩ := no q
              exact ⟨p, rfl, fn3, ho3⟩
          have pin : PinOnly (.ow true o :: ds'.map .fz) := fun i k o' q => by
            cases i with
            | zero => simp at q; exact q.1
            | succ i => exact fz_pin (ds := ds') i k o' (by simpa using q)
          have own : ∀ {b : Addr}, Own (.ow true o :: ds'.map .fz) ((V.ref p :: vs).map some) b → b = p := fun {b} z => by
            obtain ⟨i, k, o', q, y⟩ := z
            cases i with
            | zero => simp at y; exact y.symm
            | succ i => exact (fz_own (ds := ds') (σ := vs.map some) (b := b) ⟨i, k, o', by simpa using q, by simpa using y⟩).elim
          have tr : ∀ {F' H' : Hp}, Step (Own (.ow true o :: ds'.map .fz) ((V.ref p :: vs).map some)) F3 H2 F' H' → Step (Own env σ) F H F' H' := fun s => (tr1 st12).trans s fun b z => .inr (by rw [own z]; exact hp)
          have sm : ∀ {F' H' : Hp}, Step (Own (.ow true o :: ds'.map .fz) ((V.ref p :: vs).map some)) F3 H2 F' H' → Holds F' H' → Sim B F' e3' σ H' := fun s hh => m3.stepN s hh fun b z => by rw [own z]; exact np3
          have l13 := l1.trans (l2.trans l3)
          refine ⟨by rw [List.length_cons, rvs.len, hn], F3, _, sim, pin, ?_⟩
          dsimp only at h
          cases qr : f (.ow true o :: ds'.map .fz) with
          | bad => simp only [qr] at h; exact h.elim
          | exc c2 d a' =>
            simp only [qr] at h
            obtain ⟨C2, fld, hb, h⟩ := h
            exact ⟨C2, fld, hb, fun F' H' dx' v s m hd hf h0 r => h F' H' dx' v (tr s) ⟨sm s m.hold, l13⟩ hd hf (s1.back (st12.back h0)) r⟩
          | ok r a' =>
            simp only [qr] at h
            cases r with
            | fz d =>
              intro v F' H' s m r
              exact h F' H' (tr s) (sm s m.hold) l13 v r
            | ow o2 =>
              intro p2 F' H' s m hp2 hf2 ho2
              obtain ⟨u, hu, r⟩ := ho2.data hf2
              have np2 : ¬ Own e3' σ p2 := fun z => by
                obtain ⟨_, u, hu⟩ := z.ex m3
                rw [hp2] at hu; cases hu
              have hne : p2 ≠ p := fun z => by
                subst z
                obtain ⟨u, hu⟩ := ho3.ex
                rw [hp2] at hu; cases hu
              refine h (upd F' p2 u) H' ⟨(tr s).le.trans (Le.upd hf2), (tr s).keep, fun b w q => ?_, (tr s).stay⟩ ((sm s m.hold).data np2 hf2 hu) l13 (.ref p2) r
              by_cases hb : b = p2
              · subst hb; exact .inr (.inl (s1.back (st12.back hp2)))
              · rw [upd_ne hb] at q; exact (tr s).new b w q
      · simp only [if_neg hn] at h; exact h.elim
end
section
variable {B : Bx} {X : Cx} {W : WX} {a : Expr} {es : List Expr} {mo : M O} {ms : M (List Opd)} {pos p : Pos} {k n : Nat} {f : Fn} {x : Str} {q0 : Str} {ps : List Str}
theorem dcT (C : Cal X.prog X.w X.K X.mg X.base B x k (q0 :: ps) f) (hr : Room k X.A) (tk : Takes X W) (ho : DO B X W a mo) (ha : DA B X W es ms) (hg : Gl X x := by rfl) (hdb : (x == ("__debug__" : Str)) = false := by decide)
    (he : starEach (a :: es) X.env = (false, eval a X.env) :: starEach es X.env := by rfl) (hpl : (backTo pos (starEach es X.env)).any (·.1) = false := by rfl) : DE B X W (.Call (.Name x p) (a :: es) [] pos) (mCallT f ps.length mo ms) := by
  obtain ⟨fa, fd, G, hm, hk, hb⟩ := C.ex
  exact PE.imp (pe_callS (E := WE W) G hr hg hm hk hb (fun σ => passAt tk σ) (pa_cons ho ha he) hdb he hpl) fun σ H Q h => callT_de h
@[simp] theorem mCallT_r {e : AN.Env} : mCallT f n mo ms e = R.th (mo e) fun o e => R.th (ms e) fun xs e => R.th (callT f n o xs e) fun r e => .ok (.d r.toD) e := rfl
theorem callT_ok {o : O} {xs : List Opd} {ds : List D} {e e1 : AN.Env} {r : Ret} {as : List AN.Slot} (hn : xs.length = n) (h1 : frzs xs e = .ok ds e1) (h2 : f (.ow true o :: ds.map .fz) = .ok r as) : callT f n o xs e = .ok r e1 := by
  unfold callT
  rw [if_pos hn, h1]
  dsimp only
  rw [h2]
end
end AN

set_option Elab.async false
set_option maxRecDepth 100000
set_option autoImplicit false
set_option linter.unusedVariables false
/-! running mirrors: calls, stars -/
namespace AN
open PySem PySem.Spec PyProof.Rows L2
section
variable {f : Fn} {d d2 d3 x z : D} {o : O} {c : String} {e : AN.Env} {as : List AN.Slot} {ma : M Opd} {ms : M (List Opd)}
theorem frzs_d : ∀ {ds : List D} {e : AN.Env}, frzs (ds.map .d) e = .ok ds e
  | [], e => rfl
  | d :: ds, e => by simp only [List.map_cons, frzs_cons, frz1_d, th_ok, frzs_d]
theorem frzs_app {ds : List D} {d : D} {e : AN.Env} : frzs (ds.map .d ++ [.d d]) e = .ok (ds ++ [d]) e := by
  have : ds.map Opd.d ++ [.d d] = (ds ++ [d]).map .d := by simp
  rw [this, frzs_d]
theorem frzs_app2 {ds es : List D} {e : AN.Env} : frzs (ds.map .d ++ (es.map .d ++ [])) e = .ok (ds ++ es) e := by
  have : ds.map Opd.d ++ (es.map .d ++ []) = (ds ++ es).map .d := by simp
  rw [this, frzs_d]
theorem frzs_app0 {ds : List D} {e : AN.Env} : frzs (ds.map .d ++ []) e = .ok ds e := by rw [List.append_nil, frzs_d]
/-- a call with data -/
theorem callP_d {n : Nat} {ds : List D} (hn : ds.length = n) : callP n f (ds.map .d) e = (match f (ds.map .fz) with
  | .ok r _ => .ok r e
  | .exc c x _ => .exc c x e
  | .bad => .bad) := by
  unfold callP
  rw [if_pos (by rw [List.length_map]; exact hn), frzs_d]
  dsimp only
  cases f (ds.map .fz) with
  | ok r _ => cases q : scalar r.toD <;> simp [q]
  | exc _ _ _ => rfl
  | bad => rfl
theorem callN0 (h : f [] = .ok (.fz z) as) : callP 0 f [] e = .ok (.fz z) e := by
  have := callP_d (f := f) (n := 0) (ds := []) (e := e) rfl
  simpa [h] using this
theorem callO0 (h : f [] = .ok (.ow o) as) : callP 0 f [] e = .ok (.ow o) e := by
  have := callP_d (f := f) (n := 0) (ds := []) (e := e) rfl
  simpa [h] using this
theorem callN1 (h : f [.fz d] = .ok (.fz z) as) : callP 1 f [.d d] e = .ok (.fz z) e := by
  have := callP_d (f := f) (n := 1) (ds := [d]) (e := e) rfl
  simpa [h] using this
theorem callO1 (h : f [.fz d] = .ok (.ow o) as) : callP 1 f [.d d] e = .ok (.ow o) e := by
  have := callP_d (f := f) (n := 1) (ds := [d]) (e := e) rfl
  simpa [h] using this
theorem callX1 (h : f [.fz d] = .exc c x as) : callP 1 f [.d d] e = .exc c x e := by
  have := callP_d (f := f) (n := 1) (ds := [d]) (e := e) rfl
  simpa [h] using this
theorem callN2 (h : f [.fz d, .fz d2] = .ok (.fz z) as) : callP 2 f [.d d, .d d2] e = .ok (.fz z) e := by
  have := callP_d (f := f) (n := 2) (ds := [d, d2]) (e := e) rfl
  simpa [h] using this
theorem callO2 (h : f [.fz d, .fz d2] = .ok (.ow o) as) : callP 2 f [.d d, .d d2] e = .ok (.ow o) e := by
  have := callP_d (f := f) (n := 2) (ds := [d, d2]) (e := e) rfl
  simpa [h] using this
theorem callX2 (h : f [.fz d, .fz d2] = .exc c x as) : callP 2 f [.d d, .d d2] e = .exc c x e := by
  have := callP_d (f := f) (n := 2) (ds := [d, d2]) (e := e) rfl
  simpa [h] using this
theorem callN3 (h : f [.fz d, .fz d2, .fz d3] = .ok (.fz z) as) : callP 3 f [.d d, .d d2, .d d3] e = .ok (.fz z) e := by
  have := callP_d (f := f) (n := 3) (ds := [d, d2, d3]) (e := e) rfl
  simpa [h] using this
theorem callO3 (h : f [.fz d, .fz d2, .fz d3] = .ok (.ow o) as) : callP 3 f [.d d, .d d2, .d d3] e = .ok (.ow o) e := by
  have := callP_d (f := f) (n := 3) (ds := [d, d2, d3]) (e := e) rfl
  simpa [h] using this
theorem callX3 (h : f [.fz d, .fz d2, .fz d3] = .exc c x as) : callP 3 f [.d d, .d d2, .d d3] e = .exc c x e := by
  have := callP_d (f := f) (n := 3) (ds := [d, d2, d3]) (e := e) rfl
  simpa [h] using this
@[simp] theorem mAS_r : mAS ma ms e = R.th (ma e) fun x e => R.th (ap1 rowOf x e) fun ds e => R.th (ms e) fun xs e => .ok (ds.map .d ++ xs) e := rfl
@[simp] theorem mMake_r {c : String} {n : Nat} : mMake c n f ms e = R.th (ms e) fun xs e => makeP c n f xs e := rfl
@[simp] theorem mMakeSt_r {c : String} : mMakeSt c f ms e = R.th (ms e) fun xs e => makeSt c f xs e := rfl
@[simp] theorem callD_r {n : Nat} {xs : List Opd} : callD n f xs e = R.th (callP n f xs e) fun r e => .ok (.d r.toD) e := rfl
@[simp] theorem callO_r {n : Nat} {xs : List Opd} : callO n f xs e = R.th (callP n f xs e) retO := rfl
@[simp] theorem mOp2_r {sel : D → D → Option (Fn × Bool)} {g : D → D → Option D} {mb : M Opd} : mOp2 sel g ma mb e = R.th (ma e) fun x e => R.th (mb e) fun y e => opP sel g x y e := rfl
@[simp] theorem mIxO_r {t : String → Option Fn} {g : D → D → Option D} {mb : M Opd} : mIxO t g ma mb e = R.th (ma e) fun x e => R.th (mb e) fun y e => ixP t g x y e := rfl
@[simp] theorem mAt_r {t : String → Option Fn} {ok : String → Bool} {g : Str} : mAt t ok g ma e = R.th (ma e) fun x e => atP t ok g x e := rfl
@[simp] theorem mRaise_r {c : String} : mRaise c ma e = R.th (ma e) fun x e => R.th (frz1 x e) fun d e => .exc c d e := rfl
@[simp] theorem mSetF_r {ok : String → Bool} {i : Nat} {g : Str} : mSetF ok i g ma e = R.th (ma e) fun x e => R.th (frz1 x e) fun d e => setF ok i g d e := rfl
@[simp] theorem mMeth_r {t : String → Option Fn} {m : Str} {n : Nat} {mo : M Opd} : mMeth t m n mo ms e = R.th (mo e) fun x e => R.th (ap1 (selM t m) x e) fun f e => R.th (ms e) fun xs e => callD n f (x :: xs) e := rfl
@[simp] theorem mMethO_r {t : String → Option Fn} {m : Str} {n : Nat} {mo : M Opd} : mMethO t m n mo ms e = R.th (mo e) fun x e => R.th (ap1 (selM t m) x e) fun f e => R.th (ms e) fun xs e => callO n f (x :: xs) e := rfl
@[simp] theorem mEnum_r : mEnum ma e = R.th (ma e) fun x e => R.th (frz1 x e) fun d e => rop (enumOf d) e := th_congr fun u e => th_congr fun v e => rfl
def R.hd (hs : List Hnd) : R Fl → R Fl
  | .exc c d e => handle c d hs e
  | r => r
@[simp] theorem mTry_r {mb : M Fl} {hs : List Hnd} : mTry mb hs e = (mb e).hd hs := by
  unfold mTry R.hd
  cases mb e <;> rfl
@[simp] theorem hd_ok {fl : Fl} {hs : List Hnd} : R.hd hs (.ok fl e) = .ok fl e := rfl
@[simp] theorem hd_exc {hs : List Hnd} : R.hd hs (.exc c d e) = handle c d hs e := rfl
@[simp] theorem hd_bad {hs : List Hnd} : R.hd hs .bad = .bad := rfl
end
end AN

set_option Elab.async false
set_option maxRecDepth 100000
set_option autoImplicit false
set_option linter.unusedVariables false
/-! a comprehension over a list that a name alone holds: the name is not read inside -/
namespace AN
open PySem PySem.Spec PyProof.Rows L2
def mLCo (i : Nat) (vs : List Nat) (g : D → AN.Env → Option AN.Env) (mt : M Bool) (me : M Opd) : M O := fun env => match env[i]? with
  | some (.ow k (.lst ds)) => if i ∈ vs then .bad else (match lc vs g mt me ds [] (wipeE vs 0 (env.set i .no)) with
    | .ok acc e2 => .ok (.lst acc) ((restE vs 0 (env.set i .no) e2).set i (.ow k (.lst ds)))
    | _ => .bad)
  | _ => .bad
section
variable {B : Bx} {X : Cx} {W : WX} {F H F1 H1 F2 H2 : Hp} {env e1 e2 : AN.Env} {σ : L2.St} {Q : VK}
theorem set_no {i j : Nat} {s : AN.Slot} (h : (env.set i .no)[j]? = some s) (hs : s ≠ .no) : j ≠ i ∧ env[j]? = some s := by
  rcases getElem?_setS h with ⟨_, e⟩ | ⟨ne, e⟩
  · exact absurd e hs
  · exact ⟨fun z => ne z.symm, e⟩
theorem Sim.insO {i : Nat} {k : Bool} {o : O} {p : Addr} {s0 : AN.Slot} (S : Sim B F env σ H) (h0 : env[i]? = some s0) (hp : σ[i]? = some (some (.ref p))) (np : ¬ Own env σ p) (hf : F p = none) (ho : OAt B F H p o) : Sim B F (env.set i (.ow k o)) σ H where
  hold := S.hold
  len := by rw [List.length_set]; exact S.len
  fz := fun j d q => by
    rcases getElem?_setS q with ⟨_, e⟩ | ⟨ne, e⟩
    · cases e
    · exact S.fz j d e
  ow := fun j k' o' q => by
    rcases getElem?_setS q with ⟨e1, e⟩ | ⟨ne, e⟩
    · cases e; subst e1; exact ⟨p, hp, hf, ho⟩
    · exact S.ow j k' o' e
  sep := fun j j' k1 o1 k2 o2 b a1 a2 b1 b2 => by
    rcases getElem?_setS a1 with ⟨e1, e⟩ | ⟨ne, e⟩
    · rcases getElem?_setS a2 with ⟨e1', e'⟩ | ⟨ne', e'⟩
      · exact e1.symm.trans e1'
      · subst e1
        rw [hp] at b1; cases b1
        exact (np ⟨j', k2, o2, e', b2⟩).elim
    · rcases getElem?_setS a2 with ⟨e1', e'⟩ | ⟨ne', e'⟩
      · subst e1'
        rw [hp] at b2; cases b2
        exact (np ⟨j, k1, o1, e, b1⟩).elim
      · exact S.sep j j' k1 o1 k2 o2 b e e' b1 b2
theorem lco_read {i0 : Nat} {vs ns : List Nat} {g : D → AN.Env → Option AN.Env} {mt : M Bool} {me : M Opd} {Q : VK} (hK : X.K = B.K) (hns : ∀ i ∈ ns, i ∈ vs) (h : tO B W (mLCo i0 vs g mt me) σ H Q) :
    tLc (iList X.K (fun σ H Q => ∃ v, σ[i0]? = some (some v) ∧ Q v H)) (tG B ns g) (tT B WF mt) (tE B WF me) vs σ H Q := by
  obtain ⟨F1, env, S, k1⟩ := h
  unfold mLCo at k1
  cases qi : env[i0]? with
  | none => rw [qi] at k1; exact k1.elim
  | some sl =>
  rw [qi] at k1
  cases sl with
  | no => exact k1.elim
  | fz _ => exact k1.elim
  | ow kk ob =>
  cases ob with
  | dic _ => exact k1.elim
  | obj _ _ => exact k1.elim
  | lst ds =>
  dsimp only at k1
  obtain ⟨pp, hsp, hfp, ⟨hz, vp, hHp, rlp⟩⟩ := S.ow i0 kk _ qi
  refine ⟨.ref pp, hsp, pp, rfl, ⟨vp, .inl (.inl hHp)⟩, fun Dd hD => ?_⟩
  by_cases hv : i0 ∈ vs
  · rw [if_pos hv] at k1; exact k1.elim
  · rw [if_neg hv] at k1
    let e1 := env.set i0 .no
    have m1 : Sim B F1 e1 σ H := S.drop
    have own0 : ∀ {b : Addr}, Own e1 σ b → Own env σ b := fun {b} z => by
      obtain ⟨j, k', o', q, y⟩ := z
      exact ⟨j, k', o', (set_no q (fun z => nomatch z)).2, y⟩
    have npp : ¬ Own e1 σ pp := fun z => by
      obtain ⟨j, k', o', q, y⟩ := z
      obtain ⟨ne, q'⟩ := set_no q (fun z => nomatch z)
      exact ne (S.sep i0 j kk _ k' o' pp qi q' hsp y).symm
    have nppw : ¬ Own (wipeE vs 0 e1) (wipe σ vs) pp := fun z => npp (wiped_own z)
    have ppD : pp ≠ Dd := fun z => by rw [z, hD] at hHp; cases hHp
    cases ql : lc vs g mt me ds [] (wipeE vs 0 e1) with
    | bad => simp only [ql, e1] at k1; exact k1.elim
    | exc c d e' => simp only [ql, e1] at k1; exact k1.elim
    | ok acc e2 =>
      replace k1 : Post B W F1 env σ H (fun o _ F' H' => ∀ p, H p = none → F' p = none → OAt B F' H' p o → Q (.ref p) H') (.ok (.lst acc) ((restE vs 0 e1 e2).set i0 (.ow kk (.lst ds)))) := by
        have z : lc vs g mt me ds [] (wipeE vs 0 (env.set i0 .no)) = .ok acc e2 := ql
        rw [z] at k1
        exact k1
      have nD : ¬ Own e1 σ Dd := fun z => by
        obtain ⟨_, u, hu⟩ := z.ex m1
        rw [hD] at hu; cases hu
      have nDw : ¬ Own (wipeE vs 0 e1) (wipe σ vs) Dd := fun z => nD (wiped_own z)
      have fD : F1 Dd = none := m1.hold.none hD
      obtain ⟨s0, hh0⟩ := step0_mk (u := .lst []) m1.hold hD
      have mw := (m1.step0 s0 hh0).wiped vs
      refine ⟨fun i m H' => i ≤ ds.length ∧ m = ds.length - i ∧ ∃ F' e' acc' av, Step (fun b => Own (wipeE vs 0 e1) (wipe σ vs) b ∨ b = Dd) F1 (upd H Dd (.lst [])) F' H' ∧ Sim B F' e' (wipe σ vs) H' ∧ EnvLe (wipeE vs 0 e1) e' ∧ H' Dd = some (.lst av) ∧ F' Dd = none ∧ RepL B F' acc' av ∧ acc'.length ≤ i ∧ lc vs g mt me (ds.drop i) acc' e' = .ok acc e2 ∧ H' pp = some (.lst vp) ∧ F' pp = none,
        ⟨ds.length, Nat.zero_le _, rfl, F1, wipeE vs 0 e1, [], [], Step.refl _ _ _, mw, EnvLe.refl _, upd_same, fD, rfl, Nat.zero_le _, ql, by rw [upd_ne ppD]; exact hHp, hfp⟩, ?_⟩
      rintro i m H' ⟨hi, rfl, F', e', acc', av, st, sm, le', hav, hfd, rl, hal, hlc, hpp, hfpp⟩
      have sq : SqL X.K H' pp vp := .inl (.inl hpp)
      have own_e : ∀ {b : Addr}, Own e' (wipe σ vs) b → Own (wipeE vs 0 e1) (wipe σ vs) b := fun z => le'.own z
      have nDe : ¬ Own e' (wipe σ vs) Dd := fun z => nDw (own_e z)
      cases q : ds[i]? with
      | none =>
        have e : i = ds.length := by
          have := List.getElem?_eq_none_iff.mp q
          omega
        left
        rw [e, List.drop_length] at hlc
        cases hlc
        refine ⟨⟨vp, sq, by rw [rlp.length, e]; exact Nat.le_refl _⟩, ?_⟩
        have stt : Step (Own e1 σ) F1 H F' H' := (s0.any (own := Own e1 σ)).trans st fun b z => by
          rcases z with z | z
          · exact .inl (wiped_own z)
          · exact .inr (by rw [z]; exact hD)
        obtain ⟨sr, lr⟩ := m1.rest sm le' st.le (fun b o e n => by
            by_cases hb : b = Dd
            · rw [hb, hD] at e; cases e
            · exact st.keep b o (by rw [upd_ne hb]; exact e) fun z => z.elim n hb) (fun j k o b hj z1 z2 => by
            obtain ⟨z3, u, hu⟩ := Own.ex m1 ⟨j, k, o, z1, z2⟩
            have hb : b ≠ Dd := fun y => by rw [y, hD] at hu; cases hu
            cases w : F' b with
            | none => rfl
            | some w' =>
              rcases st.new b w' w with y | y | y
              · rw [z3] at y; cases y
              · rw [upd_ne hb, hu] at y; cases y
              · rcases y with ⟨j', k', o', q1, q2⟩ | y
                · obtain ⟨hj', q3⟩ := wipeE_some q1 (fun z => nomatch z)
                  rw [wipe_get hj'] at q2
                  have := m1.sep j j' k o k' o' b z1 q3 z2 q2
                  subst this
                  exact absurd hj hj'
                · exact absurd y hb)
        have lenR : i0 < (restE vs 0 e1 e2).length := by
          rw [restE_len]
          have a := sm.len
          rw [wipe_length] at a
          have b := (List.getElem?_eq_some_iff.mp qi).1
          have c := S.len
          omega
        have nR : ¬ Own (restE vs 0 e1 e2) σ pp := fun z => npp (lr.own z)
        have sR := Sim.insO (k := kk) (o := .lst ds) sr (List.getElem?_eq_getElem lenR) hsp nR hfpp ⟨hz, vp, hpp, rlp.mono st.le⟩
        refine k1 F' H' (stt.imp fun b z => own0 z) sR ⟨fun j k' o' q => ?_, fun j o' q => ?_⟩ Dd hD hfd ⟨by omega, av, hav, rl⟩
        · rcases getElem?_setS q with ⟨e1', e2'⟩ | ⟨ne, e2'⟩
          · cases e2'; subst e1'; exact ⟨_, qi⟩
          · obtain ⟨o2, z⟩ := lr.dn j k' o' e2'
            exact ⟨o2, (set_no z (fun z => nomatch z)).2⟩
        · by_cases hj : j = i0
          · subst hj
            rw [qi] at q; cases q
            exact ⟨_, by rw [List.getElem?_set_self lenR]⟩
          · obtain ⟨o2, z⟩ := lr.up j o' (by show (env.set i0 .no)[j]? = _; rw [List.getElem?_set_ne (Ne.symm hj)]; exact q)
            exact ⟨o2, by rw [List.getElem?_set_ne (Ne.symm hj)]; exact z⟩
      | some d =>
        right
        obtain ⟨vd, hvd, rvd⟩ := rlp.get q
        have go : (Itl X.K pp).go i H' := ⟨vp, vd, sq, hvd⟩
        have hlt : i < ds.length := (List.getElem?_eq_some_iff.mp q).1
        have hd : ds.drop i = d :: ds.drop (i + 1) := by
          rw [List.drop_eq_getElem_cons hlt]
          congr 1
          exact (List.getElem?_eq_some_iff.mp q).2
        rw [hd] at hlc
        refine ⟨go, fun H'' => i + 1 ≤ ds.length ∧ ∃ F' e' acc' av, Step (fun b => Own (wipeE vs 0 e1) (wipe σ vs) b ∨ b = Dd) F1 (upd H Dd (.lst [])) F' H'' ∧ Sim B F' e' (wipe σ vs) H'' ∧ EnvLe (wipeE vs 0 e1) e' ∧ H'' Dd = some (.lst av) ∧ F' Dd = none ∧ RepL B F' acc' av ∧ acc'.length ≤ i + 1 ∧ lc vs g mt me (ds.drop (i + 1)) acc' e' = .ok acc e2 ∧ H'' pp = some (.lst vp) ∧ F' pp = none,
          fun H'' z => ⟨ds.length - (i + 1), by omega, z.1, rfl, z.2⟩, fun x H2 y => ?_⟩
        obtain ⟨F2, s2, h2, r2, hpp2, hfpp2⟩ : ∃ F2, Step0 F' H' F2 H2 ∧ Holds F2 H2 ∧ Rep B F2 d x ∧ H2 pp = some (.lst vp) ∧ F2 pp = none := by
          obtain ⟨rfl, y⟩ := y
          have y2 := y vp sq
          rw [hvd] at y2; cases y2
          exact ⟨F', Step.refl _ _ _, sm.hold, Rep.mono st.le _ _ rvd, hpp, hfpp⟩
        have S2 := sm.step0 s2 h2
        have hav2 : H2 Dd = some (.lst av) := s2.keep _ _ hav id
        have hfd2 : F2 Dd = none := by
          cases w : F2 Dd with
          | none => rfl
          | some w' =>
            rcases s2.new _ _ w with y | y | y
            · rw [hfd] at y; cases y
            · rw [hav] at y; cases y
            · exact y.elim
        unfold lc at hlc
        cases qg : g d e' with
        | none => simp only [qg] at hlc; cases hlc
        | some e3 =>
          simp only [qg] at hlc
          refine ⟨F2, e', d, e3, S2, r2, qg, fun σ3 g3 w3 => ?_⟩
          have ws : wipe σ3 vs = wipe σ vs := wipe_eq (by rw [w3.len, wipe_length]) fun j hj => w3.rest j fun z => hj (hns j z)
          refine ⟨ws, F2, e3, g3.sim, ?_⟩
          have own3 : ∀ {b : Addr}, Own e3 σ3 b → Own (wipeE vs 0 e1) (wipe σ vs) b ∨ H2 b = none := fun z => (g3.owned z).imp own_e id
          have nD3 : ¬ Own e3 σ3 Dd := fun z => by
            rcases own3 z with z | z
            · exact nDw z
            · rw [hav2] at z; cases z
          have st2 : Step (fun b => Own (wipeE vs 0 e1) (wipe σ vs) b ∨ b = Dd) F1 (upd H Dd (.lst [])) F2 H2 := st.trans (s2.any (own := fun _ => False)) fun _ z => z.elim
          have stp : ∀ {F4 H4 : Hp}, Step (Own e3 σ3) F2 H2 F4 H4 → Step (fun b => Own (wipeE vs 0 e1) (wipe σ vs) b ∨ b = Dd) F1 (upd H Dd (.lst [])) F4 H4 := fun s4 => st2.trans s4 fun b z => by
            rcases own3 z with z | z
            · exact .inl (.inl z)
            · exact .inr (st2.back z)
          have dk : ∀ (F4 H4 : Hp), Step (Own e3 σ3) F2 H2 F4 H4 → H4 Dd = some (.lst av) ∧ F4 Dd = none := fun F4 H4 s4 => ⟨s4.keep _ _ hav2 nD3, by
            cases w : F4 Dd with
            | none => rfl
            | some w' =>
              rcases s4.new _ _ w with y | y | y
              · rw [hfd2] at y; cases y
              · rw [hav2] at y; cases y
              · exact absurd y nD3⟩
          have np3 : ¬ Own e3 σ3 pp := fun z => by
            rcases own3 z with z | z
            · exact nppw z
            · rw [hpp2] at z; cases z
          have pk : ∀ (F4 H4 : Hp), Step (Own e3 σ3) F2 H2 F4 H4 → H4 pp = some (.lst vp) ∧ F4 pp = none := fun F4 H4 s4 => ⟨s4.keep _ _ hpp2 np3, by
            cases w : F4 pp with
            | none => rfl
            | some w' =>
              rcases s4.new _ _ w with y | y | y
              · rw [hfpp2] at y; cases y
              · rw [hpp2] at y; cases y
              · exact absurd y np3⟩
          cases qt : mt e3 with
          | bad => simp only [qt] at hlc; cases hlc
          | exc c d' e4 => simp only [qt] at hlc; cases hlc
          | ok bt e4 =>
            intro F4 H4 s4 m4 l4
            obtain ⟨hav4, hfd4⟩ := dk _ _ s4
            cases bt with
            | false =>
              simp only [qt] at hlc
              refine iteF ⟨hlt, F4, wipeE vs 0 e4, acc', av, stp s4, m4.wiped2 ws, wipeE_le le' (w3.le.trans l4), hav4, hfd4, rl.mono (s2.le.trans s4.le), by omega, hlc, (pk _ _ s4).1, (pk _ _ s4).2⟩
            | true =>
              simp only [qt] at hlc
              cases qe : M.bind me frz1 e4 with
              | bad => simp only [qe] at hlc; cases hlc
              | exc c d' e5 => simp only [qe] at hlc; cases hlc
              | ok yv e5 =>
                simp only [qe] at hlc
                refine iteT ⟨F4, e4, m4, ?_⟩
                have pb : Post B WF F4 e4 σ3 H4 (fun d' e' F' H' => d' = yv ∧ e' = e5) (M.bind me frz1 e4) := by
                  rw [qe]; exact fun _ _ _ _ _ => ⟨rfl, rfl⟩
                refine (Post.bind m4 pb).mono fun xo e5' F5 H5 s5 m5 l5 k5 v rv => ?_
                obtain ⟨d6, e6, F6, s6, m6, l6, r6, rfl, rfl⟩ := m5.frz1 rv k5
                have s46 : Step (Own e3 σ3) F2 H2 F6 H5 := s4.trans ((s5.trans s6 fun b z => .inl (l5.own z)) : Step (Own e4 σ3) F4 H4 F6 H5) fun b z => .inl (l4.own z)
                obtain ⟨hav5, hfd5⟩ := dk _ _ s46
                have nD6 : ¬ Own e6 σ3 Dd := fun z => nD3 (l4.own (l5.own (l6.own z)))
                have hlen : av.length = acc'.length := rl.length
                refine ⟨av, hav5, by omega, hlt, F6, wipeE vs 0 e6, acc' ++ [d6], av ++ [v], ?_, (m6.updD hfd5 nD6).wiped2 ws, wipeE_le le' (w3.le.trans (l4.trans (l5.trans l6))), upd_same, hfd5, (rl.mono (s2.le.trans s46.le)).snoc r6, by rw [List.length_append, List.length_singleton]; omega, hlc, by rw [upd_ne ppD]; exact (pk _ _ s46).1, (pk _ _ s46).2⟩
                have sf := stp s46
                refine ⟨sf.le, fun b o e n => ?_, sf.new, fun b o e => ?_⟩
                · have hb : b ≠ Dd := fun z => n (.inr z)
                  rw [upd_ne hb]; exact sf.keep b o e n
                · by_cases hb : b = Dd
                  · exact ⟨_, by rw [hb]; exact upd_same⟩
                  · obtain ⟨o', e'⟩ := sf.stay b o e
                    exact ⟨o', by rw [upd_ne hb]; exact e'⟩
section
variable {elt tg : Expr} {ifs : List Expr} {scope : Scope} {own : List (Str × Nat)} {pos p : Pos} {ns : List Nat} {g : D → AN.Env → Option AN.Env} {mt : M Bool} {me : M Opd} {x : Str}
theorem do_lco (i0 : Nat) (hc : X.calm = true) (hN : X.N.Nodup) (hK : X.K = B.K) (ok : blkC X.N X.env.scope scope own = true)
    (hg : ∀ (s : Shared) (H : Hp) (C : Addr) (cl : List (Str × Addr)) (fp : List Addr), DG B (X.blk s H scope (compEnvC scope cl C X.env) fp) tg ns g)
    (ht : ∀ (s : Shared) (H : Hp) (C : Addr) (cl : List (Str × Addr)) (fp : List Addr), DTs B (X.blk s H scope (compEnvC scope cl C X.env) fp) WF ifs mt)
    (he : ∀ (s : Shared) (H : Hp) (C : Addr) (cl : List (Str × Addr)) (fp : List Addr), DE B (X.blk s H scope (compEnvC scope cl C X.env) fp) WF elt me)
    (hns : ∀ i ∈ ns, i ∈ own.map (·.2)) (hx : X.N[i0]? = some x := by rfl) (hvs : Vis X.env.scope x := by first | exact Or.inl rfl | exact Or.inr (Or.inl rfl) | exact Or.inr (Or.inr rfl))
    (hd : (x == ("__debug__" : Str)) = false := by decide) (hcd : (x == ("__classdict__" : Str)) = false := by decide) (hs : ∀ y, foldedSetIterable (.Name x p) X.env y = pure y := by intro _; rfl) :
    DO B X W (.ListComp elt [⟨tg, .Name x p, ifs, 0⟩] scope pos) (mLCo i0 (own.map (·.2)) g mt me) :=
  PE.imp (pe_lc hc hN (pi_list (pe_var hx hvs hd hcd)) (blkOk_by ok) hg ht he hs) fun σ H Q h => lco_read hK hns h
end
end
/-! running it -/
theorem mLCo_r {i : Nat} {vs : List Nat} {g : D → AN.Env → Option AN.Env} {mt : M Bool} {me : M Opd} {e : AN.Env} {k : Bool} {ds acc : List D} {e2 : AN.Env} (h : e[i]? = some (.ow k (.lst ds))) (hi : i ∉ vs) (hl : lc vs g mt me ds [] (wipeE vs 0 (e.set i .no)) = .ok acc e2) : mLCo i vs g mt me e = .ok (.lst acc) ((restE vs 0 (e.set i .no) e2).set i (.ow k (.lst ds))) := by
  unfold mLCo
  rw [h]
  dsimp only
  rw [if_neg hi, hl]
@[simp] theorem mApp_r {i : Nat} {m : M Opd} {e : AN.Env} : mApp i m e = R.th (chkL i e) fun _ e => R.th (m e) fun x e => R.th (frz1 x e) fun d e => appAt i d e := rfl
theorem dLenO_obj {t : String → Option Fn} {c : String} {fs : List (Str × D)} {f : Fn} {n : Nat} {as : List AN.Slot} (ht : t c = some f) (hf : f [.fz (.obj c fs)] = .ok (.fz (.int (n : Nat))) as) (hb : n ≤ 100000) : dLenO t (.obj c fs) = some (.int (n : Nat)) := by
  have hf' : f [.fz (.obj c fs)] = .ok (.fz (.int (.ofNat n))) as := hf
  unfold dLenO
  dsimp only
  rw [ht, Option.bind_some, hf']
  exact if_pos hb
theorem dInO_obj {t : String → Option Fn} {neg : Bool} {g : D → D → Option D} {c : String} {fs : List (Str × D)} {f : Fn} {x : D} {r : Bool} {as : List AN.Slot} (ht : t c = some f) (hf : f [.fz (.obj c fs), .fz x] = .ok (.fz (.bl r)) as) : dInO t neg g x (.obj c fs) = some (.bl (if neg then !r else r)) := by
  unfold dInO
  dsimp only
  rw [ht, Option.bind_some, hf]
theorem oCmp_obj {t : String → Option Fn} {g : D → D → Option D} {c : String} {fs : List (Str × D)} {f : Fn} {x : D} {r : Bool} {as : List AN.Slot} (ht : t c = some f) (hf : f [.fz (.obj c fs), .fz x] = .ok (.fz (.bl r)) as) : oCmp t g (.obj c fs) x = some (.bl r) := by
  unfold oCmp
  dsimp only
  rw [ht, Option.bind_some, hf]
theorem oEq_own {t : String → Option Fn} {neg : Bool} {c : String} {fs : List (Str × D)} {f : Fn} {x : D} {r : Bool} {as : List AN.Slot} (ht : t c = some f) (hf : f [.fz (.obj c fs), .fz x] = .ok (.fz (.bl r)) as) : oEq neg t (.obj c fs) x = some (.bl (if neg then !r else r)) := by
  unfold oEq
  dsimp only
  rw [ht, Option.bind_some, hf]
theorem ixP_obj {t : String → Option Fn} {g : D → D → Option D} {c : String} {fs : List (Str × D)} {f : Fn} {y : Opd} {e : AN.Env} (ht : t c = some f) : ixP t g (.d (.obj c fs)) y e = callD 2 f [.d (.obj c fs), y] e := by
  unfold ixP
  rw [view_d]
  dsimp only
  rw [ht]
theorem atP_obj {t : String → Option Fn} {ok : String → Bool} {fl : Str} {c : String} {fs : List (Str × D)} {f : Fn} {z : D} {as : List AN.Slot} {e : AN.Env} (ht : t c = some f) (hf : f [.fz (.obj c fs)] = .ok (.fz z) as) : atP t ok fl (.d (.obj c fs)) e = .ok (.d z) e := by
  unfold atP
  rw [view_d]
  dsimp only
  rw [ht]
  show noX (callD 1 f [.d (.obj c fs)]) e = _
  unfold noX
  have h : callD 1 f [.d (.obj c fs)] e = .ok (.d z) e := by rw [callD_r, callN1 hf]; rfl
  rw [h]
theorem opP_l {fw rv : String → Option Fn} {g : D → D → Option D} {c c' : String} {fs fs' : List (Str × D)} {f : Fn} {e : AN.Env} (hf : fw c = some f) (h : c = c' ∨ (fw c' = none ∧ rv c' = none)) : opP (selOp fw rv) g (.d (.obj c fs)) (.d (.obj c' fs')) e = callD 2 f [.d (.obj c fs), .d (.obj c' fs')] e := by
  have : selOp fw rv (.obj c fs) (.obj c' fs') = some (f, false) := by
    unfold selOp
    dsimp only
    rw [hf]
    dsimp only
    by_cases hc : c = c'
    · rw [if_pos hc]
    · rw [if_neg hc]
      obtain ⟨h1, h2⟩ := h.resolve_left hc
      rw [h1, h2]
  unfold opP
  rw [view_d, view_d]
  dsimp only
  rw [this]
theorem opP_r {fw rv : String → Option Fn} {g : D → D → Option D} {c c' : String} {fs fs' : List (Str × D)} {f f2 : Fn} {e : AN.Env} (h1 : fw c = none) (h2 : rv c = none) (h3 : fw c' = some f2) (h4 : rv c' = some f) : opP (selOp fw rv) g (.d (.obj c fs)) (.d (.obj c' fs')) e = callD 2 f [.d (.obj c' fs'), .d (.obj c fs)] e := by
  have : selOp fw rv (.obj c fs) (.obj c' fs') = some (f, true) := by
    unfold selOp
    dsimp only
    rw [h1]
    dsimp only
    rw [h2, h3, h4]
  unfold opP
  rw [view_d, view_d]
  dsimp only
  rw [this]
/-- a loop with something kept, its turns counted -/
theorem loop_ix {α : Type} {g : D → AN.Env → Option AN.Env} {body : M Fl} (E : α → AN.Env) (I : Nat → α → Prop) {m : Nat} : ∀ {ds : List D} {n : Nat} {a : α}, n + ds.length ≤ m → I n a → (∀ d ∈ ds, ∀ n a, n < m → I n a → ∃ e1 a', g d (E a) = some e1 ∧ (body e1 = .ok .nx (E a') ∨ body e1 = .ok .ct (E a')) ∧ I (n + 1) a') → ∃ a', loop g body ds (E a) = .ok .nx (E a') ∧ I (n + ds.length) a'
  | [], n, a, _, h, _ => ⟨a, rfl, h⟩
  | d :: ds, n, a, hm, h, s => by
    rw [List.length_cons] at hm
    obtain ⟨e1, a', h1, h2, h3⟩ := s d (by simp) n a (by omega) h
    obtain ⟨a2, h4, h5⟩ := loop_ix E I (ds := ds) (by omega) h3 (fun d hd => s d (by simp [hd]))
    refine ⟨a2, ?_, by rw [List.length_cons, show n + (ds.length + 1) = n + 1 + ds.length by omega]; exact h5⟩
    rcases h2 with h2 | h2 <;> simp only [loop, h1, h2, h4]
end AN

set_option Elab.async false
set_option maxRecDepth 100000
set_option autoImplicit false
set_option linter.unusedVariables false
/-! == of two lists of unlike lengths, whatever they hold -/
namespace AN
open PySem L2
def dEqL (a b : D) : Option D := match a, b with
  | .lst xs, .lst ys => if xs.length = ys.length then dEq (.lst xs) (.lst ys) else some (.bl false)
  | a, b => dEq a b
def rEqLen (K : PySem.W.Frag) : R2 := fun x y H Q => ∃ a b xs ys, x = .ref a ∧ y = .ref b ∧ SqL K H a xs ∧ SqL K H b ys ∧ xs.length ≠ ys.length ∧ Q (.bl false) H
section
variable {B : Bx} {X : Cx}
theorem op_eqLen (hu : X.A.units + 64 < cLine) : OpR X (compareOp .Eq) (rEqLen X.K) := by
  intro pins s σ H x y v u Q I rx ry h
  obtain ⟨a, b, xs, ys, rfl, rfl, ha, hb, hn, q⟩ := h
  obtain rfl : v = Value.ref a := rx
  obtain rfl : u = Value.ref b := ry
  obtain ⟨its, rv, ⟨o, n, ho, hc, _, hd⟩, _⟩ := I.list ha
  obtain ⟨its2, rv2, ⟨o2, n2, ho2, hc2, _, hd2⟩, _⟩ := I.list hb
  refine SeqAt.eq_list_lengthsAt (items := its.toArray) (items2 := its2.toArray) ⟨o, ho, hc, n, hd⟩ ⟨o2, ho2, hc2, n2, hd2⟩ ?_ (by omega) ⟨.bl false, H, I, rfl, q⟩
  have e1 := rv.length
  have e2 := rv2.length
  simp only [List.size_toArray, bne_iff_ne]
  omega
theorem p_eqLen (hK : X.K = B.K) : Prim2 B dEqL (fun x y H Q => rEqD X.K x y H Q ∨ rEqLen X.K x y H Q) := fun F H a b z x y Q hh sa sb e q => by
  have plain : dEq a b = some z → rEqD X.K x y H Q ∨ rEqLen X.K x y H Q := fun e => .inl (p_eq hK F H a b z x y Q hh sa sb e q)
  cases a with
  | lst xs =>
    cases b with
    | lst ys =>
      by_cases h : xs.length = ys.length
      · exact plain (by simpa [dEqL, h] using e)
      · have e' : z = .bl false := by
          simp only [dEqL, if_neg h, Option.some.injEq] at e
          exact e.symm
        subst e'
        obtain ⟨p, vs, rfl, ha, _, rl⟩ := sa
        obtain ⟨p2, vs2, rfl, hb, _, rl2⟩ := sb
        refine .inr ⟨p, p2, vs, vs2, rfl, rfl, by rw [hK]; exact ha, by rw [hK]; exact hb, ?_, q _ F H (Step.refl _ _ _) hh rfl⟩
        rw [rl.length, rl2.length]
        exact h
    | _ => exact plain e
  | _ => exact plain e
theorem dEqL_nil {xs : List D} : dEqL (.lst xs) (.lst []) = some (.bl xs.isEmpty) := by
  cases xs with
  | nil => rfl
  | cons x xs => rfl
end
end AN

set_option Elab.async false
set_option maxRecDepth 100000
set_option autoImplicit false
set_option linter.unusedVariables false
/-! own error classes right over a built-in one that is not ValueError (KeyError takes its __new__ from LookupError): one argument, kept under one name -/
namespace PySem
namespace ANX
open PySem.HandSPX
abbrev keTail : List Value := [.type "KeyError", .type "LookupError", .type "Exception", .type "BaseException", .type "object"]
abbrev ieTail : List Value := [.type "IndexError", .type "LookupError", .type "Exception", .type "BaseException", .type "object"]
abbrev oeTail : List Value := [.type "OverflowError", .type "ArithmeticError", .type "Exception", .type "BaseException", .type "object"]
abbrev reTail : List Value := [.type "RuntimeError", .type "Exception", .type "BaseException", .type "object"]
/-- what is known of a built-in __init__ -/
structure IniF (B initId : String) : Prop where
  init : Slot B "__init__" initId
  entry : entryFor table initId = some Builtin.«BaseException.__init__»
  split : splitId initId = some (B, "__init__")
  kind : builtinKind initId = some .slot
  row : Manifest.signature? initId = some ⟨.positional, "*", B, .self, [⟨"args", .varPos, false⟩]⟩
  noStar : (B != "*") = true
theorem ini_KeyError : IniF "KeyError" "KeyError.__init__" where
  init := .of (owner := "KeyError") (n := "__init__") (by rw [typeLookup_type, builtinLookup_eq_fast]; kernel_rfl) (by decide +kernel) (by decide +kernel) (by decide +kernel)
    (by first | exact .inl (by decide +kernel) | exact .inr (by decide +kernel)) (by rw [isSubtype_type]; kernel_rfl)
  entry := entryFor_alias (id' := "BaseException.__init__") (by rw [fastTable_eq_tree]; kernel_rfl) (by first | rfl | decide +kernel) (by decide +kernel) (by rw [fastTable_eq_tree]; kernel_rfl)
  split := by kernel_rfl
  kind := by kernel_rfl
  row := by kernel_rfl
  noStar := by decide +kernel
theorem IniF.of {B newId initId : String} {bm : List Value} (F : ExcBaseFacts B newId initId bm) : IniF B initId := ⟨F.init, F.initEntry, F.initSplit, F.initKind, F.initRow, F.noStar⟩
theorem pass_KeyError (self : Value) : refuseLoop self "__setattr__" keTail = pure () := by kernel_rfl
theorem pass_IndexError (self : Value) : refuseLoop self "__setattr__" ieTail = pure () := by kernel_rfl
theorem pass_OverflowError (self : Value) : refuseLoop self "__setattr__" oeTail = pure () := by kernel_rfl
theorem pass_RuntimeError (self : Value) : refuseLoop self "__setattr__" reTail = pure () := by kernel_rfl
/-- what the making of such an error asks of the mro behind the class -/
structure MroF (bm : List Value) (B Bi : String) : Prop where
  hasN : bm.contains (.type B) = true
  hasI : bm.contains (.type Bi) = true
  noA : bm.contains (.type "AttributeError") = false
  noN : bm.contains (.type "NameError") = false
  hasO : bm.contains (.type "object") = true
  pass : ∀ self, refuseLoop self "__setattr__" bm = pure ()
theorem mro_KeyError : MroF keTail "LookupError" "KeyError" := ⟨by decide +kernel, by decide +kernel, by decide +kernel, by decide +kernel, by decide +kernel, pass_KeyError⟩
theorem mro_IndexError : MroF ieTail "IndexError" "IndexError" := ⟨by decide +kernel, by decide +kernel, by decide +kernel, by decide +kernel, by decide +kernel, pass_IndexError⟩
theorem mro_OverflowError : MroF oeTail "OverflowError" "OverflowError" := ⟨by decide +kernel, by decide +kernel, by decide +kernel, by decide +kernel, by decide +kernel, pass_OverflowError⟩
theorem mro_RuntimeError : MroF reTail "RuntimeError" "RuntimeError" := ⟨by decide +kernel, by decide +kernel, by decide +kernel, by decide +kernel, by decide +kernel, pass_RuntimeError⟩
section
open Builtin Builtin.ObjectAttr
variable {M : Model} {prog : Program} {w : World} {A : Around} {E : Value → Shared → Prop} {R : Result → Shared → Prop} {h : Heap} {g : Array GenState} {d : Drawn} {t : Nat} {os : OsState}
variable {nm q : Str} {C N : Addr} {bs bm bmB : List Value} {hdct : Bool} {sn : List Str} {sub : List Value} {ab : Bool} {col : Option Bool} {dd : Option Addr} {k0 k1 k2 k3 k5 : Option Value} {B Bi newId initN initId : String}
theorem check_newX (F : ExcBaseFacts B newId initN bmB) (T : MroF bm B Bi) {rest : List Value} {Q : Unit → Shared → Prop}
    (hC : h.get? C = some (excClassObj nm q C N bs bm hdct sn sub ab col dd k0 k1 k2 k3 k5 newId)) (hq : Q () ⟨h, g, d, t, os⟩) : wpAny M A (checkBuiltinCall newId ⟨.ref C :: rest, []⟩) Q E ⟨h, g, d, t, os⟩ := by
  have hcont : (Value.ref C :: bm).contains (.type B) = true := by rw [List.contains_cons, T.hasN, Bool.or_true]
  have hstar := F.noStar
  simp only [checkBuiltinCall, F.newKind, F.newSplit, F.newRow]
  repeat (first | refine wpAny_loadPart_at hC ?_ | (refine wpAny_isSubtype_exc hC ?_; rw [hcont]) | refine wpAny_staticBase_exc hC ?_ | refine wpAny_madeBy_exc hC ?_ | simp only [bne_self_eq_false, Bool.false_eq_true, if_false] | wp_step)
  exact hq
theorem check_initX (F : IniF Bi initId) (T : MroF bm B Bi) {e : Addr} {oe : Obj} {rest : List Value} {Q : Unit → Shared → Prop}
    (hC : h.get? C = some (excClassObj nm q C N bs bm hdct sn sub ab col dd k0 k1 k2 k3 k5 newId)) (he : h.get? e = some oe) (hcls : oe.cls = .ref C) (hq : Q () ⟨h, g, d, t, os⟩) :
    wpAny M A (checkBuiltinCall initId ⟨.ref e :: rest, []⟩) Q E ⟨h, g, d, t, os⟩ := by
  have hcB : (Value.ref C :: bm).contains (.type Bi) = true := by rw [List.contains_cons, T.hasI, Bool.or_true]
  have hshort := F.noStar
  simp only [checkBuiltinCall, F.kind, F.split, F.row]
  repeat (first | (with_reducible refine wpAny_loadPart_at he ?_; rw [hcls]) | with_reducible refine wpAny_loadPart_at hC ?_ | (with_reducible refine wpAny_isSubtype_exc hC ?_; rw [hcB]) | wp_step)
  refine wpAny_onRaise ?_
  rw [show ∀ (a b : String) (n : Nat), Bind.check ⟨.positional, "*", Bi, .self, [⟨"args", .varPos, false⟩]⟩ a b n (List.map (fun x => x.fst) ({ pos := Value.ref e :: rest } : Args).kw) = pure () from
    fun a b n => check_star_args _ _ _ _ _ _]
  exact wpAny_pure hq
theorem newX (F : ExcBaseFacts B newId initN bmB) (T : MroF bm B Bi) {rest : List Value}
    (hC : h.get? C = some (excClassObj nm q C N bs bm hdct sn sub ab col dd k0 k1 k2 k3 k5 newId))
    (hq : R (.ok (.ret (.ref (h.objs.size + 1)))) ⟨(h.push { cls := .type "tuple", data := .seq rest.toArray }).push
      { cls := .ref C, data := .fields #[.ref h.objs.size, .none, .none, .none, .bool false, .none] }, g, d, t, os⟩) (hrest : rest.length ≤ sizeLine) :
    codeAny (model prog w) A (.builtin newId ⟨.ref C :: rest, []⟩) R ⟨h, g, d, t, os⟩ := by
  have hends := F.ends
  have hcB : (Value.ref C :: bm).contains (.type B) = true := by rw [List.contains_cons, T.hasN, Bool.or_true]
  have hcA : (Value.ref C :: bm).contains (.type "AttributeError") = false := by rw [List.contains_cons, T.noA]; rfl
  have hcN : (Value.ref C :: bm).contains (.type "NameError") = false := by rw [List.contains_cons, T.noN]; rfl
  refine codeAny_builtinAt F.entry ?_
  unfold Builtin.«BaseException.__new__»
  refine wpAt_bind ?_
  show wpAt _ _ _ (stack >>= _) _ _ _
  refine wpAt_bind (wpAt_stack fun p below => wpAt_of_wpAny ?_)
  wp_walk
  refine wpAt_of_wpAny ?_
  rw [F.owner]
  repeat (first | with_reducible refine wpAny_madeHere_exc F.canon hC ?_ | with_reducible refine wpAny_loadPart_at hC ?_ | (with_reducible refine wpAny_isSubtype_exc hC ?_; first | rw [hcB] | rw [hcA] | rw [hcN]) | wp_step)
  show R _ _
  rw [Heap.size_push]
  exact hq
theorem type_callX (F : ExcBaseFacts B newId initN bmB) (T : MroF bm B Bi) {rest : List Value} {fI : Addr} {Q : Fin → Shared → Prop}
    (hC : h.get? C = some (excClassObj nm q C N bs bm hdct sn sub ab col dd k0 k1 k2 k3 k5 newId))
    (hi : W.Looks (model prog w) h (typeLookup (.ref C) "__init__") (some (.ref fI))) (hb : ∀ self, W.Looks (model prog w) h (bindSpecial (.ref fI) self) (.ref fI, [self])) (hrest : rest.length ≤ sizeLine)
    (hq : codeAny (model prog w) A (.call (.ref fI) ⟨.ref (h.objs.size + 1) :: rest, []⟩)
      (fun r s' => match r with | .ok (.ret v) => v = .none ∧ Q (.done (.ret (.ref (h.objs.size + 1)))) s' | .ok _ => False | .error e => E e s')
      ⟨(h.push (W.kdv_tup rest)).push (excO C h.objs.size), g, d, t, os⟩) :
    wpAny (model prog w) A (Builtin.«type.__call__» ⟨.ref C :: rest, []⟩) Q E ⟨h, g, d, t, os⟩ := by
  repeat (first | with_reducible refine wpAny_loadPart_at hC ?_ | with_reducible refine wpAny_madeBy_exc hC ?_ | wp_step)
  refine codeAny_call_builtin_code (Code.quiet_builtin _ F.quiet) (check_newX F T hC ?_)
  refine newX F T hC ?_ hrest
  show wpAny _ _ _ _ _ _
  have k : ∀ b o, h.get? b = some o → ((h.push (W.kdv_tup rest)).push (excO C h.objs.size)).get? b = some o := fun b o e => Heap.get?_push_of_some _ (Heap.get?_push_of_some _ e)
  have hC₁ := k _ _ hC
  have hget : ((h.push (W.kdv_tup rest)).push (excO C h.objs.size)).get? (h.objs.size + 1) = some (excO C h.objs.size) := by heap_get
  have hcC : (Value.ref C :: bm).contains (.ref C) = true := by simp
  have i1 := hi.keeps k
  have b1 := (hb (.ref (h.objs.size + 1))).keeps k
  unfold isInstance
  repeat (first | with_reducible refine wpAny_loadPart_at hget ?_ | (with_reducible refine wpAny_isSubtype_exc hC₁ ?_; rw [hcC]) | wp_step)
  show wpAny _ _ (typeLookup (.ref C) _) _ _ _
  refine i1.at ?_
  refine wpAny_holding (wpAny_bind (b1.at ?_))
  refine wpAny_bind (wpAny_call (codeAny_mono hq fun r s' z => ?_))
  rcases r with e | (v | _ | _ | _) <;> first | exact z | exact z.elim | skip
  obtain ⟨rfl, z⟩ := z
  first
    | exact wpAny_pure (wpAny_pure z)
    | (wp_walk; exact z)
theorem callX (F : ExcBaseFacts B newId initN bmB) (T : MroF bm B Bi) {rest : List Value} {fI : Addr}
    (hC : h.get? C = some (excClassObj nm q C N bs bm hdct sn sub ab col dd k0 k1 k2 k3 k5 newId))
    (hi : W.Looks (model prog w) h (typeLookup (.ref C) "__init__") (some (.ref fI))) (hb : ∀ self, W.Looks (model prog w) h (bindSpecial (.ref fI) self) (.ref fI, [self])) (hrest : rest.length ≤ sizeLine)
    (hq : codeAny (model prog w) (A.under (.builtin "type.__call__" ⟨.ref C :: rest, []⟩)) (.call (.ref fI) ⟨.ref (h.objs.size + 1) :: rest, []⟩) (W.InitBack (h.objs.size + 1) R)
      ⟨(h.push (W.kdv_tup rest)).push (excO C h.objs.size), g, d, t, os⟩) :
    codeAny (model prog w) A (.call (.ref C) ⟨rest, []⟩) R ⟨h, g, d, t, os⟩ := by
  have f1 := tc_lookup
  have f2 := tc_bind (.ref C)
  have hTy : (⟨h, g, d, t, os⟩ : Shared).TypeIs (.ref C) "type" := ⟨_, hC, rfl⟩
  refine codeAny_of_tree ?_
  show wpAny _ _ (callAny (.ref C) _) _ _ _
  repeat (any_goals (first | assumption | with_reducible refine wpAny_loadPart_at hC ?_ | wp_step))
  refine ⟨rfl, ?_⟩
  refine codeAny_call_builtin_at (Code.quiet_builtin _ (by decide +kernel)) entry_typeCall (wpAny_check_type_call_sub hC (type_callX F T hC hi hb hrest ?_))
  refine codeAny_mono hq fun r s' z => ?_
  rcases r with e | (v | _ | _ | _) <;> exact z
theorem init_baseX (F : IniF Bi initId) (T : MroF bm B Bi) {e t0 : Addr} {rest : List Value}
    (hC : h.get? C = some (excClassObj nm q C N bs bm hdct sn sub ab col dd k0 k1 k2 k3 k5 newId)) (he : h.get? e = some (excO C t0)) (hrest : rest.length ≤ sizeLine)
    (hq : ∀ h' t1, (∀ b o, b ≠ e → h.get? b = some o → h'.get? b = some o) → h'.get? e = some (excO C t1) → R (.ok (.ret .none)) ⟨h', g, d, t, os⟩) :
    codeAny (model prog w) A (.call (.builtin initId) ⟨.ref e :: rest, []⟩) R ⟨h, g, d, t, os⟩ := by
  refine codeAny_call_builtin F.init.plain F.entry (check_initX F T hC he rfl ?_)
  wp_walk
  refine hq _ h.objs.size (fun b o hb ho => ?_) ?_
  · rw [Heap.get?_update_other _ _ (Ne.symm hb)]
    exact Heap.get?_push_of_some _ ho
  · rw [Heap.get?_update_self _ (Heap.get?_push_of_some _ he) rfl]
    rfl
end
end ANX
end PySem

set_option Elab.async false
set_option maxRecDepth 100000
set_option autoImplicit false
set_option linter.unusedVariables false
set_option maxHeartbeats 4000000
namespace PySem
namespace ANX
open PySem.HandSPX
section
open Builtin Builtin.ObjectAttr
variable {prog : Program} {w : World} {A : Around} {E : Value → Shared → Prop} {R : Result → Shared → Prop} {hp : Heap} {g : Array GenState} {d : Drawn} {t : Nat} {os : OsState}
/-- the first field of an error that has no dict as yet -/
theorem osaX {K : W.Frag} {name : Str} {tk : Tok} {v : Value} {x C : Addr} {fv : Array Value} {cd : ClassData}
    (X : K.In hp) (hx : hp.get? x = some { cls := .ref C, data := .fields fv }) (hcd : W.clsIn K C = some cd) (ne : cd.mro.isEmpty = false) (hob : cd.mro.contains (.type "object") = true) (hp0 : ∀ self, refuseLoop self "__setattr__" cd.mro = pure ()) (hh : cd.hasDict = true) (ha : W.findIn K (.ref C) name = some none)
    (hq : ∀ h' tk' dx, (∀ b o, b ≠ x → hp.get? b = some o → h'.get? b = some o) → hp.objs.size ≤ dx → dx ≠ x → h'.get? x = some { cls := .ref C, dict := some dx, data := .fields fv } →
      h'.Ns1 dx (fun y => if y = name then some v else none) → R (.ok (.ret .none)) ⟨h', g, d, tk', os⟩) :
    codeAny (model prog w) A (.call (.builtin "object.__setattr__") ⟨[.ref x, .str name tk, v], []⟩) R ⟨hp, g, d, t, os⟩ := by
  have I : W.InstAt hp x { cls := .ref C, data := .fields fv } C none := ⟨hx, rfl, rfl, trivial⟩
  have SF := F.store_object
  have hxs : x ≠ hp.objs.size := Nat.ne_of_lt (Heap.lt_size hx)
  have sub : W.Looks (model prog w) hp (isInstance (.ref x) (.type "object")) true := I.type.andThen (W.looks_mroIn X (by unfold W.mroIn; rw [hcd, Option.bind_some, if_neg (by rw [ne]; decide), hob]))
  refine codeAny_call_builtin SF.slot.plain SF.entry (@W.check_slot (model prog w) _ _ ⟨hp, g, d, t, os⟩ "object.__setattr__" "object" "__setattr__" (.ref x) [.str name tk, v] [] _ SF.kind SF.split sub (SF.args (.ref x) (.str name tk) v) ?_)
  have hmr : W.Looks (model prog w) hp (mroOf (.ref C)) cd.mro := (W.looks_clsIn X hcd).andThen .now
  have L3 : W.Looks (model prog w) hp (storeTaker? none) none := .now
  have hcls : W.Looks (model prog w) hp (classData C) cd := W.looks_clsIn X hcd
  rw [W.osa_eq, refuse_eq]
  refine wpAny_bind (wpAny_bind (I.type.at (wpAny_bind (hmr.at ?_))))
  rw [hp0]
  refine wpAny_pure (wpAny_bind (I.type.at (wpAny_bind ((W.looks_findIn X ha).at (wpAny_bind (L3.at ?_))))))
  show wpAny _ _ (storeInOwnDict (.ref x) (.ref C) (.str name tk) name v false) _ _ _
  obtain ⟨nm, bs, mro, ns, qn, hd, sn, sb, ab, col, del⟩ := cd
  dsimp only at hh
  subst hh
  unfold storeInOwnDict ownDictForStores
  repeat (first | with_reducible refine store_in_new ?_ ?_ | with_reducible refine wpAny_loadPart_at hx ?_ | with_reducible refine hcls.at ?_ | wp_step)
  · exact ⟨_, #[], _, (Heap.get?_update_ne _ _ _ _ hxs.symm).trans (Heap.get?_push_at rfl rfl), rfl, fun e he => absurd he (by simp), fun _ => rfl⟩
  · intro h' tk' hn' hs
    have hx₁ : (hp.push { cls := .type "dict", data := .dict #[] }).get? x = some { cls := .ref C, data := .fields fv } := Heap.get?_push_of_some _ hx
    refine hq h' tk' hp.objs.size (fun b o hb ho => ?_) (Nat.le_refl _) hxs.symm ?_ hn'
    · exact (hs.2 b (Nat.ne_of_lt (Heap.lt_size ho))).trans ((Heap.get?_update_ne _ _ _ _ hb).trans (Heap.get?_push_of_some _ ho))
    · exact (hs.2 x hxs).trans (Heap.get?_update_self _ hx₁ rfl)
theorem pass_own {self : Value} {c : Addr} {r : List Value} (h : refuseLoop self "__setattr__" r = pure ()) : refuseLoop self "__setattr__" (.ref c :: r) = pure () := by rw [refuseLoop_ref]; exact h
end
theorem typ_KE : typeOf (.type "KeyError") = pure (.type "type") := by kernel_rfl
end ANX
end PySem
namespace L2
open PySem PySem.Spec PyProof.Rows PySem.ANX
/-- what the written part says of an error class right over the built-in class Bi -/
structure OexX (K : PySem.W.Frag) (Bi ini : String) (C : Addr) : Prop where
  cls : ∃ nm q N bs bm bmB sn sub ab col dd k0 k1 k2 k3 k5 B new iniN, K.lookup C = some (excClassObj nm q C N bs bm true sn sub ab col dd k0 k1 k2 k3 k5 new) ∧ ExcBaseFacts B new iniN bmB ∧ MroF bm B Bi
  ini : IniF Bi ini
  sa : PySem.W.findIn K (.ref C) "__setattr__" = some (some (.builtin "object.__setattr__"))
  exC : PySem.W.subIn K (.ref C) (.type "BaseException") = some true
  tyC : PySem.W.typeIn K (.ref C) = some (.type "type")
  kC : PySem.W.keepIn K (.ref C) = true
section
variable {Bi ini : String} {X : Cx} {pins : List (Addr × Obj)} {σ : St} {H : Hp} {s : Shared} {a C dx : Addr} {f : Str} {y : V} {u : Value} {fs : List (Str × V)} {Q : Unit → Shared → Prop} {E : Value → Shared → Prop} {A : Around}
theorem ostX_new (T : OexX X.K Bi ini C) (I : Inv X pins σ H s) (e : H a = some (exo a C none)) (hno : PySem.W.findIn X.K (.ref C) f = some none) (ry : RelV y u)
    (h : ∀ dx s', H dx = none → dx ≠ a → Inv X pins σ (upd (upd H dx (exd dx [(f, y)])) a (exo a C (some dx))) s' → Q () s') : wpAny (model X.prog X.w) A (setAttr (.ref a) f u) Q E s := by
  obtain ⟨nm, q, N, bs, bm, bmB, sn, sub, ab, col, dd, k0, k1, k2, k3, k5, B, new, iniN, hC, BF, MF⟩ := T.cls
  have hcl : PySem.W.clsIn X.K C = some { name := nm, bases := bs, mro := .ref C :: bm, ns := N, qualname := q, hasDict := true, slotNames := sn, subclasses := sub, abstract := ab, collection := col, hasDel := false } := by unfold PySem.W.clsIn; rw [hC] <;> rfl
  obtain ⟨t1, ho⟩ := exo_at I.hok e
  obtain ⟨hp, g, d, t, os⟩ := s
  refine PySem.W.set_plain I.kIn (ox := { cls := .ref C, dict := none, data := .fields #[.ref t1, .none, .none, .none, .bool false, .none] }) (od := none) ⟨ho, rfl, rfl, trivial⟩ T.sa ?_
  refine osaX I.kIn ho hcl rfl (by show (Value.ref C :: bm).contains _ = true; rw [List.contains_cons, MF.hasO, Bool.or_true]) (fun self => pass_own (MF.pass self)) rfl hno (fun h' tk' dx k dn dne hx hn => ?_)
  have hnd : H dx = none := I.hok.fresh dn
  have nd : ∀ {b : Addr} {o : Obj}, hp.get? b = some o → b ≠ dx := fun {b o} q => Nat.ne_of_lt (Nat.lt_of_lt_of_le (Heap.lt_size q) dn)
  have na : ∀ {b : Addr}, H b = none → b ≠ a := fun {b} n z => by
    rw [z, e] at n
    cases n
  have Un1 : Un X.fs [] H (upd (upd H dx (exd dx [(f, y)])) a (exo a C (some dx))) hp h' := {
    keep := fun b o q n _ _ => k b o (na n) q
    slot := fun b o q n _ _ => ⟨o.slots, k b o (na n) q⟩
    free := fun b o q n _ => by rw [upd_ne (na n), upd_ne (nd q)]; exact n
    there := fun b o q _ => by
      by_cases hb : b = a
      · exact ⟨_, by rw [hb]; exact hx⟩
      · exact ⟨o, k b o hb q⟩
    tups := fun b xs q => by rw [upd_ne (at_ne e q exo_tup), upd_ne (ne_of_none q hnd)]; exact q
    frzs := fun b o v q => by rw [upd_ne (at_ne e q exo_frz), upd_ne (ne_of_none q hnd)]; exact q
    tbls := fun b ps q => ⟨#[], by rw [upd_ne (at_ne e q exo_tbl), upd_ne (ne_of_none q hnd), q]; simp⟩ }
  refine h dx _ hnd dne (I.un (t' := tk') Un1 fun b o q => ?_)
  by_cases hb : b = a
  · subst hb
    rw [upd_same] at q
    cases q
    exact exo_ok hx
  · rw [upd_ne hb] at q
    by_cases hd : b = dx
    · subst hd
      rw [upd_same] at q
      cases q
      exact exd_ok hn (relO_put (fs := []) ry fun g => True.intro)
    · rw [upd_ne hd] at q
      exact (I.hok b o q).stay (fun c v hc z => k c v (by
          rcases hc with hc | hc
          · rw [hc]
            exact hb
          · exact at_ne e hc exo_own) z)
        (fun c hc => by rw [upd_ne (at_ne e hc exo_own), upd_ne (ne_of_none hc hnd)]; exact hc) (fun c xs hc => by rw [upd_ne (at_ne e hc exo_tup), upd_ne (ne_of_none hc hnd)]; exact hc)
theorem oinitX_ok {us : List Value} {Q : Value → Shared → Prop} (T : OexX X.K Bi ini C) (I : Inv X pins σ H s) (e : H a = some (exo a C none)) (hl : us.length ≤ sizeLine) (h : ∀ s', Inv X pins σ H s' → Q .none s') :
    wpAny (model X.prog X.w) A (call (.builtin ini) (.ref a :: us)) Q E s := by
  obtain ⟨nm, q, N, bs, bm, bmB, sn, sub, ab, col, dd, k0, k1, k2, k3, k5, B, new, iniN, hC, BF, MF⟩ := T.cls
  obtain ⟨t1, ho⟩ := exo_at I.hok e
  obtain ⟨hp, g, d, t, os⟩ := s
  refine wpAny_call (init_baseX T.ini MF (I.kIn _ _ hC) ho hl fun h' t2 k hx => ?_)
  have J := I.write (t' := t) (x := a) (e := a) (o := exo a C none) (by rw [e]; exact True.intro) (.inl rfl) k ⟨_, hx⟩ (exo_ok hx)
  have eu : upd H a (exo a C none) = H := by
    funext b
    by_cases hb : b = a
    · rw [hb, upd_same, e]
    · rw [upd_ne hb]
  rw [eu] at J
  exact h _ J
end
end L2

set_option Elab.async false
set_option maxRecDepth 100000
set_option autoImplicit false
set_option linter.unusedVariables false
set_option maxHeartbeats 4000000
namespace AN
open PySem PySem.Spec PyProof.Rows L2 PySem.ANX
def tXeI (K : PySem.W.Frag) (Bi ini : String) (ta : TA) : TE := fun σ H Q => ta σ H fun vs H1 => ∃ (a C : Addr) (ws : List V), vs = .ref a :: ws ∧ ws.length ≤ 1000 ∧ OexX K Bi ini C ∧ H1 a = some (exo a C none) ∧ Q .non H1
def tOsX (K : PySem.W.Frag) (Bi ini : String) (f : Str) (to te : TE) : TS := fun D σ H => te σ H fun y H1 => to σ H1 fun x H2 => ∃ a C : Addr, x = .ref a ∧ OexX K Bi ini C ∧ PySem.W.findIn K (.ref C) f = some none ∧
  (H2 a = some (exo a C none) ∧ ∀ dx, H2 dx = none → dx ≠ a → D.nx σ (upd (upd H2 dx (exd dx [(f, y)])) a (exo a C (some dx))))
section
variable {Bi ini : String} {X : Cx} {o e : Expr} {es : List Expr} {to te : TE} {ta : TA} {f : Str} {p p' p1 p2 pos : Pos}
/-- B.__init__(self, ..), B built in -/
theorem pe_xeinit {pl : Sem Bool} {bn : Str} (hbn : bn ≠ "__name__") (hdb : (bn == ("__debug__" : Str)) = false) (hb : bootBuiltins bn = some (.type Bi)) (ht : typeOf (.type Bi) = pure (.type "type")) (hs : Manifest.isStub Bi = false) (hh : PySem.W.handedIn (.builtin ini) = true)
    (hg : Gl X bn) (hm : X.mg bn = none) (vV : PySem.W.findCls X.K (.type Bi) (.type "type") "__init__" = some (.val (.builtin ini))) (ha : PA X (e :: es) ta)
    (hc : eval (.Call (.Attribute (.Name bn p1) "__init__" p2) (e :: es) [] pos) X.env = (do
      let ov ← eval (.Name bn p1) X.env
      standAt p2.atName
      let (f, first) ← holding [ov] (getMethod ov "__init__" pl)
      callWith pos f first (backTo pos (starEach (e :: es) X.env)) (backToKw pos (keywordEach [] X.env))) := by rfl)
    (he : starEach (e :: es) X.env = (false, eval e X.env) :: starEach es X.env := by rfl) (hpl : (backTo pos (starEach es X.env)).any (·.1) = false := by rfl)
    (hkeep : ∀ (A : Around) (Q : Value → Shared → Prop) (E : Value → Shared → Prop) (s : Shared), wpAny (model X.prog X.w) A (callWith pos (Value.builtin ini) [] (backTo pos (starEach (e :: es) X.env)) []) Q E s → wpAny (model X.prog X.w) A (callWith pos (Value.builtin ini) [] (backTo pos (starEach (e :: es) X.env)) (backToKw pos (keywordEach [] X.env))) Q E s := by exact fun _ _ _ _ h => h) :
    PE X (.Call (.Attribute (.Name bn p1) "__init__" p2) (e :: es) [] pos) (tXeI X.K Bi ini ta) := by
  refine ⟨fun pins s σ H Q I h => ?_⟩
  refine PySem.W.methodCall_KW (ld_blt I hg hm hb ?_ hbn hdb) hc
  obtain ⟨m, fr⟩ := I.fr
  refine PySem.W.method_type fr I.ok.mod.kin ht hs vV hh ?_
  refine hkeep _ _ _ _ ?_
  refine PyProof.Rows.callWith_method1 (thn (ha.run pos pins _ σ H _ (I.tok _) h) fun us s1 ⟨vs, H1, I1, r1, a, C, ws, ev, hl, T, ea, q⟩ => ?_) he hpl
  subst ev
  cases r1 with
  | @cons _ u0 _ ur ra rw' =>
    obtain rfl : u0 = Value.ref a := ra
    have hlen : ur.length ≤ sizeLine := by
      rw [← Paired.length rw', sizeLine_eq]
      omega
    exact oinitX_ok T I1 ea hlen fun s' J => ⟨.non, H1, J, rfl, q⟩
theorem ps_osX (ho : PE X o to) (he : PE X e te) (hs : swapsWith e (some (.Attribute o f p')) pos.line X.env = pure false := by rfl) : PS X (.Assign [.Attribute o f p'] e pos) (tOsX X.K Bi ini f to te) := by
  refine ⟨fun pins s σ H D I h => ?_⟩
  refine plainObj_wpAny_Assign_Attribute (thn (he.run pins s σ H _ I h) fun v s1 ⟨y, H1, I1, r1, q1⟩ => thn (ho.run pins s1 σ H1 _ I1 q1) fun u s2 ⟨x, H2, I2, r2, a, C, ex, T, hno, q⟩ => ?_) hs
  subst ex
  obtain rfl : u = Value.ref a := r2
  obtain ⟨ea, q⟩ := q
  exact ostX_new T I2 ea hno r1 fun dx s' n ne J => ⟨σ, _, J, q dx n ne⟩
theorem pmk_oexX {CX : CXT} {x : Str} {C fI : Addr} {k : Nat} {fd : FuncData} {ps : List Str} {sp : Sp} {ds : List Value} {dvs : List V} (T : OexX X.K Bi ini C) (iC : PySem.W.findIn X.K (.ref C) "__init__" = some (some (.ref fI))) (tI : PySem.W.typeIn X.K (.ref fI) = some (.type "function"))
    (F1 : FnOk X.prog X.w X.K X.mg X.base CX k fI fd ps sp) (hr : Room (k + 1) X.A) (hb : Binds X.K fd ps ds) (hd : Vals dvs ds) (hx : Passes CX X (fun _ _ _ => False)) (hg : Gl X x) (hm : X.mg x = some (.ref C)) (ha : PA X (e :: es) ta)
    (hdb : (x == ("__debug__" : Str)) = false := by decide) (he : starEach (e :: es) X.env = (false, eval e X.env) :: starEach es X.env := by rfl) (hpl : (backTo pos (starEach es X.env)).any (·.1) = false := by rfl) :
    PMk X (.Call (.Name x p) (e :: es) [] pos) (tMkO C sp dvs ta) := by
  intro pins s σ H Q I h
  obtain ⟨nm, q, N, bs, bm, bmB, sn, sub, ab, col, dd, k0, k1, k2, k3, k5, B, new, iniN, hC, BF, MF⟩ := T.cls
  refine wpAny_Call_Name_kw (ld_glob I hg hm ?_ hdb)
  refine PySem.W.callWith_K (h₀ := X.base) I.ok.mod.kin T.kC (thn (ha.run pos pins s σ H _ I h) fun us s1 ⟨vs, H1, I1, r1, hz, q1⟩ => ⟨I1.kIn, ?_⟩) he hpl
  show wpAny _ _ (call (.ref C) us) _ _ _
  obtain ⟨hp, g, dr, tk, os⟩ := s1
  have hsz : hp.objs.size ≤ hp.objs.size + 1 := Nat.le_succ _
  have hn : H1 (hp.objs.size + 1) = none := I1.hok.fresh hsz
  have hq := q1 (hp.objs.size + 1) hn
  have kk : ∀ b o, hp.get? b = some o → ((hp.push (PySem.W.kdv_tup us)).push (PySem.HandSPX.excO C hp.objs.size)).get? b = some o := fun b o e => Heap.get?_push_of_some _ (Heap.get?_push_of_some _ e)
  have hget : ((hp.push (PySem.W.kdv_tup us)).push (PySem.HandSPX.excO C hp.objs.size)).get? (hp.objs.size + 1) = some (PySem.HandSPX.excO C hp.objs.size) := by heap_get
  have I2 : Inv X pins σ (upd H1 (hp.objs.size + 1) (exo (hp.objs.size + 1) C none)) ⟨(hp.push (PySem.W.kdv_tup us)).push (PySem.HandSPX.excO C hp.objs.size), g, dr, tk, os⟩ :=
    I1.laid (t' := tk) (a := hp.objs.size + 1) (o := exo (hp.objs.size + 1) C none) (h' := (hp.push (PySem.W.kdv_tup us)).push (PySem.HandSPX.excO C hp.objs.size)) kk hsz (exo_ok hget)
  have r2 : Vals (V.ref (hp.objs.size + 1) :: (vs ++ dvs)) (Value.ref (hp.objs.size + 1) :: (us ++ ds)) := .cons rfl (r1.append hd)
  have hl : (Value.ref (hp.objs.size + 1) :: us ++ ds).length = ps.length := by
    have e := r2.length
    rw [F1.len _ _ _ _ hq] at e
    exact e.symm
  have hus : us.length ≤ sizeLine := by
    rw [← Paired.length r1, sizeLine_eq]
    omega
  refine wpAny_call (callX BF MF (I1.kIn _ _ hC) (PySem.W.looks_findIn I1.kIn iC) (fun self => PySem.W.bind_fn I1.kIn self tI) hus
    (codeAny_mono (F1.run _ X.stack _ _ ⟨Value.ref (hp.objs.size + 1) :: us, []⟩ (Value.ref (hp.objs.size + 1) :: (us ++ ds)) _ _ (fun _ _ _ => False) (hr.make C us []) (I2.env0.make C us []) (hb _ (Value.ref (hp.objs.size + 1) :: us) I2.kIn hl) r2 hq) fun r s' hq' => ?_))
  cases r with
  | error er => exact hx pins σ _ _ er s' I2 hq'
  | ok fl =>
    cases fl with
    | ret u =>
      obtain ⟨v, H2, os2, bare2, un2, hok2, rv, ev, d, fs, ea, ed, hd1, q2⟩ := hq'
      subst ev
      obtain ⟨h2, g2, d2, t2, os'⟩ := s'
      exact ⟨rv, mk_end (raises_own T.exC T.tyC) I1 hsz kk un2 hok2 os2 bare2 ea ed hd1 q2⟩
    | next => exact False.elim hq'
    | brk => exact False.elim hq'
    | cont => exact False.elim hq'
end
/-- what such an __init__ does -/
def spX (K : PySem.W.Frag) (Bi ini : String) (fld : Str) : Sp := fun vs H Q _ => ∃ a C y, vs = [.ref a, y] ∧ OexX K Bi ini C ∧ H a = some (exo a C none) ∧ PySem.W.findIn K (.ref C) fld = some none ∧ ∀ dx, H dx = none → dx ≠ a → Q .non (upd (upd H dx (exd dx [(fld, y)])) a (exo a C (some dx)))
def tInX (K : PySem.W.Frag) (Bi ini : String) (fld : Str) : TS := fun D σ H => ∃ a C y, σ[0]? = some (some (.ref a)) ∧ σ[1]? = some (some y) ∧ OexX K Bi ini C ∧ H a = some (exo a C none) ∧ PySem.W.findIn K (.ref C) fld = some none ∧
  ∀ dx, H dx = none → dx ≠ a → D.nx σ (upd (upd H dx (exd dx [(fld, y)])) a (exo a C (some dx)))
theorem inX_body {Bi ini : String} {X : Cx} {s1 s2 : Stmt} {msg fld : Str} {ta : TA} (h1 : PS X s1 (tDrop (tXeI X.K Bi ini ta))) (hta : ∀ (σ : L2.St) (H : Hp) (Q : List V → Hp → Prop) (v : V), σ[0]? = some (some v) → Q [v, .str msg] H → ta σ H Q) (h2 : PS X s2 (tOsX X.K Bi ini fld (tVar 0) (tVar 1))) : PSs X [s1, s2] (tInX X.K Bi ini fld) :=
  PSs.imp (pss_cons h1 (pss_one h2)) fun D σ H h => by
    obtain ⟨a, C, y, h0, h1, T, ha, hf, q⟩ := h
    refine hta σ H _ _ h0 ⟨a, C, [.str msg], rfl, by simp, T, ha, ?_⟩
    exact ⟨y, h1, .ref a, h0, a, C, rfl, T, hf, ha, q⟩
section
variable {P : Program} {w : World} {K : PySem.W.Frag} {mg : Str → Option Value} {base : Heap}
theorem initX_ok {Bi ini : String} {qual pv fld : Str} {st : Stmt} {f : Addr} {fd : FuncData} (Fd : Fun K "__init__" qual st f fd) (S : FnScope ["self", pv] ["self", pv] (defScope st))
    (hb : ∀ (cdv : Value) (A : Around) (outer : List PySem.Env) (s : Shared) (H : Hp) (E : XK), PSs (cxOf (L2.CX P w) P w K mg base ["self", pv] qual (defScope st) f cdv A outer s H E) (defBody st) (tInX K Bi ini fld)) :
    FnOk P w K mg base (L2.CX P w) 1 f fd ["self", pv] (spX K Bi ini fld) := by
  refine Fd.okX (k := 0) S (fun vs H Q E h => ?_) fun cdv A outer s H vs Q E hr h => ⟨_, hb cdv A outer s H E, ?_⟩
  · obtain ⟨a, C, y, rfl, _⟩ := h
    rfl
  · obtain ⟨a, C, y, rfl, T, ha, hf, q⟩ := h
    exact ⟨a, C, y, rfl, rfl, T, ha, hf, q⟩
end
structure RaiX (P : Program) (w : World) (K : PySem.W.Frag) (mg : Str → Option Value) (base : Heap) (B : Bx) (x : Str) (c : String) : Prop where
  ex : ∃ Bi ini C fI fd pv fld, B.exc c = some (C, fld) ∧ OexX K Bi ini C ∧ PySem.W.findIn K (.ref C) fld = some none ∧ PySem.W.findIn K (.ref C) "__init__" = some (some (.ref fI)) ∧ PySem.W.typeIn K (.ref fI) = some (.type "function") ∧
    FnOk P w K mg base (L2.CX P w) 1 fI fd ["self", pv] (spX K Bi ini fld) ∧ Binds K fd ["self", pv] [] ∧ mg x = some (.ref C)
section
variable {B : Bx} {X : Cx} {W : WX} {F H F1 H1 : Hp} {env e1 : AN.Env} {σ σ1 : L2.St} {x : Str} {c : String} {e : Expr} {ma : M Opd} {p pos pos' : Pos}
theorem ds_raiseX (R : RaiX X.prog X.w X.K X.mg X.base B x c) (hr : Room 2 X.A) (hcalm : X.calm = true) (tk : Takes X W) (ha : DE B X W e ma) (hg : Gl X x := by rfl) (hdb : (x == ("__debug__" : Str)) = false := by decide)
    (he : starEach [e] X.env = (false, eval e X.env) :: starEach [] X.env := by rfl) (hpl : (backTo pos (starEach [] X.env)).any (·.1) = false := by rfl) : DS B X W (.Raise (some (.Call (.Name x p) [e] [] pos)) none pos') (mRaise c ma) := by
  obtain ⟨Bi, ini, C, fI, fd, pv, fld, hx, T, hno, iC, tI, F0, hb, hm⟩ := R.ex
  refine PS.imp (ps_raise hcalm tk (pmk_oexX (dvs := []) T iC tI F0 hr hb .nil passL hg hm (pa_cons ha pa_nil he) hdb he hpl)) fun D σ H h => ?_
  obtain ⟨F, env, S, h⟩ := h
  refine ⟨F, env, S, (PostS.bind h).mono fun y e1 F1 H1 s1 m1 o1 k1 v rv => ?_⟩
  obtain ⟨d, e2, F2, s2, m2, o2, r2, k2⟩ := m1.frz1 rv (PostS.bind k1)
  obtain ⟨C', fld', hx', k3⟩ := k2
  rw [hx] at hx'
  cases hx'
  refine ⟨by simp, fun a na => ⟨a, C, v, rfl, T, upd_same, hno, fun dx nd ne => ⟨rfl, dx, [(fld, v)], upd_same, ?_, ?_, ?_⟩⟩⟩
  · rw [upd_ne ne, upd_same]
  · rw [upd_ne ne] at nd; exact nd
  · rw [upd_ne ne] at nd
    have eq : upd (del (upd (upd (upd H1 a (exo a C none)) dx (exd dx [(fld, v)])) a (exo a C (some dx))) a) dx (.xd [(fld, v)]) = upd H1 dx (.xd [(fld, v)]) := by
      funext b
      by_cases h1 : b = dx
      · subst h1; rw [upd_same, upd_same]
      · rw [upd_ne h1, upd_ne h1]
        by_cases h2 : b = a
        · subst h2; rw [del_same, na]
        · rw [del_ne h2, upd_ne h2, upd_ne h1, upd_ne h2]
    rw [eq]
    obtain ⟨s3, h3⟩ := step0_mk (u := .xd [(fld, v)]) m2.hold nd
    exact k3 σ F2 _ dx v (Go.of s3.any (m2.step0 s3 h3) (EnvLe.refl _)) upd_same (m2.hold.none nd) nd r2
end
end AN

set_option Elab.async false
set_option maxRecDepth 100000
set_option autoImplicit false
set_option linter.unusedVariables false
/-! isinstance(x, (C1, C2)), built-in classes; xs.extend(ys) -/
namespace AN
open PySem L2 PyProof.Rows
section
variable {B : Bx} {X : Cx} {W : WX} {F H F1 H1 : Hp} {env e1 : AN.Env} {σ : L2.St} {Q : VK} {a b e o : Expr} {ma mb : M Opd} {mo : M O} {pos p p1 p2 p3 : Pos} {k n : Nat} {T1 T2 : String}
theorem de_isiT2 {N1 N2 : Str} {f g : D → Bool} {x1} (hf : ∀ d, isObj d = false → kitB (tyN d) T1 = some (f d)) (hf2 : ∀ d, isObj d = false → kitB (tyN d) T2 = some (g d)) (hK : X.K = B.K) (ha : DE B X W a ma) (hm : X.mg "isinstance" = none)
    (hm1 : X.mg N1 = none) (hv1 : bootBuiltins N1 = some (.type T1)) (hm2 : X.mg N2 = none) (hv2 : bootBuiltins N2 = some (.type T2)) (hg : Gl X "isinstance" := by rfl) (hg1 : Gl X N1 := by rfl) (hg2 : Gl X N2 := by rfl)
    (he : starEach [a, .Tuple [.Name N1 p1, .Name N2 p2] x1 p3] X.env = (false, eval a X.env) :: starEach [.Tuple [.Name N1 p1, .Name N2 p2] x1 p3] X.env := by rfl)
    (he2 : starEach [.Tuple [.Name N1 p1, .Name N2 p2] x1 p3] X.env = (false, eval (.Tuple [.Name N1 p1, .Name N2 p2] x1 p3) X.env) :: starEach [] X.env := by rfl)
    (hpl : (backTo pos (starEach [.Tuple [.Name N1 p1, .Name N2 p2] x1 p3] X.env)).any (·.1) = false := by rfl)
    (h1 : starEach [.Name N1 p1, .Name N2 p2] X.env = (false, eval (.Name N1 p1) X.env) :: starEach [.Name N2 p2] X.env := by rfl) (h2 : starEach [.Name N2 p2] X.env = (false, eval (.Name N2 p2) X.env) :: starEach [] X.env := by rfl)
    (hn1 : N1 ≠ "__name__" := by decide) (hd1 : (N1 == ("__debug__" : Str)) = false := by decide) (hn2 : N2 ≠ "__name__" := by decide) (hd2 : (N2 == ("__debug__" : Str)) = false := by decide) :
    DE B X W (.Call (.Name "isinstance" p) [a, .Tuple [.Name N1 p1, .Name N2 p2] x1 p3] [] pos) (mD (mB1 (isI fun d => f d || g d) ma)) :=
  PE.imp (pe_callB call_isiT hg hm (by decide +kernel) (pa_cons ha (pa_cons (pe_tup (pa_cons (pe_bltn (v := .ty T1) hg1 hm1 hv1 rfl hn1 hd1) (pa_cons (pe_bltn (v := .ty T2) hg2 hm2 hv2 rfl hn2 hd2) pa_nil h2) h1)) pa_nil he2) he) (by decide) (by decide) he hpl) fun σ H Q h => by
    refine op1 (g := isI fun d => f d || g d) (r := fun x H Q => [V.ty T1, V.ty T2].length ≤ sizeLine ∧ ∀ p, H p = none → rIsiT X.K [x, .ref p] (upd H p (.tup [.ty T1, .ty T2])) Q) (fun F H a z x Q hh sa e q => ?_) h
    unfold isI at e
    cases ho : isObj a with
    | true => rw [if_pos ho] at e; cases e
    | false =>
      rw [if_neg (by rw [ho]; exact Bool.false_ne_true)] at e
      cases e
      refine ⟨show 2 ≤ sizeLine by decide, fun p hp => ?_⟩
      obtain ⟨F1, l1, h1, r1⟩ := sa.fix hh
      obtain ⟨s0, h0⟩ := step0_mk (u := .tup [.ty T1, .ty T2]) hh hp
      obtain ⟨s1, hh1⟩ := step0_mk (u := .tup [.ty T1, .ty T2]) h1 hp
      have ty := (Rep.seen hh1 r1).ty hK hh1 ho
      refine ⟨x, p, [.ty T1, .ty T2], _, [.type T1, .type T2], f a || g a, rfl, upd_same, .cons (.ty T1) (.cons (.ty T2) .nil), ty, ?_, q _ F _ s0 h0 rfl⟩
      refine kitAny_cons (kit_ty (hf a ho)) (fun e1 => ?_) (fun e1 => by rw [e1]; rfl)
      rw [e1, Bool.false_or]
      exact kitAny_cons (kit_ty (hf2 a ho)) (fun e2 => by rw [e2]; exact kitAny_nil) (fun e2 => e2)
def extAt (i : Nat) (o : O) : M Fl := fun env => match o, env[i]? with
  | .lst ys, some (.ow pn (.lst xs)) => if xs.length + ys.length ≤ sizeLine then .ok .nx (env.set i (.ow pn (.lst (xs ++ ys)))) else .bad
  | _, _ => .bad
/-- xs.extend(e), e a new list -/
def mExt (i : Nat) (m : M O) : M Fl := M.bind (chkL i) fun _ => M.bind m fun o => extAt i o
theorem ds_extend (i : Nat) {x : Str} {p' p2 q : Pos} (he : DO B X W e mo) (hN : X.N[i]? = some x := by rfl) (hv : Vis X.env.scope x := by first | exact Or.inl rfl | exact Or.inr (Or.inl rfl) | exact Or.inr (Or.inr rfl)) (hd : (x == ("__debug__" : Str)) = false := by decide)
    (hcd : (x == ("__classdict__" : Str)) = false := by decide) (hbase : attributeBase (.Name x p') "extend" X.env (eval (.Name x p') X.env) = eval (.Name x p') X.env := by rfl)
    (hfew : ((backTo q (starEach [e] X.env)).all (fun x => !x.1) && (backToKw q (keywordEach [] X.env)).all (fun x => x.1.isSome) && decide (([e] : List Expr).length + ([] : List Keyword).length + (if ([] : List Keyword).isEmpty then 0 else 1) < 30)) = true := by rfl)
    (hline : (p2.endLine == q.line) = true := by rfl) (hs : starEach [e] X.env = (false, eval e X.env) :: starEach [] X.env := by rfl) (hplain : (backTo q (starEach [] X.env)).any (·.1) = false := by rfl)
    (hsw : swapsWith (.Call (.Attribute (.Name x p') "extend" p2) [e] [] q) none pos.line X.env = pure false := by rfl) : DS B X W (.Expr (.Call (.Attribute (.Name x p') "extend" p2) [e] [] q) pos) (mExt i mo) :=
  PS.imp (ps_expr (pe_bm PySem.F.plainAttrs_list PySem.F.slot_list_extend PySem.F.type_list_extend mt_extend (pe_var hN hv hd hcd) (pa_cons he pa_nil hs) hbase hfew hline hs hplain) hsw) fun D0 σ H h => by
    obtain ⟨F, env, S, h⟩ := h
    obtain ⟨pn, xs, q0, h1⟩ := PostS.chkL S h
    obtain ⟨l, e1, e2, z0, vs, e3, e4⟩ := S.ow i pn _ q0
    refine ⟨.ref l, e1, .inl ⟨rfl, vs, .inl (.inl e3)⟩, F, env, S, h1.bind.mono fun o ev1 F1 H1 s1 m1 o1 k1 p hp hf ho => ?_⟩
    unfold extAt at k1
    cases o with
    | dic _ => exact k1.elim
    | obj _ _ => exact k1.elim
    | lst ys =>
      obtain ⟨zy, us2, hu2, rl2⟩ := ho
      cases q : ev1[i]? with
      | none => rw [q] at k1; exact k1.elim
      | some s =>
        rw [q] at k1
        cases s with
        | no => exact k1.elim
        | fz _ => exact k1.elim
        | ow pn2 o =>
          cases o with
          | dic _ => exact k1.elim
          | obj _ _ => exact k1.elim
          | lst ws =>
            dsimp only at k1
            by_cases g : ws.length + ys.length ≤ sizeLine
            · rw [if_pos g] at k1
              obtain ⟨l2, y1, y2, y3, us, y4, y5⟩ := m1.ow i pn2 _ q
              rw [e1] at y1
              cases y1
              refine ⟨l, p, us, us2, rfl, rfl, y4, hu2, by rw [y5.length, rl2.length]; exact g, ?_⟩
              exact k1 _ _ _ (m1.setOw q e1 ⟨by rw [List.length_append]; exact g, _, upd_same, y5.append rl2⟩)
            · rw [if_neg g] at k1; exact k1.elim
end
end AN

set_option Elab.async false
set_option maxRecDepth 100000
set_option autoImplicit false
set_option linter.unusedVariables false
/-! dicts whose keys are ints and texts: d[k], k in d -/
namespace AN
open PySem L2 PyProof.Rows
def keyOf : D → Option Key
  | .int i => some (.inl i)
  | .str s => some (.inr s)
  | _ => none
def findK (kvs : List (Key × D)) (k : Key) : Option D := (kvs.find? fun kv => decide (kv.1 = k)).map (·.2)
def putKD (kvs : List (Key × D)) (k : Key) (d : D) : List (Key × D) :=
  if (kvs.any fun kv => decide (kv.1 = k)) = true then kvs.map (fun kv => if kv.1 = k then (kv.1, d) else kv) else kvs ++ [(k, d)]
def dIxK (a b : D) : Option D := match a with
  | .dic kvs => (keyOf b).bind (findK kvs)
  | a => dIx a b
def dInK (neg : Bool) (a b : D) : Option D := match b with
  | .dic kvs => (keyOf a).map fun k => .bl (if neg then !(findK kvs k).isSome else (findK kvs k).isSome)
  | b => dInX neg a b
section
variable {B : Bx} {X : Cx} {W : WX} {F H F1 H1 : Hp}
theorem RepK.find : ∀ {kvs : List (Key × D)} {ks : List (Key × V)} {k : Key}, RepK B F kvs ks → (∀ d, findK kvs k = some d → ∃ v, valV ks k = some v ∧ Rep B F d v) ∧ (findK kvs k = none → valV ks k = none)
  | [], ks, k, r => by
    rw [show ks = [] from r]
    exact ⟨(fun d e => by cases e), fun _ => rfl⟩
  | (k0, d0) :: kvs, ks, k, r => by
    obtain ⟨v0, rest, rfl, r1, r2⟩ := r
    obtain ⟨i1, i2⟩ := RepK.find (k := k) r2
    by_cases h : k0 = k
    · refine ⟨fun d e => ⟨v0, valV_pos h, ?_⟩, fun e => ?_⟩
      · simp [findK, List.find?_cons, h] at e
        rw [← e]; exact r1
      · simp [findK, List.find?_cons, h] at e
    · have e1 : findK ((k0, d0) :: kvs) k = findK kvs k := by simp [findK, List.find?_cons, h]
      have e2 : valV ((k0, v0) :: rest) k = valV rest k := by simp [valV, List.find?_cons, h]
      rw [e1, e2]
      exact ⟨i1, i2⟩
theorem keyOf_rep {d : D} {v : V} {k : Key} (e : keyOf d = some k) (r : Seen B F H d v) : v = kV k := by
  cases d with
  | int i => cases e; exact r
  | str s => cases e; exact r.1
  | _ => cases e
def rIxK : R2 := fun x y H Q => ∃ a v, x = .ref a ∧ DGet H a y (some v) ∧ Q v H
theorem ix_dict (hu : X.A.units + 1 < cLine) : IxR X rIxK := by
  intro value slice pins s σ H x y v u Q I rx ry h hs
  obtain ⟨a, z, rfl, g, q⟩ := h
  obtain rfl : v = Value.ref a := rx
  have hT := dict_typeIs I g
  unfold subscriptTail
  refine wpAny_bind ?_
  rw [getitemInPython_of_ne hT.not_modules]
  refine wpAny_bind (wpAny_specialOf hT PySem.F.slot_dict_getitem.lookup ?_)
  have fin : wpAny (model X.prog X.w) X.A (subscripted slice false (.ref a) u) (fun r s₃ => wpAny (model X.prog X.w) X.A (letTemporaryGo value (.ref a) r >>= fun _ => pure r) (EP X pins σ Q) X.xe s₃) X.xe s := by
    rw [hs]
    exact wpAny_operating (d_getItem hu I g ry fun w' s3 I3 rw' => wpAny_bind (wpAny_letTemporaryGo (wpAny_pure ⟨z, H, I3, rw', q⟩)))
  first
    | exact wpAny_pure (wpAny_bind fin)
    | exact wpAny_bind (wpAny_pure (wpAny_bind fin))
    | exact wpAny_bind fin
theorem p_ixK (hK : X.K = B.K) : Prim2 B dIxK (fun x y H Q => (rIxL X.K x y H Q ∨ (rIxT X.K x y H Q ∨ rIxS x y H Q)) ∨ rIxK x y H Q) := fun F H a b z x y Q hh sa sb e q => by
  have plain : dIx a b = some z → (rIxL X.K x y H Q ∨ (rIxT X.K x y H Q ∨ rIxS x y H Q)) ∨ rIxK x y H Q := fun e => .inl (p_ix hK F H a b z x y Q hh sa sb e q)
  cases a with
  | dic kvs =>
    right
    obtain ⟨k, hk, hf⟩ := Option.bind_eq_some_iff.mp (show (keyOf b).bind (findK kvs) = some z from e)
    obtain ⟨p, ks, rfl, rd, _, rk⟩ := sa
    obtain ⟨v, hv, rv⟩ := (RepK.find (k := k) rk).1 z hf
    have ey := keyOf_rep hk sb
    exact ⟨p, v, rfl, .inl ⟨ks, k, rd, ey, hv.symm⟩, q v F H (Step.refl _ _ _) hh rv⟩
  | _ => exact plain e
def rInKD (neg : Bool) : R2 := fun y x H Q => ∃ a o, x = .ref a ∧ DGet H a y o ∧ Q (.bl (if neg then !o.isSome else o.isSome)) H
theorem op_inKD (hu : X.A.units + 1 < cLine) : OpR X (compareOp .In) (rInKD false) := by
  intro pins s σ H x y v u Q I rx ry h
  obtain ⟨a, o, rfl, g, q⟩ := h
  obtain rfl : u = Value.ref a := ry
  exact d_in hu I g rx fun s3 I3 => ⟨.bl o.isSome, H, I3, rfl, q⟩
theorem op_notInKD (hu : X.A.units + 1 < cLine) : OpR X (compareOp .NotIn) (rInKD true) := by
  intro pins s σ H x y v u Q I rx ry h
  obtain ⟨a, o, rfl, g, q⟩ := h
  obtain rfl : u = Value.ref a := ry
  exact d_notIn hu I g rx fun s3 I3 => ⟨.bl (!o.isSome), H, I3, rfl, q⟩
theorem p_inK {neg : Bool} {r0 : R2} (h0 : Prim2 B (dInX neg) r0) : Prim2 B (dInK neg) (fun x y H Q => r0 x y H Q ∨ rInKD neg x y H Q) := fun F H a b z x y Q hh sa sb e q => by
  have plain : dInX neg a b = some z → r0 x y H Q ∨ rInKD neg x y H Q := fun e => .inl (h0 F H a b z x y Q hh sa sb e q)
  cases b with
  | dic kvs =>
    right
    obtain ⟨k, hk, hz⟩ := Option.map_eq_some_iff.mp (show (keyOf a).map _ = some z from e)
    obtain ⟨p, ks, rfl, rd, _, rk⟩ := sb
    have ey := keyOf_rep hk sa
    have hiff : (valV ks k).isSome = (findK kvs k).isSome := by
      obtain ⟨i1, i2⟩ := RepK.find (k := k) rk
      cases hq : findK kvs k with
      | none => rw [i2 hq]; rfl
      | some d => obtain ⟨v, hv, _⟩ := i1 d hq; rw [hv]; rfl
    refine ⟨p, valV ks k, rfl, .inl ⟨ks, k, rd, ey, rfl⟩, q _ F H (Step.refl _ _ _) hh ?_⟩
    rw [← hz, hiff]
    rfl
  | _ => exact plain e
end
end AN

set_option Elab.async false
set_option maxRecDepth 100000
set_option autoImplicit false
set_option linter.unusedVariables false
/-! d[k] = e for a dict that one name alone holds; len(d) -/
namespace AN
open PySem L2 PyProof.Rows
def chkD (i : Nat) : M Unit := fun env => match env[i]? with
  | some (.ow _ (.dic _)) => .ok () env
  | _ => .bad
def putKAt (i : Nat) (d : D) (k : Key) : M Fl := fun env => match env[i]? with
  | some (.ow pn (.dic kvs)) => if kvs.length < sizeLine then .ok .nx (env.set i (.ow pn (.dic (putKD kvs k d)))) else .bad
  | _ => .bad
def mPutK (i : Nat) (ix : M Opd) (m : M Opd) : M Fl := M.bind m fun x => M.bind (frz1 x) fun d => M.bind (chkD i) fun _ => M.bind ix fun y => M.bind (ap1 keyOf y) fun k => putKAt i d k
theorem putKD_len {kvs : List (Key × D)} {k : Key} {d : D} : (putKD kvs k d).length ≤ kvs.length + 1 := by
  unfold putKD
  by_cases h : (kvs.any fun kv => decide (kv.1 = k)) = true
  · rw [if_pos h, List.length_map]; omega
  · rw [if_neg h, List.length_append]; simp
section
variable {B : Bx} {X : Cx} {W : WX} {F H F1 H1 : Hp} {env : AN.Env} {σ : L2.St} {Q : VK} {a b e : Expr} {ma mb : M Opd} {pos p : Pos}
theorem RepK.any : ∀ {kvs : List (Key × D)} {ks : List (Key × V)} {k : Key}, RepK B F kvs ks → (ks.any fun kv => decide (kv.1 = k)) = (kvs.any fun kv => decide (kv.1 = k))
  | [], ks, k, r => by rw [show ks = [] from r]; rfl
  | (k0, d0) :: kvs, ks, k, r => by
    obtain ⟨v0, rest, rfl, _, r2⟩ := r
    rw [List.any_cons, List.any_cons, RepK.any r2]
theorem RepK.mapPut {d : D} {v : V} {k : Key} (rv : Rep B F d v) : ∀ {kvs : List (Key × D)} {ks : List (Key × V)}, RepK B F kvs ks → RepK B F (kvs.map fun kv => if kv.1 = k then (kv.1, d) else kv) (ks.map fun kv => if kv.1 = k then (kv.1, v) else kv)
  | [], ks, r => by rw [show ks = [] from r]; rfl
  | (k0, d0) :: kvs, ks, r => by
    obtain ⟨v0, rest, rfl, r1, r2⟩ := r
    by_cases h : k0 = k
    · rw [List.map_cons, List.map_cons]
      dsimp only
      rw [if_pos h, if_pos h]
      exact ⟨v, _, rfl, rv, RepK.mapPut rv r2⟩
    · rw [List.map_cons, List.map_cons]
      dsimp only
      rw [if_neg h, if_neg h]
      exact ⟨v0, _, rfl, r1, RepK.mapPut rv r2⟩
theorem RepK.snoc {d : D} {v : V} {k : Key} (rv : Rep B F d v) : ∀ {kvs : List (Key × D)} {ks : List (Key × V)}, RepK B F kvs ks → RepK B F (kvs ++ [(k, d)]) (ks ++ [(k, v)])
  | [], ks, r => by rw [show ks = [] from r]; exact ⟨v, [], rfl, rv, rfl⟩
  | (k0, d0) :: kvs, ks, r => by
    obtain ⟨v0, rest, rfl, r1, r2⟩ := r
    exact ⟨v0, _, rfl, r1, RepK.snoc rv r2⟩
theorem RepK.put {d : D} {v : V} {k : Key} {kvs : List (Key × D)} {ks : List (Key × V)} (r : RepK B F kvs ks) (rv : Rep B F d v) : RepK B F (putKD kvs k d) (putK ks k v) := by
  unfold putKD putK
  rw [RepK.any r]
  by_cases h : (kvs.any fun kv => decide (kv.1 = k)) = true
  · rw [if_pos h, if_pos h]; exact RepK.mapPut rv r
  · rw [if_neg h, if_neg h]; exact RepK.snoc rv r
theorem RepK.length : ∀ {kvs : List (Key × D)} {ks : List (Key × V)}, RepK B F kvs ks → ks.length = kvs.length
  | [], ks, r => by rw [show ks = [] from r]; rfl
  | (k0, d0) :: kvs, ks, r => by
    obtain ⟨v0, rest, rfl, _, r2⟩ := r
    rw [List.length_cons, List.length_cons, RepK.length r2]
theorem PostS.chkD {i : Nat} {D0 : Ends} {k : Unit → M Fl} (S : Sim B F env σ H) (h : PostS B W F env σ H D0 (M.bind (AN.chkD i) k env)) : ∃ pn xs, env[i]? = some (.ow pn (.dic xs)) ∧ PostS B W F env σ H D0 (k () env) := by
  unfold M.bind AN.chkD at h
  cases q : env[i]? with
  | none => simp only [q] at h; exact h.elim
  | some s =>
    cases s with
    | no => simp only [q] at h; exact h.elim
    | fz _ => simp only [q] at h; exact h.elim
    | ow pn o =>
      cases o with
      | dic xs => simp only [q] at h; exact ⟨pn, xs, rfl, h⟩
      | lst _ => simp only [q] at h; exact h.elim
      | obj _ _ => simp only [q] at h; exact h.elim
theorem ds_putK (i : Nat) {x : Str} {p' p2 : Pos} (hu : X.A.units + 1 < cLine) (hb : DE B X W b mb) (he : DE B X W e ma) (hN : X.N[i]? = some x := by rfl) (hv : Vis X.env.scope x := by first | exact Or.inl rfl | exact Or.inr (Or.inl rfl) | exact Or.inr (Or.inr rfl)) (hd : (x == ("__debug__" : Str)) = false := by decide)
    (hcd : (x == ("__classdict__" : Str)) = false := by decide) (hs : swapsWith e (some (.Subscript (.Name x p') b p2)) pos.line X.env = pure false := by rfl) : DS B X W (.Assign [.Subscript (.Name x p') b p2] e pos) (mPutK i mb ma) :=
  PS.imp (ps_dput hu (pe_var hN hv hd hcd) hb he hs) fun D σ H h => by
    obtain ⟨F, env, S, h⟩ := h
    refine ⟨F, env, S, h.bind.mono fun x e1 F1 H1 s1 m1 o1 k1 v rv => ?_⟩
    obtain ⟨d, e2, F2, s2, m2, o2, r2, k2⟩ := m1.frz1 rv k1.bind
    obtain ⟨pn, xs, hi, k3⟩ := k2.chkD m2
    obtain ⟨q, hq, hf, _⟩ := m2.ow i pn _ hi
    refine ⟨.ref q, hq, F2, e2, m2, k3.bind.mono fun y e3 F3 H3 s3 m3 o3 k4 w rw => ?_⟩
    obtain ⟨a, z, ea, ez, k5⟩ := k4.bind.ap1
    have k5 := Post.here m3 k5
    have sa := m3.view rw ea
    have ew := keyOf_rep ez sa
    unfold putKAt at k5
    cases q2 : e3[i]? with
    | none => simp only [q2] at k5; exact k5.elim
    | some sl =>
      cases sl with
      | no => simp only [q2] at k5; exact k5.elim
      | fz _ => simp only [q2] at k5; exact k5.elim
      | ow pn' o =>
        cases o with
        | lst _ => simp only [q2] at k5; exact k5.elim
        | obj _ _ => simp only [q2] at k5; exact k5.elim
        | dic kvs =>
          simp only [q2] at k5
          by_cases hz : kvs.length < sizeLine
          · rw [if_pos hz] at k5
            obtain ⟨q', hq', hf', hz', ks, hv', rk⟩ := m3.ow i pn' _ q2
            rw [hq] at hq'; cases hq'
            refine ⟨q, upd H3 q (.dK (putK ks z v)), rfl, .inl ⟨ks, z, hv', ew, by rw [rk.length]; exact hz, rfl⟩, ?_⟩
            exact k5 _ _ _ (m3.setOw q2 hq ⟨by have := putKD_len (kvs := kvs) (k := z) (d := d); omega, _, upd_same, rk.put (Rep.mono s3.le d v r2)⟩)
          · rw [if_neg hz] at k5; exact k5.elim
end
end AN

set_option Elab.async false
set_option maxRecDepth 100000
set_option autoImplicit false
set_option linter.unusedVariables false
/-! {k: e for target in iter if test} -/
namespace AN
open PySem L2
section
variable {B : Bx} {X : Cx} {W : WX} {F H F1 H1 F2 H2 : Hp} {env e1 e2 : Env} {σ : St}
def dcl (vs : List Nat) (g : D → Env → Option Env) (mt : M Bool) (mk mv : M Opd) : List D → List (Key × D) → Env → R (List (Key × D))
  | [], acc, env => .ok acc env
  | d :: ds, acc, env => match g d env with
    | none => .bad
    | some e1 => match mt e1 with
      | .ok false e2 => dcl vs g mt mk mv ds acc (wipeE vs 0 e2)
      | .ok true e2 => match M.bind mk (fun x => ap1 keyOf x) e2 with
        | .ok k e3 => match M.bind mv frz1 e3 with
          | .ok y e4 => dcl vs g mt mk mv ds (putKD acc k y) (wipeE vs 0 e4)
          | _ => .bad
        | _ => .bad
      | _ => .bad
def mDC (vs : List Nat) (it : M (List D)) (g : D → Env → Option Env) (mt : M Bool) (mk mv : M Opd) : M O := M.bind it fun ds env => if ds.length ≤ sizeLine then (match dcl vs g mt mk mv ds [] (wipeE vs 0 env) with
  | .ok acc e2 => .ok (.dic acc) (restE vs 0 env e2)
  | _ => .bad) else .bad
theorem dc_read {vs ns : List Nat} {mi : M (List D)} {g : D → Env → Option Env} {mt : M Bool} {mk mv : M Opd} {Q : VK} (hns : ∀ i ∈ ns, i ∈ vs) (h : tO B W (mDC vs mi g mt mk mv) σ H Q) :
    tDc (tI B W mi) (tG B ns g) (tT B WF mt) (tE B WF mk) (tE B WF mv) vs σ H Q := by
  obtain ⟨F, env, S, h⟩ := h
  refine ⟨F, env, S, (Post.bind S h).mono fun ds e1 F1 H1 s1 m1 l1 k1 J it Dd hD => ?_⟩
  by_cases hz : ds.length ≤ sizeLine
  · rw [if_pos hz] at k1
    cases ql : dcl vs g mt mk mv ds [] (wipeE vs 0 e1) with
    | bad => rw [ql] at k1; exact k1.elim
    | exc c d e' => rw [ql] at k1; exact k1.elim
    | ok acc e2 =>
      rw [ql] at k1
      have nD : ¬ Own e1 σ Dd := fun z => by
        obtain ⟨_, u, hu⟩ := z.ex m1
        rw [hD] at hu; cases hu
      have nDw : ¬ Own (wipeE vs 0 e1) (wipe σ vs) Dd := fun z => nD (wiped_own z)
      have fD : F1 Dd = none := m1.hold.none hD
      obtain ⟨s0, hh0⟩ := step0_mk (u := .dK []) m1.hold hD
      have mw := (m1.step0 s0 hh0).wiped vs
      refine ⟨fun i m H' => i ≤ ds.length ∧ m = ds.length - i ∧ ∃ F' e' acc' av, Step (fun b => Own (wipeE vs 0 e1) (wipe σ vs) b ∨ b = Dd) F1 (upd H1 Dd (.dK [])) F' H' ∧ Sim B F' e' (wipe σ vs) H' ∧ EnvLe (wipeE vs 0 e1) e' ∧ H' Dd = some (.dK av) ∧ F' Dd = none ∧ RepK B F' acc' av ∧ acc'.length ≤ i ∧ dcl vs g mt mk mv (ds.drop i) acc' e' = .ok acc e2,
        ⟨ds.length, Nat.zero_le _, rfl, F1, wipeE vs 0 e1, [], [], Step.refl _ _ _, mw, EnvLe.refl _, upd_same, fD, rfl, Nat.zero_le _, ql⟩, ?_⟩
      rintro i m H' ⟨hi, rfl, F', e', acc', av, st, sm, le', hav, hfd, rl, hal, hlc⟩
      obtain ⟨it1, it2⟩ := it i F' H' st.le sm.hold
      have own_e : ∀ {b : Addr}, Own e' (wipe σ vs) b → Own (wipeE vs 0 e1) (wipe σ vs) b := fun z => le'.own z
      have nDe : ¬ Own e' (wipe σ vs) Dd := fun z => nDw (own_e z)
      cases q : ds[i]? with
      | none =>
        have e : i = ds.length := by
          have := List.getElem?_eq_none_iff.mp q
          omega
        left
        rw [e, List.drop_length] at hlc
        cases hlc
        refine ⟨it2 e, ?_⟩
        have stt : Step (Own e1 σ) F1 H1 F' H' := (s0.any (own := Own e1 σ)).trans st fun b z => by
          rcases z with z | z
          · exact .inl (wiped_own z)
          · exact .inr (by rw [z]; exact hD)
        obtain ⟨sr, lr⟩ := m1.rest sm le' st.le (fun b o e n => by
            by_cases hb : b = Dd
            · rw [hb, hD] at e; cases e
            · exact st.keep b o (by rw [upd_ne hb]; exact e) fun z => z.elim n hb) (fun j k o b hj z1 z2 => by
            obtain ⟨z3, u, hu⟩ := Own.ex m1 ⟨j, k, o, z1, z2⟩
            have hb : b ≠ Dd := fun y => by rw [y, hD] at hu; cases hu
            cases w : F' b with
            | none => rfl
            | some w' =>
              rcases st.new b w' w with y | y | y
              · rw [z3] at y; cases y
              · rw [upd_ne hb, hu] at y; cases y
              · rcases y with ⟨j', k', o', q1, q2⟩ | y
                · obtain ⟨hj', q3⟩ := wipeE_some q1 (fun z => nomatch z)
                  rw [wipe_get hj'] at q2
                  have := m1.sep j j' k o k' o' b z1 q3 z2 q2
                  subst this
                  exact absurd hj hj'
                · exact absurd y hb)
        exact k1 F' H' stt sr lr Dd (s1.back hD) hfd ⟨by omega, av, hav, rl⟩
      | some d =>
        right
        obtain ⟨go, yl⟩ := it1 d q
        have hlt : i < ds.length := (List.getElem?_eq_some_iff.mp q).1
        have hd : ds.drop i = d :: ds.drop (i + 1) := by
          rw [List.drop_eq_getElem_cons hlt]
          congr 1
          exact (List.getElem?_eq_some_iff.mp q).2
        rw [hd] at hlc
        refine ⟨go, fun H'' => i + 1 ≤ ds.length ∧ ∃ F' e' acc' av, Step (fun b => Own (wipeE vs 0 e1) (wipe σ vs) b ∨ b = Dd) F1 (upd H1 Dd (.dK [])) F' H'' ∧ Sim B F' e' (wipe σ vs) H'' ∧ EnvLe (wipeE vs 0 e1) e' ∧ H'' Dd = some (.dK av) ∧ F' Dd = none ∧ RepK B F' acc' av ∧ acc'.length ≤ i + 1 ∧ dcl vs g mt mk mv (ds.drop (i + 1)) acc' e' = .ok acc e2,
          fun H'' z => ⟨ds.length - (i + 1), by omega, z.1, rfl, z.2⟩, fun x H2 y => ?_⟩
        obtain ⟨F2, s2, h2, r2⟩ := yl x H2 y
        have S2 := sm.step0 s2 h2
        have hav2 : H2 Dd = some (.dK av) := s2.keep _ _ hav id
        have hfd2 : F2 Dd = none := by
          cases w : F2 Dd with
          | none => rfl
          | some w' =>
            rcases s2.new _ _ w with y | y | y
            · rw [hfd] at y; cases y
            · rw [hav] at y; cases y
            · exact y.elim
        unfold dcl at hlc
        cases qg : g d e' with
        | none => simp only [qg] at hlc; cases hlc
        | some e3 =>
          simp only [qg] at hlc
          refine ⟨F2, e', d, e3, S2, r2, qg, fun σ3 g3 w3 => ?_⟩
          have ws : wipe σ3 vs = wipe σ vs := wipe_eq (by rw [w3.len, wipe_length]) fun j hj => w3.rest j fun z => hj (hns j z)
          refine ⟨ws, F2, e3, g3.sim, ?_⟩
          have own3 : ∀ {b : Addr}, Own e3 σ3 b → Own (wipeE vs 0 e1) (wipe σ vs) b ∨ H2 b = none := fun z => (g3.owned z).imp own_e id
          have nD3 : ¬ Own e3 σ3 Dd := fun z => by
            rcases own3 z with z | z
            · exact nDw z
            · rw [hav2] at z; cases z
          have st2 : Step (fun b => Own (wipeE vs 0 e1) (wipe σ vs) b ∨ b = Dd) F1 (upd H1 Dd (.dK [])) F2 H2 := st.trans (s2.any (own := fun _ => False)) fun _ z => z.elim
          have stp : ∀ {F4 H4 : Hp}, Step (Own e3 σ3) F2 H2 F4 H4 → Step (fun b => Own (wipeE vs 0 e1) (wipe σ vs) b ∨ b = Dd) F1 (upd H1 Dd (.dK [])) F4 H4 := fun s4 => st2.trans s4 fun b z => by
            rcases own3 z with z | z
            · exact .inl (.inl z)
            · exact .inr (st2.back z)
          have dk : ∀ (F4 H4 : Hp), Step (Own e3 σ3) F2 H2 F4 H4 → H4 Dd = some (.dK av) ∧ F4 Dd = none := fun F4 H4 s4 => ⟨s4.keep _ _ hav2 nD3, by
            cases w : F4 Dd with
            | none => rfl
            | some w' =>
              rcases s4.new _ _ w with y | y | y
              · rw [hfd2] at y; cases y
              · rw [hav2] at y; cases y
              · exact absurd y nD3⟩
          cases qt : mt e3 with
          | bad => simp only [qt] at hlc; cases hlc
          | exc c d' e4 => simp only [qt] at hlc; cases hlc
          | ok bt e4 =>
            intro F4 H4 s4 m4 l4
            obtain ⟨hav4, hfd4⟩ := dk _ _ s4
            cases bt with
            | false =>
              simp only [qt] at hlc
              refine iteF ⟨hlt, F4, wipeE vs 0 e4, acc', av, stp s4, m4.wiped2 ws, wipeE_le le' (w3.le.trans l4), hav4, hfd4, RepK.mono (s2.le.trans s4.le) _ _ rl, by omega, hlc⟩
            | true =>
              simp only [qt] at hlc
              cases qk : M.bind mk (fun x => ap1 keyOf x) e4 with
              | bad => simp only [qk] at hlc; cases hlc
              | exc c d' e5 => simp only [qk] at hlc; cases hlc
              | ok kk e5 =>
                simp only [qk] at hlc
                refine iteT ⟨F4, e4, m4, ?_⟩
                have pb : Post B WF F4 e4 σ3 H4 (fun d' e' F' H' => d' = kk ∧ e' = e5) (M.bind mk (fun x => ap1 keyOf x) e4) := by
                  rw [qk]; exact fun _ _ _ _ _ => ⟨rfl, rfl⟩
                refine (Post.bind m4 pb).mono fun xo e5' F5 H5 s5 m5 l5 k5 v rv => ?_
                obtain ⟨ka, kz, ea, ez, k6⟩ := k5.ap1
                obtain ⟨rfl, rfl⟩ := k6 F5 H5 (Step.refl _ _ _) m5 (EnvLe.refl _)
                have ekey := keyOf_rep ez (m5.view rv ea)
                cases qe : M.bind mv frz1 e5' with
                | bad => simp only [qe] at hlc; cases hlc
                | exc c d' e7 => simp only [qe] at hlc; cases hlc
                | ok yv e7 =>
                  simp only [qe] at hlc
                  refine ⟨F5, e5', m5, ?_⟩
                  have pb2 : Post B WF F5 e5' σ3 H5 (fun d' e' F' H' => d' = yv ∧ e' = e7) (M.bind mv frz1 e5') := by
                    rw [qe]; exact fun _ _ _ _ _ => ⟨rfl, rfl⟩
                  refine (Post.bind m5 pb2).mono fun yo e8 F8 H8 s8 m8 l8 k8 w rw => ?_
                  obtain ⟨d9, e9, F9, s9, m9, l9, r9, rfl, rfl⟩ := m8.frz1 rw k8
                  have s59 : Step (Own e5' σ3) F5 H5 F9 H8 := s8.trans s9 fun b z => .inl (l8.own z)
                  have s49 : Step (Own e3 σ3) F2 H2 F9 H8 := s4.trans ((s5.trans s59 fun b z => .inl (l5.own z)) : Step (Own e4 σ3) F4 H4 F9 H8) fun b z => .inl (l4.own z)
                  obtain ⟨hav5, hfd5⟩ := dk _ _ s49
                  have nD9 : ¬ Own e9 σ3 Dd := fun z => nD3 (l4.own (l5.own (l8.own (l9.own z))))
                  have hlen : av.length = acc'.length := rl.length
                  have hput := putKD_len (kvs := acc') (k := kz) (d := d9)
                  refine ⟨av, kz, ekey, hav5, by omega, hlt, F9, wipeE vs 0 e9, putKD acc' kz d9, putK av kz w, ?_, (m9.updD hfd5 nD9).wiped2 ws, wipeE_le le' (w3.le.trans (l4.trans (l5.trans (l8.trans l9)))), upd_same, hfd5, RepK.put (RepK.mono (s2.le.trans s49.le) _ _ rl) r9, by omega, hlc⟩
                  have sf := stp s49
                  refine ⟨sf.le, fun b o e n => ?_, sf.new, fun b o e => ?_⟩
                  · have hb : b ≠ Dd := fun z => n (.inr z)
                    rw [upd_ne hb]; exact sf.keep b o e n
                  · by_cases hb : b = Dd
                    · exact ⟨_, by rw [hb]; exact upd_same⟩
                    · obtain ⟨o', e'⟩ := sf.stay b o e
                      exact ⟨o', by rw [upd_ne hb]; exact e'⟩
  · rw [if_neg hz] at k1; exact k1.elim
section
variable {kx vx tg iter : Expr} {ifs : List Expr} {scope : Scope} {own : List (Str × Nat)} {pos : Pos} {mi : M (List D)} {ns : List Nat} {g : D → Env → Option Env} {mt : M Bool} {mk mv : M Opd}
theorem do_dc (hc : X.calm = true) (hN : X.N.Nodup) (hi : DI B X W tg iter mi) (ok : blkC X.N X.env.scope scope own = true)
    (hg : ∀ (s : Shared) (H : Hp) (C : Addr) (cl : List (Str × Addr)) (fp : List Addr), DG B (X.blk s H scope (compEnvC scope cl C X.env) fp) tg ns g)
    (ht : ∀ (s : Shared) (H : Hp) (C : Addr) (cl : List (Str × Addr)) (fp : List Addr), DTs B (X.blk s H scope (compEnvC scope cl C X.env) fp) WF ifs mt)
    (hk : ∀ (s : Shared) (H : Hp) (C : Addr) (cl : List (Str × Addr)) (fp : List Addr), DE B (X.blk s H scope (compEnvC scope cl C X.env) fp) WF kx mk)
    (he : ∀ (s : Shared) (H : Hp) (C : Addr) (cl : List (Str × Addr)) (fp : List Addr), DE B (X.blk s H scope (compEnvC scope cl C X.env) fp) WF vx mv)
    (hns : ∀ i ∈ ns, i ∈ own.map (·.2)) (hs : ∀ x, foldedSetIterable iter X.env x = pure x := by intro _; rfl) :
    DO B X W (.DictComp kx vx [⟨tg, iter, ifs, 0⟩] scope pos) (mDC (own.map (·.2)) mi g mt mk mv) :=
  PE.imp (pe_dc hc hN hi (blkOk_by ok) hg ht hk he hs) fun σ H Q h => dc_read hns h
end
end
end AN

set_option Elab.async false
set_option maxRecDepth 100000
set_option autoImplicit false
set_option linter.unusedVariables false
namespace AN
open PySem L2 PyProof.Rows
theorem hu1 {k : Nat} {A : Around} (hr : Room k A) : A.units + 1 < cLine := by have := hu65 hr; omega
section
variable {B : Bx} {X : Cx} {W : WX} {a b : Expr} {ma mb : M Opd} {pos : Pos}
theorem de_atK (hu : X.A.units + 1 < cLine) (hK : X.K = B.K) (ha : DE B X W a ma) (hb : DE B X W b mb) (hs : PlainIx b := by exact fun _ _ => rfl) : DE B X W (.Subscript a b pos) (mD (mB2 dIxK ma mb)) := de_ix ((ix_list.or (ix_tup.or ix_str)).or (ix_dict hu)) (p_ixK hK) ha hb hs
end
end AN

set_option Elab.async false
set_option maxRecDepth 100000
set_option autoImplicit false
set_option linter.unusedVariables false
/-! dict(d), dict([(k, e), ..]) -/
namespace AN
open PySem PySem.Spec PyProof.Rows L2
def pairsOf : List D → Option (List (Key × D))
  | [] => some []
  | .tup [a, b] :: r => (keyOf a).bind fun k => (pairsOf r).map ((k, b) :: ·)
  | _ => none
def mergeD (acc more : List (Key × D)) : List (Key × D) := more.foldl (fun acc kv => putKD acc kv.1 kv.2) acc
def oDictOf : D → Option O
  | .dic kvs => some (.dic kvs)
  | .lst xs => (pairsOf xs).map fun kvs => .dic (mergeD [] kvs)
  | _ => none
theorem mergeD_len : ∀ {more acc : List (Key × D)}, (mergeD acc more).length ≤ acc.length + more.length
  | [], acc => by simp [mergeD]
  | (k, d) :: more, acc => by
    have h1 := mergeD_len (more := more) (acc := putKD acc k d)
    have h2 := putKD_len (kvs := acc) (k := k) (d := d)
    have e : mergeD acc ((k, d) :: more) = mergeD (putKD acc k d) more := rfl
    rw [e, List.length_cons]
    omega
theorem pairsOf_len : ∀ {xs : List D} {kvs : List (Key × D)}, pairsOf xs = some kvs → kvs.length = xs.length := by
  intro xs
  induction xs with
  | nil => intro kvs h; cases h; rfl
  | cons x r ih =>
    intro kvs h
    unfold pairsOf at h
    split at h
    · rename_i h0; cases h0
    · rename_i a b r' h0
      cases h0
      obtain ⟨k, _, h2⟩ := Option.bind_eq_some_iff.mp h
      obtain ⟨l, h3, rfl⟩ := Option.map_eq_some_iff.mp h2
      rw [List.length_cons, List.length_cons, ih h3]
    · cases h
section
variable {B : Bx} {X : Cx} {W : WX} {F H F1 H1 : Hp} {env e1 : AN.Env} {σ : L2.St} {Q : VK} {a b e o : Expr} {ma mb : M Opd} {mo : M O} {pos p : Pos}
theorem RepK.merge : ∀ {more : List (Key × D)} {ms : List (Key × V)} {acc : List (Key × D)} {as : List (Key × V)}, RepK B F more ms → RepK B F acc as → RepK B F (mergeD acc more) (mergeK as ms)
  | [], ms, acc, as, r, ra => by rw [show ms = [] from r]; exact ra
  | (k, d) :: more, ms, acc, as, r, ra => by
    obtain ⟨v, rest, rfl, r1, r2⟩ := r
    have e1 : mergeD acc ((k, d) :: more) = mergeD (putKD acc k d) more := rfl
    have e2 : mergeK as ((k, v) :: rest) = mergeK (putK as k v) rest := rfl
    rw [e1, e2]
    exact RepK.merge r2 (RepK.put ra r1)
theorem pairs_rep (hh : Holds F H) : ∀ {xs : List D} {vs : List V} {kvs : List (Key × D)}, RepL B F xs vs → pairsOf xs = some kvs → ∃ (ps : List Addr) (ks : List (Key × V)), vs = ps.map V.ref ∧ Paired (fun p kv => SqT B.K H p [kV kv.1, kv.2]) ps ks ∧ RepK B F kvs ks := by
  intro xs
  induction xs with
  | nil =>
    intro vs kvs r h
    cases h
    rw [show vs = [] from r]
    exact ⟨[], [], rfl, .nil, rfl⟩
  | cons x r0 ih =>
    intro vs kvs r h
    obtain ⟨v, rest, rfl, r1, r2⟩ := r
    unfold pairsOf at h
    split at h
    · rename_i h0; cases h0
    · rename_i da db r' h0
      cases h0
      obtain ⟨k, hk, h2⟩ := Option.bind_eq_some_iff.mp h
      obtain ⟨l, h3, rfl⟩ := Option.map_eq_some_iff.mp h2
      obtain ⟨ps, ks, rfl, hp, rk⟩ := ih r2 h3
      obtain ⟨q, us, rfl, ta, _, ru⟩ := r1
      obtain ⟨u1, _, rfl, t1, u2', ⟨u2, _, rfl, t2, rfl⟩⟩ : ∃ u1 rr, us = u1 :: rr ∧ Rep B F da u1 ∧ ∃ u2', (∃ u2 r2', rr = u2 :: r2' ∧ Rep B F db u2 ∧ r2' = []) := by
        obtain ⟨u1, rr, e1, a1, u2, r2', e2, a2, e3⟩ := ru
        exact ⟨u1, rr, e1, a1, u2, u2, r2', e2, a2, e3⟩
      have ek : u1 = kV k := keyOf_rep (H := H) hk (Rep.seen hh t1)
      subst ek
      exact ⟨q :: ps, (k, u2) :: ks, rfl, .cons (ta.sq hh) hp, ⟨u2, ks, rfl, t2, rk⟩⟩
    · cases h
theorem call_dictA (hcalm : X.calm = true) : CallR X (.type "dict") (fun xs H Q => (∃ (a : Addr) (kvs : List (Key × V)), xs = [.ref a] ∧ Rd H a (.dK kvs) ∧ ∀ p, H p = none → Q (.ref p) (upd H p (.dK kvs))) ∨
    ∃ (a : Addr) (ps : List Addr) (kvs : List (Key × V)), xs = [.ref a] ∧ SqL X.K H a (ps.map V.ref) ∧ Paired (fun p kv => SqT X.K H p [kV kv.1, kv.2]) ps kvs ∧ ∀ p, H p = none → Q (.ref p) (upd H p (.dK (mergeK [] kvs)))) := by
  intro pins s σ H xs us Q I r q
  rcases q with ⟨a, kvs, rfl, rd, q⟩ | q
  · obtain ⟨u, rfl, rx⟩ := vals1 r
    cases rx
    exact d_copyOf I rd fun p s' hp I' => ⟨.ref p, _, I', rfl, q p hp⟩
  · exact call_dictP hcalm pins s σ H xs us Q I r q
theorem do_dictOf (hcalm : X.calm = true) (hK : X.K = B.K) (ha : DE B X W a ma) (hm : X.mg "dict" = none) (hg : Gl X "dict" := by rfl)
    (he : starEach [a] X.env = (false, eval a X.env) :: starEach [] X.env := by rfl) (hpl : (backTo pos (starEach [] X.env)).any (·.1) = false := by rfl) : DO B X W (.Call (.Name "dict" p) [a] [] pos) (mB1 oDictOf ma) :=
  do_t1 (call_dictA hcalm) (fun F H a o x Q hh sa e q => by
    cases a with
    | dic kvs =>
      cases e
      obtain ⟨p, ks, rfl, rd, z, rk⟩ := sa
      refine .inl ⟨p, ks, rfl, rd, fun l hl => ?_⟩
      obtain ⟨s3, h3⟩ := step0_mk (u := .dK ks) hh hl
      exact q l _ s3 h3 hl ⟨z, ks, upd_same, rk⟩
    | lst xs =>
      obtain ⟨kvs, hk, rfl⟩ := Option.map_eq_some_iff.mp (show (pairsOf xs).map _ = some o from e)
      obtain ⟨p, vs, rfl, sq, z, r⟩ := sa
      obtain ⟨ps, ks, rfl, hp, rk⟩ := pairs_rep hh r hk
      refine .inr ⟨p, ps, ks, rfl, by rw [hK]; exact sq, by rw [hK]; exact hp, fun l hl => ?_⟩
      obtain ⟨s3, h3⟩ := step0_mk (u := .dK (mergeK [] ks)) hh hl
      have hl1 := mergeD_len (more := kvs) (acc := [])
      have hl2 := pairsOf_len hk
      exact q l _ s3 h3 hl ⟨by rw [List.length_nil] at hl1; omega, _, upd_same, RepK.merge rk (show RepK B F [] [] from rfl)⟩
    | _ => cases e) ha hm (by decide +kernel) hg (by decide) (by decide) he hpl
end
end AN

set_option Elab.async false
set_option maxRecDepth 100000
set_option autoImplicit false
set_option linter.unusedVariables false
/-! {k: e, ..} -/
namespace AN
open PySem PySem.Spec PyProof.Rows L2
def mPairs : List (M Opd × M Opd) → M (List (Key × D))
  | [] => M.pure []
  | (mk, mv) :: r => M.bind mk fun x => M.bind (ap1 keyOf x) fun k => M.bind mv fun y => M.bind (frz1 y) fun d => M.bind (mPairs r) fun ps => M.pure ((k, d) :: ps)
/-- values that raise nothing -/
def mDisp (ms : List (M Opd × M Opd)) : M O := fun env => match mPairs ms env with
  | .ok kvs e => if kvs.length ≤ 15 then .ok (.dic (mergeD [] kvs)) e else .bad
  | _ => .bad
section
variable {B : Bx} {X : Cx} {W : WX} {F H F1 H1 : Hp} {env e1 : AN.Env} {σ : L2.St} {pos : Pos}
theorem pairs_read : ∀ {ms : List (M Opd × M Opd)} {F H : Hp} {env : AN.Env} {Q : List (V × V) → Hp → Prop}, Sim B F env σ H →
    Post B W F env σ H (fun kvs e' F' H' => ∀ ks, RepK B F' kvs ks → Q (ks.map fun kv => (kV kv.1, kv.2)) H') (mPairs ms env) → tPairs (ms.map fun m => (tE B W m.1, tE B W m.2)) σ H Q
  | [], F, H, env, Q, S, h => h.here S [] rfl
  | (mk, mv) :: ms, F, H, env, Q, S, h => by
    refine ⟨F, env, S, (Post.bind S h).mono fun x e1 F1 H1 s1 m1 l1 k1 v rv => ?_⟩
    obtain ⟨a, k, ea, ek, k2⟩ := (Post.bind m1 k1).ap1
    have ev := keyOf_rep ek (m1.view rv ea)
    have k3 := k2.here m1
    refine ⟨F1, e1, m1, (Post.bind m1 k3).mono fun y e2 F2 H2 s2 m2 l2 k4 w rw => ?_⟩
    obtain ⟨d, e3, F3, s3, m3, l3, r3, k5⟩ := m2.frz1 rw (Post.bind m2 k4)
    refine pairs_read m3 ((Post.bind m3 k5).mono fun ps e4 F4 H4 s4 m4 l4 k6 ks rk => ?_)
    have k7 := k6.here m4 ((k, w) :: ks) ⟨w, ks, rfl, Rep.mono s4.le d w r3, rk⟩
    rw [ev]
    exact k7
theorem disp_read {ms : List (M Opd × M Opd)} {Q : VK} (h : tO B W (mDisp ms) σ H Q) : tDisp (ms.map fun m => (tE B W m.1, tE B W m.2)) σ H Q := by
  obtain ⟨F, env, S, h⟩ := h
  intro p hp
  obtain ⟨s0, hh0⟩ := step0_mk (u := .dK []) S.hold hp
  have S0 := S.step0 s0 hh0
  have nO : ¬ Own env σ p := fun z => by
    obtain ⟨_, u, hu⟩ := z.ex S
    rw [hp] at hu; cases hu
  have fp : F p = none := S.hold.none hp
  refine pairs_read S0 ?_
  unfold mDisp at h
  cases r : mPairs ms env with
  | bad => rw [r] at h; exact h.elim
  | exc c d e => rw [r] at h; exact h.elim
  | ok kvs e =>
    rw [r] at h
    dsimp only at h
    by_cases hz : kvs.length ≤ 15
    · rw [if_pos hz] at h
      intro F' H2 st sm le ks rk
      have hp2 : H2 p = some (.dK []) := st.keep p _ upd_same nO
      have fp2 : F' p = none := by
        cases w : F' p with
        | none => rfl
        | some w' =>
          rcases st.new _ _ w with y | y | y
          · rw [fp] at y; cases y
          · rw [upd_same] at y; cases y
          · exact absurd y nO
      have nO2 : ¬ Own e σ p := fun z => nO (le.own z)
      have hl := rk.length
      refine ⟨hp2, ks, rfl, by omega, ?_⟩
      have stt : Step (Own env σ) F H F' (upd H2 p (.dK (mergeK [] ks))) := ⟨st.le, fun b o e n => by
          have hb : b ≠ p := fun z => by rw [z, hp] at e; cases e
          rw [upd_ne hb]
          exact st.keep b o (by rw [upd_ne hb]; exact e) n, fun b w q => by
          by_cases hb : b = p
          · rw [hb]; exact .inr (.inl hp)
          · have := st.new b w q
            rw [upd_ne hb] at this
            exact this, fun b o e => by
          have hb : b ≠ p := fun z => by rw [z, hp] at e; cases e
          rw [upd_ne hb]
          exact st.stay b o (by rw [upd_ne hb]; exact e)⟩
      have hl1 := mergeD_len (more := kvs) (acc := [])
      rw [List.length_nil] at hl1
      have hs : (15 : Nat) ≤ sizeLine := by decide
      exact h F' _ stt (sm.updD fp2 nO2) le p hp fp2 ⟨by omega, _, upd_same, RepK.merge rk (show RepK B F' [] [] from rfl)⟩
    · rw [if_neg hz] at h; exact h.elim
theorem do_disp {keys : List (Option Expr)} {values : List Expr} {ms : List (M Opd × M Opd)} (h : PPs X pos keys values (ms.map fun m => (tE B W m.1, tE B W m.2))) (hall : keys.all (·.isSome) = true := by rfl) (hl : keys.length = values.length := by rfl) (h0 : keys ≠ [] := by exact fun z => nomatch z)
    (h15 : keys.length ≤ 15 := by decide) : DO B X W (.Dict keys values pos) (mDisp ms) := PE.imp (pe_disp h hall hl h0 h15) fun σ H Q h => disp_read h
theorem dps0 : PPs X pos [] [] (([] : List (M Opd × M Opd)).map fun m => (tE B W m.1, tE B W m.2)) := pps_nil
theorem dps {k v : Expr} {ks : List (Option Expr)} {vs : List Expr} {mk mv : M Opd} {ms : List (M Opd × M Opd)} (hk : DE B X W k mk) (hv : DE B X W v mv) (hr : PPs X pos ks vs (ms.map fun m => (tE B W m.1, tE B W m.2))) : PPs X pos (some k :: ks) (v :: vs) (((mk, mv) :: ms).map fun m => (tE B W m.1, tE B W m.2)) := pps_cons hk hv hr
end
end AN

set_option Elab.async false
set_option maxRecDepth 100000
set_option autoImplicit false
set_option linter.unusedVariables false
/-! defs with defaults -/
namespace AN
open PySem PySem.Spec PyProof.Rows L2
/-- a def as it stands behind the top, whatever its defaults are -/
structure FunA (K : PySem.W.Frag) (x qual : Str) (st : Stmt) (f : Addr) (fd : FuncData) : Prop where
  ex : ∃ (oc : Value) (od : Option Addr) (dV kV doc pm : Value) (an : Option Addr) (cdv ct : Value) (osl : Array (Option Value)),
    fd = PySem.W.fnOf x qual (defArgs st) (defBody st) (defScope st) dV kV doc pm an cdv ct ∧ K.lookup f = some ⟨oc, od, .func fd, osl⟩ ∧ PySem.W.codeIn K cdv qual = true
  kp : PySem.W.keepIn K (.ref f) = true
section
variable {P : Program} {w : World} {K : PySem.W.Frag} {mg : Str → Option Value} {base : Heap} {B : Bx}
theorem funA_mk {x qual : Str} {st : Stmt} {f : Addr} {oc : Value} {od an : Option Addr} {osl : Array (Option Value)} {dV kV doc pm cdv ct : Value} (l : K.lookup f = some ⟨oc, od, .func (PySem.W.fnOf x qual (defArgs st) (defBody st) (defScope st) dV kV doc pm an cdv ct), osl⟩)
    (c : PySem.W.codeIn K cdv qual = true) (k : PySem.W.keepIn K (.ref f) = true) : FunA K x qual st f (PySem.W.fnOf x qual (defArgs st) (defBody st) (defScope st) dV kV doc pm an cdv ct) := ⟨⟨oc, od, dV, kV, doc, pm, an, cdv, ct, osl, rfl, l, c⟩, k⟩
theorem bindsT {fd : FuncData} {ps : List Str} {T : Addr} {o : Obj} {its : Array Value} {n : Nat} {ds : List Value} (lT : K.lookup T = some o) (oT : o.data = .seq its n)
    (h : ∀ us : List Value, us.length + ds.length = ps.length → ∃ k, bindArgs fd ⟨us, []⟩ = seqItems? (.ref T) >>= k ∧ k (some its) = pure (ps.zip (us ++ ds))) : Binds K fd ps ds := fun s us X hlen => by
  obtain ⟨k, e1, e2⟩ := h us (by rw [List.length_append] at hlen; omega)
  refine BindsTo.of_looks fun M => ?_
  rw [e1]
  exact looks_items X lT oT (.of_pure e2)
/-- THE RULE for such a def -/
theorem fn_okA {x qual : Str} {st : Stmt} {f : Addr} {fd : FuncData} {N ps : List Str} {k n : Nat} {m : M Fl} (Fd : FunA K x qual st f fd) (S : FnScope N ps (defScope st)) (hn : N.length - ps.length = n) (hnp : ps.length ≤ N.length)
    (hbody : ∀ (cdv : Value) (A : Around) (outer : List PySem.Env) (s : Shared) (H : Hp) (E : XK), Room k (A.deeper (envOfC qual (defScope st) s.heap.objs.size f cdv)) →
      Takes (cxOf (L2.CX P w) P w K mg base N qual (defScope st) f cdv A outer s H E) (fun cls d _ H => E cls d H) →
      PassesOwn (model P w) (A.deeper (envOfC qual (defScope st) s.heap.objs.size f cdv)) (envOfC qual (defScope st) s.heap.objs.size f cdv) (cxOf (L2.CX P w) P w K mg base N qual (defScope st) f cdv A outer s H E).xe →
      DSs B (cxOf (L2.CX P w) P w K mg base N qual (defScope st) f cdv A outer s H E) (fun cls d _ H => E cls d H) (defBody st) m) :
    FnOk P w K mg base (L2.CX P w) (k + 1) f fd ps (spOf B ps.length (runF n m)) := by
  obtain ⟨oc, od, dV, kV, doc, pm, an, cdv, ct, osl, rfl, lk, hcd⟩ := Fd.ex
  refine fn_of lk hcd S (fun vs H Q E h => h.1) fun A outer s H vs Q E hr h => ?_
  exact ⟨_, hbody cdv A outer s H E hr (takes_of rfl rfl rfl rfl) (passes_of rfl), spOf_body hn h⟩
end
end AN

set_option Elab.async false
set_option maxRecDepth 100000
set_option autoImplicit false
set_option linter.unusedVariables false
/-! a, b, c = 0, [], []: several new objects at once -/
namespace AN
open PySem PySem.Spec PyProof.Rows L2
inductive Itm where
  | e (m : M Opd)
  | o (m : M O)
def mItms : List Itm → M (List (D ⊕ O))
  | [] => M.pure []
  | .e m :: r => M.bind m fun x => M.bind (frz1 x) fun d => M.bind (mItms r) fun as => M.pure (.inl d :: as)
  | .o m :: r => M.bind m fun o => M.bind (mItms r) fun as => M.pure (.inr o :: as)
def gO (i : Nat) (o : O) (env : AN.Env) : Option AN.Env := match env[i]? with
  | some (.ow true _) => none
  | some _ => some (env.set i (.ow false o))
  | none => none
def putsN : List Nat → List (D ⊕ O) → AN.Env → Option AN.Env
  | [], [], env => some env
  | i :: is, .inl d :: as, env => (gN i d env).bind (putsN is as)
  | i :: is, .inr o :: as, env => (gO i o env).bind (putsN is as)
  | _, _, _ => none
def mAsgN (ts : List Nat) (is : List Itm) : M Fl := M.bind (mItms is) fun as env => match putsN ts as env with
  | some e => .ok .nx e
  | none => .bad
def tItms (B : Bx) (W : WX) : List Itm → TA
  | [] => tNil
  | .e m :: r => tCons (tE B W m) (tItms B W r)
  | .o m :: r => tCons (tO B W m) (tItms B W r)
def oas : List (D ⊕ O) → List V → List Addr
  | .inr _ :: r, .ref p :: w => p :: oas r w
  | _ :: r, _ :: w => oas r w
  | _, _ => []
def ItR (B : Bx) (F H0 H : Hp) (env : AN.Env) (σ : L2.St) : List (D ⊕ O) → List V → Prop
  | [], vs => vs = []
  | .inl d :: r, vs => ∃ v w, vs = v :: w ∧ Rep B F d v ∧ ItR B F H0 H env σ r w
  | .inr o :: r, vs => ∃ p w, vs = .ref p :: w ∧ F p = none ∧ ¬ Own env σ p ∧ H0 p = none ∧ OAt B F H p o ∧ p ∉ oas r w ∧ ItR B F H0 H env σ r w
section
variable {B : Bx} {X : Cx} {W : WX} {F H F1 H1 : Hp} {env e1 : AN.Env} {σ : L2.St} {pos : Pos}
theorem gO_ok {i : Nat} {o : O} {env' : AN.Env} (h : gO i o env = some env') : (∃ s0, env[i]? = some s0) ∧ (∀ o, env[i]? ≠ some (.ow true o)) ∧ env' = env.set i (.ow false o) := by
  unfold gO at h
  cases q : env[i]? with
  | none => simp only [q] at h; cases h
  | some s =>
    cases s with
    | no => simp only [q] at h; exact ⟨⟨_, rfl⟩, (fun o z => nomatch z), (Option.some.inj h).symm⟩
    | fz d => simp only [q] at h; exact ⟨⟨_, rfl⟩, (fun o z => nomatch z), (Option.some.inj h).symm⟩
    | ow k o' =>
      cases k with
      | true => simp only [q] at h; cases h
      | false => simp only [q] at h; exact ⟨⟨_, rfl⟩, (fun o z => nomatch z), (Option.some.inj h).symm⟩
theorem ItR.fresh {H0 : Hp} : ∀ {as : List (D ⊕ O)} {vs : List V}, ItR B F H0 H env σ as vs → ∀ p ∈ oas as vs, H0 p = none
  | [], vs, h, p, hp => by rw [show vs = [] from h] at hp; cases hp
  | .inl d :: r, vs, h, p, hp => by
    obtain ⟨v, w, rfl, _, h2⟩ := h
    exact ItR.fresh h2 p hp
  | .inr o :: r, vs, h, p, hp => by
    obtain ⟨q, w, rfl, _, _, h0, _, _, h2⟩ := h
    rcases List.mem_cons.mp hp with rfl | hp
    · exact h0
    · exact ItR.fresh h2 p hp
/-- later, and looked at from earlier -/
theorem ItR.mono {H0 H0' F' H' : Hp} {e' : AN.Env} {σ' : L2.St} (l : Le F F') (hb : ∀ b, H0 b = none → H0' b = none) : ∀ {as : List (D ⊕ O)} {vs : List V}, (∀ p ∈ oas as vs, F' p = none ∧ ¬ Own e' σ' p ∧ ∀ u, H p = some u → H' p = some u) → ItR B F H0 H env σ as vs → ItR B F' H0' H' e' σ' as vs
  | [], vs, _, h => h
  | .inl d :: r, vs, k, h => by
    obtain ⟨v, w, rfl, r1, h2⟩ := h
    exact ⟨v, w, rfl, Rep.mono l d v r1, ItR.mono l hb k h2⟩
  | .inr o :: r, vs, k, h => by
    obtain ⟨q, w, rfl, a1, a2, a3, a4, a5, h2⟩ := h
    obtain ⟨k1, k2, k3⟩ := k q (List.mem_cons_self ..)
    exact ⟨q, w, rfl, k1, k2, hb q a3, a4.mono l k3, a5, ItR.mono l hb (fun p hp => k p (List.mem_cons_of_mem _ hp)) h2⟩
theorem itms_ok : ∀ {is : List Itm} {F H : Hp} {env : AN.Env} {Q : List V → Hp → Prop}, Sim B F env σ H → Post B W F env σ H (fun as e' F' H' => ∀ vs, ItR B F' H H' e' σ as vs → Q vs H') (mItms is env) → tItms B W is σ H Q
  | [], F, H, env, Q, S, h => Post.here S h [] rfl
  | .e m :: r, F, H, env, Q, S, h => by
    refine ⟨F, env, S, (Post.bind S h).mono fun x e1 F1 H1 s1 m1 l1 k1 v rv => ?_⟩
    obtain ⟨d, e2, F2, s2, m2, l2, r2, k2⟩ := m1.frz1 rv (Post.bind m1 k1)
    refine itms_ok m2 ((Post.bind m2 k2).mono fun as e3 F3 H3 s3 m3 l3 k3 vs iv => ?_)
    refine Post.here m3 k3 (v :: vs) ⟨v, vs, rfl, Rep.mono s3.le d v r2, ?_⟩
    have al : ∀ p ∈ oas as vs, F3 p = none ∧ ¬ Own e3 σ p ∧ ∀ u, H3 p = some u → H3 p = some u := by
      clear k3 k2 k1 h
      induction as generalizing vs with
      | nil => intro p hp; rw [show vs = [] from iv] at hp; cases hp
      | cons a as ih =>
        cases a with
        | inl d' =>
          obtain ⟨v', w, rfl, _, h2⟩ := iv
          exact ih w h2
        | inr o' =>
          obtain ⟨q, w, rfl, a1, a2, _, _, _, h2⟩ := iv
          intro p hp
          rcases List.mem_cons.mp hp with rfl | hp
          · exact ⟨a1, a2, fun _ z => z⟩
          · exact ih w h2 p hp
    exact ItR.mono (Le.refl _) (fun b hb => s1.back hb) al iv
  | .o m :: r, F, H, env, Q, S, h => by
    refine ⟨F, env, S, (Post.bind S h).mono fun o e1 F1 H1 s1 m1 l1 k1 p hp hf ho => ?_⟩
    have np : ¬ Own e1 σ p := fun z => by
      obtain ⟨_, u, hu⟩ := (l1.own z).ex S
      rw [hp] at hu; cases hu
    obtain ⟨u0, hu0⟩ := ho.ex
    refine itms_ok m1 ((Post.bind m1 k1).mono fun as e3 F3 H3 s3 m3 l3 k3 vs iv => ?_)
    have f3 : F3 p = none := by
      cases z : F3 p with
      | none => rfl
      | some u =>
        rcases s3.new p u z with y | y | y
        · rw [hf] at y; cases y
        · rw [hu0] at y; cases y
        · exact (np y).elim
    refine Post.here m3 k3 (.ref p :: vs) ⟨p, vs, rfl, f3, fun z => np (l3.own z), hp, ho.mono s3.le fun u e => s3.keep p u e np, fun z => ?_, ?_⟩
    · have := ItR.fresh iv p z
      rw [hu0] at this; cases this
    · have al : ∀ p ∈ oas as vs, F3 p = none ∧ ¬ Own e3 σ p ∧ ∀ u, H3 p = some u → H3 p = some u := by
        clear k3 k1 h
        induction as generalizing vs with
        | nil => intro p hp; rw [show vs = [] from iv] at hp; cases hp
        | cons a as ih =>
          cases a with
          | inl d' =>
            obtain ⟨v', w, rfl, _, h2⟩ := iv
            exact ih w h2
          | inr o' =>
            obtain ⟨q, w, rfl, a1, a2, _, _, _, h2⟩ := iv
            intro p hp
            rcases List.mem_cons.mp hp with rfl | hp
            · exact ⟨a1, a2, fun _ z => z⟩
            · exact ih w h2 p hp
      exact ItR.mono (Le.refl _) (fun b hb => s1.back hb) al iv
theorem ItR.al {H0 : Hp} : ∀ {as : List (D ⊕ O)} {vs : List V}, ItR B F H0 H env σ as vs → ∀ p ∈ oas as vs, F p = none ∧ ¬ Own env σ p ∧ ∃ u, H p = some u
  | [], vs, h, p, hp => by rw [show vs = [] from h] at hp; cases hp
  | .inl d :: r, vs, h, p, hp => by
    obtain ⟨v, w, rfl, _, h2⟩ := h
    exact ItR.al h2 p hp
  | .inr o :: r, vs, h, p, hp => by
    obtain ⟨q, w, rfl, a1, a2, h0, a4, _, h2⟩ := h
    rcases List.mem_cons.mp hp with rfl | hp
    · exact ⟨a1, a2, a4.ex⟩
    · exact ItR.al h2 p hp
theorem Go.setO' {i : Nat} {o : O} {p : Addr} {s0 : Slot} {σ1 : L2.St} (g : Go B F env σ H F1 e1 σ1 H1) (h0 : e1[i]? = some s0) (h1 : ∀ o, e1[i]? ≠ some (.ow true o)) (hp : H p = none) (np : ¬ Own e1 σ1 p) (hf : F1 p = none) (ho : OAt B F1 H1 p o) : Go B F env σ H F1 (e1.set i (.ow false o)) (σ1.set i (some (.ref p))) H1 where
  step := g.step
  sim := g.sim.setO h0 h1 np hf ho
  own := fun b ⟨j, o', q, z⟩ => by
    rcases getElem?_setS q with ⟨rfl, e⟩ | ⟨ne, e⟩
    · rw [List.getElem?_set_self (set_len g.sim h0)] at z
      cases z
      exact .inr hp
    · rw [List.getElem?_set_ne ne] at z
      exact g.own b ⟨j, o', e, z⟩
  pin := fun j o' q => by
    obtain ⟨⟨o2, q2⟩, e⟩ := g.pin j o' q
    have ne : i ≠ j := fun z => by subst z; exact h1 o2 q2
    rw [List.getElem?_set_ne ne, List.getElem?_set_ne ne]
    exact ⟨⟨o2, q2⟩, e⟩
  unpin := fun j o' q => by
    rcases getElem?_setS q with ⟨_, e⟩ | ⟨_, e⟩
    · cases e
    · exact g.unpin j o' e
  len := by rw [List.length_set]; exact g.len
def gNs : List Nat → TGs
  | [] => gNil
  | i :: ts => gCons (gName i) (gNs ts)
theorem puts_go {Q : L2.St → Hp → Prop} : ∀ {ts : List Nat} {as : List (D ⊕ O)} {vs : List V} {e1 e' : AN.Env} {σ1 : L2.St}, Go B F env σ H F1 e1 σ1 H1 → ItR B F1 H H1 e1 σ1 as vs → putsN ts as e1 = some e' → (∀ σ', Go B F env σ H F1 e' σ' H1 → Q σ' H1) → gNs ts vs σ1 H1 Q
  | [], [], vs, e1, e', σ1, g, iv, h, k => by
    cases h
    exact ⟨iv, k σ1 g⟩
  | [], _ :: _, vs, e1, e', σ1, g, iv, h, k => by cases h
  | _ :: _, [], vs, e1, e', σ1, g, iv, h, k => by cases h
  | i :: ts, .inl d :: as, vs, e1, e', σ1, g, iv, h, k => by
    obtain ⟨v, w, rfl, r1, h2⟩ := iv
    obtain ⟨e2, q1, q2⟩ := Option.bind_eq_some_iff.mp h
    obtain ⟨⟨s0, b0⟩, b1, rfl⟩ := gN_ok q1
    have g1 := g.trans (g.sim.setD b0 b1 r1)
    refine ⟨v, w, rfl, puts_go g1 (ItR.mono (Le.refl _) (fun b hb => hb) (fun p hp => ?_) h2) q2 k⟩
    obtain ⟨a1, a2, _⟩ := h2.al p hp
    refine ⟨a1, fun ⟨j, kk, o', z1, z2⟩ => ?_, fun _ z => z⟩
    rcases getElem?_setS z1 with ⟨_, e⟩ | ⟨ne, e⟩
    · cases e
    · rw [List.getElem?_set_ne ne] at z2
      exact a2 ⟨j, kk, o', e, z2⟩
  | i :: ts, .inr o :: as, vs, e1, e', σ1, g, iv, h, k => by
    obtain ⟨p, w, rfl, a1, a2, a3, a4, a5, h2⟩ := iv
    obtain ⟨e2, q1, q2⟩ := Option.bind_eq_some_iff.mp h
    obtain ⟨⟨s0, b0⟩, b1, rfl⟩ := gO_ok q1
    have g1 := g.setO' b0 b1 a3 a2 a1 a4
    refine ⟨.ref p, w, rfl, puts_go g1 (ItR.mono (Le.refl _) (fun b hb => hb) (fun q hq => ?_) h2) q2 k⟩
    obtain ⟨c1, c2, _⟩ := h2.al q hq
    refine ⟨c1, fun ⟨j, kk, o', z1, z2⟩ => ?_, fun _ z => z⟩
    rcases getElem?_setS z1 with ⟨e0, e⟩ | ⟨ne, e⟩
    · subst e0
      rw [List.getElem?_set_self (set_len g.sim b0)] at z2
      cases z2
      exact a5 hq
    · rw [List.getElem?_set_ne ne] at z2
      exact c2 ⟨j, kk, o', e, z2⟩
theorem ItR.len {H0 : Hp} : ∀ {as : List (D ⊕ O)} {vs : List V}, ItR B F H0 H env σ as vs → vs.length = as.length
  | [], vs, h => by rw [show vs = [] from h]; rfl
  | .inl d :: r, vs, h => by
    obtain ⟨v, w, rfl, _, h2⟩ := h
    simp [ItR.len h2]
  | .inr o :: r, vs, h => by
    obtain ⟨q, w, rfl, a1, a2, h0, a4, _, h2⟩ := h
    simp [ItR.len h2]
theorem putsN_len : ∀ {ts : List Nat} {as : List (D ⊕ O)} {e e' : AN.Env}, putsN ts as e = some e' → as.length = ts.length
  | [], [], _, _, _ => rfl
  | [], _ :: _, _, _, h => by cases h
  | _ :: _, [], _, _, h => by cases h
  | i :: ts, .inl d :: as, e, e', h => by
    obtain ⟨e2, q1, q2⟩ := Option.bind_eq_some_iff.mp h
    simp [putsN_len q2]
  | i :: ts, .inr d :: as, e, e', h => by
    obtain ⟨e2, q1, q2⟩ := Option.bind_eq_some_iff.mp h
    simp [putsN_len q2]
theorem post_puts {is : List Itm} {ts : List Nat} {D : Ends} (h : PostS B W F env σ H D (mAsgN ts is env)) :
    Post B W F env σ H (fun as e1 F1 H1 => ∃ e', putsN ts as e1 = some e' ∧ ∀ σ' H2, Go B F env σ H F1 e' σ' H2 → D.nx σ' H2) (mItms is env) := by
  unfold mAsgN M.bind at h
  cases q : mItms is env with
  | bad => rw [q] at h; exact h
  | exc c d e' =>
    rw [q] at h
    obtain ⟨C, fld, hb, h⟩ := h
    exact ⟨C, fld, hb, fun F' H' dx v s ⟨m', l⟩ hd hf h0 r => h σ F' H' dx v (Go.of s m' l) hd hf h0 r⟩
  | ok as e1 =>
    rw [q] at h
    intro F1 H1 s1 m1 l1
    dsimp only at h
    cases z : putsN ts as e1 with
    | none => simp only [z] at h; exact h.elim
    | some e' => simp only [z] at h; exact ⟨e', rfl, fun σ' H2 g => h σ' F1 H2 g⟩
/-- the values as a tuple, then unpacked -/
theorem asgN_tup {is : List Itm} {ts : List Nat} {n : Nat} {D : Ends} (hn : ts.length = n) (hz : n ≤ 1000) (h : tS B W (mAsgN ts is) D σ H) : tAsg (tTup (tItms B W is)) (gTup X.K n (gNs ts)) D σ H := by
  obtain ⟨F, env, S, h⟩ := h
  refine itms_ok S ((post_puts h).mono fun as e1 F1 H1 s1 m1 l1 ⟨e', q, k⟩ vs iv => ?_)
  have lv : vs.length = n := by rw [iv.len, putsN_len q, hn]
  refine ⟨by rw [lv]; exact Nat.le_trans hz (by decide), fun T hT => ?_⟩
  obtain ⟨s3, h3⟩ := step0_mk (u := .tup vs) m1.hold hT
  have m3 := m1.step0 s3 h3
  have st : Step (Own env σ) F H F1 (upd H1 T (.tup vs)) := s1.trans s3 fun b z => z.elim
  have g : Go B F env σ H F1 e1 σ (upd H1 T (.tup vs)) := Go.of st m3 l1
  refine ⟨T, vs, rfl, .inl (.inl upd_same), lv, ?_⟩
  refine puts_go g (ItR.mono (Le.refl _) (fun b hb => hb) (fun p hp => ?_) iv) q fun σ' g' => k σ' _ g'
  obtain ⟨a1, a2, _⟩ := iv.al p hp
  refine ⟨a1, a2, fun u e => ?_⟩
  rw [upd_ne (ne_of_none e hT)]
  exact e
/-- the same for two plain names -/
theorem asgN_two {is : List Itm} {i j : Nat} {D : Ends} (h : tS B W (mAsgN [i, j] is) D σ H) : tPar i j (tItms B W is) D σ H := by
  obtain ⟨F, env, S, h⟩ := h
  refine itms_ok S ((post_puts h).mono fun as e1 F1 H1 s1 m1 l1 ⟨e', q, k⟩ vs iv => ?_)
  obtain ⟨v, r, rfl, v2, r2, rfl, e3, q3⟩ := puts_go (Q := D.nx) (Go.of s1 m1 l1) iv q fun σ' g' => k σ' _ g'
  subst e3
  exact ⟨v, v2, rfl, q3⟩
def DIs (B : Bx) (X : Cx) (W : WX) (es : List Expr) (is : List Itm) : Prop := PA X es (tItms B W is)
theorem dis0 : DIs B X W [] [] := pa_nil
theorem disE {e : Expr} {es : List Expr} {is : List Itm} {m : M Opd} (h : DE B X W e m) (t : DIs B X W es is) (hs : starEach (e :: es) X.env = (false, eval e X.env) :: starEach es X.env := by rfl) : DIs B X W (e :: es) (.e m :: is) := pa_cons h t hs
theorem disO {e : Expr} {es : List Expr} {is : List Itm} {m : M O} (h : DO B X W e m) (t : DIs B X W es is) (hs : starEach (e :: es) X.env = (false, eval e X.env) :: starEach es X.env := by rfl) : DIs B X W (e :: es) (.o m :: is) := pa_cons h t hs
def GNs (X : Cx) (es : List Expr) (ts : List Nat) : Prop := PGs X es (gNs ts)
theorem gns0 : GNs X [] [] := pgs_nil
theorem gns (i : Nat) {x : Str} {p : Pos} {es : List Expr} {ts : List Nat} (hN : X.N.Nodup) (t : GNs X es ts) (hi : X.N[i]? = some x := by rfl) (hx : Loc X.env.scope x := by first | exact Or.inl rfl | exact Or.inr rfl) (hf : X.fn x = true ∨ X.env.scope.names.lookup x = some .local := by first | exact .inl rfl | exact .inr rfl)
    (hs : (assignEach (.Name x p :: es) X.env).map (·.2) = assign (.Name x p) X.env :: (assignEach es X.env).map (·.2) := by rfl) : GNs X (.Name x p :: es) (i :: ts) := pgs_cons (pg_name hN hi hx hf) t hs
theorem ds_asgN {es tes : List Expr} {k k2 n : Nat} {p1 p2 : Pos} {is : List Itm} {ts : List Nat} (hc : X.calm = true) (hd : DIs B X W es is) (hg : GNs X tes ts) (ht : ts.length = n := by rfl) (hz : n ≤ 1000 := by decide)
    (hn : (assignEach tes X.env).length = n := by rfl) (hst : (assignEach tes X.env).findIdx? (·.1) = none := by rfl)
    (hs : swapsWithSole [.Tuple tes k p1] (.Tuple es k2 p2) pos.line X.env = pure false := by rfl) (hw : swappedStores [.Tuple tes k p1] (.Tuple es k2 p2) X.env = pure none := by rfl)
    (h1 : (assignEach [.Tuple tes k p1] X.env).map (·.2) = [assign (.Tuple tes k p1) X.env] := by rfl) : DS B X W (.Assign [.Tuple tes k p1] (.Tuple es k2 p2) pos) (mAsgN ts is) :=
  PS.imp (ps_asg (pe_tup hd) (pg_tup hc hg hn hst) hs hw h1) fun D σ H h => asgN_tup ht hz h
theorem ds_asg2O (i j : Nat) {x y : Str} {px py pt : Pos} {kt k2 pt2} {a b : Expr} {is : List Itm} (hc : X.calm = true) (hN : X.N.Nodup) (hd : DIs B X W [a, b] is) (hi : X.N[i]? = some x := by rfl) (hj : X.N[j]? = some y := by rfl) (hij : i ≠ j := by decide)
    (hx : X.env.scope.names.lookup x = some .local := by rfl) (hy : X.env.scope.names.lookup y = some .local := by rfl)
    (hw : swappedStores [.Tuple [.Name x px, .Name y py] kt pt] (.Tuple [a, b] k2 pt2) X.env = pure (some [x, y]) := by rfl)
    (hs : swapsWithSole [.Tuple [.Name x px, .Name y py] kt pt] (.Tuple [a, b] k2 pt2) pos.line X.env = pure false := by rfl) :
    DS B X W (.Assign [.Tuple [.Name x px, .Name y py] kt pt] (.Tuple [a, b] k2 pt2) pos) (mAsgN [i, j] is) := PS.imp (ps_par hc hN hi hj hij hx hy hd hw hs) fun D σ H h => asgN_two h
theorem mAsgN_r {ts : List Nat} {is : List Itm} {e : AN.Env} : mAsgN ts is e = R.th (mItms is e) fun as e => R.th (rop (putsN ts as e) e) fun e' _ => .ok .nx e' := by
  refine th_congr fun as e => ?_
  show (match putsN ts as e with
    | some e => R.ok Fl.nx e
    | none => R.bad) = _
  cases putsN ts as e <;> rfl
end
end AN

set_option Elab.async false
set_option maxRecDepth 100000
set_option autoImplicit false
set_option linter.unusedVariables false
/-! enumerate over a tuple -/
namespace PySem
open AutoSeq1 (wpAny_loadPart')
abbrev AtI (t : Addr) : Obj := { cls := .type "tuple_iterator", data := .fields #[.ref t, .int 0 0] }
abbrev AtE (i : Addr) : Obj := { cls := .type "enumerate", data := .fields #[.none, .bool false, .ref i, rawInt 0, .none, .none] }
theorem enumT_new (t : Addr) (its : Array Value) (n : Nat) (d0 : Option Addr) (sl : Array (Option Value)) : Meets (Builtin.«enumerate.__new__» ⟨[.type "enumerate", .ref t], []⟩) fun _ R s =>
    s.heap.get? t = some { cls := .type "tuple", dict := d0, data := .seq its n, slots := sl } ∧ R (.ok (.ret (.ref (s.heap.push (AtI t)).objs.size))) { s with heap := (s.heap.push (AtI t)).push (AtE s.heap.objs.size) } := .of_wp fun prog w A R s h => by
  obtain ⟨hp, g, d, tk, os⟩ := s
  obtain ⟨hl, h⟩ := h
  have hsub := sub_enumerate
  have hT : Heap.IsTuple (Shared.heap ⟨hp, g, d, tk, os⟩) t its := ⟨_, hl, rfl, n, rfl⟩
  wp_walk using wpAny_loadPart' hl
  refine wpAny_stack_any fun st => wpAny_pure ?_
  split
  · rename_i c _ _ _ _ _
    cases (c == Value.type "enumerate") <;> (wp_walk using wpAny_loadPart' hl, wpAny_pyIter_tuple hT; exact ⟨_, rfl, h⟩)
  · wp_walk using wpAny_loadPart' hl, wpAny_pyIter_tuple hT
    exact ⟨_, rfl, h⟩
theorem enumT_call {prog : Program} {w : World} {A : Around} {E : Value → Shared → Prop} {s : Shared} {t : Addr} {its : Array Value} {Q : Value → Shared → Prop} (hT : s.heap.IsTuple t its)
    (k : ∀ h', IsEnum h' (s.heap.objs.size + 1) s.heap.objs.size 0 .none → h'.IsTupleIter s.heap.objs.size t 0 → (∀ b o, s.heap.get? b = some o → h'.get? b = some o) → Q (.ref (s.heap.objs.size + 1)) { s with heap := h' }) : wpAny (model prog w) A (call (.type "enumerate") [.ref t]) Q E s := by
  obtain ⟨⟨c, d0, dt, sl⟩, ht, hc, n, hd⟩ := hT
  cases (show c = .type "tuple" from hc)
  cases (show dt = .seq its n from hd)
  refine callType_new F.called_enumerate (by decide) (F.typeCall_enumerate_1 _) (F.newCall_enumerate_1 _) (fun o => F.args_object_init_2 o _) F.entry_enumerate_new (enumT_new t its n d0 sl) ⟨ht, ?_⟩
  have hz : (s.heap.push (AtI t)).objs.size = s.heap.objs.size + 1 := Heap.size_push ..
  have he : IsEnum ((s.heap.push (AtI t)).push (AtE s.heap.objs.size)) (s.heap.objs.size + 1) s.heap.objs.size 0 .none := by
    have z := Heap.get?_push_size (s.heap.push (AtI t)) (o := AtE s.heap.objs.size) rfl
    rwa [hz] at z
  show _ ∧ _
  rw [hz]
  exact ⟨⟨_, he, rfl⟩, k _ he ⟨_, Heap.get?_push_of_some _ (Heap.get?_push_size _ rfl), rfl, rfl⟩ fun b o x => Heap.get?_push_of_some _ (Heap.get?_push_of_some _ x)⟩
end PySem
namespace AN
open PySem PySem.Spec PyProof.Rows L2
/-- the tuple at a, each item in a new pair -/
def IteT (K : PySem.W.Frag) (a : Addr) : It where
  go := fun i H => ∃ (xs : List V) (x : V), SqT K H a xs ∧ xs[i]? = some x
  yld := fun i H v H' => ∃ T x, v = .ref T ∧ H T = none ∧ H' = upd H T (.tup [.int (i : Nat), x]) ∧ ∀ xs, SqT K H a xs → xs[i]? = some x
  stop := fun i H => ∃ xs : List V, SqT K H a xs ∧ xs.length ≤ i
theorem turn_enumT {P : Program} {w : World} {K : PySem.W.Frag} {elts : List Expr} {kk : Nat} {tpos : Pos} (a e it : Addr) :
    Turn P w K (.Tuple elts kk tpos) (IteT K a) [e, it] e (fun i h => (∃ old, IsEnum h e it ((i : Nat) : Int) old) ∧ h.IsTupleIter it a i ∧ e ≠ it ∧ a ≠ it ∧ a ≠ e) where
  mem := by simp
  obj := fun i h st b hb => by
    obtain ⟨⟨old, he⟩, ⟨o, ho, hc, hd⟩, _⟩ := st
    rcases (show b = e ∨ b = it by simpa using hb) with rfl | rfl
    · exact ⟨_, he, fun v q => nomatch q⟩
    · exact ⟨o, ho, fun v q => by rw [hd] at q; cases q⟩
  keep := fun i h h' st k => let ⟨⟨old, he⟩, hi, hne⟩ := st; ⟨⟨old, k e (by simp) _ he⟩, hi.at fun o q => k it (by simp) o q, hne⟩
  item := by
    intro X hP hw hK hc i pins s σ H E I hf st hg
    subst hP hw hK
    obtain ⟨⟨old, he⟩, hit, hne, hai, hae⟩ := st
    obtain ⟨xs, x, hq, hx⟩ := hg
    obtain ⟨its, rv, p, hz⟩ := I.tuple hq
    obtain ⟨u, hu, ru⟩ := rv.get hx
    have hel : e < s.heap.objs.size := Heap.lt_size he
    have hil : it < s.heap.objs.size := by obtain ⟨_, q, _⟩ := hit; exact Heap.lt_size q
    have hT : s.heap.IsTuple a its.toArray := p
    have lt : i < its.toArray.size := by have := (List.getElem?_eq_some_iff.mp hu).1; simpa using this
    have hd0 : X.A.in1.handled = none := I.ok.hd hc
    refine wpAny_pyNext_enum_itemD (Draws.tuple hd0 it a hai its.toArray) he ⟨hit, hT⟩ lt hne (by simp [hne]; exact fun z => hae z.symm) fun x' h' tk hP ho hst hT' hsz hk => ?_
    have ex : x' = u := by
      have h1 : its.toArray[i]? = some x' := hP
      have h2 : its.toArray[i]? = some u := by simpa using hu
      rw [h1] at h2; exact Option.some.inj h2
    subst ex
    refine ⟨_, rfl, wpAny_letOwnedTupleGo_enum (s := { s with heap := h', toks := tk + 1 }) ho fun h'' he' sb => ?_⟩
    have hT2 : h''.get? s.heap.objs.size = some { cls := .type "tuple", data := .seq #[.int i tk, x'] } := (sb.2 _ (Nat.ne_of_gt hel)).trans hT'
    have new : ObjOk X.prog X.w (upd H s.heap.objs.size (.tup [.int (i : Nat), x])) h'' s.heap.objs.size (.tup [.int (i : Nat), x]) := ⟨by show 2 ≤ sizeLine; decide, [.int i tk, x'], .cons ⟨_, rfl⟩ (.cons ru .nil), ⟨_, hT2, rfl, _, rfl⟩⟩
    have I1 : Inv X pins σ (upd H s.heap.objs.size (.tup [.int (i : Nat), x])) { s with heap := h'', toks := tk + 1 } := I.turnedNew (ch := [e, it]) (fun b ob hb q => (sb.2 b (fun z => hb (by simp [z]))).trans (hk b ob (fun z => hb (by simp [z])) (fun z => hb (by simp [z])) q)) hf (Nat.le_refl _) new
    refine ⟨.ref s.heap.objs.size, _, I1, rfl, ⟨_, x, rfl, I.hok.fresh (Nat.le_refl _), rfl, fun ys hy => by rw [I.tuple_inj hy hq]; exact hx⟩, ⟨⟨x', ?_⟩, hst.1.at fun o q => (sb.2 it (Ne.symm hne)).trans q, hne, hai, hae⟩, fun b hb => ?_⟩
    · rw [show ((i + 1 : Nat) : Int) = (i : Int) + 1 by omega]
      exact he'
    · have hb' : b < s.heap.objs.size := by
        rcases (show b = e ∨ b = it by simpa using hb) with rfl | rfl
        · exact hel
        · exact hil
      rw [upd_ne (Nat.ne_of_lt hb')]
      exact (hf b hb).1
  done := by
    intro X hP hw hK hc i pins s σ H E I hf st hg
    subst hP hw hK
    obtain ⟨⟨old, he⟩, hit, hne, hai, hae⟩ := st
    obtain ⟨xs, hq, hx⟩ := hg
    obtain ⟨its, rv, p, hz⟩ := I.tuple hq
    obtain ⟨f0, f1, f2, f3, f4, f5⟩ := hf it (by simp)
    have hl := rv.length
    have hd0 : X.A.in1.handled = none := I.ok.hd hc
    have hT : s.heap.IsTuple a its.toArray := p
    have hTi : s.TypeIs (.ref e) "enumerate" := ⟨_, he, rfl⟩
    unfold pyNext
    refine wpAny_bind (wpAny_attempt (wpAny_callSpecial?_slot (name := Str.ofString "__next__") hTi F.slot_enumerate_next (wpAny_call_entry F.slot_enumerate_next hTi F.entry_enumerate_next ?_ (F.args_enumerate_next_1 _))))
    show wpAny _ _ (field (.ref e) 2 >>= _) _ _ _
    refine wpAny_bind (wpAny_field he rfl (x := .ref it) rfl (wpAny_bind (wpAny_nextOf_tuple_end hd0 hit hT (by simp; omega) fun h' z eb hz' => ?_)))
    obtain ⟨o, ho, hc'⟩ := hz'
    exact wpAny_bind (wpAny_isInstance (T := "StopIteration") (b := true) ⟨o, ho, hc'⟩ isSubtype_stop (wpAny_pure ⟨rfl, I.turned (t' := s.toks) (fun b o hb q => eb b o hb q) f0 f1 f3 f4 f5⟩))
  self := fun A i s Q E st h => let ⟨⟨_, he⟩, _⟩ := st; wpAny_pyIter_enum he h
def iEnumT (K : PySem.W.Frag) (ta : TA) : TI := fun σ H R => ta σ H fun vs H1 => ∃ a xs, vs = [.ref a] ∧ SqT K H1 a xs ∧ R (IteT K a) H1
theorem pi_enumT {X : Cx} {e : Expr} {ta : TA} {p pos tpos : Pos} {elts : List Expr} {kk : Nat} (hg : Gl X "enumerate") (hm : X.mg "enumerate" = none) (ha : PA X [e] ta) (hs : starEach [e] X.env = [(false, eval e X.env)] := by rfl) : PI X (.Tuple elts kk tpos) (.Call (.Name "enumerate" p) [e] [] pos) (iEnumT X.K ta) := by
  refine ⟨fun pins s σ H R I h => Call_ (ld_blt I hg hm boot_enumerate (PyProof.Rows.callWith_type1 (thn (ha.run pos pins s σ H _ I h) fun us s1 ⟨vs, H1, I1, r1, q1⟩ => ?_) hs rfl))⟩
  obtain ⟨a, xs, rfl, hq, q⟩ := q1
  cases r1 with
  | cons r rr =>
    cases rr
    cases r
    obtain ⟨its, rv, p', hz⟩ := I1.tuple hq
    have hT : s1.heap.IsTuple a its.toArray := p'
    have al : a < s1.heap.objs.size := by obtain ⟨o, ho, _⟩ := hT; exact Heap.lt_size ho
    refine enumT_call hT fun h' he hit hk => wpAny_pyIter_enum he ?_
    refine ⟨s1.heap.objs.size + 1, [s1.heap.objs.size + 1, s1.heap.objs.size], _, _, H1, rfl, I1.kept (t' := s1.toks) hk, turn_enumT a (s1.heap.objs.size + 1) s1.heap.objs.size, ⟨⟨.none, he⟩, hit, Nat.succ_ne_self _, Nat.ne_of_lt al, Nat.ne_of_lt (Nat.lt_succ_of_lt al)⟩, fun b hb => ?_, q⟩
    have hle : s1.heap.objs.size ≤ b := by
      rcases (show b = s1.heap.objs.size + 1 ∨ b = s1.heap.objs.size by simpa using hb) with rfl | rfl
      · exact Nat.le_add_right _ _
      · exact Nat.le_refl _
    exact I1.fpOk hle (I1.hok.fresh hle)
section
variable {B : Bx} {X : Cx} {W : WX} {F H : Hp} {env : AN.Env} {σ : L2.St} {e : Expr} {ma : M Opd} {p pos : Pos}
theorem iter_enumT {a : Addr} {vs : List V} {ds : List D} (h : TAt B F a vs) (r : RepL B F ds vs) : Iter B F (IteT B.K a) (pairs 0 ds) := fun i F1 H1 l hh => by
  have hs : SqT B.K H1 a vs := (h.mono l).sq hh
  refine ⟨fun d e => ?_, fun e => ⟨vs, hs, by rw [r.length, e, pairs_len]; exact Nat.le_refl _⟩⟩
  rw [pairs_get] at e
  cases q : ds[i]? with
  | none => rw [q] at e; cases e
  | some d0 =>
    rw [q] at e
    have e' : d = .tup [.int (i : Nat), d0] := by
      have := Option.some.inj e
      rw [← this, Nat.zero_add]
    subst e'
    obtain ⟨v, hv, rv⟩ := r.get q
    refine ⟨⟨vs, v, hs, hv⟩, fun x H2 y => ?_⟩
    obtain ⟨T, x0, rfl, hT, rfl, y⟩ := y
    have := y vs hs
    rw [hv] at this; cases this
    obtain ⟨s3, h3⟩ := step0_new (u := .tup [.int (i : Nat), v]) hh hT
    exact ⟨_, s3, h3, T, _, rfl, .inl upd_same, (by show 2 ≤ sizeLine; decide), _, _, rfl, rfl, _, _, rfl, Rep.mono (l.trans s3.le) _ _ rv, rfl⟩
def enumOfT : D → Option (List D)
  | .lst xs => some (pairs 0 xs)
  | .tup xs => some (pairs 0 xs)
  | _ => none
def mEnumT (m : M Opd) : M (List D) := M.bind m fun x => M.bind (frz1 x) fun d => opt (enumOfT d)
theorem di_enumT {elts : List Expr} {kk : Nat} {tpos : Pos} (hK : X.K = B.K) (ha : DE B X W e ma) (hm : X.mg "enumerate" = none) (hg : Gl X "enumerate" := by rfl) (hs : starEach [e] X.env = [(false, eval e X.env)] := by rfl) :
    DI B X W (.Tuple elts kk tpos) (.Call (.Name "enumerate" p) [e] [] pos) (mEnumT ma) := PI.imp (PI.or (pi_enum hg hm (pa_cons ha pa_nil hs) hs) (pi_enumT hg hm (pa_cons ha pa_nil hs) hs)) fun σ H R h => by
  obtain ⟨F, env, S, h⟩ := h
  unfold mEnumT M.bind at h
  cases q : ma env with
  | bad => rw [q] at h; exact h.elim
  | exc c d e' =>
    rw [q] at h
    exact .inl ⟨F, env, S, by rw [q]; exact h⟩
  | ok x e1 =>
    rw [q] at h
    dsimp only at h
    cases q2 : frz1 x e1 with
    | bad => rw [q2] at h; exact h.elim
    | exc c d e' =>
      exfalso
      cases x with
      | d _ => cases q2
      | sl i =>
        simp only [frz1] at q2
        cases z : e1[i]? with
        | none => rw [z] at q2; cases q2
        | some s =>
          rw [z] at q2
          cases s with
          | no => cases q2
          | fz _ => cases q2
          | ow kk _ => cases kk <;> cases q2
    | ok d e2 =>
      rw [q2] at h
      have h' : Post B W F env σ H (fun ds _ F' H' => ∀ J, Iter B F' J ds → R J H') (mEnumT ma env) := by
        unfold mEnumT M.bind
        rw [q]; dsimp only; rw [q2]; exact h
      have key : ∀ {F1 H1 : Hp} {v : V}, Step (Own env σ) F H F1 H1 → Sim B F1 e1 σ H1 → EnvLe env e1 → OpdRel B F1 σ v x → ∃ F2, Holds F2 H1 ∧ Rep B F2 d v ∧ ∀ J ds, enumOfT d = some ds → Iter B F2 J ds → R J H1 := fun {F1 H1 v} s1 m1 l1 rv => by
        obtain ⟨d', e2', F2, s2, m2, o2, r2, k2⟩ := m1.frz1 (W := W) rv (k := fun d' e' _ _ => d' = d ∧ e' = e2) (by rw [q2]; exact fun _ _ _ _ _ => ⟨rfl, rfl⟩)
        obtain ⟨rfl, rfl⟩ := k2
        refine ⟨F2, m2.hold, r2, fun J ds hd it => ?_⟩
        have h2 := h
        dsimp only at h2
        unfold opt at h2
        rw [hd] at h2
        exact h2 F2 H1 (s1.trans s2 fun b z => .inl (l1.own z)) m2 (l1.trans o2) J it
      cases d with
      | lst xs =>
        refine .inl ⟨F, env, S, ?_⟩
        rw [q]
        intro F1 H1 s1 m1 l1 v rv
        obtain ⟨F2, hh, r2, k⟩ := key s1 m1 l1 rv
        obtain ⟨pp, vs, rfl, a, z, r⟩ := r2
        refine ⟨pp, vs, rfl, by rw [hK]; exact a.sq hh, ?_⟩
        rw [hK]
        exact k _ _ rfl (iter_enum a r)
      | tup xs =>
        refine .inr ⟨F, env, S, ?_⟩
        rw [q]
        intro F1 H1 s1 m1 l1 v rv
        obtain ⟨F2, hh, r2, k⟩ := key s1 m1 l1 rv
        obtain ⟨pp, vs, rfl, a, z, r⟩ := r2
        refine ⟨pp, vs, rfl, by rw [hK]; exact a.sq hh, ?_⟩
        rw [hK]
        exact k _ _ rfl (iter_enumT a r)
      | _ => exact h.elim
theorem mEnumT_r {e : AN.Env} : mEnumT ma e = R.th (ma e) fun x e => R.th (frz1 x e) fun d e => rop (enumOfT d) e := th_congr fun u e => th_congr fun v e => rfl
end
end AN

set_option Elab.async false
set_option maxRecDepth 100000
set_option autoImplicit false
set_option linter.unusedVariables false
/-! list(d) of a dict; f(..).append(e) -/
namespace AN
open PySem PySem.Spec PyProof.Rows L2
def okKey : Key → Option D
  | .inl i => some (.int i)
  | .inr s => if decide (s.length ≤ sizeLine) && PyData.strOk s then some (.str s) else none
def okKeys : List Key → Option (List D)
  | [] => some []
  | k :: r => (okKey k).bind fun d => (okKeys r).map (d :: ·)
def oListK : D → Option O
  | .dic kvs => (okKeys (kvs.map (·.1))).map .lst
  | d => oListOf d
section
variable {B : Bx} {X : Cx} {W : WX} {F H F1 H1 : Hp} {env e1 : AN.Env} {σ : L2.St} {Q : VK} {a b e o : Expr} {ma mb : M Opd} {mo : M O} {pos p : Pos}
theorem okKeys_rep : ∀ {kvs : List (Key × D)} {ks : List (Key × V)} {ds : List D}, RepK B F kvs ks → okKeys (kvs.map (·.1)) = some ds → RepL B F ds (ks.map fun kv => kV kv.1) ∧ ds.length = kvs.length
  | [], ks, ds, r, h => by
    rw [show ks = [] from r]
    cases h
    exact ⟨rfl, rfl⟩
  | (k, d) :: kvs, ks, ds, r, h => by
    obtain ⟨v, rest, rfl, _, r2⟩ := r
    obtain ⟨d0, h1, h2⟩ := Option.bind_eq_some_iff.mp h
    obtain ⟨l, h3, rfl⟩ := Option.map_eq_some_iff.mp h2
    obtain ⟨i1, i2⟩ := okKeys_rep r2 h3
    refine ⟨⟨kV k, _, rfl, ?_, i1⟩, by simp [i2]⟩
    cases k with
    | inl i => cases h1; rfl
    | inr s =>
      have h1 : (if (decide (s.length ≤ sizeLine) && PyData.strOk s) = true then some (D.str s) else none) = some d0 := h1
      by_cases q : (decide (s.length ≤ sizeLine) && PyData.strOk s) = true
      · rw [if_pos q] at h1
        cases h1
        rw [Bool.and_eq_true, decide_eq_true_eq] at q
        exact ⟨rfl, q.1, q.2⟩
      · rw [if_neg q] at h1; cases h1
theorem do_listK (hcalm : X.calm = true) (hK : X.K = B.K) (ha : DE B X W a ma) (hm : X.mg "list" = none) (hg : Gl X "list" := by rfl)
    (he : starEach [a] X.env = (false, eval a X.env) :: starEach [] X.env := by rfl) (hpl : (backTo pos (starEach [] X.env)).any (·.1) = false := by rfl) : DO B X W (.Call (.Name "list" p) [a] [] pos) (mB1 oListK ma) :=
  do_t1 (r := fun xs H Q => (∃ p ys, xs = [.ref p] ∧ (SqL X.K H p ys ∨ SqT X.K H p ys) ∧ ∀ l, H l = none → Q (.ref l) (upd H l (.lst ys))) ∨ (∃ (a : Addr) (kvs : List (Key × V)), xs = [.ref a] ∧ Rd H a (.dK kvs) ∧ ∀ p, H p = none → Q (.ref p) (upd H p (.lst (kvs.map fun kv => kV kv.1)))))
    (fun pins s σ H xs us Q I r q => q.elim (call_list_of pins s σ H xs us Q I r) (call_listD hcalm pins s σ H xs us Q I r)) (fun F H a o x Q hh sa e q => by
    have old : oListOf a = some o → (∃ p ys, [x] = [.ref p] ∧ (SqL X.K H p ys ∨ SqT X.K H p ys) ∧ ∀ l, H l = none → Q (.ref l) (upd H l (.lst ys))) := fun e => by
      obtain ⟨xs, hx, rfl⟩ := Option.map_eq_some_iff.mp e
      obtain ⟨z, p, vs, rfl, r, k⟩ := row_seen hh sa hx
      refine ⟨p, vs, rfl, by rw [hK]; exact k.imp And.left And.left, fun l hl => ?_⟩
      obtain ⟨s3, h3⟩ := step0_mk (u := .lst vs) hh hl
      exact q l _ s3 h3 hl ⟨z, vs, upd_same, r⟩
    cases a with
    | dic kvs =>
      obtain ⟨ds, hk, rfl⟩ := Option.map_eq_some_iff.mp (show (okKeys (kvs.map (·.1))).map O.lst = some o from e)
      obtain ⟨p, ks, rfl, rd, z, rk⟩ := sa
      obtain ⟨i1, i2⟩ := okKeys_rep rk hk
      refine .inr ⟨p, ks, rfl, rd, fun l hl => ?_⟩
      obtain ⟨s3, h3⟩ := step0_mk (u := .lst (ks.map fun kv => kV kv.1)) hh hl
      exact q l _ s3 h3 hl ⟨by rw [i2]; exact z, _, upd_same, i1⟩
    | _ => exact .inl (old e)) ha hm (by decide +kernel) hg (by decide) (by decide) he hpl
/-- f(..).append(e): the list is dropped -/
def mAppN (mo : M O) (ma : M Opd) : M Fl := M.bind mo fun o => match o with
  | .lst xs => M.bind ma fun x => M.bind (frz1 x) fun _ => if xs.length < sizeLine then M.pure .nx else fun _ => .bad
  | _ => fun _ => .bad
theorem Sim.updF {u : HO} {p : Addr} (S : Sim B F env σ H) (hf : F p = none) (hn : ¬ Own env σ p) : Sim B F env σ (upd H p u) := Sim.updD S hf hn
theorem ds_appN {p2 q : Pos} (ho : DO B X W o mo) (he : DE B X W e ma) (hbase : attributeBase o "append" X.env (eval o X.env) = eval o X.env := by rfl)
    (hfew : ((backTo q (starEach [e] X.env)).all (fun x => !x.1) && (backToKw q (keywordEach [] X.env)).all (fun x => x.1.isSome) && decide (([e] : List Expr).length + ([] : List Keyword).length + (if ([] : List Keyword).isEmpty then 0 else 1) < 30)) = true := by rfl)
    (hline : (p2.endLine == q.line) = true := by rfl) (hs : starEach [e] X.env = (false, eval e X.env) :: starEach [] X.env := by rfl) (hplain : (backTo q (starEach [] X.env)).any (·.1) = false := by rfl)
    (hsw : swapsWith (.Call (.Attribute o "append" p2) [e] [] q) none pos.line X.env = pure false := by rfl) : DS B X W (.Expr (.Call (.Attribute o "append" p2) [e] [] q) pos) (mAppN mo ma) :=
  PS.imp (ps_expr (pe_bm PySem.F.plainAttrs_list PySem.F.slot_list_append PySem.F.type_list_append mt_append ho (pa_cons he pa_nil hs) hbase hfew hline hs hplain) hsw) fun D0 σ H h => by
    obtain ⟨F, env, S, h⟩ := h
    unfold mAppN M.bind at h
    refine ⟨F, env, S, ?_⟩
    cases q : mo env with
    | bad => rw [q] at h; exact h
    | exc c d e' =>
      rw [q] at h
      obtain ⟨C, fld, hb, h⟩ := h
      exact ⟨C, fld, hb, fun F' H' dx v s ⟨m', l⟩ hd hf h0 r => h σ F' H' dx v (Go.of s m' l) hd hf h0 r⟩
    | ok oo e1 =>
      rw [q] at h
      intro F1 H1 s1 m1 l1 p hp hf ho'
      have tr1 : ∀ {F2 H2 : Hp}, Step (Own e1 σ) F1 H1 F2 H2 → Step (Own env σ) F H F2 H2 := fun s2 => s1.trans s2 fun b z => .inl (l1.own z)
      have np : ¬ Own e1 σ p := fun z => by
        obtain ⟨_, u, hu⟩ := (l1.own z).ex S
        rw [hp] at hu; cases hu
      dsimp only at h
      cases oo with
      | lst xs =>
        dsimp only at h
        obtain ⟨z, vs, e3, rp⟩ := ho'
        refine ⟨.inl ⟨rfl, vs, .inl (.inl e3)⟩, F1, e1, m1, ?_⟩
        cases q2 : ma e1 with
        | bad => rw [q2] at h; exact h
        | exc c d e' =>
          rw [q2] at h
          obtain ⟨C, fld, hb, h⟩ := h
          exact ⟨C, fld, hb, fun F' H' dx v s ⟨m', l⟩ hd hf h0 r => h σ F' H' dx v (Go.of (tr1 s) m' (l1.trans l)) hd hf (s1.back h0) r⟩
        | ok x e2 =>
          rw [q2] at h
          intro F2 H2 s2 m2 l2 w rw'
          dsimp only at h
          cases q3 : frz1 x e2 with
          | bad => rw [q3] at h; exact h.elim
          | exc c d e' =>
            exfalso
            cases x with
            | d _ => cases q3
            | sl i =>
              simp only [frz1] at q3
              cases z : e2[i]? with
              | none => rw [z] at q3; cases q3
              | some s =>
                rw [z] at q3
                cases s with
                | no => cases q3
                | fz _ => cases q3
                | ow kk _ => cases kk <;> cases q3
          | ok d e3' =>
            rw [q3] at h
            obtain ⟨d', e4, F3, s3, m3, l3, r3, q4⟩ := m2.frz1 (W := W) rw' (k := fun d' e' _ _ => d' = d ∧ e' = e3') (by rw [q3]; exact fun _ _ _ _ _ => ⟨rfl, rfl⟩)
            obtain ⟨rfl, rfl⟩ := q4
            dsimp only at h
            by_cases g : xs.length < sizeLine
            · rw [if_pos g] at h
              have st12 := s2.trans s3 fun b z => .inl (l2.own z)
              have hp2 : H2 p = some (.lst vs) := s2.keep p _ e3 np
              have f3 : F3 p = none := by
                cases y : F3 p with
                | none => rfl
                | some u =>
                  rcases st12.new p u y with y | y | y
                  · rw [hf] at y; cases y
                  · rw [e3] at y; cases y
                  · exact (np y).elim
              have np3 : ¬ Own e4 σ p := fun y => np (l2.own (l3.own y))
              refine ⟨p, vs, w, rfl, rfl, hp2, by rw [rp.length]; exact g, ?_⟩
              have st := tr1 st12
              refine h σ F3 _ (Go.of ⟨st.le, fun b u hb nb => ?_, st.new, fun b u hb => ?_⟩ (m3.updF f3 np3) (l1.trans (l2.trans l3)))
              · rw [upd_ne (ne_of_none hb hp)]
                exact st.keep b u hb nb
              · rw [upd_ne (ne_of_none hb hp)]
                exact st.stay b u hb
            · rw [if_neg g] at h; exact h.elim
      | dic kvs => exact h.elim
      | obj c fs => exact h.elim
theorem mAppN_r {e : AN.Env} : mAppN mo ma e = R.th (mo e) fun o => match o with
  | .lst xs => fun e => R.th (ma e) fun x e => R.th (frz1 x e) fun _ => if xs.length < sizeLine then M.pure .nx else fun _ => .bad
  | _ => fun _ => .bad := th_congr fun o e => by cases o <;> rfl
end
end AN

set_option Elab.async false
set_option maxRecDepth 100000
set_option autoImplicit false
set_option linter.unusedVariables false
/-! x += e with integers; C(e, ..) with defaults left out -/
namespace AN
open PySem PySem.Spec PyProof.Rows L2
def intI : D → Option Int
  | .int b => some b
  | _ => none
def mAug (i : Nat) (ma : M Opd) : M Fl := fun env => match env[i]? with
  | some (.fz (.int a)) => (M.bind ma fun y => M.bind (ap1 intI y) fun b => put i (.fz (.int (a + b)))) env
  | _ => .bad
section
variable {B : Bx} {X : Cx} {W : WX} {F H : Hp} {env : AN.Env} {σ : L2.St} {e : Expr} {ma : M Opd} {pos p : Pos}
theorem ds_aug (i : Nat) {x : Str} {pos' : Pos} (hN : X.N.Nodup) (he : DE B X W e ma) (hi : X.N[i]? = some x := by rfl) (hx : Loc X.env.scope x := by first | exact Or.inl rfl | exact Or.inr rfl) (hf : X.fn x = true ∨ X.env.scope.names.lookup x = some .local := by first | exact .inl rfl | exact .inr rfl) :
    DS B X W (.AugAssign (.Name x pos') .Add e pos) (mAug i ma) := PS.imp (ps_aug hN hi hx he (iop_add (X := X)) hf) fun D σ H h => by
  obtain ⟨F, env, S, h⟩ := h
  unfold mAug at h
  cases q : env[i]? with
  | none => rw [q] at h; exact h.elim
  | some s =>
    rw [q] at h
    cases s with
    | no => exact h.elim
    | ow _ _ => exact h.elim
    | fz d =>
      cases d with
      | int a =>
        obtain ⟨v, e1, r⟩ := S.fz i _ q
        cases (show v = .int a from r)
        refine ⟨.int a, e1, F, env, S, (PostS.bind h).mono fun y e2 F1 H1 s1 m1 l1 k1 w rw' => ?_⟩
        obtain ⟨a', b, ea, eb, k2⟩ := (PostS.bind k1).ap1
        have eb' : a' = .int b := by cases a' <;> first | (cases eb; rfl) | cases eb
        subst eb'
        have sw := m1.view rw' ea
        cases (show w = .int b from sw)
        have k3 := k2 F1 H1 (Step.refl _ _ _) m1 (EnvLe.refl _)
        obtain ⟨⟨s0, h0⟩, h1, k4⟩ := put_ok k3
        exact ⟨a, b, rfl, rfl, k4 _ _ _ (m1.setD h0 h1 rfl)⟩
      | _ => exact h.elim
theorem mAug_r {i : Nat} {e : AN.Env} {a : Int} (h : e[i]? = some (.fz (.int a))) : mAug i ma e = R.th (ma e) fun y e => R.th (ap1 intI y e) fun b e => put i (.fz (.int (a + b))) e := by
  unfold mAug
  rw [h]
  rfl
end
/-! defaults left out -/
section
variable {X : Cx} {σ : L2.St} {H : Hp} {Q : VK} {E : L2.St → XK} {C f : Addr} {k : Nat} {fd : FuncData} {ps : List Str} {sp : Sp} {x : Str} {p pos : Pos} {e : Expr} {es : List Expr} {t : TA} {ds : List Value} {dvs : List V}
theorem run_makeD {pins : List (Addr × Obj)} {s : Shared} {us : List Value} {vs : List V} (M : Mk X.K C f) (F : FnOk X.prog X.w X.K X.mg X.base (L2.CX X.prog X.w) k f fd ps sp) (hr : Room (k + 1) X.A) (hb : Binds X.K fd ps ds) (hd : Vals dvs ds) (hx : PassesAt (L2.CX X.prog X.w) X σ (E σ))
    (I : Inv X pins σ H s) (r : Vals vs us) (h : ∀ x dx, H x = none → H dx = none → dx ≠ x → sp (.ref x :: (vs ++ dvs)) (upd (upd H dx (.own x)) x (.ins C dx [])) (fun v H2 => v = .non ∧ Q (.ref x) H2) (E σ)) :
    wpAny (model X.prog X.w) X.A (call (.ref C) us) (EP X pins σ Q) X.xe s := by
  have q := h (s.heap.objs.size + 1) s.heap.objs.size (I.hok.fresh (Nat.le_succ _)) (I.hok.fresh (Nat.le_refl _)) (Nat.ne_of_lt (Nat.lt_succ_self _))
  have J := Inv.made (C := C) I
  have vals : Vals (V.ref (s.heap.objs.size + 1) :: (vs ++ dvs)) (Value.ref (s.heap.objs.size + 1) :: (us ++ ds)) := .cons rfl (r.append hd)
  have b := hb _ (Value.ref (s.heap.objs.size + 1) :: us) J.kIn (by rw [List.cons_append, ← vals.length]; exact F.len _ _ _ _ q)
  rw [List.cons_append] at b
  refine wpAny_call (make_map (f := f) I.kIn M.makes M.init (beq_iff_eq.mp M.fn) (codeAny_mono (F.run _ X.stack _ _ ⟨Value.ref (s.heap.objs.size + 1) :: us, []⟩ _ _ _ (E σ) (hr.make C us []) (J.env0.make C us []) b vals q) fun z s' y => ?_))
  cases z with
  | error u => exact hx pins _ _ u s' J y
  | ok fl =>
    cases fl with
    | ret u =>
      obtain ⟨v, H', J2, rv, rfl, q2⟩ := J.after y
      exact ⟨rv, ⟨.ref _, H', J2, rfl, q2⟩⟩
    | next => exact y.elim
    | brk => exact y.elim
    | cont => exact y.elim
def tMakeD (C : Addr) (sp : Sp) (E : L2.St → XK) (dvs : List V) (t : TA) : TE := fun σ H Q => t σ H fun vs H1 => ∀ x dx, H1 x = none → H1 dx = none → dx ≠ x → sp (.ref x :: (vs ++ dvs)) (upd (upd H1 dx (.own x)) x (.ins C dx [])) (fun v H2 => v = .non ∧ Q (.ref x) H2) (E σ)
theorem pe_makeD (M : Mk X.K C f) (F : FnOk X.prog X.w X.K X.mg X.base (L2.CX X.prog X.w) k f fd ps sp) (hr : Room (k + 1) X.A) (hm : X.mg x = some (.ref C)) (hb : Binds X.K fd ps ds) (hd : Vals dvs ds) (hx : ∀ σ, PassesAt (L2.CX X.prog X.w) X σ (E σ))
    (ha : PA X (e :: es) t) (hg : Gl X x := by rfl) (hdb : (x == ("__debug__" : Str)) = false := by decide) (he : starEach (e :: es) X.env = (false, eval e X.env) :: starEach es X.env := by rfl) (hpl : (backTo pos (starEach es X.env)).any (·.1) = false := by rfl) :
    PE X (.Call (.Name x p) (e :: es) [] pos) (tMakeD C sp E dvs t) :=
  ⟨fun pins s σ H Q I h => wpAny_Call_Name_kw (ld_glob I hg hm (PySem.W.callWith_K (h₀ := X.base) I.ok.mod.kin M.kp (thn (ha.run pos pins s σ H _ I h) fun us s1 ⟨vs, H1, I1, r, q⟩ => ⟨I1.kIn, run_makeD M F hr hb hd (hx σ) I1 r q⟩) he hpl) hdb)⟩
end
def mAD (ms : M (List Opd)) (dds : List D) : M (List Opd) := M.bind ms fun xs => M.pure (xs ++ dds.map .d)
structure MakD (P : Program) (w : World) (K : PySem.W.Frag) (mg : Str → Option Value) (base : Heap) (B : Bx) (x : Str) (c : String) (k : Nat) (ps : List Str) (dds : List D) (f : Fn) : Prop where
  ex : ∃ C fa fd ds dvs, B.cls c = some C ∧ Mk K C fa ∧ FnOk P w K mg base (L2.CX P w) k fa fd ("self" :: ps) (spOf B (ps.length + 1) f) ∧ Binds K fd ("self" :: ps) ds ∧ Vals dvs ds ∧ (∀ F, RepL B F dds dvs) ∧ mg x = some (.ref C)
section
variable {B : Bx} {X : Cx} {W : WX} {F H : Hp} {env : AN.Env} {σ : L2.St} {e : Expr} {es : List Expr} {k : Nat} {x : Str} {p pos : Pos}
theorem OpdsRel.app {vs : List V} {xs : List Opd} (h : OpdsRel B F σ vs xs) : ∀ {dds : List D} {dvs : List V}, RepL B F dds dvs → OpdsRel B F σ (vs ++ dvs) (xs ++ dds.map .d) := by
  intro dds dvs r
  induction h with
  | nil =>
    show OpdsRel B F σ dvs (dds.map .d)
    induction dds generalizing dvs with
    | nil => rw [show dvs = [] from r]; exact .nil
    | cons d dds ih =>
      obtain ⟨v, rest, rfl, r1, r2⟩ := r
      exact .cons r1 (ih r2)
  | cons h t ih => exact .cons h ih
theorem do_makeD {c : String} {ps : List Str} {dds : List D} {f : Fn} {ms : M (List Opd)} (N : MakD X.prog X.w X.K X.mg X.base B x c k ps dds f) (hr : Room (k + 1) X.A) (tk : Takes X W) (ha : DA B X W (e :: es) ms) (hg : Gl X x := by rfl) (hdb : (x == ("__debug__" : Str)) = false := by decide)
    (he : starEach (e :: es) X.env = (false, eval e X.env) :: starEach es X.env := by rfl) (hpl : (backTo pos (starEach es X.env)).any (·.1) = false := by rfl) : DO B X W (.Call (.Name x p) (e :: es) [] pos) (mMake c ps.length f (mAD ms dds)) := by
  obtain ⟨C, fa, fd, ds, dvs, hc, Mk0, G, hb, hd, hR, hm⟩ := N.ex
  refine PE.imp (pe_makeD (E := WE W) Mk0 G hr hm hb hd (fun σ => passAt tk σ) ha hg hdb he hpl) fun σ H Q h => ?_
  obtain ⟨F, env, S, h⟩ := h
  refine ⟨F, env, S, (Post.bindPure (m := ms) (f := fun xs => xs ++ dds.map Opd.d) (Post.bind S h)).mono fun xs e1 F1 H1 s1 m1 l1 k1 vs rvs => ?_⟩
  exact make_read hc m1 (rvs.app (hR F1)) (k1 F1 H1 s1 m1) fun o e2 F2 H2 s2 m2 l2 k2 p hp hf ho => k2 p (s1.back hp) hf ho
/-- an empty tuple among the fixed objects -/
theorem rep_tup0 {T : Addr} {od : Option Addr} {n : Nat} {sl : Array (Option Value)} (h : B.K.lookup T = some ⟨.type "tuple", od, .seq #[] n, sl⟩) : ∀ F, RepL B F [.tup []] [.ref T] := fun F =>
  ⟨_, _, rfl, ⟨T, [], rfl, .inr (.inr ⟨_, #[], n, h, rfl, rfl, by show 0 ≤ sizeLine; exact Nat.zero_le _, .nil⟩), Nat.zero_le _, rfl⟩, rfl⟩
theorem mAD_r {ms : M (List Opd)} {dds : List D} {e : AN.Env} : mAD ms dds e = R.th (ms e) fun xs e => .ok (xs ++ dds.map .d) e := rfl
end
end AN

set_option Elab.async false
set_option maxRecDepth 100000
set_option autoImplicit false
set_option linter.unusedVariables false
/-! [..] * n -/
namespace AN
open PySem PySem.Spec PyProof.Rows L2
def mRepN (mo : M O) (mb : M Opd) : M O := M.bind mo fun o => match o with
  | .lst xs => M.bind mb fun y => M.bind (ap1 intI y) fun k => if decide (k ≤ 1000) && decide (-1000 ≤ k) && decide (xs.length ≤ 1000) then M.pure (.lst (List.replicate k.toNat xs).flatten) else fun _ => .bad
  | _ => fun _ => .bad
section
variable {B : Bx} {X : Cx} {W : WX} {F H : Hp} {env : AN.Env} {σ : L2.St} {a b : Expr} {mo : M O} {mb : M Opd} {pos : Pos}
theorem RepL.rep {xs : List D} {vs : List V} (r : RepL B F xs vs) : ∀ n : Nat, RepL B F (List.replicate n xs).flatten (List.replicate n vs).flatten
  | 0 => rfl
  | n + 1 => by
    rw [List.replicate_succ, List.replicate_succ, List.flatten_cons, List.flatten_cons]
    exact r.append (RepL.rep r n)
theorem do_repN (ha : DO B X W a mo) (hb : DE B X W b mb) : DO B X W (.BinOp a .Mult b pos) (mRepN mo mb) := PE.imp (pe_op op_rep ha hb) fun σ H Q h => by
  obtain ⟨F, env, S, h⟩ := h
  unfold mRepN M.bind at h
  refine ⟨F, env, S, ?_⟩
  cases q : mo env with
  | bad => rw [q] at h; exact h
  | exc c d e' => rw [q] at h; exact h
  | ok oo e1 =>
    rw [q] at h
    intro F1 H1 s1 m1 l1 p hp hf ho'
    have tr1 : ∀ {F2 H2 : Hp}, Step (Own e1 σ) F1 H1 F2 H2 → Step (Own env σ) F H F2 H2 := fun s2 => s1.trans s2 fun b z => .inl (l1.own z)
    have np : ¬ Own e1 σ p := fun z => by
      obtain ⟨_, u, hu⟩ := (l1.own z).ex S
      rw [hp] at hu; cases hu
    dsimp only at h
    cases oo with
    | lst xs =>
      dsimp only at h
      obtain ⟨z, vs, e3, rp⟩ := ho'
      refine ⟨F1, e1, m1, ?_⟩
      cases q2 : mb e1 with
      | bad => rw [q2] at h; exact h
      | exc c d e' =>
        rw [q2] at h
        obtain ⟨C, fld, hb, h⟩ := h
        exact ⟨C, fld, hb, fun F' H' dx v s ⟨m', l⟩ hd hf h0 r => h F' H' dx v (tr1 s) ⟨m', l1.trans l⟩ hd hf (s1.back h0) r⟩
      | ok y e2 =>
        rw [q2] at h
        intro F2 H2 s2 m2 l2 w rw'
        dsimp only at h
        cases q3 : view e2 y with
        | none => simp only [ap1, q3] at h; exact h.elim
        | some d =>
          cases q4 : intI d with
          | none => simp only [ap1, q3, q4] at h; exact h.elim
          | some k =>
            simp only [ap1, q3, q4] at h
            have ed : d = .int k := by cases d <;> first | (cases q4; rfl) | cases q4
            subst ed
            cases (show w = .int k from m2.view rw' q3)
            by_cases g : (decide (k ≤ 1000) && decide (-1000 ≤ k) && decide (xs.length ≤ 1000)) = true
            · rw [if_pos g] at h
              simp only [Bool.and_eq_true, decide_eq_true_eq] at g
              obtain ⟨⟨g1, g2⟩, g3⟩ := g
              have hl : vs.length * k.toNat ≤ 1000000 := by
                rw [rp.length]
                exact Nat.le_trans (Nat.mul_le_mul g3 (show k.toNat ≤ 1000 by omega)) (by decide)
              refine ⟨p, k, vs, rfl, rfl, s2.keep p _ e3 np, by omega, by omega, Nat.le_trans hl (by decide), fun p2 hp2 => ?_⟩
              obtain ⟨s3, h3⟩ := step0_mk (u := .lst (List.replicate k.toNat vs).flatten) m2.hold hp2
              have st : Step (Own env σ) F H F2 (upd H2 p2 (.lst (List.replicate k.toNat vs).flatten)) := (tr1 s2).trans s3 fun b z => z.elim
              refine h F2 _ st (m2.step0 s3 h3) (l1.trans l2) p2 (s1.back (s2.back hp2)) (m2.hold.none hp2) ⟨?_, _, upd_same, ?_⟩
              · have e := (RepL.rep rp k.toNat).length
                rw [← e, List.length_flatten, List.map_replicate, List.sum_replicate_nat, Nat.mul_comm]
                exact Nat.le_trans hl (by decide)
              · exact RepL.rep (RepL.mono s2.le _ _ rp) k.toNat
            · rw [if_neg g] at h; exact h.elim
    | dic _ => exact h.elim
    | obj _ _ => exact h.elim
end
end AN

set_option Elab.async false
set_option maxRecDepth 100000
set_option autoImplicit false
set_option linter.unusedVariables false
/-! repr({}) -/
namespace AN
open PySem PySem.Spec PyProof.Rows L2
def dReprK : D → Option D
  | .dic [] => some (.str "{}")
  | d => dRepr d
section
variable {B : Bx} {X : Cx} {W : WX} {F H : Hp} {env : AN.Env} {σ : L2.St} {a : Expr} {ma : M Opd} {p pos : Pos} {P : L2.St → Hp → Prop}
theorem call_repr0 (gd : X.A.guards = some []) (hu : X.A.units + 70 < cLine) : CallR X (.builtin "repr") (fun xs H Q => ∃ a, xs = [.ref a] ∧ Rd H a (.dK []) ∧ Q (.str "{}") H) := by
  intro pins s σ H xs us Q I r h
  obtain ⟨a, rfl, rd, q⟩ := h
  obtain ⟨u, rfl, ru⟩ := vals1 r
  cases ru
  obtain ⟨z, lo, vs, rel, dd⟩ := dk_rd I.hok rd
  have ev : vs = [] := by cases rel; rfl
  subst ev
  obtain ⟨o, es, ep, h1, h2, h3, h4, h5, h6⟩ := dd
  have ee : es.toList = [] := by
    cases q : es.toList with
    | nil => rfl
    | cons x r => rw [q] at h5; cases h5
  have rs : Reads s.heap (.ref a) (.dict []) (a :: [] ++ []) := .dict h1 h2.1 h3 (by rw [ee]; exact .nil) (by rw [ee]; exact .nil)
  refine PySem.repr_of_reads' rs rfl (fun _ => ?_) gd (by show X.A.units + (0 + 1 + 1) < cLine; omega) (fun _ _ e => e) (fun h' t tk k => ⟨.str _, H, I.kept k, ⟨_, rfl⟩, q⟩) (by decide)
  simp only [List.append_nil, List.mem_singleton]
  intro e
  rw [← e] at lo
  simp at lo
theorem p_reprK (hK : X.K = B.K) : Prim1 B dReprK (fun x H Q => rRepr X.K [x] H Q ∨ ∃ a, [x] = [V.ref a] ∧ Rd H a (.dK []) ∧ Q (.str "{}") H) := fun F H a z x Q hh sa e q => by
  by_cases h : a = .dic []
  · subst h
    cases e
    obtain ⟨p, ks, rfl, rd, _, rk⟩ := sa
    rw [show ks = [] from rk] at rd
    exact .inr ⟨p, rfl, rd, q _ F H (Step.refl _ _ _) hh ⟨rfl, by decide +kernel, by decide +kernel⟩⟩
  · have e' : dRepr a = some z := by
      cases a with
      | dic kvs => cases kvs with
        | nil => exact absurd rfl h
        | cons _ _ => exact e
      | _ => exact e
    exact .inl (p_repr hK F H a z x Q hh sa e' q)
theorem call_reprK (gd : X.A.guards = some []) (hu : X.A.units + 70 < cLine) : CallR X (.builtin "repr") (fun xs H Q => rRepr X.K xs H Q ∨ ∃ a, xs = [V.ref a] ∧ Rd H a (.dK []) ∧ Q (.str "{}") H) := fun pins s σ H xs us Q I r q => q.elim (call_repr_data gd hu pins s σ H xs us Q I r) (call_repr0 gd hu pins s σ H xs us Q I r)
theorem de_reprK (gd : X.A.guards = some []) (hu : X.A.units + 70 < cLine) (hK : X.K = B.K) (ha : DE B X W a ma) (hm : X.mg "repr" = none) (hg : Gl X "repr" := by rfl) (he : starEach [a] X.env = (false, eval a X.env) :: starEach [] X.env := by rfl) (hpl : (backTo pos (starEach [] X.env)).any (·.1) = false := by rfl) :
    DE B X W (.Call (.Name "repr" p) [a] [] pos) (mD (mB1 dReprK ma)) := de_b1 (call_reprK gd hu) (p_reprK hK) ha hm (by decide +kernel) hg (by decide) (by decide) he hpl
theorem xp_reprK (gd : X.A.guards = some []) (hu : X.A.units + 70 < cLine) (hK : X.K = B.K) (ha : PE X a (tEP B P ma)) (hm : X.mg "repr" = none) (hg : Gl X "repr" := by rfl) (he : starEach [a] X.env = (false, eval a X.env) :: starEach [] X.env := by rfl) (hpl : (backTo pos (starEach [] X.env)).any (·.1) = false := by rfl) :
    PE X (.Call (.Name "repr" p) [a] [] pos) (tEP B P (mD (mB1 dReprK ma))) := xp_b1 (call_reprK gd hu) (p_reprK hK) ha hm (by decide +kernel) hg (by decide) (by decide) he hpl
end
end AN

set_option Elab.async false
set_option maxRecDepth 100000
set_option autoImplicit false
set_option linter.unusedVariables false
/-! x in [], whatever x is -/
namespace AN
open PySem PySem.Spec PyProof.Rows L2
def dInZ (neg : Bool) (a b : D) : Option D := match b with
  | .lst [] => some (.bl neg)
  | b => dInK neg a b
section
variable {B : Bx} {X : Cx} {W : WX}
def rIn0 (K : PySem.W.Frag) (neg : Bool) : R2 := fun x y H Q => ∃ p, y = .ref p ∧ SqL K H p [] ∧ Q (.bl neg) H
theorem op_in0 : OpR X (compareOp .In) (rIn0 X.K false) := by
  intro pins s σ H x y v u Q I rx ry h
  obtain ⟨p, rfl, hq, q⟩ := h
  cases ry
  obtain ⟨its, r, pl, hz⟩ := I.list hq
  cases r
  exact SeqAt.in_listAt (fun _ => false) pl.isList (fun w hw => by simp at hw) ⟨.bl _, H, I, rfl, by simpa using q⟩
theorem op_notIn0 : OpR X (compareOp .NotIn) (rIn0 X.K true) := by
  intro pins s σ H x y v u Q I rx ry h
  obtain ⟨p, rfl, hq, q⟩ := h
  cases ry
  obtain ⟨its, r, pl, hz⟩ := I.list hq
  cases r
  exact SeqAt.notIn_listAt (fun _ => false) pl.isList (fun w hw => by simp at hw) ⟨.bl _, H, I, rfl, by simpa using q⟩
theorem p_inZ {neg : Bool} {r0 : R2} (hK : X.K = B.K) (h0 : Prim2 B (dInK neg) r0) : Prim2 B (dInZ neg) (fun x y H Q => r0 x y H Q ∨ rIn0 X.K neg x y H Q) := fun F H a b z x y Q hh sa sb e q => by
  have plain : dInK neg a b = some z → r0 x y H Q ∨ rIn0 X.K neg x y H Q := fun e => .inl (h0 F H a b z x y Q hh sa sb e q)
  cases b with
  | lst xs =>
    cases xs with
    | nil =>
      right
      cases e
      obtain ⟨p, vs, rfl, a, z, r⟩ := sb
      cases (show vs = [] from r)
      exact ⟨p, rfl, by rw [hK]; exact a, q _ F H (Step.refl _ _ _) hh rfl⟩
    | cons y ys => exact plain e
  | _ => exact plain e
end
end AN

set_option Elab.async false
set_option maxRecDepth 100000
set_option autoImplicit false
set_option linter.unusedVariables false
/-! running mirrors step by step: what comes next is a goal, what was is not written again -/
namespace AN
open PySem PySem.Spec PyProof.Rows L2
section
variable {α β : Type} {m n : M Fl} {t : M Bool} {e e1 e2 : AN.Env} {r : R Fl} {d x : D} {o : O} {c : String} {i : Nat} {bs : List Bool} {ma mb mk mv : M Opd} {mo : M O} {f : Fl}
theorem seq_nx (h1 : m e = .ok .nx e1) (h2 : n e1 = r) : mSeq m n e = r := by rw [mSeq_r, h1, th_ok]; exact h2
theorem seq_rt (h1 : m e = .ok (.rt d) e1) : mSeq m n e = .ok (.rt d) e1 := by rw [mSeq_r, h1, th_ok]; rfl
theorem seq_ro (h1 : m e = .ok (.ro o) e1) : mSeq m n e = .ok (.ro o) e1 := by rw [mSeq_r, h1, th_ok]; rfl
theorem seq_ct (h1 : m e = .ok .ct e1) : mSeq m n e = .ok .ct e1 := by rw [mSeq_r, h1, th_ok]; rfl
theorem seq_exc (h1 : m e = .exc c d e1) : mSeq m n e = .exc c d e1 := by rw [mSeq_r, h1, th_exc]
theorem ifs_t (h : t e = .ok true e1) (h2 : m e1 = r) : mIfS t m n e = r := by rw [mIfS_r, h, th_ok, if_pos rfl]; exact h2
theorem ifs_f (h : t e = .ok false e1) (h2 : n e1 = r) : mIfS t m n e = r := by rw [mIfS_r, h, th_ok, if_neg Bool.false_ne_true]; exact h2
theorem ifs_skip (h : t e = .ok false e1) : mIfS t m mNx e = .ok .nx e1 := ifs_f h rfl
theorem ifs_x (h : t e = .exc c d e1) : mIfS t m n e = .exc c d e1 := by rw [mIfS_r, h, th_exc]
theorem w_nx (h : m e = .ok .nx e1) (h2 : wipeB bs e1 = e2) : mW bs m e = .ok .nx e2 := by rw [mW_r, h, wp_nx, h2]
theorem w_ct (h : m e = .ok .ct e1) (h2 : wipeB bs e1 = e2) : mW bs m e = .ok .ct e2 := by rw [mW_r, h, wp_ct, h2]
theorem w_bk (h : m e = .ok .bk e1) (h2 : wipeB bs e1 = e2) : mW bs m e = .ok .bk e2 := by rw [mW_r, h, wp_bk, h2]
theorem w_rt (h : m e = .ok (.rt d) e1) : mW bs m e = .ok (.rt d) e1 := by rw [mW_r, h, wp_rt]
theorem w_ro (h : m e = .ok (.ro o) e1) : mW bs m e = .ok (.ro o) e1 := by rw [mW_r, h, wp_ro]
theorem w_exc (h : m e = .exc c d e1) : mW bs m e = .exc c d e1 := by rw [mW_r, h, wp_exc]
theorem set_ok (h : ma e = .ok (.d d) e1) (h2 : put i (.fz d) e1 = r) : mSet i ma e = r := by rw [mSet_r, h, th_ok, frz1_d, th_ok]; exact h2
theorem setO_ok (h : mo e = .ok o e1) (h2 : put i (.ow false o) e1 = r) : mSetO i mo e = r := by rw [mSetO_r, h, th_ok]; exact h2
theorem set_x (h : ma e = .exc c d e1) : mSet i ma e = .exc c d e1 := by rw [mSet_r, h, th_exc]
theorem ret_ok (h : ma e = .ok (.d d) e1) : mRet ma e = .ok (.rt d) e1 := by rw [mRet_r, h, th_ok, frz1_d, th_ok]
theorem retO_ok (h : mo e = .ok o e1) : mRetO mo e = .ok (.ro o) e1 := by rw [mRetO_r, h, th_ok]
theorem ret_x (h : ma e = .exc c d e1) : mRet ma e = .exc c d e1 := by rw [mRet_r, h, th_exc]
theorem retO_x (h : mo e = .exc c d e1) : mRetO mo e = .exc c d e1 := by rw [mRetO_r, h, th_exc]
theorem fz_ok (h : mo e = .ok o e1) : mFz mo e = .ok (.d o.toD) e1 := by rw [mFz_r, h, th_ok]
theorem drop_ok {x : Opd} (h : ma e = .ok x e1) : mDrop ma e = .ok .nx e1 := by rw [mDrop_r, h, th_ok]
theorem drop_x (h : ma e = .exc c d e1) : mDrop ma e = .exc c d e1 := by rw [mDrop_r, h, th_exc]
theorem for_ok {it : M (List D)} {g : D → AN.Env → Option AN.Env} {ds : List D} (h : it e = .ok ds e1) (h2 : loop g m ds e1 = r) : mFor it g m e = r := by rw [mFor_r, h, th_ok]; exact h2
theorem it_ok {ds : List D} (h : ma e = .ok (.d d) e1) (h2 : seqOf d = some ds) : mIt ma e = .ok ds e1 := by rw [mIt_r, h, th_ok, frz1_d, th_ok, h2]; rfl
theorem asg_ok {g : D → AN.Env → Option AN.Env} (h : ma e = .ok (.d d) e1) (h2 : g d e1 = some e2) : mAsg g ma e = .ok .nx e2 := by rw [mAsg_r, h, th_ok, frz1_d, th_ok, h2]; rfl
theorem comp_ok {vs : List Nat} {it : M (List D)} {g : D → AN.Env → Option AN.Env} {mt : M Bool} {me : M Opd} {ds acc : List D} {e3 : AN.Env} (h : it e = .ok ds e1) (hz : ds.length ≤ sizeLine) (h2 : lc vs g mt me ds [] (wipeE vs 0 e1) = .ok acc e2) (h3 : restE vs 0 e1 e2 = e3) : mLC vs it g mt me e = .ok (.lst acc) e3 := by
  rw [mLC_r, h, th_ok, if_pos hz, h2]
  dsimp only
  rw [h3]
theorem disp1 {k : Key} (hk : mk e = .ok (.d x) e) (hk2 : keyOf x = some k) (hv : mv e = .ok (.d d) e1) : mDisp [(mk, mv)] e = .ok (.dic [(k, d)]) e1 := by
  have : mPairs [(mk, mv)] e = .ok [(k, d)] e1 := by
    simp only [mPairs, bind_r, hk, th_ok, ap1_r, view_d, Option.bind_some, hk2, rop_some, hv, frz1_d, pure_r]
  unfold mDisp
  rw [this]
  rfl
theorem mRepN_r : mRepN mo mb e = R.th (mo e) fun o => match o with
  | .lst xs => fun e => R.th (mb e) fun y e => R.th (ap1 intI y e) fun k => if (decide (k ≤ 1000) && decide (-1000 ≤ k) && decide (xs.length ≤ 1000)) = true then M.pure (.lst (List.replicate k.toNat xs).flatten) else fun _ => .bad
  | _ => fun _ => .bad := th_congr fun o e => by cases o <;> rfl
theorem appN_ok {xs : List D} (ho : mo e = .ok (.lst xs) e1) (ha : ma e1 = .ok (.d d) e2) (hz : xs.length < sizeLine) : mAppN mo ma e = .ok .nx e2 := by
  rw [mAppN_r, ho, th_ok]
  dsimp only
  rw [ha, th_ok, frz1_d, th_ok, if_pos hz]
  rfl
theorem or_t {t2 : M Bool} (h : t e = .ok true e1) : mOr t t2 e = .ok true e1 := by rw [mOr_r, h, th_ok, if_pos rfl]; rfl
theorem or_f {t2 : M Bool} {b : R Bool} (h : t e = .ok false e1) (h2 : t2 e1 = b) : mOr t t2 e = b := by rw [mOr_r, h, th_ok, if_neg Bool.false_ne_true]; exact h2
theorem and_f {t2 : M Bool} (h : t e = .ok false e1) : mAnd t t2 e = .ok false e1 := by rw [mAnd_r, h, th_ok, if_neg Bool.false_ne_true]; rfl
theorem and_t {t2 : M Bool} {b : R Bool} (h : t e = .ok true e1) (h2 : t2 e1 = b) : mAnd t t2 e = b := by rw [mAnd_r, h, th_ok, if_pos rfl]; exact h2
theorem b2_ok {γ : Type} {g : D → D → Option γ} {a b : D} {z : γ} (h1 : ma e = .ok (.d a) e1) (h2 : mb e1 = .ok (.d b) e2) (h3 : g a b = some z) : mB2 g ma mb e = .ok z e2 := by
  rw [mB2_r, h1, th_ok, h2, th_ok, ap2_r, view_d, view_d]
  simp only [Option.bind_some, h3, rop_some]
theorem b1_ok {γ : Type} {g : D → Option γ} {a : D} {z : γ} (h1 : ma e = .ok (.d a) e1) (h3 : g a = some z) : mB1 g ma e = .ok z e1 := by
  rw [mB1_r, h1, th_ok, ap1_r, view_d]
  simp only [Option.bind_some, h3, rop_some]
theorem d_ok {md : M D} (h : md e = .ok d e1) : mD md e = .ok (.d d) e1 := by rw [mD_r, h, th_ok]
theorem g2b_ok {g : D → D → Option D} {a b : D} {z : Bool} (h : g a b = some (.bl z)) : g2b g a b = some z := by rw [g2b_r, h]; rfl
theorem call_ok {f : Fn} {ms : M (List Opd)} {xs : List Opd} {k : Nat} {rt : Ret} (h : ms e = .ok xs e1) (h2 : callP k f xs e1 = .ok rt e2) : mCall k f ms e = .ok (.d rt.toD) e2 := by rw [mCall_r, h, th_ok, h2, th_ok]
theorem runF_x {k : Nat} {args : List AN.Slot} (h : m (args ++ List.replicate k .no) = .exc c d e) : runF k m args = .exc c d (outs args e) := by unfold runF; rw [h]
theorem callO_ok {f : Fn} {ms : M (List Opd)} {xs : List Opd} {k : Nat} (h : ms e = .ok xs e1) (h2 : callP k f xs e1 = .ok (.ow o) e2) : mCallO k f ms e = .ok o e2 := by rw [mCallO_r, h, th_ok, h2, th_ok]; rfl
theorem callM_ok' {f : Fn} {ms : M (List Opd)} {xs : List Opd} {sg : List Bool} {rt : Ret} (h : ms e = .ok xs e1) (h2 : callM sg f xs e1 = .ok rt e2) : mCallM sg f ms e = .ok (.d rt.toD) e2 := by rw [mCallM_r, h, th_ok, h2, th_ok]
theorem callMO_ok {f : Fn} {ms : M (List Opd)} {xs : List Opd} {sg : List Bool} (h : ms e = .ok xs e1) (h2 : callM sg f xs e1 = .ok (.ow o) e2) : mCallMO sg f ms e = .ok o e2 := by rw [mCallMO_r, h, th_ok, h2, th_ok]; rfl
theorem call_x {f : Fn} {ms : M (List Opd)} {xs : List Opd} {k : Nat} (h : ms e = .ok xs e1) (h2 : callP k f xs e1 = .exc c d e2) : mCall k f ms e = .exc c d e2 := by rw [mCall_r, h, th_ok, h2, th_exc]
theorem callO_x {f : Fn} {ms : M (List Opd)} {xs : List Opd} {k : Nat} (h : ms e = .ok xs e1) (h2 : callP k f xs e1 = .exc c d e2) : mCallO k f ms e = .exc c d e2 := by rw [mCallO_r, h, th_ok, h2, th_exc]
theorem a_ok {x : Opd} {xs : List Opd} {ms : M (List Opd)} (h : ma e = .ok x e1) (h2 : ms e1 = .ok xs e2) : mA ma ms e = .ok (x :: xs) e2 := by rw [mA_r, h, th_ok, h2, th_ok]
theorem lst_ok {ms : M (List Opd)} {xs : List Opd} {ds : List D} (h : ms e = .ok xs e1) (h2 : frzs xs e1 = .ok ds e2) (hz : ds.length ≤ sizeLine) : mLst ms e = .ok (.lst ds) e2 := by rw [mLst_r, h, th_ok, h2, th_ok, lim_r hz]; rfl
theorem tup_ok {ms : M (List Opd)} {xs : List Opd} {ds : List D} (h : ms e = .ok xs e1) (h2 : frzs xs e1 = .ok ds e2) (hz : ds.length ≤ sizeLine) : mTup ms e = .ok (.d (.tup ds)) e2 := by rw [mTup_r, h, th_ok, h2, th_ok, lim_r hz]; rfl
theorem meth_ok {t : String → Option Fn} {nm : Str} {k : Nat} {ms : M (List Opd)} {f : Fn} {xs : List Opd} {e3 : AN.Env} {rt : Ret} (h : ma e = .ok (.d d) e1) (hs : selM t nm d = some f) (h2 : ms e1 = .ok xs e2) (h3 : callP k f (.d d :: xs) e2 = .ok rt e3) : mMeth t nm k ma ms e = .ok (.d rt.toD) e3 := by
  rw [mMeth_r, h, th_ok, ap1_r, view_d, Option.bind_some, hs, rop_some, th_ok, h2, th_ok, callD_r, h3, th_ok]
theorem meth_x {t : String → Option Fn} {nm : Str} {k : Nat} {ms : M (List Opd)} {f : Fn} {xs : List Opd} {e3 : AN.Env} (h : ma e = .ok (.d x) e1) (hs : selM t nm x = some f) (h2 : ms e1 = .ok xs e2) (h3 : callP k f (.d x :: xs) e2 = .exc c d e3) : mMeth t nm k ma ms e = .exc c d e3 := by
  rw [mMeth_r, h, th_ok, ap1_r, view_d, Option.bind_some, hs, rop_some, th_ok, h2, th_ok, callD_r, h3, th_exc]
theorem make_ok {cn : String} {k : Nat} {f : Fn} {ms : M (List Opd)} {xs : List Opd} (h : ms e = .ok xs e1) (h2 : makeP cn k f xs e1 = .ok o e2) : mMake cn k f ms e = .ok o e2 := by rw [mMake_r, h, th_ok, h2]
theorem asgN_ok {ts : List Nat} {is : List Itm} {as : List (D ⊕ O)} (h : mItms is e = .ok as e1) (h2 : putsN ts as e1 = some e2) : mAsgN ts is e = .ok .nx e2 := by rw [mAsgN_r, h, th_ok, h2]; rfl
theorem itmE {is : List Itm} {as : List (D ⊕ O)} (h : ma e = .ok (.d d) e1) (h2 : mItms is e1 = .ok as e2) : mItms (.e ma :: is) e = .ok (.inl d :: as) e2 := by
  simp only [mItms, bind_r, h, th_ok, frz1_d, h2, pure_r]
theorem itmO {is : List Itm} {as : List (D ⊕ O)} (h : mo e = .ok o e1) (h2 : mItms is e1 = .ok as e2) : mItms (.o mo :: is) e = .ok (.inr o :: as) e2 := by
  simp only [mItms, bind_r, h, th_ok, h2, pure_r]
theorem ad_ok {ms : M (List Opd)} {xs : List Opd} {dds : List D} (h : ms e = .ok xs e1) : mAD ms dds e = .ok (xs ++ dds.map .d) e1 := by rw [mAD_r, h, th_ok]
theorem seq1 (h : m e = r) (h2 : r = .ok .nx e1) : m e = .ok .nx e1 := h.trans h2
end
theorem zL {n : Nat} (h : n ≤ 1000) : n ≤ sizeLine := Nat.le_trans h (by decide)
theorem rngI {v : Int} (h0 : 0 ≤ v) (h1 : v ≤ 1000) : rng1 (.int v) = some (nums 0 v.toNat) := by
  simp only [rng1]; rw [if_pos (by omega)]
theorem rng_len {mx : M Opd} {e e' : AN.Env} {m : Int} {n : Nat} (h : mx e = .ok (.d (.int m)) e') (hm : m = (n : Nat)) (hn : n ≤ 1000) : mRng1 mx e = .ok (nums 0 n) e' := by
  have rg : rng1 (.int m) = some (nums 0 n) := by
    rw [rngI (by omega) (by omega)]; congr 2; omega
  rw [mRng1_r, mB1_r, h, th_ok, ap1_r, view_d, Option.bind_some, rg, rop_some]
section
variable {f : Fn} {d1 d2 d3 d4 d5 d6 z x : D} {o : O} {c : String} {e : AN.Env} {as : List AN.Slot}
theorem callN4 (h : f [.fz d1, .fz d2, .fz d3, .fz d4] = .ok (.fz z) as) : callP 4 f [.d d1, .d d2, .d d3, .d d4] e = .ok (.fz z) e := by
  have := callP_d (f := f) (n := 4) (ds := [d1, d2, d3, d4]) (e := e) rfl
  simpa [h] using this
theorem callO4 (h : f [.fz d1, .fz d2, .fz d3, .fz d4] = .ok (.ow o) as) : callP 4 f [.d d1, .d d2, .d d3, .d d4] e = .ok (.ow o) e := by
  have := callP_d (f := f) (n := 4) (ds := [d1, d2, d3, d4]) (e := e) rfl
  simpa [h] using this
theorem callX4 (h : f [.fz d1, .fz d2, .fz d3, .fz d4] = .exc c x as) : callP 4 f [.d d1, .d d2, .d d3, .d d4] e = .exc c x e := by
  have := callP_d (f := f) (n := 4) (ds := [d1, d2, d3, d4]) (e := e) rfl
  simpa [h] using this
theorem callN5 (h : f [.fz d1, .fz d2, .fz d3, .fz d4, .fz d5] = .ok (.fz z) as) : callP 5 f [.d d1, .d d2, .d d3, .d d4, .d d5] e = .ok (.fz z) e := by
  have := callP_d (f := f) (n := 5) (ds := [d1, d2, d3, d4, d5]) (e := e) rfl
  simpa [h] using this
theorem callO5 (h : f [.fz d1, .fz d2, .fz d3, .fz d4, .fz d5] = .ok (.ow o) as) : callP 5 f [.d d1, .d d2, .d d3, .d d4, .d d5] e = .ok (.ow o) e := by
  have := callP_d (f := f) (n := 5) (ds := [d1, d2, d3, d4, d5]) (e := e) rfl
  simpa [h] using this
theorem callX5 (h : f [.fz d1, .fz d2, .fz d3, .fz d4, .fz d5] = .exc c x as) : callP 5 f [.d d1, .d d2, .d d3, .d d4, .d d5] e = .exc c x e := by
  have := callP_d (f := f) (n := 5) (ds := [d1, d2, d3, d4, d5]) (e := e) rfl
  simpa [h] using this
theorem callN6 (h : f [.fz d1, .fz d2, .fz d3, .fz d4, .fz d5, .fz d6] = .ok (.fz z) as) : callP 6 f [.d d1, .d d2, .d d3, .d d4, .d d5, .d d6] e = .ok (.fz z) e := by
  have := callP_d (f := f) (n := 6) (ds := [d1, d2, d3, d4, d5, d6]) (e := e) rfl
  simpa [h] using this
theorem callO6 (h : f [.fz d1, .fz d2, .fz d3, .fz d4, .fz d5, .fz d6] = .ok (.ow o) as) : callP 6 f [.d d1, .d d2, .d d3, .d d4, .d d5, .d d6] e = .ok (.ow o) e := by
  have := callP_d (f := f) (n := 6) (ds := [d1, d2, d3, d4, d5, d6]) (e := e) rfl
  simpa [h] using this
theorem callX6 (h : f [.fz d1, .fz d2, .fz d3, .fz d4, .fz d5, .fz d6] = .exc c x as) : callP 6 f [.d d1, .d d2, .d d3, .d d4, .d d5, .d d6] e = .exc c x e := by
  have := callP_d (f := f) (n := 6) (ds := [d1, d2, d3, d4, d5, d6]) (e := e) rfl
  simpa [h] using this
end
end AN

set_option Elab.async false
set_option maxRecDepth 100000
set_option autoImplicit false
set_option linter.unusedVariables false
/-! [e for x in xs for y in ys]: two fors -/
namespace AN
open PySem PySem.Spec PyProof.Rows L2
def lc2 (vs vs1 : List Nat) (g : D → AN.Env → Option AN.Env) (mt : M Bool) (mi1 : M (List D)) (g1 : D → AN.Env → Option AN.Env) (mt1 : M Bool) (me : M Opd) : List D → List D → AN.Env → R (List D)
  | [], acc, env => .ok acc env
  | d :: ds, acc, env => match g d env with
    | none => .bad
    | some e1 => match mt e1 with
      | .ok false e2 => lc2 vs vs1 g mt mi1 g1 mt1 me ds acc (wipeE vs 0 e2)
      | .ok true e2 => match mi1 e2 with
        | .ok ds1 e3 => match lc vs1 g1 mt1 me ds1 acc (wipeE vs1 0 e3) with
          | .ok acc' e4 => lc2 vs vs1 g mt mi1 g1 mt1 me ds acc' (wipeE vs 0 e4)
          | _ => .bad
        | _ => .bad
      | _ => .bad
def mLC2 (vs vs1 : List Nat) (it : M (List D)) (g : D → AN.Env → Option AN.Env) (mt : M Bool) (mi1 : M (List D)) (g1 : D → AN.Env → Option AN.Env) (mt1 : M Bool) (me : M Opd) : M O := M.bind it fun ds env => match lc2 vs vs1 g mt mi1 g1 mt1 me ds [] (wipeE vs 0 env) with
  | .ok acc e2 => if acc.length ≤ sizeLine then .ok (.lst acc) (restE vs 0 env e2) else .bad
  | _ => .bad
theorem lc_grow {vs : List Nat} {g : D → AN.Env → Option AN.Env} {mt : M Bool} {me : M Opd} : ∀ {ds acc r : List D} {e e' : AN.Env}, lc vs g mt me ds acc e = .ok r e' → acc.length ≤ r.length
  | [], acc, r, e, e', h => by cases h; exact Nat.le_refl _
  | d :: ds, acc, r, e, e', h => by
    unfold lc at h
    cases q : g d e with
    | none => simp only [q] at h; cases h
    | some e1 =>
      simp only [q] at h
      cases q2 : mt e1 with
      | bad => simp only [q2] at h; cases h
      | exc c x y => simp only [q2] at h; cases h
      | ok b e2 =>
        cases b with
        | false => simp only [q2] at h; exact lc_grow h
        | true =>
          simp only [q2] at h
          cases q3 : M.bind me frz1 e2 with
          | bad => simp only [q3] at h; cases h
          | exc c x y => simp only [q3] at h; cases h
          | ok y e3 =>
            simp only [q3] at h
            have := lc_grow h
            rw [List.length_append, List.length_singleton] at this
            omega
theorem lc2_grow {vs vs1 : List Nat} {g g1 : D → AN.Env → Option AN.Env} {mt mt1 : M Bool} {mi1 : M (List D)} {me : M Opd} : ∀ {ds acc r : List D} {e e' : AN.Env}, lc2 vs vs1 g mt mi1 g1 mt1 me ds acc e = .ok r e' → acc.length ≤ r.length
  | [], acc, r, e, e', h => by cases h; exact Nat.le_refl _
  | d :: ds, acc, r, e, e', h => by
    unfold lc2 at h
    cases q : g d e with
    | none => simp only [q] at h; cases h
    | some e1 =>
      simp only [q] at h
      cases q2 : mt e1 with
      | bad => simp only [q2] at h; cases h
      | exc c x y => simp only [q2] at h; cases h
      | ok b e2 =>
        cases b with
        | false => simp only [q2] at h; exact lc2_grow h
        | true =>
          simp only [q2] at h
          cases q3 : mi1 e2 with
          | bad => simp only [q3] at h; cases h
          | exc c x y => simp only [q3] at h; cases h
          | ok ds1 e3 =>
            simp only [q3] at h
            cases q4 : lc vs1 g1 mt1 me ds1 acc (wipeE vs1 0 e3) with
            | bad => simp only [q4] at h; cases h
            | exc c x y => simp only [q4] at h; cases h
            | ok acc' e4 =>
              simp only [q4] at h
              exact Nat.le_trans (lc_grow q4) (lc2_grow h)
theorem wipe_wipe {σ : L2.St} {vs vs1 : List Nat} (hv : ∀ i ∈ vs1, i ∈ vs) : wipe (wipe σ vs1) vs = wipe σ vs := by
  refine wipe_eq (by rw [wipe_length]) fun j hj => ?_
  rw [wipe_get fun z => hj (hv j z), wipe_get hj]
section
variable {B : Bx} {X : Cx} {W : WX} {F H F1 H1 F2 H2 : Hp} {env e1 e2 : AN.Env} {σ : L2.St} {Q : VK}
/-- one loop of a comprehension, from a list that stands at Dd -/
theorem lc_inner {vs ns : List Nat} {g : D → AN.Env → Option AN.Env} {mt : M Bool} {me : M Opd} {J : It} {ds acc0 accf : List D} {av0 : List V} {Dd : Addr} {Nx : Hp → Prop} (hns : ∀ i ∈ ns, i ∈ vs) (it : Iter B F1 J ds) (S1 : Sim B F1 e1 σ H1)
    (hav0 : H1 Dd = some (.lst av0)) (hfd0 : F1 Dd = none) (nD0 : ¬ Own e1 σ Dd) (rl0 : RepL B F1 acc0 av0) (ql : lc vs g mt me ds acc0 (wipeE vs 0 e1) = .ok accf e2) (hz : accf.length ≤ sizeLine)
    (fin : ∀ F' H' av, Step (fun b => Own (wipeE vs 0 e1) (wipe σ vs) b ∨ b = Dd) F1 H1 F' H' → Sim B F' e2 (wipe σ vs) H' → EnvLe (wipeE vs 0 e1) e2 → H' Dd = some (.lst av) → F' Dd = none → RepL B F' accf av → Nx H') :
    ∃ W1 : Nat → Nat → Hp → Prop, (∃ m, W1 0 m H1) ∧ ∀ j k H, W1 j k H → (J.stop j H ∧ Nx H) ∨ (J.go j H ∧ ∃ Nx1 : Hp → Prop, (∀ H', Nx1 H' → ∃ k', k' < k ∧ W1 (j + 1) k' H') ∧ ∀ x H', J.yld j H x H' → tG B ns g x (wipe σ vs) H' fun σ3 H5 => wipe σ3 vs = wipe σ vs ∧ tT B WF mt σ3 H5 fun b H6 =>
      if b = true then tE B WF me σ3 H6 fun y H7 => ∃ acc, H7 Dd = some (.lst acc) ∧ acc.length < sizeLine ∧ Nx1 (upd H7 Dd (.lst (acc ++ [y]))) else Nx1 H6) := by
  have nDw : ¬ Own (wipeE vs 0 e1) (wipe σ vs) Dd := fun z => nD0 (wiped_own z)
  have mw := S1.wiped vs
  refine ⟨fun i m H' => i ≤ ds.length ∧ m = ds.length - i ∧ ∃ F' e' acc' av, Step (fun b => Own (wipeE vs 0 e1) (wipe σ vs) b ∨ b = Dd) F1 H1 F' H' ∧ Sim B F' e' (wipe σ vs) H' ∧ EnvLe (wipeE vs 0 e1) e' ∧ H' Dd = some (.lst av) ∧ F' Dd = none ∧ RepL B F' acc' av ∧ lc vs g mt me (ds.drop i) acc' e' = .ok accf e2,
    ⟨ds.length, Nat.zero_le _, rfl, F1, wipeE vs 0 e1, acc0, av0, Step.refl _ _ _, mw, EnvLe.refl _, hav0, hfd0, rl0, ql⟩, ?_⟩
  rintro i m H' ⟨hi, rfl, F', e', acc', av, st, sm, le', hav, hfd, rl, hlc⟩
  obtain ⟨it1, it2⟩ := it i F' H' st.le sm.hold
  have own_e : ∀ {b : Addr}, Own e' (wipe σ vs) b → Own (wipeE vs 0 e1) (wipe σ vs) b := fun z => le'.own z
  have nDe : ¬ Own e' (wipe σ vs) Dd := fun z => nDw (own_e z)
  cases q : ds[i]? with
  | none =>
    have e : i = ds.length := by
      have := List.getElem?_eq_none_iff.mp q
      omega
    left
    rw [e, List.drop_length] at hlc
    cases hlc
    exact ⟨it2 e, fin F' H' av st sm le' hav hfd rl⟩
  | some d =>
    right
    obtain ⟨go, yl⟩ := it1 d q
    have hlt : i < ds.length := (List.getElem?_eq_some_iff.mp q).1
    have hd : ds.drop i = d :: ds.drop (i + 1) := by
      rw [List.drop_eq_getElem_cons hlt]
      congr 1
      exact (List.getElem?_eq_some_iff.mp q).2
    rw [hd] at hlc
    refine ⟨go, fun H'' => i + 1 ≤ ds.length ∧ ∃ F' e' acc' av, Step (fun b => Own (wipeE vs 0 e1) (wipe σ vs) b ∨ b = Dd) F1 H1 F' H'' ∧ Sim B F' e' (wipe σ vs) H'' ∧ EnvLe (wipeE vs 0 e1) e' ∧ H'' Dd = some (.lst av) ∧ F' Dd = none ∧ RepL B F' acc' av ∧ lc vs g mt me (ds.drop (i + 1)) acc' e' = .ok accf e2,
      fun H'' z => ⟨ds.length - (i + 1), by omega, z.1, rfl, z.2⟩, fun x H2 y => ?_⟩
    obtain ⟨F2, s2, h2, r2⟩ := yl x H2 y
    have S2 := sm.step0 s2 h2
    have hav2 : H2 Dd = some (.lst av) := s2.keep _ _ hav id
    have hfd2 : F2 Dd = none := by
      cases w : F2 Dd with
      | none => rfl
      | some w' =>
        rcases s2.new _ _ w with y | y | y
        · rw [hfd] at y; cases y
        · rw [hav] at y; cases y
        · exact y.elim
    unfold lc at hlc
    cases qg : g d e' with
    | none => simp only [qg] at hlc; cases hlc
    | some e3 =>
      simp only [qg] at hlc
      refine ⟨F2, e', d, e3, S2, r2, qg, fun σ3 g3 w3 => ?_⟩
      have ws : wipe σ3 vs = wipe σ vs := (wipe_eq (by rw [w3.len, wipe_length]) fun j hj => w3.rest j fun z => hj (hns j z))
      refine ⟨ws, F2, e3, g3.sim, ?_⟩
      have own3 : ∀ {b : Addr}, Own e3 σ3 b → Own (wipeE vs 0 e1) (wipe σ vs) b ∨ H2 b = none := fun z => (g3.owned z).imp own_e id
      have nD3 : ¬ Own e3 σ3 Dd := fun z => by
        rcases own3 z with z | z
        · exact nDw z
        · rw [hav2] at z; cases z
      have st2 : Step (fun b => Own (wipeE vs 0 e1) (wipe σ vs) b ∨ b = Dd) F1 H1 F2 H2 := st.trans (s2.any (own := fun _ => False)) fun _ z => z.elim
      have stp : ∀ {F4 H4 : Hp}, Step (Own e3 σ3) F2 H2 F4 H4 → Step (fun b => Own (wipeE vs 0 e1) (wipe σ vs) b ∨ b = Dd) F1 H1 F4 H4 := fun s4 => st2.trans s4 fun b z => by
        rcases own3 z with z | z
        · exact .inl (.inl z)
        · exact .inr (st2.back z)
      have dk : ∀ (F4 H4 : Hp), Step (Own e3 σ3) F2 H2 F4 H4 → H4 Dd = some (.lst av) ∧ F4 Dd = none := fun F4 H4 s4 => ⟨s4.keep _ _ hav2 nD3, by
        cases w : F4 Dd with
        | none => rfl
        | some w' =>
          rcases s4.new _ _ w with y | y | y
          · rw [hfd2] at y; cases y
          · rw [hav2] at y; cases y
          · exact absurd y nD3⟩
      cases qt : mt e3 with
      | bad => simp only [qt] at hlc; cases hlc
      | exc c d' e4 => simp only [qt] at hlc; cases hlc
      | ok bt e4 =>
        intro F4 H4 s4 m4 l4
        obtain ⟨hav4, hfd4⟩ := dk _ _ s4
        cases bt with
        | false =>
          simp only [qt] at hlc
          refine iteF ⟨hlt, F4, wipeE vs 0 e4, acc', av, stp s4, m4.wiped2 ws, wipeE_le le' (w3.le.trans l4), hav4, hfd4, rl.mono (s2.le.trans s4.le), hlc⟩
        | true =>
          simp only [qt] at hlc
          cases qe : M.bind me frz1 e4 with
          | bad => simp only [qe] at hlc; cases hlc
          | exc c d' e5 => simp only [qe] at hlc; cases hlc
          | ok yv e5 =>
            simp only [qe] at hlc
            refine iteT ⟨F4, e4, m4, ?_⟩
            have pb : Post B WF F4 e4 σ3 H4 (fun d' e' F' H' => d' = yv ∧ e' = e5) (M.bind me frz1 e4) := by
              rw [qe]; exact fun _ _ _ _ _ => ⟨rfl, rfl⟩
            refine (Post.bind m4 pb).mono fun xo e5' F5 H5 s5 m5 l5 k5 v rv => ?_
            obtain ⟨d6, e6, F6, s6, m6, l6, r6, rfl, rfl⟩ := m5.frz1 rv k5
            have s46 : Step (Own e3 σ3) F2 H2 F6 H5 := s4.trans ((s5.trans s6 fun b z => .inl (l5.own z)) : Step (Own e4 σ3) F4 H4 F6 H5) fun b z => .inl (l4.own z)
            obtain ⟨hav5, hfd5⟩ := dk _ _ s46
            have nD6 : ¬ Own e6 σ3 Dd := fun z => nD3 (l4.own (l5.own (l6.own z)))
            have hlen : av.length = acc'.length := rl.length
            have hgr := lc_grow hlc
            rw [List.length_append, List.length_singleton] at hgr
            refine ⟨av, hav5, by omega, hlt, F6, wipeE vs 0 e6, acc' ++ [d6], av ++ [v], ?_, (m6.updD hfd5 nD6).wiped2 ws, wipeE_le le' (w3.le.trans (l4.trans (l5.trans l6))), upd_same, hfd5, (rl.mono (s2.le.trans s46.le)).snoc r6, hlc⟩
            have sf := stp s46
            refine ⟨sf.le, fun b o e n => ?_, sf.new, fun b o e => ?_⟩
            · have hb : b ≠ Dd := fun z => n (.inr z)
              rw [upd_ne hb]; exact sf.keep b o e n
            · by_cases hb : b = Dd
              · exact ⟨_, by rw [hb]; exact upd_same⟩
              · obtain ⟨o', e'⟩ := sf.stay b o e
                exact ⟨o', by rw [upd_ne hb]; exact e'⟩
theorem wipeE_le2 {vs vs1 : List Nat} {e0 e e' : AN.Env} (hv : ∀ i ∈ vs1, i ∈ vs) (h : EnvLe (wipeE vs 0 e0) e) (h' : EnvLe (wipeE vs1 0 e) e') : EnvLe (wipeE vs 0 e0) (wipeE vs 0 e') where
  dn := fun i k o q => by
    obtain ⟨hi, a⟩ := wipeE_some q (fun z => nomatch z)
    obtain ⟨o1, b⟩ := h'.dn i k o a
    obtain ⟨_, c⟩ := wipeE_some b (fun z => nomatch z)
    exact h.dn i k o1 c
  up := fun i o q => by
    obtain ⟨hi, _⟩ := wipeE_some q (fun z => nomatch z)
    obtain ⟨o1, a⟩ := h.up i o q
    obtain ⟨o2, b⟩ := h'.up i o1 (by rw [wipeE_get]; simp only [Nat.zero_add]; rw [if_neg fun z => hi (hv i z)]; exact a)
    exact ⟨o2, by rw [wipeE_get]; simp only [Nat.zero_add]; rw [if_neg hi]; exact b⟩
theorem lc2_read {vs ns vs1 ns1 : List Nat} {mi mi1 : M (List D)} {g g1 : D → AN.Env → Option AN.Env} {mt mt1 : M Bool} {me : M Opd} {Q : VK} (hns : ∀ i ∈ ns, i ∈ vs) (hns1 : ∀ i ∈ ns1, i ∈ vs1) (hv : ∀ i ∈ vs1, i ∈ vs) (h : tO B W (mLC2 vs vs1 mi g mt mi1 g1 mt1 me) σ H Q) :
    tLc2 (tI B W mi) (tG B ns g) (tT B WF mt) (tI B WF mi1) (tG B ns1 g1) (tT B WF mt1) (tE B WF me) vs vs1 σ H Q := by
  obtain ⟨F, env, S, h⟩ := h
  refine ⟨F, env, S, (Post.bind S h).mono fun ds e1 F1 H1 s1 m1 l1 k1 J it Dd hD => ?_⟩
  cases ql : lc2 vs vs1 g mt mi1 g1 mt1 me ds [] (wipeE vs 0 e1) with
  | bad => rw [ql] at k1; exact k1.elim
  | exc c d e' => rw [ql] at k1; exact k1.elim
  | ok acc e2 =>
    rw [ql] at k1
    dsimp only at k1
    by_cases hz : acc.length ≤ sizeLine
    · rw [if_pos hz] at k1
      have nD : ¬ Own e1 σ Dd := fun z => by
        obtain ⟨_, u, hu⟩ := z.ex m1
        rw [hD] at hu; cases hu
      have nDw : ¬ Own (wipeE vs 0 e1) (wipe σ vs) Dd := fun z => nD (wiped_own z)
      have fD : F1 Dd = none := m1.hold.none hD
      obtain ⟨s0, hh0⟩ := step0_mk (u := .lst []) m1.hold hD
      have mw := (m1.step0 s0 hh0).wiped vs
      refine ⟨fun i m H' => i ≤ ds.length ∧ m = ds.length - i ∧ ∃ F' e' acc' av, Step (fun b => Own (wipeE vs 0 e1) (wipe σ vs) b ∨ b = Dd) F1 (upd H1 Dd (.lst [])) F' H' ∧ Sim B F' e' (wipe σ vs) H' ∧ EnvLe (wipeE vs 0 e1) e' ∧ H' Dd = some (.lst av) ∧ F' Dd = none ∧ RepL B F' acc' av ∧ lc2 vs vs1 g mt mi1 g1 mt1 me (ds.drop i) acc' e' = .ok acc e2,
        ⟨ds.length, Nat.zero_le _, rfl, F1, wipeE vs 0 e1, [], [], Step.refl _ _ _, mw, EnvLe.refl _, upd_same, fD, rfl, ql⟩, ?_⟩
      rintro i m H' ⟨hi, rfl, F', e', acc', av, st, sm, le', hav, hfd, rl, hlc⟩
      obtain ⟨it1, it2⟩ := it i F' H' st.le sm.hold
      have own_e : ∀ {b : Addr}, Own e' (wipe σ vs) b → Own (wipeE vs 0 e1) (wipe σ vs) b := fun z => le'.own z
      have nDe : ¬ Own e' (wipe σ vs) Dd := fun z => nDw (own_e z)
      cases q : ds[i]? with
      | none =>
        have e : i = ds.length := by
          have := List.getElem?_eq_none_iff.mp q
          omega
        left
        rw [e, List.drop_length] at hlc
        cases hlc
        refine ⟨it2 e, ?_⟩
        have stt : Step (Own e1 σ) F1 H1 F' H' := (s0.any (own := Own e1 σ)).trans st fun b z => by
          rcases z with z | z
          · exact .inl (wiped_own z)
          · exact .inr (by rw [z]; exact hD)
        obtain ⟨sr, lr⟩ := m1.rest sm le' st.le (fun b o e n => by
            by_cases hb : b = Dd
            · rw [hb, hD] at e; cases e
            · exact st.keep b o (by rw [upd_ne hb]; exact e) fun z => z.elim n hb) (fun j k o b hj z1 z2 => by
            obtain ⟨z3, u, hu⟩ := Own.ex m1 ⟨j, k, o, z1, z2⟩
            have hb : b ≠ Dd := fun y => by rw [y, hD] at hu; cases hu
            cases w : F' b with
            | none => rfl
            | some w' =>
              rcases st.new b w' w with y | y | y
              · rw [z3] at y; cases y
              · rw [upd_ne hb, hu] at y; cases y
              · rcases y with ⟨j', k', o', q1, q2⟩ | y
                · obtain ⟨hj', q3⟩ := wipeE_some q1 (fun z => nomatch z)
                  rw [wipe_get hj'] at q2
                  have := m1.sep j j' k o k' o' b z1 q3 z2 q2
                  subst this
                  exact absurd hj hj'
                · exact absurd y hb)
        exact k1 F' H' stt sr lr Dd (s1.back hD) hfd ⟨hz, av, hav, rl⟩
      | some d =>
        right
        obtain ⟨go, yl⟩ := it1 d q
        have hlt : i < ds.length := (List.getElem?_eq_some_iff.mp q).1
        have hd : ds.drop i = d :: ds.drop (i + 1) := by
          rw [List.drop_eq_getElem_cons hlt]
          congr 1
          exact (List.getElem?_eq_some_iff.mp q).2
        rw [hd] at hlc
        refine ⟨go, fun H'' => i + 1 ≤ ds.length ∧ ∃ F' e' acc' av, Step (fun b => Own (wipeE vs 0 e1) (wipe σ vs) b ∨ b = Dd) F1 (upd H1 Dd (.lst [])) F' H'' ∧ Sim B F' e' (wipe σ vs) H'' ∧ EnvLe (wipeE vs 0 e1) e' ∧ H'' Dd = some (.lst av) ∧ F' Dd = none ∧ RepL B F' acc' av ∧ lc2 vs vs1 g mt mi1 g1 mt1 me (ds.drop (i + 1)) acc' e' = .ok acc e2,
          fun H'' z => ⟨ds.length - (i + 1), by omega, z.1, rfl, z.2⟩, fun x H2 y => ?_⟩
        obtain ⟨F2, s2, h2, r2⟩ := yl x H2 y
        have S2 := sm.step0 s2 h2
        have hav2 : H2 Dd = some (.lst av) := s2.keep _ _ hav id
        have hfd2 : F2 Dd = none := by
          cases w : F2 Dd with
          | none => rfl
          | some w' =>
            rcases s2.new _ _ w with y | y | y
            · rw [hfd] at y; cases y
            · rw [hav] at y; cases y
            · exact y.elim
        unfold lc2 at hlc
        cases qg : g d e' with
        | none => simp only [qg] at hlc; cases hlc
        | some e3 =>
          simp only [qg] at hlc
          refine ⟨F2, e', d, e3, S2, r2, qg, fun σ3 g3 w3 => ?_⟩
          have ws : wipe σ3 vs = wipe σ vs := wipe_eq (by rw [w3.len, wipe_length]) fun j hj => w3.rest j fun z => hj (hns j z)
          refine ⟨ws, F2, e3, g3.sim, ?_⟩
          have own3 : ∀ {b : Addr}, Own e3 σ3 b → Own (wipeE vs 0 e1) (wipe σ vs) b ∨ H2 b = none := fun z => (g3.owned z).imp own_e id
          have nD3 : ¬ Own e3 σ3 Dd := fun z => by
            rcases own3 z with z | z
            · exact nDw z
            · rw [hav2] at z; cases z
          have st2 : Step (fun b => Own (wipeE vs 0 e1) (wipe σ vs) b ∨ b = Dd) F1 (upd H1 Dd (.lst [])) F2 H2 := st.trans (s2.any (own := fun _ => False)) fun _ z => z.elim
          have stp : ∀ {F4 H4 : Hp}, Step (Own e3 σ3) F2 H2 F4 H4 → Step (fun b => Own (wipeE vs 0 e1) (wipe σ vs) b ∨ b = Dd) F1 (upd H1 Dd (.lst [])) F4 H4 := fun s4 => st2.trans s4 fun b z => by
            rcases own3 z with z | z
            · exact .inl (.inl z)
            · exact .inr (st2.back z)
          have dk : ∀ (F4 H4 : Hp), Step (Own e3 σ3) F2 H2 F4 H4 → H4 Dd = some (.lst av) ∧ F4 Dd = none := fun F4 H4 s4 => ⟨s4.keep _ _ hav2 nD3, by
            cases w : F4 Dd with
            | none => rfl
            | some w' =>
              rcases s4.new _ _ w with y | y | y
              · rw [hfd2] at y; cases y
              · rw [hav2] at y; cases y
              · exact absurd y nD3⟩
          cases qt : mt e3 with
          | bad => simp only [qt] at hlc; cases hlc
          | exc c d' e4 => simp only [qt] at hlc; cases hlc
          | ok bt e4 =>
            intro F4 H4 s4 m4 l4
            obtain ⟨hav4, hfd4⟩ := dk _ _ s4
            cases bt with
            | false =>
              simp only [qt] at hlc
              refine iteF ⟨hlt, F4, wipeE vs 0 e4, acc', av, stp s4, m4.wiped2 ws, wipeE_le le' (w3.le.trans l4), hav4, hfd4, rl.mono (s2.le.trans s4.le), hlc⟩
            | true =>
              simp only [qt] at hlc
              cases qi : mi1 e4 with
              | bad => simp only [qi] at hlc; cases hlc
              | exc c d' e5 => simp only [qi] at hlc; cases hlc
              | ok ds1 e5 =>
                simp only [qi] at hlc
                cases q4 : lc vs1 g1 mt1 me ds1 acc' (wipeE vs1 0 e5) with
                | bad => simp only [q4] at hlc; cases hlc
                | exc c x y => simp only [q4] at hlc; cases hlc
                | ok acc2 e6 =>
                  simp only [q4] at hlc
                  refine iteT ⟨F4, e4, m4, ?_⟩
                  rw [qi]
                  intro F5 H5 s5 m5 l5 J1 it1
                  have s45 : Step (Own e3 σ3) F2 H2 F5 H5 := s4.trans s5 fun b z => .inl (l4.own z)
                  obtain ⟨hav5, hfd5⟩ := dk _ _ s45
                  have nD5 : ¬ Own e5 σ3 Dd := fun z => nD3 (l4.own (l5.own z))
                  refine lc_inner hns1 it1 m5 hav5 hfd5 nD5 (rl.mono (s2.le.trans s45.le)) q4 (Nat.le_trans (lc2_grow hlc) hz) fun F6 H6 av6 s6 m6 l6 hav6 hfd6 rl6 => ?_
                  have sf := stp s45
                  have w63 : wipe (wipe σ3 vs1) vs = wipe σ vs := (wipe_wipe hv).trans ws
                  refine ⟨hlt, F6, wipeE vs 0 e6, acc2, av6, sf.trans s6 fun b z => ?_, m6.wiped2 w63, wipeE_le2 hv (le'.trans (w3.le.trans (l4.trans l5))) l6, hav6, hfd6, rl6, hlc⟩
                  rcases z with z | z
                  · rcases own3 (l4.own (l5.own (wiped_own z))) with y | y
                    · exact .inl (.inl y)
                    · exact .inr (st2.back y)
                  · exact .inl (.inr z)
    · rw [if_neg hz] at k1; exact k1.elim
section
variable {elt tg iter tg1 iter1 : Expr} {ifs ifs1 : List Expr} {scope : Scope} {own : List (Str × Nat)} {pos : Pos} {mi mi1 : M (List D)} {ns vs1 ns1 : List Nat} {g g1 : D → AN.Env → Option AN.Env} {mt mt1 : M Bool} {me : M Opd}
theorem do_lc2 (vs1 : List Nat) (hc : X.calm = true) (hN : X.N.Nodup) (hi : DI B X W tg iter mi) (ok : blkC X.N X.env.scope scope own = true)
    (hg : ∀ (s : Shared) (H : Hp) (C : Addr) (cl : List (Str × Addr)) (fp : List Addr), DG B (X.blk s H scope (compEnvC scope cl C X.env) fp) tg ns g)
    (ht : ∀ (s : Shared) (H : Hp) (C : Addr) (cl : List (Str × Addr)) (fp : List Addr), DTs B (X.blk s H scope (compEnvC scope cl C X.env) fp) WF ifs mt)
    (hi1 : ∀ (s : Shared) (H : Hp) (C : Addr) (cl : List (Str × Addr)) (fp : List Addr), DI B (X.blk s H scope (compEnvC scope cl C X.env) fp) WF tg1 iter1 mi1)
    (hg1 : ∀ (s : Shared) (H : Hp) (C : Addr) (cl : List (Str × Addr)) (fp : List Addr), DG B (X.blk s H scope (compEnvC scope cl C X.env) fp) tg1 ns1 g1)
    (ht1 : ∀ (s : Shared) (H : Hp) (C : Addr) (cl : List (Str × Addr)) (fp : List Addr), DTs B (X.blk s H scope (compEnvC scope cl C X.env) fp) WF ifs1 mt1)
    (he : ∀ (s : Shared) (H : Hp) (C : Addr) (cl : List (Str × Addr)) (fp : List Addr), DE B (X.blk s H scope (compEnvC scope cl C X.env) fp) WF elt me)
    (hns : ∀ i ∈ ns, i ∈ own.map (·.2)) (hns1 : ∀ i ∈ ns1, i ∈ vs1) (hv : ∀ i ∈ vs1, i ∈ own.map (·.2)) (hs : ∀ x, foldedSetIterable iter X.env x = pure x := by intro _; rfl) (hs1 : ∀ env x, foldedSetIterable iter1 env x = pure x := by intro _ _; rfl) :
    DO B X W (.ListComp elt [⟨tg, iter, ifs, 0⟩, ⟨tg1, iter1, ifs1, 0⟩] scope pos) (mLC2 (own.map (·.2)) vs1 mi g mt mi1 g1 mt1 me) :=
  PE.imp (pe_lc2 hc hN hi (blkOk_by ok) hv hg ht hi1 hg1 ht1 he hs hs1) fun σ H Q h => lc2_read hns hns1 hv h
theorem ds_setLc2 (i : Nat) (vs1 : List Nat) {y : Str} {py spos : Pos} (hc : X.calm = true) (hN : X.N.Nodup) (hi : DI B X W tg iter mi) (ok : blkC X.N X.env.scope scope own = true)
    (hg : ∀ (s : Shared) (H : Hp) (C : Addr) (cl : List (Str × Addr)) (fp : List Addr), DG B (X.blk s H scope (compEnvC scope cl C X.env) fp) tg ns g)
    (ht : ∀ (s : Shared) (H : Hp) (C : Addr) (cl : List (Str × Addr)) (fp : List Addr), DTs B (X.blk s H scope (compEnvC scope cl C X.env) fp) WF ifs mt)
    (hi1 : ∀ (s : Shared) (H : Hp) (C : Addr) (cl : List (Str × Addr)) (fp : List Addr), DI B (X.blk s H scope (compEnvC scope cl C X.env) fp) WF tg1 iter1 mi1)
    (hg1 : ∀ (s : Shared) (H : Hp) (C : Addr) (cl : List (Str × Addr)) (fp : List Addr), DG B (X.blk s H scope (compEnvC scope cl C X.env) fp) tg1 ns1 g1)
    (ht1 : ∀ (s : Shared) (H : Hp) (C : Addr) (cl : List (Str × Addr)) (fp : List Addr), DTs B (X.blk s H scope (compEnvC scope cl C X.env) fp) WF ifs1 mt1)
    (he : ∀ (s : Shared) (H : Hp) (C : Addr) (cl : List (Str × Addr)) (fp : List Addr), DE B (X.blk s H scope (compEnvC scope cl C X.env) fp) WF elt me)
    (hns : ∀ i ∈ ns, i ∈ own.map (·.2)) (hns1 : ∀ i ∈ ns1, i ∈ vs1) (hv : ∀ i ∈ vs1, i ∈ own.map (·.2)) (hsw : swapsWith (.ListComp elt [⟨tg, iter, ifs, 0⟩, ⟨tg1, iter1, ifs1, 0⟩] scope pos) (some (.Name y py)) spos.line X.env = pure true) (hy : X.N[i]? = some y := by rfl) (hyl : X.env.scope.names.lookup y = some .local := by rfl) (hs : ∀ x, foldedSetIterable iter X.env x = pure x := by intro _; rfl) (hs1 : ∀ env x, foldedSetIterable iter1 env x = pure x := by intro _ _; rfl) :
    DS B X W (.Assign [.Name y py] (.ListComp elt [⟨tg, iter, ifs, 0⟩, ⟨tg1, iter1, ifs1, 0⟩] scope pos) spos) (mSet i (mFz (mLC2 (own.map (·.2)) vs1 mi g mt mi1 g1 mt1 me))) :=
  PS.imp (ps_setLc2 hc hN hy hyl hsw hi (blkOk_by ok) hv hg ht hi1 hg1 ht1 he hs hs1) fun D σ H h => lc2_read hns hns1 hv (fz_read (tset_ok h))
end
end
theorem comp2_ok {vs vs1 : List Nat} {it mi1 : M (List D)} {g g1 : D → AN.Env → Option AN.Env} {mt mt1 : M Bool} {me : M Opd} {ds acc : List D} {e e1 e2 e3 : AN.Env} (h : it e = .ok ds e1) (h2 : lc2 vs vs1 g mt mi1 g1 mt1 me ds [] (wipeE vs 0 e1) = .ok acc e2) (hz : acc.length ≤ sizeLine) (h3 : restE vs 0 e1 e2 = e3) : mLC2 vs vs1 it g mt mi1 g1 mt1 me e = .ok (.lst acc) e3 := by
  show R.th (it e) _ = _
  rw [h, th_ok, h2]
  dsimp only
  rw [if_pos hz, h3]
end AN

set_option Elab.async false
set_option maxRecDepth 100000
set_option autoImplicit false
set_option linter.unusedVariables false
/-! a, b, c = x, y, z -/
namespace AN
open PySem PySem.Spec PyProof.Rows L2
section
variable {B : Bx} {X : Cx} {W : WX} {F H : Hp} {env : AN.Env} {σ : L2.St} {a b c : Expr} {pos : Pos} {ms : M (List Opd)}
theorem puts3 {i j l : Nat} {ds : List D} {vs : List V} {e' : AN.Env} (S : Sim B F env σ H) (r : RepL B F ds vs) (h : puts [i, j, l] ds env = some e') : ∃ u v w, vs = [u, v, w] ∧ Go B F env σ H F e' (((σ.set i (some u)).set j (some v)).set l (some w)) H := by
  match ds, r, h with
  | [d1, d2, d3], r, h =>
    obtain ⟨u, r', rfl, a1, r⟩ := r
    obtain ⟨v, r', rfl, a2, r⟩ := r
    obtain ⟨w, r', rfl, a3, r⟩ := r
    cases (show r' = [] from r)
    obtain ⟨e1, h1, h⟩ := Option.bind_eq_some_iff.mp h
    obtain ⟨e2, h2, h⟩ := Option.bind_eq_some_iff.mp h
    obtain ⟨e3, h3, h⟩ := Option.bind_eq_some_iff.mp h
    cases h
    obtain ⟨⟨s0, b0⟩, b1, rfl⟩ := gN_ok h1
    have g1 := S.setD b0 b1 a1
    obtain ⟨⟨s1, c0⟩, c1, rfl⟩ := gN_ok h2
    have g2 := g1.sim.setD c0 c1 a2
    obtain ⟨⟨s2, f0⟩, f1, rfl⟩ := gN_ok h3
    exact ⟨u, v, w, rfl, g1.trans (g2.trans (g2.sim.setD f0 f1 a3))⟩
  | [], r, h => cases h
  | [_], r, h =>
    obtain ⟨e1, h1, h⟩ := Option.bind_eq_some_iff.mp h
    cases h
  | [_, _], r, h =>
    obtain ⟨e1, h1, h⟩ := Option.bind_eq_some_iff.mp h
    obtain ⟨e2, h2, h⟩ := Option.bind_eq_some_iff.mp h
    cases h
  | _ :: _ :: _ :: _ :: _, r, h =>
    obtain ⟨e1, h1, h⟩ := Option.bind_eq_some_iff.mp h
    obtain ⟨e2, h2, h⟩ := Option.bind_eq_some_iff.mp h
    obtain ⟨e3, h3, h⟩ := Option.bind_eq_some_iff.mp h
    cases h
theorem ds_par3 (i j l : Nat) {x y z : Str} {px py pz pt : Pos} {kt k2 pt2} (hc : X.calm = true) (hN : X.N.Nodup) (ha : DA B X W [a, b, c] ms) (hi : X.N[i]? = some x := by rfl) (hj : X.N[j]? = some y := by rfl) (hl : X.N[l]? = some z := by rfl) (hij : i ≠ j := by decide) (hil : i ≠ l := by decide) (hjl : j ≠ l := by decide)
    (hx : X.env.scope.names.lookup x = some .local := by rfl) (hy : X.env.scope.names.lookup y = some .local := by rfl) (hz : X.env.scope.names.lookup z = some .local := by rfl)
    (hw : swappedStores [.Tuple [.Name x px, .Name y py, .Name z pz] kt pt] (.Tuple [a, b, c] k2 pt2) X.env = pure (some [x, y, z]) := by rfl)
    (hs : swapsWithSole [.Tuple [.Name x px, .Name y py, .Name z pz] kt pt] (.Tuple [a, b, c] k2 pt2) pos.line X.env = pure false := by rfl) :
    DS B X W (.Assign [.Tuple [.Name x px, .Name y py, .Name z pz] kt pt] (.Tuple [a, b, c] k2 pt2) pos) (mPar [i, j, l] ms) := PS.imp (ps_par3 hc hN hi hj hl hij hil hjl hx hy hz ha hw hs) fun D σ H h => by
  obtain ⟨F, env, S, h⟩ := h
  refine ⟨F, env, S, h.bind.mono fun xs e1 F1 H1 s1 m1 o1 k1 vs rvs => ?_⟩
  obtain ⟨ds, e2, F2, s2, m2, o2, r2, k2⟩ := m1.frzs rvs k1.bind
  cases q : puts [i, j, l] ds e2 with
  | none => simp only [q] at k2; exact k2.elim
  | some e3 =>
    simp only [q] at k2
    obtain ⟨u, v, w, rfl, g⟩ := puts3 m2 r2 q
    exact ⟨u, v, w, rfl, k2 _ _ _ g⟩
end
theorem par_ok {ts : List Nat} {ms : M (List Opd)} {xs : List Opd} {ds : List D} {e e1 e2 e3 : AN.Env} (h : ms e = .ok xs e1) (h1 : frzs xs e1 = .ok ds e2) (h2 : puts ts ds e2 = some e3) : mPar ts ms e = .ok .nx e3 := by
  rw [mPar_r, h, th_ok, h1, th_ok, h2]; rfl
/-- a part of a list, chosen turn by turn; what else changes is a state -/
theorem lc_sub {α σ : Type} {enc : α → D} {vs : List Nat} {g : D → AN.Env → Option AN.Env} {mt : M Bool} {me : M Opd} (E : σ → AN.Env) (I : σ → Prop) (P : α → Prop) : ∀ {xs : List α} {acc : List D} {s : σ}, I s →
    (∀ x ∈ xs, ∀ s, I s → ∃ e1 b e2 s', g (enc x) (E s) = some e1 ∧ mt e1 = .ok b e2 ∧ I s' ∧ (b = false → wipeE vs 0 e2 = E s') ∧ (b = true → P x ∧ ∃ e3, M.bind me frz1 e2 = .ok (enc x) e3 ∧ wipeE vs 0 e3 = E s')) →
    ∃ (ys : List α) (s' : σ), lc vs g mt me (xs.map enc) acc (E s) = .ok (acc ++ ys.map enc) (E s') ∧ I s' ∧ ys.Sublist xs ∧ ∀ y ∈ ys, P y
  | [], acc, s, h, _ => ⟨[], s, by simp [lc], h, List.Sublist.refl _, fun y hy => by cases hy⟩
  | x :: xs, acc, s, h, st => by
    obtain ⟨e1, b, e2, s1, h1, h2, h3, h4, h5⟩ := st x (by simp) s h
    cases b with
    | false =>
      obtain ⟨ys, s', i1, i2, i3, i4⟩ := lc_sub E I P (xs := xs) (acc := acc) h3 fun y hy => st y (by simp [hy])
      refine ⟨ys, s', ?_, i2, i3.cons x, i4⟩
      simp only [List.map_cons, lc, h1, h2, h4 rfl, i1]
    | true =>
      obtain ⟨p, e3, h6, h7⟩ := h5 rfl
      obtain ⟨ys, s', i1, i2, i3, i4⟩ := lc_sub E I P (xs := xs) (acc := acc ++ [enc x]) h3 fun y hy => st y (by simp [hy])
      refine ⟨x :: ys, s', ?_, i2, i3.cons_cons x, fun y hy => ?_⟩
      · simp only [List.map_cons, lc, h1, h2, h6, h7, i1, List.append_assoc, List.cons_append, List.nil_append]
      · rcases List.mem_cons.mp hy with rfl | q
        · exact p
        · exact i4 y q
theorem bindf_ok {ma : M Opd} {e e1 : AN.Env} {d : D} (h : ma e = .ok (.d d) e1) : M.bind ma frz1 e = .ok d e1 := by rw [bind_r, h, th_ok]; rfl
theorem if_t {α : Type} {t : M Bool} {m n : M α} {e e1 : AN.Env} {r : R α} (h : t e = .ok true e1) (h2 : m e1 = r) : mIf t m n e = r := by rw [mIf_r, h, th_ok, if_pos rfl]; exact h2
theorem if_f {α : Type} {t : M Bool} {m n : M α} {e e1 : AN.Env} {r : R α} (h : t e = .ok false e1) (h2 : n e1 = r) : mIf t m n e = r := by rw [mIf_r, h, th_ok, if_neg Bool.false_ne_true]; exact h2
theorem app_ok {i : Nat} {ma : M Opd} {e e1 : AN.Env} {d : D} {k : Bool} {xs : List D} (h : ma e = .ok (.d d) e1) (h0 : ∃ k ys, e[i]? = some (.ow k (.lst ys))) (h1 : e1[i]? = some (.ow k (.lst xs))) (hz : xs.length < sizeLine) : mApp i ma e = .ok .nx (e1.set i (.ow k (.lst (xs ++ [d])))) := by
  obtain ⟨k0, ys, h0⟩ := h0
  rw [mApp_r]
  simp only [chkL, h0, th_ok, h, frz1_d, appAt, h1, if_pos hz]
theorem enum_ok {ma : M Opd} {e e1 : AN.Env} {d : D} {ds : List D} (h : ma e = .ok (.d d) e1) (h2 : enumOfT d = some ds) : mEnumT ma e = .ok ds e1 := by
  rw [mEnumT_r, h, th_ok, frz1_d, th_ok, h2]; rfl
theorem lstIx {xs : List D} {i : Int} {n : Nat} {d : D} (e : i = (n : Nat)) (h : xs[n]? = some d) : dIxK (.lst xs) (.int i) = some d := by
  subst e
  show L2.atI _ _ = _
  unfold L2.atI ixN
  have := (List.getElem?_eq_some_iff.mp h).1
  rw [if_pos (by omega), if_pos (by omega)]
  simpa using h
theorem tupIx {xs : List D} {i : Int} {n : Nat} {d : D} (e : i = (n : Nat)) (h : xs[n]? = some d) : dIxK (.tup xs) (.int i) = some d := by
  subst e
  show L2.atI _ _ = _
  unfold L2.atI ixN
  have := (List.getElem?_eq_some_iff.mp h).1
  rw [if_pos (by omega), if_pos (by omega)]
  simpa using h
theorem lcF {α : Type} {vs : List Nat} {g : D → AN.Env → Option AN.Env} {mt : M Bool} {me : M Opd} {E : AN.Env} {h h' : α → D} {p : α → Bool} (mk : α → AN.Env) : ∀ {xs : List α} {acc : List D}, (∀ a ∈ xs, g (h a) E = some (mk a) ∧ mt (mk a) = .ok (p a) (mk a) ∧ (p a = true → M.bind me frz1 (mk a) = .ok (h' a) (mk a)) ∧ wipeE vs 0 (mk a) = E) → lc vs g mt me (xs.map h) acc E = .ok (acc ++ (xs.filter p).map h') E
  | [], acc, _ => by simp [lc]
  | a :: xs, acc, s => by
    obtain ⟨s1, s2, s3, s4⟩ := s a (by simp)
    have ih := fun acc => lcF (vs := vs) (g := g) (mt := mt) (me := me) (E := E) (h := h) (h' := h') (p := p) mk (xs := xs) (acc := acc) fun b hb => s b (by simp [hb])
    rw [List.map_cons, List.filter_cons]
    cases q : p a with
    | true =>
      rw [q] at s2
      simp only [lc, s1, s2, s3 q, s4, ih, if_true, List.map_cons, List.append_assoc, List.cons_append, List.nil_append]
    | false =>
      rw [q] at s2
      simp only [lc, s1, s2, s4, ih, Bool.false_eq_true, if_false]
theorem lcM {α : Type} {vs : List Nat} {g : D → AN.Env → Option AN.Env} {me : M Opd} {E : AN.Env} {h h' : α → D} (mk : α → AN.Env) {xs : List α} {acc : List D} (s : ∀ a ∈ xs, g (h a) E = some (mk a) ∧ M.bind me frz1 (mk a) = .ok (h' a) (mk a) ∧ wipeE vs 0 (mk a) = E) : lc vs g (M.pure true) me (xs.map h) acc E = .ok (acc ++ xs.map h') E := by
  have := lcF (vs := vs) (g := g) (mt := M.pure true) (me := me) (E := E) (h := h) (h' := h') (p := fun _ => true) mk (xs := xs) (acc := acc) fun a ha => ⟨(s a ha).1, rfl, fun _ => (s a ha).2.1, (s a ha).2.2⟩
  rw [this, List.filter_eq_self.mpr (fun _ _ => rfl)]
theorem lc2M {α β : Type} {vs vs1 : List Nat} {g g1 : D → AN.Env → Option AN.Env} {mi1 : M (List D)} {me : M Opd} {E : AN.Env} {enc : α → D} {enc1 : β → D} {f : α → List β} {h : α → β → D} (mk : α → AN.Env) (mk1 : α → β → AN.Env) : ∀ {xs : List α} {acc : List D},
    (∀ a ∈ xs, g (enc a) E = some (mk a) ∧ mi1 (mk a) = .ok ((f a).map enc1) (mk a) ∧ wipeE vs1 0 (mk a) = mk a ∧ wipeE vs 0 (mk a) = E ∧ ∀ b ∈ f a, g1 (enc1 b) (mk a) = some (mk1 a b) ∧ M.bind me frz1 (mk1 a b) = .ok (h a b) (mk1 a b) ∧ wipeE vs1 0 (mk1 a b) = mk a) →
    lc2 vs vs1 g (M.pure true) mi1 g1 (M.pure true) me (xs.map enc) acc E = .ok (acc ++ xs.flatMap fun a => (f a).map (h a)) E
  | [], acc, _ => by simp [lc2]
  | a :: xs, acc, s => by
    obtain ⟨s1, s2, s3, s4, s5⟩ := s a (by simp)
    have i := lcM (vs := vs1) (g := g1) (me := me) (E := mk a) (h := enc1) (h' := h a) (mk1 a) (xs := f a) (acc := acc) s5
    have ih := lc2M mk mk1 (vs := vs) (vs1 := vs1) (g := g) (g1 := g1) (mi1 := mi1) (me := me) (E := E) (enc := enc) (enc1 := enc1) (f := f) (h := h) (xs := xs) (acc := acc ++ (f a).map (h a)) fun b hb => s b (by simp [hb])
    simp only [List.map_cons, lc2, s1, pure_r, s2, s3, i, s4, ih, List.flatMap_cons, List.append_assoc]
end AN

set_option Elab.async false
set_option maxRecDepth 100000
set_option autoImplicit false
set_option linter.unusedVariables false
/-! a.split(b), b a text that is not empty -/
namespace AN
open PySem PySem.Spec PyProof.Rows L2
def oSplit : D → D → Option O
  | .str a, .str b => if (!(b.length == 0) && decide (a.length + 2 ≤ sizeLine) && decide ((Txt.split a b).length ≤ sizeLine) && (Txt.split a b).all fun s => decide (s.length ≤ sizeLine) && PyData.strOk s) = true then some (.lst ((Txt.split a b).map .str)) else none
  | _, _ => none
def mM1O (g : D → D → Option O) (m n : M Opd) : M O := M.bind m fun x => M.bind (ap1 strChk x) fun _ => M.bind n fun y => ap2 g x y
section
variable {B : Bx} {X : Cx} {W : WX} {F H : Hp} {env : AN.Env} {σ : L2.St} {Q : VK} {a b : Expr} {ma mb : M Opd} {pos : Pos}
theorem m1_readO {g : D → D → Option O} {r : V → List V → Hp → VK → Prop} (hp : PrimO2 B g (fun x y H Q => r x [y] H Q)) (h : tO B W (mM1O g ma mb) σ H Q) : tM1 r (tE B W ma) (tE B W mb) σ H Q := by
  obtain ⟨F, env, S, h⟩ := h
  refine tE.one S h fun x e1 F1 H1 v s1 m1 o1 rv k1 => ?_
  obtain ⟨a, z, ea, ez, k2⟩ := (Post.bind m1 k1).ap1
  have sa := m1.view rv ea
  have hx : ∃ s, v = .str s := by
    cases a with
    | str s => obtain ⟨rfl, _⟩ := sa; exact ⟨s, rfl⟩
    | _ => cases ez
  refine ⟨hx, ?_⟩
  refine tE.one m1 (Post.here m1 k2) fun y e2 F2 H2 w s2 m2 o2 rw k3 => ?_
  obtain ⟨a', b, z', ea', eb, ez', k4⟩ := k3.ap2
  refine hp F2 H2 a' b z' v w Q m2.hold (m2.view (rv.mono s2.le) ea') (m2.view rw eb) ez' fun p H3 s3 h3 hn ho => ?_
  have m3 := m2.step0 s3 h3
  exact k4 F2 H3 s3.any m3 (EnvLe.refl _) p (s1.back (s2.back hn)) (m2.hold.none hn) ho
theorem repL_strs : ∀ {ys : List Str}, (∀ s ∈ ys, okS s) → RepL B F (ys.map .str) (ys.map .str)
  | [], _ => rfl
  | y :: ys, h => ⟨_, _, rfl, ⟨rfl, h y (by simp)⟩, repL_strs fun s hs => h s (by simp [hs])⟩
theorem do_split {apos : Pos} (ha : DE B X W a ma) (hb : DE B X W b mb) (hs : starEach [b] X.env = [(false, eval b X.env)] := by rfl) (hbase : attributeBase a "split" X.env (eval a X.env) = eval a X.env := by rfl) (hline : (apos.endLine == pos.line) = true := by rfl) :
    DO B X W (.Call (.Attribute a "split" apos) [b] [] pos) (mM1O oSplit ma mb) := PE.imp (pe_split ha hb hs hbase hline) fun σ H Q h => m1_readO (fun F H a b o x y Q hh sa sb e q => by
    cases a with
    | str s =>
      cases b with
      | str t =>
        obtain ⟨rfl, _⟩ := sa
        obtain ⟨rfl, _⟩ := sb
        dsimp only [oSplit] at e
        by_cases g : (!(t.length == 0) && decide (s.length + 2 ≤ sizeLine) && decide ((Txt.split s t).length ≤ sizeLine) && (Txt.split s t).all fun s => decide (s.length ≤ sizeLine) && PyData.strOk s) = true
        · rw [if_pos g] at e
          cases e
          simp only [Bool.and_eq_true, decide_eq_true_eq, List.all_eq_true, Bool.not_eq_true'] at g
          obtain ⟨⟨⟨g1, g2⟩, g3⟩, g4⟩ := g
          refine ⟨s, t, rfl, rfl, g1, g2, fun l hl => ?_⟩
          obtain ⟨s3, h3⟩ := step0_mk (u := .lst ((Txt.split s t).map V.str)) hh hl
          exact q l _ s3 h3 hl ⟨by rw [List.length_map]; exact g3, _, upd_same, repL_strs fun z hz => g4 z hz⟩
        · rw [if_neg g] at e; cases e
      | _ => cases e
    | _ => cases e) h
@[simp] theorem mM1O_r {g : D → D → Option O} {e : AN.Env} : mM1O g ma mb e = R.th (ma e) fun x e => R.th (ap1 strChk x e) fun _ e => R.th (mb e) fun y e => ap2 g x y e := rfl
end
end AN

set_option Elab.async false
set_option maxRecDepth 100000
set_option autoImplicit false
set_option linter.unusedVariables false
/-! fixed tuples and tables of the module -/
namespace AN
open PySem PySem.Spec PyProof.Rows L2
inductive CsOk (B : Bx) : List Value → List D → Prop
  | nil : CsOk B [] []
  | cons {u : Value} {r : List Value} {d : D} {t : List D} (hv : ∃ v, RelV v u ∧ ∀ F : Hp, Rep B F d v) (h : CsOk B r t) : CsOk B (u :: r) (d :: t)
theorem CsOk.rep {B : Bx} {us : List Value} {ds : List D} (h : CsOk B us ds) : us.length = ds.length ∧ ∃ vs, Vals vs us ∧ ∀ F : Hp, RepL B F ds vs := by
  induction h with
  | nil => exact ⟨rfl, [], .nil, fun _ => rfl⟩
  | cons hv h ih =>
    obtain ⟨v, rv, rep⟩ := hv
    obtain ⟨l, vs, r, reps⟩ := ih
    exact ⟨by simp [l], v :: vs, .cons rv r, fun F => ⟨_, _, rfl, rep F, reps F⟩⟩
theorem con_tup {B : Bx} {a : Addr} {od : Option Addr} {its : Array Value} {n : Nat} {sl : Array (Option Value)} {ds : List D} (l : B.K.lookup a = some ⟨.type "tuple", od, .seq its n, sl⟩) (h : CsOk B its.toList ds) (hz : ds.length ≤ sizeLine) : ∃ v, RelV v (.ref a) ∧ ∀ F : Hp, Rep B F (.tup ds) v := by
  obtain ⟨e, vs, r, reps⟩ := h.rep
  exact ⟨.ref a, rfl, fun F => ⟨a, vs, rfl, .inr (.inr ⟨_, its, n, l, rfl, rfl, by rw [← Array.length_toList, e]; exact hz, r⟩), hz, reps F⟩⟩
theorem con_str {B : Bx} {s : Str} {t : Tok} (h : okS s) : ∃ v, RelV v (.str s t) ∧ ∀ F : Hp, Rep B F (.str s) v := ⟨.str s, ⟨t, rfl⟩, fun _ => ⟨rfl, h⟩⟩
theorem con_int {B : Bx} {i : Int} {t : Tok} : ∃ v, RelV v (.int i t) ∧ ∀ F : Hp, Rep B F (.int i) v := ⟨.int i, ⟨t, rfl⟩, fun _ => rfl⟩
theorem con_bl {B : Bx} {b : Bool} : ∃ v, RelV v (.bool b) ∧ ∀ F : Hp, Rep B F (.bl b) v := ⟨.bl b, rfl, fun _ => rfl⟩
def dTabAt (tb : List (Str × D)) : D → Option D
  | .str z => tb.lookup z
  | _ => none
def dTabIn (neg : Bool) (tb : List (Str × D)) : D → Option D
  | .str z => some (.bl (if neg then !(tb.lookup z).isSome else (tb.lookup z).isSome))
  | _ => none
section
variable {B : Bx} {X : Cx} {W : WX} {F H : Hp} {env : AN.Env} {σ : L2.St} {Q : VK} {e f : Expr} {me mf : M Opd} {pos p apos : Pos} {x : Str} {a : Addr} {tb : List (Str × D)}
theorem de_gV {d : D} (h : ∃ u, X.mg x = some u ∧ ∃ v, RelV v u ∧ ∀ F : Hp, Rep B F d v) (hg : Gl X x := by rfl) (hd : (x == ("__debug__" : Str)) = false := by decide) : DE B X W (.Name x pos) (mC d) := by
  obtain ⟨u, h, v, r, hv⟩ := h
  exact de_glob hg h r hv hd
def rTabAt (B : Bx) (a : Addr) (tb : List (Str × D)) : R2 := fun x y H Q => x = .ref a ∧ ∃ z d, y = .str z ∧ tb.lookup z = some d ∧ ∀ v, (∀ F : Hp, Rep B F d v) → Q v H
theorem ix_ktab (T : KTab X.K X.w B a tb) : IxR X (rTabAt B a tb) := by
  intro value slice pins s σ H x y v u Q I rx ry h hs
  obtain ⟨rfl, z, d, rfl, e, q⟩ := h
  cases rx
  obtain ⟨t, rfl⟩ := ry
  obtain ⟨es, n, hl, hk, _, ft⟩ := T.fits z
  rw [e] at ft
  obtain ⟨u0, v0, f0, r0, rep⟩ := ft
  have hmap := PySem.W.mapOf_K (prog := X.prog) (w := X.w) I.kIn hl hk
  exact tail_any hmap.typeIs PySem.F.slot_dict_getitem.lookup (wpAny_getItem_of (PySem.strKind_is X.prog X.w z t) hmap f0 ⟨v0, H, I.tok _, r0, q v0 rep⟩) hs
theorem de_tabAt (T : ∃ a, X.mg x = some (.ref a) ∧ KTab X.K X.w B a tb) (he : DE B X W e me) (hs : PlainIx e := by exact fun _ _ => rfl) (hg : Gl X x := by rfl) (hd : (x == ("__debug__" : Str)) = false := by decide) :
    DE B X W (.Subscript (.Name x p) e pos) (mD (mB1 (dTabAt tb) me)) := by
  obtain ⟨a, hm, T⟩ := T
  refine PE.imp (pe_ix (ix_ktab T) (pe_glob (v := .ref a) hg hm rfl hd) he hs) fun σ H Q h => ?_
  refine op1 (g := dTabAt tb) (r := fun y H Q => rTabAt B a tb (.ref a) y H Q) (fun F H a' z y Q hh sa e q => ?_) h
  cases a' with
  | str s =>
    obtain ⟨rfl, _⟩ := sa
    exact ⟨rfl, s, z, rfl, e, fun v r => q v F H (Step.refl _ _ _) hh (r F)⟩
  | _ => cases e
theorem op_in_ktab (T : KTab X.K X.w B a tb) : OpR X (compareOp .In) (fun x y H Q => ∃ z : Str, x = .str z ∧ y = .ref a ∧ Q (.bl (tb.lookup z).isSome) H) := by
  intro pins s σ H x y v u Q I rx ry h
  obtain ⟨z, rfl, rfl, q⟩ := h
  obtain ⟨t, rfl⟩ := rx
  cases ry
  obtain ⟨es, n, hl, hk, hs, ft⟩ := T.fits z
  refine wpAny_in_of (PySem.strKind_is X.prog X.w z t) hs (PySem.W.mapOf_K (prog := X.prog) I.kIn hl hk) ?_
  cases e : tb.lookup z with
  | none =>
    rw [e] at ft q
    rw [ft]
    exact ⟨.bl _, H, I.tok _, rfl, q⟩
  | some d =>
    rw [e] at ft q
    obtain ⟨u0, v0, f0, _⟩ := ft
    rw [f0]
    exact ⟨.bl _, H, I.tok _, rfl, q⟩
theorem op_notIn_ktab (T : KTab X.K X.w B a tb) : OpR X (compareOp .NotIn) (fun x y H Q => ∃ z : Str, x = .str z ∧ y = .ref a ∧ Q (.bl (!(tb.lookup z).isSome)) H) := by
  intro pins s σ H x y v u Q I rx ry h
  obtain ⟨z, rfl, rfl, q⟩ := h
  obtain ⟨t, rfl⟩ := rx
  cases ry
  obtain ⟨es, n, hl, hk, hs, ft⟩ := T.fits z
  refine wpAny_notIn_of (PySem.strKind_is X.prog X.w z t) hs (PySem.W.mapOf_K (prog := X.prog) I.kIn hl hk) ?_
  cases e : tb.lookup z with
  | none =>
    rw [e] at ft q
    rw [ft]
    exact ⟨.bl _, H, I.tok _, rfl, q⟩
  | some d =>
    rw [e] at ft q
    obtain ⟨u0, v0, f0, _⟩ := ft
    rw [f0]
    exact ⟨.bl _, H, I.tok _, rfl, q⟩
theorem de_inTab (T : ∃ a, X.mg x = some (.ref a) ∧ KTab X.K X.w B a tb) (he : DE B X W e me) (hm0 : behindInMarks .In (.Name x p) = false := by rfl) (hg : Gl X x := by rfl) (hd : (x == ("__debug__" : Str)) = false := by decide) :
    DE B X W (.Compare e [.In] [.Name x p] pos) (mD (mB1 (dTabIn false tb) me)) := by
  obtain ⟨a, hm, T⟩ := T
  refine PE.imp (pe_cmpR (op_in_ktab T) he (pe_glob (v := .ref a) hg hm rfl hd) hm0) fun σ H Q h => ?_
  refine op1 (g := dTabIn false tb) (r := fun y H Q => ∃ z : Str, y = .str z ∧ V.ref a = .ref a ∧ Q (.bl (tb.lookup z).isSome) H) (fun F H a' z y Q hh sa e q => ?_) h
  cases a' with
  | str s =>
    obtain ⟨rfl, _⟩ := sa
    cases e
    exact ⟨s, rfl, rfl, q _ F H (Step.refl _ _ _) hh rfl⟩
  | _ => cases e
theorem de_notInTab (T : ∃ a, X.mg x = some (.ref a) ∧ KTab X.K X.w B a tb) (he : DE B X W e me) (hm0 : behindInMarks .NotIn (.Name x p) = false := by rfl) (hg : Gl X x := by rfl) (hd : (x == ("__debug__" : Str)) = false := by decide) :
    DE B X W (.Compare e [.NotIn] [.Name x p] pos) (mD (mB1 (dTabIn true tb) me)) := by
  obtain ⟨a, hm, T⟩ := T
  refine PE.imp (pe_cmpR (op_notIn_ktab T) he (pe_glob (v := .ref a) hg hm rfl hd) hm0) fun σ H Q h => ?_
  refine op1 (g := dTabIn true tb) (r := fun y H Q => ∃ z : Str, y = .str z ∧ V.ref a = .ref a ∧ Q (.bl (!(tb.lookup z).isSome)) H) (fun F H a' z y Q hh sa e q => ?_) h
  cases a' with
  | str s =>
    obtain ⟨rfl, _⟩ := sa
    cases e
    exact ⟨s, rfl, rfl, q _ F H (Step.refl _ _ _) hh rfl⟩
  | _ => cases e
end
end AN

set_option Elab.async false
set_option maxRecDepth 100000
set_option autoImplicit false
set_option linter.unusedVariables false
/-! the keys of a dict, drawn one by one (for zip) -/
namespace PySem
section
variable {prog : Program} {w : World} {A : Around} {E : Value → Shared → Prop} {s : Shared}
theorem wpAny_nextOf_keys_item_raw {it d : Addr} {i ep : Nat} {es : Array DictEntry} {Q : Value → Shared → Prop} (hit : s.heap.IsKeyIter it d i es.size ep)
    (hm : s.heap.DictRaw d es ep) (hlt' : i < es.size)
    (hQ : ∀ h', h'.IsKeyIter it d (i + 1) es.size ep → Heap.SameBut it s.heap h' → Q es[i].key { s with heap := h' }) :
    wpAny (model prog w) A (Builtin.SmallTypes.nextOf (.ref it)) Q E s := by
  obtain ⟨o, ho, hc, hd⟩ := id hit
  obtain ⟨od, hod, hcd, hdd⟩ := id hm
  unfold Builtin.SmallTypes.nextOf
  refine wpAny_bind (wpAny_callSpecial?_slot (name := Str.ofString "__next__") hit.typeIs F.slot_dict_keyiterator_next
    (wpAny_call_entry F.slot_dict_keyiterator_next hit.typeIs F.entry_dict_keyiterator_next ?_ (F.args_dict_keyiterator_next_1 _)))
  refine wpAny_bind (wpAny_pure ?_)
  refine wpAny_bind ?_
  refine wpAny_bind ?_
  first | refine wpAny_bind (wpAny_typeNameOfWhole_keyiter hit.typeIs (wpAny_pure ?_)) | refine wpAny_bind (wpAny_typeNameOf_keyiter hit.typeIs (wpAny_pure ?_))
  refine wpAny_bind (wpAny_fieldsOf ho hd ?_)
  have hown : Builtin.Dict_items.ownsTuple "dict_keyiterator" = false := by decide
  simp only [hown, Bool.false_eq_true, if_false]
  show wpAny _ _ (if (Value.ref d == Value.none) = true then _ else _) _ _ s
  rw [if_neg (show ¬ ((Value.ref d == Value.none) = true) from Bool.false_ne_true)]
  refine wpAny_bind (wpAny_pure ?_)
  refine wpAny_bind (wpAny_dictEntries hod hdd ?_)
  rw [if_neg (by simp)]
  refine wpAny_bind (wpAny_pure ?_)
  refine wpAny_bind (wpAny_dictEpoch hod hdd ?_)
  rw [if_neg (by simp)]
  refine wpAny_pure ?_
  simp only [show ¬ ((i : Int) < 0) from by omega, if_false, Int.toNat_natCast, Array.getElem?_eq_getElem hlt']
  refine wpAny_bind ?_
  first | refine wpAny_bind (wpAny_typeNameOfWhole_keyiter hit.typeIs (wpAny_pure ?_)) | refine wpAny_bind (wpAny_typeNameOf_keyiter hit.typeIs (wpAny_pure ?_))
  refine wpAny_bind (wpAny_isOneOf_keyiter hit.typeIs ?_)
  show wpAny _ _ (setField (.ref it) 1 (rawInt ((i : Int) + 1)) >>= _) _ _ s
  refine wpAny_bind (wpAny_setField ho hd (by simp) ?_)
  have hit' : (s.heap.update it (Obj.mapFields (·.setIfInBounds 1 (rawInt ((i : Int) + 1))))).IsKeyIter it d (i + 1) es.size ep :=
    ⟨_, Heap.get?_update_self _ ho (Obj.isFreed_of_fields (Obj.data_mapFields hd _)), (Obj.cls_mapFields ..).trans hc, by rw [Obj.data_mapFields hd]; simp [rawInt]⟩
  refine wpAny_bind (wpAny_holding ?_)
  refine wpAny_bind (wpAny_isOneOf_keyiter (s := { s with heap := s.heap.update it (Obj.mapFields (·.setIfInBounds 1 (rawInt ((i : Int) + 1)))) }) hit'.typeIs ?_)
  show wpAny _ _ (pure es[i].key) _ _ _
  exact wpAny_pure (wpAny_pure ⟨_, rfl, wpAny_pure (hQ _ hit' (Heap.SameBut.update ..))⟩)
theorem wpAny_nextOf_keys_end_raw {it d : Addr} {i ep : Nat} {es : Array DictEntry} {Q : Value → Shared → Prop} (hh : A.handled = none) (hit : s.heap.IsKeyIter it d i es.size ep)
    (hm : s.heap.DictRaw d es ep) (hge : es.size ≤ i)
    (hE : ∀ h' e, Heap.ExtBut it s.heap h' → (∃ o, h'.get? e = some o ∧ o.cls = .type "StopIteration") → E (.ref e) { s with heap := h' }) : wpAny (model prog w) A (Builtin.SmallTypes.nextOf (.ref it)) Q E s := by
  obtain ⟨o, ho, hc, hd⟩ := id hit
  obtain ⟨od, hod, hcd, hdd⟩ := id hm
  unfold Builtin.SmallTypes.nextOf
  refine wpAny_bind (wpAny_callSpecial?_slot (name := Str.ofString "__next__") hit.typeIs F.slot_dict_keyiterator_next
    (wpAny_call_entry F.slot_dict_keyiterator_next hit.typeIs F.entry_dict_keyiterator_next ?_ (F.args_dict_keyiterator_next_1 _)))
  refine wpAny_bind (wpAny_pure ?_)
  refine wpAny_bind ?_
  refine wpAny_bind ?_
  first | refine wpAny_bind (wpAny_typeNameOfWhole_keyiter hit.typeIs (wpAny_pure ?_)) | refine wpAny_bind (wpAny_typeNameOf_keyiter hit.typeIs (wpAny_pure ?_))
  refine wpAny_bind (wpAny_fieldsOf ho hd ?_)
  have hown : Builtin.Dict_items.ownsTuple "dict_keyiterator" = false := by decide
  simp only [hown, Bool.false_eq_true, if_false]
  show wpAny _ _ (if (Value.ref d == Value.none) = true then _ else _) _ _ s
  rw [if_neg (show ¬ ((Value.ref d == Value.none) = true) from Bool.false_ne_true)]
  refine wpAny_bind (wpAny_pure ?_)
  refine wpAny_bind (wpAny_dictEntries hod hdd ?_)
  rw [if_neg (by simp)]
  refine wpAny_bind (wpAny_pure ?_)
  refine wpAny_bind (wpAny_dictEpoch hod hdd ?_)
  rw [if_neg (by simp)]
  refine wpAny_pure ?_
  simp only [show ¬ ((i : Int) < 0) from by omega, if_false, Int.toNat_natCast, Array.getElem?_eq_none hge]
  refine wpAny_bind ?_
  first | refine wpAny_bind (wpAny_typeNameOfWhole_keyiter hit.typeIs (wpAny_pure ?_)) | refine wpAny_bind (wpAny_typeNameOf_keyiter hit.typeIs (wpAny_pure ?_))
  show wpAny _ _ (setField (.ref it) 0 .none >>= _) _ _ s
  refine wpAny_bind (wpAny_setField ho hd (by simp) ?_)
  show wpAny _ _ (newExc (.type "StopIteration") [] >>= _) _ _ _
  refine wpAny_bind ?_
  simp only [newExc, newTuple]
  refine wpAny_bind (wpAny_newObj_type ?_ (by size_fits))
  refine wpAny_bind (m := firstArgMember _ _) (wpAny_of_eq (a := Value.none) (by first | rfl | (simp only [firstArgMember]; rfl)) ?_)
  refine wpAny_newObj_type ?_ (by size_fits)
  simp only [raiseNew]
  refine wpAny_bind (wpAny_handled ?_)
  first | rw [show A.in1.handled = none from hh] | rw [hh]
  refine wpAny_bind (wpAny_pure (wpAny_throw ?_))
  exact hE _ _ (((Heap.SameBut.update ..).extBut.push _).push _) ⟨_, Heap.get?_push_size _ rfl, rfl⟩
end
theorem Draws.rawKeys {prog : Program} {w : World} {A : Around} (hh : A.handled = none) (it d : Addr) (hne : d ≠ it) (es : Array DictEntry) (ep : Nat) :
    Draws prog w A it [it, d] es.size (fun i v => (es[i]?).map (·.key) = some v) (fun i h => h.IsKeyIter it d i es.size ep ∧ h.DictRaw d es ep) where
  live := fun _ _ st => let ⟨o, ho, _⟩ := st.1; ⟨o, ho⟩
  frame := fun _ _ _ st hk => ⟨let ⟨o, ho, r⟩ := st.1; ⟨o, hk it (by simp) o ho, r⟩, st.2.at fun o e => hk d (by simp) o e⟩
  item := fun i s Q E hi st hQ => by
    refine wpAny_nextOf_keys_item_raw st.1 st.2 hi fun h' hit' hs' => ?_
    exact hQ _ h' s.toks (by simp [hi]) ⟨hit', st.2.at fun o e => hs'.extBut _ _ hne e⟩ hs'
  done := fun s Q E st hE => wpAny_nextOf_keys_end_raw hh st.1 st.2 (Nat.le_refl _) hE
theorem begins_dictRaw (d : Addr) (hd : (d == sysModules) = false) (es : Array DictEntry) (ep : Nat) : Begins (.ref d) { cls := .type "dict_keyiterator", data := .fields #[.ref d, .int 0 0, .int es.size 0, .int ep 0] } fun h => h.DictRaw d es ep where
  iter := fun prog w A E s Q ht h => wpAny_pyIter_dict_raw hd ht h
  keeps := fun h h' x hk => x.at fun o e => hk d o e
  free := rfl
end PySem

set_option Elab.async false
set_option maxRecDepth 100000
set_option autoImplicit false
set_option linter.unusedVariables false
/-! zip over two sequences of any kind: lists, tuples, the keys of a fixed dict -/
namespace AN
open PySem PySem.Spec PyProof.Rows L2
/-- what is walked: the object at a shows the items that S tells -/
structure Src (P : Program) (w : World) (K : PySem.W.Frag) (a : Addr) (S : Hp → List V → Prop) : Prop where
  ex : ∃ (o : Obj) (It : Addr → Nat → Heap → Prop) (Hd : List Value → Heap → Prop),
    (∀ (A : Around) (it : Addr) (its : List Value), A.handled = none → a ≠ it → Draws P w A it [it, a] its.length (fun i v => its[i]? = some v) (fun i h => It it i h ∧ Hd its h)) ∧
    (∀ its, Begins (.ref a) o (Hd its)) ∧
    (∀ it h, h.get? it = some o → It it 0 h) ∧
    (∀ it i h, It it i h → ∃ o', h.get? it = some o' ∧ ∀ v, o'.data ≠ .cell v) ∧
    (∀ it i h h', It it i h → (∀ o, h.get? it = some o → h'.get? it = some o) → It it i h') ∧
    (∀ (X : Cx) (pins : List (Addr × Obj)) (σ : L2.St) (H : Hp) (s : Shared), X.K = K → Inv X pins σ H s → ∀ xs, S H xs → (∀ ys, S H ys → ys = xs) ∧ ∃ its, Vals xs its ∧ Hd its s.heap ∧ ∃ ob, s.heap.get? a = some ob)
theorem src_list {P : Program} {w : World} {K : PySem.W.Frag} {a : Addr} : Src P w K a (fun H xs => SqL K H a xs) :=
  ⟨{ cls := .type "list_iterator", data := .fields #[.ref a, .int 0 0] }, fun it i h => h.IsListIter it a i, fun its h => h.IsList a its.toArray,
    fun A it its hh hne => by
      have D := Draws.list (prog := P) (w := w) hh it a hne its.toArray
      simpa using D,
    fun its => begins_list a its.toArray, fun it h e => ⟨_, e, rfl, rfl⟩, fun it i h ⟨o, e, _, d⟩ => ⟨o, e, fun v q => by rw [d] at q; cases q⟩,
    fun it i h h' st k => st.at fun o q => k o q, fun X pins σ H s hK I xs hq => by
      subst hK
      obtain ⟨its, r, p, _⟩ := I.list hq
      exact ⟨fun ys hy => I.list_inj hy hq, its, r, p.isList, by obtain ⟨o, n, e, _⟩ := p; exact ⟨_, e⟩⟩⟩
theorem src_tup {P : Program} {w : World} {K : PySem.W.Frag} {a : Addr} : Src P w K a (fun H xs => SqT K H a xs) :=
  ⟨{ cls := .type "tuple_iterator", data := .fields #[.ref a, .int 0 0] }, fun it i h => h.IsTupleIter it a i, fun its h => h.IsTuple a its.toArray,
    fun A it its hh hne => by
      have D := Draws.tuple (prog := P) (w := w) hh it a hne its.toArray
      simpa using D,
    fun its => begins_tuple a its.toArray, fun it h e => ⟨_, e, rfl, rfl⟩, fun it i h ⟨o, e, _, d⟩ => ⟨o, e, fun v q => by rw [d] at q; cases q⟩,
    fun it i h h' st k => st.at fun o q => k o q, fun X pins σ H s hK I xs hq => by
      subst hK
      obtain ⟨its, r, p, _⟩ := I.tuple hq
      exact ⟨fun ys hy => I.tuple_inj hy hq, its, r, p, by obtain ⟨o, e, _⟩ := p; exact ⟨o, e⟩⟩⟩
/-- the keys of a table of the module -/
theorem ktab_keys {K : PySem.W.Frag} {w : World} {B : Bx} {a : Addr} {tb : List (Str × D)} (T : KTab K w B a tb) : ∃ es n, K.lookup a = some ⟨.type "dict", none, .dict es n, #[]⟩ ∧ (a == sysModules) = false ∧ Vals ((tb.map (·.1)).map V.str) (es.toList.map (·.key)) := by
  obtain ⟨es, n, h1, _, h3, h4⟩ := T.ex
  refine ⟨es, n, h1, h3, ?_⟩
  generalize es.toList = l at h4
  clear T
  induction h4 with
  | nil => exact .nil
  | cons hk _ _ ih =>
    obtain ⟨t, e⟩ := hk
    exact .cons ⟨t, e⟩ ih
theorem src_tab {P : Program} {w : World} {K : PySem.W.Frag} {B : Bx} {a : Addr} {tb : List (Str × D)} (T : KTab K w B a tb) : Src P w K a (fun _ xs => xs = (tb.map (·.1)).map V.str) := by
  obtain ⟨es, n, hl, hs, hv⟩ := ktab_keys T
  refine ⟨{ cls := .type "dict_keyiterator", data := .fields #[.ref a, .int 0 0, .int es.size 0, .int n 0] }, fun it i h => h.IsKeyIter it a i es.size n, fun its h => its = es.toList.map (·.key) ∧ h.DictRaw a es n, ?_, ?_, fun it h e => ⟨_, e, rfl, rfl⟩, fun it i h ⟨o, e, _, d⟩ => ⟨o, e, fun v q => by rw [d] at q; cases q⟩, fun it i h h' ⟨o, e, r⟩ k => ⟨o, k o e, r⟩, ?_⟩
  · intro A it its hh hne
    have D := Draws.rawKeys (prog := P) (w := w) hh it a hne es n
    exact {
      live := fun i h st => D.live i h ⟨st.1, st.2.2⟩
      frame := fun i h h' st k => ⟨(D.frame i h h' ⟨st.1, st.2.2⟩ k).1, st.2.1, (D.frame i h h' ⟨st.1, st.2.2⟩ k).2⟩
      item := fun i s Q E hi st hQ => by
        obtain ⟨s1, rfl, s2⟩ := st
        refine D.item i s Q E (by simpa using hi) ⟨s1, s2⟩ fun x h' tk hx st' hs => hQ x h' tk (by simpa using hx) ⟨st'.1, rfl, st'.2⟩ hs
      done := fun s Q E st hE => by
        obtain ⟨s1, rfl, s2⟩ := st
        exact D.done s Q E (by simpa using And.intro s1 s2) hE }
  · intro its
    have Bg := begins_dictRaw a hs es n
    exact ⟨fun prog w A E s Q h k => Bg.iter prog w A E s Q h.2 k, fun h h' x k => ⟨x.1, Bg.keeps h h' x.2 k⟩, Bg.free⟩
  · intro X pins σ H s hK I xs hx
    subst hK
    have g : s.heap.get? a = some ⟨.type "dict", none, .dict es n, #[]⟩ := I.kIn _ _ hl
    exact ⟨fun ys hy => hy.trans hx.symm, _, hx ▸ hv, ⟨rfl, _, g, ⟨rfl, rfl, rfl⟩, rfl⟩, _, g⟩
/-- two of them, item by item, in new pairs -/
def ItzG (Sa Sb : Hp → List V → Prop) : It :=
  ⟨fun i H => ∃ (xs ys : List V) (x y : V), Sa H xs ∧ Sb H ys ∧ xs[i]? = some x ∧ ys[i]? = some y,
    fun i H v H' => ∃ T x y, v = .ref T ∧ H T = none ∧ H' = upd H T (.tup [x, y]) ∧ (∀ xs, Sa H xs → xs[i]? = some x) ∧ ∀ ys, Sb H ys → ys[i]? = some y,
    fun i H => ∃ xs ys : List V, Sa H xs ∧ Sb H ys ∧ (i = xs.length ∧ i ≤ ys.length ∨ i = ys.length ∧ i ≤ xs.length)⟩
theorem turn_zipG {P : Program} {w : World} {K : PySem.W.Frag} {elts : List Expr} {kk : Nat} {tpos : Pos} {a b z TI TO i1 i2 : Addr} {Sa Sb : Hp → List V → Prop} {Ia Ib : Addr → Nat → Heap → Prop} {Ha Hb : List Value → Heap → Prop}
    (da : ∀ (A : Around) (it : Addr) (its : List Value), A.handled = none → a ≠ it → Draws P w A it [it, a] its.length (fun i v => its[i]? = some v) (fun i h => Ia it i h ∧ Ha its h))
    (ja : ∀ it i h, Ia it i h → ∃ o', h.get? it = some o' ∧ ∀ v, o'.data ≠ .cell v)
    (fa : ∀ it i h h', Ia it i h → (∀ o, h.get? it = some o → h'.get? it = some o) → Ia it i h')
    (ra : ∀ (X : Cx) (pins : List (Addr × Obj)) (σ : L2.St) (H : Hp) (s : Shared), X.K = K → Inv X pins σ H s → ∀ xs, Sa H xs → (∀ ys, Sa H ys → ys = xs) ∧ ∃ its, Vals xs its ∧ Ha its s.heap ∧ ∃ ob, s.heap.get? a = some ob)
    (db : ∀ (A : Around) (it : Addr) (its : List Value), A.handled = none → b ≠ it → Draws P w A it [it, b] its.length (fun i v => its[i]? = some v) (fun i h => Ib it i h ∧ Hb its h))
    (jb : ∀ it i h, Ib it i h → ∃ o', h.get? it = some o' ∧ ∀ v, o'.data ≠ .cell v)
    (fb : ∀ it i h h', Ib it i h → (∀ o, h.get? it = some o → h'.get? it = some o) → Ib it i h')
    (rb : ∀ (X : Cx) (pins : List (Addr × Obj)) (σ : L2.St) (H : Hp) (s : Shared), X.K = K → Inv X pins σ H s → ∀ xs, Sb H xs → (∀ ys, Sb H ys → ys = xs) ∧ ∃ its, Vals xs its ∧ Hb its s.heap ∧ ∃ ob, s.heap.get? b = some ob)
    (ka : a ≠ i1) (kb : b ≠ i2) (Z : ZipSep2 z TI TO i1 i2 [i1, a] [i2, b]) :
    Turn P w K (.Tuple elts kk tpos) (ItzG Sa Sb) [z, TI, TO, i1, i2] z (fun i h => IsZip h z TI TO .none ∧ IsTupOf2 h TI (.ref i1) (.ref i2) ∧ (∃ x y, IsTupOf2 h TO x y) ∧ Ia i1 i h ∧ Ib i2 i h) where
  mem := by simp
  obj := fun i h st c hc => by
    obtain ⟨hz, hTI, ⟨x, y, hTO⟩, h1, h2⟩ := st
    have e' : c = z ∨ c = TI ∨ c = TO ∨ c = i1 ∨ c = i2 := by simpa using hc
    rcases e' with q | q | q | q | q
    · rw [q]; exact ⟨_, hz, fun v q => nomatch q⟩
    · rw [q]; exact ⟨_, hTI, fun v q => nomatch q⟩
    · rw [q]; exact ⟨_, hTO, fun v q => nomatch q⟩
    · rw [q]; exact ja _ _ _ h1
    · rw [q]; exact jb _ _ _ h2
  keep := fun i h h' st k => by
    obtain ⟨hz, hTI, ⟨x, y, hTO⟩, h1, h2⟩ := st
    exact ⟨k z (by simp) _ hz, k TI (by simp) _ hTI, ⟨x, y, k TO (by simp) _ hTO⟩, fa _ _ _ _ h1 fun o q => k i1 (by simp) o q, fb _ _ _ _ h2 fun o q => k i2 (by simp) o q⟩
  item := by
    intro X hP hw hK hc i pins s σ H E I hf st hg
    subst hP hw
    obtain ⟨hz, hTI, ⟨x0, y0, hTO⟩, h1, h2⟩ := st
    obtain ⟨xs, ys, x, y, hqx, hqy, hx, hy⟩ := hg
    obtain ⟨ux, its, rv, p, _⟩ := ra X pins σ H s hK I xs hqx
    obtain ⟨uy, its2, rv2, p2, _⟩ := rb X pins σ H s hK I ys hqy
    obtain ⟨u, hu, ru⟩ := rv.get hx
    obtain ⟨u2, hu2, ru2⟩ := rv2.get hy
    have hzl : z < s.heap.objs.size := Heap.lt_size hz
    have l1 : i < its.length := (List.getElem?_eq_some_iff.mp hu).1
    have l2 : i < its2.length := (List.getElem?_eq_some_iff.mp hu2).1
    have hd0 : X.A.in1.handled = none := I.ok.hd hc
    refine wpAny_pyNext_zipD2_item Z (da X.A.in1 i1 its hd0 ka) (db X.A.in1 i2 its2 hd0 kb) hz hTI hTO ⟨h1, p⟩ ⟨h2, p2⟩ l1 l2 fun y1 y2 h' tk P1 P2 z' TO' st1 st2 hT hsz hk => ?_
    rw [hu] at P1; cases P1
    rw [hu2] at P2; cases P2
    refine ⟨_, rfl, wpAny_letOwnedTupleGo_zip (s := { s with heap := h', toks := tk }) z' fun h'' z'' sb => ?_⟩
    have hT2 : h''.get? s.heap.objs.size = some { cls := .type "tuple", data := .seq #[u, u2] } := (sb.2 _ (Nat.ne_of_gt hzl)).trans hT
    have new : ObjOk X.prog X.w (upd H s.heap.objs.size (.tup [x, y])) h'' s.heap.objs.size (.tup [x, y]) :=
      ⟨by show 2 ≤ sizeLine; decide, [u, u2], .cons ru (.cons ru2 .nil), ⟨_, hT2, rfl, _, rfl⟩⟩
    have I1 : Inv X pins σ (upd H s.heap.objs.size (.tup [x, y])) { s with heap := h'', toks := tk } :=
      I.turnedNew (t' := tk) (ch := [z, TI, TO, i1, i2]) (fun c o hb q => (sb.2 c (fun q' => hb (by simp [q']))).trans (hk c o (fun q' => hb (by simp [q'])) (fun q' => hb (by simp [q'])) (fun q' => hb (by simp [q'])) (fun q' => hb (by simp [q'])) q)) hf (Nat.le_refl _) new
    refine ⟨.ref s.heap.objs.size, _, I1, rfl, ⟨_, x, y, rfl, I.hok.fresh (Nat.le_refl _), rfl, fun l hl => by rw [ux l hl]; exact hx, fun l hl => by rw [uy l hl]; exact hy⟩, ⟨z'', ?_, ⟨u, u2, ?_⟩, ?_, ?_⟩, fun c hcm => ?_⟩
    · exact (sb.2 _ Z.TIz).trans (hk _ _ Z.TIz Z.TITO Z.TIi1 Z.TIi2 hTI)
    · exact (sb.2 _ Z.TOz).trans TO'
    · exact fa _ _ _ _ st1.1 fun o q => (sb.2 _ (Ne.symm Z.zi1)).trans q
    · exact fb _ _ _ _ st2.1 fun o q => (sb.2 _ (Ne.symm Z.zi2)).trans q
    · have hlt : c < s.heap.objs.size := by
        have e' : c = z ∨ c = TI ∨ c = TO ∨ c = i1 ∨ c = i2 := by simpa using hcm
        rcases e' with q | q | q | q | q
        · rw [q]; exact hzl
        · rw [q]; exact Heap.lt_size hTI
        · rw [q]; exact Heap.lt_size hTO
        · rw [q]; obtain ⟨_, e1, _⟩ := ja _ _ _ h1; exact Heap.lt_size e1
        · rw [q]; obtain ⟨_, e2, _⟩ := jb _ _ _ h2; exact Heap.lt_size e2
      rw [upd_ne (Nat.ne_of_lt hlt)]
      exact (hf c hcm).1
  done := by
    intro X hP hw hK hc i pins s σ H E I hf st hg
    subst hP hw
    obtain ⟨hz, hTI, ⟨x0, y0, hTO⟩, h1, h2⟩ := st
    obtain ⟨xs, ys, hqx, hqy, hend⟩ := hg
    obtain ⟨_, its, rv, p, _⟩ := ra X pins σ H s hK I xs hqx
    obtain ⟨_, its2, rv2, p2, _⟩ := rb X pins σ H s hK I ys hqy
    have l1 := rv.length
    have l2 := rv2.length
    have hd0 : X.A.in1.handled = none := I.ok.hd hc
    exact wpAny_pyNext_zipD2_end Z (da X.A.in1 i1 its hd0 ka) (db X.A.in1 i2 its2 hd0 kb) hz hTI hTO ⟨h1, p⟩ ⟨h2, p2⟩ (by omega) (by omega) (by omega) fun h' tk hk => ⟨rfl, I.turnedL (t' := tk) (ch := [z, TI, TO, i1, i2]) (fun c o hb q =>
      hk c o (fun q' => hb (by simp [q'])) (fun q' => hb (by simp [q'])) (fun q' => hb (by simp [q'])) (fun q' => hb (by simp [q'])) q) hf⟩
  self := fun A i s Q E st h => wpAny_pyIter_zip st.1 h
def iZipG (P : Program) (w : World) (K : PySem.W.Frag) (ta : TA) : TI := fun σ H R => ta σ H fun vs H1 => ∃ a b Sa Sb xs ys, vs = [.ref a, .ref b] ∧ Src P w K a Sa ∧ Src P w K b Sb ∧ Sa H1 xs ∧ Sb H1 ys ∧ R (ItzG Sa Sb) H1
theorem pi_zipG {X : Cx} {e e2 : Expr} {ta : TA} {p pos tpos : Pos} {elts : List Expr} {kk : Nat} (hg : Gl X "zip") (hm : X.mg "zip" = none) (ha : PA X [e, e2] ta)
    (hs : starEach [e, e2] X.env = (false, eval e X.env) :: starEach [e2] X.env := by rfl) (hpl : (backTo pos (starEach [e2] X.env)).any (·.1) = false := by rfl) :
    PI X (.Tuple elts kk tpos) (.Call (.Name "zip" p) [e, e2] [] pos) (iZipG X.prog X.w X.K ta) := by
  refine ⟨fun pins s σ H R I h => ?_⟩
  refine Call_ (ld_blt I hg hm PyProof.Rows.boot_zip (PyProof.Rows.callWith_type1 (thn (ha.run pos pins s σ H _ I h) fun us s1 ⟨vs, H1, I1, r1, q1⟩ => ?_) hs hpl))
  obtain ⟨a, b, Sa, Sb, xs, ys, ex, sa, sb, hqx, hqy, q⟩ := q1
  subst ex
  cases r1 with
  | cons r rr =>
    cases rr with
    | cons r' rr =>
      cases rr
      cases r
      cases r'
      obtain ⟨oa, Ia, Ha, da, ba, na, ja, fa, ra⟩ := sa.ex
      obtain ⟨ob, Ib, Hb, db, bb, nb, jb, fb, rb⟩ := sb.ex
      obtain ⟨_, its, _, p1, oo1, e1⟩ := ra X pins σ H1 s1 rfl I1 xs hqx
      obtain ⟨_, its2, _, p2, oo2, e2⟩ := rb X pins σ H1 s1 rfl I1 ys hqy
      have la : a < s1.heap.objs.size := Heap.lt_size e1
      have lb : b < s1.heap.objs.size := Heap.lt_size e2
      have fresh5 : ∀ c, c ∈ [s1.heap.objs.size + 4, s1.heap.objs.size + 2, s1.heap.objs.size + 3, s1.heap.objs.size, s1.heap.objs.size + 1] → FpOk X pins H1 c := fun c hcm => by
        have e' : c = s1.heap.objs.size + 4 ∨ c = s1.heap.objs.size + 2 ∨ c = s1.heap.objs.size + 3 ∨ c = s1.heap.objs.size ∨ c = s1.heap.objs.size + 1 := by simpa using hcm
        have hle : s1.heap.objs.size ≤ c := by
          rcases e' with z | z | z | z | z
          · rw [z]; exact Nat.le_add_right _ _
          · rw [z]; exact Nat.le_add_right _ _
          · rw [z]; exact Nat.le_add_right _ _
          · rw [z]; exact Nat.le_refl _
          · rw [z]; exact Nat.le_add_right _ _
        exact I1.fpOk hle (I1.hok.fresh hle)
      refine zip_begins2 (ba its) (bb its2) p1 p2 fun h' hz hTI hTO h1 h2 hsz hk => wpAny_pyIter_zip hz ?_
      have I2 : Inv X pins σ H1 { s1 with heap := h' } := I1.kept (t' := s1.toks) hk
      have Z : ZipSep2 (s1.heap.objs.size + 4) (s1.heap.objs.size + 2) (s1.heap.objs.size + 3) s1.heap.objs.size (s1.heap.objs.size + 1) [s1.heap.objs.size, a] [s1.heap.objs.size + 1, b] :=
        zip_sep2 (N := s1.heap.objs.size) (fp1 := [a]) (fp2 := [b]) (fun c hc => by rw [List.mem_singleton.mp hc]; exact la) (fun c hc => by rw [List.mem_singleton.mp hc]; exact lb)
      exact ⟨s1.heap.objs.size + 4, [s1.heap.objs.size + 4, s1.heap.objs.size + 2, s1.heap.objs.size + 3, s1.heap.objs.size, s1.heap.objs.size + 1], _, _, H1, rfl, I2, turn_zipG da ja fa ra db jb fb rb (Nat.ne_of_lt la) (Nat.ne_of_lt (Nat.lt_succ_of_lt lb)) Z, ⟨hz, hTI, ⟨_, _, hTO⟩, na _ _ h1, nb _ _ h2⟩, fresh5, q⟩
end AN

set_option Elab.async false
set_option maxRecDepth 100000
set_option autoImplicit false
set_option linter.unusedVariables false
/-! zip, read plainly -/
namespace AN
open PySem PySem.Spec PyProof.Rows L2
def zipD (xs ys : List D) : List D := (xs.zip ys).map fun p => .tup [p.1, p.2]
def zipOf : List D → Option (List D)
  | [a, b] => (rowOf a).bind fun xs => (rowOf b).map fun ys => zipD xs ys
  | _ => none
def mZip (ms : M (List Opd)) : M (List D) := M.bind ms fun xs => M.bind (frzs xs) fun ds => opt (zipOf ds)
def mZipT (ks : List Str) (m : M Opd) : M (List D) := M.bind m fun x => M.bind (frz1 x) fun d => opt ((rowOf d).map fun ys => zipD (ks.map .str) ys)
def okSB (s : Str) : Bool := decide (s.length ≤ sizeLine) && PyData.strOk s
section
variable {B : Bx} {X : Cx} {W : WX} {F H : Hp} {env : AN.Env} {σ : L2.St} {e e2 : Expr} {ma mb : M Opd} {p p1 pos : Pos}
theorem iter_zipG {Sa Sb : Hp → List V → Prop} {vs ws : List V} {xs ys : List D} (hva : ∀ F1 H1, Le F F1 → Holds F1 H1 → Sa H1 vs) (hvb : ∀ F1 H1, Le F F1 → Holds F1 H1 → Sb H1 ws) (ra : RepL B F xs vs) (rb : RepL B F ys ws) : Iter B F (ItzG Sa Sb) (zipD xs ys) := fun i F1 H1 l hh => by
  have sa := hva F1 H1 l hh
  have sb := hvb F1 H1 l hh
  have lz : (zipD xs ys).length = min xs.length ys.length := by unfold zipD; simp
  refine ⟨fun d e => ?_, fun e => ⟨vs, ws, sa, sb, by rw [ra.length, rb.length]; omega⟩⟩
  unfold zipD at e
  rw [List.getElem?_map] at e
  cases q : (xs.zip ys)[i]? with
  | none => rw [q] at e; cases e
  | some pr =>
    rw [q] at e
    cases e
    obtain ⟨q1, q2⟩ := List.getElem?_zip_eq_some.mp q
    obtain ⟨v, hv, rv⟩ := ra.get q1
    obtain ⟨u, hu, ru⟩ := rb.get q2
    refine ⟨⟨vs, ws, v, u, sa, sb, hv, hu⟩, fun x H2 y => ?_⟩
    obtain ⟨T, x0, y0, rfl, hT, rfl, f1, f2⟩ := y
    have g1 := f1 vs sa
    have g2 := f2 ws sb
    rw [hv] at g1; cases g1
    rw [hu] at g2; cases g2
    obtain ⟨s3, h3⟩ := step0_new (u := .tup [v, u]) hh hT
    exact ⟨_, s3, h3, T, _, rfl, .inl upd_same, (by show 2 ≤ sizeLine; decide), _, _, rfl, Rep.mono (l.trans s3.le) _ _ rv, _, _, rfl, Rep.mono (l.trans s3.le) _ _ ru, rfl⟩
theorem src_of {P : Program} {w : World} {d : D} {v : V} {ys : List D} (r : Rep B F d v) (h : rowOf d = some ys) : ∃ a Sb ws, v = .ref a ∧ Src P w B.K a Sb ∧ (∀ F1 H1, Le F F1 → Holds F1 H1 → Sb H1 ws) ∧ RepL B F ys ws := by
  cases d with
  | lst xs =>
    cases h
    obtain ⟨a, vs, rfl, l, z, r⟩ := r
    exact ⟨a, _, vs, rfl, src_list, fun F1 H1 le hh => (l.mono le).sq hh, r⟩
  | tup xs =>
    cases h
    obtain ⟨a, vs, rfl, l, z, r⟩ := r
    exact ⟨a, _, vs, rfl, src_tup, fun F1 H1 le hh => (l.mono le).sq hh, r⟩
  | _ => cases h
theorem di_zipT {x : Str} {tb : List (Str × D)} {elts : List Expr} {kk : Nat} {tpos : Pos} (hK : X.K = B.K) (T : ∃ a, X.mg x = some (.ref a) ∧ KTab X.K X.w B a tb) (ha : DE B X W e ma) (hm : X.mg "zip" = none) (hk : (tb.map (·.1)).all okSB = true := by decide +kernel) (hg : Gl X "zip" := by rfl) (hgx : Gl X x := by rfl) (hd : (x == ("__debug__" : Str)) = false := by decide)
    (hs1 : starEach [e] X.env = (false, eval e X.env) :: starEach [] X.env := by rfl) (hs : starEach [.Name x p1, e] X.env = (false, eval (.Name x p1) X.env) :: starEach [e] X.env := by rfl) (hpl : (backTo pos (starEach [e] X.env)).any (·.1) = false := by rfl) :
    DI B X W (.Tuple elts kk tpos) (.Call (.Name "zip" p) [.Name x p1, e] [] pos) (mZipT (tb.map (·.1)) ma) := by
  obtain ⟨a, hmx, T⟩ := T
  refine PI.imp (pi_zipG hg hm (pa_cons (pe_glob (v := .ref a) hgx hmx rfl hd) (pa_cons ha pa_nil hs1) hs) hs hpl) fun σ H R h => ?_
  obtain ⟨F, env, S, h⟩ := h
  refine tE.one S h fun y e1 F1 H1 v s1 m1 o1 rv k1 => ?_
  obtain ⟨d, e2, F2, s2, m2, o2, r2, k2⟩ := m1.frz1 rv (Post.bind m1 k1)
  obtain ⟨ds, hds, k3⟩ := Post.opt m2 k2
  obtain ⟨ys, hy, rfl⟩ := Option.map_eq_some_iff.mp hds
  obtain ⟨b, Sb, ws, rfl, sb, hb, rb⟩ := src_of (P := X.prog) (w := X.w) r2 hy
  refine ⟨a, b, _, Sb, (tb.map (·.1)).map V.str, ws, rfl, src_tab T, by rw [hK]; exact sb, rfl, hb F2 H1 (Le.refl _) m2.hold, ?_⟩
  exact k3 _ (iter_zipG (vs := (tb.map (·.1)).map V.str) (fun _ _ _ _ => rfl) hb (repL_strs fun z hz => by
    have := List.all_eq_true.mp hk z hz
    unfold okSB at this
    simpa [okS] using this) rb)
theorem di_zip {elts : List Expr} {kk : Nat} {tpos : Pos} {ms : M (List Opd)} (hK : X.K = B.K) (ha : DA B X W [e, e2] ms) (hm : X.mg "zip" = none) (hg : Gl X "zip" := by rfl)
    (hs : starEach [e, e2] X.env = (false, eval e X.env) :: starEach [e2] X.env := by rfl) (hpl : (backTo pos (starEach [e2] X.env)).any (·.1) = false := by rfl) :
    DI B X W (.Tuple elts kk tpos) (.Call (.Name "zip" p) [e, e2] [] pos) (mZip ms) := by
  refine PI.imp (pi_zipG hg hm ha hs hpl) fun σ H R h => ?_
  obtain ⟨F, env, S, h⟩ := h
  refine ⟨F, env, S, (Post.bind S h).mono fun xs e1 F1 H1 s1 m1 o1 k1 vs rvs => ?_⟩
  obtain ⟨ds, e3, F2, s2, m2, o2, r2, k2⟩ := m1.frzs rvs (Post.bind m1 k1)
  obtain ⟨zs, hds, k3⟩ := Post.opt m2 k2
  match ds, hds, r2 with
  | [d1, d2], hds, r2 =>
    obtain ⟨xs1, hx, hds⟩ := Option.bind_eq_some_iff.mp hds
    obtain ⟨ys1, hy, rfl⟩ := Option.map_eq_some_iff.mp hds
    obtain ⟨v1, vr, rfl, r3, v2, vr2, rfl, r4, r5⟩ := r2
    cases (show vr2 = [] from r5)
    obtain ⟨a, Sa, ws1, rfl, sa, ha', ra⟩ := src_of (P := X.prog) (w := X.w) r3 hx
    obtain ⟨b, Sb, ws2, rfl, sb, hb', rb⟩ := src_of (P := X.prog) (w := X.w) r4 hy
    exact ⟨a, b, Sa, Sb, ws1, ws2, rfl, by rw [hK]; exact sa, by rw [hK]; exact sb, ha' F2 H1 (Le.refl _) m2.hold, hb' F2 H1 (Le.refl _) m2.hold, k3 _ (iter_zipG ha' hb' ra rb)⟩
  | [], hds, _ => cases hds
  | [_], hds, _ => cases hds
  | _ :: _ :: _ :: _, hds, _ => cases hds
end
theorem mZipT_r {ks : List Str} {ma : M Opd} {e : AN.Env} : mZipT ks ma e = R.th (ma e) fun x e => R.th (frz1 x e) fun d e => rop ((rowOf d).map fun ys => zipD (ks.map .str) ys) e := th_congr fun u e => th_congr fun v e => rfl
theorem mZip_r {ms : M (List Opd)} {e : AN.Env} : mZip ms e = R.th (ms e) fun xs e => R.th (frzs xs e) fun ds e => rop (zipOf ds) e := th_congr fun u e => th_congr fun v e => rfl
theorem zipT_ok {ks : List Str} {ma : M Opd} {e e1 : AN.Env} {d : D} {ys : List D} (h : ma e = .ok (.d d) e1) (h2 : rowOf d = some ys) : mZipT ks ma e = .ok (zipD (ks.map .str) ys) e1 := by
  rw [mZipT_r, h, th_ok, frz1_d, th_ok, h2]; rfl
end AN

set_option Elab.async false
set_option maxRecDepth 100000
set_option autoImplicit false
set_option linter.unusedVariables false
/-! C(k = v, ..) with keyword-only parameters, some left out -/
namespace AN
open PySem PySem.Spec PyProof.Rows L2
/-- in the parameters' order: a keyword's value, or a default -/
def mix {α : Type} (π : List (Nat ⊕ Nat)) (mv ws : List α) : List α := π.filterMap fun q => match q with
  | .inl i => ws[i]?
  | .inr j => mv[j]?
def pkD (π : List (Nat ⊕ Nat)) (dms : List D) (l : List Opd) : List Opd := π.filterMap fun q => match q with
  | .inl i => l[i]?
  | .inr j => (dms[j]?).map .d
theorem paired_fm {α β γ : Type} {R : α → β → Prop} {f : γ → Option α} {g : γ → Option β} (h : ∀ q, (f q = none ∧ g q = none) ∨ ∃ a b, f q = some a ∧ g q = some b ∧ R a b) : ∀ l : List γ, Paired R (l.filterMap f) (l.filterMap g)
  | [] => .nil
  | q :: l => by
    rw [List.filterMap_cons, List.filterMap_cons]
    rcases h q with ⟨e1, e2⟩ | ⟨a, b, e1, e2, r⟩
    · rw [e1, e2]; exact paired_fm h l
    · rw [e1, e2]; exact .cons r (paired_fm h l)
theorem paired_len {α β : Type} {R : α → β → Prop} {l : List α} {m : List β} (h : Paired R l m) : l.length = m.length := by
  induction h with
  | nil => rfl
  | cons _ _ ih => rw [List.length_cons, List.length_cons, ih]
theorem paired_opt {α β : Type} {R : α → β → Prop} {l : List α} {m : List β} (h : Paired R l m) (i : Nat) : (l[i]? = none ∧ m[i]? = none) ∨ ∃ a b, l[i]? = some a ∧ m[i]? = some b ∧ R a b := by
  have hl := paired_len h
  by_cases q : i < l.length
  · have e1 : l[i]? = some l[i] := List.getElem?_eq_getElem q
    have q2 : i < m.length := by omega
    have e2 : m[i]? = some m[i] := List.getElem?_eq_getElem q2
    exact .inr ⟨_, _, e1, e2, paired_get h i _ _ e1 e2⟩
  · exact .inl ⟨List.getElem?_eq_none (by omega), List.getElem?_eq_none (by omega)⟩
theorem mix_vals {π : List (Nat ⊕ Nat)} {mz zs : List V} {mv ws : List Value} (h1 : Vals mz mv) (h2 : Vals zs ws) : Vals (mix π mz zs) (mix π mv ws) := by
  refine paired_fm (fun q => ?_) π
  cases q with
  | inl i => exact paired_opt h2 i
  | inr j => exact paired_opt h1 j
structure MakKO (P : Program) (w : World) (K : PySem.W.Frag) (mg : Str → Option Value) (base : Heap) (B : Bx) (x : Str) (c : String) (k : Nat) (ps ks : List Str) (π : List (Nat ⊕ Nat)) (dms : List D) (f : Fn) : Prop where
  ex : ∃ C fa fd g gV, B.cls c = some C ∧ Mk K C fa ∧ FnOk P w K mg base (L2.CX P w) k fa fd (("self" : Str) :: ps) (spOf B (ps.length + 1) f) ∧ KBn K fd (("self" : Str) :: ps) 1 ks g gV ∧
    (∀ (F : Hp) (σ : L2.St) (a : V) (zs : List V) (xs : List Opd), OpdsRel B F σ zs xs → zs.length = ks.length → ∃ vs, gV [a] zs = a :: vs ∧ OpdsRel B F σ vs (pkD π dms xs)) ∧ mg x = some (.ref C)
/-- from the def: π tells which keyword or which default, the defaults being ms -/
theorem makKO_of {P : Program} {w : World} {K : PySem.W.Frag} {mg : Str → Option Value} {base : Heap} {B : Bx} {x : Str} {c : String} {k : Nat} {ps ks : List Str} {f : Fn} {qual : Str} {params : Arguments} {body : List Stmt} {scope : Scope} {kws : List (Str × V)} {C fa : Addr} {fd : FuncData}
    (π : List (Nat ⊕ Nat)) (ms : List (Str × V)) (dms : List D) (hc : B.cls c = some C) (M : Mk K C fa) (G : FnOk P w K mg base (L2.CX P w) k fa fd (("self" : Str) :: ps) (spOf B (ps.length + 1) f)) (Fd : FunD K "__init__" qual params body scope [] kws fa fd) (hk : kws ≠ []) (hms : ∀ q ∈ ms, q ∈ kws)
    (hR : ∀ F : Hp, RepL B F dms (ms.map (·.2)))
    (h : ∀ (D : Addr) (doc pm : Value) (an : Option Addr) (cdv ct : Value) (us mv ws : List Value), us.length = 1 → mv.length = ms.length → ws.length = ks.length →
      KwChain D ((ms.map (·.1)).zip mv) (bindArgs (PySem.W.fnOf "__init__" qual params body scope .none (.ref D) doc pm an cdv ct) ⟨us, ks.zip ws⟩) ((("self" : Str) :: ps).zip (us ++ mix π mv ws)))
    (hm : mg x = some (.ref C)) : MakKO P w K mg base B x c k ps ks π dms f := by
  obtain ⟨mv, hb⟩ := Fd.kbinds0 (ps := ("self" : Str) :: ps) 1 ks ms (fun us mv ws => us ++ mix π mv ws) hk hms (fun h1 h2 h3 => h1.append (mix_vals h2 h3)) h
  refine ⟨C, fa, fd, _, _, hc, M, G, hb, fun F σ a zs xs r hl => ⟨mix π (ms.map (·.2)) zs, rfl, ?_⟩, hm⟩
  refine paired_opds ?_
  refine paired_fm (fun q => ?_) π
  cases q with
  | inl i => exact paired_opt (opds_paired r) i
  | inr j =>
    have r := hR F
    cases e : (ms.map (·.2))[j]? with
    | some v =>
      obtain ⟨d, h1, h2⟩ := r.got e
      exact .inr ⟨v, .d d, e, by dsimp only; rw [h1]; rfl, h2⟩
    | none =>
      have l := r.length
      have : dms[j]? = none := by
        rw [List.getElem?_eq_none_iff] at e ⊢
        omega
      exact .inl ⟨e, by dsimp only; rw [this]; rfl⟩
def mMakeKO (c : String) (n : Nat) (π : List (Nat ⊕ Nat)) (dms : List D) (f : Fn) (ms : M (List Opd)) : M O := M.bind ms fun xs => makeP c n f (pkD π dms xs)
section
variable {B : Bx} {X : Cx} {W : WX} {F H : Hp} {env : AN.Env} {σ : L2.St} {k : Nat} {ps ks : List Str} {x : Str} {p pos : Pos} {kws : List Keyword} {π : List (Nat ⊕ Nat)} {dms : List D} {ms : M (List Opd)}
theorem run_makeKS {n : Nat} {f C : Addr} {fd : FuncData} {sp : Sp} {E : XK} {g : List Value → List Value → List Value} {gV : List V → List V → List V} {pins : List (Addr × Obj)} {s : Shared} {Q : VK} {us ws : List Value} {vs zs : List V} (M : Mk X.K C f) (F : FnOk X.prog X.w X.K X.mg X.base (L2.CX X.prog X.w) k f fd ps sp) (hr : Room (k + 1) X.A) (hb : KBn X.K fd ps (n + 1) ks g gV) (hx : PassesAt (L2.CX X.prog X.w) X σ E)
    (I : Inv X pins σ H s) (r : Vals vs us) (rz : Vals zs ws) (l1 : vs.length = n) (l2 : zs.length = ks.length)
    (h : ∀ x dx, H x = none → H dx = none → dx ≠ x → sp (gV (.ref x :: vs) zs) (upd (upd H dx (.own x)) x (.ins C dx [])) (fun v H2 => v = .non ∧ Q (.ref x) H2) E) :
    wpAny (model X.prog X.w) X.A (call (.ref C) us (ks.zip ws)) (EP X pins σ Q) X.xe s := by
  have hq := h (s.heap.objs.size + 1) s.heap.objs.size (I.hok.fresh (Nat.le_succ _)) (I.hok.fresh (Nat.le_refl _)) (Nat.ne_of_lt (Nat.lt_succ_self _))
  have I2 := Inv.made (C := C) I
  have r1 : Vals (V.ref (s.heap.objs.size + 1) :: vs) (Value.ref (s.heap.objs.size + 1) :: us) := .cons rfl r
  have r2 := hb.rel r1 rz
  have n1 : (Value.ref (s.heap.objs.size + 1) :: us).length = n + 1 := by
    rw [List.length_cons, ← r.length, l1]
  refine wpAny_call (make_map (f := f) I.kIn M.makes M.init (beq_iff_eq.mp M.fn) (codeAny_mono (F.run _ X.stack _ _ ⟨Value.ref (s.heap.objs.size + 1) :: us, ks.zip ws⟩ (g (Value.ref (s.heap.objs.size + 1) :: us) ws) _ _ E (hr.make C us (ks.zip ws))
    (I2.env0.make C us (ks.zip ws)) (hb.to _ (Value.ref (s.heap.objs.size + 1) :: us) ws I2.kIn n1 (rz.length.symm.trans l2)) r2 hq) fun r s' hq' => ?_))
  cases r with
  | error e => exact hx pins _ _ e s' I2 hq'
  | ok fl =>
    cases fl with
    | ret u =>
      obtain ⟨v, H', I3, rv, ev, q3⟩ := I2.after hq'
      subst ev
      exact ⟨rv, ⟨V.ref (s.heap.objs.size + 1), H', I3, rfl, q3⟩⟩
    | next => exact False.elim hq'
    | brk => exact False.elim hq'
    | cont => exact False.elim hq'
def tMakeKOS (C : Addr) (m : Nat) (gV : List V → List V → List V) (sp : Sp) (E : L2.St → XK) (t : TA) : TE := fun σ H Q => t σ H fun zs H1 => zs.length = m ∧ ∀ x dx, H1 x = none → H1 dx = none → dx ≠ x → sp (gV [.ref x] zs) (upd (upd H1 dx (.own x)) x (.ins C dx [])) (fun v H2 => v = .non ∧ Q (.ref x) H2) (E σ)
theorem pe_makeKOS {f C : Addr} {fd : FuncData} {sp : Sp} {E : L2.St → XK} {g : List Value → List Value → List Value} {gV : List V → List V → List V} {t : TA} (M : Mk X.K C f) (F : FnOk X.prog X.w X.K X.mg X.base (L2.CX X.prog X.w) k f fd ps sp) (hr : Room (k + 1) X.A) (hm : X.mg x = some (.ref C)) (hb : KBn X.K fd ps 1 ks g gV) (hx : ∀ σ, PassesAt (L2.CX X.prog X.w) X σ (E σ)) (hkw : PK X kws t) (hg : Gl X x := by rfl)
    (hall : (backToKw pos (keywordEach kws X.env)).all (·.1.isSome) = true := by rfl) (hks : (backToKw pos (keywordEach kws X.env)).filterMap (·.1) = ks := by rfl) (hdb : (x == ("__debug__" : Str)) = false := by decide)
    (hpl : ((backTo pos (starEach [] X.env)).any (·.1) || (backToKw pos (keywordEach kws X.env)).any (·.1.isNone)) = false := by rfl) :
    PE X (.Call (.Name x p) [] kws pos) (tMakeKOS C ks.length gV sp E t) := by
  refine ⟨fun pins s σ H Q I h => wpAny_Call_Name_kw (ld_glob I hg hm ?_ hdb)⟩
  refine PySem.W.callWith_KW0 (h₀ := X.base) I.ok.mod.kin M.kp hall ?_ hpl
  refine thn (hkw.run pos pins s σ H _ I h) fun ws s2 ⟨zs, H2, I2, rz, l2, q2⟩ => ⟨I2.kIn, ?_⟩
  rw [hks]
  exact run_makeKS (us := []) (vs := []) M F hr hb (hx σ) I2 .nil rz rfl l2 q2
theorem do_makeKO {c : String} {fn : Fn} (N : MakKO X.prog X.w X.K X.mg X.base B x c k ps ks π dms fn) (hr : Room (k + 1) X.A) (tk : Takes X W) (ha : DK B X W kws ms) (hl : ∀ env xs e, ms env = .ok xs e → xs.length = ks.length) (hg : Gl X x := by rfl)
    (hall : (backToKw pos (keywordEach kws X.env)).all (·.1.isSome) = true := by rfl) (hks : (backToKw pos (keywordEach kws X.env)).filterMap (·.1) = ks := by rfl) (hdb : (x == ("__debug__" : Str)) = false := by decide)
    (hpl : ((backTo pos (starEach [] X.env)).any (·.1) || (backToKw pos (keywordEach kws X.env)).any (·.1.isNone)) = false := by rfl) :
    DO B X W (.Call (.Name x p) [] kws pos) (mMakeKO c ps.length π dms fn ms) := by
  obtain ⟨C, fa, fd, g, gV, hc, M, G, hb, rel, hm⟩ := N.ex
  refine PE.imp (pe_makeKOS (E := WE W) M G hr hm hb (fun σ => passAt tk σ) ha hg hall hks hdb hpl) fun σ H Q h => ?_
  obtain ⟨F, env, S, h⟩ := h
  refine ⟨F, env, S, ?_⟩
  have h2 := Post.bind S h
  cases q : ms env with
  | bad => rw [q] at h2; exact h2
  | exc c d e' => rw [q] at h2; exact h2
  | ok xs e1 =>
    rw [q] at h2
    intro F1 H1 s1 m1 l1 vs rvs
    have lz : vs.length = ks.length := by rw [rvs.len]; exact hl env xs e1 q
    refine ⟨lz, fun x0 dx hx0 hdx ne => ?_⟩
    obtain ⟨vs2, e2, r2⟩ := rel F1 σ (.ref x0) vs xs rvs lz
    rw [e2]
    exact make_read hc m1 r2 (h2 F1 H1 s1 m1 l1) (fun o e2 F2 H2 s2 m2 l2 k2 p hp hf ho => k2 p (s1.back hp) hf ho) x0 dx hx0 hdx ne
theorem mMakeKO_r {c : String} {n : Nat} {f : Fn} {e : AN.Env} : mMakeKO c n π dms f ms e = R.th (ms e) fun xs e => makeP c n f (pkD π dms xs) e := rfl
end
end AN

set_option Elab.async false
set_option maxRecDepth 100000
set_option autoImplicit false
set_option linter.unusedVariables false
/-! small parts for keyword-only parameters, fixed tuples -/
namespace AN
open PySem PySem.Spec PyProof.Rows L2
theorem mA_l0 : ∀ (env : AN.Env) (xs : List Opd) (e : AN.Env), mA0 env = .ok xs e → xs.length = 0 := fun env xs e h => by cases h; rfl
theorem mA_lc {a : M Opd} {ms : M (List Opd)} {n : Nat} (h : ∀ (env : AN.Env) (xs : List Opd) (e : AN.Env), ms env = .ok xs e → xs.length = n) : ∀ (env : AN.Env) (xs : List Opd) (e : AN.Env), mA a ms env = .ok xs e → xs.length = n + 1 := fun env xs e q => by
  rw [mA_r] at q
  cases q1 : a env with
  | bad => rw [q1] at q; cases q
  | exc _ _ _ => rw [q1] at q; cases q
  | ok x e1 =>
    rw [q1, th_ok] at q
    cases q2 : ms e1 with
    | bad => rw [q2] at q; cases q
    | exc _ _ _ => rw [q2] at q; cases q
    | ok ys e2 =>
      have z := h e1 ys e2 q2
      rw [q2] at q
      cases q
      rw [List.length_cons, z]
def vOf : D → V
  | .bl b => .bl b
  | .int i => .int i
  | .str s => .str s
  | _ => .non
def conOk : D → Bool
  | .non => true
  | .bl _ => true
  | .int _ => true
  | .str s => okSB s
  | _ => false
theorem repL_con {B : Bx} {F : Hp} : ∀ {ds : List D}, ds.all conOk = true → RepL B F ds (ds.map vOf)
  | [], _ => rfl
  | d :: ds, h => by
    rw [List.all_cons, Bool.and_eq_true] at h
    refine ⟨_, _, rfl, ?_, repL_con h.2⟩
    cases d with
    | non => rfl
    | bl b => rfl
    | int i => rfl
    | str s =>
      refine ⟨rfl, ?_⟩
      have := h.1
      simpa [conOk, okSB, okS] using this
    | _ => cases h.1
theorem mem_pick {α : Type} {l : List α} {is : List Nat} : ∀ q ∈ is.filterMap (fun i => l[i]?), q ∈ l := fun q hq => by
  obtain ⟨i, _, e⟩ := List.mem_filterMap.mp hq
  exact List.mem_of_getElem? e
theorem map_pick {α β : Type} {f : α → β} {l : List α} {is : List Nat} : (is.filterMap fun i => l[i]?).map f = is.filterMap fun i => (l.map f)[i]? := by
  induction is with
  | nil => rfl
  | cons i is ih =>
    rw [List.filterMap_cons, List.filterMap_cons, List.getElem?_map]
    cases l[i]? with
    | none => exact ih
    | some a => simp only [Option.map_some, List.map_cons, ih]
/-- kds: the keyword-only parameters with their defaults; lk: the places of those that lack -/
theorem makKO {P : Program} {w : World} {K : PySem.W.Frag} {mg : Str → Option Value} {base : Heap} {B : Bx} {x : Str} {c : String} {k : Nat} {ps ks : List Str} {f : Fn} {qual : Str} {params : Arguments} {body : List Stmt} {scope : Scope} {C fa : Addr} {fd : FuncData} (kds : List (Str × D))
    (lk : List Nat) (π : List (Nat ⊕ Nat)) (hc : B.cls c = some C) (M : Mk K C fa) (G : FnOk P w K mg base (L2.CX P w) k fa fd (("self" : Str) :: ps) (spOf B (ps.length + 1) f)) (Fd : FunD K "__init__" qual params body scope [] (kds.map fun q => (q.1, vOf q.2)) fa fd) (hk : kds ≠ [])
    (hR : (lk.filterMap fun i => (kds.map (·.2))[i]?).all conOk = true)
    (h : ∀ (D : Addr) (doc pm : Value) (an : Option Addr) (cdv ct : Value) (us mv ws : List Value), us.length = 1 → mv.length = (lk.filterMap fun i => (kds.map fun q => (q.1, vOf q.2))[i]?).length → ws.length = ks.length →
      KwChain D (((lk.filterMap fun i => (kds.map fun q => (q.1, vOf q.2))[i]?).map (·.1)).zip mv) (bindArgs (PySem.W.fnOf "__init__" qual params body scope .none (.ref D) doc pm an cdv ct) ⟨us, ks.zip ws⟩) ((("self" : Str) :: ps).zip (us ++ mix π mv ws)))
    (hm : mg x = some (.ref C)) : MakKO P w K mg base B x c k ps ks π (lk.filterMap fun i => (kds.map (·.2))[i]?) f :=
  makKO_of π _ _ hc M G Fd (by cases kds with | nil => exact absurd rfl hk | cons _ _ => simp) mem_pick (fun F => by
    have := repL_con (B := B) (F := F) hR
    rw [map_pick, List.map_map]
    rw [map_pick, List.map_map] at this
    exact this) h hm
/-- a fixed tuple, its cells found by look -/
theorem con_tupE {B : Bx} {a : Addr} {ds : List D} (hz : ds.length ≤ sizeLine) (h : ∃ (od : Option Addr) (its : Array Value) (n : Nat) (sl : Array (Option Value)), B.K.lookup a = some ⟨.type "tuple", od, .seq its n, sl⟩ ∧ CsOk B its.toList ds) : ∃ v, RelV v (.ref a) ∧ ∀ F : Hp, Rep B F (.tup ds) v := by
  obtain ⟨od, its, n, sl, l, h⟩ := h
  exact con_tup l h hz
end AN

set_option Elab.async false
set_option maxRecDepth 100000
set_option autoImplicit false
set_option linter.unusedVariables false
/-! one dict poured into another one (the model's mergeMapping) -/
namespace AN
open PySem
/-- two branches, of which one ends as the other one -/
theorem if_both {M : Model} {A : Around} {E : Value → Shared → Prop} {s : Shared} {α : Type} {Q : α → Shared → Prop} {c : Prop} [Decidable c] {t u : Sem α} (hu : wpAny M A u Q E s) (ht : c → wpAny M A u Q E s → wpAny M A t Q E s) : wpAny M A (if c then t else u) Q E s := by
  by_cases h : c
  · rw [if_pos h]; exact ht h hu
  · rw [if_neg h]; exact hu
end AN
namespace PySem
section
variable {prog : Program} {w : World} {K : Type} [DecidableEq K] {knd : KeyKind prog w K} {A : Around} {E : Value → Shared → Prop} {s : Shared}
/-- one entry put into a dict of pairs: the place is sought once, then stored or added -/
theorem wpAny_dictPut_pairs {d : Addr} {kvs : List (K × Value)} {k : K} {key v : Value} {Q : Unit → Shared → Prop} (hkey : knd.is k key = true) (hm : s.heap.DictOf knd d kvs)
    (hQ : ∀ g, g.DictOf knd d (stored kvs k v) → Heap.SameBut d s.heap g → Q () { s with heap := g }) (hsz : kvs.length ≤ sizeLine) : wpAny (model prog w) A (dictPut d (knd.hash k) key v) Q E s := by
  rcases hm with ⟨ob, en, ct, got, cl, dat, good, prs, nod⟩
  have many : en.size ≤ sizeLine := by
    have := prs.length
    rw [Array.length_toList] at this
    omega
  have place : (en.findIdx? fun q => knd.is k q.key) = kvs.findIdx? fun q => decide (q.1 = k) := by
    have := prs.findIdx k
    cases en with
    | mk xs => simpa using this
  simp only [dictPut]
  apply wpAny_bind
  apply wpAny_dictFind_of hkey got dat good
  rcases at_ : (en.findIdx? fun q => knd.is k q.key) with _ | at0
  · -- a new key
    have new : k ∉ kvs.map (·.1) := not_mem_of_findIdx_none (place ▸ at_)
    have st : stored kvs k v = kvs ++ [(k, v)] := by
      unfold stored
      rw [if_neg]
      intro z
      obtain ⟨q, hq, e⟩ := List.any_eq_true.mp z
      exact new (of_decide_eq_true e ▸ List.mem_map_of_mem hq)
    have free := Obj.isFreed_of_dict (Obj.data_mapDictKeys dat (·.push ⟨knd.hash k, key, v⟩))
    rw [at_]
    refine wpAny_updateDictKeys (hz := many) got dat (hQ _ ?_ ?_)
    · rw [st]
      refine ⟨_, _, ct + 1, Heap.get?_update_self _ got free, cl.mapDictKeys _, Obj.data_mapDictKeys dat _, good.push hkey _, ?_, ?_⟩
      · have more := prs.append hkey (knd.hash k) v
        cases en with
        | mk xs => simpa using more
      · rw [List.map_append]
        exact List.nodup_append.mpr ⟨nod, by simp, fun x hx y hy e => new (by
          have hy : y = k := by simpa using hy
          subst hy
          exact e ▸ hx)⟩
    · exact .update ..
  · -- the key is there
    have old := any_of_findIdx_some (place ▸ at_)
    have st : stored kvs k v = kvs.map fun q => if q.1 = k then (q.1, v) else q := if_pos old
    have free := Obj.isFreed_of_dict (Obj.data_mapDict dat (·.modify at0 fun q => { q with val := v }))
    rw [at_]
    refine wpAny_updateDict got dat (hQ _ ?_ ?_)
    · refine ⟨_, _, ct, Heap.get?_update_self _ got free, cl.mapDict _, Obj.data_mapDict dat _, good.modify _ _, ?_, ?_⟩
      · cases en with
        | mk xs =>
          have := prs.modify nod (by simpa using at_) v
          rw [stored, if_pos old]
          simpa using this
      · rw [stored, if_pos old, keys_map_store]
        exact nod
    · exact .update ..
def poured (kvs avs : List (K × Value)) : List (K × Value) := avs.foldl (fun acc kv => stored acc kv.1 kv.2) kvs
theorem stored_length (kvs : List (K × Value)) (k : K) (v : Value) : (stored kvs k v).length ≤ kvs.length + 1 := by
  unfold stored
  split
  · simp
  · simp
theorem poured_length : ∀ (l kvs : List (K × Value)), (poured kvs l).length ≤ kvs.length + l.length
  | [], kvs => by simp [poured]
  | x :: l, kvs => by
    have h1 := poured_length l (stored kvs x.1 x.2)
    have h2 := stored_length kvs x.1 x.2
    unfold poured at h1 ⊢
    rw [List.foldl_cons, List.length_cons]
    omega
theorem stored_keys {kvs : List (K × Value)} {k x : K} {v : Value} (h : x ∈ (stored kvs k v).map (·.1)) : x ∈ kvs.map (·.1) ∨ x = k := by
  unfold stored at h
  split at h
  · rw [keys_map_store] at h; exact .inl h
  · simpa using h
theorem poured_keys : ∀ {l kvs : List (K × Value)} {x : K}, x ∈ (poured kvs l).map (·.1) → x ∈ kvs.map (·.1) ∨ x ∈ l.map (·.1)
  | [], kvs, x, h => .inl h
  | y :: l, kvs, x, h => by
    have h1 := poured_keys (l := l) (kvs := stored kvs y.1 y.2) h
    rcases h1 with h1 | h1
    · rcases stored_keys h1 with h2 | h2
      · exact .inl h2
      · exact .inr (by rw [h2]; simp)
    · exact .inr (List.mem_cons_of_mem _ h1)
theorem Pairs.get {es : List DictEntry} {kvs : List (K × Value)} (h : Pairs knd es kvs) (i : Nat) (hi : i < es.length) : ∃ kv, kvs[i]? = some kv ∧ knd.is kv.1 es[i].key = true ∧ es[i].val = kv.2 := by
  induction h generalizing i with
  | nil => cases hi
  | @cons e kv es kvs h1 h2 _ ih =>
    cases i with
    | zero => exact ⟨kv, rfl, h1, h2⟩
    | succ i => simpa using ih i (by simpa using hi)
/-- mergeMapping; unique: no key is in both -/
theorem wpAny_merge {d a : Addr} {kvs avs : List (K × Value)} {unique : Bool} {Q : Unit → Shared → Prop} (hne : d ≠ a) (ha : (a == sysModules) = false) (hd : s.heap.DictOf knd d kvs) (hm : s.heap.DictOf knd a avs)
    (noref : ∀ k b, knd.is k (.ref b) = false) (hu : unique = true → ∀ x ∈ avs.map (·.1), x ∉ kvs.map (·.1)) (hsz : kvs.length + avs.length ≤ sizeLine)
    (hQ : ∀ h', h'.DictOf knd d (poured kvs avs) → Heap.SameBut d s.heap h' → Q () { s with heap := h' }) : wpAny (model prog w) A (mergeMapping d (.ref a) unique) Q E s := by
  obtain ⟨o, es, ep, ho, hc, hdt, hk, hp, hn⟩ := id hm
  obtain ⟨od, esd, epd, hod, hcd, hdd, hkd, hpd, hnd⟩ := id hd
  have hT : s.TypeIs (.ref a) "dict" := hm.typeIs
  unfold mergeMapping
  refine wpAny_bind (wpAny_isInstance (U := "dict") (b := true) hT (by rfl) ?_)
  dsimp only
  rw [if_pos rfl]
  refine wpAny_bind (wpAny_specialOf hT F.slot_dict_iter.lookup (wpAny_bind (wpAny_pure ?_)))
  have e1 : ((some (Value.builtin "dict.__iter__")) == some (Value.builtin "dict.__iter__")) = true := by decide
  rw [e1]
  dsimp only
  rw [if_neg (by rw [ha]; exact Bool.false_ne_true)]
  refine wpAny_bind (wpAny_dictEntries hod hdd ?_)
  refine AN.if_both ?go fun hem go => ?pre
  case go =>
    have les : es.size = avs.length := by have e1 := hp.length; simpa using e1
    refine wpAny_bind (wpAny_dictEntries ho hdt (wpAny_bind (wpAny_dictEpoch ho hdt ?_)))
    refine wpAny_bind (wpAny_forIn_list _ (fun rest _ s' => ∃ pre, pre ++ rest = List.range es.size ∧ s'.heap.DictOf knd d (poured kvs (avs.take pre.length)) ∧ Heap.SameBut d s.heap s'.heap ∧ s' = { s with heap := s'.heap }) _ ?_ ?_ _ _ ⟨([] : List Nat), rfl, by simpa [poured] using hd, Heap.SameBut.refl _ _, rfl⟩)
    · rintro i rest b s' ⟨pre, hr, hd', sb, es'⟩
      have hi : i = pre.length ∧ i < es.size := by
        have h1 : (List.range es.size)[pre.length]? = some i := by rw [← hr]; simp
        have h2 := (List.getElem?_eq_some_iff.mp h1).1
        rw [List.length_range] at h2
        rw [List.getElem?_range h2] at h1
        exact ⟨(Option.some.inj h1).symm, (Option.some.inj h1) ▸ h2⟩
      obtain ⟨hi, lt⟩ := hi
      have ho' : s'.heap.get? a = some o := (sb.2 a (Ne.symm hne)).trans ho
      refine wpAny_bind (wpAny_dictEntries ho' hdt ?_)
      have hg : es[i]? = some es[i] := Array.getElem?_eq_getElem lt
      rw [hg]
      dsimp only
      obtain ⟨kv, hkv, i1, i2⟩ := hp.get i (by simpa using lt)
      have i1 : knd.is kv.1 es[i].key = true := by simpa using i1
      have i2 : es[i].val = kv.2 := by simpa using i2
      obtain ⟨k', hk1, hk2⟩ := hk es[i] (Array.getElem_mem lt)
      have hkk : k' = kv.1 := knd.inj _ _ _ hk1 i1
      rw [hkk] at hk2
      have ltk : i < avs.length := by omega
      have tk : avs.take (i + 1) = avs.take i ++ [kv] := by
        rw [List.take_add_one, hkv]; rfl
      rw [← hi] at hd'
      have plen := poured_length (avs.take i) kvs
      rw [List.length_take] at plen
      have put : wpAny (model prog w) A (dictPut d es[i].hash es[i].key es[i].val) (fun _ s2 => ∃ pre', pre' ++ rest = List.range es.size ∧ s2.heap.DictOf knd d (poured kvs (avs.take pre'.length)) ∧ Heap.SameBut d s.heap s2.heap ∧ s2 = { s with heap := s2.heap }) E s' := by
        rw [hk2]
        refine wpAny_dictPut_pairs i1 hd' (fun h' d2 sb2 => ⟨pre ++ [i], by rw [← hr]; simp, ?_, sb.trans sb2, by rw [es']⟩) (by omega)
        rw [List.length_append, List.length_singleton, ← hi, tk]
        unfold poured
        rw [List.foldl_append]
        rw [i2] at d2
        exact d2
      refine wpAny_bind (wpAny_holding ?_)
      refine wpAny_mono (Q := fun _ s2 => ∃ pre', pre' ++ rest = List.range es.size ∧ s2.heap.DictOf knd d (poured kvs (avs.take pre'.length)) ∧ Heap.SameBut d s.heap s2.heap ∧ s2 = { s with heap := s2.heap }) ?_ (fun _ s2 hs2 => by
        obtain ⟨pre', q1, q2, q3, q4⟩ := hs2
        refine wpAny_bind (wpAny_dictEpoch ((q3.2 a (Ne.symm hne)).trans ho) hdt ?_)
        rw [if_neg (by simp)]
        exact wpAny_pure ⟨pre', q1, q2, q3, q4⟩) (fun _ _ x => x)
      by_cases hu0 : unique = true
      · rw [if_pos hu0]
        obtain ⟨o2, es2, ep2, ho2, hc2, hdt2, hk3, hp2, hn2⟩ := id hd'
        have nk : kv.1 ∉ (poured kvs (avs.take i)).map (·.1) := fun z => by
          rcases poured_keys z with y | y
          · exact hu hu0 kv.1 (List.mem_map_of_mem (List.mem_of_getElem? hkv)) y
          · have nd := hn
            rw [← List.take_append_drop i avs, List.map_append, List.nodup_append] at nd
            refine nd.2.2 kv.1 y kv.1 ?_ rfl
            have : avs.drop i = kv :: avs.drop (i + 1) := by
              rw [List.drop_eq_getElem_cons ltk]
              congr 1
              rw [List.getElem?_eq_getElem ltk] at hkv
              exact Option.some.inj hkv
            rw [this]; simp
        have nf : (es2.findIdx? fun e => knd.is kv.1 e.key) = none := by
          have e1 : (es2.findIdx? fun e => knd.is kv.1 e.key) = (poured kvs (avs.take i)).findIdx? fun q => decide (q.1 = kv.1) := by
            rw [← hp2.findIdx kv.1]; obtain ⟨l⟩ := es2; simp
          rw [e1, List.findIdx?_eq_none_iff]
          intro q hq
          exact decide_eq_false fun z => nk (z ▸ List.mem_map_of_mem hq)
        have fd : wpAny (model prog w) A (dictFind d es[i].key es[i].hash) (fun r s2 => r = none ∧ s2 = s') E s' := by
          rw [hk2]
          exact wpAny_dictFind_of i1 ho2 hdt2 hk3 ⟨nf, rfl⟩
        refine wpAny_bind (wpAny_mono fd (fun r s2 h2 => ?_) fun _ _ x => x)
        obtain ⟨rfl, rfl⟩ := h2
        rw [if_neg (by simp)]
        exact put
      · rw [if_neg hu0]
        exact put
    · rintro b s' ⟨pre, hr, hd', sb, es'⟩
      have hl : pre.length = avs.length := by
        have := congrArg List.length hr
        simp at this; omega
      rw [hl, List.take_length] at hd'
      rw [es']
      exact wpAny_pure (hQ _ hd' sb)
  case pre =>
    refine wpAny_bind (wpAny_dictEntries ho hdt ?_)
    refine wpAny_bind (wpAny_forIn_array' _ (fun rest b s' => s' = s ∧ ∀ e ∈ rest, ∀ b, e.key ≠ .ref b) _ ?_ ?_ _ _ ⟨rfl, ?_⟩)
    · rintro x rest b s' ⟨rfl, hr⟩
      have hx := hr x (by simp)
      have hr' : ∀ e ∈ rest, ∀ b, e.key ≠ .ref b := fun e he => hr e (by simp [he])
      split
      · next b' q => exact absurd q (hx b')
      · exact wpAny_pure ⟨rfl, hr'⟩
    · rintro b s' ⟨rfl, _⟩
      exact go
    · intro e he b q
      obtain ⟨k, h1, _⟩ := hk e (by simpa using he)
      rw [q, noref] at h1; cases h1
end
end PySem

set_option Elab.async false
set_option maxRecDepth 100000
set_option autoImplicit false
set_option linter.unusedVariables false
/-! {**e, k: v} -/
namespace AN
open PySem PySem.Spec PyProof.Rows L2
theorem mix_noref {P : Program} {w : World} (k : L2.Key) (b : Addr) : (mixKind P w).is k (.ref b) = false := by cases k <;> rfl
theorem poured_merged {vs rs : List (L2.Key × Value)} : poured vs rs = merged vs rs := by
  induction rs generalizing vs with
  | nil => rfl
  | cons r rs ih => exact ih
theorem merge_inv {X : Cx} {pins : List (Addr × Obj)} {σ : L2.St} {H : Hp} {s : Shared} {A : Around} {E : Value → Shared → Prop} {p a : Addr} {kvs avs : List (L2.Key × V)} {unique : Bool} {Q : Unit → Shared → Prop} (I : Inv X pins σ H s) (hp : H p = some (.dK kvs)) (ha : Rd H a (.dK avs)) (hne : p ≠ a) (hsz : kvs.length + avs.length ≤ sizeLine)
    (hu : unique = true → kvs = []) (h : ∀ s', Inv X pins σ (upd H p (.dK (mergeK kvs avs))) s' → Q () s') : wpAny (model X.prog X.w) A (mergeMapping p (.ref a) unique) Q E s := by
  obtain ⟨z, hd, vs, rel, dd⟩ := dk_rd I.hok ha
  obtain ⟨z0, hd0, vs0, rel0, dd0⟩ := dk_of I.hok hp
  have l0 := rel0.length
  have l1 := rel.length
  refine wpAny_merge hne hd dd0 dd mix_noref (fun u x hx => ?_) (by omega) fun h' dd' hs => ?_
  · rw [hu u, List.length_nil] at l0
    have : vs0 = [] := List.length_eq_zero_iff.mp l0.symm
    rw [this]; simp
  · have he : ∃ q, h'.get? p = some q := let ⟨q, _, _, hq, _⟩ := dd'; ⟨q, hq⟩
    have hz : (mergeK kvs avs).length ≤ sizeLine := by
      have := length_mergeK avs kvs
      omega
    rw [poured_merged] at dd'
    exact h _ (d_write (t' := s.toks) I (by rw [hp]; exact True.intro) hs he (dk_new hz hd0 (rel.merge rel0) dd'))
section
variable {X : Cx} {e1 ke ve : Expr} {te tk tv : TE} {pos : Pos}
def tDispM (te tk tv : TE) : TE := fun σ H Q => ∀ p, H p = none → te σ (upd H p (.dK [])) fun x H1 => ∃ (a : Addr) (avs : List (L2.Key × V)), x = .ref a ∧ a ≠ p ∧ Rd H1 a (.dK avs) ∧ H1 p = some (.dK []) ∧ avs.length < 1000 ∧
  ∀ p2, H1 p2 = none → p2 ≠ p → tk σ (upd (upd H1 p (.dK (mergeK [] avs))) p2 (.dK [])) fun y H3 => tv σ H3 fun z H4 => ∃ k, y = kV k ∧ H4 p2 = some (.dK []) ∧ H4 p = some (.dK (mergeK [] avs)) ∧ Q (.ref p) (upd (upd H4 p2 (.dK [(k, z)])) p (.dK (mergeK (mergeK [] avs) [(k, z)])))
theorem pe_dispM (h1 : PE X e1 te) (hk : PE X ke tk) (hv : PE X ve tv) : PE X (.Dict [none, some ke] [e1, ve] pos) (tDispM te tk tv) := by
  refine ⟨fun pins s σ H Q I q => ?_⟩
  show wpAny _ _ (do
    standAt pos
    dictDisplay [(none, do let x ← eval e1 X.env; standAt pos; pure x), (some (eval ke X.env), do let x ← eval ve X.env; standAt pos; pure x)]) _ _ _
  refine wpAny_bind (wpAny_standAt ?_)
  unfold dictDisplay
  simp only [List.forIn_cons, List.forIn_nil]
  have hn := I.hok.fresh (Nat.le_refl s.heap.objs.size)
  have I1 := I.laid (a := s.heap.objs.size) (o := .dK []) (h' := s.heap.push { cls := .type "dict", data := .dict #[] }) (t' := s.toks) (fun _ _ q => Heap.get?_push_of_some _ q) (Nat.le_refl _) (dk_empty s.heap I.big)
  refine wpAny_bind (wpAny_bind (wpAny_bind ?_))
  rw [if_pos (show ([] : List (Sem Value × Sem Value)).isEmpty = true from rfl)]
  refine wpAny_pure ?_
  dsimp only
  refine wpAny_bind (wpAny_alloc (wpAny_bind (wpAny_holding (wpAny_bind (thn (h1.run pins _ σ _ _ I1 (q _ hn)) fun u s2 ⟨x, H1, I2, rx, a, avs, ex, ne, ra, hp, l, q2⟩ => wpAny_bind (wpAny_standAt (wpAny_pure ?_)))))))
  subst ex
  cases rx
  refine wpAny_bind (wpAny_onRaise (wpAny_tryCatch (wpAny_onRaise (wpAny_holding (merge_inv I2 hp ra (Ne.symm ne) (by rw [List.length_nil, sizeLine_eq]; omega) (fun _ => rfl) fun s3 I3 => ?_)))))
  refine wpAny_pure ?_
  dsimp only
  refine wpAny_bind ?_
  rw [if_neg (show ¬ ((([] ++ [(eval ke X.env, (do let x ← eval ve X.env; standAt pos; pure x))] : List (Sem Value × Sem Value)).length == 17) = true) from Bool.false_ne_true)]
  refine wpAny_pure (wpAny_pure ?_)
  dsimp only
  refine wpAny_bind ?_
  rw [if_neg (show ¬ (([] ++ [(eval ke X.env, (do let x ← eval ve X.env; standAt pos; pure x))] : List (Sem Value × Sem Value)).isEmpty = true) from Bool.false_ne_true)]
  refine wpAny_bind (wpAny_holding ?_)
  unfold subDict
  have pz : s.heap.objs.size < s3.heap.objs.size := by
    obtain ⟨_, _, vs, _, o, es, ep, ho, _⟩ := dk_of I3.hok upd_same
    exact Heap.lt_size ho
  have hn2 := I3.hok.fresh (Nat.le_refl s3.heap.objs.size)
  have I4 := I3.laid (a := s3.heap.objs.size) (o := .dK []) (h' := s3.heap.push { cls := .type "dict", data := .dict #[] }) (t' := s3.toks) (fun _ _ q => Heap.get?_push_of_some _ q) (Nat.le_refl _) (dk_empty s3.heap I3.big)
  refine wpAny_bind (wpAny_alloc (wpAny_bind (wpAny_holding ?_)))
  rw [if_pos (show ([] ++ [(eval ke X.env, (do let x ← eval ve X.env; standAt pos; pure x))] : List (Sem Value × Sem Value)).length ≤ 15 from (by simp))]
  simp only [List.nil_append, evalPairs]
  have np : s3.heap.objs.size ≠ s.heap.objs.size := Nat.ne_of_gt pz
  refine wpAny_bind (wpAny_bind (thn (hk.run pins _ σ _ _ I4 (q2 _ (by rw [upd_ne np] at hn2; exact hn2) np)) fun ku s5 ⟨y, H3, I5, ry, q3⟩ => wpAny_bind (wpAny_holding (wpAny_bind (thn (hv.run pins s5 σ H3 _ I5 q3) fun vu s6 ⟨z, H4, I6, rz, k, ey, hp2, hp4, q4⟩ => wpAny_bind (wpAny_standAt (wpAny_pure ?_)))))))
  refine wpAny_bind (wpAny_holding (wpAny_pure (wpAny_pure (wpAny_holding ?_))))
  simp only [List.forIn_cons, List.forIn_nil]
  subst ey
  obtain ⟨z0, hd0, vs0, rel0, dd0⟩ := dk_of I6.hok hp2
  have e0 : vs0 = [] := List.length_eq_zero_iff.mp rel0.length.symm
  subst e0
  refine wpAny_bind (wpAny_bind (wpAny_bind (wpAny_dictSet_pairs (kV_is ry) dd0 (fun h' dd' hs => ?_) (Nat.zero_le _))))
  have he : ∃ q, h'.get? s3.heap.objs.size = some q := let ⟨q, _, _, hq, _⟩ := dd'; ⟨q, hq⟩
  have I7 : Inv X pins σ (upd H4 s3.heap.objs.size (.dK [(k, z)])) { s6 with heap := h', toks := s6.toks + 1 } :=
    d_write (t' := s6.toks + 1) I6 (by rw [hp2]; exact True.intro) hs he (dk_new (by show 1 ≤ sizeLine; decide) hd0 (KV.put rel0 k rz) dd')
  refine wpAny_pure (wpAny_pure (wpAny_pure (wpAny_pure ?_)))
  refine wpAny_bind (wpAny_onRaise (wpAny_holding (merge_inv (kvs := mergeK [] avs) (avs := [(k, z)]) I7 (by rw [upd_ne (Ne.symm np)]; exact hp4) (.inl upd_same) (Ne.symm np) (by
    have := length_mergeK avs []
    rw [List.length_nil] at this
    rw [List.length_singleton, sizeLine_eq]; omega) (fun u => by cases u) fun s8 I8 => ?_)))
  exact wpAny_pure (wpAny_pure ⟨.ref _, _, I8, rfl, q4⟩)
end
def dicOf : D → Option (List (Key × D))
  | .dic kvs => some kvs
  | _ => none
/-- values that raise nothing -/
def mDispM (ma mk mv : M Opd) : M O := fun env => match M.bind ma (ap1 dicOf) env with
  | .ok kvs e1 => (match mk e1 with
    | .ok y e2 => (match M.bind (ap1 keyOf y) (fun k => M.bind mv fun z => M.bind (frz1 z) fun d => M.pure (k, d)) e2 with
      | .ok kd e3 => if kvs.length < 1000 then .ok (.dic (mergeD (mergeD [] kvs) [kd])) e3 else .bad
      | _ => .bad)
    | _ => .bad)
  | _ => .bad
section
variable {B : Bx} {X : Cx} {W : WX} {F H F1 H1 F' H' : Hp} {env e1 : AN.Env} {σ : L2.St} {pos : Pos} {own : Addr → Prop} {p : Addr} {u : HO}
theorem Step.hide (hp : H p = none) (st : Step own F (upd H p u) F' H') : Step own F H F' H' := ⟨st.le, fun b o e n => by
    have hb : b ≠ p := fun z => by rw [z, hp] at e; cases e
    exact st.keep b o (by rw [upd_ne hb]; exact e) n, fun b w q => by
    by_cases hb : b = p
    · rw [hb]; exact .inr (.inl hp)
    · have := st.new b w q
      rw [upd_ne hb] at this
      exact this, fun b o e => by
    have hb : b ≠ p := fun z => by rw [z, hp] at e; cases e
    exact st.stay b o (by rw [upd_ne hb]; exact e)⟩
theorem Step.setNew (hp : H p = none) (st : Step own F H F' H') : Step own F H F' (upd H' p u) := ⟨st.le, fun b o e n => by
    have hb : b ≠ p := fun z => by rw [z, hp] at e; cases e
    rw [upd_ne hb]
    exact st.keep b o e n, st.new, fun b o e => by
    have hb : b ≠ p := fun z => by rw [z, hp] at e; cases e
    rw [upd_ne hb]
    exact st.stay b o e⟩
theorem Step.fresh (fp : F p = none) (hp : H p = none) (st : Step own F (upd H p u) F' H') (no : ¬ own p) : F' p = none := by
  cases w : F' p with
  | none => rfl
  | some w' =>
    rcases st.new _ _ w with y | y | y
    · rw [fp] at y; cases y
    · rw [upd_same] at y; cases y
    · exact absurd y no
theorem not_own (S : Sim B F env σ H) (hp : H p = none) : ¬ Own env σ p := fun z => by
  obtain ⟨_, w, hw⟩ := z.ex S
  rw [hp] at hw; cases hw
theorem dispM_read {ma mk mv : M Opd} {Q : VK} (h : tO B W (mDispM ma mk mv) σ H Q) : tDispM (tE B W ma) (tE B W mk) (tE B W mv) σ H Q := by
  obtain ⟨F, env, S, h⟩ := h
  intro p hp
  obtain ⟨s0, hh0⟩ := step0_mk (u := .dK []) S.hold hp
  have S0 := S.step0 s0 hh0
  have nO := not_own S hp
  have fp : F p = none := S.hold.none hp
  unfold mDispM at h
  cases q1 : M.bind ma (ap1 dicOf) env with
  | bad => rw [q1] at h; exact h.elim
  | exc c d e => rw [q1] at h; exact h.elim
  | ok kvs e1' =>
  rw [q1] at h
  dsimp only at h
  unfold M.bind at q1
  cases qa : ma env with
  | bad => rw [qa] at q1; cases q1
  | exc c d e => rw [qa] at q1; cases q1
  | ok x e1 =>
  rw [qa] at q1
  dsimp only at q1
  have hv : view e1 x = some (.dic kvs) ∧ e1' = e1 := by
    unfold AN.ap1 at q1
    cases z : view e1 x with
    | none => rw [z] at q1; cases q1
    | some d =>
      rw [z] at q1
      cases d with
      | dic ks => cases q1; exact ⟨rfl, rfl⟩
      | _ => cases q1
  obtain ⟨hv, rfl⟩ := hv
  cases qk : mk e1' with
  | bad => rw [qk] at h; exact h.elim
  | exc c d e => rw [qk] at h; exact h.elim
  | ok y e2 =>
  rw [qk] at h
  dsimp only at h
  cases q2 : M.bind (ap1 keyOf y) (fun k => M.bind mv fun z => M.bind (frz1 z) fun d => M.pure (k, d)) e2 with
  | bad => rw [q2] at h; exact h.elim
  | exc c d e => rw [q2] at h; exact h.elim
  | ok kd e4 =>
  rw [q2] at h
  dsimp only at h
  by_cases hz : kvs.length < 1000
  · rw [if_pos hz] at h
    have hk : ∃ a k, view e2 y = some a ∧ keyOf a = some k ∧ M.bind mv (fun z => M.bind (frz1 z) fun d => M.pure (k, d)) e2 = .ok kd e4 := by
      unfold M.bind AN.ap1 at q2
      cases z : view e2 y with
      | none => rw [z] at q2; cases q2
      | some a =>
        rw [z] at q2
        dsimp only at q2
        cases z2 : keyOf a with
        | none => rw [z2] at q2; cases q2
        | some k => rw [z2] at q2; exact ⟨a, k, rfl, z2, q2⟩
    obtain ⟨ka, k, vk, ek, q3⟩ := hk
    have hd : ∃ z e3 d, mv e2 = .ok z e3 ∧ frz1 z e3 = .ok d e4 ∧ kd = (k, d) := by
      unfold M.bind at q3
      cases z : mv e2 with
      | bad => rw [z] at q3; cases q3
      | exc c d e => rw [z] at q3; cases q3
      | ok zz e3 =>
        rw [z] at q3
        dsimp only at q3
        cases z2 : frz1 zz e3 with
        | bad => rw [z2] at q3; cases q3
        | exc c d e => rw [z2] at q3; cases q3
        | ok d e => rw [z2] at q3; cases q3; exact ⟨zz, e3, d, rfl, z2, rfl⟩
    obtain ⟨zz, e3, d, qv, qf, rfl⟩ := hd
    refine ⟨F, env, S0, ?_⟩
    rw [qa]
    intro F1 H1 st1 sm1 le1 v rv
    have hp1 : H1 p = some (.dK []) := st1.keep p _ upd_same nO
    have fp1 : F1 p = none := st1.fresh fp hp nO
    have nO1 : ¬ Own e1' σ p := fun z => nO (le1.own z)
    obtain ⟨a, ks, rfl, ra, l, rk⟩ := sm1.view rv hv
    have ne : a ≠ p := by
      intro z
      subst z
      cases x with
      | d dd =>
        cases hv
        obtain ⟨p', ks', e', a', _, _⟩ := rv
        cases e'
        rw [fp1] at a'; cases a'
      | sl i =>
        have rv' : σ[i]? = some (some (.ref a)) := rv
        have hv2 : (match e1'[i]? with
          | some (Slot.fz d) => some d
          | some (Slot.ow _ o) => some o.toD
          | _ => none) = some (D.dic kvs) := hv
        split at hv2
        · next dd z =>
          cases hv2
          obtain ⟨v', e', r'⟩ := sm1.fz i _ z
          rw [rv'] at e'; cases e'
          obtain ⟨p', ks', e', a', _, _⟩ := r'
          cases e'
          rw [fp1] at a'; cases a'
        · next kk oo z => exact nO1 ⟨i, kk, oo, z, rv'⟩
        · cases hv2
    have lk := rk.length
    refine ⟨a, ks, rfl, ne, ra, hp1, by omega, fun p2 hp2 np => ?_⟩
    have smA := sm1.updD (u := .dK (mergeK [] ks)) fp1 nO1
    have hp2' : upd H1 p (.dK (mergeK [] ks)) p2 = none := by rw [upd_ne np]; exact hp2
    obtain ⟨s1, hh1⟩ := step0_mk (u := .dK []) smA.hold hp2'
    have smB := smA.step0 s1 hh1
    have nP1 : ¬ Own e1' σ p2 := not_own smA hp2'
    have fq1 : F1 p2 = none := smA.hold.none hp2'
    refine ⟨F1, e1', smB, ?_⟩
    rw [qk]
    intro F2 H3 st2 sm2 le2 vy ry
    refine ⟨F2, e2, sm2, ?_⟩
    rw [qv]
    intro F3 H4 st3 sm3 le3 vz rz
    obtain ⟨d', e4', F4, st4, sm4, le4, r4, q4⟩ := sm3.frz1 (W := W) rz (k := fun d' e' _ _ => d' = d ∧ e' = e4) (by rw [qf]; exact fun _ _ _ _ _ => ⟨rfl, rfl⟩)
    obtain ⟨rfl, rfl⟩ := q4
    have nP2 : ¬ Own e2 σ p2 := fun z => nP1 (le2.own z)
    have nO2 : ¬ Own e2 σ p := fun z => nO1 (le2.own z)
    have nP3 : ¬ Own e3 σ p2 := fun z => nP2 (le3.own z)
    have nO3 : ¬ Own e3 σ p := fun z => nO2 (le3.own z)
    have nP4 : ¬ Own e4' σ p2 := fun z => nP3 (le4.own z)
    have nO4 : ¬ Own e4' σ p := fun z => nO3 (le4.own z)
    have st23 := st2.trans st3 fun b z => .inl (le2.own z)
    have st24 := st23.trans st4 fun b z => .inl (le2.own (le3.own z))
    have a1 : H4 p2 = some (.dK []) := st23.keep p2 _ upd_same nP1
    have a2 : H4 p = some (.dK (mergeK [] ks)) := st23.keep p _ (by rw [upd_ne (Ne.symm np)]; exact upd_same) nO1
    refine ⟨k, keyOf_rep ek (sm2.view ry vk), a1, a2, ?_⟩
    have fq4 : F4 p2 = none := st24.fresh fq1 hp2' nP1
    have fp4 : F4 p = none := by
      cases w : F4 p with
      | none => rfl
      | some w' =>
        rcases st24.new _ _ w with y | y | y
        · rw [fp1] at y; cases y
        · rw [upd_ne (Ne.symm np), upd_same] at y; cases y
        · exact absurd y nO1
    have sA : Step (Own env σ) F H F1 (upd H1 p (.dK (mergeK [] ks))) := (st1.hide hp).setNew hp
    have sB : Step (Own e1' σ) F1 (upd H1 p (.dK (mergeK [] ks))) F4 (upd H4 p2 (.dK [(k, vz)])) := (st24.hide hp2').setNew hp2'
    have sC := (sA.trans sB fun b z => .inl (le1.own z)).setNew (u := .dK (mergeK (mergeK [] ks) [(k, vz)])) hp
    have smF := (sm4.updD (u := .dK [(k, vz)]) fq4 nP4).updD (u := .dK (mergeK (mergeK [] ks) [(k, vz)])) fp4 nO4
    have hl1 := mergeD_len (more := kvs) (acc := [])
    rw [List.length_nil] at hl1
    have hl2 := mergeD_len (more := [(k, d')]) (acc := mergeD [] kvs)
    rw [List.length_singleton] at hl2
    have hs : (1001 : Nat) ≤ sizeLine := by decide
    exact h F4 _ sC smF (((le1.trans le2).trans le3).trans le4) p hp fp4 ⟨by omega, _, upd_same, RepK.merge ⟨_, _, rfl, r4, rfl⟩ (RepK.merge (RepK.mono (st24.le) _ _ rk) (show RepK B F4 [] [] from rfl))⟩
  · rw [if_neg hz] at h; exact h.elim
theorem do_dispM {e ke ve : Expr} {ma mk mv : M Opd} (ha : DE B X W e ma) (hk : DE B X W ke mk) (hv : DE B X W ve mv) : DO B X W (.Dict [none, some ke] [e, ve] pos) (mDispM ma mk mv) := PE.imp (pe_dispM ha hk hv) fun σ H Q h => dispM_read h
end
theorem dispM_ok {ma mk mv : M Opd} {e e1 : AN.Env} {x y : Opd} {ka d : D} {kvs : List (Key × D)} {k : Key} (h1 : ma e = .ok x e) (h1' : view e x = some (.dic kvs)) (h2 : mk e = .ok y e) (h2' : view e y = some ka) (h2'' : keyOf ka = some k) (h3 : mv e = .ok (.d d) e1) (hz : kvs.length < 1000) : mDispM ma mk mv e = .ok (.dic (mergeD (mergeD [] kvs) [(k, d)])) e1 := by
  unfold mDispM
  have q1 : M.bind ma (ap1 dicOf) e = .ok kvs e := by
    rw [bind_r, h1, th_ok, ap1_r, h1']; rfl
  rw [q1]
  dsimp only
  rw [h2]
  dsimp only
  have q2 : M.bind (ap1 keyOf y) (fun k => M.bind mv fun z => M.bind (frz1 z) fun d => M.pure (k, d)) e = .ok (k, d) e1 := by
    rw [bind_r, ap1_r, h2']
    simp only [Option.bind_some, h2'', rop_some, th_ok, bind_r, h3, frz1_d, pure_r]
  rw [q2]
  dsimp only
  rw [if_pos hz]
end AN

set_option Elab.async false
set_option maxRecDepth 100000
set_option autoImplicit false
set_option linter.unusedVariables false
/-! C(**d) -/
namespace AN
open PySem PySem.Spec PyProof.Rows L2
section
variable {M : Model} {A : Around} {E : Value → Shared → Prop} {s : Shared}
/-- behind a call: its result is held while the machine may look about -/
theorem dd_tail {t : Sem Value} {Q : Value → Shared → Prop} (h : wpAny M A t Q E s) : wpAny M A (t >>= fun r => holding [r] point >>= fun _ => pure r) Q E s := by
  apply wpAny_bind
  refine wpAny_mono h (fun r u q => ?_) (fun _ _ e => e)
  apply wpAny_bind
  apply wpAny_holding
  exact wpAny_point (wpAny_pure q)
theorem dd_mark {f mk : Value} {xs : List Value} {kw : List (Str × Value)} {Q : Value → Shared → Prop} (h : wpAny M A (call f xs kw) Q E s) : wpAny M A (callMarked mk f xs kw) Q E s := by
  simp only [callMarked]
  exact Calls.wpAny_keep h
/-- a call whose arguments are one dict -/
theorem dd_call {f : Value} {first : List Value} {pos : Pos} {Q : Value → Shared → Prop} {P : Heap → Prop} {kws : List (Option Str × Sem Value)} (hst : kws.any (·.1.isNone) = true)
    (hk : ∀ g, P g → ∃ kp, (kp = Keeper.frame ∨ kp = Keeper.machine ∨ kp = Keeper.boundFrame) ∧ PySem.W.Looks M g (keeperOf f) kp)
    (h : wpAny M A (evalArgs f true [] kws) (fun z t => P t.heap ∧ wpAny M A (call f (first ++ z.pos) z.kw) Q E t) E s) : wpAny M A (callWith pos f first [] kws) Q E s := by
  simp only [callWith]
  apply wpAny_bind
  apply wpAny_holding
  refine wpAny_mono h (fun z t both => ?_) (fun _ _ e => e)
  apply wpAny_bind
  apply wpAny_standAt
  obtain ⟨kp, which, seen⟩ := hk _ both.1
  have run := both.2
  simp only [hst, Bool.or_true]
  apply wpAny_bind
  apply seen.here
  rcases which with e | e | e
  all_goals
    subst e
    dsimp only
    first
      | exact dd_tail (dd_mark run)
      | exact dd_tail (wpAny_operating run)
end
theorem kw_list {P : Program} {w : World} : ∀ {ks : List Str} {zs : List V} {vs : List (L2.Key × Value)} {es : List DictEntry}, zs.length = ks.length → KV ((ks.zip zs).map fun q => (.inr q.1, q.2)) vs → Pairs (mixKind P w) es vs →
    ∃ ws, Vals zs ws ∧ Paired (fun (e : DictEntry) (q : Str × Value) => (∃ t, e.key = .str q.1 t) ∧ e.val = q.2) es (ks.zip ws)
  | [], [], vs, es, _, hv, hp => by
    have hv : KV [] vs := hv
    cases hv
    cases hp
    exact ⟨[], .nil, .nil⟩
  | k :: ks, z :: zs, vs, es, hl, hv, hp => by
    have hv : KV ((.inr k, z) :: (ks.zip zs).map fun q => (.inr q.1, q.2)) vs := hv
    cases hv with
    | @cons _ b _ bs h t =>
      cases hp with
      | @cons e _ es _ h1 h2 h3 =>
        obtain ⟨ws, r1, r2⟩ := kw_list (P := P) (w := w) (by simpa using hl) t h3
        obtain ⟨b1, b2⟩ := b
        have hb : (Sum.inr k : L2.Key) = b1 := h.1
        subst hb
        refine ⟨b2 :: ws, .cons h.2 r1, .cons ⟨?_, h2⟩ r2⟩
        rcases keyIs_shape (k := .inr k) (v := e.key) h1 with ⟨i, t, q1, q2⟩ | ⟨x, t, q1, q2⟩
        · cases q1
        · cases q1; exact ⟨t, q2⟩
  | [], _ :: _, _, _, hl, _, _ => by cases hl
  | _ :: _, [], _, _, hl, _, _ => by cases hl
theorem kw_in {X : Cx} {pins : List (Addr × Obj)} {σ : L2.St} {H : Hp} {s : Shared} {A : Around} {E : Value → Shared → Prop} {f : Value} {dd : Addr} {ks : List Str} {zs : List V} {Q : List (Str × Value) → Shared → Prop} (I : Inv X pins σ H s) (hd : H dd = some (.dK ((ks.zip zs).map fun q => (.inr q.1, q.2)))) (hl : zs.length = ks.length)
    (h : ∀ ws, Vals zs ws → Q (ks.zip ws) s) : wpAny (model X.prog X.w) A (keywordsIn f dd) Q E s := by
  obtain ⟨_, _, vs, rel, o, es, ep, ho, hc, hdt, hk, hp, hn⟩ := dk_of I.hok hd
  obtain ⟨ws, r1, r2⟩ := kw_list hl rel hp
  unfold keywordsIn
  refine wpAny_bind (wpAny_dictEntries ho hdt ?_)
  refine wpAny_bind (wpAny_forIn_array' _ (fun rest kw s' => s' = s ∧ ∃ more, Paired (fun (e : DictEntry) (q : Str × Value) => (∃ t, e.key = .str q.1 t) ∧ e.val = q.2) rest more ∧ kw ++ more = ks.zip ws) _ ?_ ?_ _ _ ⟨rfl, _, r2, rfl⟩)
  · rintro e rest kw s' ⟨rfl, more, pr, eq⟩
    cases pr with
    | @cons _ q _ more hq ht =>
      obtain ⟨⟨t, hk1⟩, hv1⟩ := hq
      dsimp only
      rw [hk1]
      dsimp only
      rw [hv1]
      exact wpAny_pure ⟨rfl, more, ht, by rw [← eq]; simp⟩
  · rintro kw s' ⟨rfl, more, pr, eq⟩
    cases pr
    rw [List.append_nil] at eq
    rw [eq]
    exact wpAny_pure (h ws r1)
section
variable {X : Cx} {e : Expr} {te : TE} {pos : Pos} {pins : List (Addr × Obj)} {σ : L2.St} {H : Hp} {s : Shared} {Q : Args → Shared → Prop}
/-- the arguments of f(**e) -/
theorem dd_args {f : Value} {R : Addr → VK} (he : PE X e te) (I : Inv X pins σ H s) (h : ∀ dd, H dd = none → te σ (upd H dd (.dK [])) (R dd)) (hR : ∀ dd x H1, R dd x H1 → ∃ (a : Addr) (avs : List (L2.Key × V)) (ks : List Str) (zs : List V), x = .ref a ∧ a ≠ dd ∧ Rd H1 a (.dK avs) ∧ H1 dd = some (.dK []) ∧ avs.length < 1000 ∧ zs.length = ks.length ∧ mergeK [] avs = (ks.zip zs).map (fun q => (.inr q.1, q.2)) ∧
      ∀ s' ws, Inv X pins σ (upd H1 dd (.dK (mergeK [] avs))) s' → Vals zs ws → Q ⟨[], ks.zip ws⟩ s') :
    wpAny (model X.prog X.w) X.A (evalArgs f true [] [(none, do let v ← eval e X.env; standAt pos; pure v)]) Q X.xe s := by
  unfold evalArgs
  simp only [spliced, pure_bind]
  refine wpAny_holding ?_
  have e1 : ([((none : Option Str), (do let v ← eval e X.env; standAt pos; pure v))] : List (Option Str × Sem Value)).all (·.1.isSome) = false := rfl
  simp only [e1]
  rw [if_neg Bool.false_ne_true]
  refine wpAny_bind ?_
  unfold mergedKeywords
  have hn := I.hok.fresh (Nat.le_refl s.heap.objs.size)
  have I1 := I.laid (a := s.heap.objs.size) (o := .dK []) (h' := s.heap.push { cls := .type "dict", data := .dict #[] }) (t' := s.toks) (fun _ _ q => Heap.get?_push_of_some _ q) (Nat.le_refl _) (dk_empty s.heap I.big)
  refine wpAny_bind (wpAny_alloc (wpAny_bind (wpAny_holding ?_)))
  extract_lets merge group g
  have gg : group g = pure () := rfl
  rw [List.forIn_cons]
  refine wpAny_bind (wpAny_bind ?_)
  show wpAny _ _ (group g >>= fun _ => (do let v ← eval e X.env; standAt pos; pure v) >>= fun m => (merge m).onRaise _ >>= fun _ => pure (ForInStep.yield g)) _ _ _
  rw [gg]
  refine wpAny_bind (wpAny_pure (wpAny_bind (wpAny_bind (thn (he.run pins _ σ _ _ I1 (h _ hn)) fun u s2 ⟨x, H1, I2, rx, hr⟩ => wpAny_bind (wpAny_standAt (wpAny_pure ?_))))))
  obtain ⟨a, avs, ks, zs, ex, ne, ra, hp, l, lz, em, q2⟩ := hR _ _ _ hr
  subst ex
  cases rx
  refine wpAny_bind (wpAny_onRaise ?_)
  show wpAny _ _ (holding [.ref a] (Sem.tryCatch ((mergeMapping s.heap.objs.size (.ref a) true).onRaise _) _)) _ _ _
  refine wpAny_holding (wpAny_tryCatch (wpAny_onRaise (merge_inv I2 hp ra (Ne.symm ne) (by rw [List.length_nil, sizeLine_eq]; omega) (fun _ => rfl) fun s3 I3 => ?_)))
  refine wpAny_pure ?_
  show wpAny _ _ (forIn ([] : List (Option Str × Sem Value)) g _) _ _ _
  rw [List.forIn_nil]
  refine wpAny_pure ?_
  show wpAny _ _ (group g) _ _ _
  rw [gg]
  refine wpAny_pure (wpAny_pure (wpAny_bind (wpAny_holding ?_)))
  rw [em] at I3
  exact kw_in I3 upd_same lz fun ws r => wpAny_pure (q2 s3 ws (by rw [em]; exact I3) r)
def tMakeDD (C : Addr) (ks : List Str) (gV : List V → List V → List V) (sp : Sp) (E : L2.St → XK) (te : TE) : TE := fun σ H Q => ∀ dd, H dd = none → te σ (upd H dd (.dK [])) fun x H1 => ∃ (a : Addr) (avs : List (L2.Key × V)) (zs : List V), x = .ref a ∧ a ≠ dd ∧ Rd H1 a (.dK avs) ∧ H1 dd = some (.dK []) ∧ avs.length < 1000 ∧ zs.length = ks.length ∧ mergeK [] avs = (ks.zip zs).map (fun q => (.inr q.1, q.2)) ∧
  ∀ x dx, upd H1 dd (.dK (mergeK [] avs)) x = none → upd H1 dd (.dK (mergeK [] avs)) dx = none → dx ≠ x → sp (gV [.ref x] zs) (upd (upd (upd H1 dd (.dK (mergeK [] avs))) dx (.own x)) x (.ins C dx [])) (fun v H2 => v = .non ∧ Q (.ref x) H2) (E σ)
theorem pe_makeDD {k : Nat} {ps ks : List Str} {x : Str} {p : Pos} {kp : Pos} {f C : Addr} {fd : FuncData} {sp : Sp} {E : L2.St → XK} {g : List Value → List Value → List Value} {gV : List V → List V → List V} (M : Mk X.K C f) (F : FnOk X.prog X.w X.K X.mg X.base (L2.CX X.prog X.w) k f fd ps sp) (hr : Room (k + 1) X.A) (hm : X.mg x = some (.ref C)) (hb : KBn X.K fd ps 1 ks g gV) (hx : ∀ σ, PassesAt (L2.CX X.prog X.w) X σ (E σ)) (he : PE X e te) (hg : Gl X x := by rfl) (hdb : (x == ("__debug__" : Str)) = false := by decide) :
    PE X (.Call (.Name x p) [] [⟨none, e, kp⟩] pos) (tMakeDD C ks gV sp E te) := by
  refine ⟨fun pins s σ H Q I h => wpAny_Call_Name_kw (ld_glob I hg hm ?_ hdb)⟩
  show wpAny _ _ (callWith pos (.ref C) [] [] [(none, do let v ← eval e X.env; standAt pos; pure v)]) _ _ _
  refine dd_call (P := fun h => X.K.In h) rfl (PySem.W.keeps_K M.kp) (dd_args he I h fun dd y H1 hr1 => ?_)
  obtain ⟨a, avs, zs, ex, ne, ra, hp, l, lz, em, q⟩ := hr1
  refine ⟨a, avs, ks, zs, ex, ne, ra, hp, l, lz, em, fun s' ws I' rz => ⟨I'.kIn, ?_⟩⟩
  exact run_makeKS (us := []) (vs := []) M F hr hb (hx σ) I' .nil rz rfl lz q
end
theorem putK_new {k : L2.Key} {v : V} : ∀ {kvs : List (L2.Key × V)}, k ∉ kvs.map (·.1) → putK kvs k v = kvs ++ [(k, v)] := fun {kvs} h => by
  unfold putK
  rw [if_neg]
  rw [List.any_eq_true]
  rintro ⟨q, hq, e⟩
  exact h (List.mem_map.mpr ⟨q, hq, of_decide_eq_true e⟩)
theorem mergeK_nd : ∀ {more acc : List (L2.Key × V)}, ((acc ++ more).map (·.1)).Nodup → mergeK acc more = acc ++ more
  | [], acc, _ => by simp [mergeK]
  | q :: more, acc, h => by
    have nq : q.1 ∉ acc.map (·.1) := fun z => by
      rw [List.map_append, List.nodup_append] at h
      exact h.2.2 q.1 z q.1 (by simp) rfl
    show mergeK (putK acc q.1 q.2) more = _
    rw [putK_new nq, mergeK_nd (by simpa using h)]
    simp
section
variable {B : Bx} {X : Cx} {W : WX} {F H F1 H1 : Hp} {env e1 : AN.Env} {σ : L2.St} {pos : Pos}
theorem Post.lift {α : Type} {k : α → AN.Env → Hp → Hp → Prop} {r : R α} (sA : Step (Own env σ) F H F1 H1) (le : EnvLe env e1) (h : Post B W F env σ H k r) : Post B W F1 e1 σ H1 k r := by
  have tr : ∀ {F2 H2 : Hp}, Step (Own e1 σ) F1 H1 F2 H2 → Step (Own env σ) F H F2 H2 := fun s2 => sA.trans s2 fun b z => .inl (le.own z)
  cases r with
  | bad => exact h
  | ok b e2 => exact fun F2 H2 s2 m2 o2 => h F2 H2 (tr s2) m2 (le.trans o2)
  | exc c d e2 =>
    obtain ⟨C, fld, hb, h'⟩ := h
    exact ⟨C, fld, hb, fun F2 H2 dx v s2 ⟨m2, o2⟩ hd hf h0 r => h' F2 H2 dx v (tr s2) ⟨m2, le.trans o2⟩ hd hf (sA.back h0) r⟩
def mMakeDD (c : String) (n : Nat) (ks : List Str) (π : List (Nat ⊕ Nat)) (dms : List D) (f : Fn) (ma : M Opd) : M O := M.bind ma fun x => M.bind (ap1 dicOf x) fun kvs => if kvs.map (·.1) = ks.map .inr then makeP c n f (pkD π dms ((kvs.map (·.2)).map .d)) else fun _ => .bad
theorem repK_keys : ∀ {kvs : List (Key × D)} {ks : List (Key × V)}, RepK B F kvs ks → ks.map (·.1) = kvs.map (·.1)
  | [], ks, h => by rw [show ks = [] from h]; rfl
  | (k, d) :: kvs, _, h => by
    obtain ⟨v, r, rfl, _, h2⟩ := h
    rw [List.map_cons, List.map_cons, repK_keys h2]
theorem repK_opds : ∀ {kvs : List (Key × D)} {ks : List (Key × V)}, RepK B F kvs ks → OpdsRel B F σ (ks.map (·.2)) ((kvs.map (·.2)).map .d)
  | [], ks, h => by rw [show ks = [] from h]; exact .nil
  | (k, d) :: kvs, _, h => by
    obtain ⟨v, r, rfl, h1, h2⟩ := h
    exact .cons h1 (repK_opds h2)
theorem zip_keys {ks : List Str} : ∀ {avs : List (L2.Key × V)}, avs.map (·.1) = ks.map .inr → avs = (ks.zip (avs.map (·.2))).map fun q => (.inr q.1, q.2) := by
  induction ks with
  | nil => intro avs h; cases avs with
    | nil => rfl
    | cons _ _ => cases h
  | cons k ks ih =>
    intro avs h
    cases avs with
    | nil => cases h
    | cons a avs =>
      rw [List.map_cons, List.map_cons, List.cons.injEq] at h
      obtain ⟨a1, a2⟩ := a
      have h1 : a1 = .inr k := h.1
      subst h1
      rw [List.map_cons, List.zip_cons_cons, List.map_cons, ← ih h.2]
theorem makeDD_read {c : String} {C : Addr} {ps ks : List Str} {π : List (Nat ⊕ Nat)} {dms : List D} {fn : Fn} {ma : M Opd} {gV : List V → List V → List V} {Q : VK} (hc : B.cls c = some C) (hnd : ks.Nodup) (hk : ks.length < 1000)
    (rel : ∀ (F : Hp) (σ : L2.St) (a : V) (zs : List V) (xs : List Opd), OpdsRel B F σ zs xs → zs.length = ks.length → ∃ vs, gV [a] zs = a :: vs ∧ OpdsRel B F σ vs (pkD π dms xs))
    (h : tO B W (mMakeDD c ps.length ks π dms fn ma) σ H Q) : tMakeDD C ks gV (spOf B (ps.length + 1) fn) (WE W) (tE B W ma) σ H Q := by
  obtain ⟨F, env, S, h⟩ := h
  intro dd hdd
  obtain ⟨s0, hh0⟩ := step0_mk (u := .dK []) S.hold hdd
  have S0 := S.step0 s0 hh0
  have nO := not_own S hdd
  have fp : F dd = none := S.hold.none hdd
  refine ⟨F, env, S0, ?_⟩
  unfold mMakeDD M.bind at h
  cases qa : ma env with
  | bad => rw [qa] at h; exact h.elim
  | exc c d e =>
    rw [qa] at h
    obtain ⟨C', fld, hb, h'⟩ := h
    exact ⟨C', fld, hb, fun F2 H2 dx v s2 ⟨m2, o2⟩ hd hf h0 r => h' F2 H2 dx v (s2.hide hdd) ⟨m2, o2⟩ hd hf (by
      by_cases z : dx = dd
      · rw [z]; exact hdd
      · rw [upd_ne z] at h0; exact h0) r⟩
  | ok x e1 =>
  rw [qa] at h
  dsimp only at h
  intro F1 H1 st1 sm1 le1 v rv
  have hp1 : H1 dd = some (.dK []) := st1.keep dd _ upd_same nO
  have fp1 : F1 dd = none := st1.fresh fp hdd nO
  have nO1 : ¬ Own e1 σ dd := fun z => nO (le1.own z)
  cases qv : view e1 x with
  | none => simp only [AN.ap1, qv] at h; exact h.elim
  | some d =>
  cases d with
  | dic kvs =>
    simp only [AN.ap1, qv, dicOf] at h
    by_cases hks : kvs.map (·.1) = ks.map .inr
    · rw [if_pos hks] at h
      obtain ⟨a, avs, rfl, ra, l, rk⟩ := sm1.view rv qv
      have ne : a ≠ dd := by
        intro z
        subst z
        cases x with
        | d dd' =>
          cases qv
          obtain ⟨p', ks', e', a', _, _⟩ := rv
          cases e'
          rw [fp1] at a'; cases a'
        | sl i =>
          have rv' : σ[i]? = some (some (.ref a)) := rv
          have hv2 : (match e1[i]? with
            | some (Slot.fz d) => some d
            | some (Slot.ow _ o) => some o.toD
            | _ => none) = some (D.dic kvs) := qv
          split at hv2
          · next dd' z =>
            cases hv2
            obtain ⟨v', e', r'⟩ := sm1.fz i _ z
            rw [rv'] at e'; cases e'
            obtain ⟨p', ks', e', a', _, _⟩ := r'
            cases e'
            rw [fp1] at a'; cases a'
          · next kk oo z => exact nO1 ⟨i, kk, oo, z, rv'⟩
          · cases hv2
      have lk := rk.length
      have keys := (repK_keys rk).trans hks
      have lks : avs.length = ks.length := by
        have := congrArg List.length keys
        simpa using this
      have nd : ((([] : List (L2.Key × V)) ++ avs).map (·.1)).Nodup := by
        rw [List.nil_append, keys]
        exact List.Pairwise.map _ (fun a b (n : a ≠ b) (z : (Sum.inr a : L2.Key) = .inr b) => n (Sum.inr.inj z)) hnd
      have em : mergeK [] avs = avs := by rw [mergeK_nd nd, List.nil_append]
      refine ⟨a, avs, avs.map (·.2), rfl, ne, ra, hp1, by omega, by rw [List.length_map]; exact lks, by rw [em]; exact zip_keys keys, fun x0 dx hx0 hdx ne0 => ?_⟩
      have sA : Step (Own env σ) F H F1 (upd H1 dd (.dK (mergeK [] avs))) := (st1.hide hdd).setNew hdd
      have smA := sm1.updD (u := .dK (mergeK [] avs)) fp1 nO1
      obtain ⟨vs2, e2, r2⟩ := rel F1 σ (.ref x0) (avs.map (·.2)) _ (repK_opds rk) (by rw [List.length_map]; exact lks)
      rw [e2]
      exact make_read hc smA r2 (Post.lift sA le1 h) (fun o e2 F2 H2 s2 m2 l2 k2 p hp hf ho => k2 p (sA.back hp) hf ho) x0 dx hx0 hdx ne0
    · rw [if_neg hks] at h; exact h.elim
  | _ => simp only [AN.ap1, qv, dicOf] at h; exact h.elim
theorem do_makeDD {c : String} {k : Nat} {ps ks : List Str} {π : List (Nat ⊕ Nat)} {dms : List D} {fn : Fn} {x : Str} {p kp : Pos} {e : Expr} {ma : M Opd} (N : MakKO X.prog X.w X.K X.mg X.base B x c k ps ks π dms fn) (hr : Room (k + 1) X.A) (tk : Takes X W) (ha : DE B X W e ma) (hnd : ks.Nodup := by decide) (hk : ks.length < 1000 := by decide) (hg : Gl X x := by rfl) (hdb : (x == ("__debug__" : Str)) = false := by decide) :
    DO B X W (.Call (.Name x p) [] [⟨none, e, kp⟩] pos) (mMakeDD c ps.length ks π dms fn ma) := by
  obtain ⟨C, fa, fd, g, gV, hc, M, G, hb, rel, hm⟩ := N.ex
  exact PE.imp (pe_makeDD (E := WE W) M G hr hm hb (fun σ => passAt tk σ) ha hg hdb) fun σ H Q h => makeDD_read hc hnd hk rel h
end
theorem makeDD_ok {c : String} {n : Nat} {ks : List Str} {π : List (Nat ⊕ Nat)} {dms : List D} {f : Fn} {ma : M Opd} {e e1 : AN.Env} {x : Opd} {kvs : List (Key × D)} {r : R O} (h1 : ma e = .ok x e1) (h1' : view e1 x = some (.dic kvs)) (hk : kvs.map (·.1) = ks.map .inr) (h : makeP c n f (pkD π dms ((kvs.map (·.2)).map .d)) e1 = r) : mMakeDD c n ks π dms f ma e = r := by
  unfold mMakeDD
  rw [bind_r, h1, th_ok, bind_r, ap1_r, h1']
  simp only [Option.bind_some, dicOf, rop_some, th_ok]
  rw [if_pos hk]; exact h
end AN

set_option Elab.async false
set_option maxRecDepth 100000
set_option autoImplicit false
set_option linter.unusedVariables false
/-! xs.index(b), a list of truth values -/
namespace AN
open PySem PySem.Spec PyProof.Rows L2
def dIndexB : D → D → Option D
  | .lst xs, .bl b => (blsOf xs).bind fun bs => (bs.findIdx? fun c => c == b).map fun i => .int (i : Nat)
  | _, _ => none
def lstChk : D → Option Unit
  | .lst _ => some ()
  | _ => none
def mM1L (g : D → D → Option D) (m n : M Opd) : M Opd := M.bind m fun x => M.bind (ap1 lstChk x) fun _ => M.bind n fun y => mD (ap2 g x y)
section
variable {B : Bx} {X : Cx} {W : WX} {F H : Hp} {env : AN.Env} {σ : L2.St} {Q : VK} {a b : Expr} {ma mb : M Opd} {pos apos : Pos}
theorem m1L_read {g : D → D → Option D} {r : V → List V → Hp → VK → Prop} (hK : X.K = B.K) (hp : Prim2 B g (fun x y H Q => r x [y] H Q)) (h : tE B W (mM1L g ma mb) σ H Q) : tBM X.K "list" r (tE B W ma) (tCons (tE B W mb) tNil) σ H Q := by
  obtain ⟨F, env, S, h⟩ := h
  refine tE.one S h fun x e1 F1 H1 v s1 m1 o1 rv k1 => ?_
  obtain ⟨a, z, ea, ez, k2⟩ := (Post.bind m1 k1).ap1
  have sa := m1.view rv ea
  have hx : tyV X.K "list" v H1 := by
    cases a with
    | lst xs =>
      obtain ⟨p, vs, rfl, l, _, _⟩ := sa
      rw [hK]
      exact .inl ⟨rfl, vs, l⟩
    | _ => cases ez
  refine ⟨hx, ?_⟩
  refine tE.one m1 (Post.here m1 k2) fun y e2 F2 H2 w s2 m2 o2 rw k3 => ?_
  obtain ⟨a', b, z', ea', eb, ez', k4⟩ := (Post.bind m2 k3).ap2
  refine hp F2 H2 a' b z' v w Q m2.hold (m2.view (rv.mono s2.le) ea') (m2.view rw eb) ez' fun u F3 H3 s3 h3 rz => ?_
  have m3 := m2.step0 s3 h3
  exact k4 F3 H3 s3.any m3 (EnvLe.refl _) F3 H3 (Step.refl _ _ _) m3 (EnvLe.refl _) u rz
theorem de_indexB (hK : X.K = B.K) (ha : DE B X W a ma) (hb : DE B X W b mb) (hbase : attributeBase a "index" X.env (eval a X.env) = eval a X.env := by rfl)
    (hfew : ((backTo pos (starEach [b] X.env)).all (fun x => !x.1) && (backToKw pos (keywordEach [] X.env)).all (fun x => x.1.isSome) && decide ([b].length + ([] : List Keyword).length + (if ([] : List Keyword).isEmpty then 0 else 1) < 30)) = true := by rfl)
    (hline : (apos.endLine == pos.line) = true := by rfl) (hs : starEach [b] X.env = (false, eval b X.env) :: starEach [] X.env := by rfl) (hplain : (backTo pos (starEach [] X.env)).any (·.1) = false := by rfl) :
    DE B X W (.Call (.Attribute a "index" apos) [b] [] pos) (mM1L dIndexB ma mb) := PE.imp (pe_bm PySem.F.plainAttrs_list PySem.F.slot_list_index PySem.F.type_list_index mt_index ha (pa_cons hb pa_nil hs) hbase hfew hline hs hplain) fun σ H Q h => m1L_read hK (fun F H a b z x y Q hh sa sb e q => by
    cases a with
    | lst xs =>
      cases b with
      | bl c =>
        obtain ⟨p, vs, rfl, l, _, r⟩ := sa
        have sb : y = .bl c := sb
        subst sb
        obtain ⟨bs, e1, e2⟩ := Option.bind_eq_some_iff.mp (show (blsOf xs).bind (fun bs => (bs.findIdx? fun d => d == c).map fun i => D.int (i : Nat)) = some z from e)
        obtain ⟨i, e3, rfl⟩ := Option.map_eq_some_iff.mp e2
        obtain rfl := blsOf_rep e1 r
        obtain ⟨hlt, h1, h2⟩ := List.findIdx?_eq_some_iff_getElem.mp e3
        refine ⟨p, bs.map V.bl, .bl c, i, .bl bs[i], rfl, rfl, by rw [hK]; exact l, rfl, ?_, ?_, h1, fun m z' hm hz => ?_, q _ F H (Step.refl _ _ _) hh rfl⟩
        · rw [List.all_map, List.all_eq_true]; exact fun _ _ => rfl
        · rw [List.getElem?_map, List.getElem?_eq_getElem hlt]; rfl
        · rw [List.getElem?_map, List.getElem?_eq_getElem (by omega)] at hz
          cases hz
          have := h2 m hm
          show (bs[m] == c) = false
          simpa using this
      | _ => cases e
    | _ => cases e) h
@[simp] theorem mM1L_r {g : D → D → Option D} {e : AN.Env} : mM1L g ma mb e = R.th (ma e) fun x e => R.th (ap1 lstChk x e) fun _ e => R.th (mb e) fun y e => mD (ap2 g x y) e := rfl
end
end AN

set_option Elab.async false
set_option maxRecDepth 100000
set_option autoImplicit false
set_option linter.unusedVariables false
/-! d["a"], d["b"] = x, y with an owned dict d -/
namespace AN
open PySem PySem.Spec PyProof.Rows L2
def put2 (i : Nat) (k1 k2 : Str) (d1 d2 : D) : M Fl := fun env => match env[i]? with
  | some (.ow pn (.dic kvs)) => if kvs.length < 1000 then .ok .nx (env.set i (.ow pn (.dic (putKD (putKD kvs (.inr k1) d1) (.inr k2) d2)))) else .bad
  | _ => .bad
def mPut2 (i : Nat) (k1 k2 : Str) (ms : M (List Opd)) : M Fl := M.bind ms fun xs => M.bind (frzs xs) fun ds => match ds with
  | [d1, d2] => put2 i k1 k2 d1 d2
  | _ => fun _ => .bad
section
variable {B : Bx} {X : Cx} {W : WX} {F H : Hp} {env : AN.Env} {σ : L2.St} {a b : Expr} {pos : Pos} {ms : M (List Opd)}
theorem ds_put2 (i : Nat) {x k1 k2 : Str} {p1 p2 p3 p4 p5 p6 pt : Pos} {j1 j2 : Nat} {kt kt2 pt2} (hK : X.K = B.K) (hc : X.calm = true) (hu : X.A.units + 1 < cLine) (ha : DA B X W [a, b] ms) (hN : X.N[i]? = some x := by rfl) (hv : Vis X.env.scope x := by first | exact Or.inl rfl | exact Or.inr (Or.inl rfl) | exact Or.inr (Or.inr rfl)) (hd : (x == ("__debug__" : Str)) = false := by decide)
    (hcd : (x == ("__classdict__" : Str)) = false := by decide)
    (hs : swapsWithSole [.Tuple [.Subscript (.Name x p1) (.Constant (.str k1) j1 p2) p3, .Subscript (.Name x p4) (.Constant (.str k2) j2 p5) p6] kt pt] (.Tuple [a, b] kt2 pt2) pos.line X.env = pure false := by rfl)
    (hw : swappedStores [.Tuple [.Subscript (.Name x p1) (.Constant (.str k1) j1 p2) p3, .Subscript (.Name x p4) (.Constant (.str k2) j2 p5) p6] kt pt] (.Tuple [a, b] kt2 pt2) X.env = pure none := by rfl) :
    DS B X W (.Assign [.Tuple [.Subscript (.Name x p1) (.Constant (.str k1) j1 p2) p3, .Subscript (.Name x p4) (.Constant (.str k2) j2 p5) p6] kt pt] (.Tuple [a, b] kt2 pt2) pos) (mPut2 i k1 k2 ms) := by
  refine PS.imp (ps_asg (pe_tup ha) (pg_tup hc (pgs_cons (pg_sub (pe_var hN hv hd hcd) pe_str (set_dict hu)) (pgs_cons (pg_sub (pe_var hN hv hd hcd) pe_str (set_dict hu)) pgs_nil))) hs hw) fun D σ H h => ?_
  obtain ⟨F, env, S, h⟩ := h
  refine ⟨F, env, S, h.bind.mono fun xs e1 F1 H1 s1 m1 o1 u1 vs rvs => ?_⟩
  obtain ⟨ds, e2, F2, s2, m2, o2, r2, u2⟩ := m1.frzs rvs u1.bind
  match ds, r2, u2 with
  | [d1, d2], r2, u2 =>
    obtain ⟨v1, r', rfl, a1, r2⟩ := r2
    obtain ⟨v2, r', rfl, a2, r2⟩ := r2
    cases (show r' = [] from r2)
    have u2 : PostS B W F2 e2 σ H1 D (put2 i k1 k2 d1 d2 e2) := u2
    unfold put2 at u2
    cases q2 : e2[i]? with
    | none => simp only [q2] at u2; exact u2.elim
    | some sl =>
      cases sl with
      | no => simp only [q2] at u2; exact u2.elim
      | fz _ => simp only [q2] at u2; exact u2.elim
      | ow pn o =>
        cases o with
        | lst _ => simp only [q2] at u2; exact u2.elim
        | obj _ _ => simp only [q2] at u2; exact u2.elim
        | dic kvs =>
          simp only [q2] at u2
          by_cases hz : kvs.length < 1000
          · rw [if_pos hz] at u2
            refine ⟨by show 2 ≤ sizeLine; decide, fun p hp => ?_⟩
            obtain ⟨q, hq, hf, hz', ks, hv', rk⟩ := m2.ow i pn _ q2
            obtain ⟨s3, h3⟩ := step0_mk (u := .tup [v1, v2]) m2.hold hp
            have m3 := m2.step0 s3 h3
            have nq : q ≠ p := fun z => by rw [z, hp] at hv'; cases hv'
            have hv3 : upd H1 p (.tup [v1, v2]) q = some (.dK ks) := by rw [upd_ne nq]; exact hv'
            have lk := rk.length
            have sz : (1002 : Nat) ≤ sizeLine := by decide
            have l1 := length_putK ks (.inr k1) v1
            have l2 := putKD_len (kvs := kvs) (k := .inr k1) (d := d1)
            have l3 := putKD_len (kvs := putKD kvs (.inr k1) d1) (k := .inr k2) (d := d2)
            have g := m3.setOw (u := .dK (putK (putK ks (.inr k1) v1) (.inr k2) v2)) (o' := .dic (putKD (putKD kvs (.inr k1) d1) (.inr k2) d2)) q2 hq ⟨by omega, _, upd_same, (rk.put a1).put a2⟩
            have g0 : Go B F2 e2 σ H1 F2 e2 σ (upd H1 p (.tup [v1, v2])) := Go.of s3.any m3 (EnvLe.refl _)
            refine ⟨p, [v1, v2], rfl, .inl (.inl upd_same), rfl, v1, [v2], rfl, .ref q, hq, q, _, rfl, .inl ⟨ks, .inr k1, hv3, rfl, by omega, rfl⟩, v2, [], rfl, .ref q, hq, q, _, rfl, .inl ⟨_, .inr k2, upd_same, rfl, by omega, rfl⟩, rfl, ?_⟩
            rw [L2.upd_upd]
            exact u2 _ _ _ (g0.trans g)
          · rw [if_neg hz] at u2; exact u2.elim
  | [], _, u2 => exact u2.elim
  | [_], _, u2 => exact u2.elim
  | _ :: _ :: _ :: _, _, u2 => exact u2.elim
end
theorem put2_ok {i : Nat} {k1 k2 : Str} {ms : M (List Opd)} {e e1 e2 e3 : AN.Env} {xs : List Opd} {d1 d2 : D} {pn : Bool} {kvs : List (Key × D)} (h : ms e = .ok xs e1) (hf : frzs xs e1 = .ok [d1, d2] e2) (hi : e2[i]? = some (.ow pn (.dic kvs))) (hz : kvs.length < 1000) (h3 : e2.set i (.ow pn (.dic (putKD (putKD kvs (.inr k1) d1) (.inr k2) d2))) = e3) : mPut2 i k1 k2 ms e = .ok .nx e3 := by
  unfold mPut2
  rw [bind_r, h, th_ok, bind_r, hf, th_ok]
  dsimp only [put2]
  rw [hi]
  dsimp only
  rw [if_pos hz, h3]
theorem con_tupB {K : PySem.W.Frag} {cs : List (String × Addr)} {es : List (String × Addr × Str)} {a : Addr} {od : Option Addr} {its : Array Value} {n : Nat} {sl : Array (Option Value)} {ds : List D} (l : K.lookup a = some ⟨.type "tuple", od, .seq its n, sl⟩) (h : CsOk (bxOf K cs es) its.toList ds) (hz : ds.length ≤ sizeLine) : ∃ v, RelV v (.ref a) ∧ ∀ F : Hp, Rep (bxOf K cs es) F (.tup ds) v := con_tup l h hz
end AN

set_option Elab.async false
set_option maxRecDepth 100000
set_option linter.unusedVariables false
namespace G
open PySem L2 AN PySem.ANX
def top (i : Nat) : Stmt := PySem.Challenge.pw_addednames_k10_books_refused.main.body.getD i (.Pass ⟨0, 0, 0, 0⟩)
abbrev s_is_book_part : Stmt := top 8
abbrev s_is_value : Stmt := top 9
abbrev s_Book_init : Stmt := inClass (top 10) 0
abbrev s_Book_getitem : Stmt := inClass (top 10) 9
abbrev s_Book_rank : Stmt := inClass (top 10) 11
abbrev s_Book_changed : Stmt := inClass (top 10) 12
abbrev s_law_pool : Stmt := top 12
abbrev s_law_draw : Stmt := top 13
abbrev s_law_pick : Stmt := top 14
abbrev s_law_rules : Stmt := top 15
abbrev s_law_made_book : Stmt := top 16
abbrev s_law_parts : Stmt := top 17
abbrev s_law_odd : Stmt := top 18
abbrev s_law_refused : Stmt := top 19
abbrev s_law_asked : Stmt := top 20
abbrev s_law : Stmt := top 21
abbrev s_BadPart_init : Stmt := inClass (top 3) 0
def ok_fld_parts (c : String) : Bool := ["Book"].contains c
def ok_fld_rows (c : String) : Bool := ["Book"].contains c
def tab_PARTS : List (Str × D) := [("order", .tup [.str "own=named=all", .str "own=named all", .str "own=all named", .str "own named=all", .str "own named all", .str "own all named", .str "named=all own", .str "named own=all", .str "named own all", .str "all own=named", .str "all own named", .str "named all own", .str "all named own"]), ("given", .tup [.str "own", .str "both"]), ("alls", .tup [.str "use", .str "once", .str "first", .str "last"]), ("bodies", .tup [.str "ahead", .str "behind", .str "never"]), ("spreads", .tup [.str "member", .str "spread", .str "tie"]), ("near", .tup [.bl true, .bl false]), ("marks", .tup [.bl true, .bl false])]
def cs_BadPart : String → Option Bool
  | "BadPart" => some true
  | _ => none
def xf_part : String → Option Str
  | "BadPart" => some "part"
  | _ => none
def xi_NamesError : String → Option Bool
  | "BadPart" => some true
  | _ => none
def m_is_book_part : M Fl := (mRet (mAndV (mD (mB1 (isI fStr) (mV 0))) (mD (mB1 (dTabIn false tab_PARTS) (mV 0)))))
def F_is_book_part : Fn := runF 0 m_is_book_part
def m_is_value : M Fl := (mRet (mAndV (mD (mB1 (isI fun d => fStr d || fBool d) (mV 1))) (mD (mB2 (dInK false) (mV 1) (mD (mB1 (dTabAt tab_PARTS) (mV 0)))))))
def F_is_value : Fn := runF 0 m_is_value
def m_Book_init : M Fl := (mSeq (mSet 8 (mFz (mLst (mA (mV 1) (mA (mV 2) (mA (mV 3) (mA (mV 4) (mA (mV 5) (mA (mV 6) (mA (mV 7) mA0))))))))))
    (mSeq (mFor (mZipT (tab_PARTS.map (·.1)) (mV 8)) (gT 2 (gs (gN 9) (gs (gN 10) gs0))) (mW [false, false, false, false, false, false, false, false, false, true, true] (mIfS (mNot (mT (mCall 2 F_is_value (mA (mV 9) (mA (mV 10) mA0))))) (mRaise "BadPart" (mV 9)) mNx)))
    (mSeq (mSetF ok_fld_parts 0 "parts" (mFz (mDC [9, 10] (mZipT (tab_PARTS.map (·.1)) (mV 8)) (gT 2 (gs (gN 9) (gs (gN 10) gs0))) (M.pure true) (mV 9) (mV 10))))
    (mSetF ok_fld_rows 0 "rows" (mFz (mLC [11] (mIt (mFz (mM1O oSplit (mV 1) (mC (.str " "))))) (gN 11) (M.pure true) (mFz (mM1O oSplit (mV 11) (mC (.str "="))))))))))
def F_Book_init : Fn := runF 4 m_Book_init
def m_Book_getitem : M Fl := (mSeq (mIfS (mNot (mT (mCall 1 F_is_book_part (mA (mV 1) mA0)))) (mRaise "BadPart" (mV 1)) mNx)
    (mRet (mD (mB2 dIxK (mD (mB1 (dFld ok_fld_parts "parts") (mV 0))) (mV 1)))))
def F_Book_getitem : Fn := runF 0 m_Book_getitem
def m_Book_rank : M Fl := (mSeq (mIfS (mOr (mNot (mT (mD (mB1 (isI fStr) (mV 1))))) (mB2 (g2b (dInK true)) (mV 1) (mC (.tup [.str "own", .str "named", .str "all"])))) (mRaise "BadPart" (mV 1)) mNx)
    (mRet (mM1L dIndexB (mFz (mLC [2] (mIt (mD (mB1 (dFld ok_fld_rows "rows") (mV 0)))) (gN 2) (M.pure true) (mD (mB2 (dInK false) (mV 1) (mV 2))))) (mC (.bl true)))))
def F_Book_rank : Fn := runF 1 m_Book_rank
def m_Book_changed : M Fl := (mSeq (mIfS (mOr (mNot (mT (mCall 1 F_is_book_part (mA (mV 1) mA0)))) (mNot (mT (mCall 2 F_is_value (mA (mV 1) (mA (mV 2) mA0)))))) (mRaise "BadPart" (mV 1)) mNx)
    (mSeq (mSet 3 (mFz (mDispM (mD (mB1 (dFld ok_fld_parts "parts") (mV 0))) (mV 1) (mV 2))))
    (mRetO (mMakeDD "Book" 7 ["order", "given", "alls", "bodies", "spreads", "near", "marks"] [.inl 0, .inl 1, .inl 2, .inl 3, .inl 4, .inl 5, .inl 6] [] F_Book_init (mV 3)))))
def F_Book_changed : Fn := runF 1 m_Book_changed
def m_law_pool : M Fl := (mSeq (mSet 2 (mD (mB2 dAdd (mD (mB2 dMulI (mC (.int 7)) (mD (mB1 dSum (mD (mSl dSl (mV 0) (M.pure none) (mB1 intOf (mC (.int 63))))))))) (mV 1))))
    (mSeq (mIfS (mB2 (g2b dLt) (mV 1) (mD (mB1 dLen (mV 0)))) (mSet 2 (mD (mB2 dIxK (mV 0) (mV 1)))) mNx)
    (mSeq (mSet 3 (mD (mB1 dAbs (mV 2))))
    (mSeq (mSet 4 (mD (mB2 dAdd (mD (mB2 dAdd (mD (mB2 dAdd (mD (mB2 dMod (mD (mB1 dInt (mV 3))) (mC (.int 2147483629)))) (mD (mB2 dMulI (mD (mB2 dMulI (mC (.int 7919)) (mV 1))) (mV 1))))) (mD (mB2 dMulI (mC (.int 31)) (mV 1))))) (mC (.int 17)))))
    (mSeq (mSet 4 (mD (mB2 dMod (mD (mB1 dInt (mD (mB2 dMulI (mV 4) (mC (.int 48271)))))) (mC (.int 2147483647)))))
    (mRetO (mLst (mA (mD (mB2 dMulI (mV 3) (mD (mB1 dInt (mD (mB2 dGe (mV 3) (mD (mB2 dPow (mC (.int 10)) (mC (.int 18)))))))))) (mA (mD (mB2 dMod (mD (mB1 dInt (mD (mB2 dMulI (mV 4) (mV 4))))) (mC (.int 2147483629)))) mA0)))))))))
def F_law_pool : Fn := runF 3 m_law_pool
def m_law_draw : M Fl := (mSeq (mIfS (mB2 (g2b dGt) (mD (mB2 dIxK (mV 0) (mC (.int 0)))) (mC (.int 0))) (mSeq (mSet 2 (mD (mB2 dMod (mD (mB1 dInt (mD (mB2 dIxK (mV 0) (mC (.int 0)))))) (mV 1))))
    (mSeq (mPutAt 0 (mC (.int 0)) (mD (mB2 dFdiv (mD (mB2 dIxK (mV 0) (mC (.int 0)))) (mV 1))))
    (mRetV 2))) mNx)
    (mSeq (mPutAt 0 (mC (.int 1)) (mD (mB2 dMod (mD (mB1 dInt (mD (mB2 dAdd (mD (mB2 dMulI (mD (mB2 dIxK (mV 0) (mC (.int 1)))) (mC (.int 48271)))) (mC (.int 11)))))) (mC (.int 2147483647)))))
    (mRet (mD (mB2 dMod (mD (mB1 dInt (mD (mB2 dFdiv (mD (mB2 dMod (mD (mB2 dMulI (mD (mB2 dIxK (mV 0) (mC (.int 1)))) (mD (mB2 dIxK (mV 0) (mC (.int 1)))))) (mC (.int 2147483629)))) (mC (.int 16)))))) (mV 1))))))
def F_law_draw : Fn := runF 1 m_law_draw
def m_law_pick : M Fl := (mRet (mD (mB2 dIxK (mV 1) (mCallM [true, false] F_law_draw (mA (mV 0) (mA (mD (mB1 dLen (mV 1))) mA0))))))
def F_law_pick : Fn := runF 0 m_law_pick
def m_law_rules : M Fl := (mSeq (mSet 1 (mFz (mLst (mA (mC (.str "own=named=all")) (mA (mC (.str "own=named all")) (mA (mC (.str "own=all named")) (mA (mC (.str "own named=all")) (mA (mC (.str "own named all")) (mA (mC (.str "own all named")) mA0)))))))))
    (mSeq (mSet 1 (mD (mB2 dAdd (mV 1) (mFz (mLst (mA (mC (.str "named=all own")) (mA (mC (.str "named own=all")) (mA (mC (.str "named own all")) (mA (mC (.str "all own=named")) (mA (mC (.str "all own named")) mA0))))))))))
    (mSeq (mSetO 2 (mDisp [((mC (.str "order")), (mCallM [true, false] F_law_pick (mA (mV 0) (mA (mD (mB2 dAdd (mV 1) (mFz (mLst (mA (mC (.str "named all own")) (mA (mC (.str "all named own")) mA0)))))) mA0))))]))
    (mSeq (mPutK 2 (mC (.str "given")) (mCallM [true, false] F_law_pick (mA (mV 0) (mA (mFz (mLst (mA (mC (.str "own")) (mA (mC (.str "both")) mA0)))) mA0))))
    (mSeq (mPutK 2 (mC (.str "alls")) (mCallM [true, false] F_law_pick (mA (mV 0) (mA (mFz (mLst (mA (mC (.str "use")) (mA (mC (.str "once")) (mA (mC (.str "first")) (mA (mC (.str "last")) mA0)))))) mA0))))
    (mSeq (mPutK 2 (mC (.str "bodies")) (mCallM [true, false] F_law_pick (mA (mV 0) (mA (mFz (mLst (mA (mC (.str "ahead")) (mA (mC (.str "behind")) (mA (mC (.str "never")) mA0))))) mA0))))
    (mSeq (mPutK 2 (mC (.str "spreads")) (mCallM [true, false] F_law_pick (mA (mV 0) (mA (mFz (mLst (mA (mC (.str "member")) (mA (mC (.str "spread")) (mA (mC (.str "tie")) mA0))))) mA0))))
    (mSeq (mPut2 2 "near" "marks" (mA (mD (mB2 dEq (mCallM [true, false] F_law_draw (mA (mV 0) (mA (mC (.int 2)) mA0))) (mC (.int 0)))) (mA (mD (mB2 dEq (mCallM [true, false] F_law_draw (mA (mV 0) (mA (mC (.int 2)) mA0))) (mC (.int 0)))) mA0)))
    (mRetV 2)))))))))
def F_law_rules : Fn := runF 2 m_law_rules
def t_mt_changed_Book : String → Option Fn
  | "Book" => some F_Book_changed
  | _ => none
def m_law_made_book : M Fl := (mSeq (mSet 1 (mFz (mMakeKO "Book" 7 [.inl 0, .inl 1, .inl 2, .inl 3, .inr 0, .inr 1, .inr 2] [.str "member", .bl true, .bl false] F_Book_init (mA (mD (mB2 dIxK (mV 0) (mC (.str "order")))) (mA (mD (mB2 dIxK (mV 0) (mC (.str "given")))) (mA (mD (mB2 dIxK (mV 0) (mC (.str "alls")))) (mA (mD (mB2 dIxK (mV 0) (mC (.str "bodies")))) mA0)))))))
    (mSeq (mSet 1 (mMeth t_mt_changed_Book "changed" 3 (mMeth t_mt_changed_Book "changed" 3 (mV 1) (mA (mC (.str "spreads")) (mA (mD (mB2 dIxK (mV 0) (mC (.str "spreads")))) mA0))) (mA (mC (.str "near")) (mA (mD (mB2 dIxK (mV 0) (mC (.str "near")))) mA0))))
    (mRet (mMeth t_mt_changed_Book "changed" 3 (mV 1) (mA (mC (.str "marks")) (mA (mD (mB2 dIxK (mV 0) (mC (.str "marks")))) mA0))))))
def F_law_made_book : Fn := runF 1 m_law_made_book
def m_law_parts : M Fl := (mRetO (mLst (mA (mC (.str "order")) (mA (mC (.str "given")) (mA (mC (.str "alls")) (mA (mC (.str "bodies")) (mA (mC (.str "spreads")) (mA (mC (.str "near")) (mA (mC (.str "marks")) mA0)))))))))
def F_law_parts : Fn := runF 0 m_law_parts
def m_law_odd : M Fl := (mRetO (mLst (mA (mC .non) (mA (mC (.str "")) (mA (mC (.int 0)) (mA (mC (.int 1)) (mA (mC (.str "once ")) (mA (mC (.str "Own")) (mA (mFz (mLst (mA (mC (.str "own")) mA0))) (mA (mTup (mA (mC (.str "own")) mA0)) (mA (mC (.str "own all")) (mA (mC (.str "own named")) (mA (mC (.str "all=own named")) (mA (mC (.str "near")) (mA (mFz mDic0) (mA (mC (.str "own  named all")) (mA (mC (.str "own named all ")) (mA (mC (.str "own,named,all")) (mA (mC (.str "False")) (mA (mC (.str "owns")) (mA (mC (.int 2)) (mA (mC (.str "named=own all")) mA0))))))))))))))))))))))
def F_law_odd : Fn := runF 0 m_law_odd
def m_law_refused : M Fl := (mSeq (mSet 1 (mC .non))
    (mSeq (mTry (mSet 1 (mFz (mMakeKO "Book" 7 [.inl 0, .inl 1, .inl 2, .inl 3, .inl 4, .inl 5, .inl 6] [] F_Book_init (mA (mD (mB2 dIxK (mV 0) (mC (.str "order")))) (mA (mD (mB2 dIxK (mV 0) (mC (.str "given")))) (mA (mD (mB2 dIxK (mV 0) (mC (.str "alls")))) (mA (mD (mB2 dIxK (mV 0) (mC (.str "bodies")))) (mA (mD (mB2 dIxK (mV 0) (mC (.str "spreads")))) (mA (mD (mB2 dIxK (mV 0) (mC (.str "near")))) (mA (mD (mB2 dIxK (mV 0) (mC (.str "marks")))) mA0)))))))))) [⟨cs_BadPart, 2, fun c d => mRetO (mLst (mA (mXf xf_part "part" c d) (mA (mXi xi_NamesError c) mA0)))⟩])
    (mRetO (mLst (mA (mV 1) mA0)))))
def F_law_refused : Fn := runF 2 m_law_refused
def t_gi_Book : String → Option Fn
  | "Book" => some F_Book_getitem
  | _ => none
def t_mt_rank_Book : String → Option Fn
  | "Book" => some F_Book_rank
  | _ => none
def m_law_asked : M Fl := (mSeq (mSet 4 (mC .non))
    (mSeq (mTry (mIfS (mB2 (g2b dEq) (mV 1) (mC (.int 0))) (mSet 4 (mIxO t_gi_Book dIx (mV 0) (mV 2))) (mIfS (mB2 (g2b dEq) (mV 1) (mC (.int 1))) (mSet 4 (mMeth t_mt_rank_Book "rank" 2 (mV 0) (mA (mV 2) mA0))) (mSet 4 (mMeth t_mt_changed_Book "changed" 3 (mV 0) (mA (mV 2) (mA (mV 3) mA0)))))) [⟨cs_BadPart, 5, fun c d => mRetO (mLst (mA (mD (mB1 dReprK (mXf xf_part "part" c d))) mA0))⟩])
    (mRetO (mLst (mA (mC .non) (mA (mV 4) mA0))))))
def F_law_asked : Fn := runF 2 m_law_asked
def m_law : M Fl := (mSeq (mFor (mRng1 (mD (mB2 dMax2 (mC (.int 1)) (mD (mB2 dMin2 (mD (mB1 dLen (mV 0))) (mC (.int 8))))))) (gN 1) (mW [false, true, true, true, true, true, true, true, true, true, true, true, true, true, true] (mSeq (mSetO 2 (mCallO 2 F_law_pool (mA (mV 0) (mA (mV 1) mA0))))
    (mSeq (mSet 3 (mCallM [true] F_law_rules (mA (mV 2) mA0)))
    (mSeq (mSet 4 (mCall 1 F_law_made_book (mA (mV 3) mA0)))
    (mSeq (mFor (mRng1 (mC (.int 6))) (gN 5) (mW [false, false, false, false, false, true, false, false, true, true, false, false, true, true, true] (mSeq (mAsgN [12, 13] [.o (mLst mA0), .o (mB1 oDictOf (mV 3))])
    (mSeq (mFor (mRng1 (mD (mB2 dAdd (mC (.int 1)) (mCallM [true, false] F_law_draw (mA (mV 2) (mA (mC (.int 2)) mA0)))))) (gN 8) (mW [false, false, false, false, false, false, false, false, true, false, false, false, false, false, true] (mSeq (mSet 14 (mCallM [true, false] F_law_draw (mA (mV 2) (mA (mC (.int 7)) mA0))))
    (mSeq (mPutK 13 (mD (mB2 dIxK (mCall 0 F_law_parts mA0) (mV 14))) (mCallM [true, false] F_law_pick (mA (mV 2) (mA (mCall 0 F_law_odd mA0) mA0))))
    (mApp 12 (mV 14))))))
    (mSeq (mSet 9 (mD (mB2 dIxK (mFz (mLC [14] (mRng1 (mC (.int 7))) (gN 14) (mB2 (g2b (dInK false)) (mV 14) (mV 12)) (mV 14))) (mC (.int 0)))))
    (mIfS (mB2 (g2b dNe) (mCall 1 F_law_refused (mA (mV 13) mA0)) (mFz (mLst (mA (mD (mB2 dIxK (mCall 0 F_law_parts mA0) (mV 9))) (mA (mC (.bl true)) mA0))))) (mRet (mC (.bl false))) mNx))))))
    (mSeq (mFor (mIt (mFz (mLst (mA (mC .non) (mA (mC (.int 0)) (mA (mC (.bl true)) (mA (mC (.str "")) (mA (mC (.str "orders")) (mA (mC (.str "own ")) (mA (mFz (mLst (mA (mC (.str "own")) mA0))) (mA (mTup (mA (mC (.str "order")) mA0)) (mA (mC (.str "both")) (mA (mC (.str "first")) mA0))))))))))))) (gN 6) (mW [false, false, false, false, false, false, true, false, false, false, true] (mSeq (mFor (mRng1 (mC (.int 2))) (gN 10) (mW [false, false, false, false, false, false, false, false, false, false, true] (mIfS (mB2 (g2b dNe) (mCall 4 F_law_asked (mA (mV 4) (mA (mV 10) (mA (mV 6) (mA (mC .non) mA0))))) (mFz (mLst (mA (mD (mB1 dReprK (mV 6))) mA0)))) (mRet (mC (.bl false))) mNx)))
    (mIfS (mB2 (g2b dNe) (mCall 4 F_law_asked (mA (mV 4) (mA (mC (.int 2)) (mA (mV 6) (mA (mCallM [true, false] F_law_pick (mA (mV 2) (mA (mFz (mLst (mA (mC (.str "own")) (mA (mC (.bl true)) (mA (mC (.str "first")) mA0))))) mA0))) mA0))))) (mFz (mLst (mA (mD (mB1 dReprK (mV 6))) mA0)))) (mRet (mC (.bl false))) mNx))))
    (mFor (mIt (mCall 0 F_law_parts mA0)) (gN 7) (mW [false, false, false, false, false, false, false, true, false, false, false, true] (mSeq (mIfS (mB2 (g2b dNe) (mCall 4 F_law_asked (mA (mV 4) (mA (mC (.int 1)) (mA (mV 7) (mA (mC .non) mA0))))) (mFz (mLst (mA (mD (mB1 dReprK (mV 7))) mA0)))) (mRet (mC (.bl false))) mNx)
    (mFor (mIt (mCall 0 F_law_odd mA0)) (gN 11) (mW [false, false, false, false, false, false, false, false, false, false, false, true] (mIfS (mB2 (g2b dNe) (mCall 4 F_law_asked (mA (mV 4) (mA (mC (.int 2)) (mA (mV 7) (mA (mV 11) mA0))))) (mFz (mLst (mA (mD (mB1 dReprK (mV 7))) mA0)))) (mRet (mC (.bl false))) mNx)))))))))))))
    (mRet (mC (.bl true))))
def F_law : Fn := runF 14 m_law
end G

set_option Elab.async false
set_option maxRecDepth 100000
set_option linter.unusedVariables false
namespace G
open PySem L2 AN PySem.ANX
structure Txt (w : World) (K : PySem.W.Frag) (mg : Str → Option Value) (cs : List (String × Addr)) (es : List (String × Addr × Str)) (A_BadPart : Addr) (A_NamesError : Addr) : Prop where
  b_abs : mg "abs" = none
  b_bool : mg "bool" = none
  b_dict : mg "dict" = none
  b_int : mg "int" = none
  b_isinstance : mg "isinstance" = none
  b_len : mg "len" = none
  b_max : mg "max" = none
  b_min : mg "min" = none
  b_range : mg "range" = none
  b_repr : mg "repr" = none
  b_str : mg "str" = none
  b_sum : mg "sum" = none
  b_zip : mg "zip" = none
  c_GROUPS : ∃ u, mg "GROUPS" = some u ∧ ∃ v, L2.RelV v u ∧ ∀ F : Hp, Rep (bxOf K cs es) F (.tup [.str "own", .str "named", .str "all"]) v
  oc : Ocs (bxOf K cs es) K
  ap : Apart (bxOf K cs es) K
  kls : Kls (bxOf K cs es) K
  fr_parts : Free (bxOf K cs es) K ok_fld_parts "parts"
  fr_rows : Free (bxOf K cs es) K ok_fld_rows "rows"
  g_BadPart : mg "BadPart" = some (.ref A_BadPart)
  g_NamesError : mg "NamesError" = some (.ref A_NamesError)
  tab_PARTS : ∃ a, mg "PARTS" = some (.ref a) ∧ KTab K w (bxOf K cs es) a tab_PARTS
  cs_BadPart : ∀ c b, cs_BadPart c = some b → ∃ C fld, (bxOf K cs es).exc c = some (C, fld) ∧ PySem.W.exmOne K (.ref C) (.ref A_BadPart) = some b
  xf_part : ∀ {cn : String}, xf_part cn = some "part" → ∀ C fld, (bxOf K cs es).exc cn = some (C, fld) → fld = "part" ∧ XfC K C ∧ PySem.W.findIn K (.ref C) "part" = some none
  xi_NamesError : ∀ {cn : String} b, xi_NamesError cn = some b → ∀ C fld, (bxOf K cs es).exc cn = some (C, fld) → L2.ExcC K C ∧ PySem.W.kitOne K (.ref C) (.ref A_NamesError) = some b
theorem mA_len1 {a : M Opd} {env e : AN.Env} {xs : List Opd} (h : mA a mA0 env = .ok xs e) : xs.length = 1 := by
  rw [mA_r] at h
  cases q : a env with
  | bad => rw [q] at h; cases h
  | exc _ _ _ => rw [q] at h; cases h
  | ok x e1 => rw [q] at h; cases h; rfl
theorem mA_len2 {a b : M Opd} {env e : AN.Env} {xs : List Opd} (h : mA a (mA b mA0) env = .ok xs e) : xs.length = 2 := by
  rw [mA_r] at h
  cases q : a env with
  | bad => rw [q] at h; cases h
  | exc _ _ _ => rw [q] at h; cases h
  | ok x e1 =>
    rw [q, th_ok, mA_r] at h
    cases q2 : b e1 with
    | bad => rw [q2] at h; cases h
    | exc _ _ _ => rw [q2] at h; cases h
    | ok y e2 => rw [q2] at h; cases h; rfl
section
variable {P : Program} {w : World} {K : PySem.W.Frag} {mg : Str → Option Value} {base : Heap} {cs : List (String × Addr)} {es : List (String × Addr × Str)} {A_BadPart : Addr} {A_NamesError : Addr}
theorem sc_BadPart_init : FnScope ["self", "part"] ["self", "part"] (defScope s_BadPart_init) := ⟨rfl, rfl, rfl, by decide +kernel, rfl, by decide +kernel, by decide +kernel⟩
theorem ok_BadPart_init {fa N : Addr} {mc : Value} {fd : FuncData} (Fd : Fun K "__init__" "BadPart.__init__" s_BadPart_init fa fd) (hm : mg "NamesError" = some (.ref N)) (rd : ClX.CRead K N mc) (at_ : PySem.W.findCls K (.ref N) mc "__init__" = some (.val (.builtin "ValueError.__init__"))) : FnOk P w K mg base (L2.CX P w) 1 fa fd ["self", "part"] (spI K "part") :=
  init_ok Fd sc_BadPart_init fun cdv A outer s H E => ini_body (ps_expr (pe_neinit hm rd at_ (pa_cons (pe_var (i := 0) rfl (Or.inl rfl)) (pa_cons pe_str pa_nil)))) ini_args (ps_ost (pe_var (i := 0) rfl (Or.inl rfl)) (pe_var (i := 1) rfl (Or.inl rfl)))
theorem sc_is_book_part : FnScope ["value"] ["value"] (defScope s_is_book_part) := ⟨rfl, rfl, rfl, by decide +kernel, rfl, by decide +kernel, by decide +kernel⟩
theorem ok_is_book_part {fa : Addr} {fd : FuncData} (Fd : Fun K "is_book_part" "is_book_part" s_is_book_part fa fd) (T : Txt w K mg cs es A_BadPart A_NamesError)  : FnOk P w K mg base (L2.CX P w) 1 fa fd ["value"] (spOf (bxOf K cs es) 1 F_is_book_part) :=
  fn_ok (m := m_is_book_part) (n := 0) Fd sc_is_book_part rfl (by decide) fun cdv A outer s H E hr tk po =>
    (dss1 (ds_ret (de_and (de_isi kStr rfl (dv 0) T.b_isinstance T.b_str (by decide +kernel)) (de_one (de_inTab T.tab_PARTS (dv 0))))))
theorem sc_is_value : FnScope ["part", "value"] ["part", "value"] (defScope s_is_value) := ⟨rfl, rfl, rfl, by decide +kernel, rfl, by decide +kernel, by decide +kernel⟩
theorem ok_is_value {fa : Addr} {fd : FuncData} (Fd : Fun K "is_value" "is_value" s_is_value fa fd) (T : Txt w K mg cs es A_BadPart A_NamesError)  : FnOk P w K mg base (L2.CX P w) 1 fa fd ["part", "value"] (spOf (bxOf K cs es) 2 F_is_value) :=
  fn_ok (m := m_is_value) (n := 0) Fd sc_is_value rfl (by decide) fun cdv A outer s H E hr tk po =>
    (dss1 (ds_ret (de_and (de_isiT2 kStr kBool rfl (dv 1) T.b_isinstance T.b_str (by decide +kernel) T.b_bool (by decide +kernel)) (de_one (de_cmp (OpR.or (op_inX (hu65 hr)) (op_inKD (hu1 hr))) (p_inK (p_in rfl)) (dv 1) (de_tabAt T.tab_PARTS (dv 0)) rfl)))))
theorem sc_Book_init : FnScope ["self", "order", "given", "alls", "bodies", "spreads", "near", "marks", "values", "part", "value", "row"] ["self", "order", "given", "alls", "bodies", "spreads", "near", "marks"] (defScope s_Book_init) := ⟨rfl, rfl, rfl, by decide +kernel, rfl, by decide +kernel, by decide +kernel⟩
theorem ok_Book_init {fa : Addr} {fd : FuncData} (Fd : FunA K "__init__" "Book.__init__" s_Book_init fa fd) (T : Txt w K mg cs es A_BadPart A_NamesError) (C_is_value : Cal P w K mg base (bxOf K cs es) "is_value" 1 ["part", "value"] F_is_value) (R_BadPart : Rai P w K mg base (bxOf K cs es) "BadPart" "BadPart") : FnOk P w K mg base (L2.CX P w) 3 fa fd ["self", "order", "given", "alls", "bodies", "spreads", "near", "marks"] (spOf (bxOf K cs es) 8 F_Book_init) :=
  fn_okA (m := m_Book_init) (n := 4) Fd sc_Book_init rfl (by decide) fun cdv A outer s H E hr tk po =>
    (dss (ds_set 8 sc_Book_init.nd (de_o (do_lst (da (dv 1) (da (dv 2) (da (dv 3) (da (dv 4) (da (dv 5) (da (dv 6) (da (dv 7) da0))))))))))
      (dss (ds_for po rfl (di_zipT rfl T.tab_PARTS (dv 8) T.b_zip) (dg_t rfl rfl (dgs (dg_n 9 sc_Book_init.nd) (dgs (dg_n 10 sc_Book_init.nd) dgs0))) (dss_w [false, false, false, false, false, false, false, false, false, true, true] (dss1 (ds_if (dt_not (dt_val rfl (dc (ps := ["part", "value"]) C_is_value (hr.mono (by decide)) tk (da (dv 9) (da (dv 10) da0))))) (dss1 (ds_raise R_BadPart (hr.mono (by decide)) rfl tk (dv 9))) dss0))))
      (dss (ds_setF ok_fld_parts 0 T.oc T.fr_parts (de_o (do_dc rfl sc_Book_init.nd (di_zipT rfl T.tab_PARTS (dv 8) T.b_zip) (blk_ok (N := ["self", "order", "given", "alls", "bodies", "spreads", "near", "marks", "values", "part", "value", "row"]) (sc := defScope s_Book_init) (own := [("part", 9), ("value", 10)]) rfl rfl (by decide +kernel)) (fun _ _ _ _ _ => (dg_t rfl rfl (dgs (dg_n 9 sc_Book_init.nd) (dgs (dg_n 10 sc_Book_init.nd) dgs0)))) (fun _ _ _ _ _ => dts0) (fun _ _ _ _ _ => (dv 9)) (fun _ _ _ _ _ => (dv 10)) (by decide))))
      (dss1 (ds_setF ok_fld_rows 0 T.oc T.fr_rows (de_o (do_lc rfl sc_Book_init.nd (di_seq rfl (de_o (do_split (dv 1) (de_str ⟨by decide +kernel, by decide +kernel⟩)))) (blk_ok (N := ["self", "order", "given", "alls", "bodies", "spreads", "near", "marks", "values", "part", "value", "row"]) (sc := defScope s_Book_init) (own := [("row", 11)]) rfl rfl (by decide +kernel)) (fun _ _ _ _ _ => (dg_n 11 sc_Book_init.nd)) (fun _ _ _ _ _ => dts0) (fun _ _ _ _ _ => (de_o (do_split (dv 11) (de_str ⟨by decide +kernel, by decide +kernel⟩)))) (by decide))))))))
theorem sc_Book_getitem : FnScope ["self", "part"] ["self", "part"] (defScope s_Book_getitem) := ⟨rfl, rfl, rfl, by decide +kernel, rfl, by decide +kernel, by decide +kernel⟩
theorem ok_Book_getitem {fa : Addr} {fd : FuncData} (Fd : Fun K "__getitem__" "Book.__getitem__" s_Book_getitem fa fd) (T : Txt w K mg cs es A_BadPart A_NamesError) (C_is_book_part : Cal P w K mg base (bxOf K cs es) "is_book_part" 1 ["value"] F_is_book_part) (R_BadPart : Rai P w K mg base (bxOf K cs es) "BadPart" "BadPart") : FnOk P w K mg base (L2.CX P w) 3 fa fd ["self", "part"] (spOf (bxOf K cs es) 2 F_Book_getitem) :=
  fn_ok (m := m_Book_getitem) (n := 0) Fd sc_Book_getitem rfl (by decide) fun cdv A outer s H E hr tk po =>
    (dss (ds_if (dt_not (dt_val rfl (dc (ps := ["value"]) C_is_book_part (hr.mono (by decide)) tk (da (dv 1) da0)))) (dss1 (ds_raise R_BadPart (hr.mono (by decide)) rfl tk (dv 1))) dss0)
      (dss1 (ds_ret (de_atK (hu1 hr) rfl (de_fld T.oc T.fr_parts (dv 0)) (dv 1)))))
theorem sc_Book_rank : FnScope ["self", "group", "row"] ["self", "group"] (defScope s_Book_rank) := ⟨rfl, rfl, rfl, by decide +kernel, rfl, by decide +kernel, by decide +kernel⟩
theorem ok_Book_rank {fa : Addr} {fd : FuncData} (Fd : Fun K "rank" "Book.rank" s_Book_rank fa fd) (T : Txt w K mg cs es A_BadPart A_NamesError) (R_BadPart : Rai P w K mg base (bxOf K cs es) "BadPart" "BadPart") : FnOk P w K mg base (L2.CX P w) 3 fa fd ["self", "group"] (spOf (bxOf K cs es) 2 F_Book_rank) :=
  fn_ok (m := m_Book_rank) (n := 1) Fd sc_Book_rank rfl (by decide) fun cdv A outer s H E hr tk po =>
    (dss (ds_if (dt_w (dw_or (dt_not (dt_val rfl (de_isi kStr rfl (dv 1) T.b_isinstance T.b_str (by decide +kernel)))) (dw_or1 (dt_cmp (OpR.or (op_notInX (hu65 hr)) (op_notInKD (hu1 hr))) (p_inK (p_notIn rfl)) (dv 1) (de_gV T.c_GROUPS) rfl)))) (dss1 (ds_raise R_BadPart (hr.mono (by decide)) rfl tk (dv 1))) dss0)
      (dss1 (ds_ret (de_indexB rfl (de_o (do_lc rfl sc_Book_rank.nd (di_seq rfl (de_fld T.oc T.fr_rows (dv 0))) (blk_ok (N := ["self", "group", "row"]) (sc := defScope s_Book_rank) (own := [("row", 2)]) rfl rfl (by decide +kernel)) (fun _ _ _ _ _ => (dg_n 2 sc_Book_rank.nd)) (fun _ _ _ _ _ => dts0) (fun _ _ _ _ _ => (de_cmp (OpR.or (op_inX (hu65 hr)) (op_inKD (hu1 hr))) (p_inK (p_in rfl)) (dv 1) (dv 2) rfl)) (by decide))) de_bl))))
theorem sc_Book_changed : FnScope ["self", "part", "value", "parts"] ["self", "part", "value"] (defScope s_Book_changed) := ⟨rfl, rfl, rfl, by decide +kernel, rfl, by decide +kernel, by decide +kernel⟩
theorem ok_Book_changed {fa : Addr} {fd : FuncData} (Fd : Fun K "changed" "Book.changed" s_Book_changed fa fd) (T : Txt w K mg cs es A_BadPart A_NamesError) (C_is_book_part : Cal P w K mg base (bxOf K cs es) "is_book_part" 1 ["value"] F_is_book_part) (C_is_value : Cal P w K mg base (bxOf K cs es) "is_value" 1 ["part", "value"] F_is_value) (R_BadPart : Rai P w K mg base (bxOf K cs es) "BadPart" "BadPart") (KO_Book_order_given_alls_bodies_spreads_near_marks : MakKO P w K mg base (bxOf K cs es) "Book" "Book" 3 ["order", "given", "alls", "bodies", "spreads", "near", "marks"] ["order", "given", "alls", "bodies", "spreads", "near", "marks"] [.inl 0, .inl 1, .inl 2, .inl 3, .inl 4, .inl 5, .inl 6] [] F_Book_init) : FnOk P w K mg base (L2.CX P w) 5 fa fd ["self", "part", "value"] (spOf (bxOf K cs es) 3 F_Book_changed) :=
  fn_ok (m := m_Book_changed) (n := 1) Fd sc_Book_changed rfl (by decide) fun cdv A outer s H E hr tk po =>
    (dss (ds_if (dt_w (dw_or (dt_not (dt_val rfl (dc (ps := ["value"]) C_is_book_part (hr.mono (by decide)) tk (da (dv 1) da0)))) (dw_or1 (dt_not (dt_val rfl (dc (ps := ["part", "value"]) C_is_value (hr.mono (by decide)) tk (da (dv 1) (da (dv 2) da0)))))))) (dss1 (ds_raise R_BadPart (hr.mono (by decide)) rfl tk (dv 1))) dss0)
      (dss (ds_set 3 sc_Book_changed.nd (de_o (do_dispM (de_fld T.oc T.fr_parts (dv 0)) (dv 1) (dv 2))))
      (dss1 (ds_retO (do_makeDD KO_Book_order_given_alls_bodies_spreads_near_marks (hr.mono (by decide)) tk (dv 3))))))
theorem sc_law_pool : FnScope ["_law_script", "_law_k", "_law_cell", "_law_size", "_law_mixed"] ["_law_script", "_law_k"] (defScope s_law_pool) := ⟨rfl, rfl, rfl, by decide +kernel, rfl, by decide +kernel, by decide +kernel⟩
theorem ok_law_pool {fa : Addr} {fd : FuncData} (Fd : Fun K "_law_pool" "_law_pool" s_law_pool fa fd) (T : Txt w K mg cs es A_BadPart A_NamesError)  : FnOk P w K mg base (L2.CX P w) 1 fa fd ["_law_script", "_law_k"] (spOf (bxOf K cs es) 2 F_law_pool) :=
  fn_ok (m := m_law_pool) (n := 3) Fd sc_law_pool rfl (by decide) fun cdv A outer s H E hr tk po =>
    (dss (ds_set 2 sc_law_pool.nd (de_add rfl (de_mulI de_int (de_sum rfl rfl (de_sl rfl (dv 0) dp0 (dp1 de_int)) T.b_sum)) (dv 1)))
      (dss (ds_if (dt_cmp op_lt p_lt (dv 1) (de_len rfl (dv 0) T.b_len) (nomark _)) (dss1 (ds_set 2 sc_law_pool.nd (de_atK (hu1 hr) rfl (dv 0) (dv 1)))) dss0)
      (dss (ds_set 3 sc_law_pool.nd (de_abs (dv 2) T.b_abs))
      (dss (ds_set 4 sc_law_pool.nd (de_add rfl (de_add rfl (de_add rfl (de_mod (de_int1 (dv 3) T.b_int) de_int) (de_mulI (de_mulI de_int (dv 1)) (dv 1))) (de_mulI de_int (dv 1))) de_int))
      (dss (ds_set 4 sc_law_pool.nd (de_mod (de_int1 (de_mulI (dv 4) de_int) T.b_int) de_int))
      (dss1 (ds_retO (do_lst (da (de_mulI (dv 3) (de_int1 (de_cmp op_ge p_ge (dv 3) (de_pow de_int de_int) (nomark _)) T.b_int)) (da (de_mod (de_int1 (de_mulI (dv 4) (dv 4)) T.b_int) de_int) da0))))))))))
theorem sc_law_draw : FnScope ["_law_pool_here", "_law_many", "_law_found"] ["_law_pool_here", "_law_many"] (defScope s_law_draw) := ⟨rfl, rfl, rfl, by decide +kernel, rfl, by decide +kernel, by decide +kernel⟩
theorem ok_law_draw {fa : Addr} {fd : FuncData} (Fd : Fun K "_law_draw" "_law_draw" s_law_draw fa fd) (T : Txt w K mg cs es A_BadPart A_NamesError)  : FnOk P w K mg base (L2.CX P w) 1 fa fd ["_law_pool_here", "_law_many"] (spOf (bxOf K cs es) 2 F_law_draw) :=
  fn_ok (m := m_law_draw) (n := 1) Fd sc_law_draw rfl (by decide) fun cdv A outer s H E hr tk po =>
    (dss (ds_if (dt_cmp op_gt p_gt (de_atK (hu1 hr) rfl (dv 0) de_int) de_int (nomark _)) (dss (ds_set 2 sc_law_draw.nd (de_mod (de_int1 (de_atK (hu1 hr) rfl (dv 0) de_int) T.b_int) (dv 1)))
      (dss (ds_putAt 0 de_int (de_fdiv (de_atK (hu1 hr) rfl (dv 0) de_int) (dv 1)))
      (dss1 (ds_retV 2)))) dss0)
      (dss (ds_putAt 0 de_int (de_mod (de_int1 (de_add rfl (de_mulI (de_atK (hu1 hr) rfl (dv 0) de_int) de_int) de_int) T.b_int) de_int))
      (dss1 (ds_ret (de_mod (de_int1 (de_fdiv (de_mod (de_mulI (de_atK (hu1 hr) rfl (dv 0) de_int) (de_atK (hu1 hr) rfl (dv 0) de_int)) de_int) de_int) T.b_int) (dv 1))))))
theorem sc_law_pick : FnScope ["_law_pool_here", "_law_row"] ["_law_pool_here", "_law_row"] (defScope s_law_pick) := ⟨rfl, rfl, rfl, by decide +kernel, rfl, by decide +kernel, by decide +kernel⟩
theorem ok_law_pick {fa : Addr} {fd : FuncData} (Fd : Fun K "_law_pick" "_law_pick" s_law_pick fa fd) (T : Txt w K mg cs es A_BadPart A_NamesError) (C_law_draw : Cal P w K mg base (bxOf K cs es) "_law_draw" 1 ["_law_pool_here", "_law_many"] F_law_draw) : FnOk P w K mg base (L2.CX P w) 2 fa fd ["_law_pool_here", "_law_row"] (spOf (bxOf K cs es) 2 F_law_pick) :=
  fn_ok (m := m_law_pick) (n := 0) Fd sc_law_pick rfl (by decide) fun cdv A outer s H E hr tk po =>
    (dss1 (ds_ret (de_atK (hu1 hr) rfl (dv 1) (dcM [true, false] C_law_draw (hr.mono (by decide)) tk (da (dv 0) (da (de_len rfl (dv 1) T.b_len) da0))))))
theorem sc_law_rules : FnScope ["_law_pool_here", "_law_orders", "_law_rules_here"] ["_law_pool_here"] (defScope s_law_rules) := ⟨rfl, rfl, rfl, by decide +kernel, rfl, by decide +kernel, by decide +kernel⟩
theorem ok_law_rules {fa : Addr} {fd : FuncData} (Fd : Fun K "_law_rules" "_law_rules" s_law_rules fa fd) (T : Txt w K mg cs es A_BadPart A_NamesError) (C_law_pick : Cal P w K mg base (bxOf K cs es) "_law_pick" 2 ["_law_pool_here", "_law_row"] F_law_pick) (C_law_draw : Cal P w K mg base (bxOf K cs es) "_law_draw" 1 ["_law_pool_here", "_law_many"] F_law_draw) : FnOk P w K mg base (L2.CX P w) 3 fa fd ["_law_pool_here"] (spOf (bxOf K cs es) 1 F_law_rules) :=
  fn_ok (m := m_law_rules) (n := 2) Fd sc_law_rules rfl (by decide) fun cdv A outer s H E hr tk po =>
    (dss (ds_set 1 sc_law_rules.nd (de_o (do_lst (da (de_str ⟨by decide +kernel, by decide +kernel⟩) (da (de_str ⟨by decide +kernel, by decide +kernel⟩) (da (de_str ⟨by decide +kernel, by decide +kernel⟩) (da (de_str ⟨by decide +kernel, by decide +kernel⟩) (da (de_str ⟨by decide +kernel, by decide +kernel⟩) (da (de_str ⟨by decide +kernel, by decide +kernel⟩) da0)))))))))
      (dss (ds_set 1 sc_law_rules.nd (de_add rfl (dv 1) (de_o (do_lst (da (de_str ⟨by decide +kernel, by decide +kernel⟩) (da (de_str ⟨by decide +kernel, by decide +kernel⟩) (da (de_str ⟨by decide +kernel, by decide +kernel⟩) (da (de_str ⟨by decide +kernel, by decide +kernel⟩) (da (de_str ⟨by decide +kernel, by decide +kernel⟩) da0)))))))))
      (dss (ds_setO 2 sc_law_rules.nd (do_disp (dps (de_str ⟨by decide +kernel, by decide +kernel⟩) (dcM [true, false] C_law_pick (hr.mono (by decide)) tk (da (dv 0) (da (de_add rfl (dv 1) (de_o (do_lst (da (de_str ⟨by decide +kernel, by decide +kernel⟩) (da (de_str ⟨by decide +kernel, by decide +kernel⟩) da0))))) da0))) dps0)))
      (dss (ds_putK 2 (hu1 hr) (de_str ⟨by decide +kernel, by decide +kernel⟩) (dcM [true, false] C_law_pick (hr.mono (by decide)) tk (da (dv 0) (da (de_o (do_lst (da (de_str ⟨by decide +kernel, by decide +kernel⟩) (da (de_str ⟨by decide +kernel, by decide +kernel⟩) da0)))) da0))))
      (dss (ds_putK 2 (hu1 hr) (de_str ⟨by decide +kernel, by decide +kernel⟩) (dcM [true, false] C_law_pick (hr.mono (by decide)) tk (da (dv 0) (da (de_o (do_lst (da (de_str ⟨by decide +kernel, by decide +kernel⟩) (da (de_str ⟨by decide +kernel, by decide +kernel⟩) (da (de_str ⟨by decide +kernel, by decide +kernel⟩) (da (de_str ⟨by decide +kernel, by decide +kernel⟩) da0)))))) da0))))
      (dss (ds_putK 2 (hu1 hr) (de_str ⟨by decide +kernel, by decide +kernel⟩) (dcM [true, false] C_law_pick (hr.mono (by decide)) tk (da (dv 0) (da (de_o (do_lst (da (de_str ⟨by decide +kernel, by decide +kernel⟩) (da (de_str ⟨by decide +kernel, by decide +kernel⟩) (da (de_str ⟨by decide +kernel, by decide +kernel⟩) da0))))) da0))))
      (dss (ds_putK 2 (hu1 hr) (de_str ⟨by decide +kernel, by decide +kernel⟩) (dcM [true, false] C_law_pick (hr.mono (by decide)) tk (da (dv 0) (da (de_o (do_lst (da (de_str ⟨by decide +kernel, by decide +kernel⟩) (da (de_str ⟨by decide +kernel, by decide +kernel⟩) (da (de_str ⟨by decide +kernel, by decide +kernel⟩) da0))))) da0))))
      (dss (ds_put2 2 rfl rfl (hu1 hr) (da (de_cmp (op_eqD (hu64 hr)) (p_eq rfl) (dcM [true, false] C_law_draw (hr.mono (by decide)) tk (da (dv 0) (da de_int da0))) de_int (nomark _)) (da (de_cmp (op_eqD (hu64 hr)) (p_eq rfl) (dcM [true, false] C_law_draw (hr.mono (by decide)) tk (da (dv 0) (da de_int da0))) de_int (nomark _)) da0)))
      (dss1 (ds_retV 2))))))))))
theorem sc_law_made_book : FnScope ["_law_r", "_law_book"] ["_law_r"] (defScope s_law_made_book) := ⟨rfl, rfl, rfl, by decide +kernel, rfl, by decide +kernel, by decide +kernel⟩
theorem ok_law_made_book {fa : Addr} {fd : FuncData} (Fd : Fun K "_law_made_book" "_law_made_book" s_law_made_book fa fd) (T : Txt w K mg cs es A_BadPart A_NamesError) (KO_Book_order_given_alls_bodies : MakKO P w K mg base (bxOf K cs es) "Book" "Book" 3 ["order", "given", "alls", "bodies", "spreads", "near", "marks"] ["order", "given", "alls", "bodies"] [.inl 0, .inl 1, .inl 2, .inl 3, .inr 0, .inr 1, .inr 2] [.str "member", .bl true, .bl false] F_Book_init) (T_t_mt_changed_Book : ∀ c f, t_mt_changed_Book c = some f → MtC P w K mg base (bxOf K cs es) c "changed" 3 5 f) : FnOk P w K mg base (L2.CX P w) 6 fa fd ["_law_r"] (spOf (bxOf K cs es) 1 F_law_made_book) :=
  fn_ok (m := m_law_made_book) (n := 1) Fd sc_law_made_book rfl (by decide) fun cdv A outer s H E hr tk po =>
    (dss (ds_set 1 sc_law_made_book.nd (de_o (do_makeKO KO_Book_order_given_alls_bodies (hr.mono (by decide)) tk (dk (de_atK (hu1 hr) rfl (dv 0) (de_str ⟨by decide +kernel, by decide +kernel⟩)) (dk (de_atK (hu1 hr) rfl (dv 0) (de_str ⟨by decide +kernel, by decide +kernel⟩)) (dk (de_atK (hu1 hr) rfl (dv 0) (de_str ⟨by decide +kernel, by decide +kernel⟩)) (dk (de_atK (hu1 hr) rfl (dv 0) (de_str ⟨by decide +kernel, by decide +kernel⟩)) dk0)))) (mA_lc (mA_lc (mA_lc (mA_lc mA_l0)))))))
      (dss (ds_set 1 sc_law_made_book.nd (de_meth T_t_mt_changed_Book T.oc (hr.mono (by decide)) tk (de_meth T_t_mt_changed_Book T.oc (hr.mono (by decide)) tk (dv 1) (da (de_str ⟨by decide +kernel, by decide +kernel⟩) (da (de_atK (hu1 hr) rfl (dv 0) (de_str ⟨by decide +kernel, by decide +kernel⟩)) da0))) (da (de_str ⟨by decide +kernel, by decide +kernel⟩) (da (de_atK (hu1 hr) rfl (dv 0) (de_str ⟨by decide +kernel, by decide +kernel⟩)) da0))))
      (dss1 (ds_ret (de_meth T_t_mt_changed_Book T.oc (hr.mono (by decide)) tk (dv 1) (da (de_str ⟨by decide +kernel, by decide +kernel⟩) (da (de_atK (hu1 hr) rfl (dv 0) (de_str ⟨by decide +kernel, by decide +kernel⟩)) da0)))))))
theorem sc_law_parts : FnScope [] [] (defScope s_law_parts) := ⟨rfl, rfl, rfl, by decide +kernel, rfl, by decide +kernel, by decide +kernel⟩
theorem ok_law_parts {fa : Addr} {fd : FuncData} (Fd : Fun K "_law_parts" "_law_parts" s_law_parts fa fd) (T : Txt w K mg cs es A_BadPart A_NamesError)  : FnOk P w K mg base (L2.CX P w) 1 fa fd [] (spOf (bxOf K cs es) 0 F_law_parts) :=
  fn_ok (m := m_law_parts) (n := 0) Fd sc_law_parts rfl (by decide) fun cdv A outer s H E hr tk po =>
    (dss1 (ds_retO (do_lst (da (de_str ⟨by decide +kernel, by decide +kernel⟩) (da (de_str ⟨by decide +kernel, by decide +kernel⟩) (da (de_str ⟨by decide +kernel, by decide +kernel⟩) (da (de_str ⟨by decide +kernel, by decide +kernel⟩) (da (de_str ⟨by decide +kernel, by decide +kernel⟩) (da (de_str ⟨by decide +kernel, by decide +kernel⟩) (da (de_str ⟨by decide +kernel, by decide +kernel⟩) da0))))))))))
theorem sc_law_odd : FnScope [] [] (defScope s_law_odd) := ⟨rfl, rfl, rfl, by decide +kernel, rfl, by decide +kernel, by decide +kernel⟩
theorem ok_law_odd {fa : Addr} {fd : FuncData} (Fd : Fun K "_law_odd" "_law_odd" s_law_odd fa fd) (T : Txt w K mg cs es A_BadPart A_NamesError)  : FnOk P w K mg base (L2.CX P w) 1 fa fd [] (spOf (bxOf K cs es) 0 F_law_odd) :=
  fn_ok (m := m_law_odd) (n := 0) Fd sc_law_odd rfl (by decide) fun cdv A outer s H E hr tk po =>
    (dss1 (ds_retO (do_lst (da de_non (da (de_str ⟨by decide +kernel, by decide +kernel⟩) (da de_int (da de_int (da (de_str ⟨by decide +kernel, by decide +kernel⟩) (da (de_str ⟨by decide +kernel, by decide +kernel⟩) (da (de_o (do_lst (da (de_str ⟨by decide +kernel, by decide +kernel⟩) da0))) (da (de_tup (da (de_str ⟨by decide +kernel, by decide +kernel⟩) da0)) (da (de_str ⟨by decide +kernel, by decide +kernel⟩) (da (de_str ⟨by decide +kernel, by decide +kernel⟩) (da (de_str ⟨by decide +kernel, by decide +kernel⟩) (da (de_str ⟨by decide +kernel, by decide +kernel⟩) (da (de_o do_dic0) (da (de_str ⟨by decide +kernel, by decide +kernel⟩) (da (de_str ⟨by decide +kernel, by decide +kernel⟩) (da (de_str ⟨by decide +kernel, by decide +kernel⟩) (da (de_str ⟨by decide +kernel, by decide +kernel⟩) (da (de_str ⟨by decide +kernel, by decide +kernel⟩) (da de_int (da (de_str ⟨by decide +kernel, by decide +kernel⟩) da0)))))))))))))))))))))))
theorem sc_law_refused : FnScope ["_law_rules_here", "_law_made", "e"] ["_law_rules_here"] (defScope s_law_refused) := ⟨rfl, rfl, rfl, by decide +kernel, rfl, by decide +kernel, by decide +kernel⟩
theorem ok_law_refused {fa : Addr} {fd : FuncData} (Fd : Fun K "_law_refused" "_law_refused" s_law_refused fa fd) (T : Txt w K mg cs es A_BadPart A_NamesError) (KO_Book_order_given_alls_bodies_spreads_near_marks : MakKO P w K mg base (bxOf K cs es) "Book" "Book" 3 ["order", "given", "alls", "bodies", "spreads", "near", "marks"] ["order", "given", "alls", "bodies", "spreads", "near", "marks"] [.inl 0, .inl 1, .inl 2, .inl 3, .inl 4, .inl 5, .inl 6] [] F_Book_init) : FnOk P w K mg base (L2.CX P w) 5 fa fd ["_law_rules_here"] (spOf (bxOf K cs es) 1 F_law_refused) :=
  fn_ok (m := m_law_refused) (n := 2) Fd sc_law_refused rfl (by decide) fun cdv A outer s H E hr tk po =>
    (dss (ds_set 1 sc_law_refused.nd de_non)
      (dss (ds_try rfl rfl sc_law_refused.nd tk (fun W pn xe tk => (dss1 (ds_set 1 sc_law_refused.nd (de_o (do_makeKO KO_Book_order_given_alls_bodies_spreads_near_marks (hr.mono (by decide)) tk (dk (de_atK (hu1 hr) rfl (dv 0) (de_str ⟨by decide +kernel, by decide +kernel⟩)) (dk (de_atK (hu1 hr) rfl (dv 0) (de_str ⟨by decide +kernel, by decide +kernel⟩)) (dk (de_atK (hu1 hr) rfl (dv 0) (de_str ⟨by decide +kernel, by decide +kernel⟩)) (dk (de_atK (hu1 hr) rfl (dv 0) (de_str ⟨by decide +kernel, by decide +kernel⟩)) (dk (de_atK (hu1 hr) rfl (dv 0) (de_str ⟨by decide +kernel, by decide +kernel⟩)) (dk (de_atK (hu1 hr) rfl (dv 0) (de_str ⟨by decide +kernel, by decide +kernel⟩)) (dk (de_atK (hu1 hr) rfl (dv 0) (de_str ⟨by decide +kernel, by decide +kernel⟩)) dk0))))))) (mA_lc (mA_lc (mA_lc (mA_lc (mA_lc (mA_lc (mA_lc mA_l0)))))))))))) (.cons ⟨rfl, by decide, .inl T.g_BadPart⟩ rfl rfl T.cs_BadPart (fun a oe cls dx pn hz hf => xs_retO (m := fun c d => mLst (mA (mXf xf_part "part" c d) (mA (mXi xi_NamesError c) mA0))) fun C dd e1 e2 c d => by subst e1; subst e2; exact (xo_lst (xa (fun _ _ _ l h => h.mono l) (xp_f hz hf T.xf_part) (xa (fun _ _ _ l h => h.mono l) (xp_is hz hf T.xi_NamesError ⟨_, pe_glob (v := .ref A_NamesError) rfl T.g_NamesError rfl, fun σ H Q h => h (.ref A_NamesError) fun u hu => hu⟩ T.b_isinstance) xa0)))) HL.nil))
      (dss1 (ds_retO (do_lst (da (dv 1) da0))))))
theorem sc_law_asked : FnScope ["_law_book", "_law_way", "_law_value", "_law_other", "_law_told", "e"] ["_law_book", "_law_way", "_law_value", "_law_other"] (defScope s_law_asked) := ⟨rfl, rfl, rfl, by decide +kernel, rfl, by decide +kernel, by decide +kernel⟩
theorem ok_law_asked {fa : Addr} {fd : FuncData} (Fd : Fun K "_law_asked" "_law_asked" s_law_asked fa fd) (T : Txt w K mg cs es A_BadPart A_NamesError) (T_t_gi_Book : ∀ c f, t_gi_Book c = some f → GtC P w K mg base (bxOf K cs es) c 3 f) (T_t_mt_rank_Book : ∀ c f, t_mt_rank_Book c = some f → MtC P w K mg base (bxOf K cs es) c "rank" 2 3 f) (T_t_mt_changed_Book : ∀ c f, t_mt_changed_Book c = some f → MtC P w K mg base (bxOf K cs es) c "changed" 3 5 f) : FnG P w K mg base 6 fa fd ["_law_book", "_law_way", "_law_value", "_law_other"] (spOf (bxOf K cs es) 4 F_law_asked) :=
  fn_okG (m := m_law_asked) (n := 2) Fd sc_law_asked rfl (by decide) fun cdv A outer s H E hr gd tk po =>
    (dss (ds_set 4 sc_law_asked.nd de_non)
      (dss (ds_try rfl rfl sc_law_asked.nd tk (fun W pn xe tk => (dss1 (ds_if (dt_cmp (op_eqD (hu64 hr)) (p_eq rfl) (dv 1) de_int (nomark _)) (dss1 (ds_set 4 sc_law_asked.nd (de_ixO T_t_gi_Book (hr.mono (by decide)) tk (ix_list.or (ix_tup.or ix_str)) (p_ix rfl) (dv 0) (dv 2) (fun _ _ => rfl) (fun _ _ => rfl)))) (dss1 (ds_if (dt_cmp (op_eqD (hu64 hr)) (p_eq rfl) (dv 1) de_int (nomark _)) (dss1 (ds_set 4 sc_law_asked.nd (de_meth T_t_mt_rank_Book T.oc (hr.mono (by decide)) tk (dv 0) (da (dv 2) da0)))) (dss1 (ds_set 4 sc_law_asked.nd (de_meth T_t_mt_changed_Book T.oc (hr.mono (by decide)) tk (dv 0) (da (dv 2) (da (dv 3) da0)))))))))) (.cons ⟨rfl, by decide, .inl T.g_BadPart⟩ rfl rfl T.cs_BadPart (fun a oe cls dx pn hz hf => xs_retO (m := fun c d => mLst (mA (mD (mB1 dReprK (mXf xf_part "part" c d))) mA0)) fun C dd e1 e2 c d => by subst e1; subst e2; exact (xo_lst (xa (fun _ _ _ l h => h.mono l) (xp_reprK gd (hu70S hr) rfl (xp_f hz hf T.xf_part) T.b_repr) xa0))) HL.nil))
      (dss1 (ds_retO (do_lst (da de_non (da (dv 4) da0)))))))
theorem sc_law : FnScope ["_law_script", "_law_k", "_law_pool_here", "_law_rules_here", "_law_book", "_law_turn", "_law_value", "_law_part", "_law_again", "_law_least", "_law_way", "_law_odd_here", "_law_wrong", "_law_bad", "_law_at"] ["_law_script"] (defScope s_law) := ⟨rfl, rfl, rfl, by decide +kernel, rfl, by decide +kernel, by decide +kernel⟩
theorem ok_law {fa : Addr} {fd : FuncData} (Fd : Fun K "law" "law" s_law fa fd) (T : Txt w K mg cs es A_BadPart A_NamesError) (C_law_pool : Cal P w K mg base (bxOf K cs es) "_law_pool" 1 ["_law_script", "_law_k"] F_law_pool) (C_law_rules : Cal P w K mg base (bxOf K cs es) "_law_rules" 3 ["_law_pool_here"] F_law_rules) (C_law_made_book : Cal P w K mg base (bxOf K cs es) "_law_made_book" 6 ["_law_r"] F_law_made_book) (C_law_draw : Cal P w K mg base (bxOf K cs es) "_law_draw" 1 ["_law_pool_here", "_law_many"] F_law_draw) (C_law_pick : Cal P w K mg base (bxOf K cs es) "_law_pick" 2 ["_law_pool_here", "_law_row"] F_law_pick) (C_law_odd : Cal P w K mg base (bxOf K cs es) "_law_odd" 1 [] F_law_odd) (C_law_parts : Cal P w K mg base (bxOf K cs es) "_law_parts" 1 [] F_law_parts) (C_law_refused : Cal P w K mg base (bxOf K cs es) "_law_refused" 5 ["_law_rules_here"] F_law_refused) (C_law_asked : CalG P w K mg base (bxOf K cs es) "_law_asked" 6 ["_law_book", "_law_way", "_law_value", "_law_other"] F_law_asked) : FnG P w K mg base 7 fa fd ["_law_script"] (spOf (bxOf K cs es) 1 F_law) :=
  fn_okG (m := m_law) (n := 14) Fd sc_law rfl (by decide) fun cdv A outer s H E hr gd tk po =>
    (dss (ds_for po rfl (di_range1 (de_max2 rfl de_int (de_min2 rfl (de_len rfl (dv 0) T.b_len) de_int T.b_min) T.b_max) T.b_range) (dg_n 1 sc_law.nd) (dss_w [false, true, true, true, true, true, true, true, true, true, true, true, true, true, true] (dss (ds_setO 2 sc_law.nd (oc (ps := ["_law_script", "_law_k"]) C_law_pool (hr.mono (by decide)) tk (da (dv 0) (da (dv 1) da0))))
      (dss (ds_set 3 sc_law.nd (dcM [true] C_law_rules (hr.mono (by decide)) tk (da (dv 2) da0)))
      (dss (ds_set 4 sc_law.nd (dc (ps := ["_law_r"]) C_law_made_book (hr.mono (by decide)) tk (da (dv 3) da0)))
      (dss (ds_for po rfl (di_range1 de_int T.b_range) (dg_n 5 sc_law.nd) (dss_w [false, false, false, false, false, true, false, false, true, true, false, false, true, true, true] (dss (ds_asgN rfl (disO (do_lst da0) (disO (do_dictOf rfl rfl (dv 3) T.b_dict) dis0)) (gns 12 sc_law.nd (gns 13 sc_law.nd gns0)))
      (dss (ds_for po rfl (di_range1 (de_add rfl de_int (dcM [true, false] C_law_draw (hr.mono (by decide)) tk (da (dv 2) (da de_int da0)))) T.b_range) (dg_n 8 sc_law.nd) (dss_w [false, false, false, false, false, false, false, false, true, false, false, false, false, false, true] (dss (ds_set 14 sc_law.nd (dcM [true, false] C_law_draw (hr.mono (by decide)) tk (da (dv 2) (da de_int da0))))
      (dss (ds_putK 13 (hu1 hr) (de_atK (hu1 hr) rfl (dc0 C_law_parts (hr.mono (by decide)) tk) (dv 14)) (dcM [true, false] C_law_pick (hr.mono (by decide)) tk (da (dv 2) (da (dc0 C_law_odd (hr.mono (by decide)) tk) da0))))
      (dss1 (ds_append 12 (dv 14)))))))
      (dss (ds_set 9 sc_law.nd (de_atK (hu1 hr) rfl (de_o (do_lc rfl sc_law.nd (di_range1 de_int T.b_range) (blk_ok (N := ["_law_script", "_law_k", "_law_pool_here", "_law_rules_here", "_law_book", "_law_turn", "_law_value", "_law_part", "_law_again", "_law_least", "_law_way", "_law_odd_here", "_law_wrong", "_law_bad", "_law_at"]) (sc := defScope s_law) (own := [("_law_at", 14)]) rfl rfl (by decide +kernel)) (fun _ _ _ _ _ => (dg_n 14 sc_law.nd)) (fun _ _ _ _ _ => (dts1 (dt_cmp (OpR.or (op_inX (hu65 hr)) (op_inKD (hu1 hr))) (p_inK (p_in rfl)) (dv 14) (dv 12) rfl))) (fun _ _ _ _ _ => (dv 14)) (by decide))) de_int))
      (dss1 (ds_if (dt_cmp (op_neD (hu64 hr)) (p_ne rfl) (dc (ps := ["_law_rules_here"]) C_law_refused (hr.mono (by decide)) tk (da (dv 13) da0)) (de_o (do_lst (da (de_atK (hu1 hr) rfl (dc0 C_law_parts (hr.mono (by decide)) tk) (dv 9)) (da de_bl da0)))) (nomark _)) (dss1 (ds_ret de_bl)) dss0)))))))
      (dss (ds_for po rfl (di_seq rfl (de_o (do_lst (da de_non (da de_int (da de_bl (da (de_str ⟨by decide +kernel, by decide +kernel⟩) (da (de_str ⟨by decide +kernel, by decide +kernel⟩) (da (de_str ⟨by decide +kernel, by decide +kernel⟩) (da (de_o (do_lst (da (de_str ⟨by decide +kernel, by decide +kernel⟩) da0))) (da (de_tup (da (de_str ⟨by decide +kernel, by decide +kernel⟩) da0)) (da (de_str ⟨by decide +kernel, by decide +kernel⟩) (da (de_str ⟨by decide +kernel, by decide +kernel⟩) da0))))))))))))) (dg_n 6 sc_law.nd) (dss_w [false, false, false, false, false, false, true, false, false, false, true] (dss (ds_for po rfl (di_range1 de_int T.b_range) (dg_n 10 sc_law.nd) (dss_w [false, false, false, false, false, false, false, false, false, false, true] (dss1 (ds_if (dt_cmp (op_neD (hu64 hr)) (p_ne rfl) (dcG (ps := ["_law_book", "_law_way", "_law_value", "_law_other"]) C_law_asked (hr.mono (by decide)) gd tk (da (dv 4) (da (dv 10) (da (dv 6) (da de_non da0))))) (de_o (do_lst (da (de_reprK gd (hu70 hr) rfl (dv 6) T.b_repr) da0))) (nomark _)) (dss1 (ds_ret de_bl)) dss0))))
      (dss1 (ds_if (dt_cmp (op_neD (hu64 hr)) (p_ne rfl) (dcG (ps := ["_law_book", "_law_way", "_law_value", "_law_other"]) C_law_asked (hr.mono (by decide)) gd tk (da (dv 4) (da de_int (da (dv 6) (da (dcM [true, false] C_law_pick (hr.mono (by decide)) tk (da (dv 2) (da (de_o (do_lst (da (de_str ⟨by decide +kernel, by decide +kernel⟩) (da de_bl (da (de_str ⟨by decide +kernel, by decide +kernel⟩) da0))))) da0))) da0))))) (de_o (do_lst (da (de_reprK gd (hu70 hr) rfl (dv 6) T.b_repr) da0))) (nomark _)) (dss1 (ds_ret de_bl)) dss0)))))
      (dss1 (ds_for po rfl (di_seq rfl (dc0 C_law_parts (hr.mono (by decide)) tk)) (dg_n 7 sc_law.nd) (dss_w [false, false, false, false, false, false, false, true, false, false, false, true] (dss (ds_if (dt_cmp (op_neD (hu64 hr)) (p_ne rfl) (dcG (ps := ["_law_book", "_law_way", "_law_value", "_law_other"]) C_law_asked (hr.mono (by decide)) gd tk (da (dv 4) (da de_int (da (dv 7) (da de_non da0))))) (de_o (do_lst (da (de_reprK gd (hu70 hr) rfl (dv 7) T.b_repr) da0))) (nomark _)) (dss1 (ds_ret de_bl)) dss0)
      (dss1 (ds_for po rfl (di_seq rfl (dc0 C_law_odd (hr.mono (by decide)) tk)) (dg_n 11 sc_law.nd) (dss_w [false, false, false, false, false, false, false, false, false, false, false, true] (dss1 (ds_if (dt_cmp (op_neD (hu64 hr)) (p_ne rfl) (dcG (ps := ["_law_book", "_law_way", "_law_value", "_law_other"]) C_law_asked (hr.mono (by decide)) gd tk (da (dv 4) (da de_int (da (dv 7) (da (dv 11) da0))))) (de_o (do_lst (da (de_reprK gd (hu70 hr) rfl (dv 7) T.b_repr) da0))) (nomark _)) (dss1 (ds_ret de_bl)) dss0))))))))))))))))
      (dss1 (ds_ret de_bl)))
end
end G

set_option Elab.async false
set_option maxRecDepth 100000
set_option linter.unusedVariables false
set_option linter.unusedSimpArgs false
namespace G
open PySem L2 AN
def Pl (a b : Int) : Prop := 0 ≤ a ∧ 0 ≤ b ∧ b < 2147483647
abbrev pl (a b : Int) : O := .lst [.int a, .int b]
theorem draw_ok {a b n : Int} (h : Pl a b) (h0 : 0 < n) (h1 : n < 18446744073709551616) : ∃ v a' b', F_law_draw [.ow true (pl a b), .fz (.int n)] = .ok (.fz (.int v)) [.ow true (pl a' b'), .fz (.int n)] ∧ 0 ≤ v ∧ v < n ∧ Pl a' b' := by
  obtain ⟨ha, hb, hb'⟩ := h
  by_cases c : 0 < a
  · refine ⟨a % n, a / n, b, ?_, Int.emod_nonneg _ (by omega), Int.emod_lt_of_pos _ h0, Int.ediv_nonneg ha (by omega), hb, hb'⟩
    simp [F_law_draw, runF, m_law_draw, mV, view, dIxK, dIx, L2.atI, ixN, dI, blOf, c, h0, h1, put, chkL, AN.putAt, intOf, mRetV, outs, dInt]
  · refine ⟨(((b * 48271 + 11) % 2147483647) * ((b * 48271 + 11) % 2147483647) % 2147483629 / 16) % n, a, (b * 48271 + 11) % 2147483647, ?_, Int.emod_nonneg _ (by omega), Int.emod_lt_of_pos _ h0, ha, Int.emod_nonneg _ (by omega), Int.emod_lt_of_pos _ (by omega)⟩
    · have q1 : 0 ≤ (b * 48271 + 11) % 2147483647 := Int.emod_nonneg _ (by omega)
      have q2 : (b * 48271 + 11) % 2147483647 < 2147483647 := Int.emod_lt_of_pos _ (by omega)
      have q3 : -18446744073709551616 < (b * 48271 + 11) % 2147483647 := by omega
      have q4 : (b * 48271 + 11) % 2147483647 < 18446744073709551616 := by omega
      simp [F_law_draw, runF, m_law_draw, mV, view, dIxK, dIx, L2.atI, ixN, dI, blOf, c, h0, h1, put, chkL, AN.putAt, intOf, mRetV, outs, dInt, dAdd, q3, q4]
theorem draw_at {a b n : Int} {e : AN.Env} {i : Nat} {k : Bool} (h : Pl a b) (h0 : 0 < n) (h1 : n < 18446744073709551616) (he : e[i]? = some (.ow k (pl a b))) : ∃ v a' b', callM [true, false] F_law_draw [.sl i, .d (.int n)] e = .ok (.fz (.int v)) (e.set i (.ow k (pl a' b'))) ∧ 0 ≤ v ∧ v < n ∧ Pl a' b' := by
  obtain ⟨v, a', b', h2, h3, h4, h5⟩ := draw_ok h h0 h1
  refine ⟨v, a', b', callM_ok (by simp [ioS]) (ds := [.non, .int n]) (e1 := e) rfl (args := [.ow true (pl a b), .fz (.int n)]) ?_ h2 ?_, h3, h4, h5⟩
  · simp [mkA, he]
  · simp [back, he]
theorem atI_mem {α : Type} {xs : List α} {i : Int} (h0 : 0 ≤ i) (h1 : i < xs.length) : ∃ x ∈ xs, L2.atI xs i = some x := by
  unfold L2.atI ixN
  rw [if_pos h0, if_pos h1]
  have : i.toNat < xs.length := by omega
  exact ⟨xs[i.toNat], List.getElem_mem this, by simp [this]⟩
theorem pick_lst {a b : Int} {s : List D} (h : Pl a b) (h0 : 0 < s.length) (h1 : s.length < 65536) : ∃ c a' b', F_law_pick [.ow true (pl a b), .fz (.lst s)] = .ok (.fz c) [.ow true (pl a' b'), .fz (.lst s)] ∧ c ∈ s ∧ Pl a' b' := by
  obtain ⟨v, a', b', h2, h3, h4, h5⟩ := draw_at (e := [.ow true (pl a b), .fz (.lst s)]) (i := 0) (k := true) (n := s.length) h (by omega) (by omega) rfl
  obtain ⟨c, hc, e⟩ := atI_mem (xs := s) h3 (by simpa using h4)
  refine ⟨c, a', b', ?_, hc, h5⟩
  simp [F_law_pick, runF, m_law_pick, mV, view, dLen, h2, dIxK, dIx, e, outs]
theorem pick_at {a b : Int} {d : D} {e : AN.Env} {i : Nat} {k : Bool} {c : D} {a' b' : Int} (h : F_law_pick [.ow true (pl a b), .fz d] = .ok (.fz c) [.ow true (pl a' b'), .fz d]) (he : e[i]? = some (.ow k (pl a b))) : callM [true, false] F_law_pick [.sl i, .d d] e = .ok (.fz c) (e.set i (.ow k (pl a' b'))) := by
  refine callM_ok (by simp [ioS]) (ds := [.non, d]) (e1 := e) rfl (args := [.ow true (pl a b), .fz d]) ?_ h ?_
  · simp [mkA, he]
  · simp [back, he]
theorem not_ok {t : M Bool} {e e1 : AN.Env} {b : Bool} (h : t e = .ok b e1) : mNot t e = .ok (!b) e1 := by rw [mNot_r, h, th_ok]
theorem t_ok {m : M Opd} {e e1 : AN.Env} {d : D} {b : Bool} (h : m e = .ok (.d d) e1) (h2 : truth d = some b) : mT m e = .ok b e1 := by rw [mT_r]; exact b1_ok h h2
theorem andv_t {m n : M Opd} {e e1 : AN.Env} {d : D} {r : R Opd} (h : m e = .ok (.d d) e1) (h2 : blOf d = some true) (h3 : n e1 = r) : mAndV m n e = r := by rw [mAndV_r, b1_ok h h2, th_ok, if_pos rfl]; exact h3
theorem andv_f {m n : M Opd} {e e1 : AN.Env} {d : D} (h : m e = .ok (.d d) e1) (h2 : blOf d = some false) : mAndV m n e = .ok (.d (.bl false)) e1 := by rw [mAndV_r, b1_ok h h2, th_ok, if_neg Bool.false_ne_true]; rfl
theorem loop_go {g : D → AN.Env → Option AN.Env} {b : M Fl} {d : D} {ds : List D} {e e1 e2 : AN.Env} (hg : g d e = some e1) (hb : b e1 = .ok .nx e2) : loop g b (d :: ds) e = loop g b ds e2 := by
  simp only [loop, hg, hb]
theorem loop_x {g : D → AN.Env → Option AN.Env} {b : M Fl} {d x : D} {c : String} {ds : List D} {e e1 e2 : AN.Env} (hg : g d e = some e1) (hb : b e1 = .exc c x e2) : loop g b (d :: ds) e = .exc c x e2 := by
  simp only [loop, hg, hb]
theorem loop_inv {σ : Type} (E : σ → AN.Env) (I : σ → Prop) {g : D → AN.Env → Option AN.Env} {body : M Fl} : ∀ {ds : List D} {s : σ}, I s → (∀ d ∈ ds, ∀ s, I s → ∃ e1 s', g d (E s) = some e1 ∧ body e1 = .ok .nx (E s') ∧ I s') → ∃ s', loop g body ds (E s) = .ok .nx (E s') ∧ I s'
  | [], s, h, _ => ⟨s, rfl, h⟩
  | d :: ds, s, h, st => by
    obtain ⟨e1, s1, h1, h2, h3⟩ := st d (by simp) s h
    obtain ⟨s2, k1, k2⟩ := loop_inv E I (ds := ds) h3 fun d hd => st d (by simp [hd])
    exact ⟨s2, (loop_go h1 h2).trans k1, k2⟩
theorem z0' : (0 : Nat) ≤ sizeLine := by decide
theorem z1' : (1 : Nat) ≤ sizeLine := by decide
theorem z2' : (2 : Nat) ≤ sizeLine := by decide
theorem m1o_ok {a : D} {t : Str} {o : O} {ma mb : M Opd} {e : AN.Env} (h1 : ma e = .ok (.d a) e) (h2 : mb e = .ok (.d (.str t)) e) (hg : oSplit a (.str t) = some o) : mM1O oSplit ma mb e = .ok o e := by
  rw [mM1O_r, h1, th_ok, ap1_r, view_d]
  cases a with
  | str s => 
    show R.th (rop (strChk (.str s)) e) _ = _
    rw [show strChk (.str s) = some () from rfl, rop_some, th_ok, h2, th_ok, ap2_r, view_d, view_d]
    simp only [Option.bind_some, hg, rop_some]
  | _ => cases hg
theorem raise_ok {c : String} {m : M Opd} {e e1 : AN.Env} {d : D} (h : m e = .ok (.d d) e1) : mRaise c m e = .exc c d e1 := by rw [mRaise_r, h, th_ok, frz1_d, th_ok]
theorem dReprK_ok {d : D} (h : shOk d = true) (hd : ∀ kvs, d ≠ .dic kvs) : dReprK d = some (.str (toP d).shown) := by
  have : dReprK d = dRepr d := by
    cases d with
    | dic kvs => exact absurd rfl (hd kvs)
    | _ => rfl
  rw [this]
  exact if_pos h
theorem putK_ok {i : Nat} {ix m : M Opd} {e e1 e2 : AN.Env} {d ka : D} {k : Key} {pn : Bool} {kvs : List (Key × D)} (h : m e = .ok (.d d) e1) (h0 : ∃ pn kvs, e1[i]? = some (.ow pn (.dic kvs))) (hi : ix e1 = .ok (.d ka) e2) (hk : keyOf ka = some k) (h1 : e2[i]? = some (.ow pn (.dic kvs))) (hz : kvs.length < 1000) : mPutK i ix m e = .ok .nx (e2.set i (.ow pn (.dic (putKD kvs k d)))) := by
  obtain ⟨p0, k0, h0⟩ := h0
  have hz' : kvs.length < sizeLine := Nat.lt_of_lt_of_le hz (zL (Nat.le_refl _))
  simp only [mPutK, bind_r, h, th_ok, frz1_d, chkD, h0, hi, ap1_r, view_d, Option.bind_some, hk, rop_some, putKAt, h1, if_pos hz']
theorem not_t {t : M Bool} {e e1 : AN.Env} (h : t e = .ok true e1) : mNot t e = .ok false e1 := not_ok h
theorem not_f {t : M Bool} {e e1 : AN.Env} (h : t e = .ok false e1) : mNot t e = .ok true e1 := not_ok h
end G

set_option Elab.async false
set_option maxRecDepth 100000
set_option linter.unusedVariables false
set_option linter.unusedSimpArgs false
namespace G
open PySem L2 AN
theorem intsOf_take {ns : List Int} {n : Nat} : (ns.map D.int).take n = (ns.take n).map D.int := by simp
theorem pool_ok {ns : List Int} {k : Int} (h0 : 0 ≤ k) (h1 : k < 65536) (hl : ns.length ≤ 63) : ∃ a b, F_law_pool [.fz (scriptD ns), .fz (.int k)] = .ok (.ow (pl a b)) [.fz (scriptD ns), .fz (.int k)] ∧ Pl a b := by
  have hk1 : -18446744073709551616 < k := by omega
  have hk2 : k < 18446744073709551616 := by omega
  have c1 : cutD (ns.map D.int) none (some 63) = ns.map D.int := by
    have : HT.sIx (ns.map D.int).length (ns.map D.int).length (some 63) = (ns.map D.int).length := by
      simp only [HT.sIx, List.length_map]
      rw [if_neg (by omega)]
      exact Nat.min_eq_right (show ns.length ≤ (63 : Int).toNat by simpa using hl)
    unfold cutD
    rw [this]
    simp [HT.sIx]
    exact List.take_of_length_le (by simp)
  have key : ∀ z : Int, ∃ b, 0 ≤ b ∧ b < 2147483647 ∧ ((z % 2147483629 + 7919 * k * k + 31 * k + 17) * 48271 % 2147483647) * ((z % 2147483629 + 7919 * k * k + 31 * k + 17) * 48271 % 2147483647) % 2147483629 = b := fun z => ⟨_, Int.emod_nonneg _ (by omega), Int.lt_trans (Int.emod_lt_of_pos _ (by omega)) (by omega), rfl⟩
  have m1 : -18446744073709551616 < 7919 * k := by omega
  have m2 : 7919 * k < 18446744073709551616 := by omega
  by_cases hk : k < ns.length
  · have hix : ∃ z, L2.atI (ns.map D.int) k = some (.int z) := by
      unfold L2.atI ixN
      rw [if_pos h0, if_pos (by simpa using hk)]
      have : k.toNat < ns.length := by omega
      exact ⟨ns[k.toNat], by simp [this]⟩
    obtain ⟨z, hz⟩ := hix
    generalize hy : (if z < 0 then -z else z) = y
    have y0 : 0 ≤ y := by rw [← hy]; split <;> omega
    obtain ⟨b, b0, b1, hb⟩ := key y
    have w1 : 0 ≤ (y % 2147483629 + 7919 * k * k + 31 * k + 17) * 48271 % 2147483647 := Int.emod_nonneg _ (by omega)
    have w2 : (y % 2147483629 + 7919 * k * k + 31 * k + 17) * 48271 % 2147483647 < 2147483647 := Int.emod_lt_of_pos _ (by omega)
    have w3 : -18446744073709551616 < (y % 2147483629 + 7919 * k * k + 31 * k + 17) * 48271 % 2147483647 := by omega
    have w4 : (y % 2147483629 + 7919 * k * k + 31 * k + 17) * 48271 % 2147483647 < 18446744073709551616 := by omega
    by_cases big : 1000000000000000000 ≤ y
    · refine ⟨y, b, ?_, y0, b0, b1⟩
      simp [F_law_pool, runF, m_law_pool, scriptD, mV, view, dSl, intOf, c1, dSum, dI, dAdd, put, hk, h0, dLen, blOf, dIxK, dIx, hz, dAbs, hy, dInt, hk1, hk2, m1, m2, w3, w4, big, lim, sizeLine, hb, outs]
    · refine ⟨0, b, ?_, Int.le_refl 0, b0, b1⟩
      simp [F_law_pool, runF, m_law_pool, scriptD, mV, view, dSl, intOf, c1, dSum, dI, dAdd, put, hk, h0, dLen, blOf, dIxK, dIx, hz, dAbs, hy, dInt, hk1, hk2, m1, m2, w3, w4, big, lim, sizeLine, hb, outs]
  · generalize hz : 7 * ns.sum + k = z
    generalize hy : (if z < 0 then -z else z) = y
    have y0 : 0 ≤ y := by rw [← hy]; split <;> omega
    obtain ⟨b, b0, b1, hb⟩ := key y
    have w1 : 0 ≤ (y % 2147483629 + 7919 * k * k + 31 * k + 17) * 48271 % 2147483647 := Int.emod_nonneg _ (by omega)
    have w2 : (y % 2147483629 + 7919 * k * k + 31 * k + 17) * 48271 % 2147483647 < 2147483647 := Int.emod_lt_of_pos _ (by omega)
    have w3 : -18446744073709551616 < (y % 2147483629 + 7919 * k * k + 31 * k + 17) * 48271 % 2147483647 := by omega
    have w4 : (y % 2147483629 + 7919 * k * k + 31 * k + 17) * 48271 % 2147483647 < 18446744073709551616 := by omega
    by_cases big : 1000000000000000000 ≤ y
    · refine ⟨y, b, ?_, y0, b0, b1⟩
      simp [F_law_pool, runF, m_law_pool, scriptD, mV, view, dSl, intOf, c1, dSum, dI, dAdd, put, hk, h0, dLen, blOf, dIxK, dIx, hz, dAbs, hy, dInt, hk1, hk2, m1, m2, w3, w4, big, lim, sizeLine, hb, outs]
    · refine ⟨0, b, ?_, Int.le_refl 0, b0, b1⟩
      simp [F_law_pool, runF, m_law_pool, scriptD, mV, view, dSl, intOf, c1, dSum, dI, dAdd, put, hk, h0, dLen, blOf, dIxK, dIx, hz, dAbs, hy, dInt, hk1, hk2, m1, m2, w3, w4, big, lim, sizeLine, hb, outs]
end G

set_option Elab.async false
set_option maxRecDepth 100000
set_option linter.unusedVariables false
set_option linter.unusedSimpArgs false
namespace G
open PySem L2 AN
theorem scal_refl {d : D} (h : scalar d = true) : deqv d d = true := by
  cases d with
  | non => rfl
  | bl b => show (b == b) = true; simp
  | int i => show (i == i) = true; simp
  | str s => show (s == s) = true; simp
  | _ => cases h
theorem refls {n : Nat} (ih : ∀ d, dle n d = true → deqv d d = true) : ∀ xs : List D, xs.all (dle n) = true → PyData.eqvAll (toPs xs) (toPs xs) = true
  | [], _ => rfl
  | x :: xs, h => by
    rw [List.all_cons, Bool.and_eq_true] at h
    show (PyData.eqv (toP x) (toP x) && PyData.eqvAll (toPs xs) (toPs xs)) = true
    have := ih x h.1
    unfold deqv at this
    rw [this, refls ih xs h.2]
    rfl
theorem deqv_refl : ∀ (n : Nat) (d : D), dle n d = true → deqv d d = true
  | 0, d, h => scal_refl h
  | n + 1, d, h => by
    cases d with
    | lst xs => exact refls (deqv_refl n) xs h
    | tup xs => exact refls (deqv_refl n) xs h
    | non => exact scal_refl rfl
    | bl _ => exact scal_refl rfl
    | int _ => exact scal_refl rfl
    | str _ => exact scal_refl rfl
    | dic _ => cases h
    | obj _ _ => cases h
theorem ne_refl {d : D} (h : dle 8 d = true) : dNe d d = some (.bl false) := by
  unfold dNe
  rw [if_pos (by rw [h]; rfl), deqv_refl 8 d h]
  rfl
end G

set_option Elab.async false
set_option maxRecDepth 100000
set_option linter.unusedVariables false
set_option linter.unusedSimpArgs false
namespace G
open PySem L2 AN
theorem putKD_new {kvs : List (Key × D)} {k : Key} {d : D} (h : ∀ kv ∈ kvs, kv.1 ≠ k) : putKD kvs k d = kvs ++ [(k, d)] := by
  unfold putKD
  rw [if_neg]
  intro q
  rw [List.any_eq_true] at q
  obtain ⟨kv, h1, h2⟩ := q
  exact h kv h1 (of_decide_eq_true h2)
/-! the fields of a world -/
theorem dclM {α : Type} {vs : List Nat} {g : D → AN.Env → Option AN.Env} {mk mv : M Opd} {E : AN.Env} {h val : α → D} {key : α → Key} (mE : α → AN.Env) : ∀ {xs : List α} {acc : List (Key × D)}, (∀ a ∈ xs, g (h a) E = some (mE a) ∧ M.bind mk (fun x => ap1 keyOf x) (mE a) = .ok (key a) (mE a) ∧ M.bind mv frz1 (mE a) = .ok (val a) (mE a) ∧ wipeE vs 0 (mE a) = E) →
    (∀ a ∈ xs, ∀ kv ∈ acc, kv.1 ≠ key a) → (xs.map key).Nodup → dcl vs g (M.pure true) mk mv (xs.map h) acc E = .ok (acc ++ xs.map fun a => (key a, val a)) E
  | [], acc, _, _, _ => by simp [dcl]
  | a :: xs, acc, s, hn, hd => by
    obtain ⟨s1, s2, s3, s4⟩ := s a (by simp)
    rw [List.map_cons, List.nodup_cons] at hd
    have ih := dclM (vs := vs) (g := g) (mk := mk) (mv := mv) (E := E) (h := h) (val := val) (key := key) mE (xs := xs) (acc := acc ++ [(key a, val a)]) (fun b hb => s b (by simp [hb])) (fun b hb kv hkv => by
      rcases List.mem_append.mp hkv with q | q
      · exact hn b (by simp [hb]) kv q
      · rw [List.mem_singleton.mp q]
        intro e
        have e' : key a = key b := e
        rw [e'] at hd
        exact hd.1 (List.mem_map_of_mem hb)) hd.2
    simp only [List.map_cons, dcl, s1, pure_r, s2, s3, s4, putKD_new (hn a (by simp)), ih]
    simp
theorem mDC_r {vs : List Nat} {it : M (List D)} {g : D → AN.Env → Option AN.Env} {mt : M Bool} {mk mv : M Opd} {e : AN.Env} : mDC vs it g mt mk mv e = R.th (it e) fun ds env => if ds.length ≤ sizeLine then (match dcl vs g mt mk mv ds [] (wipeE vs 0 env) with
  | .ok acc e2 => .ok (.dic acc) (restE vs 0 env e2)
  | _ => .bad) else .bad := rfl
end G

set_option Elab.async false
set_option maxRecDepth 100000
set_option linter.unusedVariables false
set_option linter.unusedSimpArgs false
namespace G
open PySem L2 AN
/-! what a value of a part may be -/
abbrev keys7 : List Str := ["order", "given", "alls", "bodies", "spreads", "near", "marks"]
def tabOf (k : Str) : List D := match tab_PARTS.lookup k with
  | some (.tup ds) => ds
  | _ => []
def vOk (k : Str) (v : D) : Bool := (fStr v || fBool v) && (tabOf k).any fun y => deqv y v
theorem keysE : tab_PARTS.map (·.1) = keys7 := rfl
theorem tabK {k : Str} (h : k ∈ keys7) : tab_PARTS.lookup k = some (.tup (tabOf k)) ∧ (tabOf k).all scalar = true := by
  simp only [keys7, List.mem_cons, List.not_mem_nil, or_false] at h
  rcases h with rfl | rfl | rfl | rfl | rfl | rfl | rfl <;> exact ⟨rfl, rfl⟩
def partB : D → Bool
  | .str z => (tab_PARTS.lookup z).isSome
  | _ => false
theorem part_ok {d : D} (h : AN.isObj d = false) : F_is_book_part [.fz d] = .ok (.fz (.bl (partB d))) [.fz d] := by
  cases d with
  | str s =>
    exact runF_ok (n := 0) (m := m_is_book_part) (args := [.fz (.str s)]) (ret_ok (andv_t (d_ok (b1_ok rfl rfl)) rfl (d_ok (b1_ok rfl rfl))))
  | obj _ _ => cases h
  | _ => exact runF_ok (n := 0) (m := m_is_book_part) (args := [.fz _]) (ret_ok (andv_f (d_ok (b1_ok rfl rfl)) rfl))
theorem inTup {v : D} {ts : List D} {neg : Bool} (hv : scalar v = true) (ht : ts.all scalar = true) : dInK neg v (.tup ts) = some (.bl (if neg then !(ts.any fun y => deqv y v) else ts.any fun y => deqv y v)) := by
  have : inD v (.tup ts) = some (ts.any fun y => deqv y v) := by
    have c : (scalar v && ts.all scalar) = true := by rw [hv, ht]; rfl
    cases v with
    | lst _ => cases hv
    | tup _ => cases hv
    | dic _ => cases hv
    | obj _ _ => cases hv
    | _ => exact if_pos c
  show (inD v (.tup ts)).map _ = _
  rw [this]; rfl
theorem val_ok {k : Str} {v : D} (hk : k ∈ keys7) (h : AN.isObj v = false) : F_is_value [.fz (.str k), .fz v] = .ok (.fz (.bl (vOk k v))) [.fz (.str k), .fz v] := by
  obtain ⟨h1, h2⟩ := tabK hk
  have ta : dTabAt tab_PARTS (.str k) = some (.tup (tabOf k)) := h1
  have go : ∀ v : D, scalar v = true → (isI (fun d => fStr d || fBool d) v = some (.bl true)) → (fStr v || fBool v) = true → F_is_value [.fz (.str k), .fz v] = .ok (.fz (.bl (vOk k v))) [.fz (.str k), .fz v] := fun v hv hi hf => by
    have i := inTup (neg := false) hv h2
    have e : vOk k v = (tabOf k).any fun y => deqv y v := by rw [vOk, hf, Bool.true_and]
    rw [e]
    exact runF_ok (n := 0) (m := m_is_value) (args := [.fz (.str k), .fz v]) (ret_ok (andv_t (d_ok (b1_ok rfl hi)) rfl (d_ok (b2_ok rfl (d_ok (b1_ok rfl ta)) i))))
  cases v with
  | str s => exact go _ rfl rfl rfl
  | bl b => exact go _ rfl rfl rfl
  | obj _ _ => cases h
  | _ => exact runF_ok (n := 0) (m := m_is_value) (args := [.fz (.str k), .fz _]) (ret_ok (andv_f (d_ok (b1_ok rfl rfl)) rfl))
abbrev kvB (p : Str × D) : Key × D := (.inr p.1, p.2)
abbrev tupP (p : Str × D) : D := .tup [.str p.1, p.2]
def badK (ps : List (Str × D)) : Option Str := (ps.find? fun p => !vOk p.1 p.2).map (·.1)
/-! the walk of Book.__init__ -/
abbrev bE (o v1 v2 v3 v4 v5 v6 v7 s8 s9 s10 s11 : AN.Slot) : AN.Env := [o, v1, v2, v3, v4, v5, v6, v7, s8, s9, s10, s11]
abbrev gB : D → AN.Env → Option AN.Env := gT 2 (gs (gN 9) (gs (gN 10) gs0))
abbrev bB : M Fl := (mW [false, false, false, false, false, false, false, false, false, true, true] (mIfS (mNot (mT (mCall 2 F_is_value (mA (mV 9) (mA (mV 10) mA0))))) (mRaise "BadPart" (mV 9)) mNx))
theorem loopB {o v1 v2 v3 v4 v5 v6 v7 s8 : AN.Slot} : ∀ {ps : List (Str × D)}, (∀ p ∈ ps, p.1 ∈ keys7 ∧ AN.isObj p.2 = false) → match badK ps with
    | none => loop gB bB (ps.map tupP) (bE o v1 v2 v3 v4 v5 v6 v7 s8 .no .no .no) = .ok .nx (bE o v1 v2 v3 v4 v5 v6 v7 s8 .no .no .no)
    | some k => ∃ e, loop gB bB (ps.map tupP) (bE o v1 v2 v3 v4 v5 v6 v7 s8 .no .no .no) = .exc "BadPart" (.str k) e
  | [], _ => rfl
  | p :: ps, h => by
    obtain ⟨h1, h2⟩ := h p (by simp)
    have ih := loopB (o := o) (v1 := v1) (v2 := v2) (v3 := v3) (v4 := v4) (v5 := v5) (v6 := v6) (v7 := v7) (s8 := s8) (ps := ps) fun q hq => h q (by simp [hq])
    have c := fun e => callN2 (e := e) (val_ok h1 h2)
    have T : (mNot (mT (mCall 2 F_is_value (mA (mV 9) (mA (mV 10) mA0))))) (bE o v1 v2 v3 v4 v5 v6 v7 s8 (.fz (.str p.1)) (.fz p.2) .no) = .ok (!vOk p.1 p.2) (bE o v1 v2 v3 v4 v5 v6 v7 s8 (.fz (.str p.1)) (.fz p.2) .no) :=
      not_ok (t_ok (call_ok (a_ok rfl (a_ok rfl rfl)) (c _)) rfl)
    have g : gB (tupP p) (bE o v1 v2 v3 v4 v5 v6 v7 s8 .no .no .no) = some (bE o v1 v2 v3 v4 v5 v6 v7 s8 (.fz (.str p.1)) (.fz p.2) .no) := rfl
    cases q : vOk p.1 p.2 with
    | true =>
      rw [q] at T
      have e : badK (p :: ps) = badK ps := by simp only [badK, List.find?_cons, q, Bool.not_true]
      have st : loop gB bB ((p :: ps).map tupP) (bE o v1 v2 v3 v4 v5 v6 v7 s8 .no .no .no) = loop gB bB (ps.map tupP) (bE o v1 v2 v3 v4 v5 v6 v7 s8 .no .no .no) := by
        rw [List.map_cons]
        exact loop_go g (w_nx (ifs_skip T) rfl)
      rw [e, st]
      exact ih
    | false =>
      rw [q] at T
      have e : badK (p :: ps) = some p.1 := by simp only [badK, List.find?_cons, q, Bool.not_false, Option.map_some]
      rw [e]
      rw [List.map_cons]
      exact ⟨_, loop_x g (w_exc (ifs_t T (raise_ok rfl)))⟩
end G

set_option Elab.async false
set_option maxRecDepth 100000
set_option linter.unusedVariables false
set_option linter.unusedSimpArgs false
namespace G
open PySem L2 AN
/-! an order's rows -/
def ordS : List Str := ["own=named=all", "own=named all", "own=all named", "own named=all", "own named all", "own all named", "named=all own", "named own=all", "named own all", "all own=named", "all own named", "named all own", "all named own"]
theorem tabO : tabOf "order" = ordS.map .str := rfl
def splitB (o : Str) : Bool := match oSplit (.str o) (.str " ") with
  | some (.lst xs) => decide (xs.length ≤ 1000) && xs.all fun x => (oSplit x (.str "=")).isSome
  | _ => false
theorem split_all : ordS.all splitB = true := by decide +kernel
theorem deqv_str {a : Str} {v : D} (h : deqv (.str a) v = true) (hv : (fStr v || fBool v) = true) : v = .str a := by
  cases v with
  | str b =>
    have : (a == b) = true := h
    rw [beq_iff_eq.mp this]
  | bl _ => cases h
  | _ => cases hv
theorem vOk_ord {v : D} (h : vOk "order" v = true) : ∃ (o : Str) (xs : List D), v = .str o ∧ oSplit (.str o) (.str " ") = some (.lst xs) ∧ xs.length ≤ 1000 ∧ ∀ x ∈ xs, ∃ r, oSplit x (.str "=") = some r := by
  unfold vOk at h
  rw [Bool.and_eq_true, tabO, List.any_eq_true] at h
  obtain ⟨h1, y, hy, h2⟩ := h
  obtain ⟨o, ho, rfl⟩ := List.mem_map.mp hy
  obtain rfl := deqv_str h2 h1
  have s := List.all_eq_true.mp split_all o ho
  unfold splitB at s
  cases q : oSplit (.str o) (.str " ") with
  | none => rw [q] at s; cases s
  | some r =>
    rw [q] at s
    cases r with
    | lst xs =>
      simp only [Bool.and_eq_true, decide_eq_true_eq, List.all_eq_true] at s
      exact ⟨o, xs, rfl, q, s.1, fun x hx => Option.isSome_iff_exists.mp (s.2 x hx)⟩
    | _ => cases s
/-! a book made -/
abbrev bF (vs : List D) (rw : D) : List (Str × D) := [("parts", .dic ((keys7.zip vs).map kvB)), ("rows", rw)]
abbrev bkO (vs : List D) (rw : D) : D := .obj "Book" (bF vs rw)
theorem keys_nd : (keys7.map (Sum.inr : Str → Key)).Nodup := by decide +kernel
theorem book_init {v1 v2 v3 v4 v5 v6 v7 : D} (ho : ∀ v ∈ [v1, v2, v3, v4, v5, v6, v7], AN.isObj v = false) : match badK (keys7.zip [v1, v2, v3, v4, v5, v6, v7]) with
    | none => ∃ rw, F_Book_init [.ow true (.obj "Book" []), .fz v1, .fz v2, .fz v3, .fz v4, .fz v5, .fz v6, .fz v7] = .ok (.fz .non) [.ow true (.obj "Book" (bF [v1, v2, v3, v4, v5, v6, v7] rw)), .fz v1, .fz v2, .fz v3, .fz v4, .fz v5, .fz v6, .fz v7]
    | some k => ∃ as, F_Book_init [.ow true (.obj "Book" []), .fz v1, .fz v2, .fz v3, .fz v4, .fz v5, .fz v6, .fz v7] = .exc "BadPart" (.str k) as := by
  have LB := loopB (o := .ow true (.obj "Book" [])) (v1 := .fz v1) (v2 := .fz v2) (v3 := .fz v3) (v4 := .fz v4) (v5 := .fz v5) (v6 := .fz v6) (v7 := .fz v7) (s8 := .fz (.lst [v1, v2, v3, v4, v5, v6, v7])) (ps := keys7.zip [v1, v2, v3, v4, v5, v6, v7]) fun p hp => by
    have := List.of_mem_zip (a := p.1) (b := p.2) hp
    exact ⟨this.1, ho _ this.2⟩
  have Z : ∀ (o s9 s10 s11 : AN.Slot), mZipT (tab_PARTS.map (·.1)) (mV 8) (bE o (.fz v1) (.fz v2) (.fz v3) (.fz v4) (.fz v5) (.fz v6) (.fz v7) (.fz (.lst [v1, v2, v3, v4, v5, v6, v7])) s9 s10 s11) = .ok ((keys7.zip [v1, v2, v3, v4, v5, v6, v7]).map tupP) (bE o (.fz v1) (.fz v2) (.fz v3) (.fz v4) (.fz v5) (.fz v6) (.fz v7) (.fz (.lst [v1, v2, v3, v4, v5, v6, v7])) s9 s10 s11) := fun o s9 s10 s11 => zipT_ok (ma := mV 8) (d := .lst [v1, v2, v3, v4, v5, v6, v7]) (ys := [v1, v2, v3, v4, v5, v6, v7]) rfl rfl
  have S1 : (mSet 8 (mFz (mLst (mA (mV 1) (mA (mV 2) (mA (mV 3) (mA (mV 4) (mA (mV 5) (mA (mV 6) (mA (mV 7) mA0)))))))))) (bE (.ow true (.obj "Book" [])) (.fz v1) (.fz v2) (.fz v3) (.fz v4) (.fz v5) (.fz v6) (.fz v7) .no .no .no .no) = .ok .nx (bE (.ow true (.obj "Book" [])) (.fz v1) (.fz v2) (.fz v3) (.fz v4) (.fz v5) (.fz v6) (.fz v7) (.fz (.lst [v1, v2, v3, v4, v5, v6, v7])) .no .no .no) :=
    set_ok (fz_ok (o := .lst _) (lst_ok (a_ok rfl (a_ok rfl (a_ok rfl (a_ok rfl (a_ok rfl (a_ok rfl (a_ok rfl rfl))))))) rfl (zL (by simp)))) rfl
  cases q : badK (keys7.zip [v1, v2, v3, v4, v5, v6, v7]) with
  | some k =>
    rw [q] at LB
    obtain ⟨e, LB⟩ := LB
    exact ⟨_, runF_x (k := 4) (m := m_Book_init) (args := [.ow true (.obj "Book" []), .fz v1, .fz v2, .fz v3, .fz v4, .fz v5, .fz v6, .fz v7]) (seq_nx S1 (seq_exc (for_ok (Z _ _ _ _) LB)))⟩
  | none =>
    rw [q] at LB
    have V1 : vOk "order" v1 = true := by
      have := Option.map_eq_none_iff.mp q
      rw [List.find?_eq_none] at this
      have := this ("order", v1) (by simp [keys7])
      simpa using this
    obtain ⟨o, xs, rfl, sp, xl, hx⟩ := vOk_ord V1
    have DC := dclM (vs := [9, 10]) (g := gB) (mk := mV 9) (mv := mV 10) (E := bE (.ow true (.obj "Book" [])) (.fz (.str o)) (.fz v2) (.fz v3) (.fz v4) (.fz v5) (.fz v6) (.fz v7) (.fz (.lst [.str o, v2, v3, v4, v5, v6, v7])) .no .no .no) (h := tupP) (key := fun p => .inr p.1) (val := (·.2)) (xs := keys7.zip [.str o, v2, v3, v4, v5, v6, v7]) (acc := [])
      (fun p => bE (.ow true (.obj "Book" [])) (.fz (.str o)) (.fz v2) (.fz v3) (.fz v4) (.fz v5) (.fz v6) (.fz v7) (.fz (.lst [.str o, v2, v3, v4, v5, v6, v7])) (.fz (.str p.1)) (.fz p.2) .no) (fun p hp => ⟨rfl, rfl, rfl, rfl⟩) (by simp) keys_nd
    rw [List.nil_append] at DC
    have S3 : (mFz (mDC [9, 10] (mZipT (tab_PARTS.map (·.1)) (mV 8)) (gT 2 (gs (gN 9) (gs (gN 10) gs0))) (M.pure true) (mV 9) (mV 10))) (bE (.ow true (.obj "Book" [])) (.fz (.str o)) (.fz v2) (.fz v3) (.fz v4) (.fz v5) (.fz v6) (.fz v7) (.fz (.lst [.str o, v2, v3, v4, v5, v6, v7])) .no .no .no) = .ok (.d (.dic ((keys7.zip [.str o, v2, v3, v4, v5, v6, v7]).map kvB))) (bE (.ow true (.obj "Book" [])) (.fz (.str o)) (.fz v2) (.fz v3) (.fz v4) (.fz v5) (.fz v6) (.fz v7) (.fz (.lst [.str o, v2, v3, v4, v5, v6, v7])) .no .no .no) := by
      refine fz_ok (o := .dic _) ?_
      rw [mDC_r, Z, th_ok, if_pos (zL (by simp))]
      rw [show wipeE [9, 10] 0 (bE (.ow true (.obj "Book" [])) (.fz (.str o)) (.fz v2) (.fz v3) (.fz v4) (.fz v5) (.fz v6) (.fz v7) (.fz (.lst [.str o, v2, v3, v4, v5, v6, v7])) .no .no .no) = bE (.ow true (.obj "Book" [])) (.fz (.str o)) (.fz v2) (.fz v3) (.fz v4) (.fz v5) (.fz v6) (.fz v7) (.fz (.lst [.str o, v2, v3, v4, v5, v6, v7])) .no .no .no from rfl, DC]
      rfl
    generalize hP : D.dic ((keys7.zip [.str o, v2, v3, v4, v5, v6, v7]).map kvB) = P at S3
    generalize hL : D.lst [.str o, v2, v3, v4, v5, v6, v7] = L at *
    have LC := lc_map (vs := [11]) (g := gN 11) (me := (mFz (mM1O oSplit (mV 11) (mC (.str "="))))) (e := bE (.ow true (.obj "Book" [("parts", P)])) (.fz (.str o)) (.fz v2) (.fz v3) (.fz v4) (.fz v5) (.fz v6) (.fz v7) (.fz L) .no .no .no) (ds := xs) (acc := []) (f := fun x => match oSplit x (.str "=") with
      | some r => r.toD
      | none => .non) (fun x hx' => by
        obtain ⟨r, hr⟩ := hx x hx'
        refine ⟨bE (.ow true (.obj "Book" [("parts", P)])) (.fz (.str o)) (.fz v2) (.fz v3) (.fz v4) (.fz v5) (.fz v6) (.fz v7) (.fz L) .no .no (.fz x), bE (.ow true (.obj "Book" [("parts", P)])) (.fz (.str o)) (.fz v2) (.fz v3) (.fz v4) (.fz v5) (.fz v6) (.fz v7) (.fz L) .no .no (.fz x), rfl, ?_, rfl⟩
        simp only [hr]
        exact bindf_ok (fz_ok (m1o_ok rfl rfl hr)))
    rw [List.nil_append] at LC
    generalize hR : (xs.map fun x => match oSplit x (.str "=") with
      | some r => r.toD
      | none => .non) = rs at LC
    refine ⟨.lst rs, ?_⟩
    have S4 : (mFz (mLC [11] (mIt (mFz (mM1O oSplit (mV 1) (mC (.str " "))))) (gN 11) (M.pure true) (mFz (mM1O oSplit (mV 11) (mC (.str "=")))))) (bE (.ow true (.obj "Book" [("parts", P)])) (.fz (.str o)) (.fz v2) (.fz v3) (.fz v4) (.fz v5) (.fz v6) (.fz v7) (.fz L) .no .no .no) = .ok (.d (.lst rs)) (bE (.ow true (.obj "Book" [("parts", P)])) (.fz (.str o)) (.fz v2) (.fz v3) (.fz v4) (.fz v5) (.fz v6) (.fz v7) (.fz L) .no .no .no) :=
      fz_ok (o := .lst _) (comp_ok (it_ok (fz_ok (m1o_ok rfl rfl sp)) rfl) (zL xl) LC rfl)
    have T3 : (mSetF ok_fld_parts 0 "parts" (mFz (mDC [9, 10] (mZipT (tab_PARTS.map (·.1)) (mV 8)) (gT 2 (gs (gN 9) (gs (gN 10) gs0))) (M.pure true) (mV 9) (mV 10)))) (bE (.ow true (.obj "Book" [])) (.fz (.str o)) (.fz v2) (.fz v3) (.fz v4) (.fz v5) (.fz v6) (.fz v7) (.fz L) .no .no .no) = .ok .nx (bE (.ow true (.obj "Book" [("parts", P)])) (.fz (.str o)) (.fz v2) (.fz v3) (.fz v4) (.fz v5) (.fz v6) (.fz v7) (.fz L) .no .no .no) := by
      rw [mSetF_r, S3, th_ok, frz1_d, th_ok]; rfl
    have T4 : (mSetF ok_fld_rows 0 "rows" (mFz (mLC [11] (mIt (mFz (mM1O oSplit (mV 1) (mC (.str " "))))) (gN 11) (M.pure true) (mFz (mM1O oSplit (mV 11) (mC (.str "="))))))) (bE (.ow true (.obj "Book" [("parts", P)])) (.fz (.str o)) (.fz v2) (.fz v3) (.fz v4) (.fz v5) (.fz v6) (.fz v7) (.fz L) .no .no .no) = .ok .nx (bE (.ow true (.obj "Book" [("parts", P), ("rows", .lst rs)])) (.fz (.str o)) (.fz v2) (.fz v3) (.fz v4) (.fz v5) (.fz v6) (.fz v7) (.fz L) .no .no .no) := by
      rw [mSetF_r, S4, th_ok, frz1_d, th_ok]; rfl
    have := runF_nx (n := 4) (m := m_Book_init) (args := [.ow true (.obj "Book" []), .fz (.str o), .fz v2, .fz v3, .fz v4, .fz v5, .fz v6, .fz v7]) (seq_nx S1 (seq_nx (for_ok (Z _ _ _ _) LB) (seq_nx T3 T4)))
    rw [bF, hP]
    exact this
end G

set_option Elab.async false
set_option maxRecDepth 100000
set_option linter.unusedVariables false
set_option linter.unusedSimpArgs false
namespace G
open PySem L2 AN
/-! books as data -/
structure Gv (vs : List D) : Prop where
  l : vs.length = 7
  b : badK (keys7.zip vs) = none
  o : ∀ v ∈ vs, AN.isObj v = false
theorem len7 {vs : List D} (h : vs.length = 7) : ∃ v1 v2 v3 v4 v5 v6 v7, vs = [v1, v2, v3, v4, v5, v6, v7] := by
  match vs, h with
  | [v1, v2, v3, v4, v5, v6, v7], _ => exact ⟨_, _, _, _, _, _, _, rfl⟩
theorem make_b {vs : List D} (h : Gv vs) : ∃ rw, ∀ e, makeP "Book" 7 F_Book_init (vs.map .d) e = .ok (.obj "Book" (bF vs rw)) e := by
  obtain ⟨hl, hb, ho⟩ := h
  obtain ⟨v1, v2, v3, v4, v5, v6, v7, rfl⟩ := len7 hl
  have := book_init ho
  rw [hb] at this
  obtain ⟨rw, this⟩ := this
  exact ⟨rw, fun e => by simp [makeP, this]⟩
theorem make_x {vs : List D} {k : Str} (hl : vs.length = 7) (hb : badK (keys7.zip vs) = some k) (ho : ∀ v ∈ vs, AN.isObj v = false) (e : AN.Env) : makeP "Book" 7 F_Book_init (vs.map .d) e = .exc "BadPart" (.str k) e := by
  obtain ⟨v1, v2, v3, v4, v5, v6, v7, rfl⟩ := len7 hl
  have := book_init ho
  rw [hb] at this
  obtain ⟨as, this⟩ := this
  simp [makeP, this]
def setV (vs : List D) (k : Str) (v : D) : List D := (keys7.zip vs).map fun p => if p.1 = k then v else p.2
theorem zip_set {f : Str × D → D} : ∀ {ks : List Str} {vs : List D}, ks.zip ((ks.zip vs).map f) = (ks.zip vs).map fun p => (p.1, f p)
  | [], _ => rfl
  | _ :: _, [] => rfl
  | k :: ks, v :: vs => by
    simp only [List.zip_cons_cons, List.map_cons]
    rw [zip_set]
theorem badK_none {ps : List (Str × D)} : badK ps = none ↔ ∀ p ∈ ps, vOk p.1 p.2 = true := by
  unfold badK
  rw [Option.map_eq_none_iff, List.find?_eq_none]
  simp
theorem setV_gv {vs : List D} {k : Str} {v : D} (h : Gv vs) (hv : vOk k v = true) (ho : AN.isObj v = false) : Gv (setV vs k v) := by
  refine ⟨?_, ?_, ?_⟩
  · unfold setV
    rw [List.length_map, List.length_zip, h.l]; rfl
  · rw [badK_none]
    have q := badK_none.mp h.b
    unfold setV
    rw [zip_set]
    intro p hp
    obtain ⟨r, hr, rfl⟩ := List.mem_map.mp hp
    dsimp only
    split
    · rename_i e; rw [e]; exact hv
    · exact q r hr
  · intro w hw
    obtain ⟨r, hr, rfl⟩ := List.mem_map.mp hw
    show AN.isObj (if r.1 = k then v else r.2) = false
    split
    · exact ho
    · exact h.o _ (List.of_mem_zip (a := r.1) (b := r.2) hr).2
theorem mergeD_nd : ∀ {more acc : List (Key × D)}, ((acc ++ more).map (·.1)).Nodup → mergeD acc more = acc ++ more
  | [], acc, _ => by simp [mergeD]
  | (k, d) :: more, acc, h => by
    have n : ∀ kv ∈ acc, kv.1 ≠ k := fun kv hkv e => by
      rw [List.map_append, List.nodup_append] at h
      exact h.2.2 kv.1 (List.mem_map_of_mem hkv) k (by simp) e
    show mergeD (putKD acc k d) more = _
    rw [putKD_new n, mergeD_nd (by simpa using h)]
    simp
theorem keysZ {vs : List D} (h : vs.length = 7) : ((keys7.zip vs).map kvB).map (·.1) = keys7.map (Sum.inr : Str → Key) := by
  obtain ⟨v1, v2, v3, v4, v5, v6, v7, rfl⟩ := len7 h
  rfl
theorem putS {vs : List D} {k : Str} {v : D} (h : vs.length = 7) (hk : k ∈ keys7) : putKD ((keys7.zip vs).map kvB) (.inr k) v = (keys7.zip (setV vs k v)).map kvB := by
  have a : (((keys7.zip vs).map kvB).any fun kv => decide (kv.1 = (Sum.inr k : Key))) = true := by
    have m : (Sum.inr k : Key) ∈ ((keys7.zip vs).map kvB).map (·.1) := by rw [keysZ h]; exact List.mem_map_of_mem hk
    obtain ⟨q, hq, e⟩ := List.mem_map.mp m
    rw [List.any_eq_true]
    exact ⟨q, hq, decide_eq_true e⟩
  unfold putKD
  rw [if_pos a]
  unfold setV
  rw [zip_set, List.map_map, List.map_map]
  refine List.map_congr_left fun p hp => ?_
  show (if (Sum.inr p.1 : Key) = Sum.inr k then (Sum.inr p.1, v) else kvB p) = kvB (p.1, if p.1 = k then v else p.2)
  by_cases q : p.1 = k
  · rw [if_pos (by rw [q]), if_pos q]
  · rw [if_neg (fun e => q (Sum.inr.inj e)), if_neg q]
theorem mergeS {vs : List D} {v : D} {k : Str} (h : vs.length = 7) (hk : k ∈ keys7) : mergeD (mergeD [] ((keys7.zip vs).map kvB)) [(.inr k, v)] = (keys7.zip (setV vs k v)).map kvB := by
  rw [mergeD_nd (acc := []) (by rw [List.nil_append, keysZ h]; exact keys_nd), List.nil_append]
  exact putS h hk
/-! changed -/
abbrev chE (b k v n : AN.Slot) : AN.Env := [b, k, v, n]
theorem part_key {k : Str} (h : k ∈ keys7) : partB (.str k) = true := by
  show (tab_PARTS.lookup k).isSome = true
  rw [(tabK h).1]; rfl
theorem changed_ok {vs : List D} {rw : D} {k : Str} {v : D} (h : Gv vs) (hk : k ∈ keys7) (hv : vOk k v = true) (ho : AN.isObj v = false) : ∃ rw', F_Book_changed [.fz (bkO vs rw), .fz (.str k), .fz v] = .ok (.ow (.obj "Book" (bF (setV vs k v) rw'))) [.fz (bkO vs rw), .fz (.str k), .fz v] := by
  have h' := setV_gv (k := k) h hv ho
  obtain ⟨rw', mk⟩ := make_b h'
  have c1 := fun e => callN1 (e := e) (part_ok (d := .str k) rfl)
  rw [part_key hk] at c1
  have c2 := fun e => callN2 (e := e) (val_ok hk ho)
  rw [hv] at c2
  refine ⟨rw', ?_⟩
  have fp : dFld ok_fld_parts "parts" (bkO vs rw) = some (.dic ((keys7.zip vs).map kvB)) := rfl
  have kz : ((keys7.zip vs).map kvB).length < 1000 := by rw [List.length_map, List.length_zip, h.l]; decide
  have ms : mergeD (mergeD [] ((keys7.zip vs).map kvB)) [(.inr k, v)] = (keys7.zip (setV vs k v)).map kvB := mergeS h.l hk
  have ky : ((keys7.zip (setV vs k v)).map kvB).map (·.1) = keys7.map .inr ∧ pkD [.inl 0, .inl 1, .inl 2, .inl 3, .inl 4, .inl 5, .inl 6] [] ((((keys7.zip (setV vs k v)).map kvB).map (·.2)).map .d) = (setV vs k v).map .d := by
    generalize setV vs k v = ws at *
    obtain ⟨w1, w2, w3, w4, w5, w6, w7, rfl⟩ := len7 h'.l
    exact ⟨rfl, rfl⟩
  generalize bkO vs rw = b at *
  generalize (keys7.zip (setV vs k v)).map kvB = ps at *
  have S2 : (mSet 3 (mFz (mDispM (mD (mB1 (dFld ok_fld_parts "parts") (mV 0))) (mV 1) (mV 2)))) (chE (.fz b) (.fz (.str k)) (.fz v) .no) = .ok .nx (chE (.fz b) (.fz (.str k)) (.fz v) (.fz (.dic ps))) := by
    rw [← ms]
    exact set_ok (fz_ok (o := .dic _) (dispM_ok (x := .d _) (y := .d _) (d_ok (b1_ok rfl fp)) rfl rfl rfl rfl rfl kz)) rfl
  exact runF_ow (n := 1) (m := m_Book_changed) (args := [.fz b, .fz (.str k), .fz v]) (seq_nx (ifs_skip (or_f (not_ok (t_ok (call_ok (a_ok rfl rfl) (c1 _)) rfl)) (not_ok (t_ok (call_ok (a_ok rfl (a_ok rfl rfl)) (c2 _)) rfl)))) (seq_nx S2 (retO_ok (makeDD_ok (x := .d _) rfl rfl ky.1 (by rw [ky.2]; exact mk _)))))
/-! what is refused -/
theorem changed_x1 {b p v : D} (hp : partB p = false) (ho : AN.isObj p = false) : ∃ as, F_Book_changed [.fz b, .fz p, .fz v] = .exc "BadPart" p as := by
  have c1 := fun e => callN1 (e := e) (part_ok ho)
  rw [hp] at c1
  exact ⟨_, runF_x (k := 1) (m := m_Book_changed) (args := [.fz b, .fz p, .fz v]) (seq_exc (ifs_t (or_t (not_ok (t_ok (call_ok (a_ok rfl rfl) (c1 _)) rfl))) (raise_ok rfl)))⟩
theorem changed_x2 {b v : D} {k : Str} (hk : k ∈ keys7) (hv : vOk k v = false) (ho : AN.isObj v = false) : ∃ as, F_Book_changed [.fz b, .fz (.str k), .fz v] = .exc "BadPart" (.str k) as := by
  have c1 := fun e => callN1 (e := e) (part_ok (d := .str k) rfl)
  rw [part_key hk] at c1
  have c2 := fun e => callN2 (e := e) (val_ok hk ho)
  rw [hv] at c2
  exact ⟨_, runF_x (k := 1) (m := m_Book_changed) (args := [.fz b, .fz (.str k), .fz v]) (seq_exc (ifs_t (or_f (not_ok (t_ok (call_ok (a_ok rfl rfl) (c1 _)) rfl)) (not_ok (t_ok (call_ok (a_ok rfl (a_ok rfl rfl)) (c2 _)) rfl))) (raise_ok rfl)))⟩
theorem getitem_x {b p : D} (hp : partB p = false) (ho : AN.isObj p = false) : ∃ as, F_Book_getitem [.fz b, .fz p] = .exc "BadPart" p as := by
  have c1 := fun e => callN1 (e := e) (part_ok ho)
  rw [hp] at c1
  exact ⟨_, runF_x (k := 0) (m := m_Book_getitem) (args := [.fz b, .fz p]) (seq_exc (ifs_t (not_ok (t_ok (call_ok (a_ok rfl rfl) (c1 _)) rfl)) (raise_ok rfl)))⟩
def rankB : D → Bool
  | .str s => [D.str "own", .str "named", .str "all"].any fun y => deqv y (.str s)
  | _ => false
theorem rank_x {b p : D} (hp : rankB p = false) (ho : AN.isObj p = false) : ∃ as, F_Book_rank [.fz b, .fz p] = .exc "BadPart" p as := by
  have T : (mOr (mNot (mT (mD (mB1 (isI fStr) (mV 1))))) (mB2 (g2b (dInK true)) (mV 1) (mC (.tup [.str "own", .str "named", .str "all"])))) [.fz b, .fz p, .no] = .ok true [.fz b, .fz p, .no] := by
    cases p with
    | str s =>
      have i := inTup (v := .str s) (ts := [.str "own", .str "named", .str "all"]) (neg := true) rfl rfl
      rw [show ([D.str "own", .str "named", .str "all"].any fun y => deqv y (.str s)) = false from hp] at i
      exact or_f (not_t (t_ok (d_ok (b1_ok rfl rfl)) rfl)) (b2_ok rfl rfl (g2b_ok i))
    | obj _ _ => cases ho
    | _ => exact or_t (not_f (t_ok (d_ok (b1_ok rfl rfl)) rfl))
  exact ⟨_, runF_x (k := 1) (m := m_Book_rank) (args := [.fz b, .fz p]) (seq_exc (ifs_t T (raise_ok rfl)))⟩
end G

set_option Elab.async false
set_option maxRecDepth 100000
set_option linter.unusedVariables false
set_option linter.unusedSimpArgs false
namespace G
open PySem L2 AN
/-! rules drawn -/
theorem dAddL {xs ys : List D} (h : xs.length + ys.length ≤ sizeLine) : dAdd (.lst xs) (.lst ys) = some (.lst (xs ++ ys)) := if_pos h
theorem putKE {i : Nat} {ix m : M Opd} {e e1 e2 e3 : AN.Env} {d ka : D} {k : Key} {pn : Bool} {kvs kvs' : List (Key × D)} (h : m e = .ok (.d d) e1) (h0 : ∃ pn kvs, e1[i]? = some (.ow pn (.dic kvs))) (hi : ix e1 = .ok (.d ka) e2) (hk : keyOf ka = some k) (h1 : e2[i]? = some (.ow pn (.dic kvs))) (hz : kvs.length < 1000) (hp : putKD kvs k d = kvs') (h2 : e2.set i (.ow pn (.dic kvs')) = e3) : mPutK i ix m e = .ok .nx e3 := by
  rw [← h2, ← hp]
  exact putK_ok h h0 hi hk h1 hz
theorem putN {ks : List Str} {vs : List D} {k : Str} {v : D} (hk : k ∉ ks) : putKD ((ks.zip vs).map kvB) (.inr k) v = (ks.zip vs).map kvB ++ [(.inr k, v)] := by
  refine putKD_new fun kv hkv e => ?_
  obtain ⟨p, hp, rfl⟩ := List.mem_map.mp hkv
  have := (List.of_mem_zip (a := p.1) (b := p.2) hp).1
  exact hk ((Sum.inr.inj e) ▸ this)
theorem pickK {k : Str} {L : List D} {a b : Int} (hL : (L.all fun d => vOk k d && !AN.isObj d) = true) (h : Pl a b) (h0 : 0 < L.length) (h1 : L.length < 65536) : ∃ (c : D) (a' b' : Int), (∀ (e : AN.Env) (i : Nat) (p : Bool), e[i]? = some (.ow p (pl a b)) → callM [true, false] F_law_pick [.sl i, .d (.lst L)] e = .ok (.fz c) (e.set i (.ow p (pl a' b')))) ∧ vOk k c = true ∧ AN.isObj c = false ∧ Pl a' b' := by
  obtain ⟨c, a', b', P, hc, p⟩ := pick_lst (s := L) h h0 h1
  have := List.all_eq_true.mp hL c hc
  rw [Bool.and_eq_true, Bool.not_eq_true'] at this
  exact ⟨c, a', b', fun e i k he => pick_at P he, this.1, this.2, p⟩
abbrev rE (p l r : AN.Slot) : AN.Env := [p, l, r]
abbrev O6 : List D := [.str "own=named=all", .str "own=named all", .str "own=all named", .str "own named=all", .str "own named all", .str "own all named"]
abbrev O5 : List D := [.str "named=all own", .str "named own=all", .str "named own all", .str "all own=named", .str "all own named"]
abbrev O2 : List D := [.str "named all own", .str "all named own"]
theorem rules_ok {a b : Int} (h : Pl a b) : ∃ (vs : List D) (a' b' : Int), Gv vs ∧ F_law_rules [.ow true (pl a b)] = .ok (.ow (.dic ((keys7.zip vs).map kvB))) [.ow true (pl a' b')] ∧ Pl a' b' := by
  obtain ⟨c1, a1, b1, P1, k1, o1, p1⟩ := pickK (k := "order") (L := O6 ++ O5 ++ O2) (by decide +kernel) h (by decide) (by decide)
  obtain ⟨c2, a2, b2, P2, k2, o2, p2⟩ := pickK (k := "given") (L := [.str "own", .str "both"]) (by decide +kernel) p1 (by decide) (by decide)
  obtain ⟨c3, a3, b3, P3, k3, o3, p3⟩ := pickK (k := "alls") (L := [.str "use", .str "once", .str "first", .str "last"]) (by decide +kernel) p2 (by decide) (by decide)
  obtain ⟨c4, a4, b4, P4, k4, o4, p4⟩ := pickK (k := "bodies") (L := [.str "ahead", .str "behind", .str "never"]) (by decide +kernel) p3 (by decide) (by decide)
  obtain ⟨c5, a5, b5, P5, k5, o5, p5⟩ := pickK (k := "spreads") (L := [.str "member", .str "spread", .str "tie"]) (by decide +kernel) p4 (by decide) (by decide)
  have A1 : dAdd (.lst O6) (.lst O5) = some (.lst (O6 ++ O5)) := dAddL (by decide)
  have A2 : dAdd (.lst (O6 ++ O5)) (.lst O2) = some (.lst (O6 ++ O5 ++ O2)) := dAddL (by decide)
  generalize hL : O6 ++ O5 ++ O2 = L13 at P1 A2
  generalize hM : O6 ++ O5 = L11 at A1 A2
  generalize hA : [D.str "own", .str "both"] = LA at P2
  generalize hB : [D.str "use", .str "once", .str "first", .str "last"] = LB at P3
  generalize hC : [D.str "ahead", .str "behind", .str "never"] = LC at P4
  generalize hD : [D.str "member", .str "spread", .str "tie"] = LD at P5
  have z6 : (6 : Nat) ≤ sizeLine := by decide
  have M1 : (mSet 1 (mFz (mLst (mA (mC (.str "own=named=all")) (mA (mC (.str "own=named all")) (mA (mC (.str "own=all named")) (mA (mC (.str "own named=all")) (mA (mC (.str "own named all")) (mA (mC (.str "own all named")) mA0))))))))) (rE (.ow true (pl a b)) .no .no) = .ok .nx (rE (.ow true (pl a b)) (.fz (.lst O6)) .no) := set_ok (fz_ok (o := .lst _) (lst_ok (a_ok rfl (a_ok rfl (a_ok rfl (a_ok rfl (a_ok rfl (a_ok rfl rfl)))))) rfl z6)) rfl
  have M2 : (mSet 1 (mD (mB2 dAdd (mV 1) (mFz (mLst (mA (mC (.str "named=all own")) (mA (mC (.str "named own=all")) (mA (mC (.str "named own all")) (mA (mC (.str "all own=named")) (mA (mC (.str "all own named")) mA0)))))))))) (rE (.ow true (pl a b)) (.fz (.lst O6)) .no) = .ok .nx (rE (.ow true (pl a b)) (.fz (.lst L11)) .no) := set_ok (d_ok (b2_ok (b := .lst O5) rfl (fz_ok (o := .lst _) (lst_ok (a_ok rfl (a_ok rfl (a_ok rfl (a_ok rfl (a_ok rfl rfl))))) rfl (by decide))) A1)) rfl
  have M3 : (mSetO 2 (mDisp [((mC (.str "order")), (mCallM [true, false] F_law_pick (mA (mV 0) (mA (mD (mB2 dAdd (mV 1) (mFz (mLst (mA (mC (.str "named all own")) (mA (mC (.str "all named own")) mA0)))))) mA0))))])) (rE (.ow true (pl a b)) (.fz (.lst L11)) .no) = .ok .nx (rE (.ow true (pl a1 b1)) (.fz (.lst L11)) (.ow false (.dic (((["order"] : List Str).zip [c1]).map kvB)))) :=
    setO_ok (disp1 rfl rfl (callM_ok' (a_ok rfl (a_ok (d_ok (b2_ok (b := .lst O2) rfl (fz_ok (o := .lst _) (lst_ok (a_ok rfl (a_ok rfl rfl)) rfl (by decide))) A2)) rfl)) (P1 (rE (.ow true (pl a b)) (.fz (.lst L11)) .no) 0 true rfl))) rfl
  have M4 : (mPutK 2 (mC (.str "given")) (mCallM [true, false] F_law_pick (mA (mV 0) (mA (mFz (mLst (mA (mC (.str "own")) (mA (mC (.str "both")) mA0)))) mA0)))) (rE (.ow true (pl a1 b1)) (.fz (.lst L11)) (.ow false (.dic (((["order"] : List Str).zip [c1]).map kvB)))) = .ok .nx (rE (.ow true (pl a2 b2)) (.fz (.lst L11)) (.ow false (.dic (((["order", "given"] : List Str).zip [c1, c2]).map kvB)))) :=
    putKE (callM_ok' (a_ok rfl (a_ok (fz_ok (o := .lst LA) (by rw [← hA]; exact lst_ok (a_ok rfl (a_ok rfl rfl)) rfl (by decide))) rfl)) (P2 (rE (.ow true (pl a1 b1)) (.fz (.lst L11)) (.ow false (.dic (((["order"] : List Str).zip [c1]).map kvB)))) 0 true rfl)) ⟨_, _, rfl⟩ rfl rfl rfl (by simp) (putN (by decide +kernel)) rfl
  have M5 : (mPutK 2 (mC (.str "alls")) (mCallM [true, false] F_law_pick (mA (mV 0) (mA (mFz (mLst (mA (mC (.str "use")) (mA (mC (.str "once")) (mA (mC (.str "first")) (mA (mC (.str "last")) mA0)))))) mA0)))) (rE (.ow true (pl a2 b2)) (.fz (.lst L11)) (.ow false (.dic (((["order", "given"] : List Str).zip [c1, c2]).map kvB)))) = .ok .nx (rE (.ow true (pl a3 b3)) (.fz (.lst L11)) (.ow false (.dic (((["order", "given", "alls"] : List Str).zip [c1, c2, c3]).map kvB)))) :=
    putKE (callM_ok' (a_ok rfl (a_ok (fz_ok (o := .lst LB) (by rw [← hB]; exact lst_ok (a_ok rfl (a_ok rfl (a_ok rfl (a_ok rfl rfl)))) rfl (by decide))) rfl)) (P3 (rE (.ow true (pl a2 b2)) (.fz (.lst L11)) (.ow false (.dic (((["order", "given"] : List Str).zip [c1, c2]).map kvB)))) 0 true rfl)) ⟨_, _, rfl⟩ rfl rfl rfl (by simp) (putN (by decide +kernel)) rfl
  have M6 : (mPutK 2 (mC (.str "bodies")) (mCallM [true, false] F_law_pick (mA (mV 0) (mA (mFz (mLst (mA (mC (.str "ahead")) (mA (mC (.str "behind")) (mA (mC (.str "never")) mA0))))) mA0)))) (rE (.ow true (pl a3 b3)) (.fz (.lst L11)) (.ow false (.dic (((["order", "given", "alls"] : List Str).zip [c1, c2, c3]).map kvB)))) = .ok .nx (rE (.ow true (pl a4 b4)) (.fz (.lst L11)) (.ow false (.dic (((["order", "given", "alls", "bodies"] : List Str).zip [c1, c2, c3, c4]).map kvB)))) :=
    putKE (callM_ok' (a_ok rfl (a_ok (fz_ok (o := .lst LC) (by rw [← hC]; exact lst_ok (a_ok rfl (a_ok rfl (a_ok rfl rfl))) rfl (by decide))) rfl)) (P4 (rE (.ow true (pl a3 b3)) (.fz (.lst L11)) (.ow false (.dic (((["order", "given", "alls"] : List Str).zip [c1, c2, c3]).map kvB)))) 0 true rfl)) ⟨_, _, rfl⟩ rfl rfl rfl (by simp) (putN (by decide +kernel)) rfl
  have M7 : (mPutK 2 (mC (.str "spreads")) (mCallM [true, false] F_law_pick (mA (mV 0) (mA (mFz (mLst (mA (mC (.str "member")) (mA (mC (.str "spread")) (mA (mC (.str "tie")) mA0))))) mA0)))) (rE (.ow true (pl a4 b4)) (.fz (.lst L11)) (.ow false (.dic (((["order", "given", "alls", "bodies"] : List Str).zip [c1, c2, c3, c4]).map kvB)))) = .ok .nx (rE (.ow true (pl a5 b5)) (.fz (.lst L11)) (.ow false (.dic (((["order", "given", "alls", "bodies", "spreads"] : List Str).zip [c1, c2, c3, c4, c5]).map kvB)))) :=
    putKE (callM_ok' (a_ok rfl (a_ok (fz_ok (o := .lst LD) (by rw [← hD]; exact lst_ok (a_ok rfl (a_ok rfl (a_ok rfl rfl))) rfl (by decide))) rfl)) (P5 (rE (.ow true (pl a4 b4)) (.fz (.lst L11)) (.ow false (.dic (((["order", "given", "alls", "bodies"] : List Str).zip [c1, c2, c3, c4]).map kvB)))) 0 true rfl)) ⟨_, _, rfl⟩ rfl rfl rfl (by simp) (putN (by decide +kernel)) rfl
  obtain ⟨v6, a6, b6, P6, _, _, p6⟩ := draw_at (e := rE (.ow true (pl a5 b5)) (.fz (.lst L11)) (.ow false (.dic (((["order", "given", "alls", "bodies", "spreads"] : List Str).zip [c1, c2, c3, c4, c5]).map kvB)))) (i := 0) (k := true) (n := 2) p5 (by omega) (by omega) rfl
  obtain ⟨v7, a7, b7, P7, _, _, p7⟩ := draw_at (e := rE (.ow true (pl a6 b6)) (.fz (.lst L11)) (.ow false (.dic (((["order", "given", "alls", "bodies", "spreads"] : List Str).zip [c1, c2, c3, c4, c5]).map kvB)))) (i := 0) (k := true) (n := 2) p6 (by omega) (by omega) rfl
  have pp : putKD (putKD (((["order", "given", "alls", "bodies", "spreads"] : List Str).zip [c1, c2, c3, c4, c5]).map kvB) (.inr "near") (.bl (v6 == 0))) (.inr "marks") (.bl (v7 == 0)) = (keys7.zip [c1, c2, c3, c4, c5, .bl (v6 == 0), .bl (v7 == 0)]).map kvB := by
    rw [putN (by decide +kernel)]
    exact putN (ks := ["order", "given", "alls", "bodies", "spreads", "near"]) (vs := [c1, c2, c3, c4, c5, .bl (v6 == 0)]) (by decide +kernel)
  have M8 : (mPut2 2 "near" "marks" (mA (mD (mB2 dEq (mCallM [true, false] F_law_draw (mA (mV 0) (mA (mC (.int 2)) mA0))) (mC (.int 0)))) (mA (mD (mB2 dEq (mCallM [true, false] F_law_draw (mA (mV 0) (mA (mC (.int 2)) mA0))) (mC (.int 0)))) mA0))) (rE (.ow true (pl a5 b5)) (.fz (.lst L11)) (.ow false (.dic (((["order", "given", "alls", "bodies", "spreads"] : List Str).zip [c1, c2, c3, c4, c5]).map kvB)))) = .ok .nx (rE (.ow true (pl a7 b7)) (.fz (.lst L11)) (.ow false (.dic ((keys7.zip [c1, c2, c3, c4, c5, .bl (v6 == 0), .bl (v7 == 0)]).map kvB)))) :=
    put2_ok (a_ok (d_ok (b2_ok (callM_ok' rfl P6) rfl dEq_int)) (a_ok (d_ok (b2_ok (callM_ok' rfl P7) rfl dEq_int)) rfl)) rfl rfl (by simp) (by rw [pp]; rfl)
  have bb : ∀ (k : Str) (c : Bool), k ∈ (["near", "marks"] : List Str) → vOk k (.bl c) = true := fun k c hk => by
    simp only [List.mem_cons, List.not_mem_nil, or_false] at hk
    rcases hk with rfl | rfl <;> cases c <;> decide +kernel
  have n6 := bb "near" (v6 == 0) (by simp)
  have n7 := bb "marks" (v7 == 0) (by simp)
  refine ⟨[c1, c2, c3, c4, c5, .bl (v6 == 0), .bl (v7 == 0)], a7, b7, ⟨rfl, ?_, ?_⟩, ?_, p7⟩
  · rw [badK_none]
    simp only [keys7, List.zip_cons_cons, List.zip_nil_right, List.mem_cons, List.not_mem_nil, or_false]
    rintro p (rfl | rfl | rfl | rfl | rfl | rfl | rfl)
    · exact k1
    · exact k2
    · exact k3
    · exact k4
    · exact k5
    · exact n6
    · exact n7
  · simp only [List.mem_cons, List.not_mem_nil, or_false]
    rintro p (rfl | rfl | rfl | rfl | rfl | rfl | rfl)
    · exact o1
    · exact o2
    · exact o3
    · exact o4
    · exact o5
    · rfl
    · rfl
  · exact runF_ow (n := 2) (m := m_law_rules) (args := [.ow true (pl a b)]) (seq_nx M1 (seq_nx M2 (seq_nx M3 (seq_nx M4 (seq_nx M5 (seq_nx M6 (seq_nx M7 (seq_nx M8 rfl))))))))
theorem rules_at {a b : Int} (h : Pl a b) : ∃ (vs : List D) (a' b' : Int), Gv vs ∧ (∀ (e : AN.Env) (i : Nat) (k : Bool), e[i]? = some (.ow k (pl a b)) → callM [true] F_law_rules [.sl i] e = .ok (.ow (.dic ((keys7.zip vs).map kvB))) (e.set i (.ow k (pl a' b')))) ∧ Pl a' b' := by
  obtain ⟨vs, a', b', g, F, p⟩ := rules_ok h
  refine ⟨vs, a', b', g, fun e i k he => callM_ok (by simp [ioS]) (ds := [.non]) (e1 := e) rfl (args := [.ow true (pl a b)]) ?_ F ?_, p⟩
  · simp [mkA, he]
  · simp [back, he]
end G

set_option Elab.async false
set_option maxRecDepth 100000
set_option linter.unusedVariables false
set_option linter.unusedSimpArgs false
namespace G
open PySem L2 AN
/-! a book made of rules -/
abbrev mbE (r b : AN.Slot) : AN.Env := [r, b]
theorem selC {vs : List D} {rw : D} : selM t_mt_changed_Book "changed" (bkO vs rw) = some F_Book_changed := rfl
theorem selR {vs : List D} {rw : D} : selM t_mt_rank_Book "rank" (bkO vs rw) = some F_Book_rank := rfl
theorem makeKO_ok {c : String} {n : Nat} {π : List (Nat ⊕ Nat)} {dms : List D} {f : Fn} {ms : M (List Opd)} {e e1 : AN.Env} {xs ys : List Opd} {r : R O} (h : ms e = .ok xs e1) (hp : pkD π dms xs = ys) (h2 : makeP c n f ys e1 = r) : mMakeKO c n π dms f ms e = r := by
  rw [mMakeKO_r, h, th_ok, hp]; exact h2
theorem ixV {v1 v2 v3 v4 v5 v6 v7 : D} : dIxK (.dic ((keys7.zip [v1, v2, v3, v4, v5, v6, v7]).map kvB)) (.str "order") = some v1 ∧ dIxK (.dic ((keys7.zip [v1, v2, v3, v4, v5, v6, v7]).map kvB)) (.str "given") = some v2 ∧ dIxK (.dic ((keys7.zip [v1, v2, v3, v4, v5, v6, v7]).map kvB)) (.str "alls") = some v3 ∧ dIxK (.dic ((keys7.zip [v1, v2, v3, v4, v5, v6, v7]).map kvB)) (.str "bodies") = some v4 ∧ dIxK (.dic ((keys7.zip [v1, v2, v3, v4, v5, v6, v7]).map kvB)) (.str "spreads") = some v5 ∧ dIxK (.dic ((keys7.zip [v1, v2, v3, v4, v5, v6, v7]).map kvB)) (.str "near") = some v6 ∧ dIxK (.dic ((keys7.zip [v1, v2, v3, v4, v5, v6, v7]).map kvB)) (.str "marks") = some v7 := ⟨rfl, rfl, rfl, rfl, rfl, rfl, rfl⟩
theorem made_ok {vs : List D} (h : Gv vs) : ∃ vs' rw', F_law_made_book [.fz (.dic ((keys7.zip vs).map kvB))] = .ok (.fz (bkO vs' rw')) [.fz (.dic ((keys7.zip vs).map kvB))] := by
  obtain ⟨v1, v2, v3, v4, v5, v6, v7, rfl⟩ := len7 h.l
  obtain ⟨i1, i2, i3, i4, i5, i6, i7⟩ := ixV (v1 := v1) (v2 := v2) (v3 := v3) (v4 := v4) (v5 := v5) (v6 := v6) (v7 := v7)
  have q := badK_none.mp h.b
  simp only [keys7, List.zip_cons_cons, List.zip_nil_right, List.mem_cons, List.not_mem_nil, or_false, forall_eq_or_imp, forall_eq] at q
  obtain ⟨k1, k2, k3, k4, k5, k6, k7⟩ := q
  have o := h.o
  simp only [List.mem_cons, List.not_mem_nil, or_false, forall_eq_or_imp, forall_eq] at o
  obtain ⟨o1, o2, o3, o4, o5, o6, o7⟩ := o
  have d5 : vOk "spreads" (.str "member") = true := by decide +kernel
  have d6 : vOk "near" (.bl true) = true := by decide +kernel
  have d7 : vOk "marks" (.bl false) = true := by decide +kernel
  have g0 : Gv [v1, v2, v3, v4, .str "member", .bl true, .bl false] := by
    refine ⟨rfl, ?_, ?_⟩
    · rw [badK_none]
      simp only [keys7, List.zip_cons_cons, List.zip_nil_right, List.mem_cons, List.not_mem_nil, or_false]
      rintro p (rfl | rfl | rfl | rfl | rfl | rfl | rfl)
      · exact k1
      · exact k2
      · exact k3
      · exact k4
      · exact d5
      · exact d6
      · exact d7
    · simp only [List.mem_cons, List.not_mem_nil, or_false]
      rintro p (rfl | rfl | rfl | rfl | rfl | rfl | rfl)
      · exact o1
      · exact o2
      · exact o3
      · exact o4
      · rfl
      · rfl
      · rfl
  obtain ⟨rw0, mk⟩ := make_b g0
  obtain ⟨rw1, C1⟩ := changed_ok (rw := rw0) (k := "spreads") g0 (by decide +kernel) k5 o5
  have g1 := setV_gv (k := "spreads") g0 k5 o5
  obtain ⟨rw2, C2⟩ := changed_ok (rw := rw1) (k := "near") g1 (by decide +kernel) k6 o6
  have g2 := setV_gv (k := "near") g1 k6 o6
  obtain ⟨rw3, C3⟩ := changed_ok (rw := rw2) (k := "marks") g2 (by decide +kernel) k7 o7
  have c1 := fun e => callO3 (e := e) C1
  have c2 := fun e => callO3 (e := e) C2
  have c3 := fun e => callO3 (e := e) C3
  refine ⟨setV (setV (setV [v1, v2, v3, v4, .str "member", .bl true, .bl false] "spreads" v5) "near" v6) "marks" v7, rw3, ?_⟩
  generalize D.dic ((keys7.zip [v1, v2, v3, v4, v5, v6, v7]).map kvB) = bd at *
  have S1 : (mSet 1 (mFz (mMakeKO "Book" 7 [.inl 0, .inl 1, .inl 2, .inl 3, .inr 0, .inr 1, .inr 2] [.str "member", .bl true, .bl false] F_Book_init (mA (mD (mB2 dIxK (mV 0) (mC (.str "order")))) (mA (mD (mB2 dIxK (mV 0) (mC (.str "given")))) (mA (mD (mB2 dIxK (mV 0) (mC (.str "alls")))) (mA (mD (mB2 dIxK (mV 0) (mC (.str "bodies")))) mA0))))))) (mbE (.fz bd) .no) = .ok .nx (mbE (.fz bd) (.fz (bkO [v1, v2, v3, v4, .str "member", .bl true, .bl false] rw0))) :=
    set_ok (fz_ok (o := .obj _ _) (makeKO_ok (a_ok (d_ok (b2_ok rfl rfl i1)) (a_ok (d_ok (b2_ok rfl rfl i2)) (a_ok (d_ok (b2_ok rfl rfl i3)) (a_ok (d_ok (b2_ok rfl rfl i4)) rfl)))) rfl (mk _))) rfl
  generalize [v1, v2, v3, v4, .str "member", .bl true, .bl false] = w0 at *
  have s1 := selC (vs := w0) (rw := rw0)
  have s2 := selC (vs := setV w0 "spreads" v5) (rw := rw1)
  have s3 := selC (vs := setV (setV w0 "spreads" v5) "near" v6) (rw := rw2)
  change ∀ e, callP 3 F_Book_changed [.d (bkO w0 rw0), .d (.str "spreads"), .d v5] e = .ok (.ow (.obj "Book" (bF (setV w0 "spreads" v5) rw1))) e at c1
  generalize F_Book_changed = fC at *
  have S2 : (mSet 1 (mMeth t_mt_changed_Book "changed" 3 (mMeth t_mt_changed_Book "changed" 3 (mV 1) (mA (mC (.str "spreads")) (mA (mD (mB2 dIxK (mV 0) (mC (.str "spreads")))) mA0))) (mA (mC (.str "near")) (mA (mD (mB2 dIxK (mV 0) (mC (.str "near")))) mA0)))) (mbE (.fz bd) (.fz (bkO w0 rw0))) = .ok .nx (mbE (.fz bd) (.fz (bkO (setV (setV w0 "spreads" v5) "near" v6) rw2))) :=
    set_ok (meth_ok (d := bkO (setV w0 "spreads" v5) rw1) (meth_ok (rt := .ow (.obj "Book" (bF (setV w0 "spreads" v5) rw1))) rfl s1 (a_ok rfl (a_ok (d_ok (b2_ok rfl rfl i5)) rfl)) (c1 _)) s2 (a_ok rfl (a_ok (d_ok (b2_ok rfl rfl i6)) rfl)) (c2 _)) rfl
  have S3 : (mRet (mMeth t_mt_changed_Book "changed" 3 (mV 1) (mA (mC (.str "marks")) (mA (mD (mB2 dIxK (mV 0) (mC (.str "marks")))) mA0)))) (mbE (.fz bd) (.fz (bkO (setV (setV w0 "spreads" v5) "near" v6) rw2))) = .ok (.rt (bkO (setV (setV (setV w0 "spreads" v5) "near" v6) "marks" v7) rw3)) (mbE (.fz bd) (.fz (bkO (setV (setV w0 "spreads" v5) "near" v6) rw2))) :=
    ret_ok (meth_ok rfl s3 (a_ok rfl (a_ok (d_ok (b2_ok rfl rfl i7)) rfl)) (c3 _))
  exact runF_ok (n := 1) (m := m_law_made_book) (args := [.fz bd]) (seq_nx S1 (seq_nx S2 S3))
/-! what is refused, asked for -/
theorem try_ro {mb : M Fl} {hd : Hnd} {hs : List Hnd} {e e1 e2 : AN.Env} {c : String} {d : D} {o : O} {s : AN.Slot} (h : mb e = .exc c d e1) (hc : hd.cs c = some true) (hp : e1[hd.slot]? = some s) (hn : pin s = false) (hr : hd.su c d (e1.set hd.slot .no) = .ok (.ro o) e2) : mTry mb (hd :: hs) e = .ok (.ro o) e2 := by
  unfold mTry
  rw [h]
  dsimp only [handle]
  rw [hc]
  dsimp only
  rw [hp]
  cases s with
  | ow k o => cases k with
    | true => cases hn
    | false => dsimp only; rw [hr]; rfl
  | _ => dsimp only; rw [hr]; rfl
theorem xf_ok {T : String → Option Str} {f : Str} {c : String} {d : D} {e : AN.Env} (h : T c = some f) : mXf T f c d e = .ok (.d d) e := by
  unfold mXf; rw [if_pos h]; rfl
theorem xi_ok {T : String → Option Bool} {c : String} {b : Bool} {e : AN.Env} (h : T c = some b) : mXi T c e = .ok (.d (.bl b)) e := by
  unfold mXi; rw [h]; rfl
theorem makeKO_x {c c' : String} {n : Nat} {π : List (Nat ⊕ Nat)} {dms : List D} {f : Fn} {ms : M (List Opd)} {e e1 : AN.Env} {xs ys : List Opd} {d : D} (h : ms e = .ok xs e1) (hp : pkD π dms xs = ys) (h2 : makeP c n f ys e1 = .exc c' d e1) : mFz (mMakeKO c n π dms f ms) e = .exc c' d e1 := by
  rw [mFz_r, makeKO_ok h hp h2, th_exc]
theorem refused_ok {ws : List D} {k : Str} (hl : ws.length = 7) (hb : badK (keys7.zip ws) = some k) (ho : ∀ v ∈ ws, AN.isObj v = false) : F_law_refused [.fz (.dic ((keys7.zip ws).map kvB))] = .ok (.ow (.lst [.str k, .bl true])) [.fz (.dic ((keys7.zip ws).map kvB))] := by
  have mk := make_x hl hb ho
  obtain ⟨v1, v2, v3, v4, v5, v6, v7, rfl⟩ := len7 hl
  obtain ⟨i1, i2, i3, i4, i5, i6, i7⟩ := ixV (v1 := v1) (v2 := v2) (v3 := v3) (v4 := v4) (v5 := v5) (v6 := v6) (v7 := v7)
  generalize D.dic ((keys7.zip [v1, v2, v3, v4, v5, v6, v7]).map kvB) = bd at *
  have X : (mSet 1 (mFz (mMakeKO "Book" 7 [.inl 0, .inl 1, .inl 2, .inl 3, .inl 4, .inl 5, .inl 6] [] F_Book_init (mA (mD (mB2 dIxK (mV 0) (mC (.str "order")))) (mA (mD (mB2 dIxK (mV 0) (mC (.str "given")))) (mA (mD (mB2 dIxK (mV 0) (mC (.str "alls")))) (mA (mD (mB2 dIxK (mV 0) (mC (.str "bodies")))) (mA (mD (mB2 dIxK (mV 0) (mC (.str "spreads")))) (mA (mD (mB2 dIxK (mV 0) (mC (.str "near")))) (mA (mD (mB2 dIxK (mV 0) (mC (.str "marks")))) mA0)))))))))) [.fz bd, .fz .non, .no] = .exc "BadPart" (.str k) [.fz bd, .fz .non, .no] :=
    set_x (makeKO_x (a_ok (d_ok (b2_ok rfl rfl i1)) (a_ok (d_ok (b2_ok rfl rfl i2)) (a_ok (d_ok (b2_ok rfl rfl i3)) (a_ok (d_ok (b2_ok rfl rfl i4)) (a_ok (d_ok (b2_ok rfl rfl i5)) (a_ok (d_ok (b2_ok rfl rfl i6)) (a_ok (d_ok (b2_ok rfl rfl i7)) rfl))))))) rfl (mk _))
  have SU : mRetO (mLst (mA (mXf xf_part "part" "BadPart" (.str k)) (mA (mXi xi_NamesError "BadPart") mA0))) [.fz bd, .fz .non, .no] = .ok (.ro (.lst [.str k, .bl true])) [.fz bd, .fz .non, .no] :=
    retO_ok (lst_ok (ds := [.str k, .bl true]) (a_ok (xf_ok rfl) (a_ok (xi_ok rfl) rfl)) rfl z2')
  exact runF_ow (n := 2) (m := m_law_refused) (args := [.fz bd]) (seq_nx (e1 := [.fz bd, .fz .non, .no]) rfl (seq_ro (try_ro (s := .no) X rfl rfl rfl SU)))
abbrev akE (b w v x s4 s5 : AN.Slot) : AN.Env := [b, w, v, x, s4, s5]
theorem asked_x {b v w x : D} {way : Int} {s : Str} (hx : (mIfS (mB2 (g2b dEq) (mV 1) (mC (.int 0))) (mSet 4 (mIxO t_gi_Book dIx (mV 0) (mV 2))) (mIfS (mB2 (g2b dEq) (mV 1) (mC (.int 1))) (mSet 4 (mMeth t_mt_rank_Book "rank" 2 (mV 0) (mA (mV 2) mA0))) (mSet 4 (mMeth t_mt_changed_Book "changed" 3 (mV 0) (mA (mV 2) (mA (mV 3) mA0)))))) (akE (.fz b) (.fz (.int way)) (.fz v) (.fz w) (.fz .non) .no) = .exc "BadPart" x (akE (.fz b) (.fz (.int way)) (.fz v) (.fz w) (.fz .non) .no)) (hr : dReprK x = some (.str s)) : F_law_asked [.fz b, .fz (.int way), .fz v, .fz w] = .ok (.ow (.lst [.str s])) [.fz b, .fz (.int way), .fz v, .fz w] := by
  have SU : mRetO (mLst (mA (mD (mB1 dReprK (mXf xf_part "part" "BadPart" x))) mA0)) (akE (.fz b) (.fz (.int way)) (.fz v) (.fz w) (.fz .non) .no) = .ok (.ro (.lst [.str s])) (akE (.fz b) (.fz (.int way)) (.fz v) (.fz w) (.fz .non) .no) :=
    retO_ok (lst_ok (ds := [.str s]) (a_ok (d_ok (b1_ok (xf_ok rfl) hr)) rfl) rfl z1')
  exact runF_ow (n := 2) (m := m_law_asked) (args := [.fz b, .fz (.int way), .fz v, .fz w]) (seq_nx (e1 := akE (.fz b) (.fz (.int way)) (.fz v) (.fz w) (.fz .non) .no) rfl (seq_ro (try_ro (s := .no) hx rfl rfl rfl SU)))
theorem ixO_x {t : String → Option Fn} {g : D → D → Option D} {ma mb : M Opd} {e : AN.Env} {c c' : String} {fs : List (Str × D)} {y : Opd} {f : Fn} {x : D} (h1 : ma e = .ok (.d (.obj c fs)) e) (h2 : mb e = .ok y e) (ht : t c = some f) (h3 : callP 2 f [.d (.obj c fs), y] e = .exc c' x e) : mIxO t g ma mb e = .exc c' x e := by
  rw [mIxO_r, h1, th_ok, h2, th_ok]
  unfold ixP
  rw [view_d]
  dsimp only
  rw [ht]
  dsimp only
  rw [callD_r, h3, th_exc]
theorem asked0 {vs : List D} {rw v w : D} {s : Str} (hp : partB v = false) (ho : AN.isObj v = false) (hr : dReprK v = some (.str s)) : F_law_asked [.fz (bkO vs rw), .fz (.int 0), .fz v, .fz w] = .ok (.ow (.lst [.str s])) [.fz (bkO vs rw), .fz (.int 0), .fz v, .fz w] := by
  obtain ⟨as, F⟩ := getitem_x (b := bkO vs rw) hp ho
  have c := fun e => callX2 (e := e) F
  exact asked_x (ifs_t (b2_ok rfl rfl (g2b_ok dEq_int)) (set_x (ixO_x rfl rfl rfl (c _)))) hr
theorem asked1 {vs : List D} {rw v w : D} {s : Str} (hp : rankB v = false) (ho : AN.isObj v = false) (hr : dReprK v = some (.str s)) : F_law_asked [.fz (bkO vs rw), .fz (.int 1), .fz v, .fz w] = .ok (.ow (.lst [.str s])) [.fz (bkO vs rw), .fz (.int 1), .fz v, .fz w] := by
  obtain ⟨as, F⟩ := rank_x (b := bkO vs rw) hp ho
  have c := fun e => callX2 (e := e) F
  have n0 : g2b dEq (.int 1) (.int 0) = some false := g2b_ok dEq_int
  have n1 : g2b dEq (.int 1) (.int 1) = some true := g2b_ok dEq_int
  exact asked_x (ifs_f (b2_ok rfl rfl n0) (ifs_t (b2_ok rfl rfl n1) (set_x (meth_x rfl selR (a_ok rfl rfl) (c _))))) hr
theorem asked2 {vs : List D} {rw v w : D} {s : Str} (F : ∃ as, F_Book_changed [.fz (bkO vs rw), .fz v, .fz w] = .exc "BadPart" v as) (hr : dReprK v = some (.str s)) : F_law_asked [.fz (bkO vs rw), .fz (.int 2), .fz v, .fz w] = .ok (.ow (.lst [.str s])) [.fz (bkO vs rw), .fz (.int 2), .fz v, .fz w] := by
  obtain ⟨as, F⟩ := F
  have c := fun e => callX3 (e := e) F
  have n0 : g2b dEq (.int 2) (.int 0) = some false := g2b_ok dEq_int
  have n1 : g2b dEq (.int 2) (.int 1) = some false := g2b_ok dEq_int
  exact asked_x (ifs_f (b2_ok rfl rfl n0) (ifs_f (b2_ok rfl rfl n1) (set_x (meth_x rfl selC (a_ok rfl (a_ok rfl rfl)) (c _))))) hr
end G

set_option Elab.async false
set_option maxRecDepth 100000
set_option linter.unusedVariables false
set_option linter.unusedSimpArgs false
namespace G
open PySem L2 AN
/-! rules made odd at some places -/
theorem parts_ok : F_law_parts [] = .ok (.ow (.lst (keys7.map .str))) [] :=
  runF_ow (n := 0) (m := m_law_parts) (args := []) (retO_ok (lst_ok (ds := keys7.map .str) (a_ok rfl (a_ok rfl (a_ok rfl (a_ok rfl (a_ok rfl (a_ok rfl (a_ok rfl rfl))))))) rfl (by decide)))
def oddL : List D := [.non, .str "", .int 0, .int 1, .str "once ", .str "Own", .lst [.str "own"], .tup [.str "own"], .str "own all", .str "own named", .str "all=own named", .str "near", .dic [], .str "own  named all", .str "own named all ", .str "own,named,all", .str "False", .str "owns", .int 2, .str "named=own all"]
theorem odd_ok : F_law_odd [] = .ok (.ow (.lst oddL)) [] :=
  runF_ow (n := 0) (m := m_law_odd) (args := []) (retO_ok (lst_ok (ds := oddL) (a_ok rfl (a_ok rfl (a_ok rfl (a_ok rfl (a_ok rfl (a_ok rfl (a_ok (fz_ok (o := .lst [.str "own"]) (lst_ok (a_ok rfl rfl) rfl z1')) (a_ok (tup_ok (ds := [.str "own"]) (a_ok rfl rfl) rfl z1') (a_ok rfl (a_ok rfl (a_ok rfl (a_ok rfl (a_ok (fz_ok (o := .dic []) rfl) (a_ok rfl (a_ok rfl (a_ok rfl (a_ok rfl (a_ok rfl (a_ok rfl (a_ok rfl rfl)))))))))))))))))))) rfl (by decide)))
theorem odd_all : (oddL.all fun d => !AN.isObj d && keys7.all fun k => !vOk k d) = true := by decide +kernel
theorem odd_bad {d : D} (h : d ∈ oddL) : AN.isObj d = false ∧ ∀ k ∈ keys7, vOk k d = false := by
  have := List.all_eq_true.mp odd_all d h
  rw [Bool.and_eq_true, Bool.not_eq_true', List.all_eq_true] at this
  exact ⟨this.1, fun k hk => by simpa using this.2 k hk⟩
structure Bd (is : List Int) (ws : List D) : Prop where
  l : ws.length = 7
  o : ∀ v ∈ ws, AN.isObj v = false
  r : ∀ i ∈ is, 0 ≤ i ∧ i < 7
  v : ∀ (i : Nat) k v, keys7[i]? = some k → ws[i]? = some v → vOk k v = !decide ((i : Int) ∈ is)
theorem keys_nd' : keys7.Nodup := by decide +kernel
theorem bd0 {vs : List D} (h : Gv vs) : Bd [] vs := by
  refine ⟨h.l, h.o, fun i hi => (by cases hi), fun i k v hk hv => ?_⟩
  have q := badK_none.mp h.b
  have : (k, v) ∈ keys7.zip vs := List.mem_of_getElem? (i := i) (List.getElem?_zip_eq_some.mpr ⟨hk, hv⟩)
  have := q _ this
  simpa using this
theorem bdS {is : List Int} {ws : List D} {n : Nat} {k : Str} {d : D} (h : Bd is ws) (hk : keys7[n]? = some k) (hd : d ∈ oddL) : Bd (is ++ [(n : Int)]) (setV ws k d) := by
  obtain ⟨d1, d2⟩ := odd_bad hd
  have n7 : n < 7 := (List.getElem?_eq_some_iff.mp hk).1
  have kk : k ∈ keys7 := List.mem_of_getElem? hk
  refine ⟨?_, ?_, ?_, ?_⟩
  · unfold setV
    rw [List.length_map, List.length_zip, h.l]; rfl
  · intro w hw
    obtain ⟨r, hr, rfl⟩ := List.mem_map.mp hw
    show AN.isObj (if r.1 = k then d else r.2) = false
    split
    · exact d1
    · exact h.o _ (List.of_mem_zip (a := r.1) (b := r.2) hr).2
  · intro i hi
    rcases List.mem_append.mp hi with q | q
    · exact h.r i q
    · rw [List.mem_singleton.mp q]; omega
  · intro j k' v' hk' hv'
    unfold setV at hv'
    rw [List.getElem?_map] at hv'
    obtain ⟨p, hp, e⟩ := Option.map_eq_some_iff.mp hv'
    obtain ⟨q1, q2⟩ := List.getElem?_zip_eq_some.mp hp
    have e1 : p.1 = k' := by rw [hk'] at q1; exact (Option.some.inj q1).symm
    by_cases q : k' = k
    · rw [e1, if_pos q] at e
      subst e q
      have : j = n := (List.getElem?_inj (List.getElem?_eq_some_iff.mp hk').1 keys_nd').mp (hk'.trans hk.symm)
      subst this
      rw [d2 k' kk]
      simp
    · rw [e1, if_neg q] at e
      have ne : j ≠ n := fun z => by
        subst z
        rw [hk] at hk'
        exact q (Option.some.inj hk').symm
      rw [← e, h.v j k' p.2 hk' q2]
      have : ((j : Int) ∈ is ++ [(n : Int)]) ↔ (j : Int) ∈ is := by
        rw [List.mem_append, List.mem_singleton]
        exact ⟨fun z => z.elim id fun z => absurd (by omega) ne, .inl⟩
      simp only [this]
theorem least_ok {p : Nat → Bool} : ∀ (ks : List Str) (ws : List D) (n : Nat), ks.length = ws.length → (∀ (i : Nat) k v, ks[i]? = some k → ws[i]? = some v → vOk k v = !p (n + i)) → ∀ l r, (List.range' n ks.length).filter p = l :: r → n ≤ l ∧ ∃ k, ks[l - n]? = some k ∧ badK (ks.zip ws) = some k
  | [], _, n, _, _, l, r, h => by cases h
  | k :: ks, [], n, h, _, _, _, _ => by cases h
  | k :: ks, v :: ws, n, hl, hv, l, r, h => by
    have h0 := hv 0 k v rfl rfl
    rw [Nat.add_zero] at h0
    rw [List.length_cons, List.range'_succ, List.filter_cons] at h
    cases q : p n with
    | true =>
      rw [q] at h h0
      rw [if_pos rfl] at h
      injection h with h1 h2
      subst h1
      refine ⟨Nat.le_refl _, k, by rw [Nat.sub_self]; rfl, ?_⟩
      have h0 : vOk k v = false := h0
      simp only [badK, List.zip_cons_cons, List.find?_cons, h0, Bool.not_false, Option.map_some]
    | false =>
      rw [q] at h h0
      rw [if_neg Bool.false_ne_true] at h
      obtain ⟨i1, k2, i2, i3⟩ := least_ok ks ws (n + 1) (by simpa using hl) (fun i k v hk hv' => by
        have := hv (i + 1) k v (by simpa using hk) (by simpa using hv')
        rw [this]
        congr 2; omega) l r h
      refine ⟨by omega, k2, ?_, ?_⟩
      · have : l - n = (l - (n + 1)) + 1 := by omega
        rw [this]
        simpa using i2
      · have h0 : vOk k v = true := h0
        rw [← i3]
        simp only [badK, List.zip_cons_cons, List.find?_cons, h0, Bool.not_true]
end G

set_option Elab.async false
set_option maxRecDepth 100000
set_option linter.unusedVariables false
set_option linter.unusedSimpArgs false
namespace G
open PySem L2 AN
/-! the law's first loop -/
theorem b2v_ok {γ : Type} {g : D → D → Option γ} {ma mb : M Opd} {e e1 e2 : AN.Env} {x y : Opd} {a b : D} {z : γ} (h1 : ma e = .ok x e1) (h2 : mb e1 = .ok y e2) (v1 : view e2 x = some a) (v2 : view e2 y = some b) (h3 : g a b = some z) : mB2 g ma mb e = .ok z e2 := by
  rw [mB2_r, h1, th_ok, h2, th_ok, ap2_r, v1, v2]
  simp only [Option.bind_some, h3, rop_some]
theorem appE {i : Nat} {ma : M Opd} {e e1 e2 : AN.Env} {d : D} {k : Bool} {xs : List D} (h : ma e = .ok (.d d) e1) (h0 : ∃ k ys, e[i]? = some (.ow k (.lst ys))) (h1 : e1[i]? = some (.ow k (.lst xs))) (hz : xs.length < sizeLine) (h2 : e1.set i (.ow k (.lst (xs ++ [d]))) = e2) : mApp i ma e = .ok .nx e2 := by
  rw [← h2]
  exact app_ok h h0 h1 hz
abbrev lE (s0 s1 s2 s3 s4 s5 s6 s7 s8 s9 s10 s11 s12 s13 s14 : AN.Slot) : AN.Env := [s0, s1, s2, s3, s4, s5, s6, s7, s8, s9, s10, s11, s12, s13, s14]
abbrev bA2 : M Fl := (mW [false, false, false, false, false, false, false, false, true, false, false, false, false, false, true] (mSeq (mSet 14 (mCallM [true, false] F_law_draw (mA (mV 2) (mA (mC (.int 7)) mA0)))) (mSeq (mPutK 13 (mD (mB2 dIxK (mCall 0 F_law_parts mA0) (mV 14))) (mCallM [true, false] F_law_pick (mA (mV 2) (mA (mCall 0 F_law_odd mA0) mA0)))) (mApp 12 (mV 14)))))
theorem stepA2 {sn kk bk s5 : AN.Slot} {rs : AN.Slot} {a b : Int} {is : List Int} {ws : List D} {j : D} (h : Bd is ws) (hp : Pl a b) (hl : is.length < 1000) : ∃ (n : Nat) (ws' : List D) (a' b' : Int), n < 7 ∧ bA2 (lE sn kk (.ow false (pl a b)) rs bk s5 .no .no (.fz j) .no .no .no (.ow false (.lst (is.map .int))) (.ow false (.dic ((keys7.zip ws).map kvB))) .no) = .ok .nx (lE sn kk (.ow false (pl a' b')) rs bk s5 .no .no .no .no .no .no (.ow false (.lst ((is ++ [(n : Int)]).map .int))) (.ow false (.dic ((keys7.zip ws').map kvB))) .no) ∧ Bd (is ++ [(n : Int)]) ws' ∧ Pl a' b' := by
  obtain ⟨v, a1, b1, P1, v0, v7, p1⟩ := draw_at (e := lE sn kk (.ow false (pl a b)) rs bk s5 .no .no (.fz j) .no .no .no (.ow false (.lst (is.map .int))) (.ow false (.dic ((keys7.zip ws).map kvB))) .no) (i := 2) (k := false) (n := 7) hp (by omega) (by omega) rfl
  obtain ⟨n, rfl⟩ : ∃ n : Nat, v = (n : Int) := ⟨v.toNat, by omega⟩
  have n7 : n < 7 := by omega
  obtain ⟨k, hk⟩ : ∃ k, keys7[n]? = some k := ⟨keys7[n]'n7, by simp⟩
  have kk' : k ∈ keys7 := List.mem_of_getElem? hk
  obtain ⟨c, a2, b2, P2, hc, p2⟩ := pick_lst (s := oddL) p1 (by decide) (by decide)
  have P2 := pick_at (e := lE sn kk (.ow false (pl a1 b1)) rs bk s5 .no .no (.fz j) .no .no .no (.ow false (.lst (is.map .int))) (.ow false (.dic ((keys7.zip ws).map kvB))) (.fz (.int n))) (i := 2) (k := false) P2 rfl
  have B := bdS h hk hc
  have co := fun e => callO0 (e := e) odd_ok
  have cp := fun e => callO0 (e := e) parts_ok
  have ix : dIxK (.lst (keys7.map .str)) (.int (n : Nat)) = some (.str k) := lstIx (n := n) rfl (by rw [List.getElem?_map, hk]; rfl)
  have zk : ((keys7.zip ws).map kvB).length < 1000 := by rw [List.length_map, List.length_zip, h.l]; decide
  have ps := putS (v := c) h.l kk'
  have zi : (is.map D.int).length < sizeLine := by rw [List.length_map]; exact Nat.lt_of_lt_of_le hl (zL (Nat.le_refl _))
  refine ⟨n, setV ws k c, a2, b2, n7, ?_, B, p2⟩
  rw [List.map_append]
  generalize (keys7.zip ws).map kvB = K0 at *
  generalize (keys7.zip (setV ws k c)).map kvB = K1 at *
  generalize keys7.map D.str = KS at *
  generalize oddL = OL at *
  generalize is.map D.int = IS at *
  exact w_nx (e1 := lE sn kk (.ow false (pl a2 b2)) rs bk s5 .no .no (.fz j) .no .no .no (.ow false (.lst (IS ++ [.int (n : Nat)]))) (.ow false (.dic K1)) (.fz (.int n))) (seq_nx (set_ok (callM_ok' rfl P1) rfl) (seq_nx (putKE (callM_ok' (a_ok rfl (a_ok (call_ok rfl (co _)) rfl)) P2) ⟨_, _, rfl⟩ (d_ok (b2_ok (call_ok rfl (cp _)) rfl ix)) rfl rfl zk ps rfl) (appE (d := .int (n : Nat)) (xs := IS) rfl ⟨_, _, rfl⟩ rfl zi rfl))) rfl
abbrev bA : M Fl := (mW [false, false, false, false, false, true, false, false, true, true, false, false, true, true, true] (mSeq (mAsgN [12, 13] [.o (mLst mA0), .o (mB1 oDictOf (mV 3))]) (mSeq (mFor (mRng1 (mD (mB2 dAdd (mC (.int 1)) (mCallM [true, false] F_law_draw (mA (mV 2) (mA (mC (.int 2)) mA0)))))) (gN 8) (mW [false, false, false, false, false, false, false, false, true, false, false, false, false, false, true] (mSeq (mSet 14 (mCallM [true, false] F_law_draw (mA (mV 2) (mA (mC (.int 7)) mA0)))) (mSeq (mPutK 13 (mD (mB2 dIxK (mCall 0 F_law_parts mA0) (mV 14))) (mCallM [true, false] F_law_pick (mA (mV 2) (mA (mCall 0 F_law_odd mA0) mA0)))) (mApp 12 (mV 14)))))) (mSeq (mSet 9 (mD (mB2 dIxK (mFz (mLC [14] (mRng1 (mC (.int 7))) (gN 14) (mB2 (g2b (dInK false)) (mV 14) (mV 12)) (mV 14))) (mC (.int 0))))) (mIfS (mB2 (g2b dNe) (mCall 1 F_law_refused (mA (mV 13) mA0)) (mFz (mLst (mA (mD (mB2 dIxK (mCall 0 F_law_parts mA0) (mV 9))) (mA (mC (.bl true)) mA0))))) (mRet (mC (.bl false))) mNx)))))
theorem stepA {sn kk bk j : D} {a b : Int} {vs : List D} (h : Gv vs) (hp : Pl a b) : ∃ (a' b' : Int), bA (lE (.fz sn) (.fz kk) (.ow false (pl a b)) (.fz (.dic ((keys7.zip vs).map kvB))) (.fz bk) (.fz j) .no .no .no .no .no .no .no .no .no) = .ok .nx (lE (.fz sn) (.fz kk) (.ow false (pl a' b')) (.fz (.dic ((keys7.zip vs).map kvB))) (.fz bk) .no .no .no .no .no .no .no .no .no .no) ∧ Pl a' b' := by
  have B0 := bd0 h
  have M0 : (mAsgN [12, 13] [.o (mLst mA0), .o (mB1 oDictOf (mV 3))]) (lE (.fz sn) (.fz kk) (.ow false (pl a b)) (.fz (.dic ((keys7.zip vs).map kvB))) (.fz bk) (.fz j) .no .no .no .no .no .no .no .no .no) = .ok .nx (lE (.fz sn) (.fz kk) (.ow false (pl a b)) (.fz (.dic ((keys7.zip vs).map kvB))) (.fz bk) (.fz j) .no .no .no .no .no .no (.ow false (.lst (([] : List Int).map .int))) (.ow false (.dic ((keys7.zip vs).map kvB))) .no) :=
    asgN_ok (itmO (lst_ok (ds := []) rfl rfl z0') (itmO (b1_ok rfl rfl) rfl)) rfl
  generalize hR : AN.Slot.fz (.dic ((keys7.zip vs).map kvB)) = R at *
  obtain ⟨v, a1, b1, P1, v0, v2, p1⟩ := draw_at (e := lE (.fz sn) (.fz kk) (.ow false (pl a b)) R (.fz bk) (.fz j) .no .no .no .no .no .no (.ow false (.lst (([] : List Int).map .int))) (.ow false (.dic ((keys7.zip vs).map kvB))) .no) (i := 2) (k := false) (n := 2) hp (by omega) (by omega) rfl
  have L2 : ∃ (is : List Int) (ws : List D) (a2 b2 : Int), (mFor (mRng1 (mD (mB2 dAdd (mC (.int 1)) (mCallM [true, false] F_law_draw (mA (mV 2) (mA (mC (.int 2)) mA0)))))) (gN 8) (mW [false, false, false, false, false, false, false, false, true, false, false, false, false, false, true] (mSeq (mSet 14 (mCallM [true, false] F_law_draw (mA (mV 2) (mA (mC (.int 7)) mA0)))) (mSeq (mPutK 13 (mD (mB2 dIxK (mCall 0 F_law_parts mA0) (mV 14))) (mCallM [true, false] F_law_pick (mA (mV 2) (mA (mCall 0 F_law_odd mA0) mA0)))) (mApp 12 (mV 14)))))) (lE (.fz sn) (.fz kk) (.ow false (pl a b)) R (.fz bk) (.fz j) .no .no .no .no .no .no (.ow false (.lst (([] : List Int).map .int))) (.ow false (.dic ((keys7.zip vs).map kvB))) .no) = .ok .nx (lE (.fz sn) (.fz kk) (.ow false (pl a2 b2)) R (.fz bk) (.fz j) .no .no .no .no .no .no (.ow false (.lst (is.map .int))) (.ow false (.dic ((keys7.zip ws).map kvB))) .no) ∧ Bd is ws ∧ Pl a2 b2 ∧ is ≠ [] ∧ is.length ≤ 2 := by
    obtain ⟨n1, w1, a2, b2, _, S1, B1, p2⟩ := stepA2 (sn := .fz sn) (kk := .fz kk) (bk := .fz bk) (s5 := .fz j) (rs := R) (j := .int (0 + (0 : Nat))) B0 p1 (by simp)
    have ad : dAdd (.int 1) (.int v) = some (.int (1 + v)) := rfl
    by_cases q : v = 0
    · subst q
      refine ⟨[] ++ [(n1 : Int)], w1, a2, b2, for_ok (rng_len (n := 1) (d_ok (b2_ok rfl (callM_ok' rfl P1) ad)) rfl (by omega)) ((loop_go rfl S1).trans rfl), B1, p2, by simp, by simp⟩
    · obtain rfl : v = 1 := by omega
      obtain ⟨n2, w2, a3, b3, _, S2, B2, p3⟩ := stepA2 (sn := .fz sn) (kk := .fz kk) (bk := .fz bk) (s5 := .fz j) (rs := R) (j := .int (0 + (1 : Nat))) B1 p2 (by simp)
      exact ⟨[] ++ [(n1 : Int)] ++ [(n2 : Int)], w2, a3, b3, for_ok (rng_len (n := 2) (d_ok (b2_ok rfl (callM_ok' rfl P1) ad)) rfl (by omega)) ((loop_go rfl S1).trans ((loop_go rfl S2).trans rfl)), B2, p3, by simp, by simp⟩
  obtain ⟨is, ws, a2, b2, L2, B, p2, ne, il⟩ := L2
  have LC := lcF (vs := [14]) (g := gN 14) (mt := (mB2 (g2b (dInK false)) (mV 14) (mV 12))) (me := mV 14) (E := lE (.fz sn) (.fz kk) (.ow false (pl a2 b2)) R (.fz bk) (.fz j) .no .no .no .no .no .no (.ow false (.lst (is.map .int))) (.ow false (.dic ((keys7.zip ws).map kvB))) .no) (h := fun n : Nat => D.int (0 + (n : Nat))) (h' := fun n : Nat => D.int (0 + (n : Nat))) (p := fun n : Nat => decide ((n : Int) ∈ is))
    (fun n => lE (.fz sn) (.fz kk) (.ow false (pl a2 b2)) R (.fz bk) (.fz j) .no .no .no .no .no .no (.ow false (.lst (is.map .int))) (.ow false (.dic ((keys7.zip ws).map kvB))) (.fz (.int (0 + (n : Nat))))) (xs := List.range 7) (acc := []) (fun n hn => ⟨rfl, b2v_ok (a := .int (0 + (n : Nat))) (b := .lst (is.map .int)) rfl rfl rfl rfl (g2b_ok (by
      have hz : dle 8 (D.lst (is.map .int)) = true := by
        show (is.map D.int).all (dle 7) = true
        rw [List.all_map, List.all_eq_true]; exact fun _ _ => rfl
      show (inD (.int (0 + (n : Nat))) (.lst (is.map .int))).map _ = _
      have : inD (.int (0 + (n : Nat))) (.lst (is.map .int)) = some (decide ((n : Int) ∈ is)) := by
        show (if (dle 8 (D.int (0 + (n : Nat))) && dle 8 (D.lst (is.map .int))) = true then some ((is.map D.int).any fun y => deqv y (.int (0 + (n : Nat)))) else none) = _
        rw [if_pos (by rw [hz]; rfl)]
        congr 1
        rw [Bool.eq_iff_iff, List.any_eq_true, decide_eq_true_iff]
        constructor
        · rintro ⟨y, hy, e⟩
          obtain ⟨i, hi, rfl⟩ := List.mem_map.mp hy
          have e : (i == 0 + (n : Int)) = true := e
          have := beq_iff_eq.mp e
          rw [show (n : Int) = i by omega]; exact hi
        · intro hi
          refine ⟨.int n, List.mem_map_of_mem hi, ?_⟩
          show ((n : Int) == 0 + (n : Int)) = true
          rw [beq_iff_eq]; omega
      rw [this]; rfl)), fun _ => rfl, rfl⟩)
  obtain ⟨i0, hi0⟩ : ∃ i, i ∈ is := by
    cases is with
    | nil => exact absurd rfl ne
    | cons i _ => exact ⟨i, by simp⟩
  obtain ⟨l, r, hlr⟩ : ∃ l r, (List.range 7).filter (fun n : Nat => decide ((n : Int) ∈ is)) = l :: r := by
    cases q : (List.range 7).filter (fun n : Nat => decide ((n : Int) ∈ is)) with
    | cons l r => exact ⟨l, r, rfl⟩
    | nil =>
      obtain ⟨r0, r1⟩ := B.r i0 hi0
      have := List.filter_eq_nil_iff.mp q i0.toNat (List.mem_range.mpr (by omega))
      rw [decide_eq_true_iff, show ((i0.toNat : Nat) : Int) = i0 by omega] at this
      exact absurd hi0 this
  rw [hlr] at LC
  rw [List.range_eq_range'] at hlr
  obtain ⟨_, k, hk, hb⟩ := least_ok (p := fun n : Nat => decide ((n : Int) ∈ is)) keys7 ws 0 B.l.symm (fun i k v hk hv => by
    have := B.v i k v hk hv
    rw [this, Nat.zero_add]) l r hlr
  rw [Nat.sub_zero] at hk
  have RF := refused_ok B.l hb B.o
  have cp := fun e => callO0 (e := e) parts_ok
  have ix : dIxK (.lst (keys7.map .str)) (.int (0 + (l : Nat))) = some (.str k) := lstIx (n := l) (by omega) (by rw [List.getElem?_map, hk]; rfl)
  have ix0 : dIxK (.lst ([] ++ (l :: r).map fun n : Nat => D.int (0 + (n : Nat)))) (.int 0) = some (.int (0 + (l : Nat))) := lstIx (n := 0) rfl rfl
  have nee : dNe (.lst [.str k, .bl true]) (.lst [.str k, .bl true]) = some (.bl false) := ne_refl rfl
  generalize ([] ++ (l :: r).map fun n : Nat => D.int (0 + (n : Nat))) = LR at LC ix0
  generalize D.int (0 + (l : Nat)) = il' at *
  generalize keys7.map D.str = KS at *
  have S9 : (mSet 9 (mD (mB2 dIxK (mFz (mLC [14] (mRng1 (mC (.int 7))) (gN 14) (mB2 (g2b (dInK false)) (mV 14) (mV 12)) (mV 14))) (mC (.int 0))))) (lE (.fz sn) (.fz kk) (.ow false (pl a2 b2)) R (.fz bk) (.fz j) .no .no .no .no .no .no (.ow false (.lst (is.map .int))) (.ow false (.dic ((keys7.zip ws).map kvB))) .no) = .ok .nx (lE (.fz sn) (.fz kk) (.ow false (pl a2 b2)) R (.fz bk) (.fz j) .no .no .no (.fz il') .no .no (.ow false (.lst (is.map .int))) (.ow false (.dic ((keys7.zip ws).map kvB))) .no) :=
    set_ok (d_ok (b2_ok (fz_ok (o := .lst LR) (comp_ok (ds := nums 0 7) (rng_len (n := 7) rfl rfl (by omega)) (by decide) LC rfl)) rfl ix0)) rfl
  generalize (keys7.zip ws).map kvB = K1 at *
  have cr : ∀ s9 s12, callP 1 F_law_refused [.sl 13] (lE (.fz sn) (.fz kk) (.ow false (pl a2 b2)) R (.fz bk) (.fz j) .no .no .no s9 .no .no s12 (.ow false (.dic K1)) .no) = .ok (.ow (.lst [.str k, .bl true])) (lE (.fz sn) (.fz kk) (.ow false (pl a2 b2)) R (.fz bk) (.fz j) .no .no .no s9 .no .no s12 (.fz (.dic K1)) .no) := fun s9 s12 => callP_ow (ds := [.dic K1]) rfl rfl RF
  refine ⟨a2, b2, ?_, p2⟩
  exact w_nx (e1 := lE (.fz sn) (.fz kk) (.ow false (pl a2 b2)) R (.fz bk) (.fz j) .no .no .no (.fz il') .no .no (.ow false (.lst (is.map .int))) (.fz (.dic K1)) .no) (seq_nx M0 (seq_nx L2 (seq_nx S9 (ifs_skip (b2_ok (call_ok rfl (cr _ _)) (fz_ok (o := .lst [.str k, .bl true]) (lst_ok (ds := [.str k, .bl true]) (a_ok (d_ok (b2_ok (call_ok rfl (cp _)) rfl ix)) (a_ok rfl rfl)) rfl z2')) (g2b_ok nee)))))) rfl
end G

set_option Elab.async false
set_option maxRecDepth 100000
set_option linter.unusedVariables false
set_option linter.unusedSimpArgs false
namespace G
open PySem L2 AN
/-! the law's other loops -/
def vals10 : List D := [.non, .int 0, .bl true, .str "", .str "orders", .str "own ", .lst [.str "own"], .tup [.str "order"], .str "both", .str "first"]
theorem vals_all : (vals10.all fun d => !AN.isObj d && (!partB d && (!rankB d && shOk d))) = true := by decide +kernel
theorem vals_ok {d : D} (h : d ∈ vals10) : AN.isObj d = false ∧ partB d = false ∧ rankB d = false ∧ ∃ s : Str, dReprK d = some (.str s) := by
  have := List.all_eq_true.mp vals_all d h
  simp only [Bool.and_eq_true, Bool.not_eq_true'] at this
  obtain ⟨h1, h2, h3, h4⟩ := this
  refine ⟨h1, h2, h3, _, dReprK_ok h4 fun kvs e => ?_⟩
  subst e
  cases h4
theorem keys_all : (keys7.all fun k => !rankB (.str k) && shOk (.str k)) = true := by decide +kernel
theorem keys_ok {k : Str} (h : k ∈ keys7) : rankB (.str k) = false ∧ ∃ s : Str, dReprK (.str k) = some (.str s) := by
  have := List.all_eq_true.mp keys_all k h
  simp only [Bool.and_eq_true, Bool.not_eq_true'] at this
  exact ⟨this.1, _, dReprK_ok this.2 fun kvs e => by cases e⟩
abbrev bB6 : M Fl := (mW [false, false, false, false, false, false, true, false, false, false, true] (mSeq (mFor (mRng1 (mC (.int 2))) (gN 10) (mW [false, false, false, false, false, false, false, false, false, false, true] (mIfS (mB2 (g2b dNe) (mCall 4 F_law_asked (mA (mV 4) (mA (mV 10) (mA (mV 6) (mA (mC .non) mA0))))) (mFz (mLst (mA (mD (mB1 dReprK (mV 6))) mA0)))) (mRet (mC (.bl false))) mNx))) (mIfS (mB2 (g2b dNe) (mCall 4 F_law_asked (mA (mV 4) (mA (mC (.int 2)) (mA (mV 6) (mA (mCallM [true, false] F_law_pick (mA (mV 2) (mA (mFz (mLst (mA (mC (.str "own")) (mA (mC (.bl true)) (mA (mC (.str "first")) mA0))))) mA0))) mA0))))) (mFz (mLst (mA (mD (mB1 dReprK (mV 6))) mA0)))) (mRet (mC (.bl false))) mNx)))
abbrev bC7 : M Fl := (mW [false, false, false, false, false, false, false, true, false, false, false, true] (mSeq (mIfS (mB2 (g2b dNe) (mCall 4 F_law_asked (mA (mV 4) (mA (mC (.int 1)) (mA (mV 7) (mA (mC .non) mA0))))) (mFz (mLst (mA (mD (mB1 dReprK (mV 7))) mA0)))) (mRet (mC (.bl false))) mNx) (mFor (mIt (mCall 0 F_law_odd mA0)) (gN 11) (mW [false, false, false, false, false, false, false, false, false, false, false, true] (mIfS (mB2 (g2b dNe) (mCall 4 F_law_asked (mA (mV 4) (mA (mC (.int 2)) (mA (mV 7) (mA (mV 11) mA0))))) (mFz (mLst (mA (mD (mB1 dReprK (mV 7))) mA0)))) (mRet (mC (.bl false))) mNx)))))
theorem ne1 (s : Str) : dNe (.lst [.str s]) (.lst [.str s]) = some (.bl false) := ne_refl rfl
theorem stepB {s0 s1 s3 : AN.Slot} {a b : Int} {vs : List D} {rw v : D} (hv : v ∈ vals10) (hp : Pl a b) : ∃ (a' b' : Int), bB6 (lE s0 s1 (.ow false (pl a b)) s3 (.fz (bkO vs rw)) .no (.fz v) .no .no .no .no .no .no .no .no) = .ok .nx (lE s0 s1 (.ow false (pl a' b')) s3 (.fz (bkO vs rw)) .no .no .no .no .no .no .no .no .no .no) ∧ Pl a' b' := by
  obtain ⟨ho, hpb, hr, s, hs⟩ := vals_ok hv
  have A0 := fun e => callO4 (e := e) (asked0 (vs := vs) (rw := rw) (w := .non) hpb ho hs)
  have A1 := fun e => callO4 (e := e) (asked1 (vs := vs) (rw := rw) (w := .non) hr ho hs)
  obtain ⟨c, a1, b1, P, hc, p1⟩ := pick_lst (s := [.str "own", .bl true, .str "first"]) hp (by decide) (by decide)
  have A2 := fun e => callO4 (e := e) (asked2 (vs := vs) (rw := rw) (w := c) (changed_x1 hpb ho) hs)
  have ne := ne1 s
  have P := pick_at (e := lE s0 s1 (.ow false (pl a b)) s3 (.fz (bkO vs rw)) .no (.fz v) .no .no .no .no .no .no .no .no) (i := 2) (k := false) P rfl
  generalize bkO vs rw = bk at *
  refine ⟨a1, b1, ?_, p1⟩
  have LB : (mFor (mRng1 (mC (.int 2))) (gN 10) (mW [false, false, false, false, false, false, false, false, false, false, true] (mIfS (mB2 (g2b dNe) (mCall 4 F_law_asked (mA (mV 4) (mA (mV 10) (mA (mV 6) (mA (mC .non) mA0))))) (mFz (mLst (mA (mD (mB1 dReprK (mV 6))) mA0)))) (mRet (mC (.bl false))) mNx))) (lE s0 s1 (.ow false (pl a b)) s3 (.fz bk) .no (.fz v) .no .no .no .no .no .no .no .no) = .ok .nx (lE s0 s1 (.ow false (pl a b)) s3 (.fz bk) .no (.fz v) .no .no .no .no .no .no .no .no) := by
    refine for_ok (ds := [.int 0, .int 1]) rfl (loop_same fun d hd => ?_)
    simp only [List.mem_cons, List.not_mem_nil, or_false] at hd
    rcases hd with rfl | rfl
    · exact ⟨_, rfl, .inl (w_nx (ifs_skip (b2_ok (call_ok (a_ok rfl (a_ok rfl (a_ok rfl (a_ok rfl rfl)))) (A0 _)) (fz_ok (o := .lst [.str s]) (lst_ok (ds := [.str s]) (a_ok (d_ok (b1_ok rfl hs)) rfl) rfl z1')) (g2b_ok ne))) rfl)⟩
    · exact ⟨_, rfl, .inl (w_nx (ifs_skip (b2_ok (call_ok (a_ok rfl (a_ok rfl (a_ok rfl (a_ok rfl rfl)))) (A1 _)) (fz_ok (o := .lst [.str s]) (lst_ok (ds := [.str s]) (a_ok (d_ok (b1_ok rfl hs)) rfl) rfl z1')) (g2b_ok ne))) rfl)⟩
  exact w_nx (e1 := lE s0 s1 (.ow false (pl a1 b1)) s3 (.fz bk) .no (.fz v) .no .no .no .no .no .no .no .no) (seq_nx LB (ifs_skip (b2_ok (call_ok (a_ok rfl (a_ok rfl (a_ok rfl (a_ok (callM_ok' (a_ok rfl (a_ok (fz_ok (o := .lst [.str "own", .bl true, .str "first"]) (lst_ok (ds := [.str "own", .bl true, .str "first"]) (a_ok rfl (a_ok rfl (a_ok rfl rfl))) rfl (by decide))) rfl)) P) rfl)))) (A2 _)) (fz_ok (o := .lst [.str s]) (lst_ok (ds := [.str s]) (a_ok (d_ok (b1_ok rfl hs)) rfl) rfl z1')) (g2b_ok ne)))) rfl
theorem stepC {s0 s1 s2 s3 : AN.Slot} {vs : List D} {rw : D} {k : Str} (hk : k ∈ keys7) : bC7 (lE s0 s1 s2 s3 (.fz (bkO vs rw)) .no .no (.fz (.str k)) .no .no .no .no .no .no .no) = .ok .nx (wipeB [false, false, false, false, false, false, false, true, false, false, false, true] (lE s0 s1 s2 s3 (.fz (bkO vs rw)) .no .no (.fz (.str k)) .no .no .no .no .no .no .no)) := by
  obtain ⟨hr, s, hs⟩ := keys_ok hk
  have A1 := fun e => callO4 (e := e) (asked1 (vs := vs) (rw := rw) (w := .non) hr rfl hs)
  have ne := ne1 s
  have co := fun e => callO0 (e := e) odd_ok
  have A2 := fun d (hd : d ∈ oddL) e => callO4 (e := e) (asked2 (vs := vs) (rw := rw) (w := d) (changed_x2 hk ((odd_bad hd).2 k hk) (odd_bad hd).1) hs)
  generalize bkO vs rw = bk at *
  generalize oddL = OL at *
  have LC : (mFor (mIt (mCall 0 F_law_odd mA0)) (gN 11) (mW [false, false, false, false, false, false, false, false, false, false, false, true] (mIfS (mB2 (g2b dNe) (mCall 4 F_law_asked (mA (mV 4) (mA (mC (.int 2)) (mA (mV 7) (mA (mV 11) mA0))))) (mFz (mLst (mA (mD (mB1 dReprK (mV 7))) mA0)))) (mRet (mC (.bl false))) mNx))) (lE s0 s1 s2 s3 (.fz bk) .no .no (.fz (.str k)) .no .no .no .no .no .no .no) = .ok .nx (lE s0 s1 s2 s3 (.fz bk) .no .no (.fz (.str k)) .no .no .no .no .no .no .no) := by
    refine for_ok (ds := OL) (it_ok (call_ok rfl (co _)) rfl) (loop_same fun d hd => ?_)
    exact ⟨_, rfl, .inl (w_nx (ifs_skip (b2_ok (call_ok (a_ok rfl (a_ok rfl (a_ok rfl (a_ok rfl rfl)))) (A2 d hd _)) (fz_ok (o := .lst [.str s]) (lst_ok (ds := [.str s]) (a_ok (d_ok (b1_ok rfl hs)) rfl) rfl z1')) (g2b_ok ne))) rfl)⟩
  exact w_nx (e1 := lE s0 s1 s2 s3 (.fz bk) .no .no (.fz (.str k)) .no .no .no .no .no .no .no) (seq_nx (ifs_skip (b2_ok (call_ok (a_ok rfl (a_ok rfl (a_ok rfl (a_ok rfl rfl)))) (A1 _)) (fz_ok (o := .lst [.str s]) (lst_ok (ds := [.str s]) (a_ok (d_ok (b1_ok rfl hs)) rfl) rfl z1')) (g2b_ok ne))) LC) rfl
abbrev bLaw : M Fl := (mW [false, true, true, true, true, true, true, true, true, true, true, true, true, true, true] (mSeq (mSetO 2 (mCallO 2 F_law_pool (mA (mV 0) (mA (mV 1) mA0)))) (mSeq (mSet 3 (mCallM [true] F_law_rules (mA (mV 2) mA0))) (mSeq (mSet 4 (mCall 1 F_law_made_book (mA (mV 3) mA0))) (mSeq (mFor (mRng1 (mC (.int 6))) (gN 5) (mW [false, false, false, false, false, true, false, false, true, true, false, false, true, true, true] (mSeq (mAsgN [12, 13] [.o (mLst mA0), .o (mB1 oDictOf (mV 3))]) (mSeq (mFor (mRng1 (mD (mB2 dAdd (mC (.int 1)) (mCallM [true, false] F_law_draw (mA (mV 2) (mA (mC (.int 2)) mA0)))))) (gN 8) (mW [false, false, false, false, false, false, false, false, true, false, false, false, false, false, true] (mSeq (mSet 14 (mCallM [true, false] F_law_draw (mA (mV 2) (mA (mC (.int 7)) mA0)))) (mSeq (mPutK 13 (mD (mB2 dIxK (mCall 0 F_law_parts mA0) (mV 14))) (mCallM [true, false] F_law_pick (mA (mV 2) (mA (mCall 0 F_law_odd mA0) mA0)))) (mApp 12 (mV 14)))))) (mSeq (mSet 9 (mD (mB2 dIxK (mFz (mLC [14] (mRng1 (mC (.int 7))) (gN 14) (mB2 (g2b (dInK false)) (mV 14) (mV 12)) (mV 14))) (mC (.int 0))))) (mIfS (mB2 (g2b dNe) (mCall 1 F_law_refused (mA (mV 13) mA0)) (mFz (mLst (mA (mD (mB2 dIxK (mCall 0 F_law_parts mA0) (mV 9))) (mA (mC (.bl true)) mA0))))) (mRet (mC (.bl false))) mNx)))))) (mSeq (mFor (mIt (mFz (mLst (mA (mC .non) (mA (mC (.int 0)) (mA (mC (.bl true)) (mA (mC (.str "")) (mA (mC (.str "orders")) (mA (mC (.str "own ")) (mA (mFz (mLst (mA (mC (.str "own")) mA0))) (mA (mTup (mA (mC (.str "order")) mA0)) (mA (mC (.str "both")) (mA (mC (.str "first")) mA0))))))))))))) (gN 6) (mW [false, false, false, false, false, false, true, false, false, false, true] (mSeq (mFor (mRng1 (mC (.int 2))) (gN 10) (mW [false, false, false, false, false, false, false, false, false, false, true] (mIfS (mB2 (g2b dNe) (mCall 4 F_law_asked (mA (mV 4) (mA (mV 10) (mA (mV 6) (mA (mC .non) mA0))))) (mFz (mLst (mA (mD (mB1 dReprK (mV 6))) mA0)))) (mRet (mC (.bl false))) mNx))) (mIfS (mB2 (g2b dNe) (mCall 4 F_law_asked (mA (mV 4) (mA (mC (.int 2)) (mA (mV 6) (mA (mCallM [true, false] F_law_pick (mA (mV 2) (mA (mFz (mLst (mA (mC (.str "own")) (mA (mC (.bl true)) (mA (mC (.str "first")) mA0))))) mA0))) mA0))))) (mFz (mLst (mA (mD (mB1 dReprK (mV 6))) mA0)))) (mRet (mC (.bl false))) mNx)))) (mFor (mIt (mCall 0 F_law_parts mA0)) (gN 7) (mW [false, false, false, false, false, false, false, true, false, false, false, true] (mSeq (mIfS (mB2 (g2b dNe) (mCall 4 F_law_asked (mA (mV 4) (mA (mC (.int 1)) (mA (mV 7) (mA (mC .non) mA0))))) (mFz (mLst (mA (mD (mB1 dReprK (mV 7))) mA0)))) (mRet (mC (.bl false))) mNx) (mFor (mIt (mCall 0 F_law_odd mA0)) (gN 11) (mW [false, false, false, false, false, false, false, false, false, false, false, true] (mIfS (mB2 (g2b dNe) (mCall 4 F_law_asked (mA (mV 4) (mA (mC (.int 2)) (mA (mV 7) (mA (mV 11) mA0))))) (mFz (mLst (mA (mD (mB1 dReprK (mV 7))) mA0)))) (mRet (mC (.bl false))) mNx))))))))))))
theorem body_ok {ns : List Int} (hl : ns.length ≤ 63) {k : Int} (k0 : 0 ≤ k) (k1 : k < 8) : bLaw (lE (.fz (scriptD ns)) (.fz (.int k)) .no .no .no .no .no .no .no .no .no .no .no .no .no) = .ok .nx (lE (.fz (scriptD ns)) .no .no .no .no .no .no .no .no .no .no .no .no .no .no) := by
  obtain ⟨a, b, P0, p0⟩ := pool_ok (ns := ns) (k := k) k0 (by omega) hl
  have c0 := fun e => callO2 (e := e) P0
  obtain ⟨vs, a1, b1, G, R, p1⟩ := rules_at p0
  obtain ⟨ws, rw, MB⟩ := made_ok G
  have mb := fun e => callN1 (e := e) MB
  have cp := fun e => callO0 (e := e) parts_ok
  generalize scriptD ns = sn at *
  have R := R (lE (.fz sn) (.fz (.int k)) (.ow false (pl a b)) .no .no .no .no .no .no .no .no .no .no .no .no) 2 false rfl
  obtain ⟨⟨a2, b2⟩, LA, p2⟩ := loop_inv (σ := Int × Int) (fun s => lE (.fz sn) (.fz (.int k)) (.ow false (pl s.1 s.2)) (.fz (.dic ((keys7.zip vs).map kvB))) (.fz (bkO ws rw)) .no .no .no .no .no .no .no .no .no .no) (fun s => Pl s.1 s.2) (g := gN 5) (body := bA) (ds := nums 0 6) (s := (a1, b1)) p1 (fun d hd s hs => by
    obtain ⟨a', b', h1, h2⟩ := stepA (sn := sn) (kk := .int k) (bk := bkO ws rw) (j := d) G hs
    exact ⟨_, (a', b'), rfl, h1, h2⟩)
  obtain ⟨⟨a3, b3⟩, LB, p3⟩ := loop_inv (σ := Int × Int) (fun s => lE (.fz sn) (.fz (.int k)) (.ow false (pl s.1 s.2)) (.fz (.dic ((keys7.zip vs).map kvB))) (.fz (bkO ws rw)) .no .no .no .no .no .no .no .no .no .no) (fun s => Pl s.1 s.2) (g := gN 6) (body := bB6) (ds := vals10) (s := (a2, b2)) p2 (fun d hd s hs => by
    obtain ⟨a', b', h1, h2⟩ := stepB (s0 := .fz sn) (s1 := .fz (.int k)) (s3 := .fz (.dic ((keys7.zip vs).map kvB))) (vs := ws) (rw := rw) hd hs
    exact ⟨_, (a', b'), rfl, h1, h2⟩)
  have LC := loop_same (g := gN 7) (body := bC7) (ds := keys7.map .str) (e := lE (.fz sn) (.fz (.int k)) (.ow false (pl a3 b3)) (.fz (.dic ((keys7.zip vs).map kvB))) (.fz (bkO ws rw)) .no .no .no .no .no .no .no .no .no .no) (fun d hd => by
    obtain ⟨p, hp, rfl⟩ := List.mem_map.mp hd
    exact ⟨_, rfl, .inl (stepC hp)⟩)
  have V10 : ∀ (s0 s1 s2 s3 s4 : AN.Slot), (mIt (mFz (mLst (mA (mC .non) (mA (mC (.int 0)) (mA (mC (.bl true)) (mA (mC (.str "")) (mA (mC (.str "orders")) (mA (mC (.str "own ")) (mA (mFz (mLst (mA (mC (.str "own")) mA0))) (mA (mTup (mA (mC (.str "order")) mA0)) (mA (mC (.str "both")) (mA (mC (.str "first")) mA0))))))))))))) (lE s0 s1 s2 s3 s4 .no .no .no .no .no .no .no .no .no .no) = .ok vals10 (lE s0 s1 s2 s3 s4 .no .no .no .no .no .no .no .no .no .no) := fun s0 s1 s2 s3 s4 =>
    it_ok (fz_ok (o := .lst vals10) (lst_ok (ds := vals10) (a_ok rfl (a_ok rfl (a_ok rfl (a_ok rfl (a_ok rfl (a_ok rfl (a_ok (fz_ok (o := .lst [.str "own"]) (lst_ok (a_ok rfl rfl) rfl z1')) (a_ok (tup_ok (ds := [.str "order"]) (a_ok rfl rfl) rfl z1') (a_ok rfl (a_ok rfl rfl)))))))))) rfl (by decide))) rfl
  generalize (keys7.zip vs).map kvB = K0 at *
  generalize bkO ws rw = bk at *
  generalize keys7.map D.str = KS at *
  generalize vals10 = VS at *
  exact w_nx (e1 := lE (.fz sn) (.fz (.int k)) (.ow false (pl a3 b3)) (.fz (.dic K0)) (.fz bk) .no .no .no .no .no .no .no .no .no .no) (seq_nx (setO_ok (callO_ok rfl (c0 _)) rfl) (seq_nx (set_ok (callM_ok' rfl R) rfl) (seq_nx (set_ok (call_ok rfl (mb _)) rfl) (seq_nx (for_ok (rng_len (n := 6) rfl rfl (by omega)) LA) (seq_nx (for_ok (V10 _ _ _ _ _) LB) (for_ok (it_ok (call_ok rfl (cp _)) rfl) LC)))))) rfl
theorem law_plain : ∀ ns : List Int, ns.length ≤ 63 → ∃ as, F_law [.fz (scriptD ns)] = .ok (.fz (.bl true)) as := by
  intro ns hl
  obtain ⟨n, hn⟩ : ∃ n : Int, n = (ns.length : Nat) := ⟨_, rfl⟩
  have dl : dLen (scriptD ns) = some (.int n) := by rw [hn]; simp [dLen, scriptD]
  have hm : ∃ m : Int, 1 ≤ m ∧ m ≤ 8 ∧ dMax2 (.int 1) (.int (if (8 : Int) < n then 8 else n)) = some (.int m) := by
    refine ⟨_, ?_, ?_, rfl⟩ <;> (repeat' split) <;> omega
  obtain ⟨m, m0, m1, mx⟩ := hm
  have mn : dMin2 (.int n) (.int 8) = some (.int (if (8 : Int) < n then 8 else n)) := rfl
  have hB := fun (k : Int) (h0 : 0 ≤ k) (h1 : k < 8) => body_ok (ns := ns) hl h0 h1
  generalize scriptD ns = sn at *
  refine ⟨[.fz sn], runF_ok (n := 14) (m := m_law) (args := [.fz sn]) (seq_nx (for_ok (rng_len (n := m.toNat) (d_ok (b2_ok rfl (d_ok (b2_ok (d_ok (b1_ok rfl dl)) rfl mn)) mx)) (by omega) (by omega)) (loop_same (g := gN 1) fun d hd => ?_)) rfl)⟩
  obtain ⟨k, hk, rfl⟩ := List.mem_map.mp hd
  have := List.mem_range.mp hk
  exact ⟨_, rfl, .inl (hB _ (by omega) (by omega))⟩
end G

set_option Elab.async false
set_option maxRecDepth 100000
set_option linter.unusedVariables false
namespace G
open PySem L2 AN PySem.ANX
set_option maxHeartbeats 0 in
theorem all_mk {P : Program} {w : World} {K : PySem.W.Frag} {h : Heap} {mg : Str → Option Value} {fa : Addr} (X : K.In h) (G : h.Ns mainGlobals mg) (hfa : mg "law" = some (.ref fa))
    {A_BadPart : Addr}
    {A_Book : Addr}
    {A_NamesError : Addr}
    {f0 : Addr} {od0 an0 : Option Addr} {sl0 : Array (Option Value)} {oc0 kV0 dc0 pm0 cd0 ct0 : Value}
    {f1 : Addr} {od1 an1 : Option Addr} {sl1 : Array (Option Value)} {oc1 kV1 dc1 pm1 cd1 ct1 : Value}
    {f2 : Addr} {od2 an2 : Option Addr} {sl2 : Array (Option Value)} {oc2 dc2 pm2 cd2 ct2 : Value}
    {KD2 : Addr}
    {kt2_0 : Tok}
    {kt2_1 : Tok}
    {kt2_2 : Tok}
    {kt2_3 : Tok}
    {kt2_4 : Tok}
    {f3 : Addr} {od3 an3 : Option Addr} {sl3 : Array (Option Value)} {oc3 kV3 dc3 pm3 cd3 ct3 : Value}
    {f4 : Addr} {od4 an4 : Option Addr} {sl4 : Array (Option Value)} {oc4 kV4 dc4 pm4 cd4 ct4 : Value}
    {f5 : Addr} {od5 an5 : Option Addr} {sl5 : Array (Option Value)} {oc5 kV5 dc5 pm5 cd5 ct5 : Value}
    {f6 : Addr} {od6 an6 : Option Addr} {sl6 : Array (Option Value)} {oc6 kV6 dc6 pm6 cd6 ct6 : Value}
    {f7 : Addr} {od7 an7 : Option Addr} {sl7 : Array (Option Value)} {oc7 kV7 dc7 pm7 cd7 ct7 : Value}
    {f8 : Addr} {od8 an8 : Option Addr} {sl8 : Array (Option Value)} {oc8 kV8 dc8 pm8 cd8 ct8 : Value}
    {f9 : Addr} {od9 an9 : Option Addr} {sl9 : Array (Option Value)} {oc9 kV9 dc9 pm9 cd9 ct9 : Value}
    {f10 : Addr} {od10 an10 : Option Addr} {sl10 : Array (Option Value)} {oc10 kV10 dc10 pm10 cd10 ct10 : Value}
    {f11 : Addr} {od11 an11 : Option Addr} {sl11 : Array (Option Value)} {oc11 kV11 dc11 pm11 cd11 ct11 : Value}
    {f12 : Addr} {od12 an12 : Option Addr} {sl12 : Array (Option Value)} {oc12 kV12 dc12 pm12 cd12 ct12 : Value}
    {f13 : Addr} {od13 an13 : Option Addr} {sl13 : Array (Option Value)} {oc13 kV13 dc13 pm13 cd13 ct13 : Value}
    {f14 : Addr} {od14 an14 : Option Addr} {sl14 : Array (Option Value)} {oc14 kV14 dc14 pm14 cd14 ct14 : Value}
    {f15 : Addr} {od15 an15 : Option Addr} {sl15 : Array (Option Value)} {oc15 kV15 dc15 pm15 cd15 ct15 : Value}
    {f16 : Addr} {od16 an16 : Option Addr} {sl16 : Array (Option Value)} {oc16 kV16 dc16 pm16 cd16 ct16 : Value}
    {nm_BadPart qn_BadPart : Str} {N_BadPart : Addr} {bs_BadPart : List Value} {sn_BadPart : List Str} {sub_BadPart : List Value} {ab_BadPart : Bool} {col_BadPart : Option Bool} {dd_BadPart : Option Addr} {m0_BadPart m1_BadPart m2_BadPart m3_BadPart m5_BadPart : Option Value}
    {at_PARTS n_PARTS : Nat} {en_PARTS : Array DictEntry}
    {at_GROUPS : Addr}
    (g_BadPart : PySem.W.nsIn K mainGlobals "BadPart" = some (some (.ref A_BadPart)))
    (g_Book : PySem.W.nsIn K mainGlobals "Book" = some (some (.ref A_Book)))
    (g_NamesError : PySem.W.nsIn K mainGlobals "NamesError" = some (some (.ref A_NamesError)))
    (a0 : PySem.W.nsIn K mainGlobals "is_book_part" = some (some (.ref f0)))
    (l0 : K.lookup f0 = some ⟨oc0, od0, .func (PySem.W.fnOf "is_book_part" "is_book_part" (defArgs s_is_book_part) (defBody s_is_book_part) (defScope s_is_book_part) .none kV0 dc0 pm0 an0 cd0 ct0), sl0⟩)
    (c0 : PySem.W.codeIn K cd0 "is_book_part" = true)
    (k0 : PySem.W.keepIn K (.ref f0) = true)
    (a1 : PySem.W.nsIn K mainGlobals "is_value" = some (some (.ref f1)))
    (l1 : K.lookup f1 = some ⟨oc1, od1, .func (PySem.W.fnOf "is_value" "is_value" (defArgs s_is_value) (defBody s_is_value) (defScope s_is_value) .none kV1 dc1 pm1 an1 cd1 ct1), sl1⟩)
    (c1 : PySem.W.codeIn K cd1 "is_value" = true)
    (k1 : PySem.W.keepIn K (.ref f1) = true)
    (a2 : PySem.W.findIn K (.ref A_Book) "__init__" = some (some (.ref f2)))
    (l2 : K.lookup f2 = some ⟨oc2, od2, .func (PySem.W.fnOf "__init__" "Book.__init__" (defArgs s_Book_init) (defBody s_Book_init) (defScope s_Book_init) .none (.ref KD2) dc2 pm2 an2 cd2 ct2), sl2⟩)
    (c2 : PySem.W.codeIn K cd2 "Book.__init__" = true)
    (k2 : PySem.W.keepIn K (.ref f2) = true)
    (kw2_0 : PySem.W.nsIn K KD2 "order" = some (some (.str "own named all" kt2_0)))
    (kw2_1 : PySem.W.nsIn K KD2 "given" = some (some (.str "own" kt2_1)))
    (kw2_2 : PySem.W.nsIn K KD2 "alls" = some (some (.str "use" kt2_2)))
    (kw2_3 : PySem.W.nsIn K KD2 "bodies" = some (some (.str "ahead" kt2_3)))
    (kw2_4 : PySem.W.nsIn K KD2 "spreads" = some (some (.str "member" kt2_4)))
    (kw2_5 : PySem.W.nsIn K KD2 "near" = some (some (.bool true)))
    (kw2_6 : PySem.W.nsIn K KD2 "marks" = some (some (.bool false)))
    (a3 : PySem.W.findIn K (.ref A_Book) "__getitem__" = some (some (.ref f3)))
    (l3 : K.lookup f3 = some ⟨oc3, od3, .func (PySem.W.fnOf "__getitem__" "Book.__getitem__" (defArgs s_Book_getitem) (defBody s_Book_getitem) (defScope s_Book_getitem) .none kV3 dc3 pm3 an3 cd3 ct3), sl3⟩)
    (c3 : PySem.W.codeIn K cd3 "Book.__getitem__" = true)
    (k3 : PySem.W.keepIn K (.ref f3) = true)
    (a4 : PySem.W.findIn K (.ref A_Book) "rank" = some (some (.ref f4)))
    (l4 : K.lookup f4 = some ⟨oc4, od4, .func (PySem.W.fnOf "rank" "Book.rank" (defArgs s_Book_rank) (defBody s_Book_rank) (defScope s_Book_rank) .none kV4 dc4 pm4 an4 cd4 ct4), sl4⟩)
    (c4 : PySem.W.codeIn K cd4 "Book.rank" = true)
    (k4 : PySem.W.keepIn K (.ref f4) = true)
    (a5 : PySem.W.findIn K (.ref A_Book) "changed" = some (some (.ref f5)))
    (l5 : K.lookup f5 = some ⟨oc5, od5, .func (PySem.W.fnOf "changed" "Book.changed" (defArgs s_Book_changed) (defBody s_Book_changed) (defScope s_Book_changed) .none kV5 dc5 pm5 an5 cd5 ct5), sl5⟩)
    (c5 : PySem.W.codeIn K cd5 "Book.changed" = true)
    (k5 : PySem.W.keepIn K (.ref f5) = true)
    (a6 : PySem.W.nsIn K mainGlobals "_law_pool" = some (some (.ref f6)))
    (l6 : K.lookup f6 = some ⟨oc6, od6, .func (PySem.W.fnOf "_law_pool" "_law_pool" (defArgs s_law_pool) (defBody s_law_pool) (defScope s_law_pool) .none kV6 dc6 pm6 an6 cd6 ct6), sl6⟩)
    (c6 : PySem.W.codeIn K cd6 "_law_pool" = true)
    (k6 : PySem.W.keepIn K (.ref f6) = true)
    (a7 : PySem.W.nsIn K mainGlobals "_law_draw" = some (some (.ref f7)))
    (l7 : K.lookup f7 = some ⟨oc7, od7, .func (PySem.W.fnOf "_law_draw" "_law_draw" (defArgs s_law_draw) (defBody s_law_draw) (defScope s_law_draw) .none kV7 dc7 pm7 an7 cd7 ct7), sl7⟩)
    (c7 : PySem.W.codeIn K cd7 "_law_draw" = true)
    (k7 : PySem.W.keepIn K (.ref f7) = true)
    (a8 : PySem.W.nsIn K mainGlobals "_law_pick" = some (some (.ref f8)))
    (l8 : K.lookup f8 = some ⟨oc8, od8, .func (PySem.W.fnOf "_law_pick" "_law_pick" (defArgs s_law_pick) (defBody s_law_pick) (defScope s_law_pick) .none kV8 dc8 pm8 an8 cd8 ct8), sl8⟩)
    (c8 : PySem.W.codeIn K cd8 "_law_pick" = true)
    (k8 : PySem.W.keepIn K (.ref f8) = true)
    (a9 : PySem.W.nsIn K mainGlobals "_law_rules" = some (some (.ref f9)))
    (l9 : K.lookup f9 = some ⟨oc9, od9, .func (PySem.W.fnOf "_law_rules" "_law_rules" (defArgs s_law_rules) (defBody s_law_rules) (defScope s_law_rules) .none kV9 dc9 pm9 an9 cd9 ct9), sl9⟩)
    (c9 : PySem.W.codeIn K cd9 "_law_rules" = true)
    (k9 : PySem.W.keepIn K (.ref f9) = true)
    (a10 : PySem.W.nsIn K mainGlobals "_law_made_book" = some (some (.ref f10)))
    (l10 : K.lookup f10 = some ⟨oc10, od10, .func (PySem.W.fnOf "_law_made_book" "_law_made_book" (defArgs s_law_made_book) (defBody s_law_made_book) (defScope s_law_made_book) .none kV10 dc10 pm10 an10 cd10 ct10), sl10⟩)
    (c10 : PySem.W.codeIn K cd10 "_law_made_book" = true)
    (k10 : PySem.W.keepIn K (.ref f10) = true)
    (a11 : PySem.W.nsIn K mainGlobals "_law_parts" = some (some (.ref f11)))
    (l11 : K.lookup f11 = some ⟨oc11, od11, .func (PySem.W.fnOf "_law_parts" "_law_parts" (defArgs s_law_parts) (defBody s_law_parts) (defScope s_law_parts) .none kV11 dc11 pm11 an11 cd11 ct11), sl11⟩)
    (c11 : PySem.W.codeIn K cd11 "_law_parts" = true)
    (k11 : PySem.W.keepIn K (.ref f11) = true)
    (a12 : PySem.W.nsIn K mainGlobals "_law_odd" = some (some (.ref f12)))
    (l12 : K.lookup f12 = some ⟨oc12, od12, .func (PySem.W.fnOf "_law_odd" "_law_odd" (defArgs s_law_odd) (defBody s_law_odd) (defScope s_law_odd) .none kV12 dc12 pm12 an12 cd12 ct12), sl12⟩)
    (c12 : PySem.W.codeIn K cd12 "_law_odd" = true)
    (k12 : PySem.W.keepIn K (.ref f12) = true)
    (a13 : PySem.W.nsIn K mainGlobals "_law_refused" = some (some (.ref f13)))
    (l13 : K.lookup f13 = some ⟨oc13, od13, .func (PySem.W.fnOf "_law_refused" "_law_refused" (defArgs s_law_refused) (defBody s_law_refused) (defScope s_law_refused) .none kV13 dc13 pm13 an13 cd13 ct13), sl13⟩)
    (c13 : PySem.W.codeIn K cd13 "_law_refused" = true)
    (k13 : PySem.W.keepIn K (.ref f13) = true)
    (a14 : PySem.W.nsIn K mainGlobals "_law_asked" = some (some (.ref f14)))
    (l14 : K.lookup f14 = some ⟨oc14, od14, .func (PySem.W.fnOf "_law_asked" "_law_asked" (defArgs s_law_asked) (defBody s_law_asked) (defScope s_law_asked) .none kV14 dc14 pm14 an14 cd14 ct14), sl14⟩)
    (c14 : PySem.W.codeIn K cd14 "_law_asked" = true)
    (k14 : PySem.W.keepIn K (.ref f14) = true)
    (a15 : PySem.W.nsIn K mainGlobals "law" = some (some (.ref f15)))
    (l15 : K.lookup f15 = some ⟨oc15, od15, .func (PySem.W.fnOf "law" "law" (defArgs s_law) (defBody s_law) (defScope s_law) .none kV15 dc15 pm15 an15 cd15 ct15), sl15⟩)
    (c15 : PySem.W.codeIn K cd15 "law" = true)
    (k15 : PySem.W.keepIn K (.ref f15) = true)
    (a16 : PySem.W.findIn K (.ref A_BadPart) "__init__" = some (some (.ref f16)))
    (l16 : K.lookup f16 = some ⟨oc16, od16, .func (PySem.W.fnOf "__init__" "BadPart.__init__" (defArgs s_BadPart_init) (defBody s_BadPart_init) (defScope s_BadPart_init) .none kV16 dc16 pm16 an16 cd16 ct16), sl16⟩)
    (c16 : PySem.W.codeIn K cd16 "BadPart.__init__" = true)
    (k16 : PySem.W.keepIn K (.ref f16) = true)
    (t16 : PySem.W.typeIn K (.ref f16) = some (.type "function"))
    (y1 : PySem.W.specialIn K (.builtin "object.__class__") "__get__" = some (some (.builtin "getset_descriptor.__get__")))
    (y2 : PySem.W.takesIn K (.builtin "object.__class__") = some true)
    (o1_Book : PySem.W.plainGet K A_Book Str.empty = true)
    (o2_Book : PySem.W.hasDictIn K A_Book = true)
    (o3_Book : PySem.W.plainOver K A_Book = true)
    (o4_Book : PySem.W.findIn K (.ref A_Book) "__setattr__" = some (some (.builtin "object.__setattr__")))
    (o5_Book : PySem.W.findIn K (.ref A_Book) "__class__" = some (some (.builtin "object.__class__")))
    (o6_Book : PySem.W.mroIn K A_Book (.type "object") = some true)
    (of_Book : PySem.W.selfFirst K A_Book = true)
    (o7_Book : PySem.W.makesIn K A_Book = true)
    (o8_Book : PySem.W.keepIn K (.ref A_Book) = true)
    (o9_Book : PySem.W.isFn K (.ref f2) = true)
    (p_parts_Book : PySem.W.findIn K (.ref A_Book) "parts" = some none)
    (p_rows_Book : PySem.W.findIn K (.ref A_Book) "rows" = some none)
    (nf_Book_Book : PySem.W.notFirst K A_Book (.ref A_Book) = true)
    (nd : [A_Book].Nodup)
    (w_Book_changed : PySem.W.isFn K (.ref f5) = true)
    (w_Book_getitem : PySem.W.isFn K (.ref f3) = true)
    (u_Book_getitem : PySem.W.fnIn K f3 = true)
    (w_Book_rank : PySem.W.isFn K (.ref f4) = true)
    (x1_BadPart : K.lookup A_BadPart = some (excClassObj nm_BadPart qn_BadPart A_BadPart N_BadPart bs_BadPart [.ref A_NamesError, .type "ValueError", .type "Exception", .type "BaseException", .type "object"] true sn_BadPart sub_BadPart ab_BadPart col_BadPart dd_BadPart m0_BadPart m1_BadPart m2_BadPart m3_BadPart m5_BadPart "ValueError.__new__"))
    (x2_BadPart : PySem.W.findIn K (.ref A_BadPart) "__setattr__" = some (some (.builtin "object.__setattr__")))
    (x3_BadPart : PySem.W.subIn K (.ref A_BadPart) (.type "BaseException") = some true)
    (x4_BadPart : PySem.W.typeIn K (.ref A_BadPart) = some (.type "type"))
    (x5_BadPart : PySem.W.keepIn K (.ref A_BadPart) = true)
    (x6_BadPart : PySem.W.findIn K (.ref A_BadPart) "part" = some none)
    (x7_BadPart : PySem.W.findIn K (.ref A_BadPart) "__getattribute__" = some (some (.builtin "BaseException.__getattribute__")))
    (x8_BadPart : PySem.W.findIn K (.ref A_BadPart) "__getattr__" = some none)
    (x9_BadPart : PySem.W.hasDictIn K A_BadPart = true)
    (xa_BadPart : PySem.W.findIn K (.ref A_BadPart) "__class__" = some (some (.builtin "object.__class__")))
    (xb_BadPart : PySem.W.mroIn K A_BadPart (.type "object") = some true)
    (xe_BadPart_BadPart : PySem.W.exmOne K (.ref A_BadPart) (.ref A_BadPart) = some true)
    (xk_BadPart_NamesError : PySem.W.kitOne K (.ref A_BadPart) (.ref A_NamesError) = some true)
    (nb1_NamesError : PySem.W.readsIn K A_NamesError (.type "type") = true)
    (nb2_NamesError : PySem.W.specialIn K (.ref A_NamesError) "__getattribute__" = some (some (.builtin "type.__getattribute__")))
    (nb3_NamesError : PySem.W.findCls K (.ref A_NamesError) (.type "type") "__init__" = some (.val (.builtin "ValueError.__init__")))
    (ta_PARTS : PySem.W.nsIn K mainGlobals "PARTS" = some (some (.ref at_PARTS)))
    (tl_PARTS : K.lookup at_PARTS = some ⟨.type "dict", none, .dict en_PARTS n_PARTS, #[]⟩)
    (tk_PARTS : PySem.W.KeysLit w.params en_PARTS.toList)
    (ts_PARTS : (at_PARTS == sysModules) = false)
    (tt_PARTS : TabOk (bxOf K [("Book", A_Book)] [("BadPart", A_BadPart, "part")]) en_PARTS.toList tab_PARTS)
    (z_abs : PySem.W.nsIn K mainGlobals "abs" = some none)
    (z_bool : PySem.W.nsIn K mainGlobals "bool" = some none)
    (z_dict : PySem.W.nsIn K mainGlobals "dict" = some none)
    (z_int : PySem.W.nsIn K mainGlobals "int" = some none)
    (z_isinstance : PySem.W.nsIn K mainGlobals "isinstance" = some none)
    (z_len : PySem.W.nsIn K mainGlobals "len" = some none)
    (z_max : PySem.W.nsIn K mainGlobals "max" = some none)
    (z_min : PySem.W.nsIn K mainGlobals "min" = some none)
    (z_range : PySem.W.nsIn K mainGlobals "range" = some none)
    (z_repr : PySem.W.nsIn K mainGlobals "repr" = some none)
    (z_str : PySem.W.nsIn K mainGlobals "str" = some none)
    (z_sum : PySem.W.nsIn K mainGlobals "sum" = some none)
    (z_zip : PySem.W.nsIn K mainGlobals "zip" = some none)
    (q_GROUPS : PySem.W.nsIn K mainGlobals "GROUPS" = some (some (.ref at_GROUPS)))
    (v_GROUPS : ∃ v, L2.RelV v (.ref at_GROUPS) ∧ ∀ F : Hp, Rep (bxOf K [("Book", A_Book)] [("BadPart", A_BadPart, "part")]) F (.tup [.str "own", .str "named", .str "all"]) v) :
    ∃ (fd : FuncData) (cs : List (String × Addr)) (es : List (String × Addr × Str)), (∀ (s : Shared) (v : Value), BindsTo s fd ⟨[v], []⟩ [("_law_script", v)]) ∧ ∀ base : Heap, K.In base → base.Ns mainGlobals mg → FnG P w K mg base 7 fa fd ["_law_script"] (spOf (bxOf K cs es) 1 F_law) := by
  have e := hfa.symm.trans (PySem.W.mg_of X G a15)
  cases e
  have T : Txt w K mg [("Book", A_Book)] [("BadPart", A_BadPart, "part")] A_BadPart A_NamesError := ⟨PySem.W.mg_none_of X G z_abs,
    PySem.W.mg_none_of X G z_bool,
    PySem.W.mg_none_of X G z_dict,
    PySem.W.mg_none_of X G z_int,
    PySem.W.mg_none_of X G z_isinstance,
    PySem.W.mg_none_of X G z_len,
    PySem.W.mg_none_of X G z_max,
    PySem.W.mg_none_of X G z_min,
    PySem.W.mg_none_of X G z_range,
    PySem.W.mg_none_of X G z_repr,
    PySem.W.mg_none_of X G z_str,
    PySem.W.mg_none_of X G z_sum,
    PySem.W.mg_none_of X G z_zip,
    ⟨_, PySem.W.mg_of X G q_GROUPS, v_GROUPS⟩,
    ocs_of (by intro p hp; simp only [List.mem_cons, List.not_mem_nil, or_false] at hp; subst hp; exact ⟨⟨o1_Book, o2_Book, o3_Book, o4_Book⟩, o5_Book, y1, y2, o6_Book⟩),
    apart_of (by intro p hp q hq; simp only [List.mem_cons, List.not_mem_nil, or_false] at hp hq; subst hp; subst hq; exact nf_Book_Book),
    kls_of nd (by intro p hp; simp only [List.mem_cons, List.not_mem_nil, or_false] at hp; subst hp; exact of_Book),
    free_of (by intro p hp k; simp only [List.mem_cons, List.not_mem_nil, or_false] at hp; subst hp; exact p_parts_Book),
    free_of (by intro p hp k; simp only [List.mem_cons, List.not_mem_nil, or_false] at hp; subst hp; exact p_rows_Book),
    PySem.W.mg_of X G g_BadPart,
    PySem.W.mg_of X G g_NamesError,
    ⟨_, PySem.W.mg_of X G ta_PARTS, ⟨_, _, tl_PARTS, tk_PARTS, ts_PARTS, tt_PARTS⟩⟩,
    cs_of (by intro p hp b hb; simp only [List.mem_cons, List.not_mem_nil, or_false] at hp; subst hp; exact (by cases hb; exact xe_BadPart_BadPart)) (by intro c b e; unfold cs_BadPart at e; split at e <;> first | exact ⟨_, rfl⟩ | cases e),
    fun {cn} t C fld e => xf_of (by intro p hp t; simp only [List.mem_cons, List.not_mem_nil, or_false] at hp; subst hp; exact ⟨rfl, ⟨x7_BadPart, x8_BadPart, x3_BadPart, x9_BadPart⟩, x6_BadPart⟩) cn t C fld e,
    fun {cn} b t C fld e => xi_of (by intro p hp b t; simp only [List.mem_cons, List.not_mem_nil, or_false] at hp; subst hp; exact (by cases t; exact ⟨⟨x7_BadPart, x8_BadPart, x3_BadPart, x9_BadPart, xa_BadPart, y1, y2, xb_BadPart⟩, xk_BadPart_NamesError⟩)) cn b t C fld e⟩
  have D0 := fun_mk (st := s_is_book_part) l0 c0 k0
  have b0 := D0.binds (ps := ["value"]) fun _ _ _ _ _ _ us hl => match us, hl with | [_], _ => rfl
  have D1 := fun_mk (st := s_is_value) l1 c1 k1
  have b1 := D1.binds (ps := ["part", "value"]) fun _ _ _ _ _ _ us hl => match us, hl with | [_, _], _ => rfl
  have D2 := funA_mk (st := s_Book_init) l2 c2 k2
  have D3 := fun_mk (st := s_Book_getitem) l3 c3 k3
  have b3 := D3.binds (ps := ["self", "part"]) fun _ _ _ _ _ _ us hl => match us, hl with | [_, _], _ => rfl
  have D4 := fun_mk (st := s_Book_rank) l4 c4 k4
  have b4 := D4.binds (ps := ["self", "group"]) fun _ _ _ _ _ _ us hl => match us, hl with | [_, _], _ => rfl
  have D5 := fun_mk (st := s_Book_changed) l5 c5 k5
  have b5 := D5.binds (ps := ["self", "part", "value"]) fun _ _ _ _ _ _ us hl => match us, hl with | [_, _, _], _ => rfl
  have D6 := fun_mk (st := s_law_pool) l6 c6 k6
  have b6 := D6.binds (ps := ["_law_script", "_law_k"]) fun _ _ _ _ _ _ us hl => match us, hl with | [_, _], _ => rfl
  have D7 := fun_mk (st := s_law_draw) l7 c7 k7
  have b7 := D7.binds (ps := ["_law_pool_here", "_law_many"]) fun _ _ _ _ _ _ us hl => match us, hl with | [_, _], _ => rfl
  have D8 := fun_mk (st := s_law_pick) l8 c8 k8
  have b8 := D8.binds (ps := ["_law_pool_here", "_law_row"]) fun _ _ _ _ _ _ us hl => match us, hl with | [_, _], _ => rfl
  have D9 := fun_mk (st := s_law_rules) l9 c9 k9
  have b9 := D9.binds (ps := ["_law_pool_here"]) fun _ _ _ _ _ _ us hl => match us, hl with | [_], _ => rfl
  have D10 := fun_mk (st := s_law_made_book) l10 c10 k10
  have b10 := D10.binds (ps := ["_law_r"]) fun _ _ _ _ _ _ us hl => match us, hl with | [_], _ => rfl
  have D11 := fun_mk (st := s_law_parts) l11 c11 k11
  have b11 := D11.binds (ps := []) fun _ _ _ _ _ _ us hl => match us, hl with | [], _ => rfl
  have D12 := fun_mk (st := s_law_odd) l12 c12 k12
  have b12 := D12.binds (ps := []) fun _ _ _ _ _ _ us hl => match us, hl with | [], _ => rfl
  have D13 := fun_mk (st := s_law_refused) l13 c13 k13
  have b13 := D13.binds (ps := ["_law_rules_here"]) fun _ _ _ _ _ _ us hl => match us, hl with | [_], _ => rfl
  have D14 := fun_mk (st := s_law_asked) l14 c14 k14
  have b14 := D14.binds (ps := ["_law_book", "_law_way", "_law_value", "_law_other"]) fun _ _ _ _ _ _ us hl => match us, hl with | [_, _, _, _], _ => rfl
  have D15 := fun_mk (st := s_law) l15 c15 k15
  have D16 := fun_mk (st := s_BadPart_init) l16 c16 k16
  have b16 := D16.binds (ps := ["self", "part"]) fun _ _ _ _ _ _ us hl => match us, hl with | [_, _], _ => rfl
  refine ⟨PySem.W.fnOf "law" "law" (defArgs s_law) (defBody s_law) (defScope s_law) .none kV15 dc15 pm15 an15 cd15 ct15, [("Book", A_Book)], [("BadPart", A_BadPart, "part")], fun s v => .of_eq rfl, fun base _ _ => ?_⟩
  have R_BadPart : Rai P w K mg base (bxOf K [("Book", A_Book)] [("BadPart", A_BadPart, "part")]) "BadPart" "BadPart" := ⟨A_BadPart, _, _, "part", "part", rfl, ⟨⟨_, _, _, _, _, _, _, _, _, _, _, _, _, _, _, x1_BadPart, by rfl⟩, x2_BadPart, x3_BadPart, x4_BadPart, x5_BadPart⟩, x6_BadPart, a16, t16, ok_BadPart_init D16 (PySem.W.mg_of X G g_NamesError) ⟨nb1_NamesError, nb2_NamesError⟩ nb3_NamesError, b16, PySem.W.mg_of X G g_BadPart⟩
  have C_is_book_part : Cal P w K mg base (bxOf K [("Book", A_Book)] [("BadPart", A_BadPart, "part")]) "is_book_part" 1 ["value"] F_is_book_part := ⟨_, _, ok_is_book_part D0 T , PySem.W.mg_of X G a0, k0, b0⟩
  have C_is_value : Cal P w K mg base (bxOf K [("Book", A_Book)] [("BadPart", A_BadPart, "part")]) "is_value" 1 ["part", "value"] F_is_value := ⟨_, _, ok_is_value D1 T , PySem.W.mg_of X G a1, k1, b1⟩
  have KO_Book_order_given_alls_bodies_spreads_near_marks : MakKO P w K mg base (bxOf K [("Book", A_Book)] [("BadPart", A_BadPart, "part")]) "Book" "Book" 3 ["order", "given", "alls", "bodies", "spreads", "near", "marks"] ["order", "given", "alls", "bodies", "spreads", "near", "marks"] [.inl 0, .inl 1, .inl 2, .inl 3, .inl 4, .inl 5, .inl 6] [] F_Book_init := makKO [("order", .str "own named all"), ("given", .str "own"), ("alls", .str "use"), ("bodies", .str "ahead"), ("spreads", .str "member"), ("near", .bl true), ("marks", .bl false)] [] [.inl 0, .inl 1, .inl 2, .inl 3, .inl 4, .inl 5, .inl 6] rfl ⟨o7_Book, a2, o9_Book, o8_Book⟩ (ok_Book_init D2 T C_is_value R_BadPart)
    (params := defArgs s_Book_init) (body := defBody s_Book_init) (scope := defScope s_Book_init) ⟨⟨_, _, _, _, _, _, _, _, _, _, rfl, l2, c2, .inl ⟨rfl, rfl⟩, .inr ⟨_, rfl, (fun q hq => by simp only [List.map_cons, List.map_nil, List.mem_cons, List.not_mem_nil, or_false] at hq; rcases hq with rfl | rfl | rfl | rfl | rfl | rfl | rfl <;> first | exact ⟨_, kw2_0, ⟨_, rfl⟩⟩ | exact ⟨_, kw2_1, ⟨_, rfl⟩⟩ | exact ⟨_, kw2_2, ⟨_, rfl⟩⟩ | exact ⟨_, kw2_3, ⟨_, rfl⟩⟩ | exact ⟨_, kw2_4, ⟨_, rfl⟩⟩ | exact ⟨_, kw2_5, rfl⟩ | exact ⟨_, kw2_6, rfl⟩)⟩⟩, k2⟩ (by simp) (by decide +kernel)
    (fun D doc pm an cdv ct us mv ws h1 h2 h3 => match us, mv, ws, h1, h2, h3 with | [_], [], [_, _, _, _, _, _, _], _, _, _ => rfl) (PySem.W.mg_of X G g_Book)
  have KO_Book_order_given_alls_bodies : MakKO P w K mg base (bxOf K [("Book", A_Book)] [("BadPart", A_BadPart, "part")]) "Book" "Book" 3 ["order", "given", "alls", "bodies", "spreads", "near", "marks"] ["order", "given", "alls", "bodies"] [.inl 0, .inl 1, .inl 2, .inl 3, .inr 0, .inr 1, .inr 2] [.str "member", .bl true, .bl false] F_Book_init := makKO [("order", .str "own named all"), ("given", .str "own"), ("alls", .str "use"), ("bodies", .str "ahead"), ("spreads", .str "member"), ("near", .bl true), ("marks", .bl false)] [4, 5, 6] [.inl 0, .inl 1, .inl 2, .inl 3, .inr 0, .inr 1, .inr 2] rfl ⟨o7_Book, a2, o9_Book, o8_Book⟩ (ok_Book_init D2 T C_is_value R_BadPart)
    (params := defArgs s_Book_init) (body := defBody s_Book_init) (scope := defScope s_Book_init) ⟨⟨_, _, _, _, _, _, _, _, _, _, rfl, l2, c2, .inl ⟨rfl, rfl⟩, .inr ⟨_, rfl, (fun q hq => by simp only [List.map_cons, List.map_nil, List.mem_cons, List.not_mem_nil, or_false] at hq; rcases hq with rfl | rfl | rfl | rfl | rfl | rfl | rfl <;> first | exact ⟨_, kw2_0, ⟨_, rfl⟩⟩ | exact ⟨_, kw2_1, ⟨_, rfl⟩⟩ | exact ⟨_, kw2_2, ⟨_, rfl⟩⟩ | exact ⟨_, kw2_3, ⟨_, rfl⟩⟩ | exact ⟨_, kw2_4, ⟨_, rfl⟩⟩ | exact ⟨_, kw2_5, rfl⟩ | exact ⟨_, kw2_6, rfl⟩)⟩⟩, k2⟩ (by simp) (by decide +kernel)
    (fun D doc pm an cdv ct us mv ws h1 h2 h3 => match us, mv, ws, h1, h2, h3 with | [_], [_, _, _], [_, _, _, _], _, _, _ => ⟨_, _, _, _, _, _, rfl, rfl, ⟨_, _, _, _, _, _, rfl, rfl, ⟨_, _, _, _, _, _, rfl, rfl, rfl⟩⟩⟩) (PySem.W.mg_of X G g_Book)
  have O_Book_getitem := ok_Book_getitem (P := P) (base := base) D3 T C_is_book_part R_BadPart
  have O_Book_rank := ok_Book_rank (P := P) (base := base) D4 T R_BadPart
  have O_Book_changed := ok_Book_changed (P := P) (base := base) D5 T C_is_book_part C_is_value R_BadPart KO_Book_order_given_alls_bodies_spreads_near_marks
  have C_law_pool : Cal P w K mg base (bxOf K [("Book", A_Book)] [("BadPart", A_BadPart, "part")]) "_law_pool" 1 ["_law_script", "_law_k"] F_law_pool := ⟨_, _, ok_law_pool D6 T , PySem.W.mg_of X G a6, k6, b6⟩
  have C_law_draw : Cal P w K mg base (bxOf K [("Book", A_Book)] [("BadPart", A_BadPart, "part")]) "_law_draw" 1 ["_law_pool_here", "_law_many"] F_law_draw := ⟨_, _, ok_law_draw D7 T , PySem.W.mg_of X G a7, k7, b7⟩
  have C_law_pick : Cal P w K mg base (bxOf K [("Book", A_Book)] [("BadPart", A_BadPart, "part")]) "_law_pick" 2 ["_law_pool_here", "_law_row"] F_law_pick := ⟨_, _, ok_law_pick D8 T C_law_draw, PySem.W.mg_of X G a8, k8, b8⟩
  have C_law_rules : Cal P w K mg base (bxOf K [("Book", A_Book)] [("BadPart", A_BadPart, "part")]) "_law_rules" 3 ["_law_pool_here"] F_law_rules := ⟨_, _, ok_law_rules D9 T C_law_pick C_law_draw, PySem.W.mg_of X G a9, k9, b9⟩
  have X_mt_Book_changed : MtC P w K mg base (bxOf K [("Book", A_Book)] [("BadPart", A_BadPart, "part")]) "Book" "changed" 3 5 F_Book_changed := ⟨A_Book, _, _, _, rfl, ⟨a5, w_Book_changed, k5⟩, O_Book_changed, b5⟩
  have T_t_mt_changed_Book : ∀ c f, t_mt_changed_Book c = some f → MtC P w K mg base (bxOf K [("Book", A_Book)] [("BadPart", A_BadPart, "part")]) c "changed" 3 5 f := (fun c f e => by
    unfold t_mt_changed_Book at e
    split at e <;> first | (cases e; exact (X_mt_Book_changed).mono (by decide)) | cases e)
  have C_law_made_book : Cal P w K mg base (bxOf K [("Book", A_Book)] [("BadPart", A_BadPart, "part")]) "_law_made_book" 6 ["_law_r"] F_law_made_book := ⟨_, _, ok_law_made_book D10 T KO_Book_order_given_alls_bodies T_t_mt_changed_Book, PySem.W.mg_of X G a10, k10, b10⟩
  have C_law_parts : Cal P w K mg base (bxOf K [("Book", A_Book)] [("BadPart", A_BadPart, "part")]) "_law_parts" 1 [] F_law_parts := ⟨_, _, ok_law_parts D11 T , PySem.W.mg_of X G a11, k11, b11⟩
  have C_law_odd : Cal P w K mg base (bxOf K [("Book", A_Book)] [("BadPart", A_BadPart, "part")]) "_law_odd" 1 [] F_law_odd := ⟨_, _, ok_law_odd D12 T , PySem.W.mg_of X G a12, k12, b12⟩
  have C_law_refused : Cal P w K mg base (bxOf K [("Book", A_Book)] [("BadPart", A_BadPart, "part")]) "_law_refused" 5 ["_law_rules_here"] F_law_refused := ⟨_, _, ok_law_refused D13 T KO_Book_order_given_alls_bodies_spreads_near_marks, PySem.W.mg_of X G a13, k13, b13⟩
  have X_gi_Book_getitem : GtC P w K mg base (bxOf K [("Book", A_Book)] [("BadPart", A_BadPart, "part")]) "Book" 3 F_Book_getitem := ⟨A_Book, _, _, _, rfl, a3, w_Book_getitem, u_Book_getitem, O_Book_getitem, b3⟩
  have T_t_gi_Book : ∀ c f, t_gi_Book c = some f → GtC P w K mg base (bxOf K [("Book", A_Book)] [("BadPart", A_BadPart, "part")]) c 3 f := (fun c f e => by
    unfold t_gi_Book at e
    split at e <;> first | (cases e; exact (X_gi_Book_getitem).mono (by decide)) | cases e)
  have X_mt_Book_rank : MtC P w K mg base (bxOf K [("Book", A_Book)] [("BadPart", A_BadPart, "part")]) "Book" "rank" 2 3 F_Book_rank := ⟨A_Book, _, _, _, rfl, ⟨a4, w_Book_rank, k4⟩, O_Book_rank, b4⟩
  have T_t_mt_rank_Book : ∀ c f, t_mt_rank_Book c = some f → MtC P w K mg base (bxOf K [("Book", A_Book)] [("BadPart", A_BadPart, "part")]) c "rank" 2 3 f := (fun c f e => by
    unfold t_mt_rank_Book at e
    split at e <;> first | (cases e; exact (X_mt_Book_rank).mono (by decide)) | cases e)
  have C_law_asked : CalG P w K mg base (bxOf K [("Book", A_Book)] [("BadPart", A_BadPart, "part")]) "_law_asked" 6 ["_law_book", "_law_way", "_law_value", "_law_other"] F_law_asked := ⟨_, _, ok_law_asked D14 T T_t_gi_Book T_t_mt_rank_Book T_t_mt_changed_Book, PySem.W.mg_of X G a14, k14, b14⟩
  exact ok_law D15 T C_law_pool C_law_rules C_law_made_book C_law_draw C_law_pick C_law_odd C_law_parts C_law_refused C_law_asked
end G
open PySem PySem.W PyProof.Rows
set_option maxRecDepth 100000 in
set_option maxHeartbeats 0 in
theorem PySem.Challenge.cw_addednames_k10_books_refused_holds : PySem.Challenge.rw_addednames_k10_books_refused.Holds := by
  w_on; o_law; k_head; (case hw => w_witness2)
  k_fill
  refine AN.walk_t (l := PySem.Challenge.rw_addednames_k10_books_refused) (f := G.F_law) (k := 7) (x := "_law_script") rfl rfl ⟨rfl, by decide, by decide⟩ (fun w h Y => PySem.W.kIn_of Y) ?F G.law_plain
  case F =>
    intro w mg fa h KX G0 XX hmg
    refine' G.all_mk KX G0 hmg ?g_BadPart ?g_Book ?g_NamesError ?a0 ?l0 ?c0 ?k0 ?a1 ?l1 ?c1 ?k1 ?a2 ?l2 ?c2 ?k2 ?kw2_0 ?kw2_1 ?kw2_2 ?kw2_3 ?kw2_4 ?kw2_5 ?kw2_6 ?a3 ?l3 ?c3 ?k3 ?a4 ?l4 ?c4 ?k4 ?a5 ?l5 ?c5 ?k5 ?a6 ?l6 ?c6 ?k6 ?a7 ?l7 ?c7 ?k7 ?a8 ?l8 ?c8 ?k8 ?a9 ?l9 ?c9 ?k9 ?a10 ?l10 ?c10 ?k10 ?a11 ?l11 ?c11 ?k11 ?a12 ?l12 ?c12 ?k12 ?a13 ?l13 ?c13 ?k13 ?a14 ?l14 ?c14 ?k14 ?a15 ?l15 ?c15 ?k15 ?a16 ?l16 ?c16 ?k16 ?t16 ?y1 ?y2 ?o1_Book ?o2_Book ?o3_Book ?o4_Book ?o5_Book ?o6_Book ?of_Book ?o7_Book ?o8_Book ?o9_Book ?p_parts_Book ?p_rows_Book ?nf_Book_Book ?nd ?w_Book_changed ?w_Book_getitem ?u_Book_getitem ?w_Book_rank ?x1_BadPart ?x2_BadPart ?x3_BadPart ?x4_BadPart ?x5_BadPart ?x6_BadPart ?x7_BadPart ?x8_BadPart ?x9_BadPart ?xa_BadPart ?xb_BadPart ?xe_BadPart_BadPart ?xk_BadPart_NamesError ?nb1_NamesError ?nb2_NamesError ?nb3_NamesError ?ta_PARTS ?tl_PARTS ?tk_PARTS ?ts_PARTS ?tt_PARTS ?z_abs ?z_bool ?z_dict ?z_int ?z_isinstance ?z_len ?z_max ?z_min ?z_range ?z_repr ?z_str ?z_sum ?z_zip ?q_GROUPS ?v_GROUPS
    (case g_BadPart => k_is)
    (case g_Book => k_is)
    (case g_NamesError => k_is)
    (case a0 => k_is)
    (case l0 => k_is)
    (case c0 => k_is)
    (case k0 => k_is)
    (case a1 => k_is)
    (case l1 => k_is)
    (case c1 => k_is)
    (case k1 => k_is)
    (case a2 => k_is)
    (case l2 => k_is)
    (case c2 => k_is)
    (case k2 => k_is)
    (case kw2_0 => k_is)
    (case kw2_1 => k_is)
    (case kw2_2 => k_is)
    (case kw2_3 => k_is)
    (case kw2_4 => k_is)
    (case kw2_5 => k_is)
    (case kw2_6 => k_is)
    (case a3 => k_is)
    (case l3 => k_is)
    (case c3 => k_is)
    (case k3 => k_is)
    (case a4 => k_is)
    (case l4 => k_is)
    (case c4 => k_is)
    (case k4 => k_is)
    (case a5 => k_is)
    (case l5 => k_is)
    (case c5 => k_is)
    (case k5 => k_is)
    (case a6 => k_is)
    (case l6 => k_is)
    (case c6 => k_is)
    (case k6 => k_is)
    (case a7 => k_is)
    (case l7 => k_is)
    (case c7 => k_is)
    (case k7 => k_is)
    (case a8 => k_is)
    (case l8 => k_is)
    (case c8 => k_is)
    (case k8 => k_is)
    (case a9 => k_is)
    (case l9 => k_is)
    (case c9 => k_is)
    (case k9 => k_is)
    (case a10 => k_is)
    (case l10 => k_is)
    (case c10 => k_is)
    (case k10 => k_is)
    (case a11 => k_is)
    (case l11 => k_is)
    (case c11 => k_is)
    (case k11 => k_is)
    (case a12 => k_is)
    (case l12 => k_is)
    (case c12 => k_is)
    (case k12 => k_is)
    (case a13 => k_is)
    (case l13 => k_is)
    (case c13 => k_is)
    (case k13 => k_is)
    (case a14 => k_is)
    (case l14 => k_is)
    (case c14 => k_is)
    (case k14 => k_is)
    (case a15 => k_is)
    (case l15 => k_is)
    (case c15 => k_is)
    (case k15 => k_is)
    (case a16 => k_is)
    (case l16 => k_is)
    (case c16 => k_is)
    (case k16 => k_is)
    (case t16 => k_is)
    (case y1 => k_is)
    (case y2 => k_is)
    (case o1_Book => k_is)
    (case o2_Book => k_is)
    (case o3_Book => k_is)
    (case o4_Book => k_is)
    (case o5_Book => k_is)
    (case o6_Book => k_is)
    (case of_Book => k_is)
    (case o7_Book => k_is)
    (case o8_Book => k_is)
    (case o9_Book => k_is)
    (case p_parts_Book => k_is)
    (case p_rows_Book => k_is)
    (case nf_Book_Book => first | rfl | k_is | (simp [PySem.W.notFirst]))
    (case nd => first | decide | simp)
    (case w_Book_changed => k_is)
    (case w_Book_getitem => k_is)
    (case u_Book_getitem => k_is)
    (case w_Book_rank => k_is)
    (case x1_BadPart => k_is)
    (case x2_BadPart => k_is)
    (case x3_BadPart => k_is)
    (case x4_BadPart => k_is)
    (case x5_BadPart => k_is)
    (case x6_BadPart => k_is)
    (case x7_BadPart => k_is)
    (case x8_BadPart => k_is)
    (case x9_BadPart => k_is)
    (case xa_BadPart => k_is)
    (case xb_BadPart => k_is)
    (case xe_BadPart_BadPart => first | rfl | k_is | decide +kernel)
    (case xk_BadPart_NamesError => first | rfl | k_is | decide +kernel)
    (case nb1_NamesError => k_is)
    (case nb2_NamesError => k_is)
    (case nb3_NamesError => k_is)
    (case ta_PARTS => k_is)
    (case tl_PARTS => k_is)
    (case tk_PARTS => exact ⟨⟨_, _, rfl, rfl⟩, ⟨_, _, rfl, rfl⟩, ⟨_, _, rfl, rfl⟩, ⟨_, _, rfl, rfl⟩, ⟨_, _, rfl, rfl⟩, ⟨_, _, rfl, rfl⟩, ⟨_, _, rfl, rfl⟩, trivial⟩)
    (case ts_PARTS => rfl)
    (case tt_PARTS => refine .cons ⟨_, rfl⟩ (by exact AN.con_tupB (by k_is) (by refine .cons (by exact AN.con_str ⟨by decide +kernel, by decide +kernel⟩) ?_; refine .cons (by exact AN.con_str ⟨by decide +kernel, by decide +kernel⟩) ?_; refine .cons (by exact AN.con_str ⟨by decide +kernel, by decide +kernel⟩) ?_; refine .cons (by exact AN.con_str ⟨by decide +kernel, by decide +kernel⟩) ?_; refine .cons (by exact AN.con_str ⟨by decide +kernel, by decide +kernel⟩) ?_; refine .cons (by exact AN.con_str ⟨by decide +kernel, by decide +kernel⟩) ?_; refine .cons (by exact AN.con_str ⟨by decide +kernel, by decide +kernel⟩) ?_; refine .cons (by exact AN.con_str ⟨by decide +kernel, by decide +kernel⟩) ?_; refine .cons (by exact AN.con_str ⟨by decide +kernel, by decide +kernel⟩) ?_; refine .cons (by exact AN.con_str ⟨by decide +kernel, by decide +kernel⟩) ?_; refine .cons (by exact AN.con_str ⟨by decide +kernel, by decide +kernel⟩) ?_; refine .cons (by exact AN.con_str ⟨by decide +kernel, by decide +kernel⟩) ?_; refine .cons (by exact AN.con_str ⟨by decide +kernel, by decide +kernel⟩) ?_; exact .nil) (by decide)) ?_; refine .cons ⟨_, rfl⟩ (by exact AN.con_tupB (by k_is) (by refine .cons (by exact AN.con_str ⟨by decide +kernel, by decide +kernel⟩) ?_; refine .cons (by exact AN.con_str ⟨by decide +kernel, by decide +kernel⟩) ?_; exact .nil) (by decide)) ?_; refine .cons ⟨_, rfl⟩ (by exact AN.con_tupB (by k_is) (by refine .cons (by exact AN.con_str ⟨by decide +kernel, by decide +kernel⟩) ?_; refine .cons (by exact AN.con_str ⟨by decide +kernel, by decide +kernel⟩) ?_; refine .cons (by exact AN.con_str ⟨by decide +kernel, by decide +kernel⟩) ?_; refine .cons (by exact AN.con_str ⟨by decide +kernel, by decide +kernel⟩) ?_; exact .nil) (by decide)) ?_; refine .cons ⟨_, rfl⟩ (by exact AN.con_tupB (by k_is) (by refine .cons (by exact AN.con_str ⟨by decide +kernel, by decide +kernel⟩) ?_; refine .cons (by exact AN.con_str ⟨by decide +kernel, by decide +kernel⟩) ?_; refine .cons (by exact AN.con_str ⟨by decide +kernel, by decide +kernel⟩) ?_; exact .nil) (by decide)) ?_; refine .cons ⟨_, rfl⟩ (by exact AN.con_tupB (by k_is) (by refine .cons (by exact AN.con_str ⟨by decide +kernel, by decide +kernel⟩) ?_; refine .cons (by exact AN.con_str ⟨by decide +kernel, by decide +kernel⟩) ?_; refine .cons (by exact AN.con_str ⟨by decide +kernel, by decide +kernel⟩) ?_; exact .nil) (by decide)) ?_; refine .cons ⟨_, rfl⟩ (by exact AN.con_tupB (by k_is) (by refine .cons (by exact AN.con_bl) ?_; refine .cons (by exact AN.con_bl) ?_; exact .nil) (by decide)) ?_; refine .cons ⟨_, rfl⟩ (by exact AN.con_tupB (by k_is) (by refine .cons (by exact AN.con_bl) ?_; refine .cons (by exact AN.con_bl) ?_; exact .nil) (by decide)) ?_; exact .nil)
    (case z_abs => k_is)
    (case z_bool => k_is)
    (case z_dict => k_is)
    (case z_int => k_is)
    (case z_isinstance => k_is)
    (case z_len => k_is)
    (case z_max => k_is)
    (case z_min => k_is)
    (case z_range => k_is)
    (case z_repr => k_is)
    (case z_str => k_is)
    (case z_sum => k_is)
    (case z_zip => k_is)
    (case q_GROUPS => k_is)
    (case v_GROUPS => exact AN.con_tupB (by k_is) (by refine .cons (by exact AN.con_str ⟨by decide +kernel, by decide +kernel⟩) ?_; refine .cons (by exact AN.con_str ⟨by decide +kernel, by decide +kernel⟩) ?_; refine .cons (by exact AN.con_str ⟨by decide +kernel, by decide +kernel⟩) ?_; exact .nil) (by decide))
