import PyProof.Rows.All
import Wide.All
import OpenK.AllK
import Wide.FinOn
import KE.KStateDown
import HandS.ForMost
import HandS.Walk
import HandS.IsInst
import HandS.Exc
import HandS.ExcInit
import HandS.ExcOwn
import HandS.TryMany
import HandS.TryOnly
import HandS.WordsExc
import HandS.Defaults
import HandS.MakeKwOnly
import HandS.SortInts
import HandS.Wide
import HandS.Head0
import HandS.Head1
import HandS.Head2
import HandS.HeadEnd
import HandS.HeadHook1
import HandS.HeadHook2
import HandS.TupAny
import HandS.Style
import HandS.TupLe
import HandS.CallSlots
import HandS.WordsDict
import HandS.StrMore
import HandS.More
import PyProof.Draws
import PyProof.EnumMake
import KE.KExcSuper
import KE.KSuper
import HandS.ExcSuper
import HandS.Words
import HandS.Codes
import PySem.Challenge.RW_knowninside_k10_orders_are_judged
import PyProof.StrLawsIn
import PyProof.Rows.StrFin3
import HandS.HeadWalk
/-! part KI1 -/
set_option Elab.async false
set_option linter.all false
set_option maxRecDepth 100000
set_option maxHeartbeats 4000000
namespace KI
open PySem PySem.Spec PyProof.Rows L2

/-! ## pure values -/
inductive PV where
  | non | bl (b : Bool) | int (i : Int) | str (x : Str)
  | lst (ps : List PV) | tup (ps : List PV)
  | dct (ks : List Key) (ps : List PV)
  | ins (c : Str) (ns : List Str) (ps : List PV)
  | scr (ns : List Int)
  deriving Inhabited

abbrev Frag := PySem.W.Frag
abbrev Sg := L2.St

mutual
/-- v is the pure value in the frozen heap F -/
def Rep (K : Frag) (F : Hp) : PV → V → Prop
  | .non, v => v = .non
  | .bl b, v => v = .bl b
  | .int i, v => v = .int i
  | .str x, v => v = .str x
  | .lst ps, v => ∃ a vs, v = .ref a ∧ F a = some (.lst vs) ∧ RepL K F ps vs
  | .tup ps, v => ∃ a vs, v = .ref a ∧ SqT K F a vs ∧ RepL K F ps vs
  | .dct ks ps, v => ∃ a vs, v = .ref a ∧ F a = some (.dK (ks.zip vs)) ∧ ks.length = vs.length ∧ RepL K F ps vs
  | .ins c ns ps, v => ∃ a dx vs, v = .ref a ∧ F a = some (.ins (He.ga K c) dx (ns.zip vs)) ∧ ns.length = vs.length ∧ RepL K F ps vs
  | .scr ns, v => ∃ a, v = .ref a ∧ SqL K F a (ns.map V.int)
def RepL (K : Frag) (F : Hp) : List PV → List V → Prop
  | [], vs => vs = []
  | p :: ps, vs => ∃ v r, vs = v :: r ∧ Rep K F p v ∧ RepL K F ps r
end

theorem sqT_mono {K : Frag} {F F' : Hp} {a : Addr} {xs : List V} (e : Same F F') (h : SqT K F a xs) : SqT K F' a xs := by
  rcases h with (h | ⟨o, h⟩) | h
  · exact .inl (.inl (e _ _ h))
  · exact .inl (.inr ⟨o, e _ _ h⟩)
  · exact .inr h

mutual
theorem Rep.mono {K : Frag} {F F' : Hp} (e : Same F F') : ∀ (p : PV) (v : V), Rep K F p v → Rep K F' p v
  | .non, _, h => h
  | .bl _, _, h => h
  | .int _, _, h => h
  | .str _, _, h => h
  | .lst ps, _, ⟨a, vs, h1, h2, h3⟩ => ⟨a, vs, h1, e _ _ h2, RepL.mono e ps vs h3⟩
  | .tup ps, _, ⟨a, vs, h1, h2, h3⟩ => ⟨a, vs, h1, sqT_mono e h2, RepL.mono e ps vs h3⟩
  | .dct _ ps, _, ⟨a, vs, h1, h2, h3, h4⟩ => ⟨a, vs, h1, e _ _ h2, h3, RepL.mono e ps vs h4⟩
  | .ins _ _ ps, _, ⟨a, dx, vs, h1, h2, h3, h4⟩ => ⟨a, dx, vs, h1, e _ _ h2, h3, RepL.mono e ps vs h4⟩
  | .scr _, _, ⟨a, h1, h2⟩ => ⟨a, h1, e.seq h2⟩
theorem RepL.mono {K : Frag} {F F' : Hp} (e : Same F F') : ∀ (ps : List PV) (vs : List V), RepL K F ps vs → RepL K F' ps vs
  | [], _, h => h
  | p :: ps, _, ⟨v, r, h1, h2, h3⟩ => ⟨v, r, h1, Rep.mono e p v h2, RepL.mono e ps r h3⟩
end

section
variable {K : Frag} {F : Hp}
theorem RepL.length : ∀ {ps : List PV} {vs : List V}, RepL K F ps vs → ps.length = vs.length
  | [], _, h => by subst h; rfl
  | p :: ps, _, ⟨v, r, h1, _, h3⟩ => by rw [h1, List.length_cons, List.length_cons, RepL.length h3]
theorem RepL.get : ∀ {ps : List PV} {vs : List V} {i : Nat} {p : PV}, RepL K F ps vs → ps[i]? = some p → ∃ v, vs[i]? = some v ∧ Rep K F p v
  | [], _, _, _, _, e => by simp at e
  | q :: ps, _, 0, p, ⟨v, r, h1, h2, _⟩, e => by
    simp at e; subst e; subst h1; exact ⟨v, rfl, h2⟩
  | q :: ps, _, i + 1, p, ⟨v, r, h1, _, h3⟩, e => by
    obtain ⟨w, h4, h5⟩ := RepL.get (i := i) (p := p) h3 (by simpa using e)
    subst h1; exact ⟨w, by simpa using h4, h5⟩
theorem RepL.getV : ∀ {ps : List PV} {vs : List V} {i : Nat} {v : V}, RepL K F ps vs → vs[i]? = some v → ∃ p, ps[i]? = some p ∧ Rep K F p v
  | [], _, _, _, h, e => by cases (show _ = ([] : List V) from h); simp at e
  | q :: ps, _, 0, v, ⟨w, r, h1, h2, _⟩, e => by
    subst h1; simp at e; subst e; exact ⟨q, rfl, h2⟩
  | q :: ps, _, i + 1, v, ⟨w, r, h1, _, h3⟩, e => by
    subst h1
    obtain ⟨p, h4, h5⟩ := RepL.getV (i := i) (v := v) h3 (by simpa using e)
    exact ⟨p, by simpa using h4, h5⟩
theorem RepL.append : ∀ {ps qs : List PV} {vs ws : List V}, RepL K F ps vs → RepL K F qs ws → RepL K F (ps ++ qs) (vs ++ ws)
  | [], _, _, _, h, h' => by cases (show _ = ([] : List V) from h); exact h'
  | p :: ps, qs, _, ws, ⟨v, r, h1, h2, h3⟩, h' => by
    subst h1; exact ⟨v, r ++ ws, rfl, h2, RepL.append h3 h'⟩
theorem RepL.one {p : PV} {v : V} (h : Rep K F p v) : RepL K F [p] [v] := ⟨v, [], rfl, h, rfl⟩
theorem RepL.set : ∀ {ps : List PV} {vs : List V} {p : PV} {v : V} (i : Nat), RepL K F ps vs → Rep K F p v → RepL K F (ps.set i p) (vs.set i v)
  | [], _, _, _, _, h, _ => by cases (show _ = ([] : List V) from h); exact rfl
  | q :: ps, _, p, v, 0, ⟨w, r, h1, _, h3⟩, h => by subst h1; exact ⟨v, r, rfl, h, h3⟩
  | q :: ps, _, p, v, i + 1, ⟨w, r, h1, h2, h3⟩, h => by subst h1; exact ⟨w, r.set i v, rfl, h2, RepL.set i h3 h⟩
theorem RepL.take : ∀ {ps : List PV} {vs : List V} (n : Nat), RepL K F ps vs → RepL K F (ps.take n) (vs.take n)
  | _, _, 0, _ => rfl
  | [], _, n + 1, h => by cases (show _ = ([] : List V) from h); exact rfl
  | q :: ps, _, n + 1, ⟨w, r, h1, h2, h3⟩ => by subst h1; exact ⟨w, r.take n, rfl, h2, RepL.take n h3⟩
theorem RepL.drop : ∀ {ps : List PV} {vs : List V} (n : Nat), RepL K F ps vs → RepL K F (ps.drop n) (vs.drop n)
  | _, _, 0, h => h
  | [], _, n + 1, h => by cases (show _ = ([] : List V) from h); exact rfl
  | q :: ps, _, n + 1, ⟨w, r, h1, h2, h3⟩ => by subst h1; exact RepL.drop n h3
theorem RepL.replicate {p : PV} {v : V} (h : Rep K F p v) : ∀ n, RepL K F (List.replicate n p) (List.replicate n v)
  | 0 => rfl
  | n + 1 => ⟨v, _, rfl, h, RepL.replicate h n⟩
theorem RepL.ints : ∀ {ns : List Int} {vs : List V}, RepL K F (ns.map PV.int) vs → vs = ns.map V.int
  | [], _, h => h
  | n :: ns, _, ⟨v, r, h1, h2, h3⟩ => by rw [h1, show v = V.int n from h2, RepL.ints h3]; rfl
theorem RepL.of_ints : ∀ {ns : List Int}, RepL K F (ns.map PV.int) (ns.map V.int)
  | [] => rfl
  | n :: ns => ⟨_, _, rfl, rfl, RepL.of_ints⟩
end

/-! ## slots, states -/
inductive Slot where
  | dead
  | sh (p : PV)
  | own (p : PV)
  | mt
  | bor (p : PV)
  | exc (c : Str) (ns : List Str) (ps : List PV)
  deriving Inhabited
abbrev SEnv := List Slot

/-- the object at a, its items frozen -/
def Own (K : Frag) (F H : Hp) (a : Addr) : PV → Prop
  | .lst ps => ∃ vs, H a = some (.lst vs) ∧ RepL K F ps vs
  | .dct ks ps => ∃ vs, H a = some (.dK (ks.zip vs)) ∧ ks.length = vs.length ∧ RepL K F ps vs
  | .ins c ns ps => ∃ dx vs, H a = some (.ins (He.ga K c) dx (ns.zip vs)) ∧ ns.length = vs.length ∧ RepL K F ps vs
  | _ => False

theorem Own.mono {K : Frag} {F F' H H' : Hp} {a : Addr} (e : Same F F') (k : ∀ o, H a = some o → H' a = some o) : ∀ {p : PV}, Own K F H a p → Own K F' H' a p
  | .lst ps, ⟨vs, h1, h2⟩ => ⟨vs, k _ h1, RepL.mono e _ _ h2⟩
  | .dct ks ps, ⟨vs, h1, h2, h3⟩ => ⟨vs, k _ h1, h2, RepL.mono e _ _ h3⟩
  | .ins c ns ps, ⟨dx, vs, h1, h2, h3⟩ => ⟨dx, vs, k _ h1, h2, RepL.mono e _ _ h3⟩
  | .non, h => h.elim
  | .bl _, h => h.elim
  | .int _, h => h.elim
  | .str _, h => h.elim
  | .tup _, h => h.elim
  | .scr _, h => h.elim
theorem Own.there {K : Frag} {F H : Hp} {a : Addr} : ∀ {p : PV}, Own K F H a p → H a ≠ none
  | .lst ps, ⟨vs, h1, _⟩ => by rw [h1]; simp
  | .dct ks ps, ⟨vs, h1, _⟩ => by rw [h1]; simp
  | .ins c ns ps, ⟨dx, vs, h1, _⟩ => by rw [h1]; simp
  | .non, h => h.elim
  | .bl _, h => h.elim
  | .int _, h => h.elim
  | .str _, h => h.elim
  | .tup _, h => h.elim
  | .scr _, h => h.elim
/-- frozen -/
theorem Own.rep {K : Frag} {F H : Hp} {a : Addr} {o : HO} (ho : H a = some o) (hn : F a = none) : ∀ {p : PV}, Own K F H a p → Rep K (upd F a o) p (.ref a)
  | .lst ps, ⟨vs, h1, h2⟩ => by
    rw [ho] at h1; cases h1
    exact ⟨a, vs, rfl, upd_same, RepL.mono (fun b u e => by rw [upd_ne (ne_of_none e hn)]; exact e) _ _ h2⟩
  | .dct ks ps, ⟨vs, h1, h2, h3⟩ => by
    rw [ho] at h1; cases h1
    exact ⟨a, vs, rfl, upd_same, h2, RepL.mono (fun b u e => by rw [upd_ne (ne_of_none e hn)]; exact e) _ _ h3⟩
  | .ins c ns ps, ⟨dx, vs, h1, h2, h3⟩ => by
    rw [ho] at h1; cases h1
    exact ⟨a, dx, vs, rfl, upd_same, h2, RepL.mono (fun b u e => by rw [upd_ne (ne_of_none e hn)]; exact e) _ _ h3⟩
  | .non, h => h.elim
  | .bl _, h => h.elim
  | .int _, h => h.elim
  | .str _, h => h.elim
  | .tup _, h => h.elim
  | .scr _, h => h.elim

/-- the base of a def's run: the frozen heap and the heap at its entry, the object that it may change, the exception at hand -/
structure Bs where
  F0 : Hp
  H0 : Hp
  ma : Option Addr
  xa : Option (Addr × Addr × Str)

def isOwn : Slot → Bool
  | .own _ => true
  | .mt => true
  | _ => false

def SlotOk (K : Frag) (B : Bs) (F H : Hp) (st : PV) (o : Option V) : Slot → Prop
  | .dead => True
  | .sh p => ∃ v, o = some v ∧ Rep K F p v
  | .own p => ∃ a, o = some (.ref a) ∧ F a = none ∧ B.H0 a = none ∧ Own K F H a p
  | .mt => ∃ a, o = some (.ref a) ∧ F a = none ∧ (B.ma = some a ∨ (B.ma = none ∧ B.H0 a = none)) ∧ Own K F H a st
  | .bor p => ∃ v, o = some v ∧ (Rep K F p v ∨ ∃ a, v = .ref a ∧ B.ma ≠ some a ∧ Own K F B.H0 a p)
  | .exc c ns ps => ∃ a d vs, B.xa = some (a, d, c) ∧ o = some (.ref a) ∧ F d = some (.xd (ns.zip vs)) ∧ ns.length = vs.length ∧ RepL K F ps vs

structure Good (K : Frag) (B : Bs) (F H : Hp) (env : SEnv) (st : PV) (σ : Sg) : Prop where
  le : Same F H
  le0 : Same B.F0 F
  kept : ∀ a o, B.H0 a = some o → B.ma ≠ some a → H a = some o
  there : ∀ a, B.H0 a ≠ none → H a ≠ none
  frs : ∀ a, F a ≠ none → B.F0 a ≠ none ∨ B.H0 a = none
  len : env.length = σ.length
  slots : ∀ (i : Nat) (s : Slot), env[i]? = some s → ∃ o, σ[i]? = some o ∧ SlotOk K B F H st o s
  sep : ∀ (i j : Nat) (s t : Slot) (a : Addr), i ≠ j → env[i]? = some s → env[j]? = some t → isOwn s = true → isOwn t = true → σ[i]? = some (some (.ref a)) → σ[j]? = some (some (.ref a)) → False
  mt1 : ∀ (i j : Nat), env[i]? = some Slot.mt → env[j]? = some Slot.mt → i = j

/-- the object that expressions may change -/
def MtA (env : SEnv) (σ : Sg) (a : Addr) : Prop := ∃ i : Nat, env[i]? = some Slot.mt ∧ σ[i]? = some (some (.ref a))

/-- what an expression may do -/
structure Stp (env : SEnv) (σ : Sg) (F H F' H' : Hp) : Prop where
  le : Same F F'
  keep : ∀ a o, H a = some o → ¬ MtA env σ a → H' a = some o
  frz : ∀ a, F' a ≠ none → F a ≠ none ∨ H a = none
  there : ∀ a, H a ≠ none → H' a ≠ none
theorem Stp.refl {env : SEnv} {σ : Sg} {F H : Hp} : Stp env σ F H F H := ⟨Same.refl F, fun _ _ h _ => h, fun _ h => .inl h, fun _ h => h⟩
theorem Stp.trans {env : SEnv} {σ : Sg} {F H F1 H1 F2 H2 : Hp} (s : Stp env σ F H F1 H1) (t : Stp env σ F1 H1 F2 H2) : Stp env σ F H F2 H2 where
  le := s.le.trans t.le
  keep := fun a o h n => t.keep a o (s.keep a o h n) n
  frz := fun a h => by
    rcases t.frz a h with h | h
    · exact s.frz a h
    · refine .inr ?_
      cases e : H a with
      | none => rfl
      | some o => exact absurd h (s.there a (by rw [e]; simp))
  there := fun a h => t.there a (s.there a h)

/-- a value that is read: frozen, or the object of a slot -/
def RT (K : Frag) (F H : Hp) (env : SEnv) (σ : Sg) (p : PV) (v : V) : Prop := Rep K F p v ∨ ∃ a, v = .ref a ∧ ¬ MtA env σ a ∧ Own K F H a p
theorem RT.step {K : Frag} {F H F' H' : Hp} {env : SEnv} {σ : Sg} {p : PV} {v : V} (s : Stp env σ F H F' H') (h : RT K F H env σ p v) : RT K F' H' env σ p v := by
  rcases h with h | ⟨a, e, n, h⟩
  · exact .inl (Rep.mono s.le _ _ h)
  · exact .inr ⟨a, e, n, Own.mono s.le (fun o ho => s.keep a o ho n) h⟩

/-! ## results -/
inductive ER (α : Type) where
  | ok (a : α) (st : PV)
  | exc (c : Str) (ns : List Str) (ps : List PV) (st : PV)
  | stuck
def ER.bind {α β : Type} (r : ER α) (g : α → PV → ER β) : ER β := match r with
  | .ok a st => g a st
  | .exc c ns ps st => .exc c ns ps st
  | .stuck => .stuck
@[simp] theorem ER.bind_ok {α β : Type} (a : α) (st : PV) (g : α → PV → ER β) : (ER.ok a st).bind g = g a st := (rfl)
@[simp] theorem ER.bind_exc {α β : Type} (c : Str) (ns : List Str) (ps : List PV) (st : PV) (g : α → PV → ER β) : (ER.exc c ns ps st : ER α).bind g = .exc c ns ps st := (rfl)
@[simp] theorem ER.bind_stuck {α β : Type} (g : α → PV → ER β) : (ER.stuck : ER α).bind g = .stuck := (rfl)

/-- what is to be shown of a result -/
def EPost {α : Type} (K : Frag) (B : Bs) (W : WX) (env : SEnv) (σ : Sg) (F H : Hp) (R : α → PV → Hp → Hp → Prop) : ER α → Prop
  | .ok a st => ∀ F' H', Stp env σ F H F' H' → Good K B F' H' env st σ → R a st F' H'
  | .exc c ns ps st => ∀ F' H' d vs, Same F F' → Good K B F' H' env st σ → F' d = some (.xd (ns.zip vs)) → ns.length = vs.length → RepL K F' ps vs → W (.ref (He.ga K c)) (some d) σ H'
  | .stuck => False

section
variable {K : Frag} {B : Bs} {W : WX} {env : SEnv} {σ : Sg} {F H : Hp} {α β : Type}
theorem EPost.mono {R R' : α → PV → Hp → Hp → Prop} {r : ER α} (h : EPost K B W env σ F H R r) (k : ∀ a st F' H', Stp env σ F H F' H' → Good K B F' H' env st σ → R a st F' H' → R' a st F' H') : EPost K B W env σ F H R' r := by
  cases r with
  | ok a st => exact fun F' H' s g => k a st F' H' s g (h F' H' s g)
  | exc c ns ps st => exact h
  | stuck => exact h
theorem EPost.step {R : α → PV → Hp → Hp → Prop} {r : ER α} {F1 H1 : Hp} (s : Stp env σ F H F1 H1) (h : EPost K B W env σ F H R r) : EPost K B W env σ F1 H1 R r := by
  cases r with
  | ok a st => exact fun F' H' s' g => h F' H' (s.trans s') g
  | exc c ns ps st => exact fun F' H' d vs e => h F' H' d vs (s.le.trans e)
  | stuck => exact h
theorem EPost.bind {R : β → PV → Hp → Hp → Prop} {r : ER α} {g : α → PV → ER β} (h : EPost K B W env σ F H R (r.bind g)) : EPost K B W env σ F H (fun a st F1 H1 => EPost K B W env σ F1 H1 R (g a st)) r := by
  cases r with
  | ok a st => exact fun F1 H1 s g' => EPost.step s h
  | exc c ns ps st => exact h
  | stuck => exact h
end

abbrev EF := SEnv → PV → ER PV
abbrev TF := SEnv → PV → ER Bool
abbrev AF := SEnv → PV → ER (List PV)

/-- an expression's reading by its meaning: its value is frozen; is read; is a new object of its own -/
def tE (K : Frag) (B : Bs) (W : WX) (f : EF) : TE := fun σ H Q => ∃ F env st, Good K B F H env st σ ∧ EPost K B W env σ F H (fun p _ F' H' => ∀ v, Rep K F' p v → Q v H') (f env st)
def tR (K : Frag) (B : Bs) (W : WX) (f : EF) : TE := fun σ H Q => ∃ F env st, Good K B F H env st σ ∧ EPost K B W env σ F H (fun p _ F' H' => ∀ v, RT K F' H' env σ p v → Q v H') (f env st)
def tO (K : Frag) (B : Bs) (W : WX) (f : EF) : TE := fun σ H Q => ∃ F env st, Good K B F H env st σ ∧ EPost K B W env σ F H (fun p _ F' H' => ∀ a, H a = none → F' a = none → Own K F' H' a p → Q (.ref a) H') (f env st)
def tT (K : Frag) (B : Bs) (W : WX) (f : TF) : TT := fun σ H Q => ∃ F env st, Good K B F H env st σ ∧ EPost K B W env σ F H (fun b _ _ H' => Q b H') (f env st)
structure QE (X : Cx) (B : Bs) (W : WX) (e : Expr) (f : EF) : Prop where
  pe : PE X e (tE X.K B W f)
structure QR (X : Cx) (B : Bs) (W : WX) (e : Expr) (f : EF) : Prop where
  pe : PE X e (tR X.K B W f)
structure QO (X : Cx) (B : Bs) (W : WX) (e : Expr) (f : EF) : Prop where
  pe : PE X e (tO X.K B W f)
structure QT (X : Cx) (B : Bs) (W : WX) (e : Expr) (f : TF) : Prop where
  pt : PT X e (tT X.K B W f)

theorem pe_imp {X : Cx} {e : Expr} {t t' : TE} (h : PE X e t) (k : ∀ σ H Q, t' σ H Q → t σ H Q) : PE X e t' := ⟨fun pins s σ H Q I q => h.run pins s σ H Q I (k σ H Q q)⟩
theorem pt_imp {X : Cx} {e : Expr} {t t' : TT} (h : PT X e t) (k : ∀ σ H Q, t' σ H Q → t σ H Q) : PT X e t' := ⟨fun pins s σ H Q I q => h.run pins s σ H Q I (k σ H Q q)⟩
theorem pa_imp {X : Cx} {es : List Expr} {t t' : TA} (h : PA X es t) (k : ∀ σ H Q, t' σ H Q → t σ H Q) : PA X es t' := ⟨fun pos pins s σ H Q I q => h.run pos pins s σ H Q I (k σ H Q q)⟩
theorem ps_imp {X : Cx} {st : Stmt} {t t' : TS} (h : PS X st t) (k : ∀ D σ H, t' D σ H → t D σ H) : PS X st t' := ⟨fun pins s σ H D I q => h.run pins s σ H D I (k D σ H q)⟩
theorem pss_imp {X : Cx} {st : List Stmt} {t t' : TS} (h : PSs X st t) (k : ∀ D σ H, t' D σ H → t D σ H) : PSs X st t' := ⟨fun pins s σ H D I q => h.run pins s σ H D I (k D σ H q)⟩

/-! ## states: new objects -/
section
variable {K : Frag} {B : Bs} {env : SEnv} {st : PV} {σ : Sg} {F H : Hp}
theorem Same.upd_new {G : Hp} {a : Addr} {o : HO} (h : G a = none) : Same G (upd G a o) := fun b u e => by rw [upd_ne (ne_of_none e h)]; exact e
theorem Good.fnone (g : Good K B F H env st σ) {a : Addr} (h : H a = none) : F a = none := by
  cases e : F a with
  | none => rfl
  | some o => have := g.le a o e; rw [h] at this; cases this
theorem Good.h0none (g : Good K B F H env st σ) {a : Addr} (h : H a = none) : B.H0 a = none := by
  cases e : B.H0 a with
  | none => rfl
  | some o => exact absurd h (g.there a (by rw [e]; simp))
theorem SlotOk.mono {F' H' : Hp} {o : Option V} {s : Slot} (e : Same F F') (hf : ∀ a, F a = none → H a ≠ none → F' a = none) (k : ∀ a o, H a = some o → H' a = some o) (h : SlotOk K B F H st o s) : SlotOk K B F' H' st o s := by
  cases s with
  | dead => trivial
  | sh p => obtain ⟨v, h1, h2⟩ := h; exact ⟨v, h1, Rep.mono e _ _ h2⟩
  | own p => obtain ⟨a, h1, h2, h3, h4⟩ := h; exact ⟨a, h1, hf a h2 h4.there, h3, h4.mono e (k a)⟩
  | mt => obtain ⟨a, h1, h2, h3, h4⟩ := h; exact ⟨a, h1, hf a h2 h4.there, h3, h4.mono e (k a)⟩
  | bor p =>
    obtain ⟨v, h1, h2⟩ := h
    refine ⟨v, h1, ?_⟩
    rcases h2 with h2 | ⟨a, h2, h3, h4⟩
    · exact .inl (Rep.mono e _ _ h2)
    · exact .inr ⟨a, h2, h3, h4.mono e fun _ z => z⟩
  | exc c ns ps => obtain ⟨a, d, vs, h0, h1, h2, h3, h4⟩ := h; exact ⟨a, d, vs, h0, h1, e _ _ h2, h3, RepL.mono e _ _ h4⟩
/-- a new object, frozen at once -/
theorem Good.alloc (g : Good K B F H env st σ) {a : Addr} {o : HO} (h : H a = none) : Good K B (upd F a o) (upd H a o) env st σ where
  le := fun b u e => by
    by_cases hb : b = a
    · subst hb; rw [upd_same] at e ⊢; exact e
    · rw [upd_ne hb] at e ⊢; exact g.le b u e
  le0 := g.le0.trans (Same.upd_new (g.fnone h))
  kept := fun b u e n => Same.upd_new h b u (g.kept b u e n)
  there := fun b e => by
    by_cases hb : b = a
    · subst hb; rw [upd_same]; simp
    · rw [upd_ne hb]; exact g.there b e
  frs := fun b e => by
    by_cases hb : b = a
    · subst hb; exact .inr (g.h0none h)
    · rw [upd_ne hb] at e; exact g.frs b e
  len := g.len
  slots := fun i s e => by
    obtain ⟨w, h1, h2⟩ := g.slots i s e
    exact ⟨w, h1, h2.mono (Same.upd_new (g.fnone h)) (fun b h3 h4 => by
      by_cases hb : b = a
      · subst hb; exact absurd h h4
      · rw [upd_ne hb]; exact h3) (Same.upd_new h)⟩
  sep := g.sep
  mt1 := g.mt1
/-- a new object, not frozen -/
theorem Good.alloc0 (g : Good K B F H env st σ) {a : Addr} {o : HO} (h : H a = none) : Good K B F (upd H a o) env st σ where
  le := fun b u e => Same.upd_new h b u (g.le b u e)
  le0 := g.le0
  kept := fun b u e n => Same.upd_new h b u (g.kept b u e n)
  there := fun b e => by
    by_cases hb : b = a
    · subst hb; rw [upd_same]; simp
    · rw [upd_ne hb]; exact g.there b e
  frs := g.frs
  len := g.len
  slots := fun i s e => by
    obtain ⟨w, h1, h2⟩ := g.slots i s e
    exact ⟨w, h1, h2.mono (Same.refl F) (fun _ h _ => h) (Same.upd_new h)⟩
  sep := g.sep
  mt1 := g.mt1
theorem Stp.alloc {a : Addr} {o : HO} (hf : F a = none) (h : H a = none) : Stp env σ F H (upd F a o) (upd H a o) where
  le := Same.upd_new hf
  keep := fun b u e _ => Same.upd_new h b u e
  frz := fun b e => by
    by_cases hb : b = a
    · subst hb; exact .inr h
    · rw [upd_ne hb] at e; exact .inl e
  there := fun b e => by
    by_cases hb : b = a
    · subst hb; rw [upd_same]; simp
    · rw [upd_ne hb]; exact e
theorem Stp.alloc0 {a : Addr} {o : HO} (h : H a = none) : Stp env σ F H F (upd H a o) where
  le := Same.refl F
  keep := fun b u e _ => Same.upd_new h b u e
  frz := fun b e => .inl e
  there := fun b e => by
    by_cases hb : b = a
    · subst hb; rw [upd_same]; simp
    · rw [upd_ne hb]; exact e
/-- freezing an object that no slot owns -/
theorem Good.freeze (g : Good K B F H env st σ) {a : Addr} {o : HO} (h : H a = some o) (hn : F a = none) (h0 : B.H0 a = none) (hs : ∀ (i : Nat) (s : Slot), env[i]? = some s → isOwn s = true → σ[i]? ≠ some (some (.ref a))) : Good K B (upd F a o) H env st σ where
  le := fun b u e => by
    by_cases hb : b = a
    · subst hb; rw [upd_same] at e; cases e; exact h
    · rw [upd_ne hb] at e; exact g.le b u e
  le0 := g.le0.trans (Same.upd_new hn)
  kept := g.kept
  there := g.there
  frs := fun b e => by
    by_cases hb : b = a
    · subst hb; exact .inr h0
    · rw [upd_ne hb] at e; exact g.frs b e
  len := g.len
  slots := fun i s e => by
    obtain ⟨w, h1, h2⟩ := g.slots i s e
    refine ⟨w, h1, ?_⟩
    have m : Same F (upd F a o) := Same.upd_new hn
    cases s with
    | dead => trivial
    | sh p => obtain ⟨v, h3, h4⟩ := h2; exact ⟨v, h3, Rep.mono m _ _ h4⟩
    | own p =>
      obtain ⟨b, h3, h4, h5, h6⟩ := h2
      refine ⟨b, h3, ?_, h5, h6.mono m fun _ z => z⟩
      have hb : b ≠ a := fun z => hs i _ e rfl (by rw [h1, h3, z])
      rw [upd_ne hb]; exact h4
    | mt =>
      obtain ⟨b, h3, h4, h5, h6⟩ := h2
      refine ⟨b, h3, ?_, h5, h6.mono m fun _ z => z⟩
      have hb : b ≠ a := fun z => hs i _ e rfl (by rw [h1, h3, z])
      rw [upd_ne hb]; exact h4
    | bor p =>
      obtain ⟨v, h3, h4⟩ := h2
      refine ⟨v, h3, ?_⟩
      rcases h4 with h4 | ⟨b, h4, h5, h6⟩
      · exact .inl (Rep.mono m _ _ h4)
      · exact .inr ⟨b, h4, h5, h6.mono m fun _ z => z⟩
    | exc c ns ps => obtain ⟨b, d, vs, h0, h3, h4, h5, h6⟩ := h2; exact ⟨b, d, vs, h0, h3, m _ _ h4, h5, RepL.mono m _ _ h6⟩
  sep := g.sep
  mt1 := g.mt1
theorem Good.mtNone (g : Good K B F H env st σ) {a : Addr} (h : H a = none) : ¬ MtA env σ a := fun ⟨i, h1, h2⟩ => by
  obtain ⟨w, h3, h4⟩ := g.slots i _ h1
  obtain ⟨b, h5, _, _, h6⟩ := h4
  rw [h2] at h3; cases h3; cases h5
  exact h6.there h
theorem Good.ownNone (g : Good K B F H env st σ) {a : Addr} (h : H a = none) : ∀ (i : Nat) (s : Slot), env[i]? = some s → isOwn s = true → σ[i]? ≠ some (some (.ref a)) := fun i s h1 h2 h3 => by
  obtain ⟨w, h4, h5⟩ := g.slots i s h1
  rw [h3] at h4; cases h4
  cases s with
  | own p => obtain ⟨b, h5, _, _, h6⟩ := h5; cases h5; exact h6.there h
  | mt => obtain ⟨b, h5, _, _, h6⟩ := h5; cases h5; exact h6.there h
  | _ => cases h2
end

/-! ## from one reading to another -/
section
variable {X : Cx} {B : Bs} {W : WX} {e : Expr} {f : EF}
theorem QE.rd (h : QE X B W e f) : QR X B W e f := ⟨pe_imp h.pe fun σ H Q ⟨F, env, st, g, q⟩ => ⟨F, env, st, g, q.mono fun _ _ _ _ _ _ r v hv => r v (.inl hv)⟩⟩
/-- a new object is frozen -/
theorem QO.fz (h : QO X B W e f) : QE X B W e f := ⟨pe_imp h.pe fun σ H Q ⟨F, env, st, g, q⟩ => ⟨F, env, st, g, by
  cases hr : f env st with
  | stuck => rw [hr] at q; exact q
  | exc c ns ps st' => rw [hr] at q; exact q
  | ok p st' =>
    rw [hr] at q
    intro F' H' s g' a ha hf ho
    obtain ⟨o, hao⟩ : ∃ o, H' a = some o := by
      cases z : H' a with
      | none => exact absurd z ho.there
      | some o => exact ⟨o, rfl⟩
    have hm : ¬ MtA env σ a := g.mtNone ha
    refine q (upd F' a o) H' ⟨s.le.trans (Same.upd_new hf), s.keep, fun b hb => ?_, s.there⟩ (g'.freeze hao hf (g.h0none ha) (g.ownNone ha)) _ (ho.rep hao hf)
    by_cases hb' : b = a
    · subst hb'; exact .inr ha
    · rw [upd_ne hb'] at hb; exact s.frz b hb⟩⟩
end

end KI

/-! part KI2 -/
set_option Elab.async false
set_option linter.all false
set_option maxRecDepth 100000
set_option maxHeartbeats 4000000
namespace KI
open PySem PySem.Spec PyProof.Rows L2

/-! ## statements -/
inductive SR where
  | nx (env : SEnv) (st : PV)
  | brk (env : SEnv) (st : PV)
  | ct (env : SEnv) (st : PV)
  | ret (p : PV) (own : Bool) (env : SEnv) (st : PV)
  | exc (c : Str) (ns : List Str) (ps : List PV) (env : SEnv) (st : PV)
  | stuck
abbrev SF := SEnv → PV → SR

/-- what a return hands back -/
def RetOk (K : Frag) (B : Bs) (F H : Hp) (own : Bool) (p : PV) (v : V) : Prop :=
  if own = true then ∃ a, v = .ref a ∧ F a = none ∧ B.H0 a = none ∧ Own K F H a p else Rep K F p v

def SPost (K : Frag) (B : Bs) (W : WX) (D : Ends) (F : Hp) : SR → Prop
  | .nx env st => ∀ σ' F' H', Same F F' → Good K B F' H' env st σ' → D.nx σ' H'
  | .brk env st => ∀ σ' F' H', Same F F' → Good K B F' H' env st σ' → D.bk σ' H'
  | .ct env st => ∀ σ' F' H', Same F F' → Good K B F' H' env st σ' → D.ct σ' H'
  | .ret p own env st => ∀ v σ' F' H', Same F F' → Good K B F' H' env st σ' → RetOk K B F' H' own p v → D.rt v H'
  | .exc c ns ps env st => ∀ σ' F' H' d vs, Same F F' → Good K B F' H' env st σ' → F' d = some (.xd (ns.zip vs)) → ns.length = vs.length → RepL K F' ps vs → W (.ref (He.ga K c)) (some d) σ' H'
  | .stuck => False
theorem SPost.mono {K : Frag} {B : Bs} {W : WX} {D : Ends} {F F1 : Hp} {r : SR} (s : Same F F1) (h : SPost K B W D F r) : SPost K B W D F1 r := by
  cases r with
  | nx env st => exact fun σ' F' H' e => h σ' F' H' (s.trans e)
  | brk env st => exact fun σ' F' H' e => h σ' F' H' (s.trans e)
  | ct env st => exact fun σ' F' H' e => h σ' F' H' (s.trans e)
  | ret p o env st => exact fun v σ' F' H' e => h v σ' F' H' (s.trans e)
  | exc c ns ps env st => exact fun σ' F' H' d vs e => h σ' F' H' d vs (s.trans e)
  | stuck => exact h

def tS (K : Frag) (B : Bs) (W : WX) (g : SF) : TS := fun D σ H => ∃ F env st, Good K B F H env st σ ∧ SPost K B W D F (g env st)
structure QS (X : Cx) (B : Bs) (W : WX) (s : Stmt) (g : SF) : Prop where
  ps : PS X s (tS X.K B W g)
structure QSs (X : Cx) (B : Bs) (W : WX) (ss : List Stmt) (g : SF) : Prop where
  pss : PSs X ss (tS X.K B W g)

/-- an expression's result within a statement -/
def liftS {α : Type} (r : ER α) (env : SEnv) (k : α → PV → SR) : SR := match r with
  | .ok a st => k a st
  | .exc c ns ps st => .exc c ns ps env st
  | .stuck => .stuck
@[simp] theorem liftS_ok {α : Type} (a : α) (st : PV) (env : SEnv) (k : α → PV → SR) : liftS (.ok a st) env k = k a st := (rfl)
@[simp] theorem liftS_exc {α : Type} (c : Str) (ns : List Str) (ps : List PV) (st : PV) (env : SEnv) (k : α → PV → SR) : liftS (.exc c ns ps st : ER α) env k = .exc c ns ps env st := (rfl)
@[simp] theorem liftS_stuck {α : Type} (env : SEnv) (k : α → PV → SR) : liftS (.stuck : ER α) env k = .stuck := (rfl)
theorem SPost.lift {α : Type} {K : Frag} {B : Bs} {W : WX} {D : Ends} {F H : Hp} {env : SEnv} {σ : Sg} {r : ER α} {k : α → PV → SR} (h : SPost K B W D F (liftS r env k)) :
    EPost K B W env σ F H (fun a st F' H' => SPost K B W D F' (k a st)) r := by
  cases r with
  | ok a st => exact fun F' H' s g => SPost.mono s.le h
  | exc c ns ps st => exact fun F' H' d vs e g => h σ F' H' d vs e g
  | stuck => exact h

section
variable {X : Cx} {B : Bs} {W : WX} {s : Stmt} {ss : List Stmt} {g g1 g2 : SF} {e : Expr} {f : EF}

def nxS : SF := fun env st => .nx env st
def seqS (g1 g2 : SF) : SF := fun env st => match g1 env st with
  | .nx env' st' => g2 env' st'
  | r => r
theorem qss_nil : QSs X B W [] nxS := ⟨pss_imp pss_nil fun D σ H ⟨F, env, st, g, q⟩ => q σ F H (Same.refl F) g⟩
theorem seq_post {K : Frag} {D : Ends} {F : Hp} {r : SR} (q : SPost K B W D F (match r with | .nx env' st' => g2 env' st' | r => r)) : SPost K B W { D with nx := tS K B W g2 D } F r := by
  cases r with
  | nx env st => exact fun σ' F' H' e g' => ⟨F', env, st, g', SPost.mono e q⟩
  | brk env st => exact q
  | ct env st => exact q
  | ret p o env st => exact q
  | exc c ns ps env st => exact q
  | stuck => exact q
theorem qss_cons (h1 : QS X B W s g1) (h2 : QSs X B W ss g2) : QSs X B W (s :: ss) (seqS g1 g2) :=
  ⟨pss_imp (pss_cons h1.ps h2.pss) fun D σ H ⟨F, env, st, g, q⟩ => ⟨F, env, st, g, seq_post q⟩⟩
theorem qss_one (h1 : QS X B W s g1) : QSs X B W [s] g1 := ⟨pss_one h1.ps⟩
theorem qss_never : QSs X B W ss (fun _ _ => .stuck) := ⟨pss_imp pss_never fun D σ H ⟨F, env, st, g, q⟩ => q⟩
theorem qs_never : QS X B W s (fun _ _ => .stuck) := ⟨ps_imp ps_never fun D σ H ⟨F, env, st, g, q⟩ => q⟩

/-! ### slots set, frozen, forgotten -/
theorem set_get {α : Type} {l : List α} {i j : Nat} {a x : α} (h : (l.set i a)[j]? = some x) : (i = j ∧ x = a ∧ j < l.length) ∨ (i ≠ j ∧ l[j]? = some x) := by
  by_cases e : i = j
  · subst e
    by_cases hl : i < l.length
    · rw [List.getElem?_set_self hl] at h; exact .inl ⟨rfl, (Option.some.inj h).symm, hl⟩
    · rw [List.getElem?_eq_none (by simpa using hl)] at h; cases h
  · rw [List.getElem?_set_ne e] at h; exact .inr ⟨e, h⟩
theorem Good.set {K : Frag} {F H : Hp} {env : SEnv} {st : PV} {σ : Sg} (g : Good K B F H env st σ) (i : Nat) {v : V} {s : Slot} (hs : SlotOk K B F H st (some v) s)
    (hd : isOwn s = true → ∀ (j : Nat) (t : Slot) (a : Addr), env[j]? = some t → isOwn t = true → σ[j]? = some (some (.ref a)) → v ≠ .ref a) (hm : s ≠ .mt := by exact fun z => nomatch z) : Good K B F H (env.set i s) st (σ.set i (some v)) where
  mt1 := fun j k h1 h2 => by
    rcases set_get h1 with ⟨_, z, _⟩ | ⟨_, h1⟩
    · exact absurd z.symm hm
    · rcases set_get h2 with ⟨_, z, _⟩ | ⟨_, h2⟩
      · exact absurd z.symm hm
      · exact g.mt1 j k h1 h2
  le := g.le
  le0 := g.le0
  kept := g.kept
  there := g.there
  frs := g.frs
  len := by rw [List.length_set, List.length_set]; exact g.len
  slots := fun j t h => by
    rcases set_get h with ⟨rfl, rfl, hl⟩ | ⟨ne, h⟩
    · refine ⟨some v, ?_, hs⟩
      rw [List.getElem?_set_self (by rw [← g.len]; exact hl)]
    · obtain ⟨o, h1, h2⟩ := g.slots j t h
      exact ⟨o, by rw [List.getElem?_set_ne ne]; exact h1, h2⟩
  sep := fun j k t u a ne h1 h2 o1 o2 e1 e2 => by
    rcases set_get h1 with ⟨rfl, rfl, hl⟩ | ⟨n1, h1'⟩
    · rcases set_get h2 with ⟨rfl, rfl, _⟩ | ⟨n2, h2'⟩
      · exact ne rfl
      · rw [List.getElem?_set_self (by rw [← g.len]; exact hl)] at e1
        rw [List.getElem?_set_ne n2] at e2
        exact hd o1 k u a h2' o2 e2 (Option.some.inj (Option.some.inj e1))
    · rw [List.getElem?_set_ne n1] at e1
      rcases set_get h2 with ⟨rfl, rfl, hl⟩ | ⟨n2, h2'⟩
      · rw [List.getElem?_set_self (by rw [← g.len]; exact hl)] at e2
        exact hd o2 j t a h1' o1 e1 (Option.some.inj (Option.some.inj e2))
      · rw [List.getElem?_set_ne n2] at e2
        exact g.sep j k t u a ne h1' h2' o1 o2 e1 e2
/-- the slot's reading changes, its value does not -/
theorem Good.turn {K : Frag} {F H : Hp} {env : SEnv} {st : PV} {σ : Sg} (g : Good K B F H env st σ) (i : Nat) {s s' : Slot} (hi : env[i]? = some s) (ho : isOwn s' = true → isOwn s = true) (hs : ∀ o, σ[i]? = some o → SlotOk K B F H st o s → SlotOk K B F H st o s') (hm : s' = .mt → s = .mt := by exact fun z => nomatch z) : Good K B F H (env.set i s') st σ where
  mt1 := fun j k h1 h2 => by
    rcases set_get h1 with ⟨e1, z, _⟩ | ⟨_, h1'⟩
    · have hi' : env[i]? = some .mt := by rw [hi, hm z.symm]
      rcases set_get h2 with ⟨e2, z2, _⟩ | ⟨_, h2'⟩
      · exact e1.symm.trans e2
      · exact e1.symm.trans (g.mt1 i k hi' h2')
    · rcases set_get h2 with ⟨e2, z2, _⟩ | ⟨_, h2'⟩
      · have hi' : env[i]? = some .mt := by rw [hi, hm z2.symm]
        exact (g.mt1 j i h1' hi').trans e2
      · exact g.mt1 j k h1' h2'
  le := g.le
  le0 := g.le0
  kept := g.kept
  there := g.there
  frs := g.frs
  len := by rw [List.length_set]; exact g.len
  slots := fun j t h => by
    rcases set_get h with ⟨rfl, rfl, hl⟩ | ⟨ne, h⟩
    · obtain ⟨o, h1, h2⟩ := g.slots i s hi
      exact ⟨o, h1, hs o h1 h2⟩
    · exact g.slots j t h
  sep := fun j k t u a ne h1 h2 o1 o2 e1 e2 => by
    rcases set_get h1 with ⟨rfl, rfl, hl⟩ | ⟨n1, h1'⟩
    · rcases set_get h2 with ⟨rfl, rfl, _⟩ | ⟨n2, h2'⟩
      · exact ne rfl
      · exact g.sep i k s u a ne hi h2' (ho o1) o2 e1 e2
    · rcases set_get h2 with ⟨rfl, rfl, hl⟩ | ⟨n2, h2'⟩
      · exact g.sep j i t s a ne h1' hi o1 (ho o2) e1 e2
      · exact g.sep j k t u a ne h1' h2' o1 o2 e1 e2
theorem Good.kill {K : Frag} {F H : Hp} {env : SEnv} {st : PV} {σ : Sg} (g : Good K B F H env st σ) (i : Nat) : Good K B F H (env.set i .dead) st σ := by
  cases h : env[i]? with
  | none =>
    have e : env.set i .dead = env := List.set_eq_of_length_le (List.getElem?_eq_none_iff.mp h)
    rw [e]; exact g
  | some s => exact g.turn i h (fun z => nomatch z) fun _ _ _ => trivial
def killS (is : List Nat) (env : SEnv) : SEnv := is.foldl (fun env i => env.set i .dead) env
theorem Good.kills {K : Frag} {F H : Hp} {st : PV} {σ : Sg} : ∀ (is : List Nat) {env : SEnv}, Good K B F H env st σ → Good K B F H (killS is env) st σ
  | [], _, g => g
  | i :: is, _, g => Good.kills is (g.kill i)
theorem qss_kill (is : List Nat) (h : QSs X B W ss g) : QSs X B W ss (fun env st => g (killS is env) st) :=
  ⟨pss_imp h.pss fun D σ H ⟨F, env, st, g', q⟩ => ⟨F, killS is env, st, g'.kills is, q⟩⟩
/-- forgotten at the end of a block -/
theorem qss_end (is : List Nat) : QSs X B W [] (fun env st => .nx (killS is env) st) := ⟨pss_imp pss_nil fun D σ H ⟨F, env, st, g, q⟩ => q σ F H (Same.refl F) (g.kills is)⟩
def frzE (i : Nat) (env : SEnv) : SEnv := match env[i]? with
  | some (.own p) => env.set i (.sh p)
  | _ => env
theorem Good.frz {K : Frag} {F H : Hp} {env : SEnv} {st : PV} {σ : Sg} (g : Good K B F H env st σ) (i : Nat) : ∃ F', Same F F' ∧ Good K B F' H (frzE i env) st σ := by
  unfold frzE
  cases h : env[i]? with
  | none => exact ⟨F, Same.refl F, g⟩
  | some s =>
    cases s with
    | own p =>
      obtain ⟨o, h1, a, h2, h3, h4, h5⟩ := g.slots i _ h
      subst h2
      obtain ⟨u, hu⟩ : ∃ u, H a = some u := by
        cases z : H a with
        | none => exact absurd z h5.there
        | some u => exact ⟨u, rfl⟩
      have g1 := g.kill i
      refine ⟨upd F a u, Same.upd_new h3, ?_⟩
      have g2 : Good K B (upd F a u) H (env.set i .dead) st σ := g1.freeze hu h3 h4 fun j t e1 e2 e3 => by
        rcases set_get e1 with ⟨rfl, rfl, _⟩ | ⟨ne, e1⟩
        · cases e2
        · exact g.sep i j _ t a ne h e1 rfl e2 h1 e3
      have hi : (env.set i .dead)[i]? = some .dead := List.getElem?_set_self ((List.getElem?_eq_some_iff.mp h).1)
      have g3 := g2.turn i (s' := .sh p) hi (fun z => nomatch z) fun o e _ => by
        rw [h1] at e; cases e
        exact ⟨_, rfl, h5.rep hu h3⟩
      rw [List.set_set] at g3
      exact g3
    | dead => exact ⟨F, Same.refl F, g⟩
    | sh p => exact ⟨F, Same.refl F, g⟩
    | mt => exact ⟨F, Same.refl F, g⟩
    | bor p => exact ⟨F, Same.refl F, g⟩
    | exc c ns ps => exact ⟨F, Same.refl F, g⟩
theorem qss_frz (i : Nat) (h : QSs X B W ss g) : QSs X B W ss (fun env st => g (frzE i env) st) :=
  ⟨pss_imp h.pss fun D σ H ⟨F, env, st, g', q⟩ => by
    obtain ⟨F', s, g2⟩ := g'.frz i
    exact ⟨F', _, st, g2, SPost.mono s q⟩⟩

/-! ### simple statements -/
theorem qs_expr {pos : Pos} (he : QE X B W e f) (hs : swapsWith e none pos.line X.env = pure false := by rfl) : QS X B W (.Expr e pos) (fun env st => liftS (f env st) env fun _ st' => .nx env st') :=
  ⟨ps_imp (ps_expr he.pe hs) fun D σ H ⟨F, env, st, g, q⟩ => ⟨F, env, st, g, q.lift.mono fun p st' F' H' s g' r v hv => r σ F' H' (Same.refl F') g'⟩⟩
theorem qs_pass {pos : Pos} : QS X B W (.Pass pos) nxS := ⟨ps_imp ps_pass fun D σ H ⟨F, env, st, g, q⟩ => q σ F H (Same.refl F) g⟩
theorem qs_break {pos : Pos} : QS X B W (.Break pos) (fun env st => .brk env st) := ⟨ps_imp ps_break fun D σ H ⟨F, env, st, g, q⟩ => q σ F H (Same.refl F) g⟩
theorem qs_continue {pos : Pos} : QS X B W (.Continue pos) (fun env st => .ct env st) := ⟨ps_imp ps_continue fun D σ H ⟨F, env, st, g, q⟩ => q σ F H (Same.refl F) g⟩
def retS (f : EF) : SF := fun env st => liftS (f env st) env fun p st' => .ret p false env st'
def retO (f : EF) : SF := fun env st => liftS (f env st) env fun p st' => .ret p true env st'
theorem qs_ret {pos : Pos} (he : QE X B W e f) : QS X B W (.Return (some e) pos) (retS f) :=
  ⟨ps_imp (ps_ret he.pe) fun D σ H ⟨F, env, st, g, q⟩ => ⟨F, env, st, g, (SPost.lift (H := H) (σ := σ) q).mono fun p st' F' H' s g' r v hv => r v σ F' H' (Same.refl F') g' hv⟩⟩
theorem qs_retO {pos : Pos} (he : QO X B W e f) : QS X B W (.Return (some e) pos) (retO f) :=
  ⟨ps_imp (ps_ret he.pe) fun D σ H ⟨F, env, st, g, q⟩ => ⟨F, env, st, g, (SPost.lift (H := H) (σ := σ) q).mono fun p st' F' H' s g' r a ha hf ho => r (.ref a) σ F' H' (Same.refl F') g' ⟨a, rfl, hf, g.h0none ha, ho⟩⟩⟩
/-- return of a slot's own object -/
def retV (i : Nat) : SF := fun env st => match env[i]? with
  | some (.own p) => .ret p true env st
  | _ => .stuck
theorem qs_retV {pos p1 : Pos} (i : Nat) {x : Str} (hN : X.N[i]? = some x := by rfl) (hv : Vis X.env.scope x := by first | exact Or.inl rfl | exact Or.inr (Or.inl rfl) | exact Or.inr (Or.inr rfl)) (hd : (x == ("__debug__" : Str)) = false := by decide)
    (hcd : (x == ("__classdict__" : Str)) = false := by decide) : QS X B W (.Return (some (.Name x p1)) pos) (retV i) :=
  ⟨ps_imp (ps_ret (pe_var hN hv hd hcd)) fun D σ H ⟨F, env, st, g, q⟩ => by
    unfold retV at q
    cases h : env[i]? with
    | none => rw [h] at q; exact q.elim
    | some s =>
      rw [h] at q
      cases s with
      | own p =>
        obtain ⟨o, h1, a, h2, h3, h4, h5⟩ := g.slots i _ h
        subst h2
        exact ⟨.ref a, h1, q (.ref a) σ F H (Same.refl F) g ⟨a, rfl, h3, h4, h5⟩⟩
      | _ => exact q.elim⟩
theorem qs_retN {pos : Pos} : QS X B W (.Return none pos) (fun env st => .ret .non false env st) :=
  ⟨ps_imp ps_retN fun D σ H ⟨F, env, st, g, q⟩ => q .non σ F H (Same.refl F) g rfl⟩

def setS (i : Nat) (f : EF) : SF := fun env st => liftS (f env st) env fun p st' => .nx (env.set i (.sh p)) st'
def setO (i : Nat) (f : EF) : SF := fun env st => liftS (f env st) env fun p st' => .nx (env.set i (.own p)) st'
theorem set_post {K : Frag} {D : Ends} {F H : Hp} {env : SEnv} {st : PV} {σ : Sg} {i : Nat} (g : Good K B F H env st σ) (q : SPost K B W D F (setS i f env st)) :
    EPost K B W env σ F H (fun p st' F' H' => ∀ v, Rep K F' p v → D.nx (σ.set i (some v)) H') (f env st) :=
  (SPost.lift (H := H) (σ := σ) q).mono fun p st' F' H' s g' r v hv => r (σ.set i (some v)) F' H' (Same.refl F') (g'.set i ⟨v, rfl, hv⟩ fun z => nomatch z)
theorem setO_post {K : Frag} {D : Ends} {F H : Hp} {env : SEnv} {st : PV} {σ : Sg} {i : Nat} (g : Good K B F H env st σ) (q : SPost K B W D F (setO i f env st)) :
    EPost K B W env σ F H (fun p st' F' H' => ∀ a, H a = none → F' a = none → Own K F' H' a p → D.nx (σ.set i (some (.ref a))) H') (f env st) :=
  (SPost.lift (H := H) (σ := σ) q).mono fun p st' F' H' s g' r a ha hf ho => r (σ.set i (some (.ref a))) F' H' (Same.refl F') (g'.set i ⟨a, rfl, hf, g.h0none ha, ho⟩ fun _ j t b e1 e2 e3 z => by
    cases z
    exact g.ownNone ha j t e1 e2 e3)
theorem qs_set {x : Str} {pos pos' : Pos} (i : Nat) (hN : X.N.Nodup) (he : QE X B W e f) (hi : X.N[i]? = some x := by rfl) (hx : Loc X.env.scope x := by first | exact .inl rfl | exact .inr rfl) (hs : swapsWith e (some (.Name x pos')) pos.line X.env = pure false := by rfl) (hf : X.fn x = true ∨ X.env.scope.names.lookup x = some .local := by first | exact .inl rfl | exact .inr rfl) :
    QS X B W (.Assign [.Name x pos'] e pos) (setS i f) :=
  ⟨ps_imp (ps_set hN hi hx he.pe hs hf) fun D σ H ⟨F, env, st, g, q⟩ => ⟨F, env, st, g, set_post g q⟩⟩
theorem qs_setO {x : Str} {pos pos' : Pos} (i : Nat) (hN : X.N.Nodup) (he : QO X B W e f) (hi : X.N[i]? = some x := by rfl) (hx : Loc X.env.scope x := by first | exact .inl rfl | exact .inr rfl) (hs : swapsWith e (some (.Name x pos')) pos.line X.env = pure false := by rfl) (hf : X.fn x = true ∨ X.env.scope.names.lookup x = some .local := by first | exact .inl rfl | exact .inr rfl) :
    QS X B W (.Assign [.Name x pos'] e pos) (setO i f) :=
  ⟨ps_imp (ps_set hN hi hx he.pe hs hf) fun D σ H ⟨F, env, st, g, q⟩ => ⟨F, env, st, g, setO_post g q⟩⟩
/-- the slot becomes the one that expressions change -/
def mtE (i : Nat) (env : SEnv) : Option (SEnv × PV) := match env[i]? with
  | some (.own p) => if env.any (fun s => match s with | .mt => true | _ => false) then none else some (env.set i .mt, p)
  | _ => none
theorem Good.mtE {K : Frag} {F H : Hp} {env env' : SEnv} {st st' : PV} {σ : Sg} {i : Nat} (g' : Good K B F H env st σ) (hB : B.ma = none) (hq : mtE i env = some (env', st')) : Good K B F H env' st' σ := by
  unfold KI.mtE at hq
  cases h : env[i]? with
  | none => rw [h] at hq; cases hq
  | some s =>
    rw [h] at hq
    cases s with
    | own p =>
      dsimp only at hq
      split at hq
      · cases hq
      · rename_i hn
        cases hq
        have nomt : ∀ (j : Nat), env[j]? ≠ some .mt := fun j z => hn (List.any_eq_true.mpr ⟨.mt, List.mem_of_getElem? z, rfl⟩)
        refine ⟨g'.le, g'.le0, g'.kept, g'.there, g'.frs, by rw [List.length_set]; exact g'.len, fun j t e => ?_, fun j k t u a ne h1 h2 o1 o2 e1 e2 => ?_, fun j k h1 h2 => ?_⟩
        · rcases set_get e with ⟨rfl, rfl, _⟩ | ⟨ne, e⟩
          · obtain ⟨o, h1, a, h2, h3, h4, h5⟩ := g'.slots i _ h
            exact ⟨o, h1, a, h2, h3, .inr ⟨hB, h4⟩, h5⟩
          · obtain ⟨o, h1, h2⟩ := g'.slots j t e
            refine ⟨o, h1, ?_⟩
            cases t with
            | mt => exact absurd e (nomt j)
            | dead => exact h2
            | sh p => exact h2
            | own p => exact h2
            | bor p => exact h2
            | exc c ns ps => exact h2
        · rcases set_get h1 with ⟨rfl, rfl, _⟩ | ⟨n1, h1'⟩
          · rcases set_get h2 with ⟨rfl, rfl, _⟩ | ⟨n2, h2'⟩
            · exact ne rfl
            · exact g'.sep i k _ u a ne h h2' rfl o2 e1 e2
          · rcases set_get h2 with ⟨rfl, rfl, _⟩ | ⟨n2, h2'⟩
            · exact g'.sep j i t _ a ne h1' h o1 rfl e1 e2
            · exact g'.sep j k t u a ne h1' h2' o1 o2 e1 e2
        · rcases set_get h1 with ⟨e1, _, _⟩ | ⟨_, h1'⟩
          · rcases set_get h2 with ⟨e2, _, _⟩ | ⟨_, h2'⟩
            · exact e1.symm.trans e2
            · exact absurd h2' (nomt k)
          · exact absurd h1' (nomt j)
    | _ => cases hq
def mtS (i : Nat) (g : SF) : SF := fun env _ => match mtE i env with
  | some x => g x.1 x.2
  | none => .stuck
theorem qss_mt (i : Nat) (hB : B.ma = none) (h : QSs X B W ss g) : QSs X B W ss (mtS i g) :=
  ⟨pss_imp h.pss fun D σ H ⟨F, env, st, g', q⟩ => by
    unfold mtS at q
    cases hq : mtE i env with
    | none => rw [hq] at q; exact q.elim
    | some x => rw [hq] at q; exact ⟨F, x.1, x.2, g'.mtE hB hq, q⟩⟩

def ifS (c : TF) (g1 g2 : SF) : SF := fun env st => liftS (c env st) env fun b st' => if b = true then g1 env st' else g2 env st'
theorem qs_if {c : Expr} {fc : TF} {a b : List Stmt} {pos : Pos} (hc : QT X B W c fc) (ha : QSs X B W a g1) (hb : QSs X B W b g2) : QS X B W (.If c a b pos) (ifS fc g1 g2) :=
  ⟨ps_imp (ps_if hc.pt ha.pss hb.pss) fun D σ H ⟨F, env, st, g, q⟩ => ⟨F, env, st, g, q.lift.mono fun k st' F' H' s g' r => by
    cases k with
    | true => exact ⟨F', env, st', g', r⟩
    | false => exact ⟨F', env, st', g', r⟩⟩⟩
end

/-! ## loops -/
def NewBy (F H F' H' : Hp) : Prop := (F' = F ∧ H' = H) ∨ ∃ a o, H a = none ∧ F' = upd F a o ∧ H' = upd H a o
theorem Good.newBy {K : Frag} {B : Bs} {F H F' H' : Hp} {env : SEnv} {st : PV} {σ : Sg} (g : Good K B F H env st σ) (n : NewBy F H F' H') : Good K B F' H' env st σ ∧ Same F F' ∧ Stp env σ F H F' H' := by
  rcases n with ⟨rfl, rfl⟩ | ⟨a, o, h, rfl, rfl⟩
  · exact ⟨g, Same.refl F', Stp.refl⟩
  · exact ⟨g.alloc h, Same.upd_new (g.fnone h), Stp.alloc (g.fnone h) h⟩
/-- the walk J yields the values ps, as long as the frozen heap F0 stands -/
def WalkP (K : Frag) (J : It) (F0 : Hp) (ps : List PV) : Prop :=
  Walk J ps.length (fun H => Same F0 H) (fun i H x H' => ∀ F, Same F0 F → Same F H → ∃ p F', ps[i]? = some p ∧ Rep K F' p x ∧ NewBy F H F' H')
def tI (K : Frag) (B : Bs) (W : WX) (f : AF) : TI := fun σ H R => ∃ F env st, Good K B F H env st σ ∧ EPost K B W env σ F H (fun ps _ F' H' => ∀ J, WalkP K J F' ps → R J H') (f env st)
structure QI (X : Cx) (B : Bs) (W : WX) (tg e : Expr) (f : AF) : Prop where
  pi : PI X tg e (tI X.K B W f)
abbrev GF := PV → SEnv → Option SEnv
def tG (K : Frag) (B : Bs) (t : GF) : TG := fun v σ H Q => ∃ F env st p, Good K B F H env st σ ∧ Rep K F p v ∧ match t p env with
  | some env' => ∀ σ', Good K B F H env' st σ' → Q σ' H
  | none => False
structure QG (X : Cx) (B : Bs) (tg : Expr) (t : GF) : Prop where
  pg : PG X tg (tG X.K B t)
theorem pg_imp {X : Cx} {e : Expr} {t t' : TG} (h : PG X e t) (k : ∀ v σ H Q, t' v σ H Q → t v σ H Q) : PG X e t' := ⟨fun pins s σ H v u Q I r q => h.run pins s σ H v u Q I r (k v σ H Q q)⟩
def nameG (i : Nat) : GF := fun p env => some (env.set i (.sh p))
def pairG (i j : Nat) : GF := fun p env => match p with
  | .tup [p1, p2] => some ((env.set i (.sh p1)).set j (.sh p2))
  | _ => none

def forL (t : GF) (b : SF) : List PV → SEnv → PV → SR
  | [], env, st => .nx env st
  | p :: ps, env, st => match t p env with
    | none => .stuck
    | some env1 => match b env1 st with
      | .nx env' st' => forL t b ps env' st'
      | .ct env' st' => forL t b ps env' st'
      | .brk env' st' => .nx env' st'
      | r => r
def forS (f : AF) (t : GF) (b : SF) : SF := fun env st => liftS (f env st) env fun ps st' => forL t b ps env st'
def whileL (c : TF) (b : SF) : Nat → SEnv → PV → SR
  | 0, _, _ => .stuck
  | n + 1, env, st => match c env st with
    | .ok true st' => (match b env st' with
      | .nx env' st2 => whileL c b n env' st2
      | .ct env' st2 => whileL c b n env' st2
      | .brk env' st2 => .nx env' st2
      | r => r)
    | .ok false st' => .nx env st'
    | .exc k ns ps st' => .exc k ns ps env st'
    | .stuck => .stuck
section
variable {X : Cx} {B : Bs} {W : WX} {ss : List Stmt} {g : SF} {e tg : Expr} {f : AF} {t : GF} {pos : Pos}
theorem qs_for (hp : PassesOwn (model X.prog X.w) X.A X.env X.xe) (hc : X.calm = true) (hi : QI X B W tg e f) (hg : QG X B tg t) (hb : QSs X B W ss g)
    (hs : ∀ x, foldedSetIterable e X.env x = pure x := by intro _; rfl) : QS X B W (.For tg e ss [] pos) (forS f t g) := by
  refine ⟨ps_imp (ps_for hp hc hi.pi hg.pg hb.pss hs) fun D σ H ⟨F, env, st, g0, q⟩ => ⟨F, env, st, g0, q.lift.mono fun ps st' F' H' s g' r J w => ?_⟩⟩
  refine for_it w (fun i σ H => ∃ F env st, Good X.K B F H env st σ ∧ Same F' F ∧ SPost X.K B W D F (forL t g (ps.drop i) env st)) ⟨F', env, st', g', Same.refl F', r⟩
    (fun i σ H _ ⟨F, env, st, g, s, _⟩ => s.trans g.le) (fun i x σ1 H1 H2 hi ⟨F1, env1, st1, g1, s1, r1⟩ y => ?_) (fun σ1 H1 ⟨F1, env1, st1, g1, s1, r1⟩ => ?_)
  · obtain ⟨p, F2, hp, rp, nb⟩ := y F1 s1 g1.le
    obtain ⟨g2, s2, _⟩ := g1.newBy nb
    have hd : ps.drop i = p :: ps.drop (i + 1) := by
      obtain ⟨hl, e⟩ := List.getElem?_eq_some_iff.mp hp
      rw [List.drop_eq_getElem_cons hl, e]
    rw [hd] at r1
    unfold forL at r1
    refine ⟨F2, env1, st1, p, g2, rp, ?_⟩
    cases ht : t p env1 with
    | none => rw [ht] at r1; exact r1
    | some env2 =>
      rw [ht] at r1
      intro σ2 g3
      refine ⟨F2, env2, st1, g3, ?_⟩
      replace r1 := SPost.mono s2 r1
      dsimp only at r1
      cases hr : g env2 st1 with
      | nx env3 st3 => rw [hr] at r1; exact fun σ' F3 H3 e g4 => ⟨F3, env3, st3, g4, (s1.trans s2).trans e, SPost.mono e r1⟩
      | ct env3 st3 => rw [hr] at r1; exact fun σ' F3 H3 e g4 => ⟨F3, env3, st3, g4, (s1.trans s2).trans e, SPost.mono e r1⟩
      | brk env3 st3 => rw [hr] at r1; exact r1
      | ret p o env3 st3 => rw [hr] at r1; exact r1
      | exc c ns ps env3 st3 => rw [hr] at r1; exact r1
      | stuck => rw [hr] at r1; exact r1
  · rw [List.drop_length] at r1
    exact r1 σ1 F1 H1 (Same.refl F1) g1
theorem qs_while {fc : TF} (n : Nat) (hp : PassesOwn (model X.prog X.w) X.A X.env X.xe) (hc : QT X B W e fc) (hb : QSs X B W ss g) : QS X B W (.While e ss [] pos) (fun env st => whileL fc g n env st) := by
  refine ⟨ps_imp (ps_while hp hc.pt hb.pss) fun D σ H ⟨F, env, st, g0, q⟩ => ?_⟩
  refine ⟨fun m σ H => ∃ F env st, Good X.K B F H env st σ ∧ SPost X.K B W D F (whileL fc g m env st), ⟨n, F, env, st, g0, q⟩, ?_⟩
  rintro m σ1 H1 ⟨F1, env1, st1, g1, r1⟩
  cases m with
  | zero => exact r1.elim
  | succ m =>
    refine ⟨F1, env1, st1, g1, ?_⟩
    unfold whileL at r1
    cases hr : fc env1 st1 with
    | stuck => rw [hr] at r1; exact r1
    | exc k ns ps st' => rw [hr] at r1; exact fun F' H' d vs e g => r1 σ1 F' H' d vs e g
    | ok b st' =>
      rw [hr] at r1
      intro F2 H2 s2 g2
      cases b with
      | false => exact r1 σ1 F2 H2 s2.le g2
      | true =>
        rw [if_pos rfl]
        refine ⟨fun σ H => ∃ F env st, Good X.K B F H env st σ ∧ SPost X.K B W D F (whileL fc g m env st), fun σ' H' z => ⟨m, Nat.lt_succ_self m, z⟩, F2, env1, st', g2, ?_⟩
        replace r1 := SPost.mono s2.le r1
        dsimp only at r1
        cases hb2 : g env1 st' with
        | nx env3 st3 => rw [hb2] at r1; exact fun σ' F3 H3 e g4 => ⟨F3, env3, st3, g4, SPost.mono e r1⟩
        | ct env3 st3 => rw [hb2] at r1; exact fun σ' F3 H3 e g4 => ⟨F3, env3, st3, g4, SPost.mono e r1⟩
        | brk env3 st3 => rw [hb2] at r1; exact r1
        | ret p o env3 st3 => rw [hb2] at r1; exact r1
        | exc c ns ps env3 st3 => rw [hb2] at r1; exact r1
        | stuck => rw [hb2] at r1; exact r1
/-! ### targets -/
theorem qg_name {x : Str} (i : Nat) (hN : X.N.Nodup) (hi : X.N[i]? = some x := by rfl) (hx : Loc X.env.scope x := by first | exact .inl rfl | exact .inr rfl) (hf : X.fn x = true ∨ X.env.scope.names.lookup x = some .local := by first | exact .inl rfl | exact .inr rfl) : QG X B (.Name x pos) (nameG i) :=
  ⟨pg_imp (pg_name hN hi hx hf) fun v σ H Q ⟨F, env, st, p, g, r, q⟩ => q _ (g.set i (v := v) (s := .sh p) ⟨v, rfl, r⟩ fun z => nomatch z)⟩
theorem qg_pair {x y : Str} {p1 p2 : Pos} {kk : Nat} (i j : Nat) (hc : X.calm = true) (hN : X.N.Nodup) (hi : X.N[i]? = some x := by rfl) (hx : Loc X.env.scope x := by first | exact .inl rfl | exact .inr rfl) (hfx : X.fn x = true ∨ X.env.scope.names.lookup x = some .local := by first | exact .inl rfl | exact .inr rfl)
    (hj : X.N[j]? = some y := by rfl) (hy : Loc X.env.scope y := by first | exact .inl rfl | exact .inr rfl) (hfy : X.fn y = true ∨ X.env.scope.names.lookup y = some .local := by first | exact .inl rfl | exact .inr rfl)
    (hn : (assignEach [.Name x p1, .Name y p2] X.env).length = 2 := by rfl) (hst : (assignEach [.Name x p1, .Name y p2] X.env).findIdx? (·.1) = none := by rfl) : QG X B (.Tuple [.Name x p1, .Name y p2] kk pos) (pairG i j) :=
  ⟨pg_imp (pg_tup hc (pgs_cons (pg_name hN hi hx hfx) (pgs_cons (pg_name hN hj hy hfy) pgs_nil)) hn hst) fun v σ H Q ⟨F, env, st, p, g, r, q⟩ => by
    unfold pairG at q
    cases p with
    | tup ps =>
      match ps, r, q with
      | [p1, p2], ⟨a, vs, h1, h2, v1, r1, h3, h4, v2, r2, h5, h6, h7⟩, q =>
        obtain rfl : r2 = [] := h7
        subst h1 h3 h5
        exact ⟨a, _, rfl, sqT_mono g.le h2, rfl, v1, _, rfl, v2, _, rfl, rfl, q _ ((g.set i (v := v1) (s := .sh p1) ⟨v1, rfl, h4⟩ fun z => nomatch z).set j (v := v2) (s := .sh p2) ⟨v2, rfl, h6⟩ fun z => nomatch z)⟩
      | [], _, q => exact q.elim
      | [_], _, q => exact q.elim
      | _ :: _ :: _ :: _, _, q => exact q.elim
    | _ => exact q.elim⟩
end
end KI

/-! part KI3 -/
set_option Elab.async false
set_option linter.all false
set_option maxRecDepth 100000
set_option maxHeartbeats 4000000
namespace KI
open PySem PySem.Spec PyProof.Rows L2

/-! ## values as HandS reads them -/
def RH (K : Frag) (F H : Hp) (p : PV) (v : V) : Prop := Rep K F p v ∨ ∃ a, v = .ref a ∧ Own K F H a p
theorem RT.rh {K : Frag} {F H : Hp} {env : SEnv} {σ : Sg} {p : PV} {v : V} (h : RT K F H env σ p v) : RH K F H p v := by
  rcases h with h | ⟨a, e, _, h⟩
  · exact .inl h
  · exact .inr ⟨a, e, h⟩
section
variable {K : Frag} {F H : Hp} {v : V}
theorem RH.non (h : RH K F H .non v) : v = .non := h.elim (fun h => h) fun ⟨_, _, h⟩ => h.elim
theorem RH.bl {b : Bool} (h : RH K F H (.bl b) v) : v = .bl b := h.elim (fun h => h) fun ⟨_, _, h⟩ => h.elim
theorem RH.int {i : Int} (h : RH K F H (.int i) v) : v = .int i := h.elim (fun h => h) fun ⟨_, _, h⟩ => h.elim
theorem RH.str {x : Str} (h : RH K F H (.str x) v) : v = .str x := h.elim (fun h => h) fun ⟨_, _, h⟩ => h.elim
theorem RH.lst {ps : List PV} (le : Same F H) (h : RH K F H (.lst ps) v) : ∃ a vs, v = .ref a ∧ H a = some (.lst vs) ∧ RepL K F ps vs := by
  rcases h with ⟨a, vs, h1, h2, h3⟩ | ⟨a, h1, vs, h2, h3⟩
  · exact ⟨a, vs, h1, le _ _ h2, h3⟩
  · exact ⟨a, vs, h1, h2, h3⟩
theorem RH.tup {ps : List PV} (le : Same F H) (h : RH K F H (.tup ps) v) : ∃ a vs, v = .ref a ∧ SqT K H a vs ∧ RepL K F ps vs := by
  rcases h with ⟨a, vs, h1, h2, h3⟩ | ⟨a, h1, h2⟩
  · exact ⟨a, vs, h1, sqT_mono le h2, h3⟩
  · exact h2.elim
theorem RH.tupF {ps : List PV} (h : RH K F H (.tup ps) v) : Rep K F (.tup ps) v := by
  rcases h with h | ⟨a, h1, h2⟩
  · exact h
  · exact h2.elim
theorem RH.dct {ks : List Key} {ps : List PV} (le : Same F H) (h : RH K F H (.dct ks ps) v) : ∃ a vs, v = .ref a ∧ H a = some (.dK (ks.zip vs)) ∧ ks.length = vs.length ∧ RepL K F ps vs := by
  rcases h with ⟨a, vs, h1, h2, h3⟩ | ⟨a, h1, vs, h2, h3⟩
  · exact ⟨a, vs, h1, le _ _ h2, h3⟩
  · exact ⟨a, vs, h1, h2, h3⟩
theorem RH.ins {c : Str} {ns : List Str} {ps : List PV} (le : Same F H) (h : RH K F H (.ins c ns ps) v) : ∃ a dx vs, v = .ref a ∧ H a = some (.ins (He.ga K c) dx (ns.zip vs)) ∧ ns.length = vs.length ∧ RepL K F ps vs := by
  rcases h with ⟨a, dx, vs, h1, h2, h3⟩ | ⟨a, h1, dx, vs, h2, h3⟩
  · exact ⟨a, dx, vs, h1, le _ _ h2, h3⟩
  · exact ⟨a, dx, vs, h1, h2, h3⟩
theorem RH.scr {ns : List Int} (le : Same F H) (h : RH K F H (.scr ns) v) : ∃ a, v = .ref a ∧ SqL K H a (ns.map V.int) := by
  rcases h with ⟨a, h1, h2⟩ | ⟨a, h1, h2⟩
  · exact ⟨a, h1, le.seq h2⟩
  · exact h2.elim
end

/-- an operation by pure values -/
def rP (K : Frag) (g : PV → PV → Option PV) : R2 := fun x y H Q => ∃ F p q, Same F H ∧ RH K F H p x ∧ RH K F H q y ∧ ∃ z, g p q = some z ∧ ∀ u F' H', NewBy F H F' H' → Rep K F' z u → Q u H'
/-- one that makes a new object -/
def rPO (K : Frag) (g : PV → PV → Option PV) : R2 := fun x y H Q => ∃ F p q, Same F H ∧ RH K F H p x ∧ RH K F H q y ∧ ∃ z, g p q = some z ∧ ∀ a o, H a = none → Own K F (upd H a o) a z → Q (.ref a) (upd H a o)
def opE (g : PV → PV → Option PV) (fa fb : EF) : EF := fun env st => (fa env st).bind fun p st1 => (fb env st1).bind fun q st2 => match g p q with
  | some z => .ok z st2
  | none => .stuck
theorem opr_imp {X : Cx} {f : Value → Value → Sem Value} {r r' : R2} (h : OpR X f r) (k : ∀ x y H Q, r' x y H Q → r x y H Q) : OpR X f r' := fun pins s σ H x y v u Q I rx ry q => h pins s σ H x y v u Q I rx ry (k x y H Q q)
section
variable {X : Cx} {B : Bs} {W : WX} {a b : Expr} {fa fb : EF} {g : PV → PV → Option PV} {pos : Pos}
/-- two operands read -/
theorem two_reads {σ : Sg} {H : Hp} {T : V → V → Hp → Prop} {R : PV → PV → Hp → Hp → Prop} {F : Hp} {env : SEnv} {st : PV} (g0 : Good X.K B F H env st σ)
    (q : EPost X.K B W env σ F H R (opE g fa fb env st)) (k : ∀ x y p q z st' F' H', Stp env σ F H F' H' → Good X.K B F' H' env st' σ → RT X.K F' H' env σ p x → RT X.K F' H' env σ q y → g p q = some z → (∀ F2 H2, Stp env σ F' H' F2 H2 → Good X.K B F2 H2 env st' σ → R z st' F2 H2) → T x y H') :
    tR X.K B W fa σ H fun x H1 => tR X.K B W fb σ H1 fun y H2 => T x y H2 := by
  refine ⟨F, env, st, g0, q.bind.mono fun p st1 F1 H1 s1 g1 q1 x rx => ⟨F1, env, st1, g1, q1.bind.mono fun p2 st2 F2 H2 s2 g2 q2 y ry => ?_⟩⟩
  cases hz : g p p2 with
  | none => rw [hz] at q2; exact q2.elim
  | some z => rw [hz] at q2; exact k x y p p2 z st2 F2 H2 (s1.trans s2) g2 (rx.step s2) ry hz q2
theorem qe_op {op : Operator} (ho : OpR X (binaryOp op) (rP X.K g)) (ha : QR X B W a fa) (hb : QR X B W b fb) : QE X B W (.BinOp a op b pos) (opE g fa fb) :=
  ⟨pe_imp (pe_op ho ha.pe hb.pe) fun σ H Q ⟨F, env, st, g0, q⟩ => two_reads g0 q fun x y p q z st' F' H' s gg rx ry hz r => ⟨F', p, q, gg.le, rx.rh, ry.rh, z, hz, fun u F2 H2 nb hu => by
    obtain ⟨g2, _, s2⟩ := gg.newBy nb
    exact r F2 H2 s2 g2 u hu⟩⟩
theorem qo_op {op : Operator} (ho : OpR X (binaryOp op) (rPO X.K g)) (ha : QR X B W a fa) (hb : QR X B W b fb) : QO X B W (.BinOp a op b pos) (opE g fa fb) :=
  ⟨pe_imp (pe_op ho ha.pe hb.pe) fun σ H Q ⟨F, env, st, g0, q⟩ => two_reads g0 q fun x y p q z st' F' H' s gg rx ry hz r => ⟨F', p, q, gg.le, rx.rh, ry.rh, z, hz, fun a o hn ho => by
    have hn0 : H a = none := by
      cases e : H a with
      | none => rfl
      | some u => exact absurd hn (s.there a (by rw [e]; simp))
    exact r F' _ (Stp.alloc0 hn) (gg.alloc0 hn) a hn0 (gg.fnone hn) ho⟩⟩
theorem qe_ix (ho : IxR X (rP X.K g)) (ha : QR X B W a fa) (hb : QR X B W b fb) (hs : PlainIx b := by exact fun _ _ => rfl) : QE X B W (.Subscript a b pos) (opE g fa fb) :=
  ⟨pe_imp (pe_ix ho ha.pe hb.pe hs) fun σ H Q ⟨F, env, st, g0, q⟩ => two_reads g0 q fun x y p q z st' F' H' s gg rx ry hz r => ⟨F', p, q, gg.le, rx.rh, ry.rh, z, hz, fun u F2 H2 nb hu => by
    obtain ⟨g2, _, s2⟩ := gg.newBy nb
    exact r F2 H2 s2 g2 u hu⟩⟩
/-- a comparison as a value, as a test -/
def rB (K : Frag) (g : PV → PV → Option Bool) : R2 := fun x y H Q => ∃ F p q, Same F H ∧ RH K F H p x ∧ RH K F H q y ∧ ∃ z, g p q = some z ∧ Q (.bl z) H
def cmpE (g : PV → PV → Option Bool) (fa fb : EF) : EF := opE (fun p q => (g p q).map PV.bl) fa fb
def cmpT (g : PV → PV → Option Bool) (fa fb : EF) : TF := fun env st => (fa env st).bind fun p st1 => (fb env st1).bind fun q st2 => match g p q with
  | some z => .ok z st2
  | none => .stuck
theorem qe_cmp {gb : PV → PV → Option Bool} {op : CmpOp} (ho : OpR X (compareOp op) (rB X.K gb)) (ha : QR X B W a fa) (hb : QR X B W b fb) (hm : behindInMarks op b = false := by rfl) : QE X B W (.Compare a [op] [b] pos) (cmpE gb fa fb) :=
  ⟨pe_imp (pe_cmpR ho ha.pe hb.pe hm) fun σ H Q ⟨F, env, st, g0, q⟩ => two_reads g0 q fun x y p q z st' F' H' s gg rx ry hz r => by
    cases hb : gb p q with
    | none => rw [hb] at hz; cases hz
    | some k =>
      rw [hb] at hz; cases hz
      exact ⟨F', p, q, gg.le, rx.rh, ry.rh, k, hb, r F' H' Stp.refl gg _ rfl⟩⟩
theorem qt_cmp {gb : PV → PV → Option Bool} {op : CmpOp} (ho : OpR X (compareOp op) (rB X.K gb)) (ha : QR X B W a fa) (hb : QR X B W b fb) (hm : behindInMarks op b = false := by rfl) : QT X B W (.Compare a [op] [b] pos) (cmpT gb fa fb) :=
  ⟨pt_imp (pt_cmpR ho ha.pe hb.pe hm) fun σ H Q ⟨F, env, st, g0, q⟩ => ⟨F, env, st, g0, q.bind.mono fun p st1 F1 H1 s1 g1 q1 x rx => ⟨F1, env, st1, g1, q1.bind.mono fun p2 st2 F2 H2 s2 g2 q2 y ry => by
    cases hb : gb p p2 with
    | none => rw [hb] at q2; exact q2.elim
    | some k =>
      rw [hb] at q2
      exact ⟨F2, p, p2, g2.le, (rx.step s2).rh, ry.rh, k, hb, k, rfl, q2 F2 H2 Stp.refl g2⟩⟩⟩⟩
/-! ### constants, names -/
def cE (p : PV) : EF := fun _ st => .ok p st
theorem qe_int {i : Int} {j pos} : QE X B W (.Constant (.int i) j pos) (cE (.int i)) := ⟨pe_imp pe_int fun σ H Q ⟨F, env, st, g, q⟩ => q F H Stp.refl g _ rfl⟩
theorem qe_bl {i : Bool} {j pos} : QE X B W (.Constant (.bool i) j pos) (cE (.bl i)) := ⟨pe_imp pe_bl fun σ H Q ⟨F, env, st, g, q⟩ => q F H Stp.refl g _ rfl⟩
theorem qe_non {j pos} : QE X B W (.Constant .none j pos) (cE .non) := ⟨pe_imp pe_non fun σ H Q ⟨F, env, st, g, q⟩ => q F H Stp.refl g _ rfl⟩
theorem qe_str {x : Str} {j pos} : QE X B W (.Constant (.str x) j pos) (cE (.str x)) := ⟨pe_imp pe_str fun σ H Q ⟨F, env, st, g, q⟩ => q F H Stp.refl g _ rfl⟩
/-- a module's constant -/
theorem qe_glob {x : Str} {p : PV} {u : Value} {v : V} (hm : X.mg x = some u) (r : RelV v u) (hp : ∀ F, Rep X.K F p v) (hg : Gl X x := by rfl) (hd : (x == ("__debug__" : Str)) = false := by decide) : QE X B W (.Name x pos) (cE p) :=
  ⟨pe_imp (pe_glob hg hm r hd) fun σ H Q ⟨F, env, st, g, q⟩ => q F H Stp.refl g v (hp F)⟩
/-- a name in slot i: its value is frozen -/
def borOk : PV → Bool
  | .lst _ => false
  | .dct _ _ => false
  | .ins _ _ _ => false
  | _ => true
theorem borOk_rep {K : Frag} {F H : Hp} {a : Addr} : ∀ {p : PV}, borOk p = true → Own K F H a p → False
  | .lst _, h, _ => nomatch h
  | .dct _ _, h, _ => nomatch h
  | .ins _ _ _, h, _ => nomatch h
  | .non, _, h => h
  | .bl _, _, h => h
  | .int _, _, h => h
  | .str _, _, h => h
  | .tup _, _, h => h
  | .scr _, _, h => h
def vE (i : Nat) : EF := fun env st => match env[i]? with
  | some (.sh p) => .ok p st
  | some (.bor p) => if borOk p = true then .ok p st else .stuck
  | _ => .stuck
theorem qe_v (i : Nat) {x : Str} (hN : X.N[i]? = some x := by rfl) (hv : Vis X.env.scope x := by first | exact Or.inl rfl | exact Or.inr (Or.inl rfl) | exact Or.inr (Or.inr rfl)) (hd : (x == ("__debug__" : Str)) = false := by decide)
    (hcd : (x == ("__classdict__" : Str)) = false := by decide) : QE X B W (.Name x pos) (vE i) :=
  ⟨pe_imp (pe_var hN hv hd hcd) fun σ H Q ⟨F, env, st, g, q⟩ => by
    unfold vE at q
    cases h : env[i]? with
    | none => rw [h] at q; exact q.elim
    | some s =>
      rw [h] at q
      obtain ⟨o, h1, h2⟩ := g.slots i _ h
      cases s with
      | sh p =>
        obtain ⟨v, rfl, r⟩ := h2
        exact ⟨v, h1, q F H Stp.refl g v r⟩
      | bor p =>
        obtain ⟨v, rfl, r⟩ := h2
        dsimp only at q
        by_cases hb : borOk p = true
        · rw [if_pos hb] at q
          rcases r with r | ⟨a, _, _, e3⟩
          · exact ⟨v, h1, q F H Stp.refl g v r⟩
          · exact (borOk_rep hb e3).elim
        · rw [if_neg hb] at q; exact q.elim
      | _ => exact q.elim⟩
/-- .. its value is read -/
def vR (i : Nat) : EF := fun env st => match env[i]? with
  | some (.sh p) => .ok p st
  | some (.bor p) => .ok p st
  | some (.own p) => .ok p st
  | _ => .stuck
theorem Good.bor {K : Frag} {F H : Hp} {env : SEnv} {st : PV} {σ : Sg} (g : Good K B F H env st σ) {a : Addr} {p : PV} (h1 : B.ma ≠ some a) (h2 : Own K F B.H0 a p) : ¬ MtA env σ a ∧ Own K F H a p := by
  refine ⟨fun ⟨j, e1, e2⟩ => ?_, h2.mono (Same.refl F) fun o ho => g.kept a o ho h1⟩
  obtain ⟨w, e3, b, e4, e5, e6, e7⟩ := g.slots j _ e1
  rw [e2] at e3; cases e3; cases e4
  rcases e6 with e6 | ⟨_, e6⟩
  · exact h1 e6
  · exact h2.there e6
theorem qr_v (i : Nat) {x : Str} (hN : X.N[i]? = some x := by rfl) (hv : Vis X.env.scope x := by first | exact Or.inl rfl | exact Or.inr (Or.inl rfl) | exact Or.inr (Or.inr rfl)) (hd : (x == ("__debug__" : Str)) = false := by decide)
    (hcd : (x == ("__classdict__" : Str)) = false := by decide) : QR X B W (.Name x pos) (vR i) :=
  ⟨pe_imp (pe_var hN hv hd hcd) fun σ H Q ⟨F, env, st, g, q⟩ => by
    unfold vR at q
    cases h : env[i]? with
    | none => rw [h] at q; exact q.elim
    | some s =>
      rw [h] at q
      obtain ⟨o, h1, h2⟩ := g.slots i _ h
      cases s with
      | sh p =>
        obtain ⟨v, rfl, r⟩ := h2
        exact ⟨v, h1, q F H Stp.refl g v (.inl r)⟩
      | own p =>
        obtain ⟨a, rfl, r1, r2, r3⟩ := h2
        refine ⟨.ref a, h1, q F H Stp.refl g _ (.inr ⟨a, rfl, fun ⟨j, e1, e2⟩ => ?_, r3⟩)⟩
        refine g.sep i j _ _ a (fun z => ?_) h e1 rfl rfl h1 e2
        subst z
        rw [h] at e1; cases e1
      | bor p =>
        obtain ⟨v, rfl, r⟩ := h2
        refine ⟨v, h1, q F H Stp.refl g v ?_⟩
        rcases r with r | ⟨a, e1, e2, e3⟩
        · exact .inl r
        · exact .inr ⟨a, e1, (g.bor e2 e3).1, (g.bor e2 e3).2⟩
      | _ => exact q.elim⟩
/-! ### tests -/
def andT (f1 f2 : TF) : TF := fun env st => (f1 env st).bind fun b st1 => if b = true then f2 env st1 else .ok false st1
def orT (f1 f2 : TF) : TF := fun env st => (f1 env st).bind fun b st1 => if b = true then .ok true st1 else f2 env st1
def notT (f : TF) : TF := fun env st => (f env st).bind fun b st1 => .ok (!b) st1
structure QW (X : Cx) (B : Bs) (W : WX) (e : Expr) (f : TF) : Prop where
  pw : PW X e (tT X.K B W f)
theorem pw_imp {X : Cx} {e : Expr} {t t' : TT} (h : PW X e t) (k : ∀ σ H Q, t' σ H Q → t σ H Q) : PW X e t' := ⟨fun w pins s σ H Q I q => h.run w pins s σ H Q I (k σ H Q q)⟩
theorem QW.qt {e : Expr} {f : TF} (h : QW X B W e f) : QT X B W e f := ⟨h.pw.pt⟩
theorem qw_and1 {f : TF} (h : QT X B W a f) : QW X B W (.BoolOp .And [a] pos) f := ⟨pw_and1 h.pt⟩
theorem qw_or1 {f : TF} (h : QT X B W a f) : QW X B W (.BoolOp .Or [a] pos) f := ⟨pw_or1 h.pt⟩
theorem qw_and {rest : List Expr} {f1 f2 : TF} (h1 : QT X B W a f1) (h2 : QW X B W (.BoolOp .And (b :: rest) pos) f2) : QW X B W (.BoolOp .And (a :: b :: rest) pos) (andT f1 f2) :=
  ⟨pw_imp (pw_and h1.pt h2.pw) fun σ H Q ⟨F, env, st, g, q⟩ => ⟨F, env, st, g, q.bind.mono fun k st1 F1 H1 s1 g1 q1 => by
    cases k with
    | true => rw [if_pos rfl]; exact ⟨F1, env, st1, g1, q1⟩
    | false => rw [if_neg Bool.false_ne_true]; exact q1 F1 H1 Stp.refl g1⟩⟩
theorem qw_or {rest : List Expr} {f1 f2 : TF} (h1 : QT X B W a f1) (h2 : QW X B W (.BoolOp .Or (b :: rest) pos) f2) : QW X B W (.BoolOp .Or (a :: b :: rest) pos) (orT f1 f2) :=
  ⟨pw_imp (pw_or h1.pt h2.pw) fun σ H Q ⟨F, env, st, g, q⟩ => ⟨F, env, st, g, q.bind.mono fun k st1 F1 H1 s1 g1 q1 => by
    cases k with
    | true => rw [if_pos rfl]; exact q1 F1 H1 Stp.refl g1
    | false => rw [if_neg Bool.false_ne_true]; exact ⟨F1, env, st1, g1, q1⟩⟩⟩
theorem qt_not {f : TF} (h : QT X B W a f) : QT X B W (.UnaryOp .Not a pos) (notT f) :=
  ⟨pt_imp (pt_not h.pt) fun σ H Q ⟨F, env, st, g, q⟩ => ⟨F, env, st, g, q.bind.mono fun k st1 F1 H1 s1 g1 q1 => q1 F1 H1 Stp.refl g1⟩⟩
/-- the truth of a value -/
def truP : PV → Option Bool
  | .non => some false
  | .bl b => some b
  | .int i => some (i != 0)
  | .str x => if x.length ≤ sizeLine then some ((x.length : Int) != 0) else none
  | .lst ps => some (!ps.isEmpty)
  | .tup ps => some (!ps.isEmpty)
  | _ => none
def truT (f : EF) : TF := fun env st => (f env st).bind fun p st1 => match truP p with
  | some b => .ok b st1
  | none => .stuck
theorem RepL.isEmpty {K : Frag} {F : Hp} : ∀ {ps : List PV} {vs : List V}, RepL K F ps vs → ps.isEmpty = vs.isEmpty
  | [], _, h => by cases (show _ = ([] : List V) from h); rfl
  | p :: ps, _, ⟨v, r, h1, _, _⟩ => by subst h1; rfl
theorem tru_ok {K : Frag} {F H : Hp} {p : PV} {v : V} {k : Bool} (le : Same F H) (r : RH K F H p v) (h : truP p = some k) : TruV K v H k := by
  cases p with
  | non => cases r.non; cases h; rfl
  | bl b => cases r.bl; cases h; rfl
  | int i => cases r.int; cases h; rfl
  | str x =>
    cases r.str
    have h : (if x.length ≤ sizeLine then some ((x.length : Int) != 0) else none) = some k := h
    by_cases hl : x.length ≤ sizeLine
    · rw [if_pos hl] at h; cases h; exact ⟨hl, rfl⟩
    · rw [if_neg hl] at h; cases h
  | lst ps =>
    obtain ⟨a, vs, rfl, h1, h2⟩ := r.lst le
    cases h
    exact .inl ⟨vs, SqL.of h1, by rw [h2.isEmpty]⟩
  | tup ps =>
    obtain ⟨a, vs, rfl, h1, h2⟩ := r.tup le
    cases h
    exact .inr (.inl ⟨vs, h1, by rw [h2.isEmpty]⟩)
  | dct ks ps => cases h
  | ins c ns ps => cases h
  | scr ns => cases h
theorem qt_tru (h : QR X B W a fa) (he : ∀ whole, isTrue a X.env whole = (do let v ← whole; standAt a.pos; holding [v] (truthy v)) := by intro _; rfl) : QT X B W a (truT fa) :=
  ⟨pt_imp (pt_truth h.pe he) fun σ H Q ⟨F, env, st, g, q⟩ => ⟨F, env, st, g, q.bind.mono fun p st1 F1 H1 s1 g1 q1 x rx => by
    cases hz : truP p with
    | none => rw [hz] at q1; exact q1.elim
    | some k => rw [hz] at q1; exact ⟨k, KI.tru_ok g1.le rx.rh hz, q1 F1 H1 Stp.refl g1⟩⟩⟩
/-- not, and, or as values of truths -/
def notE (f : EF) : EF := fun env st => (f env st).bind fun p st1 => match p with
  | .bl b => .ok (.bl (!b)) st1
  | _ => .stuck
theorem qe_not (h : QR X B W a fa) : QE X B W (.UnaryOp .Not a pos) (notE fa) :=
  ⟨pe_imp (pe_not h.pe) fun σ H Q ⟨F, env, st, g, q⟩ => ⟨F, env, st, g, q.bind.mono fun p st1 F1 H1 s1 g1 q1 x rx => by
    cases p with
    | bl b => exact ⟨b, rx.rh.bl, q1 F1 H1 Stp.refl g1 _ rfl⟩
    | _ => exact q1.elim⟩⟩
def andE (f1 f2 : EF) : EF := fun env st => (f1 env st).bind fun p st1 => match p with
  | .bl b => if b = true then f2 env st1 else .ok (.bl false) st1
  | _ => .stuck
def orE (f1 f2 : EF) : EF := fun env st => (f1 env st).bind fun p st1 => match p with
  | .bl b => if b = true then .ok (.bl true) st1 else f2 env st1
  | _ => .stuck
theorem qe_one {op} (h : QE X B W a fa) : QE X B W (.BoolOp op [a] pos) fa := ⟨pe_one h.pe⟩
theorem qe_and {rest : List Expr} (h1 : QE X B W a fa) (h2 : QE X B W (.BoolOp .And (b :: rest) pos) fb) : QE X B W (.BoolOp .And (a :: b :: rest) pos) (andE fa fb) :=
  ⟨pe_imp (pe_and h1.pe h2.pe) fun σ H Q ⟨F, env, st, g, q⟩ => ⟨F, env, st, g, q.bind.mono fun p st1 F1 H1 s1 g1 q1 x rx => by
    cases p with
    | bl b =>
      refine ⟨b, rx, ?_⟩
      cases b with
      | true => rw [if_pos rfl]; exact ⟨F1, env, st1, g1, q1⟩
      | false => rw [if_neg Bool.false_ne_true]; exact q1 F1 H1 Stp.refl g1 _ rfl
    | _ => exact q1.elim⟩⟩
theorem qe_or {rest : List Expr} (h1 : QE X B W a fa) (h2 : QE X B W (.BoolOp .Or (b :: rest) pos) fb) : QE X B W (.BoolOp .Or (a :: b :: rest) pos) (orE fa fb) :=
  ⟨pe_imp (pe_or h1.pe h2.pe) fun σ H Q ⟨F, env, st, g, q⟩ => ⟨F, env, st, g, q.bind.mono fun p st1 F1 H1 s1 g1 q1 x rx => by
    cases p with
    | bl b =>
      refine ⟨b, rx, ?_⟩
      cases b with
      | true => rw [if_pos rfl]; exact q1 F1 H1 Stp.refl g1 _ rfl
      | false => rw [if_neg Bool.false_ne_true]; exact ⟨F1, env, st1, g1, q1⟩
    | _ => exact q1.elim⟩⟩
/-- a if t else b -/
def ifE (c : TF) (f1 f2 : EF) : EF := fun env st => (c env st).bind fun k st1 => if k = true then f1 env st1 else f2 env st1
theorem qe_ife {c : Expr} {fc : TF} (hc : QT X B W c fc) (h1 : QE X B W a fa) (h2 : QE X B W b fb) : QE X B W (.IfExp c a b pos) (ifE fc fa fb) :=
  ⟨pe_imp (pe_ifExp hc.pt h1.pe h2.pe) fun σ H Q ⟨F, env, st, g, q⟩ => ⟨F, env, st, g, q.bind.mono fun k st1 F1 H1 s1 g1 q1 => by
    cases k with
    | true => rw [if_pos rfl]; exact ⟨F1, env, st1, g1, q1⟩
    | false => rw [if_neg Bool.false_ne_true]; exact ⟨F1, env, st1, g1, q1⟩⟩⟩
/-- -a -/
def negE (f : EF) : EF := fun env st => (f env st).bind fun p st1 => match p with
  | .int i => .ok (.int (-i)) st1
  | _ => .stuck
theorem qe_neg (h : QE X B W a fa) : QE X B W (.UnaryOp .USub a pos) (negE fa) :=
  ⟨pe_imp (pe_un un_neg h.pe) fun σ H Q ⟨F, env, st, g, q⟩ => ⟨F, env, st, g, q.bind.mono fun p st1 F1 H1 s1 g1 q1 x rx => by
    cases p with
    | int i => exact ⟨i, rx, q1 F1 H1 Stp.refl g1 _ rfl⟩
    | _ => exact q1.elim⟩⟩
end
end KI

/-! part KI4 -/
set_option Elab.async false
set_option linter.all false
set_option maxRecDepth 100000
set_option maxHeartbeats 4000000
namespace KI
open PySem PySem.Spec PyProof.Rows L2

/-! ## operators -/
section
variable {X : Cx}
theorem newBy0 {F H : Hp} : NewBy F H F H := .inl ⟨rfl, rfl⟩
theorem newBy1 {F H : Hp} {a : Addr} {o : HO} (h : H a = none) : NewBy F H (upd F a o) (upd H a o) := .inr ⟨a, o, h, rfl, rfl⟩
theorem same_fnone {F H : Hp} (le : Same F H) {a : Addr} (h : H a = none) : F a = none := le.free h
theorem rep_lst {K : Frag} {F : Hp} {a : Addr} {ps : List PV} {vs : List V} (hn : F a = none) (r : RepL K F ps vs) : Rep K (upd F a (.lst vs)) (.lst ps) (.ref a) := ⟨a, vs, rfl, upd_same, RepL.mono (Same.upd_new hn) _ _ r⟩
theorem rep_tup {K : Frag} {F : Hp} {a : Addr} {ps : List PV} {vs : List V} (hn : F a = none) (r : RepL K F ps vs) : Rep K (upd F a (.tup vs)) (.tup ps) (.ref a) := ⟨a, vs, rfl, SqT.of upd_same, RepL.mono (Same.upd_new hn) _ _ r⟩

def addP : PV → PV → Option PV
  | .int i, .int j => some (.int (i + j))
  | .str x, .str y => if x.length + y.length ≤ sizeLine then some (.str (x ++ y)) else none
  | .lst ps, .lst qs => if ps.length + qs.length ≤ sizeLine then some (.lst (ps ++ qs)) else none
  | .tup ps, .tup qs => if ps.length + qs.length ≤ sizeLine then some (.tup (ps ++ qs)) else none
  | _, _ => none
theorem or_add : OpR X (binaryOp .Add) (rP X.K addP) := by
  refine opr_imp (OpR.or (OpR.or (op_add (X := X)) op_add_str) (OpR.or op_cat op_catA)) fun x y H Q ⟨F, p, q, le, rp, rq, z, hz, k⟩ => ?_
  cases p <;> cases q <;> first
    | (cases hz; done)
    | (have e1 := rp.int; have e2 := rq.int; subst e1 e2; cases hz; exact .inl (.inl ⟨_, _, rfl, rfl, k _ F H newBy0 rfl⟩))
    | skip
  · rename_i i j
    have e1 := rp.str; have e2 := rq.str; subst e1 e2
    have hz' : (if i.length + j.length ≤ sizeLine then some (PV.str (i ++ j)) else none) = some z := hz
    by_cases hl : i.length + j.length ≤ sizeLine
    · rw [if_pos hl] at hz'; cases hz'
      exact .inl (.inr ⟨i, j, rfl, rfl, hl, k _ F H newBy0 rfl⟩)
    · rw [if_neg hl] at hz'; cases hz'
  · rename_i ps qs
    obtain ⟨a, vs, rfl, h1, h2⟩ := rp.lst le
    obtain ⟨b, ws, rfl, h3, h4⟩ := rq.lst le
    have hz' : (if ps.length + qs.length ≤ sizeLine then some (PV.lst (ps ++ qs)) else none) = some z := hz
    by_cases hl : ps.length + qs.length ≤ sizeLine
    · rw [if_pos hl] at hz'; cases hz'
      exact .inr (.inl ⟨a, b, vs, ws, rfl, rfl, h1, h3, by rw [← h2.length, ← h4.length]; exact hl, fun c hc => k _ _ _ (newBy1 hc) (rep_lst (same_fnone le hc) (h2.append h4))⟩)
    · rw [if_neg hl] at hz'; cases hz'
  · rename_i ps qs
    have f1 := rp.tupF
    have f2 := rq.tupF
    obtain ⟨a, vs, rfl, h1, h2⟩ := rp.tup le
    obtain ⟨b, ws, rfl, h3, h4⟩ := rq.tup le
    have hz' : (if ps.length + qs.length ≤ sizeLine then some (PV.tup (ps ++ qs)) else none) = some z := hz
    by_cases hl : ps.length + qs.length ≤ sizeLine
    · rw [if_pos hl] at hz'; cases hz'
      refine .inr (.inr ⟨a, b, vs, ws, rfl, rfl, h1, h3, by rw [← h2.length, ← h4.length]; exact hl, fun e => ?_, fun _ e => ?_, fun _ _ c hc => k _ _ _ (newBy1 hc) (rep_tup (same_fnone le hc) (h2.append h4))⟩)
      · have e' : ps = [] := List.length_eq_zero_iff.mp (by rw [h2.length, e]; rfl)
        rw [e', List.nil_append] at k
        exact k _ F H newBy0 f2
      · have e' : qs = [] := List.length_eq_zero_iff.mp (by rw [h4.length, e]; rfl)
        rw [e', List.append_nil] at k
        exact k _ F H newBy0 f1
    · rw [if_neg hl] at hz'; cases hz'
/-- of lists, an object of its own -/
def addL : PV → PV → Option PV
  | .lst ps, .lst qs => if ps.length + qs.length ≤ sizeLine then some (.lst (ps ++ qs)) else none
  | _, _ => none
theorem oro_add : OpR X (binaryOp .Add) (rPO X.K addL) := by
  refine opr_imp (op_cat (X := X)) fun x y H Q ⟨F, p, q, le, rp, rq, z, hz, k⟩ => ?_
  cases p <;> cases q <;> first
    | (cases hz; done)
    | skip
  rename_i ps qs
  obtain ⟨a, vs, rfl, h1, h2⟩ := rp.lst le
  obtain ⟨b, ws, rfl, h3, h4⟩ := rq.lst le
  have hz' : (if ps.length + qs.length ≤ sizeLine then some (PV.lst (ps ++ qs)) else none) = some z := hz
  by_cases hl : ps.length + qs.length ≤ sizeLine
  · rw [if_pos hl] at hz'; cases hz'
    exact ⟨a, b, vs, ws, rfl, rfl, h1, h3, by rw [← h2.length, ← h4.length]; exact hl, fun c hc => k c _ hc ⟨_, upd_same, h2.append h4⟩⟩
  · rw [if_neg hl] at hz'; cases hz'
def subP : PV → PV → Option PV
  | .int i, .int j => some (.int (i - j))
  | _, _ => none
theorem or_sub : OpR X (binaryOp .Sub) (rP X.K subP) := by
  refine opr_imp (op_sub (X := X)) fun x y H Q ⟨F, p, q, le, rp, rq, z, hz, k⟩ => ?_
  cases p <;> cases q <;> first
    | (cases hz; done)
    | (have e1 := rp.int; have e2 := rq.int; subst e1 e2; cases hz; exact ⟨_, _, rfl, rfl, k _ F H newBy0 rfl⟩)
instance (i j : Int) : Decidable (CMulW i j) := by unfold CMulW; infer_instance

/-- a text again and again -/
def repS (x : Str) (n : Nat) : Str := ⟨(List.replicate n x.cps.toList).flatten.toArray⟩
theorem foldl_app (x : Array Nat) : ∀ (n : Nat) (acc : Array Nat), ((List.replicate n x).foldl (· ++ ·) acc) = acc ++ (List.replicate n x.toList).flatten.toArray
  | 0, acc => by simp
  | n + 1, acc => by
    rw [List.replicate_succ, List.foldl_cons, foldl_app x n, List.replicate_succ, List.flatten_cons, Array.append_assoc]
    congr 1
    simp
theorem op_repS : OpR X (binaryOp .Mult) (fun x y H Q => ∃ z n, x = .str z ∧ y = .int n ∧ n < 2 ^ 24 ∧ -(2 ^ 24) < n ∧ z.length * n.toNat ≤ sizeLine ∧ Q (.str (repS z n.toNat)) H) := by
  intro pins s σ H x y v u Q I rx ry h
  obtain ⟨z, n, rfl, rfl, h1, h0, h2, q⟩ := h
  obtain ⟨t, rfl⟩ := rx
  obtain ⟨t', rfl⟩ := ry
  have hs : sizeLine = 16777216 := sizeLine_eq
  refine PySem.P.mul_str ?_ (fun h3 h4 => ?_) (fun h3 h4 => ?_) ?_
  · rw [decide_eq_false (by omega), decide_eq_false (by omega)]; rfl
  · have h5 : (z.length : Int) * n ≤ 16777216 := by
      have h2' : z.length * n.toNat ≤ 16777216 := by rw [← hs]; exact h2
      have e : ((z.length * n.toNat : Nat) : Int) = (z.length : Int) * n := by rw [Int.natCast_mul, Int.toNat_of_nonneg (by omega)]
      rw [← e]; omega
    have hz : (z.length : Int) ≤ 16777216 := by
      have a1 : (z.length : Int) * 1 ≤ (z.length : Int) * n := Int.mul_le_mul_of_nonneg_left (by omega) (Int.natCast_nonneg _)
      omega
    have h6 : (16777216 : Int) ≤ (2 ^ 63 - 1) / n := by
      apply Int.le_ediv_of_mul_le (by omega)
      have a2 : (16777216 : Int) * n ≤ 16777216 * 2 ^ 24 := Int.mul_le_mul_of_nonneg_left (by omega) (by omega)
      have a3 : (16777216 : Int) * 2 ^ 24 ≤ 2 ^ 63 - 1 := by decide
      omega
    omega
  · unfold Builtin.Str.tooLong
    exact decide_eq_false (by omega)
  · have fin : ∀ (y : Str), y = repS z n.toNat → ∀ tk k, EP X pins σ Q (.str y tk) { s with toks := k } := fun y e tk k => by
      subst e; exact ⟨.str (repS z n.toNat), H, I.tok k, ⟨tk, rfl⟩, q⟩
    by_cases h3 : n < 1
    · rw [if_pos h3]
      have e : Str.empty = repS z n.toNat := by
        have : n.toNat = 0 := by omega
        rw [this]; rfl
      exact ⟨by decide, fin _ e _ _⟩
    · rw [if_neg h3]
      by_cases h4 : (n == 1 || z.length == 0) = true
      · rw [if_pos h4]
        have e : z = repS z n.toNat := by
          rcases (Bool.or_eq_true_iff.mp h4) with h5 | h5
          · have h5 : n = 1 := eq_of_beq h5
            subst h5
            show z = ⟨(List.replicate 1 z.cps.toList).flatten.toArray⟩
            simp
          · have h5 : z.length = 0 := eq_of_beq h5
            have h6 : z.cps = #[] := Array.eq_empty_of_size_eq_zero h5
            unfold repS
            rw [h6]
            have : ∀ m : Nat, (List.replicate m ([] : List Nat)).flatten = [] := fun m => by simp
            rw [show (#[] : Array Nat).toList = [] from rfl, this]
            exact Str.ext' h6
        exact ⟨.str z, H, I, ⟨t, rfl⟩, by rw [← e] at q; exact q⟩
      · rw [if_neg h4]
        have e : (⟨(List.replicate n.toNat z.cps).foldl (· ++ ·) #[]⟩ : Str) = repS z n.toNat := by
          unfold repS; rw [foldl_app]; simp
        refine ⟨?_, fin _ e _ _⟩
        rw [e]
        have hl : (repS z n.toNat).length = n.toNat * z.length := by
          show ((List.replicate n.toNat z.cps.toList).flatten.toArray).size = _
          rw [List.size_toArray, List.length_flatten, List.map_replicate, List.sum_replicate_nat, Array.length_toList]; rfl
        first
          | (rw [hl, Nat.mul_comm]; exact h2)
          | (show Builtin.Str.tooLong _ = false
             unfold Builtin.Str.tooLong
             rw [hl, Nat.mul_comm]
             exact decide_eq_false (by omega))
          | (rw [hl, Nat.mul_comm]; exact decide_eq_false (by omega))
end
end KI

/-! part KI5 -/
set_option Elab.async false
set_option linter.all false
set_option maxRecDepth 100000
set_option maxHeartbeats 4000000
namespace KI
open PySem PySem.Spec PyProof.Rows L2
section
variable {X : Cx}
instance (i j : Int) : Decidable (CMul i j) := by unfold CMul; infer_instance
instance (i j : Int) : Decidable (CPow i j) := by unfold CPow; infer_instance
def rep1 (ps : List PV) (k : Nat) : List PV := (List.replicate k ps).flatten
theorem RepL.rep {K : Frag} {F : Hp} {ps : List PV} {vs : List V} (r : RepL K F ps vs) : ∀ k, RepL K F (rep1 ps k) (List.replicate k vs).flatten
  | 0 => rfl
  | k + 1 => by
    show RepL K F (List.replicate (k + 1) ps).flatten _
    rw [List.replicate_succ, List.flatten_cons, List.replicate_succ, List.flatten_cons]
    exact r.append (RepL.rep r k)
def mulP : PV → PV → Option PV
  | .int i, .int j => if CMul i j ∨ CMulW i j then some (.int (i * j)) else none
  | .str x, .int n => if n < 2 ^ 24 ∧ -(2 ^ 24) < n ∧ x.length * n.toNat ≤ sizeLine then some (.str (repS x n.toNat)) else none
  | .lst ps, .int k => if -(2 ^ 63) ≤ k ∧ k < 2 ^ 63 ∧ ps.length * k.toNat ≤ sizeLine then some (.lst (rep1 ps k.toNat)) else none
  | _, _ => none
theorem or_mul : OpR X (binaryOp .Mult) (rP X.K mulP) := by
  refine opr_imp (OpR.or (OpR.or (op_mul (X := X)) op_mulW) (OpR.or op_repS op_rep)) fun x y H Q ⟨F, p, q, le, rp, rq, z, hz, k⟩ => ?_
  cases p <;> cases q <;> first
    | (simp only [mulP, reduceCtorEq] at hz; done)
    | skip
  · rename_i i j
    have e1 := rp.int; have e2 := rq.int; subst e1 e2
    have hz' : (if CMul i j ∨ CMulW i j then some (PV.int (i * j)) else none) = some z := hz
    by_cases hl : CMul i j ∨ CMulW i j
    · rw [if_pos hl] at hz'; cases hz'
      rcases hl with hl | hl
      · exact .inl (.inl ⟨i, j, rfl, rfl, hl, k _ F H newBy0 rfl⟩)
      · exact .inl (.inr ⟨i, j, rfl, rfl, hl, k _ F H newBy0 rfl⟩)
    · rw [if_neg hl] at hz'; cases hz'
  · rename_i i j
    have e1 := rp.str; have e2 := rq.int; subst e1 e2
    have hz' : (if j < 2 ^ 24 ∧ -(2 ^ 24) < j ∧ i.length * j.toNat ≤ sizeLine then some (PV.str (repS i j.toNat)) else none) = some z := hz
    by_cases hl : j < 2 ^ 24 ∧ -(2 ^ 24) < j ∧ i.length * j.toNat ≤ sizeLine
    · rw [if_pos hl] at hz'; cases hz'
      exact .inr (.inl ⟨i, j, rfl, rfl, hl.1, hl.2.1, hl.2.2, k _ F H newBy0 rfl⟩)
    · rw [if_neg hl] at hz'; cases hz'
  · rename_i ps j
    have e2 := rq.int; subst e2
    obtain ⟨a, vs, rfl, h1, h2⟩ := rp.lst le
    have hz' : (if -(2 ^ 63) ≤ j ∧ j < 2 ^ 63 ∧ ps.length * j.toNat ≤ sizeLine then some (PV.lst (rep1 ps j.toNat)) else none) = some z := hz
    by_cases hl : -(2 ^ 63) ≤ j ∧ j < 2 ^ 63 ∧ ps.length * j.toNat ≤ sizeLine
    · rw [if_pos hl] at hz'; cases hz'
      exact .inr (.inr ⟨a, j, vs, rfl, rfl, h1, hl.1, hl.2.1, by rw [← h2.length]; exact hl.2.2, fun c hc => k _ _ _ (newBy1 hc) (rep_lst (same_fnone le hc) (h2.rep _))⟩)
    · rw [if_neg hl] at hz'; cases hz'
def mulL : PV → PV → Option PV
  | .lst ps, .int k => if -(2 ^ 63) ≤ k ∧ k < 2 ^ 63 ∧ ps.length * k.toNat ≤ sizeLine then some (.lst (rep1 ps k.toNat)) else none
  | _, _ => none
theorem oro_mul : OpR X (binaryOp .Mult) (rPO X.K mulL) := by
  refine opr_imp (op_rep (X := X)) fun x y H Q ⟨F, p, q, le, rp, rq, z, hz, k⟩ => ?_
  cases p <;> cases q <;> first
    | (simp only [mulL, reduceCtorEq] at hz; done)
    | skip
  rename_i ps j
  have e2 := rq.int; subst e2
  obtain ⟨a, vs, rfl, h1, h2⟩ := rp.lst le
  have hz' : (if -(2 ^ 63) ≤ j ∧ j < 2 ^ 63 ∧ ps.length * j.toNat ≤ sizeLine then some (PV.lst (rep1 ps j.toNat)) else none) = some z := hz
  by_cases hl : -(2 ^ 63) ≤ j ∧ j < 2 ^ 63 ∧ ps.length * j.toNat ≤ sizeLine
  · rw [if_pos hl] at hz'; cases hz'
    exact ⟨a, j, vs, rfl, rfl, h1, hl.1, hl.2.1, by rw [← h2.length]; exact hl.2.2, fun c hc => k c _ hc ⟨_, upd_same, h2.rep _⟩⟩
  · rw [if_neg hl] at hz'; cases hz'

/-- operations on two whole numbers -/
def intP (C : Int → Int → Bool) (g : Int → Int → Int) : PV → PV → Option PV
  | .int i, .int j => if C i j = true then some (.int (g i j)) else none
  | _, _ => none
theorem or_int {f : Value → Value → Sem Value} {r : R2} {C : Int → Int → Bool} {g : Int → Int → Int} (h : OpR X f r) (k : ∀ i j H Q, C i j = true → Q (.int (g i j)) H → r (.int i) (.int j) H Q) : OpR X f (rP X.K (intP C g)) := by
  refine opr_imp h fun x y H Q ⟨F, p, q, le, rp, rq, z, hz, kk⟩ => ?_
  cases p <;> cases q <;> first
    | (simp only [intP, reduceCtorEq] at hz; done)
    | skip
  rename_i i j
  have e1 := rp.int; have e2 := rq.int; subst e1 e2
  have hz' : (if C i j = true then some (PV.int (g i j)) else none) = some z := hz
  by_cases hl : C i j = true
  · rw [if_pos hl] at hz'; cases hz'
    exact k i j H Q hl (kk _ F H newBy0 rfl)
  · rw [if_neg hl] at hz'; cases hz'
def fdivC (i j : Int) : Bool := decide (j ≠ 0 ∧ j.natAbs < 1073741824) || decide (0 < j ∧ j.natAbs.log2 < 9000)
abbrev fdivP := intP fdivC Int.fdiv
theorem or_fdiv : OpR X (binaryOp .FloorDiv) (rP X.K fdivP) := or_int (OpR.or op_fdivN op_fdivW) fun i j H Q hc q => by
  rcases Bool.or_eq_true_iff.mp hc with h | h
  · have h : j ≠ 0 ∧ j.natAbs < 1073741824 := of_decide_eq_true h
    exact .inl ⟨i, j, rfl, rfl, h, q⟩
  · have h := of_decide_eq_true h
    refine .inr ⟨i, j, rfl, rfl, h, ?_⟩
    show Q (.int (i / j)) H
    rw [← Int.fdiv_eq_ediv_of_nonneg i (Int.le_of_lt h.1)]; exact q
abbrev modP := intP (fun _ j => decide (j ≠ 0)) Int.fmod
theorem or_mod : OpR X (binaryOp .Mod) (rP X.K modP) := or_int op_modN fun i j H Q hc q => ⟨i, j, rfl, rfl, of_decide_eq_true hc, q⟩
abbrev powP := intP (fun i j => decide (CPow i j)) fun i j => i ^ j.toNat
theorem or_pow : OpR X (binaryOp .Pow) (rP X.K powP) := or_int op_pow fun i j H Q hc q => ⟨i, j, rfl, rfl, of_decide_eq_true hc, q⟩
abbrev shlP := intP (fun i j => decide (CPow i j)) fun i j => i * 2 ^ j.toNat
theorem or_shl : OpR X (binaryOp .LShift) (rP X.K shlP) := or_int op_shl fun i j H Q hc q => ⟨i, j, rfl, rfl, of_decide_eq_true hc, q⟩
abbrev shrP := intP (fun _ j => decide (0 ≤ j)) fun i j => i / 2 ^ j.toNat
theorem or_shr : OpR X (binaryOp .RShift) (rP X.K shrP) := or_int op_shr fun i j H Q hc q => ⟨i, j, rfl, rfl, of_decide_eq_true hc, q⟩
abbrev bandP := intP (fun _ _ => true) Builtin.bitAnd
theorem or_band : OpR X (binaryOp .BitAnd) (rP X.K bandP) := or_int op_and fun i j H Q _ q => ⟨i, j, rfl, rfl, q⟩

/-! ## comparisons -/
def icmp (g : Int → Int → Bool) : PV → PV → Option Bool
  | .int i, .int j => some (g i j)
  | _, _ => none
theorem or_icmp {f : Value → Value → Sem Value} {g : Int → Int → Bool} (h : OpR X f (rI0 fun i j => .bl (g i j))) : OpR X f (rB X.K (icmp g)) := by
  refine opr_imp h fun x y H Q ⟨F, p, q, le, rp, rq, z, hz, kk⟩ => ?_
  cases p <;> cases q <;> first
    | (simp only [icmp, reduceCtorEq] at hz; done)
    | skip
  rename_i i j
  have e1 := rp.int; have e2 := rq.int; subst e1 e2
  cases hz
  exact ⟨i, j, rfl, rfl, kk⟩
abbrev ltP := icmp fun i j => decide (i < j)
abbrev leP := icmp fun i j => decide (i ≤ j)
abbrev gtP := icmp fun i j => decide (j < i)
abbrev geP := icmp fun i j => decide (j ≤ i)
theorem or_lt : OpR X (compareOp .Lt) (rB X.K ltP) := or_icmp op_lt
theorem or_le : OpR X (compareOp .LtE) (rB X.K leP) := or_icmp op_le
theorem or_gt : OpR X (compareOp .Gt) (rB X.K gtP) := or_icmp op_gt
theorem or_ge : OpR X (compareOp .GtE) (rB X.K geP) := or_icmp op_ge

mutual
def toD : PV → PyData
  | .non => .none
  | .bl b => .bool b
  | .int i => .int i
  | .str x => .str x
  | .lst ps => .list (toDs ps)
  | .tup ps => .tuple (toDs ps)
  | .dct _ _ => .dict []
  | .ins _ _ _ => .dict []
  | .scr _ => .dict []
def toDs : List PV → List PyData
  | [] => []
  | p :: ps => toD p :: toDs ps
end
theorem toDs_map : ∀ ps : List PV, toDs ps = ps.map toD
  | [] => by rw [toDs]; rfl
  | p :: ps => by rw [toDs, toDs_map ps]; rfl
mutual
theorem Rep.dp {K : Frag} {F H : Hp} (le : Same F H) : ∀ (p : PV) (v : V), Rep K F p v → (toD p).canLay0 = true → Dp K H v (toD p)
  | .non, v, h, _ => by rw [show v = V.non from h, toD]; exact .non
  | .bl b, v, h, _ => by rw [show v = V.bl b from h, toD]; exact .bl b
  | .int i, v, h, _ => by rw [show v = V.int i from h, toD]; exact .int i
  | .str x, v, h, _ => by rw [show v = V.str x from h, toD]; exact .str x
  | .lst ps, v, ⟨a, vs, h1, h2, h3⟩, hc => by
    rw [toD] at hc ⊢
    rw [h1]
    exact .lst (SqL.of (le _ _ h2)) (RepL.dp le ps vs h3 (by rw [PyData.canLay0] at hc; exact hc))
  | .tup ps, v, ⟨a, vs, h1, h2, h3⟩, hc => by
    rw [toD] at hc ⊢
    rw [h1]
    exact .tup (sqT_mono le h2) (RepL.dp le ps vs h3 (by rw [PyData.canLay0] at hc; exact hc))
  | .dct _ _, v, h, hc => by rw [toD, PyData.canLay0] at hc; cases hc
  | .ins _ _ _, v, h, hc => by rw [toD, PyData.canLay0] at hc; cases hc
  | .scr _, v, h, hc => by rw [toD, PyData.canLay0] at hc; cases hc
theorem RepL.dp {K : Frag} {F H : Hp} (le : Same F H) : ∀ (ps : List PV) (vs : List V), RepL K F ps vs → PyData.canLayAll0 (toDs ps) = true → DpAll K H vs (toDs ps)
  | [], vs, h, _ => by rw [show vs = [] from h, toDs]; exact .nil
  | p :: ps, vs, ⟨v, r, h1, h2, h3⟩, hc => by
    rw [toDs] at hc ⊢
    rw [PyData.canLayAll0, Bool.and_eq_true_iff] at hc
    rw [h1]
    exact .cons (Rep.dp le p v h2 hc.1) (RepL.dp le ps r h3 hc.2)
end
theorem RH.dp {K : Frag} {F H : Hp} {p : PV} {v : V} (le : Same F H) (h : RH K F H p v) (hc : (toD p).canLay0 = true) : Dp K H v (toD p) := by
  rcases h with h | ⟨a, e, h⟩
  · exact h.dp le _ _ hc
  · cases p with
    | lst ps =>
      obtain ⟨vs, h1, h2⟩ := h
      rw [toD] at hc ⊢
      rw [e]
      exact .lst (SqL.of h1) (h2.dp le _ _ (by rw [PyData.canLay0] at hc; exact hc))
    | dct ks ps => rw [toD, PyData.canLay0] at hc; cases hc
    | ins c ns ps => rw [toD, PyData.canLay0] at hc; cases hc
    | _ => exact h.elim
def okD (p : PV) : Bool := SeqAt.shaped (toD p)
theorem okD_lay {p : PV} (h : okD p = true) : (toD p).canLay0 = true := SeqAt.canLay_of_shaped h
def eqB (p q : PV) : Bool := PyData.eqv (toD p) (toD q)
def eqP (p q : PV) : Option Bool := if okD p = true ∧ okD q = true then some (eqB p q) else none
def neP (p q : PV) : Option Bool := if okD p = true ∧ okD q = true then some (!eqB p q) else none
theorem or_eq {k : Nat} (hr : Room k X.A) : OpR X (compareOp .Eq) (rB X.K eqP) := by
  refine opr_imp (op_eqD hr.units) fun x y H Q ⟨F, p, q, le, rp, rq, z, hz, kk⟩ => ?_
  unfold eqP at hz
  by_cases hl : okD p = true ∧ okD q = true
  · rw [if_pos hl] at hz; cases hz
    exact ⟨_, _, rp.dp le (okD_lay hl.1), rq.dp le (okD_lay hl.2), hl.1, hl.2, kk⟩
  · rw [if_neg hl] at hz; cases hz
theorem or_ne {k : Nat} (hr : Room k X.A) : OpR X (compareOp .NotEq) (rB X.K neP) := by
  refine opr_imp (op_neD hr.units) fun x y H Q ⟨F, p, q, le, rp, rq, z, hz, kk⟩ => ?_
  unfold neP at hz
  by_cases hl : okD p = true ∧ okD q = true
  · rw [if_pos hl] at hz; cases hz
    exact ⟨_, _, rp.dp le (okD_lay hl.1), rq.dp le (okD_lay hl.2), hl.1, hl.2, kk⟩
  · rw [if_neg hl] at hz; cases hz
/-- is None, is True, is False -/
def isNon : PV → Bool
  | .non => true
  | _ => false
theorem RH.isNon {K : Frag} {F H : Hp} {p : PV} {v : V} (h : RH K F H p v) (le : Same F H) : decide (v = V.non) = KI.isNon p := by
  cases p with
  | non => rw [h.non]; rfl
  | bl b => rw [h.bl]; exact decide_eq_false (fun z => nomatch z)
  | int i => rw [h.int]; exact decide_eq_false (fun z => nomatch z)
  | str i => rw [h.str]; exact decide_eq_false (fun z => nomatch z)
  | lst ps => obtain ⟨a, _, e, _⟩ := h.lst le; rw [e]; exact decide_eq_false (fun z => nomatch z)
  | tup ps => obtain ⟨a, _, e, _⟩ := h.tup le; rw [e]; exact decide_eq_false (fun z => nomatch z)
  | dct ks ps => obtain ⟨a, _, e, _⟩ := h.dct le; rw [e]; exact decide_eq_false (fun z => nomatch z)
  | ins c ns ps => obtain ⟨a, _, _, e, _⟩ := h.ins le; rw [e]; exact decide_eq_false (fun z => nomatch z)
  | scr ns => obtain ⟨a, e, _⟩ := h.scr le; rw [e]; exact decide_eq_false (fun z => nomatch z)
def isP : PV → PV → Option Bool
  | p, .non => some (isNon p)
  | .bl a, .bl b => some (decide (a = b))
  | _, _ => none
def isnP : PV → PV → Option Bool
  | p, .non => some (!isNon p)
  | .bl a, .bl b => some (!decide (a = b))
  | _, _ => none
theorem or_is : OpR X (compareOp .Is) (rB X.K isP) := by
  refine opr_imp (OpR.or op_isN op_isBl) fun x y H Q ⟨F, p, q, le, rp, rq, z, hz, kk⟩ => ?_
  cases q with
  | non =>
    have hz' : some (isNon p) = some z := by cases p <;> exact hz
    cases hz'
    exact .inl ⟨rq.non, by rw [rp.isNon le]; exact kk⟩
  | bl b =>
    cases p <;> first
      | (cases hz; done)
      | skip
    rename_i a
    cases hz
    exact .inr ⟨a, b, rp.bl, rq.bl, kk⟩
  | _ => cases p <;> cases hz
theorem or_isn : OpR X (compareOp .IsNot) (rB X.K isnP) := by
  refine opr_imp (OpR.or op_notN op_notBl) fun x y H Q ⟨F, p, q, le, rp, rq, z, hz, kk⟩ => ?_
  cases q with
  | non =>
    have hz' : some (!isNon p) = some z := by cases p <;> exact hz
    cases hz'
    exact .inl ⟨rq.non, by rw [rp.isNon le]; exact kk⟩
  | bl b =>
    cases p <;> first
      | (cases hz; done)
      | skip
    rename_i a
    cases hz
    exact .inr ⟨a, b, rp.bl, rq.bl, kk⟩
  | _ => cases p <;> cases hz
/-! ### in -/
def flatP : PV → Bool
  | .non => true
  | .bl _ => true
  | .int _ => true
  | .str _ => true
  | _ => false
def eqF : PV → PV → Bool
  | .non, .non => true
  | .bl a, .bl b => a == b
  | .bl a, .int b => (if a then 1 else 0) == b
  | .int a, .bl b => a == (if b then 1 else 0)
  | .int a, .int b => a == b
  | .str a, .str b => a == b
  | _, _ => false
/-- a flat value -/
def flV : PV → V
  | .non => .non
  | .bl b => .bl b
  | .int i => .int i
  | .str x => .str x
  | _ => .non
theorem Rep.fl {K : Frag} {F : Hp} {p : PV} {v : V} (h : Rep K F p v) (f : flatP p = true) : v = flV p := by
  cases p with
  | non => exact h
  | bl b => exact h
  | int i => exact h
  | str x => exact h
  | lst _ => exact absurd f Bool.false_ne_true
  | tup _ => exact absurd f Bool.false_ne_true
  | dct _ _ => exact absurd f Bool.false_ne_true
  | ins _ _ _ => exact absurd f Bool.false_ne_true
  | scr _ => exact absurd f Bool.false_ne_true
theorem flV_flat : ∀ {p : PV}, flatP p = true → flatV (flV p) = true
  | .non, _ => rfl
  | .bl _, _ => rfl
  | .int _, _ => rfl
  | .str _, _ => rfl
theorem flV_eq : ∀ {p q : PV}, flatP p = true → flatP q = true → eqV (flV p) (flV q) = KI.eqF p q
  | .non, .non, _, _ => rfl
  | .non, .bl _, _, _ => rfl
  | .non, .int _, _, _ => rfl
  | .non, .str _, _, _ => rfl
  | .bl _, .non, _, _ => rfl
  | .bl _, .bl _, _, _ => rfl
  | .bl _, .int _, _, _ => rfl
  | .bl _, .str _, _, _ => rfl
  | .int _, .non, _, _ => rfl
  | .int _, .bl _, _, _ => rfl
  | .int _, .int _, _, _ => rfl
  | .int _, .str _, _, _ => rfl
  | .str _, .non, _, _ => rfl
  | .str _, .bl _, _, _ => rfl
  | .str _, .int _, _, _ => rfl
  | .str _, .str _, _, _ => rfl
theorem Rep.flat {K : Frag} {F : Hp} {p : PV} {v : V} (h : Rep K F p v) (f : flatP p = true) : flatV v = true := by rw [h.fl f]; exact flV_flat f
theorem Rep.eqF {K : Frag} {F : Hp} {p q : PV} {v w : V} (h1 : Rep K F p v) (h2 : Rep K F q w) (f1 : flatP p = true) (f2 : flatP q = true) : eqV v w = KI.eqF p q := by
  rw [h1.fl f1, h2.fl f2]; exact flV_eq f1 f2
theorem RepL.flat {K : Frag} {F : Hp} : ∀ {ps : List PV} {vs : List V}, RepL K F ps vs → ps.all flatP = true → vs.all flatV = true
  | [], _, h, _ => by cases (show _ = ([] : List V) from h); rfl
  | p :: ps, _, ⟨v, r, h1, h2, h3⟩, f => by
    subst h1
    rw [List.all_cons, Bool.and_eq_true_iff] at f ⊢
    exact ⟨h2.flat f.1, RepL.flat h3 f.2⟩
theorem RepL.inF {K : Frag} {F : Hp} {q : PV} {w : V} (hq : Rep K F q w) (fq : flatP q = true) : ∀ {ps : List PV} {vs : List V}, RepL K F ps vs → ps.all flatP = true → inV w vs = ps.any fun p => KI.eqF p q
  | [], _, h, _ => by cases (show _ = ([] : List V) from h); rfl
  | p :: ps, _, ⟨v, r, h1, h2, h3⟩, f => by
    subst h1
    rw [List.all_cons, Bool.and_eq_true_iff] at f
    have ih := RepL.inF hq fq h3 f.2
    unfold inV at ih ⊢
    rw [List.any_cons, List.any_cons, ih, h2.eqF hq f.1 fq]
theorem RH.flatR {K : Frag} {F H : Hp} {p : PV} {v : V} (h : RH K F H p v) (f : flatP p = true) : Rep K F p v := by
  rcases h with h | ⟨a, _, h⟩
  · exact h
  · cases p <;> first | exact h.elim | cases f
def keyP : PV → Option Key
  | .int i => some (.inl i)
  | .str x => some (.inr x)
  | _ => none
theorem RH.key {K : Frag} {F H : Hp} {p : PV} {v : V} {k : Key} (h : RH K F H p v) (e : keyP p = some k) : v = kV k := by
  cases p <;> first
    | (cases e; done)
    | (cases e; exact h.int)
    | (cases e; exact h.str)
def hasK (ks : List Key) (k : Key) : Bool := ks.any fun k' => decide (k' = k)
theorem valV_mem {k : Key} : ∀ {ks : List Key} {vs : List V}, ks.length = vs.length → (valV (ks.zip vs) k).isSome = hasK ks k
  | [], _, _ => by simp [valV, hasK]
  | k' :: ks, [], h => by cases h
  | k' :: ks, v :: vs, h => by
    rw [List.zip_cons_cons]
    unfold hasK
    rw [List.any_cons]
    by_cases e : k' = k
    · rw [valV_pos (p := (k', v)) e, decide_eq_true e]; rfl
    · rw [valV_neg (p := (k', v)) e, valV_mem (by simpa using h), decide_eq_false e, Bool.false_or]; rfl
theorem op_inDct {n : Nat} (hr : Room n X.A) : OpR X (compareOp .In) (fun x y H Q => ∃ a o, y = .ref a ∧ DGet H a x o ∧ Q (.bl o.isSome) H) := by
  intro pins s σ H x y v u Q I rx ry h
  obtain ⟨a, o, rfl, g, q⟩ := h
  cases (show u = Value.ref a from ry)
  exact d_in (hu_of hr) I g rx fun s' I' => ⟨.bl o.isSome, H, I', rfl, q⟩
theorem op_notInDct {n : Nat} (hr : Room n X.A) : OpR X (compareOp .NotIn) (fun x y H Q => ∃ a o, y = .ref a ∧ DGet H a x o ∧ Q (.bl (!o.isSome)) H) := by
  intro pins s σ H x y v u Q I rx ry h
  obtain ⟨a, o, rfl, g, q⟩ := h
  cases (show u = Value.ref a from ry)
  exact d_notIn (hu_of hr) I g rx fun s' I' => ⟨.bl (!o.isSome), H, I', rfl, q⟩
def inP (neg : Bool) : PV → PV → Option Bool
  | p, .lst ps => if flatP p = true ∧ ps.all flatP = true then some (if neg = true then !(ps.any fun r => eqF r p) else ps.any fun r => eqF r p) else none
  | p, .tup ps => if flatP p = true ∧ ps.all flatP = true then some (if neg = true then !(ps.any fun r => eqF r p) else ps.any fun r => eqF r p) else none
  | .str x, .str z => (match x.cps.toList with
    | [c] => some (if neg = true then !decide (c ∈ z.cps.toList) else decide (c ∈ z.cps.toList))
    | _ => none)
  | p, .dct ks _ => (match keyP p with
    | some k => some (if neg = true then !hasK ks k else hasK ks k)
    | none => none)
  | _, _ => none
theorem str_one {x : Str} {c : Nat} (h : x.cps.toList = [c]) : x = ⟨#[c]⟩ := Str.ext' (Array.toList_inj.mp h)
theorem inP_seq {K : Frag} {neg : Bool} {F H : Hp} {p : PV} {ps : List PV} {x : V} {z : Bool} {Q : VK} {vs : List V} (rp : RH K F H p x) (h2 : RepL K F ps vs)
    (hz : (if flatP p = true ∧ ps.all flatP = true then some (if neg = true then !(ps.any fun r => eqF r p) else ps.any fun r => eqF r p) else none) = some z) (kk : Q (.bl z) H) :
    flatV x = true ∧ vs.all flatV = true ∧ Q (.bl (if neg then !inV x vs else inV x vs)) H := by
  by_cases hl : flatP p = true ∧ ps.all flatP = true
  · rw [if_pos hl] at hz; cases hz
    have r := rp.flatR hl.1
    refine ⟨r.flat hl.1, h2.flat hl.2, ?_⟩
    rw [h2.inF r hl.1 hl.2]; exact kk
  · rw [if_neg hl] at hz; cases hz
theorem or_in_of {neg : Bool} {f : Value → Value → Sem Value} {r : R2} (h : OpR X f r)
    (k1 : ∀ x y H Q, rIn X.K neg x y H Q → r x y H Q) (k2 : ∀ c z H Q, Q (.bl (if neg = true then !decide (c ∈ z.cps.toList) else decide (c ∈ z.cps.toList))) H → r (.str ⟨#[c]⟩) (.str z) H Q)
    (k3 : ∀ x a o H Q, DGet H a x o → Q (.bl (if neg = true then !o.isSome else o.isSome)) H → r x (.ref a) H Q) : OpR X f (rB X.K (inP neg)) := by
  refine opr_imp h fun x y H Q ⟨F, p, q, le, rp, rq, z, hz, kk⟩ => ?_
  cases q with
  | lst ps =>
    obtain ⟨a, vs, rfl, h1, h2⟩ := rq.lst le
    have hz' : (if flatP p = true ∧ ps.all flatP = true then some (if neg = true then !(ps.any fun r => eqF r p) else ps.any fun r => eqF r p) else none) = some z := by cases p <;> exact hz
    obtain ⟨e1, e2, e3⟩ := inP_seq (Q := Q) rp h2 hz' kk
    exact k1 _ _ _ _ ⟨a, vs, rfl, .inl (SqL.of h1), e1, e2, e3⟩
  | tup ps =>
    obtain ⟨a, vs, rfl, h1, h2⟩ := rq.tup le
    have hz' : (if flatP p = true ∧ ps.all flatP = true then some (if neg = true then !(ps.any fun r => eqF r p) else ps.any fun r => eqF r p) else none) = some z := by cases p <;> exact hz
    obtain ⟨e1, e2, e3⟩ := inP_seq (Q := Q) rp h2 hz' kk
    exact k1 _ _ _ _ ⟨a, vs, rfl, .inr h1, e1, e2, e3⟩
  | str w =>
    cases p <;> first
      | (cases hz; done)
      | skip
    rename_i x'
    have hz' : (match x'.cps.toList with
      | [c] => some (if neg = true then !decide (c ∈ w.cps.toList) else decide (c ∈ w.cps.toList))
      | _ => none) = some z := hz
    split at hz'
    · rename_i c hc
      cases hz'
      rw [rp.str, rq.str, str_one hc]
      exact k2 _ _ _ _ kk
    · cases hz'
  | dct ks ps =>
    obtain ⟨a, vs, rfl, h1, h2, h3⟩ := rq.dct le
    have hz' : (match keyP p with
      | some k => some (if neg = true then !hasK ks k else hasK ks k)
      | none => none) = some z := by cases p <;> exact hz
    split at hz'
    · rename_i k hk
      cases hz'
      rw [rp.key hk]
      refine k3 _ a _ _ _ (DGet.k (k := k) h1) ?_
      rw [valV_mem h2]; exact kk
    · cases hz'
  | _ => cases p <;> cases hz
theorem or_in {n : Nat} (hr : Room n X.A) : OpR X (compareOp .In) (rB X.K (inP false)) :=
  or_in_of (OpR.or op_in_seq (OpR.or op_in_sign (op_inDct hr))) (fun _ _ _ _ h => .inl h) (fun c z H Q h => .inr (.inl ⟨c, z, rfl, rfl, h⟩)) fun x a o H Q g h => .inr (.inr ⟨a, o, rfl, g, h⟩)
theorem or_notIn {n : Nat} (hr : Room n X.A) : OpR X (compareOp .NotIn) (rB X.K (inP true)) :=
  or_in_of (OpR.or op_notIn_seq (OpR.or op_notIn_sign (op_notInDct hr))) (fun _ _ _ _ h => .inl h) (fun c z H Q h => .inr (.inl ⟨c, z, rfl, rfl, h⟩)) fun x a o H Q g h => .inr (.inr ⟨a, o, rfl, g, h⟩)
/-! ### subscripts -/
def ixP : PV → PV → Option PV
  | .lst ps, .int i => atI ps i
  | .tup ps, .int i => atI ps i
  | .str z, .int i => if z.length ≤ sizeLine then (atI z.cps.toList i).map fun c => .str ⟨#[c]⟩ else none
  | .scr ns, .int i => (atI ns i).map PV.int
  | _, _ => none
theorem RepL.atI {K : Frag} {F : Hp} {ps : List PV} {vs : List V} {i : Int} {p : PV} (r : RepL K F ps vs) (h : L2.atI ps i = some p) : ∃ v, L2.atI vs i = some v ∧ Rep K F p v := by
  unfold L2.atI at h ⊢
  rw [← r.length]
  cases e : ixN ps.length i with
  | none => rw [e] at h; cases h
  | some j =>
    rw [e] at h
    obtain ⟨v, h1, h2⟩ := r.get (i := j) (p := p) h
    exact ⟨v, h1, h2⟩
theorem atI_map {α β : Type} {f : α → β} {xs : List α} {i : Int} : L2.atI (xs.map f) i = (L2.atI xs i).map f := by
  unfold L2.atI
  rw [List.length_map]
  cases ixN xs.length i with
  | none => rfl
  | some j => simp
theorem ixr_imp {r r' : R2} (h : IxR X r) (k : ∀ x y H Q, r' x y H Q → r x y H Q) : IxR X r' := fun value slice pins s σ H x y v u Q I rx ry q => h value slice pins s σ H x y v u Q I rx ry (k x y H Q q)
theorem ix_p : IxR X (rP X.K ixP) := by
  refine ixr_imp ix_seq fun x y H Q ⟨F, p, q, le, rp, rq, z, hz, kk⟩ => ?_
  cases p <;> cases q <;> first
    | (simp only [ixP, reduceCtorEq] at hz; done)
    | skip
  · rename_i w i
    rw [rp.str, rq.int]
    have hz' : (if w.length ≤ sizeLine then (L2.atI w.cps.toList i).map fun c => PV.str ⟨#[c]⟩ else none) = some z := hz
    by_cases hl : w.length ≤ sizeLine
    · rw [if_pos hl] at hz'
      cases e : L2.atI w.cps.toList i with
      | none => rw [e] at hz'; cases hz'
      | some c =>
        rw [e] at hz'; cases hz'
        exact .inr (.inr ⟨w, i, c, rfl, rfl, hl, e, kk _ F H newBy0 rfl⟩)
    · rw [if_neg hl] at hz'; cases hz'
  · rename_i ps i
    rw [rq.int]
    obtain ⟨a, vs, rfl, h1, h2⟩ := rp.lst le
    obtain ⟨v, h3, h4⟩ := h2.atI (p := z) hz
    exact .inl ⟨a, vs, i, v, rfl, rfl, SqL.of h1, h3, kk _ F H newBy0 h4⟩
  · rename_i ps i
    rw [rq.int]
    obtain ⟨a, vs, rfl, h1, h2⟩ := rp.tup le
    obtain ⟨v, h3, h4⟩ := h2.atI (p := z) hz
    exact .inr (.inl ⟨a, vs, i, v, rfl, rfl, h1, h3, kk _ F H newBy0 h4⟩)
  · rename_i ns i
    rw [rq.int]
    obtain ⟨a, rfl, h1⟩ := rp.scr le
    have hz' : (L2.atI ns i).map PV.int = some z := hz
    cases e : L2.atI ns i with
    | none => rw [e] at hz'; cases hz'
    | some j =>
      rw [e] at hz'; cases hz'
      exact .inl ⟨a, _, i, .int j, rfl, rfl, h1, by rw [atI_map, e]; rfl, kk _ F H newBy0 rfl⟩
end
end KI

/-! part KI6 -/
set_option Elab.async false
set_option linter.all false
set_option maxRecDepth 100000
set_option maxHeartbeats 4000000
namespace KI
open PySem PySem.Spec PyProof.Rows L2

/-! ## defs -/
inductive Md where
  | val | bor | mu
  deriving DecidableEq
def isMut : Md → Bool
  | .mu => true
  | _ => false
structure FnI where
  ms : List Md
  own : Bool
  sem : List PV → PV → ER PV

def ArgOk (K : Frag) (F H : Hp) (ma : Option Addr) (st : PV) : Md → PV → V → Prop
  | .val, p, v => Rep K F p v
  | .bor, p, v => Rep K F p v ∨ ∃ a, v = .ref a ∧ ma ≠ some a ∧ Own K F H a p
  | .mu, _, v => ∃ a, v = .ref a ∧ ma = some a ∧ F a = none ∧ Own K F H a st
def ArgsOk (K : Frag) (F H : Hp) (ma : Option Addr) (st : PV) : List Md → List PV → List V → Prop
  | [], ps, vs => ps = [] ∧ vs = []
  | m :: ms, ps, vs => ∃ p ps' v vs', ps = p :: ps' ∧ vs = v :: vs' ∧ ArgOk K F H ma st m p v ∧ ArgsOk K F H ma st ms ps' vs'
theorem ArgsOk.len {K : Frag} {F H : Hp} {ma : Option Addr} {st : PV} : ∀ {ms : List Md} {ps : List PV} {vs : List V}, ArgsOk K F H ma st ms ps vs → ms.length = ps.length ∧ ms.length = vs.length
  | [], _, _, ⟨h1, h2⟩ => by rw [h1, h2]; exact ⟨rfl, rfl⟩
  | m :: ms, _, _, ⟨p, ps', v, vs', h1, h2, _, h4⟩ => by
    obtain ⟨a, b⟩ := ArgsOk.len h4
    rw [h1, h2, List.length_cons, List.length_cons, List.length_cons, ← a, ← b]; exact ⟨rfl, rfl⟩
theorem ArgsOk.get {K : Frag} {F H : Hp} {ma : Option Addr} {st : PV} : ∀ {ms : List Md} {ps : List PV} {vs : List V} {i : Nat} {m : Md}, ArgsOk K F H ma st ms ps vs → ms[i]? = some m → ∃ p v, ps[i]? = some p ∧ vs[i]? = some v ∧ ArgOk K F H ma st m p v
  | [], _, _, _, _, _, e => by simp at e
  | m :: ms, _, _, 0, m', ⟨p, ps', v, vs', h1, h2, h3, _⟩, e => by
    simp at e; subst e; subst h1 h2; exact ⟨p, v, rfl, rfl, h3⟩
  | m :: ms, _, _, i + 1, m', ⟨p, ps', v, vs', h1, h2, _, h4⟩, e => by
    subst h1 h2
    obtain ⟨p', v', a, b, c⟩ := ArgsOk.get (i := i) (m := m') h4 (by simpa using e)
    exact ⟨p', v', by simpa using a, by simpa using b, c⟩
/-- behind a call -/
structure Back (K : Frag) (F H : Hp) (ma : Option Addr) (F' H' : Hp) (st' : PV) : Prop where
  le0 : Same F F'
  le : Same F' H'
  kept : ∀ a o, H a = some o → ma ≠ some a → H' a = some o
  there : ∀ a, H a ≠ none → H' a ≠ none
  frs : ∀ a, F' a ≠ none → F a ≠ none ∨ H a = none
  mt : ∀ a, ma = some a → F' a = none ∧ Own K F' H' a st'
def ResOk (K : Frag) (F H F' H' : Hp) (own : Bool) (p : PV) (v : V) : Prop :=
  if own = true then ∃ a, v = .ref a ∧ F' a = none ∧ H a = none ∧ Own K F' H' a p else Rep K F' p v
def FPost (K : Frag) (F H : Hp) (ma : Option Addr) (own : Bool) (Q : VK) (E : XK) : ER PV → Prop
  | .ok p st' => ∀ v F' H', Back K F H ma F' H' st' → ResOk K F H F' H' own p v → Q v H'
  | .exc c ns qs st' => ∀ F' H' d ws, Back K F H ma F' H' st' → F' d = some (.xd (ns.zip ws)) → ns.length = ws.length → RepL K F' qs ws → E (.ref (He.ga K c)) (some d) H'
  | .stuck => False
/-- the promise of a def by its meaning -/
def spOf (K : Frag) (fi : FnI) : Sp := fun vs H Q E => ∃ F ps st ma, Same F H ∧ (fi.ms.any isMut = false → ma = none) ∧ ArgsOk K F H ma st fi.ms ps vs ∧ FPost K F H ma fi.own Q E (fi.sem ps st)

def slotOf : Md → PV → Slot
  | .val, p => .sh p
  | .bor, p => .bor p
  | .mu, _ => .mt
def env0 (ms : List Md) (ps : List PV) (n : Nat) : SEnv := List.zipWith slotOf ms ps ++ List.replicate (n - ms.length) .dead
def hasMt (env : SEnv) : Bool := env.any fun s => match s with
  | .mt => true
  | _ => false
def endS (m own : Bool) : SR → ER PV
  | .nx env st => if (!m || hasMt env) && !own then .ok .non st else .stuck
  | .ret p o env st => if (!m || hasMt env) && (o == own) then .ok p st else .stuck
  | .exc c ns ps env st => if (!m || hasMt env) then .exc c ns ps st else .stuck
  | _ => .stuck
def mkFn (ms : List Md) (own : Bool) (n : Nat) (g : SF) : FnI := ⟨ms, own, fun ps st => endS (ms.any isMut) own (g (env0 ms ps n) st)⟩

theorem zipWith_get {α β γ : Type} {f : α → β → γ} : ∀ {xs : List α} {ys : List β} {i : Nat} {z : γ}, (List.zipWith f xs ys)[i]? = some z → ∃ x y, xs[i]? = some x ∧ ys[i]? = some y ∧ z = f x y
  | [], _, _, _, h => by simp at h
  | _ :: _, [], _, _, h => by simp at h
  | x :: xs, y :: ys, 0, z, h => by simp at h; exact ⟨x, y, rfl, rfl, h.symm⟩
  | x :: xs, y :: ys, i + 1, z, h => by
    obtain ⟨a, b, h1, h2, h3⟩ := zipWith_get (xs := xs) (ys := ys) (i := i) (z := z) (by simpa using h)
    exact ⟨a, b, by simpa using h1, by simpa using h2, h3⟩
theorem good_start {K : Frag} {F H : Hp} {ma : Option Addr} {st : PV} {ms : List Md} {ps : List PV} {vs : List V} {N : List Str} (le : Same F H) (ha : ArgsOk K F H ma st ms ps vs) (hn : ms.length ≤ N.length)
    (h1 : ∀ i j : Nat, ms[i]? = some .mu → ms[j]? = some .mu → i = j) : Good K ⟨F, H, ma, none⟩ F H (env0 ms ps N.length) st (L2.start N vs) := by
  obtain ⟨l1, l2⟩ := ha.len
  have lz : (List.zipWith slotOf ms ps).length = ms.length := by rw [List.length_zipWith, ← l1, Nat.min_self]
  have at_ : ∀ (i : Nat) (s : Slot), (env0 ms ps N.length)[i]? = some s → (∃ m p v, ms[i]? = some m ∧ ps[i]? = some p ∧ (L2.start N vs)[i]? = some (some v) ∧ s = slotOf m p ∧ ArgOk K F H ma st m p v) ∨ (s = .dead ∧ ∃ o, (L2.start N vs)[i]? = some o) := fun i s h => by
    unfold env0 at h
    by_cases hi : i < ms.length
    · rw [List.getElem?_append_left (by rw [lz]; exact hi)] at h
      obtain ⟨m, p, e1, e2, e3⟩ := zipWith_get h
      obtain ⟨p', v, e4, e5, e6⟩ := ha.get e1
      rw [e2] at e4; cases e4
      refine .inl ⟨m, p, v, e1, e2, ?_, e3, e6⟩
      unfold L2.start
      rw [List.getElem?_append_left (by rw [List.length_map, ← l2]; exact hi), List.getElem?_map, e5]; rfl
    · rw [List.getElem?_append_right (by rw [lz]; omega), lz] at h
      obtain ⟨hl, e⟩ := List.getElem?_eq_some_iff.mp h
      rw [List.getElem_replicate] at e
      rw [List.length_replicate] at hl
      refine .inr ⟨e.symm, none, ?_⟩
      unfold L2.start
      rw [List.getElem?_append_right (by rw [List.length_map, ← l2]; omega), List.length_map, ← l2]
      exact List.getElem?_replicate_of_lt hl
  refine ⟨le, Same.refl F, fun _ _ h _ => h, fun _ h => h, fun _ h => .inl h, ?_, fun i s h => ?_, fun i j s t a ne h1' h2' o1 o2 e1 e2 => ?_, fun i j h1' h2' => ?_⟩
  · unfold env0 L2.start
    rw [List.length_append, List.length_append, lz, List.length_replicate, List.length_map, List.length_replicate, l2]
  · rcases at_ i s h with ⟨m, p, v, e1, e2, e3, rfl, e4⟩ | ⟨rfl, o, e⟩
    · refine ⟨some v, e3, ?_⟩
      cases m with
      | val => exact ⟨v, rfl, e4⟩
      | bor => exact ⟨v, rfl, e4⟩
      | mu => obtain ⟨a, rfl, e5, e6, e7⟩ := e4; exact ⟨a, rfl, e6, .inl e5, e7⟩
    · exact ⟨o, e, trivial⟩
  · rcases at_ i s h1' with ⟨m, p, v, e3, _, _, rfl, _⟩ | ⟨rfl, _⟩
    · rcases at_ j t h2' with ⟨m', p', v', e4, _, _, rfl, _⟩ | ⟨rfl, _⟩
      · cases m <;> first
          | (cases o1; done)
          | (cases m' <;> first
            | (cases o2; done)
            | exact ne (h1 i j e3 e4))
      · cases o2
    · cases o1
  · rcases at_ i _ h1' with ⟨m, p, v, e3, _, _, z, _⟩ | ⟨z, _⟩
    · rcases at_ j _ h2' with ⟨m', p', v', e4, _, _, z', _⟩ | ⟨z', _⟩
      · cases m <;> first
          | (cases z; done)
          | (cases m' <;> first
            | (cases z'; done)
            | exact h1 i j e3 e4)
      · cases z'
    · cases z

section
variable {P : Program} {w : World} {K : Frag} {mg : Str → Option Value} {base : Heap} {x qual : Str} {params : Arguments} {body : List Stmt} {scope : Scope} {dvs : List V} {kws : List (Str × V)} {f : Addr} {fd : FuncData}
theorem hasMt_get {env : SEnv} (h : hasMt env = true) : ∃ i : Nat, env[i]? = some Slot.mt := by
  obtain ⟨s, hm, hs⟩ := List.any_eq_true.mp h
  obtain ⟨i, hi⟩ := List.getElem?_of_mem hm
  cases s with
  | mt => exact ⟨i, hi⟩
  | _ => cases hs
theorem back_of {F H F' H' : Hp} {ma : Option Addr} {env : SEnv} {st' : PV} {σ : Sg} {m : Bool} (g : Good K ⟨F, H, ma, none⟩ F' H' env st' σ) (hm : m = false → ma = none) (h : (!m || hasMt env) = true) : Back K F H ma F' H' st' :=
  ⟨g.le0, g.le, g.kept, g.there, g.frs, fun a e => by
    cases m with
    | false => rw [hm rfl] at e; cases e
    | true =>
      obtain ⟨i, hi⟩ := hasMt_get (show hasMt env = true by simpa using h)
      obtain ⟨o, _, b, _, h2, h3, h4⟩ := g.slots i _ hi
      have eb : b = a := by
        rcases h3 with h3 | ⟨h3, _⟩
        · have z : some a = some b := e.symm.trans h3
          exact (Option.some.inj z).symm
        · have z : ma = none := h3
          rw [e] at z; cases z
      subst eb
      exact ⟨h2, h4⟩⟩
/-- THE RULE of a def -/
theorem fn_rule {N ps : List Str} {k : Nat} {ms : List Md} {own : Bool} {g : SF} (F : FunD K x qual params body scope dvs kws f fd) (S : FnScope N ps scope) (hms : ms.length = ps.length) (h1 : (ms.filter isMut).length ≤ 1)
    (hbody : ∀ (cdv : Value) (A : Around) (outer : List Env) (s : Shared) (H : Hp) (E : XK) (B : Bs), (ms.any isMut = false → B.ma = none) → Room k (A.deeper (envOfC qual scope s.heap.objs.size f cdv)) →
      QSs (cxOf (L2.CX P w) P w K mg base N qual scope f cdv A outer s H E) B (fun cls d _ H => E cls d H) body g) :
    FnOk P w K mg base (L2.CX P w) (k + 1) f fd ps (spOf K (mkFn ms own N.length g)) := by
  have hlen : ms.length ≤ N.length := by
    rw [hms, ← S.pre]; rw [List.length_take]; exact Nat.min_le_right _ _
  have uniq : ∀ i j : Nat, ms[i]? = some .mu → ms[j]? = some .mu → i = j := by
    clear hms hbody S hlen
    induction ms with
    | nil => intro i j h; simp at h
    | cons m ms ih =>
      intro i j hi hj
      have no : ∀ n : Nat, m = .mu → ms[n]? ≠ some .mu := fun n em hn => by
        have : Md.mu ∈ ms.filter isMut := List.mem_filter.mpr ⟨List.mem_of_getElem? hn, rfl⟩
        have hl := List.length_pos_of_mem this
        rw [List.filter_cons, if_pos (by rw [em]; rfl), List.length_cons] at h1
        omega
      have ih' := ih (by
        rw [List.filter_cons] at h1
        split at h1
        · rw [List.length_cons] at h1; omega
        · exact h1)
      cases i with
      | zero =>
        simp at hi
        cases j with
        | zero => rfl
        | succ j => exact absurd (by simpa using hj) (no j hi)
      | succ i =>
        cases j with
        | zero => simp at hj; exact absurd (by simpa using hi) (no i hj)
        | succ j => rw [ih' i j (by simpa using hi) (by simpa using hj)]
  refine F.ok S (fun vs H Q E ⟨F0, qs, st, ma, _, _, ha, _⟩ => by rw [← ha.len.2]; exact hms) (fun cdv A outer s H vs Q E hr ⟨F0, qs, st, ma, le, hm, ha, q⟩ => ⟨_, (hbody cdv A outer s H E ⟨F0, H, ma, none⟩ hm hr).pss, F0, env0 ms qs N.length, st, good_start le ha hlen uniq, ?_⟩)
  have q' : FPost K F0 H ma own Q E (endS (ms.any isMut) own (g (env0 ms qs N.length) st)) := q
  cases hg : g (env0 ms qs N.length) st with
  | nx env st' =>
    replace q' : FPost K F0 H ma own Q E (if ((!ms.any isMut || hasMt env) && !own) = true then .ok .non st' else .stuck) := by rw [hg] at q'; exact q'
    by_cases hc : ((!ms.any isMut || hasMt env) && !own) = true
    · rw [if_pos hc] at q'
      obtain ⟨c1, c2⟩ := Bool.and_eq_true_iff.mp hc
      exact fun σ' F' H' e g' => q' .non F' H' (back_of g' hm c1) (by
        unfold ResOk
        rw [if_neg (by simpa using c2)]; rfl)
    · rw [if_neg hc] at q'; exact q'.elim
  | ret p o env st' =>
    replace q' : FPost K F0 H ma own Q E (if ((!ms.any isMut || hasMt env) && (o == own)) = true then .ok p st' else .stuck) := by rw [hg] at q'; exact q'
    by_cases hc : ((!ms.any isMut || hasMt env) && (o == own)) = true
    · rw [if_pos hc] at q'
      obtain ⟨c1, c2⟩ := Bool.and_eq_true_iff.mp hc
      have c3 : o = own := eq_of_beq c2
      subst c3
      exact fun v σ' F' H' e g' r => q' v F' H' (back_of g' hm c1) r
    · rw [if_neg hc] at q'; exact q'.elim
  | exc c ns ps' env st' =>
    replace q' : FPost K F0 H ma own Q E (if (!ms.any isMut || hasMt env) = true then .exc c ns ps' st' else .stuck) := by rw [hg] at q'; exact q'
    by_cases hc : (!ms.any isMut || hasMt env) = true
    · rw [if_pos hc] at q'
      exact fun σ' F' H' d ws e g' h2 h3 h4 => q' F' H' d ws (back_of g' hm hc) h2 h3 h4
    · rw [if_neg hc] at q'; exact q'.elim
  | brk env st' => rw [hg] at q'; exact q'.elim
  | ct env st' => rw [hg] at q'; exact q'.elim
  | stuck => rw [hg] at q'; exact q'.elim
end
end KI

/-! part KI7 -/
set_option Elab.async false
set_option linter.all false
set_option maxRecDepth 100000
set_option maxHeartbeats 4000000
namespace KI
open PySem PySem.Spec PyProof.Rows L2

/-! ## arguments -/
def CArg (K : Frag) (F H : Hp) (env : SEnv) (σ : Sg) : Md → PV → V → Prop
  | .val, p, v => Rep K F p v
  | .bor, p, v => RT K F H env σ p v
  | .mu, _, v => ∃ (i : Nat) (a : Addr), v = .ref a ∧ env[i]? = some .mt ∧ σ[i]? = some (some (.ref a))
def CArgs (K : Frag) (F H : Hp) (env : SEnv) (σ : Sg) : List Md → List PV → List V → Prop
  | [], ps, vs => ps = [] ∧ vs = []
  | m :: ms, ps, vs => ∃ p ps' v vs', ps = p :: ps' ∧ vs = v :: vs' ∧ CArg K F H env σ m p v ∧ CArgs K F H env σ ms ps' vs'
theorem CArg.step {K : Frag} {F H F' H' : Hp} {env : SEnv} {σ : Sg} (s : Stp env σ F H F' H') : ∀ {m : Md} {p : PV} {v : V}, CArg K F H env σ m p v → CArg K F' H' env σ m p v
  | .val, _, _, h => Rep.mono s.le _ _ h
  | .bor, _, _, h => RT.step s h
  | .mu, _, _, h => h
def tA (K : Frag) (B : Bs) (W : WX) (ms : List Md) (f : AF) : TA := fun σ H Q => ∃ F env st, Good K B F H env st σ ∧ EPost K B W env σ F H (fun ps _ F' H' => ∀ vs, CArgs K F' H' env σ ms ps vs → Q vs H') (f env st)
structure QA (X : Cx) (B : Bs) (W : WX) (ms : List Md) (es : List Expr) (f : AF) : Prop where
  pa : PA X es (tA X.K B W ms f)
def nilA : AF := fun _ st => .ok [] st
def consA (f : EF) (g : AF) : AF := fun env st => (f env st).bind fun p st1 => (g env st1).bind fun ps st2 => .ok (p :: ps) st2
section
variable {X : Cx} {B : Bs} {W : WX} {e : Expr} {es : List Expr} {f : EF} {g : AF} {ms : List Md} {pos : Pos}
theorem qa_nil : QA X B W [] [] nilA := ⟨pa_imp pa_nil fun σ H Q ⟨F, env, st, g, q⟩ => q F H Stp.refl g [] ⟨rfl, rfl⟩⟩
theorem cons_post {K : Frag} {m : Md} {F H : Hp} {env : SEnv} {st : PV} {σ : Sg} {Q : List V → Hp → Prop} {te : TE} (g0 : Good K B F H env st σ) (q : EPost K B W env σ F H (fun ps _ F' H' => ∀ vs, CArgs K F' H' env σ (m :: ms) ps vs → Q vs H') (consA f g env st))
    (ht : ∀ R : V → Hp → Prop, (EPost K B W env σ F H (fun p _ F' H' => ∀ v, CArg K F' H' env σ m p v → R v H') (f env st)) → te σ H R) : te σ H fun x H1 => tA K B W ms g σ H1 fun xs H2 => Q (x :: xs) H2 :=
  ht _ (q.bind.mono fun p st1 F1 H1 s1 g1 q1 v rv => ⟨F1, env, st1, g1, q1.bind.mono fun ps st2 F2 H2 s2 g2 q2 vs rs => q2 F2 H2 Stp.refl g2 (v :: vs) ⟨p, ps, v, vs, rfl, rfl, rv.step s2, rs⟩⟩)
theorem qa_val (h : QE X B W e f) (hr : QA X B W ms es g) (hs : starEach (e :: es) X.env = (false, eval e X.env) :: starEach es X.env := by rfl) : QA X B W (.val :: ms) (e :: es) (consA f g) :=
  ⟨pa_imp (pa_cons h.pe hr.pa hs) fun σ H Q ⟨F, env, st, g0, q⟩ => cons_post (m := .val) g0 q fun R hq => ⟨F, env, st, g0, hq⟩⟩
theorem qa_bor (h : QR X B W e f) (hr : QA X B W ms es g) (hs : starEach (e :: es) X.env = (false, eval e X.env) :: starEach es X.env := by rfl) : QA X B W (.bor :: ms) (e :: es) (consA f g) :=
  ⟨pa_imp (pa_cons h.pe hr.pa hs) fun σ H Q ⟨F, env, st, g0, q⟩ => cons_post (m := .bor) g0 q fun R hq => ⟨F, env, st, g0, hq⟩⟩
/-- the object that the callee may change: its own slot -/
def mtA (i : Nat) : EF := fun env st => match env[i]? with
  | some .mt => .ok .non st
  | _ => .stuck
theorem qa_mu (i : Nat) {x : Str} {p1 : Pos} (hr : QA X B W ms es g) (hN : X.N[i]? = some x := by rfl) (hv : Vis X.env.scope x := by first | exact Or.inl rfl | exact Or.inr (Or.inl rfl) | exact Or.inr (Or.inr rfl)) (hd : (x == ("__debug__" : Str)) = false := by decide)
    (hcd : (x == ("__classdict__" : Str)) = false := by decide) (hs : starEach (.Name x p1 :: es) X.env = (false, eval (.Name x p1) X.env) :: starEach es X.env := by rfl) : QA X B W (.mu :: ms) (.Name x p1 :: es) (consA (mtA i) g) :=
  ⟨pa_imp (pa_cons (pe_var hN hv hd hcd) hr.pa hs) fun σ H Q ⟨F, env, st, g0, q⟩ => cons_post (m := .mu) g0 q fun R hq => by
    unfold mtA at hq
    cases h : env[i]? with
    | none => rw [h] at hq; exact hq.elim
    | some s =>
      rw [h] at hq
      cases s with
      | mt =>
        obtain ⟨o, h1, a, rfl, _⟩ := g0.slots i _ h
        exact ⟨.ref a, h1, hq F H Stp.refl g0 (.ref a) ⟨i, a, rfl, h, h1⟩⟩
      | _ => exact hq.elim⟩
end

/-! ## calls -/
theorem argsOk_vals {K : Frag} {F H : Hp} {ma : Option Addr} {st : PV} : ∀ {ps2 : List PV} {vs2 : List V}, RepL K F ps2 vs2 → ArgsOk K F H ma st (List.replicate ps2.length .val) ps2 vs2
  | [], _, h => ⟨rfl, h⟩
  | p :: ps, _, ⟨v, r, e, h3, h4⟩ => ⟨p, ps, v, r, rfl, e, h3, argsOk_vals h4⟩
theorem ArgsOk.append {K : Frag} {F H : Hp} {ma : Option Addr} {st : PV} {ps2 : List PV} {vs2 : List V} (h2 : RepL K F ps2 vs2) : ∀ {ms : List Md} {ps : List PV} {vs : List V}, ArgsOk K F H ma st ms ps vs → ArgsOk K F H ma st (ms ++ List.replicate ps2.length .val) (ps ++ ps2) (vs ++ vs2)
  | m :: ms, _, _, ⟨p, ps', v, vs', h1, h3, h4, h5⟩ => by
    subst h1 h3
    exact ⟨p, ps' ++ ps2, v, vs' ++ vs2, rfl, rfl, h4, ArgsOk.append h2 h5⟩
  | [], _, _, ⟨h1, h3⟩ => by
    subst h1 h3
    exact argsOk_vals h2
/-- the arguments, as the callee takes them -/
theorem args_in {K : Frag} {B : Bs} {F H : Hp} {env : SEnv} {st : PV} {σ : Sg} (g : Good K B F H env st σ) {ms : List Md} {ps : List PV} {vs : List V} (h : CArgs K F H env σ ms ps vs) :
    ∃ ma, (ms.any isMut = false → ma = none) ∧ (∀ a, ma = some a → MtA env σ a) ∧ (ms.any isMut = true → ∃ a, ma = some a) ∧ ArgsOk K F H ma (if ms.any isMut = true then st else .non) ms ps vs := by
  by_cases hm : ms.any isMut = true
  · have key : ∀ (ms : List Md) (ps : List PV) (vs : List V), CArgs K F H env σ ms ps vs → ms.any isMut = true → ∃ a, MtA env σ a := by
      intro ms
      induction ms with
      | nil => intro _ _ _ z; cases z
      | cons m ms ih =>
        intro ps vs ⟨p, ps', v, vs', _, _, h3, h4⟩ z
        cases m with
        | mu => obtain ⟨i, a, _, h5, h6⟩ := h3; exact ⟨a, i, h5, h6⟩
        | val => exact ih _ _ h4 z
        | bor => exact ih _ _ h4 z
    obtain ⟨a, ha⟩ := key ms ps vs h hm
    have uniq : ∀ b, MtA env σ b → b = a := fun b ⟨j, h3, h4⟩ => by
      obtain ⟨i, h1, h2⟩ := ha
      have e := g.mt1 i j h1 h3
      subst e
      rw [h2] at h4; cases h4; rfl
    refine ⟨some a, (fun z => by rw [hm] at z; cases z), (fun b e => by cases e; exact ha), (fun _ => ⟨a, rfl⟩), ?_⟩
    rw [if_pos hm]
    clear hm key
    induction ms generalizing ps vs with
    | nil => exact h
    | cons m ms ih =>
      obtain ⟨p, ps', v, vs', h1, h2, h3, h4⟩ := h
      refine ⟨p, ps', v, vs', h1, h2, ?_, ih h4⟩
      cases m with
      | val => exact h3
      | bor =>
        rcases h3 with h3 | ⟨b, e, n, h3⟩
        · exact .inl h3
        · exact .inr ⟨b, e, fun z => by cases z; exact n ha, h3⟩
      | mu =>
        obtain ⟨i, b, e, h5, h6⟩ := h3
        have eb := uniq b ⟨i, h5, h6⟩
        subst eb
        obtain ⟨o, e1, c, rfl, e2, e3, e4⟩ := g.slots i _ h5
        rw [h6] at e1; cases e1
        exact ⟨b, e, rfl, e2, e4⟩
  · have hm' : ms.any isMut = false := by simpa using hm
    refine ⟨none, (fun _ => rfl), (fun b e => by cases e), (fun z => absurd z hm), ?_⟩
    rw [if_neg hm]
    clear hm
    induction ms generalizing ps vs with
    | nil => exact h
    | cons m ms ih =>
      obtain ⟨p, ps', v, vs', h1, h2, h3, h4⟩ := h
      rw [List.any_cons, Bool.or_eq_false_iff] at hm'
      refine ⟨p, ps', v, vs', h1, h2, ?_, ih h4 hm'.2⟩
      cases m with
      | val => exact h3
      | bor =>
        rcases h3 with h3 | ⟨b, e, n, h3⟩
        · exact .inl h3
        · exact .inr ⟨b, e, (fun z => by cases z), h3⟩
      | mu => cases hm'.1
/-- what comes back -/
theorem Good.back {K : Frag} {B : Bs} {F H F' H' : Hp} {env : SEnv} {st st' : PV} {σ : Sg} {ma : Option Addr} (g : Good K B F H env st σ) (hma : ∀ a, ma = some a → MtA env σ a) (b : Back K F H ma F' H' st') :
    Good K B F' H' env (if ma.isSome = true then st' else st) σ ∧ Stp env σ F H F' H' := by
  have fn : ∀ a, F a = none → H a ≠ none → F' a = none := fun a h1 h2 => by
    cases z : F' a with
    | none => rfl
    | some u =>
      rcases b.frs a (by rw [z]; simp) with h | h
      · exact absurd h1 h
      · exact absurd h h2
  refine ⟨⟨b.le, g.le0.trans b.le0, fun a o h n => b.kept a o (g.kept a o h n) fun z => ?_, fun a h => b.there a (g.there a h), fun a h => ?_, g.len, fun i s h => ?_, g.sep, g.mt1⟩, ⟨b.le0, fun a o h n => b.kept a o h fun z => n (hma a z), b.frs, b.there⟩⟩
  · obtain ⟨i, h1, h2⟩ := hma a z
    obtain ⟨o', e1, c, rfl, e2, e3, e4⟩ := g.slots i _ h1
    rw [h2] at e1; cases e1
    rcases e3 with e3 | ⟨_, e3⟩
    · exact n e3
    · rw [h] at e3; cases e3
  · rcases b.frs a h with h | h
    · exact g.frs a h
    · exact .inr (g.h0none h)
  · obtain ⟨o, h1, h2⟩ := g.slots i s h
    refine ⟨o, h1, ?_⟩
    cases s with
    | dead => trivial
    | sh p => obtain ⟨v, h3, h4⟩ := h2; exact ⟨v, h3, Rep.mono b.le0 _ _ h4⟩
    | own p =>
      obtain ⟨a, rfl, h4, h5, h6⟩ := h2
      refine ⟨a, rfl, fn a h4 h6.there, h5, h6.mono b.le0 fun u hu => b.kept a u hu fun z => ?_⟩
      obtain ⟨j, h7, h8⟩ := hma a z
      exact g.sep i j _ _ a (fun e => by subst e; rw [h] at h7; cases h7) h h7 rfl rfl h1 h8
    | mt =>
      obtain ⟨a, rfl, h4, h5, h6⟩ := h2
      cases ma with
      | none => exact ⟨a, rfl, fn a h4 h6.there, h5, h6.mono b.le0 fun u hu => b.kept a u hu fun z => nomatch z⟩
      | some c =>
        obtain ⟨j, h7, h8⟩ := hma c rfl
        have e := g.mt1 i j h h7
        subst e
        rw [h1] at h8; cases h8
        obtain ⟨h9, h10⟩ := b.mt a rfl
        exact ⟨a, rfl, h9, h5, h10⟩
    | bor p =>
      obtain ⟨v, h3, h4⟩ := h2
      refine ⟨v, h3, ?_⟩
      rcases h4 with h4 | ⟨a, h4, h5, h6⟩
      · exact .inl (Rep.mono b.le0 _ _ h4)
      · exact .inr ⟨a, h4, h5, h6.mono b.le0 fun _ z => z⟩
    | exc c ns ps => obtain ⟨a, d, vs, h0, h3, h4, h5, h6⟩ := h2; exact ⟨a, d, vs, h0, h3, b.le0 _ _ h4, h5, RepL.mono b.le0 _ _ h6⟩

/-- the meaning of a call, the arguments known -/
def callK (fi : FnI) (ps : List PV) (st : PV) : ER PV := if fi.ms.any isMut = true then fi.sem ps st else match fi.sem ps .non with
  | .ok p _ => .ok p st
  | .exc c ns qs _ => .exc c ns qs st
  | .stuck => .stuck
def callE (fi : FnI) (dps : List PV) (fa : AF) : EF := fun env st => (fa env st).bind fun ps st1 => callK fi (ps ++ dps) st1
theorem any_repl (ms : List Md) (n : Nat) : (ms ++ List.replicate n Md.val).any isMut = ms.any isMut := by
  rw [List.any_append]
  have : (List.replicate n Md.val).any isMut = false := by
    induction n with
    | zero => rfl
    | succ n ih => rw [List.replicate_succ, List.any_cons, ih]; rfl
  rw [this, Bool.or_false]
/-- the promise holds, by the meaning -/
theorem call_sp {K : Frag} {B : Bs} {W : WX} {F H : Hp} {env : SEnv} {st : PV} {σ : Sg} {fi : FnI} {ms : List Md} {ps dps : List PV} {vs dvs : List V} {Q : VK} {R : PV → PV → Hp → Hp → Prop} (g : Good K B F H env st σ) (hms : fi.ms = ms ++ List.replicate dps.length .val)
    (ha : CArgs K F H env σ ms ps vs) (hd : RepL K F dps dvs) (q : EPost K B W env σ F H R (callK fi (ps ++ dps) st)) (hR : ∀ p st' F' H' v, Stp env σ F H F' H' → Good K B F' H' env st' σ → R p st' F' H' → ResOk K F H F' H' fi.own p v → Q v H') :
    spOf K fi (vs ++ dvs) H Q (WE W σ) := by
  obtain ⟨ma, h1, h2, h3, h4⟩ := args_in g ha
  have hm : fi.ms.any isMut = ms.any isMut := by rw [hms, any_repl]
  refine ⟨F, ps ++ dps, if fi.ms.any isMut = true then st else .non, ma, g.le, fun z => h1 (by rw [← hm]; exact z), by rw [hm, hms]; exact h4.append hd, ?_⟩
  by_cases hc : fi.ms.any isMut = true
  · rw [if_pos hc]
    unfold callK at q
    rw [if_pos hc] at q
    obtain ⟨a, ea⟩ := h3 (by rw [← hm]; exact hc)
    cases hr : fi.sem (ps ++ dps) st with
    | ok p st' =>
      rw [hr] at q
      intro v F' H' b r
      obtain ⟨g', s'⟩ := g.back h2 b
      rw [if_pos (by rw [ea]; rfl)] at g'
      exact hR p st' F' H' v s' g' (q F' H' s' g') r
    | exc c ns qs st' =>
      rw [hr] at q
      intro F' H' d ws b e1 e2 e3
      obtain ⟨g', s'⟩ := g.back h2 b
      rw [if_pos (by rw [ea]; rfl)] at g'
      exact q F' H' d ws s'.le g' e1 e2 e3
    | stuck => rw [hr] at q; exact q.elim
  · rw [if_neg hc]
    unfold callK at q
    rw [if_neg hc] at q
    have ea : ma = none := h1 (by rw [← hm]; simpa using hc)
    cases hr : fi.sem (ps ++ dps) .non with
    | ok p st' =>
      rw [hr] at q
      intro v F' H' b r
      obtain ⟨g', s'⟩ := g.back h2 b
      rw [if_neg (by rw [ea]; exact fun z => nomatch z)] at g'
      exact hR p st F' H' v s' g' (q F' H' s' g') r
    | exc c ns qs st' =>
      rw [hr] at q
      intro F' H' d ws b e1 e2 e3
      obtain ⟨g', s'⟩ := g.back h2 b
      rw [if_neg (by rw [ea]; exact fun z => nomatch z)] at g'
      exact q F' H' d ws s'.le g' e1 e2 e3
    | stuck => rw [hr] at q; exact q.elim

/-- a def of the module, called with the written arguments and the defaults dps -/
structure FnB (P : Program) (w : World) (K : Frag) (mg : Str → Option Value) (base : Heap) (x : Str) (fi : FnI) (dps : List PV) (k : Nat) : Prop where
  ex : ∃ (f : Addr) (fd : FuncData) (ps : List Str) (ds : List Value) (dvs : List V), mg x = some (.ref f) ∧ PySem.W.keepIn K (.ref f) = true ∧ FnOk P w K mg base (L2.CX P w) k f fd ps (spOf K fi) ∧ Binds K fd ps ds ∧ Vals dvs ds ∧ ∀ F, RepL K F dps dvs
section
variable {X : Cx} {B : Bs} {W : WX} {x : Str} {fi : FnI} {dps : List PV} {k : Nat} {e : Expr} {es : List Expr} {fa : AF} {ms : List Md} {p pos : Pos}
theorem qe_call (hf : FnB X.prog X.w X.K X.mg X.base x fi dps k) (hr : Room k X.A) (tk : Takes X W) (ha : QA X B W ms (e :: es) fa) (hms : fi.ms = ms ++ List.replicate dps.length .val := by rfl) (ho : fi.own = false := by rfl) (hg : Gl X x := by rfl)
    (hdb : (x == ("__debug__" : Str)) = false := by decide) (he : starEach (e :: es) X.env = (false, eval e X.env) :: starEach es X.env := by rfl) (hpl : (backTo pos (starEach es X.env)).any (·.1) = false := by rfl) :
    QE X B W (.Call (.Name x p) (e :: es) [] pos) (callE fi dps fa) := by
  obtain ⟨f, fd, ps, ds, dvs, hm, hk, G, hb, hd, hdp⟩ := hf.ex
  refine ⟨pe_imp (pe_callSD G hr hg hm hk hb hd (fun σ => passAt tk σ) ha.pa hdb he hpl) fun σ H Q ⟨F, env, st, g, q⟩ => ⟨F, env, st, g, q.bind.mono fun qs st1 F1 H1 s1 g1 q1 vs hvs => ?_⟩⟩
  refine call_sp g1 hms hvs (hdp F1) q1 fun p st' F' H' v s' g' r hv => r v ?_
  unfold ResOk at hv
  rw [if_neg (by rw [ho]; exact Bool.false_ne_true)] at hv
  exact hv
theorem qo_call (hf : FnB X.prog X.w X.K X.mg X.base x fi dps k) (hr : Room k X.A) (tk : Takes X W) (ha : QA X B W ms (e :: es) fa) (hms : fi.ms = ms ++ List.replicate dps.length .val := by rfl) (ho : fi.own = true := by rfl) (hg : Gl X x := by rfl)
    (hdb : (x == ("__debug__" : Str)) = false := by decide) (he : starEach (e :: es) X.env = (false, eval e X.env) :: starEach es X.env := by rfl) (hpl : (backTo pos (starEach es X.env)).any (·.1) = false := by rfl) :
    QO X B W (.Call (.Name x p) (e :: es) [] pos) (callE fi dps fa) := by
  obtain ⟨f, fd, ps, ds, dvs, hm, hk, G, hb, hd, hdp⟩ := hf.ex
  refine ⟨pe_imp (pe_callSD G hr hg hm hk hb hd (fun σ => passAt tk σ) ha.pa hdb he hpl) fun σ H Q ⟨F, env, st, g, q⟩ => ⟨F, env, st, g, q.bind.mono fun qs st1 F1 H1 s1 g1 q1 vs hvs => ?_⟩⟩
  refine call_sp g1 hms hvs (hdp F1) q1 fun p st' F' H' v s' g' r hv => ?_
  unfold ResOk at hv
  rw [if_pos ho] at hv
  obtain ⟨a, rfl, h1, h2, h3⟩ := hv
  refine r a ?_ h1 h3
  cases z : H a with
  | none => rfl
  | some u => exact absurd h2 (s1.there a (by rw [z]; simp))
end
end KI

/-! part KI8 -/
set_option Elab.async false
set_option linter.all false
set_option maxRecDepth 100000
set_option maxHeartbeats 4000000
namespace KI
open PySem PySem.Spec PyProof.Rows L2

/-! ## objects written -/
section
variable {K : Frag} {B : Bs} {F H : Hp} {env : SEnv} {st st' : PV} {σ : Sg} {a : Addr} {o' : HO} {p p' : PV}
theorem own_upd {b : Addr} (hb : b ≠ a) (h : Own K F H b p) : Own K F (upd H a o') b p := h.mono (Same.refl F) fun o e => by rw [upd_ne hb]; exact e
theorem le_upd (g : Good K B F H env st σ) (hn : F a = none) : Same F (upd H a o') := fun b u e => by rw [upd_ne (ne_of_none e hn)]; exact g.le b u e
theorem there_upd (g : Good K B F H env st σ) : ∀ b, B.H0 b ≠ none → upd H a o' b ≠ none := fun b h => by
  by_cases e : b = a
  · subst e; rw [upd_same]; simp
  · rw [upd_ne e]; exact g.there b h
/-- an own slot's object -/
theorem Good.write (g : Good K B F H env st σ) (i : Nat) (h : env[i]? = some (.own p)) (hσ : σ[i]? = some (some (.ref a))) (ho : Own K F (upd H a o') a p') : Good K B F (upd H a o') (env.set i (.own p')) st σ := by
  obtain ⟨o, e1, b, e2, h2, h3, h4⟩ := g.slots i _ h
  subst e2
  rw [hσ] at e1; cases e1
  have g1 := g.kill i
  refine ⟨le_upd g h2, g.le0, fun b o e n => ?_, there_upd g, g.frs, by rw [List.length_set]; exact g.len, fun j s e => ?_, fun j k s t b ne h1 h2' o1 o2 e1 e2 => ?_, fun j k h1 h2' => ?_⟩
  · rw [upd_ne (fun z => by rw [z, h3] at e; cases e)]; exact g.kept b o e n
  · rcases set_get e with ⟨rfl, rfl, _⟩ | ⟨ne, e⟩
    · exact ⟨_, hσ, a, rfl, h2, h3, ho⟩
    · obtain ⟨o, e1, h5⟩ := g.slots j s e
      refine ⟨o, e1, ?_⟩
      cases s with
      | dead => trivial
      | sh q => exact h5
      | own q =>
        obtain ⟨b, rfl, h6, h7, h8⟩ := h5
        exact ⟨b, rfl, h6, h7, own_upd (fun z => by subst z; exact g.sep i j _ _ b ne h e rfl rfl hσ e1) h8⟩
      | mt =>
        obtain ⟨b, rfl, h6, h7, h8⟩ := h5
        exact ⟨b, rfl, h6, h7, own_upd (fun z => by subst z; exact g.sep i j _ _ b ne h e rfl rfl hσ e1) h8⟩
      | bor q => exact h5
      | exc c ns ps => exact h5
  · rcases set_get h1 with ⟨rfl, rfl, _⟩ | ⟨n1, h1'⟩
    · rcases set_get h2' with ⟨rfl, rfl, _⟩ | ⟨n2, h2''⟩
      · exact ne rfl
      · exact g.sep i k _ t b ne h h2'' rfl o2 e1 e2
    · rcases set_get h2' with ⟨rfl, rfl, _⟩ | ⟨n2, h2''⟩
      · exact g.sep j i s _ b ne h1' h o1 rfl e1 e2
      · exact g.sep j k s t b ne h1' h2'' o1 o2 e1 e2
  · rcases set_get h1 with ⟨_, z, _⟩ | ⟨n1, h1'⟩
    · cases z
    · rcases set_get h2' with ⟨_, z, _⟩ | ⟨n2, h2''⟩
      · cases z
      · exact g.mt1 j k h1' h2''
/-- the object that expressions change -/
theorem Good.writeM (g : Good K B F H env st σ) (i : Nat) (h : env[i]? = some .mt) (hσ : σ[i]? = some (some (.ref a))) (ho : Own K F (upd H a o') a st') : Good K B F (upd H a o') env st' σ := by
  obtain ⟨o, e1, b, e2, h2, h3, h4⟩ := g.slots i _ h
  subst e2
  rw [hσ] at e1; cases e1
  refine ⟨le_upd g h2, g.le0, fun b o e n => ?_, there_upd g, g.frs, g.len, fun j s e => ?_, g.sep, g.mt1⟩
  · rw [upd_ne (fun z => ?_)]; exact g.kept b o e n
    subst z
    rcases h3 with h3 | ⟨_, h3⟩
    · exact n h3
    · rw [e] at h3; cases h3
  · obtain ⟨o, e1, h5⟩ := g.slots j s e
    refine ⟨o, e1, ?_⟩
    by_cases ij : i = j
    · subst ij
      rw [h] at e; cases e
      rw [hσ] at e1; cases e1
      exact ⟨a, rfl, h2, h3, ho⟩
    · cases s with
      | dead => trivial
      | sh q => exact h5
      | own q =>
        obtain ⟨b, rfl, h6, h7, h8⟩ := h5
        exact ⟨b, rfl, h6, h7, own_upd (fun z => by subst z; exact g.sep i j _ _ b ij h e rfl rfl hσ e1) h8⟩
      | mt => exact absurd (g.mt1 i j h e) ij
      | bor q => exact h5
      | exc c ns ps => exact h5
/-- an own slot, its object -/
theorem Good.ownAt (g : Good K B F H env st σ) {i : Nat} (h : env[i]? = some (.own p)) : ∃ a, σ[i]? = some (some (.ref a)) ∧ F a = none ∧ Own K F H a p ∧ ¬ MtA env σ a := by
  obtain ⟨o, e1, a, rfl, h2, h3, h4⟩ := g.slots i _ h
  refine ⟨a, e1, h2, h4, fun ⟨j, h5, h6⟩ => g.sep i j _ _ a (fun z => by subst z; rw [h] at h5; cases h5) h h5 rfl rfl e1 h6⟩
theorem Good.mtAt (g : Good K B F H env st σ) {i : Nat} (h : env[i]? = some .mt) : ∃ a, σ[i]? = some (some (.ref a)) ∧ F a = none ∧ Own K F H a st := by
  obtain ⟨o, e1, a, rfl, h2, h3, h4⟩ := g.slots i _ h
  exact ⟨a, e1, h2, h4⟩
end

/-! ### x.append(e), x[i] = e, d[k] = e -/
def appS (i : Nat) (f : EF) : SF := fun env st => match env[i]? with
  | some (.own (.lst ps)) => liftS (f env st) env fun p st' => if ps.length < sizeLine then .nx (env.set i (.own (.lst (ps ++ [p])))) st' else .stuck
  | _ => .stuck
def setIx (i : Nat) (fe fi : EF) : SF := fun env st => match env[i]? with
  | some (.own (.lst ps)) => liftS (fe env st) env fun p st1 => liftS (fi env st1) env fun q st2 => match q with
    | .int k => (match ixN ps.length k with
      | some j => .nx (env.set i (.own (.lst (ps.set j p)))) st2
      | none => .stuck)
    | _ => .stuck
  | _ => .stuck
/-- of the object that expressions change, at a written place -/
def setIxM (i : Nat) (c : Int) (fe : EF) : SF := fun env st => liftS (fe env st) env fun p st1 => match env[i]? with
  | some .mt => (match st1 with
    | .lst ps => (match ixN ps.length c with
      | some j => .nx env (.lst (ps.set j p))
      | none => .stuck)
    | _ => .stuck)
  | _ => .stuck
def putD (ks : List Key) (ps : List PV) (k : Key) (p : PV) : PV := if hasK ks k = true then .dct ks (List.zipWith (fun k' q => if k' = k then p else q) ks ps) else .dct (ks ++ [k]) (ps ++ [p])
def setDct (i : Nat) (fe fi : EF) : SF := fun env st => match env[i]? with
  | some (.own (.dct ks ps)) => liftS (fe env st) env fun p st1 => liftS (fi env st1) env fun q st2 => match keyP q with
    | some k => if ks.length < sizeLine then .nx (env.set i (.own (putD ks ps k p))) st2 else .stuck
    | none => .stuck
  | _ => .stuck
theorem keyP_rep {K : Frag} {F : Hp} {q : PV} {v : V} {k : Key} (h : Rep K F q v) (e : keyP q = some k) : v = kV k := RH.key (H := F) (.inl h) e
theorem zip_putK {k : Key} {v : V} : ∀ {ks : List Key} {vs : List V}, ks.length = vs.length → (ks.zip vs).map (fun kv => if kv.1 = k then (kv.1, v) else kv) = ks.zip (List.zipWith (fun k' w => if k' = k then v else w) ks vs)
  | [], _, _ => rfl
  | k' :: ks, [], h => by cases h
  | k' :: ks, w :: vs, h => by
    rw [List.zip_cons_cons, List.map_cons, List.zipWith_cons_cons, List.zip_cons_cons, zip_putK (by simpa using h)]
    congr 1
    dsimp only
    split <;> rfl
theorem repL_put {K : Frag} {F : Hp} {k : Key} {p : PV} {v : V} (hp : Rep K F p v) : ∀ {ks : List Key} {ps : List PV} {vs : List V}, RepL K F ps vs → RepL K F (List.zipWith (fun k' q => if k' = k then p else q) ks ps) (List.zipWith (fun k' w => if k' = k then v else w) ks vs)
  | [], _, _, _ => rfl
  | k' :: ks, [], _, h => by cases (show _ = ([] : List V) from h); exact rfl
  | k' :: ks, q :: ps, _, ⟨w, r, e, h1, h2⟩ => by
    subst e
    rw [List.zipWith_cons_cons, List.zipWith_cons_cons]
    refine ⟨_, _, rfl, ?_, repL_put hp h2⟩
    by_cases e : k' = k
    · rw [if_pos e, if_pos e]; exact hp
    · rw [if_neg e, if_neg e]; exact h1
theorem own_put {K : Frag} {F H : Hp} {a : Addr} {ks : List Key} {ps : List PV} {vs : List V} {k : Key} {p : PV} {v : V} (hl : ks.length = vs.length) (hr : RepL K F ps vs) (hp : Rep K F p v) : Own K F (upd H a (.dK (putK (ks.zip vs) k v))) a (putD ks ps k p) := by
  have hv : (valV (ks.zip vs) k).isSome = hasK ks k := valV_mem hl
  unfold putD
  by_cases hc : hasK ks k = true
  · rw [if_pos hc]
    refine ⟨List.zipWith (fun k' w => if k' = k then v else w) ks vs, ?_, ?_, repL_put hp hr⟩
    · rw [upd_same]
      unfold putK
      rw [if_pos (by rw [valV_any, hv]; exact hc), zip_putK hl]
    · rw [List.length_zipWith, ← hl, Nat.min_self]
  · rw [if_neg hc]
    refine ⟨vs ++ [v], ?_, by rw [List.length_append, List.length_append, hl]; rfl, hr.append (.one hp)⟩
    rw [upd_same]
    unfold putK
    rw [if_neg (by rw [valV_any, hv]; exact hc), List.zip_append hl]; rfl
section
variable {X : Cx} {B : Bs} {W : WX} {x : Str} {e ie : Expr} {fe fi : EF} {p1 p2 pos pos' : Pos}
theorem qs_app (i : Nat) (he : QE X B W e fe) (hN : X.N[i]? = some x := by rfl) (hv : Vis X.env.scope x := by first | exact Or.inl rfl | exact Or.inr (Or.inl rfl) | exact Or.inr (Or.inr rfl)) (hd : (x == ("__debug__" : Str)) = false := by decide)
    (hcd : (x == ("__classdict__" : Str)) = false := by decide) (hs : starEach [e] X.env = (false, eval e X.env) :: starEach [] X.env := by rfl) (hb : attributeBase (.Name x p1) "append" X.env (eval (.Name x p1) X.env) = eval (.Name x p1) X.env := by rfl)
    (hfew : ((backTo pos' (starEach [e] X.env)).all (fun x => !x.1) && (backToKw pos' (keywordEach [] X.env)).all (fun x => x.1.isSome) && decide ([e].length + ([] : List Keyword).length + (if ([] : List Keyword).isEmpty then 0 else 1) < 30)) = true := by rfl)
    (hline : (p2.endLine == pos'.line) = true := by rfl)
    (hsw : swapsWith (.Call (.Attribute (.Name x p1) "append" p2) [e] [] pos') none pos.line X.env = pure false := by rfl) :
    QS X B W (.Expr (.Call (.Attribute (.Name x p1) "append" p2) [e] [] pos') pos) (appS i fe) := by
  have pe := pe_bm PySem.F.plainAttrs_list PySem.F.slot_list_append PySem.F.type_list_append mt_append (pe_var (X := X) (pos := p1) hN hv hd hcd) (pa_cons he.pe pa_nil hs) (cpos := pos') hb hfew hline hs (by rfl)
  refine ⟨ps_imp (ps_expr pe hsw) fun D σ H ⟨F, env, st, g, q⟩ => ?_⟩
  unfold appS at q
  cases h : env[i]? with
  | none => rw [h] at q; exact q.elim
  | some s =>
    rw [h] at q
    cases s with
    | own p =>
      cases p with
      | lst ps =>
        obtain ⟨a, e1, h2, ⟨vs, h3, h4⟩, h5⟩ := g.ownAt h
        refine ⟨.ref a, e1, .inl ⟨rfl, _, .inl (.inl h3)⟩, F, env, st, g, (SPost.lift (H := H) (σ := σ) q).mono fun p st1 F1 H1 s1 g1 r v hv => ?_⟩
        by_cases hl : ps.length < sizeLine
        · rw [if_pos hl] at r
          have h6 := s1.keep a _ h3 h5
          refine ⟨a, vs, v, rfl, rfl, h6, by rw [← h4.length]; exact hl, r σ F1 _ (Same.refl F1) (g1.write i h e1 ⟨_, upd_same, (RepL.mono s1.le _ _ h4).append (.one hv)⟩)⟩
        · rw [if_neg hl] at r; exact r.elim
      | _ => exact q.elim
    | _ => exact q.elim
theorem qs_setIx (i : Nat) (he : QE X B W e fe) (hi : QE X B W ie fi) (hN : X.N[i]? = some x := by rfl) (hv : Vis X.env.scope x := by first | exact Or.inl rfl | exact Or.inr (Or.inl rfl) | exact Or.inr (Or.inr rfl)) (hd : (x == ("__debug__" : Str)) = false := by decide)
    (hcd : (x == ("__classdict__" : Str)) = false := by decide)
    (ha : ∀ v, assign (.Subscript (.Name x p1) ie p2) X.env v = (do
      let ov ← holding [v] (eval (.Name x p1) X.env)
      let iv ← holding [v, ov] (eval ie X.env)
      standAt p2
      holding [v, ov, iv] (setItem ov iv v)
      release [v, ov, iv] []) := by intro _; rfl)
    (hs : swapsWithSole [.Subscript (.Name x p1) ie p2] e pos.line X.env = pure false := by rfl) (hw : swappedStores [.Subscript (.Name x p1) ie p2] e X.env = pure none := by rfl) :
    QS X B W (.Assign [.Subscript (.Name x p1) ie p2] e pos) (setIx i fe fi) := by
  refine ⟨ps_imp (ps_asg he.pe (pg_sub (pe_var hN hv hd hcd) hi.pe set_list ha) hs hw) fun D σ H ⟨F, env, st, g, q⟩ => ?_⟩
  unfold setIx at q
  cases h : env[i]? with
  | none => rw [h] at q; exact q.elim
  | some s =>
    rw [h] at q
    cases s with
    | own p =>
      cases p with
      | lst ps =>
        obtain ⟨a, e1, h2, ⟨vs, h3, h4⟩, h5⟩ := g.ownAt h
        refine ⟨F, env, st, g, (SPost.lift (H := H) (σ := σ) q).mono fun p st1 F1 H1 s1 g1 r v hv => ⟨.ref a, e1, F1, env, st1, g1, (SPost.lift (H := H1) (σ := σ) r).mono fun q2 st2 F2 H2 s2 g2 r2 w hw => ?_⟩⟩
        cases q2 with
        | int k =>
          have h6 := s2.keep a _ (s1.keep a _ h3 h5) h5
          cases hj : ixN ps.length k with
          | none => simp only [hj] at r2; exact r2.elim
          | some j =>
            simp only [hj] at r2
            exact ⟨a, vs, k, j, rfl, hw, h6, by rw [← h4.length]; exact hj, r2 _ F2 _ (Same.refl F2) (g2.write i h e1 ⟨_, upd_same, (RepL.mono (s1.le.trans s2.le) _ _ h4).set j (Rep.mono s2.le _ _ hv)⟩)⟩
        | _ => exact r2.elim
      | _ => exact q.elim
    | _ => exact q.elim
theorem qs_setDct {n : Nat} (i : Nat) (hr : Room n X.A) (he : QE X B W e fe) (hi : QE X B W ie fi) (hN : X.N[i]? = some x := by rfl) (hv : Vis X.env.scope x := by first | exact Or.inl rfl | exact Or.inr (Or.inl rfl) | exact Or.inr (Or.inr rfl)) (hd : (x == ("__debug__" : Str)) = false := by decide)
    (hcd : (x == ("__classdict__" : Str)) = false := by decide) (hs : swapsWith e (some (.Subscript (.Name x p1) ie p2)) pos.line X.env = pure false := by rfl) :
    QS X B W (.Assign [.Subscript (.Name x p1) ie p2] e pos) (setDct i fe fi) := by
  refine ⟨ps_imp (ps_dput (hu_of hr) (pe_var hN hv hd hcd) hi.pe he.pe hs) fun D σ H ⟨F, env, st, g, q⟩ => ?_⟩
  unfold setDct at q
  cases h : env[i]? with
  | none => rw [h] at q; exact q.elim
  | some s =>
    rw [h] at q
    cases s with
    | own p =>
      cases p with
      | dct ks ps =>
        obtain ⟨a, e1, h2, ⟨vs, h3, h4, h4'⟩, h5⟩ := g.ownAt h
        refine ⟨F, env, st, g, (SPost.lift (H := H) (σ := σ) q).mono fun p st1 F1 H1 s1 g1 r v hv => ⟨.ref a, e1, F1, env, st1, g1, (SPost.lift (H := H1) (σ := σ) r).mono fun q2 st2 F2 H2 s2 g2 r2 w hw => ?_⟩⟩
        cases hk : keyP q2 with
        | none => rw [hk] at r2; exact r2.elim
        | some k =>
          rw [hk] at r2
          have ew := keyP_rep hw hk
          subst ew
          have h6 := s2.keep a _ (s1.keep a _ h3 h5) h5
          by_cases hl : ks.length < sizeLine
          · simp only [if_pos hl] at r2
            exact ⟨a, _, rfl, DPut.k (k := k) h6 (by rw [List.length_zip, ← h4, Nat.min_self]; exact hl), r2 _ F2 _ (Same.refl F2) (g2.write i h e1 (own_put h4 (RepL.mono (s1.le.trans s2.le) _ _ h4') (Rep.mono s2.le _ _ hv)))⟩
          · simp only [if_neg hl] at r2; exact r2.elim
      | _ => exact q.elim
    | _ => exact q.elim
theorem qs_setIxM (i : Nat) (c : Int) {jj : Nat} {p3 : Pos} (he : QE X B W e fe) (hN : X.N[i]? = some x := by rfl) (hv : Vis X.env.scope x := by first | exact Or.inl rfl | exact Or.inr (Or.inl rfl) | exact Or.inr (Or.inr rfl)) (hd : (x == ("__debug__" : Str)) = false := by decide)
    (hcd : (x == ("__classdict__" : Str)) = false := by decide)
    (ha : ∀ v, assign (.Subscript (.Name x p1) (.Constant (.int c) jj p3) p2) X.env v = (do
      let ov ← holding [v] (eval (.Name x p1) X.env)
      let iv ← holding [v, ov] (eval (.Constant (.int c) jj p3) X.env)
      standAt p2
      holding [v, ov, iv] (setItem ov iv v)
      release [v, ov, iv] []) := by intro _; rfl)
    (hs : swapsWithSole [.Subscript (.Name x p1) (.Constant (.int c) jj p3) p2] e pos.line X.env = pure false := by rfl) (hw : swappedStores [.Subscript (.Name x p1) (.Constant (.int c) jj p3) p2] e X.env = pure none := by rfl) :
    QS X B W (.Assign [.Subscript (.Name x p1) (.Constant (.int c) jj p3) p2] e pos) (setIxM i c fe) := by
  refine ⟨ps_imp (ps_asg he.pe (pg_sub (pe_var hN hv hd hcd) pe_int set_list ha) hs hw) fun D σ H ⟨F, env, st, g, q⟩ => ⟨F, env, st, g, (SPost.lift (H := H) (σ := σ) q).mono fun p st1 F1 H1 s1 g1 r v hv => ?_⟩⟩
  cases h : env[i]? with
  | none => rw [h] at r; exact r.elim
  | some s =>
    rw [h] at r
    cases s with
    | mt =>
      cases st1 with
      | lst ps =>
        obtain ⟨a, e1, h2, vs, h3, h4⟩ := g1.mtAt h
        cases hj : ixN ps.length c with
        | none => simp only [hj] at r; exact r.elim
        | some j =>
          simp only [hj] at r
          exact ⟨.ref a, e1, a, vs, c, j, rfl, rfl, h3, by rw [← h4.length]; exact hj, r σ F1 _ (Same.refl F1) (g1.writeM i h e1 ⟨_, upd_same, h4.set j hv⟩)⟩
      | _ => exact r.elim
    | _ => exact r.elim
/-! ### reading the object that expressions change -/
def ixM (i : Nat) (c : Int) : EF := fun env st => match env[i]? with
  | some .mt => (match st with
    | .lst ps => (match L2.atI ps c with
      | some p => .ok p st
      | none => .stuck)
    | _ => .stuck)
  | _ => .stuck
theorem qe_ixM (i : Nat) (c : Int) {jj : Nat} {p3 : Pos} (hN : X.N[i]? = some x := by rfl) (hv : Vis X.env.scope x := by first | exact Or.inl rfl | exact Or.inr (Or.inl rfl) | exact Or.inr (Or.inr rfl)) (hd : (x == ("__debug__" : Str)) = false := by decide)
    (hcd : (x == ("__classdict__" : Str)) = false := by decide) (hs : PlainIx (.Constant (.int c) jj p3) := by exact fun _ _ => rfl) : QE X B W (.Subscript (.Name x p1) (.Constant (.int c) jj p3) pos) (ixM i c) :=
  ⟨pe_imp (pe_ix ix_list (pe_var hN hv hd hcd) pe_int hs) fun σ H Q ⟨F, env, st, g, q⟩ => by
    unfold ixM at q
    cases h : env[i]? with
    | none => rw [h] at q; exact q.elim
    | some s =>
      rw [h] at q
      cases s with
      | mt =>
        cases st with
        | lst ps =>
          obtain ⟨a, e1, h2, vs, h3, h4⟩ := g.mtAt h
          cases hj : L2.atI ps c with
          | none => simp only [hj] at q; exact q.elim
          | some p =>
            simp only [hj] at q
            obtain ⟨v, h5, h6⟩ := h4.atI hj
            exact ⟨.ref a, e1, a, vs, c, v, rfl, rfl, SqL.of h3, h5, q F H Stp.refl g v h6⟩
        | _ => exact q.elim
      | _ => exact q.elim⟩
/-! ### attributes -/
theorem lookup_rep {K : Frag} {F : Hp} {f : Str} {p : PV} : ∀ {ns : List Str} {ps : List PV} {vs : List V}, RepL K F ps vs → (ns.zip ps).lookup f = some p → ∃ v, (ns.zip vs).lookup f = some v ∧ Rep K F p v
  | [], _, _, _, h => by simp at h
  | n :: ns, [], _, _, h => by simp at h
  | n :: ns, q :: ps, _, ⟨v, r, e, h1, h2⟩, h => by
    subst e
    rw [List.zip_cons_cons, List.lookup_cons] at h ⊢
    cases hb : f == n with
    | true => rw [hb] at h; cases h; exact ⟨v, rfl, h1⟩
    | false => rw [hb] at h; exact lookup_rep h2 h
/-- an attribute of an instance of one of the classes cs -/
def fldP (cs : List Str) (f : Str) : PV → Option PV
  | .ins c ns ps => if c ∈ cs then (ns.zip ps).lookup f else none
  | _ => none
def fldE (cs : List Str) (f : Str) (fa : EF) : EF := fun env st => (fa env st).bind fun p st1 => match fldP cs f p with
  | some q => .ok q st1
  | none => .stuck
def FldOk (K : Frag) (cs : List Str) (f : Str) : Prop := ∀ c ∈ cs, Cls K (He.ga K c) ∧ NoAttr K (He.ga K c) f
theorem fld_rd {K : Frag} {F H : Hp} {cs : List Str} {f : Str} {p q : PV} {x : V} {Q : VK} (hc : FldOk K cs f) (le : Same F H) (r : RH K F H p x) (h : fldP cs f p = some q) (k : ∀ v, Rep K F q v → Q v H) :
    ∃ a C dx fs v, x = .ref a ∧ H a = some (.ins C dx fs) ∧ Cls K C ∧ NoAttr K C f ∧ fs.lookup f = some v ∧ Q v H := by
  cases p with
  | ins c ns ps =>
    obtain ⟨a, dx, vs, rfl, h1, h2, h3⟩ := r.ins le
    have h' : (if c ∈ cs then (ns.zip ps).lookup f else none) = some q := h
    by_cases hm : c ∈ cs
    · rw [if_pos hm] at h'
      obtain ⟨v, h4, h5⟩ := lookup_rep h3 h'
      exact ⟨a, _, dx, _, v, rfl, h1, (hc c hm).1, (hc c hm).2, h4, k v h5⟩
    · rw [if_neg hm] at h'; cases h'
  | _ => cases h
theorem qe_fld {f : Str} {cs : List Str} (hc : FldOk X.K cs f) (he : QR X B W e fe) (hb : attributeBase e f X.env (eval e X.env) = eval e X.env := by rfl) : QE X B W (.Attribute e f pos) (fldE cs f fe) :=
  ⟨pe_imp (pe_fld he.pe hb) fun σ H Q ⟨F, env, st, g, q⟩ => ⟨F, env, st, g, q.bind.mono fun p st1 F1 H1 s1 g1 q1 x rx => by
    cases hz : fldP cs f p with
    | none => rw [hz] at q1; exact q1.elim
    | some z => rw [hz] at q1; exact fld_rd hc g1.le rx.rh hz fun v hv => q1 F1 H1 Stp.refl g1 v hv⟩⟩
def fldM (cs : List Str) (f : Str) (i : Nat) : EF := fun env st => match env[i]? with
  | some .mt => (match fldP cs f st with
    | some q => .ok q st
    | none => .stuck)
  | _ => .stuck
theorem qe_fldM {f : Str} {cs : List Str} (i : Nat) (hc : FldOk X.K cs f) (hN : X.N[i]? = some x := by rfl) (hv : Vis X.env.scope x := by first | exact Or.inl rfl | exact Or.inr (Or.inl rfl) | exact Or.inr (Or.inr rfl)) (hd : (x == ("__debug__" : Str)) = false := by decide)
    (hcd : (x == ("__classdict__" : Str)) = false := by decide) (hb : attributeBase (.Name x p1) f X.env (eval (.Name x p1) X.env) = eval (.Name x p1) X.env := by rfl) : QE X B W (.Attribute (.Name x p1) f pos) (fldM cs f i) :=
  ⟨pe_imp (pe_fld (pe_var hN hv hd hcd) hb) fun σ H Q ⟨F, env, st, g, q⟩ => by
    unfold fldM at q
    cases h : env[i]? with
    | none => rw [h] at q; exact q.elim
    | some s =>
      rw [h] at q
      cases s with
      | mt =>
        obtain ⟨a, e1, h2, h3⟩ := g.mtAt h
        refine ⟨.ref a, e1, ?_⟩
        cases hz : fldP cs f st with
        | none => simp only [hz] at q; exact q.elim
        | some z => simp only [hz] at q; exact fld_rd hc g.le (.inr ⟨a, rfl, h3⟩) hz fun v hv => q F H Stp.refl g v hv
      | _ => exact q.elim⟩
/-! ### o.f = e -/
def putN (f : Str) : List Str → List Str
  | [] => [f]
  | g :: r => if g = f then g :: r else g :: putN f r
def putV {α : Type} (f : Str) (p : α) : List Str → List α → List α
  | [], _ => [p]
  | g :: ns, q :: ps => if g = f then p :: ps else q :: putV f p ns ps
  | _ :: _, [] => []
theorem putF_zip {f : Str} {v : V} : ∀ {ns : List Str} {vs : List V}, ns.length = vs.length → putF f v (ns.zip vs) = (putN f ns).zip (putV f v ns vs) ∧ (putN f ns).length = (putV f v ns vs).length
  | [], [], _ => ⟨rfl, rfl⟩
  | [], _ :: _, h => by cases h
  | _ :: _, [], h => by cases h
  | g :: ns, w :: vs, h => by
    rw [List.zip_cons_cons]
    unfold putF putN putV
    by_cases e : g = f
    · rw [if_pos e, if_pos e, if_pos e]
      exact ⟨rfl, by simpa using h⟩
    · rw [if_neg e, if_neg e, if_neg e]
      obtain ⟨h1, h2⟩ := putF_zip (f := f) (v := v) (ns := ns) (vs := vs) (by simpa using h)
      exact ⟨by rw [h1]; rfl, by simpa using h2⟩
theorem repL_putV {K : Frag} {F : Hp} {f : Str} {p : PV} {v : V} (hp : Rep K F p v) : ∀ {ns : List Str} {ps : List PV} {vs : List V}, RepL K F ps vs → RepL K F (putV f p ns ps) (putV f v ns vs)
  | [], _, _, _ => .one hp
  | _ :: _, [], _, h => by cases (show _ = ([] : List V) from h); exact rfl
  | g :: ns, q :: ps, _, ⟨w, r, e, h1, h2⟩ => by
    subst e
    unfold putV
    by_cases e : g = f
    · rw [if_pos e, if_pos e]; exact ⟨v, r, rfl, hp, h2⟩
    · rw [if_neg e, if_neg e]; exact ⟨w, _, rfl, h1, repL_putV hp h2⟩
theorem own_putF {K : Frag} {F H : Hp} {a dx : Addr} {c f : Str} {ns : List Str} {ps : List PV} {vs : List V} {p : PV} {v : V} (hl : ns.length = vs.length) (hr : RepL K F ps vs) (hp : Rep K F p v) :
    Own K F (upd H a (.ins (He.ga K c) dx (putF f v (ns.zip vs)))) a (.ins c (putN f ns) (putV f p ns ps)) := by
  obtain ⟨h1, h2⟩ := putF_zip (f := f) (v := v) hl
  exact ⟨dx, putV f v ns vs, by rw [upd_same, h1], h2, repL_putV hp hr⟩
def setFld (i : Nat) (cs : List Str) (f : Str) (fe : EF) : SF := fun env st => match env[i]? with
  | some (.own (.ins c ns ps)) => liftS (fe env st) env fun p st1 => if c ∈ cs ∧ ns.length < 1000 then .nx (env.set i (.own (.ins c (putN f ns) (putV f p ns ps)))) st1 else .stuck
  | _ => .stuck
def setFldM (i : Nat) (cs : List Str) (f : Str) (fe : EF) : SF := fun env st => liftS (fe env st) env fun p st1 => match env[i]? with
  | some .mt => (match st1 with
    | .ins c ns ps => if c ∈ cs ∧ ns.length < 1000 then .nx env (.ins c (putN f ns) (putV f p ns ps)) else .stuck
    | _ => .stuck)
  | _ => .stuck
theorem qs_fld {f : Str} {cs : List Str} (i : Nat) (hc : FldOk X.K cs f) (he : QE X B W e fe) (hN : X.N[i]? = some x := by rfl) (hv : Vis X.env.scope x := by first | exact Or.inl rfl | exact Or.inr (Or.inl rfl) | exact Or.inr (Or.inr rfl)) (hd : (x == ("__debug__" : Str)) = false := by decide)
    (hcd : (x == ("__classdict__" : Str)) = false := by decide) (hs : swapsWith e (some (.Attribute (.Name x p1) f pos')) pos.line X.env = pure false := by rfl) : QS X B W (.Assign [.Attribute (.Name x p1) f pos'] e pos) (setFld i cs f fe) := by
  refine ⟨ps_imp (ps_fld (pe_var hN hv hd hcd) he.pe hs) fun D σ H ⟨F, env, st, g, q⟩ => ?_⟩
  unfold setFld at q
  cases h : env[i]? with
  | none => rw [h] at q; exact q.elim
  | some s =>
    rw [h] at q
    cases s with
    | own p =>
      cases p with
      | ins c ns ps =>
        obtain ⟨a, e1, h2, ⟨dx, vs, h3, h4, h4'⟩, h5⟩ := g.ownAt h
        refine ⟨F, env, st, g, (SPost.lift (H := H) (σ := σ) q).mono fun p st1 F1 H1 s1 g1 r v hv => ⟨.ref a, e1, ?_⟩⟩
        by_cases hl : c ∈ cs ∧ ns.length < 1000
        · rw [if_pos hl] at r
          have h6 := s1.keep a _ h3 h5
          exact ⟨a, _, dx, _, rfl, h6, (hc c hl.1).1, (hc c hl.1).2, by rw [List.length_zip, ← h4, Nat.min_self]; exact hl.2, r σ F1 _ (Same.refl F1) (g1.write i h e1 (own_putF h4 (RepL.mono s1.le _ _ h4') hv))⟩
        · rw [if_neg hl] at r; exact r.elim
      | _ => exact q.elim
    | _ => exact q.elim
theorem qs_fldM {f : Str} {cs : List Str} (i : Nat) (hc : FldOk X.K cs f) (he : QE X B W e fe) (hN : X.N[i]? = some x := by rfl) (hv : Vis X.env.scope x := by first | exact Or.inl rfl | exact Or.inr (Or.inl rfl) | exact Or.inr (Or.inr rfl)) (hd : (x == ("__debug__" : Str)) = false := by decide)
    (hcd : (x == ("__classdict__" : Str)) = false := by decide) (hs : swapsWith e (some (.Attribute (.Name x p1) f pos')) pos.line X.env = pure false := by rfl) : QS X B W (.Assign [.Attribute (.Name x p1) f pos'] e pos) (setFldM i cs f fe) := by
  refine ⟨ps_imp (ps_fld (pe_var hN hv hd hcd) he.pe hs) fun D σ H ⟨F, env, st, g, q⟩ => ⟨F, env, st, g, (SPost.lift (H := H) (σ := σ) q).mono fun p st1 F1 H1 s1 g1 r v hv => ?_⟩⟩
  cases h : env[i]? with
  | none => rw [h] at r; exact r.elim
  | some s =>
    rw [h] at r
    cases s with
    | mt =>
      cases st1 with
      | ins c ns ps =>
        obtain ⟨a, e1, h2, dx, vs, h3, h4, h4'⟩ := g1.mtAt h
        refine ⟨.ref a, e1, ?_⟩
        by_cases hl : c ∈ cs ∧ ns.length < 1000
        · simp only [if_pos hl] at r
          exact ⟨a, _, dx, _, rfl, h3, (hc c hl.1).1, (hc c hl.1).2, by rw [List.length_zip, ← h4, Nat.min_self]; exact hl.2, r σ F1 _ (Same.refl F1) (g1.writeM i h e1 (own_putF h4 h4' hv))⟩
        · simp only [if_neg hl] at r; exact r.elim
      | _ => exact r.elim
    | _ => exact r.elim
end
end KI

/-! part KI9 -/
set_option Elab.async false
set_option linter.all false
set_option maxRecDepth 100000
set_option maxHeartbeats 4000000
namespace KI
open PySem PySem.Spec PyProof.Rows L2

/-! ## methods, instances made -/
/-- a method of one of the classes cs (the same def) -/
structure FnM (P : Program) (w : World) (K : Frag) (mg : Str → Option Value) (base : Heap) (cs : List Str) (m : Str) (fi : FnI) (dps : List PV) (k : Nat) : Prop where
  ex : ∃ (f : Addr) (fd : FuncData) (ps : List Str) (ds : List Value) (dvs : List V), (∀ c ∈ cs, Cls K (He.ga K c) ∧ Meth K (He.ga K c) m f) ∧ FnOk P w K mg base (L2.CX P w) k f fd ps (spOf K fi) ∧ Binds K fd ps ds ∧ Vals dvs ds ∧ ∀ F, RepL K F dps dvs
/-- a class that is made -/
structure FnK (P : Program) (w : World) (K : Frag) (mg : Str → Option Value) (base : Heap) (x : Str) (fi : FnI) (dps : List PV) (k : Nat) : Prop where
  ex : ∃ (f : Addr) (fd : FuncData) (ps : List Str) (ds : List Value) (dvs : List V), mg x = some (.ref (He.ga K x)) ∧ Mk K (He.ga K x) f ∧ FnOk P w K mg base (L2.CX P w) k f fd ps (spOf K fi) ∧ Binds K fd ps ds ∧ Vals dvs ds ∧ ∀ F, RepL K F dps dvs
def methE (cs : List Str) (m : Str) (fi : FnI) (dps : List PV) (fo : EF) (fa : AF) : EF := fun env st => (fo env st).bind fun p st1 => match p with
  | .ins c ns ps => if c ∈ cs ∧ m ∉ ns then (fa env st1).bind fun qs st2 => callK fi (.ins c ns ps :: (qs ++ dps)) st2 else .stuck
  | _ => .stuck
theorem lookup_none {α : Type} {f : Str} : ∀ {ns : List Str} {vs : List α}, f ∉ ns → (ns.zip vs).lookup f = none
  | [], _, _ => rfl
  | n :: ns, [], _ => rfl
  | n :: ns, v :: vs, h => by
    rw [List.zip_cons_cons, List.lookup_cons]
    have : (f == n) = false := by simpa using (fun e => h (by rw [e]; exact List.mem_cons_self))
    rw [this]
    exact lookup_none fun z => h (List.mem_cons_of_mem _ z)
section
variable {X : Cx} {B : Bs} {W : WX} {x m : Str} {fi : FnI} {dps : List PV} {k : Nat} {o e : Expr} {es : List Expr} {fo : EF} {fa : AF} {ms : List Md} {cs : List Str} {p apos pos : Pos}
theorem qe_meth {pl : Sem Bool} (hf : FnM X.prog X.w X.K X.mg X.base cs m fi dps k) (hr : Room k X.A) (tk : Takes X W) (h0 : QR X B W o fo) (ha : QA X B W ms (e :: es) fa) (hms : fi.ms = .bor :: (ms ++ List.replicate dps.length .val) := by rfl) (hown : fi.own = false := by rfl)
    (hst : starEach (e :: es) X.env = (false, eval e X.env) :: starEach es X.env := by rfl) (hpl : (backTo pos (starEach es X.env)).any (·.1) = false := by rfl)
    (ht : eval (.Call (.Attribute o m apos) (e :: es) [] pos) X.env = (do
      let ov ← eval o X.env
      standAt apos.atName
      let (f, first) ← holding [ov] (getMethod ov m pl)
      callWith pos f first (backTo pos (starEach (e :: es) X.env)) (backToKw pos (keywordEach [] X.env))) := by rfl) : QE X B W (.Call (.Attribute o m apos) (e :: es) [] pos) (methE cs m fi dps fo fa) := by
  obtain ⟨f, fd, ps, ds, dvs, hc, G, hb, hd, hdp⟩ := hf.ex
  refine ⟨⟨fun pins s σ H Q I ⟨F, env, st, g, q⟩ => ?_⟩⟩
  refine PySem.W.methodCall_KW (pl := pl) (thn (h0.pe.run pins s σ H _ I ⟨F, env, st, g, q.bind.mono (R' := fun p _ F' H' => ∀ v, RT X.K F' H' env σ p v → ∃ (a : Addr) (c : Str) (dx : Addr) (fs : List (Str × V)), v = .ref a ∧ c ∈ cs ∧ H' a = some (.ins (He.ga X.K c) dx fs) ∧ fs.lookup m = none ∧ tA X.K B W ms fa σ H' fun vs H2 => spOf X.K fi (.ref a :: (vs ++ dvs)) H2 Q (WE W σ)) fun p st1 F1 H1 s1 g1 q1 v rv => ?_⟩) fun u s1 ⟨y, H1, I1, rx, a, c, dx, fs, ex, hm, ea, l, q2⟩ => ?_) ht
  · cases p with
    | ins c ns qs =>
      have q1' : EPost X.K B W env σ F1 H1 (fun p _ F' H' => ∀ v, Rep X.K F' p v → Q v H') (if c ∈ cs ∧ m ∉ ns then (fa env st1).bind fun ps2 st2 => callK fi (.ins c ns qs :: (ps2 ++ dps)) st2 else .stuck) := q1
      by_cases hl : c ∈ cs ∧ m ∉ ns
      · rw [if_pos hl] at q1'
        obtain ⟨a, dx, vs, rfl, h1, h2, h3⟩ := rv.rh.ins g1.le
        refine ⟨a, c, dx, _, rfl, hl.1, h1, lookup_none hl.2, F1, env, st1, g1, q1'.bind.mono fun ps2 st2 F2 H2 s2 g2 q2 ws hw => ?_⟩
        refine call_sp (ms := .bor :: ms) (ps := .ins c ns qs :: ps2) (vs := .ref a :: ws) g2 hms ⟨_, _, _, _, rfl, rfl, rv.step s2, hw⟩ (hdp F2) q2 fun p st' F' H' v s' g' r hv => r v ?_
        unfold ResOk at hv
        rw [if_neg (by rw [hown]; exact Bool.false_ne_true)] at hv
        exact hv
      · rw [if_neg hl] at q1'; exact q1'.elim
    | _ => exact q1.elim
  · subst ex
    obtain rfl : u = Value.ref a := rx
    obtain ⟨c1, c2⟩ := hc c hm
    refine getmeth_ok I1 ea c1 c2 l ?_
    refine PySem.W.callWith_K (first := [.ref a]) (h₀ := X.base) I.ok.mod.kin c2.kp (thn (ha.pa.run pos pins s1 σ H1 _ I1 q2) fun us s2 ⟨vs, H2, I2, r, q3⟩ => ⟨I2.kIn, ?_⟩) hst hpl
    exact run_fnSD (E := WE W) (us := .ref a :: us) (vs := .ref a :: vs) G hr hb hd (passAt tk σ) I2 (.cons rfl r) q3
theorem qe_meth0 {pl : Sem Bool} (hf : FnM X.prog X.w X.K X.mg X.base cs m fi dps k) (hr : Room k X.A) (tk : Takes X W) (h0 : QR X B W o fo) (hms : fi.ms = .bor :: ([] ++ List.replicate dps.length .val) := by rfl) (hown : fi.own = false := by rfl)
    (ht : eval (.Call (.Attribute o m apos) [] [] pos) X.env = (do
      let ov ← eval o X.env
      standAt apos.atName
      let (f, first) ← holding [ov] (getMethod ov m pl)
      callWith pos f first (backTo pos (starEach [] X.env)) (backToKw pos (keywordEach [] X.env))) := by rfl) : QE X B W (.Call (.Attribute o m apos) [] [] pos) (methE cs m fi dps fo nilA) := by
  obtain ⟨f, fd, ps, ds, dvs, hc, G, hb, hd, hdp⟩ := hf.ex
  refine ⟨⟨fun pins s σ H Q I ⟨F, env, st, g, q⟩ => ?_⟩⟩
  refine PySem.W.methodCall_KW (pl := pl) (thn (h0.pe.run pins s σ H _ I ⟨F, env, st, g, q.bind.mono (R' := fun p _ F' H' => ∀ v, RT X.K F' H' env σ p v → ∃ (a : Addr) (c : Str) (dx : Addr) (fs : List (Str × V)), v = .ref a ∧ c ∈ cs ∧ H' a = some (.ins (He.ga X.K c) dx fs) ∧ fs.lookup m = none ∧ spOf X.K fi (.ref a :: dvs) H' Q (WE W σ)) fun p st1 F1 H1 s1 g1 q1 v rv => ?_⟩) fun u s1 ⟨y, H1, I1, rx, a, c, dx, fs, ex, hm, ea, l, q2⟩ => ?_) ht
  · cases p with
    | ins c ns qs =>
      have q1' : EPost X.K B W env σ F1 H1 (fun p _ F' H' => ∀ v, Rep X.K F' p v → Q v H') (if c ∈ cs ∧ m ∉ ns then callK fi (.ins c ns qs :: ([] ++ dps)) st1 else .stuck) := q1
      by_cases hl : c ∈ cs ∧ m ∉ ns
      · rw [if_pos hl] at q1'
        obtain ⟨a, dx, vs, rfl, h1, h2, h3⟩ := rv.rh.ins g1.le
        refine ⟨a, c, dx, _, rfl, hl.1, h1, lookup_none hl.2, ?_⟩
        refine call_sp (ms := [.bor]) (ps := [.ins c ns qs]) (vs := [.ref a]) g1 hms ⟨_, _, _, _, rfl, rfl, rv, rfl, rfl⟩ (hdp F1) q1' fun p st' F' H' v s' g' r hv => r v ?_
        unfold ResOk at hv
        rw [if_neg (by rw [hown]; exact Bool.false_ne_true)] at hv
        exact hv
      · rw [if_neg hl] at q1'; exact q1'.elim
    | _ => exact q1.elim
  · subst ex
    obtain rfl : u = Value.ref a := rx
    obtain ⟨c1, c2⟩ := hc c hm
    refine getmeth_ok I1 ea c1 c2 l ?_
    exact PySem.W.callWith_K0 (first := [.ref a]) I1.kIn c2.kp (run_fnSD (E := WE W) (us := [.ref a]) (vs := [.ref a]) G hr hb hd (passAt tk σ) I1 (.cons rfl .nil) q2)

/-! ### C(..) -/
theorem run_makeS {C f : Addr} {fd : FuncData} {ps : List Str} {sp : Sp} {ds : List Value} {dvs : List V} {E : XK} {pins : List (Addr × Obj)} {σ : Sg} {H : Hp} {s : Shared} {Q : VK} {us : List Value} {vs : List V} (M : Mk X.K C f) (F : FnOk X.prog X.w X.K X.mg X.base (L2.CX X.prog X.w) k f fd ps sp) (hr : Room (k + 1) X.A) (hb : Binds X.K fd ps ds) (hd : Vals dvs ds)
    (hx : PassesAt (L2.CX X.prog X.w) X σ E) (I : Inv X pins σ H s) (r : Vals vs us)
    (h : ∀ x dx, H x = none → H dx = none → dx ≠ x → sp (.ref x :: (vs ++ dvs)) (upd (upd H dx (.own x)) x (.ins C dx [])) (fun v H2 => v = .non ∧ Q (.ref x) H2) E) :
    wpAny (model X.prog X.w) X.A (call (.ref C) us) (EP X pins σ Q) X.xe s := by
  have hq := h (s.heap.objs.size + 1) s.heap.objs.size (I.hok.fresh (Nat.le_succ _)) (I.hok.fresh (Nat.le_refl _)) (Nat.ne_of_lt (Nat.lt_succ_self _))
  have I2 := Inv.made (C := C) I
  have r2 : Vals (V.ref (s.heap.objs.size + 1) :: (vs ++ dvs)) (Value.ref (s.heap.objs.size + 1) :: (us ++ ds)) := .cons rfl (r.append hd)
  have hl : (Value.ref (s.heap.objs.size + 1) :: us ++ ds).length = ps.length := by
    have e := r2.length
    rw [F.len _ _ _ _ hq] at e
    exact e.symm
  refine wpAny_call (make_map (f := f) I.kIn M.makes M.init (beq_iff_eq.mp M.fn) (codeAny_mono (F.run _ X.stack _ _ ⟨Value.ref (s.heap.objs.size + 1) :: us, []⟩ (Value.ref (s.heap.objs.size + 1) :: (us ++ ds)) _ _ E (hr.make C us [])
    (I2.env0.make C us []) (hb _ (Value.ref (s.heap.objs.size + 1) :: us) I2.kIn hl) r2 hq) fun r s' hq' => ?_))
  cases r with
  | error e => exact hx pins _ _ e s' I2 hq'
  | ok fl =>
    cases fl with
    | ret u =>
      obtain ⟨v, H', I3, rv, ev, q3⟩ := I2.after hq'
      subst ev
      exact ⟨rv, ⟨V.ref (s.heap.objs.size + 1), H', I3, rfl, q3⟩⟩
    | next => exact False.elim hq'
    | brk => exact False.elim hq'
    | cont => exact False.elim hq'
/-- a new instance by its __init__: the instance as it came out -/
def makeK (c : Str) (fi : FnI) (ps : List PV) (st : PV) : ER PV := match fi.sem (.non :: ps) (.ins c [] []) with
  | .ok .non q => (match q with
    | .ins c' ns qs => .ok (.ins c' ns qs) st
    | _ => .stuck)
  | .exc c' ns qs _ => .exc c' ns qs st
  | _ => .stuck
def makeE (c : Str) (fi : FnI) (dps : List PV) (fa : AF) : EF := fun env st => (fa env st).bind fun ps st1 => makeK c fi (ps ++ dps) st1
theorem make_sp {K : Frag} {B : Bs} {W : WX} {F H : Hp} {env : SEnv} {st : PV} {σ : Sg} {c : Str} {ps : List PV} {vs : List V} {Q : VK} {R : PV → PV → Hp → Hp → Prop} {a dx : Addr} (g : Good K B F H env st σ) (hms : fi.ms = .mu :: ms) (hnm : ms.any isMut = false)
    (hown : fi.own = false) (ha : H a = none) (hd : H dx = none) (hne : dx ≠ a) (hA : ∀ F' H', Same F F' → (∀ b o, H b = some o → H' b = some o) → ArgsOk K F' H' (some a) (.ins c [] []) ms ps vs)
    (q : EPost K B W env σ F H R (makeK c fi ps st)) (hR : ∀ p st' F' H', Stp env σ F H F' H' → Good K B F' H' env st' σ → R p st' F' H' → F' a = none → Own K F' H' a p → Q (.ref a) H') :
    spOf K fi (.ref a :: vs) (upd (upd H dx (.own a)) a (.ins (He.ga K c) dx [])) (fun v H2 => v = .non ∧ Q (.ref a) H2) (WE W σ) := by
  have h1 : upd H dx (.own a) a = none := by rw [upd_ne (Ne.symm hne)]; exact ha
  have up : ∀ b o, H b = some o → upd (upd H dx (.own a)) a (.ins (He.ga K c) dx []) b = some o := fun b o e => by
    rw [upd_ne (ne_of_none e ha), upd_ne (ne_of_none e hd)]; exact e
  refine ⟨F, .non :: ps, .ins c [] [], some a, fun b o e => up b o (g.le b o e), fun z => ?_, by
    rw [hms]
    exact ⟨.non, ps, .ref a, vs, rfl, rfl, ⟨a, rfl, rfl, g.fnone ha, dx, [], by rw [upd_same]; rfl, rfl, rfl⟩, hA F _ (Same.refl F) up⟩, ?_⟩
  · rw [hms, List.any_cons] at z; cases z
  unfold makeK at q
  have back : ∀ {F' H' : Hp} {st' : PV}, Back K F (upd (upd H dx (.own a)) a (.ins (He.ga K c) dx [])) (some a) F' H' st' → Good K B F' H' env st σ ∧ Stp env σ F H F' H' ∧ F' a = none ∧ Own K F' H' a st' := fun {F' H' st'} b => by
    have b' : Back K F H none F' H' .non := by
      refine ⟨b.le0, b.le, ?_, ?_, ?_, ?_⟩
      · intro y o e _
        refine b.kept y o (up y o e) fun z => ?_
        cases z
        rw [ha] at e
        cases e
      · intro y e
        refine b.there y ?_
        cases z : H y with
        | none => exact absurd z e
        | some o => rw [up y o z]; simp
      · intro y e
        rcases b.frs y e with h | h
        · exact .inl h
        · refine .inr ?_
          cases z : H y with
          | none => rfl
          | some o => rw [up y o z] at h; cases h
      · intro y e
        cases e
    obtain ⟨g', s'⟩ := g.back (ma := none) (fun a e => by cases e) b'
    obtain ⟨h2, h3⟩ := b.mt a rfl
    exact ⟨g', s', h2, h3⟩
  cases hr : fi.sem (.non :: ps) (.ins c [] []) with
  | ok p st' =>
    rw [hr] at q
    cases p with
    | non =>
      cases st' with
      | ins c' ns qs =>
        intro v F' H' b r
        obtain ⟨g', s', h2, h3⟩ := back b
        unfold ResOk at r
        rw [if_neg (by rw [hown]; exact Bool.false_ne_true)] at r
        exact ⟨r, hR _ st F' H' s' g' (q F' H' s' g') h2 h3⟩
      | _ => exact q.elim
    | _ => exact q.elim
  | exc c' ns qs st' =>
    rw [hr] at q
    intro F' H' d ws b e1 e2 e3
    obtain ⟨g', s', _, _⟩ := back b
    exact q F' H' d ws s'.le g' e1 e2 e3
  | stuck => rw [hr] at q; exact q.elim
theorem args_out {K : Frag} {B : Bs} {F H : Hp} {env : SEnv} {st st' : PV} {σ : Sg} {a : Addr} (g : Good K B F H env st σ) (ha : H a = none) : ∀ {ms : List Md} {ps : List PV} {vs : List V}, ms.any isMut = false → CArgs K F H env σ ms ps vs → ∀ F' H', Same F F' → (∀ b o, H b = some o → H' b = some o) → ArgsOk K F' H' (some a) st' ms ps vs
  | [], _, _, _, h, _, _, _, _ => h
  | m :: ms, _, _, hm, ⟨p, ps', v, vs', h1, h2, h3, h4⟩, F', H', s, k => by
    rw [List.any_cons, Bool.or_eq_false_iff] at hm
    refine ⟨p, ps', v, vs', h1, h2, ?_, args_out g ha hm.2 h4 F' H' s k⟩
    cases m with
    | val => exact Rep.mono s _ _ h3
    | bor =>
      rcases h3 with h3 | ⟨b, e, n, h3⟩
      · exact .inl (Rep.mono s _ _ h3)
      · exact .inr ⟨b, e, (fun z => by cases z; exact h3.there ha), h3.mono s (k b)⟩
    | mu => cases hm.1
theorem qo_make {c : Str} (hf : FnK X.prog X.w X.K X.mg X.base c fi dps k) (hr : Room (k + 1) X.A) (tk : Takes X W) (ha : QA X B W ms (e :: es) fa) (hms : fi.ms = .mu :: (ms ++ List.replicate dps.length .val) := by rfl) (hnm : ms.any isMut = false := by rfl) (hown : fi.own = false := by rfl) (hg : Gl X c := by rfl)
    (hdb : (c == ("__debug__" : Str)) = false := by decide) (he : starEach (e :: es) X.env = (false, eval e X.env) :: starEach es X.env := by rfl) (hpl : (backTo pos (starEach es X.env)).any (·.1) = false := by rfl) :
    QO X B W (.Call (.Name c p) (e :: es) [] pos) (makeE c fi dps fa) := by
  obtain ⟨f, fd, ps, ds, dvs, hm, M, G, hb, hd, hdp⟩ := hf.ex
  refine ⟨⟨fun pins s σ H Q I ⟨F, env, st, g, q⟩ => ?_⟩⟩
  refine wpAny_Call_Name_kw (ld_glob I hg hm ?_ hdb)
  refine PySem.W.callWith_K (h₀ := X.base) I.ok.mod.kin M.kp (thn (ha.pa.run pos pins s σ H _ I ⟨F, env, st, g, q.bind.mono (R' := fun qs _ F' H' => ∀ vs, CArgs X.K F' H' env σ ms qs vs → ∀ x dx, H' x = none → H' dx = none → dx ≠ x → spOf X.K fi (.ref x :: (vs ++ dvs)) (upd (upd H' dx (.own x)) x (.ins (He.ga X.K c) dx [])) (fun v H2 => v = .non ∧ Q (.ref x) H2) (WE W σ)) fun qs st1 F1 H1 s1 g1 q1 vs hvs x dx hx hdx hne => ?_⟩) fun us s1 ⟨vs, H1, I1, r, q1⟩ => ⟨I1.kIn, ?_⟩) he hpl
  · refine make_sp (ms := ms ++ List.replicate dps.length .val) g1 hms (by rw [any_repl]; exact hnm) hown hx hdx hne (fun F' H' s' k' => ArgsOk.append (hdp F') (args_out g1 hx hnm hvs F' H' s' k')) q1 fun p st' F' H' s' g' r h1 h2 => r x ?_ h1 h2
    cases z : H x with
    | none => rfl
    | some u => exact absurd hx (s1.there x (by rw [z]; simp))
  · exact run_makeS M G hr hb hd (passAt tk σ) I1 r q1
theorem qo_make0 {c : Str} (hf : FnK X.prog X.w X.K X.mg X.base c fi dps k) (hr : Room (k + 1) X.A) (tk : Takes X W) (hms : fi.ms = .mu :: ([] ++ List.replicate dps.length .val) := by rfl) (hown : fi.own = false := by rfl) (hg : Gl X c := by rfl)
    (hdb : (c == ("__debug__" : Str)) = false := by decide) : QO X B W (.Call (.Name c p) [] [] pos) (makeE c fi dps nilA) := by
  obtain ⟨f, fd, ps, ds, dvs, hm, M, G, hb, hd, hdp⟩ := hf.ex
  refine ⟨⟨fun pins s σ H Q I ⟨F, env, st, g, q⟩ => ?_⟩⟩
  refine wpAny_Call_Name_kw (ld_glob I hg hm ?_ hdb)
  refine PySem.W.callWith_K0 I.kIn M.kp (run_makeS (us := []) (vs := []) (Q := Q) M G hr hb hd (passAt tk σ) I .nil fun x dx hx hdx hne => ?_)
  refine make_sp (ms := [] ++ List.replicate dps.length .val) g hms (by rw [any_repl]; rfl) hown hx hdx hne (fun F' H' s' k' => ArgsOk.append (ms := []) (ps := []) (vs := []) (hdp F') (And.intro rfl rfl)) q fun p st' F' H' s' g' r h1 h2 => r x hx h1 h2
end
end KI

/-! part KI10 -/
set_option Elab.async false
set_option linter.all false
set_option maxRecDepth 100000
set_option maxHeartbeats 4000000
namespace KI
open PySem PySem.Spec PyProof.Rows L2

/-! ## list comprehensions -/
theorem wipe_get {σ : Sg} {j : Nat} : ∀ {vs : List Nat}, (wipe σ vs)[j]? = if j ∈ vs then (if j < σ.length then some none else none) else σ[j]?
  | [] => by simp [wipe]
  | v :: vs => by
    unfold wipe
    rw [List.getElem?_set]
    by_cases h : v = j
    · subst h; simp [wipe_length]
    · rw [if_neg h, wipe_get]
      by_cases h2 : j ∈ vs
      · simp [h2]
      · simp [h2, Ne.symm h]
theorem wipe_ext {σ σ' : Sg} {vs : List Nat} (hl : σ'.length = σ.length) (h : ∀ j, j ∉ vs → σ'[j]? = σ[j]?) : wipe σ' vs = wipe σ vs := by
  apply List.ext_getElem?
  intro j
  rw [wipe_get, wipe_get, hl]
  by_cases hj : j ∈ vs
  · simp [hj]
  · simp only [hj, if_false]; exact h j hj
theorem wipe_set {σ : Sg} {vs : List Nat} {i : Nat} {x : Option V} (h : i ∈ vs) : wipe (σ.set i x) vs = wipe σ vs :=
  wipe_ext (by simp) fun j hj => by rw [List.getElem?_set_ne]; intro e; exact hj (e ▸ h)
theorem wipe_wipe {σ : Sg} {vs : List Nat} : wipe (wipe σ vs) vs = wipe σ vs :=
  wipe_ext (wipe_length _ _) fun j hj => by rw [wipe_get, if_neg hj]
theorem killS_length : ∀ {vs : List Nat} {env : SEnv}, (killS vs env).length = env.length
  | [], env => rfl
  | v :: vs, env => by
    show (killS vs (env.set v .dead)).length = _
    rw [killS_length, List.length_set]
theorem killS_get {j : Nat} : ∀ {vs : List Nat} {env : SEnv}, (killS vs env)[j]? = if j ∈ vs then (if j < env.length then some .dead else none) else env[j]?
  | [], env => by simp [killS]
  | v :: vs, env => by
    show (killS vs (env.set v .dead))[j]? = _
    rw [killS_get, List.length_set]
    by_cases h2 : j ∈ vs
    · simp [h2]
    · rw [if_neg h2, List.getElem?_set]
      by_cases h : v = j
      · subst h; simp
      · rw [if_neg h]; simp [h2, Ne.symm h]
theorem killS_ext {env env' : SEnv} {vs : List Nat} (hl : env'.length = env.length) (h : ∀ j, j ∉ vs → env'[j]? = env[j]?) : killS vs env' = killS vs env := by
  apply List.ext_getElem?
  intro j
  rw [killS_get, killS_get, hl]
  by_cases hj : j ∈ vs
  · simp [hj]
  · simp only [hj, if_false]; exact h j hj
theorem killS_set {env : SEnv} {vs : List Nat} {i : Nat} {x : Slot} (h : i ∈ vs) : killS vs (env.set i x) = killS vs env :=
  killS_ext (by simp) fun j hj => by rw [List.getElem?_set_ne]; intro e; exact hj (e ▸ h)
theorem killS_kill {env : SEnv} {vs : List Nat} : killS vs (killS vs env) = killS vs env :=
  killS_ext killS_length fun j hj => by rw [killS_get, if_neg hj]
section
variable {K : Frag} {B : Bs} {F H F' H' : Hp} {env : SEnv} {st st' : PV} {σ : Sg} {vs : List Nat}
theorem Good.wipe (g : Good K B F H env st σ) (vs : List Nat) : Good K B F H (killS vs env) st (L2.wipe σ vs) where
  le := g.le
  le0 := g.le0
  kept := g.kept
  there := g.there
  frs := g.frs
  len := by rw [killS_length, wipe_length]; exact g.len
  slots := fun i s e => by
    rw [killS_get] at e
    rw [wipe_get]
    by_cases h : i ∈ vs
    · rw [if_pos h] at e ⊢
      by_cases hl : i < env.length
      · rw [if_pos hl] at e
        cases e
        exact ⟨none, by rw [if_pos (g.len ▸ hl)], trivial⟩
      · rw [if_neg hl] at e; cases e
    · rw [if_neg h] at e ⊢
      exact g.slots i s e
  sep := fun i j s t a ne h1 h2 o1 o2 e1 e2 => by
    rw [killS_get] at h1 h2
    rw [wipe_get] at e1 e2
    by_cases hi : i ∈ vs
    · rw [if_pos hi] at e1
      split at e1 <;> cases e1
    · by_cases hj : j ∈ vs
      · rw [if_pos hj] at e2
        split at e2 <;> cases e2
      · rw [if_neg hi] at h1 e1
        rw [if_neg hj] at h2 e2
        exact g.sep i j s t a ne h1 h2 o1 o2 e1 e2
  mt1 := fun i j h1 h2 => by
    rw [killS_get] at h1 h2
    by_cases hi : i ∈ vs
    · rw [if_pos hi] at h1
      split at h1 <;> cases h1
    · by_cases hj : j ∈ vs
      · rw [if_pos hj] at h2
        split at h2 <;> cases h2
      · rw [if_neg hi] at h1
        rw [if_neg hj] at h2
        exact g.mt1 i j h1 h2
/-- the slots that a block may hide: dead or shared -/
def calmAt (env : SEnv) (vs : List Nat) : Bool := vs.all fun i => match env[i]? with
  | some .dead => true
  | some (.sh _) => true
  | none => true
  | _ => false
theorem calmAt_own {i : Nat} {s : Slot} (h : calmAt env vs = true) (hi : i ∈ vs) (e : env[i]? = some s) : isOwn s = false := by
  have := List.all_eq_true.mp h i hi
  rw [e] at this
  cases s <;> first | rfl | cases this
theorem calmAt_set {i : Nat} {p : PV} (h : calmAt env vs = true) : calmAt (env.set i (.sh p)) vs = true := by
  refine List.all_eq_true.mpr fun j hj => ?_
  have := List.all_eq_true.mp h j hj
  rw [List.getElem?_set]
  by_cases hi : i = j
  · subst hi
    by_cases hl : i < env.length
    · simp [hl]
    · simp [hl]
  · rw [if_neg hi]; exact this
theorem calmAt_kill : calmAt (killS vs env) vs = true := by
  refine List.all_eq_true.mpr fun j hj => ?_
  rw [killS_get, if_pos hj]
  by_cases hl : j < env.length
  · simp [hl]
  · simp [hl]
theorem Stp.writeN {F1 H1 : Hp} {a : Addr} {o : HO} (hD : H1 a = none) (s : Stp env σ F1 H1 F H) : Stp env σ F1 H1 F (upd H a o) where
  le := s.le
  keep := fun b u e n => by rw [upd_ne (ne_of_none e hD)]; exact s.keep b u e n
  frz := s.frz
  there := fun b e => by
    by_cases hb : b = a
    · subst hb; rw [upd_same]; simp
    · rw [upd_ne hb]; exact s.there b e
theorem MtA.wiped (h : calmAt env vs = true) {a : Addr} : MtA env σ a ↔ MtA (killS vs env) (wipe σ vs) a := by
  constructor
  · rintro ⟨i, h1, h2⟩
    have hi : i ∉ vs := fun z => by have := calmAt_own h z h1; cases this
    exact ⟨i, by rw [killS_get, if_neg hi]; exact h1, by rw [wipe_get, if_neg hi]; exact h2⟩
  · rintro ⟨i, h1, h2⟩
    rw [killS_get] at h1
    rw [wipe_get] at h2
    by_cases hi : i ∈ vs
    · rw [if_pos hi] at h1
      split at h1 <;> cases h1
    · rw [if_neg hi] at h1 h2
      exact ⟨i, h1, h2⟩
theorem Stp.unwipe (h : calmAt env vs = true) (s : Stp (killS vs env) (wipe σ vs) F H F' H') : Stp env σ F H F' H' :=
  ⟨s.le, fun a o e n => s.keep a o e fun z => n ((MtA.wiped h).mpr z), s.frz, s.there⟩
theorem Good.unwipe (g0 : Good K B F H env st σ) (h : calmAt env vs = true) (le : Same F F') (g : Good K B F' H' (killS vs env) st' (L2.wipe σ vs)) : Good K B F' H' env st' σ where
  le := g.le
  le0 := g.le0
  kept := g.kept
  there := g.there
  frs := g.frs
  len := g0.len
  slots := fun i s e => by
    by_cases hi : i ∈ vs
    · obtain ⟨o, h1, h2⟩ := g0.slots i s e
      refine ⟨o, h1, ?_⟩
      have hc := List.all_eq_true.mp h i hi
      rw [e] at hc
      cases s with
      | dead => trivial
      | sh p => obtain ⟨v, h3, h4⟩ := h2; exact ⟨v, h3, Rep.mono le _ _ h4⟩
      | _ => cases hc
    · obtain ⟨o, h1, h2⟩ := g.slots i s (by rw [killS_get, if_neg hi]; exact e)
      rw [wipe_get, if_neg hi] at h1
      exact ⟨o, h1, h2⟩
  sep := fun i j s t a ne h1 h2 o1 o2 e1 e2 => g0.sep i j s t a ne h1 h2 o1 o2 e1 e2
  mt1 := g0.mt1
/-- an object that nobody has, turned -/
theorem Good.writeN (g : Good K B F H env st σ) {a : Addr} {o o' : HO} (h : H a = some o) (hF : F a = none) (h0 : B.H0 a = none) (hs : ∀ (i : Nat) (s : Slot), env[i]? = some s → isOwn s = true → σ[i]? ≠ some (some (.ref a))) : Good K B F (upd H a o') env st σ where
  le := fun b u e => by rw [upd_ne (fun z => by rw [z, hF] at e; cases e)]; exact g.le b u e
  le0 := g.le0
  kept := fun b u e n => by rw [upd_ne (fun z => by rw [z, h0] at e; cases e)]; exact g.kept b u e n
  there := fun b e => by
    by_cases hb : b = a
    · subst hb; rw [upd_same]; simp
    · rw [upd_ne hb]; exact g.there b e
  frs := g.frs
  len := g.len
  slots := fun i s e => by
    obtain ⟨w, h1, h2⟩ := g.slots i s e
    refine ⟨w, h1, ?_⟩
    cases s with
    | dead => trivial
    | sh p => exact h2
    | own p =>
      obtain ⟨b, h3, h4, h5, h6⟩ := h2
      have hb : b ≠ a := fun z => hs i _ e rfl (by rw [h1, h3, z])
      exact ⟨b, h3, h4, h5, h6.mono (Same.refl F) fun o e => by rw [upd_ne hb]; exact e⟩
    | mt =>
      obtain ⟨b, h3, h4, h5, h6⟩ := h2
      have hb : b ≠ a := fun z => hs i _ e rfl (by rw [h1, h3, z])
      exact ⟨b, h3, h4, h5, h6.mono (Same.refl F) fun o e => by rw [upd_ne hb]; exact e⟩
    | bor p => exact h2
    | exc c ns ps => exact h2
  sep := g.sep
  mt1 := g.mt1
end
def lcL (t : GF) (c : TF) (e : EF) (env : SEnv) : List PV → PV → ER (List PV)
  | [], st => .ok [] st
  | p :: ps, st => match t p env with
    | none => .stuck
    | some env1 => (c env1 st).bind fun b st1 => if b = true then (e env1 st1).bind fun y st2 => (lcL t c e env ps st2).bind fun ys st3 => .ok (y :: ys) st3 else lcL t c e env ps st1
def lcE (vs : List Nat) (fi : AF) (t : GF) (c : TF) (e : EF) : EF := fun env st => (fi env st).bind fun ps st1 => if calmAt env vs = true ∧ ps.length ≤ sizeLine then (match lcL t c e (killS vs env) ps st1 with
  | .ok ys st2 => .ok (.lst ys) st2
  | _ => .stuck) else .stuck
/-- a target within the block's own slots -/
def tGv (K : Frag) (B : Bs) (vs : List Nat) (t : GF) : TG := fun v σ H Q => ∃ F env st p, Good K B F H env st σ ∧ Rep K F p v ∧ match t p env with
  | some env' => ∀ σ', Good K B F H env' st σ' → wipe σ' vs = wipe σ vs → Q σ' H
  | none => False
structure QGv (X : Cx) (B : Bs) (vs : List Nat) (tg : Expr) (t : GF) : Prop where
  pg : PG X tg (tGv X.K B vs t)
  ke : ∀ p env env', t p env = some env' → killS vs env' = killS vs env
  cm : ∀ p env env', t p env = some env' → calmAt env vs = true → calmAt env' vs = true
def W0 : WX := fun _ _ _ _ => False
/-- the condition: none, or one -/
def tTs (K : Frag) (B : Bs) (f : TF) : TT := tT K B W0 f
structure QTs (X : Cx) (B : Bs) (es : List Expr) (f : TF) : Prop where
  pt : PTs X es (tT X.K B W0 f)
def yesT : TF := fun _ st => .ok true st
section
variable {X : Cx} {B : Bs} {W : WX} {pos : Pos} {vs : List Nat}
theorem qts_nil : QTs X B [] yesT := ⟨⟨fun pins s σ H Q I ⟨F, env, st, g, q⟩ => pts_nil.run pins s σ H Q I (q F H Stp.refl g)⟩⟩
theorem qts_one {c : Expr} {f : TF} (h : QT X B W0 c f) : QTs X B [c] f := ⟨pts_one h.pt⟩
theorem nameG_ke {i : Nat} (hv : i ∈ vs) : ∀ p env env', nameG i p env = some env' → killS vs env' = killS vs env := by
  intro p env env' h
  unfold nameG at h
  cases h
  exact killS_set hv
theorem nameG_cm {i : Nat} : ∀ p env env', nameG i p env = some env' → calmAt env vs = true → calmAt env' vs = true := by
  intro p env env' h hc
  unfold nameG at h
  cases h
  exact calmAt_set hc
theorem pairG_ke {i j : Nat} (hv : i ∈ vs) (hw : j ∈ vs) : ∀ p env env', pairG i j p env = some env' → killS vs env' = killS vs env := by
  intro p env env' h
  unfold pairG at h
  split at h
  · cases h
    rw [killS_set hw, killS_set hv]
  · cases h
theorem pairG_cm {i j : Nat} : ∀ p env env', pairG i j p env = some env' → calmAt env vs = true → calmAt env' vs = true := by
  intro p env env' h hc
  unfold pairG at h
  split at h
  · cases h
    exact calmAt_set (calmAt_set hc)
  · cases h
theorem qgv_name {x : Str} (i : Nat) (hN : X.N.Nodup) (hv : i ∈ vs := by decide) (hi : X.N[i]? = some x := by rfl) (hx : Loc X.env.scope x := by first | exact .inl rfl | exact .inr rfl) (hf : X.fn x = true ∨ X.env.scope.names.lookup x = some .local := by first | exact .inl rfl | exact .inr rfl) : QGv X B vs (.Name x pos) (nameG i) :=
  ⟨pg_imp (pg_name hN hi hx hf) fun v σ H Q ⟨F, env, st, p, g, r, q⟩ => q _ (g.set i (v := v) (s := .sh p) ⟨v, rfl, r⟩ fun z => nomatch z) (wipe_set hv), nameG_ke hv, nameG_cm⟩
theorem qgv_pair {x y : Str} {p1 p2 : Pos} {kk : Nat} (i j : Nat) (hc : X.calm = true) (hN : X.N.Nodup) (hvi : i ∈ vs := by decide) (hvj : j ∈ vs := by decide) (hi : X.N[i]? = some x := by rfl) (hx : Loc X.env.scope x := by first | exact .inl rfl | exact .inr rfl) (hfx : X.fn x = true ∨ X.env.scope.names.lookup x = some .local := by first | exact .inl rfl | exact .inr rfl)
    (hj : X.N[j]? = some y := by rfl) (hy : Loc X.env.scope y := by first | exact .inl rfl | exact .inr rfl) (hfy : X.fn y = true ∨ X.env.scope.names.lookup y = some .local := by first | exact .inl rfl | exact .inr rfl)
    (hn : (assignEach [.Name x p1, .Name y p2] X.env).length = 2 := by rfl) (hst : (assignEach [.Name x p1, .Name y p2] X.env).findIdx? (·.1) = none := by rfl) : QGv X B vs (.Tuple [.Name x p1, .Name y p2] kk pos) (pairG i j) :=
  ⟨pg_imp (pg_tup hc (pgs_cons (pg_name hN hi hx hfx) (pgs_cons (pg_name hN hj hy hfy) pgs_nil)) hn hst) fun v σ H Q ⟨F, env, st, p, g, r, q⟩ => by
    unfold pairG at q
    cases p with
    | tup ps =>
      match ps, r, q with
      | [p1, p2], ⟨a, vs, h1, h2, v1, r1, h3, h4, v2, r2, h5, h6, h7⟩, q =>
        obtain rfl : r2 = [] := h7
        subst h1 h3 h5
        exact ⟨a, _, rfl, sqT_mono g.le h2, rfl, v1, _, rfl, v2, _, rfl, rfl, q _ ((g.set i (v := v1) (s := .sh p1) ⟨v1, rfl, h4⟩ fun z => nomatch z).set j (v := v2) (s := .sh p2) ⟨v2, rfl, h6⟩ fun z => nomatch z) (by rw [wipe_set hvj, wipe_set hvi])⟩
      | [], _, q => exact q.elim
      | [_], _, q => exact q.elim
      | _ :: _ :: _ :: _, _, q => exact q.elim
    | _ => exact q.elim, pairG_ke hvi hvj, pairG_cm⟩
theorem qlc_core {tg iter elt : Expr} {ifs : List Expr} {vs : List Nat} {fi : AF} {t : GF} {c : TF} {e : EF} (hke : ∀ p env env', t p env = some env' → killS vs env' = killS vs env) (hcm : ∀ p env env', t p env = some env' → calmAt env vs = true → calmAt env' vs = true) {σ : Sg} {H : Hp} {Q : VK} (h : tO X.K B W (lcE vs fi t c e) σ H Q) :
    tLc (tI X.K B W fi) (tGv X.K B vs t) (tT X.K B W0 c) (tE X.K B W0 e) vs σ H Q := by
  obtain ⟨F, env, st, g, q⟩ := h
  refine ⟨F, env, st, g, q.bind.mono fun ps st1 F1 H1 s1 g1 q1 J w D hD => ?_⟩
  by_cases hz : calmAt env vs = true ∧ ps.length ≤ sizeLine
  · rw [if_pos hz] at q1
    obtain ⟨hc, hl⟩ := hz
    have hF1 : F1 D = none := g1.fnone hD
    have h00 : B.H0 D = none := g1.h0none hD
    have own1 : ∀ (i : Nat) (s : Slot), (killS vs env)[i]? = some s → isOwn s = true → (L2.wipe σ vs)[i]? ≠ some (some (.ref D)) := (g1.wipe vs).ownNone hD
    have nm : ¬ MtA (killS vs env) (L2.wipe σ vs) D := (g1.wipe vs).mtNone hD
    have hDH : H D = none := by
      cases z : H D with
      | none => rfl
      | some u => exact absurd hD (s1.there D (by rw [z]; simp))
    cases hr : lcL t c e (killS vs env) ps st1 with
    | stuck => rw [hr] at q1; exact q1.elim
    | exc cc ns qs st2 => rw [hr] at q1; exact q1.elim
    | ok ys stf =>
    rw [hr] at q1
    refine lc_it w (fun i H => ∃ F st acc avs rest, Good X.K B F H (killS vs env) st (L2.wipe σ vs) ∧ F D = none ∧ H D = some (.lst avs) ∧ RepL X.K F acc avs ∧ avs.length ≤ i ∧ Stp (killS vs env) (L2.wipe σ vs) F1 H1 F H ∧ lcL t c e (killS vs env) (ps.drop i) st = .ok rest stf ∧ acc ++ rest = ys) ?_ ?_ ?_ ?_
    · exact ⟨F1, st1, [], [], ys, (g1.wipe vs).alloc0 hD, hF1, upd_same, rfl, Nat.le_refl _, Stp.alloc0 hD, by rw [List.drop_zero]; exact hr, rfl⟩
    · rintro i H2 hi ⟨F2, st2, acc, avs, rest, g2, h1, h2, h3, h4, h5, h6, h7⟩
      exact h5.le.trans g2.le
    · rintro i x H2 H3 hi ⟨F2, st2, acc, avs, rest, g2, h1, h2, h3, h4, h5, h6, h7⟩ y
      obtain ⟨p, F3, hp, rp, nb⟩ := y F2 h5.le g2.le
      obtain ⟨g3, s3, t3⟩ := g2.newBy nb
      have hd : ps.drop i = p :: ps.drop (i + 1) := by
        obtain ⟨hl, e⟩ := List.getElem?_eq_some_iff.mp hp
        rw [List.drop_eq_getElem_cons hl, e]
      rw [hd] at h6
      unfold lcL at h6
      -- behind a step
      have go : ∀ {F' H' : Hp}, Stp (killS vs env) (L2.wipe σ vs) F2 H2 F' H' → H' D = some (.lst avs) ∧ F' D = none ∧ RepL X.K F' acc avs ∧ Stp (killS vs env) (L2.wipe σ vs) F1 H1 F' H' := fun {F' H'} s' => by
        refine ⟨s'.keep D _ h2 nm, ?_, RepL.mono s'.le _ _ h3, h5.trans s'⟩
        cases z : F' D with
        | none => rfl
        | some o =>
          rcases s'.frz D (by rw [z]; simp) with z | z
          · exact absurd h1 z
          · rw [h2] at z; cases z
      refine ⟨F3, killS vs env, st2, p, g3, rp, ?_⟩
      cases ht : t p (killS vs env) with
      | none => rw [ht] at h6; cases h6
      | some env2 =>
        rw [ht] at h6
        dsimp only at h6
        have ke := (hke _ _ _ ht).trans killS_kill
        have cm := hcm _ _ _ ht calmAt_kill
        intro σ2 g4 hw
        have hw := hw.trans wipe_wipe
        refine ⟨hw, F3, env2, st2, g4, ?_⟩
        have back : ∀ {F' H' : Hp} {st' : PV}, Good X.K B F' H' env2 st' σ2 → Good X.K B F' H' (killS vs env) st' (L2.wipe σ vs) := fun {F' H' st'} g' => by
          have := g'.wipe vs
          rw [ke, hw] at this
          exact this
        have stp : ∀ {F H F' H' : Hp}, Stp env2 σ2 F H F' H' → Stp (killS vs env) (L2.wipe σ vs) F H F' H' := fun {F H F' H'} s' => ⟨s'.le, fun a o e n => s'.keep a o e fun z => n (by
          have := (MtA.wiped cm).mp z
          rw [ke, hw] at this
          exact this), s'.frz, s'.there⟩
        cases hb : c env2 st2 with
        | stuck => rw [hb] at h6; cases h6
        | exc cc ns qs st3 => rw [hb] at h6; cases h6
        | ok b st3 =>
          rw [hb] at h6
          rw [ER.bind_ok] at h6
          intro F5 H5 s5 g5
          cases b with
          | false =>
            rw [if_neg Bool.false_ne_true] at h6
            rw [if_neg Bool.false_ne_true]
            obtain ⟨k1, k2, k3, k4⟩ := go (t3.trans (stp s5))
            exact ⟨F5, st3, acc, avs, rest, back g5, k2, k1, k3, Nat.le_succ_of_le h4, k4, h6, h7⟩
          | true =>
            rw [if_pos rfl] at h6
            rw [if_pos rfl]
            refine ⟨F5, env2, st3, g5, ?_⟩
            cases hy : e env2 st3 with
            | stuck => rw [hy] at h6; cases h6
            | exc cc ns qs st4 => rw [hy] at h6; cases h6
            | ok y st4 =>
              rw [hy] at h6
              rw [ER.bind_ok] at h6
              intro F7 H7 s7 g7 v rv
              cases hz : lcL t c e (killS vs env) (ps.drop (i + 1)) st4 with
              | stuck => rw [hz] at h6; cases h6
              | exc cc ns qs st4 => rw [hz] at h6; cases h6
              | ok zs st5 =>
                rw [hz] at h6
                rw [ER.bind_ok] at h6
                cases h6
                obtain ⟨k1, k2, k3, k4⟩ := go ((t3.trans (stp s5)).trans (stp s7))
                refine ⟨avs, k1, Nat.lt_of_le_of_lt h4 (Nat.lt_of_lt_of_le hi hl), F7, st4, acc ++ [y], avs ++ [v], zs, (back g7).writeN k1 k2 h00 own1, k2, upd_same, k3.append (RepL.one rv), by simp; exact h4, k4.writeN hD, hz, by rw [List.append_assoc]; exact h7⟩
    · rintro H2 ⟨F2, st2, acc, avs, rest, g2, h1, h2, h3, h4, h5, h6, h7⟩
      rw [List.drop_length] at h6
      cases h6
      rw [List.append_nil] at h7
      subst h7
      exact q1 F2 H2 (h5.unwipe hc) (g1.unwipe hc h5.le g2) D hDH h1 ⟨avs, h2, h3⟩
  · rw [if_neg hz] at q1; exact q1.elim
theorem qo_lc {tg iter elt : Expr} {ifs : List Expr} {scope : Scope} {own : List (Str × Nat)} {fi : AF} {t : GF} {c : TF} {e : EF} (hc : X.calm = true) (hN : X.N.Nodup) (hi : QI X B W tg iter fi) (ok : BlkOk X.N X.env.scope scope own)
    (hg : ∀ (s : Shared) (H : Hp) (C : Addr) (cl : List (Str × Addr)) (fp : List Addr), QGv (X.blk s H scope (compEnvC scope cl C X.env) fp) B (own.map (·.2)) tg t)
    (ht : ∀ (s : Shared) (H : Hp) (C : Addr) (cl : List (Str × Addr)) (fp : List Addr), QTs (X.blk s H scope (compEnvC scope cl C X.env) fp) B ifs c)
    (he : ∀ (s : Shared) (H : Hp) (C : Addr) (cl : List (Str × Addr)) (fp : List Addr), QE (X.blk s H scope (compEnvC scope cl C X.env) fp) B W0 elt e) (hs : ∀ x, foldedSetIterable iter X.env x = pure x := by intro _; rfl) : QO X B W (.ListComp elt [⟨tg, iter, ifs, 0⟩] scope pos) (lcE (own.map (·.2)) fi t c e) :=
  ⟨pe_imp (pe_lc hc hN hi.pi ok (fun s H C cl fp => (hg s H C cl fp).pg) (fun s H C cl fp => (ht s H C cl fp).pt) (fun s H C cl fp => (he s H C cl fp).pe) hs) fun σ H Q h => qlc_core (elt := elt) (iter := iter) (tg := tg) (ifs := ifs) (hg X.s_0 H 0 [] []).ke (hg X.s_0 H 0 [] []).cm h⟩
/-- name = [..] on one line -/
theorem qs_setLc {tg iter elt : Expr} {ifs : List Expr} {scope : Scope} {own : List (Str × Nat)} {fi : AF} {t : GF} {c : TF} {e : EF} {y : Str} {py spos : Pos} (i : Nat) (hc : X.calm = true) (hN : X.N.Nodup) (hi : QI X B W tg iter fi) (ok : BlkOk X.N X.env.scope scope own)
    (hg : ∀ (s : Shared) (H : Hp) (C : Addr) (cl : List (Str × Addr)) (fp : List Addr), QGv (X.blk s H scope (compEnvC scope cl C X.env) fp) B (own.map (·.2)) tg t)
    (ht : ∀ (s : Shared) (H : Hp) (C : Addr) (cl : List (Str × Addr)) (fp : List Addr), QTs (X.blk s H scope (compEnvC scope cl C X.env) fp) B ifs c)
    (he : ∀ (s : Shared) (H : Hp) (C : Addr) (cl : List (Str × Addr)) (fp : List Addr), QE (X.blk s H scope (compEnvC scope cl C X.env) fp) B W0 elt e) (hy : X.N[i]? = some y := by rfl) (hyl : X.env.scope.names.lookup y = some .local := by rfl) (hsw : swapsWith (.ListComp elt [⟨tg, iter, ifs, 0⟩] scope pos) (some (.Name y py)) spos.line X.env = pure true := by rfl) (hs : ∀ x, foldedSetIterable iter X.env x = pure x := by intro _; rfl) :
    QS X B W (.Assign [.Name y py] (.ListComp elt [⟨tg, iter, ifs, 0⟩] scope pos) spos) (setO i (lcE (own.map (·.2)) fi t c e)) :=
  ⟨ps_imp (ps_setLc hc hN hy hyl hsw hi.pi ok (fun s H C cl fp => (hg s H C cl fp).pg) (fun s H C cl fp => (ht s H C cl fp).pt) (fun s H C cl fp => (he s H C cl fp).pe) hs) fun D σ H ⟨F, env, st, g, q⟩ => qlc_core (elt := elt) (iter := iter) (tg := tg) (ifs := ifs) (hg X.s_0 H 0 [] []).ke (hg X.s_0 H 0 [] []).cm (Q := fun v H1 => gName i v σ H1 D.nx) ⟨F, env, st, g, setO_post g q⟩⟩
end
end KI

/-! part KI11 -/
set_option Elab.async false
set_option linter.all false
set_option maxRecDepth 100000
set_option maxHeartbeats 4000000
namespace KI
open PySem PySem.Spec PyProof.Rows L2

/-! ## displays -/
def lstE (fa : AF) : EF := fun env st => (fa env st).bind fun ps st1 => if ps.length ≤ sizeLine then .ok (.lst ps) st1 else .stuck
def tupE (fa : AF) : EF := fun env st => (fa env st).bind fun ps st1 => if ps.length ≤ sizeLine then .ok (.tup ps) st1 else .stuck
theorem CArgs.vals {K : Frag} {F H : Hp} {env : SEnv} {σ : Sg} : ∀ {ms : List Md} {ps : List PV} {vs : List V}, ms.all (fun m => match m with | .val => true | _ => false) = true → CArgs K F H env σ ms ps vs → RepL K F ps vs
  | [], _, _, _, ⟨h1, h2⟩ => by subst h1; exact h2
  | m :: ms, _, _, hm, ⟨p, ps, v, vs, h1, h2, h3, h4⟩ => by
    subst h1 h2
    rw [List.all_cons, Bool.and_eq_true] at hm
    cases m with
    | val => exact ⟨v, vs, rfl, h3, CArgs.vals hm.2 h4⟩
    | _ => cases hm.1
section
variable {X : Cx} {B : Bs} {W : WX} {e : Expr} {es : List Expr} {f : EF} {fa : AF} {ms : List Md} {pos : Pos}
theorem none_of {H H' : Hp} (h : ∀ a, H a ≠ none → H' a ≠ none) {a : Addr} (e : H' a = none) : H a = none := by
  cases z : H a with
  | none => rfl
  | some u => exact absurd e (h a (by rw [z]; simp))
theorem qo_lst (ha : QA X B W ms es fa) (hm : ms.all (fun m => match m with | .val => true | _ => false) = true := by rfl) : QO X B W (.List es pos) (lstE fa) :=
  ⟨pe_imp (pe_lst ha.pa) fun σ H Q ⟨F, env, st, g, q⟩ => ⟨F, env, st, g, q.bind.mono fun ps st1 F1 H1 s1 g1 q1 vs hvs => by
    have hr := hvs.vals hm
    by_cases hz : ps.length ≤ sizeLine
    · rw [if_pos hz] at q1
      exact ⟨by rw [← hr.length]; exact hz, fun p hp => q1 F1 _ (Stp.alloc0 hp) (g1.alloc0 hp) p (none_of s1.there hp) (g1.fnone hp) ⟨vs, upd_same, hr⟩⟩
    · rw [if_neg hz] at q1; exact q1.elim⟩⟩
theorem qe_tup {x1} (ha : QA X B W ms es fa) (hm : ms.all (fun m => match m with | .val => true | _ => false) = true := by rfl) : QE X B W (.Tuple es x1 pos) (tupE fa) :=
  ⟨pe_imp (pe_tup ha.pa) fun σ H Q ⟨F, env, st, g, q⟩ => ⟨F, env, st, g, q.bind.mono fun ps st1 F1 H1 s1 g1 q1 vs hvs => by
    have hr := hvs.vals hm
    by_cases hz : ps.length ≤ sizeLine
    · rw [if_pos hz] at q1
      exact ⟨by rw [← hr.length]; exact hz, fun p hp => q1 _ _ (Stp.alloc (g1.fnone hp) hp) (g1.alloc hp) (.ref p) ⟨p, vs, rfl, .inl (.inl upd_same), RepL.mono (Same.upd_new (g1.fnone hp)) _ _ hr⟩⟩
    · rw [if_neg hz] at q1; exact q1.elim⟩⟩
theorem qo_dct : QO X B W (.Dict [] [] pos) (fun _ st => .ok (.dct [] []) st) :=
  ⟨pe_imp pe_dnewK fun σ H Q ⟨F, env, st, g, q⟩ p hp => q F _ (Stp.alloc0 hp) (g.alloc0 hp) p hp (g.fnone hp) ⟨[], upd_same, rfl, rfl⟩⟩

/-! ## built-in functions -/
def RHs (K : Frag) (F H : Hp) : List PV → List V → Prop
  | [], vs => vs = []
  | p :: ps, vs => ∃ v r, vs = v :: r ∧ RH K F H p v ∧ RHs K F H ps r
theorem CArgs.rhs {K : Frag} {F H : Hp} {env : SEnv} {σ : Sg} : ∀ {ms : List Md} {ps : List PV} {vs : List V}, ms.any isMut = false → CArgs K F H env σ ms ps vs → RHs K F H ps vs
  | [], _, _, _, ⟨h1, h2⟩ => by subst h1; exact h2
  | m :: ms, _, _, hm, ⟨p, ps, v, vs, h1, h2, h3, h4⟩ => by
    subst h1 h2
    rw [List.any_cons, Bool.or_eq_false_iff] at hm
    refine ⟨v, vs, rfl, ?_, CArgs.rhs hm.2 h4⟩
    cases m with
    | val => exact .inl h3
    | bor => exact h3.rh
    | mu => cases hm.1
def rBi (K : Frag) (g : List PV → Option PV) : List V → Hp → VK → Prop := fun xs H Q => ∃ F ps, Same F H ∧ RHs K F H ps xs ∧ ∃ z, g ps = some z ∧ ∀ u F' H', NewBy F H F' H' → Rep K F' z u → Q u H'
def rBiO (K : Frag) (g : List PV → Option PV) : List V → Hp → VK → Prop := fun xs H Q => ∃ F ps, Same F H ∧ RHs K F H ps xs ∧ ∃ z, g ps = some z ∧ ∀ a o, H a = none → Own K F (upd H a o) a z → Q (.ref a) (upd H a o)
theorem callr_imp {f : Value} {r r' : List V → Hp → VK → Prop} (h : CallR X f r) (k : ∀ xs H Q, r' xs H Q → r xs H Q) : CallR X f r' := fun pins s σ H xs us Q I rx q => h pins s σ H xs us Q I rx (k xs H Q q)
def biE (g : List PV → Option PV) (fa : AF) : EF := fun env st => (fa env st).bind fun ps st1 => match g ps with
  | some z => .ok z st1
  | none => .stuck
theorem bi_post {g : List PV → Option PV} {σ : Sg} {H : Hp} {Q : VK} (hm : ms.any isMut = false) (h : tE X.K B W (biE g fa) σ H Q) : tA X.K B W ms fa σ H fun vs H1 => rBi X.K g vs H1 Q := by
  obtain ⟨F, env, st, g0, q⟩ := h
  refine ⟨F, env, st, g0, q.bind.mono fun ps st1 F1 H1 s1 g1 q1 vs hvs => ?_⟩
  cases hz : g ps with
  | none => rw [hz] at q1; exact q1.elim
  | some z =>
    rw [hz] at q1
    exact ⟨F1, ps, g1.le, hvs.rhs hm, z, hz, fun u F2 H2 nb hu => by
      obtain ⟨g2, _, s2⟩ := g1.newBy nb
      exact q1 F2 H2 s2 g2 u hu⟩
theorem bi_postO {g : List PV → Option PV} {σ : Sg} {H : Hp} {Q : VK} (hm : ms.any isMut = false) (h : tO X.K B W (biE g fa) σ H Q) : tA X.K B W ms fa σ H fun vs H1 => rBiO X.K g vs H1 Q := by
  obtain ⟨F, env, st, g0, q⟩ := h
  refine ⟨F, env, st, g0, q.bind.mono fun ps st1 F1 H1 s1 g1 q1 vs hvs => ?_⟩
  cases hz : g ps with
  | none => rw [hz] at q1; exact q1.elim
  | some z =>
    rw [hz] at q1
    exact ⟨F1, ps, g1.le, hvs.rhs hm, z, hz, fun a o hn ho => q1 F1 _ (Stp.alloc0 hn) (g1.alloc0 hn) a (none_of s1.there hn) (g1.fnone hn) ho⟩
variable {x : Str} {p : Pos} {g : List PV → Option PV}
theorem qe_bi {id : String} (hc : CallR X (.builtin id) (rBi X.K g)) (ha : QA X B W ms (e :: es) fa) (hm : X.mg x = none) (hv : bootBuiltins x = some (.builtin id) := by rfl) (hms : ms.any isMut = false := by rfl) (hg : Gl X x := by rfl) (hn : x ≠ "__name__" := by decide) (hdb : (x == ("__debug__" : Str)) = false := by decide)
    (he : starEach (e :: es) X.env = (false, eval e X.env) :: starEach es X.env := by rfl) (hpl : (backTo pos (starEach es X.env)).any (·.1) = false := by rfl) : QE X B W (.Call (.Name x p) (e :: es) [] pos) (biE g fa) :=
  ⟨pe_imp (pe_callB hc hg hm hv ha.pa hn hdb he hpl) fun σ H Q h => bi_post hms h⟩
theorem qo_bi {id : String} (hc : CallR X (.builtin id) (rBiO X.K g)) (ha : QA X B W ms (e :: es) fa) (hm : X.mg x = none) (hv : bootBuiltins x = some (.builtin id) := by rfl) (hms : ms.any isMut = false := by rfl) (hg : Gl X x := by rfl) (hn : x ≠ "__name__" := by decide) (hdb : (x == ("__debug__" : Str)) = false := by decide)
    (he : starEach (e :: es) X.env = (false, eval e X.env) :: starEach es X.env := by rfl) (hpl : (backTo pos (starEach es X.env)).any (·.1) = false := by rfl) : QO X B W (.Call (.Name x p) (e :: es) [] pos) (biE g fa) :=
  ⟨pe_imp (pe_callB hc hg hm hv ha.pa hn hdb he hpl) fun σ H Q h => bi_postO hms h⟩
theorem qe_ty {T : String} (hc : CallR X (.type T) (rBi X.K g)) (ha : QA X B W ms (e :: es) fa) (hm : X.mg x = none) (hv : bootBuiltins x = some (.type T) := by rfl) (hms : ms.any isMut = false := by rfl) (hg : Gl X x := by rfl) (hn : x ≠ "__name__" := by decide) (hdb : (x == ("__debug__" : Str)) = false := by decide)
    (he : starEach (e :: es) X.env = (false, eval e X.env) :: starEach es X.env := by rfl) (hpl : (backTo pos (starEach es X.env)).any (·.1) = false := by rfl) : QE X B W (.Call (.Name x p) (e :: es) [] pos) (biE g fa) :=
  ⟨pe_imp (pe_callTy hc hg hm hv ha.pa hn hdb he hpl) fun σ H Q h => bi_post hms h⟩
theorem qo_ty {T : String} (hc : CallR X (.type T) (rBiO X.K g)) (ha : QA X B W ms (e :: es) fa) (hm : X.mg x = none) (hv : bootBuiltins x = some (.type T) := by rfl) (hms : ms.any isMut = false := by rfl) (hg : Gl X x := by rfl) (hn : x ≠ "__name__" := by decide) (hdb : (x == ("__debug__" : Str)) = false := by decide)
    (he : starEach (e :: es) X.env = (false, eval e X.env) :: starEach es X.env := by rfl) (hpl : (backTo pos (starEach es X.env)).any (·.1) = false := by rfl) : QO X B W (.Call (.Name x p) (e :: es) [] pos) (biE g fa) :=
  ⟨pe_imp (pe_callTy hc hg hm hv ha.pa hn hdb he hpl) fun σ H Q h => bi_postO hms h⟩
end

/-! ### their pure readings -/
def lenP : List PV → Option PV
  | [.lst ps] => some (.int ps.length)
  | [.tup ps] => some (.int ps.length)
  | [.str x] => if x.length ≤ sizeLine then some (.int x.length) else none
  | [.dct ks _] => some (.int ks.length)
  | [.scr ns] => some (.int ns.length)
  | _ => none
def kP : Key → PV
  | .inl i => .int i
  | .inr s => .str s
def listP : List PV → Option PV
  | [.lst ps] => some (.lst ps)
  | [.tup ps] => some (.lst ps)
  | [.scr ns] => some (.lst (ns.map .int))
  | [.dct ks _] => some (.lst (ks.map kP))
  | _ => none
def tupleP : List PV → Option PV
  | [.lst ps] => some (.tup ps)
  | [.tup ps] => some (.tup ps)
  | [.scr ns] => some (.tup (ns.map .int))
  | _ => none
def intTyP : List PV → Option PV
  | [.int i] => some (.int i)
  | [.bl k] => some (.int (if k then 1 else 0))
  | _ => none
def minP : List PV → Option PV
  | [.int i, .int j] => some (.int (if j < i then j else i))
  | _ => none
def maxP : List PV → Option PV
  | [.int i, .int j] => some (.int (if j > i then j else i))
  | _ => none
def insI (a : Int) : List Int → List Int
  | [] => [a]
  | b :: r => if a ≤ b then a :: b :: r else b :: insI a r
def sortI : List Int → List Int
  | [] => []
  | a :: r => insI a (sortI r)
theorem insI_perm (a : Int) : ∀ l, (insI a l).Perm (a :: l)
  | [] => List.Perm.refl _
  | b :: r => by
    unfold insI
    split
    · exact List.Perm.refl _
    · exact ((insI_perm a r).cons b).trans (List.Perm.swap a b r)
theorem sortI_perm : ∀ l, (sortI l).Perm l
  | [] => List.Perm.refl _
  | a :: r => (insI_perm a _).trans ((sortI_perm r).cons a)
theorem insI_pw (a : Int) : ∀ l : List Int, l.Pairwise (· ≤ ·) → (insI a l).Pairwise (· ≤ ·)
  | [], _ => by unfold insI; simp
  | b :: r, h => by
    unfold insI
    rw [List.pairwise_cons] at h
    split
    · rename_i hab
      rw [List.pairwise_cons]
      refine ⟨fun x hx => ?_, List.pairwise_cons.mpr h⟩
      rcases List.mem_cons.mp hx with rfl | hx
      · exact hab
      · exact Int.le_trans hab (h.1 x hx)
    · rename_i hab
      rw [List.pairwise_cons]
      refine ⟨fun x hx => ?_, insI_pw a r h.2⟩
      rcases List.mem_cons.mp ((insI_perm a r).mem_iff.mp hx) with rfl | hx
      · omega
      · exact h.1 x hx
theorem sortI_pw : ∀ l : List Int, (sortI l).Pairwise (· ≤ ·)
  | [] => by unfold sortI; simp
  | a :: r => insI_pw a _ (sortI_pw r)
theorem pw_unique : ∀ (l m : List Int), l.Perm m → l.Pairwise (· ≤ ·) → m.Pairwise (· ≤ ·) → l = m
  | [], m, h, _, _ => (List.perm_nil.mp h.symm).symm
  | a :: l, m, h, hl, hm => by
    cases m with
    | nil => exact absurd (List.perm_nil.mp h) (by simp)
    | cons b m =>
      rw [List.pairwise_cons] at hl hm
      have e : a = b := by
        have h1 : a ∈ b :: m := h.mem_iff.mp List.mem_cons_self
        have h2 : b ∈ a :: l := h.mem_iff.mpr List.mem_cons_self
        rcases List.mem_cons.mp h1 with h1 | h1
        · exact h1
        · rcases List.mem_cons.mp h2 with h2 | h2
          · exact h2.symm
          · have := hl.1 b h2; have := hm.1 a h1; omega
      subst e
      rw [pw_unique l m ((List.perm_cons a).mp h) hl.2 hm.2]
def intsP : List PV → Option (List Int)
  | [] => some []
  | .int i :: ps => (intsP ps).map (i :: ·)
  | _ => none
theorem intsP_eq : ∀ {ps : List PV} {ns : List Int}, intsP ps = some ns → ps = ns.map .int
  | [], ns, h => by cases h; rfl
  | .int i :: ps, ns, h => by
    unfold intsP at h
    cases hp : intsP ps with
    | none => rw [hp] at h; cases h
    | some m => rw [hp] at h; cases h; rw [intsP_eq hp]; rfl
  | .non :: _, _, h => nomatch h
  | .bl _ :: _, _, h => nomatch h
  | .str _ :: _, _, h => nomatch h
  | .lst _ :: _, _, h => nomatch h
  | .tup _ :: _, _, h => nomatch h
  | .dct _ _ :: _, _, h => nomatch h
  | .ins _ _ _ :: _, _, h => nomatch h
  | .scr _ :: _, _, h => nomatch h
def sortedP : List PV → Option PV
  | [.lst ps] => (intsP ps).map fun ns => .lst ((sortI ns).map .int)
  | _ => none
section
variable {X : Cx}
theorem zipk_map {ks : List Key} {vs : List V} (h : ks.length = vs.length) : (ks.zip vs).map (fun kv => kV kv.1) = ks.map kV := by
  induction ks generalizing vs with
  | nil => rfl
  | cons k ks ih =>
    cases vs with
    | nil => cases h
    | cons v vs => rw [List.zip_cons_cons, List.map_cons, List.map_cons, ih (by simpa using h)]
theorem RepL.keys {K : Frag} {F : Hp} : ∀ {ks : List Key}, RepL K F (ks.map kP) (ks.map kV)
  | [] => rfl
  | k :: ks => ⟨_, _, rfl, by cases k <;> exact rfl, RepL.keys⟩
theorem rh1 {K : Frag} {F H : Hp} {p : PV} {xs : List V} (h : RHs K F H [p] xs) : ∃ v, xs = [v] ∧ RH K F H p v := by
  obtain ⟨v, r, rfl, h1, h2⟩ := h
  cases (show r = [] from h2)
  exact ⟨v, rfl, h1⟩
theorem rh2 {K : Frag} {F H : Hp} {p q : PV} {xs : List V} (h : RHs K F H [p, q] xs) : ∃ v w, xs = [v, w] ∧ RH K F H p v ∧ RH K F H q w := by
  obtain ⟨v, r, rfl, h1, h2⟩ := h
  obtain ⟨w, rfl, h3⟩ := rh1 h2
  exact ⟨v, w, rfl, h1, h3⟩
theorem cr_len : CallR X (.builtin "len") (rBi X.K lenP) := callr_imp (CallR.or call_len call_lenD) fun xs H Q ⟨F, ps, le, hr, z, hz, q⟩ => by
  unfold lenP at hz
  split at hz
  · obtain ⟨v, rfl, h⟩ := rh1 hr
    obtain ⟨a, vs, rfl, h1, h2⟩ := h.lst le
    cases hz
    exact .inl ⟨_, vs.length, rfl, .inl ⟨vs, .inl (.inl h1), rfl⟩, q _ F H (.inl ⟨rfl, rfl⟩) (by rw [h2.length]; exact rfl)⟩
  · obtain ⟨v, rfl, h⟩ := rh1 hr
    obtain ⟨a, vs, rfl, h1, h2⟩ := h.tup le
    cases hz
    exact .inl ⟨_, vs.length, rfl, .inr ⟨vs, h1, rfl⟩, q _ F H (.inl ⟨rfl, rfl⟩) (by rw [h2.length]; exact rfl)⟩
  · obtain ⟨v, rfl, h⟩ := rh1 hr
    obtain rfl := h.str
    split at hz
    · rename_i hl
      cases hz
      exact .inl ⟨_, _, rfl, ⟨hl, rfl⟩, q _ F H (.inl ⟨rfl, rfl⟩) rfl⟩
    · cases hz
  · obtain ⟨v, rfl, h⟩ := rh1 hr
    obtain ⟨a, vs, rfl, h1, h2, h3⟩ := h.dct le
    cases hz
    exact .inr ⟨a, _, rfl, h1, q _ F H (.inl ⟨rfl, rfl⟩) (by rw [List.length_zip, ← h2, Nat.min_self]; exact rfl)⟩
  · obtain ⟨v, rfl, h⟩ := rh1 hr
    obtain ⟨a, rfl, h1⟩ := h.scr le
    cases hz
    exact .inl ⟨_, _, rfl, .inl ⟨_, h1, rfl⟩, q _ F H (.inl ⟨rfl, rfl⟩) (by rw [List.length_map]; exact rfl)⟩
  · cases hz
theorem cr_list (hc : X.calm = true) : CallR X (.type "list") (rBiO X.K listP) := callr_imp (CallR.or call_list_of (call_listD hc)) fun xs H Q ⟨F, ps, le, hr, z, hz, q⟩ => by
  unfold listP at hz
  split at hz
  · obtain ⟨v, rfl, h⟩ := rh1 hr
    obtain ⟨a, vs, rfl, h1, h2⟩ := h.lst le
    cases hz
    exact .inl ⟨a, vs, rfl, .inl (.inl (.inl h1)), fun l hl => q l _ hl ⟨vs, upd_same, h2⟩⟩
  · obtain ⟨v, rfl, h⟩ := rh1 hr
    obtain ⟨a, vs, rfl, h1, h2⟩ := h.tup le
    cases hz
    exact .inl ⟨a, vs, rfl, .inr h1, fun l hl => q l _ hl ⟨vs, upd_same, h2⟩⟩
  · obtain ⟨v, rfl, h⟩ := rh1 hr
    obtain ⟨a, rfl, h1⟩ := h.scr le
    cases hz
    exact .inl ⟨a, _, rfl, .inl h1, fun l hl => q l _ hl ⟨_, upd_same, RepL.of_ints⟩⟩
  · obtain ⟨v, rfl, h⟩ := rh1 hr
    obtain ⟨a, vs, rfl, h1, h2, h3⟩ := h.dct le
    cases hz
    exact .inr ⟨a, _, rfl, .inl h1, fun l hl => q l _ hl ⟨_, upd_same, by rw [zipk_map h2]; exact RepL.keys⟩⟩
  · cases hz
theorem cr_tuple : CallR X (.type "tuple") (rBi X.K tupleP) := callr_imp call_tuple_of fun xs H Q ⟨F, ps, le, hr, z, hz, q⟩ => by
  have fn : ∀ {l : Addr}, H l = none → F l = none := fun {l} h => by
    cases e : F l with
    | none => rfl
    | some o => rw [le l o e] at h; cases h
  unfold tupleP at hz
  split at hz
  · obtain ⟨v, rfl, h⟩ := rh1 hr
    obtain ⟨a, vs, rfl, h1, h2⟩ := h.lst le
    cases hz
    exact ⟨a, vs, rfl, .inl ⟨.inl (.inl h1), fun l hl => q _ _ _ (.inr ⟨l, _, hl, rfl, rfl⟩) ⟨l, vs, rfl, .inl (.inl upd_same), RepL.mono (Same.upd_new (fn hl)) _ _ h2⟩⟩⟩
  · obtain ⟨v, rfl, h⟩ := rh1 hr
    have hF := h.tupF
    obtain ⟨a, vs, rfl, h1, h2⟩ := h.tup le
    cases hz
    exact ⟨a, vs, rfl, .inr ⟨h1, q _ F H (.inl ⟨rfl, rfl⟩) hF⟩⟩
  · obtain ⟨v, rfl, h⟩ := rh1 hr
    obtain ⟨a, rfl, h1⟩ := h.scr le
    cases hz
    exact ⟨a, _, rfl, .inl ⟨h1, fun l hl => q _ _ _ (.inr ⟨l, _, hl, rfl, rfl⟩) ⟨l, _, rfl, .inl (.inl upd_same), RepL.of_ints⟩⟩⟩
  · cases hz
theorem cr_int : CallR X (.type "int") (rBi X.K intTyP) := callr_imp call_int1 fun xs H Q ⟨F, ps, le, hr, z, hz, q⟩ => by
  unfold intTyP at hz
  split at hz
  · obtain ⟨v, rfl, h⟩ := rh1 hr
    obtain rfl := h.int
    cases hz
    exact .inl ⟨_, rfl, q _ F H (.inl ⟨rfl, rfl⟩) rfl⟩
  · obtain ⟨v, rfl, h⟩ := rh1 hr
    obtain rfl := h.bl
    cases hz
    exact .inr ⟨_, rfl, q _ F H (.inl ⟨rfl, rfl⟩) rfl⟩
  · cases hz
theorem cr_min2 (hc : X.calm = true) : CallR X (.builtin "min") (rBi X.K minP) := callr_imp (call_min2 hc) fun xs H Q ⟨F, ps, le, hr, z, hz, q⟩ => by
  unfold minP at hz
  split at hz
  · obtain ⟨v, w, rfl, h1, h2⟩ := rh2 hr
    obtain rfl := h1.int
    obtain rfl := h2.int
    cases hz
    exact ⟨_, _, rfl, q _ F H (.inl ⟨rfl, rfl⟩) rfl⟩
  · cases hz
theorem cr_max2 (hc : X.calm = true) : CallR X (.builtin "max") (rBi X.K maxP) := callr_imp (call_max2 hc) fun xs H Q ⟨F, ps, le, hr, z, hz, q⟩ => by
  unfold maxP at hz
  split at hz
  · obtain ⟨v, w, rfl, h1, h2⟩ := rh2 hr
    obtain rfl := h1.int
    obtain rfl := h2.int
    cases hz
    exact ⟨_, _, rfl, q _ F H (.inl ⟨rfl, rfl⟩) rfl⟩
  · cases hz
theorem cr_sortI : CallR X (.builtin "sorted") (rBiO X.K sortedP) := callr_imp cr_sortedI fun xs H Q ⟨F, ps, le, hr, z, hz, q⟩ => by
  unfold sortedP at hz
  split at hz
  · rename_i ps
    obtain ⟨v, rfl, h⟩ := rh1 hr
    obtain ⟨a, vs, rfl, h1, h2⟩ := h.lst le
    cases hi : intsP ps with
    | none => rw [hi] at hz; cases hz
    | some ns =>
      rw [hi] at hz; cases hz
      rw [intsP_eq hi] at h2
      rw [h2.ints] at h1
      refine ⟨a, ns, rfl, .inl (.inl h1), fun ns' p hp hs hn => ?_⟩
      rw [pw_unique ns' (sortI ns) (hp.trans (sortI_perm ns).symm) hs (sortI_pw ns)]
      exact q p _ hn ⟨_, upd_same, RepL.of_ints⟩
  · cases hz
end
end KI

/-! part KI12 -/
set_option Elab.async false
set_option linter.all false
set_option maxRecDepth 100000
set_option maxHeartbeats 4000000
namespace KI
open PySem PySem.Spec PyProof.Rows L2
open Sem (wp)
open AutoSeq1 (wpAny_loadPart')

/-! ## enumerate(tuple) -/
section
variable {prog : Program} {w : World} {A : Around} {E : Value → Shared → Prop} {s : Shared}
theorem wpAny_nextOf_tup_item {it l : Addr} {i : Nat} {items} {x : Value} {Q : Value → Shared → Prop} (hit : s.heap.IsTupleIter it l i)
    (hl : s.heap.IsTuple l items) (hx : items[i]? = some x)
    (hQ : ∀ h', h'.IsTupleIter it l (i + 1) → Heap.SameBut it s.heap h' → Q x { s with heap := h' }) :
    wpAny (model prog w) A (Builtin.SmallTypes.nextOf (.ref it)) Q E s := by
  obtain ⟨o, ho, hc, hd⟩ := id hit
  obtain ⟨ol, hol, _, nl, hdl⟩ := hl
  unfold Builtin.SmallTypes.nextOf
  refine wpAny_bind (wpAny_callSpecial?_slot (name := Str.ofString "__next__") hit.typeIs F.slot_tuple_iterator_next
    (wpAny_call_entry F.slot_tuple_iterator_next hit.typeIs F.entry_tuple_iterator_next ?_ (F.args_tuple_iterator_next_1 _)))
  show wpAny _ _ (field (.ref it) 0 >>= _) _ _ s
  refine wpAny_bind (wpAny_field ho hd (x := .ref l) rfl ?_)
  show wpAny _ _ (if (Value.ref l == Value.none) = true then _ else _) _ _ s
  rw [if_neg (show ¬ ((Value.ref l == Value.none) = true) from Bool.false_ne_true)]
  show wpAny _ _ (field (.ref it) 1 >>= _) _ _ s
  refine wpAny_bind (wpAny_field ho hd (x := .int i 0) rfl ?_)
  show wpAny _ _ (seqItems? (.ref l) >>= _) _ _ s
  refine wpAny_bind (wpAny_seqItems hol hdl ?_)
  simp only [Int.toNat_natCast, hx]
  refine wpAny_bind (wpAny_setField ho hd (by simp) (wpAny_pure ⟨x, rfl, wpAny_pure (hQ _ ?_ (Heap.SameBut.update ..))⟩))
  exact ⟨_, Heap.get?_update_self _ ho (Obj.isFreed_of_fields (Obj.data_mapFields hd _)), (Obj.cls_mapFields ..).trans hc, by
    rw [Obj.data_mapFields hd]; simp [rawInt]⟩

theorem wpAny_nextOf_tup_end {it l : Addr} {i : Nat} {items} {Q : Value → Shared → Prop} (hh : A.handled = none)
    (hit : s.heap.IsTupleIter it l i) (hl : s.heap.IsTuple l items) (hx : items[i]? = none)
    (hE : ∀ h' e, Heap.ExtBut it s.heap h' → (∃ o, h'.get? e = some o ∧ o.cls = .type "StopIteration") → E (.ref e) { s with heap := h' }) :
    wpAny (model prog w) A (Builtin.SmallTypes.nextOf (.ref it)) Q E s := by
  obtain ⟨o, ho, hc, hd⟩ := id hit
  obtain ⟨ol, hol, _, nl, hdl⟩ := hl
  unfold Builtin.SmallTypes.nextOf
  refine wpAny_bind (wpAny_callSpecial?_slot (name := Str.ofString "__next__") hit.typeIs F.slot_tuple_iterator_next
    (wpAny_call_entry F.slot_tuple_iterator_next hit.typeIs F.entry_tuple_iterator_next ?_ (F.args_tuple_iterator_next_1 _)))
  show wpAny _ _ (field (.ref it) 0 >>= _) _ _ s
  refine wpAny_bind (wpAny_field ho hd (x := .ref l) rfl ?_)
  show wpAny _ _ (if (Value.ref l == Value.none) = true then _ else _) _ _ s
  rw [if_neg (show ¬ ((Value.ref l == Value.none) = true) from Bool.false_ne_true)]
  show wpAny _ _ (field (.ref it) 1 >>= _) _ _ s
  refine wpAny_bind (wpAny_field ho hd (x := .int i 0) rfl ?_)
  show wpAny _ _ (seqItems? (.ref l) >>= _) _ _ s
  refine wpAny_bind (wpAny_seqItems hol hdl ?_)
  simp only [Int.toNat_natCast, hx]
  refine wpAny_bind (wpAny_rule (wpAny_bind (wpAny_setField ho hd (by simp) ?_)))
  show wpAny _ _ (newExc (.type "StopIteration") [] >>= _) _ _ _
  refine wpAny_bind ?_
  simp only [newExc, newTuple]
  refine wpAny_bind (wpAny_newObj_type ?_ (by size_fits))
  refine wpAny_bind (m := firstArgMember _ _) (wpAny_of_eq (a := Value.none) (by first | rfl | (simp only [firstArgMember]; rfl)) ?_)
  refine wpAny_newObj_type ?_ (by size_fits)
  simp only [raiseNew]
  refine wpAny_bind (wpAny_handled ?_)
  first | rw [show A.in1.handled = none from hh] | rw [hh]
  refine wpAny_bind (wpAny_pure (wpAny_throw ?_))
  exact hE _ _ (((Heap.SameBut.update ..).extBut.push _).push _) ⟨_, Heap.get?_push_size _ rfl, rfl⟩

end
theorem Draws.tup {prog : Program} {w : World} {A : Around} (hh : A.handled = none) (it l : Addr) (hne : l ≠ it) (items : Array Value) :
    Draws prog w A it [it, l] items.size (fun i v => items[i]? = some v) (fun i h => h.IsTupleIter it l i ∧ h.IsTuple l items) where
  live := fun _ _ st => let ⟨o, ho, _⟩ := st.1; ⟨o, ho⟩
  frame := fun _ _ _ st hk => ⟨st.1.at fun o e => hk it (by simp) o e, st.2.at fun o e => hk l (by simp) o e⟩
  item := fun i s Q E hi st hQ => by
    refine wpAny_nextOf_tup_item st.1 st.2 (x := items[i]) (by simp [hi]) fun h' hit' hs' => ?_
    exact hQ _ h' s.toks (by simp [hi]) ⟨hit', st.2.extBut hs'.extBut hne⟩ hs'
  done := fun s Q E st hE => wpAny_nextOf_tup_end hh st.1 st.2 (by simp) hE
theorem meets_enumerate_newTup (l : Addr) (items : Array Value) (n : Nat) (dct : Option Addr) (sl : Array (Option Value)) :
    Meets (Builtin.«enumerate.__new__» ⟨[.type "enumerate", .ref l], []⟩) (fun _ R s => s.heap.get? l = some { cls := .type "tuple", dict := dct, data := .seq items n, slots := sl } ∧
      R (.ok (.ret (.ref (s.heap.push { cls := .type "tuple_iterator", data := .fields #[.ref l, .int 0 0] }).objs.size)))
        { s with heap := (s.heap.push { cls := .type "tuple_iterator", data := .fields #[.ref l, .int 0 0] }).push { cls := .type "enumerate", data := .fields #[.none, .bool false, .ref s.heap.objs.size, rawInt 0, .none, .none] } }) :=
  .of_wp fun prog w A R s h => by
    obtain ⟨hp, g, d, tk, os⟩ := s; obtain ⟨hl, h⟩ := h
    have hsub := sub_enumerate
    have hL : Heap.IsTuple (Shared.heap ⟨hp, g, d, tk, os⟩) l items := ⟨_, hl, rfl, n, rfl⟩
    wp_walk using wpAny_loadPart' hl
    refine wpAny_stack_any fun st => wpAny_pure ?_
    split
    · rename_i c _ _ _ _ _
      cases (c == Value.type "enumerate")
      · wp_walk using wpAny_loadPart' hl, wpAny_pyIter_tuple hL
        exact ⟨_, rfl, h⟩
      · wp_walk using wpAny_loadPart' hl, wpAny_pyIter_tuple hL
        exact ⟨_, rfl, h⟩
    · wp_walk using wpAny_loadPart' hl, wpAny_pyIter_tuple hL
      exact ⟨_, rfl, h⟩

section
variable {prog : Program} {w : World} {A : Around} {E : Value → Shared → Prop} {s : Shared}
theorem call_enumerate_tup {l : Addr} {items : Array Value} {Q : Value → Shared → Prop} (hL : s.heap.IsTuple l items)
    (h : ∀ h', IsEnum h' (s.heap.objs.size + 1) s.heap.objs.size 0 .none → h'.IsTupleIter s.heap.objs.size l 0 → h'.objs.size = s.heap.objs.size + 2 →
      (∀ b o, s.heap.get? b = some o → h'.get? b = some o) → Q (.ref (s.heap.objs.size + 1)) { s with heap := h' }) :
    wpAny (model prog w) A (call (.type "enumerate") [.ref l]) Q E s := by
  obtain ⟨⟨c, dct, dt, sl⟩, hl, hc, n, hd⟩ := hL
  replace hc : c = .type "tuple" := hc
  replace hd : dt = .seq items n := hd
  subst hc hd
  refine callType_new F.called_enumerate (by decide) (F.typeCall_enumerate_1 _) (F.newCall_enumerate_1 _) (fun obj => F.args_object_init_2 obj _) F.entry_enumerate_new
    (meets_enumerate_newTup l items n dct sl) ⟨hl, ?_⟩
  have hz : (s.heap.push { cls := .type "tuple_iterator", data := .fields #[.ref l, .int 0 0] }).objs.size = s.heap.objs.size + 1 := Heap.size_push ..
  show _ ∧ _
  rw [hz]
  have he : IsEnum ((s.heap.push { cls := .type "tuple_iterator", data := .fields #[.ref l, .int 0 0] }).push
      { cls := .type "enumerate", data := .fields #[.none, .bool false, .ref s.heap.objs.size, rawInt 0, .none, .none] }) (s.heap.objs.size + 1) s.heap.objs.size 0 .none := by
    have := Heap.get?_push_size (s.heap.push { cls := .type "tuple_iterator", data := .fields #[.ref l, .int 0 0] })
      (o := { cls := .type "enumerate", data := .fields #[.none, .bool false, .ref s.heap.objs.size, rawInt 0, .none, .none] }) rfl
    rw [hz] at this; exact this
  refine ⟨⟨_, he, rfl⟩, h _ he ⟨_, Heap.get?_push_of_some _ (Heap.get?_push_size _ rfl), rfl, rfl⟩ (by rw [Heap.size_push, hz]) fun b o x => Heap.get?_push_of_some _ (Heap.get?_push_of_some _ x)⟩

end
def IteT (K : PySem.W.Frag) (a : Addr) : It :=
  ⟨fun i H => ∃ (xs : List V) (x : V), SqT K H a xs ∧ xs[i]? = some x, fun i H v H' => ∃ T x, v = .ref T ∧ H T = none ∧ H' = upd H T (.tup [.int (i : Nat), x]) ∧ ∀ xs, SqT K H a xs → xs[i]? = some x, fun i H => ∃ xs : List V, SqT K H a xs ∧ xs.length = i⟩
theorem turn_enumT {P : Program} {w : World} {K : PySem.W.Frag} {elts : List Expr} {kk : Nat} {tpos : Pos} (a e it : Addr) :
    Turn P w K (.Tuple elts kk tpos) (IteT K a) [e, it] e (fun i h => (∃ old, IsEnum h e it ((i : Nat) : Int) old) ∧ h.IsTupleIter it a i ∧ e ≠ it) where
  mem := by simp
  obj := fun i h st b hb => by
    obtain ⟨⟨old, he⟩, ⟨o, ho, hc, hd⟩, _⟩ := st
    have e' : b = e ∨ b = it := by simpa using hb
    rcases e' with z | z
    · rw [z]; exact ⟨_, he, fun v q => nomatch q⟩
    · rw [z]; exact ⟨o, ho, fun v q => by rw [hd] at q; cases q⟩
  keep := fun i h h' st k => let ⟨⟨old, he⟩, hi, hne⟩ := st; ⟨⟨old, k e (by simp) _ he⟩, hi.at fun o q => k it (by simp) o q, hne⟩
  item := by
    intro X hP hw hK hc i pins s σ H E I hf st hg
    subst hP hw hK
    obtain ⟨⟨old, he⟩, hit, hne⟩ := st
    obtain ⟨xs, x, hq, hx⟩ := hg
    obtain ⟨its, rv, p, hz⟩ := I.tuple hq
    obtain ⟨u, hu, ru⟩ := rv.get hx
    have hel : e < s.heap.objs.size := Heap.lt_size he
    have hil : it < s.heap.objs.size := by obtain ⟨_, q, _⟩ := hit; exact Heap.lt_size q
    have ai : a ≠ it := fun z => by
      obtain ⟨o, h1, h2, _⟩ := hit
      obtain ⟨o', h3, h4, _⟩ := p
      rw [z, h1] at h3; cases h3; rw [h2] at h4; exact absurd (Value.type.inj h4) (by decide)
    have ae : e ∉ [it, a] := fun z => by
      rcases List.mem_cons.mp z with z | z
      · exact hne z
      · obtain ⟨o', h3, h4, _⟩ := p
        rw [← List.mem_singleton.mp z, he] at h3; cases h3; exact absurd (Value.type.inj h4) (by decide)
    have hlt : i < its.toArray.size := by
      obtain ⟨q, _⟩ := List.getElem?_eq_some_iff.mp hu
      simpa using q
    refine wpAny_pyNext_enum_itemD (n := its.toArray.size) (Draws.tup (A := X.A.in1) (I.ok.hd hc) it a ai its.toArray) he ⟨hit, p⟩ hlt hne ae fun u' h' tk hu' ho ⟨hit', _⟩ hT hsz hk => ?_
    obtain rfl : u' = u := by
      have h1 : its[i]? = some u' := by simpa using hu'
      rw [hu] at h1; cases h1; rfl
    refine ⟨_, rfl, wpAny_letOwnedTupleGo_enum (s := { s with heap := h', toks := tk + 1 }) ho fun h'' he' sb => ?_⟩
    have hT2 : h''.get? s.heap.objs.size = some { cls := .type "tuple", data := .seq #[.int i tk, u'] } := (sb.2 _ (Nat.ne_of_gt hel)).trans hT
    have new : ObjOk X.prog X.w (upd H s.heap.objs.size (.tup [.int (i : Nat), x])) h'' s.heap.objs.size (.tup [.int (i : Nat), x]) :=
      ⟨by show 2 ≤ sizeLine; decide, [.int i tk, u'], .cons ⟨_, rfl⟩ (.cons ru .nil), ⟨_, hT2, rfl, _, rfl⟩⟩
    have I1 : Inv X pins σ (upd H s.heap.objs.size (.tup [.int (i : Nat), x])) { s with heap := h'', toks := tk + 1 } :=
      I.turnedNew (ch := [e, it]) (fun b ob hb q => (sb.2 b (fun z => hb (by simp [z]))).trans (hk b ob (fun z => hb (by simp [z])) (fun z => hb (by simp [z])) q)) hf (Nat.le_refl _) new
    refine ⟨.ref s.heap.objs.size, _, I1, rfl, ⟨_, x, rfl, I.hok.fresh (Nat.le_refl _), rfl, fun ys hy => by rw [I.tuple_inj hy hq]; exact hx⟩, ⟨⟨u', ?_⟩, hit'.at fun o q => (sb.2 it (Ne.symm hne)).trans q, hne⟩, fun b hb => ?_⟩
    · have e1 : ((i + 1 : Nat) : Int) = (i : Int) + 1 := by omega
      rw [e1]; exact he'
    · have hb' : b < s.heap.objs.size := by
        have e' : b = e ∨ b = it := by simpa using hb
        rcases e' with z | z
        · rw [z]; exact hel
        · rw [z]; exact hil
      rw [upd_ne (Nat.ne_of_lt hb')]
      exact (hf b hb).1
  done := by
    intro X hP hw hK hc i pins s σ H E I hf st hg
    subst hP hw hK
    obtain ⟨⟨old, he⟩, hit, hne⟩ := st
    obtain ⟨xs, hq, hx⟩ := hg
    obtain ⟨its, rv, p, hz⟩ := I.tuple hq
    obtain ⟨f0, f1, f2, f3, f4, f5⟩ := hf it (by simp)
    have hl := rv.length
    have ai : a ≠ it := fun z => by
      obtain ⟨o, h1, h2, _⟩ := hit
      obtain ⟨o', h3, h4, _⟩ := p
      rw [z, h1] at h3; cases h3; rw [h2] at h4; exact absurd (Value.type.inj h4) (by decide)
    have hil : i = its.toArray.size := by rw [List.size_toArray, ← hl]; exact hx.symm
    subst hil
    exact wpAny_pyNext_enum_endD (Draws.tup (A := X.A.in1) (I.ok.hd hc) it a ai its.toArray) he ⟨hit, p⟩ fun h' eb => ⟨rfl, I.turned (t' := s.toks) (fun b o hb q => eb b o hb q) f0 f1 f3 f4 f5⟩
  self := fun A i s Q E st h => let ⟨⟨_, he⟩, _⟩ := st; wpAny_pyIter_enum he h

/-! ## enumerate(text) -/
theorem Draws.strU {prog : Program} {w : World} {A : Around} (hh : A.handled = none) (it : Addr) (x : Str) (t : Tok) :
    Draws prog w A it [it] x.cps.size (fun i v => ∃ c u, x.cps[i]? = some c ∧ v = .str ⟨#[c]⟩ u) (fun i h => h.IsStrIter it (strIterType x) x t i) := by
  unfold strIterType
  split
  · exact Draws.strAscii hh it x t
  · exact Draws.strWide hh it x t
def IteS (x : Str) : It :=
  ⟨fun i _ => i < x.cps.size, fun i H v H' => ∃ T c, v = .ref T ∧ H T = none ∧ H' = upd H T (.tup [.int (i : Nat), .str ⟨#[c]⟩]) ∧ x.cps[i]? = some c, fun i _ => i = x.cps.size⟩
theorem turn_enumS {P : Program} {w : World} {K : PySem.W.Frag} {elts : List Expr} {kk : Nat} {tpos : Pos} (x : Str) (t : Tok) (e it : Addr) :
    Turn P w K (.Tuple elts kk tpos) (IteS x) [e, it] e (fun i h => (∃ old, IsEnum h e it ((i : Nat) : Int) old) ∧ h.IsStrIter it (strIterType x) x t i ∧ e ≠ it) where
  mem := by simp
  obj := fun i h st b hb => by
    obtain ⟨⟨old, he⟩, ⟨o, ho, hc, hd⟩, _⟩ := st
    have e' : b = e ∨ b = it := by simpa using hb
    rcases e' with z | z
    · rw [z]; exact ⟨_, he, fun v q => nomatch q⟩
    · rw [z]; exact ⟨o, ho, fun v q => by rw [hd] at q; cases q⟩
  keep := fun i h h' st k => let ⟨⟨old, he⟩, ⟨o, ho, r⟩, hne⟩ := st; ⟨⟨old, k e (by simp) _ he⟩, ⟨o, k it (by simp) _ ho, r⟩, hne⟩
  item := by
    intro X hP hw hK hc i pins s σ H E I hf st hg
    subst hP hw hK
    obtain ⟨⟨old, he⟩, hit, hne⟩ := st
    have hel : e < s.heap.objs.size := Heap.lt_size he
    have hil : it < s.heap.objs.size := by obtain ⟨_, q, _⟩ := hit; exact Heap.lt_size q
    have ae : e ∉ [it] := fun z => hne (List.mem_singleton.mp z)
    refine wpAny_pyNext_enum_itemD (Draws.strU (A := X.A.in1) (I.ok.hd hc) it x t) he hit hg hne ae fun u' h' tk ⟨c, tc, hcx, hu'⟩ ho hit' hT hsz hk => ?_
    subst hu'
    refine ⟨_, rfl, wpAny_letOwnedTupleGo_enum (s := { s with heap := h', toks := tk + 1 }) ho fun h'' he' sb => ?_⟩
    have hT2 : h''.get? s.heap.objs.size = some { cls := .type "tuple", data := .seq #[.int i tk, .str ⟨#[c]⟩ tc] } := (sb.2 _ (Nat.ne_of_gt hel)).trans hT
    have new : ObjOk X.prog X.w (upd H s.heap.objs.size (.tup [.int (i : Nat), .str ⟨#[c]⟩])) h'' s.heap.objs.size (.tup [.int (i : Nat), .str ⟨#[c]⟩]) :=
      ⟨by show 2 ≤ sizeLine; decide, [.int i tk, .str ⟨#[c]⟩ tc], .cons ⟨_, rfl⟩ (.cons ⟨_, rfl⟩ .nil), ⟨_, hT2, rfl, _, rfl⟩⟩
    have I1 : Inv X pins σ (upd H s.heap.objs.size (.tup [.int (i : Nat), .str ⟨#[c]⟩])) { s with heap := h'', toks := tk + 1 } :=
      I.turnedNew (ch := [e, it]) (fun b ob hb q => (sb.2 b (fun z => hb (by simp [z]))).trans (hk b ob (fun z => hb (by simp [z])) (fun z => hb (by simp [z])) q)) hf (Nat.le_refl _) new
    refine ⟨.ref s.heap.objs.size, _, I1, rfl, ⟨_, c, rfl, I.hok.fresh (Nat.le_refl _), rfl, hcx⟩, ⟨⟨.str ⟨#[c]⟩ tc, ?_⟩, (let ⟨o, ho, r⟩ := hit'; ⟨o, (sb.2 it (Ne.symm hne)).trans ho, r⟩), hne⟩, fun b hb => ?_⟩
    · have e1 : ((i + 1 : Nat) : Int) = (i : Int) + 1 := by omega
      rw [e1]; exact he'
    · have hb' : b < s.heap.objs.size := by
        have e' : b = e ∨ b = it := by simpa using hb
        rcases e' with z | z
        · rw [z]; exact hel
        · rw [z]; exact hil
      rw [upd_ne (Nat.ne_of_lt hb')]
      exact (hf b hb).1
  done := by
    intro X hP hw hK hc i pins s σ H E I hf st hg
    subst hP hw hK
    obtain ⟨⟨old, he⟩, hit, hne⟩ := st
    obtain ⟨f0, f1, f2, f3, f4, f5⟩ := hf it (by simp)
    have hil : i = x.cps.size := hg
    subst hil
    exact wpAny_pyNext_enum_endD (Draws.strU (A := X.A.in1) (I.ok.hd hc) it x t) he hit fun h' eb => ⟨rfl, I.turned (t' := s.toks) (fun b o hb q => eb b o hb q) f0 f1 f3 f4 f5⟩
  self := fun A i s Q E st h => let ⟨⟨_, he⟩, _⟩ := st; wpAny_pyIter_enum he h
/-- enumerate(x): a list, a tuple, a text -/
def iEnumA (K : PySem.W.Frag) (ta : TA) : TI := fun σ H R => ta σ H fun vs H1 => (∃ a xs, vs = [.ref a] ∧ SqL K H1 a xs ∧ R (Ite K a) H1) ∨ (∃ a xs, vs = [.ref a] ∧ SqT K H1 a xs ∧ R (IteT K a) H1) ∨ ∃ x, vs = [.str x] ∧ R (IteS x) H1
theorem pi_enumA {X : Cx} {e : Expr} {ta : TA} {p pos tpos : Pos} {elts : List Expr} {kk : Nat} (hg : Gl X "enumerate") (hm : X.mg "enumerate" = none) (ha : PA X [e] ta) (hs : starEach [e] X.env = [(false, eval e X.env)] := by rfl) :
    PI X (.Tuple elts kk tpos) (.Call (.Name "enumerate" p) [e] [] pos) (iEnumA X.K ta) := by
  refine ⟨fun pins s σ H R I h => ?_⟩
  refine Call_ (ld_blt I hg hm boot_enumerate (PyProof.Rows.callWith_type1 (thn (ha.run pos pins s σ H _ I h) fun us s1 ⟨vs, H1, I1, r1, q1⟩ => ?_) hs rfl))
  have fin : ∀ b ∈ [s1.heap.objs.size + 1, s1.heap.objs.size], FpOk X pins H1 b := fun b hb => by
    have e' : b = s1.heap.objs.size + 1 ∨ b = s1.heap.objs.size := by simpa using hb
    have hle : s1.heap.objs.size ≤ b := by
      rcases e' with z | z
      · rw [z]; exact Nat.le_add_right _ _
      · rw [z]; exact Nat.le_refl _
    exact I1.fpOk hle (I1.hok.fresh hle)
  rcases q1 with ⟨a, xs, ex, hq, q⟩ | ⟨a, xs, ex, hq, q⟩ | ⟨x, ex, q⟩
  · subst ex
    cases r1 with
    | cons r rr =>
      cases rr
      cases r
      obtain ⟨its, rv, p', hz⟩ := I1.list hq
      refine call_enumerate_list p'.isList fun h' he hit hsz hk => wpAny_pyIter_enum he ?_
      exact ⟨s1.heap.objs.size + 1, [s1.heap.objs.size + 1, s1.heap.objs.size], _, _, H1, rfl, I1.kept (t' := s1.toks) hk, turn_enum a (s1.heap.objs.size + 1) s1.heap.objs.size, ⟨⟨.none, he⟩, hit, Nat.succ_ne_self _⟩, fin, q⟩
  · subst ex
    cases r1 with
    | cons r rr =>
      cases rr
      cases r
      obtain ⟨its, rv, p', hz⟩ := I1.tuple hq
      refine call_enumerate_tup p' fun h' he hit hsz hk => wpAny_pyIter_enum he ?_
      exact ⟨s1.heap.objs.size + 1, [s1.heap.objs.size + 1, s1.heap.objs.size], _, _, H1, rfl, I1.kept (t' := s1.toks) hk, turn_enumT a (s1.heap.objs.size + 1) s1.heap.objs.size, ⟨⟨.none, he⟩, hit, Nat.succ_ne_self _⟩, fin, q⟩
  · subst ex
    cases r1 with
    | cons r rr =>
      cases rr
      obtain ⟨t, rfl⟩ := r
      refine call_enumerate_str fun h' he hit hsz hk => wpAny_pyIter_enum he ?_
      exact ⟨s1.heap.objs.size + 1, [s1.heap.objs.size + 1, s1.heap.objs.size], _, _, H1, rfl, I1.kept (t' := s1.toks) hk, turn_enumS x t (s1.heap.objs.size + 1) s1.heap.objs.size, ⟨⟨.none, he⟩, hit, Nat.succ_ne_self _⟩, fin, q⟩
end KI

/-! part KI13 -/
set_option Elab.async false
set_option linter.all false
set_option maxRecDepth 100000
set_option maxHeartbeats 4000000
namespace KI
open PySem PySem.Spec PyProof.Rows L2

/-! ## what for walks over -/
def iSeq (K : Frag) (te : TE) : TI := fun σ H R => te σ H fun v H1 => (∃ a, v = .ref a ∧ (∃ xs, SqL K H1 a xs) ∧ R (Itl K a) H1) ∨ (∃ a, v = .ref a ∧ (∃ xs, SqT K H1 a xs) ∧ R (Itt K a) H1) ∨ ∃ x, v = .str x ∧ R (Its x) H1
theorem pi_seq {X : Cx} {tg e : Expr} {te : TE} (he : PE X e te) : PI X tg e (iSeq X.K te) := by
  refine ⟨fun pins s σ H R I h => thn (he.run pins s σ H _ I h) fun v s1 ⟨y, H1, I1, r1, q1⟩ => ?_⟩
  have fin : ∀ b ∈ [s1.heap.objs.size], FpOk X pins H1 b := fun b hb => by
    have e : b = s1.heap.objs.size := by simpa using hb
    subst e
    exact I1.fpOk (Nat.le_refl _) (I1.hok.fresh (Nat.le_refl _))
  rcases q1 with ⟨a, e, ⟨xs, hq⟩, q⟩ | ⟨a, e, ⟨xs, hq⟩, q⟩ | ⟨x, e, q⟩
  · subst e
    cases r1
    obtain ⟨its, rv, p, hz⟩ := I1.list hq
    exact wpAny_pyIter_list p.isList ⟨s1.heap.objs.size, [s1.heap.objs.size], _, _, H1, rfl, I1.kept (t' := s1.toks) fun b o e => Heap.get?_push_of_some _ e, turn_list a _, ⟨_, Heap.get?_push_size _ rfl, rfl, rfl⟩, fin, q⟩
  · subst e
    cases r1
    obtain ⟨its, rv, p, hz⟩ := I1.tuple hq
    exact wpAny_pyIter_tuple (show s1.heap.IsTuple a its.toArray from p) ⟨s1.heap.objs.size, [s1.heap.objs.size], _, _, H1, rfl, I1.kept (t' := s1.toks) fun b o e => Heap.get?_push_of_some _ e, turn_tuple a _, ⟨_, Heap.get?_push_size _ rfl, rfl, rfl⟩, fin, q⟩
  · subst e
    obtain ⟨t, rfl⟩ := r1
    cases ha : x.cps.all (· < 128)
    · exact wpAny_pyIter_wide ha (pi_one (tk := s1.toks) I1 _ (turn_str _ x t "str_iterator" (.inr rfl)) ⟨_, Heap.get?_push_size _ rfl, rfl, rfl⟩ q)
    · exact wpAny_pyIter_ascii ha (pi_one (tk := s1.toks) I1 _ (turn_str _ x t "str_ascii_iterator" (.inl rfl)) ⟨_, Heap.get?_push_size _ rfl, rfl, rfl⟩ q)
def chrs (x : Str) : List PV := x.cps.toList.map fun c => .str ⟨#[c]⟩
def seqP : PV → Option (List PV)
  | .lst ps => some ps
  | .tup ps => some ps
  | .scr ns => some (ns.map .int)
  | .str x => some (chrs x)
  | _ => none
def seqA (f : EF) : AF := fun env st => (f env st).bind fun p st1 => match seqP p with
  | some ps => .ok ps st1
  | none => .stuck
theorem getI {ns : List Int} {i : Nat} {x : V} (h : (ns.map V.int)[i]? = some x) : ∃ n, ns[i]? = some n ∧ x = .int n := by
  rw [List.getElem?_map] at h
  cases z : ns[i]? with
  | none => rw [z] at h; cases h
  | some n => rw [z] at h; cases h; exact ⟨n, rfl, rfl⟩
section
variable {K : Frag} {F : Hp} {ps : List PV} {vs : List V} {a : Addr}
theorem walkL (h : F a = some (.lst vs)) (r : RepL K F ps vs) : WalkP K (Itl K a) F ps := by
  have hl : ps.length = vs.length := r.length
  unfold WalkP
  rw [hl]
  exact (walk_list (K := K) (a := a) (xs := vs)).mono (fun H s => .inl (.inl (s _ _ h))) fun i H x H' hi s y F' s1 s2 => by
    obtain ⟨rfl, e⟩ := y
    obtain ⟨p, hp, rp⟩ := r.getV e
    exact ⟨p, F', hp, Rep.mono s1 _ _ rp, .inl ⟨rfl, rfl⟩⟩
theorem walkT (h : SqT K F a vs) (r : RepL K F ps vs) : WalkP K (Itt K a) F ps := by
  have hl : ps.length = vs.length := r.length
  unfold WalkP
  rw [hl]
  exact (walk_tup (K := K) (a := a) (xs := vs)).mono (fun H s => sqT_mono s h) fun i H x H' hi s y F' s1 s2 => by
    obtain ⟨rfl, e⟩ := y
    obtain ⟨p, hp, rp⟩ := r.getV e
    exact ⟨p, F', hp, Rep.mono s1 _ _ rp, .inl ⟨rfl, rfl⟩⟩
theorem walkI {ns : List Int} (h : SqL K F a (ns.map V.int)) : WalkP K (Itl K a) F (ns.map .int) := by
  have hl : (ns.map PV.int).length = (ns.map V.int).length := by simp
  unfold WalkP
  rw [hl]
  exact (walk_list (K := K) (a := a) (xs := ns.map V.int)).mono (fun H s => s.seq h) fun i H x H' hi s y F' s1 s2 => by
    obtain ⟨rfl, e⟩ := y
    obtain ⟨n, hn, rfl⟩ := getI e
    exact ⟨.int n, F', by simp [hn], rfl, .inl ⟨rfl, rfl⟩⟩
theorem walkS {x : Str} : WalkP K (Its x) F (chrs x) := by
  have hl : (chrs x).length = x.cps.size := by simp [chrs]
  unfold WalkP
  rw [hl]
  exact (walk_str (z := x)).mono (fun H s => trivial) fun i H v H' hi s y F' s1 s2 => by
    obtain ⟨rfl, c, hc, rfl⟩ := y
    exact ⟨.str ⟨#[c]⟩, F', by simp [chrs, hc], rfl, .inl ⟨rfl, rfl⟩⟩
end
theorem qi_seq {X : Cx} {B : Bs} {W : WX} {tg e : Expr} {f : EF} (h : QE X B W e f) : QI X B W tg e (seqA f) :=
  ⟨⟨fun pins s σ H R I ⟨F, env, st, g, q⟩ => (pi_seq h.pe).run pins s σ H R I ⟨F, env, st, g, q.bind.mono fun p st1 F1 H1 s1 g1 q1 v rv => by
    cases p with
    | lst ps =>
      obtain ⟨a, vs, rfl, h1, h2⟩ := rv
      exact .inl ⟨a, rfl, ⟨vs, .inl (.inl (g1.le _ _ h1))⟩, q1 F1 H1 Stp.refl g1 _ (walkL h1 h2)⟩
    | tup ps =>
      obtain ⟨a, vs, rfl, h1, h2⟩ := rv
      exact .inr (.inl ⟨a, rfl, ⟨vs, sqT_mono g1.le h1⟩, q1 F1 H1 Stp.refl g1 _ (walkT h1 h2)⟩)
    | scr ns =>
      obtain ⟨a, rfl, h1⟩ := rv
      exact .inl ⟨a, rfl, ⟨_, g1.le.seq h1⟩, q1 F1 H1 Stp.refl g1 _ (walkI h1)⟩
    | str x =>
      obtain rfl : v = .str x := rv
      exact .inr (.inr ⟨x, rfl, q1 F1 H1 Stp.refl g1 _ walkS⟩)
    | _ => exact q1.elim⟩⟩⟩
/-- range -/
def rng (lo hi : Int) : List PV := (List.range (hi - lo).toNat).map fun i => .int (lo + (i : Nat))
def rngP : List PV → Option (List PV)
  | [.int j] => if -(2 ^ 62) ≤ j ∧ j < 2 ^ 62 then some (rng 0 j) else none
  | [.int i, .int j] => if -(2 ^ 62) ≤ i ∧ i < 2 ^ 62 ∧ -(2 ^ 62) ≤ j ∧ j < 2 ^ 62 then some (rng i j) else none
  | _ => none
def rngA (fa : AF) : AF := fun env st => (fa env st).bind fun ps st1 => match rngP ps with
  | some qs => .ok qs st1
  | none => .stuck
theorem walkR {K : Frag} {F : Hp} {lo hi : Int} : WalkP K (Itr lo (hi - lo).toNat) F (rng lo hi) := by
  have hl : (rng lo hi).length = (hi - lo).toNat := by simp [rng]
  unfold WalkP
  rw [hl]
  exact (walk_range (lo := lo) (n := (hi - lo).toNat)).mono (fun H s => trivial) fun i H v H' hi' s y F' s1 s2 => by
    obtain ⟨rfl, rfl⟩ := y
    exact ⟨.int (lo + (i : Nat)), F', by simp [rng, hi'], rfl, .inl ⟨rfl, rfl⟩⟩
theorem CArgs.one {K : Frag} {F H : Hp} {env : SEnv} {σ : Sg} {m : Md} {p : PV} {vs : List V} (h : CArgs K F H env σ [m] [p] vs) : ∃ v, vs = [v] ∧ CArg K F H env σ m p v := by
  obtain ⟨p', ps, v, r, e1, rfl, h1, e2, rfl⟩ := h
  subst e2
  cases e1
  exact ⟨v, rfl, h1⟩
theorem qi_range1 {X : Cx} {B : Bs} {W : WX} {tg a : Expr} {fa : AF} {p pos : Pos} (ha : QA X B W [.val] [a] fa) (hm : X.mg "range" = none) (hg : Gl X "range" := by rfl) (hs : starEach [a] X.env = [(false, eval a X.env)] := by rfl) : QI X B W tg (.Call (.Name "range" p) [a] [] pos) (rngA fa) :=
  ⟨⟨fun pins s σ H R I ⟨F, env, st, g, q⟩ => (pi_range1 hg hm ha.pa hs).run pins s σ H R I ⟨F, env, st, g, q.bind.mono fun ps st1 F1 H1 s1 g1 q1 vs hvs => by
    unfold rngP at q1
    split at q1
    · rename_i qs hz
      split at hz
      · obtain ⟨v, rfl, h1⟩ := hvs.one
        obtain rfl : v = .int _ := h1
        split at hz
        · rename_i hj
          cases hz
          refine ⟨_, rfl, hj.1, hj.2, ?_⟩
          have := q1 F1 H1 Stp.refl g1 _ (walkR (K := X.K))
          rw [Int.sub_zero] at this
          exact this
        · cases hz
      · obtain ⟨_, _, _, _, e1, _, _, e2, _⟩ := hvs
        cases e1; cases e2
      · cases hz
    · exact q1.elim⟩⟩⟩
theorem qi_range2 {X : Cx} {B : Bs} {W : WX} {tg a b : Expr} {fa : AF} {p pos : Pos} (ha : QA X B W [.val, .val] [a, b] fa) (hm : X.mg "range" = none) (hg : Gl X "range" := by rfl) (hs : starEach [a, b] X.env = [(false, eval a X.env), (false, eval b X.env)] := by rfl) (hs2 : starEach [b] X.env = [(false, eval b X.env)] := by rfl) : QI X B W tg (.Call (.Name "range" p) [a, b] [] pos) (rngA fa) :=
  ⟨⟨fun pins s σ H R I ⟨F, env, st, g, q⟩ => (pi_range2 hg hm ha.pa hs hs2).run pins s σ H R I ⟨F, env, st, g, q.bind.mono fun ps st1 F1 H1 s1 g1 q1 vs hvs => by
    unfold rngP at q1
    split at q1
    · rename_i qs hz
      split at hz
      · obtain ⟨_, _, _, _, e1, _, _, _, _, _, _, e2, _⟩ := hvs
        cases e1; cases e2
      · obtain ⟨v1, v2, rfl, h1, h2⟩ := rh2 (CArgs.rhs rfl hvs)
        obtain rfl := h1.int
        obtain rfl := h2.int
        split at hz
        · rename_i hj
          cases hz
          exact ⟨_, _, rfl, hj, q1 F1 H1 Stp.refl g1 _ walkR⟩
        · cases hz
      · cases hz
    · exact q1.elim⟩⟩⟩
/-- enumerate -/
def enumPs (ps : List PV) : List PV := (ps.zipIdx).map fun x => .tup [.int (x.2 : Nat), x.1]
def enumA (f : EF) : AF := fun env st => (f env st).bind fun p st1 => match seqP p with
  | some ps => .ok (enumPs ps) st1
  | none => .stuck
theorem enumPs_get {ps : List PV} {i : Nat} {p : PV} (h : ps[i]? = some p) : (enumPs ps)[i]? = some (.tup [.int (i : Nat), p]) := by simp [enumPs, h]
theorem enumPs_length {ps : List PV} : (enumPs ps).length = ps.length := by simp [enumPs]
theorem fnone_of {F H : Hp} (le : Same F H) {a : Addr} (h : H a = none) : F a = none := by
  cases e : F a with
  | none => rfl
  | some o => rw [le a o e] at h; cases h
theorem pair_rep {K : Frag} {F : Hp} {T : Addr} {i : Nat} {p : PV} {x : V} (h : F T = none) (r : Rep K F p x) : Rep K (upd F T (.tup [.int (i : Nat), x])) (.tup [.int (i : Nat), p]) (.ref T) :=
  ⟨T, _, rfl, .inl (.inl upd_same), _, _, rfl, rfl, _, _, rfl, Rep.mono (Same.upd_new h) _ _ r, rfl⟩
section
variable {K : Frag} {F : Hp} {ps : List PV} {vs : List V} {a : Addr}
theorem walkEL (h : F a = some (.lst vs)) (r : RepL K F ps vs) : WalkP K (Ite K a) F (enumPs ps) := by
  have hl : (enumPs ps).length = vs.length := by rw [enumPs_length, r.length]
  unfold WalkP
  rw [hl]
  exact (walk_enum (K := K) (a := a) (xs := vs)).mono (fun H s => .inl (.inl (s _ _ h))) fun i H x H' hi s y F' s1 s2 => by
    obtain ⟨T, y1, y2, rfl, hT, rfl, e1, e2⟩ := y
    cases e1
    obtain ⟨p, hp, rp⟩ := r.getV e2
    exact ⟨_, upd F' T _, enumPs_get hp, pair_rep (fnone_of s2 hT) (Rep.mono s1 _ _ rp), .inr ⟨T, _, hT, rfl, rfl⟩⟩
theorem walkEI {ns : List Int} (h : SqL K F a (ns.map V.int)) : WalkP K (Ite K a) F (enumPs (ns.map .int)) := by
  have hl : (enumPs (ns.map PV.int)).length = (ns.map V.int).length := by rw [enumPs_length]; simp
  unfold WalkP
  rw [hl]
  exact (walk_enum (K := K) (a := a) (xs := ns.map V.int)).mono (fun H s => s.seq h) fun i H x H' hi s y F' s1 s2 => by
    obtain ⟨T, y1, y2, rfl, hT, rfl, e1, e2⟩ := y
    cases e1
    obtain ⟨n, hn, rfl⟩ := getI e2
    exact ⟨_, upd F' T _, enumPs_get (by simp [hn]), pair_rep (p := .int n) (fnone_of s2 hT) rfl, .inr ⟨T, _, hT, rfl, rfl⟩⟩
theorem walkET (h : SqT K F a vs) (r : RepL K F ps vs) : WalkP K (IteT K a) F (enumPs ps) := by
  have hl : (enumPs ps).length = vs.length := by rw [enumPs_length, r.length]
  unfold WalkP
  rw [hl]
  refine ⟨fun i H hi s => ⟨vs, vs[i], sqT_mono s h, by simp [hi]⟩, fun H s => ⟨vs, sqT_mono s h, rfl⟩, fun i H x H' hi s y F' s1 s2 => ?_⟩
  obtain ⟨T, z, rfl, hT, rfl, e⟩ := y
  obtain ⟨p, hp, rp⟩ := r.getV (e vs (sqT_mono s h))
  exact ⟨_, upd F' T _, enumPs_get hp, pair_rep (fnone_of s2 hT) (Rep.mono s1 _ _ rp), .inr ⟨T, _, hT, rfl, rfl⟩⟩
theorem walkES {x : Str} : WalkP K (IteS x) F (enumPs (chrs x)) := by
  have hl : (enumPs (chrs x)).length = x.cps.size := by rw [enumPs_length]; simp [chrs]
  unfold WalkP
  rw [hl]
  refine ⟨fun i H hi s => hi, fun H s => rfl, fun i H v H' hi s y F' s1 s2 => ?_⟩
  obtain ⟨T, c, rfl, hT, rfl, e⟩ := y
  exact ⟨_, upd F' T _, enumPs_get (p := .str ⟨#[c]⟩) (by simp [chrs, e]), pair_rep (p := .str ⟨#[c]⟩) (fnone_of s2 hT) rfl, .inr ⟨T, _, hT, rfl, rfl⟩⟩
end
theorem qi_enum {X : Cx} {B : Bs} {W : WX} {e : Expr} {f : EF} {p pos tpos : Pos} {elts : List Expr} {kk : Nat} (h : QE X B W e f) (hm : X.mg "enumerate" = none) (hg : Gl X "enumerate" := by rfl) (hs : starEach [e] X.env = [(false, eval e X.env)] := by rfl) (hs2 : starEach [e] X.env = (false, eval e X.env) :: starEach [] X.env := by rfl) :
    QI X B W (.Tuple elts kk tpos) (.Call (.Name "enumerate" p) [e] [] pos) (enumA f) :=
  ⟨⟨fun pins s σ H R I ⟨F, env, st, g, q⟩ => (pi_enumA hg hm (qa_val h qa_nil hs2).pa hs).run pins s σ H R I ⟨F, env, st, g, by
    have q2 := q.bind
    refine EPost.mono (R := fun ps st1 F1 H1 => ∀ vs, CArgs X.K F1 H1 env σ [.val] ps vs → _) ?_ fun _ _ _ _ _ _ r => r
    unfold consA nilA
    cases hr : f env st with
    | stuck => rw [hr] at q2; exact q2.elim
    | exc c ns qs st1 => rw [hr] at q2; exact q2
    | ok p st1 =>
      rw [hr] at q2
      intro F1 H1 s1 g1 vs hvs
      replace q2 := q2 F1 H1 s1 g1
      obtain ⟨v, rfl, rv⟩ := hvs.one
      cases p with
      | lst ps =>
        obtain ⟨a, vs, rfl, h1, h2⟩ := rv
        exact .inl ⟨a, vs, rfl, .inl (.inl (g1.le _ _ h1)), q2 F1 H1 Stp.refl g1 _ (walkEL h1 h2)⟩
      | tup ps =>
        obtain ⟨a, vs, rfl, h1, h2⟩ := rv
        exact .inr (.inl ⟨a, vs, rfl, sqT_mono g1.le h1, q2 F1 H1 Stp.refl g1 _ (walkET h1 h2)⟩)
      | scr ns =>
        obtain ⟨a, rfl, h1⟩ := rv
        exact .inl ⟨a, _, rfl, g1.le.seq h1, q2 F1 H1 Stp.refl g1 _ (walkEI h1)⟩
      | str x =>
        obtain rfl : v = .str x := rv
        exact .inr (.inr ⟨x, rfl, q2 F1 H1 Stp.refl g1 _ walkES⟩)
      | _ => exact q2.elim⟩⟩⟩
end KI

/-! part KI14 -/
set_option Elab.async false
set_option linter.all false
set_option maxRecDepth 100000
set_option maxHeartbeats 4000000
namespace KI
open PySem PySem.Spec PyProof.Rows L2

/-! ## isinstance -/
def tyN : PV → Option String
  | .non => some "NoneType"
  | .bl _ => some "bool"
  | .int _ => some "int"
  | .str _ => some "str"
  | .lst _ => some "list"
  | .tup _ => some "tuple"
  | .dct _ _ => some "dict"
  | .scr _ => some "list"
  | .ins _ _ _ => none
def tyIs (t c : String) : Bool := c == t || (t == "bool" && c == "int")
def isiP (ts : List String) (p : PV) : Option Bool := match tyN p with
  | some t => some (ts.any (tyIs t))
  | none => none
def knownT (c : String) : Bool := c == "int" || c == "bool" || c == "str" || c == "list" || c == "tuple" || c == "dict"
theorem kitB_ty {t c : String} (ht : t ∈ ["NoneType", "bool", "int", "str", "list", "tuple", "dict"]) (hc : c ∈ ["int", "bool", "str", "list", "tuple", "dict"]) : kitB t c = some (tyIs t c) := by
  have : ∀ t ∈ ["NoneType", "bool", "int", "str", "list", "tuple", "dict"], ∀ c ∈ ["int", "bool", "str", "list", "tuple", "dict"], kitB t c = some (tyIs t c) := by decide +kernel
  exact this t ht c hc
theorem knownT_mem {c : String} (h : knownT c = true) : c ∈ ["int", "bool", "str", "list", "tuple", "dict"] := by
  simp only [knownT, Bool.or_eq_true, beq_iff_eq] at h
  rcases h with ((((h | h) | h) | h) | h) | h <;> subst h <;> simp
theorem tyN_mem {p : PV} {t : String} (h : tyN p = some t) : t ∈ ["NoneType", "bool", "int", "str", "list", "tuple", "dict"] := by
  cases p <;> cases h <;> simp
theorem kitAny_ty {K : Frag} {t : String} (ht : t ∈ ["NoneType", "bool", "int", "str", "list", "tuple", "dict"]) : ∀ {ts : List String}, ts.all knownT = true → PySem.W.kitAny K (.type t) (ts.map Value.type) = some (ts.any (tyIs t))
  | [], _ => kitAny_nil
  | c :: cs, h => by
    rw [List.all_cons, Bool.and_eq_true] at h
    rw [List.map_cons, List.any_cons]
    refine kitAny_cons (kit_ty (kitB_ty ht (knownT_mem h.1))) (fun e => ?_) (fun e => by rw [e]; rfl)
    rw [e, Bool.false_or]
    exact kitAny_ty ht h.2
theorem tyX_of {K : Frag} {F H : Hp} {p : PV} {v : V} {t : String} (le : Same F H) (h : RH K F H p v) (ht : tyN p = some t) : TyX K H v (.type t) := by
  cases p with
  | non => cases ht; obtain rfl := h.non; exact .base .non
  | bl b => cases ht; obtain rfl := h.bl; exact .base (.bl b)
  | int i => cases ht; obtain rfl := h.int; exact .base (.int i)
  | str x => cases ht; obtain rfl := h.str; exact .base (.str x)
  | lst ps => cases ht; obtain ⟨a, vs, rfl, h1, _⟩ := h.lst le; exact .base (.lst h1)
  | tup ps =>
    cases ht; obtain ⟨a, vs, rfl, h1, _⟩ := h.tup le
    rcases h1 with (h1 | ⟨o, h1⟩) | ⟨o, its, n, h1, h2, _⟩
    · exact .base (.tup h1)
    · exact .fTuple h1
    · exact .kTuple h1 h2
  | dct ks ps => cases ht; obtain ⟨a, vs, rfl, h1, _⟩ := h.dct le; exact .base (.dK h1)
  | scr ns =>
    cases ht; obtain ⟨a, rfl, h1⟩ := h.scr le
    rcases h1 with (h1 | ⟨o, h1⟩) | ⟨o, its, n, h1, h2, _⟩
    · exact .base (.lst h1)
    · exact .base (.frz h1)
    · exact .kList h1 h2
  | ins c ns ps => cases ht
def isiE (ts : List String) (f : EF) : EF := fun env st => (f env st).bind fun p st1 => match isiP ts p with
  | some b => .ok (.bl b) st1
  | none => .stuck
/-- names of built-in types -/
structure PTy (X : Cx) (es : List Expr) (ts : List String) : Prop where
  pa : PA X es (fun _ H Q => Q (ts.map V.ty) H)
section
variable {X : Cx} {B : Bs} {W : WX} {x : Str} {e : Expr} {es : List Expr} {f : EF} {T : String} {ts : List String} {p p1 pos pos2 : Pos}
theorem pty_nil : PTy X [] [] := ⟨pa_nil⟩
theorem pty_cons (h : PTy X es ts) (hm : X.mg x = none) (hv : bootBuiltins x = some (.type T) := by rfl) (hg : Gl X x := by rfl) (hn : x ≠ "__name__" := by decide) (hd : (x == ("__debug__" : Str)) = false := by decide)
    (hs : starEach (.Name x p1 :: es) X.env = (false, eval (.Name x p1) X.env) :: starEach es X.env := by rfl) : PTy X (.Name x p1 :: es) (T :: ts) :=
  ⟨pa_imp (pa_cons (pe_bltn (v := .ty T) hg hm hv rfl hn hd) h.pa hs) fun σ H Q q => q⟩
theorem isi_vals : ∀ {ts : List String}, Paired ClsV (ts.map V.ty) (ts.map Value.type)
  | [] => .nil
  | t :: ts => .cons (.ty t) isi_vals
theorem qe_isi (h : QR X B W e f) (hi : X.mg "isinstance" = none) (hm : X.mg x = none) (hv : bootBuiltins x = some (.type T) := by rfl) (hk : knownT T = true := by rfl) (hgi : Gl X "isinstance" := by rfl) (hg : Gl X x := by rfl) (hn : x ≠ "__name__" := by decide) (hd : (x == ("__debug__" : Str)) = false := by decide)
    (hs1 : starEach [e, .Name x p1] X.env = (false, eval e X.env) :: starEach [.Name x p1] X.env := by rfl) (hs2 : starEach [.Name x p1] X.env = (false, eval (.Name x p1) X.env) :: starEach [] X.env := by rfl) (hpl : (backTo pos (starEach [.Name x p1] X.env)).any (·.1) = false := by rfl) : QE X B W (.Call (.Name "isinstance" p) [e, .Name x p1] [] pos) (isiE [T] f) :=
  ⟨pe_imp (pe_callB call_isi hgi hi rfl (pa_cons h.pe (pa_cons (pe_bltn (v := .ty T) hg hm hv rfl hn hd) pa_nil hs2) hs1) (by decide) (by decide) hs1 hpl) fun σ H Q ⟨F, env, st, g, q⟩ => ⟨F, env, st, g, q.bind.mono fun p st1 F1 H1 s1 g1 q1 v rv => by
    unfold isiP at q1
    cases ht : tyN p with
    | none => rw [ht] at q1; exact q1.elim
    | some t =>
      rw [ht] at q1
      exact ⟨v, .ty T, .type t, .type T, tyIs t T, rfl, .ty T, tyX_of g1.le rv.rh ht, kit_ty (kitB_ty (tyN_mem ht) (knownT_mem hk)), by
        have := q1 F1 H1 Stp.refl g1 (.bl (tyIs t T)) (by simp only [List.any_cons, List.any_nil, Bool.or_false]; rfl)
        exact this⟩⟩⟩
theorem qe_isiT {kk : Nat} (h : QR X B W e f) (ht : PTy X es ts) (hi : X.mg "isinstance" = none) (hk : ts.all knownT = true := by rfl) (hgi : Gl X "isinstance" := by rfl)
    (hs1 : starEach [e, .Tuple es kk pos2] X.env = (false, eval e X.env) :: starEach [.Tuple es kk pos2] X.env := by rfl) (hs2 : starEach [.Tuple es kk pos2] X.env = (false, eval (.Tuple es kk pos2) X.env) :: starEach [] X.env := by rfl) (hpl : (backTo pos (starEach [.Tuple es kk pos2] X.env)).any (·.1) = false := by rfl) (hz : ts.length ≤ sizeLine := by decide) :
    QE X B W (.Call (.Name "isinstance" p) [e, .Tuple es kk pos2] [] pos) (isiE ts f) :=
  ⟨pe_imp (pe_callB call_isiT hgi hi rfl (pa_cons h.pe (pa_cons (pe_tup ht.pa) pa_nil hs2) hs1) (by decide) (by decide) hs1 hpl) fun σ H Q ⟨F, env, st, g, q⟩ => ⟨F, env, st, g, q.bind.mono fun p st1 F1 H1 s1 g1 q1 v rv => by
    unfold isiP at q1
    cases htp : tyN p with
    | none => rw [htp] at q1; exact q1.elim
    | some t =>
      rw [htp] at q1
      refine ⟨by rw [List.length_map]; exact hz, fun a ha => ?_⟩
      refine ⟨v, a, ts.map V.ty, .type t, ts.map Value.type, _, rfl, upd_same, isi_vals, ?_, kitAny_ty (tyN_mem htp) hk, q1 F1 _ (Stp.alloc0 ha) (g1.alloc0 ha) _ rfl⟩
      refine tyX_of (F := F1) (g1.alloc0 ha).le ?_ htp
      rcases rv.rh with h | ⟨b, e, h⟩
      · exact .inl h
      · exact .inr ⟨b, e, h.mono (Same.refl F1) fun o hb => by rw [upd_ne (ne_of_none hb ha)]; exact hb⟩⟩⟩
end

/-! ## a text's methods -/
def rM (K : Frag) (g : Str → PV → Option PV) : V → List V → Hp → VK → Prop := fun x xs H Q => ∃ F a p y, Same F H ∧ x = .str a ∧ xs = [y] ∧ RH K F H p y ∧ ∃ z, g a p = some z ∧ ∀ u F' H', NewBy F H F' H' → Rep K F' z u → Q u H'
theorem mtr_imp {X : Cx} {id : String} {r r' : V → List V → Hp → VK → Prop} (h : MtR X id r) (k : ∀ x xs H Q, r' x xs H Q → r x xs H Q) : MtR X id r' := fun pins s σ H x xs v us Q I rx rs q => h pins s σ H x xs v us Q I rx rs (k x xs H Q q)
def smE (g : Str → PV → Option PV) (fo fa : EF) : EF := fun env st => (fo env st).bind fun o st1 => match o with
  | .str a => (fa env st1).bind fun p st2 => match g a p with
    | some z => .ok z st2
    | none => .stuck
  | _ => .stuck
theorem qe_m1 {X : Cx} {B : Bs} {W : WX} {o e : Expr} {fo fa : EF} {g : Str → PV → Option PV} {id : String} {name : Str} {apos pos : Pos} (slot : PySem.Slot "str" name id) (ty : typeOf (.builtin id) = pure (.type "method_descriptor")) (rule : MtR X id (rM X.K g)) (ho : QR X B W o fo) (he : QR X B W e fa)
    (hs : starEach [e] X.env = [(false, eval e X.env)] := by rfl) (hbase : attributeBase o name X.env (eval o X.env) = eval o X.env := by rfl) (hline : (apos.endLine == pos.line) = true := by rfl) : QE X B W (.Call (.Attribute o name apos) [e] [] pos) (smE g fo fa) :=
  ⟨pe_imp (pe_m1 slot ty rule ho.pe he.pe hs hbase hline) fun σ H Q ⟨F, env, st, g0, q⟩ => ⟨F, env, st, g0, q.bind.mono fun o st1 F1 H1 s1 g1 q1 v rv => by
    cases o with
    | str a =>
      obtain rfl := rv.rh.str
      refine ⟨⟨a, rfl⟩, F1, env, st1, g1, q1.bind.mono fun p st2 F2 H2 s2 g2 q2 y ry => ?_⟩
      cases hz : g a p with
      | none => rw [hz] at q2; exact q2.elim
      | some z =>
        rw [hz] at q2
        exact ⟨F2, a, p, y, g2.le, rfl, rfl, ry.rh, z, hz, fun u F3 H3 nb hu => by
          obtain ⟨g3, _, s3⟩ := g2.newBy nb
          exact q2 F3 H3 s3 g3 u hu⟩
    | _ => exact q1.elim⟩⟩
def countP (a : Str) : PV → Option PV
  | .str b => some (.int (Txt.count a b))
  | _ => none
def strsP : List PV → Option (List Str)
  | [] => some []
  | .str x :: ps => (strsP ps).map (x :: ·)
  | _ => none
theorem strsP_eq : ∀ {ps : List PV} {ns : List Str}, strsP ps = some ns → ps = ns.map .str
  | [], ns, h => by cases h; rfl
  | .str i :: ps, ns, h => by
    unfold strsP at h
    cases hp : strsP ps with
    | none => rw [hp] at h; cases h
    | some m => rw [hp] at h; cases h; rw [strsP_eq hp]; rfl
  | .non :: _, _, h => nomatch h
  | .bl _ :: _, _, h => nomatch h
  | .int _ :: _, _, h => nomatch h
  | .lst _ :: _, _, h => nomatch h
  | .tup _ :: _, _, h => nomatch h
  | .dct _ _ :: _, _, h => nomatch h
  | .ins _ _ _ :: _, _, h => nomatch h
  | .scr _ :: _, _, h => nomatch h
theorem RepL.strs {K : Frag} {F : Hp} : ∀ {ns : List Str} {vs : List V}, RepL K F (ns.map PV.str) vs → vs = ns.map V.str
  | [], _, h => h
  | n :: ns, _, ⟨v, r, h1, h2, h3⟩ => by rw [h1, show v = V.str n from h2, RepL.strs h3]; rfl
def joinP (a : Str) : PV → Option PV
  | .lst ps => match strsP ps with
    | some ys => if (ys.map (·.length)).sum + ys.length * a.length ≤ 16777216 then some (.str (Txt.join a ys)) else none
    | none => none
  | .tup ps => match strsP ps with
    | some ys => if (ys.map (·.length)).sum + ys.length * a.length ≤ 16777216 then some (.str (Txt.join a ys)) else none
    | none => none
  | _ => none
section
variable {X : Cx}
theorem mr_count : MtR X "str.count" (rM X.K countP) := mtr_imp mt_count fun x xs H Q ⟨F, a, p, y, le, e1, e2, hy, z, hz, q⟩ => by
  unfold countP at hz
  split at hz
  · obtain rfl := hy.str
    cases hz
    exact ⟨a, _, e1, e2, q _ F H (.inl ⟨rfl, rfl⟩) rfl⟩
  · cases hz
theorem mr_join : MtR X "str.join" (rM X.K joinP) := mtr_imp mt_join fun x xs H Q ⟨F, a, p, y, le, e1, e2, hy, z, hz, q⟩ => by
  unfold joinP at hz
  split at hz
  · obtain ⟨b, vs, rfl, h1, h2⟩ := hy.lst le
    split at hz
    · rename_i ys hys
      split at hz
      · rename_i hl
        cases hz
        rw [strsP_eq hys] at h2
        rw [h2.strs] at h1
        exact ⟨a, b, ys, e1, e2, .inl (.inl (.inl h1)), hl, q _ F H (.inl ⟨rfl, rfl⟩) rfl⟩
      · cases hz
    · cases hz
  · obtain ⟨b, vs, rfl, h1, h2⟩ := hy.tup le
    split at hz
    · rename_i ys hys
      split at hz
      · rename_i hl
        cases hz
        rw [strsP_eq hys] at h2
        rw [h2.strs] at h1
        exact ⟨a, b, ys, e1, e2, .inr h1, hl, q _ F H (.inl ⟨rfl, rfl⟩) rfl⟩
      · cases hz
    · cases hz
  · cases hz
end

/-! ## slices -/
abbrev PF := SEnv → PV → ER (Option Int)
def tP (K : Frag) (B : Bs) (W : WX) (f : PF) : TO := fun σ H Q => ∃ F env st, Good K B F H env st σ ∧ EPost K B W env σ F H (fun o _ _ H' => Q o H') (f env st)
structure QP (X : Cx) (B : Bs) (W : WX) (e : Option Expr) (f : PF) : Prop where
  po : PO X e (tP X.K B W f)
def noP : PF := fun _ st => .ok none st
def someP (f : EF) : PF := fun env st => (f env st).bind fun p st1 => match p with
  | .int i => .ok (some i) st1
  | _ => .stuck
def cutP {α : Type} (xs : List α) (lo hi : Option Int) : List α := (xs.drop (HT.sIx xs.length 0 lo)).take (HT.sIx xs.length xs.length hi - HT.sIx xs.length 0 lo)
def slL (p : PV) (lo hi : Option Int) : Option PV := match p with
  | .lst ps => some (.lst (cutP ps lo hi))
  | _ => none
def slS (p : PV) (lo hi : Option Int) : Option PV := match p with
  | .str z => if z.length ≤ sizeLine then some (.str (cutS z lo hi)) else none
  | _ => none
def slE (g : PV → Option Int → Option Int → Option PV) (f : EF) (l h : PF) : EF := fun env st => (f env st).bind fun p st1 => (l env st1).bind fun lo st2 => (h env st2).bind fun hi st3 => match g p lo hi with
  | some z => .ok z st3
  | none => .stuck
section
variable {X : Cx} {B : Bs} {W : WX} {e : Expr} {lo hi : Option Expr} {f : EF} {fl fh : PF} {p2 pos : Pos}
theorem qp_none : QP X B W none noP := ⟨⟨fun pins s σ H Q I ⟨F, env, st, g, q⟩ => po_none.run pins s σ H Q I (q F H Stp.refl g)⟩⟩
theorem qp_some (h : QE X B W e f) : QP X B W (some e) (someP f) := ⟨⟨fun pins s σ H Q I ⟨F, env, st, g, q⟩ => (po_some h.pe).run pins s σ H Q I ⟨F, env, st, g, q.bind.mono fun p st1 F1 H1 s1 g1 q1 v rv => by
  cases p with
  | int i => exact ⟨i, rv, q1 F1 H1 Stp.refl g1⟩
  | _ => exact q1.elim⟩⟩⟩
theorem qo_sliceL (he : QR X B W e f) (hl : QP X B W lo fl) (hh : QP X B W hi fh) : QO X B W (.Subscript e (.Slice lo hi none p2) pos) (slE slL f fl fh) :=
  ⟨pe_imp (pe_slice sl_list he.pe hl.po hh.po) fun σ H Q ⟨F, env, st, g, q⟩ => ⟨F, env, st, g, q.bind.mono fun p st1 F1 H1 s1 g1 q1 v rv => ⟨F1, env, st1, g1, q1.bind.mono fun l st2 F2 H2 s2 g2 q2 => ⟨F2, env, st2, g2, q2.bind.mono fun u st3 F3 H3 s3 g3 q3 => by
    cases p with
    | lst ps =>
      obtain ⟨a, vs, rfl, h1, h2⟩ := ((rv.step s2).step s3).rh.lst g3.le
      refine ⟨a, vs, rfl, .inl (.inl h1), fun b hb => ?_⟩
      refine q3 F3 _ (Stp.alloc0 hb) (g3.alloc0 hb) b (none_of s1.there (none_of s2.there (none_of s3.there hb))) (g3.fnone hb) ⟨_, upd_same, ?_⟩
      unfold cutP cutV
      rw [← h2.length]
      exact (h2.drop _).take _
    | _ => exact q3.elim⟩⟩⟩⟩
theorem qe_sliceS (he : QR X B W e f) (hl : QP X B W lo fl) (hh : QP X B W hi fh) : QE X B W (.Subscript e (.Slice lo hi none p2) pos) (slE slS f fl fh) :=
  ⟨pe_imp (pe_slice sl_str he.pe hl.po hh.po) fun σ H Q ⟨F, env, st, g, q⟩ => ⟨F, env, st, g, q.bind.mono fun p st1 F1 H1 s1 g1 q1 v rv => ⟨F1, env, st1, g1, q1.bind.mono fun l st2 F2 H2 s2 g2 q2 => ⟨F2, env, st2, g2, q2.bind.mono fun u st3 F3 H3 s3 g3 q3 => by
    cases p with
    | str z =>
      obtain rfl := rv.rh.str
      unfold slS at q3
      dsimp only at q3
      by_cases hz : z.length ≤ sizeLine
      · rw [if_pos hz] at q3
        exact ⟨z, rfl, hz, q3 F3 H3 Stp.refl g3 _ rfl⟩
      · rw [if_neg hz] at q3; exact q3.elim
    | _ => exact q3.elim⟩⟩⟩⟩
end

/-! ## a, b, .. = e -/
def setL : List Nat → List PV → SEnv → SEnv
  | i :: is, p :: ps, env => setL is ps (env.set i (.sh p))
  | _, _, env => env
def tGs (K : Frag) (B : Bs) (is : List Nat) : TGs := fun vs σ H Q => ∃ F env st ps, Good K B F H env st σ ∧ RepL K F ps vs ∧ ps.length = is.length ∧ ∀ σ', Good K B F H (setL is ps env) st σ' → Q σ' H
structure QGs (X : Cx) (B : Bs) (es : List Expr) (is : List Nat) : Prop where
  pg : PGs X es (tGs X.K B is)
def upG (is : List Nat) : GF := fun p env => match p with
  | .tup ps => if ps.length = is.length then some (setL is ps env) else none
  | .lst ps => if ps.length = is.length then some (setL is ps env) else none
  | _ => none
theorem pgs_imp {X : Cx} {es : List Expr} {t t' : TGs} (h : PGs X es t) (k : ∀ v σ H Q, t' v σ H Q → t v σ H Q) : PGs X es t' := ⟨fun pins s σ H vs us Q I r q => h.run pins s σ H vs us Q I r (k vs σ H Q q)⟩
def asgS (f : EF) (t : GF) : SF := fun env st => liftS (f env st) env fun p st' => match t p env with
  | some env' => .nx env' st'
  | none => .stuck
section
variable {X : Cx} {B : Bs} {W : WX} {e tg : Expr} {es : List Expr} {f : EF} {t : GF} {is : List Nat} {pos p1 : Pos}
theorem qgs_nil : QGs X B [] [] := ⟨pgs_imp pgs_nil fun vs σ H Q ⟨F, env, st, ps, g, r, hl, q⟩ => by
  cases ps with
  | nil => exact ⟨r, q σ g⟩
  | cons p ps => cases hl⟩
theorem qgs_cons {x : Str} (i : Nat) (hN : X.N.Nodup) (h : QGs X B es is) (hi : X.N[i]? = some x := by rfl) (hx : Loc X.env.scope x := by first | exact .inl rfl | exact .inr rfl) (hf : X.fn x = true ∨ X.env.scope.names.lookup x = some .local := by first | exact .inl rfl | exact .inr rfl)
    (hs : (assignEach (.Name x p1 :: es) X.env).map (·.2) = assign (.Name x p1) X.env :: (assignEach es X.env).map (·.2) := by rfl) : QGs X B (.Name x p1 :: es) (i :: is) := ⟨pgs_imp (pgs_cons (pg_name hN hi hx hf) h.pg hs) fun vs σ H Q ⟨F, env, st, ps, g, r, hl, q⟩ => by
  cases ps with
  | nil => cases hl
  | cons p ps =>
    obtain ⟨v, vs, rfl, h1, h2⟩ := r
    exact ⟨v, vs, rfl, F, env.set i (.sh p), st, ps, g.set i (v := v) (s := .sh p) ⟨v, rfl, h1⟩ (fun z => nomatch z), h2, by simpa using hl, q⟩⟩
theorem pg_or {t1 t2 : TG} (h1 : PG X tg t1) (h2 : PG X tg t2) : PG X tg (fun v σ H Q => t1 v σ H Q ∨ t2 v σ H Q) := ⟨fun pins s σ H v u Q I r q => by
  rcases q with q | q
  · exact h1.run pins s σ H v u Q I r q
  · exact h2.run pins s σ H v u Q I r q⟩
theorem qg_up {kk : Nat} (hc : X.calm = true) (h : QGs X B es is) (hn : (assignEach es X.env).length = is.length := by rfl) (hst : (assignEach es X.env).findIdx? (·.1) = none := by rfl) : QG X B (.Tuple es kk pos) (upG is) :=
  ⟨pg_imp (pg_or (pg_tup hc h.pg hn hst) (pg_lst hc h.pg hn hst)) fun v σ H Q ⟨F, env, st, p, g, r, q⟩ => by
    unfold upG at q
    cases p with
    | tup ps =>
      obtain ⟨a, vs, rfl, h1, h2⟩ := r
      dsimp only at q
      by_cases hl : ps.length = is.length
      · rw [if_pos hl] at q
        exact .inl ⟨a, vs, rfl, sqT_mono g.le h1, by rw [← h2.length]; exact hl, F, env, st, ps, g, h2, hl, fun σ' g' => q σ' g'⟩
      · rw [if_neg hl] at q; exact q.elim
    | lst ps =>
      obtain ⟨a, vs, rfl, h1, h2⟩ := r
      dsimp only at q
      by_cases hl : ps.length = is.length
      · rw [if_pos hl] at q
        exact .inr ⟨a, vs, rfl, .inl (.inl (g.le _ _ h1)), by rw [← h2.length]; exact hl, F, env, st, ps, g, h2, hl, fun σ' g' => q σ' g'⟩
      · rw [if_neg hl] at q; exact q.elim
    | _ => exact q.elim⟩
theorem qs_asg (he : QE X B W e f) (hg : QG X B tg t) (hs : swapsWithSole [tg] e pos.line X.env = pure false := by rfl) (hw : swappedStores [tg] e X.env = pure none := by rfl)
    (h1 : (assignEach [tg] X.env).map (·.2) = [assign tg X.env] := by rfl) : QS X B W (.Assign [tg] e pos) (asgS f t) :=
  ⟨ps_imp (ps_asg he.pe hg.pg hs hw h1) fun D σ H ⟨F, env, st, g, q⟩ => ⟨F, env, st, g, (SPost.lift (H := H) (σ := σ) q).mono fun p st' F' H' s g' r v hv => by
    refine ⟨F', env, st', p, g', hv, ?_⟩
    cases ht : t p env with
    | none => rw [ht] at r; exact r
    | some env' => rw [ht] at r; exact fun σ' g2 => r σ' F' H' (Same.refl F') g2⟩⟩
end
end KI

/-! part KI15 -/
set_option Elab.async false
set_option linter.all false
set_option maxRecDepth 100000
set_option maxHeartbeats 4000000
namespace KI
open PySem PySem.Spec PySem.Calls PyProof.Rows L2

/-! ## an own exception whose __init__ says super().__init__('..') and then sets fields -/
/-- what the written part says of the class at C, its __init__ at f -/
structure XcC (P : Program) (K : Frag) (C f : Addr) (ar : Str) (qual : Str) (body : List Stmt) (scope : Scope) (params : Arguments) (fd : FuncData) : Prop where
  oex : OexC K C
  ini : PySem.W.findIn K (.ref C) "__init__" = some (some (.ref f))
  tyI : PySem.W.typeIn K (.ref f) = some (.type "function")
  ex : ∃ (name : Str) (kV dV doc pm ct oc : Value) (an od : Option Addr) (osl : Array (Option Value)) (cc cda : Addr) (aa : Arg) (ccl cl : Value) (cdd cld : Option Addr) (vs : Array Value) (ccs csl : Array (Option Value)) (file : Str) (tf : Tok) (cd : ClassData),
    fd = PySem.W.ksFn name qual params body scope dV kV doc pm an (.ref cda) ct cc ∧ K.lookup f = some ⟨oc, od, .func fd, osl⟩ ∧ PySem.W.codeIn K (.ref cda) qual = true ∧ (params.posonlyargs ++ params.args).head? = some aa ∧ aa.arg = ar ∧
    K.lookup cda = some ⟨ccl, cdd, .fields vs, ccs⟩ ∧ vs[2]? = some (.str file tf) ∧ ((P.main.file : Str) == file) = true ∧ K.lookup cc = some ⟨cl, cld, .cell (some (.ref C)), csl⟩ ∧
    PySem.W.clsIn K C = some cd
  sub : PySem.W.mroIn K C (.ref C) = some true
  sup : PySem.W.ks_superIn K C C "__init__" = some (some (.builtin "ValueError.__init__"))
  isV : PySem.W.subIn K (.ref C) (.type "ValueError") = some true
  sta : PySem.W.nsIn K cStatics "thirdparty.any" = some none
section
variable {prog : Program} {w : World} {A : Around} {E : Value → Shared → Prop} {h : Heap} {g : Array GenState} {d : Drawn} {t : Nat} {os : OsState}
theorem call_mwV {nm q : Str} {C N : Addr} {bs bm : List Value} {hdct : Bool} {sn : List Str} {sub : List Value} {ab : Bool} {col : Option Bool} {dd : Option Addr} {k0 k1 k2 k3 k5 : Option Value} {u e t0 : Addr} {rest : List Value} {Q : Value → Shared → Prop}
    (hC : h.get? C = some (excClassObj nm q C N bs bm hdct sn sub ab col dd k0 k1 k2 k3 k5 "ValueError.__new__")) (he : h.get? e = some (HandSPX.excO C t0)) (hu : h.get? u = some (PySem.W.kxs_mw "ValueError.__init__" e)) (hrest : rest.length ≤ sizeLine)
    (hq : ∀ h' t1, (∀ b o, b ≠ e → h.get? b = some o → h'.get? b = some o) → h'.get? e = some (HandSPX.excO C t1) → Q .none ⟨h', g, d, t, os⟩) :
    wpAny (model prog w) A (call (.ref u) rest) Q E ⟨h, g, d, t, os⟩ := by
  refine wpAny_call (codeAny_of_tree ?_)
  show wpAny _ A.in1 (callAny (.ref u) ⟨rest, []⟩) _ _ _
  simp only [callAny]
  refine wpAny_bind (wpAny_load hu ?_)
  simp only [PySem.W.kxs_mw, show (Value.type "method-wrapper" == Value.type "method" || Value.type "method-wrapper" == Value.type "builtin_function_or_method" || Value.type "method-wrapper" == Value.type "method-wrapper") = true by decide, if_true]
  refine W.KFB.if_so (by decide) ?_
  refine wpAny_bind (ESX.check_bound F.excBase_ValueError hC he rfl ?_)
  refine wpAny_bind (wpAny_pure (wpAny_pure ?_))
  refine ⟨Code.quiet_builtin _ (by decide +kernel), codeAny_builtin F.excBase_ValueError.initEntry ?_⟩
  rw [Around.under_plainId F.excBase_ValueError.init.plain _]
  wp_walk
  refine hq _ h.objs.size (fun b o hb ho => ?_) ?_
  · rw [Heap.get?_update_other _ _ (Ne.symm hb)]
    exact Heap.get?_push_of_some _ ho
  · rw [Heap.get?_update_self _ (Heap.get?_push_of_some _ he) rfl]
    rfl
/-- super().__init__('..') -/
theorem xi_super {K : Frag} {mg : Str → Option Value} {base : Heap} {C f L a t0 cc cda : Addr} {ar qual txt : Str} {body0 : List Stmt} {scope : Scope} {fd : FuncData} {oc ccl cl : Value} {od cdd cld : Option Addr} {osl ccs csl : Array (Option Value)} {aa : Arg} {vs : Array Value} {file : Str} {tf : Tok} {cd : ClassData}
    {m : Str → Option Value} {j : Nat} {p0 p1 p2 p3 p4 p5 : Pos}
    (hoex : OexC K C) (M : Mod K mg base) (bk : ∀ b o, base.get? b = some o → h.get? b = some o) (hms : mg "super" = none) (hf : K.lookup f = some ⟨oc, od, .func fd, osl⟩) (hp : (fd.params.posonlyargs ++ fd.params.args).head? = some aa)
    (hcode : K.lookup cda = some ⟨ccl, cdd, .fields vs, ccs⟩) (hvs : vs[2]? = some (.str file tf)) (hfile : ((prog.main.file : Str) == file) = true) (hcell : K.lookup cc = some ⟨cl, cld, .cell (some (.ref C)), csl⟩) (hcd : PySem.W.clsIn K C = some cd)
    (hsub : PySem.W.mroIn K C (.ref C) = some true) (hsup : PySem.W.ks_superIn K C C "__init__" = some (some (.builtin "ValueError.__init__"))) (hisV : PySem.W.subIn K (.ref C) (.type "ValueError") = some true) (hsta : PySem.W.nsIn K cStatics "thirdparty.any" = some none)
    (hn : h.Ns L m) (hm : m aa.arg = some (.ref a)) (ha : h.get? a = some (HandSPX.excO C t0))
    (hks : scope.names.lookup ("super" : Str) = some .globalImplicit) (hkc : scope.names.lookup ("__class__" : Str) = some .free) (hka : scope.names.lookup aa.arg = some .local) (hk : scope.kind = .function) (htop : (prog.main.scope.names.lookup ("super" : Str)).isSome = false)
    (hsw : swapsWith (.Call (.Attribute (.Call (.Name "super" p0) [] [] p1) "__init__" p2) [.Constant (.str txt) j p3] [] p4) none p5.line (PySem.W.ksEnv qual scope L f (.ref cda) cc) = pure false := by rfl)
    (hint : interactive (PySem.W.ksEnv qual scope L f (.ref cda) cc) = false := by rfl) {pl : Sem Bool} (hev : eval (.Call (.Attribute (.Call (.Name "super" p0) [] [] p1) "__init__" p2) [.Constant (.str txt) j p3] [] p4) (PySem.W.ksEnv qual scope L f (.ref cda) cc) = (do
      let ov ← attributeBase (.Call (.Name "super" p0) [] [] p1) "__init__" (PySem.W.ksEnv qual scope L f (.ref cda) cc) (eval (.Call (.Name "super" p0) [] [] p1) (PySem.W.ksEnv qual scope L f (.ref cda) cc))
      standAt p2.atName
      let (fn, first) ← holding [ov] (getMethod ov "__init__" pl)
      callWith p4 fn first (backTo p4 (starEach [.Constant (.str txt) j p3] (PySem.W.ksEnv qual scope L f (.ref cda) cc))) []) := by rfl)
    {Q : Flow → Shared → Prop} (hq : ∀ h' t1 tk, (∀ b o, b ≠ a → h.get? b = some o → h'.get? b = some o) → h'.get? a = some (HandSPX.excO C t1) → Q .next ⟨h', g, d, tk, os⟩) :
    _root_.PySem.wpAt (model prog w) A (.func body0 (PySem.W.ksEnv qual scope L f (.ref cda) cc)) (exec (.Expr (.Call (.Attribute (.Call (.Name "super" p0) [] [] p1) "__init__" p2) [.Constant (.str txt) j p3] [] p4) p5) (PySem.W.ksEnv qual scope L f (.ref cda) cc)) Q E ⟨h, g, d, t, os⟩ := by
  have X : K.In h := M.kin.keeps bk
  obtain ⟨mb, hb1, hb2⟩ := M.blt
  obtain ⟨nm, q, N, bs, bm, sn, sub, ab, col, dd, k0, k1, k2, k3, k5, hC, hbm⟩ := hoex.cls
  have hCh := X _ _ hC
  have I : PySem.W.InstAt h a (HandSPX.excO C t0) C none := ⟨ha, rfl, rfl, trivial⟩
  have haC : a ≠ C := PySem.W.ks_ne X I hcd
  refine ks_wpAt_Expr_any (ks_wpAt_MethodCall (pl := pl) ?_ hev) hint hsw
  refine ks_wpAt_super_base (env := PySem.W.ksEnv qual scope L f (.ref cda) cc) hks hkc (by decide) rfl (X _ _ hf) rfl hp rfl (X _ _ hcode) rfl hvs hfile htop ?_
  refine PySem.W.ks_loadName_global hk hks (loadGlobal_builtin (env := PySem.W.ksEnv qual scope L f (.ref cda) cc) (M.glob.keeps bk) hms (hb1.keeps bk) ((hb2 _ (by decide)).trans (by rfl)) ⟨rfl, ?_⟩)
  refine wpAny_loadName_free hk hkc rfl ⟨_, X _ _ hcell, rfl⟩ ?_
  refine wpAny_loadName_local hk hka hn hm ?_
  refine ks_wpAny_isType_cls hCh rfl ⟨rfl, ?_⟩
  refine ks_wpAny_call_super hCh rfl ha rfl (fun c e => by cases e) (PySem.W.looks_mroIn X hsub) (fun h1 hso k1' => ?_)
  -- getMethod
  have X1 : K.In h1 := X.keeps k1'
  unfold PySem.W.ks_superIn at hsup
  rw [hcd] at hsup
  have I1 : PySem.W.InstAt h1 a (HandSPX.excO C t0) C none := ⟨k1' _ _ ha, rfl, rfl, trivial⟩
  refine PySem.W.kxs_getMethod PySem.W.kxs_ValueError hso (PySem.W.looks_opaque X1 hsta) (l₀ := cd.mro) (fun A Q E s k q => wpAny_bind ((PySem.W.looks_clsIn X1 hcd) A _ E s k (wpAny_pure q))) rfl X1 hsup (I1.type.andThen (PySem.W.looks_subIn X1 hisV)) haC (by decide) ?_
  refine PySem.W.kxs_callWith (i := "ValueError.__init__") (x := a) rfl (evalArgs_plain (spliced_cons ?_))
  show wpAny _ _ (eval (.Constant (.str txt) j p3) _) _ _ _
  refine Calls.Constant_str (spliced_nil ?_)
  have k2' : ∀ b o, h.get? b = some o → (h1.push (PySem.W.kxs_mw "ValueError.__init__" a)).get? b = some o := fun b o e => Heap.get?_push_of_some _ (k1' b o e)
  refine ⟨Heap.get?_push_at rfl rfl, ?_⟩
  refine call_mwV (k2' _ _ hCh) (k2' _ _ ha) (Heap.get?_push_at rfl rfl) (by show 1 ≤ sizeLine; decide) fun h' t1 k3' e3 => hq h' t1 _ (fun b o hb e => k3' b o hb (k2' b o e)) e3

abbrev excD (C t : Addr) (dx : Addr) : Obj := { cls := .ref C, dict := some dx, data := .fields #[.ref t, .none, .none, .none, .bool false, .none] }
/-- self.f = x, the first field -/
theorem xi_new {K : Frag} {env : Env} {m : Str → Option Value} {a C t1 : Addr} {self x f : Str} {u : Value} {p p' p2 pos : Pos} {Q : Flow → Shared → Prop} (T : OexC K C) (X : K.In h) (hn : h.Ns env.locals m) (hs : m self = some (.ref a)) (hx : m x = some u)
    (ha : h.get? a = some (HandSPX.excO C t1)) (hno : PySem.W.findIn K (.ref C) f = some none) (hk : env.scope.kind = .function) (hl1 : env.kindOf self = some .local) (hl2 : env.kindOf x = some .local) (hd1 : (self == ("__debug__" : Str)) = false) (hd2 : (x == ("__debug__" : Str)) = false)
    (hsw : swapsWith (.Name x p2) (some (.Attribute (.Name self p) f p')) pos.line env = pure false)
    (hq : ∀ h' tk dx, (∀ b o, b ≠ a → h.get? b = some o → h'.get? b = some o) → h.objs.size ≤ dx → dx ≠ a → h'.get? a = some (excD C t1 dx) → h'.Ns1 dx (fun y => if y = f then some u else none) → Q .next ⟨h', g, d, tk, os⟩) :
    wpAny (model prog w) A (exec (.Assign [.Attribute (.Name self p) f p'] (.Name x p2) pos) env) Q E ⟨h, g, d, t, os⟩ := by
  obtain ⟨nm, q, N, bs, bm, sn, sub, ab, col, dd, k0, k1, k2, k3, k5, hC, hbm⟩ := T.cls
  have hcl : PySem.W.clsIn K C = some { name := nm, bases := bs, mro := .ref C :: bm, ns := N, qualname := q, hasDict := true, slotNames := sn, subclasses := sub, abstract := ab, collection := col, hasDel := false } := by unfold PySem.W.clsIn; rw [hC] <;> rfl
  refine plainObj_wpAny_Assign_Attribute (ESX.ldL hn hx (ESX.ldL hn hs ?_ hk hl1 hd1) hk hl2 hd2) hsw
  refine PySem.W.set_plain X (ox := HandSPX.excO C t1) (od := none) ⟨ha, rfl, rfl, trivial⟩ T.sa ?_
  exact PySem.HandSPX.exc_osa X ha hcl (show PySem.HandSPX.refsVE (.ref C :: bm) = true from hbm) rfl hno fun h' tk' dx k dn dne hx hn => hq h' tk' dx k dn dne hx hn
/-- self.f = x, a further one -/
theorem xi_old {K : Frag} {env : Env} {m mA : Str → Option Value} {nl : List Str} {a C t1 dx : Addr} {self x f : Str} {u : Value} {p p' p2 pos : Pos} {Q : Flow → Shared → Prop} (T : OexC K C) (X : K.In h) (hn : h.Ns env.locals m) (hs : m self = some (.ref a)) (hx : m x = some u)
    (ha : h.get? a = some (excD C t1 dx)) (hns : h.Ns1 dx mA) (hw : Within mA nl) (hz : nl.length ≤ 1000) (hno : PySem.W.findIn K (.ref C) f = some none) (hk : env.scope.kind = .function) (hl1 : env.kindOf self = some .local) (hl2 : env.kindOf x = some .local) (hd1 : (self == ("__debug__" : Str)) = false) (hd2 : (x == ("__debug__" : Str)) = false)
    (hsw : swapsWith (.Name x p2) (some (.Attribute (.Name self p) f p')) pos.line env = pure false)
    (hq : ∀ h' tk, (∀ b o, b ≠ dx → h.get? b = some o → h'.get? b = some o) → h'.Ns1 dx (fun y => if y = f then some u else mA y) → Q .next ⟨h', g, d, tk, os⟩) :
    wpAny (model prog w) A (exec (.Assign [.Attribute (.Name self p) f p'] (.Name x p2) pos) env) Q E ⟨h, g, d, t, os⟩ := by
  obtain ⟨nm, q, N, bs, bm, sn, sub, ab, col, dd, k0, k1, k2, k3, k5, hC, hbm⟩ := T.cls
  have hcl : PySem.W.clsIn K C = some { name := nm, bases := bs, mro := .ref C :: bm, ns := N, qualname := q, hasDict := true, slotNames := sn, subclasses := sub, abstract := ab, collection := col, hasDel := false } := by unfold PySem.W.clsIn; rw [hC] <;> rfl
  obtain ⟨oD, _, _, hoD, _, _⟩ := hns.count hw
  refine plainObj_wpAny_Assign_Attribute (ESX.ldL hn hx (ESX.ldL hn hs ?_ hk hl1 hd1) hk hl2 hd2) hsw
  refine PySem.W.set_plain X (ox := excD C t1 dx) (od := some oD) ⟨ha, rfl, rfl, hoD⟩ T.sa ?_
  exact PySem.OEX.osa_old X ha hns hw hz hcl (show PySem.HandSPX.refsVE (.ref C :: bm) = true from hbm) rfl hno fun h' tk' k hn => hq h' tk' k hn
end
/-- the end of such an __init__ -/
theorem xi_end {P : Program} {w : World} {H : Hp} {hp h' : Heap} {fs : List Addr} {a C dx t1 : Addr} {flds : List (Str × V)} {mA : Str → Option Value} (hok : HOk P w H hp) (e : H a = some (exo a C none)) (k : ∀ b o, b ≠ a → hp.get? b = some o → h'.get? b = some o) (dn : hp.objs.size ≤ dx) (dne : dx ≠ a)
    (hx : h'.get? a = some (excD C t1 dx)) (hn : h'.Ns1 dx mA) (r : ∀ f, RelO (flds.lookup f) (mA f)) :
    Un fs [] H (upd (upd H dx (exd dx flds)) a (exo a C (some dx))) hp h' ∧ HOk P w (upd (upd H dx (exd dx flds)) a (exo a C (some dx))) h' := by
  have hnd : H dx = none := hok.fresh dn
  have nd : ∀ {b : Addr} {o : Obj}, hp.get? b = some o → b ≠ dx := fun {b o} q => Nat.ne_of_lt (Nat.lt_of_lt_of_le (Heap.lt_size q) dn)
  have na : ∀ {b : Addr}, H b = none → b ≠ a := fun {b} n z => by
    rw [z, e] at n
    cases n
  refine ⟨{
    keep := fun b o q n _ _ => k b o (na n) q
    slot := fun b o q n _ _ => ⟨o.slots, k b o (na n) q⟩
    free := fun b o q n _ => by rw [upd_ne (na n), upd_ne (nd q)]; exact n
    there := fun b o q _ => by
      by_cases hb : b = a
      · exact ⟨_, by rw [hb]; exact hx⟩
      · exact ⟨o, k b o hb q⟩
    tups := fun b xs q => by rw [upd_ne (at_ne e q exo_tup), upd_ne (ne_of_none q hnd)]; exact q
    frzs := fun b o v q => by rw [upd_ne (at_ne e q exo_frz), upd_ne (ne_of_none q hnd)]; exact q
    tbls := fun b ps q => ⟨#[], by rw [upd_ne (at_ne e q exo_tbl), upd_ne (ne_of_none q hnd), q]; simp⟩ }, fun b o q => ?_⟩
  by_cases hb : b = a
  · subst hb
    rw [upd_same] at q
    cases q
    exact exo_ok hx
  · rw [upd_ne hb] at q
    by_cases hd : b = dx
    · subst hd
      rw [upd_same] at q
      cases q
      exact exd_ok hn r
    · rw [upd_ne hd] at q
      exact (hok b o q).stay (fun c v hc z => k c v (by
          rcases hc with hc | hc
          · rw [hc]
            exact hb
          · exact at_ne e hc exo_own) z)
        (fun c hc => by rw [upd_ne (at_ne e hc exo_own), upd_ne (ne_of_none hc hnd)]; exact hc) (fun c xs hc => by rw [upd_ne (at_ne e hc exo_tup), upd_ne (ne_of_none hc hnd)]; exact hc)
abbrev supS (txt : Str) (j : Nat) (p0 p1 p2 p3 p4 p5 : Pos) : Stmt := .Expr (.Call (.Attribute (.Call (.Name "super" p0) [] [] p1) "__init__" p2) [.Constant (.str txt) j p3] [] p4) p5
abbrev fldS (self x f : Str) (p p' p2 pos : Pos) : Stmt := .Assign [.Attribute (.Name self p) f p'] (.Name x p2) pos
/-- the promise: the fields fs, the values in the order of the parameters -/
def spX (C : Addr) (fs : List Str) : Sp := fun vs H Q _ => ∃ (a : Addr) (ws : List V), vs = .ref a :: ws ∧ ws.length = fs.length ∧ H a = some (exo a C none) ∧ ∀ dx, H dx = none → dx ≠ a → Q .non (upd (upd H dx (exd dx (fs.zip ws).reverse)) a (exo a C (some dx)))
theorem fn_x1 {CX : CXT} {P : Program} {w : World} {K : Frag} {mg : Str → Option Value} {base : Heap} {C f : Addr} {ar x1 f1 qual txt : Str} {scope : Scope} {params : Arguments} {fd : FuncData} {j : Nat} {p0 p1 p2 p3 p4 p5 a0 b0 c0 d0 : Pos}
    (T : XcC P K C f ar qual (supS txt j p0 p1 p2 p3 p4 p5 :: [fldS ar x1 f1 a0 b0 c0 d0]) scope params fd) (hms : mg "super" = none)
    (hno0 : PySem.W.findIn K (.ref C) f1 = some none)
    (hks : scope.names.lookup ("super" : Str) = some .globalImplicit := by rfl) (hkc : scope.names.lookup ("__class__" : Str) = some .free := by rfl) (hk : scope.kind = .function := by rfl) (hl0 : scope.names.lookup ar = some .local := by rfl)
    (hl1 : scope.names.lookup x1 = some .local := by rfl) (hd1 : (x1 == ("__debug__" : Str)) = false := by decide) (hm1 : ∀ r u1 : Value, (([ar, x1].zip [r, u1]).reverse.lookup x1) = some u1 := by intro _ _; rfl)
    (hd0 : (ar == ("__debug__" : Str)) = false := by decide) (hm0 : ∀ r u1 : Value, (([ar, x1].zip [r, u1]).reverse.lookup ar) = some r := by intro _ _; rfl)
    (htop : (P.main.scope.names.lookup ("super" : Str)).isSome = false := by rfl) (hcl : ∀ y ∈ scope.names, y.2 ≠ .cell := by decide) (hco : scope.isCoroutine = false := by rfl) (hge : scope.isGenerator = false := by rfl)
    (hsw : ∀ L cd cc, swapsWith (.Call (.Attribute (.Call (.Name "super" p0) [] [] p1) "__init__" p2) [.Constant (.str txt) j p3] [] p4) none p5.line (PySem.W.ksEnv qual scope L f cd cc) = pure false := by intro _ _ _; rfl)
    (hsw1 : ∀ L cd cc, swapsWith (.Name x1 c0) (some (.Attribute (.Name ar a0) f1 b0)) d0.line (PySem.W.ksEnv qual scope L f cd cc) = pure false := by intro _ _ _; rfl)
    (hint : ∀ L cd cc, interactive (PySem.W.ksEnv qual scope L f cd cc) = false := by intro _ _ _; rfl) {pl : Sem Bool} (hev : ∀ L cd cc, eval (.Call (.Attribute (.Call (.Name "super" p0) [] [] p1) "__init__" p2) [.Constant (.str txt) j p3] [] p4) (PySem.W.ksEnv qual scope L f cd cc) = (do
      let ov ← attributeBase (.Call (.Name "super" p0) [] [] p1) "__init__" (PySem.W.ksEnv qual scope L f cd cc) (eval (.Call (.Name "super" p0) [] [] p1) (PySem.W.ksEnv qual scope L f cd cc))
      standAt p2.atName
      let (fn, first) ← holding [ov] (getMethod ov "__init__" pl)
      callWith p4 fn first (backTo p4 (starEach [.Constant (.str txt) j p3] (PySem.W.ksEnv qual scope L f cd cc))) []) := by intro _ _ _; rfl) :
    FnOk P w K mg base CX 1 f fd [ar, x1] (spX C [f1]) := by
  obtain ⟨name, kV, dV, doc, pm, ct, oc, an, od, osl, cc, cda, aa, ccl, cl, cdd, cld, vs0, ccs, csl, file, tf, cd, e1, e2, e3, e4, e5, e6, e7, e8, e9, e10⟩ := T.ex
  refine ⟨fun vs H Q E ⟨a, ws, e, hl, _⟩ => by rw [e, List.length_cons, hl]; rfl, fun A outer s H args us vs Q E hr e0 hb r hsp => ?_⟩
  obtain ⟨a, ws, rfl, hl, ea, q⟩ := hsp
  obtain ⟨w1, rfl⟩ : ∃ w1, ws = [w1] := by
    match ws, hl with
    | [w1], _ => exact ⟨w1, rfl⟩
  obtain ⟨u0, u1, rfl, r0, r1⟩ := vals2 r
  obtain rfl : u0 = Value.ref a := r0
  have bk : ∀ b o, base.get? b = some o → s.heap.get? b = some o := fun b o e => (e0.bs b o e).1
  have KX : K.In s.heap := e0.mod.kin.keeps bk
  have lim : s.heap.NoLimit := e0.mod.nolimit.keeps bk
  obtain ⟨t0, hoe⟩ := exo_at e0.hok ea
  have hsz : a < s.heap.objs.size := Heap.lt_size hoe
  subst e1
  refine ks_codeAny_call_defAt hr.depth (KX _ _ e2) rfl lim (PySem.W.codeRec_of KX e3) rfl hb hcl (fun y hy => ?_) (fun h₀ hns hk₀ => ?_) hco hge hk
  · have hy' : y ∈ [(ar, Value.ref a), (x1, u1)] := hy
    simp only [List.mem_cons, List.not_mem_nil, or_false] at hy'
    rcases hy' with rfl | rfl
    · exact hl0
    · exact hl1
  have hla : s.heap.objs.size ≠ a := Nat.ne_of_gt hsz
  have bk0 : ∀ b o, base.get? b = some o → h₀.get? b = some o := fun b o e => hk₀ b o (bk b o e)
  refine ks_wpAt_execs_cons (xi_super (ar := ar) (cc := cc) (cda := cda) (a := a) T.oex e0.mod bk0 hms e2 e4 e6 e7 e8 e9 e10 T.sub T.sup T.isV T.sta hns (by rw [e5]; exact hm0 _ u1) (hk₀ _ _ hoe) hks hkc (by rw [e5]; exact hl0) hk htop (hsw _ _ _) (hint _ _ _) (hev _ _ _) fun h1 t1 tk k1 g1 => ?_)
  have K1 : K.In h1 := fun b o e => by
    refine k1 b o (fun z => ?_) (hk₀ b o (KX b o e))
    have := (e0.bs b o (e0.mod.kin b o e)).2
    rw [z, ea] at this; cases this
  have n1 : h1.Ns s.heap.objs.size (fun y => ([(ar, Value.ref a), (x1, u1)] : List (Str × Value)).reverse.lookup y) := hns.at fun o e => k1 _ o hla e
  have s1 : s.heap.objs.size < h1.objs.size := by
    obtain ⟨oL, _, _, hL, _⟩ := n1
    exact Heap.lt_size hL
  refine wpAt_of_wpAny ?_
  refine wpAny_execs_cons (xi_new (env := PySem.W.ksEnv qual scope s.heap.objs.size f (.ref cda) cc) T.oex K1 n1 (hm0 _ u1) (hm1 _ u1) g1 hno0 hk hl0 hl1 hd0 hd1 (hsw1 _ _ _) fun h2 tk2 dx k2 dn dne g2 ns2 => ?_)
  refine wpAny_execs_nil ?_
  obtain ⟨un, hk2⟩ := xi_end (fs := frs outer) (flds := [(f1, w1)]) e0.hok ea (fun b o hb e => k2 b o hb (k1 b o hb (hk₀ b o e))) (Nat.le_trans (Nat.le_of_lt s1) dn) dne g2 ns2 (relO_put (fs := []) r1 fun g => True.intro)
  exact ⟨.non, _, rfl, e0.bare, un, hk2, rfl, q dx (e0.hok.fresh (Nat.le_trans (Nat.le_of_lt s1) dn)) dne⟩
theorem fn_x2 {CX : CXT} {P : Program} {w : World} {K : Frag} {mg : Str → Option Value} {base : Heap} {C f : Addr} {ar x1 x2 f1 f2 qual txt : Str} {scope : Scope} {params : Arguments} {fd : FuncData} {j : Nat} {p0 p1 p2 p3 p4 p5 a0 b0 c0 d0 a1 b1 c1 d1 : Pos}
    (T : XcC P K C f ar qual (supS txt j p0 p1 p2 p3 p4 p5 :: [fldS ar x1 f1 a0 b0 c0 d0, fldS ar x2 f2 a1 b1 c1 d1]) scope params fd) (hms : mg "super" = none)
    (hno0 : PySem.W.findIn K (.ref C) f1 = some none)
    (hno1 : PySem.W.findIn K (.ref C) f2 = some none)
    (hks : scope.names.lookup ("super" : Str) = some .globalImplicit := by rfl) (hkc : scope.names.lookup ("__class__" : Str) = some .free := by rfl) (hk : scope.kind = .function := by rfl) (hl0 : scope.names.lookup ar = some .local := by rfl)
    (hl1 : scope.names.lookup x1 = some .local := by rfl) (hd1 : (x1 == ("__debug__" : Str)) = false := by decide) (hm1 : ∀ r u1 u2 : Value, (([ar, x1, x2].zip [r, u1, u2]).reverse.lookup x1) = some u1 := by intro _ _ _; rfl)
    (hl2 : scope.names.lookup x2 = some .local := by rfl) (hd2 : (x2 == ("__debug__" : Str)) = false := by decide) (hm2 : ∀ r u1 u2 : Value, (([ar, x1, x2].zip [r, u1, u2]).reverse.lookup x2) = some u2 := by intro _ _ _; rfl)
    (hd0 : (ar == ("__debug__" : Str)) = false := by decide) (hm0 : ∀ r u1 u2 : Value, (([ar, x1, x2].zip [r, u1, u2]).reverse.lookup ar) = some r := by intro _ _ _; rfl)
    (htop : (P.main.scope.names.lookup ("super" : Str)).isSome = false := by rfl) (hcl : ∀ y ∈ scope.names, y.2 ≠ .cell := by decide) (hco : scope.isCoroutine = false := by rfl) (hge : scope.isGenerator = false := by rfl)
    (hsw : ∀ L cd cc, swapsWith (.Call (.Attribute (.Call (.Name "super" p0) [] [] p1) "__init__" p2) [.Constant (.str txt) j p3] [] p4) none p5.line (PySem.W.ksEnv qual scope L f cd cc) = pure false := by intro _ _ _; rfl)
    (hsw1 : ∀ L cd cc, swapsWith (.Name x1 c0) (some (.Attribute (.Name ar a0) f1 b0)) d0.line (PySem.W.ksEnv qual scope L f cd cc) = pure false := by intro _ _ _; rfl)
    (hsw2 : ∀ L cd cc, swapsWith (.Name x2 c1) (some (.Attribute (.Name ar a1) f2 b1)) d1.line (PySem.W.ksEnv qual scope L f cd cc) = pure false := by intro _ _ _; rfl)
    (hint : ∀ L cd cc, interactive (PySem.W.ksEnv qual scope L f cd cc) = false := by intro _ _ _; rfl) {pl : Sem Bool} (hev : ∀ L cd cc, eval (.Call (.Attribute (.Call (.Name "super" p0) [] [] p1) "__init__" p2) [.Constant (.str txt) j p3] [] p4) (PySem.W.ksEnv qual scope L f cd cc) = (do
      let ov ← attributeBase (.Call (.Name "super" p0) [] [] p1) "__init__" (PySem.W.ksEnv qual scope L f cd cc) (eval (.Call (.Name "super" p0) [] [] p1) (PySem.W.ksEnv qual scope L f cd cc))
      standAt p2.atName
      let (fn, first) ← holding [ov] (getMethod ov "__init__" pl)
      callWith p4 fn first (backTo p4 (starEach [.Constant (.str txt) j p3] (PySem.W.ksEnv qual scope L f cd cc))) []) := by intro _ _ _; rfl) :
    FnOk P w K mg base CX 1 f fd [ar, x1, x2] (spX C [f1, f2]) := by
  obtain ⟨name, kV, dV, doc, pm, ct, oc, an, od, osl, cc, cda, aa, ccl, cl, cdd, cld, vs0, ccs, csl, file, tf, cd, e1, e2, e3, e4, e5, e6, e7, e8, e9, e10⟩ := T.ex
  refine ⟨fun vs H Q E ⟨a, ws, e, hl, _⟩ => by rw [e, List.length_cons, hl]; rfl, fun A outer s H args us vs Q E hr e0 hb r hsp => ?_⟩
  obtain ⟨a, ws, rfl, hl, ea, q⟩ := hsp
  obtain ⟨w1, w2, rfl⟩ : ∃ w1 w2, ws = [w1, w2] := by
    match ws, hl with
    | [w1, w2], _ => exact ⟨w1, w2, rfl⟩
  obtain ⟨u0, u1, u2, rfl, r0, r1, r2⟩ : ∃ u0 u1 u2, us = [u0, u1, u2] ∧ RelV (V.ref a) u0 ∧ RelV w1 u1 ∧ RelV w2 u2 := by
    cases r with
    | cons r0 rr => cases rr with
      | cons r1 rr => cases rr with
        | cons r2 rr => cases rr; exact ⟨_, _, _, rfl, r0, r1, r2⟩
  obtain rfl : u0 = Value.ref a := r0
  have bk : ∀ b o, base.get? b = some o → s.heap.get? b = some o := fun b o e => (e0.bs b o e).1
  have KX : K.In s.heap := e0.mod.kin.keeps bk
  have lim : s.heap.NoLimit := e0.mod.nolimit.keeps bk
  obtain ⟨t0, hoe⟩ := exo_at e0.hok ea
  have hsz : a < s.heap.objs.size := Heap.lt_size hoe
  subst e1
  refine ks_codeAny_call_defAt hr.depth (KX _ _ e2) rfl lim (PySem.W.codeRec_of KX e3) rfl hb hcl (fun y hy => ?_) (fun h₀ hns hk₀ => ?_) hco hge hk
  · have hy' : y ∈ [(ar, Value.ref a), (x1, u1), (x2, u2)] := hy
    simp only [List.mem_cons, List.not_mem_nil, or_false] at hy'
    rcases hy' with rfl | rfl | rfl
    · exact hl0
    · exact hl1
    · exact hl2
  have hla : s.heap.objs.size ≠ a := Nat.ne_of_gt hsz
  have bk0 : ∀ b o, base.get? b = some o → h₀.get? b = some o := fun b o e => hk₀ b o (bk b o e)
  refine ks_wpAt_execs_cons (xi_super (ar := ar) (cc := cc) (cda := cda) (a := a) T.oex e0.mod bk0 hms e2 e4 e6 e7 e8 e9 e10 T.sub T.sup T.isV T.sta hns (by rw [e5]; exact hm0 _ u1 u2) (hk₀ _ _ hoe) hks hkc (by rw [e5]; exact hl0) hk htop (hsw _ _ _) (hint _ _ _) (hev _ _ _) fun h1 t1 tk k1 g1 => ?_)
  have K1 : K.In h1 := fun b o e => by
    refine k1 b o (fun z => ?_) (hk₀ b o (KX b o e))
    have := (e0.bs b o (e0.mod.kin b o e)).2
    rw [z, ea] at this; cases this
  have n1 : h1.Ns s.heap.objs.size (fun y => ([(ar, Value.ref a), (x1, u1), (x2, u2)] : List (Str × Value)).reverse.lookup y) := hns.at fun o e => k1 _ o hla e
  have s1 : s.heap.objs.size < h1.objs.size := by
    obtain ⟨oL, _, _, hL, _⟩ := n1
    exact Heap.lt_size hL
  refine wpAt_of_wpAny ?_
  refine wpAny_execs_cons (xi_new (env := PySem.W.ksEnv qual scope s.heap.objs.size f (.ref cda) cc) T.oex K1 n1 (hm0 _ u1 u2) (hm1 _ u1 u2) g1 hno0 hk hl0 hl1 hd0 hd1 (hsw1 _ _ _) fun h2 tk2 dx k2 dn dne g2 ns2 => ?_)
  have K2 : K.In h2 := fun b o e => by
    refine k2 b o (fun z => ?_) (K1 b o e)
    have := (e0.bs b o (e0.mod.kin b o e)).2
    rw [z, ea] at this; cases this
  have n2 : h2.Ns s.heap.objs.size (fun y => ([(ar, Value.ref a), (x1, u1), (x2, u2)] : List (Str × Value)).reverse.lookup y) := n1.at fun o e => k2 _ o hla e
  have rel1 : ∀ y, RelO (([(f1, w1)] : List (Str × V)).lookup y) (if y = f1 then some u1 else none) := relO_put (fs := []) r1 fun g => True.intro
  refine wpAny_execs_cons (xi_old (env := PySem.W.ksEnv qual scope s.heap.objs.size f (.ref cda) cc) T.oex K2 n2 (hm0 _ u1 u2) (hm2 _ u1 u2) g2 ns2 (within_of rel1) (by simp) hno1 hk hl0 hl2 hd0 hd2 (hsw2 _ _ _) fun h3 tk3 k3 ns3 => ?_)
  refine wpAny_execs_nil ?_
  have kd : ∀ b o, s.heap.get? b = some o → b ≠ dx := fun b o e => Nat.ne_of_lt (Nat.lt_of_lt_of_le (Heap.lt_size e) (Nat.le_trans (Nat.le_of_lt s1) dn))
  obtain ⟨un, hk2⟩ := xi_end (fs := frs outer) (flds := [(f2, w2), (f1, w1)]) e0.hok ea (fun b o hb e => k3 b o (kd b o e) (k2 b o hb (k1 b o hb (hk₀ b o e)))) (Nat.le_trans (Nat.le_of_lt s1) dn) dne (k3 a _ (Ne.symm dne) g2) ns3 (relO_put r2 rel1)
  exact ⟨.non, _, rfl, e0.bare, un, hk2, rfl, q dx (e0.hok.fresh (Nat.le_trans (Nat.le_of_lt s1) dn)) dne⟩
end KI

/-! part KI16 -/
set_option Elab.async false
set_option linter.all false
set_option maxRecDepth 100000
set_option maxHeartbeats 4000000
namespace KI
open PySem PySem.Spec PySem.Calls PyProof.Rows L2

/-! ## raise C(..) -/
structure FnX (P : Program) (w : World) (K : Frag) (mg : Str → Option Value) (base : Heap) (c : Str) (fs : List Str) : Prop where
  mgc : mg c = some (.ref (He.ga K c))
  oex : OexC K (He.ga K c)
  ex : ∃ (f : Addr) (fd : FuncData) (ps : List Str), PySem.W.findIn K (.ref (He.ga K c)) "__init__" = some (some (.ref f)) ∧ PySem.W.typeIn K (.ref f) = some (.type "function") ∧ FnOk P w K mg base (L2.CX P w) 1 f fd ps (spX (He.ga K c) fs) ∧ Binds K fd ps []
def raiseS (c : Str) (fs : List Str) (fa : AF) : SF := fun env st => liftS (fa env st) env fun ps st' => if ps.length = fs.length ∧ ps.length ≤ 1000 then .exc c fs.reverse ps.reverse env st' else .stuck
theorem RepL.reverse {K : Frag} {F : Hp} : ∀ {ps : List PV} {vs : List V}, RepL K F ps vs → RepL K F ps.reverse vs.reverse
  | [], _, h => by cases (show _ = ([] : List V) from h); exact rfl
  | p :: ps, _, ⟨v, r, h1, h2, h3⟩ => by
    subst h1
    rw [List.reverse_cons, List.reverse_cons]
    exact h3.reverse.append (RepL.one h2)
theorem zip_rev {α β : Type} : ∀ {as : List α} {bs : List β}, as.length = bs.length → (as.zip bs).reverse = as.reverse.zip bs.reverse
  | [], [], _ => rfl
  | a :: as, b :: bs, h => by
    rw [List.zip_cons_cons, List.reverse_cons, List.reverse_cons, List.reverse_cons, zip_rev (by simpa using h), List.zip_append (by simpa using h)]
    rfl
theorem passF {X : Cx} : Passes (L2.CX X.prog X.w) X (fun _ _ _ => False) := fun _ _ _ _ _ _ _ ⟨_, _, _, _, _, _, _, _, _, _, _, _, z⟩ => z.elim
theorem qs_raise {X : Cx} {B : Bs} {W : WX} {c : Str} {fs : List Str} {ms : List Md} {e : Expr} {es : List Expr} {fa : AF} {p pos pos2 : Pos} (hf : FnX X.prog X.w X.K X.mg X.base c fs) (hc : X.calm = true) (tk : Takes X W) (hr : Room 2 X.A) (ha : QA X B W ms (e :: es) fa)
    (hms : ms.all (fun m => match m with | .val => true | _ => false) = true := by rfl) (hg : Gl X c := by rfl) (hdb : (c == ("__debug__" : Str)) = false := by decide) (he : starEach (e :: es) X.env = (false, eval e X.env) :: starEach es X.env := by rfl) (hpl : (backTo pos (starEach es X.env)).any (·.1) = false := by rfl) :
    QS X B W (.Raise (some (.Call (.Name c p) (e :: es) [] pos)) none pos2) (raiseS c fs fa) := by
  obtain ⟨f, fd, ps, iC, tI, F1, hb⟩ := hf.ex
  refine ⟨ps_imp (ps_raise hc tk (pmk_oex hf.oex iC tI F1 hr hb .nil passF hg hf.mgc ha.pa hdb he hpl)) fun D σ H ⟨F, env, st, g, q⟩ => ⟨F, env, st, g, q.lift.mono fun qs st1 F1 H1 s1 g1 r vs hvs => ?_⟩⟩
  have hrep := hvs.vals hms
  by_cases hl : qs.length = fs.length ∧ qs.length ≤ 1000
  · rw [if_pos hl] at r
    obtain ⟨hl, hz⟩ := hl
    have hlv : vs.length = fs.length := hrep.length.symm.trans hl
    refine ⟨hrep.length ▸ hz, fun a ha => ⟨a, vs ++ [], rfl, by rw [List.append_nil]; exact hlv, upd_same, fun dx hdx hne => ⟨rfl, dx, _, upd_same, by rw [upd_ne hne, upd_same], by rw [upd_ne hne] at hdx; exact hdx, ?_⟩⟩⟩
    have hdx1 : H1 dx = none := by rw [upd_ne hne] at hdx; exact hdx
    have eH : upd (del (upd (upd (upd H1 a (exo a (He.ga X.K c) none)) dx (exd dx (fs.zip (vs ++ [])).reverse)) a (exo a (He.ga X.K c) (some dx))) a) dx (.xd (fs.zip (vs ++ [])).reverse) = upd H1 dx (.xd (fs.reverse.zip vs.reverse)) := by
      rw [List.append_nil, zip_rev hlv.symm]
      funext b
      by_cases hb : b = dx
      · subst hb; rw [upd_same, upd_same]
      · rw [upd_ne hb, upd_ne hb]
        by_cases hba : b = a
        · subst hba; rw [del_same]; exact ha.symm
        · rw [del_ne hba, upd_ne hba, upd_ne hb, upd_ne hba]
    rw [eH]
    exact r σ (upd F1 dx (.xd (fs.reverse.zip vs.reverse))) _ dx vs.reverse (Same.upd_new (g1.fnone hdx1)) (g1.alloc hdx1) upd_same (by simp [hlv]) (RepL.mono (Same.upd_new (g1.fnone hdx1)) _ _ hrep.reverse)
  · rw [if_neg hl] at r; exact r.elim

/-! ## try: .. except X as n: .. -/
/-- what the clauses wish of an exception of the body, one after the other; with a name: the slot -/
def wAll (K : Frag) (Wout : WX) (D : Ends) : List (Value × Option Nat × (Addr → Value → Option Addr → TS)) → WX
  | [] => Wout
  | (c, none, ts) :: r => fun cls d σ H => ∃ b, PySem.W.exmOne K cls c = some b ∧ (b = true → ∀ a, H a = none → ts a cls d D σ H) ∧ (b = false → wAll K Wout D r cls d σ H)
  | (c, some i, ts) :: r => fun cls d σ H => ∃ b, PySem.W.exmOne K cls c = some b ∧ (b = true → ∀ a, H a = none → ts a cls d { nx := fun σ' H' => D.nx (σ'.set i none) H', rt := D.rt, bk := fun σ' H' => D.bk (σ'.set i none) H', ct := fun σ' H' => D.ct (σ'.set i none) H' } (σ.set i (some (.ref a))) H) ∧ (b = false → wAll K Wout D r cls d σ H)
inductive HX (X : Cx) : List ExceptHandler → List (Value × Option Nat × (Addr → Value → Option Addr → TS)) → Prop
  | nil : HX X [] []
  | no {x : Str} {c : Value} {ts : Addr → Value → Option Addr → TS} {b₀ : Stmt} {suite : List Stmt} {np pos' : Pos} {hds : List ExceptHandler} {l : List (Value × Option Nat × (Addr → Value → Option Addr → TS))} (hc : Names X x c)
      (hsu : ∀ (a : Addr) (oe : Obj) (cls : Value) (d : Option Addr) (pn : List (Addr × Obj)), Zc cls d oe → (∃ vs, oe.data = .fields vs) → PSs (X.suite a ((a, oe) :: pn)) (b₀ :: suite) (ts a cls d)) (r : HX X hds l) :
      HX X (.ExceptHandler (some (.Name x np)) none (b₀ :: suite) pos' :: hds) ((c, none, ts) :: l)
  | as {x n : Str} {i : Nat} {c : Value} {ts : Addr → Value → Option Addr → TS} {b₀ : Stmt} {suite : List Stmt} {np pos' : Pos} {hds : List ExceptHandler} {l : List (Value × Option Nat × (Addr → Value → Option Addr → TS))} (hc : Names X x c) (hi : X.N[i]? = some n) (hln : X.env.kindOf n = some .local)
      (hsu : ∀ (a : Addr) (oe : Obj) (cls : Value) (d : Option Addr) (pn : List (Addr × Obj)), Zc cls d oe → (∃ vs, oe.data = .fields vs) → PSs (X.suite a ((a, oe) :: pn)) (b₀ :: suite) (ts a cls d)) (r : HX X hds l) :
      HX X (.ExceptHandler (some (.Name x np)) (some n) (b₀ :: suite) pos' :: hds) ((c, some i, ts) :: l)
section
variable {X : Cx} {body : List Stmt} {h₀ : ExceptHandler} {hds : List ExceptHandler} {l : List (Value × Option Nat × (Addr → Value → Option Addr → TS))} {pos : Pos} {tb : WX → TS} {Wout : WX}
theorem ps_try_hx (hs : X.stack = X.env :: X.outer) (hf : X.env.frame = some X.env.locals) (hN : X.N.Nodup) (tk : Takes X Wout)
    (hb : ∀ (W : WX) (pn : List (Addr × Obj)) (xe : Value → Shared → Prop), Takes (X.tr pn xe) W → PassesOwn (model X.prog X.w) X.A X.env xe → PSs (X.tr pn xe) body (tb W))
    (hh : HX X (h₀ :: hds) l) : PS X (.Try body (h₀ :: hds) [] [] pos) (fun D σ H => tb (wAll X.K Wout D l) D σ H) := by
  refine ⟨fun pins s σ H D I h => ?_⟩
  have ok := I.ok
  have hfr : X.A.frames = some (X.env :: X.outer) := by rw [ok.frames, hs]
  refine wpAny_Try_except ?_
  refine wpAny_mono ((hb (wAll X.K Wout D l) (X.pn ++ pins) (fun e s₁ => wpAny (model X.prog X.w) X.A (noteFrame e X.env) (fun _ s₂ => wpAny (model X.prog X.w) X.A (setFlight e none) (fun _ s₃ =>
    wpAny (model X.prog X.w) X.A (handleBy e X.env (h₀ :: hds)) (SP X pins D) X.xe s₃) X.xe s₂) X.xe s₁) (fun u s' xx => ?_) PassesOwn.looking).run [] s σ H D (I.toTry _) h) (fun f s1 hsp => ?_) (fun e s1 he => he)
  · obtain ⟨a, B, sI, pins', σ', H', cls, d, rfl, J', nb, up, sky, na, os, ag, w⟩ := xx
    have J : Inv X pins σ' H' sI := J'.ofTry ok
    have sky' : Sky B (X.env :: X.outer) a (Zc cls d) X.env.locals s'.heap := by rw [← hs]; exact sky
    show wpAny (model X.prog X.w) X.A (noteFrame (.ref a) X.env) _ _ _
    refine Sky.land Zc.steady hfr hf sky' fun h3 fl3 up3 => ?_
    have J3 : Inv X pins σ' H' { s' with heap := h3 } := J.landed nb fl3.1 (up.trans up3) os ag
    obtain ⟨oe3, vs3, he3, hz3, hd3⟩ := fl3.there
    have notFr : ∀ {h : Heap} {o : Obj} {vs : Array Value}, h.FunFrames B (X.env :: X.outer) → h.get? a = some o → o.data = .fields vs → a ∉ frs (X.env :: X.outer) := fun {h o vs} ff e dd hm => by
      obtain ⟨_, o', e', hnf⟩ := ff.mem hm
      rw [e] at e'; cases e'
      exact hnf _ dd
    have nfr := notFr fl3.2.2.1 he3 hd3
    have nL : a ≠ X.env.locals := fun z => nfr (List.mem_filterMap.mpr ⟨X.env, List.mem_cons_self, by rw [hf, z]⟩)
    have nF : a ∉ X.fs := fun hm => by
      obtain ⟨e, he, q⟩ := List.mem_filterMap.mp hm
      exact nfr (List.mem_filterMap.mpr ⟨e, List.mem_cons_of_mem _ he, q⟩)
    have S3 := J3.suite he3 hd3 na nL nF
    have go : ∀ {hds' : List ExceptHandler} {l' : List (Value × Option Nat × (Addr → Value → Option Addr → TS))}, HX X hds' l' → wAll X.K Wout D l' cls d σ' H' →
        wpAny (model X.prog X.w) X.A (handleBy (.ref a) X.env hds') (SP X pins D) X.xe { s' with heap := h3 } := by
      intro hds' l' hk
      induction hk with
      | nil =>
        intro w
        refine wpAny_handleBy_nil ?_
        obtain ⟨k1, k2, k3, oe, vs, T, oT, ts', he, hz, hd, h1, hr⟩ := id fl3
        unfold PySem.passOn
        refine wpAny_bind (wpAny_field he hd h1 ?_)
        rw [if_neg (show ¬ ((Value.ref T == Value.none) = true) from by simp)]
        have fin : wpAny (model X.prog X.w) X.A (setFlight (.ref a) X.env.frame) (fun _ s4 => wpAny (model X.prog X.w) X.A (throw (.ref a) : Sem Flow) (SP X pins D) X.xe s4) X.xe { s' with heap := h3 } := by
          rw [hf]
          refine HandSPX.setFlight_upZ fl3 fun h4 hh4 up4 => wpAny_throw (tk _ _ ?_)
          exact ⟨a, B, sI, pins, σ', H', cls, d, rfl, J, nb, (up.trans up3).trans up4, .inr (.inr (by rw [hs]; exact hh4)), na, os, ag, w⟩
        first
          | exact wpAny_bind (wpAny_pure (wpAny_bind fin))
          | exact wpAny_bind fin
      | @no x c ts b₀ suite np pos' hds2 l2 hc hsu r ih =>
        intro w
        obtain ⟨b, hb1, hyes, hno⟩ := w
        refine wpAny_handleBy_cons (codeAny_handlers_test ?_) (by intro q; cases q)
        have LT : PySem.W.Looks (model X.prog X.w) h3 (typeOf (.ref a)) cls := fun A Q E s k q => wpAny_typeOf_ref (k _ _ he3) (by rw [hz3.1]; exact q)
        have LM := PySem.W.exm_one (M := model X.prog X.w) (J3.kIn) LT hb1
        have test : ∀ {Q : Value → Shared → Prop} {E : Value → Shared → Prop}, Q c { s' with heap := h3 } → wpAny (model X.prog X.w) (X.A.mark (some (.ref a))) (eval (.Name x np) X.env) Q E { s' with heap := h3 } := fun {Q E} q => by
          obtain ⟨hg, hdbg, hm | ⟨hm, hv, hnn⟩⟩ := hc
          · exact ld_glob (X := X.suite a ((a, oe3) :: (X.pn ++ pins))) S3 hg hm q hdbg
          · exact ld_blt (X := X.suite a ((a, oe3) :: (X.pn ++ pins))) S3 hg hm hv q hnn hdbg
        refine test (LM.here ?_)
        cases b with
        | true =>
          refine codeAny_handlers_suite ?_
          refine HandSPX.lands_againZ fl3 fun h4 fl4 up4 => ?_
          have J4 : Inv X pins σ' H' { s' with heap := h4 } := J.landed nb fl4.1 ((up.trans up3).trans up4) os ag
          obtain ⟨oe4, vs4, he4, hz4, hd4⟩ := fl4.there
          have S4 := J4.suite he4 hd4 na nL nF
          refine wpAny_mono ((hsu a oe4 cls d (X.pn ++ pins) hz4 ⟨_, hd4⟩).run [] _ _ H' _ S4 (hyes rfl a na)) (fun f s6 hsp => ?_) (fun _ _ z => False.elim z)
          cases f with
          | next =>
            obtain ⟨σ6, H6, S6, q6⟩ := hsp
            exact ⟨_, _, S6.unsuite ok, q6⟩
          | brk =>
            obtain ⟨σ6, H6, S6, q6⟩ := hsp
            exact ⟨_, _, S6.unsuite ok, q6⟩
          | cont =>
            obtain ⟨σ6, H6, S6, q6⟩ := hsp
            exact ⟨_, _, S6.unsuite ok, q6⟩
          | ret u =>
            obtain ⟨v6, σ6, H6, S6, r6, q6⟩ := hsp
            exact ⟨_, _, _, S6.unsuite ok, r6, q6⟩
        | false =>
          show wpAny _ X.A (handleBy (.ref a) X.env hds2) _ _ _
          exact ih (hno rfl)
      | @as x n i c ts b₀ suite np pos' hds2 l2 hc hi hln hsu r ih =>
        intro w
        obtain ⟨b, hb1, hyes, hno⟩ := w
        have hloc : Loc X.env.scope n := .inl hln
        refine wpAny_handleBy_cons (codeAny_handlers_test ?_) (by intro q; cases q)
        have LT : PySem.W.Looks (model X.prog X.w) h3 (typeOf (.ref a)) cls := fun A Q E s k q => wpAny_typeOf_ref (k _ _ he3) (by rw [hz3.1]; exact q)
        have LM := PySem.W.exm_one (M := model X.prog X.w) (J3.kIn) LT hb1
        have test : ∀ {Q : Value → Shared → Prop} {E : Value → Shared → Prop}, Q c { s' with heap := h3 } → wpAny (model X.prog X.w) (X.A.mark (some (.ref a))) (eval (.Name x np) X.env) Q E { s' with heap := h3 } := fun {Q E} q => by
          obtain ⟨hg, hdbg, hm | ⟨hm, hv, hnn⟩⟩ := hc
          · exact ld_glob (X := X.suite a ((a, oe3) :: (X.pn ++ pins))) S3 hg hm q hdbg
          · exact ld_blt (X := X.suite a ((a, oe3) :: (X.pn ++ pins))) S3 hg hm hv q hnn hdbg
        refine test (LM.here ?_)
        cases b with
        | true =>
          refine codeAny_handlers_suite_as ?_
          refine HandSPX.lands_againZ fl3 fun h4 fl4 up4 => ?_
          have J4 : Inv X pins σ' H' { s' with heap := h4 } := J.landed nb fl4.1 ((up.trans up3).trans up4) os ag
          obtain ⟨oe4, vs4, he4, hz4, hd4⟩ := fl4.there
          have S4 := J4.suite he4 hd4 na nL nF
          refine store_ok (X := X.suite a ((a, oe4) :: (X.pn ++ pins))) (v := .ref a) S4 hN hi hloc rfl (fun s5 S5 => ?_) (.inr hln)
          refine wpAny_mono ((hsu a oe4 cls d (X.pn ++ pins) hz4 ⟨_, hd4⟩).run [] s5 _ H' _ S5 (hyes rfl a na)) (fun f s6 hsp => ?_) (fun _ _ z => False.elim z)
          have end_ : ∀ {σ6 : L2.St} {H6 : Hp} {Q : Shared → Prop}, Inv (X.suite a ((a, oe4) :: (X.pn ++ pins))) [] σ6 H6 s6 → (∀ s7, Inv X pins (σ6.set i none) H6 s7 → Q s7) →
              wpAny (model X.prog X.w) X.A (do bindName X.env n .none; unbindBehindTheSuite X.env n pos') (fun _ s7 => Q s7) X.xe s6 := fun {σ6 H6 Q} S6 hq => gone_ok (S6.unsuite ok) hN hi hln hq
          cases f with
          | next =>
            obtain ⟨σ6, H6, S6, q6⟩ := hsp
            exact end_ S6 fun s7 J7 => ⟨_, _, J7, q6⟩
          | brk =>
            obtain ⟨σ6, H6, S6, q6⟩ := hsp
            exact end_ S6 fun s7 J7 => ⟨_, _, J7, q6⟩
          | cont =>
            obtain ⟨σ6, H6, S6, q6⟩ := hsp
            exact end_ S6 fun s7 J7 => ⟨_, _, J7, q6⟩
          | ret u =>
            obtain ⟨v6, σ6, H6, S6, r6, q6⟩ := hsp
            exact end_ S6 fun s7 J7 => ⟨_, _, _, J7, r6, q6⟩
        | false =>
          show wpAny _ X.A (handleBy (.ref a) X.env hds2) _ _ _
          exact ih (hno rfl)
    exact go hh w
  · cases f with
    | next =>
      obtain ⟨σ', H', J', q⟩ := hsp
      exact wpAny_execs_nil ⟨σ', H', J'.ofTry ok, q⟩
    | brk =>
      obtain ⟨σ', H', J', q⟩ := hsp
      exact ⟨σ', H', J'.ofTry ok, q⟩
    | cont =>
      obtain ⟨σ', H', J', q⟩ := hsp
      exact ⟨σ', H', J'.ofTry ok, q⟩
    | ret u =>
      obtain ⟨v, σ', H', J', r, q⟩ := hsp
      exact ⟨v, σ', H', J'.ofTry ok, r, q⟩
end
end KI

/-! part KI17 -/
set_option Elab.async false
set_option linter.all false
set_option maxRecDepth 100000
set_option maxHeartbeats 4000000
namespace KI
open PySem PySem.Spec PySem.Calls PyProof.Rows L2

def noX (env : SEnv) : Bool := env.all fun s => match s with
  | .exc _ _ _ => false
  | _ => true
def goneS (i : Nat) : SR → SR
  | .nx env st => if noX (env.set i .dead) = true then .nx (env.set i .dead) st else .stuck
  | .brk env st => if noX (env.set i .dead) = true then .brk (env.set i .dead) st else .stuck
  | .ct env st => if noX (env.set i .dead) = true then .ct (env.set i .dead) st else .stuck
  | .ret p o env st => if noX (env.set i .dead) = true then .ret p o (env.set i .dead) st else .stuck
  | .exc _ _ _ _ _ => .stuck
  | .stuck => .stuck
def keptS : SR → SR
  | .exc _ _ _ _ _ => .stuck
  | r => r
def handS (tbl : Str → Str → Option Bool) : List (Str × Option Nat × SF) → Str → List Str → List PV → SEnv → PV → SR
  | [], c, ns, ps, env, st => .exc c ns ps env st
  | (x, none, h) :: r, c, ns, ps, env, st => match tbl c x with
    | none => .stuck
    | some true => keptS (h env st)
    | some false => handS tbl r c ns ps env st
  | (x, some i, h) :: r, c, ns, ps, env, st => match tbl c x with
    | none => .stuck
    | some true => if noX (env.set i .dead) = true then goneS i (h (env.set i (.exc c ns ps)) st) else .stuck
    | some false => handS tbl r c ns ps env st
def tryS (tbl : Str → Str → Option Bool) (g : SF) (hs : List (Str × Option Nat × SF)) : SF := fun env st => match g env st with
  | .exc c ns ps env1 st1 => handS tbl hs c ns ps env1 st1
  | r => r
section
variable {K : Frag} {B : Bs} {F H F' H' : Hp} {env : SEnv} {st st' : PV} {σ : Sg}
theorem noX_get {i : Nat} {s : Slot} (h : noX env = true) (e : env[i]? = some s) : ∀ c ns ps, s ≠ .exc c ns ps := fun c ns ps z => by
  have := List.all_eq_true.mp h s (List.mem_of_getElem? e)
  rw [z] at this; cases this
theorem Good.xa (g : Good K B F H env st σ) (h : noX env = true) (z : Option (Addr × Addr × Str)) : Good K { B with xa := z } F H env st σ :=
  ⟨g.le, g.le0, g.kept, g.there, g.frs, g.len, fun i s e => by
    obtain ⟨o, h1, h2⟩ := g.slots i s e
    refine ⟨o, h1, ?_⟩
    cases s with
    | exc c ns ps => exact absurd rfl (noX_get h e c ns ps)
    | _ => exact h2, g.sep, g.mt1⟩
theorem Good.goneX {a d : Addr} {c : Str} {i : Nat} (g : Good K { B with xa := some (a, d, c) } F H env st σ) (h : noX (env.set i .dead) = true) : Good K B F H (env.set i .dead) st (σ.set i none) := by
  have := (g.wipe [i]).xa (z := B.xa) h
  exact this
/-- the exception takes its slot -/
theorem Good.putX {a d : Addr} {c : Str} {ns : List Str} {ps : List PV} {vs : List V} {i : Nat} (g : Good K B F H env st σ) (h : noX (env.set i .dead) = true) (hd : F d = some (.xd (ns.zip vs))) (hl : ns.length = vs.length) (hr : RepL K F ps vs) :
    Good K { B with xa := some (a, d, c) } F H (env.set i (.exc c ns ps)) st (σ.set i (some (.ref a))) := by
  have g1 := (g.kill i).xa h (some (a, d, c))
  have g2 := g1.set i (v := .ref a) (s := .exc c ns ps) ⟨a, d, vs, rfl, rfl, hd, hl, hr⟩ fun z => nomatch z
  rw [List.set_set] at g2
  exact g2
end
section
variable {X : Cx} {B : Bs} {W : WX} {tbl : Str → Str → Option Bool}
inductive QH (X : Cx) (B : Bs) : List ExceptHandler → List (Str × Option Nat × SF) → Prop
  | nil : QH X B [] []
  | no {x : Str} {h : SF} {b₀ : Stmt} {suite : List Stmt} {np pos' : Pos} {hds : List ExceptHandler} {l : List (Str × Option Nat × SF)} (hc : Names X x (.ref (He.ga X.K x)))
      (hsu : ∀ (a : Addr) (oe : Obj) (pn : List (Addr × Obj)), QSs (X.suite a ((a, oe) :: pn)) B W0 (b₀ :: suite) h) (r : QH X B hds l) :
      QH X B (.ExceptHandler (some (.Name x np)) none (b₀ :: suite) pos' :: hds) ((x, none, h) :: l)
  | as {x n : Str} {i : Nat} {h : SF} {b₀ : Stmt} {suite : List Stmt} {np pos' : Pos} {hds : List ExceptHandler} {l : List (Str × Option Nat × SF)} (hc : Names X x (.ref (He.ga X.K x))) (hi : X.N[i]? = some n) (hln : X.env.kindOf n = some .local)
      (hsu : ∀ (a : Addr) (oe : Obj) (c : Str) (d : Addr) (pn : List (Addr × Obj)), Zc (.ref (He.ga X.K c)) (some d) oe → (∃ vs, oe.data = .fields vs) → QSs (X.suite a ((a, oe) :: pn)) { B with xa := some (a, d, c) } W0 (b₀ :: suite) h) (r : QH X B hds l) :
      QH X B (.ExceptHandler (some (.Name x np)) (some n) (b₀ :: suite) pos' :: hds) ((x, some i, h) :: l)
def tsOf (K : Frag) (B : Bs) : Str × Option Nat × SF → Value × Option Nat × (Addr → Value → Option Addr → TS)
  | (x, none, h) => (.ref (He.ga K x), none, fun _ _ _ => tS K B W0 h)
  | (x, some i, h) => (.ref (He.ga K x), some i, fun a cls d => fun D σ H => ∃ (c : Str) (dd : Addr), cls = .ref (He.ga K c) ∧ d = some dd ∧ tS K { B with xa := some (a, dd, c) } W0 h D σ H)
theorem QH.hx {hds : List ExceptHandler} {l : List (Str × Option Nat × SF)} (h : QH X B hds l) : HX X hds (l.map (tsOf X.K B)) := by
  induction h with
  | nil => exact .nil
  | no hc hsu r ih => exact .no hc (fun a oe cls d pn hz hf => (hsu a oe pn).pss) ih
  | as hc hi hln hsu r ih =>
    refine .as hc hi hln (fun a oe cls d pn hz hf => ⟨fun pins s σ H D I ⟨c, dd, e1, e2, q⟩ => ?_⟩) ih
    subst e1 e2
    exact (hsu a oe c dd pn hz hf).pss.run pins s σ H D I q
theorem kept_post {K : Frag} {W : WX} {D : Ends} {F : Hp} {r : SR} (h : SPost K B W D F (keptS r)) : SPost K B W0 D F r := by
  cases r with
  | exc c ns ps env st => exact h.elim
  | _ => exact h
theorem gone_post {K : Frag} {W : WX} {D : Ends} {F : Hp} {a d : Addr} {c : Str} {i : Nat} {r : SR} (h : SPost K B W D F (goneS i r)) :
    SPost K { B with xa := some (a, d, c) } W0 { nx := fun σ' H' => D.nx (σ'.set i none) H', rt := D.rt, bk := fun σ' H' => D.bk (σ'.set i none) H', ct := fun σ' H' => D.ct (σ'.set i none) H' } F r := by
  cases r with
  | nx env st =>
    unfold goneS at h
    dsimp only at h
    by_cases hz : noX (env.set i .dead) = true
    · rw [if_pos hz] at h; exact fun σ' F' H' s g => h _ F' H' s (g.goneX hz)
    · rw [if_neg hz] at h; exact h.elim
  | brk env st =>
    unfold goneS at h
    dsimp only at h
    by_cases hz : noX (env.set i .dead) = true
    · rw [if_pos hz] at h; exact fun σ' F' H' s g => h _ F' H' s (g.goneX hz)
    · rw [if_neg hz] at h; exact h.elim
  | ct env st =>
    unfold goneS at h
    dsimp only at h
    by_cases hz : noX (env.set i .dead) = true
    · rw [if_pos hz] at h; exact fun σ' F' H' s g => h _ F' H' s (g.goneX hz)
    · rw [if_neg hz] at h; exact h.elim
  | ret p o env st =>
    unfold goneS at h
    dsimp only at h
    by_cases hz : noX (env.set i .dead) = true
    · rw [if_pos hz] at h
      intro v σ' F' H' s g r
      exact h v _ F' H' s (g.goneX hz) r
    · rw [if_neg hz] at h; exact h.elim
  | exc c ns ps env st => exact h.elim
  | stuck => exact h.elim
theorem hand_post {D : Ends} {F : Hp} (htbl : ∀ c x b, tbl c x = some b → PySem.W.exmOne X.K (.ref (He.ga X.K c)) (.ref (He.ga X.K x)) = some b) {c : Str} {ns : List Str} {ps : List PV} {env : SEnv} {st : PV} {σ : Sg} {F' H' : Hp} {d : Addr} {vs : List V}
    (s : Same F F') (g : Good X.K B F' H' env st σ) (hd : F' d = some (.xd (ns.zip vs))) (hl : ns.length = vs.length) (hr : RepL X.K F' ps vs) : ∀ {l : List (Str × Option Nat × SF)}, SPost X.K B W D F (handS tbl l c ns ps env st) → wAll X.K W D (l.map (tsOf X.K B)) (.ref (He.ga X.K c)) (some d) σ H'
  | [], q => q σ F' H' d vs s g hd hl hr
  | (x, none, h) :: l, q => by
    unfold handS at q
    cases ht : tbl c x with
    | none => rw [ht] at q; exact q.elim
    | some b =>
      rw [ht] at q
      refine ⟨b, htbl _ _ _ ht, fun e a ha => ?_, fun e => ?_⟩
      · subst e
        exact ⟨F', env, st, g, SPost.mono s (kept_post q)⟩
      · subst e
        exact hand_post htbl s g hd hl hr q
  | (x, some i, h) :: l, q => by
    unfold handS at q
    cases ht : tbl c x with
    | none => rw [ht] at q; exact q.elim
    | some b =>
      rw [ht] at q
      refine ⟨b, htbl _ _ _ ht, fun e a ha => ?_, fun e => ?_⟩
      · subst e
        dsimp only at q
        by_cases hz : noX (env.set i .dead) = true
        · rw [if_pos hz] at q
          exact ⟨c, d, rfl, rfl, F', _, st, g.putX hz hd hl hr, SPost.mono s (gone_post q)⟩
        · rw [if_neg hz] at q; exact q.elim
      · subst e
        exact hand_post htbl s g hd hl hr q
theorem qs_try {body : List Stmt} {h₀ : ExceptHandler} {hds : List ExceptHandler} {l : List (Str × Option Nat × SF)} {pos : Pos} {g : SF} (htbl : ∀ c x b, tbl c x = some b → PySem.W.exmOne X.K (.ref (He.ga X.K c)) (.ref (He.ga X.K x)) = some b) (hs : X.stack = X.env :: X.outer) (hf : X.env.frame = some X.env.locals) (hN : X.N.Nodup) (tk : Takes X W)
    (hb : ∀ (W : WX) (pn : List (Addr × Obj)) (xe : Value → Shared → Prop), Takes (X.tr pn xe) W → PassesOwn (model X.prog X.w) X.A X.env xe → QSs (X.tr pn xe) B W body g) (hh : QH X B (h₀ :: hds) l) : QS X B W (.Try body (h₀ :: hds) [] [] pos) (tryS tbl g l) :=
  ⟨ps_imp (ps_try_hx (tb := fun W => tS X.K B W g) hs hf hN tk (fun W pn xe tk hp => (hb W pn xe tk hp).pss) hh.hx) fun D σ H ⟨F, env, st, g0, q⟩ => ⟨F, env, st, g0, by
    unfold tryS at q
    cases hr : g env st with
    | exc c ns ps env1 st1 =>
      rw [hr] at q
      intro σ' F' H' d vs s gg hd hl hrr
      exact hand_post htbl s gg hd hl hrr q
    | nx env1 st1 => rw [hr] at q; exact q
    | brk env1 st1 => rw [hr] at q; exact q
    | ct env1 st1 => rw [hr] at q; exact q
    | ret p o env1 st1 => rw [hr] at q; exact q
    | stuck => rw [hr] at q; exact q.elim⟩⟩
end

/-! ## e.f of the exception at hand -/
structure XGet (K : Frag) (C : Addr) (f : Str) : Prop where
  ga : PySem.W.findIn K (.ref C) "__getattribute__" = some (some (.builtin "BaseException.__getattribute__"))
  gg : PySem.W.findIn K (.ref C) "__getattr__" = some none
  noN : PySem.W.findIn K (.ref C) f = some none
  exC : PySem.W.subIn K (.ref C) (.type "BaseException") = some true
  hdC : PySem.W.hasDictIn K C = true
def xfE (i : Nat) (cs : List Str) (f : Str) : EF := fun env st => match env[i]? with
  | some (.exc c ns ps) => if c ∈ cs then (match (ns.zip ps).lookup f with
    | some p => .ok p st
    | none => .stuck) else .stuck
  | _ => .stuck
theorem zip_lookup {K : Frag} {F : Hp} {f : Str} {p : PV} : ∀ {ns : List Str} {ps : List PV} {vs : List V}, ns.length = vs.length → RepL K F ps vs → (ns.zip ps).lookup f = some p → ∃ v, (ns.zip vs).lookup f = some v ∧ Rep K F p v
  | [], _, _, _, _, e => by simp at e
  | n :: ns, [], vs, hl, h, e => by simp at e
  | n :: ns, q :: ps, _, hl, ⟨v, r, hh, h1, h2⟩, e => by
    subst hh
    rw [List.zip_cons_cons, List.lookup_cons] at e ⊢
    cases hb : f == n with
    | true => rw [hb] at e; cases e; exact ⟨v, rfl, h1⟩
    | false => rw [hb] at e; exact zip_lookup (by simpa using hl) h2 e
theorem qe_xf {X : Cx} {B : Bs} {W : WX} {a d : Addr} {oe : Obj} {c : Str} {pn : List (Addr × Obj)} {n f : Str} {np pos : Pos} (i : Nat) (cs : List Str) (T : ∀ c ∈ cs, XGet X.K (He.ga X.K c) f) (hz : Zc (.ref (He.ga X.K c)) (some d) oe) (hf : ∃ vs, oe.data = .fields vs)
    (hN : X.N[i]? = some n := by rfl) (hv : Vis X.env.scope n := by first | exact Or.inl rfl | exact Or.inr (Or.inl rfl) | exact Or.inr (Or.inr rfl)) (hd : (n == ("__debug__" : Str)) = false := by decide) (hcd : (n == ("__classdict__" : Str)) = false := by decide)
    (hb : attributeBase (.Name n np) f X.env (eval (.Name n np) X.env) = eval (.Name n np) X.env := by rfl) : QE (X.suite a ((a, oe) :: pn)) { B with xa := some (a, d, c) } W (.Attribute (.Name n np) f pos) (xfE i cs f) := by
  refine ⟨⟨fun pins s σ H Q I ⟨F, env, st, g, q⟩ => ?_⟩⟩
  unfold xfE at q
  cases he : env[i]? with
  | none => rw [he] at q; exact q.elim
  | some sl =>
    rw [he] at q
    cases sl with
    | exc c' ns ps =>
      dsimp only at q
      by_cases hc : c' ∈ cs
      · rw [if_pos hc] at q
        cases hp : (ns.zip ps).lookup f with
        | none => rw [hp] at q; exact q.elim
        | some p =>
          rw [hp] at q
          obtain ⟨o, e1, a', d', vs, e2, rfl, e3, e4, e5⟩ := g.slots i _ he
          cases e2
          obtain ⟨v, l, rv⟩ := zip_lookup e4 e5 hp
          have T := T c hc
          refine attr_of hb (thn ((pe_var (X := X.suite a ((a, oe) :: pn)) (x := n) (pos := np) hN hv hd hcd).run pins s σ H (fun x H1 => x = .ref a ∧ H1 = H) I ⟨.ref a, e1, rfl, rfl⟩) fun u s1 hh => ?_)
          obtain ⟨x, H1, I1, rx, rfl, rfl⟩ := hh
          obtain rfl : u = Value.ref a := rx
          obtain ⟨ha, _⟩ := I1.pin (a, oe) (List.mem_append_left _ List.mem_cons_self)
          obtain ⟨vs', hd'⟩ := hf
          have hx : ObjOk X.prog X.w H1 s1.heap d (.xd (ns.zip vs)) := I1.hok d _ (g.le _ _ e3)
          obtain ⟨mA, hns, hr⟩ := hx
          obtain ⟨od, ho, hl⟩ := lookIn_ns hns
          obtain ⟨u, hu, ru⟩ := RelO.some_of (v := v) (o := mA f) (by rw [← l]; exact hr f)
          have J : PySem.W.InstAt s1.heap a oe (He.ga X.K c) (some od) := ⟨ha, hz.1, by unfold PySem.W.notCls; rw [hd'] <;> rfl, by rw [hz.2]; exact ho⟩
          exact HandSPX.exc_get I1.kIn J T.ga T.gg T.exC (PySem.W.findObj_own T.hdC T.noN rfl (by rw [hl, hu])) (handed_of ru) ⟨v, H1, I1.tok _, ru, q F H1 Stp.refl g v rv⟩
      · rw [if_neg hc] at q; exact q.elim
    | _ => exact q.elim
end KI

/-! part KI18 -/
set_option Elab.async false
set_option linter.all false
set_option maxRecDepth 100000
set_option maxHeartbeats 4000000
namespace KI
open PySem PySem.Spec PySem.Calls PyProof.Rows L2

/-! ## len of an own object -/
def lenM (cs : List Str) (fi : FnI) : EF → EF := fun fo env st => (fo env st).bind fun p st1 => match p with
  | .ins c ns ps => if c ∈ cs then (match fi.sem [.ins c ns ps] .non with
    | .ok (.int n) _ => if 0 ≤ n ∧ n < 2 ^ 63 then .ok (.int n) st1 else .stuck
    | _ => .stuck) else .stuck
  | _ => .stuck
section
variable {X : Cx} {B : Bs} {W : WX} {fi : FnI} {dps : List PV} {k : Nat} {o e : Expr} {es : List Expr} {fo : EF} {fa : AF} {ms : List Md} {cs : List Str} {p pos : Pos}
def rLenM (K : Frag) (cs : List Str) (fi : FnI) : List V → Hp → VK → Prop := fun xs H Q => ∃ a c dx fs, xs = [.ref a] ∧ c ∈ cs ∧ H a = some (.ins (He.ga K c) dx fs) ∧ spOf K fi [.ref a] H (fun v H2 => ∃ n, v = .int n ∧ (0 ≤ n ∧ n < 2 ^ 63) ∧ Q (.int n) H2) (fun _ _ _ => False)
theorem cr_lenM (hf : FnM X.prog X.w X.K X.mg X.base cs "__len__" fi [] k) (hr : Room (k + 1) X.A) : CallR X (.builtin "len") (rLenM X.K cs fi) := by
  obtain ⟨f, fd, ps, ds, dvs, hc, G, hb, hd, hdp⟩ := hf.ex
  intro pins s σ H xs us Q I rx ⟨a, c, dx, fs, e, hm, ea, q⟩
  subst e
  obtain rfl := Vals.ref1 rx
  obtain ⟨c1, c2⟩ := hc c hm
  obtain ⟨mA, O, r, _, _, _⟩ := ins_get I.hok ea
  obtain ⟨od, J, _⟩ := O.look
  obtain ⟨m, fr⟩ := I.fr
  refine PySem.W.len_K fr I.ok.mod.kin J c2.at_ c2.fn ?_
  have dv0 : dvs = [] := by
    have := (hdp H)
    exact this
  subst dv0
  have ds0 : ds = [] := by cases hd; rfl
  subst ds0
  have hl : ([Value.ref a] ++ []).length = ps.length := by
    have := G.len _ _ _ _ q
    simpa using this
  refine wpAny_call (codeAny_mono (G.run X.A.in1 X.stack s H ⟨[Value.ref a], []⟩ ([Value.ref a] ++ []) [V.ref a] _ (fun _ _ _ => False) hr.in1 I.env0.in1 (hb s [Value.ref a] I.kIn hl) (.cons rfl .nil) q) fun r s' hq => ?_)
  cases r with
  | error e =>
    obtain ⟨_, _, _, _, _, _, _, _, _, _, _, _, z⟩ := hq
    exact z.elim
  | ok fl =>
    cases fl with
    | ret u =>
      obtain ⟨v, H', I', rv, n, ev, hn, q'⟩ := I.after hq
      subst ev
      obtain ⟨t, rfl⟩ := rv
      exact ⟨hn, .int n, H', I'.tok _, ⟨_, rfl⟩, q'⟩
    | next => exact False.elim hq
    | brk => exact False.elim hq
    | cont => exact False.elim hq
theorem qe_lenM (hf : FnM X.prog X.w X.K X.mg X.base cs "__len__" fi [] k) (hr : Room (k + 1) X.A) (ho : QR X B W o fo) (hm : X.mg "len" = none) (hms : fi.ms = [.bor] := by rfl) (hown : fi.own = false := by rfl) (hg : Gl X "len" := by rfl)
    (he : starEach [o] X.env = (false, eval o X.env) :: starEach [] X.env := by rfl) (hpl : (backTo pos (starEach [] X.env)).any (·.1) = false := by rfl) : QE X B W (.Call (.Name "len" p) [o] [] pos) (lenM cs fi fo) :=
  ⟨pe_imp (pe_callB (cr_lenM hf hr) hg hm rfl (pa_cons ho.pe pa_nil he) (by decide) (by decide) he hpl) fun σ H Q ⟨F, env, st, g, q⟩ => ⟨F, env, st, g, q.bind.mono fun p st1 F1 H1 s1 g1 q1 v rv => by
    cases p with
    | ins c ns ps =>
      dsimp only at q1
      by_cases hl : c ∈ cs
      · rw [if_pos hl] at q1
        obtain ⟨a, dx, vs, rfl, h1, h2, h3⟩ := rv.rh.ins g1.le
        refine ⟨a, c, dx, _, rfl, hl, h1, ?_⟩
        cases hr : fi.sem [.ins c ns ps] .non with
        | stuck => rw [hr] at q1; exact q1.elim
        | exc _ _ _ _ => rw [hr] at q1; exact q1.elim
        | ok z st' =>
          rw [hr] at q1
          cases z with
          | int n =>
            dsimp only at q1
            by_cases hn : 0 ≤ n ∧ n < 2 ^ 63
            · rw [if_pos hn] at q1
              have q2 : EPost X.K B W0 env σ F1 H1 (fun z st' F' H' => ∀ v, Rep X.K F' z v → ∃ n, v = V.int n ∧ (0 ≤ n ∧ n < 2 ^ 63) ∧ Q (.int n) H') (callK fi ([.ins c ns ps] ++ []) st1) := by
                unfold callK
                rw [if_neg (by rw [hms]; decide)]
                rw [List.append_nil, hr]
                intro F' H' s' g' v rv'
                exact ⟨n, rv', hn, q1 F' H' s' g' _ rfl⟩
              exact call_sp (K := X.K) (B := B) (W := W0) (fi := fi) (ms := [.bor]) (dps := []) (ps := [.ins c ns ps]) (vs := [.ref a]) (dvs := []) g1 hms ⟨_, _, _, _, rfl, rfl, rv, rfl, rfl⟩ rfl q2 fun p st' F' H' v s' g' r hv => by
                unfold ResOk at hv
                rw [if_neg (by rw [hown]; exact Bool.false_ne_true)] at hv
                exact r v hv
            · rw [if_neg hn] at q1; exact q1.elim
          | _ => exact q1.elim
      · rw [if_neg hl] at q1; exact q1.elim
    | _ => exact q1.elim⟩⟩

/-! ## C(e, .., k = v, ..) -/
structure FnKK (P : Program) (w : World) (K : Frag) (mg : Str → Option Value) (base : Heap) (x : Str) (fi : FnI) (n : Nat) (ks : List Str) (k : Nat) : Prop where
  ex : ∃ (f : Addr) (fd : FuncData) (ps : List Str) (g : List Value → List Value → List Value) (gV : List V → List V → List V), mg x = some (.ref (He.ga K x)) ∧ Mk K (He.ga K x) f ∧ FnOk P w K mg base (L2.CX P w) k f fd ps (spOf K fi) ∧ KBn K fd ps (n + 1) ks g gV ∧ ∀ vs zs, gV vs zs = vs ++ zs
structure QK (X : Cx) (B : Bs) (W : WX) (kws : List Keyword) (fa : AF) : Prop where
  pk : PK X kws (fun σ H Q => ∃ F env st, Good X.K B F H env st σ ∧ EPost X.K B W env σ F H (fun ps _ F' H' => ∀ vs, RepL X.K F' ps vs → Q vs H') (fa env st))
theorem pk_imp {kws : List Keyword} {t t' : TA} (h : PK X kws t) (k : ∀ σ H Q, t' σ H Q → t σ H Q) : PK X kws t' := ⟨fun pos pins s σ H Q I q => h.run pos pins s σ H Q I (k σ H Q q)⟩
theorem qk_nil : QK X B W [] nilA := ⟨pk_imp pk_nil fun σ H Q ⟨F, env, st, g, q⟩ => q F H Stp.refl g [] rfl⟩
theorem qk_cons {nm : Option Str} {kws : List Keyword} {f : EF} {kpos : Pos} (h : QE X B W e f) (hr : QK X B W kws fa) : QK X B W (⟨nm, e, kpos⟩ :: kws) (consA f fa) :=
  ⟨pk_imp (pk_cons h.pe hr.pk) fun σ H Q ⟨F, env, st, g, q⟩ => ⟨F, env, st, g, q.bind.mono fun p st1 F1 H1 s1 g1 q1 v rv => ⟨F1, env, st1, g1, q1.bind.mono fun ps st2 F2 H2 s2 g2 q2 vs rs => q2 F2 H2 Stp.refl g2 (v :: vs) ⟨v, vs, rfl, Rep.mono s2.le _ _ rv, rs⟩⟩⟩⟩
def makeKE (c : Str) (fi : FnI) (nk : Nat) (fa fk : AF) : EF := fun env st => (fa env st).bind fun ps st1 => (fk env st1).bind fun qs st2 => if qs.length = nk then makeK c fi (ps ++ qs) st2 else .stuck
theorem run_makeKS {C f : Addr} {fd : FuncData} {ps ks : List Str} {sp : Sp} {n : Nat} {g : List Value → List Value → List Value} {gV : List V → List V → List V} {E : XK} {pins : List (Addr × Obj)} {σ : Sg} {H : Hp} {s : Shared} {Q : VK} {us ws : List Value} {vs zs : List V} (M : Mk X.K C f) (F : FnOk X.prog X.w X.K X.mg X.base (L2.CX X.prog X.w) k f fd ps sp) (hr : Room (k + 1) X.A) (hb : KBn X.K fd ps (n + 1) ks g gV)
    (hx : PassesAt (L2.CX X.prog X.w) X σ E) (I : Inv X pins σ H s) (r : Vals vs us) (rz : Vals zs ws) (l1 : vs.length = n) (l2 : zs.length = ks.length)
    (h : ∀ x dx, H x = none → H dx = none → dx ≠ x → sp (gV (.ref x :: vs) zs) (upd (upd H dx (.own x)) x (.ins C dx [])) (fun v H2 => v = .non ∧ Q (.ref x) H2) E) :
    wpAny (model X.prog X.w) X.A (call (.ref C) us (ks.zip ws)) (EP X pins σ Q) X.xe s := by
  have hq := h (s.heap.objs.size + 1) s.heap.objs.size (I.hok.fresh (Nat.le_succ _)) (I.hok.fresh (Nat.le_refl _)) (Nat.ne_of_lt (Nat.lt_succ_self _))
  have I2 := Inv.made (C := C) I
  have r1 : Vals (V.ref (s.heap.objs.size + 1) :: vs) (Value.ref (s.heap.objs.size + 1) :: us) := .cons rfl r
  have r2 := hb.rel r1 rz
  have n1 : (Value.ref (s.heap.objs.size + 1) :: us).length = n + 1 := by
    rw [List.length_cons, ← r.length, l1]
  refine wpAny_call (make_map (f := f) I.kIn M.makes M.init (beq_iff_eq.mp M.fn) (codeAny_mono (F.run _ X.stack _ _ ⟨Value.ref (s.heap.objs.size + 1) :: us, ks.zip ws⟩ (g (Value.ref (s.heap.objs.size + 1) :: us) ws) _ _ E (hr.make C us (ks.zip ws))
    (I2.env0.make C us (ks.zip ws)) (hb.to _ (Value.ref (s.heap.objs.size + 1) :: us) ws I2.kIn n1 (rz.length.symm.trans l2)) r2 hq) fun r s' hq' => ?_))
  cases r with
  | error e => exact hx pins _ _ e s' I2 hq'
  | ok fl =>
    cases fl with
    | ret u =>
      obtain ⟨v, H', I3, rv, ev, q3⟩ := I2.after hq'
      subst ev
      exact ⟨rv, ⟨V.ref (s.heap.objs.size + 1), H', I3, rfl, q3⟩⟩
    | next => exact False.elim hq'
    | brk => exact False.elim hq'
    | cont => exact False.elim hq'
theorem CArgs.len2 {K : Frag} {F H : Hp} {env : SEnv} {σ : Sg} : ∀ {ms : List Md} {ps : List PV} {vs : List V}, CArgs K F H env σ ms ps vs → vs.length = ms.length
  | [], _, _, ⟨h1, h2⟩ => by rw [h2]; rfl
  | m :: ms, _, _, ⟨p, ps', v, vs', h1, h2, _, h4⟩ => by rw [h2, List.length_cons, List.length_cons, CArgs.len2 h4]
theorem argsOk_vals2 {K : Frag} {F H : Hp} {ma : Option Addr} {st : PV} {ps2 : List PV} {vs2 : List V} {n : Nat} (h : RepL K F ps2 vs2) (hn : ps2.length = n) : ArgsOk K F H ma st (List.replicate n .val) ps2 vs2 := by
  subst hn; exact argsOk_vals h
theorem cargs_vals {K : Frag} {F H : Hp} {env : SEnv} {σ : Sg} : ∀ {ps : List PV} {vs : List V}, RepL K F ps vs → CArgs K F H env σ (List.replicate ps.length .val) ps vs
  | [], _, h => ⟨rfl, h⟩
  | p :: ps, _, ⟨v, r, e, h1, h2⟩ => ⟨p, ps, v, r, rfl, e, h1, cargs_vals h2⟩
theorem any_repl0 {n : Nat} : (List.replicate n Md.val).any isMut = false := by
  induction n with
  | zero => rfl
  | succ n ih => rw [List.replicate_succ, List.any_cons, ih]; rfl
theorem qo_makeK {c : Str} {n : Nat} {ks : List Str} {kws : List Keyword} {fk : AF} (hf : FnKK X.prog X.w X.K X.mg X.base c fi n ks k) (hr : Room (k + 1) X.A) (tk : Takes X W) (ha : QA X B W ms (e :: es) fa) (hk : QK X B W kws fk) (hmv : ms.all (fun m => match m with | .val => true | _ => false) = true := by rfl) (hn : ms.length = n := by rfl)
    (hms : fi.ms = .mu :: List.replicate (n + ks.length) .val := by rfl) (hown : fi.own = false := by rfl) (hg : Gl X c := by rfl) (hdb : (c == ("__debug__" : Str)) = false := by decide)
    (hall : (backToKw pos (keywordEach kws X.env)).all (·.1.isSome) = true := by rfl) (hks : (backToKw pos (keywordEach kws X.env)).filterMap (·.1) = ks := by rfl)
    (he : starEach (e :: es) X.env = (false, eval e X.env) :: starEach es X.env := by rfl) (hpl : ((backTo pos (starEach (e :: es) X.env)).any (·.1) || (backToKw pos (keywordEach kws X.env)).any (·.1.isNone)) = false := by rfl) :
    QO X B W (.Call (.Name c p) (e :: es) kws pos) (makeKE c fi ks.length fa fk) := by
  obtain ⟨f, fd, ps, g, gV, hm, M, G, hb, hgV⟩ := hf.ex
  refine ⟨⟨fun pins s σ H Q I ⟨F, env, st, g0, q⟩ => ?_⟩⟩
  refine wpAny_Call_Name_kw (ld_glob I hg hm ?_ hdb)
  refine PySem.W.callWith_KW (h₀ := X.base) I.ok.mod.kin M.kp hall (thn (ha.pa.run pos pins s σ H (fun vs H1 => vs.length = n ∧ ∃ qs0 : List PV, True ∧ (fun σ H Q => ∃ F env st, Good X.K B F H env st σ ∧ EPost X.K B W env σ F H (fun ps _ F' H' => ∀ vs, RepL X.K F' ps vs → Q vs H') (fk env st)) σ H1 fun zs H2 => zs.length = ks.length ∧ ∀ x dx, H2 x = none → H2 dx = none → dx ≠ x → spOf X.K fi (gV (.ref x :: vs) zs) (upd (upd H2 dx (.own x)) x (.ins (He.ga X.K c) dx [])) (fun v H3 => v = .non ∧ Q (.ref x) H3) (WE W σ)) I ⟨F, env, st, g0, q.bind.mono fun qs st1 F1 H1 s1 g1 q1 vs hvs => ?_⟩) fun us s1 ⟨vs, H1, I1, r, l1, _, _, q1⟩ => ?_) hpl he
  · have hv := hvs.vals hmv
    have hlen : vs.length = n := hvs.len2.trans hn
    refine ⟨hlen, [], trivial, F1, env, st1, g1, q1.bind.mono fun zs0 st2 F2 H2 s2 g2 q2 zs hzs => ?_⟩
    by_cases hz : zs0.length = ks.length
    · rw [if_pos hz] at q2
      refine ⟨hzs.length.symm.trans hz, fun x dx hx hdx hne => ?_⟩
      rw [hgV]
      refine make_sp (ms := List.replicate (n + ks.length) .val) g2 hms (by rw [any_repl0]) hown hx hdx hne (fun F' H' s' k' => argsOk_vals2 (RepL.mono s' _ _ (RepL.append (RepL.mono s2.le _ _ hv) hzs)) (by rw [List.length_append, hz, hv.length, hlen])) q2 fun p st' F' H' s' g' r h1 h2 => r x ?_ h1 h2
      exact none_of s1.there (none_of s2.there hx)
    · rw [if_neg hz] at q2; exact q2.elim
  · refine thn (hk.pk.run pos pins s1 σ H1 _ I1 q1) fun ws s2 ⟨zs, H2, I2, rz, l2, q2⟩ => ⟨I2.kIn, ?_⟩
    rw [hks]
    exact run_makeKS M G hr hb (passAt tk σ) I2 r rz l1 l2 q2
end
end KI

/-! part KI19 -/
set_option Elab.async false
set_option linter.all false
set_option maxRecDepth 100000
set_option maxHeartbeats 4000000
namespace KI
open PySem PySem.Spec PySem.Calls PyProof.Rows L2
section
variable {P : Program} {w : World} {K : Frag} {mg : Str → Option Value} {base : Heap} {N : List Str} {qual : Str} {scope : Scope} {f : Addr} {cdv : Value} {A : Around} {outer : List Env} {s : Shared} {H : Hp} {E : XK}
theorem takes_cx : Takes (cxOf (L2.CX P w) P w K mg base N qual scope f cdv A outer s H E) (fun cls d _ H => E cls d H) := takes_of rfl rfl rfl rfl
theorem owns_cx : PassesOwn (model P w) (cxOf (L2.CX P w) P w K mg base N qual scope f cdv A outer s H E).A (cxOf (L2.CX P w) P w K mg base N qual scope f cdv A outer s H E).env (cxOf (L2.CX P w) P w K mg base N qual scope f cdv A outer s H E).xe :=
  passes_of (X := cxOf (L2.CX P w) P w K mg base N qual scope f cdv A outer s H E) rfl
end
theorem takesW0 {X : Cx} : Takes X W0 := takes0
section
variable {X : Cx} {B : Bs} {W : WX} {x z : Str} {i : Int} {pos : Pos}
theorem qe_gstr (hm : ∃ t, X.mg x = some (.str z t)) (hg : Gl X x := by rfl) (hd : (x == ("__debug__" : Str)) = false := by decide) : QE X B W (.Name x pos) (cE (.str z)) := by
  obtain ⟨t, hm⟩ := hm
  exact qe_glob (v := .str z) hm ⟨_, rfl⟩ (fun _ => rfl) hg hd
theorem qe_gint (hm : ∃ t, X.mg x = some (.int i t)) (hg : Gl X x := by rfl) (hd : (x == ("__debug__" : Str)) = false := by decide) : QE X B W (.Name x pos) (cE (.int i)) := by
  obtain ⟨t, hm⟩ := hm
  exact qe_glob (v := .int i) hm ⟨_, rfl⟩ (fun _ => rfl) hg hd
end
theorem fldOk1 {K : Frag} {c f : Str} (h1 : Cls K (He.ga K c)) (h2 : NoAttr K (He.ga K c) f) : FldOk K [c] f := fun d hd => by
  cases List.mem_singleton.mp hd
  exact ⟨h1, h2⟩
section
variable {P : Program} {w : World} {K : Frag} {mg : Str → Option Value} {base : Heap} {x qual : Str} {params : Arguments} {body : List Stmt} {scope : Scope} {fd : FuncData} {ps : List Str} {fi : FnI} {k : Nat}
theorem fnB0 {f : Addr} (hm : mg x = some (.ref f)) (F : FunD K x qual params body scope [] [] f fd) (G : FnOk P w K mg base (L2.CX P w) k f fd ps (spOf K fi)) (hb : Binds K fd ps []) : FnB P w K mg base x fi [] k :=
  ⟨f, fd, ps, [], [], hm, F.kp, G, hb, .nil, fun _ => rfl⟩
theorem fnM0 {c m : Str} {f : Addr} (h1 : Cls K (He.ga K c)) (h2 : Meth K (He.ga K c) m f) (G : FnOk P w K mg base (L2.CX P w) k f fd ps (spOf K fi)) (hb : Binds K fd ps []) : FnM P w K mg base [c] m fi [] k :=
  ⟨f, fd, ps, [], [], fun d hd => by cases List.mem_singleton.mp hd; exact ⟨h1, h2⟩, G, hb, .nil, fun _ => rfl⟩
theorem fnK0 {c : Str} {f : Addr} (hm : mg c = some (.ref (He.ga K c))) (h2 : Mk K (He.ga K c) f) (G : FnOk P w K mg base (L2.CX P w) k f fd ps (spOf K fi)) (hb : Binds K fd ps []) : FnK P w K mg base c fi [] k :=
  ⟨f, fd, ps, [], [], hm, h2, G, hb, .nil, fun _ => rfl⟩
end
end KI

/-! part KI20 -/
set_option Elab.async false
set_option linter.all false
set_option maxRecDepth 100000
set_option maxHeartbeats 4000000
namespace KI
open PySem PySem.Spec PySem.Calls PyProof.Rows L2

/-! ## the head's facts: the module's, the defs', the exceptions' -/
structure XD where
  cls : Str
  qual : Str
  params : Arguments
  body : List Stmt
  scope : Scope
  fs : List Str
abbrev XW := Option (Str × Str × Arguments × FuncBody × Scope × Addr × List Str × Addr)
def xAd (K : Frag) (c : Str) : Addr := He.ma K (He.ga K c) "__init__"
def xW (K : Frag) (c : Str) : XW := match K.lookup (xAd K c) with
  | some ⟨_, _, .func fd, _⟩ => some (fd.name, fd.qualname, fd.params, fd.body, fd.scope, fd.globals, fd.closure.map (·.1), fd.builtins)
  | _ => none
def XD.val (d : XD) : XW := some ("__init__", d.qual, d.params, .stmts d.body, d.scope, mainGlobals, ["__class__"], builtinsNs)
def oexB (K : Frag) (C : Addr) : Bool := (match K.lookup C with
  | some ⟨.type t, _, .cls cd, sl⟩ => (match cd.mro, sl.toList with
    | .ref C' :: bm, [_, _, _, _, some (.builtin n), _] => t == "type" && C' == C && n == "ValueError.__new__" && !cd.hasDel && cd.hasDict && PySem.HandSPX.refsVE bm
    | _, _ => false)
  | _ => false) && (He.eqO (PySem.W.findIn K (.ref C) "__setattr__") (some (some (.builtin "object.__setattr__"))) && (decide (PySem.W.subIn K (.ref C) (.type "BaseException") = some true) && (decide (PySem.W.typeIn K (.ref C) = some (.type "type")) && PySem.W.keepIn K (.ref C))))
theorem oexB_ok {K : Frag} {C : Addr} (h : oexB K C = true) : OexC K C ∧ ∃ cd, PySem.W.clsIn K C = some cd := by
  obtain ⟨q, h⟩ := He.ba h
  obtain ⟨h1, h⟩ := He.ba h
  obtain ⟨h2, h⟩ := He.ba h
  obtain ⟨h3, h4⟩ := He.ba h
  have key : ∃ nm q N bs bm sn sub ab col dd k0 k1 k2 k3 k5, K.lookup C = some (excClassObj nm q C N bs bm true sn sub ab col dd k0 k1 k2 k3 k5 "ValueError.__new__") ∧ PySem.HandSPX.refsVE bm = true := by
    split at q
    · rename_i t dd cd sl ho
      split at q
      · rename_i C' bm k0 k1 k2 k3 n k5 hm hs
        simp only [Bool.and_eq_true, beq_iff_eq, Bool.not_eq_true'] at q
        obtain ⟨⟨⟨⟨⟨rfl, rfl⟩, rfl⟩, hdel⟩, hdi⟩, ht⟩ := q
        obtain ⟨nm, bs, mro, ns, qn, hd, sn, sub, ab, col, del⟩ := cd
        dsimp only at hm hdel hdi
        subst hm hdel hdi
        have hsl : sl = #[k0, k1, k2, k3, some (.builtin "ValueError.__new__"), k5] := by
          obtain ⟨l⟩ := sl
          simp only at hs
          rw [hs]
        subst hsl
        exact ⟨nm, qn, ns, bs, bm, sn, sub, ab, col, dd, k0, k1, k2, k3, k5, ho, ht⟩
      · cases q
    · cases q
  refine ⟨⟨key, He.eqO_ok h1, of_decide_eq_true h2, of_decide_eq_true h3, h4⟩, ?_⟩
  obtain ⟨nm, q, N, bs, bm, sn, sub, ab, col, dd, k0, k1, k2, k3, k5, hC, hbm⟩ := key
  exact ⟨_, by unfold PySem.W.clsIn; rw [hC] <;> rfl⟩
def fileB (K : Frag) (cd : Value) (file : Str) : Bool := match cd with
  | .ref c => (match K.lookup c with
    | some ⟨_, _, .fields vs, _⟩ => (match (vs[2]? : Option Value) with
      | some (Value.str f _) => file == f
      | _ => false)
    | _ => false)
  | _ => false
theorem fileB_ok {K : Frag} {cd : Value} {file : Str} (h : fileB K cd file = true) : ∃ (cda : Addr) (ccl : Value) (cdd : Option Addr) (vs : Array Value) (ccs : Array (Option Value)) (f : Str) (tf : Tok), cd = .ref cda ∧ K.lookup cda = some ⟨ccl, cdd, .fields vs, ccs⟩ ∧ vs[2]? = some (.str f tf) ∧ (file == f) = true := by
  unfold fileB at h
  split at h
  · rename_i c
    split at h
    · rename_i vs ho
      split at h
      · rename_i f tf hv
        exact ⟨c, _, _, _, _, _, _, rfl, ho, hv, h⟩
      · cases h
    · cases h
  · cases h
def cellB (K : Frag) (cl : List (Str × Addr)) (C : Addr) : Bool := match cl with
  | [(_, cc)] => (match K.lookup cc with
    | some ⟨_, _, .cell (some (.ref D)), _⟩ => D == C
    | _ => false)
  | _ => false
theorem cellB_ok {K : Frag} {cl : List (Str × Addr)} {C : Addr} (h : cellB K cl C = true) : ∃ (n : Str) (cc : Addr) (c : Value) (d : Option Addr) (sl : Array (Option Value)), cl = [(n, cc)] ∧ K.lookup cc = some ⟨c, d, .cell (some (.ref C)), sl⟩ := by
  unfold cellB at h
  split at h
  · rename_i n cc
    split at h
    · rename_i D sl ho
      obtain rfl := beq_iff_eq.mp h
      exact ⟨n, cc, _, _, _, rfl, ho⟩
    · cases h
  · cases h
def noneB : Value → Bool
  | .none => true
  | _ => false
theorem noneB_ok {v : Value} (h : noneB v = true) : v = .none := by cases v <;> first | rfl | cases h
def xgB (K : Frag) (C : Addr) (f : Str) : Bool := He.eqO (PySem.W.findIn K (.ref C) "__getattribute__") (some (some (.builtin "BaseException.__getattribute__"))) && (He.eqO (PySem.W.findIn K (.ref C) "__getattr__") (some none) && (He.eqO (PySem.W.findIn K (.ref C) f) (some none) &&
  (decide (PySem.W.subIn K (.ref C) (.type "BaseException") = some true) && PySem.W.hasDictIn K C)))
theorem xgB_ok {K : Frag} {C : Addr} {f : Str} (h : xgB K C f = true) : XGet K C f := by
  obtain ⟨h1, h⟩ := He.ba h
  obtain ⟨h2, h⟩ := He.ba h
  obtain ⟨h3, h⟩ := He.ba h
  obtain ⟨h4, h5⟩ := He.ba h
  exact ⟨He.eqO_ok h1, He.eqO_ok h2, He.eqO_ok h3, of_decide_eq_true h4, h5⟩
def xcB (file : Str) (d : XD) (K : Frag) : Bool := oexB K (He.ga K d.cls) && (He.eqO (PySem.W.nsIn K mainGlobals d.cls) (some (some (.ref (He.ga K d.cls)))) && (He.eqO (PySem.W.findIn K (.ref (He.ga K d.cls)) "__init__") (some (some (.ref (xAd K d.cls)))) && (decide (PySem.W.typeIn K (.ref (xAd K d.cls)) = some (.type "function")) &&
  ((match K.lookup (xAd K d.cls) with
  | some ⟨_, _, .func fd, _⟩ => PySem.W.codeIn K fd.code d.qual && (fileB K fd.code file && (cellB K fd.closure (He.ga K d.cls) && noneB fd.defaults))
  | _ => false) && (decide (PySem.W.mroIn K (He.ga K d.cls) (.ref (He.ga K d.cls)) = some true) && (He.eqO (PySem.W.ks_superIn K (He.ga K d.cls) (He.ga K d.cls) "__init__") (some (some (.builtin "ValueError.__init__"))) &&
  (decide (PySem.W.subIn K (.ref (He.ga K d.cls)) (.type "ValueError") = some true) && (He.eqO (PySem.W.nsIn K cStatics "thirdparty.any") (some none) && d.fs.all fun f => xgB K (He.ga K d.cls) f))))))))
theorem xc_of {P : Program} {K : Frag} {d : XD} {ps : List Str} {ar : Str} {aa : Arg} (e : xW K d.cls = d.val) (c : xcB P.main.file d K = true) (hh : (d.params.posonlyargs ++ d.params.args).head? = some aa) (har : aa.arg = ar)
    (hb : ∀ (kV doc pm : Value) (an : Option Addr) (cdv ct : Value) (cc : Addr) (us : List Value), us.length = ps.length → bindArgs (PySem.W.ksFn "__init__" d.qual d.params d.body d.scope .none kV doc pm an cdv ct cc) ⟨us, []⟩ = pure (ps.zip us)) :
    (∃ fd, XcC P K (He.ga K d.cls) (xAd K d.cls) ar d.qual d.body d.scope d.params fd ∧ Binds K fd ps []) ∧ PySem.W.nsIn K mainGlobals d.cls = some (some (.ref (He.ga K d.cls))) ∧ ∀ f ∈ d.fs, XGet K (He.ga K d.cls) f := by
  obtain ⟨h1, c⟩ := He.ba c
  obtain ⟨hg, c⟩ := He.ba c
  obtain ⟨h2, c⟩ := He.ba c
  obtain ⟨h3, c⟩ := He.ba c
  obtain ⟨h4, c⟩ := He.ba c
  obtain ⟨h5, c⟩ := He.ba c
  obtain ⟨h6, c⟩ := He.ba c
  obtain ⟨h7, c⟩ := He.ba c
  obtain ⟨h8, h9⟩ := He.ba c
  obtain ⟨ho, cdd, hcd⟩ := oexB_ok h1
  refine ⟨?_, He.eqO_ok hg, fun f hf => xgB_ok (List.all_eq_true.mp h9 f hf)⟩
  unfold xW at e
  cases q : K.lookup (xAd K d.cls) with
  | none => rw [q] at h4; cases h4
  | some o =>
    obtain ⟨oc, od, dt, osl⟩ := o
    rw [q] at h4 e
    cases dt with
    | func fd =>
      obtain ⟨n1, n2, n3, n4, n5, n6, n7, n8, n9, n10, n11, n12, n13, n14, n15⟩ := fd
      obtain ⟨k1, k⟩ := He.ba (show (PySem.W.codeIn K n13 d.qual && (fileB K n13 P.main.file && (cellB K n7 (He.ga K d.cls) && noneB n8))) = true from h4)
      obtain ⟨k2, k⟩ := He.ba k
      obtain ⟨k3, k4⟩ := He.ba k
      obtain ⟨cda, ccl, cdd', vs, ccs, fl, tf, rfl, l1, l2, l3⟩ := fileB_ok k2
      obtain ⟨nn, cc, cv, dd, sl, rfl, l4⟩ := cellB_ok k3
      obtain rfl := noneB_ok k4
      have e2 : (some (n1, n2, n3, n4, n5, n6, [nn], n15) : XW) = (some (("__init__" : Str), d.qual, d.params, FuncBody.stmts d.body, d.scope, mainGlobals, [("__class__" : Str)], builtinsNs) : XW) := e
      simp only [Option.some.injEq, Prod.mk.injEq, List.cons.injEq, and_true] at e2
      obtain ⟨r1, r2, r3, r4, r5, r6, r7, r8⟩ := e2
      subst r1 r2 r3 r4 r5 r6 r7 r8
      exact ⟨_, ⟨ho, He.eqO_ok h2, of_decide_eq_true h3, ⟨_, n9, .none, n10, n11, n14, oc, n12, od, osl, cc, cda, aa, ccl, cv, cdd', dd, vs, ccs, sl, fl, tf, cdd, rfl, q, k1, hh, har, l1, l2, l3, l4, hcd⟩, of_decide_eq_true h5, He.eqO_ok h6, of_decide_eq_true h7, He.eqO_ok h8⟩, .all (hb n9 n10 n11 n12 (.ref cda) n14 cc)⟩
    | _ => cases h4

/-! ### the Hook -/
def asQ (g : Addr → Option Obj) : Nat → List Addr
  | 0 => [mainGlobals, cStatics]
  | n + 1 => He.growD g (asQ g n)
abbrev AlQ : Type := He.AlD × (Bool × List XW)
def obsQ (fa : List He.Fa) (fn : List He.DefD) (ex : List (Frag → Bool)) (xs : List XD) (K : Frag) : AlQ := (He.obsD fa fn K, (ex.all fun f => f K, xs.map fun d => xW K d.cls))
def valQ (fn : List He.DefD) (xs : List XD) : AlQ := (He.valD fn, (true, xs.map XD.val))
def SaysQ (fa : List He.Fa) (fn : List He.DefD) (ex : List (Frag → Bool)) (xs : List XD) (K : Frag) : Prop := obsQ fa fn ex xs K = valQ fn xs
def obsQG (n : Nat) (fa : List He.Fa) (fn : List He.DefD) (ex : List (Frag → Bool)) (xs : List XD) (g : Addr → Option Obj) : AlQ := obsQ fa fn ex xs (He.frG g (asQ g n))
def hookQ (n : Nat) (fa : List He.Fa) (fn : List He.DefD) (ex : List (Frag → Bool)) (xs : List XD) : PySem.W.Hook where
  α := AlQ
  obs := fun s => obsQG n fa fn ex xs s.heap.get?
  val := fun _ => valQ fn xs
  says := fun _ h => ∃ K : Frag, K.In h ∧ SaysQ fa fn ex xs K
  of := fun _ _ e => ⟨_, He.frG_in, e⟩
  keeps := fun _ _ _ ⟨K, hK, c⟩ k => ⟨K, PySem.W.Frag.In.keeps hK k, c⟩
theorem obsQG_eq {n : Nat} {fa : List He.Fa} {fn : List He.DefD} {ex : List (Frag → Bool)} {xs : List XD} {g : Addr → Option Obj} {s : Shared} (h : ∀ a, g a = s.heap.get? a) : obsQG n fa fn ex xs g = (hookQ n fa fn ex xs).obs s := by
  have e : g = s.heap.get? := funext h
  rw [e] <;> rfl
section
variable {fa : List He.Fa} {fn : List He.DefD} {ex : List (Frag → Bool)} {xs : List XD} {K : Frag}
theorem SaysQ.d (c : SaysQ fa fn ex xs K) : He.SaysD fa fn K := congrArg (fun z : AlQ => z.1) c
theorem SaysQ.ext (c : SaysQ fa fn ex xs K) (i : Nat) {f : Frag → Bool} (h : ex[i]? = some f := by rfl) : f K = true := by
  have c1 : (ex.all fun f => f K) = true := congrArg (fun z : AlQ => z.2.1) c
  exact List.all_eq_true.mp c1 f (List.mem_of_getElem? h)
theorem SaysQ.xd (c : SaysQ fa fn ex xs K) (i : Nat) {d : XD} (h : xs[i]? = some d := by rfl) : xW K d.cls = d.val := by
  have e : xs.map (fun d => xW K d.cls) = xs.map XD.val := congrArg (fun z : AlQ => z.2.2) c
  have e2 : (xs.map fun d => xW K d.cls)[i]? = (xs.map XD.val)[i]? := by rw [e]
  rw [List.getElem?_map, List.getElem?_map, h] at e2
  exact Option.some.inj e2
end
/-- an empty tuple of the written part -/
def tup0B (p : Frag → Addr) (K : Frag) : Bool := match K.lookup (p K) with
  | some ⟨.type c, _, .seq its _, _⟩ => c == "tuple" && its.size == 0
  | _ => false
theorem tup0B_ok {p : Frag → Addr} {K : Frag} (h : tup0B p K = true) (F : Hp) : Rep K F (.tup []) (.ref (p K)) := by
  unfold tup0B at h
  split at h
  · rename_i c d its n sl ho
    obtain ⟨h1, h2⟩ := He.ba h
    have hs : its.size = 0 := by simpa using h2
    have hi : its = #[] := Array.eq_empty_of_size_eq_zero hs
    subst hi
    refine ⟨p K, [], rfl, .inr ⟨_, #[], n, ho, ?_, rfl, Nat.zero_le _, .nil⟩, rfl⟩
    rw [show c = "tuple" from by simpa using h1]
  · cases h
end KI
namespace KI
open PySem PySem.Spec PySem.Calls PyProof.Rows L2
theorem kbn_all {K : Frag} {x qual : Str} {params : Arguments} {body : List Stmt} {scope : Scope} {kws : List (Str × V)} {f : Addr} {fd : FuncData} {ps ks : List Str} {n : Nat} (F : FunD K x qual params body scope [] kws f fd)
    (h : ∀ (kV doc pm : Value) (an : Option Addr) (cdv ct : Value) (us ws : List Value), us.length = n → ws.length = ks.length → bindArgs (PySem.W.fnOf x qual params body scope .none kV doc pm an cdv ct) ⟨us, ks.zip ws⟩ = pure (ps.zip (us ++ ws))) :
    KBn K fd ps n ks (fun us ws => us ++ ws) (fun vs zs => vs ++ zs) := by
  obtain ⟨oc, od, dV, kV, doc, pm, an, cdv, ct, osl, rfl, lk, hcd, hD, hK⟩ := F.ex
  rcases hD with ⟨_, rfl⟩ | ⟨e, _⟩
  · exact ⟨fun s us ws X l1 l2 => .of_eq (h kV doc pm an cdv ct us ws l1 l2), fun r1 r2 => r1.append r2⟩
  · exact absurd rfl e
end KI

/-! part KI21 -/
set_option Elab.async false
set_option linter.all false
set_option maxRecDepth 100000
set_option maxHeartbeats 4000000
namespace KI
open PySem PySem.Spec PyProof.Rows L2

@[simp] theorem nxS_ap  (env : SEnv) (st : PV) : nxS env st = (.nx env st) := (rfl)
@[simp] theorem seqS_ap (g1 g2 : SF)  (env : SEnv) (st : PV) : seqS g1 g2 env st = (match g1 env st with
  | .nx env' st' => g2 env' st'
  | r => r) := (rfl)
@[simp] theorem retS_ap (f : EF)  (env : SEnv) (st : PV) : retS f env st = (liftS (f env st) env fun p st' => .ret p false env st') := (rfl)
@[simp] theorem retO_ap (f : EF)  (env : SEnv) (st : PV) : retO f env st = (liftS (f env st) env fun p st' => .ret p true env st') := (rfl)
@[simp] theorem retV_ap (i : Nat)  (env : SEnv) (st : PV) : retV i env st = (match env[i]? with
  | some (.own p) => .ret p true env st
  | _ => .stuck) := (rfl)
@[simp] theorem setS_ap (i : Nat) (f : EF)  (env : SEnv) (st : PV) : setS i f env st = (liftS (f env st) env fun p st' => .nx (env.set i (.sh p)) st') := (rfl)
@[simp] theorem setO_ap (i : Nat) (f : EF)  (env : SEnv) (st : PV) : setO i f env st = (liftS (f env st) env fun p st' => .nx (env.set i (.own p)) st') := (rfl)
@[simp] theorem mtS_ap (i : Nat) (g : SF)  (env : SEnv) (st_ : PV) : mtS i g env st_ = (match mtE i env with
  | some x => g x.1 x.2
  | none => .stuck) := (rfl)
@[simp] theorem ifS_ap (c : TF) (g1 g2 : SF)  (env : SEnv) (st : PV) : ifS c g1 g2 env st = (liftS (c env st) env fun b st' => if b = true then g1 env st' else g2 env st') := (rfl)
@[simp] theorem nameG_ap (i : Nat)  (p : PV) (env : SEnv) : nameG i p env = (some (env.set i (.sh p))) := (rfl)
@[simp] theorem pairG_ap (i j : Nat)  (p : PV) (env : SEnv) : pairG i j p env = (match p with
  | .tup [p1, p2] => some ((env.set i (.sh p1)).set j (.sh p2))
  | _ => none) := (rfl)
@[simp] theorem forS_ap (f : AF) (t : GF) (b : SF)  (env : SEnv) (st : PV) : forS f t b env st = (liftS (f env st) env fun ps st' => forL t b ps env st') := (rfl)
@[simp] theorem opE_ap (g : PV → PV → Option PV) (fa fb : EF)  (env : SEnv) (st : PV) : opE g fa fb env st = ((fa env st).bind fun p st1 => (fb env st1).bind fun q st2 => match g p q with
  | some z => .ok z st2
  | none => .stuck) := (rfl)
@[simp] theorem cmpT_ap (g : PV → PV → Option Bool) (fa fb : EF)  (env : SEnv) (st : PV) : cmpT g fa fb env st = ((fa env st).bind fun p st1 => (fb env st1).bind fun q st2 => match g p q with
  | some z => .ok z st2
  | none => .stuck) := (rfl)
@[simp] theorem cE_ap (p : PV)  (env_ : SEnv) (st : PV) : cE p env_ st = (.ok p st) := (rfl)
@[simp] theorem vE_ap (i : Nat)  (env : SEnv) (st : PV) : vE i env st = (match env[i]? with
  | some (.sh p) => .ok p st
  | some (.bor p) => if borOk p = true then .ok p st else .stuck
  | _ => .stuck) := (rfl)
@[simp] theorem vR_ap (i : Nat)  (env : SEnv) (st : PV) : vR i env st = (match env[i]? with
  | some (.sh p) => .ok p st
  | some (.bor p) => .ok p st
  | some (.own p) => .ok p st
  | _ => .stuck) := (rfl)
@[simp] theorem andT_ap (f1 f2 : TF)  (env : SEnv) (st : PV) : andT f1 f2 env st = ((f1 env st).bind fun b st1 => if b = true then f2 env st1 else .ok false st1) := (rfl)
@[simp] theorem orT_ap (f1 f2 : TF)  (env : SEnv) (st : PV) : orT f1 f2 env st = ((f1 env st).bind fun b st1 => if b = true then .ok true st1 else f2 env st1) := (rfl)
@[simp] theorem notT_ap (f : TF)  (env : SEnv) (st : PV) : notT f env st = ((f env st).bind fun b st1 => .ok (!b) st1) := (rfl)
@[simp] theorem truT_ap (f : EF)  (env : SEnv) (st : PV) : truT f env st = ((f env st).bind fun p st1 => match truP p with
  | some b => .ok b st1
  | none => .stuck) := (rfl)
@[simp] theorem notE_ap (f : EF)  (env : SEnv) (st : PV) : notE f env st = ((f env st).bind fun p st1 => match p with
  | .bl b => .ok (.bl (!b)) st1
  | _ => .stuck) := (rfl)
@[simp] theorem andE_ap (f1 f2 : EF)  (env : SEnv) (st : PV) : andE f1 f2 env st = ((f1 env st).bind fun p st1 => match p with
  | .bl b => if b = true then f2 env st1 else .ok (.bl false) st1
  | _ => .stuck) := (rfl)
@[simp] theorem orE_ap (f1 f2 : EF)  (env : SEnv) (st : PV) : orE f1 f2 env st = ((f1 env st).bind fun p st1 => match p with
  | .bl b => if b = true then .ok (.bl true) st1 else f2 env st1
  | _ => .stuck) := (rfl)
@[simp] theorem ifE_ap (c : TF) (f1 f2 : EF)  (env : SEnv) (st : PV) : ifE c f1 f2 env st = ((c env st).bind fun k st1 => if k = true then f1 env st1 else f2 env st1) := (rfl)
@[simp] theorem negE_ap (f : EF)  (env : SEnv) (st : PV) : negE f env st = ((f env st).bind fun p st1 => match p with
  | .int i => .ok (.int (-i)) st1
  | _ => .stuck) := (rfl)
@[simp] theorem nilA_ap  (env_ : SEnv) (st : PV) : nilA env_ st = (.ok [] st) := (rfl)
@[simp] theorem consA_ap (f : EF) (g : AF)  (env : SEnv) (st : PV) : consA f g env st = ((f env st).bind fun p st1 => (g env st1).bind fun ps st2 => .ok (p :: ps) st2) := (rfl)
@[simp] theorem mtA_ap (i : Nat)  (env : SEnv) (st : PV) : mtA i env st = (match env[i]? with
  | some .mt => .ok .non st
  | _ => .stuck) := (rfl)
@[simp] theorem callE_ap (fi : FnI) (dps : List PV) (fa : AF)  (env : SEnv) (st : PV) : callE fi dps fa env st = ((fa env st).bind fun ps st1 => callK fi (ps ++ dps) st1) := (rfl)
@[simp] theorem appS_ap (i : Nat) (f : EF)  (env : SEnv) (st : PV) : appS i f env st = (match env[i]? with
  | some (.own (.lst ps)) => liftS (f env st) env fun p st' => if ps.length < sizeLine then .nx (env.set i (.own (.lst (ps ++ [p])))) st' else .stuck
  | _ => .stuck) := (rfl)
@[simp] theorem setIx_ap (i : Nat) (fe fi : EF)  (env : SEnv) (st : PV) : setIx i fe fi env st = (match env[i]? with
  | some (.own (.lst ps)) => liftS (fe env st) env fun p st1 => liftS (fi env st1) env fun q st2 => match q with
    | .int k => (match ixN ps.length k with
      | some j => .nx (env.set i (.own (.lst (ps.set j p)))) st2
      | none => .stuck)
    | _ => .stuck
  | _ => .stuck) := (rfl)
@[simp] theorem setIxM_ap (i : Nat) (c : Int) (fe : EF)  (env : SEnv) (st : PV) : setIxM i c fe env st = (liftS (fe env st) env fun p st1 => match env[i]? with
  | some .mt => (match st1 with
    | .lst ps => (match ixN ps.length c with
      | some j => .nx env (.lst (ps.set j p))
      | none => .stuck)
    | _ => .stuck)
  | _ => .stuck) := (rfl)
@[simp] theorem setDct_ap (i : Nat) (fe fi : EF)  (env : SEnv) (st : PV) : setDct i fe fi env st = (match env[i]? with
  | some (.own (.dct ks ps)) => liftS (fe env st) env fun p st1 => liftS (fi env st1) env fun q st2 => match keyP q with
    | some k => if ks.length < sizeLine then .nx (env.set i (.own (putD ks ps k p))) st2 else .stuck
    | none => .stuck
  | _ => .stuck) := (rfl)
@[simp] theorem ixM_ap (i : Nat) (c : Int)  (env : SEnv) (st : PV) : ixM i c env st = (match env[i]? with
  | some .mt => (match st with
    | .lst ps => (match L2.atI ps c with
      | some p => .ok p st
      | none => .stuck)
    | _ => .stuck)
  | _ => .stuck) := (rfl)
@[simp] theorem fldE_ap (cs : List Str) (f : Str) (fa : EF)  (env : SEnv) (st : PV) : fldE cs f fa env st = ((fa env st).bind fun p st1 => match fldP cs f p with
  | some q => .ok q st1
  | none => .stuck) := (rfl)
@[simp] theorem fldM_ap (cs : List Str) (f : Str) (i : Nat)  (env : SEnv) (st : PV) : fldM cs f i env st = (match env[i]? with
  | some .mt => (match fldP cs f st with
    | some q => .ok q st
    | none => .stuck)
  | _ => .stuck) := (rfl)
@[simp] theorem setFld_ap (i : Nat) (cs : List Str) (f : Str) (fe : EF)  (env : SEnv) (st : PV) : setFld i cs f fe env st = (match env[i]? with
  | some (.own (.ins c ns ps)) => liftS (fe env st) env fun p st1 => if c ∈ cs ∧ ns.length < 1000 then .nx (env.set i (.own (.ins c (putN f ns) (putV f p ns ps)))) st1 else .stuck
  | _ => .stuck) := (rfl)
@[simp] theorem setFldM_ap (i : Nat) (cs : List Str) (f : Str) (fe : EF)  (env : SEnv) (st : PV) : setFldM i cs f fe env st = (liftS (fe env st) env fun p st1 => match env[i]? with
  | some .mt => (match st1 with
    | .ins c ns ps => if c ∈ cs ∧ ns.length < 1000 then .nx env (.ins c (putN f ns) (putV f p ns ps)) else .stuck
    | _ => .stuck)
  | _ => .stuck) := (rfl)
@[simp] theorem methE_ap (cs : List Str) (m : Str) (fi : FnI) (dps : List PV) (fo : EF) (fa : AF)  (env : SEnv) (st : PV) : methE cs m fi dps fo fa env st = ((fo env st).bind fun p st1 => match p with
  | .ins c ns ps => if c ∈ cs ∧ m ∉ ns then (fa env st1).bind fun qs st2 => callK fi (.ins c ns ps :: (qs ++ dps)) st2 else .stuck
  | _ => .stuck) := (rfl)
@[simp] theorem makeE_ap (c : Str) (fi : FnI) (dps : List PV) (fa : AF)  (env : SEnv) (st : PV) : makeE c fi dps fa env st = ((fa env st).bind fun ps st1 => makeK c fi (ps ++ dps) st1) := (rfl)
@[simp] theorem lcE_ap (vs : List Nat) (fi : AF) (t : GF) (c : TF) (e : EF)  (env : SEnv) (st : PV) : lcE vs fi t c e env st = ((fi env st).bind fun ps st1 => if calmAt env vs = true ∧ ps.length ≤ sizeLine then (match lcL t c e (killS vs env) ps st1 with
  | .ok ys st2 => .ok (.lst ys) st2
  | _ => .stuck) else .stuck) := (rfl)
@[simp] theorem yesT_ap  (env_ : SEnv) (st : PV) : yesT env_ st = (.ok true st) := (rfl)
@[simp] theorem lstE_ap (fa : AF)  (env : SEnv) (st : PV) : lstE fa env st = ((fa env st).bind fun ps st1 => if ps.length ≤ sizeLine then .ok (.lst ps) st1 else .stuck) := (rfl)
@[simp] theorem tupE_ap (fa : AF)  (env : SEnv) (st : PV) : tupE fa env st = ((fa env st).bind fun ps st1 => if ps.length ≤ sizeLine then .ok (.tup ps) st1 else .stuck) := (rfl)
@[simp] theorem biE_ap (g : List PV → Option PV) (fa : AF)  (env : SEnv) (st : PV) : biE g fa env st = ((fa env st).bind fun ps st1 => match g ps with
  | some z => .ok z st1
  | none => .stuck) := (rfl)
@[simp] theorem seqA_ap (f : EF)  (env : SEnv) (st : PV) : seqA f env st = ((f env st).bind fun p st1 => match seqP p with
  | some ps => .ok ps st1
  | none => .stuck) := (rfl)
@[simp] theorem rngA_ap (fa : AF)  (env : SEnv) (st : PV) : rngA fa env st = ((fa env st).bind fun ps st1 => match rngP ps with
  | some qs => .ok qs st1
  | none => .stuck) := (rfl)
@[simp] theorem enumA_ap (f : EF)  (env : SEnv) (st : PV) : enumA f env st = ((f env st).bind fun p st1 => match seqP p with
  | some ps => .ok (enumPs ps) st1
  | none => .stuck) := (rfl)
@[simp] theorem isiE_ap (ts : List String) (f : EF)  (env : SEnv) (st : PV) : isiE ts f env st = ((f env st).bind fun p st1 => match isiP ts p with
  | some b => .ok (.bl b) st1
  | none => .stuck) := (rfl)
@[simp] theorem smE_ap (g : Str → PV → Option PV) (fo fa : EF)  (env : SEnv) (st : PV) : smE g fo fa env st = ((fo env st).bind fun o st1 => match o with
  | .str a => (fa env st1).bind fun p st2 => match g a p with
    | some z => .ok z st2
    | none => .stuck
  | _ => .stuck) := (rfl)
@[simp] theorem noP_ap  (env_ : SEnv) (st : PV) : noP env_ st = (.ok none st) := (rfl)
@[simp] theorem someP_ap (f : EF)  (env : SEnv) (st : PV) : someP f env st = ((f env st).bind fun p st1 => match p with
  | .int i => .ok (some i) st1
  | _ => .stuck) := (rfl)
@[simp] theorem slE_ap (g : PV → Option Int → Option Int → Option PV) (f : EF) (l h : PF)  (env : SEnv) (st : PV) : slE g f l h env st = ((f env st).bind fun p st1 => (l env st1).bind fun lo st2 => (h env st2).bind fun hi st3 => match g p lo hi with
  | some z => .ok z st3
  | none => .stuck) := (rfl)
@[simp] theorem upG_ap (is : List Nat)  (p : PV) (env : SEnv) : upG is p env = (match p with
  | .tup ps => if ps.length = is.length then some (setL is ps env) else none
  | .lst ps => if ps.length = is.length then some (setL is ps env) else none
  | _ => none) := (rfl)
@[simp] theorem asgS_ap (f : EF) (t : GF)  (env : SEnv) (st : PV) : asgS f t env st = (liftS (f env st) env fun p st' => match t p env with
  | some env' => .nx env' st'
  | none => .stuck) := (rfl)
@[simp] theorem raiseS_ap (c : Str) (fs : List Str) (fa : AF)  (env : SEnv) (st : PV) : raiseS c fs fa env st = (liftS (fa env st) env fun ps st' => if ps.length = fs.length ∧ ps.length ≤ 1000 then .exc c fs.reverse ps.reverse env st' else .stuck) := (rfl)
@[simp] theorem tryS_ap (tbl : Str → Str → Option Bool) (g : SF) (hs : List (Str × Option Nat × SF))  (env : SEnv) (st : PV) : tryS tbl g hs env st = (match g env st with
  | .exc c ns ps env1 st1 => handS tbl hs c ns ps env1 st1
  | r => r) := (rfl)
@[simp] theorem xfE_ap (i : Nat) (cs : List Str) (f : Str)  (env : SEnv) (st : PV) : xfE i cs f env st = (match env[i]? with
  | some (.exc c ns ps) => if c ∈ cs then (match (ns.zip ps).lookup f with
    | some p => .ok p st
    | none => .stuck) else .stuck
  | _ => .stuck) := (rfl)
@[simp] theorem makeKE_ap (c : Str) (fi : FnI) (nk : Nat) (fa fk : AF)  (env : SEnv) (st : PV) : makeKE c fi nk fa fk env st = ((fa env st).bind fun ps st1 => (fk env st1).bind fun qs st2 => if qs.length = nk then makeK c fi (ps ++ qs) st2 else .stuck) := (rfl)
@[simp] theorem lenM_ap (cs : List Str) (fi : FnI) (fo : EF) (env : SEnv) (st : PV) : lenM cs fi fo env st = (fo env st).bind fun p st1 => match p with
  | .ins c ns ps => if c ∈ cs then (match fi.sem [.ins c ns ps] .non with
    | .ok (.int n) _ => if 0 ≤ n ∧ n < 2 ^ 63 then .ok (.int n) st1 else .stuck
    | _ => .stuck) else .stuck
  | _ => .stuck := (rfl)
@[simp] theorem cmpE_ap (g : PV → PV → Option Bool) (fa fb : EF) (env : SEnv) (st : PV) : cmpE g fa fb env st = opE (fun p q => (g p q).map PV.bl) fa fb env st := (rfl)
@[simp] theorem mkFn_sem (ms : List Md) (own : Bool) (n : Nat) (g : SF) (ps : List PV) (st : PV) : (mkFn ms own n g).sem ps st = endS (ms.any isMut) own (g (env0 ms ps n) st) := (rfl)
@[simp] theorem mkFn_ms (ms : List Md) (own : Bool) (n : Nat) (g : SF) : (mkFn ms own n g).ms = ms := (rfl)
@[simp] theorem killS_nil (env : SEnv) : killS [] env = env := (rfl)
@[simp] theorem killS_cons (i : Nat) (is : List Nat) (a : Slot) (env : SEnv) : killS (i :: is) (a :: env) = killS is ((a :: env).set i .dead) := (rfl)
@[simp] theorem isMut_val : isMut .val = false := (rfl)
@[simp] theorem isMut_bor : isMut .bor = false := (rfl)
@[simp] theorem isMut_mu : isMut .mu = true := (rfl)
@[simp] theorem endS_ret0 (own : Bool) (p : PV) (env : SEnv) (st : PV) : endS false own (.ret p own env st) = .ok p st := by simp [endS]
@[simp] theorem endS_ret1 (own : Bool) (p : PV) (env : SEnv) (st : PV) : endS true own (.ret p own env st) = if hasMt env = true then .ok p st else .stuck := by simp [endS]
@[simp] theorem endS_exc0 (own : Bool) (c : Str) (ns : List Str) (ps : List PV) (env : SEnv) (st : PV) : endS false own (.exc c ns ps env st) = .exc c ns ps st := by simp [endS]
@[simp] theorem endS_nx0 (env : SEnv) (st : PV) : endS false false (.nx env st) = .ok .non st := by simp [endS]
@[simp] theorem endS_nx1 (env : SEnv) (st : PV) : endS true false (.nx env st) = if hasMt env = true then .ok .non st else .stuck := by simp [endS]
theorem callK_val {fi : FnI} {ps : List PV} {st : PV} (h : fi.ms.any isMut = false := by rfl) : callK fi ps st = (match fi.sem ps .non with
  | .ok p _ => .ok p st
  | .exc c ns qs _ => .exc c ns qs st
  | .stuck => .stuck) := by
  unfold callK
  rw [if_neg (by rw [h]; decide)] <;> (cases fi.sem ps .non <;> rfl)
theorem callK_mu {fi : FnI} {ps : List PV} {st : PV} (h : fi.ms.any isMut = true := by rfl) : callK fi ps st = fi.sem ps st := by
  unfold callK
  rw [if_pos h]

/-! ### loops -/
/-- a for that runs through -/
theorem forL_all {t : GF} {b : SF} (I : Nat → SEnv → PV → Prop) : ∀ {ps : List PV} {env : SEnv} {st : PV} (n : Nat), (∀ i p env st, ps[i]? = some p → I (n + i) env st → ∃ env1 env2 st2, t p env = some env1 ∧ b env1 st = .nx env2 st2 ∧ I (n + i + 1) env2 st2) → I n env st → ∃ env' st', forL t b ps env st = .nx env' st' ∧ I (n + ps.length) env' st'
  | [], env, st, n, _, h => ⟨env, st, rfl, h⟩
  | p :: ps, env, st, n, hs, h => by
    obtain ⟨env1, env2, st2, h1, h2, h3⟩ := hs 0 p env st rfl h
    obtain ⟨env', st', h4, h5⟩ := forL_all I (ps := ps) (n + 1) (fun i q env st e hI => by
      have := hs (i + 1) q env st (by simpa using e) (by rw [show n + (i + 1) = n + 1 + i by omega]; exact hI)
      rw [show n + (i + 1) = n + 1 + i by omega] at this
      exact this) h3
    refine ⟨env', st', ?_, by rw [List.length_cons, show n + (ps.length + 1) = n + 1 + ps.length by omega]; exact h5⟩
    unfold forL
    rw [h1]
    dsimp only
    rw [h2]
    exact h4
/-- a for that may end by an end R -/
theorem forL_or {t : GF} {b : SF} (I : Nat → SEnv → PV → Prop) (R : SR → Prop) (hR : ∀ r, R r → (∃ p o e s, r = .ret p o e s) ∨ (∃ c ns ps e s, r = .exc c ns ps e s)) : ∀ {ps : List PV} {env : SEnv} {st : PV} (n : Nat), (∀ i p env st, ps[i]? = some p → I (n + i) env st → ∃ env1, t p env = some env1 ∧ ((∃ env2 st2, b env1 st = .nx env2 st2 ∧ I (n + i + 1) env2 st2) ∨ R (b env1 st))) → I n env st → (∃ env' st', forL t b ps env st = .nx env' st' ∧ I (n + ps.length) env' st') ∨ R (forL t b ps env st)
  | [], env, st, n, _, h => .inl ⟨env, st, rfl, h⟩
  | p :: ps, env, st, n, hs, h => by
    obtain ⟨env1, h1, h2⟩ := hs 0 p env st rfl h
    rcases h2 with ⟨env2, st2, h2, h3⟩ | h2
    · have ih := forL_or I R hR (ps := ps) (n + 1) (fun i q env st e hI => by
        have := hs (i + 1) q env st (by simpa using e) (by rw [show n + (i + 1) = n + 1 + i by omega]; exact hI)
        rw [show n + (i + 1) = n + 1 + i by omega] at this
        exact this) h3
      have e : forL t b (p :: ps) env st = forL t b ps env2 st2 := by
        conv => lhs; unfold forL
        rw [h1]
        dsimp only
        rw [h2]
      rw [e, List.length_cons, show n + (ps.length + 1) = n + 1 + ps.length by omega]
      exact ih
    · refine .inr ?_
      have e : forL t b (p :: ps) env st = b env1 st := by
        conv => lhs; unfold forL
        rw [h1]
        dsimp only
        rcases hR _ h2 with ⟨q, o, e, s, z⟩ | ⟨c, ns, qs, e, s, z⟩ <;> rw [z]
      rw [e]
      exact h2
/-- a comprehension that changes nothing -/
theorem lcL_pure {t : GF} {c : TF} {e : EF} {env : SEnv} {st : PV} (f : PV → Bool) (g : PV → PV) : ∀ {ps : List PV}, (∀ p ∈ ps, ∃ env1, t p env = some env1 ∧ c env1 st = .ok (f p) st ∧ (f p = true → e env1 st = .ok (g p) st)) → lcL t c e env ps st = .ok ((ps.filter f).map g) st
  | [], _ => rfl
  | p :: ps, h => by
    obtain ⟨env1, h1, h2, h3⟩ := h p List.mem_cons_self
    have ih := lcL_pure f g (ps := ps) fun q hq => h q (List.mem_cons_of_mem _ hq)
    unfold lcL
    rw [h1]
    dsimp only
    rw [h2, ER.bind_ok]
    cases hf : f p with
    | true => rw [if_pos rfl, h3 hf, ER.bind_ok, ih, ER.bind_ok, List.filter_cons_of_pos hf]; rfl
    | false => rw [if_neg Bool.false_ne_true, ih, List.filter_cons_of_neg (by rw [hf]; decide)]
/-- .. that changes the state within S: its items by P -/
theorem lcL_st {t : GF} {c : TF} {e : EF} {env : SEnv} (S : PV → Prop) (P : PV → PV → Prop) : ∀ {ps : List PV} {st : PV}, S st → (∀ p ∈ ps, ∀ st, S st → ∃ env1, t p env = some env1 ∧ ∃ b st1, c env1 st = .ok b st1 ∧ S st1 ∧ (b = true → ∃ y st2, e env1 st1 = .ok y st2 ∧ S st2 ∧ P p y)) → ∃ (qs ys : List PV) (st' : PV), lcL t c e env ps st = .ok ys st' ∧ S st' ∧ qs.Sublist ps ∧ qs.length = ys.length ∧ ∀ (i : Nat) p y, qs[i]? = some p → ys[i]? = some y → P p y
  | [], st, hS, _ => ⟨[], [], st, rfl, hS, List.Sublist.refl _, rfl, fun i p y e => by simp at e⟩
  | p :: ps, st, hS, h => by
    obtain ⟨env1, h1, b, st1, h2, h3, h4⟩ := h p List.mem_cons_self st hS
    cases b with
    | true =>
      obtain ⟨y, st2, h5, h6, h7⟩ := h4 rfl
      obtain ⟨qs, ys, st', k1, k2, k3, k4, k5⟩ := lcL_st S P (ps := ps) h6 fun q hq => h q (List.mem_cons_of_mem _ hq)
      refine ⟨p :: qs, y :: ys, st', ?_, k2, k3.cons_cons p, by simp [k4], fun i q z e1 e2 => ?_⟩
      · unfold lcL
        rw [h1]
        dsimp only
        rw [h2, ER.bind_ok, if_pos rfl, h5, ER.bind_ok, k1]
        rfl
      · cases i with
        | zero => simp at e1 e2; subst e1 e2; exact h7
        | succ i => exact k5 i q z (by simpa using e1) (by simpa using e2)
    | false =>
      obtain ⟨qs, ys, st', k1, k2, k3, k4, k5⟩ := lcL_st S P (ps := ps) h3 fun q hq => h q (List.mem_cons_of_mem _ hq)
      refine ⟨qs, ys, st', ?_, k2, k3.cons p, k4, k5⟩
      unfold lcL
      rw [h1]
      dsimp only
      rw [h2, ER.bind_ok, if_neg Bool.false_ne_true]
      exact k1
end KI
/-! part KI22 -/
set_option Elab.async false
set_option linter.all false
set_option maxRecDepth 100000
set_option maxHeartbeats 4000000
namespace KI
open PySem PySem.Spec PyProof.Rows L2
/-! ### steps, one by one: for terms whose evaluation the kernel must not try -/
theorem seq_nx {g1 g2 : SF} {env env' : SEnv} {st st' : PV} {r : SR} (h : g1 env st = .nx env' st') (h2 : g2 env' st' = r) : seqS g1 g2 env st = r := by
  rw [seqS_ap, h]; exact h2
theorem seq_ret {g1 g2 : SF} {env env' : SEnv} {st st' : PV} {p : PV} {o : Bool} (h : g1 env st = .ret p o env' st') : seqS g1 g2 env st = .ret p o env' st' := by
  rw [seqS_ap, h]
theorem seq_exc {g1 g2 : SF} {env env' : SEnv} {st st' : PV} {c : Str} {ns : List Str} {ps : List PV} (h : g1 env st = .exc c ns ps env' st') : seqS g1 g2 env st = .exc c ns ps env' st' := by
  rw [seqS_ap, h]
theorem lift_ok {α : Type} {a : α} {env : SEnv} {st : PV} {k : α → PV → SR} : liftS (.ok a st) env k = k a st := (rfl)
theorem set_ok {i : Nat} {f : EF} {env : SEnv} {st st1 p : PV} (h : f env st = .ok p st1) : setS i f env st = .nx (env.set i (.sh p)) st1 := by
  rw [setS_ap, h, lift_ok]
theorem setO_ok {i : Nat} {f : EF} {env : SEnv} {st st1 p : PV} (h : f env st = .ok p st1) : setO i f env st = .nx (env.set i (.own p)) st1 := by
  rw [setO_ap, h, lift_ok]
theorem ret_ok {f : EF} {env : SEnv} {st st1 p : PV} (h : f env st = .ok p st1) : retS f env st = .ret p false env st1 := by
  rw [retS_ap, h, lift_ok]
theorem for_ok {f : AF} {t : GF} {b : SF} {env : SEnv} {st st1 : PV} {ps : List PV} {r : SR} (h : f env st = .ok ps st1) (h2 : forL t b ps env st1 = r) : forS f t b env st = r := by
  rw [forS_ap, h, lift_ok]; exact h2
theorem if_ok {c : TF} {g1 g2 : SF} {env : SEnv} {st st1 : PV} {b : Bool} {r : SR} (h : c env st = .ok b st1) (h2 : (if b = true then g1 env st1 else g2 env st1) = r) : ifS c g1 g2 env st = r := by
  rw [ifS_ap, h, lift_ok]; exact h2
theorem forL_nx {t : GF} {b : SF} {p : PV} {ps : List PV} {env env1 env2 : SEnv} {st st2 : PV} {r : SR} (h1 : t p env = some env1) (h2 : b env1 st = .nx env2 st2) (h3 : forL t b ps env2 st2 = r) : forL t b (p :: ps) env st = r := by
  unfold forL
  rw [h1]
  dsimp only
  rw [h2]
  exact h3
theorem forL_ret {t : GF} {b : SF} {p : PV} {ps : List PV} {env env1 env2 : SEnv} {st st2 q : PV} {o : Bool} (h1 : t p env = some env1) (h2 : b env1 st = .ret q o env2 st2) : forL t b (p :: ps) env st = .ret q o env2 st2 := by
  unfold forL
  rw [h1]
  dsimp only
  rw [h2]
theorem rng_ok {f : AF} {env : SEnv} {st st1 : PV} {ps qs : List PV} (h : f env st = .ok ps st1) (h2 : rngP ps = some qs) : rngA f env st = .ok qs st1 := by
  rw [rngA_ap, h, ER.bind_ok, h2]
theorem seqA_ok {f : EF} {env : SEnv} {st st1 p : PV} {qs : List PV} (h : f env st = .ok p st1) (h2 : seqP p = some qs) : seqA f env st = .ok qs st1 := by
  rw [seqA_ap, h, ER.bind_ok, h2]
theorem one_ok {f : EF} {env : SEnv} {st st1 p : PV} (h : f env st = .ok p st1) : consA f nilA env st = .ok [p] st1 := by
  rw [consA_ap, h, ER.bind_ok, nilA_ap, ER.bind_ok]
theorem cons_ok {f : EF} {g : AF} {env : SEnv} {st st1 st2 p : PV} {ps : List PV} (h : f env st = .ok p st1) (h2 : g env st1 = .ok ps st2) : consA f g env st = .ok (p :: ps) st2 := by
  rw [consA_ap, h, ER.bind_ok, h2, ER.bind_ok]
theorem bi_ok {g : List PV → Option PV} {f : AF} {env : SEnv} {st st1 z : PV} {ps : List PV} (h : f env st = .ok ps st1) (h2 : g ps = some z) : biE g f env st = .ok z st1 := by
  rw [biE_ap, h, ER.bind_ok, h2]
theorem call_ok {fi : FnI} {dps : List PV} {f : AF} {env : SEnv} {st st1 : PV} {ps : List PV} {r : ER PV} (h : f env st = .ok ps st1) (h2 : callK fi (ps ++ dps) st1 = r) : callE fi dps f env st = r := by
  rw [callE_ap, h, ER.bind_ok]; exact h2
theorem cmp_ok {g : PV → PV → Option Bool} {fa fb : EF} {env : SEnv} {st st1 st2 a b : PV} {z : Bool} (h1 : fa env st = .ok a st1) (h2 : fb env st1 = .ok b st2) (h3 : g a b = some z) : cmpT g fa fb env st = .ok z st2 := by
  rw [cmpT_ap, h1, ER.bind_ok, h2, ER.bind_ok, h3]
theorem op_ok {g : PV → PV → Option PV} {fa fb : EF} {env : SEnv} {st st1 st2 a b z : PV} (h1 : fa env st = .ok a st1) (h2 : fb env st1 = .ok b st2) (h3 : g a b = some z) : opE g fa fb env st = .ok z st2 := by
  rw [opE_ap, h1, ER.bind_ok, h2, ER.bind_ok, h3]
theorem lc_ok {vs : List Nat} {fi : AF} {t : GF} {c : TF} {e : EF} {env : SEnv} {st st1 st2 : PV} {ps ys : List PV} (h : fi env st = .ok ps st1) (hc : calmAt env vs = true) (hz : ps.length ≤ sizeLine) (h2 : lcL t c e (killS vs env) ps st1 = .ok ys st2) : lcE vs fi t c e env st = .ok (.lst ys) st2 := by
  rw [lcE_ap, h, ER.bind_ok, if_pos ⟨hc, hz⟩, h2]
theorem while_nx {c : TF} {b : SF} {n : Nat} {env env2 : SEnv} {st st1 st2 : PV} {r : SR} (h : c env st = .ok true st1) (h1 : b env st1 = .nx env2 st2) (h2 : whileL c b n env2 st2 = r) : whileL c b (n + 1) env st = r := by
  unfold whileL
  rw [h]
  dsimp only
  rw [h1]
  exact h2
theorem while_end {c : TF} {b : SF} {n : Nat} {env : SEnv} {st st1 : PV} (h : c env st = .ok false st1) : whileL c b (n + 1) env st = .nx env st1 := by
  unfold whileL
  rw [h]
theorem sem_ok {ms : List Md} {own : Bool} {n : Nat} {g : SF} {ps : List PV} {st st1 p : PV} {env1 : SEnv} (h : g (env0 ms ps n) st = .ret p own env1 st1) (hm : (ms.any isMut = true → hasMt env1 = true)) : (mkFn ms own n g).sem ps st = .ok p st1 := by
  rw [mkFn_sem, h]
  cases e : ms.any isMut with
  | false => exact endS_ret0 _ _ _ _
  | true => rw [endS_ret1, if_pos (hm e)]
end KI

/-! part W10 -/
set_option Elab.async false
set_option linter.all false
set_option maxRecDepth 100000
set_option maxHeartbeats 4000000
namespace KI.K10
open PySem PySem.Spec PySem.Calls PyProof.Rows L2 KI
abbrev RW := PySem.Challenge.rw_knowninside_k10_orders_are_judged
abbrev PW := PySem.Challenge.pw_knowninside_k10_orders_are_judged
def top (i : Nat) : Stmt := PW.main.body.getD i (.Pass ⟨0, 0, 0, 0⟩)
def clsB : Stmt → List Stmt
  | .ClassDef (body := b) .. => b
  | _ => []
def meth (i j : Nat) : Stmt := (clsB (top i)).getD j (.Pass ⟨0, 0, 0, 0⟩)
def exmL : List (Str × Str × Bool) := [("BadLot", "BadLot", true), ("BadLot", "NoPlace", false), ("NoPlace", "BadLot", false), ("NoPlace", "NoPlace", true)]
def exmT (c x : Str) : Option Bool := (exmL.find? fun p => p.1 == c && p.2.1 == x).map (·.2.2)
/-- what the top says -/
structure Tops (K : Frag) (mg : Str → Option Value) (w : World) (base : Heap) : Prop where
  n_len : mg "len" = none
  n_min : mg "min" = none
  n_int : mg "int" = none
  n_tuple : mg "tuple" = none
  n_list : mg "list" = none
  n_sorted : mg "sorted" = none
  n_isinstance : mg "isinstance" = none
  n_range : mg "range" = none
  n_enumerate : mg "enumerate" = none
  n_bool : mg "bool" = none
  n_str : mg "str" = none
  n_super : mg "super" = none
  c_NONE : ∃ t, mg "NONE" = some (.str "." t)
  c_FIRM : ∃ t, mg "FIRM" = some (.str "f" t)
  c_LOOSE : ∃ t, mg "LOOSE" = some (.str "l" t)
  c_TOLD : ∃ t, mg "TOLD" = some (.str "t" t)
  c_MOST_COLUMNS : ∃ t, mg "MOST_COLUMNS" = some (.int 600 t)
  c_MOST_LINES : ∃ t, mg "MOST_LINES" = some (.int 800 t)
  x_NoPlace : FnX PW w K mg base "NoPlace" ["place"]
  x_BadLot : FnX PW w K mg base "BadLot" ["place"]
  x_BadMark : FnX PW w K mg base "BadMark" ["row", "column"]
  x_TooMany : FnX PW w K mg base "TooMany" ["most"]
  x_TwoTold : FnX PW w K mg base "TwoTold" ["row"]
  fo_Table_columns : FldOk K ["Table"] "columns"
  fo_Table_lines : FldOk K ["Table"] "lines"
  fo_Forcing_table : FldOk K ["Forcing"] "table"
  fo_Forcing_order : FldOk K ["Forcing"] "order"
  fo_Forcing_white : FldOk K ["Forcing"] "white"
  g_BadLot : mg "BadLot" = some (.ref (He.ga K "BadLot"))
  g_NoPlace : mg "NoPlace" = some (.ref (He.ga K "NoPlace"))
  xg_BadLot_place : ∀ c ∈ (["BadLot"] : List Str), XGet K (He.ga K c) "place"
  xg_NoPlace_place : ∀ c ∈ (["NoPlace"] : List Str), XGet K (He.ga K c) "place"
  exm : ∀ c x b, exmT c x = some b → PySem.W.exmOne K (.ref (He.ga K c)) (.ref (He.ga K x)) = some b

-- is_whole
def g_is_whole : SF := (seqS (retS (andE (isiE ["int"] (vR 0)) (notE (isiE ["bool"] (vR 0))))) nxS)
def fi_is_whole : FnI := mkFn [.val] false 1 g_is_whole
-- place_of
def g_place_of : SF := (seqS (ifS (notT (truT (callE fi_is_whole [] (consA (vE 0) nilA)))) (seqS (raiseS "NoPlace" ["place"] (consA (cE (.int 0)) nilA)) nxS) nxS) (seqS (ifS (orT (cmpT ltP (vR 0) (cE (.int 0))) (cmpT geP (vR 0) (vR 1))) (seqS (raiseS "NoPlace" ["place"] (consA (vE 0) nilA)) nxS) nxS) (seqS (retS (vE 0)) nxS)))
def fi_place_of : FnI := mkFn [.val, .val] false 2 g_place_of
-- size_of
def g_size_of : SF := (seqS (ifS (notT (truT (callE fi_is_whole [] (consA (vE 0) nilA)))) (seqS (raiseS "NoPlace" ["place"] (consA (cE (.int 0)) nilA)) nxS) nxS) (seqS (ifS (cmpT ltP (vR 0) (cE (.int 0))) (seqS (raiseS "NoPlace" ["place"] (consA (vE 0) nilA)) nxS) nxS) (seqS (retS (vE 0)) nxS)))
def fi_size_of : FnI := mkFn [.val] false 1 g_size_of
-- lot_of
def g_lot_of : SF := (seqS (ifS (notT (truT (isiE ["list", "tuple"] (vR 0)))) (seqS (raiseS "BadLot" ["place"] (consA (negE (cE (.int 1))) nilA)) nxS) nxS) (seqS (setO 2 (fun _ st => .ok (.dct [] []) st)) (seqS (forS (enumA (vE 0)) (pairG 3 4) (seqS (ifS (orT (notT (truT (callE fi_is_whole [] (consA (vE 4) nilA)))) (orT (cmpT ltP (vR 4) (cE (.int 0))) (orT (cmpT geP (vR 4) (vR 1)) (cmpT (inP false) (vR 4) (vR 2))))) (seqS (raiseS "BadLot" ["place"] (consA (vE 3) nilA)) nxS) nxS) (seqS (setDct 2 (cE (.bl true)) (vE 4)) (fun env st => .nx (killS [3, 4] env) st)))) (seqS (retS (biE tupleP (consA (biE sortedP (consA (biE listP (consA (vR 2) nilA)) nilA)) nilA))) nxS))))
def fi_lot_of : FnI := mkFn [.val, .val] false 5 g_lot_of
-- is_hard
def g_is_hard : SF := (seqS (retS (cmpE (inP false) (vR 0) (tupE (consA (cE (.str "f")) (consA (cE (.str "t")) nilA))))) nxS)
def fi_is_hard : FnI := mkFn [.val] false 1 g_is_hard
-- is_touched
def g_is_touched : SF := (seqS (retS (cmpE (inP false) (vR 0) (tupE (consA (cE (.str "f")) (consA (cE (.str "l")) (consA (cE (.str "t")) nilA)))))) nxS)
def fi_is_touched : FnI := mkFn [.val] false 1 g_is_touched
-- check_line
def g_check_line : SF := (seqS (ifS (orT (notT (truT (isiE ["str"] (vR 0)))) (cmpT neP (biE lenP (consA (vR 0) nilA)) (vR 1))) (seqS (raiseS "BadMark" ["row", "column"] (consA (vE 2) (consA (negE (cE (.int 1))) nilA))) nxS) nxS) (seqS (forS (enumA (vE 0)) (pairG 3 4) (seqS (ifS (andT (cmpT neP (vR 4) (cE (.str "."))) (notT (truT (callE fi_is_touched [] (consA (vE 4) nilA))))) (seqS (raiseS "BadMark" ["row", "column"] (consA (vE 2) (consA (vE 3) nilA))) nxS) nxS) (fun env st => .nx (killS [3, 4] env) st))) (seqS (ifS (cmpT gtP (smE countP (vR 0) (cE (.str "t"))) (cE (.int 1))) (seqS (raiseS "TwoTold" ["row"] (consA (vE 2) nilA)) nxS) nxS) (seqS (retS (vE 0)) nxS))))
def fi_check_line : FnI := mkFn [.val, .val, .val] false 5 g_check_line
-- flags_of
def g_flags_of : SF := (seqS (setO 2 (opE mulL (lstE (consA (cE (.bl false)) nilA)) (vR 1))) (seqS (forS (seqA (vE 0)) (nameG 3) (seqS (setIx 2 (cE (.bl true)) (vE 3)) (fun env st => .nx (killS [3] env) st))) (fun env st => (seqS (retS (vE 2)) nxS) (frzE 2 env) st)))
def fi_flags_of : FnI := mkFn [.val, .val] false 4 g_flags_of
-- places_of
def g_places_of : SF := (seqS (retS (biE tupleP (consA (lcE [1] (rngA (consA (biE lenP (consA (vR 0) nilA)) nilA)) (nameG 1) (truT (opE ixP (vR 0) (vR 1))) (vE 1)) nilA))) nxS)
def fi_places_of : FnI := mkFn [.bor] false 2 g_places_of
-- forced_now
def g_forced_now : SF := (seqS (setO 3 (lcE [4] (seqA (vE 1)) (nameG 4) (truT (opE ixP (vR 2) (vR 4))) (vE 4))) (seqS (ifS (orT (cmpT neP (biE lenP (consA (vR 3) nilA)) (cE (.int 1))) (notT (truT (callE fi_is_hard [] (consA (opE ixP (vR 0) (opE ixP (vR 3) (cE (.int 0)))) nilA))))) (seqS (retS (cE .non)) nxS) nxS) (seqS (retS (opE ixP (vR 3) (cE (.int 0)))) nxS)))
def fi_forced_now : FnI := mkFn [.val, .val, .bor] false 5 g_forced_now
-- count_of_columns
def g_count_of_columns : SF := (seqS (fun env st => liftS ((callE fi_size_of [] (consA (vE 0) nilA)) env st) env fun _ st2 => .nx env st2) (seqS (ifS (cmpT gtP (vR 0) (cE (.int 600))) (seqS (raiseS "TooMany" ["most"] (consA (cE (.int 600)) nilA)) nxS) nxS) (seqS (retS (vE 0)) nxS)))
def fi_count_of_columns : FnI := mkFn [.val] false 1 g_count_of_columns
-- Table_init
def g_Table_init : SF := (seqS (fun env st => liftS ((callE fi_count_of_columns [] (consA (vE 1) nilA)) env st) env fun _ st2 => .nx env st2) (seqS (ifS (notT (truT (isiE ["list", "tuple"] (vR 2)))) (seqS (raiseS "BadMark" ["row", "column"] (consA (negE (cE (.int 1))) (consA (negE (cE (.int 1))) nilA))) nxS) nxS) (seqS (ifS (cmpT gtP (biE lenP (consA (vR 2) nilA)) (cE (.int 800))) (seqS (raiseS "TooMany" ["most"] (consA (cE (.int 800)) nilA)) nxS) nxS) (seqS (setFldM 0 ["Table"] "columns" (vE 1)) (seqS (setFldM 0 ["Table"] "lines" (biE tupleP (consA (lcE [3, 4] (enumA (vE 2)) (pairG 3 4) yesT (callE fi_check_line [] (consA (vE 4) (consA (vE 1) (consA (vE 3) nilA))))) nilA))) nxS)))))
def fi_Table_init : FnI := mkFn [.mu, .val, .val] false 5 g_Table_init
-- Table_len
def g_Table_len : SF := (seqS (retS (biE lenP (consA (fldE ["Table"] "lines" (vR 0)) nilA))) nxS)
def fi_Table_len : FnI := mkFn [.bor] false 1 g_Table_len
-- Table_touches
def g_Table_touches : SF := (seqS (setS 2 (opE ixP (fldE ["Table"] "lines" (vR 0)) (callE fi_place_of [] (consA (vE 1) (consA (biE lenP (consA (fldE ["Table"] "lines" (vR 0)) nilA)) nilA))))) (seqS (retS (biE tupleP (consA (lcE [3, 4] (enumA (vE 2)) (pairG 3 4) (truT (callE fi_is_touched [] (consA (vE 4) nilA))) (vE 3)) nilA))) nxS))
def fi_Table_touches : FnI := mkFn [.bor, .val] false 5 g_Table_touches
-- Forcing_init
def g_Forcing_init : SF := (seqS (setS 3 (callE fi_lot_of [] (consA (vE 2) (consA (fldE ["Table"] "columns" (vR 1)) nilA)))) (seqS (setO 4 (opE mulL (lstE (consA (cE (.bl true)) nilA)) (fldE ["Table"] "columns" (vR 1)))) (seqS (forS (seqA (vE 3)) (nameG 5) (seqS (setIx 4 (cE (.bl false)) (vE 5)) (fun env st => .nx (killS [5] env) st))) (seqS (setO 6 (lcE [9] (rngA (consA (lenM ["Table"] fi_Table_len (vR 1)) nilA)) (nameG 9) yesT (methE ["Table"] "touches" fi_Table_touches [] (vR 1) (consA (vE 9) nilA)))) (seqS (setO 7 (lstE nilA)) (seqS (setS 8 (negE (cE (.int 1)))) (seqS (fun env st => whileL (cmpT gtP (biE lenP (consA (vR 7) nilA)) (vR 8)) (seqS (setS 8 (biE lenP (consA (vR 7) nilA))) (seqS (forS (rngA (consA (biE lenP (consA (vR 6) nilA)) nilA)) (nameG 9) (seqS (setS 5 (callE fi_forced_now [] (consA (opE ixP (fldE ["Table"] "lines" (vR 1)) (vR 9)) (consA (opE ixP (vR 6) (vR 9)) (consA (vR 4) nilA))))) (seqS (ifS (cmpT isnP (vR 5) (cE .non)) (seqS (setIx 4 (cE (.bl false)) (vE 5)) (seqS (appS 7 (tupE (consA (vE 9) (consA (vE 5) nilA)))) nxS)) nxS) (fun env st => .nx (killS [9, 5] env) st)))) (fun env st => .nx (killS [9, 5] env) st))) 100 env st) (seqS (setFldM 0 ["Forcing"] "table" (vE 1)) (seqS (setFldM 0 ["Forcing"] "order" (biE tupleP (consA (vR 7) nilA))) (seqS (setFldM 0 ["Forcing"] "white" (callE fi_places_of [] (consA (vR 4) nilA))) nxS))))))))))
def fi_Forcing_init : FnI := mkFn [.mu, .val, .val] false 10 g_Forcing_init
-- is_forcing
def g_is_forcing : SF := (seqS (ifS (orT (notT (truT (isiE ["list", "tuple"] (vR 1)))) (cmpT neP (biE lenP (consA (vR 1) nilA)) (cE (.int 2)))) (seqS (retS (cE (.bl false))) nxS) nxS) (seqS (asgS (vE 1) (upG [3, 4])) (seqS (ifS (orT (notT (truT (callE fi_is_whole [] (consA (vE 3) nilA)))) (orT (notT (truT (callE fi_is_whole [] (consA (vE 4) nilA)))) (orT (cmpT ltP (vR 3) (cE (.int 0))) (cmpT geP (vR 3) (lenM ["Table"] fi_Table_len (vR 0)))))) (seqS (retS (cE (.bl false))) nxS) nxS) (seqS (retS (cmpE eqP (callE fi_forced_now [] (consA (opE ixP (fldE ["Table"] "lines" (vR 0)) (vR 3)) (consA (methE ["Table"] "touches" fi_Table_touches [] (vR 0) (consA (vE 3) nilA)) (consA (vR 2) nilA)))) (vR 4))) nxS))))
def fi_is_forcing : FnI := mkFn [.val, .val, .bor] false 5 g_is_forcing
-- shows_forced
def g_shows_forced : SF := (seqS (setS 4 (callE fi_place_of [] (consA (vE 1) (consA (fldE ["Table"] "columns" (vR 0)) nilA)))) (seqS (setO 5 (lcE [7] (seqA (callE fi_flags_of [] (consA (callE fi_lot_of [] (consA (vE 3) (consA (fldE ["Table"] "columns" (vR 0)) nilA))) (consA (fldE ["Table"] "columns" (vR 0)) nilA)))) (nameG 7) yesT (notE (vR 7)))) (seqS (ifS (notT (truT (isiE ["list", "tuple"] (vR 2)))) (seqS (retS (cE (.bl false))) nxS) nxS) (seqS (forS (seqA (vE 2)) (nameG 6) (seqS (ifS (notT (truT (callE fi_is_forcing [] (consA (vE 0) (consA (vE 6) (consA (vR 5) nilA)))))) (seqS (retS (cE (.bl false))) nxS) nxS) (seqS (setIx 5 (cE (.bl false)) (opE ixP (vR 6) (cE (.int 1)))) (fun env st => .nx (killS [6] env) st)))) (seqS (retS (notE (opE ixP (vR 5) (vR 4)))) nxS)))))
def fi_shows_forced : FnI := mkFn [.val, .val, .val, .val] false 8 g_shows_forced
-- _law_next
def g__law_next : SF := (seqS (setS 2 (ixM 0 0)) (seqS (setS 3 (ixM 0 1)) (seqS (setIxM 0 1 (opE addP (vR 3) (cE (.int 1)))) (seqS (ifS (cmpT geP (vR 3) (biE lenP (consA (vR 2) nilA))) (seqS (retS (cE (.int 0))) nxS) nxS) (seqS (retS (opE modP (biE intTyP (consA (opE ixP (vR 2) (vR 3)) nilA)) (vR 1))) nxS)))))
def fi__law_next : FnI := mkFn [.mu, .val] false 4 g__law_next
-- _law_stream
def g__law_stream : SF := (seqS (setO 1 (lstE nilA)) (seqS (forS (rngA (consA (biE minP (consA (cE (.int 63)) (consA (biE lenP (consA (vR 0) nilA)) nilA))) nilA)) (nameG 2) (seqS (setS 3 (biE intTyP (consA (opE ixP (vR 0) (vR 2)) nilA))) (seqS (setS 4 (opE mulP (cE (.int 2)) (vR 3))) (seqS (ifS (cmpT ltP (vR 3) (cE (.int 0))) (seqS (setS 4 (opE subP (cE (.int 1)) (opE mulP (cE (.int 2)) (vR 3)))) nxS) nxS) (seqS (ifS (cmpT geP (vR 4) (opE powP (cE (.int 10)) (cE (.int 18)))) (seqS (forS (rngA (consA (cE (.int 50)) nilA)) (nameG 5) (seqS (ifS (cmpT gtP (vR 4) (cE (.int 0))) (seqS (appS 1 (opE modP (biE intTyP (consA (vR 4) nilA)) (cE (.int 30)))) (seqS (setS 4 (opE fdivP (vR 4) (cE (.int 30)))) nxS)) nxS) (fun env st => .nx (killS [5] env) st))) nxS) (seqS (setS 6 (opE modP (biE intTyP (consA (opE addP (opE addP (opE mulP (vR 4) (cE (.int 16807))) (opE mulP (vR 2) (cE (.int 7919)))) (cE (.int 101))) nilA)) (cE (.int 2147483629)))) (seqS (forS (rngA (consA (cE (.int 5)) nilA)) (nameG 5) (seqS (setS 6 (opE modP (biE intTyP (consA (opE addP (opE addP (opE addP (opE mulP (vR 6) (vR 6)) (opE mulP (vR 4) (cE (.int 31)))) (opE mulP (vR 5) (cE (.int 524287)))) (vR 2)) nilA)) (cE (.int 2147483587)))) (seqS (appS 1 (opE fdivP (vR 6) (cE (.int 7)))) (fun env st => .nx (killS [5] env) st)))) nxS))) (fun env st => .nx (killS [2, 3, 4, 5, 6] env) st)))))) (fun env st => (seqS (retO (lstE (consA (vE 1) (consA (cE (.int 0)) nilA)))) nxS) (frzE 1 env) st)))
def fi__law_stream : FnI := mkFn [.val] true 7 g__law_stream
-- _law_lines
def g__law_lines : SF := (seqS (setS 4 (cE (.str "f.f..f"))) (seqS (ifS (truT (vR 3)) (seqS (setS 4 (cE (.str "f.fl.."))) nxS) nxS) (seqS (setS 5 (callE fi__law_next [] (consA (mtA 0) (consA (cE (.int 6)) nilA)))) (seqS (setO 6 (lstE nilA)) (seqS (forS (rngA (consA (vE 1) nilA)) (nameG 7) (seqS (setS 8 (cE (.str ""))) (seqS (forS (rngA (consA (vE 2) nilA)) (nameG 9) (seqS (setS 8 (opE addP (vR 8) (opE ixP (vR 4) (opE modP (biE intTyP (consA (opE addP (opE addP (opE addP (callE fi__law_next [] (consA (mtA 0) (consA (cE (.int 6)) nilA))) (opE mulP (cE (.int 2)) (vR 7))) (opE mulP (vR 9) (vR 9))) (vR 5)) nilA)) (cE (.int 6)))))) (fun env st => .nx (killS [9] env) st))) (seqS (appS 6 (vE 8)) (fun env st => .nx (killS [7, 8, 9] env) st))))) (fun env st => (seqS (retS (vE 6)) nxS) (frzE 6 env) st))))))
def fi__law_lines : FnI := mkFn [.mu, .val, .val, .val] false 10 g__law_lines
-- _law_told_line
def g__law_told_line : SF := (seqS (ifS (orT (cmpT eqP (biE lenP (consA (vR 1) nilA)) (cE (.int 0))) (cmpT gtP (callE fi__law_next [] (consA (mtA 0) (consA (cE (.int 3)) nilA))) (cE (.int 0)))) (seqS (retS (vE 1)) nxS) nxS) (seqS (setS 2 (callE fi__law_next [] (consA (mtA 0) (consA (biE minP (consA (cE (.int 30)) (consA (biE lenP (consA (vR 1) nilA)) nilA))) nilA)))) (seqS (retS (opE addP (opE addP (slE slS (vR 1) noP (someP (vE 2))) (cE (.str "t"))) (slE slS (vR 1) (someP (opE addP (vR 2) (cE (.int 1)))) noP))) nxS)))
def fi__law_told_line : FnI := mkFn [.mu, .val] false 3 g__law_told_line
-- _law_lot
def g__law_lot : SF := (seqS (retS (lcE [2] (rngA (consA (vE 1) nilA)) (nameG 2) (cmpT eqP (callE fi__law_next [] (consA (mtA 0) (consA (cE (.int 2)) nilA))) (cE (.int 1))) (vE 2))) nxS)
def fi__law_lot : FnI := mkFn [.mu, .val] false 3 g__law_lot
-- _law_lone
def g__law_lone : SF := (seqS (setO 2 (lcE [4] (seqA (vE 1)) (nameG 4) (cmpT (inP false) (opE ixP (vR 0) (vR 4)) (cE (.str "ft"))) (vE 4))) (seqS (setO 3 (lcE [4] (seqA (vE 1)) (nameG 4) (cmpT eqP (opE ixP (vR 0) (vR 4)) (cE (.str "l"))) (vE 4))) (seqS (ifS (andT (cmpT eqP (biE lenP (consA (vR 2) nilA)) (cE (.int 1))) (cmpT eqP (biE lenP (consA (vR 3) nilA)) (cE (.int 0)))) (seqS (retS (opE ixP (vR 2) (cE (.int 0)))) nxS) nxS) (seqS (retS (cE .non)) nxS))))
def fi__law_lone : FnI := mkFn [.val, .val] false 5 g__law_lone
-- _law_marks
def g__law_marks : SF := (seqS (setS 3 (callE fi__law_lines [] (consA (mtA 0) (consA (vE 1) (consA (vE 2) (consA (cmpE eqP (callE fi__law_next [] (consA (mtA 0) (consA (cE (.int 2)) nilA))) (cE (.int 0))) nilA)))))) (seqS (retS (lcE [4] (seqA (vE 3)) (nameG 4) yesT (callE fi__law_told_line [] (consA (mtA 0) (consA (vE 4) nilA))))) nxS))
def fi__law_marks : FnI := mkFn [.mu, .val, .val] false 5 g__law_marks
-- _law_ladder
def g__law_ladder : SF := (seqS (setS 2 (callE fi__law_next [] (consA (mtA 0) (consA (vE 1) nilA)))) (seqS (setS 3 (opE ixP (lstE (consA (cE (.int 1)) (consA (opE subP (vR 1) (cE (.int 1))) nilA))) (callE fi__law_next [] (consA (mtA 0) (consA (cE (.int 2)) nilA))))) (seqS (setO 4 (lstE nilA)) (seqS (forS (rngA (consA (vE 1) nilA)) (nameG 5) (seqS (setO 6 (lcE [8] (rngA (consA (vE 1) nilA)) (nameG 8) yesT (cE (.str ".")))) (seqS (forS (rngA (consA (vE 5) nilA)) (nameG 7) (seqS (setIx 6 (opE ixP (lstE (consA (cE (.str "f")) (consA (cE (.str ".")) (consA (cE (.str "l")) nilA)))) (callE fi__law_next [] (consA (mtA 0) (consA (cE (.int 3)) nilA)))) (opE modP (biE intTyP (consA (opE addP (vR 2) (opE mulP (vR 7) (vR 3))) nilA)) (vR 1))) (fun env st => .nx (killS [7] env) st))) (seqS (setIx 6 (opE ixP (lstE (consA (cE (.str "f")) (consA (cE (.str "t")) nilA))) (callE fi__law_next [] (consA (mtA 0) (consA (cE (.int 2)) nilA)))) (opE modP (biE intTyP (consA (opE addP (vR 2) (opE mulP (vR 5) (vR 3))) nilA)) (vR 1))) (seqS (appS 4 (smE joinP (cE (.str "")) (vR 6))) (fun env st => .nx (killS [5, 6, 7] env) st)))))) (fun env st => (seqS (retS (vE 4)) nxS) (frzE 4 env) st)))))
def fi__law_ladder : FnI := mkFn [.mu, .val] false 9 g__law_ladder
-- _law_drawn_order
def g__law_drawn_order : SF := (seqS (setS 4 (lcE [8] (rngA (consA (vE 2) nilA)) (nameG 8) (cmpT (inP true) (vR 8) (vR 3)) (vE 8))) (seqS (setO 5 (lstE nilA)) (seqS (forS (rngA (consA (opE addP (vR 2) (cE (.int 1))) nilA)) (nameG 6) (seqS (setO 7 (lcE [9] (rngA (consA (biE lenP (consA (vR 1) nilA)) nilA)) (nameG 9) (cmpT isnP (callE fi__law_lone [] (consA (opE ixP (vR 1) (vR 9)) (consA (vE 4) nilA))) (cE .non)) (vE 9))) (seqS (ifS (cmpT gtP (biE lenP (consA (vR 7) nilA)) (cE (.int 0))) (seqS (setS 9 (opE ixP (vR 7) (callE fi__law_next [] (consA (mtA 0) (consA (biE minP (consA (cE (.int 30)) (consA (biE lenP (consA (vR 7) nilA)) nilA))) nilA))))) (seqS (setS 10 (callE fi__law_lone [] (consA (opE ixP (vR 1) (vR 9)) (consA (vE 4) nilA)))) (seqS (appS 5 (tupE (consA (vE 9) (consA (vE 10) nilA)))) (seqS (setS 4 (lcE [8] (seqA (vE 4)) (nameG 8) (cmpT neP (vR 8) (vR 10)) (vE 8))) nxS)))) nxS) (fun env st => .nx (killS [6, 7, 9, 10] env) st)))) (fun env st => (seqS (retS (vE 5)) nxS) (frzE 5 env) st))))
def fi__law_drawn_order : FnI := mkFn [.mu, .val, .val, .val] false 11 g__law_drawn_order
-- _law_is_pair
def g__law_is_pair : SF := (seqS (ifS (orT (notT (truT (isiE ["list", "tuple"] (vR 0)))) (cmpT neP (biE lenP (consA (vR 0) nilA)) (cE (.int 2)))) (seqS (retS (cE (.bl false))) nxS) nxS) (seqS (forS (seqA (vE 0)) (nameG 1) (seqS (ifS (orT (notT (truT (isiE ["int"] (vR 1)))) (truT (isiE ["bool"] (vR 1)))) (seqS (retS (cE (.bl false))) nxS) nxS) (fun env st => .nx (killS [1] env) st))) (seqS (retS (cE (.bl true))) nxS)))
def fi__law_is_pair : FnI := mkFn [.val] false 2 g__law_is_pair
-- _law_judged
def g__law_judged : SF := (seqS (ifS (notT (truT (isiE ["list", "tuple"] (vR 3)))) (seqS (retS (cE (.bl false))) nxS) nxS) (seqS (setO 5 (lcE [9] (rngA (consA (vE 1) nilA)) (nameG 9) (cmpT (inP true) (vR 9) (vR 4)) (vE 9))) (seqS (forS (seqA (vE 3)) (nameG 6) (seqS (ifS (notT (truT (callE fi__law_is_pair [] (consA (vE 6) nilA)))) (seqS (retS (cE (.bl false))) nxS) nxS) (seqS (setS 7 (opE ixP (vR 6) (cE (.int 0)))) (seqS (ifS (orT (cmpT ltP (vR 7) (cE (.int 0))) (cmpT geP (vR 7) (biE lenP (consA (vR 0) nilA)))) (seqS (retS (cE (.bl false))) nxS) nxS) (fun env st => (seqS (setS 8 (callE fi__law_lone [] (consA (opE ixP (vR 0) (vR 7)) (consA (vE 5) nilA)))) (seqS (ifS (orT (cmpT isP (vR 8) (cE .non)) (cmpT neP (vR 8) (opE ixP (vR 6) (cE (.int 1))))) (seqS (retS (cE (.bl false))) nxS) nxS) (seqS (setO 5 (lcE [9] (seqA (vE 5)) (nameG 9) (cmpT neP (vR 9) (vR 8)) (vE 9))) (fun env st => .nx (killS [6, 7, 8] env) st)))) (frzE 5 env) st))))) (seqS (retS (cmpE (inP true) (vR 2) (vR 5))) nxS))))
def fi__law_judged : FnI := mkFn [.val, .val, .val, .val, .val] false 10 g__law_judged
-- _law_spoilt
def g__law_spoilt : SF := (seqS (setO 5 (lcE [8] (seqA (vE 1)) (nameG 8) yesT (tupE (consA (opE ixP (vR 8) (cE (.int 0))) (consA (opE ixP (vR 8) (cE (.int 1))) nilA))))) (seqS (ifS (cmpT eqP (vR 0) (cE (.int 0))) (seqS (retS (cE .non)) nxS) nxS) (seqS (ifS (cmpT eqP (vR 0) (cE (.int 1))) (seqS (retS (cE (.str "01"))) nxS) nxS) (seqS (ifS (cmpT eqP (vR 0) (cE (.int 2))) (seqS (retS (opE addL (vR 5) (lstE (consA (tupE (consA (vE 3) (consA (cE (.int 0)) nilA))) nilA)))) nxS) nxS) (seqS (ifS (cmpT eqP (vR 0) (cE (.int 3))) (seqS (retS (opE addL (vR 5) (lstE (consA (tupE (consA (negE (cE (.int 1))) (consA (opE subP (vR 4) (cE (.int 1))) nilA))) nilA)))) nxS) nxS) (seqS (ifS (cmpT eqP (vR 0) (cE (.int 4))) (seqS (retS (opE addL (vR 5) (lstE (consA (cE (.int 7)) nilA)))) nxS) nxS) (seqS (ifS (cmpT eqP (biE lenP (consA (vR 5) nilA)) (cE (.int 0))) (seqS (retS (opE addL (vR 5) (lstE (consA (tupE (consA (cE (.int 0)) (consA (cE (.int 0)) nilA))) nilA)))) nxS) nxS) (seqS (setS 6 (opE ixP (opE ixP (vR 5) (vR 2)) (cE (.int 0)))) (seqS (setS 7 (opE ixP (opE ixP (vR 5) (vR 2)) (cE (.int 1)))) (seqS (ifS (cmpT eqP (vR 0) (cE (.int 5))) (seqS (retS (opE addL (slE slL (vR 5) noP (someP (vE 2))) (slE slL (vR 5) (someP (opE addP (vR 2) (cE (.int 1)))) noP))) nxS) nxS) (seqS (ifS (cmpT eqP (vR 0) (cE (.int 6))) (seqS (retS (opE addL (opE addL (slE slL (vR 5) noP (someP (vE 2))) (lstE (consA (tupE (consA (vE 6) (consA (opE modP (biE intTyP (consA (opE addP (vR 7) (cE (.int 1))) nilA)) (vR 4)) nilA))) nilA))) (slE slL (vR 5) (someP (opE addP (vR 2) (cE (.int 1)))) noP))) nxS) nxS) (seqS (ifS (cmpT eqP (vR 0) (cE (.int 7))) (seqS (retS (opE addL (opE addL (slE slL (vR 5) noP (someP (vE 2))) (lstE (consA (tupE (consA (opE modP (biE intTyP (consA (opE addP (vR 6) (cE (.int 1))) nilA)) (vR 3)) (consA (vE 7) nilA))) nilA))) (slE slL (vR 5) (someP (opE addP (vR 2) (cE (.int 1)))) noP))) nxS) nxS) (seqS (ifS (cmpT eqP (vR 0) (cE (.int 8))) (seqS (retS (opE addL (opE addL (slE slL (vR 5) noP (someP (vE 2))) (lstE (consA (tupE (consA (vE 6) (consA (vE 7) nilA))) (consA (tupE (consA (vE 6) (consA (vE 7) nilA))) nilA)))) (slE slL (vR 5) (someP (opE addP (vR 2) (cE (.int 1)))) noP))) nxS) nxS) (seqS (ifS (cmpT eqP (vR 0) (cE (.int 9))) (seqS (retS (opE addL (opE addL (slE slL (vR 5) noP (someP (vE 2))) (lstE (consA (tupE (consA (vE 6) (consA (vE 7) (consA (cE (.int 0)) nilA)))) nilA))) (slE slL (vR 5) (someP (opE addP (vR 2) (cE (.int 1)))) noP))) nxS) nxS) (seqS (ifS (cmpT eqP (vR 0) (cE (.int 10))) (seqS (retS (opE addL (opE addL (slE slL (vR 5) noP (someP (vE 2))) (lstE (consA (tupE (consA (opE subP (vR 6) (vR 3)) (consA (vE 7) nilA))) nilA))) (slE slL (vR 5) (someP (opE addP (vR 2) (cE (.int 1)))) noP))) nxS) nxS) (seqS (ifS (cmpT eqP (vR 0) (cE (.int 11))) (seqS (retS (opE addL (opE addL (slE slL (vR 5) noP (someP (vE 2))) (lstE (consA (tupE (consA (vE 6) (consA (opE subP (vR 7) (vR 4)) nilA))) nilA))) (slE slL (vR 5) (someP (opE addP (vR 2) (cE (.int 1)))) noP))) nxS) nxS) (seqS (ifS (cmpT eqP (vR 0) (cE (.int 12))) (seqS (retS (opE addL (opE addL (slE slL (vR 5) noP (someP (vE 2))) (lstE (consA (tupE (consA (cmpE eqP (vR 6) (cE (.int 1))) (consA (vE 7) nilA))) nilA))) (slE slL (vR 5) (someP (opE addP (vR 2) (cE (.int 1)))) noP))) nxS) nxS) (seqS (ifS (cmpT eqP (vR 0) (cE (.int 13))) (fun env st => (seqS (retS (biE tupleP (consA (lcE [8] (seqA (vE 5)) (nameG 8) yesT (lstE (consA (opE ixP (vR 8) (cE (.int 0))) (consA (opE ixP (vR 8) (cE (.int 1))) nilA)))) nilA))) nxS) (frzE 5 env) st) nxS) (seqS (ifS (cmpT ltP (opE addP (vR 2) (cE (.int 1))) (biE lenP (consA (vR 5) nilA))) (seqS (retS (opE addL (opE addL (slE slL (vR 5) noP (someP (vE 2))) (lstE (consA (opE ixP (vR 5) (opE addP (vR 2) (cE (.int 1)))) (consA (opE ixP (vR 5) (vR 2)) nilA)))) (slE slL (vR 5) (someP (opE addP (vR 2) (cE (.int 2)))) noP))) nxS) nxS) (fun env st => (seqS (retS (vE 5)) nxS) (frzE 5 env) st))))))))))))))))))))
def fi__law_spoilt : FnI := mkFn [.val, .val, .val, .val, .val] false 9 g__law_spoilt
-- _law_papers_kept
def g__law_papers_kept : SF := (seqS (setS 4 (makeE "Table" fi_Table_init [] (consA (vE 2) (consA (biE listP (consA (vR 1) nilA)) nilA)))) (seqS (setS 5 (biE lenP (consA (vR 1) nilA))) (seqS (setS 6 (callE fi__law_drawn_order [] (consA (mtA 0) (consA (vE 1) (consA (vE 2) (consA (vE 3) nilA)))))) (seqS (setS 7 (fldE ["Forcing"] "order" (makeKE "Forcing" fi_Forcing_init 1 (consA (vE 4) nilA) (consA (biE listP (consA (vR 3) nilA)) nilA)))) (seqS (forS (rngA (consA (vE 2) nilA)) (nameG 8) (seqS (setS 10 (callE fi__law_judged [] (consA (vE 1) (consA (vE 2) (consA (vE 8) (consA (vE 6) (consA (vE 3) nilA))))))) (seqS (forS (seqA (lstE (consA (biE listP (consA (vR 6) nilA)) (consA (biE tupleP (consA (vR 6) nilA)) (consA (vE 7) nilA))))) (nameG 11) (seqS (setS 14 (callE fi_shows_forced [] (consA (vE 4) (consA (vE 8) (consA (vE 11) (consA (biE listP (consA (vR 3) nilA)) nilA)))))) (seqS (ifS (orT (notT (truT (isiE ["bool"] (vR 14)))) (cmpT neP (vR 14) (vR 10))) (seqS (retS (cE (.bl false))) nxS) nxS) (fun env st => .nx (killS [11, 14] env) st)))) (fun env st => .nx (killS [8, 10, 11, 14] env) st)))) (seqS (ifS (cmpT eqP (vR 2) (cE (.int 0))) (seqS (retS (cE (.bl true))) nxS) nxS) (seqS (forS (rngA (consA (cE (.int 15)) nilA)) (nameG 9) (seqS (setS 12 (cE (.int 0))) (seqS (ifS (cmpT gtP (biE lenP (consA (vR 6) nilA)) (cE (.int 0))) (seqS (setS 12 (callE fi__law_next [] (consA (mtA 0) (consA (biE minP (consA (cE (.int 30)) (consA (biE lenP (consA (vR 6) nilA)) nilA))) nilA)))) nxS) nxS) (seqS (setS 8 (callE fi__law_next [] (consA (mtA 0) (consA (vE 2) nilA)))) (seqS (ifS (andT (cmpT gtP (biE lenP (consA (vR 6) nilA)) (cE (.int 0))) (cmpT gtP (callE fi__law_next [] (consA (mtA 0) (consA (cE (.int 3)) nilA))) (cE (.int 0)))) (seqS (setS 8 (opE ixP (opE ixP (vR 6) (callE fi__law_next [] (consA (mtA 0) (consA (biE minP (consA (cE (.int 30)) (consA (biE lenP (consA (vR 6) nilA)) nilA))) nilA)))) (cE (.int 1)))) nxS) nxS) (seqS (setS 13 (callE fi__law_spoilt [] (consA (vE 9) (consA (vE 6) (consA (vE 12) (consA (vE 5) (consA (vE 2) nilA))))))) (seqS (setS 14 (callE fi_shows_forced [] (consA (vE 4) (consA (vE 8) (consA (vE 13) (consA (biE tupleP (consA (vR 3) nilA)) nilA)))))) (seqS (ifS (notT (truT (isiE ["bool"] (vR 14)))) (seqS (retS (cE (.bl false))) nxS) nxS) (seqS (ifS (cmpT neP (vR 14) (callE fi__law_judged [] (consA (vE 1) (consA (vE 2) (consA (vE 8) (consA (vE 13) (consA (vE 3) nilA))))))) (seqS (retS (cE (.bl false))) nxS) nxS) (fun env st => .nx (killS [9, 12, 8, 13, 14] env) st)))))))))) (seqS (retS (cmpE eqP (biE listP (consA (fldE ["Table"] "lines" (vR 4)) nilA)) (vR 1))) nxS))))))))
def fi__law_papers_kept : FnI := mkFn [.mu, .val, .val, .val] false 15 g__law_papers_kept
-- _law_refusal
def g__law_refusal : SF := (seqS (setS 4 (tupE (consA (cE (.str "let")) (consA (cE (.int 0)) nilA)))) (seqS (tryS exmT (seqS (fun env st => liftS ((callE fi_shows_forced [] (consA (vE 0) (consA (vE 1) (consA (vE 2) (consA (vE 3) nilA))))) env st) env fun _ st2 => .nx env st2) nxS) [("BadLot", some 5, (seqS (setS 4 (tupE (consA (cE (.str "lot")) (consA (xfE 5 ["BadLot"] "place") nilA)))) nxS)), ("NoPlace", some 6, (seqS (setS 4 (tupE (consA (cE (.str "place")) (consA (xfE 6 ["NoPlace"] "place") nilA)))) nxS))]) (seqS (retS (vE 4)) nxS)))
def fi__law_refusal : FnI := mkFn [.val, .val, .val, .val] false 7 g__law_refusal
-- _law_refusals_kept
def g__law_refusals_kept : SF := (seqS (setS 3 (makeE "Table" fi_Table_init [] (consA (vE 1) (consA (biE listP (consA (vR 2) nilA)) nilA)))) (seqS (setS 4 (callE fi__law_next [] (consA (mtA 0) (consA (cE (.int 5)) nilA)))) (seqS (setS 5 (opE ixP (lstE (consA (vE 1) (consA (negE (cE (.int 1))) (consA (cE .non) (consA (cE (.bl false)) (consA (opE powP (cE (.int 10)) (cE (.int 25))) nilA)))))) (vR 4))) (seqS (setS 6 (opE ixP (lstE (consA (vE 1) (consA (negE (cE (.int 1))) (consA (cE (.int 0)) (consA (cE (.int 0)) (consA (opE powP (cE (.int 10)) (cE (.int 25))) nilA)))))) (vR 4))) (seqS (setS 7 (callE fi__law_next [] (consA (mtA 0) (consA (vE 1) nilA)))) (seqS (forS (seqA (lstE (consA (cE .non) (consA (lstE nilA) (consA (lstE (consA (tupE (consA (cE (.int 0)) (consA (cE (.int 0)) nilA))) nilA)) nilA))))) (nameG 8) (seqS (ifS (cmpT neP (callE fi__law_refusal [] (consA (vE 3) (consA (vE 5) (consA (vE 8) (consA (lstE (consA (vE 7) (consA (vE 7) nilA))) nilA))))) (tupE (consA (cE (.str "place")) (consA (vE 6) nilA)))) (seqS (retS (cE (.bl false))) nxS) nxS) (seqS (ifS (cmpT neP (callE fi__law_refusal [] (consA (vE 3) (consA (vE 7) (consA (vE 8) (consA (lstE (consA (vE 7) (consA (vE 7) nilA))) nilA))))) (tupE (consA (cE (.str "lot")) (consA (cE (.int 1)) nilA)))) (seqS (retS (cE (.bl false))) nxS) nxS) (seqS (ifS (cmpT neP (callE fi__law_refusal [] (consA (vE 3) (consA (vE 7) (consA (vE 8) (consA (lstE (consA (vE 1) nilA)) nilA))))) (tupE (consA (cE (.str "lot")) (consA (cE (.int 0)) nilA)))) (seqS (retS (cE (.bl false))) nxS) nxS) (seqS (ifS (cmpT neP (callE fi__law_refusal [] (consA (vE 3) (consA (vE 7) (consA (vE 8) (consA (cE .non) nilA))))) (tupE (consA (cE (.str "lot")) (consA (negE (cE (.int 1))) nilA)))) (seqS (retS (cE (.bl false))) nxS) nxS) (seqS (ifS (cmpT neP (callE fi__law_refusal [] (consA (vE 3) (consA (vE 7) (consA (vE 8) (consA (lstE (consA (vE 7) nilA)) nilA))))) (tupE (consA (cE (.str "let")) (consA (cE (.int 0)) nilA)))) (seqS (retS (cE (.bl false))) nxS) nxS) (fun env st => .nx (killS [8] env) st))))))) (seqS (retS (cE (.bl true))) nxS)))))))
def fi__law_refusals_kept : FnI := mkFn [.mu, .val, .val] false 9 g__law_refusals_kept
-- law
def g_law : SF := (seqS (setO 1 (callE fi__law_stream [] (consA (vE 0) nilA))) (mtS 1 (seqS (setS 2 (opE ixP (lstE (consA (cE (.int 3)) (consA (cE (.int 4)) (consA (cE (.int 2)) (consA (cE (.int 5)) (consA (cE (.int 6)) (consA (cE (.int 1)) (consA (cE (.int 4)) (consA (cE (.int 0)) (consA (cE (.int 5)) (consA (cE (.int 3)) nilA))))))))))) (callE fi__law_next [] (consA (mtA 1) (consA (cE (.int 10)) nilA))))) (seqS (setS 3 (opE ixP (lstE (consA (cE (.int 3)) (consA (cE (.int 2)) (consA (cE (.int 4)) (consA (cE (.int 3)) (consA (cE (.int 5)) (consA (cE (.int 1)) (consA (cE (.int 0)) (consA (cE (.int 6)) (consA (cE (.int 2)) (consA (cE (.int 4)) nilA))))))))))) (callE fi__law_next [] (consA (mtA 1) (consA (cE (.int 10)) nilA))))) (seqS (setS 4 (callE fi__law_marks [] (consA (mtA 1) (consA (vE 3) (consA (vE 2) nilA))))) (seqS (setS 5 (callE fi__law_lot [] (consA (mtA 1) (consA (vE 2) nilA)))) (seqS (ifS (notT (truT (callE fi__law_papers_kept [] (consA (mtA 1) (consA (vE 4) (consA (vE 2) (consA (vE 5) nilA))))))) (seqS (retS (cE (.bl false))) nxS) nxS) (seqS (setS 6 (opE addP (cE (.int 2)) (callE fi__law_next [] (consA (mtA 1) (consA (cE (.int 11)) nilA))))) (seqS (setS 7 (callE fi__law_ladder [] (consA (mtA 1) (consA (vE 6) nilA)))) (seqS (ifS (notT (truT (callE fi__law_papers_kept [] (consA (mtA 1) (consA (vE 7) (consA (vE 6) (consA (lstE nilA) nilA))))))) (seqS (retS (cE (.bl false))) nxS) nxS) (seqS (setS 8 (makeE "Table" fi_Table_init [] (consA (vE 6) (consA (biE listP (consA (vR 7) nilA)) nilA)))) (seqS (setS 9 (callE fi__law_drawn_order [] (consA (mtA 1) (consA (vE 7) (consA (vE 6) (consA (lstE nilA) nilA)))))) (seqS (ifS (cmpT neP (biE lenP (consA (vR 9) nilA)) (vR 6)) (seqS (retS (cE (.bl false))) nxS) nxS) (seqS (forS (rngA (consA (vE 6) nilA)) (nameG 10) (seqS (ifS (cmpT isnP (callE fi_shows_forced [.tup []] (consA (vE 8) (consA (vE 10) (consA (biE listP (consA (vR 9) nilA)) nilA)))) (cE (.bl true))) (seqS (retS (cE (.bl false))) nxS) nxS) (seqS (ifS (cmpT isnP (callE fi_shows_forced [.tup []] (consA (vE 8) (consA (vE 10) (consA (biE listP (consA (slE slL (vR 9) noP (someP (cE (.int 0)))) nilA)) nilA)))) (cE (.bl false))) (seqS (retS (cE (.bl false))) nxS) nxS) (fun env st => .nx (killS [10] env) st)))) (seqS (ifS (cmpT isnP (callE fi_shows_forced [.tup []] (consA (vE 8) (consA (opE ixP (opE ixP (vR 9) (opE subP (vR 6) (cE (.int 1)))) (cE (.int 1))) (consA (slE slL (vR 9) noP (someP (opE subP (vR 6) (cE (.int 1))))) nilA)))) (cE (.bl false))) (seqS (retS (cE (.bl false))) nxS) nxS) (seqS (retS (callE fi__law_refusals_kept [] (consA (mtA 1) (consA (vE 6) (consA (vE 7) nilA))))) nxS))))))))))))))))
def fi_law : FnI := mkFn [.val] false 11 g_law
section
variable {w : World} {K : Frag} {mg : Str → Option Value} {base : Heap}
theorem w_is_whole {f : Addr} {fd : FuncData} {dvs : List V} {kws : List (Str × V)} (T : Tops K mg w base)  (F : FunD K "is_whole" "is_whole" (defArgs (top 9)) (defBody (top 9)) (defScope (top 9)) dvs kws f fd) : FnOk PW w K mg base (L2.CX PW w) 3 f fd ["value"] (spOf K fi_is_whole) := by
  have S : FnScope ["value"] ["value"] (defScope (top 9)) := ⟨rfl, rfl, rfl, by decide +kernel, rfl, by decide +kernel, by decide +kernel⟩
  refine fn_rule (P := PW) (w := w) (K := K) (mg := mg) (base := base) (N := ["value"]) (ps := ["value"]) (k := 2) (ms := [.val]) (own := false) (g := g_is_whole) F S rfl (by decide) fun cdv A outer s H E B hB hr => ?_
  have hN := S.nd
  have tk := takes_cx (P := PW) (w := w) (K := K) (mg := mg) (base := base) (N := ["value"]) (qual := "is_whole") (scope := defScope (top 9)) (f := f) (cdv := cdv) (A := A) (outer := outer) (s := s) (H := H) (E := E)
  have hp := owns_cx (P := PW) (w := w) (K := K) (mg := mg) (base := base) (N := ["value"]) (qual := "is_whole") (scope := defScope (top 9)) (f := f) (cdv := cdv) (A := A) (outer := outer) (s := s) (H := H) (E := E)
  exact (qss_cons (qs_ret (qe_and (qe_isi (qr_v 0) T.n_isinstance T.n_int) (qe_one (qe_not (QE.rd (qe_isi (qr_v 0) T.n_isinstance T.n_bool)))))) qss_nil)
theorem w_place_of {f : Addr} {fd : FuncData} {dvs : List V} {kws : List (Str × V)} (T : Tops K mg w base) (f_is_whole : FnB PW w K mg base "is_whole" fi_is_whole [] 3) (F : FunD K "place_of" "place_of" (defArgs (top 11)) (defBody (top 11)) (defScope (top 11)) dvs kws f fd) : FnOk PW w K mg base (L2.CX PW w) 4 f fd ["place", "size"] (spOf K fi_place_of) := by
  have S : FnScope ["place", "size"] ["place", "size"] (defScope (top 11)) := ⟨rfl, rfl, rfl, by decide +kernel, rfl, by decide +kernel, by decide +kernel⟩
  refine fn_rule (P := PW) (w := w) (K := K) (mg := mg) (base := base) (N := ["place", "size"]) (ps := ["place", "size"]) (k := 3) (ms := [.val, .val]) (own := false) (g := g_place_of) F S rfl (by decide) fun cdv A outer s H E B hB hr => ?_
  have hN := S.nd
  have tk := takes_cx (P := PW) (w := w) (K := K) (mg := mg) (base := base) (N := ["place", "size"]) (qual := "place_of") (scope := defScope (top 11)) (f := f) (cdv := cdv) (A := A) (outer := outer) (s := s) (H := H) (E := E)
  have hp := owns_cx (P := PW) (w := w) (K := K) (mg := mg) (base := base) (N := ["place", "size"]) (qual := "place_of") (scope := defScope (top 11)) (f := f) (cdv := cdv) (A := A) (outer := outer) (s := s) (H := H) (E := E)
  exact (qss_cons (qs_if (qt_not (qt_tru (QE.rd (qe_call f_is_whole (hr.mono (by decide)) tk (qa_val (qe_v 0) qa_nil))))) (qss_cons (qs_raise T.x_NoPlace rfl tk (hr.mono (by decide)) (qa_val qe_int qa_nil)) qss_nil) qss_nil) (qss_cons (qs_if (QW.qt (qw_or (qt_cmp or_lt (qr_v 0) (QE.rd qe_int)) (qw_or1 (qt_cmp or_ge (qr_v 0) (qr_v 1))))) (qss_cons (qs_raise T.x_NoPlace rfl tk (hr.mono (by decide)) (qa_val (qe_v 0) qa_nil)) qss_nil) qss_nil) (qss_cons (qs_ret (qe_v 0)) qss_nil)))
theorem w_size_of {f : Addr} {fd : FuncData} {dvs : List V} {kws : List (Str × V)} (T : Tops K mg w base) (f_is_whole : FnB PW w K mg base "is_whole" fi_is_whole [] 3) (F : FunD K "size_of" "size_of" (defArgs (top 10)) (defBody (top 10)) (defScope (top 10)) dvs kws f fd) : FnOk PW w K mg base (L2.CX PW w) 4 f fd ["size"] (spOf K fi_size_of) := by
  have S : FnScope ["size"] ["size"] (defScope (top 10)) := ⟨rfl, rfl, rfl, by decide +kernel, rfl, by decide +kernel, by decide +kernel⟩
  refine fn_rule (P := PW) (w := w) (K := K) (mg := mg) (base := base) (N := ["size"]) (ps := ["size"]) (k := 3) (ms := [.val]) (own := false) (g := g_size_of) F S rfl (by decide) fun cdv A outer s H E B hB hr => ?_
  have hN := S.nd
  have tk := takes_cx (P := PW) (w := w) (K := K) (mg := mg) (base := base) (N := ["size"]) (qual := "size_of") (scope := defScope (top 10)) (f := f) (cdv := cdv) (A := A) (outer := outer) (s := s) (H := H) (E := E)
  have hp := owns_cx (P := PW) (w := w) (K := K) (mg := mg) (base := base) (N := ["size"]) (qual := "size_of") (scope := defScope (top 10)) (f := f) (cdv := cdv) (A := A) (outer := outer) (s := s) (H := H) (E := E)
  exact (qss_cons (qs_if (qt_not (qt_tru (QE.rd (qe_call f_is_whole (hr.mono (by decide)) tk (qa_val (qe_v 0) qa_nil))))) (qss_cons (qs_raise T.x_NoPlace rfl tk (hr.mono (by decide)) (qa_val qe_int qa_nil)) qss_nil) qss_nil) (qss_cons (qs_if (qt_cmp or_lt (qr_v 0) (QE.rd qe_int)) (qss_cons (qs_raise T.x_NoPlace rfl tk (hr.mono (by decide)) (qa_val (qe_v 0) qa_nil)) qss_nil) qss_nil) (qss_cons (qs_ret (qe_v 0)) qss_nil)))
theorem w_lot_of {f : Addr} {fd : FuncData} {dvs : List V} {kws : List (Str × V)} (T : Tops K mg w base) (f_is_whole : FnB PW w K mg base "is_whole" fi_is_whole [] 3) (F : FunD K "lot_of" "lot_of" (defArgs (top 12)) (defBody (top 12)) (defScope (top 12)) dvs kws f fd) : FnOk PW w K mg base (L2.CX PW w) 4 f fd ["lot", "size"] (spOf K fi_lot_of) := by
  have S : FnScope ["lot", "size", "found", "at", "entry"] ["lot", "size"] (defScope (top 12)) := ⟨rfl, rfl, rfl, by decide +kernel, rfl, by decide +kernel, by decide +kernel⟩
  refine fn_rule (P := PW) (w := w) (K := K) (mg := mg) (base := base) (N := ["lot", "size", "found", "at", "entry"]) (ps := ["lot", "size"]) (k := 3) (ms := [.val, .val]) (own := false) (g := g_lot_of) F S rfl (by decide) fun cdv A outer s H E B hB hr => ?_
  have hN := S.nd
  have tk := takes_cx (P := PW) (w := w) (K := K) (mg := mg) (base := base) (N := ["lot", "size", "found", "at", "entry"]) (qual := "lot_of") (scope := defScope (top 12)) (f := f) (cdv := cdv) (A := A) (outer := outer) (s := s) (H := H) (E := E)
  have hp := owns_cx (P := PW) (w := w) (K := K) (mg := mg) (base := base) (N := ["lot", "size", "found", "at", "entry"]) (qual := "lot_of") (scope := defScope (top 12)) (f := f) (cdv := cdv) (A := A) (outer := outer) (s := s) (H := H) (E := E)
  exact (qss_cons (qs_if (qt_not (qt_tru (QE.rd (qe_isiT (qr_v 0) (pty_cons (pty_cons pty_nil T.n_tuple) T.n_list) T.n_isinstance)))) (qss_cons (qs_raise T.x_BadLot rfl tk (hr.mono (by decide)) (qa_val (qe_neg qe_int) qa_nil)) qss_nil) qss_nil) (qss_cons (qs_setO 2 hN qo_dct) (qss_cons (qs_for hp rfl (qi_enum (qe_v 0) T.n_enumerate) (qg_pair 3 4 rfl hN) (qss_cons (qs_if (QW.qt (qw_or (qt_not (qt_tru (QE.rd (qe_call f_is_whole (hr.mono (by decide)) tk (qa_val (qe_v 4) qa_nil))))) (qw_or (qt_cmp or_lt (qr_v 4) (QE.rd qe_int)) (qw_or (qt_cmp or_ge (qr_v 4) (qr_v 1)) (qw_or1 (qt_cmp (or_in hr) (qr_v 4) (qr_v 2))))))) (qss_cons (qs_raise T.x_BadLot rfl tk (hr.mono (by decide)) (qa_val (qe_v 3) qa_nil)) qss_nil) qss_nil) (qss_cons (qs_setDct 2 hr qe_bl (qe_v 4)) (qss_end [3, 4])))) (qss_cons (qs_ret (qe_ty cr_tuple (qa_bor (QE.rd (QO.fz (qo_bi cr_sortI (qa_bor (QE.rd (QO.fz (qo_ty (cr_list rfl) (qa_bor (qr_v 2) qa_nil) T.n_list))) qa_nil) T.n_sorted))) qa_nil) T.n_tuple)) qss_nil))))
theorem w_is_hard {f : Addr} {fd : FuncData} {dvs : List V} {kws : List (Str × V)} (T : Tops K mg w base)  (F : FunD K "is_hard" "is_hard" (defArgs (top 18)) (defBody (top 18)) (defScope (top 18)) dvs kws f fd) : FnOk PW w K mg base (L2.CX PW w) 3 f fd ["mark"] (spOf K fi_is_hard) := by
  have S : FnScope ["mark"] ["mark"] (defScope (top 18)) := ⟨rfl, rfl, rfl, by decide +kernel, rfl, by decide +kernel, by decide +kernel⟩
  refine fn_rule (P := PW) (w := w) (K := K) (mg := mg) (base := base) (N := ["mark"]) (ps := ["mark"]) (k := 2) (ms := [.val]) (own := false) (g := g_is_hard) F S rfl (by decide) fun cdv A outer s H E B hB hr => ?_
  have hN := S.nd
  have tk := takes_cx (P := PW) (w := w) (K := K) (mg := mg) (base := base) (N := ["mark"]) (qual := "is_hard") (scope := defScope (top 18)) (f := f) (cdv := cdv) (A := A) (outer := outer) (s := s) (H := H) (E := E)
  have hp := owns_cx (P := PW) (w := w) (K := K) (mg := mg) (base := base) (N := ["mark"]) (qual := "is_hard") (scope := defScope (top 18)) (f := f) (cdv := cdv) (A := A) (outer := outer) (s := s) (H := H) (E := E)
  exact (qss_cons (qs_ret (qe_cmp (or_in hr) (qr_v 0) (QE.rd (qe_tup (qa_val (qe_gstr T.c_FIRM) (qa_val (qe_gstr T.c_TOLD) qa_nil)))))) qss_nil)
theorem w_is_touched {f : Addr} {fd : FuncData} {dvs : List V} {kws : List (Str × V)} (T : Tops K mg w base)  (F : FunD K "is_touched" "is_touched" (defArgs (top 19)) (defBody (top 19)) (defScope (top 19)) dvs kws f fd) : FnOk PW w K mg base (L2.CX PW w) 3 f fd ["mark"] (spOf K fi_is_touched) := by
  have S : FnScope ["mark"] ["mark"] (defScope (top 19)) := ⟨rfl, rfl, rfl, by decide +kernel, rfl, by decide +kernel, by decide +kernel⟩
  refine fn_rule (P := PW) (w := w) (K := K) (mg := mg) (base := base) (N := ["mark"]) (ps := ["mark"]) (k := 2) (ms := [.val]) (own := false) (g := g_is_touched) F S rfl (by decide) fun cdv A outer s H E B hB hr => ?_
  have hN := S.nd
  have tk := takes_cx (P := PW) (w := w) (K := K) (mg := mg) (base := base) (N := ["mark"]) (qual := "is_touched") (scope := defScope (top 19)) (f := f) (cdv := cdv) (A := A) (outer := outer) (s := s) (H := H) (E := E)
  have hp := owns_cx (P := PW) (w := w) (K := K) (mg := mg) (base := base) (N := ["mark"]) (qual := "is_touched") (scope := defScope (top 19)) (f := f) (cdv := cdv) (A := A) (outer := outer) (s := s) (H := H) (E := E)
  exact (qss_cons (qs_ret (qe_cmp (or_in hr) (qr_v 0) (QE.rd (qe_tup (qa_val (qe_gstr T.c_FIRM) (qa_val (qe_gstr T.c_LOOSE) (qa_val (qe_gstr T.c_TOLD) qa_nil))))))) qss_nil)
theorem w_check_line {f : Addr} {fd : FuncData} {dvs : List V} {kws : List (Str × V)} (T : Tops K mg w base) (f_is_touched : FnB PW w K mg base "is_touched" fi_is_touched [] 3) (F : FunD K "check_line" "check_line" (defArgs (top 20)) (defBody (top 20)) (defScope (top 20)) dvs kws f fd) : FnOk PW w K mg base (L2.CX PW w) 4 f fd ["line", "size", "row"] (spOf K fi_check_line) := by
  have S : FnScope ["line", "size", "row", "column", "mark"] ["line", "size", "row"] (defScope (top 20)) := ⟨rfl, rfl, rfl, by decide +kernel, rfl, by decide +kernel, by decide +kernel⟩
  refine fn_rule (P := PW) (w := w) (K := K) (mg := mg) (base := base) (N := ["line", "size", "row", "column", "mark"]) (ps := ["line", "size", "row"]) (k := 3) (ms := [.val, .val, .val]) (own := false) (g := g_check_line) F S rfl (by decide) fun cdv A outer s H E B hB hr => ?_
  have hN := S.nd
  have tk := takes_cx (P := PW) (w := w) (K := K) (mg := mg) (base := base) (N := ["line", "size", "row", "column", "mark"]) (qual := "check_line") (scope := defScope (top 20)) (f := f) (cdv := cdv) (A := A) (outer := outer) (s := s) (H := H) (E := E)
  have hp := owns_cx (P := PW) (w := w) (K := K) (mg := mg) (base := base) (N := ["line", "size", "row", "column", "mark"]) (qual := "check_line") (scope := defScope (top 20)) (f := f) (cdv := cdv) (A := A) (outer := outer) (s := s) (H := H) (E := E)
  exact (qss_cons (qs_if (QW.qt (qw_or (qt_not (qt_tru (QE.rd (qe_isi (qr_v 0) T.n_isinstance T.n_str)))) (qw_or1 (qt_cmp (or_ne hr) (QE.rd (qe_bi cr_len (qa_bor (qr_v 0) qa_nil) T.n_len)) (qr_v 1))))) (qss_cons (qs_raise T.x_BadMark rfl tk (hr.mono (by decide)) (qa_val (qe_v 2) (qa_val (qe_neg qe_int) qa_nil))) qss_nil) qss_nil) (qss_cons (qs_for hp rfl (qi_enum (qe_v 0) T.n_enumerate) (qg_pair 3 4 rfl hN) (qss_cons (qs_if (QW.qt (qw_and (qt_cmp (or_ne hr) (qr_v 4) (QE.rd (qe_gstr T.c_NONE))) (qw_and1 (qt_not (qt_tru (QE.rd (qe_call f_is_touched (hr.mono (by decide)) tk (qa_val (qe_v 4) qa_nil)))))))) (qss_cons (qs_raise T.x_BadMark rfl tk (hr.mono (by decide)) (qa_val (qe_v 2) (qa_val (qe_v 3) qa_nil))) qss_nil) qss_nil) (qss_end [3, 4]))) (qss_cons (qs_if (qt_cmp or_gt (QE.rd (qe_m1 PySem.F.slot_str_count PySem.F.type_str_count mr_count (qr_v 0) (QE.rd (qe_gstr T.c_TOLD)))) (QE.rd qe_int)) (qss_cons (qs_raise T.x_TwoTold rfl tk (hr.mono (by decide)) (qa_val (qe_v 2) qa_nil)) qss_nil) qss_nil) (qss_cons (qs_ret (qe_v 0)) qss_nil))))
theorem w_flags_of {f : Addr} {fd : FuncData} {dvs : List V} {kws : List (Str × V)} (T : Tops K mg w base)  (F : FunD K "flags_of" "flags_of" (defArgs (top 22)) (defBody (top 22)) (defScope (top 22)) dvs kws f fd) : FnOk PW w K mg base (L2.CX PW w) 3 f fd ["lot", "size"] (spOf K fi_flags_of) := by
  have S : FnScope ["lot", "size", "flags", "place"] ["lot", "size"] (defScope (top 22)) := ⟨rfl, rfl, rfl, by decide +kernel, rfl, by decide +kernel, by decide +kernel⟩
  refine fn_rule (P := PW) (w := w) (K := K) (mg := mg) (base := base) (N := ["lot", "size", "flags", "place"]) (ps := ["lot", "size"]) (k := 2) (ms := [.val, .val]) (own := false) (g := g_flags_of) F S rfl (by decide) fun cdv A outer s H E B hB hr => ?_
  have hN := S.nd
  have tk := takes_cx (P := PW) (w := w) (K := K) (mg := mg) (base := base) (N := ["lot", "size", "flags", "place"]) (qual := "flags_of") (scope := defScope (top 22)) (f := f) (cdv := cdv) (A := A) (outer := outer) (s := s) (H := H) (E := E)
  have hp := owns_cx (P := PW) (w := w) (K := K) (mg := mg) (base := base) (N := ["lot", "size", "flags", "place"]) (qual := "flags_of") (scope := defScope (top 22)) (f := f) (cdv := cdv) (A := A) (outer := outer) (s := s) (H := H) (E := E)
  exact (qss_cons (qs_setO 2 hN (qo_op oro_mul (QE.rd (QO.fz (qo_lst (qa_val qe_bl qa_nil)))) (qr_v 1))) (qss_cons (qs_for hp rfl (qi_seq (qe_v 0)) (qg_name 3 hN) (qss_cons (qs_setIx 2 qe_bl (qe_v 3)) (qss_end [3]))) (qss_frz 2 (qss_cons (qs_ret (qe_v 2)) qss_nil))))
theorem w_places_of {f : Addr} {fd : FuncData} {dvs : List V} {kws : List (Str × V)} (T : Tops K mg w base)  (F : FunD K "places_of" "places_of" (defArgs (top 23)) (defBody (top 23)) (defScope (top 23)) dvs kws f fd) : FnOk PW w K mg base (L2.CX PW w) 3 f fd ["flags"] (spOf K fi_places_of) := by
  have S : FnScope ["flags", "place"] ["flags"] (defScope (top 23)) := ⟨rfl, rfl, rfl, by decide +kernel, rfl, by decide +kernel, by decide +kernel⟩
  refine fn_rule (P := PW) (w := w) (K := K) (mg := mg) (base := base) (N := ["flags", "place"]) (ps := ["flags"]) (k := 2) (ms := [.bor]) (own := false) (g := g_places_of) F S rfl (by decide) fun cdv A outer s H E B hB hr => ?_
  have hN := S.nd
  have tk := takes_cx (P := PW) (w := w) (K := K) (mg := mg) (base := base) (N := ["flags", "place"]) (qual := "places_of") (scope := defScope (top 23)) (f := f) (cdv := cdv) (A := A) (outer := outer) (s := s) (H := H) (E := E)
  have hp := owns_cx (P := PW) (w := w) (K := K) (mg := mg) (base := base) (N := ["flags", "place"]) (qual := "places_of") (scope := defScope (top 23)) (f := f) (cdv := cdv) (A := A) (outer := outer) (s := s) (H := H) (E := E)
  exact (qss_cons (qs_ret (qe_ty cr_tuple (qa_bor (QE.rd (QO.fz (qo_lc (own := [("place", 1)]) rfl hN (qi_range1 (qa_val (qe_bi cr_len (qa_bor (qr_v 0) qa_nil) T.n_len) qa_nil) T.n_range) (show BlkOk ["flags", "place"] (defScope (top 23)) _ _ from ⟨rfl, by decide +kernel, by decide +kernel, by decide +kernel, by decide +kernel⟩) (fun _ _ _ _ _ => (qgv_name 1 hN)) (fun _ _ _ _ _ => (qts_one (qt_tru (QE.rd (qe_ix ix_p (qr_v 0) (qr_v 1)))))) (fun _ _ _ _ _ => (qe_v 1))))) qa_nil) T.n_tuple)) qss_nil)
theorem w_forced_now {f : Addr} {fd : FuncData} {dvs : List V} {kws : List (Str × V)} (T : Tops K mg w base) (f_is_hard : FnB PW w K mg base "is_hard" fi_is_hard [] 3) (F : FunD K "forced_now" "forced_now" (defArgs (top 24)) (defBody (top 24)) (defScope (top 24)) dvs kws f fd) : FnOk PW w K mg base (L2.CX PW w) 4 f fd ["line", "touched", "white"] (spOf K fi_forced_now) := by
  have S : FnScope ["line", "touched", "white", "seen", "column"] ["line", "touched", "white"] (defScope (top 24)) := ⟨rfl, rfl, rfl, by decide +kernel, rfl, by decide +kernel, by decide +kernel⟩
  refine fn_rule (P := PW) (w := w) (K := K) (mg := mg) (base := base) (N := ["line", "touched", "white", "seen", "column"]) (ps := ["line", "touched", "white"]) (k := 3) (ms := [.val, .val, .bor]) (own := false) (g := g_forced_now) F S rfl (by decide) fun cdv A outer s H E B hB hr => ?_
  have hN := S.nd
  have tk := takes_cx (P := PW) (w := w) (K := K) (mg := mg) (base := base) (N := ["line", "touched", "white", "seen", "column"]) (qual := "forced_now") (scope := defScope (top 24)) (f := f) (cdv := cdv) (A := A) (outer := outer) (s := s) (H := H) (E := E)
  have hp := owns_cx (P := PW) (w := w) (K := K) (mg := mg) (base := base) (N := ["line", "touched", "white", "seen", "column"]) (qual := "forced_now") (scope := defScope (top 24)) (f := f) (cdv := cdv) (A := A) (outer := outer) (s := s) (H := H) (E := E)
  exact (qss_cons (qs_setLc 3 (own := [("column", 4)]) rfl hN (qi_seq (qe_v 1)) (show BlkOk ["line", "touched", "white", "seen", "column"] (defScope (top 24)) _ _ from ⟨rfl, by decide +kernel, by decide +kernel, by decide +kernel, by decide +kernel⟩) (fun _ _ _ _ _ => (qgv_name 4 hN)) (fun _ _ _ _ _ => (qts_one (qt_tru (QE.rd (qe_ix ix_p (qr_v 2) (qr_v 4)))))) (fun _ _ _ _ _ => (qe_v 4))) (qss_cons (qs_if (QW.qt (qw_or (qt_cmp (or_ne hr) (QE.rd (qe_bi cr_len (qa_bor (qr_v 3) qa_nil) T.n_len)) (QE.rd qe_int)) (qw_or1 (qt_not (qt_tru (QE.rd (qe_call f_is_hard (hr.mono (by decide)) tk (qa_val (qe_ix ix_p (qr_v 0) (QE.rd (qe_ix ix_p (qr_v 3) (QE.rd qe_int)))) qa_nil)))))))) (qss_cons (qs_ret qe_non) qss_nil) qss_nil) (qss_cons (qs_ret (qe_ix ix_p (qr_v 3) (QE.rd qe_int))) qss_nil)))
theorem w_count_of_columns {f : Addr} {fd : FuncData} {dvs : List V} {kws : List (Str × V)} (T : Tops K mg w base) (f_size_of : FnB PW w K mg base "size_of" fi_size_of [] 4) (F : FunD K "count_of_columns" "count_of_columns" (defArgs (top 31)) (defBody (top 31)) (defScope (top 31)) dvs kws f fd) : FnOk PW w K mg base (L2.CX PW w) 5 f fd ["columns"] (spOf K fi_count_of_columns) := by
  have S : FnScope ["columns"] ["columns"] (defScope (top 31)) := ⟨rfl, rfl, rfl, by decide +kernel, rfl, by decide +kernel, by decide +kernel⟩
  refine fn_rule (P := PW) (w := w) (K := K) (mg := mg) (base := base) (N := ["columns"]) (ps := ["columns"]) (k := 4) (ms := [.val]) (own := false) (g := g_count_of_columns) F S rfl (by decide) fun cdv A outer s H E B hB hr => ?_
  have hN := S.nd
  have tk := takes_cx (P := PW) (w := w) (K := K) (mg := mg) (base := base) (N := ["columns"]) (qual := "count_of_columns") (scope := defScope (top 31)) (f := f) (cdv := cdv) (A := A) (outer := outer) (s := s) (H := H) (E := E)
  have hp := owns_cx (P := PW) (w := w) (K := K) (mg := mg) (base := base) (N := ["columns"]) (qual := "count_of_columns") (scope := defScope (top 31)) (f := f) (cdv := cdv) (A := A) (outer := outer) (s := s) (H := H) (E := E)
  exact (qss_cons (qs_expr (qe_call f_size_of (hr.mono (by decide)) tk (qa_val (qe_v 0) qa_nil))) (qss_cons (qs_if (qt_cmp or_gt (qr_v 0) (QE.rd (qe_gint T.c_MOST_COLUMNS))) (qss_cons (qs_raise T.x_TooMany rfl tk (hr.mono (by decide)) (qa_val (qe_gint T.c_MOST_COLUMNS) qa_nil)) qss_nil) qss_nil) (qss_cons (qs_ret (qe_v 0)) qss_nil)))
theorem w_Table_init {f : Addr} {fd : FuncData} {dvs : List V} {kws : List (Str × V)} (T : Tops K mg w base) (f_check_line : FnB PW w K mg base "check_line" fi_check_line [] 4) (f_count_of_columns : FnB PW w K mg base "count_of_columns" fi_count_of_columns [] 5) (F : FunD K "__init__" "Table.__init__" (defArgs (meth 32 0)) (defBody (meth 32 0)) (defScope (meth 32 0)) dvs kws f fd) : FnOk PW w K mg base (L2.CX PW w) 6 f fd ["self", "columns", "lines"] (spOf K fi_Table_init) := by
  have S : FnScope ["self", "columns", "lines", "row", "line"] ["self", "columns", "lines"] (defScope (meth 32 0)) := ⟨rfl, rfl, rfl, by decide +kernel, rfl, by decide +kernel, by decide +kernel⟩
  refine fn_rule (P := PW) (w := w) (K := K) (mg := mg) (base := base) (N := ["self", "columns", "lines", "row", "line"]) (ps := ["self", "columns", "lines"]) (k := 5) (ms := [.mu, .val, .val]) (own := false) (g := g_Table_init) F S rfl (by decide) fun cdv A outer s H E B hB hr => ?_
  have hN := S.nd
  have tk := takes_cx (P := PW) (w := w) (K := K) (mg := mg) (base := base) (N := ["self", "columns", "lines", "row", "line"]) (qual := "Table.__init__") (scope := defScope (meth 32 0)) (f := f) (cdv := cdv) (A := A) (outer := outer) (s := s) (H := H) (E := E)
  have hp := owns_cx (P := PW) (w := w) (K := K) (mg := mg) (base := base) (N := ["self", "columns", "lines", "row", "line"]) (qual := "Table.__init__") (scope := defScope (meth 32 0)) (f := f) (cdv := cdv) (A := A) (outer := outer) (s := s) (H := H) (E := E)
  exact (qss_cons (qs_expr (qe_call f_count_of_columns (hr.mono (by decide)) tk (qa_val (qe_v 1) qa_nil))) (qss_cons (qs_if (qt_not (qt_tru (QE.rd (qe_isiT (qr_v 2) (pty_cons (pty_cons pty_nil T.n_tuple) T.n_list) T.n_isinstance)))) (qss_cons (qs_raise T.x_BadMark rfl tk (hr.mono (by decide)) (qa_val (qe_neg qe_int) (qa_val (qe_neg qe_int) qa_nil))) qss_nil) qss_nil) (qss_cons (qs_if (qt_cmp or_gt (QE.rd (qe_bi cr_len (qa_bor (qr_v 2) qa_nil) T.n_len)) (QE.rd (qe_gint T.c_MOST_LINES))) (qss_cons (qs_raise T.x_TooMany rfl tk (hr.mono (by decide)) (qa_val (qe_gint T.c_MOST_LINES) qa_nil)) qss_nil) qss_nil) (qss_cons (qs_fldM 0 T.fo_Table_columns (qe_v 1)) (qss_cons (qs_fldM 0 T.fo_Table_lines (qe_ty cr_tuple (qa_bor (QE.rd (QO.fz (qo_lc (own := [("row", 3), ("line", 4)]) rfl hN (qi_enum (qe_v 2) T.n_enumerate) (show BlkOk ["self", "columns", "lines", "row", "line"] (defScope (meth 32 0)) _ _ from ⟨rfl, by decide +kernel, by decide +kernel, by decide +kernel, by decide +kernel⟩) (fun _ _ _ _ _ => (qgv_pair 3 4 rfl hN)) (fun _ _ _ _ _ => qts_nil) (fun _ _ _ _ _ => (qe_call f_check_line (hr.mono (by decide)) takesW0 (qa_val (qe_v 4) (qa_val (qe_v 1) (qa_val (qe_v 3) qa_nil)))))))) qa_nil) T.n_tuple)) qss_nil)))))
theorem w_Table_len {f : Addr} {fd : FuncData} {dvs : List V} {kws : List (Str × V)} (T : Tops K mg w base)  (F : FunD K "__len__" "Table.__len__" (defArgs (meth 32 1)) (defBody (meth 32 1)) (defScope (meth 32 1)) dvs kws f fd) : FnOk PW w K mg base (L2.CX PW w) 3 f fd ["self"] (spOf K fi_Table_len) := by
  have S : FnScope ["self"] ["self"] (defScope (meth 32 1)) := ⟨rfl, rfl, rfl, by decide +kernel, rfl, by decide +kernel, by decide +kernel⟩
  refine fn_rule (P := PW) (w := w) (K := K) (mg := mg) (base := base) (N := ["self"]) (ps := ["self"]) (k := 2) (ms := [.bor]) (own := false) (g := g_Table_len) F S rfl (by decide) fun cdv A outer s H E B hB hr => ?_
  have hN := S.nd
  have tk := takes_cx (P := PW) (w := w) (K := K) (mg := mg) (base := base) (N := ["self"]) (qual := "Table.__len__") (scope := defScope (meth 32 1)) (f := f) (cdv := cdv) (A := A) (outer := outer) (s := s) (H := H) (E := E)
  have hp := owns_cx (P := PW) (w := w) (K := K) (mg := mg) (base := base) (N := ["self"]) (qual := "Table.__len__") (scope := defScope (meth 32 1)) (f := f) (cdv := cdv) (A := A) (outer := outer) (s := s) (H := H) (E := E)
  exact (qss_cons (qs_ret (qe_bi cr_len (qa_bor (QE.rd (qe_fld T.fo_Table_lines (qr_v 0))) qa_nil) T.n_len)) qss_nil)
theorem w_Table_touches {f : Addr} {fd : FuncData} {dvs : List V} {kws : List (Str × V)} (T : Tops K mg w base) (f_is_touched : FnB PW w K mg base "is_touched" fi_is_touched [] 3) (f_place_of : FnB PW w K mg base "place_of" fi_place_of [] 4) (F : FunD K "touches" "Table.touches" (defArgs (meth 32 6)) (defBody (meth 32 6)) (defScope (meth 32 6)) dvs kws f fd) : FnOk PW w K mg base (L2.CX PW w) 5 f fd ["self", "row"] (spOf K fi_Table_touches) := by
  have S : FnScope ["self", "row", "line", "column", "mark"] ["self", "row"] (defScope (meth 32 6)) := ⟨rfl, rfl, rfl, by decide +kernel, rfl, by decide +kernel, by decide +kernel⟩
  refine fn_rule (P := PW) (w := w) (K := K) (mg := mg) (base := base) (N := ["self", "row", "line", "column", "mark"]) (ps := ["self", "row"]) (k := 4) (ms := [.bor, .val]) (own := false) (g := g_Table_touches) F S rfl (by decide) fun cdv A outer s H E B hB hr => ?_
  have hN := S.nd
  have tk := takes_cx (P := PW) (w := w) (K := K) (mg := mg) (base := base) (N := ["self", "row", "line", "column", "mark"]) (qual := "Table.touches") (scope := defScope (meth 32 6)) (f := f) (cdv := cdv) (A := A) (outer := outer) (s := s) (H := H) (E := E)
  have hp := owns_cx (P := PW) (w := w) (K := K) (mg := mg) (base := base) (N := ["self", "row", "line", "column", "mark"]) (qual := "Table.touches") (scope := defScope (meth 32 6)) (f := f) (cdv := cdv) (A := A) (outer := outer) (s := s) (H := H) (E := E)
  exact (qss_cons (qs_set 2 hN (qe_ix ix_p (QE.rd (qe_fld T.fo_Table_lines (qr_v 0))) (QE.rd (qe_call f_place_of (hr.mono (by decide)) tk (qa_val (qe_v 1) (qa_val (qe_bi cr_len (qa_bor (QE.rd (qe_fld T.fo_Table_lines (qr_v 0))) qa_nil) T.n_len) qa_nil)))))) (qss_cons (qs_ret (qe_ty cr_tuple (qa_bor (QE.rd (QO.fz (qo_lc (own := [("column", 3), ("mark", 4)]) rfl hN (qi_enum (qe_v 2) T.n_enumerate) (show BlkOk ["self", "row", "line", "column", "mark"] (defScope (meth 32 6)) _ _ from ⟨rfl, by decide +kernel, by decide +kernel, by decide +kernel, by decide +kernel⟩) (fun _ _ _ _ _ => (qgv_pair 3 4 rfl hN)) (fun _ _ _ _ _ => (qts_one (qt_tru (QE.rd (qe_call f_is_touched (hr.mono (by decide)) takesW0 (qa_val (qe_v 4) qa_nil)))))) (fun _ _ _ _ _ => (qe_v 3))))) qa_nil) T.n_tuple)) qss_nil))
theorem w_Forcing_init {f : Addr} {fd : FuncData} {dvs : List V} {kws : List (Str × V)} (T : Tops K mg w base) (f_forced_now : FnB PW w K mg base "forced_now" fi_forced_now [] 4) (f_lot_of : FnB PW w K mg base "lot_of" fi_lot_of [] 4) (f_places_of : FnB PW w K mg base "places_of" fi_places_of [] 3) (m_Table_len : FnM PW w K mg base ["Table"] "__len__" fi_Table_len [] 3) (m_Table_touches : FnM PW w K mg base ["Table"] "touches" fi_Table_touches [] 5) (F : FunD K "__init__" "Forcing.__init__" (defArgs (meth 25 0)) (defBody (meth 25 0)) (defScope (meth 25 0)) dvs kws f fd) : FnOk PW w K mg base (L2.CX PW w) 6 f fd ["self", "table", "told"] (spOf K fi_Forcing_init) := by
  have S : FnScope ["self", "table", "told", "outside", "white", "column", "touched", "order", "before", "row"] ["self", "table", "told"] (defScope (meth 25 0)) := ⟨rfl, rfl, rfl, by decide +kernel, rfl, by decide +kernel, by decide +kernel⟩
  refine fn_rule (P := PW) (w := w) (K := K) (mg := mg) (base := base) (N := ["self", "table", "told", "outside", "white", "column", "touched", "order", "before", "row"]) (ps := ["self", "table", "told"]) (k := 5) (ms := [.mu, .val, .val]) (own := false) (g := g_Forcing_init) F S rfl (by decide) fun cdv A outer s H E B hB hr => ?_
  have hN := S.nd
  have tk := takes_cx (P := PW) (w := w) (K := K) (mg := mg) (base := base) (N := ["self", "table", "told", "outside", "white", "column", "touched", "order", "before", "row"]) (qual := "Forcing.__init__") (scope := defScope (meth 25 0)) (f := f) (cdv := cdv) (A := A) (outer := outer) (s := s) (H := H) (E := E)
  have hp := owns_cx (P := PW) (w := w) (K := K) (mg := mg) (base := base) (N := ["self", "table", "told", "outside", "white", "column", "touched", "order", "before", "row"]) (qual := "Forcing.__init__") (scope := defScope (meth 25 0)) (f := f) (cdv := cdv) (A := A) (outer := outer) (s := s) (H := H) (E := E)
  exact (qss_cons (qs_set 3 hN (qe_call f_lot_of (hr.mono (by decide)) tk (qa_val (qe_v 2) (qa_val (qe_fld T.fo_Table_columns (qr_v 1)) qa_nil)))) (qss_cons (qs_setO 4 hN (qo_op oro_mul (QE.rd (QO.fz (qo_lst (qa_val qe_bl qa_nil)))) (QE.rd (qe_fld T.fo_Table_columns (qr_v 1))))) (qss_cons (qs_for hp rfl (qi_seq (qe_v 3)) (qg_name 5 hN) (qss_cons (qs_setIx 4 qe_bl (qe_v 5)) (qss_end [5]))) (qss_cons (qs_setLc 6 (own := [("row", 9)]) rfl hN (qi_range1 (qa_val (qe_lenM m_Table_len (hr.mono (by decide)) (qr_v 1) T.n_len) qa_nil) T.n_range) (show BlkOk ["self", "table", "told", "outside", "white", "column", "touched", "order", "before", "row"] (defScope (meth 25 0)) _ _ from ⟨rfl, by decide +kernel, by decide +kernel, by decide +kernel, by decide +kernel⟩) (fun _ _ _ _ _ => (qgv_name 9 hN)) (fun _ _ _ _ _ => qts_nil) (fun _ _ _ _ _ => (qe_meth m_Table_touches (hr.mono (by decide)) takesW0 (qr_v 1) (qa_val (qe_v 9) qa_nil)))) (qss_cons (qs_setO 7 hN (qo_lst qa_nil)) (qss_cons (qs_set 8 hN (qe_neg qe_int)) (qss_cons (qs_while 100 hp (qt_cmp or_gt (QE.rd (qe_bi cr_len (qa_bor (qr_v 7) qa_nil) T.n_len)) (qr_v 8)) (qss_cons (qs_set 8 hN (qe_bi cr_len (qa_bor (qr_v 7) qa_nil) T.n_len)) (qss_cons (qs_for hp rfl (qi_range1 (qa_val (qe_bi cr_len (qa_bor (qr_v 6) qa_nil) T.n_len) qa_nil) T.n_range) (qg_name 9 hN) (qss_cons (qs_set 5 hN (qe_call f_forced_now (hr.mono (by decide)) tk (qa_val (qe_ix ix_p (QE.rd (qe_fld T.fo_Table_lines (qr_v 1))) (qr_v 9)) (qa_val (qe_ix ix_p (qr_v 6) (qr_v 9)) (qa_bor (qr_v 4) qa_nil))))) (qss_cons (qs_if (qt_cmp or_isn (qr_v 5) (QE.rd qe_non)) (qss_cons (qs_setIx 4 qe_bl (qe_v 5)) (qss_cons (qs_app 7 (qe_tup (qa_val (qe_v 9) (qa_val (qe_v 5) qa_nil)))) qss_nil)) qss_nil) (qss_end [9, 5])))) (qss_end [9, 5])))) (qss_cons (qs_fldM 0 T.fo_Forcing_table (qe_v 1)) (qss_cons (qs_fldM 0 T.fo_Forcing_order (qe_ty cr_tuple (qa_bor (qr_v 7) qa_nil) T.n_tuple)) (qss_cons (qs_fldM 0 T.fo_Forcing_white (qe_call f_places_of (hr.mono (by decide)) tk (qa_bor (qr_v 4) qa_nil))) qss_nil))))))))))
theorem w_is_forcing {f : Addr} {fd : FuncData} {dvs : List V} {kws : List (Str × V)} (T : Tops K mg w base) (f_forced_now : FnB PW w K mg base "forced_now" fi_forced_now [] 4) (f_is_whole : FnB PW w K mg base "is_whole" fi_is_whole [] 3) (m_Table_len : FnM PW w K mg base ["Table"] "__len__" fi_Table_len [] 3) (m_Table_touches : FnM PW w K mg base ["Table"] "touches" fi_Table_touches [] 5) (F : FunD K "is_forcing" "is_forcing" (defArgs (top 26)) (defBody (top 26)) (defScope (top 26)) dvs kws f fd) : FnOk PW w K mg base (L2.CX PW w) 6 f fd ["table", "pair", "white"] (spOf K fi_is_forcing) := by
  have S : FnScope ["table", "pair", "white", "row", "column"] ["table", "pair", "white"] (defScope (top 26)) := ⟨rfl, rfl, rfl, by decide +kernel, rfl, by decide +kernel, by decide +kernel⟩
  refine fn_rule (P := PW) (w := w) (K := K) (mg := mg) (base := base) (N := ["table", "pair", "white", "row", "column"]) (ps := ["table", "pair", "white"]) (k := 5) (ms := [.val, .val, .bor]) (own := false) (g := g_is_forcing) F S rfl (by decide) fun cdv A outer s H E B hB hr => ?_
  have hN := S.nd
  have tk := takes_cx (P := PW) (w := w) (K := K) (mg := mg) (base := base) (N := ["table", "pair", "white", "row", "column"]) (qual := "is_forcing") (scope := defScope (top 26)) (f := f) (cdv := cdv) (A := A) (outer := outer) (s := s) (H := H) (E := E)
  have hp := owns_cx (P := PW) (w := w) (K := K) (mg := mg) (base := base) (N := ["table", "pair", "white", "row", "column"]) (qual := "is_forcing") (scope := defScope (top 26)) (f := f) (cdv := cdv) (A := A) (outer := outer) (s := s) (H := H) (E := E)
  exact (qss_cons (qs_if (QW.qt (qw_or (qt_not (qt_tru (QE.rd (qe_isiT (qr_v 1) (pty_cons (pty_cons pty_nil T.n_tuple) T.n_list) T.n_isinstance)))) (qw_or1 (qt_cmp (or_ne hr) (QE.rd (qe_bi cr_len (qa_bor (qr_v 1) qa_nil) T.n_len)) (QE.rd qe_int))))) (qss_cons (qs_ret qe_bl) qss_nil) qss_nil) (qss_cons (qs_asg (qe_v 1) (qg_up rfl (qgs_cons 3 hN (qgs_cons 4 hN qgs_nil)))) (qss_cons (qs_if (QW.qt (qw_or (qt_not (qt_tru (QE.rd (qe_call f_is_whole (hr.mono (by decide)) tk (qa_val (qe_v 3) qa_nil))))) (qw_or (qt_not (qt_tru (QE.rd (qe_call f_is_whole (hr.mono (by decide)) tk (qa_val (qe_v 4) qa_nil))))) (qw_or (qt_cmp or_lt (qr_v 3) (QE.rd qe_int)) (qw_or1 (qt_cmp or_ge (qr_v 3) (QE.rd (qe_lenM m_Table_len (hr.mono (by decide)) (qr_v 0) T.n_len)))))))) (qss_cons (qs_ret qe_bl) qss_nil) qss_nil) (qss_cons (qs_ret (qe_cmp (or_eq hr) (QE.rd (qe_call f_forced_now (hr.mono (by decide)) tk (qa_val (qe_ix ix_p (QE.rd (qe_fld T.fo_Table_lines (qr_v 0))) (qr_v 3)) (qa_val (qe_meth m_Table_touches (hr.mono (by decide)) tk (qr_v 0) (qa_val (qe_v 3) qa_nil)) (qa_bor (qr_v 2) qa_nil))))) (qr_v 4))) qss_nil))))
theorem w_shows_forced {f : Addr} {fd : FuncData} {dvs : List V} {kws : List (Str × V)} (T : Tops K mg w base) (f_flags_of : FnB PW w K mg base "flags_of" fi_flags_of [] 3) (f_is_forcing : FnB PW w K mg base "is_forcing" fi_is_forcing [] 6) (f_lot_of : FnB PW w K mg base "lot_of" fi_lot_of [] 4) (f_place_of : FnB PW w K mg base "place_of" fi_place_of [] 4) (F : FunD K "shows_forced" "shows_forced" (defArgs (top 27)) (defBody (top 27)) (defScope (top 27)) dvs kws f fd) : FnOk PW w K mg base (L2.CX PW w) 7 f fd ["table", "column", "order", "told"] (spOf K fi_shows_forced) := by
  have S : FnScope ["table", "column", "order", "told", "at", "white", "pair", "known"] ["table", "column", "order", "told"] (defScope (top 27)) := ⟨rfl, rfl, rfl, by decide +kernel, rfl, by decide +kernel, by decide +kernel⟩
  refine fn_rule (P := PW) (w := w) (K := K) (mg := mg) (base := base) (N := ["table", "column", "order", "told", "at", "white", "pair", "known"]) (ps := ["table", "column", "order", "told"]) (k := 6) (ms := [.val, .val, .val, .val]) (own := false) (g := g_shows_forced) F S rfl (by decide) fun cdv A outer s H E B hB hr => ?_
  have hN := S.nd
  have tk := takes_cx (P := PW) (w := w) (K := K) (mg := mg) (base := base) (N := ["table", "column", "order", "told", "at", "white", "pair", "known"]) (qual := "shows_forced") (scope := defScope (top 27)) (f := f) (cdv := cdv) (A := A) (outer := outer) (s := s) (H := H) (E := E)
  have hp := owns_cx (P := PW) (w := w) (K := K) (mg := mg) (base := base) (N := ["table", "column", "order", "told", "at", "white", "pair", "known"]) (qual := "shows_forced") (scope := defScope (top 27)) (f := f) (cdv := cdv) (A := A) (outer := outer) (s := s) (H := H) (E := E)
  exact (qss_cons (qs_set 4 hN (qe_call f_place_of (hr.mono (by decide)) tk (qa_val (qe_v 1) (qa_val (qe_fld T.fo_Table_columns (qr_v 0)) qa_nil)))) (qss_cons (qs_setLc 5 (own := [("known", 7)]) rfl hN (qi_seq (qe_call f_flags_of (hr.mono (by decide)) tk (qa_val (qe_call f_lot_of (hr.mono (by decide)) tk (qa_val (qe_v 3) (qa_val (qe_fld T.fo_Table_columns (qr_v 0)) qa_nil))) (qa_val (qe_fld T.fo_Table_columns (qr_v 0)) qa_nil)))) (show BlkOk ["table", "column", "order", "told", "at", "white", "pair", "known"] (defScope (top 27)) _ _ from ⟨rfl, by decide +kernel, by decide +kernel, by decide +kernel, by decide +kernel⟩) (fun _ _ _ _ _ => (qgv_name 7 hN)) (fun _ _ _ _ _ => qts_nil) (fun _ _ _ _ _ => (qe_not (qr_v 7)))) (qss_cons (qs_if (qt_not (qt_tru (QE.rd (qe_isiT (qr_v 2) (pty_cons (pty_cons pty_nil T.n_tuple) T.n_list) T.n_isinstance)))) (qss_cons (qs_ret qe_bl) qss_nil) qss_nil) (qss_cons (qs_for hp rfl (qi_seq (qe_v 2)) (qg_name 6 hN) (qss_cons (qs_if (qt_not (qt_tru (QE.rd (qe_call f_is_forcing (hr.mono (by decide)) tk (qa_val (qe_v 0) (qa_val (qe_v 6) (qa_bor (qr_v 5) qa_nil))))))) (qss_cons (qs_ret qe_bl) qss_nil) qss_nil) (qss_cons (qs_setIx 5 qe_bl (qe_ix ix_p (qr_v 6) (QE.rd qe_int))) (qss_end [6])))) (qss_cons (qs_ret (qe_not (QE.rd (qe_ix ix_p (qr_v 5) (qr_v 4))))) qss_nil)))))
theorem w__law_next {f : Addr} {fd : FuncData} {dvs : List V} {kws : List (Str × V)} (T : Tops K mg w base)  (F : FunD K "_law_next" "_law_next" (defArgs (top 36)) (defBody (top 36)) (defScope (top 36)) dvs kws f fd) : FnOk PW w K mg base (L2.CX PW w) 3 f fd ["stream", "many"] (spOf K fi__law_next) := by
  have S : FnScope ["stream", "many", "numbers", "at"] ["stream", "many"] (defScope (top 36)) := ⟨rfl, rfl, rfl, by decide +kernel, rfl, by decide +kernel, by decide +kernel⟩
  refine fn_rule (P := PW) (w := w) (K := K) (mg := mg) (base := base) (N := ["stream", "many", "numbers", "at"]) (ps := ["stream", "many"]) (k := 2) (ms := [.mu, .val]) (own := false) (g := g__law_next) F S rfl (by decide) fun cdv A outer s H E B hB hr => ?_
  have hN := S.nd
  have tk := takes_cx (P := PW) (w := w) (K := K) (mg := mg) (base := base) (N := ["stream", "many", "numbers", "at"]) (qual := "_law_next") (scope := defScope (top 36)) (f := f) (cdv := cdv) (A := A) (outer := outer) (s := s) (H := H) (E := E)
  have hp := owns_cx (P := PW) (w := w) (K := K) (mg := mg) (base := base) (N := ["stream", "many", "numbers", "at"]) (qual := "_law_next") (scope := defScope (top 36)) (f := f) (cdv := cdv) (A := A) (outer := outer) (s := s) (H := H) (E := E)
  exact (qss_cons (qs_set 2 hN (qe_ixM 0 0)) (qss_cons (qs_set 3 hN (qe_ixM 0 1)) (qss_cons (qs_setIxM 0 1 (qe_op or_add (qr_v 3) (QE.rd qe_int))) (qss_cons (qs_if (qt_cmp or_ge (qr_v 3) (QE.rd (qe_bi cr_len (qa_bor (qr_v 2) qa_nil) T.n_len))) (qss_cons (qs_ret qe_int) qss_nil) qss_nil) (qss_cons (qs_ret (qe_op or_mod (QE.rd (qe_ty cr_int (qa_bor (QE.rd (qe_ix ix_p (qr_v 2) (qr_v 3))) qa_nil) T.n_int)) (qr_v 1))) qss_nil)))))
theorem w__law_stream {f : Addr} {fd : FuncData} {dvs : List V} {kws : List (Str × V)} (T : Tops K mg w base)  (F : FunD K "_law_stream" "_law_stream" (defArgs (top 35)) (defBody (top 35)) (defScope (top 35)) dvs kws f fd) : FnOk PW w K mg base (L2.CX PW w) 3 f fd ["script"] (spOf K fi__law_stream) := by
  have S : FnScope ["script", "numbers", "place", "cell", "size", "turn", "mixed"] ["script"] (defScope (top 35)) := ⟨rfl, rfl, rfl, by decide +kernel, rfl, by decide +kernel, by decide +kernel⟩
  refine fn_rule (P := PW) (w := w) (K := K) (mg := mg) (base := base) (N := ["script", "numbers", "place", "cell", "size", "turn", "mixed"]) (ps := ["script"]) (k := 2) (ms := [.val]) (own := true) (g := g__law_stream) F S rfl (by decide) fun cdv A outer s H E B hB hr => ?_
  have hN := S.nd
  have tk := takes_cx (P := PW) (w := w) (K := K) (mg := mg) (base := base) (N := ["script", "numbers", "place", "cell", "size", "turn", "mixed"]) (qual := "_law_stream") (scope := defScope (top 35)) (f := f) (cdv := cdv) (A := A) (outer := outer) (s := s) (H := H) (E := E)
  have hp := owns_cx (P := PW) (w := w) (K := K) (mg := mg) (base := base) (N := ["script", "numbers", "place", "cell", "size", "turn", "mixed"]) (qual := "_law_stream") (scope := defScope (top 35)) (f := f) (cdv := cdv) (A := A) (outer := outer) (s := s) (H := H) (E := E)
  exact (qss_cons (qs_setO 1 hN (qo_lst qa_nil)) (qss_cons (qs_for hp rfl (qi_range1 (qa_val (qe_bi (cr_min2 rfl) (qa_bor (QE.rd qe_int) (qa_bor (QE.rd (qe_bi cr_len (qa_bor (qr_v 0) qa_nil) T.n_len)) qa_nil)) T.n_min) qa_nil) T.n_range) (qg_name 2 hN) (qss_cons (qs_set 3 hN (qe_ty cr_int (qa_bor (QE.rd (qe_ix ix_p (qr_v 0) (qr_v 2))) qa_nil) T.n_int)) (qss_cons (qs_set 4 hN (qe_op or_mul (QE.rd qe_int) (qr_v 3))) (qss_cons (qs_if (qt_cmp or_lt (qr_v 3) (QE.rd qe_int)) (qss_cons (qs_set 4 hN (qe_op or_sub (QE.rd qe_int) (QE.rd (qe_op or_mul (QE.rd qe_int) (qr_v 3))))) qss_nil) qss_nil) (qss_cons (qs_if (qt_cmp or_ge (qr_v 4) (QE.rd (qe_op or_pow (QE.rd qe_int) (QE.rd qe_int)))) (qss_cons (qs_for hp rfl (qi_range1 (qa_val qe_int qa_nil) T.n_range) (qg_name 5 hN) (qss_cons (qs_if (qt_cmp or_gt (qr_v 4) (QE.rd qe_int)) (qss_cons (qs_app 1 (qe_op or_mod (QE.rd (qe_ty cr_int (qa_bor (qr_v 4) qa_nil) T.n_int)) (QE.rd qe_int))) (qss_cons (qs_set 4 hN (qe_op or_fdiv (qr_v 4) (QE.rd qe_int))) qss_nil)) qss_nil) (qss_end [5]))) qss_nil) (qss_cons (qs_set 6 hN (qe_op or_mod (QE.rd (qe_ty cr_int (qa_bor (QE.rd (qe_op or_add (QE.rd (qe_op or_add (QE.rd (qe_op or_mul (qr_v 4) (QE.rd qe_int))) (QE.rd (qe_op or_mul (qr_v 2) (QE.rd qe_int))))) (QE.rd qe_int))) qa_nil) T.n_int)) (QE.rd qe_int))) (qss_cons (qs_for hp rfl (qi_range1 (qa_val qe_int qa_nil) T.n_range) (qg_name 5 hN) (qss_cons (qs_set 6 hN (qe_op or_mod (QE.rd (qe_ty cr_int (qa_bor (QE.rd (qe_op or_add (QE.rd (qe_op or_add (QE.rd (qe_op or_add (QE.rd (qe_op or_mul (qr_v 6) (qr_v 6))) (QE.rd (qe_op or_mul (qr_v 4) (QE.rd qe_int))))) (QE.rd (qe_op or_mul (qr_v 5) (QE.rd qe_int))))) (qr_v 2))) qa_nil) T.n_int)) (QE.rd qe_int))) (qss_cons (qs_app 1 (qe_op or_fdiv (qr_v 6) (QE.rd qe_int))) (qss_end [5])))) qss_nil))) (qss_end [2, 3, 4, 5, 6])))))) (qss_frz 1 (qss_cons (qs_retO (qo_lst (qa_val (qe_v 1) (qa_val qe_int qa_nil)))) qss_nil))))
theorem w__law_lines {f : Addr} {fd : FuncData} {dvs : List V} {kws : List (Str × V)} (T : Tops K mg w base) (f__law_next : FnB PW w K mg base "_law_next" fi__law_next [] 3) (F : FunD K "_law_lines" "_law_lines" (defArgs (top 37)) (defBody (top 37)) (defScope (top 37)) dvs kws f fd) : FnOk PW w K mg base (L2.CX PW w) 4 f fd ["stream", "rows", "columns", "loose"] (spOf K fi__law_lines) := by
  have S : FnScope ["stream", "rows", "columns", "loose", "menu", "shift", "lines", "row", "line", "column"] ["stream", "rows", "columns", "loose"] (defScope (top 37)) := ⟨rfl, rfl, rfl, by decide +kernel, rfl, by decide +kernel, by decide +kernel⟩
  refine fn_rule (P := PW) (w := w) (K := K) (mg := mg) (base := base) (N := ["stream", "rows", "columns", "loose", "menu", "shift", "lines", "row", "line", "column"]) (ps := ["stream", "rows", "columns", "loose"]) (k := 3) (ms := [.mu, .val, .val, .val]) (own := false) (g := g__law_lines) F S rfl (by decide) fun cdv A outer s H E B hB hr => ?_
  have hN := S.nd
  have tk := takes_cx (P := PW) (w := w) (K := K) (mg := mg) (base := base) (N := ["stream", "rows", "columns", "loose", "menu", "shift", "lines", "row", "line", "column"]) (qual := "_law_lines") (scope := defScope (top 37)) (f := f) (cdv := cdv) (A := A) (outer := outer) (s := s) (H := H) (E := E)
  have hp := owns_cx (P := PW) (w := w) (K := K) (mg := mg) (base := base) (N := ["stream", "rows", "columns", "loose", "menu", "shift", "lines", "row", "line", "column"]) (qual := "_law_lines") (scope := defScope (top 37)) (f := f) (cdv := cdv) (A := A) (outer := outer) (s := s) (H := H) (E := E)
  exact (qss_cons (qs_set 4 hN qe_str) (qss_cons (qs_if (qt_tru (qr_v 3)) (qss_cons (qs_set 4 hN qe_str) qss_nil) qss_nil) (qss_cons (qs_set 5 hN (qe_call f__law_next (hr.mono (by decide)) tk (qa_mu 0 (qa_val qe_int qa_nil)))) (qss_cons (qs_setO 6 hN (qo_lst qa_nil)) (qss_cons (qs_for hp rfl (qi_range1 (qa_val (qe_v 1) qa_nil) T.n_range) (qg_name 7 hN) (qss_cons (qs_set 8 hN qe_str) (qss_cons (qs_for hp rfl (qi_range1 (qa_val (qe_v 2) qa_nil) T.n_range) (qg_name 9 hN) (qss_cons (qs_set 8 hN (qe_op or_add (qr_v 8) (QE.rd (qe_ix ix_p (qr_v 4) (QE.rd (qe_op or_mod (QE.rd (qe_ty cr_int (qa_bor (QE.rd (qe_op or_add (QE.rd (qe_op or_add (QE.rd (qe_op or_add (QE.rd (qe_call f__law_next (hr.mono (by decide)) tk (qa_mu 0 (qa_val qe_int qa_nil)))) (QE.rd (qe_op or_mul (QE.rd qe_int) (qr_v 7))))) (QE.rd (qe_op or_mul (qr_v 9) (qr_v 9))))) (qr_v 5))) qa_nil) T.n_int)) (QE.rd qe_int))))))) (qss_end [9]))) (qss_cons (qs_app 6 (qe_v 8)) (qss_end [7, 8, 9]))))) (qss_frz 6 (qss_cons (qs_ret (qe_v 6)) qss_nil)))))))
theorem w__law_told_line {f : Addr} {fd : FuncData} {dvs : List V} {kws : List (Str × V)} (T : Tops K mg w base) (f__law_next : FnB PW w K mg base "_law_next" fi__law_next [] 3) (F : FunD K "_law_told_line" "_law_told_line" (defArgs (top 38)) (defBody (top 38)) (defScope (top 38)) dvs kws f fd) : FnOk PW w K mg base (L2.CX PW w) 4 f fd ["stream", "line"] (spOf K fi__law_told_line) := by
  have S : FnScope ["stream", "line", "at"] ["stream", "line"] (defScope (top 38)) := ⟨rfl, rfl, rfl, by decide +kernel, rfl, by decide +kernel, by decide +kernel⟩
  refine fn_rule (P := PW) (w := w) (K := K) (mg := mg) (base := base) (N := ["stream", "line", "at"]) (ps := ["stream", "line"]) (k := 3) (ms := [.mu, .val]) (own := false) (g := g__law_told_line) F S rfl (by decide) fun cdv A outer s H E B hB hr => ?_
  have hN := S.nd
  have tk := takes_cx (P := PW) (w := w) (K := K) (mg := mg) (base := base) (N := ["stream", "line", "at"]) (qual := "_law_told_line") (scope := defScope (top 38)) (f := f) (cdv := cdv) (A := A) (outer := outer) (s := s) (H := H) (E := E)
  have hp := owns_cx (P := PW) (w := w) (K := K) (mg := mg) (base := base) (N := ["stream", "line", "at"]) (qual := "_law_told_line") (scope := defScope (top 38)) (f := f) (cdv := cdv) (A := A) (outer := outer) (s := s) (H := H) (E := E)
  exact (qss_cons (qs_if (QW.qt (qw_or (qt_cmp (or_eq hr) (QE.rd (qe_bi cr_len (qa_bor (qr_v 1) qa_nil) T.n_len)) (QE.rd qe_int)) (qw_or1 (qt_cmp or_gt (QE.rd (qe_call f__law_next (hr.mono (by decide)) tk (qa_mu 0 (qa_val qe_int qa_nil)))) (QE.rd qe_int))))) (qss_cons (qs_ret (qe_v 1)) qss_nil) qss_nil) (qss_cons (qs_set 2 hN (qe_call f__law_next (hr.mono (by decide)) tk (qa_mu 0 (qa_val (qe_bi (cr_min2 rfl) (qa_bor (QE.rd qe_int) (qa_bor (QE.rd (qe_bi cr_len (qa_bor (qr_v 1) qa_nil) T.n_len)) qa_nil)) T.n_min) qa_nil)))) (qss_cons (qs_ret (qe_op or_add (QE.rd (qe_op or_add (QE.rd (qe_sliceS (qr_v 1) qp_none (qp_some (qe_v 2)))) (QE.rd qe_str))) (QE.rd (qe_sliceS (qr_v 1) (qp_some (qe_op or_add (qr_v 2) (QE.rd qe_int))) qp_none)))) qss_nil)))
theorem w__law_lot {f : Addr} {fd : FuncData} {dvs : List V} {kws : List (Str × V)} (T : Tops K mg w base) (f__law_next : FnB PW w K mg base "_law_next" fi__law_next [] 3) (F : FunD K "_law_lot" "_law_lot" (defArgs (top 39)) (defBody (top 39)) (defScope (top 39)) dvs kws f fd) : FnOk PW w K mg base (L2.CX PW w) 4 f fd ["stream", "size"] (spOf K fi__law_lot) := by
  have S : FnScope ["stream", "size", "place"] ["stream", "size"] (defScope (top 39)) := ⟨rfl, rfl, rfl, by decide +kernel, rfl, by decide +kernel, by decide +kernel⟩
  refine fn_rule (P := PW) (w := w) (K := K) (mg := mg) (base := base) (N := ["stream", "size", "place"]) (ps := ["stream", "size"]) (k := 3) (ms := [.mu, .val]) (own := false) (g := g__law_lot) F S rfl (by decide) fun cdv A outer s H E B hB hr => ?_
  have hN := S.nd
  have tk := takes_cx (P := PW) (w := w) (K := K) (mg := mg) (base := base) (N := ["stream", "size", "place"]) (qual := "_law_lot") (scope := defScope (top 39)) (f := f) (cdv := cdv) (A := A) (outer := outer) (s := s) (H := H) (E := E)
  have hp := owns_cx (P := PW) (w := w) (K := K) (mg := mg) (base := base) (N := ["stream", "size", "place"]) (qual := "_law_lot") (scope := defScope (top 39)) (f := f) (cdv := cdv) (A := A) (outer := outer) (s := s) (H := H) (E := E)
  exact (qss_cons (qs_ret (QO.fz (qo_lc (own := [("place", 2)]) rfl hN (qi_range1 (qa_val (qe_v 1) qa_nil) T.n_range) (show BlkOk ["stream", "size", "place"] (defScope (top 39)) _ _ from ⟨rfl, by decide +kernel, by decide +kernel, by decide +kernel, by decide +kernel⟩) (fun _ _ _ _ _ => (qgv_name 2 hN)) (fun _ _ _ _ _ => (qts_one (qt_cmp (or_eq hr) (QE.rd (qe_call f__law_next (hr.mono (by decide)) takesW0 (qa_mu 0 (qa_val qe_int qa_nil)))) (QE.rd qe_int)))) (fun _ _ _ _ _ => (qe_v 2))))) qss_nil)
theorem w__law_lone {f : Addr} {fd : FuncData} {dvs : List V} {kws : List (Str × V)} (T : Tops K mg w base)  (F : FunD K "_law_lone" "_law_lone" (defArgs (top 40)) (defBody (top 40)) (defScope (top 40)) dvs kws f fd) : FnOk PW w K mg base (L2.CX PW w) 3 f fd ["line", "lot"] (spOf K fi__law_lone) := by
  have S : FnScope ["line", "lot", "hard", "loose", "place"] ["line", "lot"] (defScope (top 40)) := ⟨rfl, rfl, rfl, by decide +kernel, rfl, by decide +kernel, by decide +kernel⟩
  refine fn_rule (P := PW) (w := w) (K := K) (mg := mg) (base := base) (N := ["line", "lot", "hard", "loose", "place"]) (ps := ["line", "lot"]) (k := 2) (ms := [.val, .val]) (own := false) (g := g__law_lone) F S rfl (by decide) fun cdv A outer s H E B hB hr => ?_
  have hN := S.nd
  have tk := takes_cx (P := PW) (w := w) (K := K) (mg := mg) (base := base) (N := ["line", "lot", "hard", "loose", "place"]) (qual := "_law_lone") (scope := defScope (top 40)) (f := f) (cdv := cdv) (A := A) (outer := outer) (s := s) (H := H) (E := E)
  have hp := owns_cx (P := PW) (w := w) (K := K) (mg := mg) (base := base) (N := ["line", "lot", "hard", "loose", "place"]) (qual := "_law_lone") (scope := defScope (top 40)) (f := f) (cdv := cdv) (A := A) (outer := outer) (s := s) (H := H) (E := E)
  exact (qss_cons (qs_setLc 2 (own := [("place", 4)]) rfl hN (qi_seq (qe_v 1)) (show BlkOk ["line", "lot", "hard", "loose", "place"] (defScope (top 40)) _ _ from ⟨rfl, by decide +kernel, by decide +kernel, by decide +kernel, by decide +kernel⟩) (fun _ _ _ _ _ => (qgv_name 4 hN)) (fun _ _ _ _ _ => (qts_one (qt_cmp (or_in hr) (QE.rd (qe_ix ix_p (qr_v 0) (qr_v 4))) (QE.rd qe_str)))) (fun _ _ _ _ _ => (qe_v 4))) (qss_cons (qs_setLc 3 (own := [("place", 4)]) rfl hN (qi_seq (qe_v 1)) (show BlkOk ["line", "lot", "hard", "loose", "place"] (defScope (top 40)) _ _ from ⟨rfl, by decide +kernel, by decide +kernel, by decide +kernel, by decide +kernel⟩) (fun _ _ _ _ _ => (qgv_name 4 hN)) (fun _ _ _ _ _ => (qts_one (qt_cmp (or_eq hr) (QE.rd (qe_ix ix_p (qr_v 0) (qr_v 4))) (QE.rd qe_str)))) (fun _ _ _ _ _ => (qe_v 4))) (qss_cons (qs_if (QW.qt (qw_and (qt_cmp (or_eq hr) (QE.rd (qe_bi cr_len (qa_bor (qr_v 2) qa_nil) T.n_len)) (QE.rd qe_int)) (qw_and1 (qt_cmp (or_eq hr) (QE.rd (qe_bi cr_len (qa_bor (qr_v 3) qa_nil) T.n_len)) (QE.rd qe_int))))) (qss_cons (qs_ret (qe_ix ix_p (qr_v 2) (QE.rd qe_int))) qss_nil) qss_nil) (qss_cons (qs_ret qe_non) qss_nil))))
theorem w__law_marks {f : Addr} {fd : FuncData} {dvs : List V} {kws : List (Str × V)} (T : Tops K mg w base) (f__law_lines : FnB PW w K mg base "_law_lines" fi__law_lines [] 4) (f__law_next : FnB PW w K mg base "_law_next" fi__law_next [] 3) (f__law_told_line : FnB PW w K mg base "_law_told_line" fi__law_told_line [] 4) (F : FunD K "_law_marks" "_law_marks" (defArgs (top 41)) (defBody (top 41)) (defScope (top 41)) dvs kws f fd) : FnOk PW w K mg base (L2.CX PW w) 5 f fd ["stream", "rows", "columns"] (spOf K fi__law_marks) := by
  have S : FnScope ["stream", "rows", "columns", "lines", "line"] ["stream", "rows", "columns"] (defScope (top 41)) := ⟨rfl, rfl, rfl, by decide +kernel, rfl, by decide +kernel, by decide +kernel⟩
  refine fn_rule (P := PW) (w := w) (K := K) (mg := mg) (base := base) (N := ["stream", "rows", "columns", "lines", "line"]) (ps := ["stream", "rows", "columns"]) (k := 4) (ms := [.mu, .val, .val]) (own := false) (g := g__law_marks) F S rfl (by decide) fun cdv A outer s H E B hB hr => ?_
  have hN := S.nd
  have tk := takes_cx (P := PW) (w := w) (K := K) (mg := mg) (base := base) (N := ["stream", "rows", "columns", "lines", "line"]) (qual := "_law_marks") (scope := defScope (top 41)) (f := f) (cdv := cdv) (A := A) (outer := outer) (s := s) (H := H) (E := E)
  have hp := owns_cx (P := PW) (w := w) (K := K) (mg := mg) (base := base) (N := ["stream", "rows", "columns", "lines", "line"]) (qual := "_law_marks") (scope := defScope (top 41)) (f := f) (cdv := cdv) (A := A) (outer := outer) (s := s) (H := H) (E := E)
  exact (qss_cons (qs_set 3 hN (qe_call f__law_lines (hr.mono (by decide)) tk (qa_mu 0 (qa_val (qe_v 1) (qa_val (qe_v 2) (qa_val (qe_cmp (or_eq hr) (QE.rd (qe_call f__law_next (hr.mono (by decide)) tk (qa_mu 0 (qa_val qe_int qa_nil)))) (QE.rd qe_int)) qa_nil)))))) (qss_cons (qs_ret (QO.fz (qo_lc (own := [("line", 4)]) rfl hN (qi_seq (qe_v 3)) (show BlkOk ["stream", "rows", "columns", "lines", "line"] (defScope (top 41)) _ _ from ⟨rfl, by decide +kernel, by decide +kernel, by decide +kernel, by decide +kernel⟩) (fun _ _ _ _ _ => (qgv_name 4 hN)) (fun _ _ _ _ _ => qts_nil) (fun _ _ _ _ _ => (qe_call f__law_told_line (hr.mono (by decide)) takesW0 (qa_mu 0 (qa_val (qe_v 4) qa_nil))))))) qss_nil))
theorem w__law_ladder {f : Addr} {fd : FuncData} {dvs : List V} {kws : List (Str × V)} (T : Tops K mg w base) (f__law_next : FnB PW w K mg base "_law_next" fi__law_next [] 3) (F : FunD K "_law_ladder" "_law_ladder" (defArgs (top 42)) (defBody (top 42)) (defScope (top 42)) dvs kws f fd) : FnOk PW w K mg base (L2.CX PW w) 4 f fd ["stream", "size"] (spOf K fi__law_ladder) := by
  have S : FnScope ["stream", "size", "start", "turn", "lines", "row", "marks", "before", "place"] ["stream", "size"] (defScope (top 42)) := ⟨rfl, rfl, rfl, by decide +kernel, rfl, by decide +kernel, by decide +kernel⟩
  refine fn_rule (P := PW) (w := w) (K := K) (mg := mg) (base := base) (N := ["stream", "size", "start", "turn", "lines", "row", "marks", "before", "place"]) (ps := ["stream", "size"]) (k := 3) (ms := [.mu, .val]) (own := false) (g := g__law_ladder) F S rfl (by decide) fun cdv A outer s H E B hB hr => ?_
  have hN := S.nd
  have tk := takes_cx (P := PW) (w := w) (K := K) (mg := mg) (base := base) (N := ["stream", "size", "start", "turn", "lines", "row", "marks", "before", "place"]) (qual := "_law_ladder") (scope := defScope (top 42)) (f := f) (cdv := cdv) (A := A) (outer := outer) (s := s) (H := H) (E := E)
  have hp := owns_cx (P := PW) (w := w) (K := K) (mg := mg) (base := base) (N := ["stream", "size", "start", "turn", "lines", "row", "marks", "before", "place"]) (qual := "_law_ladder") (scope := defScope (top 42)) (f := f) (cdv := cdv) (A := A) (outer := outer) (s := s) (H := H) (E := E)
  exact (qss_cons (qs_set 2 hN (qe_call f__law_next (hr.mono (by decide)) tk (qa_mu 0 (qa_val (qe_v 1) qa_nil)))) (qss_cons (qs_set 3 hN (qe_ix ix_p (QE.rd (QO.fz (qo_lst (qa_val qe_int (qa_val (qe_op or_sub (qr_v 1) (QE.rd qe_int)) qa_nil))))) (QE.rd (qe_call f__law_next (hr.mono (by decide)) tk (qa_mu 0 (qa_val qe_int qa_nil)))))) (qss_cons (qs_setO 4 hN (qo_lst qa_nil)) (qss_cons (qs_for hp rfl (qi_range1 (qa_val (qe_v 1) qa_nil) T.n_range) (qg_name 5 hN) (qss_cons (qs_setLc 6 (own := [("place", 8)]) rfl hN (qi_range1 (qa_val (qe_v 1) qa_nil) T.n_range) (show BlkOk ["stream", "size", "start", "turn", "lines", "row", "marks", "before", "place"] (defScope (top 42)) _ _ from ⟨rfl, by decide +kernel, by decide +kernel, by decide +kernel, by decide +kernel⟩) (fun _ _ _ _ _ => (qgv_name 8 hN)) (fun _ _ _ _ _ => qts_nil) (fun _ _ _ _ _ => qe_str)) (qss_cons (qs_for hp rfl (qi_range1 (qa_val (qe_v 5) qa_nil) T.n_range) (qg_name 7 hN) (qss_cons (qs_setIx 6 (qe_ix ix_p (QE.rd (QO.fz (qo_lst (qa_val qe_str (qa_val qe_str (qa_val qe_str qa_nil)))))) (QE.rd (qe_call f__law_next (hr.mono (by decide)) tk (qa_mu 0 (qa_val qe_int qa_nil))))) (qe_op or_mod (QE.rd (qe_ty cr_int (qa_bor (QE.rd (qe_op or_add (qr_v 2) (QE.rd (qe_op or_mul (qr_v 7) (qr_v 3))))) qa_nil) T.n_int)) (qr_v 1))) (qss_end [7]))) (qss_cons (qs_setIx 6 (qe_ix ix_p (QE.rd (QO.fz (qo_lst (qa_val qe_str (qa_val qe_str qa_nil))))) (QE.rd (qe_call f__law_next (hr.mono (by decide)) tk (qa_mu 0 (qa_val qe_int qa_nil))))) (qe_op or_mod (QE.rd (qe_ty cr_int (qa_bor (QE.rd (qe_op or_add (qr_v 2) (QE.rd (qe_op or_mul (qr_v 5) (qr_v 3))))) qa_nil) T.n_int)) (qr_v 1))) (qss_cons (qs_app 4 (qe_m1 PySem.F.slot_str_join PySem.F.type_str_join mr_join (QE.rd qe_str) (qr_v 6))) (qss_end [5, 6, 7])))))) (qss_frz 4 (qss_cons (qs_ret (qe_v 4)) qss_nil))))))
theorem w__law_drawn_order {f : Addr} {fd : FuncData} {dvs : List V} {kws : List (Str × V)} (T : Tops K mg w base) (f__law_lone : FnB PW w K mg base "_law_lone" fi__law_lone [] 3) (f__law_next : FnB PW w K mg base "_law_next" fi__law_next [] 3) (F : FunD K "_law_drawn_order" "_law_drawn_order" (defArgs (top 43)) (defBody (top 43)) (defScope (top 43)) dvs kws f fd) : FnOk PW w K mg base (L2.CX PW w) 4 f fd ["stream", "lines", "columns", "outside"] (spOf K fi__law_drawn_order) := by
  have S : FnScope ["stream", "lines", "columns", "outside", "white", "order", "turn", "able", "place", "row", "lone"] ["stream", "lines", "columns", "outside"] (defScope (top 43)) := ⟨rfl, rfl, rfl, by decide +kernel, rfl, by decide +kernel, by decide +kernel⟩
  refine fn_rule (P := PW) (w := w) (K := K) (mg := mg) (base := base) (N := ["stream", "lines", "columns", "outside", "white", "order", "turn", "able", "place", "row", "lone"]) (ps := ["stream", "lines", "columns", "outside"]) (k := 3) (ms := [.mu, .val, .val, .val]) (own := false) (g := g__law_drawn_order) F S rfl (by decide) fun cdv A outer s H E B hB hr => ?_
  have hN := S.nd
  have tk := takes_cx (P := PW) (w := w) (K := K) (mg := mg) (base := base) (N := ["stream", "lines", "columns", "outside", "white", "order", "turn", "able", "place", "row", "lone"]) (qual := "_law_drawn_order") (scope := defScope (top 43)) (f := f) (cdv := cdv) (A := A) (outer := outer) (s := s) (H := H) (E := E)
  have hp := owns_cx (P := PW) (w := w) (K := K) (mg := mg) (base := base) (N := ["stream", "lines", "columns", "outside", "white", "order", "turn", "able", "place", "row", "lone"]) (qual := "_law_drawn_order") (scope := defScope (top 43)) (f := f) (cdv := cdv) (A := A) (outer := outer) (s := s) (H := H) (E := E)
  exact (qss_cons (qs_set 4 hN (QO.fz (qo_lc (own := [("place", 8)]) rfl hN (qi_range1 (qa_val (qe_v 2) qa_nil) T.n_range) (show BlkOk ["stream", "lines", "columns", "outside", "white", "order", "turn", "able", "place", "row", "lone"] (defScope (top 43)) _ _ from ⟨rfl, by decide +kernel, by decide +kernel, by decide +kernel, by decide +kernel⟩) (fun _ _ _ _ _ => (qgv_name 8 hN)) (fun _ _ _ _ _ => (qts_one (qt_cmp (or_notIn hr) (qr_v 8) (qr_v 3)))) (fun _ _ _ _ _ => (qe_v 8))))) (qss_cons (qs_setO 5 hN (qo_lst qa_nil)) (qss_cons (qs_for hp rfl (qi_range1 (qa_val (qe_op or_add (qr_v 2) (QE.rd qe_int)) qa_nil) T.n_range) (qg_name 6 hN) (qss_cons (qs_setLc 7 (own := [("row", 9)]) rfl hN (qi_range1 (qa_val (qe_bi cr_len (qa_bor (qr_v 1) qa_nil) T.n_len) qa_nil) T.n_range) (show BlkOk ["stream", "lines", "columns", "outside", "white", "order", "turn", "able", "place", "row", "lone"] (defScope (top 43)) _ _ from ⟨rfl, by decide +kernel, by decide +kernel, by decide +kernel, by decide +kernel⟩) (fun _ _ _ _ _ => (qgv_name 9 hN)) (fun _ _ _ _ _ => (qts_one (qt_cmp or_isn (QE.rd (qe_call f__law_lone (hr.mono (by decide)) takesW0 (qa_val (qe_ix ix_p (qr_v 1) (qr_v 9)) (qa_val (qe_v 4) qa_nil)))) (QE.rd qe_non)))) (fun _ _ _ _ _ => (qe_v 9))) (qss_cons (qs_if (qt_cmp or_gt (QE.rd (qe_bi cr_len (qa_bor (qr_v 7) qa_nil) T.n_len)) (QE.rd qe_int)) (qss_cons (qs_set 9 hN (qe_ix ix_p (qr_v 7) (QE.rd (qe_call f__law_next (hr.mono (by decide)) tk (qa_mu 0 (qa_val (qe_bi (cr_min2 rfl) (qa_bor (QE.rd qe_int) (qa_bor (QE.rd (qe_bi cr_len (qa_bor (qr_v 7) qa_nil) T.n_len)) qa_nil)) T.n_min) qa_nil)))))) (qss_cons (qs_set 10 hN (qe_call f__law_lone (hr.mono (by decide)) tk (qa_val (qe_ix ix_p (qr_v 1) (qr_v 9)) (qa_val (qe_v 4) qa_nil)))) (qss_cons (qs_app 5 (qe_tup (qa_val (qe_v 9) (qa_val (qe_v 10) qa_nil)))) (qss_cons (qs_set 4 hN (QO.fz (qo_lc (own := [("place", 8)]) rfl hN (qi_seq (qe_v 4)) (show BlkOk ["stream", "lines", "columns", "outside", "white", "order", "turn", "able", "place", "row", "lone"] (defScope (top 43)) _ _ from ⟨rfl, by decide +kernel, by decide +kernel, by decide +kernel, by decide +kernel⟩) (fun _ _ _ _ _ => (qgv_name 8 hN)) (fun _ _ _ _ _ => (qts_one (qt_cmp (or_ne hr) (qr_v 8) (qr_v 10)))) (fun _ _ _ _ _ => (qe_v 8))))) qss_nil)))) qss_nil) (qss_end [6, 7, 9, 10])))) (qss_frz 5 (qss_cons (qs_ret (qe_v 5)) qss_nil)))))
theorem w__law_is_pair {f : Addr} {fd : FuncData} {dvs : List V} {kws : List (Str × V)} (T : Tops K mg w base)  (F : FunD K "_law_is_pair" "_law_is_pair" (defArgs (top 44)) (defBody (top 44)) (defScope (top 44)) dvs kws f fd) : FnOk PW w K mg base (L2.CX PW w) 3 f fd ["pair"] (spOf K fi__law_is_pair) := by
  have S : FnScope ["pair", "part"] ["pair"] (defScope (top 44)) := ⟨rfl, rfl, rfl, by decide +kernel, rfl, by decide +kernel, by decide +kernel⟩
  refine fn_rule (P := PW) (w := w) (K := K) (mg := mg) (base := base) (N := ["pair", "part"]) (ps := ["pair"]) (k := 2) (ms := [.val]) (own := false) (g := g__law_is_pair) F S rfl (by decide) fun cdv A outer s H E B hB hr => ?_
  have hN := S.nd
  have tk := takes_cx (P := PW) (w := w) (K := K) (mg := mg) (base := base) (N := ["pair", "part"]) (qual := "_law_is_pair") (scope := defScope (top 44)) (f := f) (cdv := cdv) (A := A) (outer := outer) (s := s) (H := H) (E := E)
  have hp := owns_cx (P := PW) (w := w) (K := K) (mg := mg) (base := base) (N := ["pair", "part"]) (qual := "_law_is_pair") (scope := defScope (top 44)) (f := f) (cdv := cdv) (A := A) (outer := outer) (s := s) (H := H) (E := E)
  exact (qss_cons (qs_if (QW.qt (qw_or (qt_not (qt_tru (QE.rd (qe_isiT (qr_v 0) (pty_cons (pty_cons pty_nil T.n_tuple) T.n_list) T.n_isinstance)))) (qw_or1 (qt_cmp (or_ne hr) (QE.rd (qe_bi cr_len (qa_bor (qr_v 0) qa_nil) T.n_len)) (QE.rd qe_int))))) (qss_cons (qs_ret qe_bl) qss_nil) qss_nil) (qss_cons (qs_for hp rfl (qi_seq (qe_v 0)) (qg_name 1 hN) (qss_cons (qs_if (QW.qt (qw_or (qt_not (qt_tru (QE.rd (qe_isi (qr_v 1) T.n_isinstance T.n_int)))) (qw_or1 (qt_tru (QE.rd (qe_isi (qr_v 1) T.n_isinstance T.n_bool)))))) (qss_cons (qs_ret qe_bl) qss_nil) qss_nil) (qss_end [1]))) (qss_cons (qs_ret qe_bl) qss_nil)))
theorem w__law_judged {f : Addr} {fd : FuncData} {dvs : List V} {kws : List (Str × V)} (T : Tops K mg w base) (f__law_is_pair : FnB PW w K mg base "_law_is_pair" fi__law_is_pair [] 3) (f__law_lone : FnB PW w K mg base "_law_lone" fi__law_lone [] 3) (F : FunD K "_law_judged" "_law_judged" (defArgs (top 45)) (defBody (top 45)) (defScope (top 45)) dvs kws f fd) : FnOk PW w K mg base (L2.CX PW w) 4 f fd ["lines", "columns", "column", "order", "outside"] (spOf K fi__law_judged) := by
  have S : FnScope ["lines", "columns", "column", "order", "outside", "white", "pair", "row", "lone", "place"] ["lines", "columns", "column", "order", "outside"] (defScope (top 45)) := ⟨rfl, rfl, rfl, by decide +kernel, rfl, by decide +kernel, by decide +kernel⟩
  refine fn_rule (P := PW) (w := w) (K := K) (mg := mg) (base := base) (N := ["lines", "columns", "column", "order", "outside", "white", "pair", "row", "lone", "place"]) (ps := ["lines", "columns", "column", "order", "outside"]) (k := 3) (ms := [.val, .val, .val, .val, .val]) (own := false) (g := g__law_judged) F S rfl (by decide) fun cdv A outer s H E B hB hr => ?_
  have hN := S.nd
  have tk := takes_cx (P := PW) (w := w) (K := K) (mg := mg) (base := base) (N := ["lines", "columns", "column", "order", "outside", "white", "pair", "row", "lone", "place"]) (qual := "_law_judged") (scope := defScope (top 45)) (f := f) (cdv := cdv) (A := A) (outer := outer) (s := s) (H := H) (E := E)
  have hp := owns_cx (P := PW) (w := w) (K := K) (mg := mg) (base := base) (N := ["lines", "columns", "column", "order", "outside", "white", "pair", "row", "lone", "place"]) (qual := "_law_judged") (scope := defScope (top 45)) (f := f) (cdv := cdv) (A := A) (outer := outer) (s := s) (H := H) (E := E)
  exact (qss_cons (qs_if (qt_not (qt_tru (QE.rd (qe_isiT (qr_v 3) (pty_cons (pty_cons pty_nil T.n_tuple) T.n_list) T.n_isinstance)))) (qss_cons (qs_ret qe_bl) qss_nil) qss_nil) (qss_cons (qs_setLc 5 (own := [("place", 9)]) rfl hN (qi_range1 (qa_val (qe_v 1) qa_nil) T.n_range) (show BlkOk ["lines", "columns", "column", "order", "outside", "white", "pair", "row", "lone", "place"] (defScope (top 45)) _ _ from ⟨rfl, by decide +kernel, by decide +kernel, by decide +kernel, by decide +kernel⟩) (fun _ _ _ _ _ => (qgv_name 9 hN)) (fun _ _ _ _ _ => (qts_one (qt_cmp (or_notIn hr) (qr_v 9) (qr_v 4)))) (fun _ _ _ _ _ => (qe_v 9))) (qss_cons (qs_for hp rfl (qi_seq (qe_v 3)) (qg_name 6 hN) (qss_cons (qs_if (qt_not (qt_tru (QE.rd (qe_call f__law_is_pair (hr.mono (by decide)) tk (qa_val (qe_v 6) qa_nil))))) (qss_cons (qs_ret qe_bl) qss_nil) qss_nil) (qss_cons (qs_set 7 hN (qe_ix ix_p (qr_v 6) (QE.rd qe_int))) (qss_cons (qs_if (QW.qt (qw_or (qt_cmp or_lt (qr_v 7) (QE.rd qe_int)) (qw_or1 (qt_cmp or_ge (qr_v 7) (QE.rd (qe_bi cr_len (qa_bor (qr_v 0) qa_nil) T.n_len)))))) (qss_cons (qs_ret qe_bl) qss_nil) qss_nil) (qss_frz 5 (qss_cons (qs_set 8 hN (qe_call f__law_lone (hr.mono (by decide)) tk (qa_val (qe_ix ix_p (qr_v 0) (qr_v 7)) (qa_val (qe_v 5) qa_nil)))) (qss_cons (qs_if (QW.qt (qw_or (qt_cmp or_is (qr_v 8) (QE.rd qe_non)) (qw_or1 (qt_cmp (or_ne hr) (qr_v 8) (QE.rd (qe_ix ix_p (qr_v 6) (QE.rd qe_int))))))) (qss_cons (qs_ret qe_bl) qss_nil) qss_nil) (qss_cons (qs_setLc 5 (own := [("place", 9)]) rfl hN (qi_seq (qe_v 5)) (show BlkOk ["lines", "columns", "column", "order", "outside", "white", "pair", "row", "lone", "place"] (defScope (top 45)) _ _ from ⟨rfl, by decide +kernel, by decide +kernel, by decide +kernel, by decide +kernel⟩) (fun _ _ _ _ _ => (qgv_name 9 hN)) (fun _ _ _ _ _ => (qts_one (qt_cmp (or_ne hr) (qr_v 9) (qr_v 8)))) (fun _ _ _ _ _ => (qe_v 9))) (qss_end [6, 7, 8]))))))))) (qss_cons (qs_ret (qe_cmp (or_notIn hr) (qr_v 2) (qr_v 5))) qss_nil))))
theorem w__law_spoilt {f : Addr} {fd : FuncData} {dvs : List V} {kws : List (Str × V)} (T : Tops K mg w base)  (F : FunD K "_law_spoilt" "_law_spoilt" (defArgs (top 46)) (defBody (top 46)) (defScope (top 46)) dvs kws f fd) : FnOk PW w K mg base (L2.CX PW w) 3 f fd ["kind", "order", "at", "rows", "columns"] (spOf K fi__law_spoilt) := by
  have S : FnScope ["kind", "order", "at", "rows", "columns", "told", "row", "place", "pair"] ["kind", "order", "at", "rows", "columns"] (defScope (top 46)) := ⟨rfl, rfl, rfl, by decide +kernel, rfl, by decide +kernel, by decide +kernel⟩
  refine fn_rule (P := PW) (w := w) (K := K) (mg := mg) (base := base) (N := ["kind", "order", "at", "rows", "columns", "told", "row", "place", "pair"]) (ps := ["kind", "order", "at", "rows", "columns"]) (k := 2) (ms := [.val, .val, .val, .val, .val]) (own := false) (g := g__law_spoilt) F S rfl (by decide) fun cdv A outer s H E B hB hr => ?_
  have hN := S.nd
  have tk := takes_cx (P := PW) (w := w) (K := K) (mg := mg) (base := base) (N := ["kind", "order", "at", "rows", "columns", "told", "row", "place", "pair"]) (qual := "_law_spoilt") (scope := defScope (top 46)) (f := f) (cdv := cdv) (A := A) (outer := outer) (s := s) (H := H) (E := E)
  have hp := owns_cx (P := PW) (w := w) (K := K) (mg := mg) (base := base) (N := ["kind", "order", "at", "rows", "columns", "told", "row", "place", "pair"]) (qual := "_law_spoilt") (scope := defScope (top 46)) (f := f) (cdv := cdv) (A := A) (outer := outer) (s := s) (H := H) (E := E)
  exact (qss_cons (qs_setLc 5 (own := [("pair", 8)]) rfl hN (qi_seq (qe_v 1)) (show BlkOk ["kind", "order", "at", "rows", "columns", "told", "row", "place", "pair"] (defScope (top 46)) _ _ from ⟨rfl, by decide +kernel, by decide +kernel, by decide +kernel, by decide +kernel⟩) (fun _ _ _ _ _ => (qgv_name 8 hN)) (fun _ _ _ _ _ => qts_nil) (fun _ _ _ _ _ => (qe_tup (qa_val (qe_ix ix_p (qr_v 8) (QE.rd qe_int)) (qa_val (qe_ix ix_p (qr_v 8) (QE.rd qe_int)) qa_nil))))) (qss_cons (qs_if (qt_cmp (or_eq hr) (qr_v 0) (QE.rd qe_int)) (qss_cons (qs_ret qe_non) qss_nil) qss_nil) (qss_cons (qs_if (qt_cmp (or_eq hr) (qr_v 0) (QE.rd qe_int)) (qss_cons (qs_ret qe_str) qss_nil) qss_nil) (qss_cons (qs_if (qt_cmp (or_eq hr) (qr_v 0) (QE.rd qe_int)) (qss_cons (qs_ret (QO.fz (qo_op oro_add (qr_v 5) (QE.rd (QO.fz (qo_lst (qa_val (qe_tup (qa_val (qe_v 3) (qa_val qe_int qa_nil))) qa_nil))))))) qss_nil) qss_nil) (qss_cons (qs_if (qt_cmp (or_eq hr) (qr_v 0) (QE.rd qe_int)) (qss_cons (qs_ret (QO.fz (qo_op oro_add (qr_v 5) (QE.rd (QO.fz (qo_lst (qa_val (qe_tup (qa_val (qe_neg qe_int) (qa_val (qe_op or_sub (qr_v 4) (QE.rd qe_int)) qa_nil))) qa_nil))))))) qss_nil) qss_nil) (qss_cons (qs_if (qt_cmp (or_eq hr) (qr_v 0) (QE.rd qe_int)) (qss_cons (qs_ret (QO.fz (qo_op oro_add (qr_v 5) (QE.rd (QO.fz (qo_lst (qa_val qe_int qa_nil))))))) qss_nil) qss_nil) (qss_cons (qs_if (qt_cmp (or_eq hr) (QE.rd (qe_bi cr_len (qa_bor (qr_v 5) qa_nil) T.n_len)) (QE.rd qe_int)) (qss_cons (qs_ret (QO.fz (qo_op oro_add (qr_v 5) (QE.rd (QO.fz (qo_lst (qa_val (qe_tup (qa_val qe_int (qa_val qe_int qa_nil))) qa_nil))))))) qss_nil) qss_nil) (qss_cons (qs_set 6 hN (qe_ix ix_p (QE.rd (qe_ix ix_p (qr_v 5) (qr_v 2))) (QE.rd qe_int))) (qss_cons (qs_set 7 hN (qe_ix ix_p (QE.rd (qe_ix ix_p (qr_v 5) (qr_v 2))) (QE.rd qe_int))) (qss_cons (qs_if (qt_cmp (or_eq hr) (qr_v 0) (QE.rd qe_int)) (qss_cons (qs_ret (QO.fz (qo_op oro_add (QE.rd (QO.fz (qo_sliceL (qr_v 5) qp_none (qp_some (qe_v 2))))) (QE.rd (QO.fz (qo_sliceL (qr_v 5) (qp_some (qe_op or_add (qr_v 2) (QE.rd qe_int))) qp_none)))))) qss_nil) qss_nil) (qss_cons (qs_if (qt_cmp (or_eq hr) (qr_v 0) (QE.rd qe_int)) (qss_cons (qs_ret (QO.fz (qo_op oro_add (QE.rd (QO.fz (qo_op oro_add (QE.rd (QO.fz (qo_sliceL (qr_v 5) qp_none (qp_some (qe_v 2))))) (QE.rd (QO.fz (qo_lst (qa_val (qe_tup (qa_val (qe_v 6) (qa_val (qe_op or_mod (QE.rd (qe_ty cr_int (qa_bor (QE.rd (qe_op or_add (qr_v 7) (QE.rd qe_int))) qa_nil) T.n_int)) (qr_v 4)) qa_nil))) qa_nil))))))) (QE.rd (QO.fz (qo_sliceL (qr_v 5) (qp_some (qe_op or_add (qr_v 2) (QE.rd qe_int))) qp_none)))))) qss_nil) qss_nil) (qss_cons (qs_if (qt_cmp (or_eq hr) (qr_v 0) (QE.rd qe_int)) (qss_cons (qs_ret (QO.fz (qo_op oro_add (QE.rd (QO.fz (qo_op oro_add (QE.rd (QO.fz (qo_sliceL (qr_v 5) qp_none (qp_some (qe_v 2))))) (QE.rd (QO.fz (qo_lst (qa_val (qe_tup (qa_val (qe_op or_mod (QE.rd (qe_ty cr_int (qa_bor (QE.rd (qe_op or_add (qr_v 6) (QE.rd qe_int))) qa_nil) T.n_int)) (qr_v 3)) (qa_val (qe_v 7) qa_nil))) qa_nil))))))) (QE.rd (QO.fz (qo_sliceL (qr_v 5) (qp_some (qe_op or_add (qr_v 2) (QE.rd qe_int))) qp_none)))))) qss_nil) qss_nil) (qss_cons (qs_if (qt_cmp (or_eq hr) (qr_v 0) (QE.rd qe_int)) (qss_cons (qs_ret (QO.fz (qo_op oro_add (QE.rd (QO.fz (qo_op oro_add (QE.rd (QO.fz (qo_sliceL (qr_v 5) qp_none (qp_some (qe_v 2))))) (QE.rd (QO.fz (qo_lst (qa_val (qe_tup (qa_val (qe_v 6) (qa_val (qe_v 7) qa_nil))) (qa_val (qe_tup (qa_val (qe_v 6) (qa_val (qe_v 7) qa_nil))) qa_nil)))))))) (QE.rd (QO.fz (qo_sliceL (qr_v 5) (qp_some (qe_op or_add (qr_v 2) (QE.rd qe_int))) qp_none)))))) qss_nil) qss_nil) (qss_cons (qs_if (qt_cmp (or_eq hr) (qr_v 0) (QE.rd qe_int)) (qss_cons (qs_ret (QO.fz (qo_op oro_add (QE.rd (QO.fz (qo_op oro_add (QE.rd (QO.fz (qo_sliceL (qr_v 5) qp_none (qp_some (qe_v 2))))) (QE.rd (QO.fz (qo_lst (qa_val (qe_tup (qa_val (qe_v 6) (qa_val (qe_v 7) (qa_val qe_int qa_nil)))) qa_nil))))))) (QE.rd (QO.fz (qo_sliceL (qr_v 5) (qp_some (qe_op or_add (qr_v 2) (QE.rd qe_int))) qp_none)))))) qss_nil) qss_nil) (qss_cons (qs_if (qt_cmp (or_eq hr) (qr_v 0) (QE.rd qe_int)) (qss_cons (qs_ret (QO.fz (qo_op oro_add (QE.rd (QO.fz (qo_op oro_add (QE.rd (QO.fz (qo_sliceL (qr_v 5) qp_none (qp_some (qe_v 2))))) (QE.rd (QO.fz (qo_lst (qa_val (qe_tup (qa_val (qe_op or_sub (qr_v 6) (qr_v 3)) (qa_val (qe_v 7) qa_nil))) qa_nil))))))) (QE.rd (QO.fz (qo_sliceL (qr_v 5) (qp_some (qe_op or_add (qr_v 2) (QE.rd qe_int))) qp_none)))))) qss_nil) qss_nil) (qss_cons (qs_if (qt_cmp (or_eq hr) (qr_v 0) (QE.rd qe_int)) (qss_cons (qs_ret (QO.fz (qo_op oro_add (QE.rd (QO.fz (qo_op oro_add (QE.rd (QO.fz (qo_sliceL (qr_v 5) qp_none (qp_some (qe_v 2))))) (QE.rd (QO.fz (qo_lst (qa_val (qe_tup (qa_val (qe_v 6) (qa_val (qe_op or_sub (qr_v 7) (qr_v 4)) qa_nil))) qa_nil))))))) (QE.rd (QO.fz (qo_sliceL (qr_v 5) (qp_some (qe_op or_add (qr_v 2) (QE.rd qe_int))) qp_none)))))) qss_nil) qss_nil) (qss_cons (qs_if (qt_cmp (or_eq hr) (qr_v 0) (QE.rd qe_int)) (qss_cons (qs_ret (QO.fz (qo_op oro_add (QE.rd (QO.fz (qo_op oro_add (QE.rd (QO.fz (qo_sliceL (qr_v 5) qp_none (qp_some (qe_v 2))))) (QE.rd (QO.fz (qo_lst (qa_val (qe_tup (qa_val (qe_cmp (or_eq hr) (qr_v 6) (QE.rd qe_int)) (qa_val (qe_v 7) qa_nil))) qa_nil))))))) (QE.rd (QO.fz (qo_sliceL (qr_v 5) (qp_some (qe_op or_add (qr_v 2) (QE.rd qe_int))) qp_none)))))) qss_nil) qss_nil) (qss_cons (qs_if (qt_cmp (or_eq hr) (qr_v 0) (QE.rd qe_int)) (qss_frz 5 (qss_cons (qs_ret (qe_ty cr_tuple (qa_bor (QE.rd (QO.fz (qo_lc (own := [("pair", 8)]) rfl hN (qi_seq (qe_v 5)) (show BlkOk ["kind", "order", "at", "rows", "columns", "told", "row", "place", "pair"] (defScope (top 46)) _ _ from ⟨rfl, by decide +kernel, by decide +kernel, by decide +kernel, by decide +kernel⟩) (fun _ _ _ _ _ => (qgv_name 8 hN)) (fun _ _ _ _ _ => qts_nil) (fun _ _ _ _ _ => (QO.fz (qo_lst (qa_val (qe_ix ix_p (qr_v 8) (QE.rd qe_int)) (qa_val (qe_ix ix_p (qr_v 8) (QE.rd qe_int)) qa_nil)))))))) qa_nil) T.n_tuple)) qss_nil)) qss_nil) (qss_cons (qs_if (qt_cmp or_lt (QE.rd (qe_op or_add (qr_v 2) (QE.rd qe_int))) (QE.rd (qe_bi cr_len (qa_bor (qr_v 5) qa_nil) T.n_len))) (qss_cons (qs_ret (QO.fz (qo_op oro_add (QE.rd (QO.fz (qo_op oro_add (QE.rd (QO.fz (qo_sliceL (qr_v 5) qp_none (qp_some (qe_v 2))))) (QE.rd (QO.fz (qo_lst (qa_val (qe_ix ix_p (qr_v 5) (QE.rd (qe_op or_add (qr_v 2) (QE.rd qe_int)))) (qa_val (qe_ix ix_p (qr_v 5) (qr_v 2)) qa_nil)))))))) (QE.rd (QO.fz (qo_sliceL (qr_v 5) (qp_some (qe_op or_add (qr_v 2) (QE.rd qe_int))) qp_none)))))) qss_nil) qss_nil) (qss_frz 5 (qss_cons (qs_ret (qe_v 5)) qss_nil)))))))))))))))))))))
theorem w__law_papers_kept {f : Addr} {fd : FuncData} {dvs : List V} {kws : List (Str × V)} (T : Tops K mg w base) (f__law_drawn_order : FnB PW w K mg base "_law_drawn_order" fi__law_drawn_order [] 4) (f__law_judged : FnB PW w K mg base "_law_judged" fi__law_judged [] 4) (f__law_next : FnB PW w K mg base "_law_next" fi__law_next [] 3) (f__law_spoilt : FnB PW w K mg base "_law_spoilt" fi__law_spoilt [] 3) (f_shows_forced : FnB PW w K mg base "shows_forced" fi_shows_forced [] 7) (k_Table_init : FnK PW w K mg base "Table" fi_Table_init [] 6) (kk_Forcing_init : FnKK PW w K mg base "Forcing" fi_Forcing_init 1 ["told"] 6) (F : FunD K "_law_papers_kept" "_law_papers_kept" (defArgs (top 47)) (defBody (top 47)) (defScope (top 47)) dvs kws f fd) : FnOk PW w K mg base (L2.CX PW w) 8 f fd ["stream", "lines", "columns", "outside"] (spOf K fi__law_papers_kept) := by
  have S : FnScope ["stream", "lines", "columns", "outside", "table", "rows", "order", "first", "column", "kind", "due", "paper", "at", "bent", "answer"] ["stream", "lines", "columns", "outside"] (defScope (top 47)) := ⟨rfl, rfl, rfl, by decide +kernel, rfl, by decide +kernel, by decide +kernel⟩
  refine fn_rule (P := PW) (w := w) (K := K) (mg := mg) (base := base) (N := ["stream", "lines", "columns", "outside", "table", "rows", "order", "first", "column", "kind", "due", "paper", "at", "bent", "answer"]) (ps := ["stream", "lines", "columns", "outside"]) (k := 7) (ms := [.mu, .val, .val, .val]) (own := false) (g := g__law_papers_kept) F S rfl (by decide) fun cdv A outer s H E B hB hr => ?_
  have hN := S.nd
  have tk := takes_cx (P := PW) (w := w) (K := K) (mg := mg) (base := base) (N := ["stream", "lines", "columns", "outside", "table", "rows", "order", "first", "column", "kind", "due", "paper", "at", "bent", "answer"]) (qual := "_law_papers_kept") (scope := defScope (top 47)) (f := f) (cdv := cdv) (A := A) (outer := outer) (s := s) (H := H) (E := E)
  have hp := owns_cx (P := PW) (w := w) (K := K) (mg := mg) (base := base) (N := ["stream", "lines", "columns", "outside", "table", "rows", "order", "first", "column", "kind", "due", "paper", "at", "bent", "answer"]) (qual := "_law_papers_kept") (scope := defScope (top 47)) (f := f) (cdv := cdv) (A := A) (outer := outer) (s := s) (H := H) (E := E)
  exact (qss_cons (qs_set 4 hN (QO.fz (qo_make k_Table_init (hr.mono (by decide)) tk (qa_val (qe_v 2) (qa_val (QO.fz (qo_ty (cr_list rfl) (qa_bor (qr_v 1) qa_nil) T.n_list)) qa_nil))))) (qss_cons (qs_set 5 hN (qe_bi cr_len (qa_bor (qr_v 1) qa_nil) T.n_len)) (qss_cons (qs_set 6 hN (qe_call f__law_drawn_order (hr.mono (by decide)) tk (qa_mu 0 (qa_val (qe_v 1) (qa_val (qe_v 2) (qa_val (qe_v 3) qa_nil)))))) (qss_cons (qs_set 7 hN (qe_fld T.fo_Forcing_order (QE.rd (QO.fz (qo_makeK kk_Forcing_init (hr.mono (by decide)) tk (qa_val (qe_v 4) qa_nil) (qk_cons (QO.fz (qo_ty (cr_list rfl) (qa_bor (qr_v 3) qa_nil) T.n_list)) qk_nil)))))) (qss_cons (qs_for hp rfl (qi_range1 (qa_val (qe_v 2) qa_nil) T.n_range) (qg_name 8 hN) (qss_cons (qs_set 10 hN (qe_call f__law_judged (hr.mono (by decide)) tk (qa_val (qe_v 1) (qa_val (qe_v 2) (qa_val (qe_v 8) (qa_val (qe_v 6) (qa_val (qe_v 3) qa_nil))))))) (qss_cons (qs_for hp rfl (qi_seq (QO.fz (qo_lst (qa_val (QO.fz (qo_ty (cr_list rfl) (qa_bor (qr_v 6) qa_nil) T.n_list)) (qa_val (qe_ty cr_tuple (qa_bor (qr_v 6) qa_nil) T.n_tuple) (qa_val (qe_v 7) qa_nil)))))) (qg_name 11 hN) (qss_cons (qs_set 14 hN (qe_call f_shows_forced (hr.mono (by decide)) tk (qa_val (qe_v 4) (qa_val (qe_v 8) (qa_val (qe_v 11) (qa_val (QO.fz (qo_ty (cr_list rfl) (qa_bor (qr_v 3) qa_nil) T.n_list)) qa_nil)))))) (qss_cons (qs_if (QW.qt (qw_or (qt_not (qt_tru (QE.rd (qe_isi (qr_v 14) T.n_isinstance T.n_bool)))) (qw_or1 (qt_cmp (or_ne hr) (qr_v 14) (qr_v 10))))) (qss_cons (qs_ret qe_bl) qss_nil) qss_nil) (qss_end [11, 14])))) (qss_end [8, 10, 11, 14])))) (qss_cons (qs_if (qt_cmp (or_eq hr) (qr_v 2) (QE.rd qe_int)) (qss_cons (qs_ret qe_bl) qss_nil) qss_nil) (qss_cons (qs_for hp rfl (qi_range1 (qa_val qe_int qa_nil) T.n_range) (qg_name 9 hN) (qss_cons (qs_set 12 hN qe_int) (qss_cons (qs_if (qt_cmp or_gt (QE.rd (qe_bi cr_len (qa_bor (qr_v 6) qa_nil) T.n_len)) (QE.rd qe_int)) (qss_cons (qs_set 12 hN (qe_call f__law_next (hr.mono (by decide)) tk (qa_mu 0 (qa_val (qe_bi (cr_min2 rfl) (qa_bor (QE.rd qe_int) (qa_bor (QE.rd (qe_bi cr_len (qa_bor (qr_v 6) qa_nil) T.n_len)) qa_nil)) T.n_min) qa_nil)))) qss_nil) qss_nil) (qss_cons (qs_set 8 hN (qe_call f__law_next (hr.mono (by decide)) tk (qa_mu 0 (qa_val (qe_v 2) qa_nil)))) (qss_cons (qs_if (QW.qt (qw_and (qt_cmp or_gt (QE.rd (qe_bi cr_len (qa_bor (qr_v 6) qa_nil) T.n_len)) (QE.rd qe_int)) (qw_and1 (qt_cmp or_gt (QE.rd (qe_call f__law_next (hr.mono (by decide)) tk (qa_mu 0 (qa_val qe_int qa_nil)))) (QE.rd qe_int))))) (qss_cons (qs_set 8 hN (qe_ix ix_p (QE.rd (qe_ix ix_p (qr_v 6) (QE.rd (qe_call f__law_next (hr.mono (by decide)) tk (qa_mu 0 (qa_val (qe_bi (cr_min2 rfl) (qa_bor (QE.rd qe_int) (qa_bor (QE.rd (qe_bi cr_len (qa_bor (qr_v 6) qa_nil) T.n_len)) qa_nil)) T.n_min) qa_nil)))))) (QE.rd qe_int))) qss_nil) qss_nil) (qss_cons (qs_set 13 hN (qe_call f__law_spoilt (hr.mono (by decide)) tk (qa_val (qe_v 9) (qa_val (qe_v 6) (qa_val (qe_v 12) (qa_val (qe_v 5) (qa_val (qe_v 2) qa_nil))))))) (qss_cons (qs_set 14 hN (qe_call f_shows_forced (hr.mono (by decide)) tk (qa_val (qe_v 4) (qa_val (qe_v 8) (qa_val (qe_v 13) (qa_val (qe_ty cr_tuple (qa_bor (qr_v 3) qa_nil) T.n_tuple) qa_nil)))))) (qss_cons (qs_if (qt_not (qt_tru (QE.rd (qe_isi (qr_v 14) T.n_isinstance T.n_bool)))) (qss_cons (qs_ret qe_bl) qss_nil) qss_nil) (qss_cons (qs_if (qt_cmp (or_ne hr) (qr_v 14) (QE.rd (qe_call f__law_judged (hr.mono (by decide)) tk (qa_val (qe_v 1) (qa_val (qe_v 2) (qa_val (qe_v 8) (qa_val (qe_v 13) (qa_val (qe_v 3) qa_nil)))))))) (qss_cons (qs_ret qe_bl) qss_nil) qss_nil) (qss_end [9, 12, 8, 13, 14])))))))))) (qss_cons (qs_ret (qe_cmp (or_eq hr) (QE.rd (QO.fz (qo_ty (cr_list rfl) (qa_bor (QE.rd (qe_fld T.fo_Table_lines (qr_v 4))) qa_nil) T.n_list))) (qr_v 1))) qss_nil))))))))
theorem w__law_refusal {f : Addr} {fd : FuncData} {dvs : List V} {kws : List (Str × V)} (T : Tops K mg w base) (f_shows_forced : FnB PW w K mg base "shows_forced" fi_shows_forced [] 7) (F : FunD K "_law_refusal" "_law_refusal" (defArgs (top 48)) (defBody (top 48)) (defScope (top 48)) dvs kws f fd) : FnOk PW w K mg base (L2.CX PW w) 8 f fd ["table", "column", "order", "lot"] (spOf K fi__law_refusal) := by
  have S : FnScope ["table", "column", "order", "lot", "found", "lot_error", "place_error"] ["table", "column", "order", "lot"] (defScope (top 48)) := ⟨rfl, rfl, rfl, by decide +kernel, rfl, by decide +kernel, by decide +kernel⟩
  refine fn_rule (P := PW) (w := w) (K := K) (mg := mg) (base := base) (N := ["table", "column", "order", "lot", "found", "lot_error", "place_error"]) (ps := ["table", "column", "order", "lot"]) (k := 7) (ms := [.val, .val, .val, .val]) (own := false) (g := g__law_refusal) F S rfl (by decide) fun cdv A outer s H E B hB hr => ?_
  have hN := S.nd
  have tk := takes_cx (P := PW) (w := w) (K := K) (mg := mg) (base := base) (N := ["table", "column", "order", "lot", "found", "lot_error", "place_error"]) (qual := "_law_refusal") (scope := defScope (top 48)) (f := f) (cdv := cdv) (A := A) (outer := outer) (s := s) (H := H) (E := E)
  have hp := owns_cx (P := PW) (w := w) (K := K) (mg := mg) (base := base) (N := ["table", "column", "order", "lot", "found", "lot_error", "place_error"]) (qual := "_law_refusal") (scope := defScope (top 48)) (f := f) (cdv := cdv) (A := A) (outer := outer) (s := s) (H := H) (E := E)
  exact (qss_cons (qs_set 4 hN (qe_tup (qa_val qe_str (qa_val qe_int qa_nil)))) (qss_cons (qs_try T.exm rfl rfl hN tk (fun _ _ _ tk hp => (qss_cons (qs_expr (qe_call f_shows_forced (hr.mono (by decide)) tk (qa_val (qe_v 0) (qa_val (qe_v 1) (qa_val (qe_v 2) (qa_val (qe_v 3) qa_nil)))))) qss_nil)) (.as (i := 5) ⟨rfl, by decide, .inl (T.g_BadLot)⟩ rfl rfl (fun _ _ _ _ _ hz hf => (qss_cons (qs_set 4 hN (qe_tup (qa_val qe_str (qa_val (qe_xf 5 ["BadLot"] (T.xg_BadLot_place) hz hf) qa_nil)))) qss_nil)) (.as (i := 6) ⟨rfl, by decide, .inl (T.g_NoPlace)⟩ rfl rfl (fun _ _ _ _ _ hz hf => (qss_cons (qs_set 4 hN (qe_tup (qa_val qe_str (qa_val (qe_xf 6 ["NoPlace"] (T.xg_NoPlace_place) hz hf) qa_nil)))) qss_nil)) .nil))) (qss_cons (qs_ret (qe_v 4)) qss_nil)))
theorem w__law_refusals_kept {f : Addr} {fd : FuncData} {dvs : List V} {kws : List (Str × V)} (T : Tops K mg w base) (f__law_next : FnB PW w K mg base "_law_next" fi__law_next [] 3) (f__law_refusal : FnB PW w K mg base "_law_refusal" fi__law_refusal [] 8) (k_Table_init : FnK PW w K mg base "Table" fi_Table_init [] 6) (F : FunD K "_law_refusals_kept" "_law_refusals_kept" (defArgs (top 49)) (defBody (top 49)) (defScope (top 49)) dvs kws f fd) : FnOk PW w K mg base (L2.CX PW w) 9 f fd ["stream", "size", "lines"] (spOf K fi__law_refusals_kept) := by
  have S : FnScope ["stream", "size", "lines", "table", "kind", "column", "place", "inside", "order"] ["stream", "size", "lines"] (defScope (top 49)) := ⟨rfl, rfl, rfl, by decide +kernel, rfl, by decide +kernel, by decide +kernel⟩
  refine fn_rule (P := PW) (w := w) (K := K) (mg := mg) (base := base) (N := ["stream", "size", "lines", "table", "kind", "column", "place", "inside", "order"]) (ps := ["stream", "size", "lines"]) (k := 8) (ms := [.mu, .val, .val]) (own := false) (g := g__law_refusals_kept) F S rfl (by decide) fun cdv A outer s H E B hB hr => ?_
  have hN := S.nd
  have tk := takes_cx (P := PW) (w := w) (K := K) (mg := mg) (base := base) (N := ["stream", "size", "lines", "table", "kind", "column", "place", "inside", "order"]) (qual := "_law_refusals_kept") (scope := defScope (top 49)) (f := f) (cdv := cdv) (A := A) (outer := outer) (s := s) (H := H) (E := E)
  have hp := owns_cx (P := PW) (w := w) (K := K) (mg := mg) (base := base) (N := ["stream", "size", "lines", "table", "kind", "column", "place", "inside", "order"]) (qual := "_law_refusals_kept") (scope := defScope (top 49)) (f := f) (cdv := cdv) (A := A) (outer := outer) (s := s) (H := H) (E := E)
  exact (qss_cons (qs_set 3 hN (QO.fz (qo_make k_Table_init (hr.mono (by decide)) tk (qa_val (qe_v 1) (qa_val (QO.fz (qo_ty (cr_list rfl) (qa_bor (qr_v 2) qa_nil) T.n_list)) qa_nil))))) (qss_cons (qs_set 4 hN (qe_call f__law_next (hr.mono (by decide)) tk (qa_mu 0 (qa_val qe_int qa_nil)))) (qss_cons (qs_set 5 hN (qe_ix ix_p (QE.rd (QO.fz (qo_lst (qa_val (qe_v 1) (qa_val (qe_neg qe_int) (qa_val qe_non (qa_val qe_bl (qa_val (qe_op or_pow (QE.rd qe_int) (QE.rd qe_int)) qa_nil)))))))) (qr_v 4))) (qss_cons (qs_set 6 hN (qe_ix ix_p (QE.rd (QO.fz (qo_lst (qa_val (qe_v 1) (qa_val (qe_neg qe_int) (qa_val qe_int (qa_val qe_int (qa_val (qe_op or_pow (QE.rd qe_int) (QE.rd qe_int)) qa_nil)))))))) (qr_v 4))) (qss_cons (qs_set 7 hN (qe_call f__law_next (hr.mono (by decide)) tk (qa_mu 0 (qa_val (qe_v 1) qa_nil)))) (qss_cons (qs_for hp rfl (qi_seq (QO.fz (qo_lst (qa_val qe_non (qa_val (QO.fz (qo_lst qa_nil)) (qa_val (QO.fz (qo_lst (qa_val (qe_tup (qa_val qe_int (qa_val qe_int qa_nil))) qa_nil))) qa_nil)))))) (qg_name 8 hN) (qss_cons (qs_if (qt_cmp (or_ne hr) (QE.rd (qe_call f__law_refusal (hr.mono (by decide)) tk (qa_val (qe_v 3) (qa_val (qe_v 5) (qa_val (qe_v 8) (qa_val (QO.fz (qo_lst (qa_val (qe_v 7) (qa_val (qe_v 7) qa_nil)))) qa_nil)))))) (QE.rd (qe_tup (qa_val qe_str (qa_val (qe_v 6) qa_nil))))) (qss_cons (qs_ret qe_bl) qss_nil) qss_nil) (qss_cons (qs_if (qt_cmp (or_ne hr) (QE.rd (qe_call f__law_refusal (hr.mono (by decide)) tk (qa_val (qe_v 3) (qa_val (qe_v 7) (qa_val (qe_v 8) (qa_val (QO.fz (qo_lst (qa_val (qe_v 7) (qa_val (qe_v 7) qa_nil)))) qa_nil)))))) (QE.rd (qe_tup (qa_val qe_str (qa_val qe_int qa_nil))))) (qss_cons (qs_ret qe_bl) qss_nil) qss_nil) (qss_cons (qs_if (qt_cmp (or_ne hr) (QE.rd (qe_call f__law_refusal (hr.mono (by decide)) tk (qa_val (qe_v 3) (qa_val (qe_v 7) (qa_val (qe_v 8) (qa_val (QO.fz (qo_lst (qa_val (qe_v 1) qa_nil))) qa_nil)))))) (QE.rd (qe_tup (qa_val qe_str (qa_val qe_int qa_nil))))) (qss_cons (qs_ret qe_bl) qss_nil) qss_nil) (qss_cons (qs_if (qt_cmp (or_ne hr) (QE.rd (qe_call f__law_refusal (hr.mono (by decide)) tk (qa_val (qe_v 3) (qa_val (qe_v 7) (qa_val (qe_v 8) (qa_val qe_non qa_nil)))))) (QE.rd (qe_tup (qa_val qe_str (qa_val (qe_neg qe_int) qa_nil))))) (qss_cons (qs_ret qe_bl) qss_nil) qss_nil) (qss_cons (qs_if (qt_cmp (or_ne hr) (QE.rd (qe_call f__law_refusal (hr.mono (by decide)) tk (qa_val (qe_v 3) (qa_val (qe_v 7) (qa_val (qe_v 8) (qa_val (QO.fz (qo_lst (qa_val (qe_v 7) qa_nil))) qa_nil)))))) (QE.rd (qe_tup (qa_val qe_str (qa_val qe_int qa_nil))))) (qss_cons (qs_ret qe_bl) qss_nil) qss_nil) (qss_end [8]))))))) (qss_cons (qs_ret qe_bl) qss_nil)))))))
theorem w_law {f : Addr} {fd : FuncData} {dvs : List V} {kws : List (Str × V)} (T : Tops K mg w base) (f__law_drawn_order : FnB PW w K mg base "_law_drawn_order" fi__law_drawn_order [] 4) (f__law_ladder : FnB PW w K mg base "_law_ladder" fi__law_ladder [] 4) (f__law_lot : FnB PW w K mg base "_law_lot" fi__law_lot [] 4) (f__law_marks : FnB PW w K mg base "_law_marks" fi__law_marks [] 5) (f__law_next : FnB PW w K mg base "_law_next" fi__law_next [] 3) (f__law_papers_kept : FnB PW w K mg base "_law_papers_kept" fi__law_papers_kept [] 8) (f__law_refusals_kept : FnB PW w K mg base "_law_refusals_kept" fi__law_refusals_kept [] 9) (f__law_stream : FnB PW w K mg base "_law_stream" fi__law_stream [] 3) (f_shows_forced_d1 : FnB PW w K mg base "shows_forced" fi_shows_forced [.tup []] 7) (k_Table_init : FnK PW w K mg base "Table" fi_Table_init [] 6) (F : FunD K "law" "law" (defArgs (top 50)) (defBody (top 50)) (defScope (top 50)) dvs kws f fd) : FnOk PW w K mg base (L2.CX PW w) 10 f fd ["script"] (spOf K fi_law) := by
  have S : FnScope ["script", "stream", "columns", "rows", "lines", "outside", "size", "ladder", "table", "order", "column"] ["script"] (defScope (top 50)) := ⟨rfl, rfl, rfl, by decide +kernel, rfl, by decide +kernel, by decide +kernel⟩
  refine fn_rule (P := PW) (w := w) (K := K) (mg := mg) (base := base) (N := ["script", "stream", "columns", "rows", "lines", "outside", "size", "ladder", "table", "order", "column"]) (ps := ["script"]) (k := 9) (ms := [.val]) (own := false) (g := g_law) F S rfl (by decide) fun cdv A outer s H E B hB hr => ?_
  have hN := S.nd
  have tk := takes_cx (P := PW) (w := w) (K := K) (mg := mg) (base := base) (N := ["script", "stream", "columns", "rows", "lines", "outside", "size", "ladder", "table", "order", "column"]) (qual := "law") (scope := defScope (top 50)) (f := f) (cdv := cdv) (A := A) (outer := outer) (s := s) (H := H) (E := E)
  have hp := owns_cx (P := PW) (w := w) (K := K) (mg := mg) (base := base) (N := ["script", "stream", "columns", "rows", "lines", "outside", "size", "ladder", "table", "order", "column"]) (qual := "law") (scope := defScope (top 50)) (f := f) (cdv := cdv) (A := A) (outer := outer) (s := s) (H := H) (E := E)
  exact (qss_cons (qs_setO 1 hN (qo_call f__law_stream (hr.mono (by decide)) tk (qa_val (qe_v 0) qa_nil))) (qss_mt 1 (hB rfl) (qss_cons (qs_set 2 hN (qe_ix ix_p (QE.rd (QO.fz (qo_lst (qa_val qe_int (qa_val qe_int (qa_val qe_int (qa_val qe_int (qa_val qe_int (qa_val qe_int (qa_val qe_int (qa_val qe_int (qa_val qe_int (qa_val qe_int qa_nil))))))))))))) (QE.rd (qe_call f__law_next (hr.mono (by decide)) tk (qa_mu 1 (qa_val qe_int qa_nil)))))) (qss_cons (qs_set 3 hN (qe_ix ix_p (QE.rd (QO.fz (qo_lst (qa_val qe_int (qa_val qe_int (qa_val qe_int (qa_val qe_int (qa_val qe_int (qa_val qe_int (qa_val qe_int (qa_val qe_int (qa_val qe_int (qa_val qe_int qa_nil))))))))))))) (QE.rd (qe_call f__law_next (hr.mono (by decide)) tk (qa_mu 1 (qa_val qe_int qa_nil)))))) (qss_cons (qs_set 4 hN (qe_call f__law_marks (hr.mono (by decide)) tk (qa_mu 1 (qa_val (qe_v 3) (qa_val (qe_v 2) qa_nil))))) (qss_cons (qs_set 5 hN (qe_call f__law_lot (hr.mono (by decide)) tk (qa_mu 1 (qa_val (qe_v 2) qa_nil)))) (qss_cons (qs_if (qt_not (qt_tru (QE.rd (qe_call f__law_papers_kept (hr.mono (by decide)) tk (qa_mu 1 (qa_val (qe_v 4) (qa_val (qe_v 2) (qa_val (qe_v 5) qa_nil)))))))) (qss_cons (qs_ret qe_bl) qss_nil) qss_nil) (qss_cons (qs_set 6 hN (qe_op or_add (QE.rd qe_int) (QE.rd (qe_call f__law_next (hr.mono (by decide)) tk (qa_mu 1 (qa_val qe_int qa_nil)))))) (qss_cons (qs_set 7 hN (qe_call f__law_ladder (hr.mono (by decide)) tk (qa_mu 1 (qa_val (qe_v 6) qa_nil)))) (qss_cons (qs_if (qt_not (qt_tru (QE.rd (qe_call f__law_papers_kept (hr.mono (by decide)) tk (qa_mu 1 (qa_val (qe_v 7) (qa_val (qe_v 6) (qa_val (QO.fz (qo_lst qa_nil)) qa_nil)))))))) (qss_cons (qs_ret qe_bl) qss_nil) qss_nil) (qss_cons (qs_set 8 hN (QO.fz (qo_make k_Table_init (hr.mono (by decide)) tk (qa_val (qe_v 6) (qa_val (QO.fz (qo_ty (cr_list rfl) (qa_bor (qr_v 7) qa_nil) T.n_list)) qa_nil))))) (qss_cons (qs_set 9 hN (qe_call f__law_drawn_order (hr.mono (by decide)) tk (qa_mu 1 (qa_val (qe_v 7) (qa_val (qe_v 6) (qa_val (QO.fz (qo_lst qa_nil)) qa_nil)))))) (qss_cons (qs_if (qt_cmp (or_ne hr) (QE.rd (qe_bi cr_len (qa_bor (qr_v 9) qa_nil) T.n_len)) (qr_v 6)) (qss_cons (qs_ret qe_bl) qss_nil) qss_nil) (qss_cons (qs_for hp rfl (qi_range1 (qa_val (qe_v 6) qa_nil) T.n_range) (qg_name 10 hN) (qss_cons (qs_if (qt_cmp or_isn (QE.rd (qe_call f_shows_forced_d1 (hr.mono (by decide)) tk (qa_val (qe_v 8) (qa_val (qe_v 10) (qa_val (QO.fz (qo_ty (cr_list rfl) (qa_bor (qr_v 9) qa_nil) T.n_list)) qa_nil))))) (QE.rd qe_bl)) (qss_cons (qs_ret qe_bl) qss_nil) qss_nil) (qss_cons (qs_if (qt_cmp or_isn (QE.rd (qe_call f_shows_forced_d1 (hr.mono (by decide)) tk (qa_val (qe_v 8) (qa_val (qe_v 10) (qa_val (QO.fz (qo_ty (cr_list rfl) (qa_bor (QE.rd (QO.fz (qo_sliceL (qr_v 9) qp_none (qp_some qe_int)))) qa_nil) T.n_list)) qa_nil))))) (QE.rd qe_bl)) (qss_cons (qs_ret qe_bl) qss_nil) qss_nil) (qss_end [10])))) (qss_cons (qs_if (qt_cmp or_isn (QE.rd (qe_call f_shows_forced_d1 (hr.mono (by decide)) tk (qa_val (qe_v 8) (qa_val (qe_ix ix_p (QE.rd (qe_ix ix_p (qr_v 9) (QE.rd (qe_op or_sub (qr_v 6) (QE.rd qe_int))))) (QE.rd qe_int)) (qa_val (QO.fz (qo_sliceL (qr_v 9) qp_none (qp_some (qe_op or_sub (qr_v 6) (QE.rd qe_int))))) qa_nil))))) (QE.rd qe_bl)) (qss_cons (qs_ret qe_bl) qss_nil) qss_nil) (qss_cons (qs_ret (qe_call f__law_refusals_kept (hr.mono (by decide)) tk (qa_mu 1 (qa_val (qe_v 6) (qa_val (qe_v 7) qa_nil))))) qss_nil))))))))))))))))
end
end KI.K10

/-! part H10 -/
set_option Elab.async false
set_option linter.all false
set_option maxRecDepth 100000
set_option maxHeartbeats 0
namespace KI.K10
open PySem PySem.Spec PySem.Calls PyProof.Rows L2 KI

def d_is_whole : He.DefD := ⟨("is_whole", none), "is_whole", "is_whole", defArgs (top 9), defBody (top 9), defScope (top 9), [], []⟩
def d_place_of : He.DefD := ⟨("place_of", none), "place_of", "place_of", defArgs (top 11), defBody (top 11), defScope (top 11), [], []⟩
def d_size_of : He.DefD := ⟨("size_of", none), "size_of", "size_of", defArgs (top 10), defBody (top 10), defScope (top 10), [], []⟩
def d_lot_of : He.DefD := ⟨("lot_of", none), "lot_of", "lot_of", defArgs (top 12), defBody (top 12), defScope (top 12), [], []⟩
def d_is_hard : He.DefD := ⟨("is_hard", none), "is_hard", "is_hard", defArgs (top 18), defBody (top 18), defScope (top 18), [], []⟩
def d_is_touched : He.DefD := ⟨("is_touched", none), "is_touched", "is_touched", defArgs (top 19), defBody (top 19), defScope (top 19), [], []⟩
def d_check_line : He.DefD := ⟨("check_line", none), "check_line", "check_line", defArgs (top 20), defBody (top 20), defScope (top 20), [], []⟩
def d_flags_of : He.DefD := ⟨("flags_of", none), "flags_of", "flags_of", defArgs (top 22), defBody (top 22), defScope (top 22), [], []⟩
def d_places_of : He.DefD := ⟨("places_of", none), "places_of", "places_of", defArgs (top 23), defBody (top 23), defScope (top 23), [], []⟩
def d_forced_now : He.DefD := ⟨("forced_now", none), "forced_now", "forced_now", defArgs (top 24), defBody (top 24), defScope (top 24), [], []⟩
def d_count_of_columns : He.DefD := ⟨("count_of_columns", none), "count_of_columns", "count_of_columns", defArgs (top 31), defBody (top 31), defScope (top 31), [], []⟩
def d_Table_init : He.DefD := ⟨("Table", some "__init__"), "__init__", "Table.__init__", defArgs (meth 32 0), defBody (meth 32 0), defScope (meth 32 0), [], []⟩
def d_Table_len : He.DefD := ⟨("Table", some "__len__"), "__len__", "Table.__len__", defArgs (meth 32 1), defBody (meth 32 1), defScope (meth 32 1), [], []⟩
def d_Table_touches : He.DefD := ⟨("Table", some "touches"), "touches", "Table.touches", defArgs (meth 32 6), defBody (meth 32 6), defScope (meth 32 6), [], []⟩
def d_Forcing_init : He.DefD := ⟨("Forcing", some "__init__"), "__init__", "Forcing.__init__", defArgs (meth 25 0), defBody (meth 25 0), defScope (meth 25 0), [], []⟩
def d_is_forcing : He.DefD := ⟨("is_forcing", none), "is_forcing", "is_forcing", defArgs (top 26), defBody (top 26), defScope (top 26), [], []⟩
def d_shows_forced : He.DefD := ⟨("shows_forced", none), "shows_forced", "shows_forced", defArgs (top 27), defBody (top 27), defScope (top 27), [.adr (He.dflAt ("shows_forced", none) 0)], []⟩
def d__law_next : He.DefD := ⟨("_law_next", none), "_law_next", "_law_next", defArgs (top 36), defBody (top 36), defScope (top 36), [], []⟩
def d__law_stream : He.DefD := ⟨("_law_stream", none), "_law_stream", "_law_stream", defArgs (top 35), defBody (top 35), defScope (top 35), [], []⟩
def d__law_lines : He.DefD := ⟨("_law_lines", none), "_law_lines", "_law_lines", defArgs (top 37), defBody (top 37), defScope (top 37), [], []⟩
def d__law_told_line : He.DefD := ⟨("_law_told_line", none), "_law_told_line", "_law_told_line", defArgs (top 38), defBody (top 38), defScope (top 38), [], []⟩
def d__law_lot : He.DefD := ⟨("_law_lot", none), "_law_lot", "_law_lot", defArgs (top 39), defBody (top 39), defScope (top 39), [], []⟩
def d__law_lone : He.DefD := ⟨("_law_lone", none), "_law_lone", "_law_lone", defArgs (top 40), defBody (top 40), defScope (top 40), [], []⟩
def d__law_marks : He.DefD := ⟨("_law_marks", none), "_law_marks", "_law_marks", defArgs (top 41), defBody (top 41), defScope (top 41), [], []⟩
def d__law_ladder : He.DefD := ⟨("_law_ladder", none), "_law_ladder", "_law_ladder", defArgs (top 42), defBody (top 42), defScope (top 42), [], []⟩
def d__law_drawn_order : He.DefD := ⟨("_law_drawn_order", none), "_law_drawn_order", "_law_drawn_order", defArgs (top 43), defBody (top 43), defScope (top 43), [], []⟩
def d__law_is_pair : He.DefD := ⟨("_law_is_pair", none), "_law_is_pair", "_law_is_pair", defArgs (top 44), defBody (top 44), defScope (top 44), [], []⟩
def d__law_judged : He.DefD := ⟨("_law_judged", none), "_law_judged", "_law_judged", defArgs (top 45), defBody (top 45), defScope (top 45), [], []⟩
def d__law_spoilt : He.DefD := ⟨("_law_spoilt", none), "_law_spoilt", "_law_spoilt", defArgs (top 46), defBody (top 46), defScope (top 46), [], []⟩
def d__law_papers_kept : He.DefD := ⟨("_law_papers_kept", none), "_law_papers_kept", "_law_papers_kept", defArgs (top 47), defBody (top 47), defScope (top 47), [], []⟩
def d__law_refusal : He.DefD := ⟨("_law_refusal", none), "_law_refusal", "_law_refusal", defArgs (top 48), defBody (top 48), defScope (top 48), [], []⟩
def d__law_refusals_kept : He.DefD := ⟨("_law_refusals_kept", none), "_law_refusals_kept", "_law_refusals_kept", defArgs (top 49), defBody (top 49), defScope (top 49), [], []⟩
def d_law : He.DefD := ⟨("law", none), "law", "law", defArgs (top 50), defBody (top 50), defScope (top 50), [], []⟩
def fn : List He.DefD := [d_is_whole, d_place_of, d_size_of, d_lot_of, d_is_hard, d_is_touched, d_check_line, d_flags_of, d_places_of, d_forced_now, d_count_of_columns, d_Table_init, d_Table_len, d_Table_touches, d_Forcing_init, d_is_forcing, d_shows_forced, d__law_next, d__law_stream, d__law_lines, d__law_told_line, d__law_lot, d__law_lone, d__law_marks, d__law_ladder, d__law_drawn_order, d__law_is_pair, d__law_judged, d__law_spoilt, d__law_papers_kept, d__law_refusal, d__law_refusals_kept, d_law]
def fa : List He.Fa := [.free "len", .free "min", .free "int", .free "tuple", .free "list", .free "sorted", .free "isinstance", .free "range", .free "enumerate", .free "bool", .free "str", .free "super", .str "NONE" ".", .str "FIRM" "f", .str "LOOSE" "l", .str "TOLD" "t", .int "MOST_COLUMNS" 600, .int "MOST_LINES" 800, .glo "is_whole", .glo "place_of", .glo "size_of", .glo "lot_of", .glo "is_hard", .glo "is_touched", .glo "check_line", .glo "flags_of", .glo "places_of", .glo "forced_now", .glo "count_of_columns", .glo "is_forcing", .glo "shows_forced", .glo "_law_next", .glo "_law_stream", .glo "_law_lines", .glo "_law_told_line", .glo "_law_lot", .glo "_law_lone", .glo "_law_marks", .glo "_law_ladder", .glo "_law_drawn_order", .glo "_law_is_pair", .glo "_law_judged", .glo "_law_spoilt", .glo "_law_papers_kept", .glo "_law_refusal", .glo "_law_refusals_kept", .glo "law", .glo "Table", .cls "Table", .mkr "Table", .noat "Table" "columns", .noat "Table" "lines", .glo "Forcing", .cls "Forcing", .mkr "Forcing", .noat "Forcing" "table", .noat "Forcing" "order", .noat "Forcing" "white", .meth "Table" "__len__", .meth "Table" "touches", .exm "BadLot" "BadLot" true, .exm "BadLot" "NoPlace" false, .exm "NoPlace" "BadLot" false, .exm "NoPlace" "NoPlace" true]
def x_NoPlace : XD := ⟨"NoPlace", "NoPlace.__init__", defArgs (meth 8 0), defBody (meth 8 0), defScope (meth 8 0), ["place"]⟩
def x_BadLot : XD := ⟨"BadLot", "BadLot.__init__", defArgs (meth 3 0), defBody (meth 3 0), defScope (meth 3 0), ["place"]⟩
def x_BadMark : XD := ⟨"BadMark", "BadMark.__init__", defArgs (meth 4 0), defBody (meth 4 0), defScope (meth 4 0), ["row", "column"]⟩
def x_TooMany : XD := ⟨"TooMany", "TooMany.__init__", defArgs (meth 7 0), defBody (meth 7 0), defScope (meth 7 0), ["most"]⟩
def x_TwoTold : XD := ⟨"TwoTold", "TwoTold.__init__", defArgs (meth 5 0), defBody (meth 5 0), defScope (meth 5 0), ["row"]⟩
def xs : List XD := [x_NoPlace, x_BadLot, x_BadMark, x_TooMany, x_TwoTold]
def ext : List (Frag → Bool) := [xcB PW.main.file x_NoPlace, xcB PW.main.file x_BadLot, xcB PW.main.file x_BadMark, xcB PW.main.file x_TooMany, xcB PW.main.file x_TwoTold, tup0B (He.dflAt ("shows_forced", none) 0)]
abbrev R : PySem.W.OpenRow := PySem.W.OpenLaw.row RW
abbrev hk : PySem.W.Hook := hookQ 5 fa fn ext xs
def ob (s : PySem.W.SharedT) : AlQ := obsQG 5 fa fn ext xs (HandSHeadRun.getT s)
theorem ob_eq (s : PySem.W.SharedT) : ob s = hk.obs s.abs := obsQG_eq (HandSHeadRun.getT_eq s)
def loose : List Str := (["_wall", "InsideError", "BadLot", "BadMark", "TwoTold", "BadText", "TooMany", "NoPlace", "is_whole", "size_of", "place_of", "lot_of", "NONE", "FIRM", "LOOSE", "TOLD", "is_hard", "is_touched", "check_line", "flags_of", "places_of", "forced_now", "Forcing", "is_forcing", "shows_forced", "MOST_COLUMNS", "MOST_LINES", "count_of_columns", "Table", "columns_read"] : List Str) ++ (["_law_stream", "_law_next", "_law_lines", "_law_told_line", "_law_lot", "_law_lone", "_law_marks", "_law_ladder", "_law_drawn_order", "_law_is_pair", "_law_judged", "_law_spoilt", "_law_papers_kept", "_law_refusal", "_law_refusals_kept"] : List Str)
theorem run (w : World) : HandSHeadRun.RunEq R (PySem.W.view R.prog [50]) hk ob 6000 loose w := by
  intro os
  kernel_rfl
section
variable {w : World} {K : Frag} {h : Heap} {mg : Str → Option Value}
theorem tops (X : K.In h) (G : h.Ns mainGlobals mg) (c : SaysQ fa fn ext xs K) (base : Heap) : Tops K mg w base := by
  have q_NoPlace := xc_of (P := PW) (ps := ["self", "place"]) (ar := "self") (aa := ((defArgs (meth 8 0)).args.getD 0 default)) (SaysQ.xd c 0 (d := x_NoPlace) rfl) (SaysQ.ext c 0 (f := xcB PW.main.file x_NoPlace) rfl) rfl rfl (fun _ _ _ _ _ _ _ us hl => match us, hl with | [_, _], _ => rfl)
  have m_NoPlace : mg "NoPlace" = some (.ref (He.ga K "NoPlace")) := PySem.W.mg_of X G q_NoPlace.2.1
  have X_NoPlace : FnX PW w K mg base "NoPlace" ["place"] := by
    obtain ⟨⟨fd, T, hb⟩, _, hx⟩ := q_NoPlace
    exact ⟨m_NoPlace, T.oex, _, fd, _, T.ini, T.tyI, fn_x1 T (He.free_ok X G (c.d.fact 11 (f := .free "super") rfl)) (hx "place" (by decide)).noN, hb⟩
  have q_BadLot := xc_of (P := PW) (ps := ["self", "place"]) (ar := "self") (aa := ((defArgs (meth 3 0)).args.getD 0 default)) (SaysQ.xd c 1 (d := x_BadLot) rfl) (SaysQ.ext c 1 (f := xcB PW.main.file x_BadLot) rfl) rfl rfl (fun _ _ _ _ _ _ _ us hl => match us, hl with | [_, _], _ => rfl)
  have m_BadLot : mg "BadLot" = some (.ref (He.ga K "BadLot")) := PySem.W.mg_of X G q_BadLot.2.1
  have X_BadLot : FnX PW w K mg base "BadLot" ["place"] := by
    obtain ⟨⟨fd, T, hb⟩, _, hx⟩ := q_BadLot
    exact ⟨m_BadLot, T.oex, _, fd, _, T.ini, T.tyI, fn_x1 T (He.free_ok X G (c.d.fact 11 (f := .free "super") rfl)) (hx "place" (by decide)).noN, hb⟩
  have q_BadMark := xc_of (P := PW) (ps := ["self", "row", "column"]) (ar := "self") (aa := ((defArgs (meth 4 0)).args.getD 0 default)) (SaysQ.xd c 2 (d := x_BadMark) rfl) (SaysQ.ext c 2 (f := xcB PW.main.file x_BadMark) rfl) rfl rfl (fun _ _ _ _ _ _ _ us hl => match us, hl with | [_, _, _], _ => rfl)
  have m_BadMark : mg "BadMark" = some (.ref (He.ga K "BadMark")) := PySem.W.mg_of X G q_BadMark.2.1
  have X_BadMark : FnX PW w K mg base "BadMark" ["row", "column"] := by
    obtain ⟨⟨fd, T, hb⟩, _, hx⟩ := q_BadMark
    exact ⟨m_BadMark, T.oex, _, fd, _, T.ini, T.tyI, fn_x2 T (He.free_ok X G (c.d.fact 11 (f := .free "super") rfl)) (hx "row" (by decide)).noN (hx "column" (by decide)).noN, hb⟩
  have q_TooMany := xc_of (P := PW) (ps := ["self", "most"]) (ar := "self") (aa := ((defArgs (meth 7 0)).args.getD 0 default)) (SaysQ.xd c 3 (d := x_TooMany) rfl) (SaysQ.ext c 3 (f := xcB PW.main.file x_TooMany) rfl) rfl rfl (fun _ _ _ _ _ _ _ us hl => match us, hl with | [_, _], _ => rfl)
  have m_TooMany : mg "TooMany" = some (.ref (He.ga K "TooMany")) := PySem.W.mg_of X G q_TooMany.2.1
  have X_TooMany : FnX PW w K mg base "TooMany" ["most"] := by
    obtain ⟨⟨fd, T, hb⟩, _, hx⟩ := q_TooMany
    exact ⟨m_TooMany, T.oex, _, fd, _, T.ini, T.tyI, fn_x1 T (He.free_ok X G (c.d.fact 11 (f := .free "super") rfl)) (hx "most" (by decide)).noN, hb⟩
  have q_TwoTold := xc_of (P := PW) (ps := ["self", "row"]) (ar := "self") (aa := ((defArgs (meth 5 0)).args.getD 0 default)) (SaysQ.xd c 4 (d := x_TwoTold) rfl) (SaysQ.ext c 4 (f := xcB PW.main.file x_TwoTold) rfl) rfl rfl (fun _ _ _ _ _ _ _ us hl => match us, hl with | [_, _], _ => rfl)
  have m_TwoTold : mg "TwoTold" = some (.ref (He.ga K "TwoTold")) := PySem.W.mg_of X G q_TwoTold.2.1
  have X_TwoTold : FnX PW w K mg base "TwoTold" ["row"] := by
    obtain ⟨⟨fd, T, hb⟩, _, hx⟩ := q_TwoTold
    exact ⟨m_TwoTold, T.oex, _, fd, _, T.ini, T.tyI, fn_x1 T (He.free_ok X G (c.d.fact 11 (f := .free "super") rfl)) (hx "row" (by decide)).noN, hb⟩
  exact {
    n_len := He.free_ok X G (c.d.fact 0 (f := .free "len") rfl)
    n_min := He.free_ok X G (c.d.fact 1 (f := .free "min") rfl)
    n_int := He.free_ok X G (c.d.fact 2 (f := .free "int") rfl)
    n_tuple := He.free_ok X G (c.d.fact 3 (f := .free "tuple") rfl)
    n_list := He.free_ok X G (c.d.fact 4 (f := .free "list") rfl)
    n_sorted := He.free_ok X G (c.d.fact 5 (f := .free "sorted") rfl)
    n_isinstance := He.free_ok X G (c.d.fact 6 (f := .free "isinstance") rfl)
    n_range := He.free_ok X G (c.d.fact 7 (f := .free "range") rfl)
    n_enumerate := He.free_ok X G (c.d.fact 8 (f := .free "enumerate") rfl)
    n_bool := He.free_ok X G (c.d.fact 9 (f := .free "bool") rfl)
    n_str := He.free_ok X G (c.d.fact 10 (f := .free "str") rfl)
    n_super := He.free_ok X G (c.d.fact 11 (f := .free "super") rfl)
    c_NONE := He.str_ok X G (c.d.fact 12 (f := .str "NONE" ".") rfl)
    c_FIRM := He.str_ok X G (c.d.fact 13 (f := .str "FIRM" "f") rfl)
    c_LOOSE := He.str_ok X G (c.d.fact 14 (f := .str "LOOSE" "l") rfl)
    c_TOLD := He.str_ok X G (c.d.fact 15 (f := .str "TOLD" "t") rfl)
    c_MOST_COLUMNS := He.int_ok X G (c.d.fact 16 (f := .int "MOST_COLUMNS" 600) rfl)
    c_MOST_LINES := He.int_ok X G (c.d.fact 17 (f := .int "MOST_LINES" 800) rfl)
    x_NoPlace := X_NoPlace
    x_BadLot := X_BadLot
    x_BadMark := X_BadMark
    x_TooMany := X_TooMany
    x_TwoTold := X_TwoTold
    fo_Table_columns := fldOk1 (He.cls_ok (c.d.fact 48 (f := .cls "Table") rfl)) (He.noat_ok (c.d.fact 50 (f := .noat "Table" "columns") rfl))
    fo_Table_lines := fldOk1 (He.cls_ok (c.d.fact 48 (f := .cls "Table") rfl)) (He.noat_ok (c.d.fact 51 (f := .noat "Table" "lines") rfl))
    fo_Forcing_table := fldOk1 (He.cls_ok (c.d.fact 53 (f := .cls "Forcing") rfl)) (He.noat_ok (c.d.fact 55 (f := .noat "Forcing" "table") rfl))
    fo_Forcing_order := fldOk1 (He.cls_ok (c.d.fact 53 (f := .cls "Forcing") rfl)) (He.noat_ok (c.d.fact 56 (f := .noat "Forcing" "order") rfl))
    fo_Forcing_white := fldOk1 (He.cls_ok (c.d.fact 53 (f := .cls "Forcing") rfl)) (He.noat_ok (c.d.fact 57 (f := .noat "Forcing" "white") rfl))
    g_BadLot := m_BadLot
    g_NoPlace := m_NoPlace
    xg_BadLot_place := fun d hd => by
      cases List.mem_singleton.mp hd
      exact q_BadLot.2.2 "place" (by decide)
    xg_NoPlace_place := fun d hd => by
      cases List.mem_singleton.mp hd
      exact q_NoPlace.2.2 "place" (by decide)
    exm := fun c' x b e => by
      unfold exmT at e
      cases z : exmL.find? fun p => p.1 == c' && p.2.1 == x with
      | none => rw [z] at e; cases e
      | some p =>
        rw [z] at e
        have e3 : p.2.2 = b := Option.some.inj e
        have h1 := List.mem_of_find?_eq_some z
        have h2 := List.find?_some z
        obtain ⟨h3, h4⟩ := He.ba h2
        have h5 : p.1 = c' := by simpa using h3
        have h6 : p.2.1 = x := by simpa using h4
        subst h5 h6 e3
        have key : ∀ p ∈ exmL, PySem.W.exmOne K (.ref (He.ga K p.1)) (.ref (He.ga K p.2.1)) = some p.2.2 := by
          intro p hp
          simp only [exmL, List.mem_cons, List.not_mem_nil, or_false] at hp
          rcases hp with rfl | rfl | rfl | rfl
          · exact He.exm_ok (c.d.fact 60 (f := .exm "BadLot" "BadLot" true) rfl)
          · exact He.exm_ok (c.d.fact 61 (f := .exm "BadLot" "NoPlace" false) rfl)
          · exact He.exm_ok (c.d.fact 62 (f := .exm "NoPlace" "BadLot" false) rfl)
          · exact He.exm_ok (c.d.fact 63 (f := .exm "NoPlace" "NoPlace" true) rfl)
        exact key p h1 }
theorem law_ok (X : K.In h) (G : h.Ns mainGlobals mg) (c : SaysQ fa fn ext xs K) : ∃ fd : FuncData, (∀ (s : Shared) (v : Value), BindsTo s fd ⟨[v], []⟩ [("script", v)]) ∧ ∀ base : Heap, FnOk PW w K mg base (L2.CX PW w) 10 (He.ga K "law") fd ["script"] (spOf K fi_law) := by
  obtain ⟨fd_law, F_law⟩ := c.d.def_ 32 (d := d_law) rfl
  have b := FunD.bindsA (ps := ["script"]) F_law fun _ _ _ _ _ _ us hl => match us, hl with | [_], _ => rfl
  refine ⟨fd_law, fun s v => b s [v] rfl, fun base => ?_⟩
  have T := tops (w := w) X G c base
  obtain ⟨fd_is_whole, F_is_whole⟩ := c.d.def_ 0 (d := d_is_whole) rfl
  have G_is_whole := w_is_whole (w := w) (base := base) T  F_is_whole
  have f_is_whole : FnB PW w K mg base "is_whole" fi_is_whole [] 3 := fnB0 (He.glo_ok X G (c.d.fact 18 (f := .glo "is_whole") rfl)) F_is_whole G_is_whole (FunD.bindsN (ps := ["value"]) F_is_whole fun _ _ _ _ _ _ us hl => match us, hl with | [_], _ => rfl)
  obtain ⟨fd_place_of, F_place_of⟩ := c.d.def_ 1 (d := d_place_of) rfl
  have G_place_of := w_place_of (w := w) (base := base) T f_is_whole F_place_of
  have f_place_of : FnB PW w K mg base "place_of" fi_place_of [] 4 := fnB0 (He.glo_ok X G (c.d.fact 19 (f := .glo "place_of") rfl)) F_place_of G_place_of (FunD.bindsN (ps := ["place", "size"]) F_place_of fun _ _ _ _ _ _ us hl => match us, hl with | [_, _], _ => rfl)
  obtain ⟨fd_size_of, F_size_of⟩ := c.d.def_ 2 (d := d_size_of) rfl
  have G_size_of := w_size_of (w := w) (base := base) T f_is_whole F_size_of
  have f_size_of : FnB PW w K mg base "size_of" fi_size_of [] 4 := fnB0 (He.glo_ok X G (c.d.fact 20 (f := .glo "size_of") rfl)) F_size_of G_size_of (FunD.bindsN (ps := ["size"]) F_size_of fun _ _ _ _ _ _ us hl => match us, hl with | [_], _ => rfl)
  obtain ⟨fd_lot_of, F_lot_of⟩ := c.d.def_ 3 (d := d_lot_of) rfl
  have G_lot_of := w_lot_of (w := w) (base := base) T f_is_whole F_lot_of
  have f_lot_of : FnB PW w K mg base "lot_of" fi_lot_of [] 4 := fnB0 (He.glo_ok X G (c.d.fact 21 (f := .glo "lot_of") rfl)) F_lot_of G_lot_of (FunD.bindsN (ps := ["lot", "size"]) F_lot_of fun _ _ _ _ _ _ us hl => match us, hl with | [_, _], _ => rfl)
  obtain ⟨fd_is_hard, F_is_hard⟩ := c.d.def_ 4 (d := d_is_hard) rfl
  have G_is_hard := w_is_hard (w := w) (base := base) T  F_is_hard
  have f_is_hard : FnB PW w K mg base "is_hard" fi_is_hard [] 3 := fnB0 (He.glo_ok X G (c.d.fact 22 (f := .glo "is_hard") rfl)) F_is_hard G_is_hard (FunD.bindsN (ps := ["mark"]) F_is_hard fun _ _ _ _ _ _ us hl => match us, hl with | [_], _ => rfl)
  obtain ⟨fd_is_touched, F_is_touched⟩ := c.d.def_ 5 (d := d_is_touched) rfl
  have G_is_touched := w_is_touched (w := w) (base := base) T  F_is_touched
  have f_is_touched : FnB PW w K mg base "is_touched" fi_is_touched [] 3 := fnB0 (He.glo_ok X G (c.d.fact 23 (f := .glo "is_touched") rfl)) F_is_touched G_is_touched (FunD.bindsN (ps := ["mark"]) F_is_touched fun _ _ _ _ _ _ us hl => match us, hl with | [_], _ => rfl)
  obtain ⟨fd_check_line, F_check_line⟩ := c.d.def_ 6 (d := d_check_line) rfl
  have G_check_line := w_check_line (w := w) (base := base) T f_is_touched F_check_line
  have f_check_line : FnB PW w K mg base "check_line" fi_check_line [] 4 := fnB0 (He.glo_ok X G (c.d.fact 24 (f := .glo "check_line") rfl)) F_check_line G_check_line (FunD.bindsN (ps := ["line", "size", "row"]) F_check_line fun _ _ _ _ _ _ us hl => match us, hl with | [_, _, _], _ => rfl)
  obtain ⟨fd_flags_of, F_flags_of⟩ := c.d.def_ 7 (d := d_flags_of) rfl
  have G_flags_of := w_flags_of (w := w) (base := base) T  F_flags_of
  have f_flags_of : FnB PW w K mg base "flags_of" fi_flags_of [] 3 := fnB0 (He.glo_ok X G (c.d.fact 25 (f := .glo "flags_of") rfl)) F_flags_of G_flags_of (FunD.bindsN (ps := ["lot", "size"]) F_flags_of fun _ _ _ _ _ _ us hl => match us, hl with | [_, _], _ => rfl)
  obtain ⟨fd_places_of, F_places_of⟩ := c.d.def_ 8 (d := d_places_of) rfl
  have G_places_of := w_places_of (w := w) (base := base) T  F_places_of
  have f_places_of : FnB PW w K mg base "places_of" fi_places_of [] 3 := fnB0 (He.glo_ok X G (c.d.fact 26 (f := .glo "places_of") rfl)) F_places_of G_places_of (FunD.bindsN (ps := ["flags"]) F_places_of fun _ _ _ _ _ _ us hl => match us, hl with | [_], _ => rfl)
  obtain ⟨fd_forced_now, F_forced_now⟩ := c.d.def_ 9 (d := d_forced_now) rfl
  have G_forced_now := w_forced_now (w := w) (base := base) T f_is_hard F_forced_now
  have f_forced_now : FnB PW w K mg base "forced_now" fi_forced_now [] 4 := fnB0 (He.glo_ok X G (c.d.fact 27 (f := .glo "forced_now") rfl)) F_forced_now G_forced_now (FunD.bindsN (ps := ["line", "touched", "white"]) F_forced_now fun _ _ _ _ _ _ us hl => match us, hl with | [_, _, _], _ => rfl)
  obtain ⟨fd_count_of_columns, F_count_of_columns⟩ := c.d.def_ 10 (d := d_count_of_columns) rfl
  have G_count_of_columns := w_count_of_columns (w := w) (base := base) T f_size_of F_count_of_columns
  have f_count_of_columns : FnB PW w K mg base "count_of_columns" fi_count_of_columns [] 5 := fnB0 (He.glo_ok X G (c.d.fact 28 (f := .glo "count_of_columns") rfl)) F_count_of_columns G_count_of_columns (FunD.bindsN (ps := ["columns"]) F_count_of_columns fun _ _ _ _ _ _ us hl => match us, hl with | [_], _ => rfl)
  obtain ⟨fd_Table_init, F_Table_init⟩ := c.d.def_ 11 (d := d_Table_init) rfl
  have G_Table_init := w_Table_init (w := w) (base := base) T f_check_line f_count_of_columns F_Table_init
  have k_Table_init : FnK PW w K mg base "Table" fi_Table_init [] 6 := fnK0 (He.glo_ok X G (c.d.fact 47 (f := .glo "Table") rfl)) (He.mkr_ok (c.d.fact 49 (f := .mkr "Table") rfl)) G_Table_init (FunD.bindsN (ps := ["self", "columns", "lines"]) F_Table_init fun _ _ _ _ _ _ us hl => match us, hl with | [_, _, _], _ => rfl)
  obtain ⟨fd_Table_len, F_Table_len⟩ := c.d.def_ 12 (d := d_Table_len) rfl
  have G_Table_len := w_Table_len (w := w) (base := base) T  F_Table_len
  have m_Table_len : FnM PW w K mg base ["Table"] "__len__" fi_Table_len [] 3 := fnM0 (He.cls_ok (c.d.fact 48 (f := .cls "Table") rfl)) (He.meth_ok (c.d.fact 58 (f := .meth "Table" "__len__") rfl)) G_Table_len (FunD.bindsN (ps := ["self"]) F_Table_len fun _ _ _ _ _ _ us hl => match us, hl with | [_], _ => rfl)
  obtain ⟨fd_Table_touches, F_Table_touches⟩ := c.d.def_ 13 (d := d_Table_touches) rfl
  have G_Table_touches := w_Table_touches (w := w) (base := base) T f_is_touched f_place_of F_Table_touches
  have m_Table_touches : FnM PW w K mg base ["Table"] "touches" fi_Table_touches [] 5 := fnM0 (He.cls_ok (c.d.fact 48 (f := .cls "Table") rfl)) (He.meth_ok (c.d.fact 59 (f := .meth "Table" "touches") rfl)) G_Table_touches (FunD.bindsN (ps := ["self", "row"]) F_Table_touches fun _ _ _ _ _ _ us hl => match us, hl with | [_, _], _ => rfl)
  obtain ⟨fd_Forcing_init, F_Forcing_init⟩ := c.d.def_ 14 (d := d_Forcing_init) rfl
  have G_Forcing_init := w_Forcing_init (w := w) (base := base) T f_forced_now f_lot_of f_places_of m_Table_len m_Table_touches F_Forcing_init
  have kk_Forcing_init : FnKK PW w K mg base "Forcing" fi_Forcing_init 1 ["told"] 6 := ⟨_, fd_Forcing_init, _, _, _, (He.glo_ok X G (c.d.fact 52 (f := .glo "Forcing") rfl)), (He.mkr_ok (c.d.fact 54 (f := .mkr "Forcing") rfl)), G_Forcing_init, kbn_all (n := 2) (ks := ["told"]) (ps := ["self", "table", "told"]) F_Forcing_init (fun _ _ _ _ _ _ us ws hl hw => match us, ws, hl, hw with | [_, _], [_], _, _ => rfl), fun _ _ => rfl⟩
  obtain ⟨fd_is_forcing, F_is_forcing⟩ := c.d.def_ 15 (d := d_is_forcing) rfl
  have G_is_forcing := w_is_forcing (w := w) (base := base) T f_forced_now f_is_whole m_Table_len m_Table_touches F_is_forcing
  have f_is_forcing : FnB PW w K mg base "is_forcing" fi_is_forcing [] 6 := fnB0 (He.glo_ok X G (c.d.fact 29 (f := .glo "is_forcing") rfl)) F_is_forcing G_is_forcing (FunD.bindsN (ps := ["table", "pair", "white"]) F_is_forcing fun _ _ _ _ _ _ us hl => match us, hl with | [_, _, _], _ => rfl)
  obtain ⟨fd_shows_forced, F_shows_forced⟩ := c.d.def_ 16 (d := d_shows_forced) rfl
  have G_shows_forced := w_shows_forced (w := w) (base := base) T f_flags_of f_is_forcing f_lot_of f_place_of F_shows_forced
  obtain ⟨e0_shows_forced, v0_shows_forced, b0_shows_forced⟩ := FunD.binds1 (ps := ["table", "column", "order", "told"]) F_shows_forced 4 1 (by simp [He.DefD.dvs, d_shows_forced]) (by simp [He.DefD.dvs, d_shows_forced]) (fun _ _ _ _ _ _ _ us its hl hi => match us, its, hl, hi with | [_, _, _, _], [_], _, _ => ⟨_, rfl, rfl⟩)
  have f_shows_forced : FnB PW w K mg base "shows_forced" fi_shows_forced [] 7 := ⟨_, fd_shows_forced, _, e0_shows_forced, [], (He.glo_ok X G (c.d.fact 30 (f := .glo "shows_forced") rfl)), F_shows_forced.kp, G_shows_forced, b0_shows_forced, v0_shows_forced, fun _ => rfl⟩
  obtain ⟨e1_shows_forced, v1_shows_forced, b1_shows_forced⟩ := FunD.binds1 (ps := ["table", "column", "order", "told"]) F_shows_forced 3 0 (by simp [He.DefD.dvs, d_shows_forced]) (by simp [He.DefD.dvs, d_shows_forced]) (fun _ _ _ _ _ _ _ us its hl hi => match us, its, hl, hi with | [_, _, _], [_], _, _ => ⟨_, rfl, rfl⟩)
  have f_shows_forced_d1 : FnB PW w K mg base "shows_forced" fi_shows_forced [.tup []] 7 := ⟨_, fd_shows_forced, _, e1_shows_forced, _, (He.glo_ok X G (c.d.fact 30 (f := .glo "shows_forced") rfl)), F_shows_forced.kp, G_shows_forced, b1_shows_forced, v1_shows_forced, fun F0 => ⟨_, _, rfl, tup0B_ok (SaysQ.ext c 5 (f := tup0B (He.dflAt ("shows_forced", none) 0)) rfl) F0, rfl⟩⟩
  obtain ⟨fd__law_next, F__law_next⟩ := c.d.def_ 17 (d := d__law_next) rfl
  have G__law_next := w__law_next (w := w) (base := base) T  F__law_next
  have f__law_next : FnB PW w K mg base "_law_next" fi__law_next [] 3 := fnB0 (He.glo_ok X G (c.d.fact 31 (f := .glo "_law_next") rfl)) F__law_next G__law_next (FunD.bindsN (ps := ["stream", "many"]) F__law_next fun _ _ _ _ _ _ us hl => match us, hl with | [_, _], _ => rfl)
  obtain ⟨fd__law_stream, F__law_stream⟩ := c.d.def_ 18 (d := d__law_stream) rfl
  have G__law_stream := w__law_stream (w := w) (base := base) T  F__law_stream
  have f__law_stream : FnB PW w K mg base "_law_stream" fi__law_stream [] 3 := fnB0 (He.glo_ok X G (c.d.fact 32 (f := .glo "_law_stream") rfl)) F__law_stream G__law_stream (FunD.bindsN (ps := ["script"]) F__law_stream fun _ _ _ _ _ _ us hl => match us, hl with | [_], _ => rfl)
  obtain ⟨fd__law_lines, F__law_lines⟩ := c.d.def_ 19 (d := d__law_lines) rfl
  have G__law_lines := w__law_lines (w := w) (base := base) T f__law_next F__law_lines
  have f__law_lines : FnB PW w K mg base "_law_lines" fi__law_lines [] 4 := fnB0 (He.glo_ok X G (c.d.fact 33 (f := .glo "_law_lines") rfl)) F__law_lines G__law_lines (FunD.bindsN (ps := ["stream", "rows", "columns", "loose"]) F__law_lines fun _ _ _ _ _ _ us hl => match us, hl with | [_, _, _, _], _ => rfl)
  obtain ⟨fd__law_told_line, F__law_told_line⟩ := c.d.def_ 20 (d := d__law_told_line) rfl
  have G__law_told_line := w__law_told_line (w := w) (base := base) T f__law_next F__law_told_line
  have f__law_told_line : FnB PW w K mg base "_law_told_line" fi__law_told_line [] 4 := fnB0 (He.glo_ok X G (c.d.fact 34 (f := .glo "_law_told_line") rfl)) F__law_told_line G__law_told_line (FunD.bindsN (ps := ["stream", "line"]) F__law_told_line fun _ _ _ _ _ _ us hl => match us, hl with | [_, _], _ => rfl)
  obtain ⟨fd__law_lot, F__law_lot⟩ := c.d.def_ 21 (d := d__law_lot) rfl
  have G__law_lot := w__law_lot (w := w) (base := base) T f__law_next F__law_lot
  have f__law_lot : FnB PW w K mg base "_law_lot" fi__law_lot [] 4 := fnB0 (He.glo_ok X G (c.d.fact 35 (f := .glo "_law_lot") rfl)) F__law_lot G__law_lot (FunD.bindsN (ps := ["stream", "size"]) F__law_lot fun _ _ _ _ _ _ us hl => match us, hl with | [_, _], _ => rfl)
  obtain ⟨fd__law_lone, F__law_lone⟩ := c.d.def_ 22 (d := d__law_lone) rfl
  have G__law_lone := w__law_lone (w := w) (base := base) T  F__law_lone
  have f__law_lone : FnB PW w K mg base "_law_lone" fi__law_lone [] 3 := fnB0 (He.glo_ok X G (c.d.fact 36 (f := .glo "_law_lone") rfl)) F__law_lone G__law_lone (FunD.bindsN (ps := ["line", "lot"]) F__law_lone fun _ _ _ _ _ _ us hl => match us, hl with | [_, _], _ => rfl)
  obtain ⟨fd__law_marks, F__law_marks⟩ := c.d.def_ 23 (d := d__law_marks) rfl
  have G__law_marks := w__law_marks (w := w) (base := base) T f__law_lines f__law_next f__law_told_line F__law_marks
  have f__law_marks : FnB PW w K mg base "_law_marks" fi__law_marks [] 5 := fnB0 (He.glo_ok X G (c.d.fact 37 (f := .glo "_law_marks") rfl)) F__law_marks G__law_marks (FunD.bindsN (ps := ["stream", "rows", "columns"]) F__law_marks fun _ _ _ _ _ _ us hl => match us, hl with | [_, _, _], _ => rfl)
  obtain ⟨fd__law_ladder, F__law_ladder⟩ := c.d.def_ 24 (d := d__law_ladder) rfl
  have G__law_ladder := w__law_ladder (w := w) (base := base) T f__law_next F__law_ladder
  have f__law_ladder : FnB PW w K mg base "_law_ladder" fi__law_ladder [] 4 := fnB0 (He.glo_ok X G (c.d.fact 38 (f := .glo "_law_ladder") rfl)) F__law_ladder G__law_ladder (FunD.bindsN (ps := ["stream", "size"]) F__law_ladder fun _ _ _ _ _ _ us hl => match us, hl with | [_, _], _ => rfl)
  obtain ⟨fd__law_drawn_order, F__law_drawn_order⟩ := c.d.def_ 25 (d := d__law_drawn_order) rfl
  have G__law_drawn_order := w__law_drawn_order (w := w) (base := base) T f__law_lone f__law_next F__law_drawn_order
  have f__law_drawn_order : FnB PW w K mg base "_law_drawn_order" fi__law_drawn_order [] 4 := fnB0 (He.glo_ok X G (c.d.fact 39 (f := .glo "_law_drawn_order") rfl)) F__law_drawn_order G__law_drawn_order (FunD.bindsN (ps := ["stream", "lines", "columns", "outside"]) F__law_drawn_order fun _ _ _ _ _ _ us hl => match us, hl with | [_, _, _, _], _ => rfl)
  obtain ⟨fd__law_is_pair, F__law_is_pair⟩ := c.d.def_ 26 (d := d__law_is_pair) rfl
  have G__law_is_pair := w__law_is_pair (w := w) (base := base) T  F__law_is_pair
  have f__law_is_pair : FnB PW w K mg base "_law_is_pair" fi__law_is_pair [] 3 := fnB0 (He.glo_ok X G (c.d.fact 40 (f := .glo "_law_is_pair") rfl)) F__law_is_pair G__law_is_pair (FunD.bindsN (ps := ["pair"]) F__law_is_pair fun _ _ _ _ _ _ us hl => match us, hl with | [_], _ => rfl)
  obtain ⟨fd__law_judged, F__law_judged⟩ := c.d.def_ 27 (d := d__law_judged) rfl
  have G__law_judged := w__law_judged (w := w) (base := base) T f__law_is_pair f__law_lone F__law_judged
  have f__law_judged : FnB PW w K mg base "_law_judged" fi__law_judged [] 4 := fnB0 (He.glo_ok X G (c.d.fact 41 (f := .glo "_law_judged") rfl)) F__law_judged G__law_judged (FunD.bindsN (ps := ["lines", "columns", "column", "order", "outside"]) F__law_judged fun _ _ _ _ _ _ us hl => match us, hl with | [_, _, _, _, _], _ => rfl)
  obtain ⟨fd__law_spoilt, F__law_spoilt⟩ := c.d.def_ 28 (d := d__law_spoilt) rfl
  have G__law_spoilt := w__law_spoilt (w := w) (base := base) T  F__law_spoilt
  have f__law_spoilt : FnB PW w K mg base "_law_spoilt" fi__law_spoilt [] 3 := fnB0 (He.glo_ok X G (c.d.fact 42 (f := .glo "_law_spoilt") rfl)) F__law_spoilt G__law_spoilt (FunD.bindsN (ps := ["kind", "order", "at", "rows", "columns"]) F__law_spoilt fun _ _ _ _ _ _ us hl => match us, hl with | [_, _, _, _, _], _ => rfl)
  obtain ⟨fd__law_papers_kept, F__law_papers_kept⟩ := c.d.def_ 29 (d := d__law_papers_kept) rfl
  have G__law_papers_kept := w__law_papers_kept (w := w) (base := base) T f__law_drawn_order f__law_judged f__law_next f__law_spoilt f_shows_forced k_Table_init kk_Forcing_init F__law_papers_kept
  have f__law_papers_kept : FnB PW w K mg base "_law_papers_kept" fi__law_papers_kept [] 8 := fnB0 (He.glo_ok X G (c.d.fact 43 (f := .glo "_law_papers_kept") rfl)) F__law_papers_kept G__law_papers_kept (FunD.bindsN (ps := ["stream", "lines", "columns", "outside"]) F__law_papers_kept fun _ _ _ _ _ _ us hl => match us, hl with | [_, _, _, _], _ => rfl)
  obtain ⟨fd__law_refusal, F__law_refusal⟩ := c.d.def_ 30 (d := d__law_refusal) rfl
  have G__law_refusal := w__law_refusal (w := w) (base := base) T f_shows_forced F__law_refusal
  have f__law_refusal : FnB PW w K mg base "_law_refusal" fi__law_refusal [] 8 := fnB0 (He.glo_ok X G (c.d.fact 44 (f := .glo "_law_refusal") rfl)) F__law_refusal G__law_refusal (FunD.bindsN (ps := ["table", "column", "order", "lot"]) F__law_refusal fun _ _ _ _ _ _ us hl => match us, hl with | [_, _, _, _], _ => rfl)
  obtain ⟨fd__law_refusals_kept, F__law_refusals_kept⟩ := c.d.def_ 31 (d := d__law_refusals_kept) rfl
  have G__law_refusals_kept := w__law_refusals_kept (w := w) (base := base) T f__law_next f__law_refusal k_Table_init F__law_refusals_kept
  have f__law_refusals_kept : FnB PW w K mg base "_law_refusals_kept" fi__law_refusals_kept [] 9 := fnB0 (He.glo_ok X G (c.d.fact 45 (f := .glo "_law_refusals_kept") rfl)) F__law_refusals_kept G__law_refusals_kept (FunD.bindsN (ps := ["stream", "size", "lines"]) F__law_refusals_kept fun _ _ _ _ _ _ us hl => match us, hl with | [_, _, _], _ => rfl)
  have G_law := w_law (w := w) (base := base) T f__law_drawn_order f__law_ladder f__law_lot f__law_marks f__law_next f__law_papers_kept f__law_refusals_kept f__law_stream f_shows_forced_d1 k_Table_init F_law
  exact G_law
end
end KI.K10

/-! part P10a -/
set_option Elab.async false
set_option linter.all false
set_option maxRecDepth 100000
set_option maxHeartbeats 1000000
namespace KI.K10
open PySem PySem.Spec PyProof.Rows L2 KI
def whole : PV → Bool
  | .int _ => true
  | _ => false
def notIns : PV → Bool
  | .ins _ _ _ => false
  | _ => true
theorem s_is_whole (p : PV) (h : notIns p = true) : fi_is_whole.sem [p] .non = .ok (.bl (whole p)) .non := by
  cases p <;> first
    | (cases h; done)
    | simp [fi_is_whole, g_is_whole, env0, slotOf, isiP, tyN, tyIs, whole]
theorem c_is_whole (p : PV) (st : PV) (h : notIns p = true) : callK fi_is_whole [p] st = .ok (.bl (whole p)) st := by
  rw [callK_val, s_is_whole p h]
@[simp] theorem notIns_int (i : Int) : notIns (.int i) = true := (rfl)
@[simp] theorem notIns_bl (i : Bool) : notIns (.bl i) = true := (rfl)
@[simp] theorem notIns_non : notIns .non = true := (rfl)
@[simp] theorem notIns_str (x : Str) : notIns (.str x) = true := (rfl)
@[simp] theorem notIns_lst (x : List PV) : notIns (.lst x) = true := (rfl)
@[simp] theorem notIns_tup (x : List PV) : notIns (.tup x) = true := (rfl)
@[simp] theorem whole_int (i : Int) : whole (.int i) = true := (rfl)
@[simp] theorem whole_bl (i : Bool) : whole (.bl i) = false := (rfl)
@[simp] theorem whole_non : whole .non = false := (rfl)
@[simp] theorem whole_str (x : Str) : whole (.str x) = false := (rfl)
@[simp] theorem whole_lst (x : List PV) : whole (.lst x) = false := (rfl)
@[simp] theorem whole_tup (x : List PV) : whole (.tup x) = false := (rfl)
@[simp] theorem c_is_whole_int (i : Int) (st : PV) : callK fi_is_whole [.int i] st = .ok (.bl true) st := c_is_whole _ st rfl
@[simp] theorem c_is_whole_bl (i : Bool) (st : PV) : callK fi_is_whole [.bl i] st = .ok (.bl false) st := c_is_whole _ st rfl
@[simp] theorem c_is_whole_non  (st : PV) : callK fi_is_whole [.non] st = .ok (.bl false) st := c_is_whole _ st rfl
@[simp] theorem c_is_whole_str (x : Str) (st : PV) : callK fi_is_whole [.str x] st = .ok (.bl false) st := c_is_whole _ st rfl
@[simp] theorem c_is_whole_lst (x : List PV) (st : PV) : callK fi_is_whole [.lst x] st = .ok (.bl false) st := c_is_whole _ st rfl
@[simp] theorem c_is_whole_tup (x : List PV) (st : PV) : callK fi_is_whole [.tup x] st = .ok (.bl false) st := c_is_whole _ st rfl
@[simp] theorem truP_bl (b : Bool) : truP (.bl b) = some b := (rfl)
@[simp] theorem icmp_int (g : Int → Int → Bool) (i j : Int) : icmp g (.int i) (.int j) = some (g i j) := (rfl)
def placeR (p : PV) (n : Int) : ER PV := match p with
  | .int i => if i < 0 ∨ n ≤ i then .exc "NoPlace" ["place"] [.int i] .non else .ok (.int i) .non
  | _ => .exc "NoPlace" ["place"] [.int 0] .non
theorem s_place_of (p : PV) (n : Int) (h : notIns p = true) : fi_place_of.sem [p, .int n] .non = placeR p n := by
  cases hw : whole p with
  | false =>
    have : placeR p n = .exc "NoPlace" ["place"] [.int 0] .non := by cases p <;> first | (cases hw; done) | rfl
    rw [this]
    simp [fi_place_of, g_place_of, env0, slotOf, c_is_whole p .non h, hw, borOk]
  | true =>
    cases p <;> first
      | (cases hw; done)
      | skip
    rename_i i
    by_cases h1 : i < 0
    · simp [fi_place_of, g_place_of, env0, slotOf, placeR, h1, borOk]
    · by_cases h2 : n ≤ i
      · simp [fi_place_of, g_place_of, env0, slotOf, placeR, h1, h2, borOk]
      · simp [fi_place_of, g_place_of, env0, slotOf, placeR, h1, h2, borOk]

/-! ## marks -/
abbrev ch (c : Nat) : PV := .str ⟨#[c]⟩
abbrev tx (l : List Nat) : PV := .str ⟨l.toArray⟩
def hard (c : Nat) : Bool := c == 102 || c == 116
def touched (c : Nat) : Bool := c == 102 || (c == 108 || c == 116)
theorem eF (c : Nat) : eqF (.str "f") (ch c) = (c == 102) := by
  show decide (("f" : Str) = ⟨#[c]⟩) = _
  rw [show ("f" : Str) = ⟨#[102]⟩ from by decide +kernel]
  simp [eq_comm]
  rfl
theorem eL (c : Nat) : eqF (.str "l") (ch c) = (c == 108) := by
  show decide (("l" : Str) = ⟨#[c]⟩) = _
  rw [show ("l" : Str) = ⟨#[108]⟩ from by decide +kernel]
  simp [eq_comm]
  rfl
theorem eT (c : Nat) : eqF (.str "t") (ch c) = (c == 116) := by
  show decide (("t" : Str) = ⟨#[c]⟩) = _
  rw [show ("t" : Str) = ⟨#[116]⟩ from by decide +kernel]
  simp [eq_comm]
  rfl
theorem s2 : (2 : Nat) ≤ sizeLine := by decide
theorem s3 : (3 : Nat) ≤ sizeLine := by decide
theorem c_is_hard (c : Nat) (st : PV) : callK fi_is_hard [ch c] st = .ok (.bl (hard c)) st := by
  rw [callK_val]
  simp [fi_is_hard, g_is_hard, env0, slotOf, s2, inP, flatP, eF, eT, hard]
theorem c_is_touched (c : Nat) (st : PV) : callK fi_is_touched [ch c] st = .ok (.bl (touched c)) st := by
  rw [callK_val]
  simp [fi_is_touched, g_is_touched, env0, slotOf, s3, inP, flatP, eF, eL, eT, touched]

/-! ## numbers, places -/
theorem atI_nat {α : Type} {xs : List α} {j : Nat} {x : α} (h : xs[j]? = some x) : L2.atI xs (j : Int) = some x := by
  obtain ⟨hl, _⟩ := List.getElem?_eq_some_iff.mp h
  unfold L2.atI L2.ixN
  rw [if_pos (by omega), if_pos (by omega)]
  simpa using h
theorem eqP_int (i j : Int) : eqP (.int i) (.int j) = some (i == j) := by
  unfold eqP eqB okD toD
  simp [SeqAt.shaped, PyData.eqv, PyData.canLay0, PyData.depth]
theorem neP_int (i j : Int) : neP (.int i) (.int j) = some (!(i == j)) := by
  unfold neP eqB okD toD
  simp [SeqAt.shaped, PyData.eqv, PyData.canLay0, PyData.depth]
theorem eqP_non_int (j : Int) : eqP .non (.int j) = some false := by
  unfold eqP eqB okD toD
  simp [SeqAt.shaped, PyData.eqv, PyData.canLay0, PyData.depth]
def mk (l : List Nat) (j : Nat) : Nat := l.getD j 0
def wh (w : List Bool) (j : Nat) : Bool := w.getD j false
theorem mk_at {l : List Nat} {j : Nat} (h : j < l.length) : l[j]? = some (mk l j) := by unfold mk; simp [h]
theorem wh_at {w : List Bool} {j : Nat} (h : j < w.length) : w[j]? = some (wh w j) := by unfold wh; simp [h]
def nts (l : List Nat) : List PV := l.map fun (j : Nat) => PV.int (j : Int)
@[simp] theorem nts_nil : nts [] = [] := (rfl)
@[simp] theorem nts_cons (j : Nat) (l : List Nat) : nts (j :: l) = .int (j : Int) :: nts l := (rfl)
@[simp] theorem nts_length (l : List Nat) : (nts l).length = l.length := by simp [nts]
theorem mem_nts {p : PV} {l : List Nat} (h : p ∈ nts l) : ∃ j ∈ l, p = .int (j : Int) := by
  obtain ⟨j, h1, h2⟩ := List.mem_map.mp h
  exact ⟨j, h1, h2.symm⟩
def bls (w : List Bool) : List PV := w.map .bl
@[simp] theorem bls_length (w : List Bool) : (bls w).length = w.length := by simp [bls]
theorem bls_at (w : List Bool) (j : Nat) : (bls w)[j]? = (w[j]?).map PV.bl := List.getElem?_map
def optI : Option Nat → PV
  | none => .non
  | some j => .int (j : Int)
/-! ## forced_now -/
def oneHard (l : List Nat) : List Nat → Option Nat
  | [j] => if hard (mk l j) = true then some j else none
  | _ => none
def forcedR (l : List Nat) (cols : List Nat) (w : List Bool) : Option Nat := oneHard l (cols.filter fun j => wh w j)
theorem ix_bls {w : List Bool} {j : Nat} (h : j < w.length) : ixP (.lst (bls w)) (.int (j : Int)) = some (.bl (wh w j)) := by
  show L2.atI (bls w) (j : Int) = _
  rw [atI_nat (x := .bl (wh w j))]
  rw [bls_at, wh_at h]; rfl
theorem ix_tx {l : List Nat} {j : Nat} (h : j < l.length) (hl : l.length ≤ sizeLine) : ixP (tx l) (.int (j : Int)) = some (ch (mk l j)) := by
  show (if (⟨l.toArray⟩ : Str).length ≤ sizeLine then (L2.atI l.toArray.toList (j : Int)).map fun c => PV.str ⟨#[c]⟩ else none) = _
  rw [if_pos (by show l.toArray.size ≤ _; simpa using hl), atI_nat (x := mk l j) (by rw [List.toList_toArray]; exact mk_at h)]
  rfl
theorem filter_nts (cols : List Nat) (f : Nat → Bool) : (nts cols).filter (fun p => match p with | .int i => f i.toNat | _ => false) = nts (cols.filter f) := by
  induction cols with
  | nil => rfl
  | cons j cols ih =>
    rw [nts_cons, List.filter_cons, List.filter_cons, ih]
    show (if f (Int.toNat (j : Int)) = true then _ else _) = _
    rw [Int.toNat_natCast]
    split <;> rfl
theorem c_forced_now (l cols : List Nat) (w : List Bool) (st : PV) (hc : ∀ j ∈ cols, j < w.length ∧ j < l.length) (hl : l.length ≤ sizeLine) (hz : cols.length ≤ sizeLine) :
    callK fi_forced_now [tx l, .tup (nts cols), .lst (bls w)] st = .ok (optI (forcedR l cols w)) st := by
  rw [callK_val]
  have h1 : lcL (nameG 4) (truT (opE ixP (vR 2) (vR 4))) (vE 4) [.sh (tx l), .sh (.tup (nts cols)), .bor (.lst (bls w)), .dead, .dead] (nts cols) .non = .ok (nts (cols.filter fun j => wh w j)) .non := by
    rw [lcL_pure (fun p => match p with | .int i => wh w i.toNat | _ => false) id]
    · rw [List.map_id, filter_nts cols fun j => wh w j]
    · intro p hp
      obtain ⟨j, hj, rfl⟩ := mem_nts hp
      refine ⟨_, rfl, ?_, fun _ => ?_⟩
      · simp [ix_bls (hc j hj).1]
      · simp
  have h2 : (nts cols).length ≤ sizeLine := by simpa using hz
  unfold forcedR
  generalize hs : cols.filter (fun j => wh w j) = seen at h1 ⊢
  have hm : ∀ j ∈ seen, j < l.length := fun j hj => (hc j (List.mem_filter.mp (show j ∈ cols.filter (fun j => wh w j) from by rw [hs]; exact hj)).1).2
  have e : fi_forced_now.sem [tx l, .tup (nts cols), .lst (bls w)] .non = .ok (optI (oneHard l seen)) .non := by
    match seen, h1, hm with
    | [], h1, _ => simp [fi_forced_now, g_forced_now, env0, slotOf, seqP, calmAt, hz, h1, lenP, neP_int, optI, oneHard]
    | [j], h1, hm =>
      have hj := hm j (by simp)
      have k1 : ixP (.lst [.int (j : Int)]) (.int 0) = some (.int (j : Int)) := rfl
      by_cases hh : hard (mk l j) = true
      · simp [fi_forced_now, g_forced_now, env0, slotOf, seqP, calmAt, hz, h1, lenP, neP_int, optI, oneHard, k1, ix_tx hj hl, c_is_hard, hh]
      · simp [fi_forced_now, g_forced_now, env0, slotOf, seqP, calmAt, hz, h1, lenP, neP_int, optI, oneHard, k1, ix_tx hj hl, c_is_hard, hh]
    | a :: b :: r, h1, _ =>
      have k2 : ¬ ((r.length : Int) + 1 + 1 = 1) := by omega
      simp [k2, fi_forced_now, g_forced_now, env0, slotOf, seqP, calmAt, hz, h1, lenP, neP_int, optI, oneHard]
  rw [e]
end KI.K10

/-! part P10b -/
set_option Elab.async false
set_option linter.all false
set_option maxRecDepth 100000
set_option maxHeartbeats 1000000
namespace KI.K10
open PySem PySem.Spec PyProof.Rows L2 KI
/-! ## a sign counted in a text -/
theorem occ_count (x : Str) (c : Nat) : ∀ (k a : Nat) (st : Array Nat × Nat), st.snd ≤ a → st.fst.size ≤ a → a + k ≤ x.length + 1 →
    (forIn (List.range' a k) st (StrLaws.occBody x ⟨#[c]⟩ x.length (x.length + 1))).run.fst.size = st.fst.size + ((x.cps.toList.drop a).take k).count c
  | 0, a, st, _, _, _ => by simp
  | k + 1, a, st, h1, h2, h3 => by
    rw [List.range'_succ, List.forIn_cons]
    unfold StrLaws.occBody
    have key := StrLaws.subAt_one x c a
    have hl : (⟨#[c]⟩ : Str).length = 1 := rfl
    by_cases hc : x.cps.toList[a]? = some c
    · obtain ⟨k1, k2⟩ := key.mpr hc
      rw [if_pos ⟨⟨⟨by omega, h1⟩, k1⟩, k2⟩]
      have ih := occ_count x c k (a + 1) (st.fst.push a, a + (⟨#[c]⟩ : Str).length) (by rw [hl]; exact Nat.le_refl _) (by simp; omega) (by omega)
      unfold StrLaws.occBody at ih
      refine ih.trans ?_
      obtain ⟨hlt, e⟩ := List.getElem?_eq_some_iff.mp hc
      rw [List.drop_eq_getElem_cons hlt, List.take_succ_cons, e, List.count_cons_self]
      simp
      omega
    · rw [if_neg (fun z => hc (key.mp ⟨z.1.2, z.2⟩))]
      have ih := occ_count x c k (a + 1) (st.fst, st.snd) (by simp; omega) (by simp; omega) (by omega)
      unfold StrLaws.occBody at ih
      refine ih.trans ?_
      by_cases hlt : a < x.cps.toList.length
      · rw [List.drop_eq_getElem_cons hlt, List.take_succ_cons, List.count_cons_of_ne]
        intro e
        exact hc (by rw [List.getElem?_eq_getElem hlt]; rw [← e])
      · rw [List.drop_eq_nil_of_le (Nat.le_of_not_lt hlt), List.drop_eq_nil_of_le (by omega)]
        simp
theorem count_one (l : List Nat) (c : Nat) : Txt.count ⟨l.toArray⟩ ⟨#[c]⟩ = (l.count c : Nat) := by
  unfold Txt.count
  rw [StrLaws.occ_eq, Array.length_toList]
  have := occ_count ⟨l.toArray⟩ c ((⟨l.toArray⟩ : Str).length + 1 - 0) 0 (#[], 0) (Nat.le_refl _) (Nat.le_refl _) (by omega)
  rw [this]
  simp only [Str.length, List.drop_zero, List.toList_toArray, List.size_toArray, Array.size_empty, Nat.zero_add]
  rw [List.take_of_length_le (by omega)]
  simp
/-! ## lines, tables -/
def LineOk (n : Nat) (l : List Nat) : Prop := l.length = n ∧ (∀ c ∈ l, c = 46 ∨ touched c = true) ∧ l.count 116 ≤ 1
theorem enum_at {ps : List PV} {i : Nat} {p : PV} (h : (enumPs ps)[i]? = some p) : ∃ q, ps[i]? = some q ∧ p = .tup [.int (i : Nat), q] := by
  unfold enumPs at h
  rw [List.getElem?_map] at h
  cases z : ps.zipIdx[i]? with
  | none => rw [z] at h; cases h
  | some x =>
    rw [z] at h
    cases h
    rw [List.getElem?_zipIdx] at z
    cases y : ps[i]? with
    | none => rw [y] at z; cases z
    | some q => rw [y] at z; cases z; exact ⟨q, rfl, by simp⟩
theorem chrs_at {l : List Nat} {i : Nat} {q : PV} (h : (chrs ⟨l.toArray⟩)[i]? = some q) : ∃ c, l[i]? = some c ∧ q = ch c := by
  unfold chrs at h
  rw [List.getElem?_map] at h
  cases z : l[i]? with
  | none =>
    rw [show (⟨l.toArray⟩ : Str).cps.toList[i]? = l[i]? from by simp, z] at h; cases h
  | some c =>
    rw [show (⟨l.toArray⟩ : Str).cps.toList[i]? = l[i]? from by simp, z] at h; cases h; exact ⟨c, rfl, rfl⟩
theorem neP_str (x y : Str) (hx : PyData.canLay0 (.str x) = true) (hy : PyData.canLay0 (.str y) = true) : neP (.str x) (.str y) = some (!(x == y)) := by
  unfold neP eqB okD toD
  simp [SeqAt.shaped, PyData.eqv, hx, hy, PyData.depth]
theorem lit_dot : ("." : Str) = ⟨#[46]⟩ := by decide +kernel
theorem lit_t : ("t" : Str) = ⟨#[116]⟩ := by decide +kernel
theorem mark_lt {c : Nat} (h : c = 46 ∨ touched c = true) : c < 117 := by
  rcases h with h | h
  · omega
  · simp only [touched, Bool.or_eq_true, beq_iff_eq] at h; omega
theorem ne_dot {c : Nat} (h : c = 46 ∨ touched c = true) : neP (ch c) (.str ".") = some (!(c == 46)) := by
  have := mark_lt h
  rw [neP_str]
  · rw [lit_dot]
    congr 2
    by_cases e : c = 46
    · subst e; simp
    · rw [show (c == 46) = false from by simpa using e]
      simp [e]
  · show PyData.strOk _ = true
    simp [PyData.strOk]; omega
  · rw [lit_dot]; show PyData.strOk _ = true; decide +kernel
theorem len_tx (l : List Nat) (hl : l.length ≤ sizeLine) : lenP [tx l] = some (.int (l.length : Nat)) := by
  show (if (⟨l.toArray⟩ : Str).length ≤ sizeLine then some (PV.int (⟨l.toArray⟩ : Str).length) else none) = _
  rw [show (⟨l.toArray⟩ : Str).length = l.length from by simp [Str.length], if_pos hl]
theorem cnt_tx (l : List Nat) : countP ⟨l.toArray⟩ (.str "t") = some (.int (l.count 116 : Nat)) := by
  show some (PV.int (Txt.count ⟨l.toArray⟩ "t")) = _
  rw [lit_t, count_one]
theorem c_check_line (l : List Nat) (n row : Nat) (st : PV) (h : LineOk n l) (hs : n ≤ sizeLine) : callK fi_check_line [tx l, .int (n : Int), .int (row : Int)] st = .ok (tx l) st := by
  obtain ⟨h1, h2, h3⟩ := h
  rw [callK_val]
  have hl : l.length ≤ sizeLine := by omega
  obtain ⟨env', st', e1, e2⟩ := forL_all (t := pairG 3 4) (b := (seqS (ifS (andT (cmpT neP (vR 4) (cE (.str "."))) (notT (truT (callE fi_is_touched [] (consA (vE 4) nilA))))) (seqS (raiseS "BadMark" ["row", "column"] (consA (vE 2) (consA (vE 3) nilA))) nxS) nxS) (fun env st => .nx (killS [3, 4] env) st)))
    (fun _ env st => env = [.sh (tx l), .sh (.int (n : Int)), .sh (.int (row : Int)), .dead, .dead] ∧ st = .non) (ps := enumPs (chrs ⟨l.toArray⟩)) (env := [.sh (tx l), .sh (.int (n : Int)), .sh (.int (row : Int)), .dead, .dead]) (st := .non) 0 (fun i p env st hp ⟨he, hst⟩ => by
      subst he hst
      obtain ⟨q, hq, rfl⟩ := enum_at hp
      obtain ⟨c, hc, rfl⟩ := chrs_at hq
      have hm := h2 c (List.mem_of_getElem? hc)
      refine ⟨_, _, _, rfl, ?_, rfl, rfl⟩
      by_cases e : c = 46
      · subst e; have hd := ne_dot hm; simp [hd]
      · have ht : touched c = true := hm.resolve_left e
        simp [ne_dot hm, e, c_is_touched, ht]) ⟨rfl, rfl⟩
  obtain ⟨rfl, rfl⟩ := e2
  have k : ¬ (1 < ((l.count 116 : Nat) : Int)) := by omega
  have e : fi_check_line.sem [tx l, .int (n : Int), .int (row : Int)] .non = .ok (tx l) .non := by
    simp [fi_check_line, g_check_line, env0, slotOf, isiP, tyN, tyIs, len_tx l hl, neP_int, h1, seqP, e1, cnt_tx, k, borOk]
  rw [e]

def tb (n : Nat) (ls : List (List Nat)) : PV := .ins "Table" ["columns", "lines"] [.int (n : Int), .tup (ls.map fun l => tx l)]
theorem fld_lines (n : Nat) (ls : List (List Nat)) : fldP ["Table"] "lines" (tb n ls) = some (.tup (ls.map fun l => tx l)) := by rfl
theorem fld_columns (n : Nat) (ls : List (List Nat)) : fldP ["Table"] "columns" (tb n ls) = some (.int (n : Int)) := by rfl
theorem c_place_of (i n : Nat) (st : PV) (h : i < n) : callK fi_place_of [.int (i : Int), .int (n : Int)] st = .ok (.int (i : Int)) st := by
  have e : placeR (.int (i : Int)) n = .ok (.int (i : Int)) .non := if_neg (by omega)
  rw [callK_val, s_place_of _ _ rfl, e]
def ln (ls : List (List Nat)) (r : Nat) : List Nat := ls.getD r []
theorem ln_at {ls : List (List Nat)} {r : Nat} (h : r < ls.length) : ls[r]? = some (ln ls r) := by unfold ln; simp [h]
theorem ix_lines {ls : List (List Nat)} {r : Nat} (h : r < ls.length) : ixP (.tup (ls.map fun l => tx l)) (.int (r : Int)) = some (tx (ln ls r)) := by
  show L2.atI (ls.map fun l => tx l) (r : Int) = _
  rw [atI_nat (x := tx (ln ls r))]
  rw [List.getElem?_map, ln_at h]; rfl
def touchC (l : List Nat) : List Nat := (List.range l.length).filter fun j => touched (mk l j)
theorem enum_tx (l : List Nat) : enumPs (chrs ⟨l.toArray⟩) = (List.range l.length).map fun (j : Nat) => PV.tup [.int (j : Int), ch (mk l j)] := by
  apply List.ext_getElem?
  intro i
  by_cases h : i < l.length
  · rw [enumPs_get (p := ch (mk l i))]
    · simp [h]
    · unfold chrs
      rw [List.getElem?_map, List.toList_toArray, mk_at h]; rfl
  · rw [List.getElem?_eq_none, List.getElem?_eq_none]
    · simp; omega
    · rw [enumPs_length]; unfold chrs; simp; omega
def fTouch : PV → Bool
  | .tup [_, .str x] => touched (x.cps.getD 0 0)
  | _ => false
def gFst : PV → PV
  | .tup (p :: _) => p
  | p => p
theorem c_touches (n : Nat) (ls : List (List Nat)) (r : Nat) (st : PV) (h : r < ls.length) (hz : (ln ls r).length ≤ sizeLine) : callK fi_Table_touches [tb n ls, .int (r : Int)] st = .ok (.tup (nts (touchC (ln ls r)))) st := by
  rw [callK_val]
  have h1 : lcL (pairG 3 4) (truT (callE fi_is_touched [] (consA (vE 4) nilA))) (vE 3) [.bor (tb n ls), .sh (.int (r : Int)), .sh (tx (ln ls r)), .dead, .dead] (enumPs (chrs ⟨(ln ls r).toArray⟩)) .non = .ok (nts (touchC (ln ls r))) .non := by
    rw [lcL_pure fTouch gFst]
    · rw [enum_tx, List.filter_map, List.map_map]; rfl
    · intro p hp
      obtain ⟨i, hi⟩ := List.getElem?_of_mem hp
      obtain ⟨q, hq, rfl⟩ := enum_at hi
      obtain ⟨c, hc, rfl⟩ := chrs_at hq
      refine ⟨_, rfl, ?_, fun _ => ?_⟩
      · simp [c_is_touched, fTouch]
      · simp [gFst]
  have h2 : (enumPs (chrs ⟨(ln ls r).toArray⟩)).length ≤ sizeLine := by rw [enumPs_length]; unfold chrs; simpa using hz
  have e : fi_Table_touches.sem [tb n ls, .int (r : Int)] .non = .ok (.tup (nts (touchC (ln ls r)))) .non := by
    simp [fi_Table_touches, g_Table_touches, env0, slotOf, fld_lines, lenP, c_place_of r ls.length _ h, ix_lines h, seqP, calmAt, h2, h1, tupleP, borOk]
  rw [e]
theorem s_len (n : Nat) (ls : List (List Nat)) : fi_Table_len.sem [tb n ls] .non = .ok (.int (ls.length : Nat)) .non := by
  simp [fi_Table_len, g_Table_len, env0, slotOf, fld_lines, lenP]
end KI.K10

/-! part P10c -/
set_option Elab.async false
set_option linter.all false
set_option maxRecDepth 100000
set_option maxHeartbeats 1000000
namespace KI.K10
open PySem PySem.Spec PyProof.Rows L2 KI
/-! ## lot_of -/
def lotBad (size : Int) : Nat → List Int → List Int → Option Nat
  | _, _, [] => none
  | i, done, e :: r => if e < 0 ∨ size ≤ e ∨ e ∈ done then some i else lotBad size (i + 1) (done ++ [e]) r
def items (i : Nat) (ns : List Int) : List PV := (ns.zipIdx i).map fun x => PV.tup [.int (x.2 : Nat), .int x.1]
theorem enum_is (ns : List Int) : enumPs (ns.map PV.int) = items 0 ns := by
  unfold enumPs items
  rw [List.zipIdx_map, List.map_map]
  rfl
theorem hasK_int (done : List Int) (e : Int) : hasK (done.map Sum.inl) (.inl e) = decide (e ∈ done) := by
  unfold hasK
  induction done with
  | nil => simp
  | cons d r ih =>
    rw [List.map_cons, List.any_cons, ih]
    by_cases h : d = e
    · subst h; simp
    · have h2 : ¬ e = d := fun z => h z.symm
      simp [h, h2]
def foundP (done : List Int) : PV := .dct (done.map Sum.inl) (List.replicate done.length (.bl true))
theorem in_found (neg : Bool) (done : List Int) (e : Int) : inP neg (.int e) (foundP done) = some (if neg = true then !decide (e ∈ done) else decide (e ∈ done)) := by
  show some (if neg = true then !hasK (done.map Sum.inl) (.inl e) else hasK (done.map Sum.inl) (.inl e)) = _
  rw [hasK_int]
theorem put_found (done : List Int) (e : Int) (h : e ∉ done) : putD (done.map Sum.inl) (List.replicate done.length (.bl true)) (.inl e) (.bl true) = foundP (done ++ [e]) := by
  unfold putD
  rw [hasK_int, if_neg (by simpa using h)]
  unfold foundP
  rw [List.map_append, List.length_append, List.length_singleton, List.replicate_succ']
  rfl
def lotB : SF := (seqS (ifS (orT (notT (truT (callE fi_is_whole [] (consA (vE 4) nilA)))) (orT (cmpT ltP (vR 4) (cE (.int 0))) (orT (cmpT geP (vR 4) (vR 1)) (cmpT (inP false) (vR 4) (vR 2))))) (seqS (raiseS "BadLot" ["place"] (consA (vE 3) nilA)) nxS) nxS) (seqS (setDct 2 (cE (.bl true)) (vE 4)) (fun env st => .nx (killS [3, 4] env) st)))
theorem lot_loop (p : PV) (size : Int) : ∀ (ns : List Int) (i : Nat) (done : List Int), done.length + ns.length ≤ sizeLine →
    (match lotBad size i done ns with
    | some j => ∃ env', forL (pairG 3 4) lotB (items i ns) [.sh p, .sh (.int size), .own (foundP done), .dead, .dead] .non = .exc "BadLot" ["place"] [.int (j : Int)] env' .non
    | none => forL (pairG 3 4) lotB (items i ns) [.sh p, .sh (.int size), .own (foundP done), .dead, .dead] .non = .nx [.sh p, .sh (.int size), .own (foundP (done ++ ns)), .dead, .dead] .non)
  | [], i, done, _ => by
    show forL _ _ [] _ _ = _
    rw [List.append_nil]; rfl
  | e :: r, i, done, hz => by
    have hb : forL (pairG 3 4) lotB (items i (e :: r)) [.sh p, .sh (.int size), .own (foundP done), .dead, .dead] .non = (match lotB [.sh p, .sh (.int size), .own (foundP done), .sh (.int (i : Int)), .sh (.int e)] .non with
      | .nx env2 st2 => forL (pairG 3 4) lotB (items (i + 1) r) env2 st2
      | .ct env2 st2 => forL (pairG 3 4) lotB (items (i + 1) r) env2 st2
      | .brk env2 st2 => .nx env2 st2
      | r => r) := rfl
    have hin := in_found false done e
    by_cases hbad : e < 0 ∨ size ≤ e ∨ e ∈ done
    · have e1 : lotBad size i done (e :: r) = some i := if_pos hbad
      rw [e1, hb]
      refine ⟨[.sh p, .sh (.int size), .own (foundP done), .sh (.int (i : Int)), .sh (.int e)], ?_⟩
      by_cases h1 : e < 0
      · simp [lotB, h1]
      · by_cases h2 : size ≤ e
        · simp [lotB, h1, h2]
        · have h3 : e ∈ done := by simpa [h1, h2] using hbad
          simp [lotB, h1, h2, hin, h3]
    · have e1 : lotBad size i done (e :: r) = lotBad size (i + 1) (done ++ [e]) r := if_neg hbad
      rw [e1, hb]
      have h1 : ¬ e < 0 := fun z => hbad (.inl z)
      have h2 : ¬ size ≤ e := fun z => hbad (.inr (.inl z))
      have h3 : e ∉ done := fun z => hbad (.inr (.inr z))
      have ih := lot_loop p size r (i + 1) (done ++ [e]) (by simp at hz ⊢; omega)
      have hlt : (done.map (Sum.inl : Int → Key)).length < sizeLine := by simp at hz ⊢; omega
      have e2 : lotB [.sh p, .sh (.int size), .own (foundP done), .sh (.int (i : Int)), .sh (.int e)] .non = .nx [.sh p, .sh (.int size), .own (foundP (done ++ [e])), .dead, .dead] .non := by
        have hp := put_found done e h3
        have hl2 : done.length < sizeLine := by simpa using hlt
        unfold foundP at hin
        simp [lotB, h1, h2, hin, h3, foundP, keyP, hl2, hp]
      rw [e2]
      rw [List.append_assoc] at ih
      exact ih
def lotR (size : Int) (ns : List Int) : ER PV := match lotBad size 0 [] ns with
  | some j => .exc "BadLot" ["place"] [.int (j : Int)] .non
  | none => .ok (.tup ((sortI ns).map .int)) .non
theorem intsP_map : ∀ ns : List Int, intsP (ns.map .int) = some ns
  | [] => rfl
  | n :: ns => by rw [List.map_cons, intsP, intsP_map ns]; rfl
theorem list_found (done : List Int) : listP [foundP done] = some (.lst (done.map .int)) := by
  show some (PV.lst ((done.map Sum.inl).map kP)) = _
  rw [List.map_map]; rfl
theorem sorted_ints (ns : List Int) : sortedP [.lst (ns.map .int)] = some (.lst ((sortI ns).map .int)) := by
  show (intsP (ns.map .int)).map (fun ns => PV.lst ((sortI ns).map .int)) = _
  rw [intsP_map]; rfl
theorem s_lot_of (p : PV) (size : Int) (ns : List Int) (hp : p = .lst (ns.map .int) ∨ p = .tup (ns.map .int)) (hz : ns.length ≤ sizeLine) : fi_lot_of.sem [p, .int size] .non = lotR size ns := by
  have hL := lot_loop p size ns 0 [] (by simpa using hz)
  have hq : seqP p = some (ns.map .int) := by rcases hp with rfl | rfl <;> rfl
  have hi : isiP ["list", "tuple"] p = some true := by rcases hp with rfl | rfl <;> rfl
  have e : g_lot_of = (seqS (ifS (notT (truT (isiE ["list", "tuple"] (vR 0)))) (seqS (raiseS "BadLot" ["place"] (consA (negE (cE (.int 1))) nilA)) nxS) nxS) (seqS (setO 2 (fun _ st => .ok (.dct [] []) st)) (seqS (forS (enumA (vE 0)) (pairG 3 4) lotB) (seqS (retS (biE tupleP (consA (biE sortedP (consA (biE listP (consA (vR 2) nilA)) nilA)) nilA))) nxS)))) := rfl
  have f0 : PV.dct [] [] = foundP [] := rfl
  unfold lotR
  cases hb : lotBad size 0 [] ns with
  | some j =>
    rw [hb] at hL
    obtain ⟨env', hL⟩ := hL
    simp [fi_lot_of, e, env0, slotOf, hi, hq, enum_is, f0, hL]
  | none =>
    rw [hb] at hL
    have hL : forL (pairG 3 4) lotB (items 0 ns) [.sh p, .sh (.int size), .own (foundP []), .dead, .dead] .non = .nx [.sh p, .sh (.int size), .own (foundP ns), .dead, .dead] .non := hL
    simp [fi_lot_of, e, env0, slotOf, hi, hq, enum_is, f0, hL, list_found, sorted_ints, tupleP]
theorem s_lot_non (size : Int) : fi_lot_of.sem [.non, .int size] .non = .exc "BadLot" ["place"] [.int (-1)] .non := by
  have hi : isiP ["list", "tuple"] .non = some false := rfl
  simp [fi_lot_of, g_lot_of, env0, slotOf, hi]
end KI.K10

/-! part P10d -/
set_option Elab.async false
set_option linter.all false
set_option maxRecDepth 100000
set_option maxHeartbeats 1000000
namespace KI.K10
open PySem PySem.Spec PyProof.Rows L2 KI
/-! ## flags -/
def setAll (b : Bool) (ns : List Nat) (w : List Bool) : List Bool := ns.foldl (fun w j => w.set j b) w
theorem setAll_length (b : Bool) : ∀ (ns : List Nat) (w : List Bool), (setAll b ns w).length = w.length
  | [], w => rfl
  | n :: ns, w => by show (setAll b ns (w.set n b)).length = _; rw [setAll_length, List.length_set]
theorem wh_set (b : Bool) (w : List Bool) (i j : Nat) (hi : i < w.length) : wh (w.set i b) j = if i = j then b else wh w j := by
  unfold wh
  rw [List.getD_eq_getElem?_getD, List.getD_eq_getElem?_getD, List.getElem?_set]
  by_cases h : i = j
  · subst h; simp [hi]
  · simp [h]
theorem wh_setAll (b : Bool) : ∀ (ns : List Nat) (w : List Bool) (j : Nat), (∀ n ∈ ns, n < w.length) → wh (setAll b ns w) j = if j ∈ ns then b else wh w j
  | [], w, j, _ => by simp [setAll]
  | n :: ns, w, j, h => by
    show wh (setAll b ns (w.set n b)) j = _
    rw [wh_setAll b ns _ j (fun m hm => by rw [List.length_set]; exact h m (List.mem_cons_of_mem _ hm)), wh_set b w n j (h n List.mem_cons_self)]
    by_cases h1 : j ∈ ns
    · simp [h1]
    · by_cases h2 : n = j
      · subst h2; simp
      · have h3 : ¬ j = n := fun z => h2 z.symm
        simp [h1, h2, h3]
theorem set_bls (w : List Bool) (j : Nat) (b : Bool) : (bls w).set j (.bl b) = bls (w.set j b) := by
  unfold bls; rw [List.map_set]
theorem ixN_nat {n j : Nat} (h : j < n) : L2.ixN n (j : Int) = some j := by
  unfold L2.ixN
  rw [if_pos (by omega), if_pos (by omega)]
  simp
theorem rep1_bl (b : Bool) : ∀ n : Nat, rep1 [.bl b] n = bls (List.replicate n b)
  | 0 => rfl
  | n + 1 => by
    show (List.replicate (n + 1) [PV.bl b]).flatten = _
    rw [List.replicate_succ, List.flatten_cons]
    show _ ++ rep1 [.bl b] n = _
    rw [rep1_bl b n, List.replicate_succ]; rfl
theorem mul_bl (b : Bool) (n : Nat) (hn : n ≤ sizeLine) : mulL (.lst [.bl b]) (.int (n : Int)) = some (.lst (bls (List.replicate n b))) := by
  have hs : sizeLine = 16777216 := sizeLine_eq
  unfold mulL
  dsimp only
  rw [if_pos ⟨by omega, by omega, by simp; omega⟩, Int.toNat_natCast, rep1_bl]
def flagB : SF := (seqS (setIx 2 (cE (.bl true)) (vE 3)) (fun env st => .nx (killS [3] env) st))
theorem flag_loop (p q : Slot) : ∀ (ns : List Nat) (w : List Bool), (∀ n ∈ ns, n < w.length) → forL (nameG 3) flagB (nts ns) [p, q, .own (.lst (bls w)), .dead] .non = .nx [p, q, .own (.lst (bls (setAll true ns w))), .dead] .non
  | [], w, _ => rfl
  | n :: ns, w, h => by
    have hb : forL (nameG 3) flagB (nts (n :: ns)) [p, q, .own (.lst (bls w)), .dead] .non = (match flagB [p, q, .own (.lst (bls w)), .sh (.int (n : Int))] .non with
      | .nx env2 st2 => forL (nameG 3) flagB (nts ns) env2 st2
      | .ct env2 st2 => forL (nameG 3) flagB (nts ns) env2 st2
      | .brk env2 st2 => .nx env2 st2
      | r => r) := rfl
    have hn := h n List.mem_cons_self
    have e : flagB [p, q, .own (.lst (bls w)), .sh (.int (n : Int))] .non = .nx [p, q, .own (.lst (bls (w.set n true))), .dead] .non := by
      have hi : L2.ixN (bls w).length (n : Int) = some n := ixN_nat (by simpa using hn)
      simp [flagB, ixN_nat hn, set_bls]
    rw [hb, e]
    exact flag_loop p q ns (w.set n true) fun m hm => by rw [List.length_set]; exact h m (List.mem_cons_of_mem _ hm)
@[simp] theorem frz2 (a b : Slot) (p : PV) (r : SEnv) : frzE 2 (a :: b :: .own p :: r) = a :: b :: .sh p :: r := (rfl)
theorem opE_by {g : PV → PV → Option PV} {fa fb : EF} {env : SEnv} {st st1 st2 a b z : PV} (h1 : fa env st = .ok a st1) (h2 : fb env st1 = .ok b st2) (h3 : g a b = some z) : opE g fa fb env st = .ok z st2 := by
  rw [opE_ap, h1, ER.bind_ok, h2, ER.bind_ok, h3]
theorem s1 : (1 : Nat) ≤ sizeLine := by decide
theorem c_flags_of (ns : List Nat) (n : Nat) (st : PV) (h : ∀ m ∈ ns, m < n) (hn : n ≤ sizeLine) : callK fi_flags_of [.tup (nts ns), .int (n : Int)] st = .ok (.lst (bls (setAll true ns (List.replicate n false)))) st := by
  rw [callK_val]
  have e : g_flags_of = (seqS (setO 2 (opE mulL (lstE (consA (cE (.bl false)) nilA)) (vR 1))) (seqS (forS (seqA (vE 0)) (nameG 3) flagB) (fun env st => (seqS (retS (vE 2)) nxS) (frzE 2 env) st))) := rfl
  have hL := flag_loop (.sh (.tup (nts ns))) (.sh (.int (n : Int))) ns (List.replicate n false) (fun m hm => by simpa using h m hm)
  have e2 : fi_flags_of.sem [.tup (nts ns), .int (n : Int)] .non = .ok (.lst (bls (setAll true ns (List.replicate n false)))) .non := by
    have k2 : opE mulL (lstE (consA (cE (.bl false)) nilA)) (vR 1) [.sh (.tup (nts ns)), .sh (.int (n : Int)), .dead, .dead] .non = .ok (.lst (bls (List.replicate n false))) .non := opE_by (a := .lst [.bl false]) (b := .int (n : Int)) (st1 := .non) (by simp [s1]) (by simp) (mul_bl false n hn)
    simp [fi_flags_of, e, env0, slotOf, -opE_ap, k2, seqP, hL]
  rw [e2]
end KI.K10

/-! part P10e -/
set_option Elab.async false
set_option linter.all false
set_option maxRecDepth 100000
set_option maxHeartbeats 1000000
namespace KI.K10
open PySem PySem.Spec PyProof.Rows L2 KI
/-! ## Table(n, lines) -/
theorem c_size_of (n : Nat) (st : PV) : callK fi_size_of [.int (n : Int)] st = .ok (.int (n : Int)) st := by
  rw [callK_val]
  have h : ¬ ((n : Int) < 0) := by omega
  have e : fi_size_of.sem [.int (n : Int)] .non = .ok (.int (n : Int)) .non := by
    simp [fi_size_of, g_size_of, env0, slotOf, h, borOk]
  rw [e]
theorem c_count (n : Nat) (st : PV) (hn : n ≤ 600) : callK fi_count_of_columns [.int (n : Int)] st = .ok (.int (n : Int)) st := by
  rw [callK_val]
  have h : ¬ (600 < (n : Int)) := by omega
  have e : fi_count_of_columns.sem [.int (n : Int)] .non = .ok (.int (n : Int)) .non := by
    simp [fi_count_of_columns, g_count_of_columns, env0, slotOf, c_size_of, h, borOk]
  rw [e]
def gSnd : PV → PV
  | .tup [_, p] => p
  | p => p
def lines (ls : List (List Nat)) : List PV := ls.map fun l => tx l
@[simp] theorem lines_length (ls : List (List Nat)) : (lines ls).length = ls.length := by simp [lines]
theorem enum_lines (ps : List PV) : (enumPs ps).map gSnd = ps := by
  unfold enumPs
  rw [List.map_map]
  have : (gSnd ∘ fun x : PV × Nat => PV.tup [.int (x.2 : Nat), x.1]) = Prod.fst := by funext x; rfl
  rw [this, List.zipIdx_map_fst]
theorem col_ne_lin : ¬ (Str.ofString "columns" = Str.ofString "lines") := by decide +kernel
theorem s_init (n : Nat) (ls : List (List Nat)) (hn : n ≤ 600) (hl : ls.length ≤ 800) (h : ∀ l ∈ ls, LineOk n l) : fi_Table_init.sem [.non, .int (n : Int), .lst (lines ls)] (.ins "Table" [] []) = .ok .non (tb n ls) := by
  have hs : sizeLine = 16777216 := sizeLine_eq
  have h1 : lcL (pairG 3 4) yesT (callE fi_check_line [] (consA (vE 4) (consA (vE 1) (consA (vE 3) nilA)))) [.mt, .sh (.int (n : Int)), .sh (.lst (lines ls)), .dead, .dead] (enumPs (lines ls)) (.ins "Table" ["columns"] [.int (n : Int)]) = .ok (lines ls) (.ins "Table" ["columns"] [.int (n : Int)]) := by
    rw [lcL_pure (fun _ => true) gSnd]
    · rw [List.filter_eq_self.mpr (fun _ _ => rfl), enum_lines]
    · intro p hp
      obtain ⟨i, hi⟩ := List.getElem?_of_mem hp
      obtain ⟨q, hq, rfl⟩ := enum_at hi
      obtain ⟨l, hlm, rfl⟩ := List.mem_map.mp (List.mem_of_getElem? hq)
      refine ⟨_, rfl, by simp, fun _ => ?_⟩
      have := c_check_line l n i (.ins "Table" ["columns"] [.int (n : Int)]) (h l hlm) (by omega)
      simp [borOk, this, gSnd]
  have h2 : (enumPs (lines ls)).length ≤ sizeLine := by rw [enumPs_length]; simp; omega
  have h3 : ¬ (800 < ((ls.length : Nat) : Int)) := by omega
  have h4 : isiP ["list", "tuple"] (.lst (lines ls)) = some true := rfl
  simp [fi_Table_init, g_Table_init, env0, slotOf, c_count n _ hn, h4, lenP, h3, seqP, calmAt, h2, putN, putV, borOk, h1, tupleP, hasMt, col_ne_lin, tb]
  rfl
theorem mk_table (n : Nat) (ls : List (List Nat)) (st : PV) (hn : n ≤ 600) (hl : ls.length ≤ 800) (h : ∀ l ∈ ls, LineOk n l) : makeK "Table" fi_Table_init [.int (n : Int), .lst (lines ls)] st = .ok (tb n ls) st := by
  unfold makeK
  rw [s_init n ls hn hl h]
  rfl
end KI.K10

/-! part P10f -/
set_option Elab.async false
set_option linter.all false
set_option maxRecDepth 100000
set_option maxHeartbeats 2000000
namespace KI.K10
open PySem PySem.Spec PyProof.Rows L2 KI
/-! ## is_forcing -/
def TabOk (n : Nat) (ls : List (List Nat)) : Prop := n ≤ 600 ∧ ls.length ≤ 800 ∧ ∀ l ∈ ls, LineOk n l
def stepI (ls : List (List Nat)) (w : List Bool) (r c : Int) : Bool := if 0 ≤ r ∧ r < ls.length then (match forcedR (ln ls r.toNat) (touchC (ln ls r.toNat)) w with
  | some j => (j : Int) == c
  | none => false) else false
def stepB (ls : List (List Nat)) (w : List Bool) : PV → Bool
  | .tup [.int r, .int c] => stepI ls w r c
  | .lst [.int r, .int c] => stepI ls w r c
  | _ => false
def pairOk : PV → Bool
  | .tup ps => ps.all notIns
  | .lst ps => ps.all notIns
  | .scr _ => false
  | q => notIns q
theorem TabOk.line {n : Nat} {ls : List (List Nat)} (h : TabOk n ls) {r : Nat} (hr : r < ls.length) : (ln ls r).length = n ∧ n ≤ sizeLine := by
  have hs : sizeLine = 16777216 := sizeLine_eq
  have hm : ln ls r ∈ ls := List.mem_of_getElem? (ln_at hr)
  exact ⟨(h.2.2 _ hm).1, by have := h.1; omega⟩
theorem touchC_lt {l : List Nat} {j : Nat} (h : j ∈ touchC l) : j < l.length := List.mem_range.mp (List.mem_filter.mp h).1
theorem touchC_len (l : List Nat) : (touchC l).length ≤ l.length := by
  have := List.length_filter_le (fun j => touched (mk l j)) (List.range l.length)
  rwa [List.length_range] at this
theorem c_forced_at {n : Nat} {ls : List (List Nat)} (h : TabOk n ls) {r : Nat} (hr : r < ls.length) (w : List Bool) (hw : w.length = n) (st : PV) :
    callK fi_forced_now [tx (ln ls r), .tup (nts (touchC (ln ls r))), .lst (bls w)] st = .ok (optI (forcedR (ln ls r) (touchC (ln ls r)) w)) st := by
  obtain ⟨h1, h2⟩ := h.line hr
  exact c_forced_now _ _ _ _ (fun j hj => ⟨by rw [hw, ← h1]; exact touchC_lt hj, touchC_lt hj⟩) (by omega) (by have := touchC_len (ln ls r); omega)
theorem eq_opt (o : Option Nat) (c : Int) : eqP (optI o) (.int c) = some (match o with
  | some j => (j : Int) == c
  | none => false) := by
  cases o with
  | none => exact eqP_non_int c
  | some j => exact eqP_int _ _
def midS : SF := (seqS (ifS (orT (notT (truT (callE fi_is_whole [] (consA (vE 3) nilA)))) (orT (notT (truT (callE fi_is_whole [] (consA (vE 4) nilA)))) (orT (cmpT ltP (vR 3) (cE (.int 0))) (cmpT geP (vR 3) (lenM ["Table"] fi_Table_len (vR 0)))))) (seqS (retS (cE (.bl false))) nxS) nxS) (seqS (retS (cmpE eqP (callE fi_forced_now [] (consA (opE ixP (fldE ["Table"] "lines" (vR 0)) (vR 3)) (consA (methE ["Table"] "touches" fi_Table_touches [] (vR 0) (consA (vE 3) nilA)) (consA (vR 2) nilA)))) (vR 4))) nxS))
theorem tab_in : (Str.ofString "Table") ∈ [Str.ofString "Table"] := by simp
theorem lenM_by {cs : List Str} {fi : FnI} {fo : EF} {env : SEnv} {st st1 s c} {ns : List Str} {ps : List PV} {n : Int} (he : fo env st = .ok (.ins c ns ps) st1) (hc : c ∈ cs) (hs : fi.sem [.ins c ns ps] .non = .ok (.int n) s) (h0 : 0 ≤ n) (h1 : n < 2 ^ 63) : lenM cs fi fo env st = .ok (.int n) st1 := by
  rw [lenM_ap, he]
  simp only [ER.bind_ok, hc, hs, h0, h1, and_self, if_true]
theorem m_len {n : Nat} {ls : List (List Nat)} (h : TabOk n ls) (env : SEnv) (i : Nat) (st : PV) (he : vR i env st = .ok (tb n ls) st) : lenM ["Table"] fi_Table_len (vR i) env st = .ok (.int (ls.length : Nat)) st :=
  lenM_by he tab_in (s_len n ls) (by omega) (by have := h.2.1; omega)
theorem m_touches {n : Nat} {ls : List (List Nat)} (h : TabOk n ls) (env : SEnv) (i : Nat) (fa : AF) (r : Nat) (hr : r < ls.length) (st : PV) (he : vR i env st = .ok (tb n ls) st) (ha : fa env st = .ok [.int (r : Int)] st) : methE ["Table"] "touches" fi_Table_touches [] (vR i) fa env st = .ok (.tup (nts (touchC (ln ls r)))) st := by
  obtain ⟨h1, h2⟩ := h.line hr
  rw [methE_ap, he, ER.bind_ok]
  show (if _ then ((fa env st).bind fun qs st2 => callK fi_Table_touches (tb n ls :: (qs ++ [])) st2) else ER.stuck) = _
  rw [if_pos ⟨tab_in, by decide +kernel⟩, ha, ER.bind_ok]
  exact c_touches n ls r st hr (by omega)
theorem mid_eq {n : Nat} {ls : List (List Nat)} (h : TabOk n ls) (w : List Bool) (hw : w.length = n) (q a b : PV) (ha : notIns a = true) (hb : notIns b = true) :
    midS [.sh (tb n ls), .sh q, .bor (.lst (bls w)), .sh a, .sh b] .non = .ret (.bl (stepB ls w (.tup [a, b]))) false [.sh (tb n ls), .sh q, .bor (.lst (bls w)), .sh a, .sh b] .non := by
  by_cases hwa : whole a = true
  · by_cases hwb : whole b = true
    · cases a <;> first
        | (cases hwa; done)
        | skip
      cases b <;> first
        | (cases hwb; done)
        | skip
      rename_i r c
      have e0 : stepB ls w (.tup [.int r, .int c]) = stepI ls w r c := rfl
      rw [e0]
      by_cases h1 : r < 0
      · have e : stepI ls w r c = false := if_neg (by omega)
        rw [e]
        simp [midS, h1, -lenM_ap, -methE_ap]
      · have hm := m_len h [.sh (tb n ls), .sh q, .bor (.lst (bls w)), .sh (.int r), .sh (.int c)] 0 .non (by simp)
        by_cases h2 : (ls.length : Int) ≤ r
        · have e : stepI ls w r c = false := if_neg (by omega)
          rw [e]
          simp [midS, h1, -lenM_ap, -methE_ap, hm, h2]
        · obtain ⟨j, rfl⟩ : ∃ j : Nat, r = (j : Int) := ⟨r.toNat, by omega⟩
          have hj : j < ls.length := by omega
          have h0 : ¬ ((j : Int) < 0) := by omega
          have ht := m_touches h [.sh (tb n ls), .sh q, .bor (.lst (bls w)), .sh (.int (j : Int)), .sh (.int c)] 0 (consA (vE 3) nilA) j hj .non (by simp) (by simp [borOk])
          have e : stepI ls w (j : Int) c = (match forcedR (ln ls j) (touchC (ln ls j)) w with
            | some j => (j : Int) == c
            | none => false) := by unfold stepI; rw [if_pos ⟨by omega, by omega⟩, Int.toNat_natCast]
          rw [e]
          simp [midS, h0, -lenM_ap, hm, h2, -methE_ap, ht, fld_lines, ix_lines hj, c_forced_at h hj w hw, eq_opt]
    · have e : stepB ls w (.tup [a, b]) = false := by cases a <;> cases b <;> first | rfl | (exfalso; exact hwb rfl)
      rw [e]
      have hb' : whole b = false := by simpa using hwb
      simp [midS, c_is_whole a .non ha, c_is_whole b .non hb, hwa, hb', -lenM_ap, -methE_ap]
  · have e : stepB ls w (.tup [a, b]) = false := by cases a <;> cases b <;> first | rfl | (exfalso; exact hwa rfl)
    rw [e]
    have ha' : whole a = false := by simpa using hwa
    simp [midS, c_is_whole a .non ha, ha', -lenM_ap, -methE_ap]
end KI.K10

/-! part P10g -/
set_option Elab.async false
set_option linter.all false
set_option maxRecDepth 100000
set_option maxHeartbeats 2000000
namespace KI.K10
open PySem PySem.Spec PyProof.Rows L2 KI
theorem forcing_eq : g_is_forcing = (seqS (ifS (orT (notT (truT (isiE ["list", "tuple"] (vR 1)))) (cmpT neP (biE lenP (consA (vR 1) nilA)) (cE (.int 2)))) (seqS (retS (cE (.bl false))) nxS) nxS) (seqS (asgS (vE 1) (upG [3, 4])) midS)) := rfl
theorem isi_seq (ps : List PV) : isiP ["list", "tuple"] (.lst ps) = some true ∧ isiP ["list", "tuple"] (.tup ps) = some true := ⟨rfl, rfl⟩
theorem forcing_tup {n : Nat} {ls : List (List Nat)} (h : TabOk n ls) (w : List Bool) (hw : w.length = n) (ps : List PV) (hp : ps.all notIns = true) :
    fi_is_forcing.sem [tb n ls, .tup ps, .lst (bls w)] .non = .ok (.bl (stepB ls w (.tup ps))) .non := by
  match ps, hp with
  | [], _ => simp [fi_is_forcing, forcing_eq, env0, slotOf, (isi_seq _).2, lenP, neP_int, stepB]
  | [a], _ => simp [fi_is_forcing, forcing_eq, env0, slotOf, (isi_seq _).2, lenP, neP_int, stepB]
  | [a, b], hp =>
    have ha : notIns a = true := by simp at hp; exact hp.1
    have hb : notIns b = true := by simp at hp; exact hp.2
    have hm := mid_eq h w hw (.tup [a, b]) a b ha hb
    simp [fi_is_forcing, forcing_eq, env0, slotOf, (isi_seq _).2, lenP, neP_int, upG, setL, hm]
  | a :: b :: c :: r, _ =>
    have k : ¬ ((r.length : Int) + 1 + 1 + 1 = 2) := by omega
    simp [fi_is_forcing, forcing_eq, env0, slotOf, (isi_seq _).2, lenP, neP_int, stepB, k]
theorem forcing_lst {n : Nat} {ls : List (List Nat)} (h : TabOk n ls) (w : List Bool) (hw : w.length = n) (ps : List PV) (hp : ps.all notIns = true) :
    fi_is_forcing.sem [tb n ls, .lst ps, .lst (bls w)] .non = .ok (.bl (stepB ls w (.lst ps))) .non := by
  match ps, hp with
  | [], _ => simp [fi_is_forcing, forcing_eq, env0, slotOf, (isi_seq _).1, lenP, neP_int, stepB]
  | [a], _ => simp [fi_is_forcing, forcing_eq, env0, slotOf, (isi_seq _).1, lenP, neP_int, stepB]
  | [a, b], hp =>
    have ha : notIns a = true := by simp at hp; exact hp.1
    have hb : notIns b = true := by simp at hp; exact hp.2
    have hm := mid_eq h w hw (.lst [a, b]) a b ha hb
    have e : stepB ls w (.lst [a, b]) = stepB ls w (.tup [a, b]) := by cases a <;> cases b <;> rfl
    rw [e]
    simp [fi_is_forcing, forcing_eq, env0, slotOf, (isi_seq _).1, lenP, neP_int, upG, setL, hm]
  | a :: b :: c :: r, _ =>
    have k : ¬ ((r.length : Int) + 1 + 1 + 1 = 2) := by omega
    simp [fi_is_forcing, forcing_eq, env0, slotOf, (isi_seq _).1, lenP, neP_int, stepB, k]
theorem s_is_forcing {n : Nat} {ls : List (List Nat)} (h : TabOk n ls) (w : List Bool) (hw : w.length = n) (q : PV) (hq : pairOk q = true) :
    fi_is_forcing.sem [tb n ls, q, .lst (bls w)] .non = .ok (.bl (stepB ls w q)) .non := by
  cases q with
  | tup ps => exact forcing_tup h w hw ps hq
  | lst ps => exact forcing_lst h w hw ps hq
  | ins c ns ps => cases hq
  | dct ks ps =>
    have hi : isiP ["list", "tuple"] (.dct ks ps) = some false := rfl
    simp [fi_is_forcing, forcing_eq, env0, slotOf, hi, stepB]
  | scr ns => cases hq
  | non =>
    have hi : isiP ["list", "tuple"] .non = some false := rfl
    simp [fi_is_forcing, forcing_eq, env0, slotOf, hi, stepB]
  | bl b =>
    have hi : isiP ["list", "tuple"] (.bl b) = some false := rfl
    simp [fi_is_forcing, forcing_eq, env0, slotOf, hi, stepB]
  | int i =>
    have hi : isiP ["list", "tuple"] (.int i) = some false := rfl
    simp [fi_is_forcing, forcing_eq, env0, slotOf, hi, stepB]
  | str x =>
    have hi : isiP ["list", "tuple"] (.str x) = some false := rfl
    simp [fi_is_forcing, forcing_eq, env0, slotOf, hi, stepB]
end KI.K10

/-! part P10h -/
set_option Elab.async false
set_option linter.all false
set_option maxRecDepth 100000
set_option maxHeartbeats 2000000
namespace KI.K10
open PySem PySem.Spec PyProof.Rows L2 KI
/-! ## shows_forced -/
def colN : PV → Nat
  | .tup [_, .int c] => c.toNat
  | .lst [_, .int c] => c.toNat
  | _ => 0
/-- the flags behind a paper, if each pair forces -/
def runF (ls : List (List Nat)) : List Bool → List PV → Option (List Bool)
  | w, [] => some w
  | w, q :: qs => if stepB ls w q = true then runF ls (w.set (colN q) false) qs else none
theorem step_col {n : Nat} {ls : List (List Nat)} (h : TabOk n ls) {w : List Bool} (hw : w.length = n) {q : PV} (hs : stepB ls w q = true) : colN q < n ∧ ixP q (.int 1) = some (.int (colN q : Int)) := by
  have key : ∀ r c : Int, stepI ls w r c = true → ∃ j : Nat, c = (j : Int) ∧ j < n := fun r c hs => by
    unfold stepI at hs
    split at hs
    · rename_i hr
      split at hs
      · rename_i j hj
        refine ⟨j, (by simpa using hs : (j : Int) = c).symm, ?_⟩
        obtain ⟨h1, _⟩ := h.line (r := r.toNat) (by omega)
        unfold forcedR at hj
        have : j ∈ (touchC (ln ls r.toNat)).filter fun j => wh w j := by
          unfold oneHard at hj
          split at hj
          · rename_i k hk
            split at hj
            · cases hj; rw [hk]; simp
            · cases hj
          · cases hj
        have := touchC_lt (List.mem_filter.mp this).1
        omega
      · cases hs
    · cases hs
  unfold stepB at hs
  split at hs
  · obtain ⟨j, rfl, hj⟩ := key _ _ hs
    exact ⟨by simpa [colN] using hj, by simp [colN]; rfl⟩
  · obtain ⟨j, rfl, hj⟩ := key _ _ hs
    exact ⟨by simpa [colN] using hj, by simp [colN]; rfl⟩
  · cases hs
def showB : SF := (seqS (ifS (notT (truT (callE fi_is_forcing [] (consA (vE 0) (consA (vE 6) (consA (vR 5) nilA)))))) (seqS (retS (cE (.bl false))) nxS) nxS) (seqS (setIx 5 (cE (.bl false)) (opE ixP (vR 6) (cE (.int 1)))) (fun env st => .nx (killS [6] env) st)))
theorem show_loop {n : Nat} {ls : List (List Nat)} (h : TabOk n ls) (b c d e f : Slot) : ∀ (qs : List PV) (w : List Bool), w.length = n → (∀ q ∈ qs, pairOk q = true) →
    (match runF ls w qs with
    | some w' => w'.length = n ∧ forL (nameG 6) showB qs [.sh (tb n ls), b, c, d, e, .own (.lst (bls w)), .dead, f] .non = .nx [.sh (tb n ls), b, c, d, e, .own (.lst (bls w')), .dead, f] .non
    | none => ∃ env', forL (nameG 6) showB qs [.sh (tb n ls), b, c, d, e, .own (.lst (bls w)), .dead, f] .non = .ret (.bl false) false env' .non)
  | [], w, hw, _ => ⟨hw, rfl⟩
  | q :: qs, w, hw, hq => by
    have hb : forL (nameG 6) showB (q :: qs) [.sh (tb n ls), b, c, d, e, .own (.lst (bls w)), .dead, f] .non = (match showB [.sh (tb n ls), b, c, d, e, .own (.lst (bls w)), .sh q, f] .non with
      | .nx env2 st2 => forL (nameG 6) showB qs env2 st2
      | .ct env2 st2 => forL (nameG 6) showB qs env2 st2
      | .brk env2 st2 => .nx env2 st2
      | r => r) := rfl
    have hc : callK fi_is_forcing [tb n ls, q, .lst (bls w)] .non = .ok (.bl (stepB ls w q)) .non := by
      rw [callK_val, s_is_forcing h w hw q (hq q List.mem_cons_self)]
    unfold runF
    by_cases hs : stepB ls w q = true
    · rw [if_pos hs]
      obtain ⟨h1, h2⟩ := step_col h hw hs
      have e1 : showB [.sh (tb n ls), b, c, d, e, .own (.lst (bls w)), .sh q, f] .non = .nx [.sh (tb n ls), b, c, d, e, .own (.lst (bls (w.set (colN q) false))), .dead, f] .non := by
        simp [showB, hc, hs, h2, ixN_nat (n := w.length) (by rw [hw]; exact h1), set_bls]
      rw [hb, e1]
      exact show_loop h b c d e f qs (w.set (colN q) false) (by rw [List.length_set]; exact hw) fun q' hq' => hq q' (List.mem_cons_of_mem _ hq')
    · rw [if_neg hs]
      have hs' : stepB ls w q = false := by simpa using hs
      refine ⟨[.sh (tb n ls), b, c, d, e, .own (.lst (bls w)), .sh q, f], ?_⟩
      rw [hb]
      simp [showB, hc, hs']
end KI.K10

/-! part P10i -/
set_option Elab.async false
set_option linter.all false
set_option maxRecDepth 100000
set_option maxHeartbeats 2000000
namespace KI.K10
open PySem PySem.Spec PyProof.Rows L2 KI
abbrev ints' (ns : List Nat) : List Int := ns.map fun (j : Nat) => (j : Int)
theorem lotBad_none {n : Nat} : ∀ (ns : List Nat) (i : Nat) (done : List Int), (∀ m ∈ ns, m < n) → ns.Nodup → (∀ m ∈ ns, (m : Int) ∉ done) → lotBad (n : Int) i done (ints' ns) = none
  | [], _, _, _, _, _ => rfl
  | m :: ns, i, done, h1, h2, h3 => by
    show (if (m : Int) < 0 ∨ (n : Int) ≤ m ∨ (m : Int) ∈ done then some i else lotBad (n : Int) (i + 1) (done ++ [(m : Int)]) (ints' ns)) = none
    have hm := h1 m List.mem_cons_self
    have hd := h3 m List.mem_cons_self
    rw [if_neg (by rintro (z | z | z); · omega
                   · omega
                   · exact hd z)]
    rw [List.nodup_cons] at h2
    refine lotBad_none ns (i + 1) _ (fun k hk => h1 k (List.mem_cons_of_mem _ hk)) h2.2 fun k hk z => ?_
    rcases List.mem_append.mp z with z | z
    · exact h3 k (List.mem_cons_of_mem _ hk) z
    · have : (k : Int) = m := by simpa using z
      have : k = m := by omega
      subst this
      exact h2.1 hk
/-- the sorted lot, as places -/
def sortN (ns : List Nat) : List Nat := (sortI (ints' ns)).map Int.toNat
theorem sortN_mem (ns : List Nat) (j : Nat) : j ∈ sortN ns ↔ j ∈ ns := by
  unfold sortN
  rw [List.mem_map]
  constructor
  · rintro ⟨i, hi, rfl⟩
    have := (sortI_perm (ints' ns)).mem_iff.mp hi
    obtain ⟨k, hk, rfl⟩ := List.mem_map.mp this
    simpa using hk
  · intro h
    exact ⟨(j : Int), (sortI_perm (ints' ns)).mem_iff.mpr (List.mem_map.mpr ⟨j, h, rfl⟩), by simp⟩
theorem sortN_nts (ns : List Nat) : (sortI (ints' ns)).map PV.int = nts (sortN ns) := by
  unfold nts sortN
  rw [List.map_map]
  apply List.map_congr_left
  intro i hi
  have := (sortI_perm (ints' ns)).mem_iff.mp hi
  obtain ⟨k, hk, rfl⟩ := List.mem_map.mp this
  simp
end KI.K10

/-! part P10j -/
set_option Elab.async false
set_option linter.all false
set_option maxRecDepth 100000
set_option maxHeartbeats 2000000
namespace KI.K10
open PySem PySem.Spec PyProof.Rows L2 KI
/-- the flags of what is white at first -/
def white0 (n : Nat) (ns : List Nat) : List Bool := (setAll true (sortN ns) (List.replicate n false)).map (!·)
theorem white0_len (n : Nat) (ns : List Nat) : (white0 n ns).length = n := by unfold white0; rw [List.length_map, setAll_length, List.length_replicate]
theorem wh_white0 {n : Nat} {ns : List Nat} (h : ∀ m ∈ ns, m < n) {j : Nat} (hj : j < n) : wh (white0 n ns) j = !decide (j ∈ ns) := by
  have h1 : (setAll true (sortN ns) (List.replicate n false)).length = n := by rw [setAll_length, List.length_replicate]
  have e : wh (white0 n ns) j = !wh (setAll true (sortN ns) (List.replicate n false)) j := by
    unfold white0 wh
    rw [List.getD_eq_getElem?_getD, List.getD_eq_getElem?_getD, List.getElem?_map, List.getElem?_eq_getElem (by rw [h1]; exact hj)]
    rfl
  rw [e, wh_setAll true _ _ _ (fun m hm => by rw [List.length_replicate]; exact h m ((sortN_mem ns m).mp hm))]
  have e0 : wh (List.replicate n false) j = false := by unfold wh; simp [hj]
  rw [e0]
  by_cases hm : j ∈ ns
  · simp [sortN_mem, hm]
  · simp [sortN_mem, hm]
end KI.K10

/-! part P10l -/
set_option Elab.async false
set_option linter.all false
set_option maxRecDepth 100000
set_option maxHeartbeats 2000000
namespace KI.K10
open PySem PySem.Spec PyProof.Rows L2 KI
def seqOf : PV → Option (List PV)
  | .lst ps => some ps
  | .tup ps => some ps
  | _ => none
/-- the answer of shows_forced -/
def showR (ls : List (List Nat)) (w : List Bool) (at_ : Nat) (paper : PV) : Bool := match seqOf paper with
  | some qs => (match runF ls w qs with
    | some w' => !wh w' at_
    | none => false)
  | none => false
theorem show_eq : g_shows_forced = (seqS (setS 4 (callE fi_place_of [] (consA (vE 1) (consA (fldE ["Table"] "columns" (vR 0)) nilA)))) (seqS (setO 5 (lcE [7] (seqA (callE fi_flags_of [] (consA (callE fi_lot_of [] (consA (vE 3) (consA (fldE ["Table"] "columns" (vR 0)) nilA))) (consA (fldE ["Table"] "columns" (vR 0)) nilA)))) (nameG 7) yesT (notE (vR 7)))) (seqS (ifS (notT (truT (isiE ["list", "tuple"] (vR 2)))) (seqS (retS (cE (.bl false))) nxS) nxS) (seqS (forS (seqA (vE 2)) (nameG 6) showB) (seqS (retS (notE (opE ixP (vR 5) (vR 4)))) nxS))))) := rfl
theorem not_bls (st : PV) (b0 b1 b2 b3 b4 b5 b6 : Slot) : ∀ (w : List Bool), lcL (nameG 7) yesT (notE (vR 7)) [b0, b1, b2, b3, b4, b5, b6, .dead] (bls w) st = .ok (bls (w.map (!·))) st
  | [] => rfl
  | b :: w => by
    have ih := not_bls st b0 b1 b2 b3 b4 b5 b6 w
    show (ER.bind (ER.ok (PV.bl (!b)) st) fun y st2 => (lcL (nameG 7) yesT (notE (vR 7)) [b0, b1, b2, b3, b4, b5, b6, .dead] (bls w) st2).bind fun ys st3 => ER.ok (y :: ys) st3) = _
    rw [ER.bind_ok, ih, ER.bind_ok]
    rfl
theorem s_shows {n : Nat} {ls : List (List Nat)} (h : TabOk n ls) (j : Nat) (hj : j < n) (ns : List Nat) (hns : ∀ m ∈ ns, m < n) (hnd : ns.Nodup) (hz : ns.length ≤ sizeLine) (lot : PV) (hl : lot = .lst ((ints' ns).map .int) ∨ lot = .tup ((ints' ns).map .int)) (paper : PV) (hp : notIns paper = true ∧ (∀ ks ps, paper ≠ .dct ks ps) ∧ (∀ ms, paper ≠ .scr ms)) (hq : ∀ qs, seqOf paper = some qs → ∀ q ∈ qs, pairOk q = true) :
    fi_shows_forced.sem [tb n ls, .int (j : Int), paper, lot] .non = .ok (.bl (showR ls (white0 n ns) j paper)) .non := by
  have hs : sizeLine = 16777216 := sizeLine_eq
  have hn : n ≤ sizeLine := by have := h.1; omega
  have k1 : callK fi_lot_of [lot, .int (n : Int)] .non = .ok (.tup (nts (sortN ns))) .non := by
    rw [callK_val, s_lot_of lot (n : Int) (ints' ns) hl (by simpa using hz)]
    unfold lotR
    rw [lotBad_none ns 0 [] hns hnd (by simp), ← sortN_nts]
  have k2 : callK fi_flags_of [.tup (nts (sortN ns)), .int (n : Int)] .non = .ok (.lst (bls (setAll true (sortN ns) (List.replicate n false)))) .non := c_flags_of _ n _ (fun m hm => hns m ((sortN_mem ns m).mp hm)) hn
  have k3 := not_bls .non (.sh (tb n ls)) (.sh (.int (j : Int))) (.sh paper) (.sh lot) (.sh (.int (j : Int))) .dead .dead (setAll true (sortN ns) (List.replicate n false))
  have k4 : (setAll true (sortN ns) (List.replicate n false)).length ≤ sizeLine := by rw [setAll_length, List.length_replicate]; exact hn
  have k0 := c_place_of j n .non hj
  cases hsq : seqOf paper with
  | none =>
    have e : showR ls (white0 n ns) j paper = false := by unfold showR; rw [hsq]
    have hi : isiP ["list", "tuple"] paper = some false := by
      cases paper <;> first
        | rfl
        | (cases hsq; done)
        | (cases hp.1; done)
        | exact absurd rfl (hp.2.1 _ _)
        | exact absurd rfl (hp.2.2 _)
    rw [e]
    simp [fi_shows_forced, show_eq, env0, slotOf, fld_columns, k0, k1, k2, k3, k4, seqP, calmAt, hi, borOk]
  | some qs =>
    have hi : isiP ["list", "tuple"] paper = some true := by
      cases paper <;> first
        | rfl
        | (cases hsq; done)
    have hP : seqP paper = some qs := by
      cases paper <;> first
        | exact hsq
        | (cases hsq; done)
    have hB : ∀ x, seqP (.lst x) = some x := fun _ => (rfl)
    have hL := show_loop h (.sh (.int (j : Int))) (.sh paper) (.sh lot) (.sh (.int (j : Int))) .dead qs (white0 n ns) (white0_len n ns) (hq qs hsq)
    have hw0 : (setAll true (sortN ns) (List.replicate n false)).map (!·) = white0 n ns := rfl
    rw [hw0] at k3
    unfold showR
    rw [hsq]
    dsimp only
    cases hr : runF ls (white0 n ns) qs with
    | none =>
      rw [hr] at hL
      obtain ⟨env', hL⟩ := hL
      simp [fi_shows_forced, show_eq, env0, slotOf, fld_columns, k0, k1, k2, k3, k4, calmAt, hi, borOk, hB, hP, hL]
    | some w' =>
      rw [hr] at hL
      obtain ⟨h1, hL⟩ := hL
      have hx := ix_bls (w := w') (j := j) (by rw [h1]; exact hj)
      simp [fi_shows_forced, show_eq, env0, slotOf, fld_columns, k0, k1, k2, k3, k4, calmAt, hi, borOk, hB, hP, hL, hx]
end KI.K10

/-! part P10m -/
set_option Elab.async false
set_option linter.all false
set_option maxRecDepth 100000
set_option maxHeartbeats 2000000
namespace KI.K10
open PySem PySem.Spec PyProof.Rows L2 KI
/-- the place is asked first -/
theorem s_shows_place {n : Nat} {ls : List (List Nat)} (col paper lot : PV) (hc : notIns col = true) (hb : borOk col = true) {c : Str} {xs : List Str} {ps : List PV} (he : placeR col (n : Int) = .exc c xs ps .non) :
    fi_shows_forced.sem [tb n ls, col, paper, lot] .non = .exc c xs ps .non := by
  have k0 : callK fi_place_of [col, .int (n : Int)] .non = .exc c xs ps .non := by rw [callK_val, s_place_of col (n : Int) hc, he]
  simp [fi_shows_forced, show_eq, env0, slotOf, fld_columns, k0, hb]
/-- then the lot -/
theorem s_shows_lot {n : Nat} {ls : List (List Nat)} (j : Nat) (hj : j < n) (paper lot : PV) {c : Str} {xs : List Str} {ps : List PV} (he : fi_lot_of.sem [lot, .int (n : Int)] .non = .exc c xs ps .non) :
    fi_shows_forced.sem [tb n ls, .int (j : Int), paper, lot] .non = .exc c xs ps .non := by
  have k0 := c_place_of j n .non hj
  have k1 : callK fi_lot_of [lot, .int (n : Int)] .non = .exc c xs ps .non := by rw [callK_val, he]
  simp [fi_shows_forced, show_eq, env0, slotOf, fld_columns, k0, k1, borOk]
end KI.K10

/-! part P10n -/
set_option Elab.async false
set_option linter.all false
set_option maxRecDepth 100000
set_option maxHeartbeats 2000000
namespace KI.K10
open PySem PySem.Spec PyProof.Rows L2 KI
def natF (f : Nat → Bool) : PV → Bool
  | .int i => f i.toNat
  | _ => false
@[simp] theorem natF_nat (f : Nat → Bool) (j : Nat) : natF f (.int (j : Int)) = f j := by simp [natF]
theorem filter_natF (cols : List Nat) (f : Nat → Bool) : (nts cols).filter (natF f) = nts (cols.filter f) := by
  induction cols with
  | nil => rfl
  | cons j cols ih =>
    rw [nts_cons, List.filter_cons, List.filter_cons, ih, natF_nat]
    split <;> rfl
/-! ## the law's own reading of a row -/
def loneR (l lot : List Nat) : Option Nat := oneHard l (lot.filter fun j => touched (mk l j))
theorem in_ft (c : Nat) : inP false (ch c) (.str "ft") = some (hard c) := by
  show some (if false = true then _ else decide (c ∈ ("ft" : Str).cps.toList)) = _
  rw [show ("ft" : Str) = ⟨#[102, 116]⟩ from by decide +kernel]
  simp [hard]
  rfl
theorem eqP_str (x y : Str) (hx : PyData.canLay0 (.str x) = true) (hy : PyData.canLay0 (.str y) = true) : eqP (.str x) (.str y) = some (x == y) := by
  unfold eqP eqB okD toD
  simp [SeqAt.shaped, PyData.eqv, hx, hy, PyData.depth]
theorem lit_l : ("l" : Str) = ⟨#[108]⟩ := by decide +kernel
theorem eq_l {c : Nat} (h : c = 46 ∨ touched c = true) : eqP (ch c) (.str "l") = some (c == 108) := by
  have := mark_lt h
  rw [eqP_str]
  · rw [lit_l]
    by_cases e : c = 108
    · subst e; simp
    · rw [show (c == 108) = false from by simpa using e]
      simp [e]
  · show PyData.strOk _ = true
    simp [PyData.strOk]; omega
  · rw [lit_l]; show PyData.strOk _ = true; decide +kernel
theorem mk_mem {l : List Nat} {j : Nat} (h : j < l.length) : mk l j ∈ l := List.mem_of_getElem? (mk_at h)
theorem lone_eq (l lot : List Nat) : loneR l lot = (match lot.filter (fun j => hard (mk l j)), lot.filter (fun j => mk l j == 108) with
  | [j], [] => some j
  | _, _ => none) := by
  have h1 : lot.filter (fun j => hard (mk l j)) = (lot.filter fun j => touched (mk l j)).filter fun j => hard (mk l j) := by
    rw [List.filter_filter]
    apply List.filter_congr
    intro j _
    unfold hard touched
    cases mk l j == 102 <;> cases mk l j == 116 <;> cases mk l j == 108 <;> rfl
  have h2 : lot.filter (fun j => mk l j == 108) = (lot.filter fun j => touched (mk l j)).filter fun j => mk l j == 108 := by
    rw [List.filter_filter]
    apply List.filter_congr
    intro j _
    unfold touched
    cases mk l j == 102 <;> cases mk l j == 116 <;> cases mk l j == 108 <;> rfl
  have h3 : ∀ j ∈ (lot.filter fun j => touched (mk l j)), touched (mk l j) = true := fun j hj => (List.mem_filter.mp hj).2
  rw [h1, h2]
  unfold loneR
  generalize (lot.filter fun j => touched (mk l j)) = S at h3 ⊢
  have h4 : ∀ {c : Nat}, touched c = true → hard c = false → (c == 108) = true := fun {c} h h' => by
    unfold touched at h; unfold hard at h'
    revert h h'
    cases c == 102 <;> cases c == 116 <;> cases c == 108 <;> decide
  have h5 : ∀ {c : Nat}, hard c = true → (c == 108) = false := fun {c} h => by
    unfold hard at h
    simp only [Bool.or_eq_true, beq_iff_eq] at h
    rcases h with rfl | rfl <;> rfl
  match S, h3 with
  | [], _ => rfl
  | [j], h3 =>
    have ht := h3 j (by simp)
    cases hh : hard (mk l j) with
    | true => simp [oneHard, hh, h5 hh]
    | false => simp [oneHard, hh]
  | a :: b :: r, h3 =>
    have ha := h3 a (by simp)
    have hb := h3 b (by simp)
    have e0 : oneHard l (a :: b :: r) = none := rfl
    rw [e0]
    have key : ∀ (H L : List Nat), L ≠ [] → none = (match H, L with
      | [j], [] => some j
      | _, _ => none) := fun H L hL => by
      cases L with
      | nil => exact absurd rfl hL
      | cons x xs => cases H with
        | nil => rfl
        | cons y ys => cases ys <;> rfl
    cases hha : hard (mk l a) with
    | false =>
      refine key _ _ fun z => ?_
      have : a ∈ (a :: b :: r).filter fun j => mk l j == 108 := List.mem_filter.mpr ⟨by simp, h4 ha hha⟩
      rw [z] at this; cases this
    | true =>
      cases hhb : hard (mk l b) with
      | false =>
        refine key _ _ fun z => ?_
        have : b ∈ (a :: b :: r).filter fun j => mk l j == 108 := List.mem_filter.mpr ⟨by simp, h4 hb hhb⟩
        rw [z] at this; cases this
      | true =>
        simp [List.filter_cons, hha, hhb]
theorem s_lone (l lot : List Nat) (hl : l.length ≤ sizeLine) (hm : ∀ c ∈ l, c = 46 ∨ touched c = true) (hj : ∀ j ∈ lot, j < l.length) (hz : lot.length ≤ sizeLine) :
    fi__law_lone.sem [tx l, .lst (nts lot)] .non = .ok (optI (loneR l lot)) .non := by
  have h1 : lcL (nameG 4) (cmpT (inP false) (opE ixP (vR 0) (vR 4)) (cE (.str "ft"))) (vE 4) [.sh (tx l), .sh (.lst (nts lot)), .dead, .dead, .dead] (nts lot) .non = .ok (nts (lot.filter fun j => hard (mk l j))) .non := by
    rw [lcL_pure (natF fun j => hard (mk l j)) id]
    · rw [List.map_id, filter_natF lot fun j => hard (mk l j)]
    · intro p hp
      obtain ⟨j, hjm, rfl⟩ := mem_nts hp
      refine ⟨_, rfl, ?_, fun _ => ?_⟩
      · simp [ix_tx (hj j hjm) hl, in_ft]
      · simp
  have h2 : ∀ p : PV, lcL (nameG 4) (cmpT eqP (opE ixP (vR 0) (vR 4)) (cE (.str "l"))) (vE 4) [.sh (tx l), .sh (.lst (nts lot)), .own p, .dead, .dead] (nts lot) .non = .ok (nts (lot.filter fun j => mk l j == 108)) .non := fun p0 => by
    rw [lcL_pure (natF fun j => mk l j == 108) id]
    · rw [List.map_id, filter_natF lot fun j => mk l j == 108]
    · intro p hp
      obtain ⟨j, hjm, rfl⟩ := mem_nts hp
      refine ⟨_, rfl, ?_, fun _ => ?_⟩
      · simp [ix_tx (hj j hjm) hl, eq_l (hm _ (mk_mem (hj j hjm)))]
      · simp
  have h3 : (nts lot).length ≤ sizeLine := by simpa using hz
  rw [lone_eq]
  generalize lot.filter (fun j => hard (mk l j)) = H at h1 ⊢
  generalize lot.filter (fun j => mk l j == 108) = L at h2 ⊢
  match H, L with
  | [], [] => simp [fi__law_lone, g__law_lone, env0, slotOf, seqP, calmAt, hz, h1, h2, lenP, eqP_int, optI]
  | [], b :: s => simp [fi__law_lone, g__law_lone, env0, slotOf, seqP, calmAt, hz, h1, h2, lenP, eqP_int, optI]
  | [a], [] =>
    have k1 : ixP (.lst [.int (a : Int)]) (.int 0) = some (.int (a : Int)) := rfl
    simp [fi__law_lone, g__law_lone, env0, slotOf, seqP, calmAt, hz, h1, h2, lenP, eqP_int, optI, k1]
  | [a], b :: s =>
    have k2 : ¬ ((s.length : Int) + 1 = 0) := by omega
    simp [fi__law_lone, g__law_lone, env0, slotOf, seqP, calmAt, hz, h1, h2, lenP, eqP_int, optI, k2]
  | a :: b :: r, L =>
    have k2 : ¬ ((r.length : Int) + 1 + 1 = 1) := by omega
    simp [fi__law_lone, g__law_lone, env0, slotOf, seqP, calmAt, hz, h1, h2, lenP, eqP_int, optI, k2]
/-- what is white, as a lot -/
def whl (n : Nat) (w : List Bool) : List Nat := (List.range n).filter fun j => wh w j
theorem whl_lt {n : Nat} {w : List Bool} {j : Nat} (h : j ∈ whl n w) : j < n := List.mem_range.mp (List.mem_filter.mp h).1
theorem whl_len (n : Nat) (w : List Bool) : (whl n w).length ≤ n := by
  have := List.length_filter_le (fun j => wh w j) (List.range n)
  rwa [List.length_range] at this
theorem forced_lone {n : Nat} {ls : List (List Nat)} (h : TabOk n ls) {r : Nat} (hr : r < ls.length) (w : List Bool) : forcedR (ln ls r) (touchC (ln ls r)) w = loneR (ln ls r) (whl n w) := by
  obtain ⟨h1, _⟩ := h.line hr
  unfold forcedR loneR touchC whl
  rw [h1, List.filter_filter, List.filter_filter]
  congr 1
  apply List.filter_congr
  intro j _
  rw [Bool.and_comm]
theorem c_lone {n : Nat} {ls : List (List Nat)} (h : TabOk n ls) {r : Nat} (hr : r < ls.length) (lot : List Nat) (hlt : ∀ j ∈ lot, j < n) (hz : lot.length ≤ sizeLine) (st : PV) :
    callK fi__law_lone [tx (ln ls r), .lst (nts lot)] st = .ok (optI (loneR (ln ls r) lot)) st := by
  obtain ⟨h1, h2⟩ := h.line hr
  rw [callK_val, s_lone _ _ (by omega) (h.2.2 _ (List.mem_of_getElem? (ln_at hr))).2.1 (fun j hj => by rw [h1]; exact hlt j hj) hz]
theorem whl_set {n : Nat} {w : List Bool} (hw : w.length = n) {j : Nat} (hj : j < n) : (whl n w).filter (fun k => !decide (k = j)) = whl n (w.set j false) := by
  unfold whl
  rw [List.filter_filter]
  apply List.filter_congr
  intro k _
  rw [wh_set false w j k (by rw [hw]; exact hj)]
  by_cases e : j = k
  · subst e; simp
  · have e' : ¬ k = j := fun z => e z.symm
    simp [e, e']
/-! ## pairs -/
def isPair : PV → Bool
  | .tup [a, b] => whole a && whole b
  | .lst [a, b] => whole a && whole b
  | _ => false
def pairB : SF := (seqS (ifS (orT (notT (truT (isiE ["int"] (vR 1)))) (truT (isiE ["bool"] (vR 1)))) (seqS (retS (cE (.bl false))) nxS) nxS) (fun env st => .nx (killS [1] env) st))
theorem pairB_at (q a : PV) (ha : notIns a = true) : pairB [.sh q, .sh a] .non = if whole a = true then .nx [.sh q, .dead] .non else .ret (.bl false) false [.sh q, .sh a] .non := by
  cases a <;> first
    | (cases ha; done)
    | (simp [pairB, isiP, tyN, tyIs]; done)
    | (simp [pairB, isiP, tyN, tyIs]; rfl)
theorem is_pair_eq : g__law_is_pair = (seqS (ifS (orT (notT (truT (isiE ["list", "tuple"] (vR 0)))) (cmpT neP (biE lenP (consA (vR 0) nilA)) (cE (.int 2)))) (seqS (retS (cE (.bl false))) nxS) nxS) (seqS (forS (seqA (vE 0)) (nameG 1) pairB) (seqS (retS (cE (.bl true))) nxS))) := rfl
theorem pair_loop (q a b : PV) (ha : notIns a = true) (hb : notIns b = true) : (if whole a && whole b then forL (nameG 1) pairB [a, b] [.sh q, .dead] .non = .nx [.sh q, .dead] .non else ∃ env', forL (nameG 1) pairB [a, b] [.sh q, .dead] .non = .ret (.bl false) false env' .non) := by
  have e : forL (nameG 1) pairB [a, b] [.sh q, .dead] .non = (match pairB [.sh q, .sh a] .non with
      | .nx env2 st2 => forL (nameG 1) pairB [b] env2 st2
      | .ct env2 st2 => forL (nameG 1) pairB [b] env2 st2
      | .brk env2 st2 => .nx env2 st2
      | r => r) := rfl
  have e2 : forL (nameG 1) pairB [b] [.sh q, .dead] .non = (match pairB [.sh q, .sh b] .non with
      | .nx env2 st2 => forL (nameG 1) pairB [] env2 st2
      | .ct env2 st2 => forL (nameG 1) pairB [] env2 st2
      | .brk env2 st2 => .nx env2 st2
      | r => r) := rfl
  rw [pairB_at q a ha] at e
  rw [pairB_at q b hb] at e2
  cases hwa : whole a with
  | false =>
    rw [if_neg (by simp)]
    rw [if_neg (by rw [hwa]; simp)] at e
    exact ⟨_, e⟩
  | true =>
    rw [if_pos hwa] at e
    dsimp only at e
    rw [e2] at e
    cases hwb : whole b with
    | false =>
      rw [if_neg (by simp)]
      rw [if_neg (by rw [hwb]; simp)] at e
      exact ⟨_, e⟩
    | true =>
      rw [if_pos (by simp)]
      rw [if_pos hwb] at e
      exact e
theorem s_is_pair (q : PV) (hq : pairOk q = true) : fi__law_is_pair.sem [q] .non = .ok (.bl (isPair q)) .non := by
  have hT : ∀ ps : List PV, ps.all notIns = true → fi__law_is_pair.sem [.tup ps] .non = .ok (.bl (isPair (.tup ps))) .non := fun ps hp => by
    match ps, hp with
    | [], _ => simp [fi__law_is_pair, is_pair_eq, env0, slotOf, (isi_seq _).2, lenP, neP_int, isPair]
    | [a], _ => simp [fi__law_is_pair, is_pair_eq, env0, slotOf, (isi_seq _).2, lenP, neP_int, isPair]
    | [a, b], hp =>
      have hp' : notIns a = true ∧ notIns b = true := by simpa using hp
      have hL := pair_loop (.tup [a, b]) a b hp'.1 hp'.2
      cases hw : (whole a && whole b) with
      | true =>
        rw [if_pos hw] at hL
        simp [fi__law_is_pair, is_pair_eq, env0, slotOf, (isi_seq _).2, lenP, neP_int, isPair, seqP, hL, hw, borOk]
      | false =>
        rw [if_neg (by rw [hw]; simp)] at hL
        obtain ⟨env', hL⟩ := hL
        simp [fi__law_is_pair, is_pair_eq, env0, slotOf, (isi_seq _).2, lenP, neP_int, isPair, seqP, hL, hw, borOk]
    | a :: b :: c :: r, _ =>
      have k : ¬ ((r.length : Int) + 1 + 1 + 1 = 2) := by omega
      simp [fi__law_is_pair, is_pair_eq, env0, slotOf, (isi_seq _).2, lenP, neP_int, isPair, k]
  have hL : ∀ ps : List PV, ps.all notIns = true → fi__law_is_pair.sem [.lst ps] .non = .ok (.bl (isPair (.lst ps))) .non := fun ps hp => by
    match ps, hp with
    | [], _ => simp [fi__law_is_pair, is_pair_eq, env0, slotOf, (isi_seq _).1, lenP, neP_int, isPair]
    | [a], _ => simp [fi__law_is_pair, is_pair_eq, env0, slotOf, (isi_seq _).1, lenP, neP_int, isPair]
    | [a, b], hp =>
      have hp' : notIns a = true ∧ notIns b = true := by simpa using hp
      have hL := pair_loop (.lst [a, b]) a b hp'.1 hp'.2
      cases hw : (whole a && whole b) with
      | true =>
        rw [if_pos hw] at hL
        simp [fi__law_is_pair, is_pair_eq, env0, slotOf, (isi_seq _).1, lenP, neP_int, isPair, seqP, hL, hw, borOk]
      | false =>
        rw [if_neg (by rw [hw]; simp)] at hL
        obtain ⟨env', hL⟩ := hL
        simp [fi__law_is_pair, is_pair_eq, env0, slotOf, (isi_seq _).1, lenP, neP_int, isPair, seqP, hL, hw, borOk]
    | a :: b :: c :: r, _ =>
      have k : ¬ ((r.length : Int) + 1 + 1 + 1 = 2) := by omega
      simp [fi__law_is_pair, is_pair_eq, env0, slotOf, (isi_seq _).1, lenP, neP_int, isPair, k]
  cases q with
  | tup ps => exact hT ps hq
  | lst ps => exact hL ps hq
  | ins c ns ps => cases hq
  | scr ns => cases hq
  | dct ks ps =>
    have hi : isiP ["list", "tuple"] (.dct ks ps) = some false := rfl
    simp [fi__law_is_pair, is_pair_eq, env0, slotOf, hi, isPair]
  | non =>
    have hi : isiP ["list", "tuple"] .non = some false := rfl
    simp [fi__law_is_pair, is_pair_eq, env0, slotOf, hi, isPair]
  | bl b =>
    have hi : isiP ["list", "tuple"] (.bl b) = some false := rfl
    simp [fi__law_is_pair, is_pair_eq, env0, slotOf, hi, isPair]
  | int i =>
    have hi : isiP ["list", "tuple"] (.int i) = some false := rfl
    simp [fi__law_is_pair, is_pair_eq, env0, slotOf, hi, isPair]
  | str x =>
    have hi : isiP ["list", "tuple"] (.str x) = some false := rfl
    simp [fi__law_is_pair, is_pair_eq, env0, slotOf, hi, isPair]
end KI.K10

/-! part P10o -/
set_option Elab.async false
set_option linter.all false
set_option maxRecDepth 100000
set_option maxHeartbeats 2000000
namespace KI.K10
open PySem PySem.Spec PyProof.Rows L2 KI
/-! ## judged by the law itself -/
theorem rng_nat (n : Nat) : rng 0 (n : Int) = nts (List.range n) := by
  unfold rng nts
  rw [show ((n : Int) - 0).toNat = n from by omega]
  apply List.map_congr_left
  intro i _
  simp
theorem rngP_nat {n : Nat} (h : n ≤ sizeLine) : rngP [.int (n : Int)] = some (nts (List.range n)) := by
  have hs : sizeLine = 16777216 := sizeLine_eq
  rw [← rng_nat]
  unfold rngP
  exact if_pos (by omega)
theorem in_nts (neg : Bool) (i : Nat) (out : List Nat) : inP neg (.int (i : Int)) (.lst (nts out)) = some (if neg = true then !decide (i ∈ out) else decide (i ∈ out)) := by
  have h1 : (nts out).all flatP = true := by
    rw [List.all_eq_true]
    intro p hp
    obtain ⟨j, _, rfl⟩ := mem_nts hp
    rfl
  have h2 : ((nts out).any fun r => eqF r (.int (i : Int))) = decide (i ∈ out) := by
    rw [Bool.eq_iff_iff, List.any_eq_true]
    constructor
    · rintro ⟨p, hp, he⟩
      obtain ⟨j, hj, rfl⟩ := mem_nts hp
      have : ((j : Int) == (i : Int)) = true := he
      have : j = i := by
        have := eq_of_beq this
        omega
      subst this
      simpa using hj
    · intro h
      have h : i ∈ out := by simpa using h
      exact ⟨.int (i : Int), List.mem_map.mpr ⟨i, h, rfl⟩, by show ((i : Int) == (i : Int)) = true; simp⟩
  show (if flatP (.int (i : Int)) = true ∧ (nts out).all flatP = true then _ else _) = _
  rw [if_pos ⟨rfl, h1⟩, h2]
theorem rep_dct : ∀ q : PV, pairOk q = true → isPair q = true → ∃ r c : Int, (q = .tup [.int r, .int c] ∨ q = .lst [.int r, .int c]) := by
  have key : ∀ ps : List PV, (match ps with | [a, b] => whole a && whole b | _ => false) = true → ∃ r c : Int, ps = [.int r, .int c] := fun ps h => by
    match ps, h with
    | [a, b], h =>
      simp only [Bool.and_eq_true] at h
      cases a <;> first
        | (cases h.1; done)
        | skip
      cases b <;> first
        | (cases h.2; done)
        | skip
      exact ⟨_, _, rfl⟩
  intro q hq hp
  cases q <;> first
    | (cases hp; done)
    | skip
  · rename_i ps
    obtain ⟨r, c, rfl⟩ := key ps (by revert hp; unfold isPair; split <;> simp_all)
    exact ⟨r, c, .inr rfl⟩
  · rename_i ps
    obtain ⟨r, c, rfl⟩ := key ps (by revert hp; unfold isPair; split <;> simp_all)
    exact ⟨r, c, .inl rfl⟩
theorem not_pair (ls : List (List Nat)) (w : List Bool) (q : PV) (h : isPair q = false) : stepB ls w q = false := by
  unfold stepB
  split
  · cases h
  · cases h
  · rfl
def judgeC : SF := (seqS (setS 8 (callE fi__law_lone [] (consA (opE ixP (vR 0) (vR 7)) (consA (vE 5) nilA)))) (seqS (ifS (orT (cmpT isP (vR 8) (cE .non)) (cmpT neP (vR 8) (opE ixP (vR 6) (cE (.int 1))))) (seqS (retS (cE (.bl false))) nxS) nxS) (seqS (setO 5 (lcE [9] (seqA (vE 5)) (nameG 9) (cmpT neP (vR 9) (vR 8)) (vE 9))) (fun env st => .nx (killS [6, 7, 8] env) st))))
def judgeB : SF := (seqS (ifS (notT (truT (callE fi__law_is_pair [] (consA (vE 6) nilA)))) (seqS (retS (cE (.bl false))) nxS) nxS) (seqS (setS 7 (opE ixP (vR 6) (cE (.int 0)))) (seqS (ifS (orT (cmpT ltP (vR 7) (cE (.int 0))) (cmpT geP (vR 7) (biE lenP (consA (vR 0) nilA)))) (seqS (retS (cE (.bl false))) nxS) nxS) (fun env st => judgeC (frzE 5 env) st))))
theorem judged_eq : g__law_judged = (seqS (ifS (notT (truT (isiE ["list", "tuple"] (vR 3)))) (seqS (retS (cE (.bl false))) nxS) nxS) (seqS (setO 5 (lcE [9] (rngA (consA (vE 1) nilA)) (nameG 9) (cmpT (inP true) (vR 9) (vR 4)) (vE 9))) (seqS (forS (seqA (vE 3)) (nameG 6) judgeB) (seqS (retS (cmpE (inP true) (vR 2) (vR 5))) nxS)))) := rfl
@[simp] theorem frz5 (a b c d e : Slot) (p : PV) (r : SEnv) : frzE 5 (a :: b :: c :: d :: e :: .own p :: r) = a :: b :: c :: d :: e :: .sh p :: r := (rfl)
theorem ix_linesL {ls : List (List Nat)} {r : Nat} (h : r < ls.length) : ixP (.lst (lines ls)) (.int (r : Int)) = some (tx (ln ls r)) := by
  show L2.atI (ls.map fun l => tx l) (r : Int) = _
  rw [atI_nat (x := tx (ln ls r))]
  rw [List.getElem?_map, ln_at h]; rfl
theorem ne_filter (xs : List Nat) (j : Nat) (b0 b1 b2 b3 b4 b5 b6 b7 : Slot) : lcL (nameG 9) (cmpT neP (vR 9) (vR 8)) (vE 9) [b0, b1, b2, b3, b4, b5, b6, b7, .sh (.int (j : Int)), .dead] (nts xs) .non = .ok (nts (xs.filter fun k => !decide (k = j))) .non := by
  rw [lcL_pure (natF fun k => !decide (k = j)) id]
  · rw [List.map_id, filter_natF xs fun k => !decide (k = j)]
  · intro p hp
    obtain ⟨k, hk, rfl⟩ := mem_nts hp
    refine ⟨_, rfl, ?_, fun _ => ?_⟩
    · have : ((k : Int) == (j : Int)) = decide (k = j) := by
        rw [Bool.eq_iff_iff]; simp; omega
      simp [neP_int, this]
    · simp
/-- one turn of the law's judge -/
theorem judge_step {n : Nat} {ls : List (List Nat)} (h : TabOk n ls) (a1 a2 a3 a4 : Slot) (w : List Bool) (hw : w.length = n) (q : PV) (hq : pairOk q = true) :
    if stepB ls w q = true then judgeB [.sh (.lst (lines ls)), a1, a2, a3, a4, .own (.lst (nts (whl n w))), .sh q, .dead, .dead, .dead] .non = .nx [.sh (.lst (lines ls)), a1, a2, a3, a4, .own (.lst (nts (whl n (w.set (colN q) false)))), .dead, .dead, .dead, .dead] .non
    else ∃ env', judgeB [.sh (.lst (lines ls)), a1, a2, a3, a4, .own (.lst (nts (whl n w))), .sh q, .dead, .dead, .dead] .non = .ret (.bl false) false env' .non := by
  have hs : sizeLine = 16777216 := sizeLine_eq
  have hn := h.1
  have hc : callK fi__law_is_pair [q] .non = .ok (.bl (isPair q)) .non := by rw [callK_val, s_is_pair q hq]
  cases hp : isPair q with
  | false =>
    rw [if_neg (by rw [not_pair ls w q hp]; simp)]
    refine ⟨[.sh (.lst (lines ls)), a1, a2, a3, a4, .own (.lst (nts (whl n w))), .sh q, .dead, .dead, .dead], ?_⟩
    simp only [judgeB]
    simp [hc, hp]
  | true =>
    obtain ⟨r, c, hqe⟩ := rep_dct q hq hp
    have e0 : stepB ls w q = stepI ls w r c := by rcases hqe with rfl | rfl <;> rfl
    have e1 : ixP q (.int 0) = some (.int r) := by rcases hqe with rfl | rfl <;> rfl
    have e2 : ixP q (.int 1) = some (.int c) := by rcases hqe with rfl | rfl <;> rfl
    have e3 : colN q = c.toNat := by rcases hqe with rfl | rfl <;> rfl
    rw [e0]
    by_cases h1 : r < 0
    · have e : stepI ls w r c = false := if_neg (by omega)
      rw [if_neg (by rw [e]; simp)]
      refine ⟨[.sh (.lst (lines ls)), a1, a2, a3, a4, .own (.lst (nts (whl n w))), .sh q, .sh (.int r), .dead, .dead], ?_⟩
      simp only [judgeB]
      simp [hc, hp, e1, h1]
    · by_cases h2 : (ls.length : Int) ≤ r
      · have e : stepI ls w r c = false := if_neg (by omega)
        rw [if_neg (by rw [e]; simp)]
        refine ⟨[.sh (.lst (lines ls)), a1, a2, a3, a4, .own (.lst (nts (whl n w))), .sh q, .sh (.int r), .dead, .dead], ?_⟩
        simp only [judgeB]
        simp [hc, hp, e1, h1, lenP, h2]
      · obtain ⟨k, rfl⟩ : ∃ k : Nat, r = (k : Int) := ⟨r.toNat, by omega⟩
        have hk : k < ls.length := by omega
        have h0 : ¬ ((k : Int) < 0) := by omega
        have hl := c_lone h hk (whl n w) (fun j hj => whl_lt hj) (by have := whl_len n w; omega) .non
        have e : stepI ls w (k : Int) c = (match loneR (ln ls k) (whl n w) with
          | some j => (j : Int) == c
          | none => false) := by unfold stepI; rw [if_pos ⟨by omega, by omega⟩, Int.toNat_natCast, forced_lone h hk] <;> rfl
        rw [e]
        cases ho : loneR (ln ls k) (whl n w) with
        | none =>
          rw [ho] at hl
          rw [if_neg (by simp)]
          refine ⟨[.sh (.lst (lines ls)), a1, a2, a3, a4, .sh (.lst (nts (whl n w))), .sh q, .sh (.int (k : Int)), .sh .non, .dead], ?_⟩
          simp only [judgeB, judgeC]
          simp [hc, hp, e1, h0, lenP, h2, ix_linesL hk, hl, optI, isP, isNon]
        | some j =>
          rw [ho] at hl
          have hjn : j < n := by
            unfold loneR at ho
            have : j ∈ (whl n w).filter fun j => touched (mk (ln ls k) j) := by
              unfold oneHard at ho
              split at ho
              · rename_i k' hk'
                split at ho
                · cases ho; rw [hk']; simp
                · cases ho
              · cases ho
            exact whl_lt (List.mem_filter.mp this).1
          by_cases hjc : (j : Int) = c
          · subst hjc
            rw [if_pos (by simp), e3, Int.toNat_natCast, ← whl_set hw hjn]
            have hf := ne_filter (whl n w) j (.sh (.lst (lines ls))) a1 a2 a3 a4 (.sh (.lst (nts (whl n w)))) (.sh q) (.sh (.int (k : Int)))
            have hz : (whl n w).length ≤ sizeLine := by have := whl_len n w; omega
            simp only [judgeB, judgeC]
            simp [hc, hp, e1, e2, h0, lenP, h2, ix_linesL hk, hl, optI, isP, isNon, neP_int, seqP, calmAt, hz, hf]
          · rw [if_neg (by simpa using hjc)]
            refine ⟨[.sh (.lst (lines ls)), a1, a2, a3, a4, .sh (.lst (nts (whl n w))), .sh q, .sh (.int (k : Int)), .sh (.int (j : Int)), .dead], ?_⟩
            simp only [judgeB, judgeC]
            simp [hc, hp, e1, e2, h0, lenP, h2, ix_linesL hk, hl, optI, isP, isNon, neP_int, hjc]
theorem judge_loop {n : Nat} {ls : List (List Nat)} (h : TabOk n ls) (a1 a2 a3 a4 : Slot) : ∀ (qs : List PV) (w : List Bool), w.length = n → (∀ q ∈ qs, pairOk q = true) →
    (match runF ls w qs with
    | some w' => w'.length = n ∧ forL (nameG 6) judgeB qs [.sh (.lst (lines ls)), a1, a2, a3, a4, .own (.lst (nts (whl n w))), .dead, .dead, .dead, .dead] .non = .nx [.sh (.lst (lines ls)), a1, a2, a3, a4, .own (.lst (nts (whl n w'))), .dead, .dead, .dead, .dead] .non
    | none => ∃ env', forL (nameG 6) judgeB qs [.sh (.lst (lines ls)), a1, a2, a3, a4, .own (.lst (nts (whl n w))), .dead, .dead, .dead, .dead] .non = .ret (.bl false) false env' .non)
  | [], w, hw, _ => ⟨hw, rfl⟩
  | q :: qs, w, hw, hq => by
    have hb : forL (nameG 6) judgeB (q :: qs) [.sh (.lst (lines ls)), a1, a2, a3, a4, .own (.lst (nts (whl n w))), .dead, .dead, .dead, .dead] .non = (match judgeB [.sh (.lst (lines ls)), a1, a2, a3, a4, .own (.lst (nts (whl n w))), .sh q, .dead, .dead, .dead] .non with
      | .nx env2 st2 => forL (nameG 6) judgeB qs env2 st2
      | .ct env2 st2 => forL (nameG 6) judgeB qs env2 st2
      | .brk env2 st2 => .nx env2 st2
      | r => r) := rfl
    have hst := judge_step h a1 a2 a3 a4 w hw q (hq q List.mem_cons_self)
    unfold runF
    by_cases hs : stepB ls w q = true
    · rw [if_pos hs] at hst ⊢
      rw [hb, hst]
      exact judge_loop h a1 a2 a3 a4 qs (w.set (colN q) false) (by rw [List.length_set]; exact hw) fun q' hq' => hq q' (List.mem_cons_of_mem _ hq')
    · rw [if_neg hs] at hst ⊢
      obtain ⟨env', hst⟩ := hst
      refine ⟨env', ?_⟩
      rw [hb, hst]
theorem s_judged {n : Nat} {ls : List (List Nat)} (h : TabOk n ls) (j : Nat) (hj : j < n) (ns : List Nat) (hns : ∀ m ∈ ns, m < n) (paper : PV) (hp : notIns paper = true ∧ (∀ ks ps, paper ≠ .dct ks ps) ∧ (∀ ms, paper ≠ .scr ms)) (hq : ∀ qs, seqOf paper = some qs → ∀ q ∈ qs, pairOk q = true) :
    fi__law_judged.sem [.lst (lines ls), .int (n : Int), .int (j : Int), paper, .lst (nts ns)] .non = .ok (.bl (showR ls (white0 n ns) j paper)) .non := by
  have hs : sizeLine = 16777216 := sizeLine_eq
  have hn : n ≤ sizeLine := by have := h.1; omega
  have k1 : lcL (nameG 9) (cmpT (inP true) (vR 9) (vR 4)) (vE 9) [.sh (.lst (lines ls)), .sh (.int (n : Int)), .sh (.int (j : Int)), .sh paper, .sh (.lst (nts ns)), .dead, .dead, .dead, .dead, .dead] (nts (List.range n)) .non = .ok (nts (whl n (white0 n ns))) .non := by
    rw [lcL_pure (natF fun k => !decide (k ∈ ns)) id]
    · rw [List.map_id, filter_natF _ fun k => !decide (k ∈ ns)]
      unfold whl
      congr 2
      apply List.filter_congr
      intro k hk
      rw [wh_white0 hns (List.mem_range.mp hk)]
    · intro p hp
      obtain ⟨k, hk, rfl⟩ := mem_nts hp
      refine ⟨_, rfl, ?_, fun _ => ?_⟩
      · simp [in_nts]
      · simp
  have k2 : (nts (List.range n)).length ≤ sizeLine := by simpa using hn
  cases hsq : seqOf paper with
  | none =>
    have e : showR ls (white0 n ns) j paper = false := by unfold showR; rw [hsq]
    have hi : isiP ["list", "tuple"] paper = some false := by
      cases paper <;> first
        | rfl
        | (cases hsq; done)
        | (cases hp.1; done)
        | exact absurd rfl (hp.2.1 _ _)
        | exact absurd rfl (hp.2.2 _)
    rw [e]
    simp [fi__law_judged, judged_eq, env0, slotOf, hi]
  | some qs =>
    have hi : isiP ["list", "tuple"] paper = some true := by
      cases paper <;> first
        | rfl
        | (cases hsq; done)
    have hP : seqP paper = some qs := by
      cases paper <;> first
        | exact hsq
        | (cases hsq; done)
    have hL := judge_loop h (.sh (.int (n : Int))) (.sh (.int (j : Int))) (.sh paper) (.sh (.lst (nts ns))) qs (white0 n ns) (white0_len n ns) (hq qs hsq)
    unfold showR
    rw [hsq]
    dsimp only
    cases hr : runF ls (white0 n ns) qs with
    | none =>
      rw [hr] at hL
      obtain ⟨env', hL⟩ := hL
      simp [fi__law_judged, judged_eq, env0, slotOf, hi, rngP_nat hn, calmAt, hn, k1, hP, hL]
    | some w' =>
      rw [hr] at hL
      obtain ⟨h1, hL⟩ := hL
      have hx : decide (j ∈ whl n w') = wh w' j := by
        rw [Bool.eq_iff_iff]
        unfold whl
        simp [hj]
      simp [fi__law_judged, judged_eq, env0, slotOf, hi, rngP_nat hn, calmAt, hn, k1, hP, hL, in_nts, hx]
end KI.K10

/-! part P10p -/
set_option Elab.async false
set_option linter.all false
set_option maxRecDepth 100000
set_option maxHeartbeats 2000000
namespace KI.K10
open PySem PySem.Spec PyProof.Rows L2 KI
/-! ## Forcing(table, told=..) -/
theorem count_off : ∀ (w : List Bool) (j : Nat), wh w j = true → (w.set j false).count true + 1 = w.count true
  | [], j, h => by simp [wh] at h
  | b :: w, 0, h => by
    have : b = true := by simpa [wh] using h
    subst this
    simp
  | b :: w, j + 1, h => by
    have h' : wh w j = true := by simpa [wh] using h
    have := count_off w j h'
    rw [List.set_cons_succ, List.count_cons, List.count_cons]
    omega
theorem forced_wh {l cols : List Nat} {w : List Bool} {j : Nat} (h : forcedR l cols w = some j) : wh w j = true ∧ j ∈ cols := by
  unfold forcedR at h
  have : j ∈ cols.filter fun j => wh w j := by
    unfold oneHard at h
    split at h
    · rename_i k' hk'
      split at h
      · cases h; rw [hk']; simp
      · cases h
    · cases h
  have := List.mem_filter.mp this
  exact ⟨this.2, this.1⟩
def offB : SF := (seqS (setIx 4 (cE (.bl false)) (vE 5)) (fun env st => .nx (killS [5] env) st))
def rowB : SF := (seqS (setS 5 (callE fi_forced_now [] (consA (opE ixP (fldE ["Table"] "lines" (vR 1)) (vR 9)) (consA (opE ixP (vR 6) (vR 9)) (consA (vR 4) nilA))))) (seqS (ifS (cmpT isnP (vR 5) (cE .non)) (seqS (setIx 4 (cE (.bl false)) (vE 5)) (seqS (appS 7 (tupE (consA (vE 9) (consA (vE 5) nilA)))) nxS)) nxS) (fun env st => .nx (killS [9, 5] env) st)))
def roundB : SF := (seqS (setS 8 (biE lenP (consA (vR 7) nilA))) (seqS (forS (rngA (consA (biE lenP (consA (vR 6) nilA)) nilA)) (nameG 9) rowB) (fun env st => .nx (killS [9, 5] env) st)))
theorem forcing_init_eq : g_Forcing_init = (seqS (setS 3 (callE fi_lot_of [] (consA (vE 2) (consA (fldE ["Table"] "columns" (vR 1)) nilA)))) (seqS (setO 4 (opE mulL (lstE (consA (cE (.bl true)) nilA)) (fldE ["Table"] "columns" (vR 1)))) (seqS (forS (seqA (vE 3)) (nameG 5) offB) (seqS (setO 6 (lcE [9] (rngA (consA (lenM ["Table"] fi_Table_len (vR 1)) nilA)) (nameG 9) yesT (methE ["Table"] "touches" fi_Table_touches [] (vR 1) (consA (vE 9) nilA)))) (seqS (setO 7 (lstE nilA)) (seqS (setS 8 (negE (cE (.int 1)))) (seqS (fun env st => whileL (cmpT gtP (biE lenP (consA (vR 7) nilA)) (vR 8)) roundB 100 env st) (seqS (setFldM 0 ["Forcing"] "table" (vE 1)) (seqS (setFldM 0 ["Forcing"] "order" (biE tupleP (consA (vR 7) nilA))) (seqS (setFldM 0 ["Forcing"] "white" (callE fi_places_of [] (consA (vR 4) nilA))) nxS)))))))))) := rfl
theorem off_loop (a b c d : Slot) (e f g h : Slot) (st : PV) : ∀ (ns : List Nat) (w : List Bool), (∀ n ∈ ns, n < w.length) → forL (nameG 5) offB (nts ns) [a, b, c, d, .own (.lst (bls w)), .dead, e, f, g, h] st = .nx [a, b, c, d, .own (.lst (bls (setAll false ns w))), .dead, e, f, g, h] st
  | [], w, _ => rfl
  | n :: ns, w, hn => by
    have hb : forL (nameG 5) offB (nts (n :: ns)) [a, b, c, d, .own (.lst (bls w)), .dead, e, f, g, h] st = (match offB [a, b, c, d, .own (.lst (bls w)), .sh (.int (n : Int)), e, f, g, h] st with
      | .nx env2 st2 => forL (nameG 5) offB (nts ns) env2 st2
      | .ct env2 st2 => forL (nameG 5) offB (nts ns) env2 st2
      | .brk env2 st2 => .nx env2 st2
      | r => r) := rfl
    have hn' := hn n List.mem_cons_self
    have e1 : offB [a, b, c, d, .own (.lst (bls w)), .sh (.int (n : Int)), e, f, g, h] st = .nx [a, b, c, d, .own (.lst (bls (w.set n false))), .dead, e, f, g, h] st := by
      simp [offB, ixN_nat hn', set_bls]
    rw [hb, e1]
    exact off_loop a b c d e f g h st ns (w.set n false) fun m hm => by rw [List.length_set]; exact hn m (List.mem_cons_of_mem _ hm)
def touchL (ls : List (List Nat)) : List PV := ls.map fun l => PV.tup (nts (touchC l))
theorem ix_touchL {ls : List (List Nat)} {r : Nat} (h : r < ls.length) : ixP (.lst (touchL ls)) (.int (r : Int)) = some (.tup (nts (touchC (ln ls r)))) := by
  show L2.atI (touchL ls) (r : Int) = _
  unfold touchL
  rw [atI_nat (x := PV.tup (nts (touchC (ln ls r))))]
  rw [List.getElem?_map, ln_at h]; rfl
theorem runF_app (ls : List (List Nat)) : ∀ (qs : List PV) (w w1 : List Bool) (q : PV), runF ls w qs = some w1 → stepB ls w1 q = true → runF ls w (qs ++ [q]) = some (w1.set (colN q) false)
  | [], w, w1, q, h, hs => by
    cases h
    show (if stepB ls w q = true then some _ else none) = _
    rw [if_pos hs]
  | p :: qs, w, w1, q, h, hs => by
    unfold runF at h
    show (if stepB ls w p = true then runF ls (w.set (colN p) false) (qs ++ [q]) else none) = _
    by_cases hp : stepB ls w p = true
    · rw [if_pos hp] at h ⊢
      exact runF_app ls qs _ w1 q h hs
    · rw [if_neg hp] at h
      cases h
theorem forced_step {ls : List (List Nat)} {r c : Nat} (hr : r < ls.length) {w : List Bool} (hc : forcedR (ln ls r) (touchC (ln ls r)) w = some c) : stepB ls w (.tup [.int (r : Int), .int (c : Int)]) = true := by
  show stepI ls w (r : Int) (c : Int) = true
  unfold stepI
  rw [if_pos ⟨by omega, by omega⟩, Int.toNat_natCast, hc]
  simp
/-- no row of these forces -/
def Stuck (ls : List (List Nat)) (rs : List Nat) (w : List Bool) : Prop := ∀ r ∈ rs, forcedR (ln ls r) (touchC (ln ls r)) w = none
/-- the state of the loops of Forcing -/
def FI (ls : List (List Nat)) (w0 : List Bool) (n m : Nat) (os : List PV) (w : List Bool) : Prop := runF ls w0 os = some w ∧ w.length = n ∧ os.length + w.count true ≤ n ∧ m ≤ os.length ∧ ∀ q ∈ os, pairOk q = true
abbrev fE (t : PV) (ls : List (List Nat)) (b c d : Slot) (w : List Bool) (os : List PV) (before : Slot) : SEnv := [.mt, .sh t, b, c, .own (.lst (bls w)), .dead, .own (.lst (touchL ls)), .own (.lst os), before, d]
theorem row_step {n : Nat} {ls : List (List Nat)} (h : TabOk n ls) (b c bf : Slot) (st : PV) (w0 : List Bool) (m : Nat) (w : List Bool) (os : List PV) (hI : FI ls w0 n m os w) (r : Nat) (hr : r < ls.length) :
    ∃ w' os', rowB (fE (tb n ls) ls b c (.sh (.int (r : Int))) w os bf) st = .nx (fE (tb n ls) ls b c .dead w' os' bf) st ∧ FI ls w0 n m os' w' ∧ ((w' = w ∧ os' = os ∧ forcedR (ln ls r) (touchC (ln ls r)) w = none) ∨ os.length < os'.length) := by
  have hs : sizeLine = 16777216 := sizeLine_eq
  have hn := h.1
  obtain ⟨h0, h1, h2, h3, h4⟩ := hI
  have hf := c_forced_at h hr w h1 st
  cases hc : forcedR (ln ls r) (touchC (ln ls r)) w with
  | none =>
    rw [hc] at hf
    refine ⟨w, os, ?_, ⟨h0, h1, h2, h3, h4⟩, .inl ⟨rfl, rfl, rfl⟩⟩
    simp [rowB, fE, fld_lines, ix_lines hr, ix_touchL hr, hf, optI, isnP, isNon]
  | some j =>
    rw [hc] at hf
    obtain ⟨hw, hj⟩ := forced_wh hc
    have hjn : j < n := by
      have := touchC_lt hj
      rw [(h.line hr).1] at this
      exact this
    have hcnt := count_off w j hw
    have hos : os.length < sizeLine := by omega
    have hrun := runF_app ls os w0 w _ h0 (forced_step hr hc)
    have hcol : colN (.tup [.int (r : Int), .int (j : Int)]) = j := by simp [colN]
    rw [hcol] at hrun
    refine ⟨w.set j false, os ++ [.tup [.int (r : Int), .int (j : Int)]], ?_, ⟨hrun, by rw [List.length_set]; exact h1, by rw [List.length_append]; simp; omega, by rw [List.length_append]; omega, fun q hq => ?_⟩, .inr (by simp)⟩
    · simp [rowB, fE, fld_lines, ix_lines hr, ix_touchL hr, hf, optI, isnP, isNon, ixN_nat (n := w.length) (by rw [h1]; exact hjn), set_bls, s2, hos]
    · rcases List.mem_append.mp hq with hq | hq
      · exact h4 q hq
      · rw [List.mem_singleton.mp hq]; rfl
theorem row_loop {n : Nat} {ls : List (List Nat)} (h : TabOk n ls) (b c bf : Slot) (st : PV) (w0 : List Bool) (m : Nat) : ∀ (rs : List Nat) (w : List Bool) (os : List PV), (∀ r ∈ rs, r < ls.length) → FI ls w0 n m os w →
    ∃ w' os', forL (nameG 9) rowB (nts rs) (fE (tb n ls) ls b c .dead w os bf) st = .nx (fE (tb n ls) ls b c .dead w' os' bf) st ∧ FI ls w0 n m os' w' ∧ ((w' = w ∧ os' = os ∧ Stuck ls rs w) ∨ os.length < os'.length)
  | [], w, os, _, hI => ⟨w, os, rfl, hI, .inl ⟨rfl, rfl, fun r hr => by simp at hr⟩⟩
  | r :: rs, w, os, hr, hI => by
    obtain ⟨w1, os1, e1, hI1, hc1⟩ := row_step h b c bf st w0 m w os hI r (hr r List.mem_cons_self)
    obtain ⟨w2, os2, e2, hI2, hc2⟩ := row_loop h b c bf st w0 m rs w1 os1 (fun k hk => hr k (List.mem_cons_of_mem _ hk)) hI1
    refine ⟨w2, os2, forL_nx rfl e1 e2, hI2, ?_⟩
    rcases hc1 with ⟨rfl, rfl, hf⟩ | hlt
    · rcases hc2 with ⟨rfl, rfl, hst⟩ | hlt
      · refine .inl ⟨rfl, rfl, fun k hk => ?_⟩
        rcases List.mem_cons.mp hk with rfl | hk
        · exact hf
        · exact hst k hk
      · exact .inr hlt
    · refine .inr ?_
      rcases hc2 with ⟨_, rfl, _⟩ | hlt2
      · exact hlt
      · omega
theorem round_step {n : Nat} {ls : List (List Nat)} (h : TabOk n ls) (b c bf : Slot) (st : PV) (w0 w : List Bool) (os : List PV) (hI : FI ls w0 n 0 os w) :
    ∃ w' os', roundB (fE (tb n ls) ls b c .dead w os bf) st = .nx (fE (tb n ls) ls b c .dead w' os' (.sh (.int (os.length : Nat)))) st ∧ FI ls w0 n os.length os' w' ∧ (os.length < os'.length ∨ Stuck ls (List.range ls.length) w') := by
  have hs : sizeLine = 16777216 := sizeLine_eq
  have hl := h.2.1
  obtain ⟨w', os', e1, hI1, hc⟩ := row_loop h b c (.sh (.int (os.length : Nat))) st w0 os.length (List.range ls.length) w os (fun r hr => List.mem_range.mp hr) ⟨hI.1, hI.2.1, hI.2.2.1, Nat.le_refl _, hI.2.2.2.2⟩
  refine ⟨w', os', ?_, hI1, ?_⟩
  · have k : (touchL ls).length = ls.length := by simp [touchL]
    have kz : ls.length ≤ sizeLine := by omega
    have kr := rngP_nat kz
    simp only [fE] at e1
    have e2 : rngA (consA (biE lenP (consA (vR 6) nilA)) nilA) (fE (tb n ls) ls b c .dead w os (.sh (.int (os.length : Nat)))) st = .ok (nts (List.range ls.length)) st := by
      simp [fE, lenP, k, kr]
    simp only [fE] at e2
    have e3 : biE lenP (consA (vR 7) nilA) (fE (tb n ls) ls b c .dead w os bf) st = .ok (.int (os.length : Nat)) st := by
      simp [fE, lenP]
    exact seq_nx (set_ok e3) (seq_nx (for_ok e2 e1) rfl)
  · rcases hc with ⟨rfl, _, hst⟩ | hlt
    · exact .inr hst
    · exact .inl hlt
theorem round_loop {n : Nat} {ls : List (List Nat)} (h : TabOk n ls) (b c : Slot) (st : PV) (w0 : List Bool) : ∀ (f : Nat) (w : List Bool) (os : List PV) (bf : Int), FI ls w0 n 0 os w → 1 ≤ f → (bf < os.length → n - os.length + 2 ≤ f) → (bf < os.length ∨ Stuck ls (List.range ls.length) w) →
    ∃ w' os' bf', whileL (cmpT gtP (biE lenP (consA (vR 7) nilA)) (vR 8)) roundB f (fE (tb n ls) ls b c .dead w os (.sh (.int bf))) st = .nx (fE (tb n ls) ls b c .dead w' os' bf') st ∧ FI ls w0 n 0 os' w' ∧ Stuck ls (List.range ls.length) w' := by
  intro f
  induction f with
  | zero => intro w os bf _ hf _; exact absurd hf (by omega)
  | succ f ih =>
    intro w os bf hI _ hf hq
    have e : cmpT gtP (biE lenP (consA (vR 7) nilA)) (vR 8) (fE (tb n ls) ls b c .dead w os (.sh (.int bf))) st = .ok (decide (bf < os.length)) st := by
      simp [fE, lenP]
    by_cases hlt : bf < os.length
    · rw [decide_eq_true hlt] at e
      obtain ⟨w1, os1, e1, hI1, hc1⟩ := round_step h b c (.sh (.int bf)) st w0 w os hI
      have hf' := hf hlt
      have hle := hI1.2.2.2.1
      have h2 := hI1.2.2.1
      obtain ⟨w2, os2, b2, e2, hI2⟩ := ih w1 os1 (os.length : Nat) ⟨hI1.1, hI1.2.1, hI1.2.2.1, Nat.zero_le _, hI1.2.2.2.2⟩ (by omega) (fun hb => by
        have hb : os.length < os1.length := by omega
        omega) (by
        rcases hc1 with hc1 | hc1
        · exact .inl (by omega)
        · exact .inr hc1)
      exact ⟨w2, os2, b2, while_nx e e1 e2, hI2⟩
    · rw [decide_eq_false hlt] at e
      exact ⟨w, os, _, while_end e, hI, hq.resolve_left hlt⟩
end KI.K10

/-! part P10q -/
set_option Elab.async false
set_option linter.all false
set_option maxRecDepth 100000
set_option maxHeartbeats 2000000
namespace KI.K10
open PySem PySem.Spec PyProof.Rows L2 KI
/-! ## the stream -/
def SOk (st : PV) : Prop := ∃ (xs : List Int) (a : Nat), st = .lst [.lst (xs.map .int), .int (a : Int)]
theorem fmod_lt (x : Int) {m : Int} (h : 0 < m) : ∃ k : Nat, (k : Int) < m ∧ Int.fmod x m = (k : Int) := by
  have h1 := Int.fmod_nonneg_of_pos x h
  have h2 := Int.fmod_lt_of_pos x h
  exact ⟨(Int.fmod x m).toNat, by omega, by omega⟩
theorem s_next (xs : List Int) (a : Nat) (many : Int) (hm : 0 < many) : ∃ v : Nat, (v : Int) < many ∧ fi__law_next.sem [.non, .int many] (.lst [.lst (xs.map .int), .int (a : Int)]) = .ok (.int (v : Int)) (.lst [.lst (xs.map .int), .int ((a : Int) + 1)]) := by
  have k0 : L2.atI [PV.lst (xs.map .int), .int (a : Int)] 0 = some (.lst (xs.map .int)) := rfl
  have k1 : L2.atI [PV.lst (xs.map .int), .int (a : Int)] 1 = some (.int (a : Int)) := rfl
  have k2 : L2.ixN 2 1 = some 1 := rfl
  have k3 : addP (.int (a : Int)) (.int 1) = some (.int ((a : Int) + 1)) := rfl
  by_cases ha : xs.length ≤ a
  · refine ⟨0, by omega, ?_⟩
    have ha' : ((xs.length : Nat) : Int) ≤ (a : Int) := by omega
    simp [fi__law_next, g__law_next, env0, slotOf, k0, k1, k2, k3, lenP, ha', hasMt]
  · have ha' : ¬ ((xs.length : Nat) : Int) ≤ (a : Int) := by omega
    obtain ⟨x, hx⟩ : ∃ x, xs[a]? = some x := ⟨_, List.getElem?_eq_getElem (by omega)⟩
    obtain ⟨v, h1, h2⟩ := fmod_lt x hm
    refine ⟨v, h1, ?_⟩
    have k4 : ixP (.lst (xs.map .int)) (.int (a : Int)) = some (.int x) := by
      show L2.atI (xs.map PV.int) (a : Int) = _
      rw [atI_nat (x := .int x)]
      rw [List.getElem?_map, hx]; rfl
    have k5 : modP (.int x) (.int many) = some (.int (v : Int)) := by
      show (if decide (many ≠ 0) = true then some (PV.int (Int.fmod x many)) else none) = _
      rw [if_pos (by simp; omega), h2]
    simp [fi__law_next, g__law_next, env0, slotOf, k0, k1, k2, k3, lenP, ha', hasMt, k4, intTyP, k5]
theorem c_next {st : PV} (h : SOk st) (many : Int) (hm : 0 < many) : ∃ (v : Nat) (st' : PV), (v : Int) < many ∧ SOk st' ∧ callK fi__law_next [.non, .int many] st = .ok (.int (v : Int)) st' := by
  obtain ⟨xs, a, rfl⟩ := h
  obtain ⟨v, h1, h2⟩ := s_next xs a many hm
  exact ⟨v, .lst [.lst (xs.map .int), .int ((a : Int) + 1)], h1, ⟨xs, a + 1, by simp⟩, by rw [callK_mu, h2]⟩
end KI.K10

/-! part P10r -/
set_option Elab.async false
set_option linter.all false
set_option maxRecDepth 100000
set_option maxHeartbeats 2000000
namespace KI.K10
open PySem PySem.Spec PyProof.Rows L2 KI
/-! ## the stream is made -/
theorem mul_r (i j : Int) (h1 : -(2 ^ 64) < j) (h2 : j < 2 ^ 64) : mulP (.int i) (.int j) = some (.int (i * j)) := by
  unfold mulP
  exact if_pos (.inl (.inr ⟨h1, h2⟩))
theorem mul_l (i j : Int) (h1 : -(2 ^ 64) < i) (h2 : i < 2 ^ 64) : mulP (.int i) (.int j) = some (.int (i * j)) := by
  unfold mulP
  exact if_pos (.inl (.inl ⟨h1, h2⟩))
theorem addP_int (i j : Int) : addP (.int i) (.int j) = some (.int (i + j)) := (rfl)
theorem subP_int (i j : Int) : subP (.int i) (.int j) = some (.int (i - j)) := (rfl)
theorem modP_int (i j : Int) (h : j ≠ 0) : modP (.int i) (.int j) = some (.int (Int.fmod i j)) := by
  show (if decide (j ≠ 0) = true then some (PV.int (Int.fmod i j)) else none) = _
  rw [if_pos (by simpa using h)]
theorem intTy_int (i : Int) : intTyP [.int i] = some (.int i) := (rfl)
theorem fdivP_int (i j : Int) (h : fdivC i j = true) : fdivP (.int i) (.int j) = some (.int (Int.fdiv i j)) := by
  show (if fdivC i j = true then some (PV.int (Int.fdiv i j)) else none) = _
  rw [if_pos h]
def strA : SF := (seqS (ifS (cmpT gtP (vR 4) (cE (.int 0))) (seqS (appS 1 (opE modP (biE intTyP (consA (vR 4) nilA)) (cE (.int 30)))) (seqS (setS 4 (opE fdivP (vR 4) (cE (.int 30)))) nxS)) nxS) (fun env st => .nx (killS [5] env) st))
def strB : SF := (seqS (setS 6 (opE modP (biE intTyP (consA (opE addP (opE addP (opE addP (opE mulP (vR 6) (vR 6)) (opE mulP (vR 4) (cE (.int 31)))) (opE mulP (vR 5) (cE (.int 524287)))) (vR 2)) nilA)) (cE (.int 2147483587)))) (seqS (appS 1 (opE fdivP (vR 6) (cE (.int 7)))) (fun env st => .nx (killS [5] env) st)))
def strC : SF := (seqS (setS 3 (biE intTyP (consA (opE ixP (vR 0) (vR 2)) nilA))) (seqS (setS 4 (opE mulP (cE (.int 2)) (vR 3))) (seqS (ifS (cmpT ltP (vR 3) (cE (.int 0))) (seqS (setS 4 (opE subP (cE (.int 1)) (opE mulP (cE (.int 2)) (vR 3)))) nxS) nxS) (seqS (ifS (cmpT geP (vR 4) (opE powP (cE (.int 10)) (cE (.int 18)))) (seqS (forS (rngA (consA (cE (.int 50)) nilA)) (nameG 5) strA) nxS) (seqS (setS 6 (opE modP (biE intTyP (consA (opE addP (opE addP (opE mulP (vR 4) (cE (.int 16807))) (opE mulP (vR 2) (cE (.int 7919)))) (cE (.int 101))) nilA)) (cE (.int 2147483629)))) (seqS (forS (rngA (consA (cE (.int 5)) nilA)) (nameG 5) strB) nxS))) (fun env st => .nx (killS [2, 3, 4, 5, 6] env) st)))))
theorem stream_eq : g__law_stream = (seqS (setO 1 (lstE nilA)) (seqS (forS (rngA (consA (biE minP (consA (cE (.int 63)) (consA (biE lenP (consA (vR 0) nilA)) nilA))) nilA)) (nameG 2) strC) (fun env st => (seqS (retO (lstE (consA (vE 1) (consA (cE (.int 0)) nilA)))) nxS) (frzE 1 env) st))) := rfl
@[simp] theorem frz1 (a : Slot) (p : PV) (r : SEnv) : frzE 1 (a :: .own p :: r) = a :: .sh p :: r := (rfl)
theorem strA_loop (a c d f : Slot) (st : PV) : ∀ (ps : List PV) (xs : List Int) (z : Int), xs.length + ps.length ≤ 10000 →
    ∃ (xs' : List Int) (z' : Int), xs'.length ≤ xs.length + ps.length ∧ forL (nameG 5) strA ps [a, .own (.lst (xs.map .int)), c, d, .sh (.int z), .dead, f] st = .nx [a, .own (.lst (xs'.map .int)), c, d, .sh (.int z'), .dead, f] st
  | [], xs, z, _ => ⟨xs, z, Nat.le_refl _, rfl⟩
  | p :: ps, xs, z, hl => by
    have hs : sizeLine = 16777216 := sizeLine_eq
    rw [List.length_cons] at hl
    have hb : forL (nameG 5) strA (p :: ps) [a, .own (.lst (xs.map .int)), c, d, .sh (.int z), .dead, f] st = (match strA [a, .own (.lst (xs.map .int)), c, d, .sh (.int z), .sh p, f] st with
      | .nx env2 st2 => forL (nameG 5) strA ps env2 st2
      | .ct env2 st2 => forL (nameG 5) strA ps env2 st2
      | .brk env2 st2 => .nx env2 st2
      | r => r) := rfl
    have k1 := modP_int z 30 (by decide)
    have k2 := fdivP_int z 30 rfl
    have k3 : xs.length < sizeLine := by omega
    by_cases hz : 0 < z
    · have e1 : strA [a, .own (.lst (xs.map .int)), c, d, .sh (.int z), .sh p, f] st = .nx [a, .own (.lst ((xs ++ [Int.fmod z 30]).map .int)), c, d, .sh (.int (Int.fdiv z 30)), .dead, f] st := by
        simp [strA, hz, intTy_int, k1, k2, k3]
      obtain ⟨xs', z', h1, h2⟩ := strA_loop a c d f st ps (xs ++ [Int.fmod z 30]) (Int.fdiv z 30) (by rw [List.length_append]; simp; omega)
      refine ⟨xs', z', by rw [List.length_append] at h1; simp at h1 ⊢; omega, ?_⟩
      rw [hb, e1]
      exact h2
    · have e1 : strA [a, .own (.lst (xs.map .int)), c, d, .sh (.int z), .sh p, f] st = .nx [a, .own (.lst (xs.map .int)), c, d, .sh (.int z), .dead, f] st := by
        simp [strA, hz]
      obtain ⟨xs', z', h1, h2⟩ := strA_loop a c d f st ps xs z (by omega)
      refine ⟨xs', z', by simp; omega, ?_⟩
      rw [hb, e1]
      exact h2
theorem strB_loop (a d : Slot) (pl z : Int) (st : PV) : ∀ (ks : List Nat) (xs : List Int) (m : Int), 0 ≤ m → m < 2147483648 → xs.length + ks.length ≤ 10000 →
    ∃ (xs' : List Int) (m' : Int), xs'.length ≤ xs.length + ks.length ∧ forL (nameG 5) strB (nts ks) [a, .own (.lst (xs.map .int)), .sh (.int pl), d, .sh (.int z), .dead, .sh (.int m)] st = .nx [a, .own (.lst (xs'.map .int)), .sh (.int pl), d, .sh (.int z), .dead, .sh (.int m')] st
  | [], xs, m, _, _, _ => ⟨xs, m, Nat.le_refl _, rfl⟩
  | k :: ks, xs, m, h1, h2, hl => by
    have hs : sizeLine = 16777216 := sizeLine_eq
    rw [List.length_cons] at hl
    have hb : forL (nameG 5) strB (nts (k :: ks)) [a, .own (.lst (xs.map .int)), .sh (.int pl), d, .sh (.int z), .dead, .sh (.int m)] st = (match strB [a, .own (.lst (xs.map .int)), .sh (.int pl), d, .sh (.int z), .sh (.int (k : Int)), .sh (.int m)] st with
      | .nx env2 st2 => forL (nameG 5) strB (nts ks) env2 st2
      | .ct env2 st2 => forL (nameG 5) strB (nts ks) env2 st2
      | .brk env2 st2 => .nx env2 st2
      | r => r) := rfl
    have k3 : xs.length < sizeLine := by omega
    have k4 := mul_l m m (by omega) (by omega)
    have k5 := mul_r z 31 (by decide) (by decide)
    have k6 := mul_r (k : Int) 524287 (by decide) (by decide)
    obtain ⟨m', hm1, hm2⟩ := fmod_lt (m * m + z * 31 + (k : Int) * 524287 + pl) (m := 2147483587) (by decide)
    have k7 := modP_int (m * m + z * 31 + (k : Int) * 524287 + pl) 2147483587 (by decide)
    rw [hm2] at k7
    have k8 := fdivP_int (m' : Int) 7 rfl
    have e1 : strB [a, .own (.lst (xs.map .int)), .sh (.int pl), d, .sh (.int z), .sh (.int (k : Int)), .sh (.int m)] st = .nx [a, .own (.lst ((xs ++ [Int.fdiv (m' : Int) 7]).map .int)), .sh (.int pl), d, .sh (.int z), .dead, .sh (.int (m' : Int))] st := by
      simp [strB, k4, k5, k6, addP_int, intTy_int, k7, k8, k3]
    obtain ⟨xs', m2, g1, g2⟩ := strB_loop a d pl z st ks (xs ++ [Int.fdiv (m' : Int) 7]) (m' : Int) (by omega) (by omega) (by rw [List.length_append]; simp; omega)
    refine ⟨xs', m2, by rw [List.length_append] at g1; simp at g1 ⊢; omega, ?_⟩
    rw [hb, e1]
    exact g2
theorem len_rng (n : Nat) : (nts (List.range n)).length = n := by simp
theorem rngP_lit (n : Nat) (h : n ≤ 16777216) : rngP [.int (n : Int)] = some (nts (List.range n)) := rngP_nat (by rw [sizeLine_eq]; exact h)
theorem strC_step (ns : List Int) (st : PV) (xs : List Int) (k : Nat) (hk : k < ns.length) (hx : xs.length + 50 ≤ 10000) :
    ∃ xs' : List Int, xs'.length ≤ xs.length + 50 ∧ strC [.sh (.scr ns), .own (.lst (xs.map .int)), .sh (.int (k : Int)), .dead, .dead, .dead, .dead] st = .nx [.sh (.scr ns), .own (.lst (xs'.map .int)), .dead, .dead, .dead, .dead, .dead] st := by
  obtain ⟨c, hc⟩ : ∃ c, ns[k]? = some c := ⟨_, List.getElem?_eq_getElem hk⟩
  have k0 : ixP (.scr ns) (.int (k : Int)) = some (.int c) := by
    show (L2.atI ns (k : Int)).map PV.int = _
    rw [atI_nat hc]; rfl
  have k1 := mul_l 2 c (by decide) (by decide)
  have k2 : powP (.int 10) (.int 18) = some (.int 1000000000000000000) := by
    show (if decide (CPow 10 18) = true then some (PV.int ((10 : Int) ^ (18 : Int).toNat)) else none) = _
    rw [if_pos (by rw [decide_eq_true_iff]; unfold CPow; decide)]
    rfl
  have r5 : rngP [.int 5] = some (nts (List.range 5)) := rngP_lit 5 (by decide)
  have r50 : rngP [.int 50] = some (nts (List.range 50)) := rngP_lit 50 (by decide)
  have main : ∀ z : Int, ∃ xs' : List Int, xs'.length ≤ xs.length + 50 ∧ (seqS (ifS (cmpT geP (vR 4) (opE powP (cE (.int 10)) (cE (.int 18)))) (seqS (forS (rngA (consA (cE (.int 50)) nilA)) (nameG 5) strA) nxS) (seqS (setS 6 (opE modP (biE intTyP (consA (opE addP (opE addP (opE mulP (vR 4) (cE (.int 16807))) (opE mulP (vR 2) (cE (.int 7919)))) (cE (.int 101))) nilA)) (cE (.int 2147483629)))) (seqS (forS (rngA (consA (cE (.int 5)) nilA)) (nameG 5) strB) nxS))) (fun env st => .nx (killS [2, 3, 4, 5, 6] env) st)) [.sh (.scr ns), .own (.lst (xs.map .int)), .sh (.int (k : Int)), .sh (.int c), .sh (.int z), .dead, .dead] st = .nx [.sh (.scr ns), .own (.lst (xs'.map .int)), .dead, .dead, .dead, .dead, .dead] st := fun z => by
    by_cases hz : 1000000000000000000 ≤ z
    · obtain ⟨xs', z', h1, h2⟩ := strA_loop (.sh (.scr ns)) (.sh (.int (k : Int))) (.sh (.int c)) .dead st (nts (List.range 50)) xs z (by rw [len_rng]; exact hx)
      rw [len_rng] at h1
      refine ⟨xs', h1, ?_⟩
      simp [k2, hz, r50, h2]
    · have k3 := mul_r z 16807 (by decide) (by decide)
      have k4 := mul_r (k : Int) 7919 (by decide) (by decide)
      obtain ⟨m', hm1, hm2⟩ := fmod_lt (z * 16807 + (k : Int) * 7919 + 101) (m := 2147483629) (by decide)
      have k7 := modP_int (z * 16807 + (k : Int) * 7919 + 101) 2147483629 (by decide)
      rw [hm2] at k7
      obtain ⟨xs', z', h1, h2⟩ := strB_loop (.sh (.scr ns)) (.sh (.int c)) (k : Int) z st (List.range 5) xs (m' : Int) (by omega) (by omega) (by rw [List.length_range]; omega)
      rw [List.length_range] at h1
      refine ⟨xs', by omega, ?_⟩
      simp [k2, hz, r5, k3, k4, addP_int, intTy_int, k7, h2]
  by_cases hneg : c < 0
  · obtain ⟨xs', h1, h2⟩ := main (1 - 2 * c)
    refine ⟨xs', h1, ?_⟩
    rw [← h2]
    simp [strC, k0, k1, intTy_int, hneg, subP_int]
  · obtain ⟨xs', h1, h2⟩ := main (2 * c)
    refine ⟨xs', h1, ?_⟩
    rw [← h2]
    simp [strC, k0, k1, intTy_int, hneg]
theorem strC_loop (ns : List Int) (st : PV) : ∀ (ks : List Nat) (xs : List Int), (∀ k ∈ ks, k < ns.length) → xs.length + 50 * ks.length ≤ 10000 →
    ∃ xs' : List Int, forL (nameG 2) strC (nts ks) [.sh (.scr ns), .own (.lst (xs.map .int)), .dead, .dead, .dead, .dead, .dead] st = .nx [.sh (.scr ns), .own (.lst (xs'.map .int)), .dead, .dead, .dead, .dead, .dead] st
  | [], xs, _, _ => ⟨xs, rfl⟩
  | k :: ks, xs, hk, hl => by
    rw [List.length_cons] at hl
    obtain ⟨xs1, h1, h2⟩ := strC_step ns st xs k (hk k List.mem_cons_self) (by omega)
    obtain ⟨xs2, h3⟩ := strC_loop ns st ks xs1 (fun j hj => hk j (List.mem_cons_of_mem _ hj)) (by omega)
    refine ⟨xs2, ?_⟩
    have hb : forL (nameG 2) strC (nts (k :: ks)) [.sh (.scr ns), .own (.lst (xs.map .int)), .dead, .dead, .dead, .dead, .dead] st = (match strC [.sh (.scr ns), .own (.lst (xs.map .int)), .sh (.int (k : Int)), .dead, .dead, .dead, .dead] st with
      | .nx env2 st2 => forL (nameG 2) strC (nts ks) env2 st2
      | .ct env2 st2 => forL (nameG 2) strC (nts ks) env2 st2
      | .brk env2 st2 => .nx env2 st2
      | r => r) := rfl
    rw [hb, h2]
    exact h3
theorem c_stream (ns : List Int) (hn : ns.length ≤ 63) (st : PV) : ∃ p, SOk p ∧ callK fi__law_stream [.scr ns] st = .ok p st := by
  obtain ⟨xs, h⟩ := strC_loop ns .non (List.range ns.length) [] (fun k hk => List.mem_range.mp hk) (by rw [List.length_range]; simp; omega)
  refine ⟨.lst [.lst (xs.map .int), .int 0], ⟨xs, 0, rfl⟩, ?_⟩
  have k1 : minP [.int 63, .int (ns.length : Nat)] = some (.int (ns.length : Nat)) := by
    show some (PV.int (if ((ns.length : Nat) : Int) < 63 then ((ns.length : Nat) : Int) else 63)) = _
    by_cases e : ((ns.length : Nat) : Int) < 63
    · rw [if_pos e]
    · rw [if_neg e]
      have : ns.length = 63 := by omega
      rw [this]; rfl
  have k2 := rngP_lit ns.length (by omega)
  simp only [List.map_nil] at h
  have e : fi__law_stream.sem [.scr ns] .non = .ok (.lst [.lst (xs.map .int), .int 0]) .non := by
    simp [fi__law_stream, stream_eq, env0, slotOf, lenP, k1, k2, h, s2]
  rw [callK_val, e]
end KI.K10

/-! part P10s -/
set_option Elab.async false
set_option linter.all false
set_option maxRecDepth 100000
set_option maxHeartbeats 2000000
namespace KI.K10
open PySem PySem.Spec PyProof.Rows L2 KI
/-! ## lines and lots drawn -/
theorem tx_add (a b : List Nat) (h : a.length + b.length ≤ sizeLine) : addP (tx a) (tx b) = some (tx (a ++ b)) := by
  show (if (⟨a.toArray⟩ : Str).length + (⟨b.toArray⟩ : Str).length ≤ sizeLine then some (PV.str ((⟨a.toArray⟩ : Str) ++ ⟨b.toArray⟩)) else none) = _
  rw [if_pos (by show a.toArray.size + b.toArray.size ≤ _; simpa using h)]
  have e : ((⟨a.toArray⟩ : Str) ++ ⟨b.toArray⟩) = ⟨a.toArray ++ b.toArray⟩ := rfl
  rw [e]
  simp [tx]
theorem lines_app (ls : List (List Nat)) (l : List Nat) : lines ls ++ [tx l] = lines (ls ++ [l]) := by simp [lines]
def Raw (n : Nat) (l : List Nat) : Prop := l.length = n ∧ ∀ c ∈ l, c = 46 ∨ c = 102 ∨ c = 108
def cellB : SF := (seqS (setS 8 (opE addP (vR 8) (opE ixP (vR 4) (opE modP (biE intTyP (consA (opE addP (opE addP (opE addP (callE fi__law_next [] (consA (mtA 0) (consA (cE (.int 6)) nilA))) (opE mulP (cE (.int 2)) (vR 7))) (opE mulP (vR 9) (vR 9))) (vR 5)) nilA)) (cE (.int 6)))))) (fun env st => .nx (killS [9] env) st))
def lineB : SF := (seqS (setS 8 (cE (.str ""))) (seqS (forS (rngA (consA (vE 2) nilA)) (nameG 9) cellB) (seqS (appS 6 (vE 8)) (fun env st => .nx (killS [7, 8, 9] env) st))))
theorem lines_eq : g__law_lines = (seqS (setS 4 (cE (.str "f.f..f"))) (seqS (ifS (truT (vR 3)) (seqS (setS 4 (cE (.str "f.fl.."))) nxS) nxS) (seqS (setS 5 (callE fi__law_next [] (consA (mtA 0) (consA (cE (.int 6)) nilA)))) (seqS (setO 6 (lstE nilA)) (seqS (forS (rngA (consA (vE 1) nilA)) (nameG 7) lineB) (fun env st => (seqS (retS (vE 6)) nxS) (frzE 6 env) st)))))) := rfl
@[simp] theorem frz6 (a b c d e f : Slot) (p : PV) (r : SEnv) : frzE 6 (a :: b :: c :: d :: e :: f :: .own p :: r) = a :: b :: c :: d :: e :: f :: .sh p :: r := (rfl)
theorem cell_loop (a1 a2 a3 : Slot) (me : List Nat) (hme : me.length = 6) (sh row : Int) (o : Slot) : ∀ (ks : List Nat) (l : List Nat) (st : PV), SOk st → (∀ k ∈ ks, k < 10000) → l.length + ks.length ≤ 10000 →
    ∃ (l' : List Nat) (st' : PV), SOk st' ∧ l'.length = l.length + ks.length ∧ (∀ c ∈ l', c ∈ l ∨ c ∈ me) ∧ forL (nameG 9) cellB (nts ks) [.mt, a1, a2, a3, .sh (tx me), .sh (.int sh), o, .sh (.int row), .sh (tx l), .dead] st = .nx [.mt, a1, a2, a3, .sh (tx me), .sh (.int sh), o, .sh (.int row), .sh (tx l'), .dead] st'
  | [], l, st, hS, _, _ => ⟨l, st, hS, rfl, fun c hc => .inl hc, rfl⟩
  | k :: ks, l, st, hS, hk, hl => by
    have hs : sizeLine = 16777216 := sizeLine_eq
    rw [List.length_cons] at hl
    have hb : forL (nameG 9) cellB (nts (k :: ks)) [.mt, a1, a2, a3, .sh (tx me), .sh (.int sh), o, .sh (.int row), .sh (tx l), .dead] st = (match cellB [.mt, a1, a2, a3, .sh (tx me), .sh (.int sh), o, .sh (.int row), .sh (tx l), .sh (.int (k : Int))] st with
      | .nx env2 st2 => forL (nameG 9) cellB (nts ks) env2 st2
      | .ct env2 st2 => forL (nameG 9) cellB (nts ks) env2 st2
      | .brk env2 st2 => .nx env2 st2
      | r => r) := rfl
    obtain ⟨v, st1, h1, h2, h3⟩ := c_next hS 6 (by decide)
    have k0 := hk k List.mem_cons_self
    have k1 := mul_l 2 row (by decide) (by decide)
    have k2 := mul_l (k : Int) (k : Int) (by omega) (by omega)
    obtain ⟨m, hm1, hm2⟩ := fmod_lt ((v : Int) + 2 * row + (k : Int) * (k : Int) + sh) (m := 6) (by decide)
    have k3 := modP_int ((v : Int) + 2 * row + (k : Int) * (k : Int) + sh) 6 (by decide)
    rw [hm2] at k3
    have k4 := ix_tx (l := me) (j := m) (by omega) (by omega)
    have k5 := tx_add l [mk me m] (by simp; omega)
    have e1 : cellB [.mt, a1, a2, a3, .sh (tx me), .sh (.int sh), o, .sh (.int row), .sh (tx l), .sh (.int (k : Int))] st = .nx [.mt, a1, a2, a3, .sh (tx me), .sh (.int sh), o, .sh (.int row), .sh (tx (l ++ [mk me m])), .dead] st1 := by
      simp [cellB, h3, k1, k2, addP_int, intTy_int, k3, k4, k5]
    obtain ⟨l', st', g1, g2, g3, g4⟩ := cell_loop a1 a2 a3 me hme sh row o ks (l ++ [mk me m]) st1 h2 (fun j hj => hk j (List.mem_cons_of_mem _ hj)) (by rw [List.length_append]; simp; omega)
    refine ⟨l', st', g1, by rw [g2, List.length_append]; simp; omega, fun c hc => ?_, by rw [hb, e1]; exact g4⟩
    rcases g3 c hc with g | g
    · rcases List.mem_append.mp g with g | g
      · exact .inl g
      · rw [List.mem_singleton.mp g]
        exact .inr (mk_mem (by omega))
    · exact .inr g
theorem lit_empty : ("" : Str) = ⟨#[]⟩ := by decide +kernel
theorem line_loop (n : Nat) (hn : n ≤ 600) (a1 a3 : Slot) (me : List Nat) (hme : me.length = 6) (hc : ∀ c ∈ me, c = 46 ∨ c = 102 ∨ c = 108) (sh : Int) : ∀ (ks : List Nat) (ls : List (List Nat)) (st : PV), SOk st → ls.length + ks.length ≤ 800 → (∀ l ∈ ls, Raw n l) →
    ∃ (ls' : List (List Nat)) (st' : PV), SOk st' ∧ ls'.length = ls.length + ks.length ∧ (∀ l ∈ ls', Raw n l) ∧ forL (nameG 7) lineB (nts ks) [.mt, a1, .sh (.int (n : Int)), a3, .sh (tx me), .sh (.int sh), .own (.lst (lines ls)), .dead, .dead, .dead] st = .nx [.mt, a1, .sh (.int (n : Int)), a3, .sh (tx me), .sh (.int sh), .own (.lst (lines ls')), .dead, .dead, .dead] st'
  | [], ls, st, hS, _, hl => ⟨ls, st, hS, rfl, hl, rfl⟩
  | k :: ks, ls, st, hS, hz, hl => by
    have hs : sizeLine = 16777216 := sizeLine_eq
    rw [List.length_cons] at hz
    obtain ⟨l', st1, h1, h2, h3, h4⟩ := cell_loop a1 (.sh (.int (n : Int))) a3 me hme sh (k : Int) (.own (.lst (lines ls))) (List.range n) [] st hS (fun j hj => by have := List.mem_range.mp hj; omega) (by rw [List.length_range]; simp; omega)
    have k1 := rngP_lit n (by omega)
    have k2 : (lines ls).length < sizeLine := by simp; omega
    have k3 : tx ([] : List Nat) = .str "" := by rw [lit_empty]
    rw [k3] at h4
    have e1 : lineB [.mt, a1, .sh (.int (n : Int)), a3, .sh (tx me), .sh (.int sh), .own (.lst (lines ls)), .sh (.int (k : Int)), .dead, .dead] st = .nx [.mt, a1, .sh (.int (n : Int)), a3, .sh (tx me), .sh (.int sh), .own (.lst (lines (ls ++ [l']))), .dead, .dead, .dead] st1 := by
      have k2' : ls.length < sizeLine := by omega
      simp [lineB, k1, h4, k2', lines_app]
    obtain ⟨ls', st', g1, g2, g3, g4⟩ := line_loop n hn a1 a3 me hme hc sh ks (ls ++ [l']) st1 h1 (by rw [List.length_append]; simp; omega) (fun l hlm => by
      rcases List.mem_append.mp hlm with hlm | hlm
      · exact hl l hlm
      · rw [List.mem_singleton.mp hlm]
        exact ⟨by rw [h2, List.length_range]; simp, fun c hcm => hc c ((h3 c hcm).resolve_left (by simp))⟩)
    exact ⟨ls', st', g1, by rw [g2, List.length_append]; simp; omega, g3, forL_nx rfl e1 g4⟩
theorem lit_m1 : ("f.f..f" : Str) = ⟨#[102, 46, 102, 46, 46, 102]⟩ := by decide +kernel
theorem lit_m2 : ("f.fl.." : Str) = ⟨#[102, 46, 102, 108, 46, 46]⟩ := by decide +kernel
theorem c_lines (n r : Nat) (hn : n ≤ 600) (hr : r ≤ 800) (b : Bool) {st : PV} (hS : SOk st) : ∃ (ls : List (List Nat)) (st' : PV), SOk st' ∧ ls.length = r ∧ (∀ l ∈ ls, Raw n l) ∧ callK fi__law_lines [.non, .int (r : Int), .int (n : Int), .bl b] st = .ok (.lst (lines ls)) st' := by
  have hs : sizeLine = 16777216 := sizeLine_eq
  obtain ⟨v, st1, h1, h2, h3⟩ := c_next hS 6 (by decide)
  have k1 := rngP_lit r (by omega)
  have main : ∀ me : List Nat, me.length = 6 → (∀ c ∈ me, c = 46 ∨ c = 102 ∨ c = 108) → (∀ g st', seqS (setS 4 (cE (.str "f.f..f"))) (seqS (ifS (truT (vR 3)) (seqS (setS 4 (cE (.str "f.fl.."))) nxS) nxS) g) [.mt, .sh (.int (r : Int)), .sh (.int (n : Int)), .sh (.bl b), .dead, .dead, .dead, .dead, .dead, .dead] st' = g [.mt, .sh (.int (r : Int)), .sh (.int (n : Int)), .sh (.bl b), .sh (tx me), .dead, .dead, .dead, .dead, .dead] st') →
      ∃ (ls : List (List Nat)) (st' : PV), SOk st' ∧ ls.length = r ∧ (∀ l ∈ ls, Raw n l) ∧ callK fi__law_lines [.non, .int (r : Int), .int (n : Int), .bl b] st = .ok (.lst (lines ls)) st' := fun me hme hc hg => by
    obtain ⟨ls, st', g1, g2, g3, g4⟩ := line_loop n hn (.sh (.int (r : Int))) (.sh (.bl b)) me hme hc (v : Int) (List.range r) [] st1 h2 (by rw [List.length_range]; simp; omega) (fun l hl => by simp at hl)
    refine ⟨ls, st', g1, by rw [g2, List.length_range]; simp, g3, ?_⟩
    have k4 : lines [] = [] := rfl
    rw [k4] at g4
    rw [callK_mu]
    refine sem_ok (env1 := [.mt, .sh (.int (r : Int)), .sh (.int (n : Int)), .sh (.bl b), .sh (tx me), .sh (.int (v : Int)), .sh (.lst (lines ls)), .dead, .dead, .dead]) ?_ (fun _ => rfl)
    rw [lines_eq]
    refine (hg _ st).trans ?_
    have c1 : callE fi__law_next [] (consA (mtA 0) (consA (cE (.int 6)) nilA)) [.mt, .sh (.int (r : Int)), .sh (.int (n : Int)), .sh (.bl b), .sh (tx me), .dead, .dead, .dead, .dead, .dead] st = .ok (.int (v : Int)) st1 := by
      simp [h3]
    have c2 : lstE nilA [.mt, .sh (.int (r : Int)), .sh (.int (n : Int)), .sh (.bl b), .sh (tx me), .sh (.int (v : Int)), .dead, .dead, .dead, .dead] st1 = .ok (.lst []) st1 := by
      simp
    have c3 : rngA (consA (vE 1) nilA) [.mt, .sh (.int (r : Int)), .sh (.int (n : Int)), .sh (.bl b), .sh (tx me), .sh (.int (v : Int)), .own (.lst []), .dead, .dead, .dead] st1 = .ok (nts (List.range r)) st1 := by
      simp [k1]
    refine seq_nx (set_ok c1) (seq_nx (setO_ok c2) (seq_nx (for_ok c3 g4) (seq_ret (ret_ok ?_))))
    simp
  cases b with
  | false =>
    refine main [102, 46, 102, 46, 46, 102] rfl (by decide) fun g st' => ?_
    have k3 : tx [102, 46, 102, 46, 46, 102] = .str "f.f..f" := by rw [lit_m1]
    rw [k3]
    simp
  | true =>
    refine main [102, 46, 102, 108, 46, 46] rfl (by decide) fun g st' => ?_
    have k3 : tx [102, 46, 102, 108, 46, 46] = .str "f.fl.." := by rw [lit_m2]
    rw [k3]
    simp
theorem cut_take (l : List Nat) (a : Nat) (ha : a ≤ l.length) (hl : l.length ≤ sizeLine) : slS (tx l) none (some (a : Int)) = some (tx (l.take a)) := by
  have h0 : (⟨l.toArray⟩ : Str).length = l.length := by simp [Str.length]
  show (if (⟨l.toArray⟩ : Str).length ≤ sizeLine then some (PV.str (cutS ⟨l.toArray⟩ none (some (a : Int)))) else none) = _
  rw [if_pos (by rw [h0]; exact hl)]
  unfold cutS
  rw [HT.sIx_nat, HT.sIx_none, h0]
  simp [Nat.min_eq_left ha]
theorem cut_drop (l : List Nat) (a : Nat) (ha : a ≤ l.length) (hl : l.length ≤ sizeLine) : slS (tx l) (some (a : Int)) none = some (tx (l.drop a)) := by
  have h0 : (⟨l.toArray⟩ : Str).length = l.length := by simp [Str.length]
  show (if (⟨l.toArray⟩ : Str).length ≤ sizeLine then some (PV.str (cutS ⟨l.toArray⟩ (some (a : Int)) none)) else none) = _
  rw [if_pos (by rw [h0]; exact hl)]
  unfold cutS
  rw [HT.sIx_nat, HT.sIx_none, h0]
  simp [Nat.min_eq_left ha]
  rw [List.take_of_length_le (by simp)]
theorem raw_ok {n : Nat} {l : List Nat} (h : Raw n l) : LineOk n l := by
  refine ⟨h.1, fun c hc => ?_, ?_⟩
  · rcases h.2 c hc with e | e | e
    · exact .inl e
    · subst e; exact .inr rfl
    · subst e; exact .inr rfl
  · rw [List.count_eq_zero_of_not_mem]
    · omega
    · intro hm
      have := h.2 _ hm
      omega
theorem told_ok {n : Nat} {l : List Nat} (h : Raw n l) {a : Nat} (ha : a < n) : LineOk n (l.take a ++ [116] ++ l.drop (a + 1)) := by
  have h1 := h.1
  have hm : ∀ c ∈ l, c ≠ 116 := fun c hc => by rcases h.2 c hc with e | e | e <;> omega
  refine ⟨by simp; omega, fun c hc => ?_, ?_⟩
  · rcases List.mem_append.mp hc with hc | hc
    · rcases List.mem_append.mp hc with hc | hc
      · exact (raw_ok h).2.1 c (List.mem_of_mem_take hc)
      · rw [List.mem_singleton.mp hc]; exact .inr rfl
    · exact (raw_ok h).2.1 c (List.mem_of_mem_drop hc)
  · rw [List.count_append, List.count_append]
    rw [List.count_eq_zero_of_not_mem (fun z => hm _ (List.mem_of_mem_take z) rfl), List.count_eq_zero_of_not_mem (fun z => hm _ (List.mem_of_mem_drop z) rfl)]
    simp
theorem c_told (n : Nat) (hn : n ≤ 600) {l : List Nat} (h : Raw n l) {st : PV} (hS : SOk st) : ∃ (l' : List Nat) (st' : PV), SOk st' ∧ LineOk n l' ∧ callK fi__law_told_line [.non, tx l] st = .ok (tx l') st' := by
  have hs : sizeLine = 16777216 := sizeLine_eq
  have h1 := h.1
  have k1 := len_tx l (by omega)
  by_cases hz : l.length = 0
  · refine ⟨l, st, hS, raw_ok h, ?_⟩
    have hz' : ((l.length : Nat) : Int) = 0 := by omega
    rw [callK_mu]
    rw [hz'] at k1
    simp [fi__law_told_line, g__law_told_line, env0, slotOf, k1, eqP_int, hasMt, borOk]
  · have hz' : ¬ ((l.length : Nat) : Int) = 0 := by omega
    have hz2 : (((l.length : Nat) : Int) == 0) = false := by simpa using hz'
    obtain ⟨v, st1, g1, g2, g3⟩ := c_next hS 3 (by decide)
    by_cases hv : 0 < (v : Int)
    · refine ⟨l, st1, g2, raw_ok h, ?_⟩
      rw [callK_mu]
      have hv' : 0 < v := by omega
      simp [fi__law_told_line, g__law_told_line, env0, slotOf, k1, eqP_int, hasMt, borOk, hz2, g3, hv, hv']
    · obtain ⟨mn, hmn1, hmn2, hmn3⟩ : ∃ mn : Int, 0 < mn ∧ mn ≤ ((l.length : Nat) : Int) ∧ minP [.int 30, .int (l.length : Nat)] = some (.int mn) := by
        refine ⟨(if ((l.length : Nat) : Int) < 30 then ((l.length : Nat) : Int) else 30), ?_, ?_, rfl⟩
        · split <;> omega
        · split <;> omega
      obtain ⟨w, st2, g4, g5, g6⟩ := c_next g2 mn hmn1
      have hw : w < n := by omega
      refine ⟨l.take w ++ [116] ++ l.drop (w + 1), st2, g5, told_ok h hw, ?_⟩
      have k2 := cut_take l w (by omega) (by omega)
      have k3 := cut_drop l (w + 1) (by omega) (by omega)
      have k4 := tx_add (l.take w) [116] (by simp; omega)
      have k5 := tx_add (l.take w ++ [116]) (l.drop (w + 1)) (by simp; omega)
      have k6 : (((w + 1 : Nat) : Nat) : Int) = (w : Int) + 1 := by omega
      rw [k6] at k3
      have k7 : ("t" : Str) = ⟨[116].toArray⟩ := lit_t
      have hv' : v = 0 := by omega
      subst hv'
      rw [callK_mu]
      simp only [fi__law_told_line, g__law_told_line, k7]
      simp [env0, slotOf, k1, eqP_int, hasMt, borOk, hz2, g3, hmn3, g6, k2, addP_int, k3]
      simp at k4 k5
      simp [k4, k5, hasMt]
theorem lst_of {Pp : List Nat → Prop} : ∀ {ys : List PV}, (∀ y ∈ ys, ∃ l, Pp l ∧ y = tx l) → ∃ ls, ys = lines ls ∧ ∀ l ∈ ls, Pp l
  | [], _ => ⟨[], rfl, fun l hl => by simp at hl⟩
  | y :: ys, h => by
    obtain ⟨l, h1, rfl⟩ := h y List.mem_cons_self
    obtain ⟨ls, rfl, h3⟩ := lst_of fun z hz => h z (List.mem_cons_of_mem _ hz)
    exact ⟨l :: ls, rfl, fun m hm => by
      rcases List.mem_cons.mp hm with rfl | hm
      · exact h1
      · exact h3 m hm⟩
theorem c_marks (n r : Nat) (hn : n ≤ 600) (hr : r ≤ 800) {st : PV} (hS : SOk st) : ∃ (ls : List (List Nat)) (st' : PV), SOk st' ∧ TabOk n ls ∧ callK fi__law_marks [.non, .int (r : Int), .int (n : Int)] st = .ok (.lst (lines ls)) st' := by
  have hs : sizeLine = 16777216 := sizeLine_eq
  obtain ⟨v, st1, h1, h2, h3⟩ := c_next hS 2 (by decide)
  obtain ⟨ls, st2, g1, g2, g3, g4⟩ := c_lines n r hn hr ((v : Int) == 0) h2
  have key : ∃ (qs ys : List PV) (st' : PV), lcL (nameG 4) yesT (callE fi__law_told_line [] (consA (mtA 0) (consA (vE 4) nilA))) [.mt, .sh (.int (r : Int)), .sh (.int (n : Int)), .sh (.lst (lines ls)), .dead] (lines ls) st2 = .ok ys st' ∧ SOk st' ∧ qs.Sublist (lines ls) ∧ qs.length = ys.length ∧ ∀ (i : Nat) p y, qs[i]? = some p → ys[i]? = some y → ∃ l, LineOk n l ∧ y = tx l := by
    refine lcL_st SOk (fun _ y => ∃ l, LineOk n l ∧ y = tx l) g1 fun p hp st hst => ?_
    obtain ⟨l, hl, rfl⟩ := List.mem_map.mp hp
    obtain ⟨l', st', e1, e2, e3⟩ := c_told n hn (g3 l hl) hst
    refine ⟨_, rfl, true, st, rfl, hst, fun _ => ⟨tx l', st', ?_, e1, l', e2, rfl⟩⟩
    simp [borOk, e3]
  obtain ⟨qs, ys, st', q1, q2, q3, q4, q5⟩ := key
  obtain ⟨ls', rfl, q6⟩ := lst_of (Pp := LineOk n) (ys := ys) fun y hy => by
    obtain ⟨i, hi⟩ := List.getElem?_of_mem hy
    obtain ⟨hlt, _⟩ := List.getElem?_eq_some_iff.mp hi
    exact q5 i _ y (List.getElem?_eq_getElem (by rw [q4]; exact hlt)) hi
  refine ⟨ls', st', q2, ⟨hn, ?_, q6⟩, ?_⟩
  · have := q3.length_le
    rw [q4] at this
    simp at this
    omega
  · rw [callK_mu]
    have k1 : (lines ls).length ≤ sizeLine := by simp; omega
    have k1' : ls.length ≤ sizeLine := by omega
    simp [fi__law_marks, g__law_marks, env0, slotOf, h3, eqP_int, g4, seqP, calmAt, k1', q1, hasMt]
theorem c_lot (n : Nat) (hn : n ≤ 600) {st : PV} (hS : SOk st) : ∃ (out : List Nat) (st' : PV), SOk st' ∧ out.Nodup ∧ (∀ m ∈ out, m < n) ∧ out.length ≤ n ∧ callK fi__law_lot [.non, .int (n : Int)] st = .ok (.lst (nts out)) st' := by
  have hs : sizeLine = 16777216 := sizeLine_eq
  have key : ∃ (qs ys : List PV) (st' : PV), lcL (nameG 2) (cmpT eqP (callE fi__law_next [] (consA (mtA 0) (consA (cE (.int 2)) nilA))) (cE (.int 1))) (vE 2) [.mt, .sh (.int (n : Int)), .dead] (nts (List.range n)) st = .ok ys st' ∧ SOk st' ∧ qs.Sublist (nts (List.range n)) ∧ qs.length = ys.length ∧ ∀ (i : Nat) p y, qs[i]? = some p → ys[i]? = some y → y = p := by
    refine lcL_st SOk (fun p y => y = p) hS fun p hp st hst => ?_
    obtain ⟨k, hk, rfl⟩ := mem_nts hp
    obtain ⟨v, st1, h1, h2, h3⟩ := c_next hst 2 (by decide)
    refine ⟨_, rfl, (v : Int) == 1, st1, ?_, h2, fun _ => ⟨.int (k : Int), st1, ?_, h2, rfl⟩⟩
    · simp [h3, eqP_int]
    · simp [borOk]
  obtain ⟨qs, ys, st', q1, q2, q3, q4, q5⟩ := key
  have e : ys = qs := by
    apply List.ext_getElem?
    intro i
    by_cases h : i < ys.length
    · have h' : i < qs.length := by omega
      rw [List.getElem?_eq_getElem h, List.getElem?_eq_getElem h']
      congr 1
      exact q5 i _ _ (List.getElem?_eq_getElem h') (List.getElem?_eq_getElem h)
    · rw [List.getElem?_eq_none (by omega), List.getElem?_eq_none (by omega)]
  subst e
  obtain ⟨out, o1, o2⟩ := List.sublist_map_iff.mp q3
  refine ⟨out, st', q2, List.Sublist.nodup o1 List.nodup_range, fun m hm => List.mem_range.mp (o1.subset hm), by have := o1.length_le; rwa [List.length_range] at this, ?_⟩
  have k1 := rngP_lit n (by omega)
  have k2 : n ≤ sizeLine := by omega
  rw [callK_mu]
  simp [fi__law_lot, g__law_lot, env0, slotOf, k1, calmAt, k2, q1, hasMt]
  exact o2
end KI.K10

/-! part P10t -/
set_option Elab.async false
set_option linter.all false
set_option maxRecDepth 100000
set_option maxHeartbeats 2000000
namespace KI.K10
open PySem PySem.Spec PyProof.Rows L2 KI
/-! ## the ladder -/
def chs (ms : List Nat) : List PV := ms.map fun c => ch c
@[simp] theorem chs_length (ms : List Nat) : (chs ms).length = ms.length := by simp [chs]
theorem chs_set (ms : List Nat) (j c : Nat) : (chs ms).set j (ch c) = chs (ms.set j c) := by
  unfold chs
  rw [List.map_set]
theorem strs_chs : ∀ ms : List Nat, strsP (chs ms) = some (ms.map fun c => (⟨#[c]⟩ : Str))
  | [] => rfl
  | c :: ms => by
    show (strsP (chs ms)).map _ = _
    rw [strs_chs ms]; rfl
theorem str_nil : (⟨#[]⟩ : Str) = Str.empty := rfl
theorem join_chs : ∀ ms : List Nat, Str.join ⟨#[]⟩ (ms.map fun c => (⟨#[c]⟩ : Str)) = ⟨ms.toArray⟩
  | [] => rfl
  | [c] => rfl
  | c :: d :: ms => by
    show (⟨#[c]⟩ : Str) ++ ⟨#[]⟩ ++ Str.join ⟨#[]⟩ ((d :: ms).map fun c => (⟨#[c]⟩ : Str)) = _
    rw [join_chs (d :: ms)]
    show (⟨#[c] ++ #[] ++ (d :: ms).toArray⟩ : Str) = _
    simp
theorem sum_ones : ∀ ms : List Nat, ((ms.map fun c => (⟨#[c]⟩ : Str)).map (·.length)).sum = ms.length
  | [] => rfl
  | c :: ms => by
    show (⟨#[c]⟩ : Str).length + ((ms.map fun c => (⟨#[c]⟩ : Str)).map (·.length)).sum = _
    rw [sum_ones ms, List.length_cons]
    show 1 + ms.length = _
    omega
theorem join_marks (ms : List Nat) (h : ms.length ≤ 10000) : joinP "" (.lst (chs ms)) = some (tx ms) := by
  unfold joinP
  dsimp only
  rw [strs_chs ms]
  dsimp only
  have e0 : ("" : Str).length = 0 := by rw [lit_empty]; rfl
  rw [if_pos (by rw [sum_ones, e0]; simp; omega)]
  have e : Txt.join ("" : Str) (ms.map fun c => (⟨#[c]⟩ : Str)) = Str.join ("" : Str) (ms.map fun c => (⟨#[c]⟩ : Str)) := eq_of_beq (join_plain_closes _ _)
  rw [e, lit_empty, join_chs]
theorem count_set_le (b a : Nat) : ∀ (l : List Nat) (i : Nat), (l.set i a).count b ≤ l.count b + 1
  | [], i => by simp
  | c :: l, 0 => by
    rw [List.set_cons_zero, List.count_cons, List.count_cons]
    split <;> split <;> omega
  | c :: l, i + 1 => by
    rw [List.set_cons_succ, List.count_cons, List.count_cons]
    have := count_set_le b a l i
    omega
theorem mk_set {l : List Nat} {i : Nat} (h : i < l.length) (c j : Nat) : mk (l.set i c) j = if i = j then c else mk l j := by
  unfold mk
  rw [List.getD_eq_getElem?_getD, List.getD_eq_getElem?_getD, List.getElem?_set]
  by_cases e : i = j
  · subst e; simp [h]
  · simp [e]
/-- the place of turn i -/
def pi (n s t i : Nat) : Nat := (s + i * t) % n
theorem fmod_pi (n s t i : Nat) : Int.fmod ((s : Int) + (i : Int) * (t : Int)) (n : Int) = (pi n s t i : Nat) := by
  unfold pi
  have e : (s : Int) + (i : Int) * (t : Int) = ((s + i * t : Nat) : Int) := by simp
  rw [e, Int.fmod_eq_emod_of_nonneg _ (by omega)]
  rfl
def Lad (n : Nat) (f : Nat → Nat) (r : Nat) (l : List Nat) : Prop := LineOk n l ∧ hard (mk l (f r)) = true ∧ ∀ j, j < n → touched (mk l j) = true → ∃ i, i ≤ r ∧ j = f i
/-- marks under way -/
def MI (n : Nat) (f : Nat → Nat) (k : Nat) (ms : List Nat) : Prop := Raw n ms ∧ ∀ j, j < n → mk ms j ≠ 46 → ∃ i, i < k ∧ j = f i
def befB : SF := (seqS (setIx 6 (opE ixP (lstE (consA (cE (.str "f")) (consA (cE (.str ".")) (consA (cE (.str "l")) nilA)))) (callE fi__law_next [] (consA (mtA 0) (consA (cE (.int 3)) nilA)))) (opE modP (biE intTyP (consA (opE addP (vR 2) (opE mulP (vR 7) (vR 3))) nilA)) (vR 1))) (fun env st => .nx (killS [7] env) st))
def ladB : SF := (seqS (setO 6 (lcE [8] (rngA (consA (vE 1) nilA)) (nameG 8) yesT (cE (.str ".")))) (seqS (forS (rngA (consA (vE 5) nilA)) (nameG 7) befB) (seqS (setIx 6 (opE ixP (lstE (consA (cE (.str "f")) (consA (cE (.str "t")) nilA))) (callE fi__law_next [] (consA (mtA 0) (consA (cE (.int 2)) nilA)))) (opE modP (biE intTyP (consA (opE addP (vR 2) (opE mulP (vR 5) (vR 3))) nilA)) (vR 1))) (seqS (appS 4 (smE joinP (cE (.str "")) (vR 6))) (fun env st => .nx (killS [5, 6, 7] env) st)))))
theorem ladder_eq : g__law_ladder = (seqS (setS 2 (callE fi__law_next [] (consA (mtA 0) (consA (vE 1) nilA)))) (seqS (setS 3 (opE ixP (lstE (consA (cE (.int 1)) (consA (opE subP (vR 1) (cE (.int 1))) nilA))) (callE fi__law_next [] (consA (mtA 0) (consA (cE (.int 2)) nilA))))) (seqS (setO 4 (lstE nilA)) (seqS (forS (rngA (consA (vE 1) nilA)) (nameG 5) ladB) (fun env st => (seqS (retS (vE 4)) nxS) (frzE 4 env) st))))) := rfl
@[simp] theorem frz4 (a b c d : Slot) (p : PV) (r : SEnv) : frzE 4 (a :: b :: c :: d :: .own p :: r) = a :: b :: c :: d :: .sh p :: r := (rfl)
theorem lit_f : ("f" : Str) = ⟨#[102]⟩ := by decide +kernel
theorem pick3 (v : Nat) (hv : v < 3) : ∃ c : Nat, (c = 46 ∨ c = 102 ∨ c = 108) ∧ ixP (.lst [.str "f", .str ".", .str "l"]) (.int (v : Int)) = some (ch c) := by
  match v, hv with
  | 0, _ => exact ⟨102, by simp, by rw [lit_f]; rfl⟩
  | 1, _ => exact ⟨46, by simp, by rw [lit_dot]; rfl⟩
  | 2, _ => exact ⟨108, by simp, by rw [lit_l]; rfl⟩
theorem pick2 (v : Nat) (hv : v < 2) : ∃ c : Nat, (c = 102 ∨ c = 116) ∧ ixP (.lst [.str "f", .str "t"]) (.int (v : Int)) = some (ch c) := by
  match v, hv with
  | 0, _ => exact ⟨102, by simp, by rw [lit_f]; rfl⟩
  | 1, _ => exact ⟨116, by simp, by rw [lit_t]; rfl⟩
theorem bef_loop (n s t : Nat) (hn : 0 < n) (hz : n ≤ 600) (ht : t ≤ 600) (o row : Slot) : ∀ (m k : Nat) (ms : List Nat) (st : PV), k + m ≤ 600 → SOk st → MI n (pi n s t) k ms →
    ∃ (ms' : List Nat) (st' : PV), SOk st' ∧ MI n (pi n s t) (k + m) ms' ∧ forL (nameG 7) befB (nts (List.range' k m)) [.mt, .sh (.int (n : Int)), .sh (.int (s : Int)), .sh (.int (t : Int)), o, row, .own (.lst (chs ms)), .dead, .dead] st = .nx [.mt, .sh (.int (n : Int)), .sh (.int (s : Int)), .sh (.int (t : Int)), o, row, .own (.lst (chs ms')), .dead, .dead] st'
  | 0, k, ms, st, _, hS, hI => ⟨ms, st, hS, hI, rfl⟩
  | m + 1, k, ms, st, hk, hS, hI => by
    have hb : forL (nameG 7) befB (nts (List.range' k (m + 1))) [.mt, .sh (.int (n : Int)), .sh (.int (s : Int)), .sh (.int (t : Int)), o, row, .own (.lst (chs ms)), .dead, .dead] st = (match befB [.mt, .sh (.int (n : Int)), .sh (.int (s : Int)), .sh (.int (t : Int)), o, row, .own (.lst (chs ms)), .sh (.int (k : Int)), .dead] st with
      | .nx env2 st2 => forL (nameG 7) befB (nts (List.range' (k + 1) m)) env2 st2
      | .ct env2 st2 => forL (nameG 7) befB (nts (List.range' (k + 1) m)) env2 st2
      | .brk env2 st2 => .nx env2 st2
      | r => r) := rfl
    obtain ⟨v, st1, h1, h2, h3⟩ := c_next hS 3 (by decide)
    obtain ⟨c, hc, hp⟩ := pick3 v (by omega)
    have hl := hI.1.1
    have hpn : pi n s t k < n := Nat.mod_lt _ hn
    have k1 := mul_r (k : Int) (t : Int) (by omega) (by omega)
    have k2 := modP_int ((s : Int) + (k : Int) * (t : Int)) (n : Int) (by omega)
    rw [fmod_pi] at k2
    have k3 : L2.ixN ms.length ((pi n s t k : Nat) : Int) = some (pi n s t k) := ixN_nat (by omega)
    have e1 : befB [.mt, .sh (.int (n : Int)), .sh (.int (s : Int)), .sh (.int (t : Int)), o, row, .own (.lst (chs ms)), .sh (.int (k : Int)), .dead] st = .nx [.mt, .sh (.int (n : Int)), .sh (.int (s : Int)), .sh (.int (t : Int)), o, row, .own (.lst (chs (ms.set (pi n s t k) c))), .dead, .dead] st1 := by
      simp [befB, s3, h3, hp, k1, addP_int, intTy_int, k2, k3, chs_set]
    have hI1 : MI n (pi n s t) (k + 1) (ms.set (pi n s t k) c) := by
      refine ⟨⟨by rw [List.length_set]; exact hl, fun d hd => ?_⟩, fun j hj hm => ?_⟩
      · rcases List.mem_or_eq_of_mem_set hd with hd | hd
        · exact hI.1.2 d hd
        · rw [hd]; exact hc
      · rw [mk_set (by omega)] at hm
        by_cases e : pi n s t k = j
        · exact ⟨k, by omega, e.symm⟩
        · rw [if_neg e] at hm
          obtain ⟨i, hi, e'⟩ := hI.2 j hj hm
          exact ⟨i, by omega, e'⟩
    obtain ⟨ms', st', g1, g2, g3⟩ := bef_loop n s t hn hz ht o row m (k + 1) (ms.set (pi n s t k) c) st1 (by omega) h2 hI1
    exact ⟨ms', st', g1, by rw [show k + (m + 1) = k + 1 + m by omega]; exact g2, by rw [hb, e1]; exact g3⟩
theorem dots (n : Nat) (b0 b1 b2 b3 b4 b5 b6 b7 : Slot) (st : PV) : ∀ xs : List Nat, lcL (nameG 8) yesT (cE (.str ".")) [b0, b1, b2, b3, b4, b5, b6, b7, .dead] (nts xs) st = .ok (chs (List.replicate xs.length 46)) st
  | [] => rfl
  | x :: xs => by
    have ih := dots n b0 b1 b2 b3 b4 b5 b6 b7 st xs
    show (ER.bind (ER.ok (PV.str ".") st) fun y st2 => (lcL (nameG 8) yesT (cE (.str ".")) [b0, b1, b2, b3, b4, b5, b6, b7, .dead] (nts xs) st2).bind fun ys st3 => ER.ok (y :: ys) st3) = _
    rw [ER.bind_ok, ih, ER.bind_ok, lit_dot]
    rfl
theorem lad_step (n s t : Nat) (hn : 0 < n) (hz : n ≤ 600) (ht : t ≤ 600) (ls : List (List Nat)) (hls : ls.length ≤ 700) (k : Nat) (hk : k ≤ 600) {st : PV} (hS : SOk st) :
    ∃ (l : List Nat) (st' : PV), SOk st' ∧ Lad n (pi n s t) k l ∧ ladB [.mt, .sh (.int (n : Int)), .sh (.int (s : Int)), .sh (.int (t : Int)), .own (.lst (lines ls)), .sh (.int (k : Int)), .dead, .dead, .dead] st = .nx [.mt, .sh (.int (n : Int)), .sh (.int (s : Int)), .sh (.int (t : Int)), .own (.lst (lines (ls ++ [l]))), .dead, .dead, .dead, .dead] st' := by
  have hs : sizeLine = 16777216 := sizeLine_eq
  have k1 := rngP_lit n (by omega)
  have k2 := rngP_lit k (by omega)
  have k0 : n ≤ sizeLine := by omega
  have h0 := dots n .mt (.sh (.int (n : Int))) (.sh (.int (s : Int))) (.sh (.int (t : Int))) (.own (.lst (lines ls))) (.sh (.int (k : Int))) .dead .dead st (List.range n)
  rw [List.length_range] at h0
  obtain ⟨ms, st1, h1, h2, h3⟩ := bef_loop n s t hn hz ht (.own (.lst (lines ls))) (.sh (.int (k : Int))) k 0 (List.replicate n 46) st (by omega) hS ⟨⟨by simp, fun c hc => .inl (List.eq_of_mem_replicate hc)⟩, fun j hj hm => by
    exfalso
    apply hm
    unfold mk
    simp [hj]⟩
  rw [← List.range_eq_range'] at h3
  rw [Nat.zero_add] at h2
  obtain ⟨v, st2, g1, g2, g3⟩ := c_next h1 2 (by decide)
  obtain ⟨c, hc, hp⟩ := pick2 v (by omega)
  have hl := h2.1.1
  have hpn : pi n s t k < n := Nat.mod_lt _ hn
  have m1 := mul_r (k : Int) (t : Int) (by omega) (by omega)
  have m2 := modP_int ((s : Int) + (k : Int) * (t : Int)) (n : Int) (by omega)
  rw [fmod_pi] at m2
  have m3 : L2.ixN ms.length ((pi n s t k : Nat) : Int) = some (pi n s t k) := ixN_nat (by omega)
  have m4 := join_marks (ms.set (pi n s t k) c) (by rw [List.length_set]; omega)
  have m5 : ls.length < sizeLine := by omega
  refine ⟨ms.set (pi n s t k) c, st2, g2, ⟨⟨by rw [List.length_set]; exact hl, fun d hd => ?_, ?_⟩, ?_, fun j hj hm => ?_⟩, ?_⟩
  · rcases List.mem_or_eq_of_mem_set hd with hd | hd
    · exact (raw_ok h2.1).2.1 d hd
    · subst hd
      rcases hc with rfl | rfl <;> exact .inr rfl
  · have := count_set_le 116 c ms (pi n s t k)
    rw [List.count_eq_zero_of_not_mem (a := 116) (l := ms)] at this
    · exact this
    · intro hm
      have := h2.1.2 _ hm
      omega
  · rw [mk_set (by omega), if_pos rfl]
    rcases hc with rfl | rfl <;> rfl
  · rw [mk_set (by omega)] at hm
    by_cases e : pi n s t k = j
    · exact ⟨k, Nat.le_refl _, e.symm⟩
    · rw [if_neg e] at hm
      obtain ⟨i, hi, e'⟩ := h2.2 j hj (fun z => by rw [z] at hm; cases hm)
      exact ⟨i, by omega, e'⟩
  · simp [ladB, k1, calmAt, k0, h0, k2, h3, s2, g3, hp, m1, addP_int, intTy_int, m2, m3, chs_set, m4, m5, lines_app]
theorem lad_loop (n s t : Nat) (hn : 0 < n) (hz : n ≤ 600) (ht : t ≤ 600) : ∀ (m k : Nat) (ls : List (List Nat)) (st : PV), k + m ≤ 600 → ls.length = k → SOk st → (∀ r, r < k → Lad n (pi n s t) r (ln ls r)) →
    ∃ (ls' : List (List Nat)) (st' : PV), SOk st' ∧ ls'.length = k + m ∧ (∀ r, r < k + m → Lad n (pi n s t) r (ln ls' r)) ∧ forL (nameG 5) ladB (nts (List.range' k m)) [.mt, .sh (.int (n : Int)), .sh (.int (s : Int)), .sh (.int (t : Int)), .own (.lst (lines ls)), .dead, .dead, .dead, .dead] st = .nx [.mt, .sh (.int (n : Int)), .sh (.int (s : Int)), .sh (.int (t : Int)), .own (.lst (lines ls')), .dead, .dead, .dead, .dead] st'
  | 0, k, ls, st, _, hl, hS, hI => ⟨ls, st, hS, hl, hI, rfl⟩
  | m + 1, k, ls, st, hk, hl, hS, hI => by
    obtain ⟨l, st1, h1, h2, h3⟩ := lad_step n s t hn hz ht ls (by omega) k (by omega) hS
    obtain ⟨ls', st', g1, g2, g3, g4⟩ := lad_loop n s t hn hz ht m (k + 1) (ls ++ [l]) st1 (by omega) (by rw [List.length_append, hl]; rfl) h1 (fun r hr => by
      by_cases e : r < k
      · have : ln (ls ++ [l]) r = ln ls r := by
          unfold ln
          rw [List.getD_eq_getElem?_getD, List.getD_eq_getElem?_getD, List.getElem?_append_left (by omega)]
        rw [this]
        exact hI r e
      · have er : r = k := by omega
        have : ln (ls ++ [l]) r = l := by
          unfold ln
          rw [List.getD_eq_getElem?_getD, List.getElem?_append_right (by omega)]
          simp [er, hl]
        rw [this, er]
        exact h2)
    exact ⟨ls', st', g1, by omega, fun r hr => g3 r (by omega), forL_nx rfl h3 g4⟩
/-- the places of all turns are all places -/
theorem pi_onto (n s t : Nat) (hs : s < n) (ht : t = 1 ∨ t = n - 1) (j : Nat) (hj : j < n) : ∃ r, r < n ∧ pi n s t r = j := by
  unfold pi
  rcases ht with rfl | rfl
  · by_cases h : s ≤ j
    · refine ⟨j - s, by omega, ?_⟩
      rw [Nat.mul_one, show s + (j - s) = j by omega, Nat.mod_eq_of_lt hj]
    · refine ⟨j + n - s, by omega, ?_⟩
      rw [Nat.mul_one, show s + (j + n - s) = j + n by omega, Nat.add_mod_right, Nat.mod_eq_of_lt hj]
  · by_cases h : j ≤ s
    · refine ⟨s - j, by omega, ?_⟩
      have e : s + (s - j) * (n - 1) = j + (s - j) * n := by
        have : (s - j) * n = (s - j) * (n - 1) + (s - j) := by
          conv => lhs; rw [show n = (n - 1) + 1 by omega]
          rw [Nat.mul_add, Nat.mul_one]
        omega
      rw [e, Nat.add_mul_mod_self_right, Nat.mod_eq_of_lt hj]
    · refine ⟨s + n - j, by omega, ?_⟩
      have e : s + (s + n - j) * (n - 1) + n = j + (s + n - j) * n := by
        have : (s + n - j) * n = (s + n - j) * (n - 1) + (s + n - j) := by
          rw [← Nat.mul_succ]
          congr 1
          omega
        omega
      rw [← Nat.add_mod_right, e, Nat.add_mul_mod_self_right, Nat.mod_eq_of_lt hj]
/-- some row forces while something is white -/
def Full (n : Nat) (ls : List (List Nat)) : Prop := ∀ w : List Bool, whl n w ≠ [] → ∃ r, r < ls.length ∧ (loneR (ln ls r) (whl n w)).isSome = true
theorem whl_nodup (n : Nat) (w : List Bool) : (whl n w).Nodup := List.nodup_range.filter _
theorem all_eq_nodup {x : Nat} : ∀ {S : List Nat}, S.Nodup → (∀ y ∈ S, y = x) → x ∈ S → S = [x]
  | [], _, _, h => by simp at h
  | [a], _, h, _ => by rw [h a (by simp)]
  | a :: b :: r, hn, h, _ => by
    exfalso
    have h1 := h a (by simp)
    have h2 := h b (by simp)
    subst h1 h2
    simp at hn
theorem lad_full (n : Nat) (f : Nat → Nat) (hon : ∀ j, j < n → ∃ r, r < n ∧ f r = j) (ls : List (List Nat)) (hl : ls.length = n) (h : ∀ r, r < n → Lad n f r (ln ls r)) : Full n ls := by
  intro w hw
  have hex : ∃ r, r < n ∧ f r ∈ whl n w := by
    cases e : whl n w with
    | nil => exact absurd e hw
    | cons j r =>
      have hj : j ∈ whl n w := by rw [e]; simp
      obtain ⟨r, h1, h2⟩ := hon j (whl_lt hj)
      exact ⟨r, h1, by rw [h2, ← e]; exact hj⟩
  have hmin : ∀ m, (∃ r, r < m ∧ r < n ∧ f r ∈ whl n w) → ∃ r, (r < n ∧ f r ∈ whl n w) ∧ ∀ i, i < r → ¬ f i ∈ whl n w := by
    intro m
    induction m with
    | zero => rintro ⟨r, h, _⟩; omega
    | succ m ih =>
      rintro ⟨r, h1, h2, h3⟩
      by_cases e : ∃ r, r < m ∧ r < n ∧ f r ∈ whl n w
      · exact ih e
      · refine ⟨r, ⟨h2, h3⟩, fun i hi hm => e ⟨i, by omega, by omega, hm⟩⟩
  obtain ⟨r0, q1, q2⟩ := hex
  obtain ⟨r, ⟨h1, h2⟩, h3⟩ := hmin (r0 + 1) ⟨r0, by omega, q1, q2⟩
  refine ⟨r, by omega, ?_⟩
  obtain ⟨_, g2, g3⟩ := h r h1
  have g4 : touched (mk (ln ls r) (f r)) = true := by
    unfold touched
    unfold hard at g2
    revert g2
    cases mk (ln ls r) (f r) == 102 <;> cases mk (ln ls r) (f r) == 116 <;> cases mk (ln ls r) (f r) == 108 <;> decide
  have e : ((whl n w).filter fun j => touched (mk (ln ls r) j)) = [f r] := by
    refine all_eq_nodup ((whl_nodup n w).filter _) (fun y hy => ?_) (List.mem_filter.mpr ⟨h2, g4⟩)
    obtain ⟨y1, y2⟩ := List.mem_filter.mp hy
    obtain ⟨i, hi, rfl⟩ := g3 y (whl_lt y1) y2
    by_cases e : i < r
    · exact absurd y1 (h3 i e)
    · rw [show i = r by omega]
  unfold loneR
  rw [e]
  simp [oneHard, g2]
theorem c_ladder (n : Nat) (h2n : 2 ≤ n) (hz : n ≤ 600) {st : PV} (hS : SOk st) : ∃ (ls : List (List Nat)) (st' : PV), SOk st' ∧ TabOk n ls ∧ ls.length = n ∧ Full n ls ∧ callK fi__law_ladder [.non, .int (n : Int)] st = .ok (.lst (lines ls)) st' := by
  have hs : sizeLine = 16777216 := sizeLine_eq
  obtain ⟨s, st1, a1, a2, a3⟩ := c_next hS (n : Int) (by omega)
  obtain ⟨v, st2, b1, b2, b3⟩ := c_next a2 2 (by decide)
  obtain ⟨t, ht, ht2⟩ : ∃ t : Nat, (t = 1 ∨ t = n - 1) ∧ ixP (.lst [.int 1, .int ((n : Int) - 1)]) (.int (v : Int)) = some (.int (t : Int)) := by
    match v, b1 with
    | 0, _ => exact ⟨1, .inl rfl, rfl⟩
    | 1, _ => exact ⟨n - 1, .inr rfl, by
        show some (PV.int ((n : Int) - 1)) = _
        rw [show ((n : Int) - 1) = ((n - 1 : Nat) : Int) by omega]⟩
    | v + 2, h => exact absurd h (by omega)
  obtain ⟨ls, st3, c1, c2, c3, c4⟩ := lad_loop n s t (by omega) hz (by omega) n 0 [] st2 (by omega) rfl b2 (fun r hr => absurd hr (by omega))
  rw [← List.range_eq_range'] at c4
  rw [Nat.zero_add] at c2 c3
  have k0 : lines [] = [] := rfl
  rw [k0] at c4
  have k1 := rngP_lit n (by omega)
  refine ⟨ls, st3, c1, ⟨hz, by omega, fun l hl => ?_⟩, c2, lad_full n (pi n s t) (pi_onto n s t (by omega) ht) ls c2 c3, ?_⟩
  · obtain ⟨i, hi⟩ := List.getElem?_of_mem hl
    obtain ⟨hlt, _⟩ := List.getElem?_eq_some_iff.mp hi
    have := (c3 i (by omega)).1
    rw [show ln ls i = l from by
      have := ln_at hlt
      rw [hi] at this
      exact (Option.some.inj this).symm] at this
    exact this
  · rw [callK_mu]
    have d1 : callE fi__law_next [] (consA (mtA 0) (consA (vE 1) nilA)) [.mt, .sh (.int (n : Int)), .dead, .dead, .dead, .dead, .dead, .dead, .dead] st = .ok (.int (s : Int)) st1 := by
      simp [borOk, a3]
    have d2 : opE ixP (lstE (consA (cE (.int 1)) (consA (opE subP (vR 1) (cE (.int 1))) nilA))) (callE fi__law_next [] (consA (mtA 0) (consA (cE (.int 2)) nilA))) [.mt, .sh (.int (n : Int)), .sh (.int (s : Int)), .dead, .dead, .dead, .dead, .dead, .dead] st1 = .ok (.int (t : Int)) st2 := by
      simp [b3, subP_int, s2, ht2]
    have d3 : lstE nilA [.mt, .sh (.int (n : Int)), .sh (.int (s : Int)), .sh (.int (t : Int)), .dead, .dead, .dead, .dead, .dead] st2 = .ok (.lst []) st2 := by
      simp
    have d4 : rngA (consA (vE 1) nilA) [.mt, .sh (.int (n : Int)), .sh (.int (s : Int)), .sh (.int (t : Int)), .own (.lst []), .dead, .dead, .dead, .dead] st2 = .ok (nts (List.range n)) st2 := by
      simp [k1, borOk]
    refine sem_ok (env1 := [.mt, .sh (.int (n : Int)), .sh (.int (s : Int)), .sh (.int (t : Int)), .sh (.lst (lines ls)), .dead, .dead, .dead, .dead]) ?_ (fun _ => rfl)
    rw [ladder_eq]
    refine seq_nx (set_ok d1) (seq_nx (set_ok d2) (seq_nx (setO_ok d3) (seq_nx (for_ok d4 c4) (seq_ret (ret_ok ?_)))))
    simp
end KI.K10

/-! part P10u -/
set_option Elab.async false
set_option linter.all false
set_option maxRecDepth 100000
set_option maxHeartbeats 2000000
namespace KI.K10
open PySem PySem.Spec PyProof.Rows L2 KI
theorem c_places (w : List Bool) (n : Nat) (hw : w.length = n) (hn : n ≤ sizeLine) (st : PV) : callK fi_places_of [.lst (bls w)] st = .ok (.tup (nts (whl n w))) st := by
  rw [callK_val]
  have h1 : lcL (nameG 1) (truT (opE ixP (vR 0) (vR 1))) (vE 1) [.bor (.lst (bls w)), .dead] (nts (List.range n)) .non = .ok (nts (whl n w)) .non := by
    rw [lcL_pure (natF fun j => wh w j) id]
    · rw [List.map_id, filter_natF _ fun j => wh w j]; rfl
    · intro p hp
      obtain ⟨j, hj, rfl⟩ := mem_nts hp
      have := List.mem_range.mp hj
      refine ⟨_, rfl, ?_, fun _ => ?_⟩
      · simp [ix_bls (w := w) (j := j) (by omega)]
      · simp
  have k1 := rngP_nat hn
  have e : fi_places_of.sem [.lst (bls w)] .non = .ok (.tup (nts (whl n w))) .non := by
    simp [fi_places_of, g_places_of, env0, slotOf, lenP, hw, k1, calmAt, hn, h1, tupleP]
  rw [e]
theorem touch_all {n : Nat} {ls : List (List Nat)} (h : TabOk n ls) (b c d e f g i j : Slot) (st : PV) : ∀ rs : List Nat, (∀ r ∈ rs, r < ls.length) → lcL (nameG 9) yesT (methE ["Table"] "touches" fi_Table_touches [] (vR 1) (consA (vE 9) nilA)) [b, .sh (tb n ls), c, d, e, f, g, i, j, .dead] (nts rs) st = .ok (rs.map fun r => PV.tup (nts (touchC (ln ls r)))) st
  | [], _ => rfl
  | r :: rs, hr => by
    have ih := touch_all h b c d e f g i j st rs fun k hk => hr k (List.mem_cons_of_mem _ hk)
    have e1 := m_touches h [b, .sh (tb n ls), c, d, e, f, g, i, j, .sh (.int (r : Int))] 1 (consA (vE 9) nilA) r (hr r List.mem_cons_self) st (by simp) (by simp)
    show ((methE ["Table"] "touches" fi_Table_touches [] (vR 1) (consA (vE 9) nilA) [b, .sh (tb n ls), c, d, e, f, g, i, j, .sh (.int (r : Int))] st).bind fun y st2 => (lcL (nameG 9) yesT (methE ["Table"] "touches" fi_Table_touches [] (vR 1) (consA (vE 9) nilA)) [b, .sh (tb n ls), c, d, e, f, g, i, j, .dead] (nts rs) st2).bind fun ys st3 => ER.ok (y :: ys) st3) = _
    rw [e1, ER.bind_ok, ih, ER.bind_ok]
    rfl
theorem touchL_range (ls : List (List Nat)) : (List.range ls.length).map (fun r => PV.tup (nts (touchC (ln ls r)))) = touchL ls := by
  unfold touchL
  apply List.ext_getElem?
  intro i
  rw [List.getElem?_map, List.getElem?_map]
  by_cases h : i < ls.length
  · rw [List.getElem?_range h, ln_at h]; rfl
  · rw [List.getElem?_eq_none (by simp; omega), List.getElem?_eq_none (by omega)]; rfl
def frc (t : PV) (os wl : List PV) : PV := .ins "Forcing" ["table", "order", "white"] [t, .tup os, .tup wl]
theorem fld_order (t : PV) (os wl : List PV) : fldP ["Forcing"] "order" (frc t os wl) = some (.tup os) := by rfl
theorem put3 (t : PV) (os wl : List PV) : PV.ins "Forcing" (putN "white" (putN "order" (putN "table" []))) (putV "white" (.tup wl) (putN "order" (putN "table" [])) (putV "order" (.tup os) (putN "table" []) (putV "table" t [] []))) = frc t os wl := by rfl
theorem setF_ok {i : Nat} {cs : List Str} {f : Str} {fe : EF} {env : SEnv} {st p : PV} {c : Str} {ns : List Str} {ps : List PV} (h : fe env st = .ok p (.ins c ns ps)) (hi : env[i]? = some .mt) (hc : c ∈ cs) (hn : ns.length < 1000) : setFldM i cs f fe env st = .nx env (.ins c (putN f ns) (putV f p ns ps)) := by
  rw [setFldM_ap, h, lift_ok, hi]
  dsimp only
  rw [if_pos ⟨hc, hn⟩]
theorem setAll_not : ∀ (ns : List Nat) (w : List Bool), (setAll true ns w).map (!·) = setAll false ns (w.map (!·))
  | [], w => rfl
  | n :: ns, w => by
    show (setAll true ns (w.set n true)).map (!·) = setAll false ns ((w.map (!·)).set n false)
    rw [setAll_not ns, List.map_set]
    rfl
theorem white0_eq (n : Nat) (ns : List Nat) : white0 n ns = setAll false (sortN ns) (List.replicate n true) := by
  unfold white0
  rw [setAll_not, List.map_replicate]
  rfl
theorem s_forcing {n : Nat} {ls : List (List Nat)} (h : TabOk n ls) (h90 : n ≤ 90) (ns : List Nat) (hns : ∀ m ∈ ns, m < n) (hnd : ns.Nodup) (hz : ns.length ≤ sizeLine) :
    ∃ os wl w', (∀ q ∈ os, pairOk q = true) ∧ runF ls (white0 n ns) os = some w' ∧ Stuck ls (List.range ls.length) w' ∧ fi_Forcing_init.sem [.non, tb n ls, .lst (nts ns)] (.ins "Forcing" [] []) = .ok .non (frc (tb n ls) os wl) := by
  have hs : sizeLine = 16777216 := sizeLine_eq
  have hn : n ≤ sizeLine := by omega
  have hlen : ls.length ≤ sizeLine := by have := h.2.1; omega
  have k1 : callK fi_lot_of [.lst (nts ns), .int (n : Int)] (.ins "Forcing" [] []) = .ok (.tup (nts (sortN ns))) (.ins "Forcing" [] []) := by
    have e0 : nts ns = (ints' ns).map .int := by unfold nts ints'; rw [List.map_map]; rfl
    rw [callK_val, s_lot_of (.lst (nts ns)) (n : Int) (ints' ns) (.inl (by rw [e0])) (by simpa using hz)]
    unfold lotR
    rw [lotBad_none ns 0 [] hns hnd (by simp), ← sortN_nts]
  have hsl : ∀ m ∈ sortN ns, m < (List.replicate n true).length := fun m hm => by
    rw [List.length_replicate]; exact hns m ((sortN_mem ns m).mp hm)
  obtain ⟨w', os', bf', e7, hI, hst⟩ := round_loop h (.sh (.lst (nts ns))) (.sh (.tup (nts (sortN ns)))) (.ins "Forcing" [] []) (setAll false (sortN ns) (List.replicate n true)) 100 (setAll false (sortN ns) (List.replicate n true)) [] (-1) ⟨rfl, by rw [setAll_length, List.length_replicate], by
    have := List.count_le_length (a := true) (l := setAll false (sortN ns) (List.replicate n true))
    rw [setAll_length, List.length_replicate] at this
    simpa using this, Nat.le_refl _, fun q hq => by simp at hq⟩ (by omega) (by simp; omega) (.inl (by simp))
  refine ⟨os', nts (whl n w'), w', hI.2.2.2.2, by rw [white0_eq]; exact hI.1, hst, ?_⟩
  have d1 : callE fi_lot_of [] (consA (vE 2) (consA (fldE ["Table"] "columns" (vR 1)) nilA)) [.mt, .sh (tb n ls), .sh (.lst (nts ns)), .dead, .dead, .dead, .dead, .dead, .dead, .dead] (.ins "Forcing" [] []) = .ok (.tup (nts (sortN ns))) (.ins "Forcing" [] []) := by
    simp [fld_columns, k1]
  have d2 : opE mulL (lstE (consA (cE (.bl true)) nilA)) (fldE ["Table"] "columns" (vR 1)) [.mt, .sh (tb n ls), .sh (.lst (nts ns)), .sh (.tup (nts (sortN ns))), .dead, .dead, .dead, .dead, .dead, .dead] (.ins "Forcing" [] []) = .ok (.lst (bls (List.replicate n true))) (.ins "Forcing" [] []) :=
    op_ok (a := .lst [.bl true]) (b := .int (n : Int)) (st1 := .ins "Forcing" [] []) (by simp [s1]) (by simp [fld_columns]) (mul_bl true n hn)
  have d3 : seqA (vE 3) [.mt, .sh (tb n ls), .sh (.lst (nts ns)), .sh (.tup (nts (sortN ns))), .own (.lst (bls (List.replicate n true))), .dead, .dead, .dead, .dead, .dead] (.ins "Forcing" [] []) = .ok (nts (sortN ns)) (.ins "Forcing" [] []) := by
    simp [seqP]
  have e3 := off_loop .mt (.sh (tb n ls)) (.sh (.lst (nts ns))) (.sh (.tup (nts (sortN ns)))) .dead .dead .dead .dead (.ins "Forcing" [] []) (sortN ns) (List.replicate n true) hsl
  have d4 : lcE [9] (rngA (consA (lenM ["Table"] fi_Table_len (vR 1)) nilA)) (nameG 9) yesT (methE ["Table"] "touches" fi_Table_touches [] (vR 1) (consA (vE 9) nilA)) [.mt, .sh (tb n ls), .sh (.lst (nts ns)), .sh (.tup (nts (sortN ns))), .own (.lst (bls (setAll false (sortN ns) (List.replicate n true)))), .dead, .dead, .dead, .dead, .dead] (.ins "Forcing" [] []) = .ok (.lst (touchL ls)) (.ins "Forcing" [] []) := by
    have t1 := m_len h [.mt, .sh (tb n ls), .sh (.lst (nts ns)), .sh (.tup (nts (sortN ns))), .own (.lst (bls (setAll false (sortN ns) (List.replicate n true)))), .dead, .dead, .dead, .dead, .dead] 1 (.ins "Forcing" [] []) (by simp)
    have t2 := touch_all h .mt (.sh (.lst (nts ns))) (.sh (.tup (nts (sortN ns)))) (.own (.lst (bls (setAll false (sortN ns) (List.replicate n true))))) .dead .dead .dead .dead (.ins "Forcing" [] []) (List.range ls.length) (fun r hr => List.mem_range.mp hr)
    rw [touchL_range] at t2
    exact lc_ok (rng_ok (one_ok t1) (rngP_nat hlen)) rfl (by simpa using hlen) t2
  have d5 : lstE nilA [.mt, .sh (tb n ls), .sh (.lst (nts ns)), .sh (.tup (nts (sortN ns))), .own (.lst (bls (setAll false (sortN ns) (List.replicate n true)))), .dead, .own (.lst (touchL ls)), .dead, .dead, .dead] (.ins "Forcing" [] []) = .ok (.lst []) (.ins "Forcing" [] []) := by
    simp
  have d6 : negE (cE (.int 1)) [.mt, .sh (tb n ls), .sh (.lst (nts ns)), .sh (.tup (nts (sortN ns))), .own (.lst (bls (setAll false (sortN ns) (List.replicate n true)))), .dead, .own (.lst (touchL ls)), .own (.lst []), .dead, .dead] (.ins "Forcing" [] []) = .ok (.int (-1)) (.ins "Forcing" [] []) := by
    simp
  have d8 : vE 1 (fE (tb n ls) ls (.sh (.lst (nts ns))) (.sh (.tup (nts (sortN ns)))) .dead w' os' bf') (.ins "Forcing" [] []) = .ok (tb n ls) (.ins "Forcing" [] []) := by
    simp [fE]
  have d9 : ∀ st, biE tupleP (consA (vR 7) nilA) (fE (tb n ls) ls (.sh (.lst (nts ns))) (.sh (.tup (nts (sortN ns)))) .dead w' os' bf') st = .ok (.tup os') st := fun st => by
    simp [fE, tupleP]
  have d10 : ∀ st, callE fi_places_of [] (consA (vR 4) nilA) (fE (tb n ls) ls (.sh (.lst (nts ns))) (.sh (.tup (nts (sortN ns)))) .dead w' os' bf') st = .ok (.tup (nts (whl n w'))) st := fun st => by
    simp [fE, c_places w' n hI.2.1 hn]
  have hmem : (Str.ofString "Forcing") ∈ [Str.ofString "Forcing"] := by simp
  have main : g_Forcing_init [.mt, .sh (tb n ls), .sh (.lst (nts ns)), .dead, .dead, .dead, .dead, .dead, .dead, .dead] (.ins "Forcing" [] []) = .nx (fE (tb n ls) ls (.sh (.lst (nts ns))) (.sh (.tup (nts (sortN ns)))) .dead w' os' bf') (frc (tb n ls) os' (nts (whl n w'))) := by
    rw [forcing_init_eq]
    refine seq_nx (set_ok d1) (seq_nx (setO_ok d2) (seq_nx (for_ok d3 e3) (seq_nx (setO_ok d4) (seq_nx (setO_ok d5) (seq_nx (set_ok d6) (seq_nx e7 (seq_nx (setF_ok d8 rfl hmem (by decide)) (seq_nx (setF_ok (d9 _) rfl hmem (by decide)) (seq_nx (setF_ok (d10 _) rfl hmem (by decide)) ?_)))))))))
    rw [put3]
    rfl
  have e0 : fi_Forcing_init.sem [.non, tb n ls, .lst (nts ns)] (.ins "Forcing" [] []) = endS true false (g_Forcing_init [.mt, .sh (tb n ls), .sh (.lst (nts ns)), .dead, .dead, .dead, .dead, .dead, .dead, .dead] (.ins "Forcing" [] [])) := rfl
  rw [e0, main, endS_nx1]
  rfl
theorem mk_forcing {n : Nat} {ls : List (List Nat)} (h : TabOk n ls) (h90 : n ≤ 90) (ns : List Nat) (hns : ∀ m ∈ ns, m < n) (hnd : ns.Nodup) (hz : ns.length ≤ sizeLine) (st : PV) :
    ∃ os wl w', (∀ q ∈ os, pairOk q = true) ∧ runF ls (white0 n ns) os = some w' ∧ Stuck ls (List.range ls.length) w' ∧ makeK "Forcing" fi_Forcing_init [tb n ls, .lst (nts ns)] st = .ok (frc (tb n ls) os wl) st := by
  obtain ⟨os, wl, w', h1, h3, h4, h2⟩ := s_forcing h h90 ns hns hnd hz
  refine ⟨os, wl, w', h1, h3, h4, ?_⟩
  unfold makeK
  rw [h2]
  rfl
end KI.K10

/-! part P10v -/
set_option Elab.async false
set_option linter.all false
set_option maxRecDepth 100000
set_option maxHeartbeats 2000000
namespace KI.K10
open PySem PySem.Spec PyProof.Rows L2 KI
/-! ## the drawn order -/
def prs (os : List (Nat × Nat)) : List PV := os.map fun x => PV.tup [.int (x.1 : Int), .int (x.2 : Int)]
@[simp] theorem prs_length (os : List (Nat × Nat)) : (prs os).length = os.length := by simp [prs]
theorem prs_app (os : List (Nat × Nat)) (r c : Nat) : prs os ++ [.tup [.int (r : Int), .int (c : Int)]] = prs (os ++ [(r, c)]) := by simp [prs]
def able (n : Nat) (ls : List (List Nat)) (w : List Bool) : List Nat := (List.range ls.length).filter fun r => (loneR (ln ls r) (whl n w)).isSome
theorem len_ne {c : Nat} : ∀ {S : List Nat}, S.Nodup → c ∈ S → (S.filter fun k => !decide (k = c)).length + 1 = S.length
  | [], _, h => by simp at h
  | a :: S, hn, h => by
    rw [List.nodup_cons] at hn
    by_cases e : a = c
    · subst e
      have : S.filter (fun k => !decide (k = a)) = S := by
        rw [List.filter_eq_self]
        intro k hk
        have : k ≠ a := fun z => hn.1 (z ▸ hk)
        simp [this]
      rw [List.filter_cons]
      simp [this]
    · have hc : c ∈ S := by
        rcases List.mem_cons.mp h with h | h
        · exact absurd h.symm e
        · exact h
      have := len_ne hn.2 hc
      rw [List.filter_cons]
      simp [e]
      exact this
theorem lone_mem {l lot : List Nat} {c : Nat} (h : loneR l lot = some c) : c ∈ lot := by
  unfold loneR at h
  have : c ∈ lot.filter fun j => touched (mk l j) := by
    unfold oneHard at h
    split at h
    · rename_i k' hk'
      split at h
      · cases h; rw [hk']; simp
      · cases h
    · cases h
  exact (List.mem_filter.mp this).1
theorem step_lone {n : Nat} {ls : List (List Nat)} (h : TabOk n ls) {r c : Nat} (hr : r < ls.length) {w : List Bool} (hl : loneR (ln ls r) (whl n w) = some c) : stepB ls w (.tup [.int (r : Int), .int (c : Int)]) = true := by
  show stepI ls w (r : Int) (c : Int) = true
  unfold stepI
  rw [if_pos ⟨by omega, by omega⟩, Int.toNat_natCast, forced_lone h hr, hl]
  simp
def drawB : SF := (seqS (setO 7 (lcE [9] (rngA (consA (biE lenP (consA (vR 1) nilA)) nilA)) (nameG 9) (cmpT isnP (callE fi__law_lone [] (consA (opE ixP (vR 1) (vR 9)) (consA (vE 4) nilA))) (cE .non)) (vE 9))) (seqS (ifS (cmpT gtP (biE lenP (consA (vR 7) nilA)) (cE (.int 0))) (seqS (setS 9 (opE ixP (vR 7) (callE fi__law_next [] (consA (mtA 0) (consA (biE minP (consA (cE (.int 30)) (consA (biE lenP (consA (vR 7) nilA)) nilA))) nilA))))) (seqS (setS 10 (callE fi__law_lone [] (consA (opE ixP (vR 1) (vR 9)) (consA (vE 4) nilA)))) (seqS (appS 5 (tupE (consA (vE 9) (consA (vE 10) nilA)))) (seqS (setS 4 (lcE [8] (seqA (vE 4)) (nameG 8) (cmpT neP (vR 8) (vR 10)) (vE 8))) nxS)))) nxS) (fun env st => .nx (killS [6, 7, 9, 10] env) st)))
theorem drawn_eq : g__law_drawn_order = (seqS (setS 4 (lcE [8] (rngA (consA (vE 2) nilA)) (nameG 8) (cmpT (inP true) (vR 8) (vR 3)) (vE 8))) (seqS (setO 5 (lstE nilA)) (seqS (forS (rngA (consA (opE addP (vR 2) (cE (.int 1))) nilA)) (nameG 6) drawB) (fun env st => (seqS (retS (vE 5)) nxS) (frzE 5 env) st)))) := rfl
abbrev dE (n : Nat) (ls : List (List Nat)) (o : PV) (w : List Bool) (os : List (Nat × Nat)) (a6 a7 a9 a10 : Slot) : SEnv := [.mt, .sh (.lst (lines ls)), .sh (.int (n : Int)), .sh o, .sh (.lst (nts (whl n w))), .own (.lst (prs os)), a6, a7, .dead, a9, a10]
theorem ix_nts {xs : List Nat} {i x : Nat} (h : xs[i]? = some x) : ixP (.lst (nts xs)) (.int (i : Int)) = some (.int (x : Int)) := by
  show L2.atI (nts xs) (i : Int) = _
  rw [atI_nat (x := .int (x : Int))]
  unfold nts
  rw [List.getElem?_map, h]; rfl
theorem min30 {k : Nat} (h : 0 < k) : ∃ m : Nat, 0 < m ∧ m ≤ k ∧ m ≤ 30 ∧ minP [.int 30, .int (k : Nat)] = some (.int (m : Nat)) := by
  by_cases e : k < 30
  · exact ⟨k, h, Nat.le_refl _, by omega, by
      show some (PV.int (if ((k : Nat) : Int) < 30 then ((k : Nat) : Int) else 30)) = _
      rw [if_pos (by omega)]⟩
  · exact ⟨30, by omega, by omega, by omega, by
      show some (PV.int (if ((k : Nat) : Int) < 30 then ((k : Nat) : Int) else 30)) = _
      rw [if_neg (by omega)]; rfl⟩
theorem ne_filter10 (xs : List Nat) (j : Nat) (b0 b1 b2 b3 b4 b5 b6 b7 b9 : Slot) (st : PV) : lcL (nameG 8) (cmpT neP (vR 8) (vR 10)) (vE 8) [b0, b1, b2, b3, b4, b5, b6, b7, .dead, b9, .sh (.int (j : Int))] (nts xs) st = .ok (nts (xs.filter fun k => !decide (k = j))) st := by
  rw [lcL_pure (natF fun k => !decide (k = j)) id]
  · rw [List.map_id, filter_natF xs fun k => !decide (k = j)]
  · intro p hp
    obtain ⟨k, hk, rfl⟩ := mem_nts hp
    refine ⟨_, rfl, ?_, fun _ => ?_⟩
    · have : ((k : Int) == (j : Int)) = decide (k = j) := by
        rw [Bool.eq_iff_iff]; simp; omega
      simp [neP_int, this]
    · simp
theorem draw_step {n : Nat} {ls : List (List Nat)} (h : TabOk n ls) (o : PV) (w : List Bool) (hw : w.length = n) (os : List (Nat × Nat)) (hos : os.length ≤ 1000) (a6 : Slot) {st : PV} (hS : SOk st) :
    (able n ls w = [] ∧ drawB (dE n ls o w os a6 .dead .dead .dead) st = .nx (dE n ls o w os .dead .dead .dead .dead) st) ∨
    ∃ (r c : Nat) (st' : PV), SOk st' ∧ r < ls.length ∧ loneR (ln ls r) (whl n w) = some c ∧ drawB (dE n ls o w os a6 .dead .dead .dead) st = .nx (dE n ls o (w.set c false) (os ++ [(r, c)]) .dead .dead .dead .dead) st' := by
  have hs : sizeLine = 16777216 := sizeLine_eq
  have hn := h.1
  have hlen := h.2.1
  have hwz := whl_len n w
  have d1 : lcE [9] (rngA (consA (biE lenP (consA (vR 1) nilA)) nilA)) (nameG 9) (cmpT isnP (callE fi__law_lone [] (consA (opE ixP (vR 1) (vR 9)) (consA (vE 4) nilA))) (cE .non)) (vE 9) (dE n ls o w os a6 .dead .dead .dead) st = .ok (.lst (nts (able n ls w))) st := by
    have t1 : biE lenP (consA (vR 1) nilA) (dE n ls o w os a6 .dead .dead .dead) st = .ok (.int (ls.length : Nat)) st := by simp [dE, lenP]
    refine lc_ok (rng_ok (one_ok t1) (rngP_nat (by omega))) rfl (by simp; omega) ?_
    rw [lcL_pure (natF fun r => (loneR (ln ls r) (whl n w)).isSome) id]
    · rw [List.map_id, filter_natF _ fun r => (loneR (ln ls r) (whl n w)).isSome]; rfl
    · intro p hp
      obtain ⟨r, hr, rfl⟩ := mem_nts hp
      have hr' := List.mem_range.mp hr
      have hl := c_lone h hr' (whl n w) (fun j hj => whl_lt hj) (by omega) st
      have hi : isnP (optI (loneR (ln ls r) (whl n w))) .non = some (loneR (ln ls r) (whl n w)).isSome := by
        cases loneR (ln ls r) (whl n w) <;> rfl
      refine ⟨_, rfl, ?_, fun _ => ?_⟩
      · simp [dE, ix_linesL hr', hl, hi]
      · simp [dE]
  cases ha : able n ls w with
  | nil =>
    refine .inl ⟨rfl, ?_⟩
    rw [ha] at d1
    have d2 : cmpT gtP (biE lenP (consA (vR 7) nilA)) (cE (.int 0)) (dE n ls o w os a6 (.own (.lst (nts []))) .dead .dead) st = .ok false st := by
      simp [dE, lenP]
    exact seq_nx (setO_ok d1) (seq_nx (if_ok d2 rfl) rfl)
  | cons x xs =>
    rw [ha] at d1
    have d2 : cmpT gtP (biE lenP (consA (vR 7) nilA)) (cE (.int 0)) (dE n ls o w os a6 (.own (.lst (nts (x :: xs)))) .dead .dead) st = .ok true st := by
      have : (0 : Int) < (xs.length : Int) + 1 := by omega
      simp [dE, lenP, this]
    obtain ⟨m, hm1, hm2, hm3, hm4⟩ := min30 (k := (x :: xs).length) (by simp)
    obtain ⟨v, st1, g1, g2, g3⟩ := c_next hS (m : Int) (by omega)
    obtain ⟨r, hr⟩ : ∃ r, (x :: xs)[v]? = some r := ⟨_, List.getElem?_eq_getElem (by omega)⟩
    have hra : r ∈ able n ls w := by rw [ha]; exact List.mem_of_getElem? hr
    obtain ⟨hr1, hr2⟩ := List.mem_filter.mp hra
    have hr1 := List.mem_range.mp hr1
    obtain ⟨c, hc⟩ := Option.isSome_iff_exists.mp hr2
    refine .inr ⟨r, c, st1, g2, hr1, hc, ?_⟩
    have t0 : biE lenP (consA (vR 7) nilA) (dE n ls o w os a6 (.own (.lst (nts (x :: xs)))) .dead .dead) st = .ok (.int ((x :: xs).length : Nat)) st :=
      bi_ok (one_ok (show vR 7 (dE n ls o w os a6 (.own (.lst (nts (x :: xs)))) .dead .dead) st = .ok (.lst (nts (x :: xs))) st from rfl)) (by show some (PV.int ((nts (x :: xs)).length : Nat)) = _; rw [nts_length])
    have t1 : opE ixP (vR 7) (callE fi__law_next [] (consA (mtA 0) (consA (biE minP (consA (cE (.int 30)) (consA (biE lenP (consA (vR 7) nilA)) nilA))) nilA))) (dE n ls o w os a6 (.own (.lst (nts (x :: xs)))) .dead .dead) st = .ok (.int (r : Int)) st1 := by
      refine op_ok (a := .lst (nts (x :: xs))) (b := .int (v : Int)) (st1 := st) rfl (call_ok (cons_ok (show mtA 0 (dE n ls o w os a6 (.own (.lst (nts (x :: xs)))) .dead .dead) st = .ok .non st from rfl) (one_ok (bi_ok (cons_ok (show cE (.int 30) (dE n ls o w os a6 (.own (.lst (nts (x :: xs)))) .dead .dead) st = .ok (.int 30) st from rfl) (one_ok t0)) hm4))) g3) (ix_nts hr)
    have hl := c_lone h hr1 (whl n w) (fun j hj => whl_lt hj) (by omega) st1
    rw [hc] at hl
    have t2 : callE fi__law_lone [] (consA (opE ixP (vR 1) (vR 9)) (consA (vE 4) nilA)) (dE n ls o w os a6 (.own (.lst (nts (x :: xs)))) (.sh (.int (r : Int))) .dead) st1 = .ok (.int (c : Int)) st1 := by
      simp [dE, ix_linesL hr1, hl, optI]
    have t3 : tupE (consA (vE 9) (consA (vE 10) nilA)) (dE n ls o w os a6 (.own (.lst (nts (x :: xs)))) (.sh (.int (r : Int))) (.sh (.int (c : Int)))) st1 = .ok (.tup [.int (r : Int), .int (c : Int)]) st1 := by
      simp [dE, s2]
    have t4 : appS 5 (tupE (consA (vE 9) (consA (vE 10) nilA))) (dE n ls o w os a6 (.own (.lst (nts (x :: xs)))) (.sh (.int (r : Int))) (.sh (.int (c : Int)))) st1 = .nx (dE n ls o w (os ++ [(r, c)]) a6 (.own (.lst (nts (x :: xs)))) (.sh (.int (r : Int))) (.sh (.int (c : Int)))) st1 := by
      have hz : os.length < sizeLine := by omega
      simp [dE, s2, hz, prs_app]
    have t5 : lcE [8] (seqA (vE 4)) (nameG 8) (cmpT neP (vR 8) (vR 10)) (vE 8) (dE n ls o w (os ++ [(r, c)]) a6 (.own (.lst (nts (x :: xs)))) (.sh (.int (r : Int))) (.sh (.int (c : Int)))) st1 = .ok (.lst (nts (whl n (w.set c false)))) st1 := by
      rw [← whl_set hw (whl_lt (lone_mem hc))]
      exact lc_ok (seqA_ok (p := .lst (nts (whl n w))) rfl rfl) rfl (by simp; omega) (ne_filter10 _ _ _ _ _ _ _ _ _ _ _ _)
    exact seq_nx (setO_ok d1) (seq_nx (if_ok d2 (seq_nx (set_ok t1) (seq_nx (set_ok t2) (seq_nx t4 (seq_nx (set_ok t5) rfl))))) rfl)
theorem full_end {n : Nat} {ls : List (List Nat)} (hF : Full n ls) {w : List Bool} (ha : able n ls w = []) : whl n w = [] := by
  cases e : whl n w with
  | nil => rfl
  | cons a s =>
    exfalso
    obtain ⟨r, h1, h2⟩ := hF w (by rw [e]; simp)
    have : r ∈ able n ls w := List.mem_filter.mpr ⟨List.mem_range.mpr h1, h2⟩
    rw [ha] at this; cases this
theorem draw_loop {n : Nat} {ls : List (List Nat)} (h : TabOk n ls) (o : PV) (w0 : List Bool) : ∀ (ks : List Nat) (w : List Bool) (os : List (Nat × Nat)) (st : PV), w.length = n → os.length + ks.length ≤ 1000 → SOk st → runF ls w0 (prs os) = some w → (∀ x ∈ os, x.1 < ls.length ∧ x.2 < n) →
    ∃ (w' : List Bool) (os' : List (Nat × Nat)) (st' : PV), SOk st' ∧ w'.length = n ∧ runF ls w0 (prs os') = some w' ∧ (∀ x ∈ os', x.1 < ls.length ∧ x.2 < n) ∧ os'.length + (whl n w').length = os.length + (whl n w).length ∧ (able n ls w = [] → w' = w) ∧ (able n ls w' = [] ∨ os'.length = os.length + ks.length) ∧ os'.length ≤ os.length + ks.length ∧
      forL (nameG 6) drawB (nts ks) (dE n ls o w os .dead .dead .dead .dead) st = .nx (dE n ls o w' os' .dead .dead .dead .dead) st'
  | [], w, os, st, hw, _, hS, hr, hx => ⟨w, os, st, hS, hw, hr, hx, rfl, fun _ => rfl, .inr rfl, Nat.le_refl _, rfl⟩
  | k :: ks, w, os, st, hw, hz, hS, hr, hx => by
    rw [List.length_cons] at hz
    rcases draw_step h o w hw os (by omega) (.sh (.int (k : Int))) hS with ⟨ha, he⟩ | ⟨r, c, st1, q1, q2, q3, q4⟩
    · obtain ⟨w', os', st', g1, g2, g3, g4, g5, g6a, g6, g7, g8⟩ := draw_loop h o w0 ks w os st hw (by omega) hS hr hx
      exact ⟨w', os', st', g1, g2, g3, g4, g5, g6a, .inl (by rw [g6a ha]; exact ha), by simp; omega, forL_nx rfl he g8⟩
    · have hc := lone_mem q3
      have hcn := whl_lt hc
      have hs := step_lone h q2 q3
      have hr' := runF_app ls (prs os) w0 w _ hr hs
      have hcol : colN (.tup [.int (r : Int), .int (c : Int)]) = c := by simp [colN]
      rw [hcol, prs_app] at hr'
      have hlen := len_ne (whl_nodup n w) hc
      rw [whl_set hw hcn] at hlen
      have hra : r ∈ able n ls w := List.mem_filter.mpr ⟨List.mem_range.mpr q2, by rw [q3]; rfl⟩
      obtain ⟨w', os', st', g1, g2, g3, g4, g5, g6a, g6, g7, g8⟩ := draw_loop h o w0 ks (w.set c false) (os ++ [(r, c)]) st1 (by rw [List.length_set]; exact hw) (by rw [List.length_append]; simp; omega) q1 hr' (fun x hxm => by
        rcases List.mem_append.mp hxm with hxm | hxm
        · exact hx x hxm
        · rw [List.mem_singleton.mp hxm]; exact ⟨q2, hcn⟩)
      rw [List.length_append] at g5 g6 g7
      simp at g5 g6 g7
      exact ⟨w', os', st', g1, g2, g3, g4, by omega, fun ha => by { rw [ha] at hra; cases hra }, by
        rcases g6 with g | g
        · exact .inl g
        · exact .inr (by simp; omega), by simp; omega, forL_nx rfl q4 g8⟩
theorem c_drawn {n : Nat} {ls : List (List Nat)} (h : TabOk n ls) (out : List Nat) (hout : ∀ m ∈ out, m < n) {st : PV} (hS : SOk st) :
    ∃ (os : List (Nat × Nat)) (w' : List Bool) (st' : PV), SOk st' ∧ (∀ x ∈ os, x.1 < ls.length ∧ x.2 < n) ∧ runF ls (white0 n out) (prs os) = some w' ∧ w'.length = n ∧ os.length + (whl n w').length = (whl n (white0 n out)).length ∧ able n ls w' = [] ∧
      callK fi__law_drawn_order [.non, .lst (lines ls), .int (n : Int), .lst (nts out)] st = .ok (.lst (prs os)) st' := by
  have hs : sizeLine = 16777216 := sizeLine_eq
  have hn := h.1
  have k1 : lcL (nameG 8) (cmpT (inP true) (vR 8) (vR 3)) (vE 8) [.mt, .sh (.lst (lines ls)), .sh (.int (n : Int)), .sh (.lst (nts out)), .dead, .dead, .dead, .dead, .dead, .dead, .dead] (nts (List.range n)) st = .ok (nts (whl n (white0 n out))) st := by
    rw [lcL_pure (natF fun k => !decide (k ∈ out)) id]
    · rw [List.map_id, filter_natF _ fun k => !decide (k ∈ out)]
      unfold whl
      congr 2
      apply List.filter_congr
      intro k hk
      rw [wh_white0 hout (List.mem_range.mp hk)]
    · intro p hp
      obtain ⟨k, hk, rfl⟩ := mem_nts hp
      refine ⟨_, rfl, ?_, fun _ => ?_⟩
      · simp [in_nts]
      · simp
  obtain ⟨w', os', st', g1, g2, g3, g4, g5, g6a, g6, g7, g8⟩ := draw_loop h (.lst (nts out)) (white0 n out) (List.range (n + 1)) (white0 n out) [] st (white0_len n out) (by rw [List.length_range]; simp; omega) hS rfl (fun x hx => by simp at hx)
  have hw0 := whl_len n (white0 n out)
  simp at g5 g7
  refine ⟨os', w', st', g1, g4, g3, g2, g5, ?_, ?_⟩
  · rcases g6 with g | g
    · exact g
    · rw [List.length_range] at g
      simp at g
      exfalso
      omega
  · rw [callK_mu]
    refine sem_ok (env1 := [.mt, .sh (.lst (lines ls)), .sh (.int (n : Int)), .sh (.lst (nts out)), .sh (.lst (nts (whl n w'))), .sh (.lst (prs os')), .dead, .dead, .dead, .dead, .dead]) ?_ (fun _ => rfl)
    rw [drawn_eq]
    have d1 : lcE [8] (rngA (consA (vE 2) nilA)) (nameG 8) (cmpT (inP true) (vR 8) (vR 3)) (vE 8) [.mt, .sh (.lst (lines ls)), .sh (.int (n : Int)), .sh (.lst (nts out)), .dead, .dead, .dead, .dead, .dead, .dead, .dead] st = .ok (.lst (nts (whl n (white0 n out)))) st :=
      lc_ok (rng_ok (one_ok (show vE 2 [.mt, .sh (.lst (lines ls)), .sh (.int (n : Int)), .sh (.lst (nts out)), .dead, .dead, .dead, .dead, .dead, .dead, .dead] st = .ok (.int (n : Int)) st from rfl)) (rngP_nat (by omega))) rfl (by simp; omega) k1
    have d2 : lstE nilA [.mt, .sh (.lst (lines ls)), .sh (.int (n : Int)), .sh (.lst (nts out)), .sh (.lst (nts (whl n (white0 n out)))), .dead, .dead, .dead, .dead, .dead, .dead] st = .ok (.lst []) st := by
      simp
    have d3 : opE addP (vR 2) (cE (.int 1)) (dE n ls (.lst (nts out)) (white0 n out) [] .dead .dead .dead .dead) st = .ok (.int ((n + 1 : Nat) : Int)) st := by
      simp [dE, addP_int]
    exact seq_nx (set_ok d1) (seq_nx (setO_ok d2) (seq_nx (for_ok (rng_ok (one_ok d3) (rngP_nat (by omega))) g8) (seq_ret (ret_ok rfl))))
end KI.K10

/-! part P10w -/
set_option Elab.async false
set_option linter.all false
set_option maxRecDepth 100000
set_option maxHeartbeats 2000000
namespace KI.K10
open PySem PySem.Spec PyProof.Rows L2 KI
/-! ## papers bent -/
def PaperOk (p : PV) : Prop := (notIns p = true ∧ (∀ ks ps, p ≠ .dct ks ps) ∧ (∀ ms, p ≠ .scr ms)) ∧ ∀ qs, seqOf p = some qs → ∀ q ∈ qs, pairOk q = true
theorem paper_lst {qs : List PV} (h : ∀ q ∈ qs, pairOk q = true) : PaperOk (.lst qs) := ⟨⟨rfl, nofun, nofun⟩, fun qs' e => by cases e; exact h⟩
theorem paper_tup {qs : List PV} (h : ∀ q ∈ qs, pairOk q = true) : PaperOk (.tup qs) := ⟨⟨rfl, nofun, nofun⟩, fun qs' e => by cases e; exact h⟩
theorem paper_non : PaperOk .non := ⟨⟨rfl, nofun, nofun⟩, fun qs' e => by cases e⟩
theorem paper_str (x : Str) : PaperOk (.str x) := ⟨⟨rfl, nofun, nofun⟩, fun qs' e => by cases e⟩
theorem prs_ok (os : List (Nat × Nat)) : ∀ q ∈ prs os, pairOk q = true := fun q hq => by
  obtain ⟨x, _, rfl⟩ := List.mem_map.mp hq
  rfl
theorem if_skip {c : TF} {g g2 : SF} {env : SEnv} {st st1 : PV} {r : SR} (h : c env st = .ok false st1) (h2 : g2 env st1 = r) : seqS (ifS c g nxS) g2 env st = r := seq_nx (if_ok h rfl) h2
theorem if_hit {c : TF} {e : EF} {g2 : SF} {env : SEnv} {st st1 st2 p : PV} (h : c env st = .ok true st1) (h2 : e env st1 = .ok p st2) : seqS (ifS c (seqS (retS e) nxS) nxS) g2 env st = .ret p false env st2 := seq_ret (if_ok h (seq_ret (ret_ok h2)))
theorem tk_ne {k j : Int} {r : SEnv} {st : PV} (h : k ≠ j) : cmpT eqP (vR 0) (cE (.int j)) (.sh (.int k) :: r) st = .ok false st :=
  cmp_ok (a := .int k) (b := .int j) rfl rfl (by rw [eqP_int, show (k == j) = false from by simpa using h])
theorem tk_eq {k : Int} {r : SEnv} {st : PV} : cmpT eqP (vR 0) (cE (.int k)) (.sh (.int k) :: r) st = .ok true st :=
  cmp_ok (a := .int k) (b := .int k) rfl rfl (by rw [eqP_int]; simp)
theorem addL_ok {xs ys : List PV} (h : xs.length + ys.length ≤ sizeLine) : addL (.lst xs) (.lst ys) = some (.lst (xs ++ ys)) := if_pos h
theorem slL_take (xs : List PV) (a : Nat) (h : a ≤ xs.length) : slL (.lst xs) none (some (a : Int)) = some (.lst (xs.take a)) := by
  show some (PV.lst (cutP xs none (some (a : Int)))) = _
  unfold cutP
  rw [HT.sIx_nat, HT.sIx_none]
  simp [Nat.min_eq_left h]
theorem slL_drop (xs : List PV) (a : Nat) : slL (.lst xs) (some (a : Int)) none = some (.lst (xs.drop a)) := by
  show some (PV.lst (cutP xs (some (a : Int)) none)) = _
  unfold cutP
  rw [HT.sIx_nat, HT.sIx_none]
  congr 2
  by_cases h : a ≤ xs.length
  · rw [Nat.min_eq_left h, List.take_of_length_le (by simp)]
  · rw [Nat.min_eq_right (by omega), List.drop_eq_nil_of_le (Nat.le_refl _), List.drop_eq_nil_of_le (by omega)]
    simp
theorem told_again (b0 b1 b2 b3 b4 b5 b6 b7 : Slot) (st : PV) : ∀ os : List (Nat × Nat), lcL (nameG 8) yesT (tupE (consA (opE ixP (vR 8) (cE (.int 0))) (consA (opE ixP (vR 8) (cE (.int 1))) nilA))) [b0, b1, b2, b3, b4, b5, b6, b7, .dead] (prs os) st = .ok (prs os) st
  | [] => rfl
  | (r, c) :: os => by
    have ih := told_again b0 b1 b2 b3 b4 b5 b6 b7 st os
    have e1 : tupE (consA (opE ixP (vR 8) (cE (.int 0))) (consA (opE ixP (vR 8) (cE (.int 1))) nilA)) [b0, b1, b2, b3, b4, b5, b6, b7, .sh (.tup [.int (r : Int), .int (c : Int)])] st = .ok (.tup [.int (r : Int), .int (c : Int)]) st := by
      have k0 : ixP (.tup [.int (r : Int), .int (c : Int)]) (.int 0) = some (.int (r : Int)) := rfl
      have k1 : ixP (.tup [.int (r : Int), .int (c : Int)]) (.int 1) = some (.int (c : Int)) := rfl
      simp [k0, k1, s2]
    show ((tupE (consA (opE ixP (vR 8) (cE (.int 0))) (consA (opE ixP (vR 8) (cE (.int 1))) nilA)) [b0, b1, b2, b3, b4, b5, b6, b7, .sh (.tup [.int (r : Int), .int (c : Int)])] st).bind fun y st2 => (lcL (nameG 8) yesT (tupE (consA (opE ixP (vR 8) (cE (.int 0))) (consA (opE ixP (vR 8) (cE (.int 1))) nilA))) [b0, b1, b2, b3, b4, b5, b6, b7, .dead] (prs os) st2).bind fun ys st3 => ER.ok (y :: ys) st3) = _
    rw [e1, ER.bind_ok, ih, ER.bind_ok]
    rfl
def prL (os : List (Nat × Nat)) : List PV := os.map fun x => PV.lst [.int (x.1 : Int), .int (x.2 : Int)]
theorem told_lists (b0 b1 b2 b3 b4 b5 b6 b7 : Slot) (st : PV) : ∀ os : List (Nat × Nat), lcL (nameG 8) yesT (lstE (consA (opE ixP (vR 8) (cE (.int 0))) (consA (opE ixP (vR 8) (cE (.int 1))) nilA))) [b0, b1, b2, b3, b4, b5, b6, b7, .dead] (prs os) st = .ok (prL os) st
  | [] => rfl
  | (r, c) :: os => by
    have ih := told_lists b0 b1 b2 b3 b4 b5 b6 b7 st os
    have e1 : lstE (consA (opE ixP (vR 8) (cE (.int 0))) (consA (opE ixP (vR 8) (cE (.int 1))) nilA)) [b0, b1, b2, b3, b4, b5, b6, b7, .sh (.tup [.int (r : Int), .int (c : Int)])] st = .ok (.lst [.int (r : Int), .int (c : Int)]) st := by
      have k0 : ixP (.tup [.int (r : Int), .int (c : Int)]) (.int 0) = some (.int (r : Int)) := rfl
      have k1 : ixP (.tup [.int (r : Int), .int (c : Int)]) (.int 1) = some (.int (c : Int)) := rfl
      simp [k0, k1, s2]
    show ((lstE (consA (opE ixP (vR 8) (cE (.int 0))) (consA (opE ixP (vR 8) (cE (.int 1))) nilA)) [b0, b1, b2, b3, b4, b5, b6, b7, .sh (.tup [.int (r : Int), .int (c : Int)])] st).bind fun y st2 => (lcL (nameG 8) yesT (lstE (consA (opE ixP (vR 8) (cE (.int 0))) (consA (opE ixP (vR 8) (cE (.int 1))) nilA))) [b0, b1, b2, b3, b4, b5, b6, b7, .dead] (prs os) st2).bind fun ys st3 => ER.ok (y :: ys) st3) = _
    rw [e1, ER.bind_ok, ih, ER.bind_ok]
    rfl
theorem ix_prs {os : List (Nat × Nat)} {i r c : Nat} (h : os[i]? = some (r, c)) : ixP (.lst (prs os)) (.int (i : Int)) = some (.tup [.int (r : Int), .int (c : Int)]) := by
  show L2.atI (prs os) (i : Int) = _
  rw [atI_nat (x := .tup [.int (r : Int), .int (c : Int)])]
  unfold prs
  rw [List.getElem?_map, h]; rfl
abbrev pE (k : Int) (os : List (Nat × Nat)) (a R n : Nat) (s5 s6 s7 : Slot) : SEnv := [.sh (.int k), .sh (.lst (prs os)), .sh (.int (a : Int)), .sh (.int (R : Int)), .sh (.int (n : Int)), s5, s6, s7, .dead]
section
variable (k : Int) (os : List (Nat × Nat)) (a R n : Nat) (s6 s7 : Slot) (st : PV)
theorem pre_take (ha : a ≤ os.length) : slE slL (vR 5) noP (someP (vE 2)) (pE k os a R n (.own (.lst (prs os))) s6 s7) st = .ok (.lst ((prs os).take a)) st := by
  have h := slL_take (prs os) a (by simpa using ha)
  simp [pE, h]
theorem post1 : slE slL (vR 5) (someP (opE addP (vR 2) (cE (.int 1)))) noP (pE k os a R n (.own (.lst (prs os))) s6 s7) st = .ok (.lst ((prs os).drop (a + 1))) st := by
  have h := slL_drop (prs os) (a + 1)
  have e : (((a + 1 : Nat) : Nat) : Int) = (a : Int) + 1 := by omega
  rw [e] at h
  simp [pE, addP_int, h]
theorem post2 : slE slL (vR 5) (someP (opE addP (vR 2) (cE (.int 2)))) noP (pE k os a R n (.own (.lst (prs os))) s6 s7) st = .ok (.lst ((prs os).drop (a + 2))) st := by
  have h := slL_drop (prs os) (a + 2)
  have e : (((a + 2 : Nat) : Nat) : Int) = (a : Int) + 2 := by omega
  rw [e] at h
  simp [pE, addP_int, h]
theorem around {f g : EF} {qs ds : List PV} (ha : a ≤ os.length) (hz : os.length ≤ 10000) (hq : qs.length ≤ 10) (hqs : ∀ q ∈ qs, pairOk q = true) (hds : ∀ q ∈ ds, q ∈ prs os) (hdl : ds.length ≤ os.length)
    (h : f (pE k os a R n (.own (.lst (prs os))) s6 s7) st = .ok (.lst qs) st) (h2 : g (pE k os a R n (.own (.lst (prs os))) s6 s7) st = .ok (.lst ds) st) :
    ∃ p, opE addL (opE addL (slE slL (vR 5) noP (someP (vE 2))) f) g (pE k os a R n (.own (.lst (prs os))) s6 s7) st = .ok p st ∧ PaperOk p := by
  have hs : sizeLine = 16777216 := sizeLine_eq
  have hl : ((prs os).take a).length ≤ os.length := by simp; omega
  refine ⟨.lst ((prs os).take a ++ qs ++ ds), op_ok (op_ok (pre_take k os a R n s6 s7 st ha) h (addL_ok (by omega))) h2 (addL_ok (by rw [List.length_append]; omega)), paper_lst fun q hqm => ?_⟩
  rcases List.mem_append.mp hqm with hqm | hqm
  · rcases List.mem_append.mp hqm with hqm | hqm
    · exact prs_ok os q (List.mem_of_mem_take hqm)
    · exact hqs q hqm
  · exact prs_ok os q (hds q hqm)
end
theorem mem_drop1 {os : List (Nat × Nat)} {m : Nat} : ∀ q ∈ (prs os).drop m, q ∈ prs os := fun q h => List.mem_of_mem_drop h
theorem len_drop1 {os : List (Nat × Nat)} {m : Nat} : ((prs os).drop m).length ≤ os.length := by simp
theorem lit_01 : PaperOk (.str "01") := paper_str _
theorem c_spoilt (k : Nat) (hk : k < 15) (os : List (Nat × Nat)) (hz : os.length ≤ 1000) (a R n : Nat) (hn : 0 < n) (ha : os = [] ∨ a < os.length) (hR : ∀ x ∈ os, x.1 < R) (st : PV) :
    ∃ p, PaperOk p ∧ callK fi__law_spoilt [.int (k : Int), .lst (prs os), .int (a : Int), .int (R : Int), .int (n : Int)] st = .ok p st := by
  have hs : sizeLine = 16777216 := sizeLine_eq
  suffices H : ∃ p env1, PaperOk p ∧ g__law_spoilt (pE (k : Int) os a R n .dead .dead .dead) .non = .ret p false env1 .non by
    obtain ⟨p, env1, h1, h2⟩ := H
    refine ⟨p, h1, ?_⟩
    have e : fi__law_spoilt.sem [.int (k : Int), .lst (prs os), .int (a : Int), .int (R : Int), .int (n : Int)] .non = .ok p .non := sem_ok h2 (fun h => by cases h)
    rw [callK_val, e]
  have d0 : lcE [8] (seqA (vE 1)) (nameG 8) yesT (tupE (consA (opE ixP (vR 8) (cE (.int 0))) (consA (opE ixP (vR 8) (cE (.int 1))) nilA))) (pE (k : Int) os a R n .dead .dead .dead) .non = .ok (.lst (prs os)) .non :=
    lc_ok (seqA_ok (p := .lst (prs os)) rfl rfl) rfl (by simp; omega) (told_again _ _ _ _ _ _ _ _ _ os)
  have hlen : biE lenP (consA (vR 5) nilA) (pE (k : Int) os a R n (.own (.lst (prs os))) .dead .dead) .non = .ok (.int (os.length : Nat)) .non := by simp [pE, lenP]
  have tail : ∀ (q : PV) (qf : EF), pairOk q = true → lstE (consA qf nilA) (pE (k : Int) os a R n (.own (.lst (prs os))) .dead .dead) .non = .ok (.lst [q]) .non → ∃ p, opE addL (vR 5) (lstE (consA qf nilA)) (pE (k : Int) os a R n (.own (.lst (prs os))) .dead .dead) .non = .ok p .non ∧ PaperOk p := fun q qf hq he =>
    ⟨.lst (prs os ++ [q]), op_ok (a := .lst (prs os)) rfl he (addL_ok (by simp; omega)), paper_lst fun q' hq' => by
      rcases List.mem_append.mp hq' with h | h
      · exact prs_ok os q' h
      · rw [List.mem_singleton.mp h]; exact hq⟩
  -- the kinds before the pair is read
  by_cases h5 : k < 5
  · match k, h5 with
    | 0, _ => exact ⟨.non, _, paper_non, seq_nx (setO_ok d0) (if_hit tk_eq rfl)⟩
    | 1, _ => exact ⟨_, _, lit_01, seq_nx (setO_ok d0) (if_skip (tk_ne (by decide)) (if_hit tk_eq rfl))⟩
    | 2, _ =>
      obtain ⟨p, h1, h2⟩ := tail (.tup [.int (R : Int), .int 0]) (tupE (consA (vE 3) (consA (cE (.int 0)) nilA))) rfl (by simp [pE, s2, s1])
      exact ⟨p, _, h2, seq_nx (setO_ok d0) (if_skip (tk_ne (by decide)) (if_skip (tk_ne (by decide)) (if_hit tk_eq h1)))⟩
    | 3, _ =>
      obtain ⟨p, h1, h2⟩ := tail (.tup [.int (-1), .int ((n : Int) - 1)]) (tupE (consA (negE (cE (.int 1))) (consA (opE subP (vR 4) (cE (.int 1))) nilA))) rfl (by simp [pE, s2, s1, subP_int])
      exact ⟨p, _, h2, seq_nx (setO_ok d0) (if_skip (tk_ne (by decide)) (if_skip (tk_ne (by decide)) (if_skip (tk_ne (by decide)) (if_hit tk_eq h1))))⟩
    | 4, _ =>
      obtain ⟨p, h1, h2⟩ := tail (.int 7) (cE (.int 7)) rfl (by simp [pE, s2, s1])
      exact ⟨p, _, h2, seq_nx (setO_ok d0) (if_skip (tk_ne (by decide)) (if_skip (tk_ne (by decide)) (if_skip (tk_ne (by decide)) (if_skip (tk_ne (by decide)) (if_hit tk_eq h1)))))⟩
  · have n0 : (k : Int) ≠ 0 := by omega
    have n1 : (k : Int) ≠ 1 := by omega
    have n2 : (k : Int) ≠ 2 := by omega
    have n3 : (k : Int) ≠ 3 := by omega
    have n4 : (k : Int) ≠ 4 := by omega
    by_cases hos : os = []
    · have hl : cmpT eqP (biE lenP (consA (vR 5) nilA)) (cE (.int 0)) (pE (k : Int) os a R n (.own (.lst (prs os))) .dead .dead) .non = .ok true .non := cmp_ok hlen rfl (by rw [eqP_int, hos]; rfl)
      obtain ⟨p, h1, h2⟩ := tail (.tup [.int 0, .int 0]) (tupE (consA (cE (.int 0)) (consA (cE (.int 0)) nilA))) rfl (by simp [pE, s2, s1])
      exact ⟨p, _, h2, seq_nx (setO_ok d0) (if_skip (tk_ne n0) (if_skip (tk_ne n1) (if_skip (tk_ne n2) (if_skip (tk_ne n3) (if_skip (tk_ne n4) (if_hit hl h1))))))⟩
    · have ha' : a < os.length := ha.resolve_left hos
      have hl : cmpT eqP (biE lenP (consA (vR 5) nilA)) (cE (.int 0)) (pE (k : Int) os a R n (.own (.lst (prs os))) .dead .dead) .non = .ok false .non := cmp_ok hlen rfl (by
        rw [eqP_int]
        have : ((os.length : Nat) : Int) ≠ 0 := by omega
        rw [show (((os.length : Nat) : Int) == 0) = false from by simpa using hos])
      obtain ⟨⟨r, c⟩, hx⟩ : ∃ x, os[a]? = some x := ⟨_, List.getElem?_eq_getElem ha'⟩
      have hRr := hR _ (List.mem_of_getElem? hx)
      have hR0 : (R : Int) ≠ 0 := by
        have : r < R := hRr
        omega
      have hn0 : (n : Int) ≠ 0 := by omega
      have e6 : opE ixP (opE ixP (vR 5) (vR 2)) (cE (.int 0)) (pE (k : Int) os a R n (.own (.lst (prs os))) .dead .dead) .non = .ok (.int (r : Int)) .non :=
        op_ok (op_ok (a := .lst (prs os)) (b := .int (a : Int)) rfl rfl (ix_prs hx)) rfl rfl
      have e7 : opE ixP (opE ixP (vR 5) (vR 2)) (cE (.int 1)) (pE (k : Int) os a R n (.own (.lst (prs os))) (.sh (.int (r : Int))) .dead) .non = .ok (.int (c : Int)) .non :=
        op_ok (op_ok (a := .lst (prs os)) (b := .int (a : Int)) rfl rfl (ix_prs hx)) rfl rfl
      have pr := pre_take (k : Int) os a R n (.sh (.int (r : Int))) (.sh (.int (c : Int))) .non (by omega)
      have po := post1 (k : Int) os a R n (.sh (.int (r : Int))) (.sh (.int (c : Int))) .non
      have po2 := post2 (k : Int) os a R n (.sh (.int (r : Int))) (.sh (.int (c : Int))) .non
      have ar := fun {f : EF} {qs : List PV} (hq : qs.length ≤ 10) (hqs : ∀ q ∈ qs, pairOk q = true) (h : f (pE (k : Int) os a R n (.own (.lst (prs os))) (.sh (.int (r : Int))) (.sh (.int (c : Int)))) .non = .ok (.lst qs) .non) => around (k : Int) os a R n (.sh (.int (r : Int))) (.sh (.int (c : Int))) .non (f := f) (by omega) (by omega) hq hqs mem_drop1 len_drop1 h po
      match k, h5, hk with
      | 5, _, _ =>
        refine ⟨.lst ((prs os).take a ++ (prs os).drop (a + 1)), _, paper_lst fun q hq => ?_, seq_nx (setO_ok d0) (if_skip (tk_ne n0) (if_skip (tk_ne n1) (if_skip (tk_ne n2) (if_skip (tk_ne n3) (if_skip (tk_ne n4) (if_skip hl (seq_nx (set_ok e6) (seq_nx (set_ok e7) (if_hit tk_eq (op_ok pr po (addL_ok (by simp; omega)))))))))))) ⟩
        rcases List.mem_append.mp hq with h | h
        · exact prs_ok os q (List.mem_of_mem_take h)
        · exact prs_ok os q (List.mem_of_mem_drop h)
      | 6, _, _ =>
        obtain ⟨p, h1, h2⟩ := ar (f := lstE (consA (tupE (consA (vE 6) (consA (opE modP (biE intTyP (consA (opE addP (vR 7) (cE (.int 1))) nilA)) (vR 4)) nilA))) nilA)) (qs := [.tup [.int (r : Int), .int (Int.fmod ((c : Int) + 1) (n : Int))]]) (by simp) (by simp [pairOk]) (by simp [pE, addP_int, intTy_int, modP_int _ _ hn0, s1, s2])
        exact ⟨p, _, h2, seq_nx (setO_ok d0) (if_skip (tk_ne n0) (if_skip (tk_ne n1) (if_skip (tk_ne n2) (if_skip (tk_ne n3) (if_skip (tk_ne n4) (if_skip hl (seq_nx (set_ok e6) (seq_nx (set_ok e7) (if_skip (tk_ne (by decide)) (if_hit tk_eq h1))))))))))⟩
      | 7, _, _ =>
        obtain ⟨p, h1, h2⟩ := ar (f := lstE (consA (tupE (consA (opE modP (biE intTyP (consA (opE addP (vR 6) (cE (.int 1))) nilA)) (vR 3)) (consA (vE 7) nilA))) nilA)) (qs := [.tup [.int (Int.fmod ((r : Int) + 1) (R : Int)), .int (c : Int)]]) (by simp) (by simp [pairOk]) (by simp [pE, addP_int, intTy_int, modP_int _ _ hR0, s1, s2])
        exact ⟨p, _, h2, seq_nx (setO_ok d0) (if_skip (tk_ne n0) (if_skip (tk_ne n1) (if_skip (tk_ne n2) (if_skip (tk_ne n3) (if_skip (tk_ne n4) (if_skip hl (seq_nx (set_ok e6) (seq_nx (set_ok e7) (if_skip (tk_ne (by decide)) (if_skip (tk_ne (by decide)) (if_hit tk_eq h1)))))))))))⟩
      | 8, _, _ =>
        obtain ⟨p, h1, h2⟩ := ar (f := lstE (consA (tupE (consA (vE 6) (consA (vE 7) nilA))) (consA (tupE (consA (vE 6) (consA (vE 7) nilA))) nilA))) (qs := [.tup [.int (r : Int), .int (c : Int)], .tup [.int (r : Int), .int (c : Int)]]) (by simp) (by simp [pairOk]) (by simp [pE, s1, s2])
        exact ⟨p, _, h2, seq_nx (setO_ok d0) (if_skip (tk_ne n0) (if_skip (tk_ne n1) (if_skip (tk_ne n2) (if_skip (tk_ne n3) (if_skip (tk_ne n4) (if_skip hl (seq_nx (set_ok e6) (seq_nx (set_ok e7) (if_skip (tk_ne (by decide)) (if_skip (tk_ne (by decide)) (if_skip (tk_ne (by decide)) (if_hit tk_eq h1))))))))))))⟩
      | 9, _, _ =>
        obtain ⟨p, h1, h2⟩ := ar (f := lstE (consA (tupE (consA (vE 6) (consA (vE 7) (consA (cE (.int 0)) nilA)))) nilA)) (qs := [.tup [.int (r : Int), .int (c : Int), .int 0]]) (by simp) (by simp [pairOk]) (by simp [pE, s1, s3])
        exact ⟨p, _, h2, seq_nx (setO_ok d0) (if_skip (tk_ne n0) (if_skip (tk_ne n1) (if_skip (tk_ne n2) (if_skip (tk_ne n3) (if_skip (tk_ne n4) (if_skip hl (seq_nx (set_ok e6) (seq_nx (set_ok e7) (if_skip (tk_ne (by decide)) (if_skip (tk_ne (by decide)) (if_skip (tk_ne (by decide)) (if_skip (tk_ne (by decide)) (if_hit tk_eq h1)))))))))))))⟩
      | 10, _, _ =>
        obtain ⟨p, h1, h2⟩ := ar (f := lstE (consA (tupE (consA (opE subP (vR 6) (vR 3)) (consA (vE 7) nilA))) nilA)) (qs := [.tup [.int ((r : Int) - (R : Int)), .int (c : Int)]]) (by simp) (by simp [pairOk]) (by simp [pE, s1, s2, subP_int])
        exact ⟨p, _, h2, seq_nx (setO_ok d0) (if_skip (tk_ne n0) (if_skip (tk_ne n1) (if_skip (tk_ne n2) (if_skip (tk_ne n3) (if_skip (tk_ne n4) (if_skip hl (seq_nx (set_ok e6) (seq_nx (set_ok e7) (if_skip (tk_ne (by decide)) (if_skip (tk_ne (by decide)) (if_skip (tk_ne (by decide)) (if_skip (tk_ne (by decide)) (if_skip (tk_ne (by decide)) (if_hit tk_eq h1))))))))))))))⟩
      | 11, _, _ =>
        obtain ⟨p, h1, h2⟩ := ar (f := lstE (consA (tupE (consA (vE 6) (consA (opE subP (vR 7) (vR 4)) nilA))) nilA)) (qs := [.tup [.int (r : Int), .int ((c : Int) - (n : Int))]]) (by simp) (by simp [pairOk]) (by simp [pE, s1, s2, subP_int])
        exact ⟨p, _, h2, seq_nx (setO_ok d0) (if_skip (tk_ne n0) (if_skip (tk_ne n1) (if_skip (tk_ne n2) (if_skip (tk_ne n3) (if_skip (tk_ne n4) (if_skip hl (seq_nx (set_ok e6) (seq_nx (set_ok e7) (if_skip (tk_ne (by decide)) (if_skip (tk_ne (by decide)) (if_skip (tk_ne (by decide)) (if_skip (tk_ne (by decide)) (if_skip (tk_ne (by decide)) (if_skip (tk_ne (by decide)) (if_hit tk_eq h1)))))))))))))))⟩
      | 12, _, _ =>
        obtain ⟨p, h1, h2⟩ := ar (f := lstE (consA (tupE (consA (cmpE eqP (vR 6) (cE (.int 1))) (consA (vE 7) nilA))) nilA)) (qs := [.tup [.bl ((r : Int) == 1), .int (c : Int)]]) (by simp) (by simp [pairOk]) (by simp [pE, s1, s2, eqP_int])
        exact ⟨p, _, h2, seq_nx (setO_ok d0) (if_skip (tk_ne n0) (if_skip (tk_ne n1) (if_skip (tk_ne n2) (if_skip (tk_ne n3) (if_skip (tk_ne n4) (if_skip hl (seq_nx (set_ok e6) (seq_nx (set_ok e7) (if_skip (tk_ne (by decide)) (if_skip (tk_ne (by decide)) (if_skip (tk_ne (by decide)) (if_skip (tk_ne (by decide)) (if_skip (tk_ne (by decide)) (if_skip (tk_ne (by decide)) (if_skip (tk_ne (by decide)) (if_hit tk_eq h1))))))))))))))))⟩
      | 13, _, _ =>
        have h1 : lcE [8] (seqA (vE 5)) (nameG 8) yesT (lstE (consA (opE ixP (vR 8) (cE (.int 0))) (consA (opE ixP (vR 8) (cE (.int 1))) nilA))) (pE (13 : Nat) os a R n (.sh (.lst (prs os))) (.sh (.int (r : Int))) (.sh (.int (c : Int)))) .non = .ok (.lst (prL os)) .non :=
          lc_ok (seqA_ok (p := .lst (prs os)) rfl rfl) rfl (by simp; omega) (told_lists _ _ _ _ _ _ _ _ _ os)
        refine ⟨.tup (prL os), _, paper_tup fun q hq => ?_, seq_nx (setO_ok d0) (if_skip (tk_ne n0) (if_skip (tk_ne n1) (if_skip (tk_ne n2) (if_skip (tk_ne n3) (if_skip (tk_ne n4) (if_skip hl (seq_nx (set_ok e6) (seq_nx (set_ok e7) (if_skip (tk_ne (by decide)) (if_skip (tk_ne (by decide)) (if_skip (tk_ne (by decide)) (if_skip (tk_ne (by decide)) (if_skip (tk_ne (by decide)) (if_skip (tk_ne (by decide)) (if_skip (tk_ne (by decide)) (if_skip (tk_ne (by decide)) (seq_ret (if_ok tk_eq (seq_ret (ret_ok (bi_ok (one_ok h1) rfl)))))))))))))))))))))⟩
        obtain ⟨x, _, rfl⟩ := List.mem_map.mp hq
        rfl
      | 14, _, _ =>
        have tl : opE addP (vR 2) (cE (.int 1)) (pE (14 : Nat) os a R n (.own (.lst (prs os))) (.sh (.int (r : Int))) (.sh (.int (c : Int)))) .non = .ok (.int ((a + 1 : Nat) : Int)) .non := by simp [pE, addP_int]
        have hlen2 : biE lenP (consA (vR 5) nilA) (pE (14 : Nat) os a R n (.own (.lst (prs os))) (.sh (.int (r : Int))) (.sh (.int (c : Int)))) .non = .ok (.int (os.length : Nat)) .non := by simp [pE, lenP]
        by_cases hlt : a + 1 < os.length
        · have ht : cmpT ltP (opE addP (vR 2) (cE (.int 1))) (biE lenP (consA (vR 5) nilA)) (pE (14 : Nat) os a R n (.own (.lst (prs os))) (.sh (.int (r : Int))) (.sh (.int (c : Int)))) .non = .ok true .non :=
            cmp_ok tl hlen2 (by show some (decide (((a + 1 : Nat) : Int) < ((os.length : Nat) : Int))) = _; rw [decide_eq_true (by omega)])
          obtain ⟨⟨r2, c2⟩, hx2⟩ : ∃ x, os[a + 1]? = some x := ⟨_, List.getElem?_eq_getElem hlt⟩
          have g1 : lstE (consA (opE ixP (vR 5) (opE addP (vR 2) (cE (.int 1)))) (consA (opE ixP (vR 5) (vR 2)) nilA)) (pE (14 : Nat) os a R n (.own (.lst (prs os))) (.sh (.int (r : Int))) (.sh (.int (c : Int)))) .non = .ok (.lst [.tup [.int (r2 : Int), .int (c2 : Int)], .tup [.int (r : Int), .int (c : Int)]]) .non := by
            have k1 : opE ixP (vR 5) (opE addP (vR 2) (cE (.int 1))) (pE (14 : Nat) os a R n (.own (.lst (prs os))) (.sh (.int (r : Int))) (.sh (.int (c : Int)))) .non = .ok (.tup [.int (r2 : Int), .int (c2 : Int)]) .non := op_ok (a := .lst (prs os)) rfl tl (ix_prs hx2)
            have k2 : opE ixP (vR 5) (vR 2) (pE (14 : Nat) os a R n (.own (.lst (prs os))) (.sh (.int (r : Int))) (.sh (.int (c : Int)))) .non = .ok (.tup [.int (r : Int), .int (c : Int)]) .non := op_ok (a := .lst (prs os)) (b := .int (a : Int)) rfl rfl (ix_prs hx)
            rw [lstE_ap, cons_ok k1 (one_ok k2), ER.bind_ok]
            exact if_pos s2
          obtain ⟨p, h1, h2⟩ := around (14 : Nat) os a R n (.sh (.int (r : Int))) (.sh (.int (c : Int))) .non (by omega) (by omega) (by simp) (by simp [pairOk]) mem_drop1 len_drop1 g1 po2
          exact ⟨p, _, h2, seq_nx (setO_ok d0) (if_skip (tk_ne n0) (if_skip (tk_ne n1) (if_skip (tk_ne n2) (if_skip (tk_ne n3) (if_skip (tk_ne n4) (if_skip hl (seq_nx (set_ok e6) (seq_nx (set_ok e7) (if_skip (tk_ne (by decide)) (if_skip (tk_ne (by decide)) (if_skip (tk_ne (by decide)) (if_skip (tk_ne (by decide)) (if_skip (tk_ne (by decide)) (if_skip (tk_ne (by decide)) (if_skip (tk_ne (by decide)) (if_skip (tk_ne (by decide)) (if_skip (tk_ne (by decide)) (if_hit ht h1))))))))))))))))))⟩
        · have ht : cmpT ltP (opE addP (vR 2) (cE (.int 1))) (biE lenP (consA (vR 5) nilA)) (pE (14 : Nat) os a R n (.own (.lst (prs os))) (.sh (.int (r : Int))) (.sh (.int (c : Int)))) .non = .ok false .non :=
            cmp_ok tl hlen2 (by show some (decide (((a + 1 : Nat) : Int) < ((os.length : Nat) : Int))) = _; rw [decide_eq_false (by omega)])
          exact ⟨.lst (prs os), _, paper_lst (prs_ok os), seq_nx (setO_ok d0) (if_skip (tk_ne n0) (if_skip (tk_ne n1) (if_skip (tk_ne n2) (if_skip (tk_ne n3) (if_skip (tk_ne n4) (if_skip hl (seq_nx (set_ok e6) (seq_nx (set_ok e7) (if_skip (tk_ne (by decide)) (if_skip (tk_ne (by decide)) (if_skip (tk_ne (by decide)) (if_skip (tk_ne (by decide)) (if_skip (tk_ne (by decide)) (if_skip (tk_ne (by decide)) (if_skip (tk_ne (by decide)) (if_skip (tk_ne (by decide)) (if_skip (tk_ne (by decide)) (if_skip ht (seq_ret (ret_ok rfl))))))))))))))))))))⟩
end KI.K10

/-! part P10x -/
set_option Elab.async false
set_option linter.all false
set_option maxRecDepth 100000
set_option maxHeartbeats 2000000
namespace KI.K10
open PySem PySem.Spec PyProof.Rows L2 KI
/-! ## two orders that end leave the same white -/
theorem runF_sub (ls : List (List Nat)) : ∀ (qs : List PV) (w w' : List Bool), runF ls w qs = some w' → ∀ j, wh w' j = true → wh w j = true
  | [], w, w', h, j, hj => by cases h; exact hj
  | q :: qs, w, w', h, j, hj => by
    unfold runF at h
    by_cases hs : stepB ls w q = true
    · rw [if_pos hs] at h
      have := runF_sub ls qs _ w' h j hj
      by_cases hc : colN q < w.length
      · rw [wh_set false w _ j hc] at this
        by_cases e : colN q = j
        · rw [if_pos e] at this; cases this
        · rw [if_neg e] at this; exact this
      · rw [List.set_eq_of_length_le (by omega)] at this
        exact this
    · rw [if_neg hs] at h; cases h
theorem forced_shrink {l cols : List Nat} {w w2 : List Bool} {c : Nat} (h : forcedR l cols w = some c) (hsub : ∀ j, wh w2 j = true → wh w j = true) (hc : wh w2 c = true) : forcedR l cols w2 = some c := by
  unfold forcedR at h ⊢
  have e : cols.filter (fun j => wh w2 j) = (cols.filter fun j => wh w j).filter fun j => wh w2 j := by
    rw [List.filter_filter]
    apply List.filter_congr
    intro j _
    cases h2 : wh w2 j with
    | false => rfl
    | true => rw [hsub j h2]; rfl
  rw [e]
  generalize cols.filter (fun j => wh w j) = S at h ⊢
  unfold oneHard at h
  split at h
  · rename_i k
    split at h
    · rename_i hh
      cases h
      simp [hc, oneHard, hh]
    · cases h
  · cases h
theorem step_forced {ls : List (List Nat)} {w : List Bool} {q : PV} (h : stepB ls w q = true) : ∃ r, r < ls.length ∧ forcedR (ln ls r) (touchC (ln ls r)) w = some (colN q) := by
  have key : ∀ r c : Int, stepI ls w r c = true → ∃ k, k < ls.length ∧ forcedR (ln ls k) (touchC (ln ls k)) w = some c.toNat := fun r c h => by
    unfold stepI at h
    by_cases hr : 0 ≤ r ∧ r < ls.length
    · rw [if_pos hr] at h
      refine ⟨r.toNat, by omega, ?_⟩
      cases ho : forcedR (ln ls r.toNat) (touchC (ln ls r.toNat)) w with
      | none => rw [ho] at h; cases h
      | some j =>
        rw [ho] at h
        have : (j : Int) = c := by simpa using h
        rw [← this, Int.toNat_natCast]
    · rw [if_neg hr] at h; cases h
  unfold stepB at h
  split at h
  · exact key _ _ h
  · exact key _ _ h
  · cases h
theorem conf (ls : List (List Nat)) (w2 : List Bool) (hst : Stuck ls (List.range ls.length) w2) : ∀ (qs : List PV) (w w' : List Bool), runF ls w qs = some w' → (∀ j, wh w2 j = true → wh w j = true) → ∀ j, wh w2 j = true → wh w' j = true
  | [], w, w', h, hsub, j, hj => by cases h; exact hsub j hj
  | q :: qs, w, w', h, hsub, j, hj => by
    unfold runF at h
    by_cases hs : stepB ls w q = true
    · rw [if_pos hs] at h
      obtain ⟨r, hr, hf⟩ := step_forced hs
      have hc : ¬ wh w2 (colN q) = true := fun hc => by
        have := forced_shrink hf hsub hc
        rw [hst r (List.mem_range.mpr hr)] at this
        cases this
      refine conf ls w2 hst qs _ w' h (fun k hk => ?_) j hj
      by_cases hl : colN q < w.length
      · rw [wh_set false w _ k hl]
        by_cases e : colN q = k
        · subst e; exact absurd hk hc
        · rw [if_neg e]; exact hsub k hk
      · rw [List.set_eq_of_length_le (by omega)]
        exact hsub k hk
    · rw [if_neg hs] at h; cases h
theorem conf_eq {ls : List (List Nat)} {w0 w1 w2 : List Bool} {as bs : List PV} (h1 : runF ls w0 as = some w1) (h2 : runF ls w0 bs = some w2) (s1 : Stuck ls (List.range ls.length) w1) (s2 : Stuck ls (List.range ls.length) w2) (j : Nat) : wh w1 j = wh w2 j := by
  rw [Bool.eq_iff_iff]
  exact ⟨conf ls w1 s1 bs w0 w2 h2 (runF_sub ls as w0 w1 h1) j, conf ls w2 s2 as w0 w1 h1 (runF_sub ls bs w0 w2 h2) j⟩
theorem able_stuck {n : Nat} {ls : List (List Nat)} (h : TabOk n ls) {w : List Bool} (ha : able n ls w = []) : Stuck ls (List.range ls.length) w := fun r hr => by
  have hr' := List.mem_range.mp hr
  rw [forced_lone h hr']
  cases e : loneR (ln ls r) (whl n w) with
  | none => rfl
  | some c =>
    have : r ∈ able n ls w := List.mem_filter.mpr ⟨hr, by rw [e]; rfl⟩
    rw [ha] at this; cases this
theorem showR_seq {ls : List (List Nat)} {w0 w1 : List Bool} {j : Nat} {p : PV} {qs : List PV} (hp : seqOf p = some qs) (hr : runF ls w0 qs = some w1) : showR ls w0 j p = !wh w1 j := by
  unfold showR
  rw [hp]
  dsimp only
  rw [hr]
/-! ## comparisons -/
theorem depth_strs : ∀ xs : List PyData, (∀ x ∈ xs, ∃ s, x = .str s) → PyData.depthAll xs ≤ 0
  | [], _ => by simp [PyData.depthAll]
  | x :: xs, h => by
    obtain ⟨s, rfl⟩ := h x List.mem_cons_self
    have := depth_strs xs fun y hy => h y (List.mem_cons_of_mem _ hy)
    simp [PyData.depthAll, PyData.depth]
    omega
theorem lay_strs : ∀ xs : List PyData, (∀ x ∈ xs, PyData.canLay0 x = true) → PyData.canLayAll0 xs = true
  | [], _ => by simp [PyData.canLayAll0]
  | x :: xs, h => by
    have h1 := h x List.mem_cons_self
    have h2 := lay_strs xs fun y hy => h y (List.mem_cons_of_mem _ hy)
    simp [PyData.canLayAll0, h1, h2]
theorem eq_lines {n : Nat} {ls : List (List Nat)} (h : ∀ l ∈ ls, LineOk n l) : eqP (.lst (lines ls)) (.lst (lines ls)) = some true := by
  have h1 : ∀ x ∈ toDs (lines ls), (∃ s, x = .str s) ∧ PyData.canLay0 x = true := fun x hx => by
    rw [toDs_map] at hx
    obtain ⟨p, hp, rfl⟩ := List.mem_map.mp hx
    obtain ⟨l, hl, rfl⟩ := List.mem_map.mp hp
    refine ⟨⟨_, rfl⟩, ?_⟩
    show PyData.strOk _ = true
    unfold PyData.strOk
    simp
    intro c hc
    have := mark_lt ((h l hl).2.1 c hc)
    omega
  have h2 : PyData.canLayAll0 (toDs (lines ls)) = true := lay_strs _ fun x hx => (h1 x hx).2
  have h3 : PyData.canLay0 (.list (toDs (lines ls))) = true := by simpa [PyData.canLay0] using h2
  have h4 : okD (.lst (lines ls)) = true := by
    unfold okD SeqAt.shaped
    have hd := depth_strs (toDs (lines ls)) fun x hx => (h1 x hx).1
    have e : toD (.lst (lines ls)) = .list (toDs (lines ls)) := by rw [toD]
    rw [e, h3]
    simp [PyData.depth]
    omega
  unfold eqP
  rw [if_pos ⟨h4, h4⟩]
  unfold eqB
  rw [show toD (.lst (lines ls)) = .list (toDs (lines ls)) from by rw [toD], SeqAt.eqv_refl _ h3]
theorem neP_bl (a b : Bool) : neP (.bl a) (.bl b) = some (!(a == b)) := by
  unfold neP eqB okD toD
  simp [SeqAt.shaped, PyData.eqv, PyData.canLay0, PyData.depth]
theorem c_shows {n : Nat} {ls : List (List Nat)} (h : TabOk n ls) (j : Nat) (hj : j < n) (ns : List Nat) (hns : ∀ m ∈ ns, m < n) (hnd : ns.Nodup) (hz : ns.length ≤ sizeLine) (lot : PV) (hl : lot = .lst (nts ns) ∨ lot = .tup (nts ns)) (paper : PV) (hp : PaperOk paper) (st : PV) :
    callK fi_shows_forced [tb n ls, .int (j : Int), paper, lot] st = .ok (.bl (showR ls (white0 n ns) j paper)) st := by
  have e0 : nts ns = (ints' ns).map .int := by unfold nts ints'; rw [List.map_map]; rfl
  rw [callK_val, s_shows h j hj ns hns hnd hz lot (by rw [← e0]; exact hl) paper hp.1 hp.2]
theorem c_judged {n : Nat} {ls : List (List Nat)} (h : TabOk n ls) (j : Nat) (hj : j < n) (ns : List Nat) (hns : ∀ m ∈ ns, m < n) (paper : PV) (hp : PaperOk paper) (st : PV) :
    callK fi__law_judged [.lst (lines ls), .int (n : Int), .int (j : Int), paper, .lst (nts ns)] st = .ok (.bl (showR ls (white0 n ns) j paper)) st := by
  rw [callK_val, s_judged h j hj ns hns paper hp.1 hp.2]
end KI.K10

/-! part P10y -/
set_option Elab.async false
set_option linter.all false
set_option maxRecDepth 100000
set_option maxHeartbeats 2000000
namespace KI.K10
open PySem PySem.Spec PyProof.Rows L2 KI
/-! ## papers kept -/
def innerB : SF := (seqS (setS 14 (callE fi_shows_forced [] (consA (vE 4) (consA (vE 8) (consA (vE 11) (consA (biE listP (consA (vR 3) nilA)) nilA)))))) (seqS (ifS (orT (notT (truT (isiE ["bool"] (vR 14)))) (cmpT neP (vR 14) (vR 10))) (seqS (retS (cE (.bl false))) nxS) nxS) (fun env st => .nx (killS [11, 14] env) st)))
def outerB : SF := (seqS (setS 10 (callE fi__law_judged [] (consA (vE 1) (consA (vE 2) (consA (vE 8) (consA (vE 6) (consA (vE 3) nilA))))))) (seqS (forS (seqA (lstE (consA (biE listP (consA (vR 6) nilA)) (consA (biE tupleP (consA (vR 6) nilA)) (consA (vE 7) nilA))))) (nameG 11) innerB) (fun env st => .nx (killS [8, 10, 11, 14] env) st)))
def kA : SF := (ifS (cmpT gtP (biE lenP (consA (vR 6) nilA)) (cE (.int 0))) (seqS (setS 12 (callE fi__law_next [] (consA (mtA 0) (consA (biE minP (consA (cE (.int 30)) (consA (biE lenP (consA (vR 6) nilA)) nilA))) nilA)))) nxS) nxS)
def kC : SF := (ifS (andT (cmpT gtP (biE lenP (consA (vR 6) nilA)) (cE (.int 0))) (cmpT gtP (callE fi__law_next [] (consA (mtA 0) (consA (cE (.int 3)) nilA))) (cE (.int 0)))) (seqS (setS 8 (opE ixP (opE ixP (vR 6) (callE fi__law_next [] (consA (mtA 0) (consA (biE minP (consA (cE (.int 30)) (consA (biE lenP (consA (vR 6) nilA)) nilA))) nilA)))) (cE (.int 1)))) nxS) nxS)
def kD : SF := (seqS (setS 13 (callE fi__law_spoilt [] (consA (vE 9) (consA (vE 6) (consA (vE 12) (consA (vE 5) (consA (vE 2) nilA))))))) (seqS (setS 14 (callE fi_shows_forced [] (consA (vE 4) (consA (vE 8) (consA (vE 13) (consA (biE tupleP (consA (vR 3) nilA)) nilA)))))) (seqS (ifS (notT (truT (isiE ["bool"] (vR 14)))) (seqS (retS (cE (.bl false))) nxS) nxS) (seqS (ifS (cmpT neP (vR 14) (callE fi__law_judged [] (consA (vE 1) (consA (vE 2) (consA (vE 8) (consA (vE 13) (consA (vE 3) nilA))))))) (seqS (retS (cE (.bl false))) nxS) nxS) (fun env st => .nx (killS [9, 12, 8, 13, 14] env) st)))))
def kindB : SF := (seqS (setS 12 (cE (.int 0))) (seqS kA (seqS (setS 8 (callE fi__law_next [] (consA (mtA 0) (consA (vE 2) nilA)))) (seqS kC kD))))
theorem papers_eq : g__law_papers_kept = (seqS (setS 4 (makeE "Table" fi_Table_init [] (consA (vE 2) (consA (biE listP (consA (vR 1) nilA)) nilA)))) (seqS (setS 5 (biE lenP (consA (vR 1) nilA))) (seqS (setS 6 (callE fi__law_drawn_order [] (consA (mtA 0) (consA (vE 1) (consA (vE 2) (consA (vE 3) nilA)))))) (seqS (setS 7 (fldE ["Forcing"] "order" (makeKE "Forcing" fi_Forcing_init 1 (consA (vE 4) nilA) (consA (biE listP (consA (vR 3) nilA)) nilA)))) (seqS (forS (rngA (consA (vE 2) nilA)) (nameG 8) outerB) (seqS (ifS (cmpT eqP (vR 2) (cE (.int 0))) (seqS (retS (cE (.bl true))) nxS) nxS) (seqS (forS (rngA (consA (cE (.int 15)) nilA)) (nameG 9) kindB) (seqS (retS (cmpE eqP (biE listP (consA (fldE ["Table"] "lines" (vR 4)) nilA)) (vR 1))) nxS)))))))) := rfl
abbrev kE (n : Nat) (ls : List (List Nat)) (out : List Nat) (os : List (Nat × Nat)) (fs : List PV) (s8 s9 s10 s11 s12 s13 s14 : Slot) : SEnv := [.mt, .sh (.lst (lines ls)), .sh (.int (n : Int)), .sh (.lst (nts out)), .sh (tb n ls), .sh (.int (ls.length : Nat)), .sh (.lst (prs os)), .sh (.tup fs), s8, s9, s10, s11, s12, s13, s14]
section
variable {n : Nat} {ls : List (List Nat)} (h : TabOk n ls) {out : List Nat} (hout : ∀ m ∈ out, m < n) (hnd : out.Nodup) (hoz : out.length ≤ sizeLine) {os : List (Nat × Nat)} {fs : List PV} (st : PV)
include h hout hnd hoz
theorem inner_step {j : Nat} (hj : j < n) {p : PV} (hp : PaperOk p) {due : Bool} (hd : showR ls (white0 n out) j p = due) : innerB (kE n ls out os fs (.sh (.int (j : Int))) .dead (.sh (.bl due)) (.sh p) .dead .dead .dead) st = .nx (kE n ls out os fs (.sh (.int (j : Int))) .dead (.sh (.bl due)) .dead .dead .dead .dead) st := by
  have c1 := c_shows h j hj out hout hnd hoz (.lst (nts out)) (.inl rfl) p hp st
  rw [hd] at c1
  have d1 : callE fi_shows_forced [] (consA (vE 4) (consA (vE 8) (consA (vE 11) (consA (biE listP (consA (vR 3) nilA)) nilA)))) (kE n ls out os fs (.sh (.int (j : Int))) .dead (.sh (.bl due)) (.sh p) .dead .dead .dead) st = .ok (.bl due) st :=
    call_ok (cons_ok (show vE 4 (kE n ls out os fs (.sh (.int (j : Int))) .dead (.sh (.bl due)) (.sh p) .dead .dead .dead) st = .ok (tb n ls) st from rfl) (cons_ok (show vE 8 (kE n ls out os fs (.sh (.int (j : Int))) .dead (.sh (.bl due)) (.sh p) .dead .dead .dead) st = .ok (.int (j : Int)) st from rfl) (cons_ok (show vE 11 (kE n ls out os fs (.sh (.int (j : Int))) .dead (.sh (.bl due)) (.sh p) .dead .dead .dead) st = .ok p st from rfl) (one_ok (bi_ok (one_ok (show vR 3 (kE n ls out os fs (.sh (.int (j : Int))) .dead (.sh (.bl due)) (.sh p) .dead .dead .dead) st = .ok (.lst (nts out)) st from rfl)) rfl))))) c1
  have k1 : isiP ["bool"] (.bl due) = some true := rfl
  have d2 : (orT (notT (truT (isiE ["bool"] (vR 14)))) (cmpT neP (vR 14) (vR 10))) (kE n ls out os fs (.sh (.int (j : Int))) .dead (.sh (.bl due)) (.sh p) .dead .dead (.sh (.bl due))) st = .ok false st := by
    simp [kE, k1, neP_bl]
  exact seq_nx (set_ok d1) (if_skip d2 rfl)
theorem outer_step {j : Nat} (hj : j < n) (hfs : ∀ q ∈ fs, pairOk q = true) (he : showR ls (white0 n out) j (.tup fs) = showR ls (white0 n out) j (.lst (prs os))) : outerB (kE n ls out os fs (.sh (.int (j : Int))) .dead .dead .dead .dead .dead .dead) st = .nx (kE n ls out os fs .dead .dead .dead .dead .dead .dead .dead) st := by
  have p1 := paper_lst (prs_ok os)
  have p2 := paper_tup (prs_ok os)
  have p3 := paper_tup hfs
  have c1 := c_judged h j hj out hout (.lst (prs os)) p1 st
  have e2 : showR ls (white0 n out) j (.tup (prs os)) = showR ls (white0 n out) j (.lst (prs os)) := rfl
  have d1 : callE fi__law_judged [] (consA (vE 1) (consA (vE 2) (consA (vE 8) (consA (vE 6) (consA (vE 3) nilA))))) (kE n ls out os fs (.sh (.int (j : Int))) .dead .dead .dead .dead .dead .dead) st = .ok (.bl (showR ls (white0 n out) j (.lst (prs os)))) st :=
    call_ok (ps := [.lst (lines ls), .int (n : Int), .int (j : Int), .lst (prs os), .lst (nts out)]) rfl c1
  have d2 : seqA (lstE (consA (biE listP (consA (vR 6) nilA)) (consA (biE tupleP (consA (vR 6) nilA)) (consA (vE 7) nilA)))) (kE n ls out os fs (.sh (.int (j : Int))) .dead (.sh (.bl (showR ls (white0 n out) j (.lst (prs os))))) .dead .dead .dead .dead) st = .ok [.lst (prs os), .tup (prs os), .tup fs] st := by
    simp [kE, listP, tupleP, s3, seqP]
  have i1 := inner_step h hout hnd hoz (os := os) (fs := fs) st hj p1 rfl
  have i2 := inner_step h hout hnd hoz (os := os) (fs := fs) st hj p2 e2
  have i3 := inner_step h hout hnd hoz (os := os) (fs := fs) st hj p3 he
  exact seq_nx (set_ok d1) (seq_nx (for_ok d2 (forL_nx rfl i1 (forL_nx rfl i2 (forL_nx rfl i3 rfl)))) rfl)
theorem outer_loop (hfs : ∀ q ∈ fs, pairOk q = true) (he : ∀ j, showR ls (white0 n out) j (.tup fs) = showR ls (white0 n out) j (.lst (prs os))) : ∀ js : List Nat, (∀ j ∈ js, j < n) → forL (nameG 8) outerB (nts js) (kE n ls out os fs .dead .dead .dead .dead .dead .dead .dead) st = .nx (kE n ls out os fs .dead .dead .dead .dead .dead .dead .dead) st
  | [], _ => rfl
  | j :: js, hj => forL_nx rfl (outer_step h hout hnd hoz st (hj j List.mem_cons_self) hfs (he j)) (outer_loop hfs he js fun k hk => hj k (List.mem_cons_of_mem _ hk))
theorem kind_step (hn0 : 0 < n) (hos : ∀ x ∈ os, x.1 < ls.length ∧ x.2 < n) (hzo : os.length ≤ 1000) {k : Nat} (hk : k < 15) {st : PV} (hS : SOk st) : ∃ st', SOk st' ∧ kindB (kE n ls out os fs .dead (.sh (.int (k : Int))) .dead .dead .dead .dead .dead) st = .nx (kE n ls out os fs .dead .dead .dead .dead .dead .dead .dead) st' := by
  have hlen : ∀ s8 s9 s10 s11 s12 s13 s14 st, biE lenP (consA (vR 6) nilA) (kE n ls out os fs s8 s9 s10 s11 s12 s13 s14) st = .ok (.int (os.length : Nat)) st := fun s8 s9 s10 s11 s12 s13 s14 st =>
    bi_ok (one_ok (show vR 6 (kE n ls out os fs s8 s9 s10 s11 s12 s13 s14) st = .ok (.lst (prs os)) st from rfl)) (by show some (PV.int ((prs os).length : Nat)) = _; rw [prs_length])
  have hgt : ∀ s8 s9 s10 s11 s12 s13 s14 st, cmpT gtP (biE lenP (consA (vR 6) nilA)) (cE (.int 0)) (kE n ls out os fs s8 s9 s10 s11 s12 s13 s14) st = .ok (decide (0 < os.length)) st := fun s8 s9 s10 s11 s12 s13 s14 st =>
    cmp_ok (hlen s8 s9 s10 s11 s12 s13 s14 st) (show cE (.int 0) (kE n ls out os fs s8 s9 s10 s11 s12 s13 s14) st = .ok (.int 0) st from rfl) (by
      show some (decide ((0 : Int) < ((os.length : Nat) : Int))) = _
      congr 1
      rw [decide_eq_decide]
      omega)
  -- the place to bend at
  have P1 : ∃ (a : Nat) (st1 : PV), SOk st1 ∧ (os = [] ∨ a < os.length) ∧ kA (kE n ls out os fs .dead (.sh (.int (k : Int))) .dead .dead (.sh (.int 0)) .dead .dead) st = .nx (kE n ls out os fs .dead (.sh (.int (k : Int))) .dead .dead (.sh (.int (a : Int))) .dead .dead) st1 := by
    by_cases h0 : 0 < os.length
    · obtain ⟨m, m1, m2, m3, m4⟩ := min30 h0
      obtain ⟨v, st1, g1, g2, g3⟩ := c_next hS (m : Int) (by omega)
      refine ⟨v, st1, g2, .inr (by omega), ?_⟩
      have hc := hgt .dead (.sh (.int (k : Int))) .dead .dead (.sh (.int 0)) .dead .dead st
      rw [decide_eq_true h0] at hc
      have d : callE fi__law_next [] (consA (mtA 0) (consA (biE minP (consA (cE (.int 30)) (consA (biE lenP (consA (vR 6) nilA)) nilA))) nilA)) (kE n ls out os fs .dead (.sh (.int (k : Int))) .dead .dead (.sh (.int 0)) .dead .dead) st = .ok (.int (v : Int)) st1 :=
        call_ok (cons_ok (show mtA 0 (kE n ls out os fs .dead (.sh (.int (k : Int))) .dead .dead (.sh (.int 0)) .dead .dead) st = .ok .non st from rfl) (one_ok (bi_ok (cons_ok (show cE (.int 30) (kE n ls out os fs .dead (.sh (.int (k : Int))) .dead .dead (.sh (.int 0)) .dead .dead) st = .ok (.int 30) st from rfl) (one_ok (hlen _ _ _ _ _ _ _ _))) m4))) g3
      exact if_ok hc (seq_nx (set_ok d) rfl)
    · refine ⟨0, st, hS, .inl (List.length_eq_zero_iff.mp (by omega)), ?_⟩
      have hc := hgt .dead (.sh (.int (k : Int))) .dead .dead (.sh (.int 0)) .dead .dead st
      rw [decide_eq_false h0] at hc
      exact if_ok hc rfl
  obtain ⟨a, st1, a1, a2, a3⟩ := P1
  obtain ⟨v, st2, b1, b2, b3⟩ := c_next a1 (n : Int) (by omega)
  have d8 : callE fi__law_next [] (consA (mtA 0) (consA (vE 2) nilA)) (kE n ls out os fs .dead (.sh (.int (k : Int))) .dead .dead (.sh (.int (a : Int))) .dead .dead) st1 = .ok (.int (v : Int)) st2 :=
    call_ok (ps := [.non, .int (n : Int)]) rfl b3
  -- the column
  have P2 : ∃ (c : Nat) (st3 : PV), SOk st3 ∧ c < n ∧ kC (kE n ls out os fs (.sh (.int (v : Int))) (.sh (.int (k : Int))) .dead .dead (.sh (.int (a : Int))) .dead .dead) st2 = .nx (kE n ls out os fs (.sh (.int (c : Int))) (.sh (.int (k : Int))) .dead .dead (.sh (.int (a : Int))) .dead .dead) st3 := by
    by_cases h0 : 0 < os.length
    · obtain ⟨u, st3, c1, c2, c3⟩ := c_next b2 3 (by decide)
      have hc := hgt (.sh (.int (v : Int))) (.sh (.int (k : Int))) .dead .dead (.sh (.int (a : Int))) .dead .dead st2
      rw [decide_eq_true h0] at hc
      have hc2 : cmpT gtP (callE fi__law_next [] (consA (mtA 0) (consA (cE (.int 3)) nilA))) (cE (.int 0)) (kE n ls out os fs (.sh (.int (v : Int))) (.sh (.int (k : Int))) .dead .dead (.sh (.int (a : Int))) .dead .dead) st2 = .ok (decide ((0 : Int) < (u : Int))) st3 :=
        cmp_ok (call_ok (ps := [.non, .int 3]) (st1 := st2) rfl c3) (show cE (.int 0) (kE n ls out os fs (.sh (.int (v : Int))) (.sh (.int (k : Int))) .dead .dead (.sh (.int (a : Int))) .dead .dead) st3 = .ok (.int 0) st3 from rfl) rfl
      have hand : andT (cmpT gtP (biE lenP (consA (vR 6) nilA)) (cE (.int 0))) (cmpT gtP (callE fi__law_next [] (consA (mtA 0) (consA (cE (.int 3)) nilA))) (cE (.int 0))) (kE n ls out os fs (.sh (.int (v : Int))) (.sh (.int (k : Int))) .dead .dead (.sh (.int (a : Int))) .dead .dead) st2 = .ok (decide ((0 : Int) < (u : Int))) st3 := by
        rw [andT_ap, hc, ER.bind_ok, if_pos rfl, hc2]
      by_cases hu : (0 : Int) < (u : Int)
      · rw [decide_eq_true hu] at hand
        obtain ⟨m, m1, m2, m3, m4⟩ := min30 h0
        obtain ⟨x, st4, g1, g2, g3⟩ := c_next c2 (m : Int) (by omega)
        obtain ⟨⟨r, c⟩, hx⟩ : ∃ y, os[x]? = some y := ⟨_, List.getElem?_eq_getElem (by omega)⟩
        refine ⟨c, st4, g2, (hos _ (List.mem_of_getElem? hx)).2, ?_⟩
        have d : callE fi__law_next [] (consA (mtA 0) (consA (biE minP (consA (cE (.int 30)) (consA (biE lenP (consA (vR 6) nilA)) nilA))) nilA)) (kE n ls out os fs (.sh (.int (v : Int))) (.sh (.int (k : Int))) .dead .dead (.sh (.int (a : Int))) .dead .dead) st3 = .ok (.int (x : Int)) st4 :=
          call_ok (cons_ok (show mtA 0 (kE n ls out os fs (.sh (.int (v : Int))) (.sh (.int (k : Int))) .dead .dead (.sh (.int (a : Int))) .dead .dead) st3 = .ok .non st3 from rfl) (one_ok (bi_ok (cons_ok (show cE (.int 30) (kE n ls out os fs (.sh (.int (v : Int))) (.sh (.int (k : Int))) .dead .dead (.sh (.int (a : Int))) .dead .dead) st3 = .ok (.int 30) st3 from rfl) (one_ok (hlen _ _ _ _ _ _ _ _))) m4))) g3
        exact if_ok hand (seq_nx (set_ok (op_ok (op_ok (show vR 6 (kE n ls out os fs (.sh (.int (v : Int))) (.sh (.int (k : Int))) .dead .dead (.sh (.int (a : Int))) .dead .dead) st3 = .ok (.lst (prs os)) st3 from rfl) d (ix_prs hx)) (show cE (.int 1) (kE n ls out os fs (.sh (.int (v : Int))) (.sh (.int (k : Int))) .dead .dead (.sh (.int (a : Int))) .dead .dead) st4 = .ok (.int 1) st4 from rfl) (show ixP (.tup [.int (r : Int), .int (c : Int)]) (.int 1) = some (.int (c : Int)) from rfl))) rfl)
      · rw [decide_eq_false hu] at hand
        exact ⟨v, st3, c2, by omega, if_ok hand rfl⟩
    · refine ⟨v, st2, b2, by omega, ?_⟩
      have hc := hgt (.sh (.int (v : Int))) (.sh (.int (k : Int))) .dead .dead (.sh (.int (a : Int))) .dead .dead st2
      rw [decide_eq_false h0] at hc
      have hand : andT (cmpT gtP (biE lenP (consA (vR 6) nilA)) (cE (.int 0))) (cmpT gtP (callE fi__law_next [] (consA (mtA 0) (consA (cE (.int 3)) nilA))) (cE (.int 0))) (kE n ls out os fs (.sh (.int (v : Int))) (.sh (.int (k : Int))) .dead .dead (.sh (.int (a : Int))) .dead .dead) st2 = .ok false st2 := by
        rw [andT_ap, hc, ER.bind_ok]; rfl
      exact if_ok hand rfl
  obtain ⟨c, st3, c1, c2, c3⟩ := P2
  obtain ⟨p, p1, p2⟩ := c_spoilt k hk os hzo a ls.length n hn0 a2 (fun x hx => (hos x hx).1) st3
  have q1 := c_shows h c c2 out hout hnd hoz (.tup (nts out)) (.inr rfl) p p1 st3
  have q2 := c_judged h c c2 out hout p p1 st3
  refine ⟨st3, c1, ?_⟩
  have d13 : callE fi__law_spoilt [] (consA (vE 9) (consA (vE 6) (consA (vE 12) (consA (vE 5) (consA (vE 2) nilA))))) (kE n ls out os fs (.sh (.int (c : Int))) (.sh (.int (k : Int))) .dead .dead (.sh (.int (a : Int))) .dead .dead) st3 = .ok p st3 :=
    call_ok (ps := [.int (k : Int), .lst (prs os), .int (a : Int), .int (ls.length : Nat), .int (n : Int)]) (st1 := st3) rfl p2
  have d14 : callE fi_shows_forced [] (consA (vE 4) (consA (vE 8) (consA (vE 13) (consA (biE tupleP (consA (vR 3) nilA)) nilA)))) (kE n ls out os fs (.sh (.int (c : Int))) (.sh (.int (k : Int))) .dead .dead (.sh (.int (a : Int))) (.sh p) .dead) st3 = .ok (.bl (showR ls (white0 n out) c p)) st3 :=
    call_ok (ps := [tb n ls, .int (c : Int), p, .tup (nts out)]) (st1 := st3) rfl q1
  have d15 : notT (truT (isiE ["bool"] (vR 14))) (kE n ls out os fs (.sh (.int (c : Int))) (.sh (.int (k : Int))) .dead .dead (.sh (.int (a : Int))) (.sh p) (.sh (.bl (showR ls (white0 n out) c p)))) st3 = .ok false st3 := by
    have k1 : ∀ b, isiP ["bool"] (.bl b) = some true := fun _ => rfl
    simp [kE, k1]
  have d16 : cmpT neP (vR 14) (callE fi__law_judged [] (consA (vE 1) (consA (vE 2) (consA (vE 8) (consA (vE 13) (consA (vE 3) nilA)))))) (kE n ls out os fs (.sh (.int (c : Int))) (.sh (.int (k : Int))) .dead .dead (.sh (.int (a : Int))) (.sh p) (.sh (.bl (showR ls (white0 n out) c p)))) st3 = .ok false st3 :=
    cmp_ok (show vR 14 (kE n ls out os fs (.sh (.int (c : Int))) (.sh (.int (k : Int))) .dead .dead (.sh (.int (a : Int))) (.sh p) (.sh (.bl (showR ls (white0 n out) c p)))) st3 = .ok (.bl (showR ls (white0 n out) c p)) st3 from rfl) (call_ok (ps := [.lst (lines ls), .int (n : Int), .int (c : Int), p, .lst (nts out)]) (st1 := st3) rfl q2) (by rw [neP_bl]; simp)
  exact seq_nx (set_ok (show cE (.int 0) _ st = .ok (.int 0) st from rfl)) (seq_nx a3 (seq_nx (set_ok d8) (seq_nx c3 (seq_nx (set_ok d13) (seq_nx (set_ok d14) (if_skip d15 (if_skip d16 rfl)))))))
theorem kind_loop (hn0 : 0 < n) (hos : ∀ x ∈ os, x.1 < ls.length ∧ x.2 < n) (hzo : os.length ≤ 1000) : ∀ (ks : List Nat) (st : PV), (∀ k ∈ ks, k < 15) → SOk st → ∃ st', SOk st' ∧ forL (nameG 9) kindB (nts ks) (kE n ls out os fs .dead .dead .dead .dead .dead .dead .dead) st = .nx (kE n ls out os fs .dead .dead .dead .dead .dead .dead .dead) st'
  | [], st, _, hS => ⟨st, hS, rfl⟩
  | k :: ks, st, hk, hS => by
    obtain ⟨st1, h1, h2⟩ := kind_step h hout hnd hoz (os := os) (fs := fs) hn0 hos hzo (hk k List.mem_cons_self) hS
    obtain ⟨st2, h3, h4⟩ := kind_loop hn0 hos hzo ks st1 (fun j hj => hk j (List.mem_cons_of_mem _ hj)) h1
    exact ⟨st2, h3, forL_nx rfl h2 h4⟩
end
theorem c_papers {n : Nat} {ls : List (List Nat)} (h : TabOk n ls) (h90 : n ≤ 90) {out : List Nat} (hout : ∀ m ∈ out, m < n) (hnd : out.Nodup) (hoz : out.length ≤ sizeLine) {st : PV} (hS : SOk st) :
    ∃ st', SOk st' ∧ callK fi__law_papers_kept [.non, .lst (lines ls), .int (n : Int), .lst (nts out)] st = .ok (.bl true) st' := by
  have hs : sizeLine = 16777216 := sizeLine_eq
  obtain ⟨os, w1, st1, a1, a2, a3, a4, a5, a6, a7⟩ := c_drawn h out hout hS
  obtain ⟨fs, wl, w2, b1, b2, b3, b4⟩ := mk_forcing h h90 out hout hnd hoz st1
  have hwl := whl_len n (white0 n out)
  have he : ∀ j, showR ls (white0 n out) j (.tup fs) = showR ls (white0 n out) j (.lst (prs os)) := fun j => by
    rw [showR_seq (w1 := w2) rfl b2, showR_seq (w1 := w1) (qs := prs os) rfl a3, conf_eq b2 a3 b3 (able_stuck h a6) j]
  have d4 : makeE "Table" fi_Table_init [] (consA (vE 2) (consA (biE listP (consA (vR 1) nilA)) nilA)) [.mt, .sh (.lst (lines ls)), .sh (.int (n : Int)), .sh (.lst (nts out)), .dead, .dead, .dead, .dead, .dead, .dead, .dead, .dead, .dead, .dead, .dead] st = .ok (tb n ls) st := by
    rw [makeE_ap, cons_ok (show vE 2 [.mt, .sh (.lst (lines ls)), .sh (.int (n : Int)), .sh (.lst (nts out)), .dead, .dead, .dead, .dead, .dead, .dead, .dead, .dead, .dead, .dead, .dead] st = .ok (.int (n : Int)) st from rfl) (one_ok (bi_ok (one_ok (show vR 1 [.mt, .sh (.lst (lines ls)), .sh (.int (n : Int)), .sh (.lst (nts out)), .dead, .dead, .dead, .dead, .dead, .dead, .dead, .dead, .dead, .dead, .dead] st = .ok (.lst (lines ls)) st from rfl)) (show listP [.lst (lines ls)] = some (.lst (lines ls)) from rfl))), ER.bind_ok]
    exact mk_table n ls st h.1 h.2.1 h.2.2
  have d5 : biE lenP (consA (vR 1) nilA) [.mt, .sh (.lst (lines ls)), .sh (.int (n : Int)), .sh (.lst (nts out)), .sh (tb n ls), .dead, .dead, .dead, .dead, .dead, .dead, .dead, .dead, .dead, .dead] st = .ok (.int (ls.length : Nat)) st :=
    bi_ok (one_ok (show vR 1 [.mt, .sh (.lst (lines ls)), .sh (.int (n : Int)), .sh (.lst (nts out)), .sh (tb n ls), .dead, .dead, .dead, .dead, .dead, .dead, .dead, .dead, .dead, .dead] st = .ok (.lst (lines ls)) st from rfl)) (by show some (PV.int ((lines ls).length : Nat)) = _; rw [lines_length])
  have d6 : callE fi__law_drawn_order [] (consA (mtA 0) (consA (vE 1) (consA (vE 2) (consA (vE 3) nilA)))) [.mt, .sh (.lst (lines ls)), .sh (.int (n : Int)), .sh (.lst (nts out)), .sh (tb n ls), .sh (.int (ls.length : Nat)), .dead, .dead, .dead, .dead, .dead, .dead, .dead, .dead, .dead] st = .ok (.lst (prs os)) st1 :=
    call_ok (ps := [.non, .lst (lines ls), .int (n : Int), .lst (nts out)]) (st1 := st) rfl a7
  have d7 : fldE ["Forcing"] "order" (makeKE "Forcing" fi_Forcing_init 1 (consA (vE 4) nilA) (consA (biE listP (consA (vR 3) nilA)) nilA)) [.mt, .sh (.lst (lines ls)), .sh (.int (n : Int)), .sh (.lst (nts out)), .sh (tb n ls), .sh (.int (ls.length : Nat)), .sh (.lst (prs os)), .dead, .dead, .dead, .dead, .dead, .dead, .dead, .dead] st1 = .ok (.tup fs) st1 := by
    have e : makeKE "Forcing" fi_Forcing_init 1 (consA (vE 4) nilA) (consA (biE listP (consA (vR 3) nilA)) nilA) [.mt, .sh (.lst (lines ls)), .sh (.int (n : Int)), .sh (.lst (nts out)), .sh (tb n ls), .sh (.int (ls.length : Nat)), .sh (.lst (prs os)), .dead, .dead, .dead, .dead, .dead, .dead, .dead, .dead] st1 = .ok (frc (tb n ls) fs wl) st1 := by
      rw [makeKE_ap, one_ok (show vE 4 [.mt, .sh (.lst (lines ls)), .sh (.int (n : Int)), .sh (.lst (nts out)), .sh (tb n ls), .sh (.int (ls.length : Nat)), .sh (.lst (prs os)), .dead, .dead, .dead, .dead, .dead, .dead, .dead, .dead] st1 = .ok (tb n ls) st1 from rfl), ER.bind_ok, one_ok (bi_ok (one_ok (show vR 3 [.mt, .sh (.lst (lines ls)), .sh (.int (n : Int)), .sh (.lst (nts out)), .sh (tb n ls), .sh (.int (ls.length : Nat)), .sh (.lst (prs os)), .dead, .dead, .dead, .dead, .dead, .dead, .dead, .dead] st1 = .ok (.lst (nts out)) st1 from rfl)) (show listP [.lst (nts out)] = some (.lst (nts out)) from rfl)), ER.bind_ok]
      exact (if_pos rfl).trans b4
    rw [fldE_ap, e, ER.bind_ok, fld_order]
  have d8 : rngA (consA (vE 2) nilA) (kE n ls out os fs .dead .dead .dead .dead .dead .dead .dead) st1 = .ok (nts (List.range n)) st1 :=
    rng_ok (one_ok (show vE 2 (kE n ls out os fs .dead .dead .dead .dead .dead .dead .dead) st1 = .ok (.int (n : Int)) st1 from rfl)) (rngP_nat (by omega))
  have e8 := outer_loop h hout hnd hoz (os := os) (fs := fs) st1 b1 he (List.range n) (fun j hj => List.mem_range.mp hj)
  by_cases hn0 : n = 0
  · refine ⟨st1, a1, ?_⟩
    rw [callK_mu]
    refine sem_ok (env1 := kE n ls out os fs .dead .dead .dead .dead .dead .dead .dead) ?_ (fun _ => rfl)
    rw [papers_eq]
    have d9 : cmpT eqP (vR 2) (cE (.int 0)) (kE n ls out os fs .dead .dead .dead .dead .dead .dead .dead) st1 = .ok true st1 :=
      cmp_ok (a := .int (n : Int)) (b := .int 0) (st1 := st1) rfl rfl (by rw [eqP_int, hn0]; rfl)
    exact seq_nx (set_ok d4) (seq_nx (set_ok d5) (seq_nx (set_ok d6) (seq_nx (set_ok d7) (seq_nx (for_ok d8 e8) (if_hit d9 rfl)))))
  · obtain ⟨st2, k1, k2⟩ := kind_loop h hout hnd hoz (os := os) (fs := fs) (by omega) a2 (by omega) (List.range 15) st1 (fun k hk => List.mem_range.mp hk) a1
    refine ⟨st2, k1, ?_⟩
    rw [callK_mu]
    refine sem_ok (env1 := kE n ls out os fs .dead .dead .dead .dead .dead .dead .dead) ?_ (fun _ => rfl)
    rw [papers_eq]
    have d9 : cmpT eqP (vR 2) (cE (.int 0)) (kE n ls out os fs .dead .dead .dead .dead .dead .dead .dead) st1 = .ok false st1 :=
      cmp_ok (a := .int (n : Int)) (b := .int 0) (st1 := st1) rfl rfl (by rw [eqP_int, show ((n : Int) == 0) = false from by simpa using hn0])
    have d10 : rngA (consA (cE (.int 15)) nilA) (kE n ls out os fs .dead .dead .dead .dead .dead .dead .dead) st1 = .ok (nts (List.range 15)) st1 :=
      rng_ok (one_ok (show cE (.int 15) (kE n ls out os fs .dead .dead .dead .dead .dead .dead .dead) st1 = .ok (.int 15) st1 from rfl)) (rngP_lit 15 (by decide))
    have d11 : cmpE eqP (biE listP (consA (fldE ["Table"] "lines" (vR 4)) nilA)) (vR 1) (kE n ls out os fs .dead .dead .dead .dead .dead .dead .dead) st2 = .ok (.bl true) st2 := by
      have t1 : fldE ["Table"] "lines" (vR 4) (kE n ls out os fs .dead .dead .dead .dead .dead .dead .dead) st2 = .ok (.tup (lines ls)) st2 := by
        rw [fldE_ap, show vR 4 (kE n ls out os fs .dead .dead .dead .dead .dead .dead .dead) st2 = .ok (tb n ls) st2 from rfl, ER.bind_ok, fld_lines]
        rfl
      rw [cmpE_ap]
      exact op_ok (bi_ok (one_ok t1) (show listP [.tup (lines ls)] = some (.lst (lines ls)) from rfl)) (show vR 1 (kE n ls out os fs .dead .dead .dead .dead .dead .dead .dead) st2 = .ok (.lst (lines ls)) st2 from rfl) (by rw [eq_lines h.2.2]; rfl)
    exact seq_nx (set_ok d4) (seq_nx (set_ok d5) (seq_nx (set_ok d6) (seq_nx (set_ok d7) (seq_nx (for_ok d8 e8) (if_skip d9 (seq_nx (for_ok d10 k2) (seq_ret (ret_ok d11))))))))
end KI.K10

/-! part P10z -/
set_option Elab.async false
set_option linter.all false
set_option maxRecDepth 100000
set_option maxHeartbeats 2000000
namespace KI.K10
open PySem PySem.Spec PyProof.Rows L2 KI
/-! ## refusals -/
def tg (x : Str) (i : Int) : PV := .tup [.str x, .int i]
def tryB : SF := (seqS (fun env st => liftS ((callE fi_shows_forced [] (consA (vE 0) (consA (vE 1) (consA (vE 2) (consA (vE 3) nilA))))) env st) env fun _ st2 => .nx env st2) nxS)
def hLot : SF := (seqS (setS 4 (tupE (consA (cE (.str "lot")) (consA (xfE 5 ["BadLot"] "place") nilA)))) nxS)
def hPlace : SF := (seqS (setS 4 (tupE (consA (cE (.str "place")) (consA (xfE 6 ["NoPlace"] "place") nilA)))) nxS)
theorem refusal_eq : g__law_refusal = (seqS (setS 4 (tupE (consA (cE (.str "let")) (consA (cE (.int 0)) nilA)))) (seqS (tryS exmT tryB [("BadLot", some 5, hLot), ("NoPlace", some 6, hPlace)]) (seqS (retS (vE 4)) nxS))) := rfl
theorem x_ll : exmT "BadLot" "BadLot" = some true := by decide +kernel
theorem x_pl : exmT "NoPlace" "BadLot" = some false := by decide +kernel
theorem x_pp : exmT "NoPlace" "NoPlace" = some true := by decide +kernel
abbrev rE (t c o l : PV) (s4 s5 s6 : Slot) : SEnv := [.sh t, .sh c, .sh o, .sh l, s4, s5, s6]
theorem let_ok (t c o l : PV) (st : PV) : tupE (consA (cE (.str "let")) (consA (cE (.int 0)) nilA)) (rE t c o l .dead .dead .dead) st = .ok (tg "let" 0) st := by
  simp [s2, tg]
theorem c_refusal_let (t c o l : PV) (b : PV) (h : callK fi_shows_forced [t, c, o, l] .non = .ok b .non) (st : PV) : callK fi__law_refusal [t, c, o, l] st = .ok (tg "let" 0) st := by
  have e : fi__law_refusal.sem [t, c, o, l] .non = .ok (tg "let" 0) .non := by
    refine sem_ok (env1 := rE t c o l (.sh (tg "let" 0)) .dead .dead) ?_ (fun h => by cases h)
    rw [refusal_eq]
    refine seq_nx (set_ok (let_ok t c o l .non)) (seq_nx ?_ (seq_ret (ret_ok rfl)))
    have d : callE fi_shows_forced [] (consA (vE 0) (consA (vE 1) (consA (vE 2) (consA (vE 3) nilA)))) (rE t c o l (.sh (tg "let" 0)) .dead .dead) .non = .ok b .non := call_ok (ps := [t, c, o, l]) (st1 := .non) rfl h
    have d2 : tryB (rE t c o l (.sh (tg "let" 0)) .dead .dead) .non = .nx (rE t c o l (.sh (tg "let" 0)) .dead .dead) .non := by
      unfold tryB
      refine seq_nx (env' := rE t c o l (.sh (tg "let" 0)) .dead .dead) (st' := .non) ?_ rfl
      show liftS _ _ _ = _
      rw [d]
      rfl
    show tryS exmT tryB _ (rE t c o l (.sh (tg "let" 0)) .dead .dead) .non = _
    rw [tryS_ap, d2]
  rw [callK_val, e]
theorem c_refusal_lot (t c o l : PV) (i : Int) (h : callK fi_shows_forced [t, c, o, l] .non = .exc "BadLot" ["place"] [.int i] .non) (st : PV) : callK fi__law_refusal [t, c, o, l] st = .ok (tg "lot" i) st := by
  have e : fi__law_refusal.sem [t, c, o, l] .non = .ok (tg "lot" i) .non := by
    refine sem_ok (env1 := rE t c o l (.sh (tg "lot" i)) .dead .dead) ?_ (fun h => by cases h)
    rw [refusal_eq]
    refine seq_nx (set_ok (let_ok t c o l .non)) (seq_nx ?_ (seq_ret (ret_ok rfl)))
    have d : callE fi_shows_forced [] (consA (vE 0) (consA (vE 1) (consA (vE 2) (consA (vE 3) nilA)))) (rE t c o l (.sh (tg "let" 0)) .dead .dead) .non = .exc "BadLot" ["place"] [.int i] .non := call_ok (ps := [t, c, o, l]) (st1 := .non) rfl h
    have d2 : tryB (rE t c o l (.sh (tg "let" 0)) .dead .dead) .non = .exc "BadLot" ["place"] [.int i] (rE t c o l (.sh (tg "let" 0)) .dead .dead) .non := by
      unfold tryB
      refine seq_exc ?_
      show liftS _ _ _ = _
      rw [d]
      rfl
    have d3 : tupE (consA (cE (.str "lot")) (consA (xfE 5 ["BadLot"] "place") nilA)) (rE t c o l (.sh (tg "let" 0)) (.exc "BadLot" ["place"] [.int i]) .dead) .non = .ok (tg "lot" i) .non := by
      have k : ([("place" : Str)].zip [PV.int i]).lookup ("place" : Str) = some (.int i) := by simp
      simp [s2, tg]
    have d4 : hLot (rE t c o l (.sh (tg "let" 0)) (.exc "BadLot" ["place"] [.int i]) .dead) .non = .nx (rE t c o l (.sh (tg "lot" i)) (.exc "BadLot" ["place"] [.int i]) .dead) .non := seq_nx (set_ok d3) rfl
    show tryS exmT tryB _ (rE t c o l (.sh (tg "let" 0)) .dead .dead) .non = _
    rw [tryS_ap, d2]
    show handS exmT [("BadLot", some 5, hLot), ("NoPlace", some 6, hPlace)] "BadLot" ["place"] [.int i] (rE t c o l (.sh (tg "let" 0)) .dead .dead) .non = _
    unfold handS
    rw [x_ll]
    dsimp only
    rw [if_pos (show noX ((rE t c o l (.sh (tg "let" 0)) .dead .dead).set 5 .dead) = true from rfl)]
    show goneS 5 (hLot (rE t c o l (.sh (tg "let" 0)) (.exc "BadLot" ["place"] [.int i]) .dead) .non) = _
    rw [d4]
    rfl
  rw [callK_val, e]
theorem c_refusal_place (t c o l : PV) (i : Int) (h : callK fi_shows_forced [t, c, o, l] .non = .exc "NoPlace" ["place"] [.int i] .non) (st : PV) : callK fi__law_refusal [t, c, o, l] st = .ok (tg "place" i) st := by
  have e : fi__law_refusal.sem [t, c, o, l] .non = .ok (tg "place" i) .non := by
    refine sem_ok (env1 := rE t c o l (.sh (tg "place" i)) .dead .dead) ?_ (fun h => by cases h)
    rw [refusal_eq]
    refine seq_nx (set_ok (let_ok t c o l .non)) (seq_nx ?_ (seq_ret (ret_ok rfl)))
    have d : callE fi_shows_forced [] (consA (vE 0) (consA (vE 1) (consA (vE 2) (consA (vE 3) nilA)))) (rE t c o l (.sh (tg "let" 0)) .dead .dead) .non = .exc "NoPlace" ["place"] [.int i] .non := call_ok (ps := [t, c, o, l]) (st1 := .non) rfl h
    have d2 : tryB (rE t c o l (.sh (tg "let" 0)) .dead .dead) .non = .exc "NoPlace" ["place"] [.int i] (rE t c o l (.sh (tg "let" 0)) .dead .dead) .non := by
      unfold tryB
      refine seq_exc ?_
      show liftS _ _ _ = _
      rw [d]
      rfl
    have d3 : tupE (consA (cE (.str "place")) (consA (xfE 6 ["NoPlace"] "place") nilA)) (rE t c o l (.sh (tg "let" 0)) .dead (.exc "NoPlace" ["place"] [.int i])) .non = .ok (tg "place" i) .non := by
      have k : ([("place" : Str)].zip [PV.int i]).lookup ("place" : Str) = some (.int i) := by simp
      simp [s2, tg]
    have d4 : hPlace (rE t c o l (.sh (tg "let" 0)) .dead (.exc "NoPlace" ["place"] [.int i])) .non = .nx (rE t c o l (.sh (tg "place" i)) .dead (.exc "NoPlace" ["place"] [.int i])) .non := seq_nx (set_ok d3) rfl
    show tryS exmT tryB _ (rE t c o l (.sh (tg "let" 0)) .dead .dead) .non = _
    rw [tryS_ap, d2]
    show handS exmT [("BadLot", some 5, hLot), ("NoPlace", some 6, hPlace)] "NoPlace" ["place"] [.int i] (rE t c o l (.sh (tg "let" 0)) .dead .dead) .non = _
    unfold handS
    rw [x_pl]
    dsimp only
    unfold handS
    rw [x_pp]
    dsimp only
    rw [if_pos (show noX ((rE t c o l (.sh (tg "let" 0)) .dead .dead).set 6 .dead) = true from rfl)]
    show goneS 6 (hPlace (rE t c o l (.sh (tg "let" 0)) .dead (.exc "NoPlace" ["place"] [.int i])) .non) = _
    rw [d4]
    rfl
  rw [callK_val, e]
theorem ne_self {x : Str} (i : Int) (hx : PyData.strOk x = true) : neP (tg x i) (tg x i) = some false := by
  have h4 : okD (tg x i) = true := by
    unfold okD SeqAt.shaped tg
    simp [toD, toDs, PyData.canLay0, PyData.canLayAll0, PyData.depth, PyData.depthAll, hx]
  unfold neP
  rw [if_pos ⟨h4, h4⟩]
  unfold eqB
  rw [SeqAt.eqv_refl _ (okD_lay h4)]
  rfl
theorem t_place (i : Int) : neP (tg "place" i) (tg "place" i) = some false := ne_self i (by decide +kernel)
theorem t_lot (i : Int) : neP (tg "lot" i) (tg "lot" i) = some false := ne_self i (by decide +kernel)
theorem t_let (i : Int) : neP (tg "let" i) (tg "let" i) = some false := ne_self i (by decide +kernel)
end KI.K10

/-! part P10za -/
set_option Elab.async false
set_option linter.all false
set_option maxRecDepth 100000
set_option maxHeartbeats 2000000
namespace KI.K10
open PySem PySem.Spec PyProof.Rows L2 KI
def r1 : SF → SF := seqS (ifS (cmpT neP (callE fi__law_refusal [] (consA (vE 3) (consA (vE 5) (consA (vE 8) (consA (lstE (consA (vE 7) (consA (vE 7) nilA))) nilA))))) (tupE (consA (cE (.str "place")) (consA (vE 6) nilA)))) (seqS (retS (cE (.bl false))) nxS) nxS)
def r2 : SF → SF := seqS (ifS (cmpT neP (callE fi__law_refusal [] (consA (vE 3) (consA (vE 7) (consA (vE 8) (consA (lstE (consA (vE 7) (consA (vE 7) nilA))) nilA))))) (tupE (consA (cE (.str "lot")) (consA (cE (.int 1)) nilA)))) (seqS (retS (cE (.bl false))) nxS) nxS)
def r3 : SF → SF := seqS (ifS (cmpT neP (callE fi__law_refusal [] (consA (vE 3) (consA (vE 7) (consA (vE 8) (consA (lstE (consA (vE 1) nilA)) nilA))))) (tupE (consA (cE (.str "lot")) (consA (cE (.int 0)) nilA)))) (seqS (retS (cE (.bl false))) nxS) nxS)
def r4 : SF → SF := seqS (ifS (cmpT neP (callE fi__law_refusal [] (consA (vE 3) (consA (vE 7) (consA (vE 8) (consA (cE .non) nilA))))) (tupE (consA (cE (.str "lot")) (consA (negE (cE (.int 1))) nilA)))) (seqS (retS (cE (.bl false))) nxS) nxS)
def r5 : SF → SF := seqS (ifS (cmpT neP (callE fi__law_refusal [] (consA (vE 3) (consA (vE 7) (consA (vE 8) (consA (lstE (consA (vE 7) nilA)) nilA))))) (tupE (consA (cE (.str "let")) (consA (cE (.int 0)) nilA)))) (seqS (retS (cE (.bl false))) nxS) nxS)
def refB : SF := r1 (r2 (r3 (r4 (r5 (fun env st => .nx (killS [8] env) st)))))
theorem kept_eq : g__law_refusals_kept = (seqS (setS 3 (makeE "Table" fi_Table_init [] (consA (vE 1) (consA (biE listP (consA (vR 2) nilA)) nilA)))) (seqS (setS 4 (callE fi__law_next [] (consA (mtA 0) (consA (cE (.int 5)) nilA)))) (seqS (setS 5 (opE ixP (lstE (consA (vE 1) (consA (negE (cE (.int 1))) (consA (cE .non) (consA (cE (.bl false)) (consA (opE powP (cE (.int 10)) (cE (.int 25))) nilA)))))) (vR 4))) (seqS (setS 6 (opE ixP (lstE (consA (vE 1) (consA (negE (cE (.int 1))) (consA (cE (.int 0)) (consA (cE (.int 0)) (consA (opE powP (cE (.int 10)) (cE (.int 25))) nilA)))))) (vR 4))) (seqS (setS 7 (callE fi__law_next [] (consA (mtA 0) (consA (vE 1) nilA)))) (seqS (forS (seqA (lstE (consA (cE .non) (consA (lstE nilA) (consA (lstE (consA (tupE (consA (cE (.int 0)) (consA (cE (.int 0)) nilA))) nilA)) nilA))))) (nameG 8) refB) (seqS (retS (cE (.bl true))) nxS))))))) := rfl
abbrev qE (n : Nat) (ls : List (List Nat)) (kind col : PV) (p : Int) (i : Nat) (s8 : Slot) : SEnv := [.mt, .sh (.int (n : Int)), .sh (.lst (lines ls)), .sh (tb n ls), .sh kind, .sh col, .sh (.int p), .sh (.int (i : Int)), s8]
theorem lot_two {n i : Nat} (hi : i < n) : fi_lot_of.sem [.lst [.int (i : Int), .int (i : Int)], .int (n : Int)] .non = .exc "BadLot" ["place"] [.int 1] .non := by
  have e := s_lot_of (.lst [.int (i : Int), .int (i : Int)]) (n : Int) [(i : Int), (i : Int)] (.inl rfl) s2
  rw [e]
  have e2 : lotBad (n : Int) 0 [] [(i : Int), (i : Int)] = some 1 := by
    unfold lotBad
    rw [if_neg (by simp; omega)]
    unfold lotBad
    rw [if_pos (by simp)]
  unfold lotR
  rw [e2]
  rfl
theorem lot_far {n : Nat} : fi_lot_of.sem [.lst [.int (n : Int)], .int (n : Int)] .non = .exc "BadLot" ["place"] [.int 0] .non := by
  have e := s_lot_of (.lst [.int (n : Int)]) (n : Int) [(n : Int)] (.inl rfl) s1
  rw [e]
  have e2 : lotBad (n : Int) 0 [] [(n : Int)] = some 0 := by
    unfold lotBad
    rw [if_pos (.inr (.inl (Int.le_refl _)))]
  unfold lotR
  rw [e2]
  rfl
theorem call_exc {fi : FnI} {ps : List PV} {st : PV} {c : Str} {ns : List Str} {qs : List PV} (h : fi.sem ps .non = .exc c ns qs .non) (hm : fi.ms.any isMut = false := by rfl) : callK fi ps st = .exc c ns qs st := by
  rw [callK_val hm, h]
theorem ref_step {n : Nat} {ls : List (List Nat)} (h : TabOk n ls) (kind col : PV) (p : Int) (i : Nat) (hi : i < n) (hc : notIns col = true) (hb : borOk col = true) (hp : placeR col (n : Int) = .exc "NoPlace" ["place"] [.int p] .non) (o : PV) (ho : PaperOk o) (st : PV) :
    refB (qE n ls kind col p i (.sh o)) st = .nx (qE n ls kind col p i .dead) st := by
  have f1 := c_refusal_place (tb n ls) col o (.lst [.int (i : Int), .int (i : Int)]) p (call_exc (s_shows_place col o _ hc hb hp)) st
  have f2 := c_refusal_lot (tb n ls) (.int (i : Int)) o (.lst [.int (i : Int), .int (i : Int)]) 1 (call_exc (s_shows_lot i hi o _ (lot_two hi))) st
  have f3 := c_refusal_lot (tb n ls) (.int (i : Int)) o (.lst [.int (n : Int)]) 0 (call_exc (s_shows_lot i hi o _ lot_far)) st
  have f4 := c_refusal_lot (tb n ls) (.int (i : Int)) o .non (-1) (call_exc (s_shows_lot i hi o _ (s_lot_non _))) st
  have f5 := c_refusal_let (tb n ls) (.int (i : Int)) o (.lst [.int (i : Int)]) _ (c_shows h i hi [i] (fun m hm => by rw [List.mem_singleton.mp hm]; exact hi) (by simp) s1 (.lst (nts [i])) (.inl rfl) o ho .non) st
  have v7 : vE 7 (qE n ls kind col p i (.sh o)) st = .ok (.int (i : Int)) st := rfl
  have v3 : vE 3 (qE n ls kind col p i (.sh o)) st = .ok (tb n ls) st := rfl
  have v8 : vE 8 (qE n ls kind col p i (.sh o)) st = .ok o st := rfl
  have l2 : lstE (consA (vE 7) (consA (vE 7) nilA)) (qE n ls kind col p i (.sh o)) st = .ok (.lst [.int (i : Int), .int (i : Int)]) st := by
    rw [lstE_ap, cons_ok v7 (one_ok v7), ER.bind_ok]; exact if_pos s2
  have l1 : lstE (consA (vE 7) nilA) (qE n ls kind col p i (.sh o)) st = .ok (.lst [.int (i : Int)]) st := by
    rw [lstE_ap, one_ok v7, ER.bind_ok]; exact if_pos s1
  have ln1 : lstE (consA (vE 1) nilA) (qE n ls kind col p i (.sh o)) st = .ok (.lst [.int (n : Int)]) st := by
    rw [lstE_ap, one_ok (show vE 1 (qE n ls kind col p i (.sh o)) st = .ok (.int (n : Int)) st from rfl), ER.bind_ok]; exact if_pos s1
  have tk : ∀ (x : Str) (f : EF) (k : Int), f (qE n ls kind col p i (.sh o)) st = .ok (.int k) st → tupE (consA (cE (.str x)) (consA f nilA)) (qE n ls kind col p i (.sh o)) st = .ok (tg x k) st := fun x f k hf => by
    rw [tupE_ap, cons_ok (show cE (.str x) (qE n ls kind col p i (.sh o)) st = .ok (.str x) st from rfl) (one_ok hf), ER.bind_ok]; exact if_pos s2
  have g1 := cmp_ok (g := neP) (call_ok (fi := fi__law_refusal) (dps := []) (cons_ok v3 (cons_ok (show vE 5 (qE n ls kind col p i (.sh o)) st = .ok col st from rfl) (cons_ok v8 (one_ok l2)))) f1) (tk "place" (vE 6) p rfl) (t_place p)
  have g2 := cmp_ok (g := neP) (call_ok (fi := fi__law_refusal) (dps := []) (cons_ok v3 (cons_ok v7 (cons_ok v8 (one_ok l2)))) f2) (tk "lot" (cE (.int 1)) 1 rfl) (t_lot 1)
  have g3 := cmp_ok (g := neP) (call_ok (fi := fi__law_refusal) (dps := []) (cons_ok v3 (cons_ok v7 (cons_ok v8 (one_ok ln1)))) f3) (tk "lot" (cE (.int 0)) 0 rfl) (t_lot 0)
  have g4 := cmp_ok (g := neP) (call_ok (fi := fi__law_refusal) (dps := []) (cons_ok v3 (cons_ok v7 (cons_ok v8 (one_ok (show cE .non (qE n ls kind col p i (.sh o)) st = .ok .non st from rfl))))) f4) (tk "lot" (negE (cE (.int 1))) (-1) rfl) (t_lot (-1))
  have g5 := cmp_ok (g := neP) (call_ok (fi := fi__law_refusal) (dps := []) (cons_ok v3 (cons_ok v7 (cons_ok v8 (one_ok l1)))) f5) (tk "let" (cE (.int 0)) 0 rfl) (t_let 0)
  exact if_skip g1 (if_skip g2 (if_skip g3 (if_skip g4 (if_skip g5 rfl))))
theorem s5 : (5 : Nat) ≤ sizeLine := by decide
theorem pow25 : powP (.int 10) (.int 25) = some (.int 10000000000000000000000000) := by
  show (if decide (CPow 10 25) = true then some (PV.int ((10 : Int) ^ (25 : Int).toNat)) else none) = _
  rw [if_pos (by rw [decide_eq_true_iff]; unfold CPow; decide)]
  rfl
theorem pick_col (n : Nat) (hn : n ≤ 600) (v : Nat) (hv : v < 5) : ∃ (col : PV) (p : Int), notIns col = true ∧ borOk col = true ∧ placeR col (n : Int) = .exc "NoPlace" ["place"] [.int p] .non ∧ ixP (.lst [.int (n : Int), .int (-1), .non, .bl false, .int 10000000000000000000000000]) (.int (v : Int)) = some col ∧ ixP (.lst [.int (n : Int), .int (-1), .int 0, .int 0, .int 10000000000000000000000000]) (.int (v : Int)) = some (.int p) := by
  match v, hv with
  | 0, _ => exact ⟨.int (n : Int), (n : Int), rfl, rfl, if_pos (.inr (Int.le_refl _)), rfl, rfl⟩
  | 1, _ => exact ⟨.int (-1), -1, rfl, rfl, (by unfold placeR; exact if_pos (.inl (by omega))), rfl, rfl⟩
  | 2, _ => exact ⟨.non, 0, rfl, rfl, rfl, rfl, rfl⟩
  | 3, _ => exact ⟨.bl false, 0, rfl, rfl, rfl, rfl, rfl⟩
  | 4, _ => exact ⟨.int 10000000000000000000000000, 10000000000000000000000000, rfl, rfl, (by unfold placeR; exact if_pos (.inr (by omega))), rfl, rfl⟩
theorem c_kept {n : Nat} {ls : List (List Nat)} (h : TabOk n ls) (hn0 : 0 < n) {st : PV} (hS : SOk st) : ∃ st', callK fi__law_refusals_kept [.non, .int (n : Int), .lst (lines ls)] st = .ok (.bl true) st' := by
  obtain ⟨v, st1, a1, a2, a3⟩ := c_next hS 5 (by decide)
  obtain ⟨col, p, b1, b2, b3, b4, b5⟩ := pick_col n h.1 v (by omega)
  obtain ⟨i, st2, c1, c2, c3⟩ := c_next a2 (n : Int) (by omega)
  have hi : i < n := by omega
  refine ⟨st2, ?_⟩
  rw [callK_mu]
  refine sem_ok (env1 := qE n ls (.int (v : Int)) col p i .dead) ?_ (fun _ => rfl)
  rw [kept_eq]
  have d3 : makeE "Table" fi_Table_init [] (consA (vE 1) (consA (biE listP (consA (vR 2) nilA)) nilA)) [.mt, .sh (.int (n : Int)), .sh (.lst (lines ls)), .dead, .dead, .dead, .dead, .dead, .dead] st = .ok (tb n ls) st := by
    rw [makeE_ap, cons_ok (show vE 1 [.mt, .sh (.int (n : Int)), .sh (.lst (lines ls)), .dead, .dead, .dead, .dead, .dead, .dead] st = .ok (.int (n : Int)) st from rfl) (one_ok (bi_ok (one_ok (show vR 2 [.mt, .sh (.int (n : Int)), .sh (.lst (lines ls)), .dead, .dead, .dead, .dead, .dead, .dead] st = .ok (.lst (lines ls)) st from rfl)) (show listP [.lst (lines ls)] = some (.lst (lines ls)) from rfl))), ER.bind_ok]
    exact mk_table n ls st h.1 h.2.1 h.2.2
  have d4 : callE fi__law_next [] (consA (mtA 0) (consA (cE (.int 5)) nilA)) [.mt, .sh (.int (n : Int)), .sh (.lst (lines ls)), .sh (tb n ls), .dead, .dead, .dead, .dead, .dead] st = .ok (.int (v : Int)) st1 :=
    call_ok (ps := [.non, .int 5]) (st1 := st) rfl a3
  have d5 : opE ixP (lstE (consA (vE 1) (consA (negE (cE (.int 1))) (consA (cE .non) (consA (cE (.bl false)) (consA (opE powP (cE (.int 10)) (cE (.int 25))) nilA)))))) (vR 4) [.mt, .sh (.int (n : Int)), .sh (.lst (lines ls)), .sh (tb n ls), .sh (.int (v : Int)), .dead, .dead, .dead, .dead] st1 = .ok col st1 := by
    refine op_ok (a := .lst [.int (n : Int), .int (-1), .non, .bl false, .int 10000000000000000000000000]) (b := .int (v : Int)) (st1 := st1) ?_ rfl b4
    simp [pow25, s5]
  have d6 : opE ixP (lstE (consA (vE 1) (consA (negE (cE (.int 1))) (consA (cE (.int 0)) (consA (cE (.int 0)) (consA (opE powP (cE (.int 10)) (cE (.int 25))) nilA)))))) (vR 4) [.mt, .sh (.int (n : Int)), .sh (.lst (lines ls)), .sh (tb n ls), .sh (.int (v : Int)), .sh col, .dead, .dead, .dead] st1 = .ok (.int p) st1 := by
    refine op_ok (a := .lst [.int (n : Int), .int (-1), .int 0, .int 0, .int 10000000000000000000000000]) (b := .int (v : Int)) (st1 := st1) ?_ rfl b5
    simp [pow25, s5]
  have d7 : callE fi__law_next [] (consA (mtA 0) (consA (vE 1) nilA)) [.mt, .sh (.int (n : Int)), .sh (.lst (lines ls)), .sh (tb n ls), .sh (.int (v : Int)), .sh col, .sh (.int p), .dead, .dead] st1 = .ok (.int (i : Int)) st2 :=
    call_ok (ps := [.non, .int (n : Int)]) (st1 := st1) rfl c3
  have d8 : seqA (lstE (consA (cE .non) (consA (lstE nilA) (consA (lstE (consA (tupE (consA (cE (.int 0)) (consA (cE (.int 0)) nilA))) nilA)) nilA)))) (qE n ls (.int (v : Int)) col p i .dead) st2 = .ok [.non, .lst [], .lst [.tup [.int 0, .int 0]]] st2 := by
    simp [qE, s1, s2, s3, seqP]
  have o1 := ref_step h (.int (v : Int)) col p i hi b1 b2 b3 .non paper_non st2
  have o2 := ref_step h (.int (v : Int)) col p i hi b1 b2 b3 (.lst []) (paper_lst (fun q hq => by simp at hq)) st2
  have o3 := ref_step h (.int (v : Int)) col p i hi b1 b2 b3 (.lst [.tup [.int 0, .int 0]]) (paper_lst (fun q hq => by rw [List.mem_singleton.mp hq]; rfl)) st2
  exact seq_nx (set_ok d3) (seq_nx (set_ok d4) (seq_nx (set_ok d5) (seq_nx (set_ok d6) (seq_nx (set_ok d7) (seq_nx (for_ok d8 (forL_nx rfl o1 (forL_nx rfl o2 (forL_nx rfl o3 rfl)))) (seq_ret (ret_ok rfl)))))))
end KI.K10

/-! part P10zb -/
set_option Elab.async false
set_option linter.all false
set_option maxRecDepth 100000
set_option maxHeartbeats 2000000
namespace KI.K10
open PySem PySem.Spec PyProof.Rows L2 KI
/-! ## the law -/
theorem white_all {n : Nat} {j : Nat} (hj : j < n) : wh (white0 n []) j = true := by
  rw [wh_white0 (ns := []) (by simp) hj]; rfl
theorem whl_all (n : Nat) : (whl n (white0 n [])).length = n := by
  unfold whl
  rw [List.filter_eq_self.mpr (fun j hj => white_all (List.mem_range.mp hj)), List.length_range]
theorem runF_last (ls : List (List Nat)) : ∀ (qs : List PV) (q : PV) (w w' : List Bool), runF ls w (qs ++ [q]) = some w' → ∃ w2, runF ls w qs = some w2 ∧ stepB ls w2 q = true
  | [], q, w, w', h => by
    have h' : (if stepB ls w q = true then some (w.set (colN q) false) else none) = some w' := h
    by_cases hs : stepB ls w q = true
    · exact ⟨w, rfl, hs⟩
    · rw [if_neg hs] at h'; cases h'
  | p :: qs, q, w, w', h => by
    have h' : (if stepB ls w p = true then runF ls (w.set (colN p) false) (qs ++ [q]) else none) = some w' := h
    by_cases hs : stepB ls w p = true
    · rw [if_pos hs] at h'
      obtain ⟨w2, h1, h2⟩ := runF_last ls qs q _ w' h'
      refine ⟨w2, ?_, h2⟩
      show (if stepB ls w p = true then runF ls (w.set (colN p) false) qs else none) = _
      rw [if_pos hs]; exact h1
    · rw [if_neg hs] at h'; cases h'
def colB : SF := (seqS (ifS (cmpT isnP (callE fi_shows_forced [.tup []] (consA (vE 8) (consA (vE 10) (consA (biE listP (consA (vR 9) nilA)) nilA)))) (cE (.bl true))) (seqS (retS (cE (.bl false))) nxS) nxS) (seqS (ifS (cmpT isnP (callE fi_shows_forced [.tup []] (consA (vE 8) (consA (vE 10) (consA (biE listP (consA (slE slL (vR 9) noP (someP (cE (.int 0)))) nilA)) nilA)))) (cE (.bl false))) (seqS (retS (cE (.bl false))) nxS) nxS) (fun env st => .nx (killS [10] env) st)))
def lawT : SF := (seqS (setS 8 (makeE "Table" fi_Table_init [] (consA (vE 6) (consA (biE listP (consA (vR 7) nilA)) nilA)))) (seqS (setS 9 (callE fi__law_drawn_order [] (consA (mtA 1) (consA (vE 7) (consA (vE 6) (consA (lstE nilA) nilA)))))) (seqS (ifS (cmpT neP (biE lenP (consA (vR 9) nilA)) (vR 6)) (seqS (retS (cE (.bl false))) nxS) nxS) (seqS (forS (rngA (consA (vE 6) nilA)) (nameG 10) colB) (seqS (ifS (cmpT isnP (callE fi_shows_forced [.tup []] (consA (vE 8) (consA (opE ixP (opE ixP (vR 9) (opE subP (vR 6) (cE (.int 1)))) (cE (.int 1))) (consA (slE slL (vR 9) noP (someP (opE subP (vR 6) (cE (.int 1))))) nilA)))) (cE (.bl false))) (seqS (retS (cE (.bl false))) nxS) nxS) (seqS (retS (callE fi__law_refusals_kept [] (consA (mtA 1) (consA (vE 6) (consA (vE 7) nilA))))) nxS))))))
def lawS : SF := (seqS (setS 6 (opE addP (cE (.int 2)) (callE fi__law_next [] (consA (mtA 1) (consA (cE (.int 11)) nilA))))) (seqS (setS 7 (callE fi__law_ladder [] (consA (mtA 1) (consA (vE 6) nilA)))) (seqS (ifS (notT (truT (callE fi__law_papers_kept [] (consA (mtA 1) (consA (vE 7) (consA (vE 6) (consA (lstE nilA) nilA))))))) (seqS (retS (cE (.bl false))) nxS) nxS) lawT)))
def lawR : SF := (seqS (setS 2 (opE ixP (lstE (consA (cE (.int 3)) (consA (cE (.int 4)) (consA (cE (.int 2)) (consA (cE (.int 5)) (consA (cE (.int 6)) (consA (cE (.int 1)) (consA (cE (.int 4)) (consA (cE (.int 0)) (consA (cE (.int 5)) (consA (cE (.int 3)) nilA))))))))))) (callE fi__law_next [] (consA (mtA 1) (consA (cE (.int 10)) nilA))))) (seqS (setS 3 (opE ixP (lstE (consA (cE (.int 3)) (consA (cE (.int 2)) (consA (cE (.int 4)) (consA (cE (.int 3)) (consA (cE (.int 5)) (consA (cE (.int 1)) (consA (cE (.int 0)) (consA (cE (.int 6)) (consA (cE (.int 2)) (consA (cE (.int 4)) nilA))))))))))) (callE fi__law_next [] (consA (mtA 1) (consA (cE (.int 10)) nilA))))) (seqS (setS 4 (callE fi__law_marks [] (consA (mtA 1) (consA (vE 3) (consA (vE 2) nilA))))) (seqS (setS 5 (callE fi__law_lot [] (consA (mtA 1) (consA (vE 2) nilA)))) (seqS (ifS (notT (truT (callE fi__law_papers_kept [] (consA (mtA 1) (consA (vE 4) (consA (vE 2) (consA (vE 5) nilA))))))) (seqS (retS (cE (.bl false))) nxS) nxS) lawS)))))
theorem law_eq : g_law = (seqS (setO 1 (callE fi__law_stream [] (consA (vE 0) nilA))) (mtS 1 lawR)) := rfl
abbrev aE (ns : List Int) (s2 s3 s4 s5 s6 s7 s8 s9 s10 : Slot) : SEnv := [.sh (.scr ns), .mt, s2, s3, s4, s5, s6, s7, s8, s9, s10]
theorem s10 : (10 : Nat) ≤ sizeLine := by decide
theorem pick_n (v : Nat) (hv : v < 10) : ∃ n : Nat, n ≤ 6 ∧ ixP (.lst [.int 3, .int 4, .int 2, .int 5, .int 6, .int 1, .int 4, .int 0, .int 5, .int 3]) (.int (v : Int)) = some (.int (n : Int)) := by
  match v, hv with
  | 0, _ => exact ⟨3, by decide, rfl⟩
  | 1, _ => exact ⟨4, by decide, rfl⟩
  | 2, _ => exact ⟨2, by decide, rfl⟩
  | 3, _ => exact ⟨5, by decide, rfl⟩
  | 4, _ => exact ⟨6, by decide, rfl⟩
  | 5, _ => exact ⟨1, by decide, rfl⟩
  | 6, _ => exact ⟨4, by decide, rfl⟩
  | 7, _ => exact ⟨0, by decide, rfl⟩
  | 8, _ => exact ⟨5, by decide, rfl⟩
  | 9, _ => exact ⟨3, by decide, rfl⟩
theorem pick_r (v : Nat) (hv : v < 10) : ∃ n : Nat, n ≤ 6 ∧ ixP (.lst [.int 3, .int 2, .int 4, .int 3, .int 5, .int 1, .int 0, .int 6, .int 2, .int 4]) (.int (v : Int)) = some (.int (n : Int)) := by
  match v, hv with
  | 0, _ => exact ⟨3, by decide, rfl⟩
  | 1, _ => exact ⟨2, by decide, rfl⟩
  | 2, _ => exact ⟨4, by decide, rfl⟩
  | 3, _ => exact ⟨3, by decide, rfl⟩
  | 4, _ => exact ⟨5, by decide, rfl⟩
  | 5, _ => exact ⟨1, by decide, rfl⟩
  | 6, _ => exact ⟨0, by decide, rfl⟩
  | 7, _ => exact ⟨6, by decide, rfl⟩
  | 8, _ => exact ⟨2, by decide, rfl⟩
  | 9, _ => exact ⟨4, by decide, rfl⟩
theorem not_ok {f : EF} {env : SEnv} {st st1 : PV} (h : f env st = .ok (.bl true) st1) : notT (truT f) env st = .ok false st1 := by
  rw [notT_ap, truT_ap, h, ER.bind_ok, truP_bl]; rfl
theorem isn_eq (a : Bool) : isnP (.bl a) (.bl a) = some false := by
  show some (!decide (a = a)) = _
  simp
theorem colB_step {n : Nat} {ls : List (List Nat)} (h : TabOk n ls) (ns : List Int) (s2 s3 s4 s5 s6 s7 : Slot) (os : List (Nat × Nat)) {j : Nat} (hj : j < n) (ht : showR ls (white0 n []) j (.lst (prs os)) = true) (st : PV) :
    colB (aE ns s2 s3 s4 s5 s6 s7 (.sh (tb n ls)) (.sh (.lst (prs os))) (.sh (.int (j : Int)))) st = .nx (aE ns s2 s3 s4 s5 s6 s7 (.sh (tb n ls)) (.sh (.lst (prs os))) .dead) st := by
  have c1 := c_shows h j hj [] (by simp) (by simp) (by simp) (.tup (nts [])) (.inr rfl) (.lst (prs os)) (paper_lst (prs_ok os)) st
  rw [ht] at c1
  have c2 := c_shows h j hj [] (by simp) (by simp) (by simp) (.tup (nts [])) (.inr rfl) (.lst []) (paper_lst (fun q hq => by simp at hq)) st
  have e2 : showR ls (white0 n []) j (.lst []) = false := by
    rw [showR_seq (qs := []) (w1 := white0 n []) rfl rfl, white_all hj]; rfl
  rw [e2] at c2
  have v8 : vE 8 (aE ns s2 s3 s4 s5 s6 s7 (.sh (tb n ls)) (.sh (.lst (prs os))) (.sh (.int (j : Int)))) st = .ok (tb n ls) st := rfl
  have v10 : vE 10 (aE ns s2 s3 s4 s5 s6 s7 (.sh (tb n ls)) (.sh (.lst (prs os))) (.sh (.int (j : Int)))) st = .ok (.int (j : Int)) st := rfl
  have v9 : vR 9 (aE ns s2 s3 s4 s5 s6 s7 (.sh (tb n ls)) (.sh (.lst (prs os))) (.sh (.int (j : Int)))) st = .ok (.lst (prs os)) st := rfl
  have sl : slE slL (vR 9) noP (someP (cE (.int 0))) (aE ns s2 s3 s4 s5 s6 s7 (.sh (tb n ls)) (.sh (.lst (prs os))) (.sh (.int (j : Int)))) st = .ok (.lst []) st := by
    have k := slL_take (prs os) 0 (by omega)
    rw [slE_ap, v9, ER.bind_ok, noP_ap, ER.bind_ok, someP_ap, cE_ap, ER.bind_ok]
    show (match slL (.lst (prs os)) none (some ((0 : Nat) : Int)) with
      | some z => ER.ok z st
      | none => .stuck) = _
    rw [k]; rfl
  have g1 := cmp_ok (g := isnP) (z := false) (call_ok (fi := fi_shows_forced) (dps := [.tup []]) (cons_ok v8 (cons_ok v10 (one_ok (bi_ok (one_ok v9) (show listP [.lst (prs os)] = some (.lst (prs os)) from rfl))))) c1) (show cE (.bl true) (aE ns s2 s3 s4 s5 s6 s7 (.sh (tb n ls)) (.sh (.lst (prs os))) (.sh (.int (j : Int)))) st = .ok (.bl true) st from rfl) (isn_eq true)
  have g2 := cmp_ok (g := isnP) (z := false) (call_ok (fi := fi_shows_forced) (dps := [.tup []]) (cons_ok v8 (cons_ok v10 (one_ok (bi_ok (one_ok sl) (show listP [.lst []] = some (.lst []) from rfl))))) c2) (show cE (.bl false) (aE ns s2 s3 s4 s5 s6 s7 (.sh (tb n ls)) (.sh (.lst (prs os))) (.sh (.int (j : Int)))) st = .ok (.bl false) st from rfl) (isn_eq false)
  exact if_skip g1 (if_skip g2 rfl)
theorem colB_loop {n : Nat} {ls : List (List Nat)} (h : TabOk n ls) (ns : List Int) (s2 s3 s4 s5 s6 s7 : Slot) (os : List (Nat × Nat)) (ht : ∀ j, j < n → showR ls (white0 n []) j (.lst (prs os)) = true) (st : PV) : ∀ js : List Nat, (∀ j ∈ js, j < n) →
    forL (nameG 10) colB (nts js) (aE ns s2 s3 s4 s5 s6 s7 (.sh (tb n ls)) (.sh (.lst (prs os))) .dead) st = .nx (aE ns s2 s3 s4 s5 s6 s7 (.sh (tb n ls)) (.sh (.lst (prs os))) .dead) st
  | [], _ => rfl
  | j :: js, hj => forL_nx rfl (colB_step h ns s2 s3 s4 s5 s6 s7 os (hj j List.mem_cons_self) (ht j (hj j List.mem_cons_self)) st) (colB_loop h ns s2 s3 s4 s5 s6 s7 os ht st js fun k hk => hj k (List.mem_cons_of_mem _ hk))
theorem law_tail {n : Nat} {ls : List (List Nat)} (h : TabOk n ls) (hF : Full n ls) (h2n : 2 ≤ n) (ns : List Int) (s2 s3 s4 s5 : Slot) {st : PV} (hS : SOk st) :
    ∃ env1 st', lawT (aE ns s2 s3 s4 s5 (.sh (.int (n : Int))) (.sh (.lst (lines ls))) .dead .dead .dead) st = .ret (.bl true) false env1 st' := by
  have hs : sizeLine = 16777216 := sizeLine_eq
  have hn := h.1
  obtain ⟨os, w1, st1, a1, a2, a3, a4, a5, a6, a7⟩ := c_drawn h [] (by simp) hS
  have hw1 := full_end hF a6
  rw [hw1, whl_all] at a5
  simp at a5
  have hlen : os.length = n := a5
  have ht : ∀ j, j < n → showR ls (white0 n []) j (.lst (prs os)) = true := fun j hj => by
    rw [showR_seq (w1 := w1) (qs := prs os) rfl a3]
    cases e : wh w1 j with
    | false => rfl
    | true =>
      have : j ∈ whl n w1 := List.mem_filter.mpr ⟨List.mem_range.mpr hj, e⟩
      rw [hw1] at this; cases this
  obtain ⟨⟨r, c⟩, hx⟩ : ∃ x, os[n - 1]? = some x := ⟨_, List.getElem?_eq_getElem (by omega)⟩
  have hsplit : os = os.take (n - 1) ++ [(r, c)] := by
    have hd : os.drop (n - 1) = [(r, c)] := by
      rw [List.drop_eq_getElem_cons (by omega), List.drop_eq_nil_of_le (by omega)]
      obtain ⟨_, e⟩ := List.getElem?_eq_some_iff.mp hx
      rw [e]
    rw [← hd]
    exact (List.take_append_drop (n - 1) os).symm
  have hcn : c < n := (a2 _ (List.mem_of_getElem? hx)).2
  have hp : prs os = prs (os.take (n - 1)) ++ [.tup [.int (r : Int), .int (c : Int)]] := by
    rw [prs_app, ← hsplit]
  have htake : (prs os).take (n - 1) = prs (os.take (n - 1)) := by
    unfold prs; rw [List.map_take]
  obtain ⟨w2, e1, e2⟩ := runF_last ls (prs (os.take (n - 1))) _ _ w1 (by rw [← hp]; exact a3)
  obtain ⟨r', _, hf⟩ := step_forced e2
  have hcol : colN (.tup [.int (r : Int), .int (c : Int)]) = c := by simp [colN]
  rw [hcol] at hf
  have hwc := (forced_wh hf).1
  have el : showR ls (white0 n []) c (.lst (prs (os.take (n - 1)))) = false := by
    rw [showR_seq (w1 := w2) (qs := prs (os.take (n - 1))) rfl e1, hwc]; rfl
  have c1 := c_shows h c hcn [] (by simp) (by simp) (by simp) (.tup (nts [])) (.inr rfl) (.lst (prs (os.take (n - 1)))) (paper_lst (prs_ok _)) st1
  rw [el] at c1
  obtain ⟨st2, k2⟩ := c_kept h (by omega) a1
  have d8 : makeE "Table" fi_Table_init [] (consA (vE 6) (consA (biE listP (consA (vR 7) nilA)) nilA)) (aE ns s2 s3 s4 s5 (.sh (.int (n : Int))) (.sh (.lst (lines ls))) .dead .dead .dead) st = .ok (tb n ls) st := by
    rw [makeE_ap, cons_ok (show vE 6 (aE ns s2 s3 s4 s5 (.sh (.int (n : Int))) (.sh (.lst (lines ls))) .dead .dead .dead) st = .ok (.int (n : Int)) st from rfl) (one_ok (bi_ok (one_ok (show vR 7 (aE ns s2 s3 s4 s5 (.sh (.int (n : Int))) (.sh (.lst (lines ls))) .dead .dead .dead) st = .ok (.lst (lines ls)) st from rfl)) (show listP [.lst (lines ls)] = some (.lst (lines ls)) from rfl))), ER.bind_ok]
    exact mk_table n ls st h.1 h.2.1 h.2.2
  have nil0 : ∀ env st, lstE nilA env st = .ok (.lst (nts [])) st := fun env st => by rw [lstE_ap, nilA_ap, ER.bind_ok]; exact if_pos (by simp)
  have d9 : callE fi__law_drawn_order [] (consA (mtA 1) (consA (vE 7) (consA (vE 6) (consA (lstE nilA) nilA)))) (aE ns s2 s3 s4 s5 (.sh (.int (n : Int))) (.sh (.lst (lines ls))) (.sh (tb n ls)) .dead .dead) st = .ok (.lst (prs os)) st1 :=
    call_ok (cons_ok (show mtA 1 (aE ns s2 s3 s4 s5 (.sh (.int (n : Int))) (.sh (.lst (lines ls))) (.sh (tb n ls)) .dead .dead) st = .ok .non st from rfl) (cons_ok (show vE 7 (aE ns s2 s3 s4 s5 (.sh (.int (n : Int))) (.sh (.lst (lines ls))) (.sh (tb n ls)) .dead .dead) st = .ok (.lst (lines ls)) st from rfl) (cons_ok (show vE 6 (aE ns s2 s3 s4 s5 (.sh (.int (n : Int))) (.sh (.lst (lines ls))) (.sh (tb n ls)) .dead .dead) st = .ok (.int (n : Int)) st from rfl) (one_ok (nil0 _ _))))) a7
  have v9 : vR 9 (aE ns s2 s3 s4 s5 (.sh (.int (n : Int))) (.sh (.lst (lines ls))) (.sh (tb n ls)) (.sh (.lst (prs os))) .dead) st1 = .ok (.lst (prs os)) st1 := rfl
  have v6 : vR 6 (aE ns s2 s3 s4 s5 (.sh (.int (n : Int))) (.sh (.lst (lines ls))) (.sh (tb n ls)) (.sh (.lst (prs os))) .dead) st1 = .ok (.int (n : Int)) st1 := rfl
  have d10 : cmpT neP (biE lenP (consA (vR 9) nilA)) (vR 6) (aE ns s2 s3 s4 s5 (.sh (.int (n : Int))) (.sh (.lst (lines ls))) (.sh (tb n ls)) (.sh (.lst (prs os))) .dead) st1 = .ok false st1 :=
    cmp_ok (bi_ok (one_ok v9) (show lenP [.lst (prs os)] = some (.int (n : Int)) from by show some (PV.int ((prs os).length : Nat)) = _; rw [prs_length, hlen])) v6 (by rw [neP_int]; simp)
  have d11 : rngA (consA (vE 6) nilA) (aE ns s2 s3 s4 s5 (.sh (.int (n : Int))) (.sh (.lst (lines ls))) (.sh (tb n ls)) (.sh (.lst (prs os))) .dead) st1 = .ok (nts (List.range n)) st1 :=
    rng_ok (one_ok (show vE 6 (aE ns s2 s3 s4 s5 (.sh (.int (n : Int))) (.sh (.lst (lines ls))) (.sh (tb n ls)) (.sh (.lst (prs os))) .dead) st1 = .ok (.int (n : Int)) st1 from rfl)) (rngP_nat (by omega))
  have e11 := colB_loop h ns s2 s3 s4 s5 (.sh (.int (n : Int))) (.sh (.lst (lines ls))) os ht st1 (List.range n) (fun j hj => List.mem_range.mp hj)
  have sub1 : opE subP (vR 6) (cE (.int 1)) (aE ns s2 s3 s4 s5 (.sh (.int (n : Int))) (.sh (.lst (lines ls))) (.sh (tb n ls)) (.sh (.lst (prs os))) .dead) st1 = .ok (.int ((n - 1 : Nat) : Int)) st1 :=
    op_ok v6 (show cE (.int 1) (aE ns s2 s3 s4 s5 (.sh (.int (n : Int))) (.sh (.lst (lines ls))) (.sh (tb n ls)) (.sh (.lst (prs os))) .dead) st1 = .ok (.int 1) st1 from rfl) (by rw [subP_int, show (n : Int) - 1 = ((n - 1 : Nat) : Int) from by omega])
  have i1 : opE ixP (opE ixP (vR 9) (opE subP (vR 6) (cE (.int 1)))) (cE (.int 1)) (aE ns s2 s3 s4 s5 (.sh (.int (n : Int))) (.sh (.lst (lines ls))) (.sh (tb n ls)) (.sh (.lst (prs os))) .dead) st1 = .ok (.int (c : Int)) st1 :=
    op_ok (op_ok v9 sub1 (ix_prs hx)) (show cE (.int 1) (aE ns s2 s3 s4 s5 (.sh (.int (n : Int))) (.sh (.lst (lines ls))) (.sh (tb n ls)) (.sh (.lst (prs os))) .dead) st1 = .ok (.int 1) st1 from rfl) rfl
  have sl : slE slL (vR 9) noP (someP (opE subP (vR 6) (cE (.int 1)))) (aE ns s2 s3 s4 s5 (.sh (.int (n : Int))) (.sh (.lst (lines ls))) (.sh (tb n ls)) (.sh (.lst (prs os))) .dead) st1 = .ok (.lst (prs (os.take (n - 1)))) st1 := by
    have k := slL_take (prs os) (n - 1) (by rw [prs_length]; omega)
    rw [htake] at k
    rw [slE_ap, v9, ER.bind_ok, noP_ap, ER.bind_ok, someP_ap, sub1, ER.bind_ok]
    show (match slL (.lst (prs os)) none (some ((n - 1 : Nat) : Int)) with
      | some z => ER.ok z st1
      | none => .stuck) = _
    rw [k]
  have g1 := cmp_ok (g := isnP) (z := false) (call_ok (fi := fi_shows_forced) (dps := [.tup []]) (cons_ok (show vE 8 (aE ns s2 s3 s4 s5 (.sh (.int (n : Int))) (.sh (.lst (lines ls))) (.sh (tb n ls)) (.sh (.lst (prs os))) .dead) st1 = .ok (tb n ls) st1 from rfl) (cons_ok i1 (one_ok sl))) c1) (show cE (.bl false) (aE ns s2 s3 s4 s5 (.sh (.int (n : Int))) (.sh (.lst (lines ls))) (.sh (tb n ls)) (.sh (.lst (prs os))) .dead) st1 = .ok (.bl false) st1 from rfl) (isn_eq false)
  have d12 : callE fi__law_refusals_kept [] (consA (mtA 1) (consA (vE 6) (consA (vE 7) nilA))) (aE ns s2 s3 s4 s5 (.sh (.int (n : Int))) (.sh (.lst (lines ls))) (.sh (tb n ls)) (.sh (.lst (prs os))) .dead) st1 = .ok (.bl true) st2 :=
    call_ok (ps := [.non, .int (n : Int), .lst (lines ls)]) (st1 := st1) rfl k2
  exact ⟨_, st2, seq_nx (set_ok d8) (seq_nx (set_ok d9) (if_skip d10 (seq_nx (for_ok d11 e11) (if_skip g1 (seq_ret (ret_ok d12))))))⟩
theorem law_true (ns : List Int) (hlen : ns.length ≤ 63) : ∃ st, fi_law.sem [.scr ns] .non = .ok (.bl true) st := by
  obtain ⟨st0, hS0, e0⟩ := c_stream ns hlen .non
  obtain ⟨v1, st1, a1, S1, a3⟩ := c_next hS0 10 (by decide)
  obtain ⟨n1, hn1, p1⟩ := pick_n v1 (by omega)
  obtain ⟨v2, st2, b1, S2, b3⟩ := c_next S1 10 (by decide)
  obtain ⟨r1, hr1, p2⟩ := pick_r v2 (by omega)
  obtain ⟨ls1, st3, S3, T1, c3⟩ := c_marks n1 r1 (by omega) (by omega) S2
  obtain ⟨out, st4, S4, nd, olt, oln, c4⟩ := c_lot n1 (by omega) S3
  have hs : sizeLine = 16777216 := sizeLine_eq
  have hoz : out.length ≤ sizeLine := by
    omega
  obtain ⟨st5, S5, c5⟩ := c_papers T1 (by omega) olt nd hoz S4
  obtain ⟨v6, st6, d1, S6, d3⟩ := c_next S5 11 (by decide)
  obtain ⟨ls2, st7, S7, T2, hl2, F2, c7⟩ := c_ladder (2 + v6) (by omega) (by omega) S6
  obtain ⟨st8, S8, c8⟩ := c_papers T2 (by omega) (out := []) (by simp) (by simp) (by simp) S7
  obtain ⟨env1, st9, c9⟩ := law_tail T2 F2 (by omega) ns (.sh (.int (n1 : Int))) (.sh (.int (r1 : Int))) (.sh (.lst (lines ls1))) (.sh (.lst (nts out))) S8
  refine ⟨st9, sem_ok (env1 := env1) ?_ (fun h => by cases h)⟩
  rw [law_eq]
  have f1 : callE fi__law_stream [] (consA (vE 0) nilA) (env0 [.val] [.scr ns] 11) .non = .ok st0 .non := call_ok (ps := [.scr ns]) (st1 := .non) rfl e0
  refine seq_nx (setO_ok f1) ?_
  show lawR (aE ns .dead .dead .dead .dead .dead .dead .dead .dead .dead) st0 = _
  have nil0 : ∀ env st, lstE nilA env st = .ok (.lst (nts [])) st := fun env st => by rw [lstE_ap, nilA_ap, ER.bind_ok]; exact if_pos (by simp)
  have f2 : opE ixP (lstE (consA (cE (.int 3)) (consA (cE (.int 4)) (consA (cE (.int 2)) (consA (cE (.int 5)) (consA (cE (.int 6)) (consA (cE (.int 1)) (consA (cE (.int 4)) (consA (cE (.int 0)) (consA (cE (.int 5)) (consA (cE (.int 3)) nilA))))))))))) (callE fi__law_next [] (consA (mtA 1) (consA (cE (.int 10)) nilA))) (aE ns .dead .dead .dead .dead .dead .dead .dead .dead .dead) st0 = .ok (.int (n1 : Int)) st1 := by
    refine op_ok (a := .lst [.int 3, .int 4, .int 2, .int 5, .int 6, .int 1, .int 4, .int 0, .int 5, .int 3]) (st1 := st0) (by simp [s10]) (call_ok (ps := [.non, .int 10]) (st1 := st0) rfl a3) p1
  have f3 : opE ixP (lstE (consA (cE (.int 3)) (consA (cE (.int 2)) (consA (cE (.int 4)) (consA (cE (.int 3)) (consA (cE (.int 5)) (consA (cE (.int 1)) (consA (cE (.int 0)) (consA (cE (.int 6)) (consA (cE (.int 2)) (consA (cE (.int 4)) nilA))))))))))) (callE fi__law_next [] (consA (mtA 1) (consA (cE (.int 10)) nilA))) (aE ns (.sh (.int (n1 : Int))) .dead .dead .dead .dead .dead .dead .dead .dead) st1 = .ok (.int (r1 : Int)) st2 := by
    refine op_ok (a := .lst [.int 3, .int 2, .int 4, .int 3, .int 5, .int 1, .int 0, .int 6, .int 2, .int 4]) (st1 := st1) (by simp [s10]) (call_ok (ps := [.non, .int 10]) (st1 := st1) rfl b3) p2
  have f4 : callE fi__law_marks [] (consA (mtA 1) (consA (vE 3) (consA (vE 2) nilA))) (aE ns (.sh (.int (n1 : Int))) (.sh (.int (r1 : Int))) .dead .dead .dead .dead .dead .dead .dead) st2 = .ok (.lst (lines ls1)) st3 := call_ok (ps := [.non, .int (r1 : Int), .int (n1 : Int)]) (st1 := st2) rfl c3
  have f5 : callE fi__law_lot [] (consA (mtA 1) (consA (vE 2) nilA)) (aE ns (.sh (.int (n1 : Int))) (.sh (.int (r1 : Int))) (.sh (.lst (lines ls1))) .dead .dead .dead .dead .dead .dead) st3 = .ok (.lst (nts out)) st4 := call_ok (ps := [.non, .int (n1 : Int)]) (st1 := st3) rfl c4
  have f6 : callE fi__law_papers_kept [] (consA (mtA 1) (consA (vE 4) (consA (vE 2) (consA (vE 5) nilA)))) (aE ns (.sh (.int (n1 : Int))) (.sh (.int (r1 : Int))) (.sh (.lst (lines ls1))) (.sh (.lst (nts out))) .dead .dead .dead .dead .dead) st4 = .ok (.bl true) st5 := call_ok (ps := [.non, .lst (lines ls1), .int (n1 : Int), .lst (nts out)]) (st1 := st4) rfl c5
  have f7 : opE addP (cE (.int 2)) (callE fi__law_next [] (consA (mtA 1) (consA (cE (.int 11)) nilA))) (aE ns (.sh (.int (n1 : Int))) (.sh (.int (r1 : Int))) (.sh (.lst (lines ls1))) (.sh (.lst (nts out))) .dead .dead .dead .dead .dead) st5 = .ok (.int ((2 + v6 : Nat) : Int)) st6 :=
    op_ok (a := .int 2) (b := .int (v6 : Int)) (st1 := st5) rfl (call_ok (ps := [.non, .int 11]) (st1 := st5) rfl d3) (by rw [addP_int]; congr 2)
  have f8 : callE fi__law_ladder [] (consA (mtA 1) (consA (vE 6) nilA)) (aE ns (.sh (.int (n1 : Int))) (.sh (.int (r1 : Int))) (.sh (.lst (lines ls1))) (.sh (.lst (nts out))) (.sh (.int ((2 + v6 : Nat) : Int))) .dead .dead .dead .dead) st6 = .ok (.lst (lines ls2)) st7 := call_ok (ps := [.non, .int ((2 + v6 : Nat) : Int)]) (st1 := st6) rfl c7
  have f9 : callE fi__law_papers_kept [] (consA (mtA 1) (consA (vE 7) (consA (vE 6) (consA (lstE nilA) nilA)))) (aE ns (.sh (.int (n1 : Int))) (.sh (.int (r1 : Int))) (.sh (.lst (lines ls1))) (.sh (.lst (nts out))) (.sh (.int ((2 + v6 : Nat) : Int))) (.sh (.lst (lines ls2))) .dead .dead .dead) st7 = .ok (.bl true) st8 :=
    call_ok (cons_ok (show mtA 1 (aE ns (.sh (.int (n1 : Int))) (.sh (.int (r1 : Int))) (.sh (.lst (lines ls1))) (.sh (.lst (nts out))) (.sh (.int ((2 + v6 : Nat) : Int))) (.sh (.lst (lines ls2))) .dead .dead .dead) st7 = .ok .non st7 from rfl) (cons_ok (show vE 7 (aE ns (.sh (.int (n1 : Int))) (.sh (.int (r1 : Int))) (.sh (.lst (lines ls1))) (.sh (.lst (nts out))) (.sh (.int ((2 + v6 : Nat) : Int))) (.sh (.lst (lines ls2))) .dead .dead .dead) st7 = .ok (.lst (lines ls2)) st7 from rfl) (cons_ok (show vE 6 (aE ns (.sh (.int (n1 : Int))) (.sh (.int (r1 : Int))) (.sh (.lst (lines ls1))) (.sh (.lst (nts out))) (.sh (.int ((2 + v6 : Nat) : Int))) (.sh (.lst (lines ls2))) .dead .dead .dead) st7 = .ok (.int ((2 + v6 : Nat) : Int)) st7 from rfl) (one_ok (nil0 _ _))))) c8
  exact seq_nx (set_ok f2) (seq_nx (set_ok f3) (seq_nx (set_ok f4) (seq_nx (set_ok f5) (if_skip (not_ok f6) (seq_nx (set_ok f7) (seq_nx (set_ok f8) (if_skip (not_ok f9) c9)))))))
end KI.K10

/-! part A10 -/
set_option Elab.async false
set_option linter.all false
set_option maxRecDepth 100000
set_option maxHeartbeats 0
open PySem PySem.W PySem.Calls PyProof.Rows
theorem KI.K10.law_sp {K : PySem.W.Frag} {H : L2.Hp} {a : Addr} {ns : List Int} (hn : ns.length ≤ 63) (hS : L2.SqL K H a (ns.map L2.V.int)) : KI.spOf K KI.K10.fi_law [.ref a] H (fun v _ => v = .bl true) fun _ _ _ => False := by
  obtain ⟨st, h⟩ := KI.K10.law_true ns hn
  refine ⟨H, [.scr ns], .non, none, L2.Same.refl H, fun _ => rfl, ⟨.scr ns, [], .ref a, [], rfl, rfl, ⟨a, rfl, hS⟩, rfl, rfl⟩, ?_⟩
  rw [h]
  intro v F' H' _ r
  exact r
theorem PySem.Challenge.cw_knowninside_k10_orders_are_judged_holds : PySem.Challenge.rw_knowninside_k10_orders_are_judged.Holds := by
  w_on; o_law
  refine HandSHeadRun.head_any (r := OpenLaw.row PySem.Challenge.rw_knowninside_k10_orders_are_judged) (q := view (OpenLaw.row PySem.Challenge.rw_knowninside_k10_orders_are_judged).prog [50]) (H := KI.K10.hk) (ob := KI.K10.ob) (M := 6000) (loose := KI.K10.loose) (d := HandSHeadRun.topDef (OpenLaw.row PySem.Challenge.rw_knowninside_k10_orders_are_judged).prog 50) (kwd := []) KI.K10.ob_eq
    (by kernel_rfl) (fun s => by kernel_rfl) KI.K10.run (by kernel_rfl) (by kernel_rfl) (by kernel_rfl) (by rfl) (by first | assumption | decide +kernel) (by decide +kernel) ⟨rfl, rfl, rfl, rfl, rfl, by decide +kernel⟩ ?hw ?hc
  case hw => w_witness2
  case hc =>
    refine LamX.walk_ofTsE (l := PySem.Challenge.rw_knowninside_k10_orders_are_judged) (n := 63) (k := 10) (x := "script") (CX := fun w => L2.CX (PySem.Challenge.rw_knowninside_k10_orders_are_judged).prog w) rfl (by decide) (by kernel_rfl) ⟨rfl, by decide, by decide⟩ ?F ?CX
    case CX =>
      intro w H s e s' h
      obtain ⟨_, _, _, _, _, _, _, _, _, _, _, _, h⟩ := h
      exact h
    case F =>
      intro w mg fa h Y G hmg0
      obtain ⟨K, KX, c⟩ := Y
      have hmg : mg ("law" : PySem.Str) = some (.ref fa) := by
        have e : (HandSHeadRun.topDef (OpenLaw.row PySem.Challenge.rw_knowninside_k10_orders_are_judged).prog 50).name = ("law" : PySem.Str) := by kernel_rfl
        rw [← e]
        exact hmg0
      have e := hmg.symm.trans (He.glo_ok KX G (KI.SaysQ.d c |>.fact 46 (f := .glo "law") rfl))
      cases e
      obtain ⟨fd, hb, hF⟩ := KI.K10.law_ok (w := w) KX G c
      exact ⟨K, KX, fd, [], KI.spOf K KI.K10.fi_law, (fun p hp => by cases hp), (fun p hp => by cases hp), (fun p hp => by cases hp), hb, (fun H a ns hl _ _ hS => KI.K10.law_sp hl hS), fun base _ _ _ => hF base⟩

