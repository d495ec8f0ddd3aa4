import PyProof.Rows.All
import Wide.All
import OpenK.AllK
import Wide.FinOn
import KE.KStateDown
import HandS.ForMost
import HandS.Walk
import HandS.IsInst
import HandS.Exc
import HandS.ExcInit
import HandS.ExcOwn
import HandS.TryMany
import HandS.TryOnly
import HandS.WordsExc
import HandS.Defaults
import HandS.MakeKwOnly
import HandS.SortInts
import HandS.Wide
import HandS.Head0
import HandS.Head1
import HandS.Head2
import HandS.HeadEnd
import HandS.HeadHook1
import HandS.HeadHook2
import HandS.TupAny
import HandS.Style
import HandS.TupLe
import HandS.CallSlots
import HandS.WordsDict
import HandS.StrMore
import HandS.More
import PyProof.Draws
import PyProof.EnumMake
import KE.KExcSuper
import KE.KSuper
import HandS.ExcSuper
import HandS.ClsMeth
import HandS.Iter
import HandS.Zip
import HandS.TupMul
import HandS.Words
import HandS.Codes
import PySem.Challenge.RW_knowninside_k13_whole_small_weights
import PyProof.StrLawsIn
import PyProof.Rows.StrFin3
import HandS.Head3
import HandS.HeadWalk
/-! part KI1 -/
set_option Elab.async false
set_option linter.all false
set_option maxRecDepth 100000
set_option maxHeartbeats 4000000
namespace KI
open PySem PySem.Spec PyProof.Rows L2

/-! ## pure values -/
inductive PV where
  | non | bl (b : Bool) | int (i : Int) | str (x : Str)
  | lst (ps : List PV) | tup (ps : List PV)
  | dct (ks : List Key) (ps : List PV)
  | ins (c : Str) (ns : List Str) (ps : List PV)
  | scr (ns : List Int)
  deriving Inhabited

abbrev Frag := PySem.W.Frag
abbrev Sg := L2.St

mutual
/-- v is the pure value in the frozen heap F -/
def Rep (K : Frag) (F : Hp) : PV → V → Prop
  | .non, v => v = .non
  | .bl b, v => v = .bl b
  | .int i, v => v = .int i
  | .str x, v => v = .str x
  | .lst ps, v => ∃ a vs, v = .ref a ∧ F a = some (.lst vs) ∧ RepL K F ps vs
  | .tup ps, v => ∃ a vs, v = .ref a ∧ SqT K F a vs ∧ RepL K F ps vs
  | .dct ks ps, v => ∃ a vs, v = .ref a ∧ F a = some (.dK (ks.zip vs)) ∧ ks.length = vs.length ∧ RepL K F ps vs
  | .ins c ns ps, v => ∃ a dx vs, v = .ref a ∧ F a = some (.ins (He.ga K c) dx (ns.zip vs)) ∧ ns.length = vs.length ∧ RepL K F ps vs
  | .scr ns, v => ∃ a, v = .ref a ∧ SqL K F a (ns.map V.int)
def RepL (K : Frag) (F : Hp) : List PV → List V → Prop
  | [], vs => vs = []
  | p :: ps, vs => ∃ v r, vs = v :: r ∧ Rep K F p v ∧ RepL K F ps r
end

theorem sqT_mono {K : Frag} {F F' : Hp} {a : Addr} {xs : List V} (e : Same F F') (h : SqT K F a xs) : SqT K F' a xs := by
  rcases h with (h | ⟨o, h⟩) | h
  · exact .inl (.inl (e _ _ h))
  · exact .inl (.inr ⟨o, e _ _ h⟩)
  · exact .inr h

mutual
theorem Rep.mono {K : Frag} {F F' : Hp} (e : Same F F') : ∀ (p : PV) (v : V), Rep K F p v → Rep K F' p v
  | .non, _, h => h
  | .bl _, _, h => h
  | .int _, _, h => h
  | .str _, _, h => h
  | .lst ps, _, ⟨a, vs, h1, h2, h3⟩ => ⟨a, vs, h1, e _ _ h2, RepL.mono e ps vs h3⟩
  | .tup ps, _, ⟨a, vs, h1, h2, h3⟩ => ⟨a, vs, h1, sqT_mono e h2, RepL.mono e ps vs h3⟩
  | .dct _ ps, _, ⟨a, vs, h1, h2, h3, h4⟩ => ⟨a, vs, h1, e _ _ h2, h3, RepL.mono e ps vs h4⟩
  | .ins _ _ ps, _, ⟨a, dx, vs, h1, h2, h3, h4⟩ => ⟨a, dx, vs, h1, e _ _ h2, h3, RepL.mono e ps vs h4⟩
  | .scr _, _, ⟨a, h1, h2⟩ => ⟨a, h1, e.seq h2⟩
theorem RepL.mono {K : Frag} {F F' : Hp} (e : Same F F') : ∀ (ps : List PV) (vs : List V), RepL K F ps vs → RepL K F' ps vs
  | [], _, h => h
  | p :: ps, _, ⟨v, r, h1, h2, h3⟩ => ⟨v, r, h1, Rep.mono e p v h2, RepL.mono e ps r h3⟩
end

section
variable {K : Frag} {F : Hp}
theorem RepL.length : ∀ {ps : List PV} {vs : List V}, RepL K F ps vs → ps.length = vs.length
  | [], _, h => by subst h; rfl
  | p :: ps, _, ⟨v, r, h1, _, h3⟩ => by rw [h1, List.length_cons, List.length_cons, RepL.length h3]
theorem RepL.get : ∀ {ps : List PV} {vs : List V} {i : Nat} {p : PV}, RepL K F ps vs → ps[i]? = some p → ∃ v, vs[i]? = some v ∧ Rep K F p v
  | [], _, _, _, _, e => by simp at e
  | q :: ps, _, 0, p, ⟨v, r, h1, h2, _⟩, e => by
    simp at e; subst e; subst h1; exact ⟨v, rfl, h2⟩
  | q :: ps, _, i + 1, p, ⟨v, r, h1, _, h3⟩, e => by
    obtain ⟨w, h4, h5⟩ := RepL.get (i := i) (p := p) h3 (by simpa using e)
    subst h1; exact ⟨w, by simpa using h4, h5⟩
theorem RepL.getV : ∀ {ps : List PV} {vs : List V} {i : Nat} {v : V}, RepL K F ps vs → vs[i]? = some v → ∃ p, ps[i]? = some p ∧ Rep K F p v
  | [], _, _, _, h, e => by cases (show _ = ([] : List V) from h); simp at e
  | q :: ps, _, 0, v, ⟨w, r, h1, h2, _⟩, e => by
    subst h1; simp at e; subst e; exact ⟨q, rfl, h2⟩
  | q :: ps, _, i + 1, v, ⟨w, r, h1, _, h3⟩, e => by
    subst h1
    obtain ⟨p, h4, h5⟩ := RepL.getV (i := i) (v := v) h3 (by simpa using e)
    exact ⟨p, by simpa using h4, h5⟩
theorem RepL.append : ∀ {ps qs : List PV} {vs ws : List V}, RepL K F ps vs → RepL K F qs ws → RepL K F (ps ++ qs) (vs ++ ws)
  | [], _, _, _, h, h' => by cases (show _ = ([] : List V) from h); exact h'
  | p :: ps, qs, _, ws, ⟨v, r, h1, h2, h3⟩, h' => by
    subst h1; exact ⟨v, r ++ ws, rfl, h2, RepL.append h3 h'⟩
theorem RepL.one {p : PV} {v : V} (h : Rep K F p v) : RepL K F [p] [v] := ⟨v, [], rfl, h, rfl⟩
theorem RepL.set : ∀ {ps : List PV} {vs : List V} {p : PV} {v : V} (i : Nat), RepL K F ps vs → Rep K F p v → RepL K F (ps.set i p) (vs.set i v)
  | [], _, _, _, _, h, _ => by cases (show _ = ([] : List V) from h); exact rfl
  | q :: ps, _, p, v, 0, ⟨w, r, h1, _, h3⟩, h => by subst h1; exact ⟨v, r, rfl, h, h3⟩
  | q :: ps, _, p, v, i + 1, ⟨w, r, h1, h2, h3⟩, h => by subst h1; exact ⟨w, r.set i v, rfl, h2, RepL.set i h3 h⟩
theorem RepL.take : ∀ {ps : List PV} {vs : List V} (n : Nat), RepL K F ps vs → RepL K F (ps.take n) (vs.take n)
  | _, _, 0, _ => rfl
  | [], _, n + 1, h => by cases (show _ = ([] : List V) from h); exact rfl
  | q :: ps, _, n + 1, ⟨w, r, h1, h2, h3⟩ => by subst h1; exact ⟨w, r.take n, rfl, h2, RepL.take n h3⟩
theorem RepL.drop : ∀ {ps : List PV} {vs : List V} (n : Nat), RepL K F ps vs → RepL K F (ps.drop n) (vs.drop n)
  | _, _, 0, h => h
  | [], _, n + 1, h => by cases (show _ = ([] : List V) from h); exact rfl
  | q :: ps, _, n + 1, ⟨w, r, h1, h2, h3⟩ => by subst h1; exact RepL.drop n h3
theorem RepL.replicate {p : PV} {v : V} (h : Rep K F p v) : ∀ n, RepL K F (List.replicate n p) (List.replicate n v)
  | 0 => rfl
  | n + 1 => ⟨v, _, rfl, h, RepL.replicate h n⟩
theorem RepL.ints : ∀ {ns : List Int} {vs : List V}, RepL K F (ns.map PV.int) vs → vs = ns.map V.int
  | [], _, h => h
  | n :: ns, _, ⟨v, r, h1, h2, h3⟩ => by rw [h1, show v = V.int n from h2, RepL.ints h3]; rfl
theorem RepL.of_ints : ∀ {ns : List Int}, RepL K F (ns.map PV.int) (ns.map V.int)
  | [] => rfl
  | n :: ns => ⟨_, _, rfl, rfl, RepL.of_ints⟩
end

/-! ## slots, states -/
inductive Slot where
  | dead
  | sh (p : PV)
  | own (p : PV)
  | mt
  | bor (p : PV)
  | exc (c : Str) (ns : List Str) (ps : List PV)
  deriving Inhabited
abbrev SEnv := List Slot

/-- the object at a, its items frozen -/
def Own (K : Frag) (F H : Hp) (a : Addr) : PV → Prop
  | .lst ps => ∃ vs, H a = some (.lst vs) ∧ RepL K F ps vs
  | .dct ks ps => ∃ vs, H a = some (.dK (ks.zip vs)) ∧ ks.length = vs.length ∧ RepL K F ps vs
  | .ins c ns ps => ∃ dx vs, H a = some (.ins (He.ga K c) dx (ns.zip vs)) ∧ ns.length = vs.length ∧ RepL K F ps vs
  | _ => False

theorem Own.mono {K : Frag} {F F' H H' : Hp} {a : Addr} (e : Same F F') (k : ∀ o, H a = some o → H' a = some o) : ∀ {p : PV}, Own K F H a p → Own K F' H' a p
  | .lst ps, ⟨vs, h1, h2⟩ => ⟨vs, k _ h1, RepL.mono e _ _ h2⟩
  | .dct ks ps, ⟨vs, h1, h2, h3⟩ => ⟨vs, k _ h1, h2, RepL.mono e _ _ h3⟩
  | .ins c ns ps, ⟨dx, vs, h1, h2, h3⟩ => ⟨dx, vs, k _ h1, h2, RepL.mono e _ _ h3⟩
  | .non, h => h.elim
  | .bl _, h => h.elim
  | .int _, h => h.elim
  | .str _, h => h.elim
  | .tup _, h => h.elim
  | .scr _, h => h.elim
theorem Own.there {K : Frag} {F H : Hp} {a : Addr} : ∀ {p : PV}, Own K F H a p → H a ≠ none
  | .lst ps, ⟨vs, h1, _⟩ => by rw [h1]; simp
  | .dct ks ps, ⟨vs, h1, _⟩ => by rw [h1]; simp
  | .ins c ns ps, ⟨dx, vs, h1, _⟩ => by rw [h1]; simp
  | .non, h => h.elim
  | .bl _, h => h.elim
  | .int _, h => h.elim
  | .str _, h => h.elim
  | .tup _, h => h.elim
  | .scr _, h => h.elim
/-- frozen -/
theorem Own.rep {K : Frag} {F H : Hp} {a : Addr} {o : HO} (ho : H a = some o) (hn : F a = none) : ∀ {p : PV}, Own K F H a p → Rep K (upd F a o) p (.ref a)
  | .lst ps, ⟨vs, h1, h2⟩ => by
    rw [ho] at h1; cases h1
    exact ⟨a, vs, rfl, upd_same, RepL.mono (fun b u e => by rw [upd_ne (ne_of_none e hn)]; exact e) _ _ h2⟩
  | .dct ks ps, ⟨vs, h1, h2, h3⟩ => by
    rw [ho] at h1; cases h1
    exact ⟨a, vs, rfl, upd_same, h2, RepL.mono (fun b u e => by rw [upd_ne (ne_of_none e hn)]; exact e) _ _ h3⟩
  | .ins c ns ps, ⟨dx, vs, h1, h2, h3⟩ => by
    rw [ho] at h1; cases h1
    exact ⟨a, dx, vs, rfl, upd_same, h2, RepL.mono (fun b u e => by rw [upd_ne (ne_of_none e hn)]; exact e) _ _ h3⟩
  | .non, h => h.elim
  | .bl _, h => h.elim
  | .int _, h => h.elim
  | .str _, h => h.elim
  | .tup _, h => h.elim
  | .scr _, h => h.elim

/-- the base of a def's run: the frozen heap and the heap at its entry, the object that it may change, the exception at hand -/
structure Bs where
  F0 : Hp
  H0 : Hp
  ma : Option Addr
  xa : Option (Addr × Addr × Str)

def isOwn : Slot → Bool
  | .own _ => true
  | .mt => true
  | _ => false

def SlotOk (K : Frag) (B : Bs) (F H : Hp) (st : PV) (o : Option V) : Slot → Prop
  | .dead => True
  | .sh p => ∃ v, o = some v ∧ Rep K F p v
  | .own p => ∃ a, o = some (.ref a) ∧ F a = none ∧ B.H0 a = none ∧ Own K F H a p
  | .mt => ∃ a, o = some (.ref a) ∧ F a = none ∧ (B.ma = some a ∨ (B.ma = none ∧ B.H0 a = none)) ∧ Own K F H a st
  | .bor p => ∃ v, o = some v ∧ (Rep K F p v ∨ ∃ a, v = .ref a ∧ B.ma ≠ some a ∧ Own K F B.H0 a p)
  | .exc c ns ps => ∃ a d vs, B.xa = some (a, d, c) ∧ o = some (.ref a) ∧ F d = some (.xd (ns.zip vs)) ∧ ns.length = vs.length ∧ RepL K F ps vs

structure Good (K : Frag) (B : Bs) (F H : Hp) (env : SEnv) (st : PV) (σ : Sg) : Prop where
  le : Same F H
  le0 : Same B.F0 F
  kept : ∀ a o, B.H0 a = some o → B.ma ≠ some a → H a = some o
  there : ∀ a, B.H0 a ≠ none → H a ≠ none
  frs : ∀ a, F a ≠ none → B.F0 a ≠ none ∨ B.H0 a = none
  len : env.length = σ.length
  slots : ∀ (i : Nat) (s : Slot), env[i]? = some s → ∃ o, σ[i]? = some o ∧ SlotOk K B F H st o s
  sep : ∀ (i j : Nat) (s t : Slot) (a : Addr), i ≠ j → env[i]? = some s → env[j]? = some t → isOwn s = true → isOwn t = true → σ[i]? = some (some (.ref a)) → σ[j]? = some (some (.ref a)) → False
  mt1 : ∀ (i j : Nat), env[i]? = some Slot.mt → env[j]? = some Slot.mt → i = j

/-- the object that expressions may change -/
def MtA (env : SEnv) (σ : Sg) (a : Addr) : Prop := ∃ i : Nat, env[i]? = some Slot.mt ∧ σ[i]? = some (some (.ref a))

/-- what an expression may do -/
structure Stp (env : SEnv) (σ : Sg) (F H F' H' : Hp) : Prop where
  le : Same F F'
  keep : ∀ a o, H a = some o → ¬ MtA env σ a → H' a = some o
  frz : ∀ a, F' a ≠ none → F a ≠ none ∨ H a = none
  there : ∀ a, H a ≠ none → H' a ≠ none
theorem Stp.refl {env : SEnv} {σ : Sg} {F H : Hp} : Stp env σ F H F H := ⟨Same.refl F, fun _ _ h _ => h, fun _ h => .inl h, fun _ h => h⟩
theorem Stp.trans {env : SEnv} {σ : Sg} {F H F1 H1 F2 H2 : Hp} (s : Stp env σ F H F1 H1) (t : Stp env σ F1 H1 F2 H2) : Stp env σ F H F2 H2 where
  le := s.le.trans t.le
  keep := fun a o h n => t.keep a o (s.keep a o h n) n
  frz := fun a h => by
    rcases t.frz a h with h | h
    · exact s.frz a h
    · refine .inr ?_
      cases e : H a with
      | none => rfl
      | some o => exact absurd h (s.there a (by rw [e]; simp))
  there := fun a h => t.there a (s.there a h)

/-- a value that is read: frozen, or the object of a slot -/
def RT (K : Frag) (F H : Hp) (env : SEnv) (σ : Sg) (p : PV) (v : V) : Prop := Rep K F p v ∨ ∃ a, v = .ref a ∧ ¬ MtA env σ a ∧ Own K F H a p
theorem RT.step {K : Frag} {F H F' H' : Hp} {env : SEnv} {σ : Sg} {p : PV} {v : V} (s : Stp env σ F H F' H') (h : RT K F H env σ p v) : RT K F' H' env σ p v := by
  rcases h with h | ⟨a, e, n, h⟩
  · exact .inl (Rep.mono s.le _ _ h)
  · exact .inr ⟨a, e, n, Own.mono s.le (fun o ho => s.keep a o ho n) h⟩

/-! ## results -/
inductive ER (α : Type) where
  | ok (a : α) (st : PV)
  | exc (c : Str) (ns : List Str) (ps : List PV) (st : PV)
  | stuck
def ER.bind {α β : Type} (r : ER α) (g : α → PV → ER β) : ER β := match r with
  | .ok a st => g a st
  | .exc c ns ps st => .exc c ns ps st
  | .stuck => .stuck
@[simp] theorem ER.bind_ok {α β : Type} (a : α) (st : PV) (g : α → PV → ER β) : (ER.ok a st).bind g = g a st := (rfl)
@[simp] theorem ER.bind_exc {α β : Type} (c : Str) (ns : List Str) (ps : List PV) (st : PV) (g : α → PV → ER β) : (ER.exc c ns ps st : ER α).bind g = .exc c ns ps st := (rfl)
@[simp] theorem ER.bind_stuck {α β : Type} (g : α → PV → ER β) : (ER.stuck : ER α).bind g = .stuck := (rfl)

/-- what is to be shown of a result -/
def EPost {α : Type} (K : Frag) (B : Bs) (W : WX) (env : SEnv) (σ : Sg) (F H : Hp) (R : α → PV → Hp → Hp → Prop) : ER α → Prop
  | .ok a st => ∀ F' H', Stp env σ F H F' H' → Good K B F' H' env st σ → R a st F' H'
  | .exc c ns ps st => ∀ F' H' d vs, Same F F' → Good K B F' H' env st σ → F' d = some (.xd (ns.zip vs)) → ns.length = vs.length → RepL K F' ps vs → W (.ref (He.ga K c)) (some d) σ H'
  | .stuck => False

section
variable {K : Frag} {B : Bs} {W : WX} {env : SEnv} {σ : Sg} {F H : Hp} {α β : Type}
theorem EPost.mono {R R' : α → PV → Hp → Hp → Prop} {r : ER α} (h : EPost K B W env σ F H R r) (k : ∀ a st F' H', Stp env σ F H F' H' → Good K B F' H' env st σ → R a st F' H' → R' a st F' H') : EPost K B W env σ F H R' r := by
  cases r with
  | ok a st => exact fun F' H' s g => k a st F' H' s g (h F' H' s g)
  | exc c ns ps st => exact h
  | stuck => exact h
theorem EPost.step {R : α → PV → Hp → Hp → Prop} {r : ER α} {F1 H1 : Hp} (s : Stp env σ F H F1 H1) (h : EPost K B W env σ F H R r) : EPost K B W env σ F1 H1 R r := by
  cases r with
  | ok a st => exact fun F' H' s' g => h F' H' (s.trans s') g
  | exc c ns ps st => exact fun F' H' d vs e => h F' H' d vs (s.le.trans e)
  | stuck => exact h
theorem EPost.bind {R : β → PV → Hp → Hp → Prop} {r : ER α} {g : α → PV → ER β} (h : EPost K B W env σ F H R (r.bind g)) : EPost K B W env σ F H (fun a st F1 H1 => EPost K B W env σ F1 H1 R (g a st)) r := by
  cases r with
  | ok a st => exact fun F1 H1 s g' => EPost.step s h
  | exc c ns ps st => exact h
  | stuck => exact h
end

abbrev EF := SEnv → PV → ER PV
abbrev TF := SEnv → PV → ER Bool
abbrev AF := SEnv → PV → ER (List PV)

/-- an expression's reading by its meaning: its value is frozen; is read; is a new object of its own -/
def tE (K : Frag) (B : Bs) (W : WX) (f : EF) : TE := fun σ H Q => ∃ F env st, Good K B F H env st σ ∧ EPost K B W env σ F H (fun p _ F' H' => ∀ v, Rep K F' p v → Q v H') (f env st)
def tR (K : Frag) (B : Bs) (W : WX) (f : EF) : TE := fun σ H Q => ∃ F env st, Good K B F H env st σ ∧ EPost K B W env σ F H (fun p _ F' H' => ∀ v, RT K F' H' env σ p v → Q v H') (f env st)
def tO (K : Frag) (B : Bs) (W : WX) (f : EF) : TE := fun σ H Q => ∃ F env st, Good K B F H env st σ ∧ EPost K B W env σ F H (fun p _ F' H' => ∀ a, H a = none → F' a = none → Own K F' H' a p → Q (.ref a) H') (f env st)
def tT (K : Frag) (B : Bs) (W : WX) (f : TF) : TT := fun σ H Q => ∃ F env st, Good K B F H env st σ ∧ EPost K B W env σ F H (fun b _ _ H' => Q b H') (f env st)
structure QE (X : Cx) (B : Bs) (W : WX) (e : Expr) (f : EF) : Prop where
  pe : PE X e (tE X.K B W f)
structure QR (X : Cx) (B : Bs) (W : WX) (e : Expr) (f : EF) : Prop where
  pe : PE X e (tR X.K B W f)
structure QO (X : Cx) (B : Bs) (W : WX) (e : Expr) (f : EF) : Prop where
  pe : PE X e (tO X.K B W f)
structure QT (X : Cx) (B : Bs) (W : WX) (e : Expr) (f : TF) : Prop where
  pt : PT X e (tT X.K B W f)

theorem pe_imp {X : Cx} {e : Expr} {t t' : TE} (h : PE X e t) (k : ∀ σ H Q, t' σ H Q → t σ H Q) : PE X e t' := ⟨fun pins s σ H Q I q => h.run pins s σ H Q I (k σ H Q q)⟩
theorem pt_imp {X : Cx} {e : Expr} {t t' : TT} (h : PT X e t) (k : ∀ σ H Q, t' σ H Q → t σ H Q) : PT X e t' := ⟨fun pins s σ H Q I q => h.run pins s σ H Q I (k σ H Q q)⟩
theorem pa_imp {X : Cx} {es : List Expr} {t t' : TA} (h : PA X es t) (k : ∀ σ H Q, t' σ H Q → t σ H Q) : PA X es t' := ⟨fun pos pins s σ H Q I q => h.run pos pins s σ H Q I (k σ H Q q)⟩
theorem ps_imp {X : Cx} {st : Stmt} {t t' : TS} (h : PS X st t) (k : ∀ D σ H, t' D σ H → t D σ H) : PS X st t' := ⟨fun pins s σ H D I q => h.run pins s σ H D I (k D σ H q)⟩
theorem pss_imp {X : Cx} {st : List Stmt} {t t' : TS} (h : PSs X st t) (k : ∀ D σ H, t' D σ H → t D σ H) : PSs X st t' := ⟨fun pins s σ H D I q => h.run pins s σ H D I (k D σ H q)⟩

/-! ## states: new objects -/
section
variable {K : Frag} {B : Bs} {env : SEnv} {st : PV} {σ : Sg} {F H : Hp}
theorem Same.upd_new {G : Hp} {a : Addr} {o : HO} (h : G a = none) : Same G (upd G a o) := fun b u e => by rw [upd_ne (ne_of_none e h)]; exact e
theorem Good.fnone (g : Good K B F H env st σ) {a : Addr} (h : H a = none) : F a = none := by
  cases e : F a with
  | none => rfl
  | some o => have := g.le a o e; rw [h] at this; cases this
theorem Good.h0none (g : Good K B F H env st σ) {a : Addr} (h : H a = none) : B.H0 a = none := by
  cases e : B.H0 a with
  | none => rfl
  | some o => exact absurd h (g.there a (by rw [e]; simp))
theorem SlotOk.mono {F' H' : Hp} {o : Option V} {s : Slot} (e : Same F F') (hf : ∀ a, F a = none → H a ≠ none → F' a = none) (k : ∀ a o, H a = some o → H' a = some o) (h : SlotOk K B F H st o s) : SlotOk K B F' H' st o s := by
  cases s with
  | dead => trivial
  | sh p => obtain ⟨v, h1, h2⟩ := h; exact ⟨v, h1, Rep.mono e _ _ h2⟩
  | own p => obtain ⟨a, h1, h2, h3, h4⟩ := h; exact ⟨a, h1, hf a h2 h4.there, h3, h4.mono e (k a)⟩
  | mt => obtain ⟨a, h1, h2, h3, h4⟩ := h; exact ⟨a, h1, hf a h2 h4.there, h3, h4.mono e (k a)⟩
  | bor p =>
    obtain ⟨v, h1, h2⟩ := h
    refine ⟨v, h1, ?_⟩
    rcases h2 with h2 | ⟨a, h2, h3, h4⟩
    · exact .inl (Rep.mono e _ _ h2)
    · exact .inr ⟨a, h2, h3, h4.mono e fun _ z => z⟩
  | exc c ns ps => obtain ⟨a, d, vs, h0, h1, h2, h3, h4⟩ := h; exact ⟨a, d, vs, h0, h1, e _ _ h2, h3, RepL.mono e _ _ h4⟩
/-- a new object, frozen at once -/
theorem Good.alloc (g : Good K B F H env st σ) {a : Addr} {o : HO} (h : H a = none) : Good K B (upd F a o) (upd H a o) env st σ where
  le := fun b u e => by
    by_cases hb : b = a
    · subst hb; rw [upd_same] at e ⊢; exact e
    · rw [upd_ne hb] at e ⊢; exact g.le b u e
  le0 := g.le0.trans (Same.upd_new (g.fnone h))
  kept := fun b u e n => Same.upd_new h b u (g.kept b u e n)
  there := fun b e => by
    by_cases hb : b = a
    · subst hb; rw [upd_same]; simp
    · rw [upd_ne hb]; exact g.there b e
  frs := fun b e => by
    by_cases hb : b = a
    · subst hb; exact .inr (g.h0none h)
    · rw [upd_ne hb] at e; exact g.frs b e
  len := g.len
  slots := fun i s e => by
    obtain ⟨w, h1, h2⟩ := g.slots i s e
    exact ⟨w, h1, h2.mono (Same.upd_new (g.fnone h)) (fun b h3 h4 => by
      by_cases hb : b = a
      · subst hb; exact absurd h h4
      · rw [upd_ne hb]; exact h3) (Same.upd_new h)⟩
  sep := g.sep
  mt1 := g.mt1
/-- a new object, not frozen -/
theorem Good.alloc0 (g : Good K B F H env st σ) {a : Addr} {o : HO} (h : H a = none) : Good K B F (upd H a o) env st σ where
  le := fun b u e => Same.upd_new h b u (g.le b u e)
  le0 := g.le0
  kept := fun b u e n => Same.upd_new h b u (g.kept b u e n)
  there := fun b e => by
    by_cases hb : b = a
    · subst hb; rw [upd_same]; simp
    · rw [upd_ne hb]; exact g.there b e
  frs := g.frs
  len := g.len
  slots := fun i s e => by
    obtain ⟨w, h1, h2⟩ := g.slots i s e
    exact ⟨w, h1, h2.mono (Same.refl F) (fun _ h _ => h) (Same.upd_new h)⟩
  sep := g.sep
  mt1 := g.mt1
theorem Stp.alloc {a : Addr} {o : HO} (hf : F a = none) (h : H a = none) : Stp env σ F H (upd F a o) (upd H a o) where
  le := Same.upd_new hf
  keep := fun b u e _ => Same.upd_new h b u e
  frz := fun b e => by
    by_cases hb : b = a
    · subst hb; exact .inr h
    · rw [upd_ne hb] at e; exact .inl e
  there := fun b e => by
    by_cases hb : b = a
    · subst hb; rw [upd_same]; simp
    · rw [upd_ne hb]; exact e
theorem Stp.alloc0 {a : Addr} {o : HO} (h : H a = none) : Stp env σ F H F (upd H a o) where
  le := Same.refl F
  keep := fun b u e _ => Same.upd_new h b u e
  frz := fun b e => .inl e
  there := fun b e => by
    by_cases hb : b = a
    · subst hb; rw [upd_same]; simp
    · rw [upd_ne hb]; exact e
/-- freezing an object that no slot owns -/
theorem Good.freeze (g : Good K B F H env st σ) {a : Addr} {o : HO} (h : H a = some o) (hn : F a = none) (h0 : B.H0 a = none) (hs : ∀ (i : Nat) (s : Slot), env[i]? = some s → isOwn s = true → σ[i]? ≠ some (some (.ref a))) : Good K B (upd F a o) H env st σ where
  le := fun b u e => by
    by_cases hb : b = a
    · subst hb; rw [upd_same] at e; cases e; exact h
    · rw [upd_ne hb] at e; exact g.le b u e
  le0 := g.le0.trans (Same.upd_new hn)
  kept := g.kept
  there := g.there
  frs := fun b e => by
    by_cases hb : b = a
    · subst hb; exact .inr h0
    · rw [upd_ne hb] at e; exact g.frs b e
  len := g.len
  slots := fun i s e => by
    obtain ⟨w, h1, h2⟩ := g.slots i s e
    refine ⟨w, h1, ?_⟩
    have m : Same F (upd F a o) := Same.upd_new hn
    cases s with
    | dead => trivial
    | sh p => obtain ⟨v, h3, h4⟩ := h2; exact ⟨v, h3, Rep.mono m _ _ h4⟩
    | own p =>
      obtain ⟨b, h3, h4, h5, h6⟩ := h2
      refine ⟨b, h3, ?_, h5, h6.mono m fun _ z => z⟩
      have hb : b ≠ a := fun z => hs i _ e rfl (by rw [h1, h3, z])
      rw [upd_ne hb]; exact h4
    | mt =>
      obtain ⟨b, h3, h4, h5, h6⟩ := h2
      refine ⟨b, h3, ?_, h5, h6.mono m fun _ z => z⟩
      have hb : b ≠ a := fun z => hs i _ e rfl (by rw [h1, h3, z])
      rw [upd_ne hb]; exact h4
    | bor p =>
      obtain ⟨v, h3, h4⟩ := h2
      refine ⟨v, h3, ?_⟩
      rcases h4 with h4 | ⟨b, h4, h5, h6⟩
      · exact .inl (Rep.mono m _ _ h4)
      · exact .inr ⟨b, h4, h5, h6.mono m fun _ z => z⟩
    | exc c ns ps => obtain ⟨b, d, vs, h0, h3, h4, h5, h6⟩ := h2; exact ⟨b, d, vs, h0, h3, m _ _ h4, h5, RepL.mono m _ _ h6⟩
  sep := g.sep
  mt1 := g.mt1
theorem Good.mtNone (g : Good K B F H env st σ) {a : Addr} (h : H a = none) : ¬ MtA env σ a := fun ⟨i, h1, h2⟩ => by
  obtain ⟨w, h3, h4⟩ := g.slots i _ h1
  obtain ⟨b, h5, _, _, h6⟩ := h4
  rw [h2] at h3; cases h3; cases h5
  exact h6.there h
theorem Good.ownNone (g : Good K B F H env st σ) {a : Addr} (h : H a = none) : ∀ (i : Nat) (s : Slot), env[i]? = some s → isOwn s = true → σ[i]? ≠ some (some (.ref a)) := fun i s h1 h2 h3 => by
  obtain ⟨w, h4, h5⟩ := g.slots i s h1
  rw [h3] at h4; cases h4
  cases s with
  | own p => obtain ⟨b, h5, _, _, h6⟩ := h5; cases h5; exact h6.there h
  | mt => obtain ⟨b, h5, _, _, h6⟩ := h5; cases h5; exact h6.there h
  | _ => cases h2
end

/-! ## from one reading to another -/
section
variable {X : Cx} {B : Bs} {W : WX} {e : Expr} {f : EF}
theorem QE.rd (h : QE X B W e f) : QR X B W e f := ⟨pe_imp h.pe fun σ H Q ⟨F, env, st, g, q⟩ => ⟨F, env, st, g, q.mono fun _ _ _ _ _ _ r v hv => r v (.inl hv)⟩⟩
/-- a new object is frozen -/
theorem QO.fz (h : QO X B W e f) : QE X B W e f := ⟨pe_imp h.pe fun σ H Q ⟨F, env, st, g, q⟩ => ⟨F, env, st, g, by
  cases hr : f env st with
  | stuck => rw [hr] at q; exact q
  | exc c ns ps st' => rw [hr] at q; exact q
  | ok p st' =>
    rw [hr] at q
    intro F' H' s g' a ha hf ho
    obtain ⟨o, hao⟩ : ∃ o, H' a = some o := by
      cases z : H' a with
      | none => exact absurd z ho.there
      | some o => exact ⟨o, rfl⟩
    have hm : ¬ MtA env σ a := g.mtNone ha
    refine q (upd F' a o) H' ⟨s.le.trans (Same.upd_new hf), s.keep, fun b hb => ?_, s.there⟩ (g'.freeze hao hf (g.h0none ha) (g.ownNone ha)) _ (ho.rep hao hf)
    by_cases hb' : b = a
    · subst hb'; exact .inr ha
    · rw [upd_ne hb'] at hb; exact s.frz b hb⟩⟩
end

end KI

/-! part KI2 -/
set_option Elab.async false
set_option linter.all false
set_option maxRecDepth 100000
set_option maxHeartbeats 4000000
namespace KI
open PySem PySem.Spec PyProof.Rows L2

/-! ## statements -/
inductive SR where
  | nx (env : SEnv) (st : PV)
  | brk (env : SEnv) (st : PV)
  | ct (env : SEnv) (st : PV)
  | ret (p : PV) (own : Bool) (env : SEnv) (st : PV)
  | exc (c : Str) (ns : List Str) (ps : List PV) (env : SEnv) (st : PV)
  | stuck
abbrev SF := SEnv → PV → SR

/-- what a return hands back -/
def RetOk (K : Frag) (B : Bs) (F H : Hp) (own : Bool) (p : PV) (v : V) : Prop :=
  if own = true then ∃ a, v = .ref a ∧ F a = none ∧ B.H0 a = none ∧ Own K F H a p else Rep K F p v

def SPost (K : Frag) (B : Bs) (W : WX) (D : Ends) (F : Hp) : SR → Prop
  | .nx env st => ∀ σ' F' H', Same F F' → Good K B F' H' env st σ' → D.nx σ' H'
  | .brk env st => ∀ σ' F' H', Same F F' → Good K B F' H' env st σ' → D.bk σ' H'
  | .ct env st => ∀ σ' F' H', Same F F' → Good K B F' H' env st σ' → D.ct σ' H'
  | .ret p own env st => ∀ v σ' F' H', Same F F' → Good K B F' H' env st σ' → RetOk K B F' H' own p v → D.rt v H'
  | .exc c ns ps env st => ∀ σ' F' H' d vs, Same F F' → Good K B F' H' env st σ' → F' d = some (.xd (ns.zip vs)) → ns.length = vs.length → RepL K F' ps vs → W (.ref (He.ga K c)) (some d) σ' H'
  | .stuck => False
theorem SPost.mono {K : Frag} {B : Bs} {W : WX} {D : Ends} {F F1 : Hp} {r : SR} (s : Same F F1) (h : SPost K B W D F r) : SPost K B W D F1 r := by
  cases r with
  | nx env st => exact fun σ' F' H' e => h σ' F' H' (s.trans e)
  | brk env st => exact fun σ' F' H' e => h σ' F' H' (s.trans e)
  | ct env st => exact fun σ' F' H' e => h σ' F' H' (s.trans e)
  | ret p o env st => exact fun v σ' F' H' e => h v σ' F' H' (s.trans e)
  | exc c ns ps env st => exact fun σ' F' H' d vs e => h σ' F' H' d vs (s.trans e)
  | stuck => exact h

def tS (K : Frag) (B : Bs) (W : WX) (g : SF) : TS := fun D σ H => ∃ F env st, Good K B F H env st σ ∧ SPost K B W D F (g env st)
structure QS (X : Cx) (B : Bs) (W : WX) (s : Stmt) (g : SF) : Prop where
  ps : PS X s (tS X.K B W g)
structure QSs (X : Cx) (B : Bs) (W : WX) (ss : List Stmt) (g : SF) : Prop where
  pss : PSs X ss (tS X.K B W g)

/-- an expression's result within a statement -/
def liftS {α : Type} (r : ER α) (env : SEnv) (k : α → PV → SR) : SR := match r with
  | .ok a st => k a st
  | .exc c ns ps st => .exc c ns ps env st
  | .stuck => .stuck
@[simp] theorem liftS_ok {α : Type} (a : α) (st : PV) (env : SEnv) (k : α → PV → SR) : liftS (.ok a st) env k = k a st := (rfl)
@[simp] theorem liftS_exc {α : Type} (c : Str) (ns : List Str) (ps : List PV) (st : PV) (env : SEnv) (k : α → PV → SR) : liftS (.exc c ns ps st : ER α) env k = .exc c ns ps env st := (rfl)
@[simp] theorem liftS_stuck {α : Type} (env : SEnv) (k : α → PV → SR) : liftS (.stuck : ER α) env k = .stuck := (rfl)
theorem SPost.lift {α : Type} {K : Frag} {B : Bs} {W : WX} {D : Ends} {F H : Hp} {env : SEnv} {σ : Sg} {r : ER α} {k : α → PV → SR} (h : SPost K B W D F (liftS r env k)) :
    EPost K B W env σ F H (fun a st F' H' => SPost K B W D F' (k a st)) r := by
  cases r with
  | ok a st => exact fun F' H' s g => SPost.mono s.le h
  | exc c ns ps st => exact fun F' H' d vs e g => h σ F' H' d vs e g
  | stuck => exact h

section
variable {X : Cx} {B : Bs} {W : WX} {s : Stmt} {ss : List Stmt} {g g1 g2 : SF} {e : Expr} {f : EF}

def nxS : SF := fun env st => .nx env st
def seqS (g1 g2 : SF) : SF := fun env st => match g1 env st with
  | .nx env' st' => g2 env' st'
  | r => r
theorem qss_nil : QSs X B W [] nxS := ⟨pss_imp pss_nil fun D σ H ⟨F, env, st, g, q⟩ => q σ F H (Same.refl F) g⟩
theorem seq_post {K : Frag} {D : Ends} {F : Hp} {r : SR} (q : SPost K B W D F (match r with | .nx env' st' => g2 env' st' | r => r)) : SPost K B W { D with nx := tS K B W g2 D } F r := by
  cases r with
  | nx env st => exact fun σ' F' H' e g' => ⟨F', env, st, g', SPost.mono e q⟩
  | brk env st => exact q
  | ct env st => exact q
  | ret p o env st => exact q
  | exc c ns ps env st => exact q
  | stuck => exact q
theorem qss_cons (h1 : QS X B W s g1) (h2 : QSs X B W ss g2) : QSs X B W (s :: ss) (seqS g1 g2) :=
  ⟨pss_imp (pss_cons h1.ps h2.pss) fun D σ H ⟨F, env, st, g, q⟩ => ⟨F, env, st, g, seq_post q⟩⟩
theorem qss_one (h1 : QS X B W s g1) : QSs X B W [s] g1 := ⟨pss_one h1.ps⟩
theorem qss_never : QSs X B W ss (fun _ _ => .stuck) := ⟨pss_imp pss_never fun D σ H ⟨F, env, st, g, q⟩ => q⟩
theorem qs_never : QS X B W s (fun _ _ => .stuck) := ⟨ps_imp ps_never fun D σ H ⟨F, env, st, g, q⟩ => q⟩

/-! ### slots set, frozen, forgotten -/
theorem set_get {α : Type} {l : List α} {i j : Nat} {a x : α} (h : (l.set i a)[j]? = some x) : (i = j ∧ x = a ∧ j < l.length) ∨ (i ≠ j ∧ l[j]? = some x) := by
  by_cases e : i = j
  · subst e
    by_cases hl : i < l.length
    · rw [List.getElem?_set_self hl] at h; exact .inl ⟨rfl, (Option.some.inj h).symm, hl⟩
    · rw [List.getElem?_eq_none (by simpa using hl)] at h; cases h
  · rw [List.getElem?_set_ne e] at h; exact .inr ⟨e, h⟩
theorem Good.set {K : Frag} {F H : Hp} {env : SEnv} {st : PV} {σ : Sg} (g : Good K B F H env st σ) (i : Nat) {v : V} {s : Slot} (hs : SlotOk K B F H st (some v) s)
    (hd : isOwn s = true → ∀ (j : Nat) (t : Slot) (a : Addr), env[j]? = some t → isOwn t = true → σ[j]? = some (some (.ref a)) → v ≠ .ref a) (hm : s ≠ .mt := by exact fun z => nomatch z) : Good K B F H (env.set i s) st (σ.set i (some v)) where
  mt1 := fun j k h1 h2 => by
    rcases set_get h1 with ⟨_, z, _⟩ | ⟨_, h1⟩
    · exact absurd z.symm hm
    · rcases set_get h2 with ⟨_, z, _⟩ | ⟨_, h2⟩
      · exact absurd z.symm hm
      · exact g.mt1 j k h1 h2
  le := g.le
  le0 := g.le0
  kept := g.kept
  there := g.there
  frs := g.frs
  len := by rw [List.length_set, List.length_set]; exact g.len
  slots := fun j t h => by
    rcases set_get h with ⟨rfl, rfl, hl⟩ | ⟨ne, h⟩
    · refine ⟨some v, ?_, hs⟩
      rw [List.getElem?_set_self (by rw [← g.len]; exact hl)]
    · obtain ⟨o, h1, h2⟩ := g.slots j t h
      exact ⟨o, by rw [List.getElem?_set_ne ne]; exact h1, h2⟩
  sep := fun j k t u a ne h1 h2 o1 o2 e1 e2 => by
    rcases set_get h1 with ⟨rfl, rfl, hl⟩ | ⟨n1, h1'⟩
    · rcases set_get h2 with ⟨rfl, rfl, _⟩ | ⟨n2, h2'⟩
      · exact ne rfl
      · rw [List.getElem?_set_self (by rw [← g.len]; exact hl)] at e1
        rw [List.getElem?_set_ne n2] at e2
        exact hd o1 k u a h2' o2 e2 (Option.some.inj (Option.some.inj e1))
    · rw [List.getElem?_set_ne n1] at e1
      rcases set_get h2 with ⟨rfl, rfl, hl⟩ | ⟨n2, h2'⟩
      · rw [List.getElem?_set_self (by rw [← g.len]; exact hl)] at e2
        exact hd o2 j t a h1' o1 e1 (Option.some.inj (Option.some.inj e2))
      · rw [List.getElem?_set_ne n2] at e2
        exact g.sep j k t u a ne h1' h2' o1 o2 e1 e2
/-- the slot's reading changes, its value does not -/
theorem Good.turn {K : Frag} {F H : Hp} {env : SEnv} {st : PV} {σ : Sg} (g : Good K B F H env st σ) (i : Nat) {s s' : Slot} (hi : env[i]? = some s) (ho : isOwn s' = true → isOwn s = true) (hs : ∀ o, σ[i]? = some o → SlotOk K B F H st o s → SlotOk K B F H st o s') (hm : s' = .mt → s = .mt := by exact fun z => nomatch z) : Good K B F H (env.set i s') st σ where
  mt1 := fun j k h1 h2 => by
    rcases set_get h1 with ⟨e1, z, _⟩ | ⟨_, h1'⟩
    · have hi' : env[i]? = some .mt := by rw [hi, hm z.symm]
      rcases set_get h2 with ⟨e2, z2, _⟩ | ⟨_, h2'⟩
      · exact e1.symm.trans e2
      · exact e1.symm.trans (g.mt1 i k hi' h2')
    · rcases set_get h2 with ⟨e2, z2, _⟩ | ⟨_, h2'⟩
      · have hi' : env[i]? = some .mt := by rw [hi, hm z2.symm]
        exact (g.mt1 j i h1' hi').trans e2
      · exact g.mt1 j k h1' h2'
  le := g.le
  le0 := g.le0
  kept := g.kept
  there := g.there
  frs := g.frs
  len := by rw [List.length_set]; exact g.len
  slots := fun j t h => by
    rcases set_get h with ⟨rfl, rfl, hl⟩ | ⟨ne, h⟩
    · obtain ⟨o, h1, h2⟩ := g.slots i s hi
      exact ⟨o, h1, hs o h1 h2⟩
    · exact g.slots j t h
  sep := fun j k t u a ne h1 h2 o1 o2 e1 e2 => by
    rcases set_get h1 with ⟨rfl, rfl, hl⟩ | ⟨n1, h1'⟩
    · rcases set_get h2 with ⟨rfl, rfl, _⟩ | ⟨n2, h2'⟩
      · exact ne rfl
      · exact g.sep i k s u a ne hi h2' (ho o1) o2 e1 e2
    · rcases set_get h2 with ⟨rfl, rfl, hl⟩ | ⟨n2, h2'⟩
      · exact g.sep j i t s a ne h1' hi o1 (ho o2) e1 e2
      · exact g.sep j k t u a ne h1' h2' o1 o2 e1 e2
theorem Good.kill {K : Frag} {F H : Hp} {env : SEnv} {st : PV} {σ : Sg} (g : Good K B F H env st σ) (i : Nat) : Good K B F H (env.set i .dead) st σ := by
  cases h : env[i]? with
  | none =>
    have e : env.set i .dead = env := List.set_eq_of_length_le (List.getElem?_eq_none_iff.mp h)
    rw [e]; exact g
  | some s => exact g.turn i h (fun z => nomatch z) fun _ _ _ => trivial
def killS (is : List Nat) (env : SEnv) : SEnv := is.foldl (fun env i => env.set i .dead) env
theorem Good.kills {K : Frag} {F H : Hp} {st : PV} {σ : Sg} : ∀ (is : List Nat) {env : SEnv}, Good K B F H env st σ → Good K B F H (killS is env) st σ
  | [], _, g => g
  | i :: is, _, g => Good.kills is (g.kill i)
theorem qss_kill (is : List Nat) (h : QSs X B W ss g) : QSs X B W ss (fun env st => g (killS is env) st) :=
  ⟨pss_imp h.pss fun D σ H ⟨F, env, st, g', q⟩ => ⟨F, killS is env, st, g'.kills is, q⟩⟩
/-- forgotten at the end of a block -/
theorem qss_end (is : List Nat) : QSs X B W [] (fun env st => .nx (killS is env) st) := ⟨pss_imp pss_nil fun D σ H ⟨F, env, st, g, q⟩ => q σ F H (Same.refl F) (g.kills is)⟩
def frzE (i : Nat) (env : SEnv) : SEnv := match env[i]? with
  | some (.own p) => env.set i (.sh p)
  | _ => env
theorem Good.frz {K : Frag} {F H : Hp} {env : SEnv} {st : PV} {σ : Sg} (g : Good K B F H env st σ) (i : Nat) : ∃ F', Same F F' ∧ Good K B F' H (frzE i env) st σ := by
  unfold frzE
  cases h : env[i]? with
  | none => exact ⟨F, Same.refl F, g⟩
  | some s =>
    cases s with
    | own p =>
      obtain ⟨o, h1, a, h2, h3, h4, h5⟩ := g.slots i _ h
      subst h2
      obtain ⟨u, hu⟩ : ∃ u, H a = some u := by
        cases z : H a with
        | none => exact absurd z h5.there
        | some u => exact ⟨u, rfl⟩
      have g1 := g.kill i
      refine ⟨upd F a u, Same.upd_new h3, ?_⟩
      have g2 : Good K B (upd F a u) H (env.set i .dead) st σ := g1.freeze hu h3 h4 fun j t e1 e2 e3 => by
        rcases set_get e1 with ⟨rfl, rfl, _⟩ | ⟨ne, e1⟩
        · cases e2
        · exact g.sep i j _ t a ne h e1 rfl e2 h1 e3
      have hi : (env.set i .dead)[i]? = some .dead := List.getElem?_set_self ((List.getElem?_eq_some_iff.mp h).1)
      have g3 := g2.turn i (s' := .sh p) hi (fun z => nomatch z) fun o e _ => by
        rw [h1] at e; cases e
        exact ⟨_, rfl, h5.rep hu h3⟩
      rw [List.set_set] at g3
      exact g3
    | dead => exact ⟨F, Same.refl F, g⟩
    | sh p => exact ⟨F, Same.refl F, g⟩
    | mt => exact ⟨F, Same.refl F, g⟩
    | bor p => exact ⟨F, Same.refl F, g⟩
    | exc c ns ps => exact ⟨F, Same.refl F, g⟩
theorem qss_frz (i : Nat) (h : QSs X B W ss g) : QSs X B W ss (fun env st => g (frzE i env) st) :=
  ⟨pss_imp h.pss fun D σ H ⟨F, env, st, g', q⟩ => by
    obtain ⟨F', s, g2⟩ := g'.frz i
    exact ⟨F', _, st, g2, SPost.mono s q⟩⟩

/-! ### simple statements -/
theorem qs_expr {pos : Pos} (he : QE X B W e f) (hs : swapsWith e none pos.line X.env = pure false := by rfl) : QS X B W (.Expr e pos) (fun env st => liftS (f env st) env fun _ st' => .nx env st') :=
  ⟨ps_imp (ps_expr he.pe hs) fun D σ H ⟨F, env, st, g, q⟩ => ⟨F, env, st, g, q.lift.mono fun p st' F' H' s g' r v hv => r σ F' H' (Same.refl F') g'⟩⟩
theorem qs_pass {pos : Pos} : QS X B W (.Pass pos) nxS := ⟨ps_imp ps_pass fun D σ H ⟨F, env, st, g, q⟩ => q σ F H (Same.refl F) g⟩
theorem qs_break {pos : Pos} : QS X B W (.Break pos) (fun env st => .brk env st) := ⟨ps_imp ps_break fun D σ H ⟨F, env, st, g, q⟩ => q σ F H (Same.refl F) g⟩
theorem qs_continue {pos : Pos} : QS X B W (.Continue pos) (fun env st => .ct env st) := ⟨ps_imp ps_continue fun D σ H ⟨F, env, st, g, q⟩ => q σ F H (Same.refl F) g⟩
def retS (f : EF) : SF := fun env st => liftS (f env st) env fun p st' => .ret p false env st'
def retO (f : EF) : SF := fun env st => liftS (f env st) env fun p st' => .ret p true env st'
theorem qs_ret {pos : Pos} (he : QE X B W e f) : QS X B W (.Return (some e) pos) (retS f) :=
  ⟨ps_imp (ps_ret he.pe) fun D σ H ⟨F, env, st, g, q⟩ => ⟨F, env, st, g, (SPost.lift (H := H) (σ := σ) q).mono fun p st' F' H' s g' r v hv => r v σ F' H' (Same.refl F') g' hv⟩⟩
theorem qs_retO {pos : Pos} (he : QO X B W e f) : QS X B W (.Return (some e) pos) (retO f) :=
  ⟨ps_imp (ps_ret he.pe) fun D σ H ⟨F, env, st, g, q⟩ => ⟨F, env, st, g, (SPost.lift (H := H) (σ := σ) q).mono fun p st' F' H' s g' r a ha hf ho => r (.ref a) σ F' H' (Same.refl F') g' ⟨a, rfl, hf, g.h0none ha, ho⟩⟩⟩
/-- return of a slot's own object -/
def retV (i : Nat) : SF := fun env st => match env[i]? with
  | some (.own p) => .ret p true env st
  | _ => .stuck
theorem qs_retV {pos p1 : Pos} (i : Nat) {x : Str} (hN : X.N[i]? = some x := by rfl) (hv : Vis X.env.scope x := by first | exact Or.inl rfl | exact Or.inr (Or.inl rfl) | exact Or.inr (Or.inr rfl)) (hd : (x == ("__debug__" : Str)) = false := by decide)
    (hcd : (x == ("__classdict__" : Str)) = false := by decide) : QS X B W (.Return (some (.Name x p1)) pos) (retV i) :=
  ⟨ps_imp (ps_ret (pe_var hN hv hd hcd)) fun D σ H ⟨F, env, st, g, q⟩ => by
    unfold retV at q
    cases h : env[i]? with
    | none => rw [h] at q; exact q.elim
    | some s =>
      rw [h] at q
      cases s with
      | own p =>
        obtain ⟨o, h1, a, h2, h3, h4, h5⟩ := g.slots i _ h
        subst h2
        exact ⟨.ref a, h1, q (.ref a) σ F H (Same.refl F) g ⟨a, rfl, h3, h4, h5⟩⟩
      | _ => exact q.elim⟩
theorem qs_retN {pos : Pos} : QS X B W (.Return none pos) (fun env st => .ret .non false env st) :=
  ⟨ps_imp ps_retN fun D σ H ⟨F, env, st, g, q⟩ => q .non σ F H (Same.refl F) g rfl⟩

def setS (i : Nat) (f : EF) : SF := fun env st => liftS (f env st) env fun p st' => .nx (env.set i (.sh p)) st'
def setO (i : Nat) (f : EF) : SF := fun env st => liftS (f env st) env fun p st' => .nx (env.set i (.own p)) st'
theorem set_post {K : Frag} {D : Ends} {F H : Hp} {env : SEnv} {st : PV} {σ : Sg} {i : Nat} (g : Good K B F H env st σ) (q : SPost K B W D F (setS i f env st)) :
    EPost K B W env σ F H (fun p st' F' H' => ∀ v, Rep K F' p v → D.nx (σ.set i (some v)) H') (f env st) :=
  (SPost.lift (H := H) (σ := σ) q).mono fun p st' F' H' s g' r v hv => r (σ.set i (some v)) F' H' (Same.refl F') (g'.set i ⟨v, rfl, hv⟩ fun z => nomatch z)
theorem setO_post {K : Frag} {D : Ends} {F H : Hp} {env : SEnv} {st : PV} {σ : Sg} {i : Nat} (g : Good K B F H env st σ) (q : SPost K B W D F (setO i f env st)) :
    EPost K B W env σ F H (fun p st' F' H' => ∀ a, H a = none → F' a = none → Own K F' H' a p → D.nx (σ.set i (some (.ref a))) H') (f env st) :=
  (SPost.lift (H := H) (σ := σ) q).mono fun p st' F' H' s g' r a ha hf ho => r (σ.set i (some (.ref a))) F' H' (Same.refl F') (g'.set i ⟨a, rfl, hf, g.h0none ha, ho⟩ fun _ j t b e1 e2 e3 z => by
    cases z
    exact g.ownNone ha j t e1 e2 e3)
theorem qs_set {x : Str} {pos pos' : Pos} (i : Nat) (hN : X.N.Nodup) (he : QE X B W e f) (hi : X.N[i]? = some x := by rfl) (hx : Loc X.env.scope x := by first | exact .inl rfl | exact .inr rfl) (hs : swapsWith e (some (.Name x pos')) pos.line X.env = pure false := by rfl) (hf : X.fn x = true ∨ X.env.scope.names.lookup x = some .local := by first | exact .inl rfl | exact .inr rfl) :
    QS X B W (.Assign [.Name x pos'] e pos) (setS i f) :=
  ⟨ps_imp (ps_set hN hi hx he.pe hs hf) fun D σ H ⟨F, env, st, g, q⟩ => ⟨F, env, st, g, set_post g q⟩⟩
theorem qs_setO {x : Str} {pos pos' : Pos} (i : Nat) (hN : X.N.Nodup) (he : QO X B W e f) (hi : X.N[i]? = some x := by rfl) (hx : Loc X.env.scope x := by first | exact .inl rfl | exact .inr rfl) (hs : swapsWith e (some (.Name x pos')) pos.line X.env = pure false := by rfl) (hf : X.fn x = true ∨ X.env.scope.names.lookup x = some .local := by first | exact .inl rfl | exact .inr rfl) :
    QS X B W (.Assign [.Name x pos'] e pos) (setO i f) :=
  ⟨ps_imp (ps_set hN hi hx he.pe hs hf) fun D σ H ⟨F, env, st, g, q⟩ => ⟨F, env, st, g, setO_post g q⟩⟩
/-- the slot becomes the one that expressions change -/
def mtE (i : Nat) (env : SEnv) : Option (SEnv × PV) := match env[i]? with
  | some (.own p) => if env.any (fun s => match s with | .mt => true | _ => false) then none else some (env.set i .mt, p)
  | _ => none
theorem Good.mtE {K : Frag} {F H : Hp} {env env' : SEnv} {st st' : PV} {σ : Sg} {i : Nat} (g' : Good K B F H env st σ) (hB : B.ma = none) (hq : mtE i env = some (env', st')) : Good K B F H env' st' σ := by
  unfold KI.mtE at hq
  cases h : env[i]? with
  | none => rw [h] at hq; cases hq
  | some s =>
    rw [h] at hq
    cases s with
    | own p =>
      dsimp only at hq
      split at hq
      · cases hq
      · rename_i hn
        cases hq
        have nomt : ∀ (j : Nat), env[j]? ≠ some .mt := fun j z => hn (List.any_eq_true.mpr ⟨.mt, List.mem_of_getElem? z, rfl⟩)
        refine ⟨g'.le, g'.le0, g'.kept, g'.there, g'.frs, by rw [List.length_set]; exact g'.len, fun j t e => ?_, fun j k t u a ne h1 h2 o1 o2 e1 e2 => ?_, fun j k h1 h2 => ?_⟩
        · rcases set_get e with ⟨rfl, rfl, _⟩ | ⟨ne, e⟩
          · obtain ⟨o, h1, a, h2, h3, h4, h5⟩ := g'.slots i _ h
            exact ⟨o, h1, a, h2, h3, .inr ⟨hB, h4⟩, h5⟩
          · obtain ⟨o, h1, h2⟩ := g'.slots j t e
            refine ⟨o, h1, ?_⟩
            cases t with
            | mt => exact absurd e (nomt j)
            | dead => exact h2
            | sh p => exact h2
            | own p => exact h2
            | bor p => exact h2
            | exc c ns ps => exact h2
        · rcases set_get h1 with ⟨rfl, rfl, _⟩ | ⟨n1, h1'⟩
          · rcases set_get h2 with ⟨rfl, rfl, _⟩ | ⟨n2, h2'⟩
            · exact ne rfl
            · exact g'.sep i k _ u a ne h h2' rfl o2 e1 e2
          · rcases set_get h2 with ⟨rfl, rfl, _⟩ | ⟨n2, h2'⟩
            · exact g'.sep j i t _ a ne h1' h o1 rfl e1 e2
            · exact g'.sep j k t u a ne h1' h2' o1 o2 e1 e2
        · rcases set_get h1 with ⟨e1, _, _⟩ | ⟨_, h1'⟩
          · rcases set_get h2 with ⟨e2, _, _⟩ | ⟨_, h2'⟩
            · exact e1.symm.trans e2
            · exact absurd h2' (nomt k)
          · exact absurd h1' (nomt j)
    | _ => cases hq
def mtS (i : Nat) (g : SF) : SF := fun env _ => match mtE i env with
  | some x => g x.1 x.2
  | none => .stuck
theorem qss_mt (i : Nat) (hB : B.ma = none) (h : QSs X B W ss g) : QSs X B W ss (mtS i g) :=
  ⟨pss_imp h.pss fun D σ H ⟨F, env, st, g', q⟩ => by
    unfold mtS at q
    cases hq : mtE i env with
    | none => rw [hq] at q; exact q.elim
    | some x => rw [hq] at q; exact ⟨F, x.1, x.2, g'.mtE hB hq, q⟩⟩

def ifS (c : TF) (g1 g2 : SF) : SF := fun env st => liftS (c env st) env fun b st' => if b = true then g1 env st' else g2 env st'
theorem qs_if {c : Expr} {fc : TF} {a b : List Stmt} {pos : Pos} (hc : QT X B W c fc) (ha : QSs X B W a g1) (hb : QSs X B W b g2) : QS X B W (.If c a b pos) (ifS fc g1 g2) :=
  ⟨ps_imp (ps_if hc.pt ha.pss hb.pss) fun D σ H ⟨F, env, st, g, q⟩ => ⟨F, env, st, g, q.lift.mono fun k st' F' H' s g' r => by
    cases k with
    | true => exact ⟨F', env, st', g', r⟩
    | false => exact ⟨F', env, st', g', r⟩⟩⟩
end

/-! ## loops -/
def NewBy (F H F' H' : Hp) : Prop := (F' = F ∧ H' = H) ∨ ∃ a o, H a = none ∧ F' = upd F a o ∧ H' = upd H a o
theorem Good.newBy {K : Frag} {B : Bs} {F H F' H' : Hp} {env : SEnv} {st : PV} {σ : Sg} (g : Good K B F H env st σ) (n : NewBy F H F' H') : Good K B F' H' env st σ ∧ Same F F' ∧ Stp env σ F H F' H' := by
  rcases n with ⟨rfl, rfl⟩ | ⟨a, o, h, rfl, rfl⟩
  · exact ⟨g, Same.refl F', Stp.refl⟩
  · exact ⟨g.alloc h, Same.upd_new (g.fnone h), Stp.alloc (g.fnone h) h⟩
/-- the walk J yields the values ps, as long as the frozen heap F0 stands -/
def WalkP (K : Frag) (J : It) (F0 : Hp) (ps : List PV) : Prop :=
  Walk J ps.length (fun H => Same F0 H) (fun i H x H' => ∀ F, Same F0 F → Same F H → ∃ p F', ps[i]? = some p ∧ Rep K F' p x ∧ NewBy F H F' H')
def tI (K : Frag) (B : Bs) (W : WX) (f : AF) : TI := fun σ H R => ∃ F env st, Good K B F H env st σ ∧ EPost K B W env σ F H (fun ps _ F' H' => ∀ J, WalkP K J F' ps → R J H') (f env st)
structure QI (X : Cx) (B : Bs) (W : WX) (tg e : Expr) (f : AF) : Prop where
  pi : PI X tg e (tI X.K B W f)
abbrev GF := PV → SEnv → Option SEnv
def tG (K : Frag) (B : Bs) (t : GF) : TG := fun v σ H Q => ∃ F env st p, Good K B F H env st σ ∧ Rep K F p v ∧ match t p env with
  | some env' => ∀ σ', Good K B F H env' st σ' → Q σ' H
  | none => False
structure QG (X : Cx) (B : Bs) (tg : Expr) (t : GF) : Prop where
  pg : PG X tg (tG X.K B t)
theorem pg_imp {X : Cx} {e : Expr} {t t' : TG} (h : PG X e t) (k : ∀ v σ H Q, t' v σ H Q → t v σ H Q) : PG X e t' := ⟨fun pins s σ H v u Q I r q => h.run pins s σ H v u Q I r (k v σ H Q q)⟩
def nameG (i : Nat) : GF := fun p env => some (env.set i (.sh p))
def pairG (i j : Nat) : GF := fun p env => match p with
  | .tup [p1, p2] => some ((env.set i (.sh p1)).set j (.sh p2))
  | _ => none

def forL (t : GF) (b : SF) : List PV → SEnv → PV → SR
  | [], env, st => .nx env st
  | p :: ps, env, st => match t p env with
    | none => .stuck
    | some env1 => match b env1 st with
      | .nx env' st' => forL t b ps env' st'
      | .ct env' st' => forL t b ps env' st'
      | .brk env' st' => .nx env' st'
      | r => r
def forS (f : AF) (t : GF) (b : SF) : SF := fun env st => liftS (f env st) env fun ps st' => forL t b ps env st'
def whileL (c : TF) (b : SF) : Nat → SEnv → PV → SR
  | 0, _, _ => .stuck
  | n + 1, env, st => match c env st with
    | .ok true st' => (match b env st' with
      | .nx env' st2 => whileL c b n env' st2
      | .ct env' st2 => whileL c b n env' st2
      | .brk env' st2 => .nx env' st2
      | r => r)
    | .ok false st' => .nx env st'
    | .exc k ns ps st' => .exc k ns ps env st'
    | .stuck => .stuck
section
variable {X : Cx} {B : Bs} {W : WX} {ss : List Stmt} {g : SF} {e tg : Expr} {f : AF} {t : GF} {pos : Pos}
theorem qs_for (hp : PassesOwn (model X.prog X.w) X.A X.env X.xe) (hc : X.calm = true) (hi : QI X B W tg e f) (hg : QG X B tg t) (hb : QSs X B W ss g)
    (hs : ∀ x, foldedSetIterable e X.env x = pure x := by intro _; rfl) : QS X B W (.For tg e ss [] pos) (forS f t g) := by
  refine ⟨ps_imp (ps_for hp hc hi.pi hg.pg hb.pss hs) fun D σ H ⟨F, env, st, g0, q⟩ => ⟨F, env, st, g0, q.lift.mono fun ps st' F' H' s g' r J w => ?_⟩⟩
  refine for_it w (fun i σ H => ∃ F env st, Good X.K B F H env st σ ∧ Same F' F ∧ SPost X.K B W D F (forL t g (ps.drop i) env st)) ⟨F', env, st', g', Same.refl F', r⟩
    (fun i σ H _ ⟨F, env, st, g, s, _⟩ => s.trans g.le) (fun i x σ1 H1 H2 hi ⟨F1, env1, st1, g1, s1, r1⟩ y => ?_) (fun σ1 H1 ⟨F1, env1, st1, g1, s1, r1⟩ => ?_)
  · obtain ⟨p, F2, hp, rp, nb⟩ := y F1 s1 g1.le
    obtain ⟨g2, s2, _⟩ := g1.newBy nb
    have hd : ps.drop i = p :: ps.drop (i + 1) := by
      obtain ⟨hl, e⟩ := List.getElem?_eq_some_iff.mp hp
      rw [List.drop_eq_getElem_cons hl, e]
    rw [hd] at r1
    unfold forL at r1
    refine ⟨F2, env1, st1, p, g2, rp, ?_⟩
    cases ht : t p env1 with
    | none => rw [ht] at r1; exact r1
    | some env2 =>
      rw [ht] at r1
      intro σ2 g3
      refine ⟨F2, env2, st1, g3, ?_⟩
      replace r1 := SPost.mono s2 r1
      dsimp only at r1
      cases hr : g env2 st1 with
      | nx env3 st3 => rw [hr] at r1; exact fun σ' F3 H3 e g4 => ⟨F3, env3, st3, g4, (s1.trans s2).trans e, SPost.mono e r1⟩
      | ct env3 st3 => rw [hr] at r1; exact fun σ' F3 H3 e g4 => ⟨F3, env3, st3, g4, (s1.trans s2).trans e, SPost.mono e r1⟩
      | brk env3 st3 => rw [hr] at r1; exact r1
      | ret p o env3 st3 => rw [hr] at r1; exact r1
      | exc c ns ps env3 st3 => rw [hr] at r1; exact r1
      | stuck => rw [hr] at r1; exact r1
  · rw [List.drop_length] at r1
    exact r1 σ1 F1 H1 (Same.refl F1) g1
theorem qs_while {fc : TF} (n : Nat) (hp : PassesOwn (model X.prog X.w) X.A X.env X.xe) (hc : QT X B W e fc) (hb : QSs X B W ss g) : QS X B W (.While e ss [] pos) (fun env st => whileL fc g n env st) := by
  refine ⟨ps_imp (ps_while hp hc.pt hb.pss) fun D σ H ⟨F, env, st, g0, q⟩ => ?_⟩
  refine ⟨fun m σ H => ∃ F env st, Good X.K B F H env st σ ∧ SPost X.K B W D F (whileL fc g m env st), ⟨n, F, env, st, g0, q⟩, ?_⟩
  rintro m σ1 H1 ⟨F1, env1, st1, g1, r1⟩
  cases m with
  | zero => exact r1.elim
  | succ m =>
    refine ⟨F1, env1, st1, g1, ?_⟩
    unfold whileL at r1
    cases hr : fc env1 st1 with
    | stuck => rw [hr] at r1; exact r1
    | exc k ns ps st' => rw [hr] at r1; exact fun F' H' d vs e g => r1 σ1 F' H' d vs e g
    | ok b st' =>
      rw [hr] at r1
      intro F2 H2 s2 g2
      cases b with
      | false => exact r1 σ1 F2 H2 s2.le g2
      | true =>
        rw [if_pos rfl]
        refine ⟨fun σ H => ∃ F env st, Good X.K B F H env st σ ∧ SPost X.K B W D F (whileL fc g m env st), fun σ' H' z => ⟨m, Nat.lt_succ_self m, z⟩, F2, env1, st', g2, ?_⟩
        replace r1 := SPost.mono s2.le r1
        dsimp only at r1
        cases hb2 : g env1 st' with
        | nx env3 st3 => rw [hb2] at r1; exact fun σ' F3 H3 e g4 => ⟨F3, env3, st3, g4, SPost.mono e r1⟩
        | ct env3 st3 => rw [hb2] at r1; exact fun σ' F3 H3 e g4 => ⟨F3, env3, st3, g4, SPost.mono e r1⟩
        | brk env3 st3 => rw [hb2] at r1; exact r1
        | ret p o env3 st3 => rw [hb2] at r1; exact r1
        | exc c ns ps env3 st3 => rw [hb2] at r1; exact r1
        | stuck => rw [hb2] at r1; exact r1
/-! ### targets -/
theorem qg_name {x : Str} (i : Nat) (hN : X.N.Nodup) (hi : X.N[i]? = some x := by rfl) (hx : Loc X.env.scope x := by first | exact .inl rfl | exact .inr rfl) (hf : X.fn x = true ∨ X.env.scope.names.lookup x = some .local := by first | exact .inl rfl | exact .inr rfl) : QG X B (.Name x pos) (nameG i) :=
  ⟨pg_imp (pg_name hN hi hx hf) fun v σ H Q ⟨F, env, st, p, g, r, q⟩ => q _ (g.set i (v := v) (s := .sh p) ⟨v, rfl, r⟩ fun z => nomatch z)⟩
theorem qg_pair {x y : Str} {p1 p2 : Pos} {kk : Nat} (i j : Nat) (hc : X.calm = true) (hN : X.N.Nodup) (hi : X.N[i]? = some x := by rfl) (hx : Loc X.env.scope x := by first | exact .inl rfl | exact .inr rfl) (hfx : X.fn x = true ∨ X.env.scope.names.lookup x = some .local := by first | exact .inl rfl | exact .inr rfl)
    (hj : X.N[j]? = some y := by rfl) (hy : Loc X.env.scope y := by first | exact .inl rfl | exact .inr rfl) (hfy : X.fn y = true ∨ X.env.scope.names.lookup y = some .local := by first | exact .inl rfl | exact .inr rfl)
    (hn : (assignEach [.Name x p1, .Name y p2] X.env).length = 2 := by rfl) (hst : (assignEach [.Name x p1, .Name y p2] X.env).findIdx? (·.1) = none := by rfl) : QG X B (.Tuple [.Name x p1, .Name y p2] kk pos) (pairG i j) :=
  ⟨pg_imp (pg_tup hc (pgs_cons (pg_name hN hi hx hfx) (pgs_cons (pg_name hN hj hy hfy) pgs_nil)) hn hst) fun v σ H Q ⟨F, env, st, p, g, r, q⟩ => by
    unfold pairG at q
    cases p with
    | tup ps =>
      match ps, r, q with
      | [p1, p2], ⟨a, vs, h1, h2, v1, r1, h3, h4, v2, r2, h5, h6, h7⟩, q =>
        obtain rfl : r2 = [] := h7
        subst h1 h3 h5
        exact ⟨a, _, rfl, sqT_mono g.le h2, rfl, v1, _, rfl, v2, _, rfl, rfl, q _ ((g.set i (v := v1) (s := .sh p1) ⟨v1, rfl, h4⟩ fun z => nomatch z).set j (v := v2) (s := .sh p2) ⟨v2, rfl, h6⟩ fun z => nomatch z)⟩
      | [], _, q => exact q.elim
      | [_], _, q => exact q.elim
      | _ :: _ :: _ :: _, _, q => exact q.elim
    | _ => exact q.elim⟩
end
end KI

/-! part KI3 -/
set_option Elab.async false
set_option linter.all false
set_option maxRecDepth 100000
set_option maxHeartbeats 4000000
namespace KI
open PySem PySem.Spec PyProof.Rows L2

/-! ## values as HandS reads them -/
def RH (K : Frag) (F H : Hp) (p : PV) (v : V) : Prop := Rep K F p v ∨ ∃ a, v = .ref a ∧ Own K F H a p
theorem RT.rh {K : Frag} {F H : Hp} {env : SEnv} {σ : Sg} {p : PV} {v : V} (h : RT K F H env σ p v) : RH K F H p v := by
  rcases h with h | ⟨a, e, _, h⟩
  · exact .inl h
  · exact .inr ⟨a, e, h⟩
section
variable {K : Frag} {F H : Hp} {v : V}
theorem RH.non (h : RH K F H .non v) : v = .non := h.elim (fun h => h) fun ⟨_, _, h⟩ => h.elim
theorem RH.bl {b : Bool} (h : RH K F H (.bl b) v) : v = .bl b := h.elim (fun h => h) fun ⟨_, _, h⟩ => h.elim
theorem RH.int {i : Int} (h : RH K F H (.int i) v) : v = .int i := h.elim (fun h => h) fun ⟨_, _, h⟩ => h.elim
theorem RH.str {x : Str} (h : RH K F H (.str x) v) : v = .str x := h.elim (fun h => h) fun ⟨_, _, h⟩ => h.elim
theorem RH.lst {ps : List PV} (le : Same F H) (h : RH K F H (.lst ps) v) : ∃ a vs, v = .ref a ∧ H a = some (.lst vs) ∧ RepL K F ps vs := by
  rcases h with ⟨a, vs, h1, h2, h3⟩ | ⟨a, h1, vs, h2, h3⟩
  · exact ⟨a, vs, h1, le _ _ h2, h3⟩
  · exact ⟨a, vs, h1, h2, h3⟩
theorem RH.tup {ps : List PV} (le : Same F H) (h : RH K F H (.tup ps) v) : ∃ a vs, v = .ref a ∧ SqT K H a vs ∧ RepL K F ps vs := by
  rcases h with ⟨a, vs, h1, h2, h3⟩ | ⟨a, h1, h2⟩
  · exact ⟨a, vs, h1, sqT_mono le h2, h3⟩
  · exact h2.elim
theorem RH.tupF {ps : List PV} (h : RH K F H (.tup ps) v) : Rep K F (.tup ps) v := by
  rcases h with h | ⟨a, h1, h2⟩
  · exact h
  · exact h2.elim
theorem RH.dct {ks : List Key} {ps : List PV} (le : Same F H) (h : RH K F H (.dct ks ps) v) : ∃ a vs, v = .ref a ∧ H a = some (.dK (ks.zip vs)) ∧ ks.length = vs.length ∧ RepL K F ps vs := by
  rcases h with ⟨a, vs, h1, h2, h3⟩ | ⟨a, h1, vs, h2, h3⟩
  · exact ⟨a, vs, h1, le _ _ h2, h3⟩
  · exact ⟨a, vs, h1, h2, h3⟩
theorem RH.ins {c : Str} {ns : List Str} {ps : List PV} (le : Same F H) (h : RH K F H (.ins c ns ps) v) : ∃ a dx vs, v = .ref a ∧ H a = some (.ins (He.ga K c) dx (ns.zip vs)) ∧ ns.length = vs.length ∧ RepL K F ps vs := by
  rcases h with ⟨a, dx, vs, h1, h2, h3⟩ | ⟨a, h1, dx, vs, h2, h3⟩
  · exact ⟨a, dx, vs, h1, le _ _ h2, h3⟩
  · exact ⟨a, dx, vs, h1, h2, h3⟩
theorem RH.scr {ns : List Int} (le : Same F H) (h : RH K F H (.scr ns) v) : ∃ a, v = .ref a ∧ SqL K H a (ns.map V.int) := by
  rcases h with ⟨a, h1, h2⟩ | ⟨a, h1, h2⟩
  · exact ⟨a, h1, le.seq h2⟩
  · exact h2.elim
end

/-- an operation by pure values -/
def rP (K : Frag) (g : PV → PV → Option PV) : R2 := fun x y H Q => ∃ F p q, Same F H ∧ RH K F H p x ∧ RH K F H q y ∧ ∃ z, g p q = some z ∧ ∀ u F' H', NewBy F H F' H' → Rep K F' z u → Q u H'
/-- one that makes a new object -/
def rPO (K : Frag) (g : PV → PV → Option PV) : R2 := fun x y H Q => ∃ F p q, Same F H ∧ RH K F H p x ∧ RH K F H q y ∧ ∃ z, g p q = some z ∧ ∀ a o, H a = none → Own K F (upd H a o) a z → Q (.ref a) (upd H a o)
def opE (g : PV → PV → Option PV) (fa fb : EF) : EF := fun env st => (fa env st).bind fun p st1 => (fb env st1).bind fun q st2 => match g p q with
  | some z => .ok z st2
  | none => .stuck
theorem opr_imp {X : Cx} {f : Value → Value → Sem Value} {r r' : R2} (h : OpR X f r) (k : ∀ x y H Q, r' x y H Q → r x y H Q) : OpR X f r' := fun pins s σ H x y v u Q I rx ry q => h pins s σ H x y v u Q I rx ry (k x y H Q q)
section
variable {X : Cx} {B : Bs} {W : WX} {a b : Expr} {fa fb : EF} {g : PV → PV → Option PV} {pos : Pos}
/-- two operands read -/
theorem two_reads {σ : Sg} {H : Hp} {T : V → V → Hp → Prop} {R : PV → PV → Hp → Hp → Prop} {F : Hp} {env : SEnv} {st : PV} (g0 : Good X.K B F H env st σ)
    (q : EPost X.K B W env σ F H R (opE g fa fb env st)) (k : ∀ x y p q z st' F' H', Stp env σ F H F' H' → Good X.K B F' H' env st' σ → RT X.K F' H' env σ p x → RT X.K F' H' env σ q y → g p q = some z → (∀ F2 H2, Stp env σ F' H' F2 H2 → Good X.K B F2 H2 env st' σ → R z st' F2 H2) → T x y H') :
    tR X.K B W fa σ H fun x H1 => tR X.K B W fb σ H1 fun y H2 => T x y H2 := by
  refine ⟨F, env, st, g0, q.bind.mono fun p st1 F1 H1 s1 g1 q1 x rx => ⟨F1, env, st1, g1, q1.bind.mono fun p2 st2 F2 H2 s2 g2 q2 y ry => ?_⟩⟩
  cases hz : g p p2 with
  | none => rw [hz] at q2; exact q2.elim
  | some z => rw [hz] at q2; exact k x y p p2 z st2 F2 H2 (s1.trans s2) g2 (rx.step s2) ry hz q2
theorem qe_op {op : Operator} (ho : OpR X (binaryOp op) (rP X.K g)) (ha : QR X B W a fa) (hb : QR X B W b fb) : QE X B W (.BinOp a op b pos) (opE g fa fb) :=
  ⟨pe_imp (pe_op ho ha.pe hb.pe) fun σ H Q ⟨F, env, st, g0, q⟩ => two_reads g0 q fun x y p q z st' F' H' s gg rx ry hz r => ⟨F', p, q, gg.le, rx.rh, ry.rh, z, hz, fun u F2 H2 nb hu => by
    obtain ⟨g2, _, s2⟩ := gg.newBy nb
    exact r F2 H2 s2 g2 u hu⟩⟩
theorem qo_op {op : Operator} (ho : OpR X (binaryOp op) (rPO X.K g)) (ha : QR X B W a fa) (hb : QR X B W b fb) : QO X B W (.BinOp a op b pos) (opE g fa fb) :=
  ⟨pe_imp (pe_op ho ha.pe hb.pe) fun σ H Q ⟨F, env, st, g0, q⟩ => two_reads g0 q fun x y p q z st' F' H' s gg rx ry hz r => ⟨F', p, q, gg.le, rx.rh, ry.rh, z, hz, fun a o hn ho => by
    have hn0 : H a = none := by
      cases e : H a with
      | none => rfl
      | some u => exact absurd hn (s.there a (by rw [e]; simp))
    exact r F' _ (Stp.alloc0 hn) (gg.alloc0 hn) a hn0 (gg.fnone hn) ho⟩⟩
theorem qe_ix (ho : IxR X (rP X.K g)) (ha : QR X B W a fa) (hb : QR X B W b fb) (hs : PlainIx b := by exact fun _ _ => rfl) : QE X B W (.Subscript a b pos) (opE g fa fb) :=
  ⟨pe_imp (pe_ix ho ha.pe hb.pe hs) fun σ H Q ⟨F, env, st, g0, q⟩ => two_reads g0 q fun x y p q z st' F' H' s gg rx ry hz r => ⟨F', p, q, gg.le, rx.rh, ry.rh, z, hz, fun u F2 H2 nb hu => by
    obtain ⟨g2, _, s2⟩ := gg.newBy nb
    exact r F2 H2 s2 g2 u hu⟩⟩
/-- a comparison as a value, as a test -/
def rB (K : Frag) (g : PV → PV → Option Bool) : R2 := fun x y H Q => ∃ F p q, Same F H ∧ RH K F H p x ∧ RH K F H q y ∧ ∃ z, g p q = some z ∧ Q (.bl z) H
def cmpE (g : PV → PV → Option Bool) (fa fb : EF) : EF := opE (fun p q => (g p q).map PV.bl) fa fb
def cmpT (g : PV → PV → Option Bool) (fa fb : EF) : TF := fun env st => (fa env st).bind fun p st1 => (fb env st1).bind fun q st2 => match g p q with
  | some z => .ok z st2
  | none => .stuck
theorem qe_cmp {gb : PV → PV → Option Bool} {op : CmpOp} (ho : OpR X (compareOp op) (rB X.K gb)) (ha : QR X B W a fa) (hb : QR X B W b fb) (hm : behindInMarks op b = false := by rfl) : QE X B W (.Compare a [op] [b] pos) (cmpE gb fa fb) :=
  ⟨pe_imp (pe_cmpR ho ha.pe hb.pe hm) fun σ H Q ⟨F, env, st, g0, q⟩ => two_reads g0 q fun x y p q z st' F' H' s gg rx ry hz r => by
    cases hb : gb p q with
    | none => rw [hb] at hz; cases hz
    | some k =>
      rw [hb] at hz; cases hz
      exact ⟨F', p, q, gg.le, rx.rh, ry.rh, k, hb, r F' H' Stp.refl gg _ rfl⟩⟩
theorem qt_cmp {gb : PV → PV → Option Bool} {op : CmpOp} (ho : OpR X (compareOp op) (rB X.K gb)) (ha : QR X B W a fa) (hb : QR X B W b fb) (hm : behindInMarks op b = false := by rfl) : QT X B W (.Compare a [op] [b] pos) (cmpT gb fa fb) :=
  ⟨pt_imp (pt_cmpR ho ha.pe hb.pe hm) fun σ H Q ⟨F, env, st, g0, q⟩ => ⟨F, env, st, g0, q.bind.mono fun p st1 F1 H1 s1 g1 q1 x rx => ⟨F1, env, st1, g1, q1.bind.mono fun p2 st2 F2 H2 s2 g2 q2 y ry => by
    cases hb : gb p p2 with
    | none => rw [hb] at q2; exact q2.elim
    | some k =>
      rw [hb] at q2
      exact ⟨F2, p, p2, g2.le, (rx.step s2).rh, ry.rh, k, hb, k, rfl, q2 F2 H2 Stp.refl g2⟩⟩⟩⟩
/-! ### constants, names -/
def cE (p : PV) : EF := fun _ st => .ok p st
theorem qe_int {i : Int} {j pos} : QE X B W (.Constant (.int i) j pos) (cE (.int i)) := ⟨pe_imp pe_int fun σ H Q ⟨F, env, st, g, q⟩ => q F H Stp.refl g _ rfl⟩
theorem qe_bl {i : Bool} {j pos} : QE X B W (.Constant (.bool i) j pos) (cE (.bl i)) := ⟨pe_imp pe_bl fun σ H Q ⟨F, env, st, g, q⟩ => q F H Stp.refl g _ rfl⟩
theorem qe_non {j pos} : QE X B W (.Constant .none j pos) (cE .non) := ⟨pe_imp pe_non fun σ H Q ⟨F, env, st, g, q⟩ => q F H Stp.refl g _ rfl⟩
theorem qe_str {x : Str} {j pos} : QE X B W (.Constant (.str x) j pos) (cE (.str x)) := ⟨pe_imp pe_str fun σ H Q ⟨F, env, st, g, q⟩ => q F H Stp.refl g _ rfl⟩
/-- a module's constant -/
theorem qe_glob {x : Str} {p : PV} {u : Value} {v : V} (hm : X.mg x = some u) (r : RelV v u) (hp : ∀ F, Rep X.K F p v) (hg : Gl X x := by rfl) (hd : (x == ("__debug__" : Str)) = false := by decide) : QE X B W (.Name x pos) (cE p) :=
  ⟨pe_imp (pe_glob hg hm r hd) fun σ H Q ⟨F, env, st, g, q⟩ => q F H Stp.refl g v (hp F)⟩
/-- a name in slot i: its value is frozen -/
def borOk : PV → Bool
  | .lst _ => false
  | .dct _ _ => false
  | .ins _ _ _ => false
  | _ => true
theorem borOk_rep {K : Frag} {F H : Hp} {a : Addr} : ∀ {p : PV}, borOk p = true → Own K F H a p → False
  | .lst _, h, _ => nomatch h
  | .dct _ _, h, _ => nomatch h
  | .ins _ _ _, h, _ => nomatch h
  | .non, _, h => h
  | .bl _, _, h => h
  | .int _, _, h => h
  | .str _, _, h => h
  | .tup _, _, h => h
  | .scr _, _, h => h
def vE (i : Nat) : EF := fun env st => match env[i]? with
  | some (.sh p) => .ok p st
  | some (.bor p) => if borOk p = true then .ok p st else .stuck
  | _ => .stuck
theorem qe_v (i : Nat) {x : Str} (hN : X.N[i]? = some x := by rfl) (hv : Vis X.env.scope x := by first | exact Or.inl rfl | exact Or.inr (Or.inl rfl) | exact Or.inr (Or.inr rfl)) (hd : (x == ("__debug__" : Str)) = false := by decide)
    (hcd : (x == ("__classdict__" : Str)) = false := by decide) : QE X B W (.Name x pos) (vE i) :=
  ⟨pe_imp (pe_var hN hv hd hcd) fun σ H Q ⟨F, env, st, g, q⟩ => by
    unfold vE at q
    cases h : env[i]? with
    | none => rw [h] at q; exact q.elim
    | some s =>
      rw [h] at q
      obtain ⟨o, h1, h2⟩ := g.slots i _ h
      cases s with
      | sh p =>
        obtain ⟨v, rfl, r⟩ := h2
        exact ⟨v, h1, q F H Stp.refl g v r⟩
      | bor p =>
        obtain ⟨v, rfl, r⟩ := h2
        dsimp only at q
        by_cases hb : borOk p = true
        · rw [if_pos hb] at q
          rcases r with r | ⟨a, _, _, e3⟩
          · exact ⟨v, h1, q F H Stp.refl g v r⟩
          · exact (borOk_rep hb e3).elim
        · rw [if_neg hb] at q; exact q.elim
      | _ => exact q.elim⟩
/-- .. its value is read -/
def vR (i : Nat) : EF := fun env st => match env[i]? with
  | some (.sh p) => .ok p st
  | some (.bor p) => .ok p st
  | some (.own p) => .ok p st
  | _ => .stuck
theorem Good.bor {K : Frag} {F H : Hp} {env : SEnv} {st : PV} {σ : Sg} (g : Good K B F H env st σ) {a : Addr} {p : PV} (h1 : B.ma ≠ some a) (h2 : Own K F B.H0 a p) : ¬ MtA env σ a ∧ Own K F H a p := by
  refine ⟨fun ⟨j, e1, e2⟩ => ?_, h2.mono (Same.refl F) fun o ho => g.kept a o ho h1⟩
  obtain ⟨w, e3, b, e4, e5, e6, e7⟩ := g.slots j _ e1
  rw [e2] at e3; cases e3; cases e4
  rcases e6 with e6 | ⟨_, e6⟩
  · exact h1 e6
  · exact h2.there e6
theorem qr_v (i : Nat) {x : Str} (hN : X.N[i]? = some x := by rfl) (hv : Vis X.env.scope x := by first | exact Or.inl rfl | exact Or.inr (Or.inl rfl) | exact Or.inr (Or.inr rfl)) (hd : (x == ("__debug__" : Str)) = false := by decide)
    (hcd : (x == ("__classdict__" : Str)) = false := by decide) : QR X B W (.Name x pos) (vR i) :=
  ⟨pe_imp (pe_var hN hv hd hcd) fun σ H Q ⟨F, env, st, g, q⟩ => by
    unfold vR at q
    cases h : env[i]? with
    | none => rw [h] at q; exact q.elim
    | some s =>
      rw [h] at q
      obtain ⟨o, h1, h2⟩ := g.slots i _ h
      cases s with
      | sh p =>
        obtain ⟨v, rfl, r⟩ := h2
        exact ⟨v, h1, q F H Stp.refl g v (.inl r)⟩
      | own p =>
        obtain ⟨a, rfl, r1, r2, r3⟩ := h2
        refine ⟨.ref a, h1, q F H Stp.refl g _ (.inr ⟨a, rfl, fun ⟨j, e1, e2⟩ => ?_, r3⟩)⟩
        refine g.sep i j _ _ a (fun z => ?_) h e1 rfl rfl h1 e2
        subst z
        rw [h] at e1; cases e1
      | bor p =>
        obtain ⟨v, rfl, r⟩ := h2
        refine ⟨v, h1, q F H Stp.refl g v ?_⟩
        rcases r with r | ⟨a, e1, e2, e3⟩
        · exact .inl r
        · exact .inr ⟨a, e1, (g.bor e2 e3).1, (g.bor e2 e3).2⟩
      | _ => exact q.elim⟩
/-! ### tests -/
def andT (f1 f2 : TF) : TF := fun env st => (f1 env st).bind fun b st1 => if b = true then f2 env st1 else .ok false st1
def orT (f1 f2 : TF) : TF := fun env st => (f1 env st).bind fun b st1 => if b = true then .ok true st1 else f2 env st1
def notT (f : TF) : TF := fun env st => (f env st).bind fun b st1 => .ok (!b) st1
structure QW (X : Cx) (B : Bs) (W : WX) (e : Expr) (f : TF) : Prop where
  pw : PW X e (tT X.K B W f)
theorem pw_imp {X : Cx} {e : Expr} {t t' : TT} (h : PW X e t) (k : ∀ σ H Q, t' σ H Q → t σ H Q) : PW X e t' := ⟨fun w pins s σ H Q I q => h.run w pins s σ H Q I (k σ H Q q)⟩
theorem QW.qt {e : Expr} {f : TF} (h : QW X B W e f) : QT X B W e f := ⟨h.pw.pt⟩
theorem qw_and1 {f : TF} (h : QT X B W a f) : QW X B W (.BoolOp .And [a] pos) f := ⟨pw_and1 h.pt⟩
theorem qw_or1 {f : TF} (h : QT X B W a f) : QW X B W (.BoolOp .Or [a] pos) f := ⟨pw_or1 h.pt⟩
theorem qw_and {rest : List Expr} {f1 f2 : TF} (h1 : QT X B W a f1) (h2 : QW X B W (.BoolOp .And (b :: rest) pos) f2) : QW X B W (.BoolOp .And (a :: b :: rest) pos) (andT f1 f2) :=
  ⟨pw_imp (pw_and h1.pt h2.pw) fun σ H Q ⟨F, env, st, g, q⟩ => ⟨F, env, st, g, q.bind.mono fun k st1 F1 H1 s1 g1 q1 => by
    cases k with
    | true => rw [if_pos rfl]; exact ⟨F1, env, st1, g1, q1⟩
    | false => rw [if_neg Bool.false_ne_true]; exact q1 F1 H1 Stp.refl g1⟩⟩
theorem qw_or {rest : List Expr} {f1 f2 : TF} (h1 : QT X B W a f1) (h2 : QW X B W (.BoolOp .Or (b :: rest) pos) f2) : QW X B W (.BoolOp .Or (a :: b :: rest) pos) (orT f1 f2) :=
  ⟨pw_imp (pw_or h1.pt h2.pw) fun σ H Q ⟨F, env, st, g, q⟩ => ⟨F, env, st, g, q.bind.mono fun k st1 F1 H1 s1 g1 q1 => by
    cases k with
    | true => rw [if_pos rfl]; exact q1 F1 H1 Stp.refl g1
    | false => rw [if_neg Bool.false_ne_true]; exact ⟨F1, env, st1, g1, q1⟩⟩⟩
theorem qt_not {f : TF} (h : QT X B W a f) : QT X B W (.UnaryOp .Not a pos) (notT f) :=
  ⟨pt_imp (pt_not h.pt) fun σ H Q ⟨F, env, st, g, q⟩ => ⟨F, env, st, g, q.bind.mono fun k st1 F1 H1 s1 g1 q1 => q1 F1 H1 Stp.refl g1⟩⟩
/-- the truth of a value -/
def truP : PV → Option Bool
  | .non => some false
  | .bl b => some b
  | .int i => some (i != 0)
  | .str x => if x.length ≤ sizeLine then some ((x.length : Int) != 0) else none
  | .lst ps => some (!ps.isEmpty)
  | .tup ps => some (!ps.isEmpty)
  | _ => none
def truT (f : EF) : TF := fun env st => (f env st).bind fun p st1 => match truP p with
  | some b => .ok b st1
  | none => .stuck
theorem RepL.isEmpty {K : Frag} {F : Hp} : ∀ {ps : List PV} {vs : List V}, RepL K F ps vs → ps.isEmpty = vs.isEmpty
  | [], _, h => by cases (show _ = ([] : List V) from h); rfl
  | p :: ps, _, ⟨v, r, h1, _, _⟩ => by subst h1; rfl
theorem tru_ok {K : Frag} {F H : Hp} {p : PV} {v : V} {k : Bool} (le : Same F H) (r : RH K F H p v) (h : truP p = some k) : TruV K v H k := by
  cases p with
  | non => cases r.non; cases h; rfl
  | bl b => cases r.bl; cases h; rfl
  | int i => cases r.int; cases h; rfl
  | str x =>
    cases r.str
    have h : (if x.length ≤ sizeLine then some ((x.length : Int) != 0) else none) = some k := h
    by_cases hl : x.length ≤ sizeLine
    · rw [if_pos hl] at h; cases h; exact ⟨hl, rfl⟩
    · rw [if_neg hl] at h; cases h
  | lst ps =>
    obtain ⟨a, vs, rfl, h1, h2⟩ := r.lst le
    cases h
    exact .inl ⟨vs, SqL.of h1, by rw [h2.isEmpty]⟩
  | tup ps =>
    obtain ⟨a, vs, rfl, h1, h2⟩ := r.tup le
    cases h
    exact .inr (.inl ⟨vs, h1, by rw [h2.isEmpty]⟩)
  | dct ks ps => cases h
  | ins c ns ps => cases h
  | scr ns => cases h
theorem qt_tru (h : QR X B W a fa) (he : ∀ whole, isTrue a X.env whole = (do let v ← whole; standAt a.pos; holding [v] (truthy v)) := by intro _; rfl) : QT X B W a (truT fa) :=
  ⟨pt_imp (pt_truth h.pe he) fun σ H Q ⟨F, env, st, g, q⟩ => ⟨F, env, st, g, q.bind.mono fun p st1 F1 H1 s1 g1 q1 x rx => by
    cases hz : truP p with
    | none => rw [hz] at q1; exact q1.elim
    | some k => rw [hz] at q1; exact ⟨k, KI.tru_ok g1.le rx.rh hz, q1 F1 H1 Stp.refl g1⟩⟩⟩
/-- not, and, or as values of truths -/
def notE (f : EF) : EF := fun env st => (f env st).bind fun p st1 => match p with
  | .bl b => .ok (.bl (!b)) st1
  | _ => .stuck
theorem qe_not (h : QR X B W a fa) : QE X B W (.UnaryOp .Not a pos) (notE fa) :=
  ⟨pe_imp (pe_not h.pe) fun σ H Q ⟨F, env, st, g, q⟩ => ⟨F, env, st, g, q.bind.mono fun p st1 F1 H1 s1 g1 q1 x rx => by
    cases p with
    | bl b => exact ⟨b, rx.rh.bl, q1 F1 H1 Stp.refl g1 _ rfl⟩
    | _ => exact q1.elim⟩⟩
def andE (f1 f2 : EF) : EF := fun env st => (f1 env st).bind fun p st1 => match p with
  | .bl b => if b = true then f2 env st1 else .ok (.bl false) st1
  | _ => .stuck
def orE (f1 f2 : EF) : EF := fun env st => (f1 env st).bind fun p st1 => match p with
  | .bl b => if b = true then .ok (.bl true) st1 else f2 env st1
  | _ => .stuck
theorem qe_one {op} (h : QE X B W a fa) : QE X B W (.BoolOp op [a] pos) fa := ⟨pe_one h.pe⟩
theorem qe_and {rest : List Expr} (h1 : QE X B W a fa) (h2 : QE X B W (.BoolOp .And (b :: rest) pos) fb) : QE X B W (.BoolOp .And (a :: b :: rest) pos) (andE fa fb) :=
  ⟨pe_imp (pe_and h1.pe h2.pe) fun σ H Q ⟨F, env, st, g, q⟩ => ⟨F, env, st, g, q.bind.mono fun p st1 F1 H1 s1 g1 q1 x rx => by
    cases p with
    | bl b =>
      refine ⟨b, rx, ?_⟩
      cases b with
      | true => rw [if_pos rfl]; exact ⟨F1, env, st1, g1, q1⟩
      | false => rw [if_neg Bool.false_ne_true]; exact q1 F1 H1 Stp.refl g1 _ rfl
    | _ => exact q1.elim⟩⟩
theorem qe_or {rest : List Expr} (h1 : QE X B W a fa) (h2 : QE X B W (.BoolOp .Or (b :: rest) pos) fb) : QE X B W (.BoolOp .Or (a :: b :: rest) pos) (orE fa fb) :=
  ⟨pe_imp (pe_or h1.pe h2.pe) fun σ H Q ⟨F, env, st, g, q⟩ => ⟨F, env, st, g, q.bind.mono fun p st1 F1 H1 s1 g1 q1 x rx => by
    cases p with
    | bl b =>
      refine ⟨b, rx, ?_⟩
      cases b with
      | true => rw [if_pos rfl]; exact q1 F1 H1 Stp.refl g1 _ rfl
      | false => rw [if_neg Bool.false_ne_true]; exact ⟨F1, env, st1, g1, q1⟩
    | _ => exact q1.elim⟩⟩
/-- a if t else b -/
def ifE (c : TF) (f1 f2 : EF) : EF := fun env st => (c env st).bind fun k st1 => if k = true then f1 env st1 else f2 env st1
theorem qe_ife {c : Expr} {fc : TF} (hc : QT X B W c fc) (h1 : QE X B W a fa) (h2 : QE X B W b fb) : QE X B W (.IfExp c a b pos) (ifE fc fa fb) :=
  ⟨pe_imp (pe_ifExp hc.pt h1.pe h2.pe) fun σ H Q ⟨F, env, st, g, q⟩ => ⟨F, env, st, g, q.bind.mono fun k st1 F1 H1 s1 g1 q1 => by
    cases k with
    | true => rw [if_pos rfl]; exact ⟨F1, env, st1, g1, q1⟩
    | false => rw [if_neg Bool.false_ne_true]; exact ⟨F1, env, st1, g1, q1⟩⟩⟩
/-- -a -/
def negE (f : EF) : EF := fun env st => (f env st).bind fun p st1 => match p with
  | .int i => .ok (.int (-i)) st1
  | _ => .stuck
theorem qe_neg (h : QE X B W a fa) : QE X B W (.UnaryOp .USub a pos) (negE fa) :=
  ⟨pe_imp (pe_un un_neg h.pe) fun σ H Q ⟨F, env, st, g, q⟩ => ⟨F, env, st, g, q.bind.mono fun p st1 F1 H1 s1 g1 q1 x rx => by
    cases p with
    | int i => exact ⟨i, rx, q1 F1 H1 Stp.refl g1 _ rfl⟩
    | _ => exact q1.elim⟩⟩
end
end KI

/-! part KI4 -/
set_option Elab.async false
set_option linter.all false
set_option maxRecDepth 100000
set_option maxHeartbeats 4000000
namespace KI
open PySem PySem.Spec PyProof.Rows L2

/-! ## operators -/
section
variable {X : Cx}
theorem newBy0 {F H : Hp} : NewBy F H F H := .inl ⟨rfl, rfl⟩
theorem newBy1 {F H : Hp} {a : Addr} {o : HO} (h : H a = none) : NewBy F H (upd F a o) (upd H a o) := .inr ⟨a, o, h, rfl, rfl⟩
theorem same_fnone {F H : Hp} (le : Same F H) {a : Addr} (h : H a = none) : F a = none := le.free h
theorem rep_lst {K : Frag} {F : Hp} {a : Addr} {ps : List PV} {vs : List V} (hn : F a = none) (r : RepL K F ps vs) : Rep K (upd F a (.lst vs)) (.lst ps) (.ref a) := ⟨a, vs, rfl, upd_same, RepL.mono (Same.upd_new hn) _ _ r⟩
theorem rep_tup {K : Frag} {F : Hp} {a : Addr} {ps : List PV} {vs : List V} (hn : F a = none) (r : RepL K F ps vs) : Rep K (upd F a (.tup vs)) (.tup ps) (.ref a) := ⟨a, vs, rfl, SqT.of upd_same, RepL.mono (Same.upd_new hn) _ _ r⟩

def addP : PV → PV → Option PV
  | .int i, .int j => some (.int (i + j))
  | .str x, .str y => if x.length + y.length ≤ sizeLine then some (.str (x ++ y)) else none
  | .lst ps, .lst qs => if ps.length + qs.length ≤ sizeLine then some (.lst (ps ++ qs)) else none
  | .tup ps, .tup qs => if ps.length + qs.length ≤ sizeLine then some (.tup (ps ++ qs)) else none
  | _, _ => none
theorem or_add : OpR X (binaryOp .Add) (rP X.K addP) := by
  refine opr_imp (OpR.or (OpR.or (op_add (X := X)) op_add_str) (OpR.or op_cat op_catA)) fun x y H Q ⟨F, p, q, le, rp, rq, z, hz, k⟩ => ?_
  cases p <;> cases q <;> first
    | (cases hz; done)
    | (have e1 := rp.int; have e2 := rq.int; subst e1 e2; cases hz; exact .inl (.inl ⟨_, _, rfl, rfl, k _ F H newBy0 rfl⟩))
    | skip
  · rename_i i j
    have e1 := rp.str; have e2 := rq.str; subst e1 e2
    have hz' : (if i.length + j.length ≤ sizeLine then some (PV.str (i ++ j)) else none) = some z := hz
    by_cases hl : i.length + j.length ≤ sizeLine
    · rw [if_pos hl] at hz'; cases hz'
      exact .inl (.inr ⟨i, j, rfl, rfl, hl, k _ F H newBy0 rfl⟩)
    · rw [if_neg hl] at hz'; cases hz'
  · rename_i ps qs
    obtain ⟨a, vs, rfl, h1, h2⟩ := rp.lst le
    obtain ⟨b, ws, rfl, h3, h4⟩ := rq.lst le
    have hz' : (if ps.length + qs.length ≤ sizeLine then some (PV.lst (ps ++ qs)) else none) = some z := hz
    by_cases hl : ps.length + qs.length ≤ sizeLine
    · rw [if_pos hl] at hz'; cases hz'
      exact .inr (.inl ⟨a, b, vs, ws, rfl, rfl, h1, h3, by rw [← h2.length, ← h4.length]; exact hl, fun c hc => k _ _ _ (newBy1 hc) (rep_lst (same_fnone le hc) (h2.append h4))⟩)
    · rw [if_neg hl] at hz'; cases hz'
  · rename_i ps qs
    have f1 := rp.tupF
    have f2 := rq.tupF
    obtain ⟨a, vs, rfl, h1, h2⟩ := rp.tup le
    obtain ⟨b, ws, rfl, h3, h4⟩ := rq.tup le
    have hz' : (if ps.length + qs.length ≤ sizeLine then some (PV.tup (ps ++ qs)) else none) = some z := hz
    by_cases hl : ps.length + qs.length ≤ sizeLine
    · rw [if_pos hl] at hz'; cases hz'
      refine .inr (.inr ⟨a, b, vs, ws, rfl, rfl, h1, h3, by rw [← h2.length, ← h4.length]; exact hl, fun e => ?_, fun _ e => ?_, fun _ _ c hc => k _ _ _ (newBy1 hc) (rep_tup (same_fnone le hc) (h2.append h4))⟩)
      · have e' : ps = [] := List.length_eq_zero_iff.mp (by rw [h2.length, e]; rfl)
        rw [e', List.nil_append] at k
        exact k _ F H newBy0 f2
      · have e' : qs = [] := List.length_eq_zero_iff.mp (by rw [h4.length, e]; rfl)
        rw [e', List.append_nil] at k
        exact k _ F H newBy0 f1
    · rw [if_neg hl] at hz'; cases hz'
/-- of lists, an object of its own -/
def addL : PV → PV → Option PV
  | .lst ps, .lst qs => if ps.length + qs.length ≤ sizeLine then some (.lst (ps ++ qs)) else none
  | _, _ => none
theorem oro_add : OpR X (binaryOp .Add) (rPO X.K addL) := by
  refine opr_imp (op_cat (X := X)) fun x y H Q ⟨F, p, q, le, rp, rq, z, hz, k⟩ => ?_
  cases p <;> cases q <;> first
    | (cases hz; done)
    | skip
  rename_i ps qs
  obtain ⟨a, vs, rfl, h1, h2⟩ := rp.lst le
  obtain ⟨b, ws, rfl, h3, h4⟩ := rq.lst le
  have hz' : (if ps.length + qs.length ≤ sizeLine then some (PV.lst (ps ++ qs)) else none) = some z := hz
  by_cases hl : ps.length + qs.length ≤ sizeLine
  · rw [if_pos hl] at hz'; cases hz'
    exact ⟨a, b, vs, ws, rfl, rfl, h1, h3, by rw [← h2.length, ← h4.length]; exact hl, fun c hc => k c _ hc ⟨_, upd_same, h2.append h4⟩⟩
  · rw [if_neg hl] at hz'; cases hz'
def subP : PV → PV → Option PV
  | .int i, .int j => some (.int (i - j))
  | _, _ => none
theorem or_sub : OpR X (binaryOp .Sub) (rP X.K subP) := by
  refine opr_imp (op_sub (X := X)) fun x y H Q ⟨F, p, q, le, rp, rq, z, hz, k⟩ => ?_
  cases p <;> cases q <;> first
    | (cases hz; done)
    | (have e1 := rp.int; have e2 := rq.int; subst e1 e2; cases hz; exact ⟨_, _, rfl, rfl, k _ F H newBy0 rfl⟩)
instance (i j : Int) : Decidable (CMulW i j) := by unfold CMulW; infer_instance

/-- a text again and again -/
def repS (x : Str) (n : Nat) : Str := ⟨(List.replicate n x.cps.toList).flatten.toArray⟩
theorem foldl_app (x : Array Nat) : ∀ (n : Nat) (acc : Array Nat), ((List.replicate n x).foldl (· ++ ·) acc) = acc ++ (List.replicate n x.toList).flatten.toArray
  | 0, acc => by simp
  | n + 1, acc => by
    rw [List.replicate_succ, List.foldl_cons, foldl_app x n, List.replicate_succ, List.flatten_cons, Array.append_assoc]
    congr 1
    simp
theorem op_repS : OpR X (binaryOp .Mult) (fun x y H Q => ∃ z n, x = .str z ∧ y = .int n ∧ n < 2 ^ 24 ∧ -(2 ^ 24) < n ∧ z.length * n.toNat ≤ sizeLine ∧ Q (.str (repS z n.toNat)) H) := by
  intro pins s σ H x y v u Q I rx ry h
  obtain ⟨z, n, rfl, rfl, h1, h0, h2, q⟩ := h
  obtain ⟨t, rfl⟩ := rx
  obtain ⟨t', rfl⟩ := ry
  have hs : sizeLine = 16777216 := sizeLine_eq
  refine PySem.P.mul_str ?_ (fun h3 h4 => ?_) (fun h3 h4 => ?_) ?_
  · rw [decide_eq_false (by omega), decide_eq_false (by omega)]; rfl
  · have h5 : (z.length : Int) * n ≤ 16777216 := by
      have h2' : z.length * n.toNat ≤ 16777216 := by rw [← hs]; exact h2
      have e : ((z.length * n.toNat : Nat) : Int) = (z.length : Int) * n := by rw [Int.natCast_mul, Int.toNat_of_nonneg (by omega)]
      rw [← e]; omega
    have hz : (z.length : Int) ≤ 16777216 := by
      have a1 : (z.length : Int) * 1 ≤ (z.length : Int) * n := Int.mul_le_mul_of_nonneg_left (by omega) (Int.natCast_nonneg _)
      omega
    have h6 : (16777216 : Int) ≤ (2 ^ 63 - 1) / n := by
      apply Int.le_ediv_of_mul_le (by omega)
      have a2 : (16777216 : Int) * n ≤ 16777216 * 2 ^ 24 := Int.mul_le_mul_of_nonneg_left (by omega) (by omega)
      have a3 : (16777216 : Int) * 2 ^ 24 ≤ 2 ^ 63 - 1 := by decide
      omega
    omega
  · unfold Builtin.Str.tooLong
    exact decide_eq_false (by omega)
  · have fin : ∀ (y : Str), y = repS z n.toNat → ∀ tk k, EP X pins σ Q (.str y tk) { s with toks := k } := fun y e tk k => by
      subst e; exact ⟨.str (repS z n.toNat), H, I.tok k, ⟨tk, rfl⟩, q⟩
    by_cases h3 : n < 1
    · rw [if_pos h3]
      have e : Str.empty = repS z n.toNat := by
        have : n.toNat = 0 := by omega
        rw [this]; rfl
      exact ⟨by decide, fin _ e _ _⟩
    · rw [if_neg h3]
      by_cases h4 : (n == 1 || z.length == 0) = true
      · rw [if_pos h4]
        have e : z = repS z n.toNat := by
          rcases (Bool.or_eq_true_iff.mp h4) with h5 | h5
          · have h5 : n = 1 := eq_of_beq h5
            subst h5
            show z = ⟨(List.replicate 1 z.cps.toList).flatten.toArray⟩
            simp
          · have h5 : z.length = 0 := eq_of_beq h5
            have h6 : z.cps = #[] := Array.eq_empty_of_size_eq_zero h5
            unfold repS
            rw [h6]
            have : ∀ m : Nat, (List.replicate m ([] : List Nat)).flatten = [] := fun m => by simp
            rw [show (#[] : Array Nat).toList = [] from rfl, this]
            exact Str.ext' h6
        exact ⟨.str z, H, I, ⟨t, rfl⟩, by rw [← e] at q; exact q⟩
      · rw [if_neg h4]
        have e : (⟨(List.replicate n.toNat z.cps).foldl (· ++ ·) #[]⟩ : Str) = repS z n.toNat := by
          unfold repS; rw [foldl_app]; simp
        refine ⟨?_, fin _ e _ _⟩
        rw [e]
        have hl : (repS z n.toNat).length = n.toNat * z.length := by
          show ((List.replicate n.toNat z.cps.toList).flatten.toArray).size = _
          rw [List.size_toArray, List.length_flatten, List.map_replicate, List.sum_replicate_nat, Array.length_toList]; rfl
        first
          | (rw [hl, Nat.mul_comm]; exact h2)
          | (show Builtin.Str.tooLong _ = false
             unfold Builtin.Str.tooLong
             rw [hl, Nat.mul_comm]
             exact decide_eq_false (by omega))
          | (rw [hl, Nat.mul_comm]; exact decide_eq_false (by omega))
end
end KI

/-! part KI5 -/
set_option Elab.async false
set_option linter.all false
set_option maxRecDepth 100000
set_option maxHeartbeats 4000000
namespace KI
open PySem PySem.Spec PyProof.Rows L2
section
variable {X : Cx}
instance (i j : Int) : Decidable (CMul i j) := by unfold CMul; infer_instance
instance (i j : Int) : Decidable (CPow i j) := by unfold CPow; infer_instance
def rep1 (ps : List PV) (k : Nat) : List PV := (List.replicate k ps).flatten
theorem RepL.rep {K : Frag} {F : Hp} {ps : List PV} {vs : List V} (r : RepL K F ps vs) : ∀ k, RepL K F (rep1 ps k) (List.replicate k vs).flatten
  | 0 => rfl
  | k + 1 => by
    show RepL K F (List.replicate (k + 1) ps).flatten _
    rw [List.replicate_succ, List.flatten_cons, List.replicate_succ, List.flatten_cons]
    exact r.append (RepL.rep r k)
def mulP : PV → PV → Option PV
  | .int i, .int j => if CMul i j ∨ CMulW i j then some (.int (i * j)) else none
  | .str x, .int n => if n < 2 ^ 24 ∧ -(2 ^ 24) < n ∧ x.length * n.toNat ≤ sizeLine then some (.str (repS x n.toNat)) else none
  | .lst ps, .int k => if -(2 ^ 63) ≤ k ∧ k < 2 ^ 63 ∧ ps.length * k.toNat ≤ sizeLine then some (.lst (rep1 ps k.toNat)) else none
  | _, _ => none
theorem or_mul : OpR X (binaryOp .Mult) (rP X.K mulP) := by
  refine opr_imp (OpR.or (OpR.or (op_mul (X := X)) op_mulW) (OpR.or op_repS op_rep)) fun x y H Q ⟨F, p, q, le, rp, rq, z, hz, k⟩ => ?_
  cases p <;> cases q <;> first
    | (simp only [mulP, reduceCtorEq] at hz; done)
    | skip
  · rename_i i j
    have e1 := rp.int; have e2 := rq.int; subst e1 e2
    have hz' : (if CMul i j ∨ CMulW i j then some (PV.int (i * j)) else none) = some z := hz
    by_cases hl : CMul i j ∨ CMulW i j
    · rw [if_pos hl] at hz'; cases hz'
      rcases hl with hl | hl
      · exact .inl (.inl ⟨i, j, rfl, rfl, hl, k _ F H newBy0 rfl⟩)
      · exact .inl (.inr ⟨i, j, rfl, rfl, hl, k _ F H newBy0 rfl⟩)
    · rw [if_neg hl] at hz'; cases hz'
  · rename_i i j
    have e1 := rp.str; have e2 := rq.int; subst e1 e2
    have hz' : (if j < 2 ^ 24 ∧ -(2 ^ 24) < j ∧ i.length * j.toNat ≤ sizeLine then some (PV.str (repS i j.toNat)) else none) = some z := hz
    by_cases hl : j < 2 ^ 24 ∧ -(2 ^ 24) < j ∧ i.length * j.toNat ≤ sizeLine
    · rw [if_pos hl] at hz'; cases hz'
      exact .inr (.inl ⟨i, j, rfl, rfl, hl.1, hl.2.1, hl.2.2, k _ F H newBy0 rfl⟩)
    · rw [if_neg hl] at hz'; cases hz'
  · rename_i ps j
    have e2 := rq.int; subst e2
    obtain ⟨a, vs, rfl, h1, h2⟩ := rp.lst le
    have hz' : (if -(2 ^ 63) ≤ j ∧ j < 2 ^ 63 ∧ ps.length * j.toNat ≤ sizeLine then some (PV.lst (rep1 ps j.toNat)) else none) = some z := hz
    by_cases hl : -(2 ^ 63) ≤ j ∧ j < 2 ^ 63 ∧ ps.length * j.toNat ≤ sizeLine
    · rw [if_pos hl] at hz'; cases hz'
      exact .inr (.inr ⟨a, j, vs, rfl, rfl, h1, hl.1, hl.2.1, by rw [← h2.length]; exact hl.2.2, fun c hc => k _ _ _ (newBy1 hc) (rep_lst (same_fnone le hc) (h2.rep _))⟩)
    · rw [if_neg hl] at hz'; cases hz'
def mulL : PV → PV → Option PV
  | .lst ps, .int k => if -(2 ^ 63) ≤ k ∧ k < 2 ^ 63 ∧ ps.length * k.toNat ≤ sizeLine then some (.lst (rep1 ps k.toNat)) else none
  | _, _ => none
theorem oro_mul : OpR X (binaryOp .Mult) (rPO X.K mulL) := by
  refine opr_imp (op_rep (X := X)) fun x y H Q ⟨F, p, q, le, rp, rq, z, hz, k⟩ => ?_
  cases p <;> cases q <;> first
    | (simp only [mulL, reduceCtorEq] at hz; done)
    | skip
  rename_i ps j
  have e2 := rq.int; subst e2
  obtain ⟨a, vs, rfl, h1, h2⟩ := rp.lst le
  have hz' : (if -(2 ^ 63) ≤ j ∧ j < 2 ^ 63 ∧ ps.length * j.toNat ≤ sizeLine then some (PV.lst (rep1 ps j.toNat)) else none) = some z := hz
  by_cases hl : -(2 ^ 63) ≤ j ∧ j < 2 ^ 63 ∧ ps.length * j.toNat ≤ sizeLine
  · rw [if_pos hl] at hz'; cases hz'
    exact ⟨a, j, vs, rfl, rfl, h1, hl.1, hl.2.1, by rw [← h2.length]; exact hl.2.2, fun c hc => k c _ hc ⟨_, upd_same, h2.rep _⟩⟩
  · rw [if_neg hl] at hz'; cases hz'

/-- operations on two whole numbers -/
def intP (C : Int → Int → Bool) (g : Int → Int → Int) : PV → PV → Option PV
  | .int i, .int j => if C i j = true then some (.int (g i j)) else none
  | _, _ => none
theorem or_int {f : Value → Value → Sem Value} {r : R2} {C : Int → Int → Bool} {g : Int → Int → Int} (h : OpR X f r) (k : ∀ i j H Q, C i j = true → Q (.int (g i j)) H → r (.int i) (.int j) H Q) : OpR X f (rP X.K (intP C g)) := by
  refine opr_imp h fun x y H Q ⟨F, p, q, le, rp, rq, z, hz, kk⟩ => ?_
  cases p <;> cases q <;> first
    | (simp only [intP, reduceCtorEq] at hz; done)
    | skip
  rename_i i j
  have e1 := rp.int; have e2 := rq.int; subst e1 e2
  have hz' : (if C i j = true then some (PV.int (g i j)) else none) = some z := hz
  by_cases hl : C i j = true
  · rw [if_pos hl] at hz'; cases hz'
    exact k i j H Q hl (kk _ F H newBy0 rfl)
  · rw [if_neg hl] at hz'; cases hz'
def fdivC (i j : Int) : Bool := decide (j ≠ 0 ∧ j.natAbs < 1073741824) || decide (0 < j ∧ j.natAbs.log2 < 9000)
abbrev fdivP := intP fdivC Int.fdiv
theorem or_fdiv : OpR X (binaryOp .FloorDiv) (rP X.K fdivP) := or_int (OpR.or op_fdivN op_fdivW) fun i j H Q hc q => by
  rcases Bool.or_eq_true_iff.mp hc with h | h
  · have h : j ≠ 0 ∧ j.natAbs < 1073741824 := of_decide_eq_true h
    exact .inl ⟨i, j, rfl, rfl, h, q⟩
  · have h := of_decide_eq_true h
    refine .inr ⟨i, j, rfl, rfl, h, ?_⟩
    show Q (.int (i / j)) H
    rw [← Int.fdiv_eq_ediv_of_nonneg i (Int.le_of_lt h.1)]; exact q
abbrev modP := intP (fun _ j => decide (j ≠ 0)) Int.fmod
theorem or_mod : OpR X (binaryOp .Mod) (rP X.K modP) := or_int op_modN fun i j H Q hc q => ⟨i, j, rfl, rfl, of_decide_eq_true hc, q⟩
abbrev powP := intP (fun i j => decide (CPow i j)) fun i j => i ^ j.toNat
theorem or_pow : OpR X (binaryOp .Pow) (rP X.K powP) := or_int op_pow fun i j H Q hc q => ⟨i, j, rfl, rfl, of_decide_eq_true hc, q⟩
abbrev shlP := intP (fun i j => decide (CPow i j)) fun i j => i * 2 ^ j.toNat
theorem or_shl : OpR X (binaryOp .LShift) (rP X.K shlP) := or_int op_shl fun i j H Q hc q => ⟨i, j, rfl, rfl, of_decide_eq_true hc, q⟩
abbrev shrP := intP (fun _ j => decide (0 ≤ j)) fun i j => i / 2 ^ j.toNat
theorem or_shr : OpR X (binaryOp .RShift) (rP X.K shrP) := or_int op_shr fun i j H Q hc q => ⟨i, j, rfl, rfl, of_decide_eq_true hc, q⟩
abbrev bandP := intP (fun _ _ => true) Builtin.bitAnd
theorem or_band : OpR X (binaryOp .BitAnd) (rP X.K bandP) := or_int op_and fun i j H Q _ q => ⟨i, j, rfl, rfl, q⟩

/-! ## comparisons -/
def icmp (g : Int → Int → Bool) : PV → PV → Option Bool
  | .int i, .int j => some (g i j)
  | _, _ => none
theorem or_icmp {f : Value → Value → Sem Value} {g : Int → Int → Bool} (h : OpR X f (rI0 fun i j => .bl (g i j))) : OpR X f (rB X.K (icmp g)) := by
  refine opr_imp h fun x y H Q ⟨F, p, q, le, rp, rq, z, hz, kk⟩ => ?_
  cases p <;> cases q <;> first
    | (simp only [icmp, reduceCtorEq] at hz; done)
    | skip
  rename_i i j
  have e1 := rp.int; have e2 := rq.int; subst e1 e2
  cases hz
  exact ⟨i, j, rfl, rfl, kk⟩
abbrev ltP := icmp fun i j => decide (i < j)
abbrev leP := icmp fun i j => decide (i ≤ j)
abbrev gtP := icmp fun i j => decide (j < i)
abbrev geP := icmp fun i j => decide (j ≤ i)
theorem or_lt : OpR X (compareOp .Lt) (rB X.K ltP) := or_icmp op_lt
theorem or_le : OpR X (compareOp .LtE) (rB X.K leP) := or_icmp op_le
theorem or_gt : OpR X (compareOp .Gt) (rB X.K gtP) := or_icmp op_gt
theorem or_ge : OpR X (compareOp .GtE) (rB X.K geP) := or_icmp op_ge

mutual
def toD : PV → PyData
  | .non => .none
  | .bl b => .bool b
  | .int i => .int i
  | .str x => .str x
  | .lst ps => .list (toDs ps)
  | .tup ps => .tuple (toDs ps)
  | .dct _ _ => .dict []
  | .ins _ _ _ => .dict []
  | .scr _ => .dict []
def toDs : List PV → List PyData
  | [] => []
  | p :: ps => toD p :: toDs ps
end
theorem toDs_map : ∀ ps : List PV, toDs ps = ps.map toD
  | [] => by rw [toDs]; rfl
  | p :: ps => by rw [toDs, toDs_map ps]; rfl
mutual
theorem Rep.dp {K : Frag} {F H : Hp} (le : Same F H) : ∀ (p : PV) (v : V), Rep K F p v → (toD p).canLay0 = true → Dp K H v (toD p)
  | .non, v, h, _ => by rw [show v = V.non from h, toD]; exact .non
  | .bl b, v, h, _ => by rw [show v = V.bl b from h, toD]; exact .bl b
  | .int i, v, h, _ => by rw [show v = V.int i from h, toD]; exact .int i
  | .str x, v, h, _ => by rw [show v = V.str x from h, toD]; exact .str x
  | .lst ps, v, ⟨a, vs, h1, h2, h3⟩, hc => by
    rw [toD] at hc ⊢
    rw [h1]
    exact .lst (SqL.of (le _ _ h2)) (RepL.dp le ps vs h3 (by rw [PyData.canLay0] at hc; exact hc))
  | .tup ps, v, ⟨a, vs, h1, h2, h3⟩, hc => by
    rw [toD] at hc ⊢
    rw [h1]
    exact .tup (sqT_mono le h2) (RepL.dp le ps vs h3 (by rw [PyData.canLay0] at hc; exact hc))
  | .dct _ _, v, h, hc => by rw [toD, PyData.canLay0] at hc; cases hc
  | .ins _ _ _, v, h, hc => by rw [toD, PyData.canLay0] at hc; cases hc
  | .scr _, v, h, hc => by rw [toD, PyData.canLay0] at hc; cases hc
theorem RepL.dp {K : Frag} {F H : Hp} (le : Same F H) : ∀ (ps : List PV) (vs : List V), RepL K F ps vs → PyData.canLayAll0 (toDs ps) = true → DpAll K H vs (toDs ps)
  | [], vs, h, _ => by rw [show vs = [] from h, toDs]; exact .nil
  | p :: ps, vs, ⟨v, r, h1, h2, h3⟩, hc => by
    rw [toDs] at hc ⊢
    rw [PyData.canLayAll0, Bool.and_eq_true_iff] at hc
    rw [h1]
    exact .cons (Rep.dp le p v h2 hc.1) (RepL.dp le ps r h3 hc.2)
end
theorem RH.dp {K : Frag} {F H : Hp} {p : PV} {v : V} (le : Same F H) (h : RH K F H p v) (hc : (toD p).canLay0 = true) : Dp K H v (toD p) := by
  rcases h with h | ⟨a, e, h⟩
  · exact h.dp le _ _ hc
  · cases p with
    | lst ps =>
      obtain ⟨vs, h1, h2⟩ := h
      rw [toD] at hc ⊢
      rw [e]
      exact .lst (SqL.of h1) (h2.dp le _ _ (by rw [PyData.canLay0] at hc; exact hc))
    | dct ks ps => rw [toD, PyData.canLay0] at hc; cases hc
    | ins c ns ps => rw [toD, PyData.canLay0] at hc; cases hc
    | _ => exact h.elim
def okD (p : PV) : Bool := SeqAt.shaped (toD p)
theorem okD_lay {p : PV} (h : okD p = true) : (toD p).canLay0 = true := SeqAt.canLay_of_shaped h
def eqB (p q : PV) : Bool := PyData.eqv (toD p) (toD q)
def eqP (p q : PV) : Option Bool := if okD p = true ∧ okD q = true then some (eqB p q) else none
def neP (p q : PV) : Option Bool := if okD p = true ∧ okD q = true then some (!eqB p q) else none
theorem or_eq {k : Nat} (hr : Room k X.A) : OpR X (compareOp .Eq) (rB X.K eqP) := by
  refine opr_imp (op_eqD hr.units) fun x y H Q ⟨F, p, q, le, rp, rq, z, hz, kk⟩ => ?_
  unfold eqP at hz
  by_cases hl : okD p = true ∧ okD q = true
  · rw [if_pos hl] at hz; cases hz
    exact ⟨_, _, rp.dp le (okD_lay hl.1), rq.dp le (okD_lay hl.2), hl.1, hl.2, kk⟩
  · rw [if_neg hl] at hz; cases hz
theorem or_ne {k : Nat} (hr : Room k X.A) : OpR X (compareOp .NotEq) (rB X.K neP) := by
  refine opr_imp (op_neD hr.units) fun x y H Q ⟨F, p, q, le, rp, rq, z, hz, kk⟩ => ?_
  unfold neP at hz
  by_cases hl : okD p = true ∧ okD q = true
  · rw [if_pos hl] at hz; cases hz
    exact ⟨_, _, rp.dp le (okD_lay hl.1), rq.dp le (okD_lay hl.2), hl.1, hl.2, kk⟩
  · rw [if_neg hl] at hz; cases hz
/-- is None, is True, is False -/
def isNon : PV → Bool
  | .non => true
  | _ => false
theorem RH.isNon {K : Frag} {F H : Hp} {p : PV} {v : V} (h : RH K F H p v) (le : Same F H) : decide (v = V.non) = KI.isNon p := by
  cases p with
  | non => rw [h.non]; rfl
  | bl b => rw [h.bl]; exact decide_eq_false (fun z => nomatch z)
  | int i => rw [h.int]; exact decide_eq_false (fun z => nomatch z)
  | str i => rw [h.str]; exact decide_eq_false (fun z => nomatch z)
  | lst ps => obtain ⟨a, _, e, _⟩ := h.lst le; rw [e]; exact decide_eq_false (fun z => nomatch z)
  | tup ps => obtain ⟨a, _, e, _⟩ := h.tup le; rw [e]; exact decide_eq_false (fun z => nomatch z)
  | dct ks ps => obtain ⟨a, _, e, _⟩ := h.dct le; rw [e]; exact decide_eq_false (fun z => nomatch z)
  | ins c ns ps => obtain ⟨a, _, _, e, _⟩ := h.ins le; rw [e]; exact decide_eq_false (fun z => nomatch z)
  | scr ns => obtain ⟨a, e, _⟩ := h.scr le; rw [e]; exact decide_eq_false (fun z => nomatch z)
def isP : PV → PV → Option Bool
  | p, .non => some (isNon p)
  | .bl a, .bl b => some (decide (a = b))
  | _, _ => none
def isnP : PV → PV → Option Bool
  | p, .non => some (!isNon p)
  | .bl a, .bl b => some (!decide (a = b))
  | _, _ => none
theorem or_is : OpR X (compareOp .Is) (rB X.K isP) := by
  refine opr_imp (OpR.or op_isN op_isBl) fun x y H Q ⟨F, p, q, le, rp, rq, z, hz, kk⟩ => ?_
  cases q with
  | non =>
    have hz' : some (isNon p) = some z := by cases p <;> exact hz
    cases hz'
    exact .inl ⟨rq.non, by rw [rp.isNon le]; exact kk⟩
  | bl b =>
    cases p <;> first
      | (cases hz; done)
      | skip
    rename_i a
    cases hz
    exact .inr ⟨a, b, rp.bl, rq.bl, kk⟩
  | _ => cases p <;> cases hz
theorem or_isn : OpR X (compareOp .IsNot) (rB X.K isnP) := by
  refine opr_imp (OpR.or op_notN op_notBl) fun x y H Q ⟨F, p, q, le, rp, rq, z, hz, kk⟩ => ?_
  cases q with
  | non =>
    have hz' : some (!isNon p) = some z := by cases p <;> exact hz
    cases hz'
    exact .inl ⟨rq.non, by rw [rp.isNon le]; exact kk⟩
  | bl b =>
    cases p <;> first
      | (cases hz; done)
      | skip
    rename_i a
    cases hz
    exact .inr ⟨a, b, rp.bl, rq.bl, kk⟩
  | _ => cases p <;> cases hz
/-! ### in -/
def flatP : PV → Bool
  | .non => true
  | .bl _ => true
  | .int _ => true
  | .str _ => true
  | _ => false
def eqF : PV → PV → Bool
  | .non, .non => true
  | .bl a, .bl b => a == b
  | .bl a, .int b => (if a then 1 else 0) == b
  | .int a, .bl b => a == (if b then 1 else 0)
  | .int a, .int b => a == b
  | .str a, .str b => a == b
  | _, _ => false
/-- a flat value -/
def flV : PV → V
  | .non => .non
  | .bl b => .bl b
  | .int i => .int i
  | .str x => .str x
  | _ => .non
theorem Rep.fl {K : Frag} {F : Hp} {p : PV} {v : V} (h : Rep K F p v) (f : flatP p = true) : v = flV p := by
  cases p with
  | non => exact h
  | bl b => exact h
  | int i => exact h
  | str x => exact h
  | lst _ => exact absurd f Bool.false_ne_true
  | tup _ => exact absurd f Bool.false_ne_true
  | dct _ _ => exact absurd f Bool.false_ne_true
  | ins _ _ _ => exact absurd f Bool.false_ne_true
  | scr _ => exact absurd f Bool.false_ne_true
theorem flV_flat : ∀ {p : PV}, flatP p = true → flatV (flV p) = true
  | .non, _ => rfl
  | .bl _, _ => rfl
  | .int _, _ => rfl
  | .str _, _ => rfl
theorem flV_eq : ∀ {p q : PV}, flatP p = true → flatP q = true → eqV (flV p) (flV q) = KI.eqF p q
  | .non, .non, _, _ => rfl
  | .non, .bl _, _, _ => rfl
  | .non, .int _, _, _ => rfl
  | .non, .str _, _, _ => rfl
  | .bl _, .non, _, _ => rfl
  | .bl _, .bl _, _, _ => rfl
  | .bl _, .int _, _, _ => rfl
  | .bl _, .str _, _, _ => rfl
  | .int _, .non, _, _ => rfl
  | .int _, .bl _, _, _ => rfl
  | .int _, .int _, _, _ => rfl
  | .int _, .str _, _, _ => rfl
  | .str _, .non, _, _ => rfl
  | .str _, .bl _, _, _ => rfl
  | .str _, .int _, _, _ => rfl
  | .str _, .str _, _, _ => rfl
theorem Rep.flat {K : Frag} {F : Hp} {p : PV} {v : V} (h : Rep K F p v) (f : flatP p = true) : flatV v = true := by rw [h.fl f]; exact flV_flat f
theorem Rep.eqF {K : Frag} {F : Hp} {p q : PV} {v w : V} (h1 : Rep K F p v) (h2 : Rep K F q w) (f1 : flatP p = true) (f2 : flatP q = true) : eqV v w = KI.eqF p q := by
  rw [h1.fl f1, h2.fl f2]; exact flV_eq f1 f2
theorem RepL.flat {K : Frag} {F : Hp} : ∀ {ps : List PV} {vs : List V}, RepL K F ps vs → ps.all flatP = true → vs.all flatV = true
  | [], _, h, _ => by cases (show _ = ([] : List V) from h); rfl
  | p :: ps, _, ⟨v, r, h1, h2, h3⟩, f => by
    subst h1
    rw [List.all_cons, Bool.and_eq_true_iff] at f ⊢
    exact ⟨h2.flat f.1, RepL.flat h3 f.2⟩
theorem RepL.inF {K : Frag} {F : Hp} {q : PV} {w : V} (hq : Rep K F q w) (fq : flatP q = true) : ∀ {ps : List PV} {vs : List V}, RepL K F ps vs → ps.all flatP = true → inV w vs = ps.any fun p => KI.eqF p q
  | [], _, h, _ => by cases (show _ = ([] : List V) from h); rfl
  | p :: ps, _, ⟨v, r, h1, h2, h3⟩, f => by
    subst h1
    rw [List.all_cons, Bool.and_eq_true_iff] at f
    have ih := RepL.inF hq fq h3 f.2
    unfold inV at ih ⊢
    rw [List.any_cons, List.any_cons, ih, h2.eqF hq f.1 fq]
theorem RH.flatR {K : Frag} {F H : Hp} {p : PV} {v : V} (h : RH K F H p v) (f : flatP p = true) : Rep K F p v := by
  rcases h with h | ⟨a, _, h⟩
  · exact h
  · cases p <;> first | exact h.elim | cases f
def keyP : PV → Option Key
  | .int i => some (.inl i)
  | .str x => some (.inr x)
  | _ => none
theorem RH.key {K : Frag} {F H : Hp} {p : PV} {v : V} {k : Key} (h : RH K F H p v) (e : keyP p = some k) : v = kV k := by
  cases p <;> first
    | (cases e; done)
    | (cases e; exact h.int)
    | (cases e; exact h.str)
def hasK (ks : List Key) (k : Key) : Bool := ks.any fun k' => decide (k' = k)
theorem valV_mem {k : Key} : ∀ {ks : List Key} {vs : List V}, ks.length = vs.length → (valV (ks.zip vs) k).isSome = hasK ks k
  | [], _, _ => by simp [valV, hasK]
  | k' :: ks, [], h => by cases h
  | k' :: ks, v :: vs, h => by
    rw [List.zip_cons_cons]
    unfold hasK
    rw [List.any_cons]
    by_cases e : k' = k
    · rw [valV_pos (p := (k', v)) e, decide_eq_true e]; rfl
    · rw [valV_neg (p := (k', v)) e, valV_mem (by simpa using h), decide_eq_false e, Bool.false_or]; rfl
theorem op_inDct {n : Nat} (hr : Room n X.A) : OpR X (compareOp .In) (fun x y H Q => ∃ a o, y = .ref a ∧ DGet H a x o ∧ Q (.bl o.isSome) H) := by
  intro pins s σ H x y v u Q I rx ry h
  obtain ⟨a, o, rfl, g, q⟩ := h
  cases (show u = Value.ref a from ry)
  exact d_in (hu_of hr) I g rx fun s' I' => ⟨.bl o.isSome, H, I', rfl, q⟩
theorem op_notInDct {n : Nat} (hr : Room n X.A) : OpR X (compareOp .NotIn) (fun x y H Q => ∃ a o, y = .ref a ∧ DGet H a x o ∧ Q (.bl (!o.isSome)) H) := by
  intro pins s σ H x y v u Q I rx ry h
  obtain ⟨a, o, rfl, g, q⟩ := h
  cases (show u = Value.ref a from ry)
  exact d_notIn (hu_of hr) I g rx fun s' I' => ⟨.bl (!o.isSome), H, I', rfl, q⟩
def inP (neg : Bool) : PV → PV → Option Bool
  | p, .lst ps => if flatP p = true ∧ ps.all flatP = true then some (if neg = true then !(ps.any fun r => eqF r p) else ps.any fun r => eqF r p) else none
  | p, .tup ps => if flatP p = true ∧ ps.all flatP = true then some (if neg = true then !(ps.any fun r => eqF r p) else ps.any fun r => eqF r p) else none
  | .str x, .str z => (match x.cps.toList with
    | [c] => some (if neg = true then !decide (c ∈ z.cps.toList) else decide (c ∈ z.cps.toList))
    | _ => none)
  | p, .dct ks _ => (match keyP p with
    | some k => some (if neg = true then !hasK ks k else hasK ks k)
    | none => none)
  | _, _ => none
theorem str_one {x : Str} {c : Nat} (h : x.cps.toList = [c]) : x = ⟨#[c]⟩ := Str.ext' (Array.toList_inj.mp h)
theorem inP_seq {K : Frag} {neg : Bool} {F H : Hp} {p : PV} {ps : List PV} {x : V} {z : Bool} {Q : VK} {vs : List V} (rp : RH K F H p x) (h2 : RepL K F ps vs)
    (hz : (if flatP p = true ∧ ps.all flatP = true then some (if neg = true then !(ps.any fun r => eqF r p) else ps.any fun r => eqF r p) else none) = some z) (kk : Q (.bl z) H) :
    flatV x = true ∧ vs.all flatV = true ∧ Q (.bl (if neg then !inV x vs else inV x vs)) H := by
  by_cases hl : flatP p = true ∧ ps.all flatP = true
  · rw [if_pos hl] at hz; cases hz
    have r := rp.flatR hl.1
    refine ⟨r.flat hl.1, h2.flat hl.2, ?_⟩
    rw [h2.inF r hl.1 hl.2]; exact kk
  · rw [if_neg hl] at hz; cases hz
theorem or_in_of {neg : Bool} {f : Value → Value → Sem Value} {r : R2} (h : OpR X f r)
    (k1 : ∀ x y H Q, rIn X.K neg x y H Q → r x y H Q) (k2 : ∀ c z H Q, Q (.bl (if neg = true then !decide (c ∈ z.cps.toList) else decide (c ∈ z.cps.toList))) H → r (.str ⟨#[c]⟩) (.str z) H Q)
    (k3 : ∀ x a o H Q, DGet H a x o → Q (.bl (if neg = true then !o.isSome else o.isSome)) H → r x (.ref a) H Q) : OpR X f (rB X.K (inP neg)) := by
  refine opr_imp h fun x y H Q ⟨F, p, q, le, rp, rq, z, hz, kk⟩ => ?_
  cases q with
  | lst ps =>
    obtain ⟨a, vs, rfl, h1, h2⟩ := rq.lst le
    have hz' : (if flatP p = true ∧ ps.all flatP = true then some (if neg = true then !(ps.any fun r => eqF r p) else ps.any fun r => eqF r p) else none) = some z := by cases p <;> exact hz
    obtain ⟨e1, e2, e3⟩ := inP_seq (Q := Q) rp h2 hz' kk
    exact k1 _ _ _ _ ⟨a, vs, rfl, .inl (SqL.of h1), e1, e2, e3⟩
  | tup ps =>
    obtain ⟨a, vs, rfl, h1, h2⟩ := rq.tup le
    have hz' : (if flatP p = true ∧ ps.all flatP = true then some (if neg = true then !(ps.any fun r => eqF r p) else ps.any fun r => eqF r p) else none) = some z := by cases p <;> exact hz
    obtain ⟨e1, e2, e3⟩ := inP_seq (Q := Q) rp h2 hz' kk
    exact k1 _ _ _ _ ⟨a, vs, rfl, .inr h1, e1, e2, e3⟩
  | str w =>
    cases p <;> first
      | (cases hz; done)
      | skip
    rename_i x'
    have hz' : (match x'.cps.toList with
      | [c] => some (if neg = true then !decide (c ∈ w.cps.toList) else decide (c ∈ w.cps.toList))
      | _ => none) = some z := hz
    split at hz'
    · rename_i c hc
      cases hz'
      rw [rp.str, rq.str, str_one hc]
      exact k2 _ _ _ _ kk
    · cases hz'
  | dct ks ps =>
    obtain ⟨a, vs, rfl, h1, h2, h3⟩ := rq.dct le
    have hz' : (match keyP p with
      | some k => some (if neg = true then !hasK ks k else hasK ks k)
      | none => none) = some z := by cases p <;> exact hz
    split at hz'
    · rename_i k hk
      cases hz'
      rw [rp.key hk]
      refine k3 _ a _ _ _ (DGet.k (k := k) h1) ?_
      rw [valV_mem h2]; exact kk
    · cases hz'
  | _ => cases p <;> cases hz
theorem or_in {n : Nat} (hr : Room n X.A) : OpR X (compareOp .In) (rB X.K (inP false)) :=
  or_in_of (OpR.or op_in_seq (OpR.or op_in_sign (op_inDct hr))) (fun _ _ _ _ h => .inl h) (fun c z H Q h => .inr (.inl ⟨c, z, rfl, rfl, h⟩)) fun x a o H Q g h => .inr (.inr ⟨a, o, rfl, g, h⟩)
theorem or_notIn {n : Nat} (hr : Room n X.A) : OpR X (compareOp .NotIn) (rB X.K (inP true)) :=
  or_in_of (OpR.or op_notIn_seq (OpR.or op_notIn_sign (op_notInDct hr))) (fun _ _ _ _ h => .inl h) (fun c z H Q h => .inr (.inl ⟨c, z, rfl, rfl, h⟩)) fun x a o H Q g h => .inr (.inr ⟨a, o, rfl, g, h⟩)
/-! ### subscripts -/
def ixP : PV → PV → Option PV
  | .lst ps, .int i => atI ps i
  | .tup ps, .int i => atI ps i
  | .str z, .int i => if z.length ≤ sizeLine then (atI z.cps.toList i).map fun c => .str ⟨#[c]⟩ else none
  | .scr ns, .int i => (atI ns i).map PV.int
  | _, _ => none
theorem RepL.atI {K : Frag} {F : Hp} {ps : List PV} {vs : List V} {i : Int} {p : PV} (r : RepL K F ps vs) (h : L2.atI ps i = some p) : ∃ v, L2.atI vs i = some v ∧ Rep K F p v := by
  unfold L2.atI at h ⊢
  rw [← r.length]
  cases e : ixN ps.length i with
  | none => rw [e] at h; cases h
  | some j =>
    rw [e] at h
    obtain ⟨v, h1, h2⟩ := r.get (i := j) (p := p) h
    exact ⟨v, h1, h2⟩
theorem atI_map {α β : Type} {f : α → β} {xs : List α} {i : Int} : L2.atI (xs.map f) i = (L2.atI xs i).map f := by
  unfold L2.atI
  rw [List.length_map]
  cases ixN xs.length i with
  | none => rfl
  | some j => simp
theorem ixr_imp {r r' : R2} (h : IxR X r) (k : ∀ x y H Q, r' x y H Q → r x y H Q) : IxR X r' := fun value slice pins s σ H x y v u Q I rx ry q => h value slice pins s σ H x y v u Q I rx ry (k x y H Q q)
theorem ix_p : IxR X (rP X.K ixP) := by
  refine ixr_imp ix_seq fun x y H Q ⟨F, p, q, le, rp, rq, z, hz, kk⟩ => ?_
  cases p <;> cases q <;> first
    | (simp only [ixP, reduceCtorEq] at hz; done)
    | skip
  · rename_i w i
    rw [rp.str, rq.int]
    have hz' : (if w.length ≤ sizeLine then (L2.atI w.cps.toList i).map fun c => PV.str ⟨#[c]⟩ else none) = some z := hz
    by_cases hl : w.length ≤ sizeLine
    · rw [if_pos hl] at hz'
      cases e : L2.atI w.cps.toList i with
      | none => rw [e] at hz'; cases hz'
      | some c =>
        rw [e] at hz'; cases hz'
        exact .inr (.inr ⟨w, i, c, rfl, rfl, hl, e, kk _ F H newBy0 rfl⟩)
    · rw [if_neg hl] at hz'; cases hz'
  · rename_i ps i
    rw [rq.int]
    obtain ⟨a, vs, rfl, h1, h2⟩ := rp.lst le
    obtain ⟨v, h3, h4⟩ := h2.atI (p := z) hz
    exact .inl ⟨a, vs, i, v, rfl, rfl, SqL.of h1, h3, kk _ F H newBy0 h4⟩
  · rename_i ps i
    rw [rq.int]
    obtain ⟨a, vs, rfl, h1, h2⟩ := rp.tup le
    obtain ⟨v, h3, h4⟩ := h2.atI (p := z) hz
    exact .inr (.inl ⟨a, vs, i, v, rfl, rfl, h1, h3, kk _ F H newBy0 h4⟩)
  · rename_i ns i
    rw [rq.int]
    obtain ⟨a, rfl, h1⟩ := rp.scr le
    have hz' : (L2.atI ns i).map PV.int = some z := hz
    cases e : L2.atI ns i with
    | none => rw [e] at hz'; cases hz'
    | some j =>
      rw [e] at hz'; cases hz'
      exact .inl ⟨a, _, i, .int j, rfl, rfl, h1, by rw [atI_map, e]; rfl, kk _ F H newBy0 rfl⟩
end
end KI

/-! part KI6 -/
set_option Elab.async false
set_option linter.all false
set_option maxRecDepth 100000
set_option maxHeartbeats 4000000
namespace KI
open PySem PySem.Spec PyProof.Rows L2

/-! ## defs -/
inductive Md where
  | val | bor | mu
  deriving DecidableEq
def isMut : Md → Bool
  | .mu => true
  | _ => false
structure FnI where
  ms : List Md
  own : Bool
  sem : List PV → PV → ER PV

def ArgOk (K : Frag) (F H : Hp) (ma : Option Addr) (st : PV) : Md → PV → V → Prop
  | .val, p, v => Rep K F p v
  | .bor, p, v => Rep K F p v ∨ ∃ a, v = .ref a ∧ ma ≠ some a ∧ Own K F H a p
  | .mu, _, v => ∃ a, v = .ref a ∧ ma = some a ∧ F a = none ∧ Own K F H a st
def ArgsOk (K : Frag) (F H : Hp) (ma : Option Addr) (st : PV) : List Md → List PV → List V → Prop
  | [], ps, vs => ps = [] ∧ vs = []
  | m :: ms, ps, vs => ∃ p ps' v vs', ps = p :: ps' ∧ vs = v :: vs' ∧ ArgOk K F H ma st m p v ∧ ArgsOk K F H ma st ms ps' vs'
theorem ArgsOk.len {K : Frag} {F H : Hp} {ma : Option Addr} {st : PV} : ∀ {ms : List Md} {ps : List PV} {vs : List V}, ArgsOk K F H ma st ms ps vs → ms.length = ps.length ∧ ms.length = vs.length
  | [], _, _, ⟨h1, h2⟩ => by rw [h1, h2]; exact ⟨rfl, rfl⟩
  | m :: ms, _, _, ⟨p, ps', v, vs', h1, h2, _, h4⟩ => by
    obtain ⟨a, b⟩ := ArgsOk.len h4
    rw [h1, h2, List.length_cons, List.length_cons, List.length_cons, ← a, ← b]; exact ⟨rfl, rfl⟩
theorem ArgsOk.get {K : Frag} {F H : Hp} {ma : Option Addr} {st : PV} : ∀ {ms : List Md} {ps : List PV} {vs : List V} {i : Nat} {m : Md}, ArgsOk K F H ma st ms ps vs → ms[i]? = some m → ∃ p v, ps[i]? = some p ∧ vs[i]? = some v ∧ ArgOk K F H ma st m p v
  | [], _, _, _, _, _, e => by simp at e
  | m :: ms, _, _, 0, m', ⟨p, ps', v, vs', h1, h2, h3, _⟩, e => by
    simp at e; subst e; subst h1 h2; exact ⟨p, v, rfl, rfl, h3⟩
  | m :: ms, _, _, i + 1, m', ⟨p, ps', v, vs', h1, h2, _, h4⟩, e => by
    subst h1 h2
    obtain ⟨p', v', a, b, c⟩ := ArgsOk.get (i := i) (m := m') h4 (by simpa using e)
    exact ⟨p', v', by simpa using a, by simpa using b, c⟩
/-- behind a call -/
structure Back (K : Frag) (F H : Hp) (ma : Option Addr) (F' H' : Hp) (st' : PV) : Prop where
  le0 : Same F F'
  le : Same F' H'
  kept : ∀ a o, H a = some o → ma ≠ some a → H' a = some o
  there : ∀ a, H a ≠ none → H' a ≠ none
  frs : ∀ a, F' a ≠ none → F a ≠ none ∨ H a = none
  mt : ∀ a, ma = some a → F' a = none ∧ Own K F' H' a st'
def ResOk (K : Frag) (F H F' H' : Hp) (own : Bool) (p : PV) (v : V) : Prop :=
  if own = true then ∃ a, v = .ref a ∧ F' a = none ∧ H a = none ∧ Own K F' H' a p else Rep K F' p v
def FPost (K : Frag) (F H : Hp) (ma : Option Addr) (own : Bool) (Q : VK) (E : XK) : ER PV → Prop
  | .ok p st' => ∀ v F' H', Back K F H ma F' H' st' → ResOk K F H F' H' own p v → Q v H'
  | .exc c ns qs st' => ∀ F' H' d ws, Back K F H ma F' H' st' → F' d = some (.xd (ns.zip ws)) → ns.length = ws.length → RepL K F' qs ws → E (.ref (He.ga K c)) (some d) H'
  | .stuck => False
/-- the promise of a def by its meaning -/
def spOf (K : Frag) (fi : FnI) : Sp := fun vs H Q E => ∃ F ps st ma, Same F H ∧ (fi.ms.any isMut = false → ma = none) ∧ ArgsOk K F H ma st fi.ms ps vs ∧ FPost K F H ma fi.own Q E (fi.sem ps st)

def slotOf : Md → PV → Slot
  | .val, p => .sh p
  | .bor, p => .bor p
  | .mu, _ => .mt
def env0 (ms : List Md) (ps : List PV) (n : Nat) : SEnv := List.zipWith slotOf ms ps ++ List.replicate (n - ms.length) .dead
def hasMt (env : SEnv) : Bool := env.any fun s => match s with
  | .mt => true
  | _ => false
def endS (m own : Bool) : SR → ER PV
  | .nx env st => if (!m || hasMt env) && !own then .ok .non st else .stuck
  | .ret p o env st => if (!m || hasMt env) && (o == own) then .ok p st else .stuck
  | .exc c ns ps env st => if (!m || hasMt env) then .exc c ns ps st else .stuck
  | _ => .stuck
def mkFn (ms : List Md) (own : Bool) (n : Nat) (g : SF) : FnI := ⟨ms, own, fun ps st => endS (ms.any isMut) own (g (env0 ms ps n) st)⟩

theorem zipWith_get {α β γ : Type} {f : α → β → γ} : ∀ {xs : List α} {ys : List β} {i : Nat} {z : γ}, (List.zipWith f xs ys)[i]? = some z → ∃ x y, xs[i]? = some x ∧ ys[i]? = some y ∧ z = f x y
  | [], _, _, _, h => by simp at h
  | _ :: _, [], _, _, h => by simp at h
  | x :: xs, y :: ys, 0, z, h => by simp at h; exact ⟨x, y, rfl, rfl, h.symm⟩
  | x :: xs, y :: ys, i + 1, z, h => by
    obtain ⟨a, b, h1, h2, h3⟩ := zipWith_get (xs := xs) (ys := ys) (i := i) (z := z) (by simpa using h)
    exact ⟨a, b, by simpa using h1, by simpa using h2, h3⟩
theorem good_start {K : Frag} {F H : Hp} {ma : Option Addr} {st : PV} {ms : List Md} {ps : List PV} {vs : List V} {N : List Str} (le : Same F H) (ha : ArgsOk K F H ma st ms ps vs) (hn : ms.length ≤ N.length)
    (h1 : ∀ i j : Nat, ms[i]? = some .mu → ms[j]? = some .mu → i = j) : Good K ⟨F, H, ma, none⟩ F H (env0 ms ps N.length) st (L2.start N vs) := by
  obtain ⟨l1, l2⟩ := ha.len
  have lz : (List.zipWith slotOf ms ps).length = ms.length := by rw [List.length_zipWith, ← l1, Nat.min_self]
  have at_ : ∀ (i : Nat) (s : Slot), (env0 ms ps N.length)[i]? = some s → (∃ m p v, ms[i]? = some m ∧ ps[i]? = some p ∧ (L2.start N vs)[i]? = some (some v) ∧ s = slotOf m p ∧ ArgOk K F H ma st m p v) ∨ (s = .dead ∧ ∃ o, (L2.start N vs)[i]? = some o) := fun i s h => by
    unfold env0 at h
    by_cases hi : i < ms.length
    · rw [List.getElem?_append_left (by rw [lz]; exact hi)] at h
      obtain ⟨m, p, e1, e2, e3⟩ := zipWith_get h
      obtain ⟨p', v, e4, e5, e6⟩ := ha.get e1
      rw [e2] at e4; cases e4
      refine .inl ⟨m, p, v, e1, e2, ?_, e3, e6⟩
      unfold L2.start
      rw [List.getElem?_append_left (by rw [List.length_map, ← l2]; exact hi), List.getElem?_map, e5]; rfl
    · rw [List.getElem?_append_right (by rw [lz]; omega), lz] at h
      obtain ⟨hl, e⟩ := List.getElem?_eq_some_iff.mp h
      rw [List.getElem_replicate] at e
      rw [List.length_replicate] at hl
      refine .inr ⟨e.symm, none, ?_⟩
      unfold L2.start
      rw [List.getElem?_append_right (by rw [List.length_map, ← l2]; omega), List.length_map, ← l2]
      exact List.getElem?_replicate_of_lt hl
  refine ⟨le, Same.refl F, fun _ _ h _ => h, fun _ h => h, fun _ h => .inl h, ?_, fun i s h => ?_, fun i j s t a ne h1' h2' o1 o2 e1 e2 => ?_, fun i j h1' h2' => ?_⟩
  · unfold env0 L2.start
    rw [List.length_append, List.length_append, lz, List.length_replicate, List.length_map, List.length_replicate, l2]
  · rcases at_ i s h with ⟨m, p, v, e1, e2, e3, rfl, e4⟩ | ⟨rfl, o, e⟩
    · refine ⟨some v, e3, ?_⟩
      cases m with
      | val => exact ⟨v, rfl, e4⟩
      | bor => exact ⟨v, rfl, e4⟩
      | mu => obtain ⟨a, rfl, e5, e6, e7⟩ := e4; exact ⟨a, rfl, e6, .inl e5, e7⟩
    · exact ⟨o, e, trivial⟩
  · rcases at_ i s h1' with ⟨m, p, v, e3, _, _, rfl, _⟩ | ⟨rfl, _⟩
    · rcases at_ j t h2' with ⟨m', p', v', e4, _, _, rfl, _⟩ | ⟨rfl, _⟩
      · cases m <;> first
          | (cases o1; done)
          | (cases m' <;> first
            | (cases o2; done)
            | exact ne (h1 i j e3 e4))
      · cases o2
    · cases o1
  · rcases at_ i _ h1' with ⟨m, p, v, e3, _, _, z, _⟩ | ⟨z, _⟩
    · rcases at_ j _ h2' with ⟨m', p', v', e4, _, _, z', _⟩ | ⟨z', _⟩
      · cases m <;> first
          | (cases z; done)
          | (cases m' <;> first
            | (cases z'; done)
            | exact h1 i j e3 e4)
      · cases z'
    · cases z

section
variable {P : Program} {w : World} {K : Frag} {mg : Str → Option Value} {base : Heap} {x qual : Str} {params : Arguments} {body : List Stmt} {scope : Scope} {dvs : List V} {kws : List (Str × V)} {f : Addr} {fd : FuncData}
theorem hasMt_get {env : SEnv} (h : hasMt env = true) : ∃ i : Nat, env[i]? = some Slot.mt := by
  obtain ⟨s, hm, hs⟩ := List.any_eq_true.mp h
  obtain ⟨i, hi⟩ := List.getElem?_of_mem hm
  cases s with
  | mt => exact ⟨i, hi⟩
  | _ => cases hs
theorem back_of {F H F' H' : Hp} {ma : Option Addr} {env : SEnv} {st' : PV} {σ : Sg} {m : Bool} (g : Good K ⟨F, H, ma, none⟩ F' H' env st' σ) (hm : m = false → ma = none) (h : (!m || hasMt env) = true) : Back K F H ma F' H' st' :=
  ⟨g.le0, g.le, g.kept, g.there, g.frs, fun a e => by
    cases m with
    | false => rw [hm rfl] at e; cases e
    | true =>
      obtain ⟨i, hi⟩ := hasMt_get (show hasMt env = true by simpa using h)
      obtain ⟨o, _, b, _, h2, h3, h4⟩ := g.slots i _ hi
      have eb : b = a := by
        rcases h3 with h3 | ⟨h3, _⟩
        · have z : some a = some b := e.symm.trans h3
          exact (Option.some.inj z).symm
        · have z : ma = none := h3
          rw [e] at z; cases z
      subst eb
      exact ⟨h2, h4⟩⟩
/-- THE RULE of a def -/
theorem fn_rule {N ps : List Str} {k : Nat} {ms : List Md} {own : Bool} {g : SF} (F : FunD K x qual params body scope dvs kws f fd) (S : FnScope N ps scope) (hms : ms.length = ps.length) (h1 : (ms.filter isMut).length ≤ 1)
    (hbody : ∀ (cdv : Value) (A : Around) (outer : List Env) (s : Shared) (H : Hp) (E : XK) (B : Bs), (ms.any isMut = false → B.ma = none) → Room k (A.deeper (envOfC qual scope s.heap.objs.size f cdv)) →
      QSs (cxOf (L2.CX P w) P w K mg base N qual scope f cdv A outer s H E) B (fun cls d _ H => E cls d H) body g) :
    FnOk P w K mg base (L2.CX P w) (k + 1) f fd ps (spOf K (mkFn ms own N.length g)) := by
  have hlen : ms.length ≤ N.length := by
    rw [hms, ← S.pre]; rw [List.length_take]; exact Nat.min_le_right _ _
  have uniq : ∀ i j : Nat, ms[i]? = some .mu → ms[j]? = some .mu → i = j := by
    clear hms hbody S hlen
    induction ms with
    | nil => intro i j h; simp at h
    | cons m ms ih =>
      intro i j hi hj
      have no : ∀ n : Nat, m = .mu → ms[n]? ≠ some .mu := fun n em hn => by
        have : Md.mu ∈ ms.filter isMut := List.mem_filter.mpr ⟨List.mem_of_getElem? hn, rfl⟩
        have hl := List.length_pos_of_mem this
        rw [List.filter_cons, if_pos (by rw [em]; rfl), List.length_cons] at h1
        omega
      have ih' := ih (by
        rw [List.filter_cons] at h1
        split at h1
        · rw [List.length_cons] at h1; omega
        · exact h1)
      cases i with
      | zero =>
        simp at hi
        cases j with
        | zero => rfl
        | succ j => exact absurd (by simpa using hj) (no j hi)
      | succ i =>
        cases j with
        | zero => simp at hj; exact absurd (by simpa using hi) (no i hj)
        | succ j => rw [ih' i j (by simpa using hi) (by simpa using hj)]
  refine F.ok S (fun vs H Q E ⟨F0, qs, st, ma, _, _, ha, _⟩ => by rw [← ha.len.2]; exact hms) (fun cdv A outer s H vs Q E hr ⟨F0, qs, st, ma, le, hm, ha, q⟩ => ⟨_, (hbody cdv A outer s H E ⟨F0, H, ma, none⟩ hm hr).pss, F0, env0 ms qs N.length, st, good_start le ha hlen uniq, ?_⟩)
  have q' : FPost K F0 H ma own Q E (endS (ms.any isMut) own (g (env0 ms qs N.length) st)) := q
  cases hg : g (env0 ms qs N.length) st with
  | nx env st' =>
    replace q' : FPost K F0 H ma own Q E (if ((!ms.any isMut || hasMt env) && !own) = true then .ok .non st' else .stuck) := by rw [hg] at q'; exact q'
    by_cases hc : ((!ms.any isMut || hasMt env) && !own) = true
    · rw [if_pos hc] at q'
      obtain ⟨c1, c2⟩ := Bool.and_eq_true_iff.mp hc
      exact fun σ' F' H' e g' => q' .non F' H' (back_of g' hm c1) (by
        unfold ResOk
        rw [if_neg (by simpa using c2)]; rfl)
    · rw [if_neg hc] at q'; exact q'.elim
  | ret p o env st' =>
    replace q' : FPost K F0 H ma own Q E (if ((!ms.any isMut || hasMt env) && (o == own)) = true then .ok p st' else .stuck) := by rw [hg] at q'; exact q'
    by_cases hc : ((!ms.any isMut || hasMt env) && (o == own)) = true
    · rw [if_pos hc] at q'
      obtain ⟨c1, c2⟩ := Bool.and_eq_true_iff.mp hc
      have c3 : o = own := eq_of_beq c2
      subst c3
      exact fun v σ' F' H' e g' r => q' v F' H' (back_of g' hm c1) r
    · rw [if_neg hc] at q'; exact q'.elim
  | exc c ns ps' env st' =>
    replace q' : FPost K F0 H ma own Q E (if (!ms.any isMut || hasMt env) = true then .exc c ns ps' st' else .stuck) := by rw [hg] at q'; exact q'
    by_cases hc : (!ms.any isMut || hasMt env) = true
    · rw [if_pos hc] at q'
      exact fun σ' F' H' d ws e g' h2 h3 h4 => q' F' H' d ws (back_of g' hm hc) h2 h3 h4
    · rw [if_neg hc] at q'; exact q'.elim
  | brk env st' => rw [hg] at q'; exact q'.elim
  | ct env st' => rw [hg] at q'; exact q'.elim
  | stuck => rw [hg] at q'; exact q'.elim
end
end KI

/-! part KI7 -/
set_option Elab.async false
set_option linter.all false
set_option maxRecDepth 100000
set_option maxHeartbeats 4000000
namespace KI
open PySem PySem.Spec PyProof.Rows L2

/-! ## arguments -/
def CArg (K : Frag) (F H : Hp) (env : SEnv) (σ : Sg) : Md → PV → V → Prop
  | .val, p, v => Rep K F p v
  | .bor, p, v => RT K F H env σ p v
  | .mu, _, v => ∃ (i : Nat) (a : Addr), v = .ref a ∧ env[i]? = some .mt ∧ σ[i]? = some (some (.ref a))
def CArgs (K : Frag) (F H : Hp) (env : SEnv) (σ : Sg) : List Md → List PV → List V → Prop
  | [], ps, vs => ps = [] ∧ vs = []
  | m :: ms, ps, vs => ∃ p ps' v vs', ps = p :: ps' ∧ vs = v :: vs' ∧ CArg K F H env σ m p v ∧ CArgs K F H env σ ms ps' vs'
theorem CArg.step {K : Frag} {F H F' H' : Hp} {env : SEnv} {σ : Sg} (s : Stp env σ F H F' H') : ∀ {m : Md} {p : PV} {v : V}, CArg K F H env σ m p v → CArg K F' H' env σ m p v
  | .val, _, _, h => Rep.mono s.le _ _ h
  | .bor, _, _, h => RT.step s h
  | .mu, _, _, h => h
def tA (K : Frag) (B : Bs) (W : WX) (ms : List Md) (f : AF) : TA := fun σ H Q => ∃ F env st, Good K B F H env st σ ∧ EPost K B W env σ F H (fun ps _ F' H' => ∀ vs, CArgs K F' H' env σ ms ps vs → Q vs H') (f env st)
structure QA (X : Cx) (B : Bs) (W : WX) (ms : List Md) (es : List Expr) (f : AF) : Prop where
  pa : PA X es (tA X.K B W ms f)
def nilA : AF := fun _ st => .ok [] st
def consA (f : EF) (g : AF) : AF := fun env st => (f env st).bind fun p st1 => (g env st1).bind fun ps st2 => .ok (p :: ps) st2
section
variable {X : Cx} {B : Bs} {W : WX} {e : Expr} {es : List Expr} {f : EF} {g : AF} {ms : List Md} {pos : Pos}
theorem qa_nil : QA X B W [] [] nilA := ⟨pa_imp pa_nil fun σ H Q ⟨F, env, st, g, q⟩ => q F H Stp.refl g [] ⟨rfl, rfl⟩⟩
theorem cons_post {K : Frag} {m : Md} {F H : Hp} {env : SEnv} {st : PV} {σ : Sg} {Q : List V → Hp → Prop} {te : TE} (g0 : Good K B F H env st σ) (q : EPost K B W env σ F H (fun ps _ F' H' => ∀ vs, CArgs K F' H' env σ (m :: ms) ps vs → Q vs H') (consA f g env st))
    (ht : ∀ R : V → Hp → Prop, (EPost K B W env σ F H (fun p _ F' H' => ∀ v, CArg K F' H' env σ m p v → R v H') (f env st)) → te σ H R) : te σ H fun x H1 => tA K B W ms g σ H1 fun xs H2 => Q (x :: xs) H2 :=
  ht _ (q.bind.mono fun p st1 F1 H1 s1 g1 q1 v rv => ⟨F1, env, st1, g1, q1.bind.mono fun ps st2 F2 H2 s2 g2 q2 vs rs => q2 F2 H2 Stp.refl g2 (v :: vs) ⟨p, ps, v, vs, rfl, rfl, rv.step s2, rs⟩⟩)
theorem qa_val (h : QE X B W e f) (hr : QA X B W ms es g) (hs : starEach (e :: es) X.env = (false, eval e X.env) :: starEach es X.env := by rfl) : QA X B W (.val :: ms) (e :: es) (consA f g) :=
  ⟨pa_imp (pa_cons h.pe hr.pa hs) fun σ H Q ⟨F, env, st, g0, q⟩ => cons_post (m := .val) g0 q fun R hq => ⟨F, env, st, g0, hq⟩⟩
theorem qa_bor (h : QR X B W e f) (hr : QA X B W ms es g) (hs : starEach (e :: es) X.env = (false, eval e X.env) :: starEach es X.env := by rfl) : QA X B W (.bor :: ms) (e :: es) (consA f g) :=
  ⟨pa_imp (pa_cons h.pe hr.pa hs) fun σ H Q ⟨F, env, st, g0, q⟩ => cons_post (m := .bor) g0 q fun R hq => ⟨F, env, st, g0, hq⟩⟩
/-- the object that the callee may change: its own slot -/
def mtA (i : Nat) : EF := fun env st => match env[i]? with
  | some .mt => .ok .non st
  | _ => .stuck
theorem qa_mu (i : Nat) {x : Str} {p1 : Pos} (hr : QA X B W ms es g) (hN : X.N[i]? = some x := by rfl) (hv : Vis X.env.scope x := by first | exact Or.inl rfl | exact Or.inr (Or.inl rfl) | exact Or.inr (Or.inr rfl)) (hd : (x == ("__debug__" : Str)) = false := by decide)
    (hcd : (x == ("__classdict__" : Str)) = false := by decide) (hs : starEach (.Name x p1 :: es) X.env = (false, eval (.Name x p1) X.env) :: starEach es X.env := by rfl) : QA X B W (.mu :: ms) (.Name x p1 :: es) (consA (mtA i) g) :=
  ⟨pa_imp (pa_cons (pe_var hN hv hd hcd) hr.pa hs) fun σ H Q ⟨F, env, st, g0, q⟩ => cons_post (m := .mu) g0 q fun R hq => by
    unfold mtA at hq
    cases h : env[i]? with
    | none => rw [h] at hq; exact hq.elim
    | some s =>
      rw [h] at hq
      cases s with
      | mt =>
        obtain ⟨o, h1, a, rfl, _⟩ := g0.slots i _ h
        exact ⟨.ref a, h1, hq F H Stp.refl g0 (.ref a) ⟨i, a, rfl, h, h1⟩⟩
      | _ => exact hq.elim⟩
end

/-! ## calls -/
theorem argsOk_vals {K : Frag} {F H : Hp} {ma : Option Addr} {st : PV} : ∀ {ps2 : List PV} {vs2 : List V}, RepL K F ps2 vs2 → ArgsOk K F H ma st (List.replicate ps2.length .val) ps2 vs2
  | [], _, h => ⟨rfl, h⟩
  | p :: ps, _, ⟨v, r, e, h3, h4⟩ => ⟨p, ps, v, r, rfl, e, h3, argsOk_vals h4⟩
theorem ArgsOk.append {K : Frag} {F H : Hp} {ma : Option Addr} {st : PV} {ps2 : List PV} {vs2 : List V} (h2 : RepL K F ps2 vs2) : ∀ {ms : List Md} {ps : List PV} {vs : List V}, ArgsOk K F H ma st ms ps vs → ArgsOk K F H ma st (ms ++ List.replicate ps2.length .val) (ps ++ ps2) (vs ++ vs2)
  | m :: ms, _, _, ⟨p, ps', v, vs', h1, h3, h4, h5⟩ => by
    subst h1 h3
    exact ⟨p, ps' ++ ps2, v, vs' ++ vs2, rfl, rfl, h4, ArgsOk.append h2 h5⟩
  | [], _, _, ⟨h1, h3⟩ => by
    subst h1 h3
    exact argsOk_vals h2
/-- the arguments, as the callee takes them -/
theorem args_in {K : Frag} {B : Bs} {F H : Hp} {env : SEnv} {st : PV} {σ : Sg} (g : Good K B F H env st σ) {ms : List Md} {ps : List PV} {vs : List V} (h : CArgs K F H env σ ms ps vs) :
    ∃ ma, (ms.any isMut = false → ma = none) ∧ (∀ a, ma = some a → MtA env σ a) ∧ (ms.any isMut = true → ∃ a, ma = some a) ∧ ArgsOk K F H ma (if ms.any isMut = true then st else .non) ms ps vs := by
  by_cases hm : ms.any isMut = true
  · have key : ∀ (ms : List Md) (ps : List PV) (vs : List V), CArgs K F H env σ ms ps vs → ms.any isMut = true → ∃ a, MtA env σ a := by
      intro ms
      induction ms with
      | nil => intro _ _ _ z; cases z
      | cons m ms ih =>
        intro ps vs ⟨p, ps', v, vs', _, _, h3, h4⟩ z
        cases m with
        | mu => obtain ⟨i, a, _, h5, h6⟩ := h3; exact ⟨a, i, h5, h6⟩
        | val => exact ih _ _ h4 z
        | bor => exact ih _ _ h4 z
    obtain ⟨a, ha⟩ := key ms ps vs h hm
    have uniq : ∀ b, MtA env σ b → b = a := fun b ⟨j, h3, h4⟩ => by
      obtain ⟨i, h1, h2⟩ := ha
      have e := g.mt1 i j h1 h3
      subst e
      rw [h2] at h4; cases h4; rfl
    refine ⟨some a, (fun z => by rw [hm] at z; cases z), (fun b e => by cases e; exact ha), (fun _ => ⟨a, rfl⟩), ?_⟩
    rw [if_pos hm]
    clear hm key
    induction ms generalizing ps vs with
    | nil => exact h
    | cons m ms ih =>
      obtain ⟨p, ps', v, vs', h1, h2, h3, h4⟩ := h
      refine ⟨p, ps', v, vs', h1, h2, ?_, ih h4⟩
      cases m with
      | val => exact h3
      | bor =>
        rcases h3 with h3 | ⟨b, e, n, h3⟩
        · exact .inl h3
        · exact .inr ⟨b, e, fun z => by cases z; exact n ha, h3⟩
      | mu =>
        obtain ⟨i, b, e, h5, h6⟩ := h3
        have eb := uniq b ⟨i, h5, h6⟩
        subst eb
        obtain ⟨o, e1, c, rfl, e2, e3, e4⟩ := g.slots i _ h5
        rw [h6] at e1; cases e1
        exact ⟨b, e, rfl, e2, e4⟩
  · have hm' : ms.any isMut = false := by simpa using hm
    refine ⟨none, (fun _ => rfl), (fun b e => by cases e), (fun z => absurd z hm), ?_⟩
    rw [if_neg hm]
    clear hm
    induction ms generalizing ps vs with
    | nil => exact h
    | cons m ms ih =>
      obtain ⟨p, ps', v, vs', h1, h2, h3, h4⟩ := h
      rw [List.any_cons, Bool.or_eq_false_iff] at hm'
      refine ⟨p, ps', v, vs', h1, h2, ?_, ih h4 hm'.2⟩
      cases m with
      | val => exact h3
      | bor =>
        rcases h3 with h3 | ⟨b, e, n, h3⟩
        · exact .inl h3
        · exact .inr ⟨b, e, (fun z => by cases z), h3⟩
      | mu => cases hm'.1
/-- what comes back -/
theorem Good.back {K : Frag} {B : Bs} {F H F' H' : Hp} {env : SEnv} {st st' : PV} {σ : Sg} {ma : Option Addr} (g : Good K B F H env st σ) (hma : ∀ a, ma = some a → MtA env σ a) (b : Back K F H ma F' H' st') :
    Good K B F' H' env (if ma.isSome = true then st' else st) σ ∧ Stp env σ F H F' H' := by
  have fn : ∀ a, F a = none → H a ≠ none → F' a = none := fun a h1 h2 => by
    cases z : F' a with
    | none => rfl
    | some u =>
      rcases b.frs a (by rw [z]; simp) with h | h
      · exact absurd h1 h
      · exact absurd h h2
  refine ⟨⟨b.le, g.le0.trans b.le0, fun a o h n => b.kept a o (g.kept a o h n) fun z => ?_, fun a h => b.there a (g.there a h), fun a h => ?_, g.len, fun i s h => ?_, g.sep, g.mt1⟩, ⟨b.le0, fun a o h n => b.kept a o h fun z => n (hma a z), b.frs, b.there⟩⟩
  · obtain ⟨i, h1, h2⟩ := hma a z
    obtain ⟨o', e1, c, rfl, e2, e3, e4⟩ := g.slots i _ h1
    rw [h2] at e1; cases e1
    rcases e3 with e3 | ⟨_, e3⟩
    · exact n e3
    · rw [h] at e3; cases e3
  · rcases b.frs a h with h | h
    · exact g.frs a h
    · exact .inr (g.h0none h)
  · obtain ⟨o, h1, h2⟩ := g.slots i s h
    refine ⟨o, h1, ?_⟩
    cases s with
    | dead => trivial
    | sh p => obtain ⟨v, h3, h4⟩ := h2; exact ⟨v, h3, Rep.mono b.le0 _ _ h4⟩
    | own p =>
      obtain ⟨a, rfl, h4, h5, h6⟩ := h2
      refine ⟨a, rfl, fn a h4 h6.there, h5, h6.mono b.le0 fun u hu => b.kept a u hu fun z => ?_⟩
      obtain ⟨j, h7, h8⟩ := hma a z
      exact g.sep i j _ _ a (fun e => by subst e; rw [h] at h7; cases h7) h h7 rfl rfl h1 h8
    | mt =>
      obtain ⟨a, rfl, h4, h5, h6⟩ := h2
      cases ma with
      | none => exact ⟨a, rfl, fn a h4 h6.there, h5, h6.mono b.le0 fun u hu => b.kept a u hu fun z => nomatch z⟩
      | some c =>
        obtain ⟨j, h7, h8⟩ := hma c rfl
        have e := g.mt1 i j h h7
        subst e
        rw [h1] at h8; cases h8
        obtain ⟨h9, h10⟩ := b.mt a rfl
        exact ⟨a, rfl, h9, h5, h10⟩
    | bor p =>
      obtain ⟨v, h3, h4⟩ := h2
      refine ⟨v, h3, ?_⟩
      rcases h4 with h4 | ⟨a, h4, h5, h6⟩
      · exact .inl (Rep.mono b.le0 _ _ h4)
      · exact .inr ⟨a, h4, h5, h6.mono b.le0 fun _ z => z⟩
    | exc c ns ps => obtain ⟨a, d, vs, h0, h3, h4, h5, h6⟩ := h2; exact ⟨a, d, vs, h0, h3, b.le0 _ _ h4, h5, RepL.mono b.le0 _ _ h6⟩

/-- the meaning of a call, the arguments known -/
def callK (fi : FnI) (ps : List PV) (st : PV) : ER PV := if fi.ms.any isMut = true then fi.sem ps st else match fi.sem ps .non with
  | .ok p _ => .ok p st
  | .exc c ns qs _ => .exc c ns qs st
  | .stuck => .stuck
def callE (fi : FnI) (dps : List PV) (fa : AF) : EF := fun env st => (fa env st).bind fun ps st1 => callK fi (ps ++ dps) st1
theorem any_repl (ms : List Md) (n : Nat) : (ms ++ List.replicate n Md.val).any isMut = ms.any isMut := by
  rw [List.any_append]
  have : (List.replicate n Md.val).any isMut = false := by
    induction n with
    | zero => rfl
    | succ n ih => rw [List.replicate_succ, List.any_cons, ih]; rfl
  rw [this, Bool.or_false]
/-- the promise holds, by the meaning -/
theorem call_sp {K : Frag} {B : Bs} {W : WX} {F H : Hp} {env : SEnv} {st : PV} {σ : Sg} {fi : FnI} {ms : List Md} {ps dps : List PV} {vs dvs : List V} {Q : VK} {R : PV → PV → Hp → Hp → Prop} (g : Good K B F H env st σ) (hms : fi.ms = ms ++ List.replicate dps.length .val)
    (ha : CArgs K F H env σ ms ps vs) (hd : RepL K F dps dvs) (q : EPost K B W env σ F H R (callK fi (ps ++ dps) st)) (hR : ∀ p st' F' H' v, Stp env σ F H F' H' → Good K B F' H' env st' σ → R p st' F' H' → ResOk K F H F' H' fi.own p v → Q v H') :
    spOf K fi (vs ++ dvs) H Q (WE W σ) := by
  obtain ⟨ma, h1, h2, h3, h4⟩ := args_in g ha
  have hm : fi.ms.any isMut = ms.any isMut := by rw [hms, any_repl]
  refine ⟨F, ps ++ dps, if fi.ms.any isMut = true then st else .non, ma, g.le, fun z => h1 (by rw [← hm]; exact z), by rw [hm, hms]; exact h4.append hd, ?_⟩
  by_cases hc : fi.ms.any isMut = true
  · rw [if_pos hc]
    unfold callK at q
    rw [if_pos hc] at q
    obtain ⟨a, ea⟩ := h3 (by rw [← hm]; exact hc)
    cases hr : fi.sem (ps ++ dps) st with
    | ok p st' =>
      rw [hr] at q
      intro v F' H' b r
      obtain ⟨g', s'⟩ := g.back h2 b
      rw [if_pos (by rw [ea]; rfl)] at g'
      exact hR p st' F' H' v s' g' (q F' H' s' g') r
    | exc c ns qs st' =>
      rw [hr] at q
      intro F' H' d ws b e1 e2 e3
      obtain ⟨g', s'⟩ := g.back h2 b
      rw [if_pos (by rw [ea]; rfl)] at g'
      exact q F' H' d ws s'.le g' e1 e2 e3
    | stuck => rw [hr] at q; exact q.elim
  · rw [if_neg hc]
    unfold callK at q
    rw [if_neg hc] at q
    have ea : ma = none := h1 (by rw [← hm]; simpa using hc)
    cases hr : fi.sem (ps ++ dps) .non with
    | ok p st' =>
      rw [hr] at q
      intro v F' H' b r
      obtain ⟨g', s'⟩ := g.back h2 b
      rw [if_neg (by rw [ea]; exact fun z => nomatch z)] at g'
      exact hR p st F' H' v s' g' (q F' H' s' g') r
    | exc c ns qs st' =>
      rw [hr] at q
      intro F' H' d ws b e1 e2 e3
      obtain ⟨g', s'⟩ := g.back h2 b
      rw [if_neg (by rw [ea]; exact fun z => nomatch z)] at g'
      exact q F' H' d ws s'.le g' e1 e2 e3
    | stuck => rw [hr] at q; exact q.elim

/-- a def of the module, called with the written arguments and the defaults dps -/
structure FnB (P : Program) (w : World) (K : Frag) (mg : Str → Option Value) (base : Heap) (x : Str) (fi : FnI) (dps : List PV) (k : Nat) : Prop where
  ex : ∃ (f : Addr) (fd : FuncData) (ps : List Str) (ds : List Value) (dvs : List V), mg x = some (.ref f) ∧ PySem.W.keepIn K (.ref f) = true ∧ FnOk P w K mg base (L2.CX P w) k f fd ps (spOf K fi) ∧ Binds K fd ps ds ∧ Vals dvs ds ∧ ∀ F, RepL K F dps dvs
section
variable {X : Cx} {B : Bs} {W : WX} {x : Str} {fi : FnI} {dps : List PV} {k : Nat} {e : Expr} {es : List Expr} {fa : AF} {ms : List Md} {p pos : Pos}
theorem qe_call (hf : FnB X.prog X.w X.K X.mg X.base x fi dps k) (hr : Room k X.A) (tk : Takes X W) (ha : QA X B W ms (e :: es) fa) (hms : fi.ms = ms ++ List.replicate dps.length .val := by rfl) (ho : fi.own = false := by rfl) (hg : Gl X x := by rfl)
    (hdb : (x == ("__debug__" : Str)) = false := by decide) (he : starEach (e :: es) X.env = (false, eval e X.env) :: starEach es X.env := by rfl) (hpl : (backTo pos (starEach es X.env)).any (·.1) = false := by rfl) :
    QE X B W (.Call (.Name x p) (e :: es) [] pos) (callE fi dps fa) := by
  obtain ⟨f, fd, ps, ds, dvs, hm, hk, G, hb, hd, hdp⟩ := hf.ex
  refine ⟨pe_imp (pe_callSD G hr hg hm hk hb hd (fun σ => passAt tk σ) ha.pa hdb he hpl) fun σ H Q ⟨F, env, st, g, q⟩ => ⟨F, env, st, g, q.bind.mono fun qs st1 F1 H1 s1 g1 q1 vs hvs => ?_⟩⟩
  refine call_sp g1 hms hvs (hdp F1) q1 fun p st' F' H' v s' g' r hv => r v ?_
  unfold ResOk at hv
  rw [if_neg (by rw [ho]; exact Bool.false_ne_true)] at hv
  exact hv
theorem qo_call (hf : FnB X.prog X.w X.K X.mg X.base x fi dps k) (hr : Room k X.A) (tk : Takes X W) (ha : QA X B W ms (e :: es) fa) (hms : fi.ms = ms ++ List.replicate dps.length .val := by rfl) (ho : fi.own = true := by rfl) (hg : Gl X x := by rfl)
    (hdb : (x == ("__debug__" : Str)) = false := by decide) (he : starEach (e :: es) X.env = (false, eval e X.env) :: starEach es X.env := by rfl) (hpl : (backTo pos (starEach es X.env)).any (·.1) = false := by rfl) :
    QO X B W (.Call (.Name x p) (e :: es) [] pos) (callE fi dps fa) := by
  obtain ⟨f, fd, ps, ds, dvs, hm, hk, G, hb, hd, hdp⟩ := hf.ex
  refine ⟨pe_imp (pe_callSD G hr hg hm hk hb hd (fun σ => passAt tk σ) ha.pa hdb he hpl) fun σ H Q ⟨F, env, st, g, q⟩ => ⟨F, env, st, g, q.bind.mono fun qs st1 F1 H1 s1 g1 q1 vs hvs => ?_⟩⟩
  refine call_sp g1 hms hvs (hdp F1) q1 fun p st' F' H' v s' g' r hv => ?_
  unfold ResOk at hv
  rw [if_pos ho] at hv
  obtain ⟨a, rfl, h1, h2, h3⟩ := hv
  refine r a ?_ h1 h3
  cases z : H a with
  | none => rfl
  | some u => exact absurd h2 (s1.there a (by rw [z]; simp))
end
end KI

/-! part KI8 -/
set_option Elab.async false
set_option linter.all false
set_option maxRecDepth 100000
set_option maxHeartbeats 4000000
namespace KI
open PySem PySem.Spec PyProof.Rows L2

/-! ## objects written -/
section
variable {K : Frag} {B : Bs} {F H : Hp} {env : SEnv} {st st' : PV} {σ : Sg} {a : Addr} {o' : HO} {p p' : PV}
theorem own_upd {b : Addr} (hb : b ≠ a) (h : Own K F H b p) : Own K F (upd H a o') b p := h.mono (Same.refl F) fun o e => by rw [upd_ne hb]; exact e
theorem le_upd (g : Good K B F H env st σ) (hn : F a = none) : Same F (upd H a o') := fun b u e => by rw [upd_ne (ne_of_none e hn)]; exact g.le b u e
theorem there_upd (g : Good K B F H env st σ) : ∀ b, B.H0 b ≠ none → upd H a o' b ≠ none := fun b h => by
  by_cases e : b = a
  · subst e; rw [upd_same]; simp
  · rw [upd_ne e]; exact g.there b h
/-- an own slot's object -/
theorem Good.write (g : Good K B F H env st σ) (i : Nat) (h : env[i]? = some (.own p)) (hσ : σ[i]? = some (some (.ref a))) (ho : Own K F (upd H a o') a p') : Good K B F (upd H a o') (env.set i (.own p')) st σ := by
  obtain ⟨o, e1, b, e2, h2, h3, h4⟩ := g.slots i _ h
  subst e2
  rw [hσ] at e1; cases e1
  have g1 := g.kill i
  refine ⟨le_upd g h2, g.le0, fun b o e n => ?_, there_upd g, g.frs, by rw [List.length_set]; exact g.len, fun j s e => ?_, fun j k s t b ne h1 h2' o1 o2 e1 e2 => ?_, fun j k h1 h2' => ?_⟩
  · rw [upd_ne (fun z => by rw [z, h3] at e; cases e)]; exact g.kept b o e n
  · rcases set_get e with ⟨rfl, rfl, _⟩ | ⟨ne, e⟩
    · exact ⟨_, hσ, a, rfl, h2, h3, ho⟩
    · obtain ⟨o, e1, h5⟩ := g.slots j s e
      refine ⟨o, e1, ?_⟩
      cases s with
      | dead => trivial
      | sh q => exact h5
      | own q =>
        obtain ⟨b, rfl, h6, h7, h8⟩ := h5
        exact ⟨b, rfl, h6, h7, own_upd (fun z => by subst z; exact g.sep i j _ _ b ne h e rfl rfl hσ e1) h8⟩
      | mt =>
        obtain ⟨b, rfl, h6, h7, h8⟩ := h5
        exact ⟨b, rfl, h6, h7, own_upd (fun z => by subst z; exact g.sep i j _ _ b ne h e rfl rfl hσ e1) h8⟩
      | bor q => exact h5
      | exc c ns ps => exact h5
  · rcases set_get h1 with ⟨rfl, rfl, _⟩ | ⟨n1, h1'⟩
    · rcases set_get h2' with ⟨rfl, rfl, _⟩ | ⟨n2, h2''⟩
      · exact ne rfl
      · exact g.sep i k _ t b ne h h2'' rfl o2 e1 e2
    · rcases set_get h2' with ⟨rfl, rfl, _⟩ | ⟨n2, h2''⟩
      · exact g.sep j i s _ b ne h1' h o1 rfl e1 e2
      · exact g.sep j k s t b ne h1' h2'' o1 o2 e1 e2
  · rcases set_get h1 with ⟨_, z, _⟩ | ⟨n1, h1'⟩
    · cases z
    · rcases set_get h2' with ⟨_, z, _⟩ | ⟨n2, h2''⟩
      · cases z
      · exact g.mt1 j k h1' h2''
/-- the object that expressions change -/
theorem Good.writeM (g : Good K B F H env st σ) (i : Nat) (h : env[i]? = some .mt) (hσ : σ[i]? = some (some (.ref a))) (ho : Own K F (upd H a o') a st') : Good K B F (upd H a o') env st' σ := by
  obtain ⟨o, e1, b, e2, h2, h3, h4⟩ := g.slots i _ h
  subst e2
  rw [hσ] at e1; cases e1
  refine ⟨le_upd g h2, g.le0, fun b o e n => ?_, there_upd g, g.frs, g.len, fun j s e => ?_, g.sep, g.mt1⟩
  · rw [upd_ne (fun z => ?_)]; exact g.kept b o e n
    subst z
    rcases h3 with h3 | ⟨_, h3⟩
    · exact n h3
    · rw [e] at h3; cases h3
  · obtain ⟨o, e1, h5⟩ := g.slots j s e
    refine ⟨o, e1, ?_⟩
    by_cases ij : i = j
    · subst ij
      rw [h] at e; cases e
      rw [hσ] at e1; cases e1
      exact ⟨a, rfl, h2, h3, ho⟩
    · cases s with
      | dead => trivial
      | sh q => exact h5
      | own q =>
        obtain ⟨b, rfl, h6, h7, h8⟩ := h5
        exact ⟨b, rfl, h6, h7, own_upd (fun z => by subst z; exact g.sep i j _ _ b ij h e rfl rfl hσ e1) h8⟩
      | mt => exact absurd (g.mt1 i j h e) ij
      | bor q => exact h5
      | exc c ns ps => exact h5
/-- an own slot, its object -/
theorem Good.ownAt (g : Good K B F H env st σ) {i : Nat} (h : env[i]? = some (.own p)) : ∃ a, σ[i]? = some (some (.ref a)) ∧ F a = none ∧ Own K F H a p ∧ ¬ MtA env σ a := by
  obtain ⟨o, e1, a, rfl, h2, h3, h4⟩ := g.slots i _ h
  refine ⟨a, e1, h2, h4, fun ⟨j, h5, h6⟩ => g.sep i j _ _ a (fun z => by subst z; rw [h] at h5; cases h5) h h5 rfl rfl e1 h6⟩
theorem Good.mtAt (g : Good K B F H env st σ) {i : Nat} (h : env[i]? = some .mt) : ∃ a, σ[i]? = some (some (.ref a)) ∧ F a = none ∧ Own K F H a st := by
  obtain ⟨o, e1, a, rfl, h2, h3, h4⟩ := g.slots i _ h
  exact ⟨a, e1, h2, h4⟩
end

/-! ### x.append(e), x[i] = e, d[k] = e -/
def appS (i : Nat) (f : EF) : SF := fun env st => match env[i]? with
  | some (.own (.lst ps)) => liftS (f env st) env fun p st' => if ps.length < sizeLine then .nx (env.set i (.own (.lst (ps ++ [p])))) st' else .stuck
  | _ => .stuck
def setIx (i : Nat) (fe fi : EF) : SF := fun env st => match env[i]? with
  | some (.own (.lst ps)) => liftS (fe env st) env fun p st1 => liftS (fi env st1) env fun q st2 => match q with
    | .int k => (match ixN ps.length k with
      | some j => .nx (env.set i (.own (.lst (ps.set j p)))) st2
      | none => .stuck)
    | _ => .stuck
  | _ => .stuck
/-- of the object that expressions change, at a written place -/
def setIxM (i : Nat) (c : Int) (fe : EF) : SF := fun env st => liftS (fe env st) env fun p st1 => match env[i]? with
  | some .mt => (match st1 with
    | .lst ps => (match ixN ps.length c with
      | some j => .nx env (.lst (ps.set j p))
      | none => .stuck)
    | _ => .stuck)
  | _ => .stuck
def putD (ks : List Key) (ps : List PV) (k : Key) (p : PV) : PV := if hasK ks k = true then .dct ks (List.zipWith (fun k' q => if k' = k then p else q) ks ps) else .dct (ks ++ [k]) (ps ++ [p])
def setDct (i : Nat) (fe fi : EF) : SF := fun env st => match env[i]? with
  | some (.own (.dct ks ps)) => liftS (fe env st) env fun p st1 => liftS (fi env st1) env fun q st2 => match keyP q with
    | some k => if ks.length < sizeLine then .nx (env.set i (.own (putD ks ps k p))) st2 else .stuck
    | none => .stuck
  | _ => .stuck
theorem keyP_rep {K : Frag} {F : Hp} {q : PV} {v : V} {k : Key} (h : Rep K F q v) (e : keyP q = some k) : v = kV k := RH.key (H := F) (.inl h) e
theorem zip_putK {k : Key} {v : V} : ∀ {ks : List Key} {vs : List V}, ks.length = vs.length → (ks.zip vs).map (fun kv => if kv.1 = k then (kv.1, v) else kv) = ks.zip (List.zipWith (fun k' w => if k' = k then v else w) ks vs)
  | [], _, _ => rfl
  | k' :: ks, [], h => by cases h
  | k' :: ks, w :: vs, h => by
    rw [List.zip_cons_cons, List.map_cons, List.zipWith_cons_cons, List.zip_cons_cons, zip_putK (by simpa using h)]
    congr 1
    dsimp only
    split <;> rfl
theorem repL_put {K : Frag} {F : Hp} {k : Key} {p : PV} {v : V} (hp : Rep K F p v) : ∀ {ks : List Key} {ps : List PV} {vs : List V}, RepL K F ps vs → RepL K F (List.zipWith (fun k' q => if k' = k then p else q) ks ps) (List.zipWith (fun k' w => if k' = k then v else w) ks vs)
  | [], _, _, _ => rfl
  | k' :: ks, [], _, h => by cases (show _ = ([] : List V) from h); exact rfl
  | k' :: ks, q :: ps, _, ⟨w, r, e, h1, h2⟩ => by
    subst e
    rw [List.zipWith_cons_cons, List.zipWith_cons_cons]
    refine ⟨_, _, rfl, ?_, repL_put hp h2⟩
    by_cases e : k' = k
    · rw [if_pos e, if_pos e]; exact hp
    · rw [if_neg e, if_neg e]; exact h1
theorem own_put {K : Frag} {F H : Hp} {a : Addr} {ks : List Key} {ps : List PV} {vs : List V} {k : Key} {p : PV} {v : V} (hl : ks.length = vs.length) (hr : RepL K F ps vs) (hp : Rep K F p v) : Own K F (upd H a (.dK (putK (ks.zip vs) k v))) a (putD ks ps k p) := by
  have hv : (valV (ks.zip vs) k).isSome = hasK ks k := valV_mem hl
  unfold putD
  by_cases hc : hasK ks k = true
  · rw [if_pos hc]
    refine ⟨List.zipWith (fun k' w => if k' = k then v else w) ks vs, ?_, ?_, repL_put hp hr⟩
    · rw [upd_same]
      unfold putK
      rw [if_pos (by rw [valV_any, hv]; exact hc), zip_putK hl]
    · rw [List.length_zipWith, ← hl, Nat.min_self]
  · rw [if_neg hc]
    refine ⟨vs ++ [v], ?_, by rw [List.length_append, List.length_append, hl]; rfl, hr.append (.one hp)⟩
    rw [upd_same]
    unfold putK
    rw [if_neg (by rw [valV_any, hv]; exact hc), List.zip_append hl]; rfl
section
variable {X : Cx} {B : Bs} {W : WX} {x : Str} {e ie : Expr} {fe fi : EF} {p1 p2 pos pos' : Pos}
theorem qs_app (i : Nat) (he : QE X B W e fe) (hN : X.N[i]? = some x := by rfl) (hv : Vis X.env.scope x := by first | exact Or.inl rfl | exact Or.inr (Or.inl rfl) | exact Or.inr (Or.inr rfl)) (hd : (x == ("__debug__" : Str)) = false := by decide)
    (hcd : (x == ("__classdict__" : Str)) = false := by decide) (hs : starEach [e] X.env = (false, eval e X.env) :: starEach [] X.env := by rfl) (hb : attributeBase (.Name x p1) "append" X.env (eval (.Name x p1) X.env) = eval (.Name x p1) X.env := by rfl)
    (hfew : ((backTo pos' (starEach [e] X.env)).all (fun x => !x.1) && (backToKw pos' (keywordEach [] X.env)).all (fun x => x.1.isSome) && decide ([e].length + ([] : List Keyword).length + (if ([] : List Keyword).isEmpty then 0 else 1) < 30)) = true := by rfl)
    (hline : (p2.endLine == pos'.line) = true := by rfl)
    (hsw : swapsWith (.Call (.Attribute (.Name x p1) "append" p2) [e] [] pos') none pos.line X.env = pure false := by rfl) :
    QS X B W (.Expr (.Call (.Attribute (.Name x p1) "append" p2) [e] [] pos') pos) (appS i fe) := by
  have pe := pe_bm PySem.F.plainAttrs_list PySem.F.slot_list_append PySem.F.type_list_append mt_append (pe_var (X := X) (pos := p1) hN hv hd hcd) (pa_cons he.pe pa_nil hs) (cpos := pos') hb hfew hline hs (by rfl)
  refine ⟨ps_imp (ps_expr pe hsw) fun D σ H ⟨F, env, st, g, q⟩ => ?_⟩
  unfold appS at q
  cases h : env[i]? with
  | none => rw [h] at q; exact q.elim
  | some s =>
    rw [h] at q
    cases s with
    | own p =>
      cases p with
      | lst ps =>
        obtain ⟨a, e1, h2, ⟨vs, h3, h4⟩, h5⟩ := g.ownAt h
        refine ⟨.ref a, e1, .inl ⟨rfl, _, .inl (.inl h3)⟩, F, env, st, g, (SPost.lift (H := H) (σ := σ) q).mono fun p st1 F1 H1 s1 g1 r v hv => ?_⟩
        by_cases hl : ps.length < sizeLine
        · rw [if_pos hl] at r
          have h6 := s1.keep a _ h3 h5
          refine ⟨a, vs, v, rfl, rfl, h6, by rw [← h4.length]; exact hl, r σ F1 _ (Same.refl F1) (g1.write i h e1 ⟨_, upd_same, (RepL.mono s1.le _ _ h4).append (.one hv)⟩)⟩
        · rw [if_neg hl] at r; exact r.elim
      | _ => exact q.elim
    | _ => exact q.elim
theorem qs_setIx (i : Nat) (he : QE X B W e fe) (hi : QE X B W ie fi) (hN : X.N[i]? = some x := by rfl) (hv : Vis X.env.scope x := by first | exact Or.inl rfl | exact Or.inr (Or.inl rfl) | exact Or.inr (Or.inr rfl)) (hd : (x == ("__debug__" : Str)) = false := by decide)
    (hcd : (x == ("__classdict__" : Str)) = false := by decide)
    (ha : ∀ v, assign (.Subscript (.Name x p1) ie p2) X.env v = (do
      let ov ← holding [v] (eval (.Name x p1) X.env)
      let iv ← holding [v, ov] (eval ie X.env)
      standAt p2
      holding [v, ov, iv] (setItem ov iv v)
      release [v, ov, iv] []) := by intro _; rfl)
    (hs : swapsWithSole [.Subscript (.Name x p1) ie p2] e pos.line X.env = pure false := by rfl) (hw : swappedStores [.Subscript (.Name x p1) ie p2] e X.env = pure none := by rfl) :
    QS X B W (.Assign [.Subscript (.Name x p1) ie p2] e pos) (setIx i fe fi) := by
  refine ⟨ps_imp (ps_asg he.pe (pg_sub (pe_var hN hv hd hcd) hi.pe set_list ha) hs hw) fun D σ H ⟨F, env, st, g, q⟩ => ?_⟩
  unfold setIx at q
  cases h : env[i]? with
  | none => rw [h] at q; exact q.elim
  | some s =>
    rw [h] at q
    cases s with
    | own p =>
      cases p with
      | lst ps =>
        obtain ⟨a, e1, h2, ⟨vs, h3, h4⟩, h5⟩ := g.ownAt h
        refine ⟨F, env, st, g, (SPost.lift (H := H) (σ := σ) q).mono fun p st1 F1 H1 s1 g1 r v hv => ⟨.ref a, e1, F1, env, st1, g1, (SPost.lift (H := H1) (σ := σ) r).mono fun q2 st2 F2 H2 s2 g2 r2 w hw => ?_⟩⟩
        cases q2 with
        | int k =>
          have h6 := s2.keep a _ (s1.keep a _ h3 h5) h5
          cases hj : ixN ps.length k with
          | none => simp only [hj] at r2; exact r2.elim
          | some j =>
            simp only [hj] at r2
            exact ⟨a, vs, k, j, rfl, hw, h6, by rw [← h4.length]; exact hj, r2 _ F2 _ (Same.refl F2) (g2.write i h e1 ⟨_, upd_same, (RepL.mono (s1.le.trans s2.le) _ _ h4).set j (Rep.mono s2.le _ _ hv)⟩)⟩
        | _ => exact r2.elim
      | _ => exact q.elim
    | _ => exact q.elim
theorem qs_setDct {n : Nat} (i : Nat) (hr : Room n X.A) (he : QE X B W e fe) (hi : QE X B W ie fi) (hN : X.N[i]? = some x := by rfl) (hv : Vis X.env.scope x := by first | exact Or.inl rfl | exact Or.inr (Or.inl rfl) | exact Or.inr (Or.inr rfl)) (hd : (x == ("__debug__" : Str)) = false := by decide)
    (hcd : (x == ("__classdict__" : Str)) = false := by decide) (hs : swapsWith e (some (.Subscript (.Name x p1) ie p2)) pos.line X.env = pure false := by rfl) :
    QS X B W (.Assign [.Subscript (.Name x p1) ie p2] e pos) (setDct i fe fi) := by
  refine ⟨ps_imp (ps_dput (hu_of hr) (pe_var hN hv hd hcd) hi.pe he.pe hs) fun D σ H ⟨F, env, st, g, q⟩ => ?_⟩
  unfold setDct at q
  cases h : env[i]? with
  | none => rw [h] at q; exact q.elim
  | some s =>
    rw [h] at q
    cases s with
    | own p =>
      cases p with
      | dct ks ps =>
        obtain ⟨a, e1, h2, ⟨vs, h3, h4, h4'⟩, h5⟩ := g.ownAt h
        refine ⟨F, env, st, g, (SPost.lift (H := H) (σ := σ) q).mono fun p st1 F1 H1 s1 g1 r v hv => ⟨.ref a, e1, F1, env, st1, g1, (SPost.lift (H := H1) (σ := σ) r).mono fun q2 st2 F2 H2 s2 g2 r2 w hw => ?_⟩⟩
        cases hk : keyP q2 with
        | none => rw [hk] at r2; exact r2.elim
        | some k =>
          rw [hk] at r2
          have ew := keyP_rep hw hk
          subst ew
          have h6 := s2.keep a _ (s1.keep a _ h3 h5) h5
          by_cases hl : ks.length < sizeLine
          · simp only [if_pos hl] at r2
            exact ⟨a, _, rfl, DPut.k (k := k) h6 (by rw [List.length_zip, ← h4, Nat.min_self]; exact hl), r2 _ F2 _ (Same.refl F2) (g2.write i h e1 (own_put h4 (RepL.mono (s1.le.trans s2.le) _ _ h4') (Rep.mono s2.le _ _ hv)))⟩
          · simp only [if_neg hl] at r2; exact r2.elim
      | _ => exact q.elim
    | _ => exact q.elim
theorem qs_setIxM (i : Nat) (c : Int) {jj : Nat} {p3 : Pos} (he : QE X B W e fe) (hN : X.N[i]? = some x := by rfl) (hv : Vis X.env.scope x := by first | exact Or.inl rfl | exact Or.inr (Or.inl rfl) | exact Or.inr (Or.inr rfl)) (hd : (x == ("__debug__" : Str)) = false := by decide)
    (hcd : (x == ("__classdict__" : Str)) = false := by decide)
    (ha : ∀ v, assign (.Subscript (.Name x p1) (.Constant (.int c) jj p3) p2) X.env v = (do
      let ov ← holding [v] (eval (.Name x p1) X.env)
      let iv ← holding [v, ov] (eval (.Constant (.int c) jj p3) X.env)
      standAt p2
      holding [v, ov, iv] (setItem ov iv v)
      release [v, ov, iv] []) := by intro _; rfl)
    (hs : swapsWithSole [.Subscript (.Name x p1) (.Constant (.int c) jj p3) p2] e pos.line X.env = pure false := by rfl) (hw : swappedStores [.Subscript (.Name x p1) (.Constant (.int c) jj p3) p2] e X.env = pure none := by rfl) :
    QS X B W (.Assign [.Subscript (.Name x p1) (.Constant (.int c) jj p3) p2] e pos) (setIxM i c fe) := by
  refine ⟨ps_imp (ps_asg he.pe (pg_sub (pe_var hN hv hd hcd) pe_int set_list ha) hs hw) fun D σ H ⟨F, env, st, g, q⟩ => ⟨F, env, st, g, (SPost.lift (H := H) (σ := σ) q).mono fun p st1 F1 H1 s1 g1 r v hv => ?_⟩⟩
  cases h : env[i]? with
  | none => rw [h] at r; exact r.elim
  | some s =>
    rw [h] at r
    cases s with
    | mt =>
      cases st1 with
      | lst ps =>
        obtain ⟨a, e1, h2, vs, h3, h4⟩ := g1.mtAt h
        cases hj : ixN ps.length c with
        | none => simp only [hj] at r; exact r.elim
        | some j =>
          simp only [hj] at r
          exact ⟨.ref a, e1, a, vs, c, j, rfl, rfl, h3, by rw [← h4.length]; exact hj, r σ F1 _ (Same.refl F1) (g1.writeM i h e1 ⟨_, upd_same, h4.set j hv⟩)⟩
      | _ => exact r.elim
    | _ => exact r.elim
/-! ### reading the object that expressions change -/
def ixM (i : Nat) (c : Int) : EF := fun env st => match env[i]? with
  | some .mt => (match st with
    | .lst ps => (match L2.atI ps c with
      | some p => .ok p st
      | none => .stuck)
    | _ => .stuck)
  | _ => .stuck
theorem qe_ixM (i : Nat) (c : Int) {jj : Nat} {p3 : Pos} (hN : X.N[i]? = some x := by rfl) (hv : Vis X.env.scope x := by first | exact Or.inl rfl | exact Or.inr (Or.inl rfl) | exact Or.inr (Or.inr rfl)) (hd : (x == ("__debug__" : Str)) = false := by decide)
    (hcd : (x == ("__classdict__" : Str)) = false := by decide) (hs : PlainIx (.Constant (.int c) jj p3) := by exact fun _ _ => rfl) : QE X B W (.Subscript (.Name x p1) (.Constant (.int c) jj p3) pos) (ixM i c) :=
  ⟨pe_imp (pe_ix ix_list (pe_var hN hv hd hcd) pe_int hs) fun σ H Q ⟨F, env, st, g, q⟩ => by
    unfold ixM at q
    cases h : env[i]? with
    | none => rw [h] at q; exact q.elim
    | some s =>
      rw [h] at q
      cases s with
      | mt =>
        cases st with
        | lst ps =>
          obtain ⟨a, e1, h2, vs, h3, h4⟩ := g.mtAt h
          cases hj : L2.atI ps c with
          | none => simp only [hj] at q; exact q.elim
          | some p =>
            simp only [hj] at q
            obtain ⟨v, h5, h6⟩ := h4.atI hj
            exact ⟨.ref a, e1, a, vs, c, v, rfl, rfl, SqL.of h3, h5, q F H Stp.refl g v h6⟩
        | _ => exact q.elim
      | _ => exact q.elim⟩
/-! ### attributes -/
theorem lookup_rep {K : Frag} {F : Hp} {f : Str} {p : PV} : ∀ {ns : List Str} {ps : List PV} {vs : List V}, RepL K F ps vs → (ns.zip ps).lookup f = some p → ∃ v, (ns.zip vs).lookup f = some v ∧ Rep K F p v
  | [], _, _, _, h => by simp at h
  | n :: ns, [], _, _, h => by simp at h
  | n :: ns, q :: ps, _, ⟨v, r, e, h1, h2⟩, h => by
    subst e
    rw [List.zip_cons_cons, List.lookup_cons] at h ⊢
    cases hb : f == n with
    | true => rw [hb] at h; cases h; exact ⟨v, rfl, h1⟩
    | false => rw [hb] at h; exact lookup_rep h2 h
/-- an attribute of an instance of one of the classes cs -/
def fldP (cs : List Str) (f : Str) : PV → Option PV
  | .ins c ns ps => if c ∈ cs then (ns.zip ps).lookup f else none
  | _ => none
def fldE (cs : List Str) (f : Str) (fa : EF) : EF := fun env st => (fa env st).bind fun p st1 => match fldP cs f p with
  | some q => .ok q st1
  | none => .stuck
def FldOk (K : Frag) (cs : List Str) (f : Str) : Prop := ∀ c ∈ cs, Cls K (He.ga K c) ∧ NoAttr K (He.ga K c) f
theorem fld_rd {K : Frag} {F H : Hp} {cs : List Str} {f : Str} {p q : PV} {x : V} {Q : VK} (hc : FldOk K cs f) (le : Same F H) (r : RH K F H p x) (h : fldP cs f p = some q) (k : ∀ v, Rep K F q v → Q v H) :
    ∃ a C dx fs v, x = .ref a ∧ H a = some (.ins C dx fs) ∧ Cls K C ∧ NoAttr K C f ∧ fs.lookup f = some v ∧ Q v H := by
  cases p with
  | ins c ns ps =>
    obtain ⟨a, dx, vs, rfl, h1, h2, h3⟩ := r.ins le
    have h' : (if c ∈ cs then (ns.zip ps).lookup f else none) = some q := h
    by_cases hm : c ∈ cs
    · rw [if_pos hm] at h'
      obtain ⟨v, h4, h5⟩ := lookup_rep h3 h'
      exact ⟨a, _, dx, _, v, rfl, h1, (hc c hm).1, (hc c hm).2, h4, k v h5⟩
    · rw [if_neg hm] at h'; cases h'
  | _ => cases h
theorem qe_fld {f : Str} {cs : List Str} (hc : FldOk X.K cs f) (he : QR X B W e fe) (hb : attributeBase e f X.env (eval e X.env) = eval e X.env := by rfl) : QE X B W (.Attribute e f pos) (fldE cs f fe) :=
  ⟨pe_imp (pe_fld he.pe hb) fun σ H Q ⟨F, env, st, g, q⟩ => ⟨F, env, st, g, q.bind.mono fun p st1 F1 H1 s1 g1 q1 x rx => by
    cases hz : fldP cs f p with
    | none => rw [hz] at q1; exact q1.elim
    | some z => rw [hz] at q1; exact fld_rd hc g1.le rx.rh hz fun v hv => q1 F1 H1 Stp.refl g1 v hv⟩⟩
def fldM (cs : List Str) (f : Str) (i : Nat) : EF := fun env st => match env[i]? with
  | some .mt => (match fldP cs f st with
    | some q => .ok q st
    | none => .stuck)
  | _ => .stuck
theorem qe_fldM {f : Str} {cs : List Str} (i : Nat) (hc : FldOk X.K cs f) (hN : X.N[i]? = some x := by rfl) (hv : Vis X.env.scope x := by first | exact Or.inl rfl | exact Or.inr (Or.inl rfl) | exact Or.inr (Or.inr rfl)) (hd : (x == ("__debug__" : Str)) = false := by decide)
    (hcd : (x == ("__classdict__" : Str)) = false := by decide) (hb : attributeBase (.Name x p1) f X.env (eval (.Name x p1) X.env) = eval (.Name x p1) X.env := by rfl) : QE X B W (.Attribute (.Name x p1) f pos) (fldM cs f i) :=
  ⟨pe_imp (pe_fld (pe_var hN hv hd hcd) hb) fun σ H Q ⟨F, env, st, g, q⟩ => by
    unfold fldM at q
    cases h : env[i]? with
    | none => rw [h] at q; exact q.elim
    | some s =>
      rw [h] at q
      cases s with
      | mt =>
        obtain ⟨a, e1, h2, h3⟩ := g.mtAt h
        refine ⟨.ref a, e1, ?_⟩
        cases hz : fldP cs f st with
        | none => simp only [hz] at q; exact q.elim
        | some z => simp only [hz] at q; exact fld_rd hc g.le (.inr ⟨a, rfl, h3⟩) hz fun v hv => q F H Stp.refl g v hv
      | _ => exact q.elim⟩
/-! ### o.f = e -/
def putN (f : Str) : List Str → List Str
  | [] => [f]
  | g :: r => if g = f then g :: r else g :: putN f r
def putV {α : Type} (f : Str) (p : α) : List Str → List α → List α
  | [], _ => [p]
  | g :: ns, q :: ps => if g = f then p :: ps else q :: putV f p ns ps
  | _ :: _, [] => []
theorem putF_zip {f : Str} {v : V} : ∀ {ns : List Str} {vs : List V}, ns.length = vs.length → putF f v (ns.zip vs) = (putN f ns).zip (putV f v ns vs) ∧ (putN f ns).length = (putV f v ns vs).length
  | [], [], _ => ⟨rfl, rfl⟩
  | [], _ :: _, h => by cases h
  | _ :: _, [], h => by cases h
  | g :: ns, w :: vs, h => by
    rw [List.zip_cons_cons]
    unfold putF putN putV
    by_cases e : g = f
    · rw [if_pos e, if_pos e, if_pos e]
      exact ⟨rfl, by simpa using h⟩
    · rw [if_neg e, if_neg e, if_neg e]
      obtain ⟨h1, h2⟩ := putF_zip (f := f) (v := v) (ns := ns) (vs := vs) (by simpa using h)
      exact ⟨by rw [h1]; rfl, by simpa using h2⟩
theorem repL_putV {K : Frag} {F : Hp} {f : Str} {p : PV} {v : V} (hp : Rep K F p v) : ∀ {ns : List Str} {ps : List PV} {vs : List V}, RepL K F ps vs → RepL K F (putV f p ns ps) (putV f v ns vs)
  | [], _, _, _ => .one hp
  | _ :: _, [], _, h => by cases (show _ = ([] : List V) from h); exact rfl
  | g :: ns, q :: ps, _, ⟨w, r, e, h1, h2⟩ => by
    subst e
    unfold putV
    by_cases e : g = f
    · rw [if_pos e, if_pos e]; exact ⟨v, r, rfl, hp, h2⟩
    · rw [if_neg e, if_neg e]; exact ⟨w, _, rfl, h1, repL_putV hp h2⟩
theorem own_putF {K : Frag} {F H : Hp} {a dx : Addr} {c f : Str} {ns : List Str} {ps : List PV} {vs : List V} {p : PV} {v : V} (hl : ns.length = vs.length) (hr : RepL K F ps vs) (hp : Rep K F p v) :
    Own K F (upd H a (.ins (He.ga K c) dx (putF f v (ns.zip vs)))) a (.ins c (putN f ns) (putV f p ns ps)) := by
  obtain ⟨h1, h2⟩ := putF_zip (f := f) (v := v) hl
  exact ⟨dx, putV f v ns vs, by rw [upd_same, h1], h2, repL_putV hp hr⟩
def setFld (i : Nat) (cs : List Str) (f : Str) (fe : EF) : SF := fun env st => match env[i]? with
  | some (.own (.ins c ns ps)) => liftS (fe env st) env fun p st1 => if c ∈ cs ∧ ns.length < 1000 then .nx (env.set i (.own (.ins c (putN f ns) (putV f p ns ps)))) st1 else .stuck
  | _ => .stuck
def setFldM (i : Nat) (cs : List Str) (f : Str) (fe : EF) : SF := fun env st => liftS (fe env st) env fun p st1 => match env[i]? with
  | some .mt => (match st1 with
    | .ins c ns ps => if c ∈ cs ∧ ns.length < 1000 then .nx env (.ins c (putN f ns) (putV f p ns ps)) else .stuck
    | _ => .stuck)
  | _ => .stuck
theorem qs_fld {f : Str} {cs : List Str} (i : Nat) (hc : FldOk X.K cs f) (he : QE X B W e fe) (hN : X.N[i]? = some x := by rfl) (hv : Vis X.env.scope x := by first | exact Or.inl rfl | exact Or.inr (Or.inl rfl) | exact Or.inr (Or.inr rfl)) (hd : (x == ("__debug__" : Str)) = false := by decide)
    (hcd : (x == ("__classdict__" : Str)) = false := by decide) (hs : swapsWith e (some (.Attribute (.Name x p1) f pos')) pos.line X.env = pure false := by rfl) : QS X B W (.Assign [.Attribute (.Name x p1) f pos'] e pos) (setFld i cs f fe) := by
  refine ⟨ps_imp (ps_fld (pe_var hN hv hd hcd) he.pe hs) fun D σ H ⟨F, env, st, g, q⟩ => ?_⟩
  unfold setFld at q
  cases h : env[i]? with
  | none => rw [h] at q; exact q.elim
  | some s =>
    rw [h] at q
    cases s with
    | own p =>
      cases p with
      | ins c ns ps =>
        obtain ⟨a, e1, h2, ⟨dx, vs, h3, h4, h4'⟩, h5⟩ := g.ownAt h
        refine ⟨F, env, st, g, (SPost.lift (H := H) (σ := σ) q).mono fun p st1 F1 H1 s1 g1 r v hv => ⟨.ref a, e1, ?_⟩⟩
        by_cases hl : c ∈ cs ∧ ns.length < 1000
        · rw [if_pos hl] at r
          have h6 := s1.keep a _ h3 h5
          exact ⟨a, _, dx, _, rfl, h6, (hc c hl.1).1, (hc c hl.1).2, by rw [List.length_zip, ← h4, Nat.min_self]; exact hl.2, r σ F1 _ (Same.refl F1) (g1.write i h e1 (own_putF h4 (RepL.mono s1.le _ _ h4') hv))⟩
        · rw [if_neg hl] at r; exact r.elim
      | _ => exact q.elim
    | _ => exact q.elim
theorem qs_fldM {f : Str} {cs : List Str} (i : Nat) (hc : FldOk X.K cs f) (he : QE X B W e fe) (hN : X.N[i]? = some x := by rfl) (hv : Vis X.env.scope x := by first | exact Or.inl rfl | exact Or.inr (Or.inl rfl) | exact Or.inr (Or.inr rfl)) (hd : (x == ("__debug__" : Str)) = false := by decide)
    (hcd : (x == ("__classdict__" : Str)) = false := by decide) (hs : swapsWith e (some (.Attribute (.Name x p1) f pos')) pos.line X.env = pure false := by rfl) : QS X B W (.Assign [.Attribute (.Name x p1) f pos'] e pos) (setFldM i cs f fe) := by
  refine ⟨ps_imp (ps_fld (pe_var hN hv hd hcd) he.pe hs) fun D σ H ⟨F, env, st, g, q⟩ => ⟨F, env, st, g, (SPost.lift (H := H) (σ := σ) q).mono fun p st1 F1 H1 s1 g1 r v hv => ?_⟩⟩
  cases h : env[i]? with
  | none => rw [h] at r; exact r.elim
  | some s =>
    rw [h] at r
    cases s with
    | mt =>
      cases st1 with
      | ins c ns ps =>
        obtain ⟨a, e1, h2, dx, vs, h3, h4, h4'⟩ := g1.mtAt h
        refine ⟨.ref a, e1, ?_⟩
        by_cases hl : c ∈ cs ∧ ns.length < 1000
        · simp only [if_pos hl] at r
          exact ⟨a, _, dx, _, rfl, h3, (hc c hl.1).1, (hc c hl.1).2, by rw [List.length_zip, ← h4, Nat.min_self]; exact hl.2, r σ F1 _ (Same.refl F1) (g1.writeM i h e1 (own_putF h4 h4' hv))⟩
        · simp only [if_neg hl] at r; exact r.elim
      | _ => exact r.elim
    | _ => exact r.elim
end
end KI

/-! part KI9 -/
set_option Elab.async false
set_option linter.all false
set_option maxRecDepth 100000
set_option maxHeartbeats 4000000
namespace KI
open PySem PySem.Spec PyProof.Rows L2

/-! ## methods, instances made -/
/-- a method of one of the classes cs (the same def) -/
structure FnM (P : Program) (w : World) (K : Frag) (mg : Str → Option Value) (base : Heap) (cs : List Str) (m : Str) (fi : FnI) (dps : List PV) (k : Nat) : Prop where
  ex : ∃ (f : Addr) (fd : FuncData) (ps : List Str) (ds : List Value) (dvs : List V), (∀ c ∈ cs, Cls K (He.ga K c) ∧ Meth K (He.ga K c) m f) ∧ FnOk P w K mg base (L2.CX P w) k f fd ps (spOf K fi) ∧ Binds K fd ps ds ∧ Vals dvs ds ∧ ∀ F, RepL K F dps dvs
/-- a class that is made -/
structure FnK (P : Program) (w : World) (K : Frag) (mg : Str → Option Value) (base : Heap) (x : Str) (fi : FnI) (dps : List PV) (k : Nat) : Prop where
  ex : ∃ (f : Addr) (fd : FuncData) (ps : List Str) (ds : List Value) (dvs : List V), mg x = some (.ref (He.ga K x)) ∧ Mk K (He.ga K x) f ∧ FnOk P w K mg base (L2.CX P w) k f fd ps (spOf K fi) ∧ Binds K fd ps ds ∧ Vals dvs ds ∧ ∀ F, RepL K F dps dvs
def methE (cs : List Str) (m : Str) (fi : FnI) (dps : List PV) (fo : EF) (fa : AF) : EF := fun env st => (fo env st).bind fun p st1 => match p with
  | .ins c ns ps => if c ∈ cs ∧ m ∉ ns then (fa env st1).bind fun qs st2 => callK fi (.ins c ns ps :: (qs ++ dps)) st2 else .stuck
  | _ => .stuck
theorem lookup_none {α : Type} {f : Str} : ∀ {ns : List Str} {vs : List α}, f ∉ ns → (ns.zip vs).lookup f = none
  | [], _, _ => rfl
  | n :: ns, [], _ => rfl
  | n :: ns, v :: vs, h => by
    rw [List.zip_cons_cons, List.lookup_cons]
    have : (f == n) = false := by simpa using (fun e => h (by rw [e]; exact List.mem_cons_self))
    rw [this]
    exact lookup_none fun z => h (List.mem_cons_of_mem _ z)
section
variable {X : Cx} {B : Bs} {W : WX} {x m : Str} {fi : FnI} {dps : List PV} {k : Nat} {o e : Expr} {es : List Expr} {fo : EF} {fa : AF} {ms : List Md} {cs : List Str} {p apos pos : Pos}
theorem qe_meth {pl : Sem Bool} (hf : FnM X.prog X.w X.K X.mg X.base cs m fi dps k) (hr : Room k X.A) (tk : Takes X W) (h0 : QR X B W o fo) (ha : QA X B W ms (e :: es) fa) (hms : fi.ms = .bor :: (ms ++ List.replicate dps.length .val) := by rfl) (hown : fi.own = false := by rfl)
    (hst : starEach (e :: es) X.env = (false, eval e X.env) :: starEach es X.env := by rfl) (hpl : (backTo pos (starEach es X.env)).any (·.1) = false := by rfl)
    (ht : eval (.Call (.Attribute o m apos) (e :: es) [] pos) X.env = (do
      let ov ← eval o X.env
      standAt apos.atName
      let (f, first) ← holding [ov] (getMethod ov m pl)
      callWith pos f first (backTo pos (starEach (e :: es) X.env)) (backToKw pos (keywordEach [] X.env))) := by rfl) : QE X B W (.Call (.Attribute o m apos) (e :: es) [] pos) (methE cs m fi dps fo fa) := by
  obtain ⟨f, fd, ps, ds, dvs, hc, G, hb, hd, hdp⟩ := hf.ex
  refine ⟨⟨fun pins s σ H Q I ⟨F, env, st, g, q⟩ => ?_⟩⟩
  refine PySem.W.methodCall_KW (pl := pl) (thn (h0.pe.run pins s σ H _ I ⟨F, env, st, g, q.bind.mono (R' := fun p _ F' H' => ∀ v, RT X.K F' H' env σ p v → ∃ (a : Addr) (c : Str) (dx : Addr) (fs : List (Str × V)), v = .ref a ∧ c ∈ cs ∧ H' a = some (.ins (He.ga X.K c) dx fs) ∧ fs.lookup m = none ∧ tA X.K B W ms fa σ H' fun vs H2 => spOf X.K fi (.ref a :: (vs ++ dvs)) H2 Q (WE W σ)) fun p st1 F1 H1 s1 g1 q1 v rv => ?_⟩) fun u s1 ⟨y, H1, I1, rx, a, c, dx, fs, ex, hm, ea, l, q2⟩ => ?_) ht
  · cases p with
    | ins c ns qs =>
      have q1' : EPost X.K B W env σ F1 H1 (fun p _ F' H' => ∀ v, Rep X.K F' p v → Q v H') (if c ∈ cs ∧ m ∉ ns then (fa env st1).bind fun ps2 st2 => callK fi (.ins c ns qs :: (ps2 ++ dps)) st2 else .stuck) := q1
      by_cases hl : c ∈ cs ∧ m ∉ ns
      · rw [if_pos hl] at q1'
        obtain ⟨a, dx, vs, rfl, h1, h2, h3⟩ := rv.rh.ins g1.le
        refine ⟨a, c, dx, _, rfl, hl.1, h1, lookup_none hl.2, F1, env, st1, g1, q1'.bind.mono fun ps2 st2 F2 H2 s2 g2 q2 ws hw => ?_⟩
        refine call_sp (ms := .bor :: ms) (ps := .ins c ns qs :: ps2) (vs := .ref a :: ws) g2 hms ⟨_, _, _, _, rfl, rfl, rv.step s2, hw⟩ (hdp F2) q2 fun p st' F' H' v s' g' r hv => r v ?_
        unfold ResOk at hv
        rw [if_neg (by rw [hown]; exact Bool.false_ne_true)] at hv
        exact hv
      · rw [if_neg hl] at q1'; exact q1'.elim
    | _ => exact q1.elim
  · subst ex
    obtain rfl : u = Value.ref a := rx
    obtain ⟨c1, c2⟩ := hc c hm
    refine getmeth_ok I1 ea c1 c2 l ?_
    refine PySem.W.callWith_K (first := [.ref a]) (h₀ := X.base) I.ok.mod.kin c2.kp (thn (ha.pa.run pos pins s1 σ H1 _ I1 q2) fun us s2 ⟨vs, H2, I2, r, q3⟩ => ⟨I2.kIn, ?_⟩) hst hpl
    exact run_fnSD (E := WE W) (us := .ref a :: us) (vs := .ref a :: vs) G hr hb hd (passAt tk σ) I2 (.cons rfl r) q3
theorem qe_meth0 {pl : Sem Bool} (hf : FnM X.prog X.w X.K X.mg X.base cs m fi dps k) (hr : Room k X.A) (tk : Takes X W) (h0 : QR X B W o fo) (hms : fi.ms = .bor :: ([] ++ List.replicate dps.length .val) := by rfl) (hown : fi.own = false := by rfl)
    (ht : eval (.Call (.Attribute o m apos) [] [] pos) X.env = (do
      let ov ← eval o X.env
      standAt apos.atName
      let (f, first) ← holding [ov] (getMethod ov m pl)
      callWith pos f first (backTo pos (starEach [] X.env)) (backToKw pos (keywordEach [] X.env))) := by rfl) : QE X B W (.Call (.Attribute o m apos) [] [] pos) (methE cs m fi dps fo nilA) := by
  obtain ⟨f, fd, ps, ds, dvs, hc, G, hb, hd, hdp⟩ := hf.ex
  refine ⟨⟨fun pins s σ H Q I ⟨F, env, st, g, q⟩ => ?_⟩⟩
  refine PySem.W.methodCall_KW (pl := pl) (thn (h0.pe.run pins s σ H _ I ⟨F, env, st, g, q.bind.mono (R' := fun p _ F' H' => ∀ v, RT X.K F' H' env σ p v → ∃ (a : Addr) (c : Str) (dx : Addr) (fs : List (Str × V)), v = .ref a ∧ c ∈ cs ∧ H' a = some (.ins (He.ga X.K c) dx fs) ∧ fs.lookup m = none ∧ spOf X.K fi (.ref a :: dvs) H' Q (WE W σ)) fun p st1 F1 H1 s1 g1 q1 v rv => ?_⟩) fun u s1 ⟨y, H1, I1, rx, a, c, dx, fs, ex, hm, ea, l, q2⟩ => ?_) ht
  · cases p with
    | ins c ns qs =>
      have q1' : EPost X.K B W env σ F1 H1 (fun p _ F' H' => ∀ v, Rep X.K F' p v → Q v H') (if c ∈ cs ∧ m ∉ ns then callK fi (.ins c ns qs :: ([] ++ dps)) st1 else .stuck) := q1
      by_cases hl : c ∈ cs ∧ m ∉ ns
      · rw [if_pos hl] at q1'
        obtain ⟨a, dx, vs, rfl, h1, h2, h3⟩ := rv.rh.ins g1.le
        refine ⟨a, c, dx, _, rfl, hl.1, h1, lookup_none hl.2, ?_⟩
        refine call_sp (ms := [.bor]) (ps := [.ins c ns qs]) (vs := [.ref a]) g1 hms ⟨_, _, _, _, rfl, rfl, rv, rfl, rfl⟩ (hdp F1) q1' fun p st' F' H' v s' g' r hv => r v ?_
        unfold ResOk at hv
        rw [if_neg (by rw [hown]; exact Bool.false_ne_true)] at hv
        exact hv
      · rw [if_neg hl] at q1'; exact q1'.elim
    | _ => exact q1.elim
  · subst ex
    obtain rfl : u = Value.ref a := rx
    obtain ⟨c1, c2⟩ := hc c hm
    refine getmeth_ok I1 ea c1 c2 l ?_
    exact PySem.W.callWith_K0 (first := [.ref a]) I1.kIn c2.kp (run_fnSD (E := WE W) (us := [.ref a]) (vs := [.ref a]) G hr hb hd (passAt tk σ) I1 (.cons rfl .nil) q2)

/-! ### C(..) -/
theorem run_makeS {C f : Addr} {fd : FuncData} {ps : List Str} {sp : Sp} {ds : List Value} {dvs : List V} {E : XK} {pins : List (Addr × Obj)} {σ : Sg} {H : Hp} {s : Shared} {Q : VK} {us : List Value} {vs : List V} (M : Mk X.K C f) (F : FnOk X.prog X.w X.K X.mg X.base (L2.CX X.prog X.w) k f fd ps sp) (hr : Room (k + 1) X.A) (hb : Binds X.K fd ps ds) (hd : Vals dvs ds)
    (hx : PassesAt (L2.CX X.prog X.w) X σ E) (I : Inv X pins σ H s) (r : Vals vs us)
    (h : ∀ x dx, H x = none → H dx = none → dx ≠ x → sp (.ref x :: (vs ++ dvs)) (upd (upd H dx (.own x)) x (.ins C dx [])) (fun v H2 => v = .non ∧ Q (.ref x) H2) E) :
    wpAny (model X.prog X.w) X.A (call (.ref C) us) (EP X pins σ Q) X.xe s := by
  have hq := h (s.heap.objs.size + 1) s.heap.objs.size (I.hok.fresh (Nat.le_succ _)) (I.hok.fresh (Nat.le_refl _)) (Nat.ne_of_lt (Nat.lt_succ_self _))
  have I2 := Inv.made (C := C) I
  have r2 : Vals (V.ref (s.heap.objs.size + 1) :: (vs ++ dvs)) (Value.ref (s.heap.objs.size + 1) :: (us ++ ds)) := .cons rfl (r.append hd)
  have hl : (Value.ref (s.heap.objs.size + 1) :: us ++ ds).length = ps.length := by
    have e := r2.length
    rw [F.len _ _ _ _ hq] at e
    exact e.symm
  refine wpAny_call (make_map (f := f) I.kIn M.makes M.init (beq_iff_eq.mp M.fn) (codeAny_mono (F.run _ X.stack _ _ ⟨Value.ref (s.heap.objs.size + 1) :: us, []⟩ (Value.ref (s.heap.objs.size + 1) :: (us ++ ds)) _ _ E (hr.make C us [])
    (I2.env0.make C us []) (hb _ (Value.ref (s.heap.objs.size + 1) :: us) I2.kIn hl) r2 hq) fun r s' hq' => ?_))
  cases r with
  | error e => exact hx pins _ _ e s' I2 hq'
  | ok fl =>
    cases fl with
    | ret u =>
      obtain ⟨v, H', I3, rv, ev, q3⟩ := I2.after hq'
      subst ev
      exact ⟨rv, ⟨V.ref (s.heap.objs.size + 1), H', I3, rfl, q3⟩⟩
    | next => exact False.elim hq'
    | brk => exact False.elim hq'
    | cont => exact False.elim hq'
/-- a new instance by its __init__: the instance as it came out -/
def makeK (c : Str) (fi : FnI) (ps : List PV) (st : PV) : ER PV := match fi.sem (.non :: ps) (.ins c [] []) with
  | .ok .non q => (match q with
    | .ins c' ns qs => .ok (.ins c' ns qs) st
    | _ => .stuck)
  | .exc c' ns qs _ => .exc c' ns qs st
  | _ => .stuck
def makeE (c : Str) (fi : FnI) (dps : List PV) (fa : AF) : EF := fun env st => (fa env st).bind fun ps st1 => makeK c fi (ps ++ dps) st1
theorem make_sp {K : Frag} {B : Bs} {W : WX} {F H : Hp} {env : SEnv} {st : PV} {σ : Sg} {c : Str} {ps : List PV} {vs : List V} {Q : VK} {R : PV → PV → Hp → Hp → Prop} {a dx : Addr} (g : Good K B F H env st σ) (hms : fi.ms = .mu :: ms) (hnm : ms.any isMut = false)
    (hown : fi.own = false) (ha : H a = none) (hd : H dx = none) (hne : dx ≠ a) (hA : ∀ F' H', Same F F' → (∀ b o, H b = some o → H' b = some o) → ArgsOk K F' H' (some a) (.ins c [] []) ms ps vs)
    (q : EPost K B W env σ F H R (makeK c fi ps st)) (hR : ∀ p st' F' H', Stp env σ F H F' H' → Good K B F' H' env st' σ → R p st' F' H' → F' a = none → Own K F' H' a p → Q (.ref a) H') :
    spOf K fi (.ref a :: vs) (upd (upd H dx (.own a)) a (.ins (He.ga K c) dx [])) (fun v H2 => v = .non ∧ Q (.ref a) H2) (WE W σ) := by
  have h1 : upd H dx (.own a) a = none := by rw [upd_ne (Ne.symm hne)]; exact ha
  have up : ∀ b o, H b = some o → upd (upd H dx (.own a)) a (.ins (He.ga K c) dx []) b = some o := fun b o e => by
    rw [upd_ne (ne_of_none e ha), upd_ne (ne_of_none e hd)]; exact e
  refine ⟨F, .non :: ps, .ins c [] [], some a, fun b o e => up b o (g.le b o e), fun z => ?_, by
    rw [hms]
    exact ⟨.non, ps, .ref a, vs, rfl, rfl, ⟨a, rfl, rfl, g.fnone ha, dx, [], by rw [upd_same]; rfl, rfl, rfl⟩, hA F _ (Same.refl F) up⟩, ?_⟩
  · rw [hms, List.any_cons] at z; cases z
  unfold makeK at q
  have back : ∀ {F' H' : Hp} {st' : PV}, Back K F (upd (upd H dx (.own a)) a (.ins (He.ga K c) dx [])) (some a) F' H' st' → Good K B F' H' env st σ ∧ Stp env σ F H F' H' ∧ F' a = none ∧ Own K F' H' a st' := fun {F' H' st'} b => by
    have b' : Back K F H none F' H' .non := by
      refine ⟨b.le0, b.le, ?_, ?_, ?_, ?_⟩
      · intro y o e _
        refine b.kept y o (up y o e) fun z => ?_
        cases z
        rw [ha] at e
        cases e
      · intro y e
        refine b.there y ?_
        cases z : H y with
        | none => exact absurd z e
        | some o => rw [up y o z]; simp
      · intro y e
        rcases b.frs y e with h | h
        · exact .inl h
        · refine .inr ?_
          cases z : H y with
          | none => rfl
          | some o => rw [up y o z] at h; cases h
      · intro y e
        cases e
    obtain ⟨g', s'⟩ := g.back (ma := none) (fun a e => by cases e) b'
    obtain ⟨h2, h3⟩ := b.mt a rfl
    exact ⟨g', s', h2, h3⟩
  cases hr : fi.sem (.non :: ps) (.ins c [] []) with
  | ok p st' =>
    rw [hr] at q
    cases p with
    | non =>
      cases st' with
      | ins c' ns qs =>
        intro v F' H' b r
        obtain ⟨g', s', h2, h3⟩ := back b
        unfold ResOk at r
        rw [if_neg (by rw [hown]; exact Bool.false_ne_true)] at r
        exact ⟨r, hR _ st F' H' s' g' (q F' H' s' g') h2 h3⟩
      | _ => exact q.elim
    | _ => exact q.elim
  | exc c' ns qs st' =>
    rw [hr] at q
    intro F' H' d ws b e1 e2 e3
    obtain ⟨g', s', _, _⟩ := back b
    exact q F' H' d ws s'.le g' e1 e2 e3
  | stuck => rw [hr] at q; exact q.elim
theorem args_out {K : Frag} {B : Bs} {F H : Hp} {env : SEnv} {st st' : PV} {σ : Sg} {a : Addr} (g : Good K B F H env st σ) (ha : H a = none) : ∀ {ms : List Md} {ps : List PV} {vs : List V}, ms.any isMut = false → CArgs K F H env σ ms ps vs → ∀ F' H', Same F F' → (∀ b o, H b = some o → H' b = some o) → ArgsOk K F' H' (some a) st' ms ps vs
  | [], _, _, _, h, _, _, _, _ => h
  | m :: ms, _, _, hm, ⟨p, ps', v, vs', h1, h2, h3, h4⟩, F', H', s, k => by
    rw [List.any_cons, Bool.or_eq_false_iff] at hm
    refine ⟨p, ps', v, vs', h1, h2, ?_, args_out g ha hm.2 h4 F' H' s k⟩
    cases m with
    | val => exact Rep.mono s _ _ h3
    | bor =>
      rcases h3 with h3 | ⟨b, e, n, h3⟩
      · exact .inl (Rep.mono s _ _ h3)
      · exact .inr ⟨b, e, (fun z => by cases z; exact h3.there ha), h3.mono s (k b)⟩
    | mu => cases hm.1
theorem qo_make {c : Str} (hf : FnK X.prog X.w X.K X.mg X.base c fi dps k) (hr : Room (k + 1) X.A) (tk : Takes X W) (ha : QA X B W ms (e :: es) fa) (hms : fi.ms = .mu :: (ms ++ List.replicate dps.length .val) := by rfl) (hnm : ms.any isMut = false := by rfl) (hown : fi.own = false := by rfl) (hg : Gl X c := by rfl)
    (hdb : (c == ("__debug__" : Str)) = false := by decide) (he : starEach (e :: es) X.env = (false, eval e X.env) :: starEach es X.env := by rfl) (hpl : (backTo pos (starEach es X.env)).any (·.1) = false := by rfl) :
    QO X B W (.Call (.Name c p) (e :: es) [] pos) (makeE c fi dps fa) := by
  obtain ⟨f, fd, ps, ds, dvs, hm, M, G, hb, hd, hdp⟩ := hf.ex
  refine ⟨⟨fun pins s σ H Q I ⟨F, env, st, g, q⟩ => ?_⟩⟩
  refine wpAny_Call_Name_kw (ld_glob I hg hm ?_ hdb)
  refine PySem.W.callWith_K (h₀ := X.base) I.ok.mod.kin M.kp (thn (ha.pa.run pos pins s σ H _ I ⟨F, env, st, g, q.bind.mono (R' := fun qs _ F' H' => ∀ vs, CArgs X.K F' H' env σ ms qs vs → ∀ x dx, H' x = none → H' dx = none → dx ≠ x → spOf X.K fi (.ref x :: (vs ++ dvs)) (upd (upd H' dx (.own x)) x (.ins (He.ga X.K c) dx [])) (fun v H2 => v = .non ∧ Q (.ref x) H2) (WE W σ)) fun qs st1 F1 H1 s1 g1 q1 vs hvs x dx hx hdx hne => ?_⟩) fun us s1 ⟨vs, H1, I1, r, q1⟩ => ⟨I1.kIn, ?_⟩) he hpl
  · refine make_sp (ms := ms ++ List.replicate dps.length .val) g1 hms (by rw [any_repl]; exact hnm) hown hx hdx hne (fun F' H' s' k' => ArgsOk.append (hdp F') (args_out g1 hx hnm hvs F' H' s' k')) q1 fun p st' F' H' s' g' r h1 h2 => r x ?_ h1 h2
    cases z : H x with
    | none => rfl
    | some u => exact absurd hx (s1.there x (by rw [z]; simp))
  · exact run_makeS M G hr hb hd (passAt tk σ) I1 r q1
theorem qo_make0 {c : Str} (hf : FnK X.prog X.w X.K X.mg X.base c fi dps k) (hr : Room (k + 1) X.A) (tk : Takes X W) (hms : fi.ms = .mu :: ([] ++ List.replicate dps.length .val) := by rfl) (hown : fi.own = false := by rfl) (hg : Gl X c := by rfl)
    (hdb : (c == ("__debug__" : Str)) = false := by decide) : QO X B W (.Call (.Name c p) [] [] pos) (makeE c fi dps nilA) := by
  obtain ⟨f, fd, ps, ds, dvs, hm, M, G, hb, hd, hdp⟩ := hf.ex
  refine ⟨⟨fun pins s σ H Q I ⟨F, env, st, g, q⟩ => ?_⟩⟩
  refine wpAny_Call_Name_kw (ld_glob I hg hm ?_ hdb)
  refine PySem.W.callWith_K0 I.kIn M.kp (run_makeS (us := []) (vs := []) (Q := Q) M G hr hb hd (passAt tk σ) I .nil fun x dx hx hdx hne => ?_)
  refine make_sp (ms := [] ++ List.replicate dps.length .val) g hms (by rw [any_repl]; rfl) hown hx hdx hne (fun F' H' s' k' => ArgsOk.append (ms := []) (ps := []) (vs := []) (hdp F') (And.intro rfl rfl)) q fun p st' F' H' s' g' r h1 h2 => r x hx h1 h2
end
end KI

/-! part KI10 -/
set_option Elab.async false
set_option linter.all false
set_option maxRecDepth 100000
set_option maxHeartbeats 4000000
namespace KI
open PySem PySem.Spec PyProof.Rows L2

/-! ## list comprehensions -/
theorem wipe_get {σ : Sg} {j : Nat} : ∀ {vs : List Nat}, (wipe σ vs)[j]? = if j ∈ vs then (if j < σ.length then some none else none) else σ[j]?
  | [] => by simp [wipe]
  | v :: vs => by
    unfold wipe
    rw [List.getElem?_set]
    by_cases h : v = j
    · subst h; simp [wipe_length]
    · rw [if_neg h, wipe_get]
      by_cases h2 : j ∈ vs
      · simp [h2]
      · simp [h2, Ne.symm h]
theorem wipe_ext {σ σ' : Sg} {vs : List Nat} (hl : σ'.length = σ.length) (h : ∀ j, j ∉ vs → σ'[j]? = σ[j]?) : wipe σ' vs = wipe σ vs := by
  apply List.ext_getElem?
  intro j
  rw [wipe_get, wipe_get, hl]
  by_cases hj : j ∈ vs
  · simp [hj]
  · simp only [hj, if_false]; exact h j hj
theorem wipe_set {σ : Sg} {vs : List Nat} {i : Nat} {x : Option V} (h : i ∈ vs) : wipe (σ.set i x) vs = wipe σ vs :=
  wipe_ext (by simp) fun j hj => by rw [List.getElem?_set_ne]; intro e; exact hj (e ▸ h)
theorem wipe_wipe {σ : Sg} {vs : List Nat} : wipe (wipe σ vs) vs = wipe σ vs :=
  wipe_ext (wipe_length _ _) fun j hj => by rw [wipe_get, if_neg hj]
theorem killS_length : ∀ {vs : List Nat} {env : SEnv}, (killS vs env).length = env.length
  | [], env => rfl
  | v :: vs, env => by
    show (killS vs (env.set v .dead)).length = _
    rw [killS_length, List.length_set]
theorem killS_get {j : Nat} : ∀ {vs : List Nat} {env : SEnv}, (killS vs env)[j]? = if j ∈ vs then (if j < env.length then some .dead else none) else env[j]?
  | [], env => by simp [killS]
  | v :: vs, env => by
    show (killS vs (env.set v .dead))[j]? = _
    rw [killS_get, List.length_set]
    by_cases h2 : j ∈ vs
    · simp [h2]
    · rw [if_neg h2, List.getElem?_set]
      by_cases h : v = j
      · subst h; simp
      · rw [if_neg h]; simp [h2, Ne.symm h]
theorem killS_ext {env env' : SEnv} {vs : List Nat} (hl : env'.length = env.length) (h : ∀ j, j ∉ vs → env'[j]? = env[j]?) : killS vs env' = killS vs env := by
  apply List.ext_getElem?
  intro j
  rw [killS_get, killS_get, hl]
  by_cases hj : j ∈ vs
  · simp [hj]
  · simp only [hj, if_false]; exact h j hj
theorem killS_set {env : SEnv} {vs : List Nat} {i : Nat} {x : Slot} (h : i ∈ vs) : killS vs (env.set i x) = killS vs env :=
  killS_ext (by simp) fun j hj => by rw [List.getElem?_set_ne]; intro e; exact hj (e ▸ h)
theorem killS_kill {env : SEnv} {vs : List Nat} : killS vs (killS vs env) = killS vs env :=
  killS_ext killS_length fun j hj => by rw [killS_get, if_neg hj]
section
variable {K : Frag} {B : Bs} {F H F' H' : Hp} {env : SEnv} {st st' : PV} {σ : Sg} {vs : List Nat}
theorem Good.wipe (g : Good K B F H env st σ) (vs : List Nat) : Good K B F H (killS vs env) st (L2.wipe σ vs) where
  le := g.le
  le0 := g.le0
  kept := g.kept
  there := g.there
  frs := g.frs
  len := by rw [killS_length, wipe_length]; exact g.len
  slots := fun i s e => by
    rw [killS_get] at e
    rw [wipe_get]
    by_cases h : i ∈ vs
    · rw [if_pos h] at e ⊢
      by_cases hl : i < env.length
      · rw [if_pos hl] at e
        cases e
        exact ⟨none, by rw [if_pos (g.len ▸ hl)], trivial⟩
      · rw [if_neg hl] at e; cases e
    · rw [if_neg h] at e ⊢
      exact g.slots i s e
  sep := fun i j s t a ne h1 h2 o1 o2 e1 e2 => by
    rw [killS_get] at h1 h2
    rw [wipe_get] at e1 e2
    by_cases hi : i ∈ vs
    · rw [if_pos hi] at e1
      split at e1 <;> cases e1
    · by_cases hj : j ∈ vs
      · rw [if_pos hj] at e2
        split at e2 <;> cases e2
      · rw [if_neg hi] at h1 e1
        rw [if_neg hj] at h2 e2
        exact g.sep i j s t a ne h1 h2 o1 o2 e1 e2
  mt1 := fun i j h1 h2 => by
    rw [killS_get] at h1 h2
    by_cases hi : i ∈ vs
    · rw [if_pos hi] at h1
      split at h1 <;> cases h1
    · by_cases hj : j ∈ vs
      · rw [if_pos hj] at h2
        split at h2 <;> cases h2
      · rw [if_neg hi] at h1
        rw [if_neg hj] at h2
        exact g.mt1 i j h1 h2
/-- the slots that a block may hide: dead or shared -/
def calmAt (env : SEnv) (vs : List Nat) : Bool := vs.all fun i => match env[i]? with
  | some .dead => true
  | some (.sh _) => true
  | none => true
  | _ => false
theorem calmAt_own {i : Nat} {s : Slot} (h : calmAt env vs = true) (hi : i ∈ vs) (e : env[i]? = some s) : isOwn s = false := by
  have := List.all_eq_true.mp h i hi
  rw [e] at this
  cases s <;> first | rfl | cases this
theorem calmAt_set {i : Nat} {p : PV} (h : calmAt env vs = true) : calmAt (env.set i (.sh p)) vs = true := by
  refine List.all_eq_true.mpr fun j hj => ?_
  have := List.all_eq_true.mp h j hj
  rw [List.getElem?_set]
  by_cases hi : i = j
  · subst hi
    by_cases hl : i < env.length
    · simp [hl]
    · simp [hl]
  · rw [if_neg hi]; exact this
theorem calmAt_kill : calmAt (killS vs env) vs = true := by
  refine List.all_eq_true.mpr fun j hj => ?_
  rw [killS_get, if_pos hj]
  by_cases hl : j < env.length
  · simp [hl]
  · simp [hl]
theorem Stp.writeN {F1 H1 : Hp} {a : Addr} {o : HO} (hD : H1 a = none) (s : Stp env σ F1 H1 F H) : Stp env σ F1 H1 F (upd H a o) where
  le := s.le
  keep := fun b u e n => by rw [upd_ne (ne_of_none e hD)]; exact s.keep b u e n
  frz := s.frz
  there := fun b e => by
    by_cases hb : b = a
    · subst hb; rw [upd_same]; simp
    · rw [upd_ne hb]; exact s.there b e
theorem MtA.wiped (h : calmAt env vs = true) {a : Addr} : MtA env σ a ↔ MtA (killS vs env) (wipe σ vs) a := by
  constructor
  · rintro ⟨i, h1, h2⟩
    have hi : i ∉ vs := fun z => by have := calmAt_own h z h1; cases this
    exact ⟨i, by rw [killS_get, if_neg hi]; exact h1, by rw [wipe_get, if_neg hi]; exact h2⟩
  · rintro ⟨i, h1, h2⟩
    rw [killS_get] at h1
    rw [wipe_get] at h2
    by_cases hi : i ∈ vs
    · rw [if_pos hi] at h1
      split at h1 <;> cases h1
    · rw [if_neg hi] at h1 h2
      exact ⟨i, h1, h2⟩
theorem Stp.unwipe (h : calmAt env vs = true) (s : Stp (killS vs env) (wipe σ vs) F H F' H') : Stp env σ F H F' H' :=
  ⟨s.le, fun a o e n => s.keep a o e fun z => n ((MtA.wiped h).mpr z), s.frz, s.there⟩
theorem Good.unwipe (g0 : Good K B F H env st σ) (h : calmAt env vs = true) (le : Same F F') (g : Good K B F' H' (killS vs env) st' (L2.wipe σ vs)) : Good K B F' H' env st' σ where
  le := g.le
  le0 := g.le0
  kept := g.kept
  there := g.there
  frs := g.frs
  len := g0.len
  slots := fun i s e => by
    by_cases hi : i ∈ vs
    · obtain ⟨o, h1, h2⟩ := g0.slots i s e
      refine ⟨o, h1, ?_⟩
      have hc := List.all_eq_true.mp h i hi
      rw [e] at hc
      cases s with
      | dead => trivial
      | sh p => obtain ⟨v, h3, h4⟩ := h2; exact ⟨v, h3, Rep.mono le _ _ h4⟩
      | _ => cases hc
    · obtain ⟨o, h1, h2⟩ := g.slots i s (by rw [killS_get, if_neg hi]; exact e)
      rw [wipe_get, if_neg hi] at h1
      exact ⟨o, h1, h2⟩
  sep := fun i j s t a ne h1 h2 o1 o2 e1 e2 => g0.sep i j s t a ne h1 h2 o1 o2 e1 e2
  mt1 := g0.mt1
/-- an object that nobody has, turned -/
theorem Good.writeN (g : Good K B F H env st σ) {a : Addr} {o o' : HO} (h : H a = some o) (hF : F a = none) (h0 : B.H0 a = none) (hs : ∀ (i : Nat) (s : Slot), env[i]? = some s → isOwn s = true → σ[i]? ≠ some (some (.ref a))) : Good K B F (upd H a o') env st σ where
  le := fun b u e => by rw [upd_ne (fun z => by rw [z, hF] at e; cases e)]; exact g.le b u e
  le0 := g.le0
  kept := fun b u e n => by rw [upd_ne (fun z => by rw [z, h0] at e; cases e)]; exact g.kept b u e n
  there := fun b e => by
    by_cases hb : b = a
    · subst hb; rw [upd_same]; simp
    · rw [upd_ne hb]; exact g.there b e
  frs := g.frs
  len := g.len
  slots := fun i s e => by
    obtain ⟨w, h1, h2⟩ := g.slots i s e
    refine ⟨w, h1, ?_⟩
    cases s with
    | dead => trivial
    | sh p => exact h2
    | own p =>
      obtain ⟨b, h3, h4, h5, h6⟩ := h2
      have hb : b ≠ a := fun z => hs i _ e rfl (by rw [h1, h3, z])
      exact ⟨b, h3, h4, h5, h6.mono (Same.refl F) fun o e => by rw [upd_ne hb]; exact e⟩
    | mt =>
      obtain ⟨b, h3, h4, h5, h6⟩ := h2
      have hb : b ≠ a := fun z => hs i _ e rfl (by rw [h1, h3, z])
      exact ⟨b, h3, h4, h5, h6.mono (Same.refl F) fun o e => by rw [upd_ne hb]; exact e⟩
    | bor p => exact h2
    | exc c ns ps => exact h2
  sep := g.sep
  mt1 := g.mt1
end
def lcL (t : GF) (c : TF) (e : EF) (env : SEnv) : List PV → PV → ER (List PV)
  | [], st => .ok [] st
  | p :: ps, st => match t p env with
    | none => .stuck
    | some env1 => (c env1 st).bind fun b st1 => if b = true then (e env1 st1).bind fun y st2 => (lcL t c e env ps st2).bind fun ys st3 => .ok (y :: ys) st3 else lcL t c e env ps st1
def lcE (vs : List Nat) (fi : AF) (t : GF) (c : TF) (e : EF) : EF := fun env st => (fi env st).bind fun ps st1 => if calmAt env vs = true ∧ ps.length ≤ sizeLine then (match lcL t c e (killS vs env) ps st1 with
  | .ok ys st2 => .ok (.lst ys) st2
  | _ => .stuck) else .stuck
/-- a target within the block's own slots -/
def tGv (K : Frag) (B : Bs) (vs : List Nat) (t : GF) : TG := fun v σ H Q => ∃ F env st p, Good K B F H env st σ ∧ Rep K F p v ∧ match t p env with
  | some env' => ∀ σ', Good K B F H env' st σ' → wipe σ' vs = wipe σ vs → Q σ' H
  | none => False
structure QGv (X : Cx) (B : Bs) (vs : List Nat) (tg : Expr) (t : GF) : Prop where
  pg : PG X tg (tGv X.K B vs t)
  ke : ∀ p env env', t p env = some env' → killS vs env' = killS vs env
  cm : ∀ p env env', t p env = some env' → calmAt env vs = true → calmAt env' vs = true
def W0 : WX := fun _ _ _ _ => False
/-- the condition: none, or one -/
def tTs (K : Frag) (B : Bs) (f : TF) : TT := tT K B W0 f
structure QTs (X : Cx) (B : Bs) (es : List Expr) (f : TF) : Prop where
  pt : PTs X es (tT X.K B W0 f)
def yesT : TF := fun _ st => .ok true st
section
variable {X : Cx} {B : Bs} {W : WX} {pos : Pos} {vs : List Nat}
theorem qts_nil : QTs X B [] yesT := ⟨⟨fun pins s σ H Q I ⟨F, env, st, g, q⟩ => pts_nil.run pins s σ H Q I (q F H Stp.refl g)⟩⟩
theorem qts_one {c : Expr} {f : TF} (h : QT X B W0 c f) : QTs X B [c] f := ⟨pts_one h.pt⟩
theorem nameG_ke {i : Nat} (hv : i ∈ vs) : ∀ p env env', nameG i p env = some env' → killS vs env' = killS vs env := by
  intro p env env' h
  unfold nameG at h
  cases h
  exact killS_set hv
theorem nameG_cm {i : Nat} : ∀ p env env', nameG i p env = some env' → calmAt env vs = true → calmAt env' vs = true := by
  intro p env env' h hc
  unfold nameG at h
  cases h
  exact calmAt_set hc
theorem pairG_ke {i j : Nat} (hv : i ∈ vs) (hw : j ∈ vs) : ∀ p env env', pairG i j p env = some env' → killS vs env' = killS vs env := by
  intro p env env' h
  unfold pairG at h
  split at h
  · cases h
    rw [killS_set hw, killS_set hv]
  · cases h
theorem pairG_cm {i j : Nat} : ∀ p env env', pairG i j p env = some env' → calmAt env vs = true → calmAt env' vs = true := by
  intro p env env' h hc
  unfold pairG at h
  split at h
  · cases h
    exact calmAt_set (calmAt_set hc)
  · cases h
theorem qgv_name {x : Str} (i : Nat) (hN : X.N.Nodup) (hv : i ∈ vs := by decide) (hi : X.N[i]? = some x := by rfl) (hx : Loc X.env.scope x := by first | exact .inl rfl | exact .inr rfl) (hf : X.fn x = true ∨ X.env.scope.names.lookup x = some .local := by first | exact .inl rfl | exact .inr rfl) : QGv X B vs (.Name x pos) (nameG i) :=
  ⟨pg_imp (pg_name hN hi hx hf) fun v σ H Q ⟨F, env, st, p, g, r, q⟩ => q _ (g.set i (v := v) (s := .sh p) ⟨v, rfl, r⟩ fun z => nomatch z) (wipe_set hv), nameG_ke hv, nameG_cm⟩
theorem qgv_pair {x y : Str} {p1 p2 : Pos} {kk : Nat} (i j : Nat) (hc : X.calm = true) (hN : X.N.Nodup) (hvi : i ∈ vs := by decide) (hvj : j ∈ vs := by decide) (hi : X.N[i]? = some x := by rfl) (hx : Loc X.env.scope x := by first | exact .inl rfl | exact .inr rfl) (hfx : X.fn x = true ∨ X.env.scope.names.lookup x = some .local := by first | exact .inl rfl | exact .inr rfl)
    (hj : X.N[j]? = some y := by rfl) (hy : Loc X.env.scope y := by first | exact .inl rfl | exact .inr rfl) (hfy : X.fn y = true ∨ X.env.scope.names.lookup y = some .local := by first | exact .inl rfl | exact .inr rfl)
    (hn : (assignEach [.Name x p1, .Name y p2] X.env).length = 2 := by rfl) (hst : (assignEach [.Name x p1, .Name y p2] X.env).findIdx? (·.1) = none := by rfl) : QGv X B vs (.Tuple [.Name x p1, .Name y p2] kk pos) (pairG i j) :=
  ⟨pg_imp (pg_tup hc (pgs_cons (pg_name hN hi hx hfx) (pgs_cons (pg_name hN hj hy hfy) pgs_nil)) hn hst) fun v σ H Q ⟨F, env, st, p, g, r, q⟩ => by
    unfold pairG at q
    cases p with
    | tup ps =>
      match ps, r, q with
      | [p1, p2], ⟨a, vs, h1, h2, v1, r1, h3, h4, v2, r2, h5, h6, h7⟩, q =>
        obtain rfl : r2 = [] := h7
        subst h1 h3 h5
        exact ⟨a, _, rfl, sqT_mono g.le h2, rfl, v1, _, rfl, v2, _, rfl, rfl, q _ ((g.set i (v := v1) (s := .sh p1) ⟨v1, rfl, h4⟩ fun z => nomatch z).set j (v := v2) (s := .sh p2) ⟨v2, rfl, h6⟩ fun z => nomatch z) (by rw [wipe_set hvj, wipe_set hvi])⟩
      | [], _, q => exact q.elim
      | [_], _, q => exact q.elim
      | _ :: _ :: _ :: _, _, q => exact q.elim
    | _ => exact q.elim, pairG_ke hvi hvj, pairG_cm⟩
theorem qlc_core {tg iter elt : Expr} {ifs : List Expr} {vs : List Nat} {fi : AF} {t : GF} {c : TF} {e : EF} (hke : ∀ p env env', t p env = some env' → killS vs env' = killS vs env) (hcm : ∀ p env env', t p env = some env' → calmAt env vs = true → calmAt env' vs = true) {σ : Sg} {H : Hp} {Q : VK} (h : tO X.K B W (lcE vs fi t c e) σ H Q) :
    tLc (tI X.K B W fi) (tGv X.K B vs t) (tT X.K B W0 c) (tE X.K B W0 e) vs σ H Q := by
  obtain ⟨F, env, st, g, q⟩ := h
  refine ⟨F, env, st, g, q.bind.mono fun ps st1 F1 H1 s1 g1 q1 J w D hD => ?_⟩
  by_cases hz : calmAt env vs = true ∧ ps.length ≤ sizeLine
  · rw [if_pos hz] at q1
    obtain ⟨hc, hl⟩ := hz
    have hF1 : F1 D = none := g1.fnone hD
    have h00 : B.H0 D = none := g1.h0none hD
    have own1 : ∀ (i : Nat) (s : Slot), (killS vs env)[i]? = some s → isOwn s = true → (L2.wipe σ vs)[i]? ≠ some (some (.ref D)) := (g1.wipe vs).ownNone hD
    have nm : ¬ MtA (killS vs env) (L2.wipe σ vs) D := (g1.wipe vs).mtNone hD
    have hDH : H D = none := by
      cases z : H D with
      | none => rfl
      | some u => exact absurd hD (s1.there D (by rw [z]; simp))
    cases hr : lcL t c e (killS vs env) ps st1 with
    | stuck => rw [hr] at q1; exact q1.elim
    | exc cc ns qs st2 => rw [hr] at q1; exact q1.elim
    | ok ys stf =>
    rw [hr] at q1
    refine lc_it w (fun i H => ∃ F st acc avs rest, Good X.K B F H (killS vs env) st (L2.wipe σ vs) ∧ F D = none ∧ H D = some (.lst avs) ∧ RepL X.K F acc avs ∧ avs.length ≤ i ∧ Stp (killS vs env) (L2.wipe σ vs) F1 H1 F H ∧ lcL t c e (killS vs env) (ps.drop i) st = .ok rest stf ∧ acc ++ rest = ys) ?_ ?_ ?_ ?_
    · exact ⟨F1, st1, [], [], ys, (g1.wipe vs).alloc0 hD, hF1, upd_same, rfl, Nat.le_refl _, Stp.alloc0 hD, by rw [List.drop_zero]; exact hr, rfl⟩
    · rintro i H2 hi ⟨F2, st2, acc, avs, rest, g2, h1, h2, h3, h4, h5, h6, h7⟩
      exact h5.le.trans g2.le
    · rintro i x H2 H3 hi ⟨F2, st2, acc, avs, rest, g2, h1, h2, h3, h4, h5, h6, h7⟩ y
      obtain ⟨p, F3, hp, rp, nb⟩ := y F2 h5.le g2.le
      obtain ⟨g3, s3, t3⟩ := g2.newBy nb
      have hd : ps.drop i = p :: ps.drop (i + 1) := by
        obtain ⟨hl, e⟩ := List.getElem?_eq_some_iff.mp hp
        rw [List.drop_eq_getElem_cons hl, e]
      rw [hd] at h6
      unfold lcL at h6
      -- behind a step
      have go : ∀ {F' H' : Hp}, Stp (killS vs env) (L2.wipe σ vs) F2 H2 F' H' → H' D = some (.lst avs) ∧ F' D = none ∧ RepL X.K F' acc avs ∧ Stp (killS vs env) (L2.wipe σ vs) F1 H1 F' H' := fun {F' H'} s' => by
        refine ⟨s'.keep D _ h2 nm, ?_, RepL.mono s'.le _ _ h3, h5.trans s'⟩
        cases z : F' D with
        | none => rfl
        | some o =>
          rcases s'.frz D (by rw [z]; simp) with z | z
          · exact absurd h1 z
          · rw [h2] at z; cases z
      refine ⟨F3, killS vs env, st2, p, g3, rp, ?_⟩
      cases ht : t p (killS vs env) with
      | none => rw [ht] at h6; cases h6
      | some env2 =>
        rw [ht] at h6
        dsimp only at h6
        have ke := (hke _ _ _ ht).trans killS_kill
        have cm := hcm _ _ _ ht calmAt_kill
        intro σ2 g4 hw
        have hw := hw.trans wipe_wipe
        refine ⟨hw, F3, env2, st2, g4, ?_⟩
        have back : ∀ {F' H' : Hp} {st' : PV}, Good X.K B F' H' env2 st' σ2 → Good X.K B F' H' (killS vs env) st' (L2.wipe σ vs) := fun {F' H' st'} g' => by
          have := g'.wipe vs
          rw [ke, hw] at this
          exact this
        have stp : ∀ {F H F' H' : Hp}, Stp env2 σ2 F H F' H' → Stp (killS vs env) (L2.wipe σ vs) F H F' H' := fun {F H F' H'} s' => ⟨s'.le, fun a o e n => s'.keep a o e fun z => n (by
          have := (MtA.wiped cm).mp z
          rw [ke, hw] at this
          exact this), s'.frz, s'.there⟩
        cases hb : c env2 st2 with
        | stuck => rw [hb] at h6; cases h6
        | exc cc ns qs st3 => rw [hb] at h6; cases h6
        | ok b st3 =>
          rw [hb] at h6
          rw [ER.bind_ok] at h6
          intro F5 H5 s5 g5
          cases b with
          | false =>
            rw [if_neg Bool.false_ne_true] at h6
            rw [if_neg Bool.false_ne_true]
            obtain ⟨k1, k2, k3, k4⟩ := go (t3.trans (stp s5))
            exact ⟨F5, st3, acc, avs, rest, back g5, k2, k1, k3, Nat.le_succ_of_le h4, k4, h6, h7⟩
          | true =>
            rw [if_pos rfl] at h6
            rw [if_pos rfl]
            refine ⟨F5, env2, st3, g5, ?_⟩
            cases hy : e env2 st3 with
            | stuck => rw [hy] at h6; cases h6
            | exc cc ns qs st4 => rw [hy] at h6; cases h6
            | ok y st4 =>
              rw [hy] at h6
              rw [ER.bind_ok] at h6
              intro F7 H7 s7 g7 v rv
              cases hz : lcL t c e (killS vs env) (ps.drop (i + 1)) st4 with
              | stuck => rw [hz] at h6; cases h6
              | exc cc ns qs st4 => rw [hz] at h6; cases h6
              | ok zs st5 =>
                rw [hz] at h6
                rw [ER.bind_ok] at h6
                cases h6
                obtain ⟨k1, k2, k3, k4⟩ := go ((t3.trans (stp s5)).trans (stp s7))
                refine ⟨avs, k1, Nat.lt_of_le_of_lt h4 (Nat.lt_of_lt_of_le hi hl), F7, st4, acc ++ [y], avs ++ [v], zs, (back g7).writeN k1 k2 h00 own1, k2, upd_same, k3.append (RepL.one rv), by simp; exact h4, k4.writeN hD, hz, by rw [List.append_assoc]; exact h7⟩
    · rintro H2 ⟨F2, st2, acc, avs, rest, g2, h1, h2, h3, h4, h5, h6, h7⟩
      rw [List.drop_length] at h6
      cases h6
      rw [List.append_nil] at h7
      subst h7
      exact q1 F2 H2 (h5.unwipe hc) (g1.unwipe hc h5.le g2) D hDH h1 ⟨avs, h2, h3⟩
  · rw [if_neg hz] at q1; exact q1.elim
theorem qo_lc {tg iter elt : Expr} {ifs : List Expr} {scope : Scope} {own : List (Str × Nat)} {fi : AF} {t : GF} {c : TF} {e : EF} (hc : X.calm = true) (hN : X.N.Nodup) (hi : QI X B W tg iter fi) (ok : BlkOk X.N X.env.scope scope own)
    (hg : ∀ (s : Shared) (H : Hp) (C : Addr) (cl : List (Str × Addr)) (fp : List Addr), QGv (X.blk s H scope (compEnvC scope cl C X.env) fp) B (own.map (·.2)) tg t)
    (ht : ∀ (s : Shared) (H : Hp) (C : Addr) (cl : List (Str × Addr)) (fp : List Addr), QTs (X.blk s H scope (compEnvC scope cl C X.env) fp) B ifs c)
    (he : ∀ (s : Shared) (H : Hp) (C : Addr) (cl : List (Str × Addr)) (fp : List Addr), QE (X.blk s H scope (compEnvC scope cl C X.env) fp) B W0 elt e) (hs : ∀ x, foldedSetIterable iter X.env x = pure x := by intro _; rfl) : QO X B W (.ListComp elt [⟨tg, iter, ifs, 0⟩] scope pos) (lcE (own.map (·.2)) fi t c e) :=
  ⟨pe_imp (pe_lc hc hN hi.pi ok (fun s H C cl fp => (hg s H C cl fp).pg) (fun s H C cl fp => (ht s H C cl fp).pt) (fun s H C cl fp => (he s H C cl fp).pe) hs) fun σ H Q h => qlc_core (elt := elt) (iter := iter) (tg := tg) (ifs := ifs) (hg X.s_0 H 0 [] []).ke (hg X.s_0 H 0 [] []).cm h⟩
/-- name = [..] on one line -/
theorem qs_setLc {tg iter elt : Expr} {ifs : List Expr} {scope : Scope} {own : List (Str × Nat)} {fi : AF} {t : GF} {c : TF} {e : EF} {y : Str} {py spos : Pos} (i : Nat) (hc : X.calm = true) (hN : X.N.Nodup) (hi : QI X B W tg iter fi) (ok : BlkOk X.N X.env.scope scope own)
    (hg : ∀ (s : Shared) (H : Hp) (C : Addr) (cl : List (Str × Addr)) (fp : List Addr), QGv (X.blk s H scope (compEnvC scope cl C X.env) fp) B (own.map (·.2)) tg t)
    (ht : ∀ (s : Shared) (H : Hp) (C : Addr) (cl : List (Str × Addr)) (fp : List Addr), QTs (X.blk s H scope (compEnvC scope cl C X.env) fp) B ifs c)
    (he : ∀ (s : Shared) (H : Hp) (C : Addr) (cl : List (Str × Addr)) (fp : List Addr), QE (X.blk s H scope (compEnvC scope cl C X.env) fp) B W0 elt e) (hy : X.N[i]? = some y := by rfl) (hyl : X.env.scope.names.lookup y = some .local := by rfl) (hsw : swapsWith (.ListComp elt [⟨tg, iter, ifs, 0⟩] scope pos) (some (.Name y py)) spos.line X.env = pure true := by rfl) (hs : ∀ x, foldedSetIterable iter X.env x = pure x := by intro _; rfl) :
    QS X B W (.Assign [.Name y py] (.ListComp elt [⟨tg, iter, ifs, 0⟩] scope pos) spos) (setO i (lcE (own.map (·.2)) fi t c e)) :=
  ⟨ps_imp (ps_setLc hc hN hy hyl hsw hi.pi ok (fun s H C cl fp => (hg s H C cl fp).pg) (fun s H C cl fp => (ht s H C cl fp).pt) (fun s H C cl fp => (he s H C cl fp).pe) hs) fun D σ H ⟨F, env, st, g, q⟩ => qlc_core (elt := elt) (iter := iter) (tg := tg) (ifs := ifs) (hg X.s_0 H 0 [] []).ke (hg X.s_0 H 0 [] []).cm (Q := fun v H1 => gName i v σ H1 D.nx) ⟨F, env, st, g, setO_post g q⟩⟩
end
end KI

/-! part KI11 -/
set_option Elab.async false
set_option linter.all false
set_option maxRecDepth 100000
set_option maxHeartbeats 4000000
namespace KI
open PySem PySem.Spec PyProof.Rows L2

/-! ## displays -/
def lstE (fa : AF) : EF := fun env st => (fa env st).bind fun ps st1 => if ps.length ≤ sizeLine then .ok (.lst ps) st1 else .stuck
def tupE (fa : AF) : EF := fun env st => (fa env st).bind fun ps st1 => if ps.length ≤ sizeLine then .ok (.tup ps) st1 else .stuck
theorem CArgs.vals {K : Frag} {F H : Hp} {env : SEnv} {σ : Sg} : ∀ {ms : List Md} {ps : List PV} {vs : List V}, ms.all (fun m => match m with | .val => true | _ => false) = true → CArgs K F H env σ ms ps vs → RepL K F ps vs
  | [], _, _, _, ⟨h1, h2⟩ => by subst h1; exact h2
  | m :: ms, _, _, hm, ⟨p, ps, v, vs, h1, h2, h3, h4⟩ => by
    subst h1 h2
    rw [List.all_cons, Bool.and_eq_true] at hm
    cases m with
    | val => exact ⟨v, vs, rfl, h3, CArgs.vals hm.2 h4⟩
    | _ => cases hm.1
section
variable {X : Cx} {B : Bs} {W : WX} {e : Expr} {es : List Expr} {f : EF} {fa : AF} {ms : List Md} {pos : Pos}
theorem none_of {H H' : Hp} (h : ∀ a, H a ≠ none → H' a ≠ none) {a : Addr} (e : H' a = none) : H a = none := by
  cases z : H a with
  | none => rfl
  | some u => exact absurd e (h a (by rw [z]; simp))
theorem qo_lst (ha : QA X B W ms es fa) (hm : ms.all (fun m => match m with | .val => true | _ => false) = true := by rfl) : QO X B W (.List es pos) (lstE fa) :=
  ⟨pe_imp (pe_lst ha.pa) fun σ H Q ⟨F, env, st, g, q⟩ => ⟨F, env, st, g, q.bind.mono fun ps st1 F1 H1 s1 g1 q1 vs hvs => by
    have hr := hvs.vals hm
    by_cases hz : ps.length ≤ sizeLine
    · rw [if_pos hz] at q1
      exact ⟨by rw [← hr.length]; exact hz, fun p hp => q1 F1 _ (Stp.alloc0 hp) (g1.alloc0 hp) p (none_of s1.there hp) (g1.fnone hp) ⟨vs, upd_same, hr⟩⟩
    · rw [if_neg hz] at q1; exact q1.elim⟩⟩
theorem qe_tup {x1} (ha : QA X B W ms es fa) (hm : ms.all (fun m => match m with | .val => true | _ => false) = true := by rfl) : QE X B W (.Tuple es x1 pos) (tupE fa) :=
  ⟨pe_imp (pe_tup ha.pa) fun σ H Q ⟨F, env, st, g, q⟩ => ⟨F, env, st, g, q.bind.mono fun ps st1 F1 H1 s1 g1 q1 vs hvs => by
    have hr := hvs.vals hm
    by_cases hz : ps.length ≤ sizeLine
    · rw [if_pos hz] at q1
      exact ⟨by rw [← hr.length]; exact hz, fun p hp => q1 _ _ (Stp.alloc (g1.fnone hp) hp) (g1.alloc hp) (.ref p) ⟨p, vs, rfl, .inl (.inl upd_same), RepL.mono (Same.upd_new (g1.fnone hp)) _ _ hr⟩⟩
    · rw [if_neg hz] at q1; exact q1.elim⟩⟩
theorem qo_dct : QO X B W (.Dict [] [] pos) (fun _ st => .ok (.dct [] []) st) :=
  ⟨pe_imp pe_dnewK fun σ H Q ⟨F, env, st, g, q⟩ p hp => q F _ (Stp.alloc0 hp) (g.alloc0 hp) p hp (g.fnone hp) ⟨[], upd_same, rfl, rfl⟩⟩

/-! ## built-in functions -/
def RHs (K : Frag) (F H : Hp) : List PV → List V → Prop
  | [], vs => vs = []
  | p :: ps, vs => ∃ v r, vs = v :: r ∧ RH K F H p v ∧ RHs K F H ps r
theorem CArgs.rhs {K : Frag} {F H : Hp} {env : SEnv} {σ : Sg} : ∀ {ms : List Md} {ps : List PV} {vs : List V}, ms.any isMut = false → CArgs K F H env σ ms ps vs → RHs K F H ps vs
  | [], _, _, _, ⟨h1, h2⟩ => by subst h1; exact h2
  | m :: ms, _, _, hm, ⟨p, ps, v, vs, h1, h2, h3, h4⟩ => by
    subst h1 h2
    rw [List.any_cons, Bool.or_eq_false_iff] at hm
    refine ⟨v, vs, rfl, ?_, CArgs.rhs hm.2 h4⟩
    cases m with
    | val => exact .inl h3
    | bor => exact h3.rh
    | mu => cases hm.1
def rBi (K : Frag) (g : List PV → Option PV) : List V → Hp → VK → Prop := fun xs H Q => ∃ F ps, Same F H ∧ RHs K F H ps xs ∧ ∃ z, g ps = some z ∧ ∀ u F' H', NewBy F H F' H' → Rep K F' z u → Q u H'
def rBiO (K : Frag) (g : List PV → Option PV) : List V → Hp → VK → Prop := fun xs H Q => ∃ F ps, Same F H ∧ RHs K F H ps xs ∧ ∃ z, g ps = some z ∧ ∀ a o, H a = none → Own K F (upd H a o) a z → Q (.ref a) (upd H a o)
theorem callr_imp {f : Value} {r r' : List V → Hp → VK → Prop} (h : CallR X f r) (k : ∀ xs H Q, r' xs H Q → r xs H Q) : CallR X f r' := fun pins s σ H xs us Q I rx q => h pins s σ H xs us Q I rx (k xs H Q q)
def biE (g : List PV → Option PV) (fa : AF) : EF := fun env st => (fa env st).bind fun ps st1 => match g ps with
  | some z => .ok z st1
  | none => .stuck
theorem bi_post {g : List PV → Option PV} {σ : Sg} {H : Hp} {Q : VK} (hm : ms.any isMut = false) (h : tE X.K B W (biE g fa) σ H Q) : tA X.K B W ms fa σ H fun vs H1 => rBi X.K g vs H1 Q := by
  obtain ⟨F, env, st, g0, q⟩ := h
  refine ⟨F, env, st, g0, q.bind.mono fun ps st1 F1 H1 s1 g1 q1 vs hvs => ?_⟩
  cases hz : g ps with
  | none => rw [hz] at q1; exact q1.elim
  | some z =>
    rw [hz] at q1
    exact ⟨F1, ps, g1.le, hvs.rhs hm, z, hz, fun u F2 H2 nb hu => by
      obtain ⟨g2, _, s2⟩ := g1.newBy nb
      exact q1 F2 H2 s2 g2 u hu⟩
theorem bi_postO {g : List PV → Option PV} {σ : Sg} {H : Hp} {Q : VK} (hm : ms.any isMut = false) (h : tO X.K B W (biE g fa) σ H Q) : tA X.K B W ms fa σ H fun vs H1 => rBiO X.K g vs H1 Q := by
  obtain ⟨F, env, st, g0, q⟩ := h
  refine ⟨F, env, st, g0, q.bind.mono fun ps st1 F1 H1 s1 g1 q1 vs hvs => ?_⟩
  cases hz : g ps with
  | none => rw [hz] at q1; exact q1.elim
  | some z =>
    rw [hz] at q1
    exact ⟨F1, ps, g1.le, hvs.rhs hm, z, hz, fun a o hn ho => q1 F1 _ (Stp.alloc0 hn) (g1.alloc0 hn) a (none_of s1.there hn) (g1.fnone hn) ho⟩
variable {x : Str} {p : Pos} {g : List PV → Option PV}
theorem qe_bi {id : String} (hc : CallR X (.builtin id) (rBi X.K g)) (ha : QA X B W ms (e :: es) fa) (hm : X.mg x = none) (hv : bootBuiltins x = some (.builtin id) := by rfl) (hms : ms.any isMut = false := by rfl) (hg : Gl X x := by rfl) (hn : x ≠ "__name__" := by decide) (hdb : (x == ("__debug__" : Str)) = false := by decide)
    (he : starEach (e :: es) X.env = (false, eval e X.env) :: starEach es X.env := by rfl) (hpl : (backTo pos (starEach es X.env)).any (·.1) = false := by rfl) : QE X B W (.Call (.Name x p) (e :: es) [] pos) (biE g fa) :=
  ⟨pe_imp (pe_callB hc hg hm hv ha.pa hn hdb he hpl) fun σ H Q h => bi_post hms h⟩
theorem qo_bi {id : String} (hc : CallR X (.builtin id) (rBiO X.K g)) (ha : QA X B W ms (e :: es) fa) (hm : X.mg x = none) (hv : bootBuiltins x = some (.builtin id) := by rfl) (hms : ms.any isMut = false := by rfl) (hg : Gl X x := by rfl) (hn : x ≠ "__name__" := by decide) (hdb : (x == ("__debug__" : Str)) = false := by decide)
    (he : starEach (e :: es) X.env = (false, eval e X.env) :: starEach es X.env := by rfl) (hpl : (backTo pos (starEach es X.env)).any (·.1) = false := by rfl) : QO X B W (.Call (.Name x p) (e :: es) [] pos) (biE g fa) :=
  ⟨pe_imp (pe_callB hc hg hm hv ha.pa hn hdb he hpl) fun σ H Q h => bi_postO hms h⟩
theorem qe_ty {T : String} (hc : CallR X (.type T) (rBi X.K g)) (ha : QA X B W ms (e :: es) fa) (hm : X.mg x = none) (hv : bootBuiltins x = some (.type T) := by rfl) (hms : ms.any isMut = false := by rfl) (hg : Gl X x := by rfl) (hn : x ≠ "__name__" := by decide) (hdb : (x == ("__debug__" : Str)) = false := by decide)
    (he : starEach (e :: es) X.env = (false, eval e X.env) :: starEach es X.env := by rfl) (hpl : (backTo pos (starEach es X.env)).any (·.1) = false := by rfl) : QE X B W (.Call (.Name x p) (e :: es) [] pos) (biE g fa) :=
  ⟨pe_imp (pe_callTy hc hg hm hv ha.pa hn hdb he hpl) fun σ H Q h => bi_post hms h⟩
theorem qo_ty {T : String} (hc : CallR X (.type T) (rBiO X.K g)) (ha : QA X B W ms (e :: es) fa) (hm : X.mg x = none) (hv : bootBuiltins x = some (.type T) := by rfl) (hms : ms.any isMut = false := by rfl) (hg : Gl X x := by rfl) (hn : x ≠ "__name__" := by decide) (hdb : (x == ("__debug__" : Str)) = false := by decide)
    (he : starEach (e :: es) X.env = (false, eval e X.env) :: starEach es X.env := by rfl) (hpl : (backTo pos (starEach es X.env)).any (·.1) = false := by rfl) : QO X B W (.Call (.Name x p) (e :: es) [] pos) (biE g fa) :=
  ⟨pe_imp (pe_callTy hc hg hm hv ha.pa hn hdb he hpl) fun σ H Q h => bi_postO hms h⟩
end

/-! ### their pure readings -/
def lenP : List PV → Option PV
  | [.lst ps] => some (.int ps.length)
  | [.tup ps] => some (.int ps.length)
  | [.str x] => if x.length ≤ sizeLine then some (.int x.length) else none
  | [.dct ks _] => some (.int ks.length)
  | [.scr ns] => some (.int ns.length)
  | _ => none
def kP : Key → PV
  | .inl i => .int i
  | .inr s => .str s
def listP : List PV → Option PV
  | [.lst ps] => some (.lst ps)
  | [.tup ps] => some (.lst ps)
  | [.scr ns] => some (.lst (ns.map .int))
  | [.dct ks _] => some (.lst (ks.map kP))
  | _ => none
def tupleP : List PV → Option PV
  | [.lst ps] => some (.tup ps)
  | [.tup ps] => some (.tup ps)
  | [.scr ns] => some (.tup (ns.map .int))
  | _ => none
def intTyP : List PV → Option PV
  | [.int i] => some (.int i)
  | [.bl k] => some (.int (if k then 1 else 0))
  | _ => none
def minP : List PV → Option PV
  | [.int i, .int j] => some (.int (if j < i then j else i))
  | _ => none
def maxP : List PV → Option PV
  | [.int i, .int j] => some (.int (if j > i then j else i))
  | _ => none
def insI (a : Int) : List Int → List Int
  | [] => [a]
  | b :: r => if a ≤ b then a :: b :: r else b :: insI a r
def sortI : List Int → List Int
  | [] => []
  | a :: r => insI a (sortI r)
theorem insI_perm (a : Int) : ∀ l, (insI a l).Perm (a :: l)
  | [] => List.Perm.refl _
  | b :: r => by
    unfold insI
    split
    · exact List.Perm.refl _
    · exact ((insI_perm a r).cons b).trans (List.Perm.swap a b r)
theorem sortI_perm : ∀ l, (sortI l).Perm l
  | [] => List.Perm.refl _
  | a :: r => (insI_perm a _).trans ((sortI_perm r).cons a)
theorem insI_pw (a : Int) : ∀ l : List Int, l.Pairwise (· ≤ ·) → (insI a l).Pairwise (· ≤ ·)
  | [], _ => by unfold insI; simp
  | b :: r, h => by
    unfold insI
    rw [List.pairwise_cons] at h
    split
    · rename_i hab
      rw [List.pairwise_cons]
      refine ⟨fun x hx => ?_, List.pairwise_cons.mpr h⟩
      rcases List.mem_cons.mp hx with rfl | hx
      · exact hab
      · exact Int.le_trans hab (h.1 x hx)
    · rename_i hab
      rw [List.pairwise_cons]
      refine ⟨fun x hx => ?_, insI_pw a r h.2⟩
      rcases List.mem_cons.mp ((insI_perm a r).mem_iff.mp hx) with rfl | hx
      · omega
      · exact h.1 x hx
theorem sortI_pw : ∀ l : List Int, (sortI l).Pairwise (· ≤ ·)
  | [] => by unfold sortI; simp
  | a :: r => insI_pw a _ (sortI_pw r)
theorem pw_unique : ∀ (l m : List Int), l.Perm m → l.Pairwise (· ≤ ·) → m.Pairwise (· ≤ ·) → l = m
  | [], m, h, _, _ => (List.perm_nil.mp h.symm).symm
  | a :: l, m, h, hl, hm => by
    cases m with
    | nil => exact absurd (List.perm_nil.mp h) (by simp)
    | cons b m =>
      rw [List.pairwise_cons] at hl hm
      have e : a = b := by
        have h1 : a ∈ b :: m := h.mem_iff.mp List.mem_cons_self
        have h2 : b ∈ a :: l := h.mem_iff.mpr List.mem_cons_self
        rcases List.mem_cons.mp h1 with h1 | h1
        · exact h1
        · rcases List.mem_cons.mp h2 with h2 | h2
          · exact h2.symm
          · have := hl.1 b h2; have := hm.1 a h1; omega
      subst e
      rw [pw_unique l m ((List.perm_cons a).mp h) hl.2 hm.2]
def intsP : List PV → Option (List Int)
  | [] => some []
  | .int i :: ps => (intsP ps).map (i :: ·)
  | _ => none
theorem intsP_eq : ∀ {ps : List PV} {ns : List Int}, intsP ps = some ns → ps = ns.map .int
  | [], ns, h => by cases h; rfl
  | .int i :: ps, ns, h => by
    unfold intsP at h
    cases hp : intsP ps with
    | none => rw [hp] at h; cases h
    | some m => rw [hp] at h; cases h; rw [intsP_eq hp]; rfl
  | .non :: _, _, h => nomatch h
  | .bl _ :: _, _, h => nomatch h
  | .str _ :: _, _, h => nomatch h
  | .lst _ :: _, _, h => nomatch h
  | .tup _ :: _, _, h => nomatch h
  | .dct _ _ :: _, _, h => nomatch h
  | .ins _ _ _ :: _, _, h => nomatch h
  | .scr _ :: _, _, h => nomatch h
def sortedP : List PV → Option PV
  | [.lst ps] => (intsP ps).map fun ns => .lst ((sortI ns).map .int)
  | _ => none
section
variable {X : Cx}
theorem zipk_map {ks : List Key} {vs : List V} (h : ks.length = vs.length) : (ks.zip vs).map (fun kv => kV kv.1) = ks.map kV := by
  induction ks generalizing vs with
  | nil => rfl
  | cons k ks ih =>
    cases vs with
    | nil => cases h
    | cons v vs => rw [List.zip_cons_cons, List.map_cons, List.map_cons, ih (by simpa using h)]
theorem RepL.keys {K : Frag} {F : Hp} : ∀ {ks : List Key}, RepL K F (ks.map kP) (ks.map kV)
  | [] => rfl
  | k :: ks => ⟨_, _, rfl, by cases k <;> exact rfl, RepL.keys⟩
theorem rh1 {K : Frag} {F H : Hp} {p : PV} {xs : List V} (h : RHs K F H [p] xs) : ∃ v, xs = [v] ∧ RH K F H p v := by
  obtain ⟨v, r, rfl, h1, h2⟩ := h
  cases (show r = [] from h2)
  exact ⟨v, rfl, h1⟩
theorem rh2 {K : Frag} {F H : Hp} {p q : PV} {xs : List V} (h : RHs K F H [p, q] xs) : ∃ v w, xs = [v, w] ∧ RH K F H p v ∧ RH K F H q w := by
  obtain ⟨v, r, rfl, h1, h2⟩ := h
  obtain ⟨w, rfl, h3⟩ := rh1 h2
  exact ⟨v, w, rfl, h1, h3⟩
theorem cr_len : CallR X (.builtin "len") (rBi X.K lenP) := callr_imp (CallR.or call_len call_lenD) fun xs H Q ⟨F, ps, le, hr, z, hz, q⟩ => by
  unfold lenP at hz
  split at hz
  · obtain ⟨v, rfl, h⟩ := rh1 hr
    obtain ⟨a, vs, rfl, h1, h2⟩ := h.lst le
    cases hz
    exact .inl ⟨_, vs.length, rfl, .inl ⟨vs, .inl (.inl h1), rfl⟩, q _ F H (.inl ⟨rfl, rfl⟩) (by rw [h2.length]; exact rfl)⟩
  · obtain ⟨v, rfl, h⟩ := rh1 hr
    obtain ⟨a, vs, rfl, h1, h2⟩ := h.tup le
    cases hz
    exact .inl ⟨_, vs.length, rfl, .inr ⟨vs, h1, rfl⟩, q _ F H (.inl ⟨rfl, rfl⟩) (by rw [h2.length]; exact rfl)⟩
  · obtain ⟨v, rfl, h⟩ := rh1 hr
    obtain rfl := h.str
    split at hz
    · rename_i hl
      cases hz
      exact .inl ⟨_, _, rfl, ⟨hl, rfl⟩, q _ F H (.inl ⟨rfl, rfl⟩) rfl⟩
    · cases hz
  · obtain ⟨v, rfl, h⟩ := rh1 hr
    obtain ⟨a, vs, rfl, h1, h2, h3⟩ := h.dct le
    cases hz
    exact .inr ⟨a, _, rfl, h1, q _ F H (.inl ⟨rfl, rfl⟩) (by rw [List.length_zip, ← h2, Nat.min_self]; exact rfl)⟩
  · obtain ⟨v, rfl, h⟩ := rh1 hr
    obtain ⟨a, rfl, h1⟩ := h.scr le
    cases hz
    exact .inl ⟨_, _, rfl, .inl ⟨_, h1, rfl⟩, q _ F H (.inl ⟨rfl, rfl⟩) (by rw [List.length_map]; exact rfl)⟩
  · cases hz
theorem cr_list (hc : X.calm = true) : CallR X (.type "list") (rBiO X.K listP) := callr_imp (CallR.or call_list_of (call_listD hc)) fun xs H Q ⟨F, ps, le, hr, z, hz, q⟩ => by
  unfold listP at hz
  split at hz
  · obtain ⟨v, rfl, h⟩ := rh1 hr
    obtain ⟨a, vs, rfl, h1, h2⟩ := h.lst le
    cases hz
    exact .inl ⟨a, vs, rfl, .inl (.inl (.inl h1)), fun l hl => q l _ hl ⟨vs, upd_same, h2⟩⟩
  · obtain ⟨v, rfl, h⟩ := rh1 hr
    obtain ⟨a, vs, rfl, h1, h2⟩ := h.tup le
    cases hz
    exact .inl ⟨a, vs, rfl, .inr h1, fun l hl => q l _ hl ⟨vs, upd_same, h2⟩⟩
  · obtain ⟨v, rfl, h⟩ := rh1 hr
    obtain ⟨a, rfl, h1⟩ := h.scr le
    cases hz
    exact .inl ⟨a, _, rfl, .inl h1, fun l hl => q l _ hl ⟨_, upd_same, RepL.of_ints⟩⟩
  · obtain ⟨v, rfl, h⟩ := rh1 hr
    obtain ⟨a, vs, rfl, h1, h2, h3⟩ := h.dct le
    cases hz
    exact .inr ⟨a, _, rfl, .inl h1, fun l hl => q l _ hl ⟨_, upd_same, by rw [zipk_map h2]; exact RepL.keys⟩⟩
  · cases hz
theorem cr_tuple : CallR X (.type "tuple") (rBi X.K tupleP) := callr_imp call_tuple_of fun xs H Q ⟨F, ps, le, hr, z, hz, q⟩ => by
  have fn : ∀ {l : Addr}, H l = none → F l = none := fun {l} h => by
    cases e : F l with
    | none => rfl
    | some o => rw [le l o e] at h; cases h
  unfold tupleP at hz
  split at hz
  · obtain ⟨v, rfl, h⟩ := rh1 hr
    obtain ⟨a, vs, rfl, h1, h2⟩ := h.lst le
    cases hz
    exact ⟨a, vs, rfl, .inl ⟨.inl (.inl h1), fun l hl => q _ _ _ (.inr ⟨l, _, hl, rfl, rfl⟩) ⟨l, vs, rfl, .inl (.inl upd_same), RepL.mono (Same.upd_new (fn hl)) _ _ h2⟩⟩⟩
  · obtain ⟨v, rfl, h⟩ := rh1 hr
    have hF := h.tupF
    obtain ⟨a, vs, rfl, h1, h2⟩ := h.tup le
    cases hz
    exact ⟨a, vs, rfl, .inr ⟨h1, q _ F H (.inl ⟨rfl, rfl⟩) hF⟩⟩
  · obtain ⟨v, rfl, h⟩ := rh1 hr
    obtain ⟨a, rfl, h1⟩ := h.scr le
    cases hz
    exact ⟨a, _, rfl, .inl ⟨h1, fun l hl => q _ _ _ (.inr ⟨l, _, hl, rfl, rfl⟩) ⟨l, _, rfl, .inl (.inl upd_same), RepL.of_ints⟩⟩⟩
  · cases hz
theorem cr_int : CallR X (.type "int") (rBi X.K intTyP) := callr_imp call_int1 fun xs H Q ⟨F, ps, le, hr, z, hz, q⟩ => by
  unfold intTyP at hz
  split at hz
  · obtain ⟨v, rfl, h⟩ := rh1 hr
    obtain rfl := h.int
    cases hz
    exact .inl ⟨_, rfl, q _ F H (.inl ⟨rfl, rfl⟩) rfl⟩
  · obtain ⟨v, rfl, h⟩ := rh1 hr
    obtain rfl := h.bl
    cases hz
    exact .inr ⟨_, rfl, q _ F H (.inl ⟨rfl, rfl⟩) rfl⟩
  · cases hz
theorem cr_min2 (hc : X.calm = true) : CallR X (.builtin "min") (rBi X.K minP) := callr_imp (call_min2 hc) fun xs H Q ⟨F, ps, le, hr, z, hz, q⟩ => by
  unfold minP at hz
  split at hz
  · obtain ⟨v, w, rfl, h1, h2⟩ := rh2 hr
    obtain rfl := h1.int
    obtain rfl := h2.int
    cases hz
    exact ⟨_, _, rfl, q _ F H (.inl ⟨rfl, rfl⟩) rfl⟩
  · cases hz
theorem cr_max2 (hc : X.calm = true) : CallR X (.builtin "max") (rBi X.K maxP) := callr_imp (call_max2 hc) fun xs H Q ⟨F, ps, le, hr, z, hz, q⟩ => by
  unfold maxP at hz
  split at hz
  · obtain ⟨v, w, rfl, h1, h2⟩ := rh2 hr
    obtain rfl := h1.int
    obtain rfl := h2.int
    cases hz
    exact ⟨_, _, rfl, q _ F H (.inl ⟨rfl, rfl⟩) rfl⟩
  · cases hz
theorem cr_sortI : CallR X (.builtin "sorted") (rBiO X.K sortedP) := callr_imp cr_sortedI fun xs H Q ⟨F, ps, le, hr, z, hz, q⟩ => by
  unfold sortedP at hz
  split at hz
  · rename_i ps
    obtain ⟨v, rfl, h⟩ := rh1 hr
    obtain ⟨a, vs, rfl, h1, h2⟩ := h.lst le
    cases hi : intsP ps with
    | none => rw [hi] at hz; cases hz
    | some ns =>
      rw [hi] at hz; cases hz
      rw [intsP_eq hi] at h2
      rw [h2.ints] at h1
      refine ⟨a, ns, rfl, .inl (.inl h1), fun ns' p hp hs hn => ?_⟩
      rw [pw_unique ns' (sortI ns) (hp.trans (sortI_perm ns).symm) hs (sortI_pw ns)]
      exact q p _ hn ⟨_, upd_same, RepL.of_ints⟩
  · cases hz
end
end KI

/-! part KI12 -/
set_option Elab.async false
set_option linter.all false
set_option maxRecDepth 100000
set_option maxHeartbeats 4000000
namespace KI
open PySem PySem.Spec PyProof.Rows L2
open Sem (wp)
open AutoSeq1 (wpAny_loadPart')

/-! ## enumerate(tuple) -/
section
variable {prog : Program} {w : World} {A : Around} {E : Value → Shared → Prop} {s : Shared}
theorem wpAny_nextOf_tup_item {it l : Addr} {i : Nat} {items} {x : Value} {Q : Value → Shared → Prop} (hit : s.heap.IsTupleIter it l i)
    (hl : s.heap.IsTuple l items) (hx : items[i]? = some x)
    (hQ : ∀ h', h'.IsTupleIter it l (i + 1) → Heap.SameBut it s.heap h' → Q x { s with heap := h' }) :
    wpAny (model prog w) A (Builtin.SmallTypes.nextOf (.ref it)) Q E s := by
  obtain ⟨o, ho, hc, hd⟩ := id hit
  obtain ⟨ol, hol, _, nl, hdl⟩ := hl
  unfold Builtin.SmallTypes.nextOf
  refine wpAny_bind (wpAny_callSpecial?_slot (name := Str.ofString "__next__") hit.typeIs F.slot_tuple_iterator_next
    (wpAny_call_entry F.slot_tuple_iterator_next hit.typeIs F.entry_tuple_iterator_next ?_ (F.args_tuple_iterator_next_1 _)))
  show wpAny _ _ (field (.ref it) 0 >>= _) _ _ s
  refine wpAny_bind (wpAny_field ho hd (x := .ref l) rfl ?_)
  show wpAny _ _ (if (Value.ref l == Value.none) = true then _ else _) _ _ s
  rw [if_neg (show ¬ ((Value.ref l == Value.none) = true) from Bool.false_ne_true)]
  show wpAny _ _ (field (.ref it) 1 >>= _) _ _ s
  refine wpAny_bind (wpAny_field ho hd (x := .int i 0) rfl ?_)
  show wpAny _ _ (seqItems? (.ref l) >>= _) _ _ s
  refine wpAny_bind (wpAny_seqItems hol hdl ?_)
  simp only [Int.toNat_natCast, hx]
  refine wpAny_bind (wpAny_setField ho hd (by simp) (wpAny_pure ⟨x, rfl, wpAny_pure (hQ _ ?_ (Heap.SameBut.update ..))⟩))
  exact ⟨_, Heap.get?_update_self _ ho (Obj.isFreed_of_fields (Obj.data_mapFields hd _)), (Obj.cls_mapFields ..).trans hc, by
    rw [Obj.data_mapFields hd]; simp [rawInt]⟩

theorem wpAny_nextOf_tup_end {it l : Addr} {i : Nat} {items} {Q : Value → Shared → Prop} (hh : A.handled = none)
    (hit : s.heap.IsTupleIter it l i) (hl : s.heap.IsTuple l items) (hx : items[i]? = none)
    (hE : ∀ h' e, Heap.ExtBut it s.heap h' → (∃ o, h'.get? e = some o ∧ o.cls = .type "StopIteration") → E (.ref e) { s with heap := h' }) :
    wpAny (model prog w) A (Builtin.SmallTypes.nextOf (.ref it)) Q E s := by
  obtain ⟨o, ho, hc, hd⟩ := id hit
  obtain ⟨ol, hol, _, nl, hdl⟩ := hl
  unfold Builtin.SmallTypes.nextOf
  refine wpAny_bind (wpAny_callSpecial?_slot (name := Str.ofString "__next__") hit.typeIs F.slot_tuple_iterator_next
    (wpAny_call_entry F.slot_tuple_iterator_next hit.typeIs F.entry_tuple_iterator_next ?_ (F.args_tuple_iterator_next_1 _)))
  show wpAny _ _ (field (.ref it) 0 >>= _) _ _ s
  refine wpAny_bind (wpAny_field ho hd (x := .ref l) rfl ?_)
  show wpAny _ _ (if (Value.ref l == Value.none) = true then _ else _) _ _ s
  rw [if_neg (show ¬ ((Value.ref l == Value.none) = true) from Bool.false_ne_true)]
  show wpAny _ _ (field (.ref it) 1 >>= _) _ _ s
  refine wpAny_bind (wpAny_field ho hd (x := .int i 0) rfl ?_)
  show wpAny _ _ (seqItems? (.ref l) >>= _) _ _ s
  refine wpAny_bind (wpAny_seqItems hol hdl ?_)
  simp only [Int.toNat_natCast, hx]
  refine wpAny_bind (wpAny_rule (wpAny_bind (wpAny_setField ho hd (by simp) ?_)))
  show wpAny _ _ (newExc (.type "StopIteration") [] >>= _) _ _ _
  refine wpAny_bind ?_
  simp only [newExc, newTuple]
  refine wpAny_bind (wpAny_newObj_type ?_ (by size_fits))
  refine wpAny_bind (m := firstArgMember _ _) (wpAny_of_eq (a := Value.none) (by first | rfl | (simp only [firstArgMember]; rfl)) ?_)
  refine wpAny_newObj_type ?_ (by size_fits)
  simp only [raiseNew]
  refine wpAny_bind (wpAny_handled ?_)
  first | rw [show A.in1.handled = none from hh] | rw [hh]
  refine wpAny_bind (wpAny_pure (wpAny_throw ?_))
  exact hE _ _ (((Heap.SameBut.update ..).extBut.push _).push _) ⟨_, Heap.get?_push_size _ rfl, rfl⟩

end
theorem Draws.tup {prog : Program} {w : World} {A : Around} (hh : A.handled = none) (it l : Addr) (hne : l ≠ it) (items : Array Value) :
    Draws prog w A it [it, l] items.size (fun i v => items[i]? = some v) (fun i h => h.IsTupleIter it l i ∧ h.IsTuple l items) where
  live := fun _ _ st => let ⟨o, ho, _⟩ := st.1; ⟨o, ho⟩
  frame := fun _ _ _ st hk => ⟨st.1.at fun o e => hk it (by simp) o e, st.2.at fun o e => hk l (by simp) o e⟩
  item := fun i s Q E hi st hQ => by
    refine wpAny_nextOf_tup_item st.1 st.2 (x := items[i]) (by simp [hi]) fun h' hit' hs' => ?_
    exact hQ _ h' s.toks (by simp [hi]) ⟨hit', st.2.extBut hs'.extBut hne⟩ hs'
  done := fun s Q E st hE => wpAny_nextOf_tup_end hh st.1 st.2 (by simp) hE
theorem meets_enumerate_newTup (l : Addr) (items : Array Value) (n : Nat) (dct : Option Addr) (sl : Array (Option Value)) :
    Meets (Builtin.«enumerate.__new__» ⟨[.type "enumerate", .ref l], []⟩) (fun _ R s => s.heap.get? l = some { cls := .type "tuple", dict := dct, data := .seq items n, slots := sl } ∧
      R (.ok (.ret (.ref (s.heap.push { cls := .type "tuple_iterator", data := .fields #[.ref l, .int 0 0] }).objs.size)))
        { s with heap := (s.heap.push { cls := .type "tuple_iterator", data := .fields #[.ref l, .int 0 0] }).push { cls := .type "enumerate", data := .fields #[.none, .bool false, .ref s.heap.objs.size, rawInt 0, .none, .none] } }) :=
  .of_wp fun prog w A R s h => by
    obtain ⟨hp, g, d, tk, os⟩ := s; obtain ⟨hl, h⟩ := h
    have hsub := sub_enumerate
    have hL : Heap.IsTuple (Shared.heap ⟨hp, g, d, tk, os⟩) l items := ⟨_, hl, rfl, n, rfl⟩
    wp_walk using wpAny_loadPart' hl
    refine wpAny_stack_any fun st => wpAny_pure ?_
    split
    · rename_i c _ _ _ _ _
      cases (c == Value.type "enumerate")
      · wp_walk using wpAny_loadPart' hl, wpAny_pyIter_tuple hL
        exact ⟨_, rfl, h⟩
      · wp_walk using wpAny_loadPart' hl, wpAny_pyIter_tuple hL
        exact ⟨_, rfl, h⟩
    · wp_walk using wpAny_loadPart' hl, wpAny_pyIter_tuple hL
      exact ⟨_, rfl, h⟩

section
variable {prog : Program} {w : World} {A : Around} {E : Value → Shared → Prop} {s : Shared}
theorem call_enumerate_tup {l : Addr} {items : Array Value} {Q : Value → Shared → Prop} (hL : s.heap.IsTuple l items)
    (h : ∀ h', IsEnum h' (s.heap.objs.size + 1) s.heap.objs.size 0 .none → h'.IsTupleIter s.heap.objs.size l 0 → h'.objs.size = s.heap.objs.size + 2 →
      (∀ b o, s.heap.get? b = some o → h'.get? b = some o) → Q (.ref (s.heap.objs.size + 1)) { s with heap := h' }) :
    wpAny (model prog w) A (call (.type "enumerate") [.ref l]) Q E s := by
  obtain ⟨⟨c, dct, dt, sl⟩, hl, hc, n, hd⟩ := hL
  replace hc : c = .type "tuple" := hc
  replace hd : dt = .seq items n := hd
  subst hc hd
  refine callType_new F.called_enumerate (by decide) (F.typeCall_enumerate_1 _) (F.newCall_enumerate_1 _) (fun obj => F.args_object_init_2 obj _) F.entry_enumerate_new
    (meets_enumerate_newTup l items n dct sl) ⟨hl, ?_⟩
  have hz : (s.heap.push { cls := .type "tuple_iterator", data := .fields #[.ref l, .int 0 0] }).objs.size = s.heap.objs.size + 1 := Heap.size_push ..
  show _ ∧ _
  rw [hz]
  have he : IsEnum ((s.heap.push { cls := .type "tuple_iterator", data := .fields #[.ref l, .int 0 0] }).push
      { cls := .type "enumerate", data := .fields #[.none, .bool false, .ref s.heap.objs.size, rawInt 0, .none, .none] }) (s.heap.objs.size + 1) s.heap.objs.size 0 .none := by
    have := Heap.get?_push_size (s.heap.push { cls := .type "tuple_iterator", data := .fields #[.ref l, .int 0 0] })
      (o := { cls := .type "enumerate", data := .fields #[.none, .bool false, .ref s.heap.objs.size, rawInt 0, .none, .none] }) rfl
    rw [hz] at this; exact this
  refine ⟨⟨_, he, rfl⟩, h _ he ⟨_, Heap.get?_push_of_some _ (Heap.get?_push_size _ rfl), rfl, rfl⟩ (by rw [Heap.size_push, hz]) fun b o x => Heap.get?_push_of_some _ (Heap.get?_push_of_some _ x)⟩

end
def IteT (K : PySem.W.Frag) (a : Addr) : It :=
  ⟨fun i H => ∃ (xs : List V) (x : V), SqT K H a xs ∧ xs[i]? = some x, fun i H v H' => ∃ T x, v = .ref T ∧ H T = none ∧ H' = upd H T (.tup [.int (i : Nat), x]) ∧ ∀ xs, SqT K H a xs → xs[i]? = some x, fun i H => ∃ xs : List V, SqT K H a xs ∧ xs.length = i⟩
theorem turn_enumT {P : Program} {w : World} {K : PySem.W.Frag} {elts : List Expr} {kk : Nat} {tpos : Pos} (a e it : Addr) :
    Turn P w K (.Tuple elts kk tpos) (IteT K a) [e, it] e (fun i h => (∃ old, IsEnum h e it ((i : Nat) : Int) old) ∧ h.IsTupleIter it a i ∧ e ≠ it) where
  mem := by simp
  obj := fun i h st b hb => by
    obtain ⟨⟨old, he⟩, ⟨o, ho, hc, hd⟩, _⟩ := st
    have e' : b = e ∨ b = it := by simpa using hb
    rcases e' with z | z
    · rw [z]; exact ⟨_, he, fun v q => nomatch q⟩
    · rw [z]; exact ⟨o, ho, fun v q => by rw [hd] at q; cases q⟩
  keep := fun i h h' st k => let ⟨⟨old, he⟩, hi, hne⟩ := st; ⟨⟨old, k e (by simp) _ he⟩, hi.at fun o q => k it (by simp) o q, hne⟩
  item := by
    intro X hP hw hK hc i pins s σ H E I hf st hg
    subst hP hw hK
    obtain ⟨⟨old, he⟩, hit, hne⟩ := st
    obtain ⟨xs, x, hq, hx⟩ := hg
    obtain ⟨its, rv, p, hz⟩ := I.tuple hq
    obtain ⟨u, hu, ru⟩ := rv.get hx
    have hel : e < s.heap.objs.size := Heap.lt_size he
    have hil : it < s.heap.objs.size := by obtain ⟨_, q, _⟩ := hit; exact Heap.lt_size q
    have ai : a ≠ it := fun z => by
      obtain ⟨o, h1, h2, _⟩ := hit
      obtain ⟨o', h3, h4, _⟩ := p
      rw [z, h1] at h3; cases h3; rw [h2] at h4; exact absurd (Value.type.inj h4) (by decide)
    have ae : e ∉ [it, a] := fun z => by
      rcases List.mem_cons.mp z with z | z
      · exact hne z
      · obtain ⟨o', h3, h4, _⟩ := p
        rw [← List.mem_singleton.mp z, he] at h3; cases h3; exact absurd (Value.type.inj h4) (by decide)
    have hlt : i < its.toArray.size := by
      obtain ⟨q, _⟩ := List.getElem?_eq_some_iff.mp hu
      simpa using q
    refine wpAny_pyNext_enum_itemD (n := its.toArray.size) (Draws.tup (A := X.A.in1) (I.ok.hd hc) it a ai its.toArray) he ⟨hit, p⟩ hlt hne ae fun u' h' tk hu' ho ⟨hit', _⟩ hT hsz hk => ?_
    obtain rfl : u' = u := by
      have h1 : its[i]? = some u' := by simpa using hu'
      rw [hu] at h1; cases h1; rfl
    refine ⟨_, rfl, wpAny_letOwnedTupleGo_enum (s := { s with heap := h', toks := tk + 1 }) ho fun h'' he' sb => ?_⟩
    have hT2 : h''.get? s.heap.objs.size = some { cls := .type "tuple", data := .seq #[.int i tk, u'] } := (sb.2 _ (Nat.ne_of_gt hel)).trans hT
    have new : ObjOk X.prog X.w (upd H s.heap.objs.size (.tup [.int (i : Nat), x])) h'' s.heap.objs.size (.tup [.int (i : Nat), x]) :=
      ⟨by show 2 ≤ sizeLine; decide, [.int i tk, u'], .cons ⟨_, rfl⟩ (.cons ru .nil), ⟨_, hT2, rfl, _, rfl⟩⟩
    have I1 : Inv X pins σ (upd H s.heap.objs.size (.tup [.int (i : Nat), x])) { s with heap := h'', toks := tk + 1 } :=
      I.turnedNew (ch := [e, it]) (fun b ob hb q => (sb.2 b (fun z => hb (by simp [z]))).trans (hk b ob (fun z => hb (by simp [z])) (fun z => hb (by simp [z])) q)) hf (Nat.le_refl _) new
    refine ⟨.ref s.heap.objs.size, _, I1, rfl, ⟨_, x, rfl, I.hok.fresh (Nat.le_refl _), rfl, fun ys hy => by rw [I.tuple_inj hy hq]; exact hx⟩, ⟨⟨u', ?_⟩, hit'.at fun o q => (sb.2 it (Ne.symm hne)).trans q, hne⟩, fun b hb => ?_⟩
    · have e1 : ((i + 1 : Nat) : Int) = (i : Int) + 1 := by omega
      rw [e1]; exact he'
    · have hb' : b < s.heap.objs.size := by
        have e' : b = e ∨ b = it := by simpa using hb
        rcases e' with z | z
        · rw [z]; exact hel
        · rw [z]; exact hil
      rw [upd_ne (Nat.ne_of_lt hb')]
      exact (hf b hb).1
  done := by
    intro X hP hw hK hc i pins s σ H E I hf st hg
    subst hP hw hK
    obtain ⟨⟨old, he⟩, hit, hne⟩ := st
    obtain ⟨xs, hq, hx⟩ := hg
    obtain ⟨its, rv, p, hz⟩ := I.tuple hq
    obtain ⟨f0, f1, f2, f3, f4, f5⟩ := hf it (by simp)
    have hl := rv.length
    have ai : a ≠ it := fun z => by
      obtain ⟨o, h1, h2, _⟩ := hit
      obtain ⟨o', h3, h4, _⟩ := p
      rw [z, h1] at h3; cases h3; rw [h2] at h4; exact absurd (Value.type.inj h4) (by decide)
    have hil : i = its.toArray.size := by rw [List.size_toArray, ← hl]; exact hx.symm
    subst hil
    exact wpAny_pyNext_enum_endD (Draws.tup (A := X.A.in1) (I.ok.hd hc) it a ai its.toArray) he ⟨hit, p⟩ fun h' eb => ⟨rfl, I.turned (t' := s.toks) (fun b o hb q => eb b o hb q) f0 f1 f3 f4 f5⟩
  self := fun A i s Q E st h => let ⟨⟨_, he⟩, _⟩ := st; wpAny_pyIter_enum he h

/-! ## enumerate(text) -/
theorem Draws.strU {prog : Program} {w : World} {A : Around} (hh : A.handled = none) (it : Addr) (x : Str) (t : Tok) :
    Draws prog w A it [it] x.cps.size (fun i v => ∃ c u, x.cps[i]? = some c ∧ v = .str ⟨#[c]⟩ u) (fun i h => h.IsStrIter it (strIterType x) x t i) := by
  unfold strIterType
  split
  · exact Draws.strAscii hh it x t
  · exact Draws.strWide hh it x t
def IteS (x : Str) : It :=
  ⟨fun i _ => i < x.cps.size, fun i H v H' => ∃ T c, v = .ref T ∧ H T = none ∧ H' = upd H T (.tup [.int (i : Nat), .str ⟨#[c]⟩]) ∧ x.cps[i]? = some c, fun i _ => i = x.cps.size⟩
theorem turn_enumS {P : Program} {w : World} {K : PySem.W.Frag} {elts : List Expr} {kk : Nat} {tpos : Pos} (x : Str) (t : Tok) (e it : Addr) :
    Turn P w K (.Tuple elts kk tpos) (IteS x) [e, it] e (fun i h => (∃ old, IsEnum h e it ((i : Nat) : Int) old) ∧ h.IsStrIter it (strIterType x) x t i ∧ e ≠ it) where
  mem := by simp
  obj := fun i h st b hb => by
    obtain ⟨⟨old, he⟩, ⟨o, ho, hc, hd⟩, _⟩ := st
    have e' : b = e ∨ b = it := by simpa using hb
    rcases e' with z | z
    · rw [z]; exact ⟨_, he, fun v q => nomatch q⟩
    · rw [z]; exact ⟨o, ho, fun v q => by rw [hd] at q; cases q⟩
  keep := fun i h h' st k => let ⟨⟨old, he⟩, ⟨o, ho, r⟩, hne⟩ := st; ⟨⟨old, k e (by simp) _ he⟩, ⟨o, k it (by simp) _ ho, r⟩, hne⟩
  item := by
    intro X hP hw hK hc i pins s σ H E I hf st hg
    subst hP hw hK
    obtain ⟨⟨old, he⟩, hit, hne⟩ := st
    have hel : e < s.heap.objs.size := Heap.lt_size he
    have hil : it < s.heap.objs.size := by obtain ⟨_, q, _⟩ := hit; exact Heap.lt_size q
    have ae : e ∉ [it] := fun z => hne (List.mem_singleton.mp z)
    refine wpAny_pyNext_enum_itemD (Draws.strU (A := X.A.in1) (I.ok.hd hc) it x t) he hit hg hne ae fun u' h' tk ⟨c, tc, hcx, hu'⟩ ho hit' hT hsz hk => ?_
    subst hu'
    refine ⟨_, rfl, wpAny_letOwnedTupleGo_enum (s := { s with heap := h', toks := tk + 1 }) ho fun h'' he' sb => ?_⟩
    have hT2 : h''.get? s.heap.objs.size = some { cls := .type "tuple", data := .seq #[.int i tk, .str ⟨#[c]⟩ tc] } := (sb.2 _ (Nat.ne_of_gt hel)).trans hT
    have new : ObjOk X.prog X.w (upd H s.heap.objs.size (.tup [.int (i : Nat), .str ⟨#[c]⟩])) h'' s.heap.objs.size (.tup [.int (i : Nat), .str ⟨#[c]⟩]) :=
      ⟨by show 2 ≤ sizeLine; decide, [.int i tk, .str ⟨#[c]⟩ tc], .cons ⟨_, rfl⟩ (.cons ⟨_, rfl⟩ .nil), ⟨_, hT2, rfl, _, rfl⟩⟩
    have I1 : Inv X pins σ (upd H s.heap.objs.size (.tup [.int (i : Nat), .str ⟨#[c]⟩])) { s with heap := h'', toks := tk + 1 } :=
      I.turnedNew (ch := [e, it]) (fun b ob hb q => (sb.2 b (fun z => hb (by simp [z]))).trans (hk b ob (fun z => hb (by simp [z])) (fun z => hb (by simp [z])) q)) hf (Nat.le_refl _) new
    refine ⟨.ref s.heap.objs.size, _, I1, rfl, ⟨_, c, rfl, I.hok.fresh (Nat.le_refl _), rfl, hcx⟩, ⟨⟨.str ⟨#[c]⟩ tc, ?_⟩, (let ⟨o, ho, r⟩ := hit'; ⟨o, (sb.2 it (Ne.symm hne)).trans ho, r⟩), hne⟩, fun b hb => ?_⟩
    · have e1 : ((i + 1 : Nat) : Int) = (i : Int) + 1 := by omega
      rw [e1]; exact he'
    · have hb' : b < s.heap.objs.size := by
        have e' : b = e ∨ b = it := by simpa using hb
        rcases e' with z | z
        · rw [z]; exact hel
        · rw [z]; exact hil
      rw [upd_ne (Nat.ne_of_lt hb')]
      exact (hf b hb).1
  done := by
    intro X hP hw hK hc i pins s σ H E I hf st hg
    subst hP hw hK
    obtain ⟨⟨old, he⟩, hit, hne⟩ := st
    obtain ⟨f0, f1, f2, f3, f4, f5⟩ := hf it (by simp)
    have hil : i = x.cps.size := hg
    subst hil
    exact wpAny_pyNext_enum_endD (Draws.strU (A := X.A.in1) (I.ok.hd hc) it x t) he hit fun h' eb => ⟨rfl, I.turned (t' := s.toks) (fun b o hb q => eb b o hb q) f0 f1 f3 f4 f5⟩
  self := fun A i s Q E st h => let ⟨⟨_, he⟩, _⟩ := st; wpAny_pyIter_enum he h
/-- enumerate(x): a list, a tuple, a text -/
def iEnumA (K : PySem.W.Frag) (ta : TA) : TI := fun σ H R => ta σ H fun vs H1 => (∃ a xs, vs = [.ref a] ∧ SqL K H1 a xs ∧ R (Ite K a) H1) ∨ (∃ a xs, vs = [.ref a] ∧ SqT K H1 a xs ∧ R (IteT K a) H1) ∨ ∃ x, vs = [.str x] ∧ R (IteS x) H1
theorem pi_enumA {X : Cx} {e : Expr} {ta : TA} {p pos tpos : Pos} {elts : List Expr} {kk : Nat} (hg : Gl X "enumerate") (hm : X.mg "enumerate" = none) (ha : PA X [e] ta) (hs : starEach [e] X.env = [(false, eval e X.env)] := by rfl) :
    PI X (.Tuple elts kk tpos) (.Call (.Name "enumerate" p) [e] [] pos) (iEnumA X.K ta) := by
  refine ⟨fun pins s σ H R I h => ?_⟩
  refine Call_ (ld_blt I hg hm boot_enumerate (PyProof.Rows.callWith_type1 (thn (ha.run pos pins s σ H _ I h) fun us s1 ⟨vs, H1, I1, r1, q1⟩ => ?_) hs rfl))
  have fin : ∀ b ∈ [s1.heap.objs.size + 1, s1.heap.objs.size], FpOk X pins H1 b := fun b hb => by
    have e' : b = s1.heap.objs.size + 1 ∨ b = s1.heap.objs.size := by simpa using hb
    have hle : s1.heap.objs.size ≤ b := by
      rcases e' with z | z
      · rw [z]; exact Nat.le_add_right _ _
      · rw [z]; exact Nat.le_refl _
    exact I1.fpOk hle (I1.hok.fresh hle)
  rcases q1 with ⟨a, xs, ex, hq, q⟩ | ⟨a, xs, ex, hq, q⟩ | ⟨x, ex, q⟩
  · subst ex
    cases r1 with
    | cons r rr =>
      cases rr
      cases r
      obtain ⟨its, rv, p', hz⟩ := I1.list hq
      refine call_enumerate_list p'.isList fun h' he hit hsz hk => wpAny_pyIter_enum he ?_
      exact ⟨s1.heap.objs.size + 1, [s1.heap.objs.size + 1, s1.heap.objs.size], _, _, H1, rfl, I1.kept (t' := s1.toks) hk, turn_enum a (s1.heap.objs.size + 1) s1.heap.objs.size, ⟨⟨.none, he⟩, hit, Nat.succ_ne_self _⟩, fin, q⟩
  · subst ex
    cases r1 with
    | cons r rr =>
      cases rr
      cases r
      obtain ⟨its, rv, p', hz⟩ := I1.tuple hq
      refine call_enumerate_tup p' fun h' he hit hsz hk => wpAny_pyIter_enum he ?_
      exact ⟨s1.heap.objs.size + 1, [s1.heap.objs.size + 1, s1.heap.objs.size], _, _, H1, rfl, I1.kept (t' := s1.toks) hk, turn_enumT a (s1.heap.objs.size + 1) s1.heap.objs.size, ⟨⟨.none, he⟩, hit, Nat.succ_ne_self _⟩, fin, q⟩
  · subst ex
    cases r1 with
    | cons r rr =>
      cases rr
      obtain ⟨t, rfl⟩ := r
      refine call_enumerate_str fun h' he hit hsz hk => wpAny_pyIter_enum he ?_
      exact ⟨s1.heap.objs.size + 1, [s1.heap.objs.size + 1, s1.heap.objs.size], _, _, H1, rfl, I1.kept (t' := s1.toks) hk, turn_enumS x t (s1.heap.objs.size + 1) s1.heap.objs.size, ⟨⟨.none, he⟩, hit, Nat.succ_ne_self _⟩, fin, q⟩
end KI

/-! part KI13 -/
set_option Elab.async false
set_option linter.all false
set_option maxRecDepth 100000
set_option maxHeartbeats 4000000
namespace KI
open PySem PySem.Spec PyProof.Rows L2

/-! ## what for walks over -/
def iSeq (K : Frag) (te : TE) : TI := fun σ H R => te σ H fun v H1 => (∃ a, v = .ref a ∧ (∃ xs, SqL K H1 a xs) ∧ R (Itl K a) H1) ∨ (∃ a, v = .ref a ∧ (∃ xs, SqT K H1 a xs) ∧ R (Itt K a) H1) ∨ ∃ x, v = .str x ∧ R (Its x) H1
theorem pi_seq {X : Cx} {tg e : Expr} {te : TE} (he : PE X e te) : PI X tg e (iSeq X.K te) := by
  refine ⟨fun pins s σ H R I h => thn (he.run pins s σ H _ I h) fun v s1 ⟨y, H1, I1, r1, q1⟩ => ?_⟩
  have fin : ∀ b ∈ [s1.heap.objs.size], FpOk X pins H1 b := fun b hb => by
    have e : b = s1.heap.objs.size := by simpa using hb
    subst e
    exact I1.fpOk (Nat.le_refl _) (I1.hok.fresh (Nat.le_refl _))
  rcases q1 with ⟨a, e, ⟨xs, hq⟩, q⟩ | ⟨a, e, ⟨xs, hq⟩, q⟩ | ⟨x, e, q⟩
  · subst e
    cases r1
    obtain ⟨its, rv, p, hz⟩ := I1.list hq
    exact wpAny_pyIter_list p.isList ⟨s1.heap.objs.size, [s1.heap.objs.size], _, _, H1, rfl, I1.kept (t' := s1.toks) fun b o e => Heap.get?_push_of_some _ e, turn_list a _, ⟨_, Heap.get?_push_size _ rfl, rfl, rfl⟩, fin, q⟩
  · subst e
    cases r1
    obtain ⟨its, rv, p, hz⟩ := I1.tuple hq
    exact wpAny_pyIter_tuple (show s1.heap.IsTuple a its.toArray from p) ⟨s1.heap.objs.size, [s1.heap.objs.size], _, _, H1, rfl, I1.kept (t' := s1.toks) fun b o e => Heap.get?_push_of_some _ e, turn_tuple a _, ⟨_, Heap.get?_push_size _ rfl, rfl, rfl⟩, fin, q⟩
  · subst e
    obtain ⟨t, rfl⟩ := r1
    cases ha : x.cps.all (· < 128)
    · exact wpAny_pyIter_wide ha (pi_one (tk := s1.toks) I1 _ (turn_str _ x t "str_iterator" (.inr rfl)) ⟨_, Heap.get?_push_size _ rfl, rfl, rfl⟩ q)
    · exact wpAny_pyIter_ascii ha (pi_one (tk := s1.toks) I1 _ (turn_str _ x t "str_ascii_iterator" (.inl rfl)) ⟨_, Heap.get?_push_size _ rfl, rfl, rfl⟩ q)
def chrs (x : Str) : List PV := x.cps.toList.map fun c => .str ⟨#[c]⟩
def seqP : PV → Option (List PV)
  | .lst ps => some ps
  | .tup ps => some ps
  | .scr ns => some (ns.map .int)
  | .str x => some (chrs x)
  | _ => none
def seqA (f : EF) : AF := fun env st => (f env st).bind fun p st1 => match seqP p with
  | some ps => .ok ps st1
  | none => .stuck
theorem getI {ns : List Int} {i : Nat} {x : V} (h : (ns.map V.int)[i]? = some x) : ∃ n, ns[i]? = some n ∧ x = .int n := by
  rw [List.getElem?_map] at h
  cases z : ns[i]? with
  | none => rw [z] at h; cases h
  | some n => rw [z] at h; cases h; exact ⟨n, rfl, rfl⟩
section
variable {K : Frag} {F : Hp} {ps : List PV} {vs : List V} {a : Addr}
theorem walkL (h : F a = some (.lst vs)) (r : RepL K F ps vs) : WalkP K (Itl K a) F ps := by
  have hl : ps.length = vs.length := r.length
  unfold WalkP
  rw [hl]
  exact (walk_list (K := K) (a := a) (xs := vs)).mono (fun H s => .inl (.inl (s _ _ h))) fun i H x H' hi s y F' s1 s2 => by
    obtain ⟨rfl, e⟩ := y
    obtain ⟨p, hp, rp⟩ := r.getV e
    exact ⟨p, F', hp, Rep.mono s1 _ _ rp, .inl ⟨rfl, rfl⟩⟩
theorem walkT (h : SqT K F a vs) (r : RepL K F ps vs) : WalkP K (Itt K a) F ps := by
  have hl : ps.length = vs.length := r.length
  unfold WalkP
  rw [hl]
  exact (walk_tup (K := K) (a := a) (xs := vs)).mono (fun H s => sqT_mono s h) fun i H x H' hi s y F' s1 s2 => by
    obtain ⟨rfl, e⟩ := y
    obtain ⟨p, hp, rp⟩ := r.getV e
    exact ⟨p, F', hp, Rep.mono s1 _ _ rp, .inl ⟨rfl, rfl⟩⟩
theorem walkI {ns : List Int} (h : SqL K F a (ns.map V.int)) : WalkP K (Itl K a) F (ns.map .int) := by
  have hl : (ns.map PV.int).length = (ns.map V.int).length := by simp
  unfold WalkP
  rw [hl]
  exact (walk_list (K := K) (a := a) (xs := ns.map V.int)).mono (fun H s => s.seq h) fun i H x H' hi s y F' s1 s2 => by
    obtain ⟨rfl, e⟩ := y
    obtain ⟨n, hn, rfl⟩ := getI e
    exact ⟨.int n, F', by simp [hn], rfl, .inl ⟨rfl, rfl⟩⟩
theorem walkS {x : Str} : WalkP K (Its x) F (chrs x) := by
  have hl : (chrs x).length = x.cps.size := by simp [chrs]
  unfold WalkP
  rw [hl]
  exact (walk_str (z := x)).mono (fun H s => trivial) fun i H v H' hi s y F' s1 s2 => by
    obtain ⟨rfl, c, hc, rfl⟩ := y
    exact ⟨.str ⟨#[c]⟩, F', by simp [chrs, hc], rfl, .inl ⟨rfl, rfl⟩⟩
end
theorem qi_seq {X : Cx} {B : Bs} {W : WX} {tg e : Expr} {f : EF} (h : QE X B W e f) : QI X B W tg e (seqA f) :=
  ⟨⟨fun pins s σ H R I ⟨F, env, st, g, q⟩ => (pi_seq h.pe).run pins s σ H R I ⟨F, env, st, g, q.bind.mono fun p st1 F1 H1 s1 g1 q1 v rv => by
    cases p with
    | lst ps =>
      obtain ⟨a, vs, rfl, h1, h2⟩ := rv
      exact .inl ⟨a, rfl, ⟨vs, .inl (.inl (g1.le _ _ h1))⟩, q1 F1 H1 Stp.refl g1 _ (walkL h1 h2)⟩
    | tup ps =>
      obtain ⟨a, vs, rfl, h1, h2⟩ := rv
      exact .inr (.inl ⟨a, rfl, ⟨vs, sqT_mono g1.le h1⟩, q1 F1 H1 Stp.refl g1 _ (walkT h1 h2)⟩)
    | scr ns =>
      obtain ⟨a, rfl, h1⟩ := rv
      exact .inl ⟨a, rfl, ⟨_, g1.le.seq h1⟩, q1 F1 H1 Stp.refl g1 _ (walkI h1)⟩
    | str x =>
      obtain rfl : v = .str x := rv
      exact .inr (.inr ⟨x, rfl, q1 F1 H1 Stp.refl g1 _ walkS⟩)
    | _ => exact q1.elim⟩⟩⟩
/-- range -/
def rng (lo hi : Int) : List PV := (List.range (hi - lo).toNat).map fun i => .int (lo + (i : Nat))
def rngP : List PV → Option (List PV)
  | [.int j] => if -(2 ^ 62) ≤ j ∧ j < 2 ^ 62 then some (rng 0 j) else none
  | [.int i, .int j] => if -(2 ^ 62) ≤ i ∧ i < 2 ^ 62 ∧ -(2 ^ 62) ≤ j ∧ j < 2 ^ 62 then some (rng i j) else none
  | _ => none
def rngA (fa : AF) : AF := fun env st => (fa env st).bind fun ps st1 => match rngP ps with
  | some qs => .ok qs st1
  | none => .stuck
theorem walkR {K : Frag} {F : Hp} {lo hi : Int} : WalkP K (Itr lo (hi - lo).toNat) F (rng lo hi) := by
  have hl : (rng lo hi).length = (hi - lo).toNat := by simp [rng]
  unfold WalkP
  rw [hl]
  exact (walk_range (lo := lo) (n := (hi - lo).toNat)).mono (fun H s => trivial) fun i H v H' hi' s y F' s1 s2 => by
    obtain ⟨rfl, rfl⟩ := y
    exact ⟨.int (lo + (i : Nat)), F', by simp [rng, hi'], rfl, .inl ⟨rfl, rfl⟩⟩
theorem CArgs.one {K : Frag} {F H : Hp} {env : SEnv} {σ : Sg} {m : Md} {p : PV} {vs : List V} (h : CArgs K F H env σ [m] [p] vs) : ∃ v, vs = [v] ∧ CArg K F H env σ m p v := by
  obtain ⟨p', ps, v, r, e1, rfl, h1, e2, rfl⟩ := h
  subst e2
  cases e1
  exact ⟨v, rfl, h1⟩
theorem qi_range1 {X : Cx} {B : Bs} {W : WX} {tg a : Expr} {fa : AF} {p pos : Pos} (ha : QA X B W [.val] [a] fa) (hm : X.mg "range" = none) (hg : Gl X "range" := by rfl) (hs : starEach [a] X.env = [(false, eval a X.env)] := by rfl) : QI X B W tg (.Call (.Name "range" p) [a] [] pos) (rngA fa) :=
  ⟨⟨fun pins s σ H R I ⟨F, env, st, g, q⟩ => (pi_range1 hg hm ha.pa hs).run pins s σ H R I ⟨F, env, st, g, q.bind.mono fun ps st1 F1 H1 s1 g1 q1 vs hvs => by
    unfold rngP at q1
    split at q1
    · rename_i qs hz
      split at hz
      · obtain ⟨v, rfl, h1⟩ := hvs.one
        obtain rfl : v = .int _ := h1
        split at hz
        · rename_i hj
          cases hz
          refine ⟨_, rfl, hj.1, hj.2, ?_⟩
          have := q1 F1 H1 Stp.refl g1 _ (walkR (K := X.K))
          rw [Int.sub_zero] at this
          exact this
        · cases hz
      · obtain ⟨_, _, _, _, e1, _, _, e2, _⟩ := hvs
        cases e1; cases e2
      · cases hz
    · exact q1.elim⟩⟩⟩
theorem qi_range2 {X : Cx} {B : Bs} {W : WX} {tg a b : Expr} {fa : AF} {p pos : Pos} (ha : QA X B W [.val, .val] [a, b] fa) (hm : X.mg "range" = none) (hg : Gl X "range" := by rfl) (hs : starEach [a, b] X.env = [(false, eval a X.env), (false, eval b X.env)] := by rfl) (hs2 : starEach [b] X.env = [(false, eval b X.env)] := by rfl) : QI X B W tg (.Call (.Name "range" p) [a, b] [] pos) (rngA fa) :=
  ⟨⟨fun pins s σ H R I ⟨F, env, st, g, q⟩ => (pi_range2 hg hm ha.pa hs hs2).run pins s σ H R I ⟨F, env, st, g, q.bind.mono fun ps st1 F1 H1 s1 g1 q1 vs hvs => by
    unfold rngP at q1
    split at q1
    · rename_i qs hz
      split at hz
      · obtain ⟨_, _, _, _, e1, _, _, _, _, _, _, e2, _⟩ := hvs
        cases e1; cases e2
      · obtain ⟨v1, v2, rfl, h1, h2⟩ := rh2 (CArgs.rhs rfl hvs)
        obtain rfl := h1.int
        obtain rfl := h2.int
        split at hz
        · rename_i hj
          cases hz
          exact ⟨_, _, rfl, hj, q1 F1 H1 Stp.refl g1 _ walkR⟩
        · cases hz
      · cases hz
    · exact q1.elim⟩⟩⟩
/-- enumerate -/
def enumPs (ps : List PV) : List PV := (ps.zipIdx).map fun x => .tup [.int (x.2 : Nat), x.1]
def enumA (f : EF) : AF := fun env st => (f env st).bind fun p st1 => match seqP p with
  | some ps => .ok (enumPs ps) st1
  | none => .stuck
theorem enumPs_get {ps : List PV} {i : Nat} {p : PV} (h : ps[i]? = some p) : (enumPs ps)[i]? = some (.tup [.int (i : Nat), p]) := by simp [enumPs, h]
theorem enumPs_length {ps : List PV} : (enumPs ps).length = ps.length := by simp [enumPs]
theorem fnone_of {F H : Hp} (le : Same F H) {a : Addr} (h : H a = none) : F a = none := by
  cases e : F a with
  | none => rfl
  | some o => rw [le a o e] at h; cases h
theorem pair_rep {K : Frag} {F : Hp} {T : Addr} {i : Nat} {p : PV} {x : V} (h : F T = none) (r : Rep K F p x) : Rep K (upd F T (.tup [.int (i : Nat), x])) (.tup [.int (i : Nat), p]) (.ref T) :=
  ⟨T, _, rfl, .inl (.inl upd_same), _, _, rfl, rfl, _, _, rfl, Rep.mono (Same.upd_new h) _ _ r, rfl⟩
section
variable {K : Frag} {F : Hp} {ps : List PV} {vs : List V} {a : Addr}
theorem walkEL (h : F a = some (.lst vs)) (r : RepL K F ps vs) : WalkP K (Ite K a) F (enumPs ps) := by
  have hl : (enumPs ps).length = vs.length := by rw [enumPs_length, r.length]
  unfold WalkP
  rw [hl]
  exact (walk_enum (K := K) (a := a) (xs := vs)).mono (fun H s => .inl (.inl (s _ _ h))) fun i H x H' hi s y F' s1 s2 => by
    obtain ⟨T, y1, y2, rfl, hT, rfl, e1, e2⟩ := y
    cases e1
    obtain ⟨p, hp, rp⟩ := r.getV e2
    exact ⟨_, upd F' T _, enumPs_get hp, pair_rep (fnone_of s2 hT) (Rep.mono s1 _ _ rp), .inr ⟨T, _, hT, rfl, rfl⟩⟩
theorem walkEI {ns : List Int} (h : SqL K F a (ns.map V.int)) : WalkP K (Ite K a) F (enumPs (ns.map .int)) := by
  have hl : (enumPs (ns.map PV.int)).length = (ns.map V.int).length := by rw [enumPs_length]; simp
  unfold WalkP
  rw [hl]
  exact (walk_enum (K := K) (a := a) (xs := ns.map V.int)).mono (fun H s => s.seq h) fun i H x H' hi s y F' s1 s2 => by
    obtain ⟨T, y1, y2, rfl, hT, rfl, e1, e2⟩ := y
    cases e1
    obtain ⟨n, hn, rfl⟩ := getI e2
    exact ⟨_, upd F' T _, enumPs_get (by simp [hn]), pair_rep (p := .int n) (fnone_of s2 hT) rfl, .inr ⟨T, _, hT, rfl, rfl⟩⟩
theorem walkET (h : SqT K F a vs) (r : RepL K F ps vs) : WalkP K (IteT K a) F (enumPs ps) := by
  have hl : (enumPs ps).length = vs.length := by rw [enumPs_length, r.length]
  unfold WalkP
  rw [hl]
  refine ⟨fun i H hi s => ⟨vs, vs[i], sqT_mono s h, by simp [hi]⟩, fun H s => ⟨vs, sqT_mono s h, rfl⟩, fun i H x H' hi s y F' s1 s2 => ?_⟩
  obtain ⟨T, z, rfl, hT, rfl, e⟩ := y
  obtain ⟨p, hp, rp⟩ := r.getV (e vs (sqT_mono s h))
  exact ⟨_, upd F' T _, enumPs_get hp, pair_rep (fnone_of s2 hT) (Rep.mono s1 _ _ rp), .inr ⟨T, _, hT, rfl, rfl⟩⟩
theorem walkES {x : Str} : WalkP K (IteS x) F (enumPs (chrs x)) := by
  have hl : (enumPs (chrs x)).length = x.cps.size := by rw [enumPs_length]; simp [chrs]
  unfold WalkP
  rw [hl]
  refine ⟨fun i H hi s => hi, fun H s => rfl, fun i H v H' hi s y F' s1 s2 => ?_⟩
  obtain ⟨T, c, rfl, hT, rfl, e⟩ := y
  exact ⟨_, upd F' T _, enumPs_get (p := .str ⟨#[c]⟩) (by simp [chrs, e]), pair_rep (p := .str ⟨#[c]⟩) (fnone_of s2 hT) rfl, .inr ⟨T, _, hT, rfl, rfl⟩⟩
end
theorem qi_enum {X : Cx} {B : Bs} {W : WX} {e : Expr} {f : EF} {p pos tpos : Pos} {elts : List Expr} {kk : Nat} (h : QE X B W e f) (hm : X.mg "enumerate" = none) (hg : Gl X "enumerate" := by rfl) (hs : starEach [e] X.env = [(false, eval e X.env)] := by rfl) (hs2 : starEach [e] X.env = (false, eval e X.env) :: starEach [] X.env := by rfl) :
    QI X B W (.Tuple elts kk tpos) (.Call (.Name "enumerate" p) [e] [] pos) (enumA f) :=
  ⟨⟨fun pins s σ H R I ⟨F, env, st, g, q⟩ => (pi_enumA hg hm (qa_val h qa_nil hs2).pa hs).run pins s σ H R I ⟨F, env, st, g, by
    have q2 := q.bind
    refine EPost.mono (R := fun ps st1 F1 H1 => ∀ vs, CArgs X.K F1 H1 env σ [.val] ps vs → _) ?_ fun _ _ _ _ _ _ r => r
    unfold consA nilA
    cases hr : f env st with
    | stuck => rw [hr] at q2; exact q2.elim
    | exc c ns qs st1 => rw [hr] at q2; exact q2
    | ok p st1 =>
      rw [hr] at q2
      intro F1 H1 s1 g1 vs hvs
      replace q2 := q2 F1 H1 s1 g1
      obtain ⟨v, rfl, rv⟩ := hvs.one
      cases p with
      | lst ps =>
        obtain ⟨a, vs, rfl, h1, h2⟩ := rv
        exact .inl ⟨a, vs, rfl, .inl (.inl (g1.le _ _ h1)), q2 F1 H1 Stp.refl g1 _ (walkEL h1 h2)⟩
      | tup ps =>
        obtain ⟨a, vs, rfl, h1, h2⟩ := rv
        exact .inr (.inl ⟨a, vs, rfl, sqT_mono g1.le h1, q2 F1 H1 Stp.refl g1 _ (walkET h1 h2)⟩)
      | scr ns =>
        obtain ⟨a, rfl, h1⟩ := rv
        exact .inl ⟨a, _, rfl, g1.le.seq h1, q2 F1 H1 Stp.refl g1 _ (walkEI h1)⟩
      | str x =>
        obtain rfl : v = .str x := rv
        exact .inr (.inr ⟨x, rfl, q2 F1 H1 Stp.refl g1 _ walkES⟩)
      | _ => exact q2.elim⟩⟩⟩
end KI

/-! part KI14 -/
set_option Elab.async false
set_option linter.all false
set_option maxRecDepth 100000
set_option maxHeartbeats 4000000
namespace KI
open PySem PySem.Spec PyProof.Rows L2

/-! ## isinstance -/
def tyN : PV → Option String
  | .non => some "NoneType"
  | .bl _ => some "bool"
  | .int _ => some "int"
  | .str _ => some "str"
  | .lst _ => some "list"
  | .tup _ => some "tuple"
  | .dct _ _ => some "dict"
  | .scr _ => some "list"
  | .ins _ _ _ => none
def tyIs (t c : String) : Bool := c == t || (t == "bool" && c == "int")
def isiP (ts : List String) (p : PV) : Option Bool := match tyN p with
  | some t => some (ts.any (tyIs t))
  | none => none
def knownT (c : String) : Bool := c == "int" || c == "bool" || c == "str" || c == "list" || c == "tuple" || c == "dict"
theorem kitB_ty {t c : String} (ht : t ∈ ["NoneType", "bool", "int", "str", "list", "tuple", "dict"]) (hc : c ∈ ["int", "bool", "str", "list", "tuple", "dict"]) : kitB t c = some (tyIs t c) := by
  have : ∀ t ∈ ["NoneType", "bool", "int", "str", "list", "tuple", "dict"], ∀ c ∈ ["int", "bool", "str", "list", "tuple", "dict"], kitB t c = some (tyIs t c) := by decide +kernel
  exact this t ht c hc
theorem knownT_mem {c : String} (h : knownT c = true) : c ∈ ["int", "bool", "str", "list", "tuple", "dict"] := by
  simp only [knownT, Bool.or_eq_true, beq_iff_eq] at h
  rcases h with ((((h | h) | h) | h) | h) | h <;> subst h <;> simp
theorem tyN_mem {p : PV} {t : String} (h : tyN p = some t) : t ∈ ["NoneType", "bool", "int", "str", "list", "tuple", "dict"] := by
  cases p <;> cases h <;> simp
theorem kitAny_ty {K : Frag} {t : String} (ht : t ∈ ["NoneType", "bool", "int", "str", "list", "tuple", "dict"]) : ∀ {ts : List String}, ts.all knownT = true → PySem.W.kitAny K (.type t) (ts.map Value.type) = some (ts.any (tyIs t))
  | [], _ => kitAny_nil
  | c :: cs, h => by
    rw [List.all_cons, Bool.and_eq_true] at h
    rw [List.map_cons, List.any_cons]
    refine kitAny_cons (kit_ty (kitB_ty ht (knownT_mem h.1))) (fun e => ?_) (fun e => by rw [e]; rfl)
    rw [e, Bool.false_or]
    exact kitAny_ty ht h.2
theorem tyX_of {K : Frag} {F H : Hp} {p : PV} {v : V} {t : String} (le : Same F H) (h : RH K F H p v) (ht : tyN p = some t) : TyX K H v (.type t) := by
  cases p with
  | non => cases ht; obtain rfl := h.non; exact .base .non
  | bl b => cases ht; obtain rfl := h.bl; exact .base (.bl b)
  | int i => cases ht; obtain rfl := h.int; exact .base (.int i)
  | str x => cases ht; obtain rfl := h.str; exact .base (.str x)
  | lst ps => cases ht; obtain ⟨a, vs, rfl, h1, _⟩ := h.lst le; exact .base (.lst h1)
  | tup ps =>
    cases ht; obtain ⟨a, vs, rfl, h1, _⟩ := h.tup le
    rcases h1 with (h1 | ⟨o, h1⟩) | ⟨o, its, n, h1, h2, _⟩
    · exact .base (.tup h1)
    · exact .fTuple h1
    · exact .kTuple h1 h2
  | dct ks ps => cases ht; obtain ⟨a, vs, rfl, h1, _⟩ := h.dct le; exact .base (.dK h1)
  | scr ns =>
    cases ht; obtain ⟨a, rfl, h1⟩ := h.scr le
    rcases h1 with (h1 | ⟨o, h1⟩) | ⟨o, its, n, h1, h2, _⟩
    · exact .base (.lst h1)
    · exact .base (.frz h1)
    · exact .kList h1 h2
  | ins c ns ps => cases ht
def isiE (ts : List String) (f : EF) : EF := fun env st => (f env st).bind fun p st1 => match isiP ts p with
  | some b => .ok (.bl b) st1
  | none => .stuck
/-- names of built-in types -/
structure PTy (X : Cx) (es : List Expr) (ts : List String) : Prop where
  pa : PA X es (fun _ H Q => Q (ts.map V.ty) H)
section
variable {X : Cx} {B : Bs} {W : WX} {x : Str} {e : Expr} {es : List Expr} {f : EF} {T : String} {ts : List String} {p p1 pos pos2 : Pos}
theorem pty_nil : PTy X [] [] := ⟨pa_nil⟩
theorem pty_cons (h : PTy X es ts) (hm : X.mg x = none) (hv : bootBuiltins x = some (.type T) := by rfl) (hg : Gl X x := by rfl) (hn : x ≠ "__name__" := by decide) (hd : (x == ("__debug__" : Str)) = false := by decide)
    (hs : starEach (.Name x p1 :: es) X.env = (false, eval (.Name x p1) X.env) :: starEach es X.env := by rfl) : PTy X (.Name x p1 :: es) (T :: ts) :=
  ⟨pa_imp (pa_cons (pe_bltn (v := .ty T) hg hm hv rfl hn hd) h.pa hs) fun σ H Q q => q⟩
theorem isi_vals : ∀ {ts : List String}, Paired ClsV (ts.map V.ty) (ts.map Value.type)
  | [] => .nil
  | t :: ts => .cons (.ty t) isi_vals
theorem qe_isi (h : QR X B W e f) (hi : X.mg "isinstance" = none) (hm : X.mg x = none) (hv : bootBuiltins x = some (.type T) := by rfl) (hk : knownT T = true := by rfl) (hgi : Gl X "isinstance" := by rfl) (hg : Gl X x := by rfl) (hn : x ≠ "__name__" := by decide) (hd : (x == ("__debug__" : Str)) = false := by decide)
    (hs1 : starEach [e, .Name x p1] X.env = (false, eval e X.env) :: starEach [.Name x p1] X.env := by rfl) (hs2 : starEach [.Name x p1] X.env = (false, eval (.Name x p1) X.env) :: starEach [] X.env := by rfl) (hpl : (backTo pos (starEach [.Name x p1] X.env)).any (·.1) = false := by rfl) : QE X B W (.Call (.Name "isinstance" p) [e, .Name x p1] [] pos) (isiE [T] f) :=
  ⟨pe_imp (pe_callB call_isi hgi hi rfl (pa_cons h.pe (pa_cons (pe_bltn (v := .ty T) hg hm hv rfl hn hd) pa_nil hs2) hs1) (by decide) (by decide) hs1 hpl) fun σ H Q ⟨F, env, st, g, q⟩ => ⟨F, env, st, g, q.bind.mono fun p st1 F1 H1 s1 g1 q1 v rv => by
    unfold isiP at q1
    cases ht : tyN p with
    | none => rw [ht] at q1; exact q1.elim
    | some t =>
      rw [ht] at q1
      exact ⟨v, .ty T, .type t, .type T, tyIs t T, rfl, .ty T, tyX_of g1.le rv.rh ht, kit_ty (kitB_ty (tyN_mem ht) (knownT_mem hk)), by
        have := q1 F1 H1 Stp.refl g1 (.bl (tyIs t T)) (by simp only [List.any_cons, List.any_nil, Bool.or_false]; rfl)
        exact this⟩⟩⟩
theorem qe_isiT {kk : Nat} (h : QR X B W e f) (ht : PTy X es ts) (hi : X.mg "isinstance" = none) (hk : ts.all knownT = true := by rfl) (hgi : Gl X "isinstance" := by rfl)
    (hs1 : starEach [e, .Tuple es kk pos2] X.env = (false, eval e X.env) :: starEach [.Tuple es kk pos2] X.env := by rfl) (hs2 : starEach [.Tuple es kk pos2] X.env = (false, eval (.Tuple es kk pos2) X.env) :: starEach [] X.env := by rfl) (hpl : (backTo pos (starEach [.Tuple es kk pos2] X.env)).any (·.1) = false := by rfl) (hz : ts.length ≤ sizeLine := by decide) :
    QE X B W (.Call (.Name "isinstance" p) [e, .Tuple es kk pos2] [] pos) (isiE ts f) :=
  ⟨pe_imp (pe_callB call_isiT hgi hi rfl (pa_cons h.pe (pa_cons (pe_tup ht.pa) pa_nil hs2) hs1) (by decide) (by decide) hs1 hpl) fun σ H Q ⟨F, env, st, g, q⟩ => ⟨F, env, st, g, q.bind.mono fun p st1 F1 H1 s1 g1 q1 v rv => by
    unfold isiP at q1
    cases htp : tyN p with
    | none => rw [htp] at q1; exact q1.elim
    | some t =>
      rw [htp] at q1
      refine ⟨by rw [List.length_map]; exact hz, fun a ha => ?_⟩
      refine ⟨v, a, ts.map V.ty, .type t, ts.map Value.type, _, rfl, upd_same, isi_vals, ?_, kitAny_ty (tyN_mem htp) hk, q1 F1 _ (Stp.alloc0 ha) (g1.alloc0 ha) _ rfl⟩
      refine tyX_of (F := F1) (g1.alloc0 ha).le ?_ htp
      rcases rv.rh with h | ⟨b, e, h⟩
      · exact .inl h
      · exact .inr ⟨b, e, h.mono (Same.refl F1) fun o hb => by rw [upd_ne (ne_of_none hb ha)]; exact hb⟩⟩⟩
end

/-! ## a text's methods -/
def rM (K : Frag) (g : Str → PV → Option PV) : V → List V → Hp → VK → Prop := fun x xs H Q => ∃ F a p y, Same F H ∧ x = .str a ∧ xs = [y] ∧ RH K F H p y ∧ ∃ z, g a p = some z ∧ ∀ u F' H', NewBy F H F' H' → Rep K F' z u → Q u H'
theorem mtr_imp {X : Cx} {id : String} {r r' : V → List V → Hp → VK → Prop} (h : MtR X id r) (k : ∀ x xs H Q, r' x xs H Q → r x xs H Q) : MtR X id r' := fun pins s σ H x xs v us Q I rx rs q => h pins s σ H x xs v us Q I rx rs (k x xs H Q q)
def smE (g : Str → PV → Option PV) (fo fa : EF) : EF := fun env st => (fo env st).bind fun o st1 => match o with
  | .str a => (fa env st1).bind fun p st2 => match g a p with
    | some z => .ok z st2
    | none => .stuck
  | _ => .stuck
theorem qe_m1 {X : Cx} {B : Bs} {W : WX} {o e : Expr} {fo fa : EF} {g : Str → PV → Option PV} {id : String} {name : Str} {apos pos : Pos} (slot : PySem.Slot "str" name id) (ty : typeOf (.builtin id) = pure (.type "method_descriptor")) (rule : MtR X id (rM X.K g)) (ho : QR X B W o fo) (he : QR X B W e fa)
    (hs : starEach [e] X.env = [(false, eval e X.env)] := by rfl) (hbase : attributeBase o name X.env (eval o X.env) = eval o X.env := by rfl) (hline : (apos.endLine == pos.line) = true := by rfl) : QE X B W (.Call (.Attribute o name apos) [e] [] pos) (smE g fo fa) :=
  ⟨pe_imp (pe_m1 slot ty rule ho.pe he.pe hs hbase hline) fun σ H Q ⟨F, env, st, g0, q⟩ => ⟨F, env, st, g0, q.bind.mono fun o st1 F1 H1 s1 g1 q1 v rv => by
    cases o with
    | str a =>
      obtain rfl := rv.rh.str
      refine ⟨⟨a, rfl⟩, F1, env, st1, g1, q1.bind.mono fun p st2 F2 H2 s2 g2 q2 y ry => ?_⟩
      cases hz : g a p with
      | none => rw [hz] at q2; exact q2.elim
      | some z =>
        rw [hz] at q2
        exact ⟨F2, a, p, y, g2.le, rfl, rfl, ry.rh, z, hz, fun u F3 H3 nb hu => by
          obtain ⟨g3, _, s3⟩ := g2.newBy nb
          exact q2 F3 H3 s3 g3 u hu⟩
    | _ => exact q1.elim⟩⟩
def countP (a : Str) : PV → Option PV
  | .str b => some (.int (Txt.count a b))
  | _ => none
def strsP : List PV → Option (List Str)
  | [] => some []
  | .str x :: ps => (strsP ps).map (x :: ·)
  | _ => none
theorem strsP_eq : ∀ {ps : List PV} {ns : List Str}, strsP ps = some ns → ps = ns.map .str
  | [], ns, h => by cases h; rfl
  | .str i :: ps, ns, h => by
    unfold strsP at h
    cases hp : strsP ps with
    | none => rw [hp] at h; cases h
    | some m => rw [hp] at h; cases h; rw [strsP_eq hp]; rfl
  | .non :: _, _, h => nomatch h
  | .bl _ :: _, _, h => nomatch h
  | .int _ :: _, _, h => nomatch h
  | .lst _ :: _, _, h => nomatch h
  | .tup _ :: _, _, h => nomatch h
  | .dct _ _ :: _, _, h => nomatch h
  | .ins _ _ _ :: _, _, h => nomatch h
  | .scr _ :: _, _, h => nomatch h
theorem RepL.strs {K : Frag} {F : Hp} : ∀ {ns : List Str} {vs : List V}, RepL K F (ns.map PV.str) vs → vs = ns.map V.str
  | [], _, h => h
  | n :: ns, _, ⟨v, r, h1, h2, h3⟩ => by rw [h1, show v = V.str n from h2, RepL.strs h3]; rfl
def joinP (a : Str) : PV → Option PV
  | .lst ps => match strsP ps with
    | some ys => if (ys.map (·.length)).sum + ys.length * a.length ≤ 16777216 then some (.str (Txt.join a ys)) else none
    | none => none
  | .tup ps => match strsP ps with
    | some ys => if (ys.map (·.length)).sum + ys.length * a.length ≤ 16777216 then some (.str (Txt.join a ys)) else none
    | none => none
  | _ => none
section
variable {X : Cx}
theorem mr_count : MtR X "str.count" (rM X.K countP) := mtr_imp mt_count fun x xs H Q ⟨F, a, p, y, le, e1, e2, hy, z, hz, q⟩ => by
  unfold countP at hz
  split at hz
  · obtain rfl := hy.str
    cases hz
    exact ⟨a, _, e1, e2, q _ F H (.inl ⟨rfl, rfl⟩) rfl⟩
  · cases hz
theorem mr_join : MtR X "str.join" (rM X.K joinP) := mtr_imp mt_join fun x xs H Q ⟨F, a, p, y, le, e1, e2, hy, z, hz, q⟩ => by
  unfold joinP at hz
  split at hz
  · obtain ⟨b, vs, rfl, h1, h2⟩ := hy.lst le
    split at hz
    · rename_i ys hys
      split at hz
      · rename_i hl
        cases hz
        rw [strsP_eq hys] at h2
        rw [h2.strs] at h1
        exact ⟨a, b, ys, e1, e2, .inl (.inl (.inl h1)), hl, q _ F H (.inl ⟨rfl, rfl⟩) rfl⟩
      · cases hz
    · cases hz
  · obtain ⟨b, vs, rfl, h1, h2⟩ := hy.tup le
    split at hz
    · rename_i ys hys
      split at hz
      · rename_i hl
        cases hz
        rw [strsP_eq hys] at h2
        rw [h2.strs] at h1
        exact ⟨a, b, ys, e1, e2, .inr h1, hl, q _ F H (.inl ⟨rfl, rfl⟩) rfl⟩
      · cases hz
    · cases hz
  · cases hz
end

/-! ## slices -/
abbrev PF := SEnv → PV → ER (Option Int)
def tP (K : Frag) (B : Bs) (W : WX) (f : PF) : TO := fun σ H Q => ∃ F env st, Good K B F H env st σ ∧ EPost K B W env σ F H (fun o _ _ H' => Q o H') (f env st)
structure QP (X : Cx) (B : Bs) (W : WX) (e : Option Expr) (f : PF) : Prop where
  po : PO X e (tP X.K B W f)
def noP : PF := fun _ st => .ok none st
def someP (f : EF) : PF := fun env st => (f env st).bind fun p st1 => match p with
  | .int i => .ok (some i) st1
  | _ => .stuck
def cutP {α : Type} (xs : List α) (lo hi : Option Int) : List α := (xs.drop (HT.sIx xs.length 0 lo)).take (HT.sIx xs.length xs.length hi - HT.sIx xs.length 0 lo)
def slL (p : PV) (lo hi : Option Int) : Option PV := match p with
  | .lst ps => some (.lst (cutP ps lo hi))
  | _ => none
def slS (p : PV) (lo hi : Option Int) : Option PV := match p with
  | .str z => if z.length ≤ sizeLine then some (.str (cutS z lo hi)) else none
  | _ => none
def slE (g : PV → Option Int → Option Int → Option PV) (f : EF) (l h : PF) : EF := fun env st => (f env st).bind fun p st1 => (l env st1).bind fun lo st2 => (h env st2).bind fun hi st3 => match g p lo hi with
  | some z => .ok z st3
  | none => .stuck
section
variable {X : Cx} {B : Bs} {W : WX} {e : Expr} {lo hi : Option Expr} {f : EF} {fl fh : PF} {p2 pos : Pos}
theorem qp_none : QP X B W none noP := ⟨⟨fun pins s σ H Q I ⟨F, env, st, g, q⟩ => po_none.run pins s σ H Q I (q F H Stp.refl g)⟩⟩
theorem qp_some (h : QE X B W e f) : QP X B W (some e) (someP f) := ⟨⟨fun pins s σ H Q I ⟨F, env, st, g, q⟩ => (po_some h.pe).run pins s σ H Q I ⟨F, env, st, g, q.bind.mono fun p st1 F1 H1 s1 g1 q1 v rv => by
  cases p with
  | int i => exact ⟨i, rv, q1 F1 H1 Stp.refl g1⟩
  | _ => exact q1.elim⟩⟩⟩
theorem qo_sliceL (he : QR X B W e f) (hl : QP X B W lo fl) (hh : QP X B W hi fh) : QO X B W (.Subscript e (.Slice lo hi none p2) pos) (slE slL f fl fh) :=
  ⟨pe_imp (pe_slice sl_list he.pe hl.po hh.po) fun σ H Q ⟨F, env, st, g, q⟩ => ⟨F, env, st, g, q.bind.mono fun p st1 F1 H1 s1 g1 q1 v rv => ⟨F1, env, st1, g1, q1.bind.mono fun l st2 F2 H2 s2 g2 q2 => ⟨F2, env, st2, g2, q2.bind.mono fun u st3 F3 H3 s3 g3 q3 => by
    cases p with
    | lst ps =>
      obtain ⟨a, vs, rfl, h1, h2⟩ := ((rv.step s2).step s3).rh.lst g3.le
      refine ⟨a, vs, rfl, .inl (.inl h1), fun b hb => ?_⟩
      refine q3 F3 _ (Stp.alloc0 hb) (g3.alloc0 hb) b (none_of s1.there (none_of s2.there (none_of s3.there hb))) (g3.fnone hb) ⟨_, upd_same, ?_⟩
      unfold cutP cutV
      rw [← h2.length]
      exact (h2.drop _).take _
    | _ => exact q3.elim⟩⟩⟩⟩
theorem qe_sliceS (he : QR X B W e f) (hl : QP X B W lo fl) (hh : QP X B W hi fh) : QE X B W (.Subscript e (.Slice lo hi none p2) pos) (slE slS f fl fh) :=
  ⟨pe_imp (pe_slice sl_str he.pe hl.po hh.po) fun σ H Q ⟨F, env, st, g, q⟩ => ⟨F, env, st, g, q.bind.mono fun p st1 F1 H1 s1 g1 q1 v rv => ⟨F1, env, st1, g1, q1.bind.mono fun l st2 F2 H2 s2 g2 q2 => ⟨F2, env, st2, g2, q2.bind.mono fun u st3 F3 H3 s3 g3 q3 => by
    cases p with
    | str z =>
      obtain rfl := rv.rh.str
      unfold slS at q3
      dsimp only at q3
      by_cases hz : z.length ≤ sizeLine
      · rw [if_pos hz] at q3
        exact ⟨z, rfl, hz, q3 F3 H3 Stp.refl g3 _ rfl⟩
      · rw [if_neg hz] at q3; exact q3.elim
    | _ => exact q3.elim⟩⟩⟩⟩
end

/-! ## a, b, .. = e -/
def setL : List Nat → List PV → SEnv → SEnv
  | i :: is, p :: ps, env => setL is ps (env.set i (.sh p))
  | _, _, env => env
def tGs (K : Frag) (B : Bs) (is : List Nat) : TGs := fun vs σ H Q => ∃ F env st ps, Good K B F H env st σ ∧ RepL K F ps vs ∧ ps.length = is.length ∧ ∀ σ', Good K B F H (setL is ps env) st σ' → Q σ' H
structure QGs (X : Cx) (B : Bs) (es : List Expr) (is : List Nat) : Prop where
  pg : PGs X es (tGs X.K B is)
def upG (is : List Nat) : GF := fun p env => match p with
  | .tup ps => if ps.length = is.length then some (setL is ps env) else none
  | .lst ps => if ps.length = is.length then some (setL is ps env) else none
  | _ => none
theorem pgs_imp {X : Cx} {es : List Expr} {t t' : TGs} (h : PGs X es t) (k : ∀ v σ H Q, t' v σ H Q → t v σ H Q) : PGs X es t' := ⟨fun pins s σ H vs us Q I r q => h.run pins s σ H vs us Q I r (k vs σ H Q q)⟩
def asgS (f : EF) (t : GF) : SF := fun env st => liftS (f env st) env fun p st' => match t p env with
  | some env' => .nx env' st'
  | none => .stuck
section
variable {X : Cx} {B : Bs} {W : WX} {e tg : Expr} {es : List Expr} {f : EF} {t : GF} {is : List Nat} {pos p1 : Pos}
theorem qgs_nil : QGs X B [] [] := ⟨pgs_imp pgs_nil fun vs σ H Q ⟨F, env, st, ps, g, r, hl, q⟩ => by
  cases ps with
  | nil => exact ⟨r, q σ g⟩
  | cons p ps => cases hl⟩
theorem qgs_cons {x : Str} (i : Nat) (hN : X.N.Nodup) (h : QGs X B es is) (hi : X.N[i]? = some x := by rfl) (hx : Loc X.env.scope x := by first | exact .inl rfl | exact .inr rfl) (hf : X.fn x = true ∨ X.env.scope.names.lookup x = some .local := by first | exact .inl rfl | exact .inr rfl)
    (hs : (assignEach (.Name x p1 :: es) X.env).map (·.2) = assign (.Name x p1) X.env :: (assignEach es X.env).map (·.2) := by rfl) : QGs X B (.Name x p1 :: es) (i :: is) := ⟨pgs_imp (pgs_cons (pg_name hN hi hx hf) h.pg hs) fun vs σ H Q ⟨F, env, st, ps, g, r, hl, q⟩ => by
  cases ps with
  | nil => cases hl
  | cons p ps =>
    obtain ⟨v, vs, rfl, h1, h2⟩ := r
    exact ⟨v, vs, rfl, F, env.set i (.sh p), st, ps, g.set i (v := v) (s := .sh p) ⟨v, rfl, h1⟩ (fun z => nomatch z), h2, by simpa using hl, q⟩⟩
theorem pg_or {t1 t2 : TG} (h1 : PG X tg t1) (h2 : PG X tg t2) : PG X tg (fun v σ H Q => t1 v σ H Q ∨ t2 v σ H Q) := ⟨fun pins s σ H v u Q I r q => by
  rcases q with q | q
  · exact h1.run pins s σ H v u Q I r q
  · exact h2.run pins s σ H v u Q I r q⟩
theorem qg_up {kk : Nat} (hc : X.calm = true) (h : QGs X B es is) (hn : (assignEach es X.env).length = is.length := by rfl) (hst : (assignEach es X.env).findIdx? (·.1) = none := by rfl) : QG X B (.Tuple es kk pos) (upG is) :=
  ⟨pg_imp (pg_or (pg_tup hc h.pg hn hst) (pg_lst hc h.pg hn hst)) fun v σ H Q ⟨F, env, st, p, g, r, q⟩ => by
    unfold upG at q
    cases p with
    | tup ps =>
      obtain ⟨a, vs, rfl, h1, h2⟩ := r
      dsimp only at q
      by_cases hl : ps.length = is.length
      · rw [if_pos hl] at q
        exact .inl ⟨a, vs, rfl, sqT_mono g.le h1, by rw [← h2.length]; exact hl, F, env, st, ps, g, h2, hl, fun σ' g' => q σ' g'⟩
      · rw [if_neg hl] at q; exact q.elim
    | lst ps =>
      obtain ⟨a, vs, rfl, h1, h2⟩ := r
      dsimp only at q
      by_cases hl : ps.length = is.length
      · rw [if_pos hl] at q
        exact .inr ⟨a, vs, rfl, .inl (.inl (g.le _ _ h1)), by rw [← h2.length]; exact hl, F, env, st, ps, g, h2, hl, fun σ' g' => q σ' g'⟩
      · rw [if_neg hl] at q; exact q.elim
    | _ => exact q.elim⟩
theorem qs_asg (he : QE X B W e f) (hg : QG X B tg t) (hs : swapsWithSole [tg] e pos.line X.env = pure false := by rfl) (hw : swappedStores [tg] e X.env = pure none := by rfl)
    (h1 : (assignEach [tg] X.env).map (·.2) = [assign tg X.env] := by rfl) : QS X B W (.Assign [tg] e pos) (asgS f t) :=
  ⟨ps_imp (ps_asg he.pe hg.pg hs hw h1) fun D σ H ⟨F, env, st, g, q⟩ => ⟨F, env, st, g, (SPost.lift (H := H) (σ := σ) q).mono fun p st' F' H' s g' r v hv => by
    refine ⟨F', env, st', p, g', hv, ?_⟩
    cases ht : t p env with
    | none => rw [ht] at r; exact r
    | some env' => rw [ht] at r; exact fun σ' g2 => r σ' F' H' (Same.refl F') g2⟩⟩
end
end KI

/-! part KI15 -/
set_option Elab.async false
set_option linter.all false
set_option maxRecDepth 100000
set_option maxHeartbeats 4000000
namespace KI
open PySem PySem.Spec PySem.Calls PyProof.Rows L2

/-! ## an own exception whose __init__ says super().__init__('..') and then sets fields -/
/-- what the written part says of the class at C, its __init__ at f -/
structure XcC (P : Program) (K : Frag) (C f : Addr) (ar : Str) (qual : Str) (body : List Stmt) (scope : Scope) (params : Arguments) (fd : FuncData) : Prop where
  oex : OexC K C
  ini : PySem.W.findIn K (.ref C) "__init__" = some (some (.ref f))
  tyI : PySem.W.typeIn K (.ref f) = some (.type "function")
  ex : ∃ (name : Str) (kV dV doc pm ct oc : Value) (an od : Option Addr) (osl : Array (Option Value)) (cc cda : Addr) (aa : Arg) (ccl cl : Value) (cdd cld : Option Addr) (vs : Array Value) (ccs csl : Array (Option Value)) (file : Str) (tf : Tok) (cd : ClassData),
    fd = PySem.W.ksFn name qual params body scope dV kV doc pm an (.ref cda) ct cc ∧ K.lookup f = some ⟨oc, od, .func fd, osl⟩ ∧ PySem.W.codeIn K (.ref cda) qual = true ∧ (params.posonlyargs ++ params.args).head? = some aa ∧ aa.arg = ar ∧
    K.lookup cda = some ⟨ccl, cdd, .fields vs, ccs⟩ ∧ vs[2]? = some (.str file tf) ∧ ((P.main.file : Str) == file) = true ∧ K.lookup cc = some ⟨cl, cld, .cell (some (.ref C)), csl⟩ ∧
    PySem.W.clsIn K C = some cd
  sub : PySem.W.mroIn K C (.ref C) = some true
  sup : PySem.W.ks_superIn K C C "__init__" = some (some (.builtin "ValueError.__init__"))
  isV : PySem.W.subIn K (.ref C) (.type "ValueError") = some true
  sta : PySem.W.nsIn K cStatics "thirdparty.any" = some none
section
variable {prog : Program} {w : World} {A : Around} {E : Value → Shared → Prop} {h : Heap} {g : Array GenState} {d : Drawn} {t : Nat} {os : OsState}
theorem call_mwV {nm q : Str} {C N : Addr} {bs bm : List Value} {hdct : Bool} {sn : List Str} {sub : List Value} {ab : Bool} {col : Option Bool} {dd : Option Addr} {k0 k1 k2 k3 k5 : Option Value} {u e t0 : Addr} {rest : List Value} {Q : Value → Shared → Prop}
    (hC : h.get? C = some (excClassObj nm q C N bs bm hdct sn sub ab col dd k0 k1 k2 k3 k5 "ValueError.__new__")) (he : h.get? e = some (HandSPX.excO C t0)) (hu : h.get? u = some (PySem.W.kxs_mw "ValueError.__init__" e)) (hrest : rest.length ≤ sizeLine)
    (hq : ∀ h' t1, (∀ b o, b ≠ e → h.get? b = some o → h'.get? b = some o) → h'.get? e = some (HandSPX.excO C t1) → Q .none ⟨h', g, d, t, os⟩) :
    wpAny (model prog w) A (call (.ref u) rest) Q E ⟨h, g, d, t, os⟩ := by
  refine wpAny_call (codeAny_of_tree ?_)
  show wpAny _ A.in1 (callAny (.ref u) ⟨rest, []⟩) _ _ _
  simp only [callAny]
  refine wpAny_bind (wpAny_load hu ?_)
  simp only [PySem.W.kxs_mw, show (Value.type "method-wrapper" == Value.type "method" || Value.type "method-wrapper" == Value.type "builtin_function_or_method" || Value.type "method-wrapper" == Value.type "method-wrapper") = true by decide, if_true]
  refine W.KFB.if_so (by decide) ?_
  refine wpAny_bind (ESX.check_bound F.excBase_ValueError hC he rfl ?_)
  refine wpAny_bind (wpAny_pure (wpAny_pure ?_))
  refine ⟨Code.quiet_builtin _ (by decide +kernel), codeAny_builtin F.excBase_ValueError.initEntry ?_⟩
  rw [Around.under_plainId F.excBase_ValueError.init.plain _]
  wp_walk
  refine hq _ h.objs.size (fun b o hb ho => ?_) ?_
  · rw [Heap.get?_update_other _ _ (Ne.symm hb)]
    exact Heap.get?_push_of_some _ ho
  · rw [Heap.get?_update_self _ (Heap.get?_push_of_some _ he) rfl]
    rfl
/-- super().__init__('..') -/
theorem xi_super {K : Frag} {mg : Str → Option Value} {base : Heap} {C f L a t0 cc cda : Addr} {ar qual txt : Str} {body0 : List Stmt} {scope : Scope} {fd : FuncData} {oc ccl cl : Value} {od cdd cld : Option Addr} {osl ccs csl : Array (Option Value)} {aa : Arg} {vs : Array Value} {file : Str} {tf : Tok} {cd : ClassData}
    {m : Str → Option Value} {j : Nat} {p0 p1 p2 p3 p4 p5 : Pos}
    (hoex : OexC K C) (M : Mod K mg base) (bk : ∀ b o, base.get? b = some o → h.get? b = some o) (hms : mg "super" = none) (hf : K.lookup f = some ⟨oc, od, .func fd, osl⟩) (hp : (fd.params.posonlyargs ++ fd.params.args).head? = some aa)
    (hcode : K.lookup cda = some ⟨ccl, cdd, .fields vs, ccs⟩) (hvs : vs[2]? = some (.str file tf)) (hfile : ((prog.main.file : Str) == file) = true) (hcell : K.lookup cc = some ⟨cl, cld, .cell (some (.ref C)), csl⟩) (hcd : PySem.W.clsIn K C = some cd)
    (hsub : PySem.W.mroIn K C (.ref C) = some true) (hsup : PySem.W.ks_superIn K C C "__init__" = some (some (.builtin "ValueError.__init__"))) (hisV : PySem.W.subIn K (.ref C) (.type "ValueError") = some true) (hsta : PySem.W.nsIn K cStatics "thirdparty.any" = some none)
    (hn : h.Ns L m) (hm : m aa.arg = some (.ref a)) (ha : h.get? a = some (HandSPX.excO C t0))
    (hks : scope.names.lookup ("super" : Str) = some .globalImplicit) (hkc : scope.names.lookup ("__class__" : Str) = some .free) (hka : scope.names.lookup aa.arg = some .local) (hk : scope.kind = .function) (htop : (prog.main.scope.names.lookup ("super" : Str)).isSome = false)
    (hsw : swapsWith (.Call (.Attribute (.Call (.Name "super" p0) [] [] p1) "__init__" p2) [.Constant (.str txt) j p3] [] p4) none p5.line (PySem.W.ksEnv qual scope L f (.ref cda) cc) = pure false := by rfl)
    (hint : interactive (PySem.W.ksEnv qual scope L f (.ref cda) cc) = false := by rfl) {pl : Sem Bool} (hev : eval (.Call (.Attribute (.Call (.Name "super" p0) [] [] p1) "__init__" p2) [.Constant (.str txt) j p3] [] p4) (PySem.W.ksEnv qual scope L f (.ref cda) cc) = (do
      let ov ← attributeBase (.Call (.Name "super" p0) [] [] p1) "__init__" (PySem.W.ksEnv qual scope L f (.ref cda) cc) (eval (.Call (.Name "super" p0) [] [] p1) (PySem.W.ksEnv qual scope L f (.ref cda) cc))
      standAt p2.atName
      let (fn, first) ← holding [ov] (getMethod ov "__init__" pl)
      callWith p4 fn first (backTo p4 (starEach [.Constant (.str txt) j p3] (PySem.W.ksEnv qual scope L f (.ref cda) cc))) []) := by rfl)
    {Q : Flow → Shared → Prop} (hq : ∀ h' t1 tk, (∀ b o, b ≠ a → h.get? b = some o → h'.get? b = some o) → h'.get? a = some (HandSPX.excO C t1) → Q .next ⟨h', g, d, tk, os⟩) :
    _root_.PySem.wpAt (model prog w) A (.func body0 (PySem.W.ksEnv qual scope L f (.ref cda) cc)) (exec (.Expr (.Call (.Attribute (.Call (.Name "super" p0) [] [] p1) "__init__" p2) [.Constant (.str txt) j p3] [] p4) p5) (PySem.W.ksEnv qual scope L f (.ref cda) cc)) Q E ⟨h, g, d, t, os⟩ := by
  have X : K.In h := M.kin.keeps bk
  obtain ⟨mb, hb1, hb2⟩ := M.blt
  obtain ⟨nm, q, N, bs, bm, sn, sub, ab, col, dd, k0, k1, k2, k3, k5, hC, hbm⟩ := hoex.cls
  have hCh := X _ _ hC
  have I : PySem.W.InstAt h a (HandSPX.excO C t0) C none := ⟨ha, rfl, rfl, trivial⟩
  have haC : a ≠ C := PySem.W.ks_ne X I hcd
  refine ks_wpAt_Expr_any (ks_wpAt_MethodCall (pl := pl) ?_ hev) hint hsw
  refine ks_wpAt_super_base (env := PySem.W.ksEnv qual scope L f (.ref cda) cc) hks hkc (by decide) rfl (X _ _ hf) rfl hp rfl (X _ _ hcode) rfl hvs hfile htop ?_
  refine PySem.W.ks_loadName_global hk hks (loadGlobal_builtin (env := PySem.W.ksEnv qual scope L f (.ref cda) cc) (M.glob.keeps bk) hms (hb1.keeps bk) ((hb2 _ (by decide)).trans (by rfl)) ⟨rfl, ?_⟩)
  refine wpAny_loadName_free hk hkc rfl ⟨_, X _ _ hcell, rfl⟩ ?_
  refine wpAny_loadName_local hk hka hn hm ?_
  refine ks_wpAny_isType_cls hCh rfl ⟨rfl, ?_⟩
  refine ks_wpAny_call_super hCh rfl ha rfl (fun c e => by cases e) (PySem.W.looks_mroIn X hsub) (fun h1 hso k1' => ?_)
  -- getMethod
  have X1 : K.In h1 := X.keeps k1'
  unfold PySem.W.ks_superIn at hsup
  rw [hcd] at hsup
  have I1 : PySem.W.InstAt h1 a (HandSPX.excO C t0) C none := ⟨k1' _ _ ha, rfl, rfl, trivial⟩
  refine PySem.W.kxs_getMethod PySem.W.kxs_ValueError hso (PySem.W.looks_opaque X1 hsta) (l₀ := cd.mro) (fun A Q E s k q => wpAny_bind ((PySem.W.looks_clsIn X1 hcd) A _ E s k (wpAny_pure q))) rfl X1 hsup (I1.type.andThen (PySem.W.looks_subIn X1 hisV)) haC (by decide) ?_
  refine PySem.W.kxs_callWith (i := "ValueError.__init__") (x := a) rfl (evalArgs_plain (spliced_cons ?_))
  show wpAny _ _ (eval (.Constant (.str txt) j p3) _) _ _ _
  refine Calls.Constant_str (spliced_nil ?_)
  have k2' : ∀ b o, h.get? b = some o → (h1.push (PySem.W.kxs_mw "ValueError.__init__" a)).get? b = some o := fun b o e => Heap.get?_push_of_some _ (k1' b o e)
  refine ⟨Heap.get?_push_at rfl rfl, ?_⟩
  refine call_mwV (k2' _ _ hCh) (k2' _ _ ha) (Heap.get?_push_at rfl rfl) (by show 1 ≤ sizeLine; decide) fun h' t1 k3' e3 => hq h' t1 _ (fun b o hb e => k3' b o hb (k2' b o e)) e3

abbrev excD (C t : Addr) (dx : Addr) : Obj := { cls := .ref C, dict := some dx, data := .fields #[.ref t, .none, .none, .none, .bool false, .none] }
/-- self.f = x, the first field -/
theorem xi_new {K : Frag} {env : Env} {m : Str → Option Value} {a C t1 : Addr} {self x f : Str} {u : Value} {p p' p2 pos : Pos} {Q : Flow → Shared → Prop} (T : OexC K C) (X : K.In h) (hn : h.Ns env.locals m) (hs : m self = some (.ref a)) (hx : m x = some u)
    (ha : h.get? a = some (HandSPX.excO C t1)) (hno : PySem.W.findIn K (.ref C) f = some none) (hk : env.scope.kind = .function) (hl1 : env.kindOf self = some .local) (hl2 : env.kindOf x = some .local) (hd1 : (self == ("__debug__" : Str)) = false) (hd2 : (x == ("__debug__" : Str)) = false)
    (hsw : swapsWith (.Name x p2) (some (.Attribute (.Name self p) f p')) pos.line env = pure false)
    (hq : ∀ h' tk dx, (∀ b o, b ≠ a → h.get? b = some o → h'.get? b = some o) → h.objs.size ≤ dx → dx ≠ a → h'.get? a = some (excD C t1 dx) → h'.Ns1 dx (fun y => if y = f then some u else none) → Q .next ⟨h', g, d, tk, os⟩) :
    wpAny (model prog w) A (exec (.Assign [.Attribute (.Name self p) f p'] (.Name x p2) pos) env) Q E ⟨h, g, d, t, os⟩ := by
  obtain ⟨nm, q, N, bs, bm, sn, sub, ab, col, dd, k0, k1, k2, k3, k5, hC, hbm⟩ := T.cls
  have hcl : PySem.W.clsIn K C = some { name := nm, bases := bs, mro := .ref C :: bm, ns := N, qualname := q, hasDict := true, slotNames := sn, subclasses := sub, abstract := ab, collection := col, hasDel := false } := by unfold PySem.W.clsIn; rw [hC] <;> rfl
  refine plainObj_wpAny_Assign_Attribute (ESX.ldL hn hx (ESX.ldL hn hs ?_ hk hl1 hd1) hk hl2 hd2) hsw
  refine PySem.W.set_plain X (ox := HandSPX.excO C t1) (od := none) ⟨ha, rfl, rfl, trivial⟩ T.sa ?_
  exact PySem.HandSPX.exc_osa X ha hcl (show PySem.HandSPX.refsVE (.ref C :: bm) = true from hbm) rfl hno fun h' tk' dx k dn dne hx hn => hq h' tk' dx k dn dne hx hn
/-- self.f = x, a further one -/
theorem xi_old {K : Frag} {env : Env} {m mA : Str → Option Value} {nl : List Str} {a C t1 dx : Addr} {self x f : Str} {u : Value} {p p' p2 pos : Pos} {Q : Flow → Shared → Prop} (T : OexC K C) (X : K.In h) (hn : h.Ns env.locals m) (hs : m self = some (.ref a)) (hx : m x = some u)
    (ha : h.get? a = some (excD C t1 dx)) (hns : h.Ns1 dx mA) (hw : Within mA nl) (hz : nl.length ≤ 1000) (hno : PySem.W.findIn K (.ref C) f = some none) (hk : env.scope.kind = .function) (hl1 : env.kindOf self = some .local) (hl2 : env.kindOf x = some .local) (hd1 : (self == ("__debug__" : Str)) = false) (hd2 : (x == ("__debug__" : Str)) = false)
    (hsw : swapsWith (.Name x p2) (some (.Attribute (.Name self p) f p')) pos.line env = pure false)
    (hq : ∀ h' tk, (∀ b o, b ≠ dx → h.get? b = some o → h'.get? b = some o) → h'.Ns1 dx (fun y => if y = f then some u else mA y) → Q .next ⟨h', g, d, tk, os⟩) :
    wpAny (model prog w) A (exec (.Assign [.Attribute (.Name self p) f p'] (.Name x p2) pos) env) Q E ⟨h, g, d, t, os⟩ := by
  obtain ⟨nm, q, N, bs, bm, sn, sub, ab, col, dd, k0, k1, k2, k3, k5, hC, hbm⟩ := T.cls
  have hcl : PySem.W.clsIn K C = some { name := nm, bases := bs, mro := .ref C :: bm, ns := N, qualname := q, hasDict := true, slotNames := sn, subclasses := sub, abstract := ab, collection := col, hasDel := false } := by unfold PySem.W.clsIn; rw [hC] <;> rfl
  obtain ⟨oD, _, _, hoD, _, _⟩ := hns.count hw
  refine plainObj_wpAny_Assign_Attribute (ESX.ldL hn hx (ESX.ldL hn hs ?_ hk hl1 hd1) hk hl2 hd2) hsw
  refine PySem.W.set_plain X (ox := excD C t1 dx) (od := some oD) ⟨ha, rfl, rfl, hoD⟩ T.sa ?_
  exact PySem.OEX.osa_old X ha hns hw hz hcl (show PySem.HandSPX.refsVE (.ref C :: bm) = true from hbm) rfl hno fun h' tk' k hn => hq h' tk' k hn
end
/-- the end of such an __init__ -/
theorem xi_end {P : Program} {w : World} {H : Hp} {hp h' : Heap} {fs : List Addr} {a C dx t1 : Addr} {flds : List (Str × V)} {mA : Str → Option Value} (hok : HOk P w H hp) (e : H a = some (exo a C none)) (k : ∀ b o, b ≠ a → hp.get? b = some o → h'.get? b = some o) (dn : hp.objs.size ≤ dx) (dne : dx ≠ a)
    (hx : h'.get? a = some (excD C t1 dx)) (hn : h'.Ns1 dx mA) (r : ∀ f, RelO (flds.lookup f) (mA f)) :
    Un fs [] H (upd (upd H dx (exd dx flds)) a (exo a C (some dx))) hp h' ∧ HOk P w (upd (upd H dx (exd dx flds)) a (exo a C (some dx))) h' := by
  have hnd : H dx = none := hok.fresh dn
  have nd : ∀ {b : Addr} {o : Obj}, hp.get? b = some o → b ≠ dx := fun {b o} q => Nat.ne_of_lt (Nat.lt_of_lt_of_le (Heap.lt_size q) dn)
  have na : ∀ {b : Addr}, H b = none → b ≠ a := fun {b} n z => by
    rw [z, e] at n
    cases n
  refine ⟨{
    keep := fun b o q n _ _ => k b o (na n) q
    slot := fun b o q n _ _ => ⟨o.slots, k b o (na n) q⟩
    free := fun b o q n _ => by rw [upd_ne (na n), upd_ne (nd q)]; exact n
    there := fun b o q _ => by
      by_cases hb : b = a
      · exact ⟨_, by rw [hb]; exact hx⟩
      · exact ⟨o, k b o hb q⟩
    tups := fun b xs q => by rw [upd_ne (at_ne e q exo_tup), upd_ne (ne_of_none q hnd)]; exact q
    frzs := fun b o v q => by rw [upd_ne (at_ne e q exo_frz), upd_ne (ne_of_none q hnd)]; exact q
    tbls := fun b ps q => ⟨#[], by rw [upd_ne (at_ne e q exo_tbl), upd_ne (ne_of_none q hnd), q]; simp⟩ }, fun b o q => ?_⟩
  by_cases hb : b = a
  · subst hb
    rw [upd_same] at q
    cases q
    exact exo_ok hx
  · rw [upd_ne hb] at q
    by_cases hd : b = dx
    · subst hd
      rw [upd_same] at q
      cases q
      exact exd_ok hn r
    · rw [upd_ne hd] at q
      exact (hok b o q).stay (fun c v hc z => k c v (by
          rcases hc with hc | hc
          · rw [hc]
            exact hb
          · exact at_ne e hc exo_own) z)
        (fun c hc => by rw [upd_ne (at_ne e hc exo_own), upd_ne (ne_of_none hc hnd)]; exact hc) (fun c xs hc => by rw [upd_ne (at_ne e hc exo_tup), upd_ne (ne_of_none hc hnd)]; exact hc)
abbrev supS (txt : Str) (j : Nat) (p0 p1 p2 p3 p4 p5 : Pos) : Stmt := .Expr (.Call (.Attribute (.Call (.Name "super" p0) [] [] p1) "__init__" p2) [.Constant (.str txt) j p3] [] p4) p5
abbrev fldS (self x f : Str) (p p' p2 pos : Pos) : Stmt := .Assign [.Attribute (.Name self p) f p'] (.Name x p2) pos
/-- the promise: the fields fs, the values in the order of the parameters -/
def spX (C : Addr) (fs : List Str) : Sp := fun vs H Q _ => ∃ (a : Addr) (ws : List V), vs = .ref a :: ws ∧ ws.length = fs.length ∧ H a = some (exo a C none) ∧ ∀ dx, H dx = none → dx ≠ a → Q .non (upd (upd H dx (exd dx (fs.zip ws).reverse)) a (exo a C (some dx)))
theorem fn_x1 {CX : CXT} {P : Program} {w : World} {K : Frag} {mg : Str → Option Value} {base : Heap} {C f : Addr} {ar x1 f1 qual txt : Str} {scope : Scope} {params : Arguments} {fd : FuncData} {j : Nat} {p0 p1 p2 p3 p4 p5 a0 b0 c0 d0 : Pos}
    (T : XcC P K C f ar qual (supS txt j p0 p1 p2 p3 p4 p5 :: [fldS ar x1 f1 a0 b0 c0 d0]) scope params fd) (hms : mg "super" = none)
    (hno0 : PySem.W.findIn K (.ref C) f1 = some none)
    (hks : scope.names.lookup ("super" : Str) = some .globalImplicit := by rfl) (hkc : scope.names.lookup ("__class__" : Str) = some .free := by rfl) (hk : scope.kind = .function := by rfl) (hl0 : scope.names.lookup ar = some .local := by rfl)
    (hl1 : scope.names.lookup x1 = some .local := by rfl) (hd1 : (x1 == ("__debug__" : Str)) = false := by decide) (hm1 : ∀ r u1 : Value, (([ar, x1].zip [r, u1]).reverse.lookup x1) = some u1 := by intro _ _; rfl)
    (hd0 : (ar == ("__debug__" : Str)) = false := by decide) (hm0 : ∀ r u1 : Value, (([ar, x1].zip [r, u1]).reverse.lookup ar) = some r := by intro _ _; rfl)
    (htop : (P.main.scope.names.lookup ("super" : Str)).isSome = false := by rfl) (hcl : ∀ y ∈ scope.names, y.2 ≠ .cell := by decide) (hco : scope.isCoroutine = false := by rfl) (hge : scope.isGenerator = false := by rfl)
    (hsw : ∀ L cd cc, swapsWith (.Call (.Attribute (.Call (.Name "super" p0) [] [] p1) "__init__" p2) [.Constant (.str txt) j p3] [] p4) none p5.line (PySem.W.ksEnv qual scope L f cd cc) = pure false := by intro _ _ _; rfl)
    (hsw1 : ∀ L cd cc, swapsWith (.Name x1 c0) (some (.Attribute (.Name ar a0) f1 b0)) d0.line (PySem.W.ksEnv qual scope L f cd cc) = pure false := by intro _ _ _; rfl)
    (hint : ∀ L cd cc, interactive (PySem.W.ksEnv qual scope L f cd cc) = false := by intro _ _ _; rfl) {pl : Sem Bool} (hev : ∀ L cd cc, eval (.Call (.Attribute (.Call (.Name "super" p0) [] [] p1) "__init__" p2) [.Constant (.str txt) j p3] [] p4) (PySem.W.ksEnv qual scope L f cd cc) = (do
      let ov ← attributeBase (.Call (.Name "super" p0) [] [] p1) "__init__" (PySem.W.ksEnv qual scope L f cd cc) (eval (.Call (.Name "super" p0) [] [] p1) (PySem.W.ksEnv qual scope L f cd cc))
      standAt p2.atName
      let (fn, first) ← holding [ov] (getMethod ov "__init__" pl)
      callWith p4 fn first (backTo p4 (starEach [.Constant (.str txt) j p3] (PySem.W.ksEnv qual scope L f cd cc))) []) := by intro _ _ _; rfl) :
    FnOk P w K mg base CX 1 f fd [ar, x1] (spX C [f1]) := by
  obtain ⟨name, kV, dV, doc, pm, ct, oc, an, od, osl, cc, cda, aa, ccl, cl, cdd, cld, vs0, ccs, csl, file, tf, cd, e1, e2, e3, e4, e5, e6, e7, e8, e9, e10⟩ := T.ex
  refine ⟨fun vs H Q E ⟨a, ws, e, hl, _⟩ => by rw [e, List.length_cons, hl]; rfl, fun A outer s H args us vs Q E hr e0 hb r hsp => ?_⟩
  obtain ⟨a, ws, rfl, hl, ea, q⟩ := hsp
  obtain ⟨w1, rfl⟩ : ∃ w1, ws = [w1] := by
    match ws, hl with
    | [w1], _ => exact ⟨w1, rfl⟩
  obtain ⟨u0, u1, rfl, r0, r1⟩ := vals2 r
  obtain rfl : u0 = Value.ref a := r0
  have bk : ∀ b o, base.get? b = some o → s.heap.get? b = some o := fun b o e => (e0.bs b o e).1
  have KX : K.In s.heap := e0.mod.kin.keeps bk
  have lim : s.heap.NoLimit := e0.mod.nolimit.keeps bk
  obtain ⟨t0, hoe⟩ := exo_at e0.hok ea
  have hsz : a < s.heap.objs.size := Heap.lt_size hoe
  subst e1
  refine ks_codeAny_call_defAt hr.depth (KX _ _ e2) rfl lim (PySem.W.codeRec_of KX e3) rfl hb hcl (fun y hy => ?_) (fun h₀ hns hk₀ => ?_) hco hge hk
  · have hy' : y ∈ [(ar, Value.ref a), (x1, u1)] := hy
    simp only [List.mem_cons, List.not_mem_nil, or_false] at hy'
    rcases hy' with rfl | rfl
    · exact hl0
    · exact hl1
  have hla : s.heap.objs.size ≠ a := Nat.ne_of_gt hsz
  have bk0 : ∀ b o, base.get? b = some o → h₀.get? b = some o := fun b o e => hk₀ b o (bk b o e)
  refine ks_wpAt_execs_cons (xi_super (ar := ar) (cc := cc) (cda := cda) (a := a) T.oex e0.mod bk0 hms e2 e4 e6 e7 e8 e9 e10 T.sub T.sup T.isV T.sta hns (by rw [e5]; exact hm0 _ u1) (hk₀ _ _ hoe) hks hkc (by rw [e5]; exact hl0) hk htop (hsw _ _ _) (hint _ _ _) (hev _ _ _) fun h1 t1 tk k1 g1 => ?_)
  have K1 : K.In h1 := fun b o e => by
    refine k1 b o (fun z => ?_) (hk₀ b o (KX b o e))
    have := (e0.bs b o (e0.mod.kin b o e)).2
    rw [z, ea] at this; cases this
  have n1 : h1.Ns s.heap.objs.size (fun y => ([(ar, Value.ref a), (x1, u1)] : List (Str × Value)).reverse.lookup y) := hns.at fun o e => k1 _ o hla e
  have s1 : s.heap.objs.size < h1.objs.size := by
    obtain ⟨oL, _, _, hL, _⟩ := n1
    exact Heap.lt_size hL
  refine wpAt_of_wpAny ?_
  refine wpAny_execs_cons (xi_new (env := PySem.W.ksEnv qual scope s.heap.objs.size f (.ref cda) cc) T.oex K1 n1 (hm0 _ u1) (hm1 _ u1) g1 hno0 hk hl0 hl1 hd0 hd1 (hsw1 _ _ _) fun h2 tk2 dx k2 dn dne g2 ns2 => ?_)
  refine wpAny_execs_nil ?_
  obtain ⟨un, hk2⟩ := xi_end (fs := frs outer) (flds := [(f1, w1)]) e0.hok ea (fun b o hb e => k2 b o hb (k1 b o hb (hk₀ b o e))) (Nat.le_trans (Nat.le_of_lt s1) dn) dne g2 ns2 (relO_put (fs := []) r1 fun g => True.intro)
  exact ⟨.non, _, rfl, e0.bare, un, hk2, rfl, q dx (e0.hok.fresh (Nat.le_trans (Nat.le_of_lt s1) dn)) dne⟩
theorem fn_x2 {CX : CXT} {P : Program} {w : World} {K : Frag} {mg : Str → Option Value} {base : Heap} {C f : Addr} {ar x1 x2 f1 f2 qual txt : Str} {scope : Scope} {params : Arguments} {fd : FuncData} {j : Nat} {p0 p1 p2 p3 p4 p5 a0 b0 c0 d0 a1 b1 c1 d1 : Pos}
    (T : XcC P K C f ar qual (supS txt j p0 p1 p2 p3 p4 p5 :: [fldS ar x1 f1 a0 b0 c0 d0, fldS ar x2 f2 a1 b1 c1 d1]) scope params fd) (hms : mg "super" = none)
    (hno0 : PySem.W.findIn K (.ref C) f1 = some none)
    (hno1 : PySem.W.findIn K (.ref C) f2 = some none)
    (hks : scope.names.lookup ("super" : Str) = some .globalImplicit := by rfl) (hkc : scope.names.lookup ("__class__" : Str) = some .free := by rfl) (hk : scope.kind = .function := by rfl) (hl0 : scope.names.lookup ar = some .local := by rfl)
    (hl1 : scope.names.lookup x1 = some .local := by rfl) (hd1 : (x1 == ("__debug__" : Str)) = false := by decide) (hm1 : ∀ r u1 u2 : Value, (([ar, x1, x2].zip [r, u1, u2]).reverse.lookup x1) = some u1 := by intro _ _ _; rfl)
    (hl2 : scope.names.lookup x2 = some .local := by rfl) (hd2 : (x2 == ("__debug__" : Str)) = false := by decide) (hm2 : ∀ r u1 u2 : Value, (([ar, x1, x2].zip [r, u1, u2]).reverse.lookup x2) = some u2 := by intro _ _ _; rfl)
    (hd0 : (ar == ("__debug__" : Str)) = false := by decide) (hm0 : ∀ r u1 u2 : Value, (([ar, x1, x2].zip [r, u1, u2]).reverse.lookup ar) = some r := by intro _ _ _; rfl)
    (htop : (P.main.scope.names.lookup ("super" : Str)).isSome = false := by rfl) (hcl : ∀ y ∈ scope.names, y.2 ≠ .cell := by decide) (hco : scope.isCoroutine = false := by rfl) (hge : scope.isGenerator = false := by rfl)
    (hsw : ∀ L cd cc, swapsWith (.Call (.Attribute (.Call (.Name "super" p0) [] [] p1) "__init__" p2) [.Constant (.str txt) j p3] [] p4) none p5.line (PySem.W.ksEnv qual scope L f cd cc) = pure false := by intro _ _ _; rfl)
    (hsw1 : ∀ L cd cc, swapsWith (.Name x1 c0) (some (.Attribute (.Name ar a0) f1 b0)) d0.line (PySem.W.ksEnv qual scope L f cd cc) = pure false := by intro _ _ _; rfl)
    (hsw2 : ∀ L cd cc, swapsWith (.Name x2 c1) (some (.Attribute (.Name ar a1) f2 b1)) d1.line (PySem.W.ksEnv qual scope L f cd cc) = pure false := by intro _ _ _; rfl)
    (hint : ∀ L cd cc, interactive (PySem.W.ksEnv qual scope L f cd cc) = false := by intro _ _ _; rfl) {pl : Sem Bool} (hev : ∀ L cd cc, eval (.Call (.Attribute (.Call (.Name "super" p0) [] [] p1) "__init__" p2) [.Constant (.str txt) j p3] [] p4) (PySem.W.ksEnv qual scope L f cd cc) = (do
      let ov ← attributeBase (.Call (.Name "super" p0) [] [] p1) "__init__" (PySem.W.ksEnv qual scope L f cd cc) (eval (.Call (.Name "super" p0) [] [] p1) (PySem.W.ksEnv qual scope L f cd cc))
      standAt p2.atName
      let (fn, first) ← holding [ov] (getMethod ov "__init__" pl)
      callWith p4 fn first (backTo p4 (starEach [.Constant (.str txt) j p3] (PySem.W.ksEnv qual scope L f cd cc))) []) := by intro _ _ _; rfl) :
    FnOk P w K mg base CX 1 f fd [ar, x1, x2] (spX C [f1, f2]) := by
  obtain ⟨name, kV, dV, doc, pm, ct, oc, an, od, osl, cc, cda, aa, ccl, cl, cdd, cld, vs0, ccs, csl, file, tf, cd, e1, e2, e3, e4, e5, e6, e7, e8, e9, e10⟩ := T.ex
  refine ⟨fun vs H Q E ⟨a, ws, e, hl, _⟩ => by rw [e, List.length_cons, hl]; rfl, fun A outer s H args us vs Q E hr e0 hb r hsp => ?_⟩
  obtain ⟨a, ws, rfl, hl, ea, q⟩ := hsp
  obtain ⟨w1, w2, rfl⟩ : ∃ w1 w2, ws = [w1, w2] := by
    match ws, hl with
    | [w1, w2], _ => exact ⟨w1, w2, rfl⟩
  obtain ⟨u0, u1, u2, rfl, r0, r1, r2⟩ : ∃ u0 u1 u2, us = [u0, u1, u2] ∧ RelV (V.ref a) u0 ∧ RelV w1 u1 ∧ RelV w2 u2 := by
    cases r with
    | cons r0 rr => cases rr with
      | cons r1 rr => cases rr with
        | cons r2 rr => cases rr; exact ⟨_, _, _, rfl, r0, r1, r2⟩
  obtain rfl : u0 = Value.ref a := r0
  have bk : ∀ b o, base.get? b = some o → s.heap.get? b = some o := fun b o e => (e0.bs b o e).1
  have KX : K.In s.heap := e0.mod.kin.keeps bk
  have lim : s.heap.NoLimit := e0.mod.nolimit.keeps bk
  obtain ⟨t0, hoe⟩ := exo_at e0.hok ea
  have hsz : a < s.heap.objs.size := Heap.lt_size hoe
  subst e1
  refine ks_codeAny_call_defAt hr.depth (KX _ _ e2) rfl lim (PySem.W.codeRec_of KX e3) rfl hb hcl (fun y hy => ?_) (fun h₀ hns hk₀ => ?_) hco hge hk
  · have hy' : y ∈ [(ar, Value.ref a), (x1, u1), (x2, u2)] := hy
    simp only [List.mem_cons, List.not_mem_nil, or_false] at hy'
    rcases hy' with rfl | rfl | rfl
    · exact hl0
    · exact hl1
    · exact hl2
  have hla : s.heap.objs.size ≠ a := Nat.ne_of_gt hsz
  have bk0 : ∀ b o, base.get? b = some o → h₀.get? b = some o := fun b o e => hk₀ b o (bk b o e)
  refine ks_wpAt_execs_cons (xi_super (ar := ar) (cc := cc) (cda := cda) (a := a) T.oex e0.mod bk0 hms e2 e4 e6 e7 e8 e9 e10 T.sub T.sup T.isV T.sta hns (by rw [e5]; exact hm0 _ u1 u2) (hk₀ _ _ hoe) hks hkc (by rw [e5]; exact hl0) hk htop (hsw _ _ _) (hint _ _ _) (hev _ _ _) fun h1 t1 tk k1 g1 => ?_)
  have K1 : K.In h1 := fun b o e => by
    refine k1 b o (fun z => ?_) (hk₀ b o (KX b o e))
    have := (e0.bs b o (e0.mod.kin b o e)).2
    rw [z, ea] at this; cases this
  have n1 : h1.Ns s.heap.objs.size (fun y => ([(ar, Value.ref a), (x1, u1), (x2, u2)] : List (Str × Value)).reverse.lookup y) := hns.at fun o e => k1 _ o hla e
  have s1 : s.heap.objs.size < h1.objs.size := by
    obtain ⟨oL, _, _, hL, _⟩ := n1
    exact Heap.lt_size hL
  refine wpAt_of_wpAny ?_
  refine wpAny_execs_cons (xi_new (env := PySem.W.ksEnv qual scope s.heap.objs.size f (.ref cda) cc) T.oex K1 n1 (hm0 _ u1 u2) (hm1 _ u1 u2) g1 hno0 hk hl0 hl1 hd0 hd1 (hsw1 _ _ _) fun h2 tk2 dx k2 dn dne g2 ns2 => ?_)
  have K2 : K.In h2 := fun b o e => by
    refine k2 b o (fun z => ?_) (K1 b o e)
    have := (e0.bs b o (e0.mod.kin b o e)).2
    rw [z, ea] at this; cases this
  have n2 : h2.Ns s.heap.objs.size (fun y => ([(ar, Value.ref a), (x1, u1), (x2, u2)] : List (Str × Value)).reverse.lookup y) := n1.at fun o e => k2 _ o hla e
  have rel1 : ∀ y, RelO (([(f1, w1)] : List (Str × V)).lookup y) (if y = f1 then some u1 else none) := relO_put (fs := []) r1 fun g => True.intro
  refine wpAny_execs_cons (xi_old (env := PySem.W.ksEnv qual scope s.heap.objs.size f (.ref cda) cc) T.oex K2 n2 (hm0 _ u1 u2) (hm2 _ u1 u2) g2 ns2 (within_of rel1) (by simp) hno1 hk hl0 hl2 hd0 hd2 (hsw2 _ _ _) fun h3 tk3 k3 ns3 => ?_)
  refine wpAny_execs_nil ?_
  have kd : ∀ b o, s.heap.get? b = some o → b ≠ dx := fun b o e => Nat.ne_of_lt (Nat.lt_of_lt_of_le (Heap.lt_size e) (Nat.le_trans (Nat.le_of_lt s1) dn))
  obtain ⟨un, hk2⟩ := xi_end (fs := frs outer) (flds := [(f2, w2), (f1, w1)]) e0.hok ea (fun b o hb e => k3 b o (kd b o e) (k2 b o hb (k1 b o hb (hk₀ b o e)))) (Nat.le_trans (Nat.le_of_lt s1) dn) dne (k3 a _ (Ne.symm dne) g2) ns3 (relO_put r2 rel1)
  exact ⟨.non, _, rfl, e0.bare, un, hk2, rfl, q dx (e0.hok.fresh (Nat.le_trans (Nat.le_of_lt s1) dn)) dne⟩
end KI

/-! part KI16 -/
set_option Elab.async false
set_option linter.all false
set_option maxRecDepth 100000
set_option maxHeartbeats 4000000
namespace KI
open PySem PySem.Spec PySem.Calls PyProof.Rows L2

/-! ## raise C(..) -/
structure FnX (P : Program) (w : World) (K : Frag) (mg : Str → Option Value) (base : Heap) (c : Str) (fs : List Str) : Prop where
  mgc : mg c = some (.ref (He.ga K c))
  oex : OexC K (He.ga K c)
  ex : ∃ (f : Addr) (fd : FuncData) (ps : List Str), PySem.W.findIn K (.ref (He.ga K c)) "__init__" = some (some (.ref f)) ∧ PySem.W.typeIn K (.ref f) = some (.type "function") ∧ FnOk P w K mg base (L2.CX P w) 1 f fd ps (spX (He.ga K c) fs) ∧ Binds K fd ps []
def raiseS (c : Str) (fs : List Str) (fa : AF) : SF := fun env st => liftS (fa env st) env fun ps st' => if ps.length = fs.length ∧ ps.length ≤ 1000 then .exc c fs.reverse ps.reverse env st' else .stuck
theorem RepL.reverse {K : Frag} {F : Hp} : ∀ {ps : List PV} {vs : List V}, RepL K F ps vs → RepL K F ps.reverse vs.reverse
  | [], _, h => by cases (show _ = ([] : List V) from h); exact rfl
  | p :: ps, _, ⟨v, r, h1, h2, h3⟩ => by
    subst h1
    rw [List.reverse_cons, List.reverse_cons]
    exact h3.reverse.append (RepL.one h2)
theorem zip_rev {α β : Type} : ∀ {as : List α} {bs : List β}, as.length = bs.length → (as.zip bs).reverse = as.reverse.zip bs.reverse
  | [], [], _ => rfl
  | a :: as, b :: bs, h => by
    rw [List.zip_cons_cons, List.reverse_cons, List.reverse_cons, List.reverse_cons, zip_rev (by simpa using h), List.zip_append (by simpa using h)]
    rfl
theorem passF {X : Cx} : Passes (L2.CX X.prog X.w) X (fun _ _ _ => False) := fun _ _ _ _ _ _ _ ⟨_, _, _, _, _, _, _, _, _, _, _, _, z⟩ => z.elim
theorem qs_raise {X : Cx} {B : Bs} {W : WX} {c : Str} {fs : List Str} {ms : List Md} {e : Expr} {es : List Expr} {fa : AF} {p pos pos2 : Pos} (hf : FnX X.prog X.w X.K X.mg X.base c fs) (hc : X.calm = true) (tk : Takes X W) (hr : Room 2 X.A) (ha : QA X B W ms (e :: es) fa)
    (hms : ms.all (fun m => match m with | .val => true | _ => false) = true := by rfl) (hg : Gl X c := by rfl) (hdb : (c == ("__debug__" : Str)) = false := by decide) (he : starEach (e :: es) X.env = (false, eval e X.env) :: starEach es X.env := by rfl) (hpl : (backTo pos (starEach es X.env)).any (·.1) = false := by rfl) :
    QS X B W (.Raise (some (.Call (.Name c p) (e :: es) [] pos)) none pos2) (raiseS c fs fa) := by
  obtain ⟨f, fd, ps, iC, tI, F1, hb⟩ := hf.ex
  refine ⟨ps_imp (ps_raise hc tk (pmk_oex hf.oex iC tI F1 hr hb .nil passF hg hf.mgc ha.pa hdb he hpl)) fun D σ H ⟨F, env, st, g, q⟩ => ⟨F, env, st, g, q.lift.mono fun qs st1 F1 H1 s1 g1 r vs hvs => ?_⟩⟩
  have hrep := hvs.vals hms
  by_cases hl : qs.length = fs.length ∧ qs.length ≤ 1000
  · rw [if_pos hl] at r
    obtain ⟨hl, hz⟩ := hl
    have hlv : vs.length = fs.length := hrep.length.symm.trans hl
    refine ⟨hrep.length ▸ hz, fun a ha => ⟨a, vs ++ [], rfl, by rw [List.append_nil]; exact hlv, upd_same, fun dx hdx hne => ⟨rfl, dx, _, upd_same, by rw [upd_ne hne, upd_same], by rw [upd_ne hne] at hdx; exact hdx, ?_⟩⟩⟩
    have hdx1 : H1 dx = none := by rw [upd_ne hne] at hdx; exact hdx
    have eH : upd (del (upd (upd (upd H1 a (exo a (He.ga X.K c) none)) dx (exd dx (fs.zip (vs ++ [])).reverse)) a (exo a (He.ga X.K c) (some dx))) a) dx (.xd (fs.zip (vs ++ [])).reverse) = upd H1 dx (.xd (fs.reverse.zip vs.reverse)) := by
      rw [List.append_nil, zip_rev hlv.symm]
      funext b
      by_cases hb : b = dx
      · subst hb; rw [upd_same, upd_same]
      · rw [upd_ne hb, upd_ne hb]
        by_cases hba : b = a
        · subst hba; rw [del_same]; exact ha.symm
        · rw [del_ne hba, upd_ne hba, upd_ne hb, upd_ne hba]
    rw [eH]
    exact r σ (upd F1 dx (.xd (fs.reverse.zip vs.reverse))) _ dx vs.reverse (Same.upd_new (g1.fnone hdx1)) (g1.alloc hdx1) upd_same (by simp [hlv]) (RepL.mono (Same.upd_new (g1.fnone hdx1)) _ _ hrep.reverse)
  · rw [if_neg hl] at r; exact r.elim

/-! ## try: .. except X as n: .. -/
/-- what the clauses wish of an exception of the body, one after the other; with a name: the slot -/
def wAll (K : Frag) (Wout : WX) (D : Ends) : List (Value × Option Nat × (Addr → Value → Option Addr → TS)) → WX
  | [] => Wout
  | (c, none, ts) :: r => fun cls d σ H => ∃ b, PySem.W.exmOne K cls c = some b ∧ (b = true → ∀ a, H a = none → ts a cls d D σ H) ∧ (b = false → wAll K Wout D r cls d σ H)
  | (c, some i, ts) :: r => fun cls d σ H => ∃ b, PySem.W.exmOne K cls c = some b ∧ (b = true → ∀ a, H a = none → ts a cls d { nx := fun σ' H' => D.nx (σ'.set i none) H', rt := D.rt, bk := fun σ' H' => D.bk (σ'.set i none) H', ct := fun σ' H' => D.ct (σ'.set i none) H' } (σ.set i (some (.ref a))) H) ∧ (b = false → wAll K Wout D r cls d σ H)
inductive HX (X : Cx) : List ExceptHandler → List (Value × Option Nat × (Addr → Value → Option Addr → TS)) → Prop
  | nil : HX X [] []
  | no {x : Str} {c : Value} {ts : Addr → Value → Option Addr → TS} {b₀ : Stmt} {suite : List Stmt} {np pos' : Pos} {hds : List ExceptHandler} {l : List (Value × Option Nat × (Addr → Value → Option Addr → TS))} (hc : Names X x c)
      (hsu : ∀ (a : Addr) (oe : Obj) (cls : Value) (d : Option Addr) (pn : List (Addr × Obj)), Zc cls d oe → (∃ vs, oe.data = .fields vs) → PSs (X.suite a ((a, oe) :: pn)) (b₀ :: suite) (ts a cls d)) (r : HX X hds l) :
      HX X (.ExceptHandler (some (.Name x np)) none (b₀ :: suite) pos' :: hds) ((c, none, ts) :: l)
  | as {x n : Str} {i : Nat} {c : Value} {ts : Addr → Value → Option Addr → TS} {b₀ : Stmt} {suite : List Stmt} {np pos' : Pos} {hds : List ExceptHandler} {l : List (Value × Option Nat × (Addr → Value → Option Addr → TS))} (hc : Names X x c) (hi : X.N[i]? = some n) (hln : X.env.kindOf n = some .local)
      (hsu : ∀ (a : Addr) (oe : Obj) (cls : Value) (d : Option Addr) (pn : List (Addr × Obj)), Zc cls d oe → (∃ vs, oe.data = .fields vs) → PSs (X.suite a ((a, oe) :: pn)) (b₀ :: suite) (ts a cls d)) (r : HX X hds l) :
      HX X (.ExceptHandler (some (.Name x np)) (some n) (b₀ :: suite) pos' :: hds) ((c, some i, ts) :: l)
section
variable {X : Cx} {body : List Stmt} {h₀ : ExceptHandler} {hds : List ExceptHandler} {l : List (Value × Option Nat × (Addr → Value → Option Addr → TS))} {pos : Pos} {tb : WX → TS} {Wout : WX}
theorem ps_try_hx (hs : X.stack = X.env :: X.outer) (hf : X.env.frame = some X.env.locals) (hN : X.N.Nodup) (tk : Takes X Wout)
    (hb : ∀ (W : WX) (pn : List (Addr × Obj)) (xe : Value → Shared → Prop), Takes (X.tr pn xe) W → PassesOwn (model X.prog X.w) X.A X.env xe → PSs (X.tr pn xe) body (tb W))
    (hh : HX X (h₀ :: hds) l) : PS X (.Try body (h₀ :: hds) [] [] pos) (fun D σ H => tb (wAll X.K Wout D l) D σ H) := by
  refine ⟨fun pins s σ H D I h => ?_⟩
  have ok := I.ok
  have hfr : X.A.frames = some (X.env :: X.outer) := by rw [ok.frames, hs]
  refine wpAny_Try_except ?_
  refine wpAny_mono ((hb (wAll X.K Wout D l) (X.pn ++ pins) (fun e s₁ => wpAny (model X.prog X.w) X.A (noteFrame e X.env) (fun _ s₂ => wpAny (model X.prog X.w) X.A (setFlight e none) (fun _ s₃ =>
    wpAny (model X.prog X.w) X.A (handleBy e X.env (h₀ :: hds)) (SP X pins D) X.xe s₃) X.xe s₂) X.xe s₁) (fun u s' xx => ?_) PassesOwn.looking).run [] s σ H D (I.toTry _) h) (fun f s1 hsp => ?_) (fun e s1 he => he)
  · obtain ⟨a, B, sI, pins', σ', H', cls, d, rfl, J', nb, up, sky, na, os, ag, w⟩ := xx
    have J : Inv X pins σ' H' sI := J'.ofTry ok
    have sky' : Sky B (X.env :: X.outer) a (Zc cls d) X.env.locals s'.heap := by rw [← hs]; exact sky
    show wpAny (model X.prog X.w) X.A (noteFrame (.ref a) X.env) _ _ _
    refine Sky.land Zc.steady hfr hf sky' fun h3 fl3 up3 => ?_
    have J3 : Inv X pins σ' H' { s' with heap := h3 } := J.landed nb fl3.1 (up.trans up3) os ag
    obtain ⟨oe3, vs3, he3, hz3, hd3⟩ := fl3.there
    have notFr : ∀ {h : Heap} {o : Obj} {vs : Array Value}, h.FunFrames B (X.env :: X.outer) → h.get? a = some o → o.data = .fields vs → a ∉ frs (X.env :: X.outer) := fun {h o vs} ff e dd hm => by
      obtain ⟨_, o', e', hnf⟩ := ff.mem hm
      rw [e] at e'; cases e'
      exact hnf _ dd
    have nfr := notFr fl3.2.2.1 he3 hd3
    have nL : a ≠ X.env.locals := fun z => nfr (List.mem_filterMap.mpr ⟨X.env, List.mem_cons_self, by rw [hf, z]⟩)
    have nF : a ∉ X.fs := fun hm => by
      obtain ⟨e, he, q⟩ := List.mem_filterMap.mp hm
      exact nfr (List.mem_filterMap.mpr ⟨e, List.mem_cons_of_mem _ he, q⟩)
    have S3 := J3.suite he3 hd3 na nL nF
    have go : ∀ {hds' : List ExceptHandler} {l' : List (Value × Option Nat × (Addr → Value → Option Addr → TS))}, HX X hds' l' → wAll X.K Wout D l' cls d σ' H' →
        wpAny (model X.prog X.w) X.A (handleBy (.ref a) X.env hds') (SP X pins D) X.xe { s' with heap := h3 } := by
      intro hds' l' hk
      induction hk with
      | nil =>
        intro w
        refine wpAny_handleBy_nil ?_
        obtain ⟨k1, k2, k3, oe, vs, T, oT, ts', he, hz, hd, h1, hr⟩ := id fl3
        unfold PySem.passOn
        refine wpAny_bind (wpAny_field he hd h1 ?_)
        rw [if_neg (show ¬ ((Value.ref T == Value.none) = true) from by simp)]
        have fin : wpAny (model X.prog X.w) X.A (setFlight (.ref a) X.env.frame) (fun _ s4 => wpAny (model X.prog X.w) X.A (throw (.ref a) : Sem Flow) (SP X pins D) X.xe s4) X.xe { s' with heap := h3 } := by
          rw [hf]
          refine HandSPX.setFlight_upZ fl3 fun h4 hh4 up4 => wpAny_throw (tk _ _ ?_)
          exact ⟨a, B, sI, pins, σ', H', cls, d, rfl, J, nb, (up.trans up3).trans up4, .inr (.inr (by rw [hs]; exact hh4)), na, os, ag, w⟩
        first
          | exact wpAny_bind (wpAny_pure (wpAny_bind fin))
          | exact wpAny_bind fin
      | @no x c ts b₀ suite np pos' hds2 l2 hc hsu r ih =>
        intro w
        obtain ⟨b, hb1, hyes, hno⟩ := w
        refine wpAny_handleBy_cons (codeAny_handlers_test ?_) (by intro q; cases q)
        have LT : PySem.W.Looks (model X.prog X.w) h3 (typeOf (.ref a)) cls := fun A Q E s k q => wpAny_typeOf_ref (k _ _ he3) (by rw [hz3.1]; exact q)
        have LM := PySem.W.exm_one (M := model X.prog X.w) (J3.kIn) LT hb1
        have test : ∀ {Q : Value → Shared → Prop} {E : Value → Shared → Prop}, Q c { s' with heap := h3 } → wpAny (model X.prog X.w) (X.A.mark (some (.ref a))) (eval (.Name x np) X.env) Q E { s' with heap := h3 } := fun {Q E} q => by
          obtain ⟨hg, hdbg, hm | ⟨hm, hv, hnn⟩⟩ := hc
          · exact ld_glob (X := X.suite a ((a, oe3) :: (X.pn ++ pins))) S3 hg hm q hdbg
          · exact ld_blt (X := X.suite a ((a, oe3) :: (X.pn ++ pins))) S3 hg hm hv q hnn hdbg
        refine test (LM.here ?_)
        cases b with
        | true =>
          refine codeAny_handlers_suite ?_
          refine HandSPX.lands_againZ fl3 fun h4 fl4 up4 => ?_
          have J4 : Inv X pins σ' H' { s' with heap := h4 } := J.landed nb fl4.1 ((up.trans up3).trans up4) os ag
          obtain ⟨oe4, vs4, he4, hz4, hd4⟩ := fl4.there
          have S4 := J4.suite he4 hd4 na nL nF
          refine wpAny_mono ((hsu a oe4 cls d (X.pn ++ pins) hz4 ⟨_, hd4⟩).run [] _ _ H' _ S4 (hyes rfl a na)) (fun f s6 hsp => ?_) (fun _ _ z => False.elim z)
          cases f with
          | next =>
            obtain ⟨σ6, H6, S6, q6⟩ := hsp
            exact ⟨_, _, S6.unsuite ok, q6⟩
          | brk =>
            obtain ⟨σ6, H6, S6, q6⟩ := hsp
            exact ⟨_, _, S6.unsuite ok, q6⟩
          | cont =>
            obtain ⟨σ6, H6, S6, q6⟩ := hsp
            exact ⟨_, _, S6.unsuite ok, q6⟩
          | ret u =>
            obtain ⟨v6, σ6, H6, S6, r6, q6⟩ := hsp
            exact ⟨_, _, _, S6.unsuite ok, r6, q6⟩
        | false =>
          show wpAny _ X.A (handleBy (.ref a) X.env hds2) _ _ _
          exact ih (hno rfl)
      | @as x n i c ts b₀ suite np pos' hds2 l2 hc hi hln hsu r ih =>
        intro w
        obtain ⟨b, hb1, hyes, hno⟩ := w
        have hloc : Loc X.env.scope n := .inl hln
        refine wpAny_handleBy_cons (codeAny_handlers_test ?_) (by intro q; cases q)
        have LT : PySem.W.Looks (model X.prog X.w) h3 (typeOf (.ref a)) cls := fun A Q E s k q => wpAny_typeOf_ref (k _ _ he3) (by rw [hz3.1]; exact q)
        have LM := PySem.W.exm_one (M := model X.prog X.w) (J3.kIn) LT hb1
        have test : ∀ {Q : Value → Shared → Prop} {E : Value → Shared → Prop}, Q c { s' with heap := h3 } → wpAny (model X.prog X.w) (X.A.mark (some (.ref a))) (eval (.Name x np) X.env) Q E { s' with heap := h3 } := fun {Q E} q => by
          obtain ⟨hg, hdbg, hm | ⟨hm, hv, hnn⟩⟩ := hc
          · exact ld_glob (X := X.suite a ((a, oe3) :: (X.pn ++ pins))) S3 hg hm q hdbg
          · exact ld_blt (X := X.suite a ((a, oe3) :: (X.pn ++ pins))) S3 hg hm hv q hnn hdbg
        refine test (LM.here ?_)
        cases b with
        | true =>
          refine codeAny_handlers_suite_as ?_
          refine HandSPX.lands_againZ fl3 fun h4 fl4 up4 => ?_
          have J4 : Inv X pins σ' H' { s' with heap := h4 } := J.landed nb fl4.1 ((up.trans up3).trans up4) os ag
          obtain ⟨oe4, vs4, he4, hz4, hd4⟩ := fl4.there
          have S4 := J4.suite he4 hd4 na nL nF
          refine store_ok (X := X.suite a ((a, oe4) :: (X.pn ++ pins))) (v := .ref a) S4 hN hi hloc rfl (fun s5 S5 => ?_) (.inr hln)
          refine wpAny_mono ((hsu a oe4 cls d (X.pn ++ pins) hz4 ⟨_, hd4⟩).run [] s5 _ H' _ S5 (hyes rfl a na)) (fun f s6 hsp => ?_) (fun _ _ z => False.elim z)
          have end_ : ∀ {σ6 : L2.St} {H6 : Hp} {Q : Shared → Prop}, Inv (X.suite a ((a, oe4) :: (X.pn ++ pins))) [] σ6 H6 s6 → (∀ s7, Inv X pins (σ6.set i none) H6 s7 → Q s7) →
              wpAny (model X.prog X.w) X.A (do bindName X.env n .none; unbindBehindTheSuite X.env n pos') (fun _ s7 => Q s7) X.xe s6 := fun {σ6 H6 Q} S6 hq => gone_ok (S6.unsuite ok) hN hi hln hq
          cases f with
          | next =>
            obtain ⟨σ6, H6, S6, q6⟩ := hsp
            exact end_ S6 fun s7 J7 => ⟨_, _, J7, q6⟩
          | brk =>
            obtain ⟨σ6, H6, S6, q6⟩ := hsp
            exact end_ S6 fun s7 J7 => ⟨_, _, J7, q6⟩
          | cont =>
            obtain ⟨σ6, H6, S6, q6⟩ := hsp
            exact end_ S6 fun s7 J7 => ⟨_, _, J7, q6⟩
          | ret u =>
            obtain ⟨v6, σ6, H6, S6, r6, q6⟩ := hsp
            exact end_ S6 fun s7 J7 => ⟨_, _, _, J7, r6, q6⟩
        | false =>
          show wpAny _ X.A (handleBy (.ref a) X.env hds2) _ _ _
          exact ih (hno rfl)
    exact go hh w
  · cases f with
    | next =>
      obtain ⟨σ', H', J', q⟩ := hsp
      exact wpAny_execs_nil ⟨σ', H', J'.ofTry ok, q⟩
    | brk =>
      obtain ⟨σ', H', J', q⟩ := hsp
      exact ⟨σ', H', J'.ofTry ok, q⟩
    | cont =>
      obtain ⟨σ', H', J', q⟩ := hsp
      exact ⟨σ', H', J'.ofTry ok, q⟩
    | ret u =>
      obtain ⟨v, σ', H', J', r, q⟩ := hsp
      exact ⟨v, σ', H', J'.ofTry ok, r, q⟩
end
end KI

/-! part KI17 -/
set_option Elab.async false
set_option linter.all false
set_option maxRecDepth 100000
set_option maxHeartbeats 4000000
namespace KI
open PySem PySem.Spec PySem.Calls PyProof.Rows L2

def noX (env : SEnv) : Bool := env.all fun s => match s with
  | .exc _ _ _ => false
  | _ => true
def goneS (i : Nat) : SR → SR
  | .nx env st => if noX (env.set i .dead) = true then .nx (env.set i .dead) st else .stuck
  | .brk env st => if noX (env.set i .dead) = true then .brk (env.set i .dead) st else .stuck
  | .ct env st => if noX (env.set i .dead) = true then .ct (env.set i .dead) st else .stuck
  | .ret p o env st => if noX (env.set i .dead) = true then .ret p o (env.set i .dead) st else .stuck
  | .exc _ _ _ _ _ => .stuck
  | .stuck => .stuck
def keptS : SR → SR
  | .exc _ _ _ _ _ => .stuck
  | r => r
def handS (tbl : Str → Str → Option Bool) : List (Str × Option Nat × SF) → Str → List Str → List PV → SEnv → PV → SR
  | [], c, ns, ps, env, st => .exc c ns ps env st
  | (x, none, h) :: r, c, ns, ps, env, st => match tbl c x with
    | none => .stuck
    | some true => keptS (h env st)
    | some false => handS tbl r c ns ps env st
  | (x, some i, h) :: r, c, ns, ps, env, st => match tbl c x with
    | none => .stuck
    | some true => if noX (env.set i .dead) = true then goneS i (h (env.set i (.exc c ns ps)) st) else .stuck
    | some false => handS tbl r c ns ps env st
def tryS (tbl : Str → Str → Option Bool) (g : SF) (hs : List (Str × Option Nat × SF)) : SF := fun env st => match g env st with
  | .exc c ns ps env1 st1 => handS tbl hs c ns ps env1 st1
  | r => r
section
variable {K : Frag} {B : Bs} {F H F' H' : Hp} {env : SEnv} {st st' : PV} {σ : Sg}
theorem noX_get {i : Nat} {s : Slot} (h : noX env = true) (e : env[i]? = some s) : ∀ c ns ps, s ≠ .exc c ns ps := fun c ns ps z => by
  have := List.all_eq_true.mp h s (List.mem_of_getElem? e)
  rw [z] at this; cases this
theorem Good.xa (g : Good K B F H env st σ) (h : noX env = true) (z : Option (Addr × Addr × Str)) : Good K { B with xa := z } F H env st σ :=
  ⟨g.le, g.le0, g.kept, g.there, g.frs, g.len, fun i s e => by
    obtain ⟨o, h1, h2⟩ := g.slots i s e
    refine ⟨o, h1, ?_⟩
    cases s with
    | exc c ns ps => exact absurd rfl (noX_get h e c ns ps)
    | _ => exact h2, g.sep, g.mt1⟩
theorem Good.goneX {a d : Addr} {c : Str} {i : Nat} (g : Good K { B with xa := some (a, d, c) } F H env st σ) (h : noX (env.set i .dead) = true) : Good K B F H (env.set i .dead) st (σ.set i none) := by
  have := (g.wipe [i]).xa (z := B.xa) h
  exact this
/-- the exception takes its slot -/
theorem Good.putX {a d : Addr} {c : Str} {ns : List Str} {ps : List PV} {vs : List V} {i : Nat} (g : Good K B F H env st σ) (h : noX (env.set i .dead) = true) (hd : F d = some (.xd (ns.zip vs))) (hl : ns.length = vs.length) (hr : RepL K F ps vs) :
    Good K { B with xa := some (a, d, c) } F H (env.set i (.exc c ns ps)) st (σ.set i (some (.ref a))) := by
  have g1 := (g.kill i).xa h (some (a, d, c))
  have g2 := g1.set i (v := .ref a) (s := .exc c ns ps) ⟨a, d, vs, rfl, rfl, hd, hl, hr⟩ fun z => nomatch z
  rw [List.set_set] at g2
  exact g2
end
section
variable {X : Cx} {B : Bs} {W : WX} {tbl : Str → Str → Option Bool}
inductive QH (X : Cx) (B : Bs) : List ExceptHandler → List (Str × Option Nat × SF) → Prop
  | nil : QH X B [] []
  | no {x : Str} {h : SF} {b₀ : Stmt} {suite : List Stmt} {np pos' : Pos} {hds : List ExceptHandler} {l : List (Str × Option Nat × SF)} (hc : Names X x (.ref (He.ga X.K x)))
      (hsu : ∀ (a : Addr) (oe : Obj) (pn : List (Addr × Obj)), QSs (X.suite a ((a, oe) :: pn)) B W0 (b₀ :: suite) h) (r : QH X B hds l) :
      QH X B (.ExceptHandler (some (.Name x np)) none (b₀ :: suite) pos' :: hds) ((x, none, h) :: l)
  | as {x n : Str} {i : Nat} {h : SF} {b₀ : Stmt} {suite : List Stmt} {np pos' : Pos} {hds : List ExceptHandler} {l : List (Str × Option Nat × SF)} (hc : Names X x (.ref (He.ga X.K x))) (hi : X.N[i]? = some n) (hln : X.env.kindOf n = some .local)
      (hsu : ∀ (a : Addr) (oe : Obj) (c : Str) (d : Addr) (pn : List (Addr × Obj)), Zc (.ref (He.ga X.K c)) (some d) oe → (∃ vs, oe.data = .fields vs) → QSs (X.suite a ((a, oe) :: pn)) { B with xa := some (a, d, c) } W0 (b₀ :: suite) h) (r : QH X B hds l) :
      QH X B (.ExceptHandler (some (.Name x np)) (some n) (b₀ :: suite) pos' :: hds) ((x, some i, h) :: l)
def tsOf (K : Frag) (B : Bs) : Str × Option Nat × SF → Value × Option Nat × (Addr → Value → Option Addr → TS)
  | (x, none, h) => (.ref (He.ga K x), none, fun _ _ _ => tS K B W0 h)
  | (x, some i, h) => (.ref (He.ga K x), some i, fun a cls d => fun D σ H => ∃ (c : Str) (dd : Addr), cls = .ref (He.ga K c) ∧ d = some dd ∧ tS K { B with xa := some (a, dd, c) } W0 h D σ H)
theorem QH.hx {hds : List ExceptHandler} {l : List (Str × Option Nat × SF)} (h : QH X B hds l) : HX X hds (l.map (tsOf X.K B)) := by
  induction h with
  | nil => exact .nil
  | no hc hsu r ih => exact .no hc (fun a oe cls d pn hz hf => (hsu a oe pn).pss) ih
  | as hc hi hln hsu r ih =>
    refine .as hc hi hln (fun a oe cls d pn hz hf => ⟨fun pins s σ H D I ⟨c, dd, e1, e2, q⟩ => ?_⟩) ih
    subst e1 e2
    exact (hsu a oe c dd pn hz hf).pss.run pins s σ H D I q
theorem kept_post {K : Frag} {W : WX} {D : Ends} {F : Hp} {r : SR} (h : SPost K B W D F (keptS r)) : SPost K B W0 D F r := by
  cases r with
  | exc c ns ps env st => exact h.elim
  | _ => exact h
theorem gone_post {K : Frag} {W : WX} {D : Ends} {F : Hp} {a d : Addr} {c : Str} {i : Nat} {r : SR} (h : SPost K B W D F (goneS i r)) :
    SPost K { B with xa := some (a, d, c) } W0 { nx := fun σ' H' => D.nx (σ'.set i none) H', rt := D.rt, bk := fun σ' H' => D.bk (σ'.set i none) H', ct := fun σ' H' => D.ct (σ'.set i none) H' } F r := by
  cases r with
  | nx env st =>
    unfold goneS at h
    dsimp only at h
    by_cases hz : noX (env.set i .dead) = true
    · rw [if_pos hz] at h; exact fun σ' F' H' s g => h _ F' H' s (g.goneX hz)
    · rw [if_neg hz] at h; exact h.elim
  | brk env st =>
    unfold goneS at h
    dsimp only at h
    by_cases hz : noX (env.set i .dead) = true
    · rw [if_pos hz] at h; exact fun σ' F' H' s g => h _ F' H' s (g.goneX hz)
    · rw [if_neg hz] at h; exact h.elim
  | ct env st =>
    unfold goneS at h
    dsimp only at h
    by_cases hz : noX (env.set i .dead) = true
    · rw [if_pos hz] at h; exact fun σ' F' H' s g => h _ F' H' s (g.goneX hz)
    · rw [if_neg hz] at h; exact h.elim
  | ret p o env st =>
    unfold goneS at h
    dsimp only at h
    by_cases hz : noX (env.set i .dead) = true
    · rw [if_pos hz] at h
      intro v σ' F' H' s g r
      exact h v _ F' H' s (g.goneX hz) r
    · rw [if_neg hz] at h; exact h.elim
  | exc c ns ps env st => exact h.elim
  | stuck => exact h.elim
theorem hand_post {D : Ends} {F : Hp} (htbl : ∀ c x b, tbl c x = some b → PySem.W.exmOne X.K (.ref (He.ga X.K c)) (.ref (He.ga X.K x)) = some b) {c : Str} {ns : List Str} {ps : List PV} {env : SEnv} {st : PV} {σ : Sg} {F' H' : Hp} {d : Addr} {vs : List V}
    (s : Same F F') (g : Good X.K B F' H' env st σ) (hd : F' d = some (.xd (ns.zip vs))) (hl : ns.length = vs.length) (hr : RepL X.K F' ps vs) : ∀ {l : List (Str × Option Nat × SF)}, SPost X.K B W D F (handS tbl l c ns ps env st) → wAll X.K W D (l.map (tsOf X.K B)) (.ref (He.ga X.K c)) (some d) σ H'
  | [], q => q σ F' H' d vs s g hd hl hr
  | (x, none, h) :: l, q => by
    unfold handS at q
    cases ht : tbl c x with
    | none => rw [ht] at q; exact q.elim
    | some b =>
      rw [ht] at q
      refine ⟨b, htbl _ _ _ ht, fun e a ha => ?_, fun e => ?_⟩
      · subst e
        exact ⟨F', env, st, g, SPost.mono s (kept_post q)⟩
      · subst e
        exact hand_post htbl s g hd hl hr q
  | (x, some i, h) :: l, q => by
    unfold handS at q
    cases ht : tbl c x with
    | none => rw [ht] at q; exact q.elim
    | some b =>
      rw [ht] at q
      refine ⟨b, htbl _ _ _ ht, fun e a ha => ?_, fun e => ?_⟩
      · subst e
        dsimp only at q
        by_cases hz : noX (env.set i .dead) = true
        · rw [if_pos hz] at q
          exact ⟨c, d, rfl, rfl, F', _, st, g.putX hz hd hl hr, SPost.mono s (gone_post q)⟩
        · rw [if_neg hz] at q; exact q.elim
      · subst e
        exact hand_post htbl s g hd hl hr q
theorem qs_try {body : List Stmt} {h₀ : ExceptHandler} {hds : List ExceptHandler} {l : List (Str × Option Nat × SF)} {pos : Pos} {g : SF} (htbl : ∀ c x b, tbl c x = some b → PySem.W.exmOne X.K (.ref (He.ga X.K c)) (.ref (He.ga X.K x)) = some b) (hs : X.stack = X.env :: X.outer) (hf : X.env.frame = some X.env.locals) (hN : X.N.Nodup) (tk : Takes X W)
    (hb : ∀ (W : WX) (pn : List (Addr × Obj)) (xe : Value → Shared → Prop), Takes (X.tr pn xe) W → PassesOwn (model X.prog X.w) X.A X.env xe → QSs (X.tr pn xe) B W body g) (hh : QH X B (h₀ :: hds) l) : QS X B W (.Try body (h₀ :: hds) [] [] pos) (tryS tbl g l) :=
  ⟨ps_imp (ps_try_hx (tb := fun W => tS X.K B W g) hs hf hN tk (fun W pn xe tk hp => (hb W pn xe tk hp).pss) hh.hx) fun D σ H ⟨F, env, st, g0, q⟩ => ⟨F, env, st, g0, by
    unfold tryS at q
    cases hr : g env st with
    | exc c ns ps env1 st1 =>
      rw [hr] at q
      intro σ' F' H' d vs s gg hd hl hrr
      exact hand_post htbl s gg hd hl hrr q
    | nx env1 st1 => rw [hr] at q; exact q
    | brk env1 st1 => rw [hr] at q; exact q
    | ct env1 st1 => rw [hr] at q; exact q
    | ret p o env1 st1 => rw [hr] at q; exact q
    | stuck => rw [hr] at q; exact q.elim⟩⟩
end

/-! ## e.f of the exception at hand -/
structure XGet (K : Frag) (C : Addr) (f : Str) : Prop where
  ga : PySem.W.findIn K (.ref C) "__getattribute__" = some (some (.builtin "BaseException.__getattribute__"))
  gg : PySem.W.findIn K (.ref C) "__getattr__" = some none
  noN : PySem.W.findIn K (.ref C) f = some none
  exC : PySem.W.subIn K (.ref C) (.type "BaseException") = some true
  hdC : PySem.W.hasDictIn K C = true
def xfE (i : Nat) (cs : List Str) (f : Str) : EF := fun env st => match env[i]? with
  | some (.exc c ns ps) => if c ∈ cs then (match (ns.zip ps).lookup f with
    | some p => .ok p st
    | none => .stuck) else .stuck
  | _ => .stuck
theorem zip_lookup {K : Frag} {F : Hp} {f : Str} {p : PV} : ∀ {ns : List Str} {ps : List PV} {vs : List V}, ns.length = vs.length → RepL K F ps vs → (ns.zip ps).lookup f = some p → ∃ v, (ns.zip vs).lookup f = some v ∧ Rep K F p v
  | [], _, _, _, _, e => by simp at e
  | n :: ns, [], vs, hl, h, e => by simp at e
  | n :: ns, q :: ps, _, hl, ⟨v, r, hh, h1, h2⟩, e => by
    subst hh
    rw [List.zip_cons_cons, List.lookup_cons] at e ⊢
    cases hb : f == n with
    | true => rw [hb] at e; cases e; exact ⟨v, rfl, h1⟩
    | false => rw [hb] at e; exact zip_lookup (by simpa using hl) h2 e
theorem qe_xf {X : Cx} {B : Bs} {W : WX} {a d : Addr} {oe : Obj} {c : Str} {pn : List (Addr × Obj)} {n f : Str} {np pos : Pos} (i : Nat) (cs : List Str) (T : ∀ c ∈ cs, XGet X.K (He.ga X.K c) f) (hz : Zc (.ref (He.ga X.K c)) (some d) oe) (hf : ∃ vs, oe.data = .fields vs)
    (hN : X.N[i]? = some n := by rfl) (hv : Vis X.env.scope n := by first | exact Or.inl rfl | exact Or.inr (Or.inl rfl) | exact Or.inr (Or.inr rfl)) (hd : (n == ("__debug__" : Str)) = false := by decide) (hcd : (n == ("__classdict__" : Str)) = false := by decide)
    (hb : attributeBase (.Name n np) f X.env (eval (.Name n np) X.env) = eval (.Name n np) X.env := by rfl) : QE (X.suite a ((a, oe) :: pn)) { B with xa := some (a, d, c) } W (.Attribute (.Name n np) f pos) (xfE i cs f) := by
  refine ⟨⟨fun pins s σ H Q I ⟨F, env, st, g, q⟩ => ?_⟩⟩
  unfold xfE at q
  cases he : env[i]? with
  | none => rw [he] at q; exact q.elim
  | some sl =>
    rw [he] at q
    cases sl with
    | exc c' ns ps =>
      dsimp only at q
      by_cases hc : c' ∈ cs
      · rw [if_pos hc] at q
        cases hp : (ns.zip ps).lookup f with
        | none => rw [hp] at q; exact q.elim
        | some p =>
          rw [hp] at q
          obtain ⟨o, e1, a', d', vs, e2, rfl, e3, e4, e5⟩ := g.slots i _ he
          cases e2
          obtain ⟨v, l, rv⟩ := zip_lookup e4 e5 hp
          have T := T c hc
          refine attr_of hb (thn ((pe_var (X := X.suite a ((a, oe) :: pn)) (x := n) (pos := np) hN hv hd hcd).run pins s σ H (fun x H1 => x = .ref a ∧ H1 = H) I ⟨.ref a, e1, rfl, rfl⟩) fun u s1 hh => ?_)
          obtain ⟨x, H1, I1, rx, rfl, rfl⟩ := hh
          obtain rfl : u = Value.ref a := rx
          obtain ⟨ha, _⟩ := I1.pin (a, oe) (List.mem_append_left _ List.mem_cons_self)
          obtain ⟨vs', hd'⟩ := hf
          have hx : ObjOk X.prog X.w H1 s1.heap d (.xd (ns.zip vs)) := I1.hok d _ (g.le _ _ e3)
          obtain ⟨mA, hns, hr⟩ := hx
          obtain ⟨od, ho, hl⟩ := lookIn_ns hns
          obtain ⟨u, hu, ru⟩ := RelO.some_of (v := v) (o := mA f) (by rw [← l]; exact hr f)
          have J : PySem.W.InstAt s1.heap a oe (He.ga X.K c) (some od) := ⟨ha, hz.1, by unfold PySem.W.notCls; rw [hd'] <;> rfl, by rw [hz.2]; exact ho⟩
          exact HandSPX.exc_get I1.kIn J T.ga T.gg T.exC (PySem.W.findObj_own T.hdC T.noN rfl (by rw [hl, hu])) (handed_of ru) ⟨v, H1, I1.tok _, ru, q F H1 Stp.refl g v rv⟩
      · rw [if_neg hc] at q; exact q.elim
    | _ => exact q.elim
end KI

/-! part KI18 -/
set_option Elab.async false
set_option linter.all false
set_option maxRecDepth 100000
set_option maxHeartbeats 4000000
namespace KI
open PySem PySem.Spec PySem.Calls PyProof.Rows L2

/-! ## len of an own object -/
def lenM (cs : List Str) (fi : FnI) : EF → EF := fun fo env st => (fo env st).bind fun p st1 => match p with
  | .ins c ns ps => if c ∈ cs then (match fi.sem [.ins c ns ps] .non with
    | .ok (.int n) _ => if 0 ≤ n ∧ n < 2 ^ 63 then .ok (.int n) st1 else .stuck
    | _ => .stuck) else .stuck
  | _ => .stuck
section
variable {X : Cx} {B : Bs} {W : WX} {fi : FnI} {dps : List PV} {k : Nat} {o e : Expr} {es : List Expr} {fo : EF} {fa : AF} {ms : List Md} {cs : List Str} {p pos : Pos}
def rLenM (K : Frag) (cs : List Str) (fi : FnI) : List V → Hp → VK → Prop := fun xs H Q => ∃ a c dx fs, xs = [.ref a] ∧ c ∈ cs ∧ H a = some (.ins (He.ga K c) dx fs) ∧ spOf K fi [.ref a] H (fun v H2 => ∃ n, v = .int n ∧ (0 ≤ n ∧ n < 2 ^ 63) ∧ Q (.int n) H2) (fun _ _ _ => False)
theorem cr_lenM (hf : FnM X.prog X.w X.K X.mg X.base cs "__len__" fi [] k) (hr : Room (k + 1) X.A) : CallR X (.builtin "len") (rLenM X.K cs fi) := by
  obtain ⟨f, fd, ps, ds, dvs, hc, G, hb, hd, hdp⟩ := hf.ex
  intro pins s σ H xs us Q I rx ⟨a, c, dx, fs, e, hm, ea, q⟩
  subst e
  obtain rfl := Vals.ref1 rx
  obtain ⟨c1, c2⟩ := hc c hm
  obtain ⟨mA, O, r, _, _, _⟩ := ins_get I.hok ea
  obtain ⟨od, J, _⟩ := O.look
  obtain ⟨m, fr⟩ := I.fr
  refine PySem.W.len_K fr I.ok.mod.kin J c2.at_ c2.fn ?_
  have dv0 : dvs = [] := by
    have := (hdp H)
    exact this
  subst dv0
  have ds0 : ds = [] := by cases hd; rfl
  subst ds0
  have hl : ([Value.ref a] ++ []).length = ps.length := by
    have := G.len _ _ _ _ q
    simpa using this
  refine wpAny_call (codeAny_mono (G.run X.A.in1 X.stack s H ⟨[Value.ref a], []⟩ ([Value.ref a] ++ []) [V.ref a] _ (fun _ _ _ => False) hr.in1 I.env0.in1 (hb s [Value.ref a] I.kIn hl) (.cons rfl .nil) q) fun r s' hq => ?_)
  cases r with
  | error e =>
    obtain ⟨_, _, _, _, _, _, _, _, _, _, _, _, z⟩ := hq
    exact z.elim
  | ok fl =>
    cases fl with
    | ret u =>
      obtain ⟨v, H', I', rv, n, ev, hn, q'⟩ := I.after hq
      subst ev
      obtain ⟨t, rfl⟩ := rv
      exact ⟨hn, .int n, H', I'.tok _, ⟨_, rfl⟩, q'⟩
    | next => exact False.elim hq
    | brk => exact False.elim hq
    | cont => exact False.elim hq
theorem qe_lenM (hf : FnM X.prog X.w X.K X.mg X.base cs "__len__" fi [] k) (hr : Room (k + 1) X.A) (ho : QR X B W o fo) (hm : X.mg "len" = none) (hms : fi.ms = [.bor] := by rfl) (hown : fi.own = false := by rfl) (hg : Gl X "len" := by rfl)
    (he : starEach [o] X.env = (false, eval o X.env) :: starEach [] X.env := by rfl) (hpl : (backTo pos (starEach [] X.env)).any (·.1) = false := by rfl) : QE X B W (.Call (.Name "len" p) [o] [] pos) (lenM cs fi fo) :=
  ⟨pe_imp (pe_callB (cr_lenM hf hr) hg hm rfl (pa_cons ho.pe pa_nil he) (by decide) (by decide) he hpl) fun σ H Q ⟨F, env, st, g, q⟩ => ⟨F, env, st, g, q.bind.mono fun p st1 F1 H1 s1 g1 q1 v rv => by
    cases p with
    | ins c ns ps =>
      dsimp only at q1
      by_cases hl : c ∈ cs
      · rw [if_pos hl] at q1
        obtain ⟨a, dx, vs, rfl, h1, h2, h3⟩ := rv.rh.ins g1.le
        refine ⟨a, c, dx, _, rfl, hl, h1, ?_⟩
        cases hr : fi.sem [.ins c ns ps] .non with
        | stuck => rw [hr] at q1; exact q1.elim
        | exc _ _ _ _ => rw [hr] at q1; exact q1.elim
        | ok z st' =>
          rw [hr] at q1
          cases z with
          | int n =>
            dsimp only at q1
            by_cases hn : 0 ≤ n ∧ n < 2 ^ 63
            · rw [if_pos hn] at q1
              have q2 : EPost X.K B W0 env σ F1 H1 (fun z st' F' H' => ∀ v, Rep X.K F' z v → ∃ n, v = V.int n ∧ (0 ≤ n ∧ n < 2 ^ 63) ∧ Q (.int n) H') (callK fi ([.ins c ns ps] ++ []) st1) := by
                unfold callK
                rw [if_neg (by rw [hms]; decide)]
                rw [List.append_nil, hr]
                intro F' H' s' g' v rv'
                exact ⟨n, rv', hn, q1 F' H' s' g' _ rfl⟩
              exact call_sp (K := X.K) (B := B) (W := W0) (fi := fi) (ms := [.bor]) (dps := []) (ps := [.ins c ns ps]) (vs := [.ref a]) (dvs := []) g1 hms ⟨_, _, _, _, rfl, rfl, rv, rfl, rfl⟩ rfl q2 fun p st' F' H' v s' g' r hv => by
                unfold ResOk at hv
                rw [if_neg (by rw [hown]; exact Bool.false_ne_true)] at hv
                exact r v hv
            · rw [if_neg hn] at q1; exact q1.elim
          | _ => exact q1.elim
      · rw [if_neg hl] at q1; exact q1.elim
    | _ => exact q1.elim⟩⟩

/-! ## C(e, .., k = v, ..) -/
structure FnKK (P : Program) (w : World) (K : Frag) (mg : Str → Option Value) (base : Heap) (x : Str) (fi : FnI) (n : Nat) (ks : List Str) (k : Nat) : Prop where
  ex : ∃ (f : Addr) (fd : FuncData) (ps : List Str) (g : List Value → List Value → List Value) (gV : List V → List V → List V), mg x = some (.ref (He.ga K x)) ∧ Mk K (He.ga K x) f ∧ FnOk P w K mg base (L2.CX P w) k f fd ps (spOf K fi) ∧ KBn K fd ps (n + 1) ks g gV ∧ ∀ vs zs, gV vs zs = vs ++ zs
structure QK (X : Cx) (B : Bs) (W : WX) (kws : List Keyword) (fa : AF) : Prop where
  pk : PK X kws (fun σ H Q => ∃ F env st, Good X.K B F H env st σ ∧ EPost X.K B W env σ F H (fun ps _ F' H' => ∀ vs, RepL X.K F' ps vs → Q vs H') (fa env st))
theorem pk_imp {kws : List Keyword} {t t' : TA} (h : PK X kws t) (k : ∀ σ H Q, t' σ H Q → t σ H Q) : PK X kws t' := ⟨fun pos pins s σ H Q I q => h.run pos pins s σ H Q I (k σ H Q q)⟩
theorem qk_nil : QK X B W [] nilA := ⟨pk_imp pk_nil fun σ H Q ⟨F, env, st, g, q⟩ => q F H Stp.refl g [] rfl⟩
theorem qk_cons {nm : Option Str} {kws : List Keyword} {f : EF} {kpos : Pos} (h : QE X B W e f) (hr : QK X B W kws fa) : QK X B W (⟨nm, e, kpos⟩ :: kws) (consA f fa) :=
  ⟨pk_imp (pk_cons h.pe hr.pk) fun σ H Q ⟨F, env, st, g, q⟩ => ⟨F, env, st, g, q.bind.mono fun p st1 F1 H1 s1 g1 q1 v rv => ⟨F1, env, st1, g1, q1.bind.mono fun ps st2 F2 H2 s2 g2 q2 vs rs => q2 F2 H2 Stp.refl g2 (v :: vs) ⟨v, vs, rfl, Rep.mono s2.le _ _ rv, rs⟩⟩⟩⟩
def makeKE (c : Str) (fi : FnI) (nk : Nat) (fa fk : AF) : EF := fun env st => (fa env st).bind fun ps st1 => (fk env st1).bind fun qs st2 => if qs.length = nk then makeK c fi (ps ++ qs) st2 else .stuck
theorem run_makeKS {C f : Addr} {fd : FuncData} {ps ks : List Str} {sp : Sp} {n : Nat} {g : List Value → List Value → List Value} {gV : List V → List V → List V} {E : XK} {pins : List (Addr × Obj)} {σ : Sg} {H : Hp} {s : Shared} {Q : VK} {us ws : List Value} {vs zs : List V} (M : Mk X.K C f) (F : FnOk X.prog X.w X.K X.mg X.base (L2.CX X.prog X.w) k f fd ps sp) (hr : Room (k + 1) X.A) (hb : KBn X.K fd ps (n + 1) ks g gV)
    (hx : PassesAt (L2.CX X.prog X.w) X σ E) (I : Inv X pins σ H s) (r : Vals vs us) (rz : Vals zs ws) (l1 : vs.length = n) (l2 : zs.length = ks.length)
    (h : ∀ x dx, H x = none → H dx = none → dx ≠ x → sp (gV (.ref x :: vs) zs) (upd (upd H dx (.own x)) x (.ins C dx [])) (fun v H2 => v = .non ∧ Q (.ref x) H2) E) :
    wpAny (model X.prog X.w) X.A (call (.ref C) us (ks.zip ws)) (EP X pins σ Q) X.xe s := by
  have hq := h (s.heap.objs.size + 1) s.heap.objs.size (I.hok.fresh (Nat.le_succ _)) (I.hok.fresh (Nat.le_refl _)) (Nat.ne_of_lt (Nat.lt_succ_self _))
  have I2 := Inv.made (C := C) I
  have r1 : Vals (V.ref (s.heap.objs.size + 1) :: vs) (Value.ref (s.heap.objs.size + 1) :: us) := .cons rfl r
  have r2 := hb.rel r1 rz
  have n1 : (Value.ref (s.heap.objs.size + 1) :: us).length = n + 1 := by
    rw [List.length_cons, ← r.length, l1]
  refine wpAny_call (make_map (f := f) I.kIn M.makes M.init (beq_iff_eq.mp M.fn) (codeAny_mono (F.run _ X.stack _ _ ⟨Value.ref (s.heap.objs.size + 1) :: us, ks.zip ws⟩ (g (Value.ref (s.heap.objs.size + 1) :: us) ws) _ _ E (hr.make C us (ks.zip ws))
    (I2.env0.make C us (ks.zip ws)) (hb.to _ (Value.ref (s.heap.objs.size + 1) :: us) ws I2.kIn n1 (rz.length.symm.trans l2)) r2 hq) fun r s' hq' => ?_))
  cases r with
  | error e => exact hx pins _ _ e s' I2 hq'
  | ok fl =>
    cases fl with
    | ret u =>
      obtain ⟨v, H', I3, rv, ev, q3⟩ := I2.after hq'
      subst ev
      exact ⟨rv, ⟨V.ref (s.heap.objs.size + 1), H', I3, rfl, q3⟩⟩
    | next => exact False.elim hq'
    | brk => exact False.elim hq'
    | cont => exact False.elim hq'
theorem CArgs.len2 {K : Frag} {F H : Hp} {env : SEnv} {σ : Sg} : ∀ {ms : List Md} {ps : List PV} {vs : List V}, CArgs K F H env σ ms ps vs → vs.length = ms.length
  | [], _, _, ⟨h1, h2⟩ => by rw [h2]; rfl
  | m :: ms, _, _, ⟨p, ps', v, vs', h1, h2, _, h4⟩ => by rw [h2, List.length_cons, List.length_cons, CArgs.len2 h4]
theorem argsOk_vals2 {K : Frag} {F H : Hp} {ma : Option Addr} {st : PV} {ps2 : List PV} {vs2 : List V} {n : Nat} (h : RepL K F ps2 vs2) (hn : ps2.length = n) : ArgsOk K F H ma st (List.replicate n .val) ps2 vs2 := by
  subst hn; exact argsOk_vals h
theorem cargs_vals {K : Frag} {F H : Hp} {env : SEnv} {σ : Sg} : ∀ {ps : List PV} {vs : List V}, RepL K F ps vs → CArgs K F H env σ (List.replicate ps.length .val) ps vs
  | [], _, h => ⟨rfl, h⟩
  | p :: ps, _, ⟨v, r, e, h1, h2⟩ => ⟨p, ps, v, r, rfl, e, h1, cargs_vals h2⟩
theorem any_repl0 {n : Nat} : (List.replicate n Md.val).any isMut = false := by
  induction n with
  | zero => rfl
  | succ n ih => rw [List.replicate_succ, List.any_cons, ih]; rfl
theorem qo_makeK {c : Str} {n : Nat} {ks : List Str} {kws : List Keyword} {fk : AF} (hf : FnKK X.prog X.w X.K X.mg X.base c fi n ks k) (hr : Room (k + 1) X.A) (tk : Takes X W) (ha : QA X B W ms (e :: es) fa) (hk : QK X B W kws fk) (hmv : ms.all (fun m => match m with | .val => true | _ => false) = true := by rfl) (hn : ms.length = n := by rfl)
    (hms : fi.ms = .mu :: List.replicate (n + ks.length) .val := by rfl) (hown : fi.own = false := by rfl) (hg : Gl X c := by rfl) (hdb : (c == ("__debug__" : Str)) = false := by decide)
    (hall : (backToKw pos (keywordEach kws X.env)).all (·.1.isSome) = true := by rfl) (hks : (backToKw pos (keywordEach kws X.env)).filterMap (·.1) = ks := by rfl)
    (he : starEach (e :: es) X.env = (false, eval e X.env) :: starEach es X.env := by rfl) (hpl : ((backTo pos (starEach (e :: es) X.env)).any (·.1) || (backToKw pos (keywordEach kws X.env)).any (·.1.isNone)) = false := by rfl) :
    QO X B W (.Call (.Name c p) (e :: es) kws pos) (makeKE c fi ks.length fa fk) := by
  obtain ⟨f, fd, ps, g, gV, hm, M, G, hb, hgV⟩ := hf.ex
  refine ⟨⟨fun pins s σ H Q I ⟨F, env, st, g0, q⟩ => ?_⟩⟩
  refine wpAny_Call_Name_kw (ld_glob I hg hm ?_ hdb)
  refine PySem.W.callWith_KW (h₀ := X.base) I.ok.mod.kin M.kp hall (thn (ha.pa.run pos pins s σ H (fun vs H1 => vs.length = n ∧ ∃ qs0 : List PV, True ∧ (fun σ H Q => ∃ F env st, Good X.K B F H env st σ ∧ EPost X.K B W env σ F H (fun ps _ F' H' => ∀ vs, RepL X.K F' ps vs → Q vs H') (fk env st)) σ H1 fun zs H2 => zs.length = ks.length ∧ ∀ x dx, H2 x = none → H2 dx = none → dx ≠ x → spOf X.K fi (gV (.ref x :: vs) zs) (upd (upd H2 dx (.own x)) x (.ins (He.ga X.K c) dx [])) (fun v H3 => v = .non ∧ Q (.ref x) H3) (WE W σ)) I ⟨F, env, st, g0, q.bind.mono fun qs st1 F1 H1 s1 g1 q1 vs hvs => ?_⟩) fun us s1 ⟨vs, H1, I1, r, l1, _, _, q1⟩ => ?_) hpl he
  · have hv := hvs.vals hmv
    have hlen : vs.length = n := hvs.len2.trans hn
    refine ⟨hlen, [], trivial, F1, env, st1, g1, q1.bind.mono fun zs0 st2 F2 H2 s2 g2 q2 zs hzs => ?_⟩
    by_cases hz : zs0.length = ks.length
    · rw [if_pos hz] at q2
      refine ⟨hzs.length.symm.trans hz, fun x dx hx hdx hne => ?_⟩
      rw [hgV]
      refine make_sp (ms := List.replicate (n + ks.length) .val) g2 hms (by rw [any_repl0]) hown hx hdx hne (fun F' H' s' k' => argsOk_vals2 (RepL.mono s' _ _ (RepL.append (RepL.mono s2.le _ _ hv) hzs)) (by rw [List.length_append, hz, hv.length, hlen])) q2 fun p st' F' H' s' g' r h1 h2 => r x ?_ h1 h2
      exact none_of s1.there (none_of s2.there hx)
    · rw [if_neg hz] at q2; exact q2.elim
  · refine thn (hk.pk.run pos pins s1 σ H1 _ I1 q1) fun ws s2 ⟨zs, H2, I2, rz, l2, q2⟩ => ⟨I2.kIn, ?_⟩
    rw [hks]
    exact run_makeKS M G hr hb (passAt tk σ) I2 r rz l1 l2 q2
end
end KI

/-! part KI19 -/
set_option Elab.async false
set_option linter.all false
set_option maxRecDepth 100000
set_option maxHeartbeats 4000000
namespace KI
open PySem PySem.Spec PySem.Calls PyProof.Rows L2
section
variable {P : Program} {w : World} {K : Frag} {mg : Str → Option Value} {base : Heap} {N : List Str} {qual : Str} {scope : Scope} {f : Addr} {cdv : Value} {A : Around} {outer : List Env} {s : Shared} {H : Hp} {E : XK}
theorem takes_cx : Takes (cxOf (L2.CX P w) P w K mg base N qual scope f cdv A outer s H E) (fun cls d _ H => E cls d H) := takes_of rfl rfl rfl rfl
theorem owns_cx : PassesOwn (model P w) (cxOf (L2.CX P w) P w K mg base N qual scope f cdv A outer s H E).A (cxOf (L2.CX P w) P w K mg base N qual scope f cdv A outer s H E).env (cxOf (L2.CX P w) P w K mg base N qual scope f cdv A outer s H E).xe :=
  passes_of (X := cxOf (L2.CX P w) P w K mg base N qual scope f cdv A outer s H E) rfl
end
theorem takesW0 {X : Cx} : Takes X W0 := takes0
section
variable {X : Cx} {B : Bs} {W : WX} {x z : Str} {i : Int} {pos : Pos}
theorem qe_gstr (hm : ∃ t, X.mg x = some (.str z t)) (hg : Gl X x := by rfl) (hd : (x == ("__debug__" : Str)) = false := by decide) : QE X B W (.Name x pos) (cE (.str z)) := by
  obtain ⟨t, hm⟩ := hm
  exact qe_glob (v := .str z) hm ⟨_, rfl⟩ (fun _ => rfl) hg hd
theorem qe_gint (hm : ∃ t, X.mg x = some (.int i t)) (hg : Gl X x := by rfl) (hd : (x == ("__debug__" : Str)) = false := by decide) : QE X B W (.Name x pos) (cE (.int i)) := by
  obtain ⟨t, hm⟩ := hm
  exact qe_glob (v := .int i) hm ⟨_, rfl⟩ (fun _ => rfl) hg hd
end
theorem fldOk1 {K : Frag} {c f : Str} (h1 : Cls K (He.ga K c)) (h2 : NoAttr K (He.ga K c) f) : FldOk K [c] f := fun d hd => by
  cases List.mem_singleton.mp hd
  exact ⟨h1, h2⟩
section
variable {P : Program} {w : World} {K : Frag} {mg : Str → Option Value} {base : Heap} {x qual : Str} {params : Arguments} {body : List Stmt} {scope : Scope} {fd : FuncData} {ps : List Str} {fi : FnI} {k : Nat}
theorem fnB0 {f : Addr} (hm : mg x = some (.ref f)) (F : FunD K x qual params body scope [] [] f fd) (G : FnOk P w K mg base (L2.CX P w) k f fd ps (spOf K fi)) (hb : Binds K fd ps []) : FnB P w K mg base x fi [] k :=
  ⟨f, fd, ps, [], [], hm, F.kp, G, hb, .nil, fun _ => rfl⟩
theorem fnM0 {c m : Str} {f : Addr} (h1 : Cls K (He.ga K c)) (h2 : Meth K (He.ga K c) m f) (G : FnOk P w K mg base (L2.CX P w) k f fd ps (spOf K fi)) (hb : Binds K fd ps []) : FnM P w K mg base [c] m fi [] k :=
  ⟨f, fd, ps, [], [], fun d hd => by cases List.mem_singleton.mp hd; exact ⟨h1, h2⟩, G, hb, .nil, fun _ => rfl⟩
theorem fnK0 {c : Str} {f : Addr} (hm : mg c = some (.ref (He.ga K c))) (h2 : Mk K (He.ga K c) f) (G : FnOk P w K mg base (L2.CX P w) k f fd ps (spOf K fi)) (hb : Binds K fd ps []) : FnK P w K mg base c fi [] k :=
  ⟨f, fd, ps, [], [], hm, h2, G, hb, .nil, fun _ => rfl⟩
end
end KI

/-! part KI20 -/
set_option Elab.async false
set_option linter.all false
set_option maxRecDepth 100000
set_option maxHeartbeats 4000000
namespace KI
open PySem PySem.Spec PySem.Calls PyProof.Rows L2

/-! ## the head's facts: the module's, the defs', the exceptions' -/
structure XD where
  cls : Str
  qual : Str
  params : Arguments
  body : List Stmt
  scope : Scope
  fs : List Str
abbrev XW := Option (Str × Str × Arguments × FuncBody × Scope × Addr × List Str × Addr)
def xAd (K : Frag) (c : Str) : Addr := He.ma K (He.ga K c) "__init__"
def xW (K : Frag) (c : Str) : XW := match K.lookup (xAd K c) with
  | some ⟨_, _, .func fd, _⟩ => some (fd.name, fd.qualname, fd.params, fd.body, fd.scope, fd.globals, fd.closure.map (·.1), fd.builtins)
  | _ => none
def XD.val (d : XD) : XW := some ("__init__", d.qual, d.params, .stmts d.body, d.scope, mainGlobals, ["__class__"], builtinsNs)
def oexB (K : Frag) (C : Addr) : Bool := (match K.lookup C with
  | some ⟨.type t, _, .cls cd, sl⟩ => (match cd.mro, sl.toList with
    | .ref C' :: bm, [_, _, _, _, some (.builtin n), _] => t == "type" && C' == C && n == "ValueError.__new__" && !cd.hasDel && cd.hasDict && PySem.HandSPX.refsVE bm
    | _, _ => false)
  | _ => false) && (He.eqO (PySem.W.findIn K (.ref C) "__setattr__") (some (some (.builtin "object.__setattr__"))) && (decide (PySem.W.subIn K (.ref C) (.type "BaseException") = some true) && (decide (PySem.W.typeIn K (.ref C) = some (.type "type")) && PySem.W.keepIn K (.ref C))))
theorem oexB_ok {K : Frag} {C : Addr} (h : oexB K C = true) : OexC K C ∧ ∃ cd, PySem.W.clsIn K C = some cd := by
  obtain ⟨q, h⟩ := He.ba h
  obtain ⟨h1, h⟩ := He.ba h
  obtain ⟨h2, h⟩ := He.ba h
  obtain ⟨h3, h4⟩ := He.ba h
  have key : ∃ nm q N bs bm sn sub ab col dd k0 k1 k2 k3 k5, K.lookup C = some (excClassObj nm q C N bs bm true sn sub ab col dd k0 k1 k2 k3 k5 "ValueError.__new__") ∧ PySem.HandSPX.refsVE bm = true := by
    split at q
    · rename_i t dd cd sl ho
      split at q
      · rename_i C' bm k0 k1 k2 k3 n k5 hm hs
        simp only [Bool.and_eq_true, beq_iff_eq, Bool.not_eq_true'] at q
        obtain ⟨⟨⟨⟨⟨rfl, rfl⟩, rfl⟩, hdel⟩, hdi⟩, ht⟩ := q
        obtain ⟨nm, bs, mro, ns, qn, hd, sn, sub, ab, col, del⟩ := cd
        dsimp only at hm hdel hdi
        subst hm hdel hdi
        have hsl : sl = #[k0, k1, k2, k3, some (.builtin "ValueError.__new__"), k5] := by
          obtain ⟨l⟩ := sl
          simp only at hs
          rw [hs]
        subst hsl
        exact ⟨nm, qn, ns, bs, bm, sn, sub, ab, col, dd, k0, k1, k2, k3, k5, ho, ht⟩
      · cases q
    · cases q
  refine ⟨⟨key, He.eqO_ok h1, of_decide_eq_true h2, of_decide_eq_true h3, h4⟩, ?_⟩
  obtain ⟨nm, q, N, bs, bm, sn, sub, ab, col, dd, k0, k1, k2, k3, k5, hC, hbm⟩ := key
  exact ⟨_, by unfold PySem.W.clsIn; rw [hC] <;> rfl⟩
def fileB (K : Frag) (cd : Value) (file : Str) : Bool := match cd with
  | .ref c => (match K.lookup c with
    | some ⟨_, _, .fields vs, _⟩ => (match (vs[2]? : Option Value) with
      | some (Value.str f _) => file == f
      | _ => false)
    | _ => false)
  | _ => false
theorem fileB_ok {K : Frag} {cd : Value} {file : Str} (h : fileB K cd file = true) : ∃ (cda : Addr) (ccl : Value) (cdd : Option Addr) (vs : Array Value) (ccs : Array (Option Value)) (f : Str) (tf : Tok), cd = .ref cda ∧ K.lookup cda = some ⟨ccl, cdd, .fields vs, ccs⟩ ∧ vs[2]? = some (.str f tf) ∧ (file == f) = true := by
  unfold fileB at h
  split at h
  · rename_i c
    split at h
    · rename_i vs ho
      split at h
      · rename_i f tf hv
        exact ⟨c, _, _, _, _, _, _, rfl, ho, hv, h⟩
      · cases h
    · cases h
  · cases h
def cellB (K : Frag) (cl : List (Str × Addr)) (C : Addr) : Bool := match cl with
  | [(_, cc)] => (match K.lookup cc with
    | some ⟨_, _, .cell (some (.ref D)), _⟩ => D == C
    | _ => false)
  | _ => false
theorem cellB_ok {K : Frag} {cl : List (Str × Addr)} {C : Addr} (h : cellB K cl C = true) : ∃ (n : Str) (cc : Addr) (c : Value) (d : Option Addr) (sl : Array (Option Value)), cl = [(n, cc)] ∧ K.lookup cc = some ⟨c, d, .cell (some (.ref C)), sl⟩ := by
  unfold cellB at h
  split at h
  · rename_i n cc
    split at h
    · rename_i D sl ho
      obtain rfl := beq_iff_eq.mp h
      exact ⟨n, cc, _, _, _, rfl, ho⟩
    · cases h
  · cases h
def noneB : Value → Bool
  | .none => true
  | _ => false
theorem noneB_ok {v : Value} (h : noneB v = true) : v = .none := by cases v <;> first | rfl | cases h
def xgB (K : Frag) (C : Addr) (f : Str) : Bool := He.eqO (PySem.W.findIn K (.ref C) "__getattribute__") (some (some (.builtin "BaseException.__getattribute__"))) && (He.eqO (PySem.W.findIn K (.ref C) "__getattr__") (some none) && (He.eqO (PySem.W.findIn K (.ref C) f) (some none) &&
  (decide (PySem.W.subIn K (.ref C) (.type "BaseException") = some true) && PySem.W.hasDictIn K C)))
theorem xgB_ok {K : Frag} {C : Addr} {f : Str} (h : xgB K C f = true) : XGet K C f := by
  obtain ⟨h1, h⟩ := He.ba h
  obtain ⟨h2, h⟩ := He.ba h
  obtain ⟨h3, h⟩ := He.ba h
  obtain ⟨h4, h5⟩ := He.ba h
  exact ⟨He.eqO_ok h1, He.eqO_ok h2, He.eqO_ok h3, of_decide_eq_true h4, h5⟩
def xcB (file : Str) (d : XD) (K : Frag) : Bool := oexB K (He.ga K d.cls) && (He.eqO (PySem.W.nsIn K mainGlobals d.cls) (some (some (.ref (He.ga K d.cls)))) && (He.eqO (PySem.W.findIn K (.ref (He.ga K d.cls)) "__init__") (some (some (.ref (xAd K d.cls)))) && (decide (PySem.W.typeIn K (.ref (xAd K d.cls)) = some (.type "function")) &&
  ((match K.lookup (xAd K d.cls) with
  | some ⟨_, _, .func fd, _⟩ => PySem.W.codeIn K fd.code d.qual && (fileB K fd.code file && (cellB K fd.closure (He.ga K d.cls) && noneB fd.defaults))
  | _ => false) && (decide (PySem.W.mroIn K (He.ga K d.cls) (.ref (He.ga K d.cls)) = some true) && (He.eqO (PySem.W.ks_superIn K (He.ga K d.cls) (He.ga K d.cls) "__init__") (some (some (.builtin "ValueError.__init__"))) &&
  (decide (PySem.W.subIn K (.ref (He.ga K d.cls)) (.type "ValueError") = some true) && (He.eqO (PySem.W.nsIn K cStatics "thirdparty.any") (some none) && d.fs.all fun f => xgB K (He.ga K d.cls) f))))))))
theorem xc_of {P : Program} {K : Frag} {d : XD} {ps : List Str} {ar : Str} {aa : Arg} (e : xW K d.cls = d.val) (c : xcB P.main.file d K = true) (hh : (d.params.posonlyargs ++ d.params.args).head? = some aa) (har : aa.arg = ar)
    (hb : ∀ (kV doc pm : Value) (an : Option Addr) (cdv ct : Value) (cc : Addr) (us : List Value), us.length = ps.length → bindArgs (PySem.W.ksFn "__init__" d.qual d.params d.body d.scope .none kV doc pm an cdv ct cc) ⟨us, []⟩ = pure (ps.zip us)) :
    (∃ fd, XcC P K (He.ga K d.cls) (xAd K d.cls) ar d.qual d.body d.scope d.params fd ∧ Binds K fd ps []) ∧ PySem.W.nsIn K mainGlobals d.cls = some (some (.ref (He.ga K d.cls))) ∧ ∀ f ∈ d.fs, XGet K (He.ga K d.cls) f := by
  obtain ⟨h1, c⟩ := He.ba c
  obtain ⟨hg, c⟩ := He.ba c
  obtain ⟨h2, c⟩ := He.ba c
  obtain ⟨h3, c⟩ := He.ba c
  obtain ⟨h4, c⟩ := He.ba c
  obtain ⟨h5, c⟩ := He.ba c
  obtain ⟨h6, c⟩ := He.ba c
  obtain ⟨h7, c⟩ := He.ba c
  obtain ⟨h8, h9⟩ := He.ba c
  obtain ⟨ho, cdd, hcd⟩ := oexB_ok h1
  refine ⟨?_, He.eqO_ok hg, fun f hf => xgB_ok (List.all_eq_true.mp h9 f hf)⟩
  unfold xW at e
  cases q : K.lookup (xAd K d.cls) with
  | none => rw [q] at h4; cases h4
  | some o =>
    obtain ⟨oc, od, dt, osl⟩ := o
    rw [q] at h4 e
    cases dt with
    | func fd =>
      obtain ⟨n1, n2, n3, n4, n5, n6, n7, n8, n9, n10, n11, n12, n13, n14, n15⟩ := fd
      obtain ⟨k1, k⟩ := He.ba (show (PySem.W.codeIn K n13 d.qual && (fileB K n13 P.main.file && (cellB K n7 (He.ga K d.cls) && noneB n8))) = true from h4)
      obtain ⟨k2, k⟩ := He.ba k
      obtain ⟨k3, k4⟩ := He.ba k
      obtain ⟨cda, ccl, cdd', vs, ccs, fl, tf, rfl, l1, l2, l3⟩ := fileB_ok k2
      obtain ⟨nn, cc, cv, dd, sl, rfl, l4⟩ := cellB_ok k3
      obtain rfl := noneB_ok k4
      have e2 : (some (n1, n2, n3, n4, n5, n6, [nn], n15) : XW) = (some (("__init__" : Str), d.qual, d.params, FuncBody.stmts d.body, d.scope, mainGlobals, [("__class__" : Str)], builtinsNs) : XW) := e
      simp only [Option.some.injEq, Prod.mk.injEq, List.cons.injEq, and_true] at e2
      obtain ⟨r1, r2, r3, r4, r5, r6, r7, r8⟩ := e2
      subst r1 r2 r3 r4 r5 r6 r7 r8
      exact ⟨_, ⟨ho, He.eqO_ok h2, of_decide_eq_true h3, ⟨_, n9, .none, n10, n11, n14, oc, n12, od, osl, cc, cda, aa, ccl, cv, cdd', dd, vs, ccs, sl, fl, tf, cdd, rfl, q, k1, hh, har, l1, l2, l3, l4, hcd⟩, of_decide_eq_true h5, He.eqO_ok h6, of_decide_eq_true h7, He.eqO_ok h8⟩, .all (hb n9 n10 n11 n12 (.ref cda) n14 cc)⟩
    | _ => cases h4

/-! ### the Hook -/
def asQ (g : Addr → Option Obj) : Nat → List Addr
  | 0 => [mainGlobals, cStatics]
  | n + 1 => He.growD g (asQ g n)
abbrev AlQ : Type := He.AlD × (Bool × List XW)
def obsQ (fa : List He.Fa) (fn : List He.DefD) (ex : List (Frag → Bool)) (xs : List XD) (K : Frag) : AlQ := (He.obsD fa fn K, (ex.all fun f => f K, xs.map fun d => xW K d.cls))
def valQ (fn : List He.DefD) (xs : List XD) : AlQ := (He.valD fn, (true, xs.map XD.val))
def SaysQ (fa : List He.Fa) (fn : List He.DefD) (ex : List (Frag → Bool)) (xs : List XD) (K : Frag) : Prop := obsQ fa fn ex xs K = valQ fn xs
def obsQG (n : Nat) (fa : List He.Fa) (fn : List He.DefD) (ex : List (Frag → Bool)) (xs : List XD) (g : Addr → Option Obj) : AlQ := obsQ fa fn ex xs (He.frG g (asQ g n))
def hookQ (n : Nat) (fa : List He.Fa) (fn : List He.DefD) (ex : List (Frag → Bool)) (xs : List XD) : PySem.W.Hook where
  α := AlQ
  obs := fun s => obsQG n fa fn ex xs s.heap.get?
  val := fun _ => valQ fn xs
  says := fun _ h => ∃ K : Frag, K.In h ∧ SaysQ fa fn ex xs K
  of := fun _ _ e => ⟨_, He.frG_in, e⟩
  keeps := fun _ _ _ ⟨K, hK, c⟩ k => ⟨K, PySem.W.Frag.In.keeps hK k, c⟩
theorem obsQG_eq {n : Nat} {fa : List He.Fa} {fn : List He.DefD} {ex : List (Frag → Bool)} {xs : List XD} {g : Addr → Option Obj} {s : Shared} (h : ∀ a, g a = s.heap.get? a) : obsQG n fa fn ex xs g = (hookQ n fa fn ex xs).obs s := by
  have e : g = s.heap.get? := funext h
  rw [e] <;> rfl
section
variable {fa : List He.Fa} {fn : List He.DefD} {ex : List (Frag → Bool)} {xs : List XD} {K : Frag}
theorem SaysQ.d (c : SaysQ fa fn ex xs K) : He.SaysD fa fn K := congrArg (fun z : AlQ => z.1) c
theorem SaysQ.ext (c : SaysQ fa fn ex xs K) (i : Nat) {f : Frag → Bool} (h : ex[i]? = some f := by rfl) : f K = true := by
  have c1 : (ex.all fun f => f K) = true := congrArg (fun z : AlQ => z.2.1) c
  exact List.all_eq_true.mp c1 f (List.mem_of_getElem? h)
theorem SaysQ.xd (c : SaysQ fa fn ex xs K) (i : Nat) {d : XD} (h : xs[i]? = some d := by rfl) : xW K d.cls = d.val := by
  have e : xs.map (fun d => xW K d.cls) = xs.map XD.val := congrArg (fun z : AlQ => z.2.2) c
  have e2 : (xs.map fun d => xW K d.cls)[i]? = (xs.map XD.val)[i]? := by rw [e]
  rw [List.getElem?_map, List.getElem?_map, h] at e2
  exact Option.some.inj e2
end
/-- an empty tuple of the written part -/
def tup0B (p : Frag → Addr) (K : Frag) : Bool := match K.lookup (p K) with
  | some ⟨.type c, _, .seq its _, _⟩ => c == "tuple" && its.size == 0
  | _ => false
theorem tup0B_ok {p : Frag → Addr} {K : Frag} (h : tup0B p K = true) (F : Hp) : Rep K F (.tup []) (.ref (p K)) := by
  unfold tup0B at h
  split at h
  · rename_i c d its n sl ho
    obtain ⟨h1, h2⟩ := He.ba h
    have hs : its.size = 0 := by simpa using h2
    have hi : its = #[] := Array.eq_empty_of_size_eq_zero hs
    subst hi
    refine ⟨p K, [], rfl, .inr ⟨_, #[], n, ho, ?_, rfl, Nat.zero_le _, .nil⟩, rfl⟩
    rw [show c = "tuple" from by simpa using h1]
  · cases h
end KI
namespace KI
open PySem PySem.Spec PySem.Calls PyProof.Rows L2
theorem kbn_all {K : Frag} {x qual : Str} {params : Arguments} {body : List Stmt} {scope : Scope} {kws : List (Str × V)} {f : Addr} {fd : FuncData} {ps ks : List Str} {n : Nat} (F : FunD K x qual params body scope [] kws f fd)
    (h : ∀ (kV doc pm : Value) (an : Option Addr) (cdv ct : Value) (us ws : List Value), us.length = n → ws.length = ks.length → bindArgs (PySem.W.fnOf x qual params body scope .none kV doc pm an cdv ct) ⟨us, ks.zip ws⟩ = pure (ps.zip (us ++ ws))) :
    KBn K fd ps n ks (fun us ws => us ++ ws) (fun vs zs => vs ++ zs) := by
  obtain ⟨oc, od, dV, kV, doc, pm, an, cdv, ct, osl, rfl, lk, hcd, hD, hK⟩ := F.ex
  rcases hD with ⟨_, rfl⟩ | ⟨e, _⟩
  · exact ⟨fun s us ws X l1 l2 => .of_eq (h kV doc pm an cdv ct us ws l1 l2), fun r1 r2 => r1.append r2⟩
  · exact absurd rfl e
end KI

/-! part KI21 -/
set_option Elab.async false
set_option linter.all false
set_option maxRecDepth 100000
set_option maxHeartbeats 4000000
namespace KI
open PySem PySem.Spec PyProof.Rows L2

@[simp] theorem nxS_ap  (env : SEnv) (st : PV) : nxS env st = (.nx env st) := (rfl)
@[simp] theorem seqS_ap (g1 g2 : SF)  (env : SEnv) (st : PV) : seqS g1 g2 env st = (match g1 env st with
  | .nx env' st' => g2 env' st'
  | r => r) := (rfl)
@[simp] theorem retS_ap (f : EF)  (env : SEnv) (st : PV) : retS f env st = (liftS (f env st) env fun p st' => .ret p false env st') := (rfl)
@[simp] theorem retO_ap (f : EF)  (env : SEnv) (st : PV) : retO f env st = (liftS (f env st) env fun p st' => .ret p true env st') := (rfl)
@[simp] theorem retV_ap (i : Nat)  (env : SEnv) (st : PV) : retV i env st = (match env[i]? with
  | some (.own p) => .ret p true env st
  | _ => .stuck) := (rfl)
@[simp] theorem setS_ap (i : Nat) (f : EF)  (env : SEnv) (st : PV) : setS i f env st = (liftS (f env st) env fun p st' => .nx (env.set i (.sh p)) st') := (rfl)
@[simp] theorem setO_ap (i : Nat) (f : EF)  (env : SEnv) (st : PV) : setO i f env st = (liftS (f env st) env fun p st' => .nx (env.set i (.own p)) st') := (rfl)
@[simp] theorem mtS_ap (i : Nat) (g : SF)  (env : SEnv) (st_ : PV) : mtS i g env st_ = (match mtE i env with
  | some x => g x.1 x.2
  | none => .stuck) := (rfl)
@[simp] theorem ifS_ap (c : TF) (g1 g2 : SF)  (env : SEnv) (st : PV) : ifS c g1 g2 env st = (liftS (c env st) env fun b st' => if b = true then g1 env st' else g2 env st') := (rfl)
@[simp] theorem nameG_ap (i : Nat)  (p : PV) (env : SEnv) : nameG i p env = (some (env.set i (.sh p))) := (rfl)
@[simp] theorem pairG_ap (i j : Nat)  (p : PV) (env : SEnv) : pairG i j p env = (match p with
  | .tup [p1, p2] => some ((env.set i (.sh p1)).set j (.sh p2))
  | _ => none) := (rfl)
@[simp] theorem forS_ap (f : AF) (t : GF) (b : SF)  (env : SEnv) (st : PV) : forS f t b env st = (liftS (f env st) env fun ps st' => forL t b ps env st') := (rfl)
@[simp] theorem opE_ap (g : PV → PV → Option PV) (fa fb : EF)  (env : SEnv) (st : PV) : opE g fa fb env st = ((fa env st).bind fun p st1 => (fb env st1).bind fun q st2 => match g p q with
  | some z => .ok z st2
  | none => .stuck) := (rfl)
@[simp] theorem cmpT_ap (g : PV → PV → Option Bool) (fa fb : EF)  (env : SEnv) (st : PV) : cmpT g fa fb env st = ((fa env st).bind fun p st1 => (fb env st1).bind fun q st2 => match g p q with
  | some z => .ok z st2
  | none => .stuck) := (rfl)
@[simp] theorem cE_ap (p : PV)  (env_ : SEnv) (st : PV) : cE p env_ st = (.ok p st) := (rfl)
@[simp] theorem vE_ap (i : Nat)  (env : SEnv) (st : PV) : vE i env st = (match env[i]? with
  | some (.sh p) => .ok p st
  | some (.bor p) => if borOk p = true then .ok p st else .stuck
  | _ => .stuck) := (rfl)
@[simp] theorem vR_ap (i : Nat)  (env : SEnv) (st : PV) : vR i env st = (match env[i]? with
  | some (.sh p) => .ok p st
  | some (.bor p) => .ok p st
  | some (.own p) => .ok p st
  | _ => .stuck) := (rfl)
@[simp] theorem andT_ap (f1 f2 : TF)  (env : SEnv) (st : PV) : andT f1 f2 env st = ((f1 env st).bind fun b st1 => if b = true then f2 env st1 else .ok false st1) := (rfl)
@[simp] theorem orT_ap (f1 f2 : TF)  (env : SEnv) (st : PV) : orT f1 f2 env st = ((f1 env st).bind fun b st1 => if b = true then .ok true st1 else f2 env st1) := (rfl)
@[simp] theorem notT_ap (f : TF)  (env : SEnv) (st : PV) : notT f env st = ((f env st).bind fun b st1 => .ok (!b) st1) := (rfl)
@[simp] theorem truT_ap (f : EF)  (env : SEnv) (st : PV) : truT f env st = ((f env st).bind fun p st1 => match truP p with
  | some b => .ok b st1
  | none => .stuck) := (rfl)
@[simp] theorem notE_ap (f : EF)  (env : SEnv) (st : PV) : notE f env st = ((f env st).bind fun p st1 => match p with
  | .bl b => .ok (.bl (!b)) st1
  | _ => .stuck) := (rfl)
@[simp] theorem andE_ap (f1 f2 : EF)  (env : SEnv) (st : PV) : andE f1 f2 env st = ((f1 env st).bind fun p st1 => match p with
  | .bl b => if b = true then f2 env st1 else .ok (.bl false) st1
  | _ => .stuck) := (rfl)
@[simp] theorem orE_ap (f1 f2 : EF)  (env : SEnv) (st : PV) : orE f1 f2 env st = ((f1 env st).bind fun p st1 => match p with
  | .bl b => if b = true then .ok (.bl true) st1 else f2 env st1
  | _ => .stuck) := (rfl)
@[simp] theorem ifE_ap (c : TF) (f1 f2 : EF)  (env : SEnv) (st : PV) : ifE c f1 f2 env st = ((c env st).bind fun k st1 => if k = true then f1 env st1 else f2 env st1) := (rfl)
@[simp] theorem negE_ap (f : EF)  (env : SEnv) (st : PV) : negE f env st = ((f env st).bind fun p st1 => match p with
  | .int i => .ok (.int (-i)) st1
  | _ => .stuck) := (rfl)
@[simp] theorem nilA_ap  (env_ : SEnv) (st : PV) : nilA env_ st = (.ok [] st) := (rfl)
@[simp] theorem consA_ap (f : EF) (g : AF)  (env : SEnv) (st : PV) : consA f g env st = ((f env st).bind fun p st1 => (g env st1).bind fun ps st2 => .ok (p :: ps) st2) := (rfl)
@[simp] theorem mtA_ap (i : Nat)  (env : SEnv) (st : PV) : mtA i env st = (match env[i]? with
  | some .mt => .ok .non st
  | _ => .stuck) := (rfl)
@[simp] theorem callE_ap (fi : FnI) (dps : List PV) (fa : AF)  (env : SEnv) (st : PV) : callE fi dps fa env st = ((fa env st).bind fun ps st1 => callK fi (ps ++ dps) st1) := (rfl)
@[simp] theorem appS_ap (i : Nat) (f : EF)  (env : SEnv) (st : PV) : appS i f env st = (match env[i]? with
  | some (.own (.lst ps)) => liftS (f env st) env fun p st' => if ps.length < sizeLine then .nx (env.set i (.own (.lst (ps ++ [p])))) st' else .stuck
  | _ => .stuck) := (rfl)
@[simp] theorem setIx_ap (i : Nat) (fe fi : EF)  (env : SEnv) (st : PV) : setIx i fe fi env st = (match env[i]? with
  | some (.own (.lst ps)) => liftS (fe env st) env fun p st1 => liftS (fi env st1) env fun q st2 => match q with
    | .int k => (match ixN ps.length k with
      | some j => .nx (env.set i (.own (.lst (ps.set j p)))) st2
      | none => .stuck)
    | _ => .stuck
  | _ => .stuck) := (rfl)
@[simp] theorem setIxM_ap (i : Nat) (c : Int) (fe : EF)  (env : SEnv) (st : PV) : setIxM i c fe env st = (liftS (fe env st) env fun p st1 => match env[i]? with
  | some .mt => (match st1 with
    | .lst ps => (match ixN ps.length c with
      | some j => .nx env (.lst (ps.set j p))
      | none => .stuck)
    | _ => .stuck)
  | _ => .stuck) := (rfl)
@[simp] theorem setDct_ap (i : Nat) (fe fi : EF)  (env : SEnv) (st : PV) : setDct i fe fi env st = (match env[i]? with
  | some (.own (.dct ks ps)) => liftS (fe env st) env fun p st1 => liftS (fi env st1) env fun q st2 => match keyP q with
    | some k => if ks.length < sizeLine then .nx (env.set i (.own (putD ks ps k p))) st2 else .stuck
    | none => .stuck
  | _ => .stuck) := (rfl)
@[simp] theorem ixM_ap (i : Nat) (c : Int)  (env : SEnv) (st : PV) : ixM i c env st = (match env[i]? with
  | some .mt => (match st with
    | .lst ps => (match L2.atI ps c with
      | some p => .ok p st
      | none => .stuck)
    | _ => .stuck)
  | _ => .stuck) := (rfl)
@[simp] theorem fldE_ap (cs : List Str) (f : Str) (fa : EF)  (env : SEnv) (st : PV) : fldE cs f fa env st = ((fa env st).bind fun p st1 => match fldP cs f p with
  | some q => .ok q st1
  | none => .stuck) := (rfl)
@[simp] theorem fldM_ap (cs : List Str) (f : Str) (i : Nat)  (env : SEnv) (st : PV) : fldM cs f i env st = (match env[i]? with
  | some .mt => (match fldP cs f st with
    | some q => .ok q st
    | none => .stuck)
  | _ => .stuck) := (rfl)
@[simp] theorem setFld_ap (i : Nat) (cs : List Str) (f : Str) (fe : EF)  (env : SEnv) (st : PV) : setFld i cs f fe env st = (match env[i]? with
  | some (.own (.ins c ns ps)) => liftS (fe env st) env fun p st1 => if c ∈ cs ∧ ns.length < 1000 then .nx (env.set i (.own (.ins c (putN f ns) (putV f p ns ps)))) st1 else .stuck
  | _ => .stuck) := (rfl)
@[simp] theorem setFldM_ap (i : Nat) (cs : List Str) (f : Str) (fe : EF)  (env : SEnv) (st : PV) : setFldM i cs f fe env st = (liftS (fe env st) env fun p st1 => match env[i]? with
  | some .mt => (match st1 with
    | .ins c ns ps => if c ∈ cs ∧ ns.length < 1000 then .nx env (.ins c (putN f ns) (putV f p ns ps)) else .stuck
    | _ => .stuck)
  | _ => .stuck) := (rfl)
@[simp] theorem methE_ap (cs : List Str) (m : Str) (fi : FnI) (dps : List PV) (fo : EF) (fa : AF)  (env : SEnv) (st : PV) : methE cs m fi dps fo fa env st = ((fo env st).bind fun p st1 => match p with
  | .ins c ns ps => if c ∈ cs ∧ m ∉ ns then (fa env st1).bind fun qs st2 => callK fi (.ins c ns ps :: (qs ++ dps)) st2 else .stuck
  | _ => .stuck) := (rfl)
@[simp] theorem makeE_ap (c : Str) (fi : FnI) (dps : List PV) (fa : AF)  (env : SEnv) (st : PV) : makeE c fi dps fa env st = ((fa env st).bind fun ps st1 => makeK c fi (ps ++ dps) st1) := (rfl)
@[simp] theorem lcE_ap (vs : List Nat) (fi : AF) (t : GF) (c : TF) (e : EF)  (env : SEnv) (st : PV) : lcE vs fi t c e env st = ((fi env st).bind fun ps st1 => if calmAt env vs = true ∧ ps.length ≤ sizeLine then (match lcL t c e (killS vs env) ps st1 with
  | .ok ys st2 => .ok (.lst ys) st2
  | _ => .stuck) else .stuck) := (rfl)
@[simp] theorem yesT_ap  (env_ : SEnv) (st : PV) : yesT env_ st = (.ok true st) := (rfl)
@[simp] theorem lstE_ap (fa : AF)  (env : SEnv) (st : PV) : lstE fa env st = ((fa env st).bind fun ps st1 => if ps.length ≤ sizeLine then .ok (.lst ps) st1 else .stuck) := (rfl)
@[simp] theorem tupE_ap (fa : AF)  (env : SEnv) (st : PV) : tupE fa env st = ((fa env st).bind fun ps st1 => if ps.length ≤ sizeLine then .ok (.tup ps) st1 else .stuck) := (rfl)
@[simp] theorem biE_ap (g : List PV → Option PV) (fa : AF)  (env : SEnv) (st : PV) : biE g fa env st = ((fa env st).bind fun ps st1 => match g ps with
  | some z => .ok z st1
  | none => .stuck) := (rfl)
@[simp] theorem seqA_ap (f : EF)  (env : SEnv) (st : PV) : seqA f env st = ((f env st).bind fun p st1 => match seqP p with
  | some ps => .ok ps st1
  | none => .stuck) := (rfl)
@[simp] theorem rngA_ap (fa : AF)  (env : SEnv) (st : PV) : rngA fa env st = ((fa env st).bind fun ps st1 => match rngP ps with
  | some qs => .ok qs st1
  | none => .stuck) := (rfl)
@[simp] theorem enumA_ap (f : EF)  (env : SEnv) (st : PV) : enumA f env st = ((f env st).bind fun p st1 => match seqP p with
  | some ps => .ok (enumPs ps) st1
  | none => .stuck) := (rfl)
@[simp] theorem isiE_ap (ts : List String) (f : EF)  (env : SEnv) (st : PV) : isiE ts f env st = ((f env st).bind fun p st1 => match isiP ts p with
  | some b => .ok (.bl b) st1
  | none => .stuck) := (rfl)
@[simp] theorem smE_ap (g : Str → PV → Option PV) (fo fa : EF)  (env : SEnv) (st : PV) : smE g fo fa env st = ((fo env st).bind fun o st1 => match o with
  | .str a => (fa env st1).bind fun p st2 => match g a p with
    | some z => .ok z st2
    | none => .stuck
  | _ => .stuck) := (rfl)
@[simp] theorem noP_ap  (env_ : SEnv) (st : PV) : noP env_ st = (.ok none st) := (rfl)
@[simp] theorem someP_ap (f : EF)  (env : SEnv) (st : PV) : someP f env st = ((f env st).bind fun p st1 => match p with
  | .int i => .ok (some i) st1
  | _ => .stuck) := (rfl)
@[simp] theorem slE_ap (g : PV → Option Int → Option Int → Option PV) (f : EF) (l h : PF)  (env : SEnv) (st : PV) : slE g f l h env st = ((f env st).bind fun p st1 => (l env st1).bind fun lo st2 => (h env st2).bind fun hi st3 => match g p lo hi with
  | some z => .ok z st3
  | none => .stuck) := (rfl)
@[simp] theorem upG_ap (is : List Nat)  (p : PV) (env : SEnv) : upG is p env = (match p with
  | .tup ps => if ps.length = is.length then some (setL is ps env) else none
  | .lst ps => if ps.length = is.length then some (setL is ps env) else none
  | _ => none) := (rfl)
@[simp] theorem asgS_ap (f : EF) (t : GF)  (env : SEnv) (st : PV) : asgS f t env st = (liftS (f env st) env fun p st' => match t p env with
  | some env' => .nx env' st'
  | none => .stuck) := (rfl)
@[simp] theorem raiseS_ap (c : Str) (fs : List Str) (fa : AF)  (env : SEnv) (st : PV) : raiseS c fs fa env st = (liftS (fa env st) env fun ps st' => if ps.length = fs.length ∧ ps.length ≤ 1000 then .exc c fs.reverse ps.reverse env st' else .stuck) := (rfl)
@[simp] theorem tryS_ap (tbl : Str → Str → Option Bool) (g : SF) (hs : List (Str × Option Nat × SF))  (env : SEnv) (st : PV) : tryS tbl g hs env st = (match g env st with
  | .exc c ns ps env1 st1 => handS tbl hs c ns ps env1 st1
  | r => r) := (rfl)
@[simp] theorem xfE_ap (i : Nat) (cs : List Str) (f : Str)  (env : SEnv) (st : PV) : xfE i cs f env st = (match env[i]? with
  | some (.exc c ns ps) => if c ∈ cs then (match (ns.zip ps).lookup f with
    | some p => .ok p st
    | none => .stuck) else .stuck
  | _ => .stuck) := (rfl)
@[simp] theorem makeKE_ap (c : Str) (fi : FnI) (nk : Nat) (fa fk : AF)  (env : SEnv) (st : PV) : makeKE c fi nk fa fk env st = ((fa env st).bind fun ps st1 => (fk env st1).bind fun qs st2 => if qs.length = nk then makeK c fi (ps ++ qs) st2 else .stuck) := (rfl)
@[simp] theorem lenM_ap (cs : List Str) (fi : FnI) (fo : EF) (env : SEnv) (st : PV) : lenM cs fi fo env st = (fo env st).bind fun p st1 => match p with
  | .ins c ns ps => if c ∈ cs then (match fi.sem [.ins c ns ps] .non with
    | .ok (.int n) _ => if 0 ≤ n ∧ n < 2 ^ 63 then .ok (.int n) st1 else .stuck
    | _ => .stuck) else .stuck
  | _ => .stuck := (rfl)
@[simp] theorem cmpE_ap (g : PV → PV → Option Bool) (fa fb : EF) (env : SEnv) (st : PV) : cmpE g fa fb env st = opE (fun p q => (g p q).map PV.bl) fa fb env st := (rfl)
@[simp] theorem mkFn_sem (ms : List Md) (own : Bool) (n : Nat) (g : SF) (ps : List PV) (st : PV) : (mkFn ms own n g).sem ps st = endS (ms.any isMut) own (g (env0 ms ps n) st) := (rfl)
@[simp] theorem mkFn_ms (ms : List Md) (own : Bool) (n : Nat) (g : SF) : (mkFn ms own n g).ms = ms := (rfl)
@[simp] theorem killS_nil (env : SEnv) : killS [] env = env := (rfl)
@[simp] theorem killS_cons (i : Nat) (is : List Nat) (a : Slot) (env : SEnv) : killS (i :: is) (a :: env) = killS is ((a :: env).set i .dead) := (rfl)
@[simp] theorem isMut_val : isMut .val = false := (rfl)
@[simp] theorem isMut_bor : isMut .bor = false := (rfl)
@[simp] theorem isMut_mu : isMut .mu = true := (rfl)
@[simp] theorem endS_ret0 (own : Bool) (p : PV) (env : SEnv) (st : PV) : endS false own (.ret p own env st) = .ok p st := by simp [endS]
@[simp] theorem endS_ret1 (own : Bool) (p : PV) (env : SEnv) (st : PV) : endS true own (.ret p own env st) = if hasMt env = true then .ok p st else .stuck := by simp [endS]
@[simp] theorem endS_exc0 (own : Bool) (c : Str) (ns : List Str) (ps : List PV) (env : SEnv) (st : PV) : endS false own (.exc c ns ps env st) = .exc c ns ps st := by simp [endS]
@[simp] theorem endS_nx0 (env : SEnv) (st : PV) : endS false false (.nx env st) = .ok .non st := by simp [endS]
@[simp] theorem endS_nx1 (env : SEnv) (st : PV) : endS true false (.nx env st) = if hasMt env = true then .ok .non st else .stuck := by simp [endS]
theorem callK_val {fi : FnI} {ps : List PV} {st : PV} (h : fi.ms.any isMut = false := by rfl) : callK fi ps st = (match fi.sem ps .non with
  | .ok p _ => .ok p st
  | .exc c ns qs _ => .exc c ns qs st
  | .stuck => .stuck) := by
  unfold callK
  rw [if_neg (by rw [h]; decide)] <;> (cases fi.sem ps .non <;> rfl)
theorem callK_mu {fi : FnI} {ps : List PV} {st : PV} (h : fi.ms.any isMut = true := by rfl) : callK fi ps st = fi.sem ps st := by
  unfold callK
  rw [if_pos h]

/-! ### loops -/
/-- a for that runs through -/
theorem forL_all {t : GF} {b : SF} (I : Nat → SEnv → PV → Prop) : ∀ {ps : List PV} {env : SEnv} {st : PV} (n : Nat), (∀ i p env st, ps[i]? = some p → I (n + i) env st → ∃ env1 env2 st2, t p env = some env1 ∧ b env1 st = .nx env2 st2 ∧ I (n + i + 1) env2 st2) → I n env st → ∃ env' st', forL t b ps env st = .nx env' st' ∧ I (n + ps.length) env' st'
  | [], env, st, n, _, h => ⟨env, st, rfl, h⟩
  | p :: ps, env, st, n, hs, h => by
    obtain ⟨env1, env2, st2, h1, h2, h3⟩ := hs 0 p env st rfl h
    obtain ⟨env', st', h4, h5⟩ := forL_all I (ps := ps) (n + 1) (fun i q env st e hI => by
      have := hs (i + 1) q env st (by simpa using e) (by rw [show n + (i + 1) = n + 1 + i by omega]; exact hI)
      rw [show n + (i + 1) = n + 1 + i by omega] at this
      exact this) h3
    refine ⟨env', st', ?_, by rw [List.length_cons, show n + (ps.length + 1) = n + 1 + ps.length by omega]; exact h5⟩
    unfold forL
    rw [h1]
    dsimp only
    rw [h2]
    exact h4
/-- a for that may end by an end R -/
theorem forL_or {t : GF} {b : SF} (I : Nat → SEnv → PV → Prop) (R : SR → Prop) (hR : ∀ r, R r → (∃ p o e s, r = .ret p o e s) ∨ (∃ c ns ps e s, r = .exc c ns ps e s)) : ∀ {ps : List PV} {env : SEnv} {st : PV} (n : Nat), (∀ i p env st, ps[i]? = some p → I (n + i) env st → ∃ env1, t p env = some env1 ∧ ((∃ env2 st2, b env1 st = .nx env2 st2 ∧ I (n + i + 1) env2 st2) ∨ R (b env1 st))) → I n env st → (∃ env' st', forL t b ps env st = .nx env' st' ∧ I (n + ps.length) env' st') ∨ R (forL t b ps env st)
  | [], env, st, n, _, h => .inl ⟨env, st, rfl, h⟩
  | p :: ps, env, st, n, hs, h => by
    obtain ⟨env1, h1, h2⟩ := hs 0 p env st rfl h
    rcases h2 with ⟨env2, st2, h2, h3⟩ | h2
    · have ih := forL_or I R hR (ps := ps) (n + 1) (fun i q env st e hI => by
        have := hs (i + 1) q env st (by simpa using e) (by rw [show n + (i + 1) = n + 1 + i by omega]; exact hI)
        rw [show n + (i + 1) = n + 1 + i by omega] at this
        exact this) h3
      have e : forL t b (p :: ps) env st = forL t b ps env2 st2 := by
        conv => lhs; unfold forL
        rw [h1]
        dsimp only
        rw [h2]
      rw [e, List.length_cons, show n + (ps.length + 1) = n + 1 + ps.length by omega]
      exact ih
    · refine .inr ?_
      have e : forL t b (p :: ps) env st = b env1 st := by
        conv => lhs; unfold forL
        rw [h1]
        dsimp only
        rcases hR _ h2 with ⟨q, o, e, s, z⟩ | ⟨c, ns, qs, e, s, z⟩ <;> rw [z]
      rw [e]
      exact h2
/-- a comprehension that changes nothing -/
theorem lcL_pure {t : GF} {c : TF} {e : EF} {env : SEnv} {st : PV} (f : PV → Bool) (g : PV → PV) : ∀ {ps : List PV}, (∀ p ∈ ps, ∃ env1, t p env = some env1 ∧ c env1 st = .ok (f p) st ∧ (f p = true → e env1 st = .ok (g p) st)) → lcL t c e env ps st = .ok ((ps.filter f).map g) st
  | [], _ => rfl
  | p :: ps, h => by
    obtain ⟨env1, h1, h2, h3⟩ := h p List.mem_cons_self
    have ih := lcL_pure f g (ps := ps) fun q hq => h q (List.mem_cons_of_mem _ hq)
    unfold lcL
    rw [h1]
    dsimp only
    rw [h2, ER.bind_ok]
    cases hf : f p with
    | true => rw [if_pos rfl, h3 hf, ER.bind_ok, ih, ER.bind_ok, List.filter_cons_of_pos hf]; rfl
    | false => rw [if_neg Bool.false_ne_true, ih, List.filter_cons_of_neg (by rw [hf]; decide)]
/-- .. that changes the state within S: its items by P -/
theorem lcL_st {t : GF} {c : TF} {e : EF} {env : SEnv} (S : PV → Prop) (P : PV → PV → Prop) : ∀ {ps : List PV} {st : PV}, S st → (∀ p ∈ ps, ∀ st, S st → ∃ env1, t p env = some env1 ∧ ∃ b st1, c env1 st = .ok b st1 ∧ S st1 ∧ (b = true → ∃ y st2, e env1 st1 = .ok y st2 ∧ S st2 ∧ P p y)) → ∃ (qs ys : List PV) (st' : PV), lcL t c e env ps st = .ok ys st' ∧ S st' ∧ qs.Sublist ps ∧ qs.length = ys.length ∧ ∀ (i : Nat) p y, qs[i]? = some p → ys[i]? = some y → P p y
  | [], st, hS, _ => ⟨[], [], st, rfl, hS, List.Sublist.refl _, rfl, fun i p y e => by simp at e⟩
  | p :: ps, st, hS, h => by
    obtain ⟨env1, h1, b, st1, h2, h3, h4⟩ := h p List.mem_cons_self st hS
    cases b with
    | true =>
      obtain ⟨y, st2, h5, h6, h7⟩ := h4 rfl
      obtain ⟨qs, ys, st', k1, k2, k3, k4, k5⟩ := lcL_st S P (ps := ps) h6 fun q hq => h q (List.mem_cons_of_mem _ hq)
      refine ⟨p :: qs, y :: ys, st', ?_, k2, k3.cons_cons p, by simp [k4], fun i q z e1 e2 => ?_⟩
      · unfold lcL
        rw [h1]
        dsimp only
        rw [h2, ER.bind_ok, if_pos rfl, h5, ER.bind_ok, k1]
        rfl
      · cases i with
        | zero => simp at e1 e2; subst e1 e2; exact h7
        | succ i => exact k5 i q z (by simpa using e1) (by simpa using e2)
    | false =>
      obtain ⟨qs, ys, st', k1, k2, k3, k4, k5⟩ := lcL_st S P (ps := ps) h3 fun q hq => h q (List.mem_cons_of_mem _ hq)
      refine ⟨qs, ys, st', ?_, k2, k3.cons p, k4, k5⟩
      unfold lcL
      rw [h1]
      dsimp only
      rw [h2, ER.bind_ok, if_neg Bool.false_ne_true]
      exact k1
end KI
/-! part KI22 -/
set_option Elab.async false
set_option linter.all false
set_option maxRecDepth 100000
set_option maxHeartbeats 4000000
namespace KI
open PySem PySem.Spec PyProof.Rows L2
/-! ### steps, one by one: for terms whose evaluation the kernel must not try -/
theorem seq_nx {g1 g2 : SF} {env env' : SEnv} {st st' : PV} {r : SR} (h : g1 env st = .nx env' st') (h2 : g2 env' st' = r) : seqS g1 g2 env st = r := by
  rw [seqS_ap, h]; exact h2
theorem seq_ret {g1 g2 : SF} {env env' : SEnv} {st st' : PV} {p : PV} {o : Bool} (h : g1 env st = .ret p o env' st') : seqS g1 g2 env st = .ret p o env' st' := by
  rw [seqS_ap, h]
theorem seq_exc {g1 g2 : SF} {env env' : SEnv} {st st' : PV} {c : Str} {ns : List Str} {ps : List PV} (h : g1 env st = .exc c ns ps env' st') : seqS g1 g2 env st = .exc c ns ps env' st' := by
  rw [seqS_ap, h]
theorem lift_ok {α : Type} {a : α} {env : SEnv} {st : PV} {k : α → PV → SR} : liftS (.ok a st) env k = k a st := (rfl)
theorem set_ok {i : Nat} {f : EF} {env : SEnv} {st st1 p : PV} (h : f env st = .ok p st1) : setS i f env st = .nx (env.set i (.sh p)) st1 := by
  rw [setS_ap, h, lift_ok]
theorem setO_ok {i : Nat} {f : EF} {env : SEnv} {st st1 p : PV} (h : f env st = .ok p st1) : setO i f env st = .nx (env.set i (.own p)) st1 := by
  rw [setO_ap, h, lift_ok]
theorem ret_ok {f : EF} {env : SEnv} {st st1 p : PV} (h : f env st = .ok p st1) : retS f env st = .ret p false env st1 := by
  rw [retS_ap, h, lift_ok]
theorem for_ok {f : AF} {t : GF} {b : SF} {env : SEnv} {st st1 : PV} {ps : List PV} {r : SR} (h : f env st = .ok ps st1) (h2 : forL t b ps env st1 = r) : forS f t b env st = r := by
  rw [forS_ap, h, lift_ok]; exact h2
theorem if_ok {c : TF} {g1 g2 : SF} {env : SEnv} {st st1 : PV} {b : Bool} {r : SR} (h : c env st = .ok b st1) (h2 : (if b = true then g1 env st1 else g2 env st1) = r) : ifS c g1 g2 env st = r := by
  rw [ifS_ap, h, lift_ok]; exact h2
theorem forL_nx {t : GF} {b : SF} {p : PV} {ps : List PV} {env env1 env2 : SEnv} {st st2 : PV} {r : SR} (h1 : t p env = some env1) (h2 : b env1 st = .nx env2 st2) (h3 : forL t b ps env2 st2 = r) : forL t b (p :: ps) env st = r := by
  unfold forL
  rw [h1]
  dsimp only
  rw [h2]
  exact h3
theorem forL_ret {t : GF} {b : SF} {p : PV} {ps : List PV} {env env1 env2 : SEnv} {st st2 q : PV} {o : Bool} (h1 : t p env = some env1) (h2 : b env1 st = .ret q o env2 st2) : forL t b (p :: ps) env st = .ret q o env2 st2 := by
  unfold forL
  rw [h1]
  dsimp only
  rw [h2]
theorem rng_ok {f : AF} {env : SEnv} {st st1 : PV} {ps qs : List PV} (h : f env st = .ok ps st1) (h2 : rngP ps = some qs) : rngA f env st = .ok qs st1 := by
  rw [rngA_ap, h, ER.bind_ok, h2]
theorem seqA_ok {f : EF} {env : SEnv} {st st1 p : PV} {qs : List PV} (h : f env st = .ok p st1) (h2 : seqP p = some qs) : seqA f env st = .ok qs st1 := by
  rw [seqA_ap, h, ER.bind_ok, h2]
theorem one_ok {f : EF} {env : SEnv} {st st1 p : PV} (h : f env st = .ok p st1) : consA f nilA env st = .ok [p] st1 := by
  rw [consA_ap, h, ER.bind_ok, nilA_ap, ER.bind_ok]
theorem cons_ok {f : EF} {g : AF} {env : SEnv} {st st1 st2 p : PV} {ps : List PV} (h : f env st = .ok p st1) (h2 : g env st1 = .ok ps st2) : consA f g env st = .ok (p :: ps) st2 := by
  rw [consA_ap, h, ER.bind_ok, h2, ER.bind_ok]
theorem bi_ok {g : List PV → Option PV} {f : AF} {env : SEnv} {st st1 z : PV} {ps : List PV} (h : f env st = .ok ps st1) (h2 : g ps = some z) : biE g f env st = .ok z st1 := by
  rw [biE_ap, h, ER.bind_ok, h2]
theorem call_ok {fi : FnI} {dps : List PV} {f : AF} {env : SEnv} {st st1 : PV} {ps : List PV} {r : ER PV} (h : f env st = .ok ps st1) (h2 : callK fi (ps ++ dps) st1 = r) : callE fi dps f env st = r := by
  rw [callE_ap, h, ER.bind_ok]; exact h2
theorem cmp_ok {g : PV → PV → Option Bool} {fa fb : EF} {env : SEnv} {st st1 st2 a b : PV} {z : Bool} (h1 : fa env st = .ok a st1) (h2 : fb env st1 = .ok b st2) (h3 : g a b = some z) : cmpT g fa fb env st = .ok z st2 := by
  rw [cmpT_ap, h1, ER.bind_ok, h2, ER.bind_ok, h3]
theorem op_ok {g : PV → PV → Option PV} {fa fb : EF} {env : SEnv} {st st1 st2 a b z : PV} (h1 : fa env st = .ok a st1) (h2 : fb env st1 = .ok b st2) (h3 : g a b = some z) : opE g fa fb env st = .ok z st2 := by
  rw [opE_ap, h1, ER.bind_ok, h2, ER.bind_ok, h3]
theorem lc_ok {vs : List Nat} {fi : AF} {t : GF} {c : TF} {e : EF} {env : SEnv} {st st1 st2 : PV} {ps ys : List PV} (h : fi env st = .ok ps st1) (hc : calmAt env vs = true) (hz : ps.length ≤ sizeLine) (h2 : lcL t c e (killS vs env) ps st1 = .ok ys st2) : lcE vs fi t c e env st = .ok (.lst ys) st2 := by
  rw [lcE_ap, h, ER.bind_ok, if_pos ⟨hc, hz⟩, h2]
theorem while_nx {c : TF} {b : SF} {n : Nat} {env env2 : SEnv} {st st1 st2 : PV} {r : SR} (h : c env st = .ok true st1) (h1 : b env st1 = .nx env2 st2) (h2 : whileL c b n env2 st2 = r) : whileL c b (n + 1) env st = r := by
  unfold whileL
  rw [h]
  dsimp only
  rw [h1]
  exact h2
theorem while_end {c : TF} {b : SF} {n : Nat} {env : SEnv} {st st1 : PV} (h : c env st = .ok false st1) : whileL c b (n + 1) env st = .nx env st1 := by
  unfold whileL
  rw [h]
theorem sem_ok {ms : List Md} {own : Bool} {n : Nat} {g : SF} {ps : List PV} {st st1 p : PV} {env1 : SEnv} (h : g (env0 ms ps n) st = .ret p own env1 st1) (hm : (ms.any isMut = true → hasMt env1 = true)) : (mkFn ms own n g).sem ps st = .ok p st1 := by
  rw [mkFn_sem, h]
  cases e : ms.any isMut with
  | false => exact endS_ret0 _ _ _ _
  | true => rw [endS_ret1, if_pos (hm e)]
end KI

/-! part KI23 -/
set_option Elab.async false
set_option linter.all false
set_option maxRecDepth 100000
set_option maxHeartbeats 4000000
namespace KI
open PySem PySem.Spec PySem.Calls PyProof.Rows L2
/-! ## a method of the text that says super() as its last word -/
abbrev envK (qual : Str) (scope : Scope) (L f : Addr) (cd : Value) (cc : Addr) : Env := PySem.W.ksEnv qual scope L f cd cc
/-- the context of such a body -/
def cxK (CX : CXT) (P : Program) (w : World) (K : Frag) (mg : Str → Option Value) (base : Heap) (N : List Str) (qual : Str) (scope : Scope) (f : Addr) (cd : Value) (cc : Addr) (A : Around) (outer : List Env) (s : Shared) (H : Hp) (E : XK) : Cx where
  prog := P
  w := w
  K := K
  mg := mg
  base := base
  A := A.deeper (envK qual scope s.heap.objs.size f cd cc)
  N := N
  s_0 := s
  H_0 := H
  env := envK qual scope s.heap.objs.size f cd cc
  outer := outer
  stack := envK qual scope s.heap.objs.size f cd cc :: outer
  ex := []
  calm := true
  fn := fun x => !(x == ("__class__" : Str))
  pn := []
  xe := fun e s' => wpAny (model P w) (A.deeper (envK qual scope s.heap.objs.size f cd cc)) (leaving (envK qual scope s.heap.objs.size f cd cc) e) (fun _ s'' => CX outer H s E e s'') (fun e' s'' => CX outer H s E e' s'') s'
structure FnScopeK (N P : List Str) (sc : Scope) : Prop where
  kind : sc.kind = .function
  co : sc.isCoroutine = false
  gen : sc.isGenerator = false
  nd : N.Nodup
  pre : N.take P.length = P
  par : ∀ x ∈ P, sc.names.lookup x = some .local
  nocell : ∀ y ∈ sc.names, y.2 ≠ .cell
  free : ∀ y ∈ sc.names, y.2 = .free → y.1 = ("__class__" : Str)
theorem lookup_in {α : Type} : ∀ {l : List (Str × α)} {x : Str} {u : α}, (l.map (·.1)).Nodup → (x, u) ∈ l → l.lookup x = some u
  | [], _, _, _, h => by simp at h
  | (y, v) :: l, x, u, hn, h => by
    rw [List.map_cons, List.nodup_cons] at hn
    rcases List.mem_cons.mp h with e | h'
    · cases e
      simp [List.lookup]
    · have hne : (x == y) = false := by
        rw [beq_eq_false_iff_ne]
        rintro rfl
        exact hn.1 (List.mem_map.mpr ⟨(_, u), h', rfl⟩)
      simp only [List.lookup, hne]
      exact lookup_in hn.2 h'
theorem rev_zip {ps : List Str} {us : List Value} {i : Nat} {x : Str} {u : Value} (hn : ps.Nodup) (hl : us.length = ps.length) (h1 : ps[i]? = some x) (h2 : us[i]? = some u) : (ps.zip us).reverse.lookup x = some u := by
  refine lookup_in ?_ ?_
  · rw [List.map_reverse, List.map_fst_zip (by omega)]
    exact List.pairwise_reverse.mpr (hn.imp fun h => Ne.symm h)
  · rw [List.mem_reverse]
    exact List.mem_of_getElem? (i := i) (by rw [List.getElem?_zip_eq_some]; exact ⟨h1, h2⟩)
theorem invK_start {CX : CXT} {P : Program} {w : World} {K : Frag} {mg : Str → Option Value} {base : Heap} {N ps : List Str} {qual : Str} {scope : Scope} {f cc C : Addr} {cd : Value} {A : Around} {outer : List Env} {s : Shared} {H : Hp} {E : XK} {us : List Value} {vs : List V} {cl : Value} {cld : Option Addr} {csl : Array (Option Value)} {h₀ : Heap} {tk : Nat}
    (S : FnScopeK N ps scope) (hd : A.handled = none) (e0 : Env0 P w K mg base A outer s H) (hl : vs.length = ps.length) (r : Vals vs us) (hcell : K.lookup cc = some ⟨cl, cld, .cell (some (.ref C)), csl⟩)
    (hns : h₀.Ns s.heap.objs.size (fun x => (ps.zip us).reverse.lookup x)) (hk : ∀ b o, s.heap.get? b = some o → h₀.get? b = some o) :
    Inv (cxK CX P w K mg base N qual scope f cd cc A outer s H E) [] (start N vs) H { s with heap := h₀, toks := tk } := by
  have hpl : ps.length ≤ N.length := by have := congrArg List.length S.pre; rw [List.length_take] at this; omega
  have noA : ∀ b : Addr, b ∉ (cxK CX P w K mg base N qual scope f cd cc A outer s H E).ex := fun b z => absurd (show b ∈ ([] : List Addr) from z) (by simp)
  have hlu : us.length = ps.length := by rw [← r.length]; exact hl
  have only : ∀ {y : Str} {c : Addr}, (cxK CX P w K mg base N qual scope f cd cc A outer s H E).env.cells.lookup y = some c → y = ("__class__" : Str) ∧ c = cc := fun {y c} h => by
    have h' : ([(("__class__" : Str), cc)] : List (Str × Addr)).lookup y = some c := h
    unfold List.lookup at h'
    split at h'
    · rename_i e
      cases h'
      exact ⟨eq_of_beq e, rfl⟩
    · simp [List.lookup] at h'
  have hcb : base.get? cc = some ⟨cl, cld, .cell (some (.ref C)), csl⟩ := e0.mod.kin _ _ hcell
  refine ⟨⟨e0.mod, S.kind, rfl, rfl, Nat.le_refl _, fun y z c h1 h2 => ?_, fun y hy => ?_, fun y c h1 h2 => ?_, fun _ => hd, Around.frames_deeper e0.frames, .inr ⟨rfl, rfl⟩, fun b z => absurd z (noA b), e0.bs, e0.bsz, fun b _ _ => noA b, fun b z => absurd z (noA b), e0.funs, e0.frf⟩,
    rfl, e0.bare, Un.kept hk, ⟨_, hns, fun i y v h1 h2 h3 => ?_⟩, fun y c h => ?_, e0.hok.fresh (Nat.le_refl _), fun y c h => ?_, fun p hp => absurd (show p ∈ ([] : List (Addr × Obj)) from hp) (by simp), e0.hok.kept hk, ?_⟩
  · rw [(only h1).1, (only h2).1]
  · have hy : scope.names.lookup y = some .cell ∨ scope.names.lookup y = some .free := hy
    rcases hy with hy | hy
    · exact absurd rfl (S.nocell _ (PySem.mem_of_lookup hy))
    · have e := S.free _ (PySem.mem_of_lookup hy) rfl
      exact ⟨cc, by
        show ([(("__class__" : Str), cc)] : List (Str × Addr)).lookup y = some cc
        rw [show y = ("__class__" : Str) from e]
        simp [List.lookup]⟩
  · have e := (only h2).1
    have h1' : (!(y == ("__class__" : Str))) = true := h1
    rw [e] at h1'
    simp at h1'
  · have hi : i < vs.length := by
      unfold L2.start at h2
      by_cases hi : i < vs.length
      · exact hi
      · rw [List.getElem?_append_right (by simpa using hi)] at h2
        rw [List.getElem?_replicate] at h2
        split at h2 <;> cases h2
    have ha : vs[i]? = some v := by
      unfold L2.start at h2
      rw [List.getElem?_append_left (by simpa using hi), List.getElem?_map] at h2
      cases e : vs[i]? with
      | none => rw [e] at h2; cases h2
      | some a => rw [e] at h2; cases h2; rfl
    obtain ⟨u, hu, rv⟩ := r.get ha
    have hp : ps[i]? = some y := by
      rw [← S.pre, List.getElem?_take_of_lt (by omega)]; exact h1
    have ndP : ps.Nodup := by rw [← S.pre]; exact S.nd.sublist (List.take_sublist _ _)
    exact ⟨u, rv, .inl ⟨S.par y (List.mem_of_getElem? hp), rev_zip ndP hlu hp hu⟩⟩
  · rw [(only h).2]
    exact ⟨some (.ref C), _, hk _ _ (e0.bs _ _ hcb).1, rfl⟩
  · rw [(only h).2]
    exact (e0.bs _ _ hcb).2
  · unfold L2.start
    show _ = N.length
    rw [List.length_append, List.length_map, List.length_replicate]
    omega
/-- statements run where the frame's own code is looked at -/
structure PAs (X : Cx) (body : List Stmt) (ss : List Stmt) (t : TS) : Prop where
  run : ∀ (pins : List (Addr × Obj)) (s : Shared) (σ : L2.St) (H : Hp) (D : Ends), Inv X pins σ H s → t D σ H → _root_.PySem.wpAt (model X.prog X.w) X.A (.func body X.env) (execs ss X.env) (SP X pins D) X.xe s
theorem pas_cons {X : Cx} {body rest : List Stmt} {st : Stmt} {t u : TS} (h1 : PS X st t) (h2 : PAs X body rest u) : PAs X body (st :: rest) (tSeq t u) := by
  refine ⟨fun pins s σ H D I h => ?_⟩
  refine ks_wpAt_execs_cons (wpAt_of_wpAny (thn (h1.run pins s σ H { D with nx := u D } I h) fun f s1 q => ?_))
  cases f with
  | next =>
    obtain ⟨σ', H', I', q⟩ := q
    exact h2.run pins s1 σ' H' D I' q
  | ret v => exact q
  | brk => exact q
  | cont => exact q
theorem pas_imp {X : Cx} {body ss : List Stmt} {t u : TS} (h : PAs X body ss t) (k : ∀ D σ H, u D σ H → t D σ H) : PAs X body ss u := ⟨fun pins s σ H D I q => h.run pins s σ H D I (k D σ H q)⟩
structure QAs (X : Cx) (B : Bs) (W : WX) (body ss : List Stmt) (g : SF) : Prop where
  pas : PAs X body ss (tS X.K B W g)
theorem qas_cons {X : Cx} {B : Bs} {W : WX} {body ss : List Stmt} {s : Stmt} {g1 g2 : SF} (h1 : QS X B W s g1) (h2 : QAs X B W body ss g2) : QAs X B W body (s :: ss) (seqS g1 g2) :=
  ⟨pas_imp (pas_cons h1.ps h2.pas) fun D σ H ⟨F, env, st, g, q⟩ => ⟨F, env, st, g, seq_post q⟩⟩
/-- THE RULE of such a def -/
theorem fn_ofK {CX : CXT} {P : Program} {w : World} {K : Frag} {mg : Str → Option Value} {base : Heap} {k : Nat} {f cc C : Addr} {name qual : Str} {params : Arguments} {body : List Stmt} {scope : Scope} {dV kV doc pm ct oc cdv cl : Value} {an od cld : Option Addr}
    {osl csl : Array (Option Value)} {N ps : List Str} {sp : Sp} (lk : K.lookup f = some ⟨oc, od, .func (PySem.W.ksFn name qual params body scope dV kV doc pm an cdv ct cc), osl⟩) (hcd : PySem.W.codeIn K cdv qual = true) (hcell : K.lookup cc = some ⟨cl, cld, .cell (some (.ref C)), csl⟩) (S : FnScopeK N ps scope)
    (len : ∀ vs H Q E, sp vs H Q E → vs.length = ps.length)
    (hbody : ∀ (A : Around) (outer : List Env) (s : Shared) (H : Hp) (vs : List V) (Q : VK) (E : XK), Room k (A.deeper (envK qual scope s.heap.objs.size f cdv cc)) → sp vs H Q E →
      ∃ t, PAs (cxK CX P w K mg base N qual scope f cdv cc A outer s H E) body body t ∧ t { nx := fun _ H' => Q .non H', rt := Q } (start N vs) H) :
    FnOk P w K mg base CX (k + 1) f (PySem.W.ksFn name qual params body scope dV kV doc pm an cdv ct cc) ps sp := by
  refine ⟨len, fun A outer s H args us vs Q E hr e0 hb r hsp => ?_⟩
  have hl := len _ _ _ _ hsp
  have KX : K.In s.heap := e0.mod.kin.keeps fun b o e => (e0.bs b o e).1
  have lim : s.heap.NoLimit := e0.mod.nolimit.keeps fun b o e => (e0.bs b o e).1
  refine ks_codeAny_call_defAt hr.depth (KX _ _ lk) rfl lim (PySem.W.codeRec_of KX hcd) rfl hb S.nocell (fun y hy => ?_) (fun h₀ hns hk₀ => ?_) S.co S.gen S.kind
  · exact S.par _ (List.of_mem_zip (show (y.1, y.2) ∈ ps.zip us from hy)).1
  obtain ⟨t, ht, hq⟩ := hbody A outer s H vs Q E (hr.deeper _) hsp
  have I : Inv (cxK CX P w K mg base N qual scope f cdv cc A outer s H E) [] (start N vs) H { s with heap := h₀, toks := s.toks + (ps.zip us).length } := invK_start S hr.hd e0 hl r hcell hns hk₀
  refine ks_wpAt_mono (ht.run [] _ (start N vs) H _ I hq) (fun fl s' hs => ?_) fun e s' hs => hs
  have fin : ∀ {σ' : L2.St} {H' : Hp} {v : V} {u : Value}, Inv (cxK CX P w K mg base N qual scope f cdv cc A outer s H E) [] σ' H' s' → RelV v u → Q v H' → CE outer P w H s Q u s' :=
    fun {σ' H' v u} J rv q => ⟨v, H', J.os, J.bare, J.base, J.hok, rv, q⟩
  cases fl with
  | ret u =>
    obtain ⟨v, σ', H', J, rv, q⟩ := hs
    exact fin J rv q
  | next =>
    obtain ⟨σ', H', J, q⟩ := hs
    exact fin (v := V.non) (u := Value.none) J rfl q
  | brk =>
    obtain ⟨_, _, _, q⟩ := hs
    exact False.elim q
  | cont =>
    obtain ⟨_, _, _, q⟩ := hs
    exact False.elim q
end KI

/-! part KI24 -/
set_option Elab.async false
set_option linter.all false
set_option maxRecDepth 100000
set_option maxHeartbeats 4000000
namespace KI
open PySem PySem.Spec PySem.Calls PyProof.Rows L2 ClX
/-- what the written part says of the class at C, its __init__ at f, and the __init__ at f2 that super() finds -/
structure SupC (P : Program) (K : Frag) (C f f2 cda cc : Addr) (fd : FuncData) (ar : Str) : Prop where
  lk : ∃ oc od osl, K.lookup f = some ⟨oc, od, .func fd, osl⟩
  head : ∃ aa : Arg, (fd.params.posonlyargs ++ fd.params.args).head? = some aa ∧ aa.arg = ar
  code : ∃ (ccl : Value) (cdd : Option Addr) (vs : Array Value) (ccs : Array (Option Value)) (file : Str) (tf : Tok), K.lookup cda = some ⟨ccl, cdd, .fields vs, ccs⟩ ∧ vs[2]? = some (.str file tf) ∧ ((P.main.file : Str) == file) = true
  cell : ∃ cl cld csl, K.lookup cc = some ⟨cl, cld, .cell (some (.ref C)), csl⟩
  cls : ∃ cd, PySem.W.clsIn K C = some cd
  sub : PySem.W.mroIn K C (.ref C) = some true
  sup : PySem.W.ks_superIn K C C "__init__" = some (some (.ref f2))
  tyf : PySem.W.typeIn K (.ref f2) = some (.type "function")
  fin : PySem.W.fnIn K f2 = true
  sta : PySem.W.nsIn K cStatics "thirdparty.any" = some none
theorem run_cmAt {X : Cx} {pins : List (Addr × Obj)} {σ : L2.St} {H : Hp} {s : Shared} {C g : Addr} {CX : CXT} {k : Nat} {q : Addr} {sp : Sp} {E : XK} {Q : VK} {us : List Value} {vs : List V} (F : FnR X.prog X.w X.K X.mg X.base CX k g sp) (hr : Room k X.A) (hx : PassesAt CX X σ E)
    (I : Inv X ((q, PySem.W.methodObj (.ref g) (.ref C)) :: pins) σ H s) (r : Vals vs us) (h : sp (.ref C :: vs) H Q E) : wpAny (model X.prog X.w) X.A (call (.ref q) us) (EP X pins σ Q) X.xe s := by
  have z : wpAny (model X.prog X.w) X.A (call (.ref q) us) (EP X ((q, PySem.W.methodObj (.ref g) (.ref C)) :: pins) σ Q) X.xe s := by
    refine wpAny_call (PySem.W.method_call (pin_at I) (codeAny_mono (F X.A X.stack s H (.ref C :: us) (.ref C :: vs) Q E hr I.env0 (.cons rfl r) h) fun r s' hq => ?_))
    cases r with
    | error e => exact hx _ _ _ e s' I hq
    | ok fl =>
      cases fl with
      | ret u => exact I.after hq
      | next => exact False.elim hq
      | brk => exact False.elim hq
      | cont => exact False.elim hq
  exact thn z fun _ _ y => unpinE y
abbrev supI (e : Expr) (p0 p1 p2 p4 p5 : Pos) : Stmt := .Expr (.Call (.Attribute (.Call (.Name "super" p0) [] [] p1) "__init__" p2) [e] [] p4) p5
section
variable {P : Program} {w : World} {K : Frag} {mg : Str → Option Value} {base : Heap} {N : List Str} {qual : Str} {scope : Scope} {f f2 cc cda C : Addr} {A : Around} {outer : List Env} {s0 : Shared} {H0 : Hp} {E0 : XK} {fd : FuncData} {ar : Str}
theorem run_super {body : List Stmt} {k : Nat} {sp : Sp} {E : XK} {t : TA} {D : Ends} {e : Expr} {p0 p1 p2 p4 p5 : Pos} {pins : List (Addr × Obj)} {σ : L2.St} {H : Hp} {a dx : Addr} {fs : List (Str × V)} {s : Shared}
    (T : SupC P K C f f2 cda cc fd ar) (hms : mg "super" = none)
    (hks : scope.names.lookup ("super" : Str) = some .globalImplicit) (hkc : scope.names.lookup ("__class__" : Str) = some .free) (hka : scope.names.lookup ar = some .local) (hk : scope.kind = .function) (htop : (P.main.scope.names.lookup ("super" : Str)).isSome = false) (hN : N[0]? = some ar)
    (I : Inv (cxK (L2.CX P w) P w K mg base N qual scope f (.ref cda) cc A outer s0 H0 E0) pins σ H s) (hσ : σ[0]? = some (some (.ref a))) (hI : H a = some (.ins C dx fs))
    (F : FnR P w K mg base (L2.CX P w) k f2 sp) (hr : Room k (cxK (L2.CX P w) P w K mg base N qual scope f (.ref cda) cc A outer s0 H0 E0).A) (hx : PassesAt (L2.CX P w) (cxK (L2.CX P w) P w K mg base N qual scope f (.ref cda) cc A outer s0 H0 E0) σ E)
    (ha : PA (cxK (L2.CX P w) P w K mg base N qual scope f (.ref cda) cc A outer s0 H0 E0) [e] t) (ht : t σ H fun vs H2 => sp (.ref a :: vs) H2 (fun _ H3 => D.nx σ H3) E)
    (hsw : swapsWith (.Call (.Attribute (.Call (.Name "super" p0) [] [] p1) "__init__" p2) [e] [] p4) none p5.line (envK qual scope s0.heap.objs.size f (.ref cda) cc) = pure false)
    (hint : interactive (envK qual scope s0.heap.objs.size f (.ref cda) cc) = false) {pl : Sem Bool}
    (hev : eval (.Call (.Attribute (.Call (.Name "super" p0) [] [] p1) "__init__" p2) [e] [] p4) (envK qual scope s0.heap.objs.size f (.ref cda) cc) = (do
      let ov ← attributeBase (.Call (.Name "super" p0) [] [] p1) "__init__" (envK qual scope s0.heap.objs.size f (.ref cda) cc) (eval (.Call (.Name "super" p0) [] [] p1) (envK qual scope s0.heap.objs.size f (.ref cda) cc))
      standAt p2.atName
      let (fn, first) ← holding [ov] (getMethod ov "__init__" pl)
      callWith p4 fn first (backTo p4 (starEach [e] (envK qual scope s0.heap.objs.size f (.ref cda) cc))) []))
    (hst : starEach [e] (envK qual scope s0.heap.objs.size f (.ref cda) cc) = (false, eval e (envK qual scope s0.heap.objs.size f (.ref cda) cc)) :: starEach [] (envK qual scope s0.heap.objs.size f (.ref cda) cc)) (hpl : (backTo p4 (starEach [] (envK qual scope s0.heap.objs.size f (.ref cda) cc))).any (·.1) = false) :
    _root_.PySem.wpAt (model P w) (cxK (L2.CX P w) P w K mg base N qual scope f (.ref cda) cc A outer s0 H0 E0).A (.func body (envK qual scope s0.heap.objs.size f (.ref cda) cc)) (exec (supI e p0 p1 p2 p4 p5) (envK qual scope s0.heap.objs.size f (.ref cda) cc)) (SP (cxK (L2.CX P w) P w K mg base N qual scope f (.ref cda) cc A outer s0 H0 E0) pins D) (cxK (L2.CX P w) P w K mg base N qual scope f (.ref cda) cc A outer s0 H0 E0).xe s := by
  obtain ⟨oc, od, osl, hf⟩ := T.lk
  obtain ⟨aa, hp, haa⟩ := T.head
  obtain ⟨ccl, cdd, vs, ccs, file, tf, hcode, hvs, hfile⟩ := T.code
  obtain ⟨cl, cld, csl, hcell⟩ := T.cell
  obtain ⟨cd, hcd⟩ := T.cls
  have KX : K.In s.heap := I.kIn
  obtain ⟨mb, hb1, hb2⟩ := I.ok.mod.blt
  obtain ⟨oD, hD1, hD2⟩ : ∃ oD, s.heap.get? C = some oD ∧ oD.data = .cls cd := by
    have hcd' := hcd
    unfold PySem.W.clsIn at hcd'
    split at hcd'
    · rename_i c d cd' sl ho
      cases hcd'
      exact ⟨_, KX _ _ ho, rfl⟩
    · cases hcd'
  obtain ⟨mA, O, _, _, _, _⟩ := ins_get I.hok hI
  obtain ⟨m, hns, hlook⟩ := I.loc
  obtain ⟨u, ru, hl⟩ := hlook 0 ar (.ref a) hN hσ (.inl hka)
  obtain rfl : u = Value.ref a := ru
  have hm : m ar = some (.ref a) := by
    rcases hl with ⟨_, hl⟩ | ⟨hl, _⟩
    · exact hl
    · have hl' : scope.names.lookup ar = some .cell ∨ scope.names.lookup ar = some .free := hl
      rw [hka] at hl'
      rcases hl' with z | z <;> cases z
  obtain ⟨ox, hox, hoxc, hoxn⟩ : ∃ ox, s.heap.get? a = some ox ∧ ox.cls = .ref C ∧ ∀ c, ox.data ≠ .cls c := by
    exact ⟨_, O.obj, rfl, fun c z => nomatch z⟩
  have haC : a ≠ C := by
    rintro rfl
    rw [hox] at hD1; cases hD1
    exact hoxn _ hD2
  have hsub : PySem.W.Looks (model P w) s.heap (isSubtype (.ref C) (.ref C)) true := PySem.W.looks_mroIn KX T.sub
  obtain ⟨hh, g, d, tk, os⟩ := s
  refine ks_wpAt_Expr_any (ks_wpAt_MethodCall (pl := pl) ?_ hev) hint hsw
  refine ks_wpAt_super_base (env := envK qual scope s0.heap.objs.size f (.ref cda) cc) hks hkc (by decide) rfl (KX _ _ hf) rfl hp rfl (KX _ _ hcode) rfl hvs hfile htop ?_
  refine PySem.W.ks_loadName_global hk hks (loadGlobal_builtin (env := envK qual scope s0.heap.objs.size f (.ref cda) cc) (I.ok.mod.glob.keeps I.bk) hms (hb1.keeps I.bk) ((hb2 _ (by decide)).trans (by rfl)) ⟨rfl, ?_⟩)
  refine wpAny_loadName_free hk hkc rfl ⟨_, KX _ _ hcell, rfl⟩ ?_
  refine wpAny_loadName_local hk (by rw [haa]; exact hka) hns (by rw [haa]; exact hm) ?_
  refine ks_wpAny_isType_cls hD1 hD2 ⟨rfl, ?_⟩
  refine ks_wpAny_call_super hD1 hD2 hox hoxc hoxn hsub (fun h1 hso k1 => ?_)
  have I1 := pin_new (t' := tk) I k1 (Nat.le_refl _) hso (fun v z => nomatch z)
  have KX1 := I1.kIn
  have hsup := T.sup
  unfold PySem.W.ks_superIn at hsup
  rw [hcd] at hsup
  obtain ⟨of, hof, hofc⟩ : ∃ of, h1.get? f2 = some of ∧ of.cls = .type "function" := by
    have ht' : (K.lookup f2).map (·.cls) = some (.type "function") := T.tyf
    cases z : K.lookup f2 with
    | none => rw [z] at ht'; cases ht'
    | some of => rw [z] at ht'; exact ⟨of, KX1 _ _ z, Option.some.inj ht'⟩
  refine ks_wpAny_getMethod_super hso (PySem.W.looks_opaque KX1 T.sta) (l₀ := cd.mro) (fun A Q E s k q => wpAny_bind ((PySem.W.looks_clsIn KX1 hcd) A _ E s k (wpAny_pure q))) rfl KX1 hsup hof hofc haC (by decide) ?_
  have I2 := met_new (g := f2) (C := a) I1
  refine callwith_cm I2 (base_none I1 (Nat.le_refl _)) T.fin (thn (ha.run p4 _ _ σ H _ I2 ht) fun us s3 ⟨vs, H2, I3, rv, q2⟩ => ⟨⟨pin_at I3, I3.kIn⟩, ?_⟩) hst hpl
  exact thn (run_cmAt F hr hx I3 rv q2) fun v s4 ⟨_, H4, I4, _, q4⟩ => ⟨σ, H4, unpin I4, q4⟩
theorem consA_is {env : SEnv} {fa : AF} {st : PV} (h0 : env[0]? = some Slot.mt) : consA (mtA 0) fa env st = (fa env st).bind fun ps st2 => .ok (.non :: ps) st2 := by
  unfold consA mtA
  rw [h0]
  rfl
/-- super().__init__(..): the instance of the class c, changed by the meaning fi -/
def superS (c : Str) (fi : FnI) (fa : AF) : SF := fun (env : SEnv) (st : PV) => match (env[0]? : Option Slot) with
  | some .mt => (match st with
    | .ins c' _ _ => if c' = c then liftS (callE fi [] (consA (mtA 0) fa) env st) env fun _ st2 => .nx env st2 else .stuck
    | _ => .stuck)
  | _ => .stuck
theorem qas_super {B : Bs} {W : WX} {body : List Stmt} {k : Nat} {fi : FnI} {ms : List Md} {fa : AF} {e : Expr} {p0 p1 p2 p4 p5 : Pos} {c : Str}
    (T : SupC P K (He.ga K c) f f2 cda cc fd ar) (hms : mg "super" = none)
    (F : FnR P w K mg base (L2.CX P w) k f2 (spOf K fi)) (hr : Room k (cxK (L2.CX P w) P w K mg base N qual scope f (.ref cda) cc A outer s0 H0 E0).A) (tk : Takes (cxK (L2.CX P w) P w K mg base N qual scope f (.ref cda) cc A outer s0 H0 E0) W)
    (ha : QA (cxK (L2.CX P w) P w K mg base N qual scope f (.ref cda) cc A outer s0 H0 E0) B W ms [e] fa) (hfm : fi.ms = .mu :: ms := by rfl)
    (hN : N[0]? = some ar := by rfl) (hks : scope.names.lookup ("super" : Str) = some .globalImplicit := by rfl) (hkc : scope.names.lookup ("__class__" : Str) = some .free := by rfl) (hka : scope.names.lookup ar = some .local := by rfl) (hk : scope.kind = .function := by rfl) (htop : (P.main.scope.names.lookup ("super" : Str)).isSome = false := by rfl)
    (hsw : swapsWith (.Call (.Attribute (.Call (.Name "super" p0) [] [] p1) "__init__" p2) [e] [] p4) none p5.line (envK qual scope s0.heap.objs.size f (.ref cda) cc) = pure false := by rfl)
    (hint : interactive (envK qual scope s0.heap.objs.size f (.ref cda) cc) = false := by rfl) {pl : Sem Bool}
    (hev : eval (.Call (.Attribute (.Call (.Name "super" p0) [] [] p1) "__init__" p2) [e] [] p4) (envK qual scope s0.heap.objs.size f (.ref cda) cc) = (do
      let ov ← attributeBase (.Call (.Name "super" p0) [] [] p1) "__init__" (envK qual scope s0.heap.objs.size f (.ref cda) cc) (eval (.Call (.Name "super" p0) [] [] p1) (envK qual scope s0.heap.objs.size f (.ref cda) cc))
      standAt p2.atName
      let (fn, first) ← holding [ov] (getMethod ov "__init__" pl)
      callWith p4 fn first (backTo p4 (starEach [e] (envK qual scope s0.heap.objs.size f (.ref cda) cc))) []) := by rfl)
    (hst : starEach [e] (envK qual scope s0.heap.objs.size f (.ref cda) cc) = (false, eval e (envK qual scope s0.heap.objs.size f (.ref cda) cc)) :: starEach [] (envK qual scope s0.heap.objs.size f (.ref cda) cc) := by rfl) (hpl : (backTo p4 (starEach [] (envK qual scope s0.heap.objs.size f (.ref cda) cc))).any (·.1) = false := by rfl) :
    QAs (cxK (L2.CX P w) P w K mg base N qual scope f (.ref cda) cc A outer s0 H0 E0) B W body [supI e p0 p1 p2 p4 p5] (superS c fi fa) := by
  refine ⟨⟨fun pins s σ H D I ⟨F0, env, st, g, q⟩ => ?_⟩⟩
  unfold superS at q
  cases h0 : env[0]? with
  | none => rw [h0] at q; exact False.elim q
  | some sl =>
    rw [h0] at q
    cases sl with
    | mt =>
      cases st with
      | ins c' ns ps =>
        dsimp only at q
        by_cases hc : c' = c
        · subst hc
          rw [if_pos rfl] at q
          obtain ⟨o, h1, a, rfl, h4, h5, h6⟩ := g.slots 0 _ h0
          obtain ⟨dx, vs, hI, _⟩ := (show ∃ dx vs, H a = some (.ins (He.ga K c') dx vs) ∧ True from by
            obtain ⟨dx, vs, z, _⟩ := h6
            exact ⟨dx, _, z, trivial⟩)
          refine ks_wpAt_execs_cons (ks_wpAt_mono (run_super (D := D) T hms hks hkc hka hk htop hN I h1 hI F hr (passAt tk σ) ha.pa ⟨F0, env, .ins c' ns ps, g, ?_⟩ hsw hint hev hst hpl) (fun fl s' hs => ?_) fun _ _ z => z)
          · have q1 := q.lift (H := H) (σ := σ)
            unfold callE at q1
            have q2 := q1.bind
            rw [consA_is h0] at q2
            exact q2.bind.mono fun qs st1 F1 H1 s1 g1 q3 vs2 hvs => by
              have z := call_sp (vs := .ref a :: vs2) (ms := .mu :: ms) (dps := []) (dvs := []) g1 (by rw [hfm]; simp) ⟨.non, qs, .ref a, vs2, rfl, rfl, ⟨0, a, rfl, h0, h1⟩, hvs⟩ rfl (q3 F1 H1 Stp.refl g1) fun p st' F' H' v s' g' r _ => r σ F' H' (Same.refl F') g'
              rw [List.append_nil] at z
              exact z
          · cases fl with
            | next => exact wpAt_of_wpAny (wpAny_execs_nil hs)
            | ret u => exact hs
            | brk => exact hs
            | cont => exact hs
        · rw [if_neg hc] at q; exact False.elim q
      | _ => exact False.elim q
    | _ => exact False.elim q
end
end KI

/-! part KI25 -/
set_option Elab.async false
set_option linter.all false
set_option maxRecDepth 100000
set_option maxHeartbeats 4000000
namespace KI
open PySem PySem.Spec PySem.Calls PyProof.Rows L2
section
variable {P : Program} {w : World} {K : Frag} {mg : Str → Option Value} {base : Heap} {name qual : Str} {params : Arguments} {body : List Stmt} {scope : Scope} {dV kV doc pm ct oc cdv cl : Value} {an od cld : Option Addr} {osl csl : Array (Option Value)} {f cc C : Addr}
/-- THE RULE of a def that says super() as its last word -/
theorem fn_ruleK {N ps : List Str} {k : Nat} {ms : List Md} {own : Bool} {g : SF} (lk : K.lookup f = some ⟨oc, od, .func (PySem.W.ksFn name qual params body scope dV kV doc pm an cdv ct cc), osl⟩) (hcd : PySem.W.codeIn K cdv qual = true) (hcell : K.lookup cc = some ⟨cl, cld, .cell (some (.ref C)), csl⟩)
    (S : FnScopeK N ps scope) (hms : ms.length = ps.length) (h1 : (ms.filter isMut).length ≤ 1)
    (hbody : ∀ (A : Around) (outer : List Env) (s : Shared) (H : Hp) (E : XK) (B : Bs), (ms.any isMut = false → B.ma = none) → Room k (A.deeper (envK qual scope s.heap.objs.size f cdv cc)) →
      QAs (cxK (L2.CX P w) P w K mg base N qual scope f cdv cc A outer s H E) B (fun cls d _ H => E cls d H) body body g) :
    FnOk P w K mg base (L2.CX P w) (k + 1) f (PySem.W.ksFn name qual params body scope dV kV doc pm an cdv ct cc) ps (spOf K (mkFn ms own N.length g)) := by
  have hlen : ms.length ≤ N.length := by
    rw [hms, ← S.pre]; rw [List.length_take]; exact Nat.min_le_right _ _
  have uniq : ∀ i j : Nat, ms[i]? = some .mu → ms[j]? = some .mu → i = j := by
    clear hms hbody S hlen
    induction ms with
    | nil => intro i j h; simp at h
    | cons m ms ih =>
      intro i j hi hj
      have no : ∀ n : Nat, m = .mu → ms[n]? ≠ some .mu := fun n em hn => by
        have : Md.mu ∈ ms.filter isMut := List.mem_filter.mpr ⟨List.mem_of_getElem? hn, rfl⟩
        have hl := List.length_pos_of_mem this
        rw [List.filter_cons, if_pos (by rw [em]; rfl), List.length_cons] at h1
        omega
      have ih' := ih (by
        rw [List.filter_cons] at h1
        split at h1
        · rw [List.length_cons] at h1; omega
        · exact h1)
      cases i with
      | zero =>
        simp at hi
        cases j with
        | zero => rfl
        | succ j => exact absurd (by simpa using hj) (no j hi)
      | succ i =>
        cases j with
        | zero => simp at hj; exact absurd (by simpa using hi) (no i hj)
        | succ j => rw [ih' i j (by simpa using hi) (by simpa using hj)]
  refine fn_ofK lk hcd hcell S (fun vs H Q E ⟨F0, qs, st, ma, _, _, ha, _⟩ => by rw [← ha.len.2]; exact hms) (fun A outer s H vs Q E hr ⟨F0, qs, st, ma, le, hm, ha, q⟩ => ⟨_, (hbody A outer s H E ⟨F0, H, ma, none⟩ hm hr).pas, F0, env0 ms qs N.length, st, good_start le ha hlen uniq, ?_⟩)
  have q' : FPost K F0 H ma own Q E (endS (ms.any isMut) own (g (env0 ms qs N.length) st)) := q
  cases hg : g (env0 ms qs N.length) st with
  | nx env st' =>
    replace q' : FPost K F0 H ma own Q E (if ((!ms.any isMut || hasMt env) && !own) = true then .ok .non st' else .stuck) := by rw [hg] at q'; exact q'
    by_cases hc : ((!ms.any isMut || hasMt env) && !own) = true
    · rw [if_pos hc] at q'
      obtain ⟨c1, c2⟩ := Bool.and_eq_true_iff.mp hc
      exact fun σ' F' H' e g' => q' .non F' H' (back_of g' hm c1) (by
        unfold ResOk
        rw [if_neg (by simpa using c2)]; rfl)
    · rw [if_neg hc] at q'; exact q'.elim
  | ret p o env st' =>
    replace q' : FPost K F0 H ma own Q E (if ((!ms.any isMut || hasMt env) && (o == own)) = true then .ok p st' else .stuck) := by rw [hg] at q'; exact q'
    by_cases hc : ((!ms.any isMut || hasMt env) && (o == own)) = true
    · rw [if_pos hc] at q'
      obtain ⟨c1, c2⟩ := Bool.and_eq_true_iff.mp hc
      have c3 : o = own := eq_of_beq c2
      subst c3
      exact fun v σ' F' H' e g' r => q' v F' H' (back_of g' hm c1) r
    · rw [if_neg hc] at q'; exact q'.elim
  | exc c ns ps' env st' =>
    replace q' : FPost K F0 H ma own Q E (if (!ms.any isMut || hasMt env) = true then .exc c ns ps' st' else .stuck) := by rw [hg] at q'; exact q'
    by_cases hc : (!ms.any isMut || hasMt env) = true
    · rw [if_pos hc] at q'
      exact fun σ' F' H' d ws e g' h2 h3 h4 => q' F' H' d ws (back_of g' hm hc) h2 h3 h4
    · rw [if_neg hc] at q'; exact q'.elim
  | brk env st' => rw [hg] at q'; exact q'.elim
  | ct env st' => rw [hg] at q'; exact q'.elim
  | stuck => rw [hg] at q'; exact q'.elim
end
/-! ### what the head must say of such a class -/
/-- the class d.cls, its __init__, the class b whose __init__ super() finds -/
def scB (file : Str) (d : XD) (b : Str) (K : Frag) : Bool := (PySem.W.clsIn K (He.ga K d.cls)).isSome && (decide (PySem.W.mroIn K (He.ga K d.cls) (.ref (He.ga K d.cls)) = some true) && (He.eqO (PySem.W.ks_superIn K (He.ga K d.cls) (He.ga K d.cls) "__init__") (some (some (.ref (xAd K b)))) &&
  (decide (PySem.W.typeIn K (.ref (xAd K b)) = some (.type "function")) && (PySem.W.fnIn K (xAd K b) && (He.eqO (PySem.W.nsIn K cStatics "thirdparty.any") (some none) && (match K.lookup (xAd K d.cls) with
  | some ⟨_, _, .func fd, _⟩ => PySem.W.codeIn K fd.code d.qual && (fileB K fd.code file && (cellB K fd.closure (He.ga K d.cls) && noneB fd.defaults))
  | _ => false))))))
theorem sc_of {P : Program} {K : Frag} {d : XD} {b : Str} {ps : List Str} {ar : Str} {aa : Arg} (e : xW K d.cls = d.val) (c : scB P.main.file d b K = true) (hh : (d.params.posonlyargs ++ d.params.args).head? = some aa) (har : aa.arg = ar)
    (hb : ∀ (kV doc pm : Value) (an : Option Addr) (cdv ct : Value) (cc : Addr) (us : List Value), us.length = ps.length → bindArgs (PySem.W.ksFn "__init__" d.qual d.params d.body d.scope .none kV doc pm an cdv ct cc) ⟨us, []⟩ = pure (ps.zip us)) :
    ∃ (oc od osl : _) (kV doc pm : Value) (an : Option Addr) (cda : Addr) (ct : Value) (cc : Addr) (cl cld csl : _), K.lookup (xAd K d.cls) = some ⟨oc, od, .func (PySem.W.ksFn "__init__" d.qual d.params d.body d.scope .none kV doc pm an (.ref cda) ct cc), osl⟩ ∧ PySem.W.codeIn K (.ref cda) d.qual = true ∧ K.lookup cc = some ⟨cl, cld, .cell (some (.ref (He.ga K d.cls))), csl⟩ ∧
      SupC P K (He.ga K d.cls) (xAd K d.cls) (xAd K b) cda cc (PySem.W.ksFn "__init__" d.qual d.params d.body d.scope .none kV doc pm an (.ref cda) ct cc) ar ∧ Binds K (PySem.W.ksFn "__init__" d.qual d.params d.body d.scope .none kV doc pm an (.ref cda) ct cc) ps [] := by
  obtain ⟨h1, c⟩ := He.ba c
  obtain ⟨h2, c⟩ := He.ba c
  obtain ⟨h3, c⟩ := He.ba c
  obtain ⟨h5, c⟩ := He.ba c
  obtain ⟨h6, c⟩ := He.ba c
  obtain ⟨h7, h4⟩ := He.ba c
  obtain ⟨cdd, hcd⟩ := Option.isSome_iff_exists.mp h1
  unfold xW at e
  cases q : K.lookup (xAd K d.cls) with
  | none => rw [q] at h4; cases h4
  | some o =>
    obtain ⟨oc, od, dt, osl⟩ := o
    rw [q] at h4 e
    cases dt with
    | func fd =>
      obtain ⟨n1, n2, n3, n4, n5, n6, n7, n8, n9, n10, n11, n12, n13, n14, n15⟩ := fd
      obtain ⟨k1, k⟩ := He.ba (show (PySem.W.codeIn K n13 d.qual && (fileB K n13 P.main.file && (cellB K n7 (He.ga K d.cls) && noneB n8))) = true from h4)
      obtain ⟨k2, k⟩ := He.ba k
      obtain ⟨k3, k4⟩ := He.ba k
      obtain ⟨cda, ccl, cdd', vs, ccs, fl, tf, rfl, l1, l2, l3⟩ := fileB_ok k2
      obtain ⟨nn, cc, cv, dd, sl, rfl, l4⟩ := cellB_ok k3
      obtain rfl := noneB_ok k4
      have e2 : (some (n1, n2, n3, n4, n5, n6, [nn], n15) : XW) = (some (("__init__" : Str), d.qual, d.params, FuncBody.stmts d.body, d.scope, mainGlobals, [("__class__" : Str)], builtinsNs) : XW) := e
      simp only [Option.some.injEq, Prod.mk.injEq, List.cons.injEq, and_true] at e2
      obtain ⟨r1, r2, r3, r4, r5, r6, r7, r8⟩ := e2
      subst r1 r2 r3 r4 r5 r6 r7 r8
      exact ⟨oc, od, osl, n9, n10, n11, n12, cda, n14, cc, cv, dd, sl, rfl, k1, l4, ⟨⟨oc, od, osl, q⟩, ⟨aa, hh, har⟩, ⟨ccl, cdd', vs, ccs, fl, tf, l1, l2, l3⟩, ⟨cv, dd, sl, l4⟩, ⟨cdd, hcd⟩, of_decide_eq_true h2, He.eqO_ok h3, of_decide_eq_true h5, h6, He.eqO_ok h7⟩, .all (hb n9 n10 n11 n12 (.ref cda) n14 cc)⟩
    | _ => cases h4
theorem fnR_of {P : Program} {w : World} {K : Frag} {mg : Str → Option Value} {base : Heap} {CX : CXT} {k : Nat} {f : Addr} {fd : FuncData} {ps : List Str} {sp : Sp} (F : FnOk P w K mg base CX k f fd ps sp) (hb : Binds K fd ps []) : FnR P w K mg base CX k f sp :=
  fun A outer s H us vs Q E hr e0 r h => F.run A outer s H ⟨us, []⟩ us vs Q E hr e0 (by
    have hl : us.length = ps.length := by rw [← r.length]; exact F.len _ _ _ _ h
    have := hb s us (e0.mod.kin.keeps fun b o e => (e0.bs b o e).1) (by rw [List.append_nil]; exact hl)
    rw [List.append_nil] at this
    exact this) r h
end KI

/-! part KI26 -/
set_option Elab.async false
set_option linter.all false
set_option maxRecDepth 100000
set_option maxHeartbeats 4000000
namespace KI
open PySem PySem.Spec PyProof.Rows L2 RZ
/-! ## (x,) * n, also for n below 2 -/
theorem tuple_mul0 (l : Addr) (items : Array Value) (n : Nat) (dd : Option Addr) (sl : Array (Option Value)) (x : Int) (u : Tok) (c0 : (decide (x < -(2 ^ 63)) || decide (x ≥ 2 ^ 63)) = false) (c1 : (items.isEmpty || x == 1) = false) (c2 : (decide (x ≤ 0) || items.isEmpty) = true) :
    Meets (Builtin.«tuple.__mul__» ⟨[.ref l, .int x u], []⟩) (fun _ R s => s.heap.get? l = some { cls := .type "tuple", dict := dd, data := .seq items n, slots := sl } ∧
      R (.ok (.ret (Value.ref s.heap.objs.size))) { s with heap := s.heap.push { cls := Value.type "tuple", data := Data.seq #[] }, toks := s.toks }) :=
  .of_wp fun prog w A R s h => by
    obtain ⟨hp, g, d, tk, os⟩ := s
    obtain ⟨hl, h⟩ := h
    have f1 := AutoSeq1.idx_int
    wp_walk using wpAny_loadPart' hl
    repeat (first
      | (refine wpAny_ite_false (decide_eq_false (by rw [c0]; exact Bool.false_ne_true)) ?_; wp_walk using wpAny_loadPart' hl)
      | (refine wpAny_ite_false (decide_eq_false (by rw [c1]; exact Bool.false_ne_true)) ?_; wp_walk using wpAny_loadPart' hl)
      | (refine wpAny_ite_true (decide_eq_true c2) ?_; wp_walk using wpAny_loadPart' hl))
    exact ⟨_, rfl, h⟩
theorem tuple_mul1 (l : Addr) (items : Array Value) (n : Nat) (dd : Option Addr) (sl : Array (Option Value)) (u : Tok) :
    Meets (Builtin.«tuple.__mul__» ⟨[.ref l, .int 1 u], []⟩) (fun _ R s => s.heap.get? l = some { cls := .type "tuple", dict := dd, data := .seq items n, slots := sl } ∧ R (.ok (.ret (Value.ref l))) s) :=
  .of_wp fun prog w A R s h => by
    obtain ⟨hp, g, d, tk, os⟩ := s
    obtain ⟨hl, h⟩ := h
    have f1 := AutoSeq1.idx_int
    have c1 : (items.isEmpty || (1 : Int) == 1) = true := by simp
    wp_walk using wpAny_loadPart' hl
    repeat (first
      | (refine wpAny_ite_true (decide_eq_true c1) ?_; wp_walk using wpAny_loadPart' hl))
    exact ⟨_, rfl, h⟩
def rRep01 (K : Frag) : R2 := fun x y H Q => ∃ l k xs, x = .ref l ∧ y = .int k ∧ SqT K H l xs ∧ xs ≠ [] ∧ ((k = 0 ∧ ∀ p, H p = none → Q (.ref p) (upd H p (.tup []))) ∨ (k = 1 ∧ Q (.ref l) H))
section
variable {X : Cx}
theorem op_rep01 : OpR X (binaryOp .Mult) (rRep01 X.K) := by
  intro pins s σ H x y v u Q I rx ry h
  obtain ⟨l, k, xs, rfl, rfl, hT, hne, q⟩ := h
  cases rx
  obtain ⟨t, rfl⟩ := ry
  obtain ⟨its, r, ⟨⟨cls, dd, data, sl⟩, ho, hc, n, hd⟩, hs⟩ := I.tuple hT
  simp only at hc hd
  subst hc hd
  have hle : its.length = xs.length := r.length.symm
  have hn : its ≠ [] := fun e => hne (by
    rw [e] at hle
    exact List.eq_nil_of_length_eq_zero hle.symm)
  have hi : its.toArray.isEmpty = false := by
    cases its with
    | nil => exact absurd rfl hn
    | cons a b => rfl
  rcases q with ⟨rfl, q⟩ | ⟨rfl, q⟩
  · refine wpAny_binaryOp_repeat_ref (T := "tuple") (U := "int") (by decide) ⟨_, ho, rfl⟩ (fun s' => typeIs_int s' 0 t) noFill_tuple_mul F.fills_int_mul F.slot_int_rmul repeat_tuple F.slot_int_index.lookup
      (call_meets F.slot_int_rmul (typeIs_int s 0 t) F.entry_int_rmul (F.args_int_rmul_2 _ _) (int_rmul_tuple 0 t l its.toArray n dd sl)
        ⟨ho, rfl, ⟨_, ho, rfl⟩, call_meets F.slot_tuple_mul ⟨_, ho, rfl⟩ F.entry_tuple_mul (F.args_tuple_mul_2 _ _) (tuple_mul0 l its.toArray n dd sl 0 t (by decide) (by rw [hi]; rfl) (by simp)) ⟨ho, ?_⟩⟩)
    refine ⟨.ref s.heap.objs.size, _, I.laid (t' := s.toks) (o := .tup []) (fun b ob q => Heap.get?_push_of_some _ q) (Nat.le_refl _) ?_, rfl, q _ (I.hok.fresh (Nat.le_refl _))⟩
    exact ⟨by simp, _, .nil, IsTup.new _ _⟩
  · refine wpAny_binaryOp_repeat_ref (T := "tuple") (U := "int") (by decide) ⟨_, ho, rfl⟩ (fun s' => typeIs_int s' 1 t) noFill_tuple_mul F.fills_int_mul F.slot_int_rmul repeat_tuple F.slot_int_index.lookup
      (call_meets F.slot_int_rmul (typeIs_int s 1 t) F.entry_int_rmul (F.args_int_rmul_2 _ _) (int_rmul_tuple 1 t l its.toArray n dd sl)
        ⟨ho, rfl, ⟨_, ho, rfl⟩, call_meets F.slot_tuple_mul ⟨_, ho, rfl⟩ F.entry_tuple_mul (F.args_tuple_mul_2 _ _) (tuple_mul1 l its.toArray n dd sl t) ⟨ho, ?_⟩⟩)
    exact ⟨.ref l, H, I, rfl, q⟩
end
def mulT : PV → PV → Option PV
  | .tup ps, .int k => if ps ≠ [] ∧ 0 ≤ k ∧ k ≤ 1000 ∧ ps.length ≤ 1000 then some (.tup (rep1 ps k.toNat)) else none
  | _, _ => none
theorem or_mulT {X : Cx} : OpR X (binaryOp .Mult) (rP X.K mulT) := by
  refine opr_imp (OpR.or (op_repT (X := X)) op_rep01) fun x y H Q ⟨F, p, q, le, rp, rq, z, hz, kk⟩ => ?_
  cases p <;> cases q <;> first
    | (simp only [mulT, reduceCtorEq] at hz; done)
    | skip
  rename_i ps j
  have e2 := rq.int; subst e2
  have f1 := rp.tupF
  obtain ⟨a, vs, rfl, h1, h2⟩ := rp.tup le
  have hz' : (if ps ≠ [] ∧ 0 ≤ j ∧ j ≤ 1000 ∧ ps.length ≤ 1000 then some (PV.tup (rep1 ps j.toNat)) else none) = some z := hz
  by_cases hl : ps ≠ [] ∧ 0 ≤ j ∧ j ≤ 1000 ∧ ps.length ≤ 1000
  · rw [if_pos hl] at hz'; cases hz'
    obtain ⟨l1, l2, l3, l4⟩ := hl
    have hne : vs ≠ [] := fun e => l1 (List.length_eq_zero_iff.mp (by rw [h2.length, e]; rfl))
    by_cases j0 : j = 0
    · subst j0
      refine .inr ⟨a, 0, vs, rfl, rfl, h1, hne, .inl ⟨rfl, fun c hc => kk _ _ _ (newBy1 hc) (rep_tup (ps := rep1 ps 0) (same_fnone le hc) rfl)⟩⟩
    · by_cases j1 : j = 1
      · subst j1
        refine .inr ⟨a, 1, vs, rfl, rfl, h1, hne, .inr ⟨rfl, kk _ F H newBy0 ?_⟩⟩
        have e : rep1 ps (1 : Int).toNat = ps := by
          show (List.replicate 1 ps).flatten = ps
          simp
        rw [e]; exact f1
      · exact .inl ⟨a, j, vs, rfl, rfl, h1, hne, by omega, l3, by rw [← h2.length]; exact l4, fun c hc => kk _ _ _ (newBy1 hc) (rep_tup (same_fnone le hc) (h2.rep _))⟩
  · rw [if_neg hl] at hz'; cases hz'
/-! ## sum of a list of whole numbers -/
def sumP : List PV → Option PV
  | [.lst ps] => (intsP ps).map fun ns => .int ns.sum
  | _ => none
theorem cr_sumP {X : Cx} (hc : X.calm = true) : CallR X (.builtin "sum") (rBi X.K sumP) := callr_imp (cr_sum hc) fun xs H Q ⟨F, ps, le, hr, z, hz, q⟩ => by
  unfold sumP at hz
  split at hz
  · rename_i ps
    obtain ⟨v, rfl, h⟩ := rh1 hr
    obtain ⟨a, vs, rfl, h1, h2⟩ := h.lst le
    cases hi : intsP ps with
    | none => rw [hi] at hz; cases hz
    | some ns =>
      rw [hi] at hz; cases hz
      rw [intsP_eq hi] at h2
      rw [h2.ints] at h1
      exact ⟨a, ns, rfl, .inl (.inl h1), q _ F H (.inl ⟨rfl, rfl⟩) rfl⟩
  · cases hz
/-! ## zip of two lists, of two tuples -/
def zipPs (ps qs : List PV) : List PV := (ps.zip qs).map fun x => .tup [x.1, x.2]
theorem zipPs_get {ps qs : List PV} {i : Nat} {p q : PV} (h : ps[i]? = some p) (h2 : qs[i]? = some q) : (zipPs ps qs)[i]? = some (.tup [p, q]) := by
  unfold zipPs
  have e : (ps.zip qs)[i]? = some (p, q) := List.getElem?_zip_eq_some.mpr ⟨h, h2⟩
  rw [List.getElem?_map, e]
  rfl
theorem zipPs_length {ps qs : List PV} : (zipPs ps qs).length = min ps.length qs.length := by simp [zipPs]
theorem pair2_rep {K : Frag} {F : Hp} {T : Addr} {p q : PV} {x y : V} (h : F T = none) (r : Rep K F p x) (r2 : Rep K F q y) : Rep K (upd F T (.tup [x, y])) (.tup [p, q]) (.ref T) :=
  ⟨T, _, rfl, .inl (.inl upd_same), _, _, rfl, Rep.mono (Same.upd_new h) _ _ r, _, _, rfl, Rep.mono (Same.upd_new h) _ _ r2, rfl⟩
section
variable {K : Frag} {F : Hp} {ps qs : List PV} {vs ws : List V} {a b : Addr}
theorem walkZL (h : F a = some (.lst vs)) (r : RepL K F ps vs) (h2 : F b = some (.lst ws)) (r2 : RepL K F qs ws) : WalkP K (Itz K a b) F (zipPs ps qs) := by
  have hl : (zipPs ps qs).length = min vs.length ws.length := by rw [zipPs_length, r.length, r2.length]
  unfold WalkP
  rw [hl]
  exact (walk_zip (K := K) (a := a) (b := b) (xs := vs) (ys := ws) rfl).mono (fun H s => ⟨.inl (.inl (s _ _ h)), .inl (.inl (s _ _ h2))⟩) fun i H x H' hi s y F' s1 s2 => by
    obtain ⟨T, y1, y2, rfl, hT, rfl, e1, e2⟩ := y
    obtain ⟨p, hp, rp⟩ := r.getV e1
    obtain ⟨q, hq, rq⟩ := r2.getV e2
    exact ⟨_, upd F' T _, zipPs_get hp hq, pair2_rep (fnone_of s2 hT) (Rep.mono s1 _ _ rp) (Rep.mono s1 _ _ rq), .inr ⟨T, _, hT, rfl, rfl⟩⟩
theorem walkZT (h : SqT K F a vs) (r : RepL K F ps vs) (h2 : SqT K F b ws) (r2 : RepL K F qs ws) : WalkP K (ItzT K a b) F (zipPs ps qs) := by
  have hl : (zipPs ps qs).length = min vs.length ws.length := by rw [zipPs_length, r.length, r2.length]
  unfold WalkP
  rw [hl]
  refine ⟨fun i H hi s => ⟨vs, ws, vs[i]'(by omega), ws[i]'(by omega), sqT_mono s h, sqT_mono s h2, by simp, by simp⟩, fun H s => ⟨vs, ws, sqT_mono s h, sqT_mono s h2, by omega⟩, fun i H x H' hi s y F' s1 s2 => ?_⟩
  obtain ⟨T, y1, y2, rfl, hT, rfl, e1, e2⟩ := y
  obtain ⟨p, hp, rp⟩ := r.getV (e1 vs (sqT_mono s h))
  obtain ⟨q, hq, rq⟩ := r2.getV (e2 ws (sqT_mono s h2))
  exact ⟨_, upd F' T _, zipPs_get hp hq, pair2_rep (fnone_of s2 hT) (Rep.mono s1 _ _ rp) (Rep.mono s1 _ _ rq), .inr ⟨T, _, hT, rfl, rfl⟩⟩
end
def zipP : List PV → Option (List PV)
  | [.lst a, .lst b] => some (zipPs a b)
  | [.tup a, .tup b] => some (zipPs a b)
  | _ => none
def zipA (fa : AF) : AF := fun env st => (fa env st).bind fun ps st1 => match zipP ps with
  | some qs => .ok qs st1
  | none => .stuck
theorem qi_zip {X : Cx} {B : Bs} {W : WX} {e e2 : Expr} {fa : AF} {p pos tpos : Pos} {elts : List Expr} {kk : Nat} (ha : QA X B W [.val, .val] [e, e2] fa) (hm : X.mg "zip" = none) (hg : Gl X "zip" := by rfl) (hs : starEach [e, e2] X.env = (false, eval e X.env) :: starEach [e2] X.env := by rfl) (hpl : (backTo pos (starEach [e2] X.env)).any (·.1) = false := by rfl) :
    QI X B W (.Tuple elts kk tpos) (.Call (.Name "zip" p) [e, e2] [] pos) (zipA fa) :=
  ⟨⟨fun pins s σ H R I ⟨F, env, st, g, q⟩ => (pi_zipA hg hm ha.pa hs hpl).run pins s σ H R I ⟨F, env, st, g, q.bind.mono fun ps st1 F1 H1 s1 g1 q1 vs hvs => by
    unfold zipP at q1
    split at q1
    · rename_i qs hz
      obtain ⟨p1, ps1, v1, vs1, e1, rfl, r1, h2⟩ := hvs
      split at hz
      · cases hz
        obtain ⟨p2, ps2, v2, vs2, e3, rfl, r2, h3⟩ := h2
        cases e1
        cases e3
        obtain ⟨_, rfl⟩ := h3
        obtain ⟨a1, ws1, rfl, k1, k2⟩ := r1
        obtain ⟨a2, ws2, rfl, k3, k4⟩ := r2
        exact ⟨a1, a2, ws1, ws2, rfl, .inl ⟨.inl (.inl (g1.le _ _ k1)), .inl (.inl (g1.le _ _ k3)), q1 F1 H1 Stp.refl g1 _ (walkZL k1 k2 k3 k4)⟩⟩
      · cases hz
        obtain ⟨p2, ps2, v2, vs2, e3, rfl, r2, h3⟩ := h2
        cases e1
        cases e3
        obtain ⟨_, rfl⟩ := h3
        obtain ⟨a1, ws1, rfl, k1, k2⟩ := r1
        obtain ⟨a2, ws2, rfl, k3, k4⟩ := r2
        exact ⟨a1, a2, ws1, ws2, rfl, .inr ⟨sqT_mono g1.le k1, sqT_mono g1.le k3, q1 F1 H1 Stp.refl g1 _ (walkZT k1 k2 k3 k4)⟩⟩
      · cases hz
    · exact q1.elim⟩⟩⟩
end KI

/-! part KI27 -/
set_option Elab.async false
set_option linter.all false
set_option maxRecDepth 100000
set_option maxHeartbeats 4000000
namespace KI
open PySem PySem.Spec PyProof.Rows L2
/-! ## isinstance(e, D), D a class of the text -/
structure IsoC (K : Frag) (C D : Addr) (b : Bool) : Prop where
  cl : Cls K C
  ha : PySem.W.findIn K (.ref C) "__class__" = some (some (.builtin "object.__class__"))
  hn : PySem.W.specialIn K (.builtin "object.__class__") "__get__" = some (some (.builtin "getset_descriptor.__get__"))
  htk : PySem.W.takesIn K (.builtin "object.__class__") = some true
  hm : PySem.W.mroIn K C (.type "object") = some true
  kit : PySem.W.kitOne K (.ref C) (.ref D) = some b
def isoB (c d : Str) (b : Bool) (K : Frag) : Bool := He.eqO (PySem.W.findIn K (.ref (He.ga K c)) "__class__") (some (some (.builtin "object.__class__"))) && (He.eqO (PySem.W.specialIn K (.builtin "object.__class__") "__get__") (some (some (.builtin "getset_descriptor.__get__"))) &&
  (decide (PySem.W.takesIn K (.builtin "object.__class__") = some true) && (decide (PySem.W.mroIn K (He.ga K c) (.type "object") = some true) && decide (PySem.W.kitOne K (.ref (He.ga K c)) (.ref (He.ga K d)) = some b))))
theorem isoB_ok {c d : Str} {b : Bool} {K : Frag} (h : isoB c d b K = true) (cl : Cls K (He.ga K c)) : IsoC K (He.ga K c) (He.ga K d) b := by
  obtain ⟨h1, h⟩ := He.ba h
  obtain ⟨h2, h⟩ := He.ba h
  obtain ⟨h3, h⟩ := He.ba h
  obtain ⟨h4, h5⟩ := He.ba h
  exact ⟨cl, He.eqO_ok h1, He.eqO_ok h2, of_decide_eq_true h3, of_decide_eq_true h4, of_decide_eq_true h5⟩
/-- tbl: the classes of the text that may come, with the answer -/
def isoE (tbl : List (Str × Bool)) (f : EF) : EF := fun env st => (f env st).bind fun p st1 => match p with
  | .ins c _ _ => (match tbl.lookup c with
    | some b => .ok (.bl b) st1
    | none => .stuck)
  | _ => .stuck
theorem lookup_mem {α : Type} {x : Str} {u : α} : ∀ {l : List (Str × α)}, l.lookup x = some u → (x, u) ∈ l
  | [], h => by simp [List.lookup] at h
  | (y, v) :: l, h => by
    unfold List.lookup at h
    split at h
    · rename_i e
      cases h
      rw [eq_of_beq e]
      exact List.mem_cons_self
    · exact List.mem_cons_of_mem _ (lookup_mem h)
theorem qe_iso {X : Cx} {B : Bs} {W : WX} {e : Expr} {f : EF} {x : Str} {tbl : List (Str × Bool)} {p p1 pos : Pos} (h : QR X B W e f) (hi : X.mg "isinstance" = none) (hm : X.mg x = some (.ref (He.ga X.K x))) (ht : ∀ q ∈ tbl, IsoC X.K (He.ga X.K q.1) (He.ga X.K x) q.2) (hgi : Gl X "isinstance" := by rfl) (hg : Gl X x := by rfl) (hd : (x == ("__debug__" : Str)) = false := by decide)
    (hs1 : starEach [e, .Name x p1] X.env = (false, eval e X.env) :: starEach [.Name x p1] X.env := by rfl) (hs2 : starEach [.Name x p1] X.env = (false, eval (.Name x p1) X.env) :: starEach [] X.env := by rfl) (hpl : (backTo pos (starEach [.Name x p1] X.env)).any (·.1) = false := by rfl) : QE X B W (.Call (.Name "isinstance" p) [e, .Name x p1] [] pos) (isoE tbl f) :=
  ⟨pe_imp (pe_callB call_isi hgi hi rfl (pa_cons h.pe (pa_cons (pe_glob (v := .ref (He.ga X.K x)) hg hm rfl hd) pa_nil hs2) hs1) (by decide) (by decide) hs1 hpl) fun σ H Q ⟨F, env, st, g, q⟩ => ⟨F, env, st, g, q.bind.mono fun p st1 F1 H1 s1 g1 q1 v rv => by
    cases p with
    | ins c ns ps =>
      dsimp only at q1
      cases hl : tbl.lookup c with
      | none => rw [hl] at q1; exact q1.elim
      | some b =>
        rw [hl] at q1
        obtain ⟨a, dx, vs, rfl, h1, _⟩ := rv.rh.ins g1.le
        have T := ht _ (lookup_mem hl)
        exact ⟨.ref a, .ref (He.ga X.K x), .ref (He.ga X.K c), .ref (He.ga X.K x), b, rfl, .own _, .base (.ins h1 T.cl T.ha T.hn T.htk T.hm), T.kit, q1 F1 H1 Stp.refl g1 (.bl b) rfl⟩
    | _ => exact q1.elim⟩⟩
/-! ## a dict display of written keys and values; a look into a dict -/
theorem pe_glob_c {X : Cx} {x : Str} {v : V} {u : Value} {pos : Pos} (hm : X.mg x = some u) (r : RelV v u) (hg : Gl X x := by rfl) (hd : (x == ("__debug__" : Str)) = false := by decide) : PE X (.Name x pos) (tC v) := pe_glob hg hm r hd
theorem pe_gstr {X : Cx} {x z : Str} {pos : Pos} (hm : ∃ t, X.mg x = some (.str z t)) (hg : Gl X x := by rfl) (hd : (x == ("__debug__" : Str)) = false := by decide) : PE X (.Name x pos) (tC (.str z)) := by
  obtain ⟨t, hm⟩ := hm
  exact pe_glob hg hm ⟨_, rfl⟩ hd
def trsC (l : List (Str × Int)) : List (TE × TE) := l.map fun q => (tC (.str q.1), tC (.int q.2))
def kvsC (l : List (Str × Int)) : List (Key × V) := l.map fun q => (.inr q.1, V.int q.2)
theorem pairs_c : ∀ (l : List (Str × Int)) (σ : L2.St) (H : Hp) (Q : List (V × V) → Hp → Prop), Q ((kvsC l).map fun kv => (kV kv.1, kv.2)) H → tPairs (trsC l) σ H Q
  | [], σ, H, Q, h => h
  | q :: l, σ, H, Q, h => pairs_c l σ H (fun ps H3 => Q ((.str q.1, .int q.2) :: ps) H3) h
theorem repl_c {K : Frag} {F : Hp} : ∀ l : List (Str × Int), RepL K F (l.map fun q => PV.int q.2) (l.map fun q => V.int q.2)
  | [] => rfl
  | q :: l => ⟨_, _, rfl, rfl, repl_c l⟩
theorem qo_dctC {X : Cx} {B : Bs} {W : WX} {keys : List (Option Expr)} {values : List Expr} {pos : Pos} (l : List (Str × Int)) (h : PPs X pos keys values (trsC l)) (hm : mergeK [] (kvsC l) = (l.map fun q => (Sum.inr q.1 : Key)).zip (l.map fun q => V.int q.2)) (h15 : keys.length ≤ 15 := by decide) (h16 : l.length ≤ 15 := by decide) (h0 : keys ≠ [] := by simp) (hall : keys.all (·.isSome) = true := by rfl) (hl : keys.length = values.length := by rfl) :
    QO X B W (.Dict keys values pos) (fun _ st => .ok (.dct (l.map fun q => .inr q.1) (l.map fun q => .int q.2)) st) :=
  ⟨pe_imp (pe_disp h hall hl h0 h15) fun σ H Q ⟨F, env, st, g, q⟩ p hp => pairs_c l σ _ _ ⟨upd_same, kvsC l, rfl, by unfold kvsC; rw [List.length_map]; exact h16, by
    rw [upd_upd, hm]
    exact q F _ (Stp.alloc0 hp) (g.alloc0 hp) p hp (g.fnone hp) ⟨_, upd_same, by simp, repl_c l⟩⟩⟩
def lkD : List Key → List PV → Key → Option PV
  | k' :: ks, p :: ps, k => if k' = k then some p else lkD ks ps k
  | _, _, _ => none
theorem lkD_val {K : Frag} {F : Hp} {k : Key} {p : PV} : ∀ {ks : List Key} {ps : List PV} {vs : List V}, RepL K F ps vs → lkD ks ps k = some p → ∃ v, valV (ks.zip vs) k = some v ∧ Rep K F p v
  | [], _, _, _, h => by simp [lkD] at h
  | _ :: _, [], _, _, h => by simp [lkD] at h
  | k' :: ks, q :: ps, _, ⟨v, r, e, h1, h2⟩, h => by
    subst e
    unfold lkD at h
    rw [List.zip_cons_cons]
    by_cases hk : k' = k
    · rw [if_pos hk] at h; cases h
      exact ⟨v, valV_pos hk, h1⟩
    · rw [if_neg hk] at h
      obtain ⟨w, h3, h4⟩ := lkD_val h2 h
      exact ⟨w, by rw [valV_neg hk]; exact h3, h4⟩
def dgetP : PV → PV → Option PV
  | .dct ks ps, q => (match keyP q with
    | some k => lkD ks ps k
    | none => none)
  | _, _ => none
theorem qe_dget {X : Cx} {B : Bs} {W : WX} {a b : Expr} {fa fb : EF} {pos : Pos} {n : Nat} (hr : Room n X.A) (ha : QR X B W a fa) (hb : QR X B W b fb) (hs : NoSl b := by exact fun _ _ => rfl) : QE X B W (.Subscript a b pos) (opE dgetP fa fb) :=
  ⟨pe_imp (pe_dget (hu_of hr) ha.pe hb.pe hs) fun σ H Q ⟨F, env, st, g0, q⟩ => two_reads g0 q fun x y p q z st' F' H' s gg rx ry hz r => by
    cases p with
    | dct ks ps =>
      unfold dgetP at hz
      dsimp only at hz
      cases hk : keyP q with
      | none => rw [hk] at hz; cases hz
      | some k =>
        rw [hk] at hz
        obtain ⟨a', vs, rfl, h1, h2, h3⟩ := rx.rh.dct gg.le
        obtain ⟨v, h4, h5⟩ := lkD_val h3 hz
        have ey := ry.rh.key hk
        subst ey
        refine ⟨a', v, rfl, ?_, r F' H' Stp.refl gg v h5⟩
        have := DGet.k (k := k) h1
        rw [h4] at this
        exact this
    | _ => exact absurd hz (by simp [dgetP])⟩
/-! ## a tuple of whole numbers of the written part -/
def intOf : Value → Option Int
  | .int i _ => some i
  | _ => none
def tupIB (x : Str) (ns : List Int) (K : Frag) : Bool := match PySem.W.nsIn K mainGlobals x with
  | some (some (.ref a)) => (match K.lookup a with
    | some ⟨.type c, _, .seq its _, _⟩ => c == "tuple" && decide (its.toList.map intOf = ns.map some)
    | _ => false)
  | _ => false
theorem ints_vals : ∀ {vs : List Value} {ns : List Int}, vs.map intOf = ns.map some → Vals (ns.map V.int) vs
  | [], [], _ => .nil
  | [], _ :: _, h => by cases h
  | _ :: _, [], h => by cases h
  | v :: vs, n :: ns, h => by
    rw [List.map_cons, List.map_cons] at h
    injection h with h1 h2
    refine .cons ?_ (ints_vals h2)
    cases v <;> first
      | (cases h1; done)
      | (cases h1; exact ⟨_, rfl⟩)
theorem tupIB_ok {x : Str} {ns : List Int} {K : Frag} {h : Heap} {mg : Str → Option Value} (X : K.In h) (G : h.Ns mainGlobals mg) (hz : ns.length ≤ sizeLine) (c : tupIB x ns K = true) : ∃ a, mg x = some (.ref a) ∧ ∀ F, Rep K F (.tup (ns.map .int)) (.ref a) := by
  unfold tupIB at c
  split at c
  · rename_i a ha
    split at c
    · rename_i t d its n sl ho
      obtain ⟨h1, h2⟩ := He.ba c
      have h2 := of_decide_eq_true h2
      refine ⟨a, PySem.W.mg_of X G ha, fun F => ⟨a, ns.map V.int, rfl, .inr ⟨_, its, n, ho, ?_, rfl, ?_, ?_⟩, RepL.of_ints⟩⟩
      · rw [show t = "tuple" from by simpa using h1]
      · have := congrArg List.length h2
        rw [List.length_map, List.length_map, Array.length_toList] at this
        omega
      · exact ints_vals h2
    · cases c
  · cases c
end KI

/-! part KI28 -/
set_option Elab.async false
set_option linter.all false
set_option maxRecDepth 100000
set_option maxHeartbeats 4000000
namespace KI
open PySem PySem.Spec PySem.Calls PyProof.Rows L2
theorem pe_negC {X : Cx} {i : Int} {j : Nat} {p pos : Pos} : PE X (.UnaryOp .USub (.Constant (.int i) j p) pos) (tC (.int (-i))) := pe_imp (pe_un un_neg pe_int) fun σ H Q h => ⟨i, rfl, h⟩
theorem qe_gtup {X : Cx} {B : Bs} {W : WX} {x : Str} {z : PV} {pos : Pos} (hm : ∃ a, X.mg x = some (.ref a) ∧ ∀ F, Rep X.K F z (.ref a)) (hg : Gl X x := by rfl) (hd : (x == ("__debug__" : Str)) = false := by decide) : QE X B W (.Name x pos) (cE z) := by
  obtain ⟨a, hm, h⟩ := hm
  exact qe_glob (v := .ref a) hm rfl h hg hd
theorem fldOkL {K : Frag} {cs : List Str} {f : Str} (h : ∀ c ∈ cs, Cls K (He.ga K c) ∧ NoAttr K (He.ga K c) f) : FldOk K cs f := h
section
variable {P : Program} {w : World} {K : Frag} {mg : Str → Option Value} {base : Heap} {N : List Str} {qual : Str} {scope : Scope} {f cc : Addr} {cdv : Value} {A : Around} {outer : List Env} {s : Shared} {H : Hp} {E : XK}
theorem takes_cxK : Takes (cxK (L2.CX P w) P w K mg base N qual scope f cdv cc A outer s H E) (fun cls d _ H => E cls d H) := takes_of rfl rfl rfl rfl
theorem owns_cxK : PassesOwn (model P w) (cxK (L2.CX P w) P w K mg base N qual scope f cdv cc A outer s H E).A (cxK (L2.CX P w) P w K mg base N qual scope f cdv cc A outer s H E).env (cxK (L2.CX P w) P w K mg base N qual scope f cdv cc A outer s H E).xe :=
  passes_of (X := cxK (L2.CX P w) P w K mg base N qual scope f cdv cc A outer s H E) rfl
end
end KI

/-! part KI29 -/
set_option Elab.async false
set_option linter.all false
set_option maxRecDepth 100000
namespace KI
open PySem PySem.Spec PySem.Calls PyProof.Rows L2
/-! ## the Hook over written addresses -/
def obsL (as : List Addr) (fa : List He.Fa) (fn : List He.DefD) (ex : List (Frag → Bool)) (xs : List XD) (g : Addr → Option Obj) : AlQ := obsQ fa fn ex xs (He.frG g as)
def hookL (as : List Addr) (fa : List He.Fa) (fn : List He.DefD) (ex : List (Frag → Bool)) (xs : List XD) : PySem.W.Hook where
  α := AlQ
  obs := fun s => obsL as fa fn ex xs s.heap.get?
  val := fun _ => valQ fn xs
  says := fun _ h => ∃ K : Frag, K.In h ∧ SaysQ fa fn ex xs K
  of := fun _ _ e => ⟨_, He.frG_in, e⟩
  keeps := fun _ _ _ ⟨K, hK, c⟩ k => ⟨K, PySem.W.Frag.In.keeps hK k, c⟩
theorem obsL_eq {as : List Addr} {fa : List He.Fa} {fn : List He.DefD} {ex : List (Frag → Bool)} {xs : List XD} {g : Addr → Option Obj} {s : Shared} (h : ∀ a, g a = s.heap.get? a) : obsL as fa fn ex xs g = (hookL as fa fn ex xs).obs s := by
  have e : g = s.heap.get? := funext h
  rw [e] <;> rfl
theorem map_pair {α β γ : Type} {o : Option α} {f : α → β} {g : α → γ} {a : β} {b : γ} (h1 : o.map f = some a) (h2 : o.map g = some b) : o.map (fun x => (f x, g x)) = some (a, b) := by
  cases o with
  | none => cases h1
  | some x => cases h1; cases h2; rfl
end KI

/-! part W13 -/
set_option Elab.async false
set_option linter.all false
set_option maxRecDepth 100000
set_option maxHeartbeats 4000000
namespace KI.K13
open PySem PySem.Spec PySem.Calls PyProof.Rows L2 KI
abbrev RW := PySem.Challenge.rw_knowninside_k13_whole_small_weights
abbrev PW := PySem.Challenge.pw_knowninside_k13_whole_small_weights
def top (i : Nat) : Stmt := PW.main.body.getD i (.Pass ⟨0, 0, 0, 0⟩)
def clsB : Stmt → List Stmt
  | .ClassDef (body := b) .. => b
  | _ => []
def meth (i j : Nat) : Stmt := (clsB (top i)).getD j (.Pass ⟨0, 0, 0, 0⟩)
def exmL : List (Str × Str × Bool) := [("BadLot", "BadLot", true), ("BadLot", "NotFort", false), ("NotFort", "NotFort", true), ("NotFort", "BadLot", false)]
def exmT (c x : Str) : Option Bool := (exmL.find? fun p => p.1 == c && p.2.1 == x).map (·.2.2)
/-- what the top says -/
structure Tops (K : Frag) (mg : Str → Option Value) (w : World) (base : Heap) : Prop where
  n_len : mg "len" = none
  n_min : mg "min" = none
  n_int : mg "int" = none
  n_tuple : mg "tuple" = none
  n_list : mg "list" = none
  n_sorted : mg "sorted" = none
  n_isinstance : mg "isinstance" = none
  n_range : mg "range" = none
  n_enumerate : mg "enumerate" = none
  n_bool : mg "bool" = none
  n_str : mg "str" = none
  n_super : mg "super" = none
  n_sum : mg "sum" = none
  n_zip : mg "zip" = none
  c_NONE : ∃ t, mg "NONE" = some (.str "." t)
  c_FIRM : ∃ t, mg "FIRM" = some (.str "f" t)
  c_LOOSE : ∃ t, mg "LOOSE" = some (.str "l" t)
  c_TOLD : ∃ t, mg "TOLD" = some (.str "t" t)
  c_MOST_COLUMNS : ∃ t, mg "MOST_COLUMNS" = some (.int 600 t)
  c_MOST_LINES : ∃ t, mg "MOST_LINES" = some (.int 800 t)
  c_PRIMES : ∃ a, mg "PRIMES" = some (.ref a) ∧ ∀ F, Rep K F (.tup (([2, 3, 5, 7, 11, 13, 17, 19, 23, 29, 31, 37, 41, 43, 47, 53, 59, 61, 67, 71, 73, 79, 83, 89, 97] : List Int).map .int)) (.ref a)
  x_NoPlace : FnX PW w K mg base "NoPlace" ["place"]
  x_BadLot : FnX PW w K mg base "BadLot" ["place"]
  x_BadMark : FnX PW w K mg base "BadMark" ["row", "column"]
  x_TooMany : FnX PW w K mg base "TooMany" ["most"]
  x_TwoTold : FnX PW w K mg base "TwoTold" ["row"]
  x_BadNumber : FnX PW w K mg base "BadNumber" ["place"]
  x_BadField : FnX PW w K mg base "BadField" ["size"]
  x_OtherSize : FnX PW w K mg base "OtherSize" ["size"]
  x_WrongWeight : FnX PW w K mg base "WrongWeight" ["row", "column"]
  x_NotFort : FnX PW w K mg base "NotFort" ["row"]
  fo_Table_columns : FldOk K ["Table"] "columns"
  fo_Table_lines : FldOk K ["Table"] "lines"
  fo_Weighted_field : FldOk K ["Weighted"] "field"
  fo_Weighted_table : FldOk K ["Weighted"] "table"
  fo_Weighted_rows : FldOk K ["Weighted"] "rows"
  fo_Field_prime : FldOk K ["Prime", "Fractions"] "prime"
  g_BadLot : mg "BadLot" = some (.ref (He.ga K "BadLot"))
  g_NotFort : mg "NotFort" = some (.ref (He.ga K "NotFort"))
  g_BadNumber : mg "BadNumber" = some (.ref (He.ga K "BadNumber"))
  g_Field : mg "Field" = some (.ref (He.ga K "Field"))
  iso_Field : ∀ q ∈ ([("Prime", true), ("Fractions", true)] : List (Str × Bool)), IsoC K (He.ga K q.1) (He.ga K "Field") q.2
  xg_BadLot_place : ∀ c ∈ (["BadLot"] : List Str), XGet K (He.ga K c) "place"
  xg_NotFort_row : ∀ c ∈ (["NotFort"] : List Str), XGet K (He.ga K c) "row"
  exm : ∀ c x b, exmT c x = some b → PySem.W.exmOne K (.ref (He.ga K c)) (.ref (He.ga K x)) = some b

-- is_whole
def g_is_whole : SF := (seqS (retS (andE (isiE ["int"] (vR 0)) (notE (isiE ["bool"] (vR 0))))) nxS)
def fi_is_whole : FnI := mkFn [.val] false 1 g_is_whole
-- place_of
def g_place_of : SF := (seqS (ifS (notT (truT (callE fi_is_whole [] (consA (vE 0) nilA)))) (seqS (raiseS "NoPlace" ["place"] (consA (cE (.int 0)) nilA)) nxS) nxS) (seqS (ifS (orT (cmpT ltP (vR 0) (cE (.int 0))) (cmpT geP (vR 0) (vR 1))) (seqS (raiseS "NoPlace" ["place"] (consA (vE 0) nilA)) nxS) nxS) (seqS (retS (vE 0)) nxS)))
def fi_place_of : FnI := mkFn [.val, .val] false 2 g_place_of
-- size_of
def g_size_of : SF := (seqS (ifS (notT (truT (callE fi_is_whole [] (consA (vE 0) nilA)))) (seqS (raiseS "NoPlace" ["place"] (consA (cE (.int 0)) nilA)) nxS) nxS) (seqS (ifS (cmpT ltP (vR 0) (cE (.int 0))) (seqS (raiseS "NoPlace" ["place"] (consA (vE 0) nilA)) nxS) nxS) (seqS (retS (vE 0)) nxS)))
def fi_size_of : FnI := mkFn [.val] false 1 g_size_of
-- lot_of
def g_lot_of : SF := (seqS (ifS (notT (truT (isiE ["list", "tuple"] (vR 0)))) (seqS (raiseS "BadLot" ["place"] (consA (negE (cE (.int 1))) nilA)) nxS) nxS) (seqS (setO 2 (fun _ st => .ok (.dct [] []) st)) (seqS (forS (enumA (vE 0)) (pairG 3 4) (seqS (ifS (orT (notT (truT (callE fi_is_whole [] (consA (vE 4) nilA)))) (orT (cmpT ltP (vR 4) (cE (.int 0))) (orT (cmpT geP (vR 4) (vR 1)) (cmpT (inP false) (vR 4) (vR 2))))) (seqS (raiseS "BadLot" ["place"] (consA (vE 3) nilA)) nxS) nxS) (seqS (setDct 2 (cE (.bl true)) (vE 4)) (fun env st => .nx (killS [3, 4] env) st)))) (seqS (retS (biE tupleP (consA (biE sortedP (consA (biE listP (consA (vR 2) nilA)) nilA)) nilA))) nxS))))
def fi_lot_of : FnI := mkFn [.val, .val] false 5 g_lot_of
-- lowest_pair
def g_lowest_pair : SF := (fun _ _ => .stuck)
def fi_lowest_pair : FnI := mkFn [.val, .val] false 3 g_lowest_pair
-- normal_number
def g_normal_number : SF := (seqS (ifS (truT (callE fi_is_whole [] (consA (vE 1) nilA))) (seqS (retS (ifE (truT (vR 0)) (opE modP (vR 1) (vR 0)) (tupE (consA (vE 1) (consA (cE (.int 1)) nilA))))) nxS) nxS) (seqS (ifS (orT (truT (vR 0)) (orT (notT (truT (isiE ["list", "tuple"] (vR 1)))) (cmpT neP (biE lenP (consA (vR 1) nilA)) (cE (.int 2))))) (seqS (raiseS "BadNumber" ["place"] (consA (vE 2) nilA)) nxS) nxS) (seqS (asgS (vE 1) (upG [3, 4])) (seqS (ifS (orT (notT (truT (callE fi_is_whole [] (consA (vE 3) nilA)))) (orT (notT (truT (callE fi_is_whole [] (consA (vE 4) nilA)))) (cmpT eqP (vR 4) (cE (.int 0))))) (seqS (raiseS "BadNumber" ["place"] (consA (vE 2) nilA)) nxS) nxS) (seqS (retS (callE fi_lowest_pair [] (consA (vE 3) (consA (vE 4) nilA)))) nxS)))))
def fi_normal_number : FnI := mkFn [.val, .val, .val] false 5 g_normal_number
-- nought_of
def g_nought_of : SF := (seqS (retS (ifE (truT (vR 0)) (cE (.int 0)) (tupE (consA (cE (.int 0)) (consA (cE (.int 1)) nilA))))) nxS)
def fi_nought_of : FnI := mkFn [.val] false 1 g_nought_of
-- unit_of
def g_unit_of : SF := (seqS (retS (ifE (truT (vR 0)) (cE (.int 1)) (tupE (consA (cE (.int 1)) (consA (cE (.int 1)) nilA))))) nxS)
def fi_unit_of : FnI := mkFn [.val] false 1 g_unit_of
-- add_numbers
def g_add_numbers : SF := (seqS (ifS (truT (vR 0)) (seqS (retS (opE modP (opE addP (vR 1) (vR 2)) (vR 0))) nxS) nxS) (seqS (ifS (andT (cmpT eqP (opE ixP (vR 1) (cE (.int 1))) (cE (.int 1))) (cmpT eqP (opE ixP (vR 2) (cE (.int 1))) (cE (.int 1)))) (seqS (retS (tupE (consA (opE addP (opE ixP (vR 1) (cE (.int 0))) (opE ixP (vR 2) (cE (.int 0)))) (consA (cE (.int 1)) nilA)))) nxS) nxS) (seqS (retS (callE fi_lowest_pair [] (consA (opE addP (opE mulP (opE ixP (vR 1) (cE (.int 0))) (opE ixP (vR 2) (cE (.int 1)))) (opE mulP (opE ixP (vR 2) (cE (.int 0))) (opE ixP (vR 1) (cE (.int 1))))) (consA (opE mulP (opE ixP (vR 1) (cE (.int 1))) (opE ixP (vR 2) (cE (.int 1)))) nilA)))) nxS)))
def fi_add_numbers : FnI := mkFn [.val, .val, .val] false 3 g_add_numbers
-- mul_numbers
def g_mul_numbers : SF := (seqS (ifS (truT (vR 0)) (seqS (retS (opE modP (opE mulP (vR 1) (vR 2)) (vR 0))) nxS) nxS) (seqS (ifS (andT (cmpT eqP (opE ixP (vR 1) (cE (.int 1))) (cE (.int 1))) (cmpT eqP (opE ixP (vR 2) (cE (.int 1))) (cE (.int 1)))) (seqS (retS (tupE (consA (opE mulP (opE ixP (vR 1) (cE (.int 0))) (opE ixP (vR 2) (cE (.int 0)))) (consA (cE (.int 1)) nilA)))) nxS) nxS) (seqS (retS (callE fi_lowest_pair [] (consA (opE mulP (opE ixP (vR 1) (cE (.int 0))) (opE ixP (vR 2) (cE (.int 0)))) (consA (opE mulP (opE ixP (vR 1) (cE (.int 1))) (opE ixP (vR 2) (cE (.int 1)))) nilA)))) nxS)))
def fi_mul_numbers : FnI := mkFn [.val, .val, .val] false 3 g_mul_numbers
-- negated
def g_negated : SF := (seqS (ifS (truT (vR 0)) (seqS (retS (opE modP (negE (vE 1)) (vR 0))) nxS) nxS) (seqS (retS (tupE (consA (negE (opE ixP (vR 1) (cE (.int 0)))) (consA (opE ixP (vR 1) (cE (.int 1))) nilA)))) nxS))
def fi_negated : FnI := mkFn [.val, .val] false 2 g_negated
-- Field_init
def g_Field_init : SF := (seqS (setFldM 0 ["Prime", "Fractions"] "prime" (vE 1)) nxS)
def fi_Field_init : FnI := mkFn [.mu, .val] false 2 g_Field_init
-- Prime_init
def g_Prime_init : SF := (seqS (ifS (notT (truT (callE fi_is_whole [] (consA (vE 1) nilA)))) (seqS (raiseS "BadField" ["size"] (consA (cE (.int 0)) nilA)) nxS) nxS) (seqS (ifS (cmpT (inP true) (vR 1) (cE (.tup (([2, 3, 5, 7, 11, 13, 17, 19, 23, 29, 31, 37, 41, 43, 47, 53, 59, 61, 67, 71, 73, 79, 83, 89, 97] : List Int).map .int)))) (seqS (raiseS "BadField" ["size"] (consA (vE 1) nilA)) nxS) nxS) (superS "Prime" fi_Field_init (consA (vE 1) nilA))))
def fi_Prime_init : FnI := mkFn [.mu, .val] false 2 g_Prime_init
-- Fractions_init
def g_Fractions_init : SF := (superS "Fractions" fi_Field_init (consA (cE (.int 0)) nilA))
def fi_Fractions_init : FnI := mkFn [.mu] false 1 g_Fractions_init
-- need_field
def g_need_field : SF := (seqS (ifS (notT (truT (isoE [("Prime", true), ("Fractions", true)] (vR 0)))) (seqS (raiseS "BadField" ["size"] (consA (cE (.int 0)) nilA)) nxS) nxS) (seqS (retS (vE 0)) nxS))
def fi_need_field : FnI := mkFn [.val] false 1 g_need_field
-- is_hard
def g_is_hard : SF := (seqS (retS (cmpE (inP false) (vR 0) (tupE (consA (cE (.str "f")) (consA (cE (.str "t")) nilA))))) nxS)
def fi_is_hard : FnI := mkFn [.val] false 1 g_is_hard
-- is_touched
def g_is_touched : SF := (seqS (retS (cmpE (inP false) (vR 0) (tupE (consA (cE (.str "f")) (consA (cE (.str "l")) (consA (cE (.str "t")) nilA)))))) nxS)
def fi_is_touched : FnI := mkFn [.val] false 1 g_is_touched
-- check_line
def g_check_line : SF := (seqS (ifS (orT (notT (truT (isiE ["str"] (vR 0)))) (cmpT neP (biE lenP (consA (vR 0) nilA)) (vR 1))) (seqS (raiseS "BadMark" ["row", "column"] (consA (vE 2) (consA (negE (cE (.int 1))) nilA))) nxS) nxS) (seqS (forS (enumA (vE 0)) (pairG 3 4) (seqS (ifS (andT (cmpT neP (vR 4) (cE (.str "."))) (notT (truT (callE fi_is_touched [] (consA (vE 4) nilA))))) (seqS (raiseS "BadMark" ["row", "column"] (consA (vE 2) (consA (vE 3) nilA))) nxS) nxS) (fun env st => .nx (killS [3, 4] env) st))) (seqS (ifS (cmpT gtP (smE countP (vR 0) (cE (.str "t"))) (cE (.int 1))) (seqS (raiseS "TwoTold" ["row"] (consA (vE 2) nilA)) nxS) nxS) (seqS (retS (vE 0)) nxS))))
def fi_check_line : FnI := mkFn [.val, .val, .val] false 5 g_check_line
-- normal_row
def g_normal_row : SF := (seqS (ifS (notT (truT (isiE ["list", "tuple"] (vR 1)))) (seqS (raiseS "BadNumber" ["place"] (consA (negE (cE (.int 1))) nilA)) nxS) nxS) (seqS (ifS (cmpT neP (biE lenP (consA (vR 1) nilA)) (vR 2)) (seqS (raiseS "OtherSize" ["size"] (consA (vE 2) nilA)) nxS) nxS) (seqS (retS (biE tupleP (consA (lcE [3, 4] (enumA (vE 1)) (pairG 3 4) yesT (callE fi_normal_number [] (consA (vE 0) (consA (vE 4) (consA (vE 3) nilA))))) nilA))) nxS)))
def fi_normal_row : FnI := mkFn [.val, .val, .val] false 5 g_normal_row
-- row_dot
def g_row_dot : SF := (seqS (ifS (truT (vR 0)) (seqS (retS (opE modP (biE sumP (consA (lcE [4, 5] (zipA (consA (vE 1) (consA (vE 2) nilA))) (pairG 4 5) yesT (opE mulP (vR 4) (vR 5))) nilA)) (vR 0))) nxS) nxS) (seqS (setS 3 (tupE (consA (cE (.int 0)) (consA (cE (.int 1)) nilA)))) (seqS (forS (zipA (consA (vE 1) (consA (vE 2) nilA))) (pairG 4 5) (seqS (ifS (andT (cmpT neP (opE ixP (vR 4) (cE (.int 0))) (cE (.int 0))) (cmpT neP (opE ixP (vR 5) (cE (.int 0))) (cE (.int 0)))) (seqS (setS 3 (callE fi_add_numbers [] (consA (cE (.int 0)) (consA (vE 3) (consA (callE fi_mul_numbers [] (consA (cE (.int 0)) (consA (vE 4) (consA (vE 5) nilA)))) nilA))))) nxS) nxS) (fun env st => .nx (killS [4, 5] env) st))) (seqS (retS (vE 3)) nxS))))
def fi_row_dot : FnI := mkFn [.val, .val, .val] false 6 g_row_dot
-- flags_of
def g_flags_of : SF := (seqS (setO 2 (opE mulL (lstE (consA (cE (.bl false)) nilA)) (vR 1))) (seqS (forS (seqA (vE 0)) (nameG 3) (seqS (setIx 2 (cE (.bl true)) (vE 3)) (fun env st => .nx (killS [3] env) st))) (fun env st => (seqS (retS (vE 2)) nxS) (frzE 2 env) st)))
def fi_flags_of : FnI := mkFn [.val, .val] false 4 g_flags_of
-- forced_now
def g_forced_now : SF := (seqS (setO 3 (lcE [4] (seqA (vE 1)) (nameG 4) (truT (opE ixP (vR 2) (vR 4))) (vE 4))) (seqS (ifS (orT (cmpT neP (biE lenP (consA (vR 3) nilA)) (cE (.int 1))) (notT (truT (callE fi_is_hard [] (consA (opE ixP (vR 0) (opE ixP (vR 3) (cE (.int 0)))) nilA))))) (seqS (retS (cE .non)) nxS) nxS) (seqS (retS (opE ixP (vR 3) (cE (.int 0)))) nxS)))
def fi_forced_now : FnI := mkFn [.val, .val, .bor] false 5 g_forced_now
-- Table_len
def g_Table_len : SF := (seqS (retS (biE lenP (consA (fldE ["Table"] "lines" (vR 0)) nilA))) nxS)
def fi_Table_len : FnI := mkFn [.bor] false 1 g_Table_len
-- Table_touches
def g_Table_touches : SF := (seqS (setS 2 (opE ixP (fldE ["Table"] "lines" (vR 0)) (callE fi_place_of [] (consA (vE 1) (consA (biE lenP (consA (fldE ["Table"] "lines" (vR 0)) nilA)) nilA))))) (seqS (retS (biE tupleP (consA (lcE [3, 4] (enumA (vE 2)) (pairG 3 4) (truT (callE fi_is_touched [] (consA (vE 4) nilA))) (vE 3)) nilA))) nxS))
def fi_Table_touches : FnI := mkFn [.bor, .val] false 5 g_Table_touches
-- broken_at
def g_broken_at : SF := (seqS (setS 2 (callE fi_flags_of [] (consA (callE fi_lot_of [] (consA (vE 1) (consA (fldE ["Table"] "columns" (vR 0)) nilA))) (consA (fldE ["Table"] "columns" (vR 0)) nilA)))) (seqS (forS (rngA (consA (lenM ["Table"] fi_Table_len (vR 0)) nilA)) (nameG 3) (seqS (ifS (cmpT isnP (callE fi_forced_now [] (consA (opE ixP (fldE ["Table"] "lines" (vR 0)) (vR 3)) (consA (methE ["Table"] "touches" fi_Table_touches [] (vR 0) (consA (vE 3) nilA)) (consA (vR 2) nilA)))) (cE .non)) (seqS (retS (vE 3)) nxS) nxS) (fun env st => .nx (killS [3] env) st))) (seqS (retS (cE .non)) nxS)))
def fi_broken_at : FnI := mkFn [.val, .val] false 4 g_broken_at
-- count_of_columns
def g_count_of_columns : SF := (seqS (fun env st => liftS ((callE fi_size_of [] (consA (vE 0) nilA)) env st) env fun _ st2 => .nx env st2) (seqS (ifS (cmpT gtP (vR 0) (cE (.int 600))) (seqS (raiseS "TooMany" ["most"] (consA (cE (.int 600)) nilA)) nxS) nxS) (seqS (retS (vE 0)) nxS)))
def fi_count_of_columns : FnI := mkFn [.val] false 1 g_count_of_columns
-- Table_init
def g_Table_init : SF := (seqS (fun env st => liftS ((callE fi_count_of_columns [] (consA (vE 1) nilA)) env st) env fun _ st2 => .nx env st2) (seqS (ifS (notT (truT (isiE ["list", "tuple"] (vR 2)))) (seqS (raiseS "BadMark" ["row", "column"] (consA (negE (cE (.int 1))) (consA (negE (cE (.int 1))) nilA))) nxS) nxS) (seqS (ifS (cmpT gtP (biE lenP (consA (vR 2) nilA)) (cE (.int 800))) (seqS (raiseS "TooMany" ["most"] (consA (cE (.int 800)) nilA)) nxS) nxS) (seqS (setFldM 0 ["Table"] "columns" (vE 1)) (seqS (setFldM 0 ["Table"] "lines" (biE tupleP (consA (lcE [3, 4] (enumA (vE 2)) (pairG 3 4) yesT (callE fi_check_line [] (consA (vE 4) (consA (vE 1) (consA (vE 3) nilA))))) nilA))) nxS)))))
def fi_Table_init : FnI := mkFn [.mu, .val, .val] false 5 g_Table_init
-- fits_mark
def g_fits_mark : SF := (seqS (ifS (cmpT eqP (vR 1) (cE (.str "l"))) (seqS (retS (cE (.bl true))) nxS) nxS) (seqS (ifS (cmpT eqP (vR 1) (cE (.str "t"))) (seqS (retS (cmpE eqP (vR 2) (callE fi_negated [] (consA (vE 0) (consA (callE fi_unit_of [] (consA (vE 0) nilA)) nilA))))) nxS) nxS) (seqS (retS (cmpE eqP (cmpE eqP (vR 2) (callE fi_nought_of [] (consA (vE 0) nilA))) (cmpE eqP (vR 1) (cE (.str "."))))) nxS)))
def fi_fits_mark : FnI := mkFn [.val, .val, .val] false 3 g_fits_mark
-- fitting_row
def g_fitting_row : SF := (seqS (tryS exmT (seqS (setS 6 (callE fi_normal_row [] (consA (fldE ["Prime", "Fractions"] "prime" (vR 0)) (consA (vE 3) (consA (biE lenP (consA (vR 1) nilA)) nilA))))) nxS) [("BadNumber", some 7, (fun _ _ => .stuck))]) (seqS (forS (enumA (vE 1)) (pairG 4 5) (seqS (ifS (notT (truT (callE fi_fits_mark [] (consA (fldE ["Prime", "Fractions"] "prime" (vR 0)) (consA (vE 5) (consA (opE ixP (vR 6) (vR 4)) nilA)))))) (seqS (raiseS "WrongWeight" ["row", "column"] (consA (vE 2) (consA (vE 4) nilA))) nxS) nxS) (fun env st => .nx (killS [4, 5] env) st))) (seqS (retS (vE 6)) nxS)))
def fi_fitting_row : FnI := mkFn [.val, .val, .val, .val] false 8 g_fitting_row
-- Weighted_init
def g_Weighted_init : SF := (seqS (fun env st => liftS ((callE fi_need_field [] (consA (vE 1) nilA)) env st) env fun _ st2 => .nx env st2) (seqS (ifS (notT (truT (isiE ["list", "tuple"] (vR 3)))) (seqS (raiseS "BadNumber" ["place"] (consA (negE (cE (.int 1))) nilA)) nxS) nxS) (seqS (ifS (cmpT neP (biE lenP (consA (vR 3) nilA)) (lenM ["Table"] fi_Table_len (vR 2))) (seqS (raiseS "OtherSize" ["size"] (consA (lenM ["Table"] fi_Table_len (vR 2)) nilA)) nxS) nxS) (seqS (setFldM 0 ["Weighted"] "field" (vE 1)) (seqS (setFldM 0 ["Weighted"] "table" (vE 2)) (seqS (setFldM 0 ["Weighted"] "rows" (biE tupleP (consA (lcE [4, 5] (enumA (vE 3)) (pairG 4 5) yesT (callE fi_fitting_row [] (consA (vE 1) (consA (opE ixP (fldE ["Table"] "lines" (vR 2)) (vR 4)) (consA (vE 4) (consA (vE 5) nilA)))))) nilA))) nxS))))))
def fi_Weighted_init : FnI := mkFn [.mu, .val, .val, .val] false 6 g_Weighted_init
-- Weighted_dots
def g_Weighted_dots : SF := (seqS (setS 2 (callE fi_normal_row [] (consA (fldE ["Prime", "Fractions"] "prime" (fldE ["Weighted"] "field" (vR 0))) (consA (vE 1) (consA (fldE ["Table"] "columns" (fldE ["Weighted"] "table" (vR 0))) nilA))))) (seqS (retS (biE tupleP (consA (lcE [3] (seqA (fldE ["Weighted"] "rows" (vR 0))) (nameG 3) yesT (callE fi_row_dot [] (consA (fldE ["Prime", "Fractions"] "prime" (fldE ["Weighted"] "field" (vR 0))) (consA (vE 3) (consA (vE 2) nilA))))) nilA))) nxS))
def fi_Weighted_dots : FnI := mkFn [.bor, .val] false 4 g_Weighted_dots
-- Weighted_silent
def g_Weighted_silent : SF := (seqS (retS (cmpE eqP (methE ["Weighted"] "dots" fi_Weighted_dots [] (vR 0) (consA (vE 1) nilA)) (opE mulT (tupE (consA (callE fi_nought_of [] (consA (fldE ["Prime", "Fractions"] "prime" (fldE ["Weighted"] "field" (vR 0))) nilA)) nilA)) (biE lenP (consA (fldE ["Weighted"] "rows" (vR 0)) nilA))))) nxS)
def fi_Weighted_silent : FnI := mkFn [.bor, .val] false 2 g_Weighted_silent
-- marked_within
def g_marked_within : SF := (seqS (retS (lcE [3] (rngA (consA (biE lenP (consA (vR 0) nilA)) nilA)) (nameG 3) (andT (cmpT eqP (opE ixP (vR 0) (vR 3)) (vR 1)) (truT (opE ixP (vR 2) (vR 3)))) (vE 3))) nxS)
def fi_marked_within : FnI := mkFn [.val, .val, .bor] false 4 g_marked_within
-- small_parts
def g_small_parts : SF := (seqS (setS 2 (lstE nilA)) (seqS (ifS (cmpT neP (opE modP (vR 0) (cE (.int 2))) (vR 1)) (seqS (setS 2 (ifE (cmpT eqP (vR 1) (cE (.int 1))) (lstE (consA (cE (.int 2)) (consA (negE (cE (.int 1))) nilA))) (lstE (consA (cE (.int 1)) (consA (cE (.int 1)) (consA (negE (cE (.int 2))) nilA)))))) nxS) (seqS (ifS (cmpT eqP (vR 1) (cE (.int 1))) (seqS (setS 2 (lstE (consA (cE (.int 1)) nilA))) nxS) nxS) nxS)) (seqS (fun env st => whileL (cmpT ltP (biE lenP (consA (vR 2) nilA)) (vR 0)) (seqS (setS 2 (opE addL (vR 2) (lstE (consA (cE (.int 1)) (consA (negE (cE (.int 1))) nilA))))) nxS) 100 env st) (seqS (retS (vE 2)) nxS))))
def fi_small_parts : FnI := mkFn [.val, .val] false 3 g_small_parts
-- small_row
def g_small_row : SF := (seqS (setS 2 (fun _ st => .ok (.dct (([(".", 0), ("f", 1), ("l", 0), ("t", -1)] : List (Str × Int)).map fun q => .inr q.1) (([(".", 0), ("f", 1), ("l", 0), ("t", -1)] : List (Str × Int)).map fun q => .int q.2)) st)) (seqS (setO 3 (lcE [7] (seqA (vE 0)) (nameG 7) yesT (opE dgetP (vR 2) (vR 7)))) (seqS (setS 4 (callE fi_marked_within [] (consA (vE 0) (consA (cE (.str "l")) (consA (vR 1) nilA))))) (seqS (setS 5 (callE fi_marked_within [] (consA (vE 0) (consA (cE (.str "t")) (consA (vR 1) nilA))))) (seqS (setS 6 (callE fi_marked_within [] (consA (vE 0) (consA (cE (.str "f")) (consA (vR 1) nilA))))) (seqS (ifS (andT (truT (vR 4)) (cmpT eqP (opE addP (biE lenP (consA (vR 5) nilA)) (biE lenP (consA (vR 6) nilA))) (cE (.int 1)))) (seqS (setIx 3 (ifE (truT (vR 5)) (cE (.int 1)) (negE (cE (.int 1)))) (opE ixP (vR 4) (cE (.int 0)))) nxS) (seqS (ifS (truT (vR 6)) (seqS (forS (zipA (consA (vE 6) (consA (callE fi_small_parts [] (consA (biE lenP (consA (vR 6) nilA)) (consA (biE lenP (consA (vR 5) nilA)) nilA))) nilA))) (pairG 8 9) (seqS (setIx 3 (vE 9) (vE 8)) (fun env st => .nx (killS [8, 9] env) st))) nxS) nxS) nxS)) (seqS (retS (biE tupleP (consA (vR 3) nilA))) nxS)))))))
def fi_small_row : FnI := mkFn [.val, .val] false 10 g_small_row
-- small_weights
def g_small_weights : SF := (seqS (setS 2 (callE fi_lot_of [] (consA (vE 1) (consA (fldE ["Table"] "columns" (vR 0)) nilA)))) (seqS (setS 3 (callE fi_broken_at [] (consA (vE 0) (consA (vE 2) nilA)))) (seqS (ifS (cmpT isnP (vR 3) (cE .non)) (seqS (raiseS "NotFort" ["row"] (consA (vE 3) nilA)) nxS) nxS) (seqS (setS 4 (callE fi_flags_of [] (consA (vE 2) (consA (fldE ["Table"] "columns" (vR 0)) nilA)))) (seqS (retS (biE tupleP (consA (lcE [5] (seqA (fldE ["Table"] "lines" (vR 0))) (nameG 5) yesT (callE fi_small_row [] (consA (vE 5) (consA (vE 4) nilA)))) nilA))) nxS)))))
def fi_small_weights : FnI := mkFn [.val, .val] false 6 g_small_weights
-- _law_next
def g__law_next : SF := (seqS (setS 2 (ixM 0 0)) (seqS (setS 3 (ixM 0 1)) (seqS (setIxM 0 1 (opE addP (vR 3) (cE (.int 1)))) (seqS (ifS (cmpT geP (vR 3) (biE lenP (consA (vR 2) nilA))) (seqS (retS (cE (.int 0))) nxS) nxS) (seqS (retS (opE modP (biE intTyP (consA (opE ixP (vR 2) (vR 3)) nilA)) (vR 1))) nxS)))))
def fi__law_next : FnI := mkFn [.mu, .val] false 4 g__law_next
-- _law_stream
def g__law_stream : SF := (seqS (setO 1 (lstE nilA)) (seqS (forS (rngA (consA (biE minP (consA (cE (.int 63)) (consA (biE lenP (consA (vR 0) nilA)) nilA))) nilA)) (nameG 2) (seqS (setS 3 (biE intTyP (consA (opE ixP (vR 0) (vR 2)) nilA))) (seqS (setS 4 (opE mulP (cE (.int 2)) (vR 3))) (seqS (ifS (cmpT ltP (vR 3) (cE (.int 0))) (seqS (setS 4 (opE subP (cE (.int 1)) (opE mulP (cE (.int 2)) (vR 3)))) nxS) nxS) (seqS (ifS (cmpT geP (vR 4) (opE powP (cE (.int 10)) (cE (.int 18)))) (seqS (forS (rngA (consA (cE (.int 50)) nilA)) (nameG 5) (seqS (ifS (cmpT gtP (vR 4) (cE (.int 0))) (seqS (appS 1 (opE modP (biE intTyP (consA (vR 4) nilA)) (cE (.int 30)))) (seqS (setS 4 (opE fdivP (vR 4) (cE (.int 30)))) nxS)) nxS) (fun env st => .nx (killS [5] env) st))) nxS) (seqS (setS 6 (opE modP (biE intTyP (consA (opE addP (opE addP (opE mulP (vR 4) (cE (.int 16807))) (opE mulP (vR 2) (cE (.int 7919)))) (cE (.int 101))) nilA)) (cE (.int 2147483629)))) (seqS (forS (rngA (consA (cE (.int 5)) nilA)) (nameG 5) (seqS (setS 6 (opE modP (biE intTyP (consA (opE addP (opE addP (opE addP (opE mulP (vR 6) (vR 6)) (opE mulP (vR 4) (cE (.int 31)))) (opE mulP (vR 5) (cE (.int 524287)))) (vR 2)) nilA)) (cE (.int 2147483587)))) (seqS (appS 1 (opE fdivP (vR 6) (cE (.int 7)))) (fun env st => .nx (killS [5] env) st)))) nxS))) (fun env st => .nx (killS [2, 3, 4, 5, 6] env) st)))))) (fun env st => (seqS (retO (lstE (consA (vE 1) (consA (cE (.int 0)) nilA)))) nxS) (frzE 1 env) st)))
def fi__law_stream : FnI := mkFn [.val] true 7 g__law_stream
-- _law_lines
def g__law_lines : SF := (seqS (setS 4 (cE (.str "f.f..f"))) (seqS (ifS (truT (vR 3)) (seqS (setS 4 (cE (.str "f.fl.."))) nxS) nxS) (seqS (setS 5 (callE fi__law_next [] (consA (mtA 0) (consA (cE (.int 6)) nilA)))) (seqS (setO 6 (lstE nilA)) (seqS (forS (rngA (consA (vE 1) nilA)) (nameG 7) (seqS (setS 8 (cE (.str ""))) (seqS (forS (rngA (consA (vE 2) nilA)) (nameG 9) (seqS (setS 8 (opE addP (vR 8) (opE ixP (vR 4) (opE modP (biE intTyP (consA (opE addP (opE addP (opE addP (callE fi__law_next [] (consA (mtA 0) (consA (cE (.int 6)) nilA))) (opE mulP (cE (.int 2)) (vR 7))) (opE mulP (vR 9) (vR 9))) (vR 5)) nilA)) (cE (.int 6)))))) (fun env st => .nx (killS [9] env) st))) (seqS (appS 6 (vE 8)) (fun env st => .nx (killS [7, 8, 9] env) st))))) (fun env st => (seqS (retS (vE 6)) nxS) (frzE 6 env) st))))))
def fi__law_lines : FnI := mkFn [.mu, .val, .val, .val] false 10 g__law_lines
-- _law_told_line
def g__law_told_line : SF := (seqS (ifS (orT (cmpT eqP (biE lenP (consA (vR 1) nilA)) (cE (.int 0))) (cmpT gtP (callE fi__law_next [] (consA (mtA 0) (consA (cE (.int 3)) nilA))) (cE (.int 0)))) (seqS (retS (vE 1)) nxS) nxS) (seqS (setS 2 (callE fi__law_next [] (consA (mtA 0) (consA (biE minP (consA (cE (.int 30)) (consA (biE lenP (consA (vR 1) nilA)) nilA))) nilA)))) (seqS (retS (opE addP (opE addP (slE slS (vR 1) noP (someP (vE 2))) (cE (.str "t"))) (slE slS (vR 1) (someP (opE addP (vR 2) (cE (.int 1)))) noP))) nxS)))
def fi__law_told_line : FnI := mkFn [.mu, .val] false 3 g__law_told_line
-- _law_lot
def g__law_lot : SF := (seqS (retS (lcE [2] (rngA (consA (vE 1) nilA)) (nameG 2) (cmpT eqP (callE fi__law_next [] (consA (mtA 0) (consA (cE (.int 2)) nilA))) (cE (.int 1))) (vE 2))) nxS)
def fi__law_lot : FnI := mkFn [.mu, .val] false 3 g__law_lot
-- _law_lone
def g__law_lone : SF := (seqS (setO 2 (lcE [4] (seqA (vE 1)) (nameG 4) (cmpT (inP false) (opE ixP (vR 0) (vR 4)) (cE (.str "ft"))) (vE 4))) (seqS (setO 3 (lcE [4] (seqA (vE 1)) (nameG 4) (cmpT eqP (opE ixP (vR 0) (vR 4)) (cE (.str "l"))) (vE 4))) (seqS (ifS (andT (cmpT eqP (biE lenP (consA (vR 2) nilA)) (cE (.int 1))) (cmpT eqP (biE lenP (consA (vR 3) nilA)) (cE (.int 0)))) (seqS (retS (opE ixP (vR 2) (cE (.int 0)))) nxS) nxS) (seqS (retS (cE .non)) nxS))))
def fi__law_lone : FnI := mkFn [.val, .val] false 5 g__law_lone
-- _law_marks
def g__law_marks : SF := (seqS (setS 3 (callE fi__law_lines [] (consA (mtA 0) (consA (vE 1) (consA (vE 2) (consA (cmpE eqP (callE fi__law_next [] (consA (mtA 0) (consA (cE (.int 2)) nilA))) (cE (.int 0))) nilA)))))) (seqS (retS (lcE [4] (seqA (vE 3)) (nameG 4) yesT (callE fi__law_told_line [] (consA (mtA 0) (consA (vE 4) nilA))))) nxS))
def fi__law_marks : FnI := mkFn [.mu, .val, .val] false 5 g__law_marks
-- _law_white_without
def g__law_white_without : SF := (seqS (setO 3 (lcE [7] (rngA (consA (vE 1) nilA)) (nameG 7) (cmpT (inP true) (vR 7) (vR 2)) (vE 7))) (fun env st => (seqS (forS (rngA (consA (opE addP (vR 1) (cE (.int 1))) nilA)) (nameG 4) (seqS (setS 5 (biE lenP (consA (vR 3) nilA))) (seqS (forS (seqA (vE 0)) (nameG 6) (seqS (setS 8 (callE fi__law_lone [] (consA (vE 6) (consA (vE 3) nilA)))) (seqS (ifS (cmpT isnP (vR 8) (cE .non)) (seqS (setO 3 (lcE [7] (seqA (vE 3)) (nameG 7) (cmpT neP (vR 7) (vR 8)) (vE 7))) (fun env st => nxS (frzE 3 env) st)) nxS) (fun env st => .nx (killS [6, 8] env) st)))) (seqS (ifS (cmpT eqP (biE lenP (consA (vR 3) nilA)) (vR 5)) (seqS (fun env st => .brk env st) nxS) nxS) (fun env st => .nx (killS [4, 5, 6, 8] env) st))))) (seqS (retS (vE 3)) nxS)) (frzE 3 env) st))
def fi__law_white_without : FnI := mkFn [.val, .val, .val] false 9 g__law_white_without
-- _law_least_row
def g__law_least_row : SF := (seqS (forS (rngA (consA (biE lenP (consA (vR 0) nilA)) nilA)) (nameG 2) (seqS (ifS (cmpT isnP (callE fi__law_lone [] (consA (opE ixP (vR 0) (vR 2)) (consA (vE 1) nilA))) (cE .non)) (seqS (retS (vE 2)) nxS) nxS) (fun env st => .nx (killS [2] env) st))) (seqS (retS (cE .non)) nxS))
def fi__law_least_row : FnI := mkFn [.val, .val] false 3 g__law_least_row
-- _law_small_row
def g__law_small_row : SF := (seqS (ifS (orT (notT (truT (isiE ["tuple"] (vR 1)))) (cmpT neP (biE lenP (consA (vR 1) nilA)) (biE lenP (consA (vR 0) nilA)))) (seqS (retS (cE (.bl false))) nxS) nxS) (seqS (setS 3 (cE (.int 0))) (seqS (forS (rngA (consA (biE lenP (consA (vR 0) nilA)) nilA)) (nameG 4) (seqS (setS 5 (opE ixP (vR 1) (vR 4))) (seqS (ifS (orT (notT (truT (isiE ["int"] (vR 5)))) (orT (truT (isiE ["bool"] (vR 5))) (orT (cmpT ltP (vR 5) (negE (cE (.int 2)))) (cmpT gtP (vR 5) (cE (.int 2)))))) (seqS (retS (cE (.bl false))) nxS) nxS) (seqS (ifS (andT (cmpT eqP (opE ixP (vR 0) (vR 4)) (cE (.str "."))) (cmpT neP (vR 5) (cE (.int 0)))) (seqS (retS (cE (.bl false))) nxS) nxS) (seqS (ifS (andT (cmpT eqP (opE ixP (vR 0) (vR 4)) (cE (.str "f"))) (cmpT eqP (vR 5) (cE (.int 0)))) (seqS (retS (cE (.bl false))) nxS) nxS) (seqS (ifS (andT (cmpT eqP (opE ixP (vR 0) (vR 4)) (cE (.str "t"))) (cmpT neP (vR 5) (negE (cE (.int 1))))) (seqS (retS (cE (.bl false))) nxS) nxS) (seqS (ifS (cmpT (inP false) (vR 4) (vR 2)) (seqS (setS 3 (opE addP (vR 3) (vR 5))) nxS) nxS) (fun env st => .nx (killS [4, 5] env) st)))))))) (seqS (retS (cmpE eqP (vR 3) (cE (.int 0)))) nxS))))
def fi__law_small_row : FnI := mkFn [.val, .val, .val] false 6 g__law_small_row
-- _law_asked
def g__law_asked : SF := (seqS (setS 2 (cE .non)) (seqS (setS 3 (tupE (consA (cE (.str "let")) (consA (cE (.int 0)) nilA)))) (seqS (tryS exmT (seqS (setS 2 (callE fi_small_weights [] (consA (vE 0) (consA (vE 1) nilA)))) nxS) [("NotFort", some 4, (seqS (setS 3 (tupE (consA (cE (.str "fort")) (consA (xfE 4 ["NotFort"] "row") nilA)))) nxS)), ("BadLot", some 5, (seqS (setS 3 (tupE (consA (cE (.str "lot")) (consA (xfE 5 ["BadLot"] "place") nilA)))) nxS))]) (seqS (retS (lstE (consA (vE 2) (consA (vE 3) nilA)))) nxS))))
def fi__law_asked : FnI := mkFn [.val, .val] false 6 g__law_asked
-- _law_fields_kept
def g__law_fields_kept : SF := (seqS (setS 4 (opE ixP (lstE (consA (cE (.int 3)) (consA (cE (.int 5)) (consA (cE (.int 7)) (consA (cE (.int 11)) (consA (cE (.int 13)) (consA (cE (.int 17)) (consA (cE (.int 19)) (consA (cE (.int 23)) (consA (cE (.int 29)) (consA (cE (.int 31)) (consA (cE (.int 37)) (consA (cE (.int 41)) nilA))))))))))))) (callE fi__law_next [] (consA (mtA 0) (consA (cE (.int 12)) nilA))))) (seqS (setS 5 (opE ixP (lstE (consA (cE (.int 3)) (consA (cE (.int 43)) (consA (cE (.int 47)) (consA (cE (.int 53)) (consA (cE (.int 59)) (consA (cE (.int 61)) (consA (cE (.int 67)) (consA (cE (.int 71)) (consA (cE (.int 73)) (consA (cE (.int 79)) (consA (cE (.int 83)) (consA (cE (.int 97)) nilA))))))))))))) (callE fi__law_next [] (consA (mtA 0) (consA (cE (.int 12)) nilA))))) (seqS (forS (seqA (lstE (consA (makeE "Fractions" fi_Fractions_init [] nilA) (consA (makeE "Prime" fi_Prime_init [] (consA (vE 4) nilA)) (consA (makeE "Prime" fi_Prime_init [] (consA (vE 5) nilA)) (consA (makeE "Prime" fi_Prime_init [] (consA (cE (.int 3)) nilA)) nilA)))))) (nameG 6) (seqS (setS 7 (makeE "Weighted" fi_Weighted_init [] (consA (vE 6) (consA (vE 1) (consA (lcE [8] (seqA (vE 2)) (nameG 8) yesT (biE listP (consA (vR 8) nilA))) nilA))))) (seqS (ifS (cmpT isnP (methE ["Weighted"] "silent" fi_Weighted_silent [] (vR 7) (consA (biE listP (consA (vR 3) nilA)) nilA)) (cE (.bl true))) (seqS (retS (cE (.bl false))) nxS) nxS) (fun env st => .nx (killS [6, 7] env) st)))) (seqS (retS (cE (.bl true))) nxS))))
def fi__law_fields_kept : FnI := mkFn [.mu, .val, .val, .val] false 9 g__law_fields_kept
-- _law_lot_kept
def g__law_lot_kept : SF := (seqS (setS 5 (callE fi__law_least_row [] (consA (vE 2) (consA (vE 4) nilA)))) (seqS (setS 6 (callE fi__law_asked [] (consA (vE 1) (consA (biE listP (consA (vR 4) nilA)) nilA)))) (seqS (ifS (cmpT isnP (vR 5) (cE .non)) (seqS (retS (andE (cmpE isP (opE ixP (vR 6) (cE (.int 0))) (cE .non)) (cmpE eqP (opE ixP (vR 6) (cE (.int 1))) (tupE (consA (cE (.str "fort")) (consA (vE 5) nilA)))))) nxS) nxS) (seqS (setS 7 (opE ixP (vR 6) (cE (.int 0)))) (seqS (ifS (orT (cmpT neP (opE ixP (vR 6) (cE (.int 1))) (tupE (consA (cE (.str "let")) (consA (cE (.int 0)) nilA)))) (orT (notT (truT (isiE ["tuple"] (vR 7)))) (cmpT neP (biE lenP (consA (vR 7) nilA)) (biE lenP (consA (vR 2) nilA))))) (seqS (retS (cE (.bl false))) nxS) nxS) (seqS (forS (rngA (consA (biE lenP (consA (vR 2) nilA)) nilA)) (nameG 8) (seqS (ifS (notT (truT (callE fi__law_small_row [] (consA (opE ixP (vR 2) (vR 8)) (consA (opE ixP (vR 7) (vR 8)) (consA (vE 4) nilA)))))) (seqS (retS (cE (.bl false))) nxS) nxS) (fun env st => .nx (killS [8] env) st))) (seqS (setO 9 (lcE [10] (rngA (consA (vE 3) nilA)) (nameG 10) yesT (biE intTyP (consA (cmpE (inP false) (vR 10) (vR 4)) nilA)))) (fun env st => (seqS (retS (callE fi__law_fields_kept [] (consA (mtA 0) (consA (vE 1) (consA (vE 7) (consA (vE 9) nilA)))))) nxS) (frzE 9 env) st))))))))
def fi__law_lot_kept : FnI := mkFn [.mu, .val, .val, .val, .val] false 11 g__law_lot_kept
-- _law_refusals_kept
def g__law_refusals_kept : SF := (seqS (setS 3 (callE fi__law_lot [] (consA (mtA 0) (consA (vE 2) nilA)))) (seqS (setS 4 (callE fi__law_next [] (consA (mtA 0) (consA (cE (.int 5)) nilA)))) (seqS (setS 5 (opE ixP (lstE (consA (opE addL (vR 3) (lstE (consA (vE 2) nilA))) (consA (opE addL (lstE (consA (negE (cE (.int 1))) nilA)) (vR 3)) (consA (opE addL (vR 3) (lstE (consA (cE .non) (consA (negE (cE (.int 1))) nilA)))) (consA (opE addP (biE tupleP (consA (vR 3) nilA)) (tupE (consA (cE (.bl true)) nilA))) (consA (cE (.str "0")) nilA)))))) (vR 4))) (seqS (setS 6 (opE ixP (lstE (consA (biE lenP (consA (vR 3) nilA)) (consA (cE (.int 0)) (consA (biE lenP (consA (vR 3) nilA)) (consA (biE lenP (consA (vR 3) nilA)) (consA (negE (cE (.int 1))) nilA)))))) (vR 4))) (seqS (ifS (cmpT neP (callE fi__law_asked [] (consA (vE 1) (consA (vE 5) nilA))) (lstE (consA (cE .non) (consA (tupE (consA (cE (.str "lot")) (consA (vE 6) nilA))) nilA)))) (seqS (retS (cE (.bl false))) nxS) nxS) (seqS (ifS (cmpT gtP (biE lenP (consA (vR 3) nilA)) (cE (.int 0))) (seqS (retS (cmpE eqP (callE fi__law_asked [] (consA (vE 1) (consA (opE addL (vR 3) (lstE (consA (opE ixP (vR 3) (cE (.int 0))) (consA (vE 2) nilA)))) nilA))) (lstE (consA (cE .non) (consA (tupE (consA (cE (.str "lot")) (consA (biE lenP (consA (vR 3) nilA)) nilA))) nilA))))) nxS) nxS) (seqS (retS (cE (.bl true))) nxS)))))))
def fi__law_refusals_kept : FnI := mkFn [.mu, .val, .val] false 7 g__law_refusals_kept
-- law
def g_law : SF := (seqS (setO 1 (callE fi__law_stream [] (consA (vE 0) nilA))) (mtS 1 (seqS (setS 2 (callE fi__law_next [] (consA (mtA 1) (consA (cE (.int 5)) nilA)))) (seqS (ifS (cmpT eqP (vR 2) (cE (.int 3))) (seqS (setS 7 (opE addP (cE (.int 12)) (callE fi__law_next [] (consA (mtA 1) (consA (cE (.int 29)) nilA))))) (seqS (setS 8 (callE fi__law_marks [] (consA (mtA 1) (consA (opE addP (cE (.int 4)) (callE fi__law_next [] (consA (mtA 1) (consA (cE (.int 27)) nilA)))) (consA (vE 7) nilA))))) nxS)) (seqS (setS 7 (opE ixP (lstE (consA (cE (.int 3)) (consA (cE (.int 4)) (consA (cE (.int 2)) (consA (cE (.int 5)) (consA (cE (.int 6)) (consA (cE (.int 1)) (consA (cE (.int 4)) (consA (cE (.int 0)) nilA))))))))) (callE fi__law_next [] (consA (mtA 1) (consA (cE (.int 8)) nilA))))) (seqS (setS 8 (callE fi__law_marks [] (consA (mtA 1) (consA (opE ixP (lstE (consA (cE (.int 3)) (consA (cE (.int 2)) (consA (cE (.int 4)) (consA (cE (.int 3)) (consA (cE (.int 5)) (consA (cE (.int 1)) (consA (cE (.int 0)) (consA (cE (.int 6)) nilA))))))))) (callE fi__law_next [] (consA (mtA 1) (consA (cE (.int 8)) nilA)))) (consA (vE 7) nilA))))) nxS))) (seqS (setS 3 (makeE "Table" fi_Table_init [] (consA (vE 7) (consA (biE listP (consA (vR 8) nilA)) nilA)))) (seqS (setO 4 (lcE [9] (rngA (consA (vE 7) nilA)) (nameG 9) (cmpT eqP (callE fi__law_next [] (consA (mtA 1) (consA (cE (.int 4)) nilA))) (cE (.int 3))) (vE 9))) (fun env st => (seqS (setS 5 (callE fi__law_white_without [] (consA (vE 8) (consA (vE 7) (consA (vE 4) nilA))))) (seqS (forS (seqA (lstE (consA (callE fi__law_white_without [] (consA (vE 8) (consA (vE 7) (consA (lstE nilA) nilA)))) (consA (vE 5) (consA (callE fi__law_lot [] (consA (mtA 1) (consA (vE 7) nilA))) (consA (lstE nilA) nilA)))))) (nameG 6) (seqS (ifS (notT (truT (callE fi__law_lot_kept [] (consA (mtA 1) (consA (vE 3) (consA (vE 8) (consA (vE 7) (consA (vE 6) nilA)))))))) (seqS (retS (cE (.bl false))) nxS) nxS) (fun env st => .nx (killS [6] env) st))) (seqS (ifS (notT (truT (callE fi__law_refusals_kept [] (consA (mtA 1) (consA (vE 3) (consA (vE 7) nilA)))))) (seqS (retS (cE (.bl false))) nxS) nxS) (seqS (retS (cmpE eqP (biE listP (consA (fldE ["Table"] "lines" (vR 3)) nilA)) (vR 8))) nxS)))) (frzE 4 env) st)))))))
def fi_law : FnI := mkFn [.val] false 10 g_law
section
variable {w : World} {K : Frag} {mg : Str → Option Value} {base : Heap}
theorem w_is_whole {f : Addr} {fd : FuncData} {dvs : List V} {kws : List (Str × V)} (T : Tops K mg w base)  (F : FunD K "is_whole" "is_whole" (defArgs (top 15)) (defBody (top 15)) (defScope (top 15)) dvs kws f fd) : FnOk PW w K mg base (L2.CX PW w) 3 f fd ["value"] (spOf K fi_is_whole) := by
  have S : FnScope ["value"] ["value"] (defScope (top 15)) := ⟨rfl, rfl, rfl, by decide +kernel, rfl, by decide +kernel, by decide +kernel⟩
  refine fn_rule (P := PW) (w := w) (K := K) (mg := mg) (base := base) (N := ["value"]) (ps := ["value"]) (k := 2) (ms := [.val]) (own := false) (g := g_is_whole) F S rfl (by decide) fun cdv A outer s H E B hB hr => ?_
  have hN := S.nd
  have tk := takes_cx (P := PW) (w := w) (K := K) (mg := mg) (base := base) (N := ["value"]) (qual := "is_whole") (scope := defScope (top 15)) (f := f) (cdv := cdv) (A := A) (outer := outer) (s := s) (H := H) (E := E)
  have hp := owns_cx (P := PW) (w := w) (K := K) (mg := mg) (base := base) (N := ["value"]) (qual := "is_whole") (scope := defScope (top 15)) (f := f) (cdv := cdv) (A := A) (outer := outer) (s := s) (H := H) (E := E)
  exact (qss_cons (qs_ret (qe_and (qe_isi (qr_v 0) T.n_isinstance T.n_int) (qe_one (qe_not (QE.rd (qe_isi (qr_v 0) T.n_isinstance T.n_bool)))))) qss_nil)
theorem w_place_of {f : Addr} {fd : FuncData} {dvs : List V} {kws : List (Str × V)} (T : Tops K mg w base) (f_is_whole : FnB PW w K mg base "is_whole" fi_is_whole [] 3) (F : FunD K "place_of" "place_of" (defArgs (top 17)) (defBody (top 17)) (defScope (top 17)) dvs kws f fd) : FnOk PW w K mg base (L2.CX PW w) 4 f fd ["place", "size"] (spOf K fi_place_of) := by
  have S : FnScope ["place", "size"] ["place", "size"] (defScope (top 17)) := ⟨rfl, rfl, rfl, by decide +kernel, rfl, by decide +kernel, by decide +kernel⟩
  refine fn_rule (P := PW) (w := w) (K := K) (mg := mg) (base := base) (N := ["place", "size"]) (ps := ["place", "size"]) (k := 3) (ms := [.val, .val]) (own := false) (g := g_place_of) F S rfl (by decide) fun cdv A outer s H E B hB hr => ?_
  have hN := S.nd
  have tk := takes_cx (P := PW) (w := w) (K := K) (mg := mg) (base := base) (N := ["place", "size"]) (qual := "place_of") (scope := defScope (top 17)) (f := f) (cdv := cdv) (A := A) (outer := outer) (s := s) (H := H) (E := E)
  have hp := owns_cx (P := PW) (w := w) (K := K) (mg := mg) (base := base) (N := ["place", "size"]) (qual := "place_of") (scope := defScope (top 17)) (f := f) (cdv := cdv) (A := A) (outer := outer) (s := s) (H := H) (E := E)
  exact (qss_cons (qs_if (qt_not (qt_tru (QE.rd (qe_call f_is_whole (hr.mono (by decide)) tk (qa_val (qe_v 0) qa_nil))))) (qss_cons (qs_raise T.x_NoPlace rfl tk (hr.mono (by decide)) (qa_val qe_int qa_nil)) qss_nil) qss_nil) (qss_cons (qs_if (QW.qt (qw_or (qt_cmp or_lt (qr_v 0) (QE.rd qe_int)) (qw_or1 (qt_cmp or_ge (qr_v 0) (qr_v 1))))) (qss_cons (qs_raise T.x_NoPlace rfl tk (hr.mono (by decide)) (qa_val (qe_v 0) qa_nil)) qss_nil) qss_nil) (qss_cons (qs_ret (qe_v 0)) qss_nil)))
theorem w_size_of {f : Addr} {fd : FuncData} {dvs : List V} {kws : List (Str × V)} (T : Tops K mg w base) (f_is_whole : FnB PW w K mg base "is_whole" fi_is_whole [] 3) (F : FunD K "size_of" "size_of" (defArgs (top 16)) (defBody (top 16)) (defScope (top 16)) dvs kws f fd) : FnOk PW w K mg base (L2.CX PW w) 4 f fd ["size"] (spOf K fi_size_of) := by
  have S : FnScope ["size"] ["size"] (defScope (top 16)) := ⟨rfl, rfl, rfl, by decide +kernel, rfl, by decide +kernel, by decide +kernel⟩
  refine fn_rule (P := PW) (w := w) (K := K) (mg := mg) (base := base) (N := ["size"]) (ps := ["size"]) (k := 3) (ms := [.val]) (own := false) (g := g_size_of) F S rfl (by decide) fun cdv A outer s H E B hB hr => ?_
  have hN := S.nd
  have tk := takes_cx (P := PW) (w := w) (K := K) (mg := mg) (base := base) (N := ["size"]) (qual := "size_of") (scope := defScope (top 16)) (f := f) (cdv := cdv) (A := A) (outer := outer) (s := s) (H := H) (E := E)
  have hp := owns_cx (P := PW) (w := w) (K := K) (mg := mg) (base := base) (N := ["size"]) (qual := "size_of") (scope := defScope (top 16)) (f := f) (cdv := cdv) (A := A) (outer := outer) (s := s) (H := H) (E := E)
  exact (qss_cons (qs_if (qt_not (qt_tru (QE.rd (qe_call f_is_whole (hr.mono (by decide)) tk (qa_val (qe_v 0) qa_nil))))) (qss_cons (qs_raise T.x_NoPlace rfl tk (hr.mono (by decide)) (qa_val qe_int qa_nil)) qss_nil) qss_nil) (qss_cons (qs_if (qt_cmp or_lt (qr_v 0) (QE.rd qe_int)) (qss_cons (qs_raise T.x_NoPlace rfl tk (hr.mono (by decide)) (qa_val (qe_v 0) qa_nil)) qss_nil) qss_nil) (qss_cons (qs_ret (qe_v 0)) qss_nil)))
theorem w_lot_of {f : Addr} {fd : FuncData} {dvs : List V} {kws : List (Str × V)} (T : Tops K mg w base) (f_is_whole : FnB PW w K mg base "is_whole" fi_is_whole [] 3) (F : FunD K "lot_of" "lot_of" (defArgs (top 18)) (defBody (top 18)) (defScope (top 18)) dvs kws f fd) : FnOk PW w K mg base (L2.CX PW w) 4 f fd ["lot", "size"] (spOf K fi_lot_of) := by
  have S : FnScope ["lot", "size", "found", "at", "entry"] ["lot", "size"] (defScope (top 18)) := ⟨rfl, rfl, rfl, by decide +kernel, rfl, by decide +kernel, by decide +kernel⟩
  refine fn_rule (P := PW) (w := w) (K := K) (mg := mg) (base := base) (N := ["lot", "size", "found", "at", "entry"]) (ps := ["lot", "size"]) (k := 3) (ms := [.val, .val]) (own := false) (g := g_lot_of) F S rfl (by decide) fun cdv A outer s H E B hB hr => ?_
  have hN := S.nd
  have tk := takes_cx (P := PW) (w := w) (K := K) (mg := mg) (base := base) (N := ["lot", "size", "found", "at", "entry"]) (qual := "lot_of") (scope := defScope (top 18)) (f := f) (cdv := cdv) (A := A) (outer := outer) (s := s) (H := H) (E := E)
  have hp := owns_cx (P := PW) (w := w) (K := K) (mg := mg) (base := base) (N := ["lot", "size", "found", "at", "entry"]) (qual := "lot_of") (scope := defScope (top 18)) (f := f) (cdv := cdv) (A := A) (outer := outer) (s := s) (H := H) (E := E)
  exact (qss_cons (qs_if (qt_not (qt_tru (QE.rd (qe_isiT (qr_v 0) (pty_cons (pty_cons pty_nil T.n_tuple) T.n_list) T.n_isinstance)))) (qss_cons (qs_raise T.x_BadLot rfl tk (hr.mono (by decide)) (qa_val (qe_neg qe_int) qa_nil)) qss_nil) qss_nil) (qss_cons (qs_setO 2 hN qo_dct) (qss_cons (qs_for hp rfl (qi_enum (qe_v 0) T.n_enumerate) (qg_pair 3 4 rfl hN) (qss_cons (qs_if (QW.qt (qw_or (qt_not (qt_tru (QE.rd (qe_call f_is_whole (hr.mono (by decide)) tk (qa_val (qe_v 4) qa_nil))))) (qw_or (qt_cmp or_lt (qr_v 4) (QE.rd qe_int)) (qw_or (qt_cmp or_ge (qr_v 4) (qr_v 1)) (qw_or1 (qt_cmp (or_in hr) (qr_v 4) (qr_v 2))))))) (qss_cons (qs_raise T.x_BadLot rfl tk (hr.mono (by decide)) (qa_val (qe_v 3) qa_nil)) qss_nil) qss_nil) (qss_cons (qs_setDct 2 hr qe_bl (qe_v 4)) (qss_end [3, 4])))) (qss_cons (qs_ret (qe_ty cr_tuple (qa_bor (QE.rd (QO.fz (qo_bi cr_sortI (qa_bor (QE.rd (QO.fz (qo_ty (cr_list rfl) (qa_bor (qr_v 2) qa_nil) T.n_list))) qa_nil) T.n_sorted))) qa_nil) T.n_tuple)) qss_nil))))
theorem w_lowest_pair {f : Addr} {fd : FuncData} {dvs : List V} {kws : List (Str × V)} (T : Tops K mg w base)  (F : FunD K "lowest_pair" "lowest_pair" (defArgs (top 21)) (defBody (top 21)) (defScope (top 21)) dvs kws f fd) : FnOk PW w K mg base (L2.CX PW w) 3 f fd ["top", "bottom"] (spOf K fi_lowest_pair) := by
  have S : FnScope ["top", "bottom", "common"] ["top", "bottom"] (defScope (top 21)) := ⟨rfl, rfl, rfl, by decide +kernel, rfl, by decide +kernel, by decide +kernel⟩
  refine fn_rule (P := PW) (w := w) (K := K) (mg := mg) (base := base) (N := ["top", "bottom", "common"]) (ps := ["top", "bottom"]) (k := 2) (ms := [.val, .val]) (own := false) (g := g_lowest_pair) F S rfl (by decide) fun cdv A outer s H E B hB hr => ?_
  have hN := S.nd
  have tk := takes_cx (P := PW) (w := w) (K := K) (mg := mg) (base := base) (N := ["top", "bottom", "common"]) (qual := "lowest_pair") (scope := defScope (top 21)) (f := f) (cdv := cdv) (A := A) (outer := outer) (s := s) (H := H) (E := E)
  have hp := owns_cx (P := PW) (w := w) (K := K) (mg := mg) (base := base) (N := ["top", "bottom", "common"]) (qual := "lowest_pair") (scope := defScope (top 21)) (f := f) (cdv := cdv) (A := A) (outer := outer) (s := s) (H := H) (E := E)
  exact qss_never
theorem w_normal_number {f : Addr} {fd : FuncData} {dvs : List V} {kws : List (Str × V)} (T : Tops K mg w base) (f_is_whole : FnB PW w K mg base "is_whole" fi_is_whole [] 3) (f_lowest_pair : FnB PW w K mg base "lowest_pair" fi_lowest_pair [] 3) (F : FunD K "normal_number" "normal_number" (defArgs (top 22)) (defBody (top 22)) (defScope (top 22)) dvs kws f fd) : FnOk PW w K mg base (L2.CX PW w) 4 f fd ["prime", "value", "place"] (spOf K fi_normal_number) := by
  have S : FnScope ["prime", "value", "place", "top", "bottom"] ["prime", "value", "place"] (defScope (top 22)) := ⟨rfl, rfl, rfl, by decide +kernel, rfl, by decide +kernel, by decide +kernel⟩
  refine fn_rule (P := PW) (w := w) (K := K) (mg := mg) (base := base) (N := ["prime", "value", "place", "top", "bottom"]) (ps := ["prime", "value", "place"]) (k := 3) (ms := [.val, .val, .val]) (own := false) (g := g_normal_number) F S rfl (by decide) fun cdv A outer s H E B hB hr => ?_
  have hN := S.nd
  have tk := takes_cx (P := PW) (w := w) (K := K) (mg := mg) (base := base) (N := ["prime", "value", "place", "top", "bottom"]) (qual := "normal_number") (scope := defScope (top 22)) (f := f) (cdv := cdv) (A := A) (outer := outer) (s := s) (H := H) (E := E)
  have hp := owns_cx (P := PW) (w := w) (K := K) (mg := mg) (base := base) (N := ["prime", "value", "place", "top", "bottom"]) (qual := "normal_number") (scope := defScope (top 22)) (f := f) (cdv := cdv) (A := A) (outer := outer) (s := s) (H := H) (E := E)
  exact (qss_cons (qs_if (qt_tru (QE.rd (qe_call f_is_whole (hr.mono (by decide)) tk (qa_val (qe_v 1) qa_nil)))) (qss_cons (qs_ret (qe_ife (qt_tru (qr_v 0)) (qe_op or_mod (qr_v 1) (qr_v 0)) (qe_tup (qa_val (qe_v 1) (qa_val qe_int qa_nil))))) qss_nil) qss_nil) (qss_cons (qs_if (QW.qt (qw_or (qt_tru (qr_v 0)) (qw_or (qt_not (qt_tru (QE.rd (qe_isiT (qr_v 1) (pty_cons (pty_cons pty_nil T.n_tuple) T.n_list) T.n_isinstance)))) (qw_or1 (qt_cmp (or_ne hr) (QE.rd (qe_bi cr_len (qa_bor (qr_v 1) qa_nil) T.n_len)) (QE.rd qe_int)))))) (qss_cons (qs_raise T.x_BadNumber rfl tk (hr.mono (by decide)) (qa_val (qe_v 2) qa_nil)) qss_nil) qss_nil) (qss_cons (qs_asg (qe_v 1) (qg_up rfl (qgs_cons 3 hN (qgs_cons 4 hN qgs_nil)))) (qss_cons (qs_if (QW.qt (qw_or (qt_not (qt_tru (QE.rd (qe_call f_is_whole (hr.mono (by decide)) tk (qa_val (qe_v 3) qa_nil))))) (qw_or (qt_not (qt_tru (QE.rd (qe_call f_is_whole (hr.mono (by decide)) tk (qa_val (qe_v 4) qa_nil))))) (qw_or1 (qt_cmp (or_eq hr) (qr_v 4) (QE.rd qe_int)))))) (qss_cons (qs_raise T.x_BadNumber rfl tk (hr.mono (by decide)) (qa_val (qe_v 2) qa_nil)) qss_nil) qss_nil) (qss_cons (qs_ret (qe_call f_lowest_pair (hr.mono (by decide)) tk (qa_val (qe_v 3) (qa_val (qe_v 4) qa_nil)))) qss_nil)))))
theorem w_nought_of {f : Addr} {fd : FuncData} {dvs : List V} {kws : List (Str × V)} (T : Tops K mg w base)  (F : FunD K "nought_of" "nought_of" (defArgs (top 23)) (defBody (top 23)) (defScope (top 23)) dvs kws f fd) : FnOk PW w K mg base (L2.CX PW w) 3 f fd ["prime"] (spOf K fi_nought_of) := by
  have S : FnScope ["prime"] ["prime"] (defScope (top 23)) := ⟨rfl, rfl, rfl, by decide +kernel, rfl, by decide +kernel, by decide +kernel⟩
  refine fn_rule (P := PW) (w := w) (K := K) (mg := mg) (base := base) (N := ["prime"]) (ps := ["prime"]) (k := 2) (ms := [.val]) (own := false) (g := g_nought_of) F S rfl (by decide) fun cdv A outer s H E B hB hr => ?_
  have hN := S.nd
  have tk := takes_cx (P := PW) (w := w) (K := K) (mg := mg) (base := base) (N := ["prime"]) (qual := "nought_of") (scope := defScope (top 23)) (f := f) (cdv := cdv) (A := A) (outer := outer) (s := s) (H := H) (E := E)
  have hp := owns_cx (P := PW) (w := w) (K := K) (mg := mg) (base := base) (N := ["prime"]) (qual := "nought_of") (scope := defScope (top 23)) (f := f) (cdv := cdv) (A := A) (outer := outer) (s := s) (H := H) (E := E)
  exact (qss_cons (qs_ret (qe_ife (qt_tru (qr_v 0)) qe_int (qe_tup (qa_val qe_int (qa_val qe_int qa_nil))))) qss_nil)
theorem w_unit_of {f : Addr} {fd : FuncData} {dvs : List V} {kws : List (Str × V)} (T : Tops K mg w base)  (F : FunD K "unit_of" "unit_of" (defArgs (top 24)) (defBody (top 24)) (defScope (top 24)) dvs kws f fd) : FnOk PW w K mg base (L2.CX PW w) 3 f fd ["prime"] (spOf K fi_unit_of) := by
  have S : FnScope ["prime"] ["prime"] (defScope (top 24)) := ⟨rfl, rfl, rfl, by decide +kernel, rfl, by decide +kernel, by decide +kernel⟩
  refine fn_rule (P := PW) (w := w) (K := K) (mg := mg) (base := base) (N := ["prime"]) (ps := ["prime"]) (k := 2) (ms := [.val]) (own := false) (g := g_unit_of) F S rfl (by decide) fun cdv A outer s H E B hB hr => ?_
  have hN := S.nd
  have tk := takes_cx (P := PW) (w := w) (K := K) (mg := mg) (base := base) (N := ["prime"]) (qual := "unit_of") (scope := defScope (top 24)) (f := f) (cdv := cdv) (A := A) (outer := outer) (s := s) (H := H) (E := E)
  have hp := owns_cx (P := PW) (w := w) (K := K) (mg := mg) (base := base) (N := ["prime"]) (qual := "unit_of") (scope := defScope (top 24)) (f := f) (cdv := cdv) (A := A) (outer := outer) (s := s) (H := H) (E := E)
  exact (qss_cons (qs_ret (qe_ife (qt_tru (qr_v 0)) qe_int (qe_tup (qa_val qe_int (qa_val qe_int qa_nil))))) qss_nil)
theorem w_add_numbers {f : Addr} {fd : FuncData} {dvs : List V} {kws : List (Str × V)} (T : Tops K mg w base) (f_lowest_pair : FnB PW w K mg base "lowest_pair" fi_lowest_pair [] 3) (F : FunD K "add_numbers" "add_numbers" (defArgs (top 25)) (defBody (top 25)) (defScope (top 25)) dvs kws f fd) : FnOk PW w K mg base (L2.CX PW w) 4 f fd ["prime", "first", "second"] (spOf K fi_add_numbers) := by
  have S : FnScope ["prime", "first", "second"] ["prime", "first", "second"] (defScope (top 25)) := ⟨rfl, rfl, rfl, by decide +kernel, rfl, by decide +kernel, by decide +kernel⟩
  refine fn_rule (P := PW) (w := w) (K := K) (mg := mg) (base := base) (N := ["prime", "first", "second"]) (ps := ["prime", "first", "second"]) (k := 3) (ms := [.val, .val, .val]) (own := false) (g := g_add_numbers) F S rfl (by decide) fun cdv A outer s H E B hB hr => ?_
  have hN := S.nd
  have tk := takes_cx (P := PW) (w := w) (K := K) (mg := mg) (base := base) (N := ["prime", "first", "second"]) (qual := "add_numbers") (scope := defScope (top 25)) (f := f) (cdv := cdv) (A := A) (outer := outer) (s := s) (H := H) (E := E)
  have hp := owns_cx (P := PW) (w := w) (K := K) (mg := mg) (base := base) (N := ["prime", "first", "second"]) (qual := "add_numbers") (scope := defScope (top 25)) (f := f) (cdv := cdv) (A := A) (outer := outer) (s := s) (H := H) (E := E)
  exact (qss_cons (qs_if (qt_tru (qr_v 0)) (qss_cons (qs_ret (qe_op or_mod (QE.rd (qe_op or_add (qr_v 1) (qr_v 2))) (qr_v 0))) qss_nil) qss_nil) (qss_cons (qs_if (QW.qt (qw_and (qt_cmp (or_eq hr) (QE.rd (qe_ix ix_p (qr_v 1) (QE.rd qe_int))) (QE.rd qe_int)) (qw_and1 (qt_cmp (or_eq hr) (QE.rd (qe_ix ix_p (qr_v 2) (QE.rd qe_int))) (QE.rd qe_int))))) (qss_cons (qs_ret (qe_tup (qa_val (qe_op or_add (QE.rd (qe_ix ix_p (qr_v 1) (QE.rd qe_int))) (QE.rd (qe_ix ix_p (qr_v 2) (QE.rd qe_int)))) (qa_val qe_int qa_nil)))) qss_nil) qss_nil) (qss_cons (qs_ret (qe_call f_lowest_pair (hr.mono (by decide)) tk (qa_val (qe_op or_add (QE.rd (qe_op or_mul (QE.rd (qe_ix ix_p (qr_v 1) (QE.rd qe_int))) (QE.rd (qe_ix ix_p (qr_v 2) (QE.rd qe_int))))) (QE.rd (qe_op or_mul (QE.rd (qe_ix ix_p (qr_v 2) (QE.rd qe_int))) (QE.rd (qe_ix ix_p (qr_v 1) (QE.rd qe_int)))))) (qa_val (qe_op or_mul (QE.rd (qe_ix ix_p (qr_v 1) (QE.rd qe_int))) (QE.rd (qe_ix ix_p (qr_v 2) (QE.rd qe_int)))) qa_nil)))) qss_nil)))
theorem w_mul_numbers {f : Addr} {fd : FuncData} {dvs : List V} {kws : List (Str × V)} (T : Tops K mg w base) (f_lowest_pair : FnB PW w K mg base "lowest_pair" fi_lowest_pair [] 3) (F : FunD K "mul_numbers" "mul_numbers" (defArgs (top 26)) (defBody (top 26)) (defScope (top 26)) dvs kws f fd) : FnOk PW w K mg base (L2.CX PW w) 4 f fd ["prime", "first", "second"] (spOf K fi_mul_numbers) := by
  have S : FnScope ["prime", "first", "second"] ["prime", "first", "second"] (defScope (top 26)) := ⟨rfl, rfl, rfl, by decide +kernel, rfl, by decide +kernel, by decide +kernel⟩
  refine fn_rule (P := PW) (w := w) (K := K) (mg := mg) (base := base) (N := ["prime", "first", "second"]) (ps := ["prime", "first", "second"]) (k := 3) (ms := [.val, .val, .val]) (own := false) (g := g_mul_numbers) F S rfl (by decide) fun cdv A outer s H E B hB hr => ?_
  have hN := S.nd
  have tk := takes_cx (P := PW) (w := w) (K := K) (mg := mg) (base := base) (N := ["prime", "first", "second"]) (qual := "mul_numbers") (scope := defScope (top 26)) (f := f) (cdv := cdv) (A := A) (outer := outer) (s := s) (H := H) (E := E)
  have hp := owns_cx (P := PW) (w := w) (K := K) (mg := mg) (base := base) (N := ["prime", "first", "second"]) (qual := "mul_numbers") (scope := defScope (top 26)) (f := f) (cdv := cdv) (A := A) (outer := outer) (s := s) (H := H) (E := E)
  exact (qss_cons (qs_if (qt_tru (qr_v 0)) (qss_cons (qs_ret (qe_op or_mod (QE.rd (qe_op or_mul (qr_v 1) (qr_v 2))) (qr_v 0))) qss_nil) qss_nil) (qss_cons (qs_if (QW.qt (qw_and (qt_cmp (or_eq hr) (QE.rd (qe_ix ix_p (qr_v 1) (QE.rd qe_int))) (QE.rd qe_int)) (qw_and1 (qt_cmp (or_eq hr) (QE.rd (qe_ix ix_p (qr_v 2) (QE.rd qe_int))) (QE.rd qe_int))))) (qss_cons (qs_ret (qe_tup (qa_val (qe_op or_mul (QE.rd (qe_ix ix_p (qr_v 1) (QE.rd qe_int))) (QE.rd (qe_ix ix_p (qr_v 2) (QE.rd qe_int)))) (qa_val qe_int qa_nil)))) qss_nil) qss_nil) (qss_cons (qs_ret (qe_call f_lowest_pair (hr.mono (by decide)) tk (qa_val (qe_op or_mul (QE.rd (qe_ix ix_p (qr_v 1) (QE.rd qe_int))) (QE.rd (qe_ix ix_p (qr_v 2) (QE.rd qe_int)))) (qa_val (qe_op or_mul (QE.rd (qe_ix ix_p (qr_v 1) (QE.rd qe_int))) (QE.rd (qe_ix ix_p (qr_v 2) (QE.rd qe_int)))) qa_nil)))) qss_nil)))
theorem w_negated {f : Addr} {fd : FuncData} {dvs : List V} {kws : List (Str × V)} (T : Tops K mg w base)  (F : FunD K "negated" "negated" (defArgs (top 27)) (defBody (top 27)) (defScope (top 27)) dvs kws f fd) : FnOk PW w K mg base (L2.CX PW w) 3 f fd ["prime", "first"] (spOf K fi_negated) := by
  have S : FnScope ["prime", "first"] ["prime", "first"] (defScope (top 27)) := ⟨rfl, rfl, rfl, by decide +kernel, rfl, by decide +kernel, by decide +kernel⟩
  refine fn_rule (P := PW) (w := w) (K := K) (mg := mg) (base := base) (N := ["prime", "first"]) (ps := ["prime", "first"]) (k := 2) (ms := [.val, .val]) (own := false) (g := g_negated) F S rfl (by decide) fun cdv A outer s H E B hB hr => ?_
  have hN := S.nd
  have tk := takes_cx (P := PW) (w := w) (K := K) (mg := mg) (base := base) (N := ["prime", "first"]) (qual := "negated") (scope := defScope (top 27)) (f := f) (cdv := cdv) (A := A) (outer := outer) (s := s) (H := H) (E := E)
  have hp := owns_cx (P := PW) (w := w) (K := K) (mg := mg) (base := base) (N := ["prime", "first"]) (qual := "negated") (scope := defScope (top 27)) (f := f) (cdv := cdv) (A := A) (outer := outer) (s := s) (H := H) (E := E)
  exact (qss_cons (qs_if (qt_tru (qr_v 0)) (qss_cons (qs_ret (qe_op or_mod (QE.rd (qe_neg (qe_v 1))) (qr_v 0))) qss_nil) qss_nil) (qss_cons (qs_ret (qe_tup (qa_val (qe_neg (qe_ix ix_p (qr_v 1) (QE.rd qe_int))) (qa_val (qe_ix ix_p (qr_v 1) (QE.rd qe_int)) qa_nil)))) qss_nil))
theorem w_Field_init {f : Addr} {fd : FuncData} {dvs : List V} {kws : List (Str × V)} (T : Tops K mg w base)  (F : FunD K "__init__" "Field.__init__" (defArgs (meth 29 0)) (defBody (meth 29 0)) (defScope (meth 29 0)) dvs kws f fd) : FnOk PW w K mg base (L2.CX PW w) 3 f fd ["self", "prime"] (spOf K fi_Field_init) := by
  have S : FnScope ["self", "prime"] ["self", "prime"] (defScope (meth 29 0)) := ⟨rfl, rfl, rfl, by decide +kernel, rfl, by decide +kernel, by decide +kernel⟩
  refine fn_rule (P := PW) (w := w) (K := K) (mg := mg) (base := base) (N := ["self", "prime"]) (ps := ["self", "prime"]) (k := 2) (ms := [.mu, .val]) (own := false) (g := g_Field_init) F S rfl (by decide) fun cdv A outer s H E B hB hr => ?_
  have hN := S.nd
  have tk := takes_cx (P := PW) (w := w) (K := K) (mg := mg) (base := base) (N := ["self", "prime"]) (qual := "Field.__init__") (scope := defScope (meth 29 0)) (f := f) (cdv := cdv) (A := A) (outer := outer) (s := s) (H := H) (E := E)
  have hp := owns_cx (P := PW) (w := w) (K := K) (mg := mg) (base := base) (N := ["self", "prime"]) (qual := "Field.__init__") (scope := defScope (meth 29 0)) (f := f) (cdv := cdv) (A := A) (outer := outer) (s := s) (H := H) (E := E)
  exact (qss_cons (qs_fldM 0 T.fo_Field_prime (qe_v 1)) qss_nil)
theorem w_Prime_init (T : Tops K mg w base) (f_is_whole : FnB PW w K mg base "is_whole" fi_is_whole [] 3) (F2 : FnR PW w K mg base (L2.CX PW w) 3 (xAd K "Field") (spOf K fi_Field_init))
    (sc : ∃ (oc od osl : _) (kV doc pm : Value) (an : Option Addr) (cda : Addr) (ct : Value) (cc : Addr) (cl cld csl : _), K.lookup (xAd K "Prime") = some ⟨oc, od, .func (PySem.W.ksFn "__init__" "Prime.__init__" (defArgs (meth 30 0)) (defBody (meth 30 0)) (defScope (meth 30 0)) .none kV doc pm an (.ref cda) ct cc), osl⟩ ∧ PySem.W.codeIn K (.ref cda) "Prime.__init__" = true ∧ K.lookup cc = some ⟨cl, cld, .cell (some (.ref (He.ga K "Prime"))), csl⟩ ∧
      SupC PW K (He.ga K "Prime") (xAd K "Prime") (xAd K "Field") cda cc (PySem.W.ksFn "__init__" "Prime.__init__" (defArgs (meth 30 0)) (defBody (meth 30 0)) (defScope (meth 30 0)) .none kV doc pm an (.ref cda) ct cc) "self" ∧ Binds K (PySem.W.ksFn "__init__" "Prime.__init__" (defArgs (meth 30 0)) (defBody (meth 30 0)) (defScope (meth 30 0)) .none kV doc pm an (.ref cda) ct cc) ["self", "prime"] []) :
    ∃ fd, FnOk PW w K mg base (L2.CX PW w) 4 (xAd K "Prime") fd ["self", "prime"] (spOf K fi_Prime_init) ∧ Binds K fd ["self", "prime"] [] := by
  obtain ⟨oc, od, osl, kV, doc, pm, an, cda, ct, cc, cl, cld, csl, lk, hcd, hcell, SC, hb⟩ := sc
  have S : FnScopeK ["self", "prime"] ["self", "prime"] (defScope (meth 30 0)) := ⟨rfl, rfl, rfl, by decide +kernel, rfl, by decide +kernel, by decide +kernel, by decide +kernel⟩
  refine ⟨_, fn_ruleK (P := PW) (w := w) (K := K) (mg := mg) (base := base) (N := ["self", "prime"]) (ps := ["self", "prime"]) (k := 3) (ms := [.mu, .val]) (own := false) (g := g_Prime_init) lk hcd hcell S rfl (by decide) fun A outer s H E B hB hr => ?_, hb⟩
  have hN := S.nd
  have tk := takes_cxK (P := PW) (w := w) (K := K) (mg := mg) (base := base) (N := ["self", "prime"]) (qual := "Prime.__init__") (scope := defScope (meth 30 0)) (f := xAd K "Prime") (cdv := .ref cda) (cc := cc) (A := A) (outer := outer) (s := s) (H := H) (E := E)
  have hp := owns_cxK (P := PW) (w := w) (K := K) (mg := mg) (base := base) (N := ["self", "prime"]) (qual := "Prime.__init__") (scope := defScope (meth 30 0)) (f := xAd K "Prime") (cdv := .ref cda) (cc := cc) (A := A) (outer := outer) (s := s) (H := H) (E := E)
  exact (qas_cons (qs_if (qt_not (qt_tru (QE.rd (qe_call f_is_whole (hr.mono (by decide)) tk (qa_val (qe_v 1) qa_nil))))) (qss_cons (qs_raise T.x_BadField rfl tk (hr.mono (by decide)) (qa_val qe_int qa_nil)) qss_nil) qss_nil) (qas_cons (qs_if (qt_cmp (or_notIn hr) (qr_v 1) (QE.rd (qe_gtup T.c_PRIMES))) (qss_cons (qs_raise T.x_BadField rfl tk (hr.mono (by decide)) (qa_val (qe_v 1) qa_nil)) qss_nil) qss_nil) (qas_super SC T.n_super F2 (hr.mono (by decide)) tk (qa_val (qe_v 1) qa_nil))))
theorem w_Fractions_init (T : Tops K mg w base)  (F2 : FnR PW w K mg base (L2.CX PW w) 3 (xAd K "Field") (spOf K fi_Field_init))
    (sc : ∃ (oc od osl : _) (kV doc pm : Value) (an : Option Addr) (cda : Addr) (ct : Value) (cc : Addr) (cl cld csl : _), K.lookup (xAd K "Fractions") = some ⟨oc, od, .func (PySem.W.ksFn "__init__" "Fractions.__init__" (defArgs (meth 31 0)) (defBody (meth 31 0)) (defScope (meth 31 0)) .none kV doc pm an (.ref cda) ct cc), osl⟩ ∧ PySem.W.codeIn K (.ref cda) "Fractions.__init__" = true ∧ K.lookup cc = some ⟨cl, cld, .cell (some (.ref (He.ga K "Fractions"))), csl⟩ ∧
      SupC PW K (He.ga K "Fractions") (xAd K "Fractions") (xAd K "Field") cda cc (PySem.W.ksFn "__init__" "Fractions.__init__" (defArgs (meth 31 0)) (defBody (meth 31 0)) (defScope (meth 31 0)) .none kV doc pm an (.ref cda) ct cc) "self" ∧ Binds K (PySem.W.ksFn "__init__" "Fractions.__init__" (defArgs (meth 31 0)) (defBody (meth 31 0)) (defScope (meth 31 0)) .none kV doc pm an (.ref cda) ct cc) ["self"] []) :
    ∃ fd, FnOk PW w K mg base (L2.CX PW w) 4 (xAd K "Fractions") fd ["self"] (spOf K fi_Fractions_init) ∧ Binds K fd ["self"] [] := by
  obtain ⟨oc, od, osl, kV, doc, pm, an, cda, ct, cc, cl, cld, csl, lk, hcd, hcell, SC, hb⟩ := sc
  have S : FnScopeK ["self"] ["self"] (defScope (meth 31 0)) := ⟨rfl, rfl, rfl, by decide +kernel, rfl, by decide +kernel, by decide +kernel, by decide +kernel⟩
  refine ⟨_, fn_ruleK (P := PW) (w := w) (K := K) (mg := mg) (base := base) (N := ["self"]) (ps := ["self"]) (k := 3) (ms := [.mu]) (own := false) (g := g_Fractions_init) lk hcd hcell S rfl (by decide) fun A outer s H E B hB hr => ?_, hb⟩
  have hN := S.nd
  have tk := takes_cxK (P := PW) (w := w) (K := K) (mg := mg) (base := base) (N := ["self"]) (qual := "Fractions.__init__") (scope := defScope (meth 31 0)) (f := xAd K "Fractions") (cdv := .ref cda) (cc := cc) (A := A) (outer := outer) (s := s) (H := H) (E := E)
  have hp := owns_cxK (P := PW) (w := w) (K := K) (mg := mg) (base := base) (N := ["self"]) (qual := "Fractions.__init__") (scope := defScope (meth 31 0)) (f := xAd K "Fractions") (cdv := .ref cda) (cc := cc) (A := A) (outer := outer) (s := s) (H := H) (E := E)
  exact (qas_super SC T.n_super F2 (hr.mono (by decide)) tk (qa_val qe_int qa_nil))
theorem w_need_field {f : Addr} {fd : FuncData} {dvs : List V} {kws : List (Str × V)} (T : Tops K mg w base)  (F : FunD K "need_field" "need_field" (defArgs (top 32)) (defBody (top 32)) (defScope (top 32)) dvs kws f fd) : FnOk PW w K mg base (L2.CX PW w) 3 f fd ["field"] (spOf K fi_need_field) := by
  have S : FnScope ["field"] ["field"] (defScope (top 32)) := ⟨rfl, rfl, rfl, by decide +kernel, rfl, by decide +kernel, by decide +kernel⟩
  refine fn_rule (P := PW) (w := w) (K := K) (mg := mg) (base := base) (N := ["field"]) (ps := ["field"]) (k := 2) (ms := [.val]) (own := false) (g := g_need_field) F S rfl (by decide) fun cdv A outer s H E B hB hr => ?_
  have hN := S.nd
  have tk := takes_cx (P := PW) (w := w) (K := K) (mg := mg) (base := base) (N := ["field"]) (qual := "need_field") (scope := defScope (top 32)) (f := f) (cdv := cdv) (A := A) (outer := outer) (s := s) (H := H) (E := E)
  have hp := owns_cx (P := PW) (w := w) (K := K) (mg := mg) (base := base) (N := ["field"]) (qual := "need_field") (scope := defScope (top 32)) (f := f) (cdv := cdv) (A := A) (outer := outer) (s := s) (H := H) (E := E)
  exact (qss_cons (qs_if (qt_not (qt_tru (QE.rd (qe_iso (qr_v 0) T.n_isinstance T.g_Field T.iso_Field)))) (qss_cons (qs_raise T.x_BadField rfl tk (hr.mono (by decide)) (qa_val qe_int qa_nil)) qss_nil) qss_nil) (qss_cons (qs_ret (qe_v 0)) qss_nil))
theorem w_is_hard {f : Addr} {fd : FuncData} {dvs : List V} {kws : List (Str × V)} (T : Tops K mg w base)  (F : FunD K "is_hard" "is_hard" (defArgs (top 38)) (defBody (top 38)) (defScope (top 38)) dvs kws f fd) : FnOk PW w K mg base (L2.CX PW w) 3 f fd ["mark"] (spOf K fi_is_hard) := by
  have S : FnScope ["mark"] ["mark"] (defScope (top 38)) := ⟨rfl, rfl, rfl, by decide +kernel, rfl, by decide +kernel, by decide +kernel⟩
  refine fn_rule (P := PW) (w := w) (K := K) (mg := mg) (base := base) (N := ["mark"]) (ps := ["mark"]) (k := 2) (ms := [.val]) (own := false) (g := g_is_hard) F S rfl (by decide) fun cdv A outer s H E B hB hr => ?_
  have hN := S.nd
  have tk := takes_cx (P := PW) (w := w) (K := K) (mg := mg) (base := base) (N := ["mark"]) (qual := "is_hard") (scope := defScope (top 38)) (f := f) (cdv := cdv) (A := A) (outer := outer) (s := s) (H := H) (E := E)
  have hp := owns_cx (P := PW) (w := w) (K := K) (mg := mg) (base := base) (N := ["mark"]) (qual := "is_hard") (scope := defScope (top 38)) (f := f) (cdv := cdv) (A := A) (outer := outer) (s := s) (H := H) (E := E)
  exact (qss_cons (qs_ret (qe_cmp (or_in hr) (qr_v 0) (QE.rd (qe_tup (qa_val (qe_gstr T.c_FIRM) (qa_val (qe_gstr T.c_TOLD) qa_nil)))))) qss_nil)
theorem w_is_touched {f : Addr} {fd : FuncData} {dvs : List V} {kws : List (Str × V)} (T : Tops K mg w base)  (F : FunD K "is_touched" "is_touched" (defArgs (top 39)) (defBody (top 39)) (defScope (top 39)) dvs kws f fd) : FnOk PW w K mg base (L2.CX PW w) 3 f fd ["mark"] (spOf K fi_is_touched) := by
  have S : FnScope ["mark"] ["mark"] (defScope (top 39)) := ⟨rfl, rfl, rfl, by decide +kernel, rfl, by decide +kernel, by decide +kernel⟩
  refine fn_rule (P := PW) (w := w) (K := K) (mg := mg) (base := base) (N := ["mark"]) (ps := ["mark"]) (k := 2) (ms := [.val]) (own := false) (g := g_is_touched) F S rfl (by decide) fun cdv A outer s H E B hB hr => ?_
  have hN := S.nd
  have tk := takes_cx (P := PW) (w := w) (K := K) (mg := mg) (base := base) (N := ["mark"]) (qual := "is_touched") (scope := defScope (top 39)) (f := f) (cdv := cdv) (A := A) (outer := outer) (s := s) (H := H) (E := E)
  have hp := owns_cx (P := PW) (w := w) (K := K) (mg := mg) (base := base) (N := ["mark"]) (qual := "is_touched") (scope := defScope (top 39)) (f := f) (cdv := cdv) (A := A) (outer := outer) (s := s) (H := H) (E := E)
  exact (qss_cons (qs_ret (qe_cmp (or_in hr) (qr_v 0) (QE.rd (qe_tup (qa_val (qe_gstr T.c_FIRM) (qa_val (qe_gstr T.c_LOOSE) (qa_val (qe_gstr T.c_TOLD) qa_nil))))))) qss_nil)
theorem w_check_line {f : Addr} {fd : FuncData} {dvs : List V} {kws : List (Str × V)} (T : Tops K mg w base) (f_is_touched : FnB PW w K mg base "is_touched" fi_is_touched [] 3) (F : FunD K "check_line" "check_line" (defArgs (top 40)) (defBody (top 40)) (defScope (top 40)) dvs kws f fd) : FnOk PW w K mg base (L2.CX PW w) 4 f fd ["line", "size", "row"] (spOf K fi_check_line) := by
  have S : FnScope ["line", "size", "row", "column", "mark"] ["line", "size", "row"] (defScope (top 40)) := ⟨rfl, rfl, rfl, by decide +kernel, rfl, by decide +kernel, by decide +kernel⟩
  refine fn_rule (P := PW) (w := w) (K := K) (mg := mg) (base := base) (N := ["line", "size", "row", "column", "mark"]) (ps := ["line", "size", "row"]) (k := 3) (ms := [.val, .val, .val]) (own := false) (g := g_check_line) F S rfl (by decide) fun cdv A outer s H E B hB hr => ?_
  have hN := S.nd
  have tk := takes_cx (P := PW) (w := w) (K := K) (mg := mg) (base := base) (N := ["line", "size", "row", "column", "mark"]) (qual := "check_line") (scope := defScope (top 40)) (f := f) (cdv := cdv) (A := A) (outer := outer) (s := s) (H := H) (E := E)
  have hp := owns_cx (P := PW) (w := w) (K := K) (mg := mg) (base := base) (N := ["line", "size", "row", "column", "mark"]) (qual := "check_line") (scope := defScope (top 40)) (f := f) (cdv := cdv) (A := A) (outer := outer) (s := s) (H := H) (E := E)
  exact (qss_cons (qs_if (QW.qt (qw_or (qt_not (qt_tru (QE.rd (qe_isi (qr_v 0) T.n_isinstance T.n_str)))) (qw_or1 (qt_cmp (or_ne hr) (QE.rd (qe_bi cr_len (qa_bor (qr_v 0) qa_nil) T.n_len)) (qr_v 1))))) (qss_cons (qs_raise T.x_BadMark rfl tk (hr.mono (by decide)) (qa_val (qe_v 2) (qa_val (qe_neg qe_int) qa_nil))) qss_nil) qss_nil) (qss_cons (qs_for hp rfl (qi_enum (qe_v 0) T.n_enumerate) (qg_pair 3 4 rfl hN) (qss_cons (qs_if (QW.qt (qw_and (qt_cmp (or_ne hr) (qr_v 4) (QE.rd (qe_gstr T.c_NONE))) (qw_and1 (qt_not (qt_tru (QE.rd (qe_call f_is_touched (hr.mono (by decide)) tk (qa_val (qe_v 4) qa_nil)))))))) (qss_cons (qs_raise T.x_BadMark rfl tk (hr.mono (by decide)) (qa_val (qe_v 2) (qa_val (qe_v 3) qa_nil))) qss_nil) qss_nil) (qss_end [3, 4]))) (qss_cons (qs_if (qt_cmp or_gt (QE.rd (qe_m1 PySem.F.slot_str_count PySem.F.type_str_count mr_count (qr_v 0) (QE.rd (qe_gstr T.c_TOLD)))) (QE.rd qe_int)) (qss_cons (qs_raise T.x_TwoTold rfl tk (hr.mono (by decide)) (qa_val (qe_v 2) qa_nil)) qss_nil) qss_nil) (qss_cons (qs_ret (qe_v 0)) qss_nil))))
theorem w_normal_row {f : Addr} {fd : FuncData} {dvs : List V} {kws : List (Str × V)} (T : Tops K mg w base) (f_normal_number : FnB PW w K mg base "normal_number" fi_normal_number [] 4) (F : FunD K "normal_row" "normal_row" (defArgs (top 42)) (defBody (top 42)) (defScope (top 42)) dvs kws f fd) : FnOk PW w K mg base (L2.CX PW w) 5 f fd ["prime", "numbers", "size"] (spOf K fi_normal_row) := by
  have S : FnScope ["prime", "numbers", "size", "at", "entry"] ["prime", "numbers", "size"] (defScope (top 42)) := ⟨rfl, rfl, rfl, by decide +kernel, rfl, by decide +kernel, by decide +kernel⟩
  refine fn_rule (P := PW) (w := w) (K := K) (mg := mg) (base := base) (N := ["prime", "numbers", "size", "at", "entry"]) (ps := ["prime", "numbers", "size"]) (k := 4) (ms := [.val, .val, .val]) (own := false) (g := g_normal_row) F S rfl (by decide) fun cdv A outer s H E B hB hr => ?_
  have hN := S.nd
  have tk := takes_cx (P := PW) (w := w) (K := K) (mg := mg) (base := base) (N := ["prime", "numbers", "size", "at", "entry"]) (qual := "normal_row") (scope := defScope (top 42)) (f := f) (cdv := cdv) (A := A) (outer := outer) (s := s) (H := H) (E := E)
  have hp := owns_cx (P := PW) (w := w) (K := K) (mg := mg) (base := base) (N := ["prime", "numbers", "size", "at", "entry"]) (qual := "normal_row") (scope := defScope (top 42)) (f := f) (cdv := cdv) (A := A) (outer := outer) (s := s) (H := H) (E := E)
  exact (qss_cons (qs_if (qt_not (qt_tru (QE.rd (qe_isiT (qr_v 1) (pty_cons (pty_cons pty_nil T.n_tuple) T.n_list) T.n_isinstance)))) (qss_cons (qs_raise T.x_BadNumber rfl tk (hr.mono (by decide)) (qa_val (qe_neg qe_int) qa_nil)) qss_nil) qss_nil) (qss_cons (qs_if (qt_cmp (or_ne hr) (QE.rd (qe_bi cr_len (qa_bor (qr_v 1) qa_nil) T.n_len)) (qr_v 2)) (qss_cons (qs_raise T.x_OtherSize rfl tk (hr.mono (by decide)) (qa_val (qe_v 2) qa_nil)) qss_nil) qss_nil) (qss_cons (qs_ret (qe_ty cr_tuple (qa_bor (QE.rd (QO.fz (qo_lc (own := [("at", 3), ("entry", 4)]) rfl hN (qi_enum (qe_v 1) T.n_enumerate) (show BlkOk ["prime", "numbers", "size", "at", "entry"] (defScope (top 42)) _ _ from ⟨rfl, by decide +kernel, by decide +kernel, by decide +kernel, by decide +kernel⟩) (fun _ _ _ _ _ => (qgv_pair 3 4 rfl hN)) (fun _ _ _ _ _ => qts_nil) (fun _ _ _ _ _ => (qe_call f_normal_number (hr.mono (by decide)) takesW0 (qa_val (qe_v 0) (qa_val (qe_v 4) (qa_val (qe_v 3) qa_nil)))))))) qa_nil) T.n_tuple)) qss_nil)))
theorem w_row_dot {f : Addr} {fd : FuncData} {dvs : List V} {kws : List (Str × V)} (T : Tops K mg w base) (f_add_numbers : FnB PW w K mg base "add_numbers" fi_add_numbers [] 4) (f_mul_numbers : FnB PW w K mg base "mul_numbers" fi_mul_numbers [] 4) (F : FunD K "row_dot" "row_dot" (defArgs (top 43)) (defBody (top 43)) (defScope (top 43)) dvs kws f fd) : FnOk PW w K mg base (L2.CX PW w) 5 f fd ["prime", "one", "other"] (spOf K fi_row_dot) := by
  have S : FnScope ["prime", "one", "other", "total", "mine", "theirs"] ["prime", "one", "other"] (defScope (top 43)) := ⟨rfl, rfl, rfl, by decide +kernel, rfl, by decide +kernel, by decide +kernel⟩
  refine fn_rule (P := PW) (w := w) (K := K) (mg := mg) (base := base) (N := ["prime", "one", "other", "total", "mine", "theirs"]) (ps := ["prime", "one", "other"]) (k := 4) (ms := [.val, .val, .val]) (own := false) (g := g_row_dot) F S rfl (by decide) fun cdv A outer s H E B hB hr => ?_
  have hN := S.nd
  have tk := takes_cx (P := PW) (w := w) (K := K) (mg := mg) (base := base) (N := ["prime", "one", "other", "total", "mine", "theirs"]) (qual := "row_dot") (scope := defScope (top 43)) (f := f) (cdv := cdv) (A := A) (outer := outer) (s := s) (H := H) (E := E)
  have hp := owns_cx (P := PW) (w := w) (K := K) (mg := mg) (base := base) (N := ["prime", "one", "other", "total", "mine", "theirs"]) (qual := "row_dot") (scope := defScope (top 43)) (f := f) (cdv := cdv) (A := A) (outer := outer) (s := s) (H := H) (E := E)
  exact (qss_cons (qs_if (qt_tru (qr_v 0)) (qss_cons (qs_ret (qe_op or_mod (QE.rd (qe_bi (cr_sumP rfl) (qa_bor (QE.rd (QO.fz (qo_lc (own := [("mine", 4), ("theirs", 5)]) rfl hN (qi_zip (qa_val (qe_v 1) (qa_val (qe_v 2) qa_nil)) T.n_zip) (show BlkOk ["prime", "one", "other", "total", "mine", "theirs"] (defScope (top 43)) _ _ from ⟨rfl, by decide +kernel, by decide +kernel, by decide +kernel, by decide +kernel⟩) (fun _ _ _ _ _ => (qgv_pair 4 5 rfl hN)) (fun _ _ _ _ _ => qts_nil) (fun _ _ _ _ _ => (qe_op or_mul (qr_v 4) (qr_v 5)))))) qa_nil) T.n_sum)) (qr_v 0))) qss_nil) qss_nil) (qss_cons (qs_set 3 hN (qe_tup (qa_val qe_int (qa_val qe_int qa_nil)))) (qss_cons (qs_for hp rfl (qi_zip (qa_val (qe_v 1) (qa_val (qe_v 2) qa_nil)) T.n_zip) (qg_pair 4 5 rfl hN) (qss_cons (qs_if (QW.qt (qw_and (qt_cmp (or_ne hr) (QE.rd (qe_ix ix_p (qr_v 4) (QE.rd qe_int))) (QE.rd qe_int)) (qw_and1 (qt_cmp (or_ne hr) (QE.rd (qe_ix ix_p (qr_v 5) (QE.rd qe_int))) (QE.rd qe_int))))) (qss_cons (qs_set 3 hN (qe_call f_add_numbers (hr.mono (by decide)) tk (qa_val qe_int (qa_val (qe_v 3) (qa_val (qe_call f_mul_numbers (hr.mono (by decide)) tk (qa_val qe_int (qa_val (qe_v 4) (qa_val (qe_v 5) qa_nil)))) qa_nil))))) qss_nil) qss_nil) (qss_end [4, 5]))) (qss_cons (qs_ret (qe_v 3)) qss_nil))))
theorem w_flags_of {f : Addr} {fd : FuncData} {dvs : List V} {kws : List (Str × V)} (T : Tops K mg w base)  (F : FunD K "flags_of" "flags_of" (defArgs (top 45)) (defBody (top 45)) (defScope (top 45)) dvs kws f fd) : FnOk PW w K mg base (L2.CX PW w) 3 f fd ["lot", "size"] (spOf K fi_flags_of) := by
  have S : FnScope ["lot", "size", "flags", "place"] ["lot", "size"] (defScope (top 45)) := ⟨rfl, rfl, rfl, by decide +kernel, rfl, by decide +kernel, by decide +kernel⟩
  refine fn_rule (P := PW) (w := w) (K := K) (mg := mg) (base := base) (N := ["lot", "size", "flags", "place"]) (ps := ["lot", "size"]) (k := 2) (ms := [.val, .val]) (own := false) (g := g_flags_of) F S rfl (by decide) fun cdv A outer s H E B hB hr => ?_
  have hN := S.nd
  have tk := takes_cx (P := PW) (w := w) (K := K) (mg := mg) (base := base) (N := ["lot", "size", "flags", "place"]) (qual := "flags_of") (scope := defScope (top 45)) (f := f) (cdv := cdv) (A := A) (outer := outer) (s := s) (H := H) (E := E)
  have hp := owns_cx (P := PW) (w := w) (K := K) (mg := mg) (base := base) (N := ["lot", "size", "flags", "place"]) (qual := "flags_of") (scope := defScope (top 45)) (f := f) (cdv := cdv) (A := A) (outer := outer) (s := s) (H := H) (E := E)
  exact (qss_cons (qs_setO 2 hN (qo_op oro_mul (QE.rd (QO.fz (qo_lst (qa_val qe_bl qa_nil)))) (qr_v 1))) (qss_cons (qs_for hp rfl (qi_seq (qe_v 0)) (qg_name 3 hN) (qss_cons (qs_setIx 2 qe_bl (qe_v 3)) (qss_end [3]))) (qss_frz 2 (qss_cons (qs_ret (qe_v 2)) qss_nil))))
theorem w_forced_now {f : Addr} {fd : FuncData} {dvs : List V} {kws : List (Str × V)} (T : Tops K mg w base) (f_is_hard : FnB PW w K mg base "is_hard" fi_is_hard [] 3) (F : FunD K "forced_now" "forced_now" (defArgs (top 46)) (defBody (top 46)) (defScope (top 46)) dvs kws f fd) : FnOk PW w K mg base (L2.CX PW w) 4 f fd ["line", "touched", "white"] (spOf K fi_forced_now) := by
  have S : FnScope ["line", "touched", "white", "seen", "column"] ["line", "touched", "white"] (defScope (top 46)) := ⟨rfl, rfl, rfl, by decide +kernel, rfl, by decide +kernel, by decide +kernel⟩
  refine fn_rule (P := PW) (w := w) (K := K) (mg := mg) (base := base) (N := ["line", "touched", "white", "seen", "column"]) (ps := ["line", "touched", "white"]) (k := 3) (ms := [.val, .val, .bor]) (own := false) (g := g_forced_now) F S rfl (by decide) fun cdv A outer s H E B hB hr => ?_
  have hN := S.nd
  have tk := takes_cx (P := PW) (w := w) (K := K) (mg := mg) (base := base) (N := ["line", "touched", "white", "seen", "column"]) (qual := "forced_now") (scope := defScope (top 46)) (f := f) (cdv := cdv) (A := A) (outer := outer) (s := s) (H := H) (E := E)
  have hp := owns_cx (P := PW) (w := w) (K := K) (mg := mg) (base := base) (N := ["line", "touched", "white", "seen", "column"]) (qual := "forced_now") (scope := defScope (top 46)) (f := f) (cdv := cdv) (A := A) (outer := outer) (s := s) (H := H) (E := E)
  exact (qss_cons (qs_setLc 3 (own := [("column", 4)]) rfl hN (qi_seq (qe_v 1)) (show BlkOk ["line", "touched", "white", "seen", "column"] (defScope (top 46)) _ _ from ⟨rfl, by decide +kernel, by decide +kernel, by decide +kernel, by decide +kernel⟩) (fun _ _ _ _ _ => (qgv_name 4 hN)) (fun _ _ _ _ _ => (qts_one (qt_tru (QE.rd (qe_ix ix_p (qr_v 2) (qr_v 4)))))) (fun _ _ _ _ _ => (qe_v 4))) (qss_cons (qs_if (QW.qt (qw_or (qt_cmp (or_ne hr) (QE.rd (qe_bi cr_len (qa_bor (qr_v 3) qa_nil) T.n_len)) (QE.rd qe_int)) (qw_or1 (qt_not (qt_tru (QE.rd (qe_call f_is_hard (hr.mono (by decide)) tk (qa_val (qe_ix ix_p (qr_v 0) (QE.rd (qe_ix ix_p (qr_v 3) (QE.rd qe_int)))) qa_nil)))))))) (qss_cons (qs_ret qe_non) qss_nil) qss_nil) (qss_cons (qs_ret (qe_ix ix_p (qr_v 3) (QE.rd qe_int))) qss_nil)))
theorem w_Table_len {f : Addr} {fd : FuncData} {dvs : List V} {kws : List (Str × V)} (T : Tops K mg w base)  (F : FunD K "__len__" "Table.__len__" (defArgs (meth 53 1)) (defBody (meth 53 1)) (defScope (meth 53 1)) dvs kws f fd) : FnOk PW w K mg base (L2.CX PW w) 3 f fd ["self"] (spOf K fi_Table_len) := by
  have S : FnScope ["self"] ["self"] (defScope (meth 53 1)) := ⟨rfl, rfl, rfl, by decide +kernel, rfl, by decide +kernel, by decide +kernel⟩
  refine fn_rule (P := PW) (w := w) (K := K) (mg := mg) (base := base) (N := ["self"]) (ps := ["self"]) (k := 2) (ms := [.bor]) (own := false) (g := g_Table_len) F S rfl (by decide) fun cdv A outer s H E B hB hr => ?_
  have hN := S.nd
  have tk := takes_cx (P := PW) (w := w) (K := K) (mg := mg) (base := base) (N := ["self"]) (qual := "Table.__len__") (scope := defScope (meth 53 1)) (f := f) (cdv := cdv) (A := A) (outer := outer) (s := s) (H := H) (E := E)
  have hp := owns_cx (P := PW) (w := w) (K := K) (mg := mg) (base := base) (N := ["self"]) (qual := "Table.__len__") (scope := defScope (meth 53 1)) (f := f) (cdv := cdv) (A := A) (outer := outer) (s := s) (H := H) (E := E)
  exact (qss_cons (qs_ret (qe_bi cr_len (qa_bor (QE.rd (qe_fld T.fo_Table_lines (qr_v 0))) qa_nil) T.n_len)) qss_nil)
theorem w_Table_touches {f : Addr} {fd : FuncData} {dvs : List V} {kws : List (Str × V)} (T : Tops K mg w base) (f_is_touched : FnB PW w K mg base "is_touched" fi_is_touched [] 3) (f_place_of : FnB PW w K mg base "place_of" fi_place_of [] 4) (F : FunD K "touches" "Table.touches" (defArgs (meth 53 6)) (defBody (meth 53 6)) (defScope (meth 53 6)) dvs kws f fd) : FnOk PW w K mg base (L2.CX PW w) 5 f fd ["self", "row"] (spOf K fi_Table_touches) := by
  have S : FnScope ["self", "row", "line", "column", "mark"] ["self", "row"] (defScope (meth 53 6)) := ⟨rfl, rfl, rfl, by decide +kernel, rfl, by decide +kernel, by decide +kernel⟩
  refine fn_rule (P := PW) (w := w) (K := K) (mg := mg) (base := base) (N := ["self", "row", "line", "column", "mark"]) (ps := ["self", "row"]) (k := 4) (ms := [.bor, .val]) (own := false) (g := g_Table_touches) F S rfl (by decide) fun cdv A outer s H E B hB hr => ?_
  have hN := S.nd
  have tk := takes_cx (P := PW) (w := w) (K := K) (mg := mg) (base := base) (N := ["self", "row", "line", "column", "mark"]) (qual := "Table.touches") (scope := defScope (meth 53 6)) (f := f) (cdv := cdv) (A := A) (outer := outer) (s := s) (H := H) (E := E)
  have hp := owns_cx (P := PW) (w := w) (K := K) (mg := mg) (base := base) (N := ["self", "row", "line", "column", "mark"]) (qual := "Table.touches") (scope := defScope (meth 53 6)) (f := f) (cdv := cdv) (A := A) (outer := outer) (s := s) (H := H) (E := E)
  exact (qss_cons (qs_set 2 hN (qe_ix ix_p (QE.rd (qe_fld T.fo_Table_lines (qr_v 0))) (QE.rd (qe_call f_place_of (hr.mono (by decide)) tk (qa_val (qe_v 1) (qa_val (qe_bi cr_len (qa_bor (QE.rd (qe_fld T.fo_Table_lines (qr_v 0))) qa_nil) T.n_len) qa_nil)))))) (qss_cons (qs_ret (qe_ty cr_tuple (qa_bor (QE.rd (QO.fz (qo_lc (own := [("column", 3), ("mark", 4)]) rfl hN (qi_enum (qe_v 2) T.n_enumerate) (show BlkOk ["self", "row", "line", "column", "mark"] (defScope (meth 53 6)) _ _ from ⟨rfl, by decide +kernel, by decide +kernel, by decide +kernel, by decide +kernel⟩) (fun _ _ _ _ _ => (qgv_pair 3 4 rfl hN)) (fun _ _ _ _ _ => (qts_one (qt_tru (QE.rd (qe_call f_is_touched (hr.mono (by decide)) takesW0 (qa_val (qe_v 4) qa_nil)))))) (fun _ _ _ _ _ => (qe_v 3))))) qa_nil) T.n_tuple)) qss_nil))
theorem w_broken_at {f : Addr} {fd : FuncData} {dvs : List V} {kws : List (Str × V)} (T : Tops K mg w base) (f_flags_of : FnB PW w K mg base "flags_of" fi_flags_of [] 3) (f_forced_now : FnB PW w K mg base "forced_now" fi_forced_now [] 4) (f_lot_of : FnB PW w K mg base "lot_of" fi_lot_of [] 4) (m_Table_len : FnM PW w K mg base ["Table"] "__len__" fi_Table_len [] 3) (m_Table_touches : FnM PW w K mg base ["Table"] "touches" fi_Table_touches [] 5) (F : FunD K "broken_at" "broken_at" (defArgs (top 48)) (defBody (top 48)) (defScope (top 48)) dvs kws f fd) : FnOk PW w K mg base (L2.CX PW w) 6 f fd ["table", "lot"] (spOf K fi_broken_at) := by
  have S : FnScope ["table", "lot", "inside", "row"] ["table", "lot"] (defScope (top 48)) := ⟨rfl, rfl, rfl, by decide +kernel, rfl, by decide +kernel, by decide +kernel⟩
  refine fn_rule (P := PW) (w := w) (K := K) (mg := mg) (base := base) (N := ["table", "lot", "inside", "row"]) (ps := ["table", "lot"]) (k := 5) (ms := [.val, .val]) (own := false) (g := g_broken_at) F S rfl (by decide) fun cdv A outer s H E B hB hr => ?_
  have hN := S.nd
  have tk := takes_cx (P := PW) (w := w) (K := K) (mg := mg) (base := base) (N := ["table", "lot", "inside", "row"]) (qual := "broken_at") (scope := defScope (top 48)) (f := f) (cdv := cdv) (A := A) (outer := outer) (s := s) (H := H) (E := E)
  have hp := owns_cx (P := PW) (w := w) (K := K) (mg := mg) (base := base) (N := ["table", "lot", "inside", "row"]) (qual := "broken_at") (scope := defScope (top 48)) (f := f) (cdv := cdv) (A := A) (outer := outer) (s := s) (H := H) (E := E)
  exact (qss_cons (qs_set 2 hN (qe_call f_flags_of (hr.mono (by decide)) tk (qa_val (qe_call f_lot_of (hr.mono (by decide)) tk (qa_val (qe_v 1) (qa_val (qe_fld T.fo_Table_columns (qr_v 0)) qa_nil))) (qa_val (qe_fld T.fo_Table_columns (qr_v 0)) qa_nil)))) (qss_cons (qs_for hp rfl (qi_range1 (qa_val (qe_lenM m_Table_len (hr.mono (by decide)) (qr_v 0) T.n_len) qa_nil) T.n_range) (qg_name 3 hN) (qss_cons (qs_if (qt_cmp or_isn (QE.rd (qe_call f_forced_now (hr.mono (by decide)) tk (qa_val (qe_ix ix_p (QE.rd (qe_fld T.fo_Table_lines (qr_v 0))) (qr_v 3)) (qa_val (qe_meth m_Table_touches (hr.mono (by decide)) tk (qr_v 0) (qa_val (qe_v 3) qa_nil)) (qa_bor (qr_v 2) qa_nil))))) (QE.rd qe_non)) (qss_cons (qs_ret (qe_v 3)) qss_nil) qss_nil) (qss_end [3]))) (qss_cons (qs_ret qe_non) qss_nil)))
theorem w_count_of_columns {f : Addr} {fd : FuncData} {dvs : List V} {kws : List (Str × V)} (T : Tops K mg w base) (f_size_of : FnB PW w K mg base "size_of" fi_size_of [] 4) (F : FunD K "count_of_columns" "count_of_columns" (defArgs (top 52)) (defBody (top 52)) (defScope (top 52)) dvs kws f fd) : FnOk PW w K mg base (L2.CX PW w) 5 f fd ["columns"] (spOf K fi_count_of_columns) := by
  have S : FnScope ["columns"] ["columns"] (defScope (top 52)) := ⟨rfl, rfl, rfl, by decide +kernel, rfl, by decide +kernel, by decide +kernel⟩
  refine fn_rule (P := PW) (w := w) (K := K) (mg := mg) (base := base) (N := ["columns"]) (ps := ["columns"]) (k := 4) (ms := [.val]) (own := false) (g := g_count_of_columns) F S rfl (by decide) fun cdv A outer s H E B hB hr => ?_
  have hN := S.nd
  have tk := takes_cx (P := PW) (w := w) (K := K) (mg := mg) (base := base) (N := ["columns"]) (qual := "count_of_columns") (scope := defScope (top 52)) (f := f) (cdv := cdv) (A := A) (outer := outer) (s := s) (H := H) (E := E)
  have hp := owns_cx (P := PW) (w := w) (K := K) (mg := mg) (base := base) (N := ["columns"]) (qual := "count_of_columns") (scope := defScope (top 52)) (f := f) (cdv := cdv) (A := A) (outer := outer) (s := s) (H := H) (E := E)
  exact (qss_cons (qs_expr (qe_call f_size_of (hr.mono (by decide)) tk (qa_val (qe_v 0) qa_nil))) (qss_cons (qs_if (qt_cmp or_gt (qr_v 0) (QE.rd (qe_gint T.c_MOST_COLUMNS))) (qss_cons (qs_raise T.x_TooMany rfl tk (hr.mono (by decide)) (qa_val (qe_gint T.c_MOST_COLUMNS) qa_nil)) qss_nil) qss_nil) (qss_cons (qs_ret (qe_v 0)) qss_nil)))
theorem w_Table_init {f : Addr} {fd : FuncData} {dvs : List V} {kws : List (Str × V)} (T : Tops K mg w base) (f_check_line : FnB PW w K mg base "check_line" fi_check_line [] 4) (f_count_of_columns : FnB PW w K mg base "count_of_columns" fi_count_of_columns [] 5) (F : FunD K "__init__" "Table.__init__" (defArgs (meth 53 0)) (defBody (meth 53 0)) (defScope (meth 53 0)) dvs kws f fd) : FnOk PW w K mg base (L2.CX PW w) 6 f fd ["self", "columns", "lines"] (spOf K fi_Table_init) := by
  have S : FnScope ["self", "columns", "lines", "row", "line"] ["self", "columns", "lines"] (defScope (meth 53 0)) := ⟨rfl, rfl, rfl, by decide +kernel, rfl, by decide +kernel, by decide +kernel⟩
  refine fn_rule (P := PW) (w := w) (K := K) (mg := mg) (base := base) (N := ["self", "columns", "lines", "row", "line"]) (ps := ["self", "columns", "lines"]) (k := 5) (ms := [.mu, .val, .val]) (own := false) (g := g_Table_init) F S rfl (by decide) fun cdv A outer s H E B hB hr => ?_
  have hN := S.nd
  have tk := takes_cx (P := PW) (w := w) (K := K) (mg := mg) (base := base) (N := ["self", "columns", "lines", "row", "line"]) (qual := "Table.__init__") (scope := defScope (meth 53 0)) (f := f) (cdv := cdv) (A := A) (outer := outer) (s := s) (H := H) (E := E)
  have hp := owns_cx (P := PW) (w := w) (K := K) (mg := mg) (base := base) (N := ["self", "columns", "lines", "row", "line"]) (qual := "Table.__init__") (scope := defScope (meth 53 0)) (f := f) (cdv := cdv) (A := A) (outer := outer) (s := s) (H := H) (E := E)
  exact (qss_cons (qs_expr (qe_call f_count_of_columns (hr.mono (by decide)) tk (qa_val (qe_v 1) qa_nil))) (qss_cons (qs_if (qt_not (qt_tru (QE.rd (qe_isiT (qr_v 2) (pty_cons (pty_cons pty_nil T.n_tuple) T.n_list) T.n_isinstance)))) (qss_cons (qs_raise T.x_BadMark rfl tk (hr.mono (by decide)) (qa_val (qe_neg qe_int) (qa_val (qe_neg qe_int) qa_nil))) qss_nil) qss_nil) (qss_cons (qs_if (qt_cmp or_gt (QE.rd (qe_bi cr_len (qa_bor (qr_v 2) qa_nil) T.n_len)) (QE.rd (qe_gint T.c_MOST_LINES))) (qss_cons (qs_raise T.x_TooMany rfl tk (hr.mono (by decide)) (qa_val (qe_gint T.c_MOST_LINES) qa_nil)) qss_nil) qss_nil) (qss_cons (qs_fldM 0 T.fo_Table_columns (qe_v 1)) (qss_cons (qs_fldM 0 T.fo_Table_lines (qe_ty cr_tuple (qa_bor (QE.rd (QO.fz (qo_lc (own := [("row", 3), ("line", 4)]) rfl hN (qi_enum (qe_v 2) T.n_enumerate) (show BlkOk ["self", "columns", "lines", "row", "line"] (defScope (meth 53 0)) _ _ from ⟨rfl, by decide +kernel, by decide +kernel, by decide +kernel, by decide +kernel⟩) (fun _ _ _ _ _ => (qgv_pair 3 4 rfl hN)) (fun _ _ _ _ _ => qts_nil) (fun _ _ _ _ _ => (qe_call f_check_line (hr.mono (by decide)) takesW0 (qa_val (qe_v 4) (qa_val (qe_v 1) (qa_val (qe_v 3) qa_nil)))))))) qa_nil) T.n_tuple)) qss_nil)))))
theorem w_fits_mark {f : Addr} {fd : FuncData} {dvs : List V} {kws : List (Str × V)} (T : Tops K mg w base) (f_negated : FnB PW w K mg base "negated" fi_negated [] 3) (f_nought_of : FnB PW w K mg base "nought_of" fi_nought_of [] 3) (f_unit_of : FnB PW w K mg base "unit_of" fi_unit_of [] 3) (F : FunD K "fits_mark" "fits_mark" (defArgs (top 56)) (defBody (top 56)) (defScope (top 56)) dvs kws f fd) : FnOk PW w K mg base (L2.CX PW w) 4 f fd ["prime", "mark", "number"] (spOf K fi_fits_mark) := by
  have S : FnScope ["prime", "mark", "number"] ["prime", "mark", "number"] (defScope (top 56)) := ⟨rfl, rfl, rfl, by decide +kernel, rfl, by decide +kernel, by decide +kernel⟩
  refine fn_rule (P := PW) (w := w) (K := K) (mg := mg) (base := base) (N := ["prime", "mark", "number"]) (ps := ["prime", "mark", "number"]) (k := 3) (ms := [.val, .val, .val]) (own := false) (g := g_fits_mark) F S rfl (by decide) fun cdv A outer s H E B hB hr => ?_
  have hN := S.nd
  have tk := takes_cx (P := PW) (w := w) (K := K) (mg := mg) (base := base) (N := ["prime", "mark", "number"]) (qual := "fits_mark") (scope := defScope (top 56)) (f := f) (cdv := cdv) (A := A) (outer := outer) (s := s) (H := H) (E := E)
  have hp := owns_cx (P := PW) (w := w) (K := K) (mg := mg) (base := base) (N := ["prime", "mark", "number"]) (qual := "fits_mark") (scope := defScope (top 56)) (f := f) (cdv := cdv) (A := A) (outer := outer) (s := s) (H := H) (E := E)
  exact (qss_cons (qs_if (qt_cmp (or_eq hr) (qr_v 1) (QE.rd (qe_gstr T.c_LOOSE))) (qss_cons (qs_ret qe_bl) qss_nil) qss_nil) (qss_cons (qs_if (qt_cmp (or_eq hr) (qr_v 1) (QE.rd (qe_gstr T.c_TOLD))) (qss_cons (qs_ret (qe_cmp (or_eq hr) (qr_v 2) (QE.rd (qe_call f_negated (hr.mono (by decide)) tk (qa_val (qe_v 0) (qa_val (qe_call f_unit_of (hr.mono (by decide)) tk (qa_val (qe_v 0) qa_nil)) qa_nil)))))) qss_nil) qss_nil) (qss_cons (qs_ret (qe_cmp (or_eq hr) (QE.rd (qe_cmp (or_eq hr) (qr_v 2) (QE.rd (qe_call f_nought_of (hr.mono (by decide)) tk (qa_val (qe_v 0) qa_nil))))) (QE.rd (qe_cmp (or_eq hr) (qr_v 1) (QE.rd (qe_gstr T.c_NONE)))))) qss_nil)))
theorem w_fitting_row {f : Addr} {fd : FuncData} {dvs : List V} {kws : List (Str × V)} (T : Tops K mg w base) (f_fits_mark : FnB PW w K mg base "fits_mark" fi_fits_mark [] 4) (f_normal_row : FnB PW w K mg base "normal_row" fi_normal_row [] 5) (F : FunD K "fitting_row" "fitting_row" (defArgs (top 57)) (defBody (top 57)) (defScope (top 57)) dvs kws f fd) : FnOk PW w K mg base (L2.CX PW w) 6 f fd ["field", "line", "row", "numbers"] (spOf K fi_fitting_row) := by
  have S : FnScope ["field", "line", "row", "numbers", "column", "mark", "normal", "why"] ["field", "line", "row", "numbers"] (defScope (top 57)) := ⟨rfl, rfl, rfl, by decide +kernel, rfl, by decide +kernel, by decide +kernel⟩
  refine fn_rule (P := PW) (w := w) (K := K) (mg := mg) (base := base) (N := ["field", "line", "row", "numbers", "column", "mark", "normal", "why"]) (ps := ["field", "line", "row", "numbers"]) (k := 5) (ms := [.val, .val, .val, .val]) (own := false) (g := g_fitting_row) F S rfl (by decide) fun cdv A outer s H E B hB hr => ?_
  have hN := S.nd
  have tk := takes_cx (P := PW) (w := w) (K := K) (mg := mg) (base := base) (N := ["field", "line", "row", "numbers", "column", "mark", "normal", "why"]) (qual := "fitting_row") (scope := defScope (top 57)) (f := f) (cdv := cdv) (A := A) (outer := outer) (s := s) (H := H) (E := E)
  have hp := owns_cx (P := PW) (w := w) (K := K) (mg := mg) (base := base) (N := ["field", "line", "row", "numbers", "column", "mark", "normal", "why"]) (qual := "fitting_row") (scope := defScope (top 57)) (f := f) (cdv := cdv) (A := A) (outer := outer) (s := s) (H := H) (E := E)
  exact (qss_cons (qs_try T.exm rfl rfl hN tk (fun _ _ _ tk hp => (qss_cons (qs_set 6 hN (qe_call f_normal_row (hr.mono (by decide)) tk (qa_val (qe_fld T.fo_Field_prime (qr_v 0)) (qa_val (qe_v 3) (qa_val (qe_bi cr_len (qa_bor (qr_v 1) qa_nil) T.n_len) qa_nil))))) qss_nil)) (.as (i := 7) ⟨rfl, by decide, .inl (T.g_BadNumber)⟩ rfl rfl (fun _ _ _ _ _ hz hf => qss_never) .nil)) (qss_cons (qs_for hp rfl (qi_enum (qe_v 1) T.n_enumerate) (qg_pair 4 5 rfl hN) (qss_cons (qs_if (qt_not (qt_tru (QE.rd (qe_call f_fits_mark (hr.mono (by decide)) tk (qa_val (qe_fld T.fo_Field_prime (qr_v 0)) (qa_val (qe_v 5) (qa_val (qe_ix ix_p (qr_v 6) (qr_v 4)) qa_nil))))))) (qss_cons (qs_raise T.x_WrongWeight rfl tk (hr.mono (by decide)) (qa_val (qe_v 2) (qa_val (qe_v 4) qa_nil))) qss_nil) qss_nil) (qss_end [4, 5]))) (qss_cons (qs_ret (qe_v 6)) qss_nil)))
theorem w_Weighted_init {f : Addr} {fd : FuncData} {dvs : List V} {kws : List (Str × V)} (T : Tops K mg w base) (f_fitting_row : FnB PW w K mg base "fitting_row" fi_fitting_row [] 6) (f_need_field : FnB PW w K mg base "need_field" fi_need_field [] 3) (m_Table_len : FnM PW w K mg base ["Table"] "__len__" fi_Table_len [] 3) (F : FunD K "__init__" "Weighted.__init__" (defArgs (meth 58 0)) (defBody (meth 58 0)) (defScope (meth 58 0)) dvs kws f fd) : FnOk PW w K mg base (L2.CX PW w) 7 f fd ["self", "field", "table", "rows"] (spOf K fi_Weighted_init) := by
  have S : FnScope ["self", "field", "table", "rows", "row", "numbers"] ["self", "field", "table", "rows"] (defScope (meth 58 0)) := ⟨rfl, rfl, rfl, by decide +kernel, rfl, by decide +kernel, by decide +kernel⟩
  refine fn_rule (P := PW) (w := w) (K := K) (mg := mg) (base := base) (N := ["self", "field", "table", "rows", "row", "numbers"]) (ps := ["self", "field", "table", "rows"]) (k := 6) (ms := [.mu, .val, .val, .val]) (own := false) (g := g_Weighted_init) F S rfl (by decide) fun cdv A outer s H E B hB hr => ?_
  have hN := S.nd
  have tk := takes_cx (P := PW) (w := w) (K := K) (mg := mg) (base := base) (N := ["self", "field", "table", "rows", "row", "numbers"]) (qual := "Weighted.__init__") (scope := defScope (meth 58 0)) (f := f) (cdv := cdv) (A := A) (outer := outer) (s := s) (H := H) (E := E)
  have hp := owns_cx (P := PW) (w := w) (K := K) (mg := mg) (base := base) (N := ["self", "field", "table", "rows", "row", "numbers"]) (qual := "Weighted.__init__") (scope := defScope (meth 58 0)) (f := f) (cdv := cdv) (A := A) (outer := outer) (s := s) (H := H) (E := E)
  exact (qss_cons (qs_expr (qe_call f_need_field (hr.mono (by decide)) tk (qa_val (qe_v 1) qa_nil))) (qss_cons (qs_if (qt_not (qt_tru (QE.rd (qe_isiT (qr_v 3) (pty_cons (pty_cons pty_nil T.n_tuple) T.n_list) T.n_isinstance)))) (qss_cons (qs_raise T.x_BadNumber rfl tk (hr.mono (by decide)) (qa_val (qe_neg qe_int) qa_nil)) qss_nil) qss_nil) (qss_cons (qs_if (qt_cmp (or_ne hr) (QE.rd (qe_bi cr_len (qa_bor (qr_v 3) qa_nil) T.n_len)) (QE.rd (qe_lenM m_Table_len (hr.mono (by decide)) (qr_v 2) T.n_len))) (qss_cons (qs_raise T.x_OtherSize rfl tk (hr.mono (by decide)) (qa_val (qe_lenM m_Table_len (hr.mono (by decide)) (qr_v 2) T.n_len) qa_nil)) qss_nil) qss_nil) (qss_cons (qs_fldM 0 T.fo_Weighted_field (qe_v 1)) (qss_cons (qs_fldM 0 T.fo_Weighted_table (qe_v 2)) (qss_cons (qs_fldM 0 T.fo_Weighted_rows (qe_ty cr_tuple (qa_bor (QE.rd (QO.fz (qo_lc (own := [("row", 4), ("numbers", 5)]) rfl hN (qi_enum (qe_v 3) T.n_enumerate) (show BlkOk ["self", "field", "table", "rows", "row", "numbers"] (defScope (meth 58 0)) _ _ from ⟨rfl, by decide +kernel, by decide +kernel, by decide +kernel, by decide +kernel⟩) (fun _ _ _ _ _ => (qgv_pair 4 5 rfl hN)) (fun _ _ _ _ _ => qts_nil) (fun _ _ _ _ _ => (qe_call f_fitting_row (hr.mono (by decide)) takesW0 (qa_val (qe_v 1) (qa_val (qe_ix ix_p (QE.rd (qe_fld T.fo_Table_lines (qr_v 2))) (qr_v 4)) (qa_val (qe_v 4) (qa_val (qe_v 5) qa_nil))))))))) qa_nil) T.n_tuple)) qss_nil))))))
theorem w_Weighted_dots {f : Addr} {fd : FuncData} {dvs : List V} {kws : List (Str × V)} (T : Tops K mg w base) (f_normal_row : FnB PW w K mg base "normal_row" fi_normal_row [] 5) (f_row_dot : FnB PW w K mg base "row_dot" fi_row_dot [] 5) (F : FunD K "dots" "Weighted.dots" (defArgs (meth 58 1)) (defBody (meth 58 1)) (defScope (meth 58 1)) dvs kws f fd) : FnOk PW w K mg base (L2.CX PW w) 6 f fd ["self", "vector"] (spOf K fi_Weighted_dots) := by
  have S : FnScope ["self", "vector", "normal", "numbers"] ["self", "vector"] (defScope (meth 58 1)) := ⟨rfl, rfl, rfl, by decide +kernel, rfl, by decide +kernel, by decide +kernel⟩
  refine fn_rule (P := PW) (w := w) (K := K) (mg := mg) (base := base) (N := ["self", "vector", "normal", "numbers"]) (ps := ["self", "vector"]) (k := 5) (ms := [.bor, .val]) (own := false) (g := g_Weighted_dots) F S rfl (by decide) fun cdv A outer s H E B hB hr => ?_
  have hN := S.nd
  have tk := takes_cx (P := PW) (w := w) (K := K) (mg := mg) (base := base) (N := ["self", "vector", "normal", "numbers"]) (qual := "Weighted.dots") (scope := defScope (meth 58 1)) (f := f) (cdv := cdv) (A := A) (outer := outer) (s := s) (H := H) (E := E)
  have hp := owns_cx (P := PW) (w := w) (K := K) (mg := mg) (base := base) (N := ["self", "vector", "normal", "numbers"]) (qual := "Weighted.dots") (scope := defScope (meth 58 1)) (f := f) (cdv := cdv) (A := A) (outer := outer) (s := s) (H := H) (E := E)
  exact (qss_cons (qs_set 2 hN (qe_call f_normal_row (hr.mono (by decide)) tk (qa_val (qe_fld T.fo_Field_prime (QE.rd (qe_fld T.fo_Weighted_field (qr_v 0)))) (qa_val (qe_v 1) (qa_val (qe_fld T.fo_Table_columns (QE.rd (qe_fld T.fo_Weighted_table (qr_v 0)))) qa_nil))))) (qss_cons (qs_ret (qe_ty cr_tuple (qa_bor (QE.rd (QO.fz (qo_lc (own := [("numbers", 3)]) rfl hN (qi_seq (qe_fld T.fo_Weighted_rows (qr_v 0))) (show BlkOk ["self", "vector", "normal", "numbers"] (defScope (meth 58 1)) _ _ from ⟨rfl, by decide +kernel, by decide +kernel, by decide +kernel, by decide +kernel⟩) (fun _ _ _ _ _ => (qgv_name 3 hN)) (fun _ _ _ _ _ => qts_nil) (fun _ _ _ _ _ => (qe_call f_row_dot (hr.mono (by decide)) takesW0 (qa_val (qe_fld T.fo_Field_prime (QE.rd (qe_fld T.fo_Weighted_field (qr_v 0)))) (qa_val (qe_v 3) (qa_val (qe_v 2) qa_nil)))))))) qa_nil) T.n_tuple)) qss_nil))
theorem w_Weighted_silent {f : Addr} {fd : FuncData} {dvs : List V} {kws : List (Str × V)} (T : Tops K mg w base) (f_nought_of : FnB PW w K mg base "nought_of" fi_nought_of [] 3) (m_Weighted_dots : FnM PW w K mg base ["Weighted"] "dots" fi_Weighted_dots [] 6) (F : FunD K "silent" "Weighted.silent" (defArgs (meth 58 2)) (defBody (meth 58 2)) (defScope (meth 58 2)) dvs kws f fd) : FnOk PW w K mg base (L2.CX PW w) 7 f fd ["self", "vector"] (spOf K fi_Weighted_silent) := by
  have S : FnScope ["self", "vector"] ["self", "vector"] (defScope (meth 58 2)) := ⟨rfl, rfl, rfl, by decide +kernel, rfl, by decide +kernel, by decide +kernel⟩
  refine fn_rule (P := PW) (w := w) (K := K) (mg := mg) (base := base) (N := ["self", "vector"]) (ps := ["self", "vector"]) (k := 6) (ms := [.bor, .val]) (own := false) (g := g_Weighted_silent) F S rfl (by decide) fun cdv A outer s H E B hB hr => ?_
  have hN := S.nd
  have tk := takes_cx (P := PW) (w := w) (K := K) (mg := mg) (base := base) (N := ["self", "vector"]) (qual := "Weighted.silent") (scope := defScope (meth 58 2)) (f := f) (cdv := cdv) (A := A) (outer := outer) (s := s) (H := H) (E := E)
  have hp := owns_cx (P := PW) (w := w) (K := K) (mg := mg) (base := base) (N := ["self", "vector"]) (qual := "Weighted.silent") (scope := defScope (meth 58 2)) (f := f) (cdv := cdv) (A := A) (outer := outer) (s := s) (H := H) (E := E)
  exact (qss_cons (qs_ret (qe_cmp (or_eq hr) (QE.rd (qe_meth m_Weighted_dots (hr.mono (by decide)) tk (qr_v 0) (qa_val (qe_v 1) qa_nil))) (QE.rd (qe_op or_mulT (QE.rd (qe_tup (qa_val (qe_call f_nought_of (hr.mono (by decide)) tk (qa_val (qe_fld T.fo_Field_prime (QE.rd (qe_fld T.fo_Weighted_field (qr_v 0)))) qa_nil)) qa_nil))) (QE.rd (qe_bi cr_len (qa_bor (QE.rd (qe_fld T.fo_Weighted_rows (qr_v 0))) qa_nil) T.n_len)))))) qss_nil)
theorem w_marked_within {f : Addr} {fd : FuncData} {dvs : List V} {kws : List (Str × V)} (T : Tops K mg w base)  (F : FunD K "marked_within" "marked_within" (defArgs (top 60)) (defBody (top 60)) (defScope (top 60)) dvs kws f fd) : FnOk PW w K mg base (L2.CX PW w) 3 f fd ["line", "mark", "inside"] (spOf K fi_marked_within) := by
  have S : FnScope ["line", "mark", "inside", "column"] ["line", "mark", "inside"] (defScope (top 60)) := ⟨rfl, rfl, rfl, by decide +kernel, rfl, by decide +kernel, by decide +kernel⟩
  refine fn_rule (P := PW) (w := w) (K := K) (mg := mg) (base := base) (N := ["line", "mark", "inside", "column"]) (ps := ["line", "mark", "inside"]) (k := 2) (ms := [.val, .val, .bor]) (own := false) (g := g_marked_within) F S rfl (by decide) fun cdv A outer s H E B hB hr => ?_
  have hN := S.nd
  have tk := takes_cx (P := PW) (w := w) (K := K) (mg := mg) (base := base) (N := ["line", "mark", "inside", "column"]) (qual := "marked_within") (scope := defScope (top 60)) (f := f) (cdv := cdv) (A := A) (outer := outer) (s := s) (H := H) (E := E)
  have hp := owns_cx (P := PW) (w := w) (K := K) (mg := mg) (base := base) (N := ["line", "mark", "inside", "column"]) (qual := "marked_within") (scope := defScope (top 60)) (f := f) (cdv := cdv) (A := A) (outer := outer) (s := s) (H := H) (E := E)
  exact (qss_cons (qs_ret (QO.fz (qo_lc (own := [("column", 3)]) rfl hN (qi_range1 (qa_val (qe_bi cr_len (qa_bor (qr_v 0) qa_nil) T.n_len) qa_nil) T.n_range) (show BlkOk ["line", "mark", "inside", "column"] (defScope (top 60)) _ _ from ⟨rfl, by decide +kernel, by decide +kernel, by decide +kernel, by decide +kernel⟩) (fun _ _ _ _ _ => (qgv_name 3 hN)) (fun _ _ _ _ _ => (qts_one (QW.qt (qw_and (qt_cmp (or_eq hr) (QE.rd (qe_ix ix_p (qr_v 0) (qr_v 3))) (qr_v 1)) (qw_and1 (qt_tru (QE.rd (qe_ix ix_p (qr_v 2) (qr_v 3))))))))) (fun _ _ _ _ _ => (qe_v 3))))) qss_nil)
theorem w_small_parts {f : Addr} {fd : FuncData} {dvs : List V} {kws : List (Str × V)} (T : Tops K mg w base)  (F : FunD K "small_parts" "small_parts" (defArgs (top 61)) (defBody (top 61)) (defScope (top 61)) dvs kws f fd) : FnOk PW w K mg base (L2.CX PW w) 3 f fd ["many", "total"] (spOf K fi_small_parts) := by
  have S : FnScope ["many", "total", "found"] ["many", "total"] (defScope (top 61)) := ⟨rfl, rfl, rfl, by decide +kernel, rfl, by decide +kernel, by decide +kernel⟩
  refine fn_rule (P := PW) (w := w) (K := K) (mg := mg) (base := base) (N := ["many", "total", "found"]) (ps := ["many", "total"]) (k := 2) (ms := [.val, .val]) (own := false) (g := g_small_parts) F S rfl (by decide) fun cdv A outer s H E B hB hr => ?_
  have hN := S.nd
  have tk := takes_cx (P := PW) (w := w) (K := K) (mg := mg) (base := base) (N := ["many", "total", "found"]) (qual := "small_parts") (scope := defScope (top 61)) (f := f) (cdv := cdv) (A := A) (outer := outer) (s := s) (H := H) (E := E)
  have hp := owns_cx (P := PW) (w := w) (K := K) (mg := mg) (base := base) (N := ["many", "total", "found"]) (qual := "small_parts") (scope := defScope (top 61)) (f := f) (cdv := cdv) (A := A) (outer := outer) (s := s) (H := H) (E := E)
  exact (qss_cons (qs_set 2 hN (QO.fz (qo_lst qa_nil))) (qss_cons (qs_if (qt_cmp (or_ne hr) (QE.rd (qe_op or_mod (qr_v 0) (QE.rd qe_int))) (qr_v 1)) (qss_cons (qs_set 2 hN (qe_ife (qt_cmp (or_eq hr) (qr_v 1) (QE.rd qe_int)) (QO.fz (qo_lst (qa_val qe_int (qa_val (qe_neg qe_int) qa_nil)))) (QO.fz (qo_lst (qa_val qe_int (qa_val qe_int (qa_val (qe_neg qe_int) qa_nil))))))) qss_nil) (qss_cons (qs_if (qt_cmp (or_eq hr) (qr_v 1) (QE.rd qe_int)) (qss_cons (qs_set 2 hN (QO.fz (qo_lst (qa_val qe_int qa_nil)))) qss_nil) qss_nil) qss_nil)) (qss_cons (qs_while 100 hp (qt_cmp or_lt (QE.rd (qe_bi cr_len (qa_bor (qr_v 2) qa_nil) T.n_len)) (qr_v 0)) (qss_cons (qs_set 2 hN (QO.fz (qo_op oro_add (qr_v 2) (QE.rd (QO.fz (qo_lst (qa_val qe_int (qa_val (qe_neg qe_int) qa_nil)))))))) qss_nil)) (qss_cons (qs_ret (qe_v 2)) qss_nil))))
theorem w_small_row {f : Addr} {fd : FuncData} {dvs : List V} {kws : List (Str × V)} (T : Tops K mg w base) (f_marked_within : FnB PW w K mg base "marked_within" fi_marked_within [] 3) (f_small_parts : FnB PW w K mg base "small_parts" fi_small_parts [] 3) (F : FunD K "small_row" "small_row" (defArgs (top 62)) (defBody (top 62)) (defScope (top 62)) dvs kws f fd) : FnOk PW w K mg base (L2.CX PW w) 4 f fd ["line", "inside"] (spOf K fi_small_row) := by
  have S : FnScope ["line", "inside", "plain", "weights", "loose", "told", "firm", "mark", "column", "part"] ["line", "inside"] (defScope (top 62)) := ⟨rfl, rfl, rfl, by decide +kernel, rfl, by decide +kernel, by decide +kernel⟩
  refine fn_rule (P := PW) (w := w) (K := K) (mg := mg) (base := base) (N := ["line", "inside", "plain", "weights", "loose", "told", "firm", "mark", "column", "part"]) (ps := ["line", "inside"]) (k := 3) (ms := [.val, .val]) (own := false) (g := g_small_row) F S rfl (by decide) fun cdv A outer s H E B hB hr => ?_
  have hN := S.nd
  have tk := takes_cx (P := PW) (w := w) (K := K) (mg := mg) (base := base) (N := ["line", "inside", "plain", "weights", "loose", "told", "firm", "mark", "column", "part"]) (qual := "small_row") (scope := defScope (top 62)) (f := f) (cdv := cdv) (A := A) (outer := outer) (s := s) (H := H) (E := E)
  have hp := owns_cx (P := PW) (w := w) (K := K) (mg := mg) (base := base) (N := ["line", "inside", "plain", "weights", "loose", "told", "firm", "mark", "column", "part"]) (qual := "small_row") (scope := defScope (top 62)) (f := f) (cdv := cdv) (A := A) (outer := outer) (s := s) (H := H) (E := E)
  exact (qss_cons (qs_set 2 hN (QO.fz (qo_dctC [(".", 0), ("f", 1), ("l", 0), ("t", -1)] (pps_cons (pe_gstr T.c_NONE) pe_int (pps_cons (pe_gstr T.c_FIRM) pe_int (pps_cons (pe_gstr T.c_LOOSE) pe_int (pps_cons (pe_gstr T.c_TOLD) pe_negC pps_nil)))) rfl))) (qss_cons (qs_setLc 3 (own := [("mark", 7)]) rfl hN (qi_seq (qe_v 0)) (show BlkOk ["line", "inside", "plain", "weights", "loose", "told", "firm", "mark", "column", "part"] (defScope (top 62)) _ _ from ⟨rfl, by decide +kernel, by decide +kernel, by decide +kernel, by decide +kernel⟩) (fun _ _ _ _ _ => (qgv_name 7 hN)) (fun _ _ _ _ _ => qts_nil) (fun _ _ _ _ _ => (qe_dget hr (qr_v 2) (qr_v 7)))) (qss_cons (qs_set 4 hN (qe_call f_marked_within (hr.mono (by decide)) tk (qa_val (qe_v 0) (qa_val (qe_gstr T.c_LOOSE) (qa_bor (qr_v 1) qa_nil))))) (qss_cons (qs_set 5 hN (qe_call f_marked_within (hr.mono (by decide)) tk (qa_val (qe_v 0) (qa_val (qe_gstr T.c_TOLD) (qa_bor (qr_v 1) qa_nil))))) (qss_cons (qs_set 6 hN (qe_call f_marked_within (hr.mono (by decide)) tk (qa_val (qe_v 0) (qa_val (qe_gstr T.c_FIRM) (qa_bor (qr_v 1) qa_nil))))) (qss_cons (qs_if (QW.qt (qw_and (qt_tru (qr_v 4)) (qw_and1 (qt_cmp (or_eq hr) (QE.rd (qe_op or_add (QE.rd (qe_bi cr_len (qa_bor (qr_v 5) qa_nil) T.n_len)) (QE.rd (qe_bi cr_len (qa_bor (qr_v 6) qa_nil) T.n_len)))) (QE.rd qe_int))))) (qss_cons (qs_setIx 3 (qe_ife (qt_tru (qr_v 5)) qe_int (qe_neg qe_int)) (qe_ix ix_p (qr_v 4) (QE.rd qe_int))) qss_nil) (qss_cons (qs_if (qt_tru (qr_v 6)) (qss_cons (qs_for hp rfl (qi_zip (qa_val (qe_v 6) (qa_val (qe_call f_small_parts (hr.mono (by decide)) tk (qa_val (qe_bi cr_len (qa_bor (qr_v 6) qa_nil) T.n_len) (qa_val (qe_bi cr_len (qa_bor (qr_v 5) qa_nil) T.n_len) qa_nil))) qa_nil)) T.n_zip) (qg_pair 8 9 rfl hN) (qss_cons (qs_setIx 3 (qe_v 9) (qe_v 8)) (qss_end [8, 9]))) qss_nil) qss_nil) qss_nil)) (qss_cons (qs_ret (qe_ty cr_tuple (qa_bor (qr_v 3) qa_nil) T.n_tuple)) qss_nil)))))))
theorem w_small_weights {f : Addr} {fd : FuncData} {dvs : List V} {kws : List (Str × V)} (T : Tops K mg w base) (f_broken_at : FnB PW w K mg base "broken_at" fi_broken_at [] 6) (f_flags_of : FnB PW w K mg base "flags_of" fi_flags_of [] 3) (f_lot_of : FnB PW w K mg base "lot_of" fi_lot_of [] 4) (f_small_row : FnB PW w K mg base "small_row" fi_small_row [] 4) (F : FunD K "small_weights" "small_weights" (defArgs (top 63)) (defBody (top 63)) (defScope (top 63)) dvs kws f fd) : FnOk PW w K mg base (L2.CX PW w) 7 f fd ["table", "lot"] (spOf K fi_small_weights) := by
  have S : FnScope ["table", "lot", "kept", "row", "inside", "line"] ["table", "lot"] (defScope (top 63)) := ⟨rfl, rfl, rfl, by decide +kernel, rfl, by decide +kernel, by decide +kernel⟩
  refine fn_rule (P := PW) (w := w) (K := K) (mg := mg) (base := base) (N := ["table", "lot", "kept", "row", "inside", "line"]) (ps := ["table", "lot"]) (k := 6) (ms := [.val, .val]) (own := false) (g := g_small_weights) F S rfl (by decide) fun cdv A outer s H E B hB hr => ?_
  have hN := S.nd
  have tk := takes_cx (P := PW) (w := w) (K := K) (mg := mg) (base := base) (N := ["table", "lot", "kept", "row", "inside", "line"]) (qual := "small_weights") (scope := defScope (top 63)) (f := f) (cdv := cdv) (A := A) (outer := outer) (s := s) (H := H) (E := E)
  have hp := owns_cx (P := PW) (w := w) (K := K) (mg := mg) (base := base) (N := ["table", "lot", "kept", "row", "inside", "line"]) (qual := "small_weights") (scope := defScope (top 63)) (f := f) (cdv := cdv) (A := A) (outer := outer) (s := s) (H := H) (E := E)
  exact (qss_cons (qs_set 2 hN (qe_call f_lot_of (hr.mono (by decide)) tk (qa_val (qe_v 1) (qa_val (qe_fld T.fo_Table_columns (qr_v 0)) qa_nil)))) (qss_cons (qs_set 3 hN (qe_call f_broken_at (hr.mono (by decide)) tk (qa_val (qe_v 0) (qa_val (qe_v 2) qa_nil)))) (qss_cons (qs_if (qt_cmp or_isn (qr_v 3) (QE.rd qe_non)) (qss_cons (qs_raise T.x_NotFort rfl tk (hr.mono (by decide)) (qa_val (qe_v 3) qa_nil)) qss_nil) qss_nil) (qss_cons (qs_set 4 hN (qe_call f_flags_of (hr.mono (by decide)) tk (qa_val (qe_v 2) (qa_val (qe_fld T.fo_Table_columns (qr_v 0)) qa_nil)))) (qss_cons (qs_ret (qe_ty cr_tuple (qa_bor (QE.rd (QO.fz (qo_lc (own := [("line", 5)]) rfl hN (qi_seq (qe_fld T.fo_Table_lines (qr_v 0))) (show BlkOk ["table", "lot", "kept", "row", "inside", "line"] (defScope (top 63)) _ _ from ⟨rfl, by decide +kernel, by decide +kernel, by decide +kernel, by decide +kernel⟩) (fun _ _ _ _ _ => (qgv_name 5 hN)) (fun _ _ _ _ _ => qts_nil) (fun _ _ _ _ _ => (qe_call f_small_row (hr.mono (by decide)) takesW0 (qa_val (qe_v 5) (qa_val (qe_v 4) qa_nil))))))) qa_nil) T.n_tuple)) qss_nil)))))
theorem w__law_next {f : Addr} {fd : FuncData} {dvs : List V} {kws : List (Str × V)} (T : Tops K mg w base)  (F : FunD K "_law_next" "_law_next" (defArgs (top 66)) (defBody (top 66)) (defScope (top 66)) dvs kws f fd) : FnOk PW w K mg base (L2.CX PW w) 3 f fd ["stream", "many"] (spOf K fi__law_next) := by
  have S : FnScope ["stream", "many", "numbers", "at"] ["stream", "many"] (defScope (top 66)) := ⟨rfl, rfl, rfl, by decide +kernel, rfl, by decide +kernel, by decide +kernel⟩
  refine fn_rule (P := PW) (w := w) (K := K) (mg := mg) (base := base) (N := ["stream", "many", "numbers", "at"]) (ps := ["stream", "many"]) (k := 2) (ms := [.mu, .val]) (own := false) (g := g__law_next) F S rfl (by decide) fun cdv A outer s H E B hB hr => ?_
  have hN := S.nd
  have tk := takes_cx (P := PW) (w := w) (K := K) (mg := mg) (base := base) (N := ["stream", "many", "numbers", "at"]) (qual := "_law_next") (scope := defScope (top 66)) (f := f) (cdv := cdv) (A := A) (outer := outer) (s := s) (H := H) (E := E)
  have hp := owns_cx (P := PW) (w := w) (K := K) (mg := mg) (base := base) (N := ["stream", "many", "numbers", "at"]) (qual := "_law_next") (scope := defScope (top 66)) (f := f) (cdv := cdv) (A := A) (outer := outer) (s := s) (H := H) (E := E)
  exact (qss_cons (qs_set 2 hN (qe_ixM 0 0)) (qss_cons (qs_set 3 hN (qe_ixM 0 1)) (qss_cons (qs_setIxM 0 1 (qe_op or_add (qr_v 3) (QE.rd qe_int))) (qss_cons (qs_if (qt_cmp or_ge (qr_v 3) (QE.rd (qe_bi cr_len (qa_bor (qr_v 2) qa_nil) T.n_len))) (qss_cons (qs_ret qe_int) qss_nil) qss_nil) (qss_cons (qs_ret (qe_op or_mod (QE.rd (qe_ty cr_int (qa_bor (QE.rd (qe_ix ix_p (qr_v 2) (qr_v 3))) qa_nil) T.n_int)) (qr_v 1))) qss_nil)))))
theorem w__law_stream {f : Addr} {fd : FuncData} {dvs : List V} {kws : List (Str × V)} (T : Tops K mg w base)  (F : FunD K "_law_stream" "_law_stream" (defArgs (top 65)) (defBody (top 65)) (defScope (top 65)) dvs kws f fd) : FnOk PW w K mg base (L2.CX PW w) 3 f fd ["script"] (spOf K fi__law_stream) := by
  have S : FnScope ["script", "numbers", "place", "cell", "size", "turn", "mixed"] ["script"] (defScope (top 65)) := ⟨rfl, rfl, rfl, by decide +kernel, rfl, by decide +kernel, by decide +kernel⟩
  refine fn_rule (P := PW) (w := w) (K := K) (mg := mg) (base := base) (N := ["script", "numbers", "place", "cell", "size", "turn", "mixed"]) (ps := ["script"]) (k := 2) (ms := [.val]) (own := true) (g := g__law_stream) F S rfl (by decide) fun cdv A outer s H E B hB hr => ?_
  have hN := S.nd
  have tk := takes_cx (P := PW) (w := w) (K := K) (mg := mg) (base := base) (N := ["script", "numbers", "place", "cell", "size", "turn", "mixed"]) (qual := "_law_stream") (scope := defScope (top 65)) (f := f) (cdv := cdv) (A := A) (outer := outer) (s := s) (H := H) (E := E)
  have hp := owns_cx (P := PW) (w := w) (K := K) (mg := mg) (base := base) (N := ["script", "numbers", "place", "cell", "size", "turn", "mixed"]) (qual := "_law_stream") (scope := defScope (top 65)) (f := f) (cdv := cdv) (A := A) (outer := outer) (s := s) (H := H) (E := E)
  exact (qss_cons (qs_setO 1 hN (qo_lst qa_nil)) (qss_cons (qs_for hp rfl (qi_range1 (qa_val (qe_bi (cr_min2 rfl) (qa_bor (QE.rd qe_int) (qa_bor (QE.rd (qe_bi cr_len (qa_bor (qr_v 0) qa_nil) T.n_len)) qa_nil)) T.n_min) qa_nil) T.n_range) (qg_name 2 hN) (qss_cons (qs_set 3 hN (qe_ty cr_int (qa_bor (QE.rd (qe_ix ix_p (qr_v 0) (qr_v 2))) qa_nil) T.n_int)) (qss_cons (qs_set 4 hN (qe_op or_mul (QE.rd qe_int) (qr_v 3))) (qss_cons (qs_if (qt_cmp or_lt (qr_v 3) (QE.rd qe_int)) (qss_cons (qs_set 4 hN (qe_op or_sub (QE.rd qe_int) (QE.rd (qe_op or_mul (QE.rd qe_int) (qr_v 3))))) qss_nil) qss_nil) (qss_cons (qs_if (qt_cmp or_ge (qr_v 4) (QE.rd (qe_op or_pow (QE.rd qe_int) (QE.rd qe_int)))) (qss_cons (qs_for hp rfl (qi_range1 (qa_val qe_int qa_nil) T.n_range) (qg_name 5 hN) (qss_cons (qs_if (qt_cmp or_gt (qr_v 4) (QE.rd qe_int)) (qss_cons (qs_app 1 (qe_op or_mod (QE.rd (qe_ty cr_int (qa_bor (qr_v 4) qa_nil) T.n_int)) (QE.rd qe_int))) (qss_cons (qs_set 4 hN (qe_op or_fdiv (qr_v 4) (QE.rd qe_int))) qss_nil)) qss_nil) (qss_end [5]))) qss_nil) (qss_cons (qs_set 6 hN (qe_op or_mod (QE.rd (qe_ty cr_int (qa_bor (QE.rd (qe_op or_add (QE.rd (qe_op or_add (QE.rd (qe_op or_mul (qr_v 4) (QE.rd qe_int))) (QE.rd (qe_op or_mul (qr_v 2) (QE.rd qe_int))))) (QE.rd qe_int))) qa_nil) T.n_int)) (QE.rd qe_int))) (qss_cons (qs_for hp rfl (qi_range1 (qa_val qe_int qa_nil) T.n_range) (qg_name 5 hN) (qss_cons (qs_set 6 hN (qe_op or_mod (QE.rd (qe_ty cr_int (qa_bor (QE.rd (qe_op or_add (QE.rd (qe_op or_add (QE.rd (qe_op or_add (QE.rd (qe_op or_mul (qr_v 6) (qr_v 6))) (QE.rd (qe_op or_mul (qr_v 4) (QE.rd qe_int))))) (QE.rd (qe_op or_mul (qr_v 5) (QE.rd qe_int))))) (qr_v 2))) qa_nil) T.n_int)) (QE.rd qe_int))) (qss_cons (qs_app 1 (qe_op or_fdiv (qr_v 6) (QE.rd qe_int))) (qss_end [5])))) qss_nil))) (qss_end [2, 3, 4, 5, 6])))))) (qss_frz 1 (qss_cons (qs_retO (qo_lst (qa_val (qe_v 1) (qa_val qe_int qa_nil)))) qss_nil))))
theorem w__law_lines {f : Addr} {fd : FuncData} {dvs : List V} {kws : List (Str × V)} (T : Tops K mg w base) (f__law_next : FnB PW w K mg base "_law_next" fi__law_next [] 3) (F : FunD K "_law_lines" "_law_lines" (defArgs (top 67)) (defBody (top 67)) (defScope (top 67)) dvs kws f fd) : FnOk PW w K mg base (L2.CX PW w) 4 f fd ["stream", "rows", "columns", "loose"] (spOf K fi__law_lines) := by
  have S : FnScope ["stream", "rows", "columns", "loose", "menu", "shift", "lines", "row", "line", "column"] ["stream", "rows", "columns", "loose"] (defScope (top 67)) := ⟨rfl, rfl, rfl, by decide +kernel, rfl, by decide +kernel, by decide +kernel⟩
  refine fn_rule (P := PW) (w := w) (K := K) (mg := mg) (base := base) (N := ["stream", "rows", "columns", "loose", "menu", "shift", "lines", "row", "line", "column"]) (ps := ["stream", "rows", "columns", "loose"]) (k := 3) (ms := [.mu, .val, .val, .val]) (own := false) (g := g__law_lines) F S rfl (by decide) fun cdv A outer s H E B hB hr => ?_
  have hN := S.nd
  have tk := takes_cx (P := PW) (w := w) (K := K) (mg := mg) (base := base) (N := ["stream", "rows", "columns", "loose", "menu", "shift", "lines", "row", "line", "column"]) (qual := "_law_lines") (scope := defScope (top 67)) (f := f) (cdv := cdv) (A := A) (outer := outer) (s := s) (H := H) (E := E)
  have hp := owns_cx (P := PW) (w := w) (K := K) (mg := mg) (base := base) (N := ["stream", "rows", "columns", "loose", "menu", "shift", "lines", "row", "line", "column"]) (qual := "_law_lines") (scope := defScope (top 67)) (f := f) (cdv := cdv) (A := A) (outer := outer) (s := s) (H := H) (E := E)
  exact (qss_cons (qs_set 4 hN qe_str) (qss_cons (qs_if (qt_tru (qr_v 3)) (qss_cons (qs_set 4 hN qe_str) qss_nil) qss_nil) (qss_cons (qs_set 5 hN (qe_call f__law_next (hr.mono (by decide)) tk (qa_mu 0 (qa_val qe_int qa_nil)))) (qss_cons (qs_setO 6 hN (qo_lst qa_nil)) (qss_cons (qs_for hp rfl (qi_range1 (qa_val (qe_v 1) qa_nil) T.n_range) (qg_name 7 hN) (qss_cons (qs_set 8 hN qe_str) (qss_cons (qs_for hp rfl (qi_range1 (qa_val (qe_v 2) qa_nil) T.n_range) (qg_name 9 hN) (qss_cons (qs_set 8 hN (qe_op or_add (qr_v 8) (QE.rd (qe_ix ix_p (qr_v 4) (QE.rd (qe_op or_mod (QE.rd (qe_ty cr_int (qa_bor (QE.rd (qe_op or_add (QE.rd (qe_op or_add (QE.rd (qe_op or_add (QE.rd (qe_call f__law_next (hr.mono (by decide)) tk (qa_mu 0 (qa_val qe_int qa_nil)))) (QE.rd (qe_op or_mul (QE.rd qe_int) (qr_v 7))))) (QE.rd (qe_op or_mul (qr_v 9) (qr_v 9))))) (qr_v 5))) qa_nil) T.n_int)) (QE.rd qe_int))))))) (qss_end [9]))) (qss_cons (qs_app 6 (qe_v 8)) (qss_end [7, 8, 9]))))) (qss_frz 6 (qss_cons (qs_ret (qe_v 6)) qss_nil)))))))
theorem w__law_told_line {f : Addr} {fd : FuncData} {dvs : List V} {kws : List (Str × V)} (T : Tops K mg w base) (f__law_next : FnB PW w K mg base "_law_next" fi__law_next [] 3) (F : FunD K "_law_told_line" "_law_told_line" (defArgs (top 68)) (defBody (top 68)) (defScope (top 68)) dvs kws f fd) : FnOk PW w K mg base (L2.CX PW w) 4 f fd ["stream", "line"] (spOf K fi__law_told_line) := by
  have S : FnScope ["stream", "line", "at"] ["stream", "line"] (defScope (top 68)) := ⟨rfl, rfl, rfl, by decide +kernel, rfl, by decide +kernel, by decide +kernel⟩
  refine fn_rule (P := PW) (w := w) (K := K) (mg := mg) (base := base) (N := ["stream", "line", "at"]) (ps := ["stream", "line"]) (k := 3) (ms := [.mu, .val]) (own := false) (g := g__law_told_line) F S rfl (by decide) fun cdv A outer s H E B hB hr => ?_
  have hN := S.nd
  have tk := takes_cx (P := PW) (w := w) (K := K) (mg := mg) (base := base) (N := ["stream", "line", "at"]) (qual := "_law_told_line") (scope := defScope (top 68)) (f := f) (cdv := cdv) (A := A) (outer := outer) (s := s) (H := H) (E := E)
  have hp := owns_cx (P := PW) (w := w) (K := K) (mg := mg) (base := base) (N := ["stream", "line", "at"]) (qual := "_law_told_line") (scope := defScope (top 68)) (f := f) (cdv := cdv) (A := A) (outer := outer) (s := s) (H := H) (E := E)
  exact (qss_cons (qs_if (QW.qt (qw_or (qt_cmp (or_eq hr) (QE.rd (qe_bi cr_len (qa_bor (qr_v 1) qa_nil) T.n_len)) (QE.rd qe_int)) (qw_or1 (qt_cmp or_gt (QE.rd (qe_call f__law_next (hr.mono (by decide)) tk (qa_mu 0 (qa_val qe_int qa_nil)))) (QE.rd qe_int))))) (qss_cons (qs_ret (qe_v 1)) qss_nil) qss_nil) (qss_cons (qs_set 2 hN (qe_call f__law_next (hr.mono (by decide)) tk (qa_mu 0 (qa_val (qe_bi (cr_min2 rfl) (qa_bor (QE.rd qe_int) (qa_bor (QE.rd (qe_bi cr_len (qa_bor (qr_v 1) qa_nil) T.n_len)) qa_nil)) T.n_min) qa_nil)))) (qss_cons (qs_ret (qe_op or_add (QE.rd (qe_op or_add (QE.rd (qe_sliceS (qr_v 1) qp_none (qp_some (qe_v 2)))) (QE.rd qe_str))) (QE.rd (qe_sliceS (qr_v 1) (qp_some (qe_op or_add (qr_v 2) (QE.rd qe_int))) qp_none)))) qss_nil)))
theorem w__law_lot {f : Addr} {fd : FuncData} {dvs : List V} {kws : List (Str × V)} (T : Tops K mg w base) (f__law_next : FnB PW w K mg base "_law_next" fi__law_next [] 3) (F : FunD K "_law_lot" "_law_lot" (defArgs (top 69)) (defBody (top 69)) (defScope (top 69)) dvs kws f fd) : FnOk PW w K mg base (L2.CX PW w) 4 f fd ["stream", "size"] (spOf K fi__law_lot) := by
  have S : FnScope ["stream", "size", "place"] ["stream", "size"] (defScope (top 69)) := ⟨rfl, rfl, rfl, by decide +kernel, rfl, by decide +kernel, by decide +kernel⟩
  refine fn_rule (P := PW) (w := w) (K := K) (mg := mg) (base := base) (N := ["stream", "size", "place"]) (ps := ["stream", "size"]) (k := 3) (ms := [.mu, .val]) (own := false) (g := g__law_lot) F S rfl (by decide) fun cdv A outer s H E B hB hr => ?_
  have hN := S.nd
  have tk := takes_cx (P := PW) (w := w) (K := K) (mg := mg) (base := base) (N := ["stream", "size", "place"]) (qual := "_law_lot") (scope := defScope (top 69)) (f := f) (cdv := cdv) (A := A) (outer := outer) (s := s) (H := H) (E := E)
  have hp := owns_cx (P := PW) (w := w) (K := K) (mg := mg) (base := base) (N := ["stream", "size", "place"]) (qual := "_law_lot") (scope := defScope (top 69)) (f := f) (cdv := cdv) (A := A) (outer := outer) (s := s) (H := H) (E := E)
  exact (qss_cons (qs_ret (QO.fz (qo_lc (own := [("place", 2)]) rfl hN (qi_range1 (qa_val (qe_v 1) qa_nil) T.n_range) (show BlkOk ["stream", "size", "place"] (defScope (top 69)) _ _ from ⟨rfl, by decide +kernel, by decide +kernel, by decide +kernel, by decide +kernel⟩) (fun _ _ _ _ _ => (qgv_name 2 hN)) (fun _ _ _ _ _ => (qts_one (qt_cmp (or_eq hr) (QE.rd (qe_call f__law_next (hr.mono (by decide)) takesW0 (qa_mu 0 (qa_val qe_int qa_nil)))) (QE.rd qe_int)))) (fun _ _ _ _ _ => (qe_v 2))))) qss_nil)
theorem w__law_lone {f : Addr} {fd : FuncData} {dvs : List V} {kws : List (Str × V)} (T : Tops K mg w base)  (F : FunD K "_law_lone" "_law_lone" (defArgs (top 70)) (defBody (top 70)) (defScope (top 70)) dvs kws f fd) : FnOk PW w K mg base (L2.CX PW w) 3 f fd ["line", "lot"] (spOf K fi__law_lone) := by
  have S : FnScope ["line", "lot", "hard", "loose", "place"] ["line", "lot"] (defScope (top 70)) := ⟨rfl, rfl, rfl, by decide +kernel, rfl, by decide +kernel, by decide +kernel⟩
  refine fn_rule (P := PW) (w := w) (K := K) (mg := mg) (base := base) (N := ["line", "lot", "hard", "loose", "place"]) (ps := ["line", "lot"]) (k := 2) (ms := [.val, .val]) (own := false) (g := g__law_lone) F S rfl (by decide) fun cdv A outer s H E B hB hr => ?_
  have hN := S.nd
  have tk := takes_cx (P := PW) (w := w) (K := K) (mg := mg) (base := base) (N := ["line", "lot", "hard", "loose", "place"]) (qual := "_law_lone") (scope := defScope (top 70)) (f := f) (cdv := cdv) (A := A) (outer := outer) (s := s) (H := H) (E := E)
  have hp := owns_cx (P := PW) (w := w) (K := K) (mg := mg) (base := base) (N := ["line", "lot", "hard", "loose", "place"]) (qual := "_law_lone") (scope := defScope (top 70)) (f := f) (cdv := cdv) (A := A) (outer := outer) (s := s) (H := H) (E := E)
  exact (qss_cons (qs_setLc 2 (own := [("place", 4)]) rfl hN (qi_seq (qe_v 1)) (show BlkOk ["line", "lot", "hard", "loose", "place"] (defScope (top 70)) _ _ from ⟨rfl, by decide +kernel, by decide +kernel, by decide +kernel, by decide +kernel⟩) (fun _ _ _ _ _ => (qgv_name 4 hN)) (fun _ _ _ _ _ => (qts_one (qt_cmp (or_in hr) (QE.rd (qe_ix ix_p (qr_v 0) (qr_v 4))) (QE.rd qe_str)))) (fun _ _ _ _ _ => (qe_v 4))) (qss_cons (qs_setLc 3 (own := [("place", 4)]) rfl hN (qi_seq (qe_v 1)) (show BlkOk ["line", "lot", "hard", "loose", "place"] (defScope (top 70)) _ _ from ⟨rfl, by decide +kernel, by decide +kernel, by decide +kernel, by decide +kernel⟩) (fun _ _ _ _ _ => (qgv_name 4 hN)) (fun _ _ _ _ _ => (qts_one (qt_cmp (or_eq hr) (QE.rd (qe_ix ix_p (qr_v 0) (qr_v 4))) (QE.rd qe_str)))) (fun _ _ _ _ _ => (qe_v 4))) (qss_cons (qs_if (QW.qt (qw_and (qt_cmp (or_eq hr) (QE.rd (qe_bi cr_len (qa_bor (qr_v 2) qa_nil) T.n_len)) (QE.rd qe_int)) (qw_and1 (qt_cmp (or_eq hr) (QE.rd (qe_bi cr_len (qa_bor (qr_v 3) qa_nil) T.n_len)) (QE.rd qe_int))))) (qss_cons (qs_ret (qe_ix ix_p (qr_v 2) (QE.rd qe_int))) qss_nil) qss_nil) (qss_cons (qs_ret qe_non) qss_nil))))
theorem w__law_marks {f : Addr} {fd : FuncData} {dvs : List V} {kws : List (Str × V)} (T : Tops K mg w base) (f__law_lines : FnB PW w K mg base "_law_lines" fi__law_lines [] 4) (f__law_next : FnB PW w K mg base "_law_next" fi__law_next [] 3) (f__law_told_line : FnB PW w K mg base "_law_told_line" fi__law_told_line [] 4) (F : FunD K "_law_marks" "_law_marks" (defArgs (top 71)) (defBody (top 71)) (defScope (top 71)) dvs kws f fd) : FnOk PW w K mg base (L2.CX PW w) 5 f fd ["stream", "rows", "columns"] (spOf K fi__law_marks) := by
  have S : FnScope ["stream", "rows", "columns", "lines", "line"] ["stream", "rows", "columns"] (defScope (top 71)) := ⟨rfl, rfl, rfl, by decide +kernel, rfl, by decide +kernel, by decide +kernel⟩
  refine fn_rule (P := PW) (w := w) (K := K) (mg := mg) (base := base) (N := ["stream", "rows", "columns", "lines", "line"]) (ps := ["stream", "rows", "columns"]) (k := 4) (ms := [.mu, .val, .val]) (own := false) (g := g__law_marks) F S rfl (by decide) fun cdv A outer s H E B hB hr => ?_
  have hN := S.nd
  have tk := takes_cx (P := PW) (w := w) (K := K) (mg := mg) (base := base) (N := ["stream", "rows", "columns", "lines", "line"]) (qual := "_law_marks") (scope := defScope (top 71)) (f := f) (cdv := cdv) (A := A) (outer := outer) (s := s) (H := H) (E := E)
  have hp := owns_cx (P := PW) (w := w) (K := K) (mg := mg) (base := base) (N := ["stream", "rows", "columns", "lines", "line"]) (qual := "_law_marks") (scope := defScope (top 71)) (f := f) (cdv := cdv) (A := A) (outer := outer) (s := s) (H := H) (E := E)
  exact (qss_cons (qs_set 3 hN (qe_call f__law_lines (hr.mono (by decide)) tk (qa_mu 0 (qa_val (qe_v 1) (qa_val (qe_v 2) (qa_val (qe_cmp (or_eq hr) (QE.rd (qe_call f__law_next (hr.mono (by decide)) tk (qa_mu 0 (qa_val qe_int qa_nil)))) (QE.rd qe_int)) qa_nil)))))) (qss_cons (qs_ret (QO.fz (qo_lc (own := [("line", 4)]) rfl hN (qi_seq (qe_v 3)) (show BlkOk ["stream", "rows", "columns", "lines", "line"] (defScope (top 71)) _ _ from ⟨rfl, by decide +kernel, by decide +kernel, by decide +kernel, by decide +kernel⟩) (fun _ _ _ _ _ => (qgv_name 4 hN)) (fun _ _ _ _ _ => qts_nil) (fun _ _ _ _ _ => (qe_call f__law_told_line (hr.mono (by decide)) takesW0 (qa_mu 0 (qa_val (qe_v 4) qa_nil))))))) qss_nil))
theorem w__law_white_without {f : Addr} {fd : FuncData} {dvs : List V} {kws : List (Str × V)} (T : Tops K mg w base) (f__law_lone : FnB PW w K mg base "_law_lone" fi__law_lone [] 3) (F : FunD K "_law_white_without" "_law_white_without" (defArgs (top 72)) (defBody (top 72)) (defScope (top 72)) dvs kws f fd) : FnOk PW w K mg base (L2.CX PW w) 4 f fd ["lines", "columns", "outside"] (spOf K fi__law_white_without) := by
  have S : FnScope ["lines", "columns", "outside", "white", "turn", "before", "line", "place", "lone"] ["lines", "columns", "outside"] (defScope (top 72)) := ⟨rfl, rfl, rfl, by decide +kernel, rfl, by decide +kernel, by decide +kernel⟩
  refine fn_rule (P := PW) (w := w) (K := K) (mg := mg) (base := base) (N := ["lines", "columns", "outside", "white", "turn", "before", "line", "place", "lone"]) (ps := ["lines", "columns", "outside"]) (k := 3) (ms := [.val, .val, .val]) (own := false) (g := g__law_white_without) F S rfl (by decide) fun cdv A outer s H E B hB hr => ?_
  have hN := S.nd
  have tk := takes_cx (P := PW) (w := w) (K := K) (mg := mg) (base := base) (N := ["lines", "columns", "outside", "white", "turn", "before", "line", "place", "lone"]) (qual := "_law_white_without") (scope := defScope (top 72)) (f := f) (cdv := cdv) (A := A) (outer := outer) (s := s) (H := H) (E := E)
  have hp := owns_cx (P := PW) (w := w) (K := K) (mg := mg) (base := base) (N := ["lines", "columns", "outside", "white", "turn", "before", "line", "place", "lone"]) (qual := "_law_white_without") (scope := defScope (top 72)) (f := f) (cdv := cdv) (A := A) (outer := outer) (s := s) (H := H) (E := E)
  exact (qss_cons (qs_setLc 3 (own := [("place", 7)]) rfl hN (qi_range1 (qa_val (qe_v 1) qa_nil) T.n_range) (show BlkOk ["lines", "columns", "outside", "white", "turn", "before", "line", "place", "lone"] (defScope (top 72)) _ _ from ⟨rfl, by decide +kernel, by decide +kernel, by decide +kernel, by decide +kernel⟩) (fun _ _ _ _ _ => (qgv_name 7 hN)) (fun _ _ _ _ _ => (qts_one (qt_cmp (or_notIn hr) (qr_v 7) (qr_v 2)))) (fun _ _ _ _ _ => (qe_v 7))) (qss_frz 3 (qss_cons (qs_for hp rfl (qi_range1 (qa_val (qe_op or_add (qr_v 1) (QE.rd qe_int)) qa_nil) T.n_range) (qg_name 4 hN) (qss_cons (qs_set 5 hN (qe_bi cr_len (qa_bor (qr_v 3) qa_nil) T.n_len)) (qss_cons (qs_for hp rfl (qi_seq (qe_v 0)) (qg_name 6 hN) (qss_cons (qs_set 8 hN (qe_call f__law_lone (hr.mono (by decide)) tk (qa_val (qe_v 6) (qa_val (qe_v 3) qa_nil)))) (qss_cons (qs_if (qt_cmp or_isn (qr_v 8) (QE.rd qe_non)) (qss_cons (qs_setLc 3 (own := [("place", 7)]) rfl hN (qi_seq (qe_v 3)) (show BlkOk ["lines", "columns", "outside", "white", "turn", "before", "line", "place", "lone"] (defScope (top 72)) _ _ from ⟨rfl, by decide +kernel, by decide +kernel, by decide +kernel, by decide +kernel⟩) (fun _ _ _ _ _ => (qgv_name 7 hN)) (fun _ _ _ _ _ => (qts_one (qt_cmp (or_ne hr) (qr_v 7) (qr_v 8)))) (fun _ _ _ _ _ => (qe_v 7))) (qss_frz 3 qss_nil)) qss_nil) (qss_end [6, 8])))) (qss_cons (qs_if (qt_cmp (or_eq hr) (QE.rd (qe_bi cr_len (qa_bor (qr_v 3) qa_nil) T.n_len)) (qr_v 5)) (qss_cons qs_break qss_nil) qss_nil) (qss_end [4, 5, 6, 8]))))) (qss_cons (qs_ret (qe_v 3)) qss_nil))))
theorem w__law_least_row {f : Addr} {fd : FuncData} {dvs : List V} {kws : List (Str × V)} (T : Tops K mg w base) (f__law_lone : FnB PW w K mg base "_law_lone" fi__law_lone [] 3) (F : FunD K "_law_least_row" "_law_least_row" (defArgs (top 73)) (defBody (top 73)) (defScope (top 73)) dvs kws f fd) : FnOk PW w K mg base (L2.CX PW w) 4 f fd ["lines", "lot"] (spOf K fi__law_least_row) := by
  have S : FnScope ["lines", "lot", "row"] ["lines", "lot"] (defScope (top 73)) := ⟨rfl, rfl, rfl, by decide +kernel, rfl, by decide +kernel, by decide +kernel⟩
  refine fn_rule (P := PW) (w := w) (K := K) (mg := mg) (base := base) (N := ["lines", "lot", "row"]) (ps := ["lines", "lot"]) (k := 3) (ms := [.val, .val]) (own := false) (g := g__law_least_row) F S rfl (by decide) fun cdv A outer s H E B hB hr => ?_
  have hN := S.nd
  have tk := takes_cx (P := PW) (w := w) (K := K) (mg := mg) (base := base) (N := ["lines", "lot", "row"]) (qual := "_law_least_row") (scope := defScope (top 73)) (f := f) (cdv := cdv) (A := A) (outer := outer) (s := s) (H := H) (E := E)
  have hp := owns_cx (P := PW) (w := w) (K := K) (mg := mg) (base := base) (N := ["lines", "lot", "row"]) (qual := "_law_least_row") (scope := defScope (top 73)) (f := f) (cdv := cdv) (A := A) (outer := outer) (s := s) (H := H) (E := E)
  exact (qss_cons (qs_for hp rfl (qi_range1 (qa_val (qe_bi cr_len (qa_bor (qr_v 0) qa_nil) T.n_len) qa_nil) T.n_range) (qg_name 2 hN) (qss_cons (qs_if (qt_cmp or_isn (QE.rd (qe_call f__law_lone (hr.mono (by decide)) tk (qa_val (qe_ix ix_p (qr_v 0) (qr_v 2)) (qa_val (qe_v 1) qa_nil)))) (QE.rd qe_non)) (qss_cons (qs_ret (qe_v 2)) qss_nil) qss_nil) (qss_end [2]))) (qss_cons (qs_ret qe_non) qss_nil))
theorem w__law_small_row {f : Addr} {fd : FuncData} {dvs : List V} {kws : List (Str × V)} (T : Tops K mg w base)  (F : FunD K "_law_small_row" "_law_small_row" (defArgs (top 74)) (defBody (top 74)) (defScope (top 74)) dvs kws f fd) : FnOk PW w K mg base (L2.CX PW w) 3 f fd ["line", "numbers", "lot"] (spOf K fi__law_small_row) := by
  have S : FnScope ["line", "numbers", "lot", "total", "place", "number"] ["line", "numbers", "lot"] (defScope (top 74)) := ⟨rfl, rfl, rfl, by decide +kernel, rfl, by decide +kernel, by decide +kernel⟩
  refine fn_rule (P := PW) (w := w) (K := K) (mg := mg) (base := base) (N := ["line", "numbers", "lot", "total", "place", "number"]) (ps := ["line", "numbers", "lot"]) (k := 2) (ms := [.val, .val, .val]) (own := false) (g := g__law_small_row) F S rfl (by decide) fun cdv A outer s H E B hB hr => ?_
  have hN := S.nd
  have tk := takes_cx (P := PW) (w := w) (K := K) (mg := mg) (base := base) (N := ["line", "numbers", "lot", "total", "place", "number"]) (qual := "_law_small_row") (scope := defScope (top 74)) (f := f) (cdv := cdv) (A := A) (outer := outer) (s := s) (H := H) (E := E)
  have hp := owns_cx (P := PW) (w := w) (K := K) (mg := mg) (base := base) (N := ["line", "numbers", "lot", "total", "place", "number"]) (qual := "_law_small_row") (scope := defScope (top 74)) (f := f) (cdv := cdv) (A := A) (outer := outer) (s := s) (H := H) (E := E)
  exact (qss_cons (qs_if (QW.qt (qw_or (qt_not (qt_tru (QE.rd (qe_isi (qr_v 1) T.n_isinstance T.n_tuple)))) (qw_or1 (qt_cmp (or_ne hr) (QE.rd (qe_bi cr_len (qa_bor (qr_v 1) qa_nil) T.n_len)) (QE.rd (qe_bi cr_len (qa_bor (qr_v 0) qa_nil) T.n_len)))))) (qss_cons (qs_ret qe_bl) qss_nil) qss_nil) (qss_cons (qs_set 3 hN qe_int) (qss_cons (qs_for hp rfl (qi_range1 (qa_val (qe_bi cr_len (qa_bor (qr_v 0) qa_nil) T.n_len) qa_nil) T.n_range) (qg_name 4 hN) (qss_cons (qs_set 5 hN (qe_ix ix_p (qr_v 1) (qr_v 4))) (qss_cons (qs_if (QW.qt (qw_or (qt_not (qt_tru (QE.rd (qe_isi (qr_v 5) T.n_isinstance T.n_int)))) (qw_or (qt_tru (QE.rd (qe_isi (qr_v 5) T.n_isinstance T.n_bool))) (qw_or (qt_cmp or_lt (qr_v 5) (QE.rd (qe_neg qe_int))) (qw_or1 (qt_cmp or_gt (qr_v 5) (QE.rd qe_int))))))) (qss_cons (qs_ret qe_bl) qss_nil) qss_nil) (qss_cons (qs_if (QW.qt (qw_and (qt_cmp (or_eq hr) (QE.rd (qe_ix ix_p (qr_v 0) (qr_v 4))) (QE.rd qe_str)) (qw_and1 (qt_cmp (or_ne hr) (qr_v 5) (QE.rd qe_int))))) (qss_cons (qs_ret qe_bl) qss_nil) qss_nil) (qss_cons (qs_if (QW.qt (qw_and (qt_cmp (or_eq hr) (QE.rd (qe_ix ix_p (qr_v 0) (qr_v 4))) (QE.rd qe_str)) (qw_and1 (qt_cmp (or_eq hr) (qr_v 5) (QE.rd qe_int))))) (qss_cons (qs_ret qe_bl) qss_nil) qss_nil) (qss_cons (qs_if (QW.qt (qw_and (qt_cmp (or_eq hr) (QE.rd (qe_ix ix_p (qr_v 0) (qr_v 4))) (QE.rd qe_str)) (qw_and1 (qt_cmp (or_ne hr) (qr_v 5) (QE.rd (qe_neg qe_int)))))) (qss_cons (qs_ret qe_bl) qss_nil) qss_nil) (qss_cons (qs_if (qt_cmp (or_in hr) (qr_v 4) (qr_v 2)) (qss_cons (qs_set 3 hN (qe_op or_add (qr_v 3) (qr_v 5))) qss_nil) qss_nil) (qss_end [4, 5])))))))) (qss_cons (qs_ret (qe_cmp (or_eq hr) (qr_v 3) (QE.rd qe_int))) qss_nil))))
theorem w__law_asked {f : Addr} {fd : FuncData} {dvs : List V} {kws : List (Str × V)} (T : Tops K mg w base) (f_small_weights : FnB PW w K mg base "small_weights" fi_small_weights [] 7) (F : FunD K "_law_asked" "_law_asked" (defArgs (top 75)) (defBody (top 75)) (defScope (top 75)) dvs kws f fd) : FnOk PW w K mg base (L2.CX PW w) 8 f fd ["table", "lot"] (spOf K fi__law_asked) := by
  have S : FnScope ["table", "lot", "found", "word", "fort_error", "lot_error"] ["table", "lot"] (defScope (top 75)) := ⟨rfl, rfl, rfl, by decide +kernel, rfl, by decide +kernel, by decide +kernel⟩
  refine fn_rule (P := PW) (w := w) (K := K) (mg := mg) (base := base) (N := ["table", "lot", "found", "word", "fort_error", "lot_error"]) (ps := ["table", "lot"]) (k := 7) (ms := [.val, .val]) (own := false) (g := g__law_asked) F S rfl (by decide) fun cdv A outer s H E B hB hr => ?_
  have hN := S.nd
  have tk := takes_cx (P := PW) (w := w) (K := K) (mg := mg) (base := base) (N := ["table", "lot", "found", "word", "fort_error", "lot_error"]) (qual := "_law_asked") (scope := defScope (top 75)) (f := f) (cdv := cdv) (A := A) (outer := outer) (s := s) (H := H) (E := E)
  have hp := owns_cx (P := PW) (w := w) (K := K) (mg := mg) (base := base) (N := ["table", "lot", "found", "word", "fort_error", "lot_error"]) (qual := "_law_asked") (scope := defScope (top 75)) (f := f) (cdv := cdv) (A := A) (outer := outer) (s := s) (H := H) (E := E)
  exact (qss_cons (qs_set 2 hN qe_non) (qss_cons (qs_set 3 hN (qe_tup (qa_val qe_str (qa_val qe_int qa_nil)))) (qss_cons (qs_try T.exm rfl rfl hN tk (fun _ _ _ tk hp => (qss_cons (qs_set 2 hN (qe_call f_small_weights (hr.mono (by decide)) tk (qa_val (qe_v 0) (qa_val (qe_v 1) qa_nil)))) qss_nil)) (.as (i := 4) ⟨rfl, by decide, .inl (T.g_NotFort)⟩ rfl rfl (fun _ _ _ _ _ hz hf => (qss_cons (qs_set 3 hN (qe_tup (qa_val qe_str (qa_val (qe_xf 4 ["NotFort"] (T.xg_NotFort_row) hz hf) qa_nil)))) qss_nil)) (.as (i := 5) ⟨rfl, by decide, .inl (T.g_BadLot)⟩ rfl rfl (fun _ _ _ _ _ hz hf => (qss_cons (qs_set 3 hN (qe_tup (qa_val qe_str (qa_val (qe_xf 5 ["BadLot"] (T.xg_BadLot_place) hz hf) qa_nil)))) qss_nil)) .nil))) (qss_cons (qs_ret (QO.fz (qo_lst (qa_val (qe_v 2) (qa_val (qe_v 3) qa_nil))))) qss_nil))))
theorem w__law_fields_kept {f : Addr} {fd : FuncData} {dvs : List V} {kws : List (Str × V)} (T : Tops K mg w base) (f__law_next : FnB PW w K mg base "_law_next" fi__law_next [] 3) (k_Fractions_init : FnK PW w K mg base "Fractions" fi_Fractions_init [] 4) (k_Prime_init : FnK PW w K mg base "Prime" fi_Prime_init [] 4) (k_Weighted_init : FnK PW w K mg base "Weighted" fi_Weighted_init [] 7) (m_Weighted_silent : FnM PW w K mg base ["Weighted"] "silent" fi_Weighted_silent [] 7) (F : FunD K "_law_fields_kept" "_law_fields_kept" (defArgs (top 76)) (defBody (top 76)) (defScope (top 76)) dvs kws f fd) : FnOk PW w K mg base (L2.CX PW w) 9 f fd ["stream", "table", "rows", "vector"] (spOf K fi__law_fields_kept) := by
  have S : FnScope ["stream", "table", "rows", "vector", "first", "second", "field", "weighted", "row"] ["stream", "table", "rows", "vector"] (defScope (top 76)) := ⟨rfl, rfl, rfl, by decide +kernel, rfl, by decide +kernel, by decide +kernel⟩
  refine fn_rule (P := PW) (w := w) (K := K) (mg := mg) (base := base) (N := ["stream", "table", "rows", "vector", "first", "second", "field", "weighted", "row"]) (ps := ["stream", "table", "rows", "vector"]) (k := 8) (ms := [.mu, .val, .val, .val]) (own := false) (g := g__law_fields_kept) F S rfl (by decide) fun cdv A outer s H E B hB hr => ?_
  have hN := S.nd
  have tk := takes_cx (P := PW) (w := w) (K := K) (mg := mg) (base := base) (N := ["stream", "table", "rows", "vector", "first", "second", "field", "weighted", "row"]) (qual := "_law_fields_kept") (scope := defScope (top 76)) (f := f) (cdv := cdv) (A := A) (outer := outer) (s := s) (H := H) (E := E)
  have hp := owns_cx (P := PW) (w := w) (K := K) (mg := mg) (base := base) (N := ["stream", "table", "rows", "vector", "first", "second", "field", "weighted", "row"]) (qual := "_law_fields_kept") (scope := defScope (top 76)) (f := f) (cdv := cdv) (A := A) (outer := outer) (s := s) (H := H) (E := E)
  exact (qss_cons (qs_set 4 hN (qe_ix ix_p (QE.rd (QO.fz (qo_lst (qa_val qe_int (qa_val qe_int (qa_val qe_int (qa_val qe_int (qa_val qe_int (qa_val qe_int (qa_val qe_int (qa_val qe_int (qa_val qe_int (qa_val qe_int (qa_val qe_int (qa_val qe_int qa_nil))))))))))))))) (QE.rd (qe_call f__law_next (hr.mono (by decide)) tk (qa_mu 0 (qa_val qe_int qa_nil)))))) (qss_cons (qs_set 5 hN (qe_ix ix_p (QE.rd (QO.fz (qo_lst (qa_val qe_int (qa_val qe_int (qa_val qe_int (qa_val qe_int (qa_val qe_int (qa_val qe_int (qa_val qe_int (qa_val qe_int (qa_val qe_int (qa_val qe_int (qa_val qe_int (qa_val qe_int qa_nil))))))))))))))) (QE.rd (qe_call f__law_next (hr.mono (by decide)) tk (qa_mu 0 (qa_val qe_int qa_nil)))))) (qss_cons (qs_for hp rfl (qi_seq (QO.fz (qo_lst (qa_val (QO.fz (qo_make0 k_Fractions_init (hr.mono (by decide)) tk)) (qa_val (QO.fz (qo_make k_Prime_init (hr.mono (by decide)) tk (qa_val (qe_v 4) qa_nil))) (qa_val (QO.fz (qo_make k_Prime_init (hr.mono (by decide)) tk (qa_val (qe_v 5) qa_nil))) (qa_val (QO.fz (qo_make k_Prime_init (hr.mono (by decide)) tk (qa_val qe_int qa_nil))) qa_nil))))))) (qg_name 6 hN) (qss_cons (qs_set 7 hN (QO.fz (qo_make k_Weighted_init (hr.mono (by decide)) tk (qa_val (qe_v 6) (qa_val (qe_v 1) (qa_val (QO.fz (qo_lc (own := [("row", 8)]) rfl hN (qi_seq (qe_v 2)) (show BlkOk ["stream", "table", "rows", "vector", "first", "second", "field", "weighted", "row"] (defScope (top 76)) _ _ from ⟨rfl, by decide +kernel, by decide +kernel, by decide +kernel, by decide +kernel⟩) (fun _ _ _ _ _ => (qgv_name 8 hN)) (fun _ _ _ _ _ => qts_nil) (fun _ _ _ _ _ => (QO.fz (qo_ty (cr_list rfl) (qa_bor (qr_v 8) qa_nil) T.n_list))))) qa_nil)))))) (qss_cons (qs_if (qt_cmp or_isn (QE.rd (qe_meth m_Weighted_silent (hr.mono (by decide)) tk (qr_v 7) (qa_val (QO.fz (qo_ty (cr_list rfl) (qa_bor (qr_v 3) qa_nil) T.n_list)) qa_nil))) (QE.rd qe_bl)) (qss_cons (qs_ret qe_bl) qss_nil) qss_nil) (qss_end [6, 7])))) (qss_cons (qs_ret qe_bl) qss_nil))))
theorem w__law_lot_kept {f : Addr} {fd : FuncData} {dvs : List V} {kws : List (Str × V)} (T : Tops K mg w base) (f__law_asked : FnB PW w K mg base "_law_asked" fi__law_asked [] 8) (f__law_fields_kept : FnB PW w K mg base "_law_fields_kept" fi__law_fields_kept [] 9) (f__law_least_row : FnB PW w K mg base "_law_least_row" fi__law_least_row [] 4) (f__law_small_row : FnB PW w K mg base "_law_small_row" fi__law_small_row [] 3) (F : FunD K "_law_lot_kept" "_law_lot_kept" (defArgs (top 77)) (defBody (top 77)) (defScope (top 77)) dvs kws f fd) : FnOk PW w K mg base (L2.CX PW w) 10 f fd ["stream", "table", "lines", "columns", "lot"] (spOf K fi__law_lot_kept) := by
  have S : FnScope ["stream", "table", "lines", "columns", "lot", "due", "told", "rows", "at", "vector", "place"] ["stream", "table", "lines", "columns", "lot"] (defScope (top 77)) := ⟨rfl, rfl, rfl, by decide +kernel, rfl, by decide +kernel, by decide +kernel⟩
  refine fn_rule (P := PW) (w := w) (K := K) (mg := mg) (base := base) (N := ["stream", "table", "lines", "columns", "lot", "due", "told", "rows", "at", "vector", "place"]) (ps := ["stream", "table", "lines", "columns", "lot"]) (k := 9) (ms := [.mu, .val, .val, .val, .val]) (own := false) (g := g__law_lot_kept) F S rfl (by decide) fun cdv A outer s H E B hB hr => ?_
  have hN := S.nd
  have tk := takes_cx (P := PW) (w := w) (K := K) (mg := mg) (base := base) (N := ["stream", "table", "lines", "columns", "lot", "due", "told", "rows", "at", "vector", "place"]) (qual := "_law_lot_kept") (scope := defScope (top 77)) (f := f) (cdv := cdv) (A := A) (outer := outer) (s := s) (H := H) (E := E)
  have hp := owns_cx (P := PW) (w := w) (K := K) (mg := mg) (base := base) (N := ["stream", "table", "lines", "columns", "lot", "due", "told", "rows", "at", "vector", "place"]) (qual := "_law_lot_kept") (scope := defScope (top 77)) (f := f) (cdv := cdv) (A := A) (outer := outer) (s := s) (H := H) (E := E)
  exact (qss_cons (qs_set 5 hN (qe_call f__law_least_row (hr.mono (by decide)) tk (qa_val (qe_v 2) (qa_val (qe_v 4) qa_nil)))) (qss_cons (qs_set 6 hN (qe_call f__law_asked (hr.mono (by decide)) tk (qa_val (qe_v 1) (qa_val (QO.fz (qo_ty (cr_list rfl) (qa_bor (qr_v 4) qa_nil) T.n_list)) qa_nil)))) (qss_cons (qs_if (qt_cmp or_isn (qr_v 5) (QE.rd qe_non)) (qss_cons (qs_ret (qe_and (qe_cmp or_is (QE.rd (qe_ix ix_p (qr_v 6) (QE.rd qe_int))) (QE.rd qe_non)) (qe_one (qe_cmp (or_eq hr) (QE.rd (qe_ix ix_p (qr_v 6) (QE.rd qe_int))) (QE.rd (qe_tup (qa_val qe_str (qa_val (qe_v 5) qa_nil)))))))) qss_nil) qss_nil) (qss_cons (qs_set 7 hN (qe_ix ix_p (qr_v 6) (QE.rd qe_int))) (qss_cons (qs_if (QW.qt (qw_or (qt_cmp (or_ne hr) (QE.rd (qe_ix ix_p (qr_v 6) (QE.rd qe_int))) (QE.rd (qe_tup (qa_val qe_str (qa_val qe_int qa_nil))))) (qw_or (qt_not (qt_tru (QE.rd (qe_isi (qr_v 7) T.n_isinstance T.n_tuple)))) (qw_or1 (qt_cmp (or_ne hr) (QE.rd (qe_bi cr_len (qa_bor (qr_v 7) qa_nil) T.n_len)) (QE.rd (qe_bi cr_len (qa_bor (qr_v 2) qa_nil) T.n_len))))))) (qss_cons (qs_ret qe_bl) qss_nil) qss_nil) (qss_cons (qs_for hp rfl (qi_range1 (qa_val (qe_bi cr_len (qa_bor (qr_v 2) qa_nil) T.n_len) qa_nil) T.n_range) (qg_name 8 hN) (qss_cons (qs_if (qt_not (qt_tru (QE.rd (qe_call f__law_small_row (hr.mono (by decide)) tk (qa_val (qe_ix ix_p (qr_v 2) (qr_v 8)) (qa_val (qe_ix ix_p (qr_v 7) (qr_v 8)) (qa_val (qe_v 4) qa_nil))))))) (qss_cons (qs_ret qe_bl) qss_nil) qss_nil) (qss_end [8]))) (qss_cons (qs_setLc 9 (own := [("place", 10)]) rfl hN (qi_range1 (qa_val (qe_v 3) qa_nil) T.n_range) (show BlkOk ["stream", "table", "lines", "columns", "lot", "due", "told", "rows", "at", "vector", "place"] (defScope (top 77)) _ _ from ⟨rfl, by decide +kernel, by decide +kernel, by decide +kernel, by decide +kernel⟩) (fun _ _ _ _ _ => (qgv_name 10 hN)) (fun _ _ _ _ _ => qts_nil) (fun _ _ _ _ _ => (qe_ty cr_int (qa_bor (QE.rd (qe_cmp (or_in hr) (qr_v 10) (qr_v 4))) qa_nil) T.n_int))) (qss_frz 9 (qss_cons (qs_ret (qe_call f__law_fields_kept (hr.mono (by decide)) tk (qa_mu 0 (qa_val (qe_v 1) (qa_val (qe_v 7) (qa_val (qe_v 9) qa_nil)))))) qss_nil)))))))))
theorem w__law_refusals_kept {f : Addr} {fd : FuncData} {dvs : List V} {kws : List (Str × V)} (T : Tops K mg w base) (f__law_asked : FnB PW w K mg base "_law_asked" fi__law_asked [] 8) (f__law_lot : FnB PW w K mg base "_law_lot" fi__law_lot [] 4) (f__law_next : FnB PW w K mg base "_law_next" fi__law_next [] 3) (F : FunD K "_law_refusals_kept" "_law_refusals_kept" (defArgs (top 78)) (defBody (top 78)) (defScope (top 78)) dvs kws f fd) : FnOk PW w K mg base (L2.CX PW w) 9 f fd ["stream", "table", "columns"] (spOf K fi__law_refusals_kept) := by
  have S : FnScope ["stream", "table", "columns", "good", "kind", "bad", "place"] ["stream", "table", "columns"] (defScope (top 78)) := ⟨rfl, rfl, rfl, by decide +kernel, rfl, by decide +kernel, by decide +kernel⟩
  refine fn_rule (P := PW) (w := w) (K := K) (mg := mg) (base := base) (N := ["stream", "table", "columns", "good", "kind", "bad", "place"]) (ps := ["stream", "table", "columns"]) (k := 8) (ms := [.mu, .val, .val]) (own := false) (g := g__law_refusals_kept) F S rfl (by decide) fun cdv A outer s H E B hB hr => ?_
  have hN := S.nd
  have tk := takes_cx (P := PW) (w := w) (K := K) (mg := mg) (base := base) (N := ["stream", "table", "columns", "good", "kind", "bad", "place"]) (qual := "_law_refusals_kept") (scope := defScope (top 78)) (f := f) (cdv := cdv) (A := A) (outer := outer) (s := s) (H := H) (E := E)
  have hp := owns_cx (P := PW) (w := w) (K := K) (mg := mg) (base := base) (N := ["stream", "table", "columns", "good", "kind", "bad", "place"]) (qual := "_law_refusals_kept") (scope := defScope (top 78)) (f := f) (cdv := cdv) (A := A) (outer := outer) (s := s) (H := H) (E := E)
  exact (qss_cons (qs_set 3 hN (qe_call f__law_lot (hr.mono (by decide)) tk (qa_mu 0 (qa_val (qe_v 2) qa_nil)))) (qss_cons (qs_set 4 hN (qe_call f__law_next (hr.mono (by decide)) tk (qa_mu 0 (qa_val qe_int qa_nil)))) (qss_cons (qs_set 5 hN (qe_ix ix_p (QE.rd (QO.fz (qo_lst (qa_val (QO.fz (qo_op oro_add (qr_v 3) (QE.rd (QO.fz (qo_lst (qa_val (qe_v 2) qa_nil)))))) (qa_val (QO.fz (qo_op oro_add (QE.rd (QO.fz (qo_lst (qa_val (qe_neg qe_int) qa_nil)))) (qr_v 3))) (qa_val (QO.fz (qo_op oro_add (qr_v 3) (QE.rd (QO.fz (qo_lst (qa_val qe_non (qa_val (qe_neg qe_int) qa_nil))))))) (qa_val (qe_op or_add (QE.rd (qe_ty cr_tuple (qa_bor (qr_v 3) qa_nil) T.n_tuple)) (QE.rd (qe_tup (qa_val qe_bl qa_nil)))) (qa_val qe_str qa_nil)))))))) (qr_v 4))) (qss_cons (qs_set 6 hN (qe_ix ix_p (QE.rd (QO.fz (qo_lst (qa_val (qe_bi cr_len (qa_bor (qr_v 3) qa_nil) T.n_len) (qa_val qe_int (qa_val (qe_bi cr_len (qa_bor (qr_v 3) qa_nil) T.n_len) (qa_val (qe_bi cr_len (qa_bor (qr_v 3) qa_nil) T.n_len) (qa_val (qe_neg qe_int) qa_nil)))))))) (qr_v 4))) (qss_cons (qs_if (qt_cmp (or_ne hr) (QE.rd (qe_call f__law_asked (hr.mono (by decide)) tk (qa_val (qe_v 1) (qa_val (qe_v 5) qa_nil)))) (QE.rd (QO.fz (qo_lst (qa_val qe_non (qa_val (qe_tup (qa_val qe_str (qa_val (qe_v 6) qa_nil))) qa_nil)))))) (qss_cons (qs_ret qe_bl) qss_nil) qss_nil) (qss_cons (qs_if (qt_cmp or_gt (QE.rd (qe_bi cr_len (qa_bor (qr_v 3) qa_nil) T.n_len)) (QE.rd qe_int)) (qss_cons (qs_ret (qe_cmp (or_eq hr) (QE.rd (qe_call f__law_asked (hr.mono (by decide)) tk (qa_val (qe_v 1) (qa_val (QO.fz (qo_op oro_add (qr_v 3) (QE.rd (QO.fz (qo_lst (qa_val (qe_ix ix_p (qr_v 3) (QE.rd qe_int)) (qa_val (qe_v 2) qa_nil))))))) qa_nil)))) (QE.rd (QO.fz (qo_lst (qa_val qe_non (qa_val (qe_tup (qa_val qe_str (qa_val (qe_bi cr_len (qa_bor (qr_v 3) qa_nil) T.n_len) qa_nil))) qa_nil))))))) qss_nil) qss_nil) (qss_cons (qs_ret qe_bl) qss_nil)))))))
theorem w_law {f : Addr} {fd : FuncData} {dvs : List V} {kws : List (Str × V)} (T : Tops K mg w base) (f__law_lot : FnB PW w K mg base "_law_lot" fi__law_lot [] 4) (f__law_lot_kept : FnB PW w K mg base "_law_lot_kept" fi__law_lot_kept [] 10) (f__law_marks : FnB PW w K mg base "_law_marks" fi__law_marks [] 5) (f__law_next : FnB PW w K mg base "_law_next" fi__law_next [] 3) (f__law_refusals_kept : FnB PW w K mg base "_law_refusals_kept" fi__law_refusals_kept [] 9) (f__law_stream : FnB PW w K mg base "_law_stream" fi__law_stream [] 3) (f__law_white_without : FnB PW w K mg base "_law_white_without" fi__law_white_without [] 4) (k_Table_init : FnK PW w K mg base "Table" fi_Table_init [] 6) (F : FunD K "law" "law" (defArgs (top 79)) (defBody (top 79)) (defScope (top 79)) dvs kws f fd) : FnOk PW w K mg base (L2.CX PW w) 11 f fd ["script"] (spOf K fi_law) := by
  have S : FnScope ["script", "stream", "size", "table", "outside", "part", "lot", "columns", "lines", "place"] ["script"] (defScope (top 79)) := ⟨rfl, rfl, rfl, by decide +kernel, rfl, by decide +kernel, by decide +kernel⟩
  refine fn_rule (P := PW) (w := w) (K := K) (mg := mg) (base := base) (N := ["script", "stream", "size", "table", "outside", "part", "lot", "columns", "lines", "place"]) (ps := ["script"]) (k := 10) (ms := [.val]) (own := false) (g := g_law) F S rfl (by decide) fun cdv A outer s H E B hB hr => ?_
  have hN := S.nd
  have tk := takes_cx (P := PW) (w := w) (K := K) (mg := mg) (base := base) (N := ["script", "stream", "size", "table", "outside", "part", "lot", "columns", "lines", "place"]) (qual := "law") (scope := defScope (top 79)) (f := f) (cdv := cdv) (A := A) (outer := outer) (s := s) (H := H) (E := E)
  have hp := owns_cx (P := PW) (w := w) (K := K) (mg := mg) (base := base) (N := ["script", "stream", "size", "table", "outside", "part", "lot", "columns", "lines", "place"]) (qual := "law") (scope := defScope (top 79)) (f := f) (cdv := cdv) (A := A) (outer := outer) (s := s) (H := H) (E := E)
  exact (qss_cons (qs_setO 1 hN (qo_call f__law_stream (hr.mono (by decide)) tk (qa_val (qe_v 0) qa_nil))) (qss_mt 1 (hB rfl) (qss_cons (qs_set 2 hN (qe_call f__law_next (hr.mono (by decide)) tk (qa_mu 1 (qa_val qe_int qa_nil)))) (qss_cons (qs_if (qt_cmp (or_eq hr) (qr_v 2) (QE.rd qe_int)) (qss_cons (qs_set 7 hN (qe_op or_add (QE.rd qe_int) (QE.rd (qe_call f__law_next (hr.mono (by decide)) tk (qa_mu 1 (qa_val qe_int qa_nil)))))) (qss_cons (qs_set 8 hN (qe_call f__law_marks (hr.mono (by decide)) tk (qa_mu 1 (qa_val (qe_op or_add (QE.rd qe_int) (QE.rd (qe_call f__law_next (hr.mono (by decide)) tk (qa_mu 1 (qa_val qe_int qa_nil))))) (qa_val (qe_v 7) qa_nil))))) qss_nil)) (qss_cons (qs_set 7 hN (qe_ix ix_p (QE.rd (QO.fz (qo_lst (qa_val qe_int (qa_val qe_int (qa_val qe_int (qa_val qe_int (qa_val qe_int (qa_val qe_int (qa_val qe_int (qa_val qe_int qa_nil))))))))))) (QE.rd (qe_call f__law_next (hr.mono (by decide)) tk (qa_mu 1 (qa_val qe_int qa_nil)))))) (qss_cons (qs_set 8 hN (qe_call f__law_marks (hr.mono (by decide)) tk (qa_mu 1 (qa_val (qe_ix ix_p (QE.rd (QO.fz (qo_lst (qa_val qe_int (qa_val qe_int (qa_val qe_int (qa_val qe_int (qa_val qe_int (qa_val qe_int (qa_val qe_int (qa_val qe_int qa_nil))))))))))) (QE.rd (qe_call f__law_next (hr.mono (by decide)) tk (qa_mu 1 (qa_val qe_int qa_nil))))) (qa_val (qe_v 7) qa_nil))))) qss_nil))) (qss_cons (qs_set 3 hN (QO.fz (qo_make k_Table_init (hr.mono (by decide)) tk (qa_val (qe_v 7) (qa_val (QO.fz (qo_ty (cr_list rfl) (qa_bor (qr_v 8) qa_nil) T.n_list)) qa_nil))))) (qss_cons (qs_setLc 4 (own := [("place", 9)]) rfl hN (qi_range1 (qa_val (qe_v 7) qa_nil) T.n_range) (show BlkOk ["script", "stream", "size", "table", "outside", "part", "lot", "columns", "lines", "place"] (defScope (top 79)) _ _ from ⟨rfl, by decide +kernel, by decide +kernel, by decide +kernel, by decide +kernel⟩) (fun _ _ _ _ _ => (qgv_name 9 hN)) (fun _ _ _ _ _ => (qts_one (qt_cmp (or_eq hr) (QE.rd (qe_call f__law_next (hr.mono (by decide)) takesW0 (qa_mu 1 (qa_val qe_int qa_nil)))) (QE.rd qe_int)))) (fun _ _ _ _ _ => (qe_v 9))) (qss_frz 4 (qss_cons (qs_set 5 hN (qe_call f__law_white_without (hr.mono (by decide)) tk (qa_val (qe_v 8) (qa_val (qe_v 7) (qa_val (qe_v 4) qa_nil))))) (qss_cons (qs_for hp rfl (qi_seq (QO.fz (qo_lst (qa_val (qe_call f__law_white_without (hr.mono (by decide)) tk (qa_val (qe_v 8) (qa_val (qe_v 7) (qa_val (QO.fz (qo_lst qa_nil)) qa_nil)))) (qa_val (qe_v 5) (qa_val (qe_call f__law_lot (hr.mono (by decide)) tk (qa_mu 1 (qa_val (qe_v 7) qa_nil))) (qa_val (QO.fz (qo_lst qa_nil)) qa_nil))))))) (qg_name 6 hN) (qss_cons (qs_if (qt_not (qt_tru (QE.rd (qe_call f__law_lot_kept (hr.mono (by decide)) tk (qa_mu 1 (qa_val (qe_v 3) (qa_val (qe_v 8) (qa_val (qe_v 7) (qa_val (qe_v 6) qa_nil))))))))) (qss_cons (qs_ret qe_bl) qss_nil) qss_nil) (qss_end [6]))) (qss_cons (qs_if (qt_not (qt_tru (QE.rd (qe_call f__law_refusals_kept (hr.mono (by decide)) tk (qa_mu 1 (qa_val (qe_v 3) (qa_val (qe_v 7) qa_nil))))))) (qss_cons (qs_ret qe_bl) qss_nil) qss_nil) (qss_cons (qs_ret (qe_cmp (or_eq hr) (QE.rd (QO.fz (qo_ty (cr_list rfl) (qa_bor (QE.rd (qe_fld T.fo_Table_lines (qr_v 3))) qa_nil) T.n_list))) (qr_v 8))) qss_nil)))))))))))
end
end KI.K13

/-! part H13 -/
set_option Elab.async false
set_option linter.all false
set_option maxRecDepth 100000
set_option maxHeartbeats 0
namespace KI.K13
open PySem PySem.Spec PySem.Calls PyProof.Rows L2 KI

def d_is_whole : He.DefD := ⟨("is_whole", none), "is_whole", "is_whole", defArgs (top 15), defBody (top 15), defScope (top 15), [], []⟩
def d_place_of : He.DefD := ⟨("place_of", none), "place_of", "place_of", defArgs (top 17), defBody (top 17), defScope (top 17), [], []⟩
def d_size_of : He.DefD := ⟨("size_of", none), "size_of", "size_of", defArgs (top 16), defBody (top 16), defScope (top 16), [], []⟩
def d_lot_of : He.DefD := ⟨("lot_of", none), "lot_of", "lot_of", defArgs (top 18), defBody (top 18), defScope (top 18), [], []⟩
def d_lowest_pair : He.DefD := ⟨("lowest_pair", none), "lowest_pair", "lowest_pair", defArgs (top 21), defBody (top 21), defScope (top 21), [], []⟩
def d_normal_number : He.DefD := ⟨("normal_number", none), "normal_number", "normal_number", defArgs (top 22), defBody (top 22), defScope (top 22), [], []⟩
def d_nought_of : He.DefD := ⟨("nought_of", none), "nought_of", "nought_of", defArgs (top 23), defBody (top 23), defScope (top 23), [], []⟩
def d_unit_of : He.DefD := ⟨("unit_of", none), "unit_of", "unit_of", defArgs (top 24), defBody (top 24), defScope (top 24), [], []⟩
def d_add_numbers : He.DefD := ⟨("add_numbers", none), "add_numbers", "add_numbers", defArgs (top 25), defBody (top 25), defScope (top 25), [], []⟩
def d_mul_numbers : He.DefD := ⟨("mul_numbers", none), "mul_numbers", "mul_numbers", defArgs (top 26), defBody (top 26), defScope (top 26), [], []⟩
def d_negated : He.DefD := ⟨("negated", none), "negated", "negated", defArgs (top 27), defBody (top 27), defScope (top 27), [], []⟩
def d_Field_init : He.DefD := ⟨("Field", some "__init__"), "__init__", "Field.__init__", defArgs (meth 29 0), defBody (meth 29 0), defScope (meth 29 0), [], []⟩
def d_need_field : He.DefD := ⟨("need_field", none), "need_field", "need_field", defArgs (top 32), defBody (top 32), defScope (top 32), [], []⟩
def d_is_hard : He.DefD := ⟨("is_hard", none), "is_hard", "is_hard", defArgs (top 38), defBody (top 38), defScope (top 38), [], []⟩
def d_is_touched : He.DefD := ⟨("is_touched", none), "is_touched", "is_touched", defArgs (top 39), defBody (top 39), defScope (top 39), [], []⟩
def d_check_line : He.DefD := ⟨("check_line", none), "check_line", "check_line", defArgs (top 40), defBody (top 40), defScope (top 40), [], []⟩
def d_normal_row : He.DefD := ⟨("normal_row", none), "normal_row", "normal_row", defArgs (top 42), defBody (top 42), defScope (top 42), [], []⟩
def d_row_dot : He.DefD := ⟨("row_dot", none), "row_dot", "row_dot", defArgs (top 43), defBody (top 43), defScope (top 43), [], []⟩
def d_flags_of : He.DefD := ⟨("flags_of", none), "flags_of", "flags_of", defArgs (top 45), defBody (top 45), defScope (top 45), [], []⟩
def d_forced_now : He.DefD := ⟨("forced_now", none), "forced_now", "forced_now", defArgs (top 46), defBody (top 46), defScope (top 46), [], []⟩
def d_Table_len : He.DefD := ⟨("Table", some "__len__"), "__len__", "Table.__len__", defArgs (meth 53 1), defBody (meth 53 1), defScope (meth 53 1), [], []⟩
def d_Table_touches : He.DefD := ⟨("Table", some "touches"), "touches", "Table.touches", defArgs (meth 53 6), defBody (meth 53 6), defScope (meth 53 6), [], []⟩
def d_broken_at : He.DefD := ⟨("broken_at", none), "broken_at", "broken_at", defArgs (top 48), defBody (top 48), defScope (top 48), [], []⟩
def d_count_of_columns : He.DefD := ⟨("count_of_columns", none), "count_of_columns", "count_of_columns", defArgs (top 52), defBody (top 52), defScope (top 52), [], []⟩
def d_Table_init : He.DefD := ⟨("Table", some "__init__"), "__init__", "Table.__init__", defArgs (meth 53 0), defBody (meth 53 0), defScope (meth 53 0), [], []⟩
def d_fits_mark : He.DefD := ⟨("fits_mark", none), "fits_mark", "fits_mark", defArgs (top 56), defBody (top 56), defScope (top 56), [], []⟩
def d_fitting_row : He.DefD := ⟨("fitting_row", none), "fitting_row", "fitting_row", defArgs (top 57), defBody (top 57), defScope (top 57), [], []⟩
def d_Weighted_init : He.DefD := ⟨("Weighted", some "__init__"), "__init__", "Weighted.__init__", defArgs (meth 58 0), defBody (meth 58 0), defScope (meth 58 0), [], []⟩
def d_Weighted_dots : He.DefD := ⟨("Weighted", some "dots"), "dots", "Weighted.dots", defArgs (meth 58 1), defBody (meth 58 1), defScope (meth 58 1), [], []⟩
def d_Weighted_silent : He.DefD := ⟨("Weighted", some "silent"), "silent", "Weighted.silent", defArgs (meth 58 2), defBody (meth 58 2), defScope (meth 58 2), [], []⟩
def d_marked_within : He.DefD := ⟨("marked_within", none), "marked_within", "marked_within", defArgs (top 60), defBody (top 60), defScope (top 60), [], []⟩
def d_small_parts : He.DefD := ⟨("small_parts", none), "small_parts", "small_parts", defArgs (top 61), defBody (top 61), defScope (top 61), [], []⟩
def d_small_row : He.DefD := ⟨("small_row", none), "small_row", "small_row", defArgs (top 62), defBody (top 62), defScope (top 62), [], []⟩
def d_small_weights : He.DefD := ⟨("small_weights", none), "small_weights", "small_weights", defArgs (top 63), defBody (top 63), defScope (top 63), [], []⟩
def d__law_next : He.DefD := ⟨("_law_next", none), "_law_next", "_law_next", defArgs (top 66), defBody (top 66), defScope (top 66), [], []⟩
def d__law_stream : He.DefD := ⟨("_law_stream", none), "_law_stream", "_law_stream", defArgs (top 65), defBody (top 65), defScope (top 65), [], []⟩
def d__law_lines : He.DefD := ⟨("_law_lines", none), "_law_lines", "_law_lines", defArgs (top 67), defBody (top 67), defScope (top 67), [], []⟩
def d__law_told_line : He.DefD := ⟨("_law_told_line", none), "_law_told_line", "_law_told_line", defArgs (top 68), defBody (top 68), defScope (top 68), [], []⟩
def d__law_lot : He.DefD := ⟨("_law_lot", none), "_law_lot", "_law_lot", defArgs (top 69), defBody (top 69), defScope (top 69), [], []⟩
def d__law_lone : He.DefD := ⟨("_law_lone", none), "_law_lone", "_law_lone", defArgs (top 70), defBody (top 70), defScope (top 70), [], []⟩
def d__law_marks : He.DefD := ⟨("_law_marks", none), "_law_marks", "_law_marks", defArgs (top 71), defBody (top 71), defScope (top 71), [], []⟩
def d__law_white_without : He.DefD := ⟨("_law_white_without", none), "_law_white_without", "_law_white_without", defArgs (top 72), defBody (top 72), defScope (top 72), [], []⟩
def d__law_least_row : He.DefD := ⟨("_law_least_row", none), "_law_least_row", "_law_least_row", defArgs (top 73), defBody (top 73), defScope (top 73), [], []⟩
def d__law_small_row : He.DefD := ⟨("_law_small_row", none), "_law_small_row", "_law_small_row", defArgs (top 74), defBody (top 74), defScope (top 74), [], []⟩
def d__law_asked : He.DefD := ⟨("_law_asked", none), "_law_asked", "_law_asked", defArgs (top 75), defBody (top 75), defScope (top 75), [], []⟩
def d__law_fields_kept : He.DefD := ⟨("_law_fields_kept", none), "_law_fields_kept", "_law_fields_kept", defArgs (top 76), defBody (top 76), defScope (top 76), [], []⟩
def d__law_lot_kept : He.DefD := ⟨("_law_lot_kept", none), "_law_lot_kept", "_law_lot_kept", defArgs (top 77), defBody (top 77), defScope (top 77), [], []⟩
def d__law_refusals_kept : He.DefD := ⟨("_law_refusals_kept", none), "_law_refusals_kept", "_law_refusals_kept", defArgs (top 78), defBody (top 78), defScope (top 78), [], []⟩
def d_law : He.DefD := ⟨("law", none), "law", "law", defArgs (top 79), defBody (top 79), defScope (top 79), [], []⟩
def fn : List He.DefD := [d_is_whole, d_place_of, d_size_of, d_lot_of, d_lowest_pair, d_normal_number, d_nought_of, d_unit_of, d_add_numbers, d_mul_numbers, d_negated, d_Field_init, d_need_field, d_is_hard, d_is_touched, d_check_line, d_normal_row, d_row_dot, d_flags_of, d_forced_now, d_Table_len, d_Table_touches, d_broken_at, d_count_of_columns, d_Table_init, d_fits_mark, d_fitting_row, d_Weighted_init, d_Weighted_dots, d_Weighted_silent, d_marked_within, d_small_parts, d_small_row, d_small_weights, d__law_next, d__law_stream, d__law_lines, d__law_told_line, d__law_lot, d__law_lone, d__law_marks, d__law_white_without, d__law_least_row, d__law_small_row, d__law_asked, d__law_fields_kept, d__law_lot_kept, d__law_refusals_kept, d_law]
def fa : List He.Fa := [.free "len", .free "min", .free "int", .free "tuple", .free "list", .free "sorted", .free "isinstance", .free "range", .free "enumerate", .free "bool", .free "str", .free "super", .free "sum", .free "zip", .str "NONE" ".", .str "FIRM" "f", .str "LOOSE" "l", .str "TOLD" "t", .int "MOST_COLUMNS" 600, .int "MOST_LINES" 800, .glo "is_whole", .glo "place_of", .glo "size_of", .glo "lot_of", .glo "lowest_pair", .glo "normal_number", .glo "nought_of", .glo "unit_of", .glo "add_numbers", .glo "mul_numbers", .glo "negated", .glo "need_field", .glo "is_hard", .glo "is_touched", .glo "check_line", .glo "normal_row", .glo "row_dot", .glo "flags_of", .glo "forced_now", .glo "broken_at", .glo "count_of_columns", .glo "fits_mark", .glo "fitting_row", .glo "marked_within", .glo "small_parts", .glo "small_row", .glo "small_weights", .glo "_law_next", .glo "_law_stream", .glo "_law_lines", .glo "_law_told_line", .glo "_law_lot", .glo "_law_lone", .glo "_law_marks", .glo "_law_white_without", .glo "_law_least_row", .glo "_law_small_row", .glo "_law_asked", .glo "_law_fields_kept", .glo "_law_lot_kept", .glo "_law_refusals_kept", .glo "law", .glo "Table", .cls "Table", .mkr "Table", .noat "Table" "columns", .noat "Table" "lines", .glo "Prime", .cls "Prime", .mkr "Prime", .glo "Fractions", .cls "Fractions", .mkr "Fractions", .glo "Weighted", .cls "Weighted", .mkr "Weighted", .noat "Weighted" "field", .noat "Weighted" "table", .noat "Weighted" "rows", .glo "Field", .noat "Prime" "prime", .noat "Fractions" "prime", .meth "Table" "__len__", .meth "Table" "touches", .meth "Weighted" "dots", .meth "Weighted" "silent", .exm "BadLot" "BadLot" true, .exm "BadLot" "NotFort" false, .exm "NotFort" "NotFort" true, .exm "NotFort" "BadLot" false]
def x_NoPlace : XD := ⟨"NoPlace", "NoPlace.__init__", defArgs (meth 13 0), defBody (meth 13 0), defScope (meth 13 0), ["place"]⟩
def x_BadLot : XD := ⟨"BadLot", "BadLot.__init__", defArgs (meth 6 0), defBody (meth 6 0), defScope (meth 6 0), ["place"]⟩
def x_BadMark : XD := ⟨"BadMark", "BadMark.__init__", defArgs (meth 7 0), defBody (meth 7 0), defScope (meth 7 0), ["row", "column"]⟩
def x_TooMany : XD := ⟨"TooMany", "TooMany.__init__", defArgs (meth 12 0), defBody (meth 12 0), defScope (meth 12 0), ["most"]⟩
def x_TwoTold : XD := ⟨"TwoTold", "TwoTold.__init__", defArgs (meth 8 0), defBody (meth 8 0), defScope (meth 8 0), ["row"]⟩
def x_BadNumber : XD := ⟨"BadNumber", "BadNumber.__init__", defArgs (meth 4 0), defBody (meth 4 0), defScope (meth 4 0), ["place"]⟩
def x_BadField : XD := ⟨"BadField", "BadField.__init__", defArgs (meth 5 0), defBody (meth 5 0), defScope (meth 5 0), ["size"]⟩
def x_OtherSize : XD := ⟨"OtherSize", "OtherSize.__init__", defArgs (meth 9 0), defBody (meth 9 0), defScope (meth 9 0), ["size"]⟩
def x_WrongWeight : XD := ⟨"WrongWeight", "WrongWeight.__init__", defArgs (meth 10 0), defBody (meth 10 0), defScope (meth 10 0), ["row", "column"]⟩
def x_NotFort : XD := ⟨"NotFort", "NotFort.__init__", defArgs (meth 14 0), defBody (meth 14 0), defScope (meth 14 0), ["row"]⟩
def x_Prime : XD := ⟨"Prime", "Prime.__init__", defArgs (meth 30 0), defBody (meth 30 0), defScope (meth 30 0), []⟩
def x_Fractions : XD := ⟨"Fractions", "Fractions.__init__", defArgs (meth 31 0), defBody (meth 31 0), defScope (meth 31 0), []⟩
def xs : List XD := [x_NoPlace, x_BadLot, x_BadMark, x_TooMany, x_TwoTold, x_BadNumber, x_BadField, x_OtherSize, x_WrongWeight, x_NotFort, x_Prime, x_Fractions]
def ext : List (Frag → Bool) := [xcB PW.main.file x_NoPlace, xcB PW.main.file x_BadLot, xcB PW.main.file x_BadMark, xcB PW.main.file x_TooMany, xcB PW.main.file x_TwoTold, xcB PW.main.file x_BadNumber, xcB PW.main.file x_BadField, xcB PW.main.file x_OtherSize, xcB PW.main.file x_WrongWeight, xcB PW.main.file x_NotFort, tupIB "PRIMES" [2, 3, 5, 7, 11, 13, 17, 19, 23, 29, 31, 37, 41, 43, 47, 53, 59, 61, 67, 71, 73, 79, 83, 89, 97], isoB "Prime" "Field" true, isoB "Fractions" "Field" true, scB PW.main.file x_Prime "Field", scB PW.main.file x_Fractions "Field"]
abbrev R : PySem.W.OpenRow := PySem.W.OpenLaw.row RW
def as : List Addr := ([3, 2, 6, 4, 49, 59, 81, 102, 123, 144, 165, 186, 207, 228, 249, 270, 291, 300, 307, 314, 321, 322, 329, 336, 343, 350, 357, 364, 371, 378] : List Addr) ++ ([472, 495, 516, 525, 532, 539, 546, 551, 556, 563, 568, 575, 582, 701, 712, 719, 726, 774, 783, 790, 795, 800, 807, 814, 821, 828, 833, 838, 843, 848] : List Addr) ++ ([855, 862, 869, 874, 879, 886, 891, 16, 20, 22, 27, 33, 38, 0, 48, 58, 80, 101, 122, 143, 164, 185, 206, 227, 248, 269, 290, 299, 306, 313] : List Addr) ++ ([320, 328, 335, 342, 349, 356, 363, 370, 377, 471, 494, 515, 524, 531, 538, 545, 550, 555, 562, 567, 574, 581, 700, 711, 718, 725, 773, 782, 789, 794] : List Addr) ++ ([799, 806, 813, 820, 827, 832, 837, 842, 847, 854, 861, 868, 873, 878, 885, 890, 15, 21, 26, 32, 43, 44, 45, 46, 47, 57, 60, 78, 79, 99] : List Addr) ++ ([100, 120, 121, 141, 142, 162, 163, 183, 184, 204, 205, 225, 226, 246, 247, 267, 268, 288, 289, 294, 295, 296, 297, 298, 301, 302, 303, 304, 305, 308] : List Addr) ++ ([309, 310, 311, 312, 315, 316, 317, 318, 319, 323, 324, 325, 326, 327, 330, 331, 332, 333, 334, 337, 338, 339, 340, 341, 344, 345, 346, 347, 348, 351] : List Addr) ++ ([352, 353, 354, 355, 358, 359, 360, 361, 362, 365, 366, 367, 368, 369, 372, 373, 374, 375, 376, 392, 399, 406, 413, 420, 427, 434, 441, 448, 455, 462] : List Addr) ++ ([469, 470, 473, 474, 492, 493, 513, 514, 519, 520, 521, 522, 523, 526, 527, 528, 529, 530, 533, 534, 535, 536, 537, 540, 541, 542, 543, 544, 547, 548] : List Addr) ++ ([549, 552, 553, 554, 557, 558, 559, 560, 561, 564, 565, 566, 569, 570, 571, 572, 573, 576, 577, 578, 579, 580, 594, 601, 608, 615, 622, 629, 634, 639] : List Addr) ++ ([646, 653, 660, 667, 674, 681, 688, 697, 699, 702, 703, 706, 707, 708, 709, 710, 713, 714, 715, 716, 717, 720, 721, 722, 723, 724, 738, 743, 750, 757] : List Addr) ++ ([764, 771, 772, 775, 776, 779, 780, 781, 784, 785, 786, 787, 788, 791, 792, 793, 796, 797, 798, 801, 802, 803, 804, 805, 808, 809, 810, 811, 812, 815] : List Addr) ++ ([816, 817, 818, 819, 822, 823, 824, 825, 826, 829, 830, 831, 834, 835, 836, 839, 840, 841, 844, 845, 846, 849, 850, 851, 852, 853, 856, 857, 858, 859] : List Addr) ++ ([860, 863, 864, 865, 866, 867, 870, 871, 872, 875, 876, 877, 880, 881, 882, 883, 884, 887, 888, 889, 17, 18, 19, 23, 24, 25, 28, 34, 35, 36] : List Addr) ++ ([77, 66, 98, 87, 119, 108, 140, 129, 161, 150, 182, 171, 203, 192, 224, 213, 245, 234, 266, 255, 287, 276, 391, 398, 405, 412, 419, 426, 433, 440] : List Addr) ++ ([447, 454, 461, 468, 491, 480, 512, 501, 593, 600, 607, 614, 621, 628, 633, 638, 645, 652, 659, 666, 673, 680, 687, 695, 696, 737, 742, 749, 756, 763] : List Addr) ++ ([770] : List Addr)
abbrev hk : PySem.W.Hook := hookL as fa fn ext xs
def ob (s : PySem.W.SharedT) : AlQ := obsL as fa fn ext xs (HandSHeadRun.getT s)
theorem ob_eq (s : PySem.W.SharedT) : ob s = hk.obs s.abs := obsL_eq (HandSHeadRun.getT_eq s)
def loose : List Str := (["gcd", "_wall", "InsideError", "BadNumber", "BadField", "BadLot", "BadMark", "TwoTold", "OtherSize", "WrongWeight", "BadText", "TooMany", "NoPlace", "NotFort", "is_whole", "size_of", "place_of", "lot_of", "PRIMES", "lowest_pair", "normal_number", "nought_of", "unit_of", "add_numbers", "mul_numbers", "negated", "reciprocal", "Field", "Prime", "Fractions"] : List Str) ++ (["need_field", "NONE", "FIRM", "LOOSE", "TOLD", "is_hard", "is_touched", "check_line", "normal_row", "row_dot", "flags_of", "forced_now", "broken_at", "MOST_COLUMNS", "MOST_LINES", "count_of_columns", "Table", "columns_read", "fits_mark", "fitting_row", "Weighted", "marked_within", "small_parts", "small_row", "small_weights", "_law_stream", "_law_next", "_law_lines", "_law_told_line", "_law_lot"] : List Str) ++ (["_law_lone", "_law_marks", "_law_white_without", "_law_least_row", "_law_small_row", "_law_asked", "_law_fields_kept", "_law_lot_kept", "_law_refusals_kept"] : List Str)
section
variable {w : World} {K : Frag} {h : Heap} {mg : Str → Option Value}
theorem tops (X : K.In h) (G : h.Ns mainGlobals mg) (c : SaysQ fa fn ext xs K) (base : Heap) : Tops K mg w base := by
  have q_NoPlace := xc_of (P := PW) (ps := ["self", "place"]) (ar := "self") (aa := ((defArgs (meth 13 0)).args.getD 0 default)) (SaysQ.xd c 0 (d := x_NoPlace) rfl) (SaysQ.ext c 0 (f := xcB PW.main.file x_NoPlace) rfl) rfl rfl (fun _ _ _ _ _ _ _ us hl => match us, hl with | [_, _], _ => rfl)
  have m_NoPlace : mg "NoPlace" = some (.ref (He.ga K "NoPlace")) := PySem.W.mg_of X G q_NoPlace.2.1
  have X_NoPlace : FnX PW w K mg base "NoPlace" ["place"] := by
    obtain ⟨⟨fd, T, hb⟩, _, hx⟩ := q_NoPlace
    exact ⟨m_NoPlace, T.oex, _, fd, _, T.ini, T.tyI, fn_x1 T (He.free_ok X G (c.d.fact 11 (f := .free "super") rfl)) (hx "place" (by decide)).noN, hb⟩
  have q_BadLot := xc_of (P := PW) (ps := ["self", "place"]) (ar := "self") (aa := ((defArgs (meth 6 0)).args.getD 0 default)) (SaysQ.xd c 1 (d := x_BadLot) rfl) (SaysQ.ext c 1 (f := xcB PW.main.file x_BadLot) rfl) rfl rfl (fun _ _ _ _ _ _ _ us hl => match us, hl with | [_, _], _ => rfl)
  have m_BadLot : mg "BadLot" = some (.ref (He.ga K "BadLot")) := PySem.W.mg_of X G q_BadLot.2.1
  have X_BadLot : FnX PW w K mg base "BadLot" ["place"] := by
    obtain ⟨⟨fd, T, hb⟩, _, hx⟩ := q_BadLot
    exact ⟨m_BadLot, T.oex, _, fd, _, T.ini, T.tyI, fn_x1 T (He.free_ok X G (c.d.fact 11 (f := .free "super") rfl)) (hx "place" (by decide)).noN, hb⟩
  have q_BadMark := xc_of (P := PW) (ps := ["self", "row", "column"]) (ar := "self") (aa := ((defArgs (meth 7 0)).args.getD 0 default)) (SaysQ.xd c 2 (d := x_BadMark) rfl) (SaysQ.ext c 2 (f := xcB PW.main.file x_BadMark) rfl) rfl rfl (fun _ _ _ _ _ _ _ us hl => match us, hl with | [_, _, _], _ => rfl)
  have m_BadMark : mg "BadMark" = some (.ref (He.ga K "BadMark")) := PySem.W.mg_of X G q_BadMark.2.1
  have X_BadMark : FnX PW w K mg base "BadMark" ["row", "column"] := by
    obtain ⟨⟨fd, T, hb⟩, _, hx⟩ := q_BadMark
    exact ⟨m_BadMark, T.oex, _, fd, _, T.ini, T.tyI, fn_x2 T (He.free_ok X G (c.d.fact 11 (f := .free "super") rfl)) (hx "row" (by decide)).noN (hx "column" (by decide)).noN, hb⟩
  have q_TooMany := xc_of (P := PW) (ps := ["self", "most"]) (ar := "self") (aa := ((defArgs (meth 12 0)).args.getD 0 default)) (SaysQ.xd c 3 (d := x_TooMany) rfl) (SaysQ.ext c 3 (f := xcB PW.main.file x_TooMany) rfl) rfl rfl (fun _ _ _ _ _ _ _ us hl => match us, hl with | [_, _], _ => rfl)
  have m_TooMany : mg "TooMany" = some (.ref (He.ga K "TooMany")) := PySem.W.mg_of X G q_TooMany.2.1
  have X_TooMany : FnX PW w K mg base "TooMany" ["most"] := by
    obtain ⟨⟨fd, T, hb⟩, _, hx⟩ := q_TooMany
    exact ⟨m_TooMany, T.oex, _, fd, _, T.ini, T.tyI, fn_x1 T (He.free_ok X G (c.d.fact 11 (f := .free "super") rfl)) (hx "most" (by decide)).noN, hb⟩
  have q_TwoTold := xc_of (P := PW) (ps := ["self", "row"]) (ar := "self") (aa := ((defArgs (meth 8 0)).args.getD 0 default)) (SaysQ.xd c 4 (d := x_TwoTold) rfl) (SaysQ.ext c 4 (f := xcB PW.main.file x_TwoTold) rfl) rfl rfl (fun _ _ _ _ _ _ _ us hl => match us, hl with | [_, _], _ => rfl)
  have m_TwoTold : mg "TwoTold" = some (.ref (He.ga K "TwoTold")) := PySem.W.mg_of X G q_TwoTold.2.1
  have X_TwoTold : FnX PW w K mg base "TwoTold" ["row"] := by
    obtain ⟨⟨fd, T, hb⟩, _, hx⟩ := q_TwoTold
    exact ⟨m_TwoTold, T.oex, _, fd, _, T.ini, T.tyI, fn_x1 T (He.free_ok X G (c.d.fact 11 (f := .free "super") rfl)) (hx "row" (by decide)).noN, hb⟩
  have q_BadNumber := xc_of (P := PW) (ps := ["self", "place"]) (ar := "self") (aa := ((defArgs (meth 4 0)).args.getD 0 default)) (SaysQ.xd c 5 (d := x_BadNumber) rfl) (SaysQ.ext c 5 (f := xcB PW.main.file x_BadNumber) rfl) rfl rfl (fun _ _ _ _ _ _ _ us hl => match us, hl with | [_, _], _ => rfl)
  have m_BadNumber : mg "BadNumber" = some (.ref (He.ga K "BadNumber")) := PySem.W.mg_of X G q_BadNumber.2.1
  have X_BadNumber : FnX PW w K mg base "BadNumber" ["place"] := by
    obtain ⟨⟨fd, T, hb⟩, _, hx⟩ := q_BadNumber
    exact ⟨m_BadNumber, T.oex, _, fd, _, T.ini, T.tyI, fn_x1 T (He.free_ok X G (c.d.fact 11 (f := .free "super") rfl)) (hx "place" (by decide)).noN, hb⟩
  have q_BadField := xc_of (P := PW) (ps := ["self", "size"]) (ar := "self") (aa := ((defArgs (meth 5 0)).args.getD 0 default)) (SaysQ.xd c 6 (d := x_BadField) rfl) (SaysQ.ext c 6 (f := xcB PW.main.file x_BadField) rfl) rfl rfl (fun _ _ _ _ _ _ _ us hl => match us, hl with | [_, _], _ => rfl)
  have m_BadField : mg "BadField" = some (.ref (He.ga K "BadField")) := PySem.W.mg_of X G q_BadField.2.1
  have X_BadField : FnX PW w K mg base "BadField" ["size"] := by
    obtain ⟨⟨fd, T, hb⟩, _, hx⟩ := q_BadField
    exact ⟨m_BadField, T.oex, _, fd, _, T.ini, T.tyI, fn_x1 T (He.free_ok X G (c.d.fact 11 (f := .free "super") rfl)) (hx "size" (by decide)).noN, hb⟩
  have q_OtherSize := xc_of (P := PW) (ps := ["self", "size"]) (ar := "self") (aa := ((defArgs (meth 9 0)).args.getD 0 default)) (SaysQ.xd c 7 (d := x_OtherSize) rfl) (SaysQ.ext c 7 (f := xcB PW.main.file x_OtherSize) rfl) rfl rfl (fun _ _ _ _ _ _ _ us hl => match us, hl with | [_, _], _ => rfl)
  have m_OtherSize : mg "OtherSize" = some (.ref (He.ga K "OtherSize")) := PySem.W.mg_of X G q_OtherSize.2.1
  have X_OtherSize : FnX PW w K mg base "OtherSize" ["size"] := by
    obtain ⟨⟨fd, T, hb⟩, _, hx⟩ := q_OtherSize
    exact ⟨m_OtherSize, T.oex, _, fd, _, T.ini, T.tyI, fn_x1 T (He.free_ok X G (c.d.fact 11 (f := .free "super") rfl)) (hx "size" (by decide)).noN, hb⟩
  have q_WrongWeight := xc_of (P := PW) (ps := ["self", "row", "column"]) (ar := "self") (aa := ((defArgs (meth 10 0)).args.getD 0 default)) (SaysQ.xd c 8 (d := x_WrongWeight) rfl) (SaysQ.ext c 8 (f := xcB PW.main.file x_WrongWeight) rfl) rfl rfl (fun _ _ _ _ _ _ _ us hl => match us, hl with | [_, _, _], _ => rfl)
  have m_WrongWeight : mg "WrongWeight" = some (.ref (He.ga K "WrongWeight")) := PySem.W.mg_of X G q_WrongWeight.2.1
  have X_WrongWeight : FnX PW w K mg base "WrongWeight" ["row", "column"] := by
    obtain ⟨⟨fd, T, hb⟩, _, hx⟩ := q_WrongWeight
    exact ⟨m_WrongWeight, T.oex, _, fd, _, T.ini, T.tyI, fn_x2 T (He.free_ok X G (c.d.fact 11 (f := .free "super") rfl)) (hx "row" (by decide)).noN (hx "column" (by decide)).noN, hb⟩
  have q_NotFort := xc_of (P := PW) (ps := ["self", "row"]) (ar := "self") (aa := ((defArgs (meth 14 0)).args.getD 0 default)) (SaysQ.xd c 9 (d := x_NotFort) rfl) (SaysQ.ext c 9 (f := xcB PW.main.file x_NotFort) rfl) rfl rfl (fun _ _ _ _ _ _ _ us hl => match us, hl with | [_, _], _ => rfl)
  have m_NotFort : mg "NotFort" = some (.ref (He.ga K "NotFort")) := PySem.W.mg_of X G q_NotFort.2.1
  have X_NotFort : FnX PW w K mg base "NotFort" ["row"] := by
    obtain ⟨⟨fd, T, hb⟩, _, hx⟩ := q_NotFort
    exact ⟨m_NotFort, T.oex, _, fd, _, T.ini, T.tyI, fn_x1 T (He.free_ok X G (c.d.fact 11 (f := .free "super") rfl)) (hx "row" (by decide)).noN, hb⟩
  exact {
    n_len := He.free_ok X G (c.d.fact 0 (f := .free "len") rfl)
    n_min := He.free_ok X G (c.d.fact 1 (f := .free "min") rfl)
    n_int := He.free_ok X G (c.d.fact 2 (f := .free "int") rfl)
    n_tuple := He.free_ok X G (c.d.fact 3 (f := .free "tuple") rfl)
    n_list := He.free_ok X G (c.d.fact 4 (f := .free "list") rfl)
    n_sorted := He.free_ok X G (c.d.fact 5 (f := .free "sorted") rfl)
    n_isinstance := He.free_ok X G (c.d.fact 6 (f := .free "isinstance") rfl)
    n_range := He.free_ok X G (c.d.fact 7 (f := .free "range") rfl)
    n_enumerate := He.free_ok X G (c.d.fact 8 (f := .free "enumerate") rfl)
    n_bool := He.free_ok X G (c.d.fact 9 (f := .free "bool") rfl)
    n_str := He.free_ok X G (c.d.fact 10 (f := .free "str") rfl)
    n_super := He.free_ok X G (c.d.fact 11 (f := .free "super") rfl)
    n_sum := He.free_ok X G (c.d.fact 12 (f := .free "sum") rfl)
    n_zip := He.free_ok X G (c.d.fact 13 (f := .free "zip") rfl)
    c_NONE := He.str_ok X G (c.d.fact 14 (f := .str "NONE" ".") rfl)
    c_FIRM := He.str_ok X G (c.d.fact 15 (f := .str "FIRM" "f") rfl)
    c_LOOSE := He.str_ok X G (c.d.fact 16 (f := .str "LOOSE" "l") rfl)
    c_TOLD := He.str_ok X G (c.d.fact 17 (f := .str "TOLD" "t") rfl)
    c_MOST_COLUMNS := He.int_ok X G (c.d.fact 18 (f := .int "MOST_COLUMNS" 600) rfl)
    c_MOST_LINES := He.int_ok X G (c.d.fact 19 (f := .int "MOST_LINES" 800) rfl)
    c_PRIMES := tupIB_ok X G (by decide) (SaysQ.ext c 10 (f := tupIB "PRIMES" [2, 3, 5, 7, 11, 13, 17, 19, 23, 29, 31, 37, 41, 43, 47, 53, 59, 61, 67, 71, 73, 79, 83, 89, 97]) rfl)
    x_NoPlace := X_NoPlace
    x_BadLot := X_BadLot
    x_BadMark := X_BadMark
    x_TooMany := X_TooMany
    x_TwoTold := X_TwoTold
    x_BadNumber := X_BadNumber
    x_BadField := X_BadField
    x_OtherSize := X_OtherSize
    x_WrongWeight := X_WrongWeight
    x_NotFort := X_NotFort
    fo_Table_columns := fldOk1 (He.cls_ok (c.d.fact 63 (f := .cls "Table") rfl)) (He.noat_ok (c.d.fact 65 (f := .noat "Table" "columns") rfl))
    fo_Table_lines := fldOk1 (He.cls_ok (c.d.fact 63 (f := .cls "Table") rfl)) (He.noat_ok (c.d.fact 66 (f := .noat "Table" "lines") rfl))
    fo_Weighted_field := fldOk1 (He.cls_ok (c.d.fact 74 (f := .cls "Weighted") rfl)) (He.noat_ok (c.d.fact 76 (f := .noat "Weighted" "field") rfl))
    fo_Weighted_table := fldOk1 (He.cls_ok (c.d.fact 74 (f := .cls "Weighted") rfl)) (He.noat_ok (c.d.fact 77 (f := .noat "Weighted" "table") rfl))
    fo_Weighted_rows := fldOk1 (He.cls_ok (c.d.fact 74 (f := .cls "Weighted") rfl)) (He.noat_ok (c.d.fact 78 (f := .noat "Weighted" "rows") rfl))
    fo_Field_prime := fldOkL fun c' hc => by
      simp only [List.mem_cons, List.not_mem_nil, or_false] at hc
      rcases hc with rfl | rfl
      · exact ⟨He.cls_ok (c.d.fact 68 (f := .cls "Prime") rfl), He.noat_ok (c.d.fact 80 (f := .noat "Prime" "prime") rfl)⟩
      · exact ⟨He.cls_ok (c.d.fact 71 (f := .cls "Fractions") rfl), He.noat_ok (c.d.fact 81 (f := .noat "Fractions" "prime") rfl)⟩
    g_Field := He.glo_ok X G (c.d.fact 79 (f := .glo "Field") rfl)
    iso_Field := fun q hq => by
      simp only [List.mem_cons, List.not_mem_nil, or_false] at hq
      rcases hq with rfl | rfl
      · exact isoB_ok (SaysQ.ext c 11 (f := isoB "Prime" "Field" true) rfl) (He.cls_ok (c.d.fact 68 (f := .cls "Prime") rfl))
      · exact isoB_ok (SaysQ.ext c 12 (f := isoB "Fractions" "Field" true) rfl) (He.cls_ok (c.d.fact 71 (f := .cls "Fractions") rfl))
    g_BadLot := m_BadLot
    g_NotFort := m_NotFort
    g_BadNumber := m_BadNumber
    xg_BadLot_place := fun d hd => by
      cases List.mem_singleton.mp hd
      exact q_BadLot.2.2 "place" (by decide)
    xg_NotFort_row := fun d hd => by
      cases List.mem_singleton.mp hd
      exact q_NotFort.2.2 "row" (by decide)
    exm := fun c' x b e => by
      unfold exmT at e
      cases z : exmL.find? fun p => p.1 == c' && p.2.1 == x with
      | none => rw [z] at e; cases e
      | some p =>
        rw [z] at e
        have e3 : p.2.2 = b := Option.some.inj e
        have h1 := List.mem_of_find?_eq_some z
        have h2 := List.find?_some z
        obtain ⟨h3, h4⟩ := He.ba h2
        have h5 : p.1 = c' := by simpa using h3
        have h6 : p.2.1 = x := by simpa using h4
        subst h5 h6 e3
        have key : ∀ p ∈ exmL, PySem.W.exmOne K (.ref (He.ga K p.1)) (.ref (He.ga K p.2.1)) = some p.2.2 := by
          intro p hp
          simp only [exmL, List.mem_cons, List.not_mem_nil, or_false] at hp
          rcases hp with rfl | rfl | rfl | rfl
          · exact He.exm_ok (c.d.fact 86 (f := .exm "BadLot" "BadLot" true) rfl)
          · exact He.exm_ok (c.d.fact 87 (f := .exm "BadLot" "NotFort" false) rfl)
          · exact He.exm_ok (c.d.fact 88 (f := .exm "NotFort" "NotFort" true) rfl)
          · exact He.exm_ok (c.d.fact 89 (f := .exm "NotFort" "BadLot" false) rfl)
        exact key p h1 }
theorem law_ok (X : K.In h) (G : h.Ns mainGlobals mg) (c : SaysQ fa fn ext xs K) : ∃ fd : FuncData, (∀ (s : Shared) (v : Value), BindsTo s fd ⟨[v], []⟩ [("script", v)]) ∧ ∀ base : Heap, FnOk PW w K mg base (L2.CX PW w) 11 (He.ga K "law") fd ["script"] (spOf K fi_law) := by
  obtain ⟨fd_law, F_law⟩ := c.d.def_ 48 (d := d_law) rfl
  have b := FunD.bindsA (ps := ["script"]) F_law fun _ _ _ _ _ _ us hl => match us, hl with | [_], _ => rfl
  refine ⟨fd_law, fun s v => b s [v] rfl, fun base => ?_⟩
  have T := tops (w := w) X G c base
  obtain ⟨fd_is_whole, F_is_whole⟩ := c.d.def_ 0 (d := d_is_whole) rfl
  have G_is_whole := w_is_whole (w := w) (base := base) T  F_is_whole
  have f_is_whole : FnB PW w K mg base "is_whole" fi_is_whole [] 3 := fnB0 (He.glo_ok X G (c.d.fact 20 (f := .glo "is_whole") rfl)) F_is_whole G_is_whole (FunD.bindsN (ps := ["value"]) F_is_whole fun _ _ _ _ _ _ us hl => match us, hl with | [_], _ => rfl)
  obtain ⟨fd_place_of, F_place_of⟩ := c.d.def_ 1 (d := d_place_of) rfl
  have G_place_of := w_place_of (w := w) (base := base) T f_is_whole F_place_of
  have f_place_of : FnB PW w K mg base "place_of" fi_place_of [] 4 := fnB0 (He.glo_ok X G (c.d.fact 21 (f := .glo "place_of") rfl)) F_place_of G_place_of (FunD.bindsN (ps := ["place", "size"]) F_place_of fun _ _ _ _ _ _ us hl => match us, hl with | [_, _], _ => rfl)
  obtain ⟨fd_size_of, F_size_of⟩ := c.d.def_ 2 (d := d_size_of) rfl
  have G_size_of := w_size_of (w := w) (base := base) T f_is_whole F_size_of
  have f_size_of : FnB PW w K mg base "size_of" fi_size_of [] 4 := fnB0 (He.glo_ok X G (c.d.fact 22 (f := .glo "size_of") rfl)) F_size_of G_size_of (FunD.bindsN (ps := ["size"]) F_size_of fun _ _ _ _ _ _ us hl => match us, hl with | [_], _ => rfl)
  obtain ⟨fd_lot_of, F_lot_of⟩ := c.d.def_ 3 (d := d_lot_of) rfl
  have G_lot_of := w_lot_of (w := w) (base := base) T f_is_whole F_lot_of
  have f_lot_of : FnB PW w K mg base "lot_of" fi_lot_of [] 4 := fnB0 (He.glo_ok X G (c.d.fact 23 (f := .glo "lot_of") rfl)) F_lot_of G_lot_of (FunD.bindsN (ps := ["lot", "size"]) F_lot_of fun _ _ _ _ _ _ us hl => match us, hl with | [_, _], _ => rfl)
  obtain ⟨fd_lowest_pair, F_lowest_pair⟩ := c.d.def_ 4 (d := d_lowest_pair) rfl
  have G_lowest_pair := w_lowest_pair (w := w) (base := base) T  F_lowest_pair
  have f_lowest_pair : FnB PW w K mg base "lowest_pair" fi_lowest_pair [] 3 := fnB0 (He.glo_ok X G (c.d.fact 24 (f := .glo "lowest_pair") rfl)) F_lowest_pair G_lowest_pair (FunD.bindsN (ps := ["top", "bottom"]) F_lowest_pair fun _ _ _ _ _ _ us hl => match us, hl with | [_, _], _ => rfl)
  obtain ⟨fd_normal_number, F_normal_number⟩ := c.d.def_ 5 (d := d_normal_number) rfl
  have G_normal_number := w_normal_number (w := w) (base := base) T f_is_whole f_lowest_pair F_normal_number
  have f_normal_number : FnB PW w K mg base "normal_number" fi_normal_number [] 4 := fnB0 (He.glo_ok X G (c.d.fact 25 (f := .glo "normal_number") rfl)) F_normal_number G_normal_number (FunD.bindsN (ps := ["prime", "value", "place"]) F_normal_number fun _ _ _ _ _ _ us hl => match us, hl with | [_, _, _], _ => rfl)
  obtain ⟨fd_nought_of, F_nought_of⟩ := c.d.def_ 6 (d := d_nought_of) rfl
  have G_nought_of := w_nought_of (w := w) (base := base) T  F_nought_of
  have f_nought_of : FnB PW w K mg base "nought_of" fi_nought_of [] 3 := fnB0 (He.glo_ok X G (c.d.fact 26 (f := .glo "nought_of") rfl)) F_nought_of G_nought_of (FunD.bindsN (ps := ["prime"]) F_nought_of fun _ _ _ _ _ _ us hl => match us, hl with | [_], _ => rfl)
  obtain ⟨fd_unit_of, F_unit_of⟩ := c.d.def_ 7 (d := d_unit_of) rfl
  have G_unit_of := w_unit_of (w := w) (base := base) T  F_unit_of
  have f_unit_of : FnB PW w K mg base "unit_of" fi_unit_of [] 3 := fnB0 (He.glo_ok X G (c.d.fact 27 (f := .glo "unit_of") rfl)) F_unit_of G_unit_of (FunD.bindsN (ps := ["prime"]) F_unit_of fun _ _ _ _ _ _ us hl => match us, hl with | [_], _ => rfl)
  obtain ⟨fd_add_numbers, F_add_numbers⟩ := c.d.def_ 8 (d := d_add_numbers) rfl
  have G_add_numbers := w_add_numbers (w := w) (base := base) T f_lowest_pair F_add_numbers
  have f_add_numbers : FnB PW w K mg base "add_numbers" fi_add_numbers [] 4 := fnB0 (He.glo_ok X G (c.d.fact 28 (f := .glo "add_numbers") rfl)) F_add_numbers G_add_numbers (FunD.bindsN (ps := ["prime", "first", "second"]) F_add_numbers fun _ _ _ _ _ _ us hl => match us, hl with | [_, _, _], _ => rfl)
  obtain ⟨fd_mul_numbers, F_mul_numbers⟩ := c.d.def_ 9 (d := d_mul_numbers) rfl
  have G_mul_numbers := w_mul_numbers (w := w) (base := base) T f_lowest_pair F_mul_numbers
  have f_mul_numbers : FnB PW w K mg base "mul_numbers" fi_mul_numbers [] 4 := fnB0 (He.glo_ok X G (c.d.fact 29 (f := .glo "mul_numbers") rfl)) F_mul_numbers G_mul_numbers (FunD.bindsN (ps := ["prime", "first", "second"]) F_mul_numbers fun _ _ _ _ _ _ us hl => match us, hl with | [_, _, _], _ => rfl)
  obtain ⟨fd_negated, F_negated⟩ := c.d.def_ 10 (d := d_negated) rfl
  have G_negated := w_negated (w := w) (base := base) T  F_negated
  have f_negated : FnB PW w K mg base "negated" fi_negated [] 3 := fnB0 (He.glo_ok X G (c.d.fact 30 (f := .glo "negated") rfl)) F_negated G_negated (FunD.bindsN (ps := ["prime", "first"]) F_negated fun _ _ _ _ _ _ us hl => match us, hl with | [_, _], _ => rfl)
  obtain ⟨fd_Field_init, F_Field_init⟩ := c.d.def_ 11 (d := d_Field_init) rfl
  have G_Field_init := w_Field_init (w := w) (base := base) T  F_Field_init
  have F2_Field : FnR PW w K mg base (L2.CX PW w) 3 (xAd K "Field") (spOf K fi_Field_init) := fnR_of G_Field_init (FunD.bindsN (ps := ["self", "prime"]) F_Field_init fun _ _ _ _ _ _ us hl => match us, hl with | [_, _], _ => rfl)
  obtain ⟨fd_Prime_init, G_Prime_init, B_Prime_init⟩ := w_Prime_init (w := w) (base := base) T f_is_whole F2_Field (sc_of (P := PW) (ps := ["self", "prime"]) (ar := "self") (aa := ((defArgs (meth 30 0)).args.getD 0 default)) (SaysQ.xd c 10 (d := x_Prime) rfl) (SaysQ.ext c 13 (f := scB PW.main.file x_Prime "Field") rfl) rfl rfl (fun _ _ _ _ _ _ _ us hl => match us, hl with | [_, _], _ => rfl))
  have k_Prime_init : FnK PW w K mg base "Prime" fi_Prime_init [] 4 := fnK0 (He.glo_ok X G (c.d.fact 67 (f := .glo "Prime") rfl)) (He.mkr_ok (c.d.fact 69 (f := .mkr "Prime") rfl)) G_Prime_init B_Prime_init
  obtain ⟨fd_Fractions_init, G_Fractions_init, B_Fractions_init⟩ := w_Fractions_init (w := w) (base := base) T  F2_Field (sc_of (P := PW) (ps := ["self"]) (ar := "self") (aa := ((defArgs (meth 31 0)).args.getD 0 default)) (SaysQ.xd c 11 (d := x_Fractions) rfl) (SaysQ.ext c 14 (f := scB PW.main.file x_Fractions "Field") rfl) rfl rfl (fun _ _ _ _ _ _ _ us hl => match us, hl with | [_], _ => rfl))
  have k_Fractions_init : FnK PW w K mg base "Fractions" fi_Fractions_init [] 4 := fnK0 (He.glo_ok X G (c.d.fact 70 (f := .glo "Fractions") rfl)) (He.mkr_ok (c.d.fact 72 (f := .mkr "Fractions") rfl)) G_Fractions_init B_Fractions_init
  obtain ⟨fd_need_field, F_need_field⟩ := c.d.def_ 12 (d := d_need_field) rfl
  have G_need_field := w_need_field (w := w) (base := base) T  F_need_field
  have f_need_field : FnB PW w K mg base "need_field" fi_need_field [] 3 := fnB0 (He.glo_ok X G (c.d.fact 31 (f := .glo "need_field") rfl)) F_need_field G_need_field (FunD.bindsN (ps := ["field"]) F_need_field fun _ _ _ _ _ _ us hl => match us, hl with | [_], _ => rfl)
  obtain ⟨fd_is_hard, F_is_hard⟩ := c.d.def_ 13 (d := d_is_hard) rfl
  have G_is_hard := w_is_hard (w := w) (base := base) T  F_is_hard
  have f_is_hard : FnB PW w K mg base "is_hard" fi_is_hard [] 3 := fnB0 (He.glo_ok X G (c.d.fact 32 (f := .glo "is_hard") rfl)) F_is_hard G_is_hard (FunD.bindsN (ps := ["mark"]) F_is_hard fun _ _ _ _ _ _ us hl => match us, hl with | [_], _ => rfl)
  obtain ⟨fd_is_touched, F_is_touched⟩ := c.d.def_ 14 (d := d_is_touched) rfl
  have G_is_touched := w_is_touched (w := w) (base := base) T  F_is_touched
  have f_is_touched : FnB PW w K mg base "is_touched" fi_is_touched [] 3 := fnB0 (He.glo_ok X G (c.d.fact 33 (f := .glo "is_touched") rfl)) F_is_touched G_is_touched (FunD.bindsN (ps := ["mark"]) F_is_touched fun _ _ _ _ _ _ us hl => match us, hl with | [_], _ => rfl)
  obtain ⟨fd_check_line, F_check_line⟩ := c.d.def_ 15 (d := d_check_line) rfl
  have G_check_line := w_check_line (w := w) (base := base) T f_is_touched F_check_line
  have f_check_line : FnB PW w K mg base "check_line" fi_check_line [] 4 := fnB0 (He.glo_ok X G (c.d.fact 34 (f := .glo "check_line") rfl)) F_check_line G_check_line (FunD.bindsN (ps := ["line", "size", "row"]) F_check_line fun _ _ _ _ _ _ us hl => match us, hl with | [_, _, _], _ => rfl)
  obtain ⟨fd_normal_row, F_normal_row⟩ := c.d.def_ 16 (d := d_normal_row) rfl
  have G_normal_row := w_normal_row (w := w) (base := base) T f_normal_number F_normal_row
  have f_normal_row : FnB PW w K mg base "normal_row" fi_normal_row [] 5 := fnB0 (He.glo_ok X G (c.d.fact 35 (f := .glo "normal_row") rfl)) F_normal_row G_normal_row (FunD.bindsN (ps := ["prime", "numbers", "size"]) F_normal_row fun _ _ _ _ _ _ us hl => match us, hl with | [_, _, _], _ => rfl)
  obtain ⟨fd_row_dot, F_row_dot⟩ := c.d.def_ 17 (d := d_row_dot) rfl
  have G_row_dot := w_row_dot (w := w) (base := base) T f_add_numbers f_mul_numbers F_row_dot
  have f_row_dot : FnB PW w K mg base "row_dot" fi_row_dot [] 5 := fnB0 (He.glo_ok X G (c.d.fact 36 (f := .glo "row_dot") rfl)) F_row_dot G_row_dot (FunD.bindsN (ps := ["prime", "one", "other"]) F_row_dot fun _ _ _ _ _ _ us hl => match us, hl with | [_, _, _], _ => rfl)
  obtain ⟨fd_flags_of, F_flags_of⟩ := c.d.def_ 18 (d := d_flags_of) rfl
  have G_flags_of := w_flags_of (w := w) (base := base) T  F_flags_of
  have f_flags_of : FnB PW w K mg base "flags_of" fi_flags_of [] 3 := fnB0 (He.glo_ok X G (c.d.fact 37 (f := .glo "flags_of") rfl)) F_flags_of G_flags_of (FunD.bindsN (ps := ["lot", "size"]) F_flags_of fun _ _ _ _ _ _ us hl => match us, hl with | [_, _], _ => rfl)
  obtain ⟨fd_forced_now, F_forced_now⟩ := c.d.def_ 19 (d := d_forced_now) rfl
  have G_forced_now := w_forced_now (w := w) (base := base) T f_is_hard F_forced_now
  have f_forced_now : FnB PW w K mg base "forced_now" fi_forced_now [] 4 := fnB0 (He.glo_ok X G (c.d.fact 38 (f := .glo "forced_now") rfl)) F_forced_now G_forced_now (FunD.bindsN (ps := ["line", "touched", "white"]) F_forced_now fun _ _ _ _ _ _ us hl => match us, hl with | [_, _, _], _ => rfl)
  obtain ⟨fd_Table_len, F_Table_len⟩ := c.d.def_ 20 (d := d_Table_len) rfl
  have G_Table_len := w_Table_len (w := w) (base := base) T  F_Table_len
  have m_Table_len : FnM PW w K mg base ["Table"] "__len__" fi_Table_len [] 3 := fnM0 (He.cls_ok (c.d.fact 63 (f := .cls "Table") rfl)) (He.meth_ok (c.d.fact 82 (f := .meth "Table" "__len__") rfl)) G_Table_len (FunD.bindsN (ps := ["self"]) F_Table_len fun _ _ _ _ _ _ us hl => match us, hl with | [_], _ => rfl)
  obtain ⟨fd_Table_touches, F_Table_touches⟩ := c.d.def_ 21 (d := d_Table_touches) rfl
  have G_Table_touches := w_Table_touches (w := w) (base := base) T f_is_touched f_place_of F_Table_touches
  have m_Table_touches : FnM PW w K mg base ["Table"] "touches" fi_Table_touches [] 5 := fnM0 (He.cls_ok (c.d.fact 63 (f := .cls "Table") rfl)) (He.meth_ok (c.d.fact 83 (f := .meth "Table" "touches") rfl)) G_Table_touches (FunD.bindsN (ps := ["self", "row"]) F_Table_touches fun _ _ _ _ _ _ us hl => match us, hl with | [_, _], _ => rfl)
  obtain ⟨fd_broken_at, F_broken_at⟩ := c.d.def_ 22 (d := d_broken_at) rfl
  have G_broken_at := w_broken_at (w := w) (base := base) T f_flags_of f_forced_now f_lot_of m_Table_len m_Table_touches F_broken_at
  have f_broken_at : FnB PW w K mg base "broken_at" fi_broken_at [] 6 := fnB0 (He.glo_ok X G (c.d.fact 39 (f := .glo "broken_at") rfl)) F_broken_at G_broken_at (FunD.bindsN (ps := ["table", "lot"]) F_broken_at fun _ _ _ _ _ _ us hl => match us, hl with | [_, _], _ => rfl)
  obtain ⟨fd_count_of_columns, F_count_of_columns⟩ := c.d.def_ 23 (d := d_count_of_columns) rfl
  have G_count_of_columns := w_count_of_columns (w := w) (base := base) T f_size_of F_count_of_columns
  have f_count_of_columns : FnB PW w K mg base "count_of_columns" fi_count_of_columns [] 5 := fnB0 (He.glo_ok X G (c.d.fact 40 (f := .glo "count_of_columns") rfl)) F_count_of_columns G_count_of_columns (FunD.bindsN (ps := ["columns"]) F_count_of_columns fun _ _ _ _ _ _ us hl => match us, hl with | [_], _ => rfl)
  obtain ⟨fd_Table_init, F_Table_init⟩ := c.d.def_ 24 (d := d_Table_init) rfl
  have G_Table_init := w_Table_init (w := w) (base := base) T f_check_line f_count_of_columns F_Table_init
  have k_Table_init : FnK PW w K mg base "Table" fi_Table_init [] 6 := fnK0 (He.glo_ok X G (c.d.fact 62 (f := .glo "Table") rfl)) (He.mkr_ok (c.d.fact 64 (f := .mkr "Table") rfl)) G_Table_init (FunD.bindsN (ps := ["self", "columns", "lines"]) F_Table_init fun _ _ _ _ _ _ us hl => match us, hl with | [_, _, _], _ => rfl)
  obtain ⟨fd_fits_mark, F_fits_mark⟩ := c.d.def_ 25 (d := d_fits_mark) rfl
  have G_fits_mark := w_fits_mark (w := w) (base := base) T f_negated f_nought_of f_unit_of F_fits_mark
  have f_fits_mark : FnB PW w K mg base "fits_mark" fi_fits_mark [] 4 := fnB0 (He.glo_ok X G (c.d.fact 41 (f := .glo "fits_mark") rfl)) F_fits_mark G_fits_mark (FunD.bindsN (ps := ["prime", "mark", "number"]) F_fits_mark fun _ _ _ _ _ _ us hl => match us, hl with | [_, _, _], _ => rfl)
  obtain ⟨fd_fitting_row, F_fitting_row⟩ := c.d.def_ 26 (d := d_fitting_row) rfl
  have G_fitting_row := w_fitting_row (w := w) (base := base) T f_fits_mark f_normal_row F_fitting_row
  have f_fitting_row : FnB PW w K mg base "fitting_row" fi_fitting_row [] 6 := fnB0 (He.glo_ok X G (c.d.fact 42 (f := .glo "fitting_row") rfl)) F_fitting_row G_fitting_row (FunD.bindsN (ps := ["field", "line", "row", "numbers"]) F_fitting_row fun _ _ _ _ _ _ us hl => match us, hl with | [_, _, _, _], _ => rfl)
  obtain ⟨fd_Weighted_init, F_Weighted_init⟩ := c.d.def_ 27 (d := d_Weighted_init) rfl
  have G_Weighted_init := w_Weighted_init (w := w) (base := base) T f_fitting_row f_need_field m_Table_len F_Weighted_init
  have k_Weighted_init : FnK PW w K mg base "Weighted" fi_Weighted_init [] 7 := fnK0 (He.glo_ok X G (c.d.fact 73 (f := .glo "Weighted") rfl)) (He.mkr_ok (c.d.fact 75 (f := .mkr "Weighted") rfl)) G_Weighted_init (FunD.bindsN (ps := ["self", "field", "table", "rows"]) F_Weighted_init fun _ _ _ _ _ _ us hl => match us, hl with | [_, _, _, _], _ => rfl)
  obtain ⟨fd_Weighted_dots, F_Weighted_dots⟩ := c.d.def_ 28 (d := d_Weighted_dots) rfl
  have G_Weighted_dots := w_Weighted_dots (w := w) (base := base) T f_normal_row f_row_dot F_Weighted_dots
  have m_Weighted_dots : FnM PW w K mg base ["Weighted"] "dots" fi_Weighted_dots [] 6 := fnM0 (He.cls_ok (c.d.fact 74 (f := .cls "Weighted") rfl)) (He.meth_ok (c.d.fact 84 (f := .meth "Weighted" "dots") rfl)) G_Weighted_dots (FunD.bindsN (ps := ["self", "vector"]) F_Weighted_dots fun _ _ _ _ _ _ us hl => match us, hl with | [_, _], _ => rfl)
  obtain ⟨fd_Weighted_silent, F_Weighted_silent⟩ := c.d.def_ 29 (d := d_Weighted_silent) rfl
  have G_Weighted_silent := w_Weighted_silent (w := w) (base := base) T f_nought_of m_Weighted_dots F_Weighted_silent
  have m_Weighted_silent : FnM PW w K mg base ["Weighted"] "silent" fi_Weighted_silent [] 7 := fnM0 (He.cls_ok (c.d.fact 74 (f := .cls "Weighted") rfl)) (He.meth_ok (c.d.fact 85 (f := .meth "Weighted" "silent") rfl)) G_Weighted_silent (FunD.bindsN (ps := ["self", "vector"]) F_Weighted_silent fun _ _ _ _ _ _ us hl => match us, hl with | [_, _], _ => rfl)
  obtain ⟨fd_marked_within, F_marked_within⟩ := c.d.def_ 30 (d := d_marked_within) rfl
  have G_marked_within := w_marked_within (w := w) (base := base) T  F_marked_within
  have f_marked_within : FnB PW w K mg base "marked_within" fi_marked_within [] 3 := fnB0 (He.glo_ok X G (c.d.fact 43 (f := .glo "marked_within") rfl)) F_marked_within G_marked_within (FunD.bindsN (ps := ["line", "mark", "inside"]) F_marked_within fun _ _ _ _ _ _ us hl => match us, hl with | [_, _, _], _ => rfl)
  obtain ⟨fd_small_parts, F_small_parts⟩ := c.d.def_ 31 (d := d_small_parts) rfl
  have G_small_parts := w_small_parts (w := w) (base := base) T  F_small_parts
  have f_small_parts : FnB PW w K mg base "small_parts" fi_small_parts [] 3 := fnB0 (He.glo_ok X G (c.d.fact 44 (f := .glo "small_parts") rfl)) F_small_parts G_small_parts (FunD.bindsN (ps := ["many", "total"]) F_small_parts fun _ _ _ _ _ _ us hl => match us, hl with | [_, _], _ => rfl)
  obtain ⟨fd_small_row, F_small_row⟩ := c.d.def_ 32 (d := d_small_row) rfl
  have G_small_row := w_small_row (w := w) (base := base) T f_marked_within f_small_parts F_small_row
  have f_small_row : FnB PW w K mg base "small_row" fi_small_row [] 4 := fnB0 (He.glo_ok X G (c.d.fact 45 (f := .glo "small_row") rfl)) F_small_row G_small_row (FunD.bindsN (ps := ["line", "inside"]) F_small_row fun _ _ _ _ _ _ us hl => match us, hl with | [_, _], _ => rfl)
  obtain ⟨fd_small_weights, F_small_weights⟩ := c.d.def_ 33 (d := d_small_weights) rfl
  have G_small_weights := w_small_weights (w := w) (base := base) T f_broken_at f_flags_of f_lot_of f_small_row F_small_weights
  have f_small_weights : FnB PW w K mg base "small_weights" fi_small_weights [] 7 := fnB0 (He.glo_ok X G (c.d.fact 46 (f := .glo "small_weights") rfl)) F_small_weights G_small_weights (FunD.bindsN (ps := ["table", "lot"]) F_small_weights fun _ _ _ _ _ _ us hl => match us, hl with | [_, _], _ => rfl)
  obtain ⟨fd__law_next, F__law_next⟩ := c.d.def_ 34 (d := d__law_next) rfl
  have G__law_next := w__law_next (w := w) (base := base) T  F__law_next
  have f__law_next : FnB PW w K mg base "_law_next" fi__law_next [] 3 := fnB0 (He.glo_ok X G (c.d.fact 47 (f := .glo "_law_next") rfl)) F__law_next G__law_next (FunD.bindsN (ps := ["stream", "many"]) F__law_next fun _ _ _ _ _ _ us hl => match us, hl with | [_, _], _ => rfl)
  obtain ⟨fd__law_stream, F__law_stream⟩ := c.d.def_ 35 (d := d__law_stream) rfl
  have G__law_stream := w__law_stream (w := w) (base := base) T  F__law_stream
  have f__law_stream : FnB PW w K mg base "_law_stream" fi__law_stream [] 3 := fnB0 (He.glo_ok X G (c.d.fact 48 (f := .glo "_law_stream") rfl)) F__law_stream G__law_stream (FunD.bindsN (ps := ["script"]) F__law_stream fun _ _ _ _ _ _ us hl => match us, hl with | [_], _ => rfl)
  obtain ⟨fd__law_lines, F__law_lines⟩ := c.d.def_ 36 (d := d__law_lines) rfl
  have G__law_lines := w__law_lines (w := w) (base := base) T f__law_next F__law_lines
  have f__law_lines : FnB PW w K mg base "_law_lines" fi__law_lines [] 4 := fnB0 (He.glo_ok X G (c.d.fact 49 (f := .glo "_law_lines") rfl)) F__law_lines G__law_lines (FunD.bindsN (ps := ["stream", "rows", "columns", "loose"]) F__law_lines fun _ _ _ _ _ _ us hl => match us, hl with | [_, _, _, _], _ => rfl)
  obtain ⟨fd__law_told_line, F__law_told_line⟩ := c.d.def_ 37 (d := d__law_told_line) rfl
  have G__law_told_line := w__law_told_line (w := w) (base := base) T f__law_next F__law_told_line
  have f__law_told_line : FnB PW w K mg base "_law_told_line" fi__law_told_line [] 4 := fnB0 (He.glo_ok X G (c.d.fact 50 (f := .glo "_law_told_line") rfl)) F__law_told_line G__law_told_line (FunD.bindsN (ps := ["stream", "line"]) F__law_told_line fun _ _ _ _ _ _ us hl => match us, hl with | [_, _], _ => rfl)
  obtain ⟨fd__law_lot, F__law_lot⟩ := c.d.def_ 38 (d := d__law_lot) rfl
  have G__law_lot := w__law_lot (w := w) (base := base) T f__law_next F__law_lot
  have f__law_lot : FnB PW w K mg base "_law_lot" fi__law_lot [] 4 := fnB0 (He.glo_ok X G (c.d.fact 51 (f := .glo "_law_lot") rfl)) F__law_lot G__law_lot (FunD.bindsN (ps := ["stream", "size"]) F__law_lot fun _ _ _ _ _ _ us hl => match us, hl with | [_, _], _ => rfl)
  obtain ⟨fd__law_lone, F__law_lone⟩ := c.d.def_ 39 (d := d__law_lone) rfl
  have G__law_lone := w__law_lone (w := w) (base := base) T  F__law_lone
  have f__law_lone : FnB PW w K mg base "_law_lone" fi__law_lone [] 3 := fnB0 (He.glo_ok X G (c.d.fact 52 (f := .glo "_law_lone") rfl)) F__law_lone G__law_lone (FunD.bindsN (ps := ["line", "lot"]) F__law_lone fun _ _ _ _ _ _ us hl => match us, hl with | [_, _], _ => rfl)
  obtain ⟨fd__law_marks, F__law_marks⟩ := c.d.def_ 40 (d := d__law_marks) rfl
  have G__law_marks := w__law_marks (w := w) (base := base) T f__law_lines f__law_next f__law_told_line F__law_marks
  have f__law_marks : FnB PW w K mg base "_law_marks" fi__law_marks [] 5 := fnB0 (He.glo_ok X G (c.d.fact 53 (f := .glo "_law_marks") rfl)) F__law_marks G__law_marks (FunD.bindsN (ps := ["stream", "rows", "columns"]) F__law_marks fun _ _ _ _ _ _ us hl => match us, hl with | [_, _, _], _ => rfl)
  obtain ⟨fd__law_white_without, F__law_white_without⟩ := c.d.def_ 41 (d := d__law_white_without) rfl
  have G__law_white_without := w__law_white_without (w := w) (base := base) T f__law_lone F__law_white_without
  have f__law_white_without : FnB PW w K mg base "_law_white_without" fi__law_white_without [] 4 := fnB0 (He.glo_ok X G (c.d.fact 54 (f := .glo "_law_white_without") rfl)) F__law_white_without G__law_white_without (FunD.bindsN (ps := ["lines", "columns", "outside"]) F__law_white_without fun _ _ _ _ _ _ us hl => match us, hl with | [_, _, _], _ => rfl)
  obtain ⟨fd__law_least_row, F__law_least_row⟩ := c.d.def_ 42 (d := d__law_least_row) rfl
  have G__law_least_row := w__law_least_row (w := w) (base := base) T f__law_lone F__law_least_row
  have f__law_least_row : FnB PW w K mg base "_law_least_row" fi__law_least_row [] 4 := fnB0 (He.glo_ok X G (c.d.fact 55 (f := .glo "_law_least_row") rfl)) F__law_least_row G__law_least_row (FunD.bindsN (ps := ["lines", "lot"]) F__law_least_row fun _ _ _ _ _ _ us hl => match us, hl with | [_, _], _ => rfl)
  obtain ⟨fd__law_small_row, F__law_small_row⟩ := c.d.def_ 43 (d := d__law_small_row) rfl
  have G__law_small_row := w__law_small_row (w := w) (base := base) T  F__law_small_row
  have f__law_small_row : FnB PW w K mg base "_law_small_row" fi__law_small_row [] 3 := fnB0 (He.glo_ok X G (c.d.fact 56 (f := .glo "_law_small_row") rfl)) F__law_small_row G__law_small_row (FunD.bindsN (ps := ["line", "numbers", "lot"]) F__law_small_row fun _ _ _ _ _ _ us hl => match us, hl with | [_, _, _], _ => rfl)
  obtain ⟨fd__law_asked, F__law_asked⟩ := c.d.def_ 44 (d := d__law_asked) rfl
  have G__law_asked := w__law_asked (w := w) (base := base) T f_small_weights F__law_asked
  have f__law_asked : FnB PW w K mg base "_law_asked" fi__law_asked [] 8 := fnB0 (He.glo_ok X G (c.d.fact 57 (f := .glo "_law_asked") rfl)) F__law_asked G__law_asked (FunD.bindsN (ps := ["table", "lot"]) F__law_asked fun _ _ _ _ _ _ us hl => match us, hl with | [_, _], _ => rfl)
  obtain ⟨fd__law_fields_kept, F__law_fields_kept⟩ := c.d.def_ 45 (d := d__law_fields_kept) rfl
  have G__law_fields_kept := w__law_fields_kept (w := w) (base := base) T f__law_next k_Fractions_init k_Prime_init k_Weighted_init m_Weighted_silent F__law_fields_kept
  have f__law_fields_kept : FnB PW w K mg base "_law_fields_kept" fi__law_fields_kept [] 9 := fnB0 (He.glo_ok X G (c.d.fact 58 (f := .glo "_law_fields_kept") rfl)) F__law_fields_kept G__law_fields_kept (FunD.bindsN (ps := ["stream", "table", "rows", "vector"]) F__law_fields_kept fun _ _ _ _ _ _ us hl => match us, hl with | [_, _, _, _], _ => rfl)
  obtain ⟨fd__law_lot_kept, F__law_lot_kept⟩ := c.d.def_ 46 (d := d__law_lot_kept) rfl
  have G__law_lot_kept := w__law_lot_kept (w := w) (base := base) T f__law_asked f__law_fields_kept f__law_least_row f__law_small_row F__law_lot_kept
  have f__law_lot_kept : FnB PW w K mg base "_law_lot_kept" fi__law_lot_kept [] 10 := fnB0 (He.glo_ok X G (c.d.fact 59 (f := .glo "_law_lot_kept") rfl)) F__law_lot_kept G__law_lot_kept (FunD.bindsN (ps := ["stream", "table", "lines", "columns", "lot"]) F__law_lot_kept fun _ _ _ _ _ _ us hl => match us, hl with | [_, _, _, _, _], _ => rfl)
  obtain ⟨fd__law_refusals_kept, F__law_refusals_kept⟩ := c.d.def_ 47 (d := d__law_refusals_kept) rfl
  have G__law_refusals_kept := w__law_refusals_kept (w := w) (base := base) T f__law_asked f__law_lot f__law_next F__law_refusals_kept
  have f__law_refusals_kept : FnB PW w K mg base "_law_refusals_kept" fi__law_refusals_kept [] 9 := fnB0 (He.glo_ok X G (c.d.fact 60 (f := .glo "_law_refusals_kept") rfl)) F__law_refusals_kept G__law_refusals_kept (FunD.bindsN (ps := ["stream", "table", "columns"]) F__law_refusals_kept fun _ _ _ _ _ _ us hl => match us, hl with | [_, _, _], _ => rfl)
  have G_law := w_law (w := w) (base := base) T f__law_lot f__law_lot_kept f__law_marks f__law_next f__law_refusals_kept f__law_stream f__law_white_without k_Table_init F_law
  exact G_law
end
end KI.K13

/-! part P13s -/
set_option Elab.async false
set_option linter.all false
set_option maxRecDepth 100000
set_option maxHeartbeats 2000000
namespace KI.K13
open PySem PySem.Spec PyProof.Rows L2 KI
def whole : PV → Bool
  | .int _ => true
  | _ => false
def notIns : PV → Bool
  | .ins _ _ _ => false
  | _ => true
theorem s_is_whole (p : PV) (h : notIns p = true) : fi_is_whole.sem [p] .non = .ok (.bl (whole p)) .non := by
  cases p <;> first
    | (cases h; done)
    | simp [fi_is_whole, g_is_whole, env0, slotOf, isiP, tyN, tyIs, whole]
theorem c_is_whole (p : PV) (st : PV) (h : notIns p = true) : callK fi_is_whole [p] st = .ok (.bl (whole p)) st := by
  rw [callK_val, s_is_whole p h]
@[simp] theorem notIns_int (i : Int) : notIns (.int i) = true := (rfl)
@[simp] theorem notIns_bl (i : Bool) : notIns (.bl i) = true := (rfl)
@[simp] theorem notIns_non : notIns .non = true := (rfl)
@[simp] theorem notIns_str (x : Str) : notIns (.str x) = true := (rfl)
@[simp] theorem notIns_lst (x : List PV) : notIns (.lst x) = true := (rfl)
@[simp] theorem notIns_tup (x : List PV) : notIns (.tup x) = true := (rfl)
@[simp] theorem whole_int (i : Int) : whole (.int i) = true := (rfl)
@[simp] theorem whole_bl (i : Bool) : whole (.bl i) = false := (rfl)
@[simp] theorem whole_non : whole .non = false := (rfl)
@[simp] theorem whole_str (x : Str) : whole (.str x) = false := (rfl)
@[simp] theorem whole_lst (x : List PV) : whole (.lst x) = false := (rfl)
@[simp] theorem whole_tup (x : List PV) : whole (.tup x) = false := (rfl)
@[simp] theorem c_is_whole_int (i : Int) (st : PV) : callK fi_is_whole [.int i] st = .ok (.bl true) st := c_is_whole _ st rfl
@[simp] theorem c_is_whole_bl (i : Bool) (st : PV) : callK fi_is_whole [.bl i] st = .ok (.bl false) st := c_is_whole _ st rfl
@[simp] theorem c_is_whole_non  (st : PV) : callK fi_is_whole [.non] st = .ok (.bl false) st := c_is_whole _ st rfl
@[simp] theorem c_is_whole_str (x : Str) (st : PV) : callK fi_is_whole [.str x] st = .ok (.bl false) st := c_is_whole _ st rfl
@[simp] theorem c_is_whole_lst (x : List PV) (st : PV) : callK fi_is_whole [.lst x] st = .ok (.bl false) st := c_is_whole _ st rfl
@[simp] theorem c_is_whole_tup (x : List PV) (st : PV) : callK fi_is_whole [.tup x] st = .ok (.bl false) st := c_is_whole _ st rfl
@[simp] theorem truP_bl (b : Bool) : truP (.bl b) = some b := (rfl)
@[simp] theorem icmp_int (g : Int → Int → Bool) (i j : Int) : icmp g (.int i) (.int j) = some (g i j) := (rfl)
def placeR (p : PV) (n : Int) : ER PV := match p with
  | .int i => if i < 0 ∨ n ≤ i then .exc "NoPlace" ["place"] [.int i] .non else .ok (.int i) .non
  | _ => .exc "NoPlace" ["place"] [.int 0] .non
theorem s_place_of (p : PV) (n : Int) (h : notIns p = true) : fi_place_of.sem [p, .int n] .non = placeR p n := by
  cases hw : whole p with
  | false =>
    have : placeR p n = .exc "NoPlace" ["place"] [.int 0] .non := by cases p <;> first | (cases hw; done) | rfl
    rw [this]
    simp [fi_place_of, g_place_of, env0, slotOf, c_is_whole p .non h, hw, borOk]
  | true =>
    cases p <;> first
      | (cases hw; done)
      | skip
    rename_i i
    by_cases h1 : i < 0
    · simp [fi_place_of, g_place_of, env0, slotOf, placeR, h1, borOk]
    · by_cases h2 : n ≤ i
      · simp [fi_place_of, g_place_of, env0, slotOf, placeR, h1, h2, borOk]
      · simp [fi_place_of, g_place_of, env0, slotOf, placeR, h1, h2, borOk]

/-! ## marks -/
abbrev ch (c : Nat) : PV := .str ⟨#[c]⟩
abbrev tx (l : List Nat) : PV := .str ⟨l.toArray⟩
def hard (c : Nat) : Bool := c == 102 || c == 116
def touched (c : Nat) : Bool := c == 102 || (c == 108 || c == 116)
theorem eF (c : Nat) : eqF (.str "f") (ch c) = (c == 102) := by
  show decide (("f" : Str) = ⟨#[c]⟩) = _
  rw [show ("f" : Str) = ⟨#[102]⟩ from by decide +kernel]
  simp [eq_comm]
  rfl
theorem eL (c : Nat) : eqF (.str "l") (ch c) = (c == 108) := by
  show decide (("l" : Str) = ⟨#[c]⟩) = _
  rw [show ("l" : Str) = ⟨#[108]⟩ from by decide +kernel]
  simp [eq_comm]
  rfl
theorem eT (c : Nat) : eqF (.str "t") (ch c) = (c == 116) := by
  show decide (("t" : Str) = ⟨#[c]⟩) = _
  rw [show ("t" : Str) = ⟨#[116]⟩ from by decide +kernel]
  simp [eq_comm]
  rfl
theorem s2 : (2 : Nat) ≤ sizeLine := by decide
theorem s3 : (3 : Nat) ≤ sizeLine := by decide
theorem c_is_hard (c : Nat) (st : PV) : callK fi_is_hard [ch c] st = .ok (.bl (hard c)) st := by
  rw [callK_val]
  simp [fi_is_hard, g_is_hard, env0, slotOf, s2, inP, flatP, eF, eT, hard]
theorem c_is_touched (c : Nat) (st : PV) : callK fi_is_touched [ch c] st = .ok (.bl (touched c)) st := by
  rw [callK_val]
  simp [fi_is_touched, g_is_touched, env0, slotOf, s3, inP, flatP, eF, eL, eT, touched]

/-! ## numbers, places -/
theorem atI_nat {α : Type} {xs : List α} {j : Nat} {x : α} (h : xs[j]? = some x) : L2.atI xs (j : Int) = some x := by
  obtain ⟨hl, _⟩ := List.getElem?_eq_some_iff.mp h
  unfold L2.atI L2.ixN
  rw [if_pos (by omega), if_pos (by omega)]
  simpa using h
theorem eqP_int (i j : Int) : eqP (.int i) (.int j) = some (i == j) := by
  unfold eqP eqB okD toD
  simp [SeqAt.shaped, PyData.eqv, PyData.canLay0, PyData.depth]
theorem neP_int (i j : Int) : neP (.int i) (.int j) = some (!(i == j)) := by
  unfold neP eqB okD toD
  simp [SeqAt.shaped, PyData.eqv, PyData.canLay0, PyData.depth]
theorem eqP_non_int (j : Int) : eqP .non (.int j) = some false := by
  unfold eqP eqB okD toD
  simp [SeqAt.shaped, PyData.eqv, PyData.canLay0, PyData.depth]
def mk (l : List Nat) (j : Nat) : Nat := l.getD j 0
def wh (w : List Bool) (j : Nat) : Bool := w.getD j false
theorem mk_at {l : List Nat} {j : Nat} (h : j < l.length) : l[j]? = some (mk l j) := by unfold mk; simp [h]
theorem wh_at {w : List Bool} {j : Nat} (h : j < w.length) : w[j]? = some (wh w j) := by unfold wh; simp [h]
def nts (l : List Nat) : List PV := l.map fun (j : Nat) => PV.int (j : Int)
@[simp] theorem nts_nil : nts [] = [] := (rfl)
@[simp] theorem nts_cons (j : Nat) (l : List Nat) : nts (j :: l) = .int (j : Int) :: nts l := (rfl)
@[simp] theorem nts_length (l : List Nat) : (nts l).length = l.length := by simp [nts]
theorem mem_nts {p : PV} {l : List Nat} (h : p ∈ nts l) : ∃ j ∈ l, p = .int (j : Int) := by
  obtain ⟨j, h1, h2⟩ := List.mem_map.mp h
  exact ⟨j, h1, h2.symm⟩
def bls (w : List Bool) : List PV := w.map .bl
@[simp] theorem bls_length (w : List Bool) : (bls w).length = w.length := by simp [bls]
theorem bls_at (w : List Bool) (j : Nat) : (bls w)[j]? = (w[j]?).map PV.bl := List.getElem?_map
def optI : Option Nat → PV
  | none => .non
  | some j => .int (j : Int)
/-! ## forced_now -/
def oneHard (l : List Nat) : List Nat → Option Nat
  | [j] => if hard (mk l j) = true then some j else none
  | _ => none
def forcedR (l : List Nat) (cols : List Nat) (w : List Bool) : Option Nat := oneHard l (cols.filter fun j => wh w j)
theorem ix_bls {w : List Bool} {j : Nat} (h : j < w.length) : ixP (.lst (bls w)) (.int (j : Int)) = some (.bl (wh w j)) := by
  show L2.atI (bls w) (j : Int) = _
  rw [atI_nat (x := .bl (wh w j))]
  rw [bls_at, wh_at h]; rfl
theorem ix_tx {l : List Nat} {j : Nat} (h : j < l.length) (hl : l.length ≤ sizeLine) : ixP (tx l) (.int (j : Int)) = some (ch (mk l j)) := by
  show (if (⟨l.toArray⟩ : Str).length ≤ sizeLine then (L2.atI l.toArray.toList (j : Int)).map fun c => PV.str ⟨#[c]⟩ else none) = _
  rw [if_pos (by show l.toArray.size ≤ _; simpa using hl), atI_nat (x := mk l j) (by rw [List.toList_toArray]; exact mk_at h)]
  rfl
theorem filter_nts (cols : List Nat) (f : Nat → Bool) : (nts cols).filter (fun p => match p with | .int i => f i.toNat | _ => false) = nts (cols.filter f) := by
  induction cols with
  | nil => rfl
  | cons j cols ih =>
    rw [nts_cons, List.filter_cons, List.filter_cons, ih]
    show (if f (Int.toNat (j : Int)) = true then _ else _) = _
    rw [Int.toNat_natCast]
    split <;> rfl
theorem c_forced_now (l cols : List Nat) (w : List Bool) (st : PV) (hc : ∀ j ∈ cols, j < w.length ∧ j < l.length) (hl : l.length ≤ sizeLine) (hz : cols.length ≤ sizeLine) :
    callK fi_forced_now [tx l, .tup (nts cols), .lst (bls w)] st = .ok (optI (forcedR l cols w)) st := by
  rw [callK_val]
  have h1 : lcL (nameG 4) (truT (opE ixP (vR 2) (vR 4))) (vE 4) [.sh (tx l), .sh (.tup (nts cols)), .bor (.lst (bls w)), .dead, .dead] (nts cols) .non = .ok (nts (cols.filter fun j => wh w j)) .non := by
    rw [lcL_pure (fun p => match p with | .int i => wh w i.toNat | _ => false) id]
    · rw [List.map_id, filter_nts cols fun j => wh w j]
    · intro p hp
      obtain ⟨j, hj, rfl⟩ := mem_nts hp
      refine ⟨_, rfl, ?_, fun _ => ?_⟩
      · simp [ix_bls (hc j hj).1]
      · simp
  have h2 : (nts cols).length ≤ sizeLine := by simpa using hz
  unfold forcedR
  generalize hs : cols.filter (fun j => wh w j) = seen at h1 ⊢
  have hm : ∀ j ∈ seen, j < l.length := fun j hj => (hc j (List.mem_filter.mp (show j ∈ cols.filter (fun j => wh w j) from by rw [hs]; exact hj)).1).2
  have e : fi_forced_now.sem [tx l, .tup (nts cols), .lst (bls w)] .non = .ok (optI (oneHard l seen)) .non := by
    match seen, h1, hm with
    | [], h1, _ => simp [fi_forced_now, g_forced_now, env0, slotOf, seqP, calmAt, hz, h1, lenP, neP_int, optI, oneHard]
    | [j], h1, hm =>
      have hj := hm j (by simp)
      have k1 : ixP (.lst [.int (j : Int)]) (.int 0) = some (.int (j : Int)) := rfl
      by_cases hh : hard (mk l j) = true
      · simp [fi_forced_now, g_forced_now, env0, slotOf, seqP, calmAt, hz, h1, lenP, neP_int, optI, oneHard, k1, ix_tx hj hl, c_is_hard, hh]
      · simp [fi_forced_now, g_forced_now, env0, slotOf, seqP, calmAt, hz, h1, lenP, neP_int, optI, oneHard, k1, ix_tx hj hl, c_is_hard, hh]
    | a :: b :: r, h1, _ =>
      have k2 : ¬ ((r.length : Int) + 1 + 1 = 1) := by omega
      simp [k2, fi_forced_now, g_forced_now, env0, slotOf, seqP, calmAt, hz, h1, lenP, neP_int, optI, oneHard]
  rw [e]
/-! ## a sign counted in a text -/
theorem occ_count (x : Str) (c : Nat) : ∀ (k a : Nat) (st : Array Nat × Nat), st.snd ≤ a → st.fst.size ≤ a → a + k ≤ x.length + 1 →
    (forIn (List.range' a k) st (StrLaws.occBody x ⟨#[c]⟩ x.length (x.length + 1))).run.fst.size = st.fst.size + ((x.cps.toList.drop a).take k).count c
  | 0, a, st, _, _, _ => by simp
  | k + 1, a, st, h1, h2, h3 => by
    rw [List.range'_succ, List.forIn_cons]
    unfold StrLaws.occBody
    have key := StrLaws.subAt_one x c a
    have hl : (⟨#[c]⟩ : Str).length = 1 := rfl
    by_cases hc : x.cps.toList[a]? = some c
    · obtain ⟨k1, k2⟩ := key.mpr hc
      rw [if_pos ⟨⟨⟨by omega, h1⟩, k1⟩, k2⟩]
      have ih := occ_count x c k (a + 1) (st.fst.push a, a + (⟨#[c]⟩ : Str).length) (by rw [hl]; exact Nat.le_refl _) (by simp; omega) (by omega)
      unfold StrLaws.occBody at ih
      refine ih.trans ?_
      obtain ⟨hlt, e⟩ := List.getElem?_eq_some_iff.mp hc
      rw [List.drop_eq_getElem_cons hlt, List.take_succ_cons, e, List.count_cons_self]
      simp
      omega
    · rw [if_neg (fun z => hc (key.mp ⟨z.1.2, z.2⟩))]
      have ih := occ_count x c k (a + 1) (st.fst, st.snd) (by simp; omega) (by simp; omega) (by omega)
      unfold StrLaws.occBody at ih
      refine ih.trans ?_
      by_cases hlt : a < x.cps.toList.length
      · rw [List.drop_eq_getElem_cons hlt, List.take_succ_cons, List.count_cons_of_ne]
        intro e
        exact hc (by rw [List.getElem?_eq_getElem hlt]; rw [← e])
      · rw [List.drop_eq_nil_of_le (Nat.le_of_not_lt hlt), List.drop_eq_nil_of_le (by omega)]
        simp
theorem count_one (l : List Nat) (c : Nat) : Txt.count ⟨l.toArray⟩ ⟨#[c]⟩ = (l.count c : Nat) := by
  unfold Txt.count
  rw [StrLaws.occ_eq, Array.length_toList]
  have := occ_count ⟨l.toArray⟩ c ((⟨l.toArray⟩ : Str).length + 1 - 0) 0 (#[], 0) (Nat.le_refl _) (Nat.le_refl _) (by omega)
  rw [this]
  simp only [Str.length, List.drop_zero, List.toList_toArray, List.size_toArray, Array.size_empty, Nat.zero_add]
  rw [List.take_of_length_le (by omega)]
  simp
/-! ## lines, tables -/
def LineOk (n : Nat) (l : List Nat) : Prop := l.length = n ∧ (∀ c ∈ l, c = 46 ∨ touched c = true) ∧ l.count 116 ≤ 1
theorem enum_at {ps : List PV} {i : Nat} {p : PV} (h : (enumPs ps)[i]? = some p) : ∃ q, ps[i]? = some q ∧ p = .tup [.int (i : Nat), q] := by
  unfold enumPs at h
  rw [List.getElem?_map] at h
  cases z : ps.zipIdx[i]? with
  | none => rw [z] at h; cases h
  | some x =>
    rw [z] at h
    cases h
    rw [List.getElem?_zipIdx] at z
    cases y : ps[i]? with
    | none => rw [y] at z; cases z
    | some q => rw [y] at z; cases z; exact ⟨q, rfl, by simp⟩
theorem chrs_at {l : List Nat} {i : Nat} {q : PV} (h : (chrs ⟨l.toArray⟩)[i]? = some q) : ∃ c, l[i]? = some c ∧ q = ch c := by
  unfold chrs at h
  rw [List.getElem?_map] at h
  cases z : l[i]? with
  | none =>
    rw [show (⟨l.toArray⟩ : Str).cps.toList[i]? = l[i]? from by simp, z] at h; cases h
  | some c =>
    rw [show (⟨l.toArray⟩ : Str).cps.toList[i]? = l[i]? from by simp, z] at h; cases h; exact ⟨c, rfl, rfl⟩
theorem neP_str (x y : Str) (hx : PyData.canLay0 (.str x) = true) (hy : PyData.canLay0 (.str y) = true) : neP (.str x) (.str y) = some (!(x == y)) := by
  unfold neP eqB okD toD
  simp [SeqAt.shaped, PyData.eqv, hx, hy, PyData.depth]
theorem lit_dot : ("." : Str) = ⟨#[46]⟩ := by decide +kernel
theorem lit_t : ("t" : Str) = ⟨#[116]⟩ := by decide +kernel
theorem mark_lt {c : Nat} (h : c = 46 ∨ touched c = true) : c < 117 := by
  rcases h with h | h
  · omega
  · simp only [touched, Bool.or_eq_true, beq_iff_eq] at h; omega
theorem ne_dot {c : Nat} (h : c = 46 ∨ touched c = true) : neP (ch c) (.str ".") = some (!(c == 46)) := by
  have := mark_lt h
  rw [neP_str]
  · rw [lit_dot]
    congr 2
    by_cases e : c = 46
    · subst e; simp
    · rw [show (c == 46) = false from by simpa using e]
      simp [e]
  · show PyData.strOk _ = true
    simp [PyData.strOk]; omega
  · rw [lit_dot]; show PyData.strOk _ = true; decide +kernel
theorem len_tx (l : List Nat) (hl : l.length ≤ sizeLine) : lenP [tx l] = some (.int (l.length : Nat)) := by
  show (if (⟨l.toArray⟩ : Str).length ≤ sizeLine then some (PV.int (⟨l.toArray⟩ : Str).length) else none) = _
  rw [show (⟨l.toArray⟩ : Str).length = l.length from by simp [Str.length], if_pos hl]
theorem cnt_tx (l : List Nat) : countP ⟨l.toArray⟩ (.str "t") = some (.int (l.count 116 : Nat)) := by
  show some (PV.int (Txt.count ⟨l.toArray⟩ "t")) = _
  rw [lit_t, count_one]
theorem c_check_line (l : List Nat) (n row : Nat) (st : PV) (h : LineOk n l) (hs : n ≤ sizeLine) : callK fi_check_line [tx l, .int (n : Int), .int (row : Int)] st = .ok (tx l) st := by
  obtain ⟨h1, h2, h3⟩ := h
  rw [callK_val]
  have hl : l.length ≤ sizeLine := by omega
  obtain ⟨env', st', e1, e2⟩ := forL_all (t := pairG 3 4) (b := (seqS (ifS (andT (cmpT neP (vR 4) (cE (.str "."))) (notT (truT (callE fi_is_touched [] (consA (vE 4) nilA))))) (seqS (raiseS "BadMark" ["row", "column"] (consA (vE 2) (consA (vE 3) nilA))) nxS) nxS) (fun env st => .nx (killS [3, 4] env) st)))
    (fun _ env st => env = [.sh (tx l), .sh (.int (n : Int)), .sh (.int (row : Int)), .dead, .dead] ∧ st = .non) (ps := enumPs (chrs ⟨l.toArray⟩)) (env := [.sh (tx l), .sh (.int (n : Int)), .sh (.int (row : Int)), .dead, .dead]) (st := .non) 0 (fun i p env st hp ⟨he, hst⟩ => by
      subst he hst
      obtain ⟨q, hq, rfl⟩ := enum_at hp
      obtain ⟨c, hc, rfl⟩ := chrs_at hq
      have hm := h2 c (List.mem_of_getElem? hc)
      refine ⟨_, _, _, rfl, ?_, rfl, rfl⟩
      by_cases e : c = 46
      · subst e; have hd := ne_dot hm; simp [hd]
      · have ht : touched c = true := hm.resolve_left e
        simp [ne_dot hm, e, c_is_touched, ht]) ⟨rfl, rfl⟩
  obtain ⟨rfl, rfl⟩ := e2
  have k : ¬ (1 < ((l.count 116 : Nat) : Int)) := by omega
  have e : fi_check_line.sem [tx l, .int (n : Int), .int (row : Int)] .non = .ok (tx l) .non := by
    simp [fi_check_line, g_check_line, env0, slotOf, isiP, tyN, tyIs, len_tx l hl, neP_int, h1, seqP, e1, cnt_tx, k, borOk]
  rw [e]

def tb (n : Nat) (ls : List (List Nat)) : PV := .ins "Table" ["columns", "lines"] [.int (n : Int), .tup (ls.map fun l => tx l)]
theorem fld_lines (n : Nat) (ls : List (List Nat)) : fldP ["Table"] "lines" (tb n ls) = some (.tup (ls.map fun l => tx l)) := by rfl
theorem fld_columns (n : Nat) (ls : List (List Nat)) : fldP ["Table"] "columns" (tb n ls) = some (.int (n : Int)) := by rfl
theorem c_place_of (i n : Nat) (st : PV) (h : i < n) : callK fi_place_of [.int (i : Int), .int (n : Int)] st = .ok (.int (i : Int)) st := by
  have e : placeR (.int (i : Int)) n = .ok (.int (i : Int)) .non := if_neg (by omega)
  rw [callK_val, s_place_of _ _ rfl, e]
def ln (ls : List (List Nat)) (r : Nat) : List Nat := ls.getD r []
theorem ln_at {ls : List (List Nat)} {r : Nat} (h : r < ls.length) : ls[r]? = some (ln ls r) := by unfold ln; simp [h]
theorem ix_lines {ls : List (List Nat)} {r : Nat} (h : r < ls.length) : ixP (.tup (ls.map fun l => tx l)) (.int (r : Int)) = some (tx (ln ls r)) := by
  show L2.atI (ls.map fun l => tx l) (r : Int) = _
  rw [atI_nat (x := tx (ln ls r))]
  rw [List.getElem?_map, ln_at h]; rfl
def touchC (l : List Nat) : List Nat := (List.range l.length).filter fun j => touched (mk l j)
theorem enum_tx (l : List Nat) : enumPs (chrs ⟨l.toArray⟩) = (List.range l.length).map fun (j : Nat) => PV.tup [.int (j : Int), ch (mk l j)] := by
  apply List.ext_getElem?
  intro i
  by_cases h : i < l.length
  · rw [enumPs_get (p := ch (mk l i))]
    · simp [h]
    · unfold chrs
      rw [List.getElem?_map, List.toList_toArray, mk_at h]; rfl
  · rw [List.getElem?_eq_none, List.getElem?_eq_none]
    · simp; omega
    · rw [enumPs_length]; unfold chrs; simp; omega
def fTouch : PV → Bool
  | .tup [_, .str x] => touched (x.cps.getD 0 0)
  | _ => false
def gFst : PV → PV
  | .tup (p :: _) => p
  | p => p
theorem c_touches (n : Nat) (ls : List (List Nat)) (r : Nat) (st : PV) (h : r < ls.length) (hz : (ln ls r).length ≤ sizeLine) : callK fi_Table_touches [tb n ls, .int (r : Int)] st = .ok (.tup (nts (touchC (ln ls r)))) st := by
  rw [callK_val]
  have h1 : lcL (pairG 3 4) (truT (callE fi_is_touched [] (consA (vE 4) nilA))) (vE 3) [.bor (tb n ls), .sh (.int (r : Int)), .sh (tx (ln ls r)), .dead, .dead] (enumPs (chrs ⟨(ln ls r).toArray⟩)) .non = .ok (nts (touchC (ln ls r))) .non := by
    rw [lcL_pure fTouch gFst]
    · rw [enum_tx, List.filter_map, List.map_map]; rfl
    · intro p hp
      obtain ⟨i, hi⟩ := List.getElem?_of_mem hp
      obtain ⟨q, hq, rfl⟩ := enum_at hi
      obtain ⟨c, hc, rfl⟩ := chrs_at hq
      refine ⟨_, rfl, ?_, fun _ => ?_⟩
      · simp [c_is_touched, fTouch]
      · simp [gFst]
  have h2 : (enumPs (chrs ⟨(ln ls r).toArray⟩)).length ≤ sizeLine := by rw [enumPs_length]; unfold chrs; simpa using hz
  have e : fi_Table_touches.sem [tb n ls, .int (r : Int)] .non = .ok (.tup (nts (touchC (ln ls r)))) .non := by
    simp [fi_Table_touches, g_Table_touches, env0, slotOf, fld_lines, lenP, c_place_of r ls.length _ h, ix_lines h, seqP, calmAt, h2, h1, tupleP, borOk]
  rw [e]
theorem s_len (n : Nat) (ls : List (List Nat)) : fi_Table_len.sem [tb n ls] .non = .ok (.int (ls.length : Nat)) .non := by
  simp [fi_Table_len, g_Table_len, env0, slotOf, fld_lines, lenP]
/-! ## lot_of -/
def lotBad (size : Int) : Nat → List Int → List Int → Option Nat
  | _, _, [] => none
  | i, done, e :: r => if e < 0 ∨ size ≤ e ∨ e ∈ done then some i else lotBad size (i + 1) (done ++ [e]) r
def items (i : Nat) (ns : List Int) : List PV := (ns.zipIdx i).map fun x => PV.tup [.int (x.2 : Nat), .int x.1]
theorem enum_is (ns : List Int) : enumPs (ns.map PV.int) = items 0 ns := by
  unfold enumPs items
  rw [List.zipIdx_map, List.map_map]
  rfl
theorem hasK_int (done : List Int) (e : Int) : hasK (done.map Sum.inl) (.inl e) = decide (e ∈ done) := by
  unfold hasK
  induction done with
  | nil => simp
  | cons d r ih =>
    rw [List.map_cons, List.any_cons, ih]
    by_cases h : d = e
    · subst h; simp
    · have h2 : ¬ e = d := fun z => h z.symm
      simp [h, h2]
def foundP (done : List Int) : PV := .dct (done.map Sum.inl) (List.replicate done.length (.bl true))
theorem in_found (neg : Bool) (done : List Int) (e : Int) : inP neg (.int e) (foundP done) = some (if neg = true then !decide (e ∈ done) else decide (e ∈ done)) := by
  show some (if neg = true then !hasK (done.map Sum.inl) (.inl e) else hasK (done.map Sum.inl) (.inl e)) = _
  rw [hasK_int]
theorem put_found (done : List Int) (e : Int) (h : e ∉ done) : putD (done.map Sum.inl) (List.replicate done.length (.bl true)) (.inl e) (.bl true) = foundP (done ++ [e]) := by
  unfold putD
  rw [hasK_int, if_neg (by simpa using h)]
  unfold foundP
  rw [List.map_append, List.length_append, List.length_singleton, List.replicate_succ']
  rfl
def lotB : SF := (seqS (ifS (orT (notT (truT (callE fi_is_whole [] (consA (vE 4) nilA)))) (orT (cmpT ltP (vR 4) (cE (.int 0))) (orT (cmpT geP (vR 4) (vR 1)) (cmpT (inP false) (vR 4) (vR 2))))) (seqS (raiseS "BadLot" ["place"] (consA (vE 3) nilA)) nxS) nxS) (seqS (setDct 2 (cE (.bl true)) (vE 4)) (fun env st => .nx (killS [3, 4] env) st)))
theorem lot_loop (p : PV) (size : Int) : ∀ (ns : List Int) (i : Nat) (done : List Int), done.length + ns.length ≤ sizeLine →
    (match lotBad size i done ns with
    | some j => ∃ env', forL (pairG 3 4) lotB (items i ns) [.sh p, .sh (.int size), .own (foundP done), .dead, .dead] .non = .exc "BadLot" ["place"] [.int (j : Int)] env' .non
    | none => forL (pairG 3 4) lotB (items i ns) [.sh p, .sh (.int size), .own (foundP done), .dead, .dead] .non = .nx [.sh p, .sh (.int size), .own (foundP (done ++ ns)), .dead, .dead] .non)
  | [], i, done, _ => by
    show forL _ _ [] _ _ = _
    rw [List.append_nil]; rfl
  | e :: r, i, done, hz => by
    have hb : forL (pairG 3 4) lotB (items i (e :: r)) [.sh p, .sh (.int size), .own (foundP done), .dead, .dead] .non = (match lotB [.sh p, .sh (.int size), .own (foundP done), .sh (.int (i : Int)), .sh (.int e)] .non with
      | .nx env2 st2 => forL (pairG 3 4) lotB (items (i + 1) r) env2 st2
      | .ct env2 st2 => forL (pairG 3 4) lotB (items (i + 1) r) env2 st2
      | .brk env2 st2 => .nx env2 st2
      | r => r) := rfl
    have hin := in_found false done e
    by_cases hbad : e < 0 ∨ size ≤ e ∨ e ∈ done
    · have e1 : lotBad size i done (e :: r) = some i := if_pos hbad
      rw [e1, hb]
      refine ⟨[.sh p, .sh (.int size), .own (foundP done), .sh (.int (i : Int)), .sh (.int e)], ?_⟩
      by_cases h1 : e < 0
      · simp [lotB, h1]
      · by_cases h2 : size ≤ e
        · simp [lotB, h1, h2]
        · have h3 : e ∈ done := by simpa [h1, h2] using hbad
          simp [lotB, h1, h2, hin, h3]
    · have e1 : lotBad size i done (e :: r) = lotBad size (i + 1) (done ++ [e]) r := if_neg hbad
      rw [e1, hb]
      have h1 : ¬ e < 0 := fun z => hbad (.inl z)
      have h2 : ¬ size ≤ e := fun z => hbad (.inr (.inl z))
      have h3 : e ∉ done := fun z => hbad (.inr (.inr z))
      have ih := lot_loop p size r (i + 1) (done ++ [e]) (by simp at hz ⊢; omega)
      have hlt : (done.map (Sum.inl : Int → Key)).length < sizeLine := by simp at hz ⊢; omega
      have e2 : lotB [.sh p, .sh (.int size), .own (foundP done), .sh (.int (i : Int)), .sh (.int e)] .non = .nx [.sh p, .sh (.int size), .own (foundP (done ++ [e])), .dead, .dead] .non := by
        have hp := put_found done e h3
        have hl2 : done.length < sizeLine := by simpa using hlt
        unfold foundP at hin
        simp [lotB, h1, h2, hin, h3, foundP, keyP, hl2, hp]
      rw [e2]
      rw [List.append_assoc] at ih
      exact ih
def lotR (size : Int) (ns : List Int) : ER PV := match lotBad size 0 [] ns with
  | some j => .exc "BadLot" ["place"] [.int (j : Int)] .non
  | none => .ok (.tup ((sortI ns).map .int)) .non
theorem intsP_map : ∀ ns : List Int, intsP (ns.map .int) = some ns
  | [] => rfl
  | n :: ns => by rw [List.map_cons, intsP, intsP_map ns]; rfl
theorem list_found (done : List Int) : listP [foundP done] = some (.lst (done.map .int)) := by
  show some (PV.lst ((done.map Sum.inl).map kP)) = _
  rw [List.map_map]; rfl
theorem sorted_ints (ns : List Int) : sortedP [.lst (ns.map .int)] = some (.lst ((sortI ns).map .int)) := by
  show (intsP (ns.map .int)).map (fun ns => PV.lst ((sortI ns).map .int)) = _
  rw [intsP_map]; rfl
theorem s_lot_of (p : PV) (size : Int) (ns : List Int) (hp : p = .lst (ns.map .int) ∨ p = .tup (ns.map .int)) (hz : ns.length ≤ sizeLine) : fi_lot_of.sem [p, .int size] .non = lotR size ns := by
  have hL := lot_loop p size ns 0 [] (by simpa using hz)
  have hq : seqP p = some (ns.map .int) := by rcases hp with rfl | rfl <;> rfl
  have hi : isiP ["list", "tuple"] p = some true := by rcases hp with rfl | rfl <;> rfl
  have e : g_lot_of = (seqS (ifS (notT (truT (isiE ["list", "tuple"] (vR 0)))) (seqS (raiseS "BadLot" ["place"] (consA (negE (cE (.int 1))) nilA)) nxS) nxS) (seqS (setO 2 (fun _ st => .ok (.dct [] []) st)) (seqS (forS (enumA (vE 0)) (pairG 3 4) lotB) (seqS (retS (biE tupleP (consA (biE sortedP (consA (biE listP (consA (vR 2) nilA)) nilA)) nilA))) nxS)))) := rfl
  have f0 : PV.dct [] [] = foundP [] := rfl
  unfold lotR
  cases hb : lotBad size 0 [] ns with
  | some j =>
    rw [hb] at hL
    obtain ⟨env', hL⟩ := hL
    simp [fi_lot_of, e, env0, slotOf, hi, hq, enum_is, f0, hL]
  | none =>
    rw [hb] at hL
    have hL : forL (pairG 3 4) lotB (items 0 ns) [.sh p, .sh (.int size), .own (foundP []), .dead, .dead] .non = .nx [.sh p, .sh (.int size), .own (foundP ns), .dead, .dead] .non := hL
    simp [fi_lot_of, e, env0, slotOf, hi, hq, enum_is, f0, hL, list_found, sorted_ints, tupleP]
theorem s_lot_non (size : Int) : fi_lot_of.sem [.non, .int size] .non = .exc "BadLot" ["place"] [.int (-1)] .non := by
  have hi : isiP ["list", "tuple"] .non = some false := rfl
  simp [fi_lot_of, g_lot_of, env0, slotOf, hi]
/-! ## flags -/
def setAll (b : Bool) (ns : List Nat) (w : List Bool) : List Bool := ns.foldl (fun w j => w.set j b) w
theorem setAll_length (b : Bool) : ∀ (ns : List Nat) (w : List Bool), (setAll b ns w).length = w.length
  | [], w => rfl
  | n :: ns, w => by show (setAll b ns (w.set n b)).length = _; rw [setAll_length, List.length_set]
theorem wh_set (b : Bool) (w : List Bool) (i j : Nat) (hi : i < w.length) : wh (w.set i b) j = if i = j then b else wh w j := by
  unfold wh
  rw [List.getD_eq_getElem?_getD, List.getD_eq_getElem?_getD, List.getElem?_set]
  by_cases h : i = j
  · subst h; simp [hi]
  · simp [h]
theorem wh_setAll (b : Bool) : ∀ (ns : List Nat) (w : List Bool) (j : Nat), (∀ n ∈ ns, n < w.length) → wh (setAll b ns w) j = if j ∈ ns then b else wh w j
  | [], w, j, _ => by simp [setAll]
  | n :: ns, w, j, h => by
    show wh (setAll b ns (w.set n b)) j = _
    rw [wh_setAll b ns _ j (fun m hm => by rw [List.length_set]; exact h m (List.mem_cons_of_mem _ hm)), wh_set b w n j (h n List.mem_cons_self)]
    by_cases h1 : j ∈ ns
    · simp [h1]
    · by_cases h2 : n = j
      · subst h2; simp
      · have h3 : ¬ j = n := fun z => h2 z.symm
        simp [h1, h2, h3]
theorem set_bls (w : List Bool) (j : Nat) (b : Bool) : (bls w).set j (.bl b) = bls (w.set j b) := by
  unfold bls; rw [List.map_set]
theorem ixN_nat {n j : Nat} (h : j < n) : L2.ixN n (j : Int) = some j := by
  unfold L2.ixN
  rw [if_pos (by omega), if_pos (by omega)]
  simp
theorem rep1_bl (b : Bool) : ∀ n : Nat, rep1 [.bl b] n = bls (List.replicate n b)
  | 0 => rfl
  | n + 1 => by
    show (List.replicate (n + 1) [PV.bl b]).flatten = _
    rw [List.replicate_succ, List.flatten_cons]
    show _ ++ rep1 [.bl b] n = _
    rw [rep1_bl b n, List.replicate_succ]; rfl
theorem mul_bl (b : Bool) (n : Nat) (hn : n ≤ sizeLine) : mulL (.lst [.bl b]) (.int (n : Int)) = some (.lst (bls (List.replicate n b))) := by
  have hs : sizeLine = 16777216 := sizeLine_eq
  unfold mulL
  dsimp only
  rw [if_pos ⟨by omega, by omega, by simp; omega⟩, Int.toNat_natCast, rep1_bl]
def flagB : SF := (seqS (setIx 2 (cE (.bl true)) (vE 3)) (fun env st => .nx (killS [3] env) st))
theorem flag_loop (p q : Slot) : ∀ (ns : List Nat) (w : List Bool), (∀ n ∈ ns, n < w.length) → forL (nameG 3) flagB (nts ns) [p, q, .own (.lst (bls w)), .dead] .non = .nx [p, q, .own (.lst (bls (setAll true ns w))), .dead] .non
  | [], w, _ => rfl
  | n :: ns, w, h => by
    have hb : forL (nameG 3) flagB (nts (n :: ns)) [p, q, .own (.lst (bls w)), .dead] .non = (match flagB [p, q, .own (.lst (bls w)), .sh (.int (n : Int))] .non with
      | .nx env2 st2 => forL (nameG 3) flagB (nts ns) env2 st2
      | .ct env2 st2 => forL (nameG 3) flagB (nts ns) env2 st2
      | .brk env2 st2 => .nx env2 st2
      | r => r) := rfl
    have hn := h n List.mem_cons_self
    have e : flagB [p, q, .own (.lst (bls w)), .sh (.int (n : Int))] .non = .nx [p, q, .own (.lst (bls (w.set n true))), .dead] .non := by
      have hi : L2.ixN (bls w).length (n : Int) = some n := ixN_nat (by simpa using hn)
      simp [flagB, ixN_nat hn, set_bls]
    rw [hb, e]
    exact flag_loop p q ns (w.set n true) fun m hm => by rw [List.length_set]; exact h m (List.mem_cons_of_mem _ hm)
@[simp] theorem frz2 (a b : Slot) (p : PV) (r : SEnv) : frzE 2 (a :: b :: .own p :: r) = a :: b :: .sh p :: r := (rfl)
theorem opE_by {g : PV → PV → Option PV} {fa fb : EF} {env : SEnv} {st st1 st2 a b z : PV} (h1 : fa env st = .ok a st1) (h2 : fb env st1 = .ok b st2) (h3 : g a b = some z) : opE g fa fb env st = .ok z st2 := by
  rw [opE_ap, h1, ER.bind_ok, h2, ER.bind_ok, h3]
theorem s1 : (1 : Nat) ≤ sizeLine := by decide
theorem c_flags_of (ns : List Nat) (n : Nat) (st : PV) (h : ∀ m ∈ ns, m < n) (hn : n ≤ sizeLine) : callK fi_flags_of [.tup (nts ns), .int (n : Int)] st = .ok (.lst (bls (setAll true ns (List.replicate n false)))) st := by
  rw [callK_val]
  have e : g_flags_of = (seqS (setO 2 (opE mulL (lstE (consA (cE (.bl false)) nilA)) (vR 1))) (seqS (forS (seqA (vE 0)) (nameG 3) flagB) (fun env st => (seqS (retS (vE 2)) nxS) (frzE 2 env) st))) := rfl
  have hL := flag_loop (.sh (.tup (nts ns))) (.sh (.int (n : Int))) ns (List.replicate n false) (fun m hm => by simpa using h m hm)
  have e2 : fi_flags_of.sem [.tup (nts ns), .int (n : Int)] .non = .ok (.lst (bls (setAll true ns (List.replicate n false)))) .non := by
    have k2 : opE mulL (lstE (consA (cE (.bl false)) nilA)) (vR 1) [.sh (.tup (nts ns)), .sh (.int (n : Int)), .dead, .dead] .non = .ok (.lst (bls (List.replicate n false))) .non := opE_by (a := .lst [.bl false]) (b := .int (n : Int)) (st1 := .non) (by simp [s1]) (by simp) (mul_bl false n hn)
    simp [fi_flags_of, e, env0, slotOf, -opE_ap, k2, seqP, hL]
  rw [e2]
/-! ## Table(n, lines) -/
theorem c_size_of (n : Nat) (st : PV) : callK fi_size_of [.int (n : Int)] st = .ok (.int (n : Int)) st := by
  rw [callK_val]
  have h : ¬ ((n : Int) < 0) := by omega
  have e : fi_size_of.sem [.int (n : Int)] .non = .ok (.int (n : Int)) .non := by
    simp [fi_size_of, g_size_of, env0, slotOf, h, borOk]
  rw [e]
theorem c_count (n : Nat) (st : PV) (hn : n ≤ 600) : callK fi_count_of_columns [.int (n : Int)] st = .ok (.int (n : Int)) st := by
  rw [callK_val]
  have h : ¬ (600 < (n : Int)) := by omega
  have e : fi_count_of_columns.sem [.int (n : Int)] .non = .ok (.int (n : Int)) .non := by
    simp [fi_count_of_columns, g_count_of_columns, env0, slotOf, c_size_of, h, borOk]
  rw [e]
def gSnd : PV → PV
  | .tup [_, p] => p
  | p => p
def lines (ls : List (List Nat)) : List PV := ls.map fun l => tx l
@[simp] theorem lines_length (ls : List (List Nat)) : (lines ls).length = ls.length := by simp [lines]
theorem enum_lines (ps : List PV) : (enumPs ps).map gSnd = ps := by
  unfold enumPs
  rw [List.map_map]
  have : (gSnd ∘ fun x : PV × Nat => PV.tup [.int (x.2 : Nat), x.1]) = Prod.fst := by funext x; rfl
  rw [this, List.zipIdx_map_fst]
theorem col_ne_lin : ¬ (Str.ofString "columns" = Str.ofString "lines") := by decide +kernel
theorem s_init (n : Nat) (ls : List (List Nat)) (hn : n ≤ 600) (hl : ls.length ≤ 800) (h : ∀ l ∈ ls, LineOk n l) : fi_Table_init.sem [.non, .int (n : Int), .lst (lines ls)] (.ins "Table" [] []) = .ok .non (tb n ls) := by
  have hs : sizeLine = 16777216 := sizeLine_eq
  have h1 : lcL (pairG 3 4) yesT (callE fi_check_line [] (consA (vE 4) (consA (vE 1) (consA (vE 3) nilA)))) [.mt, .sh (.int (n : Int)), .sh (.lst (lines ls)), .dead, .dead] (enumPs (lines ls)) (.ins "Table" ["columns"] [.int (n : Int)]) = .ok (lines ls) (.ins "Table" ["columns"] [.int (n : Int)]) := by
    rw [lcL_pure (fun _ => true) gSnd]
    · rw [List.filter_eq_self.mpr (fun _ _ => rfl), enum_lines]
    · intro p hp
      obtain ⟨i, hi⟩ := List.getElem?_of_mem hp
      obtain ⟨q, hq, rfl⟩ := enum_at hi
      obtain ⟨l, hlm, rfl⟩ := List.mem_map.mp (List.mem_of_getElem? hq)
      refine ⟨_, rfl, by simp, fun _ => ?_⟩
      have := c_check_line l n i (.ins "Table" ["columns"] [.int (n : Int)]) (h l hlm) (by omega)
      simp [borOk, this, gSnd]
  have h2 : (enumPs (lines ls)).length ≤ sizeLine := by rw [enumPs_length]; simp; omega
  have h3 : ¬ (800 < ((ls.length : Nat) : Int)) := by omega
  have h4 : isiP ["list", "tuple"] (.lst (lines ls)) = some true := rfl
  simp [fi_Table_init, g_Table_init, env0, slotOf, c_count n _ hn, h4, lenP, h3, seqP, calmAt, h2, putN, putV, borOk, h1, tupleP, hasMt, col_ne_lin, tb]
  rfl
theorem mk_table (n : Nat) (ls : List (List Nat)) (st : PV) (hn : n ≤ 600) (hl : ls.length ≤ 800) (h : ∀ l ∈ ls, LineOk n l) : makeK "Table" fi_Table_init [.int (n : Int), .lst (lines ls)] st = .ok (tb n ls) st := by
  unfold makeK
  rw [s_init n ls hn hl h]
  rfl
/-! ## is_forcing -/
def TabOk (n : Nat) (ls : List (List Nat)) : Prop := n ≤ 600 ∧ ls.length ≤ 800 ∧ ∀ l ∈ ls, LineOk n l
def stepI (ls : List (List Nat)) (w : List Bool) (r c : Int) : Bool := if 0 ≤ r ∧ r < ls.length then (match forcedR (ln ls r.toNat) (touchC (ln ls r.toNat)) w with
  | some j => (j : Int) == c
  | none => false) else false
def stepB (ls : List (List Nat)) (w : List Bool) : PV → Bool
  | .tup [.int r, .int c] => stepI ls w r c
  | .lst [.int r, .int c] => stepI ls w r c
  | _ => false
def pairOk : PV → Bool
  | .tup ps => ps.all notIns
  | .lst ps => ps.all notIns
  | .scr _ => false
  | q => notIns q
theorem TabOk.line {n : Nat} {ls : List (List Nat)} (h : TabOk n ls) {r : Nat} (hr : r < ls.length) : (ln ls r).length = n ∧ n ≤ sizeLine := by
  have hs : sizeLine = 16777216 := sizeLine_eq
  have hm : ln ls r ∈ ls := List.mem_of_getElem? (ln_at hr)
  exact ⟨(h.2.2 _ hm).1, by have := h.1; omega⟩
theorem touchC_lt {l : List Nat} {j : Nat} (h : j ∈ touchC l) : j < l.length := List.mem_range.mp (List.mem_filter.mp h).1
theorem touchC_len (l : List Nat) : (touchC l).length ≤ l.length := by
  have := List.length_filter_le (fun j => touched (mk l j)) (List.range l.length)
  rwa [List.length_range] at this
theorem c_forced_at {n : Nat} {ls : List (List Nat)} (h : TabOk n ls) {r : Nat} (hr : r < ls.length) (w : List Bool) (hw : w.length = n) (st : PV) :
    callK fi_forced_now [tx (ln ls r), .tup (nts (touchC (ln ls r))), .lst (bls w)] st = .ok (optI (forcedR (ln ls r) (touchC (ln ls r)) w)) st := by
  obtain ⟨h1, h2⟩ := h.line hr
  exact c_forced_now _ _ _ _ (fun j hj => ⟨by rw [hw, ← h1]; exact touchC_lt hj, touchC_lt hj⟩) (by omega) (by have := touchC_len (ln ls r); omega)
theorem eq_opt (o : Option Nat) (c : Int) : eqP (optI o) (.int c) = some (match o with
  | some j => (j : Int) == c
  | none => false) := by
  cases o with
  | none => exact eqP_non_int c
  | some j => exact eqP_int _ _
def midS : SF := (seqS (ifS (orT (notT (truT (callE fi_is_whole [] (consA (vE 3) nilA)))) (orT (notT (truT (callE fi_is_whole [] (consA (vE 4) nilA)))) (orT (cmpT ltP (vR 3) (cE (.int 0))) (cmpT geP (vR 3) (lenM ["Table"] fi_Table_len (vR 0)))))) (seqS (retS (cE (.bl false))) nxS) nxS) (seqS (retS (cmpE eqP (callE fi_forced_now [] (consA (opE ixP (fldE ["Table"] "lines" (vR 0)) (vR 3)) (consA (methE ["Table"] "touches" fi_Table_touches [] (vR 0) (consA (vE 3) nilA)) (consA (vR 2) nilA)))) (vR 4))) nxS))
theorem tab_in : (Str.ofString "Table") ∈ [Str.ofString "Table"] := by simp
theorem lenM_by {cs : List Str} {fi : FnI} {fo : EF} {env : SEnv} {st st1 s c} {ns : List Str} {ps : List PV} {n : Int} (he : fo env st = .ok (.ins c ns ps) st1) (hc : c ∈ cs) (hs : fi.sem [.ins c ns ps] .non = .ok (.int n) s) (h0 : 0 ≤ n) (h1 : n < 2 ^ 63) : lenM cs fi fo env st = .ok (.int n) st1 := by
  rw [lenM_ap, he]
  simp only [ER.bind_ok, hc, hs, h0, h1, and_self, if_true]
theorem m_len {n : Nat} {ls : List (List Nat)} (h : TabOk n ls) (env : SEnv) (i : Nat) (st : PV) (he : vR i env st = .ok (tb n ls) st) : lenM ["Table"] fi_Table_len (vR i) env st = .ok (.int (ls.length : Nat)) st :=
  lenM_by he tab_in (s_len n ls) (by omega) (by have := h.2.1; omega)
theorem m_touches {n : Nat} {ls : List (List Nat)} (h : TabOk n ls) (env : SEnv) (i : Nat) (fa : AF) (r : Nat) (hr : r < ls.length) (st : PV) (he : vR i env st = .ok (tb n ls) st) (ha : fa env st = .ok [.int (r : Int)] st) : methE ["Table"] "touches" fi_Table_touches [] (vR i) fa env st = .ok (.tup (nts (touchC (ln ls r)))) st := by
  obtain ⟨h1, h2⟩ := h.line hr
  rw [methE_ap, he, ER.bind_ok]
  show (if _ then ((fa env st).bind fun qs st2 => callK fi_Table_touches (tb n ls :: (qs ++ [])) st2) else ER.stuck) = _
  rw [if_pos ⟨tab_in, by decide +kernel⟩, ha, ER.bind_ok]
  exact c_touches n ls r st hr (by omega)
theorem mid_eq {n : Nat} {ls : List (List Nat)} (h : TabOk n ls) (w : List Bool) (hw : w.length = n) (q a b : PV) (ha : notIns a = true) (hb : notIns b = true) :
    midS [.sh (tb n ls), .sh q, .bor (.lst (bls w)), .sh a, .sh b] .non = .ret (.bl (stepB ls w (.tup [a, b]))) false [.sh (tb n ls), .sh q, .bor (.lst (bls w)), .sh a, .sh b] .non := by
  by_cases hwa : whole a = true
  · by_cases hwb : whole b = true
    · cases a <;> first
        | (cases hwa; done)
        | skip
      cases b <;> first
        | (cases hwb; done)
        | skip
      rename_i r c
      have e0 : stepB ls w (.tup [.int r, .int c]) = stepI ls w r c := rfl
      rw [e0]
      by_cases h1 : r < 0
      · have e : stepI ls w r c = false := if_neg (by omega)
        rw [e]
        simp [midS, h1, -lenM_ap, -methE_ap]
      · have hm := m_len h [.sh (tb n ls), .sh q, .bor (.lst (bls w)), .sh (.int r), .sh (.int c)] 0 .non (by simp)
        by_cases h2 : (ls.length : Int) ≤ r
        · have e : stepI ls w r c = false := if_neg (by omega)
          rw [e]
          simp [midS, h1, -lenM_ap, -methE_ap, hm, h2]
        · obtain ⟨j, rfl⟩ : ∃ j : Nat, r = (j : Int) := ⟨r.toNat, by omega⟩
          have hj : j < ls.length := by omega
          have h0 : ¬ ((j : Int) < 0) := by omega
          have ht := m_touches h [.sh (tb n ls), .sh q, .bor (.lst (bls w)), .sh (.int (j : Int)), .sh (.int c)] 0 (consA (vE 3) nilA) j hj .non (by simp) (by simp [borOk])
          have e : stepI ls w (j : Int) c = (match forcedR (ln ls j) (touchC (ln ls j)) w with
            | some j => (j : Int) == c
            | none => false) := by unfold stepI; rw [if_pos ⟨by omega, by omega⟩, Int.toNat_natCast]
          rw [e]
          simp [midS, h0, -lenM_ap, hm, h2, -methE_ap, ht, fld_lines, ix_lines hj, c_forced_at h hj w hw, eq_opt]
    · have e : stepB ls w (.tup [a, b]) = false := by cases a <;> cases b <;> first | rfl | (exfalso; exact hwb rfl)
      rw [e]
      have hb' : whole b = false := by simpa using hwb
      simp [midS, c_is_whole a .non ha, c_is_whole b .non hb, hwa, hb', -lenM_ap, -methE_ap]
  · have e : stepB ls w (.tup [a, b]) = false := by cases a <;> cases b <;> first | rfl | (exfalso; exact hwa rfl)
    rw [e]
    have ha' : whole a = false := by simpa using hwa
    simp [midS, c_is_whole a .non ha, ha', -lenM_ap, -methE_ap]
theorem isi_seq (ps : List PV) : isiP ["list", "tuple"] (.lst ps) = some true ∧ isiP ["list", "tuple"] (.tup ps) = some true := ⟨rfl, rfl⟩
/-! ## shows_forced -/
def colN : PV → Nat
  | .tup [_, .int c] => c.toNat
  | .lst [_, .int c] => c.toNat
  | _ => 0
/-- the flags behind a paper, if each pair forces -/
def runF (ls : List (List Nat)) : List Bool → List PV → Option (List Bool)
  | w, [] => some w
  | w, q :: qs => if stepB ls w q = true then runF ls (w.set (colN q) false) qs else none
theorem step_col {n : Nat} {ls : List (List Nat)} (h : TabOk n ls) {w : List Bool} (hw : w.length = n) {q : PV} (hs : stepB ls w q = true) : colN q < n ∧ ixP q (.int 1) = some (.int (colN q : Int)) := by
  have key : ∀ r c : Int, stepI ls w r c = true → ∃ j : Nat, c = (j : Int) ∧ j < n := fun r c hs => by
    unfold stepI at hs
    split at hs
    · rename_i hr
      split at hs
      · rename_i j hj
        refine ⟨j, (by simpa using hs : (j : Int) = c).symm, ?_⟩
        obtain ⟨h1, _⟩ := h.line (r := r.toNat) (by omega)
        unfold forcedR at hj
        have : j ∈ (touchC (ln ls r.toNat)).filter fun j => wh w j := by
          unfold oneHard at hj
          split at hj
          · rename_i k hk
            split at hj
            · cases hj; rw [hk]; simp
            · cases hj
          · cases hj
        have := touchC_lt (List.mem_filter.mp this).1
        omega
      · cases hs
    · cases hs
  unfold stepB at hs
  split at hs
  · obtain ⟨j, rfl, hj⟩ := key _ _ hs
    exact ⟨by simpa [colN] using hj, by simp [colN]; rfl⟩
  · obtain ⟨j, rfl, hj⟩ := key _ _ hs
    exact ⟨by simpa [colN] using hj, by simp [colN]; rfl⟩
  · cases hs
abbrev ints' (ns : List Nat) : List Int := ns.map fun (j : Nat) => (j : Int)
theorem lotBad_none {n : Nat} : ∀ (ns : List Nat) (i : Nat) (done : List Int), (∀ m ∈ ns, m < n) → ns.Nodup → (∀ m ∈ ns, (m : Int) ∉ done) → lotBad (n : Int) i done (ints' ns) = none
  | [], _, _, _, _, _ => rfl
  | m :: ns, i, done, h1, h2, h3 => by
    show (if (m : Int) < 0 ∨ (n : Int) ≤ m ∨ (m : Int) ∈ done then some i else lotBad (n : Int) (i + 1) (done ++ [(m : Int)]) (ints' ns)) = none
    have hm := h1 m List.mem_cons_self
    have hd := h3 m List.mem_cons_self
    rw [if_neg (by rintro (z | z | z); · omega
                   · omega
                   · exact hd z)]
    rw [List.nodup_cons] at h2
    refine lotBad_none ns (i + 1) _ (fun k hk => h1 k (List.mem_cons_of_mem _ hk)) h2.2 fun k hk z => ?_
    rcases List.mem_append.mp z with z | z
    · exact h3 k (List.mem_cons_of_mem _ hk) z
    · have : (k : Int) = m := by simpa using z
      have : k = m := by omega
      subst this
      exact h2.1 hk
/-- the sorted lot, as places -/
def sortN (ns : List Nat) : List Nat := (sortI (ints' ns)).map Int.toNat
theorem sortN_mem (ns : List Nat) (j : Nat) : j ∈ sortN ns ↔ j ∈ ns := by
  unfold sortN
  rw [List.mem_map]
  constructor
  · rintro ⟨i, hi, rfl⟩
    have := (sortI_perm (ints' ns)).mem_iff.mp hi
    obtain ⟨k, hk, rfl⟩ := List.mem_map.mp this
    simpa using hk
  · intro h
    exact ⟨(j : Int), (sortI_perm (ints' ns)).mem_iff.mpr (List.mem_map.mpr ⟨j, h, rfl⟩), by simp⟩
theorem sortN_nts (ns : List Nat) : (sortI (ints' ns)).map PV.int = nts (sortN ns) := by
  unfold nts sortN
  rw [List.map_map]
  apply List.map_congr_left
  intro i hi
  have := (sortI_perm (ints' ns)).mem_iff.mp hi
  obtain ⟨k, hk, rfl⟩ := List.mem_map.mp this
  simp
/-- the flags of what is white at first -/
def white0 (n : Nat) (ns : List Nat) : List Bool := (setAll true (sortN ns) (List.replicate n false)).map (!·)
theorem white0_len (n : Nat) (ns : List Nat) : (white0 n ns).length = n := by unfold white0; rw [List.length_map, setAll_length, List.length_replicate]
theorem wh_white0 {n : Nat} {ns : List Nat} (h : ∀ m ∈ ns, m < n) {j : Nat} (hj : j < n) : wh (white0 n ns) j = !decide (j ∈ ns) := by
  have h1 : (setAll true (sortN ns) (List.replicate n false)).length = n := by rw [setAll_length, List.length_replicate]
  have e : wh (white0 n ns) j = !wh (setAll true (sortN ns) (List.replicate n false)) j := by
    unfold white0 wh
    rw [List.getD_eq_getElem?_getD, List.getD_eq_getElem?_getD, List.getElem?_map, List.getElem?_eq_getElem (by rw [h1]; exact hj)]
    rfl
  rw [e, wh_setAll true _ _ _ (fun m hm => by rw [List.length_replicate]; exact h m ((sortN_mem ns m).mp hm))]
  have e0 : wh (List.replicate n false) j = false := by unfold wh; simp [hj]
  rw [e0]
  by_cases hm : j ∈ ns
  · simp [sortN_mem, hm]
  · simp [sortN_mem, hm]
def seqOf : PV → Option (List PV)
  | .lst ps => some ps
  | .tup ps => some ps
  | _ => none
/-- the answer of shows_forced -/
def showR (ls : List (List Nat)) (w : List Bool) (at_ : Nat) (paper : PV) : Bool := match seqOf paper with
  | some qs => (match runF ls w qs with
    | some w' => !wh w' at_
    | none => false)
  | none => false
theorem not_bls (st : PV) (b0 b1 b2 b3 b4 b5 b6 : Slot) : ∀ (w : List Bool), lcL (nameG 7) yesT (notE (vR 7)) [b0, b1, b2, b3, b4, b5, b6, .dead] (bls w) st = .ok (bls (w.map (!·))) st
  | [] => rfl
  | b :: w => by
    have ih := not_bls st b0 b1 b2 b3 b4 b5 b6 w
    show (ER.bind (ER.ok (PV.bl (!b)) st) fun y st2 => (lcL (nameG 7) yesT (notE (vR 7)) [b0, b1, b2, b3, b4, b5, b6, .dead] (bls w) st2).bind fun ys st3 => ER.ok (y :: ys) st3) = _
    rw [ER.bind_ok, ih, ER.bind_ok]
    rfl
def natF (f : Nat → Bool) : PV → Bool
  | .int i => f i.toNat
  | _ => false
@[simp] theorem natF_nat (f : Nat → Bool) (j : Nat) : natF f (.int (j : Int)) = f j := by simp [natF]
theorem filter_natF (cols : List Nat) (f : Nat → Bool) : (nts cols).filter (natF f) = nts (cols.filter f) := by
  induction cols with
  | nil => rfl
  | cons j cols ih =>
    rw [nts_cons, List.filter_cons, List.filter_cons, ih, natF_nat]
    split <;> rfl
/-! ## the law's own reading of a row -/
def loneR (l lot : List Nat) : Option Nat := oneHard l (lot.filter fun j => touched (mk l j))
theorem in_ft (c : Nat) : inP false (ch c) (.str "ft") = some (hard c) := by
  show some (if false = true then _ else decide (c ∈ ("ft" : Str).cps.toList)) = _
  rw [show ("ft" : Str) = ⟨#[102, 116]⟩ from by decide +kernel]
  simp [hard]
  rfl
theorem eqP_str (x y : Str) (hx : PyData.canLay0 (.str x) = true) (hy : PyData.canLay0 (.str y) = true) : eqP (.str x) (.str y) = some (x == y) := by
  unfold eqP eqB okD toD
  simp [SeqAt.shaped, PyData.eqv, hx, hy, PyData.depth]
theorem lit_l : ("l" : Str) = ⟨#[108]⟩ := by decide +kernel
theorem eq_l {c : Nat} (h : c = 46 ∨ touched c = true) : eqP (ch c) (.str "l") = some (c == 108) := by
  have := mark_lt h
  rw [eqP_str]
  · rw [lit_l]
    by_cases e : c = 108
    · subst e; simp
    · rw [show (c == 108) = false from by simpa using e]
      simp [e]
  · show PyData.strOk _ = true
    simp [PyData.strOk]; omega
  · rw [lit_l]; show PyData.strOk _ = true; decide +kernel
theorem mk_mem {l : List Nat} {j : Nat} (h : j < l.length) : mk l j ∈ l := List.mem_of_getElem? (mk_at h)
theorem lone_eq (l lot : List Nat) : loneR l lot = (match lot.filter (fun j => hard (mk l j)), lot.filter (fun j => mk l j == 108) with
  | [j], [] => some j
  | _, _ => none) := by
  have h1 : lot.filter (fun j => hard (mk l j)) = (lot.filter fun j => touched (mk l j)).filter fun j => hard (mk l j) := by
    rw [List.filter_filter]
    apply List.filter_congr
    intro j _
    unfold hard touched
    cases mk l j == 102 <;> cases mk l j == 116 <;> cases mk l j == 108 <;> rfl
  have h2 : lot.filter (fun j => mk l j == 108) = (lot.filter fun j => touched (mk l j)).filter fun j => mk l j == 108 := by
    rw [List.filter_filter]
    apply List.filter_congr
    intro j _
    unfold touched
    cases mk l j == 102 <;> cases mk l j == 116 <;> cases mk l j == 108 <;> rfl
  have h3 : ∀ j ∈ (lot.filter fun j => touched (mk l j)), touched (mk l j) = true := fun j hj => (List.mem_filter.mp hj).2
  rw [h1, h2]
  unfold loneR
  generalize (lot.filter fun j => touched (mk l j)) = S at h3 ⊢
  have h4 : ∀ {c : Nat}, touched c = true → hard c = false → (c == 108) = true := fun {c} h h' => by
    unfold touched at h; unfold hard at h'
    revert h h'
    cases c == 102 <;> cases c == 116 <;> cases c == 108 <;> decide
  have h5 : ∀ {c : Nat}, hard c = true → (c == 108) = false := fun {c} h => by
    unfold hard at h
    simp only [Bool.or_eq_true, beq_iff_eq] at h
    rcases h with rfl | rfl <;> rfl
  match S, h3 with
  | [], _ => rfl
  | [j], h3 =>
    have ht := h3 j (by simp)
    cases hh : hard (mk l j) with
    | true => simp [oneHard, hh, h5 hh]
    | false => simp [oneHard, hh]
  | a :: b :: r, h3 =>
    have ha := h3 a (by simp)
    have hb := h3 b (by simp)
    have e0 : oneHard l (a :: b :: r) = none := rfl
    rw [e0]
    have key : ∀ (H L : List Nat), L ≠ [] → none = (match H, L with
      | [j], [] => some j
      | _, _ => none) := fun H L hL => by
      cases L with
      | nil => exact absurd rfl hL
      | cons x xs => cases H with
        | nil => rfl
        | cons y ys => cases ys <;> rfl
    cases hha : hard (mk l a) with
    | false =>
      refine key _ _ fun z => ?_
      have : a ∈ (a :: b :: r).filter fun j => mk l j == 108 := List.mem_filter.mpr ⟨by simp, h4 ha hha⟩
      rw [z] at this; cases this
    | true =>
      cases hhb : hard (mk l b) with
      | false =>
        refine key _ _ fun z => ?_
        have : b ∈ (a :: b :: r).filter fun j => mk l j == 108 := List.mem_filter.mpr ⟨by simp, h4 hb hhb⟩
        rw [z] at this; cases this
      | true =>
        simp [List.filter_cons, hha, hhb]
theorem s_lone (l lot : List Nat) (hl : l.length ≤ sizeLine) (hm : ∀ c ∈ l, c = 46 ∨ touched c = true) (hj : ∀ j ∈ lot, j < l.length) (hz : lot.length ≤ sizeLine) :
    fi__law_lone.sem [tx l, .lst (nts lot)] .non = .ok (optI (loneR l lot)) .non := by
  have h1 : lcL (nameG 4) (cmpT (inP false) (opE ixP (vR 0) (vR 4)) (cE (.str "ft"))) (vE 4) [.sh (tx l), .sh (.lst (nts lot)), .dead, .dead, .dead] (nts lot) .non = .ok (nts (lot.filter fun j => hard (mk l j))) .non := by
    rw [lcL_pure (natF fun j => hard (mk l j)) id]
    · rw [List.map_id, filter_natF lot fun j => hard (mk l j)]
    · intro p hp
      obtain ⟨j, hjm, rfl⟩ := mem_nts hp
      refine ⟨_, rfl, ?_, fun _ => ?_⟩
      · simp [ix_tx (hj j hjm) hl, in_ft]
      · simp
  have h2 : ∀ p : PV, lcL (nameG 4) (cmpT eqP (opE ixP (vR 0) (vR 4)) (cE (.str "l"))) (vE 4) [.sh (tx l), .sh (.lst (nts lot)), .own p, .dead, .dead] (nts lot) .non = .ok (nts (lot.filter fun j => mk l j == 108)) .non := fun p0 => by
    rw [lcL_pure (natF fun j => mk l j == 108) id]
    · rw [List.map_id, filter_natF lot fun j => mk l j == 108]
    · intro p hp
      obtain ⟨j, hjm, rfl⟩ := mem_nts hp
      refine ⟨_, rfl, ?_, fun _ => ?_⟩
      · simp [ix_tx (hj j hjm) hl, eq_l (hm _ (mk_mem (hj j hjm)))]
      · simp
  have h3 : (nts lot).length ≤ sizeLine := by simpa using hz
  rw [lone_eq]
  generalize lot.filter (fun j => hard (mk l j)) = H at h1 ⊢
  generalize lot.filter (fun j => mk l j == 108) = L at h2 ⊢
  match H, L with
  | [], [] => simp [fi__law_lone, g__law_lone, env0, slotOf, seqP, calmAt, hz, h1, h2, lenP, eqP_int, optI]
  | [], b :: s => simp [fi__law_lone, g__law_lone, env0, slotOf, seqP, calmAt, hz, h1, h2, lenP, eqP_int, optI]
  | [a], [] =>
    have k1 : ixP (.lst [.int (a : Int)]) (.int 0) = some (.int (a : Int)) := rfl
    simp [fi__law_lone, g__law_lone, env0, slotOf, seqP, calmAt, hz, h1, h2, lenP, eqP_int, optI, k1]
  | [a], b :: s =>
    have k2 : ¬ ((s.length : Int) + 1 = 0) := by omega
    simp [fi__law_lone, g__law_lone, env0, slotOf, seqP, calmAt, hz, h1, h2, lenP, eqP_int, optI, k2]
  | a :: b :: r, L =>
    have k2 : ¬ ((r.length : Int) + 1 + 1 = 1) := by omega
    simp [fi__law_lone, g__law_lone, env0, slotOf, seqP, calmAt, hz, h1, h2, lenP, eqP_int, optI, k2]
/-- what is white, as a lot -/
def whl (n : Nat) (w : List Bool) : List Nat := (List.range n).filter fun j => wh w j
theorem whl_lt {n : Nat} {w : List Bool} {j : Nat} (h : j ∈ whl n w) : j < n := List.mem_range.mp (List.mem_filter.mp h).1
theorem whl_len (n : Nat) (w : List Bool) : (whl n w).length ≤ n := by
  have := List.length_filter_le (fun j => wh w j) (List.range n)
  rwa [List.length_range] at this
theorem forced_lone {n : Nat} {ls : List (List Nat)} (h : TabOk n ls) {r : Nat} (hr : r < ls.length) (w : List Bool) : forcedR (ln ls r) (touchC (ln ls r)) w = loneR (ln ls r) (whl n w) := by
  obtain ⟨h1, _⟩ := h.line hr
  unfold forcedR loneR touchC whl
  rw [h1, List.filter_filter, List.filter_filter]
  congr 1
  apply List.filter_congr
  intro j _
  rw [Bool.and_comm]
theorem c_lone {n : Nat} {ls : List (List Nat)} (h : TabOk n ls) {r : Nat} (hr : r < ls.length) (lot : List Nat) (hlt : ∀ j ∈ lot, j < n) (hz : lot.length ≤ sizeLine) (st : PV) :
    callK fi__law_lone [tx (ln ls r), .lst (nts lot)] st = .ok (optI (loneR (ln ls r) lot)) st := by
  obtain ⟨h1, h2⟩ := h.line hr
  rw [callK_val, s_lone _ _ (by omega) (h.2.2 _ (List.mem_of_getElem? (ln_at hr))).2.1 (fun j hj => by rw [h1]; exact hlt j hj) hz]
theorem whl_set {n : Nat} {w : List Bool} (hw : w.length = n) {j : Nat} (hj : j < n) : (whl n w).filter (fun k => !decide (k = j)) = whl n (w.set j false) := by
  unfold whl
  rw [List.filter_filter]
  apply List.filter_congr
  intro k _
  rw [wh_set false w j k (by rw [hw]; exact hj)]
  by_cases e : j = k
  · subst e; simp
  · have e' : ¬ k = j := fun z => e z.symm
    simp [e, e']
/-! ## pairs -/
def isPair : PV → Bool
  | .tup [a, b] => whole a && whole b
  | .lst [a, b] => whole a && whole b
  | _ => false
def pairB : SF := (seqS (ifS (orT (notT (truT (isiE ["int"] (vR 1)))) (truT (isiE ["bool"] (vR 1)))) (seqS (retS (cE (.bl false))) nxS) nxS) (fun env st => .nx (killS [1] env) st))
theorem pairB_at (q a : PV) (ha : notIns a = true) : pairB [.sh q, .sh a] .non = if whole a = true then .nx [.sh q, .dead] .non else .ret (.bl false) false [.sh q, .sh a] .non := by
  cases a <;> first
    | (cases ha; done)
    | (simp [pairB, isiP, tyN, tyIs]; done)
    | (simp [pairB, isiP, tyN, tyIs]; rfl)
theorem pair_loop (q a b : PV) (ha : notIns a = true) (hb : notIns b = true) : (if whole a && whole b then forL (nameG 1) pairB [a, b] [.sh q, .dead] .non = .nx [.sh q, .dead] .non else ∃ env', forL (nameG 1) pairB [a, b] [.sh q, .dead] .non = .ret (.bl false) false env' .non) := by
  have e : forL (nameG 1) pairB [a, b] [.sh q, .dead] .non = (match pairB [.sh q, .sh a] .non with
      | .nx env2 st2 => forL (nameG 1) pairB [b] env2 st2
      | .ct env2 st2 => forL (nameG 1) pairB [b] env2 st2
      | .brk env2 st2 => .nx env2 st2
      | r => r) := rfl
  have e2 : forL (nameG 1) pairB [b] [.sh q, .dead] .non = (match pairB [.sh q, .sh b] .non with
      | .nx env2 st2 => forL (nameG 1) pairB [] env2 st2
      | .ct env2 st2 => forL (nameG 1) pairB [] env2 st2
      | .brk env2 st2 => .nx env2 st2
      | r => r) := rfl
  rw [pairB_at q a ha] at e
  rw [pairB_at q b hb] at e2
  cases hwa : whole a with
  | false =>
    rw [if_neg (by simp)]
    rw [if_neg (by rw [hwa]; simp)] at e
    exact ⟨_, e⟩
  | true =>
    rw [if_pos hwa] at e
    dsimp only at e
    rw [e2] at e
    cases hwb : whole b with
    | false =>
      rw [if_neg (by simp)]
      rw [if_neg (by rw [hwb]; simp)] at e
      exact ⟨_, e⟩
    | true =>
      rw [if_pos (by simp)]
      rw [if_pos hwb] at e
      exact e
/-! ## judged by the law itself -/
theorem rng_nat (n : Nat) : rng 0 (n : Int) = nts (List.range n) := by
  unfold rng nts
  rw [show ((n : Int) - 0).toNat = n from by omega]
  apply List.map_congr_left
  intro i _
  simp
theorem rngP_nat {n : Nat} (h : n ≤ sizeLine) : rngP [.int (n : Int)] = some (nts (List.range n)) := by
  have hs : sizeLine = 16777216 := sizeLine_eq
  rw [← rng_nat]
  unfold rngP
  exact if_pos (by omega)
theorem in_nts (neg : Bool) (i : Nat) (out : List Nat) : inP neg (.int (i : Int)) (.lst (nts out)) = some (if neg = true then !decide (i ∈ out) else decide (i ∈ out)) := by
  have h1 : (nts out).all flatP = true := by
    rw [List.all_eq_true]
    intro p hp
    obtain ⟨j, _, rfl⟩ := mem_nts hp
    rfl
  have h2 : ((nts out).any fun r => eqF r (.int (i : Int))) = decide (i ∈ out) := by
    rw [Bool.eq_iff_iff, List.any_eq_true]
    constructor
    · rintro ⟨p, hp, he⟩
      obtain ⟨j, hj, rfl⟩ := mem_nts hp
      have : ((j : Int) == (i : Int)) = true := he
      have : j = i := by
        have := eq_of_beq this
        omega
      subst this
      simpa using hj
    · intro h
      have h : i ∈ out := by simpa using h
      exact ⟨.int (i : Int), List.mem_map.mpr ⟨i, h, rfl⟩, by show ((i : Int) == (i : Int)) = true; simp⟩
  show (if flatP (.int (i : Int)) = true ∧ (nts out).all flatP = true then _ else _) = _
  rw [if_pos ⟨rfl, h1⟩, h2]
theorem rep_dct : ∀ q : PV, pairOk q = true → isPair q = true → ∃ r c : Int, (q = .tup [.int r, .int c] ∨ q = .lst [.int r, .int c]) := by
  have key : ∀ ps : List PV, (match ps with | [a, b] => whole a && whole b | _ => false) = true → ∃ r c : Int, ps = [.int r, .int c] := fun ps h => by
    match ps, h with
    | [a, b], h =>
      simp only [Bool.and_eq_true] at h
      cases a <;> first
        | (cases h.1; done)
        | skip
      cases b <;> first
        | (cases h.2; done)
        | skip
      exact ⟨_, _, rfl⟩
  intro q hq hp
  cases q <;> first
    | (cases hp; done)
    | skip
  · rename_i ps
    obtain ⟨r, c, rfl⟩ := key ps (by revert hp; unfold isPair; split <;> simp_all)
    exact ⟨r, c, .inr rfl⟩
  · rename_i ps
    obtain ⟨r, c, rfl⟩ := key ps (by revert hp; unfold isPair; split <;> simp_all)
    exact ⟨r, c, .inl rfl⟩
theorem not_pair (ls : List (List Nat)) (w : List Bool) (q : PV) (h : isPair q = false) : stepB ls w q = false := by
  unfold stepB
  split
  · cases h
  · cases h
  · rfl
def judgeC : SF := (seqS (setS 8 (callE fi__law_lone [] (consA (opE ixP (vR 0) (vR 7)) (consA (vE 5) nilA)))) (seqS (ifS (orT (cmpT isP (vR 8) (cE .non)) (cmpT neP (vR 8) (opE ixP (vR 6) (cE (.int 1))))) (seqS (retS (cE (.bl false))) nxS) nxS) (seqS (setO 5 (lcE [9] (seqA (vE 5)) (nameG 9) (cmpT neP (vR 9) (vR 8)) (vE 9))) (fun env st => .nx (killS [6, 7, 8] env) st))))
@[simp] theorem frz5 (a b c d e : Slot) (p : PV) (r : SEnv) : frzE 5 (a :: b :: c :: d :: e :: .own p :: r) = a :: b :: c :: d :: e :: .sh p :: r := (rfl)
theorem ix_linesL {ls : List (List Nat)} {r : Nat} (h : r < ls.length) : ixP (.lst (lines ls)) (.int (r : Int)) = some (tx (ln ls r)) := by
  show L2.atI (ls.map fun l => tx l) (r : Int) = _
  rw [atI_nat (x := tx (ln ls r))]
  rw [List.getElem?_map, ln_at h]; rfl
theorem ne_filter (xs : List Nat) (j : Nat) (b0 b1 b2 b3 b4 b5 b6 b7 : Slot) : lcL (nameG 9) (cmpT neP (vR 9) (vR 8)) (vE 9) [b0, b1, b2, b3, b4, b5, b6, b7, .sh (.int (j : Int)), .dead] (nts xs) .non = .ok (nts (xs.filter fun k => !decide (k = j))) .non := by
  rw [lcL_pure (natF fun k => !decide (k = j)) id]
  · rw [List.map_id, filter_natF xs fun k => !decide (k = j)]
  · intro p hp
    obtain ⟨k, hk, rfl⟩ := mem_nts hp
    refine ⟨_, rfl, ?_, fun _ => ?_⟩
    · have : ((k : Int) == (j : Int)) = decide (k = j) := by
        rw [Bool.eq_iff_iff]; simp; omega
      simp [neP_int, this]
    · simp
/-! ## Forcing(table, told=..) -/
theorem count_off : ∀ (w : List Bool) (j : Nat), wh w j = true → (w.set j false).count true + 1 = w.count true
  | [], j, h => by simp [wh] at h
  | b :: w, 0, h => by
    have : b = true := by simpa [wh] using h
    subst this
    simp
  | b :: w, j + 1, h => by
    have h' : wh w j = true := by simpa [wh] using h
    have := count_off w j h'
    rw [List.set_cons_succ, List.count_cons, List.count_cons]
    omega
theorem forced_wh {l cols : List Nat} {w : List Bool} {j : Nat} (h : forcedR l cols w = some j) : wh w j = true ∧ j ∈ cols := by
  unfold forcedR at h
  have : j ∈ cols.filter fun j => wh w j := by
    unfold oneHard at h
    split at h
    · rename_i k' hk'
      split at h
      · cases h; rw [hk']; simp
      · cases h
    · cases h
  have := List.mem_filter.mp this
  exact ⟨this.2, this.1⟩
def offB : SF := (seqS (setIx 4 (cE (.bl false)) (vE 5)) (fun env st => .nx (killS [5] env) st))
def rowB : SF := (seqS (setS 5 (callE fi_forced_now [] (consA (opE ixP (fldE ["Table"] "lines" (vR 1)) (vR 9)) (consA (opE ixP (vR 6) (vR 9)) (consA (vR 4) nilA))))) (seqS (ifS (cmpT isnP (vR 5) (cE .non)) (seqS (setIx 4 (cE (.bl false)) (vE 5)) (seqS (appS 7 (tupE (consA (vE 9) (consA (vE 5) nilA)))) nxS)) nxS) (fun env st => .nx (killS [9, 5] env) st)))
def roundB : SF := (seqS (setS 8 (biE lenP (consA (vR 7) nilA))) (seqS (forS (rngA (consA (biE lenP (consA (vR 6) nilA)) nilA)) (nameG 9) rowB) (fun env st => .nx (killS [9, 5] env) st)))
theorem off_loop (a b c d : Slot) (e f g h : Slot) (st : PV) : ∀ (ns : List Nat) (w : List Bool), (∀ n ∈ ns, n < w.length) → forL (nameG 5) offB (nts ns) [a, b, c, d, .own (.lst (bls w)), .dead, e, f, g, h] st = .nx [a, b, c, d, .own (.lst (bls (setAll false ns w))), .dead, e, f, g, h] st
  | [], w, _ => rfl
  | n :: ns, w, hn => by
    have hb : forL (nameG 5) offB (nts (n :: ns)) [a, b, c, d, .own (.lst (bls w)), .dead, e, f, g, h] st = (match offB [a, b, c, d, .own (.lst (bls w)), .sh (.int (n : Int)), e, f, g, h] st with
      | .nx env2 st2 => forL (nameG 5) offB (nts ns) env2 st2
      | .ct env2 st2 => forL (nameG 5) offB (nts ns) env2 st2
      | .brk env2 st2 => .nx env2 st2
      | r => r) := rfl
    have hn' := hn n List.mem_cons_self
    have e1 : offB [a, b, c, d, .own (.lst (bls w)), .sh (.int (n : Int)), e, f, g, h] st = .nx [a, b, c, d, .own (.lst (bls (w.set n false))), .dead, e, f, g, h] st := by
      simp [offB, ixN_nat hn', set_bls]
    rw [hb, e1]
    exact off_loop a b c d e f g h st ns (w.set n false) fun m hm => by rw [List.length_set]; exact hn m (List.mem_cons_of_mem _ hm)
def touchL (ls : List (List Nat)) : List PV := ls.map fun l => PV.tup (nts (touchC l))
theorem ix_touchL {ls : List (List Nat)} {r : Nat} (h : r < ls.length) : ixP (.lst (touchL ls)) (.int (r : Int)) = some (.tup (nts (touchC (ln ls r)))) := by
  show L2.atI (touchL ls) (r : Int) = _
  unfold touchL
  rw [atI_nat (x := PV.tup (nts (touchC (ln ls r))))]
  rw [List.getElem?_map, ln_at h]; rfl
theorem runF_app (ls : List (List Nat)) : ∀ (qs : List PV) (w w1 : List Bool) (q : PV), runF ls w qs = some w1 → stepB ls w1 q = true → runF ls w (qs ++ [q]) = some (w1.set (colN q) false)
  | [], w, w1, q, h, hs => by
    cases h
    show (if stepB ls w q = true then some _ else none) = _
    rw [if_pos hs]
  | p :: qs, w, w1, q, h, hs => by
    unfold runF at h
    show (if stepB ls w p = true then runF ls (w.set (colN p) false) (qs ++ [q]) else none) = _
    by_cases hp : stepB ls w p = true
    · rw [if_pos hp] at h ⊢
      exact runF_app ls qs _ w1 q h hs
    · rw [if_neg hp] at h
      cases h
theorem forced_step {ls : List (List Nat)} {r c : Nat} (hr : r < ls.length) {w : List Bool} (hc : forcedR (ln ls r) (touchC (ln ls r)) w = some c) : stepB ls w (.tup [.int (r : Int), .int (c : Int)]) = true := by
  show stepI ls w (r : Int) (c : Int) = true
  unfold stepI
  rw [if_pos ⟨by omega, by omega⟩, Int.toNat_natCast, hc]
  simp
/-- no row of these forces -/
def Stuck (ls : List (List Nat)) (rs : List Nat) (w : List Bool) : Prop := ∀ r ∈ rs, forcedR (ln ls r) (touchC (ln ls r)) w = none
/-- the state of the loops of Forcing -/
def FI (ls : List (List Nat)) (w0 : List Bool) (n m : Nat) (os : List PV) (w : List Bool) : Prop := runF ls w0 os = some w ∧ w.length = n ∧ os.length + w.count true ≤ n ∧ m ≤ os.length ∧ ∀ q ∈ os, pairOk q = true
abbrev fE (t : PV) (ls : List (List Nat)) (b c d : Slot) (w : List Bool) (os : List PV) (before : Slot) : SEnv := [.mt, .sh t, b, c, .own (.lst (bls w)), .dead, .own (.lst (touchL ls)), .own (.lst os), before, d]
theorem row_step {n : Nat} {ls : List (List Nat)} (h : TabOk n ls) (b c bf : Slot) (st : PV) (w0 : List Bool) (m : Nat) (w : List Bool) (os : List PV) (hI : FI ls w0 n m os w) (r : Nat) (hr : r < ls.length) :
    ∃ w' os', rowB (fE (tb n ls) ls b c (.sh (.int (r : Int))) w os bf) st = .nx (fE (tb n ls) ls b c .dead w' os' bf) st ∧ FI ls w0 n m os' w' ∧ ((w' = w ∧ os' = os ∧ forcedR (ln ls r) (touchC (ln ls r)) w = none) ∨ os.length < os'.length) := by
  have hs : sizeLine = 16777216 := sizeLine_eq
  have hn := h.1
  obtain ⟨h0, h1, h2, h3, h4⟩ := hI
  have hf := c_forced_at h hr w h1 st
  cases hc : forcedR (ln ls r) (touchC (ln ls r)) w with
  | none =>
    rw [hc] at hf
    refine ⟨w, os, ?_, ⟨h0, h1, h2, h3, h4⟩, .inl ⟨rfl, rfl, rfl⟩⟩
    simp [rowB, fE, fld_lines, ix_lines hr, ix_touchL hr, hf, optI, isnP, isNon]
  | some j =>
    rw [hc] at hf
    obtain ⟨hw, hj⟩ := forced_wh hc
    have hjn : j < n := by
      have := touchC_lt hj
      rw [(h.line hr).1] at this
      exact this
    have hcnt := count_off w j hw
    have hos : os.length < sizeLine := by omega
    have hrun := runF_app ls os w0 w _ h0 (forced_step hr hc)
    have hcol : colN (.tup [.int (r : Int), .int (j : Int)]) = j := by simp [colN]
    rw [hcol] at hrun
    refine ⟨w.set j false, os ++ [.tup [.int (r : Int), .int (j : Int)]], ?_, ⟨hrun, by rw [List.length_set]; exact h1, by rw [List.length_append]; simp; omega, by rw [List.length_append]; omega, fun q hq => ?_⟩, .inr (by simp)⟩
    · simp [rowB, fE, fld_lines, ix_lines hr, ix_touchL hr, hf, optI, isnP, isNon, ixN_nat (n := w.length) (by rw [h1]; exact hjn), set_bls, s2, hos]
    · rcases List.mem_append.mp hq with hq | hq
      · exact h4 q hq
      · rw [List.mem_singleton.mp hq]; rfl
theorem row_loop {n : Nat} {ls : List (List Nat)} (h : TabOk n ls) (b c bf : Slot) (st : PV) (w0 : List Bool) (m : Nat) : ∀ (rs : List Nat) (w : List Bool) (os : List PV), (∀ r ∈ rs, r < ls.length) → FI ls w0 n m os w →
    ∃ w' os', forL (nameG 9) rowB (nts rs) (fE (tb n ls) ls b c .dead w os bf) st = .nx (fE (tb n ls) ls b c .dead w' os' bf) st ∧ FI ls w0 n m os' w' ∧ ((w' = w ∧ os' = os ∧ Stuck ls rs w) ∨ os.length < os'.length)
  | [], w, os, _, hI => ⟨w, os, rfl, hI, .inl ⟨rfl, rfl, fun r hr => by simp at hr⟩⟩
  | r :: rs, w, os, hr, hI => by
    obtain ⟨w1, os1, e1, hI1, hc1⟩ := row_step h b c bf st w0 m w os hI r (hr r List.mem_cons_self)
    obtain ⟨w2, os2, e2, hI2, hc2⟩ := row_loop h b c bf st w0 m rs w1 os1 (fun k hk => hr k (List.mem_cons_of_mem _ hk)) hI1
    refine ⟨w2, os2, forL_nx rfl e1 e2, hI2, ?_⟩
    rcases hc1 with ⟨rfl, rfl, hf⟩ | hlt
    · rcases hc2 with ⟨rfl, rfl, hst⟩ | hlt
      · refine .inl ⟨rfl, rfl, fun k hk => ?_⟩
        rcases List.mem_cons.mp hk with rfl | hk
        · exact hf
        · exact hst k hk
      · exact .inr hlt
    · refine .inr ?_
      rcases hc2 with ⟨_, rfl, _⟩ | hlt2
      · exact hlt
      · omega
theorem round_step {n : Nat} {ls : List (List Nat)} (h : TabOk n ls) (b c bf : Slot) (st : PV) (w0 w : List Bool) (os : List PV) (hI : FI ls w0 n 0 os w) :
    ∃ w' os', roundB (fE (tb n ls) ls b c .dead w os bf) st = .nx (fE (tb n ls) ls b c .dead w' os' (.sh (.int (os.length : Nat)))) st ∧ FI ls w0 n os.length os' w' ∧ (os.length < os'.length ∨ Stuck ls (List.range ls.length) w') := by
  have hs : sizeLine = 16777216 := sizeLine_eq
  have hl := h.2.1
  obtain ⟨w', os', e1, hI1, hc⟩ := row_loop h b c (.sh (.int (os.length : Nat))) st w0 os.length (List.range ls.length) w os (fun r hr => List.mem_range.mp hr) ⟨hI.1, hI.2.1, hI.2.2.1, Nat.le_refl _, hI.2.2.2.2⟩
  refine ⟨w', os', ?_, hI1, ?_⟩
  · have k : (touchL ls).length = ls.length := by simp [touchL]
    have kz : ls.length ≤ sizeLine := by omega
    have kr := rngP_nat kz
    simp only [fE] at e1
    have e2 : rngA (consA (biE lenP (consA (vR 6) nilA)) nilA) (fE (tb n ls) ls b c .dead w os (.sh (.int (os.length : Nat)))) st = .ok (nts (List.range ls.length)) st := by
      simp [fE, lenP, k, kr]
    simp only [fE] at e2
    have e3 : biE lenP (consA (vR 7) nilA) (fE (tb n ls) ls b c .dead w os bf) st = .ok (.int (os.length : Nat)) st := by
      simp [fE, lenP]
    exact seq_nx (set_ok e3) (seq_nx (for_ok e2 e1) rfl)
  · rcases hc with ⟨rfl, _, hst⟩ | hlt
    · exact .inr hst
    · exact .inl hlt
theorem round_loop {n : Nat} {ls : List (List Nat)} (h : TabOk n ls) (b c : Slot) (st : PV) (w0 : List Bool) : ∀ (f : Nat) (w : List Bool) (os : List PV) (bf : Int), FI ls w0 n 0 os w → 1 ≤ f → (bf < os.length → n - os.length + 2 ≤ f) → (bf < os.length ∨ Stuck ls (List.range ls.length) w) →
    ∃ w' os' bf', whileL (cmpT gtP (biE lenP (consA (vR 7) nilA)) (vR 8)) roundB f (fE (tb n ls) ls b c .dead w os (.sh (.int bf))) st = .nx (fE (tb n ls) ls b c .dead w' os' bf') st ∧ FI ls w0 n 0 os' w' ∧ Stuck ls (List.range ls.length) w' := by
  intro f
  induction f with
  | zero => intro w os bf _ hf _; exact absurd hf (by omega)
  | succ f ih =>
    intro w os bf hI _ hf hq
    have e : cmpT gtP (biE lenP (consA (vR 7) nilA)) (vR 8) (fE (tb n ls) ls b c .dead w os (.sh (.int bf))) st = .ok (decide (bf < os.length)) st := by
      simp [fE, lenP]
    by_cases hlt : bf < os.length
    · rw [decide_eq_true hlt] at e
      obtain ⟨w1, os1, e1, hI1, hc1⟩ := round_step h b c (.sh (.int bf)) st w0 w os hI
      have hf' := hf hlt
      have hle := hI1.2.2.2.1
      have h2 := hI1.2.2.1
      obtain ⟨w2, os2, b2, e2, hI2⟩ := ih w1 os1 (os.length : Nat) ⟨hI1.1, hI1.2.1, hI1.2.2.1, Nat.zero_le _, hI1.2.2.2.2⟩ (by omega) (fun hb => by
        have hb : os.length < os1.length := by omega
        omega) (by
        rcases hc1 with hc1 | hc1
        · exact .inl (by omega)
        · exact .inr hc1)
      exact ⟨w2, os2, b2, while_nx e e1 e2, hI2⟩
    · rw [decide_eq_false hlt] at e
      exact ⟨w, os, _, while_end e, hI, hq.resolve_left hlt⟩
/-! ## the stream -/
def SOk (st : PV) : Prop := ∃ (xs : List Int) (a : Nat), st = .lst [.lst (xs.map .int), .int (a : Int)]
theorem fmod_lt (x : Int) {m : Int} (h : 0 < m) : ∃ k : Nat, (k : Int) < m ∧ Int.fmod x m = (k : Int) := by
  have h1 := Int.fmod_nonneg_of_pos x h
  have h2 := Int.fmod_lt_of_pos x h
  exact ⟨(Int.fmod x m).toNat, by omega, by omega⟩
theorem s_next (xs : List Int) (a : Nat) (many : Int) (hm : 0 < many) : ∃ v : Nat, (v : Int) < many ∧ fi__law_next.sem [.non, .int many] (.lst [.lst (xs.map .int), .int (a : Int)]) = .ok (.int (v : Int)) (.lst [.lst (xs.map .int), .int ((a : Int) + 1)]) := by
  have k0 : L2.atI [PV.lst (xs.map .int), .int (a : Int)] 0 = some (.lst (xs.map .int)) := rfl
  have k1 : L2.atI [PV.lst (xs.map .int), .int (a : Int)] 1 = some (.int (a : Int)) := rfl
  have k2 : L2.ixN 2 1 = some 1 := rfl
  have k3 : addP (.int (a : Int)) (.int 1) = some (.int ((a : Int) + 1)) := rfl
  by_cases ha : xs.length ≤ a
  · refine ⟨0, by omega, ?_⟩
    have ha' : ((xs.length : Nat) : Int) ≤ (a : Int) := by omega
    simp [fi__law_next, g__law_next, env0, slotOf, k0, k1, k2, k3, lenP, ha', hasMt]
  · have ha' : ¬ ((xs.length : Nat) : Int) ≤ (a : Int) := by omega
    obtain ⟨x, hx⟩ : ∃ x, xs[a]? = some x := ⟨_, List.getElem?_eq_getElem (by omega)⟩
    obtain ⟨v, h1, h2⟩ := fmod_lt x hm
    refine ⟨v, h1, ?_⟩
    have k4 : ixP (.lst (xs.map .int)) (.int (a : Int)) = some (.int x) := by
      show L2.atI (xs.map PV.int) (a : Int) = _
      rw [atI_nat (x := .int x)]
      rw [List.getElem?_map, hx]; rfl
    have k5 : modP (.int x) (.int many) = some (.int (v : Int)) := by
      show (if decide (many ≠ 0) = true then some (PV.int (Int.fmod x many)) else none) = _
      rw [if_pos (by simp; omega), h2]
    simp [fi__law_next, g__law_next, env0, slotOf, k0, k1, k2, k3, lenP, ha', hasMt, k4, intTyP, k5]
theorem c_next {st : PV} (h : SOk st) (many : Int) (hm : 0 < many) : ∃ (v : Nat) (st' : PV), (v : Int) < many ∧ SOk st' ∧ callK fi__law_next [.non, .int many] st = .ok (.int (v : Int)) st' := by
  obtain ⟨xs, a, rfl⟩ := h
  obtain ⟨v, h1, h2⟩ := s_next xs a many hm
  exact ⟨v, .lst [.lst (xs.map .int), .int ((a : Int) + 1)], h1, ⟨xs, a + 1, by simp⟩, by rw [callK_mu, h2]⟩
/-! ## the stream is made -/
theorem mul_r (i j : Int) (h1 : -(2 ^ 64) < j) (h2 : j < 2 ^ 64) : mulP (.int i) (.int j) = some (.int (i * j)) := by
  unfold mulP
  exact if_pos (.inl (.inr ⟨h1, h2⟩))
theorem mul_l (i j : Int) (h1 : -(2 ^ 64) < i) (h2 : i < 2 ^ 64) : mulP (.int i) (.int j) = some (.int (i * j)) := by
  unfold mulP
  exact if_pos (.inl (.inl ⟨h1, h2⟩))
theorem addP_int (i j : Int) : addP (.int i) (.int j) = some (.int (i + j)) := (rfl)
theorem subP_int (i j : Int) : subP (.int i) (.int j) = some (.int (i - j)) := (rfl)
theorem modP_int (i j : Int) (h : j ≠ 0) : modP (.int i) (.int j) = some (.int (Int.fmod i j)) := by
  show (if decide (j ≠ 0) = true then some (PV.int (Int.fmod i j)) else none) = _
  rw [if_pos (by simpa using h)]
theorem intTy_int (i : Int) : intTyP [.int i] = some (.int i) := (rfl)
theorem fdivP_int (i j : Int) (h : fdivC i j = true) : fdivP (.int i) (.int j) = some (.int (Int.fdiv i j)) := by
  show (if fdivC i j = true then some (PV.int (Int.fdiv i j)) else none) = _
  rw [if_pos h]
def strA : SF := (seqS (ifS (cmpT gtP (vR 4) (cE (.int 0))) (seqS (appS 1 (opE modP (biE intTyP (consA (vR 4) nilA)) (cE (.int 30)))) (seqS (setS 4 (opE fdivP (vR 4) (cE (.int 30)))) nxS)) nxS) (fun env st => .nx (killS [5] env) st))
def strB : SF := (seqS (setS 6 (opE modP (biE intTyP (consA (opE addP (opE addP (opE addP (opE mulP (vR 6) (vR 6)) (opE mulP (vR 4) (cE (.int 31)))) (opE mulP (vR 5) (cE (.int 524287)))) (vR 2)) nilA)) (cE (.int 2147483587)))) (seqS (appS 1 (opE fdivP (vR 6) (cE (.int 7)))) (fun env st => .nx (killS [5] env) st)))
def strC : SF := (seqS (setS 3 (biE intTyP (consA (opE ixP (vR 0) (vR 2)) nilA))) (seqS (setS 4 (opE mulP (cE (.int 2)) (vR 3))) (seqS (ifS (cmpT ltP (vR 3) (cE (.int 0))) (seqS (setS 4 (opE subP (cE (.int 1)) (opE mulP (cE (.int 2)) (vR 3)))) nxS) nxS) (seqS (ifS (cmpT geP (vR 4) (opE powP (cE (.int 10)) (cE (.int 18)))) (seqS (forS (rngA (consA (cE (.int 50)) nilA)) (nameG 5) strA) nxS) (seqS (setS 6 (opE modP (biE intTyP (consA (opE addP (opE addP (opE mulP (vR 4) (cE (.int 16807))) (opE mulP (vR 2) (cE (.int 7919)))) (cE (.int 101))) nilA)) (cE (.int 2147483629)))) (seqS (forS (rngA (consA (cE (.int 5)) nilA)) (nameG 5) strB) nxS))) (fun env st => .nx (killS [2, 3, 4, 5, 6] env) st)))))
theorem stream_eq : g__law_stream = (seqS (setO 1 (lstE nilA)) (seqS (forS (rngA (consA (biE minP (consA (cE (.int 63)) (consA (biE lenP (consA (vR 0) nilA)) nilA))) nilA)) (nameG 2) strC) (fun env st => (seqS (retO (lstE (consA (vE 1) (consA (cE (.int 0)) nilA)))) nxS) (frzE 1 env) st))) := rfl
@[simp] theorem frz1 (a : Slot) (p : PV) (r : SEnv) : frzE 1 (a :: .own p :: r) = a :: .sh p :: r := (rfl)
theorem strA_loop (a c d f : Slot) (st : PV) : ∀ (ps : List PV) (xs : List Int) (z : Int), xs.length + ps.length ≤ 10000 →
    ∃ (xs' : List Int) (z' : Int), xs'.length ≤ xs.length + ps.length ∧ forL (nameG 5) strA ps [a, .own (.lst (xs.map .int)), c, d, .sh (.int z), .dead, f] st = .nx [a, .own (.lst (xs'.map .int)), c, d, .sh (.int z'), .dead, f] st
  | [], xs, z, _ => ⟨xs, z, Nat.le_refl _, rfl⟩
  | p :: ps, xs, z, hl => by
    have hs : sizeLine = 16777216 := sizeLine_eq
    rw [List.length_cons] at hl
    have hb : forL (nameG 5) strA (p :: ps) [a, .own (.lst (xs.map .int)), c, d, .sh (.int z), .dead, f] st = (match strA [a, .own (.lst (xs.map .int)), c, d, .sh (.int z), .sh p, f] st with
      | .nx env2 st2 => forL (nameG 5) strA ps env2 st2
      | .ct env2 st2 => forL (nameG 5) strA ps env2 st2
      | .brk env2 st2 => .nx env2 st2
      | r => r) := rfl
    have k1 := modP_int z 30 (by decide)
    have k2 := fdivP_int z 30 rfl
    have k3 : xs.length < sizeLine := by omega
    by_cases hz : 0 < z
    · have e1 : strA [a, .own (.lst (xs.map .int)), c, d, .sh (.int z), .sh p, f] st = .nx [a, .own (.lst ((xs ++ [Int.fmod z 30]).map .int)), c, d, .sh (.int (Int.fdiv z 30)), .dead, f] st := by
        simp [strA, hz, intTy_int, k1, k2, k3]
      obtain ⟨xs', z', h1, h2⟩ := strA_loop a c d f st ps (xs ++ [Int.fmod z 30]) (Int.fdiv z 30) (by rw [List.length_append]; simp; omega)
      refine ⟨xs', z', by rw [List.length_append] at h1; simp at h1 ⊢; omega, ?_⟩
      rw [hb, e1]
      exact h2
    · have e1 : strA [a, .own (.lst (xs.map .int)), c, d, .sh (.int z), .sh p, f] st = .nx [a, .own (.lst (xs.map .int)), c, d, .sh (.int z), .dead, f] st := by
        simp [strA, hz]
      obtain ⟨xs', z', h1, h2⟩ := strA_loop a c d f st ps xs z (by omega)
      refine ⟨xs', z', by simp; omega, ?_⟩
      rw [hb, e1]
      exact h2
theorem strB_loop (a d : Slot) (pl z : Int) (st : PV) : ∀ (ks : List Nat) (xs : List Int) (m : Int), 0 ≤ m → m < 2147483648 → xs.length + ks.length ≤ 10000 →
    ∃ (xs' : List Int) (m' : Int), xs'.length ≤ xs.length + ks.length ∧ forL (nameG 5) strB (nts ks) [a, .own (.lst (xs.map .int)), .sh (.int pl), d, .sh (.int z), .dead, .sh (.int m)] st = .nx [a, .own (.lst (xs'.map .int)), .sh (.int pl), d, .sh (.int z), .dead, .sh (.int m')] st
  | [], xs, m, _, _, _ => ⟨xs, m, Nat.le_refl _, rfl⟩
  | k :: ks, xs, m, h1, h2, hl => by
    have hs : sizeLine = 16777216 := sizeLine_eq
    rw [List.length_cons] at hl
    have hb : forL (nameG 5) strB (nts (k :: ks)) [a, .own (.lst (xs.map .int)), .sh (.int pl), d, .sh (.int z), .dead, .sh (.int m)] st = (match strB [a, .own (.lst (xs.map .int)), .sh (.int pl), d, .sh (.int z), .sh (.int (k : Int)), .sh (.int m)] st with
      | .nx env2 st2 => forL (nameG 5) strB (nts ks) env2 st2
      | .ct env2 st2 => forL (nameG 5) strB (nts ks) env2 st2
      | .brk env2 st2 => .nx env2 st2
      | r => r) := rfl
    have k3 : xs.length < sizeLine := by omega
    have k4 := mul_l m m (by omega) (by omega)
    have k5 := mul_r z 31 (by decide) (by decide)
    have k6 := mul_r (k : Int) 524287 (by decide) (by decide)
    obtain ⟨m', hm1, hm2⟩ := fmod_lt (m * m + z * 31 + (k : Int) * 524287 + pl) (m := 2147483587) (by decide)
    have k7 := modP_int (m * m + z * 31 + (k : Int) * 524287 + pl) 2147483587 (by decide)
    rw [hm2] at k7
    have k8 := fdivP_int (m' : Int) 7 rfl
    have e1 : strB [a, .own (.lst (xs.map .int)), .sh (.int pl), d, .sh (.int z), .sh (.int (k : Int)), .sh (.int m)] st = .nx [a, .own (.lst ((xs ++ [Int.fdiv (m' : Int) 7]).map .int)), .sh (.int pl), d, .sh (.int z), .dead, .sh (.int (m' : Int))] st := by
      simp [strB, k4, k5, k6, addP_int, intTy_int, k7, k8, k3]
    obtain ⟨xs', m2, g1, g2⟩ := strB_loop a d pl z st ks (xs ++ [Int.fdiv (m' : Int) 7]) (m' : Int) (by omega) (by omega) (by rw [List.length_append]; simp; omega)
    refine ⟨xs', m2, by rw [List.length_append] at g1; simp at g1 ⊢; omega, ?_⟩
    rw [hb, e1]
    exact g2
theorem len_rng (n : Nat) : (nts (List.range n)).length = n := by simp
theorem rngP_lit (n : Nat) (h : n ≤ 16777216) : rngP [.int (n : Int)] = some (nts (List.range n)) := rngP_nat (by rw [sizeLine_eq]; exact h)
theorem strC_step (ns : List Int) (st : PV) (xs : List Int) (k : Nat) (hk : k < ns.length) (hx : xs.length + 50 ≤ 10000) :
    ∃ xs' : List Int, xs'.length ≤ xs.length + 50 ∧ strC [.sh (.scr ns), .own (.lst (xs.map .int)), .sh (.int (k : Int)), .dead, .dead, .dead, .dead] st = .nx [.sh (.scr ns), .own (.lst (xs'.map .int)), .dead, .dead, .dead, .dead, .dead] st := by
  obtain ⟨c, hc⟩ : ∃ c, ns[k]? = some c := ⟨_, List.getElem?_eq_getElem hk⟩
  have k0 : ixP (.scr ns) (.int (k : Int)) = some (.int c) := by
    show (L2.atI ns (k : Int)).map PV.int = _
    rw [atI_nat hc]; rfl
  have k1 := mul_l 2 c (by decide) (by decide)
  have k2 : powP (.int 10) (.int 18) = some (.int 1000000000000000000) := by
    show (if decide (CPow 10 18) = true then some (PV.int ((10 : Int) ^ (18 : Int).toNat)) else none) = _
    rw [if_pos (by rw [decide_eq_true_iff]; unfold CPow; decide)]
    rfl
  have r5 : rngP [.int 5] = some (nts (List.range 5)) := rngP_lit 5 (by decide)
  have r50 : rngP [.int 50] = some (nts (List.range 50)) := rngP_lit 50 (by decide)
  have main : ∀ z : Int, ∃ xs' : List Int, xs'.length ≤ xs.length + 50 ∧ (seqS (ifS (cmpT geP (vR 4) (opE powP (cE (.int 10)) (cE (.int 18)))) (seqS (forS (rngA (consA (cE (.int 50)) nilA)) (nameG 5) strA) nxS) (seqS (setS 6 (opE modP (biE intTyP (consA (opE addP (opE addP (opE mulP (vR 4) (cE (.int 16807))) (opE mulP (vR 2) (cE (.int 7919)))) (cE (.int 101))) nilA)) (cE (.int 2147483629)))) (seqS (forS (rngA (consA (cE (.int 5)) nilA)) (nameG 5) strB) nxS))) (fun env st => .nx (killS [2, 3, 4, 5, 6] env) st)) [.sh (.scr ns), .own (.lst (xs.map .int)), .sh (.int (k : Int)), .sh (.int c), .sh (.int z), .dead, .dead] st = .nx [.sh (.scr ns), .own (.lst (xs'.map .int)), .dead, .dead, .dead, .dead, .dead] st := fun z => by
    by_cases hz : 1000000000000000000 ≤ z
    · obtain ⟨xs', z', h1, h2⟩ := strA_loop (.sh (.scr ns)) (.sh (.int (k : Int))) (.sh (.int c)) .dead st (nts (List.range 50)) xs z (by rw [len_rng]; exact hx)
      rw [len_rng] at h1
      refine ⟨xs', h1, ?_⟩
      simp [k2, hz, r50, h2]
    · have k3 := mul_r z 16807 (by decide) (by decide)
      have k4 := mul_r (k : Int) 7919 (by decide) (by decide)
      obtain ⟨m', hm1, hm2⟩ := fmod_lt (z * 16807 + (k : Int) * 7919 + 101) (m := 2147483629) (by decide)
      have k7 := modP_int (z * 16807 + (k : Int) * 7919 + 101) 2147483629 (by decide)
      rw [hm2] at k7
      obtain ⟨xs', z', h1, h2⟩ := strB_loop (.sh (.scr ns)) (.sh (.int c)) (k : Int) z st (List.range 5) xs (m' : Int) (by omega) (by omega) (by rw [List.length_range]; omega)
      rw [List.length_range] at h1
      refine ⟨xs', by omega, ?_⟩
      simp [k2, hz, r5, k3, k4, addP_int, intTy_int, k7, h2]
  by_cases hneg : c < 0
  · obtain ⟨xs', h1, h2⟩ := main (1 - 2 * c)
    refine ⟨xs', h1, ?_⟩
    rw [← h2]
    simp [strC, k0, k1, intTy_int, hneg, subP_int]
  · obtain ⟨xs', h1, h2⟩ := main (2 * c)
    refine ⟨xs', h1, ?_⟩
    rw [← h2]
    simp [strC, k0, k1, intTy_int, hneg]
theorem strC_loop (ns : List Int) (st : PV) : ∀ (ks : List Nat) (xs : List Int), (∀ k ∈ ks, k < ns.length) → xs.length + 50 * ks.length ≤ 10000 →
    ∃ xs' : List Int, forL (nameG 2) strC (nts ks) [.sh (.scr ns), .own (.lst (xs.map .int)), .dead, .dead, .dead, .dead, .dead] st = .nx [.sh (.scr ns), .own (.lst (xs'.map .int)), .dead, .dead, .dead, .dead, .dead] st
  | [], xs, _, _ => ⟨xs, rfl⟩
  | k :: ks, xs, hk, hl => by
    rw [List.length_cons] at hl
    obtain ⟨xs1, h1, h2⟩ := strC_step ns st xs k (hk k List.mem_cons_self) (by omega)
    obtain ⟨xs2, h3⟩ := strC_loop ns st ks xs1 (fun j hj => hk j (List.mem_cons_of_mem _ hj)) (by omega)
    refine ⟨xs2, ?_⟩
    have hb : forL (nameG 2) strC (nts (k :: ks)) [.sh (.scr ns), .own (.lst (xs.map .int)), .dead, .dead, .dead, .dead, .dead] st = (match strC [.sh (.scr ns), .own (.lst (xs.map .int)), .sh (.int (k : Int)), .dead, .dead, .dead, .dead] st with
      | .nx env2 st2 => forL (nameG 2) strC (nts ks) env2 st2
      | .ct env2 st2 => forL (nameG 2) strC (nts ks) env2 st2
      | .brk env2 st2 => .nx env2 st2
      | r => r) := rfl
    rw [hb, h2]
    exact h3
theorem c_stream (ns : List Int) (hn : ns.length ≤ 63) (st : PV) : ∃ p, SOk p ∧ callK fi__law_stream [.scr ns] st = .ok p st := by
  obtain ⟨xs, h⟩ := strC_loop ns .non (List.range ns.length) [] (fun k hk => List.mem_range.mp hk) (by rw [List.length_range]; simp; omega)
  refine ⟨.lst [.lst (xs.map .int), .int 0], ⟨xs, 0, rfl⟩, ?_⟩
  have k1 : minP [.int 63, .int (ns.length : Nat)] = some (.int (ns.length : Nat)) := by
    show some (PV.int (if ((ns.length : Nat) : Int) < 63 then ((ns.length : Nat) : Int) else 63)) = _
    by_cases e : ((ns.length : Nat) : Int) < 63
    · rw [if_pos e]
    · rw [if_neg e]
      have : ns.length = 63 := by omega
      rw [this]; rfl
  have k2 := rngP_lit ns.length (by omega)
  simp only [List.map_nil] at h
  have e : fi__law_stream.sem [.scr ns] .non = .ok (.lst [.lst (xs.map .int), .int 0]) .non := by
    simp [fi__law_stream, stream_eq, env0, slotOf, lenP, k1, k2, h, s2]
  rw [callK_val, e]
/-! ## lines and lots drawn -/
theorem tx_add (a b : List Nat) (h : a.length + b.length ≤ sizeLine) : addP (tx a) (tx b) = some (tx (a ++ b)) := by
  show (if (⟨a.toArray⟩ : Str).length + (⟨b.toArray⟩ : Str).length ≤ sizeLine then some (PV.str ((⟨a.toArray⟩ : Str) ++ ⟨b.toArray⟩)) else none) = _
  rw [if_pos (by show a.toArray.size + b.toArray.size ≤ _; simpa using h)]
  have e : ((⟨a.toArray⟩ : Str) ++ ⟨b.toArray⟩) = ⟨a.toArray ++ b.toArray⟩ := rfl
  rw [e]
  simp [tx]
theorem lines_app (ls : List (List Nat)) (l : List Nat) : lines ls ++ [tx l] = lines (ls ++ [l]) := by simp [lines]
def Raw (n : Nat) (l : List Nat) : Prop := l.length = n ∧ ∀ c ∈ l, c = 46 ∨ c = 102 ∨ c = 108
def cellB : SF := (seqS (setS 8 (opE addP (vR 8) (opE ixP (vR 4) (opE modP (biE intTyP (consA (opE addP (opE addP (opE addP (callE fi__law_next [] (consA (mtA 0) (consA (cE (.int 6)) nilA))) (opE mulP (cE (.int 2)) (vR 7))) (opE mulP (vR 9) (vR 9))) (vR 5)) nilA)) (cE (.int 6)))))) (fun env st => .nx (killS [9] env) st))
def lineB : SF := (seqS (setS 8 (cE (.str ""))) (seqS (forS (rngA (consA (vE 2) nilA)) (nameG 9) cellB) (seqS (appS 6 (vE 8)) (fun env st => .nx (killS [7, 8, 9] env) st))))
theorem lines_eq : g__law_lines = (seqS (setS 4 (cE (.str "f.f..f"))) (seqS (ifS (truT (vR 3)) (seqS (setS 4 (cE (.str "f.fl.."))) nxS) nxS) (seqS (setS 5 (callE fi__law_next [] (consA (mtA 0) (consA (cE (.int 6)) nilA)))) (seqS (setO 6 (lstE nilA)) (seqS (forS (rngA (consA (vE 1) nilA)) (nameG 7) lineB) (fun env st => (seqS (retS (vE 6)) nxS) (frzE 6 env) st)))))) := rfl
@[simp] theorem frz6 (a b c d e f : Slot) (p : PV) (r : SEnv) : frzE 6 (a :: b :: c :: d :: e :: f :: .own p :: r) = a :: b :: c :: d :: e :: f :: .sh p :: r := (rfl)
theorem cell_loop (a1 a2 a3 : Slot) (me : List Nat) (hme : me.length = 6) (sh row : Int) (o : Slot) : ∀ (ks : List Nat) (l : List Nat) (st : PV), SOk st → (∀ k ∈ ks, k < 10000) → l.length + ks.length ≤ 10000 →
    ∃ (l' : List Nat) (st' : PV), SOk st' ∧ l'.length = l.length + ks.length ∧ (∀ c ∈ l', c ∈ l ∨ c ∈ me) ∧ forL (nameG 9) cellB (nts ks) [.mt, a1, a2, a3, .sh (tx me), .sh (.int sh), o, .sh (.int row), .sh (tx l), .dead] st = .nx [.mt, a1, a2, a3, .sh (tx me), .sh (.int sh), o, .sh (.int row), .sh (tx l'), .dead] st'
  | [], l, st, hS, _, _ => ⟨l, st, hS, rfl, fun c hc => .inl hc, rfl⟩
  | k :: ks, l, st, hS, hk, hl => by
    have hs : sizeLine = 16777216 := sizeLine_eq
    rw [List.length_cons] at hl
    have hb : forL (nameG 9) cellB (nts (k :: ks)) [.mt, a1, a2, a3, .sh (tx me), .sh (.int sh), o, .sh (.int row), .sh (tx l), .dead] st = (match cellB [.mt, a1, a2, a3, .sh (tx me), .sh (.int sh), o, .sh (.int row), .sh (tx l), .sh (.int (k : Int))] st with
      | .nx env2 st2 => forL (nameG 9) cellB (nts ks) env2 st2
      | .ct env2 st2 => forL (nameG 9) cellB (nts ks) env2 st2
      | .brk env2 st2 => .nx env2 st2
      | r => r) := rfl
    obtain ⟨v, st1, h1, h2, h3⟩ := c_next hS 6 (by decide)
    have k0 := hk k List.mem_cons_self
    have k1 := mul_l 2 row (by decide) (by decide)
    have k2 := mul_l (k : Int) (k : Int) (by omega) (by omega)
    obtain ⟨m, hm1, hm2⟩ := fmod_lt ((v : Int) + 2 * row + (k : Int) * (k : Int) + sh) (m := 6) (by decide)
    have k3 := modP_int ((v : Int) + 2 * row + (k : Int) * (k : Int) + sh) 6 (by decide)
    rw [hm2] at k3
    have k4 := ix_tx (l := me) (j := m) (by omega) (by omega)
    have k5 := tx_add l [mk me m] (by simp; omega)
    have e1 : cellB [.mt, a1, a2, a3, .sh (tx me), .sh (.int sh), o, .sh (.int row), .sh (tx l), .sh (.int (k : Int))] st = .nx [.mt, a1, a2, a3, .sh (tx me), .sh (.int sh), o, .sh (.int row), .sh (tx (l ++ [mk me m])), .dead] st1 := by
      simp [cellB, h3, k1, k2, addP_int, intTy_int, k3, k4, k5]
    obtain ⟨l', st', g1, g2, g3, g4⟩ := cell_loop a1 a2 a3 me hme sh row o ks (l ++ [mk me m]) st1 h2 (fun j hj => hk j (List.mem_cons_of_mem _ hj)) (by rw [List.length_append]; simp; omega)
    refine ⟨l', st', g1, by rw [g2, List.length_append]; simp; omega, fun c hc => ?_, by rw [hb, e1]; exact g4⟩
    rcases g3 c hc with g | g
    · rcases List.mem_append.mp g with g | g
      · exact .inl g
      · rw [List.mem_singleton.mp g]
        exact .inr (mk_mem (by omega))
    · exact .inr g
theorem lit_empty : ("" : Str) = ⟨#[]⟩ := by decide +kernel
theorem line_loop (n : Nat) (hn : n ≤ 600) (a1 a3 : Slot) (me : List Nat) (hme : me.length = 6) (hc : ∀ c ∈ me, c = 46 ∨ c = 102 ∨ c = 108) (sh : Int) : ∀ (ks : List Nat) (ls : List (List Nat)) (st : PV), SOk st → ls.length + ks.length ≤ 800 → (∀ l ∈ ls, Raw n l) →
    ∃ (ls' : List (List Nat)) (st' : PV), SOk st' ∧ ls'.length = ls.length + ks.length ∧ (∀ l ∈ ls', Raw n l) ∧ forL (nameG 7) lineB (nts ks) [.mt, a1, .sh (.int (n : Int)), a3, .sh (tx me), .sh (.int sh), .own (.lst (lines ls)), .dead, .dead, .dead] st = .nx [.mt, a1, .sh (.int (n : Int)), a3, .sh (tx me), .sh (.int sh), .own (.lst (lines ls')), .dead, .dead, .dead] st'
  | [], ls, st, hS, _, hl => ⟨ls, st, hS, rfl, hl, rfl⟩
  | k :: ks, ls, st, hS, hz, hl => by
    have hs : sizeLine = 16777216 := sizeLine_eq
    rw [List.length_cons] at hz
    obtain ⟨l', st1, h1, h2, h3, h4⟩ := cell_loop a1 (.sh (.int (n : Int))) a3 me hme sh (k : Int) (.own (.lst (lines ls))) (List.range n) [] st hS (fun j hj => by have := List.mem_range.mp hj; omega) (by rw [List.length_range]; simp; omega)
    have k1 := rngP_lit n (by omega)
    have k2 : (lines ls).length < sizeLine := by simp; omega
    have k3 : tx ([] : List Nat) = .str "" := by rw [lit_empty]
    rw [k3] at h4
    have e1 : lineB [.mt, a1, .sh (.int (n : Int)), a3, .sh (tx me), .sh (.int sh), .own (.lst (lines ls)), .sh (.int (k : Int)), .dead, .dead] st = .nx [.mt, a1, .sh (.int (n : Int)), a3, .sh (tx me), .sh (.int sh), .own (.lst (lines (ls ++ [l']))), .dead, .dead, .dead] st1 := by
      have k2' : ls.length < sizeLine := by omega
      simp [lineB, k1, h4, k2', lines_app]
    obtain ⟨ls', st', g1, g2, g3, g4⟩ := line_loop n hn a1 a3 me hme hc sh ks (ls ++ [l']) st1 h1 (by rw [List.length_append]; simp; omega) (fun l hlm => by
      rcases List.mem_append.mp hlm with hlm | hlm
      · exact hl l hlm
      · rw [List.mem_singleton.mp hlm]
        exact ⟨by rw [h2, List.length_range]; simp, fun c hcm => hc c ((h3 c hcm).resolve_left (by simp))⟩)
    exact ⟨ls', st', g1, by rw [g2, List.length_append]; simp; omega, g3, forL_nx rfl e1 g4⟩
theorem lit_m1 : ("f.f..f" : Str) = ⟨#[102, 46, 102, 46, 46, 102]⟩ := by decide +kernel
theorem lit_m2 : ("f.fl.." : Str) = ⟨#[102, 46, 102, 108, 46, 46]⟩ := by decide +kernel
theorem c_lines (n r : Nat) (hn : n ≤ 600) (hr : r ≤ 800) (b : Bool) {st : PV} (hS : SOk st) : ∃ (ls : List (List Nat)) (st' : PV), SOk st' ∧ ls.length = r ∧ (∀ l ∈ ls, Raw n l) ∧ callK fi__law_lines [.non, .int (r : Int), .int (n : Int), .bl b] st = .ok (.lst (lines ls)) st' := by
  have hs : sizeLine = 16777216 := sizeLine_eq
  obtain ⟨v, st1, h1, h2, h3⟩ := c_next hS 6 (by decide)
  have k1 := rngP_lit r (by omega)
  have main : ∀ me : List Nat, me.length = 6 → (∀ c ∈ me, c = 46 ∨ c = 102 ∨ c = 108) → (∀ g st', seqS (setS 4 (cE (.str "f.f..f"))) (seqS (ifS (truT (vR 3)) (seqS (setS 4 (cE (.str "f.fl.."))) nxS) nxS) g) [.mt, .sh (.int (r : Int)), .sh (.int (n : Int)), .sh (.bl b), .dead, .dead, .dead, .dead, .dead, .dead] st' = g [.mt, .sh (.int (r : Int)), .sh (.int (n : Int)), .sh (.bl b), .sh (tx me), .dead, .dead, .dead, .dead, .dead] st') →
      ∃ (ls : List (List Nat)) (st' : PV), SOk st' ∧ ls.length = r ∧ (∀ l ∈ ls, Raw n l) ∧ callK fi__law_lines [.non, .int (r : Int), .int (n : Int), .bl b] st = .ok (.lst (lines ls)) st' := fun me hme hc hg => by
    obtain ⟨ls, st', g1, g2, g3, g4⟩ := line_loop n hn (.sh (.int (r : Int))) (.sh (.bl b)) me hme hc (v : Int) (List.range r) [] st1 h2 (by rw [List.length_range]; simp; omega) (fun l hl => by simp at hl)
    refine ⟨ls, st', g1, by rw [g2, List.length_range]; simp, g3, ?_⟩
    have k4 : lines [] = [] := rfl
    rw [k4] at g4
    rw [callK_mu]
    refine sem_ok (env1 := [.mt, .sh (.int (r : Int)), .sh (.int (n : Int)), .sh (.bl b), .sh (tx me), .sh (.int (v : Int)), .sh (.lst (lines ls)), .dead, .dead, .dead]) ?_ (fun _ => rfl)
    rw [lines_eq]
    refine (hg _ st).trans ?_
    have c1 : callE fi__law_next [] (consA (mtA 0) (consA (cE (.int 6)) nilA)) [.mt, .sh (.int (r : Int)), .sh (.int (n : Int)), .sh (.bl b), .sh (tx me), .dead, .dead, .dead, .dead, .dead] st = .ok (.int (v : Int)) st1 := by
      simp [h3]
    have c2 : lstE nilA [.mt, .sh (.int (r : Int)), .sh (.int (n : Int)), .sh (.bl b), .sh (tx me), .sh (.int (v : Int)), .dead, .dead, .dead, .dead] st1 = .ok (.lst []) st1 := by
      simp
    have c3 : rngA (consA (vE 1) nilA) [.mt, .sh (.int (r : Int)), .sh (.int (n : Int)), .sh (.bl b), .sh (tx me), .sh (.int (v : Int)), .own (.lst []), .dead, .dead, .dead] st1 = .ok (nts (List.range r)) st1 := by
      simp [k1]
    refine seq_nx (set_ok c1) (seq_nx (setO_ok c2) (seq_nx (for_ok c3 g4) (seq_ret (ret_ok ?_))))
    simp
  cases b with
  | false =>
    refine main [102, 46, 102, 46, 46, 102] rfl (by decide) fun g st' => ?_
    have k3 : tx [102, 46, 102, 46, 46, 102] = .str "f.f..f" := by rw [lit_m1]
    rw [k3]
    simp
  | true =>
    refine main [102, 46, 102, 108, 46, 46] rfl (by decide) fun g st' => ?_
    have k3 : tx [102, 46, 102, 108, 46, 46] = .str "f.fl.." := by rw [lit_m2]
    rw [k3]
    simp
theorem cut_take (l : List Nat) (a : Nat) (ha : a ≤ l.length) (hl : l.length ≤ sizeLine) : slS (tx l) none (some (a : Int)) = some (tx (l.take a)) := by
  have h0 : (⟨l.toArray⟩ : Str).length = l.length := by simp [Str.length]
  show (if (⟨l.toArray⟩ : Str).length ≤ sizeLine then some (PV.str (cutS ⟨l.toArray⟩ none (some (a : Int)))) else none) = _
  rw [if_pos (by rw [h0]; exact hl)]
  unfold cutS
  rw [HT.sIx_nat, HT.sIx_none, h0]
  simp [Nat.min_eq_left ha]
theorem cut_drop (l : List Nat) (a : Nat) (ha : a ≤ l.length) (hl : l.length ≤ sizeLine) : slS (tx l) (some (a : Int)) none = some (tx (l.drop a)) := by
  have h0 : (⟨l.toArray⟩ : Str).length = l.length := by simp [Str.length]
  show (if (⟨l.toArray⟩ : Str).length ≤ sizeLine then some (PV.str (cutS ⟨l.toArray⟩ (some (a : Int)) none)) else none) = _
  rw [if_pos (by rw [h0]; exact hl)]
  unfold cutS
  rw [HT.sIx_nat, HT.sIx_none, h0]
  simp [Nat.min_eq_left ha]
  rw [List.take_of_length_le (by simp)]
theorem raw_ok {n : Nat} {l : List Nat} (h : Raw n l) : LineOk n l := by
  refine ⟨h.1, fun c hc => ?_, ?_⟩
  · rcases h.2 c hc with e | e | e
    · exact .inl e
    · subst e; exact .inr rfl
    · subst e; exact .inr rfl
  · rw [List.count_eq_zero_of_not_mem]
    · omega
    · intro hm
      have := h.2 _ hm
      omega
theorem told_ok {n : Nat} {l : List Nat} (h : Raw n l) {a : Nat} (ha : a < n) : LineOk n (l.take a ++ [116] ++ l.drop (a + 1)) := by
  have h1 := h.1
  have hm : ∀ c ∈ l, c ≠ 116 := fun c hc => by rcases h.2 c hc with e | e | e <;> omega
  refine ⟨by simp; omega, fun c hc => ?_, ?_⟩
  · rcases List.mem_append.mp hc with hc | hc
    · rcases List.mem_append.mp hc with hc | hc
      · exact (raw_ok h).2.1 c (List.mem_of_mem_take hc)
      · rw [List.mem_singleton.mp hc]; exact .inr rfl
    · exact (raw_ok h).2.1 c (List.mem_of_mem_drop hc)
  · rw [List.count_append, List.count_append]
    rw [List.count_eq_zero_of_not_mem (fun z => hm _ (List.mem_of_mem_take z) rfl), List.count_eq_zero_of_not_mem (fun z => hm _ (List.mem_of_mem_drop z) rfl)]
    simp
theorem c_told (n : Nat) (hn : n ≤ 600) {l : List Nat} (h : Raw n l) {st : PV} (hS : SOk st) : ∃ (l' : List Nat) (st' : PV), SOk st' ∧ LineOk n l' ∧ callK fi__law_told_line [.non, tx l] st = .ok (tx l') st' := by
  have hs : sizeLine = 16777216 := sizeLine_eq
  have h1 := h.1
  have k1 := len_tx l (by omega)
  by_cases hz : l.length = 0
  · refine ⟨l, st, hS, raw_ok h, ?_⟩
    have hz' : ((l.length : Nat) : Int) = 0 := by omega
    rw [callK_mu]
    rw [hz'] at k1
    simp [fi__law_told_line, g__law_told_line, env0, slotOf, k1, eqP_int, hasMt, borOk]
  · have hz' : ¬ ((l.length : Nat) : Int) = 0 := by omega
    have hz2 : (((l.length : Nat) : Int) == 0) = false := by simpa using hz'
    obtain ⟨v, st1, g1, g2, g3⟩ := c_next hS 3 (by decide)
    by_cases hv : 0 < (v : Int)
    · refine ⟨l, st1, g2, raw_ok h, ?_⟩
      rw [callK_mu]
      have hv' : 0 < v := by omega
      simp [fi__law_told_line, g__law_told_line, env0, slotOf, k1, eqP_int, hasMt, borOk, hz2, g3, hv, hv']
    · obtain ⟨mn, hmn1, hmn2, hmn3⟩ : ∃ mn : Int, 0 < mn ∧ mn ≤ ((l.length : Nat) : Int) ∧ minP [.int 30, .int (l.length : Nat)] = some (.int mn) := by
        refine ⟨(if ((l.length : Nat) : Int) < 30 then ((l.length : Nat) : Int) else 30), ?_, ?_, rfl⟩
        · split <;> omega
        · split <;> omega
      obtain ⟨w, st2, g4, g5, g6⟩ := c_next g2 mn hmn1
      have hw : w < n := by omega
      refine ⟨l.take w ++ [116] ++ l.drop (w + 1), st2, g5, told_ok h hw, ?_⟩
      have k2 := cut_take l w (by omega) (by omega)
      have k3 := cut_drop l (w + 1) (by omega) (by omega)
      have k4 := tx_add (l.take w) [116] (by simp; omega)
      have k5 := tx_add (l.take w ++ [116]) (l.drop (w + 1)) (by simp; omega)
      have k6 : (((w + 1 : Nat) : Nat) : Int) = (w : Int) + 1 := by omega
      rw [k6] at k3
      have k7 : ("t" : Str) = ⟨[116].toArray⟩ := lit_t
      have hv' : v = 0 := by omega
      subst hv'
      rw [callK_mu]
      simp only [fi__law_told_line, g__law_told_line, k7]
      simp [env0, slotOf, k1, eqP_int, hasMt, borOk, hz2, g3, hmn3, g6, k2, addP_int, k3]
      simp at k4 k5
      simp [k4, k5, hasMt]
theorem lst_of {Pp : List Nat → Prop} : ∀ {ys : List PV}, (∀ y ∈ ys, ∃ l, Pp l ∧ y = tx l) → ∃ ls, ys = lines ls ∧ ∀ l ∈ ls, Pp l
  | [], _ => ⟨[], rfl, fun l hl => by simp at hl⟩
  | y :: ys, h => by
    obtain ⟨l, h1, rfl⟩ := h y List.mem_cons_self
    obtain ⟨ls, rfl, h3⟩ := lst_of fun z hz => h z (List.mem_cons_of_mem _ hz)
    exact ⟨l :: ls, rfl, fun m hm => by
      rcases List.mem_cons.mp hm with rfl | hm
      · exact h1
      · exact h3 m hm⟩
theorem c_marks (n r : Nat) (hn : n ≤ 600) (hr : r ≤ 800) {st : PV} (hS : SOk st) : ∃ (ls : List (List Nat)) (st' : PV), SOk st' ∧ TabOk n ls ∧ callK fi__law_marks [.non, .int (r : Int), .int (n : Int)] st = .ok (.lst (lines ls)) st' := by
  have hs : sizeLine = 16777216 := sizeLine_eq
  obtain ⟨v, st1, h1, h2, h3⟩ := c_next hS 2 (by decide)
  obtain ⟨ls, st2, g1, g2, g3, g4⟩ := c_lines n r hn hr ((v : Int) == 0) h2
  have key : ∃ (qs ys : List PV) (st' : PV), lcL (nameG 4) yesT (callE fi__law_told_line [] (consA (mtA 0) (consA (vE 4) nilA))) [.mt, .sh (.int (r : Int)), .sh (.int (n : Int)), .sh (.lst (lines ls)), .dead] (lines ls) st2 = .ok ys st' ∧ SOk st' ∧ qs.Sublist (lines ls) ∧ qs.length = ys.length ∧ ∀ (i : Nat) p y, qs[i]? = some p → ys[i]? = some y → ∃ l, LineOk n l ∧ y = tx l := by
    refine lcL_st SOk (fun _ y => ∃ l, LineOk n l ∧ y = tx l) g1 fun p hp st hst => ?_
    obtain ⟨l, hl, rfl⟩ := List.mem_map.mp hp
    obtain ⟨l', st', e1, e2, e3⟩ := c_told n hn (g3 l hl) hst
    refine ⟨_, rfl, true, st, rfl, hst, fun _ => ⟨tx l', st', ?_, e1, l', e2, rfl⟩⟩
    simp [borOk, e3]
  obtain ⟨qs, ys, st', q1, q2, q3, q4, q5⟩ := key
  obtain ⟨ls', rfl, q6⟩ := lst_of (Pp := LineOk n) (ys := ys) fun y hy => by
    obtain ⟨i, hi⟩ := List.getElem?_of_mem hy
    obtain ⟨hlt, _⟩ := List.getElem?_eq_some_iff.mp hi
    exact q5 i _ y (List.getElem?_eq_getElem (by rw [q4]; exact hlt)) hi
  refine ⟨ls', st', q2, ⟨hn, ?_, q6⟩, ?_⟩
  · have := q3.length_le
    rw [q4] at this
    simp at this
    omega
  · rw [callK_mu]
    have k1 : (lines ls).length ≤ sizeLine := by simp; omega
    have k1' : ls.length ≤ sizeLine := by omega
    simp [fi__law_marks, g__law_marks, env0, slotOf, h3, eqP_int, g4, seqP, calmAt, k1', q1, hasMt]
theorem c_lot (n : Nat) (hn : n ≤ 600) {st : PV} (hS : SOk st) : ∃ (out : List Nat) (st' : PV), SOk st' ∧ out.Nodup ∧ (∀ m ∈ out, m < n) ∧ out.length ≤ n ∧ callK fi__law_lot [.non, .int (n : Int)] st = .ok (.lst (nts out)) st' := by
  have hs : sizeLine = 16777216 := sizeLine_eq
  have key : ∃ (qs ys : List PV) (st' : PV), lcL (nameG 2) (cmpT eqP (callE fi__law_next [] (consA (mtA 0) (consA (cE (.int 2)) nilA))) (cE (.int 1))) (vE 2) [.mt, .sh (.int (n : Int)), .dead] (nts (List.range n)) st = .ok ys st' ∧ SOk st' ∧ qs.Sublist (nts (List.range n)) ∧ qs.length = ys.length ∧ ∀ (i : Nat) p y, qs[i]? = some p → ys[i]? = some y → y = p := by
    refine lcL_st SOk (fun p y => y = p) hS fun p hp st hst => ?_
    obtain ⟨k, hk, rfl⟩ := mem_nts hp
    obtain ⟨v, st1, h1, h2, h3⟩ := c_next hst 2 (by decide)
    refine ⟨_, rfl, (v : Int) == 1, st1, ?_, h2, fun _ => ⟨.int (k : Int), st1, ?_, h2, rfl⟩⟩
    · simp [h3, eqP_int]
    · simp [borOk]
  obtain ⟨qs, ys, st', q1, q2, q3, q4, q5⟩ := key
  have e : ys = qs := by
    apply List.ext_getElem?
    intro i
    by_cases h : i < ys.length
    · have h' : i < qs.length := by omega
      rw [List.getElem?_eq_getElem h, List.getElem?_eq_getElem h']
      congr 1
      exact q5 i _ _ (List.getElem?_eq_getElem h') (List.getElem?_eq_getElem h)
    · rw [List.getElem?_eq_none (by omega), List.getElem?_eq_none (by omega)]
  subst e
  obtain ⟨out, o1, o2⟩ := List.sublist_map_iff.mp q3
  refine ⟨out, st', q2, List.Sublist.nodup o1 List.nodup_range, fun m hm => List.mem_range.mp (o1.subset hm), by have := o1.length_le; rwa [List.length_range] at this, ?_⟩
  have k1 := rngP_lit n (by omega)
  have k2 : n ≤ sizeLine := by omega
  rw [callK_mu]
  simp [fi__law_lot, g__law_lot, env0, slotOf, k1, calmAt, k2, q1, hasMt]
  exact o2
/-! ## the ladder -/
def chs (ms : List Nat) : List PV := ms.map fun c => ch c
@[simp] theorem chs_length (ms : List Nat) : (chs ms).length = ms.length := by simp [chs]
theorem chs_set (ms : List Nat) (j c : Nat) : (chs ms).set j (ch c) = chs (ms.set j c) := by
  unfold chs
  rw [List.map_set]
theorem strs_chs : ∀ ms : List Nat, strsP (chs ms) = some (ms.map fun c => (⟨#[c]⟩ : Str))
  | [] => rfl
  | c :: ms => by
    show (strsP (chs ms)).map _ = _
    rw [strs_chs ms]; rfl
theorem str_nil : (⟨#[]⟩ : Str) = Str.empty := rfl
theorem join_chs : ∀ ms : List Nat, Str.join ⟨#[]⟩ (ms.map fun c => (⟨#[c]⟩ : Str)) = ⟨ms.toArray⟩
  | [] => rfl
  | [c] => rfl
  | c :: d :: ms => by
    show (⟨#[c]⟩ : Str) ++ ⟨#[]⟩ ++ Str.join ⟨#[]⟩ ((d :: ms).map fun c => (⟨#[c]⟩ : Str)) = _
    rw [join_chs (d :: ms)]
    show (⟨#[c] ++ #[] ++ (d :: ms).toArray⟩ : Str) = _
    simp
theorem sum_ones : ∀ ms : List Nat, ((ms.map fun c => (⟨#[c]⟩ : Str)).map (·.length)).sum = ms.length
  | [] => rfl
  | c :: ms => by
    show (⟨#[c]⟩ : Str).length + ((ms.map fun c => (⟨#[c]⟩ : Str)).map (·.length)).sum = _
    rw [sum_ones ms, List.length_cons]
    show 1 + ms.length = _
    omega
theorem join_marks (ms : List Nat) (h : ms.length ≤ 10000) : joinP "" (.lst (chs ms)) = some (tx ms) := by
  unfold joinP
  dsimp only
  rw [strs_chs ms]
  dsimp only
  have e0 : ("" : Str).length = 0 := by rw [lit_empty]; rfl
  rw [if_pos (by rw [sum_ones, e0]; simp; omega)]
  have e : Txt.join ("" : Str) (ms.map fun c => (⟨#[c]⟩ : Str)) = Str.join ("" : Str) (ms.map fun c => (⟨#[c]⟩ : Str)) := eq_of_beq (join_plain_closes _ _)
  rw [e, lit_empty, join_chs]
theorem count_set_le (b a : Nat) : ∀ (l : List Nat) (i : Nat), (l.set i a).count b ≤ l.count b + 1
  | [], i => by simp
  | c :: l, 0 => by
    rw [List.set_cons_zero, List.count_cons, List.count_cons]
    split <;> split <;> omega
  | c :: l, i + 1 => by
    rw [List.set_cons_succ, List.count_cons, List.count_cons]
    have := count_set_le b a l i
    omega
theorem mk_set {l : List Nat} {i : Nat} (h : i < l.length) (c j : Nat) : mk (l.set i c) j = if i = j then c else mk l j := by
  unfold mk
  rw [List.getD_eq_getElem?_getD, List.getD_eq_getElem?_getD, List.getElem?_set]
  by_cases e : i = j
  · subst e; simp [h]
  · simp [e]
/-- the place of turn i -/
def pi (n s t i : Nat) : Nat := (s + i * t) % n
theorem fmod_pi (n s t i : Nat) : Int.fmod ((s : Int) + (i : Int) * (t : Int)) (n : Int) = (pi n s t i : Nat) := by
  unfold pi
  have e : (s : Int) + (i : Int) * (t : Int) = ((s + i * t : Nat) : Int) := by simp
  rw [e, Int.fmod_eq_emod_of_nonneg _ (by omega)]
  rfl
def Lad (n : Nat) (f : Nat → Nat) (r : Nat) (l : List Nat) : Prop := LineOk n l ∧ hard (mk l (f r)) = true ∧ ∀ j, j < n → touched (mk l j) = true → ∃ i, i ≤ r ∧ j = f i
/-- marks under way -/
def MI (n : Nat) (f : Nat → Nat) (k : Nat) (ms : List Nat) : Prop := Raw n ms ∧ ∀ j, j < n → mk ms j ≠ 46 → ∃ i, i < k ∧ j = f i
def befB : SF := (seqS (setIx 6 (opE ixP (lstE (consA (cE (.str "f")) (consA (cE (.str ".")) (consA (cE (.str "l")) nilA)))) (callE fi__law_next [] (consA (mtA 0) (consA (cE (.int 3)) nilA)))) (opE modP (biE intTyP (consA (opE addP (vR 2) (opE mulP (vR 7) (vR 3))) nilA)) (vR 1))) (fun env st => .nx (killS [7] env) st))
def ladB : SF := (seqS (setO 6 (lcE [8] (rngA (consA (vE 1) nilA)) (nameG 8) yesT (cE (.str ".")))) (seqS (forS (rngA (consA (vE 5) nilA)) (nameG 7) befB) (seqS (setIx 6 (opE ixP (lstE (consA (cE (.str "f")) (consA (cE (.str "t")) nilA))) (callE fi__law_next [] (consA (mtA 0) (consA (cE (.int 2)) nilA)))) (opE modP (biE intTyP (consA (opE addP (vR 2) (opE mulP (vR 5) (vR 3))) nilA)) (vR 1))) (seqS (appS 4 (smE joinP (cE (.str "")) (vR 6))) (fun env st => .nx (killS [5, 6, 7] env) st)))))
@[simp] theorem frz4 (a b c d : Slot) (p : PV) (r : SEnv) : frzE 4 (a :: b :: c :: d :: .own p :: r) = a :: b :: c :: d :: .sh p :: r := (rfl)
theorem lit_f : ("f" : Str) = ⟨#[102]⟩ := by decide +kernel
theorem pick3 (v : Nat) (hv : v < 3) : ∃ c : Nat, (c = 46 ∨ c = 102 ∨ c = 108) ∧ ixP (.lst [.str "f", .str ".", .str "l"]) (.int (v : Int)) = some (ch c) := by
  match v, hv with
  | 0, _ => exact ⟨102, by simp, by rw [lit_f]; rfl⟩
  | 1, _ => exact ⟨46, by simp, by rw [lit_dot]; rfl⟩
  | 2, _ => exact ⟨108, by simp, by rw [lit_l]; rfl⟩
theorem pick2 (v : Nat) (hv : v < 2) : ∃ c : Nat, (c = 102 ∨ c = 116) ∧ ixP (.lst [.str "f", .str "t"]) (.int (v : Int)) = some (ch c) := by
  match v, hv with
  | 0, _ => exact ⟨102, by simp, by rw [lit_f]; rfl⟩
  | 1, _ => exact ⟨116, by simp, by rw [lit_t]; rfl⟩
theorem bef_loop (n s t : Nat) (hn : 0 < n) (hz : n ≤ 600) (ht : t ≤ 600) (o row : Slot) : ∀ (m k : Nat) (ms : List Nat) (st : PV), k + m ≤ 600 → SOk st → MI n (pi n s t) k ms →
    ∃ (ms' : List Nat) (st' : PV), SOk st' ∧ MI n (pi n s t) (k + m) ms' ∧ forL (nameG 7) befB (nts (List.range' k m)) [.mt, .sh (.int (n : Int)), .sh (.int (s : Int)), .sh (.int (t : Int)), o, row, .own (.lst (chs ms)), .dead, .dead] st = .nx [.mt, .sh (.int (n : Int)), .sh (.int (s : Int)), .sh (.int (t : Int)), o, row, .own (.lst (chs ms')), .dead, .dead] st'
  | 0, k, ms, st, _, hS, hI => ⟨ms, st, hS, hI, rfl⟩
  | m + 1, k, ms, st, hk, hS, hI => by
    have hb : forL (nameG 7) befB (nts (List.range' k (m + 1))) [.mt, .sh (.int (n : Int)), .sh (.int (s : Int)), .sh (.int (t : Int)), o, row, .own (.lst (chs ms)), .dead, .dead] st = (match befB [.mt, .sh (.int (n : Int)), .sh (.int (s : Int)), .sh (.int (t : Int)), o, row, .own (.lst (chs ms)), .sh (.int (k : Int)), .dead] st with
      | .nx env2 st2 => forL (nameG 7) befB (nts (List.range' (k + 1) m)) env2 st2
      | .ct env2 st2 => forL (nameG 7) befB (nts (List.range' (k + 1) m)) env2 st2
      | .brk env2 st2 => .nx env2 st2
      | r => r) := rfl
    obtain ⟨v, st1, h1, h2, h3⟩ := c_next hS 3 (by decide)
    obtain ⟨c, hc, hp⟩ := pick3 v (by omega)
    have hl := hI.1.1
    have hpn : pi n s t k < n := Nat.mod_lt _ hn
    have k1 := mul_r (k : Int) (t : Int) (by omega) (by omega)
    have k2 := modP_int ((s : Int) + (k : Int) * (t : Int)) (n : Int) (by omega)
    rw [fmod_pi] at k2
    have k3 : L2.ixN ms.length ((pi n s t k : Nat) : Int) = some (pi n s t k) := ixN_nat (by omega)
    have e1 : befB [.mt, .sh (.int (n : Int)), .sh (.int (s : Int)), .sh (.int (t : Int)), o, row, .own (.lst (chs ms)), .sh (.int (k : Int)), .dead] st = .nx [.mt, .sh (.int (n : Int)), .sh (.int (s : Int)), .sh (.int (t : Int)), o, row, .own (.lst (chs (ms.set (pi n s t k) c))), .dead, .dead] st1 := by
      simp [befB, s3, h3, hp, k1, addP_int, intTy_int, k2, k3, chs_set]
    have hI1 : MI n (pi n s t) (k + 1) (ms.set (pi n s t k) c) := by
      refine ⟨⟨by rw [List.length_set]; exact hl, fun d hd => ?_⟩, fun j hj hm => ?_⟩
      · rcases List.mem_or_eq_of_mem_set hd with hd | hd
        · exact hI.1.2 d hd
        · rw [hd]; exact hc
      · rw [mk_set (by omega)] at hm
        by_cases e : pi n s t k = j
        · exact ⟨k, by omega, e.symm⟩
        · rw [if_neg e] at hm
          obtain ⟨i, hi, e'⟩ := hI.2 j hj hm
          exact ⟨i, by omega, e'⟩
    obtain ⟨ms', st', g1, g2, g3⟩ := bef_loop n s t hn hz ht o row m (k + 1) (ms.set (pi n s t k) c) st1 (by omega) h2 hI1
    exact ⟨ms', st', g1, by rw [show k + (m + 1) = k + 1 + m by omega]; exact g2, by rw [hb, e1]; exact g3⟩
theorem dots (n : Nat) (b0 b1 b2 b3 b4 b5 b6 b7 : Slot) (st : PV) : ∀ xs : List Nat, lcL (nameG 8) yesT (cE (.str ".")) [b0, b1, b2, b3, b4, b5, b6, b7, .dead] (nts xs) st = .ok (chs (List.replicate xs.length 46)) st
  | [] => rfl
  | x :: xs => by
    have ih := dots n b0 b1 b2 b3 b4 b5 b6 b7 st xs
    show (ER.bind (ER.ok (PV.str ".") st) fun y st2 => (lcL (nameG 8) yesT (cE (.str ".")) [b0, b1, b2, b3, b4, b5, b6, b7, .dead] (nts xs) st2).bind fun ys st3 => ER.ok (y :: ys) st3) = _
    rw [ER.bind_ok, ih, ER.bind_ok, lit_dot]
    rfl
theorem lad_step (n s t : Nat) (hn : 0 < n) (hz : n ≤ 600) (ht : t ≤ 600) (ls : List (List Nat)) (hls : ls.length ≤ 700) (k : Nat) (hk : k ≤ 600) {st : PV} (hS : SOk st) :
    ∃ (l : List Nat) (st' : PV), SOk st' ∧ Lad n (pi n s t) k l ∧ ladB [.mt, .sh (.int (n : Int)), .sh (.int (s : Int)), .sh (.int (t : Int)), .own (.lst (lines ls)), .sh (.int (k : Int)), .dead, .dead, .dead] st = .nx [.mt, .sh (.int (n : Int)), .sh (.int (s : Int)), .sh (.int (t : Int)), .own (.lst (lines (ls ++ [l]))), .dead, .dead, .dead, .dead] st' := by
  have hs : sizeLine = 16777216 := sizeLine_eq
  have k1 := rngP_lit n (by omega)
  have k2 := rngP_lit k (by omega)
  have k0 : n ≤ sizeLine := by omega
  have h0 := dots n .mt (.sh (.int (n : Int))) (.sh (.int (s : Int))) (.sh (.int (t : Int))) (.own (.lst (lines ls))) (.sh (.int (k : Int))) .dead .dead st (List.range n)
  rw [List.length_range] at h0
  obtain ⟨ms, st1, h1, h2, h3⟩ := bef_loop n s t hn hz ht (.own (.lst (lines ls))) (.sh (.int (k : Int))) k 0 (List.replicate n 46) st (by omega) hS ⟨⟨by simp, fun c hc => .inl (List.eq_of_mem_replicate hc)⟩, fun j hj hm => by
    exfalso
    apply hm
    unfold mk
    simp [hj]⟩
  rw [← List.range_eq_range'] at h3
  rw [Nat.zero_add] at h2
  obtain ⟨v, st2, g1, g2, g3⟩ := c_next h1 2 (by decide)
  obtain ⟨c, hc, hp⟩ := pick2 v (by omega)
  have hl := h2.1.1
  have hpn : pi n s t k < n := Nat.mod_lt _ hn
  have m1 := mul_r (k : Int) (t : Int) (by omega) (by omega)
  have m2 := modP_int ((s : Int) + (k : Int) * (t : Int)) (n : Int) (by omega)
  rw [fmod_pi] at m2
  have m3 : L2.ixN ms.length ((pi n s t k : Nat) : Int) = some (pi n s t k) := ixN_nat (by omega)
  have m4 := join_marks (ms.set (pi n s t k) c) (by rw [List.length_set]; omega)
  have m5 : ls.length < sizeLine := by omega
  refine ⟨ms.set (pi n s t k) c, st2, g2, ⟨⟨by rw [List.length_set]; exact hl, fun d hd => ?_, ?_⟩, ?_, fun j hj hm => ?_⟩, ?_⟩
  · rcases List.mem_or_eq_of_mem_set hd with hd | hd
    · exact (raw_ok h2.1).2.1 d hd
    · subst hd
      rcases hc with rfl | rfl <;> exact .inr rfl
  · have := count_set_le 116 c ms (pi n s t k)
    rw [List.count_eq_zero_of_not_mem (a := 116) (l := ms)] at this
    · exact this
    · intro hm
      have := h2.1.2 _ hm
      omega
  · rw [mk_set (by omega), if_pos rfl]
    rcases hc with rfl | rfl <;> rfl
  · rw [mk_set (by omega)] at hm
    by_cases e : pi n s t k = j
    · exact ⟨k, Nat.le_refl _, e.symm⟩
    · rw [if_neg e] at hm
      obtain ⟨i, hi, e'⟩ := h2.2 j hj (fun z => by rw [z] at hm; cases hm)
      exact ⟨i, by omega, e'⟩
  · simp [ladB, k1, calmAt, k0, h0, k2, h3, s2, g3, hp, m1, addP_int, intTy_int, m2, m3, chs_set, m4, m5, lines_app]
theorem lad_loop (n s t : Nat) (hn : 0 < n) (hz : n ≤ 600) (ht : t ≤ 600) : ∀ (m k : Nat) (ls : List (List Nat)) (st : PV), k + m ≤ 600 → ls.length = k → SOk st → (∀ r, r < k → Lad n (pi n s t) r (ln ls r)) →
    ∃ (ls' : List (List Nat)) (st' : PV), SOk st' ∧ ls'.length = k + m ∧ (∀ r, r < k + m → Lad n (pi n s t) r (ln ls' r)) ∧ forL (nameG 5) ladB (nts (List.range' k m)) [.mt, .sh (.int (n : Int)), .sh (.int (s : Int)), .sh (.int (t : Int)), .own (.lst (lines ls)), .dead, .dead, .dead, .dead] st = .nx [.mt, .sh (.int (n : Int)), .sh (.int (s : Int)), .sh (.int (t : Int)), .own (.lst (lines ls')), .dead, .dead, .dead, .dead] st'
  | 0, k, ls, st, _, hl, hS, hI => ⟨ls, st, hS, hl, hI, rfl⟩
  | m + 1, k, ls, st, hk, hl, hS, hI => by
    obtain ⟨l, st1, h1, h2, h3⟩ := lad_step n s t hn hz ht ls (by omega) k (by omega) hS
    obtain ⟨ls', st', g1, g2, g3, g4⟩ := lad_loop n s t hn hz ht m (k + 1) (ls ++ [l]) st1 (by omega) (by rw [List.length_append, hl]; rfl) h1 (fun r hr => by
      by_cases e : r < k
      · have : ln (ls ++ [l]) r = ln ls r := by
          unfold ln
          rw [List.getD_eq_getElem?_getD, List.getD_eq_getElem?_getD, List.getElem?_append_left (by omega)]
        rw [this]
        exact hI r e
      · have er : r = k := by omega
        have : ln (ls ++ [l]) r = l := by
          unfold ln
          rw [List.getD_eq_getElem?_getD, List.getElem?_append_right (by omega)]
          simp [er, hl]
        rw [this, er]
        exact h2)
    exact ⟨ls', st', g1, by omega, fun r hr => g3 r (by omega), forL_nx rfl h3 g4⟩
/-- the places of all turns are all places -/
theorem pi_onto (n s t : Nat) (hs : s < n) (ht : t = 1 ∨ t = n - 1) (j : Nat) (hj : j < n) : ∃ r, r < n ∧ pi n s t r = j := by
  unfold pi
  rcases ht with rfl | rfl
  · by_cases h : s ≤ j
    · refine ⟨j - s, by omega, ?_⟩
      rw [Nat.mul_one, show s + (j - s) = j by omega, Nat.mod_eq_of_lt hj]
    · refine ⟨j + n - s, by omega, ?_⟩
      rw [Nat.mul_one, show s + (j + n - s) = j + n by omega, Nat.add_mod_right, Nat.mod_eq_of_lt hj]
  · by_cases h : j ≤ s
    · refine ⟨s - j, by omega, ?_⟩
      have e : s + (s - j) * (n - 1) = j + (s - j) * n := by
        have : (s - j) * n = (s - j) * (n - 1) + (s - j) := by
          conv => lhs; rw [show n = (n - 1) + 1 by omega]
          rw [Nat.mul_add, Nat.mul_one]
        omega
      rw [e, Nat.add_mul_mod_self_right, Nat.mod_eq_of_lt hj]
    · refine ⟨s + n - j, by omega, ?_⟩
      have e : s + (s + n - j) * (n - 1) + n = j + (s + n - j) * n := by
        have : (s + n - j) * n = (s + n - j) * (n - 1) + (s + n - j) := by
          rw [← Nat.mul_succ]
          congr 1
          omega
        omega
      rw [← Nat.add_mod_right, e, Nat.add_mul_mod_self_right, Nat.mod_eq_of_lt hj]
/-- some row forces while something is white -/
def Full (n : Nat) (ls : List (List Nat)) : Prop := ∀ w : List Bool, whl n w ≠ [] → ∃ r, r < ls.length ∧ (loneR (ln ls r) (whl n w)).isSome = true
theorem whl_nodup (n : Nat) (w : List Bool) : (whl n w).Nodup := List.nodup_range.filter _
theorem all_eq_nodup {x : Nat} : ∀ {S : List Nat}, S.Nodup → (∀ y ∈ S, y = x) → x ∈ S → S = [x]
  | [], _, _, h => by simp at h
  | [a], _, h, _ => by rw [h a (by simp)]
  | a :: b :: r, hn, h, _ => by
    exfalso
    have h1 := h a (by simp)
    have h2 := h b (by simp)
    subst h1 h2
    simp at hn
theorem lad_full (n : Nat) (f : Nat → Nat) (hon : ∀ j, j < n → ∃ r, r < n ∧ f r = j) (ls : List (List Nat)) (hl : ls.length = n) (h : ∀ r, r < n → Lad n f r (ln ls r)) : Full n ls := by
  intro w hw
  have hex : ∃ r, r < n ∧ f r ∈ whl n w := by
    cases e : whl n w with
    | nil => exact absurd e hw
    | cons j r =>
      have hj : j ∈ whl n w := by rw [e]; simp
      obtain ⟨r, h1, h2⟩ := hon j (whl_lt hj)
      exact ⟨r, h1, by rw [h2, ← e]; exact hj⟩
  have hmin : ∀ m, (∃ r, r < m ∧ r < n ∧ f r ∈ whl n w) → ∃ r, (r < n ∧ f r ∈ whl n w) ∧ ∀ i, i < r → ¬ f i ∈ whl n w := by
    intro m
    induction m with
    | zero => rintro ⟨r, h, _⟩; omega
    | succ m ih =>
      rintro ⟨r, h1, h2, h3⟩
      by_cases e : ∃ r, r < m ∧ r < n ∧ f r ∈ whl n w
      · exact ih e
      · refine ⟨r, ⟨h2, h3⟩, fun i hi hm => e ⟨i, by omega, by omega, hm⟩⟩
  obtain ⟨r0, q1, q2⟩ := hex
  obtain ⟨r, ⟨h1, h2⟩, h3⟩ := hmin (r0 + 1) ⟨r0, by omega, q1, q2⟩
  refine ⟨r, by omega, ?_⟩
  obtain ⟨_, g2, g3⟩ := h r h1
  have g4 : touched (mk (ln ls r) (f r)) = true := by
    unfold touched
    unfold hard at g2
    revert g2
    cases mk (ln ls r) (f r) == 102 <;> cases mk (ln ls r) (f r) == 116 <;> cases mk (ln ls r) (f r) == 108 <;> decide
  have e : ((whl n w).filter fun j => touched (mk (ln ls r) j)) = [f r] := by
    refine all_eq_nodup ((whl_nodup n w).filter _) (fun y hy => ?_) (List.mem_filter.mpr ⟨h2, g4⟩)
    obtain ⟨y1, y2⟩ := List.mem_filter.mp hy
    obtain ⟨i, hi, rfl⟩ := g3 y (whl_lt y1) y2
    by_cases e : i < r
    · exact absurd y1 (h3 i e)
    · rw [show i = r by omega]
  unfold loneR
  rw [e]
  simp [oneHard, g2]
theorem touch_all {n : Nat} {ls : List (List Nat)} (h : TabOk n ls) (b c d e f g i j : Slot) (st : PV) : ∀ rs : List Nat, (∀ r ∈ rs, r < ls.length) → lcL (nameG 9) yesT (methE ["Table"] "touches" fi_Table_touches [] (vR 1) (consA (vE 9) nilA)) [b, .sh (tb n ls), c, d, e, f, g, i, j, .dead] (nts rs) st = .ok (rs.map fun r => PV.tup (nts (touchC (ln ls r)))) st
  | [], _ => rfl
  | r :: rs, hr => by
    have ih := touch_all h b c d e f g i j st rs fun k hk => hr k (List.mem_cons_of_mem _ hk)
    have e1 := m_touches h [b, .sh (tb n ls), c, d, e, f, g, i, j, .sh (.int (r : Int))] 1 (consA (vE 9) nilA) r (hr r List.mem_cons_self) st (by simp) (by simp)
    show ((methE ["Table"] "touches" fi_Table_touches [] (vR 1) (consA (vE 9) nilA) [b, .sh (tb n ls), c, d, e, f, g, i, j, .sh (.int (r : Int))] st).bind fun y st2 => (lcL (nameG 9) yesT (methE ["Table"] "touches" fi_Table_touches [] (vR 1) (consA (vE 9) nilA)) [b, .sh (tb n ls), c, d, e, f, g, i, j, .dead] (nts rs) st2).bind fun ys st3 => ER.ok (y :: ys) st3) = _
    rw [e1, ER.bind_ok, ih, ER.bind_ok]
    rfl
theorem touchL_range (ls : List (List Nat)) : (List.range ls.length).map (fun r => PV.tup (nts (touchC (ln ls r)))) = touchL ls := by
  unfold touchL
  apply List.ext_getElem?
  intro i
  rw [List.getElem?_map, List.getElem?_map]
  by_cases h : i < ls.length
  · rw [List.getElem?_range h, ln_at h]; rfl
  · rw [List.getElem?_eq_none (by simp; omega), List.getElem?_eq_none (by omega)]; rfl
def frc (t : PV) (os wl : List PV) : PV := .ins "Forcing" ["table", "order", "white"] [t, .tup os, .tup wl]
theorem fld_order (t : PV) (os wl : List PV) : fldP ["Forcing"] "order" (frc t os wl) = some (.tup os) := by rfl
theorem put3 (t : PV) (os wl : List PV) : PV.ins "Forcing" (putN "white" (putN "order" (putN "table" []))) (putV "white" (.tup wl) (putN "order" (putN "table" [])) (putV "order" (.tup os) (putN "table" []) (putV "table" t [] []))) = frc t os wl := by rfl
theorem setF_ok {i : Nat} {cs : List Str} {f : Str} {fe : EF} {env : SEnv} {st p : PV} {c : Str} {ns : List Str} {ps : List PV} (h : fe env st = .ok p (.ins c ns ps)) (hi : env[i]? = some .mt) (hc : c ∈ cs) (hn : ns.length < 1000) : setFldM i cs f fe env st = .nx env (.ins c (putN f ns) (putV f p ns ps)) := by
  rw [setFldM_ap, h, lift_ok, hi]
  dsimp only
  rw [if_pos ⟨hc, hn⟩]
theorem setAll_not : ∀ (ns : List Nat) (w : List Bool), (setAll true ns w).map (!·) = setAll false ns (w.map (!·))
  | [], w => rfl
  | n :: ns, w => by
    show (setAll true ns (w.set n true)).map (!·) = setAll false ns ((w.map (!·)).set n false)
    rw [setAll_not ns, List.map_set]
    rfl
theorem white0_eq (n : Nat) (ns : List Nat) : white0 n ns = setAll false (sortN ns) (List.replicate n true) := by
  unfold white0
  rw [setAll_not, List.map_replicate]
  rfl
/-! ## the drawn order -/
def prs (os : List (Nat × Nat)) : List PV := os.map fun x => PV.tup [.int (x.1 : Int), .int (x.2 : Int)]
@[simp] theorem prs_length (os : List (Nat × Nat)) : (prs os).length = os.length := by simp [prs]
theorem prs_app (os : List (Nat × Nat)) (r c : Nat) : prs os ++ [.tup [.int (r : Int), .int (c : Int)]] = prs (os ++ [(r, c)]) := by simp [prs]
def able (n : Nat) (ls : List (List Nat)) (w : List Bool) : List Nat := (List.range ls.length).filter fun r => (loneR (ln ls r) (whl n w)).isSome
theorem len_ne {c : Nat} : ∀ {S : List Nat}, S.Nodup → c ∈ S → (S.filter fun k => !decide (k = c)).length + 1 = S.length
  | [], _, h => by simp at h
  | a :: S, hn, h => by
    rw [List.nodup_cons] at hn
    by_cases e : a = c
    · subst e
      have : S.filter (fun k => !decide (k = a)) = S := by
        rw [List.filter_eq_self]
        intro k hk
        have : k ≠ a := fun z => hn.1 (z ▸ hk)
        simp [this]
      rw [List.filter_cons]
      simp [this]
    · have hc : c ∈ S := by
        rcases List.mem_cons.mp h with h | h
        · exact absurd h.symm e
        · exact h
      have := len_ne hn.2 hc
      rw [List.filter_cons]
      simp [e]
      exact this
theorem lone_mem {l lot : List Nat} {c : Nat} (h : loneR l lot = some c) : c ∈ lot := by
  unfold loneR at h
  have : c ∈ lot.filter fun j => touched (mk l j) := by
    unfold oneHard at h
    split at h
    · rename_i k' hk'
      split at h
      · cases h; rw [hk']; simp
      · cases h
    · cases h
  exact (List.mem_filter.mp this).1
theorem step_lone {n : Nat} {ls : List (List Nat)} (h : TabOk n ls) {r c : Nat} (hr : r < ls.length) {w : List Bool} (hl : loneR (ln ls r) (whl n w) = some c) : stepB ls w (.tup [.int (r : Int), .int (c : Int)]) = true := by
  show stepI ls w (r : Int) (c : Int) = true
  unfold stepI
  rw [if_pos ⟨by omega, by omega⟩, Int.toNat_natCast, forced_lone h hr, hl]
  simp
def drawB : SF := (seqS (setO 7 (lcE [9] (rngA (consA (biE lenP (consA (vR 1) nilA)) nilA)) (nameG 9) (cmpT isnP (callE fi__law_lone [] (consA (opE ixP (vR 1) (vR 9)) (consA (vE 4) nilA))) (cE .non)) (vE 9))) (seqS (ifS (cmpT gtP (biE lenP (consA (vR 7) nilA)) (cE (.int 0))) (seqS (setS 9 (opE ixP (vR 7) (callE fi__law_next [] (consA (mtA 0) (consA (biE minP (consA (cE (.int 30)) (consA (biE lenP (consA (vR 7) nilA)) nilA))) nilA))))) (seqS (setS 10 (callE fi__law_lone [] (consA (opE ixP (vR 1) (vR 9)) (consA (vE 4) nilA)))) (seqS (appS 5 (tupE (consA (vE 9) (consA (vE 10) nilA)))) (seqS (setS 4 (lcE [8] (seqA (vE 4)) (nameG 8) (cmpT neP (vR 8) (vR 10)) (vE 8))) nxS)))) nxS) (fun env st => .nx (killS [6, 7, 9, 10] env) st)))
abbrev dE (n : Nat) (ls : List (List Nat)) (o : PV) (w : List Bool) (os : List (Nat × Nat)) (a6 a7 a9 a10 : Slot) : SEnv := [.mt, .sh (.lst (lines ls)), .sh (.int (n : Int)), .sh o, .sh (.lst (nts (whl n w))), .own (.lst (prs os)), a6, a7, .dead, a9, a10]
theorem ix_nts {xs : List Nat} {i x : Nat} (h : xs[i]? = some x) : ixP (.lst (nts xs)) (.int (i : Int)) = some (.int (x : Int)) := by
  show L2.atI (nts xs) (i : Int) = _
  rw [atI_nat (x := .int (x : Int))]
  unfold nts
  rw [List.getElem?_map, h]; rfl
theorem min30 {k : Nat} (h : 0 < k) : ∃ m : Nat, 0 < m ∧ m ≤ k ∧ m ≤ 30 ∧ minP [.int 30, .int (k : Nat)] = some (.int (m : Nat)) := by
  by_cases e : k < 30
  · exact ⟨k, h, Nat.le_refl _, by omega, by
      show some (PV.int (if ((k : Nat) : Int) < 30 then ((k : Nat) : Int) else 30)) = _
      rw [if_pos (by omega)]⟩
  · exact ⟨30, by omega, by omega, by omega, by
      show some (PV.int (if ((k : Nat) : Int) < 30 then ((k : Nat) : Int) else 30)) = _
      rw [if_neg (by omega)]; rfl⟩
theorem ne_filter10 (xs : List Nat) (j : Nat) (b0 b1 b2 b3 b4 b5 b6 b7 b9 : Slot) (st : PV) : lcL (nameG 8) (cmpT neP (vR 8) (vR 10)) (vE 8) [b0, b1, b2, b3, b4, b5, b6, b7, .dead, b9, .sh (.int (j : Int))] (nts xs) st = .ok (nts (xs.filter fun k => !decide (k = j))) st := by
  rw [lcL_pure (natF fun k => !decide (k = j)) id]
  · rw [List.map_id, filter_natF xs fun k => !decide (k = j)]
  · intro p hp
    obtain ⟨k, hk, rfl⟩ := mem_nts hp
    refine ⟨_, rfl, ?_, fun _ => ?_⟩
    · have : ((k : Int) == (j : Int)) = decide (k = j) := by
        rw [Bool.eq_iff_iff]; simp; omega
      simp [neP_int, this]
    · simp
theorem draw_step {n : Nat} {ls : List (List Nat)} (h : TabOk n ls) (o : PV) (w : List Bool) (hw : w.length = n) (os : List (Nat × Nat)) (hos : os.length ≤ 1000) (a6 : Slot) {st : PV} (hS : SOk st) :
    (able n ls w = [] ∧ drawB (dE n ls o w os a6 .dead .dead .dead) st = .nx (dE n ls o w os .dead .dead .dead .dead) st) ∨
    ∃ (r c : Nat) (st' : PV), SOk st' ∧ r < ls.length ∧ loneR (ln ls r) (whl n w) = some c ∧ drawB (dE n ls o w os a6 .dead .dead .dead) st = .nx (dE n ls o (w.set c false) (os ++ [(r, c)]) .dead .dead .dead .dead) st' := by
  have hs : sizeLine = 16777216 := sizeLine_eq
  have hn := h.1
  have hlen := h.2.1
  have hwz := whl_len n w
  have d1 : lcE [9] (rngA (consA (biE lenP (consA (vR 1) nilA)) nilA)) (nameG 9) (cmpT isnP (callE fi__law_lone [] (consA (opE ixP (vR 1) (vR 9)) (consA (vE 4) nilA))) (cE .non)) (vE 9) (dE n ls o w os a6 .dead .dead .dead) st = .ok (.lst (nts (able n ls w))) st := by
    have t1 : biE lenP (consA (vR 1) nilA) (dE n ls o w os a6 .dead .dead .dead) st = .ok (.int (ls.length : Nat)) st := by simp [dE, lenP]
    refine lc_ok (rng_ok (one_ok t1) (rngP_nat (by omega))) rfl (by simp; omega) ?_
    rw [lcL_pure (natF fun r => (loneR (ln ls r) (whl n w)).isSome) id]
    · rw [List.map_id, filter_natF _ fun r => (loneR (ln ls r) (whl n w)).isSome]; rfl
    · intro p hp
      obtain ⟨r, hr, rfl⟩ := mem_nts hp
      have hr' := List.mem_range.mp hr
      have hl := c_lone h hr' (whl n w) (fun j hj => whl_lt hj) (by omega) st
      have hi : isnP (optI (loneR (ln ls r) (whl n w))) .non = some (loneR (ln ls r) (whl n w)).isSome := by
        cases loneR (ln ls r) (whl n w) <;> rfl
      refine ⟨_, rfl, ?_, fun _ => ?_⟩
      · simp [dE, ix_linesL hr', hl, hi]
      · simp [dE]
  cases ha : able n ls w with
  | nil =>
    refine .inl ⟨rfl, ?_⟩
    rw [ha] at d1
    have d2 : cmpT gtP (biE lenP (consA (vR 7) nilA)) (cE (.int 0)) (dE n ls o w os a6 (.own (.lst (nts []))) .dead .dead) st = .ok false st := by
      simp [dE, lenP]
    exact seq_nx (setO_ok d1) (seq_nx (if_ok d2 rfl) rfl)
  | cons x xs =>
    rw [ha] at d1
    have d2 : cmpT gtP (biE lenP (consA (vR 7) nilA)) (cE (.int 0)) (dE n ls o w os a6 (.own (.lst (nts (x :: xs)))) .dead .dead) st = .ok true st := by
      have : (0 : Int) < (xs.length : Int) + 1 := by omega
      simp [dE, lenP, this]
    obtain ⟨m, hm1, hm2, hm3, hm4⟩ := min30 (k := (x :: xs).length) (by simp)
    obtain ⟨v, st1, g1, g2, g3⟩ := c_next hS (m : Int) (by omega)
    obtain ⟨r, hr⟩ : ∃ r, (x :: xs)[v]? = some r := ⟨_, List.getElem?_eq_getElem (by omega)⟩
    have hra : r ∈ able n ls w := by rw [ha]; exact List.mem_of_getElem? hr
    obtain ⟨hr1, hr2⟩ := List.mem_filter.mp hra
    have hr1 := List.mem_range.mp hr1
    obtain ⟨c, hc⟩ := Option.isSome_iff_exists.mp hr2
    refine .inr ⟨r, c, st1, g2, hr1, hc, ?_⟩
    have t0 : biE lenP (consA (vR 7) nilA) (dE n ls o w os a6 (.own (.lst (nts (x :: xs)))) .dead .dead) st = .ok (.int ((x :: xs).length : Nat)) st :=
      bi_ok (one_ok (show vR 7 (dE n ls o w os a6 (.own (.lst (nts (x :: xs)))) .dead .dead) st = .ok (.lst (nts (x :: xs))) st from rfl)) (by show some (PV.int ((nts (x :: xs)).length : Nat)) = _; rw [nts_length])
    have t1 : opE ixP (vR 7) (callE fi__law_next [] (consA (mtA 0) (consA (biE minP (consA (cE (.int 30)) (consA (biE lenP (consA (vR 7) nilA)) nilA))) nilA))) (dE n ls o w os a6 (.own (.lst (nts (x :: xs)))) .dead .dead) st = .ok (.int (r : Int)) st1 := by
      refine op_ok (a := .lst (nts (x :: xs))) (b := .int (v : Int)) (st1 := st) rfl (call_ok (cons_ok (show mtA 0 (dE n ls o w os a6 (.own (.lst (nts (x :: xs)))) .dead .dead) st = .ok .non st from rfl) (one_ok (bi_ok (cons_ok (show cE (.int 30) (dE n ls o w os a6 (.own (.lst (nts (x :: xs)))) .dead .dead) st = .ok (.int 30) st from rfl) (one_ok t0)) hm4))) g3) (ix_nts hr)
    have hl := c_lone h hr1 (whl n w) (fun j hj => whl_lt hj) (by omega) st1
    rw [hc] at hl
    have t2 : callE fi__law_lone [] (consA (opE ixP (vR 1) (vR 9)) (consA (vE 4) nilA)) (dE n ls o w os a6 (.own (.lst (nts (x :: xs)))) (.sh (.int (r : Int))) .dead) st1 = .ok (.int (c : Int)) st1 := by
      simp [dE, ix_linesL hr1, hl, optI]
    have t3 : tupE (consA (vE 9) (consA (vE 10) nilA)) (dE n ls o w os a6 (.own (.lst (nts (x :: xs)))) (.sh (.int (r : Int))) (.sh (.int (c : Int)))) st1 = .ok (.tup [.int (r : Int), .int (c : Int)]) st1 := by
      simp [dE, s2]
    have t4 : appS 5 (tupE (consA (vE 9) (consA (vE 10) nilA))) (dE n ls o w os a6 (.own (.lst (nts (x :: xs)))) (.sh (.int (r : Int))) (.sh (.int (c : Int)))) st1 = .nx (dE n ls o w (os ++ [(r, c)]) a6 (.own (.lst (nts (x :: xs)))) (.sh (.int (r : Int))) (.sh (.int (c : Int)))) st1 := by
      have hz : os.length < sizeLine := by omega
      simp [dE, s2, hz, prs_app]
    have t5 : lcE [8] (seqA (vE 4)) (nameG 8) (cmpT neP (vR 8) (vR 10)) (vE 8) (dE n ls o w (os ++ [(r, c)]) a6 (.own (.lst (nts (x :: xs)))) (.sh (.int (r : Int))) (.sh (.int (c : Int)))) st1 = .ok (.lst (nts (whl n (w.set c false)))) st1 := by
      rw [← whl_set hw (whl_lt (lone_mem hc))]
      exact lc_ok (seqA_ok (p := .lst (nts (whl n w))) rfl rfl) rfl (by simp; omega) (ne_filter10 _ _ _ _ _ _ _ _ _ _ _ _)
    exact seq_nx (setO_ok d1) (seq_nx (if_ok d2 (seq_nx (set_ok t1) (seq_nx (set_ok t2) (seq_nx t4 (seq_nx (set_ok t5) rfl))))) rfl)
theorem full_end {n : Nat} {ls : List (List Nat)} (hF : Full n ls) {w : List Bool} (ha : able n ls w = []) : whl n w = [] := by
  cases e : whl n w with
  | nil => rfl
  | cons a s =>
    exfalso
    obtain ⟨r, h1, h2⟩ := hF w (by rw [e]; simp)
    have : r ∈ able n ls w := List.mem_filter.mpr ⟨List.mem_range.mpr h1, h2⟩
    rw [ha] at this; cases this
theorem draw_loop {n : Nat} {ls : List (List Nat)} (h : TabOk n ls) (o : PV) (w0 : List Bool) : ∀ (ks : List Nat) (w : List Bool) (os : List (Nat × Nat)) (st : PV), w.length = n → os.length + ks.length ≤ 1000 → SOk st → runF ls w0 (prs os) = some w → (∀ x ∈ os, x.1 < ls.length ∧ x.2 < n) →
    ∃ (w' : List Bool) (os' : List (Nat × Nat)) (st' : PV), SOk st' ∧ w'.length = n ∧ runF ls w0 (prs os') = some w' ∧ (∀ x ∈ os', x.1 < ls.length ∧ x.2 < n) ∧ os'.length + (whl n w').length = os.length + (whl n w).length ∧ (able n ls w = [] → w' = w) ∧ (able n ls w' = [] ∨ os'.length = os.length + ks.length) ∧ os'.length ≤ os.length + ks.length ∧
      forL (nameG 6) drawB (nts ks) (dE n ls o w os .dead .dead .dead .dead) st = .nx (dE n ls o w' os' .dead .dead .dead .dead) st'
  | [], w, os, st, hw, _, hS, hr, hx => ⟨w, os, st, hS, hw, hr, hx, rfl, fun _ => rfl, .inr rfl, Nat.le_refl _, rfl⟩
  | k :: ks, w, os, st, hw, hz, hS, hr, hx => by
    rw [List.length_cons] at hz
    rcases draw_step h o w hw os (by omega) (.sh (.int (k : Int))) hS with ⟨ha, he⟩ | ⟨r, c, st1, q1, q2, q3, q4⟩
    · obtain ⟨w', os', st', g1, g2, g3, g4, g5, g6a, g6, g7, g8⟩ := draw_loop h o w0 ks w os st hw (by omega) hS hr hx
      exact ⟨w', os', st', g1, g2, g3, g4, g5, g6a, .inl (by rw [g6a ha]; exact ha), by simp; omega, forL_nx rfl he g8⟩
    · have hc := lone_mem q3
      have hcn := whl_lt hc
      have hs := step_lone h q2 q3
      have hr' := runF_app ls (prs os) w0 w _ hr hs
      have hcol : colN (.tup [.int (r : Int), .int (c : Int)]) = c := by simp [colN]
      rw [hcol, prs_app] at hr'
      have hlen := len_ne (whl_nodup n w) hc
      rw [whl_set hw hcn] at hlen
      have hra : r ∈ able n ls w := List.mem_filter.mpr ⟨List.mem_range.mpr q2, by rw [q3]; rfl⟩
      obtain ⟨w', os', st', g1, g2, g3, g4, g5, g6a, g6, g7, g8⟩ := draw_loop h o w0 ks (w.set c false) (os ++ [(r, c)]) st1 (by rw [List.length_set]; exact hw) (by rw [List.length_append]; simp; omega) q1 hr' (fun x hxm => by
        rcases List.mem_append.mp hxm with hxm | hxm
        · exact hx x hxm
        · rw [List.mem_singleton.mp hxm]; exact ⟨q2, hcn⟩)
      rw [List.length_append] at g5 g6 g7
      simp at g5 g6 g7
      exact ⟨w', os', st', g1, g2, g3, g4, by omega, fun ha => by { rw [ha] at hra; cases hra }, by
        rcases g6 with g | g
        · exact .inl g
        · exact .inr (by simp; omega), by simp; omega, forL_nx rfl q4 g8⟩
/-! ## papers bent -/
def PaperOk (p : PV) : Prop := (notIns p = true ∧ (∀ ks ps, p ≠ .dct ks ps) ∧ (∀ ms, p ≠ .scr ms)) ∧ ∀ qs, seqOf p = some qs → ∀ q ∈ qs, pairOk q = true
theorem paper_lst {qs : List PV} (h : ∀ q ∈ qs, pairOk q = true) : PaperOk (.lst qs) := ⟨⟨rfl, nofun, nofun⟩, fun qs' e => by cases e; exact h⟩
theorem paper_tup {qs : List PV} (h : ∀ q ∈ qs, pairOk q = true) : PaperOk (.tup qs) := ⟨⟨rfl, nofun, nofun⟩, fun qs' e => by cases e; exact h⟩
theorem paper_non : PaperOk .non := ⟨⟨rfl, nofun, nofun⟩, fun qs' e => by cases e⟩
theorem paper_str (x : Str) : PaperOk (.str x) := ⟨⟨rfl, nofun, nofun⟩, fun qs' e => by cases e⟩
theorem prs_ok (os : List (Nat × Nat)) : ∀ q ∈ prs os, pairOk q = true := fun q hq => by
  obtain ⟨x, _, rfl⟩ := List.mem_map.mp hq
  rfl
theorem if_skip {c : TF} {g g2 : SF} {env : SEnv} {st st1 : PV} {r : SR} (h : c env st = .ok false st1) (h2 : g2 env st1 = r) : seqS (ifS c g nxS) g2 env st = r := seq_nx (if_ok h rfl) h2
theorem if_hit {c : TF} {e : EF} {g2 : SF} {env : SEnv} {st st1 st2 p : PV} (h : c env st = .ok true st1) (h2 : e env st1 = .ok p st2) : seqS (ifS c (seqS (retS e) nxS) nxS) g2 env st = .ret p false env st2 := seq_ret (if_ok h (seq_ret (ret_ok h2)))
theorem tk_ne {k j : Int} {r : SEnv} {st : PV} (h : k ≠ j) : cmpT eqP (vR 0) (cE (.int j)) (.sh (.int k) :: r) st = .ok false st :=
  cmp_ok (a := .int k) (b := .int j) rfl rfl (by rw [eqP_int, show (k == j) = false from by simpa using h])
theorem tk_eq {k : Int} {r : SEnv} {st : PV} : cmpT eqP (vR 0) (cE (.int k)) (.sh (.int k) :: r) st = .ok true st :=
  cmp_ok (a := .int k) (b := .int k) rfl rfl (by rw [eqP_int]; simp)
theorem addL_ok {xs ys : List PV} (h : xs.length + ys.length ≤ sizeLine) : addL (.lst xs) (.lst ys) = some (.lst (xs ++ ys)) := if_pos h
theorem slL_take (xs : List PV) (a : Nat) (h : a ≤ xs.length) : slL (.lst xs) none (some (a : Int)) = some (.lst (xs.take a)) := by
  show some (PV.lst (cutP xs none (some (a : Int)))) = _
  unfold cutP
  rw [HT.sIx_nat, HT.sIx_none]
  simp [Nat.min_eq_left h]
theorem slL_drop (xs : List PV) (a : Nat) : slL (.lst xs) (some (a : Int)) none = some (.lst (xs.drop a)) := by
  show some (PV.lst (cutP xs (some (a : Int)) none)) = _
  unfold cutP
  rw [HT.sIx_nat, HT.sIx_none]
  congr 2
  by_cases h : a ≤ xs.length
  · rw [Nat.min_eq_left h, List.take_of_length_le (by simp)]
  · rw [Nat.min_eq_right (by omega), List.drop_eq_nil_of_le (Nat.le_refl _), List.drop_eq_nil_of_le (by omega)]
    simp
theorem told_again (b0 b1 b2 b3 b4 b5 b6 b7 : Slot) (st : PV) : ∀ os : List (Nat × Nat), lcL (nameG 8) yesT (tupE (consA (opE ixP (vR 8) (cE (.int 0))) (consA (opE ixP (vR 8) (cE (.int 1))) nilA))) [b0, b1, b2, b3, b4, b5, b6, b7, .dead] (prs os) st = .ok (prs os) st
  | [] => rfl
  | (r, c) :: os => by
    have ih := told_again b0 b1 b2 b3 b4 b5 b6 b7 st os
    have e1 : tupE (consA (opE ixP (vR 8) (cE (.int 0))) (consA (opE ixP (vR 8) (cE (.int 1))) nilA)) [b0, b1, b2, b3, b4, b5, b6, b7, .sh (.tup [.int (r : Int), .int (c : Int)])] st = .ok (.tup [.int (r : Int), .int (c : Int)]) st := by
      have k0 : ixP (.tup [.int (r : Int), .int (c : Int)]) (.int 0) = some (.int (r : Int)) := rfl
      have k1 : ixP (.tup [.int (r : Int), .int (c : Int)]) (.int 1) = some (.int (c : Int)) := rfl
      simp [k0, k1, s2]
    show ((tupE (consA (opE ixP (vR 8) (cE (.int 0))) (consA (opE ixP (vR 8) (cE (.int 1))) nilA)) [b0, b1, b2, b3, b4, b5, b6, b7, .sh (.tup [.int (r : Int), .int (c : Int)])] st).bind fun y st2 => (lcL (nameG 8) yesT (tupE (consA (opE ixP (vR 8) (cE (.int 0))) (consA (opE ixP (vR 8) (cE (.int 1))) nilA))) [b0, b1, b2, b3, b4, b5, b6, b7, .dead] (prs os) st2).bind fun ys st3 => ER.ok (y :: ys) st3) = _
    rw [e1, ER.bind_ok, ih, ER.bind_ok]
    rfl
def prL (os : List (Nat × Nat)) : List PV := os.map fun x => PV.lst [.int (x.1 : Int), .int (x.2 : Int)]
theorem told_lists (b0 b1 b2 b3 b4 b5 b6 b7 : Slot) (st : PV) : ∀ os : List (Nat × Nat), lcL (nameG 8) yesT (lstE (consA (opE ixP (vR 8) (cE (.int 0))) (consA (opE ixP (vR 8) (cE (.int 1))) nilA))) [b0, b1, b2, b3, b4, b5, b6, b7, .dead] (prs os) st = .ok (prL os) st
  | [] => rfl
  | (r, c) :: os => by
    have ih := told_lists b0 b1 b2 b3 b4 b5 b6 b7 st os
    have e1 : lstE (consA (opE ixP (vR 8) (cE (.int 0))) (consA (opE ixP (vR 8) (cE (.int 1))) nilA)) [b0, b1, b2, b3, b4, b5, b6, b7, .sh (.tup [.int (r : Int), .int (c : Int)])] st = .ok (.lst [.int (r : Int), .int (c : Int)]) st := by
      have k0 : ixP (.tup [.int (r : Int), .int (c : Int)]) (.int 0) = some (.int (r : Int)) := rfl
      have k1 : ixP (.tup [.int (r : Int), .int (c : Int)]) (.int 1) = some (.int (c : Int)) := rfl
      simp [k0, k1, s2]
    show ((lstE (consA (opE ixP (vR 8) (cE (.int 0))) (consA (opE ixP (vR 8) (cE (.int 1))) nilA)) [b0, b1, b2, b3, b4, b5, b6, b7, .sh (.tup [.int (r : Int), .int (c : Int)])] st).bind fun y st2 => (lcL (nameG 8) yesT (lstE (consA (opE ixP (vR 8) (cE (.int 0))) (consA (opE ixP (vR 8) (cE (.int 1))) nilA))) [b0, b1, b2, b3, b4, b5, b6, b7, .dead] (prs os) st2).bind fun ys st3 => ER.ok (y :: ys) st3) = _
    rw [e1, ER.bind_ok, ih, ER.bind_ok]
    rfl
theorem ix_prs {os : List (Nat × Nat)} {i r c : Nat} (h : os[i]? = some (r, c)) : ixP (.lst (prs os)) (.int (i : Int)) = some (.tup [.int (r : Int), .int (c : Int)]) := by
  show L2.atI (prs os) (i : Int) = _
  rw [atI_nat (x := .tup [.int (r : Int), .int (c : Int)])]
  unfold prs
  rw [List.getElem?_map, h]; rfl
abbrev pE (k : Int) (os : List (Nat × Nat)) (a R n : Nat) (s5 s6 s7 : Slot) : SEnv := [.sh (.int k), .sh (.lst (prs os)), .sh (.int (a : Int)), .sh (.int (R : Int)), .sh (.int (n : Int)), s5, s6, s7, .dead]
section
variable (k : Int) (os : List (Nat × Nat)) (a R n : Nat) (s6 s7 : Slot) (st : PV)
theorem pre_take (ha : a ≤ os.length) : slE slL (vR 5) noP (someP (vE 2)) (pE k os a R n (.own (.lst (prs os))) s6 s7) st = .ok (.lst ((prs os).take a)) st := by
  have h := slL_take (prs os) a (by simpa using ha)
  simp [pE, h]
theorem post1 : slE slL (vR 5) (someP (opE addP (vR 2) (cE (.int 1)))) noP (pE k os a R n (.own (.lst (prs os))) s6 s7) st = .ok (.lst ((prs os).drop (a + 1))) st := by
  have h := slL_drop (prs os) (a + 1)
  have e : (((a + 1 : Nat) : Nat) : Int) = (a : Int) + 1 := by omega
  rw [e] at h
  simp [pE, addP_int, h]
theorem post2 : slE slL (vR 5) (someP (opE addP (vR 2) (cE (.int 2)))) noP (pE k os a R n (.own (.lst (prs os))) s6 s7) st = .ok (.lst ((prs os).drop (a + 2))) st := by
  have h := slL_drop (prs os) (a + 2)
  have e : (((a + 2 : Nat) : Nat) : Int) = (a : Int) + 2 := by omega
  rw [e] at h
  simp [pE, addP_int, h]
theorem around {f g : EF} {qs ds : List PV} (ha : a ≤ os.length) (hz : os.length ≤ 10000) (hq : qs.length ≤ 10) (hqs : ∀ q ∈ qs, pairOk q = true) (hds : ∀ q ∈ ds, q ∈ prs os) (hdl : ds.length ≤ os.length)
    (h : f (pE k os a R n (.own (.lst (prs os))) s6 s7) st = .ok (.lst qs) st) (h2 : g (pE k os a R n (.own (.lst (prs os))) s6 s7) st = .ok (.lst ds) st) :
    ∃ p, opE addL (opE addL (slE slL (vR 5) noP (someP (vE 2))) f) g (pE k os a R n (.own (.lst (prs os))) s6 s7) st = .ok p st ∧ PaperOk p := by
  have hs : sizeLine = 16777216 := sizeLine_eq
  have hl : ((prs os).take a).length ≤ os.length := by simp; omega
  refine ⟨.lst ((prs os).take a ++ qs ++ ds), op_ok (op_ok (pre_take k os a R n s6 s7 st ha) h (addL_ok (by omega))) h2 (addL_ok (by rw [List.length_append]; omega)), paper_lst fun q hqm => ?_⟩
  rcases List.mem_append.mp hqm with hqm | hqm
  · rcases List.mem_append.mp hqm with hqm | hqm
    · exact prs_ok os q (List.mem_of_mem_take hqm)
    · exact hqs q hqm
  · exact prs_ok os q (hds q hqm)
end
theorem mem_drop1 {os : List (Nat × Nat)} {m : Nat} : ∀ q ∈ (prs os).drop m, q ∈ prs os := fun q h => List.mem_of_mem_drop h
theorem len_drop1 {os : List (Nat × Nat)} {m : Nat} : ((prs os).drop m).length ≤ os.length := by simp
theorem lit_01 : PaperOk (.str "01") := paper_str _
/-! ## two orders that end leave the same white -/
theorem runF_sub (ls : List (List Nat)) : ∀ (qs : List PV) (w w' : List Bool), runF ls w qs = some w' → ∀ j, wh w' j = true → wh w j = true
  | [], w, w', h, j, hj => by cases h; exact hj
  | q :: qs, w, w', h, j, hj => by
    unfold runF at h
    by_cases hs : stepB ls w q = true
    · rw [if_pos hs] at h
      have := runF_sub ls qs _ w' h j hj
      by_cases hc : colN q < w.length
      · rw [wh_set false w _ j hc] at this
        by_cases e : colN q = j
        · rw [if_pos e] at this; cases this
        · rw [if_neg e] at this; exact this
      · rw [List.set_eq_of_length_le (by omega)] at this
        exact this
    · rw [if_neg hs] at h; cases h
theorem forced_shrink {l cols : List Nat} {w w2 : List Bool} {c : Nat} (h : forcedR l cols w = some c) (hsub : ∀ j, wh w2 j = true → wh w j = true) (hc : wh w2 c = true) : forcedR l cols w2 = some c := by
  unfold forcedR at h ⊢
  have e : cols.filter (fun j => wh w2 j) = (cols.filter fun j => wh w j).filter fun j => wh w2 j := by
    rw [List.filter_filter]
    apply List.filter_congr
    intro j _
    cases h2 : wh w2 j with
    | false => rfl
    | true => rw [hsub j h2]; rfl
  rw [e]
  generalize cols.filter (fun j => wh w j) = S at h ⊢
  unfold oneHard at h
  split at h
  · rename_i k
    split at h
    · rename_i hh
      cases h
      simp [hc, oneHard, hh]
    · cases h
  · cases h
theorem step_forced {ls : List (List Nat)} {w : List Bool} {q : PV} (h : stepB ls w q = true) : ∃ r, r < ls.length ∧ forcedR (ln ls r) (touchC (ln ls r)) w = some (colN q) := by
  have key : ∀ r c : Int, stepI ls w r c = true → ∃ k, k < ls.length ∧ forcedR (ln ls k) (touchC (ln ls k)) w = some c.toNat := fun r c h => by
    unfold stepI at h
    by_cases hr : 0 ≤ r ∧ r < ls.length
    · rw [if_pos hr] at h
      refine ⟨r.toNat, by omega, ?_⟩
      cases ho : forcedR (ln ls r.toNat) (touchC (ln ls r.toNat)) w with
      | none => rw [ho] at h; cases h
      | some j =>
        rw [ho] at h
        have : (j : Int) = c := by simpa using h
        rw [← this, Int.toNat_natCast]
    · rw [if_neg hr] at h; cases h
  unfold stepB at h
  split at h
  · exact key _ _ h
  · exact key _ _ h
  · cases h
theorem conf (ls : List (List Nat)) (w2 : List Bool) (hst : Stuck ls (List.range ls.length) w2) : ∀ (qs : List PV) (w w' : List Bool), runF ls w qs = some w' → (∀ j, wh w2 j = true → wh w j = true) → ∀ j, wh w2 j = true → wh w' j = true
  | [], w, w', h, hsub, j, hj => by cases h; exact hsub j hj
  | q :: qs, w, w', h, hsub, j, hj => by
    unfold runF at h
    by_cases hs : stepB ls w q = true
    · rw [if_pos hs] at h
      obtain ⟨r, hr, hf⟩ := step_forced hs
      have hc : ¬ wh w2 (colN q) = true := fun hc => by
        have := forced_shrink hf hsub hc
        rw [hst r (List.mem_range.mpr hr)] at this
        cases this
      refine conf ls w2 hst qs _ w' h (fun k hk => ?_) j hj
      by_cases hl : colN q < w.length
      · rw [wh_set false w _ k hl]
        by_cases e : colN q = k
        · subst e; exact absurd hk hc
        · rw [if_neg e]; exact hsub k hk
      · rw [List.set_eq_of_length_le (by omega)]
        exact hsub k hk
    · rw [if_neg hs] at h; cases h
theorem conf_eq {ls : List (List Nat)} {w0 w1 w2 : List Bool} {as bs : List PV} (h1 : runF ls w0 as = some w1) (h2 : runF ls w0 bs = some w2) (s1 : Stuck ls (List.range ls.length) w1) (s2 : Stuck ls (List.range ls.length) w2) (j : Nat) : wh w1 j = wh w2 j := by
  rw [Bool.eq_iff_iff]
  exact ⟨conf ls w1 s1 bs w0 w2 h2 (runF_sub ls as w0 w1 h1) j, conf ls w2 s2 as w0 w1 h1 (runF_sub ls bs w0 w2 h2) j⟩
theorem able_stuck {n : Nat} {ls : List (List Nat)} (h : TabOk n ls) {w : List Bool} (ha : able n ls w = []) : Stuck ls (List.range ls.length) w := fun r hr => by
  have hr' := List.mem_range.mp hr
  rw [forced_lone h hr']
  cases e : loneR (ln ls r) (whl n w) with
  | none => rfl
  | some c =>
    have : r ∈ able n ls w := List.mem_filter.mpr ⟨hr, by rw [e]; rfl⟩
    rw [ha] at this; cases this
theorem showR_seq {ls : List (List Nat)} {w0 w1 : List Bool} {j : Nat} {p : PV} {qs : List PV} (hp : seqOf p = some qs) (hr : runF ls w0 qs = some w1) : showR ls w0 j p = !wh w1 j := by
  unfold showR
  rw [hp]
  dsimp only
  rw [hr]
/-! ## comparisons -/
theorem depth_strs : ∀ xs : List PyData, (∀ x ∈ xs, ∃ s, x = .str s) → PyData.depthAll xs ≤ 0
  | [], _ => by simp [PyData.depthAll]
  | x :: xs, h => by
    obtain ⟨s, rfl⟩ := h x List.mem_cons_self
    have := depth_strs xs fun y hy => h y (List.mem_cons_of_mem _ hy)
    simp [PyData.depthAll, PyData.depth]
    omega
theorem lay_strs : ∀ xs : List PyData, (∀ x ∈ xs, PyData.canLay0 x = true) → PyData.canLayAll0 xs = true
  | [], _ => by simp [PyData.canLayAll0]
  | x :: xs, h => by
    have h1 := h x List.mem_cons_self
    have h2 := lay_strs xs fun y hy => h y (List.mem_cons_of_mem _ hy)
    simp [PyData.canLayAll0, h1, h2]
theorem eq_lines {n : Nat} {ls : List (List Nat)} (h : ∀ l ∈ ls, LineOk n l) : eqP (.lst (lines ls)) (.lst (lines ls)) = some true := by
  have h1 : ∀ x ∈ toDs (lines ls), (∃ s, x = .str s) ∧ PyData.canLay0 x = true := fun x hx => by
    rw [toDs_map] at hx
    obtain ⟨p, hp, rfl⟩ := List.mem_map.mp hx
    obtain ⟨l, hl, rfl⟩ := List.mem_map.mp hp
    refine ⟨⟨_, rfl⟩, ?_⟩
    show PyData.strOk _ = true
    unfold PyData.strOk
    simp
    intro c hc
    have := mark_lt ((h l hl).2.1 c hc)
    omega
  have h2 : PyData.canLayAll0 (toDs (lines ls)) = true := lay_strs _ fun x hx => (h1 x hx).2
  have h3 : PyData.canLay0 (.list (toDs (lines ls))) = true := by simpa [PyData.canLay0] using h2
  have h4 : okD (.lst (lines ls)) = true := by
    unfold okD SeqAt.shaped
    have hd := depth_strs (toDs (lines ls)) fun x hx => (h1 x hx).1
    have e : toD (.lst (lines ls)) = .list (toDs (lines ls)) := by rw [toD]
    rw [e, h3]
    simp [PyData.depth]
    omega
  unfold eqP
  rw [if_pos ⟨h4, h4⟩]
  unfold eqB
  rw [show toD (.lst (lines ls)) = .list (toDs (lines ls)) from by rw [toD], SeqAt.eqv_refl _ h3]
theorem neP_bl (a b : Bool) : neP (.bl a) (.bl b) = some (!(a == b)) := by
  unfold neP eqB okD toD
  simp [SeqAt.shaped, PyData.eqv, PyData.canLay0, PyData.depth]
def kA : SF := (ifS (cmpT gtP (biE lenP (consA (vR 6) nilA)) (cE (.int 0))) (seqS (setS 12 (callE fi__law_next [] (consA (mtA 0) (consA (biE minP (consA (cE (.int 30)) (consA (biE lenP (consA (vR 6) nilA)) nilA))) nilA)))) nxS) nxS)
def kC : SF := (ifS (andT (cmpT gtP (biE lenP (consA (vR 6) nilA)) (cE (.int 0))) (cmpT gtP (callE fi__law_next [] (consA (mtA 0) (consA (cE (.int 3)) nilA))) (cE (.int 0)))) (seqS (setS 8 (opE ixP (opE ixP (vR 6) (callE fi__law_next [] (consA (mtA 0) (consA (biE minP (consA (cE (.int 30)) (consA (biE lenP (consA (vR 6) nilA)) nilA))) nilA)))) (cE (.int 1)))) nxS) nxS)
abbrev kE (n : Nat) (ls : List (List Nat)) (out : List Nat) (os : List (Nat × Nat)) (fs : List PV) (s8 s9 s10 s11 s12 s13 s14 : Slot) : SEnv := [.mt, .sh (.lst (lines ls)), .sh (.int (n : Int)), .sh (.lst (nts out)), .sh (tb n ls), .sh (.int (ls.length : Nat)), .sh (.lst (prs os)), .sh (.tup fs), s8, s9, s10, s11, s12, s13, s14]
/-! ## refusals -/
def tg (x : Str) (i : Int) : PV := .tup [.str x, .int i]
def hLot : SF := (seqS (setS 4 (tupE (consA (cE (.str "lot")) (consA (xfE 5 ["BadLot"] "place") nilA)))) nxS)
def hPlace : SF := (seqS (setS 4 (tupE (consA (cE (.str "place")) (consA (xfE 6 ["NoPlace"] "place") nilA)))) nxS)
abbrev rE (t c o l : PV) (s4 s5 s6 : Slot) : SEnv := [.sh t, .sh c, .sh o, .sh l, s4, s5, s6]
theorem let_ok (t c o l : PV) (st : PV) : tupE (consA (cE (.str "let")) (consA (cE (.int 0)) nilA)) (rE t c o l .dead .dead .dead) st = .ok (tg "let" 0) st := by
  simp [s2, tg]
theorem ne_self {x : Str} (i : Int) (hx : PyData.strOk x = true) : neP (tg x i) (tg x i) = some false := by
  have h4 : okD (tg x i) = true := by
    unfold okD SeqAt.shaped tg
    simp [toD, toDs, PyData.canLay0, PyData.canLayAll0, PyData.depth, PyData.depthAll, hx]
  unfold neP
  rw [if_pos ⟨h4, h4⟩]
  unfold eqB
  rw [SeqAt.eqv_refl _ (okD_lay h4)]
  rfl
theorem t_place (i : Int) : neP (tg "place" i) (tg "place" i) = some false := ne_self i (by decide +kernel)
theorem t_lot (i : Int) : neP (tg "lot" i) (tg "lot" i) = some false := ne_self i (by decide +kernel)
theorem t_let (i : Int) : neP (tg "let" i) (tg "let" i) = some false := ne_self i (by decide +kernel)
abbrev qE (n : Nat) (ls : List (List Nat)) (kind col : PV) (p : Int) (i : Nat) (s8 : Slot) : SEnv := [.mt, .sh (.int (n : Int)), .sh (.lst (lines ls)), .sh (tb n ls), .sh kind, .sh col, .sh (.int p), .sh (.int (i : Int)), s8]
theorem lot_two {n i : Nat} (hi : i < n) : fi_lot_of.sem [.lst [.int (i : Int), .int (i : Int)], .int (n : Int)] .non = .exc "BadLot" ["place"] [.int 1] .non := by
  have e := s_lot_of (.lst [.int (i : Int), .int (i : Int)]) (n : Int) [(i : Int), (i : Int)] (.inl rfl) s2
  rw [e]
  have e2 : lotBad (n : Int) 0 [] [(i : Int), (i : Int)] = some 1 := by
    unfold lotBad
    rw [if_neg (by simp; omega)]
    unfold lotBad
    rw [if_pos (by simp)]
  unfold lotR
  rw [e2]
  rfl
theorem lot_far {n : Nat} : fi_lot_of.sem [.lst [.int (n : Int)], .int (n : Int)] .non = .exc "BadLot" ["place"] [.int 0] .non := by
  have e := s_lot_of (.lst [.int (n : Int)]) (n : Int) [(n : Int)] (.inl rfl) s1
  rw [e]
  have e2 : lotBad (n : Int) 0 [] [(n : Int)] = some 0 := by
    unfold lotBad
    rw [if_pos (.inr (.inl (Int.le_refl _)))]
  unfold lotR
  rw [e2]
  rfl
theorem call_exc {fi : FnI} {ps : List PV} {st : PV} {c : Str} {ns : List Str} {qs : List PV} (h : fi.sem ps .non = .exc c ns qs .non) (hm : fi.ms.any isMut = false := by rfl) : callK fi ps st = .exc c ns qs st := by
  rw [callK_val hm, h]
theorem s5 : (5 : Nat) ≤ sizeLine := by decide
theorem pow25 : powP (.int 10) (.int 25) = some (.int 10000000000000000000000000) := by
  show (if decide (CPow 10 25) = true then some (PV.int ((10 : Int) ^ (25 : Int).toNat)) else none) = _
  rw [if_pos (by rw [decide_eq_true_iff]; unfold CPow; decide)]
  rfl
theorem pick_col (n : Nat) (hn : n ≤ 600) (v : Nat) (hv : v < 5) : ∃ (col : PV) (p : Int), notIns col = true ∧ borOk col = true ∧ placeR col (n : Int) = .exc "NoPlace" ["place"] [.int p] .non ∧ ixP (.lst [.int (n : Int), .int (-1), .non, .bl false, .int 10000000000000000000000000]) (.int (v : Int)) = some col ∧ ixP (.lst [.int (n : Int), .int (-1), .int 0, .int 0, .int 10000000000000000000000000]) (.int (v : Int)) = some (.int p) := by
  match v, hv with
  | 0, _ => exact ⟨.int (n : Int), (n : Int), rfl, rfl, if_pos (.inr (Int.le_refl _)), rfl, rfl⟩
  | 1, _ => exact ⟨.int (-1), -1, rfl, rfl, (by unfold placeR; exact if_pos (.inl (by omega))), rfl, rfl⟩
  | 2, _ => exact ⟨.non, 0, rfl, rfl, rfl, rfl, rfl⟩
  | 3, _ => exact ⟨.bl false, 0, rfl, rfl, rfl, rfl, rfl⟩
  | 4, _ => exact ⟨.int 10000000000000000000000000, 10000000000000000000000000, rfl, rfl, (by unfold placeR; exact if_pos (.inr (by omega))), rfl, rfl⟩
/-! ## the law -/
theorem white_all {n : Nat} {j : Nat} (hj : j < n) : wh (white0 n []) j = true := by
  rw [wh_white0 (ns := []) (by simp) hj]; rfl
theorem whl_all (n : Nat) : (whl n (white0 n [])).length = n := by
  unfold whl
  rw [List.filter_eq_self.mpr (fun j hj => white_all (List.mem_range.mp hj)), List.length_range]
theorem runF_last (ls : List (List Nat)) : ∀ (qs : List PV) (q : PV) (w w' : List Bool), runF ls w (qs ++ [q]) = some w' → ∃ w2, runF ls w qs = some w2 ∧ stepB ls w2 q = true
  | [], q, w, w', h => by
    have h' : (if stepB ls w q = true then some (w.set (colN q) false) else none) = some w' := h
    by_cases hs : stepB ls w q = true
    · exact ⟨w, rfl, hs⟩
    · rw [if_neg hs] at h'; cases h'
  | p :: qs, q, w, w', h => by
    have h' : (if stepB ls w p = true then runF ls (w.set (colN p) false) (qs ++ [q]) else none) = some w' := h
    by_cases hs : stepB ls w p = true
    · rw [if_pos hs] at h'
      obtain ⟨w2, h1, h2⟩ := runF_last ls qs q _ w' h'
      refine ⟨w2, ?_, h2⟩
      show (if stepB ls w p = true then runF ls (w.set (colN p) false) qs else none) = _
      rw [if_pos hs]; exact h1
    · rw [if_neg hs] at h'; cases h'
abbrev aE (ns : List Int) (s2 s3 s4 s5 s6 s7 s8 s9 s10 : Slot) : SEnv := [.sh (.scr ns), .mt, s2, s3, s4, s5, s6, s7, s8, s9, s10]
theorem s10 : (10 : Nat) ≤ sizeLine := by decide
theorem pick_n (v : Nat) (hv : v < 10) : ∃ n : Nat, n ≤ 6 ∧ ixP (.lst [.int 3, .int 4, .int 2, .int 5, .int 6, .int 1, .int 4, .int 0, .int 5, .int 3]) (.int (v : Int)) = some (.int (n : Int)) := by
  match v, hv with
  | 0, _ => exact ⟨3, by decide, rfl⟩
  | 1, _ => exact ⟨4, by decide, rfl⟩
  | 2, _ => exact ⟨2, by decide, rfl⟩
  | 3, _ => exact ⟨5, by decide, rfl⟩
  | 4, _ => exact ⟨6, by decide, rfl⟩
  | 5, _ => exact ⟨1, by decide, rfl⟩
  | 6, _ => exact ⟨4, by decide, rfl⟩
  | 7, _ => exact ⟨0, by decide, rfl⟩
  | 8, _ => exact ⟨5, by decide, rfl⟩
  | 9, _ => exact ⟨3, by decide, rfl⟩
theorem pick_r (v : Nat) (hv : v < 10) : ∃ n : Nat, n ≤ 6 ∧ ixP (.lst [.int 3, .int 2, .int 4, .int 3, .int 5, .int 1, .int 0, .int 6, .int 2, .int 4]) (.int (v : Int)) = some (.int (n : Int)) := by
  match v, hv with
  | 0, _ => exact ⟨3, by decide, rfl⟩
  | 1, _ => exact ⟨2, by decide, rfl⟩
  | 2, _ => exact ⟨4, by decide, rfl⟩
  | 3, _ => exact ⟨3, by decide, rfl⟩
  | 4, _ => exact ⟨5, by decide, rfl⟩
  | 5, _ => exact ⟨1, by decide, rfl⟩
  | 6, _ => exact ⟨0, by decide, rfl⟩
  | 7, _ => exact ⟨6, by decide, rfl⟩
  | 8, _ => exact ⟨2, by decide, rfl⟩
  | 9, _ => exact ⟨4, by decide, rfl⟩
theorem not_ok {f : EF} {env : SEnv} {st st1 : PV} (h : f env st = .ok (.bl true) st1) : notT (truT f) env st = .ok false st1 := by
  rw [notT_ap, truT_ap, h, ER.bind_ok, truP_bl]; rfl
theorem isn_eq (a : Bool) : isnP (.bl a) (.bl a) = some false := by
  show some (!decide (a = a)) = _
  simp

end KI.K13

/-! part P13a -/
set_option Elab.async false
set_option linter.all false
set_option maxRecDepth 100000
set_option maxHeartbeats 2000000
namespace KI.K13
open PySem PySem.Spec PyProof.Rows L2 KI
/-! ## lots in order -/
theorem filter_in : ∀ {out l : List Nat}, out.Sublist l → l.Nodup → l.filter (fun x => decide (x ∈ out)) = out
  | _, _, .slnil, _ => rfl
  | out, a :: l, .cons _ h, hn => by
    rw [List.nodup_cons] at hn
    have ha : a ∉ out := fun z => hn.1 (h.subset z)
    rw [List.filter_cons_of_neg (by simpa using ha)]
    exact filter_in h hn.2
  | a :: out, _ :: l, .cons_cons _ h, hn => by
    rw [List.nodup_cons] at hn
    rw [List.filter_cons_of_pos (by simp)]
    congr 1
    rw [List.filter_congr (q := fun x => decide (x ∈ out)) (fun x hx => by
      have : x ≠ a := fun z => hn.1 (z ▸ hx)
      simp [this])]
    exact filter_in h hn.2
/-- the flags that flags_of gives -/
def flg (n : Nat) (lot : List Nat) : List Bool := setAll true (sortN lot) (List.replicate n false)
theorem flg_len (n : Nat) (lot : List Nat) : (flg n lot).length = n := by unfold flg; rw [setAll_length, List.length_replicate]
theorem wh_flg {n : Nat} {lot : List Nat} (h : ∀ m ∈ lot, m < n) {j : Nat} (hj : j < n) : wh (flg n lot) j = decide (j ∈ lot) := by
  unfold flg
  rw [wh_setAll true _ _ _ (fun m hm => by rw [List.length_replicate]; exact h m ((sortN_mem lot m).mp hm))]
  have e0 : wh (List.replicate n false) j = false := by unfold wh; simp [hj]
  rw [e0]
  by_cases hm : j ∈ lot
  · simp [sortN_mem, hm]
  · simp [sortN_mem, hm]
/-- places below n, upward -/
def Lot (n : Nat) (lot : List Nat) : Prop := lot.Sublist (List.range n)
theorem Lot.lt {n : Nat} {lot : List Nat} (h : Lot n lot) {m : Nat} (hm : m ∈ lot) : m < n := List.mem_range.mp (h.subset hm)
theorem Lot.nd {n : Nat} {lot : List Nat} (h : Lot n lot) : lot.Nodup := h.nodup List.nodup_range
theorem Lot.len {n : Nat} {lot : List Nat} (h : Lot n lot) : lot.length ≤ n := by have := h.length_le; rwa [List.length_range] at this
theorem Lot.whl {n : Nat} {lot : List Nat} (h : Lot n lot) : whl n (flg n lot) = lot := by
  unfold KI.K13.whl
  rw [List.filter_congr (q := fun x => decide (x ∈ lot)) fun x hx => wh_flg (fun m hm => h.lt hm) (List.mem_range.mp hx)]
  exact filter_in h List.nodup_range
theorem whl_lot (n : Nat) (w : List Bool) : Lot n (whl n w) := List.filter_sublist
theorem nil_lot (n : Nat) : Lot n [] := List.nil_sublist _
theorem Lot.filter {n : Nat} {lot : List Nat} (h : Lot n lot) (f : Nat → Bool) : Lot n (lot.filter f) := List.filter_sublist.trans h
/-- the first row that forces while just the lot is white -/
def firstR (ls : List (List Nat)) (lot : List Nat) (rs : List Nat) : Option Nat := rs.find? fun r => (loneR (ln ls r) lot).isSome
def leastR (ls : List (List Nat)) (lot : List Nat) : Option Nat := firstR ls lot (List.range ls.length)
theorem leastR_lt {ls : List (List Nat)} {lot : List Nat} {r : Nat} (h : leastR ls lot = some r) : r < ls.length := List.mem_range.mp (List.mem_of_find?_eq_some h)
theorem leastR_none {ls : List (List Nat)} {lot : List Nat} (h : leastR ls lot = none) {r : Nat} (hr : r < ls.length) : loneR (ln ls r) lot = none := by
  have := List.find?_eq_none.mp h r (List.mem_range.mpr hr)
  simpa using this
/-! ## broken_at -/
def brokB : SF := (seqS (ifS (cmpT isnP (callE fi_forced_now [] (consA (opE ixP (fldE ["Table"] "lines" (vR 0)) (vR 3)) (consA (methE ["Table"] "touches" fi_Table_touches [] (vR 0) (consA (vE 3) nilA)) (consA (vR 2) nilA)))) (cE .non)) (seqS (retS (vE 3)) nxS) nxS) (fun env st => .nx (killS [3] env) st))
theorem broken_eq : g_broken_at = (seqS (setS 2 (callE fi_flags_of [] (consA (callE fi_lot_of [] (consA (vE 1) (consA (fldE ["Table"] "columns" (vR 0)) nilA))) (consA (fldE ["Table"] "columns" (vR 0)) nilA)))) (seqS (forS (rngA (consA (lenM ["Table"] fi_Table_len (vR 0)) nilA)) (nameG 3) brokB) (seqS (retS (cE .non)) nxS))) := rfl
abbrev bE (t l : PV) (w : List Bool) (s3 : Slot) : SEnv := [.sh t, .sh l, .sh (.lst (bls w)), s3]
theorem isn_opt (o : Option Nat) : isnP (optI o) .non = some o.isSome := by cases o <;> rfl
theorem brok_step {n : Nat} {ls : List (List Nat)} (h : TabOk n ls) (l : PV) {lot : List Nat} (hl : Lot n lot) {r : Nat} (hr : r < ls.length) (st : PV) :
    brokB (bE (tb n ls) l (flg n lot) (.sh (.int (r : Int)))) st = if (loneR (ln ls r) lot).isSome = true then .ret (.int (r : Int)) false (bE (tb n ls) l (flg n lot) (.sh (.int (r : Int)))) st else .nx (bE (tb n ls) l (flg n lot) .dead) st := by
  have ht := m_touches h (bE (tb n ls) l (flg n lot) (.sh (.int (r : Int)))) 0 (consA (vE 3) nilA) r hr st (by simp) (by simp)
  have hf := c_forced_at h hr (flg n lot) (flg_len n lot) st
  rw [forced_lone h hr, hl.whl] at hf
  have d1 : callE fi_forced_now [] (consA (opE ixP (fldE ["Table"] "lines" (vR 0)) (vR 3)) (consA (methE ["Table"] "touches" fi_Table_touches [] (vR 0) (consA (vE 3) nilA)) (consA (vR 2) nilA))) (bE (tb n ls) l (flg n lot) (.sh (.int (r : Int)))) st = .ok (optI (loneR (ln ls r) lot)) st := by
    refine call_ok (cons_ok (op_ok (a := .tup (lines ls)) (b := .int (r : Int)) (st1 := st) ?_ rfl (ix_lines hr)) (cons_ok ht (one_ok (show vR 2 (bE (tb n ls) l (flg n lot) (.sh (.int (r : Int)))) st = .ok (.lst (bls (flg n lot))) st from rfl)))) hf
    rw [fldE_ap, show vR 0 (bE (tb n ls) l (flg n lot) (.sh (.int (r : Int)))) st = .ok (tb n ls) st from rfl, ER.bind_ok, fld_lines]
    rfl
  have d2 := cmp_ok (g := isnP) d1 (show cE .non (bE (tb n ls) l (flg n lot) (.sh (.int (r : Int)))) st = .ok .non st from rfl) (isn_opt _)
  cases ho : (loneR (ln ls r) lot).isSome with
  | true =>
    rw [ho] at d2
    rw [if_pos rfl]
    exact if_hit d2 rfl
  | false =>
    rw [ho] at d2
    rw [if_neg (by simp)]
    exact if_skip d2 rfl
theorem brok_loop {n : Nat} {ls : List (List Nat)} (h : TabOk n ls) (l : PV) {lot : List Nat} (hl : Lot n lot) (st : PV) : ∀ rs : List Nat, (∀ r ∈ rs, r < ls.length) →
    (match firstR ls lot rs with
    | some r => ∃ env', forL (nameG 3) brokB (nts rs) (bE (tb n ls) l (flg n lot) .dead) st = .ret (.int (r : Int)) false env' st
    | none => forL (nameG 3) brokB (nts rs) (bE (tb n ls) l (flg n lot) .dead) st = .nx (bE (tb n ls) l (flg n lot) .dead) st)
  | [], _ => rfl
  | r :: rs, hr => by
    have e := brok_step h l hl (hr r List.mem_cons_self) st
    have ih := brok_loop h l hl st rs fun k hk => hr k (List.mem_cons_of_mem _ hk)
    unfold firstR
    rw [List.find?_cons]
    cases ho : (loneR (ln ls r) lot).isSome with
    | true =>
      rw [ho, if_pos rfl] at e
      exact ⟨_, forL_ret rfl e⟩
    | false =>
      rw [ho, if_neg (by simp)] at e
      dsimp only
      unfold firstR at ih
      cases hf : rs.find? (fun r => (loneR (ln ls r) lot).isSome) with
      | none =>
        rw [hf] at ih
        exact forL_nx rfl e ih
      | some r' =>
        rw [hf] at ih
        obtain ⟨env', ih⟩ := ih
        exact ⟨env', forL_nx rfl e ih⟩
theorem c_lot_good {n : Nat} (hn : n ≤ sizeLine) {lot : List Nat} (hl : ∀ m ∈ lot, m < n) (hnd : lot.Nodup) (hz : lot.length ≤ sizeLine) (p : PV) (hp : p = .lst (nts lot) ∨ p = .tup (nts lot)) (st : PV) : callK fi_lot_of [p, .int (n : Int)] st = .ok (.tup (nts (sortN lot))) st := by
  have e0 : nts lot = (ints' lot).map .int := by unfold nts ints'; rw [List.map_map]; rfl
  rw [callK_val, s_lot_of p (n : Int) (ints' lot) (by rw [← e0]; exact hp) (by simpa using hz)]
  unfold lotR
  rw [lotBad_none lot 0 [] hl hnd (by simp), ← sortN_nts]
theorem sort_lot {n : Nat} {lot : List Nat} (h : Lot n lot) : ∀ j, j ∈ sortN lot ↔ j ∈ lot := sortN_mem lot
theorem sortN_nd {lot : List Nat} (h : lot.Nodup) : (sortN lot).Nodup := by
  unfold sortN
  have h1 : (sortI (ints' lot)).Nodup := (sortI_perm (ints' lot)).nodup_iff.mpr (by
    unfold ints'
    exact List.Pairwise.map (R := fun (a b : Nat) => a ≠ b) (S := fun (a b : Int) => a ≠ b) (fun (j : Nat) => (j : Int)) (fun a b z => by omega) h)
  refine List.Pairwise.map (R := fun (a b : Int) => 0 ≤ a ∧ 0 ≤ b ∧ a ≠ b) (S := fun (a b : Nat) => a ≠ b) Int.toNat (fun a b z => ?_) (List.Pairwise.imp_of_mem (fun {a b} ha hb z => ⟨?_, ?_, z⟩) h1)
  · obtain ⟨z1, z2, z3⟩ := z
    intro e
    omega
  · obtain ⟨k, _, rfl⟩ := List.mem_map.mp ((sortI_perm (ints' lot)).mem_iff.mp ha)
    omega
  · obtain ⟨k, _, rfl⟩ := List.mem_map.mp ((sortI_perm (ints' lot)).mem_iff.mp hb)
    omega
theorem sortN_len (lot : List Nat) : (sortN lot).length = lot.length := by
  unfold sortN
  rw [List.length_map, (sortI_perm (ints' lot)).length_eq]
  simp
theorem flg_sort (n : Nat) {lot : List Nat} (h : ∀ m ∈ lot, m < n) : ∀ j, j < n → wh (flg n (sortN lot)) j = wh (flg n lot) j := fun j hj => by
  rw [wh_flg (fun m hm => h m ((sortN_mem lot m).mp hm)) hj, wh_flg h hj]
  simp [sortN_mem]
theorem flg_eq (n : Nat) {lot : List Nat} (h : ∀ m ∈ lot, m < n) : flg n (sortN lot) = flg n lot := by
  apply List.ext_getElem?
  intro j
  by_cases hj : j < n
  · rw [wh_at (by rw [flg_len]; exact hj), wh_at (by rw [flg_len]; exact hj), flg_sort n h j hj]
  · rw [List.getElem?_eq_none (by rw [flg_len]; omega), List.getElem?_eq_none (by rw [flg_len]; omega)]
theorem c_broken {n : Nat} {ls : List (List Nat)} (h : TabOk n ls) {lot : List Nat} (hl : Lot n lot) (st : PV) : callK fi_broken_at [tb n ls, .tup (nts (sortN lot))] st = .ok (optI (leastR ls lot)) st := by
  have hs : sizeLine = 16777216 := sizeLine_eq
  have hn : n ≤ sizeLine := by have := h.1; omega
  have hlen : ls.length ≤ sizeLine := by have := h.2.1; omega
  have hlz := hl.len
  have k1 := c_lot_good hn (lot := sortN lot) (fun m hm => hl.lt ((sortN_mem lot m).mp hm)) (sortN_nd hl.nd) (by rw [sortN_len]; omega) (.tup (nts (sortN lot))) (.inr rfl) .non
  have k2 := c_flags_of (sortN (sortN lot)) n .non (fun m hm => hl.lt ((sortN_mem lot m).mp ((sortN_mem _ m).mp hm))) hn
  have e2 : setAll true (sortN (sortN lot)) (List.replicate n false) = flg n lot := flg_eq n (fun m hm => hl.lt hm)
  rw [e2] at k2
  have hL := brok_loop h (.tup (nts (sortN lot))) hl .non (List.range ls.length) (fun r hr => List.mem_range.mp hr)
  have f0 : ∀ s2 s3, fldE ["Table"] "columns" (vR 0) [.sh (tb n ls), .sh (.tup (nts (sortN lot))), s2, s3] .non = .ok (.int (n : Int)) .non := fun s2 s3 => by
    rw [fldE_ap, show vR 0 [.sh (tb n ls), .sh (.tup (nts (sortN lot))), s2, s3] .non = .ok (tb n ls) .non from rfl, ER.bind_ok, fld_columns]
  have d1 : callE fi_flags_of [] (consA (callE fi_lot_of [] (consA (vE 1) (consA (fldE ["Table"] "columns" (vR 0)) nilA))) (consA (fldE ["Table"] "columns" (vR 0)) nilA)) [.sh (tb n ls), .sh (.tup (nts (sortN lot))), .dead, .dead] .non = .ok (.lst (bls (flg n lot))) .non :=
    call_ok (cons_ok (call_ok (cons_ok (show vE 1 [.sh (tb n ls), .sh (.tup (nts (sortN lot))), .dead, .dead] .non = .ok (.tup (nts (sortN lot))) .non from rfl) (one_ok (f0 _ _))) k1) (one_ok (f0 _ _))) k2
  have d2 := m_len h (bE (tb n ls) (.tup (nts (sortN lot))) (flg n lot) .dead) 0 .non (by simp)
  have e : ∃ env1, g_broken_at [.sh (tb n ls), .sh (.tup (nts (sortN lot))), .dead, .dead] .non = .ret (optI (leastR ls lot)) false env1 .non := by
    rw [broken_eq]
    unfold leastR
    cases hf : firstR ls lot (List.range ls.length) with
    | none =>
      rw [hf] at hL
      exact ⟨_, seq_nx (set_ok d1) (seq_nx (for_ok (rng_ok (one_ok d2) (rngP_nat hlen)) hL) (seq_ret (ret_ok rfl)))⟩
    | some r =>
      rw [hf] at hL
      obtain ⟨env', hL⟩ := hL
      exact ⟨env', seq_nx (set_ok d1) (seq_ret (for_ok (rng_ok (one_ok d2) (rngP_nat hlen)) hL))⟩
  obtain ⟨env1, e⟩ := e
  have e3 : fi_broken_at.sem [tb n ls, .tup (nts (sortN lot))] .non = .ok (optI (leastR ls lot)) .non := sem_ok e (fun h => by cases h)
  rw [callK_val, e3]
/-! ## the law's least row -/
def leastB : SF := (seqS (ifS (cmpT isnP (callE fi__law_lone [] (consA (opE ixP (vR 0) (vR 2)) (consA (vE 1) nilA))) (cE .non)) (seqS (retS (vE 2)) nxS) nxS) (fun env st => .nx (killS [2] env) st))
theorem least_eq : g__law_least_row = (seqS (forS (rngA (consA (biE lenP (consA (vR 0) nilA)) nilA)) (nameG 2) leastB) (seqS (retS (cE .non)) nxS)) := rfl
theorem least_loop {n : Nat} {ls : List (List Nat)} (h : TabOk n ls) {lot : List Nat} (hl : Lot n lot) (st : PV) : ∀ rs : List Nat, (∀ r ∈ rs, r < ls.length) →
    (match firstR ls lot rs with
    | some r => ∃ env', forL (nameG 2) leastB (nts rs) [.sh (.lst (lines ls)), .sh (.lst (nts lot)), .dead] st = .ret (.int (r : Int)) false env' st
    | none => forL (nameG 2) leastB (nts rs) [.sh (.lst (lines ls)), .sh (.lst (nts lot)), .dead] st = .nx [.sh (.lst (lines ls)), .sh (.lst (nts lot)), .dead] st)
  | [], _ => rfl
  | r :: rs, hr => by
    have hs : sizeLine = 16777216 := sizeLine_eq
    have hn := h.1
    have hlz := hl.len
    have hr0 := hr r List.mem_cons_self
    have k1 := c_lone h hr0 lot (fun j hj => hl.lt hj) (by omega) st
    have d1 : callE fi__law_lone [] (consA (opE ixP (vR 0) (vR 2)) (consA (vE 1) nilA)) [.sh (.lst (lines ls)), .sh (.lst (nts lot)), .sh (.int (r : Int))] st = .ok (optI (loneR (ln ls r) lot)) st :=
      call_ok (cons_ok (op_ok (a := .lst (lines ls)) (b := .int (r : Int)) (st1 := st) rfl rfl (ix_linesL hr0)) (one_ok (show vE 1 [.sh (.lst (lines ls)), .sh (.lst (nts lot)), .sh (.int (r : Int))] st = .ok (.lst (nts lot)) st from rfl))) k1
    have d2 := cmp_ok (g := isnP) d1 (show cE .non [.sh (.lst (lines ls)), .sh (.lst (nts lot)), .sh (.int (r : Int))] st = .ok .non st from rfl) (isn_opt _)
    have ih := least_loop h hl st rs fun k hk => hr k (List.mem_cons_of_mem _ hk)
    unfold firstR
    rw [List.find?_cons]
    cases ho : (loneR (ln ls r) lot).isSome with
    | true =>
      rw [ho] at d2
      exact ⟨_, forL_ret rfl (if_hit d2 rfl)⟩
    | false =>
      rw [ho] at d2
      dsimp only
      unfold firstR at ih
      have e : leastB [.sh (.lst (lines ls)), .sh (.lst (nts lot)), .sh (.int (r : Int))] st = .nx [.sh (.lst (lines ls)), .sh (.lst (nts lot)), .dead] st := if_skip d2 rfl
      cases hf : rs.find? (fun r => (loneR (ln ls r) lot).isSome) with
      | none =>
        rw [hf] at ih
        exact forL_nx rfl e ih
      | some r' =>
        rw [hf] at ih
        obtain ⟨env', ih⟩ := ih
        exact ⟨env', forL_nx rfl e ih⟩
theorem c_least {n : Nat} {ls : List (List Nat)} (h : TabOk n ls) {lot : List Nat} (hl : Lot n lot) (st : PV) : callK fi__law_least_row [.lst (lines ls), .lst (nts lot)] st = .ok (optI (leastR ls lot)) st := by
  have hs : sizeLine = 16777216 := sizeLine_eq
  have hlen : ls.length ≤ sizeLine := by have := h.2.1; omega
  have hL := least_loop h hl .non (List.range ls.length) (fun r hr => List.mem_range.mp hr)
  have d2 : biE lenP (consA (vR 0) nilA) [.sh (.lst (lines ls)), .sh (.lst (nts lot)), .dead] .non = .ok (.int (ls.length : Nat)) .non :=
    bi_ok (one_ok (show vR 0 [.sh (.lst (lines ls)), .sh (.lst (nts lot)), .dead] .non = .ok (.lst (lines ls)) .non from rfl)) (by show some (PV.int ((lines ls).length : Nat)) = _; rw [lines_length])
  have e : ∃ env1, g__law_least_row [.sh (.lst (lines ls)), .sh (.lst (nts lot)), .dead] .non = .ret (optI (leastR ls lot)) false env1 .non := by
    rw [least_eq]
    unfold leastR
    cases hf : firstR ls lot (List.range ls.length) with
    | none =>
      rw [hf] at hL
      exact ⟨_, seq_nx (for_ok (rng_ok (one_ok d2) (rngP_nat hlen)) hL) (seq_ret (ret_ok rfl))⟩
    | some r =>
      rw [hf] at hL
      obtain ⟨env', hL⟩ := hL
      exact ⟨env', seq_ret (for_ok (rng_ok (one_ok d2) (rngP_nat hlen)) hL)⟩
  obtain ⟨env1, e⟩ := e
  have e3 : fi__law_least_row.sem [.lst (lines ls), .lst (nts lot)] .non = .ok (optI (leastR ls lot)) .non := sem_ok e (fun h => by cases h)
  rw [callK_val, e3]
end KI.K13

/-! part P13b -/
set_option Elab.async false
set_option linter.all false
set_option maxRecDepth 100000
set_option maxHeartbeats 2000000
namespace KI.K13
open PySem PySem.Spec PyProof.Rows L2 KI
/-! ## sums over a lot -/
def sm (f : Nat → Int) (lot : List Nat) : Int := (lot.map f).sum
theorem sm_cons (f : Nat → Int) (a : Nat) (lot : List Nat) : sm f (a :: lot) = f a + sm f lot := by unfold sm; rw [List.map_cons, List.sum_cons]
theorem sm_split (f : Nat → Int) (p : Nat → Bool) : ∀ lot : List Nat, sm f lot = sm f (lot.filter p) + sm f (lot.filter fun j => !p j)
  | [] => by simp [sm]
  | a :: lot => by
    have ih := sm_split f p lot
    cases h : p a with
    | true => rw [List.filter_cons_of_pos h, List.filter_cons_of_neg (by simp [h]), sm_cons, sm_cons, ih]; omega
    | false => rw [List.filter_cons_of_neg (by simp [h]), List.filter_cons_of_pos (by simp [h]), sm_cons, sm_cons, ih]; omega
theorem sm_const {f : Nat → Int} {c : Int} : ∀ {lot : List Nat}, (∀ j ∈ lot, f j = c) → sm f lot = c * (lot.length : Int)
  | [], _ => by simp [sm]
  | a :: lot, h => by
    rw [sm_cons, h a List.mem_cons_self, sm_const fun j hj => h j (List.mem_cons_of_mem _ hj), List.length_cons]
    push_cast
    rw [Int.mul_add]
    omega
theorem sm_congr {f g : Nat → Int} : ∀ {lot : List Nat}, (∀ j ∈ lot, f j = g j) → sm f lot = sm g lot
  | [], _ => rfl
  | a :: lot, h => by rw [sm_cons, sm_cons, h a List.mem_cons_self, sm_congr fun j hj => h j (List.mem_cons_of_mem _ hj)]
/-! ## values of a row -/
def vat (v : List Int) (j : Nat) : Int := v.getD j 0
theorem vat_set {v : List Int} {i : Nat} (h : i < v.length) (c : Int) (j : Nat) : vat (v.set i c) j = if i = j then c else vat v j := by
  unfold vat
  rw [List.getD_eq_getElem?_getD, List.getD_eq_getElem?_getD, List.getElem?_set]
  by_cases e : i = j
  · subst e; simp [h]
  · simp [e]
theorem vat_at {v : List Int} {j : Nat} (h : j < v.length) : v[j]? = some (vat v j) := by unfold vat; simp [h]
def setZ : List Int → List Nat → List Int → List Int
  | v, a :: as, p :: ps => setZ (v.set a p) as ps
  | v, _, _ => v
theorem setZ_len : ∀ (as : List Nat) (ps : List Int) (v : List Int), (setZ v as ps).length = v.length
  | [], _, v => by simp [setZ]
  | _ :: _, [], v => by simp [setZ]
  | a :: as, p :: ps, v => by rw [setZ, setZ_len as ps, List.length_set]
theorem setZ_out : ∀ (as : List Nat) (ps : List Int) (v : List Int) (j : Nat), (∀ a ∈ as, a < v.length) → j ∉ as → vat (setZ v as ps) j = vat v j
  | [], _, v, j, _, _ => by simp [setZ]
  | _ :: _, [], v, j, _, _ => by simp [setZ]
  | a :: as, p :: ps, v, j, h, hj => by
    rw [setZ, setZ_out as ps _ j (fun b hb => by rw [List.length_set]; exact h b (List.mem_cons_of_mem _ hb)) (fun z => hj (List.mem_cons_of_mem _ z)), vat_set (h a List.mem_cons_self), if_neg (fun z : a = j => hj (by rw [← z]; exact List.mem_cons_self))]
theorem setZ_in : ∀ (as : List Nat) (ps : List Int) (v : List Int), as.Nodup → as.length = ps.length → (∀ a ∈ as, a < v.length) → as.map (vat (setZ v as ps)) = ps
  | [], [], v, _, _, _ => rfl
  | [], _ :: _, v, _, h, _ => by simp at h
  | _ :: _, [], v, _, h, _ => by simp at h
  | a :: as, p :: ps, v, hn, hl, h => by
    rw [List.nodup_cons] at hn
    have h' : ∀ b ∈ as, b < (v.set a p).length := fun b hb => by rw [List.length_set]; exact h b (List.mem_cons_of_mem _ hb)
    rw [setZ, List.map_cons, setZ_in as ps (v.set a p) hn.2 (by simpa using hl) h', setZ_out as ps _ a h' hn.1, vat_set (h a List.mem_cons_self), if_pos rfl]
/-! ## small_parts -/
def pad : Nat → List Int
  | 0 => []
  | k + 1 => 1 :: -1 :: pad k
theorem pad_len : ∀ k, (pad k).length = 2 * k
  | 0 => rfl
  | k + 1 => by show (pad k).length + 1 + 1 = _; rw [pad_len k]; omega
theorem pad_sum : ∀ k, (pad k).sum = 0
  | 0 => rfl
  | k + 1 => by show (1 : Int) + (-1 + (pad k).sum) = 0; rw [pad_sum k]; omega
theorem pad_mem : ∀ k, ∀ x ∈ pad k, x = 1 ∨ x = -1
  | 0, x, h => by simp [pad] at h
  | k + 1, x, h => by
    rcases List.mem_cons.mp h with h | h
    · exact .inl h
    · rcases List.mem_cons.mp h with h | h
      · exact .inr h
      · exact pad_mem k x h
theorem pad_app (s : List Int) (k : Nat) : s ++ [1, -1] ++ pad k = s ++ pad (k + 1) := by rw [List.append_assoc]; rfl
def partW : SF := (seqS (setS 2 (opE addL (vR 2) (lstE (consA (cE (.int 1)) (consA (negE (cE (.int 1))) nilA))))) nxS)
abbrev tE (a b : Int) (s : List Int) : SEnv := [.sh (.int a), .sh (.int b), .sh (.lst (s.map .int))]
theorem part_loop (many total : Nat) (st : PV) (hm : many ≤ 200) : ∀ (k f : Nat) (s : List Int), s.length + 2 * k = many → k + 1 ≤ f →
    whileL (cmpT ltP (biE lenP (consA (vR 2) nilA)) (vR 0)) partW f (tE many total s) st = .nx (tE many total (s ++ pad k)) st
  | k, 0, s, _, hf => absurd hf (by omega)
  | 0, f + 1, s, h, _ => by
    have e : cmpT ltP (biE lenP (consA (vR 2) nilA)) (vR 0) (tE many total s) st = .ok false st := by
      have : ¬ ((s.length : Nat) : Int) < (many : Int) := by omega
      simp [lenP, this]
    rw [while_end e]
    simp [pad]
  | k + 1, f + 1, s, h, hf => by
    have hs : sizeLine = 16777216 := sizeLine_eq
    have e : cmpT ltP (biE lenP (consA (vR 2) nilA)) (vR 0) (tE many total s) st = .ok true st := by
      have : ((s.length : Nat) : Int) < (many : Int) := by omega
      simp [lenP, this]
    have d1 : opE addL (vR 2) (lstE (consA (cE (.int 1)) (consA (negE (cE (.int 1))) nilA))) (tE many total s) st = .ok (.lst ((s ++ [1, -1]).map .int)) st := by
      have hz : s.length + 2 ≤ sizeLine := by omega
      have k1 : addL (.lst (s.map .int)) (.lst [.int 1, .int (-1)]) = some (.lst ((s ++ [1, -1]).map .int)) := by
        show (if (s.map PV.int).length + 2 ≤ sizeLine then _ else _) = _
        rw [if_pos (by simpa using hz)]
        simp
      exact op_ok (a := .lst (s.map .int)) (b := .lst [.int 1, .int (-1)]) (st1 := st) rfl (by simp [s2]) k1
    have e1 : partW (tE many total s) st = .nx (tE many total (s ++ [1, -1])) st := seq_nx (set_ok d1) rfl
    have ih := part_loop many total st hm k f (s ++ [1, -1]) (by rw [List.length_append]; simp; omega) (by omega)
    rw [pad_app] at ih
    exact while_nx e e1 ih
theorem parts_eq : g_small_parts = (seqS (setS 2 (lstE nilA)) (seqS (ifS (cmpT neP (opE modP (vR 0) (cE (.int 2))) (vR 1)) (seqS (setS 2 (ifE (cmpT eqP (vR 1) (cE (.int 1))) (lstE (consA (cE (.int 2)) (consA (negE (cE (.int 1))) nilA))) (lstE (consA (cE (.int 1)) (consA (cE (.int 1)) (consA (negE (cE (.int 2))) nilA)))))) nxS) (seqS (ifS (cmpT eqP (vR 1) (cE (.int 1))) (seqS (setS 2 (lstE (consA (cE (.int 1)) nilA))) nxS) nxS) nxS)) (seqS (fun env st => whileL (cmpT ltP (biE lenP (consA (vR 2) nilA)) (vR 0)) partW 100 env st) (seqS (retS (vE 2)) nxS)))) := rfl
theorem c_parts (many total : Nat) (ht : total ≤ 1) (h1 : 0 < many) (h3 : ¬ (many = 1 ∧ total = 0)) (hz : many ≤ 150) (st : PV) : ∃ ps : List Int, ps.length = many ∧ ps.sum = (total : Int) ∧ (∀ x ∈ ps, x ≠ 0 ∧ -2 ≤ x ∧ x ≤ 2) ∧ callK fi_small_parts [.int (many : Int), .int (total : Int)] st = .ok (.lst (ps.map .int)) st := by
  have hs : sizeLine = 16777216 := sizeLine_eq
  have km : modP (.int (many : Int)) (.int 2) = some (.int ((many % 2 : Nat) : Int)) := by
    rw [modP_int _ _ (by decide), Int.fmod_eq_emod_of_nonneg _ (by omega)]
    rfl
  have main : ∀ (s : List Int) (k : Nat), s.length + 2 * k = many → s.sum = (total : Int) → (∀ x ∈ s, x ≠ 0 ∧ -2 ≤ x ∧ x ≤ 2) →
      (ifS (cmpT neP (opE modP (vR 0) (cE (.int 2))) (vR 1)) (seqS (setS 2 (ifE (cmpT eqP (vR 1) (cE (.int 1))) (lstE (consA (cE (.int 2)) (consA (negE (cE (.int 1))) nilA))) (lstE (consA (cE (.int 1)) (consA (cE (.int 1)) (consA (negE (cE (.int 2))) nilA)))))) nxS) (seqS (ifS (cmpT eqP (vR 1) (cE (.int 1))) (seqS (setS 2 (lstE (consA (cE (.int 1)) nilA))) nxS) nxS) nxS)) (tE many total []) .non = .nx (tE many total s) .non →
      ∃ ps : List Int, ps.length = many ∧ ps.sum = (total : Int) ∧ (∀ x ∈ ps, x ≠ 0 ∧ -2 ≤ x ∧ x ≤ 2) ∧ callK fi_small_parts [.int (many : Int), .int (total : Int)] st = .ok (.lst (ps.map .int)) st := fun s k hk hsum hall he => by
    refine ⟨s ++ pad k, by rw [List.length_append, pad_len]; omega, by rw [List.sum_append, pad_sum, hsum]; omega, fun x hx => ?_, ?_⟩
    · rcases List.mem_append.mp hx with hx | hx
      · exact hall x hx
      · rcases pad_mem k x hx with rfl | rfl <;> decide
    · have e0 : lstE nilA [.sh (.int (many : Int)), .sh (.int (total : Int)), .dead] .non = .ok (.lst []) .non := by simp
      have hL := part_loop many total .non (by omega) k 100 s hk (by omega)
      have e : g_small_parts [.sh (.int (many : Int)), .sh (.int (total : Int)), .dead] .non = .ret (.lst ((s ++ pad k).map .int)) false (tE many total (s ++ pad k)) .non := by
        rw [parts_eq]
        exact seq_nx (set_ok e0) (seq_nx he (seq_nx hL (seq_ret (ret_ok rfl))))
      have e3 : fi_small_parts.sem [.int (many : Int), .int (total : Int)] .non = .ok (.lst ((s ++ pad k).map .int)) .non := sem_ok e (fun h => by cases h)
      rw [callK_val, e3]
  by_cases ht1 : total = 1
  · subst ht1
    by_cases hp : many % 2 = 1
    · refine main [1] (many / 2) (by simp; omega) rfl (by decide) ?_
      have : ((many % 2 : Nat) : Int) = 1 := by omega
      rw [this] at km
      simp [km, neP_int, eqP_int, s1]
    · refine main [2, -1] (many / 2 - 1) (by simp; omega) rfl (by decide) ?_
      have : ((many % 2 : Nat) : Int) = 0 := by omega
      rw [this] at km
      simp [km, neP_int, eqP_int, s2]
  · have ht0 : total = 0 := by omega
    subst ht0
    by_cases hp : many % 2 = 1
    · refine main [1, 1, -2] (many / 2 - 1) (by simp; omega) rfl (by decide) ?_
      have : ((many % 2 : Nat) : Int) = 1 := by omega
      rw [this] at km
      simp [km, neP_int, eqP_int, s3]
    · refine main [] (many / 2) (by simp; omega) rfl (by decide) ?_
      have : ((many % 2 : Nat) : Int) = 0 := by omega
      rw [this] at km
      simp [km, neP_int, eqP_int]
end KI.K13

/-! part P13c -/
set_option Elab.async false
set_option linter.all false
set_option maxRecDepth 100000
set_option maxHeartbeats 2000000
namespace KI.K13
open PySem PySem.Spec PyProof.Rows L2 KI
/-! ## comprehensions over given items -/
theorem lcL_fil {α : Type} {t : GF} {c : TF} {e : EF} {env : SEnv} {st : PV} (P Q : α → PV) (f : α → Bool) : ∀ xs : List α, (∀ x ∈ xs, ∃ env1, t (P x) env = some env1 ∧ c env1 st = .ok (f x) st ∧ (f x = true → e env1 st = .ok (Q x) st)) → lcL t c e env (xs.map P) st = .ok ((xs.filter f).map Q) st
  | [], _ => rfl
  | x :: xs, h => by
    obtain ⟨env1, h1, h2, h3⟩ := h x List.mem_cons_self
    have ih := lcL_fil P Q f xs fun q hq => h q (List.mem_cons_of_mem _ hq)
    rw [List.map_cons]
    unfold lcL
    rw [h1]
    dsimp only
    rw [h2, ER.bind_ok]
    cases hf : f x with
    | true => rw [if_pos rfl, h3 hf, ER.bind_ok, ih, ER.bind_ok, List.filter_cons_of_pos hf]; rfl
    | false => rw [if_neg Bool.false_ne_true, ih, List.filter_cons_of_neg (by rw [hf]; decide)]
theorem lcL_map {α : Type} {t : GF} {e : EF} {env : SEnv} {st : PV} (P Q : α → PV) (xs : List α) (h : ∀ x ∈ xs, ∃ env1, t (P x) env = some env1 ∧ e env1 st = .ok (Q x) st) : lcL t yesT e env (xs.map P) st = .ok (xs.map Q) st := by
  rw [lcL_fil P Q (fun _ => true) xs fun x hx => by
    obtain ⟨env1, h1, h2⟩ := h x hx
    exact ⟨env1, h1, rfl, fun _ => h2⟩]
  rw [List.filter_eq_self.mpr fun _ _ => rfl]
theorem ix_ok {f g : EF} {env : SEnv} {st st1 st2 a z : PV} {k : Int} (h1 : f env st = .ok a st1) (h2 : g env st1 = .ok (.int k) st2) (h3 : ixP a (.int k) = some z) : opE ixP f g env st = .ok z st2 := op_ok h1 h2 h3
theorem tru_ok {f : EF} {env : SEnv} {st st1 p : PV} {b : Bool} (h : f env st = .ok p st1) (h2 : truP p = some b) : truT f env st = .ok b st1 := by
  rw [truT_ap, h, ER.bind_ok, h2]
theorem and_ok {f g : TF} {env : SEnv} {st st1 st2 : PV} {a b : Bool} (h : f env st = .ok a st1) (h2 : a = true → g env st1 = .ok b st2) (h3 : a = false → st2 = st1) : andT f g env st = .ok (a && b) st2 := by
  rw [andT_ap, h, ER.bind_ok]
  cases a with
  | true => rw [if_pos rfl, h2 rfl]; rfl
  | false => rw [if_neg Bool.false_ne_true, h3 rfl]; rfl
theorem or_ok {f g : TF} {env : SEnv} {st st1 st2 : PV} {a b : Bool} (h : f env st = .ok a st1) (h2 : a = false → g env st1 = .ok b st2) (h3 : a = true → st2 = st1) : orT f g env st = .ok (a || b) st2 := by
  rw [orT_ap, h, ER.bind_ok]
  cases a with
  | true => rw [if_pos rfl, h3 rfl]; rfl
  | false => rw [if_neg Bool.false_ne_true, h2 rfl]; rfl
theorem not_okT {f : TF} {env : SEnv} {st st1 : PV} {a : Bool} (h : f env st = .ok a st1) : notT f env st = .ok (!a) st1 := by rw [notT_ap, h, ER.bind_ok]
/-! ## marks within -/
theorem strOk_ch {c : Nat} (h : c < 117) : PyData.canLay0 (.str ⟨#[c]⟩) = true := by
  show PyData.strOk _ = true
  simp [PyData.strOk]; omega
theorem eq_ch {a c : Nat} (ha : a < 117) (hc : c < 117) : eqP (ch a) (ch c) = some (a == c) := by
  rw [eqP_str _ _ (strOk_ch ha) (strOk_ch hc)]
  by_cases e : a = c
  · subst e; simp
  · rw [show (a == c) = false from by simpa using e]
    simp [e]
def mrk (l lot : List Nat) (c : Nat) : List Nat := lot.filter fun j => mk l j == c
theorem c_marked {n : Nat} {l : List Nat} (h : LineOk n l) (hn : n ≤ sizeLine) {w : List Bool} (hw : w.length = n) {c : Nat} (hc : c < 117) (st : PV) :
    callK fi_marked_within [tx l, ch c, .lst (bls w)] st = .ok (.lst (nts (mrk l (whl n w) c))) st := by
  have e0 : mrk l (whl n w) c = (List.range n).filter fun j => (mk l j == c) && wh w j := by
    unfold mrk whl
    rw [List.filter_filter]
  have hl := h.1
  have hL : lcL (nameG 3) (andT (cmpT eqP (opE ixP (vR 0) (vR 3)) (vR 1)) (truT (opE ixP (vR 2) (vR 3)))) (vE 3) [.sh (tx l), .sh (ch c), .bor (.lst (bls w)), .dead] (nts (List.range n)) .non = .ok (nts (mrk l (whl n w) c)) .non := by
    rw [e0]
    refine lcL_fil (fun j : Nat => PV.int (j : Int)) (fun j : Nat => PV.int (j : Int)) (fun j => (mk l j == c) && wh w j) _ fun j hj => ?_
    have hj := List.mem_range.mp hj
    have m1 : mk l j < 117 := mark_lt (h.2.1 _ (mk_mem (by omega)))
    refine ⟨[.sh (tx l), .sh (ch c), .bor (.lst (bls w)), .sh (.int (j : Int))], rfl, ?_, fun _ => rfl⟩
    refine and_ok (cmp_ok (ix_ok (a := tx l) rfl rfl (ix_tx (by omega) (by omega))) (show vR 1 [.sh (tx l), .sh (ch c), .bor (.lst (bls w)), .sh (.int (j : Int))] .non = .ok (ch c) .non from rfl) (eq_ch m1 hc)) (fun _ => tru_ok (ix_ok (a := .lst (bls w)) rfl rfl (ix_bls (by omega))) rfl) (fun _ => rfl)
  have e : g_marked_within [.sh (tx l), .sh (ch c), .bor (.lst (bls w)), .dead] .non = .ret (.lst (nts (mrk l (whl n w) c))) false [.sh (tx l), .sh (ch c), .bor (.lst (bls w)), .dead] .non := by
    refine seq_ret (ret_ok (lc_ok (rng_ok (one_ok (bi_ok (one_ok (show vR 0 [.sh (tx l), .sh (ch c), .bor (.lst (bls w)), .dead] .non = .ok (tx l) .non from rfl)) (len_tx l (by omega)))) (rngP_nat (by omega))) rfl (by rw [len_rng]; omega) ?_))
    rw [hl]
    exact hL
  rw [callK_val, show fi_marked_within.sem [tx l, ch c, .lst (bls w)] .non = _ from sem_ok e (fun h => by cases h)]
/-! ## plain weights -/
def pv (c : Nat) : Int := if c = 102 then 1 else if c = 116 then -1 else 0
abbrev plainP : PV := .dct (([(".", 0), ("f", 1), ("l", 0), ("t", -1)] : List (Str × Int)).map fun q => .inr q.1) (([(".", 0), ("f", 1), ("l", 0), ("t", -1)] : List (Str × Int)).map fun q => .int q.2)
theorem c_plain {c : Nat} (h : c = 46 ∨ touched c = true) : dgetP plainP (ch c) = some (.int (pv c)) := by
  have : c = 46 ∨ c = 102 ∨ c = 108 ∨ c = 116 := by
    rcases h with h | h
    · exact .inl h
    · simp only [touched, Bool.or_eq_true, beq_iff_eq] at h; omega
  rcases this with rfl | rfl | rfl | rfl <;> rfl
theorem chrs_eq (l : List Nat) : chrs ⟨l.toArray⟩ = l.map ch := by unfold chrs; simp
theorem vat_map {l : List Nat} {j : Nat} (h : j < l.length) : vat (l.map pv) j = pv (mk l j) := by
  unfold vat mk
  simp [h]
/-! ## parts of a lot -/
theorem sm_parts (f : Nat → Int) (l : List Nat) : ∀ lot : List Nat, (∀ j ∈ lot, mk l j = 46 ∨ touched (mk l j) = true) → sm f lot = sm f (mrk l lot 46) + sm f (mrk l lot 102) + sm f (mrk l lot 108) + sm f (mrk l lot 116)
  | [], _ => rfl
  | a :: lot, h => by
    have ih := sm_parts f l lot fun j hj => h j (List.mem_cons_of_mem _ hj)
    have ha : mk l a = 46 ∨ mk l a = 102 ∨ mk l a = 108 ∨ mk l a = 116 := by
      rcases h a List.mem_cons_self with h | h
      · exact .inl h
      · simp only [touched, Bool.or_eq_true, beq_iff_eq] at h; omega
    unfold mrk at ih ⊢
    rw [sm_cons, ih]
    rcases ha with ha | ha | ha | ha <;> simp [List.filter_cons, ha, sm_cons] <;> omega
theorem hard_parts (l : List Nat) : ∀ lot : List Nat, (lot.filter fun j => hard (mk l j)).length = (mrk l lot 102).length + (mrk l lot 116).length
  | [] => rfl
  | a :: lot => by
    have ih := hard_parts l lot
    unfold mrk at ih ⊢
    unfold hard at ih ⊢
    by_cases h1 : mk l a = 102
    · simp [List.filter_cons, h1]; omega
    · by_cases h2 : mk l a = 116
      · simp [List.filter_cons, h2]; omega
      · simp [List.filter_cons, h1, h2]; simpa using ih
theorem mem_mrk {l lot : List Nat} {c j : Nat} : j ∈ mrk l lot c ↔ j ∈ lot ∧ mk l j = c := by
  unfold mrk
  rw [List.mem_filter]
  simp
theorem count_idx (c : Nat) : ∀ l : List Nat, ((List.range l.length).filter fun j => mk l j == c).length = l.count c
  | [] => rfl
  | a :: l => by
    have ih := count_idx c l
    rw [List.length_cons, List.range_succ_eq_map, List.filter_cons, List.filter_map]
    have e : ((fun j => mk (a :: l) j == c) ∘ Nat.succ) = fun j => mk l j == c := rfl
    rw [e]
    have e2 : (mk (a :: l) 0 == c) = (a == c) := rfl
    rw [e2, List.count_cons]
    by_cases h : a = c
    · simp [h, ih]
    · simp [h, ih]
theorem told_one {n : Nat} {l : List Nat} (h : LineOk n l) {lot : List Nat} (hl : Lot n lot) : (mrk l lot 116).length ≤ 1 := by
  have h1 : (mrk l lot 116).Sublist ((List.range l.length).filter fun j => mk l j == 116) := by
    rw [h.1]
    exact List.Sublist.filter _ hl
  have := h1.length_le
  rw [count_idx] at this
  have := h.2.2
  omega
/-- what the law asks of a row -/
def RowOk (l : List Nat) (v : List Int) : Prop := v.length = l.length ∧ ∀ j, j < l.length → -2 ≤ vat v j ∧ vat v j ≤ 2 ∧ (mk l j = 46 → vat v j = 0) ∧ (mk l j = 102 → vat v j ≠ 0) ∧ (mk l j = 116 → vat v j = -1)
theorem row0 {n : Nat} {l : List Nat} (h : LineOk n l) : RowOk l (l.map pv) := by
  refine ⟨by simp, fun j hj => ?_⟩
  rw [vat_map hj]
  unfold pv
  split
  · rename_i e; rw [e]; decide
  · split
    · rename_i e; rw [e]; decide
    · rename_i e1 e2; exact ⟨by decide, by decide, fun _ => rfl, fun z => absurd z e1, fun z => absurd z e2⟩
theorem row_set {l : List Nat} {v : List Int} (h : RowOk l v) {a : Nat} (ha : a < l.length) (c : Int) (hc : -2 ≤ c ∧ c ≤ 2) (hm : mk l a = 108 ∨ (mk l a = 102 ∧ c ≠ 0)) : RowOk l (v.set a c) := by
  refine ⟨by rw [List.length_set]; exact h.1, fun j hj => ?_⟩
  rw [vat_set (by rw [h.1]; exact ha)]
  by_cases e : a = j
  · subst e
    rw [if_pos rfl]
    refine ⟨hc.1, hc.2, fun z => ?_, fun z => ?_, fun z => ?_⟩ <;> omega
  · rw [if_neg e]
    exact h.2 j hj
theorem row_setZ {l : List Nat} : ∀ (as : List Nat) (ps : List Int) (v : List Int), RowOk l v → (∀ a ∈ as, a < l.length ∧ mk l a = 102) → (∀ x ∈ ps, x ≠ 0 ∧ -2 ≤ x ∧ x ≤ 2) → RowOk l (setZ v as ps)
  | [], _, v, h, _, _ => by simpa [setZ] using h
  | _ :: _, [], v, h, _, _ => by simpa [setZ] using h
  | a :: as, p :: ps, v, h, ha, hp => by
    rw [setZ]
    have h1 := ha a List.mem_cons_self
    have h2 := hp p List.mem_cons_self
    exact row_setZ as ps _ (row_set h h1.1 p h2.2 (.inr ⟨h1.2, h2.1⟩)) (fun b hb => ha b (List.mem_cons_of_mem _ hb)) (fun b hb => hp b (List.mem_cons_of_mem _ hb))
end KI.K13

/-! part P13d -/
set_option Elab.async false
set_option linter.all false
set_option maxRecDepth 100000
set_option maxHeartbeats 2000000
namespace KI.K13
open PySem PySem.Spec PyProof.Rows L2 KI
abbrev ivs (v : List Int) : PV := .lst (v.map .int)
/-! ## small_row -/
def zipB : SF := (seqS (setIx 3 (vE 9) (vE 8)) (fun env st => .nx (killS [8, 9] env) st))
abbrev wE (l : List Nat) (w : List Bool) (v : List Int) (L T F : List Nat) : SEnv := [.sh (tx l), .sh (.lst (bls w)), .sh plainP, .own (ivs v), .sh (.lst (nts L)), .sh (.lst (nts T)), .sh (.lst (nts F)), .dead, .dead, .dead]
def condS : SF := (ifS (andT (truT (vR 4)) (cmpT eqP (opE addP (biE lenP (consA (vR 5) nilA)) (biE lenP (consA (vR 6) nilA))) (cE (.int 1)))) (seqS (setIx 3 (ifE (truT (vR 5)) (cE (.int 1)) (negE (cE (.int 1)))) (opE ixP (vR 4) (cE (.int 0)))) nxS) (seqS (ifS (truT (vR 6)) (seqS (forS (zipA (consA (vE 6) (consA (callE fi_small_parts [] (consA (biE lenP (consA (vR 6) nilA)) (consA (biE lenP (consA (vR 5) nilA)) nilA))) nilA))) (pairG 8 9) zipB) nxS) nxS) nxS))
theorem row_eq : g_small_row = (seqS (setS 2 (fun _ st => .ok plainP st)) (seqS (setO 3 (lcE [7] (seqA (vE 0)) (nameG 7) yesT (opE dgetP (vR 2) (vR 7)))) (seqS (setS 4 (callE fi_marked_within [] (consA (vE 0) (consA (cE (.str "l")) (consA (vR 1) nilA))))) (seqS (setS 5 (callE fi_marked_within [] (consA (vE 0) (consA (cE (.str "t")) (consA (vR 1) nilA))))) (seqS (setS 6 (callE fi_marked_within [] (consA (vE 0) (consA (cE (.str "f")) (consA (vR 1) nilA))))) (seqS condS (seqS (retS (biE tupleP (consA (vR 3) nilA))) nxS))))))) := rfl
theorem zip_loop (l : List Nat) (w : List Bool) (L T F : List Nat) (st : PV) : ∀ (as : List Nat) (ps v : List Int), as.length = ps.length → (∀ a ∈ as, a < v.length) →
    forL (pairG 8 9) zipB (zipPs (nts as) (ps.map .int)) (wE l w v L T F) st = .nx (wE l w (setZ v as ps) L T F) st
  | [], ps, v, _, _ => by
    have : setZ v [] ps = v := by simp [setZ]
    rw [this]
    rfl
  | a :: as, [], v, h, _ => by simp at h
  | a :: as, p :: ps, v, h, ha => by
    have ih := zip_loop l w L T F st as ps (v.set a p) (by simpa using h) fun b hb => by rw [List.length_set]; exact ha b (List.mem_cons_of_mem _ hb)
    have h1 := ha a List.mem_cons_self
    have e : zipB [.sh (tx l), .sh (.lst (bls w)), .sh plainP, .own (ivs v), .sh (.lst (nts L)), .sh (.lst (nts T)), .sh (.lst (nts F)), .dead, .sh (.int (a : Int)), .sh (.int p)] st = .nx (wE l w (v.set a p) L T F) st := by
      have k1 : ixN (v.map PV.int).length (a : Int) = some a := ixN_nat (by simpa using h1)
      refine seq_nx (g1 := setIx 3 (vE 9) (vE 8)) (env' := [.sh (tx l), .sh (.lst (bls w)), .sh plainP, .own (ivs (v.set a p)), .sh (.lst (nts L)), .sh (.lst (nts T)), .sh (.lst (nts F)), .dead, .sh (.int (a : Int)), .sh (.int p)]) (st' := st) ?_ rfl
      show (match ixN (v.map PV.int).length (a : Int) with
        | some j => SR.nx _ st
        | none => .stuck) = _
      rw [k1]
      show SR.nx [_, _, _, Slot.own (.lst ((v.map PV.int).set a (.int p))), _, _, _, _, _, _] st = _
      rw [← List.map_set]
    exact forL_nx (p := .tup [.int (a : Int), .int p]) rfl e ih
theorem tru_nts (xs : List Nat) : truP (.lst (nts xs)) = some (!xs.isEmpty) := by cases xs <;> rfl
theorem len_nts {xs : List Nat} (h : xs.length ≤ sizeLine) : lenP [.lst (nts xs)] = some (.int (xs.length : Nat)) := by
  show some (PV.int ((nts xs).length : Nat)) = _
  simp
theorem nodup_mrk {l lot : List Nat} (h : lot.Nodup) (c : Nat) : (mrk l lot c).Nodup := h.filter _
theorem lone_case {l lot : List Nat} (h : loneR l lot = none) (hL : mrk l lot 108 = []) : (mrk l lot 102).length + (mrk l lot 116).length ≠ 1 := fun z => by
  rw [lone_eq] at h
  have h1 := hard_parts l lot
  have hL' : lot.filter (fun j => mk l j == 108) = [] := hL
  rw [hL'] at h
  rw [z] at h1
  match e : lot.filter fun j => hard (mk l j), h1 with
  | [j], _ => rw [e] at h; cases h
/-- the weights of a row: how it ends -/
theorem cond_row {n : Nat} {l : List Nat} (h : LineOk n l) (hn : n ≤ 150) {w : List Bool} (hw : w.length = n) (hl : loneR l (whl n w) = none) :
    ∃ v : List Int, RowOk l v ∧ sm (vat v) (whl n w) = 0 ∧ condS (wE l w (l.map pv) (mrk l (whl n w) 108) (mrk l (whl n w) 116) (mrk l (whl n w) 102)) .non = .nx (wE l w v (mrk l (whl n w) 108) (mrk l (whl n w) 116) (mrk l (whl n w) 102)) .non := by
  have hs : sizeLine = 16777216 := sizeLine_eq
  have hlot := whl_lot n w
  have hll := h.1
  generalize whl n w = lot at hl hlot ⊢
  have hlen := hlot.len
  have hT := told_one h hlot
  have hlt : ∀ j ∈ lot, j < l.length := fun j hj => by rw [hll]; exact hlot.lt hj
  have hmk : ∀ j ∈ lot, mk l j = 46 ∨ touched (mk l j) = true := fun j hj => h.2.1 _ (mk_mem (hlt j hj))
  have hz : ∀ c, (mrk l lot c).length ≤ n := fun c => Nat.le_trans (List.length_filter_le _ _) hlen
  have h0 := row0 h
  have v0 : ∀ c, ∀ j ∈ mrk l lot c, vat (l.map pv) j = pv c := fun c j hj => by
    obtain ⟨q1, q2⟩ := mem_mrk.mp hj
    rw [vat_map (hlt j q1), q2]
  have sP := fun v : List Int => sm_parts (vat v) l lot hmk
  have nd := fun c => nodup_mrk (l := l) hlot.nd c
  have hzT := hz 116
  have hzF := hz 102
  have hzL := hz 108
  have hlone := lone_case hl
  -- lists of marks
  have mT : ∀ j ∈ mrk l lot 116, mk l j = 116 := fun j hj => (mem_mrk.mp hj).2
  have mF : ∀ j ∈ mrk l lot 102, j < l.length ∧ mk l j = 102 := fun j hj => ⟨hlt j (mem_mrk.mp hj).1, (mem_mrk.mp hj).2⟩
  have mL : ∀ j ∈ mrk l lot 108, j < l.length ∧ mk l j = 108 := fun j hj => ⟨hlt j (mem_mrk.mp hj).1, (mem_mrk.mp hj).2⟩
  have mD : ∀ j ∈ mrk l lot 46, mk l j = 46 := fun j hj => (mem_mrk.mp hj).2
  have v0T := v0 116
  have v0F := v0 102
  have v0L := v0 108
  have v0D := v0 46
  have ndL := nd 108
  have ndF := nd 102
  generalize mrk l lot 116 = T at *
  generalize mrk l lot 102 = F at *
  generalize mrk l lot 108 = L at *
  generalize mrk l lot 46 = D at *
  have r5 : ∀ v, vR 5 (wE l w v L T F) .non = .ok (.lst (nts T)) .non := fun _ => rfl
  have r6 : ∀ v, vR 6 (wE l w v L T F) .non = .ok (.lst (nts F)) .non := fun _ => rfl
  have r4 : ∀ v, vR 4 (wE l w v L T F) .non = .ok (.lst (nts L)) .non := fun _ => rfl
  have l5 : biE lenP (consA (vR 5) nilA) (wE l w (l.map pv) L T F) .non = .ok (.int (T.length : Nat)) .non := bi_ok (one_ok (r5 _)) (len_nts (by omega))
  have l6 : biE lenP (consA (vR 6) nilA) (wE l w (l.map pv) L T F) .non = .ok (.int (F.length : Nat)) .non := bi_ok (one_ok (r6 _)) (len_nts (by omega))
  have c1 : andT (truT (vR 4)) (cmpT eqP (opE addP (biE lenP (consA (vR 5) nilA)) (biE lenP (consA (vR 6) nilA))) (cE (.int 1))) (wE l w (l.map pv) L T F) .non = .ok (!L.isEmpty && ((T.length : Int) + (F.length : Int) == 1)) .non :=
    and_ok (tru_ok (r4 _) (tru_nts L)) (fun _ => cmp_ok (op_ok l5 l6 (addP_int _ _)) rfl (eqP_int _ _)) (fun _ => rfl)
  have p116 : pv 116 = -1 := rfl
  have p102 : pv 102 = 1 := rfl
  have p108 : pv 108 = 0 := rfl
  have p46 : pv 46 = 0 := rfl
  rw [p116] at v0T
  rw [p102] at v0F
  rw [p108] at v0L
  rw [p46] at v0D
  cases hc : (!L.isEmpty && ((T.length : Int) + (F.length : Int) == 1)) with
  | true =>
    rw [hc] at c1
    simp only [Bool.and_eq_true, beq_iff_eq] at hc
    obtain ⟨hc1, hc2⟩ := hc
    match L, hc1 with
    | a :: L', _ =>
      have ha := mL a List.mem_cons_self
      have hnd := ndL
      obtain ⟨cc, hcc, hcr, hif⟩ : ∃ cc : Int, cc = (T.length : Int) - (F.length : Int) ∧ (-2 ≤ cc ∧ cc ≤ 2) ∧ ifE (truT (vR 5)) (cE (.int 1)) (negE (cE (.int 1))) (wE l w (l.map pv) (a :: L') T F) .non = .ok (.int cc) .non := by
        cases T with
        | nil =>
          refine ⟨-1, by simp at hc2 ⊢; omega, by decide, ?_⟩
          rw [ifE_ap, tru_ok (r5 _) (tru_nts [])]
          rfl
        | cons t T' =>
          refine ⟨1, by simp at hc2 hT ⊢; omega, by decide, ?_⟩
          rw [ifE_ap, tru_ok (r5 _) (tru_nts (t :: T'))]
          rfl
      refine ⟨(l.map pv).set a cc, row_set h0 ha.1 cc hcr (.inl ha.2), ?_, ?_⟩
      · have va : ∀ j, vat ((l.map pv).set a cc) j = if a = j then cc else vat (l.map pv) j := fun j => vat_set (by rw [List.length_map]; exact ha.1) cc j
        have ne : ∀ j, mk l j ≠ 108 → vat ((l.map pv).set a cc) j = vat (l.map pv) j := fun j hj => by
          rw [va, if_neg]
          intro z
          exact hj (z ▸ ha.2)
        rw [sP, sm_const (c := 0) (lot := D) fun j hj => by rw [ne j (by rw [mD j hj]; decide), v0D j hj], sm_const (c := 1) (lot := F) fun j hj => by rw [ne j (by rw [(mF j hj).2]; decide), v0F j hj], sm_const (c := -1) (lot := T) fun j hj => by rw [ne j (by rw [mT j hj]; decide), v0T j hj], sm_cons, va a, if_pos rfl, sm_const (c := 0) (lot := L') fun j hj => by
          rw [va j, if_neg, v0L j (List.mem_cons_of_mem _ hj)]
          intro z
          rw [List.nodup_cons] at hnd
          exact hnd.1 (z ▸ hj)]
        omega
      · refine if_ok c1 ?_
        rw [if_pos rfl]
        refine seq_nx (env' := wE l w ((l.map pv).set a cc) (a :: L') T F) (st' := .non) ?_ rfl
        rw [setIx_ap]
        show liftS (ifE (truT (vR 5)) (cE (.int 1)) (negE (cE (.int 1))) (wE l w (l.map pv) (a :: L') T F) .non) _ _ = _
        rw [hif, lift_ok]
        have k2 : opE ixP (vR 4) (cE (.int 0)) (wE l w (l.map pv) (a :: L') T F) .non = .ok (.int (a : Int)) .non := op_ok (r4 _) rfl (by exact ix_nts (i := 0) (xs := a :: L') rfl)
        rw [k2, lift_ok]
        have k1 : ixN ((l.map pv).map PV.int).length (a : Int) = some a := ixN_nat (by simpa using ha.1)
        show (match ixN ((l.map pv).map PV.int).length (a : Int) with
          | some j => SR.nx _ PV.non
          | none => .stuck) = _
        rw [k1]
        show SR.nx [_, _, _, Slot.own (.lst (((l.map pv).map PV.int).set a (.int cc))), _, _, _, _, _, _] PV.non = _
        rw [← List.map_set]
  | false =>
    rw [hc] at c1
    have main : ∀ v, seqS (ifS (truT (vR 6)) (seqS (forS (zipA (consA (vE 6) (consA (callE fi_small_parts [] (consA (biE lenP (consA (vR 6) nilA)) (consA (biE lenP (consA (vR 5) nilA)) nilA))) nilA))) (pairG 8 9) zipB) nxS) nxS) nxS (wE l w (l.map pv) L T F) .non = .nx (wE l w v L T F) .non → condS (wE l w (l.map pv) L T F) .non = .nx (wE l w v L T F) .non := fun v hv => by
      refine if_ok c1 ?_
      rw [if_neg Bool.false_ne_true]
      exact hv
    have c2 := tru_ok (r6 (l.map pv)) (tru_nts F)
    by_cases hF : F = []
    · subst hF
      refine ⟨l.map pv, h0, ?_, main _ (seq_nx (if_ok c2 rfl) rfl)⟩
      have hT0 : T.length = 0 := by
        by_cases hL : L = []
        · have := hlone hL
          simp at this
          simp
          match T, hT, this with
          | [], _, _ => rfl
          | [a], _, z => exact absurd rfl z
        · have : L.isEmpty = false := by simpa using hL
          rw [this] at hc
          simp at hc
          match T, hT, hc with
          | [], _, _ => rfl
          | [a], _, z => exact absurd rfl z
      rw [sP, sm_const (c := 0) v0D, sm_const (c := 1) v0F, sm_const (c := 0) v0L, sm_const (c := -1) v0T, hT0]
      simp
    · have hFl : 0 < F.length := by
        cases F with
        | nil => exact absurd rfl hF
        | cons _ _ => simp
      have hne : ¬ (F.length = 1 ∧ T.length = 0) := fun ⟨z1, z2⟩ => by
        by_cases hL : L = []
        · have := hlone hL
          omega
        · have : L.isEmpty = false := by simpa using hL
          rw [this, z1, z2] at hc
          simp at hc
      obtain ⟨ps, q1, q2, q3, q4⟩ := c_parts F.length T.length hT hFl hne (by omega) .non
      have hFlt : ∀ a ∈ F, a < (l.map pv).length := fun a ha => by rw [List.length_map]; exact (mF a ha).1
      refine ⟨setZ (l.map pv) F ps, row_setZ F ps _ h0 mF q3, ?_, main _ ?_⟩
      · have out : ∀ j, mk l j ≠ 102 → vat (setZ (l.map pv) F ps) j = vat (l.map pv) j := fun j hj => setZ_out F ps _ j hFlt fun z => hj (mF j z).2
        have hin := setZ_in F ps (l.map pv) ndF q1.symm hFlt
        rw [sP, sm_const (c := 0) (lot := D) fun j hj => by rw [out j (by rw [mD j hj]; decide), v0D j hj], sm_const (c := 0) (lot := L) fun j hj => by rw [out j (by rw [(mL j hj).2]; decide), v0L j hj], sm_const (c := -1) (lot := T) fun j hj => by rw [out j (by rw [mT j hj]; decide), v0T j hj]]
        unfold sm
        rw [hin, q2]
        omega
      · have hFe : F.isEmpty = false := by simpa using hF
        rw [hFe] at c2
        refine seq_nx (if_ok c2 (by
          rw [show (!false) = true from rfl, if_pos rfl]
          refine seq_nx (for_ok (f := zipA (consA (vE 6) (consA (callE fi_small_parts [] (consA (biE lenP (consA (vR 6) nilA)) (consA (biE lenP (consA (vR 5) nilA)) nilA))) nilA))) (ps := zipPs (nts F) (ps.map .int)) (st1 := .non) ?_ (zip_loop l w L T F .non F ps _ q1.symm hFlt)) rfl
          have ha : consA (vE 6) (consA (callE fi_small_parts [] (consA (biE lenP (consA (vR 6) nilA)) (consA (biE lenP (consA (vR 5) nilA)) nilA))) nilA) (wE l w (l.map pv) L T F) .non = .ok [.lst (nts F), .lst (ps.map .int)] .non :=
            cons_ok rfl (one_ok (call_ok (cons_ok l6 (one_ok l5)) q4))
          unfold zipA
          rw [ha, ER.bind_ok]
          rfl)) rfl
theorem lit_dot' : (PV.str ".") = ch 46 := by rw [lit_dot]
theorem lit_l' : (PV.str "l") = ch 108 := by rw [lit_l]
theorem lit_t' : (PV.str "t") = ch 116 := by rw [lit_t]
theorem lit_f' : (PV.str "f") = ch 102 := by rw [lit_f]
theorem c_small_row {n : Nat} {l : List Nat} (h : LineOk n l) (hn : n ≤ 150) {w : List Bool} (hw : w.length = n) (hl : loneR l (whl n w) = none) (st : PV) :
    ∃ v : List Int, RowOk l v ∧ sm (vat v) (whl n w) = 0 ∧ callK fi_small_row [tx l, .lst (bls w)] st = .ok (.tup (v.map .int)) st := by
  have hs : sizeLine = 16777216 := sizeLine_eq
  obtain ⟨v, v1, v2, v3⟩ := cond_row h hn hw hl
  refine ⟨v, v1, v2, ?_⟩
  have hll := h.1
  have hL : lcL (nameG 7) yesT (opE dgetP (vR 2) (vR 7)) [.sh (tx l), .sh (.lst (bls w)), .sh plainP, .dead, .dead, .dead, .dead, .dead, .dead, .dead] (l.map ch) .non = .ok (l.map fun c => PV.int (pv c)) .non :=
    lcL_map ch (fun c => PV.int (pv c)) l fun c hc => ⟨[.sh (tx l), .sh (.lst (bls w)), .sh plainP, .dead, .dead, .dead, .dead, .sh (ch c), .dead, .dead], rfl, op_ok rfl rfl (c_plain (h.2.1 c hc))⟩
  have m := fun c (hc : c < 117) => c_marked h (by omega) hw hc .non
  have e1 : lcE [7] (seqA (vE 0)) (nameG 7) yesT (opE dgetP (vR 2) (vR 7)) [.sh (tx l), .sh (.lst (bls w)), .sh plainP, .dead, .dead, .dead, .dead, .dead, .dead, .dead] .non = .ok (ivs (l.map pv)) .non := by
    have : ivs (l.map pv) = .lst (l.map fun c => PV.int (pv c)) := by unfold ivs; rw [List.map_map]; rfl
    rw [this]
    exact lc_ok (seqA_ok rfl (by show some (chrs ⟨l.toArray⟩) = _; rw [chrs_eq])) rfl (by rw [List.length_map]; omega) hL
  have mm : ∀ (x : Str) (c : Nat) (hx : PV.str x = ch c) (hc : c < 117) (env : SEnv), vE 0 env .non = .ok (tx l) .non → vR 1 env .non = .ok (.lst (bls w)) .non → callE fi_marked_within [] (consA (vE 0) (consA (cE (.str x)) (consA (vR 1) nilA))) env .non = .ok (.lst (nts (mrk l (whl n w) c))) .non := fun x c hx hc env he he2 => by
    refine call_ok (cons_ok he (cons_ok (show cE (.str x) env .non = .ok (ch c) .non from by rw [← hx]; rfl) (one_ok he2))) ?_
    exact m c hc
  have e : g_small_row [.sh (tx l), .sh (.lst (bls w)), .dead, .dead, .dead, .dead, .dead, .dead, .dead, .dead] .non = .ret (.tup (v.map .int)) false (wE l w v (mrk l (whl n w) 108) (mrk l (whl n w) 116) (mrk l (whl n w) 102)) .non := by
    rw [row_eq]
    exact seq_nx (set_ok rfl) (seq_nx (setO_ok e1) (seq_nx (set_ok (mm "l" 108 lit_l' (by decide) _ rfl rfl)) (seq_nx (set_ok (mm "t" 116 lit_t' (by decide) _ rfl rfl)) (seq_nx (set_ok (mm "f" 102 lit_f' (by decide) _ rfl rfl)) (seq_nx v3 (seq_ret (ret_ok (bi_ok (one_ok rfl) rfl))))))))
  have e3 : fi_small_row.sem [tx l, .lst (bls w)] .non = .ok (.tup (v.map .int)) .non := sem_ok e (fun h => by cases h)
  rw [callK_val, e3]
end KI.K13

/-! part P13e -/
set_option Elab.async false
set_option linter.all false
set_option maxRecDepth 100000
set_option maxHeartbeats 2000000
namespace KI.K13
open PySem PySem.Spec PyProof.Rows L2 KI
theorem set_exc {i : Nat} {f : EF} {env : SEnv} {st st1 : PV} {c : Str} {ns : List Str} {ps : List PV} (h : f env st = .exc c ns ps st1) : setS i f env st = .exc c ns ps env st1 := by
  rw [setS_ap, h]; rfl
theorem sem_exc {ms : List Md} {own : Bool} {n : Nat} {g : SF} {ps : List PV} {st st1 : PV} {env1 : SEnv} {c : Str} {ns : List Str} {qs : List PV} (h : g (env0 ms ps n) st = .exc c ns qs env1 st1) (hm : ms.any isMut = false := by rfl) : (mkFn ms own n g).sem ps st = .exc c ns qs st1 := by
  rw [mkFn_sem, h, hm, endS_exc0]
/-! ## small_weights -/
def rowP (v : List Int) : PV := .tup (v.map .int)
def RowsOk (lot : List Nat) : List (List Nat) → List (List Int) → Prop
  | [], [] => True
  | l :: ls, v :: vs => (RowOk l v ∧ sm (vat v) lot = 0) ∧ RowsOk lot ls vs
  | _, _ => False
theorem RowsOk.len {lot : List Nat} : ∀ {ls : List (List Nat)} {vs : List (List Int)}, RowsOk lot ls vs → vs.length = ls.length
  | [], [], _ => rfl
  | _ :: _, _ :: _, h => by rw [List.length_cons, List.length_cons, RowsOk.len h.2]
  | [], _ :: _, h => h.elim
  | _ :: _, [], h => h.elim
theorem RowsOk.at' {lot : List Nat} : ∀ {ls : List (List Nat)} {vs : List (List Int)} {i : Nat} {l : List Nat} {v : List Int}, RowsOk lot ls vs → ls[i]? = some l → vs[i]? = some v → RowOk l v ∧ sm (vat v) lot = 0
  | [], _, _, _, _, _, h, _ => by simp at h
  | _ :: _, [], _, _, _, h, _, _ => h.elim
  | l :: ls, v :: vs, 0, _, _, h, h1, h2 => by
    simp at h1 h2
    subst h1 h2
    exact h.1
  | l :: ls, v :: vs, i + 1, _, _, h, h1, h2 => RowsOk.at' h.2 (by simpa using h1) (by simpa using h2)
abbrev uE (n : Nat) (ls : List (List Nat)) (p : PV) (s2 s3 s4 s5 : Slot) : SEnv := [.sh (tb n ls), .sh p, s2, s3, s4, s5]
theorem weights_eq : g_small_weights = (seqS (setS 2 (callE fi_lot_of [] (consA (vE 1) (consA (fldE ["Table"] "columns" (vR 0)) nilA)))) (seqS (setS 3 (callE fi_broken_at [] (consA (vE 0) (consA (vE 2) nilA)))) (seqS (ifS (cmpT isnP (vR 3) (cE .non)) (seqS (raiseS "NotFort" ["row"] (consA (vE 3) nilA)) nxS) nxS) (seqS (setS 4 (callE fi_flags_of [] (consA (vE 2) (consA (fldE ["Table"] "columns" (vR 0)) nilA)))) (seqS (retS (biE tupleP (consA (lcE [5] (seqA (fldE ["Table"] "lines" (vR 0))) (nameG 5) yesT (callE fi_small_row [] (consA (vE 5) (consA (vE 4) nilA)))) nilA))) nxS))))) := rfl
theorem rows_loop {n : Nat} (hn : n ≤ 150) {lot : List Nat} (hl : Lot n lot) (a b c d : Slot) (st : PV) : ∀ ls : List (List Nat), (∀ l ∈ ls, LineOk n l ∧ loneR l lot = none) →
    ∃ vs, RowsOk lot ls vs ∧ lcL (nameG 5) yesT (callE fi_small_row [] (consA (vE 5) (consA (vE 4) nilA))) [a, b, c, d, .sh (.lst (bls (flg n lot))), .dead] (lines ls) st = .ok (vs.map rowP) st
  | [], _ => ⟨[], trivial, rfl⟩
  | l :: ls, h => by
    obtain ⟨h1, h2⟩ := h l List.mem_cons_self
    obtain ⟨vs, q1, q2⟩ := rows_loop hn hl a b c d st ls fun l' hl' => h l' (List.mem_cons_of_mem _ hl')
    have hw := hl.whl
    obtain ⟨v, v1, v2, v3⟩ := c_small_row h1 hn (w := flg n lot) (flg_len n lot) (by rw [hw]; exact h2) st
    rw [hw] at v2
    refine ⟨v :: vs, ⟨⟨v1, v2⟩, q1⟩, ?_⟩
    have e : callE fi_small_row [] (consA (vE 5) (consA (vE 4) nilA)) [a, b, c, d, .sh (.lst (bls (flg n lot))), .sh (tx l)] st = .ok (rowP v) st := call_ok (ps := [tx l, .lst (bls (flg n lot))]) (st1 := st) rfl v3
    show ((callE fi_small_row [] (consA (vE 5) (consA (vE 4) nilA)) [a, b, c, d, .sh (.lst (bls (flg n lot))), .sh (tx l)] st).bind fun y st2 => (lcL (nameG 5) yesT (callE fi_small_row [] (consA (vE 5) (consA (vE 4) nilA))) [a, b, c, d, .sh (.lst (bls (flg n lot))), .dead] (lines ls) st2).bind fun ys st3 => ER.ok (y :: ys) st3) = _
    rw [e, ER.bind_ok, q2, ER.bind_ok]
    rfl
section
variable {n : Nat} {ls : List (List Nat)} (h : TabOk n ls) {lot : List Nat} (hl : Lot n lot) {p : PV}
  (hp : callK fi_lot_of [p, .int (n : Int)] .non = .ok (.tup (nts (sortN lot))) .non)
include h hl hp
theorem sw_head (s2 s3 s4 s5 : Slot) : callE fi_lot_of [] (consA (vE 1) (consA (fldE ["Table"] "columns" (vR 0)) nilA)) (uE n ls p s2 s3 s4 s5) .non = .ok (.tup (nts (sortN lot))) .non ∧ callE fi_broken_at [] (consA (vE 0) (consA (vE 2) nilA)) (uE n ls p (.sh (.tup (nts (sortN lot)))) s3 s4 s5) .non = .ok (optI (leastR ls lot)) .non := by
  have f0 : fldE ["Table"] "columns" (vR 0) (uE n ls p s2 s3 s4 s5) .non = .ok (.int (n : Int)) .non := by
    rw [fldE_ap, show vR 0 (uE n ls p s2 s3 s4 s5) .non = .ok (tb n ls) .non from rfl, ER.bind_ok, fld_columns]
  exact ⟨call_ok (cons_ok (show vE 1 (uE n ls p s2 s3 s4 s5) .non = .ok p .non from rfl) (one_ok f0)) hp, call_ok (ps := [tb n ls, .tup (nts (sortN lot))]) (st1 := .non) rfl (c_broken h hl .non)⟩
theorem c_sw_fort {r : Nat} (hr : leastR ls lot = some r) (st : PV) : callK fi_small_weights [tb n ls, p] st = .exc "NotFort" ["row"] [.int (r : Int)] st := by
  obtain ⟨d1, _⟩ := sw_head h hl hp .dead .dead .dead .dead
  obtain ⟨_, d2⟩ := sw_head h hl hp .dead .dead .dead .dead
  rw [hr] at d2
  have d3 := cmp_ok (g := isnP) (show vR 3 (uE n ls p (.sh (.tup (nts (sortN lot)))) (.sh (optI (some r))) .dead .dead) .non = .ok (optI (some r)) .non from rfl) (show cE .non (uE n ls p (.sh (.tup (nts (sortN lot)))) (.sh (optI (some r))) .dead .dead) .non = .ok .non .non from rfl) (isn_opt (some r))
  have e : g_small_weights (uE n ls p .dead .dead .dead .dead) .non = .exc "NotFort" ["row"] [.int (r : Int)] (uE n ls p (.sh (.tup (nts (sortN lot)))) (.sh (optI (some r))) .dead .dead) .non := by
    rw [weights_eq]
    have d4 : seqS (raiseS "NotFort" ["row"] (consA (vE 3) nilA)) nxS (uE n ls p (.sh (.tup (nts (sortN lot)))) (.sh (optI (some r))) .dead .dead) .non = .exc "NotFort" ["row"] [.int (r : Int)] (uE n ls p (.sh (.tup (nts (sortN lot)))) (.sh (optI (some r))) .dead .dead) .non := seq_exc rfl
    exact seq_nx (set_ok d1) (seq_nx (set_ok d2) (seq_exc (if_ok d3 d4)))
  exact call_exc (sem_exc e)
theorem c_sw_ok (hn : n ≤ 150) (hr : leastR ls lot = none) (st : PV) : ∃ vs, RowsOk lot ls vs ∧ callK fi_small_weights [tb n ls, p] st = .ok (.tup (vs.map rowP)) st := by
  have hs : sizeLine = 16777216 := sizeLine_eq
  have hlen := h.2.1
  obtain ⟨d1, _⟩ := sw_head h hl hp .dead .dead .dead .dead
  obtain ⟨_, d2⟩ := sw_head h hl hp .dead .dead .dead .dead
  rw [hr] at d2
  have d3 := cmp_ok (g := isnP) (show vR 3 (uE n ls p (.sh (.tup (nts (sortN lot)))) (.sh (optI none)) .dead .dead) .non = .ok (optI none) .non from rfl) (show cE .non (uE n ls p (.sh (.tup (nts (sortN lot)))) (.sh (optI none)) .dead .dead) .non = .ok .non .non from rfl) (isn_opt none)
  obtain ⟨vs, q1, q2⟩ := rows_loop hn hl (.sh (tb n ls)) (.sh p) (.sh (.tup (nts (sortN lot)))) (.sh (optI none)) .non ls fun l hl' => by
    obtain ⟨r, hr'⟩ := List.getElem?_of_mem hl'
    obtain ⟨hlt, _⟩ := List.getElem?_eq_some_iff.mp hr'
    have := ln_at hlt
    rw [hr'] at this
    cases this
    exact ⟨h.2.2 _ hl', leastR_none hr hlt⟩
  refine ⟨vs, q1, ?_⟩
  have k2 := c_flags_of (sortN lot) n .non (fun m hm => hl.lt ((sortN_mem lot m).mp hm)) (by omega)
  have e2 : setAll true (sortN lot) (List.replicate n false) = flg n lot := rfl
  rw [e2] at k2
  have d4 : callE fi_flags_of [] (consA (vE 2) (consA (fldE ["Table"] "columns" (vR 0)) nilA)) (uE n ls p (.sh (.tup (nts (sortN lot)))) (.sh (optI none)) .dead .dead) .non = .ok (.lst (bls (flg n lot))) .non := by
    have f0 : fldE ["Table"] "columns" (vR 0) (uE n ls p (.sh (.tup (nts (sortN lot)))) (.sh (optI none)) .dead .dead) .non = .ok (.int (n : Int)) .non := by
      rw [fldE_ap, show vR 0 (uE n ls p (.sh (.tup (nts (sortN lot)))) (.sh (optI none)) .dead .dead) .non = .ok (tb n ls) .non from rfl, ER.bind_ok, fld_columns]
    exact call_ok (cons_ok (show vE 2 (uE n ls p (.sh (.tup (nts (sortN lot)))) (.sh (optI none)) .dead .dead) .non = .ok (.tup (nts (sortN lot))) .non from rfl) (one_ok f0)) k2
  have d5 : fldE ["Table"] "lines" (vR 0) (uE n ls p (.sh (.tup (nts (sortN lot)))) (.sh (optI none)) (.sh (.lst (bls (flg n lot)))) .dead) .non = .ok (.tup (lines ls)) .non := by
    rw [fldE_ap, show vR 0 (uE n ls p (.sh (.tup (nts (sortN lot)))) (.sh (optI none)) (.sh (.lst (bls (flg n lot)))) .dead) .non = .ok (tb n ls) .non from rfl, ER.bind_ok, fld_lines]
    rfl
  have e : g_small_weights (uE n ls p .dead .dead .dead .dead) .non = .ret (.tup (vs.map rowP)) false (uE n ls p (.sh (.tup (nts (sortN lot)))) (.sh (optI none)) (.sh (.lst (bls (flg n lot)))) .dead) .non := by
    rw [weights_eq]
    exact seq_nx (set_ok d1) (seq_nx (set_ok d2) (seq_nx (if_ok d3 rfl) (seq_nx (set_ok d4) (seq_ret (ret_ok (bi_ok (one_ok (lc_ok (seqA_ok d5 rfl) rfl (by rw [lines_length]; omega) q2)) rfl))))))
  have e3 : fi_small_weights.sem [tb n ls, p] .non = .ok (.tup (vs.map rowP)) .non := sem_ok e (fun h => by cases h)
  rw [callK_val, e3]
end
theorem c_sw_lot {n : Nat} {ls : List (List Nat)} {p : PV} {i : Int} (hp : callK fi_lot_of [p, .int (n : Int)] .non = .exc "BadLot" ["place"] [.int i] .non) (st : PV) : callK fi_small_weights [tb n ls, p] st = .exc "BadLot" ["place"] [.int i] st := by
  have f0 : fldE ["Table"] "columns" (vR 0) (uE n ls p .dead .dead .dead .dead) .non = .ok (.int (n : Int)) .non := by
    rw [fldE_ap, show vR 0 (uE n ls p .dead .dead .dead .dead) .non = .ok (tb n ls) .non from rfl, ER.bind_ok, fld_columns]
  have d1 : callE fi_lot_of [] (consA (vE 1) (consA (fldE ["Table"] "columns" (vR 0)) nilA)) (uE n ls p .dead .dead .dead .dead) .non = .exc "BadLot" ["place"] [.int i] .non := call_ok (cons_ok (show vE 1 (uE n ls p .dead .dead .dead .dead) .non = .ok p .non from rfl) (one_ok f0)) hp
  have e : g_small_weights (uE n ls p .dead .dead .dead .dead) .non = .exc "BadLot" ["place"] [.int i] (uE n ls p .dead .dead .dead .dead) .non := by
    rw [weights_eq]
    exact seq_exc (set_exc d1)
  exact call_exc (sem_exc e)
/-! ## _law_asked -/
abbrev oE (t p : PV) (s2 s3 s4 s5 : Slot) : SEnv := [.sh t, .sh p, s2, s3, s4, s5]
def tryW : SF := (seqS (setS 2 (callE fi_small_weights [] (consA (vE 0) (consA (vE 1) nilA)))) nxS)
def hFort : SF := (seqS (setS 3 (tupE (consA (cE (.str "fort")) (consA (xfE 4 ["NotFort"] "row") nilA)))) nxS)
def hBad : SF := (seqS (setS 3 (tupE (consA (cE (.str "lot")) (consA (xfE 5 ["BadLot"] "place") nilA)))) nxS)
theorem asked_eq : g__law_asked = (seqS (setS 2 (cE .non)) (seqS (setS 3 (tupE (consA (cE (.str "let")) (consA (cE (.int 0)) nilA)))) (seqS (tryS exmT tryW [("NotFort", some 4, hFort), ("BadLot", some 5, hBad)]) (seqS (retS (lstE (consA (vE 2) (consA (vE 3) nilA)))) nxS)))) := rfl
theorem x_ff : exmT "NotFort" "NotFort" = some true := by decide +kernel
theorem x_lf : exmT "BadLot" "NotFort" = some false := by decide +kernel
theorem x_bb : exmT "BadLot" "BadLot" = some true := by decide +kernel
theorem let_ok2 (t p : PV) (s2 : Slot) (st : PV) : tupE (consA (cE (.str "let")) (consA (cE (.int 0)) nilA)) (oE t p s2 .dead .dead .dead) st = .ok (tg "let" 0) st := by
  simp [KI.K13.s2, tg]
theorem end_ok2 (t p a b : PV) (s4 s5 : Slot) (st : PV) : lstE (consA (vE 2) (consA (vE 3) nilA)) (oE t p (.sh a) (.sh b) s4 s5) st = .ok (.lst [a, b]) st := by
  simp [KI.K13.s2]
theorem c_asked_ok (t p : PV) {r : PV} (h : callK fi_small_weights [t, p] .non = .ok r .non) (st : PV) : callK fi__law_asked [t, p] st = .ok (.lst [r, tg "let" 0]) st := by
  have e : fi__law_asked.sem [t, p] .non = .ok (.lst [r, tg "let" 0]) .non := by
    refine sem_ok (env1 := oE t p (.sh r) (.sh (tg "let" 0)) .dead .dead) ?_ (fun h => by cases h)
    rw [asked_eq]
    refine seq_nx (env' := oE t p (.sh .non) .dead .dead .dead) (st' := .non) rfl (seq_nx (set_ok (let_ok2 t p _ .non)) (seq_nx (env' := oE t p (.sh r) (.sh (tg "let" 0)) .dead .dead) (st' := .non) ?_ (seq_ret (ret_ok (end_ok2 t p _ _ _ _ _)))))
    have d : callE fi_small_weights [] (consA (vE 0) (consA (vE 1) nilA)) (oE t p (.sh .non) (.sh (tg "let" 0)) .dead .dead) .non = .ok r .non := call_ok (ps := [t, p]) (st1 := .non) rfl h
    have d2 : tryW (oE t p (.sh .non) (.sh (tg "let" 0)) .dead .dead) .non = .nx (oE t p (.sh r) (.sh (tg "let" 0)) .dead .dead) .non := seq_nx (set_ok d) rfl
    show tryS exmT tryW _ (oE t p (.sh .non) (.sh (tg "let" 0)) .dead .dead) .non = _
    rw [tryS_ap, d2]
  rw [callK_val, e]
theorem c_asked_fort (t p : PV) {i : Int} (h : callK fi_small_weights [t, p] .non = .exc "NotFort" ["row"] [.int i] .non) (st : PV) : callK fi__law_asked [t, p] st = .ok (.lst [.non, tg "fort" i]) st := by
  have e : fi__law_asked.sem [t, p] .non = .ok (.lst [.non, tg "fort" i]) .non := by
    refine sem_ok (env1 := oE t p (.sh .non) (.sh (tg "fort" i)) .dead .dead) ?_ (fun h => by cases h)
    rw [asked_eq]
    refine seq_nx (env' := oE t p (.sh .non) .dead .dead .dead) (st' := .non) rfl (seq_nx (set_ok (let_ok2 t p _ .non)) (seq_nx (env' := oE t p (.sh .non) (.sh (tg "fort" i)) .dead .dead) (st' := .non) ?_ (seq_ret (ret_ok (end_ok2 t p _ _ _ _ _)))))
    have d : callE fi_small_weights [] (consA (vE 0) (consA (vE 1) nilA)) (oE t p (.sh .non) (.sh (tg "let" 0)) .dead .dead) .non = .exc "NotFort" ["row"] [.int i] .non := call_ok (ps := [t, p]) (st1 := .non) rfl h
    have d2 : tryW (oE t p (.sh .non) (.sh (tg "let" 0)) .dead .dead) .non = .exc "NotFort" ["row"] [.int i] (oE t p (.sh .non) (.sh (tg "let" 0)) .dead .dead) .non := seq_exc (set_exc d)
    have d3 : tupE (consA (cE (.str "fort")) (consA (xfE 4 ["NotFort"] "row") nilA)) (oE t p (.sh .non) (.sh (tg "let" 0)) (.exc "NotFort" ["row"] [.int i]) .dead) .non = .ok (tg "fort" i) .non := by
      have k : ([("row" : Str)].zip [PV.int i]).lookup ("row" : Str) = some (.int i) := by simp
      simp [KI.K13.s2, tg]
    have d4 : hFort (oE t p (.sh .non) (.sh (tg "let" 0)) (.exc "NotFort" ["row"] [.int i]) .dead) .non = .nx (oE t p (.sh .non) (.sh (tg "fort" i)) (.exc "NotFort" ["row"] [.int i]) .dead) .non := seq_nx (set_ok d3) rfl
    show tryS exmT tryW _ (oE t p (.sh .non) (.sh (tg "let" 0)) .dead .dead) .non = _
    rw [tryS_ap, d2]
    show handS exmT [("NotFort", some 4, hFort), ("BadLot", some 5, hBad)] "NotFort" ["row"] [.int i] (oE t p (.sh .non) (.sh (tg "let" 0)) .dead .dead) .non = _
    unfold handS
    rw [x_ff]
    dsimp only
    rw [if_pos (show noX ((oE t p (.sh .non) (.sh (tg "let" 0)) .dead .dead).set 4 .dead) = true from rfl)]
    show goneS 4 (hFort (oE t p (.sh .non) (.sh (tg "let" 0)) (.exc "NotFort" ["row"] [.int i]) .dead) .non) = _
    rw [d4]
    rfl
  rw [callK_val, e]
theorem c_asked_lot (t p : PV) {i : Int} (h : callK fi_small_weights [t, p] .non = .exc "BadLot" ["place"] [.int i] .non) (st : PV) : callK fi__law_asked [t, p] st = .ok (.lst [.non, tg "lot" i]) st := by
  have e : fi__law_asked.sem [t, p] .non = .ok (.lst [.non, tg "lot" i]) .non := by
    refine sem_ok (env1 := oE t p (.sh .non) (.sh (tg "lot" i)) .dead .dead) ?_ (fun h => by cases h)
    rw [asked_eq]
    refine seq_nx (env' := oE t p (.sh .non) .dead .dead .dead) (st' := .non) rfl (seq_nx (set_ok (let_ok2 t p _ .non)) (seq_nx (env' := oE t p (.sh .non) (.sh (tg "lot" i)) .dead .dead) (st' := .non) ?_ (seq_ret (ret_ok (end_ok2 t p _ _ _ _ _)))))
    have d : callE fi_small_weights [] (consA (vE 0) (consA (vE 1) nilA)) (oE t p (.sh .non) (.sh (tg "let" 0)) .dead .dead) .non = .exc "BadLot" ["place"] [.int i] .non := call_ok (ps := [t, p]) (st1 := .non) rfl h
    have d2 : tryW (oE t p (.sh .non) (.sh (tg "let" 0)) .dead .dead) .non = .exc "BadLot" ["place"] [.int i] (oE t p (.sh .non) (.sh (tg "let" 0)) .dead .dead) .non := seq_exc (set_exc d)
    have d3 : tupE (consA (cE (.str "lot")) (consA (xfE 5 ["BadLot"] "place") nilA)) (oE t p (.sh .non) (.sh (tg "let" 0)) .dead (.exc "BadLot" ["place"] [.int i])) .non = .ok (tg "lot" i) .non := by
      have k : ([("place" : Str)].zip [PV.int i]).lookup ("place" : Str) = some (.int i) := by simp
      simp [KI.K13.s2, tg]
    have d4 : hBad (oE t p (.sh .non) (.sh (tg "let" 0)) .dead (.exc "BadLot" ["place"] [.int i])) .non = .nx (oE t p (.sh .non) (.sh (tg "lot" i)) .dead (.exc "BadLot" ["place"] [.int i])) .non := seq_nx (set_ok d3) rfl
    show tryS exmT tryW _ (oE t p (.sh .non) (.sh (tg "let" 0)) .dead .dead) .non = _
    rw [tryS_ap, d2]
    show handS exmT [("NotFort", some 4, hFort), ("BadLot", some 5, hBad)] "BadLot" ["place"] [.int i] (oE t p (.sh .non) (.sh (tg "let" 0)) .dead .dead) .non = _
    unfold handS
    rw [x_lf]
    dsimp only
    unfold handS
    rw [x_bb]
    dsimp only
    rw [if_pos (show noX ((oE t p (.sh .non) (.sh (tg "let" 0)) .dead .dead).set 5 .dead) = true from rfl)]
    show goneS 5 (hBad (oE t p (.sh .non) (.sh (tg "let" 0)) .dead (.exc "BadLot" ["place"] [.int i])) .non) = _
    rw [d4]
    rfl
  rw [callK_val, e]
end KI.K13

/-! part P13f -/
set_option Elab.async false
set_option linter.all false
set_option maxRecDepth 100000
set_option maxHeartbeats 2000000
namespace KI.K13
open PySem PySem.Spec PyProof.Rows L2 KI
/-! ## the law's judge of a row -/
theorem ix_row {v : List Int} {j : Nat} (h : j < v.length) : ixP (rowP v) (.int (j : Int)) = some (.int (vat v j)) := by
  show L2.atI (v.map PV.int) (j : Int) = _
  exact atI_nat (by rw [List.getElem?_map, vat_at h]; rfl)
theorem ne_ch {a c : Nat} (ha : a < 117) (hc : c < 117) : neP (ch a) (ch c) = some (!(a == c)) := by
  rw [neP_str _ _ (strOk_ch ha) (strOk_ch hc)]
  by_cases e : a = c
  · subst e; simp
  · rw [show (a == c) = false from by simpa using e]
    simp [e]
abbrev jE (l : List Nat) (v : List Int) (lot : List Nat) (s3 s4 s5 : Slot) : SEnv := [.sh (tx l), .sh (rowP v), .sh (.lst (nts lot)), s3, s4, s5]
def sE : SF := (ifS (cmpT (inP false) (vR 4) (vR 2)) (seqS (setS 3 (opE addP (vR 3) (vR 5))) nxS) nxS)
def sD : SF := (ifS (andT (cmpT eqP (opE ixP (vR 0) (vR 4)) (cE (.str "t"))) (cmpT neP (vR 5) (negE (cE (.int 1))))) (seqS (retS (cE (.bl false))) nxS) nxS)
def sC : SF := (ifS (andT (cmpT eqP (opE ixP (vR 0) (vR 4)) (cE (.str "f"))) (cmpT eqP (vR 5) (cE (.int 0)))) (seqS (retS (cE (.bl false))) nxS) nxS)
def sB : SF := (ifS (andT (cmpT eqP (opE ixP (vR 0) (vR 4)) (cE (.str "."))) (cmpT neP (vR 5) (cE (.int 0)))) (seqS (retS (cE (.bl false))) nxS) nxS)
def sA : SF := (ifS (orT (notT (truT (isiE ["int"] (vR 5)))) (orT (truT (isiE ["bool"] (vR 5))) (orT (cmpT ltP (vR 5) (negE (cE (.int 2)))) (cmpT gtP (vR 5) (cE (.int 2)))))) (seqS (retS (cE (.bl false))) nxS) nxS)
def srB : SF := (seqS (setS 5 (opE ixP (vR 1) (vR 4))) (seqS sA (seqS sB (seqS sC (seqS sD (seqS sE (fun env st => .nx (killS [4, 5] env) st)))))))
theorem srow_eq : g__law_small_row = (seqS (ifS (orT (notT (truT (isiE ["tuple"] (vR 1)))) (cmpT neP (biE lenP (consA (vR 1) nilA)) (biE lenP (consA (vR 0) nilA)))) (seqS (retS (cE (.bl false))) nxS) nxS) (seqS (setS 3 (cE (.int 0))) (seqS (forS (rngA (consA (biE lenP (consA (vR 0) nilA)) nilA)) (nameG 4) srB) (seqS (retS (cmpE eqP (vR 3) (cE (.int 0)))) nxS)))) := rfl
theorem sr_step {n : Nat} {l : List Nat} (h : LineOk n l) (hn : n ≤ sizeLine) {v : List Int} (hv : RowOk l v) (lot : List Nat) {k : Nat} (hk : k < n) (tot : Int) (st : PV) :
    srB (jE l v lot (.sh (.int tot)) (.sh (.int (k : Int))) .dead) st = .nx (jE l v lot (.sh (.int (if k ∈ lot then tot + vat v k else tot))) .dead .dead) st := by
  have hll := h.1
  have hm := h.2.1 _ (mk_mem (j := k) (l := l) (by omega))
  have hm1 := mark_lt hm
  obtain ⟨q1, q2, q3, q4, q5⟩ := hv.2 k (by omega)
  have hvl := hv.1
  generalize hx : vat v k = x at q1 q2 q3 q4 q5 ⊢
  have d1 : opE ixP (vR 1) (vR 4) (jE l v lot (.sh (.int tot)) (.sh (.int (k : Int))) .dead) st = .ok (.int x) st := ix_ok (a := rowP v) rfl rfl (by rw [ix_row (by omega), hx])
  have r5 : vR 5 (jE l v lot (.sh (.int tot)) (.sh (.int (k : Int))) (.sh (.int x))) st = .ok (.int x) st := rfl
  have dm : ∀ (s : Str) (c : Nat), PV.str s = ch c → c < 117 → cmpT eqP (opE ixP (vR 0) (vR 4)) (cE (.str s)) (jE l v lot (.sh (.int tot)) (.sh (.int (k : Int))) (.sh (.int x))) st = .ok (mk l k == c) st := fun s c hs hc =>
    cmp_ok (ix_ok (a := tx l) rfl rfl (ix_tx (by omega) (by omega))) (show cE (.str s) (jE l v lot (.sh (.int tot)) (.sh (.int (k : Int))) (.sh (.int x))) st = .ok (ch c) st from by rw [hs]; rfl) (eq_ch hm1 hc)
  have eA : sA (jE l v lot (.sh (.int tot)) (.sh (.int (k : Int))) (.sh (.int x))) st = .nx (jE l v lot (.sh (.int tot)) (.sh (.int (k : Int))) (.sh (.int x))) st := by
    have k1 : ¬ x < -2 := by omega
    have k2 : ¬ 2 < x := by omega
    have k3 : orT (notT (truT (isiE ["int"] (vR 5)))) (orT (truT (isiE ["bool"] (vR 5))) (orT (cmpT ltP (vR 5) (negE (cE (.int 2)))) (cmpT gtP (vR 5) (cE (.int 2))))) (jE l v lot (.sh (.int tot)) (.sh (.int (k : Int))) (.sh (.int x))) st = .ok (false || (false || (decide (x < -2) || decide (2 < x)))) st := by
      refine or_ok (a := false) ?_ (fun _ => or_ok (a := false) ?_ (fun _ => or_ok (cmp_ok (b := .int (-2)) r5 rfl rfl) (fun _ => cmp_ok (b := .int 2) r5 rfl rfl) fun _ => rfl) fun _ => rfl) fun _ => rfl
      · exact not_okT (a := true) (tru_ok (p := .bl true) rfl rfl)
      · exact tru_ok (p := .bl false) rfl rfl
    simp only [k1, k2, decide_false, Bool.false_or] at k3
    exact if_ok k3 rfl
  have eB : sB (jE l v lot (.sh (.int tot)) (.sh (.int (k : Int))) (.sh (.int x))) st = .nx (jE l v lot (.sh (.int tot)) (.sh (.int (k : Int))) (.sh (.int x))) st := by
    have k3 := and_ok (dm "." 46 lit_dot' (by decide)) (fun _ => cmp_ok (a := .int x) (b := .int 0) (fb := cE (.int 0)) (g := neP) r5 rfl (neP_int _ _)) (fun _ => rfl)
    have k4 : ((mk l k == 46) && !(x == 0)) = false := by
      by_cases e : mk l k = 46
      · simp [q3 e]
      · simp [e]
    rw [k4] at k3
    exact if_ok k3 rfl
  have eC : sC (jE l v lot (.sh (.int tot)) (.sh (.int (k : Int))) (.sh (.int x))) st = .nx (jE l v lot (.sh (.int tot)) (.sh (.int (k : Int))) (.sh (.int x))) st := by
    have k3 := and_ok (dm "f" 102 lit_f' (by decide)) (fun _ => cmp_ok (a := .int x) (b := .int 0) (fb := cE (.int 0)) (g := eqP) r5 rfl (eqP_int _ _)) (fun _ => rfl)
    have k4 : ((mk l k == 102) && (x == 0)) = false := by
      by_cases e : mk l k = 102
      · have := q4 e
        simp [this]
      · simp [e]
    rw [k4] at k3
    exact if_ok k3 rfl
  have eD : sD (jE l v lot (.sh (.int tot)) (.sh (.int (k : Int))) (.sh (.int x))) st = .nx (jE l v lot (.sh (.int tot)) (.sh (.int (k : Int))) (.sh (.int x))) st := by
    have k3 := and_ok (dm "t" 116 lit_t' (by decide)) (fun _ => cmp_ok (a := .int x) (b := .int (-1)) (fb := negE (cE (.int 1))) (g := neP) r5 rfl (neP_int _ _)) (fun _ => rfl)
    have k4 : ((mk l k == 116) && !(x == -1)) = false := by
      by_cases e : mk l k = 116
      · simp [q5 e]
      · simp [e]
    rw [k4] at k3
    exact if_ok k3 rfl
  have eE : sE (jE l v lot (.sh (.int tot)) (.sh (.int (k : Int))) (.sh (.int x))) st = .nx (jE l v lot (.sh (.int (if k ∈ lot then tot + x else tot))) (.sh (.int (k : Int))) (.sh (.int x))) st := by
    have k3 := cmp_ok (g := inP false) (show vR 4 (jE l v lot (.sh (.int tot)) (.sh (.int (k : Int))) (.sh (.int x))) st = .ok (.int (k : Int)) st from rfl) (show vR 2 (jE l v lot (.sh (.int tot)) (.sh (.int (k : Int))) (.sh (.int x))) st = .ok (.lst (nts lot)) st from rfl) (in_nts false k lot)
    by_cases e : k ∈ lot
    · simp only [e, decide_true, Bool.false_eq_true, if_false] at k3
      refine if_ok k3 ?_
      rw [if_pos rfl, if_pos e]
      exact seq_nx (set_ok (op_ok rfl rfl (addP_int _ _))) rfl
    · simp only [e, decide_false, Bool.false_eq_true, if_false] at k3
      refine if_ok k3 ?_
      rw [if_neg (by decide), if_neg e]
      rfl
  exact seq_nx (set_ok d1) (seq_nx eA (seq_nx eB (seq_nx eC (seq_nx eD (seq_nx eE rfl)))))
theorem sr_loop {n : Nat} {l : List Nat} (h : LineOk n l) (hn : n ≤ sizeLine) {v : List Int} (hv : RowOk l v) (lot : List Nat) (st : PV) : ∀ (ks : List Nat) (tot : Int), (∀ k ∈ ks, k < n) →
    forL (nameG 4) srB (nts ks) (jE l v lot (.sh (.int tot)) .dead .dead) st = .nx (jE l v lot (.sh (.int (tot + sm (vat v) (ks.filter fun k => decide (k ∈ lot))))) .dead .dead) st
  | [], tot, _ => by
    have : tot + sm (vat v) (([] : List Nat).filter fun k => decide (k ∈ lot)) = tot := by simp [sm]
    rw [this]
    rfl
  | k :: ks, tot, hk => by
    have e := sr_step h hn hv lot (hk k List.mem_cons_self) tot st
    have ih := sr_loop h hn hv lot st ks (if k ∈ lot then tot + vat v k else tot) fun j hj => hk j (List.mem_cons_of_mem _ hj)
    have e2 : (if k ∈ lot then tot + vat v k else tot) + sm (vat v) (ks.filter fun k => decide (k ∈ lot)) = tot + sm (vat v) ((k :: ks).filter fun k => decide (k ∈ lot)) := by
      by_cases hm : k ∈ lot
      · rw [if_pos hm, List.filter_cons_of_pos (by simpa using hm), sm_cons]
        omega
      · rw [if_neg hm, List.filter_cons_of_neg (by simpa using hm)]
    rw [e2] at ih
    exact forL_nx rfl e ih
theorem c_srow {n : Nat} {l : List Nat} (h : LineOk n l) (hn : n ≤ sizeLine) {v : List Int} (hv : RowOk l v) {lot : List Nat} (hl : Lot n lot) (h0 : sm (vat v) lot = 0) (st : PV) : callK fi__law_small_row [tx l, rowP v, .lst (nts lot)] st = .ok (.bl true) st := by
  have hll := h.1
  have hvl := hv.1
  have hL := sr_loop h hn hv lot .non (List.range n) 0 fun k hk => List.mem_range.mp hk
  rw [filter_in hl List.nodup_range, h0] at hL
  have l0 : ∀ a b c, biE lenP (consA (vR 0) nilA) (jE l v lot a b c) .non = .ok (.int (n : Int)) .non := fun a b c => by
    have := len_tx l (by omega)
    rw [hll] at this
    exact bi_ok (one_ok (show vR 0 (jE l v lot a b c) .non = .ok (tx l) .non from rfl)) this
  have l1 : biE lenP (consA (vR 1) nilA) (jE l v lot .dead .dead .dead) .non = .ok (.int (n : Int)) .non := by
    refine bi_ok (one_ok (show vR 1 (jE l v lot .dead .dead .dead) .non = .ok (rowP v) .non from rfl)) ?_
    show some (PV.int ((v.map PV.int).length : Nat)) = _
    rw [List.length_map, hvl, hll]
  have c0 : orT (notT (truT (isiE ["tuple"] (vR 1)))) (cmpT neP (biE lenP (consA (vR 1) nilA)) (biE lenP (consA (vR 0) nilA))) (jE l v lot .dead .dead .dead) .non = .ok false .non := by
    have := or_ok (f := notT (truT (isiE ["tuple"] (vR 1)))) (not_okT (a := true) (tru_ok (p := .bl true) (f := isiE ["tuple"] (vR 1)) (env := jE l v lot .dead .dead .dead) (st := .non) (st1 := .non) rfl rfl)) (fun _ => cmp_ok l1 (l0 _ _ _) (neP_int _ _)) fun _ => rfl
    simpa using this
  have e : g__law_small_row (jE l v lot .dead .dead .dead) .non = .ret (.bl true) false (jE l v lot (.sh (.int (0 + 0))) .dead .dead) .non := by
    rw [srow_eq]
    refine seq_nx (if_ok c0 rfl) (seq_nx (set_ok rfl) (seq_nx (for_ok (rng_ok (one_ok (l0 _ _ _)) (rngP_nat (by omega))) hL) (seq_ret (ret_ok ?_))))
    exact op_ok (g := fun p q => (eqP p q).map PV.bl) (a := .int (0 + 0)) (b := .int 0) rfl rfl (by rw [eqP_int]; rfl)
  have e3 : fi__law_small_row.sem [tx l, rowP v, .lst (nts lot)] .non = .ok (.bl true) .non := sem_ok e (fun h => by cases h)
  rw [callK_val, e3]
end KI.K13

/-! part P13g -/
set_option Elab.async false
set_option linter.all false
set_option maxRecDepth 100000
set_option maxHeartbeats 2000000
namespace KI.K13
open PySem PySem.Spec PyProof.Rows L2 KI
/-! ## numbers of a field -/
def nrm (pr x : Int) : PV := if pr = 0 then .tup [.int x, .int 1] else .int (Int.fmod x pr)
def uP (pr : Int) : PV := if pr = 0 then .tup [.int 1, .int 1] else .int 1
theorem nrm0 (x : Int) : nrm 0 x = .tup [.int x, .int 1] := rfl
theorem nrmP {pr : Int} (h : pr ≠ 0) (x : Int) : nrm pr x = .int (Int.fmod x pr) := if_neg h
theorem tru_int {pr : Int} : truP (.int pr) = some (pr != 0) := rfl
theorem whole_ok (x : Int) (env : SEnv) (i : Nat) (st : PV) (h : vE i env st = .ok (.int x) st) : truT (callE fi_is_whole [] (consA (vE i) nilA)) env st = .ok true st :=
  tru_ok (p := .bl true) (call_ok (one_ok h) (c_is_whole (.int x) st rfl)) rfl
theorem if_trueE {c : TF} {f1 f2 : EF} {env : SEnv} {st st1 : PV} {b : Bool} {r : ER PV} (h : c env st = .ok b st1) (h2 : (if b = true then f1 env st1 else f2 env st1) = r) : ifE c f1 f2 env st = r := by
  rw [ifE_ap, h, ER.bind_ok]; exact h2
theorem tup_ok {f : AF} {env : SEnv} {st st1 : PV} {ps : List PV} (h : f env st = .ok ps st1) (hz : ps.length ≤ sizeLine) : tupE f env st = .ok (.tup ps) st1 := by
  rw [tupE_ap, h, ER.bind_ok, if_pos hz]
theorem lst_ok {f : AF} {env : SEnv} {st st1 : PV} {ps : List PV} (h : f env st = .ok ps st1) (hz : ps.length ≤ sizeLine) : lstE f env st = .ok (.lst ps) st1 := by
  rw [lstE_ap, h, ER.bind_ok, if_pos hz]
theorem c_normal (pr x place : Int) (st : PV) : callK fi_normal_number [.int pr, .int x, .int place] st = .ok (nrm pr x) st := by
  have e : g_normal_number [.sh (.int pr), .sh (.int x), .sh (.int place), .dead, .dead] .non = .ret (nrm pr x) false [.sh (.int pr), .sh (.int x), .sh (.int place), .dead, .dead] .non := by
    refine seq_ret (if_ok (whole_ok x _ 1 .non rfl) ?_)
    rw [if_pos rfl]
    refine seq_ret (ret_ok (if_trueE (tru_ok (p := .int pr) rfl tru_int) ?_))
    by_cases h : pr = 0
    · subst h
      rw [if_neg (by decide)]
      exact tup_ok rfl s2
    · rw [if_pos (by simpa using h), nrmP h]
      exact op_ok rfl rfl (modP_int _ _ h)
  have e3 : fi_normal_number.sem [.int pr, .int x, .int place] .non = .ok (nrm pr x) .non := sem_ok e (fun h => by cases h)
  rw [callK_val, e3]
theorem c_nought (pr : Int) (st : PV) : callK fi_nought_of [.int pr] st = .ok (nrm pr 0) st := by
  have e : g_nought_of [.sh (.int pr)] .non = .ret (nrm pr 0) false [.sh (.int pr)] .non := by
    refine seq_ret (ret_ok (if_trueE (tru_ok (p := .int pr) rfl tru_int) ?_))
    by_cases h : pr = 0
    · subst h
      rw [if_neg (by decide)]
      exact tup_ok rfl s2
    · rw [if_pos (by simpa using h), nrmP h, Int.zero_fmod]
      rfl
  have e3 : fi_nought_of.sem [.int pr] .non = .ok (nrm pr 0) .non := sem_ok e (fun h => by cases h)
  rw [callK_val, e3]
theorem c_unit (pr : Int) (st : PV) : callK fi_unit_of [.int pr] st = .ok (uP pr) st := by
  have e : g_unit_of [.sh (.int pr)] .non = .ret (uP pr) false [.sh (.int pr)] .non := by
    refine seq_ret (ret_ok (if_trueE (tru_ok (p := .int pr) rfl tru_int) ?_))
    by_cases h : pr = 0
    · subst h
      rw [if_neg (by decide)]
      exact tup_ok rfl s2
    · rw [if_pos (by simpa using h), uP, if_neg h]
      rfl
  have e3 : fi_unit_of.sem [.int pr] .non = .ok (uP pr) .non := sem_ok e (fun h => by cases h)
  rw [callK_val, e3]
theorem ix2 (a b : PV) : ixP (.tup [a, b]) (.int 0) = some a ∧ ixP (.tup [a, b]) (.int 1) = some b := ⟨rfl, rfl⟩
theorem c_neg_unit (pr : Int) (st : PV) : callK fi_negated [.int pr, uP pr] st = .ok (nrm pr (-1)) st := by
  have e : ∃ env1, g_negated [.sh (.int pr), .sh (uP pr)] .non = .ret (nrm pr (-1)) false env1 .non := by
    by_cases h : pr = 0
    · subst h
      exact ⟨_, seq_nx (if_ok (tru_ok (p := .int 0) rfl tru_int) rfl) (seq_ret (ret_ok (tup_ok (ps := [.int (-1), .int 1]) rfl s2)))⟩
    · have hu : uP pr = .int 1 := if_neg h
      rw [hu, nrmP h]
      have d := tru_ok (f := vR 0) (env := [.sh (.int pr), .sh (.int 1)]) (st := .non) (st1 := .non) (p := .int pr) rfl tru_int
      rw [show (pr != 0) = true from by simpa using h] at d
      exact ⟨_, if_hit d (op_ok (a := .int (-1)) rfl rfl (modP_int _ _ h))⟩
  obtain ⟨env1, e⟩ := e
  have e3 : fi_negated.sem [.int pr, uP pr] .non = .ok (nrm pr (-1)) .non := sem_ok e (fun h => by cases h)
  rw [callK_val, e3]
theorem eqP_pair (a b c d : Int) : eqP (.tup [.int a, .int b]) (.tup [.int c, .int d]) = some (a == c && b == d) := by
  unfold eqP eqB okD
  simp [SeqAt.shaped, toD, toDs, PyData.eqv, PyData.eqvAll, PyData.canLay0, PyData.canLayAll0, PyData.depth, PyData.depthAll]
theorem eqP_bl (a b : Bool) : eqP (.bl a) (.bl b) = some (a == b) := by
  unfold eqP eqB okD toD
  cases a <;> cases b <;> simp [SeqAt.shaped, PyData.eqv, PyData.canLay0, PyData.depth]
theorem eq_nrm (pr x y : Int) : eqP (nrm pr x) (nrm pr y) = some (if pr = 0 then x == y else Int.fmod x pr == Int.fmod y pr) := by
  by_cases h : pr = 0
  · subst h
    rw [nrm0, nrm0, eqP_pair]
    simp
  · rw [nrmP h, nrmP h, eqP_int, if_neg h]
theorem fmod_zero {x pr : Int} (h3 : 3 ≤ pr) (h1 : -2 ≤ x) (h2 : x ≤ 2) : (Int.fmod x pr == 0) = (x == 0) := by
  by_cases h : x = 0
  · subst h; simp
  · have : Int.fmod x pr ≠ 0 := fun z => by
      obtain ⟨k, hk⟩ := Int.dvd_of_fmod_eq_zero z
      by_cases hk1 : 1 ≤ k
      · have := Int.mul_le_mul_of_nonneg_left hk1 (show (0 : Int) ≤ pr by omega)
        omega
      · by_cases hk0 : k = 0
        · subst hk0
          simp at hk
          exact h hk
        · have := Int.mul_le_mul_of_nonneg_left (show k ≤ -1 by omega) (show (0 : Int) ≤ pr by omega)
          have e : pr * -1 = -pr := by rw [Int.mul_neg, Int.mul_one]
          omega
    rw [show (x == 0) = false from by simpa using h, show (Int.fmod x pr == 0) = false from by simpa using this]
def Fld (pr : Int) : Prop := pr = 0 ∨ (3 ≤ pr ∧ pr ≤ 97)
def FitOk (c : Nat) (x : Int) : Prop := (c = 46 ∨ touched c = true) ∧ -2 ≤ x ∧ x ≤ 2 ∧ (c = 46 → x = 0) ∧ (c = 102 → x ≠ 0) ∧ (c = 116 → x = -1)
theorem c_fits {pr : Int} (hp : Fld pr) {c : Nat} {x : Int} (h : FitOk c x) (st : PV) : callK fi_fits_mark [.int pr, ch c, nrm pr x] st = .ok (.bl true) st := by
  obtain ⟨hc, h1, h2, h3, h4, h5⟩ := h
  have hm := mark_lt hc
  have r0 : vR 0 [.sh (.int pr), .sh (ch c), .sh (nrm pr x)] .non = .ok (.int pr) .non := rfl
  have r1 : vR 1 [.sh (.int pr), .sh (ch c), .sh (nrm pr x)] .non = .ok (ch c) .non := rfl
  have r2 : vR 2 [.sh (.int pr), .sh (ch c), .sh (nrm pr x)] .non = .ok (nrm pr x) .non := by
    show (match borOk (nrm pr x), nrm pr x with | _, _ => _) = _
    rfl
  have dm : ∀ (s : Str) (k : Nat), PV.str s = ch k → k < 117 → cmpT eqP (vR 1) (cE (.str s)) [.sh (.int pr), .sh (ch c), .sh (nrm pr x)] .non = .ok (c == k) .non := fun s k hs hk =>
    cmp_ok r1 (show cE (.str s) [.sh (.int pr), .sh (ch c), .sh (nrm pr x)] .non = .ok (ch k) .non from by rw [hs]; rfl) (eq_ch hm hk)
  have e : g_fits_mark [.sh (.int pr), .sh (ch c), .sh (nrm pr x)] .non = .ret (.bl true) false [.sh (.int pr), .sh (ch c), .sh (nrm pr x)] .non := by
    by_cases hl : c = 108
    · have k := dm "l" 108 lit_l' (by decide)
      rw [show (c == 108) = true from by simpa using hl] at k
      exact if_hit k rfl
    · have k := dm "l" 108 lit_l' (by decide)
      rw [show (c == 108) = false from by simpa using hl] at k
      refine seq_nx (if_ok k rfl) ?_
      by_cases ht : c = 116
      · have k := dm "t" 116 lit_t' (by decide)
        rw [show (c == 116) = true from by simpa using ht] at k
        refine if_hit k ?_
        have hx := h5 ht
        subst hx
        have d1 : callE fi_negated [] (consA (vE 0) (consA (callE fi_unit_of [] (consA (vE 0) nilA)) nilA)) [.sh (.int pr), .sh (ch c), .sh (nrm pr (-1))] .non = .ok (nrm pr (-1)) .non :=
          call_ok (cons_ok (p := .int pr) rfl (one_ok (call_ok (ps := [.int pr]) (st1 := .non) rfl (c_unit pr .non)))) (c_neg_unit pr .non)
        refine op_ok r2 d1 ?_
        rw [eq_nrm]
        by_cases hq : pr = 0 <;> simp [hq]
      · have k := dm "t" 116 lit_t' (by decide)
        rw [show (c == 116) = false from by simpa using ht] at k
        refine seq_nx (if_ok k rfl) (seq_ret (ret_ok ?_))
        have d1 : callE fi_nought_of [] (consA (vE 0) nilA) [.sh (.int pr), .sh (ch c), .sh (nrm pr x)] .non = .ok (nrm pr 0) .non := call_ok (ps := [.int pr]) (st1 := .non) rfl (c_nought pr .non)
        have d2 : cmpE eqP (vR 2) (callE fi_nought_of [] (consA (vE 0) nilA)) [.sh (.int pr), .sh (ch c), .sh (nrm pr x)] .non = .ok (.bl (x == 0)) .non := by
          refine op_ok r2 d1 ?_
          rw [eq_nrm]
          by_cases hq : pr = 0
          · simp [hq]
          · have h3 : 3 ≤ pr := by rcases hp with hp | hp; · exact absurd hp hq
                                   · exact hp.1
            rw [if_neg hq, Int.zero_fmod, fmod_zero h3 h1 h2]
            rfl
        have d3 : cmpE eqP (vR 1) (cE (.str ".")) [.sh (.int pr), .sh (ch c), .sh (nrm pr x)] .non = .ok (.bl (c == 46)) .non := by
          refine op_ok (b := ch 46) r1 (by rw [← lit_dot']; rfl) ?_
          rw [eq_ch hm (by decide)]
          rfl
        refine op_ok d2 d3 ?_
        rw [eqP_bl]
        show some (PV.bl _) = _
        congr 2
        have hc' : c = 46 ∨ c = 102 := by
          rcases hc with hc | hc
          · exact .inl hc
          · simp only [touched, Bool.or_eq_true, beq_iff_eq] at hc; omega
        rcases hc' with rfl | rfl
        · simp [h3 rfl]
        · have := h4 rfl
          simp [this]
  have e3 : fi_fits_mark.sem [.int pr, ch c, nrm pr x] .non = .ok (.bl true) .non := sem_ok e (fun h => by cases h)
  rw [callK_val, e3]
end KI.K13

/-! part P13h -/
set_option Elab.async false
set_option linter.all false
set_option maxRecDepth 100000
set_option maxHeartbeats 2000000
namespace KI.K13
open PySem PySem.Spec PyProof.Rows L2 KI
/-! ## normal_row -/
theorem nrow_eq : g_normal_row = (seqS (ifS (notT (truT (isiE ["list", "tuple"] (vR 1)))) (seqS (raiseS "BadNumber" ["place"] (consA (negE (cE (.int 1))) nilA)) nxS) nxS) (seqS (ifS (cmpT neP (biE lenP (consA (vR 1) nilA)) (vR 2)) (seqS (raiseS "OtherSize" ["size"] (consA (vE 2) nilA)) nxS) nxS) (seqS (retS (biE tupleP (consA (lcE [3, 4] (enumA (vE 1)) (pairG 3 4) yesT (callE fi_normal_number [] (consA (vE 0) (consA (vE 4) (consA (vE 3) nilA))))) nilA))) nxS))) := rfl
theorem enum_ok {f : EF} {env : SEnv} {st st1 p : PV} {ps : List PV} (h : f env st = .ok p st1) (h2 : seqP p = some ps) : enumA f env st = .ok (enumPs ps) st1 := by
  rw [enumA_ap, h, ER.bind_ok, h2]
theorem len_lst {ps : List PV} : lenP [.lst ps] = some (.int (ps.length : Nat)) := rfl
theorem len_tup {ps : List PV} : lenP [.tup ps] = some (.int (ps.length : Nat)) := rfl
theorem c_nrow (pr : Int) (v : List Int) (hz : v.length ≤ sizeLine) (st : PV) : callK fi_normal_row [.int pr, ivs v, .int (v.length : Nat)] st = .ok (.tup (v.map (nrm pr))) st := by
  have hL : lcL (pairG 3 4) yesT (callE fi_normal_number [] (consA (vE 0) (consA (vE 4) (consA (vE 3) nilA)))) [.sh (.int pr), .sh (ivs v), .sh (.int (v.length : Nat)), .dead, .dead] (enumPs (v.map .int)) .non = .ok (v.map (nrm pr)) .non := by
    rw [enum_is]
    unfold items
    rw [lcL_map (fun x : Int × Nat => PV.tup [.int (x.2 : Nat), .int x.1]) (fun x => nrm pr x.1) (v.zipIdx 0) fun x hx => ⟨[.sh (.int pr), .sh (ivs v), .sh (.int (v.length : Nat)), .sh (.int (x.2 : Nat)), .sh (.int x.1)], rfl, call_ok (ps := [.int pr, .int x.1, .int (x.2 : Nat)]) (st1 := .non) rfl (c_normal _ _ _ _)⟩]
    have : (v.zipIdx 0).map (fun x => nrm pr x.1) = ((v.zipIdx 0).map Prod.fst).map (nrm pr) := by rw [List.map_map]; rfl
    rw [this, List.zipIdx_map_fst]
  have c1 : notT (truT (isiE ["list", "tuple"] (vR 1))) [.sh (.int pr), .sh (ivs v), .sh (.int (v.length : Nat)), .dead, .dead] .non = .ok false .non := not_okT (a := true) (tru_ok (p := .bl true) rfl rfl)
  have c2 : cmpT neP (biE lenP (consA (vR 1) nilA)) (vR 2) [.sh (.int pr), .sh (ivs v), .sh (.int (v.length : Nat)), .dead, .dead] .non = .ok false .non := by
    refine cmp_ok (a := .int (v.length : Nat)) (b := .int (v.length : Nat)) (bi_ok (one_ok (p := ivs v) rfl) ?_) rfl ?_
    · rw [len_lst, List.length_map]
    · rw [neP_int]; simp
  have e : g_normal_row [.sh (.int pr), .sh (ivs v), .sh (.int (v.length : Nat)), .dead, .dead] .non = .ret (.tup (v.map (nrm pr))) false [.sh (.int pr), .sh (ivs v), .sh (.int (v.length : Nat)), .dead, .dead] .non := by
    rw [nrow_eq]
    refine seq_nx (if_ok c1 rfl) (seq_nx (if_ok c2 rfl) (seq_ret (ret_ok (bi_ok (one_ok (lc_ok (enum_ok (p := ivs v) rfl rfl) rfl ?_ hL)) rfl))))
    rw [enumPs_length, List.length_map]
    exact hz
  have e3 : fi_normal_row.sem [.int pr, ivs v, .int (v.length : Nat)] .non = .ok (.tup (v.map (nrm pr))) .non := sem_ok e (fun h => by cases h)
  rw [callK_val, e3]
/-! ## row_dot -/
def dotI (v u : List Int) : Int := ((v.zip u).map fun x => x.1 * x.2).sum
def dotM (pr : Int) (v u : List Int) : Int := ((v.zip u).map fun x => Int.fmod x.1 pr * Int.fmod x.2 pr).sum
theorem dot_mod {pr : Int} (h : 0 ≤ pr) : ∀ v u : List Int, Int.fmod (dotM pr v u) pr = Int.fmod (dotI v u) pr
  | [], _ => by simp [dotM, dotI]
  | _ :: _, [] => by simp [dotM, dotI]
  | a :: v, b :: u => by
    have ih := dot_mod h v u
    have e1 : dotM pr (a :: v) (b :: u) = Int.fmod a pr * Int.fmod b pr + dotM pr v u := by simp [dotM]
    have e2 : dotI (a :: v) (b :: u) = a * b + dotI v u := by simp [dotI]
    rw [e1, e2]
    rw [Int.fmod_eq_emod_of_nonneg _ h, Int.fmod_eq_emod_of_nonneg _ h] at ih ⊢
    rw [Int.fmod_eq_emod_of_nonneg _ h, Int.fmod_eq_emod_of_nonneg _ h]
    rw [Int.add_emod, ih, ← Int.mul_emod, ← Int.add_emod]
def dotB : SF := (seqS (ifS (andT (cmpT neP (opE ixP (vR 4) (cE (.int 0))) (cE (.int 0))) (cmpT neP (opE ixP (vR 5) (cE (.int 0))) (cE (.int 0)))) (seqS (setS 3 (callE fi_add_numbers [] (consA (cE (.int 0)) (consA (vE 3) (consA (callE fi_mul_numbers [] (consA (cE (.int 0)) (consA (vE 4) (consA (vE 5) nilA)))) nilA))))) nxS) nxS) (fun env st => .nx (killS [4, 5] env) st))
theorem dot_eq : g_row_dot = (seqS (ifS (truT (vR 0)) (seqS (retS (opE modP (biE sumP (consA (lcE [4, 5] (zipA (consA (vE 1) (consA (vE 2) nilA))) (pairG 4 5) yesT (opE mulP (vR 4) (vR 5))) nilA)) (vR 0))) nxS) nxS) (seqS (setS 3 (tupE (consA (cE (.int 0)) (consA (cE (.int 1)) nilA)))) (seqS (forS (zipA (consA (vE 1) (consA (vE 2) nilA))) (pairG 4 5) dotB) (seqS (retS (vE 3)) nxS)))) := rfl
theorem zip_nrm (pr : Int) (v u : List Int) : zipPs (v.map (nrm pr)) (u.map (nrm pr)) = (v.zip u).map fun x => PV.tup [nrm pr x.1, nrm pr x.2] := by
  unfold zipPs
  rw [List.zip_map, List.map_map]
  rfl
theorem zip_ok {f : AF} {env : SEnv} {st st1 : PV} {ps qs : List PV} (h : f env st = .ok [.tup ps, .tup qs] st1) : zipA f env st = .ok (zipPs ps qs) st1 := by
  unfold zipA
  rw [h, ER.bind_ok]
  rfl
theorem c_mul0 (a b : Int) (h1 : -(2 ^ 64) < a) (h2 : a < 2 ^ 64) (st : PV) : callK fi_mul_numbers [.int 0, nrm 0 a, nrm 0 b] st = .ok (nrm 0 (a * b)) st := by
  have t0 : truT (vR 0) [.sh (.int 0), .sh (nrm 0 a), .sh (nrm 0 b)] .non = .ok false .non := tru_ok (p := .int 0) rfl rfl
  have e1 : ∀ i, cmpT eqP (opE ixP (vR (i + 1)) (cE (.int 1))) (cE (.int 1)) [.sh (.int 0), .sh (nrm 0 a), .sh (nrm 0 b)] .non = .ok true .non ∨ 2 ≤ i := fun i => by
    match i with
    | 0 => exact .inl (cmp_ok (a := .int 1) (b := .int 1) (ix_ok (a := nrm 0 a) rfl rfl rfl) rfl (by rw [eqP_int]; rfl))
    | 1 => exact .inl (cmp_ok (a := .int 1) (b := .int 1) (ix_ok (a := nrm 0 b) rfl rfl rfl) rfl (by rw [eqP_int]; rfl))
    | i + 2 => exact .inr (by omega)
  have c : andT (cmpT eqP (opE ixP (vR 1) (cE (.int 1))) (cE (.int 1))) (cmpT eqP (opE ixP (vR 2) (cE (.int 1))) (cE (.int 1))) [.sh (.int 0), .sh (nrm 0 a), .sh (nrm 0 b)] .non = .ok true .non :=
    and_ok ((e1 0).resolve_right (by omega)) (fun _ => (e1 1).resolve_right (by omega)) (fun _ => rfl)
  have d : opE mulP (opE ixP (vR 1) (cE (.int 0))) (opE ixP (vR 2) (cE (.int 0))) [.sh (.int 0), .sh (nrm 0 a), .sh (nrm 0 b)] .non = .ok (.int (a * b)) .non :=
    op_ok (ix_ok (a := nrm 0 a) (z := .int a) rfl rfl rfl) (ix_ok (a := nrm 0 b) (z := .int b) rfl rfl rfl) (mul_l _ _ h1 h2)
  have e : g_mul_numbers [.sh (.int 0), .sh (nrm 0 a), .sh (nrm 0 b)] .non = .ret (nrm 0 (a * b)) false [.sh (.int 0), .sh (nrm 0 a), .sh (nrm 0 b)] .non :=
    seq_nx (if_ok t0 rfl) (if_hit c (tup_ok (cons_ok d (one_ok rfl)) s2))
  have e3 : fi_mul_numbers.sem [.int 0, nrm 0 a, nrm 0 b] .non = .ok (nrm 0 (a * b)) .non := sem_ok e (fun h => by cases h)
  rw [callK_val, e3]
theorem c_add0 (a b : Int) (st : PV) : callK fi_add_numbers [.int 0, nrm 0 a, nrm 0 b] st = .ok (nrm 0 (a + b)) st := by
  have t0 : truT (vR 0) [.sh (.int 0), .sh (nrm 0 a), .sh (nrm 0 b)] .non = .ok false .non := tru_ok (p := .int 0) rfl rfl
  have e1 : ∀ i, cmpT eqP (opE ixP (vR (i + 1)) (cE (.int 1))) (cE (.int 1)) [.sh (.int 0), .sh (nrm 0 a), .sh (nrm 0 b)] .non = .ok true .non ∨ 2 ≤ i := fun i => by
    match i with
    | 0 => exact .inl (cmp_ok (a := .int 1) (b := .int 1) (ix_ok (a := nrm 0 a) rfl rfl rfl) rfl (by rw [eqP_int]; rfl))
    | 1 => exact .inl (cmp_ok (a := .int 1) (b := .int 1) (ix_ok (a := nrm 0 b) rfl rfl rfl) rfl (by rw [eqP_int]; rfl))
    | i + 2 => exact .inr (by omega)
  have c : andT (cmpT eqP (opE ixP (vR 1) (cE (.int 1))) (cE (.int 1))) (cmpT eqP (opE ixP (vR 2) (cE (.int 1))) (cE (.int 1))) [.sh (.int 0), .sh (nrm 0 a), .sh (nrm 0 b)] .non = .ok true .non :=
    and_ok ((e1 0).resolve_right (by omega)) (fun _ => (e1 1).resolve_right (by omega)) (fun _ => rfl)
  have d : opE addP (opE ixP (vR 1) (cE (.int 0))) (opE ixP (vR 2) (cE (.int 0))) [.sh (.int 0), .sh (nrm 0 a), .sh (nrm 0 b)] .non = .ok (.int (a + b)) .non :=
    op_ok (ix_ok (a := nrm 0 a) (z := .int a) rfl rfl rfl) (ix_ok (a := nrm 0 b) (z := .int b) rfl rfl rfl) (addP_int _ _)
  have e : g_add_numbers [.sh (.int 0), .sh (nrm 0 a), .sh (nrm 0 b)] .non = .ret (nrm 0 (a + b)) false [.sh (.int 0), .sh (nrm 0 a), .sh (nrm 0 b)] .non :=
    seq_nx (if_ok t0 rfl) (if_hit c (tup_ok (cons_ok d (one_ok rfl)) s2))
  have e3 : fi_add_numbers.sem [.int 0, nrm 0 a, nrm 0 b] .non = .ok (nrm 0 (a + b)) .non := sem_ok e (fun h => by cases h)
  rw [callK_val, e3]
def Small (v : List Int) : Prop := ∀ x ∈ v, -2 ≤ x ∧ x ≤ 2
theorem dot_loop (A B : PV) (st : PV) : ∀ (v u : List Int) (tot : Int), Small v →
    forL (pairG 4 5) dotB ((v.zip u).map fun x => PV.tup [nrm 0 x.1, nrm 0 x.2]) [.sh (.int 0), .sh A, .sh B, .sh (nrm 0 tot), .dead, .dead] st = .nx [.sh (.int 0), .sh A, .sh B, .sh (nrm 0 (tot + dotI v u)), .dead, .dead] st
  | [], u, tot, _ => by
    have : tot + dotI [] u = tot := by simp [dotI]
    rw [this]
    rfl
  | a :: v, [], tot, _ => by
    have : tot + dotI (a :: v) [] = tot := by simp [dotI]
    rw [this]
    rfl
  | a :: v, b :: u, tot, hv => by
    have e2 : tot + dotI (a :: v) (b :: u) = tot + a * b + dotI v u := by simp [dotI]; omega
    rw [e2]
    have ih := dot_loop A B st v u (tot + a * b) fun x hx => hv x (List.mem_cons_of_mem _ hx)
    have ha := hv a List.mem_cons_self
    have c1 : andT (cmpT neP (opE ixP (vR 4) (cE (.int 0))) (cE (.int 0))) (cmpT neP (opE ixP (vR 5) (cE (.int 0))) (cE (.int 0))) [.sh (.int 0), .sh A, .sh B, .sh (nrm 0 tot), .sh (nrm 0 a), .sh (nrm 0 b)] st = .ok (!(a == 0) && !(b == 0)) st :=
      and_ok (cmp_ok (a := .int a) (b := .int 0) (ix_ok (a := nrm 0 a) rfl rfl rfl) rfl (neP_int _ _)) (fun _ => cmp_ok (a := .int b) (b := .int 0) (ix_ok (a := nrm 0 b) rfl rfl rfl) rfl (neP_int _ _)) (fun _ => rfl)
    have e : dotB [.sh (.int 0), .sh A, .sh B, .sh (nrm 0 tot), .sh (nrm 0 a), .sh (nrm 0 b)] st = .nx [.sh (.int 0), .sh A, .sh B, .sh (nrm 0 (tot + a * b)), .dead, .dead] st := by
      by_cases hz : a = 0 ∨ b = 0
      · have hc : (!(a == 0) && !(b == 0)) = false := by rcases hz with rfl | rfl <;> simp
        have hm : tot + a * b = tot := by rcases hz with rfl | rfl <;> simp
        rw [hc] at c1
        rw [hm]
        exact seq_nx (if_ok c1 rfl) rfl
      · have hc : (!(a == 0) && !(b == 0)) = true := by
          have h1 : a ≠ 0 := fun z => hz (.inl z)
          have h2 : b ≠ 0 := fun z => hz (.inr z)
          simp [h1, h2]
        rw [hc] at c1
        have d1 : callE fi_mul_numbers [] (consA (cE (.int 0)) (consA (vE 4) (consA (vE 5) nilA))) [.sh (.int 0), .sh A, .sh B, .sh (nrm 0 tot), .sh (nrm 0 a), .sh (nrm 0 b)] st = .ok (nrm 0 (a * b)) st :=
          call_ok (ps := [.int 0, nrm 0 a, nrm 0 b]) (st1 := st) rfl (c_mul0 a b (by omega) (by omega) st)
        have d2 : callE fi_add_numbers [] (consA (cE (.int 0)) (consA (vE 3) (consA (callE fi_mul_numbers [] (consA (cE (.int 0)) (consA (vE 4) (consA (vE 5) nilA)))) nilA))) [.sh (.int 0), .sh A, .sh B, .sh (nrm 0 tot), .sh (nrm 0 a), .sh (nrm 0 b)] st = .ok (nrm 0 (tot + a * b)) st :=
          call_ok (cons_ok (p := .int 0) rfl (cons_ok (p := nrm 0 tot) rfl (one_ok d1))) (c_add0 _ _ st)
        have k3 := seq_nx (set_ok (i := 3) d2) (show nxS _ st = _ from rfl)
        exact seq_nx (if_ok c1 k3) rfl
    exact forL_nx (p := .tup [nrm 0 a, nrm 0 b]) rfl e ih
theorem c_dot {pr : Int} (hp : Fld pr) {v u : List Int} (hv : Small v) (hz : v.length ≤ 1000) (h0 : dotI v u = 0) (st : PV) : callK fi_row_dot [.int pr, .tup (v.map (nrm pr)), .tup (u.map (nrm pr))] st = .ok (nrm pr 0) st := by
  have hs : sizeLine = 16777216 := sizeLine_eq
  have hA : consA (vE 1) (consA (vE 2) nilA) [.sh (.int pr), .sh (.tup (v.map (nrm pr))), .sh (.tup (u.map (nrm pr))), .dead, .dead, .dead] .non = .ok [.tup (v.map (nrm pr)), .tup (u.map (nrm pr))] .non := rfl
  have e : ∃ env1, g_row_dot [.sh (.int pr), .sh (.tup (v.map (nrm pr))), .sh (.tup (u.map (nrm pr))), .dead, .dead, .dead] .non = .ret (nrm pr 0) false env1 .non := by
    rw [dot_eq]
    by_cases hq : pr = 0
    · subst hq
      have t0 : truT (vR 0) [.sh (.int 0), .sh (.tup (v.map (nrm 0))), .sh (.tup (u.map (nrm 0))), .dead, .dead, .dead] .non = .ok false .non := tru_ok (p := .int 0) rfl rfl
      have hL := dot_loop (.tup (v.map (nrm 0))) (.tup (u.map (nrm 0))) .non v u 0 hv
      rw [h0] at hL
      have hA2 : zipA (consA (vE 1) (consA (vE 2) nilA)) [.sh (.int 0), .sh (.tup (v.map (nrm 0))), .sh (.tup (u.map (nrm 0))), .sh (nrm 0 0), .dead, .dead] .non = .ok ((v.zip u).map fun x => PV.tup [nrm 0 x.1, nrm 0 x.2]) .non := by
        rw [zip_ok (ps := v.map (nrm 0)) (qs := u.map (nrm 0)) (st1 := .non) rfl, zip_nrm]
      exact ⟨_, seq_nx (if_ok t0 rfl) (seq_nx (set_ok (tup_ok (ps := [.int 0, .int 1]) rfl s2)) (seq_nx (for_ok hA2 hL) (seq_ret (ret_ok rfl))))⟩
    · have h3 : 3 ≤ pr ∧ pr ≤ 97 := hp.resolve_left hq
      have t0 : truT (vR 0) [.sh (.int pr), .sh (.tup (v.map (nrm pr))), .sh (.tup (u.map (nrm pr))), .dead, .dead, .dead] .non = .ok true .non := tru_ok (p := .int pr) rfl (by rw [tru_int]; simp [hq])
      have hL : lcL (pairG 4 5) yesT (opE mulP (vR 4) (vR 5)) [.sh (.int pr), .sh (.tup (v.map (nrm pr))), .sh (.tup (u.map (nrm pr))), .dead, .dead, .dead] ((v.zip u).map fun x => PV.tup [nrm pr x.1, nrm pr x.2]) .non = .ok ((v.zip u).map fun x => PV.int (Int.fmod x.1 pr * Int.fmod x.2 pr)) .non := by
        refine lcL_map (fun x : Int × Int => PV.tup [nrm pr x.1, nrm pr x.2]) (fun x => PV.int (Int.fmod x.1 pr * Int.fmod x.2 pr)) _ fun x _ => ⟨[.sh (.int pr), .sh (.tup (v.map (nrm pr))), .sh (.tup (u.map (nrm pr))), .dead, .sh (nrm pr x.1), .sh (nrm pr x.2)], rfl, ?_⟩
        have k1 : 0 ≤ Int.fmod x.1 pr := Int.fmod_nonneg_of_pos _ (by omega)
        have k2 : Int.fmod x.1 pr < pr := Int.fmod_lt_of_pos _ (by omega)
        refine op_ok (a := nrm pr x.1) (b := nrm pr x.2) rfl rfl ?_
        rw [nrmP hq, nrmP hq]
        exact mul_l _ _ (by omega) (by omega)
      have hA2 : zipA (consA (vE 1) (consA (vE 2) nilA)) [.sh (.int pr), .sh (.tup (v.map (nrm pr))), .sh (.tup (u.map (nrm pr))), .dead, .dead, .dead] .non = .ok ((v.zip u).map fun x => PV.tup [nrm pr x.1, nrm pr x.2]) .non := by
        rw [zip_ok hA, zip_nrm]
      have hs2 : sumP [.lst ((v.zip u).map fun x => PV.int (Int.fmod x.1 pr * Int.fmod x.2 pr))] = some (.int (dotM pr v u)) := by
        have : ((v.zip u).map fun x => PV.int (Int.fmod x.1 pr * Int.fmod x.2 pr)) = ((v.zip u).map fun x => Int.fmod x.1 pr * Int.fmod x.2 pr).map .int := by rw [List.map_map]; rfl
        rw [this]
        show (intsP _).map _ = _
        rw [intsP_map]
        rfl
      have hzip : (((v.zip u).map fun x => PV.tup [nrm pr x.1, nrm pr x.2]) : List PV).length ≤ sizeLine := by
        rw [List.length_map, List.length_zip]
        omega
      have d1 := lc_ok hA2 (vs := [4, 5]) rfl hzip hL
      have d2 : opE modP (biE sumP (consA (lcE [4, 5] (zipA (consA (vE 1) (consA (vE 2) nilA))) (pairG 4 5) yesT (opE mulP (vR 4) (vR 5))) nilA)) (vR 0) [.sh (.int pr), .sh (.tup (v.map (nrm pr))), .sh (.tup (u.map (nrm pr))), .dead, .dead, .dead] .non = .ok (nrm pr 0) .non := by
        refine op_ok (bi_ok (one_ok d1) hs2) (b := .int pr) rfl ?_
        rw [modP_int _ _ hq, dot_mod (by omega), h0, nrmP hq]
      exact ⟨_, if_hit t0 d2⟩
  obtain ⟨env1, e⟩ := e
  have e3 : fi_row_dot.sem [.int pr, .tup (v.map (nrm pr)), .tup (u.map (nrm pr))] .non = .ok (nrm pr 0) .non := sem_ok e (fun h => by cases h)
  rw [callK_val, e3]
end KI.K13

/-! part P13i -/
set_option Elab.async false
set_option linter.all false
set_option maxRecDepth 100000
set_option maxHeartbeats 2000000
namespace KI.K13
open PySem PySem.Spec PyProof.Rows L2 KI
/-! ## fields -/
def fp (pr : Int) : PV := if pr = 0 then .ins "Fractions" ["prime"] [.int 0] else .ins "Prime" ["prime"] [.int pr]
abbrev primesL : List Int := [2, 3, 5, 7, 11, 13, 17, 19, 23, 29, 31, 37, 41, 43, 47, 53, 59, 61, 67, 71, 73, 79, 83, 89, 97]
theorem fld_prime (pr : Int) : fldP ["Prime", "Fractions"] "prime" (fp pr) = some (.int pr) := by
  unfold fp
  by_cases h : pr = 0
  · subst h; rfl
  · rw [if_neg h]; rfl
theorem fldE_ok {cs : List Str} {f : Str} {fa : EF} {env : SEnv} {st st1 p q : PV} (h : fa env st = .ok p st1) (h2 : fldP cs f p = some q) : fldE cs f fa env st = .ok q st1 := by
  rw [fldE_ap, h, ER.bind_ok, h2]
theorem in_primes (pr : Int) (h : pr ∈ primesL) : inP true (.int pr) (.tup (primesL.map .int)) = some false := by
  have h1 : (primesL.map PV.int).all flatP = true := by
    rw [List.all_eq_true]
    intro p hp
    obtain ⟨j, _, rfl⟩ := List.mem_map.mp hp
    rfl
  have h2 : ((primesL.map PV.int).any fun r => eqF r (.int pr)) = true := by
    rw [List.any_eq_true]
    exact ⟨.int pr, List.mem_map.mpr ⟨pr, h, rfl⟩, by show (pr == pr) = true; simp⟩
  show (if flatP (.int pr) = true ∧ (primesL.map PV.int).all flatP = true then some (if true = true then !((primesL.map PV.int).any fun r => eqF r (.int pr)) else ((primesL.map PV.int).any fun r => eqF r (.int pr))) else none) = some false
  rw [if_pos ⟨rfl, h1⟩, h2]
  rfl
theorem c_finit (c : Str) (hc : c = "Prime" ∨ c = "Fractions") (pr : Int) : callK fi_Field_init [.non, .int pr] (.ins c [] []) = .ok .non (.ins c ["prime"] [.int pr]) := by
  have e : g_Field_init [.mt, .sh (.int pr)] (.ins c [] []) = .nx [.mt, .sh (.int pr)] (.ins c ["prime"] [.int pr]) := by
    refine seq_nx (setF_ok (p := .int pr) (c := c) (ns := []) (ps := []) rfl rfl ?_ (by decide)) rfl
    rcases hc with rfl | rfl <;> simp
  rw [callK_mu]
  show endS true false (g_Field_init [.mt, .sh (.int pr)] (.ins c [] [])) = _
  rw [e]
  rfl
theorem super_ok {c : Str} {fi : FnI} {fa : AF} {env : SEnv} {ns ns2 : List Str} {ps ps2 qs : List PV} (he : env[0]? = some .mt) (ha : fa env (.ins c ns ps) = .ok qs (.ins c ns ps)) (h : callK fi (.non :: qs) (.ins c ns ps) = .ok .non (.ins c ns2 ps2)) :
    superS c fi fa env (.ins c ns ps) = .nx env (.ins c ns2 ps2) := by
  have e : callE fi [] (consA (mtA 0) fa) env (.ins c ns ps) = .ok .non (.ins c ns2 ps2) := by
    refine call_ok (cons_ok (p := .non) (st1 := .ins c ns ps) ?_ ha) (by rw [List.append_nil]; exact h)
    rw [mtA_ap, he]
  unfold superS
  rw [he]
  dsimp only
  rw [if_pos rfl, e]
  rfl
theorem mk_prime {pr : Int} (h : pr ∈ primesL) (st : PV) : makeK "Prime" fi_Prime_init [.int pr] st = .ok (fp pr) st := by
  have h0 : pr ≠ 0 := by
    rintro rfl
    revert h; decide
  have e : g_Prime_init [.mt, .sh (.int pr)] (.ins "Prime" [] []) = .nx [.mt, .sh (.int pr)] (.ins "Prime" ["prime"] [.int pr]) := by
    have c1 : notT (truT (callE fi_is_whole [] (consA (vE 1) nilA))) [.mt, .sh (.int pr)] (.ins "Prime" [] []) = .ok false (.ins "Prime" [] []) := not_okT (a := true) (whole_ok pr _ 1 _ rfl)
    have c2 : cmpT (inP true) (vR 1) (cE (.tup (primesL.map .int))) [.mt, .sh (.int pr)] (.ins "Prime" [] []) = .ok false (.ins "Prime" [] []) := cmp_ok (a := .int pr) rfl rfl (in_primes pr h)
    exact seq_nx (if_ok c1 rfl) (seq_nx (if_ok c2 rfl) (super_ok rfl rfl (c_finit "Prime" (.inl rfl) pr)))
  have e2 : fi_Prime_init.sem [.non, .int pr] (.ins "Prime" [] []) = .ok .non (.ins "Prime" ["prime"] [.int pr]) := by
    show endS true false (g_Prime_init [.mt, .sh (.int pr)] (.ins "Prime" [] [])) = _
    rw [e]
    rfl
  unfold makeK
  rw [e2]
  unfold fp
  rw [if_neg h0]
theorem mk_fractions (st : PV) : makeK "Fractions" fi_Fractions_init [] st = .ok (fp 0) st := by
  have e : g_Fractions_init [.mt] (.ins "Fractions" [] []) = .nx [.mt] (.ins "Fractions" ["prime"] [.int 0]) := super_ok rfl (qs := [.int 0]) rfl (c_finit "Fractions" (.inr rfl) 0)
  have e2 : fi_Fractions_init.sem [.non] (.ins "Fractions" [] []) = .ok .non (.ins "Fractions" ["prime"] [.int 0]) := by
    show endS true false (g_Fractions_init [.mt] (.ins "Fractions" [] [])) = _
    rw [e]
    rfl
  unfold makeK
  rw [e2]
  rfl
theorem c_need (pr : Int) (st : PV) : callK fi_need_field [fp pr] st = .ok (fp pr) st := by
  have k : isoE [("Prime", true), ("Fractions", true)] (vR 0) [.sh (fp pr)] .non = .ok (.bl true) .non := by
    unfold fp
    by_cases h : pr = 0
    · rw [if_pos h]; rfl
    · rw [if_neg h]; rfl
  have e : g_need_field [.sh (fp pr)] .non = .ret (fp pr) false [.sh (fp pr)] .non :=
    seq_nx (if_ok (not_okT (tru_ok k rfl)) rfl) (seq_ret (ret_ok rfl))
  have e3 : fi_need_field.sem [fp pr] .non = .ok (fp pr) .non := sem_ok e (fun h => by cases h)
  rw [callK_val, e3]
/-! ## fitting_row -/
def nrow (pr : Int) (v : List Int) : PV := .tup (v.map (nrm pr))
abbrev gE (pr : Int) (l : List Nat) (row : Int) (v : List Int) (s4 s5 s6 s7 : Slot) : SEnv := [.sh (fp pr), .sh (tx l), .sh (.int row), .sh (ivs v), s4, s5, s6, s7]
def fitB : SF := (seqS (ifS (notT (truT (callE fi_fits_mark [] (consA (fldE ["Prime", "Fractions"] "prime" (vR 0)) (consA (vE 5) (consA (opE ixP (vR 6) (vR 4)) nilA)))))) (seqS (raiseS "WrongWeight" ["row", "column"] (consA (vE 2) (consA (vE 4) nilA))) nxS) nxS) (fun env st => .nx (killS [4, 5] env) st))
def fitT : SF := (seqS (setS 6 (callE fi_normal_row [] (consA (fldE ["Prime", "Fractions"] "prime" (vR 0)) (consA (vE 3) (consA (biE lenP (consA (vR 1) nilA)) nilA))))) nxS)
theorem fit_eq : g_fitting_row = (seqS (tryS exmT fitT [("BadNumber", some 7, (fun _ _ => .stuck))]) (seqS (forS (enumA (vE 1)) (pairG 4 5) fitB) (seqS (retS (vE 6)) nxS))) := rfl
theorem ix_nrow {pr : Int} {v : List Int} {j : Nat} (h : j < v.length) : ixP (nrow pr v) (.int (j : Int)) = some (nrm pr (vat v j)) := by
  show L2.atI (v.map (nrm pr)) (j : Int) = _
  exact atI_nat (by rw [List.getElem?_map, vat_at h]; rfl)
theorem fit_loop {pr : Int} (hp : Fld pr) {n : Nat} {l : List Nat} (h : LineOk n l) {v : List Int} (hv : RowOk l v) (row : Int) (st : PV) : ∀ ks : List Nat, (∀ k ∈ ks, k < n) →
    forL (pairG 4 5) fitB (ks.map fun (j : Nat) => PV.tup [.int (j : Int), ch (mk l j)]) (gE pr l row v .dead .dead (.sh (nrow pr v)) .dead) st = .nx (gE pr l row v .dead .dead (.sh (nrow pr v)) .dead) st
  | [], _ => rfl
  | k :: ks, hk => by
    have ih := fit_loop hp h hv row st ks fun j hj => hk j (List.mem_cons_of_mem _ hj)
    have hk0 := hk k List.mem_cons_self
    have hll := h.1
    have hvl := hv.1
    have hf : FitOk (mk l k) (vat v k) := by
      obtain ⟨q1, q2, q3, q4, q5⟩ := hv.2 k (by omega)
      exact ⟨h.2.1 _ (mk_mem (by omega)), q1, q2, q3, q4, q5⟩
    have d : callE fi_fits_mark [] (consA (fldE ["Prime", "Fractions"] "prime" (vR 0)) (consA (vE 5) (consA (opE ixP (vR 6) (vR 4)) nilA))) (gE pr l row v (.sh (.int (k : Int))) (.sh (ch (mk l k))) (.sh (nrow pr v)) .dead) st = .ok (.bl true) st :=
      call_ok (cons_ok (fldE_ok (p := fp pr) rfl (fld_prime pr)) (cons_ok (p := ch (mk l k)) rfl (one_ok (ix_ok (a := nrow pr v) rfl rfl (ix_nrow (by omega)))))) (c_fits hp hf st)
    have e : fitB (gE pr l row v (.sh (.int (k : Int))) (.sh (ch (mk l k))) (.sh (nrow pr v)) .dead) st = .nx (gE pr l row v .dead .dead (.sh (nrow pr v)) .dead) st :=
      seq_nx (if_ok (not_okT (tru_ok d rfl)) rfl) rfl
    exact forL_nx (p := .tup [.int (k : Int), ch (mk l k)]) rfl e ih
theorem c_fit {pr : Int} (hp : Fld pr) {n : Nat} {l : List Nat} (h : LineOk n l) (hn : n ≤ sizeLine) {v : List Int} (hv : RowOk l v) (row : Int) (st : PV) : callK fi_fitting_row [fp pr, tx l, .int row, ivs v] st = .ok (nrow pr v) st := by
  have hll := h.1
  have hvl := hv.1
  have d : callE fi_normal_row [] (consA (fldE ["Prime", "Fractions"] "prime" (vR 0)) (consA (vE 3) (consA (biE lenP (consA (vR 1) nilA)) nilA))) (gE pr l row v .dead .dead .dead .dead) .non = .ok (nrow pr v) .non := by
    refine call_ok (cons_ok (fldE_ok (p := fp pr) rfl (fld_prime pr)) (cons_ok (p := ivs v) rfl (one_ok (bi_ok (one_ok (p := tx l) rfl) (len_tx l (by omega)))))) ?_
    rw [← hvl]
    exact c_nrow pr v (by omega) .non
  have d2 : fitT (gE pr l row v .dead .dead .dead .dead) .non = .nx (gE pr l row v .dead .dead (.sh (nrow pr v)) .dead) .non := seq_nx (set_ok d) rfl
  have hL := fit_loop hp h hv row .non (List.range l.length) fun k hk => by
    have := List.mem_range.mp hk
    omega
  rw [← enum_tx] at hL
  have e : g_fitting_row (gE pr l row v .dead .dead .dead .dead) .non = .ret (nrow pr v) false (gE pr l row v .dead .dead (.sh (nrow pr v)) .dead) .non := by
    rw [fit_eq]
    refine seq_nx (env' := gE pr l row v .dead .dead (.sh (nrow pr v)) .dead) (st' := .non) ?_ (seq_nx (for_ok (enum_ok (p := tx l) rfl rfl) hL) (seq_ret (ret_ok rfl)))
    rw [tryS_ap, d2]
  have e3 : fi_fitting_row.sem [fp pr, tx l, .int row, ivs v] .non = .ok (nrow pr v) .non := sem_ok e (fun h => by cases h)
  rw [callK_val, e3]
end KI.K13

/-! part P13j -/
set_option Elab.async false
set_option linter.all false
set_option maxRecDepth 100000
set_option maxHeartbeats 2000000
namespace KI.K13
open PySem PySem.Spec PyProof.Rows L2 KI
/-! ## Weighted -/
def wgt (pr : Int) (n : Nat) (ls : List (List Nat)) (vs : List (List Int)) : PV := .ins "Weighted" ["field", "table", "rows"] [fp pr, tb n ls, .tup (vs.map (nrow pr))]
theorem fld_field (pr : Int) (n : Nat) (ls : List (List Nat)) (vs : List (List Int)) : fldP ["Weighted"] "field" (wgt pr n ls vs) = some (fp pr) := by rfl
theorem fld_table (pr : Int) (n : Nat) (ls : List (List Nat)) (vs : List (List Int)) : fldP ["Weighted"] "table" (wgt pr n ls vs) = some (tb n ls) := by rfl
theorem fld_rows (pr : Int) (n : Nat) (ls : List (List Nat)) (vs : List (List Int)) : fldP ["Weighted"] "rows" (wgt pr n ls vs) = some (.tup (vs.map (nrow pr))) := by rfl
theorem put_w1 (a : PV) : PV.ins "Weighted" (putN "field" []) (putV "field" a [] []) = .ins "Weighted" ["field"] [a] := by rfl
theorem put_w2 (a b : PV) : PV.ins "Weighted" (putN "table" ["field"]) (putV "table" b ["field"] [a]) = .ins "Weighted" ["field", "table"] [a, b] := by rfl
theorem put_w3 (a b c : PV) : PV.ins "Weighted" (putN "rows" ["field", "table"]) (putV "rows" c ["field", "table"] [a, b]) = .ins "Weighted" ["field", "table", "rows"] [a, b, c] := by rfl
theorem w_in : (Str.ofString "Weighted") ∈ [Str.ofString "Weighted"] := by simp
abbrev mE (pr : Int) (n : Nat) (ls : List (List Nat)) (vs : List (List Int)) : SEnv := [.mt, .sh (fp pr), .sh (tb n ls), .sh (.lst (vs.map ivs)), .dead, .dead]
theorem winit_eq : g_Weighted_init = (seqS (fun env st => liftS ((callE fi_need_field [] (consA (vE 1) nilA)) env st) env fun _ st2 => .nx env st2) (seqS (ifS (notT (truT (isiE ["list", "tuple"] (vR 3)))) (seqS (raiseS "BadNumber" ["place"] (consA (negE (cE (.int 1))) nilA)) nxS) nxS) (seqS (ifS (cmpT neP (biE lenP (consA (vR 3) nilA)) (lenM ["Table"] fi_Table_len (vR 2))) (seqS (raiseS "OtherSize" ["size"] (consA (lenM ["Table"] fi_Table_len (vR 2)) nilA)) nxS) nxS) (seqS (setFldM 0 ["Weighted"] "field" (vE 1)) (seqS (setFldM 0 ["Weighted"] "table" (vE 2)) (seqS (setFldM 0 ["Weighted"] "rows" (biE tupleP (consA (lcE [4, 5] (enumA (vE 3)) (pairG 4 5) yesT (callE fi_fitting_row [] (consA (vE 1) (consA (opE ixP (fldE ["Table"] "lines" (vR 2)) (vR 4)) (consA (vE 4) (consA (vE 5) nilA)))))) nilA))) nxS)))))) := rfl
theorem enum_map {α : Type} (P : α → PV) (xs : List α) : enumPs (xs.map P) = (xs.zipIdx 0).map fun x => PV.tup [.int (x.2 : Nat), P x.1] := by
  unfold enumPs
  rw [List.zipIdx_map, List.map_map]
  rfl
theorem mk_weighted {pr : Int} (hp : Fld pr) {n : Nat} {ls : List (List Nat)} (h : TabOk n ls) {lot : List Nat} {vs : List (List Int)} (hv : RowsOk lot ls vs) (st : PV) : makeK "Weighted" fi_Weighted_init [fp pr, tb n ls, .lst (vs.map ivs)] st = .ok (wgt pr n ls vs) st := by
  have hs : sizeLine = 16777216 := sizeLine_eq
  have hn := h.1
  have hlen := h.2.1
  have hvl := hv.len
  have lift_call : ∀ (env : SEnv) (st2 : PV), vE 1 env st2 = .ok (fp pr) st2 → (fun env st => liftS ((callE fi_need_field [] (consA (vE 1) nilA)) env st) env fun _ st2 => SR.nx env st2) env st2 = .nx env st2 := fun env st2 he => by
    have d : callE fi_need_field [] (consA (vE 1) nilA) env st2 = .ok (fp pr) st2 := call_ok (one_ok he) (c_need pr st2)
    show liftS _ _ _ = _
    rw [d]
    rfl
  have c1 : notT (truT (isiE ["list", "tuple"] (vR 3))) (mE pr n ls vs) (.ins "Weighted" [] []) = .ok false (.ins "Weighted" [] []) := not_okT (a := true) (tru_ok (p := .bl true) rfl rfl)
  have c2 : cmpT neP (biE lenP (consA (vR 3) nilA)) (lenM ["Table"] fi_Table_len (vR 2)) (mE pr n ls vs) (.ins "Weighted" [] []) = .ok false (.ins "Weighted" [] []) := by
    refine cmp_ok (bi_ok (one_ok (p := .lst (vs.map ivs)) rfl) len_lst) (m_len h _ 2 _ rfl) ?_
    rw [neP_int, List.length_map, hvl]
    simp
  have hL : lcL (pairG 4 5) yesT (callE fi_fitting_row [] (consA (vE 1) (consA (opE ixP (fldE ["Table"] "lines" (vR 2)) (vR 4)) (consA (vE 4) (consA (vE 5) nilA))))) (mE pr n ls vs) (enumPs (vs.map ivs)) (.ins "Weighted" ["field", "table"] [fp pr, tb n ls]) = .ok (vs.map (nrow pr)) (.ins "Weighted" ["field", "table"] [fp pr, tb n ls]) := by
    rw [enum_map, lcL_map (fun x : List Int × Nat => PV.tup [.int (x.2 : Nat), ivs x.1]) (fun x => nrow pr x.1) (vs.zipIdx 0) fun x hx => ?_]
    · have : (vs.zipIdx 0).map (fun x => nrow pr x.1) = ((vs.zipIdx 0).map Prod.fst).map (nrow pr) := by rw [List.map_map]; rfl
      rw [this, List.zipIdx_map_fst]
    · have hx' : vs[x.2]? = some x.1 := by
        have := List.mem_zipIdx_iff_getElem?.mp hx
        simpa using this
      obtain ⟨hlt, _⟩ := List.getElem?_eq_some_iff.mp hx'
      have hlt' : x.2 < ls.length := by omega
      obtain ⟨hr, _⟩ := hv.at' (ln_at hlt') hx'
      have hline := h.2.2 _ (List.mem_of_getElem? (ln_at hlt'))
      refine ⟨[.mt, .sh (fp pr), .sh (tb n ls), .sh (.lst (vs.map ivs)), .sh (.int (x.2 : Nat)), .sh (ivs x.1)], rfl, ?_⟩
      exact call_ok (cons_ok (p := fp pr) rfl (cons_ok (ix_ok (fldE_ok (p := tb n ls) rfl (fld_lines n ls)) rfl (ix_lines hlt')) (cons_ok (p := .int (x.2 : Nat)) rfl (one_ok (p := ivs x.1) rfl)))) (c_fit hp hline (by omega) hr _ _)
  have e : g_Weighted_init (mE pr n ls vs) (.ins "Weighted" [] []) = .nx (mE pr n ls vs) (wgt pr n ls vs) := by
    rw [winit_eq]
    refine seq_nx (lift_call _ _ rfl) (seq_nx (if_ok c1 rfl) (seq_nx (if_ok c2 rfl) (seq_nx (setF_ok (p := fp pr) rfl rfl w_in (by decide)) ?_)))
    rw [put_w1]
    refine seq_nx (setF_ok (p := tb n ls) rfl rfl w_in (by decide)) ?_
    rw [put_w2]
    refine seq_nx (setF_ok (p := .tup (vs.map (nrow pr))) (bi_ok (one_ok (lc_ok (enum_ok (p := .lst (vs.map ivs)) rfl rfl) rfl ?_ hL)) rfl) rfl w_in (by decide)) ?_
    · rw [enumPs_length, List.length_map]
      omega
    · rw [put_w3]
      rfl
  have e2 : fi_Weighted_init.sem [.non, fp pr, tb n ls, .lst (vs.map ivs)] (.ins "Weighted" [] []) = .ok .non (wgt pr n ls vs) := by
    show endS true false (g_Weighted_init (mE pr n ls vs) (.ins "Weighted" [] [])) = _
    rw [e]
    rfl
  unfold makeK
  rw [e2]
  rfl
/-! ## silent -/
def ind (n : Nat) (lot : List Nat) : List Int := (List.range n).map fun j => if j ∈ lot then 1 else 0
theorem dot_ind_aux (v : List Int) (f : Nat → Int) : ∀ (k n : Nat), k + n = v.length → dotI (v.drop k) ((List.range' k n).map f) = ((List.range' k n).map fun j => vat v j * f j).sum
  | k, 0, _ => by simp [dotI]
  | k, n + 1, h => by
    have hk : k < v.length := by omega
    have ih := dot_ind_aux v f (k + 1) n (by omega)
    rw [List.drop_eq_getElem_cons hk, List.range'_succ, List.map_cons, List.map_cons, List.sum_cons]
    have e : ∀ (a b : Int) (x y : List Int), dotI (a :: x) (b :: y) = a * b + dotI x y := fun a b x y => by simp [dotI]
    rw [e, ih]
    have : v[k] = vat v k := by
      have := vat_at hk
      rw [List.getElem?_eq_getElem hk] at this
      exact Option.some.inj this
    rw [this]
theorem sum_ind (v : List Int) (lot : List Nat) : ∀ xs : List Nat, (xs.map fun j => vat v j * (if j ∈ lot then 1 else 0)).sum = sm (vat v) (xs.filter fun j => decide (j ∈ lot))
  | [] => by simp [sm]
  | a :: xs => by
    rw [List.map_cons, List.sum_cons, sum_ind v lot xs]
    by_cases h : a ∈ lot
    · rw [List.filter_cons_of_pos (by simpa using h), sm_cons, if_pos h, Int.mul_one]
    · rw [List.filter_cons_of_neg (by simpa using h), if_neg h, Int.mul_zero, Int.zero_add]
theorem dot_ind {n : Nat} {lot : List Nat} (hl : Lot n lot) {v : List Int} (hv : v.length = n) : dotI v (ind n lot) = sm (vat v) lot := by
  have h := dot_ind_aux v (fun j => if j ∈ lot then 1 else 0) 0 n (by omega)
  rw [List.drop_zero, ← List.range_eq_range'] at h
  unfold ind
  rw [h, sum_ind, filter_in hl List.nodup_range]
theorem ind_len (n : Nat) (lot : List Nat) : (ind n lot).length = n := by simp [ind]
theorem RowOk.small {l : List Nat} {v : List Int} (h : RowOk l v) : Small v := fun x hx => by
  obtain ⟨j, hj⟩ := List.getElem?_of_mem hx
  obtain ⟨hlt, _⟩ := List.getElem?_eq_some_iff.mp hj
  have e := vat_at hlt
  rw [hj] at e
  have := h.2 j (by rw [← h.1]; exact hlt)
  have e := Option.some.inj e
  rw [e]
  exact ⟨this.1, this.2.1⟩
theorem c_dots {pr : Int} (hp : Fld pr) {n : Nat} {ls : List (List Nat)} (h : TabOk n ls) {lot : List Nat} (hl : Lot n lot) {vs : List (List Int)} (hv : RowsOk lot ls vs) (st : PV) : callK fi_Weighted_dots [wgt pr n ls vs, ivs (ind n lot)] st = .ok (.tup (vs.map fun _ => nrm pr 0)) st := by
  have hs : sizeLine = 16777216 := sizeLine_eq
  have hn := h.1
  have hlen := h.2.1
  have hvl := hv.len
  have d1 : callE fi_normal_row [] (consA (fldE ["Prime", "Fractions"] "prime" (fldE ["Weighted"] "field" (vR 0))) (consA (vE 1) (consA (fldE ["Table"] "columns" (fldE ["Weighted"] "table" (vR 0))) nilA))) [.bor (wgt pr n ls vs), .sh (ivs (ind n lot)), .dead, .dead] .non = .ok (nrow pr (ind n lot)) .non := by
    refine call_ok (cons_ok (fldE_ok (fldE_ok (p := wgt pr n ls vs) rfl (fld_field pr n ls vs)) (fld_prime pr)) (cons_ok (p := ivs (ind n lot)) rfl (one_ok (fldE_ok (fldE_ok (p := wgt pr n ls vs) rfl (fld_table pr n ls vs)) (fld_columns n ls))))) ?_
    have := c_nrow pr (ind n lot) (by rw [ind_len]; omega) .non
    rw [ind_len] at this
    exact this
  have hL : lcL (nameG 3) yesT (callE fi_row_dot [] (consA (fldE ["Prime", "Fractions"] "prime" (fldE ["Weighted"] "field" (vR 0))) (consA (vE 3) (consA (vE 2) nilA)))) [.bor (wgt pr n ls vs), .sh (ivs (ind n lot)), .sh (nrow pr (ind n lot)), .dead] (vs.map (nrow pr)) .non = .ok (vs.map fun _ => nrm pr 0) .non := by
    refine lcL_map (nrow pr) (fun _ => nrm pr 0) vs fun v hm => ⟨[.bor (wgt pr n ls vs), .sh (ivs (ind n lot)), .sh (nrow pr (ind n lot)), .sh (nrow pr v)], rfl, ?_⟩
    obtain ⟨i, hi⟩ := List.getElem?_of_mem hm
    obtain ⟨hlt, _⟩ := List.getElem?_eq_some_iff.mp hi
    have hlt' : i < ls.length := by omega
    obtain ⟨q1, q2⟩ := hv.at' (ln_at hlt') hi
    have hvn : v.length = n := by rw [q1.1, (h.line hlt').1]
    refine call_ok (cons_ok (fldE_ok (fldE_ok (p := wgt pr n ls vs) rfl (fld_field pr n ls vs)) (fld_prime pr)) (cons_ok (p := nrow pr v) rfl (one_ok (p := nrow pr (ind n lot)) rfl))) ?_
    exact c_dot hp q1.small (by omega) (by rw [dot_ind hl hvn, q2]) .non
  have e : g_Weighted_dots [.bor (wgt pr n ls vs), .sh (ivs (ind n lot)), .dead, .dead] .non = .ret (.tup (vs.map fun _ => nrm pr 0)) false [.bor (wgt pr n ls vs), .sh (ivs (ind n lot)), .sh (nrow pr (ind n lot)), .dead] .non := by
    refine seq_nx (set_ok d1) (seq_ret (ret_ok (bi_ok (one_ok (lc_ok (seqA_ok (fldE_ok (p := wgt pr n ls vs) rfl (fld_rows pr n ls vs)) rfl) rfl ?_ hL)) rfl)))
    rw [List.length_map]
    omega
  have e3 : fi_Weighted_dots.sem [wgt pr n ls vs, ivs (ind n lot)] .non = .ok (.tup (vs.map fun _ => nrm pr 0)) .non := sem_ok e (fun h => by cases h)
  rw [callK_val, e3]
theorem depth_one : ∀ xs : List PyData, (∀ x ∈ xs, PyData.depth x ≤ 1) → PyData.depthAll xs ≤ 1
  | [], _ => by simp [PyData.depthAll]
  | x :: xs, h => by
    have h1 := h x List.mem_cons_self
    have := depth_one xs fun y hy => h y (List.mem_cons_of_mem _ hy)
    simp [PyData.depthAll]
    omega
theorem okD_reps (pr : Int) (k : Nat) : okD (.tup (List.replicate k (nrm pr 0))) = true := by
  have h1 : ∀ x ∈ toDs (List.replicate k (nrm pr 0)), PyData.depth x ≤ 1 ∧ PyData.canLay0 x = true := fun x hx => by
    rw [toDs_map] at hx
    obtain ⟨p, hp, rfl⟩ := List.mem_map.mp hx
    have := List.eq_of_mem_replicate hp
    subst this
    unfold nrm
    by_cases hq : pr = 0
    · rw [if_pos hq]
      simp [toD, toDs, PyData.depth, PyData.depthAll, PyData.canLay0, PyData.canLayAll0]
    · rw [if_neg hq]
      simp [toD, PyData.depth, PyData.canLay0]
  have h2 : PyData.canLayAll0 (toDs (List.replicate k (nrm pr 0))) = true := lay_strs _ fun x hx => (h1 x hx).2
  have hd := depth_one _ fun x hx => (h1 x hx).1
  unfold okD SeqAt.shaped
  rw [show toD (.tup (List.replicate k (nrm pr 0))) = .tuple (toDs (List.replicate k (nrm pr 0))) from by rw [toD]]
  simp [PyData.canLay0, h2, PyData.depth]
  omega
theorem eq_reps (pr : Int) (k : Nat) : eqP (.tup (List.replicate k (nrm pr 0))) (.tup (List.replicate k (nrm pr 0))) = some true := by
  have h := okD_reps pr k
  unfold eqP
  rw [if_pos ⟨h, h⟩]
  unfold eqB
  rw [SeqAt.eqv_refl _ (okD_lay h)]
theorem rep1_one (p : PV) : ∀ k : Nat, rep1 [p] k = List.replicate k p
  | 0 => rfl
  | k + 1 => by
    show (List.replicate (k + 1) [p]).flatten = _
    rw [List.replicate_succ, List.flatten_cons, List.replicate_succ]
    show p :: rep1 [p] k = _
    rw [rep1_one p k]
theorem m_silent {pr : Int} (hp : Fld pr) {n : Nat} {ls : List (List Nat)} (h : TabOk n ls) {lot : List Nat} (hl : Lot n lot) {vs : List (List Int)} (hv : RowsOk lot ls vs) (st : PV) : callK fi_Weighted_silent [wgt pr n ls vs, ivs (ind n lot)] st = .ok (.bl true) st := by
  have hs : sizeLine = 16777216 := sizeLine_eq
  have hlen := h.2.1
  have hvl := hv.len
  have d1 : methE ["Weighted"] "dots" fi_Weighted_dots [] (vR 0) (consA (vE 1) nilA) [.bor (wgt pr n ls vs), .sh (ivs (ind n lot))] .non = .ok (.tup (List.replicate vs.length (nrm pr 0))) .non := by
    rw [methE_ap, show vR 0 [.bor (wgt pr n ls vs), .sh (ivs (ind n lot))] .non = .ok (wgt pr n ls vs) .non from rfl, ER.bind_ok]
    show (if _ then ((consA (vE 1) nilA [.bor (wgt pr n ls vs), .sh (ivs (ind n lot))] .non).bind fun qs st2 => callK fi_Weighted_dots (wgt pr n ls vs :: (qs ++ [])) st2) else ER.stuck) = _
    rw [if_pos ⟨w_in, by decide +kernel⟩, show consA (vE 1) nilA [.bor (wgt pr n ls vs), .sh (ivs (ind n lot))] .non = .ok [ivs (ind n lot)] .non from rfl, ER.bind_ok]
    have := c_dots hp h hl hv .non
    rw [List.map_const'] at this
    exact this
  have d2 : opE mulT (tupE (consA (callE fi_nought_of [] (consA (fldE ["Prime", "Fractions"] "prime" (fldE ["Weighted"] "field" (vR 0))) nilA)) nilA)) (biE lenP (consA (fldE ["Weighted"] "rows" (vR 0)) nilA)) [.bor (wgt pr n ls vs), .sh (ivs (ind n lot))] .non = .ok (.tup (List.replicate vs.length (nrm pr 0))) .non := by
    refine op_ok (a := .tup [nrm pr 0]) (b := .int (vs.length : Nat)) (st1 := .non) (tup_ok (one_ok (call_ok (one_ok (fldE_ok (fldE_ok (p := wgt pr n ls vs) rfl (fld_field pr n ls vs)) (fld_prime pr))) (c_nought pr .non))) s1) ?_ ?_
    · refine bi_ok (one_ok (fldE_ok (p := wgt pr n ls vs) rfl (fld_rows pr n ls vs))) ?_
      rw [len_tup, List.length_map]
    · show (if [nrm pr 0] ≠ [] ∧ 0 ≤ ((vs.length : Nat) : Int) ∧ ((vs.length : Nat) : Int) ≤ 1000 ∧ [nrm pr 0].length ≤ 1000 then some (PV.tup (rep1 [nrm pr 0] vs.length)) else none) = _
      rw [if_pos ⟨by simp, by omega, by omega, by simp⟩]
      show some (PV.tup (rep1 [nrm pr 0] vs.length)) = _
      rw [rep1_one]
  have e : g_Weighted_silent [.bor (wgt pr n ls vs), .sh (ivs (ind n lot))] .non = .ret (.bl true) false [.bor (wgt pr n ls vs), .sh (ivs (ind n lot))] .non := by
    refine seq_ret (ret_ok (op_ok (g := fun p q => (eqP p q).map PV.bl) d1 d2 ?_))
    rw [eq_reps]
    rfl
  have e3 : fi_Weighted_silent.sem [wgt pr n ls vs, ivs (ind n lot)] .non = .ok (.bl true) .non := sem_ok e (fun h => by cases h)
  rw [callK_val, e3]
end KI.K13

/-! part P13k -/
set_option Elab.async false
set_option linter.all false
set_option maxRecDepth 100000
set_option maxHeartbeats 2000000
namespace KI.K13
open PySem PySem.Spec PyProof.Rows L2 KI
/-! ## the fields -/
theorem make_ok {c : Str} {fi : FnI} {dps : List PV} {fa : AF} {env : SEnv} {st st1 : PV} {ps : List PV} {r : ER PV} (h : fa env st = .ok ps st1) (h2 : makeK c fi (ps ++ dps) st1 = r) : makeE c fi dps fa env st = r := by
  rw [makeE_ap, h, ER.bind_ok]; exact h2
theorem meth_ok {cs : List Str} {m : Str} {fi : FnI} {dps : List PV} {fo : EF} {fa : AF} {env : SEnv} {st st1 st2 : PV} {c : Str} {ns : List Str} {ps qs : List PV} {r : ER PV} (he : fo env st = .ok (.ins c ns ps) st1) (hc : c ∈ cs ∧ m ∉ ns) (ha : fa env st1 = .ok qs st2) (h : callK fi (.ins c ns ps :: (qs ++ dps)) st2 = r) : methE cs m fi dps fo fa env st = r := by
  rw [methE_ap, he, ER.bind_ok]
  show (if _ then ((fa env st1).bind fun qs st2 => callK fi (.ins c ns ps :: (qs ++ dps)) st2) else ER.stuck) = _
  rw [if_pos hc, ha, ER.bind_ok]
  exact h
theorem s12 : (12 : Nat) ≤ sizeLine := by decide
theorem s4 : (4 : Nat) ≤ sizeLine := by decide
theorem pick_in (A : List Int) (hA : ∀ a ∈ A, a ∈ primesL ∧ 3 ≤ a ∧ a ≤ 97) (v : Nat) (hv : v < A.length) : ∃ p : Int, (p ∈ primesL ∧ 3 ≤ p ∧ p ≤ 97) ∧ ixP (.lst (A.map .int)) (.int (v : Int)) = some (.int p) := by
  refine ⟨A[v], hA _ (List.getElem_mem hv), ?_⟩
  show L2.atI (A.map PV.int) (v : Int) = _
  exact atI_nat (by rw [List.getElem?_map, List.getElem?_eq_getElem hv]; rfl)
abbrev firstL : List Int := [3, 5, 7, 11, 13, 17, 19, 23, 29, 31, 37, 41]
abbrev secondL : List Int := [3, 43, 47, 53, 59, 61, 67, 71, 73, 79, 83, 97]
theorem list_seq (xs : List PV) : listP [.tup xs] = some (.lst xs) ∧ listP [.lst xs] = some (.lst xs) := ⟨rfl, rfl⟩
abbrev fkE (n : Nat) (ls : List (List Nat)) (vs : List (List Int)) (lot : List Nat) (s4 s5 s6 s7 : Slot) : SEnv := [.mt, .sh (tb n ls), .sh (.tup (vs.map rowP)), .sh (ivs (ind n lot)), s4, s5, s6, s7, .dead]
def fkB : SF := (seqS (setS 7 (makeE "Weighted" fi_Weighted_init [] (consA (vE 6) (consA (vE 1) (consA (lcE [8] (seqA (vE 2)) (nameG 8) yesT (biE listP (consA (vR 8) nilA))) nilA))))) (seqS (ifS (cmpT isnP (methE ["Weighted"] "silent" fi_Weighted_silent [] (vR 7) (consA (biE listP (consA (vR 3) nilA)) nilA)) (cE (.bl true))) (seqS (retS (cE (.bl false))) nxS) nxS) (fun env st => .nx (killS [6, 7] env) st)))
def fkF : EF := (lstE (consA (makeE "Fractions" fi_Fractions_init [] nilA) (consA (makeE "Prime" fi_Prime_init [] (consA (vE 4) nilA)) (consA (makeE "Prime" fi_Prime_init [] (consA (vE 5) nilA)) (consA (makeE "Prime" fi_Prime_init [] (consA (cE (.int 3)) nilA)) nilA)))))
def fk1 : EF := (opE ixP (lstE (consA (cE (.int 3)) (consA (cE (.int 5)) (consA (cE (.int 7)) (consA (cE (.int 11)) (consA (cE (.int 13)) (consA (cE (.int 17)) (consA (cE (.int 19)) (consA (cE (.int 23)) (consA (cE (.int 29)) (consA (cE (.int 31)) (consA (cE (.int 37)) (consA (cE (.int 41)) nilA))))))))))))) (callE fi__law_next [] (consA (mtA 0) (consA (cE (.int 12)) nilA))))
def fk2 : EF := (opE ixP (lstE (consA (cE (.int 3)) (consA (cE (.int 43)) (consA (cE (.int 47)) (consA (cE (.int 53)) (consA (cE (.int 59)) (consA (cE (.int 61)) (consA (cE (.int 67)) (consA (cE (.int 71)) (consA (cE (.int 73)) (consA (cE (.int 79)) (consA (cE (.int 83)) (consA (cE (.int 97)) nilA))))))))))))) (callE fi__law_next [] (consA (mtA 0) (consA (cE (.int 12)) nilA))))
theorem fk_eq : g__law_fields_kept = (seqS (setS 4 fk1) (seqS (setS 5 fk2) (seqS (forS (seqA fkF) (nameG 6) fkB) (seqS (retS (cE (.bl true))) nxS)))) := rfl
theorem fk_step {pr : Int} (hp : Fld pr) {n : Nat} {ls : List (List Nat)} (h : TabOk n ls) {lot : List Nat} (hl : Lot n lot) {vs : List (List Int)} (hv : RowsOk lot ls vs) (a b : Slot) (st : PV) :
    fkB (fkE n ls vs lot a b (.sh (fp pr)) .dead) st = .nx (fkE n ls vs lot a b .dead .dead) st := by
  have hs : sizeLine = 16777216 := sizeLine_eq
  have hlen := h.2.1
  have hvl := hv.len
  have d1 : lcE [8] (seqA (vE 2)) (nameG 8) yesT (biE listP (consA (vR 8) nilA)) (fkE n ls vs lot a b (.sh (fp pr)) .dead) st = .ok (.lst (vs.map ivs)) st := by
    refine lc_ok (seqA_ok (p := .tup (vs.map rowP)) rfl rfl) rfl (by rw [List.length_map]; omega) ?_
    exact lcL_map rowP ivs vs fun v _ => ⟨[.mt, .sh (tb n ls), .sh (.tup (vs.map rowP)), .sh (ivs (ind n lot)), a, b, .sh (fp pr), .dead, .sh (rowP v)], rfl, bi_ok (one_ok (p := rowP v) rfl) rfl⟩
  have d2 := make_ok (c := "Weighted") (fi := fi_Weighted_init) (dps := []) (cons_ok (p := fp pr) (f := vE 6) rfl (cons_ok (p := tb n ls) (f := vE 1) rfl (one_ok d1))) (mk_weighted hp h hv st)
  have d3 : methE ["Weighted"] "silent" fi_Weighted_silent [] (vR 7) (consA (biE listP (consA (vR 3) nilA)) nilA) (fkE n ls vs lot a b (.sh (fp pr)) (.sh (wgt pr n ls vs))) st = .ok (.bl true) st :=
    meth_ok (c := "Weighted") (ns := ["field", "table", "rows"]) (ps := [fp pr, tb n ls, .tup (vs.map (nrow pr))]) rfl ⟨w_in, by decide +kernel⟩ (one_ok (bi_ok (one_ok (p := ivs (ind n lot)) rfl) rfl)) (m_silent hp h hl hv st)
  exact seq_nx (set_ok d2) (seq_nx (if_ok (cmp_ok (g := isnP) d3 (b := .bl true) rfl (isn_eq true)) rfl) rfl)
theorem fk_loop {n : Nat} {ls : List (List Nat)} (h : TabOk n ls) {lot : List Nat} (hl : Lot n lot) {vs : List (List Int)} (hv : RowsOk lot ls vs) (a b : Slot) (st : PV) : ∀ prs : List Int, (∀ pr ∈ prs, Fld pr) →
    forL (nameG 6) fkB (prs.map fp) (fkE n ls vs lot a b .dead .dead) st = .nx (fkE n ls vs lot a b .dead .dead) st
  | [], _ => rfl
  | pr :: prs, hp => forL_nx rfl (fk_step (hp pr List.mem_cons_self) h hl hv a b st) (fk_loop h hl hv a b st prs fun q hq => hp q (List.mem_cons_of_mem _ hq))
theorem c_fields {n : Nat} {ls : List (List Nat)} (h : TabOk n ls) {lot : List Nat} (hl : Lot n lot) {vs : List (List Int)} (hv : RowsOk lot ls vs) {st : PV} (hS : SOk st) : ∃ st', SOk st' ∧ callK fi__law_fields_kept [.non, tb n ls, .tup (vs.map rowP), ivs (ind n lot)] st = .ok (.bl true) st' := by
  obtain ⟨v1, st1, k1, S1, e1⟩ := c_next hS 12 (by decide)
  obtain ⟨v2, st2, k2, S2, e2⟩ := c_next S1 12 (by decide)
  obtain ⟨p, hp, ip⟩ := pick_in firstL (by decide) v1 (by show v1 < 12; omega)
  obtain ⟨q, hq, iq⟩ := pick_in secondL (by decide) v2 (by show v2 < 12; omega)
  refine ⟨st2, S2, ?_⟩
  have d1 : fk1 (fkE n ls vs lot .dead .dead .dead .dead) st = .ok (.int p) st1 := op_ok (a := .lst (firstL.map .int)) (st1 := st) (lst_ok (ps := firstL.map .int) rfl s12) (call_ok (ps := [.non, .int 12]) (st1 := st) rfl e1) ip
  have d2 : fk2 (fkE n ls vs lot (.sh (.int p)) .dead .dead .dead) st1 = .ok (.int q) st2 := op_ok (a := .lst (secondL.map .int)) (st1 := st1) (lst_ok (ps := secondL.map .int) rfl s12) (call_ok (ps := [.non, .int 12]) (st1 := st1) rfl e2) iq
  have d3 : fkF (fkE n ls vs lot (.sh (.int p)) (.sh (.int q)) .dead .dead) st2 = .ok (.lst ([0, p, q, 3].map fp)) st2 :=
    lst_ok (ps := [fp 0, fp p, fp q, fp 3]) (cons_ok (make_ok (ps := []) rfl (mk_fractions st2)) (cons_ok (make_ok (ps := [.int p]) rfl (mk_prime hp.1 st2)) (cons_ok (make_ok (ps := [.int q]) rfl (mk_prime hq.1 st2)) (one_ok (make_ok (ps := [.int 3]) rfl (mk_prime (by decide) st2)))))) s4
  have hL := fk_loop h hl hv (.sh (.int p)) (.sh (.int q)) st2 [0, p, q, 3] fun r hr => by
    simp only [List.mem_cons, List.not_mem_nil, or_false] at hr
    rcases hr with rfl | rfl | rfl | rfl
    · exact .inl rfl
    · exact .inr hp.2
    · exact .inr hq.2
    · exact .inr (by decide)
  have e : g__law_fields_kept (fkE n ls vs lot .dead .dead .dead .dead) st = .ret (.bl true) false (fkE n ls vs lot (.sh (.int p)) (.sh (.int q)) .dead .dead) st2 := by
    rw [fk_eq]
    exact seq_nx (set_ok d1) (seq_nx (set_ok d2) (seq_nx (for_ok (seqA_ok d3 rfl) hL) (seq_ret (ret_ok rfl))))
  rw [callK_mu]
  exact sem_ok e fun _ => rfl
end KI.K13

/-! part P13l -/
set_option Elab.async false
set_option linter.all false
set_option maxRecDepth 100000
set_option maxHeartbeats 2000000
namespace KI.K13
open PySem PySem.Spec PyProof.Rows L2 KI
/-! ## one lot -/
theorem okD_tg {x : Str} (i : Int) (hx : PyData.strOk x = true) : okD (tg x i) = true := by
  unfold okD SeqAt.shaped tg
  simp [toD, toDs, PyData.canLay0, PyData.canLayAll0, PyData.depth, PyData.depthAll, hx]
theorem eq_self {p : PV} (h : okD p = true) : eqP p p = some true := by
  unfold eqP
  rw [if_pos ⟨h, h⟩]
  unfold eqB
  rw [SeqAt.eqv_refl _ (okD_lay h)]
theorem eq_fort (i : Int) : eqP (tg "fort" i) (tg "fort" i) = some true := eq_self (okD_tg i (by decide +kernel))
abbrev lkE (n : Nat) (ls : List (List Nat)) (lot : List Nat) (s5 s6 s7 s8 s9 : Slot) : SEnv := [.mt, .sh (tb n ls), .sh (.lst (lines ls)), .sh (.int (n : Int)), .sh (.lst (nts lot)), s5, s6, s7, s8, s9, .dead]
def lkB : SF := (seqS (ifS (notT (truT (callE fi__law_small_row [] (consA (opE ixP (vR 2) (vR 8)) (consA (opE ixP (vR 7) (vR 8)) (consA (vE 4) nilA)))))) (seqS (retS (cE (.bl false))) nxS) nxS) (fun env st => .nx (killS [8] env) st))
def lkV : EF := (lcE [10] (rngA (consA (vE 3) nilA)) (nameG 10) yesT (biE intTyP (consA (cmpE (inP false) (vR 10) (vR 4)) nilA)))
def lkC : TF := (orT (cmpT neP (opE ixP (vR 6) (cE (.int 1))) (tupE (consA (cE (.str "let")) (consA (cE (.int 0)) nilA)))) (orT (notT (truT (isiE ["tuple"] (vR 7)))) (cmpT neP (biE lenP (consA (vR 7) nilA)) (biE lenP (consA (vR 2) nilA)))))
theorem lk_eq : g__law_lot_kept = (seqS (setS 5 (callE fi__law_least_row [] (consA (vE 2) (consA (vE 4) nilA)))) (seqS (setS 6 (callE fi__law_asked [] (consA (vE 1) (consA (biE listP (consA (vR 4) nilA)) nilA)))) (seqS (ifS (cmpT isnP (vR 5) (cE .non)) (seqS (retS (andE (cmpE isP (opE ixP (vR 6) (cE (.int 0))) (cE .non)) (cmpE eqP (opE ixP (vR 6) (cE (.int 1))) (tupE (consA (cE (.str "fort")) (consA (vE 5) nilA)))))) nxS) nxS) (seqS (setS 7 (opE ixP (vR 6) (cE (.int 0)))) (seqS (ifS lkC (seqS (retS (cE (.bl false))) nxS) nxS) (seqS (forS (rngA (consA (biE lenP (consA (vR 2) nilA)) nilA)) (nameG 8) lkB) (seqS (setO 9 lkV) (fun env st => (seqS (retS (callE fi__law_fields_kept [] (consA (mtA 0) (consA (vE 1) (consA (vE 7) (consA (vE 9) nilA)))))) nxS) (frzE 9 env) st)))))))) := rfl
theorem lk_loop {n : Nat} {ls : List (List Nat)} (h : TabOk n ls) {lot : List Nat} (hl : Lot n lot) {vs : List (List Int)} (hv : RowsOk lot ls vs) (a b : Slot) (st : PV) : ∀ ks : List Nat, (∀ k ∈ ks, k < ls.length) →
    forL (nameG 8) lkB (nts ks) (lkE n ls lot a b (.sh (.tup (vs.map rowP))) .dead .dead) st = .nx (lkE n ls lot a b (.sh (.tup (vs.map rowP))) .dead .dead) st
  | [], _ => rfl
  | k :: ks, hk => by
    have hs : sizeLine = 16777216 := sizeLine_eq
    have hn := h.1
    have hvl := hv.len
    have ih := lk_loop h hl hv a b st ks fun j hj => hk j (List.mem_cons_of_mem _ hj)
    have hk0 := hk k List.mem_cons_self
    have hkv : k < vs.length := by omega
    obtain ⟨q1, q2⟩ := hv.at' (ln_at hk0) (List.getElem?_eq_getElem hkv)
    have hline := h.2.2 _ (List.mem_of_getElem? (ln_at hk0))
    have i7 : ixP (.tup (vs.map rowP)) (.int (k : Int)) = some (rowP vs[k]) := by
      show L2.atI (vs.map rowP) (k : Int) = _
      exact atI_nat (by rw [List.getElem?_map, List.getElem?_eq_getElem hkv]; rfl)
    have d : callE fi__law_small_row [] (consA (opE ixP (vR 2) (vR 8)) (consA (opE ixP (vR 7) (vR 8)) (consA (vE 4) nilA))) (lkE n ls lot a b (.sh (.tup (vs.map rowP))) (.sh (.int (k : Int))) .dead) st = .ok (.bl true) st :=
      call_ok (cons_ok (ix_ok (a := .lst (lines ls)) rfl rfl (ix_linesL hk0)) (cons_ok (ix_ok (a := .tup (vs.map rowP)) rfl rfl i7) (one_ok (p := .lst (nts lot)) rfl))) (c_srow hline (by omega) q1 hl q2 st)
    have e : lkB (lkE n ls lot a b (.sh (.tup (vs.map rowP))) (.sh (.int (k : Int))) .dead) st = .nx (lkE n ls lot a b (.sh (.tup (vs.map rowP))) .dead .dead) st :=
      seq_nx (if_ok (not_okT (tru_ok d rfl)) rfl) rfl
    exact forL_nx rfl e ih
theorem and_bl {f g : EF} {env : SEnv} {st st1 st2 p : PV} (h : f env st = .ok (.bl true) st1) (h2 : g env st1 = .ok p st2) : andE f g env st = .ok p st2 := by
  rw [andE_ap, h, ER.bind_ok]
  exact h2
theorem cmpE_ok {g : PV → PV → Option Bool} {fa fb : EF} {env : SEnv} {st st1 st2 a b : PV} {z : Bool} (h1 : fa env st = .ok a st1) (h2 : fb env st1 = .ok b st2) (h3 : g a b = some z) : cmpE g fa fb env st = .ok (.bl z) st2 :=
  op_ok (g := fun p q => (g p q).map PV.bl) h1 h2 (by rw [h3]; rfl)
theorem c_lot_kept {n : Nat} {ls : List (List Nat)} (h : TabOk n ls) (hn : n ≤ 150) {lot : List Nat} (hl : Lot n lot) {st : PV} (hS : SOk st) : ∃ st', SOk st' ∧ callK fi__law_lot_kept [.non, tb n ls, .lst (lines ls), .int (n : Int), .lst (nts lot)] st = .ok (.bl true) st' := by
  have hs : sizeLine = 16777216 := sizeLine_eq
  have hlen := h.2.1
  have hll := hl.len
  have hp := c_lot_good (n := n) (by omega) (fun m hm => hl.lt hm) hl.nd (by omega) (.lst (nts lot)) (.inl rfl) .non
  have d1 : callE fi__law_least_row [] (consA (vE 2) (consA (vE 4) nilA)) (lkE n ls lot .dead .dead .dead .dead .dead) st = .ok (optI (leastR ls lot)) st := call_ok (ps := [.lst (lines ls), .lst (nts lot)]) (st1 := st) rfl (c_least h hl st)
  have ask : ∀ (r : PV), callK fi__law_asked [tb n ls, .lst (nts lot)] st = .ok r st → callE fi__law_asked [] (consA (vE 1) (consA (biE listP (consA (vR 4) nilA)) nilA)) (lkE n ls lot (.sh (optI (leastR ls lot))) .dead .dead .dead .dead) st = .ok r st := fun r hr =>
    call_ok (cons_ok (p := tb n ls) rfl (one_ok (bi_ok (one_ok (p := .lst (nts lot)) rfl) rfl))) hr
  cases hr : leastR ls lot with
  | some r =>
    have d2 := ask _ (c_asked_fort _ _ (c_sw_fort h hl hp hr .non) st)
    rw [hr] at d1 d2
    have c1 : cmpT isnP (vR 5) (cE .non) (lkE n ls lot (.sh (optI (some r))) (.sh (.lst [.non, tg "fort" r])) .dead .dead .dead) st = .ok true st := cmp_ok (a := optI (some r)) rfl rfl (isn_opt (some r))
    have d3 : andE (cmpE isP (opE ixP (vR 6) (cE (.int 0))) (cE .non)) (cmpE eqP (opE ixP (vR 6) (cE (.int 1))) (tupE (consA (cE (.str "fort")) (consA (vE 5) nilA)))) (lkE n ls lot (.sh (optI (some r))) (.sh (.lst [.non, tg "fort" r])) .dead .dead .dead) st = .ok (.bl true) st :=
      and_bl (cmpE_ok (a := .non) (b := .non) (ix_ok (a := .lst [.non, tg "fort" r]) rfl rfl rfl) rfl rfl) (cmpE_ok (a := tg "fort" r) (b := tg "fort" r) (ix_ok (a := .lst [.non, tg "fort" r]) rfl rfl rfl) (tup_ok rfl s2) (eq_fort r))
    refine ⟨st, hS, ?_⟩
    have e : g__law_lot_kept (lkE n ls lot .dead .dead .dead .dead .dead) st = .ret (.bl true) false (lkE n ls lot (.sh (optI (some r))) (.sh (.lst [.non, tg "fort" r])) .dead .dead .dead) st := by
      rw [lk_eq]
      exact seq_nx (set_ok d1) (seq_nx (set_ok d2) (if_hit c1 d3))
    rw [callK_mu]
    exact sem_ok e fun _ => rfl
  | none =>
    obtain ⟨vs, hv, hw⟩ := c_sw_ok h hl hp hn hr .non
    have hvl := hv.len
    have d2 := ask _ (c_asked_ok _ _ hw st)
    rw [hr] at d1 d2
    obtain ⟨st', S', hk⟩ := c_fields h hl hv hS
    refine ⟨st', S', ?_⟩
    have c1 : cmpT isnP (vR 5) (cE .non) (lkE n ls lot (.sh (optI none)) (.sh (.lst [.tup (vs.map rowP), tg "let" 0])) .dead .dead .dead) st = .ok false st := cmp_ok (a := optI none) rfl rfl (isn_opt none)
    have d4 : opE ixP (vR 6) (cE (.int 0)) (lkE n ls lot (.sh (optI none)) (.sh (.lst [.tup (vs.map rowP), tg "let" 0])) .dead .dead .dead) st = .ok (.tup (vs.map rowP)) st := ix_ok (a := .lst [.tup (vs.map rowP), tg "let" 0]) rfl rfl rfl
    have l2 : ∀ a b c d e, biE lenP (consA (vR 2) nilA) (lkE n ls lot a b c d e) st = .ok (.int (ls.length : Nat)) st := fun a b c d e => by
      refine bi_ok (one_ok (p := .lst (lines ls)) rfl) ?_
      rw [len_lst, lines_length]
    have c2 : lkC (lkE n ls lot (.sh (optI none)) (.sh (.lst [.tup (vs.map rowP), tg "let" 0])) (.sh (.tup (vs.map rowP))) .dead .dead) st = .ok false st := by
      have q1 : cmpT neP (opE ixP (vR 6) (cE (.int 1))) (tupE (consA (cE (.str "let")) (consA (cE (.int 0)) nilA))) (lkE n ls lot (.sh (optI none)) (.sh (.lst [.tup (vs.map rowP), tg "let" 0])) (.sh (.tup (vs.map rowP))) .dead .dead) st = .ok false st := cmp_ok (a := tg "let" 0) (b := tg "let" 0) (ix_ok (a := .lst [.tup (vs.map rowP), tg "let" 0]) rfl rfl rfl) (tup_ok rfl s2) (t_let 0)
      have q2 : notT (truT (isiE ["tuple"] (vR 7))) (lkE n ls lot (.sh (optI none)) (.sh (.lst [.tup (vs.map rowP), tg "let" 0])) (.sh (.tup (vs.map rowP))) .dead .dead) st = .ok false st := not_okT (a := true) (tru_ok (p := .bl true) rfl rfl)
      have q3 : cmpT neP (biE lenP (consA (vR 7) nilA)) (biE lenP (consA (vR 2) nilA)) (lkE n ls lot (.sh (optI none)) (.sh (.lst [.tup (vs.map rowP), tg "let" 0])) (.sh (.tup (vs.map rowP))) .dead .dead) st = .ok false st := by
        refine cmp_ok (a := .int (ls.length : Nat)) (b := .int (ls.length : Nat)) (bi_ok (one_ok (p := .tup (vs.map rowP)) rfl) ?_) (l2 _ _ _ _ _) ?_
        · rw [len_tup, List.length_map, hvl]
        · rw [neP_int]; simp
      exact or_ok q1 (fun _ => or_ok q2 (fun _ => q3) (fun _ => rfl)) (fun _ => rfl)
    have hL := lk_loop h hl hv (.sh (optI none)) (.sh (.lst [.tup (vs.map rowP), tg "let" 0])) st (List.range ls.length) fun k hk => List.mem_range.mp hk
    have d5 : lkV (lkE n ls lot (.sh (optI none)) (.sh (.lst [.tup (vs.map rowP), tg "let" 0])) (.sh (.tup (vs.map rowP))) .dead .dead) st = .ok (ivs (ind n lot)) st := by
      have : ivs (ind n lot) = .lst ((List.range n).map fun j => PV.int (if j ∈ lot then 1 else 0)) := by
        unfold ivs ind
        rw [List.map_map]
        rfl
      rw [this]
      refine lc_ok (rng_ok (one_ok (p := .int (n : Int)) rfl) (rngP_nat (by omega))) rfl (by rw [len_rng]; omega) ?_
      refine lcL_map (fun j : Nat => PV.int (j : Int)) (fun j => PV.int (if j ∈ lot then 1 else 0)) (List.range n) fun j _ => ⟨[.mt, .sh (tb n ls), .sh (.lst (lines ls)), .sh (.int (n : Int)), .sh (.lst (nts lot)), .sh (optI none), .sh (.lst [.tup (vs.map rowP), tg "let" 0]), .sh (.tup (vs.map rowP)), .dead, .dead, .sh (.int (j : Int))], rfl, ?_⟩
      refine bi_ok (one_ok (cmpE_ok (g := inP false) (a := .int (j : Int)) (b := .lst (nts lot)) rfl rfl (in_nts false j lot))) ?_
      by_cases hm : j ∈ lot <;> simp [hm, intTyP]
    have d6 : callE fi__law_fields_kept [] (consA (mtA 0) (consA (vE 1) (consA (vE 7) (consA (vE 9) nilA)))) (lkE n ls lot (.sh (optI none)) (.sh (.lst [.tup (vs.map rowP), tg "let" 0])) (.sh (.tup (vs.map rowP))) .dead (.sh (ivs (ind n lot)))) st = .ok (.bl true) st' :=
      call_ok (ps := [.non, tb n ls, .tup (vs.map rowP), ivs (ind n lot)]) (st1 := st) rfl hk
    have e : g__law_lot_kept (lkE n ls lot .dead .dead .dead .dead .dead) st = .ret (.bl true) false (lkE n ls lot (.sh (optI none)) (.sh (.lst [.tup (vs.map rowP), tg "let" 0])) (.sh (.tup (vs.map rowP))) .dead (.sh (ivs (ind n lot)))) st' := by
      rw [lk_eq]
      refine seq_nx (set_ok d1) (seq_nx (set_ok d2) (seq_nx (if_ok c1 rfl) (seq_nx (set_ok d4) (seq_nx (if_ok c2 rfl) (seq_nx (for_ok (rng_ok (one_ok (l2 _ _ _ _ _)) (rngP_nat (by omega))) hL) (seq_nx (setO_ok d5) ?_))))))
      exact seq_ret (ret_ok d6)
    rw [callK_mu]
    exact sem_ok e fun _ => rfl
end KI.K13

/-! part P13m -/
set_option Elab.async false
set_option linter.all false
set_option maxRecDepth 100000
set_option maxHeartbeats 2000000
namespace KI.K13
open PySem PySem.Spec PyProof.Rows L2 KI
theorem forL_brk {t : GF} {b : SF} {p : PV} {ps : List PV} {env env1 env2 : SEnv} {st st2 : PV} (h1 : t p env = some env1) (h2 : b env1 st = .brk env2 st2) : forL t b (p :: ps) env st = .nx env2 st2 := by
  unfold forL
  rw [h1]
  dsimp only
  rw [h2]
theorem seq_brk {g1 g2 : SF} {env env' : SEnv} {st st' : PV} (h : g1 env st = .brk env' st') : seqS g1 g2 env st = .brk env' st' := by
  rw [seqS_ap, h]
/-! ## what stays white -/
abbrev yE (n : Nat) (ls : List (List Nat)) (o : PV) (lot : List Nat) (s4 s5 s6 s8 : Slot) : SEnv := [.sh (.lst (lines ls)), .sh (.int (n : Int)), .sh o, .sh (.lst (nts lot)), s4, s5, s6, .dead, s8]
def wlB : SF := (seqS (setS 8 (callE fi__law_lone [] (consA (vE 6) (consA (vE 3) nilA)))) (seqS (ifS (cmpT isnP (vR 8) (cE .non)) (seqS (setO 3 (lcE [7] (seqA (vE 3)) (nameG 7) (cmpT neP (vR 7) (vR 8)) (vE 7))) (fun env st => nxS (frzE 3 env) st)) nxS) (fun env st => .nx (killS [6, 8] env) st)))
def wtB : SF := (seqS (setS 5 (biE lenP (consA (vR 3) nilA))) (seqS (forS (seqA (vE 0)) (nameG 6) wlB) (seqS (ifS (cmpT eqP (biE lenP (consA (vR 3) nilA)) (vR 5)) (seqS (fun env st => .brk env st) nxS) nxS) (fun env st => .nx (killS [4, 5, 6, 8] env) st))))
theorem white_eq : g__law_white_without = (seqS (setO 3 (lcE [7] (rngA (consA (vE 1) nilA)) (nameG 7) (cmpT (inP true) (vR 7) (vR 2)) (vE 7))) (fun env st => (seqS (forS (rngA (consA (opE addP (vR 1) (cE (.int 1))) nilA)) (nameG 4) wtB) (seqS (retS (vE 3)) nxS)) (frzE 3 env) st)) := rfl
theorem wl_step {n : Nat} (hn : n ≤ 600) (ls : List (List Nat)) (o : PV) {lot : List Nat} (hl : Lot n lot) {l : List Nat} (h : LineOk n l) (a b : Slot) (st : PV) :
    ∃ lot', Lot n lot' ∧ wlB (yE n ls o lot a b (.sh (tx l)) .dead) st = .nx (yE n ls o lot' a b .dead .dead) st := by
  have hs : sizeLine = 16777216 := sizeLine_eq
  have hll := hl.len
  have hlen := h.1
  have hc : callK fi__law_lone [tx l, .lst (nts lot)] st = .ok (optI (loneR l lot)) st := by
    rw [callK_val, s_lone l lot (by omega) h.2.1 (fun j hj => by rw [hlen]; exact hl.lt hj) (by omega)]
  have d1 : callE fi__law_lone [] (consA (vE 6) (consA (vE 3) nilA)) (yE n ls o lot a b (.sh (tx l)) .dead) st = .ok (optI (loneR l lot)) st := call_ok (ps := [tx l, .lst (nts lot)]) (st1 := st) rfl hc
  have c1 : cmpT isnP (vR 8) (cE .non) (yE n ls o lot a b (.sh (tx l)) (.sh (optI (loneR l lot)))) st = .ok (loneR l lot).isSome st := cmp_ok (a := optI (loneR l lot)) rfl rfl (isn_opt _)
  cases hr : loneR l lot with
  | none =>
    rw [hr] at d1 c1
    exact ⟨lot, hl, seq_nx (set_ok d1) (seq_nx (if_ok c1 rfl) rfl)⟩
  | some c =>
    rw [hr] at d1 c1
    refine ⟨lot.filter fun j => !((j : Int) == (c : Int)), hl.filter _, ?_⟩
    have d2 : lcE [7] (seqA (vE 3)) (nameG 7) (cmpT neP (vR 7) (vR 8)) (vE 7) (yE n ls o lot a b (.sh (tx l)) (.sh (optI (some c)))) st = .ok (.lst (nts (lot.filter fun j => !((j : Int) == (c : Int))))) st := by
      refine lc_ok (seqA_ok (p := .lst (nts lot)) rfl rfl) rfl (by unfold nts; rw [List.length_map]; omega) ?_
      exact lcL_fil (fun j : Nat => PV.int (j : Int)) (fun j : Nat => PV.int (j : Int)) (fun j => !((j : Int) == (c : Int))) lot fun j _ => ⟨[.sh (.lst (lines ls)), .sh (.int (n : Int)), .sh o, .sh (.lst (nts lot)), a, b, .sh (tx l), .sh (.int (j : Int)), .sh (optI (some c))], rfl, cmp_ok (a := .int (j : Int)) (b := .int (c : Int)) rfl rfl (neP_int _ _), fun _ => rfl⟩
    have d3 : seqS (setO 3 (lcE [7] (seqA (vE 3)) (nameG 7) (cmpT neP (vR 7) (vR 8)) (vE 7))) (fun env st => nxS (frzE 3 env) st) (yE n ls o lot a b (.sh (tx l)) (.sh (optI (some c)))) st = .nx (yE n ls o (lot.filter fun j => !((j : Int) == (c : Int))) a b (.sh (tx l)) (.sh (optI (some c)))) st := seq_nx (setO_ok d2) rfl
    exact seq_nx (set_ok d1) (seq_nx (if_ok c1 d3) rfl)
theorem wl_loop {n : Nat} (hn : n ≤ 600) (ls : List (List Nat)) (o : PV) (a b : Slot) (st : PV) : ∀ (ms : List (List Nat)) (lot : List Nat), Lot n lot → (∀ l ∈ ms, LineOk n l) →
    ∃ lot', Lot n lot' ∧ forL (nameG 6) wlB (lines ms) (yE n ls o lot a b .dead .dead) st = .nx (yE n ls o lot' a b .dead .dead) st
  | [], lot, hl, _ => ⟨lot, hl, rfl⟩
  | l :: ms, lot, hl, h => by
    obtain ⟨lot1, h1, e1⟩ := wl_step hn ls o hl (h l List.mem_cons_self) a b st
    obtain ⟨lot2, h2, e2⟩ := wl_loop hn ls o a b st ms lot1 h1 fun l' hl' => h l' (List.mem_cons_of_mem _ hl')
    exact ⟨lot2, h2, forL_nx (p := tx l) rfl e1 e2⟩
theorem wt_loop {n : Nat} (hn : n ≤ 600) {ls : List (List Nat)} (h : ∀ l ∈ ls, LineOk n l) (o : PV) (st : PV) : ∀ (ks : List Nat) (lot : List Nat), Lot n lot →
    ∃ lot' a b c d, Lot n lot' ∧ forL (nameG 4) wtB (nts ks) (yE n ls o lot .dead .dead .dead .dead) st = .nx (yE n ls o lot' a b c d) st
  | [], lot, hl => ⟨lot, _, _, _, _, hl, rfl⟩
  | k :: ks, lot, hl => by
    have hs : sizeLine = 16777216 := sizeLine_eq
    have ln3 : ∀ (lt : List Nat) a b c d, biE lenP (consA (vR 3) nilA) (yE n ls o lt a b c d) st = .ok (.int (lt.length : Nat)) st := fun lt a b c d => by
      refine bi_ok (one_ok (p := .lst (nts lt)) rfl) ?_
      rw [len_lst]
      unfold nts
      rw [List.length_map]
    obtain ⟨lot1, h1, e1⟩ := wl_loop hn ls o (.sh (.int (k : Int))) (.sh (.int (lot.length : Nat))) st ls lot hl h
    have c1 : cmpT eqP (biE lenP (consA (vR 3) nilA)) (vR 5) (yE n ls o lot1 (.sh (.int (k : Int))) (.sh (.int (lot.length : Nat))) .dead .dead) st = .ok (((lot1.length : Nat) : Int) == ((lot.length : Nat) : Int)) st := cmp_ok (ln3 _ _ _ _ _) (b := .int (lot.length : Nat)) rfl (eqP_int _ _)
    by_cases hc : ((lot1.length : Nat) : Int) == ((lot.length : Nat) : Int)
    · rw [hc] at c1
      have c3 : seqS (fun env st => SR.brk env st) nxS (yE n ls o lot1 (.sh (.int (k : Int))) (.sh (.int (lot.length : Nat))) .dead .dead) st = .brk (yE n ls o lot1 (.sh (.int (k : Int))) (.sh (.int (lot.length : Nat))) .dead .dead) st := seq_brk rfl
      have e : wtB (yE n ls o lot (.sh (.int (k : Int))) .dead .dead .dead) st = .brk (yE n ls o lot1 (.sh (.int (k : Int))) (.sh (.int (lot.length : Nat))) .dead .dead) st :=
        seq_nx (set_ok (ln3 _ _ _ _ _)) (seq_nx (for_ok (seqA_ok (p := .lst (lines ls)) rfl rfl) e1) (seq_brk (if_ok c1 c3)))
      exact ⟨lot1, _, _, _, _, h1, forL_brk (p := .int (k : Int)) rfl e⟩
    · rw [show (((lot1.length : Nat) : Int) == ((lot.length : Nat) : Int)) = false from by simpa using hc] at c1
      have e : wtB (yE n ls o lot (.sh (.int (k : Int))) .dead .dead .dead) st = .nx (yE n ls o lot1 .dead .dead .dead .dead) st :=
        seq_nx (set_ok (ln3 _ _ _ _ _)) (seq_nx (for_ok (seqA_ok (p := .lst (lines ls)) rfl rfl) e1) (seq_nx (if_ok c1 rfl) rfl))
      obtain ⟨lot2, a, b, c, d, h2, e2⟩ := wt_loop hn h o st ks lot1 h1
      exact ⟨lot2, a, b, c, d, h2, forL_nx (p := .int (k : Int)) rfl e e2⟩
theorem c_white {n : Nat} (hn : n ≤ 600) {ls : List (List Nat)} (h : ∀ l ∈ ls, LineOk n l) (out : List Nat) (st : PV) : ∃ lot, Lot n lot ∧ callK fi__law_white_without [.lst (lines ls), .int (n : Int), .lst (nts out)] st = .ok (.lst (nts lot)) st := by
  have hs : sizeLine = 16777216 := sizeLine_eq
  have hl0 : Lot n ((List.range n).filter fun j => !decide (j ∈ out)) := List.filter_sublist
  have d1 : lcE [7] (rngA (consA (vE 1) nilA)) (nameG 7) (cmpT (inP true) (vR 7) (vR 2)) (vE 7) [.sh (.lst (lines ls)), .sh (.int (n : Int)), .sh (.lst (nts out)), .dead, .dead, .dead, .dead, .dead, .dead] .non = .ok (.lst (nts ((List.range n).filter fun j => !decide (j ∈ out)))) .non := by
    refine lc_ok (rng_ok (one_ok (p := .int (n : Int)) rfl) (rngP_nat (by omega))) rfl (by rw [len_rng]; omega) ?_
    refine lcL_fil (fun j : Nat => PV.int (j : Int)) (fun j : Nat => PV.int (j : Int)) (fun j => !decide (j ∈ out)) _ fun j _ => ⟨[.sh (.lst (lines ls)), .sh (.int (n : Int)), .sh (.lst (nts out)), .dead, .dead, .dead, .dead, .sh (.int (j : Int)), .dead], rfl, cmp_ok (a := .int (j : Int)) (b := .lst (nts out)) rfl rfl ?_, fun _ => rfl⟩
    rw [in_nts true j out]
    rfl
  obtain ⟨lot, a, b, c, d, hl, e1⟩ := wt_loop hn h (.lst (nts out)) .non (List.range (n + 1)) _ hl0
  refine ⟨lot, hl, ?_⟩
  have d2 : rngA (consA (opE addP (vR 1) (cE (.int 1))) nilA) (yE n ls (.lst (nts out)) ((List.range n).filter fun j => !decide (j ∈ out)) .dead .dead .dead .dead) .non = .ok (nts (List.range (n + 1))) .non := by
    refine rng_ok (one_ok (op_ok (a := .int (n : Int)) (b := .int 1) rfl rfl (addP_int _ _))) ?_
    have : ((n : Int) + 1) = ((n + 1 : Nat) : Int) := by omega
    rw [this]
    exact rngP_nat (by omega)
  have e : g__law_white_without [.sh (.lst (lines ls)), .sh (.int (n : Int)), .sh (.lst (nts out)), .dead, .dead, .dead, .dead, .dead, .dead] .non = .ret (.lst (nts lot)) false (yE n ls (.lst (nts out)) lot a b c d) .non := by
    rw [white_eq]
    refine seq_nx (setO_ok d1) ?_
    exact seq_nx (for_ok d2 e1) (seq_ret (ret_ok rfl))
  have e3 : fi__law_white_without.sem [.lst (lines ls), .int (n : Int), .lst (nts out)] .non = .ok (.lst (nts lot)) .non := sem_ok e (fun h => by cases h)
  rw [callK_val, e3]
/-! ## drawn lots -/
theorem lcL_draw {t : GF} {c : TF} {e : EF} {env : SEnv} : ∀ (xs : List Nat) (st : PV), SOk st → (∀ x ∈ xs, ∃ env1, t (.int (x : Int)) env = some env1 ∧ (∀ st, SOk st → ∃ b st1, SOk st1 ∧ c env1 st = .ok b st1) ∧ ∀ st, e env1 st = .ok (.int (x : Int)) st) →
    ∃ ys st', ys.Sublist xs ∧ SOk st' ∧ lcL t c e env (nts xs) st = .ok (nts ys) st'
  | [], st, hS, _ => ⟨[], st, List.Sublist.refl _, hS, rfl⟩
  | x :: xs, st, hS, h => by
    obtain ⟨env1, h1, h2, h3⟩ := h x List.mem_cons_self
    obtain ⟨b, st1, S1, e1⟩ := h2 st hS
    obtain ⟨ys, st', q1, q2, q3⟩ := lcL_draw xs st1 S1 fun y hy => h y (List.mem_cons_of_mem _ hy)
    cases b with
    | true =>
      refine ⟨x :: ys, st', q1.cons_cons x, q2, ?_⟩
      show lcL t c e env (PV.int (x : Int) :: nts xs) st = _
      unfold lcL
      rw [h1]
      dsimp only
      rw [e1, ER.bind_ok, if_pos rfl, h3, ER.bind_ok, q3]
      rfl
    | false =>
      refine ⟨ys, st', q1.cons x, q2, ?_⟩
      show lcL t c e env (PV.int (x : Int) :: nts xs) st = _
      unfold lcL
      rw [h1]
      dsimp only
      rw [e1, ER.bind_ok, if_neg Bool.false_ne_true]
      exact q3
theorem next_eq {f : EF} {env : SEnv} (k : Int) (hf : ∀ st, SOk st → ∃ (v : Nat) (st' : PV), SOk st' ∧ f env st = .ok (.int (v : Int)) st') : ∀ st, SOk st → ∃ b st1, SOk st1 ∧ cmpT eqP f (cE (.int k)) env st = .ok b st1 := fun st hS => by
  obtain ⟨v, st', S', e⟩ := hf st hS
  exact ⟨_, st', S', cmp_ok e rfl (eqP_int _ _)⟩
theorem next_ok {i : Nat} {env : SEnv} (m : Nat) (hm : 0 < m) (hi : env[i]? = some .mt) : ∀ st, SOk st → ∃ (v : Nat) (st' : PV), v < m ∧ SOk st' ∧ callE fi__law_next [] (consA (mtA i) (consA (cE (.int (m : Int))) nilA)) env st = .ok (.int (v : Int)) st' := fun st hS => by
  obtain ⟨v, st', h1, h2, h3⟩ := c_next hS (m : Int) (by omega)
  refine ⟨v, st', by omega, h2, call_ok (ps := [.non, .int (m : Int)]) (st1 := st) (cons_ok ?_ rfl) h3⟩
  rw [mtA_ap, hi]
theorem c_lot2 (n : Nat) (hn : n ≤ 600) {st : PV} (hS : SOk st) : ∃ (out : List Nat) (st' : PV), SOk st' ∧ Lot n out ∧ callK fi__law_lot [.non, .int (n : Int)] st = .ok (.lst (nts out)) st' := by
  have hs : sizeLine = 16777216 := sizeLine_eq
  obtain ⟨ys, st', q1, q2, q3⟩ := lcL_draw (t := nameG 2) (c := cmpT eqP (callE fi__law_next [] (consA (mtA 0) (consA (cE (.int 2)) nilA))) (cE (.int 1))) (e := vE 2) (env := [.mt, .sh (.int (n : Int)), .dead]) (List.range n) st hS fun x _ => by
    refine ⟨[.mt, .sh (.int (n : Int)), .sh (.int (x : Int))], rfl, next_eq 1 (fun st hS => ?_), fun st => rfl⟩
    obtain ⟨v, st', h1, h2, h3⟩ := next_ok (env := [.mt, .sh (.int (n : Int)), .sh (.int (x : Int))]) (i := 0) 2 (by decide) rfl st hS
    exact ⟨v, st', h2, h3⟩
  refine ⟨ys, st', q2, q1, ?_⟩
  have e : g__law_lot [.mt, .sh (.int (n : Int)), .dead] st = .ret (.lst (nts ys)) false [.mt, .sh (.int (n : Int)), .dead] st' :=
    seq_ret (ret_ok (lc_ok (rng_ok (one_ok (p := .int (n : Int)) rfl) (rngP_nat (by omega))) rfl (by rw [len_rng]; omega) q3))
  rw [callK_mu]
  exact sem_ok e fun _ => rfl
end KI.K13

/-! part P13n -/
set_option Elab.async false
set_option linter.all false
set_option maxRecDepth 100000
set_option maxHeartbeats 2000000
namespace KI.K13
open PySem PySem.Spec PyProof.Rows L2 KI
/-! ## lots that are refused -/
def items2 (i : Nat) (ps : List PV) : List PV := (ps.zipIdx i).map fun x => PV.tup [.int (x.2 : Nat), x.1]
theorem items2_cons (i : Nat) (p : PV) (ps : List PV) : items2 i (p :: ps) = PV.tup [.int (i : Nat), p] :: items2 (i + 1) ps := rfl
theorem lot_step (p : PV) (size : Int) (i : Nat) (done : List Int) (e : Int) (h1 : ¬ e < 0) (h2 : ¬ size ≤ e) (h3 : e ∉ done) (hz : done.length < sizeLine) :
    lotB [.sh p, .sh (.int size), .own (foundP done), .sh (.int (i : Int)), .sh (.int e)] .non = .nx [.sh p, .sh (.int size), .own (foundP (done ++ [e])), .dead, .dead] .non := by
  have hin := in_found false done e
  have hp := put_found done e h3
  unfold foundP at hin
  simp [lotB, h1, h2, hin, h3, foundP, keyP, hz, hp]
theorem lot_bad_loop (p : PV) (n : Nat) (b : PV) (rest : List PV) : ∀ (good : List Nat) (i : Nat) (done : List Int), done.length + good.length ≤ 10000 → (∀ m ∈ good, m < n) → good.Nodup → (∀ m ∈ good, (m : Int) ∉ done) →
    (∀ j : Nat, ∃ env', lotB [.sh p, .sh (.int (n : Int)), .own (foundP (done ++ ints' good)), .sh (.int (j : Int)), .sh b] .non = .exc "BadLot" ["place"] [.int (j : Int)] env' .non) →
    ∃ env', forL (pairG 3 4) lotB (items2 i (nts good ++ b :: rest)) [.sh p, .sh (.int (n : Int)), .own (foundP done), .dead, .dead] .non = .exc "BadLot" ["place"] [.int ((i + good.length : Nat) : Int)] env' .non
  | [], i, done, _, _, _, _, hb => by
    obtain ⟨env', e⟩ := hb i
    rw [show done ++ ints' [] = done from by simp] at e
    refine ⟨env', ?_⟩
    show forL (pairG 3 4) lotB (PV.tup [.int (i : Nat), b] :: items2 (i + 1) rest) _ _ = _
    unfold forL
    show (match lotB [.sh p, .sh (.int (n : Int)), .own (foundP done), .sh (.int (i : Int)), .sh b] .non with
      | .nx env' st' => forL (pairG 3 4) lotB (items2 (i + 1) rest) env' st'
      | .ct env' st' => forL (pairG 3 4) lotB (items2 (i + 1) rest) env' st'
      | .brk env' st' => .nx env' st'
      | r => r) = _
    rw [e]
    rfl
  | m :: good, i, done, hz, h1, h2, h3, hb => by
    have hs : sizeLine = 16777216 := sizeLine_eq
    have hm := h1 m List.mem_cons_self
    rw [List.nodup_cons] at h2
    have e := lot_step p (n : Int) i done (m : Int) (by omega) (by omega) (h3 m List.mem_cons_self) (by simp at hz; omega)
    obtain ⟨env', ih⟩ := lot_bad_loop p n b rest good (i + 1) (done ++ [(m : Int)]) (by simp at hz ⊢; omega) (fun k hk => h1 k (List.mem_cons_of_mem _ hk)) h2.2 (fun k hk z => by
      rcases List.mem_append.mp z with z | z
      · exact h3 k (List.mem_cons_of_mem _ hk) z
      · have : (k : Int) = m := by simpa using z
        have : k = m := by omega
        subst this
        exact h2.1 hk) (fun j => by
      have := hb j
      rw [show done ++ ints' (m :: good) = done ++ [(m : Int)] ++ ints' good from by simp] at this
      exact this)
    refine ⟨env', ?_⟩
    rw [show i + (m :: good).length = i + 1 + good.length from by simp; omega]
    exact forL_nx (p := .tup [.int (i : Nat), .int (m : Int)]) rfl e ih
def BadP (n : Nat) (good : List Nat) (b : PV) : Prop := (whole b = false ∧ notIns b = true) ∨ ∃ e : Int, b = .int e ∧ (e < 0 ∨ (n : Int) ≤ e ∨ e ∈ ints' good)
theorem bad_step (p : PV) (n : Nat) (good : List Nat) (b : PV) (h : BadP n good b) (j : Nat) : ∃ env', lotB [.sh p, .sh (.int (n : Int)), .own (foundP ([] ++ ints' good)), .sh (.int (j : Int)), .sh b] .non = .exc "BadLot" ["place"] [.int (j : Int)] env' .non := by
  refine ⟨[.sh p, .sh (.int (n : Int)), .own (foundP ([] ++ ints' good)), .sh (.int (j : Int)), .sh b], ?_⟩
  rcases h with ⟨h1, h2⟩ | ⟨e, rfl, h⟩
  · have k := c_is_whole b .non h2
    rw [h1] at k
    have hbo : vE 4 [.sh p, .sh (.int (n : Int)), .own (foundP ([] ++ ints' good)), .sh (.int (j : Int)), .sh b] .non = .ok b .non := rfl
    have d1 : notT (truT (callE fi_is_whole [] (consA (vE 4) nilA))) [.sh p, .sh (.int (n : Int)), .own (foundP ([] ++ ints' good)), .sh (.int (j : Int)), .sh b] .non = .ok true .non := not_okT (a := false) (tru_ok (p := .bl false) (call_ok (one_ok hbo) k) rfl)
    have d2 : orT (notT (truT (callE fi_is_whole [] (consA (vE 4) nilA)))) (orT (cmpT ltP (vR 4) (cE (.int 0))) (orT (cmpT geP (vR 4) (vR 1)) (cmpT (inP false) (vR 4) (vR 2)))) [.sh p, .sh (.int (n : Int)), .own (foundP ([] ++ ints' good)), .sh (.int (j : Int)), .sh b] .non = .ok true .non := by
      rw [orT_ap, d1, ER.bind_ok, if_pos rfl]
    have d3 : seqS (raiseS "BadLot" ["place"] (consA (vE 3) nilA)) nxS [.sh p, .sh (.int (n : Int)), .own (foundP ([] ++ ints' good)), .sh (.int (j : Int)), .sh b] .non = .exc "BadLot" ["place"] [.int (j : Int)] [.sh p, .sh (.int (n : Int)), .own (foundP ([] ++ ints' good)), .sh (.int (j : Int)), .sh b] .non := seq_exc rfl
    exact seq_exc (if_ok d2 d3)
  · have hin := in_found false (ints' good) e
    by_cases h1 : e < 0
    · simp [lotB, h1]
    · by_cases h2 : (n : Int) ≤ e
      · simp [lotB, h1, h2]
      · have h3 : e ∈ ints' good := by
          rcases h with h | h | h
          · exact absurd h h1
          · exact absurd h h2
          · exact h
        rw [show decide (e ∈ ints' good) = true from by simpa using h3] at hin
        simp [lotB, h1, h2, hin]
theorem lot_of_eq : g_lot_of = (seqS (ifS (notT (truT (isiE ["list", "tuple"] (vR 0)))) (seqS (raiseS "BadLot" ["place"] (consA (negE (cE (.int 1))) nilA)) nxS) nxS) (seqS (setO 2 (fun _ st => .ok (.dct [] []) st)) (seqS (forS (enumA (vE 0)) (pairG 3 4) lotB) (seqS (retS (biE tupleP (consA (biE sortedP (consA (biE listP (consA (vR 2) nilA)) nilA)) nilA))) nxS)))) := rfl
theorem for_exc {f : AF} {t : GF} {b : SF} {env env' : SEnv} {st st1 st2 : PV} {ps : List PV} {c : Str} {ns : List Str} {qs : List PV} (h : f env st = .ok ps st1) (h2 : forL t b ps env st1 = .exc c ns qs env' st2) : forS f t b env st = .exc c ns qs env' st2 := for_ok h h2
theorem c_lot_bad {n : Nat} {good : List Nat} (hg : Lot n good) (hn : n ≤ 600) {b : PV} (hb : BadP n good b) (rest : List PV) (p : PV) (hp : p = .lst (nts good ++ b :: rest) ∨ p = .tup (nts good ++ b :: rest)) : callK fi_lot_of [p, .int (n : Int)] .non = .exc "BadLot" ["place"] [.int (good.length : Nat)] .non := by
  have hlen := hg.len
  obtain ⟨env', hL⟩ := lot_bad_loop p n b rest good 0 [] (by simp; omega) (fun m hm => hg.lt hm) hg.nd (by simp) (bad_step p n good b hb)
  rw [Nat.zero_add] at hL
  have hq : seqP p = some (nts good ++ b :: rest) := by rcases hp with rfl | rfl <;> rfl
  have hi : isiP ["list", "tuple"] p = some true := by rcases hp with rfl | rfl <;> rfl
  have c1 : notT (truT (isiE ["list", "tuple"] (vR 0))) [.sh p, .sh (.int (n : Int)), .dead, .dead, .dead] .non = .ok false .non := by
    refine not_okT (a := true) (tru_ok (p := .bl true) ?_ rfl)
    rw [isiE_ap, show vR 0 [.sh p, .sh (.int (n : Int)), .dead, .dead, .dead] .non = .ok p .non from rfl, ER.bind_ok, hi]
  have d : forS (enumA (vE 0)) (pairG 3 4) lotB [.sh p, .sh (.int (n : Int)), .own (foundP []), .dead, .dead] .non = .exc "BadLot" ["place"] [.int (good.length : Nat)] env' .non :=
    for_exc (enum_ok (p := p) rfl hq) hL
  have e : g_lot_of [.sh p, .sh (.int (n : Int)), .dead, .dead, .dead] .non = .exc "BadLot" ["place"] [.int (good.length : Nat)] env' .non := by
    rw [lot_of_eq]
    exact seq_nx (if_ok c1 rfl) (seq_nx (setO_ok (p := foundP []) rfl) (seq_exc d))
  exact call_exc (sem_exc e)
theorem c_lot_str (n : Nat) (x : Str) : callK fi_lot_of [.str x, .int (n : Int)] .non = .exc "BadLot" ["place"] [.int (-1)] .non := by
  have c1 : notT (truT (isiE ["list", "tuple"] (vR 0))) [.sh (.str x), .sh (.int (n : Int)), .dead, .dead, .dead] .non = .ok true .non := not_okT (a := false) (tru_ok (p := .bl false) rfl rfl)
  have d3 : seqS (raiseS "BadLot" ["place"] (consA (negE (cE (.int 1))) nilA)) nxS [.sh (.str x), .sh (.int (n : Int)), .dead, .dead, .dead] .non = .exc "BadLot" ["place"] [.int (-1)] [.sh (.str x), .sh (.int (n : Int)), .dead, .dead, .dead] .non := seq_exc rfl
  have e : g_lot_of [.sh (.str x), .sh (.int (n : Int)), .dead, .dead, .dead] .non = .exc "BadLot" ["place"] [.int (-1)] [.sh (.str x), .sh (.int (n : Int)), .dead, .dead, .dead] .non := by
    rw [lot_of_eq]
    exact seq_exc (if_ok c1 d3)
  exact call_exc (sem_exc e)
/-! ## refusals kept -/
abbrev rpE (n : Nat) (ls : List (List Nat)) (good : List Nat) (kind bad pl : Slot) : SEnv := [.mt, .sh (tb n ls), .sh (.int (n : Int)), .sh (.lst (nts good)), kind, bad, pl]
def rpL : EF := (lstE (consA (opE addL (vR 3) (lstE (consA (vE 2) nilA))) (consA (opE addL (lstE (consA (negE (cE (.int 1))) nilA)) (vR 3)) (consA (opE addL (vR 3) (lstE (consA (cE .non) (consA (negE (cE (.int 1))) nilA)))) (consA (opE addP (biE tupleP (consA (vR 3) nilA)) (tupE (consA (cE (.bl true)) nilA))) (consA (cE (.str "0")) nilA))))))
def rpP : EF := (lstE (consA (biE lenP (consA (vR 3) nilA)) (consA (cE (.int 0)) (consA (biE lenP (consA (vR 3) nilA)) (consA (biE lenP (consA (vR 3) nilA)) (consA (negE (cE (.int 1))) nilA))))))
def rpC : TF := (cmpT neP (callE fi__law_asked [] (consA (vE 1) (consA (vE 5) nilA))) (lstE (consA (cE .non) (consA (tupE (consA (cE (.str "lot")) (consA (vE 6) nilA))) nilA))))
def rpR : EF := (cmpE eqP (callE fi__law_asked [] (consA (vE 1) (consA (opE addL (vR 3) (lstE (consA (opE ixP (vR 3) (cE (.int 0))) (consA (vE 2) nilA)))) nilA))) (lstE (consA (cE .non) (consA (tupE (consA (cE (.str "lot")) (consA (biE lenP (consA (vR 3) nilA)) nilA))) nilA))))
theorem rp_eq : g__law_refusals_kept = (seqS (setS 3 (callE fi__law_lot [] (consA (mtA 0) (consA (vE 2) nilA)))) (seqS (setS 4 (callE fi__law_next [] (consA (mtA 0) (consA (cE (.int 5)) nilA)))) (seqS (setS 5 (opE ixP rpL (vR 4))) (seqS (setS 6 (opE ixP rpP (vR 4))) (seqS (ifS rpC (seqS (retS (cE (.bl false))) nxS) nxS) (seqS (ifS (cmpT gtP (biE lenP (consA (vR 3) nilA)) (cE (.int 0))) (seqS (retS rpR) nxS) nxS) (seqS (retS (cE (.bl true))) nxS))))))) := rfl
theorem okD_ans (i : Int) : okD (.lst [.non, tg "lot" i]) = true := by
  have hx : PyData.strOk "lot" = true := by decide +kernel
  unfold okD SeqAt.shaped tg
  simp [toD, toDs, PyData.canLay0, PyData.canLayAll0, PyData.depth, PyData.depthAll, hx]
theorem eq_ans (i : Int) : eqP (.lst [.non, tg "lot" i]) (.lst [.non, tg "lot" i]) = some true := eq_self (okD_ans i)
theorem ne_ans (i : Int) : neP (.lst [.non, tg "lot" i]) (.lst [.non, tg "lot" i]) = some false := by
  unfold neP
  rw [if_pos ⟨okD_ans i, okD_ans i⟩]
  unfold eqB
  rw [SeqAt.eqv_refl _ (okD_lay (okD_ans i))]
  rfl
theorem asked_bad {n : Nat} {ls : List (List Nat)} {p : PV} {i : Int} (hp : callK fi_lot_of [p, .int (n : Int)] .non = .exc "BadLot" ["place"] [.int i] .non) (st : PV) : callK fi__law_asked [tb n ls, p] st = .ok (.lst [.non, tg "lot" i]) st :=
  c_asked_lot _ _ (c_sw_lot hp .non) st
theorem c_refusals {n : Nat} {ls : List (List Nat)} (hn : n ≤ 600) {st : PV} (hS : SOk st) : ∃ st', SOk st' ∧ callK fi__law_refusals_kept [.non, tb n ls, .int (n : Int)] st = .ok (.bl true) st' := by
  have hs : sizeLine = 16777216 := sizeLine_eq
  obtain ⟨good, st1, S1, hg, e1⟩ := c_lot2 n hn hS
  obtain ⟨v, st2, hv, S2, e2⟩ := next_ok (i := 0) (env := rpE n ls good .dead .dead .dead) 5 (by decide) rfl st1 S1
  refine ⟨st2, S2, ?_⟩
  have hlen := hg.len
  have d1 : callE fi__law_lot [] (consA (mtA 0) (consA (vE 2) nilA)) [.mt, .sh (tb n ls), .sh (.int (n : Int)), .dead, .dead, .dead, .dead] st = .ok (.lst (nts good)) st1 := call_ok (ps := [.non, .int (n : Int)]) (st1 := st) rfl e1
  have nl : (nts good).length = good.length := by unfold nts; rw [List.length_map]
  have r3 : ∀ a b c, vR 3 (rpE n ls good a b c) st2 = .ok (.lst (nts good)) st2 := fun _ _ _ => rfl
  have l3 : ∀ a b c, biE lenP (consA (vR 3) nilA) (rpE n ls good a b c) st2 = .ok (.int (good.length : Nat)) st2 := fun a b c => by
    refine bi_ok (one_ok (r3 a b c)) ?_
    rw [len_lst, nl]
  have add : ∀ xs ys : List PV, xs.length + ys.length ≤ 10000 → addL (.lst xs) (.lst ys) = some (.lst (xs ++ ys)) := fun xs ys h => addL_ok (by omega)
  have b1 : ∀ a b c, opE addL (vR 3) (lstE (consA (vE 2) nilA)) (rpE n ls good a b c) st2 = .ok (.lst (nts good ++ [.int (n : Int)])) st2 := fun a b c => op_ok (r3 a b c) (lst_ok (ps := [.int (n : Int)]) rfl s1) (add _ _ (by rw [nl]; simp; omega))
  have b2 : ∀ a b c, opE addL (lstE (consA (negE (cE (.int 1))) nilA)) (vR 3) (rpE n ls good a b c) st2 = .ok (.lst ([.int (-1)] ++ nts good)) st2 := fun a b c => op_ok (a := .lst [.int (-1)]) (lst_ok (ps := [.int (-1)]) rfl s1) (r3 a b c) (add _ _ (by rw [nl]; simp; omega))
  have b3 : ∀ a b c, opE addL (vR 3) (lstE (consA (cE .non) (consA (negE (cE (.int 1))) nilA))) (rpE n ls good a b c) st2 = .ok (.lst (nts good ++ [.non, .int (-1)])) st2 := fun a b c => op_ok (r3 a b c) (lst_ok (ps := [.non, .int (-1)]) rfl s2) (add _ _ (by rw [nl]; simp; omega))
  have b4 : ∀ a b c, opE addP (biE tupleP (consA (vR 3) nilA)) (tupE (consA (cE (.bl true)) nilA)) (rpE n ls good a b c) st2 = .ok (.tup (nts good ++ [.bl true])) st2 := fun a b c => by
    refine op_ok (a := .tup (nts good)) (b := .tup [.bl true]) (bi_ok (one_ok (r3 a b c)) rfl) (tup_ok (ps := [.bl true]) rfl s1) ?_
    show (if (nts good).length + [PV.bl true].length ≤ sizeLine then some (PV.tup (nts good ++ [.bl true])) else none) = _
    rw [if_pos (by rw [nl]; simp; omega)]
  have d3 : rpL (rpE n ls good (.sh (.int (v : Int))) .dead .dead) st2 = .ok (.lst [.lst (nts good ++ [.int (n : Int)]), .lst ([.int (-1)] ++ nts good), .lst (nts good ++ [.non, .int (-1)]), .tup (nts good ++ [.bl true]), .str "0"]) st2 :=
    lst_ok (cons_ok (b1 _ _ _) (cons_ok (b2 _ _ _) (cons_ok (b3 _ _ _) (cons_ok (b4 _ _ _) (one_ok rfl))))) s5
  have d4 : ∀ b, rpP (rpE n ls good (.sh (.int (v : Int))) b .dead) st2 = .ok (.lst [.int (good.length : Nat), .int 0, .int (good.length : Nat), .int (good.length : Nat), .int (-1)]) st2 := fun b =>
    lst_ok (cons_ok (l3 _ _ _) (cons_ok rfl (cons_ok (l3 _ _ _) (cons_ok (l3 _ _ _) (one_ok rfl))))) s5
  obtain ⟨bad, pl, hb, i1, i2⟩ : ∃ (bad : PV) (pl : Int), callK fi_lot_of [bad, .int (n : Int)] .non = .exc "BadLot" ["place"] [.int pl] .non ∧ ixP (.lst [.lst (nts good ++ [.int (n : Int)]), .lst ([.int (-1)] ++ nts good), .lst (nts good ++ [.non, .int (-1)]), .tup (nts good ++ [.bl true]), .str "0"]) (.int (v : Int)) = some bad ∧ ixP (.lst [.int (good.length : Nat), .int 0, .int (good.length : Nat), .int (good.length : Nat), .int (-1)]) (.int (v : Int)) = some (.int pl) := by
    match v, hv with
    | 0, _ => exact ⟨_, _, c_lot_bad hg hn (b := .int (n : Int)) (.inr ⟨_, rfl, .inr (.inl (by omega))⟩) [] _ (.inl rfl), rfl, rfl⟩
    | 1, _ => exact ⟨_, _, c_lot_bad (good := []) (nil_lot n) hn (b := .int (-1)) (.inr ⟨_, rfl, .inl (by decide)⟩) (nts good) _ (.inl rfl), rfl, rfl⟩
    | 2, _ => exact ⟨_, _, c_lot_bad hg hn (b := .non) (.inl ⟨rfl, rfl⟩) [.int (-1)] _ (.inl rfl), rfl, rfl⟩
    | 3, _ => exact ⟨_, _, c_lot_bad hg hn (b := .bl true) (.inl ⟨rfl, rfl⟩) [] _ (.inr rfl), rfl, rfl⟩
    | 4, _ => exact ⟨_, _, c_lot_str n "0", rfl, rfl⟩
  have d5 : opE ixP rpL (vR 4) (rpE n ls good (.sh (.int (v : Int))) .dead .dead) st2 = .ok bad st2 := op_ok d3 rfl i1
  have d6 : opE ixP rpP (vR 4) (rpE n ls good (.sh (.int (v : Int))) (.sh bad) .dead) st2 = .ok (.int pl) st2 := op_ok (d4 _) rfl i2
  have c1 : rpC (rpE n ls good (.sh (.int (v : Int))) (.sh bad) (.sh (.int pl))) st2 = .ok false st2 := by
    refine cmp_ok (a := .lst [.non, tg "lot" pl]) (b := .lst [.non, tg "lot" pl]) (call_ok (ps := [tb n ls, bad]) (st1 := st2) rfl (asked_bad hb st2)) (lst_ok (ps := [.non, tg "lot" pl]) (cons_ok rfl (one_ok (tup_ok rfl s2))) s2) (ne_ans pl)
  have c2 : cmpT gtP (biE lenP (consA (vR 3) nilA)) (cE (.int 0)) (rpE n ls good (.sh (.int (v : Int))) (.sh bad) (.sh (.int pl))) st2 = .ok (decide (((good.length : Nat) : Int) > 0)) st2 := cmp_ok (l3 _ _ _) rfl rfl
  have e : g__law_refusals_kept [.mt, .sh (tb n ls), .sh (.int (n : Int)), .dead, .dead, .dead, .dead] st = .ret (.bl true) false (rpE n ls good (.sh (.int (v : Int))) (.sh bad) (.sh (.int pl))) st2 := by
    rw [rp_eq]
    refine seq_nx (set_ok d1) (seq_nx (set_ok e2) (seq_nx (set_ok d5) (seq_nx (set_ok d6) (seq_nx (if_ok c1 rfl) ?_))))
    cases good with
    | nil => exact seq_nx (if_ok c2 rfl) (seq_ret (ret_ok rfl))
    | cons g0 gr =>
      rw [show decide ((((g0 :: gr).length : Nat) : Int) > 0) = true from by simp] at c2
      refine if_hit c2 ?_
      have hb2 := c_lot_bad hg hn (b := .int (g0 : Int)) (.inr ⟨_, rfl, .inr (.inr (by simp))⟩) [.int (n : Int)] _ (.inl rfl)
      have f1 : opE addL (vR 3) (lstE (consA (opE ixP (vR 3) (cE (.int 0))) (consA (vE 2) nilA))) (rpE n ls (g0 :: gr) (.sh (.int (v : Int))) (.sh bad) (.sh (.int pl))) st2 = .ok (.lst (nts (g0 :: gr) ++ [.int (g0 : Int), .int (n : Int)])) st2 := by
        refine op_ok (r3 _ _ _) (lst_ok (ps := [.int (g0 : Int), .int (n : Int)]) (cons_ok (ix_ok (r3 _ _ _) rfl ?_) rfl) s2) (add _ _ (by rw [nl]; simp at hlen ⊢; omega))
        exact ix_nts (i := 0) (xs := g0 :: gr) rfl
      exact cmpE_ok (call_ok (cons_ok (p := tb n ls) rfl (one_ok f1)) (asked_bad hb2 st2)) (lst_ok (ps := [.non, tg "lot" (((g0 :: gr).length : Nat) : Int)]) (cons_ok rfl (one_ok (tup_ok (cons_ok rfl (one_ok (l3 _ _ _))) s2))) s2) (eq_ans _)
  rw [callK_mu]
  exact sem_ok e fun _ => rfl
end KI.K13

/-! part P13o -/
set_option Elab.async false
set_option linter.all false
set_option maxRecDepth 100000
set_option maxHeartbeats 2000000
namespace KI.K13
open PySem PySem.Spec PyProof.Rows L2 KI
/-! ## the law -/
abbrev vE' (ns : List Int) (s2 s3 s4 s5 s6 s7 s8 : Slot) : SEnv := [.sh (.scr ns), .mt, s2, s3, s4, s5, s6, s7, s8, .dead]
theorem s8 : (8 : Nat) ≤ sizeLine := by decide
theorem pick8 (A : List Nat) (hA : ∀ a ∈ A, a ≤ 6) (v : Nat) (hv : v < A.length) : ∃ k : Nat, k ≤ 6 ∧ ixP (.lst (nts A)) (.int (v : Int)) = some (.int (k : Int)) :=
  ⟨A[v], hA _ (List.getElem_mem hv), ix_nts (List.getElem?_eq_getElem hv)⟩
def lwB : SF := (seqS (ifS (notT (truT (callE fi__law_lot_kept [] (consA (mtA 1) (consA (vE 3) (consA (vE 8) (consA (vE 7) (consA (vE 6) nilA)))))))) (seqS (retS (cE (.bl false))) nxS) nxS) (fun env st => .nx (killS [6] env) st))
def lwI : SF := (ifS (cmpT eqP (vR 2) (cE (.int 3))) (seqS (setS 7 (opE addP (cE (.int 12)) (callE fi__law_next [] (consA (mtA 1) (consA (cE (.int 29)) nilA))))) (seqS (setS 8 (callE fi__law_marks [] (consA (mtA 1) (consA (opE addP (cE (.int 4)) (callE fi__law_next [] (consA (mtA 1) (consA (cE (.int 27)) nilA)))) (consA (vE 7) nilA))))) nxS)) (seqS (setS 7 (opE ixP (lstE (consA (cE (.int 3)) (consA (cE (.int 4)) (consA (cE (.int 2)) (consA (cE (.int 5)) (consA (cE (.int 6)) (consA (cE (.int 1)) (consA (cE (.int 4)) (consA (cE (.int 0)) nilA))))))))) (callE fi__law_next [] (consA (mtA 1) (consA (cE (.int 8)) nilA))))) (seqS (setS 8 (callE fi__law_marks [] (consA (mtA 1) (consA (opE ixP (lstE (consA (cE (.int 3)) (consA (cE (.int 2)) (consA (cE (.int 4)) (consA (cE (.int 3)) (consA (cE (.int 5)) (consA (cE (.int 1)) (consA (cE (.int 0)) (consA (cE (.int 6)) nilA))))))))) (callE fi__law_next [] (consA (mtA 1) (consA (cE (.int 8)) nilA)))) (consA (vE 7) nilA))))) nxS)))
def lwL : EF := (lstE (consA (callE fi__law_white_without [] (consA (vE 8) (consA (vE 7) (consA (lstE nilA) nilA)))) (consA (vE 5) (consA (callE fi__law_lot [] (consA (mtA 1) (consA (vE 7) nilA))) (consA (lstE nilA) nilA)))))
def lwO : EF := (lcE [9] (rngA (consA (vE 7) nilA)) (nameG 9) (cmpT eqP (callE fi__law_next [] (consA (mtA 1) (consA (cE (.int 4)) nilA))) (cE (.int 3))) (vE 9))
def lwR : SF := (seqS (setS 2 (callE fi__law_next [] (consA (mtA 1) (consA (cE (.int 5)) nilA)))) (seqS lwI (seqS (setS 3 (makeE "Table" fi_Table_init [] (consA (vE 7) (consA (biE listP (consA (vR 8) nilA)) nilA)))) (seqS (setO 4 lwO) (fun env st => (seqS (setS 5 (callE fi__law_white_without [] (consA (vE 8) (consA (vE 7) (consA (vE 4) nilA))))) (seqS (forS (seqA lwL) (nameG 6) lwB) (seqS (ifS (notT (truT (callE fi__law_refusals_kept [] (consA (mtA 1) (consA (vE 3) (consA (vE 7) nilA)))))) (seqS (retS (cE (.bl false))) nxS) nxS) (seqS (retS (cmpE eqP (biE listP (consA (fldE ["Table"] "lines" (vR 3)) nilA)) (vR 8))) nxS)))) (frzE 4 env) st)))))
theorem law_eq : g_law = (seqS (setO 1 (callE fi__law_stream [] (consA (vE 0) nilA))) (mtS 1 lwR)) := rfl
theorem lw_head (ns : List Int) (k : Nat) {st : PV} (hS : SOk st) : ∃ (n : Nat) (ls : List (List Nat)) (st' : PV), n ≤ 150 ∧ TabOk n ls ∧ SOk st' ∧ lwI (vE' ns (.sh (.int (k : Int))) .dead .dead .dead .dead .dead .dead) st = .nx (vE' ns (.sh (.int (k : Int))) .dead .dead .dead .dead (.sh (.int (n : Int))) (.sh (.lst (lines ls)))) st' := by
  have c1 : cmpT eqP (vR 2) (cE (.int 3)) (vE' ns (.sh (.int (k : Int))) .dead .dead .dead .dead .dead .dead) st = .ok ((k : Int) == 3) st := cmp_ok (a := .int (k : Int)) (b := .int 3) rfl rfl (eqP_int _ _)
  by_cases hk : (k : Int) == 3
  · rw [hk] at c1
    obtain ⟨v1, st1, a1, S1, a3⟩ := c_next hS 29 (by decide)
    obtain ⟨v2, st2, b1, S2, b3⟩ := c_next S1 27 (by decide)
    obtain ⟨ls, st3, S3, T, c3⟩ := c_marks (12 + v1) (4 + v2) (by omega) (by omega) S2
    refine ⟨12 + v1, ls, st3, by omega, T, S3, if_ok c1 ?_⟩
    rw [if_pos rfl]
    have d1 : opE addP (cE (.int 12)) (callE fi__law_next [] (consA (mtA 1) (consA (cE (.int 29)) nilA))) (vE' ns (.sh (.int (k : Int))) .dead .dead .dead .dead .dead .dead) st = .ok (.int ((12 + v1 : Nat) : Int)) st1 :=
      op_ok (a := .int 12) (b := .int (v1 : Int)) (st1 := st) rfl (call_ok (ps := [.non, .int 29]) (st1 := st) rfl a3) (by rw [addP_int]; congr 2)
    have d2 : opE addP (cE (.int 4)) (callE fi__law_next [] (consA (mtA 1) (consA (cE (.int 27)) nilA))) (vE' ns (.sh (.int (k : Int))) .dead .dead .dead .dead (.sh (.int ((12 + v1 : Nat) : Int))) .dead) st1 = .ok (.int ((4 + v2 : Nat) : Int)) st2 :=
      op_ok (a := .int 4) (b := .int (v2 : Int)) (st1 := st1) rfl (call_ok (ps := [.non, .int 27]) (st1 := st1) rfl b3) (by rw [addP_int]; congr 2)
    exact seq_nx (set_ok d1) (seq_nx (set_ok (call_ok (cons_ok (p := .non) (st1 := st1) rfl (cons_ok d2 (one_ok (p := .int ((12 + v1 : Nat) : Int)) rfl))) c3)) rfl)
  · rw [show ((k : Int) == 3) = false from by simpa using hk] at c1
    obtain ⟨v1, st1, a1, S1, a3⟩ := c_next hS 8 (by decide)
    obtain ⟨v2, st2, b1, S2, b3⟩ := c_next S1 8 (by decide)
    obtain ⟨n, hn, i1⟩ := pick8 [3, 4, 2, 5, 6, 1, 4, 0] (by decide) v1 (by show v1 < 8; omega)
    obtain ⟨r, hr, i2⟩ := pick8 [3, 2, 4, 3, 5, 1, 0, 6] (by decide) v2 (by show v2 < 8; omega)
    obtain ⟨ls, st3, S3, T, c3⟩ := c_marks n r (by omega) (by omega) S2
    refine ⟨n, ls, st3, by omega, T, S3, if_ok c1 ?_⟩
    rw [if_neg (by decide)]
    have d1 : opE ixP (lstE (consA (cE (.int 3)) (consA (cE (.int 4)) (consA (cE (.int 2)) (consA (cE (.int 5)) (consA (cE (.int 6)) (consA (cE (.int 1)) (consA (cE (.int 4)) (consA (cE (.int 0)) nilA))))))))) (callE fi__law_next [] (consA (mtA 1) (consA (cE (.int 8)) nilA))) (vE' ns (.sh (.int (k : Int))) .dead .dead .dead .dead .dead .dead) st = .ok (.int (n : Int)) st1 :=
      op_ok (a := .lst (nts [3, 4, 2, 5, 6, 1, 4, 0])) (st1 := st) (lst_ok (ps := nts [3, 4, 2, 5, 6, 1, 4, 0]) rfl s8) (call_ok (ps := [.non, .int 8]) (st1 := st) rfl a3) i1
    have d2 : opE ixP (lstE (consA (cE (.int 3)) (consA (cE (.int 2)) (consA (cE (.int 4)) (consA (cE (.int 3)) (consA (cE (.int 5)) (consA (cE (.int 1)) (consA (cE (.int 0)) (consA (cE (.int 6)) nilA))))))))) (callE fi__law_next [] (consA (mtA 1) (consA (cE (.int 8)) nilA))) (vE' ns (.sh (.int (k : Int))) .dead .dead .dead .dead (.sh (.int (n : Int))) .dead) st1 = .ok (.int (r : Int)) st2 :=
      op_ok (a := .lst (nts [3, 2, 4, 3, 5, 1, 0, 6])) (st1 := st1) (lst_ok (ps := nts [3, 2, 4, 3, 5, 1, 0, 6]) rfl s8) (call_ok (ps := [.non, .int 8]) (st1 := st1) rfl b3) i2
    exact seq_nx (set_ok d1) (seq_nx (set_ok (call_ok (cons_ok (p := .non) (st1 := st1) rfl (cons_ok d2 (one_ok (p := .int (n : Int)) rfl))) c3)) rfl)
theorem lw_loop {n : Nat} {ls : List (List Nat)} (h : TabOk n ls) (hn : n ≤ 150) (ns : List Int) (a b c : Slot) : ∀ (lots : List (List Nat)) (st : PV), SOk st → (∀ lot ∈ lots, Lot n lot) →
    ∃ st', SOk st' ∧ forL (nameG 6) lwB (lots.map fun lot => PV.lst (nts lot)) (vE' ns a (.sh (tb n ls)) b c .dead (.sh (.int (n : Int))) (.sh (.lst (lines ls)))) st = .nx (vE' ns a (.sh (tb n ls)) b c .dead (.sh (.int (n : Int))) (.sh (.lst (lines ls)))) st'
  | [], st, hS, _ => ⟨st, hS, rfl⟩
  | lot :: lots, st, hS, hl => by
    obtain ⟨st1, S1, e1⟩ := c_lot_kept h hn (hl lot List.mem_cons_self) hS
    obtain ⟨st2, S2, e2⟩ := lw_loop h hn ns a b c lots st1 S1 fun l hl' => hl l (List.mem_cons_of_mem _ hl')
    refine ⟨st2, S2, ?_⟩
    have d : callE fi__law_lot_kept [] (consA (mtA 1) (consA (vE 3) (consA (vE 8) (consA (vE 7) (consA (vE 6) nilA))))) (vE' ns a (.sh (tb n ls)) b c (.sh (.lst (nts lot))) (.sh (.int (n : Int))) (.sh (.lst (lines ls)))) st = .ok (.bl true) st1 :=
      call_ok (ps := [.non, tb n ls, .lst (lines ls), .int (n : Int), .lst (nts lot)]) (st1 := st) rfl e1
    have e : lwB (vE' ns a (.sh (tb n ls)) b c (.sh (.lst (nts lot))) (.sh (.int (n : Int))) (.sh (.lst (lines ls)))) st = .nx (vE' ns a (.sh (tb n ls)) b c .dead (.sh (.int (n : Int))) (.sh (.lst (lines ls)))) st1 :=
      seq_nx (if_ok (not_ok d) rfl) rfl
    exact forL_nx (p := .lst (nts lot)) rfl e e2
theorem law_true (ns : List Int) (hlen : ns.length ≤ 63) : ∃ st, fi_law.sem [.scr ns] .non = .ok (.bl true) st := by
  have hs : sizeLine = 16777216 := sizeLine_eq
  obtain ⟨st0, hS0, e0⟩ := c_stream ns hlen .non
  obtain ⟨k, st1, a1, S1, a3⟩ := next_ok (i := 1) (env := vE' ns .dead .dead .dead .dead .dead .dead .dead) 5 (by decide) rfl st0 hS0
  obtain ⟨n, ls, st2, hn, T, S2, e2⟩ := lw_head ns k S1
  have hlen2 := T.2.1
  have eT := mk_table n ls st2 T.1 T.2.1 T.2.2
  obtain ⟨out, st3, q1, S3, q3⟩ := lcL_draw (t := nameG 9) (c := cmpT eqP (callE fi__law_next [] (consA (mtA 1) (consA (cE (.int 4)) nilA))) (cE (.int 3))) (e := vE 9) (env := vE' ns (.sh (.int (k : Int))) (.sh (tb n ls)) .dead .dead .dead (.sh (.int (n : Int))) (.sh (.lst (lines ls)))) (List.range n) st2 S2 fun x _ => by
    refine ⟨[.sh (.scr ns), .mt, .sh (.int (k : Int)), .sh (tb n ls), .dead, .dead, .dead, .sh (.int (n : Int)), .sh (.lst (lines ls)), .sh (.int (x : Int))], rfl, next_eq 3 (fun st hS => ?_), fun st => rfl⟩
    obtain ⟨v, st', h1, h2, h3⟩ := next_ok (env := [.sh (.scr ns), .mt, .sh (.int (k : Int)), .sh (tb n ls), .dead, .dead, .dead, .sh (.int (n : Int)), .sh (.lst (lines ls)), .sh (.int (x : Int))]) (i := 1) 4 (by decide) rfl st hS
    exact ⟨v, st', h2, h3⟩
  obtain ⟨part, hpart, ep⟩ := c_white (by omega) T.2.2 out st3
  obtain ⟨all, hall, ea⟩ := c_white (by omega) T.2.2 [] st3
  obtain ⟨lot, st4, S4, hlot, el⟩ := c_lot2 n (by omega) S3
  obtain ⟨st5, S5, e5⟩ := lw_loop T hn ns (.sh (.int (k : Int))) (.sh (.lst (nts out))) (.sh (.lst (nts part))) [all, part, lot, []] st4 S4 fun l hl => by
    simp only [List.mem_cons, List.not_mem_nil, or_false] at hl
    rcases hl with rfl | rfl | rfl | rfl
    · exact hall
    · exact hpart
    · exact hlot
    · exact nil_lot n
  obtain ⟨st6, S6, e6⟩ := c_refusals (ls := ls) (n := n) (by omega) S5
  have nil0 : ∀ env st, lstE nilA env st = .ok (.lst (nts [])) st := fun env st => lst_ok (ps := []) rfl (by simp)
  refine ⟨st6, sem_ok (env1 := vE' ns (.sh (.int (k : Int))) (.sh (tb n ls)) (.sh (.lst (nts out))) (.sh (.lst (nts part))) .dead (.sh (.int (n : Int))) (.sh (.lst (lines ls)))) ?_ (fun h => by cases h)⟩
  rw [law_eq]
  have f1 : callE fi__law_stream [] (consA (vE 0) nilA) (env0 [.val] [.scr ns] 10) .non = .ok st0 .non := call_ok (ps := [.scr ns]) (st1 := .non) rfl e0
  refine seq_nx (setO_ok f1) ?_
  show lwR (vE' ns .dead .dead .dead .dead .dead .dead .dead) st0 = _
  have f3 : makeE "Table" fi_Table_init [] (consA (vE 7) (consA (biE listP (consA (vR 8) nilA)) nilA)) (vE' ns (.sh (.int (k : Int))) .dead .dead .dead .dead (.sh (.int (n : Int))) (.sh (.lst (lines ls)))) st2 = .ok (tb n ls) st2 :=
    make_ok (ps := [.int (n : Int), .lst (lines ls)]) (cons_ok (p := .int (n : Int)) rfl (one_ok (bi_ok (one_ok (p := .lst (lines ls)) rfl) rfl))) eT
  have f4 : lwO (vE' ns (.sh (.int (k : Int))) (.sh (tb n ls)) .dead .dead .dead (.sh (.int (n : Int))) (.sh (.lst (lines ls)))) st2 = .ok (.lst (nts out)) st3 :=
    lc_ok (rng_ok (one_ok (p := .int (n : Int)) rfl) (rngP_nat (by omega))) rfl (by rw [len_rng]; omega) q3
  have f5 : callE fi__law_white_without [] (consA (vE 8) (consA (vE 7) (consA (vE 4) nilA))) (vE' ns (.sh (.int (k : Int))) (.sh (tb n ls)) (.sh (.lst (nts out))) .dead .dead (.sh (.int (n : Int))) (.sh (.lst (lines ls)))) st3 = .ok (.lst (nts part)) st3 :=
    call_ok (ps := [.lst (lines ls), .int (n : Int), .lst (nts out)]) (st1 := st3) rfl ep
  have f6 : lwL (vE' ns (.sh (.int (k : Int))) (.sh (tb n ls)) (.sh (.lst (nts out))) (.sh (.lst (nts part))) .dead (.sh (.int (n : Int))) (.sh (.lst (lines ls)))) st3 = .ok (.lst ([all, part, lot, []].map fun lot => PV.lst (nts lot))) st4 := by
    refine lst_ok (ps := [.lst (nts all), .lst (nts part), .lst (nts lot), .lst (nts [])]) (cons_ok (st1 := st3) (call_ok (cons_ok (p := .lst (lines ls)) (st1 := st3) rfl (cons_ok (p := .int (n : Int)) (st1 := st3) rfl (one_ok (nil0 _ _)))) ea) (cons_ok (p := .lst (nts part)) (st1 := st3) rfl (cons_ok (call_ok (ps := [.non, .int (n : Int)]) (st1 := st3) rfl el) (one_ok (nil0 _ _))))) s4
  have f7 : callE fi__law_refusals_kept [] (consA (mtA 1) (consA (vE 3) (consA (vE 7) nilA))) (vE' ns (.sh (.int (k : Int))) (.sh (tb n ls)) (.sh (.lst (nts out))) (.sh (.lst (nts part))) .dead (.sh (.int (n : Int))) (.sh (.lst (lines ls)))) st5 = .ok (.bl true) st6 :=
    call_ok (ps := [.non, tb n ls, .int (n : Int)]) (st1 := st5) rfl e6
  have f8 : cmpE eqP (biE listP (consA (fldE ["Table"] "lines" (vR 3)) nilA)) (vR 8) (vE' ns (.sh (.int (k : Int))) (.sh (tb n ls)) (.sh (.lst (nts out))) (.sh (.lst (nts part))) .dead (.sh (.int (n : Int))) (.sh (.lst (lines ls)))) st6 = .ok (.bl true) st6 :=
    cmpE_ok (a := .lst (lines ls)) (b := .lst (lines ls)) (bi_ok (one_ok (fldE_ok (p := tb n ls) rfl (fld_lines n ls))) rfl) rfl (eq_lines T.2.2)
  refine seq_nx (set_ok a3) (seq_nx e2 (seq_nx (set_ok f3) (seq_nx (setO_ok f4) ?_)))
  exact seq_nx (set_ok f5) (seq_nx (for_ok (seqA_ok f6 rfl) e5) (if_skip (not_ok f7) (seq_ret (ret_ok f8))))
end KI.K13

/-! part R13 -/
set_option Elab.async false
set_option linter.all false
set_option maxRecDepth 100000
set_option maxHeartbeats 0
namespace KI.K13
open PySem PySem.Spec PySem.Calls PyProof.Rows L2 KI HandSHeadRun PySem.W
noncomputable abbrev Run (w : World) : Option (Shared × SharedT) := wholeF (fun p => stepQ (denQ tabQ) p w) fenceQ 7000 R.prog
theorem run1 (w : World) : (Run w).map (fun x => looksF R.prog x.1.heap x.2.abs) = some true := by kernel_rfl
theorem run2 (w : World) : (Run w).map (fun x => seenQ (PySem.W.view R.prog [79]) loose (importedModules R.prog.main.body) (fun s => xlAt (PySem.W.view R.prog [79]) [] s && recOk R.toRowW.records s) x.2.abs) = some (openGood (PySem.W.view R.prog [79]) loose) := by kernel_rfl
theorem run3 (w : World) : (Run w).map (fun x => (ob x.2).1) = some (He.valD fn) := by kernel_rfl
theorem run4 (w : World) : (Run w).map (fun x => (ob x.2).2) = some (true, xs.map XD.val) := by kernel_rfl
theorem run (w : World) : RunEqI R (PySem.W.view R.prog [79]) hk ob 7000 loose w :=
  map_pair (run1 w) (map_pair (run2 w) (map_pair (run3 w) (run4 w)))
end KI.K13

/-! part A13 -/
set_option Elab.async false
set_option linter.all false
set_option maxRecDepth 100000
set_option maxHeartbeats 0
open PySem PySem.W PySem.Calls PyProof.Rows
theorem KI.K13.law_sp {K : PySem.W.Frag} {H : L2.Hp} {a : Addr} {ns : List Int} (hn : ns.length ≤ 63) (hS : L2.SqL K H a (ns.map L2.V.int)) : KI.spOf K KI.K13.fi_law [.ref a] H (fun v _ => v = .bl true) fun _ _ _ => False := by
  obtain ⟨st, h⟩ := KI.K13.law_true ns hn
  refine ⟨H, [.scr ns], .non, none, L2.Same.refl H, fun _ => rfl, ⟨.scr ns, [], .ref a, [], rfl, rfl, ⟨a, rfl, hS⟩, rfl, rfl⟩, ?_⟩
  rw [h]
  intro v F' H' _ r
  exact r
theorem PySem.Challenge.cw_knowninside_k13_whole_small_weights_holds : PySem.Challenge.rw_knowninside_k13_whole_small_weights.Holds := by
  w_on; o_law
  refine HandSHeadRun.head_imp (r := OpenLaw.row PySem.Challenge.rw_knowninside_k13_whole_small_weights) (q := view (OpenLaw.row PySem.Challenge.rw_knowninside_k13_whole_small_weights).prog [79]) (H := KI.K13.hk) (ob := KI.K13.ob) (M := 7000) (loose := KI.K13.loose) (d := HandSHeadRun.topDef (OpenLaw.row PySem.Challenge.rw_knowninside_k13_whole_small_weights).prog 79) (kwd := []) KI.K13.ob_eq KI.K13.run (by kernel_rfl) (by kernel_rfl) (by kernel_rfl) (by rfl) (by first | assumption | decide +kernel) (by decide +kernel) ⟨rfl, rfl, rfl, rfl, rfl, by decide +kernel⟩ ?hw ?hc
  case hw => w_witness2
  case hc =>
    refine LamX.walk_ofTsE (l := PySem.Challenge.rw_knowninside_k13_whole_small_weights) (n := 63) (k := 11) (x := "script") (CX := fun w => L2.CX (PySem.Challenge.rw_knowninside_k13_whole_small_weights).prog w) rfl (by decide) (by kernel_rfl) ⟨rfl, by decide, by decide⟩ ?F ?CX
    case CX =>
      intro w H s e s' h
      obtain ⟨_, _, _, _, _, _, _, _, _, _, _, _, h⟩ := h
      exact h
    case F =>
      intro w mg fa h Y G hmg0
      obtain ⟨K, KX, c⟩ := Y
      have hmg : mg ("law" : PySem.Str) = some (.ref fa) := by
        have e : (HandSHeadRun.topDef (OpenLaw.row PySem.Challenge.rw_knowninside_k13_whole_small_weights).prog 79).name = ("law" : PySem.Str) := by kernel_rfl
        rw [← e]
        exact hmg0
      have e := hmg.symm.trans (He.glo_ok KX G (KI.SaysQ.d c |>.fact 61 (f := .glo "law") rfl))
      cases e
      obtain ⟨fd, hb, hF⟩ := KI.K13.law_ok (w := w) KX G c
      exact ⟨K, KX, fd, [], KI.spOf K KI.K13.fi_law, (fun p hp => by cases hp), (fun p hp => by cases hp), (fun p hp => by cases hp), hb, (fun H a ns hl _ _ hS => KI.K13.law_sp hl hS), fun base _ _ _ => hF base⟩

